import PyProof.Rows.All
import Wide.All
import OpenK.AllK
import Wide.FinOn
import HandS.ForMost
import HandS.IsInst
import HandS.Deep
import HandS.TupAny
import HandS.TupMul
import HandS.TupLe
import HandS.Strs
import HandS.Conv
import HandS.More
import HandS.Flow
import HandS.Style
import HandS.Wide
import HandS.WordsExc
import HandS.RaiseMore
import HandS.Lambda
import HandS.EndTab
import KE.KSortTupG
import KE.KDflt
import HandS.SortRule
import KE.LtData
import KE.KAssignIn
import KE.KDictPairs
import HandS.Small
import KE.KExcSuper
import HandS.ExcInit
import HandS.ExcIs
import HandS.ExcField
import KE.KExcIs
import HandS.Text
import HandS.EndOwn
import KE.KNestM
import PySem.Challenge.RW_windowbelt_k04_whole_designs
import HandS.ForExc
set_option Elab.async false
set_option linter.all false
set_option maxRecDepth 100000
set_option maxHeartbeats 4000000
/-! A layer over the hand layer: plain data, and trees of objects that change. -/
namespace Dl
open PySem L2

/-- a place in a tree -/
abbrev Pth := List Nat
inductive D where
  /-- data made by the program -/
  | d (x : PyData)
  /-- a value as it is -/
  | o (v : V)
  /-- data that the module has written -/
  | kt (x : PyData)
  /-- an object as it stands -/
  | ob (u : HO)
  /-- the object at a place of a tree -/
  | r (n : Nat) (p : Pth)
  /-- a tuple, a list that nobody changes, of anything -/
  | tp (ds : List D)
  | ls (ds : List D)
  /-- a lambda by its number -/
  | cl (k : Nat)
  /-- the exception that is handled -/
  | xn (c : Str) (x : Option (Str × PyData))
  /-- the script -/
  | sc (ns : List Int)
  /-- nothing is known -/
  | un

/-! a value stands for data: lists are objects of ours, tuples are ours or the module has them -/
mutual
inductive Dq (K : PySem.W.Frag) (H : Hp) : V → PyData → Prop
  | non : Dq K H .non .none
  | bl (b : Bool) : Dq K H (.bl b) (.bool b)
  | int (i : Int) : Dq K H (.int i) (.int i)
  | str (x : Str) : Dq K H (.str x) (.str x)
  | lst {a : Addr} {xs : List V} {ds : List PyData} : H a = some (.lst xs) → DqA K H xs ds → Dq K H (.ref a) (.list ds)
  | tup {a : Addr} {xs : List V} {ds : List PyData} : H a = some (.tup xs) → DqA K H xs ds → Dq K H (.ref a) (.tuple ds)
inductive DqA (K : PySem.W.Frag) (H : Hp) : List V → List PyData → Prop
  | nil : DqA K H [] []
  | cons {v : V} {vs : List V} {d : PyData} {ds : List PyData} : Dq K H v d → DqA K H vs ds → DqA K H (v :: vs) (d :: ds)
end
mutual
theorem dq_dp {K : PySem.W.Frag} {H : Hp} : ∀ {v : V} {d : PyData}, Dq K H v d → Dp K H v d
  | _, _, .non => .non
  | _, _, .bl b => .bl b
  | _, _, .int i => .int i
  | _, _, .str x => .str x
  | _, _, .lst h t => .lst (SqL.of h) (dqa_dpa t)
  | _, _, .tup h t => .tup (SqT.of h) (dqa_dpa t)
theorem dqa_dpa {K : PySem.W.Frag} {H : Hp} : ∀ {v : List V} {d : List PyData}, DqA K H v d → DpAll K H v d
  | _, _, .nil => .nil
  | _, _, .cons h t => .cons (dq_dp h) (dqa_dpa t)
end
/-- what may be leaned on: the objects that nobody changes, where the trees' objects stand, what a lambda is, the handled exception -/
structure Vw where
  h : Hp
  w : Nat → Pth → Option Addr
  c : Nat → V → Prop
  x : Str → Option (Str × PyData) → V → Prop
structure VLe (a b : Vw) : Prop where
  h : Same a.h b.h
  w : ∀ n p x, a.w n p = some x → b.w n p = some x
  c : ∀ k v, a.c k v → b.c k v
  x : ∀ c y v, a.x c y v → b.x c y v
theorem VLe.refl (a : Vw) : VLe a a := ⟨fun _ _ e => e, fun _ _ _ e => e, fun _ _ e => e, fun _ _ _ e => e⟩
theorem VLe.trans {a b c : Vw} (x : VLe a b) (y : VLe b c) : VLe a c := ⟨fun q o e => y.h q o (x.h q o e), fun n p q e => y.w n p q (x.w n p q e), fun k v e => y.c k v (x.c k v e), fun c z v q => y.x c z v (x.x c z v q)⟩
mutual
def Rp (K : PySem.W.Frag) (H : Vw) : D → V → Prop
  | .d x, v => Dq K H.h v x
  | .o w, v => v = w
  | .kt x, v => Dp K (fun _ => none) v x
  | .ob u, v => ∃ a, v = .ref a ∧ H.h a = some u
  | .r n p, v => ∃ a, v = .ref a ∧ H.w n p = some a
  | .tp ds, v => ∃ a xs, v = .ref a ∧ H.h a = some (.tup xs) ∧ RpA K H ds xs
  | .ls ds, v => ∃ a xs, v = .ref a ∧ H.h a = some (.lst xs) ∧ RpA K H ds xs
  | .cl k, v => H.c k v
  | .xn c y, v => H.x c y v
  | .sc ns, v => ∃ a, v = .ref a ∧ SqL K H.h a (ns.map V.int) ∧ ns.length ≤ 63
  | .un, _ => True
def RpA (K : PySem.W.Frag) (H : Vw) : List D → List V → Prop
  | [], vs => vs = []
  | d :: ds, vs => ∃ v us, vs = v :: us ∧ Rp K H d v ∧ RpA K H ds us
end
theorem rd_same {H H' : Hp} {a : Addr} {u : HO} (e : Same H H') (h : Rd H a u) : Rd H' a u := by
  rcases h with h | ⟨o, h⟩
  · exact Or.inl (e a _ h)
  · exact Or.inr ⟨o, e a _ h⟩
theorem sqt_same {K : PySem.W.Frag} {H H' : Hp} {a : Addr} {xs : List V} (e : Same H H') (h : SqT K H a xs) : SqT K H' a xs := by
  rcases h with h | h
  · exact Or.inl (rd_same e h)
  · exact Or.inr h
theorem sql_same {K : PySem.W.Frag} {H H' : Hp} {a : Addr} {xs : List V} (e : Same H H') (h : SqL K H a xs) : SqL K H' a xs := by
  rcases h with h | h
  · exact Or.inl (rd_same e h)
  · exact Or.inr h
mutual
theorem dp_same {K : PySem.W.Frag} {H H' : Hp} (e : Same H H') : ∀ {v : V} {d : PyData}, Dq K H v d → Dq K H' v d
  | _, _, .non => .non
  | _, _, .bl b => .bl b
  | _, _, .int i => .int i
  | _, _, .str x => .str x
  | _, _, .lst h t => .lst (e _ _ h) (dpa_same e t)
  | _, _, .tup h t => .tup (e _ _ h) (dpa_same e t)
theorem dpa_same {K : PySem.W.Frag} {H H' : Hp} (e : Same H H') : ∀ {v : List V} {d : List PyData}, DqA K H v d → DqA K H' v d
  | _, _, .nil => .nil
  | _, _, .cons h t => .cons (dp_same e h) (dpa_same e t)
end
mutual
theorem rp_same {K : PySem.W.Frag} {H H' : Vw} (e : VLe H H') : ∀ {d : D} {v : V}, Rp K H d v → Rp K H' d v
  | .d x, _, h => dp_same e.h h
  | .o w, _, h => h
  | .kt x, _, h => h
  | .ob u, _, ⟨a, h1, h2⟩ => ⟨a, h1, e.h _ _ h2⟩
  | .r n p, _, ⟨a, h1, h2⟩ => ⟨a, h1, e.w _ _ _ h2⟩
  | .tp ds, _, ⟨a, xs, h1, h2, h3⟩ => ⟨a, xs, h1, e.h _ _ h2, rpa_same e h3⟩
  | .ls ds, _, ⟨a, xs, h1, h2, h3⟩ => ⟨a, xs, h1, e.h _ _ h2, rpa_same e h3⟩
  | .cl k, _, h => e.c _ _ h
  | .xn _ _, _, h => e.x _ _ _ h
  | .sc ns, _, ⟨a, h1, h2, h3⟩ => ⟨a, h1, sql_same e.h h2, h3⟩
  | .un, _, h => h
theorem rpa_same {K : PySem.W.Frag} {H H' : Vw} (e : VLe H H') : ∀ {ds : List D} {vs : List V}, RpA K H ds vs → RpA K H' ds vs
  | [], _, h => h
  | _ :: _, _, ⟨v, us, h1, h2, h3⟩ => ⟨v, us, h1, rp_same e h2, rpa_same e h3⟩
end
theorem dpa_len {K : PySem.W.Frag} {H : Hp} : ∀ {vs : List V} {ds : List PyData}, DqA K H vs ds → vs.length = ds.length
  | _, _, .nil => rfl
  | _, _, .cons _ t => by rw [List.length_cons, List.length_cons, dpa_len t]
inductive RpL (K : PySem.W.Frag) (H : Vw) : List D → List V → Prop
  | nil : RpL K H [] []
  | cons {d : D} {v : V} {ds : List D} {vs : List V} : Rp K H d v → RpL K H ds vs → RpL K H (d :: ds) (v :: vs)
theorem rpa_of {K : PySem.W.Frag} {H : Vw} : ∀ {ds : List D} {vs : List V}, RpL K H ds vs → RpA K H ds vs
  | _, _, .nil => rfl
  | _, _, .cons h t => ⟨_, _, rfl, h, rpa_of t⟩
theorem rpl_ofA {K : PySem.W.Frag} {H : Vw} : ∀ {ds : List D} {vs : List V}, RpA K H ds vs → RpL K H ds vs
  | [], _, h => by
    have h : _ = ([] : List V) := h
    subst h
    exact .nil
  | _ :: _, _, h => by
    obtain ⟨v, us, rfl, h2, h3⟩ := h
    exact .cons h2 (rpl_ofA h3)
theorem rpl_same {K : PySem.W.Frag} {H H' : Vw} (e : VLe H H') : ∀ {ds : List D} {vs : List V}, RpL K H ds vs → RpL K H' ds vs
  | _, _, .nil => .nil
  | _, _, .cons h t => .cons (rp_same e h) (rpl_same e t)
theorem rpl_len {K : PySem.W.Frag} {H : Vw} : ∀ {ds : List D} {vs : List V}, RpL K H ds vs → vs.length = ds.length
  | _, _, .nil => rfl
  | _, _, .cons _ t => by rw [List.length_cons, List.length_cons, rpl_len t]
def pdL : List D → Option (List PyData)
  | [] => some []
  | .d x :: r => (pdL r).map (x :: ·)
  | _ :: _ => none
theorem rpl_pd {K : PySem.W.Frag} {H : Vw} : ∀ {ds : List D} {vs : List V} {xs : List PyData}, RpL K H ds vs → pdL ds = some xs → DqA K H.h vs xs
  | _, _, _, .nil, h => by cases h; exact .nil
  | .d x :: r, v :: vs, _, .cons h t, e => by
    unfold pdL at e
    cases q : pdL r with
    | none => rw [q] at e; cases e
    | some ys =>
      rw [q] at e
      cases e
      exact .cons h (rpl_pd t q)
  | .o _ :: r, v :: vs, _, .cons h t, e => by cases e
  | .kt _ :: r, v :: vs, _, .cons h t, e => by cases e
  | .ob _ :: r, v :: vs, _, .cons h t, e => by cases e
  | .r _ _ :: r, v :: vs, _, .cons h t, e => by cases e
  | .tp _ :: r, v :: vs, _, .cons h t, e => by cases e
  | .ls _ :: r, v :: vs, _, .cons h t, e => by cases e
  | .cl _ :: r, v :: vs, _, .cons h t, e => by cases e
  | .xn _ _ :: r, v :: vs, _, .cons h t, e => by cases e
  | .sc _ :: r, v :: vs, _, .cons h t, e => by cases e
  | .un :: r, v :: vs, _, .cons h t, e => by cases e
theorem rpl_of {K : PySem.W.Frag} {H : Vw} : ∀ {xs : List PyData} {vs : List V}, DqA K H.h vs xs → RpL K H (xs.map D.d) vs
  | _, _, .nil => .nil
  | _, _, .cons h t => .cons h (rpl_of t)
theorem rpl_get {K : PySem.W.Frag} {H : Vw} : ∀ {ds : List D} {vs : List V} {i : Nat} {d : D}, RpL K H ds vs → ds[i]? = some d → ∃ v, vs[i]? = some v ∧ Rp K H d v
  | _, _, _, _, .nil, e => by simp at e
  | _, _, 0, _, .cons r _, e => by simp at e; subst e; exact ⟨_, rfl, r⟩
  | _, _, i + 1, d, .cons _ t, e => by
    obtain ⟨u, h1, h2⟩ := rpl_get (i := i) (d := d) t (by simpa using e)
    exact ⟨u, by simpa using h1, h2⟩
theorem rpl_get' {K : PySem.W.Frag} {H : Vw} : ∀ {ds : List D} {vs : List V} {i : Nat} {v : V}, RpL K H ds vs → vs[i]? = some v → ∃ d, ds[i]? = some d ∧ Rp K H d v
  | _, _, _, _, .nil, e => by simp at e
  | _, _, 0, _, .cons r _, e => by simp at e; subst e; exact ⟨_, rfl, r⟩
  | _, _, i + 1, d, .cons _ t, e => by
    obtain ⟨u, h1, h2⟩ := rpl_get' (i := i) (v := d) t (by simpa using e)
    exact ⟨u, by simpa using h1, h2⟩
theorem rpl_app {K : PySem.W.Frag} {H : Vw} : ∀ {ds es : List D} {vs us : List V}, RpL K H ds vs → RpL K H es us → RpL K H (ds ++ es) (vs ++ us)
  | _, _, _, _, .nil, h => h
  | _, _, _, _, .cons h t, q => .cons h (rpl_app t q)
theorem dpa_app {K : PySem.W.Frag} {H : Hp} : ∀ {ds es : List PyData} {vs us : List V}, DqA K H vs ds → DqA K H us es → DqA K H (vs ++ us) (ds ++ es)
  | _, _, _, _, .nil, h => h
  | _, _, _, _, .cons h t, q => .cons h (dpa_app t q)

/-! ### environments -/
abbrev Env := List (Option D)
structure RE (K : PySem.W.Frag) (H : Vw) (env : Env) (σ : L2.St) : Prop where
  len : env.length = σ.length
  at_ : ∀ (i : Nat) (d : D), env[i]? = some (some d) → ∃ v, σ[i]? = some (some v) ∧ Rp K H d v
theorem RE.same {K : PySem.W.Frag} {H H' : Vw} {env : Env} {σ : L2.St} (r : RE K H env σ) (e : VLe H H') : RE K H' env σ :=
  ⟨r.len, fun i d h => let ⟨v, a, b⟩ := r.at_ i d h; ⟨v, a, rp_same e b⟩⟩
theorem RE.set {K : PySem.W.Frag} {H : Vw} {env : Env} {σ : L2.St} (r : RE K H env σ) {i : Nat} {d : D} {v : V} (h : Rp K H d v) : RE K H (env.set i (some d)) (σ.set i (some v)) := by
  refine ⟨by rw [List.length_set, List.length_set]; exact r.len, fun j e q => ?_⟩
  by_cases hj : j = i
  · subst hj
    have hl : j < env.length := by
      have := (List.getElem?_eq_some_iff.mp q).1
      rw [List.length_set] at this
      exact this
    rw [List.getElem?_set_self hl] at q
    cases q
    exact ⟨v, List.getElem?_set_self (by rw [← r.len]; exact hl), h⟩
  · rw [List.getElem?_set_ne (Ne.symm hj)] at q ⊢
    exact r.at_ j e q
def wipeE (env : Env) : List Nat → Env
  | [] => env
  | i :: r => (wipeE env r).set i none
theorem RE.unset {K : PySem.W.Frag} {H : Vw} {env : Env} {σ : L2.St} (r : RE K H env σ) (i : Nat) : RE K H (env.set i none) (σ.set i none) := by
  refine ⟨by rw [List.length_set, List.length_set]; exact r.len, fun j e q => ?_⟩
  by_cases hj : j = i
  · subst hj
    have hl : j < env.length := by
      have := (List.getElem?_eq_some_iff.mp q).1
      rw [List.length_set] at this
      exact this
    rw [List.getElem?_set_self hl] at q
    cases q
  · rw [List.getElem?_set_ne (Ne.symm hj)] at q ⊢
    exact r.at_ j e q

/-! ### trees of objects that change -/
mutual
/-- above all trees' numbers in it -/
def top : D → Nat
  | .r n _ => n + 1
  | .tp ds => topL ds
  | .ls ds => topL ds
  | .xn _ _ => 1
  | _ => 0
def topL : List D → Nat
  | [] => 0
  | d :: ds => max (top d) (topL ds)
end
inductive Kd where
  | lst
  | dic (ks : List Str)
  | ins (c : Str) (ks : List Str)
  | dct (ks : List (List Key))
  deriving DecidableEq
inductive Tr where
  | v (d : D)
  | nd (k : Kd) (ts : List Tr)
/-- the trees: those that are no more are none -/
abbrev Ts := List (Option Tr)
def Tr.get : Tr → Pth → Option Tr
  | t, [] => some t
  | .v _, _ :: _ => none
  | .nd _ ts, j :: p => match ts[j]? with
    | some t => t.get p
    | none => none
def getT (t : Ts) (n : Nat) (p : Pth) : Option Tr := match t[n]? with
  | some (some T) => T.get p
  | _ => none
/-- NT: no tuple, none of the foreign ones -/
def NT (o : HO) : Prop := (∀ xs, o ≠ .tup xs) ∧ ∀ φ, o ≠ .ext φ
/-- what is fixed: the module's names, tables of code objects, what lambdas are, the handled exception -/
structure SI where
  mg : Str → Option Value
  T : List (Addr × Str)
  C : Hp → Nat → V → Prop
  cs : ∀ {H H' : Hp} {k : Nat} {v : V}, Same H H' → C H k v → C H' k v
  X : Hp → Str → Option (Str × PyData) → V → Prop
  xs : ∀ {H H' : Hp} {c : Str} {y : Option (Str × PyData)} {v : V}, Same H H' → X H c y v → X H' c y v
  w0 : Nat → Pth → Option (Addr × Addr)
/-- the state: trees, where their objects stand (its own dict, for an instance), and what is kept besides -/
structure St1 where
  t : Ts
  w : Nat → Pth → Option (Addr × Addr)
  Z : Hp
abbrev SI.S (_ : SI) := St1
def Kd.isIns : Kd → Bool
  | .ins _ _ => true
  | _ => false
/-- b is where an object of a tree stands, or its dict -/
def Adr (s : St1) (b : Addr) : Prop := ∃ n p k ts a dx, getT s.t n p = some (.nd k ts) ∧ s.w n p = some (a, dx) ∧ (b = a ∨ (k.isIns = true ∧ b = dx))
def SI.M (I : SI) (s : St1) (b : Addr) : Prop := Adr s b ∨ (∃ o, s.Z b = some o) ∨ ∃ q ∈ I.T, q.1 = b
open Classical in
noncomputable def Hr (I : SI) (s : St1) (H : Hp) : Vw where
  h := fun a => if I.M s a then none else H a
  w := fun n p => (s.w n p).map (·.1)
  c := fun k v => I.C (fun a => if I.M s a then none else H a) k v
  x := fun c y v => I.X (fun a => if I.M s a then none else H a) c y v
def Ch (K : PySem.W.Frag) (vw : Vw) (n : Nat) (p : Pth) (j : Nat) : Tr → V → Prop
  | .v d, v => Rp K vw d v ∧ top d = 0
  | .nd _ _, v => ∃ a, vw.w n (p ++ [j]) = some a ∧ v = .ref a
inductive Chs (K : PySem.W.Frag) (vw : Vw) (n : Nat) (p : Pth) : Nat → List Tr → List V → Prop
  | nil {j : Nat} : Chs K vw n p j [] []
  | cons {j : Nat} {t : Tr} {ts : List Tr} {v : V} {vs : List V} : Ch K vw n p j t v → Chs K vw n p (j + 1) ts vs → Chs K vw n p j (t :: ts) (v :: vs)
def Holds (mg : Str → Option Value) (H : Hp) (a dx : Addr) (vs : List V) : Kd → Prop
  | .lst => H a = some (.lst vs)
  | .dic ks => ks.length = vs.length ∧ ks.Nodup ∧ H a = some (.dK ((ks.map Sum.inr).zip vs))
  | .ins c ks => ks.length = vs.length ∧ ks.Nodup ∧ ∃ C, mg c = some (.ref C) ∧ H a = some (.ins C dx (ks.zip vs)) ∧ H dx = some (.own a)
  | .dct ks => ks.length = vs.length ∧ ks.Nodup ∧ H a = some (.dT (ks.zip vs))
structure SI.ok (I : SI) (K : PySem.W.Frag) (s : St1) (H : Hp) : Prop where
  nod : ∀ n p k ts, getT s.t n p = some (.nd k ts) → ∃ a dx vs, s.w n p = some (a, dx) ∧ s.Z a = none ∧ (k.isIns = true → s.Z dx = none) ∧ Chs K (Hr I s H) n p 0 ts vs ∧ Holds I.mg H a dx vs k
  inj : ∀ n p k ts n' p' k' ts' a dx dx', getT s.t n p = some (.nd k ts) → getT s.t n' p' = some (.nd k' ts') → s.w n p = some (a, dx) → s.w n' p' = some (a, dx') → n = n' ∧ p = p'
  dom : ∀ n p x, s.w n p = some x → n < s.t.length ∧ ∀ T, s.t[n]? = some (some T) → ∃ k ts, T.get p = some (.nd k ts)
  z : ∀ a o, s.Z a = some o → H a = some o ∧ NT o ∧ ∀ ps, o ≠ .tbl ps
  tab : LamX.Tabs I.T H
  fl : ∀ n p x, I.w0 n p = some x → s.w n p = some x
end Dl
set_option maxRecDepth 100000
set_option maxHeartbeats 4000000
namespace Dl
open PySem L2

section
variable {I : SI} {K : PySem.W.Frag} {s s' s'' : St1} {H H' H'' : Hp}
theorem hr_of {a : Addr} {o : HO} (h : (Hr I s H).h a = some o) : H a = some o ∧ ¬ I.M s a := by
  unfold Hr at h
  dsimp only at h
  by_cases m : I.M s a
  · rw [if_pos m] at h; cases h
  · rw [if_neg m] at h; exact ⟨h, m⟩
theorem hr_in {a : Addr} {o : HO} (h : H a = some o) (m : ¬ I.M s a) : (Hr I s H).h a = some o := by
  unfold Hr
  dsimp only
  rw [if_neg m]
  exact h
theorem hr_sub : Same (Hr I s H).h H := fun _ _ h => (hr_of h).1
theorem hr_h {a : Addr} (m : ¬ I.M s a) : (Hr I s H).h a = H a := by
  unfold Hr
  exact if_neg m
theorem vle_of (h : Same (Hr I s H).h (Hr I s' H').h) (w : ∀ n p x, s.w n p = some x → s'.w n p = some x) : VLe (Hr I s H) (Hr I s' H') :=
  ⟨h, fun n p x e => by
    have e : (s.w n p).map (·.1) = some x := e
    cases q : s.w n p with
    | none => rw [q] at e; cases e
    | some y =>
      rw [q] at e
      show (s'.w n p).map (·.1) = some x
      rw [w n p y q]
      exact e, fun k v e => I.cs h e, fun c y v e => I.xs h e⟩
theorem hr_up (e : Same H H') : VLe (Hr I s H) (Hr I s H') := vle_of (fun a o h => by
  obtain ⟨h1, h2⟩ := hr_of h
  exact hr_in (e a o h1) h2) fun _ _ _ e => e
theorem chs_same {A B : Vw} (e : VLe A B) {n : Nat} {p : Pth} : ∀ {j : Nat} {ts : List Tr} {vs : List V}, Chs K A n p j ts vs → Chs K B n p j ts vs
  | _, _, _, .nil => .nil
  | _, .v d :: _, _, .cons h t => .cons ⟨rp_same (d := d) e h.1, h.2⟩ (chs_same e t)
  | _, .nd _ _ :: _, _, .cons ⟨a, h1, h2⟩ t => .cons ⟨a, e.w _ _ _ h1, h2⟩ (chs_same e t)
theorem chs_len {A : Vw} {n : Nat} {p : Pth} : ∀ {j : Nat} {ts : List Tr} {vs : List V}, Chs K A n p j ts vs → vs.length = ts.length
  | _, _, _, .nil => rfl
  | _, _, _, .cons _ t => by rw [List.length_cons, List.length_cons, chs_len t]
theorem holds_same {mg : Str → Option Value} {a dx : Addr} {vs : List V} {k : Kd} (e : ∀ o, H a = some o → H' a = some o) (e2 : k.isIns = true → ∀ o, H dx = some o → H' dx = some o) (h : Holds mg H a dx vs k) : Holds mg H' a dx vs k := by
  cases k with
  | lst => exact e _ h
  | dic ks => exact ⟨h.1, h.2.1, e _ h.2.2⟩
  | ins c ks => obtain ⟨h1, h2, C, h3, h4, h5⟩ := h; exact ⟨h1, h2, C, h3, e _ h4, e2 rfl _ h5⟩
  | dct ks => exact ⟨h.1, h.2.1, e _ h.2.2⟩
/-- what stands at an object's place -/
theorem holds_at {mg : Str → Option Value} {a dx : Addr} {vs : List V} {k : Kd} (h : Holds mg H a dx vs k) : ∃ o, H a = some o ∧ NT o ∧ (∀ x, o ≠ .own x) ∧ ∀ ps, o ≠ .tbl ps := by
  cases k with
  | lst => exact ⟨_, h, ⟨(fun _ e => nomatch e), (fun _ e => nomatch e)⟩, (fun _ e => nomatch e), (fun _ e => nomatch e)⟩
  | dic ks => exact ⟨_, h.2.2, ⟨(fun _ e => nomatch e), (fun _ e => nomatch e)⟩, (fun _ e => nomatch e), (fun _ e => nomatch e)⟩
  | ins c ks => obtain ⟨h1, h2, C, h3, h4, h5⟩ := h; exact ⟨_, h4, ⟨(fun _ e => nomatch e), (fun _ e => nomatch e)⟩, (fun _ e => nomatch e), (fun _ e => nomatch e)⟩
  | dct ks => exact ⟨_, h.2.2, ⟨(fun _ e => nomatch e), (fun _ e => nomatch e)⟩, (fun _ e => nomatch e), (fun _ e => nomatch e)⟩
theorem holds_dx {mg : Str → Option Value} {a dx : Addr} {vs : List V} {k : Kd} (h : Holds mg H a dx vs k) (hi : k.isIns = true) : H dx = some (.own a) := by
  cases k with
  | ins c ks => obtain ⟨h1, h2, C, h3, h4, h5⟩ := h; exact h5
  | lst => cases hi
  | dic ks => cases hi
  | dct ks => cases hi
theorem SI.nt (h : I.ok K s H) {a : Addr} (m : I.M s a) : ∃ o, H a = some o ∧ NT o := by
  rcases m with ⟨n, p, k, ts, b, dx, h1, h2, h3⟩ | ⟨o, m⟩ | ⟨q, hq, e⟩
  · obtain ⟨b', dx', vs, e1, _, _, _, e2⟩ := h.nod n p k ts h1
    rw [h2] at e1
    cases e1
    rcases h3 with h3 | ⟨h3, h4⟩
    · subst h3
      obtain ⟨o, y, z, _⟩ := holds_at e2
      exact ⟨o, y, z⟩
    · subst h4
      exact ⟨_, holds_dx e2 h3, (fun _ e => nomatch e), (fun _ e => nomatch e)⟩
  · exact ⟨o, (h.z a o m).1, (h.z a o m).2.1⟩
  · obtain ⟨ps, z, _⟩ := h.tab q hq
    exact ⟨_, (congrArg H e.symm).trans z, (fun _ e => nomatch e), (fun _ e => nomatch e)⟩
theorem SI.al (h : I.ok K s H) {a : Addr} (m : I.M s a) : ∃ o, H a = some o := let ⟨o, e, _⟩ := SI.nt h m; ⟨o, e⟩
theorem SI.stay (h : I.ok K s H) (e : Same H H') : I.ok K s H' :=
  ⟨fun n p k ts q => by
    obtain ⟨a, dx, vs, h1, h2, h3, h4, h5⟩ := h.nod n p k ts q
    exact ⟨a, dx, vs, h1, h2, h3, chs_same (hr_up e) h4, holds_same (fun o z => e _ _ z) (fun _ o z => e _ _ z) h5⟩,
   h.inj, h.dom, fun a o q => ⟨e _ _ (h.z a o q).1, (h.z a o q).2⟩, h.tab.ext e, h.fl⟩

structure Po (I : SI) (K : PySem.W.Frag) (s : St1) (H : Hp) (s' : St1) (H' : Hp) : Prop where
  keep : ∀ a o, ¬ I.M s a → H a = some o → H' a = some o
  ok : I.ok K s' H'
  gro : ∀ a, I.M s' a → I.M s a ∨ H a = none
  live : ∀ a o, H a = some o → ∃ o', H' a = some o'
  wle : ∀ n p x, s.w n p = some x → s'.w n p = some x
  ze : s'.Z = s.Z
theorem Po.refl (h : I.ok K s H) : Po I K s H s H := ⟨fun _ _ _ e => e, h, fun _ m => .inl m, fun _ o e => ⟨o, e⟩, fun _ _ _ e => e, rfl⟩
theorem Po.trans (a : Po I K s H s' H') (b : Po I K s' H' s'' H'') : Po I K s H s'' H'' where
  keep := fun c o m e => b.keep c o (fun z => (a.gro c z).elim m fun n => by rw [n] at e; cases e) (a.keep c o m e)
  ok := b.ok
  gro := fun c m => (b.gro c m).elim (fun z => a.gro c z) fun n => by
    by_cases z : I.M s c
    · exact .inl z
    · refine .inr ?_
      cases q : H c with
      | none => rfl
      | some o => rw [a.keep c o z q] at n; cases n
  live := fun c o e => let ⟨o1, e1⟩ := a.live c o e; b.live c o1 e1
  wle := fun n p x e => b.wle n p x (a.wle n p x e)
  ze := b.ze.trans a.ze
theorem Po.same (a : Po I K s H s' H') : VLe (Hr I s H) (Hr I s' H') := vle_of (fun c o h => by
  obtain ⟨h1, h2⟩ := hr_of h
  exact hr_in (a.keep c o h2 h1) fun z => (a.gro c z).elim h2 fun n => by rw [n] at h1; cases h1) a.wle
theorem Po.up (h : I.ok K s H) (e : Same H H') : Po I K s H s H' := ⟨fun c o _ q => e c o q, SI.stay h e, fun _ m => .inl m, fun c o q => ⟨o, e c o q⟩, fun _ _ _ e => e, rfl⟩
theorem Po.free (a : Po I K s H s' H') {c : Addr} (h : H' c = none) : H c = none := by
  cases q : H c with
  | none => rfl
  | some o =>
    obtain ⟨o', e⟩ := a.live c o q
    rw [h] at e; cases e
theorem same_new {p : Addr} {o : HO} (h : H p = none) : Same H (upd H p o) := fun c u e => by
  rw [upd_ne (ne_of_none e h)]
  exact e
theorem nom (h : I.ok K s H) {p : Addr} (hp : H p = none) : ¬ I.M s p := fun m => by
  obtain ⟨o, e⟩ := SI.al h m
  rw [hp] at e; cases e
theorem hr_new (h : I.ok K s H) {p : Addr} {o : HO} (hp : H p = none) : (Hr I s (upd H p o)).h p = some o := hr_in upd_same (nom h hp)
theorem hr_same_new (h : I.ok K s H) {p : Addr} {o : HO} (hp : H p = none) : VLe (Hr I s H) (Hr I s (upd H p o)) := (Po.up (I := I) h (same_new hp)).same
theorem hr_tup (h : I.ok K s H) {a : Addr} {xs : List V} (e : H a = some (.tup xs)) : (Hr I s H).h a = some (.tup xs) :=
  hr_in e fun m => let ⟨o, e2, n⟩ := SI.nt h m; by rw [e] at e2; cases e2; exact n.1 xs rfl
theorem hr_ext (h : I.ok K s H) {a : Addr} {φ : Heap → Prop} (e : H a = some (.ext φ)) : (Hr I s H).h a = some (.ext φ) :=
  hr_in e fun m => let ⟨o, e2, n⟩ := SI.nt h m; by rw [e] at e2; cases e2; exact n.2 φ rfl

/-! ### ends of a value rule -/
variable {Q : VK} {d : D} {v : V}
theorem here (ok : I.ok K s H) (k : ∀ v H', Po I K s H s H' → Rp K (Hr I s H') d v → Q v H') (h : Rp K (Hr I s H) d v) : Q v H := k v H (Po.refl ok) h
theorem newT (ok : I.ok K s H) {xs : List V} {ds : List PyData} (k : ∀ v H', Po I K s H s H' → Rp K (Hr I s H') (.d (.tuple ds)) v → Q v H') (h : DqA K (Hr I s H).h xs ds) (p : Addr) (hp : H p = none) : Q (.ref p) (upd H p (.tup xs)) :=
  k _ _ (Po.up ok (same_new hp)) (.tup (hr_new ok hp) (dpa_same (hr_same_new ok hp).h h))
theorem newL (ok : I.ok K s H) {xs : List V} {ds : List PyData} (k : ∀ v H', Po I K s H s H' → Rp K (Hr I s H') (.d (.list ds)) v → Q v H') (h : DqA K (Hr I s H).h xs ds) (p : Addr) (hp : H p = none) : Q (.ref p) (upd H p (.lst xs)) :=
  k _ _ (Po.up ok (same_new hp)) (.lst (hr_new ok hp) (dpa_same (hr_same_new ok hp).h h))
theorem newTP (ok : I.ok K s H) {xs : List V} {ds : List D} (k : ∀ v H', Po I K s H s H' → Rp K (Hr I s H') (.tp ds) v → Q v H') (h : RpL K (Hr I s H) ds xs) (p : Addr) (hp : H p = none) : Q (.ref p) (upd H p (.tup xs)) :=
  k _ _ (Po.up ok (same_new hp)) ⟨_, _, rfl, hr_new ok hp, rpa_of (rpl_same (hr_same_new ok hp) h)⟩
theorem newLS (ok : I.ok K s H) {xs : List V} {ds : List D} (k : ∀ v H', Po I K s H s H' → Rp K (Hr I s H') (.ls ds) v → Q v H') (h : RpL K (Hr I s H) ds xs) (p : Addr) (hp : H p = none) : Q (.ref p) (upd H p (.lst xs)) :=
  k _ _ (Po.up ok (same_new hp)) ⟨_, _, rfl, hr_new ok hp, rpa_of (rpl_same (hr_same_new ok hp) h)⟩
end

/-! ### an answer: it stops, a value, an exception -/
/-- an own exception: its class by name, its one field -/
structure Exn where
  c : Str
  x : Option (Str × PyData)
inductive R (α : Type) where
  | no
  | ok (a : α) (t : Ts)
  | ex (x : Exn) (t : Ts)
def R.bind {α β : Type} (r : R α) (k : α → Ts → R β) : R β := match r with
  | .no => .no
  | .ok a t => k a t
  | .ex x t => .ex x t
def R.map {α β : Type} (r : R α) (f : α → β) : R β := match r with
  | .no => .no
  | .ok a t => .ok (f a) t
  | .ex x t => .ex x t
def ofO {α : Type} (o : Option α) (t : Ts) : R α := match o with
  | some a => .ok a t
  | none => .no
def R.Post {α : Type} (r : R α) (P : α → Ts → Prop) (X : Exn → Ts → Prop) : Prop := match r with
  | .no => False
  | .ok a t => P a t
  | .ex x t => X x t
theorem R.post_bind {α β : Type} {r : R α} {k : α → Ts → R β} {P : β → Ts → Prop} {X : Exn → Ts → Prop} (h : (r.bind k).Post P X) : r.Post (fun a t => (k a t).Post P X) X := by
  cases r with
  | no => exact h
  | ok a t => exact h
  | ex x t => exact h
theorem R.post_map {α β : Type} {r : R α} {f : α → β} {P : β → Ts → Prop} {X : Exn → Ts → Prop} (h : (r.map f).Post P X) : r.Post (fun a t => P (f a) t) X := by
  cases r with
  | no => exact h
  | ok a t => exact h
  | ex x t => exact h
theorem R.Post.mono {α : Type} {r : R α} {P P' : α → Ts → Prop} {X X' : Exn → Ts → Prop} (h : r.Post P X) (hp : ∀ a t, P a t → P' a t) (hx : ∀ x t, X x t → X' x t) : r.Post P' X' := by
  cases r with
  | no => exact h
  | ok a t => exact hp _ _ h
  | ex x t => exact hx _ _ h
theorem post_ofO {α : Type} {o : Option α} {t : Ts} {P : α → Ts → Prop} {X : Exn → Ts → Prop} (h : (ofO o t).Post P X) : ∃ a, o = some a ∧ P a t := by
  cases o with
  | none => exact h.elim
  | some a => exact ⟨a, rfl, h⟩
abbrev Sm (α : Type) := Env → Ts → R α
abbrev Pm (α : Type) := Env → Option α
def lift {α : Type} (g : Pm α) : Sm α := fun env t => ofO (g env) t

/-- the exception x as it lies: its class, its dict -/
def ExAt (K : PySem.W.Frag) (mg : Str → Option Value) (H : Vw) (x : Exn) (cls : Value) (d : Option Addr) : Prop := ∃ C, mg x.c = some (.ref C) ∧ cls = .ref C ∧ match x.x with
  | none => d = none
  | some (f, y) => ∃ dd v, d = some dd ∧ H.h dd = some (.xd [(f, v)]) ∧ Dq K H.h v y
theorem exat_same {K : PySem.W.Frag} {mg : Str → Option Value} {H H' : Vw} {x : Exn} {cls : Value} {d : Option Addr} (e : VLe H H') (h : ExAt K mg H x cls d) : ExAt K mg H' x cls d := by
  obtain ⟨C, h1, h2, h3⟩ := h
  refine ⟨C, h1, h2, ?_⟩
  cases q : x.x with
  | none => rw [q] at h3; exact h3
  | some y =>
    obtain ⟨f, y⟩ := y
    rw [q] at h3
    obtain ⟨dd, v, h4, h5, h6⟩ := h3
    exact ⟨dd, v, h4, e.h _ _ h5, dp_same e.h h6⟩

/-! ### readings by what is computed -/
section
variable (I : SI) (K : PySem.W.Frag) (W : WX)
/-- what is wished of a raised exception, from (s, H) on -/
def XP (s : St1) (σ : L2.St) (H : Hp) (x : Exn) (t : Ts) : Prop := ∀ cls dd s' H', s'.t = t → Po I K s H s' H' → ExAt K I.mg (Hr I s' H') x cls dd → W cls dd σ H'
def tG (g : Sm D) : TE := fun σ H Q => ∃ env s, I.ok K s H ∧ RE K (Hr I s H) env σ ∧ (g env s.t).Post (fun d t => ∀ v s' H', s'.t = t → Po I K s H s' H' → Rp K (Hr I s' H') d v → Q v H') (XP I K W s σ H)
def tGB (g : Sm Bool) : TT := fun σ H Q => ∃ env s, I.ok K s H ∧ RE K (Hr I s H) env σ ∧ (g env s.t).Post (fun b t => ∀ s' H', s'.t = t → Po I K s H s' H' → Q b H') (XP I K W s σ H)
def tGL (g : Sm (List D)) : TA := fun σ H Q => ∃ env s, I.ok K s H ∧ RE K (Hr I s H) env σ ∧ (g env s.t).Post (fun ds t => ∀ vs s' H', s'.t = t → Po I K s H s' H' → RpL K (Hr I s' H') ds vs → Q vs H') (XP I K W s σ H)
inductive Out where
  | nx (env : Env)
  | rt (d : D)
  | bk (env : Env)
  | ct (env : Env)
def Fin1 (s : St1) (H : Hp) (o : Out) (t : Ts) (Dn : Ends) : Prop := match o with
  | .nx env => ∀ σ' s' H', s'.t = t → Po I K s H s' H' → RE K (Hr I s' H') env σ' → Dn.nx σ' H'
  | .rt d => ∀ v s' H', s'.t = t → Po I K s H s' H' → Rp K (Hr I s' H') d v → Dn.rt v H'
  | .bk env => ∀ σ' s' H', s'.t = t → Po I K s H s' H' → RE K (Hr I s' H') env σ' → Dn.bk σ' H'
  | .ct env => ∀ σ' s' H', s'.t = t → Po I K s H s' H' → RE K (Hr I s' H') env σ' → Dn.ct σ' H'
def tGS (g : Sm Out) : L2.TS := fun Dn σ H => ∃ env s, I.ok K s H ∧ RE K (Hr I s H) env σ ∧ (g env s.t).Post (fun o t => Fin1 I K s H o t Dn) (fun x t => ∀ σ', XP I K W s σ' H x t)
end
section
variable {I : SI} {K : PySem.W.Frag} {W : WX} {s s' s1 : St1} {H H1 H' : Hp} {σ : L2.St}
theorem xp_from {x : Exn} {t : Ts} (p : Po I K s H s1 H1) (h : XP I K W s σ H x t) : XP I K W s1 σ H1 x t := fun cls dd s' H' e p2 a => h cls dd s' H' e (p.trans p2) a
theorem fin_from {o : Out} {t : Ts} {Dn : Ends} (p : Po I K s H s1 H1) (h : Fin1 I K s H o t Dn) : Fin1 I K s1 H1 o t Dn := by
  cases o with
  | nx env => exact fun σ' s' H' e p2 r => h σ' s' H' e (p.trans p2) r
  | rt d => exact fun v s' H' e p2 r => h v s' H' e (p.trans p2) r
  | bk env => exact fun σ' s' H' e p2 r => h σ' s' H' e (p.trans p2) r
  | ct env => exact fun σ' s' H' e p2 r => h σ' s' H' e (p.trans p2) r
theorem _root_.L2.PE.imp {X : Cx} {e : Expr} {t t' : TE} (h : PE X e t) (k : ∀ σ H Q, t' σ H Q → t σ H Q) : PE X e t' := ⟨fun pins s σ H Q I q => h.run pins s σ H Q I (k σ H Q q)⟩
theorem _root_.L2.PT.imp {X : Cx} {e : Expr} {t t' : TT} (h : PT X e t) (k : ∀ σ H Q, t' σ H Q → t σ H Q) : PT X e t' := ⟨fun pins s σ H Q I q => h.run pins s σ H Q I (k σ H Q q)⟩
theorem _root_.L2.PW.imp {X : Cx} {e : Expr} {t t' : TT} (h : PW X e t) (k : ∀ σ H Q, t' σ H Q → t σ H Q) : PW X e t' := ⟨fun w pins s σ H Q I q => h.run w pins s σ H Q I (k σ H Q q)⟩
theorem _root_.L2.PA.imp {X : Cx} {e : List Expr} {t t' : TA} (h : PA X e t) (k : ∀ σ H Q, t' σ H Q → t σ H Q) : PA X e t' := ⟨fun pos pins s σ H Q I q => h.run pos pins s σ H Q I (k σ H Q q)⟩
theorem _root_.L2.PS.imp {X : Cx} {e : Stmt} {t t' : L2.TS} (h : PS X e t) (k : ∀ D σ H, t' D σ H → t D σ H) : PS X e t' := ⟨fun pins s σ H D I q => h.run pins s σ H D I (k D σ H q)⟩
theorem _root_.L2.PSs.imp {X : Cx} {e : List Stmt} {t t' : L2.TS} (h : PSs X e t) (k : ∀ D σ H, t' D σ H → t D σ H) : PSs X e t' := ⟨fun pins s σ H D I q => h.run pins s σ H D I (k D σ H q)⟩
end

/-! ### families of contexts (a def's body, the blocks of its comprehensions) -/
structure FmC (cb : Bool) {ι : Type} (P : Program) (w : World) (K : PySem.W.Frag) (mg : Str → Option Value) (base : Heap) (k : Nat) (N : List Str) (F : ι → Cx) : Prop where
  prog : ∀ i, (F i).prog = P
  w : ∀ i, (F i).w = w
  K : ∀ i, (F i).K = K
  mg : ∀ i, (F i).mg = mg
  base : ∀ i, (F i).base = base
  calmC : cb = true → ∀ i, (F i).calm = true
  roomC : cb = true → ∀ i, Room k (F i).A
  un : ∀ i, (F i).A.units + 200 < cLine
  nd : N.Nodup
  N : ∀ i, (F i).N = N
abbrev Fm {ι : Type} (P : Program) (w : World) (K : PySem.W.Frag) (mg : Str → Option Value) (base : Heap) (k : Nat) (N : List Str) (F : ι → Cx) : Prop := FmC true P w K mg base k N F
theorem FmC.calm {ι : Type} {P : Program} {w : World} {K : PySem.W.Frag} {mg : Str → Option Value} {base : Heap} {k : Nat} {N : List Str} {F : ι → Cx} (W : FmC true P w K mg base k N F) (i : ι) : (F i).calm = true := W.calmC rfl i
theorem FmC.room {ι : Type} {P : Program} {w : World} {K : PySem.W.Frag} {mg : Str → Option Value} {base : Heap} {k : Nat} {N : List Str} {F : ι → Cx} (W : FmC true P w K mg base k N F) (i : ι) : Room k (F i).A := W.roomC rfl i
theorem FmC.units {cb : Bool} {ι : Type} {P : Program} {w : World} {K : PySem.W.Frag} {mg : Str → Option Value} {base : Heap} {k : Nat} {N : List Str} {F : ι → Cx} (W : FmC cb P w K mg base k N F) (i : ι) : (F i).A.units + 200 < cLine := W.un i
abbrev Blk := Shared × Hp × Addr × List (Str × Addr) × List Addr
abbrev blkF {ι : Type} (scope : Scope) (F : ι → Cx) : ι × Blk → Cx := fun p => (F p.1).blk p.2.1 p.2.2.1 scope (compEnvC scope p.2.2.2.2.1 p.2.2.2.1 (F p.1).env) p.2.2.2.2.2
theorem FmC.blk {cb : Bool} {ι : Type} {P : Program} {w : World} {K : PySem.W.Frag} {mg : Str → Option Value} {base : Heap} {k : Nat} {N : List Str} {F : ι → Cx} (W : FmC cb P w K mg base k N F) (scope : Scope) : FmC cb P w K mg base k N (blkF scope F) :=
  ⟨fun p => W.prog p.1, fun p => W.w p.1, fun p => W.K p.1, fun p => W.mg p.1, fun p => W.base p.1, fun h p => W.calmC h p.1, fun h p => W.roomC h p.1, fun p => W.un p.1, W.nd, fun p => W.N p.1⟩
/-- nothing may be raised -/
abbrev WF : WX := fun _ _ _ _ => False
theorem takes_f {X : Cx} : Takes X WF := fun u s' ⟨a, B, sI, pins, σ, H, cls, d, e, I, nb, up, sky, na, os, ag, w⟩ => w.elim

section
variable {ι : Type} (I : SI) (K : PySem.W.Frag) (W : WX) (F : ι → Cx)
def DE (e : Expr) (g : Sm D) : Prop := ∀ i, PE (F i) e (tG I K W g)
def DT (e : Expr) (g : Sm Bool) : Prop := ∀ i, PT (F i) e (tGB I K W g)
def DW (e : Expr) (g : Sm Bool) : Prop := ∀ i, PW (F i) e (tGB I K W g)
def DTs (es : List Expr) (g : Sm Bool) : Prop := ∀ i, PTs (F i) es (tGB I K W g)
def DA (es : List Expr) (g : Sm (List D)) : Prop := ∀ i, PA (F i) es (tGL I K W g)
def DS (st : Stmt) (g : Sm Out) : Prop := ∀ i, PS (F i) st (tGS I K W g)
def DSs (st : List Stmt) (g : Sm Out) : Prop := ∀ i, PSs (F i) st (tGS I K W g)
end
end Dl
set_option maxRecDepth 100000
set_option maxHeartbeats 4000000
namespace Dl
open PySem L2

/-! ### one piece after the other -/
section
variable {I : SI} {K : PySem.W.Frag} {W : WX} {s0 s : St1} {H0 H : Hp} {σ : L2.St} {env : Env} {α : Type} {P : α → Ts → Prop}
theorem step {g : Sm D} {k : D → Ts → R α} {Q : VK} (p : Po I K s0 H0 s H) (re : RE K (Hr I s0 H0) env σ) (h : ((g env s.t).bind k).Post P (XP I K W s0 σ H0))
    (c : ∀ x v s1 H1, Po I K s0 H0 s1 H1 → Po I K s H s1 H1 → Rp K (Hr I s1 H1) x v → (k x s1.t).Post P (XP I K W s0 σ H0) → Q v H1) : tG I K W g σ H Q :=
  ⟨env, s, p.ok, re.same p.same, (R.post_bind h).mono (fun x t hk v s1 H1 e p1 r => c x v s1 H1 (p.trans p1) p1 r (by rw [e]; exact hk)) fun x t hx => xp_from p hx⟩
theorem stepB {g : Sm Bool} {k : Bool → Ts → R α} {Q : Bool → Hp → Prop} (p : Po I K s0 H0 s H) (re : RE K (Hr I s0 H0) env σ) (h : ((g env s.t).bind k).Post P (XP I K W s0 σ H0))
    (c : ∀ x s1 H1, Po I K s0 H0 s1 H1 → Po I K s H s1 H1 → (k x s1.t).Post P (XP I K W s0 σ H0) → Q x H1) : tGB I K W g σ H Q :=
  ⟨env, s, p.ok, re.same p.same, (R.post_bind h).mono (fun x t hk s1 H1 e p1 => c x s1 H1 (p.trans p1) p1 (by rw [e]; exact hk)) fun x t hx => xp_from p hx⟩
theorem stepL {g : Sm (List D)} {k : List D → Ts → R α} {Q : List V → Hp → Prop} (p : Po I K s0 H0 s H) (re : RE K (Hr I s0 H0) env σ) (h : ((g env s.t).bind k).Post P (XP I K W s0 σ H0))
    (c : ∀ xs vs s1 H1, Po I K s0 H0 s1 H1 → Po I K s H s1 H1 → RpL K (Hr I s1 H1) xs vs → (k xs s1.t).Post P (XP I K W s0 σ H0) → Q vs H1) : tGL I K W g σ H Q :=
  ⟨env, s, p.ok, re.same p.same, (R.post_bind h).mono (fun x t hk v s1 H1 e p1 r => c x v s1 H1 (p.trans p1) p1 r (by rw [e]; exact hk)) fun x t hx => xp_from p hx⟩
/-- the last piece -/
theorem last {g : Sm D} {Q : VK} (p : Po I K s0 H0 s H) (re : RE K (Hr I s0 H0) env σ) (h : (g env s.t).Post (fun d t => ∀ v s' H', s'.t = t → Po I K s0 H0 s' H' → Rp K (Hr I s' H') d v → Q v H') (XP I K W s0 σ H0)) : tG I K W g σ H Q :=
  ⟨env, s, p.ok, re.same p.same, h.mono (fun x t hk v s1 H1 e p1 r => hk v s1 H1 e (p.trans p1) r) fun x t hx => xp_from p hx⟩
theorem lastB {g : Sm Bool} {Q : Bool → Hp → Prop} (p : Po I K s0 H0 s H) (re : RE K (Hr I s0 H0) env σ) (h : (g env s.t).Post (fun d t => ∀ s' H', s'.t = t → Po I K s0 H0 s' H' → Q d H') (XP I K W s0 σ H0)) : tGB I K W g σ H Q :=
  ⟨env, s, p.ok, re.same p.same, h.mono (fun x t hk s1 H1 e p1 => hk s1 H1 e (p.trans p1)) fun x t hx => xp_from p hx⟩
end

section
variable {cb : Bool} {ι : Type} {P : Program} {w : World} {K : PySem.W.Frag} {mg : Str → Option Value} {base : Heap} {k : Nat} {N : List Str} {F : ι → Cx} {I : SI} {W : WX} {pos : Pos}

/-! ### names, constants -/
def sV (i : Nat) : Sm D := fun env t => match env[i]? with
  | some (some d) => .ok d t
  | _ => .no
def pV (i : Nat) : Pm D := fun env => match env[i]? with
  | some (some d) => some d
  | _ => none
def sC {α : Type} (d : α) : Sm α := fun _ t => .ok d t
def pC {α : Type} (d : α) : Pm α := fun _ => some d
theorem lift_v (i : Nat) : lift (pV i) = sV i := by
  funext env s
  unfold lift pV sV
  split <;> rfl
theorem lift_c {α : Type} (d : α) : lift (pC d) = sC d := rfl
theorem de_v (i : Nat) {x : Str} (hN : ∀ j, (F j).N[i]? = some x := by exact fun _ => rfl) (hv : ∀ j, Vis (F j).env.scope x := by first | exact fun _ => Or.inl rfl | exact fun _ => Or.inr (Or.inl rfl) | exact fun _ => Or.inr (Or.inr rfl))
    (hd : (x == ("__debug__" : Str)) = false := by decide) (hcd : (x == ("__classdict__" : Str)) = false := by decide) : DE I K W F (.Name x pos) (sV i) :=
  fun j => (pe_var (hN j) (hv j) hd hcd).imp fun σ H Q ⟨env, s, ok, re, h⟩ => by
    unfold sV at h
    split at h
    · rename_i d' hd
      obtain ⟨v, h1, h2⟩ := re.at_ i _ hd
      exact ⟨v, h1, h v s H rfl (Po.refl ok) h2⟩
    · exact h.elim
theorem tg_c {d : D} {v : V} (h : ∀ H, Rp K H d v) : ∀ σ H Q, tG I K W (sC d) σ H Q → tC v σ H Q := fun σ H Q ⟨env, s, ok, re, q⟩ => q v s H rfl (Po.refl ok) (h _)
theorem de_int {i : Int} {j} : DE I K W F (.Constant (.int i) j pos) (sC (.d (.int i))) := fun _ => pe_int.imp (tg_c fun _ => .int i)
theorem de_bl {b : Bool} {j} : DE I K W F (.Constant (.bool b) j pos) (sC (.d (.bool b))) := fun _ => pe_bl.imp (tg_c fun _ => .bl b)
theorem de_non {j} : DE I K W F (.Constant .none j pos) (sC (.d .none)) := fun _ => pe_non.imp (tg_c fun _ => .non)
theorem de_str {x : Str} {j} : DE I K W F (.Constant (.str x) j pos) (sC (.d (.str x))) := fun _ => pe_str.imp (tg_c fun _ => .str x)
/-- a module's constant: its value, its data -/
structure Gc (K : PySem.W.Frag) (mg : Str → Option Value) (x : Str) (d : D) : Prop where
  ex : ∃ (u : Value) (v : V), mg x = some u ∧ RelV v u ∧ ∀ H, Rp K H d v
theorem de_g (Wf : FmC cb P w K mg base k N F) {x : Str} {d : D} (G : Gc K mg x d) (hg : ∀ j, Gl (F j) x := by exact fun _ => rfl) (hd : (x == ("__debug__" : Str)) = false := by decide) : DE I K W F (.Name x pos) (sC d) := by
  obtain ⟨u, v, h1, h2, h3⟩ := G.ex
  exact fun i => (pe_glob (hg i) (by rw [Wf.mg i]; exact h1) h2 hd).imp (tg_c h3)
/-- a built-in's name as a value -/
theorem de_ty (Wf : FmC cb P w K mg base k N F) {x : Str} {n : String} (hm : mg x = none) (hv : bootBuiltins x = some (.type n)) (hg : ∀ j, Gl (F j) x := by exact fun _ => rfl) (hn : x ≠ "__name__" := by decide) (hd : (x == ("__debug__" : Str)) = false := by decide) : DE I K W F (.Name x pos) (sC (.o (.ty n))) :=
  fun i => (pe_bltn (v := .ty n) (hg i) (by rw [Wf.mg i]; exact hm) hv rfl hn hd).imp (tg_c fun _ => rfl)

/-! ### operators -/
def sOp (f : D → D → Option D) (a b : Sm D) : Sm D := fun env t => (a env t).bind fun x t => (b env t).bind fun y t => ofO (f x y) t
def pOp (f : D → D → Option D) (a b : Pm D) : Pm D := fun env => (a env).bind fun x => (b env).bind fun y => f x y
theorem lift_op (f : D → D → Option D) (a b : Pm D) : lift (pOp f a b) = sOp f (lift a) (lift b) := by
  funext env s
  unfold lift pOp sOp
  dsimp only
  cases a env with
  | none => rfl
  | some x =>
    cases b env with
    | none => rfl
    | some y => rfl
/-- an operation on values is one on data -/
def OpD (K : PySem.W.Frag) (r : R2) (f : D → D → Option D) : Prop := ∀ (I : SI) (s : I.S) (H : Hp) (x y z : D) (a b : V) (Q : VK), I.ok K s H → Rp K (Hr I s H) x a → Rp K (Hr I s H) y b → f x y = some z →
  (∀ v H', Po I K s H s H' → Rp K (Hr I s H') z v → Q v H') → r a b H Q
theorem tg_op {r : R2} {f : D → D → Option D} {ga gb : Sm D} (hr : OpD K r f) : ∀ σ H Q, tG I K W (sOp f ga gb) σ H Q → tOp r (tG I K W ga) (tG I K W gb) σ H Q := fun σ H Q ⟨env, s, ok, re, h⟩ =>
  step (Po.refl ok) re h fun x v1 s1 H1 p1 _ r1 h => step p1 re h fun y v2 s2 H2 p2 q2 r2 h => by
    obtain ⟨z, e, h⟩ := post_ofO h
    exact hr I s2 H2 x y z v1 v2 Q p2.ok (rp_same q2.same r1) r2 e fun v H' p3 r3 => h v s2 H' rfl (p2.trans p3) r3
theorem de_op {op : Operator} {a b : Expr} {f : D → D → Option D} {ga gb : Sm D} (h : ∃ r, (∀ i, OpR (F i) (binaryOp op) r) ∧ OpD K r f) (ha : DE I K W F a ga) (hb : DE I K W F b gb) : DE I K W F (.BinOp a op b pos) (sOp f ga gb) := by
  obtain ⟨r, h1, h2⟩ := h
  exact fun i => (pe_op (h1 i) (ha i) (hb i)).imp (tg_op h2)
theorem de_cmp {op : CmpOp} {a b : Expr} {f : D → D → Option D} {ga gb : Sm D} (h : ∃ r, (∀ i, OpR (F i) (compareOp op) r) ∧ OpD K r f) (ha : DE I K W F a ga) (hb : DE I K W F b gb) (hm : behindInMarks op b = false := by first | exact nomark _ | rfl) :
    DE I K W F (.Compare a [op] [b] pos) (sOp f ga gb) := by
  obtain ⟨r, h1, h2⟩ := h
  exact fun i => (pe_cmpR (h1 i) (ha i) (hb i) hm).imp (tg_op h2)
/-- a value that is True or False, as a test -/
def isB : D → Option Bool
  | .d (.bool b) => some b
  | _ => none
theorem isB_some {d : D} {b : Bool} (h : isB d = some b) : d = .d (.bool b) := by
  unfold isB at h
  split at h
  · cases h; rfl
  · cases h
theorem isB_at {H : Vw} {d : D} {b : Bool} {v : V} (h : isB d = some b) (r : Rp K H d v) : v = .bl b := by
  have q := isB_some h
  subst q
  cases r
  rfl
def sB (a : Sm D) : Sm Bool := fun env t => (a env t).bind fun x t => ofO (isB x) t
def pB (a : Pm D) : Pm Bool := fun env => (a env).bind isB
theorem lift_b (a : Pm D) : lift (pB a) = sB (lift a) := by
  funext env s
  unfold lift pB sB
  dsimp only
  cases a env with
  | none => rfl
  | some x => rfl
theorem tgb_of {ga : Sm D} {te : TE} (hi : ∀ σ H Q, tG I K W ga σ H Q → te σ H Q) : ∀ σ H Q, tGB I K W (sB ga) σ H Q → tTest te σ H Q := fun σ H Q ⟨env, s, ok, re, h⟩ =>
  hi _ _ _ (step (Po.refl ok) re h fun x v s1 H1 p1 _ r1 h => by
    obtain ⟨b, e, h⟩ := post_ofO h
    exact ⟨b, isB_at e r1, h s1 H1 rfl p1⟩)
theorem dt_cmp {op : CmpOp} {a b : Expr} {f : D → D → Option D} {ga gb : Sm D} (h : ∃ r, (∀ i, OpR (F i) (compareOp op) r) ∧ OpD K r f) (ha : DE I K W F a ga) (hb : DE I K W F b gb) (hm : behindInMarks op b = false := by first | exact nomark _ | rfl) :
    DT I K W F (.Compare a [op] [b] pos) (sB (sOp f ga gb)) := by
  obtain ⟨r, h1, h2⟩ := h
  exact fun i => (pt_cmpR (h1 i) (ha i) (hb i) hm).imp (tgb_of (tg_op h2))
theorem dt_val {e : Expr} {g : Sm D} (h : DE I K W F e g) (he : ∀ i whole, isTrue e (F i).env whole = (do let v ← whole; standAt e.pos; holding [v] (truthy v)) := by exact fun _ _ => rfl) : DT I K W F e (sB g) :=
  fun i => (pt_val (h i) (he i)).imp (tgb_of fun _ _ _ q => q)
def sNot (a : Sm Bool) : Sm Bool := fun env t => (a env t).bind fun b t => .ok (!b) t
def pNot (a : Pm Bool) : Pm Bool := fun env => (a env).map fun b => !b
theorem lift_not (a : Pm Bool) : lift (pNot a) = sNot (lift a) := by
  funext env s
  unfold lift pNot sNot
  dsimp only
  cases a env <;> rfl
theorem dt_not {a : Expr} {ga : Sm Bool} (h : DT I K W F a ga) : DT I K W F (.UnaryOp .Not a pos) (sNot ga) :=
  fun i => (pt_not (h i)).imp fun σ H Q ⟨env, s, ok, re, h⟩ => stepB (Po.refl ok) re h fun x s1 H1 p1 _ h => h s1 H1 rfl p1
def sAnd (a b : Sm Bool) : Sm Bool := fun env t => (a env t).bind fun x t => if x = true then b env t else .ok false t
def pAnd (a b : Pm Bool) : Pm Bool := fun env => (a env).bind fun x => if x = true then b env else some false
def sOr (a b : Sm Bool) : Sm Bool := fun env t => (a env t).bind fun x t => if x = true then .ok true t else b env t
def pOr (a b : Pm Bool) : Pm Bool := fun env => (a env).bind fun x => if x = true then some true else b env
theorem lift_and (a b : Pm Bool) : lift (pAnd a b) = sAnd (lift a) (lift b) := by
  funext env s
  unfold lift pAnd sAnd
  dsimp only
  cases a env with
  | none => rfl
  | some x => cases x <;> rfl
theorem lift_or (a b : Pm Bool) : lift (pOr a b) = sOr (lift a) (lift b) := by
  funext env s
  unfold lift pOr sOr
  dsimp only
  cases a env with
  | none => rfl
  | some x => cases x <;> rfl
theorem dw_pt {e : Expr} {g : Sm Bool} (h : DW I K W F e g) : DT I K W F e g := fun i => (h i).pt
theorem dw_and1 {a : Expr} {ga : Sm Bool} (h : DT I K W F a ga) : DW I K W F (.BoolOp .And [a] pos) ga := fun i => pw_and1 (h i)
theorem dw_or1 {a : Expr} {ga : Sm Bool} (h : DT I K W F a ga) : DW I K W F (.BoolOp .Or [a] pos) ga := fun i => pw_or1 (h i)
theorem dw_and {a b : Expr} {rest : List Expr} {ga gb : Sm Bool} (ha : DT I K W F a ga) (hb : DW I K W F (.BoolOp .And (b :: rest) pos) gb) : DW I K W F (.BoolOp .And (a :: b :: rest) pos) (sAnd ga gb) :=
  fun i => (pw_and (ha i) (hb i)).imp fun σ H Q ⟨env, s, ok, re, h⟩ => stepB (Po.refl ok) re h fun x s1 H1 p1 _ h => by
    cases x with
    | true =>
      rw [if_pos rfl] at h ⊢
      exact lastB p1 re h
    | false =>
      rw [if_neg Bool.false_ne_true] at h ⊢
      exact h s1 H1 rfl p1
theorem dw_or {a b : Expr} {rest : List Expr} {ga gb : Sm Bool} (ha : DT I K W F a ga) (hb : DW I K W F (.BoolOp .Or (b :: rest) pos) gb) : DW I K W F (.BoolOp .Or (a :: b :: rest) pos) (sOr ga gb) :=
  fun i => (pw_or (ha i) (hb i)).imp fun σ H Q ⟨env, s, ok, re, h⟩ => stepB (Po.refl ok) re h fun x s1 H1 p1 _ h => by
    cases x with
    | false =>
      rw [if_neg Bool.false_ne_true] at h ⊢
      exact lastB p1 re h
    | true =>
      rw [if_pos rfl] at h ⊢
      exact h s1 H1 rfl p1
/-! as values: bools -/
def sAndV (a b : Sm D) : Sm D := fun env t => (a env t).bind fun x t => (ofO (isB x) t).bind fun c t => if c = true then b env t else .ok (.d (.bool false)) t
def pAndV (a b : Pm D) : Pm D := fun env => (a env).bind fun x => (isB x).bind fun c => if c = true then b env else some (.d (.bool false))
def sOrV (a b : Sm D) : Sm D := fun env t => (a env t).bind fun x t => (ofO (isB x) t).bind fun c t => if c = true then .ok (.d (.bool true)) t else b env t
def pOrV (a b : Pm D) : Pm D := fun env => (a env).bind fun x => (isB x).bind fun c => if c = true then some (.d (.bool true)) else b env
def sNotV (a : Sm D) : Sm D := fun env t => (a env t).bind fun x t => (ofO (isB x) t).bind fun c t => .ok (.d (.bool (!c))) t
def pNotV (a : Pm D) : Pm D := fun env => (a env).bind fun x => (isB x).map fun c => .d (.bool (!c))
theorem lift_andV (a b : Pm D) : lift (pAndV a b) = sAndV (lift a) (lift b) := by
  funext env s
  unfold lift pAndV sAndV
  dsimp only
  cases a env with
  | none => rfl
  | some x =>
    simp only [Option.bind_some, ofO, R.bind]
    cases isB x with
    | none => rfl
    | some c => cases c <;> rfl
theorem lift_orV (a b : Pm D) : lift (pOrV a b) = sOrV (lift a) (lift b) := by
  funext env s
  unfold lift pOrV sOrV
  dsimp only
  cases a env with
  | none => rfl
  | some x =>
    simp only [Option.bind_some, ofO, R.bind]
    cases isB x with
    | none => rfl
    | some c => cases c <;> rfl
theorem lift_notV (a : Pm D) : lift (pNotV a) = sNotV (lift a) := by
  funext env s
  unfold lift pNotV sNotV
  dsimp only
  cases a env with
  | none => rfl
  | some x =>
    simp only [Option.bind_some, ofO, R.bind]
    cases isB x <;> rfl
theorem de_and1 {op} {a : Expr} {ga : Sm D} (h : DE I K W F a ga) : DE I K W F (.BoolOp op [a] pos) ga := fun i => pe_one (h i)
theorem de_and {a b : Expr} {rest : List Expr} {ga gb : Sm D} (ha : DE I K W F a ga) (hb : DE I K W F (.BoolOp .And (b :: rest) pos) gb) : DE I K W F (.BoolOp .And (a :: b :: rest) pos) (sAndV ga gb) :=
  fun i => (pe_and (ha i) (hb i)).imp fun σ H Q ⟨env, s, ok, re, h⟩ => step (Po.refl ok) re h fun x v s1 H1 p1 _ r1 h => by
    obtain ⟨c, e, h⟩ := post_ofO (R.post_bind h)
    refine ⟨c, isB_at e r1, ?_⟩
    cases c with
    | true =>
      rw [if_pos rfl] at h ⊢
      exact last p1 re h
    | false =>
      rw [if_neg Bool.false_ne_true] at h ⊢
      exact h _ s1 H1 rfl p1 (.bl false)
theorem de_or {a b : Expr} {rest : List Expr} {ga gb : Sm D} (ha : DE I K W F a ga) (hb : DE I K W F (.BoolOp .Or (b :: rest) pos) gb) : DE I K W F (.BoolOp .Or (a :: b :: rest) pos) (sOrV ga gb) :=
  fun i => (pe_or (ha i) (hb i)).imp fun σ H Q ⟨env, s, ok, re, h⟩ => step (Po.refl ok) re h fun x v s1 H1 p1 _ r1 h => by
    obtain ⟨c, e, h⟩ := post_ofO (R.post_bind h)
    refine ⟨c, isB_at e r1, ?_⟩
    cases c with
    | false =>
      rw [if_neg Bool.false_ne_true] at h ⊢
      exact last p1 re h
    | true =>
      rw [if_pos rfl] at h ⊢
      exact h _ s1 H1 rfl p1 (.bl true)
theorem de_not {a : Expr} {ga : Sm D} (h : DE I K W F a ga) : DE I K W F (.UnaryOp .Not a pos) (sNotV ga) :=
  fun i => (pe_not (h i)).imp fun σ H Q ⟨env, s, ok, re, h⟩ => step (Po.refl ok) re h fun x v s1 H1 p1 _ r1 h => by
    obtain ⟨c, e, h⟩ := post_ofO (R.post_bind h)
    exact ⟨c, isB_at e r1, h _ s1 H1 rfl p1 (.bl _)⟩
def sIf {α : Type} (c : Sm Bool) (a b : Sm α) : Sm α := fun env t => (c env t).bind fun x t => if x = true then a env t else b env t
def pIf {α : Type} (c : Pm Bool) (a b : Pm α) : Pm α := fun env => (c env).bind fun x => if x = true then a env else b env
theorem lift_if {α : Type} (c : Pm Bool) (a b : Pm α) : lift (pIf c a b) = sIf (lift c) (lift a) (lift b) := by
  funext env s
  unfold lift pIf sIf
  dsimp only
  cases c env with
  | none => rfl
  | some x => cases x <;> rfl
theorem de_if {c a b : Expr} {gc : Sm Bool} {ga gb : Sm D} (hc : DT I K W F c gc) (ha : DE I K W F a ga) (hb : DE I K W F b gb) : DE I K W F (.IfExp c a b pos) (sIf gc ga gb) :=
  fun i => (pe_ifExp (hc i) (ha i) (hb i)).imp fun σ H Q ⟨env, s, ok, re, h⟩ => stepB (Po.refl ok) re h fun x s1 H1 p1 _ h => by
    cases x with
    | true =>
      rw [if_pos rfl] at h ⊢
      exact last p1 re h
    | false =>
      rw [if_neg Bool.false_ne_true] at h ⊢
      exact last p1 re h

/-! ### arguments, displays -/
def sNil : Sm (List D) := fun _ t => .ok [] t
def pNil : Pm (List D) := fun _ => some []
def sCons (a : Sm D) (r : Sm (List D)) : Sm (List D) := fun env t => (a env t).bind fun x t => (r env t).bind fun xs t => .ok (x :: xs) t
def pCons (a : Pm D) (r : Pm (List D)) : Pm (List D) := fun env => (a env).bind fun x => (r env).map fun q => x :: q
theorem lift_nil : lift pNil = sNil := rfl
theorem lift_cons (a : Pm D) (r : Pm (List D)) : lift (pCons a r) = sCons (lift a) (lift r) := by
  funext env s
  unfold lift pCons sCons
  dsimp only
  cases a env with
  | none => rfl
  | some x =>
    simp only [Option.bind_some, ofO, R.bind]
    cases r env <;> rfl
theorem da_nil : DA I K W F [] sNil := fun i => pa_nil.imp fun σ H Q ⟨env, s, ok, re, h⟩ => h [] s H rfl (Po.refl ok) .nil
theorem da_cons {e : Expr} {es : List Expr} {g : Sm D} {gr : Sm (List D)} (h : DE I K W F e g) (hr : DA I K W F es gr) (hs : ∀ i, starEach (e :: es) (F i).env = (false, eval e (F i).env) :: starEach es (F i).env := by exact fun _ => rfl) : DA I K W F (e :: es) (sCons g gr) :=
  fun i => (pa_cons (h i) (hr i) (hs i)).imp fun σ H Q ⟨env, s, ok, re, h⟩ => step (Po.refl ok) re h fun x v s1 H1 p1 _ r1 h => stepL p1 re h fun xs vs s2 H2 p2 q2 r2 h =>
    h _ s2 H2 rfl p2 (.cons (rp_same q2.same r1) r2)
/-- a list of data, made by f a value -/
def sMk (f : List D → Option D) (a : Sm (List D)) : Sm D := fun env t => (a env t).bind fun xs t => ofO (f xs) t
def pMk (f : List D → Option D) (a : Pm (List D)) : Pm D := fun env => (a env).bind f
theorem lift_mk (f : List D → Option D) (a : Pm (List D)) : lift (pMk f a) = sMk f (lift a) := by
  funext env s
  unfold lift pMk sMk
  dsimp only
  cases a env <;> rfl
def mTup (l : List D) : Option D := if l.length ≤ 100000 then match pdL l with
  | some xs => some (.d (.tuple xs))
  | none => some (.tp l) else none
def mLst (l : List D) : Option D := if l.length ≤ 100000 then match pdL l with
  | some xs => some (.d (.list xs))
  | none => some (.ls l) else none
theorem sz {n : Nat} (h : n ≤ 100000) : n ≤ sizeLine := Nat.le_trans h (by decide)
/-- a call's reading on values: what it does on data -/
def CallD (K : PySem.W.Frag) (r : List V → Hp → VK → Prop) (f : List D → Option D) : Prop := ∀ (I : SI) (s : I.S) (H : Hp) (ds : List D) (z : D) (vs : List V) (Q : VK), I.ok K s H → RpL K (Hr I s H) ds vs → f ds = some z →
  (∀ v H', Po I K s H s H' → Rp K (Hr I s H') z v → Q v H') → r vs H Q
theorem tg_mk {r : List V → Hp → VK → Prop} {f : List D → Option D} {g : Sm (List D)} (hr : CallD K r f) : ∀ σ H Q, tG I K W (sMk f g) σ H Q → (tGL I K W g) σ H fun vs H1 => r vs H1 Q := fun σ H Q ⟨env, s, ok, re, h⟩ =>
  stepL (Po.refl ok) re h fun xs vs s1 H1 p1 _ r1 h => by
    obtain ⟨z, e, h⟩ := post_ofO h
    exact hr I s1 H1 xs z vs Q p1.ok r1 e fun v H' p2 r2 => h v s1 H' rfl (p1.trans p2) r2
theorem cd_tup : CallD K (fun xs H1 Q => xs.length ≤ sizeLine ∧ ∀ p, H1 p = none → Q (.ref p) (upd H1 p (.tup xs))) mTup := fun I s H ds z vs Q ok r e k => by
  unfold mTup at e
  by_cases c : ds.length ≤ 100000
  · rw [if_pos c] at e
    refine ⟨by rw [rpl_len r]; exact sz c, ?_⟩
    cases q : pdL ds with
    | none => rw [q] at e; cases e; exact newTP ok k r
    | some xs => rw [q] at e; cases e; exact newT ok k (rpl_pd r q)
  · rw [if_neg c] at e; cases e
theorem cd_lst : CallD K (fun xs H1 Q => xs.length ≤ sizeLine ∧ ∀ p, H1 p = none → Q (.ref p) (upd H1 p (.lst xs))) mLst := fun I s H ds z vs Q ok r e k => by
  unfold mLst at e
  by_cases c : ds.length ≤ 100000
  · rw [if_pos c] at e
    refine ⟨by rw [rpl_len r]; exact sz c, ?_⟩
    cases q : pdL ds with
    | none => rw [q] at e; cases e; exact newLS ok k r
    | some xs => rw [q] at e; cases e; exact newL ok k (rpl_pd r q)
  · rw [if_neg c] at e; cases e
theorem de_tup {es : List Expr} {x1} {g : Sm (List D)} (h : DA I K W F es g) : DE I K W F (.Tuple es x1 pos) (sMk mTup g) := fun i => (pe_tup (h i)).imp (tg_mk cd_tup)
theorem de_lst {es : List Expr} {g : Sm (List D)} (h : DA I K W F es g) : DE I K W F (.List es pos) (sMk mLst g) := fun i => (pe_lst (h i)).imp (tg_mk cd_lst)
theorem de_callB {x : Str} {id : String} {e : Expr} {es : List Expr} {p : Pos} {f : List D → Option D} {g : Sm (List D)} (Wf : FmC cb P w K mg base k N F) (hc : ∃ r, (∀ i, CallR (F i) (.builtin id) r) ∧ CallD K r f) (hm : mg x = none) (hv : bootBuiltins x = some (.builtin id)) (ha : DA I K W F (e :: es) g)
    (hg : ∀ i, Gl (F i) x := by exact fun _ => rfl) (hn : x ≠ "__name__" := by decide) (hdb : (x == ("__debug__" : Str)) = false := by decide)
    (he : ∀ i, starEach (e :: es) (F i).env = (false, eval e (F i).env) :: starEach es (F i).env := by exact fun _ => rfl) (hpl : ∀ i, (backTo pos (starEach es (F i).env)).any (·.1) = false := by exact fun _ => rfl) : DE I K W F (.Call (.Name x p) (e :: es) [] pos) (sMk f g) := by
  obtain ⟨r, h1, h2⟩ := hc
  exact fun i => (pe_callB (h1 i) (hg i) (by rw [Wf.mg i]; exact hm) hv (ha i) hn hdb (he i) (hpl i)).imp (tg_mk h2)
theorem de_callTy {x : Str} {T : String} {e : Expr} {es : List Expr} {p : Pos} {f : List D → Option D} {g : Sm (List D)} (Wf : FmC cb P w K mg base k N F) (hc : ∃ r, (∀ i, CallR (F i) (.type T) r) ∧ CallD K r f) (hm : mg x = none) (hv : bootBuiltins x = some (.type T)) (ha : DA I K W F (e :: es) g)
    (hg : ∀ i, Gl (F i) x := by exact fun _ => rfl) (hn : x ≠ "__name__" := by decide) (hdb : (x == ("__debug__" : Str)) = false := by decide)
    (he : ∀ i, starEach (e :: es) (F i).env = (false, eval e (F i).env) :: starEach es (F i).env := by exact fun _ => rfl) (hpl : ∀ i, (backTo pos (starEach es (F i).env)).any (·.1) = false := by exact fun _ => rfl) : DE I K W F (.Call (.Name x p) (e :: es) [] pos) (sMk f g) := by
  obtain ⟨r, h1, h2⟩ := hc
  exact fun i => (pe_callTy (h1 i) (hg i) (by rw [Wf.mg i]; exact hm) hv (ha i) hn hdb (he i) (hpl i)).imp (tg_mk h2)

/-! ### subscripts -/
theorem de_ix {a b : Expr} {f : D → D → Option D} {ga gb : Sm D} (h : ∃ r, (∀ i, IxR (F i) r) ∧ OpD K r f) (ha : DE I K W F a ga) (hb : DE I K W F b gb) (hs : PlainIx b := by exact fun _ _ => rfl) : DE I K W F (.Subscript a b pos) (sOp f ga gb) := by
  obtain ⟨r, h1, h2⟩ := h
  exact fun i => (pe_ix (h1 i) (ha i) (hb i) hs).imp (tg_op h2)
/-- a slice's part -/
def tGO (I : SI) (K : PySem.W.Frag) (W : WX) (g : Sm (Option Int)) : TO := fun σ H Q => ∃ env s, I.ok K s H ∧ RE K (Hr I s H) env σ ∧ (g env s.t).Post (fun b t => ∀ s' H', s'.t = t → Po I K s H s' H' → Q b H') (XP I K W s σ H)
theorem _root_.L2.PO.imp {X : Cx} {e : Option Expr} {t t' : TO} (h : PO X e t) (k : ∀ σ H Q, t' σ H Q → t σ H Q) : PO X e t' := ⟨fun pins s σ H Q I q => h.run pins s σ H Q I (k σ H Q q)⟩
def DO (I : SI) (K : PySem.W.Frag) (W : WX) (F : ι → Cx) (e : Option Expr) (g : Sm (Option Int)) : Prop := ∀ i, PO (F i) e (tGO I K W g)
theorem stepO {s0 s : St1} {H0 H : Hp} {σ : L2.St} {env : Env} {α : Type} {P : α → Ts → Prop} {g : Sm (Option Int)} {k : Option Int → Ts → R α} {Q : Option Int → Hp → Prop} (p : Po I K s0 H0 s H) (re : RE K (Hr I s0 H0) env σ) (h : ((g env s.t).bind k).Post P (XP I K W s0 σ H0))
    (c : ∀ x s1 H1, Po I K s0 H0 s1 H1 → Po I K s H s1 H1 → (k x s1.t).Post P (XP I K W s0 σ H0) → Q x H1) : tGO I K W g σ H Q :=
  ⟨env, s, p.ok, re.same p.same, (R.post_bind h).mono (fun x t hk s1 H1 e p1 => c x s1 H1 (p.trans p1) p1 (by rw [e]; exact hk)) fun x t hx => xp_from p hx⟩
theorem do_none : DO I K W F none (sC none) := fun _ => po_none.imp fun σ H Q ⟨env, s, ok, re, h⟩ => h s H rfl (Po.refl ok)
def isI : D → Option Int
  | .d (.int i) => some i
  | _ => none
theorem isI_some {d : D} {b : Int} (h : isI d = some b) : d = .d (.int b) := by
  unfold isI at h
  split at h
  · cases h; rfl
  · cases h
theorem isI_at {H : Vw} {d : D} {b : Int} {v : V} (h : isI d = some b) (r : Rp K H d v) : v = .int b := by
  have q := isI_some h
  subst q
  cases r
  rfl
def sPart (a : Sm D) : Sm (Option Int) := fun env t => (a env t).bind fun x t => (ofO (isI x) t).bind fun b t => .ok (some b) t
def pPart (a : Pm D) : Pm (Option Int) := fun env => (a env).bind fun x => (isI x).map some
theorem lift_part (a : Pm D) : lift (pPart a) = sPart (lift a) := by
  funext env s
  unfold lift pPart sPart
  dsimp only
  cases a env with
  | none => rfl
  | some x =>
    simp only [Option.bind_some, ofO, R.bind]
    cases isI x <;> rfl
theorem do_some {e : Expr} {g : Sm D} (h : DE I K W F e g) : DO I K W F (some e) (sPart g) := fun i => (po_some (h i)).imp fun σ H Q ⟨env, s, ok, re, h⟩ =>
  step (Po.refl ok) re h fun x v s1 H1 p1 _ r1 h => by
    obtain ⟨c, e, h⟩ := post_ofO (R.post_bind h)
    exact ⟨c, isI_at e r1, h s1 H1 rfl p1⟩
def SlD (K : PySem.W.Frag) (r : V → Option Int → Option Int → Hp → VK → Prop) (f : D → Option Int → Option Int → Option D) : Prop := ∀ (I : SI) (s : I.S) (H : Hp) (x z : D) (lo hi : Option Int) (a : V) (Q : VK), I.ok K s H → Rp K (Hr I s H) x a → f x lo hi = some z →
  (∀ v H', Po I K s H s H' → Rp K (Hr I s H') z v → Q v H') → r a lo hi H Q
def sSl (f : D → Option Int → Option Int → Option D) (a : Sm D) (l u : Sm (Option Int)) : Sm D := fun env t => (a env t).bind fun x t => (l env t).bind fun y t => (u env t).bind fun z t => ofO (f x y z) t
def pSl (f : D → Option Int → Option Int → Option D) (a : Pm D) (l u : Pm (Option Int)) : Pm D := fun env => (a env).bind fun p => (l env).bind fun q => (u env).bind fun r => f p q r
theorem lift_sl (f : D → Option Int → Option Int → Option D) (a : Pm D) (l u : Pm (Option Int)) : lift (pSl f a l u) = sSl f (lift a) (lift l) (lift u) := by
  funext env s
  unfold lift pSl sSl
  dsimp only
  cases a env with
  | none => rfl
  | some x =>
    simp only [Option.bind_some, ofO, R.bind]
    cases l env with
    | none => rfl
    | some y =>
      simp only [Option.bind_some]
      cases u env <;> rfl
theorem de_slice {e : Expr} {lo hi : Option Expr} {p2 : Pos} {f : D → Option Int → Option Int → Option D} {g : Sm D} {gl gu : Sm (Option Int)} (h : ∃ r, (∀ i, SlR (F i) r) ∧ SlD K r f) (he : DE I K W F e g) (hl : DO I K W F lo gl) (hu : DO I K W F hi gu) :
    DE I K W F (.Subscript e (.Slice lo hi none p2) pos) (sSl f g gl gu) := by
  obtain ⟨r, h1, h2⟩ := h
  exact fun i => (pe_slice (h1 i) (he i) (hl i) (hu i)).imp fun σ H Q ⟨env, s, ok, re, h⟩ =>
    step (Po.refl ok) re h fun x v s1 H1 p1 _ r1 h => stepO p1 re h fun y s2 H2 p2 q2 h => stepO p2 re h fun z s3 H3 p3 q3 h => by
      obtain ⟨b, e, h⟩ := post_ofO h
      exact h2 I s3 H3 x b y z v Q p3.ok (rp_same (q2.trans q3).same r1) e fun v H' p4 r4 => h v s3 H' rfl (p3.trans p4) r4
/-- a value by a function -/
def sAp (f : D → Option D) (a : Sm D) : Sm D := fun env t => (a env t).bind fun x t => ofO (f x) t
def pAp (f : D → Option D) (a : Pm D) : Pm D := fun env => (a env).bind f
theorem lift_ap (f : D → Option D) (a : Pm D) : lift (pAp f a) = sAp f (lift a) := by
  funext env s
  unfold lift pAp sAp
  dsimp only
  cases a env <;> rfl
end
end Dl
set_option maxRecDepth 100000
set_option maxHeartbeats 4000000
namespace Dl
open PySem L2

/-! ### trees: one place replaced -/
def isNd : Tr → Bool
  | .nd _ _ => true
  | .v _ => false
def Tr.put : Tr → Pth → Tr → Option Tr
  | _, [], u => some u
  | .v _, _ :: _, _ => none
  | .nd k ts, j :: p, u => match ts[j]? with
    | some t => (t.put p u).map fun t' => .nd k (ts.set j t')
    | none => none
theorem get_nil (T : Tr) : T.get [] = some T := by cases T <;> rfl
theorem put_nil (T u : Tr) : T.put [] u = some u := by cases T <;> rfl
theorem get_app : ∀ {p q : Pth} {T : Tr}, T.get (p ++ q) = (T.get p).bind fun t => t.get q
  | [], q, T => by rw [get_nil]; rfl
  | j :: p, q, .v d => rfl
  | j :: p, q, .nd k ts => by
    show (match ts[j]? with | some t => t.get (p ++ q) | none => none) = ((match ts[j]? with | some t => t.get p | none => none)).bind _
    cases ts[j]? with
    | none => rfl
    | some t => exact get_app
theorem put_get : ∀ {p q : Pth} {T T' u : Tr}, T.put p u = some T' → T'.get (p ++ q) = u.get q
  | [], q, T, T', u, h => by rw [put_nil] at h; cases h; rfl
  | j :: p, q, .v d, T', u, h => by cases h
  | j :: p, q, .nd k ts, T', u, h => by
    have h : (match ts[j]? with | some t => (t.put p u).map fun t' => Tr.nd k (ts.set j t') | none => none) = some T' := h
    cases e : ts[j]? with
    | none => rw [e] at h; cases h
    | some t =>
      rw [e] at h
      dsimp only at h
      cases e2 : t.put p u with
      | none => rw [e2] at h; cases h
      | some t' =>
        rw [e2] at h
        cases h
        show (match (ts.set j t')[j]? with | some t => t.get (p ++ q) | none => none) = _
        rw [List.getElem?_set_self (List.getElem?_eq_some_iff.mp e).1]
        exact put_get e2
theorem put_some : ∀ {p : Pth} {T t u : Tr}, T.get p = some t → ∃ T', T.put p u = some T'
  | [], T, t, u, _ => ⟨u, put_nil T u⟩
  | j :: p, .v d, t, u, h => by cases h
  | j :: p, .nd k ts, t, u, h => by
    have h : (match ts[j]? with | some t => t.get p | none => none) = some t := h
    cases e : ts[j]? with
    | none => rw [e] at h; cases h
    | some t0 =>
      rw [e] at h
      dsimp only at h
      obtain ⟨T', h'⟩ := put_some (u := u) h
      refine ⟨.nd k (ts.set j T'), ?_⟩
      show (match ts[j]? with | some t => (t.put p u).map fun t' => Tr.nd k (ts.set j t') | none => none) = _
      rw [e]
      dsimp only
      rw [h']
      rfl
/-- alike but for what stands below -/
inductive Sim : List Tr → List Tr → Prop
  | nil : Sim [] []
  | cons {t u : Tr} {ts us : List Tr} : (t = u ∨ (isNd t = true ∧ isNd u = true)) → Sim ts us → Sim (t :: ts) (u :: us)
theorem Sim.refl : ∀ ts : List Tr, Sim ts ts
  | [] => .nil
  | _ :: ts => .cons (.inl rfl) (Sim.refl ts)
theorem Sim.set : ∀ {ts : List Tr} {j : Nat} {t u : Tr}, ts[j]? = some t → isNd t = true → isNd u = true → Sim ts (ts.set j u)
  | [], _, _, _, h, _, _ => by simp at h
  | _ :: ts, 0, _, _, h, h1, h2 => by simp at h; subst h; exact .cons (.inr ⟨h1, h2⟩) (Sim.refl ts)
  | _ :: ts, j + 1, t, u, h, h1, h2 => .cons (.inl rfl) (Sim.set (t := t) (by simpa using h) h1 h2)
theorem Sim.get : ∀ {ts us : List Tr} {j : Nat} {u : Tr}, Sim ts us → us[j]? = some u → ∃ t, ts[j]? = some t ∧ (t = u ∨ (isNd t = true ∧ isNd u = true))
  | _, _, _, _, .nil, h => by simp at h
  | _, _, 0, _, .cons h _, e => by simp at e; subst e; exact ⟨_, rfl, h⟩
  | _, _, j + 1, u, .cons _ t, e => by
    obtain ⟨x, h1, h2⟩ := Sim.get (j := j) (u := u) t (by simpa using e)
    exact ⟨x, by simpa using h1, h2⟩
/-- what stands at a place off p, before and behind a change at p -/
def Off (a b : Option Tr) : Prop := a = b ∨ ∃ k us us', a = some (.nd k us) ∧ b = some (.nd k us') ∧ Sim us us'
theorem put_isNd : ∀ {p : Pth} {T T' : Tr} {u : Tr}, T.put p u = some T' → isNd u = true → isNd T' = true
  | [], T, T', u, h, hu => by rw [put_nil] at h; cases h; exact hu
  | j :: p, .v d, T', u, h, hu => by cases h
  | j :: p, .nd k ts, T', u, h, hu => by
    have h : (match ts[j]? with | some t => (t.put p u).map fun t' => Tr.nd k (ts.set j t') | none => none) = some T' := h
    cases e : ts[j]? with
    | none => rw [e] at h; cases h
    | some t =>
      rw [e] at h
      dsimp only at h
      cases e2 : t.put p u with
      | none => rw [e2] at h; cases h
      | some t' => rw [e2] at h; cases h; rfl
theorem get_isNd {p : Pth} {T : Tr} {k : Kd} {ts : List Tr} (h : T.get p = some (.nd k ts)) : isNd T = true := by
  cases T with
  | nd _ _ => rfl
  | v d =>
    cases p with
    | nil => rw [get_nil] at h; cases h
    | cons j p => cases h
theorem put_off : ∀ {p q : Pth} {T T' : Tr} {k : Kd} {ts : List Tr} {u : Tr}, T.put p u = some T' → T.get p = some (.nd k ts) → isNd u = true → (∀ r, q ≠ p ++ r) → Off (T.get q) (T'.get q)
  | [], q, _, _, _, _, _, _, _, _, n => absurd rfl (n q)
  | j :: p, [], .v d, T', k, ts, u, h, _, _, _ => by cases h
  | j :: p, [], .nd k0 ts0, T', k, ts, u, h, hg, hu, n => by
    have h : (match ts0[j]? with | some t => (t.put p u).map fun t' => Tr.nd k0 (ts0.set j t') | none => none) = some T' := h
    have hg : (match ts0[j]? with | some t => t.get p | none => none) = some (.nd k ts) := hg
    cases e : ts0[j]? with
    | none => rw [e] at h; cases h
    | some t =>
      rw [e] at h hg
      dsimp only at h hg
      cases e2 : t.put p u with
      | none => rw [e2] at h; cases h
      | some t' =>
        rw [e2] at h
        cases h
        exact .inr ⟨k0, ts0, ts0.set j t', rfl, rfl, Sim.set e (get_isNd hg) (put_isNd e2 hu)⟩
  | j :: p, i :: q, .v d, T', k, ts, u, h, _, _, _ => by cases h
  | j :: p, i :: q, .nd k0 ts0, T', k, ts, u, h, hg, hu, n => by
    have h : (match ts0[j]? with | some t => (t.put p u).map fun t' => Tr.nd k0 (ts0.set j t') | none => none) = some T' := h
    have hg' : (match ts0[j]? with | some t => t.get p | none => none) = some (.nd k ts) := hg
    cases e : ts0[j]? with
    | none => rw [e] at h; cases h
    | some t =>
      rw [e] at h hg'
      dsimp only at h hg'
      cases e2 : t.put p u with
      | none => rw [e2] at h; cases h
      | some t' =>
        rw [e2] at h
        cases h
        show Off (match ts0[i]? with | some t => t.get q | none => none) (match (ts0.set j t')[i]? with | some t => t.get q | none => none)
        by_cases c : i = j
        · subst c
          have e' := e
          rw [e, List.getElem?_set_self (List.getElem?_eq_some_iff.mp e').1]
          exact put_off (k := k) (ts := ts) e2 hg' hu fun r z => n r (by rw [z]; rfl)
        · rw [List.getElem?_set_ne (fun z => c z.symm)]
          exact .inl rfl
theorem chs_sim {K : PySem.W.Frag} {vw : Vw} {n : Nat} {p : Pth} : ∀ {j : Nat} {ts us : List Tr} {vs : List V}, Chs K vw n p j ts vs → Sim ts us → Chs K vw n p j us vs
  | _, _, _, _, .nil, .nil => .nil
  | _, t :: _, u :: _, _, .cons h r, .cons e q => by
    refine .cons ?_ (chs_sim r q)
    rcases e with e | ⟨e1, e2⟩
    · rw [← e]; exact h
    · cases t with
      | v d => cases e1
      | nd k ts =>
        cases u with
        | v d => cases e2
        | nd k' us => exact h
theorem getT_some {t : Ts} {n : Nat} {p : Pth} {u : Tr} (h : getT t n p = some u) : ∃ T, t[n]? = some (some T) ∧ T.get p = some u := by
  unfold getT at h
  split at h
  · rename_i T e
    exact ⟨T, e, h⟩
  · cases h
theorem getT_of {t : Ts} {n : Nat} {p : Pth} {T : Tr} (h : t[n]? = some (some T)) : getT t n p = T.get p := by
  unfold getT
  rw [h]
theorem off_nd {a b : Option Tr} {k : Kd} {us : List Tr} (h : Off a b) (e : b = some (.nd k us)) : ∃ ts, a = some (.nd k ts) ∧ Sim ts us := by
  rcases h with h | ⟨k', u1, u2, h1, h2, h3⟩
  · exact ⟨us, by rw [h]; exact e, Sim.refl us⟩
  · rw [e] at h2
    cases h2
    exact ⟨u1, h1, h3⟩
theorem off_nd' {a b : Option Tr} {k : Kd} {us : List Tr} (h : Off a b) (e : a = some (.nd k us)) : ∃ ts, b = some (.nd k ts) ∧ Sim us ts := by
  rcases h with h | ⟨k', u1, u2, h1, h2, h3⟩
  · exact ⟨us, by rw [← h]; exact e, Sim.refl us⟩
  · rw [e] at h1
    cases h1
    exact ⟨u2, h2, h3⟩
/-- an object's own change: what stood below stays there, and nothing else comes there -/
def Kp (ts us : List Tr) : Prop := ∀ (i : Nat) (t : Tr), isNd t = true → (us[i]? = some t ↔ ts[i]? = some t)
theorem nd_get {k : Kd} {ts : List Tr} {i : Nat} {r : Pth} : (Tr.nd k ts).get (i :: r) = (ts[i]?).bind fun t => t.get r := by
  show (match ts[i]? with | some t => t.get r | none => none) = _
  cases ts[i]? <;> rfl
theorem kp_get {ts us : List Tr} {k k' kk : Kd} {xs : List Tr} {i : Nat} {r : Pth} (h : Kp ts us) : (Tr.nd k' us).get (i :: r) = some (.nd kk xs) ↔ (Tr.nd k ts).get (i :: r) = some (.nd kk xs) := by
  rw [nd_get, nd_get]
  constructor
  · intro e
    cases q : us[i]? with
    | none => rw [q] at e; cases e
    | some t =>
      rw [q] at e
      rw [(h i t (get_isNd e)).mp q]
      exact e
  · intro e
    cases q : ts[i]? with
    | none => rw [q] at e; cases e
    | some t =>
      rw [q] at e
      rw [(h i t (get_isNd e)).mpr q]
      exact e
section
variable {I : SI} {K : PySem.W.Frag} {s : St1} {H : Hp}
/-- the nodes behind a change of one object are those before -/
theorem put_back {t : Ts} {n : Nat} {p : Pth} {T T' : Tr} {k k' : Kd} {ts us : List Tr} (h1 : t[n]? = some (some T)) (h2 : T.get p = some (.nd k ts)) (h3 : T.put p (.nd k' us) = some T') (hk : Kp ts us) {m : Nat} {q : Pth} {kq : Kd} {xs : List Tr}
    (e : getT (t.set n (some T')) m q = some (.nd kq xs)) : (m = n ∧ q = p ∧ kq = k' ∧ xs = us) ∨ (¬ (m = n ∧ q = p) ∧ ∃ ys, getT t m q = some (.nd kq ys) ∧ Sim ys xs) := by
  by_cases c : m = n
  · subst c
    have hl := (List.getElem?_eq_some_iff.mp h1).1
    rw [getT_of (T := T') (by rw [List.getElem?_set_self hl])] at e
    by_cases c2 : ∃ r, q = p ++ r
    · obtain ⟨r, rfl⟩ := c2
      rw [put_get h3] at e
      cases r with
      | nil =>
        rw [get_nil] at e
        cases e
        exact .inl ⟨rfl, List.append_nil _, rfl, rfl⟩
      | cons i r =>
        refine .inr ⟨fun z => absurd z.2 (by simp), xs, ?_, Sim.refl xs⟩
        rw [getT_of h1, get_app, h2]
        exact (kp_get (k := k) hk).mp e
    · have c2 : ∀ r, q ≠ p ++ r := fun r z => c2 ⟨r, z⟩
      obtain ⟨ys, z1, z2⟩ := off_nd (put_off h3 h2 rfl c2) e
      exact .inr ⟨fun z => c2 [] (by rw [z.2, List.append_nil]), ys, by rw [getT_of h1]; exact z1, z2⟩
  · refine .inr ⟨fun z => c z.1, xs, ?_, Sim.refl xs⟩
    unfold getT at e ⊢
    rw [List.getElem?_set_ne (fun z => c z.symm)] at e
    exact e
theorem put_forth {t : Ts} {n : Nat} {p : Pth} {T T' : Tr} {k k' : Kd} {ts us : List Tr} (h1 : t[n]? = some (some T)) (h2 : T.get p = some (.nd k ts)) (h3 : T.put p (.nd k' us) = some T') (hk : Kp ts us) {q : Pth} {kq : Kd} {xs : List Tr}
    (e : T.get q = some (.nd kq xs)) : ∃ kk ys, T'.get q = some (.nd kk ys) := by
  by_cases c2 : ∃ r, q = p ++ r
  · obtain ⟨r, rfl⟩ := c2
    rw [put_get h3]
    cases r with
    | nil => exact ⟨k', us, get_nil _⟩
    | cons i r =>
      rw [get_app, h2] at e
      exact ⟨kq, xs, (kp_get (k := k) hk).mpr e⟩
  · obtain ⟨ys, z1, z2⟩ := off_nd' (put_off h3 h2 rfl fun r z => c2 ⟨r, z⟩) e
    exact ⟨kq, ys, z1⟩
/-- one object changes, and nothing comes below it -/
theorem po_put {n : Nat} {p : Pth} {T T' : Tr} {k k' : Kd} {ts us : List Tr} {a dx : Addr} {vs : List V} {o : HO} (ok : I.ok K s H) (h1 : s.t[n]? = some (some T)) (h2 : T.get p = some (.nd k ts)) (h3 : T.put p (.nd k' us) = some T') (hk : Kp ts us)
    (hi : k'.isIns = k.isIns) (hw : s.w n p = some (a, dx)) (hh : Holds I.mg (upd H a o) a dx vs k') (hc : Chs K (Hr I s H) n p 0 us vs) : Po I K s H { s with t := s.t.set n (some T') } (upd H a o) := by
  have g0 : getT s.t n p = some (.nd k ts) := by rw [getT_of h1]; exact h2
  obtain ⟨a', dx', vs0, w0, z0, zx0, c0, hd0⟩ := ok.nod n p k ts g0
  rw [hw] at w0
  cases w0
  obtain ⟨o0, ho0, hnt, hno, hnb⟩ := holds_at hd0
  -- addresses stay
  have adr : ∀ b, Adr { s with t := s.t.set n (some T') } b → Adr s b := fun b ⟨m, q, kq, xs, b1, b2, e1, e2, e3⟩ => by
    rcases put_back h1 h2 h3 hk e1 with ⟨rfl, rfl, rfl, rfl⟩ | ⟨_, ys, e4, _⟩
    · exact ⟨m, q, k, ts, b1, b2, g0, e2, by rw [← hi]; exact e3⟩
    · exact ⟨m, q, kq, ys, b1, b2, e4, e2, e3⟩
  have mm : ∀ b, I.M { s with t := s.t.set n (some T') } b → I.M s b := fun b m => by
    rcases m with m | m
    · exact .inl (adr b m)
    · exact .inr m
  have ma : I.M s a := .inl ⟨n, p, k, ts, a, dx, g0, hw, .inl rfl⟩
  have vle : VLe (Hr I s H) (Hr I { s with t := s.t.set n (some T') } (upd H a o)) := vle_of (fun b u hb => by
    obtain ⟨b1, b2⟩ := hr_of hb
    exact hr_in (by rw [upd_ne (fun z => b2 (by rw [z]; exact ma))]; exact b1) fun z => b2 (mm b z)) fun _ _ _ e => e
  have ne : ∀ {m q kq xs b1 b2 ws}, ¬ (m = n ∧ q = p) → getT s.t m q = some (.nd kq xs) → s.w m q = some (b1, b2) → Holds I.mg H b1 b2 ws kq → b1 ≠ a ∧ (kq.isIns = true → b2 ≠ a) := fun {m q kq xs b1 b2 ws} nn e1 e2 e3 =>
    ⟨fun z => nn (ok.inj m q kq xs n p k ts a b2 dx e1 g0 (by rw [← z]; exact e2) hw), fun hi z => by
      have := holds_dx e3 hi
      rw [z, ho0] at this
      exact hno _ (Option.some.inj this)⟩
  refine ⟨fun b u m e => ?_, ⟨fun m q kq xs e => ?_, fun m q kq xs m' q' kq' xs' b b2 b3 e e' e1 e2 => ?_, fun m q x e => ?_, fun b u e => ?_, fun q hq => ?_, ok.fl⟩, fun b m => .inl (mm b m), fun b u e => ?_, fun _ _ _ e => e, rfl⟩
  · rw [upd_ne (fun z => m (by rw [z]; exact ma))]
    exact e
  · rcases put_back h1 h2 h3 hk e with ⟨rfl, rfl, rfl, rfl⟩ | ⟨nn, ys, e4, sm⟩
    · exact ⟨a, dx, vs, hw, z0, by rw [hi]; exact zx0, chs_same vle hc, hh⟩
    · obtain ⟨b1, b2, ws, w1, z1, zx1, c1, hd1⟩ := ok.nod m q kq ys e4
      obtain ⟨n1, n2⟩ := ne nn e4 w1 hd1
      exact ⟨b1, b2, ws, w1, z1, zx1, chs_sim (chs_same vle c1) sm, holds_same (fun u z => by rw [upd_ne n1]; exact z) (fun hi u z => by rw [upd_ne (n2 hi)]; exact z) hd1⟩
  · have f : ∀ {m q kq xs}, getT (s.t.set n (some T')) m q = some (.nd kq xs) → ∃ kk ys, getT s.t m q = some (.nd kk ys) := fun {m q kq xs} e => by
      rcases put_back h1 h2 h3 hk e with ⟨rfl, rfl, rfl, rfl⟩ | ⟨nn, ys, e4, sm⟩
      · exact ⟨k, ts, g0⟩
      · exact ⟨kq, ys, e4⟩
    obtain ⟨k1, y1, f1⟩ := f e
    obtain ⟨k2, y2, f2⟩ := f e'
    exact ok.inj m q k1 y1 m' q' k2 y2 b b2 b3 f1 f2 e1 e2
  · obtain ⟨d1, d2⟩ := ok.dom m q x e
    refine ⟨by rw [List.length_set]; exact d1, fun U hU => ?_⟩
    by_cases c : m = n
    · subst c
      rw [List.getElem?_set_self d1] at hU
      cases hU
      obtain ⟨kk, xs, g⟩ := d2 T h1
      exact put_forth h1 h2 h3 hk g
    · rw [List.getElem?_set_ne (fun z => c z.symm)] at hU
      exact d2 U hU
  · obtain ⟨e1, e2⟩ := ok.z b u e
    exact ⟨by rw [upd_ne (fun z => by rw [z, z0] at e; cases e)]; exact e1, e2⟩
  · obtain ⟨ps, t1, t2, t3⟩ := ok.tab q hq
    refine ⟨ps, by rw [upd_ne (fun z => by rw [z, ho0] at t1; exact hnb _ (Option.some.inj t1))]; exact t1, t2, fun p' cv hcv => ?_⟩
    obtain ⟨c1, y1, y2⟩ := t3 p' cv hcv
    refine ⟨c1, y1, ?_⟩
    rw [upd_ne (fun z => ?_)]
    · exact y2
    · rw [z, ho0] at y2
      have y2 := Option.some.inj y2
      subst y2
      cases k with
      | lst => rw [show H a = _ from hd0] at ho0; cases ho0
      | dic ks => rw [hd0.2.2] at ho0; cases ho0
      | ins c ks => obtain ⟨_, _, C, _, h4, _⟩ := hd0; rw [h4] at ho0; cases ho0
      | dct ks => rw [hd0.2.2] at ho0; cases ho0
  · by_cases c : b = a
    · subst c; exact ⟨_, upd_same⟩
    · exact ⟨u, by rw [upd_ne c]; exact e⟩
end
end Dl
set_option maxRecDepth 100000
set_option maxHeartbeats 4000000
namespace Dl
open PySem L2
section
variable {I : SI} {K : PySem.W.Frag} {s : St1} {H H' : Hp}

/-! ### a new tree -/
abbrev allocS (s : St1) (k : Kd) (ds : List D) (a dx : Addr) : St1 := { s with t := s.t ++ [some (.nd k (ds.map Tr.v))], w := fun n p => if n = s.t.length ∧ p = [] then some (a, dx) else s.w n p }
theorem chs_v {vw : Vw} {n : Nat} {p : Pth} : ∀ {j : Nat} {ds : List D} {vs : List V}, RpL K vw ds vs → topL ds = 0 → Chs K vw n p j (ds.map Tr.v) vs
  | _, _, _, .nil, _ => .nil
  | _, _, _, .cons h t, e => by
    unfold topL at e
    exact .cons ⟨h, by omega⟩ (chs_v t (by omega))
theorem get_leafs {k : Kd} {ds : List D} {p : Pth} {kq : Kd} {xs : List Tr} (h : (Tr.nd k (ds.map Tr.v)).get p = some (.nd kq xs)) : p = [] ∧ kq = k ∧ xs = ds.map Tr.v := by
  cases p with
  | nil => rw [get_nil] at h; cases h; exact ⟨rfl, rfl, rfl⟩
  | cons j p =>
    rw [nd_get, List.getElem?_map] at h
    cases e : ds[j]? with
    | none => rw [e] at h; cases h
    | some d =>
      rw [e] at h
      cases p with
      | nil => cases h
      | cons _ _ => cases h
theorem app_get {t : Ts} {x : Option Tr} {n : Nat} {p : Pth} {u : Tr} (h : getT (t ++ [x]) n p = some u) : (n = t.length ∧ ∃ T, x = some T ∧ T.get p = some u) ∨ getT t n p = some u := by
  obtain ⟨T, h1, h2⟩ := getT_some h
  by_cases c : n < t.length
  · rw [List.getElem?_append_left c] at h1
    exact .inr (by rw [getT_of h1]; exact h2)
  · have e : n = t.length := by
      have := (List.getElem?_eq_some_iff.mp h1).1
      rw [List.length_append] at this
      have : n < t.length + 1 := this
      omega
    subst e
    rw [List.getElem?_append_right (Nat.le_refl _), Nat.sub_self] at h1
    cases h1
    exact .inl ⟨rfl, T, rfl, h2⟩
theorem po_alloc {k : Kd} {ds : List D} {a dx : Addr} {vs : List V} (ok : I.ok K s H) (hs : Same H H') (ha : H a = none) (hx : k.isIns = true → H dx = none) (hh : Holds I.mg H' a dx vs k) (hr : RpL K (Hr I s H) ds vs) (ht : topL ds = 0) :
    Po I K s H (allocS s k ds a dx) H' := by
  have wl : ∀ n p x, s.w n p = some x → (allocS s k ds a dx).w n p = some x := fun n p x e => by
    have := (ok.dom n p x e).1
    show (if n = s.t.length ∧ p = [] then some (a, dx) else s.w n p) = some x
    rw [if_neg (fun z => by omega)]
    exact e
  have g1 : ∀ {n p kq xs}, getT s.t n p = some (.nd kq xs) → (allocS s k ds a dx).w n p = s.w n p := fun {n p kq xs} e => by
    obtain ⟨T, e1, _⟩ := getT_some e
    have := (List.getElem?_eq_some_iff.mp e1).1
    show (if n = s.t.length ∧ p = [] then some (a, dx) else s.w n p) = s.w n p
    exact if_neg (fun z => by omega)
  have g2 : (allocS s k ds a dx).w s.t.length [] = some (a, dx) := if_pos ⟨rfl, rfl⟩
  have back : ∀ {n p kq xs}, getT (allocS s k ds a dx).t n p = some (.nd kq xs) → (n = s.t.length ∧ p = [] ∧ kq = k ∧ xs = ds.map Tr.v) ∨ getT s.t n p = some (.nd kq xs) := fun {n p kq xs} e => by
    rcases app_get e with ⟨e1, T, e2, e3⟩ | e
    · cases e2
      obtain ⟨f1, f2, f3⟩ := get_leafs e3
      exact .inl ⟨e1, f1, f2, f3⟩
    · exact .inr e
  have mm : ∀ b, I.M (allocS s k ds a dx) b → I.M s b ∨ H b = none := fun b m => by
    rcases m with ⟨n, p, kq, xs, b1, b2, e1, e2, e3⟩ | m
    · rcases back e1 with ⟨rfl, rfl, rfl, rfl⟩ | e4
      · rw [g2] at e2
        cases e2
        rcases e3 with e3 | ⟨e3, e5⟩
        · subst e3; exact .inr ha
        · subst e5; exact .inr (hx e3)
      · rw [g1 e4] at e2
        exact .inl (.inl ⟨n, p, kq, xs, b1, b2, e4, e2, e3⟩)
    · exact .inl (.inr m)
  have vle : VLe (Hr I s H) (Hr I (allocS s k ds a dx) H') := vle_of (fun b u hb => by
    obtain ⟨b1, b2⟩ := hr_of hb
    exact hr_in (hs b u b1) fun z => (mm b z).elim b2 fun z => by rw [z] at b1; cases b1) wl
  refine ⟨fun b u _ e => hs b u e, ⟨fun n p kq xs e => ?_, fun n p kq xs n' p' kq' xs' b b2 b3 e e' e1 e2 => ?_, fun n p x e => ?_, fun b u e => ⟨hs b u (ok.z b u e).1, (ok.z b u e).2⟩, ok.tab.ext hs, fun n p x e => wl n p x (ok.fl n p x e)⟩, mm, fun b u e => ⟨u, hs b u e⟩, wl, rfl⟩
  · rcases back e with ⟨rfl, rfl, rfl, rfl⟩ | e4
    · refine ⟨a, dx, vs, g2, ?_, fun hi => ?_, chs_v (rpl_same vle hr) ht, hh⟩
      · cases q : s.Z a with
        | none => rfl
        | some u => rw [(ok.z a u q).1] at ha; cases ha
      · cases q : s.Z dx with
        | none => rfl
        | some u => have := hx hi; rw [(ok.z dx u q).1] at this; cases this
    · obtain ⟨b1, b2, ws, w1, z1, zx1, c1, hd1⟩ := ok.nod n p kq xs e4
      exact ⟨b1, b2, ws, wl _ _ _ w1, z1, zx1, chs_same vle c1, holds_same (fun u z => hs _ _ z) (fun _ u z => hs _ _ z) hd1⟩
  · have nw : ∀ {n p kq xs b b2}, getT s.t n p = some (.nd kq xs) → (allocS s k ds a dx).w n p = some (b, b2) → b ≠ a := fun {n p kq xs b b2} e4 e5 z => by
      rw [g1 e4] at e5
      obtain ⟨c1, c2, ws, w1, z1, zx1, cc, hd1⟩ := ok.nod n p kq xs e4
      rw [e5] at w1
      cases w1
      obtain ⟨o, ho, _⟩ := holds_at hd1
      rw [z, ha] at ho
      cases ho
    rcases back e with ⟨rfl, rfl, rfl, rfl⟩ | e4
    · rcases back e' with ⟨rfl, rfl, rfl, rfl⟩ | e5
      · exact ⟨rfl, rfl⟩
      · rw [g2] at e1
        cases e1
        exact absurd rfl (nw e5 e2)
    · rcases back e' with ⟨rfl, rfl, rfl, rfl⟩ | e5
      · rw [g2] at e2
        cases e2
        exact absurd rfl (nw e4 e1)
      · rw [g1 e4] at e1
        rw [g1 e5] at e2
        exact ok.inj n p kq xs n' p' kq' xs' b b2 b3 e4 e5 e1 e2
  · have e : (if n = s.t.length ∧ p = [] then some (a, dx) else s.w n p) = some x := e
    by_cases c : n = s.t.length ∧ p = []
    · obtain ⟨rfl, rfl⟩ := c
      refine ⟨by rw [List.length_append]; exact Nat.lt_succ_self _, fun T hT => ?_⟩
      rw [List.getElem?_append_right (Nat.le_refl _), Nat.sub_self] at hT
      cases hT
      exact ⟨k, _, get_nil _⟩
    · rw [if_neg c] at e
      obtain ⟨d1, d2⟩ := ok.dom n p x e
      refine ⟨by rw [List.length_append]; omega, fun T hT => ?_⟩
      rw [List.getElem?_append_left d1] at hT
      exact d2 T hT

/-! ### a tree is no more -/
abbrev killS (s : St1) (m : Nat) : St1 := { s with t := s.t.set m none }
theorem kill_get {t : Ts} {m n : Nat} {p : Pth} {u : Tr} (h : getT (t.set m none) n p = some u) : n ≠ m ∧ getT t n p = some u := by
  obtain ⟨T, h1, h2⟩ := getT_some h
  by_cases c : n = m
  · subst c
    have hl := (List.getElem?_eq_some_iff.mp h1).1
    rw [List.length_set] at hl
    rw [List.getElem?_set_self hl] at h1
    cases h1
  · rw [List.getElem?_set_ne (fun z => c z.symm)] at h1
    exact ⟨c, by rw [getT_of h1]; exact h2⟩
theorem po_kill (m : Nat) (ok : I.ok K s H) : Po I K s H (killS s m) H := by
  have mm : ∀ b, I.M (killS s m) b → I.M s b := fun b mb => by
    rcases mb with ⟨n, p, kq, xs, b1, b2, e1, e2, e3⟩ | mb
    · exact .inl ⟨n, p, kq, xs, b1, b2, (kill_get e1).2, e2, e3⟩
    · exact .inr mb
  have vle : VLe (Hr I s H) (Hr I (killS s m) H) := vle_of (fun b u hb => by
    obtain ⟨b1, b2⟩ := hr_of hb
    exact hr_in b1 fun z => b2 (mm b z)) fun _ _ _ e => e
  refine ⟨fun b u _ e => e, ⟨fun n p kq xs e => ?_, fun n p kq xs n' p' kq' xs' b b2 b3 e e' e1 e2 => ok.inj n p kq xs n' p' kq' xs' b b2 b3 (kill_get e).2 (kill_get e').2 e1 e2, fun n p x e => ?_, ok.z, ok.tab, ok.fl⟩, fun b z => .inl (mm b z), fun b u e => ⟨u, e⟩, fun _ _ _ e => e, rfl⟩
  · obtain ⟨b1, b2, ws, w1, z1, zx1, c1, hd1⟩ := ok.nod n p kq xs (kill_get e).2
    exact ⟨b1, b2, ws, w1, z1, zx1, chs_same vle c1, hd1⟩
  · obtain ⟨d1, d2⟩ := ok.dom n p x e
    refine ⟨by rw [List.length_set]; exact d1, fun T hT => ?_⟩
    by_cases c : n = m
    · subst c
      rw [List.getElem?_set_self d1] at hT
      cases hT
    · rw [List.getElem?_set_ne (fun z => c z.symm)] at hT
      exact d2 T hT
/-- what stood at its root is free of the trees -/
theorem kill_free {m : Nat} {k : Kd} {ts : List Tr} {a dx : Addr} (ok : I.ok K s H) (h : getT s.t m [] = some (.nd k ts)) (hw : s.w m [] = some (a, dx)) : ¬ I.M (killS s m) a := fun mb => by
  obtain ⟨b1, b2, ws, w1, z1, zx1, c1, hd1⟩ := ok.nod m [] k ts h
  rw [hw] at w1
  cases w1
  obtain ⟨o, ho, hnt, hno, hnb⟩ := holds_at hd1
  rcases mb with ⟨n, p, kq, xs, b1, b2, e1, e2, e3⟩ | ⟨u, e⟩ | ⟨q, hq, e⟩
  · obtain ⟨f1, f2⟩ := kill_get e1
    rcases e3 with e3 | ⟨e3, e4⟩
    · subst e3
      exact f1 (ok.inj n p kq xs m [] k ts a b2 dx f2 h e2 hw).1
    · subst e4
      obtain ⟨c1, c2, ws', w1, z1, zx1, cc, hd2⟩ := ok.nod n p kq xs f2
      rw [e2] at w1
      cases w1
      rw [holds_dx hd2 e3] at ho
      exact hno _ (Option.some.inj ho).symm
  · rw [z1] at e; cases e
  · obtain ⟨ps, t1, _⟩ := ok.tab q hq
    rw [e, ho] at t1
    exact hnb _ (Option.some.inj t1)

/-! ### what a def has laid is forgotten at its end -/
abbrev cutS (s : St1) (L : Nat) : St1 := { s with t := s.t.take L, w := fun n p => if n < L then s.w n p else none }
theorem cut_get {t : Ts} {L n : Nat} {p : Pth} {u : Tr} (h : getT (t.take L) n p = some u) : n < L ∧ getT t n p = some u := by
  obtain ⟨T, h1, h2⟩ := getT_some h
  have hl := (List.getElem?_eq_some_iff.mp h1).1
  rw [List.length_take] at hl
  rw [List.getElem?_take, if_pos (by omega)] at h1
  exact ⟨by omega, by rw [getT_of h1]; exact h2⟩
/-- a value leans on trees below L alone -/
structure VLt (L : Nat) (A B : Vw) : Prop where
  h : Same A.h B.h
  w : ∀ n p x, n < L → A.w n p = some x → B.w n p = some x
  c : ∀ k v, A.c k v → B.c k v
  x : ∀ c y v, A.x c y v → B.x c y v
mutual
theorem rp_upto {L : Nat} {A B : Vw} (e : VLt L A B) : ∀ {d : D} {v : V}, top d ≤ L → Rp K A d v → Rp K B d v
  | .d x, _, _, h => dp_same e.h h
  | .o w, _, _, h => h
  | .kt x, _, _, h => h
  | .ob u, _, _, ⟨a, h1, h2⟩ => ⟨a, h1, e.h _ _ h2⟩
  | .r n p, _, ht, ⟨a, h1, h2⟩ => ⟨a, h1, e.w _ _ _ (by unfold top at ht; omega) h2⟩
  | .tp ds, _, ht, ⟨a, xs, h1, h2, h3⟩ => ⟨a, xs, h1, e.h _ _ h2, rpa_upto e (by unfold top at ht; exact ht) h3⟩
  | .ls ds, _, ht, ⟨a, xs, h1, h2, h3⟩ => ⟨a, xs, h1, e.h _ _ h2, rpa_upto e (by unfold top at ht; exact ht) h3⟩
  | .cl k, _, _, h => e.c _ _ h
  | .xn _ _, _, _, h => e.x _ _ _ h
  | .sc ns, _, _, ⟨a, h1, h2, h3⟩ => ⟨a, h1, sql_same e.h h2, h3⟩
  | .un, _, _, h => h
theorem rpa_upto {L : Nat} {A B : Vw} (e : VLt L A B) : ∀ {ds : List D} {vs : List V}, topL ds ≤ L → RpA K A ds vs → RpA K B ds vs
  | [], _, _, h => h
  | _ :: _, _, ht, ⟨v, us, h1, h2, h3⟩ => ⟨v, us, h1, rp_upto e (by unfold topL at ht; omega) h2, rpa_upto e (by unfold topL at ht; omega) h3⟩
end
theorem chs_upto {L : Nat} {A B : Vw} (e : VLt L A B) {n : Nat} {p : Pth} (hn : n < L) : ∀ {j : Nat} {ts : List Tr} {vs : List V}, Chs K A n p j ts vs → Chs K B n p j ts vs
  | _, _, _, .nil => .nil
  | _, .v d :: _, _, .cons h t => .cons ⟨rp_upto e (by rw [h.2]; exact Nat.zero_le _) h.1, h.2⟩ (chs_upto e hn t)
  | _, .nd _ _ :: _, _, .cons ⟨a, h1, h2⟩ t => .cons ⟨a, e.w _ _ _ hn h1, h2⟩ (chs_upto e hn t)
theorem cut_m {L : Nat} (b : Addr) (mb : I.M (cutS s L) b) : I.M s b := by
  rcases mb with ⟨n, p, kq, xs, b1, b2, e1, e2, e3⟩ | mb
  · obtain ⟨f1, f2⟩ := cut_get e1
    have e2 : (if n < L then s.w n p else none) = some (b1, b2) := e2
    rw [if_pos f1] at e2
    exact .inl ⟨n, p, kq, xs, b1, b2, f2, e2, e3⟩
  · exact .inr mb
theorem cut_vlt {L : Nat} : VLt L (Hr I s H) (Hr I (cutS s L) H) := by
  have hh : Same (Hr I s H).h (Hr I (cutS s L) H).h := fun b u hb => by
    obtain ⟨b1, b2⟩ := hr_of hb
    exact hr_in b1 fun z => b2 (cut_m b z)
  refine ⟨hh, fun n p x hn e => ?_, fun k v e => I.cs hh e, fun c y v e => I.xs hh e⟩
  show ((if n < L then s.w n p else none)).map (·.1) = some x
  rw [if_pos hn]
  exact e
theorem cut_ok (L : Nat) (ok : I.ok K s H) (hf : ∀ n p x, I.w0 n p = some x → n < L) : I.ok K (cutS s L) H := by
  have wc : ∀ {n p x}, (cutS s L).w n p = some x → n < L ∧ s.w n p = some x := fun {n p x} e => by
    have e : (if n < L then s.w n p else none) = some x := e
    by_cases c : n < L
    · rw [if_pos c] at e; exact ⟨c, e⟩
    · rw [if_neg c] at e; cases e
  refine ⟨fun n p kq xs e => ?_, fun n p kq xs n' p' kq' xs' b b2 b3 e e' e1 e2 => ok.inj n p kq xs n' p' kq' xs' b b2 b3 (cut_get e).2 (cut_get e').2 (wc e1).2 (wc e2).2, fun n p x e => ?_, ok.z, ok.tab, fun n p x e => by
    show (if n < L then s.w n p else none) = some x
    rw [if_pos (hf n p x e)]
    exact ok.fl n p x e⟩
  · obtain ⟨f1, f2⟩ := cut_get e
    obtain ⟨b1, b2, ws, w1, z1, zx1, c1, hd1⟩ := ok.nod n p kq xs f2
    exact ⟨b1, b2, ws, by show (if n < L then s.w n p else none) = _; rw [if_pos f1]; exact w1, z1, zx1, chs_upto cut_vlt f1 c1, hd1⟩
  · obtain ⟨f1, f2⟩ := wc e
    obtain ⟨d1, d2⟩ := ok.dom n p x f2
    refine ⟨by show n < (s.t.take L).length; rw [List.length_take]; omega, fun T hT => ?_⟩
    rw [List.getElem?_take, if_pos f1] at hT
    exact d2 T hT
theorem po_cut {s0 : St1} {H0 : Hp} {L : Nat} (p : Po I K s0 H0 s H) (ok0 : I.ok K s0 H0) (hL : s0.t.length ≤ L) : Po I K s0 H0 (cutS s L) H :=
  ⟨p.keep, cut_ok L p.ok (fun n q x e => Nat.lt_of_lt_of_le (ok0.dom n q x (ok0.fl n q x e)).1 hL), fun a m => p.gro a (cut_m a m), p.live, fun n q x e => by
    have h1 := p.wle n q x e
    have h2 := (ok0.dom n q x e).1
    show (if n < L then s.w n q else none) = some x
    rw [if_pos (by omega)]
    exact h1, p.ze⟩
theorem rp_cut {L : Nat} {d : D} {v : V} (h : Rp K (Hr I s H) d v) (ht : top d ≤ L) : Rp K (Hr I (cutS s L) H) d v := rp_upto cut_vlt ht h
theorem exat_cut {mg : Str → Option Value} {L : Nat} {x : Exn} {cls : Value} {d : Option Addr} (h : ExAt K mg (Hr I s H) x cls d) : ExAt K mg (Hr I (cutS s L) H) x cls d := by
  have e := (cut_vlt (I := I) (s := s) (H := H) (L := L)).h
  obtain ⟨C, h1, h2, h3⟩ := h
  refine ⟨C, h1, h2, ?_⟩
  cases q : x.x with
  | none => rw [q] at h3; exact h3
  | some y =>
    obtain ⟨f, y⟩ := y
    rw [q] at h3
    obtain ⟨dd, v, h4, h5, h6⟩ := h3
    exact ⟨dd, v, h4, e _ _ h5, dp_same e h6⟩
end
end Dl
set_option maxRecDepth 100000
set_option maxHeartbeats 4000000
namespace Dl
open PySem L2

/-! ### a tree becomes a part of another one -/
def stripP : Pth → Pth → Option Pth
  | [], q => some q
  | _ :: _, [] => none
  | a :: p, b :: q => if a = b then stripP p q else none
theorem stripP_some : ∀ {p q r : Pth}, stripP p q = some r ↔ q = p ++ r
  | [], q, r => by
    constructor
    · intro h; cases h; rfl
    · intro h; rw [h]; rfl
  | _ :: _, [], r => by constructor <;> intro h <;> cases h
  | a :: p, b :: q, r => by
    show (if a = b then stripP p q else none) = some r ↔ _
    by_cases c : a = b
    · subst c
      rw [if_pos rfl, stripP_some]
      constructor
      · intro h; rw [h]; rfl
      · intro h; injection h
    · rw [if_neg c]
      constructor
      · intro h; cases h
      · intro h; injection h with h _; exact absurd h.symm c
theorem stripP_app (p r : Pth) : stripP p (p ++ r) = some r := stripP_some.mpr rfl
abbrev attS (s : St1) (n : Nat) (p : Pth) (j m : Nat) (T' : Tr) : St1 := { s with t := (s.t.set n (some T')).set m none, w := fun n' q => if n' = n then match stripP (p ++ [j]) q with | some r => s.w m r | none => s.w n q else s.w n' q }
theorem chs_hole {K : PySem.W.Frag} {A B : Vw} (e : VLe A B) {n : Nat} {p : Pth} {a : Addr} {k : Kd} {ts : List Tr} : ∀ {i j : Nat} {us : List Tr} {vs : List V}, B.w n (p ++ [i + j]) = some a → Chs K A n p i (us.set j (.v (.o (.ref a)))) vs → us[j]? = some (.nd k ts) → Chs K B n p i us vs
  | _, _, [], _, _, _, h => by simp at h
  | i, 0, u :: us, _, hw, .cons h r, hu => by
    simp at hu
    subst hu
    exact .cons ⟨a, hw, h.1⟩ (chs_same e r)
  | i, j + 1, u :: us, _, hw, .cons h r, hu => by
    refine .cons ?_ (chs_hole e (by rw [Nat.add_right_comm]; exact hw) r (by simpa using hu))
    cases u with
    | v d => exact ⟨rp_same e h.1, h.2⟩
    | nd k ts => obtain ⟨b, h1, h2⟩ := h; exact ⟨b, e.w _ _ _ h1, h2⟩
section
variable {I : SI} {K : PySem.W.Frag} {s : St1} {H : Hp}
def Kj (j : Nat) (ts us : List Tr) : Prop := ∀ (i : Nat) (t : Tr), i ≠ j → isNd t = true → (us[i]? = some t ↔ ts[i]? = some t)
theorem kj_get {j : Nat} {ts us : List Tr} {k k' kk : Kd} {xs : List Tr} {i : Nat} {r : Pth} (h : Kj j ts us) (hi : i ≠ j) : (Tr.nd k' us).get (i :: r) = some (.nd kk xs) ↔ (Tr.nd k ts).get (i :: r) = some (.nd kk xs) := by
  rw [nd_get, nd_get]
  constructor
  · intro e
    cases q : us[i]? with
    | none => rw [q] at e; cases e
    | some t =>
      rw [q] at e
      rw [(h i t hi (get_isNd e)).mp q]
      exact e
  · intro e
    cases q : ts[i]? with
    | none => rw [q] at e; cases e
    | some t =>
      rw [q] at e
      rw [(h i t hi (get_isNd e)).mpr q]
      exact e
theorem po_att {n m j : Nat} {p : Pth} {T T' : Tr} {k k' km : Kd} {ts us tm : List Tr} {a dx am dm : Addr} {vs : List V} {o : HO} (ok : I.ok K s H) (h1 : s.t[n]? = some (some T)) (h2 : T.get p = some (.nd k ts)) (hmn : m ≠ n) (hm : s.t[m]? = some (some (.nd km tm)))
    (hwm : s.w m [] = some (am, dm)) (h3 : T.put p (.nd k' us) = some T') (huj : us[j]? = some (.nd km tm)) (htj : ∀ t, ts[j]? = some t → isNd t = false) (hk : Kj j ts us) (hi : k'.isIns = k.isIns) (hw : s.w n p = some (a, dx))
    (hh : Holds I.mg (upd H a o) a dx vs k') (hc : Chs K (Hr I s H) n p 0 (us.set j (.v (.o (.ref am)))) vs) : Po I K s H (attS s n p j m T') (upd H a o) := by
  have g0 : getT s.t n p = some (.nd k ts) := by rw [getT_of h1]; exact h2
  obtain ⟨a', dx', vs0, w0, z0, zx0, c0, hd0⟩ := ok.nod n p k ts g0
  rw [hw] at w0
  cases w0
  obtain ⟨o0, ho0, hnt, hno, hnb⟩ := holds_at hd0
  have ln := (List.getElem?_eq_some_iff.mp h1).1
  have lm := (List.getElem?_eq_some_iff.mp hm).1
  -- nothing stood there before
  have hole : ∀ r, s.w n (p ++ [j] ++ r) = none := fun r => by
    cases q : s.w n (p ++ [j] ++ r) with
    | none => rfl
    | some x =>
      obtain ⟨kk, xs, g⟩ := (ok.dom n _ x q).2 T h1
      rw [List.append_assoc, get_app, h2] at g
      have g : (Tr.nd k ts).get (j :: r) = some (.nd kk xs) := g
      rw [nd_get] at g
      cases e : ts[j]? with
      | none => rw [e] at g; cases g
      | some t =>
        rw [e] at g
        have := get_isNd (T := t) g
        rw [htj t e] at this
        cases this
  have wn : ∀ q, (∀ r, q ≠ p ++ [j] ++ r) → (attS s n p j m T').w n q = s.w n q := fun q hq => by
    show (if n = n then match stripP (p ++ [j]) q with | some r => s.w m r | none => s.w n q else s.w n q) = s.w n q
    rw [if_pos rfl]
    cases e : stripP (p ++ [j]) q with
    | none => rfl
    | some r => exact absurd (stripP_some.mp e) (hq r)
  have wj : ∀ r, (attS s n p j m T').w n (p ++ [j] ++ r) = s.w m r := fun r => by
    show (if n = n then match stripP (p ++ [j]) (p ++ [j] ++ r) with | some r => s.w m r | none => s.w n (p ++ [j] ++ r) else s.w n _) = s.w m r
    rw [if_pos rfl, stripP_app]
  have wo : ∀ n' q, n' ≠ n → (attS s n p j m T').w n' q = s.w n' q := fun n' q c => if_neg c
  have wl : ∀ n' q x, s.w n' q = some x → (attS s n p j m T').w n' q = some x := fun n' q x e => by
    by_cases c : n' = n
    · subst c
      by_cases c2 : ∃ r, q = p ++ [j] ++ r
      · obtain ⟨r, rfl⟩ := c2
        rw [hole r] at e; cases e
      · rw [wn q (fun r z => c2 ⟨r, z⟩)]; exact e
    · rw [wo n' q c]; exact e
  -- the nodes
  have back : ∀ {n' q kq xs}, getT (attS s n p j m T').t n' q = some (.nd kq xs) → n' ≠ m ∧ ((n' = n ∧ ∃ r, q = p ++ [j] ++ r ∧ getT s.t m r = some (.nd kq xs)) ∨ (n' = n ∧ q = p ∧ kq = k' ∧ xs = us) ∨
      (¬ (n' = n ∧ q = p) ∧ (n' = n → ∀ r, q ≠ p ++ [j] ++ r) ∧ ∃ ys, getT s.t n' q = some (.nd kq ys) ∧ Sim ys xs)) := fun {n' q kq xs} e0 => by
    obtain ⟨nm, e⟩ := kill_get e0
    clear e0
    refine ⟨nm, ?_⟩
    by_cases c : n' = n
    · subst c
      rw [getT_of (T := T') (by rw [List.getElem?_set_self ln])] at e
      by_cases c2 : ∃ r, q = p ++ r
      · obtain ⟨r, rfl⟩ := c2
        rw [put_get h3] at e
        cases r with
        | nil =>
          rw [get_nil] at e
          cases e
          exact .inr (.inl ⟨rfl, List.append_nil _, rfl, rfl⟩)
        | cons i r =>
          by_cases c3 : i = j
          · subst c3
            rw [nd_get, huj] at e
            refine .inl ⟨rfl, r, by simp, ?_⟩
            rw [getT_of hm]
            exact e
          · refine .inr (.inr ⟨fun z => absurd z.2 (by simp), fun _ r2 z => ?_, xs, ?_, Sim.refl xs⟩)
            · rw [List.append_assoc] at z
              have := List.append_cancel_left z
              injection this with h _
              exact c3 h
            · rw [getT_of h1, get_app, h2]
              exact (kj_get (k := k) hk c3).mp e
      · have c2 : ∀ r, q ≠ p ++ r := fun r z => c2 ⟨r, z⟩
        obtain ⟨ys, z1, z2⟩ := off_nd (put_off h3 h2 rfl c2) e
        exact .inr (.inr ⟨fun z => c2 [] (by rw [z.2, List.append_nil]), fun _ r z => c2 ([j] ++ r) (by rw [z, List.append_assoc]), ys, by rw [getT_of h1]; exact z1, z2⟩)
    · refine .inr (.inr ⟨fun z => c z.1, fun z => absurd z c, xs, ?_, Sim.refl xs⟩)
      unfold getT at e ⊢
      rw [List.getElem?_set_ne (fun z => c z.symm)] at e
      exact e
  -- each node comes from one of before, at the same address
  have from_ : ∀ {n' q kq xs}, getT (attS s n p j m T').t n' q = some (.nd kq xs) → ∃ n0 q0 k0 xs0, getT s.t n0 q0 = some (.nd k0 xs0) ∧ (attS s n p j m T').w n' q = s.w n0 q0 ∧ k0.isIns = kq.isIns ∧
      ((n' = n ∧ (∃ r, q = p ++ [j] ++ r ∧ q0 = r) ∧ n0 = m) ∨ (n0 = n' ∧ q0 = q ∧ (n' = n → ∀ r, q ≠ p ++ [j] ++ r))) := fun {n' q kq xs} e0 => by
    obtain ⟨nm, e⟩ := back e0
    clear e0
    rcases e with ⟨rfl, r, rfl, e⟩ | ⟨rfl, rfl, rfl, rfl⟩ | ⟨c1, c2, ys, e, _⟩
    · exact ⟨m, r, kq, xs, e, wj r, rfl, .inl ⟨rfl, ⟨r, rfl, rfl⟩, rfl⟩⟩
    · have nq : ∀ r, q ≠ q ++ [j] ++ r := fun r z => by
        have := congrArg List.length z
        rw [List.length_append, List.length_append] at this
        have h1 : ([j] : Pth).length = 1 := rfl
        omega
      exact ⟨n', q, k, ts, g0, wn q nq, hi.symm, .inr ⟨rfl, rfl, fun _ => nq⟩⟩
    · refine ⟨n', q, kq, ys, e, ?_, rfl, .inr ⟨rfl, rfl, c2⟩⟩
      by_cases c : n' = n
      · subst c
        exact wn q (c2 rfl)
      · exact wo n' q c
  have mm : ∀ b, I.M (attS s n p j m T') b → I.M s b := fun b mb => by
    rcases mb with ⟨n', q, kq, xs, b1, b2, e1, e2, e3⟩ | mb
    · obtain ⟨n0, q0, k0, xs0, f1, f2, f3, _⟩ := from_ e1
      exact .inl ⟨n0, q0, k0, xs0, b1, b2, f1, by rw [← f2]; exact e2, by rw [f3]; exact e3⟩
    · exact .inr mb
  have ma : I.M s a := .inl ⟨n, p, k, ts, a, dx, g0, hw, .inl rfl⟩
  have vle : VLe (Hr I s H) (Hr I (attS s n p j m T') (upd H a o)) := vle_of (fun b u hb => by
    obtain ⟨b1, b2⟩ := hr_of hb
    exact hr_in (by rw [upd_ne (fun z => b2 (by rw [z]; exact ma))]; exact b1) fun z => b2 (mm b z)) wl
  have ne : ∀ {n' q kq xs b1 b2 ws}, ¬ (n' = n ∧ q = p) → getT s.t n' q = some (.nd kq xs) → s.w n' q = some (b1, b2) → Holds I.mg H b1 b2 ws kq → b1 ≠ a ∧ (kq.isIns = true → b2 ≠ a) := fun {n' q kq xs b1 b2 ws} nn e1 e2 e3 =>
    ⟨fun z => nn (ok.inj n' q kq xs n p k ts a b2 dx e1 g0 (by rw [← z]; exact e2) hw), fun hi z => by
      have := holds_dx e3 hi
      rw [z, ho0] at this
      exact hno _ (Option.some.inj this)⟩
  have stay : ∀ {b1 b2 ws kq}, (b1 ≠ a ∧ (kq.isIns = true → b2 ≠ a)) → Holds I.mg H b1 b2 ws kq → Holds I.mg (upd H a o) b1 b2 ws kq := fun {b1 b2 ws kq} n e => holds_same (fun u z => by rw [upd_ne n.1]; exact z) (fun hi u z => by rw [upd_ne (n.2 hi)]; exact z) e
  -- the moved tree's paths
  have chj : ∀ {r : Pth} {i : Nat} {xs : List Tr} {ws : List V}, Chs K (Hr I s H) m r i xs ws → Chs K (Hr I (attS s n p j m T') (upd H a o)) n (p ++ [j] ++ r) i xs ws := by
    intro r i xs ws c
    induction c with
    | nil => exact .nil
    | @cons i t ts v vs h _ ih =>
      refine .cons ?_ ih
      cases t with
      | v d => exact ⟨rp_same vle h.1, h.2⟩
      | nd kq xs =>
        obtain ⟨b, g1, g2⟩ := h
        refine ⟨b, ?_, g2⟩
        show ((attS s n p j m T').w n (p ++ [j] ++ r ++ [i])).map (·.1) = some b
        rw [List.append_assoc (p ++ [j]), wj]
        exact g1
  refine ⟨fun b u mb e => ?_, ⟨fun n' q kq xs e0 => ?_, fun n' q kq xs n2 q2 kq2 xs2 b b2 b3 e e' e1 e2 => ?_, fun n' q x e => ?_, fun b u e => ?_, fun q hq => ?_, fun n p x e => wl n p x (ok.fl n p x e)⟩, fun b mb => .inl (mm b mb), fun b u e => ?_, wl, rfl⟩
  · rw [upd_ne (fun z => mb (by rw [z]; exact ma))]
    exact e
  · obtain ⟨nm, e⟩ := back e0
    clear e0
    rcases e with ⟨rfl, r, rfl, e⟩ | ⟨rfl, rfl, rfl, rfl⟩ | ⟨c1, c2, ys, e, sm⟩
    · obtain ⟨b1, b2, ws, w1, z1, zx1, cc, hd1⟩ := ok.nod m r kq xs e
      exact ⟨b1, b2, ws, by rw [wj]; exact w1, z1, zx1, chj cc, stay (ne (fun z => hmn z.1) e w1 hd1) hd1⟩
    · have nq : ∀ r, q ≠ q ++ [j] ++ r := fun r z => by
        have := congrArg List.length z
        rw [List.length_append, List.length_append] at this
        have h1 : ([j] : Pth).length = 1 := rfl
        omega
      refine ⟨a, dx, vs, by rw [wn q nq]; exact hw, z0, by rw [hi]; exact zx0, chs_hole vle (a := am) ?_ hc huj, hh⟩
      show ((attS s n' q j m T').w n' (q ++ [0 + j])).map (·.1) = some am
      rw [Nat.zero_add, ← List.append_nil (q ++ [j]), wj, hwm]
      rfl
    · obtain ⟨b1, b2, ws, w1, z1, zx1, cc, hd1⟩ := ok.nod n' q kq ys e
      refine ⟨b1, b2, ws, ?_, z1, zx1, chs_sim (chs_same vle cc) sm, stay (ne c1 e w1 hd1) hd1⟩
      by_cases c : n' = n
      · subst c
        rw [wn q (c2 rfl)]; exact w1
      · rw [wo n' q c]; exact w1
  · obtain ⟨n0, q0, k0, xs0, f1, f2, _, f3⟩ := from_ e
    obtain ⟨n0', q0', k0', xs0', f1', f2', _, f3'⟩ := from_ e'
    obtain ⟨j1, j2⟩ := ok.inj n0 q0 k0 xs0 n0' q0' k0' xs0' b b2 b3 f1 f1' (by rw [← f2]; exact e1) (by rw [← f2']; exact e2)
    obtain ⟨nm, _⟩ := back e
    obtain ⟨nm', _⟩ := back e'
    rcases f3 with ⟨c1, ⟨r, c2, c3⟩, c4⟩ | ⟨c1, c2, c3⟩
    · rcases f3' with ⟨d1, ⟨r', d2, d3⟩, d4⟩ | ⟨d1, d2, d3⟩
      · exact ⟨c1.trans d1.symm, by rw [c2, d2, ← c3, ← d3, j2]⟩
      · exact absurd (d1.symm.trans (j1.symm.trans c4)) nm'
    · rcases f3' with ⟨d1, ⟨r', d2, d3⟩, d4⟩ | ⟨d1, d2, d3⟩
      · exact absurd (c1.symm.trans (j1.trans d4)) nm
      · exact ⟨c1.symm.trans (j1.trans d1), c2.symm.trans (j2.trans d2)⟩
  · by_cases c : n' = n
    · subst c
      refine ⟨by rw [List.length_set, List.length_set]; exact ln, fun U hU => ?_⟩
      rw [List.getElem?_set_ne hmn, List.getElem?_set_self ln] at hU
      cases hU
      by_cases c2 : ∃ r, q = p ++ [j] ++ r
      · obtain ⟨r, rfl⟩ := c2
        rw [wj] at e
        obtain ⟨kk, xs, g⟩ := (ok.dom m r x e).2 _ hm
        refine ⟨kk, xs, ?_⟩
        rw [List.append_assoc, put_get h3]
        show (Tr.nd k' us).get (j :: r) = _
        rw [nd_get, huj]
        exact g
      · have c2 : ∀ r, q ≠ p ++ [j] ++ r := fun r z => c2 ⟨r, z⟩
        rw [wn q c2] at e
        obtain ⟨kk, xs, g⟩ := (ok.dom n' q x e).2 T h1
        by_cases c3 : ∃ r, q = p ++ r
        · obtain ⟨r, rfl⟩ := c3
          rw [put_get h3]
          cases r with
          | nil => exact ⟨k', us, get_nil _⟩
          | cons i r =>
            have hij : i ≠ j := fun z => c2 r (by rw [z]; simp)
            rw [get_app, h2] at g
            exact ⟨kk, xs, (kj_get (k := k) hk hij).mpr g⟩
        · obtain ⟨ys, z1, z2⟩ := off_nd' (put_off h3 h2 rfl fun r z => c3 ⟨r, z⟩) g
          exact ⟨kk, ys, z1⟩
    · rw [wo n' q c] at e
      obtain ⟨d1, d2⟩ := ok.dom n' q x e
      refine ⟨by rw [List.length_set, List.length_set]; exact d1, fun U hU => ?_⟩
      by_cases c2 : n' = m
      · subst c2
        rw [List.getElem?_set_self (by rw [List.length_set]; exact lm)] at hU
        cases hU
      · rw [List.getElem?_set_ne (fun z => c2 z.symm), List.getElem?_set_ne (fun z => c z.symm)] at hU
        exact d2 U hU
  · obtain ⟨e1, e2⟩ := ok.z b u e
    exact ⟨by rw [upd_ne (fun z => by rw [z, z0] at e; cases e)]; exact e1, e2⟩
  · obtain ⟨ps, t1, t2, t3⟩ := ok.tab q hq
    refine ⟨ps, by rw [upd_ne (fun z => by rw [z, ho0] at t1; exact hnb _ (Option.some.inj t1))]; exact t1, t2, fun p' cv hcv => ?_⟩
    obtain ⟨c1, y1, y2⟩ := t3 p' cv hcv
    refine ⟨c1, y1, ?_⟩
    rw [upd_ne (fun z => ?_)]
    · exact y2
    · rw [z, ho0] at y2
      have y2 := Option.some.inj y2
      subst y2
      cases k with
      | lst => rw [show H a = _ from hd0] at ho0; cases ho0
      | dic ks => rw [hd0.2.2] at ho0; cases ho0
      | ins c ks => obtain ⟨_, _, C, _, h4, _⟩ := hd0; rw [h4] at ho0; cases ho0
      | dct ks => rw [hd0.2.2] at ho0; cases ho0
  · by_cases c : b = a
    · subst c; exact ⟨_, upd_same⟩
    · exact ⟨u, by rw [upd_ne c]; exact e⟩
end
end Dl
set_option maxRecDepth 100000
set_option maxHeartbeats 4000000
namespace Dl
open PySem L2

/-- an item of written data -/
def ktD : PyData → D
  | .tuple xs => .kt (.tuple xs)
  | x => .d x
def flatS : PyData → Bool
  | .list _ => false
  | _ => true
theorem dp_empty {K : PySem.W.Frag} {H : Vw} {v : V} {d : PyData} (h : Dp K (fun _ => none) v d) (hf : flatS d = true) : Rp K H (ktD d) v := by
  cases h with
  | non => exact .non
  | bl b => exact .bl b
  | int i => exact .int i
  | str x => exact .str x
  | lst _ _ => cases hf
  | tup h1 h2 => exact .tup h1 h2
theorem dpa_empty {K : PySem.W.Frag} {H : Vw} : ∀ {vs : List V} {ds : List PyData}, DpAll K (fun _ => none) vs ds → ds.all flatS = true → RpL K H (ds.map ktD) vs
  | _, _, .nil, _ => .nil
  | _, _, .cons h t, e => by
    rw [List.all_cons, Bool.and_eq_true] at e
    exact .cons (dp_empty h e.1) (dpa_empty t e.2)
theorem none_sub {H : Hp} : Same (fun _ => none) H := fun _ _ e => by cases e

theorem opr_or {X : Cx} {f : Value → Value → Sem Value} {r r' : R2} (h : OpR X f r) (h' : OpR X f r') : OpR X f (fun x y H Q => r x y H Q ∨ r' x y H Q) := by
  intro pins s σ H x y v u Q I rx ry q
  rcases q with q | q
  · exact h pins s σ H x y v u Q I rx ry q
  · exact h' pins s σ H x y v u Q I rx ry q
theorem opK {X : Cx} {K : PySem.W.Frag} {f : Value → Value → Sem Value} (r : PySem.W.Frag → R2) (e : X.K = K) (h : OpR X f (r X.K)) : OpR X f (r K) := by rw [← e]; exact h
theorem ixK {X : Cx} {K : PySem.W.Frag} (r : PySem.W.Frag → R2) (e : X.K = K) (h : IxR X (r X.K)) : IxR X (r K) := by rw [← e]; exact h
theorem slK {X : Cx} {K : PySem.W.Frag} (r : PySem.W.Frag → V → Option Int → Option Int → Hp → VK → Prop) (e : X.K = K) (h : SlR X (r X.K)) : SlR X (r K) := by rw [← e]; exact h
theorem clK {X : Cx} {K : PySem.W.Frag} {f : Value} (r : PySem.W.Frag → List V → Hp → VK → Prop) (e : X.K = K) (h : CallR X f (r X.K)) : CallR X f (r K) := by rw [← e]; exact h
def rLenK (K : PySem.W.Frag) : List V → Hp → VK → Prop := fun xs H Q => ∃ x n, xs = [x] ∧ LenV K x H n ∧ Q (.int n) H
def rTupK (K : PySem.W.Frag) : List V → Hp → VK → Prop := fun xs H Q => ∃ p ys, xs = [.ref p] ∧ ((SqL K H p ys ∧ ∀ l, H l = none → Q (.ref l) (upd H l (.tup ys))) ∨ (SqT K H p ys ∧ Q (.ref p) H))
def rLstK (K : PySem.W.Frag) : List V → Hp → VK → Prop := fun xs H Q => ∃ p ys, xs = [.ref p] ∧ (SqL K H p ys ∨ SqT K H p ys) ∧ ∀ l, H l = none → Q (.ref l) (upd H l (.lst ys))
section
variable {cb : Bool} {ι : Type} {P : Program} {w : World} {K : PySem.W.Frag} {mg : Str → Option Value} {base : Heap} {k : Nat} {N : List Str} {F : ι → Cx}
abbrev i2 (f : Int → Int → PyData) : D → D → Option D
  | .d (.int i), .d (.int j) => some (.d (f i j))
  | _, _ => none
/-! ### + -/
def fAdd : D → D → Option D
  | .d (.int i), .d (.int j) => some (.d (.int (i + j)))
  | .d (.str a), .d (.str b) => if a.length + b.length ≤ 100000 then some (.d (.str (a ++ b))) else none
  | .d (.list a), .d (.list b) => if a.length + b.length ≤ 100000 then some (.d (.list (a ++ b))) else none
  | .d (.tuple a), .d (.tuple b) => if a.length + b.length ≤ 100000 then some (.d (.tuple (a ++ b))) else none
  | _, _ => none
theorem dqa_len {K : PySem.W.Frag} {H : Hp} : ∀ {vs : List V} {ds : List PyData}, DqA K H vs ds → vs.length = ds.length
  | _, _, .nil => rfl
  | _, _, .cons _ t => by rw [List.length_cons, List.length_cons, dqa_len t]
theorem dqa_nil {K : PySem.W.Frag} {H : Hp} {ds : List PyData} (h : DqA K H [] ds) : ds = [] := by cases h; rfl
theorem o_add (W : FmC cb P w K mg base k N F) : ∃ r, (∀ i, OpR (F i) (binaryOp .Add) r) ∧ OpD K r fAdd := by
  refine ⟨_, fun i => opr_or op_add (opr_or op_add_str (opr_or op_cat (opK rCatA (W.K i) op_catA))), fun I s H x y z a b Q ok rx ry e kk => ?_⟩
  unfold fAdd at e
  split at e
  · cases e; cases rx; cases ry
    exact .inl ⟨_, _, rfl, rfl, here ok kk (.int _)⟩
  · rename_i i j
    by_cases c : i.length + j.length ≤ 100000
    · rw [if_pos c] at e
      cases e; cases rx; cases ry
      exact .inr (.inl ⟨_, _, rfl, rfl, sz c, here ok kk (.str _)⟩)
    · rw [if_neg c] at e; cases e
  · rename_i i j
    by_cases c : i.length + j.length ≤ 100000
    · rw [if_pos c] at e
      cases e
      cases rx with
      | lst h1 h2 =>
        cases ry with
        | lst h3 h4 =>
          refine .inr (.inr (.inl ⟨_, _, _, _, rfl, rfl, hr_sub _ _ h1, hr_sub _ _ h3, by rw [dqa_len h2, dqa_len h4]; exact sz c, newL ok kk (dpa_app h2 h4)⟩))
    · rw [if_neg c] at e; cases e
  · rename_i i j
    by_cases c : i.length + j.length ≤ 100000
    · rw [if_pos c] at e
      cases e
      cases rx with
      | tup h1 h2 =>
        cases ry with
        | tup h3 h4 =>
          refine .inr (.inr (.inr ⟨_, _, _, _, rfl, rfl, SqT.of (hr_sub _ _ h1), SqT.of (hr_sub _ _ h3), by rw [dqa_len h2, dqa_len h4]; exact sz c, fun q => ?_, fun q1 q2 => ?_, fun q1 q2 => newT ok kk (dpa_app h2 h4)⟩))
          · subst q
            have := dqa_nil h2
            subst this
            exact here ok kk (.tup h3 h4)
          · subst q2
            have := dqa_nil h4
            subst this
            rw [List.append_nil] at kk
            exact here ok kk (.tup h1 h2)
    · rw [if_neg c] at e; cases e
  · cases e
def fSub : D → D → Option D := i2 fun i j => .int (i - j)
theorem o_sub (W : FmC cb P w K mg base k N F) : ∃ r, (∀ i, OpR (F i) (binaryOp .Sub) r) ∧ OpD K r fSub := ⟨_, fun i => op_sub, fun I s H x y z a b Q ok rx ry e kk => by
  unfold fSub i2 at e
  split at e
  · cases e; cases rx; cases ry
    exact ⟨_, _, rfl, rfl, here ok kk (.int _)⟩
  · cases e⟩
def fMod : D → D → Option D
  | .d (.int i), .d (.int j) => if j = 0 then none else some (.d (.int (i.fmod j)))
  | _, _ => none
theorem o_mod (W : FmC cb P w K mg base k N F) : ∃ r, (∀ i, OpR (F i) (binaryOp .Mod) r) ∧ OpD K r fMod := ⟨_, fun i => op_modN, fun I s H x y z a b Q ok rx ry e kk => by
  unfold fMod at e
  split at e
  · rename_i i j
    by_cases c : j = 0
    · rw [if_pos c] at e; cases e
    · rw [if_neg c] at e
      cases e; cases rx; cases ry
      exact ⟨_, _, rfl, rfl, c, here ok kk (.int _)⟩
  · cases e⟩
def fDiv : D → D → Option D
  | .d (.int i), .d (.int j) => if j ≠ 0 ∧ j.natAbs < 1073741824 then some (.d (.int (i.fdiv j))) else none
  | _, _ => none
theorem o_div (W : FmC cb P w K mg base k N F) : ∃ r, (∀ i, OpR (F i) (binaryOp .FloorDiv) r) ∧ OpD K r fDiv := ⟨_, fun i => op_fdivN, fun I s H x y z a b Q ok rx ry e kk => by
  unfold fDiv at e
  split at e
  · rename_i i j
    by_cases c : j ≠ 0 ∧ j.natAbs < 1073741824
    · rw [if_pos c] at e
      cases e; cases rx; cases ry
      exact ⟨_, _, rfl, rfl, c, here ok kk (.int _)⟩
    · rw [if_neg c] at e; cases e
  · cases e⟩
def fPow : D → D → Option D
  | .d (.int i), .d (.int j) => if 0 ≤ j ∧ j ≤ 1000000 ∧ i.natAbs < 2 ^ 64 then some (.d (.int (i ^ j.toNat))) else none
  | _, _ => none
theorem o_pow (W : FmC cb P w K mg base k N F) : ∃ r, (∀ i, OpR (F i) (binaryOp .Pow) r) ∧ OpD K r fPow := ⟨_, fun i => op_pow, fun I s H x y z a b Q ok rx ry e kk => by
  unfold fPow at e
  split at e
  · rename_i i j
    by_cases c : 0 ≤ j ∧ j ≤ 1000000 ∧ i.natAbs < 2 ^ 64
    · rw [if_pos c] at e
      cases e; cases rx; cases ry
      exact ⟨_, _, rfl, rfl, c, here ok kk (.int _)⟩
    · rw [if_neg c] at e; cases e
  · cases e⟩
/-! ### * -/
def fMul : D → D → Option D
  | .d (.int i), .d (.int j) => if (-(2 ^ 64) < i ∧ i < 2 ^ 64) ∨ (-(2 ^ 64) < j ∧ j < 2 ^ 64) then some (.d (.int (i * j))) else none
  | .d (.list a), .d (.int j) => if -(2 ^ 63) ≤ j ∧ j < 2 ^ 63 ∧ a.length * j.toNat ≤ 100000 then some (.d (.list (List.replicate j.toNat a).flatten)) else none
  | .d (.tuple a), .d (.int j) => if a ≠ [] ∧ 2 ≤ j ∧ j ≤ 1000 ∧ a.length ≤ 1000 then some (.d (.tuple (List.replicate j.toNat a).flatten)) else none
  | _, _ => none
theorem dqa_rep {K : PySem.W.Frag} {H : Hp} {vs : List V} {ds : List PyData} (h : DqA K H vs ds) : ∀ n : Nat, DqA K H (List.replicate n vs).flatten (List.replicate n ds).flatten
  | 0 => .nil
  | n + 1 => by
    rw [List.replicate_succ, List.replicate_succ, List.flatten_cons, List.flatten_cons]
    exact dpa_app h (dqa_rep h n)
theorem o_mul (W : FmC cb P w K mg base k N F) : ∃ r, (∀ i, OpR (F i) (binaryOp .Mult) r) ∧ OpD K r fMul := by
  refine ⟨_, fun i => opr_or op_mul (opr_or op_rep (opK rRepT (W.K i) op_repT)), fun I s H x y z a b Q ok rx ry e kk => ?_⟩
  unfold fMul at e
  split at e
  · rename_i i j
    by_cases c : (-(2 ^ 64) < i ∧ i < 2 ^ 64) ∨ (-(2 ^ 64) < j ∧ j < 2 ^ 64)
    · rw [if_pos c] at e
      cases e; cases rx; cases ry
      exact .inl ⟨_, _, rfl, rfl, c, here ok kk (.int _)⟩
    · rw [if_neg c] at e; cases e
  · rename_i i j
    by_cases c : -(2 ^ 63) ≤ j ∧ j < 2 ^ 63 ∧ i.length * j.toNat ≤ 100000
    · rw [if_pos c] at e
      cases e
      cases rx with
      | lst h1 h2 =>
        cases ry
        exact .inr (.inl ⟨_, _, _, rfl, rfl, hr_sub _ _ h1, c.1, c.2.1, by rw [dqa_len h2]; exact sz c.2.2, newL ok kk (dqa_rep h2 _)⟩)
    · rw [if_neg c] at e; cases e
  · rename_i i j
    by_cases c : i ≠ [] ∧ 2 ≤ j ∧ j ≤ 1000 ∧ i.length ≤ 1000
    · rw [if_pos c] at e
      cases e
      cases rx with
      | tup h1 h2 =>
        cases ry
        exact .inr (.inr ⟨_, _, _, rfl, rfl, SqT.of (hr_sub _ _ h1), fun q => c.1 (by subst q; exact dqa_nil h2), c.2.1, c.2.2.1, by rw [dqa_len h2]; exact c.2.2.2, newT ok kk (dqa_rep h2 _)⟩)
    · rw [if_neg c] at e; cases e
  · cases e
/-! ### comparisons -/
def fLe : D → D → Option D := i2 fun i j => .bool (decide (i ≤ j))
def fGt : D → D → Option D := i2 fun i j => .bool (decide (j < i))
def fGe : D → D → Option D := i2 fun i j => .bool (decide (j ≤ i))
theorem o_i2 {op : CmpOp} {f : Int → Int → Bool} (h : ∀ i, OpR (F i) (compareOp op) (rI0 fun i j => .bl (f i j))) : ∃ r, (∀ i, OpR (F i) (compareOp op) r) ∧ OpD K r (i2 fun i j => .bool (f i j)) := ⟨_, h, fun I s H x y z a b Q ok rx ry e kk => by
  unfold i2 at e
  split at e
  · cases e; cases rx; cases ry
    exact ⟨_, _, rfl, rfl, here ok kk (.bl _)⟩
  · cases e⟩
theorem o_le (W : FmC cb P w K mg base k N F) : ∃ r, (∀ i, OpR (F i) (compareOp .LtE) r) ∧ OpD K r fLe := o_i2 fun _ => op_le
theorem o_gt (W : FmC cb P w K mg base k N F) : ∃ r, (∀ i, OpR (F i) (compareOp .Gt) r) ∧ OpD K r fGt := o_i2 fun _ => op_gt
theorem o_ge (W : FmC cb P w K mg base k N F) : ∃ r, (∀ i, OpR (F i) (compareOp .GtE) r) ∧ OpD K r fGe := o_i2 fun _ => op_ge
def fEq : D → D → Option D
  | .d a, .d b => if SeqAt.shaped a = true ∧ SeqAt.shaped b = true then some (.d (.bool (PyData.eqv a b))) else none
  | _, _ => none
def fNe : D → D → Option D
  | .d a, .d b => if SeqAt.shaped a = true ∧ SeqAt.shaped b = true then some (.d (.bool (!PyData.eqv a b))) else none
  | _, _ => none
theorem o_eq (W : FmC cb P w K mg base k N F) : ∃ r, (∀ i, OpR (F i) (compareOp .Eq) r) ∧ OpD K r fEq := by
  refine ⟨_, fun i => opK rEqD (W.K i) (op_eqD (by have := W.units i; omega)), fun I s H x y z a b Q ok rx ry e kk => ?_⟩
  unfold fEq at e
  split at e
  · rename_i i j
    by_cases c : SeqAt.shaped i = true ∧ SeqAt.shaped j = true
    · rw [if_pos c] at e
      cases e
      exact ⟨_, _, dq_dp (dp_same hr_sub rx), dq_dp (dp_same hr_sub ry), c.1, c.2, here ok kk (.bl _)⟩
    · rw [if_neg c] at e; cases e
  · cases e
theorem o_ne (W : FmC cb P w K mg base k N F) : ∃ r, (∀ i, OpR (F i) (compareOp .NotEq) r) ∧ OpD K r fNe := by
  refine ⟨_, fun i => opK rNeD (W.K i) (op_neD (by have := W.units i; omega)), fun I s H x y z a b Q ok rx ry e kk => ?_⟩
  unfold fNe at e
  split at e
  · rename_i i j
    by_cases c : SeqAt.shaped i = true ∧ SeqAt.shaped j = true
    · rw [if_pos c] at e
      cases e
      exact ⟨_, _, dq_dp (dp_same hr_sub rx), dq_dp (dp_same hr_sub ry), c.1, c.2, here ok kk (.bl _)⟩
    · rw [if_neg c] at e; cases e
  · cases e
/-! ### in -/
def rInS (K : PySem.W.Frag) (neg : Bool) : R2 := fun x y H Q => ∃ d ds, Dp K H x d ∧ (Dp K H y (.list ds) ∨ Dp K H y (.tuple ds)) ∧ SeqAt.shaped d = true ∧ SeqAt.shaped (.list ds) = true ∧ Q (.bl (if neg = true then !(ds.any fun z => PyData.eqv z d) else ds.any fun z => PyData.eqv z d)) H
theorem op_inS {X : Cx} (hu : X.A.units + 65 < cLine) : OpR X (compareOp .In) (rInS X.K false) := by
  intro pins s σ H x y v u Q I rx ry h
  obtain ⟨d, ds, hd, he, sd, se, q⟩ := h
  obtain ⟨as, r1⟩ := Dp.reads I d x v hd rx
  rcases he with he | he
  · obtain ⟨bs, r2⟩ := Dp.reads I (.list ds) y u he ry
    exact SeqAt.in_list_reads r2 r1 (SeqAt.canLay_of_shaped se) (SeqAt.canLay_of_shaped sd) (PyProof.Rows.room_in_shaped sd hu) ⟨.bl _, H, I, rfl, q⟩
  · obtain ⟨bs, r2⟩ := Dp.reads I (.tuple ds) y u he ry
    exact SeqAt.in_tuple_reads r2 r1 (SeqAt.canLay_of_shaped (d := .list ds) se) (SeqAt.canLay_of_shaped sd) (PyProof.Rows.room_in_shaped sd hu) ⟨.bl _, H, I, rfl, q⟩
theorem op_ninS {X : Cx} (hu : X.A.units + 65 < cLine) : OpR X (compareOp .NotIn) (rInS X.K true) := by
  intro pins s σ H x y v u Q I rx ry h
  obtain ⟨d, ds, hd, he, sd, se, q⟩ := h
  obtain ⟨as, r1⟩ := Dp.reads I d x v hd rx
  rcases he with he | he
  · obtain ⟨bs, r2⟩ := Dp.reads I (.list ds) y u he ry
    exact SeqAt.notIn_list_reads r2 r1 (SeqAt.canLay_of_shaped se) (SeqAt.canLay_of_shaped sd) (PyProof.Rows.room_in_shaped sd hu) ⟨.bl _, H, I, rfl, q⟩
  · obtain ⟨bs, r2⟩ := Dp.reads I (.tuple ds) y u he ry
    exact SeqAt.notIn_tuple_reads r2 r1 (SeqAt.canLay_of_shaped (d := .list ds) se) (SeqAt.canLay_of_shaped sd) (PyProof.Rows.room_in_shaped sd hu) ⟨.bl _, H, I, rfl, q⟩
mutual
theorem dpp_same {K : PySem.W.Frag} {H H' : Hp} (e : Same H H') : ∀ {v : V} {d : PyData}, Dp K H v d → Dp K H' v d
  | _, _, .non => .non
  | _, _, .bl b => .bl b
  | _, _, .int i => .int i
  | _, _, .str x => .str x
  | _, _, .lst h t => .lst (sql_same e h) (dppa_same e t)
  | _, _, .tup h t => .tup (sqt_same e h) (dppa_same e t)
theorem dppa_same {K : PySem.W.Frag} {H H' : Hp} (e : Same H H') : ∀ {v : List V} {d : List PyData}, DpAll K H v d → DpAll K H' v d
  | _, _, .nil => .nil
  | _, _, .cons h t => .cons (dpp_same e h) (dppa_same e t)
end
def isSeq : D → Option (List PyData)
  | .d (.list ds) => some ds
  | .d (.tuple ds) => some ds
  | .kt (.tuple ds) => some ds
  | _ => none
def fIn (neg : Bool) : D → D → Option D
  | .d d, y => match isSeq y with
    | some ds => if SeqAt.shaped d = true ∧ SeqAt.shaped (.list ds) = true then some (.d (.bool (if neg = true then !(ds.any fun z => PyData.eqv z d) else ds.any fun z => PyData.eqv z d))) else none
    | none => none
  | _, _ => none
theorem od_in {neg : Bool} : OpD K (rInS K neg) (fIn neg) := fun I s H x y z a b Q ok rx ry e kk => by
  unfold fIn at e
  split at e
  · rename_i d
    split at e
    · rename_i ds hs
      by_cases c : SeqAt.shaped d = true ∧ SeqAt.shaped (.list ds) = true
      · rw [if_pos c] at e
        cases e
        refine ⟨d, ds, dq_dp (dp_same hr_sub rx), ?_, c.1, c.2, here ok kk (.bl _)⟩
        unfold isSeq at hs
        split at hs
        · cases hs; exact .inl (dq_dp (dp_same hr_sub ry))
        · cases hs; exact .inr (dq_dp (dp_same hr_sub ry))
        · cases hs; exact .inr (dpp_same none_sub ry)
        · cases hs
      · rw [if_neg c] at e; cases e
    · cases e
  · cases e
theorem o_in (W : FmC cb P w K mg base k N F) : ∃ r, (∀ i, OpR (F i) (compareOp .In) r) ∧ OpD K r (fIn false) := ⟨_, fun i => opK (fun K => rInS K false) (W.K i) (op_inS (by have := W.units i; omega)), od_in⟩
theorem o_nin (W : FmC cb P w K mg base k N F) : ∃ r, (∀ i, OpR (F i) (compareOp .NotIn) r) ∧ OpD K r (fIn true) := ⟨_, fun i => opK (fun K => rInS K true) (W.K i) (op_ninS (by have := W.units i; omega)), od_in⟩
/-! ### is None, is True -/
def isNon : D → Option Bool
  | .d .none => some true
  | .d _ => some false
  | _ => none
def fIs : D → D → Option D
  | x, .d .none => (isNon x).map fun b => .d (.bool b)
  | .d (.bool a), .d (.bool b) => some (.d (.bool (decide (a = b))))
  | _, _ => none
def fIsNot : D → D → Option D
  | x, .d .none => (isNon x).map fun b => .d (.bool (!b))
  | .d (.bool a), .d (.bool b) => some (.d (.bool (!decide (a = b))))
  | _, _ => none
theorem isNon_some {H : Vw} {d : D} {v : V} {b : Bool} (r : Rp K H d v) (e : isNon d = some b) : decide (v = V.non) = b := by
  unfold isNon at e
  split at e
  · cases e; cases r; rfl
  · rename_i x hx
    cases x <;> first | exact absurd rfl hx | (cases e; cases r; done) | (cases e; cases r; exact decide_eq_false (fun z => by cases z))
  · cases e
theorem o_is (W : FmC cb P w K mg base k N F) : ∃ r, (∀ i, OpR (F i) (compareOp .Is) r) ∧ OpD K r fIs := by
  refine ⟨_, fun i => opr_or op_isN op_isBl, fun I s H x y z a b Q ok rx ry e kk => ?_⟩
  unfold fIs at e
  split at e
  · cases q : isNon x with
    | none => rw [q] at e; cases e
    | some c =>
      rw [q] at e
      cases e
      cases ry
      exact .inl ⟨rfl, by rw [isNon_some rx q]; exact here ok kk (.bl _)⟩
  · cases e; cases rx; cases ry
    exact .inr ⟨_, _, rfl, rfl, here ok kk (.bl _)⟩
  · cases e
theorem o_isnot (W : FmC cb P w K mg base k N F) : ∃ r, (∀ i, OpR (F i) (compareOp .IsNot) r) ∧ OpD K r fIsNot := by
  refine ⟨_, fun i => opr_or op_notN op_notBl, fun I s H x y z a b Q ok rx ry e kk => ?_⟩
  unfold fIsNot at e
  split at e
  · cases q : isNon x with
    | none => rw [q] at e; cases e
    | some c =>
      rw [q] at e
      cases e
      cases ry
      exact .inl ⟨rfl, by rw [isNon_some rx q]; exact here ok kk (.bl _)⟩
  · cases e; cases rx; cases ry
    exact .inr ⟨_, _, rfl, rfl, here ok kk (.bl _)⟩
  · cases e
/-! ### subscripts -/
def fIx : D → D → Option D
  | .kt (.tuple xs), .d (.int i) => (atI xs i).bind fun d => if flatS d = true then some (ktD d) else none
  | .d (.list xs), .d (.int i) => (atI xs i).map D.d
  | .d (.tuple xs), .d (.int i) => (atI xs i).map D.d
  | .d (.str z), .d (.int i) => if z.length ≤ 100000 then (atI z.cps.toList i).map fun c => .d (.str ⟨#[c]⟩) else none
  | .tp xs, .d (.int i) => atI xs i
  | .ls xs, .d (.int i) => atI xs i
  | .sc ns, .d (.int i) => (atI ns i).map fun z => .d (.int z)
  | _, _ => none
theorem rpl_at {H : Vw} {vs : List V} {ds : List D} {i : Int} {d : D} (h : RpL K H ds vs) (e : atI ds i = some d) : ∃ v, atI vs i = some v ∧ Rp K H d v := by
  unfold atI at e ⊢
  rw [rpl_len h]
  cases q : ixN ds.length i with
  | none => rw [q] at e; cases e
  | some j => rw [q] at e; exact rpl_get h e
theorem map_at {α β : Type} {f : α → β} {xs : List α} {i : Int} {x : α} (e : atI xs i = some x) : atI (xs.map f) i = some (f x) := by
  unfold atI at e ⊢
  rw [List.length_map]
  cases q : ixN xs.length i with
  | none => rw [q] at e; cases e
  | some j =>
    rw [q] at e
    show (xs.map f)[j]? = some (f x)
    rw [List.getElem?_map, show xs[j]? = some x from e]
    rfl
theorem dqa_at {H : Hp} {vs : List V} {ds : List PyData} {i : Int} {d : PyData} (h : DqA K H vs ds) (e : atI ds i = some d) : ∃ v, atI vs i = some v ∧ Dq K H v d := by
  unfold atI at e ⊢
  rw [dqa_len h]
  cases q : ixN ds.length i with
  | none => rw [q] at e; cases e
  | some j =>
    rw [q] at e
    have e : ds[j]? = some d := e
    have hd : (ds.map D.d)[j]? = some (D.d d) := by rw [List.getElem?_map, e]; rfl
    obtain ⟨v, h1, h2⟩ := rpl_get (rpl_of (H := ⟨H, fun _ _ => none, fun _ _ => False, fun _ _ _ => False⟩) h) hd
    exact ⟨v, h1, h2⟩
theorem dpa_at {H : Hp} {vs : List V} {ds : List PyData} {i : Int} {d : PyData} (h : DpAll K H vs ds) (e : atI ds i = some d) : ∃ v, atI vs i = some v ∧ Dp K H v d := by
  have hl : ∀ {vs : List V} {ds : List PyData}, DpAll K H vs ds → vs.length = ds.length := by
    intro vs ds h
    induction ds generalizing vs with
    | nil => cases h; rfl
    | cons d ds ih => cases h with
      | cons _ t => rw [List.length_cons, List.length_cons, ih t]
  have hg : ∀ {vs : List V} {ds : List PyData} {j : Nat} {d : PyData}, DpAll K H vs ds → ds[j]? = some d → ∃ v, vs[j]? = some v ∧ Dp K H v d := by
    intro vs ds j d h e
    induction ds generalizing vs j with
    | nil => simp at e
    | cons d' ds ih => cases h with
      | cons g t =>
        cases j with
        | zero => simp at e; subst e; exact ⟨_, rfl, g⟩
        | succ j =>
          obtain ⟨v, h1, h2⟩ := ih t (by simpa using e)
          exact ⟨v, by simpa using h1, h2⟩
  unfold atI at e ⊢
  rw [hl h]
  cases q : ixN ds.length i with
  | none => rw [q] at e; cases e
  | some j =>
    rw [q] at e
    exact hg h e
theorem o_ix (W : FmC cb P w K mg base k N F) : ∃ r, (∀ i, IxR (F i) r) ∧ OpD K r fIx := by
  refine ⟨_, fun i => (ixK rIxL (W.K i) ix_list).or ((ixK rIxT (W.K i) ix_tup).or ix_str), fun I s H x y z a b Q ok rx ry e kk => ?_⟩
  unfold fIx at e
  split at e
  · rename_i xs i
    cases q : atI xs i with
    | none => rw [q] at e; cases e
    | some d =>
      rw [q] at e
      simp only [Option.bind_some] at e
      by_cases c : flatS d = true
      · rw [if_pos c] at e
        cases e
        cases rx with
        | tup h1 h2 =>
          cases ry
          obtain ⟨v, h3, h4⟩ := dpa_at h2 q
          exact .inr (.inl ⟨_, _, _, _, rfl, rfl, sqt_same none_sub h1, h3, here ok kk (dp_empty h4 c)⟩)
      · rw [if_neg c] at e; cases e
  · rename_i xs i
    cases q : atI xs i with
    | none => rw [q] at e; cases e
    | some d =>
      rw [q] at e
      cases e
      cases rx with
      | lst h1 h2 =>
        cases ry
        obtain ⟨v, h3, h4⟩ := dqa_at h2 q
        exact .inl ⟨_, _, _, _, rfl, rfl, sql_same hr_sub (SqL.of h1), h3, here ok kk h4⟩
  · rename_i xs i
    cases q : atI xs i with
    | none => rw [q] at e; cases e
    | some d =>
      rw [q] at e
      cases e
      cases rx with
      | tup h1 h2 =>
        cases ry
        obtain ⟨v, h3, h4⟩ := dqa_at h2 q
        exact .inr (.inl ⟨_, _, _, _, rfl, rfl, SqT.of (hr_sub _ _ h1), h3, here ok kk h4⟩)
  · rename_i z i
    by_cases c : z.length ≤ 100000
    · rw [if_pos c] at e
      cases q : atI z.cps.toList i with
      | none => rw [q] at e; cases e
      | some d =>
        rw [q] at e
        cases e
        cases rx; cases ry
        exact .inr (.inr ⟨_, _, _, rfl, rfl, sz c, q, here ok kk (.str _)⟩)
    · rw [if_neg c] at e; cases e
  · obtain ⟨a, xs, rfl, h1, h2⟩ := rx
    cases ry
    obtain ⟨v, h3, h4⟩ := rpl_at (rpl_ofA h2) e
    exact .inr (.inl ⟨_, _, _, _, rfl, rfl, SqT.of (hr_sub _ _ h1), h3, here ok kk h4⟩)
  · obtain ⟨a, xs, rfl, h1, h2⟩ := rx
    cases ry
    obtain ⟨v, h3, h4⟩ := rpl_at (rpl_ofA h2) e
    exact .inl ⟨_, _, _, _, rfl, rfl, sql_same hr_sub (SqL.of h1), h3, here ok kk h4⟩
  · rename_i ns i
    cases q : atI ns i with
    | none => rw [q] at e; cases e
    | some zz =>
      rw [q] at e
      cases e
      obtain ⟨a, rfl, h1, h2⟩ := rx
      cases ry
      exact .inl ⟨_, _, _, _, rfl, rfl, sql_same hr_sub h1, map_at q, here ok kk (.int zz)⟩
  · cases e
def cutD (xs : List PyData) (lo hi : Option Int) : List PyData := (xs.drop (HT.sIx xs.length 0 lo)).take (HT.sIx xs.length xs.length hi - HT.sIx xs.length 0 lo)
theorem dqa_drop {H : Hp} : ∀ {vs : List V} {ds : List PyData} (n : Nat), DqA K H vs ds → DqA K H (vs.drop n) (ds.drop n)
  | _, _, 0, r => r
  | _, _, _ + 1, .nil => .nil
  | _, _, n + 1, .cons _ t => dqa_drop n t
theorem dqa_take {H : Hp} : ∀ {vs : List V} {ds : List PyData} (n : Nat), DqA K H vs ds → DqA K H (vs.take n) (ds.take n)
  | _, _, 0, _ => .nil
  | _, _, _ + 1, .nil => .nil
  | _, _, n + 1, .cons r t => .cons r (dqa_take n t)
theorem dqa_cut {H : Hp} {vs : List V} {ds : List PyData} (lo hi : Option Int) (h : DqA K H vs ds) : DqA K H (cutV vs lo hi) (cutD ds lo hi) := by
  unfold cutV cutD
  rw [dqa_len h]
  exact dqa_take _ (dqa_drop _ h)
def fSl : D → Option Int → Option Int → Option D
  | .d (.list xs), lo, hi => some (.d (.list (cutD xs lo hi)))
  | .d (.tuple xs), lo, hi => some (.d (.tuple (cutD xs lo hi)))
  | _, _, _ => none
theorem cutD_all {xs : List PyData} {lo hi : Option Int} (h : HT.sIx xs.length 0 lo = 0 ∧ HT.sIx xs.length xs.length hi = xs.length) : cutD xs lo hi = xs := by
  unfold cutD
  rw [h.1, h.2, List.drop_zero, Nat.sub_zero, List.take_length]
theorem o_sl (W : FmC cb P w K mg base k N F) : ∃ r, (∀ i, SlR (F i) r) ∧ SlD K r fSl := by
  refine ⟨_, fun i => (slK rSlL (W.K i) sl_list).or (slK rSlA (W.K i) sl_tupA), fun I s H x z lo hi a Q ok rx e kk => ?_⟩
  unfold fSl at e
  split at e
  · cases e
    cases rx with
    | lst h1 h2 => exact .inl ⟨_, _, rfl, sql_same hr_sub (SqL.of h1), newL ok kk (dqa_cut _ _ h2)⟩
  · cases e
    cases rx with
    | tup h1 h2 =>
      refine .inr ⟨_, _, rfl, SqT.of (hr_sub _ _ h1), fun q => ?_, fun _ => newT ok kk (dqa_cut _ _ h2)⟩
      rw [dqa_len h2] at q
      rw [cutD_all q] at kk
      exact here ok kk (.tup h1 h2)
  · cases e
/-! ### calls -/
def cLen : List D → Option D
  | [.d (.list xs)] => some (.d (.int xs.length))
  | [.d (.tuple xs)] => some (.d (.int xs.length))
  | [.d (.str z)] => if z.length ≤ 100000 then some (.d (.int z.length)) else none
  | [.ls xs] => some (.d (.int xs.length))
  | [.sc ns] => some (.d (.int ns.length))
  | _ => none
theorem c_len (W : FmC cb P w K mg base k N F) : ∃ r, (∀ i, CallR (F i) (.builtin "len") r) ∧ CallD K r cLen := by
  refine ⟨_, fun i => clK rLenK (W.K i) call_len, fun I s H ds z vs Q ok r e kk => ?_⟩
  unfold cLen at e
  split at e
  · cases e
    cases r with
    | cons h1 h2 =>
      cases h2
      cases h1 with
      | lst a b => exact ⟨_, _, rfl, .inl ⟨_, sql_same hr_sub (SqL.of a), rfl⟩, here ok kk (by rw [dqa_len b]; exact .int _)⟩
  · cases e
    cases r with
    | cons h1 h2 =>
      cases h2
      cases h1 with
      | tup a b => exact ⟨_, _, rfl, .inr ⟨_, SqT.of (hr_sub _ _ a), rfl⟩, here ok kk (by rw [dqa_len b]; exact .int _)⟩
  · rename_i z
    by_cases c : z.length ≤ 100000
    · rw [if_pos c] at e
      cases e
      cases r with
      | cons h1 h2 =>
        cases h2
        cases h1
        exact ⟨_, _, rfl, ⟨sz c, rfl⟩, here ok kk (.int _)⟩
    · rw [if_neg c] at e; cases e
  · cases e
    cases r with
    | cons h1 h2 =>
      cases h2
      obtain ⟨a, xs, rfl, h1, h2⟩ := h1
      exact ⟨_, _, rfl, .inl ⟨_, sql_same hr_sub (SqL.of h1), rfl⟩, here ok kk (by rw [rpl_len (rpl_ofA h2)]; exact .int _)⟩
  · cases e
    cases r with
    | cons h1 h2 =>
      cases h2
      obtain ⟨a, rfl, h1, h2⟩ := h1
      exact ⟨_, _, rfl, .inl ⟨_, sql_same hr_sub h1, rfl⟩, here ok kk (by rw [List.length_map]; exact .int _)⟩
  · cases e
def bools : List PyData → Option (List Bool)
  | [] => some []
  | .bool b :: r => (bools r).map (b :: ·)
  | _ => none
theorem dqa_bools {H : Hp} : ∀ {vs : List V} {ds : List PyData} {bs : List Bool}, DqA K H vs ds → bools ds = some bs → vs = bs.map V.bl
  | _, _, _, .nil, h => by cases h; rfl
  | _, _, _, .cons (d := d) h t, e => by
    cases d with
    | bool b =>
      unfold bools at e
      rename_i vs ds
      cases q : bools ds with
      | none => rw [q] at e; cases e
      | some ys =>
        rw [q] at e
        cases e
        cases h
        rw [dqa_bools t q]
        rfl
    | _ => cases e
def cAll : List D → Option D
  | [.d (.list xs)] => (bools xs).map fun bs => .d (.bool (bs.all id))
  | _ => none
def cAny : List D → Option D
  | [.d (.list xs)] => (bools xs).map fun bs => .d (.bool (bs.any id))
  | _ => none
theorem c_all (W : Fm P w K mg base k N F) : ∃ r, (∀ i, CallR (F i) (.builtin "all") r) ∧ CallD K r cAll := by
  refine ⟨_, fun i => clK rAll (W.K i) (cr_all (W.calm i)), fun I s H ds z vs Q ok r e kk => ?_⟩
  unfold cAll at e
  split at e
  · rename_i xs
    cases q : bools xs with
    | none => rw [q] at e; cases e
    | some bs =>
      rw [q] at e
      cases e
      cases r with
      | cons h1 h2 =>
        cases h2
        cases h1 with
        | lst a b => exact ⟨_, bs, rfl, by rw [← dqa_bools b q]; exact sql_same hr_sub (SqL.of a), here ok kk (.bl _)⟩
  · cases e
theorem c_any (W : Fm P w K mg base k N F) : ∃ r, (∀ i, CallR (F i) (.builtin "any") r) ∧ CallD K r cAny := by
  refine ⟨_, fun i => clK rAny (W.K i) (cr_any (W.calm i)), fun I s H ds z vs Q ok r e kk => ?_⟩
  unfold cAny at e
  split at e
  · rename_i xs
    cases q : bools xs with
    | none => rw [q] at e; cases e
    | some bs =>
      rw [q] at e
      cases e
      cases r with
      | cons h1 h2 =>
        cases h2
        cases h1 with
        | lst a b => exact ⟨_, bs, rfl, by rw [← dqa_bools b q]; exact sql_same hr_sub (SqL.of a), here ok kk (.bl _)⟩
  · cases e
def cTup : List D → Option D
  | [.d (.list xs)] => some (.d (.tuple xs))
  | [.d (.tuple xs)] => some (.d (.tuple xs))
  | _ => none
theorem c_tup (W : FmC cb P w K mg base k N F) : ∃ r, (∀ i, CallR (F i) (.type "tuple") r) ∧ CallD K r cTup := by
  refine ⟨_, fun i => clK rTupK (W.K i) call_tuple_of, fun I s H ds z vs Q ok r e kk => ?_⟩
  unfold cTup at e
  split at e
  · cases e
    cases r with
    | cons h1 h2 =>
      cases h2
      cases h1 with
      | lst a b => exact ⟨_, _, rfl, .inl ⟨sql_same hr_sub (SqL.of a), newT ok kk b⟩⟩
  · cases e
    cases r with
    | cons h1 h2 =>
      cases h2
      cases h1 with
      | tup a b => exact ⟨_, _, rfl, .inr ⟨SqT.of (hr_sub _ _ a), here ok kk (.tup a b)⟩⟩
  · cases e
def cLst : List D → Option D
  | [.d (.list xs)] => some (.d (.list xs))
  | [.d (.tuple xs)] => some (.d (.list xs))
  | _ => none
theorem c_lst (W : FmC cb P w K mg base k N F) : ∃ r, (∀ i, CallR (F i) (.type "list") r) ∧ CallD K r cLst := by
  refine ⟨_, fun i => clK rLstK (W.K i) call_list_of, fun I s H ds z vs Q ok r e kk => ?_⟩
  unfold cLst at e
  split at e
  · cases e
    cases r with
    | cons h1 h2 =>
      cases h2
      cases h1 with
      | lst a b => exact ⟨_, _, rfl, .inl (sql_same hr_sub (SqL.of a)), newL ok kk b⟩
  · cases e
    cases r with
    | cons h1 h2 =>
      cases h2
      cases h1 with
      | tup a b => exact ⟨_, _, rfl, .inr (SqT.of (hr_sub _ _ a)), newL ok kk b⟩
  · cases e
def cInt : List D → Option D
  | [.d (.int i)] => some (.d (.int i))
  | [.d (.bool b)] => some (.d (.int (if b then 1 else 0)))
  | _ => none
theorem c_int (W : FmC cb P w K mg base k N F) : ∃ r, (∀ i, CallR (F i) (.type "int") r) ∧ CallD K r cInt := by
  refine ⟨_, fun i => call_int1, fun I s H ds z vs Q ok r e kk => ?_⟩
  unfold cInt at e
  split at e
  · cases e
    cases r with
    | cons h1 h2 =>
      cases h2
      cases h1
      exact .inl ⟨_, rfl, here ok kk (.int _)⟩
  · cases e
    cases r with
    | cons h1 h2 =>
      cases h2
      cases h1
      exact .inr ⟨_, rfl, here ok kk (.int _)⟩
  · cases e
/-! ### isinstance -/
def tyN : PyData → Option String
  | .none => some "NoneType"
  | .bool _ => some "bool"
  | .int _ => some "int"
  | .str _ => some "str"
  | .list _ => some "list"
  | .tuple _ => some "tuple"
  | .dict _ => none
theorem tyx {H : Hp} {v : V} {d : PyData} {n : String} (r : Dq K H v d) (e : tyN d = some n) : TyX K H v (.type n) := by
  cases r with
  | non => cases e; exact .base .non
  | bl b => cases e; exact .base (.bl b)
  | int i => cases e; exact .base (.int i)
  | str x => cases e; exact .base (.str x)
  | lst h _ => cases e; exact .base (.lst h)
  | tup h _ => cases e; exact .base (.tup h)
theorem tyx_same {H H' : Hp} {v : V} {d : PyData} {n : String} (e2 : Same H H') (r : Dq K H v d) (e : tyN d = some n) : TyX K H' v (.type n) := tyx (dp_same e2 r) e
/-- kitB, as a table -/
def isT (t n : String) : Option Bool := match n with
  | "int" => some (t == "int" || t == "bool")
  | "bool" => some (t == "bool")
  | "str" => some (t == "str")
  | "tuple" => some (t == "tuple")
  | "list" => some (t == "list")
  | _ => none
def cIsi : List D → Option D
  | [.d x, .o (.ty m)] => (tyN x).bind fun t => (isT t m).map fun b => .d (.bool b)
  | _ => none
theorem kit_all : ∀ t ∈ ["NoneType", "bool", "int", "str", "list", "tuple"], ∀ n ∈ ["int", "bool", "str", "tuple", "list"], ∀ b, isT t n = some b → kitB t n = some b := by decide +kernel
theorem tyN_mem {x : PyData} {t : String} (h : tyN x = some t) : t ∈ ["NoneType", "bool", "int", "str", "list", "tuple"] := by
  cases x <;> cases h <;> decide
theorem isT_mem {t n : String} {b : Bool} (h : isT t n = some b) : n ∈ ["int", "bool", "str", "tuple", "list"] := by
  unfold isT at h
  split at h <;> first | decide | cases h
theorem kit_is {x : PyData} {t n : String} {b : Bool} (h1 : tyN x = some t) (h2 : isT t n = some b) : PySem.W.kitOne K (.type t) (.type n) = some b := kit_ty (kit_all t (tyN_mem h1) n (isT_mem h2) b h2)
theorem c_isi (W : FmC cb P w K mg base k N F) : ∃ r, (∀ i, CallR (F i) (.builtin "isinstance") r) ∧ CallD K r cIsi := by
  refine ⟨_, fun i => clK rIsi (W.K i) call_isi, fun I s H ds z vs Q ok r e kk => ?_⟩
  unfold cIsi at e
  split at e
  · rename_i x m
    cases q : tyN x with
    | none => rw [q] at e; cases e
    | some t =>
      rw [q] at e
      have e : (isT t m).map (fun b => D.d (.bool b)) = some z := e
      cases q2 : isT t m with
      | none => rw [q2] at e; cases e
      | some b =>
        rw [q2] at e
        cases e
        cases r with
        | cons h1 h2 =>
          cases h2 with
          | cons h3 h4 =>
            cases h4
            cases h3
            exact ⟨_, _, _, _, _, rfl, .ty m, tyx_same hr_sub h1 q, kit_is q q2, here ok kk (.bl _)⟩
  · cases e
/-- isinstance(x, (T1, T2)) -/
def cIsi2 (n1 n2 : String) : D → Option D
  | .d x => (tyN x).bind fun t => (isT t n1).bind fun b1 => (isT t n2).map fun b2 => .d (.bool (b1 || b2))
  | _ => none
theorem de_isi2 {I : SI} {W : WX} {e : Expr} {x1 x2 : Str} {n1 n2 : String} {p p1 p2 pos tpos : Pos} {kk : Nat} {g : Sm D} (Wf : FmC cb P w K mg base k N F) (h : DE I K W F e g) (hm : mg "isinstance" = none) (hv : bootBuiltins "isinstance" = some (.builtin "isinstance"))
    (m1 : mg x1 = none) (m2 : mg x2 = none) (v1 : bootBuiltins x1 = some (.type n1)) (v2 : bootBuiltins x2 = some (.type n2)) (hg : ∀ i, Gl (F i) "isinstance" := by exact fun _ => rfl) (g1 : ∀ i, Gl (F i) x1 := by exact fun _ => rfl) (g2 : ∀ i, Gl (F i) x2 := by exact fun _ => rfl)
    (k1 : x1 ≠ "__name__" := by decide) (k2 : x2 ≠ "__name__" := by decide) (d1 : (x1 == ("__debug__" : Str)) = false := by decide) (d2 : (x2 == ("__debug__" : Str)) = false := by decide)
    (hs : ∀ i, starEach [e, .Tuple [.Name x1 p1, .Name x2 p2] kk tpos] (F i).env = (false, eval e (F i).env) :: starEach [.Tuple [.Name x1 p1, .Name x2 p2] kk tpos] (F i).env := by exact fun _ => rfl)
    (hs2 : ∀ i, starEach [Expr.Tuple [.Name x1 p1, .Name x2 p2] kk tpos] (F i).env = (false, eval (Expr.Tuple [.Name x1 p1, .Name x2 p2] kk tpos) (F i).env) :: starEach [] (F i).env := by exact fun _ => rfl)
    (hs3 : ∀ i, starEach [Expr.Name x1 p1, .Name x2 p2] (F i).env = (false, eval (Expr.Name x1 p1) (F i).env) :: starEach [.Name x2 p2] (F i).env := by exact fun _ => rfl)
    (hs4 : ∀ i, starEach [Expr.Name x2 p2] (F i).env = (false, eval (Expr.Name x2 p2) (F i).env) :: starEach [] (F i).env := by exact fun _ => rfl)
    (hpl : ∀ i, (backTo pos (starEach [Expr.Tuple [.Name x1 p1, .Name x2 p2] kk tpos] (F i).env)).any (·.1) = false := by exact fun _ => rfl) :
    DE I K W F (.Call (.Name "isinstance" p) [e, .Tuple [.Name x1 p1, .Name x2 p2] kk tpos] [] pos) (sAp (cIsi2 n1 n2) g) := fun i =>
  (pe_callB (clK rIsiT (Wf.K i) call_isiT) (hg i) (by rw [Wf.mg i]; exact hm) hv (pa_cons (h i) (pa_cons (pe_tup (pa_cons (pe_bltn (v := .ty n1) (g1 i) (by rw [Wf.mg i]; exact m1) v1 rfl k1 d1) (pa_cons (pe_bltn (v := .ty n2) (g2 i) (by rw [Wf.mg i]; exact m2) v2 rfl k2 d2) pa_nil (hs4 i)) (hs3 i))) pa_nil (hs2 i)) (hs i)) (by decide) (by decide) (hs i) (hpl i)).imp
   fun σ H Q ⟨env, s, ok, re, h⟩ => step (Po.refl ok) re h fun x v s1 H1 p1 _ r1 h => by
    obtain ⟨z, e2, h⟩ := post_ofO h
    unfold cIsi2 at e2
    split at e2
    · rename_i x
      cases q : tyN x with
      | none => rw [q] at e2; cases e2
      | some ty =>
        rw [q] at e2
        simp only [Option.bind_some] at e2
        cases q1 : isT ty n1 with
        | none => rw [q1] at e2; cases e2
        | some b1 =>
          rw [q1] at e2
          simp only [Option.bind_some] at e2
          cases q2 : isT ty n2 with
          | none => rw [q2] at e2; cases e2
          | some b2 =>
            rw [q2] at e2
            cases e2
            refine ⟨(by show 2 ≤ sizeLine; decide), fun tp hp => ?_⟩
            have p2 : Po I K s1 H1 s1 (upd H1 tp (.tup [.ty n1, .ty n2])) := Po.up p1.ok (same_new hp)
            refine ⟨v, tp, _, _, _, b1 || b2, rfl, upd_same, .cons (.ty n1) (.cons (.ty n2) .nil), tyx_same (fun a o q => same_new hp a o (hr_sub a o q)) r1 q, ?_, h _ s1 _ rfl (p1.trans p2) (.bl _)⟩
            refine kitAny_cons (kit_is q q1) (fun hb => ?_) (fun hb => by rw [hb]; rfl)
            rw [hb]
            refine kitAny_cons (kit_is q q2) (fun hb2 => by rw [hb2]; exact kitAny_nil) (fun hb2 => by rw [hb2]; rfl)
    · cases e2
end
end Dl
set_option maxRecDepth 100000
set_option maxHeartbeats 4000000
namespace Dl
open PySem L2 PySem.W PyProof.Rows

/-! ### tuples of texts: their order -/
def sk : List PyData → Option (List (Int ⊕ List Nat))
  | [] => some []
  | .str s :: r => (sk r).map (Sum.inr s.cps.toList :: ·)
  | _ => none
def skT : PyData → Option (List (Int ⊕ List Nat))
  | .tuple xs => sk xs
  | _ => none
abbrev ltK (a b : List (Int ⊕ List Nat)) : Bool := PyProof.Rows.lexLt itemOrd a b
theorem sk_cons {x : PyData} {r : List PyData} {l : List (Int ⊕ List Nat)} (h : sk (x :: r) = some l) : ∃ s l', x = .str s ∧ sk r = some l' ∧ l = Sum.inr s.cps.toList :: l' := by
  cases x with
  | str s =>
    unfold sk at h
    cases q : sk r with
    | none => rw [q] at h; cases h
    | some l' =>
      rw [q] at h
      cases h
      exact ⟨s, l', rfl, rfl, rfl⟩
  | _ => cases h
theorem sk_alike : ∀ {xs ys : List PyData} {l m : List (Int ⊕ List Nat)}, sk xs = some l → sk ys = some m → alikeAll xs ys = true
  | [], ys, _, _, _, _ => by unfold alikeAll; rfl
  | x :: xs, [], _, _, _, _ => by unfold alikeAll; rfl
  | x :: xs, y :: ys, l, m, h1, h2 => by
    obtain ⟨s, l', rfl, h3, _⟩ := sk_cons h1
    obtain ⟨t, m', rfl, h4, _⟩ := sk_cons h2
    rw [alikeAll, alike, sk_alike h3 h4]
    rfl
theorem sk_lt : ∀ {xs ys : List PyData} {l m : List (Int ⊕ List Nat)}, sk xs = some l → sk ys = some m → ltK (keyToksAll xs) (keyToksAll ys) = ltK l m
  | [], [], l, m, h1, h2 => by cases h1; cases h2; rfl
  | [], y :: ys, l, m, h1, h2 => by
    obtain ⟨t, m', rfl, h4, rfl⟩ := sk_cons h2
    cases h1
    rfl
  | x :: xs, [], l, m, h1, h2 => by
    obtain ⟨t, m', rfl, h4, rfl⟩ := sk_cons h1
    cases h2
    rfl
  | x :: xs, y :: ys, l, m, h1, h2 => by
    obtain ⟨s, l', rfl, h3, rfl⟩ := sk_cons h1
    obtain ⟨t, m', rfl, h4, rfl⟩ := sk_cons h2
    have ih := sk_lt h3 h4
    show ltK (Sum.inl 1 :: ([Sum.inr s.cps.toList] ++ keyToksAll xs)) (Sum.inl 1 :: ([Sum.inr t.cps.toList] ++ keyToksAll ys)) = _
    unfold ltK
    rw [PyProof.Rows.lex_self, PyProof.Rows.lex_cons, List.singleton_append, List.singleton_append, PyProof.Rows.lex_cons]
    rw [show PyProof.Rows.lexLt itemOrd (keyToksAll xs) (keyToksAll ys) = PyProof.Rows.lexLt itemOrd l' m' from ih]
theorem sk_inj : ∀ {xs ys : List PyData} {l : List (Int ⊕ List Nat)}, sk xs = some l → sk ys = some l → xs = ys
  | [], [], _, _, _ => rfl
  | [], y :: ys, _, h1, h2 => by
    obtain ⟨t, m', rfl, h4, e⟩ := sk_cons h2
    cases h1
    cases e
  | x :: xs, [], _, h1, h2 => by
    obtain ⟨t, m', rfl, h4, e⟩ := sk_cons h1
    cases h2
    cases e
  | x :: xs, y :: ys, l, h1, h2 => by
    obtain ⟨s, l', rfl, h3, rfl⟩ := sk_cons h1
    obtain ⟨t, m', rfl, h4, e⟩ := sk_cons h2
    injection e with e1 e2
    injection e1 with e1
    subst e2
    rw [sk_inj h3 h4]
    have : s = t := by
      cases s; cases t
      simp only [Str.mk.injEq]
      exact Array.toList_inj.mp e1
    rw [this]
def rLtD (K : PySem.W.Frag) : R2 := fun x y H Q => ∃ d e, Dp K H x d ∧ Dp K H y e ∧ alike d e = true ∧ d ≠ .none ∧ d.depth ≤ 64 ∧ Q (.bl (dataLt d e)) H
theorem op_ltD {X : Cx} (hu : X.A.units + 64 < cLine) : OpR X (compareOp .Lt) (rLtD X.K) := by
  intro pins s σ H x y v u Q I rx ry h
  obtain ⟨d, e, hd, he, ha, hn, hz, q⟩ := h
  obtain ⟨as, r1⟩ := Dp.reads I d x v hd rx
  obtain ⟨bs, r2⟩ := Dp.reads I e y u he ry
  exact rcLt_alike d e X.A s v u as bs r1 r2 ha hn (by have : min d.depth e.depth ≤ d.depth := Nat.min_le_left _ _; omega) X.prog X.w X.xe _ ⟨.bl _, H, I, rfl, q⟩
theorem sk_depth : ∀ {xs : List PyData} {l : List (Int ⊕ List Nat)}, sk xs = some l → PyData.depthAll xs ≤ 1
  | [], _, _ => by simp [PyData.depthAll]
  | x :: xs, l, h => by
    obtain ⟨s, l', rfl, h3, rfl⟩ := sk_cons h
    have := sk_depth h3
    simp only [PyData.depthAll, PyData.depth]
    omega
def fLt : D → D → Option D
  | .d (.int i), .d (.int j) => some (.d (.bool (decide (i < j))))
  | .d (.tuple a), .d (.tuple b) => (sk a).bind fun x => (sk b).map fun y => .d (.bool (ltK x y))
  | _, _ => none
section
variable {cb : Bool} {ι : Type} {P : Program} {w : World} {K : PySem.W.Frag} {mg : Str → Option Value} {base : Heap} {k : Nat} {N : List Str} {F : ι → Cx}
theorem o_lt (W : FmC cb P w K mg base k N F) : ∃ r, (∀ i, OpR (F i) (compareOp .Lt) r) ∧ OpD K r fLt := by
  refine ⟨_, fun i => opr_or op_lt (opK rLtD (W.K i) (op_ltD (by have := W.units i; omega))), fun I s H x y z a b Q ok rx ry e kk => ?_⟩
  unfold fLt at e
  split at e
  · cases e; cases rx; cases ry
    exact .inl ⟨_, _, rfl, rfl, here ok kk (.bl _)⟩
  · rename_i xs ys
    cases q : sk xs with
    | none => rw [q] at e; cases e
    | some l =>
      cases q2 : sk ys with
      | none => rw [q, q2] at e; cases e
      | some m =>
        rw [q, q2] at e
        cases e
        have hd : PyData.depth (.tuple xs) ≤ 64 := by
          have := sk_depth q
          simp only [PyData.depth]
          omega
        refine .inr ⟨_, _, dq_dp (dp_same hr_sub rx), dq_dp (dp_same hr_sub ry), (by rw [alike]; exact sk_alike q q2), (fun z => nomatch z), hd, ?_⟩
        rw [dataLt_tuple, show PyProof.Rows.lexLt itemOrd (keyToksAll xs) (keyToksAll ys) = ltK l m from sk_lt q q2]
        exact here ok kk (.bl _)
  · cases e
end

/-! ### sorted: tuples of texts -/
def ltT (x y : PyData) : Bool := ltK ((skT x).getD []) ((skT y).getD [])
def ins (x : PyData) : List PyData → List PyData
  | [] => [x]
  | y :: r => if ltT y x = true then y :: ins x r else x :: y :: r
def isort : List PyData → List PyData
  | [] => []
  | x :: r => ins x (isort r)
theorem ins_perm (x : PyData) : ∀ l : List PyData, (ins x l).Perm (x :: l)
  | [] => List.Perm.refl _
  | y :: r => by
    unfold ins
    by_cases c : ltT y x = true
    · rw [if_pos c]
      exact ((ins_perm x r).cons y).trans (List.Perm.swap x y r)
    · rw [if_neg c]
theorem isort_perm : ∀ l : List PyData, (isort l).Perm l
  | [] => List.Perm.refl _
  | x :: r => (ins_perm x (isort r)).trans ((isort_perm r).cons x)
theorem ltT_neg {x y z : PyData} (h : ltT x z = true) : ltT x y = true ∨ ltT y z = true := lex_negTrans _ _ _ h
theorem ltT_asym {x y : PyData} (h : ltT x y = true) : ltT y x = false := by
  cases q : ltT y x with
  | false => rfl
  | true =>
    have := lex_trans _ _ _ h q
    rw [lex_irrefl] at this
    cases this
abbrev Asc (l : List PyData) : Prop := l.Pairwise fun x y => ltT y x = false
theorem ins_asc (x : PyData) : ∀ {l : List PyData}, Asc l → Asc (ins x l)
  | [], _ => List.pairwise_singleton _ _
  | y :: r, h => by
    obtain ⟨h1, h2⟩ := List.pairwise_cons.mp h
    unfold ins
    by_cases c : ltT y x = true
    · rw [if_pos c]
      refine List.pairwise_cons.mpr ⟨fun z hz => ?_, ins_asc x h2⟩
      rcases List.mem_cons.mp ((ins_perm x r).mem_iff.mp hz) with e | hz
      · subst e; exact ltT_asym c
      · exact h1 z hz
    · rw [if_neg c]
      refine List.pairwise_cons.mpr ⟨fun z hz => ?_, h⟩
      rcases List.mem_cons.mp hz with e | hz
      · subst e
        cases q : ltT z x with
        | false => rfl
        | true => exact absurd q c
      · cases q : ltT z x with
        | false => rfl
        | true =>
          rcases ltT_neg (y := y) q with q2 | q2
          · rw [h1 z hz] at q2; cases q2
          · exact absurd q2 c
theorem isort_asc : ∀ l : List PyData, Asc (isort l)
  | [] => List.Pairwise.nil
  | x :: r => ins_asc x (isort_asc r)
abbrev TS (d : PyData) : Prop := ∃ l, skT d = some l ∧ l ≠ []
theorem ts_anti {x y : PyData} (hx : TS x) (hy : TS y) (h1 : ltT x y = false) (h2 : ltT y x = false) : x = y := by
  obtain ⟨l, e1, _⟩ := hx
  obtain ⟨m, e2, _⟩ := hy
  unfold ltT at h1 h2
  rw [e1, e2] at h1 h2
  have := lex_total _ _ h1 h2
  simp only [Option.getD_some] at this
  subst this
  cases x with
  | tuple xs =>
    cases y with
    | tuple ys => rw [sk_inj (show sk xs = some l from e1) (show sk ys = some l from e2)]
    | _ => cases e2
  | _ => cases e1
theorem asc_uniq : ∀ {l m : List PyData}, (∀ d ∈ l, TS d) → Asc l → Asc m → l.Perm m → l = m
  | [], m, _, _, _, h => (List.Perm.nil_eq h)
  | x :: l, [], _, _, _, h => absurd h.length_eq (by simp)
  | x :: l, y :: m, ht, hl, hm, h => by
    obtain ⟨l1, l2⟩ := List.pairwise_cons.mp hl
    obtain ⟨m1, m2⟩ := List.pairwise_cons.mp hm
    have ty : TS y := ht y (h.mem_iff.mpr List.mem_cons_self)
    have hxy : ltT x y = false := by
      rcases List.mem_cons.mp (h.mem_iff.mp (List.mem_cons_self (a := x) (l := l))) with e | hx
      · rw [e]; exact lex_irrefl _
      · exact m1 x hx
    have hyx : ltT y x = false := by
      rcases List.mem_cons.mp (h.mem_iff.mpr (List.mem_cons_self (a := y) (l := m))) with e | hy
      · rw [e]; exact lex_irrefl _
      · exact l1 y hy
    have e := ts_anti (ht x List.mem_cons_self) ty hxy hyx
    subst e
    rw [asc_uniq (fun d hd => ht d (List.mem_cons_of_mem _ hd)) l2 m2 h.cons_inv]
theorem isort_uniq {l m : List PyData} (ht : ∀ d ∈ l, TS d) (hl : Asc l) (h : l.Perm m) : l = isort m := asc_uniq ht hl (isort_asc m) (h.trans (isort_perm m).symm)
theorem isort_of_perm {l m : List PyData} (ht : ∀ d ∈ l, TS d) (h : l.Perm m) : isort l = isort m :=
  isort_uniq (fun d hd => ht d ((isort_perm l).mem_iff.mp hd)) (isort_asc l) ((isort_perm l).trans h)

theorem dpa_perm {K : PySem.W.Frag} {H : Hp} {xs ys : List V} (p : ys.Perm xs) : ∀ {ds : List PyData}, DqA K H xs ds → ∃ es, DqA K H ys es ∧ es.Perm ds := by
  induction p with
  | nil => intro ds h; exact ⟨ds, h, List.Perm.refl _⟩
  | cons x p ih =>
    intro ds h
    cases h with
    | cons h1 h2 =>
      obtain ⟨es, h3, h4⟩ := ih h2
      exact ⟨_, .cons h1 h3, h4.cons _⟩
  | swap x y l =>
    intro ds h
    cases h with
    | cons h1 h2 =>
      cases h2 with
      | cons h3 h4 => exact ⟨_, .cons h3 (.cons h1 h4), List.Perm.swap _ _ _⟩
  | trans p1 p2 ih1 ih2 =>
    intro ds h
    obtain ⟨es, h3, h4⟩ := ih2 h
    obtain ⟨es2, h5, h6⟩ := ih1 h3
    exact ⟨es2, h5, h6.trans h4⟩
/-- the key of a value that is a tuple of texts in a heap -/
def TK (h : Heap) (v : Value) (l : List (Int ⊕ List Nat)) : Prop := ∃ a o ys n, v = .ref a ∧ h.get? a = some o ∧ o.cls = .type "tuple" ∧ o.data = .seq ys n ∧ tupItems (fun _ => true) 0 ys.toList = some l
def kOf (h : Heap) (v : Value) : List (Int ⊕ List Nat) := (tupKey h (fun _ => true) v).getD []
theorem kOf_tk {h : Heap} {v : Value} {l : List (Int ⊕ List Nat)} (t : TK h v l) : kOf h v = l := by
  obtain ⟨a, o, ys, n, rfl, ho, hc, hd, hi⟩ := t
  unfold kOf tupKey
  simp only [ho, hd, hi, Option.getD_some]
theorem TK.keep {h h' : Heap} {v : Value} {l : List (Int ⊕ List Nat)} (t : TK h v l) (k : ∀ b o, h.get? b = some o → o.cls = .type "tuple" → h'.get? b = some o) : TK h' v l := by
  obtain ⟨a, o, ys, n, e, ho, hc, hd, hi⟩ := t
  exact ⟨a, o, ys, n, e, k a o ho hc, hc, hd, hi⟩
theorem items_sk {K : PySem.W.Frag} {H : Hp} : ∀ {ws : List V} {es : List PyData} {us : List Value} {l : List (Int ⊕ List Nat)} (i : Nat), DqA K H ws es → Vals ws us → sk es = some l → tupItems (fun _ => true) i us = some l
  | _, _, _, _, _, .nil, .nil, h => by cases h; simp [tupItems]
  | _, _, _, _, i, .cons h1 h2, .cons r1 r2, h => by
    obtain ⟨s, l', rfl, h3, rfl⟩ := sk_cons h
    cases h1
    obtain ⟨t, rfl⟩ := r1
    have := items_sk (i + 1) h2 r2 h3
    simp [tupItems, this]
theorem first_sk {us : List Value} {l : List (Int ⊕ List Nat)} (h : tupItems (fun _ => true) 0 us = some l) (hn : l ≠ []) : ∃ x t, us[0]? = some (.str x t) := by
  cases us with
  | nil => exact absurd (by simpa [tupItems] using h.symm) hn
  | cons u r =>
    cases u with
    | str x t => exact ⟨x, t, rfl⟩
    | int n t => simp [tupItems] at h
    | _ => simp [tupItems] at h
section
variable {X : Cx} {pins : List (Addr × Obj)} {σ : L2.St} {H : Hp} {s : Shared}
theorem tk_of (I : Inv X pins σ H s) {t : Addr} {d : PyData} {l : List (Int ⊕ List Nat)} (h : Dq X.K H (.ref t) d) (e : skT d = some l) : TK s.heap (.ref t) l := by
  cases h with
  | lst _ _ => cases e
  | tup h1 h2 =>
    obtain ⟨its, rv, ⟨o, ho, hc, n, hd⟩, _⟩ := I.tuple (SqT.of h1)
    exact ⟨t, o, its.toArray, n, rfl, ho, hc, hd, items_sk 0 h2 rv e⟩
theorem swo_key (k : Value → List (Int ⊕ List Nat)) : SrtO.Swo fun v u => ltK (k v) (k u) := by
  refine ⟨fun x y h => ?_, fun x y z h1 h2 => ?_⟩
  · cases q : ltK (k y) (k x) with
    | false => rfl
    | true =>
      have := lex_trans _ _ _ h q
      rw [lex_irrefl] at this
      cases this
  · cases q : ltK (k z) (k x) with
    | false => rfl
    | true =>
      rcases lex_negTrans _ (k y) _ q with q2 | q2
      · exact absurd (h2.symm.trans q2) Bool.false_ne_true
      · exact absurd (h1.symm.trans q2) Bool.false_ne_true
theorem katTups_of' {h : Heap} : ∀ {vs : List Value}, (∀ v ∈ vs, ∃ l, TK h v l ∧ l ≠ []) → ∃ fs, KatTups h vs fs ∧ fs.length = vs.length ∧ ∀ f ∈ fs, ∃ x t, f = Value.str x t
  | [], _ => ⟨[], KatTups.nil, rfl, fun f hf => absurd hf (by simp)⟩
  | v :: vs, hv => by
    obtain ⟨fs, h1, h2, h3⟩ := katTups_of' (vs := vs) fun u hu => hv u (List.mem_cons_of_mem _ hu)
    obtain ⟨l, ⟨a, o, ys, n, rfl, ho, hc, hd, hi⟩, hn⟩ := hv v List.mem_cons_self
    obtain ⟨x, t, hx⟩ := first_sk hi hn
    refine ⟨.str x t :: fs, KatTups.cons ho hc hd (by rw [← hx]; simp) h1, by rw [List.length_cons, List.length_cons, h2], fun f hf => ?_⟩
    rcases List.mem_cons.mp hf with e | hf
    · exact ⟨x, t, e⟩
    · exact h3 f hf
def rSortT (K : PySem.W.Frag) : List V → Hp → VK → Prop := fun vs H Q => ∃ (a : Addr) (xs : List V) (ds : List PyData) (H0 : Hp), vs = [V.ref a] ∧ H a = some (.lst xs) ∧ Same H0 H ∧ DqA K H0 xs ds ∧ (∀ d ∈ ds, TS d) ∧
  ∀ ys p, DqA K H0 ys (isort ds) → H p = none → Q (.ref p) (upd H p (.lst ys))
theorem dqa_mem {K : PySem.W.Frag} {H : Hp} : ∀ {vs : List V} {ds : List PyData} {v : V}, DqA K H vs ds → v ∈ vs → ∃ d ∈ ds, Dq K H v d
  | _, _, _, .nil, h => absurd h (by simp)
  | _, _, v, .cons h1 h2, h => by
    rcases List.mem_cons.mp h with e | h
    · subst e; exact ⟨_, List.mem_cons_self, h1⟩
    · obtain ⟨d, h3, h4⟩ := dqa_mem h2 h
      exact ⟨d, List.mem_cons_of_mem _ h3, h4⟩
theorem asc_of (I : Inv X pins σ H s) : ∀ {us : List Value} {es : List PyData}, DqA X.K H (us.map backV) es → (∀ u ∈ us, ∃ a, u = Value.ref a) → (∀ d ∈ es, TS d) → us.Pairwise (fun v u => ltK (kOf s.heap u) (kOf s.heap v) = false) → Asc es
  | [], _, h, _, _, _ => by cases h; exact List.Pairwise.nil
  | u :: us, es, h, hr, ht, hp => by
    cases h with
    | cons h1 h2 =>
      rename_i d es
      obtain ⟨p1, p2⟩ := List.pairwise_cons.mp hp
      refine List.pairwise_cons.mpr ⟨fun e he => ?_, asc_of I h2 (fun w hw => hr w (List.mem_cons_of_mem _ hw)) (fun w hw => ht w (List.mem_cons_of_mem _ hw)) p2⟩
      obtain ⟨a, rfl⟩ := hr u List.mem_cons_self
      obtain ⟨l, hl, _⟩ := ht d List.mem_cons_self
      have k1 := kOf_tk (tk_of I h1 hl)
      -- the item of us that e is
      have mem : ∀ {us : List Value} {es : List PyData}, DqA X.K H (us.map backV) es → e ∈ es → ∃ u ∈ us, Dq X.K H (backV u) e := by
        intro us
        induction us with
        | nil => intro es h he; cases h; cases he
        | cons w r ih =>
          intro es h he
          cases h with
          | cons g1 g2 =>
            rcases List.mem_cons.mp he with q | q
            · subst q; exact ⟨w, List.mem_cons_self, g1⟩
            · obtain ⟨u2, h5, h6⟩ := ih g2 q
              exact ⟨u2, List.mem_cons_of_mem _ h5, h6⟩
      obtain ⟨u2, h5, h6⟩ := mem h2 he
      obtain ⟨a2, rfl⟩ := hr u2 (List.mem_cons_of_mem _ h5)
      obtain ⟨m, hm, _⟩ := ht e (List.mem_cons_of_mem _ he)
      have k2 := kOf_tk (tk_of I (t := a2) h6 hm)
      have := p1 _ h5
      rw [k1, k2] at this
      unfold ltT
      rw [hl, hm]
      exact this
theorem cr_sortT : CallR X (.builtin "sorted") (rSortT X.K) := by
  intro pins s σ H vs us Q I r h
  obtain ⟨a, xs, ds, H0, rfl, hs, hsub, hd0, ht, q⟩ := h
  have hd := dpa_same hsub hd0
  obtain ⟨its, rv, hl, hz⟩ := I.list (SqL.of hs)
  obtain ⟨u, rfl, ru⟩ := vals1 r
  obtain rfl : u = Value.ref a := ru
  obtain ⟨e1, e2⟩ := refs_back rv fun x m => by
    obtain ⟨d, hm, hq⟩ := dqa_mem hd m
    obtain ⟨l, hl, _⟩ := ht d hm
    cases hq <;> first | cases hl | exact ⟨_, rfl⟩
  have hk : ∀ v ∈ its, ∃ l, TK s.heap v l ∧ l ≠ [] := fun v hv => by
    obtain ⟨t, rfl⟩ := e2 v hv
    have hm : V.ref t ∈ xs := by rw [e1]; exact List.mem_map.mpr ⟨_, hv, rfl⟩
    obtain ⟨d, hm, hq⟩ := dqa_mem hd hm
    obtain ⟨l, hl, hn⟩ := ht d hm
    exact ⟨l, tk_of I hq hl, hn⟩
  refine SrtO.sorted_ord (swo_key (kOf s.heap)) hl.isList (by rw [← rv.length]; exact hz) (fun h2 h₁ b hb kk h' keep => ?_) fun out hs hb => ?_
  · have keep2 : ∀ c o, s.heap.get? c = some o → o.cls = .type "tuple" → h'.get? c = some o := fun c o e ec => keep c o (kk c o e).1 (kk c o e).2
    have hk' : ∀ v ∈ its, ∃ l, TK h' v l ∧ l ≠ [] := fun v hv => by
      obtain ⟨l, t, hn⟩ := hk v hv
      exact ⟨l, t.keep keep2, hn⟩
    obtain ⟨fs, f1, f2, f3⟩ := katTups_of' hk'
    refine ⟨tuples' true, fun Q E hq => ?_, fun p q hp hq => ?_⟩
    · refine PySem.W.kat_kind (T := .type "str") f1 (by omega) (fun f hm => ?_) (by rfl) ?_
      · obtain ⟨x, t, rfl⟩ := f3 f hm
        exact PySem.W.Looks.of_pure rfl
      · have e : (Value.type "str" != Value.type "tuple") = true := by first | decide +kernel | rfl | decide
        rw [e]
        exact hq
    · obtain ⟨l, t1, _⟩ := hk p.1 hp
      obtain ⟨m, t2, _⟩ := hk q.1 hq
      show wpAny _ _ _ (fun r s' => s' = _ ∧ r = ltK (kOf s.heap p.1) (kOf s.heap q.1)) _ _
      rw [kOf_tk t1, kOf_tk t2]
      obtain ⟨a1, o1, y1, n1, g1, ho1, hc1, hd1, hi1⟩ := t1.keep keep2
      obtain ⟨a2, o2, y2, n2, g2, ho2, hc2, hd2, hi2⟩ := t2.keep keep2
      rw [g1, g2]
      exact PySem.W.kat_lt ho1 hd1 ho2 hd2 (tup_lex y1.toList y2.toList 0 l m hi1 hi2 (by rw [Array.length_toList, Array.length_toList]) ⟨rfl, rfl⟩)
  · have h3 : ∀ u ∈ out, ∃ a, u = Value.ref a := fun u hu => e2 u (hb.perm.mem_iff.mp hu)
    have hp : (out.map backV).Perm xs := by rw [e1]; exact hb.perm.map backV
    obtain ⟨es, d0, d2⟩ := dpa_perm hp hd0
    have d1 := dpa_same hsub d0
    have hts : ∀ d ∈ es, TS d := fun d hd => ht d (d2.mem_iff.mp hd)
    have hes : es = isort ds := isort_uniq hts (asc_of I d1 h3 hts hs) d2
    obtain ⟨n, hn⟩ := sortedAll_at s.heap its out.toArray
    refine ⟨.ref (s.heap.objs.size + 1), upd H (s.heap.objs.size + 1) (.lst (out.map backV)), I.laid (t' := s.toks) (fun b o e => sortedAll_old e) (Nat.le_succ _) ⟨?_, out, n, vals_back h3, by simpa using hn⟩, rfl, q _ _ (by rw [← hes]; exact d0) (I.hok.fresh (Nat.le_succ _))⟩
    rw [hp.length_eq]
    exact hz
end
end Dl
set_option maxRecDepth 100000
set_option maxHeartbeats 4000000
namespace Dl
open PySem L2

theorem b_len : bootBuiltins "len" = some (.builtin "len") := by decide +kernel
theorem b_all : bootBuiltins "all" = some (.builtin "all") := by decide +kernel
theorem b_any : bootBuiltins "any" = some (.builtin "any") := by decide +kernel
theorem b_sorted : bootBuiltins "sorted" = some (.builtin "sorted") := by decide +kernel
theorem b_sum : bootBuiltins "sum" = some (.builtin "sum") := by decide +kernel
theorem b_isinstance : bootBuiltins "isinstance" = some (.builtin "isinstance") := by decide +kernel
theorem b_int : bootBuiltins "int" = some (.type "int") := by decide +kernel
theorem b_bool : bootBuiltins "bool" = some (.type "bool") := by decide +kernel
theorem b_str : bootBuiltins "str" = some (.type "str") := by decide +kernel
theorem b_list : bootBuiltins "list" = some (.type "list") := by decide +kernel
theorem b_tuple : bootBuiltins "tuple" = some (.type "tuple") := by decide +kernel
theorem b_dict : bootBuiltins "dict" = some (.type "dict") := by decide +kernel

section
variable {cb : Bool} {ι : Type} {P : Program} {w : World} {K : PySem.W.Frag} {mg : Str → Option Value} {base : Heap} {k : Nat} {N : List Str} {F : ι → Cx} {I : SI} {W : WX} {pos : Pos}
/-! ### sorted -/
def tsB (d : PyData) : Bool := match skT d with
  | some (_ :: _) => true
  | _ => false
theorem tsB_ts {d : PyData} (h : tsB d = true) : TS d := by
  unfold tsB at h
  split at h
  · rename_i a l e
    exact ⟨_, e, fun z => by cases z⟩
  · cases h
def cSort : List D → Option D
  | [.d (.list xs)] => if xs.all tsB = true then some (.d (.list (isort xs))) else none
  | _ => none
theorem c_sort (Wf : FmC cb P w K mg base k N F) : ∃ r, (∀ i, CallR (F i) (.builtin "sorted") r) ∧ CallD K r cSort := by
  refine ⟨_, fun i => clK rSortT (Wf.K i) cr_sortT, fun I s H ds z vs Q ok r e kk => ?_⟩
  unfold cSort at e
  split at e
  · rename_i xs
    by_cases c : xs.all tsB = true
    · rw [if_pos c] at e
      cases e
      cases r with
      | cons h1 h2 =>
        cases h2
        cases h1 with
        | lst a b =>
          exact ⟨_, _, _, (Hr I s H).h, rfl, hr_sub _ _ a, hr_sub, b, fun d hd => tsB_ts (List.all_eq_true.mp c d hd), fun ys p hy hp => newL ok kk hy p hp⟩
    · rw [if_neg c] at e; cases e
  · cases e

/-! ### a op b op c -/
def sCh (f f' : D → D → Option D) (a b c : Sm D) : Sm D := fun env t => (a env t).bind fun x t => (b env t).bind fun y t => (ofO ((f x y).bind isB) t).bind fun k t => if k = true then (c env t).bind fun z t => ofO (f' y z) t else .ok (.d (.bool false)) t
def pCh (f f' : D → D → Option D) (a b c : Pm D) : Pm D := fun env => (a env).bind fun p => (b env).bind fun q => (f p q).bind fun z => (isB z).bind fun t => if t = true then (c env).bind fun r => f' q r else some (.d (.bool false))
theorem lift_ch (f f' : D → D → Option D) (a b c : Pm D) : lift (pCh f f' a b c) = sCh f f' (lift a) (lift b) (lift c) := by
  funext env s
  unfold lift pCh sCh
  dsimp only
  cases a env with
  | none => rfl
  | some x =>
    simp only [Option.bind_some, ofO, R.bind]
    cases b env with
    | none => rfl
    | some y =>
      simp only [Option.bind_some]
      cases f x y with
      | none => rfl
      | some z =>
        simp only [Option.bind_some]
        cases isB z with
        | none => rfl
        | some t =>
          cases t with
          | false => rfl
          | true =>
            simp only [Option.bind_some, if_true]
            cases c env <;> rfl
theorem tg_ch {r r' : R2} {f f' : D → D → Option D} {ga gb gc : Sm D} (hr : OpD K r f) (hr' : OpD K r' f') : ∀ σ H Q, tG I K W (sCh f f' ga gb gc) σ H Q → tChain r r' (tG I K W ga) (tG I K W gb) (tG I K W gc) σ H Q := fun σ H Q ⟨env, s, ok, re, h⟩ =>
  step (Po.refl ok) re h fun x v1 s1 H1 p1 _ r1 h => step p1 re h fun y v2 s2 H2 p2 q2 r2 h => by
    obtain ⟨k, e, h⟩ := post_ofO (R.post_bind h)
    cases e3 : f x y with
    | none => rw [e3] at e; cases e
    | some z =>
      rw [e3] at e
      have e : isB z = some k := e
      refine hr I s2 H2 x y z v1 v2 _ p2.ok (rp_same q2.same r1) r2 e3 fun v3 H3 p3 r3 => ?_
      refine ⟨k, isB_at e r3, ?_⟩
      cases k with
      | false =>
        rw [if_neg Bool.false_ne_true] at h ⊢
        exact h _ s2 H3 rfl (p2.trans p3) (.bl false)
      | true =>
        rw [if_pos rfl] at h ⊢
        refine step (s := s2) (p2.trans p3) re h fun u v4 s4 H4 p4 q4 r4 h => ?_
        obtain ⟨y6, e6, h⟩ := post_ofO h
        exact hr' I s4 H4 y u y6 v2 v4 Q p4.ok (rp_same (p3.trans q4).same r2) r4 e6 fun v H' p5 r5 => h v s4 H' rfl (p4.trans p5) r5
theorem de_chain {op op' : CmpOp} {a b c : Expr} {f f' : D → D → Option D} {ga gb gc : Sm D} (h : ∃ r, (∀ i, OpR (F i) (compareOp op) r) ∧ OpD K r f) (h' : ∃ r, (∀ i, OpR (F i) (compareOp op') r) ∧ OpD K r f') (ha : DE I K W F a ga) (hb : DE I K W F b gb) (hc : DE I K W F c gc)
    (hm : lastMarks [op, op'] [b, c] = false := by with_unfolding_all rfl) : DE I K W F (.Compare a [op, op'] [b, c] pos) (sCh f f' ga gb gc) := by
  obtain ⟨r, h1, h2⟩ := h
  obtain ⟨r', h3, h4⟩ := h'
  exact fun i => (pe_chain (h1 i) (h3 i) (ha i) (hb i) (hc i) hm).imp (tg_ch h2 h4)
theorem dt_chain {op op' : CmpOp} {a b c : Expr} {f f' : D → D → Option D} {ga gb gc : Sm D} (h : ∃ r, (∀ i, OpR (F i) (compareOp op) r) ∧ OpD K r f) (h' : ∃ r, (∀ i, OpR (F i) (compareOp op') r) ∧ OpD K r f') (ha : DE I K W F a ga) (hb : DE I K W F b gb) (hc : DE I K W F c gc)
    (hm : lastMarks [op, op'] [b, c] = false := by with_unfolding_all rfl) : DT I K W F (.Compare a [op, op'] [b, c] pos) (sB (sCh f f' ga gb gc)) := by
  obtain ⟨r, h1, h2⟩ := h
  obtain ⟨r', h3, h4⟩ := h'
  exact fun i => (pt_chain (h1 i) (h3 i) (ha i) (hb i) (hc i) hm).imp (tgb_of (tg_ch h2 h4))
theorem de_neg {i : Int} {j} {p : Pos} : DE I K W F (.UnaryOp .USub (.Constant (.int i) j p) pos) (sC (.d (.int (-i)))) :=
  fun _ => (pe_un un_neg pe_int).imp fun σ H Q ⟨env, s, ok, re, h⟩ => ⟨i, rfl, h _ s H rfl (Po.refl ok) (.int _)⟩
/-- less is known -/
def R.Le {α : Type} (a b : R α) : Prop := a = .no ∨ a = b
theorem R.Le.post {α : Type} {a b : R α} {P : α → Ts → Prop} {X : Exn → Ts → Prop} (h : R.Le a b) (p : a.Post P X) : b.Post P X := by
  rcases h with h | h
  · rw [h] at p; exact p.elim
  · rw [← h]; exact p
theorem de_le {e : Expr} {g g' : Sm D} (h : DE I K W F e g) (l : ∀ env t, R.Le (g' env t) (g env t)) : DE I K W F e g' := fun i => (h i).imp fun σ H Q ⟨env, s, ok, re, p⟩ => ⟨env, s, ok, re, (l env s.t).post p⟩
/-- as sOp, where the first value's kind is asked ahead of the second -/
def sOpT (ty : D → Bool) (f : D → D → Option D) (a b : Sm D) : Sm D := fun env t => (a env t).bind fun x t => if ty x = true then (b env t).bind fun y t => ofO (f x y) t else .no
theorem le_opT {ty : D → Bool} {f : D → D → Option D} {a b : Pm D} (ht : ∀ x y z, f x y = some z → ty x = true) (env : Env) (t : Ts) : R.Le (lift (pOp f a b) env t) (sOpT ty f (lift a) (lift b) env t) := by
  unfold lift pOp sOpT
  dsimp only
  cases a env with
  | none => exact .inl rfl
  | some x =>
    simp only [Option.bind_some, ofO, R.bind]
    cases b env with
    | none => exact .inl rfl
    | some y =>
      simp only [Option.bind_some]
      cases q : f x y with
      | none => exact .inl rfl
      | some z => rw [if_pos (ht x y z q)]; simp only [q]; exact .inr rfl

/-! ### places -/
def idxE (d : PyData) : List PyData → Nat → Option Nat
  | [], _ => none
  | z :: r, j => if PyData.eqv z d = true then some j else idxE d r (j + 1)
theorem idxE_some {d : PyData} : ∀ {ds : List PyData} {i j : Nat}, idxE d ds i = some j → i ≤ j ∧ ∃ z, ds[j - i]? = some z ∧ PyData.eqv z d = true ∧ ∀ m z', m < j - i → ds[m]? = some z' → PyData.eqv z' d = false
  | [], _, _, h => by cases h
  | z :: r, i, j, h => by
    unfold idxE at h
    by_cases c : PyData.eqv z d = true
    · rw [if_pos c] at h
      cases h
      refine ⟨Nat.le_refl _, z, by rw [Nat.sub_self]; rfl, c, fun m z' hm => ?_⟩
      rw [Nat.sub_self] at hm
      exact absurd hm (Nat.not_lt_zero _)
    · rw [if_neg c] at h
      obtain ⟨h1, z', h2, h3, h4⟩ := idxE_some h
      have e : j - i = (j - (i + 1)) + 1 := by omega
      refine ⟨by omega, z', by rw [e]; simpa using h2, h3, fun m y hm hy => ?_⟩
      cases m with
      | zero =>
        simp at hy
        subst hy
        cases q : PyData.eqv z d with
        | false => rfl
        | true => exact absurd q c
      | succ m => exact h4 m y (by omega) (by simpa using hy)
def fLIdx : D → D → Option D
  | .d (.list ds), .d d => if SeqAt.shaped (.list ds) = true ∧ SeqAt.shaped d = true then (idxE d ds 0).map fun j => .d (.int (j : Nat)) else none
  | _, _ => none
def isLs : D → Bool
  | .d (.list _) => true
  | _ => false
/-- xs.index(e), xs a list -/
theorem de_lidxT {o e : Expr} {apos cpos : Pos} {go ge : Sm D} (Wf : FmC cb P w K mg base k N F) (ho : DE I K W F o go) (he : DE I K W F e ge)
    (hbase : ∀ i, attributeBase o "index" (F i).env (eval o (F i).env) = eval o (F i).env := by exact fun _ => rfl)
    (hfew : ∀ i, ((backTo cpos (starEach [e] (F i).env)).all (fun x => !x.1) && (backToKw cpos (keywordEach [] (F i).env)).all (fun x => x.1.isSome)
      && decide (([e] : List Expr).length + ([] : List Keyword).length + (if ([] : List Keyword).isEmpty then 0 else 1) < 30)) = true := by exact fun _ => rfl)
    (hline : (apos.endLine == cpos.line) = true := by rfl) (hs : ∀ i, starEach [e] (F i).env = (false, eval e (F i).env) :: starEach [] (F i).env := by exact fun _ => rfl) (hpl : ∀ i, (backTo cpos (starEach [] (F i).env)).any (·.1) = false := by exact fun _ => rfl) :
    DE I K W F (.Call (.Attribute o "index" apos) [e] [] cpos) (sOpT isLs fLIdx go ge) := fun i => by
  have h := pe_bm (r := rIndexD (F i).K) PySem.F.plainAttrs_list PySem.F.slot_list_index PySem.F.type_list_index (mt_indexD (by have := Wf.units i; omega)) (ho i) (pa_cons (he i) pa_nil (hs i)) (hbase i) (hfew i) hline (hs i) (hpl i)
  rw [Wf.K i] at h
  refine h.imp fun σ H Q ⟨env, s, ok, re, h⟩ => step (Po.refl ok) re h fun x v1 s1 H1 p1 _ r1 h => ?_
  by_cases c : isLs x = true
  · rw [if_pos c] at h
    unfold isLs at c
    split at c
    · rename_i ds
      cases r1 with
      | lst h1 h2 =>
        refine ⟨.inl ⟨rfl, _, SqL.of (hr_sub _ _ h1)⟩, step p1 re h fun y v2 s2 H2 p2 q2 r2 h => ?_⟩
        obtain ⟨z, e3, h⟩ := post_ofO h
        cases y with
        | d d0 =>
          have e3 : (if SeqAt.shaped (.list ds) = true ∧ SeqAt.shaped d0 = true then (idxE d0 ds 0).map fun j => D.d (.int (j : Nat)) else none) = some z := e3
          by_cases c : SeqAt.shaped (.list ds) = true ∧ SeqAt.shaped d0 = true
          · rw [if_pos c] at e3
            cases q : idxE d0 ds 0 with
            | none => rw [q] at e3; cases e3
            | some j =>
              rw [q] at e3
              cases e3
              obtain ⟨_, z, i1, i2, i3⟩ := idxE_some q
              rw [Nat.sub_zero] at i1 i3
              have l2 : Dp K H2 _ (.list ds) := dq_dp (dp_same hr_sub (dp_same q2.same.h (.lst h1 h2)))
              exact ⟨_, _, d0, ds, j, z, rfl, rfl, l2, dq_dp (dp_same hr_sub r2), c.1, c.2, i1, i2, i3, h _ s2 H2 rfl p2 (.int _)⟩
          · rw [if_neg c] at e3; cases e3
        | _ => cases e3
    · cases c
  · rw [if_neg c] at h; exact h.elim
theorem fLIdx_ty : ∀ x y z, fLIdx x y = some z → isLs x = true := fun x y z h => by
  unfold fLIdx at h
  split at h
  · rfl
  · cases h
/-- a tuple of texts that the module has written -/
structure Gt (K : PySem.W.Frag) (mg : Str → Option Value) (x : Str) (ys : List Str) : Prop where
  ex : ∃ (a : Addr) (o : Obj) (its : Array Value) (n : Nat), mg x = some (.ref a) ∧ K.lookup a = some o ∧ o.cls = .type "tuple" ∧ o.dict = none ∧ o.data = .seq its n ∧ its.size ≤ sizeLine ∧ Vals (ys.map V.str) its.toList
theorem dpa_strs (K : PySem.W.Frag) (H : Hp) : ∀ ys : List Str, DpAll K H (ys.map V.str) (ys.map PyData.str)
  | [] => .nil
  | y :: r => .cons (.str y) (dpa_strs K H r)
theorem Gt.sqt {x : Str} {ys : List Str} (G : Gt K mg x ys) : ∃ a, mg x = some (.ref a) ∧ ∀ H, SqT K H a (ys.map V.str) := by
  obtain ⟨a, o, its, n, h1, h2, h3, h4, h5, h6, h7⟩ := G.ex
  exact ⟨a, h1, fun H => .inr ⟨o, its, n, h2, h3, h5, h6, h7⟩⟩
theorem Gt.c {x : Str} {ys : List Str} (G : Gt K mg x ys) : Gc K mg x (.kt (.tuple (ys.map PyData.str))) := by
  obtain ⟨a, h1, h2⟩ := G.sqt
  exact ⟨_, .ref a, h1, rfl, fun H => .tup (h2 _) (dpa_strs K _ ys)⟩
def fGIdx (ys : List Str) : D → Option D
  | .d (.str z) => (ys.idxOf? z).map fun j => .d (.int (j : Nat))
  | _ => none
theorem idxOf_some {z : Str} : ∀ {ys : List Str} {j : Nat}, ys.idxOf? z = some j → ys[j]? = some z ∧ ∀ m, m < j → ys[m]? ≠ some z
  | [], j, h => by simp at h
  | y :: r, j, h => by
    rw [List.idxOf?_cons] at h
    by_cases c : (y == z) = true
    · rw [if_pos c] at h
      cases h
      have e : y = z := by simpa using c
      subst e
      exact ⟨rfl, fun m hm => absurd hm (Nat.not_lt_zero _)⟩
    · rw [if_neg c] at h
      cases q : r.idxOf? z with
      | none => rw [q] at h; cases h
      | some i =>
        rw [q] at h
        have h : some (i + 1) = some j := h
        cases h
        obtain ⟨h1, h2⟩ := idxOf_some q
        refine ⟨by simpa using h1, fun m hm hy => ?_⟩
        cases m with
        | zero =>
          simp at hy
          subst hy
          simp at c
        | succ m => exact h2 m (by omega) (by simpa using hy)
theorem de_gidx {x : Str} {e : Expr} {p apos cpos : Pos} {ys : List Str} {g : Sm D} (Wf : FmC cb P w K mg base k N F) (G : Gt K mg x ys) (h : DE I K W F e g) (hg : ∀ j, Gl (F j) x := by exact fun _ => rfl) (hd : (x == ("__debug__" : Str)) = false := by decide)
    (hbase : ∀ i, attributeBase (.Name x p) "index" (F i).env (eval (.Name x p) (F i).env) = eval (.Name x p) (F i).env := by exact fun _ => rfl)
    (hfew : ∀ i, ((backTo cpos (starEach [e] (F i).env)).all (fun x => !x.1) && (backToKw cpos (keywordEach [] (F i).env)).all (fun x => x.1.isSome)
      && decide (([e] : List Expr).length + ([] : List Keyword).length + (if ([] : List Keyword).isEmpty then 0 else 1) < 30)) = true := by exact fun _ => rfl)
    (hline : (apos.endLine == cpos.line) = true := by rfl) (hs : ∀ i, starEach [e] (F i).env = (false, eval e (F i).env) :: starEach [] (F i).env := by exact fun _ => rfl) (hpl : ∀ i, (backTo cpos (starEach [] (F i).env)).any (·.1) = false := by exact fun _ => rfl) :
    DE I K W F (.Call (.Attribute (.Name x p) "index" apos) [e] [] cpos) (sAp (fGIdx ys) g) := fun i => by
  obtain ⟨a, o, its, n, h1, h2, h3, h4, h5, h6, h7⟩ := G.ex
  have hh := pe_bm PySem.F.plainAttrs_tuple PySem.F.slot_tuple_index PySem.F.type_tuple_index mt_tup_index (pe_glob (X := F i) (v := .ref a) (hg i) (by rw [Wf.mg i]; exact h1) rfl hd) (pa_cons (h i) pa_nil (hs i)) (hbase i) (hfew i) hline (hs i) (hpl i)
  rw [Wf.K i] at hh
  refine hh.imp fun σ H Q ⟨env, s, ok, re, h⟩ => ⟨.inr (.inl ⟨rfl, o, h2, h3, h4⟩), step (Po.refl ok) re h fun x v1 s1 H1 p1 _ r1 h => ?_⟩
  obtain ⟨z, e3, h⟩ := post_ofO h
  unfold fGIdx at e3
  split at e3
  · rename_i z
    cases q : ys.idxOf? z with
    | none => rw [q] at e3; cases e3
    | some j =>
      rw [q] at e3
      cases e3
      cases r1
      obtain ⟨i1, i2⟩ := idxOf_some q
      exact ⟨a, ys, z, j, rfl, rfl, .inr ⟨o, its, n, h2, h3, h5, h6, h7⟩, i1, i2, h _ s1 H1 rfl p1 (.int _)⟩
  · cases e3
end
end Dl
set_option maxRecDepth 100000
set_option maxHeartbeats 4000000
namespace Dl
open PySem L2

/-! ### one more object that is changed on the way: a list or a dict at L -/
abbrev St1.zz (s : St1) (Z : Hp) : St1 := { s with Z := Z }
/-- a list or a dict -/
def Ld (o : HO) : Prop := (∃ xs, o = .lst xs) ∨ (∃ k, o = .dK k) ∨ (∃ k, o = .dT k)
theorem Ld.nt {o : HO} (h : Ld o) : NT o := by
  refine ⟨fun xs e => ?_, fun φ e => ?_⟩
  · rcases h with ⟨_, h⟩ | ⟨_, h⟩ | ⟨_, h⟩ <;> rw [h] at e <;> cases e
  · rcases h with ⟨_, h⟩ | ⟨_, h⟩ | ⟨_, h⟩ <;> rw [h] at e <;> cases e
theorem Ld.tbl {o : HO} (h : Ld o) (ps : Array Value) : o ≠ .tbl ps := fun e => by
  rcases h with ⟨_, h⟩ | ⟨_, h⟩ | ⟨_, h⟩ <;> rw [h] at e <;> cases e
theorem Ld.code {o : HO} (h : Ld o) (c : Addr) (q : Str) : o ≠ LamX.CodeO c q := fun e => by
  unfold LamX.CodeO at e
  rcases h with ⟨_, h⟩ | ⟨_, h⟩ | ⟨_, h⟩ <;> rw [h] at e <;> cases e
section
variable {I : SI} {K : PySem.W.Frag} {Z : Hp} {s s1 s2 : St1} {H H1 : Hp} {L : Addr} {o o' : HO}
theorem m_zz {a : Addr} : I.M (s.zz (upd Z L o)) a → a = L ∨ I.M (s.zz Z) a := fun m => by
  rcases m with m | ⟨u, m⟩ | m
  · exact .inr (.inl m)
  · by_cases c : a = L
    · exact .inl c
    · rw [show (s.zz (upd Z L o)).Z a = upd Z L o a from rfl, upd_ne c] at m
      exact .inr (.inr (.inl ⟨u, m⟩))
  · exact .inr (.inr (.inr m))
theorem m_up {a : Addr} : I.M (s.zz Z) a → I.M (s.zz (upd Z L o)) a := fun m => by
  rcases m with m | ⟨u, m⟩ | m
  · exact .inl m
  · by_cases c : a = L
    · exact .inr (.inl ⟨o, by rw [c]; exact upd_same⟩)
    · exact .inr (.inl ⟨u, by show upd Z L o a = _; rw [upd_ne c]; exact m⟩)
  · exact .inr (.inr m)
theorem m_at : I.M (s.zz (upd Z L o)) L := .inr (.inl ⟨o, upd_same⟩)
theorem hr_put (hL : H L = none) : VLe (Hr I (s.zz Z) H) (Hr I (s.zz (upd Z L o)) (upd H L o)) := vle_of (fun a u q => by
  obtain ⟨q1, q2⟩ := hr_of q
  have c : a ≠ L := fun e => by subst e; rw [hL] at q1; cases q1
  exact hr_in (by rw [upd_ne c]; exact q1) fun m => (m_zz m).elim c q2) fun _ _ _ e => e
theorem hr_set : VLe (Hr I (s.zz (upd Z L o)) H) (Hr I (s.zz (upd Z L o')) (upd H L o')) := vle_of (fun a u q => by
  obtain ⟨q1, q2⟩ := hr_of q
  have c : a ≠ L := fun e => q2 (by rw [e]; exact m_at)
  exact hr_in (by rw [upd_ne c]; exact q1) fun m => q2 (m_up ((m_zz m).elim (fun z => absurd z c) id))) fun _ _ _ e => e
theorem hr_get : VLe (Hr I (s.zz (upd Z L o)) H) (Hr I (s.zz Z) H) := vle_of (fun a u q => by
  obtain ⟨q1, q2⟩ := hr_of q
  exact hr_in q1 fun m => q2 (m_up m)) fun _ _ _ e => e
theorem pr_put (h : I.ok K (s.zz Z) H) (hL : H L = none) (no : Ld o) : I.ok K (s.zz (upd Z L o)) (upd H L o) := by
  have zL : Z L = none := by
    cases q : Z L with
    | none => rfl
    | some u => rw [(h.z L u q).1] at hL; cases hL
  refine ⟨fun n p k ts e => ?_, h.inj, h.dom, fun a u q => ?_, h.tab.ext (same_new hL), h.fl⟩
  · obtain ⟨a, dx, vs, w1, z1, zx1, c1, hd1⟩ := h.nod n p k ts e
    obtain ⟨oa, ha, _⟩ := holds_at hd1
    have n1 : a ≠ L := fun z => by rw [z, hL] at ha; cases ha
    have n2 : k.isIns = true → dx ≠ L := fun hi z => by have := holds_dx hd1 hi; rw [z, hL] at this; cases this
    exact ⟨a, dx, vs, w1, by show upd Z L o a = _; rw [upd_ne n1]; exact z1, fun hi => by show upd Z L o dx = _; rw [upd_ne (n2 hi)]; exact zx1 hi, chs_same (hr_put hL) c1,
      holds_same (fun u z => by rw [upd_ne n1]; exact z) (fun hi u z => by rw [upd_ne (n2 hi)]; exact z) hd1⟩
  · have q : upd Z L o a = some u := q
    by_cases c : a = L
    · subst c
      rw [upd_same] at q ⊢
      cases q
      exact ⟨rfl, no.nt, no.tbl⟩
    · rw [upd_ne c] at q ⊢
      exact h.z a u q
theorem pr_set (h : I.ok K (s.zz (upd Z L o)) H) (lo : Ld o) (no : Ld o') : I.ok K (s.zz (upd Z L o')) (upd H L o') := by
  have hL : H L = some o := (h.z L o upd_same).1
  refine ⟨fun n p k ts e => ?_, h.inj, h.dom, fun a u q => ?_, fun q hq => ?_, h.fl⟩
  · obtain ⟨a, dx, vs, w1, z1, zx1, c1, hd1⟩ := h.nod n p k ts e
    have z1 : upd Z L o a = none := z1
    have n1 : a ≠ L := fun z => by rw [z, upd_same] at z1; cases z1
    have n2 : k.isIns = true → dx ≠ L := fun hi z => by have y : upd Z L o dx = none := zx1 hi; rw [z, upd_same] at y; cases y
    rw [upd_ne n1] at z1
    refine ⟨a, dx, vs, w1, by show upd Z L o' a = _; rw [upd_ne n1]; exact z1, fun hi => ?_, chs_same hr_set c1,
      holds_same (fun u z => by rw [upd_ne n1]; exact z) (fun hi u z => by rw [upd_ne (n2 hi)]; exact z) hd1⟩
    have y : upd Z L o dx = none := zx1 hi
    show upd Z L o' dx = _
    rw [upd_ne (n2 hi)] at y ⊢
    exact y
  · have q : upd Z L o' a = some u := q
    by_cases c : a = L
    · subst c
      rw [upd_same] at q ⊢
      cases q
      exact ⟨rfl, no.nt, no.tbl⟩
    · rw [upd_ne c] at q ⊢
      exact h.z a u (by show upd Z L o a = _; rw [upd_ne c]; exact q)
  · obtain ⟨ps, t1, t2, t3⟩ := h.tab q hq
    refine ⟨ps, by rw [upd_ne (fun z => by rw [z, hL] at t1; exact lo.tbl _ (Option.some.inj t1))]; exact t1, t2, fun p' cv hcv => ?_⟩
    obtain ⟨c1, y1, y2⟩ := t3 p' cv hcv
    exact ⟨c1, y1, by rw [upd_ne (fun z => by rw [z, hL] at y2; exact lo.code _ _ (Option.some.inj y2))]; exact y2⟩
theorem pr_get (h : I.ok K (s.zz (upd Z L o)) H) (zL : Z L = none) : I.ok K (s.zz Z) H := by
  have f : ∀ {a : Addr}, upd Z L o a = none → Z a = none := fun {a} e => by
    by_cases c : a = L
    · rw [c, upd_same] at e; cases e
    · rw [upd_ne c] at e; exact e
  refine ⟨fun n p k ts e => ?_, h.inj, h.dom, fun a u q => h.z a u (by show upd Z L o a = _; rw [upd_ne (fun e => by rw [e, show (s.zz Z).Z L = Z L from rfl, zL] at q; cases q)]; exact q), h.tab, h.fl⟩
  obtain ⟨a, dx, vs, w1, z1, zx1, c1, hd1⟩ := h.nod n p k ts e
  exact ⟨a, dx, vs, w1, f z1, fun hi => f (zx1 hi), chs_same hr_get c1, hd1⟩
/-- where the list stands while it grows: from (s1, H1), in which it was not, to (s, H) -/
structure Gro (I : SI) (K : PySem.W.Frag) (L : Addr) (s1 : St1) (H1 : Hp) (o : HO) (s : St1) (H : Hp) : Prop where
  ld : Ld o
  ze : s.Z = upd s1.Z L o
  ok : I.ok K s H
  po : Po I K s1 H1 (s.zz s1.Z) H
  sm : VLe (Hr I s1 H1) (Hr I s H)
theorem Gro.start (h : I.ok K s1 H1) (hL : H1 L = none) (no : Ld o) : Gro I K L s1 H1 o (s1.zz (upd s1.Z L o)) (upd H1 L o) :=
  ⟨no, rfl, pr_put (Z := s1.Z) h hL no, Po.up h (same_new hL), hr_put (Z := s1.Z) hL⟩
theorem Gro.step (g : Gro I K L s1 H1 o s H) {H2 : Hp} (p : Po I K s H s2 H2) (hL : H1 L = none) (zL : s1.Z L = none) : Gro I K L s1 H1 o s2 H2 := by
  obtain ⟨t, w, Z⟩ := s
  obtain ⟨t2, w2, Z2⟩ := s2
  obtain ⟨ld, ze, ok, po, sm⟩ := g
  have ze : Z = upd s1.Z L o := ze
  subst ze
  have ze2 : Z2 = upd s1.Z L o := p.ze
  subst ze2
  have mb : ∀ a, I.M (St1.zz ⟨t2, w2, upd s1.Z L o⟩ s1.Z) a → I.M s1 a ∨ H1 a = none := fun a m => by
    rcases p.gro a (m_up (L := L) (o := o) m) with q | q
    · rcases m_zz (s := ⟨t, w, s1.Z⟩) q with q | q
      · exact .inr (by rw [q]; exact hL)
      · exact po.gro a q
    · by_cases z : I.M s1 a
      · exact .inl z
      · refine .inr ?_
        cases r : H1 a with
        | none => rfl
        | some u => rw [po.keep a u z r] at q; cases q
  refine ⟨ld, rfl, p.ok, ⟨fun a u m e => ?_, pr_get (s := ⟨t2, w2, s1.Z⟩) (L := L) (o := o) p.ok zL, mb, fun a u q => let ⟨o1, e1⟩ := po.live a u q; p.live a o1 e1, fun n q x e => p.wle n q x (po.wle n q x e), rfl⟩, sm.trans p.same⟩
  have e3 := po.keep a u m e
  have c : a ≠ L := fun z => by subst z; rw [hL] at e; cases e
  refine p.keep a u (fun z => ?_) e3
  rcases m_zz (s := ⟨t, w, s1.Z⟩) z with z | z
  · exact c z
  · exact (po.gro a z).elim m fun n => by rw [n] at e; cases e
theorem Gro.put (g : Gro I K L s1 H1 o s H) (hL : H1 L = none) (zL : s1.Z L = none) (no : Ld o') : Gro I K L s1 H1 o' (s.zz (upd s1.Z L o')) (upd H L o') := by
  obtain ⟨t, w, Z⟩ := s
  obtain ⟨ld, ze, ok, po, sm⟩ := g
  have ze : Z = upd s1.Z L o := ze
  subst ze
  refine ⟨no, rfl, pr_set (s := ⟨t, w, s1.Z⟩) ok ld no, ⟨fun a u m e => ?_, pr_get (s := ⟨t, w, s1.Z⟩) (pr_set (s := ⟨t, w, s1.Z⟩) (o' := o') ok ld no) zL, fun a m => po.gro a m, fun a u q => ?_, po.wle, rfl⟩, sm.trans (hr_set (s := ⟨t, w, s1.Z⟩))⟩
  · rw [upd_ne (fun z => by subst z; rw [hL] at e; cases e)]
    exact po.keep a u m e
  · by_cases c : a = L
    · subst c; exact ⟨o', upd_same⟩
    · rw [upd_ne c]
      exact po.live a u q
theorem Gro.psm (g : Gro I K L s1 H1 o s H) : VLe (Hr I s H) (Hr I (s.zz (upd s1.Z L o')) (upd H L o')) := by
  obtain ⟨t, w, Z⟩ := s
  obtain ⟨ld, ze, ok, po, sm⟩ := g
  have ze : Z = upd s1.Z L o := ze
  subst ze
  exact hr_set (s := ⟨t, w, s1.Z⟩)
theorem Gro.gsm (g : Gro I K L s1 H1 o s H) : VLe (Hr I s H) (Hr I (s.zz s1.Z) H) := by
  obtain ⟨t, w, Z⟩ := s
  obtain ⟨ld, ze, ok, po, sm⟩ := g
  have ze : Z = upd s1.Z L o := ze
  subst ze
  exact hr_get (s := ⟨t, w, s1.Z⟩)
theorem Gro.at_ (g : Gro I K L s1 H1 o s H) : H L = some o := (g.ok.z L o (by rw [g.ze]; exact upd_same)).1
theorem Gro.hr (g : Gro I K L s1 H1 o s H) (zL : s1.Z L = none) : (Hr I (s.zz s1.Z) H).h L = some o := hr_in g.at_ fun m => by
  have hz : s.Z L = some o := by rw [g.ze]; exact upd_same
  rcases m with ⟨n, p, k, ts, a, dx, e1, e2, e3⟩ | ⟨w, m⟩ | ⟨q, hq, e⟩
  · obtain ⟨a', dx', vs, w1, z1, zx1, c1, hd1⟩ := g.ok.nod n p k ts e1
    rw [show s.w n p = _ from e2] at w1
    cases w1
    rcases e3 with e3 | ⟨hi, e3⟩
    · rw [← e3, hz] at z1; cases z1
    · have z1 := zx1 hi
      rw [← e3, hz] at z1; cases z1
  · have m : s1.Z L = some w := m
    rw [zL] at m; cases m
  · obtain ⟨ps, t1, _⟩ := g.ok.tab q hq
    rw [e, g.at_] at t1
    exact g.ld.tbl _ (Option.some.inj t1)
theorem ok_zL (h : I.ok K s H) (hL : H L = none) : s.Z L = none := by
  cases q : s.Z L with
  | none => rfl
  | some u => rw [(h.z L u q).1] at hL; cases hL
end

/-! ### defs: what is promised -/
/-- of a def that changes nothing -/
def spP (K : PySem.W.Frag) (n : Nat) (m : List D → Option D) : Sp := fun vs H Q _ => vs.length = n ∧ ∃ (I : SI) (s : St1) (ds : List D) (d : D), I.ok K s H ∧ RpL K (Hr I s H) ds vs ∧ m ds = some d ∧ ∀ v s' H', s'.t = s.t → Po I K s H s' H' → Rp K (Hr I s' H') d v → Q v H'
/-- of a def that works on the trees, and may raise -/
def spS (K : PySem.W.Frag) (mg : Str → Option Value) (n : Nat) (m : List D → Ts → R D) : Sp := fun vs H Q E => vs.length = n ∧ ∃ (I : SI) (s : St1) (ds : List D), I.mg = mg ∧ I.ok K s H ∧ RpL K (Hr I s H) ds vs ∧
  (m ds s.t).Post (fun d t => ∀ v s' H', s'.t = t → Po I K s H s' H' → Rp K (Hr I s' H') d v → Q v H') (fun x t => ∀ cls dd s' H', s'.t = t → Po I K s H s' H' → ExAt K I.mg (Hr I s' H') x cls dd → E cls dd H')
structure Gf (P : Program) (w : World) (K : PySem.W.Frag) (mg : Str → Option Value) (base : Heap) (x : Str) (k n : Nat) (m : List D → Option D) : Prop where
  ex : ∃ (f : Addr) (fd : FuncData) (ps : List Str), ps.length = n ∧ mg x = some (.ref f) ∧ PySem.W.keepIn K (.ref f) = true ∧ Binds K fd ps [] ∧ FnOk P w K mg base CX0 k f fd ps (spP K n m)
  ln : ∀ ds d, m ds = some d → ds.length = n
structure Gs (P : Program) (w : World) (K : PySem.W.Frag) (mg : Str → Option Value) (base : Heap) (x : Str) (k n : Nat) (m : List D → Ts → R D) : Prop where
  ex : ∃ (f : Addr) (fd : FuncData) (ps : List Str), ps.length = n ∧ mg x = some (.ref f) ∧ PySem.W.keepIn K (.ref f) = true ∧ Binds K fd ps [] ∧ FnOk P w K mg base (L2.CX P w) k f fd ps (spS K mg n m)
  ln : ∀ ds t, ds.length ≠ n → m ds t = .no
theorem Gs.len {P : Program} {w : World} {K : PySem.W.Frag} {mg : Str → Option Value} {base : Heap} {x : Str} {k n : Nat} {m : List D → Ts → R D} (G : Gs P w K mg base x k n m) {ds : List D} {t : Ts} {A : D → Ts → Prop} {B : Exn → Ts → Prop} (h : (m ds t).Post A B) : ds.length = n := by
  by_cases c : ds.length = n
  · exact c
  · rw [G.ln ds t c] at h; exact h.elim
section
variable {cb : Bool} {ι : Type} {P : Program} {w : World} {K : PySem.W.Frag} {mg : Str → Option Value} {base : Heap} {k : Nat} {N : List Str} {F : ι → Cx} {I : SI} {W : WX} {pos : Pos}
theorem de_call {x : Str} {e : Expr} {es : List Expr} {p : Pos} {j n : Nat} {m : List D → Option D} {g : Sm (List D)} (Wf : FmC true P w K mg base k N F) (G : Gf P w K mg base x j n m) (hj : j ≤ k) (ha : DA I K W F (e :: es) g)
    (hg : ∀ i, Gl (F i) x := by exact fun _ => rfl) (hdb : (x == ("__debug__" : Str)) = false := by decide)
    (he : ∀ i, starEach (e :: es) (F i).env = (false, eval e (F i).env) :: starEach es (F i).env := by exact fun _ => rfl) (hpl : ∀ i, (backTo pos (starEach es (F i).env)).any (·.1) = false := by exact fun _ => rfl) :
    DE I K W F (.Call (.Name x p) (e :: es) [] pos) (sMk m g) := fun i => by
  obtain ⟨f, fd, ps, h0, h1, h2, h3, h4⟩ := G.ex
  have h4' : FnOk (F i).prog (F i).w (F i).K (F i).mg (F i).base CX0 j f fd ps (spP K n m) := by rw [Wf.prog i, Wf.w i, Wf.K i, Wf.mg i, Wf.base i]; exact h4
  refine (pe_call h4' ((Wf.room i).mono hj) (hg i) (by rw [Wf.mg i]; exact h1) (by rw [Wf.K i]; exact h2) (by rw [Wf.K i]; exact h3) .nil pass0 (ha i) hdb (he i) (hpl i)).imp fun σ H Q ⟨env, s, ok, re, h⟩ =>
    stepL (Po.refl ok) re h fun xs vs s1 H1 p1 _ r1 h => ?_
  obtain ⟨z, e, h⟩ := post_ofO h
  rw [List.append_nil]
  exact ⟨by rw [rpl_len r1]; exact G.ln _ _ e, I, s1, xs, z, p1.ok, r1, e, fun v s' H' e2 p2 r2 => h v s' H' e2 (p1.trans p2) r2⟩
def sCall (m : List D → Ts → R D) (a : Sm (List D)) : Sm D := fun env t => (a env t).bind m
theorem de_callS {x : Str} {e : Expr} {es : List Expr} {p : Pos} {j n : Nat} {m : List D → Ts → R D} {g : Sm (List D)} (Wf : FmC true P w K mg base k N F) (tk : ∀ i, Takes (F i) W) (im : I.mg = mg) (G : Gs P w K mg base x j n m) (hj : j ≤ k) (ha : DA I K W F (e :: es) g)
    (hg : ∀ i, Gl (F i) x := by exact fun _ => rfl) (hdb : (x == ("__debug__" : Str)) = false := by decide)
    (he : ∀ i, starEach (e :: es) (F i).env = (false, eval e (F i).env) :: starEach es (F i).env := by exact fun _ => rfl) (hpl : ∀ i, (backTo pos (starEach es (F i).env)).any (·.1) = false := by exact fun _ => rfl) :
    DE I K W F (.Call (.Name x p) (e :: es) [] pos) (sCall m g) := fun i => by
  obtain ⟨f, fd, ps, h0, h1, h2, h3, h4⟩ := G.ex
  have h4' : FnOk (F i).prog (F i).w (F i).K (F i).mg (F i).base (L2.CX (F i).prog (F i).w) j f fd ps (spS K mg n m) := by rw [Wf.prog i, Wf.w i, Wf.K i, Wf.mg i, Wf.base i]; exact h4
  refine (pe_callS h4' ((Wf.room i).mono hj) (hg i) (by rw [Wf.mg i]; exact h1) (by rw [Wf.K i]; exact h2) (by rw [Wf.K i]; exact h3) (fun σ => passAt (tk i) σ) (ha i) hdb (he i) (hpl i)).imp fun σ H Q ⟨env, s, ok, re, h⟩ =>
    stepL (Po.refl ok) re h fun xs vs s1 H1 p1 _ r1 h => ?_
  exact ⟨by rw [rpl_len r1]; exact G.len h, I, s1, xs, im, p1.ok, r1, h.mono (fun d t q v s' H' e2 p2 r2 => q v s' H' e2 (p1.trans p2) r2) fun x t q cls dd s' H' e2 p2 a => q cls dd s' H' e2 (p1.trans p2) a⟩
end

/-! ### defs proved by their bodies -/
theorem room_un {k : Nat} {A : Around} (h : Room k A) : A.units + 200 < cLine := by
  have := h.un
  omega
structure Df (K : PySem.W.Frag) (mg : Str → Option Value) (x qual : Str) (st : Stmt) (ps : List Str) : Prop where
  ex : ∃ (f : Addr) (fd : FuncData), mg x = some (.ref f) ∧ Fun K x qual st f fd ∧ Binds K fd ps []
def startE (L n : Nat) (ds : List D) : Env := ds.map some ++ List.replicate (L - n) none
def retO : Option Out → Option D
  | some (.rt d) => some d
  | some (.nx _) => some (.d .none)
  | _ => none
def mOf (L n : Nat) (gs : Pm Out) : List D → Option D := fun ds => if ds.length = n then retO (gs (startE L n ds)) else none
/-- at a def's end: the trees that it has laid and does not hand back are forgotten -/
def retR (n0 : Nat) : R Out → R D
  | .ok (.rt d) t => .ok d (t.take (max n0 (top d)))
  | .ok (.nx _) t => .ok (.d .none) (t.take n0)
  | .ex x t => .ex x (t.take n0)
  | _ => .no
def mOfS (L n : Nat) (gs : Sm Out) : List D → Ts → R D := fun ds t => if ds.length = n then retR t.length (gs (startE L n ds) t) else .no
theorem re_start {K : PySem.W.Frag} {H : Vw} {N : List Str} {ds : List D} {vs : List V} {n : Nat} (h : RpL K H ds vs) (hn : ds.length = n) : RE K H (startE N.length n ds) (L2.start N vs) := by
  have hl := rpl_len h
  unfold startE L2.start
  refine ⟨by simp [hl, hn], fun i d e => ?_⟩
  by_cases c : i < ds.length
  · rw [List.getElem?_append_left (by simpa using c), List.getElem?_map] at e
    cases q : ds[i]? with
    | none => rw [q] at e; cases e
    | some d' =>
      rw [q] at e
      cases e
      obtain ⟨v, h1, h2⟩ := rpl_get h q
      refine ⟨v, ?_, h2⟩
      rw [List.getElem?_append_left (by rw [List.length_map]; rw [hl]; exact c), List.getElem?_map, h1]
      rfl
  · rw [List.getElem?_append_right (by simpa using c)] at e
    rw [List.getElem?_replicate] at e
    split at e <;> cases e
section
variable {P : Program} {w : World} {K : PySem.W.Frag} {mg : Str → Option Value} {base : Heap}
abbrev bodyX (P : Program) (w : World) (K : PySem.W.Frag) (mg : Str → Option Value) (base : Heap) (N : List Str) (qual : Str) (st : Stmt) (f : Addr) (cdv : Value) (A : Around) (outer : List PySem.Env) (s : Shared) (H : Hp) (E : XK) : Unit → Cx := fun _ => (cxOf CX0 P w K mg base N qual (defScope st) f cdv A outer s H E).nox
abbrev bodyR (P : Program) (w : World) (K : PySem.W.Frag) (mg : Str → Option Value) (base : Heap) (N : List Str) (qual : Str) (st : Stmt) (f : Addr) (cdv : Value) (A : Around) (outer : List PySem.Env) (s : Shared) (H : Hp) (E : XK) : Unit → Cx := fun _ => cxOf (L2.CX P w) P w K mg base N qual (defScope st) f cdv A outer s H E
/-- a def that changes nothing -/
theorem gf_of {x qual : Str} {st : Stmt} {N ps : List Str} {k n : Nat} {gs : Pm Out} (T : Df K mg x qual st ps) (S : FnScope N ps (defScope st)) (hn : ps.length = n)
    (hb : ∀ (f : Addr) (cdv : Value) (A : Around) (outer : List PySem.Env) (s : Shared) (H : Hp) (E : XK), Fm P w K mg base k N (bodyX P w K mg base N qual st f cdv A outer s H E) → ∀ I : SI, DSs I K WF (bodyX P w K mg base N qual st f cdv A outer s H E) (defBody st) (lift gs)) :
    Gf P w K mg base x (k + 1) n (mOf N.length n gs) := by
  obtain ⟨f, fd, h1, F, hbi⟩ := T.ex
  refine ⟨⟨f, fd, ps, hn, h1, F.kp, hbi, ?_⟩, fun ds d h => ?_⟩
  · refine F.ok S (fun vs H Q E h => h.1.trans hn.symm) (fun cdv A outer s H vs Q E hr h => ?_)
    obtain ⟨hl, I, s0, ds, d, ok, r, e, kk⟩ := h
    refine ⟨_, hb f cdv A outer s H E ⟨fun _ => rfl, fun _ => rfl, fun _ => rfl, fun _ => rfl, fun _ => rfl, fun _ _ => rfl, fun _ _ => hr, fun _ => room_un hr, S.nd, fun _ => rfl⟩ I (), ?_⟩
    have hd : ds.length = n := (rpl_len r).symm.trans hl
    unfold mOf at e
    rw [if_pos hd] at e
    refine ⟨startE N.length n ds, s0, ok, re_start r hd, ?_⟩
    unfold lift
    cases q : gs (startE N.length n ds) with
    | none => rw [q] at e; cases e
    | some o =>
      rw [q] at e
      cases o with
      | rt d' => cases e; exact fun v s' H' e p rr => kk v s' H' e p rr
      | nx en => cases e; exact fun σ' s' H' e p _ => kk .non s' H' e p .non
      | bk en => cases e
      | ct en => cases e
  · unfold mOf at h
    by_cases c : ds.length = n
    · exact c
    · rw [if_neg c] at h; cases h
/-- a def that works on the trees -/
theorem gs_of {x qual : Str} {st : Stmt} {N ps : List Str} {k n : Nat} {gs : Sm Out} (T : Df K mg x qual st ps) (S : FnScope N ps (defScope st)) (hn : ps.length = n)
    (hb : ∀ (f : Addr) (cdv : Value) (A : Around) (outer : List PySem.Env) (s : Shared) (H : Hp) (E : XK), Fm P w K mg base k N (bodyR P w K mg base N qual st f cdv A outer s H E) → (∀ i, Takes (bodyR P w K mg base N qual st f cdv A outer s H E i) (fun cls d _ H => E cls d H)) →
      ∀ I : SI, I.mg = mg → DSs I K (fun cls d _ H => E cls d H) (bodyR P w K mg base N qual st f cdv A outer s H E) (defBody st) gs) :
    Gs P w K mg base x (k + 1) n (mOfS N.length n gs) := by
  obtain ⟨f, fd, h1, F, hbi⟩ := T.ex
  refine ⟨⟨f, fd, ps, hn, h1, F.kp, hbi, ?_⟩, fun ds t h => if_neg h⟩
  refine F.okX S (fun vs H Q E h => h.1.trans hn.symm) (fun cdv A outer s H vs Q E hr h => ?_)
  obtain ⟨hl, I, s0, ds, im, ok, r, e⟩ := h
  refine ⟨_, hb f cdv A outer s H E ⟨fun _ => rfl, fun _ => rfl, fun _ => rfl, fun _ => rfl, fun _ => rfl, fun _ _ => rfl, fun _ _ => hr, fun _ => room_un hr, S.nd, fun _ => rfl⟩ (fun _ => takes_of rfl rfl rfl rfl) I im (), ?_⟩
  have hd : ds.length = n := (rpl_len r).symm.trans hl
  unfold mOfS at e
  rw [if_pos hd] at e
  refine ⟨startE N.length n ds, s0, ok, re_start r hd, ?_⟩
  cases q : gs (startE N.length n ds) s0.t with
  | no => rw [q] at e; exact e.elim
  | ex x t =>
    rw [q] at e
    exact fun σ' cls dd s' H' e2 p a => e cls dd (cutS s' s0.t.length) H' (by rw [← e2]) (po_cut p ok (Nat.le_refl _)) (exat_cut a)
  | ok o t =>
    rw [q] at e
    cases o with
    | rt d' => exact fun v s' H' e2 p rr => e v (cutS s' (max s0.t.length (top d'))) H' (by rw [← e2]) (po_cut p ok (Nat.le_max_left _ _)) (rp_cut rr (Nat.le_max_right _ _))
    | nx en => exact fun σ' s' H' e2 p _ => e .non (cutS s' s0.t.length) H' (by rw [← e2]) (po_cut p ok (Nat.le_refl _)) .non
    | bk en => exact e.elim
    | ct en => exact e.elim
end
end Dl
set_option maxRecDepth 100000
set_option maxHeartbeats 4000000
namespace Dl
open PySem L2

/-! ### a target that stores the block's own names alone -/
def Str1 (t : TG) (vs : List Nat) : Prop := ∀ (v : V) (σ : L2.St) (H : Hp) (Q Q' : L2.St → Hp → Prop), (∀ σ2 H2, wipe σ2 vs = wipe σ vs → Q σ2 H2 → Q' σ2 H2) → t v σ H Q → t v σ H Q'
def Strs1 (t : TGs) (vs : List Nat) : Prop := ∀ (v : List V) (σ : L2.St) (H : Hp) (Q Q' : L2.St → Hp → Prop), (∀ σ2 H2, wipe σ2 vs = wipe σ vs → Q σ2 H2 → Q' σ2 H2) → t v σ H Q → t v σ H Q'
theorem wipe_set {σ : L2.St} {vs : List Nat} {j : Nat} {x : Option V} (hj : j ∈ vs) : wipe (σ.set j x) vs = wipe σ vs := by
  induction vs with
  | nil => cases hj
  | cons v r ih =>
    unfold wipe
    by_cases c : j = v
    · subst c
      by_cases hr : j ∈ r
      · rw [ih hr]
      · have e : ∀ (l : List Nat) (τ : L2.St), j ∉ l → wipe (τ.set j x) l = (wipe τ l).set j x := by
          intro l
          induction l with
          | nil => intro τ _; rfl
          | cons a l ih2 =>
            intro τ hn
            unfold wipe
            rw [ih2 τ (fun z => hn (List.mem_cons_of_mem _ z)), List.set_comm _ _ (fun z => hn (by rw [z]; exact List.mem_cons_self))]
        rw [e r σ hr, List.set_set]
    · rw [ih (by rcases List.mem_cons.mp hj with e | e; exact absurd e c; exact e)]
theorem wipe_wipe (σ : L2.St) (vs : List Nat) : wipe (wipe σ vs) vs = wipe σ vs := by
  have e : ∀ l : List Nat, (∀ j ∈ l, j ∈ vs) → wipe (wipe σ l) vs = wipe σ vs := by
    intro l
    induction l with
    | nil => intro _; rfl
    | cons a l ih =>
      intro h
      show wipe ((wipe σ l).set a none) vs = _
      rw [wipe_set (h a List.mem_cons_self)]
      exact ih fun j hj => h j (List.mem_cons_of_mem _ hj)
  exact e vs fun _ h => h
theorem re_wipe {K : PySem.W.Frag} {H : Vw} {env : Env} {σ : L2.St} (r : RE K H env σ) : ∀ vs : List Nat, RE K H (wipeE env vs) (wipe σ vs)
  | [] => r
  | v :: vs => (re_wipe r vs).unset v
/-- a target of names -/
def EvG (I : SI) (K : PySem.W.Frag) (t : TG) (g : D → Env → Option Env) : Prop := ∀ (env : Env) (s : St1) (σ : L2.St) (H : Hp) (d : D) (v : V) (env' : Env) (Q : L2.St → Hp → Prop), I.ok K s H → RE K (Hr I s H) env σ → Rp K (Hr I s H) d v → g d env = some env' →
  (∀ σ' , RE K (Hr I s H) env' σ' → Q σ' H) → t v σ H Q
def EvGs (I : SI) (K : PySem.W.Frag) (t : TGs) (g : List D → Env → Option Env) : Prop := ∀ (env : Env) (s : St1) (σ : L2.St) (H : Hp) (ds : List D) (vs : List V) (env' : Env) (Q : L2.St → Hp → Prop), I.ok K s H → RE K (Hr I s H) env σ → RpL K (Hr I s H) ds vs → g ds env = some env' →
  (∀ σ' , RE K (Hr I s H) env' σ' → Q σ' H) → t vs σ H Q
section
variable {ι : Type} {P : Program} {w : World} {K : PySem.W.Frag} {mg : Str → Option Value} {base : Heap} {k : Nat} {N : List Str} {F : ι → Cx} {I : SI} {W : WX} {pos : Pos}
def DGv (I : SI) (K : PySem.W.Frag) (F : ι → Cx) (vs : List Nat) (e : Expr) (g : D → Env → Option Env) : Prop := ∃ t, (∀ i, PG (F i) e t) ∧ EvG I K t g ∧ Str1 t vs
def DGsv (I : SI) (K : PySem.W.Frag) (F : ι → Cx) (vs : List Nat) (es : List Expr) (g : List D → Env → Option Env) : Prop := ∃ t, (∀ i, PGs (F i) es t) ∧ EvGs I K t g ∧ Strs1 t vs
def DG (I : SI) (K : PySem.W.Frag) (F : ι → Cx) (e : Expr) (g : D → Env → Option Env) : Prop := ∃ t, (∀ i, PG (F i) e t) ∧ EvG I K t g
def DGs (I : SI) (K : PySem.W.Frag) (F : ι → Cx) (es : List Expr) (g : List D → Env → Option Env) : Prop := ∃ t, (∀ i, PGs (F i) es t) ∧ EvGs I K t g
def gN (i : Nat) : D → Env → Option Env := fun d env => some (env.set i (some d))
theorem evg_name (i : Nat) : EvG I K (gName i) (gN i) := fun env s σ H d v env' Q ok re r e k => by
  cases e
  exact k _ (re.set r)
theorem dg_name (Wf : FmC cb P w K mg base k N F) (i : Nat) {x : Str} (hN : ∀ j, (F j).N[i]? = some x := by exact fun _ => rfl) (hx : ∀ j, Loc (F j).env.scope x := by first | exact fun _ => Or.inl rfl | exact fun _ => Or.inr rfl)
    (hf : ∀ j, (F j).fn x = true ∨ (F j).env.scope.names.lookup x = some .local := by first | exact fun _ => Or.inl rfl | exact fun _ => Or.inr rfl) : DG I K F (.Name x pos) (gN i) :=
  ⟨gName i, fun j => pg_name (by rw [Wf.N j]; exact Wf.nd) (hN j) (hx j) (hf j), evg_name i⟩
theorem dgv_name (Wf : FmC cb P w K mg base k N F) {vs : List Nat} (i : Nat) {x : Str} (hi : i ∈ vs) (hN : ∀ j, (F j).N[i]? = some x := by exact fun _ => rfl) (hx : ∀ j, Loc (F j).env.scope x := by first | exact fun _ => Or.inl rfl | exact fun _ => Or.inr rfl)
    (hf : ∀ j, (F j).fn x = true ∨ (F j).env.scope.names.lookup x = some .local := by first | exact fun _ => Or.inl rfl | exact fun _ => Or.inr rfl) : DGv I K F vs (.Name x pos) (gN i) :=
  ⟨gName i, fun j => pg_name (by rw [Wf.N j]; exact Wf.nd) (hN j) (hx j) (hf j), evg_name i, fun v σ H Q Q' m q => m _ _ (wipe_set hi) q⟩
def gE : List D → Env → Option Env := fun ds env => if ds.isEmpty = true then some env else none
theorem evgs_nil : EvGs I K gNil gE := fun env s σ H ds us env' Q ok re r e k => by
  cases r with
  | nil =>
    cases e
    exact ⟨rfl, k _ re⟩
  | cons _ _ => cases e
def gC (g : D → Env → Option Env) (gs : List D → Env → Option Env) : List D → Env → Option Env
  | d :: ds, env => (g d env).bind fun e1 => gs ds e1
  | [], _ => none
theorem evgs_cons {t : TG} {ts : TGs} {g : D → Env → Option Env} {gs : List D → Env → Option Env} (a : EvG I K t g) (b : EvGs I K ts gs) : EvGs I K (gCons t ts) (gC g gs) := fun env s σ H ds us env' Q ok re r e k => by
  cases r with
  | nil => cases e
  | cons h1 h2 =>
    rename_i d v ds vs
    have e : (g d env).bind (fun e1 => gs ds e1) = some env' := e
    cases e1 : g d env with
    | none => rw [e1] at e; cases e
    | some en =>
      rw [e1] at e
      exact ⟨_, _, rfl, a env s σ H d v en _ ok re h1 e1 fun σ' re' => b en s σ' H ds vs env' Q ok re' h2 e k⟩
theorem dgs_nil : DGs I K F [] gE := ⟨gNil, fun _ => pgs_nil, evgs_nil⟩
theorem dgsv_nil {vs : List Nat} : DGsv I K F vs [] gE := ⟨gNil, fun _ => pgs_nil, evgs_nil, fun v σ H Q Q' m q => ⟨q.1, m _ _ rfl q.2⟩⟩
theorem dgs_cons {e : Expr} {es : List Expr} {g : D → Env → Option Env} {gs : List D → Env → Option Env} (h : DG I K F e g) (hs : DGs I K F es gs)
    (ha : ∀ i, (assignEach (e :: es) (F i).env).map (·.2) = assign e (F i).env :: (assignEach es (F i).env).map (·.2) := by exact fun _ => rfl) : DGs I K F (e :: es) (gC g gs) := by
  obtain ⟨t, a1, a2⟩ := h
  obtain ⟨ts, b1, b2⟩ := hs
  exact ⟨gCons t ts, fun i => pgs_cons (a1 i) (b1 i) (ha i), evgs_cons a2 b2⟩
theorem dgsv_cons {vs : List Nat} {e : Expr} {es : List Expr} {g : D → Env → Option Env} {gs : List D → Env → Option Env} (h : DGv I K F vs e g) (hs : DGsv I K F vs es gs)
    (ha : ∀ i, (assignEach (e :: es) (F i).env).map (·.2) = assign e (F i).env :: (assignEach es (F i).env).map (·.2) := by exact fun _ => rfl) : DGsv I K F vs (e :: es) (gC g gs) := by
  obtain ⟨t, a1, a2, a3⟩ := h
  obtain ⟨ts, b1, b2, b3⟩ := hs
  refine ⟨gCons t ts, fun i => pgs_cons (a1 i) (b1 i) (ha i), evgs_cons a2 b2, fun v σ H Q Q' m q => ?_⟩
  obtain ⟨x, r, rfl, q⟩ := q
  exact ⟨x, r, rfl, a3 x σ H _ _ (fun σ2 H2 e2 q2 => b3 r σ2 H2 _ _ (fun σ3 H3 e3 q3 => m σ3 H3 (e3.trans e2) q3) q2) q⟩
def gT (n : Nat) (gs : List D → Env → Option Env) : D → Env → Option Env
  | .d (.tuple xs), env => if xs.length = n then gs (xs.map D.d) env else none
  | .tp xs, env => if xs.length = n then gs xs env else none
  | _, _ => none
theorem evg_tup {n : Nat} {ts : TGs} {gs : List D → Env → Option Env} (b : EvGs I K ts gs) : EvG I K (gTup K n ts) (gT n gs) := fun env s σ H d v env' Q ok re r e k => by
  unfold gT at e
  split at e
  · rename_i xs
    by_cases c : xs.length = n
    · rw [if_pos c] at e
      cases r with
      | tup h1 h2 => exact ⟨_, _, rfl, SqT.of (hr_sub _ _ h1), (dpa_len h2).trans c, b env s σ H _ _ env' Q ok re (rpl_of h2) e k⟩
    · rw [if_neg c] at e; cases e
  · rename_i xs
    by_cases c : xs.length = n
    · rw [if_pos c] at e
      obtain ⟨a, us, rfl, h1, h2⟩ := r
      exact ⟨_, _, rfl, SqT.of (hr_sub _ _ h1), (rpl_len (rpl_ofA h2)).trans c, b env s σ H _ _ env' Q ok re (rpl_ofA h2) e k⟩
    · rw [if_neg c] at e; cases e
  · cases e
theorem dg_tup {es : List Expr} {n kk : Nat} {gs : List D → Env → Option Env} (Wf : Fm P w K mg base k N F) (hs : DGs I K F es gs) (hn : ∀ i, (assignEach es (F i).env).length = n := by exact fun _ => rfl) (hst : ∀ i, (assignEach es (F i).env).findIdx? (·.1) = none := by exact fun _ => rfl) :
    DG I K F (.Tuple es kk pos) (gT n gs) := by
  obtain ⟨ts, b1, b2⟩ := hs
  exact ⟨gTup K n ts, fun i => by rw [← Wf.K i]; exact pg_tup (Wf.calm i) (b1 i) (hn i) (hst i), evg_tup b2⟩
theorem dgv_tup {vs : List Nat} {es : List Expr} {n kk : Nat} {gs : List D → Env → Option Env} (Wf : Fm P w K mg base k N F) (hs : DGsv I K F vs es gs) (hn : ∀ i, (assignEach es (F i).env).length = n := by exact fun _ => rfl) (hst : ∀ i, (assignEach es (F i).env).findIdx? (·.1) = none := by exact fun _ => rfl) :
    DGv I K F vs (.Tuple es kk pos) (gT n gs) := by
  obtain ⟨ts, b1, b2, b3⟩ := hs
  refine ⟨gTup K n ts, fun i => by rw [← Wf.K i]; exact pg_tup (Wf.calm i) (b1 i) (hn i) (hst i), evg_tup b2, fun v σ H Q Q' m q => ?_⟩
  obtain ⟨a, xs, e1, e2, e3, q⟩ := q
  exact ⟨a, xs, e1, e2, e3, b3 xs σ H _ _ m q⟩
end

/-! ### what is walked: data, or a list of a tree as it is from turn to turn -/
inductive Itb where
  | st (ds : List D)
  | dy (n : Nat) (p : Pth)
def chD (n : Nat) (p : Pth) (i : Nat) : Tr → D
  | .v d => d
  | .nd _ _ => .r n (p ++ [i])
def Itb.next : Itb → Nat → Ts → Option (Option D)
  | .st ds, i, _ => some ds[i]?
  | .dy n p, i, t => match getT t n p with
    | some (.nd .lst ts) => some (ts[i]?.map (chD n p i))
    | _ => none
def Wk (I : SI) (K : PySem.W.Frag) (J : It) (it : Itb) (s0 : St1) (H0 : Hp) : Prop := ∀ (s : St1) (H : Hp), I.ok K s H → VLe (Hr I s0 H0) (Hr I s H) → ∀ i o, it.next i s.t = some o → match o with
  | some d => J.go i H ∧ ∀ x H3, J.yld i H x H3 → H3 = H ∧ Rp K (Hr I s H) d x
  | none => J.stop i H
def tGI (I : SI) (K : PySem.W.Frag) (W : WX) (g : Sm Itb) : TI := fun σ H Rr => ∃ env s, I.ok K s H ∧ RE K (Hr I s H) env σ ∧ (g env s.t).Post (fun it t => ∀ J s' H', s'.t = t → Po I K s H s' H' → Wk I K J it s' H' → Rr J H') (XP I K W s σ H)
theorem _root_.L2.PI.imp {X : Cx} {tg e : Expr} {t t' : TI} (h : PI X tg e t) (k : ∀ σ H Q, t' σ H Q → t σ H Q) : PI X tg e t' := ⟨fun pins s σ H Q I q => h.run pins s σ H Q I (k σ H Q q)⟩
section
variable {ι : Type} {P : Program} {w : World} {K : PySem.W.Frag} {mg : Str → Option Value} {base : Heap} {k : Nat} {N : List Str} {F : ι → Cx} {I : SI} {W : WX} {pos : Pos}
def DI (I : SI) (K : PySem.W.Frag) (W : WX) (F : ι → Cx) (tg e : Expr) (g : Sm Itb) : Prop := ∀ i, PI (F i) tg e (tGI I K W g)
theorem stepI {s0 s : St1} {H0 H : Hp} {σ : L2.St} {env : Env} {α : Type} {P : α → Ts → Prop} {g : Sm Itb} {k : Itb → Ts → R α} {Q : It → Hp → Prop} (p : Po I K s0 H0 s H) (re : RE K (Hr I s0 H0) env σ) (h : ((g env s.t).bind k).Post P (XP I K W s0 σ H0))
    (c : ∀ x J s1 H1, Po I K s0 H0 s1 H1 → Po I K s H s1 H1 → Wk I K J x s1 H1 → (k x s1.t).Post P (XP I K W s0 σ H0) → Q J H1) : tGI I K W g σ H Q :=
  ⟨env, s, p.ok, re.same p.same, (R.post_bind h).mono (fun x t hk J s1 H1 e p1 wk => c x J s1 H1 (p.trans p1) p1 wk (by rw [e]; exact hk)) fun x t hx => xp_from p hx⟩
def itL : D → Option (List D)
  | .d (.list xs) => some (xs.map D.d)
  | .d (.tuple xs) => some (xs.map D.d)
  | .kt (.tuple xs) => if xs.all flatS = true then some (xs.map ktD) else none
  | .tp xs => some xs
  | .ls xs => some xs
  | _ => none
/-- a list or a tuple -/
def iSeq (K : PySem.W.Frag) (tl : TE) : TI := fun σ H R => tl σ H fun x H1 => ∃ a, x = .ref a ∧ (((∃ xs, SqL K H1 a xs) ∧ R (Itl K a) H1) ∨ ((∃ xs, SqT K H1 a xs) ∧ R (Itt K a) H1))
theorem pi_seq {X : Cx} {tg l : Expr} {tl : TE} (hl : PE X l tl) : PI X tg l (iSeq X.K tl) := by
  refine ⟨fun pins s σ H R I h => ?_⟩
  refine thn (hl.run pins s σ H _ I h) fun v s1 ⟨x, H1, I1, r1, q1⟩ => ?_
  obtain ⟨a, e, q⟩ := q1
  subst e
  cases r1
  rcases q with ⟨⟨xs, hq⟩, q⟩ | ⟨⟨xs, hq⟩, q⟩
  · obtain ⟨its, rv, p, hz⟩ := I1.list hq
    refine wpAny_pyIter_list p.isList ?_
    refine ⟨s1.heap.objs.size, [s1.heap.objs.size], _, _, H1, rfl, I1.kept (t' := s1.toks) fun b o e => Heap.get?_push_of_some _ e, turn_list a _, ⟨_, Heap.get?_push_size _ rfl, rfl, rfl⟩, fun b hb => ?_, q⟩
    have e : b = s1.heap.objs.size := by simpa using hb
    subst e
    exact I1.fpOk (Nat.le_refl _) (I1.hok.fresh (Nat.le_refl _))
  · obtain ⟨its, rv, p, hz⟩ := I1.tuple hq
    refine wpAny_pyIter_tuple (show s1.heap.IsTuple a its.toArray from p) ?_
    refine ⟨s1.heap.objs.size, [s1.heap.objs.size], _, _, H1, rfl, I1.kept (t' := s1.toks) fun b o e => Heap.get?_push_of_some _ e, turn_tuple a _, ⟨_, Heap.get?_push_size _ rfl, rfl, rfl⟩, fun b hb => ?_, q⟩
    have e : b = s1.heap.objs.size := by simpa using hb
    subst e
    exact I1.fpOk (Nat.le_refl _) (I1.hok.fresh (Nat.le_refl _))
theorem wk_list {s0 : St1} {H0 : Hp} {a : Addr} {vs : List V} {ds : List D} (h : SqL K (Hr I s0 H0).h a vs) (r : RpL K (Hr I s0 H0) ds vs) : Wk I K (Itl K a) (.st ds) s0 H0 := fun s H ok e i o hn => by
  cases hn
  have h2 := sql_same (hr_sub (I := I) (s := s) (H := H)) (sql_same e.h h)
  cases q : ds[i]? with
  | none =>
    exact ⟨vs, h2, by rw [rpl_len r]; exact List.getElem?_eq_none_iff.mp q⟩
  | some d =>
    obtain ⟨v, e1, r1⟩ := rpl_get r q
    refine ⟨⟨vs, v, h2, e1⟩, fun x H3 y => ?_⟩
    obtain ⟨y1, y2⟩ := y
    have := y2 vs h2
    rw [e1] at this
    cases this
    exact ⟨y1, rp_same e r1⟩
theorem wk_tup {s0 : St1} {H0 : Hp} {a : Addr} {vs : List V} {ds : List D} (h : ∀ H', Same (Hr I s0 H0).h H' → SqT K H' a vs) (r : RpL K (Hr I s0 H0) ds vs) : Wk I K (Itt K a) (.st ds) s0 H0 := fun s H ok e i o hn => by
  cases hn
  have h2 := h H (fun a o q => hr_sub _ _ (e.h a o q))
  cases q : ds[i]? with
  | none =>
    exact ⟨vs, h2, by rw [rpl_len r]; exact List.getElem?_eq_none_iff.mp q⟩
  | some d =>
    obtain ⟨v, e1, r1⟩ := rpl_get r q
    refine ⟨⟨vs, v, h2, e1⟩, fun x H3 y => ?_⟩
    obtain ⟨y1, y2⟩ := y
    have := y2 vs h2
    rw [e1] at this
    cases this
    exact ⟨y1, rp_same e r1⟩
theorem chs_get {vw : Vw} {n : Nat} {p : Pth} : ∀ {j i : Nat} {ts : List Tr} {vs : List V} {t : Tr}, Chs K vw n p j ts vs → ts[i]? = some t → ∃ v, vs[i]? = some v ∧ Ch K vw n p (j + i) t v
  | _, _, _, _, _, .nil, e => by simp at e
  | j, 0, _, _, _, .cons h _, e => by simp at e; subst e; exact ⟨_, rfl, h⟩
  | j, i + 1, _, _, t, .cons _ r, e => by
    obtain ⟨v, h1, h2⟩ := chs_get (i := i) (t := t) r (by simpa using e)
    exact ⟨v, by simpa using h1, by rw [Nat.add_right_comm] at h2; exact h2⟩
theorem ch_rp {vw : Vw} {n : Nat} {p : Pth} {i : Nat} {t : Tr} {v : V} (h : Ch K vw n p i t v) : Rp K vw (chD n p i t) v := by
  cases t with
  | v d => exact h.1
  | nd k ts => obtain ⟨a, h1, h2⟩ := h; exact ⟨a, h2, h1⟩
/-- the object at a place -/
theorem node_at {s : St1} {H : Hp} {n : Nat} {p : Pth} {k : Kd} {ts : List Tr} {v : V} (ok : I.ok K s H) (r : Rp K (Hr I s H) (.r n p) v) (h : getT s.t n p = some (.nd k ts)) :
    ∃ a dx vs, v = .ref a ∧ s.w n p = some (a, dx) ∧ Chs K (Hr I s H) n p 0 ts vs ∧ Holds I.mg H a dx vs k := by
  obtain ⟨a, rfl, ha⟩ := r
  obtain ⟨a', dx, vs, w1, z1, zx1, c1, hd1⟩ := ok.nod n p k ts h
  have ha : (s.w n p).map (·.1) = some a := ha
  rw [w1] at ha
  cases ha
  exact ⟨a', dx, vs, rfl, w1, c1, hd1⟩
theorem wk_dy {s0 : St1} {H0 : Hp} {a : Addr} {n : Nat} {p : Pth} (h : (Hr I s0 H0).w n p = some a) : Wk I K (Itl K a) (.dy n p) s0 H0 := fun s H ok e i o hn => by
  have hw := e.w _ _ _ h
  have hn : (match getT s.t n p with | some (.nd .lst ts) => some (ts[i]?.map (chD n p i)) | _ => none) = some o := hn
  split at hn
  · rename_i ts g
    obtain ⟨a', dx, vs, e1, w1, c1, hd1⟩ := node_at ok (v := .ref a) ⟨a, rfl, hw⟩ g
    cases e1
    have hl : SqL K H a vs := SqL.of hd1
    cases q : ts[i]? with
    | none =>
      rw [q] at hn
      cases hn
      exact ⟨vs, hl, by rw [chs_len c1]; exact List.getElem?_eq_none_iff.mp q⟩
    | some t =>
      rw [q] at hn
      cases hn
      obtain ⟨v, g1, g2⟩ := chs_get c1 q
      rw [Nat.zero_add] at g2
      refine ⟨⟨vs, v, hl, g1⟩, fun x H3 y => ?_⟩
      obtain ⟨y1, y2⟩ := y
      have := y2 vs hl
      rw [g1] at this
      cases this
      exact ⟨y1, ch_rp g2⟩
  · cases hn
def itS (x : D) (t : Ts) : R Itb := match x with
  | .r n p => match getT t n p with
    | some (.nd .lst _) => .ok (.dy n p) t
    | _ => .no
  | x => match itL x with
    | some ds => .ok (.st ds) t
    | none => .no
def sIt (a : Sm D) : Sm Itb := fun env t => (a env t).bind itS
def pIt (a : Pm D) : Pm (List D) := fun env => (a env).bind itL
def liftI (g : Pm (List D)) : Sm Itb := fun env t => (ofO (g env) t).bind fun ds t => .ok (.st ds) t
theorem tabs_of {s1 : St1} {H1 : Hp} {x : D} {v : V} {α : Type} {A : Itb → Ts → Prop} {B : Exn → Ts → Prop} {Rr : It → Hp → Prop} (ok : I.ok K s1 H1) (r1 : Rp K (Hr I s1 H1) x v) (h : (itS x s1.t).Post A B) (kk : ∀ it J, A it s1.t → Wk I K J it s1 H1 → Rr J H1) :
    ∃ a, v = .ref a ∧ (((∃ xs, SqL K H1 a xs) ∧ Rr (Itl K a) H1) ∨ ((∃ xs, SqT K H1 a xs) ∧ Rr (Itt K a) H1)) := by
  unfold itS at h
  split at h
  · rename_i n p
    split at h
    · rename_i ts g
      obtain ⟨a, dx, vs, e1, w1, c1, hd1⟩ := node_at ok r1 g
      subst e1
      exact ⟨a, rfl, .inl ⟨⟨vs, SqL.of hd1⟩, kk _ _ h (wk_dy (by show (s1.w n p).map (·.1) = some a; rw [w1]; rfl))⟩⟩
    · exact h.elim
  · split at h
    · rename_i ds e
      unfold itL at e
      split at e
      · cases e
        cases r1 with
        | lst hs ha => exact ⟨_, rfl, .inl ⟨⟨_, sql_same hr_sub (SqL.of hs)⟩, kk _ _ h (wk_list (SqL.of hs) (rpl_of ha))⟩⟩
      · cases e
        cases r1 with
        | tup hs ha => exact ⟨_, rfl, .inr ⟨⟨_, SqT.of (hr_sub _ _ hs)⟩, kk _ _ h (wk_tup (fun H' e => SqT.of (e _ _ hs)) (rpl_of ha))⟩⟩
      · rename_i xs _
        by_cases c : xs.all flatS = true
        · rw [if_pos c] at e
          cases e
          cases r1 with
          | tup hs ha => exact ⟨_, rfl, .inr ⟨⟨_, sqt_same none_sub hs⟩, kk _ _ h (wk_tup (fun H' _ => sqt_same none_sub hs) (dpa_empty ha c))⟩⟩
        · rw [if_neg c] at e; cases e
      · cases e
        obtain ⟨a, us, rfl, h1, h2⟩ := r1
        exact ⟨_, rfl, .inr ⟨⟨_, SqT.of (hr_sub _ _ h1)⟩, kk _ _ h (wk_tup (fun H' e => SqT.of (e _ _ h1)) (rpl_ofA h2))⟩⟩
      · cases e
        obtain ⟨a, us, rfl, h1, h2⟩ := r1
        exact ⟨_, rfl, .inl ⟨⟨_, sql_same hr_sub (SqL.of h1)⟩, kk _ _ h (wk_list (SqL.of h1) (rpl_ofA h2))⟩⟩
      · cases e
    · exact h.elim
theorem di_seq {tg e : Expr} {g : Sm D} (Wf : Fm P w K mg base k N F) (h : DE I K W F e g) : DI I K W F tg e (sIt g) := fun i => by
  have hh := pi_seq (tg := tg) (h i)
  rw [Wf.K i] at hh
  exact hh.imp fun σ H Rr ⟨env, s, ok, re, h⟩ => step (Po.refl ok) re h fun x v s1 H1 p1 _ r1 h => tabs_of (α := Unit) p1.ok r1 h fun it J a wk => a J s1 H1 rfl p1 wk
theorem di_le {tg e : Expr} {g g' : Sm Itb} (h : DI I K W F tg e g) (l : ∀ env t, R.Le (g' env t) (g env t)) : DI I K W F tg e g' := fun i => (h i).imp fun σ H Q ⟨env, s, ok, re, p⟩ => ⟨env, s, ok, re, (l env s.t).post p⟩
theorem itS_of {x : D} {ds : List D} (t : Ts) (h : itL x = some ds) : itS x t = .ok (.st ds) t := by
  cases x with
  | r n p => cases h
  | _ => unfold itS; dsimp only; rw [h]
theorem le_it {a : Pm D} (env : Env) (t : Ts) : R.Le (liftI (pIt a) env t) (sIt (lift a) env t) := by
  unfold liftI pIt sIt lift
  cases a env with
  | none => exact .inl rfl
  | some x =>
    cases q : itL x with
    | none => exact .inl (by show (ofO (itL x) t).bind _ = _; rw [q]; rfl)
    | some ds => exact .inr (by show (ofO (itL x) t).bind _ = itS x t; rw [q, itS_of t q]; rfl)
def rgL (lo : Int) (n : Nat) : List D := (List.range n).map fun (i : Nat) => D.d (.int (lo + (i : Int)))
def mR1 : List D → Option (List D)
  | [.d (.int j)] => if j < 2 ^ 62 ∧ -(2 ^ 62) ≤ j then some (rgL 0 j.toNat) else none
  | _ => none
def mR2 : List D → Option (List D)
  | [.d (.int i), .d (.int j)] => if -(2 ^ 62) ≤ i ∧ i < 2 ^ 62 ∧ -(2 ^ 62) ≤ j ∧ j < 2 ^ 62 then some (rgL i (j - i).toNat) else none
  | _ => none
def sRg (f : List D → Option (List D)) (a : Sm (List D)) : Sm Itb := fun env t => (a env t).bind fun xs t => (ofO (f xs) t).bind fun ds t => .ok (.st ds) t
def pRg (f : List D → Option (List D)) (a : Pm (List D)) : Pm (List D) := fun env => (a env).bind f
theorem lift_rg (f : List D → Option (List D)) (a : Pm (List D)) : liftI (pRg f a) = sRg f (lift a) := by
  funext env s
  unfold liftI lift pRg sRg
  dsimp only
  cases a env <;> rfl
theorem wk_rg {s0 : St1} {H0 : Hp} (lo : Int) (n : Nat) : Wk I K (Itr lo n) (.st (rgL lo n)) s0 H0 := fun s H ok e i o hn => by
  cases hn
  unfold rgL
  rw [List.getElem?_map]
  by_cases c : i < n
  · rw [List.getElem?_range c]
    exact ⟨c, fun x H3 y => ⟨y.1, by rw [y.2]; exact .int _⟩⟩
  · rw [List.getElem?_eq_none (by rw [List.length_range]; omega)]
    show n ≤ i
    omega
theorem di_r1 {tg a : Expr} {p : Pos} {g : Sm (List D)} (Wf : Fm P w K mg base k N F) (hm : mg "range" = none) (h : DA I K W F [a] g) (hg : ∀ i, Gl (F i) "range" := by exact fun _ => rfl) (hs : ∀ i, starEach [a] (F i).env = [(false, eval a (F i).env)] := by exact fun _ => rfl) :
    DI I K W F tg (.Call (.Name "range" p) [a] [] pos) (sRg mR1 g) := fun i =>
  (pi_range1 (hg i) (by rw [Wf.mg i]; exact hm) (h i) (hs i)).imp fun σ H Rr ⟨env, s, ok, re, h⟩ => stepL (Po.refl ok) re h fun xs vs s1 H1 p1 _ r1 h => by
    obtain ⟨ds, e, h⟩ := post_ofO (R.post_bind h)
    unfold mR1 at e
    split at e
    · rename_i j
      by_cases c : j < 2 ^ 62 ∧ -(2 ^ 62) ≤ j
      · rw [if_pos c] at e
        cases e
        cases r1 with
        | cons h1 h2 =>
          cases h2
          cases h1
          exact ⟨j, rfl, c.2, c.1, h _ s1 H1 rfl p1 (wk_rg 0 _)⟩
      · rw [if_neg c] at e; cases e
    · cases e
theorem di_r2 {tg a b : Expr} {p : Pos} {g : Sm (List D)} (Wf : Fm P w K mg base k N F) (hm : mg "range" = none) (h : DA I K W F [a, b] g) (hg : ∀ i, Gl (F i) "range" := by exact fun _ => rfl) (hs : ∀ i, starEach [a, b] (F i).env = [(false, eval a (F i).env), (false, eval b (F i).env)] := by exact fun _ => rfl)
    (hs2 : ∀ i, starEach [b] (F i).env = [(false, eval b (F i).env)] := by exact fun _ => rfl) :
    DI I K W F tg (.Call (.Name "range" p) [a, b] [] pos) (sRg mR2 g) := fun i =>
  (pi_range2 (hg i) (by rw [Wf.mg i]; exact hm) (h i) (hs i) (hs2 i)).imp fun σ H Rr ⟨env, s, ok, re, h⟩ => stepL (Po.refl ok) re h fun xs vs s1 H1 p1 _ r1 h => by
    obtain ⟨ds, e, h⟩ := post_ofO (R.post_bind h)
    unfold mR2 at e
    split at e
    · rename_i i j
      by_cases c : -(2 ^ 62) ≤ i ∧ i < 2 ^ 62 ∧ -(2 ^ 62) ≤ j ∧ j < 2 ^ 62
      · rw [if_pos c] at e
        cases e
        cases r1 with
        | cons h1 h2 =>
          cases h2 with
          | cons h3 h4 =>
            cases h4
            cases h1
            cases h3
            exact ⟨i, j, rfl, c, h _ s1 H1 rfl p1 (wk_rg i _)⟩
      · rw [if_neg c] at e; cases e
    · cases e
end
end Dl
set_option maxRecDepth 100000
set_option maxHeartbeats 4000000
namespace Dl
open PySem L2

/-! ### comprehensions -/
def R.nox {α : Type} (r : R α) : R α := match r with
  | .ex _ _ => .no
  | r => r
theorem nox_post {α β : Type} {r : R α} {k : α → Ts → R β} {P : β → Ts → Prop} {X : Exn → Ts → Prop} (h : (r.nox.bind k).Post P X) : r.Post (fun a t => (k a t).Post P X) fun _ _ => False := by
  cases r with
  | no => exact h
  | ok a t => exact h
  | ex x t => exact h
theorem nox_ofO {α : Type} (o : Option α) (t : Ts) : (ofO o t).nox = ofO o t := by cases o <;> rfl
def goCN (it : Itb) (g : D → Env → Option Env) (env : Env) (tt : Sm Bool) (el : Sm D) : Nat → Nat → Ts → R (List D)
  | 0, i, t => match it.next i t with
    | some none => .ok [] t
    | _ => .no
  | m + 1, i, t => match it.next i t with
    | some none => .ok [] t
    | some (some x) => (ofO (g x env) t).bind fun e1 t => (tt e1 t).nox.bind fun b t => if b = true then (el e1 t).nox.bind fun y t => (goCN it g env tt el m (i + 1) t).bind fun ys t => .ok (y :: ys) t else goCN it g env tt el m (i + 1) t
    | none => .no
def goC (g : D → Env → Option Env) (env : Env) (tt : Sm Bool) (el : Sm D) : List D → Ts → R (List D)
  | [], t => .ok [] t
  | x :: r, t => (ofO (g x env) t).bind fun e1 t => (tt e1 t).nox.bind fun b t => if b = true then (el e1 t).nox.bind fun y t => (goC g env tt el r t).bind fun ys t => .ok (y :: ys) t else goC g env tt el r t
def goP (g : D → Env → Option Env) (env : Env) (tt : Pm Bool) (el : Pm D) : List D → Option (List D)
  | [] => some []
  | x :: r => (g x env).bind fun e1 => (tt e1).bind fun p => if p = true then (el e1).bind fun q => (goP g env tt el r).map fun z => q :: z else goP g env tt el r
theorem drop_get {α : Type} {l : List α} {i : Nat} {x : α} (h : l[i]? = some x) : l.drop i = x :: l.drop (i + 1) := by
  obtain ⟨h1, h2⟩ := List.getElem?_eq_some_iff.mp h
  rw [List.drop_eq_getElem_cons h1, h2]
theorem goC_N {g : D → Env → Option Env} {env : Env} {tt : Sm Bool} {el : Sm D} {ds : List D} : ∀ (m i : Nat) (t : Ts), i + m = ds.length → goC g env tt el (ds.drop i) t = goCN (.st ds) g env tt el m i t
  | 0, i, t, h => by
    have e : ds[i]? = none := List.getElem?_eq_none (by omega)
    rw [List.drop_of_length_le (by omega)]
    show R.ok [] t = match (some ds[i]? : Option (Option D)) with | some none => R.ok [] t | _ => R.no
    rw [e]
  | m + 1, i, t, h => by
    obtain ⟨x, hx⟩ : ∃ x, ds[i]? = some x := ⟨ds[i]'(by omega), List.getElem?_eq_getElem (by omega)⟩
    rw [drop_get hx]
    have ih := fun t => goC_N (g := g) (env := env) (tt := tt) (el := el) (ds := ds) m (i + 1) t (by omega)
    show _ = match (some ds[i]? : Option (Option D)) with | some none => R.ok [] t | some (some x) => (ofO (g x env) t).bind fun e1 t => (tt e1 t).nox.bind fun b t => if b = true then (el e1 t).nox.bind fun y t => (goCN (.st ds) g env tt el m (i + 1) t).bind fun ys t => .ok (y :: ys) t else goCN (.st ds) g env tt el m (i + 1) t | none => .no
    rw [hx]
    dsimp only
    rw [goC]
    simp only [ih]
def lenA (n : Nat) (p : Pth) (t : Ts) : Nat := match getT t n p with
  | some (.nd _ ts) => ts.length
  | _ => 0
def goItC (it : Itb) (g : D → Env → Option Env) (env : Env) (tt : Sm Bool) (el : Sm D) (t : Ts) : R (List D) := match it with
  | .st ds => if ds.length ≤ 100000 then goC g env tt el ds t else .no
  | .dy n p => if lenA n p t ≤ 100000 then goCN (.dy n p) g env tt el (lenA n p t) 0 t else .no
theorem goItC_N {it : Itb} {g : D → Env → Option Env} {env : Env} {tt : Sm Bool} {el : Sm D} {t : Ts} {P : List D → Ts → Prop} {X : Exn → Ts → Prop} (h : (goItC it g env tt el t).Post P X) : ∃ m, m ≤ 100000 ∧ (goCN it g env tt el m 0 t).Post P X := by
  cases it with
  | st ds =>
    unfold goItC at h
    by_cases c : ds.length ≤ 100000
    · have h : (if ds.length ≤ 100000 then goC g env tt el ds t else .no).Post P X := h
      rw [if_pos c] at h
      exact ⟨ds.length, c, by rw [← goC_N ds.length 0 t (by omega)]; exact h⟩
    · have h : (if ds.length ≤ 100000 then goC g env tt el ds t else .no).Post P X := h
      rw [if_neg c] at h; exact h.elim
  | dy n p =>
    unfold goItC at h
    by_cases c : lenA n p t ≤ 100000
    · have h : (if lenA n p t ≤ 100000 then goCN (.dy n p) g env tt el (lenA n p t) 0 t else .no).Post P X := h
      rw [if_pos c] at h
      exact ⟨_, c, h⟩
    · have h : (if lenA n p t ≤ 100000 then goCN (.dy n p) g env tt el (lenA n p t) 0 t else .no).Post P X := h
      rw [if_neg c] at h; exact h.elim
def sLc (g : D → Env → Option Env) (vs : List Nat) (src : Sm Itb) (tt : Sm Bool) (el : Sm D) : Sm (List D) := fun env t => (src env t).bind fun it t => goItC it g (wipeE env vs) tt el t
def pLc (g : D → Env → Option Env) (vs : List Nat) (src : Pm (List D)) (tt : Pm Bool) (el : Pm D) : Pm (List D) := fun env => (src env).bind fun xs => if xs.length ≤ 100000 then goP g (wipeE env vs) tt el xs else none
theorem goC_lift (g : D → Env → Option Env) (env : Env) (tt : Pm Bool) (el : Pm D) : ∀ (l : List D) (t : Ts), goC g env (lift tt) (lift el) l t = ofO (goP g env tt el l) t
  | [], t => rfl
  | x :: r, t => by
    have ih := goC_lift g env tt el r t
    unfold goC goP
    cases g x env with
    | none => rfl
    | some e1 =>
      simp only [ofO, R.bind, Option.bind_some, lift]
      cases tt e1 with
      | none => rfl
      | some b =>
        cases b with
        | false => simpa [ofO, R.bind, R.nox, lift] using ih
        | true =>
          simp only [ofO, R.bind, R.nox, Option.bind_some, if_true]
          cases el e1 with
          | none => rfl
          | some y =>
            simp only [Option.bind_some, ih]
            cases goP g env tt el r <;> rfl
theorem lift_lc (g : D → Env → Option Env) (vs : List Nat) (src : Pm (List D)) (tt : Pm Bool) (el : Pm D) : lift (pLc g vs src tt el) = sLc g vs (liftI src) (lift tt) (lift el) := by
  funext env t
  unfold lift pLc sLc liftI
  cases src env with
  | none => rfl
  | some xs =>
    simp only [ofO, R.bind, Option.bind_some]
    unfold goItC
    dsimp only
    by_cases c : xs.length ≤ 100000
    · rw [if_pos c, if_pos c]
      exact (goC_lift g (wipeE env vs) tt el xs t).symm
    · rw [if_neg c, if_neg c]

section
variable {ι : Type} {P : Program} {w : World} {K : PySem.W.Frag} {mg : Str → Option Value} {base : Heap} {k : Nat} {N : List Str} {F : ι → Cx} {I : SI} {W : WX} {pos : Pos}
/-- what a made list is handed on as -/
theorem lc_sound {J : It} {it : Itb} {g : TG} {gt : Sm Bool} {ge : Sm D} {vs : List Nat} {gg : D → Env → Option Env} {env : Env} {s1 : St1} {σ : L2.St} {H1 : Hp} {m : Nat} {Pr : List D → Ts → Prop} {X : Exn → Ts → Prop} {Q : VK}
    (hg : EvG I K g gg) (hs : Str1 g vs) (ok : I.ok K s1 H1) (re : RE K (Hr I s1 H1) env σ) (wk : Wk I K J it s1 H1) (hm : m ≤ 100000) (h : (goCN it gg (wipeE env vs) gt ge m 0 s1.t).Post Pr X)
    (kk : ∀ L acc ds s H, H1 L = none → Gro I K L s1 H1 (.lst acc) s H → RpL K (Hr I s H) ds acc → Pr ds s.t → Q (.ref L) H) :
    ∀ D, H1 D = none → ∃ Wi : Nat → Nat → Hp → Prop, (∃ m, Wi 0 m (upd H1 D (.lst []))) ∧ ∀ i m H, Wi i m H →
  (J.stop i H ∧ Q (.ref D) H) ∨ (J.go i H ∧ ∃ Nx : Hp → Prop, (∀ H', Nx H' → ∃ m', m' < m ∧ Wi (i + 1) m' H') ∧ ∀ x H', J.yld i H x H' → g x (wipe σ vs) H' fun σ2 H2 => wipe σ2 vs = wipe σ vs ∧ (tGB I K WF gt) σ2 H2 fun b H3 =>
    if b = true then (tG I K WF ge) σ2 H3 fun y H4 => ∃ acc, H4 D = some (.lst acc) ∧ acc.length < sizeLine ∧ Nx (upd H4 D (.lst (acc ++ [y]))) else Nx H3) := by
  intro L hL
  have zL := ok_zL ok hL
  have ldl : ∀ xs, Ld (.lst xs) := fun xs => .inl ⟨xs, rfl⟩
  refine ⟨fun i mm H => ∃ (s3 : St1) (acc : List V) (dn : List D), Gro I K L s1 H1 (.lst acc) s3 H ∧ RpL K (Hr I s3 H) dn acc ∧ acc.length ≤ i ∧ i + mm ≤ 100000 ∧
      (goCN it gg (wipeE env vs) gt ge mm i s3.t).Post (fun ys t => Pr (dn ++ ys) t) X, ⟨m, s1.zz (upd s1.Z L (.lst [])), [], [], Gro.start ok hL (ldl _), .nil, Nat.le_refl _, by omega, h⟩, ?_⟩
  rintro i mm H ⟨s3, acc, dn, gr, ra, hal, him, h3⟩
  have wki := wk s3 H gr.ok gr.sm i
  have fin : it.next i s3.t = some none → Pr (dn ++ []) s3.t → J.stop i H ∧ Q (.ref L) H := fun e hp => by
    rw [List.append_nil] at hp
    exact ⟨wki none e, kk L acc dn s3 H hL gr ra hp⟩
  cases mm with
  | zero =>
    have h3 : (match it.next i s3.t with | some none => R.ok [] s3.t | _ => .no).Post (fun ys t => Pr (dn ++ ys) t) X := h3
    split at h3
    · rename_i e
      exact .inl (fin e h3)
    · exact h3.elim
  | succ mm =>
    have h3 : (match it.next i s3.t with
      | some none => R.ok [] s3.t
      | some (some x) => (ofO (gg x (wipeE env vs)) s3.t).bind fun e1 t => (gt e1 t).nox.bind fun b t => if b = true then (ge e1 t).nox.bind fun y t => (goCN it gg (wipeE env vs) gt ge mm (i + 1) t).bind fun ys t => .ok (y :: ys) t else goCN it gg (wipeE env vs) gt ge mm (i + 1) t
      | none => .no).Post (fun ys t => Pr (dn ++ ys) t) X := h3
    split at h3
    · rename_i e
      exact .inl (fin e h3)
    · rename_i x e
      right
      obtain ⟨go, yl⟩ := wki (some x) e
      refine ⟨go, fun H' => ∃ (s3 : St1) (acc : List V) (dn : List D), Gro I K L s1 H1 (.lst acc) s3 H' ∧ RpL K (Hr I s3 H') dn acc ∧ acc.length ≤ i + 1 ∧
        (goCN it gg (wipeE env vs) gt ge mm (i + 1) s3.t).Post (fun ys t => Pr (dn ++ ys) t) X, fun H' ⟨a1, a2, a3, a4, a5, a6, a7⟩ => ⟨mm, Nat.lt_succ_self _, a1, a2, a3, a4, a5, a6, by omega, a7⟩, fun v H3 y => ?_⟩
      obtain ⟨y1, y3⟩ := yl v H3 y
      subst y1
      obtain ⟨en, e6, h3⟩ := post_ofO (R.post_bind h3)
      have rw1 := re_wipe (re.same gr.sm) vs
      refine hs v (wipe σ vs) H3 _ _ (fun σ2 H2 w2 q => ⟨w2.trans (wipe_wipe σ vs), q⟩) (hg (wipeE env vs) s3 (wipe σ vs) H3 x v en _ gr.ok rw1 y3 e6 fun σ2 re2 => ?_)
      refine ⟨en, s3, gr.ok, re2, (nox_post h3).mono (fun b t hb s4 H4 e4 p4 => ?_) fun _ _ f => f.elim⟩
      subst e4
      have gr4 := gr.step p4 hL zL
      cases b with
      | false =>
        rw [if_neg Bool.false_ne_true] at hb ⊢
        exact ⟨s4, acc, dn, gr4, rpl_same p4.same ra, by omega, hb⟩
      | true =>
        rw [if_pos rfl] at hb ⊢
        refine ⟨en, s4, p4.ok, re2.same p4.same, (nox_post hb).mono (fun yd t hy yv s5 H5 e5 p5 r5 => ?_) fun _ _ f => f.elim⟩
        subst e5
        have gr5 := gr4.step p5 hL zL
        refine ⟨acc, gr5.at_, Nat.lt_of_le_of_lt (show acc.length ≤ 100000 by omega) (by decide), s5.zz (upd s1.Z L (.lst (acc ++ [yv]))), acc ++ [yv], dn ++ [yd], gr5.put hL zL (ldl _), ?_, by rw [List.length_append]; show acc.length + 1 ≤ _; omega, ?_⟩
        · exact rpl_app (rpl_same (p4.same.trans (p5.same.trans gr5.psm)) ra) (.cons (rp_same gr5.psm r5) .nil)
        · refine (R.post_bind hy).mono (fun ys t q => ?_) fun _ _ q => q
          rw [List.append_assoc]
          exact q
    · exact h3.elim
/-- the end: a list of data, or of anything -/
theorem lc_end {s1 s : St1} {H1 H : Hp} {L : Addr} {acc : List V} {ds : List D} {z : D} (ok : I.ok K s1 H1) (hL : H1 L = none) (gr : Gro I K L s1 H1 (.lst acc) s H) (r : RpL K (Hr I s H) ds acc) (e : mLst ds = some z) : Rp K (Hr I (s.zz s1.Z) H) z (.ref L) := by
  have zL := ok_zL ok hL
  unfold mLst at e
  by_cases c : ds.length ≤ 100000
  · rw [if_pos c] at e
    cases q : pdL ds with
    | none => rw [q] at e; cases e; exact ⟨L, acc, rfl, gr.hr zL, rpa_of (rpl_same gr.gsm r)⟩
    | some xs => rw [q] at e; cases e; exact .lst (gr.hr zL) (rpl_pd (rpl_same gr.gsm r) q)
  · rw [if_neg c] at e; cases e
theorem tg_lc {g : TG} {vs : List Nat} {gs : Sm Itb} {gg : D → Env → Option Env} {gt : Sm Bool} {ge : Sm D} (hg : EvG I K g gg) (hs : Str1 g vs) :
    ∀ σ H Q, tG I K W (sMk mLst (sLc gg vs gs gt ge)) σ H Q → tLc (tGI I K W gs) g (tGB I K WF gt) (tG I K WF ge) vs σ H Q := fun σ H Q ⟨env, s, ok, re, h⟩ => by
  have h : ((gs env s.t).bind fun it t => (goItC it gg (wipeE env vs) gt ge t).bind fun xs t => ofO (mLst xs) t).Post (fun d t => ∀ v s' H', s'.t = t → Po I K s H s' H' → Rp K (Hr I s' H') d v → Q v H') (XP I K W s σ H) := by
    unfold sMk sLc at h
    cases q : gs env s.t with
    | no => rw [q] at h; exact h
    | ok a t => rw [q] at h; exact h
    | ex x t => rw [q] at h; exact h
  refine stepI (Po.refl ok) re h fun it J s1 H1 p1 _ wk h => ?_
  obtain ⟨m, hm, h⟩ := goItC_N (R.post_bind h)
  refine lc_sound hg hs p1.ok (re.same p1.same) wk hm h fun L acc ds s2 H2 hL gr r hp => ?_
  obtain ⟨z, e, hp⟩ := post_ofO hp
  exact hp (.ref L) (s2.zz s1.Z) H2 rfl (p1.trans gr.po) (lc_end p1.ok hL gr r e)
theorem dts_nil : DTs I K W F [] (sC true) := fun i => ⟨fun pins s σ H Q II h => (pts_nil (X := F i)).run pins s σ H Q II (let ⟨env, s0, ok, re, q⟩ := h; q s0 H rfl (Po.refl ok))⟩
theorem dts_one {c : Expr} {g : Sm Bool} (h : DT I K W F c g) : DTs I K W F [c] g := fun i => pts_one (h i)
theorem de_lc {elt tg iter : Expr} {ifs : List Expr} {scope : Scope} (own : List (Str × Nat)) {gs : Sm Itb} {gg : D → Env → Option Env} {gt : Sm Bool} {ge : Sm D} (Wf : Fm P w K mg base k N F)
    (ok : ∀ i, BlkOk (F i).N (F i).env.scope scope own) (hi : DI I K W F tg iter gs) (hg : DGv I K (blkF scope F) (own.map (·.2)) tg gg) (ht : DTs I K WF (blkF scope F) ifs gt) (he : DE I K WF (blkF scope F) elt ge)
    (hs : ∀ i x, foldedSetIterable iter (F i).env x = pure x := by exact fun _ _ => rfl) : DE I K W F (.ListComp elt [⟨tg, iter, ifs, 0⟩] scope pos) (sMk mLst (sLc gg (own.map (·.2)) gs gt ge)) := by
  obtain ⟨g, g1, g2, g3⟩ := hg
  exact fun i => (pe_lc (Wf.calm i) (by rw [Wf.N i]; exact Wf.nd) (hi i) (ok i) (fun s H C cl fp => g1 (i, s, H, C, cl, fp)) (fun s H C cl fp => ht (i, s, H, C, cl, fp)) (fun s H C cl fp => he (i, s, H, C, cl, fp)) (hs i)).imp (tg_lc g2 g3)
end
end Dl
set_option maxRecDepth 100000
set_option maxHeartbeats 4000000
namespace Dl
open PySem L2

section
variable {ι : Type} {P : Program} {w : World} {K : PySem.W.Frag} {mg : Str → Option Value} {base : Heap} {k : Nat} {N : List Str} {F : ι → Cx} {I : SI} {W : WX} {pos : Pos}

/-! ### statements -/
/-- what is wished of an exception at a statement: whatever the slots are -/
abbrev XS (I : SI) (K : PySem.W.Frag) (W : WX) (s : St1) (H : Hp) : Exn → Ts → Prop := fun x t => ∀ σ', XP I K W s σ' H x t
theorem xs_from {s0 s1 : St1} {H0 H1 : Hp} {x : Exn} {t : Ts} (p : Po I K s0 H0 s1 H1) (h : XS I K W s0 H0 x t) : XS I K W s1 H1 x t := fun σ' => xp_from p (h σ')
section
variable {s0 s : St1} {H0 H : Hp} {σ : L2.St} {env : Env} {α : Type} {P : α → Ts → Prop}
theorem st1 {g : Sm D} {k : D → Ts → R α} {Q : VK} (p : Po I K s0 H0 s H) (re : RE K (Hr I s H) env σ) (h : ((g env s.t).bind k).Post P (XS I K W s0 H0))
    (c : ∀ x v s1 H1, Po I K s0 H0 s1 H1 → Po I K s H s1 H1 → RE K (Hr I s1 H1) env σ → Rp K (Hr I s1 H1) x v → (k x s1.t).Post P (XS I K W s0 H0) → Q v H1) : tG I K W g σ H Q :=
  ⟨env, s, p.ok, re, (R.post_bind h).mono (fun x t hk v s1 H1 e p1 r => c x v s1 H1 (p.trans p1) p1 (re.same p1.same) r (by rw [e]; exact hk)) fun x t hx => xp_from p (hx σ)⟩
theorem st1B {g : Sm Bool} {k : Bool → Ts → R α} {Q : Bool → Hp → Prop} (p : Po I K s0 H0 s H) (re : RE K (Hr I s H) env σ) (h : ((g env s.t).bind k).Post P (XS I K W s0 H0))
    (c : ∀ x s1 H1, Po I K s0 H0 s1 H1 → Po I K s H s1 H1 → RE K (Hr I s1 H1) env σ → (k x s1.t).Post P (XS I K W s0 H0) → Q x H1) : tGB I K W g σ H Q :=
  ⟨env, s, p.ok, re, (R.post_bind h).mono (fun x t hk s1 H1 e p1 => c x s1 H1 (p.trans p1) p1 (re.same p1.same) (by rw [e]; exact hk)) fun x t hx => xp_from p (hx σ)⟩
theorem st1L {g : Sm (List D)} {k : List D → Ts → R α} {Q : List V → Hp → Prop} (p : Po I K s0 H0 s H) (re : RE K (Hr I s H) env σ) (h : ((g env s.t).bind k).Post P (XS I K W s0 H0))
    (c : ∀ xs vs s1 H1, Po I K s0 H0 s1 H1 → Po I K s H s1 H1 → RE K (Hr I s1 H1) env σ → RpL K (Hr I s1 H1) xs vs → (k xs s1.t).Post P (XS I K W s0 H0) → Q vs H1) : tGL I K W g σ H Q :=
  ⟨env, s, p.ok, re, (R.post_bind h).mono (fun x t hk v s1 H1 e p1 r => c x v s1 H1 (p.trans p1) p1 (re.same p1.same) r (by rw [e]; exact hk)) fun x t hx => xp_from p (hx σ)⟩
theorem st1I {g : Sm Itb} {k : Itb → Ts → R α} {Q : It → Hp → Prop} (p : Po I K s0 H0 s H) (re : RE K (Hr I s H) env σ) (h : ((g env s.t).bind k).Post P (XS I K W s0 H0))
    (c : ∀ x J s1 H1, Po I K s0 H0 s1 H1 → Po I K s H s1 H1 → RE K (Hr I s1 H1) env σ → Wk I K J x s1 H1 → (k x s1.t).Post P (XS I K W s0 H0) → Q J H1) : tGI I K W g σ H Q :=
  ⟨env, s, p.ok, re, (R.post_bind h).mono (fun x t hk J s1 H1 e p1 wk => c x J s1 H1 (p.trans p1) p1 (re.same p1.same) wk (by rw [e]; exact hk)) fun x t hx => xp_from p (hx σ)⟩
end
def sAsg (g : D → Env → Option Env) (a : Sm D) : Sm Out := fun env t => (a env t).bind fun x t => (ofO (g x env) t).bind fun e1 t => .ok (.nx e1) t
def pAsg (g : D → Env → Option Env) (a : Pm D) : Pm Out := fun env => (a env).bind fun x => (g x env).map fun e1 => .nx e1
theorem lift_asg (g : D → Env → Option Env) (a : Pm D) : lift (pAsg g a) = sAsg g (lift a) := by
  funext env s
  unfold lift pAsg sAsg
  dsimp only
  cases a env with
  | none => rfl
  | some x =>
    simp only [Option.bind_some, ofO, R.bind]
    cases g x env <;> rfl
theorem tgs_asg {te : TE} {g : TG} {gg : D → Env → Option Env} {ga : Sm D} (he : ∀ σ H Q, tG I K W ga σ H Q → te σ H Q) (hg : EvG I K g gg) : ∀ Dn σ H, tGS I K W (sAsg gg ga) Dn σ H → tAsg te g Dn σ H := fun Dn σ H ⟨env, s, ok, re, h⟩ =>
  he _ _ _ (st1 (Po.refl ok) re h fun x v s1 H1 p1 _ re1 r1 h => by
    obtain ⟨e1, e, h⟩ := post_ofO (R.post_bind h)
    exact hg env s1 σ H1 x v e1 _ p1.ok re1 r1 e fun σ' re' => h σ' s1 H1 rfl p1 re')
theorem ds_asg {tg e : Expr} {g : D → Env → Option Env} {ga : Sm D} (h : DE I K W F e ga) (hg : DG I K F tg g) (hs : ∀ i, swapsWithSole [tg] e pos.line (F i).env = pure false := by exact fun _ => rfl) (hw : ∀ i, swappedStores [tg] e (F i).env = pure none := by exact fun _ => rfl)
    (h1 : ∀ i, (assignEach [tg] (F i).env).map (·.2) = [assign tg (F i).env] := by exact fun _ => rfl) : DS I K W F (.Assign [tg] e pos) (sAsg g ga) := by
  obtain ⟨tg, b1, b2⟩ := hg
  exact fun i => (ps_asg (h i) (b1 i) (hs i) (hw i) (h1 i)).imp (tgs_asg (fun _ _ _ q => q) b2)
theorem ds_setLc {y : Str} {py spos : Pos} {elt tg iter : Expr} {ifs : List Expr} {scope : Scope} (own : List (Str × Nat)) {gs : Sm Itb} {gg : D → Env → Option Env} {gt : Sm Bool} {ge : Sm D} (Wf : Fm P w K mg base k N F) (i : Nat)
    (ok : ∀ i, BlkOk (F i).N (F i).env.scope scope own) (hi : DI I K W F tg iter gs) (hg : DGv I K (blkF scope F) (own.map (·.2)) tg gg) (ht : DTs I K WF (blkF scope F) ifs gt) (he : DE I K WF (blkF scope F) elt ge)
    (hsw : ∀ j, swapsWith (.ListComp elt [⟨tg, iter, ifs, 0⟩] scope pos) (some (.Name y py)) spos.line (F j).env = pure true) (hy : ∀ j, (F j).N[i]? = some y := by exact fun _ => rfl) (hyl : ∀ j, (F j).env.scope.names.lookup y = some .local := by exact fun _ => rfl)
    (hs : ∀ i x, foldedSetIterable iter (F i).env x = pure x := by exact fun _ _ => rfl) : DS I K W F (.Assign [.Name y py] (.ListComp elt [⟨tg, iter, ifs, 0⟩] scope pos) spos) (sAsg (gN i) (sMk mLst (sLc gg (own.map (·.2)) gs gt ge))) := by
  obtain ⟨g, g1, g2, g3⟩ := hg
  exact fun j => (ps_setLc (Wf.calm j) (by rw [Wf.N j]; exact Wf.nd) (hy j) (hyl j) (hsw j) (hi j) (ok j) (fun s H C cl fp => g1 (j, s, H, C, cl, fp)) (fun s H C cl fp => ht (j, s, H, C, cl, fp)) (fun s H C cl fp => he (j, s, H, C, cl, fp)) (hs j)).imp
    (tgs_asg (tg_lc g2 g3) (evg_name i))
def sRet (a : Sm D) : Sm Out := fun env t => (a env t).bind fun x t => .ok (.rt x) t
def pRet (a : Pm D) : Pm Out := fun env => (a env).map fun x => .rt x
theorem lift_ret (a : Pm D) : lift (pRet a) = sRet (lift a) := by
  funext env s
  unfold lift pRet sRet
  dsimp only
  cases a env <;> rfl
theorem ds_ret {e : Expr} {g : Sm D} (h : DE I K W F e g) : DS I K W F (.Return (some e) pos) (sRet g) :=
  fun i => (ps_ret (h i)).imp fun Dn σ H ⟨env, s, ok, re, h⟩ => st1 (Po.refl ok) re h fun x v s1 H1 p1 _ _ r1 h => h v s1 H1 rfl p1 r1
theorem ds_retN : DS I K W F (.Return none pos) (sC (.rt (.d .none))) := fun i => ps_retN.imp fun Dn σ H ⟨env, s, ok, re, h⟩ => h .non s H rfl (Po.refl ok) .non
def sExp (a : Sm D) : Sm Out := fun env t => (a env t).bind fun _ t => .ok (.nx env) t
def pExp (a : Pm D) : Pm Out := fun env => (a env).map fun _ => .nx env
theorem lift_exp (a : Pm D) : lift (pExp a) = sExp (lift a) := by
  funext env s
  unfold lift pExp sExp
  dsimp only
  cases a env <;> rfl
theorem ds_exp {e : Expr} {g : Sm D} (h : DE I K W F e g) (hs : ∀ i, swapsWith e none pos.line (F i).env = pure false := by exact fun _ => rfl) : DS I K W F (.Expr e pos) (sExp g) :=
  fun i => (ps_expr (h i) (hs i)).imp fun Dn σ H ⟨env, s, ok, re, h⟩ => st1 (Po.refl ok) re h fun x v s1 H1 p1 _ re1 r1 h => h σ s1 H1 rfl p1 re1
def sNo {α : Type} : Sm α := fun _ _ => .no
def pNo {α : Type} : Pm α := fun _ => none
theorem lift_no {α : Type} : lift (pNo (α := α)) = sNo := rfl
theorem ds_never {st : Stmt} : DS I K W F st sNo := fun i => ps_never.imp fun Dn σ H ⟨env, s, ok, re, h⟩ => h.elim
theorem dss_never {st : List Stmt} : DSs I K W F st sNo := fun i => pss_never.imp fun Dn σ H ⟨env, s, ok, re, h⟩ => h.elim
theorem lastS {s0 s : St1} {H0 H : Hp} {σ : L2.St} {env : Env} {g : Sm Out} {Dn : Ends} (p : Po I K s0 H0 s H) (re : RE K (Hr I s H) env σ) (h : (g env s.t).Post (fun o t => Fin1 I K s0 H0 o t Dn) (fun x t => ∀ σ', XP I K W s0 σ' H0 x t)) : tGS I K W g Dn σ H :=
  ⟨env, s, p.ok, re, h.mono (fun o t hk => fin_from p hk) fun x t hx σ' => xp_from p (hx σ')⟩
theorem ds_if {c : Expr} {a b : List Stmt} {gc : Sm Bool} {ga gb : Sm Out} (hc : DT I K W F c gc) (ha : DSs I K W F a ga) (hb : DSs I K W F b gb) : DS I K W F (.If c a b pos) (sIf gc ga gb) :=
  fun i => (ps_if (hc i) (ha i) (hb i)).imp fun Dn σ H ⟨env, s, ok, re, h⟩ => st1B (Po.refl ok) re h fun x s1 H1 p1 _ re1 h => by
    cases x with
    | true => rw [if_pos rfl] at h ⊢; exact lastS p1 re1 h
    | false => rw [if_neg Bool.false_ne_true] at h ⊢; exact lastS p1 re1 h
def sNx : Sm Out := fun env t => .ok (.nx env) t
def pNx : Pm Out := fun env => some (.nx env)
theorem lift_nx : lift pNx = sNx := rfl
def sSeq (a b : Sm Out) : Sm Out := fun env t => (a env t).bind fun o t => match o with
  | .nx e1 => b e1 t
  | o => .ok o t
def pSeq (a b : Pm Out) : Pm Out := fun env => (a env).bind fun p => match p with
  | .nx e1 => b e1
  | o => some o
theorem lift_seq (a b : Pm Out) : lift (pSeq a b) = sSeq (lift a) (lift b) := by
  funext env s
  unfold lift pSeq sSeq
  dsimp only
  cases a env with
  | none => rfl
  | some o => cases o <;> rfl
theorem dss_nil : DSs I K W F [] sNx := fun i => pss_nil.imp fun Dn σ H ⟨env, s, ok, re, h⟩ => h σ s H rfl (Po.refl ok) re
theorem dss_one {st : Stmt} {g : Sm Out} (h : DS I K W F st g) : DSs I K W F [st] g := fun i => pss_one (h i)
theorem dss_cons {st : Stmt} {rest : List Stmt} {g gr : Sm Out} (h : DS I K W F st g) (hr : DSs I K W F rest gr) : DSs I K W F (st :: rest) (sSeq g gr) :=
  fun i => (pss_cons (h i) (hr i)).imp fun Dn σ H ⟨env, s, ok, re, h⟩ => ⟨env, s, ok, re, (R.post_bind h).mono (fun o t hk => by
    cases o with
    | nx en => exact fun σ' s1 H1 e p1 r1 => lastS p1 r1 (by rw [e]; exact hk)
    | rt d => exact hk
    | bk en => exact hk
    | ct en => exact hk) fun x t hx => hx⟩
def sBk : Sm Out := fun env t => .ok (.bk env) t
def sCt : Sm Out := fun env t => .ok (.ct env) t

/-! ### for -/
def goF (g : D → Env → Option Env) (body : Sm Out) : List D → Env → Ts → R Out
  | [], env, t => .ok (.nx env) t
  | x :: r, env, t => (ofO (g x env) t).bind fun e1 t => (body e1 t).bind fun o t => match o with
    | .nx e2 => goF g body r e2 t
    | .ct e2 => goF g body r e2 t
    | .bk e2 => .ok (.nx e2) t
    | .rt d => .ok (.rt d) t
def goFP (g : D → Env → Option Env) (body : Pm Out) : List D → Env → Option Out
  | [], env => some (.nx env)
  | x :: r, env => (g x env).bind fun e1 => (body e1).bind fun p => match p with
    | .nx e2 => goFP g body r e2
    | .ct e2 => goFP g body r e2
    | .bk e2 => some (.nx e2)
    | .rt d => some (.rt d)
def goFN (it : Itb) (g : D → Env → Option Env) (body : Sm Out) : Nat → Nat → Env → Ts → R Out
  | 0, i, env, t => match it.next i t with
    | some none => .ok (.nx env) t
    | _ => .no
  | m + 1, i, env, t => match it.next i t with
    | some none => .ok (.nx env) t
    | some (some x) => (ofO (g x env) t).bind fun e1 t => (body e1 t).bind fun o t => match o with
      | .nx e2 => goFN it g body m (i + 1) e2 t
      | .ct e2 => goFN it g body m (i + 1) e2 t
      | .bk e2 => .ok (.nx e2) t
      | .rt d => .ok (.rt d) t
    | none => .no
theorem goF_N {g : D → Env → Option Env} {body : Sm Out} {ds : List D} : ∀ (m i : Nat) (env : Env) (t : Ts), i + m = ds.length → goF g body (ds.drop i) env t = goFN (.st ds) g body m i env t
  | 0, i, env, t, h => by
    have e : ds[i]? = none := List.getElem?_eq_none (by omega)
    rw [List.drop_of_length_le (by omega)]
    show R.ok (Out.nx env) t = (match (some ds[i]? : Option (Option D)) with | some none => R.ok (Out.nx env) t | _ => R.no)
    rw [e]
  | m + 1, i, env, t, h => by
    obtain ⟨x, hx⟩ : ∃ x, ds[i]? = some x := ⟨ds[i]'(by omega), List.getElem?_eq_getElem (by omega)⟩
    rw [drop_get hx]
    have ih := fun e t => goF_N (g := g) (body := body) (ds := ds) m (i + 1) e t (by omega)
    show _ = (match (some ds[i]? : Option (Option D)) with
      | some none => R.ok (Out.nx env) t
      | some (some x) => (ofO (g x env) t).bind fun e1 t => (body e1 t).bind fun o t => (match o with
        | .nx e2 => goFN (.st ds) g body m (i + 1) e2 t
        | .ct e2 => goFN (.st ds) g body m (i + 1) e2 t
        | .bk e2 => .ok (.nx e2) t
        | .rt d => .ok (.rt d) t)
      | none => .no)
    rw [hx]
    dsimp only
    rw [goF]
    simp only [ih]
def goItF (it : Itb) (g : D → Env → Option Env) (body : Sm Out) (env : Env) (t : Ts) : R Out := match it with
  | .st ds => goF g body ds env t
  | .dy n p => goFN (.dy n p) g body (lenA n p t) 0 env t
theorem goItF_N {it : Itb} {g : D → Env → Option Env} {body : Sm Out} {env : Env} {t : Ts} : ∃ m, goItF it g body env t = goFN it g body m 0 env t := by
  cases it with
  | st ds => exact ⟨ds.length, goF_N ds.length 0 env t (by omega)⟩
  | dy n p => exact ⟨_, rfl⟩
def sFor (g : D → Env → Option Env) (src : Sm Itb) (body : Sm Out) : Sm Out := fun env t => (src env t).bind fun it t => goItF it g body env t
def pFor (g : D → Env → Option Env) (src : Pm (List D)) (body : Pm Out) : Pm Out := fun env => (src env).bind fun xs => goFP g body xs env
theorem goF_lift (g : D → Env → Option Env) (body : Pm Out) : ∀ (l : List D) (env : Env) (t : Ts), goF g (lift body) l env t = ofO (goFP g body l env) t
  | [], env, t => rfl
  | x :: r, env, t => by
    unfold goF goFP
    cases g x env with
    | none => rfl
    | some e1 =>
      simp only [ofO, R.bind, Option.bind_some, lift]
      cases body e1 with
      | none => rfl
      | some o =>
        cases o with
        | nx e2 => exact goF_lift g body r e2 t
        | ct e2 => exact goF_lift g body r e2 t
        | bk e2 => rfl
        | rt d => rfl
theorem lift_for (g : D → Env → Option Env) (src : Pm (List D)) (body : Pm Out) : lift (pFor g src body) = sFor g (liftI src) (lift body) := by
  funext env t
  unfold lift pFor sFor liftI
  cases src env with
  | none => rfl
  | some xs => exact (goF_lift g body xs env t).symm
theorem ds_for {tg iter : Expr} {body : List Stmt} {gs : Sm Itb} {gg : D → Env → Option Env} {gb : Sm Out} (Wf : Fm P w K mg base k N F) (hi : DI I K W F tg iter gs) (hg : DG I K F tg gg) (hb : DSs I K W F body gb)
    (hp : ∀ i, PassesOwn (model (F i).prog (F i).w) (F i).A (F i).env (F i).xe := by first | exact fun _ => PassesOwn.never | exact fun _ => passes_of rfl) (hs : ∀ i x, foldedSetIterable iter (F i).env x = pure x := by exact fun _ _ => rfl) : DS I K W F (.For tg iter body [] pos) (sFor gg gs gb) := by
  obtain ⟨g, g1, g2⟩ := hg
  refine fun i => (ps_for (hp i) (Wf.calm i) (hi i) (g1 i) (hb i) (hs i)).imp fun Dn σ H ⟨env, s, ok, re, h⟩ => st1I (Po.refl ok) re h fun it J s1 H1 p1 _ re1 wk h => ?_
  obtain ⟨m0, hm0⟩ := goItF_N (it := it) (g := gg) (body := gb) (env := env) (t := s1.t)
  rw [hm0] at h
  refine ⟨fun i m σ2 H2 => ∃ (en : Env) (s2 : St1), Po I K s H s2 H2 ∧ VLe (Hr I s1 H1) (Hr I s2 H2) ∧ RE K (Hr I s2 H2) en σ2 ∧ (goFN it gg gb m i en s2.t).Post (fun o t => Fin1 I K s H o t Dn) (XS I K W s H), ⟨m0, env, s1, p1, VLe.refl _, re1, h⟩, ?_⟩
  rintro i m σ2 H2 ⟨en, s2, p2, vl, re2, h2⟩
  have wki := wk s2 H2 p2.ok vl i
  have fin : it.next i s2.t = some none → Fin1 I K s H (.nx en) s2.t Dn → J.stop i H2 ∧ Dn.nx σ2 H2 := fun e hf => ⟨wki none e, hf σ2 s2 H2 rfl p2 re2⟩
  cases m with
  | zero =>
    have h2 : (match it.next i s2.t with | some none => R.ok (Out.nx en) s2.t | _ => .no).Post (fun o t => Fin1 I K s H o t Dn) (XS I K W s H) := h2
    split at h2
    · rename_i e
      exact .inl (fin e h2)
    · exact h2.elim
  | succ m =>
    have h2 : (match it.next i s2.t with
      | some none => R.ok (Out.nx en) s2.t
      | some (some x) => (ofO (gg x en) s2.t).bind fun e1 t => (gb e1 t).bind fun o t => (match o with
        | .nx e2 => goFN it gg gb m (i + 1) e2 t
        | .ct e2 => goFN it gg gb m (i + 1) e2 t
        | .bk e2 => .ok (.nx e2) t
        | .rt d => .ok (.rt d) t)
      | none => .no).Post (fun o t => Fin1 I K s H o t Dn) (XS I K W s H) := h2
    split at h2
    · rename_i e
      exact .inl (fin e h2)
    · rename_i x e
      right
      obtain ⟨go, yl⟩ := wki (some x) e
      refine ⟨go, fun σ3 H3 => ∃ (en : Env) (s2 : St1), Po I K s H s2 H3 ∧ VLe (Hr I s1 H1) (Hr I s2 H3) ∧ RE K (Hr I s2 H3) en σ3 ∧ (goFN it gg gb m (i + 1) en s2.t).Post (fun o t => Fin1 I K s H o t Dn) (XS I K W s H), fun σ3 H3 q => ⟨m, Nat.lt_succ_self _, q⟩, fun v H3 y => ?_⟩
      obtain ⟨y1, y3⟩ := yl v H3 y
      subst y1
      obtain ⟨en1, e3, h2⟩ := post_ofO (R.post_bind h2)
      refine g2 en s2 σ2 H3 x v en1 _ p2.ok re2 y3 e3 fun σ3 re3 => ?_
      refine ⟨en1, s2, p2.ok, re3, (R.post_bind h2).mono (fun o t ho => ?_) fun x t hx => xs_from p2 hx⟩
      cases o with
      | nx e5 => exact fun σ4 s4 H4 e4 p4 r4 => ⟨e5, s4, p2.trans p4, vl.trans p4.same, r4, by rw [e4]; exact ho⟩
      | ct e5 => exact fun σ4 s4 H4 e4 p4 r4 => ⟨e5, s4, p2.trans p4, vl.trans p4.same, r4, by rw [e4]; exact ho⟩
      | bk e5 => exact fun σ4 s4 H4 e4 p4 r4 => ho σ4 s4 H4 e4 (p2.trans p4) r4
      | rt d => exact fun v s4 H4 e4 p4 r4 => ho v s4 H4 e4 (p2.trans p4) r4
    · exact h2.elim

/-! ### while, += -/
def goW (c : Sm Bool) (body : Sm Out) : Nat → Env → Ts → R Out
  | 0, _, _ => .no
  | n + 1, env, t => (c env t).bind fun b t => if b = true then (body env t).bind fun o t => match o with
    | .nx e2 => goW c body n e2 t
    | .ct e2 => goW c body n e2 t
    | .bk e2 => .ok (.nx e2) t
    | .rt d => .ok (.rt d) t else .ok (.nx env) t
def goWP (c : Pm Bool) (body : Pm Out) : Nat → Env → Option Out
  | 0, _ => none
  | n + 1, env => (c env).bind fun p => if p = true then (body env).bind fun q => match q with
    | .nx e2 => goWP c body n e2
    | .ct e2 => goWP c body n e2
    | .bk e2 => some (.nx e2)
    | .rt d => some (.rt d) else some (.nx env)
theorem goW_lift (c : Pm Bool) (body : Pm Out) : ∀ (n : Nat) (env : Env) (t : Ts), goW (lift c) (lift body) n env t = ofO (goWP c body n env) t
  | 0, _, _ => rfl
  | n + 1, env, t => by
    unfold goW goWP lift
    cases c env with
    | none => rfl
    | some b =>
      cases b with
      | false => rfl
      | true =>
        simp only [ofO, R.bind, Option.bind_some, if_true]
        cases body env with
        | none => rfl
        | some o =>
          cases o with
          | nx e2 => exact goW_lift c body n e2 t
          | ct e2 => exact goW_lift c body n e2 t
          | bk e2 => rfl
          | rt d => rfl
def sWh (n : Nat) (c : Sm Bool) (body : Sm Out) : Sm Out := goW c body n
def pWh (n : Nat) (c : Pm Bool) (body : Pm Out) : Pm Out := goWP c body n
theorem lift_wh (n : Nat) (c : Pm Bool) (body : Pm Out) : lift (pWh n c body) = sWh n (lift c) (lift body) := by
  funext env s
  exact (goW_lift c body n env s).symm
theorem ds_while {c : Expr} {body : List Stmt} {gc : Sm Bool} {gb : Sm Out} (n : Nat) (hc : DT I K W F c gc) (hb : DSs I K W F body gb)
    (hp : ∀ i, PassesOwn (model (F i).prog (F i).w) (F i).A (F i).env (F i).xe := by first | exact fun _ => PassesOwn.never | exact fun _ => passes_of rfl) : DS I K W F (.While c body [] pos) (sWh n gc gb) := by
  refine fun i => (ps_while (hp i) (hc i) (hb i)).imp fun Dn σ H ⟨env, s, ok, re, h⟩ => ?_
  refine ⟨fun m σ2 H2 => ∃ (en : Env) (s2 : St1), Po I K s H s2 H2 ∧ RE K (Hr I s2 H2) en σ2 ∧ (goW gc gb m en s2.t).Post (fun o t => Fin1 I K s H o t Dn) (XS I K W s H), ⟨n, env, s, Po.refl ok, re, h⟩, ?_⟩
  rintro m σ2 H2 ⟨en, s2, p2, re2, h2⟩
  cases m with
  | zero => exact h2.elim
  | succ m =>
    refine st1B p2 re2 h2 fun b s3 H3 p3 _ re3 h3 => ?_
    cases b with
    | false =>
      rw [if_neg Bool.false_ne_true] at h3 ⊢
      exact h3 σ2 s3 H3 rfl p3 re3
    | true =>
      rw [if_pos rfl] at h3 ⊢
      refine ⟨fun σ4 H4 => ∃ (en : Env) (s2 : St1), Po I K s H s2 H4 ∧ RE K (Hr I s2 H4) en σ4 ∧ (goW gc gb m en s2.t).Post (fun o t => Fin1 I K s H o t Dn) (XS I K W s H), fun σ4 H4 q => ⟨m, Nat.lt_succ_self m, q⟩, ?_⟩
      refine ⟨en, s3, p3.ok, re3, (R.post_bind h3).mono (fun o t ho => ?_) fun x t hx => xs_from p3 hx⟩
      cases o with
      | nx e5 => exact fun σ4 s4 H4 e4 p4 r4 => ⟨e5, s4, p3.trans p4, r4, by rw [e4]; exact ho⟩
      | ct e5 => exact fun σ4 s4 H4 e4 p4 r4 => ⟨e5, s4, p3.trans p4, r4, by rw [e4]; exact ho⟩
      | bk e5 => exact fun σ4 s4 H4 e4 p4 r4 => ho σ4 s4 H4 e4 (p3.trans p4) r4
      | rt d => exact fun v s4 H4 e4 p4 r4 => ho v s4 H4 e4 (p3.trans p4) r4
def addI : D → D → Option D
  | .d (.int i), .d (.int j) => some (.d (.int (i + j)))
  | _, _ => none
def sAug (i : Nat) (a : Sm D) : Sm Out := fun env t => (sV i env t).bind fun q t => (a env t).bind fun p t => (ofO (addI q p) t).bind fun z t => .ok (.nx (env.set i (some z))) t
def pAug (i : Nat) (a : Pm D) : Pm Out := fun env => (pV i env).bind fun q => (a env).bind fun p => (addI q p).map fun z => .nx (env.set i (some z))
theorem lift_aug (i : Nat) (a : Pm D) : lift (pAug i a) = sAug i (lift a) := by
  funext env s
  unfold sAug
  rw [← lift_v]
  unfold lift pAug
  cases pV i env with
  | none => rfl
  | some x =>
    simp only [Option.bind_some, ofO, R.bind]
    cases a env with
    | none => rfl
    | some y =>
      simp only [Option.bind_some]
      cases addI x y <;> rfl
theorem ds_aug {x : Str} {e : Expr} {pos' : Pos} {g : Sm D} (Wf : Fm P w K mg base k N F) (i : Nat) (h : DE I K W F e g) (hN : ∀ j, (F j).N[i]? = some x := by exact fun _ => rfl) (hx : ∀ j, Loc (F j).env.scope x := by first | exact fun _ => Or.inl rfl | exact fun _ => Or.inr rfl)
    (hf : ∀ j, (F j).fn x = true ∨ (F j).env.scope.names.lookup x = some .local := by first | exact fun _ => Or.inl rfl | exact fun _ => Or.inr rfl) : DS I K W F (.AugAssign (.Name x pos') .Add e pos) (sAug i g) :=
  fun j => (ps_aug (by rw [Wf.N j]; exact Wf.nd) (hN j) (hx j) (h j) ip_add (hf j)).imp fun Dn σ H ⟨env, s, ok, re, h⟩ => by
    unfold sAug sV at h
    split at h
    · rename_i d hd
      obtain ⟨v, h1, h2⟩ := re.at_ i _ hd
      change ((g env s.t).bind _).Post _ _ at h
      refine ⟨v, h1, st1 (Po.refl ok) re h fun y u s1 H1 p1 q1 re1 r1 h => ?_⟩
      obtain ⟨z, e2, h⟩ := post_ofO (R.post_bind h)
      unfold addI at e2
      split at e2
      · cases e2
        cases h2
        cases r1
        exact ⟨_, _, rfl, rfl, h _ s1 H1 rfl p1 (re1.set (.int _))⟩
      · cases e2
    · exact h.elim

/-! ### a, b = x, y -/
def sPar2 (i j : Nat) (a : Sm (List D)) : Sm Out := fun env t => (a env t).bind fun p t => match p with
  | [x, y] => .ok (.nx ((env.set i (some x)).set j (some y))) t
  | _ => .no
def pPar2 (i j : Nat) (a : Pm (List D)) : Pm Out := fun env => (a env).bind fun p => match p with
  | [x, y] => some (.nx ((env.set i (some x)).set j (some y)))
  | _ => none
theorem lift_par2 (i j : Nat) (a : Pm (List D)) : lift (pPar2 i j a) = sPar2 i j (lift a) := by
  funext env s
  unfold lift pPar2 sPar2
  dsimp only
  cases a env with
  | none => rfl
  | some l =>
    simp only [Option.bind_some, ofO, R.bind]
    match l with
    | [] => rfl
    | [_] => rfl
    | [_, _] => rfl
    | _ :: _ :: _ :: _ => rfl
theorem ds_par2 {x y : Str} {a b : Expr} {px py pt : Pos} {kt k2 pt2} {g : Sm (List D)} (Wf : Fm P w K mg base k N F) (i j : Nat) (hij : i ≠ j) (h : DA I K W F [a, b] g)
    (hw : ∀ l, swappedStores [.Tuple [.Name x px, .Name y py] kt pt] (.Tuple [a, b] k2 pt2) (F l).env = pure (some [x, y])) (hi : ∀ l, (F l).N[i]? = some x := by exact fun _ => rfl) (hj : ∀ l, (F l).N[j]? = some y := by exact fun _ => rfl)
    (hx : ∀ l, (F l).env.scope.names.lookup x = some .local := by exact fun _ => rfl) (hy : ∀ l, (F l).env.scope.names.lookup y = some .local := by exact fun _ => rfl)
    (hs : ∀ l, swapsWithSole [.Tuple [.Name x px, .Name y py] kt pt] (.Tuple [a, b] k2 pt2) pos.line (F l).env = pure false := by exact fun _ => rfl) :
    DS I K W F (.Assign [.Tuple [.Name x px, .Name y py] kt pt] (.Tuple [a, b] k2 pt2) pos) (sPar2 i j g) :=
  fun l => (ps_par (Wf.calm l) (by rw [Wf.N l]; exact Wf.nd) (hi l) (hj l) hij (hx l) (hy l) (h l) (hw l) (hs l)).imp fun Dn σ H ⟨env, s, ok, re, h⟩ => st1L (Po.refl ok) re h fun xs vs s1 H1 p1 _ re1 r1 h => by
    split at h
    · cases r1 with
      | cons h1 h2 =>
        cases h2 with
        | cons h3 h4 =>
          cases h4
          exact ⟨_, _, rfl, h _ s1 H1 rfl p1 ((re1.set h1).set h3)⟩
    · exact h.elim
def sPar3 (i j l : Nat) (a : Sm (List D)) : Sm Out := fun env t => (a env t).bind fun p t => match p with
  | [x, y, z] => .ok (.nx (((env.set i (some x)).set j (some y)).set l (some z))) t
  | _ => .no
def pPar3 (i j l : Nat) (a : Pm (List D)) : Pm Out := fun env => (a env).bind fun p => match p with
  | [x, y, z] => some (.nx (((env.set i (some x)).set j (some y)).set l (some z)))
  | _ => none
theorem lift_par3 (i j l : Nat) (a : Pm (List D)) : lift (pPar3 i j l a) = sPar3 i j l (lift a) := by
  funext env s
  unfold lift pPar3 sPar3
  dsimp only
  cases a env with
  | none => rfl
  | some l =>
    simp only [Option.bind_some, ofO, R.bind]
    match l with
    | [] => rfl
    | [_] => rfl
    | [_, _] => rfl
    | [_, _, _] => rfl
    | _ :: _ :: _ :: _ :: _ => rfl
theorem ds_par3 {x y z : Str} {a b c : Expr} {px py pz pt : Pos} {kt k2 pt2} {g : Sm (List D)} (Wf : Fm P w K mg base k N F) (i j l : Nat) (hij : i ≠ j) (hil : i ≠ l) (hjl : j ≠ l) (h : DA I K W F [a, b, c] g)
    (hw : ∀ q, swappedStores [.Tuple [.Name x px, .Name y py, .Name z pz] kt pt] (.Tuple [a, b, c] k2 pt2) (F q).env = pure (some [x, y, z])) (hi : ∀ q, (F q).N[i]? = some x := by exact fun _ => rfl) (hj : ∀ q, (F q).N[j]? = some y := by exact fun _ => rfl) (hl : ∀ q, (F q).N[l]? = some z := by exact fun _ => rfl)
    (hx : ∀ l, (F l).env.scope.names.lookup x = some .local := by exact fun _ => rfl) (hy : ∀ l, (F l).env.scope.names.lookup y = some .local := by exact fun _ => rfl) (hz : ∀ l, (F l).env.scope.names.lookup z = some .local := by exact fun _ => rfl)
    (hs : ∀ q, swapsWithSole [.Tuple [.Name x px, .Name y py, .Name z pz] kt pt] (.Tuple [a, b, c] k2 pt2) pos.line (F q).env = pure false := by exact fun _ => rfl) :
    DS I K W F (.Assign [.Tuple [.Name x px, .Name y py, .Name z pz] kt pt] (.Tuple [a, b, c] k2 pt2) pos) (sPar3 i j l g) :=
  fun q => (ps_par3 (Wf.calm q) (by rw [Wf.N q]; exact Wf.nd) (hi q) (hj q) (hl q) hij hil hjl (hx q) (hy q) (hz q) (h q) (hw q) (hs q)).imp fun Dn σ H ⟨env, s, ok, re, h⟩ => st1L (Po.refl ok) re h fun xs vs s1 H1 p1 _ re1 r1 h => by
    split at h
    · cases r1 with
      | cons h1 h2 =>
        cases h2 with
        | cons h3 h4 =>
          cases h4 with
          | cons h5 h6 =>
            cases h6
            exact ⟨_, _, _, rfl, h _ s1 H1 rfl p1 (((re1.set h1).set h3).set h5)⟩
    · exact h.elim
end
end Dl
set_option maxRecDepth 100000
set_option maxHeartbeats 4000000
namespace Dl
open PySem L2

/-! ### [elt for a in xs for b in ys] -/
def goC2 (g : D → Env → Option Env) (env : Env) (tt : Sm Bool) (src1 : Sm Itb) (g1 : D → Env → Option Env) (vs1 : List Nat) (tt1 : Sm Bool) (el : Sm D) : List D → Ts → R (List D)
  | [], t => .ok [] t
  | x :: r, t => (ofO (g x env) t).bind fun e1 t => (tt e1 t).nox.bind fun b t => if b = true then (src1 e1 t).nox.bind fun it t => match it with
      | .st us => if us.length ≤ 1000 then (goC g1 (wipeE e1 vs1) tt1 el us t).bind fun z t => (goC2 g env tt src1 g1 vs1 tt1 el r t).bind fun y t => .ok (z ++ y) t else .no
      | .dy _ _ => .no
    else goC2 g env tt src1 g1 vs1 tt1 el r t
def goP2 (g : D → Env → Option Env) (env : Env) (tt : Pm Bool) (src1 : Pm (List D)) (g1 : D → Env → Option Env) (vs1 : List Nat) (tt1 : Pm Bool) (el : Pm D) : List D → Option (List D)
  | [] => some []
  | x :: r => (g x env).bind fun e1 => (tt e1).bind fun p => if p = true then (src1 e1).bind fun q => if q.length ≤ 1000 then (goP g1 (wipeE e1 vs1) tt1 el q).bind fun z => (goP2 g env tt src1 g1 vs1 tt1 el r).map fun y => z ++ y else none
    else goP2 g env tt src1 g1 vs1 tt1 el r
theorem goC2_lift (g : D → Env → Option Env) (env : Env) (tt : Pm Bool) (src1 : Pm (List D)) (g1 : D → Env → Option Env) (vs1 : List Nat) (tt1 : Pm Bool) (el : Pm D) :
    ∀ (l : List D) (t : Ts), goC2 g env (lift tt) (liftI src1) g1 vs1 (lift tt1) (lift el) l t = ofO (goP2 g env tt src1 g1 vs1 tt1 el l) t
  | [], t => rfl
  | x :: r, t => by
    have ih := goC2_lift g env tt src1 g1 vs1 tt1 el r t
    unfold goC2 goP2
    cases g x env with
    | none => rfl
    | some e1 =>
      simp only [ofO, R.bind, Option.bind_some, lift]
      cases tt e1 with
      | none => rfl
      | some b =>
        cases b with
        | false => simpa [ofO, R.bind, R.nox, lift] using ih
        | true =>
          simp only [ofO, R.bind, R.nox, Option.bind_some, if_true, liftI]
          cases src1 e1 with
          | none => rfl
          | some xs =>
            simp only [Option.bind_some]
            by_cases c : xs.length ≤ 1000
            · rw [if_pos c, if_pos c]
              rw [goC_lift g1 (wipeE e1 vs1) tt1 el xs t]
              cases goP g1 (wipeE e1 vs1) tt1 el xs with
              | none => rfl
              | some ys =>
                simp only [Option.bind_some, ofO]
                rw [ih]
                cases goP2 g env tt src1 g1 vs1 tt1 el r <;> rfl
            · rw [if_neg c, if_neg c]
def sLc2 (g : D → Env → Option Env) (vs : List Nat) (src : Sm Itb) (tt : Sm Bool) (src1 : Sm Itb) (g1 : D → Env → Option Env) (vs1 : List Nat) (tt1 : Sm Bool) (el : Sm D) : Sm (List D) := fun env t => (src env t).bind fun it t => match it with
  | .st xs => if xs.length ≤ 1000 then goC2 g (wipeE env vs) tt src1 g1 vs1 tt1 el xs t else .no
  | .dy _ _ => .no
def pLc2 (g : D → Env → Option Env) (vs : List Nat) (src : Pm (List D)) (tt : Pm Bool) (src1 : Pm (List D)) (g1 : D → Env → Option Env) (vs1 : List Nat) (tt1 : Pm Bool) (el : Pm D) : Pm (List D) := fun env => (src env).bind fun xs => if xs.length ≤ 1000 then goP2 g (wipeE env vs) tt src1 g1 vs1 tt1 el xs else none
theorem lift_lc2 (g : D → Env → Option Env) (vs : List Nat) (src : Pm (List D)) (tt : Pm Bool) (src1 : Pm (List D)) (g1 : D → Env → Option Env) (vs1 : List Nat) (tt1 : Pm Bool) (el : Pm D) :
    lift (pLc2 g vs src tt src1 g1 vs1 tt1 el) = sLc2 g vs (liftI src) (lift tt) (liftI src1) g1 vs1 (lift tt1) (lift el) := by
  funext env t
  show ofO ((src env).bind fun xs => if xs.length ≤ 1000 then goP2 g (wipeE env vs) tt src1 g1 vs1 tt1 el xs else none) t = ((ofO (src env) t).bind fun ds t => R.ok (Itb.st ds) t).bind _
  cases src env with
  | none => rfl
  | some xs =>
    simp only [Option.bind_some, ofO, R.bind]
    by_cases c : xs.length ≤ 1000
    · rw [if_pos c, if_pos c, goC2_lift]; rfl
    · rw [if_neg c, if_neg c]
section
variable {ι : Type} {P : Program} {w : World} {K : PySem.W.Frag} {mg : Str → Option Value} {base : Heap} {k : Nat} {N : List Str} {F : ι → Cx} {I : SI} {W : WX} {pos : Pos}
theorem tg_lc2 {g g1 : TG} {vs vs1 : List Nat} {gs gs1 : Sm Itb} {gg gg1 : D → Env → Option Env} {gt gt1 : Sm Bool} {ge : Sm D} (hg : EvG I K g gg) (hs : Str1 g vs) (hg1 : EvG I K g1 gg1) (hs1 : Str1 g1 vs1) :
    ∀ σ H Q, tG I K W (sMk mLst (sLc2 gg vs gs gt gs1 gg1 vs1 gt1 ge)) σ H Q → tLc2 (tGI I K W gs) g (tGB I K WF gt) (tGI I K WF gs1) g1 (tGB I K WF gt1) (tG I K WF ge) vs vs1 σ H Q := fun σ H Q ⟨env, s, ok, re, h⟩ => by
  have h : ((gs env s.t).bind fun it t => (match it with
      | .st xs => if xs.length ≤ 1000 then goC2 gg (wipeE env vs) gt gs1 gg1 vs1 gt1 ge xs t else .no
      | .dy _ _ => .no : R (List D)).bind fun xs t => ofO (mLst xs) t).Post (fun d t => ∀ v s' H', s'.t = t → Po I K s H s' H' → Rp K (Hr I s' H') d v → Q v H') (XP I K W s σ H) := by
    unfold sMk sLc2 at h
    cases q : gs env s.t with
    | no => rw [q] at h; exact h
    | ok a t => rw [q] at h; exact h
    | ex x t => rw [q] at h; exact h
  refine stepI (Po.refl ok) re h fun it J s1 H1 p1 _ wk h => ?_
  cases it with
  | dy n p => exact h.elim
  | st xs =>
    have h : ((if xs.length ≤ 1000 then goC2 gg (wipeE env vs) gt gs1 gg1 vs1 gt1 ge xs s1.t else .no : R (List D)).bind fun xs t => ofO (mLst xs) t).Post (fun d t => ∀ v s' H', s'.t = t → Po I K s H s' H' → Rp K (Hr I s' H') d v → Q v H') (XP I K W s σ H) := h
    by_cases c : xs.length ≤ 1000
    · rw [if_pos c] at h
      intro L hL
      have re1 := re.same p1.same
      have ok1 := p1.ok
      have zL := ok_zL ok1 hL
      have ldl : ∀ xs, Ld (.lst xs) := fun xs => .inl ⟨xs, rfl⟩
      obtain ⟨Pr, hPr⟩ : ∃ Pr : List D → Ts → Prop, Pr = fun ys t => (ofO (mLst ys) t).Post (fun d t => ∀ v s' H', s'.t = t → Po I K s H s' H' → Rp K (Hr I s' H') d v → Q v H') (XP I K W s σ H) := ⟨_, rfl⟩
      have h := R.post_bind h
      rw [← hPr] at h
      refine ⟨fun i m H2 => m = xs.length - i ∧ i ≤ xs.length ∧ ∃ (s3 : St1) (acc : List V) (dn : List D), Gro I K L s1 H1 (.lst acc) s3 H2 ∧ RpL K (Hr I s3 H2) dn acc ∧ acc.length ≤ i * 1000 ∧
        (goC2 gg (wipeE env vs) gt gs1 gg1 vs1 gt1 ge (xs.drop i) s3.t).Post (fun ys t => Pr (dn ++ ys) t) (XP I K W s σ H), ⟨_, rfl, Nat.zero_le _, s1.zz (upd s1.Z L (.lst [])), [], [], Gro.start ok1 hL (ldl _), .nil, Nat.zero_le _, h⟩, ?_⟩
      rintro i m H2 ⟨rfl, hi', s3, acc, dn, gr, ra, hal, h3⟩
      have wki := wk s3 H2 gr.ok gr.sm i
      by_cases hlt : i < xs.length
      · right
        obtain ⟨x, hx⟩ : ∃ x, xs[i]? = some x := ⟨xs[i], List.getElem?_eq_getElem hlt⟩
        obtain ⟨go, yl⟩ := wki (some x) (by show some xs[i]? = _; rw [hx])
        refine ⟨go, fun H' => i + 1 ≤ xs.length ∧ ∃ (s3 : St1) (acc : List V) (dn : List D), Gro I K L s1 H1 (.lst acc) s3 H' ∧ RpL K (Hr I s3 H') dn acc ∧ acc.length ≤ (i + 1) * 1000 ∧
          (goC2 gg (wipeE env vs) gt gs1 gg1 vs1 gt1 ge (xs.drop (i + 1)) s3.t).Post (fun ys t => Pr (dn ++ ys) t) (XP I K W s σ H), fun H' q => ⟨xs.length - (i + 1), by omega, rfl, q⟩, fun v H3 y => ?_⟩
        obtain ⟨y1, y3⟩ := yl v H3 y
        subst y1
        rw [drop_get hx] at h3
        unfold goC2 at h3
        obtain ⟨en, e6, h3⟩ := post_ofO (R.post_bind h3)
        have rw1 := re_wipe (re1.same gr.sm) vs
        refine hs v (wipe σ vs) H3 _ _ (fun σ2 H2 w2 q => ⟨w2.trans (wipe_wipe σ vs), q⟩) (hg (wipeE env vs) s3 (wipe σ vs) H3 x v en _ gr.ok rw1 y3 e6 fun σ2 re2 => ?_)
        refine ⟨en, s3, gr.ok, re2, (nox_post h3).mono (fun b t hb s4 H4 e4 p4 => ?_) fun _ _ f => f.elim⟩
        subst e4
        have gr4 := gr.step p4 hL zL
        cases b with
        | false =>
          rw [if_neg Bool.false_ne_true] at hb ⊢
          exact ⟨hlt, s4, acc, dn, gr4, rpl_same p4.same ra, by omega, hb⟩
        | true =>
          rw [if_pos rfl] at hb ⊢
          refine ⟨en, s4, p4.ok, re2.same p4.same, (nox_post hb).mono (fun it t hi J1 s5 H5 e5 p5 wk1 => ?_) fun _ _ f => f.elim⟩
          subst e5
          cases it with
          | dy n p => exact hi.elim
          | st us =>
            have hi : (if us.length ≤ 1000 then (goC gg1 (wipeE en vs1) gt1 ge us s5.t).bind fun z t => (goC2 gg (wipeE env vs) gt gs1 gg1 vs1 gt1 ge (xs.drop (i + 1)) t).bind fun y t => .ok (z ++ y) t else .no : R (List D)).Post (fun ys t => Pr (dn ++ ys) t) (XP I K W s σ H) := hi
            by_cases cu : us.length ≤ 1000
            · rw [if_pos cu] at hi
              have gr5 := gr4.step p5 hL zL
              have re5 := (re2.same p4.same).same p5.same
              refine ⟨fun j n H6 => n = us.length - j ∧ j ≤ us.length ∧ ∃ (s8 : St1) (acc2 : List V) (dn2 : List D), Gro I K L s1 H1 (.lst acc2) s8 H6 ∧ VLe (Hr I s5 H5) (Hr I s8 H6) ∧ RpL K (Hr I s8 H6) (dn ++ dn2) acc2 ∧ acc2.length ≤ acc.length + j ∧
                (goC gg1 (wipeE en vs1) gt1 ge (us.drop j) s8.t).Post (fun zs t => (goC2 gg (wipeE env vs) gt gs1 gg1 vs1 gt1 ge (xs.drop (i + 1)) t).Post (fun ys t => Pr (dn ++ (dn2 ++ zs) ++ ys) t) (XP I K W s σ H)) (XP I K W s σ H),
                ⟨_, rfl, Nat.zero_le _, s5, acc, [], gr5, VLe.refl _, by rw [List.append_nil]; exact rpl_same p5.same (rpl_same p4.same ra), Nat.le_refl _, (R.post_bind hi).mono (fun zs t hz => (R.post_bind hz).mono (fun ys t q => by rw [List.nil_append, List.append_assoc]; exact q) fun _ _ q => q) fun _ _ q => q⟩, ?_⟩
              rintro j n H6 ⟨rfl, hj', s8, acc2, dn2, gr8, sm8, ra8, hal8, h8⟩
              have wkj := wk1 s8 H6 gr8.ok sm8 j
              by_cases hlt2 : j < us.length
              · right
                obtain ⟨u, hu⟩ : ∃ u, us[j]? = some u := ⟨us[j], List.getElem?_eq_getElem hlt2⟩
                obtain ⟨go1, yl1⟩ := wkj (some u) (by show some us[j]? = _; rw [hu])
                refine ⟨go1, fun H' => j + 1 ≤ us.length ∧ ∃ (s8 : St1) (acc2 : List V) (dn2 : List D), Gro I K L s1 H1 (.lst acc2) s8 H' ∧ VLe (Hr I s5 H5) (Hr I s8 H') ∧ RpL K (Hr I s8 H') (dn ++ dn2) acc2 ∧ acc2.length ≤ acc.length + (j + 1) ∧
                  (goC gg1 (wipeE en vs1) gt1 ge (us.drop (j + 1)) s8.t).Post (fun zs t => (goC2 gg (wipeE env vs) gt gs1 gg1 vs1 gt1 ge (xs.drop (i + 1)) t).Post (fun ys t => Pr (dn ++ (dn2 ++ zs) ++ ys) t) (XP I K W s σ H)) (XP I K W s σ H), fun H' q => ⟨us.length - (j + 1), by omega, rfl, q⟩, fun v2 H7 y => ?_⟩
                obtain ⟨z1, z3⟩ := yl1 v2 H7 y
                subst z1
                rw [drop_get hu] at h8
                unfold goC at h8
                obtain ⟨en1, f6, h8⟩ := post_ofO (R.post_bind h8)
                have rw2 := re_wipe (re5.same sm8) vs1
                refine hs1 v2 (wipe σ2 vs1) H7 _ _ (fun σ3 H2 w2 q => ⟨w2.trans (wipe_wipe σ2 vs1), q⟩) (hg1 (wipeE en vs1) s8 (wipe σ2 vs1) H7 u v2 en1 _ gr8.ok rw2 z3 f6 fun σ3 re3 => ?_)
                refine ⟨en1, s8, gr8.ok, re3, (nox_post h8).mono (fun b t hb s9 H8 e9 p8 => ?_) fun _ _ f => f.elim⟩
                subst e9
                have gr9 := gr8.step p8 hL zL
                cases b with
                | false =>
                  rw [if_neg Bool.false_ne_true] at hb ⊢
                  exact ⟨hlt2, s9, acc2, dn2, gr9, sm8.trans p8.same, rpl_same p8.same ra8, by omega, hb⟩
                | true =>
                  rw [if_pos rfl] at hb ⊢
                  refine ⟨en1, s9, p8.ok, re3.same p8.same, (nox_post hb).mono (fun yd t hy yv s10 H10 e10 p10 r10 => ?_) fun _ _ f => f.elim⟩
                  subst e10
                  have gr10 := gr9.step p10 hL zL
                  refine ⟨acc2, gr10.at_, Nat.lt_of_le_of_lt (show acc2.length ≤ 1001000 by have : i * 1000 ≤ 1000 * 1000 := Nat.mul_le_mul_right 1000 (by omega); omega) (by decide), hlt2, s10.zz (upd s1.Z L (.lst (acc2 ++ [yv]))), acc2 ++ [yv], dn2 ++ [yd], gr10.put hL zL (ldl _), sm8.trans (p8.same.trans (p10.same.trans gr10.psm)), ?_, by rw [List.length_append]; show acc2.length + 1 ≤ _; omega, ?_⟩
                  · rw [← List.append_assoc]
                    exact rpl_app (rpl_same (p8.same.trans (p10.same.trans gr10.psm)) ra8) (.cons (rp_same gr10.psm r10) .nil)
                  · refine (R.post_bind hy).mono (fun zs t q => ?_) fun _ _ q => q
                    have e : dn2 ++ [yd] ++ zs = dn2 ++ (yd :: zs) := by rw [List.append_assoc]; rfl
                    rw [e]
                    exact q
              · left
                have ej : j = us.length := by omega
                subst ej
                refine ⟨wkj none (by show some us[us.length]? = _; rw [List.getElem?_eq_none (Nat.le_refl _)]), hlt, s8, acc2, dn ++ dn2, gr8, ra8, by omega, ?_⟩
                rw [List.drop_of_length_le (Nat.le_refl _)] at h8
                have h8 : (goC2 gg (wipeE env vs) gt gs1 gg1 vs1 gt1 ge (xs.drop (i + 1)) s8.t).Post (fun ys t => Pr (dn ++ (dn2 ++ []) ++ ys) t) (XP I K W s σ H) := h8
                rw [List.append_nil] at h8
                exact h8
            · rw [if_neg cu] at hi; exact hi.elim
      · left
        have ei : i = xs.length := by omega
        subst ei
        refine ⟨wki none (by show some xs[xs.length]? = _; rw [List.getElem?_eq_none (Nat.le_refl _)]), ?_⟩
        rw [List.drop_of_length_le (Nat.le_refl _)] at h3
        have h3 : Pr (dn ++ []) s3.t := h3
        rw [List.append_nil, hPr] at h3
        obtain ⟨z, e, hp⟩ := post_ofO h3
        exact hp (.ref L) (s3.zz s1.Z) H2 rfl (p1.trans gr.po) (lc_end ok1 hL gr ra e)
    · rw [if_neg c] at h; exact h.elim
theorem de_lc2 {elt tg iter tg1 iter1 : Expr} {ifs ifs1 : List Expr} {scope : Scope} (own : List (Str × Nat)) (vs1 : List Nat) {gs gs1 : Sm Itb} {gg gg1 : D → Env → Option Env} {gt gt1 : Sm Bool} {ge : Sm D} (Wf : Fm P w K mg base k N F)
    (ok : ∀ i, BlkOk (F i).N (F i).env.scope scope own) (hv : ∀ i ∈ vs1, i ∈ own.map (·.2)) (hi : DI I K W F tg iter gs) (hg : DGv I K (blkF scope F) (own.map (·.2)) tg gg) (ht : DTs I K WF (blkF scope F) ifs gt)
    (hi1 : DI I K WF (blkF scope F) tg1 iter1 gs1) (hg1 : DGv I K (blkF scope F) vs1 tg1 gg1) (ht1 : DTs I K WF (blkF scope F) ifs1 gt1) (he : DE I K WF (blkF scope F) elt ge)
    (hs : ∀ i x, foldedSetIterable iter (F i).env x = pure x := by exact fun _ _ => rfl) (hs1 : ∀ env x, foldedSetIterable iter1 env x = pure x := by exact fun _ _ => rfl) :
    DE I K W F (.ListComp elt [⟨tg, iter, ifs, 0⟩, ⟨tg1, iter1, ifs1, 0⟩] scope pos) (sMk mLst (sLc2 gg (own.map (·.2)) gs gt gs1 gg1 vs1 gt1 ge)) := by
  obtain ⟨g, g1, g2, g3⟩ := hg
  obtain ⟨gq, q1, q2, q3⟩ := hg1
  exact fun i => (pe_lc2 (Wf.calm i) (by rw [Wf.N i]; exact Wf.nd) (hi i) (ok i) hv (fun s H C cl fp => g1 (i, s, H, C, cl, fp)) (fun s H C cl fp => ht (i, s, H, C, cl, fp)) (fun s H C cl fp => hi1 (i, s, H, C, cl, fp))
    (fun s H C cl fp => q1 (i, s, H, C, cl, fp)) (fun s H C cl fp => ht1 (i, s, H, C, cl, fp)) (fun s H C cl fp => he (i, s, H, C, cl, fp)) (hs i) hs1).imp (tg_lc2 g2 g3 q2 q3)
theorem ds_setLc2 {y : Str} {py spos : Pos} {elt tg iter tg1 iter1 : Expr} {ifs ifs1 : List Expr} {scope : Scope} (own : List (Str × Nat)) (vs1 : List Nat) {gs gs1 : Sm Itb} {gg gg1 : D → Env → Option Env} {gt gt1 : Sm Bool} {ge : Sm D} (Wf : Fm P w K mg base k N F) (i : Nat)
    (ok : ∀ i, BlkOk (F i).N (F i).env.scope scope own) (hv : ∀ i ∈ vs1, i ∈ own.map (·.2)) (hi : DI I K W F tg iter gs) (hg : DGv I K (blkF scope F) (own.map (·.2)) tg gg) (ht : DTs I K WF (blkF scope F) ifs gt)
    (hi1 : DI I K WF (blkF scope F) tg1 iter1 gs1) (hg1 : DGv I K (blkF scope F) vs1 tg1 gg1) (ht1 : DTs I K WF (blkF scope F) ifs1 gt1) (he : DE I K WF (blkF scope F) elt ge)
    (hsw : ∀ j, swapsWith (.ListComp elt [⟨tg, iter, ifs, 0⟩, ⟨tg1, iter1, ifs1, 0⟩] scope pos) (some (.Name y py)) spos.line (F j).env = pure true) (hy : ∀ j, (F j).N[i]? = some y := by exact fun _ => rfl) (hyl : ∀ j, (F j).env.scope.names.lookup y = some .local := by exact fun _ => rfl)
    (hs : ∀ i x, foldedSetIterable iter (F i).env x = pure x := by exact fun _ _ => rfl) (hs1 : ∀ env x, foldedSetIterable iter1 env x = pure x := by exact fun _ _ => rfl) :
    DS I K W F (.Assign [.Name y py] (.ListComp elt [⟨tg, iter, ifs, 0⟩, ⟨tg1, iter1, ifs1, 0⟩] scope pos) spos) (sAsg (gN i) (sMk mLst (sLc2 gg (own.map (·.2)) gs gt gs1 gg1 vs1 gt1 ge))) := by
  obtain ⟨g, g1, g2, g3⟩ := hg
  obtain ⟨gq, q1, q2, q3⟩ := hg1
  exact fun j => (ps_setLc2 (Wf.calm j) (by rw [Wf.N j]; exact Wf.nd) (hy j) (hyl j) (hsw j) (hi j) (ok j) hv (fun s H C cl fp => g1 (j, s, H, C, cl, fp)) (fun s H C cl fp => ht (j, s, H, C, cl, fp)) (fun s H C cl fp => hi1 (j, s, H, C, cl, fp))
    (fun s H C cl fp => q1 (j, s, H, C, cl, fp)) (fun s H C cl fp => ht1 (j, s, H, C, cl, fp)) (fun s H C cl fp => he (j, s, H, C, cl, fp)) (hs j) hs1).imp (tgs_asg (tg_lc2 g2 g3 q2 q3) (evg_name i))
end
end Dl
set_option maxRecDepth 100000
set_option maxHeartbeats 4000000
namespace Dl
open PySem L2

/-! ### keys and values side by side -/
section
variable {κ : Type} [DecidableEq κ]
def kix (z : κ) : List κ → Option Nat
  | [] => none
  | y :: r => if y = z then some 0 else (kix z r).map (· + 1)
theorem kix_cons {z y : κ} {r : List κ} : kix z (y :: r) = if y = z then some 0 else (kix z r).map (· + 1) := rfl
theorem idx_some {z : κ} : ∀ {ys : List κ} {j : Nat}, kix z ys = some j → ys[j]? = some z ∧ ∀ m, m < j → ys[m]? ≠ some z
  | [], j, h => by cases h
  | y :: r, j, h => by
    rw [kix_cons] at h
    by_cases c : y = z
    · rw [if_pos c] at h
      cases h
      have e : y = z := by simpa using c
      subst e
      exact ⟨rfl, fun m hm => absurd hm (Nat.not_lt_zero _)⟩
    · rw [if_neg c] at h
      cases q : kix z r with
      | none => rw [q] at h; cases h
      | some i =>
        rw [q] at h
        have h : some (i + 1) = some j := h
        cases h
        obtain ⟨h1, h2⟩ := idx_some q
        refine ⟨by simpa using h1, fun m hm hy => ?_⟩
        cases m with
        | zero =>
          simp at hy
          subst hy
          simp at c
        | succ m => exact h2 m (by omega) (by simpa using hy)
theorem idx_none {z : κ} : ∀ {ys : List κ}, kix z ys = none → ¬ z ∈ ys
  | [], _ => by simp
  | y :: r, h => by
    rw [kix_cons] at h
    by_cases c : y = z
    · rw [if_pos c] at h; cases h
    · rw [if_neg c] at h
      have h : kix z r = none := by
        cases q : kix z r with
        | none => rfl
        | some i => rw [q] at h; cases h
      intro hm
      rcases List.mem_cons.mp hm with e | e
      · exact c (by simp [e])
      · exact idx_none h e
theorem zip_val {z : κ} {v : V} : ∀ {ys : List κ} {vs : List V} {j : Nat}, kix z ys = some j → vs[j]? = some v → valV (ys.zip vs) z = some v
  | [], _, j, h, _ => by cases h
  | _ :: _, [], _, _, e => by simp at e
  | y :: r, u :: us, j, h, e => by
    rw [kix_cons] at h
    by_cases c : y = z
    · rw [if_pos c] at h
      cases h
      have e2 : y = z := by simpa using c
      subst e2
      simp at e
      subst e
      unfold valV
      rw [List.zip_cons_cons, List.find?_cons_of_pos (by simp)]
      rfl
    · rw [if_neg c] at h
      cases q : kix z r with
      | none => rw [q] at h; cases h
      | some i =>
        rw [q] at h
        have h : some (i + 1) = some j := h
        cases h
        have ih := zip_val (vs := us) q (by simpa using e)
        unfold valV at ih ⊢
        rw [List.zip_cons_cons, List.find?_cons_of_neg (by simpa using c)]
        exact ih
theorem zip_none {z : κ} {ys : List κ} {vs : List V} (h : ¬ z ∈ ys) : valV (ys.zip vs) z = none := by
  induction ys generalizing vs with
  | nil => rfl
  | cons y r ih =>
    cases vs with
    | nil => rfl
    | cons u us =>
      unfold valV at ih ⊢
      rw [List.zip_cons_cons, List.find?_cons_of_neg (by simp; exact fun e => h (by rw [e]; exact List.mem_cons_self))]
      exact ih fun hm => h (List.mem_cons_of_mem _ hm)
def setA {α : Type} (ts : List α) (j : Nat) (u : α) : List α := if j < ts.length then ts.set j u else ts ++ [u]
theorem zip_any {z : κ} {ys : List κ} {vs : List V} (hl : ys.length = vs.length) : ((ys.zip vs).any fun p => decide (p.1 = z)) = decide (z ∈ ys) := by
  induction ys generalizing vs with
  | nil => rfl
  | cons y r ih =>
    cases vs with
    | nil => cases hl
    | cons u us =>
      rw [List.zip_cons_cons, List.any_cons, ih (by simpa using hl)]
      by_cases c : y = z
      · subst c; simp
      · have : ¬ z = y := fun e => c e.symm
        simp [c, this]
theorem zip_put {z : κ} {ys : List κ} {vs : List V} {j : Nat} {v : V} (nd : ys.Nodup) (hl : ys.length = vs.length) (h : kix z ys = some j) : putK (ys.zip vs) z v = ys.zip (vs.set j v) := by
  have hm : z ∈ ys := List.mem_of_getElem? (idx_some h).1
  unfold putK
  rw [if_pos (by rw [zip_any hl]; exact decide_eq_true hm)]
  have e : ∀ {ys : List κ} {vs : List V} {j : Nat}, ys.Nodup → ys.length = vs.length → kix z ys = some j → (ys.zip vs).map (fun p => if p.1 = z then (p.1, v) else p) = ys.zip (vs.set j v) := by
    intro ys
    induction ys with
    | nil => intro vs j _ _ h; cases h
    | cons y r ih =>
      intro vs j nd hl h
      cases vs with
      | nil => cases hl
      | cons u us =>
        rw [kix_cons] at h
        obtain ⟨n1, n2⟩ := List.nodup_cons.mp nd
        by_cases c : y = z
        · rw [if_pos c] at h
          cases h
          have e2 : y = z := by simpa using c
          subst e2
          rw [List.zip_cons_cons, List.map_cons, if_pos rfl, List.set_cons_zero, List.zip_cons_cons]
          congr 1
          have : ∀ p ∈ r.zip us, (if p.1 = y then (p.1, v) else p) = p := fun p hp => if_neg fun e => n1 (by rw [← e]; exact (List.of_mem_zip hp).1)
          rw [List.map_congr_left this, List.map_id']
        · rw [if_neg c] at h
          cases q : kix z r with
          | none => rw [q] at h; cases h
          | some i =>
            rw [q] at h
            have h : some (i + 1) = some j := h
            cases h
            rw [List.zip_cons_cons, List.map_cons, if_neg (by simpa using c), List.set_cons_succ, List.zip_cons_cons, ih n2 (by simpa using hl) q]
  first | exact e nd hl h | (simp only [e nd hl h])
theorem zip_new {z : κ} {ys : List κ} {vs : List V} {v : V} (hl : ys.length = vs.length) (h : ¬ z ∈ ys) : putK (ys.zip vs) z v = (ys ++ [z]).zip (vs ++ [v]) := by
  unfold putK
  rw [if_neg (by rw [zip_any hl]; simpa using h), List.zip_append hl]
  rfl
end
theorem zip_look {z : Str} {v : V} : ∀ {ys : List Str} {vs : List V} {j : Nat}, kix z ys = some j → vs[j]? = some v → (ys.zip vs).lookup z = some v
  | [], _, j, h, _ => by cases h
  | _ :: _, [], _, _, e => by simp at e
  | y :: r, u :: us, j, h, e => by
    rw [kix_cons] at h
    by_cases c : y = z
    · rw [if_pos c] at h
      cases h
      have e2 : y = z := by simpa using c
      subst e2
      simp at e
      subst e
      rw [List.zip_cons_cons, List.lookup_cons]
      simp
    · rw [if_neg c] at h
      cases q : kix z r with
      | none => rw [q] at h; cases h
      | some i =>
        rw [q] at h
        have h : some (i + 1) = some j := h
        cases h
        have ih := zip_look (vs := us) q (by simpa using e)
        rw [List.zip_cons_cons, List.lookup_cons]
        have c2 : (z == y) = false := by
          cases q2 : z == y with
          | false => rfl
          | true => exact absurd (by have : z = y := by simpa using q2
                                     exact this.symm) c
        rw [c2]
        exact ih
theorem zip_lookN {z : Str} {ys : List Str} {vs : List V} (h : ¬ z ∈ ys) : (ys.zip vs).lookup z = none := by
  induction ys generalizing vs with
  | nil => rfl
  | cons y r ih =>
    cases vs with
    | nil => rfl
    | cons u us =>
      have c2 : (z == y) = false := by
        cases q2 : z == y with
        | false => rfl
        | true => exact absurd (by have : z = y := by simpa using q2
                                   rw [this]; exact List.mem_cons_self) h
      rw [List.zip_cons_cons, List.lookup_cons, c2]
      exact ih fun hm => h (List.mem_cons_of_mem _ hm)
theorem putF_at {z : Str} {v : V} : ∀ {ys : List Str} {vs : List V} {j : Nat}, ys.Nodup → ys.length = vs.length → kix z ys = some j → putF z v (ys.zip vs) = ys.zip (vs.set j v)
  | [], _, j, _, _, h => by cases h
  | _ :: _, [], _, _, hl, _ => by cases hl
  | y :: r, u :: us, j, nd, hl, h => by
    rw [kix_cons] at h
    obtain ⟨n1, n2⟩ := List.nodup_cons.mp nd
    by_cases c : y = z
    · rw [if_pos c] at h
      cases h
      have e2 : y = z := by simpa using c
      subst e2
      rw [List.zip_cons_cons, putF]
      simp
    · rw [if_neg c] at h
      cases q : kix z r with
      | none => rw [q] at h; cases h
      | some i =>
        rw [q] at h
        have h : some (i + 1) = some j := h
        cases h
        have ih := putF_at (v := v) n2 (by simpa using hl) q
        have c' : ¬ y = z := by simpa using c
        rw [List.zip_cons_cons, putF]
        simp [c', ih]
theorem putF_new {z : Str} {v : V} : ∀ {ys : List Str} {vs : List V}, ys.length = vs.length → ¬ z ∈ ys → putF z v (ys.zip vs) = (ys ++ [z]).zip (vs ++ [v])
  | [], [], _, _ => rfl
  | [], _ :: _, hl, _ => by cases hl
  | _ :: _, [], hl, _ => by cases hl
  | y :: r, u :: us, hl, h => by
    have ih := putF_new (v := v) (by simpa using hl : r.length = us.length) fun hm => h (List.mem_cons_of_mem _ hm)
    have c' : ¬ y = z := fun e => h (by rw [e]; exact List.mem_cons_self)
    rw [List.zip_cons_cons, putF]
    simp [c', ih]
end Dl
set_option maxRecDepth 100000
set_option maxHeartbeats 4000000
namespace Dl
open PySem L2

/-! ### an object's place j is stored: data, or a whole tree that goes there -/
def nd? : Option Tr → Bool
  | some (.nd _ _) => true
  | _ => false
def putCh (t : Ts) (n : Nat) (p : Pth) (k : Kd) (ts : List Tr) : Option Ts := match t[n]? with
  | some (some T) => (T.put p (.nd k ts)).map fun T' => t.set n (some T')
  | _ => none
/-- mv: the tree y itself goes there -/
def stc (t : Ts) (n : Nat) (p : Pth) (k : Kd) (ts : List Tr) (j : Nat) (mv : Bool) (y : D) : Option Ts :=
  if nd? ts[j]? = true then none else
  if mv = true then match y with
    | .r m [] => if m = n then none else match t[m]? with
      | some (some (.nd km tm)) => (putCh t n p k (setA ts j (.nd km tm))).map fun t => t.set m none
      | _ => none
    | _ => none
  else if top y = 0 then putCh t n p k (setA ts j (.v y)) else none
section
variable {I : SI} {K : PySem.W.Frag} {s : St1} {H : Hp}
theorem putCh_some {t t' : Ts} {n : Nat} {p : Pth} {k : Kd} {ts : List Tr} (h : putCh t n p k ts = some t') : ∃ T T', t[n]? = some (some T) ∧ T.put p (.nd k ts) = some T' ∧ t' = t.set n (some T') := by
  unfold putCh at h
  split at h
  · rename_i T e
    cases q : T.put p (.nd k ts) with
    | none => rw [q] at h; cases h
    | some T' => rw [q] at h; cases h; exact ⟨T, T', e, q, rfl⟩
  · cases h
theorem setA_get {α : Type} {ts : List α} {j : Nat} {u : α} (hj : j ≤ ts.length) : (setA ts j u)[j]? = some u := by
  unfold setA
  by_cases c : j < ts.length
  · rw [if_pos c, List.getElem?_set_self c]
  · have : j = ts.length := by omega
    subst this
    rw [if_neg c, List.getElem?_append_right (Nat.le_refl _), Nat.sub_self]
    rfl
theorem setA_ne {α : Type} {ts : List α} {i j : Nat} {u : α} (hj : j ≤ ts.length) (h : i ≠ j) : (setA ts j u)[i]? = ts[i]? := by
  unfold setA
  by_cases c : j < ts.length
  · rw [if_pos c, List.getElem?_set_ne (fun e => h e.symm)]
  · have : j = ts.length := by omega
    subst this
    rw [if_neg c]
    by_cases c2 : i < ts.length
    · rw [List.getElem?_append_left c2]
    · rw [List.getElem?_append_right (by omega), List.getElem?_eq_none (by simp; omega), List.getElem?_eq_none (by omega)]
theorem setA_set {α : Type} {ts : List α} {j : Nat} {u w : α} (hj : j ≤ ts.length) : (setA ts j u).set j w = setA ts j w := by
  unfold setA
  by_cases c : j < ts.length
  · rw [if_pos c, if_pos c, List.set_set]
  · have : j = ts.length := by omega
    subst this
    rw [if_neg c, if_neg c, List.set_append_right _ _ (Nat.le_refl _), Nat.sub_self]
    rfl
theorem chs_setA {vw : Vw} {n : Nat} {p : Pth} {u : Tr} {v : V} (hu : ∀ i, Ch K vw n p i u v) : ∀ {i j : Nat} {ts : List Tr} {vs : List V}, Chs K vw n p i ts vs → j ≤ ts.length → Chs K vw n p i (setA ts j u) (setA vs j v) := by
  intro i j ts vs h
  induction h generalizing j with
  | nil =>
    intro hj
    have : j = 0 := by simpa using hj
    subst this
    exact .cons (hu _) .nil
  | @cons i t ts w ws h r ih =>
    intro hj
    cases j with
    | zero =>
      unfold setA
      rw [if_pos (by simp), if_pos (by simp)]
      exact .cons (hu _) r
    | succ j =>
      have e : ∀ {α : Type} (a : α) (l : List α) (u : α), setA (a :: l) (j + 1) u = a :: setA l j u := by
        intro α a l u
        unfold setA
        by_cases c : j < l.length
        · rw [if_pos (by simpa using c), if_pos c]; rfl
        · rw [if_neg (by simpa using c), if_neg c]; rfl
      rw [e, e]
      exact .cons h (ih (by simpa using hj))
theorem stc_sound {t' : Ts} {n : Nat} {p : Pth} {k k' : Kd} {ts : List Tr} {j : Nat} {mv : Bool} {y : D} {v : V} {a dx : Addr} {vs : List V} {o : HO} (ok : I.ok K s H) (g : getT s.t n p = some (.nd k ts)) (hw : s.w n p = some (a, dx)) (hc : Chs K (Hr I s H) n p 0 ts vs)
    (hj : j ≤ ts.length) (hi : k'.isIns = k.isIns) (r : Rp K (Hr I s H) y v) (h : stc s.t n p k' ts j mv y = some t') (hh : Holds I.mg (upd H a o) a dx (setA vs j v) k') : ∃ s', s'.t = t' ∧ Po I K s H s' (upd H a o) := by
  unfold stc at h
  by_cases c0 : nd? ts[j]? = true
  · rw [if_pos c0] at h; cases h
  · rw [if_neg c0] at h
    have hv : ∀ t, ts[j]? = some t → isNd t = false := fun t e => by
      cases t with
      | v d => rfl
      | nd _ _ => rw [e] at c0; exact absurd rfl c0
    cases mv with
    | false =>
      rw [if_neg Bool.false_ne_true] at h
      by_cases c : top y = 0
      · rw [if_pos c] at h
        obtain ⟨T, T', h1, h2, rfl⟩ := putCh_some h
        have h3 : T.get p = some (.nd k ts) := by rw [← getT_of h1]; exact g
        refine ⟨_, rfl, po_put ok h1 h3 h2 (fun i t ht => ?_) hi hw hh (chs_setA (u := .v y) (fun i => ⟨r, c⟩) hc hj)⟩
        by_cases ci : i = j
        · subst ci
          rw [setA_get hj]
          constructor
          · intro e; cases e; cases ht
          · intro e; rw [hv t e] at ht; cases ht
        · rw [setA_ne hj ci]
      · rw [if_neg c] at h; cases h
    | true =>
      rw [if_pos rfl] at h
      split at h
      · rename_i m
        by_cases cm : m = n
        · rw [if_pos cm] at h; cases h
        · rw [if_neg cm] at h
          split at h
          · rename_i km tm hm
            cases q : putCh s.t n p k' (setA ts j (.nd km tm)) with
            | none => rw [q] at h; cases h
            | some t1 =>
              rw [q] at h
              cases h
              obtain ⟨T, T', h1, h2, rfl⟩ := putCh_some q
              have h3 : T.get p = some (.nd k ts) := by rw [← getT_of h1]; exact g
              obtain ⟨am, rfl, hwm⟩ := r
              have hwm : (s.w m []).map (·.1) = some am := hwm
              cases qm : s.w m [] with
              | none => rw [qm] at hwm; cases hwm
              | some x =>
                obtain ⟨am', dm⟩ := x
                rw [qm] at hwm
                cases hwm
                refine ⟨_, rfl, po_att ok h1 h3 cm hm qm h2 (setA_get hj) hv (fun i t hij ht => by rw [setA_ne hj hij]) hi hw hh ?_⟩
                rw [setA_set hj]
                exact chs_setA (u := .v (.o (.ref _))) (fun i => ⟨rfl, rfl⟩) hc hj
          · cases h
      · cases h
end

/-! ### targets that change the trees -/
def tGT (I : SI) (K : PySem.W.Frag) (W : WX) (g : D → Env → Ts → R Env) : TG := fun v σ H Q => ∃ env s d, I.ok K s H ∧ RE K (Hr I s H) env σ ∧ Rp K (Hr I s H) d v ∧
  (g d env s.t).Post (fun env' t => ∀ σ' s' H', s'.t = t → Po I K s H s' H' → RE K (Hr I s' H') env' σ' → Q σ' H') (XS I K W s H)
def tGTs (I : SI) (K : PySem.W.Frag) (W : WX) (g : List D → Env → Ts → R Env) : TGs := fun vs σ H Q => ∃ env s ds, I.ok K s H ∧ RE K (Hr I s H) env σ ∧ RpL K (Hr I s H) ds vs ∧
  (g ds env s.t).Post (fun env' t => ∀ σ' s' H', s'.t = t → Po I K s H s' H' → RE K (Hr I s' H') env' σ' → Q σ' H') (XS I K W s H)
theorem _root_.L2.PG.imp {X : Cx} {e : Expr} {t t' : TG} (h : PG X e t) (k : ∀ v σ H Q, t' v σ H Q → t v σ H Q) : PG X e t' := ⟨fun pins s σ H v u Q I r q => h.run pins s σ H v u Q I r (k v σ H Q q)⟩
theorem _root_.L2.PGs.imp {X : Cx} {e : List Expr} {t t' : TGs} (h : PGs X e t) (k : ∀ v σ H Q, t' v σ H Q → t v σ H Q) : PGs X e t' := ⟨fun pins s σ H v u Q I r q => h.run pins s σ H v u Q I r (k v σ H Q q)⟩
section
variable {ι : Type} {P : Program} {w : World} {K : PySem.W.Frag} {mg : Str → Option Value} {base : Heap} {k : Nat} {N : List Str} {F : ι → Cx} {I : SI} {W : WX} {pos : Pos}
def DGS (I : SI) (K : PySem.W.Frag) (W : WX) (F : ι → Cx) (e : Expr) (g : D → Env → Ts → R Env) : Prop := ∀ i, PG (F i) e (tGT I K W g)
def DGSs (I : SI) (K : PySem.W.Frag) (W : WX) (F : ι → Cx) (es : List Expr) (g : List D → Env → Ts → R Env) : Prop := ∀ i, PGs (F i) es (tGTs I K W g)
def gL (g : D → Env → Option Env) : D → Env → Ts → R Env := fun d env t => ofO (g d env) t
theorem dgS_of {e : Expr} {g : D → Env → Option Env} (h : DG I K F e g) : DGS I K W F e (gL g) := by
  obtain ⟨t, h1, h2⟩ := h
  exact fun i => (h1 i).imp fun v σ H Q ⟨env, s, d, ok, re, r, h⟩ => by
    obtain ⟨e1, e, h⟩ := post_ofO h
    exact h2 env s σ H d v e1 Q ok re r e fun σ' re' => h σ' s H rfl (Po.refl ok) re'
def gSE : List D → Env → Ts → R Env := fun ds env t => if ds.isEmpty = true then .ok env t else .no
def gSC (g : D → Env → Ts → R Env) (gs : List D → Env → Ts → R Env) : List D → Env → Ts → R Env
  | d :: ds, env, t => (g d env t).bind fun e1 t => gs ds e1 t
  | [], _, _ => .no
theorem dgSs_nil : DGSs I K W F [] gSE := fun i => pgs_nil.imp fun vs σ H Q ⟨env, s, ds, ok, re, r, h⟩ => by
  cases r with
  | nil => exact ⟨rfl, h σ s H rfl (Po.refl ok) re⟩
  | cons _ _ => exact h.elim
theorem dgSs_cons {e : Expr} {es : List Expr} {g : D → Env → Ts → R Env} {gs : List D → Env → Ts → R Env} (h : DGS I K W F e g) (hs : DGSs I K W F es gs)
    (ha : ∀ i, (assignEach (e :: es) (F i).env).map (·.2) = assign e (F i).env :: (assignEach es (F i).env).map (·.2) := by exact fun _ => rfl) : DGSs I K W F (e :: es) (gSC g gs) :=
  fun i => (pgs_cons (h i) (hs i) (ha i)).imp fun vs σ H Q ⟨env, s, ds, ok, re, r, h⟩ => by
    cases r with
    | nil => exact h.elim
    | cons r1 r2 =>
      refine ⟨_, _, rfl, env, s, _, ok, re, r1, (R.post_bind h).mono (fun e1 t q σ1 s1 H1 e p1 re1 => ?_) fun x t q => q⟩
      subst e
      exact ⟨e1, s1, _, p1.ok, re1, rpl_same p1.same r2, q.mono (fun e2 t q σ' s' H' e p2 re2 => q σ' s' H' e (p1.trans p2) re2) fun x t q => xs_from p1 q⟩
def gST (n : Nat) (gs : List D → Env → Ts → R Env) : D → Env → Ts → R Env := fun d env t => match d with
  | .d (.tuple xs) => if xs.length = n then gs (xs.map D.d) env t else .no
  | .tp xs => if xs.length = n then gs xs env t else .no
  | _ => .no
theorem dgS_tup {es : List Expr} {n kk : Nat} {gs : List D → Env → Ts → R Env} (Wf : Fm P w K mg base k N F) (hs : DGSs I K W F es gs) (hn : ∀ i, (assignEach es (F i).env).length = n := by exact fun _ => rfl) (hst : ∀ i, (assignEach es (F i).env).findIdx? (·.1) = none := by exact fun _ => rfl) :
    DGS I K W F (.Tuple es kk pos) (gST n gs) := fun i => by
  have hh := pg_tup (pos := pos) (k := kk) (Wf.calm i) (hs i) (hn i) (hst i)
  rw [Wf.K i] at hh
  refine hh.imp fun v σ H Q ⟨env, s, d, ok, re, r, h⟩ => ?_
  unfold gST at h
  split at h
  · rename_i xs
    by_cases c : xs.length = n
    · rw [if_pos c] at h
      cases r with
      | tup h1 h2 => exact ⟨_, _, rfl, SqT.of (hr_sub _ _ h1), (dpa_len h2).trans c, env, s, _, ok, re, rpl_of h2, h⟩
    · rw [if_neg c] at h; exact h.elim
  · rename_i xs
    by_cases c : xs.length = n
    · rw [if_pos c] at h
      obtain ⟨a, us, rfl, h1, h2⟩ := r
      exact ⟨_, _, rfl, SqT.of (hr_sub _ _ h1), (rpl_len (rpl_ofA h2)).trans c, env, s, _, ok, re, rpl_ofA h2, h⟩
    · rw [if_neg c] at h; exact h.elim
  · exact h.elim
def sAsgS (g : D → Env → Ts → R Env) (a : Sm D) : Sm Out := fun env t => (a env t).bind fun x t => (g x env t).bind fun e1 t => .ok (.nx e1) t
theorem ds_asgS {tg e : Expr} {g : D → Env → Ts → R Env} {ga : Sm D} (h : DE I K W F e ga) (hg : DGS I K W F tg g) (hs : ∀ i, swapsWithSole [tg] e pos.line (F i).env = pure false := by exact fun _ => rfl) (hw : ∀ i, swappedStores [tg] e (F i).env = pure none := by exact fun _ => rfl)
    (h1 : ∀ i, (assignEach [tg] (F i).env).map (·.2) = [assign tg (F i).env] := by exact fun _ => rfl) : DS I K W F (.Assign [tg] e pos) (sAsgS g ga) :=
  fun i => (ps_asg (h i) (hg i) (hs i) (hw i) (h1 i)).imp fun Dn σ H ⟨env, s, ok, re, h⟩ => st1 (Po.refl ok) re h fun x v s1 H1 p1 _ re1 r1 h =>
    ⟨env, s1, x, p1.ok, re1, r1, (R.post_bind h).mono (fun e1 t q σ' s' H' e p2 re2 => q σ' s' H' e (p1.trans p2) re2) fun x t q => xs_from p1 q⟩

/-! ### attributes of instances -/
/-- f is a plain attribute for the class c -/
def FldOk (K : PySem.W.Frag) (mg : Str → Option Value) (c f : Str) : Prop := ∃ C, mg c = some (.ref C) ∧ Cls K C ∧ NoAttr K C f
def getF (cs : List Str) (f : Str) (x : D) (t : Ts) : Option D := match x with
  | .r n p => match getT t n p with
    | some (.nd (.ins c ks) ts) => if cs.contains c = true then (kix f ks).bind fun j => (ts[j]?).map (chD n p j) else none
    | _ => none
  | _ => none
def sFld (cs : List Str) (f : Str) (a : Sm D) : Sm D := fun env t => (a env t).bind fun x t => ofO (getF cs f x t) t
theorem getF_at {cs : List Str} {f : Str} {x d : D} {v : V} {s : St1} {H : Hp} (im : I.mg = mg) (hf : ∀ c ∈ cs, FldOk K mg c f) (ok : I.ok K s H) (r : Rp K (Hr I s H) x v) (h : getF cs f x s.t = some d) :
    ∃ a C dx fs u, v = .ref a ∧ H a = some (.ins C dx fs) ∧ Cls K C ∧ NoAttr K C f ∧ fs.lookup f = some u ∧ Rp K (Hr I s H) d u := by
  unfold getF at h
  split at h
  · rename_i n p
    split at h
    · rename_i c ks ts g
      by_cases cc : cs.contains c = true
      · rw [if_pos cc] at h
        cases q : kix f ks with
        | none => rw [q] at h; cases h
        | some j =>
          rw [q] at h
          have h : (ts[j]?).map (chD n p j) = some d := h
          cases q2 : ts[j]? with
          | none => rw [q2] at h; cases h
          | some u =>
            rw [q2] at h
            cases h
            obtain ⟨a, dx, vs, rfl, w1, c1, hd1⟩ := node_at ok r g
            obtain ⟨h1, h2, C, h3, h4, h5⟩ := hd1
            obtain ⟨C', m1, m2, m3⟩ := hf c (by simpa using cc)
            rw [← im, h3] at m1
            cases m1
            obtain ⟨v, g1, g2⟩ := chs_get c1 q2
            rw [Nat.zero_add] at g2
            exact ⟨a, C, dx, _, v, rfl, h4, m2, m3, zip_look q g1, ch_rp g2⟩
      · rw [if_neg cc] at h; cases h
    · cases h
  · cases h
theorem de_fld {e : Expr} {f : Str} {cs : List Str} {g : Sm D} (Wf : Fm P w K mg base k N F) (im : I.mg = mg) (hf : ∀ c ∈ cs, FldOk K mg c f) (he : DE I K W F e g) (hb : ∀ i, attributeBase e f (F i).env (eval e (F i).env) = eval e (F i).env := by exact fun _ => rfl) :
    DE I K W F (.Attribute e f pos) (sFld cs f g) := fun i => by
  have hh := pe_fld (pos := pos) (he i) (hb i)
  rw [Wf.K i] at hh
  refine hh.imp fun σ H Q ⟨env, s, ok, re, h⟩ => step (Po.refl ok) re h fun x v s1 H1 p1 _ r1 h => ?_
  obtain ⟨d, e, h⟩ := post_ofO h
  obtain ⟨a, C, dx, fs, u, h1, h2, h3, h4, h5, h6⟩ := getF_at im hf p1.ok r1 e
  exact ⟨a, C, dx, fs, u, h1, h2, h3, h4, h5, h u s1 H1 rfl p1 h6⟩
def setF (cs : List Str) (f : Str) (mv : Bool) (x y : D) (t : Ts) : Option Ts := match x with
  | .r n p => match getT t n p with
    | some (.nd (.ins c ks) ts) => if cs.contains c = true ∧ ts.length < 900 then match kix f ks with
        | some j => stc t n p (.ins c ks) ts j mv y
        | none => stc t n p (.ins c (ks ++ [f])) ts ts.length mv y
      else none
    | _ => none
  | _ => none
theorem nodup_snoc {α : Type} {l : List α} {x : α} (h : l.Nodup) (n : ¬ x ∈ l) : (l ++ [x]).Nodup := by
  rw [List.nodup_append]
  refine ⟨h, List.nodup_cons.mpr ⟨by simp, List.nodup_nil⟩, fun a ha b hb e => ?_⟩
  rw [List.mem_singleton] at hb
  subst hb
  subst e
  exact n ha
theorem setF_at {cs : List Str} {f : Str} {mv : Bool} {x y : D} {v u : V} {s : St1} {H : Hp} {t' : Ts} (im : I.mg = mg) (hf : ∀ c ∈ cs, FldOk K mg c f) (ok : I.ok K s H) (r : Rp K (Hr I s H) x v) (ry : Rp K (Hr I s H) y u) (h : setF cs f mv x y s.t = some t') :
    ∃ a C dx fs, v = .ref a ∧ H a = some (.ins C dx fs) ∧ Cls K C ∧ NoAttr K C f ∧ fs.length < 1000 ∧ ∃ s', s'.t = t' ∧ Po I K s H s' (upd H a (.ins C dx (putF f u fs))) := by
  unfold setF at h
  split at h
  · rename_i n p
    split at h
    · rename_i c ks ts g
      by_cases cc : cs.contains c = true ∧ ts.length < 900
      · rw [if_pos cc] at h
        obtain ⟨cc, cl⟩ := cc
        obtain ⟨a, dx, vs, rfl, w1, c1, hd1⟩ := node_at ok r g
        have hl := chs_len c1
        obtain ⟨h1, h2, C, h3, h4, h5⟩ := hd1
        have ne : dx ≠ a := fun e => by rw [e, h4] at h5; cases h5
        obtain ⟨C', m1, m2, m3⟩ := hf c (by simpa using cc)
        rw [← im, h3] at m1
        cases m1
        have hlen : (ks.zip vs).length < 1000 := by rw [List.length_zip, h1, hl]; omega
        split at h
        · rename_i j q
          have hj : j < ks.length := (List.getElem?_eq_some_iff.mp (idx_some q).1).1
          have e1 : putF f u (ks.zip vs) = ks.zip (vs.set j u) := putF_at h2 h1 q
          refine ⟨a, C, dx, _, rfl, h4, m2, m3, hlen, stc_sound ok g w1 c1 (by omega) rfl ry h ⟨?_, h2, C, h3, ?_, ?_⟩⟩
          · unfold setA; rw [if_pos (by omega), List.length_set]; exact h1
          · rw [upd_same, e1]; unfold setA; rw [if_pos (by omega)]
          · rw [upd_ne ne]; exact h5
        · rename_i q
          have e1 : putF f u (ks.zip vs) = (ks ++ [f]).zip (vs ++ [u]) := putF_new h1 (idx_none q)
          refine ⟨a, C, dx, _, rfl, h4, m2, m3, hlen, stc_sound (k' := .ins c (ks ++ [f])) ok g w1 c1 (Nat.le_refl _) rfl ry h ⟨?_, nodup_snoc h2 (idx_none q), C, h3, ?_, ?_⟩⟩
          · unfold setA; rw [if_neg (by omega), List.length_append, List.length_append, h1]; rfl
          · rw [upd_same, e1]; unfold setA; rw [if_neg (by omega)]
          · rw [upd_ne ne]; exact h5
      · rw [if_neg cc] at h; cases h
    · cases h
  · cases h
def sFldSet (cs : List Str) (f : Str) (mv : Bool) (o v : Sm D) : Sm Out := fun env t => (v env t).bind fun y t => (o env t).bind fun x t => (ofO (setF cs f mv x y t) t).bind fun t' _ => .ok (.nx env) t'
theorem ds_fld {o e : Expr} {f : Str} {pos' : Pos} {cs : List Str} {go gv : Sm D} (mv : Bool) (Wf : Fm P w K mg base k N F) (im : I.mg = mg) (hf : ∀ c ∈ cs, FldOk K mg c f) (ho : DE I K W F o go) (hv : DE I K W F e gv)
    (hs : ∀ i, swapsWith e (some (.Attribute o f pos')) pos.line (F i).env = pure false := by exact fun _ => rfl) : DS I K W F (.Assign [.Attribute o f pos'] e pos) (sFldSet cs f mv go gv) := fun i => by
  have hh := ps_fld (ho i) (hv i) (hs i)
  rw [Wf.K i] at hh
  refine hh.imp fun Dn σ H ⟨env, s, ok, re, h⟩ => st1 (Po.refl ok) re h fun y u s1 H1 p1 _ re1 ry h => st1 p1 re1 h fun x v s2 H2 p2 q2 re2 r h => ?_
  obtain ⟨t', e, h⟩ := post_ofO (R.post_bind h)
  obtain ⟨a, C, dx, fs, h1, h2, h3, h4, h5, s', h6, h7⟩ := setF_at im hf p2.ok r (rp_same q2.same ry) e
  exact ⟨a, C, dx, fs, h1, h2, h3, h4, h5, h σ s' _ h6 (p2.trans h7) (re2.same h7.same)⟩
/-- o.f as one of several targets -/
def gFld (K : PySem.W.Frag) (ta : TE) (f : Str) : TG := fun v σ H Q => ta σ H fun x H1 => ∃ a C dx fs, x = .ref a ∧ H1 a = some (.ins C dx fs) ∧ Cls K C ∧ NoAttr K C f ∧ fs.length < 1000 ∧ Q σ (upd H1 a (.ins C dx (putF f v fs)))
theorem pg_fld {X : Cx} {o : Expr} {f : Str} {ta : TE} (ho : PE X o ta) : PG X (.Attribute o f pos) (gFld X.K ta f) := by
  refine ⟨fun pins s σ H v u Q I r h => ?_⟩
  refine PySem.W.kas_attr (thn (ho.run pins s σ H _ I h) fun ov s2 ⟨x, H2, I2, rx, a, C, dx, fs, ex, ea, c, n, l, q2⟩ => ?_)
  subst ex
  obtain rfl : ov = Value.ref a := rx
  exact setattr_ok I2 ea c n l r fun s3 I3 => ⟨σ, _, I3, q2⟩
def gSF (cs : List Str) (f : Str) (mv : Bool) (o : Sm D) : D → Env → Ts → R Env := fun y env t => (o env t).bind fun x t => (ofO (setF cs f mv x y t) t).bind fun t' _ => .ok env t'
theorem dgS_fld {o : Expr} {f : Str} {cs : List Str} {go : Sm D} (mv : Bool) (Wf : Fm P w K mg base k N F) (im : I.mg = mg) (hf : ∀ c ∈ cs, FldOk K mg c f) (ho : DE I K W F o go) : DGS I K W F (.Attribute o f pos) (gSF cs f mv go) := fun i => by
  have hh := pg_fld (pos := pos) (f := f) (ho i)
  rw [Wf.K i] at hh
  refine hh.imp fun u σ H Q ⟨env, s, y, ok, re, ry, h⟩ => st1 (Po.refl ok) re h fun x v s2 H2 p2 q2 re2 r h => ?_
  obtain ⟨t', e, h⟩ := post_ofO (R.post_bind h)
  obtain ⟨a, C, dx, fs, h1, h2, h3, h4, h5, s', h6, h7⟩ := setF_at im hf p2.ok r (rp_same q2.same ry) e
  exact ⟨a, C, dx, fs, h1, h2, h3, h4, h5, h σ s' _ h6 (p2.trans h7) (re2.same h7.same)⟩
/-- o.f += a written number -/
def sFldAdd (cs : List Str) (f : Str) (z : Int) (o : Sm D) : Sm Out := fun env t => (o env t).bind fun x t => (ofO ((getF cs f x t).bind fun d => addI d (.d (.int z))) t).bind fun d t => (ofO (setF cs f false x d t) t).bind fun t' _ => .ok (.nx env) t'
theorem ds_fldadd {o : Expr} {f : Str} {tpos p1 : Pos} {j : Nat} {z : Int} {cs : List Str} {go : Sm D} (Wf : Fm P w K mg base k N F) (im : I.mg = mg) (hf : ∀ c ∈ cs, FldOk K mg c f) (ho : DE I K W F o go) :
    DS I K W F (.AugAssign (.Attribute o f tpos) .Add (.Constant (.int z) j p1) pos) (sFldAdd cs f z go) := fun i => by
  have hh := ps_fldaug (pos := pos) (tpos := tpos) (f := f) (ho i) (pe_int (i := z) (j := j) (pos := p1)) in_add
  rw [Wf.K i] at hh
  refine hh.imp fun Dn σ H ⟨env, s, ok, re, h⟩ => st1 (Po.refl ok) re h fun x v s1 H1 p1 _ re1 r h => ?_
  obtain ⟨d, e, h⟩ := post_ofO (R.post_bind h)
  cases e1 : getF cs f x s1.t with
  | none => rw [e1] at e; cases e
  | some d0 =>
    rw [e1] at e
    have e : addI d0 (.d (.int z)) = some d := e
    obtain ⟨a, C, dx, fs, u, h1, h2, h3, h4, h5, h6⟩ := getF_at im hf p1.ok r e1
    refine ⟨a, C, dx, fs, u, h1, h2, h3, h4, h5, ?_⟩
    obtain ⟨t', e3, h9⟩ := post_ofO (R.post_bind h)
    unfold addI at e
    split at e
    · cases e
      cases h6
      rename_i q
      cases q
      subst h1
      obtain ⟨a', C', dx', fs', g1, g2, g3, g4, g5, s', g6, g7⟩ := setF_at im hf p1.ok r (show Rp K (Hr I s1 H1) (.d (.int _)) (.int _) from .int _) e3
      cases g1
      rw [h2] at g2
      cases g2
      exact ⟨_, _, rfl, rfl, _, _, h2, g5, h9 σ s' _ g6 (p1.trans g7) (re1.same g7.same)⟩
    · cases e
end
end Dl
set_option maxRecDepth 100000
set_option maxHeartbeats 4000000
namespace Dl
open PySem PySem.Spec PyProof.Rows L2

/-! ### dict(pairs), the keys tuples of ints and texts -/
def mergeT (kvs more : List (List Key × V)) : List (List Key × V) := more.foldl (fun acc kv => putK acc kv.1 kv.2) kvs
theorem kt_merge {H : Hp} : ∀ {more : List (List Key × V)} {ps xs : List (List Key × Addr × Value)} {kvs : List (List Key × V)}, KT H more ps → KT H kvs xs → KT H (mergeT kvs more) (storedAllH xs ps)
  | _, _, _, _, .nil, r => r
  | _, _, _, _, .cons (a := p) (b := q) h t, r => by
    obtain ⟨h1, h2, h3⟩ := h
    have := kt_merge t (r.put p.1 h2 h3)
    show KT H (mergeT (putK _ p.1 p.2) _) (storedAllH (storedH _ q.1 q.2.1 q.2.2) _)
    rw [← h1]
    exact this
theorem length_mergeT : ∀ (more kvs : List (List Key × V)), (mergeT kvs more).length ≤ kvs.length + more.length
  | [], kvs => by show kvs.length ≤ kvs.length + 0; omega
  | p :: r, kvs => by
    have h1 := length_mergeT r (putK kvs p.1 p.2)
    have h2 := length_putK kvs p.1 p.2
    have e : mergeT kvs (p :: r) = mergeT (putK kvs p.1 p.2) r := rfl
    rw [e, List.length_cons]
    omega
/-- p is a pair of a tuple and a value -/
def PairT (K : PySem.W.Frag) (H : Hp) (p : Addr) (kv : List Key × V) : Prop := ∃ b, SqT K H p [.ref b, kv.2] ∧ H b = some (.tup (kv.1.map kV))
theorem pairsT_of {X : Cx} {pins : List (Addr × Obj)} {σ : L2.St} {H : Hp} {s : Shared} (I : Inv X pins σ H s) : ∀ {ps : List Addr} {kvs : List (List Key × V)}, Paired (fun p kv => PairT X.K H p kv) ps kvs →
    ∃ prs : List (List Key × Addr × Value), KT H kvs prs ∧ prs.length = ps.length ∧ ∀ (j : Nat) (q : List Key × Addr × Value), prs[j]? = some q → ∃ p, ps[j]? = some p ∧ IsTup s.heap p #[.ref q.2.1, q.2.2]
  | _, _, .nil => ⟨[], .nil, rfl, fun j q e => by simp at e⟩
  | _, _, .cons (a := p) (b := kv) h t => by
    obtain ⟨prs, r, hl, hp⟩ := pairsT_of I t
    obtain ⟨b, hb, hk⟩ := h
    obtain ⟨its, rv, ht, _⟩ := I.tuple hb
    obtain ⟨u, y, ei, ru, ry⟩ := vals2 rv
    subst ei
    cases ru
    refine ⟨(kv.1, b, y) :: prs, .cons ⟨rfl, hk, ry⟩ r, by rw [List.length_cons, List.length_cons, hl], fun j q e => ?_⟩
    cases j with
    | zero =>
      have e' : (kv.1, b, y) = q := Option.some.inj e
      subst e'
      exact ⟨p, rfl, ht⟩
    | succ j =>
      obtain ⟨p', e1, e2⟩ := hp j q (by simpa using e)
      exact ⟨p', by simpa using e1, e2⟩
theorem call_dictT {X : Cx} (hc : X.calm = true) (hu : X.A.units + 2 < cLine) : CallR X (.type "dict") (fun xs H Q => ∃ (a : Addr) (ps : List Addr) (kvs : List (List Key × V)), xs = [.ref a] ∧ SqL X.K H a (ps.map V.ref) ∧ Paired (fun p kv => PairT X.K H p kv) ps kvs ∧
    ∀ p, H p = none → Q (.ref p) (upd H p (.dT (mergeT [] kvs)))) := by
  intro pins s σ H xs us Q I r q
  obtain ⟨a, ps, kvs, ex, hq, hp, q⟩ := q
  subst ex
  obtain ⟨u, eu, rx⟩ := vals1 r
  subst eu
  cases rx
  obtain ⟨its, rv, pl, hz⟩ := I.list hq
  have ei := refs_at rv
  subst ei
  rw [List.length_map] at hz
  obtain ⟨prs, rel, hl, hpr⟩ := pairsT_of I hp
  obtain ⟨o, n, ho, hcl, hd, hdat⟩ := pl
  have hkey : ∀ x ∈ prs, (tupleKind (mixKind X.prog X.w)).is s.heap x.1 x.2.1 := by
    have all : ∀ {l : List (List Key × V)} {m : List (List Key × Addr × Value)}, KT H l m → ∀ x ∈ m, (tupleKind (mixKind X.prog X.w)).is s.heap x.1 x.2.1 := by
      intro l m q
      induction q with
      | nil => intro x hx; exact nomatch hx
      | @cons p q ps qs hq t ih =>
        intro x hx
        rcases List.mem_cons.mp hx with e | hx
        · subst e
          exact key_of I.hok (by rw [← hq.1]; exact hq.2.1)
        · exact ih x hx
    exact all rel
  refine PySem.call_dict_pairsH (knd := tupleKind (mixKind X.prog X.w)) (ps := prs) (PairArg.list (prog := X.prog) (w := X.w) a ((ps.map Value.ref).toArray) (fun j => ps.getD j 0) (prs.map fun q => (.ref q.2.1, q.2.2)))
    (I.ok.hd hc) (show X.A.units + 2 < cLine from hu) ⟨⟨o, n, ho, hcl, hd, hdat⟩, ⟨by simp [hl], fun j k v e => ?_⟩⟩ ⟨by simp, fun i key v e => ?_⟩ (fun h' hk x hx => ?_) ?_ fun h' tk hd' k => ?_
  · rw [List.getElem?_map] at e
    cases e1 : prs[j]? with
    | none => rw [e1] at e; cases e
    | some q' =>
      rw [e1] at e
      cases e
      obtain ⟨p, e2, e3⟩ := hpr j q' e1
      have e4 : ps.getD j 0 = p := by rw [List.getD_eq_getElem?_getD, e2]; rfl
      show (List.map Value.ref ps).toArray[j]? = some (Value.ref (ps.getD j 0)) ∧ PairAt s.heap (ps.getD j 0) (Value.ref q'.2.1) q'.2.2
      rw [e4]
      exact ⟨by simp [e2], .inl e3⟩
  · unfold PairRel at e
    rw [List.getElem?_map] at e
    cases e1 : prs[i]? with
    | none => rw [e1] at e; cases e
    | some q' =>
      rw [e1] at e
      cases e
      exact ⟨q'.1, q'.2.1, rfl, rfl⟩
  · obtain ⟨o, its, n, h1, h2⟩ := hkey x hx
    exact ⟨o, its, n, hk _ _ (Nat.ne_of_lt (Heap.lt_size h1)) (fun z => nomatch z) h1, h2⟩
  · rw [List.length_map, hl]; exact hz
  · have hm : (s.heap.objs.size == sysModules) = false := beq_eq_false_iff_ne.mpr (Nat.ne_of_gt I.big)
    have hlen : (mergeT [] kvs).length ≤ sizeLine := by
      refine Nat.le_trans (length_mergeT kvs []) ?_
      rw [List.length_nil, Nat.zero_add, Paired.length rel, hl]
      exact hz
    have fr := I.hok.fresh (Nat.le_refl s.heap.objs.size)
    obtain ⟨o', es, ep, d1, d2, d3, d4, _, d5⟩ := hd'
    refine ⟨.ref s.heap.objs.size, upd H s.heap.objs.size (.dT (mergeT [] kvs)), I.laid (t' := tk) (fun b o e => k b o (fun z => nomatch z) e) (Nat.le_refl _) (show ObjOk X.prog X.w _ _ _ (.dT (mergeT [] kvs)) from ⟨hlen, hm, _, (kt_merge rel .nil).keeps fun c ys ec => ?_, o', es, ep, d1, d2, d3, d4, d5⟩), rfl, q _ fr⟩
    rw [upd_ne (ne_of_none ec fr)]
    exact ec
/-! keys as data -/
def keyD : Key → PyData
  | .inl i => .int i
  | .inr x => .str x
def dKey : PyData → Option Key
  | .int i => some (.inl i)
  | .str x => some (.inr x)
  | _ => none
def dKeys : List PyData → Option (List Key)
  | [] => some []
  | x :: r => (dKey x).bind fun k => (dKeys r).map (k :: ·)
theorem dKeys_ok {K : PySem.W.Frag} {H : Hp} : ∀ {xs : List PyData} {vs : List V} {ks : List Key}, DqA K H vs xs → dKeys xs = some ks → vs = ks.map kV
  | _, _, _, .nil, e => by cases e; rfl
  | x :: r, v :: vs, ks, .cons h t, e => by
    unfold dKeys at e
    cases e1 : dKey x with
    | none => rw [e1] at e; cases e
    | some k =>
      rw [e1] at e
      simp only [Option.bind_some] at e
      cases e2 : dKeys r with
      | none => rw [e2] at e; cases e
      | some ks' =>
        rw [e2] at e
        cases e
        rw [List.map_cons, ← dKeys_ok t e2]
        congr 1
        unfold dKey at e1
        split at e1
        · cases e1; cases h; rfl
        · cases e1; cases h; rfl
        · cases e1
theorem dqa_keys {K : PySem.W.Frag} {H : Hp} : ∀ ks : List Key, DqA K H (ks.map kV) (ks.map keyD)
  | [] => .nil
  | .inl i :: r => .cons (.int i) (dqa_keys r)
  | .inr x :: r => .cons (.str x) (dqa_keys r)
/-- the pairs (tuple, bool) of a list -/
def prT : List PyData → Option (List (List Key × V))
  | [] => some []
  | .tuple [.tuple xs, .bool b] :: r => (dKeys xs).bind fun ks => (prT r).map ((ks, V.bl b) :: ·)
  | _ :: _ => none
theorem prT_ok {K : PySem.W.Frag} {H : Hp} : ∀ {ds : List PyData} {vs : List V} {kvs : List (List Key × V)}, DqA K H vs ds → prT ds = some kvs → ∃ ps : List Addr, vs = ps.map V.ref ∧ Paired (fun p kv => PairT K H p kv) ps kvs
  | _, _, _, .nil, e => by cases e; exact ⟨[], rfl, .nil⟩
  | x :: r, v :: vs, kvs, .cons h t, e => by
    unfold prT at e
    split at e
    · cases ‹_ :: _ = []›
    · rename_i xs b r' he
      cases he
      cases e1 : dKeys xs with
      | none => rw [e1] at e; cases e
      | some ks =>
        rw [e1] at e
        simp only [Option.bind_some] at e
        cases e2 : prT r with
        | none => rw [e2] at e; cases e
        | some kvs' =>
          rw [e2] at e
          cases e
          obtain ⟨ps, e3, e4⟩ := prT_ok t e2
          cases h with
          | tup h1 h2 =>
            cases h2 with
            | cons g1 g2 =>
              cases g2 with
              | cons g3 g4 =>
                cases g4
                cases g3
                cases g1 with
                | tup f1 f2 =>
                  have := dKeys_ok f2 e1
                  subst this
                  exact ⟨_ :: ps, by rw [e3]; rfl, .cons ⟨_, SqT.of h1, f1⟩ e4⟩
    · cases e
/-! ### list(d) of a dict that stands still -/

theorem isKeys_dq {I : SI} {K : PySem.W.Frag} {s : St1} {H : Hp} (ok : I.ok K s H) : ∀ {kvs : List (List Key × V)} {bs : List Addr}, IsKeys H kvs bs → DqA K (Hr I s H).h (bs.map V.ref) (kvs.map fun p => .tuple (p.1.map keyD))
  | _, _, .nil => .nil
  | _, _, .cons h t => .cons (.tup (hr_tup ok h) (dqa_keys _)) (isKeys_dq ok t)
end Dl
set_option maxRecDepth 100000
set_option maxHeartbeats 4000000
namespace Dl
open PySem L2 PyProof.Rows

/-! ### items of a tree's lists and dicts -/
def getX (x y : D) (t : Ts) : Option D := match x with
  | .r n p => match getT t n p with
    | some (.nd .lst ts) => match y with
      | .d (.int i) => (ixN ts.length i).bind fun j => (ts[j]?).map (chD n p j)
      | _ => none
    | some (.nd (.dic ks) ts) => match y with
      | .d (.str z) => (kix z ks).bind fun j => (ts[j]?).map (chD n p j)
      | _ => none
    | some (.nd (.dct ks) ts) => match y with
      | .d (.tuple xs) => (dKeys xs).bind fun kk => (kix kk ks).bind fun j => (ts[j]?).map (chD n p j)
      | _ => none
    | _ => none
  | x => fIx x y
def rIxDc : R2 := fun x y H Q => ∃ a v, x = .ref a ∧ DGet H a y (some v) ∧ Q v H
theorem sub_tail {prog : Program} {w : World} {A : Around} {E : Value → Shared → Prop} {s : Shared} {value slice : Expr} {o i : Value} {T id : String} {Q : Value → Shared → Prop} (hT : s.TypeIs o T)
    (hl : typeLookup (.type T) "__getitem__" = pure (some (.builtin id))) (h : wpAny (model prog w) A (getItem o i) Q E s)
    (hs : subscripted slice false o i = operate [o, i] (getItem o i)) : wpAny (model prog w) A (subscriptTail value slice o i) Q E s := by
  unfold subscriptTail
  refine wpAny_bind ?_
  rw [getitemInPython_of_ne hT.not_modules]
  refine wpAny_bind (wpAny_specialOf hT hl ?_)
  have fin : wpAny (model prog w) A (subscripted slice false o i) (fun r s₃ => wpAny (model prog w) A (letTemporaryGo value o r >>= fun _ => pure r) Q E s₃) E s := by
    rw [hs]
    exact wpAny_operating (wpAny_mono h (fun r s₃ h₃ => wpAny_bind (wpAny_letTemporaryGo (wpAny_pure h₃))) fun _ _ x => x)
  first
    | exact wpAny_pure (wpAny_bind fin)
    | exact wpAny_bind (wpAny_pure (wpAny_bind fin))
    | exact wpAny_bind fin
theorem ix_dict {X : Cx} (hu : X.A.units + 1 < cLine) : IxR X rIxDc := by
  intro value slice pins s σ H x y v u Q I rx ry h hs
  obtain ⟨a, z, rfl, g, q⟩ := h
  cases rx
  exact sub_tail (dict_typeIs I g) PySem.F.slot_dict_getitem.lookup (d_getItem hu I g ry fun w' s3 I3 rw' => ⟨z, H, I3, rw', q⟩) hs
theorem pset_or {X : Cx} {r r' : TSet} (h : PSet X r) (h' : PSet X r') : PSet X (fun o i v H Q => r o i v H Q ∨ r' o i v H Q) := by
  intro pins s σ H o i v ov iv u Q I ro ri rv q
  rcases q with q | q
  · exact h pins s σ H o i v ov iv u Q I ro ri rv q
  · exact h' pins s σ H o i v ov iv u Q I ro ri rv q
section
variable {I : SI} {K : PySem.W.Frag} {s : St1} {H : Hp}
theorem zipk_val {ks : List Str} {vs : List V} {z : Str} {j : Nat} {v : V} (h : kix z ks = some j) (e : vs[j]? = some v) : valV ((ks.map (Sum.inr : Str → Key)).zip vs) (Sum.inr z) = some v := by
  induction ks generalizing vs j with
  | nil => cases h
  | cons y r ih =>
    rw [kix_cons] at h
    cases vs with
    | nil => simp at e
    | cons u us =>
      unfold valV
      by_cases c : y = z
      · rw [if_pos c] at h
        cases h
        have e2 : y = z := by simpa using c
        subst e2
        simp at e
        subst e
        rw [List.map_cons, List.zip_cons_cons, List.find?_cons_of_pos (by simp)]
        rfl
      · rw [if_neg c] at h
        cases q : kix z r with
        | none => rw [q] at h; cases h
        | some i =>
          rw [q] at h
          have h : some (i + 1) = some j := h
          cases h
          have ih := ih q (by simpa using e)
          unfold valV at ih
          rw [List.map_cons, List.zip_cons_cons, List.find?_cons_of_neg (by simpa using c)]
          exact ih
theorem ixN_lt {n : Nat} {i : Int} {j : Nat} (h : ixN n i = some j) : j < n := by
  unfold ixN at h
  split at h
  · split at h
    · cases h; omega
    · cases h
  · split at h
    · cases h; omega
    · cases h
theorem getX_at {x y d : D} {a b : V} {Q : VK} {r : R2} (hr : OpD K r fIx) (ok : I.ok K s H) (rx : Rp K (Hr I s H) x a) (ry : Rp K (Hr I s H) y b) (h : getX x y s.t = some d) (kk : ∀ v H', Po I K s H s H' → Rp K (Hr I s H') d v → Q v H') :
    (rIxL K a b H Q ∨ r a b H Q) ∨ rIxDc a b H Q := by
  unfold getX at h
  split at h
  · rename_i n p
    split at h
    · rename_i ts g
      obtain ⟨ad, dx, vs, rfl, w1, c1, hd1⟩ := node_at ok rx g
      split at h
      · rename_i i
        cases ry
        cases q : ixN ts.length i with
        | none => rw [q] at h; cases h
        | some j =>
          rw [q] at h
          have h : (ts[j]?).map (chD n p j) = some d := h
          cases q2 : ts[j]? with
          | none => rw [q2] at h; cases h
          | some u =>
            rw [q2] at h
            cases h
            obtain ⟨v, g1, g2⟩ := chs_get c1 q2
            rw [Nat.zero_add] at g2
            refine .inl (.inl ⟨ad, vs, i, v, rfl, rfl, SqL.of hd1, ?_, here ok kk (ch_rp g2)⟩)
            unfold atI
            rw [chs_len c1, q]
            exact g1
      · cases h
    · rename_i ks ts g
      obtain ⟨ad, dx, vs, rfl, w1, c1, hd1⟩ := node_at ok rx g
      split at h
      · rename_i z
        cases ry
        cases q : kix z ks with
        | none => rw [q] at h; cases h
        | some j =>
          rw [q] at h
          have h : (ts[j]?).map (chD n p j) = some d := h
          cases q2 : ts[j]? with
          | none => rw [q2] at h; cases h
          | some u =>
            rw [q2] at h
            cases h
            obtain ⟨v, g1, g2⟩ := chs_get c1 q2
            rw [Nat.zero_add] at g2
            refine .inr ⟨ad, v, rfl, ?_, here ok kk (ch_rp g2)⟩
            have e : some v = valV ((ks.map (Sum.inr : Str → Key)).zip vs) (Sum.inr z) := (zipk_val q g1).symm
            rw [e]
            exact DGet.k (k := Sum.inr z) hd1.2.2
      · cases h
    · rename_i ks ts g
      obtain ⟨ad, dx, vs, rfl, w1, c1, hd1⟩ := node_at ok rx g
      split at h
      · rename_i xs
        cases q0 : dKeys xs with
        | none => rw [q0] at h; cases h
        | some kq =>
          rw [q0] at h
          simp only [Option.bind_some] at h
          cases q : kix kq ks with
          | none => rw [q] at h; cases h
          | some j =>
            rw [q] at h
            have h : (ts[j]?).map (chD n p j) = some d := h
            cases q2 : ts[j]? with
            | none => rw [q2] at h; cases h
            | some u =>
              rw [q2] at h
              cases h
              obtain ⟨v, g1, g2⟩ := chs_get c1 q2
              rw [Nat.zero_add] at g2
              cases ry with
              | tup h1 h2 =>
                have e := dKeys_ok h2 q0
                subst e
                refine .inr ⟨ad, v, rfl, ?_, here ok kk (ch_rp g2)⟩
                rw [← zip_val q g1]
                exact DGet.t hd1.2.2 (hr_sub _ _ h1)
      · cases h
    · cases h
  · exact .inl (.inr (hr I s H x y d a b Q ok rx ry h kk))
end
def sIx (a b : Sm D) : Sm D := fun env t => (a env t).bind fun x t => (b env t).bind fun y t => ofO (getX x y t) t
/-- o[i] = y -/
def setX (mv : Bool) (x i y : D) (t : Ts) : Option Ts := match x with
  | .r n p => match getT t n p with
    | some (.nd .lst ts) => match i with
      | .d (.int i) => (ixN ts.length i).bind fun j => stc t n p .lst ts j mv y
      | _ => none
    | some (.nd (.dic ks) ts) => if ts.length < 100000 then match i with
      | .d (.str z) => match kix z ks with
        | some j => stc t n p (.dic ks) ts j mv y
        | none => stc t n p (.dic (ks ++ [z])) ts ts.length mv y
      | _ => none else none
    | some (.nd (.dct ks) ts) => if ts.length < 100000 then match i with
      | .d (.tuple xs) => (dKeys xs).bind fun kk => match kix kk ks with
        | some j => stc t n p (.dct ks) ts j mv y
        | none => stc t n p (.dct (ks ++ [kk])) ts ts.length mv y
      | _ => none else none
    | _ => none
  | _ => none
theorem map_idx {ks : List Str} {z : Str} : kix (Sum.inr z) (ks.map (Sum.inr : Str → Key)) = kix z ks := by
  induction ks with
  | nil => rfl
  | cons y r ih =>
    rw [List.map_cons, kix_cons, kix_cons, ih]
    by_cases c : y = z
    · subst c
      rw [if_pos rfl, if_pos rfl]
    · rw [if_neg c, if_neg fun e => c (Sum.inr.inj e)]
theorem map_nodup {ks : List Str} (h : ks.Nodup) : (ks.map (Sum.inr : Str → Key)).Nodup := List.Pairwise.map _ (fun a b hab q => hab (Sum.inr.inj q)) h
section
variable {I : SI} {K : PySem.W.Frag} {s : St1} {H : Hp}
theorem setX_at {mv : Bool} {x i y : D} {a b u : V} {t' : Ts} {Q : Hp → Prop} (ok : I.ok K s H) (rx : Rp K (Hr I s H) x a) (ri : Rp K (Hr I s H) i b) (ry : Rp K (Hr I s H) y u) (h : setX mv x i y s.t = some t') (kk : ∀ s' H', s'.t = t' → Po I K s H s' H' → Q H') :
    rSetL a b u H Q ∨ rSetD a b u H Q := by
  have lin : ∀ {n : Nat}, n < 100000 → n < sizeLine := fun h => Nat.lt_of_lt_of_le h (by decide)
  unfold setX at h
  split at h
  · rename_i n p
    split at h
    · rename_i ts g
      obtain ⟨ad, dx, vs, rfl, w1, c1, hd1⟩ := node_at ok rx g
      have hl := chs_len c1
      split at h
      · rename_i i
        cases ri
        cases q : ixN ts.length i with
        | none => rw [q] at h; cases h
        | some j =>
          rw [q] at h
          have hj := ixN_lt q
          obtain ⟨s', e1, e2⟩ := stc_sound (o := .lst (vs.set j u)) ok g w1 c1 (by omega) rfl ry h (by unfold setA; rw [if_pos (by omega)]; exact upd_same)
          exact .inl ⟨ad, vs, i, j, rfl, rfl, hd1, by rw [hl]; exact q, kk s' _ e1 e2⟩
      · cases h
    · rename_i ks ts g
      obtain ⟨ad, dx, vs, rfl, w1, c1, hd1⟩ := node_at ok rx g
      obtain ⟨hk1, hk2, hk3⟩ := hd1
      have hl := chs_len c1
      by_cases cl : ts.length < 100000
      · rw [if_pos cl] at h
        split at h
        · rename_i z
          cases ri
          have hz : ((ks.map (Sum.inr : Str → Key)).zip vs).length < sizeLine := by rw [List.length_zip, List.length_map, hk1, hl, Nat.min_self]; exact lin cl
          split at h
          · rename_i j q
            have hj : j < ks.length := (List.getElem?_eq_some_iff.mp (idx_some q).1).1
            have e3 : putK ((ks.map (Sum.inr : Str → Key)).zip vs) (Sum.inr z) u = (ks.map (Sum.inr : Str → Key)).zip (vs.set j u) := zip_put (map_nodup hk2) (by rw [List.length_map]; exact hk1) (by rw [map_idx]; exact q)
            obtain ⟨s', e1, e2⟩ := stc_sound (o := .dK ((ks.map (Sum.inr : Str → Key)).zip (vs.set j u))) ok g w1 c1 (by omega) rfl ry h ⟨by unfold setA; rw [if_pos (by omega), List.length_set]; exact hk1, hk2, by unfold setA; rw [if_pos (by omega)]; exact upd_same⟩
            exact .inr ⟨ad, _, rfl, DPut.k (k := Sum.inr z) hk3 hz, by rw [e3]; exact kk s' _ e1 e2⟩
          · rename_i q
            have e3 : putK ((ks.map (Sum.inr : Str → Key)).zip vs) (Sum.inr z) u = (ks.map (Sum.inr : Str → Key) ++ [Sum.inr z]).zip (vs ++ [u]) := zip_new (by rw [List.length_map]; exact hk1) (idx_none (by rw [map_idx]; exact q))
            obtain ⟨s', e1, e2⟩ := stc_sound (k' := .dic (ks ++ [z])) (o := .dK (((ks ++ [z]).map (Sum.inr : Str → Key)).zip (vs ++ [u]))) ok g w1 c1 (Nat.le_refl _) rfl ry h ⟨by unfold setA; rw [if_neg (by omega), List.length_append, List.length_append, hk1]; rfl, nodup_snoc hk2 (idx_none q), by unfold setA; rw [if_neg (by omega)]; exact upd_same⟩
            exact .inr ⟨ad, _, rfl, DPut.k (k := Sum.inr z) hk3 hz, by rw [e3]; rw [List.map_append] at e2; exact kk s' _ e1 e2⟩
        · cases h
      · rw [if_neg cl] at h; cases h
    · rename_i ks ts g
      obtain ⟨ad, dx, vs, rfl, w1, c1, hd1⟩ := node_at ok rx g
      obtain ⟨hk1, hk2, hk3⟩ := hd1
      have hl := chs_len c1
      by_cases cl : ts.length < 100000
      · rw [if_pos cl] at h
        split at h
        · rename_i xs
          cases q0 : dKeys xs with
          | none => rw [q0] at h; cases h
          | some kq =>
            rw [q0] at h
            simp only [Option.bind_some] at h
            have hz : (ks.zip vs).length < sizeLine := by rw [List.length_zip, hk1, hl, Nat.min_self]; exact lin cl
            cases ri with
            | tup h1 h2 =>
              have e0 := dKeys_ok h2 q0
              subst e0
              split at h
              · rename_i j q
                have hj : j < ks.length := (List.getElem?_eq_some_iff.mp (idx_some q).1).1
                have e3 : putK (ks.zip vs) kq u = ks.zip (vs.set j u) := zip_put hk2 hk1 q
                obtain ⟨s', e1, e2⟩ := stc_sound (o := .dT (ks.zip (vs.set j u))) ok g w1 c1 (by omega) rfl ry h ⟨by unfold setA; rw [if_pos (by omega), List.length_set]; exact hk1, hk2, by unfold setA; rw [if_pos (by omega)]; exact upd_same⟩
                exact .inr ⟨ad, _, rfl, DPut.t hk3 (hr_sub _ _ h1) hz, by rw [e3]; exact kk s' _ e1 e2⟩
              · rename_i q
                have e3 : putK (ks.zip vs) kq u = (ks ++ [kq]).zip (vs ++ [u]) := zip_new hk1 (idx_none q)
                obtain ⟨s', e1, e2⟩ := stc_sound (k' := .dct (ks ++ [kq])) (o := .dT ((ks ++ [kq]).zip (vs ++ [u]))) ok g w1 c1 (Nat.le_refl _) rfl ry h ⟨by unfold setA; rw [if_neg (by omega), List.length_append, List.length_append, hk1]; rfl, nodup_snoc hk2 (idx_none q), by unfold setA; rw [if_neg (by omega)]; exact upd_same⟩
                exact .inr ⟨ad, _, rfl, DPut.t hk3 (hr_sub _ _ h1) hz, by rw [e3]; exact kk s' _ e1 e2⟩
        · cases h
      · rw [if_neg cl] at h; cases h
    · cases h
  · cases h
end
section
variable {ι : Type} {P : Program} {w : World} {K : PySem.W.Frag} {mg : Str → Option Value} {base : Heap} {k : Nat} {N : List Str} {F : ι → Cx} {I : SI} {W : WX} {pos : Pos}
theorem de_ixS {a b : Expr} {ga gb : Sm D} (Wf : Fm P w K mg base k N F) (ha : DE I K W F a ga) (hb : DE I K W F b gb) (hs : PlainIx b := by exact fun _ _ => rfl) : DE I K W F (.Subscript a b pos) (sIx ga gb) := by
  obtain ⟨r, h1, h2⟩ := o_ix (F := F) Wf
  exact fun i => (pe_ix (((ixK rIxL (Wf.K i) ix_list).or (h1 i)).or (ix_dict (by have := Wf.units i; omega))) (ha i) (hb i) hs).imp fun σ H Q ⟨env, s, ok, re, h⟩ =>
    step (Po.refl ok) re h fun x v1 s1 H1 p1 _ r1 h => step p1 re h fun y v2 s2 H2 p2 q2 r2 h => by
      obtain ⟨z, e, h⟩ := post_ofO h
      exact getX_at h2 p2.ok (rp_same q2.same r1) r2 e fun v H' p3 r3 => h v s2 H' rfl (p2.trans p3) r3
def gSX (mv : Bool) (o i : Sm D) : D → Env → Ts → R Env := fun y env t => (o env t).bind fun x t => (i env t).bind fun z t => (ofO (setX mv x z y t) t).bind fun t' _ => .ok env t'
theorem dgS_sub {o i : Expr} {go gi : Sm D} (mv : Bool) (Wf : Fm P w K mg base k N F) (ho : DE I K W F o go) (hi : DE I K W F i gi)
    (hpg : ∀ l to ti, PE (F l) o to → PE (F l) i ti → PG (F l) (.Subscript o i pos) (gSub to ti fun o i v H Q => rSetL o i v H Q ∨ rSetD o i v H Q)) : DGS I K W F (.Subscript o i pos) (gSX mv go gi) := fun l =>
  (hpg l _ _ (ho l) (hi l)).imp fun u σ H Q ⟨env, s, y, ok, re, ry, h⟩ => st1 (Po.refl ok) re h fun x v1 s1 H1 p1 q1 re1 r1 h => st1 p1 re1 h fun z v2 s2 H2 p2 q2 re2 r2 h => by
    obtain ⟨t', e, h⟩ := post_ofO (R.post_bind h)
    exact setX_at p2.ok (rp_same q2.same r1) r2 (rp_same (q1.trans q2).same ry) e fun s' H' e1 p3 => h σ s' H' e1 (p2.trans p3) (re2.same p3.same)
theorem sub_pg (Wf : Fm P w K mg base k N F) {o i : Expr}
    (ha : ∀ l v, assign (.Subscript o i pos) (F l).env v = (do
      let ov ← holding [v] (eval o (F l).env)
      let iv ← holding [v, ov] (eval i (F l).env)
      standAt pos
      holding [v, ov, iv] (setItem ov iv v)
      release [v, ov, iv] []) := by exact fun _ _ => rfl) : ∀ l to ti, PE (F l) o to → PE (F l) i ti → PG (F l) (.Subscript o i pos) (gSub to ti fun o i v H Q => rSetL o i v H Q ∨ rSetD o i v H Q) :=
  fun l _ _ h1 h2 => pg_sub h1 h2 (pset_or set_list (set_dict (by have := Wf.units l; omega))) (ha l)
end
end Dl
set_option maxRecDepth 100000
set_option maxHeartbeats 4000000
namespace Dl
open PySem L2 PyProof.Rows

/-! ### append, extend -/
def isAl (x : D) (t : Ts) : Bool := match x with
  | .r n p => match getT t n p with
    | some (.nd .lst _) => true
    | _ => false
  | _ => false
def appX (mv : Bool) (x y : D) (t : Ts) : Option Ts := match x with
  | .r n p => match getT t n p with
    | some (.nd .lst ts) => if ts.length < 100000 then stc t n p .lst ts ts.length mv y else none
    | _ => none
  | _ => none
def extX (x y : D) (t : Ts) : Option Ts := match x with
  | .r n p => match getT t n p with
    | some (.nd .lst ts) => match y with
      | .d (.list ys) => if ts.length + ys.length < 100000 then putCh t n p .lst (ts ++ ys.map fun y => .v (.d y)) else none
      | _ => none
    | _ => none
  | _ => none
def sMeth1 (f : D → D → Ts → Option Ts) (o e : Sm D) : Sm D := fun env t => (o env t).bind fun x t => if isAl x t = true then (e env t).bind fun y t => (ofO (f x y t) t).bind fun t' _ => .ok (.d .none) t' else .no
section
variable {I : SI} {K : PySem.W.Frag} {s : St1} {H : Hp}
theorem al_at {x : D} {v : V} (ok : I.ok K s H) (r : Rp K (Hr I s H) x v) (h : isAl x s.t = true) : tyV K "list" v H := by
  unfold isAl at h
  split at h
  · split at h
    · rename_i n p _ _ ts g
      obtain ⟨a, dx, vs, rfl, w1, c1, hd1⟩ := node_at ok r g
      exact Or.inl ⟨rfl, _, SqL.of hd1⟩
    · cases h
  · cases h
theorem appX_at {mv : Bool} {x y : D} {v u : V} {t' : Ts} {Q : VK} (ok : I.ok K s H) (r : Rp K (Hr I s H) x v) (ry : Rp K (Hr I s H) y u) (h : appX mv x y s.t = some t') (kk : ∀ s' H', s'.t = t' → Po I K s H s' H' → Q .non H') : rAppend v [u] H Q := by
  unfold appX at h
  split at h
  · split at h
    · rename_i n p _ ts g
      by_cases c : ts.length < 100000
      · rw [if_pos c] at h
        obtain ⟨a, dx, vs, rfl, w1, c1, hd1⟩ := node_at ok r g
        have hl := chs_len c1
        obtain ⟨s', e1, e2⟩ := stc_sound (o := .lst (vs ++ [u])) ok g w1 c1 (Nat.le_refl _) rfl ry h (by unfold setA; rw [if_neg (by omega)]; exact upd_same)
        exact ⟨a, vs, u, rfl, rfl, hd1, Nat.lt_of_lt_of_le (by omega : vs.length < 100000) (by decide), kk s' _ e1 e2⟩
      · rw [if_neg c] at h; cases h
    · cases h
  · cases h
theorem chs_app {vw : Vw} {n : Nat} {p : Pth} : ∀ {j : Nat} {ts us : List Tr} {vs ws : List V}, Chs K vw n p j ts vs → (∀ i, Chs K vw n p i us ws) → Chs K vw n p j (ts ++ us) (vs ++ ws)
  | _, _, _, _, _, .nil, h => h _
  | _, _, _, _, _, .cons a r, h => .cons a (chs_app r h)
theorem chs_pd {vw : Vw} {n : Nat} {p : Pth} : ∀ {j : Nat} {ys : List PyData} {ws : List V}, DqA K vw.h ws ys → Chs K vw n p j (ys.map fun y => .v (.d y)) ws
  | _, _, _, .nil => .nil
  | _, _, _, .cons h t => .cons ⟨h, rfl⟩ (chs_pd t)
theorem extX_at {x y : D} {v u : V} {t' : Ts} {Q : VK} (ok : I.ok K s H) (r : Rp K (Hr I s H) x v) (ry : Rp K (Hr I s H) y u) (h : extX x y s.t = some t') (kk : ∀ s' H', s'.t = t' → Po I K s H s' H' → Q .non H') : rExtend v [u] H Q := by
  unfold extX at h
  split at h
  · split at h
    · rename_i n p _ ts g
      split at h
      · rename_i ys
        by_cases c : ts.length + ys.length < 100000
        · rw [if_pos c] at h
          obtain ⟨a, dx, vs, rfl, w1, c1, hd1⟩ := node_at ok r g
          have hl := chs_len c1
          cases ry with
          | lst h1 h2 =>
            rename_i b zs
            have hz := dqa_len h2
            obtain ⟨T, T', g1, g2, rfl⟩ := putCh_some h
            have g3 : T.get p = some (.nd .lst ts) := by rw [← getT_of g1]; exact g
            refine ⟨a, b, vs, zs, rfl, rfl, hd1, hr_sub _ _ h1, Nat.le_of_lt (Nat.lt_of_lt_of_le (by omega : vs.length + zs.length < 100000) (by decide)), kk _ _ rfl (po_put (o := .lst (vs ++ zs)) ok g1 g3 g2 (fun i t ht => ?_) rfl w1 upd_same (chs_app c1 fun i => chs_pd h2))⟩
            by_cases ci : i < ts.length
            · rw [List.getElem?_append_left ci]
            · rw [List.getElem?_append_right (by omega), List.getElem?_map]
              constructor
              · intro e
                cases q : ys[i - ts.length]? with
                | none => rw [q] at e; cases e
                | some z => rw [q] at e; cases e; cases ht
              · intro e
                rw [List.getElem?_eq_none (by omega)] at e
                cases e
        · rw [if_neg c] at h; cases h
      · cases h
    · cases h
  · cases h
end
section
variable {ι : Type} {P : Program} {w : World} {K : PySem.W.Frag} {mg : Str → Option Value} {base : Heap} {k : Nat} {N : List Str} {F : ι → Cx} {I : SI} {W : WX} {pos : Pos}
theorem tg_meth1 {f : D → D → Ts → Option Ts} {r : V → List V → Hp → VK → Prop} {go ge : Sm D} (hf : ∀ (s : St1) (H : Hp) (x y : D) (v u : V) (t' : Ts) (Q : VK), I.ok K s H → Rp K (Hr I s H) x v → Rp K (Hr I s H) y u → f x y s.t = some t' → (∀ s' H', s'.t = t' → Po I K s H s' H' → Q .non H') → r v [u] H Q) :
    ∀ σ H Q, tG I K W (sMeth1 f go ge) σ H Q → tBM K "list" r (tG I K W go) (tCons (tG I K W ge) tNil) σ H Q := fun σ H Q ⟨env, s, ok, re, h⟩ =>
  step (Po.refl ok) re h fun x v1 s1 H1 p1 _ r1 h => by
    by_cases c : isAl x s1.t = true
    · rw [if_pos c] at h
      refine ⟨al_at p1.ok r1 c, step p1 re h fun y v2 s2 H2 p2 q2 r2 h => ?_⟩
      obtain ⟨t', e, h⟩ := post_ofO (R.post_bind h)
      exact hf s2 H2 x y v1 v2 t' Q p2.ok (rp_same q2.same r1) r2 e fun s' H' e1 p3 => h .non s' H' e1 (p2.trans p3) .non
    · rw [if_neg c] at h; exact h.elim
theorem de_app {o e : Expr} {apos cpos : Pos} {go ge : Sm D} (mv : Bool) (Wf : Fm P w K mg base k N F) (ho : DE I K W F o go) (he : DE I K W F e ge)
    (hbase : ∀ i, attributeBase o "append" (F i).env (eval o (F i).env) = eval o (F i).env := by exact fun _ => rfl)
    (hfew : ∀ i, ((backTo cpos (starEach [e] (F i).env)).all (fun x => !x.1) && (backToKw cpos (keywordEach [] (F i).env)).all (fun x => x.1.isSome)
      && decide (([e] : List Expr).length + ([] : List Keyword).length + (if ([] : List Keyword).isEmpty then 0 else 1) < 30)) = true := by exact fun _ => rfl)
    (hline : (apos.endLine == cpos.line) = true := by rfl) (hs : ∀ i, starEach [e] (F i).env = (false, eval e (F i).env) :: starEach [] (F i).env := by exact fun _ => rfl) (hpl : ∀ i, (backTo cpos (starEach [] (F i).env)).any (·.1) = false := by exact fun _ => rfl) :
    DE I K W F (.Call (.Attribute o "append" apos) [e] [] cpos) (sMeth1 (appX mv) go ge) := fun i => by
  have h := pe_bm PySem.F.plainAttrs_list PySem.F.slot_list_append PySem.F.type_list_append mt_append (ho i) (pa_cons (he i) pa_nil (hs i)) (hbase i) (hfew i) hline (hs i) (hpl i)
  rw [Wf.K i] at h
  exact h.imp (tg_meth1 fun s H x y v u t' Q ok r ry e kk => appX_at ok r ry e kk)
theorem de_ext {o e : Expr} {apos cpos : Pos} {go ge : Sm D} (Wf : Fm P w K mg base k N F) (ho : DE I K W F o go) (he : DE I K W F e ge)
    (hbase : ∀ i, attributeBase o "extend" (F i).env (eval o (F i).env) = eval o (F i).env := by exact fun _ => rfl)
    (hfew : ∀ i, ((backTo cpos (starEach [e] (F i).env)).all (fun x => !x.1) && (backToKw cpos (keywordEach [] (F i).env)).all (fun x => x.1.isSome)
      && decide (([e] : List Expr).length + ([] : List Keyword).length + (if ([] : List Keyword).isEmpty then 0 else 1) < 30)) = true := by exact fun _ => rfl)
    (hline : (apos.endLine == cpos.line) = true := by rfl) (hs : ∀ i, starEach [e] (F i).env = (false, eval e (F i).env) :: starEach [] (F i).env := by exact fun _ => rfl) (hpl : ∀ i, (backTo cpos (starEach [] (F i).env)).any (·.1) = false := by exact fun _ => rfl) :
    DE I K W F (.Call (.Attribute o "extend" apos) [e] [] cpos) (sMeth1 extX go ge) := fun i => by
  have h := pe_bm PySem.F.plainAttrs_list PySem.F.slot_list_extend PySem.F.type_list_extend mt_extend (ho i) (pa_cons (he i) pa_nil (hs i)) (hbase i) (hfew i) hline (hs i) (hpl i)
  rw [Wf.K i] at h
  exact h.imp (tg_meth1 fun s H x y v u t' Q ok r ry e kk => extX_at ok r ry e kk)

/-! ### calls that read the trees -/
def sMkT (f : List D → Ts → Option D) (a : Sm (List D)) : Sm D := fun env t => (a env t).bind fun xs t => ofO (f xs t) t
def CallT (K : PySem.W.Frag) (r : List V → Hp → VK → Prop) (f : List D → Ts → Option D) : Prop := ∀ (I : SI) (s : I.S) (H : Hp) (ds : List D) (z : D) (vs : List V) (Q : VK), I.ok K s H → RpL K (Hr I s H) ds vs → f ds s.t = some z →
  (∀ v H', Po I K s H s H' → Rp K (Hr I s H') z v → Q v H') → r vs H Q
theorem tg_mkT {r : List V → Hp → VK → Prop} {f : List D → Ts → Option D} {g : Sm (List D)} (hr : CallT K r f) : ∀ σ H Q, tG I K W (sMkT f g) σ H Q → (tGL I K W g) σ H fun vs H1 => r vs H1 Q := fun σ H Q ⟨env, s, ok, re, h⟩ =>
  stepL (Po.refl ok) re h fun xs vs s1 H1 p1 _ r1 h => by
    obtain ⟨z, e, h⟩ := post_ofO h
    exact hr I s1 H1 xs z vs Q p1.ok r1 e fun v H' p2 r2 => h v s1 H' rfl (p1.trans p2) r2
theorem de_callBT {x : Str} {id : String} {e : Expr} {es : List Expr} {p : Pos} {f : List D → Ts → Option D} {g : Sm (List D)} (Wf : Fm P w K mg base k N F) (hc : ∃ r, (∀ i, CallR (F i) (.builtin id) r) ∧ CallT K r f) (hm : mg x = none) (hv : bootBuiltins x = some (.builtin id)) (ha : DA I K W F (e :: es) g)
    (hg : ∀ i, Gl (F i) x := by exact fun _ => rfl) (hn : x ≠ "__name__" := by decide) (hdb : (x == ("__debug__" : Str)) = false := by decide)
    (he : ∀ i, starEach (e :: es) (F i).env = (false, eval e (F i).env) :: starEach es (F i).env := by exact fun _ => rfl) (hpl : ∀ i, (backTo pos (starEach es (F i).env)).any (·.1) = false := by exact fun _ => rfl) : DE I K W F (.Call (.Name x p) (e :: es) [] pos) (sMkT f g) := by
  obtain ⟨r, h1, h2⟩ := hc
  exact fun i => (pe_callB (h1 i) (hg i) (by rw [Wf.mg i]; exact hm) hv (ha i) hn hdb (he i) (hpl i)).imp (tg_mkT h2)
theorem de_callTyT {x : Str} {T : String} {e : Expr} {es : List Expr} {p : Pos} {f : List D → Ts → Option D} {g : Sm (List D)} (Wf : Fm P w K mg base k N F) (hc : ∃ r, (∀ i, CallR (F i) (.type T) r) ∧ CallT K r f) (hm : mg x = none) (hv : bootBuiltins x = some (.type T)) (ha : DA I K W F (e :: es) g)
    (hg : ∀ i, Gl (F i) x := by exact fun _ => rfl) (hn : x ≠ "__name__" := by decide) (hdb : (x == ("__debug__" : Str)) = false := by decide)
    (he : ∀ i, starEach (e :: es) (F i).env = (false, eval e (F i).env) :: starEach es (F i).env := by exact fun _ => rfl) (hpl : ∀ i, (backTo pos (starEach es (F i).env)).any (·.1) = false := by exact fun _ => rfl) : DE I K W F (.Call (.Name x p) (e :: es) [] pos) (sMkT f g) := by
  obtain ⟨r, h1, h2⟩ := hc
  exact fun i => (pe_callTy (h1 i) (hg i) (by rw [Wf.mg i]; exact hm) hv (ha i) hn hdb (he i) (hpl i)).imp (tg_mkT h2)
theorem callr_or {X : Cx} {f : Value} {r r' : List V → Hp → VK → Prop} (h : CallR X f r) (h' : CallR X f r') : CallR X f (fun xs H Q => r xs H Q ∨ r' xs H Q) := by
  intro pins s σ H xs us Q I rx q
  rcases q with q | q
  · exact h pins s σ H xs us Q I rx q
  · exact h' pins s σ H xs us Q I rx q
def cLenT (xs : List D) (t : Ts) : Option D := match xs with
  | [.r n p] => match getT t n p with
    | some (.nd .lst ts) => some (.d (.int ts.length))
    | _ => none
  | xs => cLen xs
theorem c_lenT (Wf : Fm P w K mg base k N F) : ∃ r, (∀ i, CallR (F i) (.builtin "len") r) ∧ CallT K r cLenT := by
  obtain ⟨r, h1, h2⟩ := c_len (F := F) Wf
  refine ⟨_, fun i => callr_or (clK rLenK (Wf.K i) call_len) (h1 i), fun I s H ds z vs Q ok r e kk => ?_⟩
  unfold cLenT at e
  split at e
  · split at e
    · rename_i n p _ ts g
      cases e
      cases r with
      | cons r1 r2 =>
        cases r2
        obtain ⟨a, dx, vs, rfl, w1, c1, hd1⟩ := node_at ok r1 g
        exact .inl ⟨_, _, rfl, .inl ⟨_, SqL.of hd1, rfl⟩, here ok kk (by rw [chs_len c1]; exact .int _)⟩
    · cases e
  · exact .inr (h2 I s H ds z vs Q ok r e kk)
/-- data alone below -/
def leafs : List Tr → Option (List PyData)
  | [] => some []
  | .v (.d x) :: r => (leafs r).map (x :: ·)
  | _ :: _ => none
theorem leafs_dq {vw : Vw} {n : Nat} {p : Pth} : ∀ {j : Nat} {ts : List Tr} {vs : List V} {xs : List PyData}, Chs K vw n p j ts vs → leafs ts = some xs → DqA K vw.h vs xs
  | _, _, _, _, .nil, e => by cases e; exact .nil
  | j, t :: ts, v :: vs, xs, .cons h r, e => by
    unfold leafs at e
    split at e
    · cases ‹_ :: _ = []›
    · rename_i x r' he
      cases he
      cases q : leafs ts with
      | none => rw [q] at e; cases e
      | some ys => rw [q] at e; cases e; exact .cons h.1 (leafs_dq r q)
    · cases e
def cTupT (xs : List D) (t : Ts) : Option D := match xs with
  | [.r n p] => match getT t n p with
    | some (.nd .lst ts) => (leafs ts).map fun xs => .d (.tuple xs)
    | _ => none
  | xs => cTup xs
theorem c_tupT (Wf : Fm P w K mg base k N F) : ∃ r, (∀ i, CallR (F i) (.type "tuple") r) ∧ CallT K r cTupT := by
  obtain ⟨r, h1, h2⟩ := c_tup (F := F) Wf
  refine ⟨_, fun i => callr_or (clK rTupK (Wf.K i) call_tuple_of) (h1 i), fun I s H ds z vs Q ok r e kk => ?_⟩
  unfold cTupT at e
  split at e
  · split at e
    · rename_i n p _ ts g
      cases q : leafs ts with
      | none => rw [q] at e; cases e
      | some xs =>
        rw [q] at e
        cases e
        cases r with
        | cons r1 r2 =>
          cases r2
          obtain ⟨a, dx, vs, rfl, w1, c1, hd1⟩ := node_at ok r1 g
          exact .inl ⟨_, _, rfl, .inl ⟨SqL.of hd1, newT ok kk (leafs_dq c1 q)⟩⟩
    · cases e
  · exact .inr (h2 I s H ds z vs Q ok r e kk)
def cLstT (xs : List D) (t : Ts) : Option D := match xs with
  | [.r n p] => match getT t n p with
    | some (.nd .lst ts) => (leafs ts).map fun xs => .d (.list xs)
    | some (.nd (.dct ks) _) => some (.d (.list (ks.map fun k => .tuple (k.map keyD))))
    | _ => none
  | xs => cLst xs
theorem c_lstT (Wf : Fm P w K mg base k N F) : ∃ r, (∀ i, CallR (F i) (.type "list") r) ∧ CallT K r cLstT := by
  obtain ⟨r, h1, h2⟩ := c_lst (F := F) Wf
  refine ⟨_, fun i => callr_or (callr_or (clK rLstK (Wf.K i) call_list_of) (call_list_dT (Wf.calm i))) (h1 i), fun I s H ds z vs Q ok r e kk => ?_⟩
  unfold cLstT at e
  split at e
  · split at e
    · rename_i n p _ ts g
      cases q : leafs ts with
      | none => rw [q] at e; cases e
      | some xs =>
        rw [q] at e
        cases e
        cases r with
        | cons r1 r2 =>
          cases r2
          obtain ⟨a, dx, vs, rfl, w1, c1, hd1⟩ := node_at ok r1 g
          exact .inl (.inl ⟨_, _, rfl, .inl (SqL.of hd1), newL ok kk (leafs_dq c1 q)⟩)
    · rename_i n p _ ks ts g
      cases e
      cases r with
      | cons r1 r2 =>
        cases r2
        obtain ⟨a, dx, vs, rfl, w1, c1, hd1⟩ := node_at ok r1 g
        refine .inl (.inr ⟨_, _, rfl, .inl hd1.2.2, fun p bs hp hk => ?_⟩)
        have e : ((ks.zip vs).map fun p => PyData.tuple (p.1.map keyD)) = ks.map fun k => PyData.tuple (k.map keyD) := by
          have : ((ks.zip vs).map fun p => PyData.tuple (p.1.map keyD)) = ((ks.zip vs).map Prod.fst).map fun k => PyData.tuple (k.map keyD) := by rw [List.map_map]; rfl
          rw [this, List.map_fst_zip (Nat.le_of_eq hd1.1)]
        have h := isKeys_dq ok hk
        rw [e] at h
        exact newL ok kk h p hp
    · cases e
  · exact .inr (h2 I s H ds z vs Q ok r e kk)
/-- a slice of a tree's list: its items as they are -/
def mapD (n : Nat) (p : Pth) : Nat → List Tr → List D
  | _, [] => []
  | i, t :: ts => chD n p i t :: mapD n p (i + 1) ts
theorem mapD_rp {vw : Vw} {n : Nat} {p : Pth} : ∀ {j : Nat} {ts : List Tr} {vs : List V}, Chs K vw n p j ts vs → RpL K vw (mapD n p j ts) vs
  | _, _, _, .nil => .nil
  | _, _, _, .cons h t => .cons (ch_rp h) (mapD_rp t)
theorem mapD_len {n : Nat} {p : Pth} : ∀ {j : Nat} {ts : List Tr}, (mapD n p j ts).length = ts.length
  | _, [] => rfl
  | _, _ :: ts => by unfold mapD; rw [List.length_cons, List.length_cons, mapD_len]
def slX (x : D) (lo hi : Option Int) (t : Ts) : Option D := match x with
  | .r n p => match getT t n p with
    | some (.nd .lst ts) => mLst (((mapD n p 0 ts).drop (HT.sIx ts.length 0 lo)).take (HT.sIx ts.length ts.length hi - HT.sIx ts.length 0 lo))
    | _ => none
  | x => fSl x lo hi
def sSlX (a : Sm D) (l u : Sm (Option Int)) : Sm D := fun env t => (a env t).bind fun x t => (l env t).bind fun y t => (u env t).bind fun z t => ofO (slX x y z t) t
theorem rpl_drop {vw : Vw} : ∀ {vs : List V} {ds : List D} (n : Nat), RpL K vw ds vs → RpL K vw (ds.drop n) (vs.drop n)
  | _, _, 0, r => r
  | _, _, _ + 1, .nil => .nil
  | _, _, n + 1, .cons _ t => rpl_drop n t
theorem rpl_take {vw : Vw} : ∀ {vs : List V} {ds : List D} (n : Nat), RpL K vw ds vs → RpL K vw (ds.take n) (vs.take n)
  | _, _, 0, _ => .nil
  | _, _, _ + 1, .nil => .nil
  | _, _, n + 1, .cons r t => .cons r (rpl_take n t)
theorem de_sliceS {e : Expr} {lo hi : Option Expr} {p2 : Pos} {g : Sm D} {gl gu : Sm (Option Int)} (Wf : Fm P w K mg base k N F) (he : DE I K W F e g) (hl : DO I K W F lo gl) (hu : DO I K W F hi gu) :
    DE I K W F (.Subscript e (.Slice lo hi none p2) pos) (sSlX g gl gu) := by
  obtain ⟨r, h1, h2⟩ := o_sl (F := F) Wf
  exact fun i => (pe_slice ((slK rSlL (Wf.K i) sl_list).or (h1 i)) (he i) (hl i) (hu i)).imp fun σ H Q ⟨env, s, ok, re, h⟩ =>
    step (Po.refl ok) re h fun x v s1 H1 p1 _ r1 h => stepO p1 re h fun y s2 H2 p2 q2 h => stepO p2 re h fun z s3 H3 p3 q3 h => by
      obtain ⟨b, e, h⟩ := post_ofO h
      have rx := rp_same (q2.trans q3).same r1
      unfold slX at e
      split at e
      · split at e
        · rename_i n p _ ts g
          obtain ⟨a, dx, vs, rfl, w1, c1, hd1⟩ := node_at p3.ok rx g
          refine .inl ⟨_, _, rfl, SqL.of hd1, ?_⟩
          have hh := rpl_take (HT.sIx ts.length ts.length z - HT.sIx ts.length 0 y) (rpl_drop (HT.sIx ts.length 0 y) (mapD_rp c1))
          unfold mLst at e
          have ec : cutV vs y z = (vs.drop (HT.sIx ts.length 0 y)).take (HT.sIx ts.length ts.length z - HT.sIx ts.length 0 y) := by unfold cutV; rw [chs_len c1]
          rw [ec]
          split at e
          · split at e
            · rename_i xs q
              cases e
              exact newL p3.ok (fun v H' p4 r4 => h v s3 H' rfl (p3.trans p4) r4) (rpl_pd hh q)
            · cases e
              exact newLS p3.ok (fun v H' p4 r4 => h v s3 H' rfl (p3.trans p4) r4) hh
          · cases e
        · cases e
      · exact .inr (h2 I s3 H3 x b y z v Q p3.ok rx e fun v H' p4 r4 => h v s3 H' rfl (p3.trans p4) r4)
end
end Dl
set_option maxRecDepth 100000
set_option maxHeartbeats 4000000
namespace Dl
open PySem L2 PyProof.Rows

/-! ### a new object becomes a tree -/
section
variable {I : SI} {K : PySem.W.Frag} {s s1 : St1} {H H1 : Hp} {L : Addr} {o : HO}
theorem gro_alloc {k : Kd} {ds : List D} {vs : List V} (z1 : s1.Z L = none) (gr : Gro I K L s1 H1 o s H) (hL : H1 L = none) (hk : k.isIns = false) (hh : Holds I.mg H L L vs k) (hr : RpL K (Hr I s H) ds vs) (ht : topL ds = 0) :
    Po I K s1 H1 (allocS (s.zz s1.Z) k ds L L) H ∧ Rp K (Hr I (allocS (s.zz s1.Z) k ds L L) H) (.r s.t.length []) (.ref L) := by
  have zL : s.Z L = some o := by rw [gr.ze]; exact upd_same
  have zne : ∀ {b}, b ≠ L → s.Z b = s1.Z b := fun {b} c => by rw [gr.ze, upd_ne c]
  have n1 : ∀ {n p x}, s.w n p = some x → (allocS (s.zz s1.Z) k ds L L).w n p = some x := fun {n p x} e => by
    have := (gr.ok.dom n p x e).1
    show (if n = s.t.length ∧ p = [] then some (L, L) else s.w n p) = some x
    rw [if_neg (fun z => by omega)]
    exact e
  have g2 : (allocS (s.zz s1.Z) k ds L L).w s.t.length [] = some (L, L) := if_pos ⟨rfl, rfl⟩
  have g1 : ∀ {n p kq xs}, getT s.t n p = some (.nd kq xs) → (allocS (s.zz s1.Z) k ds L L).w n p = s.w n p := fun {n p kq xs} e => by
    obtain ⟨T, e1, _⟩ := getT_some e
    have := (List.getElem?_eq_some_iff.mp e1).1
    show (if n = s.t.length ∧ p = [] then some (L, L) else s.w n p) = s.w n p
    exact if_neg (fun z => by omega)
  have back : ∀ {n p kq xs}, getT (allocS (s.zz s1.Z) k ds L L).t n p = some (.nd kq xs) → (n = s.t.length ∧ p = [] ∧ kq = k ∧ xs = ds.map Tr.v) ∨ getT s.t n p = some (.nd kq xs) := fun {n p kq xs} e => by
    rcases app_get e with ⟨e1, T, e2, e3⟩ | e
    · cases e2
      obtain ⟨f1, f2, f3⟩ := get_leafs e3
      exact .inl ⟨e1, f1, f2, f3⟩
    · exact .inr e
  have mm : ∀ b, I.M (allocS (s.zz s1.Z) k ds L L) b → b = L ∨ I.M (s.zz s1.Z) b := fun b m => by
    rcases m with ⟨n, p, kq, xs, b1, b2, e1, e2, e3⟩ | m
    · rcases back e1 with ⟨rfl, rfl, rfl, rfl⟩ | e4
      · rw [g2] at e2
        cases e2
        rcases e3 with e3 | ⟨_, e3⟩ <;> exact .inl e3
      · rw [g1 e4] at e2
        exact .inr (.inl ⟨n, p, kq, xs, b1, b2, e4, e2, e3⟩)
    · exact .inr (.inr m)
  have mu : ∀ b, I.M (s.zz s1.Z) b → I.M s b := fun b m => by
    rcases m with m | ⟨u, m⟩ | m
    · exact .inl m
    · by_cases c : b = L
      · subst c
        have m : s1.Z b = some u := m
        rw [z1] at m; cases m
      · exact .inr (.inl ⟨u, by rw [zne c]; exact m⟩)
    · exact .inr (.inr m)
  have vle : VLe (Hr I s H) (Hr I (allocS (s.zz s1.Z) k ds L L) H) := vle_of (fun b u hb => by
    obtain ⟨b1, b2⟩ := hr_of hb
    exact hr_in b1 fun z => b2 ((mm b z).elim (fun e => .inr (.inl ⟨o, by rw [e]; exact zL⟩)) (mu b))) fun n p x e => n1 e
  refine ⟨⟨gr.po.keep, ⟨fun n p kq xs e => ?_, fun n p kq xs n' p' kq' xs' b b2 b3 e e' e1 e2 => ?_, fun n p x e => ?_, fun b u e => ?_, gr.ok.tab, fun n p x e => n1 (gr.ok.fl n p x e)⟩, fun b m => ?_, gr.po.live, fun n p x e => n1 (gr.po.wle n p x e), rfl⟩, ⟨L, rfl, ?_⟩⟩
  · rcases back e with ⟨rfl, rfl, rfl, rfl⟩ | e4
    · exact ⟨L, L, vs, g2, z1, (fun hi => by rw [hk] at hi; cases hi), chs_v (rpl_same vle hr) ht, hh⟩
    · obtain ⟨b1, b2, ws, w1, y1, yx1, c1, hd1⟩ := gr.ok.nod n p kq xs e4
      have c : ∀ {b}, s.Z b = none → s1.Z b = none := fun {b} e => by
        rw [← zne (b := b) (fun z => by rw [z, zL] at e; cases e)]; exact e
      exact ⟨b1, b2, ws, n1 w1, c y1, fun hi => c (yx1 hi), chs_same vle c1, hd1⟩
  · have nw : ∀ {n p kq xs b b2}, getT s.t n p = some (.nd kq xs) → (allocS (s.zz s1.Z) k ds L L).w n p = some (b, b2) → b ≠ L := fun {n p kq xs b b2} e4 e5 z => by
      rw [g1 e4] at e5
      obtain ⟨c1, c2, ws, w1, y1, yx1, cc, hd1⟩ := gr.ok.nod n p kq xs e4
      rw [e5] at w1
      cases w1
      rw [z, zL] at y1
      cases y1
    rcases back e with ⟨rfl, rfl, rfl, rfl⟩ | e4
    · rcases back e' with ⟨rfl, rfl, rfl, rfl⟩ | e5
      · exact ⟨rfl, rfl⟩
      · rw [g2] at e1
        cases e1
        exact absurd rfl (nw e5 e2)
    · rcases back e' with ⟨rfl, rfl, rfl, rfl⟩ | e5
      · rw [g2] at e2
        cases e2
        exact absurd rfl (nw e4 e1)
      · rw [g1 e4] at e1
        rw [g1 e5] at e2
        exact gr.ok.inj n p kq xs n' p' kq' xs' b b2 b3 e4 e5 e1 e2
  · have e : (if n = s.t.length ∧ p = [] then some (L, L) else s.w n p) = some x := e
    by_cases c : n = s.t.length ∧ p = []
    · obtain ⟨rfl, rfl⟩ := c
      refine ⟨by show _ < (s.t ++ [_]).length; rw [List.length_append]; exact Nat.lt_succ_self _, fun T hT => ?_⟩
      have hT : (s.t ++ [some (Tr.nd k (ds.map Tr.v))])[s.t.length]? = some (some T) := hT
      rw [List.getElem?_append_right (Nat.le_refl _), Nat.sub_self] at hT
      cases hT
      exact ⟨k, _, get_nil _⟩
    · rw [if_neg c] at e
      obtain ⟨d1, d2⟩ := gr.ok.dom n p x e
      refine ⟨by show _ < (s.t ++ [_]).length; rw [List.length_append]; omega, fun T hT => ?_⟩
      have hT : (s.t ++ [some (Tr.nd k (ds.map Tr.v))])[n]? = some (some T) := hT
      rw [List.getElem?_append_left d1] at hT
      exact d2 T hT
  · have e : s1.Z b = some u := e
    exact gr.ok.z b u (by rw [zne (fun z => by rw [z, z1] at e; cases e)]; exact e)
  · rcases mm b m with e | e
    · exact .inr (by rw [e]; exact hL)
    · exact gr.po.gro b e
  · show ((allocS (s.zz s1.Z) k ds L L).w s.t.length []).map (·.1) = some L
    rw [g2]
    rfl
/-- a list laid at once -/
theorem new_lst {ds : List D} {vs : List V} (ok : I.ok K s H) (hr : RpL K (Hr I s H) ds vs) (ht : topL ds = 0) {p : Addr} (hp : H p = none) :
    ∃ s', s'.t = s.t ++ [some (.nd .lst (ds.map Tr.v))] ∧ Po I K s H s' (upd H p (.lst vs)) ∧ Rp K (Hr I s' (upd H p (.lst vs))) (.r s.t.length []) (.ref p) := by
  have gr := Gro.start (o := .lst vs) ok hp (.inl ⟨vs, rfl⟩)
  obtain ⟨h1, h2⟩ := gro_alloc (k := .lst) (ok_zL ok hp) gr hp rfl upd_same (rpl_same gr.sm hr) ht
  exact ⟨_, rfl, h1, h2⟩
end
def newLs (ds : List D) (t : Ts) : R D := if topL ds = 0 ∧ ds.length ≤ 100000 then .ok (.r t.length []) (t ++ [some (.nd .lst (ds.map Tr.v))]) else .no
section
variable {ι : Type} {P : Program} {w : World} {K : PySem.W.Frag} {mg : Str → Option Value} {base : Heap} {k : Nat} {N : List Str} {F : ι → Cx} {I : SI} {W : WX} {pos : Pos}
theorem post_ite {α : Type} {c : Prop} [Decidable c] {a : R α} {P : α → Ts → Prop} {X : Exn → Ts → Prop} (h : (if c then a else .no).Post P X) : c ∧ a.Post P X := by
  by_cases q : c
  · rw [if_pos q] at h; exact ⟨q, h⟩
  · rw [if_neg q] at h; exact h.elim
/-- [a, b, ..], a list that will change -/
def sAlL (a : Sm (List D)) : Sm D := fun env t => (a env t).bind newLs
theorem de_allocL {es : List Expr} {g : Sm (List D)} (h : DA I K W F es g) : DE I K W F (.List es pos) (sAlL g) := fun i => (pe_lst (h i)).imp fun σ H Q ⟨env, s, ok, re, h⟩ =>
  stepL (Po.refl ok) re h fun ds vs s1 H1 p1 _ r1 h => by
    obtain ⟨⟨c1, c2⟩, h⟩ := post_ite h
    refine ⟨by rw [rpl_len r1]; exact sz c2, fun p hp => ?_⟩
    obtain ⟨s', e1, e2, e3⟩ := new_lst p1.ok r1 c1 hp
    exact h _ s' _ e1 (p1.trans e2) e3
/-- list(e), a list that will change -/
def lsOf (x : D) (t : Ts) : Option (List D) := match x with
  | .r n p => match getT t n p with
    | some (.nd .lst ts) => (leafs ts).map fun xs => xs.map D.d
    | _ => none
  | .d (.list xs) => some (xs.map D.d)
  | .d (.tuple xs) => some (xs.map D.d)
  | _ => none
def sAlC (a : Sm D) : Sm D := fun env t => (a env t).bind fun x t => (ofO (lsOf x t) t).bind newLs
theorem topL_d (xs : List PyData) : topL (xs.map D.d) = 0 := by
  induction xs with
  | nil => rfl
  | cons x r ih => rw [List.map_cons, topL, ih]; rfl
theorem lsOf_at {s : St1} {H : Hp} {x : D} {v : V} {ds : List D} (ok : I.ok K s H) (r : Rp K (Hr I s H) x v) (h : lsOf x s.t = some ds) : ∃ p ys, v = .ref p ∧ (SqL K H p ys ∨ SqT K H p ys) ∧ RpL K (Hr I s H) ds ys := by
  unfold lsOf at h
  split at h
  · split at h
    · rename_i n p _ ts g
      cases q : leafs ts with
      | none => rw [q] at h; cases h
      | some xs =>
        rw [q] at h
        cases h
        obtain ⟨a, dx, vs, rfl, w1, c1, hd1⟩ := node_at ok r g
        exact ⟨a, vs, rfl, .inl (SqL.of hd1), rpl_of (leafs_dq c1 q)⟩
    · cases h
  · cases h
    cases r with
    | lst h1 h2 => exact ⟨_, _, rfl, .inl (sql_same hr_sub (SqL.of h1)), rpl_of h2⟩
  · cases h
    cases r with
    | tup h1 h2 => exact ⟨_, _, rfl, .inr (SqT.of (hr_sub _ _ h1)), rpl_of h2⟩
  · cases h
theorem de_allocC {e : Expr} {p : Pos} {g : Sm D} (Wf : Fm P w K mg base k N F) (hm : mg "list" = none) (hv : bootBuiltins "list" = some (.type "list")) (h : DE I K W F e g)
    (hg : ∀ i, Gl (F i) "list" := by exact fun _ => rfl)
    (he : ∀ i, starEach [e] (F i).env = (false, eval e (F i).env) :: starEach [] (F i).env := by exact fun _ => rfl) (hpl : ∀ i, (backTo pos (starEach [] (F i).env)).any (·.1) = false := by exact fun _ => rfl) : DE I K W F (.Call (.Name "list" p) [e] [] pos) (sAlC g) := fun i =>
  (pe_callTy (clK rLstK (Wf.K i) call_list_of) (hg i) (by rw [Wf.mg i]; exact hm) hv (pa_cons (h i) pa_nil (he i)) (by decide) (by decide) (he i) (hpl i)).imp fun σ H Q ⟨env, s, ok, re, h⟩ =>
    step (Po.refl ok) re h fun x v s1 H1 p1 _ r1 h => by
      obtain ⟨ds, e, h⟩ := post_ofO (R.post_bind h)
      obtain ⟨⟨c1, c2⟩, h⟩ := post_ite h
      obtain ⟨p, ys, rfl, hq, hr⟩ := lsOf_at p1.ok r1 e
      refine ⟨p, ys, rfl, hq, fun l hl => ?_⟩
      obtain ⟨s', e1, e2, e3⟩ := new_lst p1.ok hr c1 hl
      exact h _ s' _ e1 (p1.trans e2) e3
/-- a list times a number, a list that will change -/
def repD (x y : D) : Option (List D) := match x, y with
  | .d (.list a), .d (.int j) => if -(2 ^ 63) ≤ j ∧ j < 2 ^ 63 ∧ a.length * j.toNat ≤ 100000 then some ((List.replicate j.toNat a).flatten.map D.d) else none
  | _, _ => none
theorem repD_some {x y : D} {ds : List D} (e : repD x y = some ds) : ∃ a j, x = .d (.list a) ∧ y = .d (.int j) ∧ (-(2 ^ 63) ≤ j ∧ j < 2 ^ 63 ∧ a.length * j.toNat ≤ 100000) ∧ ds = (List.replicate j.toNat a).flatten.map D.d := by
  unfold repD at e
  split at e
  · rename_i a j
    by_cases c : -(2 ^ 63) ≤ j ∧ j < 2 ^ 63 ∧ a.length * j.toNat ≤ 100000
    · rw [if_pos c] at e
      cases e
      exact ⟨a, j, rfl, rfl, c, rfl⟩
    · rw [if_neg c] at e; cases e
  · cases e
def sAlR (a b : Sm D) : Sm D := fun env t => (a env t).bind fun x t => (b env t).bind fun y t => (ofO (repD x y) t).bind newLs
theorem de_allocR {a b : Expr} {ga gb : Sm D} (ha : DE I K W F a ga) (hb : DE I K W F b gb) : DE I K W F (.BinOp a .Mult b pos) (sAlR ga gb) := fun i =>
  (pe_op op_rep (ha i) (hb i)).imp fun σ H Q ⟨env, s, ok, re, h⟩ => step (Po.refl ok) re h fun x v1 s1 H1 p1 _ r1 h => step p1 re h fun y v2 s2 H2 p2 q2 r2 h => by
    obtain ⟨ds, e, h⟩ := post_ofO (R.post_bind h)
    obtain ⟨⟨c1, c2⟩, h⟩ := post_ite h
    have rx := rp_same q2.same r1
    obtain ⟨al, j, rfl, rfl, c, rfl⟩ := repD_some e
    cases r2
    cases rx with
    | lst h1 h2 =>
      refine ⟨_, _, _, rfl, rfl, hr_sub _ _ h1, c.1, c.2.1, by rw [dqa_len h2]; exact sz c.2.2, fun l hl => ?_⟩
      obtain ⟨s', e1, e2, e3⟩ := new_lst p2.ok (rpl_of (dqa_rep h2 _)) c1 hl
      exact h _ s' _ e1 (p2.trans e2) e3
/-- a comprehension, a list that will change -/
theorem tg_alLc {g : TG} {vs : List Nat} {gs : Sm Itb} {gg : D → Env → Option Env} {gt : Sm Bool} {ge : Sm D} (hg : EvG I K g gg) (hs : Str1 g vs) :
    ∀ σ H Q, tG I K W (sAlL (sLc gg vs gs gt ge)) σ H Q → tLc (tGI I K W gs) g (tGB I K WF gt) (tG I K WF ge) vs σ H Q := fun σ H Q ⟨env, s, ok, re, h⟩ => by
  have h : ((gs env s.t).bind fun it t => (goItC it gg (wipeE env vs) gt ge t).bind newLs).Post (fun d t => ∀ v s' H', s'.t = t → Po I K s H s' H' → Rp K (Hr I s' H') d v → Q v H') (XP I K W s σ H) := by
    unfold sAlL sLc at h
    cases q : gs env s.t with
    | no => rw [q] at h; exact h
    | ok a t => rw [q] at h; exact h
    | ex x t => rw [q] at h; exact h
  refine stepI (Po.refl ok) re h fun it J s1 H1 p1 _ wk h => ?_
  obtain ⟨m, hm, h⟩ := goItC_N (R.post_bind h)
  refine lc_sound hg hs p1.ok (re.same p1.same) wk hm h fun L acc ds s2 H2 hL gr r hp => ?_
  obtain ⟨⟨c1, c2⟩, hp⟩ := post_ite hp
  obtain ⟨e1, e2⟩ := gro_alloc (k := .lst) (ok_zL p1.ok hL) gr hL rfl gr.at_ r c1
  exact hp (.ref L) _ H2 rfl (p1.trans e1) e2
theorem de_allocLc {elt tg iter : Expr} {ifs : List Expr} {scope : Scope} (own : List (Str × Nat)) {gs : Sm Itb} {gg : D → Env → Option Env} {gt : Sm Bool} {ge : Sm D} (Wf : Fm P w K mg base k N F)
    (ok : ∀ i, BlkOk (F i).N (F i).env.scope scope own) (hi : DI I K W F tg iter gs) (hg : DGv I K (blkF scope F) (own.map (·.2)) tg gg) (ht : DTs I K WF (blkF scope F) ifs gt) (he : DE I K WF (blkF scope F) elt ge)
    (hs : ∀ i x, foldedSetIterable iter (F i).env x = pure x := by exact fun _ _ => rfl) : DE I K W F (.ListComp elt [⟨tg, iter, ifs, 0⟩] scope pos) (sAlL (sLc gg (own.map (·.2)) gs gt ge)) := by
  obtain ⟨g, g1, g2, g3⟩ := hg
  exact fun i => (pe_lc (Wf.calm i) (by rw [Wf.N i]; exact Wf.nd) (hi i) (ok i) (fun s H C cl fp => g1 (i, s, H, C, cl, fp)) (fun s H C cl fp => ht (i, s, H, C, cl, fp)) (fun s H C cl fp => he (i, s, H, C, cl, fp)) (hs i)).imp (tg_alLc g2 g3)
theorem ds_setAlLc {y : Str} {py spos : Pos} {elt tg iter : Expr} {ifs : List Expr} {scope : Scope} (own : List (Str × Nat)) {gs : Sm Itb} {gg : D → Env → Option Env} {gt : Sm Bool} {ge : Sm D} (Wf : Fm P w K mg base k N F) (i : Nat)
    (ok : ∀ i, BlkOk (F i).N (F i).env.scope scope own) (hi : DI I K W F tg iter gs) (hg : DGv I K (blkF scope F) (own.map (·.2)) tg gg) (ht : DTs I K WF (blkF scope F) ifs gt) (he : DE I K WF (blkF scope F) elt ge)
    (hsw : ∀ j, swapsWith (.ListComp elt [⟨tg, iter, ifs, 0⟩] scope pos) (some (.Name y py)) spos.line (F j).env = pure true) (hy : ∀ j, (F j).N[i]? = some y := by exact fun _ => rfl) (hyl : ∀ j, (F j).env.scope.names.lookup y = some .local := by exact fun _ => rfl)
    (hs : ∀ i x, foldedSetIterable iter (F i).env x = pure x := by exact fun _ _ => rfl) : DS I K W F (.Assign [.Name y py] (.ListComp elt [⟨tg, iter, ifs, 0⟩] scope pos) spos) (sAsg (gN i) (sAlL (sLc gg (own.map (·.2)) gs gt ge))) := by
  obtain ⟨g, g1, g2, g3⟩ := hg
  exact fun j => (ps_setLc (Wf.calm j) (by rw [Wf.N j]; exact Wf.nd) (hy j) (hyl j) (hsw j) (hi j) (ok j) (fun s H C cl fp => g1 (j, s, H, C, cl, fp)) (fun s H C cl fp => ht (j, s, H, C, cl, fp)) (fun s H C cl fp => he (j, s, H, C, cl, fp)) (hs j)).imp
    (tgs_asg (tg_alLc g2 g3) (evg_name i))
/-! ### a list that will not change any more: handed on as data -/
def frz (x : D) (t : Ts) : R D := match x with
  | .r n [] => match t[n]? with
    | some (some (.nd .lst ts)) => match leafs ts with
      | some xs => .ok (.d (.list xs)) (t.set n none)
      | none => .no
    | _ => .no
  | _ => .no
def sFrz (a : Sm D) : Sm D := fun env t => (a env t).bind frz
theorem de_frz {e : Expr} {g : Sm D} (h : DE I K W F e g) : DE I K W F e (sFrz g) := fun i => (h i).imp fun σ H Q ⟨env, s, ok, re, h⟩ =>
  step (Po.refl ok) re h fun x v s1 H1 p1 _ r1 h => by
    unfold frz at h
    split at h
    · rename_i n
      split at h
      · rename_i ts e
        split at h
        · rename_i xs q
          have g : getT s1.t n [] = some (.nd .lst ts) := by rw [getT_of e]; exact get_nil _
          obtain ⟨a, dx, vs, rfl, w1, c1, hd1⟩ := node_at p1.ok r1 g
          have pk := po_kill n p1.ok
          have na : ¬ I.M (killS s1 n) a := kill_free p1.ok g w1
          exact h _ (killS s1 n) H1 rfl (p1.trans pk) (.lst (hr_in hd1 na) (dpa_same pk.same.h (leafs_dq c1 q)))
        · exact h.elim
      · exact h.elim
    · exact h.elim
end
end Dl
set_option maxRecDepth 100000
set_option maxHeartbeats 4000000
namespace Dl
open PySem L2 PyProof.Rows

/-! ### methods, new instances -/
/-- the method m of the class c -/
structure Gm (P : Program) (w : World) (K : PySem.W.Frag) (mg : Str → Option Value) (base : Heap) (c m : Str) (k n : Nat) (f : List D → Ts → R D) : Prop where
  ex : ∃ (C fa : Addr) (fd : FuncData) (ps : List Str), mg c = some (.ref C) ∧ Cls K C ∧ Meth K C m fa ∧ ps.length = n ∧ Binds K fd ps [] ∧ FnOk P w K mg base (L2.CX P w) k fa fd ps (spS K mg n f)
  ln : ∀ ds t, ds.length ≠ n → f ds t = .no
theorem Gm.len {P : Program} {w : World} {K : PySem.W.Frag} {mg : Str → Option Value} {base : Heap} {c m : Str} {k n : Nat} {f : List D → Ts → R D} (G : Gm P w K mg base c m k n f) {ds : List D} {t : Ts} {A : D → Ts → Prop} {B : Exn → Ts → Prop} (h : (f ds t).Post A B) : ds.length = n := by
  by_cases c : ds.length = n
  · exact c
  · rw [G.ln ds t c] at h; exact h.elim
/-- an instance of c without an attribute m -/
def isInst (c m : Str) (x : D) (t : Ts) : Bool := match x with
  | .r n p => match getT t n p with
    | some (.nd (.ins c' ks) _) => decide (c' = c) && (kix m ks).isNone
    | _ => false
  | _ => false
def sMeth (c m : Str) (f : List D → Ts → R D) (o : Sm D) (a : Sm (List D)) : Sm D := fun env t => (o env t).bind fun x t => if isInst c m x t = true then (a env t).bind fun xs t => f (x :: xs) t else .no
section
variable {I : SI} {K : PySem.W.Frag} {s : St1} {H : Hp} {mg : Str → Option Value}
theorem inst_at {c m : Str} {x : D} {v : V} {C : Addr} (im : I.mg = mg) (ok : I.ok K s H) (r : Rp K (Hr I s H) x v) (hC : mg c = some (.ref C)) (h : isInst c m x s.t = true) : ∃ a dx fs, v = .ref a ∧ H a = some (.ins C dx fs) ∧ fs.lookup m = none := by
  unfold isInst at h
  split at h
  · split at h
    · rename_i n p _ c' ks ts g
      rw [Bool.and_eq_true, decide_eq_true_eq] at h
      obtain ⟨e, h⟩ := h
      subst e
      obtain ⟨a, dx, vs, rfl, w1, c1, hd1⟩ := node_at ok r g
      obtain ⟨h1, h2, C', h3, h4, h5⟩ := hd1
      rw [im, hC] at h3
      cases h3
      exact ⟨a, dx, _, rfl, h4, zip_lookN (idx_none (Option.isNone_iff_eq_none.mp h))⟩
    · cases h
  · cases h
end
/-- W does not look at the slots -/
def WInd (W : WX) : Prop := ∀ cls d σ σ' H, W cls d σ H → W cls d σ' H
section
variable {ι : Type} {P : Program} {w : World} {K : PySem.W.Frag} {mg : Str → Option Value} {base : Heap} {k : Nat} {N : List Str} {F : ι → Cx} {I : SI} {W : WX} {pos : Pos}
theorem de_meth {c m : Str} {o e : Expr} {es : List Expr} {apos : Pos} {j n : Nat} {f : List D → Ts → R D} {go : Sm D} {ga : Sm (List D)} (Wf : Fm P w K mg base k N F) (tk : ∀ i, Takes (F i) W) (wi : WInd W) (im : I.mg = mg) (G : Gm P w K mg base c m j n f) (hj : j ≤ k) (ho : DE I K W F o go) (ha : DA I K W F (e :: es) ga)
    (hpe : ∀ i (C fa : Addr) (fd : FuncData) (ps : List Str) (ta : TE) (t : TA) (E : XK), PE (F i) o ta → Cls (F i).K C → Meth (F i).K C m fa → FnOk (F i).prog (F i).w (F i).K (F i).mg (F i).base (L2.CX (F i).prog (F i).w) j fa fd ps (spS K mg n f) → Room j (F i).A → Binds (F i).K fd ps [] → Passes (L2.CX (F i).prog (F i).w) (F i) E → PA (F i) (e :: es) t →
      PE (F i) (.Call (.Attribute o m apos) (e :: es) [] pos) (tMeth C m (spS K mg n f) [] E ta t)) :
    DE I K W F (.Call (.Attribute o m apos) (e :: es) [] pos) (sMeth c m f go ga) := fun i => by
  obtain ⟨C, fa, fd, ps, h1, h2, h3, h4, h5, h6⟩ := G.ex
  have h6' : FnOk (F i).prog (F i).w (F i).K (F i).mg (F i).base (L2.CX (F i).prog (F i).w) j fa fd ps (spS K mg n f) := by rw [Wf.prog i, Wf.w i, Wf.K i, Wf.mg i, Wf.base i]; exact h6
  refine (hpe i C fa fd ps _ _ (fun cls d H => ∀ σ, W cls d σ H) (ho i) (by rw [Wf.K i]; exact h2) (by rw [Wf.K i]; exact h3) h6' ((Wf.room i).mono hj) (by rw [Wf.K i]; exact h5) (passes_call (tk i) fun cls d σ H h => h σ) (ha i)).imp fun σ H Q ⟨env, s, ok, re, h⟩ =>
    step (Po.refl ok) re h fun x v s1 H1 p1 _ r1 h => ?_
  by_cases cc : isInst c m x s1.t = true
  · rw [if_pos cc] at h
    obtain ⟨a, dx, fs, rfl, g1, g2⟩ := inst_at im p1.ok r1 h1 cc
    refine ⟨a, dx, fs, rfl, g1, g2, stepL p1 re h fun xs vs s2 H2 p2 q2 r2 h => ?_⟩
    rw [List.append_nil]
    refine ⟨by rw [List.length_cons, rpl_len r2]; exact G.len h, I, s2, x :: xs, im, p2.ok, .cons (rp_same q2.same r1) r2, h.mono (fun d t q v s' H' e2 p3 r3 => q v s' H' e2 (p2.trans p3) r3) fun y t q cls dd s' H' e2 p3 a σ' => wi cls dd σ σ' H' (q cls dd s' H' e2 (p2.trans p3) a)⟩
  · rw [if_neg cc] at h; exact h.elim
theorem de_meth0 {c m : Str} {o : Expr} {apos : Pos} {j n : Nat} {f : List D → Ts → R D} {go : Sm D} (Wf : Fm P w K mg base k N F) (tk : ∀ i, Takes (F i) W) (wi : WInd W) (im : I.mg = mg) (G : Gm P w K mg base c m j n f) (hj : j ≤ k) (ho : DE I K W F o go)
    (hpe : ∀ i (C fa : Addr) (fd : FuncData) (ps : List Str) (ta : TE) (E : XK), PE (F i) o ta → Cls (F i).K C → Meth (F i).K C m fa → FnOk (F i).prog (F i).w (F i).K (F i).mg (F i).base (L2.CX (F i).prog (F i).w) j fa fd ps (spS K mg n f) → Room j (F i).A → Binds (F i).K fd ps [] → Passes (L2.CX (F i).prog (F i).w) (F i) E →
      PE (F i) (.Call (.Attribute o m apos) [] [] pos) (tMeth C m (spS K mg n f) [] E ta tNil)) :
    DE I K W F (.Call (.Attribute o m apos) [] [] pos) (sMeth c m f go sNil) := fun i => by
  obtain ⟨C, fa, fd, ps, h1, h2, h3, h4, h5, h6⟩ := G.ex
  have h6' : FnOk (F i).prog (F i).w (F i).K (F i).mg (F i).base (L2.CX (F i).prog (F i).w) j fa fd ps (spS K mg n f) := by rw [Wf.prog i, Wf.w i, Wf.K i, Wf.mg i, Wf.base i]; exact h6
  refine (hpe i C fa fd ps _ (fun cls d H => ∀ σ, W cls d σ H) (ho i) (by rw [Wf.K i]; exact h2) (by rw [Wf.K i]; exact h3) h6' ((Wf.room i).mono hj) (by rw [Wf.K i]; exact h5) (passes_call (tk i) fun cls d σ H h => h σ)).imp fun σ H Q ⟨env, s, ok, re, h⟩ =>
    step (Po.refl ok) re h fun x v s1 H1 p1 _ r1 h => ?_
  by_cases cc : isInst c m x s1.t = true
  · rw [if_pos cc] at h
    obtain ⟨a, dx, fs, rfl, g1, g2⟩ := inst_at im p1.ok r1 h1 cc
    have h : (f [x] s1.t).Post _ (XP I K W s σ H) := h
    refine ⟨a, dx, fs, rfl, g1, g2, ?_⟩
    exact ⟨G.len h, I, s1, [x], im, p1.ok, .cons r1 .nil, h.mono (fun d t q v s' H' e2 p3 r3 => q v s' H' e2 (p1.trans p3) r3) fun y t q cls dd s' H' e2 p3 a σ' => wi cls dd σ σ' H' (q cls dd s' H' e2 (p1.trans p3) a)⟩
  · rw [if_neg cc] at h; exact h.elim
/-- the class c with its __init__ -/
structure Gk (P : Program) (w : World) (K : PySem.W.Frag) (mg : Str → Option Value) (base : Heap) (c : Str) (k n : Nat) (f : List D → Ts → R D) : Prop where
  ex : ∃ (C fa : Addr) (fd : FuncData) (ps : List Str), mg c = some (.ref C) ∧ Mk K C fa ∧ ps.length = n ∧ Binds K fd ps [] ∧ FnOk P w K mg base (L2.CX P w) k fa fd ps (spS K mg n f)
  ln : ∀ ds t, ds.length ≠ n → f ds t = .no
def sMake (c : Str) (f : List D → Ts → R D) (a : Sm (List D)) : Sm D := fun env t => (a env t).bind fun xs t => (f (.r t.length [] :: xs) (t ++ [some (.nd (.ins c []) [])])).bind fun d t2 => match d with
  | .d .none => .ok (.r t.length []) t2
  | _ => .no
theorem de_make {c : Str} {e : Expr} {es : List Expr} {p : Pos} {j n : Nat} {f : List D → Ts → R D} {ga : Sm (List D)} (Wf : Fm P w K mg base k N F) (tk : ∀ i, Takes (F i) W) (wi : WInd W) (im : I.mg = mg) (G : Gk P w K mg base c j n f) (hj : j + 1 ≤ k) (ha : DA I K W F (e :: es) ga)
    (hg : ∀ i, Gl (F i) c := by exact fun _ => rfl) (hdb : (c == ("__debug__" : Str)) = false := by decide)
    (he : ∀ i, starEach (e :: es) (F i).env = (false, eval e (F i).env) :: starEach es (F i).env := by exact fun _ => rfl) (hpl : ∀ i, (backTo pos (starEach es (F i).env)).any (·.1) = false := by exact fun _ => rfl) :
    DE I K W F (.Call (.Name c p) (e :: es) [] pos) (sMake c f ga) := fun i => by
  obtain ⟨C, fa, fd, ps, h1, h2, h4, h5, h6⟩ := G.ex
  have h6' : FnOk (F i).prog (F i).w (F i).K (F i).mg (F i).base (L2.CX (F i).prog (F i).w) j fa fd ps (spS K mg n f) := by rw [Wf.prog i, Wf.w i, Wf.K i, Wf.mg i, Wf.base i]; exact h6
  refine (pe_make (E := fun cls d H => ∀ σ, W cls d σ H) (by rw [Wf.K i]; exact h2) h6' ((Wf.room i).mono hj) (hg i) (by rw [Wf.mg i]; exact h1) (by rw [Wf.K i]; exact h5) .nil (passes_call (tk i) fun cls d σ H h => h σ) (ha i) hdb (he i) (hpl i)).imp fun σ H Q ⟨env, s, ok, re, h⟩ =>
    stepL (Po.refl ok) re h fun xs vs s1 H1 p1 _ r1 h => fun x dx nx ndx nex => ?_
  rw [List.append_nil]
  have hs : Same H1 (upd (upd H1 dx (.own x)) x (.ins C dx [])) := fun b u e => by
    rw [upd_ne (ne_of_none e nx), upd_ne (ne_of_none e ndx)]; exact e
  have hh : Holds I.mg (upd (upd H1 dx (.own x)) x (.ins C dx [])) x dx [] (.ins c []) := ⟨rfl, List.nodup_nil, C, by rw [im]; exact h1, upd_same, by rw [upd_ne nex, upd_same]⟩
  have pa := po_alloc (k := .ins c []) (ds := []) (vs := []) p1.ok hs nx (fun _ => ndx) hh .nil rfl
  have rs : Rp K (Hr I (allocS s1 (.ins c []) [] x dx) (upd (upd H1 dx (.own x)) x (.ins C dx []))) (.r s1.t.length []) (.ref x) := ⟨x, rfl, by
    show ((allocS s1 (.ins c []) [] x dx).w s1.t.length []).map (·.1) = some x
    rw [show (allocS s1 (.ins c []) [] x dx).w s1.t.length [] = some (x, dx) from if_pos ⟨rfl, rfl⟩]
    rfl⟩
  have h := R.post_bind h
  have hl : (D.r s1.t.length [] :: xs).length = n := by
    by_cases c : (D.r s1.t.length [] :: xs).length = n
    · exact c
    · rw [G.ln _ _ c] at h; exact h.elim
  refine ⟨by rw [List.length_cons, rpl_len r1]; exact hl, I, allocS s1 (.ins c []) [] x dx, .r s1.t.length [] :: xs, im, pa.ok, .cons rs (rpl_same pa.same r1), h.mono (fun d t q v s' H' e2 p3 r3 => ?_) fun y t q cls dd s' H' e2 p3 a σ' => wi cls dd σ σ' H' (q cls dd s' H' e2 ((p1.trans pa).trans p3) a)⟩
  split at q
  · cases r3
    exact ⟨rfl, q _ s' H' e2 ((p1.trans pa).trans p3) (rp_same p3.same rs)⟩
  · exact q.elim
end
end Dl
set_option maxRecDepth 100000
set_option maxHeartbeats 4000000
namespace Dl
open PySem L2 PyProof.Rows

/-! ### a displayed dict that is asked at once -/
inductive RpK (K : PySem.W.Frag) (H : Vw) : List (Key × D) → List (Key × V) → Prop
  | nil : RpK K H [] []
  | cons {k : Key} {d : D} {v : V} {ds : List (Key × D)} {ps : List (Key × V)} : Rp K H d v → RpK K H ds ps → RpK K H ((k, d) :: ds) ((k, v) :: ps)
theorem rpk_same {K : PySem.W.Frag} {H H' : Vw} (e : VLe H H') : ∀ {ds : List (Key × D)} {ps : List (Key × V)}, RpK K H ds ps → RpK K H' ds ps
  | _, _, .nil => .nil
  | _, _, .cons h t => .cons (rp_same e h) (rpk_same e t)
theorem rpk_keys {K : PySem.W.Frag} {H : Vw} : ∀ {ds : List (Key × D)} {kvs : List (Key × V)}, RpK K H ds kvs → kvs.length = ds.length ∧ kvs.map (·.1) = ds.map (·.1)
  | _, _, .nil => ⟨rfl, rfl⟩
  | _, _, .cons h t => by
    obtain ⟨h1, h2⟩ := rpk_keys t
    exact ⟨by rw [List.length_cons, List.length_cons, h1], by rw [List.map_cons, List.map_cons, h2]⟩
def lkK (z : Key) : List (Key × D) → Option D
  | [] => none
  | (k, d) :: r => if k = z then some d else lkK z r
theorem rpk_look {K : PySem.W.Frag} {H : Vw} (z : Key) : ∀ {ds : List (Key × D)} {kvs : List (Key × V)}, RpK K H ds kvs → (∃ d v, lkK z ds = some d ∧ valV kvs z = some v ∧ Rp K H d v) ∨ (lkK z ds = none ∧ valV kvs z = none)
  | _, _, .nil => .inr ⟨rfl, rfl⟩
  | _, _, .cons (k := k) (d := d) (v := v) (ds := ds) (ps := ps) h t => by
    by_cases c : k = z
    · subst c
      refine .inl ⟨d, v, by unfold lkK; rw [if_pos rfl], ?_, h⟩
      unfold valV
      rw [List.find?_cons_of_pos (by simp)]
      rfl
    · have e1 : lkK z ((k, d) :: ds) = lkK z ds := by show (if k = z then _ else _) = _; rw [if_neg c]
      have e2 : valV ((k, v) :: ps) z = valV ps z := by
        unfold valV
        rw [List.find?_cons_of_neg (by simp [c])]
      rw [e1, e2]
      exact rpk_look z t
theorem putK_new {κ : Type} [DecidableEq κ] {acc : List (κ × V)} {k : κ} {v : V} (h : ¬ k ∈ acc.map (·.1)) : putK acc k v = acc ++ [(k, v)] := by
  unfold putK
  rw [if_neg]
  intro q
  obtain ⟨p, hp, e⟩ := List.any_eq_true.mp q
  exact h (List.mem_map.mpr ⟨p, hp, of_decide_eq_true e⟩)
theorem mergeK_new : ∀ (more acc : List (Key × V)), ((acc ++ more).map (·.1)).Nodup → mergeK acc more = acc ++ more
  | [], acc, _ => by rw [List.append_nil]; rfl
  | (k, v) :: r, acc, h => by
    have hk : ¬ k ∈ acc.map (·.1) := fun hm => by
      rw [List.map_append, List.map_cons] at h
      exact (List.nodup_append.mp h).2.2 k hm k List.mem_cons_self rfl
    show mergeK (putK acc k v) r = _
    rw [putK_new hk, mergeK_new r (acc ++ [(k, v)]) (by rw [List.append_assoc]; exact h), List.append_assoc]
    rfl
def sPnil : Sm (List (Key × D)) := fun _ t => .ok [] t
def pPnil : Pm (List (Key × D)) := fun _ => some []
def sPcons (k : Key) (a : Sm D) (r : Sm (List (Key × D))) : Sm (List (Key × D)) := fun env t => (a env t).bind fun d t => (r env t).bind fun ds t => .ok ((k, d) :: ds) t
def pPcons (k : Key) (a : Pm D) (r : Pm (List (Key × D))) : Pm (List (Key × D)) := fun env => (a env).bind fun p => (r env).map fun q => (k, p) :: q
theorem lift_pnil : lift pPnil = sPnil := rfl
theorem lift_pcons (k : Key) (a : Pm D) (r : Pm (List (Key × D))) : lift (pPcons k a r) = sPcons k (lift a) (lift r) := by
  funext env s
  unfold lift pPcons sPcons
  dsimp only
  cases a env with
  | none => rfl
  | some x =>
    simp only [Option.bind_some, ofO, R.bind]
    cases r env <;> rfl
def tGP (I : SI) (K : PySem.W.Frag) (W : WX) (g : Sm (List (Key × D))) : L2.St → Hp → (List (V × V) → Hp → Prop) → Prop := fun σ H Q => ∃ env s, I.ok K s H ∧ RE K (Hr I s H) env σ ∧
  (g env s.t).Post (fun ds t => ∀ kvs s' H', s'.t = t → Po I K s H s' H' → RpK K (Hr I s' H') ds kvs → Q (kvs.map fun kv => (kV kv.1, kv.2)) H') (XP I K W s σ H)
/-- the keys are unlike and few -/
def okD (ds : List (Key × D)) : Bool := decide (ds.length ≤ 15) && decide ((ds.map (·.1)).Nodup)
section
variable {ι : Type} {P : Program} {w : World} {K : PySem.W.Frag} {mg : Str → Option Value} {base : Heap} {k : Nat} {N : List Str} {F : ι → Cx} {I : SI} {W : WX} {pos : Pos}
def DP (I : SI) (K : PySem.W.Frag) (W : WX) (F : ι → Cx) (pos : Pos) (keys : List (Option Expr)) (values : List Expr) (g : Sm (List (Key × D))) : Prop := ∃ trs, (∀ i, PPs (F i) pos keys values trs) ∧ ∀ σ H Q, tGP I K W g σ H Q → tPairs trs σ H Q
theorem dp_nil : DP I K W F pos [] [] sPnil := ⟨[], fun _ => pps_nil, fun σ H Q ⟨env, s, ok, re, h⟩ => h [] s H rfl (Po.refl ok) .nil⟩
theorem dp_add {key : Expr} {kk : Key} {v : Expr} {ks : List (Option Expr)} {vs : List Expr} {g : Sm D} {gr : Sm (List (Key × D))} (hk : ∀ i, PE (F i) key (tC (kV kk))) (h : DE I K W F v g) (hr : DP I K W F pos ks vs gr) : DP I K W F pos (some key :: ks) (v :: vs) (sPcons kk g gr) := by
  obtain ⟨trs, b1, b2⟩ := hr
  refine ⟨(tC (kV kk), tG I K W g) :: trs, fun i => pps_cons (hk i) (h i) (b1 i), fun σ H Q ⟨env, s, ok, re, h⟩ => ?_⟩
  refine step (Po.refl ok) re h fun d v s1 H1 p1 _ r1 h => b2 _ _ _ ⟨env, s1, p1.ok, re.same p1.same, (R.post_bind h).mono (fun ds t q kvs s2 H2 e p2 r2 => ?_) fun x t q => xp_from p1 q⟩
  exact q ((kk, v) :: kvs) s2 H2 e (p1.trans p2) (.cons (rp_same p2.same r1) r2)
theorem dp_cons {x : Str} {j : Nat} {p : Pos} {v : Expr} {ks : List (Option Expr)} {vs : List Expr} {g : Sm D} {gr : Sm (List (Key × D))} (h : DE I K W F v g) (hr : DP I K W F pos ks vs gr) : DP I K W F pos (some (.Constant (.str x) j p) :: ks) (v :: vs) (sPcons (.inr x) g gr) := dp_add (fun _ => pe_str) h hr
theorem dp_consI {x : Int} {j : Nat} {p : Pos} {v : Expr} {ks : List (Option Expr)} {vs : List Expr} {g : Sm D} {gr : Sm (List (Key × D))} (h : DE I K W F v g) (hr : DP I K W F pos ks vs gr) : DP I K W F pos (some (.Constant (.int x) j p) :: ks) (v :: vs) (sPcons (.inl x) g gr) := dp_add (fun _ => pe_int) h hr
/-- the display's dict, just laid -/
theorem disp_at {trs : List (TE × TE)} {g : Sm (List (Key × D))} {env : Env} {s s0 : St1} {σ : L2.St} {H H0 : Hp} {Q : VK} {α : Type} {kc : List (Key × D) → Ts → R α} {Pr : α → Ts → Prop} (hg : ∀ σ H Q, tGP I K W g σ H Q → tPairs trs σ H Q) (p : Po I K s0 H0 s H) (re : RE K (Hr I s0 H0) env σ) (h : ((g env s.t).bind kc).Post Pr (XP I K W s0 σ H0))
    (hk : ∀ ds t, (kc ds t).Post Pr (XP I K W s0 σ H0) → okD ds = true)
    (c : ∀ q kvs ds s1 H1, H q = none → Gro I K q s H (.dK kvs) s1 H1 → RpK K (Hr I s1 H1) ds kvs → (ds.map (·.1)).Nodup → (kc ds s1.t).Post Pr (XP I K W s0 σ H0) → Q (.ref q) H1) : tDisp trs σ H Q := by
  intro q hq
  have ldd : ∀ kvs, Ld (.dK kvs) := fun kvs => .inr (.inl ⟨kvs, rfl⟩)
  have zq := ok_zL p.ok hq
  have gr := Gro.start (o := .dK []) p.ok hq (ldd _)
  refine hg _ _ _ ⟨env, s.zz (upd s.Z q (.dK [])), gr.ok, (re.same p.same).same gr.sm, (R.post_bind h).mono (fun ds t hd kvs s2 H2 e p2 r2 => ?_) fun x t hx cls dd s' H' e p2 a => ?_⟩
  · subst e
    have gr2 := gr.step p2 hq zq
    have hok := hk ds _ hd
    unfold okD at hok
    rw [Bool.and_eq_true, decide_eq_true_eq, decide_eq_true_eq] at hok
    obtain ⟨hl, hm⟩ := rpk_keys r2
    have em : mergeK [] kvs = kvs := mergeK_new kvs [] (by rw [List.nil_append, hm]; exact hok.2)
    refine ⟨gr2.at_, kvs, rfl, by rw [hl]; exact hok.1, ?_⟩
    rw [em]
    exact c q kvs ds (s2.zz (upd s.Z q (.dK kvs))) _ hq (gr2.put hq zq (ldd _)) (rpk_same gr2.psm r2) hok.2 hd
  · have gr2 := gr.step p2 hq zq
    exact hx cls dd (s'.zz s.Z) H' e (p.trans gr2.po) (exat_same gr2.gsm a)
/-- a text or a whole number, as a key -/
def isK : D → Option Key
  | .d (.str z) => some (.inr z)
  | .d (.int z) => some (.inl z)
  | _ => none
theorem isK_at {H : Vw} {d : D} {z : Key} {v : V} (h : isK d = some z) (r : Rp K H d v) : v = kV z := by
  unfold isK at h
  split at h
  · cases h; cases r; rfl
  · cases h; cases r; rfl
  · cases h
def sDget (g : Sm (List (Key × D))) (a b : Sm D) : Sm D := fun env t => (g env t).bind fun ds t => if okD ds = true then (a env t).bind fun x t => (b env t).bind fun y t => (ofO (isK x) t).bind fun z t => .ok ((lkK z ds).getD y) t else .no
def pDget (g : Pm (List (Key × D))) (a b : Pm D) : Pm D := fun env => (g env).bind fun p => if okD p = true then (a env).bind fun q => (b env).bind fun r => (isK q).map fun z => (lkK z p).getD r else none
theorem lift_dget (g : Pm (List (Key × D))) (a b : Pm D) : lift (pDget g a b) = sDget (lift g) (lift a) (lift b) := by
  funext env s
  unfold lift pDget sDget
  dsimp only
  cases g env with
  | none => rfl
  | some p =>
    simp only [Option.bind_some, ofO, R.bind]
    by_cases c : okD p = true
    · rw [if_pos c, if_pos c]
      cases a env with
      | none => rfl
      | some q =>
        simp only [Option.bind_some]
        cases b env with
        | none => rfl
        | some r =>
          simp only [Option.bind_some]
          cases isK q <;> rfl
    · rw [if_neg c, if_neg c]
theorem gro_res {s s1 s0 : St1} {H H1 H0 : Hp} {q : Addr} {o : HO} {σ : L2.St} {x : Exn} {t : Ts} (p : Po I K s0 H0 s H) (gr : Gro I K q s H o s1 H1) (hq : H q = none) (zq : s.Z q = none) (hx : XP I K W s0 σ H0 x t) : XP I K W s1 σ H1 x t := fun cls dd s' H' e p2 a => by
  have gr2 := gr.step p2 hq zq
  exact hx cls dd (s'.zz s.Z) H' e (p.trans gr2.po) (exat_same gr2.gsm a)
theorem de_dget {keys : List (Option Expr)} {values : List Expr} {dpos apos cpos : Pos} {e f : Expr} {g : Sm (List (Key × D))} {ga gb : Sm D} (Wf : Fm P w K mg base k N F) (h : DP I K W F dpos keys values g) (ha : DE I K W F e ga) (hb : DE I K W F f gb)
    (hall : keys.all (·.isSome) = true := by rfl) (hl : keys.length = values.length := by rfl) (h0 : keys ≠ [] := by exact fun z => nomatch z) (h15 : keys.length ≤ 15 := by decide)
    (m : ∀ i, M2 (F i) (.Dict keys values dpos) "get" apos e f cpos := by exact fun _ => ⟨rfl, rfl, rfl, rfl⟩) : DE I K W F (.Call (.Attribute (.Dict keys values dpos) "get" apos) [e, f] [] cpos) (sDget g ga gb) := by
  obtain ⟨trs, g1, g2⟩ := h
  exact fun i => (pe_dget2 (by have := Wf.units i; omega) (pe_disp (g1 i) hall hl h0 h15) (ha i) (hb i) (m i)).imp fun σ H Q ⟨env, s, ok, re, h⟩ =>
    disp_at g2 (Po.refl ok) re h (fun ds t h => (post_ite h).1) fun q kvs ds s1 H1 hq gr rk nd h => by
      obtain ⟨_, h⟩ := post_ite h
      have zq := ok_zL ok hq
      refine ⟨q, rfl, .inl ⟨kvs, .inl gr.at_⟩, env, s1, gr.ok, re.same gr.sm, (R.post_bind h).mono (fun x t h v3 s3 H3 e3 p3 r3 => ?_) fun x t hx => gro_res (Po.refl ok) gr hq zq hx⟩
      subst e3
      have gr3 := gr.step p3 hq zq
      refine ⟨env, s3, gr3.ok, re.same gr3.sm, (R.post_bind h).mono (fun y t h v4 s4 H4 e4 p4 r4 => ?_) fun x t hx => gro_res (Po.refl ok) gr3 hq zq hx⟩
      subst e4
      have gr4 := gr3.step p4 hq zq
      obtain ⟨z, ez, h⟩ := post_ofO (R.post_bind h)
      have hz := isK_at ez r3
      subst hz
      refine ⟨valV kvs z, DGet.k gr4.at_, ?_⟩
      rcases rpk_look z rk with ⟨d, v, q1, q2, q3⟩ | ⟨q1, q2⟩
      · rw [q1] at h
        rw [q2]
        exact h v (s4.zz s.Z) H4 rfl gr4.po (rp_same gr4.gsm (rp_same (p3.trans p4).same q3))
      · rw [q1] at h
        rw [q2]
        exact h v4 (s4.zz s.Z) H4 rfl gr4.po (rp_same gr4.gsm r4)
def sDsub (g : Sm (List (Key × D))) (a : Sm D) : Sm D := fun env t => (g env t).bind fun ds t => if okD ds = true then (a env t).bind fun x t => (ofO (isK x) t).bind fun z t => ofO (lkK z ds) t else .no
def pDsub (g : Pm (List (Key × D))) (a : Pm D) : Pm D := fun env => (g env).bind fun p => if okD p = true then (a env).bind fun q => (isK q).bind fun z => lkK z p else none
theorem lift_dsub (g : Pm (List (Key × D))) (a : Pm D) : lift (pDsub g a) = sDsub (lift g) (lift a) := by
  funext env s
  unfold lift pDsub sDsub
  dsimp only
  cases g env with
  | none => rfl
  | some p =>
    simp only [Option.bind_some, ofO, R.bind]
    by_cases c : okD p = true
    · rw [if_pos c, if_pos c]
      cases a env with
      | none => rfl
      | some q =>
        simp only [Option.bind_some]
        cases isK q <;> rfl
    · rw [if_neg c, if_neg c]
theorem de_dsub {keys : List (Option Expr)} {values : List Expr} {dpos : Pos} {e : Expr} {g : Sm (List (Key × D))} {ga : Sm D} (Wf : Fm P w K mg base k N F) (h : DP I K W F dpos keys values g) (ha : DE I K W F e ga)
    (hall : keys.all (·.isSome) = true := by rfl) (hl : keys.length = values.length := by rfl) (h0 : keys ≠ [] := by exact fun z => nomatch z) (h15 : keys.length ≤ 15 := by decide) (hs : NoSl e := by exact fun _ _ => rfl) :
    DE I K W F (.Subscript (.Dict keys values dpos) e pos) (sDsub g ga) := by
  obtain ⟨trs, g1, g2⟩ := h
  exact fun i => (pe_dget (by have := Wf.units i; omega) (pe_disp (g1 i) hall hl h0 h15) (ha i) hs).imp fun σ H Q ⟨env, s, ok, re, h⟩ =>
    disp_at g2 (Po.refl ok) re h (fun ds t h => (post_ite h).1) fun q kvs ds s1 H1 hq gr rk nd h => by
      obtain ⟨_, h⟩ := post_ite h
      have zq := ok_zL ok hq
      refine ⟨env, s1, gr.ok, re.same gr.sm, (R.post_bind h).mono (fun x t h v3 s3 H3 e3 p3 r3 => ?_) fun x t hx => gro_res (Po.refl ok) gr hq zq hx⟩
      subst e3
      have gr3 := gr.step p3 hq zq
      obtain ⟨z, ez, h⟩ := post_ofO (R.post_bind h)
      have hz := isK_at ez r3
      subst hz
      obtain ⟨d, e5, h⟩ := post_ofO h
      rcases rpk_look z rk with ⟨d', v, q1, q2, q3⟩ | ⟨q1, q2⟩
      · rw [q1] at e5
        cases e5
        exact ⟨q, v, rfl, by rw [← q2]; exact DGet.k gr3.at_, h v (s3.zz s.Z) H3 rfl gr3.po (rp_same gr3.gsm (rp_same p3.same q3))⟩
      · rw [q1] at e5; cases e5

/-! ### dicts of trees -/
/-- d.get(k, x) -/
def getD2 (x k y : D) (t : Ts) : Option D := match x with
  | .r n p => match getT t n p with
    | some (.nd (.dct ks) ts) => match k with
      | .d (.tuple xs) => (dKeys xs).bind fun kk => match kix kk ks with
        | some j => (ts[j]?).map (chD n p j)
        | none => some y
      | _ => none
    | _ => none
  | _ => none
theorem getKy_some {k : D} {f : List Key → Option D} {d : D} (h : (match k with | .d (.tuple xs) => (dKeys xs).bind f | _ => none) = some d) : ∃ xs kq, k = .d (.tuple xs) ∧ dKeys xs = some kq ∧ f kq = some d := by
  split at h
  · rename_i xs
    cases q : dKeys xs with
    | none => rw [q] at h; cases h
    | some kq => rw [q] at h; exact ⟨xs, kq, rfl, q, h⟩
  · cases h
theorem getD2_some {n : Nat} {p : Pth} {k y : D} {t : Ts} {d : D} (h : getD2 (.r n p) k y t = some d) : ∃ ks ts xs kq, getT t n p = some (.nd (.dct ks) ts) ∧ k = .d (.tuple xs) ∧ dKeys xs = some kq ∧ (match kix kq ks with | some j => (ts[j]?).map (chD n p j) | none => some y) = some d := by
  unfold getD2 at h
  dsimp only at h
  generalize getT t n p = g at h ⊢
  match g, h with
  | some (.nd (.dct ks) ts), h =>
    obtain ⟨xs, kq, h1, h2, h3⟩ := getKy_some h
    exact ⟨ks, ts, xs, kq, rfl, h1, h2, h3⟩
def isDc (x : D) (t : Ts) : Bool := match x with
  | .r n p => match getT t n p with
    | some (.nd (.dct _) _) => true
    | _ => false
  | _ => false
def sGet2 (o a b : Sm D) : Sm D := fun env t => (o env t).bind fun x t => if isDc x t = true then (a env t).bind fun k t => (b env t).bind fun y t => ofO (getD2 x k y t) t else .no
theorem kix_get {κ : Type} [DecidableEq κ] {z : κ} {ys : List κ} {vs : List V} {j : Nat} (h : kix z ys = some j) (hl : ys.length = vs.length) : ∃ v, vs[j]? = some v := by
  have := (List.getElem?_eq_some_iff.mp (idx_some h).1).1
  exact ⟨vs[j]'(by omega), List.getElem?_eq_getElem (by omega)⟩
theorem de_get2 {o e f : Expr} {apos cpos : Pos} {go ga gb : Sm D} (Wf : Fm P w K mg base k N F) (ho : DE I K W F o go) (ha : DE I K W F e ga) (hb : DE I K W F f gb)
    (m : ∀ i, M2 (F i) o "get" apos e f cpos := by exact fun _ => ⟨rfl, rfl, rfl, rfl⟩) : DE I K W F (.Call (.Attribute o "get" apos) [e, f] [] cpos) (sGet2 go ga gb) := fun i =>
  (pe_dget2 (by have := Wf.units i; omega) (ho i) (ha i) (hb i) (m i)).imp fun σ H Q ⟨env, s, ok, re, h⟩ => step (Po.refl ok) re h fun x v s1 H1 p1 _ r1 h => by
    obtain ⟨c, h⟩ := post_ite h
    unfold isDc at c
    split at c
    · split at c
      · rename_i n p _ ks0 ts0 g0
        obtain ⟨a0, dx0, vs0, rfl, w0, c0, hd0⟩ := node_at p1.ok r1 g0
        refine ⟨a0, rfl, .inr ⟨_, .inl hd0.2.2⟩, step p1 re h fun kk v2 s2 H2 p2 q2 r2 h => step p2 re h fun y v3 s3 H3 p3 q3 r3 h => ?_⟩
        obtain ⟨z, e, h⟩ := post_ofO h
        obtain ⟨ks, ts, xs, kq, g, ek, q, e7⟩ := getD2_some e
        obtain ⟨a, dx, vs, ea, w1, c1, hd1⟩ := node_at p3.ok (rp_same (q2.trans q3).same r1) g
        cases ea
        subst ek
        cases rp_same q3.same r2 with
        | tup h1 h2 =>
          have e0 := dKeys_ok h2 q
          subst e0
          cases qj : kix kq ks with
          | some j =>
            rw [qj] at e7
            dsimp only at e7
            cases qt : ts[j]? with
            | none => rw [qt] at e7; cases e7
            | some u =>
              rw [qt] at e7
              cases e7
              obtain ⟨v, g1, g2⟩ := chs_get c1 qt
              rw [Nat.zero_add] at g2
              exact ⟨some v, by rw [← zip_val qj g1]; exact DGet.t hd1.2.2 (hr_sub _ _ h1), h v s3 H3 rfl p3 (ch_rp g2)⟩
          | none =>
            rw [qj] at e7
            cases e7
            exact ⟨none, by rw [← zip_none (vs := vs) (idx_none qj)]; exact DGet.t hd1.2.2 (hr_sub _ _ h1), h v3 s3 H3 rfl p3 r3⟩
      · cases c
    · cases c
/-- {}, with tuples as keys -/
def sDnew : Sm D := fun _ t => .ok (.r t.length []) (t ++ [some (.nd (.dct []) [])])
theorem de_dnew : DE I K W F (.Dict [] [] pos) sDnew := fun i => pe_dnewT.imp fun σ H Q ⟨env, s, ok, re, h⟩ => fun p hp => by
  have gr := Gro.start (o := .dT []) ok hp (.inr (.inr ⟨[], rfl⟩))
  obtain ⟨h1, h2⟩ := gro_alloc (k := .dct []) (ds := []) (vs := []) (ok_zL ok hp) gr hp rfl ⟨rfl, List.nodup_nil, upd_same⟩ .nil rfl
  exact h _ _ _ rfl h1 h2
/-- dict(pairs) -/
def putB (acc : List (List Key × Bool)) (k : List Key) (b : Bool) : List (List Key × Bool) := if (acc.any fun p => decide (p.1 = k)) = true then acc.map (fun p => if p.1 = k then (p.1, b) else p) else acc ++ [(k, b)]
def prB : List PyData → Option (List (List Key × Bool))
  | [] => some []
  | .tuple [.tuple xs, .bool b] :: r => (dKeys xs).bind fun ks => (prB r).map ((ks, b) :: ·)
  | _ :: _ => none
def newDc (x : D) (t : Ts) : R D := match x with
  | .d (.list xs) => match prB xs with
    | some kvs => .ok (.r t.length []) (t ++ [some (.nd (.dct ((kvs.foldl (fun acc p => putB acc p.1 p.2) []).map (·.1))) ((kvs.foldl (fun acc p => putB acc p.1 p.2) []).map fun p => .v (.d (.bool p.2))))])
    | none => .no
  | _ => .no
def sDict (a : Sm D) : Sm D := fun env t => (a env t).bind newDc
theorem prB_T : ∀ {xs : List PyData} {kvs : List (List Key × Bool)}, prB xs = some kvs → prT xs = some (kvs.map fun p => (p.1, V.bl p.2))
  | [], _, h => by cases h; rfl
  | x :: r, kvs, h => by
    unfold prB at h
    split at h
    · cases ‹_ :: _ = []›
    · rename_i xs b r' he
      cases he
      cases e1 : dKeys xs with
      | none => rw [e1] at h; cases h
      | some ks =>
        rw [e1] at h
        simp only [Option.bind_some] at h
        cases e2 : prB r with
        | none => rw [e2] at h; cases h
        | some q =>
          rw [e2] at h
          cases h
          show (dKeys xs).bind (fun ks => (prT r).map ((ks, V.bl b) :: ·)) = _
          rw [e1, prB_T e2]
          rfl
    · cases h
theorem putB_T (acc : List (List Key × Bool)) (k : List Key) (b : Bool) : putK (acc.map fun p => (p.1, V.bl p.2)) k (V.bl b) = (putB acc k b).map fun p => (p.1, V.bl p.2) := by
  unfold putK putB
  have e : ((acc.map fun p => (p.1, V.bl p.2)).any fun kv => decide (kv.1 = k)) = acc.any fun p => decide (p.1 = k) := by rw [List.any_map]; rfl
  rw [e]
  by_cases c : (acc.any fun p => decide (p.1 = k)) = true
  · rw [if_pos c, if_pos c, List.map_map, List.map_map]
    apply List.map_congr_left
    intro p _
    by_cases q : p.1 = k <;> simp [q]
  · rw [if_neg c, if_neg c, List.map_append]
    rfl
theorem merge_T : ∀ (kvs acc : List (List Key × Bool)), mergeT (acc.map fun p => (p.1, V.bl p.2)) (kvs.map fun p => (p.1, V.bl p.2)) = (kvs.foldl (fun acc p => putB acc p.1 p.2) acc).map fun p => (p.1, V.bl p.2)
  | [], acc => rfl
  | p :: r, acc => by
    show mergeT (putK (acc.map fun p => (p.1, V.bl p.2)) p.1 (V.bl p.2)) (r.map fun p => (p.1, V.bl p.2)) = _
    rw [putB_T, merge_T r]
    rfl
theorem putB_nodup {acc : List (List Key × Bool)} {k : List Key} {b : Bool} (h : (acc.map (·.1)).Nodup) : ((putB acc k b).map (·.1)).Nodup := by
  unfold putB
  by_cases c : (acc.any fun p => decide (p.1 = k)) = true
  · rw [if_pos c, List.map_map]
    have e : acc.map ((fun x => x.1) ∘ fun p => if p.1 = k then (p.1, b) else p) = acc.map (·.1) := List.map_congr_left fun p _ => by
      by_cases q : p.1 = k <;> simp [q]
    rw [e]
    exact h
  · rw [if_neg c, List.map_append]
    refine nodup_snoc h fun hm => c ?_
    obtain ⟨p, hp, e⟩ := List.mem_map.mp hm
    exact List.any_eq_true.mpr ⟨p, hp, decide_eq_true e⟩
theorem foldB_nodup : ∀ (kvs acc : List (List Key × Bool)), (acc.map (·.1)).Nodup → ((kvs.foldl (fun acc p => putB acc p.1 p.2) acc).map (·.1)).Nodup
  | [], _, h => h
  | p :: r, acc, h => foldB_nodup r _ (putB_nodup h)
theorem rpl_bools {H : Vw} : ∀ (bs : List (List Key × Bool)), RpL K H (bs.map fun p => D.d (.bool p.2)) (bs.map fun p => V.bl p.2)
  | [] => .nil
  | p :: r => .cons (show Dq _ _ _ _ from .bl p.2) (rpl_bools r)
theorem topL_bools : ∀ (bs : List (List Key × Bool)), topL (bs.map fun p => D.d (.bool p.2)) = 0
  | [] => rfl
  | p :: r => by
    show max 0 (topL _) = 0
    rw [topL_bools r]
    rfl
theorem de_dict {e : Expr} {p : Pos} {g : Sm D} (Wf : Fm P w K mg base k N F) (hm : mg "dict" = none) (hv : bootBuiltins "dict" = some (.type "dict")) (h : DE I K W F e g)
    (hg : ∀ i, Gl (F i) "dict" := by exact fun _ => rfl)
    (he : ∀ i, starEach [e] (F i).env = (false, eval e (F i).env) :: starEach [] (F i).env := by exact fun _ => rfl) (hpl : ∀ i, (backTo pos (starEach [] (F i).env)).any (·.1) = false := by exact fun _ => rfl) : DE I K W F (.Call (.Name "dict" p) [e] [] pos) (sDict g) := fun i => by
  have hh := pe_callTy (p := p) (call_dictT (X := F i) (Wf.calm i) (by have := Wf.units i; omega)) (hg i) (by rw [Wf.mg i]; exact hm) hv (pa_cons (h i) pa_nil (he i)) (by decide) (by decide) (he i) (hpl i)
  rw [Wf.K i] at hh
  refine hh.imp fun σ H Q ⟨env, s, ok, re, h⟩ => step (Po.refl ok) re h fun x v s1 H1 p1 _ r1 h => ?_
  unfold newDc at h
  split at h
  · split at h
    · rename_i kvs q
      cases r1 with
      | lst h1 h2 =>
        obtain ⟨ps, e1, e2⟩ := prT_ok (dpa_same hr_sub h2) (prB_T q)
        subst e1
        refine ⟨_, ps, _, rfl, SqL.of (hr_sub _ _ h1), e2, fun l hl => ?_⟩
        have em := merge_T kvs []
        rw [show (([] : List (List Key × Bool)).map fun p => (p.1, V.bl p.2)) = [] from rfl] at em
        rw [em]
        have gr := Gro.start (o := .dT ((kvs.foldl (fun acc p => putB acc p.1 p.2) []).map fun p => (p.1, V.bl p.2))) p1.ok hl (.inr (.inr ⟨_, rfl⟩))
        obtain ⟨g1, g2⟩ := gro_alloc (k := .dct ((kvs.foldl (fun acc p => putB acc p.1 p.2) []).map (·.1))) (ds := (kvs.foldl (fun acc p => putB acc p.1 p.2) []).map fun p => .d (.bool p.2)) (vs := (kvs.foldl (fun acc p => putB acc p.1 p.2) []).map fun p => V.bl p.2) (ok_zL p1.ok hl) gr hl rfl
          ⟨by rw [List.length_map, List.length_map], foldB_nodup kvs [] List.nodup_nil, by rw [upd_same, List.zip_map']⟩ (rpl_bools _) (topL_bools _)
        refine h _ _ _ ?_ (p1.trans g1) g2
        show _ ++ [some (Tr.nd _ (List.map Tr.v (List.map _ _)))] = _
        rw [List.map_map]
        rfl
    · exact h.elim
  · exact h.elim
end
end Dl
set_option maxRecDepth 100000
set_option maxHeartbeats 4000000
/-! an own exception whose __init__ says super().__init__(x); self.f = x -/
namespace Dl
open PySem PySem.Spec PyProof.Rows L2

/-- the body's context -/
def iniCx (P : Program) (w : World) (K : PySem.W.Frag) (mg : Str → Option Value) (base : Heap) (n : Str) (qual : Str) (scope : Scope) (f : Addr) (cd : Value) (cc : Addr) (A : Around) (outer : List PySem.Env) (s : Shared) (H : Hp) : Cx where
  prog := P
  w := w
  K := K
  mg := mg
  base := base
  A := A.deeper (PySem.W.ksEnv qual scope s.heap.objs.size f cd cc)
  N := ["self", n]
  s_0 := s
  H_0 := H
  env := PySem.W.ksEnv qual scope s.heap.objs.size f cd cc
  outer := outer
  stack := PySem.W.ksEnv qual scope s.heap.objs.size f cd cc :: outer
  ex := []
  calm := true
  fn := fun _ => false
  pn := []
  xe := fun _ _ => False
abbrev iniSc (n : Str) : Scope := { kind := .function, names := [("self", .local), (n, .local), ("__class__", .free), ("super", .globalImplicit)], isGenerator := false, isCoroutine := false, more := [] }
/-- the field's name is none of the others -/
structure IniN (n : Str) : Prop where
  s : (n == ("self" : Str)) = false
  s' : (("self" : Str) == n) = false
  c : (("__class__" : Str) == n) = false
  u : (("super" : Str) == n) = false
  d : (n == ("__debug__" : Str)) = false
  k : (n == ("__classdict__" : Str)) = false
theorem ini_c {n : Str} (nn : IniN n) : List.lookup (Str.ofString "__class__") (iniSc n).names = some NameKind.free := by
  show List.lookup (Str.ofString "__class__") [(Str.ofString "self", NameKind.local), (n, NameKind.local), (Str.ofString "__class__", NameKind.free), (Str.ofString "super", NameKind.globalImplicit)] = _
  simp only [List.lookup, nn.c, beq_self_eq_true, show (Str.ofString "__class__" == Str.ofString "self") = false from by decide]
theorem ini_u {n : Str} (nn : IniN n) : List.lookup (Str.ofString "super") (iniSc n).names = some NameKind.globalImplicit := by
  show List.lookup (Str.ofString "super") [(Str.ofString "self", NameKind.local), (n, NameKind.local), (Str.ofString "__class__", NameKind.free), (Str.ofString "super", NameKind.globalImplicit)] = _
  simp only [List.lookup, nn.u, beq_self_eq_true, show (Str.ofString "super" == Str.ofString "self") = false from by decide, show (Str.ofString "super" == Str.ofString "__class__") = false from by decide]
theorem ini_n {n : Str} (nn : IniN n) : (iniSc n).names.lookup n = some .local := by
  simp only [iniSc, List.lookup, nn.s, beq_self_eq_true]
theorem ini_inv {P : Program} {w : World} {K : PySem.W.Frag} {mg : Str → Option Value} {base : Heap} {n qual : Str} {f cc C : Addr} {cd : Value} {A : Around} {outer : List PySem.Env} {s : Shared} {H : Hp} {h0 : Heap} {tk : Nat} {x y : V} {u1 u2 : Value} {cl : Value} {cld : Option Addr} {csl : Array (Option Value)}
    (nn : IniN n) (hd : A.handled = none) (e0 : Env0 P w K mg base A outer s H) (hcc : K.lookup cc = some ⟨cl, cld, .cell (some (.ref C)), csl⟩) (r1 : RelV x u1) (r2 : RelV y u2)
    (hns : h0.Ns s.heap.objs.size fun z => ((["self", n] : List Str).zip [u1, u2]).reverse.lookup z) (kp : ∀ b o, s.heap.get? b = some o → h0.get? b = some o) :
    Inv (iniCx P w K mg base n qual (iniSc n) f cd cc A outer s H) [] [some x, some y] H { s with heap := h0, toks := tk } := by
  have kin : K.In s.heap := e0.mod.kin.keeps fun b o e => (e0.bs b o e).1
  have hcb := e0.mod.kin _ _ hcc
  obtain ⟨hcs, hcn⟩ := e0.bs _ _ hcb
  have nil_ : ∀ b : Addr, b ∉ ([] : List Addr) := fun b z => nomatch z
  have cells : ∀ {z c}, ([("__class__", cc)] : List (Str × Addr)).lookup z = some c → z = "__class__" ∧ c = cc := fun {z c} e => by
    have := PySem.mem_of_lookup e
    rw [List.mem_singleton] at this
    cases this
    exact ⟨rfl, rfl⟩
  refine ⟨⟨e0.mod, rfl, rfl, rfl, Nat.le_refl _, fun a b c h1 h2 => (cells h1).1.trans (cells h2).1.symm, fun z hz => ?_, fun z c h _ => ?_, fun _ => hd, Around.frames_deeper e0.frames, .inr ⟨rfl, rfl⟩, fun b z => absurd z (nil_ b), e0.bs, e0.bsz, fun b _ _ => nil_ b, fun b z => absurd z (nil_ b), e0.funs, e0.frf⟩,
    rfl, e0.bare, Un.kept kp, ⟨_, hns, fun i z v a1 a2 a3 => ?_⟩, fun z c e => ?_, e0.hok.fresh (Nat.le_refl _), fun z c e => ?_, fun q hq => absurd (show q ∈ ([] : List (Addr × Obj)) from hq) (by simp), e0.hok.kept kp, rfl⟩
  · have hz : (iniSc n).names.lookup z = some .cell ∨ (iniSc n).names.lookup z = some .free := hz
    have hm : (z, NameKind.cell) ∈ (iniSc n).names ∨ (z, NameKind.free) ∈ (iniSc n).names := hz.imp PySem.mem_of_lookup PySem.mem_of_lookup
    have e : z = "__class__" := by
      rcases hm with h | h
      · simp [iniSc] at h
      · simp only [iniSc, List.mem_cons, Prod.mk.injEq, List.not_mem_nil, or_false] at h
        rcases h with ⟨_, h⟩ | ⟨_, h⟩ | ⟨h, _⟩ | ⟨_, h⟩
        · cases h
        · cases h
        · exact h
        · cases h
    subst e
    exact ⟨cc, rfl⟩
  · cases (show false = true from h)
  · have lk : ∀ {z v}, (("self", u1) :: [(n, u2)] : List (Str × Value)).reverse.lookup z = v → (z = "self" → v = some u1) ∧ (z = n → v = some u2) := fun {z v} e => by
      subst e
      refine ⟨fun q => ?_, fun q => ?_⟩
      · subst q
        show List.lookup (Str.ofString "self") ([(n, u2), (Str.ofString "self", u1)] : List (Str × Value)) = _
        simp only [List.lookup, nn.s', beq_self_eq_true]
      · rw [q]
        show List.lookup n ([(n, u2), (Str.ofString "self", u1)] : List (Str × Value)) = _
        simp [List.lookup]
    have lo : ∀ z : Str, z = "self" ∨ z = n → (iniSc n).names.lookup z = some .local := fun z hz => by
      rcases hz with hz | hz
      · rw [hz]; rfl
      · rw [hz]; simp only [iniSc, List.lookup, nn.s, beq_self_eq_true]
    match i with
    | 0 =>
      cases a1
      cases a2
      exact ⟨u1, r1, .inl ⟨lo _ (.inl rfl), (lk rfl).1 rfl⟩⟩
    | 1 =>
      cases a1
      cases a2
      exact ⟨u2, r2, .inl ⟨lo _ (.inr rfl), (lk rfl).2 rfl⟩⟩
    | i + 2 => cases a1
  · obtain ⟨_, rfl⟩ := cells e
    exact ⟨_, ⟨_, kp _ _ hcs, rfl⟩⟩
  · obtain ⟨_, rfl⟩ := cells e
    exact hcn
/-- what is told of the class and its __init__ -/
structure IniC (P : Program) (K : PySem.W.Frag) (C fI : Addr) (n : Str) : Prop where
  T : OexC K C
  nn : IniN n
  fn : ∃ oc od nm qual params p1 p2 p3 p4 p5 p6 p7 p8 p9 dV kV doc pm an cda ct osl cc cl cld csl ccl cdd vs ccs file tf, K.lookup fI = some ⟨oc, od, .func (PySem.W.ksFn nm qual params
      [.Expr (.Call (.Attribute (.Call (.Name "super" p1) [] [] p2) "__init__" p3) [.Name n p4] [] p5) p5, .Assign [.Attribute (.Name "self" p6) n p7] (.Name n p8) p9] (iniSc n) dV kV doc pm an (.ref cda) ct cc), osl⟩ ∧
    PySem.W.codeIn K (.ref cda) qual = true ∧ (params.posonlyargs ++ params.args).head?.map (·.arg) = some "self" ∧ K.lookup cc = some ⟨cl, cld, .cell (some (.ref C)), csl⟩ ∧
    K.lookup cda = some ⟨ccl, cdd, .fields vs, ccs⟩ ∧ vs[2]? = some (.str file tf) ∧ ((P.main.file : Str) == file) = true ∧
    L2.Binds K (PySem.W.ksFn nm qual params
      [.Expr (.Call (.Attribute (.Call (.Name "super" p1) [] [] p2) "__init__" p3) [.Name n p4] [] p5) p5, .Assign [.Attribute (.Name "self" p6) n p7] (.Name n p8) p9] (iniSc n) dV kV doc pm an (.ref cda) ct cc) ["self", n] [] ∧
    (∀ L, ∃ pl : Sem Bool, eval (.Call (.Attribute (.Call (.Name "super" p1) [] [] p2) "__init__" p3) [.Name n p4] [] p5) (PySem.W.ksEnv qual (iniSc n) L fI (.ref cda) cc) = (do
      let ov ← attributeBase (.Call (.Name "super" p1) [] [] p2) "__init__" (PySem.W.ksEnv qual (iniSc n) L fI (.ref cda) cc) (eval (.Call (.Name "super" p1) [] [] p2) (PySem.W.ksEnv qual (iniSc n) L fI (.ref cda) cc))
      standAt p3.atName
      let (f, first) ← holding [ov] (getMethod ov "__init__" pl)
      callWith p5 f first (backTo p5 (starEach [.Name n p4] (PySem.W.ksEnv qual (iniSc n) L fI (.ref cda) cc))) [])) ∧
    (∀ L, swapsWith (.Call (.Attribute (.Call (.Name "super" p1) [] [] p2) "__init__" p3) [.Name n p4] [] p5) none p5.line (PySem.W.ksEnv qual (iniSc n) L fI (.ref cda) cc) = pure false) ∧
    (∀ L, swapsWith (.Name n p8) (some (.Attribute (.Name "self" p6) n p7)) p9.line (PySem.W.ksEnv qual (iniSc n) L fI (.ref cda) cc) = pure false)
  top : (P.main.scope.names.lookup ("super" : Str)).isSome = false
  sup : PySem.W.nsIn K mainGlobals "super" = some none
  opq : PySem.W.nsIn K cStatics "thirdparty.any" = some none
  mth : PySem.W.ks_superIn K C C "__init__" = some (some (.builtin "ValueError.__init__"))
  sub : PySem.W.subIn K (.ref C) (.type "ValueError") = some true
  mro : PySem.W.mroIn K C (.ref C) = some true
  no : PySem.W.findIn K (.ref C) n = some none
def spIni (C : Addr) (n : Str) : Sp := fun vs H Q E => ∃ a y, vs = [.ref a, y] ∧ H a = some (exo a C none) ∧ ∀ dx, H dx = none → dx ≠ a → Q .non (upd (upd H dx (exd dx [(n, y)])) a (exo a C (some dx)))
section
variable {P : Program} {w : World} {K : PySem.W.Frag} {mg : Str → Option Value} {base : Heap}
/-- super().__init__(x), self.f = x -/
theorem ini_run {CX : CXT} {C fI : Addr} {n : Str} (T : IniC P K C fI n) (hm : mg "super" = none) : ∃ fd, L2.Binds K fd ["self", n] [] ∧ FnOk P w K mg base CX 1 fI fd ["self", n] (spIni C n) := by
  obtain ⟨oc, od, nm, qual, params, p1, p2, p3, p4, p5, p6, p7, p8, p9, dV, kV, doc, pm, an, cda, ct, osl, cc, cl, cld, csl, ccl, cdd, vs, ccs, file, tf, lk, hcd, hself, hcc, hcda, hvs, hfile, hbi, hev, hs1, hs2⟩ := T.fn
  refine ⟨_, hbi, fun vs H Q E h => ?_, fun A outer s H args us vs Q E hr e0 hb r hsp => ?_⟩
  · obtain ⟨a, y, rfl, _⟩ := h
    rfl
  · obtain ⟨a, y, rfl, ha, hq⟩ := hsp
    have KX : K.In s.heap := e0.mod.kin.keeps fun b o e => (e0.bs b o e).1
    have lim : s.heap.NoLimit := e0.mod.nolimit.keeps fun b o e => (e0.bs b o e).1
    match us, r with
    | [u1, u2], .cons r1 (.cons r2 .nil) =>
      have hu1 : u1 = .ref a := r1
      subst hu1
      refine PySem.ks_codeAny_call_defAt (binds := (["self", n] : List Str).zip [.ref a, u2]) hr.depth (KX _ _ lk) rfl lim (PySem.W.codeRec_of KX hcd) rfl hb (fun z hz => ?_) (fun z hz => ?_) fun h0 hns kp => ?_
      · simp only [iniSc, List.mem_cons, List.not_mem_nil, or_false] at hz
        rcases hz with rfl | rfl | rfl | rfl <;> exact fun z => nomatch z
      · simp only [List.zip_cons_cons, List.zip_nil_right, List.mem_cons, List.not_mem_nil, or_false] at hz
        rcases hz with rfl | rfl
        · rfl
        · show (iniSc n).names.lookup n = _
          simp only [iniSc, List.lookup, T.nn.s, beq_self_eq_true]
      · have J : Inv (iniCx P w K mg base n qual (iniSc n) fI (.ref cda) cc A outer s H) [] [some (.ref a), some y] H { s with heap := h0, toks := s.toks + ((["self", n] : List Str).zip [Value.ref a, u2]).length } :=
          ini_inv T.nn hr.hd e0 hcc rfl r2 hns kp
        have fin : ∀ {s' : Shared} {σ' : L2.St} {H' : Hp} {v : V} {u : Value}, Inv (iniCx P w K mg base n qual (iniSc n) fI (.ref cda) cc A outer s H) [] σ' H' s' → L2.RelV v u → Q v H' → CE outer P w H s Q u s' :=
          fun {s' σ' H' v u} J rv q => ⟨v, H', J.os, J.bare, J.base, J.hok, rv, q⟩
        refine PySem.ks_wpAt_execs_cons (PySem.ks_wpAt_mono (Q := fun f s' => f = .next ∧ Inv (iniCx P w K mg base n qual (iniSc n) fI (.ref cda) cc A outer s H) [] [some (.ref a), some y] H s') (E := fun _ _ => False) ?_ (fun f s' hf => ?_) fun _ _ z => z.elim)
        · obtain ⟨pl, hev⟩ := hev s.heap.objs.size
          obtain ⟨ar, har, hn⟩ : ∃ ar, (params.posonlyargs ++ params.args).head? = some ar ∧ ar.arg = "self" := by
            cases q : (params.posonlyargs ++ params.args).head? with
            | none => rw [q] at hself; cases hself
            | some ar => rw [q] at hself; exact ⟨ar, rfl, Option.some.inj hself⟩
          refine PySem.ks_wpAt_Expr_any (PySem.ks_wpAt_MethodCall (PySem.ks_wpAt_super_base (ini_u T.nn) (ini_c T.nn) rfl rfl (J.kIn _ _ lk) rfl har rfl (J.kIn _ _ hcda) rfl hvs hfile T.top ?_) hev) rfl (hs1 _)
          obtain ⟨nmc, qc, Nc, bsc, bm, snc, subc, abc, colc, ddc, k0, k1, k2, k3, k5, hC, hbm⟩ := T.T.cls
          have hcl : PySem.W.clsIn K C = some { name := nmc, bases := bsc, mro := .ref C :: bm, ns := Nc, qualname := qc, hasDict := true, slotNames := snc, subclasses := subc, abstract := abc, collection := colc, hasDel := false } := by unfold PySem.W.clsIn; rw [hC] <;> rfl
          obtain ⟨mb, hb1, hb2⟩ := e0.mod.blt
          have bk := J.bk
          obtain ⟨t1, ho⟩ := exo_at J.hok ha
          refine PySem.W.ks_loadName_global rfl (ini_u T.nn) (Calls.loadGlobal_builtin (e0.mod.glob.keeps bk) hm (hb1.keeps bk) ((hb2 "super" (by decide)).trans (show bootBuiltins "super" = some (.type "super") by decide)) ⟨rfl, ?_⟩)
          refine wpAny_loadName_free rfl (ini_c T.nn) rfl ⟨_, J.kIn _ _ hcc, rfl⟩ ?_
          rw [hn]
          have hx0 := kp _ _ (exo_at e0.hok ha).choose_spec
          generalize htk : s.toks + ((["self", n] : List Str).zip [Value.ref a, u2]).length = tk at J
          refine wpAny_loadName_local rfl rfl hns (v := .ref a) ?_ ?_
          · show List.lookup (Str.ofString "self") ([(n, u2), (Str.ofString "self", Value.ref a)] : List (Str × Value)) = _
            simp only [List.lookup, T.nn.s', beq_self_eq_true]
          have hD : h0.get? C = _ := J.kIn _ _ hC
          have caN : a ≠ C := fun z => by
            have := (e0.bs _ _ (e0.mod.kin _ _ hC)).2
            rw [← z, ha] at this
            cases this
          have I : PySem.W.InstAt h0 a _ C none := ⟨ho, rfl, rfl, trivial⟩
          refine PySem.ks_wpAny_isType_cls hD rfl ⟨rfl, ?_⟩
          refine PySem.ks_wpAny_call_super hD rfl ho rfl (fun c e => by cases e) (PySem.W.looks_mroIn J.kIn T.mro) (fun h1 e1 k1 => ?_)
          have J1 : Inv (iniCx P w K mg base n qual (iniSc n) fI (.ref cda) cc A outer s H) [] [some (.ref a), some y] H { s with heap := h1, toks := tk } := J.kept (t' := tk) k1
          have I1 : PySem.W.InstAt h1 a _ C none := ⟨k1 _ _ ho, rfl, rfl, trivial⟩
          have hm2 := T.mth
          unfold PySem.W.ks_superIn at hm2
          rw [hcl] at hm2
          refine PySem.W.kxs_getMethod (h := h1) PySem.W.kxs_ValueError e1 (PySem.W.looks_opaque J1.kIn T.opq) (l₀ := .ref C :: bm) (fun A Q E s k q => wpAny_bind ((PySem.W.looks_clsIn J1.kIn hcl) A _ E s k (wpAny_pure q))) rfl J1.kIn hm2 (I1.type.andThen (PySem.W.looks_subIn J1.kIn T.sub)) caN (by decide) ?_
          have k2 : ∀ b o, h1.get? b = some o → (h1.push (PySem.W.kxs_mw "ValueError.__init__" a)).get? b = some o := fun b o e => Heap.get?_push_of_some _ e
          have hu : (h1.push (PySem.W.kxs_mw "ValueError.__init__" a)).get? h1.objs.size = some (PySem.W.kxs_mw "ValueError.__init__" a) := Heap.get?_push_at rfl rfl
          have hns2 := hns.at fun o e => k2 _ _ (k1 _ _ e)
          have hl1 : ∀ {Q : Value → Shared → Prop} {E : Value → Shared → Prop} {t : Nat}, Q u2 ⟨h1.push (PySem.W.kxs_mw "ValueError.__init__" a), s.gens, s.drawn, t, s.os⟩ → wpAny (model P w) (A.deeper (PySem.W.ksEnv qual (iniSc n) s.heap.objs.size fI (.ref cda) cc)) (eval (.Name n p4) (PySem.W.ksEnv qual (iniSc n) s.heap.objs.size fI (.ref cda) cc)) Q E ⟨h1.push (PySem.W.kxs_mw "ValueError.__init__" a), s.gens, s.drawn, t, s.os⟩ := fun {Q E t} hQ =>
            wpAny_Name (wpAny_loadName_local rfl (ini_n T.nn) hns2 (v := u2) (by
              show List.lookup n ([(n, u2), (Str.ofString "self", Value.ref a)] : List (Str × Value)) = _
              simp [List.lookup]) hQ) T.nn.d
          refine PySem.W.kxs_callWith (i := "ValueError.__init__") (x := a) (first := []) rfl ?_
          refine Calls.evalArgs_plain (Calls.spliced_cons (hl1 (Calls.spliced_nil ⟨hu, ?_⟩)))
          show wpAny _ _ (call (.ref h1.objs.size) [u2]) _ _ _
          have he2 : (h1.push (PySem.W.kxs_mw "ValueError.__init__" a)).get? a = some (PySem.W.excRec (.ref C) _ none .none .none (.bool false)) := k2 _ _ (k1 _ _ ho)
          have hC2 := k2 _ _ (k1 _ _ hD)
          have J2 : Inv (iniCx P w K mg base n qual (iniSc n) fI (.ref cda) cc A outer s H) [] [some (.ref a), some y] H { s with heap := h1.push (PySem.W.kxs_mw "ValueError.__init__" a), toks := tk + 1 } := J1.kept (t' := tk + 1) k2
          refine wpAny_call (codeAny_of_tree ?_)
          show wpAny _ _ (callAny (.ref h1.objs.size) ⟨[u2], []⟩) _ _ _
          simp only [callAny]
          refine wpAny_bind (wpAny_load hu ?_)
          simp only [PySem.W.kxs_mw, show (Value.type "method-wrapper" == Value.type "method" || Value.type "method-wrapper" == Value.type "builtin_function_or_method" || Value.type "method-wrapper" == Value.type "method-wrapper") = true by decide, if_true]
          refine PySem.W.KFB.if_so (by decide) ?_
          refine wpAny_bind (PySem.W.check_bound_init PySem.F.excBase_ValueError.toExcCallFacts hC2 he2 rfl ?_)
          refine wpAny_bind (wpAny_pure (wpAny_pure ?_))
          refine ⟨plainId_quiet PySem.F.excBase_ValueError.init.plain _, codeAny_builtin PySem.F.excBase_ValueError.initEntry ?_⟩
          refine PySem.W.exc_init_tree he2 (show 1 ≤ sizeLine by decide) fun h3 k3 hx3 _ => ?_
          refine ⟨trivial, ?_⟩
          have J3 := J2.write (t' := tk + 1) (x := a) (e := a) (o := exo a C none) (by rw [ha]; exact True.intro) (.inl rfl) k3 ⟨_, hx3⟩ (exo_ok hx3)
          have eu : upd H a (exo a C none) = H := by
            funext b
            by_cases hb : b = a
            · rw [hb, upd_same, ha]
            · rw [upd_ne hb]
          rw [eu] at J3
          exact J3
        · obtain ⟨rfl, J2⟩ := hf
          have hps : PS (iniCx P w K mg base n qual (iniSc n) fI (.ref cda) cc A outer s H) (.Assign [.Attribute (.Name "self" p6) n p7] (.Name n p8) p9) (tOst K n (tVar 0) (tVar 1)) :=
            ps_ost (pe_var (i := 0) (x := "self") rfl (.inl rfl) (by decide) (by decide)) (pe_var (i := 1) rfl (.inl (ini_n T.nn)) T.nn.d T.nn.k) (hs2 _)
          refine PySem.ks_wpAt_execs_cons (PySem.ks_wpAt_mono (PySem.wpAt_of_wpAny (hps.run [] s' [some (.ref a), some y] H { nx := fun _ H' => Q .non H', rt := fun _ _ => False } J2 ?_)) (fun f s3 hf => ?_) fun _ _ z => z.elim)
          · refine ⟨y, rfl, .ref a, rfl, a, C, rfl, T.T, T.no, .inl ⟨ha, hq⟩⟩
          · cases f with
            | next =>
              obtain ⟨σ', H', J3, q⟩ := hf
              exact PySem.wpAt_of_wpAny (wpAny_pure (fin (v := .non) (u := .none) J3 rfl q))
            | ret u =>
              obtain ⟨v, σ', H', J3, rv, q⟩ := hf
              exact fin J3 rv (show Q _ _ from q.elim)
            | brk =>
              obtain ⟨_, _, _, q⟩ := hf
              exact q.elim
            | cont =>
              obtain ⟨_, _, _, q⟩ := hf
              exact q.elim
end
end Dl
set_option maxRecDepth 100000
set_option maxHeartbeats 4000000
/-! raise -/
namespace Dl
open PySem PySem.Spec PyProof.Rows L2
section
variable {X : Cx}
/-- X() -/
theorem pmk_none {C : Addr} {bmB : List Value} {B newId initId : String} {x : Str} {p pos : Pos} (F : ExcBaseFacts B newId initId bmB) (q : PySem.W.excIn X.K C bmB newId = true) (gC : X.mg x = some (.ref C)) (kC : PySem.W.keepIn X.K (.ref C) = true) (r : Raises X (.ref C)) (hg : Gl X x)
    (hdb : (x == ("__debug__" : Str)) = false := by decide) : PMk X (.Call (.Name x p) [] [] pos) (fun σ H Q => Q (.ref C) none H) := fun pins s σ H Q I h => by
  refine wpAny_Call_Name_kw (ld_glob I hg gC (PySem.W.callWith_K0 I.kIn kC ?_) hdb)
  obtain ⟨hp, g, dr, tk, os⟩ := s
  have hx := exc_obj I.kIn q
  obtain ⟨bm, N, nm, qn, bs, hdct, sn, sub, ab, col, dd, k0, k1, k2, k3, k5, mN, hC, hN, hni, T⟩ := hx
  exact wpAny_call_exc_subT F T hC hN hni (fun h' e hm => mk_of I hm r h (I.hok.gone hm.new)) (Nat.zero_le _)
end
section
variable {cb : Bool} {ι : Type} {P : Program} {w : World} {K : PySem.W.Frag} {mg : Str → Option Value} {base : Heap} {k : Nat} {N : List Str} {F : ι → Cx} {I : SI} {W : WX} {pos : Pos}
/-- an own class without __init__, over ValueError -/
structure Xc (K : PySem.W.Frag) (mg : Str → Option Value) (x : Str) : Prop where
  ex : ∃ C : Addr, mg x = some (.ref C) ∧ PySem.W.keepIn K (.ref C) = true ∧ PySem.W.excIn K C [.type "ValueError", .type "Exception", .type "BaseException", .type "object"] "ValueError.__new__" = true ∧
    PySem.W.subIn K (.ref C) (.type "BaseException") = some true ∧ PySem.W.typeIn K (.ref C) = some (.type "type")
def sRaise (x : Str) : Sm Out := fun _ t => .ex ⟨x, none⟩ t
theorem ds_raise {x : Str} {p p2 : Pos} (Wf : Fm P w K mg base k N F) (tk : ∀ i, Takes (F i) W) (im : I.mg = mg) (T : Xc K mg x) (hg : ∀ i, Gl (F i) x := by exact fun _ => rfl) (hdb : (x == ("__debug__" : Str)) = false := by decide) :
    DS I K W F (.Raise (some (.Call (.Name x p) [] [] p2)) none pos) (sRaise x) := fun i => by
  obtain ⟨C, h1, h2, h3, h4, h5⟩ := T.ex
  refine (ps_raise (Wf.calm i) (tk i) (pmk_none PySem.F.excBase_ValueError (by rw [Wf.K i]; exact h3) (by rw [Wf.mg i]; exact h1) (by rw [Wf.K i]; exact h2) (raises_own (by rw [Wf.K i]; exact h4) (by rw [Wf.K i]; exact h5)) (hg i) hdb)).imp fun Dn σ H ⟨env, s, ok, re, h⟩ => ?_
  exact h σ (.ref C) none s H rfl (Po.refl ok) ⟨C, by rw [im]; exact h1, rfl, rfl⟩
/-- an own class whose __init__ keeps what it gets as n -/
structure Xi (P : Program) (K : PySem.W.Frag) (mg : Str → Option Value) (x n : Str) : Prop where
  ex : ∃ C fI : Addr, mg x = some (.ref C) ∧ IniC P K C fI n ∧ PySem.W.findIn K (.ref C) "__init__" = some (some (.ref fI)) ∧ PySem.W.typeIn K (.ref fI) = some (.type "function")
  su : mg "super" = none
def sRaise1 (x n : Str) (g : Sm D) : Sm Out := fun env t => (g env t).bind fun d t => match d with
  | .d y => .ex ⟨x, some (n, y)⟩ t
  | _ => .no
theorem ds_raise1 {x n : Str} {e : Expr} {p p2 : Pos} {g : Sm D} (Wf : Fm P w K mg base (k + 2) N F) (tk : ∀ i, Takes (F i) W) (im : I.mg = mg) (T : Xi P K mg x n) (h : DE I K W F e g) (hg : ∀ i, Gl (F i) x := by exact fun _ => rfl) (hdb : (x == ("__debug__" : Str)) = false := by decide)
    (he : ∀ i, starEach [e] (F i).env = (false, eval e (F i).env) :: starEach [] (F i).env := by exact fun _ => rfl) (hpl : ∀ i, (backTo p2 (starEach [] (F i).env)).any (·.1) = false := by exact fun _ => rfl) :
    DS I K W F (.Raise (some (.Call (.Name x p) [e] [] p2)) none pos) (sRaise1 x n g) := fun i => by
  obtain ⟨C, fI, h1, h2, h3, h4⟩ := T.ex
  obtain ⟨fd, hb, F1⟩ := ini_run (w := w) (mg := mg) (base := base) (CX := L2.CX P w) h2 T.su
  have F1' : FnOk (F i).prog (F i).w (F i).K (F i).mg (F i).base (L2.CX (F i).prog (F i).w) 1 fI fd ["self", n] (spIni C n) := by rw [Wf.prog i, Wf.w i, Wf.K i, Wf.mg i, Wf.base i]; exact F1
  refine (ps_raise (Wf.calm i) (tk i) (pmk_oex (dvs := []) (by rw [Wf.K i]; exact h2.T) (by rw [Wf.K i]; exact h3) (by rw [Wf.K i]; exact h4) F1' ((Wf.room i).mono (by omega)) (by rw [Wf.K i]; exact hb) .nil (passes_call takes_f (fun _ _ _ _ z => z)) (hg i) (by rw [Wf.mg i]; exact h1) (pa_cons (h i) pa_nil (he i)) hdb (he i) (hpl i))).imp fun Dn σ H ⟨env, s, ok, re, h⟩ => ?_
  unfold sRaise1 at h
  refine ⟨env, s, ok, re, (R.post_bind h).mono (fun d t h v s1 H1 e1 p1 r1 => ?_) fun x t hx => hx σ⟩
  subst e1
  cases d with
  | d y =>
    refine ⟨by show 1 ≤ 1000; decide, fun a ha => ⟨a, v, rfl, upd_same, fun dx hdx hne => ⟨rfl, dx, [(n, v)], upd_same, ?_, ?_, ?_⟩⟩⟩
    · rw [upd_ne hne, upd_same]
    · rw [upd_ne hne] at hdx; exact hdx
    · have hd : H1 dx = none := by rw [upd_ne hne] at hdx; exact hdx
      have e : upd (del (upd (upd (upd H1 a (exo a C none)) dx (exd dx [(n, v)])) a (exo a C (some dx))) a) dx (.xd [(n, v)]) = upd H1 dx (.xd [(n, v)]) := by
        funext b
        by_cases c : b = dx
        · rw [c, upd_same, upd_same]
        · rw [upd_ne c, upd_ne c]
          by_cases c2 : b = a
          · rw [c2, del_same]; exact ha.symm
          · rw [del_ne c2, upd_ne c2, upd_ne c, upd_ne c2]
      rw [e]
      refine h σ (.ref C) (some dx) s1 _ rfl (p1.trans (Po.up p1.ok (same_new hd))) ⟨C, by rw [im]; exact h1, rfl, dx, v, rfl, hr_new p1.ok hd, ?_⟩
      exact dp_same (hr_same_new p1.ok hd).h r1
  | _ => exact h.elim
end
end Dl
set_option maxRecDepth 100000
set_option maxHeartbeats 4000000
/-! try .. except X as e -/
namespace Dl
open PySem PySem.Spec PyProof.Rows L2
/-- other exceptions are handled -/
def SI.wx (I : SI) (X : Hp → Str → Option (Str × PyData) → V → Prop) (xs : ∀ {H H' : Hp} {c : Str} {y : Option (Str × PyData)} {v : V}, Same H H' → X H c y v → X H' c y v) : SI := { I with X := X, xs := xs }
/-- an exception is nothing here -/
structure VLx (A B : Vw) : Prop where
  h : Same A.h B.h
  w : ∀ n p x, A.w n p = some x → B.w n p = some x
  c : ∀ k v, A.c k v → B.c k v
mutual
theorem rp_x {A B : Vw} {K : PySem.W.Frag} (e : VLx A B) : ∀ {d : D} {v : V}, top d = 0 → Rp K A d v → Rp K B d v
  | .d x, _, _, h => dp_same e.h h
  | .o w, _, _, h => h
  | .kt x, _, _, h => h
  | .ob u, _, _, ⟨a, h1, h2⟩ => ⟨a, h1, e.h _ _ h2⟩
  | .r n p, _, ht, _ => by unfold top at ht; cases ht
  | .tp ds, _, ht, ⟨a, xs, h1, h2, h3⟩ => ⟨a, xs, h1, e.h _ _ h2, rpa_x e (by unfold top at ht; exact ht) h3⟩
  | .ls ds, _, ht, ⟨a, xs, h1, h2, h3⟩ => ⟨a, xs, h1, e.h _ _ h2, rpa_x e (by unfold top at ht; exact ht) h3⟩
  | .cl k, _, _, h => e.c _ _ h
  | .xn _ _, _, ht, _ => by unfold top at ht; cases ht
  | .sc ns, _, _, ⟨a, h1, h2, h3⟩ => ⟨a, h1, sql_same e.h h2, h3⟩
  | .un, _, _, h => h
theorem rpa_x {A B : Vw} {K : PySem.W.Frag} (e : VLx A B) : ∀ {ds : List D} {vs : List V}, topL ds = 0 → RpA K A ds vs → RpA K B ds vs
  | [], _, _, h => h
  | _ :: _, _, ht, ⟨v, us, h1, h2, h3⟩ => ⟨v, us, h1, rp_x e (by unfold topL at ht; omega) h2, rpa_x e (by unfold topL at ht; omega) h3⟩
end
theorem chs_x {A B : Vw} {K : PySem.W.Frag} (e : VLx A B) {n : Nat} {p : Pth} : ∀ {j : Nat} {ts : List Tr} {vs : List V}, Chs K A n p j ts vs → Chs K B n p j ts vs
  | _, _, _, .nil => .nil
  | _, .v d :: _, _, .cons h t => .cons ⟨rp_x e h.2 h.1, h.2⟩ (chs_x e t)
  | _, .nd _ _ :: _, _, .cons ⟨a, h1, h2⟩ t => .cons ⟨a, e.w _ _ _ h1, h2⟩ (chs_x e t)
section
variable {I : SI} {K : PySem.W.Frag} {s s' : St1} {H H' : Hp} {X : Hp → Str → Option (Str × PyData) → V → Prop} {xs : ∀ {H H' : Hp} {c : Str} {y : Option (Str × PyData)} {v : V}, Same H H' → X H c y v → X H' c y v}
theorem hr_x : VLx (Hr I s H) (Hr (I.wx X xs) s H) := ⟨fun _ _ h => h, fun _ _ _ h => h, fun _ _ h => h⟩
theorem ok_x (h : I.ok K s H) : (I.wx X xs).ok K s H := ⟨fun n p k ts q => by
  obtain ⟨a, dx, vs, h1, h2, h3, h4, h5⟩ := h.nod n p k ts q
  exact ⟨a, dx, vs, h1, h2, h3, chs_x hr_x h4, h5⟩, h.inj, h.dom, h.z, h.tab, h.fl⟩
theorem ok_x' (h : (I.wx X xs).ok K s H) : I.ok K s H := ok_x (I := I.wx X xs) (X := I.X) (xs := I.xs) h
theorem po_x' (p : Po (I.wx X xs) K s H s' H') : Po I K s H s' H' := ⟨p.keep, ok_x' p.ok, p.gro, p.live, p.wle, p.ze⟩
end
/-- the exception at a, of the class cls, its dict d, is handled -/
def XnOf (mg : Str → Option Value) (K : PySem.W.Frag) (a : Addr) (cls : Value) (d : Option Addr) : Hp → Str → Option (Str × PyData) → V → Prop := fun H c y v => v = .ref a ∧ ∃ C, mg c = some (.ref C) ∧ cls = .ref C ∧ match y with
  | none => d = none
  | some (f, y) => ∃ dd u, d = some dd ∧ H dd = some (.xd [(f, u)]) ∧ Dq K H u y
theorem xnOf_same {mg : Str → Option Value} {K : PySem.W.Frag} {a : Addr} {cls : Value} {d : Option Addr} {H H' : Hp} {c : Str} {y : Option (Str × PyData)} {v : V} (e : Same H H') (h : XnOf mg K a cls d H c y v) : XnOf mg K a cls d H' c y v := by
  obtain ⟨h0, C, h1, h2, h3⟩ := h
  refine ⟨h0, C, h1, h2, ?_⟩
  match y, h3 with
  | none, h3 => exact h3
  | some (f, y), ⟨dd, u, h4, h5, h6⟩ => exact ⟨dd, u, h4, e _ _ h5, dp_same e h6⟩
abbrev SI.xn (I : SI) (K : PySem.W.Frag) (a : Addr) (cls : Value) (d : Option Addr) : SI := I.wx (XnOf I.mg K a cls d) xnOf_same
theorem ok_xn {I : SI} {K : PySem.W.Frag} {s : St1} {H : Hp} {a : Addr} {cls : Value} {d : Option Addr} (h : I.ok K s H) : (I.xn K a cls d).ok K s H := by
  exact @ok_x I K s H (XnOf I.mg K a cls d) (@xnOf_same I.mg K a cls d) h
theorem po_xn {I : SI} {K : PySem.W.Frag} {s s' : St1} {H H' : Hp} {a : Addr} {cls : Value} {d : Option Addr} (h : Po (I.xn K a cls d) K s H s' H') : Po I K s H s' H' := @po_x' I K s s' H H' (XnOf I.mg K a cls d) (@xnOf_same I.mg K a cls d) h
def xenv (L i : Nat) (x : Exn) : Env := (List.replicate L none).set i (some (.xn x.c x.x))
/-- what a suite returns -/
def rtD : R Out → R Out
  | .ok (.rt (.d y)) t => .ok (.rt (.d y)) t
  | _ => .no
def sTry (L : Nat) (ex : Str → Option Bool) (i : Nat) (gb gs : Sm Out) : Sm Out := fun env t => match gb env t with
  | .no => .no
  | .ok o t => .ok o t
  | .ex x t => match ex x.c with
    | some true => rtD (gs (xenv L i x) t)
    | some false => .ex x t
    | none => .no
/-- which of our classes the clause takes -/
structure ExT (K : PySem.W.Frag) (mg : Str → Option Value) (x : Str) (ex : Str → Option Bool) : Prop where
  at_ : ∃ D : Addr, mg x = some (.ref D) ∧ ∀ c b, ex c = some b → ∀ C, mg c = some (.ref C) → PySem.W.exmOne K (.ref C) (.ref D) = some b
/-- the slots are as many as the names -/
def WL (L : Nat) (W : WX) : WX := fun cls d σ H => σ.length = L → W cls d σ H
theorem takes_len {X : Cx} {W : WX} (tk : Takes X W) : Takes X (WL X.N.length W) := fun u s' ⟨a, B, sI, pins, σ, H, cls, d, e, I, nb, up, sky, na, os, ag, w⟩ =>
  tk u s' ⟨a, B, sI, pins, σ, H, cls, d, e, I, nb, up, sky, na, os, ag, w I.len⟩
section
variable {cb : Bool} {ι : Type} {P : Program} {w : World} {K : PySem.W.Frag} {mg : Str → Option Value} {base : Heap} {k : Nat} {N : List Str} {F : ι → Cx} {I : SI} {W : WX} {pos : Pos}
theorem ds_try {x n : Str} {i : Nat} {body : List Stmt} {b0 : Stmt} {suite : List Stmt} {np pos' : Pos} {ex : Str → Option Bool} {gb gs : Sm Out} (Wf : Fm P w K mg base k N F) (tk : ∀ j, Takes (F j) W) (im : I.mg = mg) (T : ExT K mg x ex)
    (hb : ∀ (j : ι) (W' : WX) (pn : List (Addr × Obj)) (xe : Value → Shared → Prop), Takes ((F j).tr pn xe) W' → PassesOwn (model (F j).prog (F j).w) (F j).A (F j).env xe → Fm P w K mg base k N (fun _ : Unit => (F j).tr pn xe) → DSs I K W' (fun _ : Unit => (F j).tr pn xe) body gb)
    (hsu : ∀ (j : ι) (a : Addr) (oe : Obj) (cls : Value) (d : Option Addr) (pn : List (Addr × Obj)), Zc cls d oe → (∃ vs, oe.data = .fields vs) → FmC false P w K mg base k N (fun _ : Unit => (F j).suite a ((a, oe) :: pn)) → DSs (I.xn K a cls d) K WF (fun _ : Unit => (F j).suite a ((a, oe) :: pn)) (b0 :: suite) gs)
    (hN : ∀ j, (F j).N[i]? = some n := by exact fun _ => rfl) (hln : ∀ j, (F j).env.kindOf n = some .local := by exact fun _ => rfl) (hg : ∀ j, Gl (F j) x := by exact fun _ => rfl) (hdb : (x == ("__debug__" : Str)) = false := by decide)
    (hs : ∀ j, (F j).stack = (F j).env :: (F j).outer := by exact fun _ => rfl) (hf : ∀ j, (F j).env.frame = some (F j).env.locals := by exact fun _ => rfl) :
    DS I K W F (.Try body [.ExceptHandler (some (.Name x np)) (some n) (b0 :: suite) pos'] [] [] pos) (sTry N.length ex i gb gs) := fun j => by
  obtain ⟨Dc, h1, h2⟩ := T.at_
  have wt : ∀ pn xe, Fm P w K mg base k N (fun _ : Unit => (F j).tr pn xe) := fun pn xe => ⟨fun _ => Wf.prog j, fun _ => Wf.w j, fun _ => Wf.K j, fun _ => Wf.mg j, fun _ => Wf.base j, fun _ _ => Wf.calm j, fun _ _ => Wf.room j, fun _ => Wf.un j, Wf.nd, fun _ => Wf.N j⟩
  have ws : ∀ a oe pn, FmC false P w K mg base k N (fun _ : Unit => (F j).suite a ((a, oe) :: pn)) := fun a oe pn => ⟨fun _ => Wf.prog j, fun _ => Wf.w j, fun _ => Wf.K j, fun _ => Wf.mg j, fun _ => Wf.base j, fun z => (by cases z), fun z => (by cases z), fun _ => Wf.un j, Wf.nd, fun _ => Wf.N j⟩
  refine (ps_try_as (hs j) (hf j) (by rw [Wf.N j]; exact Wf.nd) (hN j) (hln j) (c := .ref Dc) ⟨hg j, hdb, .inl (by rw [Wf.mg j]; exact h1)⟩ (tk j) (tb := fun W' => tGS I K (WL N.length W') gb) (ts := fun a cls d => tGS (I.xn K a cls d) K WF gs)
    (fun W' pn xe tk' pa => hb j _ pn xe (by have := takes_len tk'; rw [show ((F j).tr pn xe).N = N from Wf.N j] at this; exact this) pa (wt pn xe) ())
    (fun a oe cls d pn hz hd => hsu j a oe cls d pn hz hd (ws a oe pn) ())).imp fun Dn σ H ⟨env, s, ok, re, h⟩ => ⟨env, s, ok, re, ?_⟩
  unfold sTry at h
  cases q : gb env s.t with
  | no => rw [q] at h; exact h.elim
  | ok o t => rw [q] at h; exact h
  | ex x t =>
    rw [q] at h
    dsimp only at h
    intro σ' cls dd s' H' et p ax hlen
    subst et
    obtain ⟨C, c1, c2, c3⟩ := ax
    subst c2
    rw [Wf.K j]
    cases qe : ex x.c with
    | none => rw [qe] at h; exact h.elim
    | some b =>
      rw [qe] at h
      refine ⟨b, h2 _ _ qe _ (by rw [← im]; exact c1), fun hb1 a ha => ?_, fun hb0 => ?_⟩
      · subst hb1
        dsimp only at h
        refine ⟨xenv N.length i x, s', ok_xn p.ok, ⟨by unfold xenv; rw [List.length_set, List.length_set, List.length_replicate]; exact hlen.symm, fun m d hd => ?_⟩, ?_⟩
        · unfold xenv at hd
          by_cases c : m = i
          · subst c
            have hl := (List.getElem?_eq_some_iff.mp hd).1
            rw [List.length_set, List.length_replicate] at hl
            rw [List.getElem?_set_self (by rw [List.length_replicate]; exact hl)] at hd
            cases hd
            refine ⟨.ref a, List.getElem?_set_self (by rw [hlen]; exact hl), rfl, C, c1, rfl, ?_⟩
            cases qx : x.x with
            | none => rw [qx] at c3; exact c3
            | some fy =>
              obtain ⟨f, y⟩ := fy
              rw [qx] at c3
              exact c3
          · rw [List.getElem?_set_ne (fun z => c z.symm), List.getElem?_replicate] at hd
            split at hd <;> cases hd
        · have h : (rtD (gs (xenv N.length i x) s'.t)).Post _ _ := h
          cases qs : gs (xenv N.length i x) s'.t with
          | no => rw [qs] at h; exact h.elim
          | ex y t => rw [qs] at h; exact h.elim
          | ok o t =>
            rw [qs] at h
            match o, h with
            | .rt (.d y), h => exact fun v s'' H'' e p2 r => h v s'' H'' e (p.trans (po_xn p2)) (rp_x (A := Hr (I.xn K a (.ref C) dd) s'' H'') (B := Hr I s'' H'') ⟨fun _ _ z => z, fun _ _ _ z => z, fun _ _ z => z⟩ rfl r)
      · subst hb0
        dsimp only at h
        exact h σ' (.ref C) dd s' H' rfl p ⟨C, c1, rfl, c3⟩
end
end Dl
set_option maxRecDepth 100000
set_option maxHeartbeats 4000000
/-! in an except suite: isinstance(e, X), e.f -/
namespace Dl
open PySem PySem.Spec PyProof.Rows L2
/-- what is known of d -/
def XdAt (H : Hp) : Option Addr → Prop
  | none => True
  | some dd => ∃ fs, H dd = some (.xd fs)
def rIsX (K : PySem.W.Frag) (a : Addr) (cls : Value) (d : Option Addr) : List V → Hp → VK → Prop := fun xs H Q => ∃ (D E : Addr) (b : Bool), xs = [.ref a, .ref E] ∧ cls = .ref D ∧ XdAt H d ∧ ExcC K D ∧ PySem.W.kitOne K (.ref D) (.ref E) = some b ∧ Q (.bl b) H
theorem cls_of {K : PySem.W.Frag} {D : Addr} (h : PySem.W.hasDictIn K D = true) : (PySem.W.clsIn K D).isSome = true := by
  obtain ⟨cd, hc, _⟩ := PySem.W.any_some h
  rw [hc]
  rfl
theorem inst_of {X : Cx} {a D : Addr} {oe : Obj} {d : Option Addr} {pn pins : List (Addr × Obj)} {σ : L2.St} {H : Hp} {s : Shared} (I : Inv (X.suite a ((a, oe) :: pn)) pins σ H s) (hz : Zc (.ref D) d oe) (hf : ∃ vs, oe.data = .fields vs) (hd : XdAt H d) : ∃ od, PySem.W.InstAt s.heap a oe D od := by
  obtain ⟨hget, _⟩ := I.pin (a, oe) (List.mem_append.mpr (.inl List.mem_cons_self))
  obtain ⟨vs, hv⟩ := hf
  obtain ⟨oc, od, oda, osl⟩ := oe
  obtain ⟨h1, h2⟩ := hz
  dsimp only at h1 h2 hv
  subst h1 h2 hv
  cases od with
  | none => exact ⟨none, hget, rfl, rfl, trivial⟩
  | some dd =>
    obtain ⟨fs, ea⟩ := hd
    have hx : ObjOk X.prog X.w H s.heap dd (.xd fs) := I.hok dd _ ea
    obtain ⟨mA, hns, hr⟩ := hx
    obtain ⟨od, ho, hl⟩ := lookIn_ns hns
    exact ⟨some od, hget, rfl, rfl, ho⟩
theorem call_isX {X : Cx} {a : Addr} {oe : Obj} {cls : Value} {d : Option Addr} {pn : List (Addr × Obj)} (hz : Zc cls d oe) (hf : ∃ vs, oe.data = .fields vs) : CallR (X.suite a ((a, oe) :: pn)) (.builtin "isinstance") (rIsX X.K a cls d) := by
  intro pins s σ H xs us Q I r h
  obtain ⟨D, E, b, rfl, rfl, hd, C, e, q⟩ := h
  obtain ⟨od, J⟩ := inst_of I hz hf hd
  cases r with
  | cons rx rr =>
    cases rr with
    | cons rt rr =>
      cases rr
      cases rx
      cases rt
      exact PySem.W.kia_one (PySem.W.kitx_exc (ox := oe) (od := od) (cls_of C.hd) C.hg C.hk C.hs C.ha C.hn C.ht C.hm) I.kIn J e (fun z => nomatch z) fun tk => ⟨.bl b, H, I.kept (t' := tk) fun _ _ z => z, rfl, q⟩
def tXfD (K : PySem.W.Frag) (a : Addr) (cls : Value) (d : Option Addr) (f : Str) (te : TE) : TE := fun σ H Q => te σ H fun x H1 => x = .ref a ∧ ∃ C, cls = .ref C ∧ XfC K C ∧ PySem.W.findIn K (.ref C) f = some none ∧ ∃ (dd : Addr) (fs : List (Str × V)) (v : V), d = some dd ∧ H1 dd = some (.xd fs) ∧ fs.lookup f = some v ∧ Q v H1
theorem pe_xfD {X : Cx} {a : Addr} {oe : Obj} {cls : Value} {d : Option Addr} {pn : List (Addr × Obj)} {e : Expr} {te : TE} {pos : Pos} {n : Str} (hz : Zc cls d oe) (hf : ∃ vs, oe.data = .fields vs) (he : PE (X.suite a ((a, oe) :: pn)) e te) (hb : attributeBase e n X.env (eval e X.env) = eval e X.env) :
    PE (X.suite a ((a, oe) :: pn)) (.Attribute e n pos) (tXfD X.K a cls d n te) := by
  refine ⟨fun pins s σ H Q I h => ?_⟩
  refine attr_of hb (thn (he.run pins s σ H _ I h) fun u s1 hh => ?_)
  obtain ⟨x, H1, I1, rx, ex, C, ec, T, hno, dd, fs, v, ed, ea, l, q⟩ := hh
  subst ex
  obtain rfl : u = Value.ref a := rx
  subst ec
  subst ed
  have hx : ObjOk X.prog X.w H1 s1.heap dd (.xd fs) := I1.hok dd _ ea
  obtain ⟨mA, hns, hr⟩ := hx
  obtain ⟨od, ho, hl⟩ := lookIn_ns hns
  obtain ⟨u, hu, ru⟩ := RelO.some_of (v := v) (o := mA n) (by rw [← l]; exact hr n)
  obtain ⟨ha, _⟩ := I1.pin (a, oe) (List.mem_append_left _ List.mem_cons_self)
  obtain ⟨vs, hd⟩ := hf
  have J : PySem.W.InstAt s1.heap a oe C (some od) := ⟨ha, hz.1, by unfold PySem.W.notCls; rw [hd] <;> rfl, by rw [hz.2]; exact ho⟩
  exact HandSPX.exc_get I1.kIn J T.ga T.gg T.exC (PySem.W.findObj_own T.hdC hno rfl (by rw [hl, hu])) (handed_of ru) ⟨v, H1, I1.tok _, ru, q⟩
/-- isinstance of one of our classes by another -/
structure IsT (K : PySem.W.Frag) (mg : Str → Option Value) (x : Str) (ex : Str → Option Bool) : Prop where
  at_ : ∃ D : Addr, mg x = some (.ref D) ∧ ∀ c b, ex c = some b → ∀ C, mg c = some (.ref C) → ExcC K C ∧ PySem.W.kitOne K (.ref C) (.ref D) = some b
/-- the field's classes -/
structure XfT (K : PySem.W.Frag) (mg : Str → Option Value) (n : Str) (cs : List Str) : Prop where
  at_ : ∀ c ∈ cs, ∀ C, mg c = some (.ref C) → XfC K C ∧ PySem.W.findIn K (.ref C) n = some none
def isX (ex : Str → Option Bool) : D → Option D
  | .xn c _ => (ex c).map fun b => .d (.bool b)
  | _ => none
def fldX (n : Str) (cs : List Str) : D → Option D
  | .xn c (some (f, y)) => if f = n ∧ c ∈ cs then some (.d y) else none
  | _ => none
def sIsX (ex : Str → Option Bool) (g : Sm D) : Sm D := fun env t => (g env t).bind fun x t => ofO (isX ex x) t
def sXf (n : Str) (cs : List Str) (g : Sm D) : Sm D := fun env t => (g env t).bind fun x t => ofO (fldX n cs x) t
theorem xnof_d {mg : Str → Option Value} {K : PySem.W.Frag} {a : Addr} {cls : Value} {d : Option Addr} {I : SI} {s : St1} {H : Hp} {c : Str} {y : Option (Str × PyData)} {v : V} (h : (Hr (I.xn K a cls d) s H).x c y v) : v = .ref a ∧ ∃ C, I.mg c = some (.ref C) ∧ cls = .ref C ∧ XdAt H d := by
  obtain ⟨h0, C, h1, h2, h3⟩ := h
  refine ⟨h0, C, h1, h2, ?_⟩
  match y, h3 with
  | none, h3 => rw [show d = none from h3]; exact trivial
  | some (f, y), ⟨dd, u, h4, h5, h6⟩ =>
    subst h4
    exact ⟨_, hr_sub (I := I.xn K a cls (some dd)) _ _ h5⟩
section
variable {cb : Bool} {P : Program} {w : World} {K : PySem.W.Frag} {mg : Str → Option Value} {base : Heap} {k : Nat} {N : List Str} {X : Cx} {I : SI} {W : WX} {pos : Pos} {a : Addr} {oe : Obj} {cls : Value} {d : Option Addr} {pn : List (Addr × Obj)}
theorem de_isx {x : Str} {e : Expr} {p p1 : Pos} {ex : Str → Option Bool} {g : Sm D} (Wf : FmC cb P w K mg base k N (fun _ : Unit => X.suite a ((a, oe) :: pn))) (im : I.mg = mg) (hz : Zc cls d oe) (hf : ∃ vs, oe.data = .fields vs) (T : IsT K mg x ex) (h : DE (I.xn K a cls d) K W (fun _ : Unit => X.suite a ((a, oe) :: pn)) e g)
    (hm : mg "isinstance" = none) (hv : bootBuiltins "isinstance" = some (.builtin "isinstance")) (hg : Gl X "isinstance" := by exact rfl) (hgx : Gl X x := by exact rfl) (hdx : (x == ("__debug__" : Str)) = false := by decide)
    (he : starEach [e, .Name x p1] X.env = (false, eval e X.env) :: starEach [.Name x p1] X.env := by exact rfl) (hpl : (backTo pos (starEach [.Name x p1] X.env)).any (·.1) = false := by exact rfl) :
    DE (I.xn K a cls d) K W (fun _ : Unit => X.suite a ((a, oe) :: pn)) (.Call (.Name "isinstance" p) [e, .Name x p1] [] pos) (sIsX ex g) := fun i => by
  obtain ⟨D, h1, h2⟩ := T.at_
  have hK : X.K = K := Wf.K ()
  have hm' : X.mg = mg := Wf.mg ()
  refine (pe_callB (X := X.suite a ((a, oe) :: pn)) (call_isX hz hf) hg (by show X.mg _ = none; rw [hm']; exact hm) hv (pa_cons (h ()) (pa_cons (pe_glob (v := .ref D) hgx (by show X.mg x = _; rw [hm']; exact h1) rfl hdx) pa_nil rfl) he) (by decide) (by decide) he hpl).imp fun σ H Q ⟨env, s, ok, re, h⟩ => ?_
  refine ⟨env, s, ok, re, (R.post_bind h).mono (fun x t h v s1 H1 e1 p1 r1 => ?_) fun x t hx => hx⟩
  obtain ⟨z, ez, h⟩ := post_ofO h
  subst e1
  unfold isX at ez
  split at ez
  · rename_i c y
    cases qb : ex c with
    | none => rw [qb] at ez; cases ez
    | some b =>
      rw [qb] at ez
      cases ez
      obtain ⟨rfl, C, c1, c2, c3⟩ := xnof_d (mg := mg) r1
      obtain ⟨d1, d2⟩ := h2 c b qb C (by rw [← im]; exact c1)
      rw [hK]
      exact ⟨C, D, b, rfl, c2, c3, d1, d2, h (.bl b) s1 H1 rfl p1 (.bl b)⟩
  · cases ez
theorem de_xf {n : Str} {e : Expr} {cs : List Str} {g : Sm D} (Wf : FmC cb P w K mg base k N (fun _ : Unit => X.suite a ((a, oe) :: pn))) (im : I.mg = mg) (hz : Zc cls d oe) (hf : ∃ vs, oe.data = .fields vs) (T : XfT K mg n cs) (h : DE (I.xn K a cls d) K W (fun _ : Unit => X.suite a ((a, oe) :: pn)) e g)
    (hb : attributeBase e n X.env (eval e X.env) = eval e X.env := by exact rfl) :
    DE (I.xn K a cls d) K W (fun _ : Unit => X.suite a ((a, oe) :: pn)) (.Attribute e n pos) (sXf n cs g) := fun i => by
  have hK : X.K = K := Wf.K ()
  have hm' : X.mg = mg := Wf.mg ()
  refine (pe_xfD (X := X) hz hf (h ()) hb).imp fun σ H Q ⟨env, s, ok, re, h⟩ => ?_
  refine ⟨env, s, ok, re, (R.post_bind h).mono (fun x t h v s1 H1 e1 p1 r1 => ?_) fun x t hx => hx⟩
  obtain ⟨z, ez, h⟩ := post_ofO h
  subst e1
  unfold fldX at ez
  split at ez
  · rename_i c f y
    split at ez
    · rename_i hc
      obtain ⟨rfl, hc⟩ := hc
      cases ez
      obtain ⟨h0, C, c1, c2, dd, u, h4, h5, h6⟩ := (show XnOf I.mg K a cls d _ c (some (f, y)) v from r1)
      obtain ⟨d1, d2⟩ := T.at_ c hc C (by rw [← im]; exact c1)
      refine ⟨h0, C, c2, by rw [hK]; exact d1, by rw [hK]; exact d2, dd, _, u, h4, hr_sub (I := I.xn K a cls d) _ _ h5, ?_, h u s1 H1 rfl p1 (show Dq _ _ _ _ from h6)⟩
      simp [List.lookup]
    · cases ez
  · cases ez
end
end Dl
set_option maxRecDepth 100000
set_option maxHeartbeats 4000000
/-! lambdas, with a default argument too -/
namespace Dl
open PySem PySem.Spec PyProof.Rows L2 LamX
/-- the object o stands at f -/
def LamO (f : Addr) (o : Obj) : HO := .ext fun h => h.get? f = some o
theorem lamO_at {P : Program} {w : World} {H : Hp} {h : Heap} {f : Addr} {o : Obj} (ok : HOk P w H h) (e : H f = some (LamO f o)) : h.get? f = some o := (ok f _ e).1
section
variable {X : Cx} {pins : List (Addr × Obj)} {σ : L2.St} {H : Hp} {s : Shared}
theorem inv_lam {h' : Heap} {t' : Nat} {o : Obj} (I : Inv X pins σ H s) (k : ∀ b u, s.heap.get? b = some u → h'.get? b = some u) (hz : s.heap.objs.size ≤ h'.objs.size) (hfr : o.isFreed = false := by rfl) : Inv X pins σ (upd H h'.objs.size (LamO h'.objs.size o)) { s with heap := h'.push o, toks := t' } :=
  I.laid (t' := t') (fun b u e => Heap.get?_push_of_some _ (k b u e)) hz ⟨Heap.get?_push_size _ hfr, ⟨o, Heap.get?_push_size _ hfr⟩, fun h1 h2 a st => st _ a⟩
/-- all stays but the table at P -/
def ExtP (P : Addr) (H H' : Hp) : Prop := (∀ b o, b ≠ P → H b = some o → H' b = some o) ∧ ∀ b o, H b = some o → ∃ o', H' b = some o'
theorem lam_mk0 {c P : Addr} {params : Arguments} {body : Expr} {scope : Scope} {pos : Pos} {line : Nat} {dV : Value} {A : Around} {E : Value → Shared → Prop} {Q : Value → Shared → Prop} (I : Inv X pins σ H s) (TB : TabB X.base X.mg c P) (hcode : X.env.code = .ref c)
    (hT : Tabs [(P, X.env.qual ++ "<lambda>")] H) (hfree : ∀ y ∈ scope.names, y.2 = .free → ∃ c, X.env.cells.lookup y.1 = some c)
    (h : ∀ (f c' : Addr) (doc pm ctv : Value) (H1 : Hp) (s' : Shared), Inv X pins σ H1 s' → ExtP P H H1 → Tabs [(P, X.env.qual ++ "<lambda>")] H1 →
      H1 f = some (LamO f (PySem.W.kdv_obj "<lambda>" (X.env.qual ++ "<lambda>") params (.expr body) scope (cloFrom X.env.cells scope.names []) dV doc pm c' ctv)) → H1 c' = some (CodeO c' (X.env.qual ++ "<lambda>")) → Q (.ref f) s') :
    wpAny (model X.prog X.w) A (makeTail "<lambda>" (X.env.qual ++ "<lambda>") params (.expr body) scope X.env dV .none none pos line) Q E s := by
  obtain ⟨ps, hP, ht, ha⟩ := hT _ (List.mem_singleton.mpr rfl)
  have bP := TB.bm.keeps I.bk
  have oP : s.heap.get? P = some { cls := .none, data := .fields ps } := I.hok P _ hP
  cases hc : codeAmong pos ps.toList with
  | none =>
    refine PySem.W.kdv_makeTail (mg := X.mg) (c := c) (P := P) (ps := ps) (closure_ok hfree) I.ok.glob (I.mod.glob.keeps I.bk) hcode (TB.code.keeps I.bk) oP ht hc TB.gP bP fun c' ctv doc h' tk hx hge hlt hrec htb => ?_
    obtain ⟨c2, oc, vs, t, e2, hoc, hd, hv⟩ := hrec
    cases e2
    have nC : H c' = none := I.hok.fresh hge
    have nP : P ≠ c' := ne_of_none hP nC
    have I1 := inv_table (t' := tk) (more := #[rawInt pos.line, rawInt pos.col, .ref c']) (h' := h') I hP (fun b o hb e => hx b o hb e) htb hge ⟨oc, vs, t, hoc, hd, hv⟩
    have I2 := inv_lam (t' := tk) (h' := h') (o := PySem.W.kdv_obj "<lambda>" (X.env.qual ++ "<lambda>") params (.expr body) scope (cloFrom X.env.cells scope.names []) dV doc ((X.mg "__name__").getD .none) c' ctv) I1 (fun _ _ e => e) (Nat.le_refl _)
    have sz : s.heap.objs.size ≤ h'.objs.size := Nat.le_trans hge (Nat.le_of_lt hlt)
    have nF : H h'.objs.size = none := I.hok.fresh sz
    have nFc : h'.objs.size ≠ c' := Nat.ne_of_gt hlt
    have x1 : ∀ b o, b ≠ P → H b = some o → upd (upd (upd H P (.tbl (ps ++ #[rawInt pos.line, rawInt pos.col, .ref c']))) c' (CodeO c' (X.env.qual ++ "<lambda>"))) h'.objs.size (LamO h'.objs.size (PySem.W.kdv_obj "<lambda>" (X.env.qual ++ "<lambda>") params (.expr body) scope (cloFrom X.env.cells scope.names []) dV doc ((X.mg "__name__").getD .none) c' ctv)) b = some o := fun b o n e => by
      rw [upd_ne (ne_of_none e nF), upd_ne (ne_of_none e nC), upd_ne n]
      exact e
    refine h _ c' doc _ ctv _ _ I2 ⟨x1, fun b o e => ?_⟩ (fun p hp => ?_) upd_same (by rw [upd_ne (Ne.symm nFc), upd_same])
    · by_cases hb : b = P
      · rw [hb]
        exact ⟨_, by rw [upd_ne (ne_of_none hP nF), upd_ne nP, upd_same]⟩
      · exact ⟨o, x1 b o hb e⟩
    · rw [List.mem_singleton] at hp
      subst hp
      have eL : (ps ++ #[rawInt pos.line, rawInt pos.col, .ref c']).toList = ps.toList ++ [rawInt pos.line, rawInt pos.col, .ref c'] := by simp
      refine ⟨_, by rw [upd_ne (ne_of_none hP nF), upd_ne nP, upd_same], by rw [eL]; exact PySem.TriplesOk_snoc _ _ _ _ ht, fun p' cv hcv => ?_⟩
      rw [eL] at hcv
      rcases among_app _ ht hcv with z | z
      · obtain ⟨c0, z1, z2⟩ := ha p' cv z
        exact ⟨c0, z1, x1 _ _ (fun y => by rw [y, hP] at z2; exact codeO_ne _ (Option.some.inj z2).symm) z2⟩
      · exact ⟨c', z, by rw [upd_ne (Ne.symm nFc), upd_same]⟩
  | some cv =>
    obtain ⟨c', e, hco⟩ := ha pos cv hc
    subst e
    refine PySem.W.kdv_makeTailHit (mg := X.mg) (c := c) (P := P) (ps := ps) (closure_ok hfree) I.ok.glob (I.mod.glob.keeps I.bk) hcode (TB.code.keeps I.bk) oP ht hc bP fun ctv doc h' tk hx hsz => ?_
    have nF : H h'.objs.size = none := I.hok.fresh hsz
    have I2 := inv_lam (t' := tk) (h' := h') (o := PySem.W.kdv_obj "<lambda>" (X.env.qual ++ "<lambda>") params (.expr body) scope (cloFrom X.env.cells scope.names []) dV doc ((X.mg "__name__").getD .none) c' ctv) I hx hsz
    have x1 : ∀ b o, H b = some o → upd H h'.objs.size (LamO h'.objs.size (PySem.W.kdv_obj "<lambda>" (X.env.qual ++ "<lambda>") params (.expr body) scope (cloFrom X.env.cells scope.names []) dV doc ((X.mg "__name__").getD .none) c' ctv)) b = some o := fun b o e => by
      rw [upd_ne (ne_of_none e nF)]
      exact e
    exact h _ c' doc _ ctv _ _ I2 ⟨fun b o _ e => x1 b o e, fun b o e => ⟨o, x1 b o e⟩⟩ (hT.ext x1) upd_same (x1 _ _ hco)
/-- where a lambda's defaults stand -/
def DfAt (H : Hp) (dV : Value) : List Expr → Prop
  | [.Constant (.int i) _ _] => ∃ td, dV = .ref td ∧ H td = some (.tup [.int i])
  | _ => dV = .none
theorem dfAt_same {H H' : Hp} {dV : Value} : ∀ {es : List Expr}, (∀ b xs, H b = some (.tup xs) → H' b = some (.tup xs)) → DfAt H dV es → DfAt H' dV es := by
  intro es e h
  unfold DfAt at h ⊢
  split at h
  · obtain ⟨td, h1, h2⟩ := h
    exact ⟨td, h1, e _ _ h2⟩
  · exact h
theorem lam_mk {c P : Addr} {params : Arguments} {body : Expr} {scope : Scope} {pos : Pos} {E : Value → Shared → Prop} {Q : Value → Shared → Prop} (I : Inv X pins σ H s) (TB : TabB X.base X.mg c P) (hcode : X.env.code = .ref c)
    (hT : Tabs [(P, X.env.qual ++ "<lambda>")] H) (hfree : ∀ y ∈ scope.names, y.2 = .free → ∃ c, X.env.cells.lookup y.1 = some c)
    (hk0 : params.kw_defaults = []) (hd : params.defaults = [] ∨ ∃ i j p, params.defaults = [.Constant (.int i) j p])
    (h : ∀ (f c' : Addr) (dV doc pm ctv : Value) (H1 : Hp) (s' : Shared), Inv X pins σ H1 s' → ExtP P H H1 → Tabs [(P, X.env.qual ++ "<lambda>")] H1 →
      H1 f = some (LamO f (PySem.W.kdv_obj "<lambda>" (X.env.qual ++ "<lambda>") params (.expr body) scope (cloFrom X.env.cells scope.names []) dV doc pm c' ctv)) → H1 c' = some (CodeO c' (X.env.qual ++ "<lambda>")) → DfAt H1 dV params.defaults → Q (.ref f) s') :
    wpAny (model X.prog X.w) X.A (eval (.Lambda params body scope pos) X.env) Q E s := by
  rcases hd with hd | ⟨i, j, p, hd⟩
  · refine PySem.W.kla_eval (by rw [defaultsOf_eq, hk0, hd]; rfl) ?_
    rw [makeFunction_eq]
    simp only [List.zip_nil_right, List.filterMap_nil, List.isEmpty_nil, if_true, pure_bind]
    exact lam_mk0 I TB hcode hT hfree fun f c' doc pm ctv H1 s' I1 x T1 hf hc => h f c' .none doc pm ctv H1 s' I1 x T1 hf hc (by rw [hd]; rfl)
  · refine PySem.W.kdv_lam (by rw [hd]; rfl) hk0 ?_
    rw [hd]
    refine PySem.W.kdv_all1 (wpAny_Constant_int (PySem.W.kdv_all0 ?_))
    have I0 : Inv X pins σ H { s with toks := s.toks + 1 } := I.tok _
    rw [makeFunction_eq]
    simp only [List.zip_nil_right, List.filterMap_nil, List.isEmpty_nil, List.isEmpty_cons, Bool.false_eq_true, if_false, if_true, pure_bind]
    refine wpAny_bind (wpAny_newTextTuple ?_)
    have nD : H s.heap.objs.size = none := I.hok.fresh (Nat.le_refl _)
    have I1 : Inv X pins σ (upd H s.heap.objs.size (.tup [.int i])) { s with heap := s.heap.push { cls := .type "tuple", data := .seq [Value.int i s.toks].toArray }, toks := s.toks + 1 } :=
      I0.laid (t' := s.toks + 1) (fun b u e => Heap.get?_push_of_some _ e) (Nat.le_refl _) ⟨(show 1 ≤ sizeLine by decide), [.int i s.toks], .cons ⟨_, rfl⟩ .nil, IsTup.new _ _⟩
    have up : ∀ b o, H b = some o → upd H s.heap.objs.size (.tup [.int i]) b = some o := fun b o e => by rw [upd_ne (ne_of_none e nD)]; exact e
    have T1 : Tabs [(P, X.env.qual ++ "<lambda>")] (upd H s.heap.objs.size (.tup [.int i])) := hT.ext up
    obtain ⟨ps, hP, _, _⟩ := hT _ (List.mem_singleton.mpr rfl)
    refine lam_mk0 I1 TB hcode T1 hfree fun f c' doc pm ctv H1 s' I2 x T2 hf hc => h f c' _ doc pm ctv H1 s' I2 ⟨fun b o n e => x.1 b o n (up b o e), fun b o e => x.2 b o (up b o e)⟩ T2 hf hc ?_
    rw [hd]
    exact ⟨_, rfl, x.1 _ _ (fun z => by rw [← z, nD] at hP; cases hP) upd_same⟩
/-! ### a lambda's body, entered -/
/-- the lambda's own names: parameters that the maker has not, captured names, globals -/
structure LamP (N : List Str) (sc scope : Scope) : Prop where
  kind : scope.kind = .function
  co : scope.isCoroutine = false
  gen : scope.isGenerator = false
  cell : ∀ y ∈ scope.names, y.2 ≠ .cell
  loc : ∀ y ∈ scope.names, y.2 = .local → y.1 ∉ N
  free : ∀ y ∈ scope.names, y.2 = .free → sc.names.lookup y.1 = some .cell ∨ sc.names.lookup y.1 = some .free
theorem LamP.has {scope : Scope} (L : LamP X.N X.env.scope scope) (ok : X.Ok) : ∀ y ∈ scope.names, y.2 = .free → ∃ c, X.env.cells.lookup y.1 = some c := fun y hy e => by
  rcases L.free y hy e with z | z
  · exact ok.has _ (.inl z)
  · exact ok.has _ (.inr z)
theorem lam_start {s1 : Shared} {HZ : Hp} {A : Around} {outer : List PySem.Env} {E : XK} {scope : Scope} {f c' : Addr} {g : Heap} {tk : Nat} {m : Str → Option Value} (I : Inv X pins σ H s) (L : LamP X.N X.env.scope scope) (e0 : Env0 X.prog X.w X.K X.mg X.base A outer s1 HZ) (hd : A.handled = none)
    (un : Un (frs X.stack) [] H HZ s.heap s1.heap) (hns : g.Ns s1.heap.objs.size m) (kp : ∀ b o, s1.heap.get? b = some o → g.get? b = some o) :
    Inv (lamCx X A outer s1 HZ E scope f c') [] σ HZ { s1 with heap := g, toks := tk } := by
  have hfree := L.has I.ok
  -- a captured cell is the maker's
  have cap : ∀ {y c}, (cloFrom X.env.cells scope.names []).lookup y = some c → X.env.cells.lookup y = some c := fun {y c} e => by
    rcases cloFrom_mem (PySem.mem_of_lookup e) with z | ⟨z1, z2⟩
    · cases z
    · obtain ⟨d, hc⟩ := hfree _ z1 rfl
      have hc : X.env.cells.lookup y = some d := hc
      have : c = d := by rw [z2, hc] <;> rfl
      rw [this]
      exact hc
  have there : ∀ {y}, scope.names.lookup y = some .free → ∃ c, (cloFrom X.env.cells scope.names []).lookup y = some c := fun {y} hl =>
    mem_lookup (cloFrom_has (cells := X.env.cells) (acc := []) (show (y, NameKind.free) ∈ scope.names from PySem.mem_of_lookup hl))
  have still : ∀ {c : Addr} {v : Option Value}, H c = none → s.heap.IsCell c v → g.IsCell c v := fun {c v} n z => by
    obtain ⟨o, ho, hq⟩ := z
    obtain ⟨sl, q⟩ := un.any ho n (by simp)
    exact ⟨_, kp _ _ q, hq⟩
  have noc : ∀ {y}, scope.names.lookup y ≠ some .cell := fun {y} z => L.cell _ (PySem.mem_of_lookup z) rfl
  have nil_ : ∀ b : Addr, b ∉ (lamCx X A outer s1 HZ E scope f c').ex := fun b z => by
    have z' : b ∈ ([] : List Addr) := z
    cases z'
  have okL : (lamCx X A outer s1 HZ E scope f c').Ok := {
    mod := e0.mod
    kind := L.kind
    glob := rfl
    blt := rfl
    above := Nat.le_refl _
    inj := fun y z c a b => I.ok.inj y z c (cap a) (cap b)
    has := fun y hy => by
      have hy : scope.names.lookup y = some .cell ∨ scope.names.lookup y = some .free := hy
      rcases hy with hy | hy
      · exact absurd hy noc
      · exact there hy
    cab := fun y c z _ => by
      have z : false = true := z
      cases z
    hd := fun _ => hd
    frames := Around.frames_deeper e0.frames
    stk := .inr ⟨rfl, rfl⟩
    exf := fun b z => absurd z (nil_ b)
    bs := e0.bs
    bsz := e0.bsz
    noex := fun b _ _ => nil_ b
    exfs := fun b z => absurd z (nil_ b)
    funs := e0.funs
    frf := e0.frf }
  refine ⟨okL, rfl, e0.bare, Un.kept kp, ⟨_, hns, fun i y v a1 a2 a3 => ?_⟩, fun y c e => ?_, e0.hok.fresh (Nat.le_refl _), fun y c e => ?_, fun q hq => ?_, e0.hok.kept kp, I.len⟩
  · have a3 : Vis scope y := a3
    rcases a3 with z | z | z
    · exact absurd (List.mem_of_getElem? a1) (L.loc _ (PySem.mem_of_lookup z) rfl)
    · exact absurd z noc
    · obtain ⟨m0, hn, hl⟩ := I.loc
      have zf := L.free _ (PySem.mem_of_lookup z) rfl
      obtain ⟨u, r, q⟩ := hl i y v a1 a2 (zf.elim (fun k => .inr (.inl k)) (fun k => .inr (.inr k)))
      obtain ⟨d, hd2⟩ := there z
      refine ⟨u, r, .inr ⟨.inr z, d, hd2, ?_⟩⟩
      have d1 := cap hd2
      rcases q with ⟨k', _⟩ | ⟨_, d3, e', q⟩
      · have k' : X.env.scope.names.lookup y = some .local := k'
        rcases zf with k2 | k2 <;> rw [show X.env.scope.names.lookup y = _ from k2] at k' <;> cases k'
      · rw [d1] at e'
        cases e'
        exact still (I.freeC y _ d1) q
  · obtain ⟨v, z⟩ := I.cell y c (cap e)
    exact ⟨v, still (I.freeC y c (cap e)) z⟩
  · obtain ⟨v, o, ho, _⟩ := I.cell y c (cap e)
    exact un.free c o ho (I.freeC y c (cap e)) (by simp)
  · have hq : q ∈ ([] : List (Addr × Obj)) := hq
    cases hq
theorem lam_run {s1 : Shared} {HZ : Hp} {A : Around} {outer : List PySem.Env} {E : XK} {params : Arguments} {body : Expr} {scope : Scope} {f c' : Addr} {dV doc pm ctv : Value} {binds : List (Str × Value)} {k : Nat} {tb : TE} {Q : VK} (I : Inv X pins σ H s) (L : LamP X.N X.env.scope scope)
    (e0 : Env0 X.prog X.w X.K X.mg X.base A outer s1 HZ) (hr : Room (k + 1) A) (un : Un (frs X.stack) [] H HZ s.heap s1.heap)
    (ho : HZ f = some (LamO f (PySem.W.kdv_obj "<lambda>" (X.env.qual ++ "<lambda>") params (.expr body) scope (cloFrom X.env.cells scope.names []) dV doc pm c' ctv))) (hc : HZ c' = some (CodeO c' (X.env.qual ++ "<lambda>")))
    (hb : BindsTo s1 (PySem.W.kdv_fn "<lambda>" (X.env.qual ++ "<lambda>") params (.expr body) scope (cloFrom X.env.cells scope.names []) dV doc pm (.ref c') ctv) ⟨[], []⟩ binds) (hloc : ∀ y ∈ binds, scope.names.lookup y.1 = some .local)
    (hbody : Room k (A.deeper (lamEnv X scope s1.heap.objs.size f c')) → PE (lamCx X A outer s1 HZ E scope f c') body tb) (ht : tb σ HZ Q) :
    codeAny (model X.prog X.w) A (.call (.ref f) ⟨[], []⟩) (CR (L2.CX X.prog X.w) outer X.prog X.w HZ s1 Q E) s1 := by
  have of1 := lamO_at e0.hok ho
  obtain ⟨⟨oc, vs, t, hoc, hdc, hvc⟩, _, _⟩ := e0.hok c' _ hc
  have lim : s1.heap.NoLimit := e0.mod.nolimit.keeps fun b o e => (e0.bs b o e).1
  refine PySem.W.kla_callFunE hr.depth of1 rfl L.co L.gen rfl ⟨c', oc, vs, t, rfl, hoc, hdc, hvc⟩ (hb _ _ _ _ ?_)
  refine wpAny_newFunctionEnv (fun y hy => L.cell y hy) hloc (fun g hns hsb => ⟨lim.fresh _ hsb, ?_⟩) L.kind
  have kp : ∀ b o, s1.heap.get? b = some o → g.get? b = some o := fun b o e => hsb.extBut b o (Nat.ne_of_lt (Heap.lt_size e)) (Heap.get?_push_of_some _ e)
  have J : Inv (lamCx X A outer s1 HZ E scope f c') [] σ HZ { s1 with heap := g, toks := s1.toks + binds.length } := lam_start I L e0 hr.hd un hns kp
  refine PySem.W.kla_codeExpr (wpAny_mono ((hbody (hr.deeper _)).run [] _ _ HZ Q J ht) (fun v s' hq => ?_) fun e s' hq => hq)
  obtain ⟨w', H', J', rv, q⟩ := hq
  exact ⟨w', H', J'.os, J'.bare, J'.base, J'.hok, rv, q⟩
/-- what binding a lambda's parameters to nothing gives -/
def LamB (X : Cx) (params : Arguments) (body : Expr) (scope : Scope) : Prop := ∀ (c' : Addr) (dV doc pm ctv : Value) (s1 : Shared) (HZ : Hp), HOk X.prog X.w HZ s1.heap → DfAt HZ dV params.defaults →
  ∃ binds, BindsTo s1 (PySem.W.kdv_fn "<lambda>" (X.env.qual ++ "<lambda>") params (.expr body) scope (cloFrom X.env.cells scope.names []) dV doc pm (.ref c') ctv) ⟨[], []⟩ binds ∧ ∀ y ∈ binds, scope.names.lookup y.1 = some .local
/-- a(), in the def that got the lambda -/
theorem pe_lam {CXg : CXT} {Eg : XK} {Ng : List Str} {qg : Str} {sg : Scope} {g : Addr} {cdg : Value} {k i : Nat} {a : Str} {pn : List (Addr × Obj)} {xe : Value → Shared → Prop} {W : WX} {p1 p2 : Pos}
    (I : Inv X pins σ H s) (tk : Takes ((cxOf CXg X.prog X.w X.K X.mg X.base Ng qg sg g cdg X.A X.stack s H Eg).tr pn xe) W) (hr : Room (k + 1) (X.A.deeper (envOfC qg sg s.heap.objs.size g cdg)))
    (hN : Ng[i]? = some a) (hv : Vis sg a) (hd : (a == ("__debug__" : Str)) = false := by decide) (hcd : (a == ("__classdict__" : Str)) = false := by decide) :
    PE ((cxOf CXg X.prog X.w X.K X.mg X.base Ng qg sg g cdg X.A X.stack s H Eg).tr pn xe) (.Call (.Name a p1) [] [] p2)
      (fun σZ HZ Q => ∃ (params : Arguments) (body : Expr) (scope : Scope) (f c' : Addr) (dV doc pm ctv : Value) (tb : XK → TE), σZ[i]? = some (some (.ref f)) ∧ HZ f = some (LamO f (PySem.W.kdv_obj "<lambda>" (X.env.qual ++ "<lambda>") params (.expr body) scope (cloFrom X.env.cells scope.names []) dV doc pm c' ctv)) ∧
        HZ c' = some (CodeO c' (X.env.qual ++ "<lambda>")) ∧ DfAt HZ dV params.defaults ∧ LamP X.N X.env.scope scope ∧ LamB X params body scope ∧
        (∀ (E : XK) (A : Around) (outer : List PySem.Env) (s1 : Shared) (H1 : Hp), Room k (A.deeper (lamEnv X scope s1.heap.objs.size f c')) → PE (lamCx X A outer s1 H1 E scope f c') body (tb E)) ∧ tb (fun cls d H' => W cls d σZ H') σ HZ Q) := by
  refine ⟨fun pinsZ sZ σZ HZ Q IZ h => ?_⟩
  obtain ⟨params, body, scope, f, c', dV, doc, pm, ctv, tb, h1, h2, h3, h4, L, hbnd, hbody, h5⟩ := h
  refine wpAny_Call_Name_kw (thn ((pe_var (pos := p1) (i := i) hN hv hd hcd).run pinsZ sZ σZ HZ (fun v H1 => v = .ref f ∧ H1 = HZ) IZ ⟨.ref f, h1, rfl, rfl⟩) fun u s1 ⟨v, H1, I1, r1, q1, q2⟩ => ?_)
  subst q1
  rw [q2] at I1
  cases r1
  obtain ⟨binds, b1, b2⟩ := hbnd c' dV doc pm ctv s1 HZ I1.hok h4
  refine PySem.W.callWith_F0 ⟨_, _, _, _, lamO_at I1.hok h2⟩ ?_
  have un : Un (frs X.stack) [] H HZ s.heap s1.heap := I1.base
  have rc := lam_run (E := fun cls d H' => W cls d σZ H') (tb := tb fun cls d H' => W cls d σZ H') (Q := Q) I L I1.env0 hr un h2 h3 b1 b2 (hbody _ _ _ s1 HZ) h5
  refine wpAny_call (codeAny_mono rc fun r s' hq => ?_)
  cases r with
  | error e => exact tk e s' (XE.of_call I1 (fun cls d H' h => h) hq)
  | ok fl =>
    cases fl with
    | ret u => exact I1.after hq
    | next => exact False.elim hq
    | brk => exact False.elim hq
    | cont => exact False.elim hq
/-- no parameter -/
theorem lamb_0 {params : Arguments} {body : Expr} {scope : Scope} (h : ∀ (q : Str) (cl : List (Str × Addr)) (doc pm cdv ctv : Value), bindArgs (PySem.W.kdv_fn "<lambda>" q params (.expr body) scope cl .none doc pm cdv ctv) ⟨[], []⟩ = pure []) (hd : params.defaults = []) : LamB X params body scope := fun c' dV doc pm ctv s1 HZ ok h4 => by
  rw [hd] at h4
  cases h4
  exact ⟨[], .of_eq (h _ _ _ _ _ _), fun y hy => nomatch hy⟩
/-- one parameter with a whole number as default -/
theorem lamb_1 {params : Arguments} {body : Expr} {scope : Scope} {x : Str} {i : Int} {j : Nat} {p : Pos} (hd : params.defaults = [.Constant (.int i) j p])
    (h : ∀ (q : Str) (cl : List (Str × Addr)) (doc pm cdv ctv : Value) (T : Addr), ∃ k : Option (Array Value) → Sem (List (Str × Value)), bindArgs (PySem.W.kdv_fn "<lambda>" q params (.expr body) scope cl (.ref T) doc pm cdv ctv) ⟨[], []⟩ = seqItems? (.ref T) >>= k ∧ ∀ v, k (some #[v]) = pure [(x, v)]) (hx : scope.names.lookup x = some .local) : LamB X params body scope := fun c' dV doc pm ctv s1 HZ ok h4 => by
  rw [hd] at h4
  obtain ⟨td, rfl, h5⟩ := h4
  obtain ⟨_, its, rv, o, ho, _, n, hs⟩ := ok td _ h5
  obtain ⟨u, rfl, _⟩ := rv.one
  obtain ⟨k, h6, h7⟩ := h _ _ _ _ _ _ td
  exact ⟨[(x, u)], .of_defaults rfl ho hs h6 (h7 u), fun y hy => by rw [List.mem_singleton] at hy; rw [hy]; exact hx⟩
end
end Dl
set_option maxRecDepth 100000
set_option maxHeartbeats 4000000
/-! a lambda as a value; a def that calls what it got -/
namespace Dl
open PySem PySem.Spec PyProof.Rows L2 LamX
/-- v is the lambda no. k -/
def LamC (q : Str) (cells : List (Str × Addr)) (lams : Nat → Option (Arguments × Expr × Scope)) (H : Hp) (k : Nat) (v : V) : Prop := ∃ (params : Arguments) (body : Expr) (scope : Scope) (f c' : Addr) (dV doc pm ctv : Value), lams k = some (params, body, scope) ∧ v = .ref f ∧
  H f = some (LamO f (PySem.W.kdv_obj "<lambda>" q params (.expr body) scope (cloFrom cells scope.names []) dV doc pm c' ctv)) ∧ H c' = some (CodeO c' q) ∧ DfAt H dV params.defaults
theorem lamC_same {q : Str} {cells : List (Str × Addr)} {lams : Nat → Option (Arguments × Expr × Scope)} {H H' : Hp} {k : Nat} {v : V} (e : Same H H') (h : LamC q cells lams H k v) : LamC q cells lams H' k v := by
  obtain ⟨params, body, scope, f, c', dV, doc, pm, ctv, h0, h1, h2, h3, h4⟩ := h
  exact ⟨params, body, scope, f, c', dV, doc, pm, ctv, h0, h1, e _ _ h2, e _ _ h3, dfAt_same (fun b xs z => e _ _ z) h4⟩
def sLam (k : Nat) : Sm D := fun _ t => .ok (.cl k) t
section
variable {cb : Bool} {ι : Type} {P : Program} {w : World} {K : PySem.W.Frag} {mg : Str → Option Value} {base : Heap} {k : Nat} {N : List Str} {F : ι → Cx} {I : SI} {W : WX} {pos : Pos}
/-- a lambda -/
theorem de_lam {q : Str} {cells : List (Str × Addr)} {lams : Nat → Option (Arguments × Expr × Scope)} {c Pt : Addr} {params : Arguments} {body : Expr} {scope : Scope} (n : Nat) (Wf : FmC cb P w K mg base k N F) (hI : I.C = LamC q cells lams) (hT : I.T = [(Pt, q)]) (TB : TabB base mg c Pt)
    (hq : ∀ i, (F i).env.qual ++ "<lambda>" = q) (hc : ∀ i, (F i).env.cells = cells) (hcode : ∀ i, (F i).env.code = .ref c) (hn : lams n = some (params, body, scope)) (L : ∀ i, LamP (F i).N (F i).env.scope scope)
    (hk0 : params.kw_defaults = [] := by rfl) (hd : params.defaults = [] ∨ ∃ i j p, params.defaults = [.Constant (.int i) j p] := by first | exact .inl rfl | exact .inr ⟨_, _, _, rfl⟩) : DE I K W F (.Lambda params body scope pos) (sLam n) := fun i => by
  refine ⟨fun pins s0 σ H Q I0 h => ?_⟩
  obtain ⟨env, s, ok, re, h⟩ := h
  have TB' : TabB (F i).base (F i).mg c Pt := by rw [Wf.base i, Wf.mg i]; exact TB
  have hT0 := ok.tab
  rw [hT] at hT0
  refine lam_mk I0 TB' (hcode i) (by rw [hq i]; exact hT0) ((L i).has I0.ok) hk0 hd fun f c' dV doc pm ctv H1 s' I1 x T1 hf hc' hdf => ?_
  rw [hq i] at hf hc' T1
  rw [hc i] at hf
  have nM : ∀ b, ¬ I.M s b → b ≠ Pt := fun b m z => m (.inr (.inr ⟨(Pt, q), by rw [hT]; exact List.mem_singleton.mpr rfl, z.symm⟩))
  have sm : VLe (Hr I s H) (Hr I s H1) := vle_of (fun b o z => by
    obtain ⟨z1, z2⟩ := hr_of z
    exact hr_in (x.1 b o (nM b z2) z1) z2) fun _ _ _ e => e
  have hPt : ∃ ps, H Pt = some (.tbl ps) := by
    obtain ⟨ps, z, _⟩ := hT0 _ (List.mem_singleton.mpr rfl)
    exact ⟨ps, z⟩
  obtain ⟨pst, hPt⟩ := hPt
  have nt : ∀ b o, H b = some o → (∀ ps, o ≠ .tbl ps) → H1 b = some o := fun b o e n => x.1 b o (fun z => by rw [z, hPt] at e; exact n _ (Option.some.inj e).symm) e
  have ok1 : I.ok K s H1 := by
    refine ⟨fun m p kk ts e => ?_, ok.inj, ok.dom, fun b o e => ?_, by rw [hT]; exact T1, ok.fl⟩
    · obtain ⟨a, dx, vs, h1, h2, h3, h4, h5⟩ := ok.nod m p kk ts e
      obtain ⟨oa, ha, _, _, hb⟩ := holds_at h5
      refine ⟨a, dx, vs, h1, h2, h3, chs_same sm h4, holds_same (fun o z => by rw [ha] at z; cases z; exact nt _ _ ha hb) (fun hi o z => ?_) h5⟩
      have := holds_dx h5 hi
      rw [this] at z
      cases z
      exact nt _ _ this fun ps e => nomatch e
    · obtain ⟨h1, h2⟩ := ok.z b o e
      refine ⟨x.1 b o (fun z => ?_) h1, h2⟩
      rw [z, hPt] at h1
      exact h2.2 _ (Option.some.inj h1).symm
  have po : Po I K s H s H1 := ⟨fun b o m e => x.1 b o (nM b m) e, ok1, fun b m => .inl m, fun b o e => x.2 b o e, fun _ _ _ e => e, rfl⟩
  have okx : ∀ {b φ}, H1 b = some (.ext φ) → (Hr I s H1).h b = some (.ext φ) := fun {b φ} e => hr_ext ok1 e
  have hfin : Rp K (Hr I s H1) (.cl n) (.ref f) := by
    show I.C _ n (.ref f)
    rw [hI]
    exact ⟨params, body, scope, f, c', dV, doc, pm, ctv, hn, rfl, okx hf, okx hc', dfAt_same (fun b xs z => hr_tup ok1 z) hdf⟩
  exact ⟨.ref f, H1, I1, rfl, h (.ref f) s H1 rfl po hfin⟩
end
end Dl
set_option maxRecDepth 100000
set_option maxHeartbeats 4000000
/-! a def that calls the lambda that it got -/
namespace Dl
open PySem PySem.Spec PyProof.Rows L2 LamX
/-- what is known of the maker's names, wherever one is -/
def Base (I : SI) (K : PySem.W.Frag) (w0 : Nat → Pth → Option (Addr × Addr)) (env : Env) (σ : L2.St) (H : Hp) : Prop := RE K ⟨H, fun n p => (w0 n p).map (·.1), fun k v => I.C H k v, fun c y v => I.X H c y v⟩ env σ
theorem base_same {I : SI} {K : PySem.W.Frag} {w0 : Nat → Pth → Option (Addr × Addr)} {env : Env} {σ : L2.St} {H H' : Hp} (e : Same H H') (h : Base I K w0 env σ H) : Base I K w0 env σ H' := RE.same h ⟨e, fun _ _ _ z => z, fun _ _ z => I.cs e z, fun _ _ _ z => I.xs e z⟩
/-- the maker's names are held by what a lambda is -/
def SI.lw (I : SI) (K : PySem.W.Frag) (w0 : Nat → Pth → Option (Addr × Addr)) (env : Env) (σ : L2.St) : SI := { I with
  C := fun H k v => I.C H k v ∧ Base I K w0 env σ H
  cs := fun e h => ⟨I.cs e h.1, base_same e h.2⟩
  w0 := w0 }
section
variable {I : SI} {K : PySem.W.Frag} {w0 : Nat → Pth → Option (Addr × Addr)} {env : Env} {σ : L2.St} {s s' : St1} {H H' : Hp}
theorem lw_up (b : Base I K w0 env σ (Hr I s H).h) : VLe (Hr I s H) (Hr (I.lw K w0 env σ) s H) := ⟨fun _ _ h => h, fun _ _ _ h => h, fun _ _ h => ⟨h, b⟩, fun _ _ _ h => h⟩
theorem lw_dn : VLe (Hr (I.lw K w0 env σ) s H) (Hr I s H) := ⟨fun _ _ h => h, fun _ _ _ h => h, fun _ _ h => h.1, fun _ _ _ h => h⟩
theorem ok_lw (ok : I.ok K s H) (hw : ∀ n p x, w0 n p = some x → s.w n p = some x) (b : Base I K w0 env σ (Hr I s H).h) : (I.lw K w0 env σ).ok K s H := ⟨fun n p k ts q => by
  obtain ⟨a, dx, vs, h1, h2, h3, h4, h5⟩ := ok.nod n p k ts q
  exact ⟨a, dx, vs, h1, h2, h3, chs_same (lw_up b) h4, h5⟩, ok.inj, ok.dom, ok.z, ok.tab, hw⟩
theorem ok_wl (ok : (I.lw K w0 env σ).ok K s H) (hw : ∀ n p x, I.w0 n p = some x → w0 n p = some x) : I.ok K s H := ⟨fun n p k ts q => by
  obtain ⟨a, dx, vs, h1, h2, h3, h4, h5⟩ := ok.nod n p k ts q
  exact ⟨a, dx, vs, h1, h2, h3, chs_same lw_dn h4, h5⟩, ok.inj, ok.dom, ok.z, ok.tab, fun n p x e => ok.fl n p x (hw n p x e)⟩
theorem po_lw (p : Po I K s H s' H') (hw : ∀ n p x, w0 n p = some x → s.w n p = some x) (b : Base I K w0 env σ (Hr I s H).h) : Po (I.lw K w0 env σ) K s H s' H' :=
  ⟨p.keep, ok_lw p.ok (fun n q x e => p.wle n q x (hw n q x e)) (base_same p.same.h b), p.gro, p.live, p.wle, p.ze⟩
theorem po_wl (p : Po (I.lw K w0 env σ) K s H s' H') (hw : ∀ n p x, I.w0 n p = some x → w0 n p = some x) : Po I K s H s' H' := ⟨p.keep, ok_wl p.ok hw, p.gro, p.live, p.wle, p.ze⟩
end
/-- a() -/
def sCl (i k : Nat) (L0 : Ts → R D) : Sm D := fun env t => match env[i]? with
  | some (some (.cl k')) => if k' = k then L0 t else .no
  | _ => .no
def mOfH (L : Nat) (gs : Nat → (Ts → R D) → Sm Out) (k : Nat) (L0 : Ts → R D) : Ts → R D := fun t => retR t.length (gs k L0 (startE L 1 [.cl k]) t)
/-- a def with one parameter that it calls -/
structure Gh (P : Program) (w : World) (K : PySem.W.Frag) (mg : Str → Option Value) (base : Heap) (x : Str) (j : Nat) (m : Nat → (Ts → R D) → Ts → R D) : Prop where
  ex : ∃ (qual : Str) (st : Stmt) (a : Str) (N : List Str) (gs : Nat → (Ts → R D) → Sm Out), Df K mg x qual st [a] ∧ FnScope N [a] (defScope st) ∧ N[0]? = some a ∧ Vis (defScope st) a ∧ (a == ("__debug__" : Str)) = false ∧ (a == ("__classdict__" : Str)) = false ∧ m = mOfH N.length gs ∧
    ∀ (f : Addr) (cdv : Value) (A : Around) (outer : List PySem.Env) (s : Shared) (H : Hp) (E : XK), Fm P w K mg base j N (bodyR P w K mg base N qual st f cdv A outer s H E) → (∀ i, Takes (bodyR P w K mg base N qual st f cdv A outer s H E i) (fun cls d _ H => E cls d H)) →
      ∀ (I : SI) (k : Nat) (L0 : Ts → R D), I.mg = mg → (∀ (W' : WX) (pn : List (Addr × Obj)) (xe : Value → Shared → Prop) (p1 p2 : Pos), Takes ((bodyR P w K mg base N qual st f cdv A outer s H E ()).tr pn xe) W' →
        DE I K W' (fun _ : Unit => (bodyR P w K mg base N qual st f cdv A outer s H E ()).tr pn xe) (.Call (.Name a p1) [] [] p2) (sCl 0 k L0)) →
      DSs I K (fun cls d _ H => E cls d H) (bodyR P w K mg base N qual st f cdv A outer s H E) (defBody st) (gs k L0)
def sHi (m : Nat → (Ts → R D) → Ts → R D) (L : Nat → Sm D) (ge : Sm D) : Sm D := fun env t => (ge env t).bind fun d t => match d with
  | .cl k => m k (L k env) t
  | _ => .no
section
variable {ι : Type} {P : Program} {w : World} {K : PySem.W.Frag} {mg : Str → Option Value} {base : Heap} {k : Nat} {N : List Str} {F : ι → Cx} {I : SI} {W : WX} {pos : Pos}
theorem de_hi {q : Str} {cells : List (Str × Addr)} {lams : Nat → Option (Arguments × Expr × Scope)} {x : Str} {e : Expr} {p : Pos} {j kk : Nat} {m : Nat → (Ts → R D) → Ts → R D} {L : Nat → Sm D} {ge : Sm D} (Wf : Fm P w K mg base k N F) (tk : ∀ i, Takes (F i) W) (im : I.mg = mg)
    (hI : I.C = LamC q cells lams) (hq : ∀ i, (F i).env.qual ++ "<lambda>" = q) (hcl : ∀ i, (F i).env.cells = cells) (G : Gh P w K mg base x j m) (hj : j + 1 ≤ k) (hkk : kk + 1 ≤ j) (he : DE I K W F e ge)
    (hl : ∀ i n params body scope, lams n = some (params, body, scope) → LamP (F i).N (F i).env.scope scope ∧ LamB (F i) params body scope ∧ ∀ (f c' : Addr) (E : XK) (A : Around) (outer : List PySem.Env) (s1 : Shared) (H1 : Hp),
      Fm P w K mg base kk N (fun _ : Unit => lamCx (F i) A outer s1 H1 E scope f c') → (∀ u, Takes ((fun _ : Unit => lamCx (F i) A outer s1 H1 E scope f c') u) (fun cls d _ H => E cls d H)) → DE I K (fun cls d _ H => E cls d H) (fun _ : Unit => lamCx (F i) A outer s1 H1 E scope f c') body (L n))
    (hg : ∀ i, Gl (F i) x := by exact fun _ => rfl) (hdb : (x == ("__debug__" : Str)) = false := by decide)
    (hes : ∀ i, starEach [e] (F i).env = (false, eval e (F i).env) :: starEach [] (F i).env := by exact fun _ => rfl) (hpl : ∀ i, (backTo pos (starEach [] (F i).env)).any (·.1) = false := by exact fun _ => rfl) :
    DE I K W F (.Call (.Name x p) [e] [] pos) (sHi m L ge) := fun i => by
  have e1 := Wf.prog i
  have e2 := Wf.w i
  have e3 := Wf.K i
  have e4 := Wf.mg i
  have e5 := Wf.base i
  subst e1 e2 e3 e4 e5
  obtain ⟨qual, st, a, Ng, gs, T, S, hNg, hva, hda, hca, rfl, hb⟩ := G.ex
  obtain ⟨g, fd, h1, Fu, hbi⟩ := T.ex
  obtain ⟨oc, od, kV, doc0, pm0, an, cdv, ct, osl, rfl, lk, hcd⟩ := Fu.ex
  refine ⟨fun pins s0 σ H Q I0 h => ?_⟩
  obtain ⟨env, s, ok, re, h⟩ := h
  have hm : (F i).mg x = some (.ref g) := h1
  have hkp : PySem.W.keepIn (F i).K (.ref g) = true := Fu.kp
  refine wpAny_Call_Name_kw (ld_glob I0 (hg i) hm ?_ hdb)
  refine PySem.W.callWith_K (h₀ := (F i).base) I0.ok.mod.kin hkp ?_ (hes i) (hpl i)
  refine thn ((pa_cons (he i) pa_nil (hes i)).run pos pins s0 σ H (fun vs H1 => ∃ v s1 d, vs = [v] ∧ Po I (F i).K s H s1 H1 ∧ Rp (F i).K (Hr I s1 H1) d v ∧ (match d with | .cl n => mOfH Ng.length gs n (L n env) s1.t | _ => .no).Post (fun (d : D) (t : Ts) => ∀ (v : V) (s' : St1) (H' : Hp), s'.t = t → Po I (F i).K s H s' H' → Rp (F i).K (Hr I s' H') d v → Q v H') (XP I (F i).K W s σ H)) I0
    ⟨env, s, ok, re, (R.post_bind h).mono (fun d t hd v s1 H1 e1 p1 r1 => ⟨v, s1, d, rfl, p1, r1, by rw [e1]; exact hd⟩) fun x t hx => hx⟩) fun us s1 ⟨vs, H1, I1, r1, v, st1, d, ev, p1, rd, hd⟩ => ⟨I1.kIn, ?_⟩
  subst ev
  cases d with
  | cl n =>
    have re1 : RE (F i).K (Hr I st1 H1) env σ := re.same p1.same
    have hcv : LamC q cells lams (Hr I st1 H1).h n v := by
      have : I.C (Hr I st1 H1).h n v := rd
      rw [hI] at this
      exact this
    obtain ⟨params, body, scope, f, c', dV, doc, pm, ctv, hn, hv, hf, hc', hdf⟩ := hcv
    subst hv
    cases r1 with
    | cons rx rr =>
      cases rr
      cases rx
      have hwl : ∀ n p x, I.w0 n p = some x → st1.w n p = some x := p1.ok.fl
      have bas : Base I (F i).K st1.w env σ (Hr I st1 H1).h := re1
      have ok1 : (I.lw (F i).K st1.w env σ).ok (F i).K st1 H1 := ok_lw p1.ok (fun _ _ _ z => z) bas
      have rc : codeAny (model (F i).prog (F i).w) (F i).A (.call (.ref g) ⟨[.ref f], []⟩) (CR (L2.CX (F i).prog (F i).w) (F i).stack (F i).prog (F i).w H1 s1 Q (fun cls d H' => W cls d σ H')) s1 := by
        refine run_ofS (N := Ng) (ps := [a]) (us := [.ref f]) (vs := [.ref f]) (k := j) lk hcd S ((Wf.room i).mono hj) I1.env0 (hbi s1 [.ref f] I1.kIn rfl) (.cons rfl .nil) rfl fun hr' => ?_
        refine ⟨_, hb g cdv (F i).A (F i).stack s1 H1 (fun cls d H' => W cls d σ H') ⟨fun _ => rfl, fun _ => rfl, fun _ => rfl, fun _ => rfl, fun _ => rfl, fun _ _ => rfl, fun _ _ => hr', fun _ => room_un hr', S.nd, fun _ => rfl⟩ (fun _ => takes_of rfl rfl rfl rfl) (I.lw (F i).K st1.w env σ) n (L n env) im (fun W' pn xe p1 p2 tk' _ => (pe_lam (X := F i) I1 tk' (hr'.mono hkk) hNg hva hda hca).imp fun σZ HZ Q' ⟨envg, sZ, okZ, reZ, hh⟩ => ?_) (), ?_⟩
        · unfold sCl at hh
          split at hh
          · rename_i k' q0
            by_cases ck : k' = n
            · subst ck
              rw [if_pos rfl] at hh
              obtain ⟨v0, v1, v2⟩ := reZ.at_ 0 _ q0
              obtain ⟨v3, v4⟩ := (show I.C (Hr (I.lw (F i).K st1.w env σ) sZ HZ).h k' v0 ∧ Base I (F i).K st1.w env σ (Hr (I.lw (F i).K st1.w env σ) sZ HZ).h from v2)
              rw [hI] at v3
              obtain ⟨params, body, scope, f, c', dV, doc, pm, ctv, hn, hv, hf, hc', hdf⟩ := v3
              subst hv
              rw [← hq i] at hf hc'
              rw [← hcl i] at hf
              have sb : Same (Hr (I.lw (F i).K st1.w env σ) sZ HZ).h HZ := hr_sub
              obtain ⟨l1, l2, l3⟩ := hl i k' params body scope hn
              refine ⟨params, body, scope, f, c', dV, doc, pm, ctv, fun E => tG I (F i).K (fun cls d _ H => E cls d H) (L k'), v1, sb _ _ hf, sb _ _ hc', dfAt_same (fun b xs z => sb _ _ z) hdf, l1, l2, fun E A outer s1 H1 hrr => ?_, ?_⟩
              · exact l3 f c' E A outer s1 H1 ⟨fun _ => rfl, fun _ => rfl, fun _ => rfl, fun _ => rfl, fun _ => rfl, fun _ _ => rfl, fun _ _ => hrr, fun _ => room_un hrr, Wf.nd, fun _ => Wf.N i⟩ (fun _ => takes_of rfl rfl rfl rfl) ()
              · have okI : I.ok (F i).K sZ HZ := ok_wl okZ hwl
                have bZ : Base I (F i).K st1.w env σ (Hr I sZ HZ).h := v4
                have reI : RE (F i).K (Hr I sZ HZ) env σ := RE.same v4 ⟨fun _ _ z => z, fun m q x z => by
                  have z : (st1.w m q).map (·.1) = some x := z
                  cases q1 : st1.w m q with
                  | none => rw [q1] at z; cases z
                  | some y =>
                    rw [q1] at z
                    show (sZ.w m q).map (·.1) = some x
                    rw [okZ.fl m q y q1]
                    exact z, fun _ _ z => z, fun _ _ _ z => z⟩
                refine ⟨env, sZ, okI, reI, hh.mono (fun d t h v s' H' e p r => ?_) fun x t h cls dd s' H' e p a => ?_⟩
                · have bz' := base_same p.same.h bZ
                  exact h v s' H' e (po_lw p okZ.fl bZ) (rp_same (lw_up bz') r)
                · have bz' := base_same p.same.h bZ
                  exact h cls dd s' H' e (po_lw p okZ.fl bZ) (exat_same (lw_up bz') a)
            · rw [if_neg ck] at hh; exact hh.elim
          · exact hh.elim
        · refine ⟨startE Ng.length 1 [.cl n], st1, ok1, re_start (ds := [.cl n]) (.cons (rp_same (d := .cl n) (lw_up bas) rd) .nil) rfl, ?_⟩
          unfold mOfH at hd
          dsimp only at hd
          generalize gs n (L n env) (startE Ng.length 1 [.cl n]) st1.t = r at hd ⊢
          have dn : ∀ {s' : St1} {H' : Hp}, Po (I.lw (F i).K st1.w env σ) (F i).K st1 H1 s' H' → Po I (F i).K st1 H1 s' H' := fun p => po_wl p hwl
          cases r with
          | no => exact hd.elim
          | ex x t => exact fun σ' cls dd s' H' e2 p a => hd cls dd (cutS s' st1.t.length) H' (by rw [← e2]) (p1.trans (po_cut (dn p) p1.ok (Nat.le_refl _))) (exat_cut (exat_same lw_dn a))
          | ok o t =>
            cases o with
            | rt d' => exact fun v s' H' e2 p rr => hd v (cutS s' (max st1.t.length (top d'))) H' (by rw [← e2]) (p1.trans (po_cut (dn p) p1.ok (Nat.le_max_left _ _))) (rp_cut (rp_same lw_dn rr) (Nat.le_max_right _ _))
            | nx en => exact fun σ' s' H' e2 p _ => hd .non (cutS s' st1.t.length) H' (by rw [← e2]) (p1.trans (po_cut (dn p) p1.ok (Nat.le_refl _))) .non
            | bk en => exact hd.elim
            | ct en => exact hd.elim
      refine wpAny_call (codeAny_mono rc fun r s' hq => ?_)
      cases r with
      | error er => exact tk i er s' (XE.of_call I1 (fun cls d H' h => h) hq)
      | ok fl =>
        cases fl with
        | ret u => exact I1.after hq
        | next => exact False.elim hq
        | brk => exact False.elim hq
        | cont => exact False.elim hq
  | _ => exact hd.elim
end
end Dl
set_option maxRecDepth 100000
set_option maxHeartbeats 4000000
/-! texts -/
namespace Dl
open PySem L2
def cStr : List D → Option D
  | [.d (.int i)] => if i.natAbs.log2 < 1920 then some (.d (.str (toString i))) else none
  | [.d (.str a)] => some (.d (.str a))
  | _ => none
def cIntT : List D → Option D
  | [.d (.int i)] => some (.d (.int i))
  | [.d (.bool b)] => some (.d (.int (if b then 1 else 0)))
  | [.d (.str a)] => if a.length ≤ 640 then (PySem.intText? a).map fun n => .d (.int n) else none
  | _ => none
def fInT (neg : Bool) : D → D → Option D
  | .d (.str x), .d (.str z) => match x.cps.toList with
    | [c] => some (.d (.bool (if neg = true then !decide (c ∈ z.cps.toList) else decide (c ∈ z.cps.toList))))
    | _ => none
  | _, _ => none
/-- all are texts -/
def txs : List PyData → Option (List Str)
  | [] => some []
  | .str z :: r => (txs r).map (z :: ·)
  | _ :: _ => none
theorem txs_ok {K : PySem.W.Frag} {H : Hp} : ∀ {ds : List PyData} {vs : List V} {ys : List Str}, DqA K H vs ds → txs ds = some ys → vs = ys.map V.str
  | [], _, _, .nil, h => by cases h; rfl
  | d :: ds, _, ys, .cons h t, e => by
    unfold txs at e
    split at e
    · rename_i hz; cases hz
    · rename_i z r hz
      cases hz
      cases q : txs ds with
      | none => rw [q] at e; cases e
      | some ys =>
        rw [q] at e
        cases e
        cases h
        rw [txs_ok t q]
        rfl
    · cases e
def fJoin : D → D → Option D
  | .d (.str a), .d (.list xs) => (txs xs).bind fun ys => if (ys.map (·.length)).sum + ys.length * a.length ≤ 100000 then some (.d (.str (Txt.join a ys))) else none
  | .d (.str a), .d (.tuple xs) => (txs xs).bind fun ys => if (ys.map (·.length)).sum + ys.length * a.length ≤ 100000 then some (.d (.str (Txt.join a ys))) else none
  | _, _ => none
def fSplit : D → D → Option D
  | .d (.str a), .d (.str b) => if (b.length == 0) = false ∧ a.length ≤ 100000 then some (.d (.list ((Txt.split a b).map PyData.str))) else none
  | _, _ => none
def isTx : D → Bool
  | .d (.str _) => true
  | _ => false
theorem isTx_some {x : D} (h : isTx x = true) : ∃ a, x = .d (.str a) := by
  unfold isTx at h
  split at h
  · exact ⟨_, rfl⟩
  · cases h
def sM1 (f : D → D → Option D) (o a : Sm D) : Sm D := fun env t => (o env t).bind fun x t => if isTx x = true then (a env t).bind fun y t => ofO (f x y) t else .no
def pM1 (f : D → D → Option D) (o a : Pm D) : Pm D := fun env => (o env).bind fun x => if isTx x = true then (a env).bind fun y => f x y else none
theorem lift_m1 (f : D → D → Option D) (o a : Pm D) : lift (pM1 f o a) = sM1 f (lift o) (lift a) := by
  funext env s
  unfold lift pM1 sM1
  dsimp only
  cases o env with
  | none => rfl
  | some x =>
    simp only [Option.bind_some, ofO, R.bind]
    by_cases c : isTx x = true
    · rw [if_pos c, if_pos c]
      cases a env <;> rfl
    · rw [if_neg c, if_neg c]
theorem dqa_strs {K : PySem.W.Frag} {H : Hp} : ∀ (ys : List Str), DqA K H (ys.map V.str) (ys.map PyData.str)
  | [] => .nil
  | z :: r => .cons (.str z) (dqa_strs r)
section
variable {cb : Bool} {ι : Type} {P : Program} {w : World} {K : PySem.W.Frag} {mg : Str → Option Value} {base : Heap} {k : Nat} {N : List Str} {F : ι → Cx} {I : SI} {W : WX} {pos : Pos}
theorem c_str (Wf : FmC cb P w K mg base k N F) : ∃ r, (∀ i, CallR (F i) (.type "str") r) ∧ CallD K r cStr := by
  refine ⟨_, fun i => callr_or call_str_int SkE.call_str_str, fun I s H ds z vs Q ok r e kk => ?_⟩
  unfold cStr at e
  split at e
  · rename_i j
    by_cases c : j.natAbs.log2 < 1920
    · rw [if_pos c] at e
      cases e
      cases r with
      | cons h1 h2 =>
        cases h2
        cases h1
        exact .inl ⟨_, rfl, c, here ok kk (.str _)⟩
    · rw [if_neg c] at e; cases e
  · cases e
    cases r with
    | cons h1 h2 =>
      cases h2
      cases h1
      exact .inr ⟨_, rfl, here ok kk (.str _)⟩
  · cases e
theorem c_intT (Wf : FmC cb P w K mg base k N F) : ∃ r, (∀ i, CallR (F i) (.type "int") r) ∧ CallD K r cIntT := by
  refine ⟨_, fun i => callr_or call_int1 call_int_str, fun I s H ds z vs Q ok r e kk => ?_⟩
  unfold cIntT at e
  split at e
  · cases e
    cases r with
    | cons h1 h2 =>
      cases h2
      cases h1
      exact .inl (.inl ⟨_, rfl, here ok kk (.int _)⟩)
  · cases e
    cases r with
    | cons h1 h2 =>
      cases h2
      cases h1
      exact .inl (.inr ⟨_, rfl, here ok kk (.int _)⟩)
  · rename_i a
    by_cases c : a.length ≤ 640
    · rw [if_pos c] at e
      cases q : PySem.intText? a with
      | none => rw [q] at e; cases e
      | some n =>
        rw [q] at e
        cases e
        cases r with
        | cons h1 h2 =>
          cases h2
          cases h1
          exact .inr ⟨_, _, rfl, q, c, here ok kk (.int _)⟩
    · rw [if_neg c] at e; cases e
  · cases e
theorem od_inT {neg : Bool} : OpD K (fun x y H Q => ∃ (c : Nat) (z : Str), x = .str ⟨#[c]⟩ ∧ y = .str z ∧ Q (.bl (if neg = true then !decide (c ∈ z.cps.toList) else decide (c ∈ z.cps.toList))) H) (fInT neg) := fun I s H x y z a b Q ok rx ry e kk => by
  unfold fInT at e
  split at e
  · rename_i x z
    split at e
    · rename_i c hc
      cases e
      cases rx
      cases ry
      have hx : x = ⟨#[c]⟩ := by
        obtain ⟨xs⟩ := x
        have hc : xs.toList = [c] := hc
        have : xs = #[c] := by
          apply Array.ext'
          rw [hc]
        rw [this]
      exact ⟨c, z, by rw [hx], rfl, here ok kk (.bl _)⟩
    · cases e
  · cases e
theorem o_inT (Wf : FmC cb P w K mg base k N F) : ∃ r, (∀ i, OpR (F i) (compareOp .In) r) ∧ OpD K r (fInT false) := ⟨_, fun i => op_in_sign, od_inT (neg := false)⟩
theorem de_join {o e : Expr} {apos cpos : Pos} {go ge : Sm D} (Wf : FmC cb P w K mg base k N F) (ho : DE I K W F o go) (he : DE I K W F e ge)
    (hs : ∀ i, starEach [e] (F i).env = [(false, eval e (F i).env)] := by exact fun _ => rfl) (hbase : ∀ i, attributeBase o "join" (F i).env (eval o (F i).env) = eval o (F i).env := by exact fun _ => rfl) (hline : (apos.endLine == cpos.line) = true := by rfl) :
    DE I K W F (.Call (.Attribute o "join" apos) [e] [] cpos) (sM1 fJoin go ge) := fun i => by
  have h := pe_join (ho i) (he i) (hs i) (hbase i) hline
  rw [Wf.K i] at h
  refine h.imp fun σ H Q ⟨env, s, ok, re, h⟩ => step (Po.refl ok) re h fun x v1 s1 H1 p1 _ r1 h => ?_
  obtain ⟨c, h⟩ := post_ite h
  obtain ⟨a, rfl⟩ := isTx_some c
  · have r1 : Dq K (Hr I s1 H1).h v1 (.str a) := r1
    cases r1
    refine ⟨⟨a, rfl⟩, step p1 re h fun y v2 s2 H2 p2 q2 r2 h => ?_⟩
    obtain ⟨z, e3, h⟩ := post_ofO h
    unfold fJoin at e3
    split at e3
    · rename_i a' xs ea
      cases ea
      cases q : txs xs with
      | none => rw [q] at e3; cases e3
      | some ys =>
        rw [q] at e3
        simp only [Option.bind_some] at e3
        by_cases c : (ys.map (·.length)).sum + ys.length * a.length ≤ 100000
        · rw [if_pos c] at e3
          cases e3
          have r2 : Dq K (Hr I s2 H2).h v2 (.list xs) := r2
          cases r2 with
          | lst h1 h2 =>
            have e4 := txs_ok h2 q
            subst e4
            exact ⟨a, _, ys, rfl, rfl, .inl (SqL.of (hr_sub _ _ h1)), by omega, h _ s2 H2 rfl p2 (show Dq _ _ _ _ from .str _)⟩
        · rw [if_neg c] at e3; cases e3
    · rename_i a' xs ea
      cases ea
      cases q : txs xs with
      | none => rw [q] at e3; cases e3
      | some ys =>
        rw [q] at e3
        simp only [Option.bind_some] at e3
        by_cases c : (ys.map (·.length)).sum + ys.length * a.length ≤ 100000
        · rw [if_pos c] at e3
          cases e3
          have r2 : Dq K (Hr I s2 H2).h v2 (.tuple xs) := r2
          cases r2 with
          | tup h1 h2 =>
            have e4 := txs_ok h2 q
            subst e4
            exact ⟨a, _, ys, rfl, rfl, .inr (SqT.of (hr_sub _ _ h1)), by omega, h _ s2 H2 rfl p2 (show Dq _ _ _ _ from .str _)⟩
        · rw [if_neg c] at e3; cases e3
    · cases e3
theorem de_split {o e : Expr} {apos cpos : Pos} {go ge : Sm D} (Wf : FmC cb P w K mg base k N F) (ho : DE I K W F o go) (he : DE I K W F e ge)
    (hs : ∀ i, starEach [e] (F i).env = [(false, eval e (F i).env)] := by exact fun _ => rfl) (hbase : ∀ i, attributeBase o "split" (F i).env (eval o (F i).env) = eval o (F i).env := by exact fun _ => rfl) (hline : (apos.endLine == cpos.line) = true := by rfl) :
    DE I K W F (.Call (.Attribute o "split" apos) [e] [] cpos) (sM1 fSplit go ge) := fun i => by
  have h := pe_split (ho i) (he i) (hs i) (hbase i) hline
  refine h.imp fun σ H Q ⟨env, s, ok, re, h⟩ => step (Po.refl ok) re h fun x v1 s1 H1 p1 _ r1 h => ?_
  obtain ⟨c, h⟩ := post_ite h
  obtain ⟨a, rfl⟩ := isTx_some c
  · have r1 : Dq K (Hr I s1 H1).h v1 (.str a) := r1
    cases r1
    refine ⟨⟨a, rfl⟩, step p1 re h fun y v2 s2 H2 p2 q2 r2 h => ?_⟩
    obtain ⟨z, e3, h⟩ := post_ofO h
    unfold fSplit at e3
    split at e3
    · rename_i a' b ea
      cases ea
      by_cases c : (b.length == 0) = false ∧ a.length ≤ 100000
      · rw [if_pos c] at e3
        cases e3
        have r2 : Dq K (Hr I s2 H2).h v2 (.str b) := r2
        cases r2
        exact ⟨a, b, rfl, rfl, c.1, by have := c.2; rw [sizeLine_eq]; omega, fun p hp => newL p2.ok (fun v H' p3 r => h v s2 H' rfl (p2.trans p3) r) (dqa_strs _) p hp⟩
      · rw [if_neg c] at e3; cases e3
    · cases e3
/-- over a text -/
def chrs (z : Str) : List D := z.cps.toList.map fun c => .d (.str ⟨#[c]⟩)
def itT (x : D) (t : Ts) : R Itb := match x with
  | .d (.str z) => .ok (.st (chrs z)) t
  | _ => .no
def sItT (a : Sm D) : Sm Itb := fun env t => (a env t).bind itT
def pItT (a : Pm D) : Pm (List D) := fun env => (a env).bind fun x => match x with
  | .d (.str z) => some (chrs z)
  | _ => none
theorem lift_itT (a : Pm D) : liftI (pItT a) = sItT (lift a) := by
  funext env s
  unfold liftI lift pItT sItT
  dsimp only
  cases q : a env with
  | none => rfl
  | some x =>
    simp only [Option.bind_some, ofO, R.bind]
    unfold itT
    cases x with
    | d y => cases y <;> rfl
    | _ => rfl
theorem di_txt {tg e : Expr} {g : Sm D} (h : DE I K W F e g) : DI I K W F tg e (sItT g) := fun i =>
  (pi_str (tg := tg) (h i)).imp fun σ H Rr ⟨env, s, ok, re, h⟩ => step (Po.refl ok) re h fun x v s1 H1 p1 _ r1 h => by
    unfold itT at h
    split at h
    · rename_i z
      have r1 : Dq K (Hr I s1 H1).h v (.str z) := r1
      cases r1
      refine ⟨z, rfl, h _ s1 H1 rfl p1 fun s H ok e i o hn => ?_⟩
      cases hn
      have hq : ∀ j, (chrs z)[j]? = (z.cps[j]?).map fun c => D.d (.str ⟨#[c]⟩) := fun j => by
        unfold chrs
        rw [List.getElem?_map, Array.getElem?_toList]
      rw [hq]
      cases q : z.cps[i]? with
      | none =>
        show z.cps.size ≤ i
        exact Array.getElem?_eq_none_iff.mp q
      | some c =>
        refine ⟨(Array.getElem?_eq_some_iff.mp q).1, fun x H3 ⟨y1, c', y2, y3⟩ => ⟨y1, ?_⟩⟩
        rw [q] at y2
        cases y2
        rw [y3]
        exact (show Dq _ _ _ _ from .str _)
    · exact h.elim
end
end Dl
set_option maxRecDepth 100000
set_option maxHeartbeats 4000000
/-! l.count(x) -/
namespace Dl
open PySem PySem.Spec PyProof.Rows L2
def rCountD (K : PySem.W.Frag) : V → List V → Hp → VK → Prop := fun x xs H Q => ∃ (a : Addr) (y : V) (d : PyData) (ds : List PyData), x = V.ref a ∧ xs = [y] ∧ Dp K H (V.ref a) (.list ds) ∧ Dp K H y d ∧
  SeqAt.shaped (.list ds) = true ∧ SeqAt.shaped d = true ∧ Q (.int ((ds.countP fun z => PyData.eqv z d : Nat) : Int)) H
theorem mt_countD {X : Cx} (hu : X.A.units + 65 < cLine) : MtR X "list.count" (rCountD X.K) := by
  intro pins s σ H x xs v us Q I rx rxs h
  obtain ⟨a, y, d, ds, rfl, rfl, hl, hy, sl, sd, q⟩ := h
  cases rx
  cases rxs with
  | cons ry rt =>
    rename_i uy ut
    cases rt
    obtain ⟨bs, r1⟩ := Dp.reads I d y uy hy ry
    have hxs : PyData.canLayAll0 ds = true := SeqAt.canLay_of_shaped sl
    have hroom : X.A.units + 1 + min (PyData.depthAll ds) d.depth < cLine := room_in_shaped sd hu
    cases hl with
    | lst hs ha =>
      obtain ⟨its, rv, ⟨⟨cls, dd, data, sls⟩, n, ho, hc, hdn, hdt⟩, hlen⟩ := I.list hs
      simp only at hc hdt
      subst hc hdt
      obtain ⟨as, h4⟩ := Dp.readsAll I ds _ its ha rv
      have hmap : its.map (SeqAt.readOf s.heap) = ds := SeqAt.readsAll_map ds its as hxs h4
      refine call_meets PySem.F.slot_list_count ⟨_, ho, rfl⟩ PySem.F.entry_list_count (PySem.F.args_list_count_2 _ _)
        (SeqAt.list_countAt a its.toArray n dd sls uy (fun u => PyData.eqv (SeqAt.readOf s.heap u) d)) ⟨ho, SeqAt.items_eqAt (vs := its.toArray) (show ReadsAll s.heap its.toArray.toList ds as from h4) r1 hxs (SeqAt.canLay_of_shaped sd) hroom, ?_⟩
      have ec : its.toArray.toList.countP (fun u => PyData.eqv (SeqAt.readOf s.heap u) d) = ds.countP fun z => PyData.eqv z d := by
        rw [← hmap, List.countP_map]
        rfl
      refine ⟨.int ((ds.countP fun z => PyData.eqv z d : Nat) : Int), H, I.tok _, ⟨s.toks, ?_⟩, q⟩
      show Value.int ((its.toArray.toList.countP (fun u => PyData.eqv (SeqAt.readOf s.heap u) d) : Nat) : Int) s.toks = _
      rw [ec]
def fLCnt : D → D → Option D
  | .d (.list ds), .d d => if SeqAt.shaped (.list ds) = true ∧ SeqAt.shaped d = true then some (.d (.int ((ds.countP fun z => PyData.eqv z d : Nat) : Int))) else none
  | _, _ => none
section
variable {cb : Bool} {ι : Type} {P : Program} {w : World} {K : PySem.W.Frag} {mg : Str → Option Value} {base : Heap} {k : Nat} {N : List Str} {F : ι → Cx} {I : SI} {W : WX} {pos : Pos}
theorem isLs_some {x : D} (h : isLs x = true) : ∃ ds, x = .d (.list ds) := by
  unfold isLs at h
  split at h
  · exact ⟨_, rfl⟩
  · cases h
theorem de_lcnt {o e : Expr} {apos cpos : Pos} {go ge : Sm D} (Wf : FmC cb P w K mg base k N F) (ho : DE I K W F o go) (he : DE I K W F e ge)
    (hbase : ∀ i, attributeBase o "count" (F i).env (eval o (F i).env) = eval o (F i).env := by exact fun _ => rfl)
    (hfew : ∀ i, ((backTo cpos (starEach [e] (F i).env)).all (fun x => !x.1) && (backToKw cpos (keywordEach [] (F i).env)).all (fun x => x.1.isSome)
      && decide (([e] : List Expr).length + ([] : List Keyword).length + (if ([] : List Keyword).isEmpty then 0 else 1) < 30)) = true := by exact fun _ => rfl)
    (hline : (apos.endLine == cpos.line) = true := by rfl) (hs : ∀ i, starEach [e] (F i).env = (false, eval e (F i).env) :: starEach [] (F i).env := by exact fun _ => rfl) (hpl : ∀ i, (backTo cpos (starEach [] (F i).env)).any (·.1) = false := by exact fun _ => rfl) :
    DE I K W F (.Call (.Attribute o "count" apos) [e] [] cpos) (sOpT isLs fLCnt go ge) := fun i => by
  have h := pe_bm (r := rCountD (F i).K) PySem.F.plainAttrs_list PySem.F.slot_list_count (by kernel_rfl) (mt_countD (by have := Wf.units i; omega)) (ho i) (pa_cons (he i) pa_nil (hs i)) (hbase i) (hfew i) hline (hs i) (hpl i)
  rw [Wf.K i] at h
  refine h.imp fun σ H Q ⟨env, s, ok, re, h⟩ => step (Po.refl ok) re h fun x v1 s1 H1 p1 _ r1 h => ?_
  by_cases c : isLs x = true
  · rw [if_pos c] at h
    obtain ⟨ds, rfl⟩ := isLs_some c
    have r1 : Dq K (Hr I s1 H1).h v1 (.list ds) := r1
    cases r1 with
    | lst h1 h2 =>
      refine ⟨.inl ⟨rfl, _, SqL.of (hr_sub _ _ h1)⟩, step p1 re h fun y v2 s2 H2 p2 q2 r2 h => ?_⟩
      obtain ⟨z, e3, h⟩ := post_ofO h
      cases y with
      | d d0 =>
        have e3 : (if SeqAt.shaped (.list ds) = true ∧ SeqAt.shaped d0 = true then some (D.d (.int ((ds.countP fun z => PyData.eqv z d0 : Nat) : Int))) else none) = some z := e3
        by_cases c : SeqAt.shaped (.list ds) = true ∧ SeqAt.shaped d0 = true
        · rw [if_pos c] at e3
          cases e3
          have l2 : Dp K H2 _ (.list ds) := dq_dp (dp_same hr_sub (dp_same q2.same.h (.lst h1 h2)))
          exact ⟨_, _, d0, ds, rfl, rfl, l2, dq_dp (dp_same hr_sub (show Dq _ _ _ _ from r2)), c.1, c.2, h _ s2 H2 rfl p2 (show Dq _ _ _ _ from .int _)⟩
        · rw [if_neg c] at e3; cases e3
      | _ => cases e3
  · rw [if_neg c] at h; exact h.elim
end
end Dl
set_option maxRecDepth 100000
set_option maxHeartbeats 4000000
/-! the same over plain functions that change nothing (written by genp2.py) -/
namespace Dl
open PySem L2
section
variable {cb : Bool} {ι : Type} {P : Program} {w : World} {K : PySem.W.Frag} {mg : Str → Option Value} {base : Heap} {k : Nat} {N : List Str} {F : ι → Cx} {I : SI} {W : WX} {pos : Pos}
-- N3
theorem qe_v (i : Nat) {x : Str} (hN : ∀ j, (F j).N[i]? = some x := by exact fun _ => rfl) (hv : ∀ j, Vis (F j).env.scope x := by first | exact fun _ => Or.inl rfl | exact fun _ => Or.inr (Or.inl rfl) | exact fun _ => Or.inr (Or.inr rfl)) (hd : (x == ("__debug__" : Str)) = false := by decide) (hcd : (x == ("__classdict__" : Str)) = false := by decide) : DE I K W F (.Name x pos) (lift (pV i)) := by
  simp only [lift_v]
  exact  de_v i hN hv hd hcd
theorem qe_int {i : Int} {j} : DE I K W F (.Constant (.int i) j pos) (lift (pC (.d (.int i)))) := by
  simp only [lift_c]
  exact  de_int 
theorem qe_bl {b : Bool} {j} : DE I K W F (.Constant (.bool b) j pos) (lift (pC (.d (.bool b)))) := by
  simp only [lift_c]
  exact  de_bl 
theorem qe_non {j} : DE I K W F (.Constant .none j pos) (lift (pC (.d .none))) := by
  simp only [lift_c]
  exact  de_non 
theorem qe_str {x : Str} {j} : DE I K W F (.Constant (.str x) j pos) (lift (pC (.d (.str x)))) := by
  simp only [lift_c]
  exact  de_str 
theorem qe_g (Wf : FmC cb P w K mg base k N F) {x : Str} {d : D} (G : Gc K mg x d) (hg : ∀ j, Gl (F j) x := by exact fun _ => rfl) (hd : (x == ("__debug__" : Str)) = false := by decide) : DE I K W F (.Name x pos) (lift (pC d)) := by
  simp only [lift_c]
  exact  de_g Wf G hg hd
theorem qe_ty (Wf : FmC cb P w K mg base k N F) {x : Str} {n : String} (hm : mg x = none) (hv : bootBuiltins x = some (.type n)) (hg : ∀ j, Gl (F j) x := by exact fun _ => rfl) (hn : x ≠ "__name__" := by decide) (hd : (x == ("__debug__" : Str)) = false := by decide) : DE I K W F (.Name x pos) (lift (pC (.o (.ty n)))) := by
  simp only [lift_c]
  exact  de_ty Wf hm hv hg hn hd
theorem qe_op {op : Operator} {a b : Expr} {f : D → D → Option D} {ga gb : Pm D} (h : ∃ r, (∀ i, OpR (F i) (binaryOp op) r) ∧ OpD K r f) (ha : DE I K W F a (lift ga)) (hb : DE I K W F b (lift gb)) : DE I K W F (.BinOp a op b pos) (lift (pOp f ga gb)) := by
  simp only [lift_op]
  exact  de_op h ha hb
theorem qe_cmp {op : CmpOp} {a b : Expr} {f : D → D → Option D} {ga gb : Pm D} (h : ∃ r, (∀ i, OpR (F i) (compareOp op) r) ∧ OpD K r f) (ha : DE I K W F a (lift ga)) (hb : DE I K W F b (lift gb)) (hm : behindInMarks op b = false := by first | exact nomark _ | rfl) : DE I K W F (.Compare a [op] [b] pos) (lift (pOp f ga gb)) := by
  simp only [lift_op]
  exact  de_cmp h ha hb hm
theorem qt_cmp {op : CmpOp} {a b : Expr} {f : D → D → Option D} {ga gb : Pm D} (h : ∃ r, (∀ i, OpR (F i) (compareOp op) r) ∧ OpD K r f) (ha : DE I K W F a (lift ga)) (hb : DE I K W F b (lift gb)) (hm : behindInMarks op b = false := by first | exact nomark _ | rfl) : DT I K W F (.Compare a [op] [b] pos) (lift (pB (pOp f ga gb))) := by
  simp only [lift_b, lift_op]
  exact  dt_cmp h ha hb hm
theorem qt_val {e : Expr} {g : Pm D} (h : DE I K W F e (lift g)) (he : ∀ i whole, isTrue e (F i).env whole = (do let v ← whole; standAt e.pos; holding [v] (truthy v)) := by exact fun _ _ => rfl) : DT I K W F e (lift (pB g)) := by
  simp only [lift_b]
  exact  dt_val h he
theorem qt_not {a : Expr} {ga : Pm Bool} (h : DT I K W F a (lift ga)) : DT I K W F (.UnaryOp .Not a pos) (lift (pNot ga)) := by
  simp only [lift_not]
  exact  dt_not h
theorem qw_pt {e : Expr} {g : Pm Bool} (h : DW I K W F e (lift g)) : DT I K W F e (lift (g)) := dw_pt h
theorem qw_and1 {a : Expr} {ga : Pm Bool} (h : DT I K W F a (lift ga)) : DW I K W F (.BoolOp .And [a] pos) (lift (ga)) := dw_and1 h
theorem qw_or1 {a : Expr} {ga : Pm Bool} (h : DT I K W F a (lift ga)) : DW I K W F (.BoolOp .Or [a] pos) (lift (ga)) := dw_or1 h
theorem qw_and {a b : Expr} {rest : List Expr} {ga gb : Pm Bool} (ha : DT I K W F a (lift ga)) (hb : DW I K W F (.BoolOp .And (b :: rest) pos) (lift gb)) : DW I K W F (.BoolOp .And (a :: b :: rest) pos) (lift (pAnd ga gb)) := by
  simp only [lift_and]
  exact  dw_and ha hb
theorem qw_or {a b : Expr} {rest : List Expr} {ga gb : Pm Bool} (ha : DT I K W F a (lift ga)) (hb : DW I K W F (.BoolOp .Or (b :: rest) pos) (lift gb)) : DW I K W F (.BoolOp .Or (a :: b :: rest) pos) (lift (pOr ga gb)) := by
  simp only [lift_or]
  exact  dw_or ha hb
theorem qe_and1 {op} {a : Expr} {ga : Pm D} (h : DE I K W F a (lift ga)) : DE I K W F (.BoolOp op [a] pos) (lift (ga)) := de_and1 h
theorem qe_and {a b : Expr} {rest : List Expr} {ga gb : Pm D} (ha : DE I K W F a (lift ga)) (hb : DE I K W F (.BoolOp .And (b :: rest) pos) (lift gb)) : DE I K W F (.BoolOp .And (a :: b :: rest) pos) (lift (pAndV ga gb)) := by
  simp only [lift_andV]
  exact  de_and ha hb
theorem qe_or {a b : Expr} {rest : List Expr} {ga gb : Pm D} (ha : DE I K W F a (lift ga)) (hb : DE I K W F (.BoolOp .Or (b :: rest) pos) (lift gb)) : DE I K W F (.BoolOp .Or (a :: b :: rest) pos) (lift (pOrV ga gb)) := by
  simp only [lift_orV]
  exact  de_or ha hb
theorem qe_not {a : Expr} {ga : Pm D} (h : DE I K W F a (lift ga)) : DE I K W F (.UnaryOp .Not a pos) (lift (pNotV ga)) := by
  simp only [lift_notV]
  exact  de_not h
theorem qe_if {c a b : Expr} {gc : Pm Bool} {ga gb : Pm D} (hc : DT I K W F c (lift gc)) (ha : DE I K W F a (lift ga)) (hb : DE I K W F b (lift gb)) : DE I K W F (.IfExp c a b pos) (lift (pIf gc ga gb)) := by
  simp only [lift_if]
  exact  de_if hc ha hb
theorem qa_nil  : DA I K W F [] (lift (pNil)) := by
  simp only [lift_nil]
  exact  da_nil 
theorem qa_cons {e : Expr} {es : List Expr} {g : Pm D} {gr : Pm (List D)} (h : DE I K W F e (lift g)) (hr : DA I K W F es (lift gr)) (hs : ∀ i, starEach (e :: es) (F i).env = (false, eval e (F i).env) :: starEach es (F i).env := by exact fun _ => rfl) : DA I K W F (e :: es) (lift (pCons g gr)) := by
  simp only [lift_cons]
  exact  da_cons h hr hs
theorem qe_tup {es : List Expr} {x1} {g : Pm (List D)} (h : DA I K W F es (lift g)) : DE I K W F (.Tuple es x1 pos) (lift (pMk mTup g)) := by
  simp only [lift_mk]
  exact  de_tup h
theorem qe_lst {es : List Expr} {g : Pm (List D)} (h : DA I K W F es (lift g)) : DE I K W F (.List es pos) (lift (pMk mLst g)) := by
  simp only [lift_mk]
  exact  de_lst h
theorem qe_callB {x : Str} {id : String} {e : Expr} {es : List Expr} {p : Pos} {f : List D → Option D} {g : Pm (List D)} (Wf : FmC cb P w K mg base k N F) (hc : ∃ r, (∀ i, CallR (F i) (.builtin id) r) ∧ CallD K r f) (hm : mg x = none) (hv : bootBuiltins x = some (.builtin id)) (ha : DA I K W F (e :: es) (lift g)) (hg : ∀ i, Gl (F i) x := by exact fun _ => rfl) (hn : x ≠ "__name__" := by decide) (hdb : (x == ("__debug__" : Str)) = false := by decide) (he : ∀ i, starEach (e :: es) (F i).env = (false, eval e (F i).env) :: starEach es (F i).env := by exact fun _ => rfl) (hpl : ∀ i, (backTo pos (starEach es (F i).env)).any (·.1) = false := by exact fun _ => rfl) : DE I K W F (.Call (.Name x p) (e :: es) [] pos) (lift (pMk f g)) := by
  simp only [lift_mk]
  exact  de_callB Wf hc hm hv ha hg hn hdb he hpl
theorem qe_callTy {x : Str} {T : String} {e : Expr} {es : List Expr} {p : Pos} {f : List D → Option D} {g : Pm (List D)} (Wf : FmC cb P w K mg base k N F) (hc : ∃ r, (∀ i, CallR (F i) (.type T) r) ∧ CallD K r f) (hm : mg x = none) (hv : bootBuiltins x = some (.type T)) (ha : DA I K W F (e :: es) (lift g)) (hg : ∀ i, Gl (F i) x := by exact fun _ => rfl) (hn : x ≠ "__name__" := by decide) (hdb : (x == ("__debug__" : Str)) = false := by decide) (he : ∀ i, starEach (e :: es) (F i).env = (false, eval e (F i).env) :: starEach es (F i).env := by exact fun _ => rfl) (hpl : ∀ i, (backTo pos (starEach es (F i).env)).any (·.1) = false := by exact fun _ => rfl) : DE I K W F (.Call (.Name x p) (e :: es) [] pos) (lift (pMk f g)) := by
  simp only [lift_mk]
  exact  de_callTy Wf hc hm hv ha hg hn hdb he hpl
theorem qe_ix {a b : Expr} {f : D → D → Option D} {ga gb : Pm D} (h : ∃ r, (∀ i, IxR (F i) r) ∧ OpD K r f) (ha : DE I K W F a (lift ga)) (hb : DE I K W F b (lift gb)) (hs : PlainIx b := by exact fun _ _ => rfl) : DE I K W F (.Subscript a b pos) (lift (pOp f ga gb)) := by
  simp only [lift_op]
  exact  de_ix h ha hb hs
theorem qo_none  : DO I K W F none (lift (pC none)) := by
  simp only [lift_c]
  exact  do_none 
theorem qo_some {e : Expr} {g : Pm D} (h : DE I K W F e (lift g)) : DO I K W F (some e) (lift (pPart g)) := by
  simp only [lift_part]
  exact  do_some h
theorem qe_slice {e : Expr} {lo hi : Option Expr} {p2 : Pos} {f : D → Option Int → Option Int → Option D} {g : Pm D} {gl gu : Pm (Option Int)} (h : ∃ r, (∀ i, SlR (F i) r) ∧ SlD K r f) (he : DE I K W F e (lift g)) (hl : DO I K W F lo (lift gl)) (hu : DO I K W F hi (lift gu)) : DE I K W F (.Subscript e (.Slice lo hi none p2) pos) (lift (pSl f g gl gu)) := by
  simp only [lift_sl]
  exact  de_slice h he hl hu
-- N5
theorem qe_isi2 {I : SI} {W : WX} {e : Expr} {x1 x2 : Str} {n1 n2 : String} {p p1 p2 pos tpos : Pos} {kk : Nat} {g : Pm D} (Wf : FmC cb P w K mg base k N F) (h : DE I K W F e (lift g)) (hm : mg "isinstance" = none) (hv : bootBuiltins "isinstance" = some (.builtin "isinstance")) (m1 : mg x1 = none) (m2 : mg x2 = none) (v1 : bootBuiltins x1 = some (.type n1)) (v2 : bootBuiltins x2 = some (.type n2)) (hg : ∀ i, Gl (F i) "isinstance" := by exact fun _ => rfl) (g1 : ∀ i, Gl (F i) x1 := by exact fun _ => rfl) (g2 : ∀ i, Gl (F i) x2 := by exact fun _ => rfl) (k1 : x1 ≠ "__name__" := by decide) (k2 : x2 ≠ "__name__" := by decide) (d1 : (x1 == ("__debug__" : Str)) = false := by decide) (d2 : (x2 == ("__debug__" : Str)) = false := by decide) (hs : ∀ i, starEach [e, .Tuple [.Name x1 p1, .Name x2 p2] kk tpos] (F i).env = (false, eval e (F i).env) :: starEach [.Tuple [.Name x1 p1, .Name x2 p2] kk tpos] (F i).env := by exact fun _ => rfl) (hs2 : ∀ i, starEach [Expr.Tuple [.Name x1 p1, .Name x2 p2] kk tpos] (F i).env = (false, eval (Expr.Tuple [.Name x1 p1, .Name x2 p2] kk tpos) (F i).env) :: starEach [] (F i).env := by exact fun _ => rfl) (hs3 : ∀ i, starEach [Expr.Name x1 p1, .Name x2 p2] (F i).env = (false, eval (Expr.Name x1 p1) (F i).env) :: starEach [.Name x2 p2] (F i).env := by exact fun _ => rfl) (hs4 : ∀ i, starEach [Expr.Name x2 p2] (F i).env = (false, eval (Expr.Name x2 p2) (F i).env) :: starEach [] (F i).env := by exact fun _ => rfl) (hpl : ∀ i, (backTo pos (starEach [Expr.Tuple [.Name x1 p1, .Name x2 p2] kk tpos] (F i).env)).any (·.1) = false := by exact fun _ => rfl) : DE I K W F (.Call (.Name "isinstance" p) [e, .Tuple [.Name x1 p1, .Name x2 p2] kk tpos] [] pos) (lift (pAp (cIsi2 n1 n2) g)) := by
  simp only [lift_ap]
  exact  de_isi2 Wf h hm hv m1 m2 v1 v2 hg g1 g2 k1 k2 d1 d2 hs hs2 hs3 hs4 hpl
-- N7
theorem qe_chain {op op' : CmpOp} {a b c : Expr} {f f' : D → D → Option D} {ga gb gc : Pm D} (h : ∃ r, (∀ i, OpR (F i) (compareOp op) r) ∧ OpD K r f) (h' : ∃ r, (∀ i, OpR (F i) (compareOp op') r) ∧ OpD K r f') (ha : DE I K W F a (lift ga)) (hb : DE I K W F b (lift gb)) (hc : DE I K W F c (lift gc)) (hm : lastMarks [op, op'] [b, c] = false := by with_unfolding_all rfl) : DE I K W F (.Compare a [op, op'] [b, c] pos) (lift (pCh f f' ga gb gc)) := by
  simp only [lift_ch]
  exact  de_chain h h' ha hb hc hm
theorem qt_chain {op op' : CmpOp} {a b c : Expr} {f f' : D → D → Option D} {ga gb gc : Pm D} (h : ∃ r, (∀ i, OpR (F i) (compareOp op) r) ∧ OpD K r f) (h' : ∃ r, (∀ i, OpR (F i) (compareOp op') r) ∧ OpD K r f') (ha : DE I K W F a (lift ga)) (hb : DE I K W F b (lift gb)) (hc : DE I K W F c (lift gc)) (hm : lastMarks [op, op'] [b, c] = false := by with_unfolding_all rfl) : DT I K W F (.Compare a [op, op'] [b, c] pos) (lift (pB (pCh f f' ga gb gc))) := by
  simp only [lift_b, lift_ch]
  exact  dt_chain h h' ha hb hc hm
theorem qe_neg {i : Int} {j} {p : Pos} : DE I K W F (.UnaryOp .USub (.Constant (.int i) j p) pos) (lift (pC (.d (.int (-i))))) := by
  simp only [lift_c]
  exact  de_neg 
theorem qe_gidx {x : Str} {e : Expr} {p apos cpos : Pos} {ys : List Str} {g : Pm D} (Wf : FmC cb P w K mg base k N F) (G : Gt K mg x ys) (h : DE I K W F e (lift g)) (hg : ∀ j, Gl (F j) x := by exact fun _ => rfl) (hd : (x == ("__debug__" : Str)) = false := by decide) (hbase : ∀ i, attributeBase (.Name x p) "index" (F i).env (eval (.Name x p) (F i).env) = eval (.Name x p) (F i).env := by exact fun _ => rfl) (hfew : ∀ i, ((backTo cpos (starEach [e] (F i).env)).all (fun x => !x.1) && (backToKw cpos (keywordEach [] (F i).env)).all (fun x => x.1.isSome)
      && decide (([e] : List Expr).length + ([] : List Keyword).length + (if ([] : List Keyword).isEmpty then 0 else 1) < 30)) = true := by exact fun _ => rfl) (hline : (apos.endLine == cpos.line) = true := by rfl) (hs : ∀ i, starEach [e] (F i).env = (false, eval e (F i).env) :: starEach [] (F i).env := by exact fun _ => rfl) (hpl : ∀ i, (backTo cpos (starEach [] (F i).env)).any (·.1) = false := by exact fun _ => rfl) : DE I K W F (.Call (.Attribute (.Name x p) "index" apos) [e] [] cpos) (lift (pAp (fGIdx ys) g)) := by
  simp only [lift_ap]
  exact  de_gidx Wf G h hg hd hbase hfew hline hs hpl
-- N9
theorem qi_r1 {tg a : Expr} {p : Pos} {g : Pm (List D)} (Wf : Fm P w K mg base k N F) (hm : mg "range" = none) (h : DA I K W F [a] (lift g)) (hg : ∀ i, Gl (F i) "range" := by exact fun _ => rfl) (hs : ∀ i, starEach [a] (F i).env = [(false, eval a (F i).env)] := by exact fun _ => rfl) : DI I K W F tg (.Call (.Name "range" p) [a] [] pos) (liftI (pRg mR1 g)) := by
  simp only [lift_rg]
  exact  di_r1 Wf hm h hg hs
theorem qi_r2 {tg a b : Expr} {p : Pos} {g : Pm (List D)} (Wf : Fm P w K mg base k N F) (hm : mg "range" = none) (h : DA I K W F [a, b] (lift g)) (hg : ∀ i, Gl (F i) "range" := by exact fun _ => rfl) (hs : ∀ i, starEach [a, b] (F i).env = [(false, eval a (F i).env), (false, eval b (F i).env)] := by exact fun _ => rfl) (hs2 : ∀ i, starEach [b] (F i).env = [(false, eval b (F i).env)] := by exact fun _ => rfl) : DI I K W F tg (.Call (.Name "range" p) [a, b] [] pos) (liftI (pRg mR2 g)) := by
  simp only [lift_rg]
  exact  di_r2 Wf hm h hg hs hs2
-- N10
theorem qts_nil  : DTs I K W F [] (lift (pC true)) := by
  simp only [lift_c]
  exact  dts_nil 
theorem qts_one {c : Expr} {g : Pm Bool} (h : DT I K W F c (lift g)) : DTs I K W F [c] (lift (g)) := dts_one h
theorem qe_lc {elt tg iter : Expr} {ifs : List Expr} {scope : Scope} (own : List (Str × Nat)) {gs : Pm (List D)} {gg : D → Env → Option Env} {gt : Pm Bool} {ge : Pm D} (Wf : Fm P w K mg base k N F) (ok : ∀ i, BlkOk (F i).N (F i).env.scope scope own) (hi : DI I K W F tg iter (liftI gs)) (hg : DGv I K (blkF scope F) (own.map (·.2)) tg gg) (ht : DTs I K WF (blkF scope F) ifs (lift gt)) (he : DE I K WF (blkF scope F) elt (lift ge)) (hs : ∀ i x, foldedSetIterable iter (F i).env x = pure x := by exact fun _ _ => rfl) : DE I K W F (.ListComp elt [⟨tg, iter, ifs, 0⟩] scope pos) (lift (pMk mLst (pLc gg (own.map (·.2)) gs gt ge))) := by
  simp only [lift_lc, lift_mk]
  exact  de_lc own Wf ok hi hg ht he hs
-- N11
theorem qs_asg {tg e : Expr} {g : D → Env → Option Env} {ga : Pm D} (h : DE I K W F e (lift ga)) (hg : DG I K F tg g) (hs : ∀ i, swapsWithSole [tg] e pos.line (F i).env = pure false := by exact fun _ => rfl) (hw : ∀ i, swappedStores [tg] e (F i).env = pure none := by exact fun _ => rfl) (h1 : ∀ i, (assignEach [tg] (F i).env).map (·.2) = [assign tg (F i).env] := by exact fun _ => rfl) : DS I K W F (.Assign [tg] e pos) (lift (pAsg g ga)) := by
  simp only [lift_asg]
  exact  ds_asg h hg hs hw h1
theorem qs_setLc {y : Str} {py spos : Pos} {elt tg iter : Expr} {ifs : List Expr} {scope : Scope} (own : List (Str × Nat)) {gs : Pm (List D)} {gg : D → Env → Option Env} {gt : Pm Bool} {ge : Pm D} (Wf : Fm P w K mg base k N F) (i : Nat) (ok : ∀ i, BlkOk (F i).N (F i).env.scope scope own) (hi : DI I K W F tg iter (liftI gs)) (hg : DGv I K (blkF scope F) (own.map (·.2)) tg gg) (ht : DTs I K WF (blkF scope F) ifs (lift gt)) (he : DE I K WF (blkF scope F) elt (lift ge)) (hsw : ∀ j, swapsWith (.ListComp elt [⟨tg, iter, ifs, 0⟩] scope pos) (some (.Name y py)) spos.line (F j).env = pure true) (hy : ∀ j, (F j).N[i]? = some y := by exact fun _ => rfl) (hyl : ∀ j, (F j).env.scope.names.lookup y = some .local := by exact fun _ => rfl) (hs : ∀ i x, foldedSetIterable iter (F i).env x = pure x := by exact fun _ _ => rfl) : DS I K W F (.Assign [.Name y py] (.ListComp elt [⟨tg, iter, ifs, 0⟩] scope pos) spos) (lift (pAsg (gN i) (pMk mLst (pLc gg (own.map (·.2)) gs gt ge)))) := by
  simp only [lift_asg, lift_lc, lift_mk]
  exact  ds_setLc own Wf i ok hi hg ht he hsw hy hyl hs
theorem qs_ret {e : Expr} {g : Pm D} (h : DE I K W F e (lift g)) : DS I K W F (.Return (some e) pos) (lift (pRet g)) := by
  simp only [lift_ret]
  exact  ds_ret h
theorem qs_exp {e : Expr} {g : Pm D} (h : DE I K W F e (lift g)) (hs : ∀ i, swapsWith e none pos.line (F i).env = pure false := by exact fun _ => rfl) : DS I K W F (.Expr e pos) (lift (pExp g)) := by
  simp only [lift_exp]
  exact  ds_exp h hs
theorem qs_if {c : Expr} {a b : List Stmt} {gc : Pm Bool} {ga gb : Pm Out} (hc : DT I K W F c (lift gc)) (ha : DSs I K W F a (lift ga)) (hb : DSs I K W F b (lift gb)) : DS I K W F (.If c a b pos) (lift (pIf gc ga gb)) := by
  simp only [lift_if]
  exact  ds_if hc ha hb
theorem qss_nil  : DSs I K W F [] (lift (pNx)) := by
  simp only [lift_nx]
  exact  dss_nil 
theorem qss_one {st : Stmt} {g : Pm Out} (h : DS I K W F st (lift g)) : DSs I K W F [st] (lift (g)) := dss_one h
theorem qss_cons {st : Stmt} {rest : List Stmt} {g gr : Pm Out} (h : DS I K W F st (lift g)) (hr : DSs I K W F rest (lift gr)) : DSs I K W F (st :: rest) (lift (pSeq g gr)) := by
  simp only [lift_seq]
  exact  dss_cons h hr
theorem qs_for {tg iter : Expr} {body : List Stmt} {gs : Pm (List D)} {gg : D → Env → Option Env} {gb : Pm Out} (Wf : Fm P w K mg base k N F) (hi : DI I K W F tg iter (liftI gs)) (hg : DG I K F tg gg) (hb : DSs I K W F body (lift gb)) (hp : ∀ i, PassesOwn (model (F i).prog (F i).w) (F i).A (F i).env (F i).xe := by first | exact fun _ => PassesOwn.never | exact fun _ => passes_of rfl) (hs : ∀ i x, foldedSetIterable iter (F i).env x = pure x := by exact fun _ _ => rfl) : DS I K W F (.For tg iter body [] pos) (lift (pFor gg gs gb)) := by
  simp only [lift_for]
  exact  ds_for Wf hi hg hb hp hs
theorem qs_while {c : Expr} {body : List Stmt} {gc : Pm Bool} {gb : Pm Out} (n : Nat) (hc : DT I K W F c (lift gc)) (hb : DSs I K W F body (lift gb)) (hp : ∀ i, PassesOwn (model (F i).prog (F i).w) (F i).A (F i).env (F i).xe := by first | exact fun _ => PassesOwn.never | exact fun _ => passes_of rfl) : DS I K W F (.While c body [] pos) (lift (pWh n gc gb)) := by
  simp only [lift_wh]
  exact  ds_while n hc hb hp
theorem qs_aug {x : Str} {e : Expr} {pos' : Pos} {g : Pm D} (Wf : Fm P w K mg base k N F) (i : Nat) (h : DE I K W F e (lift g)) (hN : ∀ j, (F j).N[i]? = some x := by exact fun _ => rfl) (hx : ∀ j, Loc (F j).env.scope x := by first | exact fun _ => Or.inl rfl | exact fun _ => Or.inr rfl) (hf : ∀ j, (F j).fn x = true ∨ (F j).env.scope.names.lookup x = some .local := by first | exact fun _ => Or.inl rfl | exact fun _ => Or.inr rfl) : DS I K W F (.AugAssign (.Name x pos') .Add e pos) (lift (pAug i g)) := by
  simp only [lift_aug]
  exact  ds_aug Wf i h hN hx hf
theorem qs_par2 {x y : Str} {a b : Expr} {px py pt : Pos} {kt k2 pt2} {g : Pm (List D)} (Wf : Fm P w K mg base k N F) (i j : Nat) (hij : i ≠ j) (h : DA I K W F [a, b] (lift g)) (hw : ∀ l, swappedStores [.Tuple [.Name x px, .Name y py] kt pt] (.Tuple [a, b] k2 pt2) (F l).env = pure (some [x, y])) (hi : ∀ l, (F l).N[i]? = some x := by exact fun _ => rfl) (hj : ∀ l, (F l).N[j]? = some y := by exact fun _ => rfl) (hx : ∀ l, (F l).env.scope.names.lookup x = some .local := by exact fun _ => rfl) (hy : ∀ l, (F l).env.scope.names.lookup y = some .local := by exact fun _ => rfl) (hs : ∀ l, swapsWithSole [.Tuple [.Name x px, .Name y py] kt pt] (.Tuple [a, b] k2 pt2) pos.line (F l).env = pure false := by exact fun _ => rfl) : DS I K W F (.Assign [.Tuple [.Name x px, .Name y py] kt pt] (.Tuple [a, b] k2 pt2) pos) (lift (pPar2 i j g)) := by
  simp only [lift_par2]
  exact  ds_par2 Wf i j hij h hw hi hj hx hy hs
theorem qs_par3 {x y z : Str} {a b c : Expr} {px py pz pt : Pos} {kt k2 pt2} {g : Pm (List D)} (Wf : Fm P w K mg base k N F) (i j l : Nat) (hij : i ≠ j) (hil : i ≠ l) (hjl : j ≠ l) (h : DA I K W F [a, b, c] (lift g)) (hw : ∀ q, swappedStores [.Tuple [.Name x px, .Name y py, .Name z pz] kt pt] (.Tuple [a, b, c] k2 pt2) (F q).env = pure (some [x, y, z])) (hi : ∀ q, (F q).N[i]? = some x := by exact fun _ => rfl) (hj : ∀ q, (F q).N[j]? = some y := by exact fun _ => rfl) (hl : ∀ q, (F q).N[l]? = some z := by exact fun _ => rfl) (hx : ∀ l, (F l).env.scope.names.lookup x = some .local := by exact fun _ => rfl) (hy : ∀ l, (F l).env.scope.names.lookup y = some .local := by exact fun _ => rfl) (hz : ∀ l, (F l).env.scope.names.lookup z = some .local := by exact fun _ => rfl) (hs : ∀ q, swapsWithSole [.Tuple [.Name x px, .Name y py, .Name z pz] kt pt] (.Tuple [a, b, c] k2 pt2) pos.line (F q).env = pure false := by exact fun _ => rfl) : DS I K W F (.Assign [.Tuple [.Name x px, .Name y py, .Name z pz] kt pt] (.Tuple [a, b, c] k2 pt2) pos) (lift (pPar3 i j l g)) := by
  simp only [lift_par3]
  exact  ds_par3 Wf i j l hij hil hjl h hw hi hj hl hx hy hz hs
-- N12
theorem qe_lc2 {elt tg iter tg1 iter1 : Expr} {ifs ifs1 : List Expr} {scope : Scope} (own : List (Str × Nat)) (vs1 : List Nat) {gs gs1 : Pm (List D)} {gg gg1 : D → Env → Option Env} {gt gt1 : Pm Bool} {ge : Pm D} (Wf : Fm P w K mg base k N F) (ok : ∀ i, BlkOk (F i).N (F i).env.scope scope own) (hv : ∀ i ∈ vs1, i ∈ own.map (·.2)) (hi : DI I K W F tg iter (liftI gs)) (hg : DGv I K (blkF scope F) (own.map (·.2)) tg gg) (ht : DTs I K WF (blkF scope F) ifs (lift gt)) (hi1 : DI I K WF (blkF scope F) tg1 iter1 (liftI gs1)) (hg1 : DGv I K (blkF scope F) vs1 tg1 gg1) (ht1 : DTs I K WF (blkF scope F) ifs1 (lift gt1)) (he : DE I K WF (blkF scope F) elt (lift ge)) (hs : ∀ i x, foldedSetIterable iter (F i).env x = pure x := by exact fun _ _ => rfl) (hs1 : ∀ env x, foldedSetIterable iter1 env x = pure x := by exact fun _ _ => rfl) : DE I K W F (.ListComp elt [⟨tg, iter, ifs, 0⟩, ⟨tg1, iter1, ifs1, 0⟩] scope pos) (lift (pMk mLst (pLc2 gg (own.map (·.2)) gs gt gs1 gg1 vs1 gt1 ge))) := by
  simp only [lift_lc2, lift_mk]
  exact  de_lc2 own vs1 Wf ok hv hi hg ht hi1 hg1 ht1 he hs hs1
theorem qs_setLc2 {y : Str} {py spos : Pos} {elt tg iter tg1 iter1 : Expr} {ifs ifs1 : List Expr} {scope : Scope} (own : List (Str × Nat)) (vs1 : List Nat) {gs gs1 : Pm (List D)} {gg gg1 : D → Env → Option Env} {gt gt1 : Pm Bool} {ge : Pm D} (Wf : Fm P w K mg base k N F) (i : Nat) (ok : ∀ i, BlkOk (F i).N (F i).env.scope scope own) (hv : ∀ i ∈ vs1, i ∈ own.map (·.2)) (hi : DI I K W F tg iter (liftI gs)) (hg : DGv I K (blkF scope F) (own.map (·.2)) tg gg) (ht : DTs I K WF (blkF scope F) ifs (lift gt)) (hi1 : DI I K WF (blkF scope F) tg1 iter1 (liftI gs1)) (hg1 : DGv I K (blkF scope F) vs1 tg1 gg1) (ht1 : DTs I K WF (blkF scope F) ifs1 (lift gt1)) (he : DE I K WF (blkF scope F) elt (lift ge)) (hsw : ∀ j, swapsWith (.ListComp elt [⟨tg, iter, ifs, 0⟩, ⟨tg1, iter1, ifs1, 0⟩] scope pos) (some (.Name y py)) spos.line (F j).env = pure true) (hy : ∀ j, (F j).N[i]? = some y := by exact fun _ => rfl) (hyl : ∀ j, (F j).env.scope.names.lookup y = some .local := by exact fun _ => rfl) (hs : ∀ i x, foldedSetIterable iter (F i).env x = pure x := by exact fun _ _ => rfl) (hs1 : ∀ env x, foldedSetIterable iter1 env x = pure x := by exact fun _ _ => rfl) : DS I K W F (.Assign [.Name y py] (.ListComp elt [⟨tg, iter, ifs, 0⟩, ⟨tg1, iter1, ifs1, 0⟩] scope pos) spos) (lift (pAsg (gN i) (pMk mLst (pLc2 gg (own.map (·.2)) gs gt gs1 gg1 vs1 gt1 ge)))) := by
  simp only [lift_asg, lift_lc2, lift_mk]
  exact  ds_setLc2 own vs1 Wf i ok hv hi hg ht hi1 hg1 ht1 he hsw hy hyl hs hs1
-- N20
theorem qp_nil  : DP I K W F pos [] [] (lift (pPnil)) := by
  simp only [lift_pnil]
  exact  dp_nil 
theorem qp_cons {x : Str} {j : Nat} {p : Pos} {v : Expr} {ks : List (Option Expr)} {vs : List Expr} {g : Pm D} {gr : Pm (List (Key × D))} (h : DE I K W F v (lift g)) (hr : DP I K W F pos ks vs (lift gr)) : DP I K W F pos (some (.Constant (.str x) j p) :: ks) (v :: vs) (lift (pPcons (.inr x) g gr)) := by
  simp only [lift_pcons]
  exact  dp_cons h hr
theorem qp_consI {x : Int} {j : Nat} {p : Pos} {v : Expr} {ks : List (Option Expr)} {vs : List Expr} {g : Pm D} {gr : Pm (List (Key × D))} (h : DE I K W F v (lift g)) (hr : DP I K W F pos ks vs (lift gr)) : DP I K W F pos (some (.Constant (.int x) j p) :: ks) (v :: vs) (lift (pPcons (.inl x) g gr)) := by
  simp only [lift_pcons]
  exact  dp_consI h hr
theorem qe_dget {keys : List (Option Expr)} {values : List Expr} {dpos apos cpos : Pos} {e f : Expr} {g : Pm (List (Key × D))} {ga gb : Pm D} (Wf : Fm P w K mg base k N F) (h : DP I K W F dpos keys values (lift g)) (ha : DE I K W F e (lift ga)) (hb : DE I K W F f (lift gb)) (hall : keys.all (·.isSome) = true := by rfl) (hl : keys.length = values.length := by rfl) (h0 : keys ≠ [] := by exact fun z => nomatch z) (h15 : keys.length ≤ 15 := by decide) (m : ∀ i, M2 (F i) (.Dict keys values dpos) "get" apos e f cpos := by exact fun _ => ⟨rfl, rfl, rfl, rfl⟩) : DE I K W F (.Call (.Attribute (.Dict keys values dpos) "get" apos) [e, f] [] cpos) (lift (pDget g ga gb)) := by
  simp only [lift_dget]
  exact  de_dget Wf h ha hb hall hl h0 h15 m
theorem qe_dsub {keys : List (Option Expr)} {values : List Expr} {dpos : Pos} {e : Expr} {g : Pm (List (Key × D))} {ga : Pm D} (Wf : Fm P w K mg base k N F) (h : DP I K W F dpos keys values (lift g)) (ha : DE I K W F e (lift ga)) (hall : keys.all (·.isSome) = true := by rfl) (hl : keys.length = values.length := by rfl) (h0 : keys ≠ [] := by exact fun z => nomatch z) (h15 : keys.length ≤ 15 := by decide) (hs : NoSl e := by exact fun _ _ => rfl) : DE I K W F (.Subscript (.Dict keys values dpos) e pos) (lift (pDsub g ga)) := by
  simp only [lift_dsub]
  exact  de_dsub Wf h ha hall hl h0 h15 hs
-- N28
theorem qe_join {o e : Expr} {apos cpos : Pos} {go ge : Pm D} (Wf : FmC cb P w K mg base k N F) (ho : DE I K W F o (lift go)) (he : DE I K W F e (lift ge)) (hs : ∀ i, starEach [e] (F i).env = [(false, eval e (F i).env)] := by exact fun _ => rfl) (hbase : ∀ i, attributeBase o "join" (F i).env (eval o (F i).env) = eval o (F i).env := by exact fun _ => rfl) (hline : (apos.endLine == cpos.line) = true := by rfl) : DE I K W F (.Call (.Attribute o "join" apos) [e] [] cpos) (lift (pM1 fJoin go ge)) := by
  simp only [lift_m1]
  exact  de_join Wf ho he hs hbase hline
theorem qe_split {o e : Expr} {apos cpos : Pos} {go ge : Pm D} (Wf : FmC cb P w K mg base k N F) (ho : DE I K W F o (lift go)) (he : DE I K W F e (lift ge)) (hs : ∀ i, starEach [e] (F i).env = [(false, eval e (F i).env)] := by exact fun _ => rfl) (hbase : ∀ i, attributeBase o "split" (F i).env (eval o (F i).env) = eval o (F i).env := by exact fun _ => rfl) (hline : (apos.endLine == cpos.line) = true := by rfl) : DE I K W F (.Call (.Attribute o "split" apos) [e] [] cpos) (lift (pM1 fSplit go ge)) := by
  simp only [lift_m1]
  exact  de_split Wf ho he hs hbase hline
theorem qi_txt {tg e : Expr} {g : Pm D} (h : DE I K W F e (lift g)) : DI I K W F tg e (liftI (pItT g)) := by
  simp only [lift_itT]
  exact  di_txt h
theorem qi_seq {tg e : Expr} {g : Pm D} (Wf : Fm P w K mg base k N F) (h : DE I K W F e (lift g)) : DI I K W F tg e (liftI (pIt g)) := di_le (di_seq Wf h) fun env t => le_it env t
theorem qe_lidx {o e : Expr} {apos cpos : Pos} {go ge : Pm D} (Wf : FmC cb P w K mg base k N F) (ho : DE I K W F o (lift go)) (he : DE I K W F e (lift ge))
    (hbase : ∀ i, attributeBase o "index" (F i).env (eval o (F i).env) = eval o (F i).env := by exact fun _ => rfl)
    (hfew : ∀ i, ((backTo cpos (starEach [e] (F i).env)).all (fun x => !x.1) && (backToKw cpos (keywordEach [] (F i).env)).all (fun x => x.1.isSome)
      && decide (([e] : List Expr).length + ([] : List Keyword).length + (if ([] : List Keyword).isEmpty then 0 else 1) < 30)) = true := by exact fun _ => rfl)
    (hline : (apos.endLine == cpos.line) = true := by rfl) (hs : ∀ i, starEach [e] (F i).env = (false, eval e (F i).env) :: starEach [] (F i).env := by exact fun _ => rfl) (hpl : ∀ i, (backTo cpos (starEach [] (F i).env)).any (·.1) = false := by exact fun _ => rfl) :
    DE I K W F (.Call (.Attribute o "index" apos) [e] [] cpos) (lift (pOp fLIdx go ge)) := de_le (de_lidxT Wf ho he hbase hfew hline hs hpl) fun env t => le_opT fLIdx_ty env t
theorem fLCnt_ty : ∀ x y z, fLCnt x y = some z → isLs x = true := fun x y z h => by
  unfold fLCnt at h
  split at h
  · rfl
  · cases h
theorem qe_lcnt {o e : Expr} {apos cpos : Pos} {go ge : Pm D} (Wf : FmC cb P w K mg base k N F) (ho : DE I K W F o (lift go)) (he : DE I K W F e (lift ge))
    (hbase : ∀ i, attributeBase o "count" (F i).env (eval o (F i).env) = eval o (F i).env := by exact fun _ => rfl)
    (hfew : ∀ i, ((backTo cpos (starEach [e] (F i).env)).all (fun x => !x.1) && (backToKw cpos (keywordEach [] (F i).env)).all (fun x => x.1.isSome)
      && decide (([e] : List Expr).length + ([] : List Keyword).length + (if ([] : List Keyword).isEmpty then 0 else 1) < 30)) = true := by exact fun _ => rfl)
    (hline : (apos.endLine == cpos.line) = true := by rfl) (hs : ∀ i, starEach [e] (F i).env = (false, eval e (F i).env) :: starEach [] (F i).env := by exact fun _ => rfl) (hpl : ∀ i, (backTo cpos (starEach [] (F i).env)).any (·.1) = false := by exact fun _ => rfl) :
    DE I K W F (.Call (.Attribute o "count" apos) [e] [] cpos) (lift (pOp fLCnt go ge)) := de_le (de_lcnt Wf ho he hbase hfew hline hs hpl) fun env t => le_opT fLCnt_ty env t
theorem qe_call {x : Str} {e : Expr} {es : List Expr} {p : Pos} {j n : Nat} {m : List D → Option D} {g : Pm (List D)} (Wf : Fm P w K mg base k N F) (G : Gf P w K mg base x j n m) (hj : j ≤ k) (ha : DA I K W F (e :: es) (lift g))
    (hg : ∀ i, Gl (F i) x := by exact fun _ => rfl) (hdb : (x == ("__debug__" : Str)) = false := by decide)
    (he : ∀ i, starEach (e :: es) (F i).env = (false, eval e (F i).env) :: starEach es (F i).env := by exact fun _ => rfl) (hpl : ∀ i, (backTo pos (starEach es (F i).env)).any (·.1) = false := by exact fun _ => rfl) :
    DE I K W F (.Call (.Name x p) (e :: es) [] pos) (lift (pMk m g)) := by
  rw [lift_mk]
  exact de_call Wf G hj ha hg hdb he hpl
/-- a def with trees of its own that answers as a plain function -/
theorem qe_callP {x : Str} {e : Expr} {es : List Expr} {p : Pos} {j n : Nat} {m : List D → Ts → R D} {f : List D → Option D} {g : Pm (List D)} (Wf : Fm P w K mg base k N F) (tk : ∀ i, Takes (F i) W) (im : I.mg = mg) (G : Gs P w K mg base x j n m) (hf : ∀ ds t d, f ds = some d → m ds t = .ok d t) (hj : j ≤ k) (ha : DA I K W F (e :: es) (lift g))
    (hg : ∀ i, Gl (F i) x := by exact fun _ => rfl) (hdb : (x == ("__debug__" : Str)) = false := by decide)
    (he : ∀ i, starEach (e :: es) (F i).env = (false, eval e (F i).env) :: starEach es (F i).env := by exact fun _ => rfl) (hpl : ∀ i, (backTo pos (starEach es (F i).env)).any (·.1) = false := by exact fun _ => rfl) :
    DE I K W F (.Call (.Name x p) (e :: es) [] pos) (lift (pMk f g)) := de_le (de_callS Wf tk im G hj ha hg hdb he hpl) fun env t => by
  unfold lift pMk sCall
  dsimp only
  cases g env with
  | none => exact .inl rfl
  | some ds =>
    simp only [Option.bind_some, ofO, R.bind]
    cases q : f ds with
    | none => exact .inl rfl
    | some d => exact .inr (by rw [hf ds t d q])
theorem qs_retN : DS I K W F (.Return none pos) (lift (pC (.rt (.d .none)))) := ds_retN
theorem qs_never {st : Stmt} : DS I K W F st (lift pNo) := ds_never
theorem qss_never {st : List Stmt} : DSs I K W F st (lift pNo) := dss_never
theorem dg_n (Wf : FmC cb P w K mg base k N F) (i : Nat) {x : Str} (hN : ∀ j, (F j).N[i]? = some x := by exact fun _ => rfl) (hx : ∀ j, Loc (F j).env.scope x := by first | exact fun _ => Or.inl rfl | exact fun _ => Or.inr rfl)
    (hf : ∀ j, (F j).fn x = true ∨ (F j).env.scope.names.lookup x = some .local := by first | exact fun _ => Or.inl rfl | exact fun _ => Or.inr rfl) : DG I K F (.Name x pos) (gN i) := dg_name Wf i hN hx hf
theorem dgs_e : DGs I K F [] gE := dgs_nil
/-- from here on a list is data -/
def sFzS (i : Nat) (g : Sm Out) : Sm Out := fun env t => match env[i]? with
  | some (some x) => (frz x t).bind fun d t => g (env.set i (some d)) t
  | _ => .no
theorem dss_frz {st : List Stmt} {g : Sm Out} (i : Nat) (h : DSs I K W F st g) : DSs I K W F st (sFzS i g) := fun j => (h j).imp fun Dn σ H ⟨env, s, ok, re, h⟩ => by
  unfold sFzS at h
  split at h
  · rename_i x e0
    obtain ⟨v, e1, r1⟩ := re.at_ i x e0
    unfold frz at h
    split at h
    · rename_i n
      split at h
      · rename_i ts e
        split at h
        · rename_i xs q
          have g : getT s.t n [] = some (.nd .lst ts) := by rw [getT_of e]; exact get_nil _
          obtain ⟨a, dx, vs, rfl, w1, c1, hd1⟩ := node_at ok r1 g
          have pk := po_kill n ok
          have na : ¬ I.M (killS s n) a := kill_free ok g w1
          have rd : Rp K (Hr I (killS s n) H) (.d (.list xs)) (.ref a) := .lst (hr_in hd1 na) (dpa_same pk.same.h (leafs_dq c1 q))
          have hl : i < σ.length := (List.getElem?_eq_some_iff.mp e1).1
          have re2 := (re.same pk.same).set (i := i) rd
          have eσ : σ.set i (some (.ref a)) = σ := by
            apply List.ext_getElem?
            intro m
            by_cases c : m = i
            · subst c
              rw [List.getElem?_set_self hl, e1]
            · rw [List.getElem?_set_ne (fun z => c z.symm)]
          rw [eσ] at re2
          refine ⟨_, killS s n, pk.ok, re2, R.Post.mono h (fun o t hf => fin_from pk hf) fun x t hx σ' => xp_from pk (hx σ')⟩
        · exact h.elim
      · exact h.elim
    · exact h.elim
  · exact h.elim
end
end Dl
set_option maxRecDepth 100000
set_option maxHeartbeats 4000000
/-! the law's own def -/
namespace Dl
open PySem L2 PyProof.Rows
def spLawT (T : List (Addr × Str)) (K : PySem.W.Frag) : Sp := fun vs H Q _ => ∃ (a : Addr) (ns : List Int), vs = [.ref a] ∧ SqL K H a (ns.map V.int) ∧ ns.length ≤ 63 ∧ LamX.Tabs T H ∧ ∀ H', Q (.bl true) H'
abbrev spLaw (K : PySem.W.Frag) : Sp := spLawT [] K
/-- at the law's start -/
def siLaw (mg : Str → Option Value) (T : List (Addr × Str)) (q : Str) (cells : List (Str × Addr)) (lams : Nat → Option (Arguments × Expr × Scope)) : SI where
  mg := mg
  T := T
  C := LamC q cells lams
  cs := lamC_same
  X := fun _ _ _ _ => False
  xs := fun _ h => h
  w0 := fun _ _ => none
section
variable {P : Program} {w : World} {K : PySem.W.Frag} {mg : Str → Option Value} {base : Heap}
theorem ok_lawN {scr : Str} {st : Stmt} {f : Addr} {N : List Str} {k : Nat} {T0 : List (Addr × Str)} {lams : Nat → Option (Arguments × Expr × Scope)} {gs : Sm Out} {oc kV doc pm cdv ct : Value} {od an : Option Addr} {osl : Array (Option Value)}
    (lk : K.lookup f = some ⟨oc, od, .func (PySem.W.fnOf "law" "law" (defArgs st) (defBody st) (defScope st) .none kV doc pm an cdv ct), osl⟩) (hcd : PySem.W.codeIn K cdv "law" = true) (S : FnScope N [scr] (defScope st))
    (hb : ∀ (A : Around) (outer : List PySem.Env) (s : Shared) (H : Hp) (E : XK), Fm P w K mg base k N (bodyX P w K mg base N "law" st f cdv A outer s H E) →
      DSs (siLaw mg T0 ("law.<locals>.<lambda>") (cellsFrom (s.heap.objs.size + 1) (defScope st).names []) lams) K WF (bodyX P w K mg base N "law" st f cdv A outer s H E) (defBody st) gs)
    (hfin : ∀ (ns : List Int), ns.length ≤ 63 → ∃ t, gs (startE N.length 1 [.sc ns]) [] = .ok (.rt (.d (.bool true))) t) :
    FnOk P w K mg base CX0 (k + 1) f (PySem.W.fnOf "law" "law" (defArgs st) (defBody st) (defScope st) .none kV doc pm an cdv ct) [scr] (spLawT T0 K) := by
  refine fn_of lk hcd S (fun vs H Q E h => by obtain ⟨a, ns, rfl, _⟩ := h; rfl) fun A outer s H vs Q E hr h => ?_
  obtain ⟨a, ns, rfl, hS, hl, hT, hQ⟩ := h
  have Wf : Fm P w K mg base k N (bodyX P w K mg base N "law" st f cdv A outer s H E) := ⟨fun _ => rfl, fun _ => rfl, fun _ => rfl, fun _ => rfl, fun _ => rfl, fun _ _ => rfl, fun _ _ => hr, fun _ => room_un hr, S.nd, fun _ => rfl⟩
  refine ⟨_, PSs.nox (hb A outer s H E Wf ()), ?_⟩
  obtain ⟨t, e⟩ := hfin ns hl
  have ok : (siLaw mg T0 "law.<locals>.<lambda>" (cellsFrom (s.heap.objs.size + 1) (defScope st).names []) lams).ok K ⟨[], fun _ _ => none, fun _ => none⟩ H := by
    refine ⟨fun n p k ts q => ?_, fun n p k ts n' p' k' ts' a dx dx' q => ?_, fun n p x q => (by cases q), fun a o q => (by cases q), hT, fun n p x q => (by cases q)⟩
    · obtain ⟨T, e1, _⟩ := getT_some q
      cases e1
    · obtain ⟨T, e1, _⟩ := getT_some q
      cases e1
  have hsq : SqL K (Hr (siLaw mg T0 "law.<locals>.<lambda>" (cellsFrom (s.heap.objs.size + 1) (defScope st).names []) lams) ⟨[], fun _ _ => none, fun _ => none⟩ H).h a (ns.map V.int) := by
    rcases hS with hS | hS
    · have nM : ∀ {b o}, H b = some o → (∀ ps, o ≠ .tbl ps) → (Hr (siLaw mg T0 "law.<locals>.<lambda>" (cellsFrom (s.heap.objs.size + 1) (defScope st).names []) lams) ⟨[], fun _ _ => none, fun _ => none⟩ H).h b = some o := fun {b o} e hn => hr_in e fun m => by
        rcases m with ⟨n, p, k, ts, b1, b2, q, _⟩ | ⟨o', q⟩ | ⟨q, hq, rfl⟩
        · obtain ⟨T, e1, _⟩ := getT_some q
          cases e1
        · cases q
        · obtain ⟨ps, z, _⟩ := hT q hq
          rw [z] at e
          exact hn ps (Option.some.inj e).symm
      rcases hS with hS | ⟨o, hS⟩
      · exact .inl (.inl (nM hS fun ps z => nomatch z))
      · exact .inl (.inr ⟨o, nM hS fun ps z => nomatch z⟩)
    · exact .inr hS
  refine ⟨startE N.length 1 [.sc ns], ⟨[], fun _ _ => none, fun _ => none⟩, ok, re_start (ds := [.sc ns]) (.cons ⟨a, rfl, hsq, hl⟩ .nil) rfl, ?_⟩
  show (gs (startE N.length 1 [.sc ns]) []).Post _ _
  rw [e]
  exact fun v s' H' _ _ r => by
    have r : Dq K _ v (.bool true) := r
    cases r
    exact hQ H'
end
end Dl
set_option maxRecDepth 100000
set_option maxHeartbeats 4000000
/-! small things for the printed texts -/
namespace Dl
open PySem L2 LamX
/-- ways into a text -/
def stE : Stmt → Expr
  | .If t _ _ _ => t
  | .Assign _ v _ => v
  | .Return (some v) _ => v
  | .Expr v _ => v
  | .For _ it _ _ _ => it
  | _ => .Constant .none 0 ⟨0, 0, 0, 0⟩
def stB : Stmt → List Stmt
  | .If _ b _ _ => b
  | .For _ _ b _ _ => b
  | .While _ b _ _ => b
  | _ => []
def clsB : Stmt → List Stmt
  | .ClassDef _ _ _ b _ _ _ _ _ _ _ => b
  | _ => []
def stO : Stmt → List Stmt
  | .If _ _ o _ => o
  | _ => []
def stN (l : List Stmt) (j : Nat) : Stmt := l.getD j (.Pass ⟨0, 0, 0, 0⟩)
def exN (l : List Expr) (j : Nat) : Expr := l.getD j (.Constant .none 0 ⟨0, 0, 0, 0⟩)
def exC : Expr → Nat → Expr
  | .BoolOp _ vs _, j => exN vs j
  | .UnaryOp _ e _, _ => e
  | .Compare l _ cs _, j => match j with
    | 0 => l
    | j + 1 => exN cs j
  | .Call f as _ _, j => match j with
    | 0 => f
    | j + 1 => exN as j
  | .List es _, j => exN es j
  | .Tuple es _ _, j => exN es j
  | .BinOp l _ r _, j => match j with
    | 0 => l
    | _ => r
  | .IfExp c a b _, j => match j with
    | 0 => c
    | 1 => a
    | _ => b
  | .Subscript a b _, j => match j with
    | 0 => a
    | _ => b
  | e, _ => e
def lamX : Expr → Option (Arguments × Expr × Scope)
  | .Lambda p b s _ => some (p, b, s)
  | _ => none
def lamPB (N : List Str) (sc scope : Scope) : Bool :=
  decide (scope.kind = .function) && !scope.isCoroutine && !scope.isGenerator && scope.names.all fun y => !decide (y.2 = .cell) && (!decide (y.2 = .local) || !decide (y.1 ∈ N)) && (!decide (y.2 = .free) || decide (sc.names.lookup y.1 = some .cell) || decide (sc.names.lookup y.1 = some .free))
theorem lamP_by {N : List Str} {sc scope : Scope} (h : lamPB N sc scope = true) : LamP N sc scope := by
  unfold lamPB at h
  simp only [Bool.and_eq_true, Bool.or_eq_true, Bool.not_eq_true', decide_eq_true_eq, decide_eq_false_iff_not, List.all_eq_true] at h
  obtain ⟨⟨⟨h1, h2⟩, h3⟩, h4⟩ := h
  refine ⟨h1, h2, h3, fun y hy => (h4 y hy).1.1, fun y hy e => ?_, fun y hy e => ?_⟩
  · rcases (h4 y hy).1.2 with z | z
    · exact absurd e z
    · exact z
  · rcases (h4 y hy).2 with (z | z) | z
    · exact absurd e z
    · exact .inl z
    · exact .inr z
/-! tables of our exceptions -/
def exF (l : List (Str × Bool)) (c : Str) : Option Bool := l.lookup c
theorem exF_mem {l : List (Str × Bool)} {c : Str} {b : Bool} (h : exF l c = some b) : (c, b) ∈ l := PySem.mem_of_lookup h
/-- each class of a table keeps Q -/
inductive TabQ (mg : Str → Option Value) (Q : Addr → Bool → Prop) : List (Str × Bool) → Prop
  | nil : TabQ mg Q []
  | cons {c : Str} {b : Bool} {C : Addr} {l : List (Str × Bool)} : mg c = some (.ref C) → Q C b → TabQ mg Q l → TabQ mg Q ((c, b) :: l)
theorem TabQ.at_ {mg : Str → Option Value} {Q : Addr → Bool → Prop} : ∀ {l : List (Str × Bool)}, TabQ mg Q l → ∀ c b, (c, b) ∈ l → ∀ C, mg c = some (.ref C) → Q C b
  | _, .nil, c, b, h, _, _ => nomatch h
  | _, .cons h1 h2 t, c, b, h, C, hC => by
    rcases List.mem_cons.mp h with e | h
    · cases e
      rw [h1] at hC
      cases hC
      exact h2
    · exact t.at_ c b h C hC
theorem exT_of {K : PySem.W.Frag} {mg : Str → Option Value} {x : Str} {D : Addr} {l : List (Str × Bool)} (h : mg x = some (.ref D)) (t : TabQ mg (fun C b => PySem.W.exmOne K (.ref C) (.ref D) = some b) l) : ExT K mg x (exF l) := ⟨D, h, fun c b e C hC => t.at_ c b (exF_mem e) C hC⟩
theorem isT_of {K : PySem.W.Frag} {mg : Str → Option Value} {x : Str} {D : Addr} {l : List (Str × Bool)} (h : mg x = some (.ref D)) (t : TabQ mg (fun C b => ExcC K C ∧ PySem.W.kitOne K (.ref C) (.ref D) = some b) l) : IsT K mg x (exF l) := ⟨D, h, fun c b e C hC => t.at_ c b (exF_mem e) C hC⟩
inductive TabC (mg : Str → Option Value) (Q : Addr → Prop) : List Str → Prop
  | nil : TabC mg Q []
  | cons {c : Str} {C : Addr} {l : List Str} : mg c = some (.ref C) → Q C → TabC mg Q l → TabC mg Q (c :: l)
theorem TabC.at_ {mg : Str → Option Value} {Q : Addr → Prop} : ∀ {l : List Str}, TabC mg Q l → ∀ c ∈ l, ∀ C, mg c = some (.ref C) → Q C
  | _, .nil, c, h, _, _ => nomatch h
  | _, .cons h1 h2 t, c, h, C, hC => by
    rcases List.mem_cons.mp h with e | h
    · cases e
      rw [h1] at hC
      cases hC
      exact h2
    · exact t.at_ c h C hC
theorem xfT_of {K : PySem.W.Frag} {mg : Str → Option Value} {n : Str} {l : List Str} (t : TabC mg (fun C => XfC K C ∧ PySem.W.findIn K (.ref C) n = some none) l) : XfT K mg n l := ⟨t.at_⟩
end Dl
set_option maxRecDepth 100000
set_option maxHeartbeats 4000000
/-! a comprehension with two clauses, a list that will change -/
namespace Dl
open PySem L2
section
variable {ι : Type} {P : Program} {w : World} {K : PySem.W.Frag} {mg : Str → Option Value} {base : Heap} {k : Nat} {N : List Str} {F : ι → Cx} {I : SI} {W : WX} {pos : Pos}
theorem tg_alLc2 {g g1 : TG} {vs vs1 : List Nat} {gs gs1 : Sm Itb} {gg gg1 : D → Env → Option Env} {gt gt1 : Sm Bool} {ge : Sm D} (hg : EvG I K g gg) (hs : Str1 g vs) (hg1 : EvG I K g1 gg1) (hs1 : Str1 g1 vs1) :
    ∀ σ H Q, tG I K W (sAlL (sLc2 gg vs gs gt gs1 gg1 vs1 gt1 ge)) σ H Q → tLc2 (tGI I K W gs) g (tGB I K WF gt) (tGI I K WF gs1) g1 (tGB I K WF gt1) (tG I K WF ge) vs vs1 σ H Q := fun σ H Q ⟨env, s, ok, re, h⟩ => by
  have h : ((gs env s.t).bind fun it t => (match it with
      | .st xs => if xs.length ≤ 1000 then goC2 gg (wipeE env vs) gt gs1 gg1 vs1 gt1 ge xs t else .no
      | .dy _ _ => .no : R (List D)).bind newLs).Post (fun d t => ∀ v s' H', s'.t = t → Po I K s H s' H' → Rp K (Hr I s' H') d v → Q v H') (XP I K W s σ H) := by
    unfold sAlL sLc2 at h
    cases q : gs env s.t with
    | no => rw [q] at h; exact h
    | ok a t => rw [q] at h; exact h
    | ex x t => rw [q] at h; exact h
  refine stepI (Po.refl ok) re h fun it J s1 H1 p1 _ wk h => ?_
  cases it with
  | dy n p => exact h.elim
  | st xs =>
    have h : ((if xs.length ≤ 1000 then goC2 gg (wipeE env vs) gt gs1 gg1 vs1 gt1 ge xs s1.t else .no : R (List D)).bind newLs).Post (fun d t => ∀ v s' H', s'.t = t → Po I K s H s' H' → Rp K (Hr I s' H') d v → Q v H') (XP I K W s σ H) := h
    by_cases c : xs.length ≤ 1000
    · rw [if_pos c] at h
      intro L hL
      have re1 := re.same p1.same
      have ok1 := p1.ok
      have zL := ok_zL ok1 hL
      have ldl : ∀ xs, Ld (.lst xs) := fun xs => .inl ⟨xs, rfl⟩
      obtain ⟨Pr, hPr⟩ : ∃ Pr : List D → Ts → Prop, Pr = fun ys t => (newLs ys t).Post (fun d t => ∀ v s' H', s'.t = t → Po I K s H s' H' → Rp K (Hr I s' H') d v → Q v H') (XP I K W s σ H) := ⟨_, rfl⟩
      have h := R.post_bind h
      rw [← hPr] at h
      refine ⟨fun i m H2 => m = xs.length - i ∧ i ≤ xs.length ∧ ∃ (s3 : St1) (acc : List V) (dn : List D), Gro I K L s1 H1 (.lst acc) s3 H2 ∧ RpL K (Hr I s3 H2) dn acc ∧ acc.length ≤ i * 1000 ∧
        (goC2 gg (wipeE env vs) gt gs1 gg1 vs1 gt1 ge (xs.drop i) s3.t).Post (fun ys t => Pr (dn ++ ys) t) (XP I K W s σ H), ⟨_, rfl, Nat.zero_le _, s1.zz (upd s1.Z L (.lst [])), [], [], Gro.start ok1 hL (ldl _), .nil, Nat.zero_le _, h⟩, ?_⟩
      rintro i m H2 ⟨rfl, hi', s3, acc, dn, gr, ra, hal, h3⟩
      have wki := wk s3 H2 gr.ok gr.sm i
      by_cases hlt : i < xs.length
      · right
        obtain ⟨x, hx⟩ : ∃ x, xs[i]? = some x := ⟨xs[i], List.getElem?_eq_getElem hlt⟩
        obtain ⟨go, yl⟩ := wki (some x) (by show some xs[i]? = _; rw [hx])
        refine ⟨go, fun H' => i + 1 ≤ xs.length ∧ ∃ (s3 : St1) (acc : List V) (dn : List D), Gro I K L s1 H1 (.lst acc) s3 H' ∧ RpL K (Hr I s3 H') dn acc ∧ acc.length ≤ (i + 1) * 1000 ∧
          (goC2 gg (wipeE env vs) gt gs1 gg1 vs1 gt1 ge (xs.drop (i + 1)) s3.t).Post (fun ys t => Pr (dn ++ ys) t) (XP I K W s σ H), fun H' q => ⟨xs.length - (i + 1), by omega, rfl, q⟩, fun v H3 y => ?_⟩
        obtain ⟨y1, y3⟩ := yl v H3 y
        subst y1
        rw [drop_get hx] at h3
        unfold goC2 at h3
        obtain ⟨en, e6, h3⟩ := post_ofO (R.post_bind h3)
        have rw1 := re_wipe (re1.same gr.sm) vs
        refine hs v (wipe σ vs) H3 _ _ (fun σ2 H2 w2 q => ⟨w2.trans (wipe_wipe σ vs), q⟩) (hg (wipeE env vs) s3 (wipe σ vs) H3 x v en _ gr.ok rw1 y3 e6 fun σ2 re2 => ?_)
        refine ⟨en, s3, gr.ok, re2, (nox_post h3).mono (fun b t hb s4 H4 e4 p4 => ?_) fun _ _ f => f.elim⟩
        subst e4
        have gr4 := gr.step p4 hL zL
        cases b with
        | false =>
          rw [if_neg Bool.false_ne_true] at hb ⊢
          exact ⟨hlt, s4, acc, dn, gr4, rpl_same p4.same ra, by omega, hb⟩
        | true =>
          rw [if_pos rfl] at hb ⊢
          refine ⟨en, s4, p4.ok, re2.same p4.same, (nox_post hb).mono (fun it t hi J1 s5 H5 e5 p5 wk1 => ?_) fun _ _ f => f.elim⟩
          subst e5
          cases it with
          | dy n p => exact hi.elim
          | st us =>
            have hi : (if us.length ≤ 1000 then (goC gg1 (wipeE en vs1) gt1 ge us s5.t).bind fun z t => (goC2 gg (wipeE env vs) gt gs1 gg1 vs1 gt1 ge (xs.drop (i + 1)) t).bind fun y t => .ok (z ++ y) t else .no : R (List D)).Post (fun ys t => Pr (dn ++ ys) t) (XP I K W s σ H) := hi
            by_cases cu : us.length ≤ 1000
            · rw [if_pos cu] at hi
              have gr5 := gr4.step p5 hL zL
              have re5 := (re2.same p4.same).same p5.same
              refine ⟨fun j n H6 => n = us.length - j ∧ j ≤ us.length ∧ ∃ (s8 : St1) (acc2 : List V) (dn2 : List D), Gro I K L s1 H1 (.lst acc2) s8 H6 ∧ VLe (Hr I s5 H5) (Hr I s8 H6) ∧ RpL K (Hr I s8 H6) (dn ++ dn2) acc2 ∧ acc2.length ≤ acc.length + j ∧
                (goC gg1 (wipeE en vs1) gt1 ge (us.drop j) s8.t).Post (fun zs t => (goC2 gg (wipeE env vs) gt gs1 gg1 vs1 gt1 ge (xs.drop (i + 1)) t).Post (fun ys t => Pr (dn ++ (dn2 ++ zs) ++ ys) t) (XP I K W s σ H)) (XP I K W s σ H),
                ⟨_, rfl, Nat.zero_le _, s5, acc, [], gr5, VLe.refl _, by rw [List.append_nil]; exact rpl_same p5.same (rpl_same p4.same ra), Nat.le_refl _, (R.post_bind hi).mono (fun zs t hz => (R.post_bind hz).mono (fun ys t q => by rw [List.nil_append, List.append_assoc]; exact q) fun _ _ q => q) fun _ _ q => q⟩, ?_⟩
              rintro j n H6 ⟨rfl, hj', s8, acc2, dn2, gr8, sm8, ra8, hal8, h8⟩
              have wkj := wk1 s8 H6 gr8.ok sm8 j
              by_cases hlt2 : j < us.length
              · right
                obtain ⟨u, hu⟩ : ∃ u, us[j]? = some u := ⟨us[j], List.getElem?_eq_getElem hlt2⟩
                obtain ⟨go1, yl1⟩ := wkj (some u) (by show some us[j]? = _; rw [hu])
                refine ⟨go1, fun H' => j + 1 ≤ us.length ∧ ∃ (s8 : St1) (acc2 : List V) (dn2 : List D), Gro I K L s1 H1 (.lst acc2) s8 H' ∧ VLe (Hr I s5 H5) (Hr I s8 H') ∧ RpL K (Hr I s8 H') (dn ++ dn2) acc2 ∧ acc2.length ≤ acc.length + (j + 1) ∧
                  (goC gg1 (wipeE en vs1) gt1 ge (us.drop (j + 1)) s8.t).Post (fun zs t => (goC2 gg (wipeE env vs) gt gs1 gg1 vs1 gt1 ge (xs.drop (i + 1)) t).Post (fun ys t => Pr (dn ++ (dn2 ++ zs) ++ ys) t) (XP I K W s σ H)) (XP I K W s σ H), fun H' q => ⟨us.length - (j + 1), by omega, rfl, q⟩, fun v2 H7 y => ?_⟩
                obtain ⟨z1, z3⟩ := yl1 v2 H7 y
                subst z1
                rw [drop_get hu] at h8
                unfold goC at h8
                obtain ⟨en1, f6, h8⟩ := post_ofO (R.post_bind h8)
                have rw2 := re_wipe (re5.same sm8) vs1
                refine hs1 v2 (wipe σ2 vs1) H7 _ _ (fun σ3 H2 w2 q => ⟨w2.trans (wipe_wipe σ2 vs1), q⟩) (hg1 (wipeE en vs1) s8 (wipe σ2 vs1) H7 u v2 en1 _ gr8.ok rw2 z3 f6 fun σ3 re3 => ?_)
                refine ⟨en1, s8, gr8.ok, re3, (nox_post h8).mono (fun b t hb s9 H8 e9 p8 => ?_) fun _ _ f => f.elim⟩
                subst e9
                have gr9 := gr8.step p8 hL zL
                cases b with
                | false =>
                  rw [if_neg Bool.false_ne_true] at hb ⊢
                  exact ⟨hlt2, s9, acc2, dn2, gr9, sm8.trans p8.same, rpl_same p8.same ra8, by omega, hb⟩
                | true =>
                  rw [if_pos rfl] at hb ⊢
                  refine ⟨en1, s9, p8.ok, re3.same p8.same, (nox_post hb).mono (fun yd t hy yv s10 H10 e10 p10 r10 => ?_) fun _ _ f => f.elim⟩
                  subst e10
                  have gr10 := gr9.step p10 hL zL
                  refine ⟨acc2, gr10.at_, Nat.lt_of_le_of_lt (show acc2.length ≤ 1001000 by have : i * 1000 ≤ 1000 * 1000 := Nat.mul_le_mul_right 1000 (by omega); omega) (by decide), hlt2, s10.zz (upd s1.Z L (.lst (acc2 ++ [yv]))), acc2 ++ [yv], dn2 ++ [yd], gr10.put hL zL (ldl _), sm8.trans (p8.same.trans (p10.same.trans gr10.psm)), ?_, by rw [List.length_append]; show acc2.length + 1 ≤ _; omega, ?_⟩
                  · rw [← List.append_assoc]
                    exact rpl_app (rpl_same (p8.same.trans (p10.same.trans gr10.psm)) ra8) (.cons (rp_same gr10.psm r10) .nil)
                  · refine (R.post_bind hy).mono (fun zs t q => ?_) fun _ _ q => q
                    have e : dn2 ++ [yd] ++ zs = dn2 ++ (yd :: zs) := by rw [List.append_assoc]; rfl
                    rw [e]
                    exact q
              · left
                have ej : j = us.length := by omega
                subst ej
                refine ⟨wkj none (by show some us[us.length]? = _; rw [List.getElem?_eq_none (Nat.le_refl _)]), hlt, s8, acc2, dn ++ dn2, gr8, ra8, by omega, ?_⟩
                rw [List.drop_of_length_le (Nat.le_refl _)] at h8
                have h8 : (goC2 gg (wipeE env vs) gt gs1 gg1 vs1 gt1 ge (xs.drop (i + 1)) s8.t).Post (fun ys t => Pr (dn ++ (dn2 ++ []) ++ ys) t) (XP I K W s σ H) := h8
                rw [List.append_nil] at h8
                exact h8
            · rw [if_neg cu] at hi; exact hi.elim
      · left
        have ei : i = xs.length := by omega
        subst ei
        refine ⟨wki none (by show some xs[xs.length]? = _; rw [List.getElem?_eq_none (Nat.le_refl _)]), ?_⟩
        rw [List.drop_of_length_le (Nat.le_refl _)] at h3
        have h3 : Pr (dn ++ []) s3.t := h3
        rw [List.append_nil, hPr] at h3
        obtain ⟨⟨c1, c2⟩, hp⟩ := post_ite h3
        obtain ⟨e1, e2⟩ := gro_alloc (k := .lst) zL gr hL rfl gr.at_ ra c1
        exact hp (.ref L) _ H2 rfl (p1.trans e1) e2
    · rw [if_neg c] at h; exact h.elim
theorem ds_setAlLc2 {y : Str} {py spos : Pos} {elt tg iter tg1 iter1 : Expr} {ifs ifs1 : List Expr} {scope : Scope} (own : List (Str × Nat)) (vs1 : List Nat) {gs gs1 : Sm Itb} {gg gg1 : D → Env → Option Env} {gt gt1 : Sm Bool} {ge : Sm D} (Wf : Fm P w K mg base k N F) (i : Nat)
    (ok : ∀ i, BlkOk (F i).N (F i).env.scope scope own) (hv : ∀ i ∈ vs1, i ∈ own.map (·.2)) (hi : DI I K W F tg iter gs) (hg : DGv I K (blkF scope F) (own.map (·.2)) tg gg) (ht : DTs I K WF (blkF scope F) ifs gt)
    (hi1 : DI I K WF (blkF scope F) tg1 iter1 gs1) (hg1 : DGv I K (blkF scope F) vs1 tg1 gg1) (ht1 : DTs I K WF (blkF scope F) ifs1 gt1) (he : DE I K WF (blkF scope F) elt ge)
    (hsw : ∀ j, swapsWith (.ListComp elt [⟨tg, iter, ifs, 0⟩, ⟨tg1, iter1, ifs1, 0⟩] scope pos) (some (.Name y py)) spos.line (F j).env = pure true) (hy : ∀ j, (F j).N[i]? = some y := by exact fun _ => rfl) (hyl : ∀ j, (F j).env.scope.names.lookup y = some .local := by exact fun _ => rfl)
    (hs : ∀ i x, foldedSetIterable iter (F i).env x = pure x := by exact fun _ _ => rfl) (hs1 : ∀ env x, foldedSetIterable iter1 env x = pure x := by exact fun _ _ => rfl) :
    DS I K W F (.Assign [.Name y py] (.ListComp elt [⟨tg, iter, ifs, 0⟩, ⟨tg1, iter1, ifs1, 0⟩] scope pos) spos) (sAsg (gN i) (sAlL (sLc2 gg (own.map (·.2)) gs gt gs1 gg1 vs1 gt1 ge))) := by
  obtain ⟨g, g1, g2, g3⟩ := hg
  obtain ⟨gq, q1, q2, q3⟩ := hg1
  exact fun j => (ps_setLc2 (Wf.calm j) (by rw [Wf.N j]; exact Wf.nd) (hy j) (hyl j) (hsw j) (hi j) (ok j) hv (fun s H C cl fp => g1 (j, s, H, C, cl, fp)) (fun s H C cl fp => ht (j, s, H, C, cl, fp)) (fun s H C cl fp => hi1 (j, s, H, C, cl, fp))
    (fun s H C cl fp => q1 (j, s, H, C, cl, fp)) (fun s H C cl fp => ht1 (j, s, H, C, cl, fp)) (fun s H C cl fp => he (j, s, H, C, cl, fp)) (hs j) hs1).imp (tgs_asg (tg_alLc2 g2 g3 q2 q3) (evg_name i))
end
end Dl
set_option maxRecDepth 100000
set_option maxHeartbeats 4000000
/-! evaluation of plain functions -/
namespace Dl
open PySem L2
theorem bind_ite {α β : Type} (c : Prop) [Decidable c] (x y : Option α) (f : α → Option β) : (if c then x else y).bind f = if c then x.bind f else y.bind f := by by_cases h : c <;> simp [h]
theorem map_ite {α β : Type} (c : Prop) [Decidable c] (x y : Option α) (f : α → β) : (if c then x else y).map f = if c then x.map f else y.map f := by by_cases h : c <;> simp [h]
theorem retO_ite (c : Prop) [Decidable c] (x y : Option Out) : retO (if c then x else y) = if c then retO x else retO y := by by_cases h : c <;> simp [h]
theorem retO_rt (d : D) : retO (some (.rt d)) = some d := rfl
theorem retO_nx (e : Dl.Env) : retO (some (.nx e)) = some (.d .none) := rfl
theorem retO_no : retO none = none := rfl
theorem isB_b (b : Bool) : isB (.d (.bool b)) = some b := rfl
theorem pMk_of {f : List D → Option D} {a : Pm (List D)} {env : Env} {l : List D} (h : a env = some l) : pMk f a env = f l := by
  unfold pMk
  rw [h]
  rfl
theorem pRg_of {f : List D → Option (List D)} {a : Pm (List D)} {env : Env} {l : List D} (h : a env = some l) : pRg f a env = f l := by
  unfold pRg
  rw [h]
  rfl
theorem pOp_of {f : D → D → Option D} {a b : Pm D} {env : Env} {x y : D} (h : a env = some x) (h' : b env = some y) : pOp f a b env = f x y := by
  unfold pOp
  rw [h, h']
  rfl
theorem pIt_of {a : Pm D} {env : Env} {x : D} (h : a env = some x) : pIt a env = itL x := by
  unfold pIt
  rw [h]
  rfl
theorem pRet_of {a : Pm D} {env : Env} {x : D} (h : a env = some x) : pRet a env = some (.rt x) := by
  unfold pRet
  rw [h]
  rfl
theorem pB_of {a : Pm D} {env : Env} {b : Bool} (h : a env = some (.d (.bool b))) : pB a env = some b := by
  unfold pB
  rw [h]
  rfl
theorem pNot_of {a : Pm Bool} {env : Env} {b : Bool} (h : a env = some b) : pNot a env = some (!b) := by
  unfold pNot
  rw [h]
  rfl
theorem pCons_of {a : Pm D} {r : Pm (List D)} {env : Env} {x : D} {l : List D} (h : a env = some x) (h' : r env = some l) : pCons a r env = some (x :: l) := by
  unfold pCons
  rw [h, h']
  rfl
theorem pAp_of {f : D → Option D} {a : Pm D} {env : Env} {x : D} (h : a env = some x) : pAp f a env = f x := by
  unfold pAp
  rw [h]
  rfl
theorem pAnd_of {a b : Pm Bool} {env : Env} {x : Bool} (h : a env = some x) : pAnd a b env = if x = true then b env else some false := by
  unfold pAnd
  rw [h]
  rfl
theorem pOr_of {a b : Pm Bool} {env : Env} {x : Bool} (h : a env = some x) : pOr a b env = if x = true then some true else b env := by
  unfold pOr
  rw [h]
  rfl
theorem pAndV_of {a b : Pm D} {env : Env} {x : Bool} (h : a env = some (.d (.bool x))) : pAndV a b env = if x = true then b env else some (.d (.bool false)) := by
  unfold pAndV
  rw [h]
  rfl
theorem pAsg_of {g : D → Env → Option Env} {a : Pm D} {env e1 : Env} {x : D} (h : a env = some x) (h' : g x env = some e1) : pAsg g a env = some (.nx e1) := by
  unfold pAsg
  rw [h]
  show (g x env).map _ = _
  rw [h']
  rfl
theorem pIf_t {α : Type} {c : Pm Bool} {a b : Pm α} {env : Env} (h : c env = some true) : pIf c a b env = a env := by
  unfold pIf
  rw [h]
  rfl
theorem pIf_f {α : Type} {c : Pm Bool} {a b : Pm α} {env : Env} (h : c env = some false) : pIf c a b env = b env := by
  unfold pIf
  rw [h]
  rfl
theorem pSeq_nx {a b : Pm Out} {env e1 : Env} (h : a env = some (.nx e1)) : pSeq a b env = b e1 := by
  unfold pSeq
  rw [h]
  rfl
theorem pSeq_rt {a b : Pm Out} {env : Env} {d : D} (h : a env = some (.rt d)) : pSeq a b env = some (.rt d) := by
  unfold pSeq
  rw [h]
  rfl
/-! the same over the trees -/
theorem l_of {α : Type} {g : Pm α} {env : Env} {t : Ts} {x : α} (h : g env = some x) : lift g env t = .ok x t := by
  unfold lift
  rw [h]
  rfl
theorem sAsg_of {g : D → Env → Option Env} {a : Sm D} {env e1 : Env} {s s1 : Ts} {x : D} (h : a env s = .ok x s1) (h' : g x env = some e1) : sAsg g a env s = .ok (.nx e1) s1 := by
  unfold sAsg
  rw [h]
  show (ofO (g x env) s1).bind _ = _
  rw [h']
  rfl
theorem sSeq_nx {a b : Sm Out} {env e1 : Env} {s s1 : Ts} (h : a env s = .ok (.nx e1) s1) : sSeq a b env s = b e1 s1 := by
  unfold sSeq
  rw [h]
  rfl
theorem sSeq_rt {a b : Sm Out} {env : Env} {s s1 : Ts} {d : D} (h : a env s = .ok (.rt d) s1) : sSeq a b env s = .ok (.rt d) s1 := by
  unfold sSeq
  rw [h]
  rfl
theorem sSeq_ex {a b : Sm Out} {env : Env} {s s1 : Ts} {x : Exn} (h : a env s = .ex x s1) : sSeq a b env s = .ex x s1 := by
  unfold sSeq
  rw [h]
  rfl
theorem sIf_t {α : Type} {c : Sm Bool} {a b : Sm α} {env : Env} {s s1 : Ts} (h : c env s = .ok true s1) : sIf c a b env s = a env s1 := by
  unfold sIf
  rw [h]
  rfl
theorem sIf_f {α : Type} {c : Sm Bool} {a b : Sm α} {env : Env} {s s1 : Ts} (h : c env s = .ok false s1) : sIf c a b env s = b env s1 := by
  unfold sIf
  rw [h]
  rfl
theorem sMk_of {f : List D → Option D} {a : Sm (List D)} {env : Env} {s s1 : Ts} {l : List D} {x : D} (h : a env s = .ok l s1) (h' : f l = some x) : sMk f a env s = .ok x s1 := by
  unfold sMk
  rw [h]
  show ofO (f l) s1 = _
  rw [h']
  rfl
theorem sCons_of {a : Sm D} {r : Sm (List D)} {env : Env} {s s1 s2 : Ts} {x : D} {l : List D} (h : a env s = .ok x s1) (h' : r env s1 = .ok l s2) : sCons a r env s = .ok (x :: l) s2 := by
  unfold sCons
  rw [h]
  show (r env s1).bind _ = _
  rw [h']
  rfl
theorem sCall_of {m : List D → Ts → R D} {a : Sm (List D)} {env : Env} {s s1 : Ts} {l : List D} (h : a env s = .ok l s1) : sCall m a env s = m l s1 := by
  unfold sCall
  rw [h]
  rfl
theorem sOp_of {f : D → D → Option D} {a b : Sm D} {env : Env} {s s1 s2 : Ts} {x y z : D} (h : a env s = .ok x s1) (h' : b env s1 = .ok y s2) (h2 : f x y = some z) : sOp f a b env s = .ok z s2 := by
  unfold sOp
  rw [h]
  show (b env s1).bind _ = _
  rw [h']
  show ofO (f x y) s2 = _
  rw [h2]
  rfl
theorem sB_of {a : Sm D} {env : Env} {s s1 : Ts} {b : Bool} (h : a env s = .ok (.d (.bool b)) s1) : sB a env s = .ok b s1 := by
  unfold sB
  rw [h]; first | done | rfl
theorem sNot_of {a : Sm Bool} {env : Env} {s s1 : Ts} {b : Bool} (h : a env s = .ok b s1) : sNot a env s = .ok (!b) s1 := by
  unfold sNot
  rw [h]; first | done | rfl
theorem sOr_f {a b : Sm Bool} {env : Env} {s s1 : Ts} (h : a env s = .ok false s1) : sOr a b env s = b env s1 := by
  unfold sOr
  rw [h]
  rfl
theorem sAnd_f {a b : Sm Bool} {env : Env} {s s1 : Ts} (h : a env s = .ok false s1) : sAnd a b env s = .ok false s1 := by
  unfold sAnd
  rw [h]
  rfl
theorem sAnd_t {a b : Sm Bool} {env : Env} {s s1 : Ts} (h : a env s = .ok true s1) : sAnd a b env s = b env s1 := by
  unfold sAnd
  rw [h]
  rfl
theorem sRet_of {a : Sm D} {env : Env} {s s1 : Ts} {x : D} (h : a env s = .ok x s1) : sRet a env s = .ok (.rt x) s1 := by
  unfold sRet
  rw [h]; first | done | rfl
theorem sExp_of {a : Sm D} {env : Env} {s s1 : Ts} {x : D} (h : a env s = .ok x s1) : sExp a env s = .ok (.nx env) s1 := by
  unfold sExp
  rw [h]; first | done | rfl
theorem sExp_ex {a : Sm D} {env : Env} {s s1 : Ts} {x : Exn} (h : a env s = .ex x s1) : sExp a env s = .ex x s1 := by
  unfold sExp
  rw [h]; first | done | rfl
theorem sRaise1_of {c n : Str} {a : Sm D} {env : Env} {s s1 : Ts} {y : PyData} (h : a env s = .ok (.d y) s1) : sRaise1 c n a env s = .ex ⟨c, some (n, y)⟩ s1 := by
  unfold sRaise1
  rw [h]
  rfl
theorem sh_int (i : Int) : SeqAt.shaped (.int i) = true := by simp [SeqAt.shaped, PyData.canLay0, PyData.depth]
theorem ne_self {i : Int} (h : SeqAt.shaped (.int i) = true) : fNe (.d (.int i)) (.d (.int i)) = some (.d (.bool false)) := by simp [fNe, h, PyData.eqv]
theorem fEq_nil {a b : Pm D} {env : Env} (h : a env = some (.d (.list []))) (h' : b env = some (.d (.list []))) : pOp fEq a b env = some (.d (.bool true)) := by
  unfold pOp
  rw [h, h']
  kernel_rfl
theorem goP_fm {α : Type} (enc : α → D) {g : D → Env → Option Env} {env : Env} {tt : Pm Bool} {el : Pm D} (t : α → Bool) (h : α → D) : ∀ (xs : List α), (∀ x ∈ xs, ∃ e1, g (enc x) env = some e1 ∧ tt e1 = some (t x) ∧ (t x = true → el e1 = some (h x))) →
    goP g env tt el (xs.map enc) = some ((xs.filter t).map h)
  | [], _ => rfl
  | x :: r, H => by
    obtain ⟨e1, h1, h2, h3⟩ := H x List.mem_cons_self
    have ih := goP_fm enc t h r fun y hy => H y (List.mem_cons_of_mem _ hy)
    show (g (enc x) env).bind (fun e1 => (tt e1).bind fun p => if p = true then (el e1).bind fun q => (goP g env tt el (r.map enc)).map fun z => q :: z else goP g env tt el (r.map enc)) = _
    rw [h1]
    simp only [Option.bind_some]
    rw [h2]
    simp only [Option.bind_some]
    cases hx : t x with
    | true =>
      rw [if_pos rfl, h3 hx, ih, List.filter_cons_of_pos hx]
      rfl
    | false =>
      rw [if_neg Bool.false_ne_true, ih, List.filter_cons_of_neg (by rw [hx]; exact Bool.false_ne_true)]
theorem pLc_of {g : D → Env → Option Env} {vs : List Nat} {src : Pm (List D)} {tt : Pm Bool} {el : Pm D} {env : Env} {xs ys : List D} (h1 : src env = some xs) (h2 : xs.length ≤ 100000) (h3 : goP g (wipeE env vs) tt el xs = some ys) : pLc g vs src tt el env = some ys := by
  unfold pLc
  rw [h1, Option.bind_some, if_pos h2, h3]
theorem pdL_map {α : Type} (f : α → PyData) : ∀ xs : List α, pdL (xs.map fun x => D.d (f x)) = some (xs.map f)
  | [] => rfl
  | x :: r => by
    show (pdL (r.map fun x => D.d (f x))).map (f x :: ·) = _
    rw [pdL_map f r]
    rfl
theorem mLst_map {α : Type} (f : α → PyData) (xs : List α) (h : xs.length ≤ 100000) : mLst (xs.map fun x => D.d (f x)) = some (.d (.list (xs.map f))) := by
  unfold mLst
  rw [if_pos (by rw [List.length_map]; exact h), pdL_map]
theorem mTup_map {α : Type} (f : α → PyData) (xs : List α) (h : xs.length ≤ 100000) : mTup (xs.map fun x => D.d (f x)) = some (.d (.tuple (xs.map f))) := by
  unfold mTup
  rw [if_pos (by rw [List.length_map]; exact h), pdL_map]
theorem bools_map {α : Type} (f : α → Bool) : ∀ xs : List α, bools (xs.map fun x => .bool (f x)) = some (xs.map f)
  | [] => rfl
  | x :: r => by
    show (bools (r.map fun x => .bool (f x))).map (f x :: ·) = _
    rw [bools_map f r]
    rfl
/-- a loop that returns at the first x with t -/
theorem goFP_find {α : Type} (enc : α → D) {g : D → Env → Option Env} {body : Pm Out} (t : α → Bool) (r : D) (Iv : Env → Prop) : ∀ (xs : List α) (env : Env), Iv env →
    (∀ x ∈ xs, ∀ env, Iv env → ∃ e1, g (enc x) env = some e1 ∧ if t x = true then body e1 = some (.rt r) else ∃ e2, body e1 = some (.nx e2) ∧ Iv e2) →
    if xs.any t = true then goFP g body (xs.map enc) env = some (.rt r) else ∃ e2, goFP g body (xs.map enc) env = some (.nx e2) ∧ Iv e2
  | [], env, hI, _ => ⟨env, rfl, hI⟩
  | x :: xs, env, hI, H => by
    obtain ⟨e1, h1, h2⟩ := H x List.mem_cons_self env hI
    have e0 : goFP g body ((x :: xs).map enc) env = (body e1).bind fun p => match p with
      | .nx e2 => goFP g body (xs.map enc) e2
      | .ct e2 => goFP g body (xs.map enc) e2
      | .bk e2 => some (.nx e2)
      | .rt d => some (.rt d) := by
      show (g (enc x) env).bind _ = _
      rw [h1]
      rfl
    rw [e0, List.any_cons]
    cases hx : t x with
    | true =>
      rw [hx, if_pos rfl] at h2
      rw [Bool.true_or, if_pos rfl, h2]
      rfl
    | false =>
      rw [hx, if_neg Bool.false_ne_true] at h2
      obtain ⟨e2, h3, h4⟩ := h2
      rw [Bool.false_or, h3]
      exact goFP_find enc t r Iv xs e2 h4 fun y hy => H y (List.mem_cons_of_mem _ hy)
/-! data that is small and of the four kinds -/
mutual
def okA : PyData → Bool
  | .none | .bool _ | .int _ => true
  | .str x => SeqAt.shaped (.str x)
  | .list xs | .tuple xs => decide (xs.length ≤ 100000) && okAs xs
  | .dict _ => false
def okAs : List PyData → Bool
  | [] => true
  | x :: r => okA x && okAs r
end
theorem okAs_mem : ∀ {xs : List PyData} {x : PyData}, okAs xs = true → x ∈ xs → okA x = true
  | y :: r, x, h, hx => by
    have h' : (okA y && okAs r) = true := h
    rw [Bool.and_eq_true] at h'
    rcases List.mem_cons.mp hx with e | hx
    · rw [e]; exact h'.1
    · exact okAs_mem h'.2 hx
mutual
def dpt : PyData → Nat
  | .list xs | .tuple xs => dpts xs + 1
  | _ => 0
def dpts : List PyData → Nat
  | [] => 0
  | x :: r => max (dpt x) (dpts r)
end
theorem dpts_mem : ∀ {xs : List PyData} {x : PyData}, x ∈ xs → dpt x ≤ dpts xs
  | y :: r, x, hx => by
    show dpt x ≤ max (dpt y) (dpts r)
    rcases List.mem_cons.mp hx with e | hx
    · rw [e]; exact Nat.le_max_left _ _
    · exact Nat.le_trans (dpts_mem hx) (Nat.le_max_right _ _)
theorem at_nat {xs : List PyData} {k : Nat} : atI xs (k : Int) = xs[k]? := by
  by_cases c : k < xs.length
  · unfold atI ixN
    rw [if_pos (by omega), if_pos (by omega)]
    simp
  · unfold atI ixN
    rw [if_pos (by omega), if_neg (by omega), List.getElem?_eq_none (by omega)]
    rfl
theorem mR1_nat (n : Nat) (h : n ≤ 100000) : mR1 [.d (.int n)] = some ((List.range n).map fun k => D.d (.int (k : Nat))) := by
  simp only [mR1]
  rw [if_pos (by omega)]
  unfold rgL
  rw [Int.toNat_natCast]
  congr 1
  refine List.map_congr_left fun k _ => ?_
  rw [Int.zero_add]
theorem isi_int (i : Int) : cIsi [.d (.int i), .o (.ty "int")] = some (.d (.bool true)) := rfl
end Dl
set_option maxRecDepth 100000
set_option maxHeartbeats 4000000
/-! one step of an evaluation, as rules -/
namespace Dl
open PySem L2
section
variable {α β : Type} {env e1 e2 e3 e0 : Env} {t t1 t2 t3 : Ts} {x y z : D} {v u : Bool} {l l2 : List D}
theorem pv_inv {i : Nat} (h : pV i env = some x) : env[i]? = some (some x) := by
  unfold pV at h
  split at h
  · cases h; assumption
  · cases h
section
variable {a b c : Pm D} {f f2 : D → D → Option D} {o k o1 o2 : Pm Out} {p q : Pm Bool} {as : Pm (List D)} {po : Option Out} {pb : Option Bool} {pd : Option D}
theorem p_op (h0 : a env = some x) (h1 : b env = some y) (h2 : f x y = some z) : pOp f a b env = some z := (pOp_of h0 h1).trans h2
theorem p_mk {f1 : List D → Option D} (h0 : as env = some l) (h1 : f1 l = some z) : pMk f1 as env = some z := (pMk_of h0).trans h1
theorem p_nil  : pNil env = some [] := rfl
theorem p_cons (h0 : a env = some x) (h1 : as env = some l) : pCons a as env = some (x :: l) := pCons_of h0 h1
theorem p_b (h0 : a env = some (.d (.bool v))) : pB a env = some v := pB_of h0
theorem p_not (h0 : p env = some v) : pNot p env = some (!v) := pNot_of h0
theorem p_and (h0 : p env = some v) (h1 : (if v = true then q env else some false) = pb) : pAnd p q env = pb := (pAnd_of h0).trans h1
theorem p_or (h0 : p env = some v) (h1 : (if v = true then some true else q env) = pb) : pOr p q env = pb := (pOr_of h0).trans h1
theorem p_andV (h0 : a env = some (.d (.bool v))) (h1 : (if v = true then b env else some (.d (.bool false))) = pd) : pAndV a b env = pd := by
  refine Eq.trans ?_ h1
  unfold pAndV
  rw [h0]
  rfl
theorem p_orV (h0 : a env = some (.d (.bool v))) (h1 : (if v = true then some (.d (.bool true)) else b env) = pd) : pOrV a b env = pd := by
  refine Eq.trans ?_ h1
  unfold pOrV
  rw [h0]
  rfl
theorem p_notV (h0 : a env = some (.d (.bool v))) : pNotV a env = some (.d (.bool (!v))) := by
  unfold pNotV
  rw [h0]
  rfl
theorem p_ap {f1 : D → Option D} (h0 : a env = some x) (h1 : f1 x = some z) : pAp f1 a env = some z := (pAp_of h0).trans h1
theorem p_sl {f3 : D → Option Int → Option Int → Option D} {lo hi : Pm (Option Int)} {i j : Option Int} (h0 : a env = some x) (h1 : lo env = some i) (h2 : hi env = some j) (h3 : f3 x i j = some z) : pSl f3 a lo hi env = some z := by
  unfold pSl
  rw [h0, Option.bind_some, h1, Option.bind_some, h2, Option.bind_some]
  exact h3
theorem p_part {i : Int} (h0 : a env = some (.d (.int i))) : pPart a env = some (some i) := by
  unfold pPart
  rw [h0]
  rfl
theorem p_m1 {s : Str} (h0 : a env = some (.d (.str s))) (h1 : b env = some y) (h2 : f (.d (.str s)) y = some z) : pM1 f a b env = some z := by
  unfold pM1
  rw [h0, Option.bind_some, if_pos (by rfl), h1, Option.bind_some]
  exact h2
theorem p_ch (h0 : a env = some x) (h1 : b env = some y) (h2 : f x y = some (.d (.bool v))) (h3 : (if v = true then (c env).bind fun z => f2 y z else some (.d (.bool false))) = pd) : pCh f f2 a b c env = pd := by
  refine Eq.trans ?_ h3
  unfold pCh
  rw [h0, Option.bind_some, h1, Option.bind_some, h2]
  rfl
theorem p_bind (h0 : a env = some z) (h1 : f2 y z = pd) : ((a env).bind fun z => f2 y z) = pd := by
  rw [h0]
  exact h1
end
section
variable {p q : Pm Bool} {a b : Pm α} {r : Option α}
theorem p_if_not (h0 : pIf p b a env = r) : pIf (pNot p) a b env = r := by
  refine Eq.trans ?_ h0
  unfold pIf pNot
  cases p env with
  | none => rfl
  | some w => cases w <;> rfl
theorem p_if_and (h0 : p env = some v) (h1 : (if v = true then pIf q a b env else b env) = r) : pIf (pAnd p q) a b env = r := by
  refine Eq.trans ?_ h1
  unfold pIf pAnd
  rw [h0]
  cases v <;> rfl
theorem p_if_or (h0 : p env = some v) (h1 : (if v = true then a env else pIf q a b env) = r) : pIf (pOr p q) a b env = r := by
  refine Eq.trans ?_ h1
  unfold pIf pOr
  rw [h0]
  cases v <;> rfl
theorem p_if (h0 : p env = some v) (h1 : (if v = true then a env else b env) = r) : pIf p a b env = r := by
  refine Eq.trans ?_ h1
  unfold pIf
  rw [h0]
  rfl
end
section
variable {a b c : Pm D} {f f2 : D → D → Option D} {o k o1 o2 : Pm Out} {p q : Pm Bool} {as : Pm (List D)} {po : Option Out} {pb : Option Bool} {pd : Option D}
theorem p_s_seq (h0 : pSeq o (pSeq o1 k) env = po) : pSeq (pSeq o o1) k env = po := by
  refine Eq.trans ?_ h0
  unfold pSeq
  cases o env with
  | none => rfl
  | some w => cases w <;> rfl
theorem p_s_if (h0 : pIf p (pSeq o k) (pSeq o1 k) env = po) : pSeq (pIf p o o1) k env = po := by
  refine Eq.trans ?_ h0
  unfold pSeq pIf
  cases p env with
  | none => rfl
  | some w => cases w <;> rfl
theorem p_s_nx (h0 : k env = po) : pSeq pNx k env = po := h0
theorem p_s_ret (h0 : a env = some x) : pSeq (pRet a) k env = some (.rt x) := pSeq_rt (pRet_of h0)
theorem p_s_asg {g : D → Env → Option Env} (h0 : a env = some x) (h1 : g x env = some e1) (h2 : k e1 = po) : pSeq (pAsg g a) k env = po := (pSeq_nx (pAsg_of h0 h1)).trans h2
theorem p_s_par2 {i j : Nat} (h0 : as env = some [x, y]) (h1 : env.set i (some x) = e1) (h2 : e1.set j (some y) = e2) (h3 : k e2 = po) : pSeq (pPar2 i j as) k env = po := by
  subst h1 h2
  refine Eq.trans ?_ h3
  unfold pSeq pPar2
  rw [h0]
  rfl
theorem p_s_par3 {i j n : Nat} (h0 : as env = some [x, y, z]) (h1 : env.set i (some x) = e1) (h2 : e1.set j (some y) = e2) (h3 : e2.set n (some z) = e3) (h4 : k e3 = po) : pSeq (pPar3 i j n as) k env = po := by
  subst h1 h2 h3
  refine Eq.trans ?_ h4
  unfold pSeq pPar3
  rw [h0]
  rfl
theorem p_s_aug {i : Nat} {m n : Int} (h0 : pV i env = some (.d (.int m))) (h1 : a env = some (.d (.int n))) (h2 : env.set i (some (.d (.int (m + n)))) = e1) (h3 : k e1 = po) : pSeq (pAug i a) k env = po := by
  subst h2
  refine Eq.trans ?_ h3
  unfold pSeq pAug
  rw [h0]
  simp only [Option.bind_some]
  rw [h1]
  rfl
theorem p_s_gen (h0 : o env = some (.nx e1)) (h1 : k e1 = po) : pSeq o k env = po := (pSeq_nx h0).trans h1
theorem p_ret (h0 : a env = some x) : pRet a env = some (.rt x) := pRet_of h0
theorem p_asg {g : D → Env → Option Env} (h0 : a env = some x) (h1 : g x env = some e1) : pAsg g a env = some (.nx e1) := pAsg_of h0 h1
theorem p_nx  : pNx env = some (.nx env) := rfl
end
theorem p_lc {g : D → Env → Option Env} {vs : List Nat} {src : Pm (List D)} {tt : Pm Bool} {el : Pm D} (h0 : src env = some l) (h1 : l.length ≤ 100000) (h2 : wipeE env vs = e0) (h3 : goP g e0 tt el l = some l2) : pLc g vs src tt el env = some l2 := by subst h2; exact pLc_of h0 h1 h3
theorem p_it {a : Pm D} (h0 : a env = some x) (h1 : itL x = some l) : pIt a env = some l := (pIt_of h0).trans h1
theorem p_rg {f : List D → Option (List D)} {as : Pm (List D)} (h0 : as env = some l) (h1 : f l = some l2) : pRg f as env = some l2 := (pRg_of h0).trans h1
section
variable {a b c d : Sm D} {f : D → D → Option D} {o k : Sm Out} {p q : Sm Bool} {as : Sm (List D)}
theorem s_op (h0 : a env t = .ok x t1) (h1 : b env t1 = .ok y t2) (h2 : f x y = some z) : sOp f a b env t = .ok z t2 := sOp_of h0 h1 h2
theorem s_opT {ty : D → Bool} (h0 : a env t = .ok x t1) (h1 : ty x = true) (h2 : b env t1 = .ok y t2) (h3 : f x y = some z) : sOpT ty f a b env t = .ok z t2 := by
  unfold sOpT
  rw [h0]
  show (if ty x = true then (b env t1).bind _ else .no) = _
  rw [if_pos h1, h2]
  show ofO (f x y) t2 = _
  rw [h3]
  rfl
theorem s_mk {f1 : List D → Option D} (h0 : as env t = .ok l t1) (h1 : f1 l = some z) : sMk f1 as env t = .ok z t1 := sMk_of h0 h1
theorem s_mkT {f1 : List D → Ts → Option D} (h0 : as env t = .ok l t1) (h1 : f1 l t1 = some z) : sMkT f1 as env t = .ok z t1 := by
  unfold sMkT
  rw [h0]
  show ofO (f1 l t1) t1 = _
  rw [h1]
  rfl
theorem s_nil  : sNil env t = .ok [] t := rfl
theorem s_cons (h0 : a env t = .ok x t1) (h1 : as env t1 = .ok l t2) : sCons a as env t = .ok (x :: l) t2 := sCons_of h0 h1
theorem s_b (h0 : a env t = .ok (.d (.bool v)) t1) : sB a env t = .ok v t1 := sB_of h0
theorem s_not (h0 : p env t = .ok v t1) : sNot p env t = .ok (!v) t1 := sNot_of h0
theorem s_and {rb : R Bool} (h0 : p env t = .ok v t1) (h1 : (if v = true then q env t1 else .ok false t1) = rb) : sAnd p q env t = rb := by
  refine Eq.trans ?_ h1
  unfold sAnd
  rw [h0]
  rfl
theorem s_or {rb : R Bool} (h0 : p env t = .ok v t1) (h1 : (if v = true then .ok true t1 else q env t1) = rb) : sOr p q env t = rb := by
  refine Eq.trans ?_ h1
  unfold sOr
  rw [h0]
  rfl
theorem s_andV {rd : R D} (h0 : a env t = .ok (.d (.bool v)) t1) (h1 : (if v = true then b env t1 else .ok (.d (.bool false)) t1) = rd) : sAndV a b env t = rd := by
  refine Eq.trans ?_ h1
  unfold sAndV
  rw [h0]
  cases v <;> rfl
theorem s_orV {rd : R D} (h0 : a env t = .ok (.d (.bool v)) t1) (h1 : (if v = true then .ok (.d (.bool true)) t1 else b env t1) = rd) : sOrV a b env t = rd := by
  refine Eq.trans ?_ h1
  unfold sOrV
  rw [h0]
  cases v <;> rfl
theorem s_notV (h0 : a env t = .ok (.d (.bool v)) t1) : sNotV a env t = .ok (.d (.bool (!v))) t1 := by
  unfold sNotV
  rw [h0]
  rfl
theorem s_ap {f1 : D → Option D} (h0 : a env t = .ok x t1) (h1 : f1 x = some z) : sAp f1 a env t = .ok z t1 := by
  unfold sAp
  rw [h0]
  show ofO (f1 x) t1 = _
  rw [h1]
  rfl
theorem s_ix (h0 : a env t = .ok x t1) (h1 : b env t1 = .ok y t2) (h2 : getX x y t2 = some z) : sIx a b env t = .ok z t2 := by
  unfold sIx
  rw [h0]
  show (b env t1).bind _ = _
  rw [h1]
  show ofO (getX x y t2) t2 = _
  rw [h2]
  rfl
theorem s_sl {f3 : D → Option Int → Option Int → Option D} {lo hi : Sm (Option Int)} {i j : Option Int} (h0 : a env t = .ok x t1) (h1 : lo env t1 = .ok i t2) (h2 : hi env t2 = .ok j t3) (h3 : f3 x i j = some z) : sSl f3 a lo hi env t = .ok z t3 := by
  unfold sSl
  rw [h0]
  show (lo env t1).bind _ = _
  rw [h1]
  show (hi env t2).bind _ = _
  rw [h2]
  show ofO (f3 x i j) t3 = _
  rw [h3]
  rfl
theorem s_slX {lo hi : Sm (Option Int)} {i j : Option Int} (h0 : a env t = .ok x t1) (h1 : lo env t1 = .ok i t2) (h2 : hi env t2 = .ok j t3) (h3 : slX x i j t3 = some z) : sSlX a lo hi env t = .ok z t3 := by
  unfold sSlX
  rw [h0]
  show (lo env t1).bind _ = _
  rw [h1]
  show (hi env t2).bind _ = _
  rw [h2]
  show ofO (slX x i j t3) t3 = _
  rw [h3]
  rfl
theorem s_part {i : Int} (h0 : a env t = .ok (.d (.int i)) t1) : sPart a env t = .ok (some i) t1 := by
  unfold sPart
  rw [h0]
  rfl
theorem s_m1 {s : Str} (h0 : a env t = .ok (.d (.str s)) t1) (h1 : b env t1 = .ok y t2) (h2 : f (.d (.str s)) y = some z) : sM1 f a b env t = .ok z t2 := by
  unfold sM1
  rw [h0]
  show (if isTx (.d (.str s)) = true then (b env t1).bind _ else .no) = _
  rw [if_pos (by rfl), h1]
  show ofO (f (.d (.str s)) y) t2 = _
  rw [h2]
  rfl
theorem s_ch {f2 : D → D → Option D} {rd : R D} (h0 : a env t = .ok x t1) (h1 : b env t1 = .ok y t2) (h2 : f x y = some (.d (.bool v))) (h3 : (if v = true then (c env t2).bind (fun z t => ofO (f2 y z) t) else .ok (.d (.bool false)) t2) = rd) : sCh f f2 a b c env t = rd := by
  refine Eq.trans ?_ h3
  unfold sCh
  rw [h0]
  show (b env t1).bind _ = _
  rw [h1]
  show (ofO ((f x y).bind isB) t2).bind _ = _
  rw [h2]
  cases v <;> rfl
theorem s_bind (h0 : c env t = .ok z t1) (h1 : f y z = some x) : ((c env t).bind fun z t => ofO (f y z) t) = .ok x t1 := by
  rw [h0]
  show ofO (f y z) t1 = _
  rw [h1]
  rfl
theorem s_call {m : List D → Ts → R D} {rd : R D} (h0 : as env t = .ok l t1) (h1 : m l t1 = rd) : sCall m as env t = rd := (sCall_of h0).trans h1
theorem s_meth1 {fm : D → D → Ts → Option Ts} (h0 : a env t = .ok x t1) (h1 : isAl x t1 = true) (h2 : b env t1 = .ok y t2) (h3 : fm x y t2 = some t3) : sMeth1 fm a b env t = .ok (.d .none) t3 := by
  unfold sMeth1
  rw [h0]
  show (if isAl x t1 = true then (b env t1).bind _ else .no) = _
  rw [if_pos h1, h2]
  show (ofO (fm x y t2) t2).bind _ = _
  rw [h3]
  rfl
theorem s_fld {cs : List Str} {fn : Str} (h0 : a env t = .ok x t1) (h1 : getF cs fn x t1 = some z) : sFld cs fn a env t = .ok z t1 := by
  unfold sFld
  rw [h0]
  show ofO (getF cs fn x t1) t1 = _
  rw [h1]
  rfl
theorem s_meth {c1 m1 : Str} {m : List D → Ts → R D} {rd : R D} (h0 : a env t = .ok x t1) (h1 : isInst c1 m1 x t1 = true) (h2 : as env t1 = .ok l t2) (h3 : m (x :: l) t2 = rd) : sMeth c1 m1 m a as env t = rd := by
  refine Eq.trans ?_ h3
  unfold sMeth
  rw [h0]
  show (if isInst c1 m1 x t1 = true then (as env t1).bind _ else .no) = _
  rw [if_pos h1, h2]
  rfl
theorem s_alL {rd : R D} (h0 : as env t = .ok l t1) (h1 : newLs l t1 = rd) : sAlL as env t = rd := by
  refine Eq.trans ?_ h1
  unfold sAlL
  rw [h0]
  rfl
theorem s_alC {rd : R D} (h0 : a env t = .ok x t1) (h1 : lsOf x t1 = some l) (h2 : newLs l t1 = rd) : sAlC a env t = rd := by
  refine Eq.trans ?_ h2
  unfold sAlC
  rw [h0]
  show (ofO (lsOf x t1) t1).bind newLs = _
  rw [h1]
  rfl
theorem s_alR {rd : R D} (h0 : a env t = .ok x t1) (h1 : b env t1 = .ok y t2) (h2 : repD x y = some l) (h3 : newLs l t2 = rd) : sAlR a b env t = rd := by
  refine Eq.trans ?_ h3
  unfold sAlR
  rw [h0]
  show (b env t1).bind _ = _
  rw [h1]
  show (ofO (repD x y) t2).bind newLs = _
  rw [h2]
  rfl
theorem s_dict {rd : R D} (h0 : a env t = .ok x t1) (h1 : newDc x t1 = rd) : sDict a env t = rd := by
  refine Eq.trans ?_ h1
  unfold sDict
  rw [h0]
  rfl
theorem s_frz {rd : R D} (h0 : a env t = .ok x t1) (h1 : frz x t1 = rd) : sFrz a env t = rd := by
  refine Eq.trans ?_ h1
  unfold sFrz
  rw [h0]
  rfl
theorem s_isx {ex : Str → Option Bool} (h0 : a env t = .ok x t1) (h1 : isX ex x = some z) : sIsX ex a env t = .ok z t1 := by
  unfold sIsX
  rw [h0]
  show ofO (isX ex x) t1 = _
  rw [h1]
  rfl
theorem s_xf {fn : Str} {cs : List Str} (h0 : a env t = .ok x t1) (h1 : fldX fn cs x = some z) : sXf fn cs a env t = .ok z t1 := by
  unfold sXf
  rw [h0]
  show ofO (fldX fn cs x) t1 = _
  rw [h1]
  rfl
theorem s_lam {n : Nat}  : sLam n env t = .ok (.cl n) t := rfl
theorem s_hi {n : Nat} {mh : Nat → (Ts → R D) → Ts → R D} {LL : Nat → Sm D} {rd : R D} (h0 : a env t = .ok (.cl n) t1) (h1 : mh n (LL n env) t1 = rd) : sHi mh LL a env t = rd := by
  refine Eq.trans ?_ h1
  unfold sHi
  rw [h0]
  rfl
end
section
variable {p q : Sm Bool} {a b : Sm α} {r : R α} {pp qq : Pm Bool} {pa pb : Pm α}
theorem s_if_not (h0 : sIf p b a env t = r) : sIf (sNot p) a b env t = r := by
  refine Eq.trans ?_ h0
  unfold sIf sNot
  cases p env t with
  | no => rfl
  | ex _ _ => rfl
  | ok w _ => cases w <;> rfl
theorem s_if_and (h0 : p env t = .ok v t1) (h1 : (if v = true then sIf q a b env t1 else b env t1) = r) : sIf (sAnd p q) a b env t = r := by
  refine Eq.trans ?_ h1
  unfold sIf sAnd
  rw [h0]
  cases v <;> rfl
theorem s_if_or (h0 : p env t = .ok v t1) (h1 : (if v = true then a env t1 else sIf q a b env t1) = r) : sIf (sOr p q) a b env t = r := by
  refine Eq.trans ?_ h1
  unfold sIf sOr
  rw [h0]
  cases v <;> rfl
theorem s_if_lnot (h0 : sIf (lift pp) b a env t = r) : sIf (lift (pNot pp)) a b env t = r := (by rw [lift_not]; exact s_if_not h0)
theorem s_if_land (h0 : sIf (sAnd (lift pp) (lift qq)) a b env t = r) : sIf (lift (pAnd pp qq)) a b env t = r := (by rw [lift_and]; exact h0)
theorem s_if_lor (h0 : sIf (sOr (lift pp) (lift qq)) a b env t = r) : sIf (lift (pOr pp qq)) a b env t = r := (by rw [lift_or]; exact h0)
theorem s_if (h0 : p env t = .ok v t1) (h1 : (if v = true then a env t1 else b env t1) = r) : sIf p a b env t = r := by
  refine Eq.trans ?_ h1
  unfold sIf
  rw [h0]
  rfl
theorem s_lif (h0 : sIf (lift pp) (lift pa) (lift pb) env t = r) : lift (pIf pp pa pb) env t = r := (by rw [lift_if]; exact h0)
end
section
variable {a : Sm D} {o o1 k : Sm Out} {p : Sm Bool} {as : Sm (List D)} {po p1 : Pm Out} {pp : Pm Bool} {pa : Pm D} {pas : Pm (List D)} {r : R Out} {g : D → Env → Option Env}
theorem s_s_seq (h0 : sSeq o (sSeq o1 k) env t = r) : sSeq (sSeq o o1) k env t = r := by
  refine Eq.trans ?_ h0
  unfold sSeq
  cases o env t with
  | no => rfl
  | ex _ _ => rfl
  | ok w _ => cases w <;> rfl
theorem s_s_lseq (h0 : sSeq (lift po) (sSeq (lift p1) k) env t = r) : sSeq (lift (pSeq po p1)) k env t = r := (by rw [lift_seq]; exact s_s_seq h0)
theorem s_s_if (h0 : sIf p (sSeq o k) (sSeq o1 k) env t = r) : sSeq (sIf p o o1) k env t = r := by
  refine Eq.trans ?_ h0
  unfold sSeq sIf
  cases p env t with
  | no => rfl
  | ex _ _ => rfl
  | ok w _ => cases w <;> rfl
theorem s_s_lif (h0 : sIf (lift pp) (sSeq (lift po) k) (sSeq (lift p1) k) env t = r) : sSeq (lift (pIf pp po p1)) k env t = r := (by rw [lift_if]; exact s_s_if h0)
theorem s_s_nx (h0 : k env t = r) : sSeq sNx k env t = r := h0
theorem s_s_lnx (h0 : k env t = r) : sSeq (lift pNx) k env t = r := h0
theorem s_s_ret (h0 : a env t = .ok x t1) : sSeq (sRet a) k env t = .ok (.rt x) t1 := sSeq_rt (sRet_of h0)
theorem s_s_lret (h0 : pa env = some x) : sSeq (lift (pRet pa)) k env t = .ok (.rt x) t := sSeq_rt (l_of (pRet_of h0))
theorem s_s_asg (h0 : a env t = .ok x t1) (h1 : g x env = some e1) (h2 : k e1 t1 = r) : sSeq (sAsg g a) k env t = r := (sSeq_nx (sAsg_of h0 h1)).trans h2
theorem s_s_lasg (h0 : pa env = some x) (h1 : g x env = some e1) (h2 : k e1 t = r) : sSeq (lift (pAsg g pa)) k env t = r := (sSeq_nx (l_of (pAsg_of h0 h1))).trans h2
theorem s_s_asgS {gg : D → Env → Ts → R Env} (h0 : a env t = .ok x t1) (h1 : gg x env t1 = .ok e1 t2) (h2 : k e1 t2 = r) : sSeq (sAsgS gg a) k env t = r := by
  refine Eq.trans ?_ h2
  unfold sSeq sAsgS
  rw [h0]
  show (R.bind (R.bind (gg x env t1) _) _) = _
  rw [h1]
  rfl
theorem s_gsx {b : Sm D} {mv : Bool} (h0 : a env t = .ok x t1) (h1 : b env t1 = .ok y t2) (h2 : setX mv x y z t2 = some t3) : gSX mv a b z env t = .ok env t3 := by
  unfold gSX
  rw [h0]
  show (b env t1).bind _ = _
  rw [h1]
  show (ofO (setX mv x y z t2) t2).bind _ = _
  rw [h2]
  rfl
theorem s_gsf {mv : Bool} {cs : List Str} {fn : Str} (h0 : a env t = .ok x t1) (h1 : setF cs fn mv x z t1 = some t2) : gSF cs fn mv a z env t = .ok env t2 := by
  unfold gSF
  rw [h0]
  show (ofO (setF cs fn mv x z t1) t1).bind _ = _
  rw [h1]
  rfl
theorem s_gL (h0 : g x env = some e1) : gL g x env t = .ok e1 t := by
  unfold gL
  rw [h0]
  rfl
theorem s_s_fset {b : Sm D} {mv : Bool} {cs : List Str} {fn : Str} (h0 : a env t = .ok y t1) (h1 : b env t1 = .ok x t2) (h2 : setF cs fn mv x y t2 = some t3) (h3 : k env t3 = r) : sSeq (sFldSet cs fn mv b a) k env t = r := by
  refine Eq.trans ?_ h3
  unfold sSeq sFldSet
  rw [h0]
  show R.bind (R.bind (b env t1) _) _ = _
  rw [h1]
  show R.bind (R.bind (ofO (setF cs fn mv x y t2) t2) _) _ = _
  rw [h2]
  rfl
theorem s_s_fadd {i j : Int} {cs : List Str} {fn : Str} (h0 : a env t = .ok x t1) (h1 : getF cs fn x t1 = some (.d (.int i))) (h2 : setF cs fn false x (.d (.int (i + j))) t1 = some t2) (h3 : k env t2 = r) : sSeq (sFldAdd cs fn j a) k env t = r := by
  refine Eq.trans ?_ h3
  unfold sSeq sFldAdd
  rw [h0]
  show R.bind (R.bind (ofO ((getF cs fn x t1).bind _) t1) _) _ = _
  rw [h1]
  show R.bind (R.bind (ofO (setF cs fn false x (.d (.int (i + j))) t1) t1) _) _ = _
  rw [h2]
  rfl
theorem s_s_exp (h0 : a env t = .ok x t1) (h1 : k env t1 = r) : sSeq (sExp a) k env t = r := (sSeq_nx (sExp_of h0)).trans h1
theorem s_s_lexp (h0 : pa env = some x) (h1 : k env t = r) : sSeq (lift (pExp pa)) k env t = r := by
  refine Eq.trans ?_ h1
  unfold sSeq lift pExp
  rw [h0]
  rfl
theorem s_s_expex {ee : Exn} (h0 : a env t = .ex ee t1) : sSeq (sExp a) k env t = .ex ee t1 := sSeq_ex (sExp_ex h0)
theorem s_s_retex {ee : Exn} (h0 : a env t = .ex ee t1) : sSeq (sRet a) k env t = .ex ee t1 := by
  refine sSeq_ex ?_
  unfold sRet
  rw [h0]
  rfl
theorem s_s_asgex {ee : Exn} (h0 : a env t = .ex ee t1) : sSeq (sAsg g a) k env t = .ex ee t1 := by
  refine sSeq_ex ?_
  unfold sAsg
  rw [h0]
  rfl
theorem s_s_raise {ex : Str}  : sSeq (sRaise ex) k env t = .ex ⟨ex, none⟩ t := rfl
theorem s_s_raise1 {ex fn : Str} {pdx : PyData} (h0 : a env t = .ok (.d pdx) t1) : sSeq (sRaise1 ex fn a) k env t = .ex ⟨ex, some (fn, pdx)⟩ t1 := sSeq_ex (sRaise1_of h0)
theorem s_s_par2 {i j : Nat} (h0 : as env t = .ok [x, y] t1) (h1 : env.set i (some x) = e1) (h2 : e1.set j (some y) = e2) (h3 : k e2 t1 = r) : sSeq (sPar2 i j as) k env t = r := by
  subst h1 h2
  refine Eq.trans ?_ h3
  unfold sSeq sPar2
  rw [h0]
  rfl
theorem s_s_par3 {i j n : Nat} (h0 : as env t = .ok [x, y, z] t1) (h1 : env.set i (some x) = e1) (h2 : e1.set j (some y) = e2) (h3 : e2.set n (some z) = e3) (h4 : k e3 t1 = r) : sSeq (sPar3 i j n as) k env t = r := by
  subst h1 h2 h3
  refine Eq.trans ?_ h4
  unfold sSeq sPar3
  rw [h0]
  rfl
theorem s_s_lpar2 {i j : Nat} (h0 : pas env = some [x, y]) (h1 : env.set i (some x) = e1) (h2 : e1.set j (some y) = e2) (h3 : k e2 t = r) : sSeq (lift (pPar2 i j pas)) k env t = r := by
  subst h1 h2
  refine Eq.trans ?_ h3
  unfold sSeq lift pPar2
  rw [h0]
  rfl
theorem s_s_lpar3 {i j n : Nat} (h0 : pas env = some [x, y, z]) (h1 : env.set i (some x) = e1) (h2 : e1.set j (some y) = e2) (h3 : e2.set n (some z) = e3) (h4 : k e3 t = r) : sSeq (lift (pPar3 i j n pas)) k env t = r := by
  subst h1 h2 h3
  refine Eq.trans ?_ h4
  unfold sSeq lift pPar3
  rw [h0]
  rfl
theorem s_s_aug {i : Nat} {m n : Int} (h0 : pV i env = some (.d (.int m))) (h1 : a env t = .ok (.d (.int n)) t1) (h2 : env.set i (some (.d (.int (m + n)))) = e1) (h3 : k e1 t1 = r) : sSeq (sAug i a) k env t = r := by
  subst h2
  refine Eq.trans ?_ h3
  have h0 := pv_inv h0
  unfold sSeq sAug sV
  rw [h0]
  show R.bind (R.bind (a env t) _) _ = _
  rw [h1]
  rfl
theorem s_s_laug {i : Nat} {m n : Int} (h0 : pV i env = some (.d (.int m))) (h1 : pa env = some (.d (.int n))) (h2 : env.set i (some (.d (.int (m + n)))) = e1) (h3 : k e1 t = r) : sSeq (lift (pAug i pa)) k env t = r := (by rw [lift_aug]; exact s_s_aug h0 (l_of h1) h2 h3)
theorem s_fzs {i : Nat} (h0 : pV i env = some x) (h1 : frz x t = .ok y t1) (h2 : env.set i (some y) = e1) (h3 : k e1 t1 = r) : sFzS i k env t = r := by
  subst h2
  refine Eq.trans ?_ h3
  have h0 := pv_inv h0
  unfold sFzS
  rw [h0]
  show (frz x t).bind _ = _
  rw [h1]
  rfl
theorem s_s_gen (h0 : o env t = .ok (.nx e1) t1) (h1 : k e1 t1 = r) : sSeq o k env t = r := (sSeq_nx h0).trans h1
theorem s_s_genrt (h0 : o env t = .ok (.rt x) t1) : sSeq o k env t = .ok (.rt x) t1 := sSeq_rt h0
theorem s_s_genex {ee : Exn} (h0 : o env t = .ex ee t1) : sSeq o k env t = .ex ee t1 := sSeq_ex h0
theorem s_l_ret (h0 : sSeq (sRet a) sNx env t = r) : (sRet a) env t = r := by
  refine Eq.trans ?_ h0
  unfold sSeq
  cases (sRet a) env t with
  | no => rfl
  | ex _ _ => rfl
  | ok w _ => cases w <;> rfl
theorem s_l_asg (h0 : sSeq (sAsg g a) sNx env t = r) : (sAsg g a) env t = r := by
  refine Eq.trans ?_ h0
  unfold sSeq
  cases (sAsg g a) env t with
  | no => rfl
  | ex _ _ => rfl
  | ok w _ => cases w <;> rfl
theorem s_l_exp (h0 : sSeq (sExp a) sNx env t = r) : (sExp a) env t = r := by
  refine Eq.trans ?_ h0
  unfold sSeq
  cases (sExp a) env t with
  | no => rfl
  | ex _ _ => rfl
  | ok w _ => cases w <;> rfl
theorem s_l_asgs {gg : D → Env → Ts → R Env} (h0 : sSeq (sAsgS gg a) sNx env t = r) : (sAsgS gg a) env t = r := by
  refine Eq.trans ?_ h0
  unfold sSeq
  cases (sAsgS gg a) env t with
  | no => rfl
  | ex _ _ => rfl
  | ok w _ => cases w <;> rfl
theorem s_l_raise {ex : Str} (h0 : sSeq (sRaise ex) sNx env t = r) : (sRaise ex) env t = r := by
  refine Eq.trans ?_ h0
  unfold sSeq
  cases (sRaise ex) env t with
  | no => rfl
  | ex _ _ => rfl
  | ok w _ => cases w <;> rfl
theorem s_l_raise1 {ex fn : Str} (h0 : sSeq (sRaise1 ex fn a) sNx env t = r) : (sRaise1 ex fn a) env t = r := by
  refine Eq.trans ?_ h0
  unfold sSeq
  cases (sRaise1 ex fn a) env t with
  | no => rfl
  | ex _ _ => rfl
  | ok w _ => cases w <;> rfl
theorem s_l_par2 {i j : Nat} (h0 : sSeq (sPar2 i j as) sNx env t = r) : (sPar2 i j as) env t = r := by
  refine Eq.trans ?_ h0
  unfold sSeq
  cases (sPar2 i j as) env t with
  | no => rfl
  | ex _ _ => rfl
  | ok w _ => cases w <;> rfl
theorem s_l_fldset {b : Sm D} {mv : Bool} {cs : List Str} {fn : Str} (h0 : sSeq (sFldSet cs fn mv b a) sNx env t = r) : (sFldSet cs fn mv b a) env t = r := by
  refine Eq.trans ?_ h0
  unfold sSeq
  cases (sFldSet cs fn mv b a) env t with
  | no => rfl
  | ex _ _ => rfl
  | ok w _ => cases w <;> rfl
theorem s_l_fldadd {j : Int} {cs : List Str} {fn : Str} (h0 : sSeq (sFldAdd cs fn j a) sNx env t = r) : (sFldAdd cs fn j a) env t = r := by
  refine Eq.trans ?_ h0
  unfold sSeq
  cases (sFldAdd cs fn j a) env t with
  | no => rfl
  | ex _ _ => rfl
  | ok w _ => cases w <;> rfl
theorem s_l_lret (h0 : sSeq (lift (pRet pa)) sNx env t = r) : lift (pRet pa) env t = r := by
  refine Eq.trans ?_ h0
  unfold sSeq
  cases lift (pRet pa) env t with
  | no => rfl
  | ex _ _ => rfl
  | ok w _ => cases w <;> rfl
theorem s_l_lasg (h0 : sSeq (lift (pAsg g pa)) sNx env t = r) : lift (pAsg g pa) env t = r := by
  refine Eq.trans ?_ h0
  unfold sSeq
  cases lift (pAsg g pa) env t with
  | no => rfl
  | ex _ _ => rfl
  | ok w _ => cases w <;> rfl
theorem s_l_lnx (h0 : sSeq (lift (pNx)) sNx env t = r) : lift (pNx) env t = r := by
  refine Eq.trans ?_ h0
  unfold sSeq
  cases lift (pNx) env t with
  | no => rfl
  | ex _ _ => rfl
  | ok w _ => cases w <;> rfl
theorem s_l_lseq (h0 : sSeq (lift (pSeq po p1)) sNx env t = r) : lift (pSeq po p1) env t = r := by
  refine Eq.trans ?_ h0
  unfold sSeq
  cases lift (pSeq po p1) env t with
  | no => rfl
  | ex _ _ => rfl
  | ok w _ => cases w <;> rfl
theorem s_l_lexp (h0 : sSeq (lift (pExp pa)) sNx env t = r) : lift (pExp pa) env t = r := by
  refine Eq.trans ?_ h0
  unfold sSeq
  cases lift (pExp pa) env t with
  | no => rfl
  | ex _ _ => rfl
  | ok w _ => cases w <;> rfl
theorem s_nx  : sNx env t = .ok (.nx env) t := rfl
end
theorem s_lift {g : Pm α} {a : α} (h0 : g env = some a) : lift g env t = .ok a t := l_of h0
theorem s_li {g : Pm (List D)} (h0 : g env = some l) : liftI g env t = .ok (.st l) t := by
  unfold liftI
  rw [h0]
  rfl
theorem s_lc {g : D → Env → Option Env} {vs : List Nat} {src : Sm Itb} {tt : Sm Bool} {el : Sm D} {it : Itb} (h0 : src env t = .ok it t1) (h1 : wipeE env vs = e0) (h2 : goItC it g e0 tt el t1 = .ok l2 t2) : sLc g vs src tt el env t = .ok l2 t2 := by
  subst h1
  unfold sLc
  rw [h0]
  exact h2
theorem s_for {g : D → Env → Option Env} {src : Sm Itb} {body : Sm Out} {it : Itb} {r : R Out} (h0 : src env t = .ok it t1) (h1 : goItF it g body env t1 = r) : sFor g src body env t = r := by
  refine Eq.trans ?_ h1
  unfold sFor
  rw [h0]
  rfl
theorem s_it {a : Sm D} {it : Itb} (h0 : a env t = .ok x t1) (h1 : itS x t1 = .ok it t1) : sIt a env t = .ok it t1 := by
  unfold sIt
  rw [h0]
  exact h1
theorem s_rg {f : List D → Option (List D)} {as : Sm (List D)} (h0 : as env t = .ok l t1) (h1 : f l = some l2) : sRg f as env t = .ok (.st l2) t1 := by
  unfold sRg
  rw [h0]
  show (ofO (f l) t1).bind _ = _
  rw [h1]
  rfl
theorem w_nil  : wipeE env [] = env := rfl
theorem w_cons {i : Nat} {r : List Nat} (h0 : wipeE env r = e1) (h1 : e1.set i none = e2) : wipeE env (i :: r) = e2 := by subst h0; exact h1
theorem g_st {g : D → Env → Option Env} {tt : Sm Bool} {el : Sm D} {ds : List D} {rl : R (List D)} (h0 : ds.length ≤ 100000) (h1 : goC g env tt el ds t = rl) : goItC (.st ds) g env tt el t = rl := by
  show (if ds.length ≤ 100000 then goC g env tt el ds t else .no) = rl
  rw [if_pos h0]
  exact h1
theorem c_nil {g : D → Env → Option Env} {tt : Sm Bool} {el : Sm D}  : goC g env tt el [] t = .ok [] t := rfl
theorem c_cons {g : D → Env → Option Env} {el : Sm D} (h0 : g x env = some e1) (h1 : el e1 t = .ok y t1) (h2 : goC g env (lift (pC true)) el l t1 = .ok l2 t2) : goC g env (lift (pC true)) el (x :: l) t = .ok (y :: l2) t2 := by
  unfold goC
  rw [h0]
  show ((el e1 t).nox.bind fun y t => (goC g env (lift (pC true)) el l t).bind fun ys t => .ok (y :: ys) t) = _
  rw [h1]
  show ((goC g env (lift (pC true)) el l t1).bind fun ys t => .ok (y :: ys) t) = _
  rw [h2]
  rfl
theorem gp_nil {g : D → Env → Option Env} {tt : Pm Bool} {el : Pm D}  : goP g env tt el [] = some [] := rfl
theorem gp_cons {g : D → Env → Option Env} {tt : Pm Bool} {el : Pm D} {ol : Option (List D)} (h0 : g x env = some e1) (h1 : tt e1 = some v) (h2 : (if v = true then (el e1).bind fun q => (goP g env tt el l).map fun z => q :: z else goP g env tt el l) = ol) : goP g env tt el (x :: l) = ol := by
  refine Eq.trans ?_ h2
  show (g x env).bind _ = _
  rw [h0]
  show (tt e1).bind _ = _
  rw [h1]
  rfl
theorem gp_el {g : D → Env → Option Env} {tt : Pm Bool} {el : Pm D} (h0 : el e1 = some y) (h1 : goP g env tt el l = some l2) : ((el e1).bind fun q => (goP g env tt el l).map fun z => q :: z) = some (y :: l2) := by
  rw [h0]
  show ((goP g env tt el l).map _) = _
  rw [h1]
  rfl
theorem gf_st {g : D → Env → Option Env} {body : Sm Out} {ds : List D} {ro : R Out} (h0 : goF g body ds env t = ro) : goItF (.st ds) g body env t = ro := h0
theorem gf_nil {g : D → Env → Option Env} {body : Sm Out}  : goF g body [] env t = .ok (.nx env) t := rfl
theorem gf_cons {g : D → Env → Option Env} {body : Sm Out} {ro : R Out} (h0 : g x env = some e1) (h1 : body e1 t = .ok (.nx e2) t1) (h2 : goF g body l e2 t1 = ro) : goF g body (x :: l) env t = ro := by
  refine Eq.trans ?_ h2
  show (ofO (g x env) t).bind _ = _
  rw [h0]
  show (body e1 t).bind _ = _
  rw [h1]
  rfl
theorem gf_rt {g : D → Env → Option Env} {body : Sm Out} (h0 : g x env = some e1) (h1 : body e1 t = .ok (.rt y) t1) : goF g body (x :: l) env t = .ok (.rt y) t1 := by
  show (ofO (g x env) t).bind _ = _
  rw [h0]
  show (body e1 t).bind _ = _
  rw [h1]
  rfl
theorem gf_ex {g : D → Env → Option Env} {body : Sm Out} {ee : Exn} (h0 : g x env = some e1) (h1 : body e1 t = .ex ee t1) : goF g body (x :: l) env t = .ex ee t1 := by
  show (ofO (g x env) t).bind _ = _
  rw [h0]
  show (body e1 t).bind _ = _
  rw [h1]
  rfl
theorem s_s_for {g : D → Env → Option Env} {src : Sm Itb} {body k : Sm Out} {ro : R Out} (h0 : sFor g src body env t = .ok (.nx e1) t1) (h1 : k e1 t1 = ro) : sSeq (sFor g src body) k env t = ro := (sSeq_nx h0).trans h1
theorem s_s_forrt {g : D → Env → Option Env} {src : Sm Itb} {body k : Sm Out} (h0 : sFor g src body env t = .ok (.rt y) t1) : sSeq (sFor g src body) k env t = .ok (.rt y) t1 := sSeq_rt h0
theorem s_s_forex {g : D → Env → Option Env} {src : Sm Itb} {body k : Sm Out} {ee : Exn} (h0 : sFor g src body env t = .ex ee t1) : sSeq (sFor g src body) k env t = .ex ee t1 := sSeq_ex h0
theorem gfp_nil {g : D → Env → Option Env} {body : Pm Out}  : goFP g body [] env = some (.nx env) := rfl
theorem gfp_cons {g : D → Env → Option Env} {body : Pm Out} {ro : Option Out} (h0 : g x env = some e1) (h1 : body e1 = some (.nx e2)) (h2 : goFP g body l e2 = ro) : goFP g body (x :: l) env = ro := by
  refine Eq.trans ?_ h2
  show (g x env).bind _ = _
  rw [h0]
  show (body e1).bind _ = _
  rw [h1]
  rfl
theorem gfp_rt {g : D → Env → Option Env} {body : Pm Out} (h0 : g x env = some e1) (h1 : body e1 = some (.rt y)) : goFP g body (x :: l) env = some (.rt y) := by
  show (g x env).bind _ = _
  rw [h0]
  show (body e1).bind _ = _
  rw [h1]
  rfl
theorem p_for {g : D → Env → Option Env} {src : Pm (List D)} {body : Pm Out} {po : Option Out} (h0 : src env = some l) (h1 : goFP g body l env = po) : pFor g src body env = po := by
  refine Eq.trans ?_ h1
  unfold pFor
  rw [h0]
  rfl
theorem p_s_for {g : D → Env → Option Env} {src : Pm (List D)} {body k : Pm Out} {po : Option Out} (h0 : pFor g src body env = some (.nx e1)) (h1 : k e1 = po) : pSeq (pFor g src body) k env = po := (pSeq_nx h0).trans h1
theorem p_s_forrt {g : D → Env → Option Env} {src : Pm (List D)} {body k : Pm Out} (h0 : pFor g src body env = some (.rt y)) : pSeq (pFor g src body) k env = some (.rt y) := pSeq_rt h0
theorem ix_l0 {xs : List PyData} {k : Nat} {x : PyData} (h : xs[k]? = some x) : fIx (.d (.list xs)) (.d (.int (k : Nat))) = some (.d x) := by
  show (atI xs (k : Int)).map D.d = _
  rw [at_nat, h]
  rfl
theorem ix_t0 {xs : List PyData} {k : Nat} {x : PyData} (h : xs[k]? = some x) : fIx (.d (.tuple xs)) (.d (.int (k : Nat))) = some (.d x) := by
  show (atI xs (k : Int)).map D.d = _
  rw [at_nat, h]
  rfl
theorem st_0 {o0 : Option D} {w : Option D} {r : Env} : (o0 :: r).set 0 w = (w :: r) := rfl
theorem pv_0 {w : D} {r : Env} : pV 0 (some w :: r) = some w := rfl
theorem gn_0 {o0 : Option D} {w : D} {r : Env} : gN 0 w (o0 :: r) = some (some w :: r) := rfl
theorem st_1 {o0 o1 : Option D} {w : Option D} {r : Env} : (o0 :: o1 :: r).set 1 w = (o0 :: w :: r) := rfl
theorem pv_1 {o0 : Option D} {w : D} {r : Env} : pV 1 (o0 :: some w :: r) = some w := rfl
theorem gn_1 {o0 o1 : Option D} {w : D} {r : Env} : gN 1 w (o0 :: o1 :: r) = some (o0 :: some w :: r) := rfl
theorem st_2 {o0 o1 o2 : Option D} {w : Option D} {r : Env} : (o0 :: o1 :: o2 :: r).set 2 w = (o0 :: o1 :: w :: r) := rfl
theorem pv_2 {o0 o1 : Option D} {w : D} {r : Env} : pV 2 (o0 :: o1 :: some w :: r) = some w := rfl
theorem gn_2 {o0 o1 o2 : Option D} {w : D} {r : Env} : gN 2 w (o0 :: o1 :: o2 :: r) = some (o0 :: o1 :: some w :: r) := rfl
theorem st_3 {o0 o1 o2 o3 : Option D} {w : Option D} {r : Env} : (o0 :: o1 :: o2 :: o3 :: r).set 3 w = (o0 :: o1 :: o2 :: w :: r) := rfl
theorem pv_3 {o0 o1 o2 : Option D} {w : D} {r : Env} : pV 3 (o0 :: o1 :: o2 :: some w :: r) = some w := rfl
theorem gn_3 {o0 o1 o2 o3 : Option D} {w : D} {r : Env} : gN 3 w (o0 :: o1 :: o2 :: o3 :: r) = some (o0 :: o1 :: o2 :: some w :: r) := rfl
theorem st_4 {o0 o1 o2 o3 o4 : Option D} {w : Option D} {r : Env} : (o0 :: o1 :: o2 :: o3 :: o4 :: r).set 4 w = (o0 :: o1 :: o2 :: o3 :: w :: r) := rfl
theorem pv_4 {o0 o1 o2 o3 : Option D} {w : D} {r : Env} : pV 4 (o0 :: o1 :: o2 :: o3 :: some w :: r) = some w := rfl
theorem gn_4 {o0 o1 o2 o3 o4 : Option D} {w : D} {r : Env} : gN 4 w (o0 :: o1 :: o2 :: o3 :: o4 :: r) = some (o0 :: o1 :: o2 :: o3 :: some w :: r) := rfl
theorem st_5 {o0 o1 o2 o3 o4 o5 : Option D} {w : Option D} {r : Env} : (o0 :: o1 :: o2 :: o3 :: o4 :: o5 :: r).set 5 w = (o0 :: o1 :: o2 :: o3 :: o4 :: w :: r) := rfl
theorem pv_5 {o0 o1 o2 o3 o4 : Option D} {w : D} {r : Env} : pV 5 (o0 :: o1 :: o2 :: o3 :: o4 :: some w :: r) = some w := rfl
theorem gn_5 {o0 o1 o2 o3 o4 o5 : Option D} {w : D} {r : Env} : gN 5 w (o0 :: o1 :: o2 :: o3 :: o4 :: o5 :: r) = some (o0 :: o1 :: o2 :: o3 :: o4 :: some w :: r) := rfl
theorem st_6 {o0 o1 o2 o3 o4 o5 o6 : Option D} {w : Option D} {r : Env} : (o0 :: o1 :: o2 :: o3 :: o4 :: o5 :: o6 :: r).set 6 w = (o0 :: o1 :: o2 :: o3 :: o4 :: o5 :: w :: r) := rfl
theorem pv_6 {o0 o1 o2 o3 o4 o5 : Option D} {w : D} {r : Env} : pV 6 (o0 :: o1 :: o2 :: o3 :: o4 :: o5 :: some w :: r) = some w := rfl
theorem gn_6 {o0 o1 o2 o3 o4 o5 o6 : Option D} {w : D} {r : Env} : gN 6 w (o0 :: o1 :: o2 :: o3 :: o4 :: o5 :: o6 :: r) = some (o0 :: o1 :: o2 :: o3 :: o4 :: o5 :: some w :: r) := rfl
theorem st_7 {o0 o1 o2 o3 o4 o5 o6 o7 : Option D} {w : Option D} {r : Env} : (o0 :: o1 :: o2 :: o3 :: o4 :: o5 :: o6 :: o7 :: r).set 7 w = (o0 :: o1 :: o2 :: o3 :: o4 :: o5 :: o6 :: w :: r) := rfl
theorem pv_7 {o0 o1 o2 o3 o4 o5 o6 : Option D} {w : D} {r : Env} : pV 7 (o0 :: o1 :: o2 :: o3 :: o4 :: o5 :: o6 :: some w :: r) = some w := rfl
theorem gn_7 {o0 o1 o2 o3 o4 o5 o6 o7 : Option D} {w : D} {r : Env} : gN 7 w (o0 :: o1 :: o2 :: o3 :: o4 :: o5 :: o6 :: o7 :: r) = some (o0 :: o1 :: o2 :: o3 :: o4 :: o5 :: o6 :: some w :: r) := rfl
theorem st_8 {o0 o1 o2 o3 o4 o5 o6 o7 o8 : Option D} {w : Option D} {r : Env} : (o0 :: o1 :: o2 :: o3 :: o4 :: o5 :: o6 :: o7 :: o8 :: r).set 8 w = (o0 :: o1 :: o2 :: o3 :: o4 :: o5 :: o6 :: o7 :: w :: r) := rfl
theorem pv_8 {o0 o1 o2 o3 o4 o5 o6 o7 : Option D} {w : D} {r : Env} : pV 8 (o0 :: o1 :: o2 :: o3 :: o4 :: o5 :: o6 :: o7 :: some w :: r) = some w := rfl
theorem gn_8 {o0 o1 o2 o3 o4 o5 o6 o7 o8 : Option D} {w : D} {r : Env} : gN 8 w (o0 :: o1 :: o2 :: o3 :: o4 :: o5 :: o6 :: o7 :: o8 :: r) = some (o0 :: o1 :: o2 :: o3 :: o4 :: o5 :: o6 :: o7 :: some w :: r) := rfl
theorem st_9 {o0 o1 o2 o3 o4 o5 o6 o7 o8 o9 : Option D} {w : Option D} {r : Env} : (o0 :: o1 :: o2 :: o3 :: o4 :: o5 :: o6 :: o7 :: o8 :: o9 :: r).set 9 w = (o0 :: o1 :: o2 :: o3 :: o4 :: o5 :: o6 :: o7 :: o8 :: w :: r) := rfl
theorem pv_9 {o0 o1 o2 o3 o4 o5 o6 o7 o8 : Option D} {w : D} {r : Env} : pV 9 (o0 :: o1 :: o2 :: o3 :: o4 :: o5 :: o6 :: o7 :: o8 :: some w :: r) = some w := rfl
theorem gn_9 {o0 o1 o2 o3 o4 o5 o6 o7 o8 o9 : Option D} {w : D} {r : Env} : gN 9 w (o0 :: o1 :: o2 :: o3 :: o4 :: o5 :: o6 :: o7 :: o8 :: o9 :: r) = some (o0 :: o1 :: o2 :: o3 :: o4 :: o5 :: o6 :: o7 :: o8 :: some w :: r) := rfl
theorem st_10 {o0 o1 o2 o3 o4 o5 o6 o7 o8 o9 o10 : Option D} {w : Option D} {r : Env} : (o0 :: o1 :: o2 :: o3 :: o4 :: o5 :: o6 :: o7 :: o8 :: o9 :: o10 :: r).set 10 w = (o0 :: o1 :: o2 :: o3 :: o4 :: o5 :: o6 :: o7 :: o8 :: o9 :: w :: r) := rfl
theorem pv_10 {o0 o1 o2 o3 o4 o5 o6 o7 o8 o9 : Option D} {w : D} {r : Env} : pV 10 (o0 :: o1 :: o2 :: o3 :: o4 :: o5 :: o6 :: o7 :: o8 :: o9 :: some w :: r) = some w := rfl
theorem gn_10 {o0 o1 o2 o3 o4 o5 o6 o7 o8 o9 o10 : Option D} {w : D} {r : Env} : gN 10 w (o0 :: o1 :: o2 :: o3 :: o4 :: o5 :: o6 :: o7 :: o8 :: o9 :: o10 :: r) = some (o0 :: o1 :: o2 :: o3 :: o4 :: o5 :: o6 :: o7 :: o8 :: o9 :: some w :: r) := rfl
theorem st_11 {o0 o1 o2 o3 o4 o5 o6 o7 o8 o9 o10 o11 : Option D} {w : Option D} {r : Env} : (o0 :: o1 :: o2 :: o3 :: o4 :: o5 :: o6 :: o7 :: o8 :: o9 :: o10 :: o11 :: r).set 11 w = (o0 :: o1 :: o2 :: o3 :: o4 :: o5 :: o6 :: o7 :: o8 :: o9 :: o10 :: w :: r) := rfl
theorem pv_11 {o0 o1 o2 o3 o4 o5 o6 o7 o8 o9 o10 : Option D} {w : D} {r : Env} : pV 11 (o0 :: o1 :: o2 :: o3 :: o4 :: o5 :: o6 :: o7 :: o8 :: o9 :: o10 :: some w :: r) = some w := rfl
theorem gn_11 {o0 o1 o2 o3 o4 o5 o6 o7 o8 o9 o10 o11 : Option D} {w : D} {r : Env} : gN 11 w (o0 :: o1 :: o2 :: o3 :: o4 :: o5 :: o6 :: o7 :: o8 :: o9 :: o10 :: o11 :: r) = some (o0 :: o1 :: o2 :: o3 :: o4 :: o5 :: o6 :: o7 :: o8 :: o9 :: o10 :: some w :: r) := rfl
theorem st_12 {o0 o1 o2 o3 o4 o5 o6 o7 o8 o9 o10 o11 o12 : Option D} {w : Option D} {r : Env} : (o0 :: o1 :: o2 :: o3 :: o4 :: o5 :: o6 :: o7 :: o8 :: o9 :: o10 :: o11 :: o12 :: r).set 12 w = (o0 :: o1 :: o2 :: o3 :: o4 :: o5 :: o6 :: o7 :: o8 :: o9 :: o10 :: o11 :: w :: r) := rfl
theorem pv_12 {o0 o1 o2 o3 o4 o5 o6 o7 o8 o9 o10 o11 : Option D} {w : D} {r : Env} : pV 12 (o0 :: o1 :: o2 :: o3 :: o4 :: o5 :: o6 :: o7 :: o8 :: o9 :: o10 :: o11 :: some w :: r) = some w := rfl
theorem gn_12 {o0 o1 o2 o3 o4 o5 o6 o7 o8 o9 o10 o11 o12 : Option D} {w : D} {r : Env} : gN 12 w (o0 :: o1 :: o2 :: o3 :: o4 :: o5 :: o6 :: o7 :: o8 :: o9 :: o10 :: o11 :: o12 :: r) = some (o0 :: o1 :: o2 :: o3 :: o4 :: o5 :: o6 :: o7 :: o8 :: o9 :: o10 :: o11 :: some w :: r) := rfl
theorem st_13 {o0 o1 o2 o3 o4 o5 o6 o7 o8 o9 o10 o11 o12 o13 : Option D} {w : Option D} {r : Env} : (o0 :: o1 :: o2 :: o3 :: o4 :: o5 :: o6 :: o7 :: o8 :: o9 :: o10 :: o11 :: o12 :: o13 :: r).set 13 w = (o0 :: o1 :: o2 :: o3 :: o4 :: o5 :: o6 :: o7 :: o8 :: o9 :: o10 :: o11 :: o12 :: w :: r) := rfl
theorem pv_13 {o0 o1 o2 o3 o4 o5 o6 o7 o8 o9 o10 o11 o12 : Option D} {w : D} {r : Env} : pV 13 (o0 :: o1 :: o2 :: o3 :: o4 :: o5 :: o6 :: o7 :: o8 :: o9 :: o10 :: o11 :: o12 :: some w :: r) = some w := rfl
theorem gn_13 {o0 o1 o2 o3 o4 o5 o6 o7 o8 o9 o10 o11 o12 o13 : Option D} {w : D} {r : Env} : gN 13 w (o0 :: o1 :: o2 :: o3 :: o4 :: o5 :: o6 :: o7 :: o8 :: o9 :: o10 :: o11 :: o12 :: o13 :: r) = some (o0 :: o1 :: o2 :: o3 :: o4 :: o5 :: o6 :: o7 :: o8 :: o9 :: o10 :: o11 :: o12 :: some w :: r) := rfl
theorem st_14 {o0 o1 o2 o3 o4 o5 o6 o7 o8 o9 o10 o11 o12 o13 o14 : Option D} {w : Option D} {r : Env} : (o0 :: o1 :: o2 :: o3 :: o4 :: o5 :: o6 :: o7 :: o8 :: o9 :: o10 :: o11 :: o12 :: o13 :: o14 :: r).set 14 w = (o0 :: o1 :: o2 :: o3 :: o4 :: o5 :: o6 :: o7 :: o8 :: o9 :: o10 :: o11 :: o12 :: o13 :: w :: r) := rfl
theorem pv_14 {o0 o1 o2 o3 o4 o5 o6 o7 o8 o9 o10 o11 o12 o13 : Option D} {w : D} {r : Env} : pV 14 (o0 :: o1 :: o2 :: o3 :: o4 :: o5 :: o6 :: o7 :: o8 :: o9 :: o10 :: o11 :: o12 :: o13 :: some w :: r) = some w := rfl
theorem gn_14 {o0 o1 o2 o3 o4 o5 o6 o7 o8 o9 o10 o11 o12 o13 o14 : Option D} {w : D} {r : Env} : gN 14 w (o0 :: o1 :: o2 :: o3 :: o4 :: o5 :: o6 :: o7 :: o8 :: o9 :: o10 :: o11 :: o12 :: o13 :: o14 :: r) = some (o0 :: o1 :: o2 :: o3 :: o4 :: o5 :: o6 :: o7 :: o8 :: o9 :: o10 :: o11 :: o12 :: o13 :: some w :: r) := rfl
theorem st_15 {o0 o1 o2 o3 o4 o5 o6 o7 o8 o9 o10 o11 o12 o13 o14 o15 : Option D} {w : Option D} {r : Env} : (o0 :: o1 :: o2 :: o3 :: o4 :: o5 :: o6 :: o7 :: o8 :: o9 :: o10 :: o11 :: o12 :: o13 :: o14 :: o15 :: r).set 15 w = (o0 :: o1 :: o2 :: o3 :: o4 :: o5 :: o6 :: o7 :: o8 :: o9 :: o10 :: o11 :: o12 :: o13 :: o14 :: w :: r) := rfl
theorem pv_15 {o0 o1 o2 o3 o4 o5 o6 o7 o8 o9 o10 o11 o12 o13 o14 : Option D} {w : D} {r : Env} : pV 15 (o0 :: o1 :: o2 :: o3 :: o4 :: o5 :: o6 :: o7 :: o8 :: o9 :: o10 :: o11 :: o12 :: o13 :: o14 :: some w :: r) = some w := rfl
theorem gn_15 {o0 o1 o2 o3 o4 o5 o6 o7 o8 o9 o10 o11 o12 o13 o14 o15 : Option D} {w : D} {r : Env} : gN 15 w (o0 :: o1 :: o2 :: o3 :: o4 :: o5 :: o6 :: o7 :: o8 :: o9 :: o10 :: o11 :: o12 :: o13 :: o14 :: o15 :: r) = some (o0 :: o1 :: o2 :: o3 :: o4 :: o5 :: o6 :: o7 :: o8 :: o9 :: o10 :: o11 :: o12 :: o13 :: o14 :: some w :: r) := rfl
theorem st_16 {o0 o1 o2 o3 o4 o5 o6 o7 o8 o9 o10 o11 o12 o13 o14 o15 o16 : Option D} {w : Option D} {r : Env} : (o0 :: o1 :: o2 :: o3 :: o4 :: o5 :: o6 :: o7 :: o8 :: o9 :: o10 :: o11 :: o12 :: o13 :: o14 :: o15 :: o16 :: r).set 16 w = (o0 :: o1 :: o2 :: o3 :: o4 :: o5 :: o6 :: o7 :: o8 :: o9 :: o10 :: o11 :: o12 :: o13 :: o14 :: o15 :: w :: r) := rfl
theorem pv_16 {o0 o1 o2 o3 o4 o5 o6 o7 o8 o9 o10 o11 o12 o13 o14 o15 : Option D} {w : D} {r : Env} : pV 16 (o0 :: o1 :: o2 :: o3 :: o4 :: o5 :: o6 :: o7 :: o8 :: o9 :: o10 :: o11 :: o12 :: o13 :: o14 :: o15 :: some w :: r) = some w := rfl
theorem gn_16 {o0 o1 o2 o3 o4 o5 o6 o7 o8 o9 o10 o11 o12 o13 o14 o15 o16 : Option D} {w : D} {r : Env} : gN 16 w (o0 :: o1 :: o2 :: o3 :: o4 :: o5 :: o6 :: o7 :: o8 :: o9 :: o10 :: o11 :: o12 :: o13 :: o14 :: o15 :: o16 :: r) = some (o0 :: o1 :: o2 :: o3 :: o4 :: o5 :: o6 :: o7 :: o8 :: o9 :: o10 :: o11 :: o12 :: o13 :: o14 :: o15 :: some w :: r) := rfl
theorem st_17 {o0 o1 o2 o3 o4 o5 o6 o7 o8 o9 o10 o11 o12 o13 o14 o15 o16 o17 : Option D} {w : Option D} {r : Env} : (o0 :: o1 :: o2 :: o3 :: o4 :: o5 :: o6 :: o7 :: o8 :: o9 :: o10 :: o11 :: o12 :: o13 :: o14 :: o15 :: o16 :: o17 :: r).set 17 w = (o0 :: o1 :: o2 :: o3 :: o4 :: o5 :: o6 :: o7 :: o8 :: o9 :: o10 :: o11 :: o12 :: o13 :: o14 :: o15 :: o16 :: w :: r) := rfl
theorem pv_17 {o0 o1 o2 o3 o4 o5 o6 o7 o8 o9 o10 o11 o12 o13 o14 o15 o16 : Option D} {w : D} {r : Env} : pV 17 (o0 :: o1 :: o2 :: o3 :: o4 :: o5 :: o6 :: o7 :: o8 :: o9 :: o10 :: o11 :: o12 :: o13 :: o14 :: o15 :: o16 :: some w :: r) = some w := rfl
theorem gn_17 {o0 o1 o2 o3 o4 o5 o6 o7 o8 o9 o10 o11 o12 o13 o14 o15 o16 o17 : Option D} {w : D} {r : Env} : gN 17 w (o0 :: o1 :: o2 :: o3 :: o4 :: o5 :: o6 :: o7 :: o8 :: o9 :: o10 :: o11 :: o12 :: o13 :: o14 :: o15 :: o16 :: o17 :: r) = some (o0 :: o1 :: o2 :: o3 :: o4 :: o5 :: o6 :: o7 :: o8 :: o9 :: o10 :: o11 :: o12 :: o13 :: o14 :: o15 :: o16 :: some w :: r) := rfl
theorem st_18 {o0 o1 o2 o3 o4 o5 o6 o7 o8 o9 o10 o11 o12 o13 o14 o15 o16 o17 o18 : Option D} {w : Option D} {r : Env} : (o0 :: o1 :: o2 :: o3 :: o4 :: o5 :: o6 :: o7 :: o8 :: o9 :: o10 :: o11 :: o12 :: o13 :: o14 :: o15 :: o16 :: o17 :: o18 :: r).set 18 w = (o0 :: o1 :: o2 :: o3 :: o4 :: o5 :: o6 :: o7 :: o8 :: o9 :: o10 :: o11 :: o12 :: o13 :: o14 :: o15 :: o16 :: o17 :: w :: r) := rfl
theorem pv_18 {o0 o1 o2 o3 o4 o5 o6 o7 o8 o9 o10 o11 o12 o13 o14 o15 o16 o17 : Option D} {w : D} {r : Env} : pV 18 (o0 :: o1 :: o2 :: o3 :: o4 :: o5 :: o6 :: o7 :: o8 :: o9 :: o10 :: o11 :: o12 :: o13 :: o14 :: o15 :: o16 :: o17 :: some w :: r) = some w := rfl
theorem gn_18 {o0 o1 o2 o3 o4 o5 o6 o7 o8 o9 o10 o11 o12 o13 o14 o15 o16 o17 o18 : Option D} {w : D} {r : Env} : gN 18 w (o0 :: o1 :: o2 :: o3 :: o4 :: o5 :: o6 :: o7 :: o8 :: o9 :: o10 :: o11 :: o12 :: o13 :: o14 :: o15 :: o16 :: o17 :: o18 :: r) = some (o0 :: o1 :: o2 :: o3 :: o4 :: o5 :: o6 :: o7 :: o8 :: o9 :: o10 :: o11 :: o12 :: o13 :: o14 :: o15 :: o16 :: o17 :: some w :: r) := rfl
theorem st_19 {o0 o1 o2 o3 o4 o5 o6 o7 o8 o9 o10 o11 o12 o13 o14 o15 o16 o17 o18 o19 : Option D} {w : Option D} {r : Env} : (o0 :: o1 :: o2 :: o3 :: o4 :: o5 :: o6 :: o7 :: o8 :: o9 :: o10 :: o11 :: o12 :: o13 :: o14 :: o15 :: o16 :: o17 :: o18 :: o19 :: r).set 19 w = (o0 :: o1 :: o2 :: o3 :: o4 :: o5 :: o6 :: o7 :: o8 :: o9 :: o10 :: o11 :: o12 :: o13 :: o14 :: o15 :: o16 :: o17 :: o18 :: w :: r) := rfl
theorem pv_19 {o0 o1 o2 o3 o4 o5 o6 o7 o8 o9 o10 o11 o12 o13 o14 o15 o16 o17 o18 : Option D} {w : D} {r : Env} : pV 19 (o0 :: o1 :: o2 :: o3 :: o4 :: o5 :: o6 :: o7 :: o8 :: o9 :: o10 :: o11 :: o12 :: o13 :: o14 :: o15 :: o16 :: o17 :: o18 :: some w :: r) = some w := rfl
theorem gn_19 {o0 o1 o2 o3 o4 o5 o6 o7 o8 o9 o10 o11 o12 o13 o14 o15 o16 o17 o18 o19 : Option D} {w : D} {r : Env} : gN 19 w (o0 :: o1 :: o2 :: o3 :: o4 :: o5 :: o6 :: o7 :: o8 :: o9 :: o10 :: o11 :: o12 :: o13 :: o14 :: o15 :: o16 :: o17 :: o18 :: o19 :: r) = some (o0 :: o1 :: o2 :: o3 :: o4 :: o5 :: o6 :: o7 :: o8 :: o9 :: o10 :: o11 :: o12 :: o13 :: o14 :: o15 :: o16 :: o17 :: o18 :: some w :: r) := rfl
theorem st_20 {o0 o1 o2 o3 o4 o5 o6 o7 o8 o9 o10 o11 o12 o13 o14 o15 o16 o17 o18 o19 o20 : Option D} {w : Option D} {r : Env} : (o0 :: o1 :: o2 :: o3 :: o4 :: o5 :: o6 :: o7 :: o8 :: o9 :: o10 :: o11 :: o12 :: o13 :: o14 :: o15 :: o16 :: o17 :: o18 :: o19 :: o20 :: r).set 20 w = (o0 :: o1 :: o2 :: o3 :: o4 :: o5 :: o6 :: o7 :: o8 :: o9 :: o10 :: o11 :: o12 :: o13 :: o14 :: o15 :: o16 :: o17 :: o18 :: o19 :: w :: r) := rfl
theorem pv_20 {o0 o1 o2 o3 o4 o5 o6 o7 o8 o9 o10 o11 o12 o13 o14 o15 o16 o17 o18 o19 : Option D} {w : D} {r : Env} : pV 20 (o0 :: o1 :: o2 :: o3 :: o4 :: o5 :: o6 :: o7 :: o8 :: o9 :: o10 :: o11 :: o12 :: o13 :: o14 :: o15 :: o16 :: o17 :: o18 :: o19 :: some w :: r) = some w := rfl
theorem gn_20 {o0 o1 o2 o3 o4 o5 o6 o7 o8 o9 o10 o11 o12 o13 o14 o15 o16 o17 o18 o19 o20 : Option D} {w : D} {r : Env} : gN 20 w (o0 :: o1 :: o2 :: o3 :: o4 :: o5 :: o6 :: o7 :: o8 :: o9 :: o10 :: o11 :: o12 :: o13 :: o14 :: o15 :: o16 :: o17 :: o18 :: o19 :: o20 :: r) = some (o0 :: o1 :: o2 :: o3 :: o4 :: o5 :: o6 :: o7 :: o8 :: o9 :: o10 :: o11 :: o12 :: o13 :: o14 :: o15 :: o16 :: o17 :: o18 :: o19 :: some w :: r) := rfl
theorem st_21 {o0 o1 o2 o3 o4 o5 o6 o7 o8 o9 o10 o11 o12 o13 o14 o15 o16 o17 o18 o19 o20 o21 : Option D} {w : Option D} {r : Env} : (o0 :: o1 :: o2 :: o3 :: o4 :: o5 :: o6 :: o7 :: o8 :: o9 :: o10 :: o11 :: o12 :: o13 :: o14 :: o15 :: o16 :: o17 :: o18 :: o19 :: o20 :: o21 :: r).set 21 w = (o0 :: o1 :: o2 :: o3 :: o4 :: o5 :: o6 :: o7 :: o8 :: o9 :: o10 :: o11 :: o12 :: o13 :: o14 :: o15 :: o16 :: o17 :: o18 :: o19 :: o20 :: w :: r) := rfl
theorem pv_21 {o0 o1 o2 o3 o4 o5 o6 o7 o8 o9 o10 o11 o12 o13 o14 o15 o16 o17 o18 o19 o20 : Option D} {w : D} {r : Env} : pV 21 (o0 :: o1 :: o2 :: o3 :: o4 :: o5 :: o6 :: o7 :: o8 :: o9 :: o10 :: o11 :: o12 :: o13 :: o14 :: o15 :: o16 :: o17 :: o18 :: o19 :: o20 :: some w :: r) = some w := rfl
theorem gn_21 {o0 o1 o2 o3 o4 o5 o6 o7 o8 o9 o10 o11 o12 o13 o14 o15 o16 o17 o18 o19 o20 o21 : Option D} {w : D} {r : Env} : gN 21 w (o0 :: o1 :: o2 :: o3 :: o4 :: o5 :: o6 :: o7 :: o8 :: o9 :: o10 :: o11 :: o12 :: o13 :: o14 :: o15 :: o16 :: o17 :: o18 :: o19 :: o20 :: o21 :: r) = some (o0 :: o1 :: o2 :: o3 :: o4 :: o5 :: o6 :: o7 :: o8 :: o9 :: o10 :: o11 :: o12 :: o13 :: o14 :: o15 :: o16 :: o17 :: o18 :: o19 :: o20 :: some w :: r) := rfl
theorem st_22 {o0 o1 o2 o3 o4 o5 o6 o7 o8 o9 o10 o11 o12 o13 o14 o15 o16 o17 o18 o19 o20 o21 o22 : Option D} {w : Option D} {r : Env} : (o0 :: o1 :: o2 :: o3 :: o4 :: o5 :: o6 :: o7 :: o8 :: o9 :: o10 :: o11 :: o12 :: o13 :: o14 :: o15 :: o16 :: o17 :: o18 :: o19 :: o20 :: o21 :: o22 :: r).set 22 w = (o0 :: o1 :: o2 :: o3 :: o4 :: o5 :: o6 :: o7 :: o8 :: o9 :: o10 :: o11 :: o12 :: o13 :: o14 :: o15 :: o16 :: o17 :: o18 :: o19 :: o20 :: o21 :: w :: r) := rfl
theorem pv_22 {o0 o1 o2 o3 o4 o5 o6 o7 o8 o9 o10 o11 o12 o13 o14 o15 o16 o17 o18 o19 o20 o21 : Option D} {w : D} {r : Env} : pV 22 (o0 :: o1 :: o2 :: o3 :: o4 :: o5 :: o6 :: o7 :: o8 :: o9 :: o10 :: o11 :: o12 :: o13 :: o14 :: o15 :: o16 :: o17 :: o18 :: o19 :: o20 :: o21 :: some w :: r) = some w := rfl
theorem gn_22 {o0 o1 o2 o3 o4 o5 o6 o7 o8 o9 o10 o11 o12 o13 o14 o15 o16 o17 o18 o19 o20 o21 o22 : Option D} {w : D} {r : Env} : gN 22 w (o0 :: o1 :: o2 :: o3 :: o4 :: o5 :: o6 :: o7 :: o8 :: o9 :: o10 :: o11 :: o12 :: o13 :: o14 :: o15 :: o16 :: o17 :: o18 :: o19 :: o20 :: o21 :: o22 :: r) = some (o0 :: o1 :: o2 :: o3 :: o4 :: o5 :: o6 :: o7 :: o8 :: o9 :: o10 :: o11 :: o12 :: o13 :: o14 :: o15 :: o16 :: o17 :: o18 :: o19 :: o20 :: o21 :: some w :: r) := rfl
theorem st_23 {o0 o1 o2 o3 o4 o5 o6 o7 o8 o9 o10 o11 o12 o13 o14 o15 o16 o17 o18 o19 o20 o21 o22 o23 : Option D} {w : Option D} {r : Env} : (o0 :: o1 :: o2 :: o3 :: o4 :: o5 :: o6 :: o7 :: o8 :: o9 :: o10 :: o11 :: o12 :: o13 :: o14 :: o15 :: o16 :: o17 :: o18 :: o19 :: o20 :: o21 :: o22 :: o23 :: r).set 23 w = (o0 :: o1 :: o2 :: o3 :: o4 :: o5 :: o6 :: o7 :: o8 :: o9 :: o10 :: o11 :: o12 :: o13 :: o14 :: o15 :: o16 :: o17 :: o18 :: o19 :: o20 :: o21 :: o22 :: w :: r) := rfl
theorem pv_23 {o0 o1 o2 o3 o4 o5 o6 o7 o8 o9 o10 o11 o12 o13 o14 o15 o16 o17 o18 o19 o20 o21 o22 : Option D} {w : D} {r : Env} : pV 23 (o0 :: o1 :: o2 :: o3 :: o4 :: o5 :: o6 :: o7 :: o8 :: o9 :: o10 :: o11 :: o12 :: o13 :: o14 :: o15 :: o16 :: o17 :: o18 :: o19 :: o20 :: o21 :: o22 :: some w :: r) = some w := rfl
theorem gn_23 {o0 o1 o2 o3 o4 o5 o6 o7 o8 o9 o10 o11 o12 o13 o14 o15 o16 o17 o18 o19 o20 o21 o22 o23 : Option D} {w : D} {r : Env} : gN 23 w (o0 :: o1 :: o2 :: o3 :: o4 :: o5 :: o6 :: o7 :: o8 :: o9 :: o10 :: o11 :: o12 :: o13 :: o14 :: o15 :: o16 :: o17 :: o18 :: o19 :: o20 :: o21 :: o22 :: o23 :: r) = some (o0 :: o1 :: o2 :: o3 :: o4 :: o5 :: o6 :: o7 :: o8 :: o9 :: o10 :: o11 :: o12 :: o13 :: o14 :: o15 :: o16 :: o17 :: o18 :: o19 :: o20 :: o21 :: o22 :: some w :: r) := rfl
theorem st_24 {o0 o1 o2 o3 o4 o5 o6 o7 o8 o9 o10 o11 o12 o13 o14 o15 o16 o17 o18 o19 o20 o21 o22 o23 o24 : Option D} {w : Option D} {r : Env} : (o0 :: o1 :: o2 :: o3 :: o4 :: o5 :: o6 :: o7 :: o8 :: o9 :: o10 :: o11 :: o12 :: o13 :: o14 :: o15 :: o16 :: o17 :: o18 :: o19 :: o20 :: o21 :: o22 :: o23 :: o24 :: r).set 24 w = (o0 :: o1 :: o2 :: o3 :: o4 :: o5 :: o6 :: o7 :: o8 :: o9 :: o10 :: o11 :: o12 :: o13 :: o14 :: o15 :: o16 :: o17 :: o18 :: o19 :: o20 :: o21 :: o22 :: o23 :: w :: r) := rfl
theorem pv_24 {o0 o1 o2 o3 o4 o5 o6 o7 o8 o9 o10 o11 o12 o13 o14 o15 o16 o17 o18 o19 o20 o21 o22 o23 : Option D} {w : D} {r : Env} : pV 24 (o0 :: o1 :: o2 :: o3 :: o4 :: o5 :: o6 :: o7 :: o8 :: o9 :: o10 :: o11 :: o12 :: o13 :: o14 :: o15 :: o16 :: o17 :: o18 :: o19 :: o20 :: o21 :: o22 :: o23 :: some w :: r) = some w := rfl
theorem gn_24 {o0 o1 o2 o3 o4 o5 o6 o7 o8 o9 o10 o11 o12 o13 o14 o15 o16 o17 o18 o19 o20 o21 o22 o23 o24 : Option D} {w : D} {r : Env} : gN 24 w (o0 :: o1 :: o2 :: o3 :: o4 :: o5 :: o6 :: o7 :: o8 :: o9 :: o10 :: o11 :: o12 :: o13 :: o14 :: o15 :: o16 :: o17 :: o18 :: o19 :: o20 :: o21 :: o22 :: o23 :: o24 :: r) = some (o0 :: o1 :: o2 :: o3 :: o4 :: o5 :: o6 :: o7 :: o8 :: o9 :: o10 :: o11 :: o12 :: o13 :: o14 :: o15 :: o16 :: o17 :: o18 :: o19 :: o20 :: o21 :: o22 :: o23 :: some w :: r) := rfl
theorem st_25 {o0 o1 o2 o3 o4 o5 o6 o7 o8 o9 o10 o11 o12 o13 o14 o15 o16 o17 o18 o19 o20 o21 o22 o23 o24 o25 : Option D} {w : Option D} {r : Env} : (o0 :: o1 :: o2 :: o3 :: o4 :: o5 :: o6 :: o7 :: o8 :: o9 :: o10 :: o11 :: o12 :: o13 :: o14 :: o15 :: o16 :: o17 :: o18 :: o19 :: o20 :: o21 :: o22 :: o23 :: o24 :: o25 :: r).set 25 w = (o0 :: o1 :: o2 :: o3 :: o4 :: o5 :: o6 :: o7 :: o8 :: o9 :: o10 :: o11 :: o12 :: o13 :: o14 :: o15 :: o16 :: o17 :: o18 :: o19 :: o20 :: o21 :: o22 :: o23 :: o24 :: w :: r) := rfl
theorem pv_25 {o0 o1 o2 o3 o4 o5 o6 o7 o8 o9 o10 o11 o12 o13 o14 o15 o16 o17 o18 o19 o20 o21 o22 o23 o24 : Option D} {w : D} {r : Env} : pV 25 (o0 :: o1 :: o2 :: o3 :: o4 :: o5 :: o6 :: o7 :: o8 :: o9 :: o10 :: o11 :: o12 :: o13 :: o14 :: o15 :: o16 :: o17 :: o18 :: o19 :: o20 :: o21 :: o22 :: o23 :: o24 :: some w :: r) = some w := rfl
theorem gn_25 {o0 o1 o2 o3 o4 o5 o6 o7 o8 o9 o10 o11 o12 o13 o14 o15 o16 o17 o18 o19 o20 o21 o22 o23 o24 o25 : Option D} {w : D} {r : Env} : gN 25 w (o0 :: o1 :: o2 :: o3 :: o4 :: o5 :: o6 :: o7 :: o8 :: o9 :: o10 :: o11 :: o12 :: o13 :: o14 :: o15 :: o16 :: o17 :: o18 :: o19 :: o20 :: o21 :: o22 :: o23 :: o24 :: o25 :: r) = some (o0 :: o1 :: o2 :: o3 :: o4 :: o5 :: o6 :: o7 :: o8 :: o9 :: o10 :: o11 :: o12 :: o13 :: o14 :: o15 :: o16 :: o17 :: o18 :: o19 :: o20 :: o21 :: o22 :: o23 :: o24 :: some w :: r) := rfl
theorem st_26 {o0 o1 o2 o3 o4 o5 o6 o7 o8 o9 o10 o11 o12 o13 o14 o15 o16 o17 o18 o19 o20 o21 o22 o23 o24 o25 o26 : Option D} {w : Option D} {r : Env} : (o0 :: o1 :: o2 :: o3 :: o4 :: o5 :: o6 :: o7 :: o8 :: o9 :: o10 :: o11 :: o12 :: o13 :: o14 :: o15 :: o16 :: o17 :: o18 :: o19 :: o20 :: o21 :: o22 :: o23 :: o24 :: o25 :: o26 :: r).set 26 w = (o0 :: o1 :: o2 :: o3 :: o4 :: o5 :: o6 :: o7 :: o8 :: o9 :: o10 :: o11 :: o12 :: o13 :: o14 :: o15 :: o16 :: o17 :: o18 :: o19 :: o20 :: o21 :: o22 :: o23 :: o24 :: o25 :: w :: r) := rfl
theorem pv_26 {o0 o1 o2 o3 o4 o5 o6 o7 o8 o9 o10 o11 o12 o13 o14 o15 o16 o17 o18 o19 o20 o21 o22 o23 o24 o25 : Option D} {w : D} {r : Env} : pV 26 (o0 :: o1 :: o2 :: o3 :: o4 :: o5 :: o6 :: o7 :: o8 :: o9 :: o10 :: o11 :: o12 :: o13 :: o14 :: o15 :: o16 :: o17 :: o18 :: o19 :: o20 :: o21 :: o22 :: o23 :: o24 :: o25 :: some w :: r) = some w := rfl
theorem gn_26 {o0 o1 o2 o3 o4 o5 o6 o7 o8 o9 o10 o11 o12 o13 o14 o15 o16 o17 o18 o19 o20 o21 o22 o23 o24 o25 o26 : Option D} {w : D} {r : Env} : gN 26 w (o0 :: o1 :: o2 :: o3 :: o4 :: o5 :: o6 :: o7 :: o8 :: o9 :: o10 :: o11 :: o12 :: o13 :: o14 :: o15 :: o16 :: o17 :: o18 :: o19 :: o20 :: o21 :: o22 :: o23 :: o24 :: o25 :: o26 :: r) = some (o0 :: o1 :: o2 :: o3 :: o4 :: o5 :: o6 :: o7 :: o8 :: o9 :: o10 :: o11 :: o12 :: o13 :: o14 :: o15 :: o16 :: o17 :: o18 :: o19 :: o20 :: o21 :: o22 :: o23 :: o24 :: o25 :: some w :: r) := rfl
theorem st_27 {o0 o1 o2 o3 o4 o5 o6 o7 o8 o9 o10 o11 o12 o13 o14 o15 o16 o17 o18 o19 o20 o21 o22 o23 o24 o25 o26 o27 : Option D} {w : Option D} {r : Env} : (o0 :: o1 :: o2 :: o3 :: o4 :: o5 :: o6 :: o7 :: o8 :: o9 :: o10 :: o11 :: o12 :: o13 :: o14 :: o15 :: o16 :: o17 :: o18 :: o19 :: o20 :: o21 :: o22 :: o23 :: o24 :: o25 :: o26 :: o27 :: r).set 27 w = (o0 :: o1 :: o2 :: o3 :: o4 :: o5 :: o6 :: o7 :: o8 :: o9 :: o10 :: o11 :: o12 :: o13 :: o14 :: o15 :: o16 :: o17 :: o18 :: o19 :: o20 :: o21 :: o22 :: o23 :: o24 :: o25 :: o26 :: w :: r) := rfl
theorem pv_27 {o0 o1 o2 o3 o4 o5 o6 o7 o8 o9 o10 o11 o12 o13 o14 o15 o16 o17 o18 o19 o20 o21 o22 o23 o24 o25 o26 : Option D} {w : D} {r : Env} : pV 27 (o0 :: o1 :: o2 :: o3 :: o4 :: o5 :: o6 :: o7 :: o8 :: o9 :: o10 :: o11 :: o12 :: o13 :: o14 :: o15 :: o16 :: o17 :: o18 :: o19 :: o20 :: o21 :: o22 :: o23 :: o24 :: o25 :: o26 :: some w :: r) = some w := rfl
theorem gn_27 {o0 o1 o2 o3 o4 o5 o6 o7 o8 o9 o10 o11 o12 o13 o14 o15 o16 o17 o18 o19 o20 o21 o22 o23 o24 o25 o26 o27 : Option D} {w : D} {r : Env} : gN 27 w (o0 :: o1 :: o2 :: o3 :: o4 :: o5 :: o6 :: o7 :: o8 :: o9 :: o10 :: o11 :: o12 :: o13 :: o14 :: o15 :: o16 :: o17 :: o18 :: o19 :: o20 :: o21 :: o22 :: o23 :: o24 :: o25 :: o26 :: o27 :: r) = some (o0 :: o1 :: o2 :: o3 :: o4 :: o5 :: o6 :: o7 :: o8 :: o9 :: o10 :: o11 :: o12 :: o13 :: o14 :: o15 :: o16 :: o17 :: o18 :: o19 :: o20 :: o21 :: o22 :: o23 :: o24 :: o25 :: o26 :: some w :: r) := rfl
theorem st_28 {o0 o1 o2 o3 o4 o5 o6 o7 o8 o9 o10 o11 o12 o13 o14 o15 o16 o17 o18 o19 o20 o21 o22 o23 o24 o25 o26 o27 o28 : Option D} {w : Option D} {r : Env} : (o0 :: o1 :: o2 :: o3 :: o4 :: o5 :: o6 :: o7 :: o8 :: o9 :: o10 :: o11 :: o12 :: o13 :: o14 :: o15 :: o16 :: o17 :: o18 :: o19 :: o20 :: o21 :: o22 :: o23 :: o24 :: o25 :: o26 :: o27 :: o28 :: r).set 28 w = (o0 :: o1 :: o2 :: o3 :: o4 :: o5 :: o6 :: o7 :: o8 :: o9 :: o10 :: o11 :: o12 :: o13 :: o14 :: o15 :: o16 :: o17 :: o18 :: o19 :: o20 :: o21 :: o22 :: o23 :: o24 :: o25 :: o26 :: o27 :: w :: r) := rfl
theorem pv_28 {o0 o1 o2 o3 o4 o5 o6 o7 o8 o9 o10 o11 o12 o13 o14 o15 o16 o17 o18 o19 o20 o21 o22 o23 o24 o25 o26 o27 : Option D} {w : D} {r : Env} : pV 28 (o0 :: o1 :: o2 :: o3 :: o4 :: o5 :: o6 :: o7 :: o8 :: o9 :: o10 :: o11 :: o12 :: o13 :: o14 :: o15 :: o16 :: o17 :: o18 :: o19 :: o20 :: o21 :: o22 :: o23 :: o24 :: o25 :: o26 :: o27 :: some w :: r) = some w := rfl
theorem gn_28 {o0 o1 o2 o3 o4 o5 o6 o7 o8 o9 o10 o11 o12 o13 o14 o15 o16 o17 o18 o19 o20 o21 o22 o23 o24 o25 o26 o27 o28 : Option D} {w : D} {r : Env} : gN 28 w (o0 :: o1 :: o2 :: o3 :: o4 :: o5 :: o6 :: o7 :: o8 :: o9 :: o10 :: o11 :: o12 :: o13 :: o14 :: o15 :: o16 :: o17 :: o18 :: o19 :: o20 :: o21 :: o22 :: o23 :: o24 :: o25 :: o26 :: o27 :: o28 :: r) = some (o0 :: o1 :: o2 :: o3 :: o4 :: o5 :: o6 :: o7 :: o8 :: o9 :: o10 :: o11 :: o12 :: o13 :: o14 :: o15 :: o16 :: o17 :: o18 :: o19 :: o20 :: o21 :: o22 :: o23 :: o24 :: o25 :: o26 :: o27 :: some w :: r) := rfl
theorem st_29 {o0 o1 o2 o3 o4 o5 o6 o7 o8 o9 o10 o11 o12 o13 o14 o15 o16 o17 o18 o19 o20 o21 o22 o23 o24 o25 o26 o27 o28 o29 : Option D} {w : Option D} {r : Env} : (o0 :: o1 :: o2 :: o3 :: o4 :: o5 :: o6 :: o7 :: o8 :: o9 :: o10 :: o11 :: o12 :: o13 :: o14 :: o15 :: o16 :: o17 :: o18 :: o19 :: o20 :: o21 :: o22 :: o23 :: o24 :: o25 :: o26 :: o27 :: o28 :: o29 :: r).set 29 w = (o0 :: o1 :: o2 :: o3 :: o4 :: o5 :: o6 :: o7 :: o8 :: o9 :: o10 :: o11 :: o12 :: o13 :: o14 :: o15 :: o16 :: o17 :: o18 :: o19 :: o20 :: o21 :: o22 :: o23 :: o24 :: o25 :: o26 :: o27 :: o28 :: w :: r) := rfl
theorem pv_29 {o0 o1 o2 o3 o4 o5 o6 o7 o8 o9 o10 o11 o12 o13 o14 o15 o16 o17 o18 o19 o20 o21 o22 o23 o24 o25 o26 o27 o28 : Option D} {w : D} {r : Env} : pV 29 (o0 :: o1 :: o2 :: o3 :: o4 :: o5 :: o6 :: o7 :: o8 :: o9 :: o10 :: o11 :: o12 :: o13 :: o14 :: o15 :: o16 :: o17 :: o18 :: o19 :: o20 :: o21 :: o22 :: o23 :: o24 :: o25 :: o26 :: o27 :: o28 :: some w :: r) = some w := rfl
theorem gn_29 {o0 o1 o2 o3 o4 o5 o6 o7 o8 o9 o10 o11 o12 o13 o14 o15 o16 o17 o18 o19 o20 o21 o22 o23 o24 o25 o26 o27 o28 o29 : Option D} {w : D} {r : Env} : gN 29 w (o0 :: o1 :: o2 :: o3 :: o4 :: o5 :: o6 :: o7 :: o8 :: o9 :: o10 :: o11 :: o12 :: o13 :: o14 :: o15 :: o16 :: o17 :: o18 :: o19 :: o20 :: o21 :: o22 :: o23 :: o24 :: o25 :: o26 :: o27 :: o28 :: o29 :: r) = some (o0 :: o1 :: o2 :: o3 :: o4 :: o5 :: o6 :: o7 :: o8 :: o9 :: o10 :: o11 :: o12 :: o13 :: o14 :: o15 :: o16 :: o17 :: o18 :: o19 :: o20 :: o21 :: o22 :: o23 :: o24 :: o25 :: o26 :: o27 :: o28 :: some w :: r) := rfl
theorem st_30 {o0 o1 o2 o3 o4 o5 o6 o7 o8 o9 o10 o11 o12 o13 o14 o15 o16 o17 o18 o19 o20 o21 o22 o23 o24 o25 o26 o27 o28 o29 o30 : Option D} {w : Option D} {r : Env} : (o0 :: o1 :: o2 :: o3 :: o4 :: o5 :: o6 :: o7 :: o8 :: o9 :: o10 :: o11 :: o12 :: o13 :: o14 :: o15 :: o16 :: o17 :: o18 :: o19 :: o20 :: o21 :: o22 :: o23 :: o24 :: o25 :: o26 :: o27 :: o28 :: o29 :: o30 :: r).set 30 w = (o0 :: o1 :: o2 :: o3 :: o4 :: o5 :: o6 :: o7 :: o8 :: o9 :: o10 :: o11 :: o12 :: o13 :: o14 :: o15 :: o16 :: o17 :: o18 :: o19 :: o20 :: o21 :: o22 :: o23 :: o24 :: o25 :: o26 :: o27 :: o28 :: o29 :: w :: r) := rfl
theorem pv_30 {o0 o1 o2 o3 o4 o5 o6 o7 o8 o9 o10 o11 o12 o13 o14 o15 o16 o17 o18 o19 o20 o21 o22 o23 o24 o25 o26 o27 o28 o29 : Option D} {w : D} {r : Env} : pV 30 (o0 :: o1 :: o2 :: o3 :: o4 :: o5 :: o6 :: o7 :: o8 :: o9 :: o10 :: o11 :: o12 :: o13 :: o14 :: o15 :: o16 :: o17 :: o18 :: o19 :: o20 :: o21 :: o22 :: o23 :: o24 :: o25 :: o26 :: o27 :: o28 :: o29 :: some w :: r) = some w := rfl
theorem gn_30 {o0 o1 o2 o3 o4 o5 o6 o7 o8 o9 o10 o11 o12 o13 o14 o15 o16 o17 o18 o19 o20 o21 o22 o23 o24 o25 o26 o27 o28 o29 o30 : Option D} {w : D} {r : Env} : gN 30 w (o0 :: o1 :: o2 :: o3 :: o4 :: o5 :: o6 :: o7 :: o8 :: o9 :: o10 :: o11 :: o12 :: o13 :: o14 :: o15 :: o16 :: o17 :: o18 :: o19 :: o20 :: o21 :: o22 :: o23 :: o24 :: o25 :: o26 :: o27 :: o28 :: o29 :: o30 :: r) = some (o0 :: o1 :: o2 :: o3 :: o4 :: o5 :: o6 :: o7 :: o8 :: o9 :: o10 :: o11 :: o12 :: o13 :: o14 :: o15 :: o16 :: o17 :: o18 :: o19 :: o20 :: o21 :: o22 :: o23 :: o24 :: o25 :: o26 :: o27 :: o28 :: o29 :: some w :: r) := rfl
theorem st_31 {o0 o1 o2 o3 o4 o5 o6 o7 o8 o9 o10 o11 o12 o13 o14 o15 o16 o17 o18 o19 o20 o21 o22 o23 o24 o25 o26 o27 o28 o29 o30 o31 : Option D} {w : Option D} {r : Env} : (o0 :: o1 :: o2 :: o3 :: o4 :: o5 :: o6 :: o7 :: o8 :: o9 :: o10 :: o11 :: o12 :: o13 :: o14 :: o15 :: o16 :: o17 :: o18 :: o19 :: o20 :: o21 :: o22 :: o23 :: o24 :: o25 :: o26 :: o27 :: o28 :: o29 :: o30 :: o31 :: r).set 31 w = (o0 :: o1 :: o2 :: o3 :: o4 :: o5 :: o6 :: o7 :: o8 :: o9 :: o10 :: o11 :: o12 :: o13 :: o14 :: o15 :: o16 :: o17 :: o18 :: o19 :: o20 :: o21 :: o22 :: o23 :: o24 :: o25 :: o26 :: o27 :: o28 :: o29 :: o30 :: w :: r) := rfl
theorem pv_31 {o0 o1 o2 o3 o4 o5 o6 o7 o8 o9 o10 o11 o12 o13 o14 o15 o16 o17 o18 o19 o20 o21 o22 o23 o24 o25 o26 o27 o28 o29 o30 : Option D} {w : D} {r : Env} : pV 31 (o0 :: o1 :: o2 :: o3 :: o4 :: o5 :: o6 :: o7 :: o8 :: o9 :: o10 :: o11 :: o12 :: o13 :: o14 :: o15 :: o16 :: o17 :: o18 :: o19 :: o20 :: o21 :: o22 :: o23 :: o24 :: o25 :: o26 :: o27 :: o28 :: o29 :: o30 :: some w :: r) = some w := rfl
theorem gn_31 {o0 o1 o2 o3 o4 o5 o6 o7 o8 o9 o10 o11 o12 o13 o14 o15 o16 o17 o18 o19 o20 o21 o22 o23 o24 o25 o26 o27 o28 o29 o30 o31 : Option D} {w : D} {r : Env} : gN 31 w (o0 :: o1 :: o2 :: o3 :: o4 :: o5 :: o6 :: o7 :: o8 :: o9 :: o10 :: o11 :: o12 :: o13 :: o14 :: o15 :: o16 :: o17 :: o18 :: o19 :: o20 :: o21 :: o22 :: o23 :: o24 :: o25 :: o26 :: o27 :: o28 :: o29 :: o30 :: o31 :: r) = some (o0 :: o1 :: o2 :: o3 :: o4 :: o5 :: o6 :: o7 :: o8 :: o9 :: o10 :: o11 :: o12 :: o13 :: o14 :: o15 :: o16 :: o17 :: o18 :: o19 :: o20 :: o21 :: o22 :: o23 :: o24 :: o25 :: o26 :: o27 :: o28 :: o29 :: o30 :: some w :: r) := rfl
theorem st_32 {o0 o1 o2 o3 o4 o5 o6 o7 o8 o9 o10 o11 o12 o13 o14 o15 o16 o17 o18 o19 o20 o21 o22 o23 o24 o25 o26 o27 o28 o29 o30 o31 o32 : Option D} {w : Option D} {r : Env} : (o0 :: o1 :: o2 :: o3 :: o4 :: o5 :: o6 :: o7 :: o8 :: o9 :: o10 :: o11 :: o12 :: o13 :: o14 :: o15 :: o16 :: o17 :: o18 :: o19 :: o20 :: o21 :: o22 :: o23 :: o24 :: o25 :: o26 :: o27 :: o28 :: o29 :: o30 :: o31 :: o32 :: r).set 32 w = (o0 :: o1 :: o2 :: o3 :: o4 :: o5 :: o6 :: o7 :: o8 :: o9 :: o10 :: o11 :: o12 :: o13 :: o14 :: o15 :: o16 :: o17 :: o18 :: o19 :: o20 :: o21 :: o22 :: o23 :: o24 :: o25 :: o26 :: o27 :: o28 :: o29 :: o30 :: o31 :: w :: r) := rfl
theorem pv_32 {o0 o1 o2 o3 o4 o5 o6 o7 o8 o9 o10 o11 o12 o13 o14 o15 o16 o17 o18 o19 o20 o21 o22 o23 o24 o25 o26 o27 o28 o29 o30 o31 : Option D} {w : D} {r : Env} : pV 32 (o0 :: o1 :: o2 :: o3 :: o4 :: o5 :: o6 :: o7 :: o8 :: o9 :: o10 :: o11 :: o12 :: o13 :: o14 :: o15 :: o16 :: o17 :: o18 :: o19 :: o20 :: o21 :: o22 :: o23 :: o24 :: o25 :: o26 :: o27 :: o28 :: o29 :: o30 :: o31 :: some w :: r) = some w := rfl
theorem gn_32 {o0 o1 o2 o3 o4 o5 o6 o7 o8 o9 o10 o11 o12 o13 o14 o15 o16 o17 o18 o19 o20 o21 o22 o23 o24 o25 o26 o27 o28 o29 o30 o31 o32 : Option D} {w : D} {r : Env} : gN 32 w (o0 :: o1 :: o2 :: o3 :: o4 :: o5 :: o6 :: o7 :: o8 :: o9 :: o10 :: o11 :: o12 :: o13 :: o14 :: o15 :: o16 :: o17 :: o18 :: o19 :: o20 :: o21 :: o22 :: o23 :: o24 :: o25 :: o26 :: o27 :: o28 :: o29 :: o30 :: o31 :: o32 :: r) = some (o0 :: o1 :: o2 :: o3 :: o4 :: o5 :: o6 :: o7 :: o8 :: o9 :: o10 :: o11 :: o12 :: o13 :: o14 :: o15 :: o16 :: o17 :: o18 :: o19 :: o20 :: o21 :: o22 :: o23 :: o24 :: o25 :: o26 :: o27 :: o28 :: o29 :: o30 :: o31 :: some w :: r) := rfl
theorem st_33 {o0 o1 o2 o3 o4 o5 o6 o7 o8 o9 o10 o11 o12 o13 o14 o15 o16 o17 o18 o19 o20 o21 o22 o23 o24 o25 o26 o27 o28 o29 o30 o31 o32 o33 : Option D} {w : Option D} {r : Env} : (o0 :: o1 :: o2 :: o3 :: o4 :: o5 :: o6 :: o7 :: o8 :: o9 :: o10 :: o11 :: o12 :: o13 :: o14 :: o15 :: o16 :: o17 :: o18 :: o19 :: o20 :: o21 :: o22 :: o23 :: o24 :: o25 :: o26 :: o27 :: o28 :: o29 :: o30 :: o31 :: o32 :: o33 :: r).set 33 w = (o0 :: o1 :: o2 :: o3 :: o4 :: o5 :: o6 :: o7 :: o8 :: o9 :: o10 :: o11 :: o12 :: o13 :: o14 :: o15 :: o16 :: o17 :: o18 :: o19 :: o20 :: o21 :: o22 :: o23 :: o24 :: o25 :: o26 :: o27 :: o28 :: o29 :: o30 :: o31 :: o32 :: w :: r) := rfl
theorem pv_33 {o0 o1 o2 o3 o4 o5 o6 o7 o8 o9 o10 o11 o12 o13 o14 o15 o16 o17 o18 o19 o20 o21 o22 o23 o24 o25 o26 o27 o28 o29 o30 o31 o32 : Option D} {w : D} {r : Env} : pV 33 (o0 :: o1 :: o2 :: o3 :: o4 :: o5 :: o6 :: o7 :: o8 :: o9 :: o10 :: o11 :: o12 :: o13 :: o14 :: o15 :: o16 :: o17 :: o18 :: o19 :: o20 :: o21 :: o22 :: o23 :: o24 :: o25 :: o26 :: o27 :: o28 :: o29 :: o30 :: o31 :: o32 :: some w :: r) = some w := rfl
theorem gn_33 {o0 o1 o2 o3 o4 o5 o6 o7 o8 o9 o10 o11 o12 o13 o14 o15 o16 o17 o18 o19 o20 o21 o22 o23 o24 o25 o26 o27 o28 o29 o30 o31 o32 o33 : Option D} {w : D} {r : Env} : gN 33 w (o0 :: o1 :: o2 :: o3 :: o4 :: o5 :: o6 :: o7 :: o8 :: o9 :: o10 :: o11 :: o12 :: o13 :: o14 :: o15 :: o16 :: o17 :: o18 :: o19 :: o20 :: o21 :: o22 :: o23 :: o24 :: o25 :: o26 :: o27 :: o28 :: o29 :: o30 :: o31 :: o32 :: o33 :: r) = some (o0 :: o1 :: o2 :: o3 :: o4 :: o5 :: o6 :: o7 :: o8 :: o9 :: o10 :: o11 :: o12 :: o13 :: o14 :: o15 :: o16 :: o17 :: o18 :: o19 :: o20 :: o21 :: o22 :: o23 :: o24 :: o25 :: o26 :: o27 :: o28 :: o29 :: o30 :: o31 :: o32 :: some w :: r) := rfl
theorem st_34 {o0 o1 o2 o3 o4 o5 o6 o7 o8 o9 o10 o11 o12 o13 o14 o15 o16 o17 o18 o19 o20 o21 o22 o23 o24 o25 o26 o27 o28 o29 o30 o31 o32 o33 o34 : Option D} {w : Option D} {r : Env} : (o0 :: o1 :: o2 :: o3 :: o4 :: o5 :: o6 :: o7 :: o8 :: o9 :: o10 :: o11 :: o12 :: o13 :: o14 :: o15 :: o16 :: o17 :: o18 :: o19 :: o20 :: o21 :: o22 :: o23 :: o24 :: o25 :: o26 :: o27 :: o28 :: o29 :: o30 :: o31 :: o32 :: o33 :: o34 :: r).set 34 w = (o0 :: o1 :: o2 :: o3 :: o4 :: o5 :: o6 :: o7 :: o8 :: o9 :: o10 :: o11 :: o12 :: o13 :: o14 :: o15 :: o16 :: o17 :: o18 :: o19 :: o20 :: o21 :: o22 :: o23 :: o24 :: o25 :: o26 :: o27 :: o28 :: o29 :: o30 :: o31 :: o32 :: o33 :: w :: r) := rfl
theorem pv_34 {o0 o1 o2 o3 o4 o5 o6 o7 o8 o9 o10 o11 o12 o13 o14 o15 o16 o17 o18 o19 o20 o21 o22 o23 o24 o25 o26 o27 o28 o29 o30 o31 o32 o33 : Option D} {w : D} {r : Env} : pV 34 (o0 :: o1 :: o2 :: o3 :: o4 :: o5 :: o6 :: o7 :: o8 :: o9 :: o10 :: o11 :: o12 :: o13 :: o14 :: o15 :: o16 :: o17 :: o18 :: o19 :: o20 :: o21 :: o22 :: o23 :: o24 :: o25 :: o26 :: o27 :: o28 :: o29 :: o30 :: o31 :: o32 :: o33 :: some w :: r) = some w := rfl
theorem gn_34 {o0 o1 o2 o3 o4 o5 o6 o7 o8 o9 o10 o11 o12 o13 o14 o15 o16 o17 o18 o19 o20 o21 o22 o23 o24 o25 o26 o27 o28 o29 o30 o31 o32 o33 o34 : Option D} {w : D} {r : Env} : gN 34 w (o0 :: o1 :: o2 :: o3 :: o4 :: o5 :: o6 :: o7 :: o8 :: o9 :: o10 :: o11 :: o12 :: o13 :: o14 :: o15 :: o16 :: o17 :: o18 :: o19 :: o20 :: o21 :: o22 :: o23 :: o24 :: o25 :: o26 :: o27 :: o28 :: o29 :: o30 :: o31 :: o32 :: o33 :: o34 :: r) = some (o0 :: o1 :: o2 :: o3 :: o4 :: o5 :: o6 :: o7 :: o8 :: o9 :: o10 :: o11 :: o12 :: o13 :: o14 :: o15 :: o16 :: o17 :: o18 :: o19 :: o20 :: o21 :: o22 :: o23 :: o24 :: o25 :: o26 :: o27 :: o28 :: o29 :: o30 :: o31 :: o32 :: o33 :: some w :: r) := rfl
theorem st_35 {o0 o1 o2 o3 o4 o5 o6 o7 o8 o9 o10 o11 o12 o13 o14 o15 o16 o17 o18 o19 o20 o21 o22 o23 o24 o25 o26 o27 o28 o29 o30 o31 o32 o33 o34 o35 : Option D} {w : Option D} {r : Env} : (o0 :: o1 :: o2 :: o3 :: o4 :: o5 :: o6 :: o7 :: o8 :: o9 :: o10 :: o11 :: o12 :: o13 :: o14 :: o15 :: o16 :: o17 :: o18 :: o19 :: o20 :: o21 :: o22 :: o23 :: o24 :: o25 :: o26 :: o27 :: o28 :: o29 :: o30 :: o31 :: o32 :: o33 :: o34 :: o35 :: r).set 35 w = (o0 :: o1 :: o2 :: o3 :: o4 :: o5 :: o6 :: o7 :: o8 :: o9 :: o10 :: o11 :: o12 :: o13 :: o14 :: o15 :: o16 :: o17 :: o18 :: o19 :: o20 :: o21 :: o22 :: o23 :: o24 :: o25 :: o26 :: o27 :: o28 :: o29 :: o30 :: o31 :: o32 :: o33 :: o34 :: w :: r) := rfl
theorem pv_35 {o0 o1 o2 o3 o4 o5 o6 o7 o8 o9 o10 o11 o12 o13 o14 o15 o16 o17 o18 o19 o20 o21 o22 o23 o24 o25 o26 o27 o28 o29 o30 o31 o32 o33 o34 : Option D} {w : D} {r : Env} : pV 35 (o0 :: o1 :: o2 :: o3 :: o4 :: o5 :: o6 :: o7 :: o8 :: o9 :: o10 :: o11 :: o12 :: o13 :: o14 :: o15 :: o16 :: o17 :: o18 :: o19 :: o20 :: o21 :: o22 :: o23 :: o24 :: o25 :: o26 :: o27 :: o28 :: o29 :: o30 :: o31 :: o32 :: o33 :: o34 :: some w :: r) = some w := rfl
theorem gn_35 {o0 o1 o2 o3 o4 o5 o6 o7 o8 o9 o10 o11 o12 o13 o14 o15 o16 o17 o18 o19 o20 o21 o22 o23 o24 o25 o26 o27 o28 o29 o30 o31 o32 o33 o34 o35 : Option D} {w : D} {r : Env} : gN 35 w (o0 :: o1 :: o2 :: o3 :: o4 :: o5 :: o6 :: o7 :: o8 :: o9 :: o10 :: o11 :: o12 :: o13 :: o14 :: o15 :: o16 :: o17 :: o18 :: o19 :: o20 :: o21 :: o22 :: o23 :: o24 :: o25 :: o26 :: o27 :: o28 :: o29 :: o30 :: o31 :: o32 :: o33 :: o34 :: o35 :: r) = some (o0 :: o1 :: o2 :: o3 :: o4 :: o5 :: o6 :: o7 :: o8 :: o9 :: o10 :: o11 :: o12 :: o13 :: o14 :: o15 :: o16 :: o17 :: o18 :: o19 :: o20 :: o21 :: o22 :: o23 :: o24 :: o25 :: o26 :: o27 :: o28 :: o29 :: o30 :: o31 :: o32 :: o33 :: o34 :: some w :: r) := rfl
theorem st_36 {o0 o1 o2 o3 o4 o5 o6 o7 o8 o9 o10 o11 o12 o13 o14 o15 o16 o17 o18 o19 o20 o21 o22 o23 o24 o25 o26 o27 o28 o29 o30 o31 o32 o33 o34 o35 o36 : Option D} {w : Option D} {r : Env} : (o0 :: o1 :: o2 :: o3 :: o4 :: o5 :: o6 :: o7 :: o8 :: o9 :: o10 :: o11 :: o12 :: o13 :: o14 :: o15 :: o16 :: o17 :: o18 :: o19 :: o20 :: o21 :: o22 :: o23 :: o24 :: o25 :: o26 :: o27 :: o28 :: o29 :: o30 :: o31 :: o32 :: o33 :: o34 :: o35 :: o36 :: r).set 36 w = (o0 :: o1 :: o2 :: o3 :: o4 :: o5 :: o6 :: o7 :: o8 :: o9 :: o10 :: o11 :: o12 :: o13 :: o14 :: o15 :: o16 :: o17 :: o18 :: o19 :: o20 :: o21 :: o22 :: o23 :: o24 :: o25 :: o26 :: o27 :: o28 :: o29 :: o30 :: o31 :: o32 :: o33 :: o34 :: o35 :: w :: r) := rfl
theorem pv_36 {o0 o1 o2 o3 o4 o5 o6 o7 o8 o9 o10 o11 o12 o13 o14 o15 o16 o17 o18 o19 o20 o21 o22 o23 o24 o25 o26 o27 o28 o29 o30 o31 o32 o33 o34 o35 : Option D} {w : D} {r : Env} : pV 36 (o0 :: o1 :: o2 :: o3 :: o4 :: o5 :: o6 :: o7 :: o8 :: o9 :: o10 :: o11 :: o12 :: o13 :: o14 :: o15 :: o16 :: o17 :: o18 :: o19 :: o20 :: o21 :: o22 :: o23 :: o24 :: o25 :: o26 :: o27 :: o28 :: o29 :: o30 :: o31 :: o32 :: o33 :: o34 :: o35 :: some w :: r) = some w := rfl
theorem gn_36 {o0 o1 o2 o3 o4 o5 o6 o7 o8 o9 o10 o11 o12 o13 o14 o15 o16 o17 o18 o19 o20 o21 o22 o23 o24 o25 o26 o27 o28 o29 o30 o31 o32 o33 o34 o35 o36 : Option D} {w : D} {r : Env} : gN 36 w (o0 :: o1 :: o2 :: o3 :: o4 :: o5 :: o6 :: o7 :: o8 :: o9 :: o10 :: o11 :: o12 :: o13 :: o14 :: o15 :: o16 :: o17 :: o18 :: o19 :: o20 :: o21 :: o22 :: o23 :: o24 :: o25 :: o26 :: o27 :: o28 :: o29 :: o30 :: o31 :: o32 :: o33 :: o34 :: o35 :: o36 :: r) = some (o0 :: o1 :: o2 :: o3 :: o4 :: o5 :: o6 :: o7 :: o8 :: o9 :: o10 :: o11 :: o12 :: o13 :: o14 :: o15 :: o16 :: o17 :: o18 :: o19 :: o20 :: o21 :: o22 :: o23 :: o24 :: o25 :: o26 :: o27 :: o28 :: o29 :: o30 :: o31 :: o32 :: o33 :: o34 :: o35 :: some w :: r) := rfl
theorem st_37 {o0 o1 o2 o3 o4 o5 o6 o7 o8 o9 o10 o11 o12 o13 o14 o15 o16 o17 o18 o19 o20 o21 o22 o23 o24 o25 o26 o27 o28 o29 o30 o31 o32 o33 o34 o35 o36 o37 : Option D} {w : Option D} {r : Env} : (o0 :: o1 :: o2 :: o3 :: o4 :: o5 :: o6 :: o7 :: o8 :: o9 :: o10 :: o11 :: o12 :: o13 :: o14 :: o15 :: o16 :: o17 :: o18 :: o19 :: o20 :: o21 :: o22 :: o23 :: o24 :: o25 :: o26 :: o27 :: o28 :: o29 :: o30 :: o31 :: o32 :: o33 :: o34 :: o35 :: o36 :: o37 :: r).set 37 w = (o0 :: o1 :: o2 :: o3 :: o4 :: o5 :: o6 :: o7 :: o8 :: o9 :: o10 :: o11 :: o12 :: o13 :: o14 :: o15 :: o16 :: o17 :: o18 :: o19 :: o20 :: o21 :: o22 :: o23 :: o24 :: o25 :: o26 :: o27 :: o28 :: o29 :: o30 :: o31 :: o32 :: o33 :: o34 :: o35 :: o36 :: w :: r) := rfl
theorem pv_37 {o0 o1 o2 o3 o4 o5 o6 o7 o8 o9 o10 o11 o12 o13 o14 o15 o16 o17 o18 o19 o20 o21 o22 o23 o24 o25 o26 o27 o28 o29 o30 o31 o32 o33 o34 o35 o36 : Option D} {w : D} {r : Env} : pV 37 (o0 :: o1 :: o2 :: o3 :: o4 :: o5 :: o6 :: o7 :: o8 :: o9 :: o10 :: o11 :: o12 :: o13 :: o14 :: o15 :: o16 :: o17 :: o18 :: o19 :: o20 :: o21 :: o22 :: o23 :: o24 :: o25 :: o26 :: o27 :: o28 :: o29 :: o30 :: o31 :: o32 :: o33 :: o34 :: o35 :: o36 :: some w :: r) = some w := rfl
theorem gn_37 {o0 o1 o2 o3 o4 o5 o6 o7 o8 o9 o10 o11 o12 o13 o14 o15 o16 o17 o18 o19 o20 o21 o22 o23 o24 o25 o26 o27 o28 o29 o30 o31 o32 o33 o34 o35 o36 o37 : Option D} {w : D} {r : Env} : gN 37 w (o0 :: o1 :: o2 :: o3 :: o4 :: o5 :: o6 :: o7 :: o8 :: o9 :: o10 :: o11 :: o12 :: o13 :: o14 :: o15 :: o16 :: o17 :: o18 :: o19 :: o20 :: o21 :: o22 :: o23 :: o24 :: o25 :: o26 :: o27 :: o28 :: o29 :: o30 :: o31 :: o32 :: o33 :: o34 :: o35 :: o36 :: o37 :: r) = some (o0 :: o1 :: o2 :: o3 :: o4 :: o5 :: o6 :: o7 :: o8 :: o9 :: o10 :: o11 :: o12 :: o13 :: o14 :: o15 :: o16 :: o17 :: o18 :: o19 :: o20 :: o21 :: o22 :: o23 :: o24 :: o25 :: o26 :: o27 :: o28 :: o29 :: o30 :: o31 :: o32 :: o33 :: o34 :: o35 :: o36 :: some w :: r) := rfl
theorem st_38 {o0 o1 o2 o3 o4 o5 o6 o7 o8 o9 o10 o11 o12 o13 o14 o15 o16 o17 o18 o19 o20 o21 o22 o23 o24 o25 o26 o27 o28 o29 o30 o31 o32 o33 o34 o35 o36 o37 o38 : Option D} {w : Option D} {r : Env} : (o0 :: o1 :: o2 :: o3 :: o4 :: o5 :: o6 :: o7 :: o8 :: o9 :: o10 :: o11 :: o12 :: o13 :: o14 :: o15 :: o16 :: o17 :: o18 :: o19 :: o20 :: o21 :: o22 :: o23 :: o24 :: o25 :: o26 :: o27 :: o28 :: o29 :: o30 :: o31 :: o32 :: o33 :: o34 :: o35 :: o36 :: o37 :: o38 :: r).set 38 w = (o0 :: o1 :: o2 :: o3 :: o4 :: o5 :: o6 :: o7 :: o8 :: o9 :: o10 :: o11 :: o12 :: o13 :: o14 :: o15 :: o16 :: o17 :: o18 :: o19 :: o20 :: o21 :: o22 :: o23 :: o24 :: o25 :: o26 :: o27 :: o28 :: o29 :: o30 :: o31 :: o32 :: o33 :: o34 :: o35 :: o36 :: o37 :: w :: r) := rfl
theorem pv_38 {o0 o1 o2 o3 o4 o5 o6 o7 o8 o9 o10 o11 o12 o13 o14 o15 o16 o17 o18 o19 o20 o21 o22 o23 o24 o25 o26 o27 o28 o29 o30 o31 o32 o33 o34 o35 o36 o37 : Option D} {w : D} {r : Env} : pV 38 (o0 :: o1 :: o2 :: o3 :: o4 :: o5 :: o6 :: o7 :: o8 :: o9 :: o10 :: o11 :: o12 :: o13 :: o14 :: o15 :: o16 :: o17 :: o18 :: o19 :: o20 :: o21 :: o22 :: o23 :: o24 :: o25 :: o26 :: o27 :: o28 :: o29 :: o30 :: o31 :: o32 :: o33 :: o34 :: o35 :: o36 :: o37 :: some w :: r) = some w := rfl
theorem gn_38 {o0 o1 o2 o3 o4 o5 o6 o7 o8 o9 o10 o11 o12 o13 o14 o15 o16 o17 o18 o19 o20 o21 o22 o23 o24 o25 o26 o27 o28 o29 o30 o31 o32 o33 o34 o35 o36 o37 o38 : Option D} {w : D} {r : Env} : gN 38 w (o0 :: o1 :: o2 :: o3 :: o4 :: o5 :: o6 :: o7 :: o8 :: o9 :: o10 :: o11 :: o12 :: o13 :: o14 :: o15 :: o16 :: o17 :: o18 :: o19 :: o20 :: o21 :: o22 :: o23 :: o24 :: o25 :: o26 :: o27 :: o28 :: o29 :: o30 :: o31 :: o32 :: o33 :: o34 :: o35 :: o36 :: o37 :: o38 :: r) = some (o0 :: o1 :: o2 :: o3 :: o4 :: o5 :: o6 :: o7 :: o8 :: o9 :: o10 :: o11 :: o12 :: o13 :: o14 :: o15 :: o16 :: o17 :: o18 :: o19 :: o20 :: o21 :: o22 :: o23 :: o24 :: o25 :: o26 :: o27 :: o28 :: o29 :: o30 :: o31 :: o32 :: o33 :: o34 :: o35 :: o36 :: o37 :: some w :: r) := rfl
theorem st_39 {o0 o1 o2 o3 o4 o5 o6 o7 o8 o9 o10 o11 o12 o13 o14 o15 o16 o17 o18 o19 o20 o21 o22 o23 o24 o25 o26 o27 o28 o29 o30 o31 o32 o33 o34 o35 o36 o37 o38 o39 : Option D} {w : Option D} {r : Env} : (o0 :: o1 :: o2 :: o3 :: o4 :: o5 :: o6 :: o7 :: o8 :: o9 :: o10 :: o11 :: o12 :: o13 :: o14 :: o15 :: o16 :: o17 :: o18 :: o19 :: o20 :: o21 :: o22 :: o23 :: o24 :: o25 :: o26 :: o27 :: o28 :: o29 :: o30 :: o31 :: o32 :: o33 :: o34 :: o35 :: o36 :: o37 :: o38 :: o39 :: r).set 39 w = (o0 :: o1 :: o2 :: o3 :: o4 :: o5 :: o6 :: o7 :: o8 :: o9 :: o10 :: o11 :: o12 :: o13 :: o14 :: o15 :: o16 :: o17 :: o18 :: o19 :: o20 :: o21 :: o22 :: o23 :: o24 :: o25 :: o26 :: o27 :: o28 :: o29 :: o30 :: o31 :: o32 :: o33 :: o34 :: o35 :: o36 :: o37 :: o38 :: w :: r) := rfl
theorem pv_39 {o0 o1 o2 o3 o4 o5 o6 o7 o8 o9 o10 o11 o12 o13 o14 o15 o16 o17 o18 o19 o20 o21 o22 o23 o24 o25 o26 o27 o28 o29 o30 o31 o32 o33 o34 o35 o36 o37 o38 : Option D} {w : D} {r : Env} : pV 39 (o0 :: o1 :: o2 :: o3 :: o4 :: o5 :: o6 :: o7 :: o8 :: o9 :: o10 :: o11 :: o12 :: o13 :: o14 :: o15 :: o16 :: o17 :: o18 :: o19 :: o20 :: o21 :: o22 :: o23 :: o24 :: o25 :: o26 :: o27 :: o28 :: o29 :: o30 :: o31 :: o32 :: o33 :: o34 :: o35 :: o36 :: o37 :: o38 :: some w :: r) = some w := rfl
theorem gn_39 {o0 o1 o2 o3 o4 o5 o6 o7 o8 o9 o10 o11 o12 o13 o14 o15 o16 o17 o18 o19 o20 o21 o22 o23 o24 o25 o26 o27 o28 o29 o30 o31 o32 o33 o34 o35 o36 o37 o38 o39 : Option D} {w : D} {r : Env} : gN 39 w (o0 :: o1 :: o2 :: o3 :: o4 :: o5 :: o6 :: o7 :: o8 :: o9 :: o10 :: o11 :: o12 :: o13 :: o14 :: o15 :: o16 :: o17 :: o18 :: o19 :: o20 :: o21 :: o22 :: o23 :: o24 :: o25 :: o26 :: o27 :: o28 :: o29 :: o30 :: o31 :: o32 :: o33 :: o34 :: o35 :: o36 :: o37 :: o38 :: o39 :: r) = some (o0 :: o1 :: o2 :: o3 :: o4 :: o5 :: o6 :: o7 :: o8 :: o9 :: o10 :: o11 :: o12 :: o13 :: o14 :: o15 :: o16 :: o17 :: o18 :: o19 :: o20 :: o21 :: o22 :: o23 :: o24 :: o25 :: o26 :: o27 :: o28 :: o29 :: o30 :: o31 :: o32 :: o33 :: o34 :: o35 :: o36 :: o37 :: o38 :: some w :: r) := rfl
theorem st_40 {o0 o1 o2 o3 o4 o5 o6 o7 o8 o9 o10 o11 o12 o13 o14 o15 o16 o17 o18 o19 o20 o21 o22 o23 o24 o25 o26 o27 o28 o29 o30 o31 o32 o33 o34 o35 o36 o37 o38 o39 o40 : Option D} {w : Option D} {r : Env} : (o0 :: o1 :: o2 :: o3 :: o4 :: o5 :: o6 :: o7 :: o8 :: o9 :: o10 :: o11 :: o12 :: o13 :: o14 :: o15 :: o16 :: o17 :: o18 :: o19 :: o20 :: o21 :: o22 :: o23 :: o24 :: o25 :: o26 :: o27 :: o28 :: o29 :: o30 :: o31 :: o32 :: o33 :: o34 :: o35 :: o36 :: o37 :: o38 :: o39 :: o40 :: r).set 40 w = (o0 :: o1 :: o2 :: o3 :: o4 :: o5 :: o6 :: o7 :: o8 :: o9 :: o10 :: o11 :: o12 :: o13 :: o14 :: o15 :: o16 :: o17 :: o18 :: o19 :: o20 :: o21 :: o22 :: o23 :: o24 :: o25 :: o26 :: o27 :: o28 :: o29 :: o30 :: o31 :: o32 :: o33 :: o34 :: o35 :: o36 :: o37 :: o38 :: o39 :: w :: r) := rfl
theorem pv_40 {o0 o1 o2 o3 o4 o5 o6 o7 o8 o9 o10 o11 o12 o13 o14 o15 o16 o17 o18 o19 o20 o21 o22 o23 o24 o25 o26 o27 o28 o29 o30 o31 o32 o33 o34 o35 o36 o37 o38 o39 : Option D} {w : D} {r : Env} : pV 40 (o0 :: o1 :: o2 :: o3 :: o4 :: o5 :: o6 :: o7 :: o8 :: o9 :: o10 :: o11 :: o12 :: o13 :: o14 :: o15 :: o16 :: o17 :: o18 :: o19 :: o20 :: o21 :: o22 :: o23 :: o24 :: o25 :: o26 :: o27 :: o28 :: o29 :: o30 :: o31 :: o32 :: o33 :: o34 :: o35 :: o36 :: o37 :: o38 :: o39 :: some w :: r) = some w := rfl
theorem gn_40 {o0 o1 o2 o3 o4 o5 o6 o7 o8 o9 o10 o11 o12 o13 o14 o15 o16 o17 o18 o19 o20 o21 o22 o23 o24 o25 o26 o27 o28 o29 o30 o31 o32 o33 o34 o35 o36 o37 o38 o39 o40 : Option D} {w : D} {r : Env} : gN 40 w (o0 :: o1 :: o2 :: o3 :: o4 :: o5 :: o6 :: o7 :: o8 :: o9 :: o10 :: o11 :: o12 :: o13 :: o14 :: o15 :: o16 :: o17 :: o18 :: o19 :: o20 :: o21 :: o22 :: o23 :: o24 :: o25 :: o26 :: o27 :: o28 :: o29 :: o30 :: o31 :: o32 :: o33 :: o34 :: o35 :: o36 :: o37 :: o38 :: o39 :: o40 :: r) = some (o0 :: o1 :: o2 :: o3 :: o4 :: o5 :: o6 :: o7 :: o8 :: o9 :: o10 :: o11 :: o12 :: o13 :: o14 :: o15 :: o16 :: o17 :: o18 :: o19 :: o20 :: o21 :: o22 :: o23 :: o24 :: o25 :: o26 :: o27 :: o28 :: o29 :: o30 :: o31 :: o32 :: o33 :: o34 :: o35 :: o36 :: o37 :: o38 :: o39 :: some w :: r) := rfl
theorem st_41 {o0 o1 o2 o3 o4 o5 o6 o7 o8 o9 o10 o11 o12 o13 o14 o15 o16 o17 o18 o19 o20 o21 o22 o23 o24 o25 o26 o27 o28 o29 o30 o31 o32 o33 o34 o35 o36 o37 o38 o39 o40 o41 : Option D} {w : Option D} {r : Env} : (o0 :: o1 :: o2 :: o3 :: o4 :: o5 :: o6 :: o7 :: o8 :: o9 :: o10 :: o11 :: o12 :: o13 :: o14 :: o15 :: o16 :: o17 :: o18 :: o19 :: o20 :: o21 :: o22 :: o23 :: o24 :: o25 :: o26 :: o27 :: o28 :: o29 :: o30 :: o31 :: o32 :: o33 :: o34 :: o35 :: o36 :: o37 :: o38 :: o39 :: o40 :: o41 :: r).set 41 w = (o0 :: o1 :: o2 :: o3 :: o4 :: o5 :: o6 :: o7 :: o8 :: o9 :: o10 :: o11 :: o12 :: o13 :: o14 :: o15 :: o16 :: o17 :: o18 :: o19 :: o20 :: o21 :: o22 :: o23 :: o24 :: o25 :: o26 :: o27 :: o28 :: o29 :: o30 :: o31 :: o32 :: o33 :: o34 :: o35 :: o36 :: o37 :: o38 :: o39 :: o40 :: w :: r) := rfl
theorem pv_41 {o0 o1 o2 o3 o4 o5 o6 o7 o8 o9 o10 o11 o12 o13 o14 o15 o16 o17 o18 o19 o20 o21 o22 o23 o24 o25 o26 o27 o28 o29 o30 o31 o32 o33 o34 o35 o36 o37 o38 o39 o40 : Option D} {w : D} {r : Env} : pV 41 (o0 :: o1 :: o2 :: o3 :: o4 :: o5 :: o6 :: o7 :: o8 :: o9 :: o10 :: o11 :: o12 :: o13 :: o14 :: o15 :: o16 :: o17 :: o18 :: o19 :: o20 :: o21 :: o22 :: o23 :: o24 :: o25 :: o26 :: o27 :: o28 :: o29 :: o30 :: o31 :: o32 :: o33 :: o34 :: o35 :: o36 :: o37 :: o38 :: o39 :: o40 :: some w :: r) = some w := rfl
theorem gn_41 {o0 o1 o2 o3 o4 o5 o6 o7 o8 o9 o10 o11 o12 o13 o14 o15 o16 o17 o18 o19 o20 o21 o22 o23 o24 o25 o26 o27 o28 o29 o30 o31 o32 o33 o34 o35 o36 o37 o38 o39 o40 o41 : Option D} {w : D} {r : Env} : gN 41 w (o0 :: o1 :: o2 :: o3 :: o4 :: o5 :: o6 :: o7 :: o8 :: o9 :: o10 :: o11 :: o12 :: o13 :: o14 :: o15 :: o16 :: o17 :: o18 :: o19 :: o20 :: o21 :: o22 :: o23 :: o24 :: o25 :: o26 :: o27 :: o28 :: o29 :: o30 :: o31 :: o32 :: o33 :: o34 :: o35 :: o36 :: o37 :: o38 :: o39 :: o40 :: o41 :: r) = some (o0 :: o1 :: o2 :: o3 :: o4 :: o5 :: o6 :: o7 :: o8 :: o9 :: o10 :: o11 :: o12 :: o13 :: o14 :: o15 :: o16 :: o17 :: o18 :: o19 :: o20 :: o21 :: o22 :: o23 :: o24 :: o25 :: o26 :: o27 :: o28 :: o29 :: o30 :: o31 :: o32 :: o33 :: o34 :: o35 :: o36 :: o37 :: o38 :: o39 :: o40 :: some w :: r) := rfl
theorem st_42 {o0 o1 o2 o3 o4 o5 o6 o7 o8 o9 o10 o11 o12 o13 o14 o15 o16 o17 o18 o19 o20 o21 o22 o23 o24 o25 o26 o27 o28 o29 o30 o31 o32 o33 o34 o35 o36 o37 o38 o39 o40 o41 o42 : Option D} {w : Option D} {r : Env} : (o0 :: o1 :: o2 :: o3 :: o4 :: o5 :: o6 :: o7 :: o8 :: o9 :: o10 :: o11 :: o12 :: o13 :: o14 :: o15 :: o16 :: o17 :: o18 :: o19 :: o20 :: o21 :: o22 :: o23 :: o24 :: o25 :: o26 :: o27 :: o28 :: o29 :: o30 :: o31 :: o32 :: o33 :: o34 :: o35 :: o36 :: o37 :: o38 :: o39 :: o40 :: o41 :: o42 :: r).set 42 w = (o0 :: o1 :: o2 :: o3 :: o4 :: o5 :: o6 :: o7 :: o8 :: o9 :: o10 :: o11 :: o12 :: o13 :: o14 :: o15 :: o16 :: o17 :: o18 :: o19 :: o20 :: o21 :: o22 :: o23 :: o24 :: o25 :: o26 :: o27 :: o28 :: o29 :: o30 :: o31 :: o32 :: o33 :: o34 :: o35 :: o36 :: o37 :: o38 :: o39 :: o40 :: o41 :: w :: r) := rfl
theorem pv_42 {o0 o1 o2 o3 o4 o5 o6 o7 o8 o9 o10 o11 o12 o13 o14 o15 o16 o17 o18 o19 o20 o21 o22 o23 o24 o25 o26 o27 o28 o29 o30 o31 o32 o33 o34 o35 o36 o37 o38 o39 o40 o41 : Option D} {w : D} {r : Env} : pV 42 (o0 :: o1 :: o2 :: o3 :: o4 :: o5 :: o6 :: o7 :: o8 :: o9 :: o10 :: o11 :: o12 :: o13 :: o14 :: o15 :: o16 :: o17 :: o18 :: o19 :: o20 :: o21 :: o22 :: o23 :: o24 :: o25 :: o26 :: o27 :: o28 :: o29 :: o30 :: o31 :: o32 :: o33 :: o34 :: o35 :: o36 :: o37 :: o38 :: o39 :: o40 :: o41 :: some w :: r) = some w := rfl
theorem gn_42 {o0 o1 o2 o3 o4 o5 o6 o7 o8 o9 o10 o11 o12 o13 o14 o15 o16 o17 o18 o19 o20 o21 o22 o23 o24 o25 o26 o27 o28 o29 o30 o31 o32 o33 o34 o35 o36 o37 o38 o39 o40 o41 o42 : Option D} {w : D} {r : Env} : gN 42 w (o0 :: o1 :: o2 :: o3 :: o4 :: o5 :: o6 :: o7 :: o8 :: o9 :: o10 :: o11 :: o12 :: o13 :: o14 :: o15 :: o16 :: o17 :: o18 :: o19 :: o20 :: o21 :: o22 :: o23 :: o24 :: o25 :: o26 :: o27 :: o28 :: o29 :: o30 :: o31 :: o32 :: o33 :: o34 :: o35 :: o36 :: o37 :: o38 :: o39 :: o40 :: o41 :: o42 :: r) = some (o0 :: o1 :: o2 :: o3 :: o4 :: o5 :: o6 :: o7 :: o8 :: o9 :: o10 :: o11 :: o12 :: o13 :: o14 :: o15 :: o16 :: o17 :: o18 :: o19 :: o20 :: o21 :: o22 :: o23 :: o24 :: o25 :: o26 :: o27 :: o28 :: o29 :: o30 :: o31 :: o32 :: o33 :: o34 :: o35 :: o36 :: o37 :: o38 :: o39 :: o40 :: o41 :: some w :: r) := rfl
theorem st_43 {o0 o1 o2 o3 o4 o5 o6 o7 o8 o9 o10 o11 o12 o13 o14 o15 o16 o17 o18 o19 o20 o21 o22 o23 o24 o25 o26 o27 o28 o29 o30 o31 o32 o33 o34 o35 o36 o37 o38 o39 o40 o41 o42 o43 : Option D} {w : Option D} {r : Env} : (o0 :: o1 :: o2 :: o3 :: o4 :: o5 :: o6 :: o7 :: o8 :: o9 :: o10 :: o11 :: o12 :: o13 :: o14 :: o15 :: o16 :: o17 :: o18 :: o19 :: o20 :: o21 :: o22 :: o23 :: o24 :: o25 :: o26 :: o27 :: o28 :: o29 :: o30 :: o31 :: o32 :: o33 :: o34 :: o35 :: o36 :: o37 :: o38 :: o39 :: o40 :: o41 :: o42 :: o43 :: r).set 43 w = (o0 :: o1 :: o2 :: o3 :: o4 :: o5 :: o6 :: o7 :: o8 :: o9 :: o10 :: o11 :: o12 :: o13 :: o14 :: o15 :: o16 :: o17 :: o18 :: o19 :: o20 :: o21 :: o22 :: o23 :: o24 :: o25 :: o26 :: o27 :: o28 :: o29 :: o30 :: o31 :: o32 :: o33 :: o34 :: o35 :: o36 :: o37 :: o38 :: o39 :: o40 :: o41 :: o42 :: w :: r) := rfl
theorem pv_43 {o0 o1 o2 o3 o4 o5 o6 o7 o8 o9 o10 o11 o12 o13 o14 o15 o16 o17 o18 o19 o20 o21 o22 o23 o24 o25 o26 o27 o28 o29 o30 o31 o32 o33 o34 o35 o36 o37 o38 o39 o40 o41 o42 : Option D} {w : D} {r : Env} : pV 43 (o0 :: o1 :: o2 :: o3 :: o4 :: o5 :: o6 :: o7 :: o8 :: o9 :: o10 :: o11 :: o12 :: o13 :: o14 :: o15 :: o16 :: o17 :: o18 :: o19 :: o20 :: o21 :: o22 :: o23 :: o24 :: o25 :: o26 :: o27 :: o28 :: o29 :: o30 :: o31 :: o32 :: o33 :: o34 :: o35 :: o36 :: o37 :: o38 :: o39 :: o40 :: o41 :: o42 :: some w :: r) = some w := rfl
theorem gn_43 {o0 o1 o2 o3 o4 o5 o6 o7 o8 o9 o10 o11 o12 o13 o14 o15 o16 o17 o18 o19 o20 o21 o22 o23 o24 o25 o26 o27 o28 o29 o30 o31 o32 o33 o34 o35 o36 o37 o38 o39 o40 o41 o42 o43 : Option D} {w : D} {r : Env} : gN 43 w (o0 :: o1 :: o2 :: o3 :: o4 :: o5 :: o6 :: o7 :: o8 :: o9 :: o10 :: o11 :: o12 :: o13 :: o14 :: o15 :: o16 :: o17 :: o18 :: o19 :: o20 :: o21 :: o22 :: o23 :: o24 :: o25 :: o26 :: o27 :: o28 :: o29 :: o30 :: o31 :: o32 :: o33 :: o34 :: o35 :: o36 :: o37 :: o38 :: o39 :: o40 :: o41 :: o42 :: o43 :: r) = some (o0 :: o1 :: o2 :: o3 :: o4 :: o5 :: o6 :: o7 :: o8 :: o9 :: o10 :: o11 :: o12 :: o13 :: o14 :: o15 :: o16 :: o17 :: o18 :: o19 :: o20 :: o21 :: o22 :: o23 :: o24 :: o25 :: o26 :: o27 :: o28 :: o29 :: o30 :: o31 :: o32 :: o33 :: o34 :: o35 :: o36 :: o37 :: o38 :: o39 :: o40 :: o41 :: o42 :: some w :: r) := rfl
theorem st_44 {o0 o1 o2 o3 o4 o5 o6 o7 o8 o9 o10 o11 o12 o13 o14 o15 o16 o17 o18 o19 o20 o21 o22 o23 o24 o25 o26 o27 o28 o29 o30 o31 o32 o33 o34 o35 o36 o37 o38 o39 o40 o41 o42 o43 o44 : Option D} {w : Option D} {r : Env} : (o0 :: o1 :: o2 :: o3 :: o4 :: o5 :: o6 :: o7 :: o8 :: o9 :: o10 :: o11 :: o12 :: o13 :: o14 :: o15 :: o16 :: o17 :: o18 :: o19 :: o20 :: o21 :: o22 :: o23 :: o24 :: o25 :: o26 :: o27 :: o28 :: o29 :: o30 :: o31 :: o32 :: o33 :: o34 :: o35 :: o36 :: o37 :: o38 :: o39 :: o40 :: o41 :: o42 :: o43 :: o44 :: r).set 44 w = (o0 :: o1 :: o2 :: o3 :: o4 :: o5 :: o6 :: o7 :: o8 :: o9 :: o10 :: o11 :: o12 :: o13 :: o14 :: o15 :: o16 :: o17 :: o18 :: o19 :: o20 :: o21 :: o22 :: o23 :: o24 :: o25 :: o26 :: o27 :: o28 :: o29 :: o30 :: o31 :: o32 :: o33 :: o34 :: o35 :: o36 :: o37 :: o38 :: o39 :: o40 :: o41 :: o42 :: o43 :: w :: r) := rfl
theorem pv_44 {o0 o1 o2 o3 o4 o5 o6 o7 o8 o9 o10 o11 o12 o13 o14 o15 o16 o17 o18 o19 o20 o21 o22 o23 o24 o25 o26 o27 o28 o29 o30 o31 o32 o33 o34 o35 o36 o37 o38 o39 o40 o41 o42 o43 : Option D} {w : D} {r : Env} : pV 44 (o0 :: o1 :: o2 :: o3 :: o4 :: o5 :: o6 :: o7 :: o8 :: o9 :: o10 :: o11 :: o12 :: o13 :: o14 :: o15 :: o16 :: o17 :: o18 :: o19 :: o20 :: o21 :: o22 :: o23 :: o24 :: o25 :: o26 :: o27 :: o28 :: o29 :: o30 :: o31 :: o32 :: o33 :: o34 :: o35 :: o36 :: o37 :: o38 :: o39 :: o40 :: o41 :: o42 :: o43 :: some w :: r) = some w := rfl
theorem gn_44 {o0 o1 o2 o3 o4 o5 o6 o7 o8 o9 o10 o11 o12 o13 o14 o15 o16 o17 o18 o19 o20 o21 o22 o23 o24 o25 o26 o27 o28 o29 o30 o31 o32 o33 o34 o35 o36 o37 o38 o39 o40 o41 o42 o43 o44 : Option D} {w : D} {r : Env} : gN 44 w (o0 :: o1 :: o2 :: o3 :: o4 :: o5 :: o6 :: o7 :: o8 :: o9 :: o10 :: o11 :: o12 :: o13 :: o14 :: o15 :: o16 :: o17 :: o18 :: o19 :: o20 :: o21 :: o22 :: o23 :: o24 :: o25 :: o26 :: o27 :: o28 :: o29 :: o30 :: o31 :: o32 :: o33 :: o34 :: o35 :: o36 :: o37 :: o38 :: o39 :: o40 :: o41 :: o42 :: o43 :: o44 :: r) = some (o0 :: o1 :: o2 :: o3 :: o4 :: o5 :: o6 :: o7 :: o8 :: o9 :: o10 :: o11 :: o12 :: o13 :: o14 :: o15 :: o16 :: o17 :: o18 :: o19 :: o20 :: o21 :: o22 :: o23 :: o24 :: o25 :: o26 :: o27 :: o28 :: o29 :: o30 :: o31 :: o32 :: o33 :: o34 :: o35 :: o36 :: o37 :: o38 :: o39 :: o40 :: o41 :: o42 :: o43 :: some w :: r) := rfl
theorem st_45 {o0 o1 o2 o3 o4 o5 o6 o7 o8 o9 o10 o11 o12 o13 o14 o15 o16 o17 o18 o19 o20 o21 o22 o23 o24 o25 o26 o27 o28 o29 o30 o31 o32 o33 o34 o35 o36 o37 o38 o39 o40 o41 o42 o43 o44 o45 : Option D} {w : Option D} {r : Env} : (o0 :: o1 :: o2 :: o3 :: o4 :: o5 :: o6 :: o7 :: o8 :: o9 :: o10 :: o11 :: o12 :: o13 :: o14 :: o15 :: o16 :: o17 :: o18 :: o19 :: o20 :: o21 :: o22 :: o23 :: o24 :: o25 :: o26 :: o27 :: o28 :: o29 :: o30 :: o31 :: o32 :: o33 :: o34 :: o35 :: o36 :: o37 :: o38 :: o39 :: o40 :: o41 :: o42 :: o43 :: o44 :: o45 :: r).set 45 w = (o0 :: o1 :: o2 :: o3 :: o4 :: o5 :: o6 :: o7 :: o8 :: o9 :: o10 :: o11 :: o12 :: o13 :: o14 :: o15 :: o16 :: o17 :: o18 :: o19 :: o20 :: o21 :: o22 :: o23 :: o24 :: o25 :: o26 :: o27 :: o28 :: o29 :: o30 :: o31 :: o32 :: o33 :: o34 :: o35 :: o36 :: o37 :: o38 :: o39 :: o40 :: o41 :: o42 :: o43 :: o44 :: w :: r) := rfl
theorem pv_45 {o0 o1 o2 o3 o4 o5 o6 o7 o8 o9 o10 o11 o12 o13 o14 o15 o16 o17 o18 o19 o20 o21 o22 o23 o24 o25 o26 o27 o28 o29 o30 o31 o32 o33 o34 o35 o36 o37 o38 o39 o40 o41 o42 o43 o44 : Option D} {w : D} {r : Env} : pV 45 (o0 :: o1 :: o2 :: o3 :: o4 :: o5 :: o6 :: o7 :: o8 :: o9 :: o10 :: o11 :: o12 :: o13 :: o14 :: o15 :: o16 :: o17 :: o18 :: o19 :: o20 :: o21 :: o22 :: o23 :: o24 :: o25 :: o26 :: o27 :: o28 :: o29 :: o30 :: o31 :: o32 :: o33 :: o34 :: o35 :: o36 :: o37 :: o38 :: o39 :: o40 :: o41 :: o42 :: o43 :: o44 :: some w :: r) = some w := rfl
theorem gn_45 {o0 o1 o2 o3 o4 o5 o6 o7 o8 o9 o10 o11 o12 o13 o14 o15 o16 o17 o18 o19 o20 o21 o22 o23 o24 o25 o26 o27 o28 o29 o30 o31 o32 o33 o34 o35 o36 o37 o38 o39 o40 o41 o42 o43 o44 o45 : Option D} {w : D} {r : Env} : gN 45 w (o0 :: o1 :: o2 :: o3 :: o4 :: o5 :: o6 :: o7 :: o8 :: o9 :: o10 :: o11 :: o12 :: o13 :: o14 :: o15 :: o16 :: o17 :: o18 :: o19 :: o20 :: o21 :: o22 :: o23 :: o24 :: o25 :: o26 :: o27 :: o28 :: o29 :: o30 :: o31 :: o32 :: o33 :: o34 :: o35 :: o36 :: o37 :: o38 :: o39 :: o40 :: o41 :: o42 :: o43 :: o44 :: o45 :: r) = some (o0 :: o1 :: o2 :: o3 :: o4 :: o5 :: o6 :: o7 :: o8 :: o9 :: o10 :: o11 :: o12 :: o13 :: o14 :: o15 :: o16 :: o17 :: o18 :: o19 :: o20 :: o21 :: o22 :: o23 :: o24 :: o25 :: o26 :: o27 :: o28 :: o29 :: o30 :: o31 :: o32 :: o33 :: o34 :: o35 :: o36 :: o37 :: o38 :: o39 :: o40 :: o41 :: o42 :: o43 :: o44 :: some w :: r) := rfl
theorem st_46 {o0 o1 o2 o3 o4 o5 o6 o7 o8 o9 o10 o11 o12 o13 o14 o15 o16 o17 o18 o19 o20 o21 o22 o23 o24 o25 o26 o27 o28 o29 o30 o31 o32 o33 o34 o35 o36 o37 o38 o39 o40 o41 o42 o43 o44 o45 o46 : Option D} {w : Option D} {r : Env} : (o0 :: o1 :: o2 :: o3 :: o4 :: o5 :: o6 :: o7 :: o8 :: o9 :: o10 :: o11 :: o12 :: o13 :: o14 :: o15 :: o16 :: o17 :: o18 :: o19 :: o20 :: o21 :: o22 :: o23 :: o24 :: o25 :: o26 :: o27 :: o28 :: o29 :: o30 :: o31 :: o32 :: o33 :: o34 :: o35 :: o36 :: o37 :: o38 :: o39 :: o40 :: o41 :: o42 :: o43 :: o44 :: o45 :: o46 :: r).set 46 w = (o0 :: o1 :: o2 :: o3 :: o4 :: o5 :: o6 :: o7 :: o8 :: o9 :: o10 :: o11 :: o12 :: o13 :: o14 :: o15 :: o16 :: o17 :: o18 :: o19 :: o20 :: o21 :: o22 :: o23 :: o24 :: o25 :: o26 :: o27 :: o28 :: o29 :: o30 :: o31 :: o32 :: o33 :: o34 :: o35 :: o36 :: o37 :: o38 :: o39 :: o40 :: o41 :: o42 :: o43 :: o44 :: o45 :: w :: r) := rfl
theorem pv_46 {o0 o1 o2 o3 o4 o5 o6 o7 o8 o9 o10 o11 o12 o13 o14 o15 o16 o17 o18 o19 o20 o21 o22 o23 o24 o25 o26 o27 o28 o29 o30 o31 o32 o33 o34 o35 o36 o37 o38 o39 o40 o41 o42 o43 o44 o45 : Option D} {w : D} {r : Env} : pV 46 (o0 :: o1 :: o2 :: o3 :: o4 :: o5 :: o6 :: o7 :: o8 :: o9 :: o10 :: o11 :: o12 :: o13 :: o14 :: o15 :: o16 :: o17 :: o18 :: o19 :: o20 :: o21 :: o22 :: o23 :: o24 :: o25 :: o26 :: o27 :: o28 :: o29 :: o30 :: o31 :: o32 :: o33 :: o34 :: o35 :: o36 :: o37 :: o38 :: o39 :: o40 :: o41 :: o42 :: o43 :: o44 :: o45 :: some w :: r) = some w := rfl
theorem gn_46 {o0 o1 o2 o3 o4 o5 o6 o7 o8 o9 o10 o11 o12 o13 o14 o15 o16 o17 o18 o19 o20 o21 o22 o23 o24 o25 o26 o27 o28 o29 o30 o31 o32 o33 o34 o35 o36 o37 o38 o39 o40 o41 o42 o43 o44 o45 o46 : Option D} {w : D} {r : Env} : gN 46 w (o0 :: o1 :: o2 :: o3 :: o4 :: o5 :: o6 :: o7 :: o8 :: o9 :: o10 :: o11 :: o12 :: o13 :: o14 :: o15 :: o16 :: o17 :: o18 :: o19 :: o20 :: o21 :: o22 :: o23 :: o24 :: o25 :: o26 :: o27 :: o28 :: o29 :: o30 :: o31 :: o32 :: o33 :: o34 :: o35 :: o36 :: o37 :: o38 :: o39 :: o40 :: o41 :: o42 :: o43 :: o44 :: o45 :: o46 :: r) = some (o0 :: o1 :: o2 :: o3 :: o4 :: o5 :: o6 :: o7 :: o8 :: o9 :: o10 :: o11 :: o12 :: o13 :: o14 :: o15 :: o16 :: o17 :: o18 :: o19 :: o20 :: o21 :: o22 :: o23 :: o24 :: o25 :: o26 :: o27 :: o28 :: o29 :: o30 :: o31 :: o32 :: o33 :: o34 :: o35 :: o36 :: o37 :: o38 :: o39 :: o40 :: o41 :: o42 :: o43 :: o44 :: o45 :: some w :: r) := rfl
theorem st_47 {o0 o1 o2 o3 o4 o5 o6 o7 o8 o9 o10 o11 o12 o13 o14 o15 o16 o17 o18 o19 o20 o21 o22 o23 o24 o25 o26 o27 o28 o29 o30 o31 o32 o33 o34 o35 o36 o37 o38 o39 o40 o41 o42 o43 o44 o45 o46 o47 : Option D} {w : Option D} {r : Env} : (o0 :: o1 :: o2 :: o3 :: o4 :: o5 :: o6 :: o7 :: o8 :: o9 :: o10 :: o11 :: o12 :: o13 :: o14 :: o15 :: o16 :: o17 :: o18 :: o19 :: o20 :: o21 :: o22 :: o23 :: o24 :: o25 :: o26 :: o27 :: o28 :: o29 :: o30 :: o31 :: o32 :: o33 :: o34 :: o35 :: o36 :: o37 :: o38 :: o39 :: o40 :: o41 :: o42 :: o43 :: o44 :: o45 :: o46 :: o47 :: r).set 47 w = (o0 :: o1 :: o2 :: o3 :: o4 :: o5 :: o6 :: o7 :: o8 :: o9 :: o10 :: o11 :: o12 :: o13 :: o14 :: o15 :: o16 :: o17 :: o18 :: o19 :: o20 :: o21 :: o22 :: o23 :: o24 :: o25 :: o26 :: o27 :: o28 :: o29 :: o30 :: o31 :: o32 :: o33 :: o34 :: o35 :: o36 :: o37 :: o38 :: o39 :: o40 :: o41 :: o42 :: o43 :: o44 :: o45 :: o46 :: w :: r) := rfl
theorem pv_47 {o0 o1 o2 o3 o4 o5 o6 o7 o8 o9 o10 o11 o12 o13 o14 o15 o16 o17 o18 o19 o20 o21 o22 o23 o24 o25 o26 o27 o28 o29 o30 o31 o32 o33 o34 o35 o36 o37 o38 o39 o40 o41 o42 o43 o44 o45 o46 : Option D} {w : D} {r : Env} : pV 47 (o0 :: o1 :: o2 :: o3 :: o4 :: o5 :: o6 :: o7 :: o8 :: o9 :: o10 :: o11 :: o12 :: o13 :: o14 :: o15 :: o16 :: o17 :: o18 :: o19 :: o20 :: o21 :: o22 :: o23 :: o24 :: o25 :: o26 :: o27 :: o28 :: o29 :: o30 :: o31 :: o32 :: o33 :: o34 :: o35 :: o36 :: o37 :: o38 :: o39 :: o40 :: o41 :: o42 :: o43 :: o44 :: o45 :: o46 :: some w :: r) = some w := rfl
theorem gn_47 {o0 o1 o2 o3 o4 o5 o6 o7 o8 o9 o10 o11 o12 o13 o14 o15 o16 o17 o18 o19 o20 o21 o22 o23 o24 o25 o26 o27 o28 o29 o30 o31 o32 o33 o34 o35 o36 o37 o38 o39 o40 o41 o42 o43 o44 o45 o46 o47 : Option D} {w : D} {r : Env} : gN 47 w (o0 :: o1 :: o2 :: o3 :: o4 :: o5 :: o6 :: o7 :: o8 :: o9 :: o10 :: o11 :: o12 :: o13 :: o14 :: o15 :: o16 :: o17 :: o18 :: o19 :: o20 :: o21 :: o22 :: o23 :: o24 :: o25 :: o26 :: o27 :: o28 :: o29 :: o30 :: o31 :: o32 :: o33 :: o34 :: o35 :: o36 :: o37 :: o38 :: o39 :: o40 :: o41 :: o42 :: o43 :: o44 :: o45 :: o46 :: o47 :: r) = some (o0 :: o1 :: o2 :: o3 :: o4 :: o5 :: o6 :: o7 :: o8 :: o9 :: o10 :: o11 :: o12 :: o13 :: o14 :: o15 :: o16 :: o17 :: o18 :: o19 :: o20 :: o21 :: o22 :: o23 :: o24 :: o25 :: o26 :: o27 :: o28 :: o29 :: o30 :: o31 :: o32 :: o33 :: o34 :: o35 :: o36 :: o37 :: o38 :: o39 :: o40 :: o41 :: o42 :: o43 :: o44 :: o45 :: o46 :: some w :: r) := rfl
theorem lf_all1 {b0 : Bool}  : cAll [.d (.list [.bool b0])] = some (.d (.bool (b0 && true))) := rfl
theorem lf_all2 {b0 b1 : Bool}  : cAll [.d (.list [.bool b0, .bool b1])] = some (.d (.bool (b0 && (b1 && true)))) := rfl
theorem lf_all3 {b0 b1 b2 : Bool}  : cAll [.d (.list [.bool b0, .bool b1, .bool b2])] = some (.d (.bool (b0 && (b1 && (b2 && true))))) := rfl
theorem lf_all4 {b0 b1 b2 b3 : Bool}  : cAll [.d (.list [.bool b0, .bool b1, .bool b2, .bool b3])] = some (.d (.bool (b0 && (b1 && (b2 && (b3 && true)))))) := rfl
theorem ixt_0 {o0 : PyData} {r : List PyData}  : fIx (.d (.tuple (o0 :: r))) (.d (.int 0)) = some (.d o0) := ix_t0 (k := 0) rfl
theorem ixl_0 {o0 : PyData} {r : List PyData}  : fIx (.d (.list (o0 :: r))) (.d (.int 0)) = some (.d o0) := ix_l0 (k := 0) rfl
theorem ixt_1 {o0 o1 : PyData} {r : List PyData}  : fIx (.d (.tuple (o0 :: o1 :: r))) (.d (.int 1)) = some (.d o1) := ix_t0 (k := 1) rfl
theorem ixl_1 {o0 o1 : PyData} {r : List PyData}  : fIx (.d (.list (o0 :: o1 :: r))) (.d (.int 1)) = some (.d o1) := ix_l0 (k := 1) rfl
theorem ixt_2 {o0 o1 o2 : PyData} {r : List PyData}  : fIx (.d (.tuple (o0 :: o1 :: o2 :: r))) (.d (.int 2)) = some (.d o2) := ix_t0 (k := 2) rfl
theorem ixl_2 {o0 o1 o2 : PyData} {r : List PyData}  : fIx (.d (.list (o0 :: o1 :: o2 :: r))) (.d (.int 2)) = some (.d o2) := ix_l0 (k := 2) rfl
theorem ixt_3 {o0 o1 o2 o3 : PyData} {r : List PyData}  : fIx (.d (.tuple (o0 :: o1 :: o2 :: o3 :: r))) (.d (.int 3)) = some (.d o3) := ix_t0 (k := 3) rfl
theorem ixl_3 {o0 o1 o2 o3 : PyData} {r : List PyData}  : fIx (.d (.list (o0 :: o1 :: o2 :: o3 :: r))) (.d (.int 3)) = some (.d o3) := ix_l0 (k := 3) rfl
theorem ixt_4 {o0 o1 o2 o3 o4 : PyData} {r : List PyData}  : fIx (.d (.tuple (o0 :: o1 :: o2 :: o3 :: o4 :: r))) (.d (.int 4)) = some (.d o4) := ix_t0 (k := 4) rfl
theorem ixl_4 {o0 o1 o2 o3 o4 : PyData} {r : List PyData}  : fIx (.d (.list (o0 :: o1 :: o2 :: o3 :: o4 :: r))) (.d (.int 4)) = some (.d o4) := ix_l0 (k := 4) rfl
theorem ixt_5 {o0 o1 o2 o3 o4 o5 : PyData} {r : List PyData}  : fIx (.d (.tuple (o0 :: o1 :: o2 :: o3 :: o4 :: o5 :: r))) (.d (.int 5)) = some (.d o5) := ix_t0 (k := 5) rfl
theorem ixl_5 {o0 o1 o2 o3 o4 o5 : PyData} {r : List PyData}  : fIx (.d (.list (o0 :: o1 :: o2 :: o3 :: o4 :: o5 :: r))) (.d (.int 5)) = some (.d o5) := ix_l0 (k := 5) rfl
theorem ixt_6 {o0 o1 o2 o3 o4 o5 o6 : PyData} {r : List PyData}  : fIx (.d (.tuple (o0 :: o1 :: o2 :: o3 :: o4 :: o5 :: o6 :: r))) (.d (.int 6)) = some (.d o6) := ix_t0 (k := 6) rfl
theorem ixl_6 {o0 o1 o2 o3 o4 o5 o6 : PyData} {r : List PyData}  : fIx (.d (.list (o0 :: o1 :: o2 :: o3 :: o4 :: o5 :: o6 :: r))) (.d (.int 6)) = some (.d o6) := ix_l0 (k := 6) rfl
theorem ixt_7 {o0 o1 o2 o3 o4 o5 o6 o7 : PyData} {r : List PyData}  : fIx (.d (.tuple (o0 :: o1 :: o2 :: o3 :: o4 :: o5 :: o6 :: o7 :: r))) (.d (.int 7)) = some (.d o7) := ix_t0 (k := 7) rfl
theorem ixl_7 {o0 o1 o2 o3 o4 o5 o6 o7 : PyData} {r : List PyData}  : fIx (.d (.list (o0 :: o1 :: o2 :: o3 :: o4 :: o5 :: o6 :: o7 :: r))) (.d (.int 7)) = some (.d o7) := ix_l0 (k := 7) rfl
theorem ixt_8 {o0 o1 o2 o3 o4 o5 o6 o7 o8 : PyData} {r : List PyData}  : fIx (.d (.tuple (o0 :: o1 :: o2 :: o3 :: o4 :: o5 :: o6 :: o7 :: o8 :: r))) (.d (.int 8)) = some (.d o8) := ix_t0 (k := 8) rfl
theorem ixl_8 {o0 o1 o2 o3 o4 o5 o6 o7 o8 : PyData} {r : List PyData}  : fIx (.d (.list (o0 :: o1 :: o2 :: o3 :: o4 :: o5 :: o6 :: o7 :: o8 :: r))) (.d (.int 8)) = some (.d o8) := ix_l0 (k := 8) rfl
theorem ixt_9 {o0 o1 o2 o3 o4 o5 o6 o7 o8 o9 : PyData} {r : List PyData}  : fIx (.d (.tuple (o0 :: o1 :: o2 :: o3 :: o4 :: o5 :: o6 :: o7 :: o8 :: o9 :: r))) (.d (.int 9)) = some (.d o9) := ix_t0 (k := 9) rfl
theorem ixl_9 {o0 o1 o2 o3 o4 o5 o6 o7 o8 o9 : PyData} {r : List PyData}  : fIx (.d (.list (o0 :: o1 :: o2 :: o3 :: o4 :: o5 :: o6 :: o7 :: o8 :: o9 :: r))) (.d (.int 9)) = some (.d o9) := ix_l0 (k := 9) rfl
theorem lf_c {w : α}  : pC w env = some w := rfl
theorem lf_add {i j : Int}  : fAdd (.d (.int i)) (.d (.int j)) = some (.d (.int (i + j))) := rfl
theorem lf_sub {i j : Int}  : fSub (.d (.int i)) (.d (.int j)) = some (.d (.int (i - j))) := rfl
theorem lf_lt {i j : Int}  : fLt (.d (.int i)) (.d (.int j)) = some (.d (.bool (decide (i < j)))) := rfl
theorem lf_le {i j : Int}  : fLe (.d (.int i)) (.d (.int j)) = some (.d (.bool (decide (i ≤ j)))) := rfl
theorem lf_gt {i j : Int}  : fGt (.d (.int i)) (.d (.int j)) = some (.d (.bool (decide (j < i)))) := rfl
theorem lf_ge {i j : Int}  : fGe (.d (.int i)) (.d (.int j)) = some (.d (.bool (decide (j ≤ i)))) := rfl
theorem lf_eqi_s {i : Int}  : fEq (.d (.int i)) (.d (.int i)) = some (.d (.bool true)) := by simp [fEq, sh_int, PyData.eqv]
theorem lf_nei_s {i : Int}  : fNe (.d (.int i)) (.d (.int i)) = some (.d (.bool false)) := by simp [fNe, sh_int, PyData.eqv]
theorem lf_eqi {i j : Int}  : fEq (.d (.int i)) (.d (.int j)) = some (.d (.bool (decide (i = j)))) := by simp [fEq, sh_int, PyData.eqv]; rfl
theorem lf_nei {i j : Int}  : fNe (.d (.int i)) (.d (.int j)) = some (.d (.bool (!decide (i = j)))) := by simp [fNe, sh_int, PyData.eqv]; rfl
theorem lf_lenl {xs : List PyData}  : cLen [.d (.list xs)] = some (.d (.int xs.length)) := rfl
theorem lf_lent {xs : List PyData}  : cLen [.d (.tuple xs)] = some (.d (.int xs.length)) := rfl
theorem lf_lens {xs : List D}  : cLen [.ls xs] = some (.d (.int xs.length)) := rfl
theorem lf_tup1 {xs : List PyData}  : cTup [.d (.list xs)] = some (.d (.tuple xs)) := rfl
theorem lf_tup2 {xs : List PyData}  : cTup [.d (.tuple xs)] = some (.d (.tuple xs)) := rfl
theorem lf_lst1 {xs : List PyData}  : cLst [.d (.list xs)] = some (.d (.list xs)) := rfl
theorem lf_lst2 {xs : List PyData}  : cLst [.d (.tuple xs)] = some (.d (.list xs)) := rfl
theorem lf_int1 {i : Int}  : cIntT [.d (.int i)] = some (.d (.int i)) := rfl
theorem lf_int2 {b : Bool}  : cIntT [.d (.bool b)] = some (.d (.int (if b then 1 else 0))) := rfl
theorem lf_str {s : Str}  : cStr [.d (.str s)] = some (.d (.str s)) := rfl
theorem lf_isn1 {d : PyData}  : fIs (.d .none) (.d .none) = some (.d (.bool true)) := rfl
theorem lf_is_s {a : Bool}  : fIs (.d (.bool a)) (.d (.bool a)) = some (.d (.bool true)) := by cases a <;> rfl
theorem lf_isn_s {a : Bool}  : fIsNot (.d (.bool a)) (.d (.bool a)) = some (.d (.bool false)) := by cases a <;> rfl
theorem lf_isb {a b : Bool}  : fIs (.d (.bool a)) (.d (.bool b)) = some (.d (.bool (decide (a = b)))) := rfl
theorem lf_isb2 {a b : Bool}  : fIsNot (.d (.bool a)) (.d (.bool b)) = some (.d (.bool (!decide (a = b)))) := rfl
theorem lf_itl {xs : List PyData}  : itL (.d (.list xs)) = some (xs.map D.d) := rfl
theorem lf_itt {xs : List PyData}  : itL (.d (.tuple xs)) = some (xs.map D.d) := rfl
theorem lf_itls {xs : List D}  : itL (.ls xs) = some xs := rfl
theorem lf_r1_0 {z : Unit}  : mR1 [.d (.int 0)] = some [] := by kernel_rfl
theorem lf_r1_1 {z : Unit}  : mR1 [.d (.int 1)] = some [.d (.int 0)] := by kernel_rfl
theorem lf_r1_2 {z : Unit}  : mR1 [.d (.int 2)] = some [.d (.int 0), .d (.int 1)] := by kernel_rfl
theorem lf_r1_3 {z : Unit}  : mR1 [.d (.int 3)] = some [.d (.int 0), .d (.int 1), .d (.int 2)] := by kernel_rfl
theorem lf_r1_4 {z : Unit}  : mR1 [.d (.int 4)] = some [.d (.int 0), .d (.int 1), .d (.int 2), .d (.int 3)] := by kernel_rfl
theorem lf_r1_5 {z : Unit}  : mR1 [.d (.int 5)] = some [.d (.int 0), .d (.int 1), .d (.int 2), .d (.int 3), .d (.int 4)] := by kernel_rfl
theorem lf_r1_6 {z : Unit}  : mR1 [.d (.int 6)] = some [.d (.int 0), .d (.int 1), .d (.int 2), .d (.int 3), .d (.int 4), .d (.int 5)] := by kernel_rfl
theorem lf_r1_7 {z : Unit}  : mR1 [.d (.int 7)] = some [.d (.int 0), .d (.int 1), .d (.int 2), .d (.int 3), .d (.int 4), .d (.int 5), .d (.int 6)] := by kernel_rfl
theorem lf_r1_8 {z : Unit}  : mR1 [.d (.int 8)] = some [.d (.int 0), .d (.int 1), .d (.int 2), .d (.int 3), .d (.int 4), .d (.int 5), .d (.int 6), .d (.int 7)] := by kernel_rfl
theorem lf_r1 {n : Nat} {h : n ≤ 100000}  : mR1 [.d (.int n)] = some ((List.range n).map fun k => D.d (.int (k : Nat))) := mR1_nat n h
theorem lf_addl {a b : List PyData} (h : a.length + b.length ≤ 100000) : fAdd (.d (.list a)) (.d (.list b)) = some (.d (.list (a ++ b))) := if_pos h
theorem lf_addt {a b : List PyData} (h : a.length + b.length ≤ 100000) : fAdd (.d (.tuple a)) (.d (.tuple b)) = some (.d (.tuple (a ++ b))) := if_pos h
theorem lf_adds {a b : Str} (h : a.length + b.length ≤ 100000) : fAdd (.d (.str a)) (.d (.str b)) = some (.d (.str (a ++ b))) := if_pos h
theorem lf_r1n {n : Nat} (h : n ≤ 100000) : mR1 [.d (.int n)] = some ((List.range n).map fun k => D.d (.int (k : Nat))) := mR1_nat n h
theorem lf_sll {xs : List PyData} {lo hi : Option Int}  : fSl (.d (.list xs)) lo hi = some (.d (.list (cutD xs lo hi))) := rfl
theorem lf_slt {xs : List PyData} {lo hi : Option Int}  : fSl (.d (.tuple xs)) lo hi = some (.d (.tuple (cutD xs lo hi))) := rfl
theorem lf_itl_0 {o0 : PyData}  : itL (.d (.list [])) = some [] := rfl
theorem lf_itt_0 {o0 : PyData}  : itL (.d (.tuple [])) = some [] := rfl
theorem lf_itl_1 {o0 : PyData}  : itL (.d (.list [o0])) = some [.d o0] := rfl
theorem lf_itt_1 {o0 : PyData}  : itL (.d (.tuple [o0])) = some [.d o0] := rfl
theorem lf_itl_2 {o0 o1 : PyData}  : itL (.d (.list [o0, o1])) = some [.d o0, .d o1] := rfl
theorem lf_itt_2 {o0 o1 : PyData}  : itL (.d (.tuple [o0, o1])) = some [.d o0, .d o1] := rfl
theorem lf_itl_3 {o0 o1 o2 : PyData}  : itL (.d (.list [o0, o1, o2])) = some [.d o0, .d o1, .d o2] := rfl
theorem lf_itt_3 {o0 o1 o2 : PyData}  : itL (.d (.tuple [o0, o1, o2])) = some [.d o0, .d o1, .d o2] := rfl
theorem lf_itl_4 {o0 o1 o2 o3 : PyData}  : itL (.d (.list [o0, o1, o2, o3])) = some [.d o0, .d o1, .d o2, .d o3] := rfl
theorem lf_itt_4 {o0 o1 o2 o3 : PyData}  : itL (.d (.tuple [o0, o1, o2, o3])) = some [.d o0, .d o1, .d o2, .d o3] := rfl
theorem lf_itl_5 {o0 o1 o2 o3 o4 : PyData}  : itL (.d (.list [o0, o1, o2, o3, o4])) = some [.d o0, .d o1, .d o2, .d o3, .d o4] := rfl
theorem lf_itt_5 {o0 o1 o2 o3 o4 : PyData}  : itL (.d (.tuple [o0, o1, o2, o3, o4])) = some [.d o0, .d o1, .d o2, .d o3, .d o4] := rfl
theorem lf_itl_6 {o0 o1 o2 o3 o4 o5 : PyData}  : itL (.d (.list [o0, o1, o2, o3, o4, o5])) = some [.d o0, .d o1, .d o2, .d o3, .d o4, .d o5] := rfl
theorem lf_itt_6 {o0 o1 o2 o3 o4 o5 : PyData}  : itL (.d (.tuple [o0, o1, o2, o3, o4, o5])) = some [.d o0, .d o1, .d o2, .d o3, .d o4, .d o5] := rfl
theorem lf_itl_7 {o0 o1 o2 o3 o4 o5 o6 : PyData}  : itL (.d (.list [o0, o1, o2, o3, o4, o5, o6])) = some [.d o0, .d o1, .d o2, .d o3, .d o4, .d o5, .d o6] := rfl
theorem lf_itt_7 {o0 o1 o2 o3 o4 o5 o6 : PyData}  : itL (.d (.tuple [o0, o1, o2, o3, o4, o5, o6])) = some [.d o0, .d o1, .d o2, .d o3, .d o4, .d o5, .d o6] := rfl
theorem lf_itl_8 {o0 o1 o2 o3 o4 o5 o6 o7 : PyData}  : itL (.d (.list [o0, o1, o2, o3, o4, o5, o6, o7])) = some [.d o0, .d o1, .d o2, .d o3, .d o4, .d o5, .d o6, .d o7] := rfl
theorem lf_itt_8 {o0 o1 o2 o3 o4 o5 o6 o7 : PyData}  : itL (.d (.tuple [o0, o1, o2, o3, o4, o5, o6, o7])) = some [.d o0, .d o1, .d o2, .d o3, .d o4, .d o5, .d o6, .d o7] := rfl
theorem lf_itl_9 {o0 o1 o2 o3 o4 o5 o6 o7 o8 : PyData}  : itL (.d (.list [o0, o1, o2, o3, o4, o5, o6, o7, o8])) = some [.d o0, .d o1, .d o2, .d o3, .d o4, .d o5, .d o6, .d o7, .d o8] := rfl
theorem lf_itt_9 {o0 o1 o2 o3 o4 o5 o6 o7 o8 : PyData}  : itL (.d (.tuple [o0, o1, o2, o3, o4, o5, o6, o7, o8])) = some [.d o0, .d o1, .d o2, .d o3, .d o4, .d o5, .d o6, .d o7, .d o8] := rfl
theorem lf_itl_10 {o0 o1 o2 o3 o4 o5 o6 o7 o8 o9 : PyData}  : itL (.d (.list [o0, o1, o2, o3, o4, o5, o6, o7, o8, o9])) = some [.d o0, .d o1, .d o2, .d o3, .d o4, .d o5, .d o6, .d o7, .d o8, .d o9] := rfl
theorem lf_itt_10 {o0 o1 o2 o3 o4 o5 o6 o7 o8 o9 : PyData}  : itL (.d (.tuple [o0, o1, o2, o3, o4, o5, o6, o7, o8, o9])) = some [.d o0, .d o1, .d o2, .d o3, .d o4, .d o5, .d o6, .d o7, .d o8, .d o9] := rfl
theorem lf_itl_11 {o0 o1 o2 o3 o4 o5 o6 o7 o8 o9 o10 : PyData}  : itL (.d (.list [o0, o1, o2, o3, o4, o5, o6, o7, o8, o9, o10])) = some [.d o0, .d o1, .d o2, .d o3, .d o4, .d o5, .d o6, .d o7, .d o8, .d o9, .d o10] := rfl
theorem lf_itt_11 {o0 o1 o2 o3 o4 o5 o6 o7 o8 o9 o10 : PyData}  : itL (.d (.tuple [o0, o1, o2, o3, o4, o5, o6, o7, o8, o9, o10])) = some [.d o0, .d o1, .d o2, .d o3, .d o4, .d o5, .d o6, .d o7, .d o8, .d o9, .d o10] := rfl
theorem lf_itl_12 {o0 o1 o2 o3 o4 o5 o6 o7 o8 o9 o10 o11 : PyData}  : itL (.d (.list [o0, o1, o2, o3, o4, o5, o6, o7, o8, o9, o10, o11])) = some [.d o0, .d o1, .d o2, .d o3, .d o4, .d o5, .d o6, .d o7, .d o8, .d o9, .d o10, .d o11] := rfl
theorem lf_itt_12 {o0 o1 o2 o3 o4 o5 o6 o7 o8 o9 o10 o11 : PyData}  : itL (.d (.tuple [o0, o1, o2, o3, o4, o5, o6, o7, o8, o9, o10, o11])) = some [.d o0, .d o1, .d o2, .d o3, .d o4, .d o5, .d o6, .d o7, .d o8, .d o9, .d o10, .d o11] := rfl
theorem pd_nil : pdL [] = some [] := rfl
theorem pd_cons {r : List D} {xs : List PyData} {w : PyData} (h : pdL r = some xs) : pdL (.d w :: r) = some (w :: xs) := by
  show (pdL r).map _ = _
  rw [h]
  rfl
theorem mt_of {l : List D} {xs : List PyData} (h : l.length ≤ 100000) (h2 : pdL l = some xs) : mTup l = some (.d (.tuple xs)) := by
  unfold mTup
  rw [if_pos h, h2]
theorem ml_of {l : List D} {xs : List PyData} (h : l.length ≤ 100000) (h2 : pdL l = some xs) : mLst l = some (.d (.list xs)) := by
  unfold mLst
  rw [if_pos h, h2]
theorem br_t {r : α} {a b : α} (h : v = true) (h2 : a = r) : (if v = true then a else b) = r := by rw [if_pos h]; exact h2
theorem br_f {r : α} {a b : α} (h : v = false) (h2 : b = r) : (if v = true then a else b) = r := by rw [if_neg (by rw [h]; exact Bool.false_ne_true)]; exact h2
theorem br_s {r : α} {a b : α} (h1 : v = true → a = r) (h2 : v = false → b = r) : (if v = true then a else b) = r := by
  cases v with
  | true => exact h1 rfl
  | false => exact h2 rfl
theorem br_id {r a b : α} (h : (if v = true then a else b) = r) : (if v = true then a else b) = r := h
theorem br_nei {i : Int} {r a b : α} (h : b = r) : (if (!decide (i = i)) = true then a else b) = r := by rw [decide_eq_true rfl]; exact h
theorem br_eqi {i : Int} {r a b : α} (h : a = r) : (if decide (i = i) = true then a else b) = r := by rw [decide_eq_true rfl]; exact h
theorem br_and {o : Option D} (h : o = some (.d (.bool u))) : (if v = true then o else some (.d (.bool false))) = some (.d (.bool (v && u))) := by
  cases v with
  | true => exact h
  | false => rfl
theorem br_or {o : Option D} (h : o = some (.d (.bool u))) : (if v = true then some (.d (.bool true)) else o) = some (.d (.bool (v || u))) := by
  cases v with
  | true => rfl
  | false => exact h
theorem br_andB {o : Option Bool} (h : o = some u) : (if v = true then o else some false) = some (v && u) := by
  cases v with
  | true => exact h
  | false => rfl
theorem br_orB {o : Option Bool} (h : o = some u) : (if v = true then some true else o) = some (v || u) := by
  cases v with
  | true => rfl
  | false => exact h
theorem mOf_of {L n : Nat} {b : Pm Out} {ds : List D} {w : D} (h : ds.length = n) (h2 : b (startE L n ds) = some (.rt w)) : mOf L n b ds = some w := by
  unfold mOf
  rw [if_pos h, h2]
  rfl
theorem mOfS_of {L n : Nat} {b : Sm Out} {ds : List D} {w : D} (h : ds.length = n) (h2 : b (startE L n ds) t = .ok (.rt w) t1) : mOfS L n b ds t = .ok w (t1.take (max t.length (top w))) := by
  unfold mOfS
  rw [if_pos h, h2]
  rfl
theorem mOfS_nx {L n : Nat} {b : Sm Out} {ds : List D} (h : ds.length = n) (h2 : b (startE L n ds) t = .ok (.nx e1) t1) : mOfS L n b ds t = .ok (.d .none) (t1.take t.length) := by
  unfold mOfS
  rw [if_pos h, h2]
  rfl
theorem mOfS_ex {L n : Nat} {b : Sm Out} {ds : List D} {xx : Exn} (h : ds.length = n) (h2 : b (startE L n ds) t = .ex xx t1) : mOfS L n b ds t = .ex xx (t1.take t.length) := by
  unfold mOfS
  rw [if_pos h, h2]
  rfl
theorem mOfS_dd {L n : Nat} {b : Sm Out} {ds : List D} {w : PyData} (h : ds.length = n) (h2 : b (startE L n ds) t = .ok (.rt (.d w)) t1) (hl : t1.length = t.length) : mOfS L n b ds t = .ok (.d w) t1 := by
  rw [mOfS_of h h2]
  show R.ok _ (t1.take (max t.length 0)) = _
  rw [Nat.max_eq_left (Nat.zero_le _), ← hl, List.take_length]
theorem mOfS_cd {L n : Nat} {b : Sm Out} {ds : List D} {w : PyData} (h : ds.length = n) (h2 : b (startE L n ds) t = .ok (.rt (.d w)) t1) (ht : t1.take t.length = t2) : mOfS L n b ds t = .ok (.d w) t2 := by
  rw [mOfS_of h h2]
  show R.ok _ (t1.take (max t.length 0)) = _
  rw [Nat.max_eq_left (Nat.zero_le _), ht]
theorem mOfS_cn {L n : Nat} {b : Sm Out} {ds : List D} (h : ds.length = n) (h2 : b (startE L n ds) t = .ok (.nx e1) t1) (ht : t1.take t.length = t2) : mOfS L n b ds t = .ok (.d .none) t2 := by
  rw [mOfS_nx h h2, ht]
theorem mOfS_cx {L n : Nat} {b : Sm Out} {ds : List D} {xx : Exn} (h : ds.length = n) (h2 : b (startE L n ds) t = .ex xx t1) (ht : t1.take t.length = t2) : mOfS L n b ds t = .ex xx t2 := by
  rw [mOfS_ex h h2, ht]
theorem pv_rfl {i : Nat} {w : D} {env : Env} (h : env[i]? = some (some w)) : pV i env = some w := by
  unfold pV
  rw [h]
theorem gn_of {i : Nat} {w : D} {env e1 : Env} (h : env.set i (some w) = e1) : gN i w env = some e1 := congrArg some h
theorem nl_of {ds : List D} (h1 : topL ds = 0) (h2 : ds.length ≤ 100000) : newLs ds t = .ok (.r t.length []) (t ++ [some (.nd .lst (ds.map Tr.v))]) := if_pos ⟨h1, h2⟩
theorem last_get {X : Option Tr} : (t ++ [X])[t.length]? = some X := by simp
theorem last_getT {X : Tr} : getT (t ++ [some X]) t.length [] = some X := by rw [getT_of last_get]; exact get_nil _
theorem last_put {X : Tr} {k : Kd} {us : List Tr} : putCh (t ++ [some X]) t.length [] k us = some (t ++ [some (.nd k us)]) := by
  unfold putCh
  rw [last_get]
  show (Tr.put X [] (.nd k us)).map _ = _
  rw [put_nil]
  show some ((t ++ [some X]).set t.length (some (.nd k us))) = _
  rw [List.set_append_right _ _ (Nat.le_refl _), Nat.sub_self]
  rfl
theorem last_al {us : List Tr} : isAl (.r t.length []) (t ++ [some (.nd .lst us)]) = true := by
  show (match getT (t ++ [some (Tr.nd .lst us)]) t.length [] with | some (.nd .lst _) => true | _ => false) = true
  rw [last_getT]
theorem last_app {us : List Tr} {w : D} (h : top w = 0) (h2 : us.length < 100000) : appX false (.r t.length []) w (t ++ [some (.nd .lst us)]) = some (t ++ [some (.nd .lst (us ++ [.v w]))]) := by
  show (match getT (t ++ [some (Tr.nd .lst us)]) t.length [] with | some (.nd .lst ts) => (if ts.length < 100000 then stc (t ++ [some (Tr.nd .lst us)]) t.length [] .lst ts ts.length false w else none) | _ => none) = _
  rw [last_getT]
  show (if us.length < 100000 then stc (t ++ [some (Tr.nd .lst us)]) t.length [] .lst us us.length false w else none) = _
  rw [if_pos h2]
  unfold stc
  rw [List.getElem?_eq_none (Nat.le_refl _), if_neg (by decide), if_neg (by decide), if_pos h, last_put]
  unfold setA
  rw [if_neg (Nat.lt_irrefl _)]
theorem leafs_d : ∀ xs : List PyData, leafs (xs.map fun y => Tr.v (.d y)) = some xs
  | [] => rfl
  | y :: r => by
    show (leafs (r.map fun y => Tr.v (.d y))).map (y :: ·) = _
    rw [leafs_d r]
    rfl
theorem last_frz {xs : List PyData} : frz (.r t.length []) (t ++ [some (.nd .lst (xs.map fun y => Tr.v (.d y)))]) = .ok (.d (.list xs)) (t ++ [none]) := by
  unfold frz
  dsimp only
  rw [last_get]
  dsimp only
  rw [leafs_d]
  dsimp only
  rw [List.set_append_right _ _ (Nat.le_refl _), Nat.sub_self]
  rfl
theorem mOfS_nn {L n : Nat} {b : Sm Out} {ds : List D} (h : ds.length = n) (h2 : b (startE L n ds) t = .ok (.nx e1) t1) (hl : t1.length = t.length) : mOfS L n b ds t = .ok (.d .none) t1 := by
  rw [mOfS_nx h h2, ← hl, List.take_length]
theorem mOfS_xx {L n : Nat} {b : Sm Out} {ds : List D} {xx : Exn} (h : ds.length = n) (h2 : b (startE L n ds) t = .ex xx t1) (hl : t1.length = t.length) : mOfS L n b ds t = .ex xx t1 := by
  rw [mOfS_ex h h2, ← hl, List.take_length]
end
end Dl
set_option maxRecDepth 100000
set_option maxHeartbeats 4000000
namespace My
open PySem L2 Dl
inductive Re where | feeds | used | same | cells | memory | shows | jump | any
deriving DecidableEq
inductive Ki where | set | sum | get | put | if_ | show_
deriving DecidableEq
inductive Ev where | lay | read | make | write | out
deriving DecidableEq
inductive Ho where | write | out
deriving DecidableEq
def Re.s : Re → Str
  | .feeds => "feeds" | .used => "used" | .same => "same" | .cells => "cells" | .memory => "memory" | .shows => "shows" | .jump => "jump" | .any => "any"
def Ki.s : Ki → Str
  | .set => "set" | .sum => "sum" | .get => "get" | .put => "put" | .if_ => "if" | .show_ => "show"
def Ev.s : Ev → Str
  | .lay => "lay" | .read => "read" | .make => "make" | .write => "write" | .out => "out"
def Ev.n : Ev → Nat
  | .lay => 0 | .read => 1 | .make => 2 | .write => 3 | .out => 4
def Ho.e : Ho → Ev
  | .write => .write | .out => .out
structure En where
  r : Re
  a : Ki
  b : Ki
  p : Ev
  q : Ev
deriving DecidableEq
def enc (e : En) : PyData := .tuple [.str e.r.s, .str e.a.s, .str e.b.s, .str e.p.s, .str e.q.s]
structure De where
  w : Int
  x : Bool
  y : Bool
  h0 : Ho
  h1 : Ho
  h2 : Ho
  T : List En
def encH (d : De) : PyData := .tuple [.str d.h0.e.s, .str d.h1.e.s, .str d.h2.e.s]
def encT (T : List En) : PyData := .tuple (T.map enc)
def encD (d : De) : PyData := .tuple [.int d.w, .bool d.x, .bool d.y, encH d, encT d.T]
theorem eqv_re (x y : Re) : PyData.eqv (.str x.s) (.str y.s) = decide (x = y) := by cases x <;> cases y <;> kernel_rfl
theorem eqv_ki (x y : Ki) : PyData.eqv (.str x.s) (.str y.s) = decide (x = y) := by cases x <;> cases y <;> kernel_rfl
theorem eqv_ev (x y : Ev) : PyData.eqv (.str x.s) (.str y.s) = decide (x = y) := by cases x <;> cases y <;> kernel_rfl
theorem sh_re (x : Re) : SeqAt.shaped (.str x.s) = true := by cases x <;> kernel_rfl
theorem sh_ki (x : Ki) : SeqAt.shaped (.str x.s) = true := by cases x <;> kernel_rfl
theorem sh_ev (x : Ev) : SeqAt.shaped (.str x.s) = true := by cases x <;> kernel_rfl
theorem feq_of {a b : PyData} {v : Bool} (ha : SeqAt.shaped a = true) (hb : SeqAt.shaped b = true) (h : PyData.eqv a b = v) : fEq (.d a) (.d b) = some (.d (.bool v)) := by
  unfold fEq
  dsimp only
  rw [if_pos ⟨ha, hb⟩, h]
theorem fne_of {a b : PyData} {v : Bool} (ha : SeqAt.shaped a = true) (hb : SeqAt.shaped b = true) (h : PyData.eqv a b = v) : fNe (.d a) (.d b) = some (.d (.bool (!v))) := by
  unfold fNe
  dsimp only
  rw [if_pos ⟨ha, hb⟩, h]
theorem feq_re (x y : Re) : fEq (.d (.str x.s)) (.d (.str y.s)) = some (.d (.bool (decide (x = y)))) := feq_of (sh_re x) (sh_re y) (eqv_re x y)
theorem fne_re (x y : Re) : fNe (.d (.str x.s)) (.d (.str y.s)) = some (.d (.bool (!decide (x = y)))) := fne_of (sh_re x) (sh_re y) (eqv_re x y)
theorem feq_re_feeds (x : Re) : fEq (.d (.str x.s)) (.d (.str "feeds")) = some (.d (.bool (decide (x = .feeds)))) := feq_re x .feeds
theorem fne_re_feeds (x : Re) : fNe (.d (.str x.s)) (.d (.str "feeds")) = some (.d (.bool (!decide (x = .feeds)))) := fne_re x .feeds
theorem feq_re_used (x : Re) : fEq (.d (.str x.s)) (.d (.str "used")) = some (.d (.bool (decide (x = .used)))) := feq_re x .used
theorem fne_re_used (x : Re) : fNe (.d (.str x.s)) (.d (.str "used")) = some (.d (.bool (!decide (x = .used)))) := fne_re x .used
theorem feq_re_same (x : Re) : fEq (.d (.str x.s)) (.d (.str "same")) = some (.d (.bool (decide (x = .same)))) := feq_re x .same
theorem fne_re_same (x : Re) : fNe (.d (.str x.s)) (.d (.str "same")) = some (.d (.bool (!decide (x = .same)))) := fne_re x .same
theorem feq_re_cells (x : Re) : fEq (.d (.str x.s)) (.d (.str "cells")) = some (.d (.bool (decide (x = .cells)))) := feq_re x .cells
theorem fne_re_cells (x : Re) : fNe (.d (.str x.s)) (.d (.str "cells")) = some (.d (.bool (!decide (x = .cells)))) := fne_re x .cells
theorem feq_re_memory (x : Re) : fEq (.d (.str x.s)) (.d (.str "memory")) = some (.d (.bool (decide (x = .memory)))) := feq_re x .memory
theorem fne_re_memory (x : Re) : fNe (.d (.str x.s)) (.d (.str "memory")) = some (.d (.bool (!decide (x = .memory)))) := fne_re x .memory
theorem feq_re_shows (x : Re) : fEq (.d (.str x.s)) (.d (.str "shows")) = some (.d (.bool (decide (x = .shows)))) := feq_re x .shows
theorem fne_re_shows (x : Re) : fNe (.d (.str x.s)) (.d (.str "shows")) = some (.d (.bool (!decide (x = .shows)))) := fne_re x .shows
theorem feq_re_jump (x : Re) : fEq (.d (.str x.s)) (.d (.str "jump")) = some (.d (.bool (decide (x = .jump)))) := feq_re x .jump
theorem fne_re_jump (x : Re) : fNe (.d (.str x.s)) (.d (.str "jump")) = some (.d (.bool (!decide (x = .jump)))) := fne_re x .jump
theorem feq_re_any (x : Re) : fEq (.d (.str x.s)) (.d (.str "any")) = some (.d (.bool (decide (x = .any)))) := feq_re x .any
theorem fne_re_any (x : Re) : fNe (.d (.str x.s)) (.d (.str "any")) = some (.d (.bool (!decide (x = .any)))) := fne_re x .any
theorem feq_ki (x y : Ki) : fEq (.d (.str x.s)) (.d (.str y.s)) = some (.d (.bool (decide (x = y)))) := feq_of (sh_ki x) (sh_ki y) (eqv_ki x y)
theorem fne_ki (x y : Ki) : fNe (.d (.str x.s)) (.d (.str y.s)) = some (.d (.bool (!decide (x = y)))) := fne_of (sh_ki x) (sh_ki y) (eqv_ki x y)
theorem feq_ki_set (x : Ki) : fEq (.d (.str x.s)) (.d (.str "set")) = some (.d (.bool (decide (x = .set)))) := feq_ki x .set
theorem fne_ki_set (x : Ki) : fNe (.d (.str x.s)) (.d (.str "set")) = some (.d (.bool (!decide (x = .set)))) := fne_ki x .set
theorem feq_ki_sum (x : Ki) : fEq (.d (.str x.s)) (.d (.str "sum")) = some (.d (.bool (decide (x = .sum)))) := feq_ki x .sum
theorem fne_ki_sum (x : Ki) : fNe (.d (.str x.s)) (.d (.str "sum")) = some (.d (.bool (!decide (x = .sum)))) := fne_ki x .sum
theorem feq_ki_get (x : Ki) : fEq (.d (.str x.s)) (.d (.str "get")) = some (.d (.bool (decide (x = .get)))) := feq_ki x .get
theorem fne_ki_get (x : Ki) : fNe (.d (.str x.s)) (.d (.str "get")) = some (.d (.bool (!decide (x = .get)))) := fne_ki x .get
theorem feq_ki_put (x : Ki) : fEq (.d (.str x.s)) (.d (.str "put")) = some (.d (.bool (decide (x = .put)))) := feq_ki x .put
theorem fne_ki_put (x : Ki) : fNe (.d (.str x.s)) (.d (.str "put")) = some (.d (.bool (!decide (x = .put)))) := fne_ki x .put
theorem feq_ki_if_ (x : Ki) : fEq (.d (.str x.s)) (.d (.str "if")) = some (.d (.bool (decide (x = .if_)))) := feq_ki x .if_
theorem fne_ki_if_ (x : Ki) : fNe (.d (.str x.s)) (.d (.str "if")) = some (.d (.bool (!decide (x = .if_)))) := fne_ki x .if_
theorem feq_ki_show_ (x : Ki) : fEq (.d (.str x.s)) (.d (.str "show")) = some (.d (.bool (decide (x = .show_)))) := feq_ki x .show_
theorem fne_ki_show_ (x : Ki) : fNe (.d (.str x.s)) (.d (.str "show")) = some (.d (.bool (!decide (x = .show_)))) := fne_ki x .show_
theorem feq_ev (x y : Ev) : fEq (.d (.str x.s)) (.d (.str y.s)) = some (.d (.bool (decide (x = y)))) := feq_of (sh_ev x) (sh_ev y) (eqv_ev x y)
theorem fne_ev (x y : Ev) : fNe (.d (.str x.s)) (.d (.str y.s)) = some (.d (.bool (!decide (x = y)))) := fne_of (sh_ev x) (sh_ev y) (eqv_ev x y)
theorem feq_ev_lay (x : Ev) : fEq (.d (.str x.s)) (.d (.str "lay")) = some (.d (.bool (decide (x = .lay)))) := feq_ev x .lay
theorem fne_ev_lay (x : Ev) : fNe (.d (.str x.s)) (.d (.str "lay")) = some (.d (.bool (!decide (x = .lay)))) := fne_ev x .lay
theorem feq_ev_read (x : Ev) : fEq (.d (.str x.s)) (.d (.str "read")) = some (.d (.bool (decide (x = .read)))) := feq_ev x .read
theorem fne_ev_read (x : Ev) : fNe (.d (.str x.s)) (.d (.str "read")) = some (.d (.bool (!decide (x = .read)))) := fne_ev x .read
theorem feq_ev_make (x : Ev) : fEq (.d (.str x.s)) (.d (.str "make")) = some (.d (.bool (decide (x = .make)))) := feq_ev x .make
theorem fne_ev_make (x : Ev) : fNe (.d (.str x.s)) (.d (.str "make")) = some (.d (.bool (!decide (x = .make)))) := fne_ev x .make
theorem feq_ev_write (x : Ev) : fEq (.d (.str x.s)) (.d (.str "write")) = some (.d (.bool (decide (x = .write)))) := feq_ev x .write
theorem fne_ev_write (x : Ev) : fNe (.d (.str x.s)) (.d (.str "write")) = some (.d (.bool (!decide (x = .write)))) := fne_ev x .write
theorem feq_ev_out (x : Ev) : fEq (.d (.str x.s)) (.d (.str "out")) = some (.d (.bool (decide (x = .out)))) := feq_ev x .out
theorem fne_ev_out (x : Ev) : fNe (.d (.str x.s)) (.d (.str "out")) = some (.d (.bool (!decide (x = .out)))) := fne_ev x .out
def tru {α : Type} (_ : α) : Bool := true
def wri : Ki → Bool
  | .set | .sum | .get => true
  | _ => false
def isGP : Ki → Bool
  | .get | .put => true
  | _ => false
def isHo : Ev → Bool
  | .write | .out => true
  | _ => false
theorem in_kinds (x : Ki) : fIn false (.d (.str x.s)) (.kt (.tuple [(.str "set"), (.str "sum"), (.str "get"), (.str "put"), (.str "if"), (.str "show")])) = some (.d (.bool true)) := by cases x <;> kernel_rfl
theorem in_kinds_n (x : Ki) : fIn true (.d (.str x.s)) (.kt (.tuple [(.str "set"), (.str "sum"), (.str "get"), (.str "put"), (.str "if"), (.str "show")])) = some (.d (.bool false)) := by cases x <;> kernel_rfl
theorem in_wri (x : Ki) : fIn false (.d (.str x.s)) (.kt (.tuple [(.str "set"), (.str "sum"), (.str "get")])) = some (.d (.bool (wri x))) := by cases x <;> kernel_rfl
theorem in_wri_n (x : Ki) : fIn true (.d (.str x.s)) (.kt (.tuple [(.str "set"), (.str "sum"), (.str "get")])) = some (.d (.bool (!wri x))) := by cases x <;> kernel_rfl
theorem in_wriL (x : Ki) : fIn false (.d (.str x.s)) (.d (.list [.str "set", .str "sum", .str "get"])) = some (.d (.bool (wri x))) := by cases x <;> kernel_rfl
theorem in_wriL_n (x : Ki) : fIn true (.d (.str x.s)) (.d (.list [.str "set", .str "sum", .str "get"])) = some (.d (.bool (!wri x))) := by cases x <;> kernel_rfl
theorem in_gpL (x : Ki) : fIn false (.d (.str x.s)) (.d (.list [.str "get", .str "put"])) = some (.d (.bool (isGP x))) := by cases x <;> kernel_rfl
theorem in_gpL_n (x : Ki) : fIn true (.d (.str x.s)) (.d (.list [.str "get", .str "put"])) = some (.d (.bool (!isGP x))) := by cases x <;> kernel_rfl
theorem in_gpT (x : Ki) : fIn false (.d (.str x.s)) (.d (.tuple [.str "get", .str "put"])) = some (.d (.bool (isGP x))) := by cases x <;> kernel_rfl
theorem in_gpT_n (x : Ki) : fIn true (.d (.str x.s)) (.d (.tuple [.str "get", .str "put"])) = some (.d (.bool (!isGP x))) := by cases x <;> kernel_rfl
theorem in_rel (x : Re) : fIn false (.d (.str x.s)) (.kt (.tuple [(.str "feeds"), (.str "used"), (.str "same"), (.str "cells"), (.str "memory"), (.str "shows"), (.str "jump"), (.str "any")])) = some (.d (.bool true)) := by cases x <;> kernel_rfl
theorem in_rel_n (x : Re) : fIn true (.d (.str x.s)) (.kt (.tuple [(.str "feeds"), (.str "used"), (.str "same"), (.str "cells"), (.str "memory"), (.str "shows"), (.str "jump"), (.str "any")])) = some (.d (.bool false)) := by cases x <;> kernel_rfl
theorem in_evs (x : Ev) : fIn false (.d (.str x.s)) (.kt (.tuple [(.str "lay"), (.str "read"), (.str "make"), (.str "write"), (.str "out")])) = some (.d (.bool true)) := by cases x <;> kernel_rfl
theorem in_evs_n (x : Ev) : fIn true (.d (.str x.s)) (.kt (.tuple [(.str "lay"), (.str "read"), (.str "make"), (.str "write"), (.str "out")])) = some (.d (.bool false)) := by cases x <;> kernel_rfl
theorem in_hoe (h : Ho) : fIn false (.d (.str h.e.s)) (.d (.tuple [.str "write", .str "out"])) = some (.d (.bool true)) := by cases h <;> kernel_rfl
theorem in_ho (x : Ev) : fIn false (.d (.str x.s)) (.d (.tuple [.str "write", .str "out"])) = some (.d (.bool (isHo x))) := by cases x <;> kernel_rfl
theorem in_ho_n (x : Ev) : fIn true (.d (.str x.s)) (.d (.tuple [.str "write", .str "out"])) = some (.d (.bool (!isHo x))) := by cases x <;> kernel_rfl
theorem at_get {xs : List PyData} {k : Nat} {x : PyData} (h : xs[k]? = some x) : atI xs (k : Int) = some x := by rw [at_nat]; exact h
theorem ix_l {xs : List PyData} {k : Nat} {x : PyData} (h : xs[k]? = some x) : fIx (.d (.list xs)) (.d (.int (k : Nat))) = some (.d x) := by
  show (atI xs (k : Int)).map D.d = _
  rw [at_get h]
  rfl
theorem ix_t {xs : List PyData} {k : Nat} {x : PyData} (h : xs[k]? = some x) : fIx (.d (.tuple xs)) (.d (.int (k : Nat))) = some (.d x) := by
  show (atI xs (k : Int)).map D.d = _
  rw [at_get h]
  rfl
theorem isi_i (i : Int) : cIsi [.d (.int i), .o (.ty "int")] = some (.d (.bool true)) := rfl
theorem isi_s (i : Str) : cIsi [.d (.str i), .o (.ty "str")] = some (.d (.bool true)) := rfl
theorem isi_t (i : List PyData) : cIsi [.d (.tuple i), .o (.ty "tuple")] = some (.d (.bool true)) := rfl
theorem isi_b (i : Bool) : cIsi [.d (.bool i), .o (.ty "bool")] = some (.d (.bool true)) := rfl
theorem isi_ib (i : Int) : cIsi [.d (.int i), .o (.ty "bool")] = some (.d (.bool false)) := rfl
theorem ix_e0 (e : En) : fIx (.d (enc e)) (.d (.int 0)) = some (.d (.str e.r.s)) := rfl
theorem ix_e1 (e : En) : fIx (.d (enc e)) (.d (.int 1)) = some (.d (.str e.a.s)) := rfl
theorem ix_e2 (e : En) : fIx (.d (enc e)) (.d (.int 2)) = some (.d (.str e.b.s)) := rfl
theorem ix_e3 (e : En) : fIx (.d (enc e)) (.d (.int 3)) = some (.d (.str e.p.s)) := rfl
theorem ix_e4 (e : En) : fIx (.d (enc e)) (.d (.int 4)) = some (.d (.str e.q.s)) := rfl
theorem ix_d0 (d : De) : fIx (.d (encD d)) (.d (.int 0)) = some (.d (.int d.w)) := rfl
theorem ix_d1 (d : De) : fIx (.d (encD d)) (.d (.int 1)) = some (.d (.bool d.x)) := rfl
theorem ix_d2 (d : De) : fIx (.d (encD d)) (.d (.int 2)) = some (.d (.bool d.y)) := rfl
theorem ix_d3 (d : De) : fIx (.d (encD d)) (.d (.int 3)) = some (.d (encH d)) := rfl
theorem ix_d4 (d : De) : fIx (.d (encD d)) (.d (.int 4)) = some (.d (encT d.T)) := rfl
theorem ix_h0 (d : De) : fIx (.d (encH d)) (.d (.int 0)) = some (.d (.str d.h0.e.s)) := rfl
theorem ix_h1 (d : De) : fIx (.d (encH d)) (.d (.int 1)) = some (.d (.str d.h1.e.s)) := rfl
theorem ix_h2 (d : De) : fIx (.d (encH d)) (.d (.int 2)) = some (.d (.str d.h2.e.s)) := rfl
theorem isi_e (e : En) : cIsi [.d (enc e), .o (.ty "tuple")] = some (.d (.bool true)) := rfl
theorem it_H (d : De) : itL (.d (encH d)) = some [.d (.str d.h0.e.s), .d (.str d.h1.e.s), .d (.str d.h2.e.s)] := rfl
theorem sl_d4 (d : De) : fSl (.d (encD d)) none (some 4) = some (.d (.tuple [.int d.w, .bool d.x, .bool d.y, encH d])) := rfl
theorem sl_e3 (e : En) : fSl (.d (enc e)) none (some 3) = some (.d (.tuple [.str e.r.s, .str e.a.s, .str e.b.s])) := rfl
theorem sl_e13 (e : En) : fSl (.d (enc e)) (some 1) (some 3) = some (.d (.tuple [.str e.a.s, .str e.b.s])) := rfl
theorem len_e (e : En) : cLen [.d (enc e)] = some (.d (.int 5)) := rfl
theorem len_d (d : De) : cLen [.d (encD d)] = some (.d (.int 5)) := rfl
theorem isi_d (d : De) : cIsi [.d (encD d), .o (.ty "tuple")] = some (.d (.bool true)) := rfl
end My
local macro_rules | `(tactic| walk_at "br") => `(tactic| first
  | ((with_reducible apply Dl.br_id); walk_at "brr"))
local macro_rules | `(tactic| walk_at "brr") => `(tactic| first
  | (refine Dl.br_t (by first | with_reducible rfl | with_reducible assumption) ?_)
  | (refine Dl.br_f (by first | with_reducible rfl | with_reducible assumption) ?_)
  | (refine Dl.br_t (by decide) ?_)
  | (refine Dl.br_f (by decide) ?_)
  | (refine Dl.br_t (decide_eq_true (by omega)) ?_)
  | (refine Dl.br_f (decide_eq_false (by omega)) ?_)
  | (with_reducible apply Dl.br_nei)
  | (with_reducible apply Dl.br_eqi))
local macro_rules | `(tactic| walk_at "lf") => `(tactic| first
  | (with_reducible assumption)
  | (with_reducible exact Dl.lf_all1)
  | (with_reducible exact Dl.lf_all2)
  | (with_reducible exact Dl.lf_all3)
  | (with_reducible exact Dl.lf_all4)
  | (with_reducible exact Dl.ixt_0)
  | (with_reducible exact Dl.ixl_0)
  | (with_reducible exact Dl.ixt_1)
  | (with_reducible exact Dl.ixl_1)
  | (with_reducible exact Dl.ixt_2)
  | (with_reducible exact Dl.ixl_2)
  | (with_reducible exact Dl.ixt_3)
  | (with_reducible exact Dl.ixl_3)
  | (with_reducible exact Dl.ixt_4)
  | (with_reducible exact Dl.ixl_4)
  | (with_reducible exact Dl.ixt_5)
  | (with_reducible exact Dl.ixl_5)
  | (with_reducible exact Dl.ixt_6)
  | (with_reducible exact Dl.ixl_6)
  | (with_reducible exact Dl.ixt_7)
  | (with_reducible exact Dl.ixl_7)
  | (with_reducible exact Dl.ixt_8)
  | (with_reducible exact Dl.ixl_8)
  | (with_reducible exact Dl.ixt_9)
  | (with_reducible exact Dl.ixl_9)
  | (with_reducible exact Dl.lf_add)
  | (with_reducible exact Dl.lf_sub)
  | (with_reducible exact Dl.lf_lt)
  | (with_reducible exact Dl.lf_le)
  | (with_reducible exact Dl.lf_gt)
  | (with_reducible exact Dl.lf_ge)
  | (with_reducible exact Dl.lf_eqi_s)
  | (with_reducible exact Dl.lf_nei_s)
  | (with_reducible exact Dl.lf_eqi)
  | (with_reducible exact Dl.lf_nei)
  | (with_reducible exact Dl.lf_lenl)
  | (with_reducible exact Dl.lf_lent)
  | (with_reducible exact Dl.lf_lens)
  | (with_reducible exact Dl.lf_tup1)
  | (with_reducible exact Dl.lf_tup2)
  | (with_reducible exact Dl.lf_lst1)
  | (with_reducible exact Dl.lf_lst2)
  | (with_reducible exact Dl.lf_int1)
  | (with_reducible exact Dl.lf_int2)
  | (with_reducible exact Dl.lf_str)
  | (with_reducible exact Dl.lf_isn1)
  | (with_reducible exact Dl.lf_is_s)
  | (with_reducible exact Dl.lf_isn_s)
  | (with_reducible exact Dl.lf_isb)
  | (with_reducible exact Dl.lf_isb2)
  | (with_reducible exact Dl.lf_sll)
  | (with_reducible exact Dl.lf_slt)
  | (with_reducible apply Dl.lf_addl)
  | (with_reducible apply Dl.lf_addt)
  | (with_reducible apply Dl.lf_adds))
local macro_rules | `(tactic| walk_at "lfL") => `(tactic| first
  | (with_reducible assumption)
  | (with_reducible exact Dl.lf_itl_1)
  | (with_reducible exact Dl.lf_itt_1)
  | (with_reducible exact Dl.lf_itl_2)
  | (with_reducible exact Dl.lf_itt_2)
  | (with_reducible exact Dl.lf_itl_3)
  | (with_reducible exact Dl.lf_itt_3)
  | (with_reducible exact Dl.lf_itl_4)
  | (with_reducible exact Dl.lf_itt_4)
  | (with_reducible exact Dl.lf_itl_5)
  | (with_reducible exact Dl.lf_itt_5)
  | (with_reducible exact Dl.lf_itl_6)
  | (with_reducible exact Dl.lf_itt_6)
  | (with_reducible exact Dl.lf_itl_7)
  | (with_reducible exact Dl.lf_itt_7)
  | (with_reducible exact Dl.lf_itl_8)
  | (with_reducible exact Dl.lf_itt_8)
  | (with_reducible exact Dl.lf_itl_9)
  | (with_reducible exact Dl.lf_itt_9)
  | (with_reducible exact Dl.lf_itl_10)
  | (with_reducible exact Dl.lf_itt_10)
  | (with_reducible exact Dl.lf_itl_11)
  | (with_reducible exact Dl.lf_itt_11)
  | (with_reducible exact Dl.lf_itl_12)
  | (with_reducible exact Dl.lf_itt_12)
  | (with_reducible exact Dl.lf_itl)
  | (with_reducible exact Dl.lf_itt)
  | (with_reducible exact Dl.lf_itls)
  | (with_reducible exact Dl.lf_r1_0 (z := ()))
  | (with_reducible exact Dl.lf_r1_1 (z := ()))
  | (with_reducible exact Dl.lf_r1_2 (z := ()))
  | (with_reducible exact Dl.lf_r1_3 (z := ()))
  | (with_reducible exact Dl.lf_r1_4 (z := ()))
  | (with_reducible exact Dl.lf_r1_5 (z := ()))
  | (with_reducible exact Dl.lf_r1_6 (z := ()))
  | (with_reducible exact Dl.lf_r1_7 (z := ()))
  | (with_reducible exact Dl.lf_r1_8 (z := ()))
  | (with_reducible apply Dl.lf_r1n))
local macro_rules | `(tactic| walk_at "eOD") => `(tactic| first
  | (with_reducible assumption)
  | ((with_reducible apply Dl.pv_rfl); exact rfl)
  | (with_reducible exact Dl.lf_c)
  | (with_reducible apply Dl.p_op)
  | (with_reducible apply Dl.p_mk)
  | (with_reducible apply Dl.p_ap)
  | (with_reducible apply Dl.p_m1)
  | (with_reducible apply Dl.p_sl)
  | (with_reducible apply Dl.p_andV)
  | (with_reducible apply Dl.p_orV)
  | (with_reducible apply Dl.p_notV)
  | (with_reducible apply Dl.p_ch)
  | (with_reducible apply Dl.p_if_not)
  | (with_reducible apply Dl.p_if_and)
  | (with_reducible apply Dl.p_if_or)
  | (with_reducible apply Dl.p_if)
  | (with_reducible apply Dl.p_bind)
  | walk_at "br"
  | (with_reducible apply Dl.br_and)
  | (with_reducible apply Dl.br_or)
  | (with_reducible apply Dl.mt_of (by simp only [List.length_cons, List.length_nil]; omega))
  | (with_reducible apply Dl.ml_of (by simp only [List.length_cons, List.length_nil]; omega))
  | walk_at "lf")
local macro_rules | `(tactic| walk_at "eD") => `(tactic| first
  | exact rfl)
local macro_rules | `(tactic| walk_at "eOB") => `(tactic| first
  | (with_reducible assumption)
  | (with_reducible apply Dl.p_b)
  | (with_reducible apply Dl.p_not)
  | (with_reducible apply Dl.p_and)
  | (with_reducible apply Dl.p_or)
  | (with_reducible exact Dl.lf_c)
  | (with_reducible apply Dl.p_if_not)
  | (with_reducible apply Dl.p_if_and)
  | (with_reducible apply Dl.p_if_or)
  | (with_reducible apply Dl.p_if)
  | walk_at "br"
  | (with_reducible apply Dl.br_andB)
  | (with_reducible apply Dl.br_orB)
  | walk_at "lf")
local macro_rules | `(tactic| walk_at "eOL") => `(tactic| first
  | (with_reducible assumption)
  | (with_reducible apply Dl.p_cons)
  | (with_reducible exact Dl.p_nil)
  | (with_reducible apply Dl.p_it)
  | (with_reducible apply Dl.p_rg)
  | (with_reducible apply Dl.p_lc)
  | (with_reducible exact Dl.gp_nil)
  | (with_reducible apply Dl.gp_cons)
  | (with_reducible apply Dl.gp_el)
  | walk_at "br"
  | (with_reducible apply Dl.p_if)
  | walk_at "lfL")
local macro_rules | `(tactic| walk_at "eOO") => `(tactic| first
  | (with_reducible assumption)
  | ((with_reducible apply Dl.p_s_forrt); (repeat' walk_at "e1"); done)
  | (with_reducible apply Dl.p_s_seq)
  | (with_reducible apply Dl.p_s_if)
  | (with_reducible apply Dl.p_s_nx)
  | (with_reducible apply Dl.p_s_ret)
  | (with_reducible apply Dl.p_s_asg)
  | (with_reducible apply Dl.p_s_par2)
  | (with_reducible apply Dl.p_s_par3)
  | (with_reducible apply Dl.p_s_aug)
  | (with_reducible apply Dl.p_s_for)
  | (with_reducible apply Dl.p_for)
  | (with_reducible exact Dl.gfp_nil)
  | (with_reducible apply Dl.gfp_cons)
  | (with_reducible apply Dl.p_if_not)
  | (with_reducible apply Dl.p_if_and)
  | (with_reducible apply Dl.p_if_or)
  | (with_reducible apply Dl.p_if)
  | (with_reducible apply Dl.p_ret)
  | (with_reducible apply Dl.p_asg)
  | (with_reducible exact Dl.p_nx)
  | walk_at "br"
  | walk_at "lfO")
local macro_rules | `(tactic| walk_at "lfO") => `(tactic| first
  | (with_reducible assumption))
local macro_rules | `(tactic| walk_at "eOE") => `(tactic| first
  | (with_reducible exact Dl.gn_0)
  | (with_reducible exact Dl.gn_1)
  | (with_reducible exact Dl.gn_2)
  | (with_reducible exact Dl.gn_3)
  | (with_reducible exact Dl.gn_4)
  | (with_reducible exact Dl.gn_5)
  | (with_reducible exact Dl.gn_6)
  | (with_reducible exact Dl.gn_7)
  | (with_reducible exact Dl.gn_8)
  | (with_reducible exact Dl.gn_9)
  | (with_reducible exact Dl.gn_10)
  | (with_reducible exact Dl.gn_11)
  | (with_reducible exact Dl.gn_12)
  | (with_reducible exact Dl.gn_13)
  | (with_reducible exact Dl.gn_14)
  | (with_reducible exact Dl.gn_15)
  | (with_reducible exact Dl.gn_16)
  | (with_reducible exact Dl.gn_17)
  | (with_reducible exact Dl.gn_18)
  | (with_reducible exact Dl.gn_19)
  | (with_reducible exact Dl.gn_20)
  | (with_reducible exact Dl.gn_21)
  | (with_reducible exact Dl.gn_22)
  | (with_reducible exact Dl.gn_23)
  | (with_reducible exact Dl.gn_24)
  | (with_reducible exact Dl.gn_25)
  | (with_reducible exact Dl.gn_26)
  | (with_reducible exact Dl.gn_27)
  | (with_reducible exact Dl.gn_28)
  | (with_reducible exact Dl.gn_29)
  | (with_reducible exact Dl.gn_30)
  | (with_reducible exact Dl.gn_31)
  | (with_reducible exact Dl.gn_32)
  | (with_reducible exact Dl.gn_33)
  | (with_reducible exact Dl.gn_34)
  | (with_reducible exact Dl.gn_35)
  | (with_reducible exact Dl.gn_36)
  | (with_reducible exact Dl.gn_37)
  | (with_reducible exact Dl.gn_38)
  | (with_reducible exact Dl.gn_39)
  | (with_reducible exact Dl.gn_40)
  | (with_reducible exact Dl.gn_41)
  | (with_reducible exact Dl.gn_42)
  | (with_reducible exact Dl.gn_43)
  | (with_reducible exact Dl.gn_44)
  | (with_reducible exact Dl.gn_45)
  | (with_reducible exact Dl.gn_46)
  | (with_reducible exact Dl.gn_47)
  | walk_at "lfE")
local macro_rules | `(tactic| walk_at "lfE") => `(tactic| first
  | (with_reducible assumption))
local macro_rules | `(tactic| walk_at "eOI") => `(tactic| first
  | (with_reducible apply Dl.p_part)
  | (with_reducible exact Dl.lf_c))
local macro_rules | `(tactic| walk_at "eOP") => `(tactic| first
  | (with_reducible exact Dl.pd_nil)
  | (with_reducible apply Dl.pd_cons)
  | walk_at "lfP")
local macro_rules | `(tactic| walk_at "lfP") => `(tactic| first
  | (with_reducible assumption))
local macro_rules | `(tactic| walk_at "eRD") => `(tactic| first
  | (with_reducible assumption)
  | ((with_reducible refine (?_ : @Eq (Dl.R Dl.D) (Dl.R.ok _ _) _)); exact rfl)
  | ((with_reducible refine (?_ : @Eq (Dl.R Dl.D) (Dl.R.ex _ _) _)); exact rfl)
  | (with_reducible apply Dl.s_lift)
  | (with_reducible apply Dl.s_op)
  | (with_reducible apply Dl.s_opT)
  | (with_reducible apply Dl.s_mk)
  | (with_reducible apply Dl.s_mkT)
  | (with_reducible apply Dl.s_andV)
  | (with_reducible apply Dl.s_orV)
  | (with_reducible apply Dl.s_notV)
  | (with_reducible apply Dl.s_ap)
  | (with_reducible apply Dl.s_ix)
  | (with_reducible apply Dl.s_sl)
  | (with_reducible apply Dl.s_slX)
  | (with_reducible apply Dl.s_m1)
  | (with_reducible apply Dl.s_ch)
  | (with_reducible apply Dl.s_call)
  | (with_reducible apply Dl.s_meth1)
  | (with_reducible apply Dl.s_fld)
  | (with_reducible apply Dl.s_meth)
  | (with_reducible apply Dl.s_alL)
  | (with_reducible apply Dl.s_alC)
  | (with_reducible apply Dl.s_alR)
  | (with_reducible apply Dl.s_dict)
  | (with_reducible apply Dl.s_frz)
  | (with_reducible apply Dl.s_isx)
  | (with_reducible apply Dl.s_xf)
  | (with_reducible exact Dl.s_lam)
  | (with_reducible apply Dl.s_hi)
  | (with_reducible apply Dl.s_if_not)
  | (with_reducible apply Dl.s_if_and)
  | (with_reducible apply Dl.s_if_or)
  | (with_reducible apply Dl.s_if_lnot)
  | (with_reducible apply Dl.s_if_land)
  | (with_reducible apply Dl.s_if_lor)
  | (with_reducible apply Dl.s_if)
  | (with_reducible apply Dl.s_lif)
  | walk_at "br"
  | walk_at "lfR")
local macro_rules | `(tactic| walk_at "lfR") => `(tactic| first
  | (with_reducible assumption))
local macro_rules | `(tactic| walk_at "eRB") => `(tactic| first
  | (with_reducible assumption)
  | ((with_reducible refine (?_ : @Eq (Dl.R Bool) (Dl.R.ok _ _) _)); exact rfl)
  | (with_reducible apply Dl.s_lift)
  | (with_reducible apply Dl.s_b)
  | (with_reducible apply Dl.s_not)
  | (with_reducible apply Dl.s_and)
  | (with_reducible apply Dl.s_or)
  | (with_reducible apply Dl.s_if_not)
  | (with_reducible apply Dl.s_if_and)
  | (with_reducible apply Dl.s_if_or)
  | (with_reducible apply Dl.s_if_lnot)
  | (with_reducible apply Dl.s_if_land)
  | (with_reducible apply Dl.s_if_lor)
  | (with_reducible apply Dl.s_if)
  | walk_at "br")
local macro_rules | `(tactic| walk_at "eRL") => `(tactic| first
  | (with_reducible assumption)
  | ((with_reducible refine (?_ : @Eq (Dl.R (List Dl.D)) (Dl.R.ok _ _) _)); exact rfl)
  | (with_reducible apply Dl.s_lift)
  | (with_reducible apply Dl.s_cons)
  | (with_reducible exact Dl.s_nil)
  | (with_reducible apply Dl.s_lc)
  | (with_reducible apply Dl.g_st)
  | (with_reducible exact Dl.c_nil)
  | (with_reducible apply Dl.c_cons)
  | walk_at "lfRL")
local macro_rules | `(tactic| walk_at "lfRL") => `(tactic| first
  | (with_reducible assumption))
local macro_rules | `(tactic| walk_at "eRO") => `(tactic| first
  | (with_reducible assumption)
  | ((with_reducible refine (?_ : @Eq (Dl.R Dl.Out) (Dl.R.ok _ _) _)); exact rfl)
  | ((with_reducible apply Dl.s_s_expex); (repeat' walk_at "e1"); done)
  | ((with_reducible apply Dl.s_s_retex); (repeat' walk_at "e1"); done)
  | ((with_reducible apply Dl.s_s_asgex); (repeat' walk_at "e1"); done)
  | (with_reducible apply Dl.s_s_seq)
  | (with_reducible apply Dl.s_s_lseq)
  | (with_reducible apply Dl.s_s_if)
  | (with_reducible apply Dl.s_s_lif)
  | (with_reducible apply Dl.s_s_nx)
  | (with_reducible apply Dl.s_s_lnx)
  | (with_reducible apply Dl.s_s_ret)
  | (with_reducible apply Dl.s_s_lret)
  | (with_reducible apply Dl.s_s_asg)
  | (with_reducible apply Dl.s_s_lasg)
  | (with_reducible apply Dl.s_s_asgS)
  | (with_reducible apply Dl.s_s_fset)
  | (with_reducible apply Dl.s_s_fadd)
  | (with_reducible apply Dl.s_s_exp)
  | (with_reducible apply Dl.s_s_lexp)
  | (with_reducible exact Dl.s_s_raise)
  | (with_reducible apply Dl.s_s_raise1)
  | (with_reducible apply Dl.s_s_par2)
  | (with_reducible apply Dl.s_s_par3)
  | (with_reducible apply Dl.s_s_lpar2)
  | (with_reducible apply Dl.s_s_lpar3)
  | (with_reducible apply Dl.s_s_aug)
  | (with_reducible apply Dl.s_s_laug)
  | (with_reducible apply Dl.s_if_not)
  | (with_reducible apply Dl.s_if_and)
  | (with_reducible apply Dl.s_if_or)
  | (with_reducible apply Dl.s_if_lnot)
  | (with_reducible apply Dl.s_if_land)
  | (with_reducible apply Dl.s_if_lor)
  | (with_reducible apply Dl.s_if)
  | ((with_reducible apply Dl.s_s_forex); (repeat' walk_at "e1"); done)
  | ((with_reducible apply Dl.s_s_forrt); (repeat' walk_at "e1"); done)
  | (with_reducible apply Dl.s_s_for)
  | (with_reducible apply Dl.s_for)
  | (with_reducible apply Dl.gf_st)
  | (with_reducible exact Dl.gf_nil)
  | (with_reducible apply Dl.gf_cons)
  | (with_reducible apply Dl.s_l_ret)
  | (with_reducible apply Dl.s_l_asg)
  | (with_reducible apply Dl.s_l_exp)
  | (with_reducible apply Dl.s_l_asgs)
  | (with_reducible apply Dl.s_l_raise)
  | (with_reducible apply Dl.s_l_raise1)
  | (with_reducible apply Dl.s_l_par2)
  | (with_reducible apply Dl.s_l_fldset)
  | (with_reducible apply Dl.s_l_fldadd)
  | (with_reducible apply Dl.s_l_lret)
  | (with_reducible apply Dl.s_l_lasg)
  | (with_reducible apply Dl.s_l_lnx)
  | (with_reducible apply Dl.s_l_lseq)
  | (with_reducible apply Dl.s_l_lexp)
  | (with_reducible apply Dl.s_fzs)
  | (with_reducible exact Dl.s_nx)
  | (with_reducible apply Dl.s_lif)
  | walk_at "br"
  | walk_at "lfRO")
local macro_rules | `(tactic| walk_at "lfRO") => `(tactic| first
  | (with_reducible assumption))
local macro_rules | `(tactic| walk_at "eRI") => `(tactic| first
  | (with_reducible assumption)
  | (with_reducible apply Dl.s_li)
  | (with_reducible apply Dl.s_it)
  | (with_reducible apply Dl.s_rg)
  | walk_at "lfRI")
local macro_rules | `(tactic| walk_at "lfRI") => `(tactic| first
  | (with_reducible assumption))
local macro_rules | `(tactic| walk_at "eRE") => `(tactic| first
  | (with_reducible apply Dl.s_gsx)
  | (with_reducible apply Dl.s_gsf)
  | (with_reducible apply Dl.s_gL)
  | walk_at "lfRE")
local macro_rules | `(tactic| walk_at "lfRE") => `(tactic| first
  | (with_reducible assumption))
local macro_rules | `(tactic| walk_at "eEn") => `(tactic| first
  | (with_reducible exact Dl.w_nil)
  | (with_reducible apply Dl.w_cons)
  | (with_reducible exact Dl.st_0)
  | (with_reducible exact Dl.st_1)
  | (with_reducible exact Dl.st_2)
  | (with_reducible exact Dl.st_3)
  | (with_reducible exact Dl.st_4)
  | (with_reducible exact Dl.st_5)
  | (with_reducible exact Dl.st_6)
  | (with_reducible exact Dl.st_7)
  | (with_reducible exact Dl.st_8)
  | (with_reducible exact Dl.st_9)
  | (with_reducible exact Dl.st_10)
  | (with_reducible exact Dl.st_11)
  | (with_reducible exact Dl.st_12)
  | (with_reducible exact Dl.st_13)
  | (with_reducible exact Dl.st_14)
  | (with_reducible exact Dl.st_15)
  | (with_reducible exact Dl.st_16)
  | (with_reducible exact Dl.st_17)
  | (with_reducible exact Dl.st_18)
  | (with_reducible exact Dl.st_19)
  | (with_reducible exact Dl.st_20)
  | (with_reducible exact Dl.st_21)
  | (with_reducible exact Dl.st_22)
  | (with_reducible exact Dl.st_23)
  | (with_reducible exact Dl.st_24)
  | (with_reducible exact Dl.st_25)
  | (with_reducible exact Dl.st_26)
  | (with_reducible exact Dl.st_27)
  | (with_reducible exact Dl.st_28)
  | (with_reducible exact Dl.st_29)
  | (with_reducible exact Dl.st_30)
  | (with_reducible exact Dl.st_31)
  | (with_reducible exact Dl.st_32)
  | (with_reducible exact Dl.st_33)
  | (with_reducible exact Dl.st_34)
  | (with_reducible exact Dl.st_35)
  | (with_reducible exact Dl.st_36)
  | (with_reducible exact Dl.st_37)
  | (with_reducible exact Dl.st_38)
  | (with_reducible exact Dl.st_39)
  | (with_reducible exact Dl.st_40)
  | (with_reducible exact Dl.st_41)
  | (with_reducible exact Dl.st_42)
  | (with_reducible exact Dl.st_43)
  | (with_reducible exact Dl.st_44)
  | (with_reducible exact Dl.st_45)
  | (with_reducible exact Dl.st_46)
  | (with_reducible exact Dl.st_47))
local macro_rules | `(tactic| walk_at "e1") => `(tactic| first
  | ((with_reducible refine (?_ : @Eq (Dl.D) _ _)); walk_at "eD")
  | ((with_reducible refine (?_ : @Eq (Option Dl.D) _ _)); walk_at "eOD")
  | ((with_reducible refine (?_ : @Eq (Option Bool) _ _)); walk_at "eOB")
  | ((with_reducible refine (?_ : @Eq (Option (List Dl.D)) _ _)); walk_at "eOL")
  | ((with_reducible refine (?_ : @Eq (Dl.R Dl.D) _ _)); walk_at "eRD")
  | ((with_reducible refine (?_ : @Eq (Dl.R Dl.Out) _ _)); walk_at "eRO")
  | ((with_reducible refine (?_ : @Eq (Option Dl.Out) _ _)); walk_at "eOO")
  | ((with_reducible refine (?_ : @Eq (Dl.R Bool) _ _)); walk_at "eRB")
  | ((with_reducible refine (?_ : @Eq (Dl.R (List Dl.D)) _ _)); walk_at "eRL")
  | ((with_reducible refine (?_ : @Eq (Option Dl.Env) _ _)); walk_at "eOE")
  | ((with_reducible refine (?_ : @Eq (Option (List PySem.PyData)) _ _)); walk_at "eOP")
  | ((with_reducible refine (?_ : @Eq (Option (Option Int)) _ _)); walk_at "eOI")
  | ((with_reducible refine (?_ : @Eq (Dl.R Dl.Itb) _ _)); walk_at "eRI")
  | ((with_reducible refine (?_ : @Eq (Dl.R Dl.Env) _ _)); walk_at "eRE")
  | ((with_reducible refine (?_ : @Eq (Dl.Env) _ _)); walk_at "eEn")
  | walk_at "lfX")
local macro_rules | `(tactic| walk_at "lfX") => `(tactic| first
  | (with_reducible assumption)
  | ((with_reducible refine (?_ : @Eq Nat (List.length _) (List.length _))); exact rfl)
  | (simp only [List.length_map, List.length_cons, List.length_nil, List.length_range]; omega))
local macro_rules | `(tactic| walk_at "ev") => `(tactic| first
  | (repeat' walk_at "e1"))
local macro_rules | `(tactic| walk_at "evd") => `(tactic| first
  | ((repeat' walk_at "e1"); first | done | (focus fail "stuck")))
local macro_rules | `(tactic| walk_at "lf") => `(tactic| first
  | (with_reducible exact My.feq_re _ _)
  | (with_reducible exact My.fne_re _ _)
  | (with_reducible exact My.feq_re_feeds _)
  | (with_reducible exact My.fne_re_feeds _)
  | (with_reducible exact My.feq_re_used _)
  | (with_reducible exact My.fne_re_used _)
  | (with_reducible exact My.feq_re_same _)
  | (with_reducible exact My.fne_re_same _)
  | (with_reducible exact My.feq_re_cells _)
  | (with_reducible exact My.fne_re_cells _)
  | (with_reducible exact My.feq_re_memory _)
  | (with_reducible exact My.fne_re_memory _)
  | (with_reducible exact My.feq_re_shows _)
  | (with_reducible exact My.fne_re_shows _)
  | (with_reducible exact My.feq_re_jump _)
  | (with_reducible exact My.fne_re_jump _)
  | (with_reducible exact My.feq_re_any _)
  | (with_reducible exact My.fne_re_any _)
  | (with_reducible exact My.feq_ki _ _)
  | (with_reducible exact My.fne_ki _ _)
  | (with_reducible exact My.feq_ki_set _)
  | (with_reducible exact My.fne_ki_set _)
  | (with_reducible exact My.feq_ki_sum _)
  | (with_reducible exact My.fne_ki_sum _)
  | (with_reducible exact My.feq_ki_get _)
  | (with_reducible exact My.fne_ki_get _)
  | (with_reducible exact My.feq_ki_put _)
  | (with_reducible exact My.fne_ki_put _)
  | (with_reducible exact My.feq_ki_if_ _)
  | (with_reducible exact My.fne_ki_if_ _)
  | (with_reducible exact My.feq_ki_show_ _)
  | (with_reducible exact My.fne_ki_show_ _)
  | (with_reducible exact My.feq_ev _ _)
  | (with_reducible exact My.fne_ev _ _)
  | (with_reducible exact My.feq_ev_lay _)
  | (with_reducible exact My.fne_ev_lay _)
  | (with_reducible exact My.feq_ev_read _)
  | (with_reducible exact My.fne_ev_read _)
  | (with_reducible exact My.feq_ev_make _)
  | (with_reducible exact My.fne_ev_make _)
  | (with_reducible exact My.feq_ev_write _)
  | (with_reducible exact My.fne_ev_write _)
  | (with_reducible exact My.feq_ev_out _)
  | (with_reducible exact My.fne_ev_out _)
  | (with_reducible exact My.in_kinds _)
  | (with_reducible exact My.in_kinds_n _)
  | (with_reducible exact My.in_wri _)
  | (with_reducible exact My.in_wri_n _)
  | (with_reducible exact My.in_wriL _)
  | (with_reducible exact My.in_wriL_n _)
  | (with_reducible exact My.in_gpL _)
  | (with_reducible exact My.in_gpL_n _)
  | (with_reducible exact My.in_gpT _)
  | (with_reducible exact My.in_gpT_n _)
  | (with_reducible exact My.in_rel _)
  | (with_reducible exact My.in_rel_n _)
  | (with_reducible exact My.in_evs _)
  | (with_reducible exact My.in_evs_n _)
  | (with_reducible exact My.in_hoe _)
  | (with_reducible exact My.in_ho _)
  | (with_reducible exact My.in_ho_n _)
  | (with_reducible exact My.isi_i _)
  | (with_reducible exact My.isi_s _)
  | (with_reducible exact My.isi_t _)
  | (with_reducible exact My.isi_b _)
  | (with_reducible exact My.isi_ib _)
  | (with_reducible exact My.ix_e0 _)
  | (with_reducible exact My.ix_e1 _)
  | (with_reducible exact My.ix_e2 _)
  | (with_reducible exact My.ix_e3 _)
  | (with_reducible exact My.ix_e4 _)
  | (with_reducible exact My.ix_d0 _)
  | (with_reducible exact My.ix_d1 _)
  | (with_reducible exact My.ix_d2 _)
  | (with_reducible exact My.ix_d3 _)
  | (with_reducible exact My.ix_d4 _)
  | (with_reducible exact My.ix_h0 _)
  | (with_reducible exact My.ix_h1 _)
  | (with_reducible exact My.ix_h2 _)
  | (with_reducible exact My.isi_e _)
  | (with_reducible exact My.sl_d4 _)
  | (with_reducible exact My.sl_e3 _)
  | (with_reducible exact My.sl_e13 _)
  | (with_reducible exact My.len_e _)
  | (with_reducible exact My.len_d _)
  | (with_reducible exact My.isi_d _))
local macro_rules | `(tactic| walk_at "lfL") => `(tactic| with_reducible exact My.it_H _)
set_option maxRecDepth 100000
set_option maxHeartbeats 4000000
/-! tables -/
namespace My
open PySem L2 Dl
theorem ok_re (x : Re) : PyData.strOk x.s = true := by cases x <;> kernel_rfl
theorem ok_ki (x : Ki) : PyData.strOk x.s = true := by cases x <;> kernel_rfl
theorem ok_ev (x : Ev) : PyData.strOk x.s = true := by cases x <;> kernel_rfl
theorem sh_enc (e : En) : SeqAt.shaped (enc e) = true := by
  simp [enc, SeqAt.shaped, PyData.canLay0, PyData.canLayAll0, PyData.depth, PyData.depthAll, ok_re, ok_ki, ok_ev]
theorem eqv_enc (s e : En) : PyData.eqv (enc s) (enc e) = decide (s = e) := by
  obtain ⟨r, a, b, p, q⟩ := s
  obtain ⟨r', a', b', p', q'⟩ := e
  show (PyData.eqv (.str r.s) (.str r'.s) && (PyData.eqv (.str a.s) (.str a'.s) && (PyData.eqv (.str b.s) (.str b'.s) && (PyData.eqv (.str p.s) (.str p'.s) && (PyData.eqv (.str q.s) (.str q'.s) && true))))) = _
  rw [eqv_re, eqv_ki, eqv_ki, eqv_ev, eqv_ev, Bool.and_true]
  simp [En.mk.injEq]
theorem ne_enc (s e : En) : fNe (.d (enc s)) (.d (enc e)) = some (.d (.bool (decide (s ≠ e)))) := by
  simp [fNe, sh_enc, eqv_enc]
/-! the least table -/
theorem re_inj {x y : Re} (h : x.s = y.s) : x = y := by
  have := eqv_re x y
  rw [h, eqv_re y y, decide_eq_true rfl] at this
  exact of_decide_eq_true this.symm
theorem ki_inj {x y : Ki} (h : x.s = y.s) : x = y := by
  have := eqv_ki x y
  rw [h, eqv_ki y y, decide_eq_true rfl] at this
  exact of_decide_eq_true this.symm
theorem ev_inj {x y : Ev} (h : x.s = y.s) : x = y := by
  have := eqv_ev x y
  rw [h, eqv_ev y y, decide_eq_true rfl] at this
  exact of_decide_eq_true this.symm
def encK (e : En) : List Key := [.inr e.r.s, .inr e.a.s, .inr e.b.s, .inr e.p.s, .inr e.q.s]
theorem encK_inj {x y : En} (h : encK x = encK y) : x = y := by
  obtain ⟨r, a, b, p, q⟩ := x
  obtain ⟨r', a', b', p', q'⟩ := y
  unfold encK at h
  simp only [List.cons.injEq, Sum.inr.injEq, and_true] at h
  obtain ⟨h1, h2, h3, h4, h5⟩ := h
  rw [re_inj h1, ki_inj h2, ki_inj h3, ev_inj h4, ev_inj h5]
def addE (U : List En) (e : En) : List En := if e ∈ U then U else U ++ [e]
/-- what is drawn so far -/
structure Drw (U : List En) (n : Nat) : Prop where
  nd : U.Nodup
  ent : ∀ e ∈ U, e.p ≠ .lay
  len : U.length ≤ n
theorem Drw.add {U : List En} {n : Nat} (h : Drw U n) {e : En} (he : e.p ≠ .lay) : Drw (addE U e) (n + 1) := by
  unfold addE
  by_cases c : e ∈ U
  · rw [if_pos c]; exact ⟨h.nd, h.ent, Nat.le_succ_of_le h.len⟩
  · rw [if_neg c]
    refine ⟨List.nodup_append.mpr ⟨h.nd, List.pairwise_singleton _ _, fun x hx y hy => ?_⟩, fun x hx => ?_, by rw [List.length_append]; have := h.len; show U.length + 1 ≤ n + 1; omega⟩
    · rw [List.mem_singleton] at hy
      subst hy
      exact fun e => c (e ▸ hx)
    · rcases List.mem_append.mp hx with hx | hx
      · exact h.ent x hx
      · rw [List.mem_singleton] at hx; subst hx; exact he
def ltE (a b : En) : Bool := ltT (enc a) (enc b)
theorem lt_enc (a b : En) : fLt (.d (enc a)) (.d (enc b)) = some (.d (.bool (ltE a b))) := rfl
/-- T is a table -/
structure Tab (T : List En) : Prop where
  len : T.length ≤ 90000
  ent : ∀ e ∈ T, e.p ≠ .lay
  asc : ∀ (k : Nat) (a b : En), T[k]? = some a → T[k + 1]? = some b → ltE a b = true
/-- sorted -/
theorem dec_list {U : List En} : ∀ {l : List PyData}, (∀ x ∈ l, ∃ e ∈ U, enc e = x) → ∃ T : List En, T.map enc = l ∧ ∀ e ∈ T, e ∈ U
  | [], _ => ⟨[], rfl, fun e h => nomatch h⟩
  | x :: r, h => by
    obtain ⟨e, he, rfl⟩ := h x List.mem_cons_self
    obtain ⟨T, h1, h2⟩ := dec_list (l := r) fun y hy => h y (List.mem_cons_of_mem _ hy)
    refine ⟨e :: T, by rw [List.map_cons, h1], fun z hz => ?_⟩
    rcases List.mem_cons.mp hz with q | hz
    · rw [q]; exact he
    · exact h2 z hz
theorem enc_inj {x y : En} (h : enc x = enc y) : x = y := by
  have := eqv_enc x y
  rw [h, eqv_enc y y, decide_eq_true rfl] at this
  exact of_decide_eq_true this.symm
theorem ts_enc (e : En) : TS (enc e) := ⟨_, rfl, fun h => nomatch h⟩
theorem sort_tab {U : List En} {n : Nat} (h : Drw U n) (hn : n ≤ 90000) : ∃ T : List En, isort (U.map enc) = T.map enc ∧ Tab T ∧ ∀ e, e ∈ T ↔ e ∈ U := by
  have pm := isort_perm (U.map enc)
  obtain ⟨T, h1, h2⟩ := dec_list (U := U) (l := isort (U.map enc)) fun x hx => by
    obtain ⟨e, he, q⟩ := List.mem_map.mp (pm.mem_iff.mp hx)
    exact ⟨e, he, q⟩
  refine ⟨T, h1.symm, ⟨?_, fun e he => h.ent e (h2 e he), fun k a b ha hb => ?_⟩, fun e => ⟨h2 e, fun he => ?_⟩⟩
  · have := pm.length_eq
    rw [← h1, List.length_map, List.length_map] at this
    have := h.len
    omega
  · have nd : (isort (U.map enc)).Nodup := pm.nodup_iff.mpr (by
      have : U.Nodup := h.nd
      exact List.Pairwise.map enc (fun x y hxy e => hxy (enc_inj e)) this)
    have asc := isort_asc (U.map enc)
    rw [← h1] at asc nd
    have i1 : (T.map enc)[k]? = some (enc a) := by rw [List.getElem?_map, ha]; rfl
    have i2 : (T.map enc)[k + 1]? = some (enc b) := by rw [List.getElem?_map, hb]; rfl
    obtain ⟨l1, g1⟩ := List.getElem?_eq_some_iff.mp i1
    obtain ⟨l2, g2⟩ := List.getElem?_eq_some_iff.mp i2
    have q1 := List.pairwise_iff_getElem.mp asc k (k + 1) l1 l2 (Nat.lt_succ_self k)
    have q2 := List.pairwise_iff_getElem.mp nd k (k + 1) l1 l2 (Nat.lt_succ_self k)
    rw [g1, g2] at q1 q2
    unfold ltE
    cases q : ltT (enc a) (enc b) with
    | true => rfl
    | false => exact absurd (ts_anti (ts_enc a) (ts_enc b) q q1) q2
  · have : enc e ∈ T.map enc := by rw [h1]; exact pm.mem_iff.mpr (List.mem_map.mpr ⟨e, he, rfl⟩)
    obtain ⟨x, hx, q⟩ := List.mem_map.mp this
    rw [← enc_inj q]; exact hx
/-- a dict of what is drawn -/
def dcT (U : List En) : Tr := .nd (.dct (U.map encK)) (U.map fun _ => .v (.d (.bool true)))
theorem kix_enc (e : En) : ∀ U : List En, (e ∈ U → ∃ j, kix (encK e) (U.map encK) = some j ∧ j < U.length) ∧ (e ∉ U → kix (encK e) (U.map encK) = none)
  | [] => ⟨(fun h => nomatch h), fun _ => rfl⟩
  | x :: r => by
    obtain ⟨a, b⟩ := kix_enc e r
    rw [List.map_cons, kix_cons]
    by_cases c : x = e
    · subst c
      rw [if_pos rfl]
      exact ⟨fun _ => ⟨0, rfl, Nat.succ_pos _⟩, fun h => absurd List.mem_cons_self h⟩
    · rw [if_neg (fun h => c (encK_inj h))]
      refine ⟨fun h => ?_, fun h => ?_⟩
      · rcases List.mem_cons.mp h with h | h
        · exact absurd h.symm c
        · obtain ⟨j, h1, h2⟩ := a h
          exact ⟨j + 1, by rw [h1]; rfl, Nat.succ_lt_succ h2⟩
      · rw [b (fun z => h (List.mem_cons_of_mem _ z))]; rfl
theorem dkeys_enc (e : En) : dKeys [.str e.r.s, .str e.a.s, .str e.b.s, .str e.p.s, .str e.q.s] = some (encK e) := rfl
theorem set_dc (U : List En) (e : En) (t0 : Ts) (h : U.length < 100000) : setX false (.r t0.length []) (.d (enc e)) (.d (.bool true)) (t0 ++ [some (dcT U)]) = some (t0 ++ [some (dcT (addE U e))]) := by
  have g0 : (t0 ++ [some (dcT U)])[t0.length]? = some (some (dcT U)) := by simp
  have g : getT (t0 ++ [some (dcT U)]) t0.length [] = some (dcT U) := by rw [getT_of g0]; exact get_nil _
  have put : ∀ T : List Tr, ∀ ks : List (List Key), putCh (t0 ++ [some (dcT U)]) t0.length [] (.dct ks) T = some (t0 ++ [some (.nd (.dct ks) T)]) := fun T ks => by
    unfold putCh
    rw [g0]
    show (Tr.put (dcT U) [] (.nd (.dct ks) T)).map _ = _
    rw [put_nil]
    show some ((t0 ++ [some (dcT U)]).set t0.length (some (.nd (.dct ks) T))) = _
    rw [List.set_append_right _ _ (Nat.le_refl _), Nat.sub_self]
    rfl
  unfold setX
  show (match getT (t0 ++ [some (dcT U)]) t0.length [] with | some (.nd .lst ts) => _ | some (.nd (.dic ks) ts) => _ | some (.nd (.dct ks) ts) => _ | _ => none) = _
  rw [g]
  show (if (U.map fun _ => Tr.v (.d (.bool true))).length < 100000 then (dKeys [.str e.r.s, .str e.a.s, .str e.b.s, .str e.p.s, .str e.q.s]).bind _ else none) = _
  rw [if_pos (by rw [List.length_map]; exact h), dkeys_enc]
  show (match kix (encK e) (U.map encK) with | some j => _ | none => _) = _
  by_cases c : e ∈ U
  · obtain ⟨j, h1, h2⟩ := (kix_enc e U).1 c
    rw [h1]
    show stc _ _ _ (.dct (U.map encK)) (U.map fun _ => Tr.v (.d (.bool true))) j false (.d (.bool true)) = _
    unfold stc
    have hj : (U.map fun _ => Tr.v (.d (.bool true)))[j]? = some (.v (.d (.bool true))) := by rw [List.getElem?_map, List.getElem?_eq_getElem h2]; rfl
    rw [hj, if_neg (by decide), if_neg (by decide), if_pos (by rfl), put]
    unfold addE
    rw [if_pos c]
    unfold setA
    rw [if_pos (by rw [List.length_map]; exact h2)]
    have : (U.map fun _ => Tr.v (.d (.bool true))).set j (.v (.d (.bool true))) = U.map fun _ => Tr.v (.d (.bool true)) := by
      apply List.ext_getElem?
      intro i
      by_cases q : i = j
      · subst q; rw [List.getElem?_set_self (by rw [List.length_map]; exact h2), hj]
      · rw [List.getElem?_set_ne (Ne.symm q)]
    rw [this]
    rfl
  · rw [(kix_enc e U).2 c]
    show stc _ _ _ (.dct (U.map encK ++ [encK e])) (U.map fun _ => Tr.v (.d (.bool true))) (U.map fun _ => Tr.v (.d (.bool true))).length false (.d (.bool true)) = _
    unfold stc
    rw [List.getElem?_eq_none (Nat.le_refl _), if_neg (by decide), if_neg (by decide), if_pos (by rfl), put]
    unfold addE setA
    rw [if_neg c, if_neg (Nat.lt_irrefl _)]
    unfold dcT
    rw [List.map_append, List.map_append]
    rfl
theorem keysT (U : List En) : (U.map encK).map (fun k => PyData.tuple (k.map keyD)) = U.map enc := by rw [List.map_map]; rfl
theorem lst_dc (U : List En) (t0 : Ts) : cLstT [.r t0.length []] (t0 ++ [some (dcT U)]) = some (.d (.list (U.map enc))) := by
  have g0 : (t0 ++ [some (dcT U)])[t0.length]? = some (some (dcT U)) := by simp
  have g : getT (t0 ++ [some (dcT U)]) t0.length [] = some (dcT U) := by rw [getT_of g0]; exact get_nil _
  unfold cLstT
  show (match getT (t0 ++ [some (dcT U)]) t0.length [] with | some (.nd .lst ts) => _ | some (.nd (.dct ks) _) => _ | _ => none) = _
  rw [g, ← keysT]
  rfl
theorem prB_map : ∀ L : List En, prB (L.map fun e => .tuple [enc e, .bool true]) = some (L.map fun e => (encK e, true))
  | [] => rfl
  | e :: r => by
    show (dKeys _).bind (fun ks => (prB (r.map fun e => .tuple [enc e, .bool true])).map ((ks, true) :: ·)) = _
    rw [prB_map r]
    rfl
def kvB (U : List En) : List (List Key × Bool) := U.map fun e => (encK e, true)
theorem put_kvB (U : List En) (e : En) : putB (kvB U) (encK e) true = kvB (addE U e) := by
  have h1 : ((kvB U).any fun kv => decide (kv.1 = encK e)) = decide (e ∈ U) := by
    unfold kvB
    rw [List.any_map]
    induction U with
    | nil => rfl
    | cons x r ih =>
      rw [List.any_cons, ih]
      by_cases c : x = e
      · subst c; simp
      · have : encK x ≠ encK e := fun h => c (encK_inj h)
        have c' : e ≠ x := fun h => c h.symm
        simp [this, c']
  unfold putB addE
  rw [h1]
  by_cases c : e ∈ U
  · rw [if_pos (decide_eq_true c), if_pos c]
    unfold kvB
    rw [List.map_map]
    refine List.map_congr_left fun x hx => ?_
    show (if encK x = encK e then (encK x, true) else (encK x, true)) = (encK x, true)
    by_cases c2 : encK x = encK e <;> simp [c2]
  · rw [if_neg (by simpa using c), if_neg c]
    unfold kvB
    rw [List.map_append]
    rfl
theorem mem_addE {U : List En} {e x : En} : x ∈ addE U e ↔ x ∈ U ∨ x = e := by
  unfold addE
  by_cases c : e ∈ U
  · rw [if_pos c]
    refine ⟨.inl, fun h => h.elim id fun h => h ▸ c⟩
  · rw [if_neg c, List.mem_append, List.mem_singleton]
theorem merge_kvB : ∀ (L : List En) (U : List En) (n : Nat), Drw U n → (∀ e ∈ L, e.p ≠ .lay) → ∃ U', (kvB L).foldl (fun acc p => putB acc p.1 p.2) (kvB U) = kvB U' ∧ Drw U' (n + L.length) ∧ ∀ e, e ∈ U' ↔ e ∈ U ∨ e ∈ L
  | [], U, n, h, _ => ⟨U, rfl, h, fun e => by simp⟩
  | e :: r, U, n, h, hl => by
    obtain ⟨U', e1, h1, h2⟩ := merge_kvB r (addE U e) (n + 1) (h.add (hl e List.mem_cons_self)) fun x hx => hl x (List.mem_cons_of_mem _ hx)
    refine ⟨U', ?_, by rw [List.length_cons, Nat.add_comm r.length 1, ← Nat.add_assoc]; exact h1, fun x => ?_⟩
    · rw [← e1, ← put_kvB]
      rfl
    · rw [h2, mem_addE, List.mem_cons, or_assoc]
theorem new_dc (L : List En) (hl : ∀ e ∈ L, e.p ≠ .lay) (t : Ts) : ∃ U, newDc (.d (.list (L.map fun e => .tuple [enc e, .bool true]))) t = .ok (.r t.length []) (t ++ [some (dcT U)]) ∧ Drw U L.length ∧ ∀ e, e ∈ U ↔ e ∈ L := by
  obtain ⟨U, h1, h2, h3⟩ := merge_kvB L [] 0 ⟨List.nodup_nil, (fun e he => nomatch he), Nat.le_refl _⟩ hl
  refine ⟨U, ?_, by rw [Nat.zero_add] at h2; exact h2, fun e => by rw [h3]; simp⟩
  unfold newDc
  show (match prB (L.map fun e => .tuple [enc e, .bool true]) with | some kvs => _ | none => _) = _
  rw [prB_map]
  show R.ok (D.r t.length []) (t ++ [some (.nd (.dct (((kvB L).foldl (fun acc p => putB acc p.1 p.2) (kvB [])).map (·.1))) (((kvB L).foldl (fun acc p => putB acc p.1 p.2) (kvB [])).map fun p => .v (.d (.bool p.2))))]) = _
  rw [h1]
  unfold kvB dcT
  rw [List.map_map, List.map_map]
  rfl
theorem goP_map {α : Type} (en : α → D) {g : D → Dl.Env → Option Dl.Env} {env : Dl.Env} {el : Pm D} (h : α → D) (xs : List α) (H : ∀ x ∈ xs, ∃ e1, g (en x) env = some e1 ∧ el e1 = some (h x)) : goP g env (pC true) el (xs.map en) = some (xs.map h) := by
  rw [goP_fm en (fun _ => true) h xs fun x hx => by
    obtain ⟨e1, h1, h2⟩ := H x hx
    exact ⟨e1, h1, rfl, fun _ => h2⟩]
  rw [List.filter_eq_self.mpr fun _ _ => rfl]
theorem at_last {α : Type} {xs : List α} {z : α} (h : xs.getLast? = some z) : atI xs (-1) = some z := by
  have hne : xs ≠ [] := by rintro rfl; cases h
  have hl : 0 < xs.length := List.length_pos_iff.mpr hne
  unfold atI ixN
  rw [if_neg (by decide), if_pos (by omega)]
  show xs[(-1 + (xs.length : Int)).toNat]? = _
  rw [show (-1 + (xs.length : Int)).toNat = xs.length - 1 by omega, ← List.getLast?_eq_getElem?]
  exact h
theorem ix_last {T : List En} {e : En} (h : T.getLast? = some e) : fIx (.d (encT T)) (.d (.int (-1))) = some (.d (enc e)) := by
  show (atI (T.map enc) (-1)).map D.d = _
  rw [at_last (z := enc e) (by rw [List.getLast?_map, h]; rfl)]
  rfl
theorem sort_dc {U : List En} : cSort [.d (.list (U.map enc))] = some (.d (.list (isort (U.map enc)))) := by
  show (if (U.map enc).all tsB = true then some (D.d (.list (isort (U.map enc)))) else none) = _
  rw [if_pos (by rw [List.all_map, List.all_eq_true]; exact fun e _ => rfl)]
end My
set_option maxRecDepth 100000
set_option maxHeartbeats 4000000
/-! texts -/
namespace My
open PySem L2 Dl
theorem sum_le {l : List Nat} {b : Nat} (h : ∀ x ∈ l, x ≤ b) : l.sum ≤ l.length * b := by
  induction l with
  | nil => simp
  | cons x r ih =>
    rw [List.sum_cons, List.length_cons, Nat.succ_mul]
    have := h x List.mem_cons_self
    have := ih fun y hy => h y (List.mem_cons_of_mem _ hy)
    omega
theorem join_len (y : Str) (ws : List Str) (b : Nat) (h : ∀ w ∈ ws, w.length ≤ b) : (Txt.join y ws).length ≤ ws.length * b + ws.length * y.length := by
  rw [TL.join_eq]
  refine Nat.le_trans (StrLaws.join_length_le y ws) (Nat.add_le_add_right ?_ _)
  have := sum_le (l := ws.map (·.length)) (b := b) (fun x hx => by obtain ⟨w, hw, rfl⟩ := List.mem_map.mp hx; exact h w hw)
  rw [List.length_map] at this
  exact this
def asc (z : Str) : Prop := ∀ c ∈ TL.tl z, c < 128
theorem pr_joinL {P : Nat → Prop} {y : List Nat} (hy : ∀ c ∈ y, P c) : ∀ (ps : List (List Nat)), (∀ p ∈ ps, ∀ c ∈ p, P c) → ∀ c ∈ TL.joinL y ps, P c
  | [], _, c, hc => nomatch hc
  | [p], h, c, hc => h p List.mem_cons_self c hc
  | p :: q :: r, h, c, hc => by
    have hc : c ∈ p ++ (y ++ TL.joinL y (q :: r)) := hc
    rcases List.mem_append.mp hc with hc | hc
    · exact h p List.mem_cons_self c hc
    · rcases List.mem_append.mp hc with hc | hc
      · exact hy c hc
      · exact pr_joinL hy (q :: r) (fun z hz => h z (List.mem_cons_of_mem _ hz)) c hc
theorem pr_join {P : Nat → Prop} {y : Str} (hy : ∀ c ∈ TL.tl y, P c) (ws : List Str) (h : ∀ w ∈ ws, ∀ c ∈ TL.tl w, P c) : ∀ c ∈ TL.tl (Txt.join y ws), P c := by
  rw [TL.join_eq, TL.tl_join]
  refine pr_joinL hy _ fun p hp => ?_
  obtain ⟨w, hw, rfl⟩ := List.mem_map.mp hp
  exact h w hw
theorem asc_join {y : Str} (hy : asc y) (ws : List Str) (h : ∀ w ∈ ws, asc w) : asc (Txt.join y ws) := pr_join hy ws h
theorem asc_sh {z : Str} (h : asc z) : SeqAt.shaped (.str z) = true := by
  have e : PyData.strOk z = true := by
    unfold PyData.strOk
    rw [Array.all_eq_true_iff_forall_mem]
    intro c hc
    have := h c (by simpa [TL.tl] using hc)
    exact decide_eq_true (by omega)
  unfold SeqAt.shaped
  rw [Bool.and_eq_true]
  exact ⟨e, rfl⟩
theorem txs_map {α : Type} (f : α → Str) : ∀ xs : List α, txs (xs.map fun y => PyData.str (f y)) = some (xs.map f)
  | [] => rfl
  | x :: r => by
    show (txs (r.map fun y => PyData.str (f y))).map (f x :: ·) = _
    rw [txs_map f r]
    rfl
/-- a line that may stand in a text -/
def fineB (s : Str) : Bool := (TL.tl s).all (fun c => decide (c < 128) && decide (c ≠ 10)) && decide (s.length ≤ 60)
structure Fine (s : Str) : Prop where
  asc : asc s
  nl : 10 ∉ TL.tl s
  len : s.length ≤ 60
theorem fine_of {s : Str} (h : fineB s = true) : Fine s := by
  unfold fineB at h
  rw [Bool.and_eq_true, List.all_eq_true, decide_eq_true_eq] at h
  refine ⟨fun c hc => ?_, fun hc => ?_, h.2⟩
  · have := h.1 c hc
    rw [Bool.and_eq_true, decide_eq_true_eq] at this
    exact this.1
  · have := h.1 10 hc
    rw [Bool.and_eq_true] at this
    exact absurd this.2 (by decide)
def tx (ls : List Str) : Str := Txt.join "\n" ls
theorem asc_nl : asc "\n" := fun c hc => by
  have : TL.tl ("\n" : Str) = [10] := by kernel_rfl
  rw [this, List.mem_singleton] at hc
  omega
theorem tx_asc {ls : List Str} (h : ∀ s ∈ ls, Fine s) : asc (tx ls) := asc_join asc_nl _ fun w hw => (h w hw).asc
theorem tx_len {ls : List Str} (h : ∀ s ∈ ls, Fine s) (hl : ls.length ≤ 200) : (tx ls).length ≤ 20000 := by
  refine Nat.le_trans (join_len "\n" _ 60 fun w hw => (h w hw).len) ?_
  rw [show ("\n" : Str).length = 1 from rfl]
  omega
theorem tx_sh {ls : List Str} (h : ∀ s ∈ ls, Fine s) : SeqAt.shaped (.str (tx ls)) = true := asc_sh (tx_asc h)
theorem tx_join {ls : List Str} (h : ∀ s ∈ ls, Fine s) (hl : ls.length ≤ 200) : fJoin (.d (.str "\n")) (.d (.list (ls.map PyData.str))) = some (.d (.str (tx ls))) := by
  show (txs (ls.map fun y => PyData.str y)).bind _ = _
  rw [txs_map (fun y => y), List.map_id']
  show (if (ls.map (·.length)).sum + ls.length * ("\n" : Str).length ≤ 100000 then some (D.d (.str (Txt.join "\n" ls))) else none) = _
  rw [if_pos]
  · rfl
  · have a1 := sum_le (l := ls.map (·.length)) (b := 60) fun n hn => by
      obtain ⟨w, hw, rfl⟩ := List.mem_map.mp hn
      exact (h w hw).len
    rw [List.length_map] at a1
    rw [show ("\n" : Str).length = 1 from rfl]
    omega
theorem tx_split {ls : List Str} (h : ∀ s ∈ ls, Fine s) (hl : ls.length ≤ 200) (hne : ls ≠ []) : fSplit (.d (.str (tx ls))) (.d (.str "\n")) = some (.d (.list (ls.map PyData.str))) := by
  unfold fSplit
  dsimp only
  rw [if_pos ⟨by kernel_rfl, Nat.le_trans (tx_len h hl) (by decide)⟩]
  have e : Txt.split (tx ls) "\n" = ls := TL.split_join (s := 10) (S := []) (by rfl) (by kernel_rfl) hne fun p hp => (h p hp).nl
  rw [e]
/-- one more line behind a text -/
theorem tx_snoc {ls : List Str} (hne : ls ≠ []) (s : Str) : tx ls ++ "\n" ++ s = tx (ls ++ [s]) := by
  unfold tx
  rw [TL.join_eq, TL.join_eq]
  cases ls with
  | nil => exact absurd rfl hne
  | cons a r =>
    clear hne
    induction r generalizing a with
    | nil => rfl
    | cons b r ih =>
      show (a ++ "\n" ++ Str.join "\n" (b :: r)) ++ "\n" ++ s = a ++ "\n" ++ Str.join "\n" ((b :: r) ++ [s])
      rw [← ih, Str.append_assoc, Str.append_assoc, Str.append_assoc, Str.append_assoc, Str.append_assoc]
theorem cut_take (xs : List PyData) (k : Nat) (h : k ≤ xs.length) : cutD xs none (some (k : Int)) = xs.take k := by
  unfold cutD
  rw [HT.sIx_none, HT.sIx_nat, List.drop_zero, Nat.sub_zero, Nat.min_eq_left h]
theorem cut_drop (xs : List PyData) (k : Nat) (h : k ≤ xs.length) : cutD xs (some (k : Int)) none = xs.drop k := by
  unfold cutD
  rw [HT.sIx_none, HT.sIx_nat, Nat.min_eq_left h, List.take_of_length_le (by rw [List.length_drop]; omega)]
end My
set_option maxRecDepth 100000
set_option maxHeartbeats 4000000
namespace My
open PySem L2 Dl
def top (i : Nat) : Stmt := PySem.Challenge.pw_windowbelt_k04_whole_designs.main.body.getD i (.Pass ⟨0, 0, 0, 0⟩)
def exl_WindowError : List (Str × Bool) := [("WindowError", true), ("BadEvent", true), ("BadEntry", true), ("BadDesign", true), ("BadKind", true), ("BadTable", true)]
abbrev ex_WindowError := exF exl_WindowError
def isl_BadDesign : List (Str × Bool) := [("WindowError", false), ("BadEvent", false), ("BadEntry", false), ("BadDesign", true), ("BadKind", false), ("BadTable", false)]
abbrev is_BadDesign := exF isl_BadDesign
def isl_BadEntry : List (Str × Bool) := [("WindowError", false), ("BadEvent", false), ("BadEntry", true), ("BadDesign", false), ("BadKind", false), ("BadTable", false)]
abbrev is_BadEntry := exF isl_BadEntry
def isl_BadEvent : List (Str × Bool) := [("WindowError", false), ("BadEvent", true), ("BadEntry", false), ("BadDesign", false), ("BadKind", false), ("BadTable", false)]
abbrev is_BadEvent := exF isl_BadEvent
def isl_BadKind : List (Str × Bool) := [("WindowError", false), ("BadEvent", false), ("BadEntry", false), ("BadDesign", false), ("BadKind", true), ("BadTable", false)]
abbrev is_BadKind := exF isl_BadKind
def isl_BadTable : List (Str × Bool) := [("WindowError", false), ("BadEvent", false), ("BadEntry", false), ("BadDesign", false), ("BadKind", false), ("BadTable", true)]
abbrev is_BadTable := exF isl_BadTable
structure Tp (P : Program) (K : PySem.W.Frag) (mg : Str → Option Value) : Prop where
  n_all : mg "all" = none
  n_any : mg "any" = none
  n_bool : mg "bool" = none
  n_dict : mg "dict" = none
  n_int : mg "int" = none
  n_isinstance : mg "isinstance" = none
  n_len : mg "len" = none
  n_list : mg "list" = none
  n_range : mg "range" = none
  n_sorted : mg "sorted" = none
  n_str : mg "str" = none
  n_tuple : mg "tuple" = none
  c_EVENTS : Gt K mg "EVENTS" ["lay", "read", "make", "write", "out"]
  c_KINDS : Gt K mg "KINDS" ["set", "sum", "get", "put", "if", "show"]
  c_MOST_WIDTH : Gc K mg "MOST_WIDTH" (.d (.int 4))
  c_RELATIONS : Gt K mg "RELATIONS" ["feeds", "used", "same", "cells", "memory", "shows", "jump", "any"]
  c_STORES : Gc K mg "STORES" (.kt (.tuple [(.tuple [(.str "put"), (.str "get")]), (.tuple [(.str "get"), (.str "put")]), (.tuple [(.str "put"), (.str "put")])]))
  c_WRITING : Gt K mg "WRITING" ["set", "sum", "get"]
  e_BadDesign : Xc K mg "BadDesign"
  e_BadEntry : Xc K mg "BadEntry"
  e_BadEvent : Xc K mg "BadEvent"
  e_BadKind : Xc K mg "BadKind"
  e_BadTable : Xc K mg "BadTable"
  x_WindowError : ExT K mg "WindowError" ex_WindowError
  is_BadDesign : IsT K mg "BadDesign" is_BadDesign
  is_BadEntry : IsT K mg "BadEntry" is_BadEntry
  is_BadEvent : IsT K mg "BadEvent" is_BadEvent
  is_BadKind : IsT K mg "BadKind" is_BadKind
  is_BadTable : IsT K mg "BadTable" is_BadTable
  f__law_taken : Df K mg "_law_taken" "_law_taken" (top 41) ["_law_row", "_law_many"]
  f__law_pick : Df K mg "_law_pick" "_law_pick" (top 42) ["_law_row", "_law_kinds"]
  f__law_entry : Df K mg "_law_entry" "_law_entry" (top 46) ["_law_row"]
  f__law_more : Df K mg "_law_more" "_law_more" (top 47) ["_law_row", "_law_design", "_law_entries", "_law_many"]
  f__law_bare : Df K mg "_law_bare" "_law_bare" (top 45) ["_law_row"]
  f__law_wrong : Df K mg "_law_wrong" "_law_wrong" (top 48) ["_law_work"]
  f_is_list : Df K mg "is_list" "is_list" (top 3) ["value", "least", "most"]
  f_is_kind : Df K mg "is_kind" "is_kind" (top 19) ["value"]
  f_is_event : Df K mg "is_event" "is_event" (top 18) ["value"]
  f_is_entry : Df K mg "is_entry" "is_entry" (top 21) ["value"]
  f_is_table : Df K mg "is_table" "is_table" (top 24) ["value"]
  f_is_integer : Df K mg "is_integer" "is_integer" (top 1) ["value"]
  f_is_in : Df K mg "is_in" "is_in" (top 2) ["value", "least", "most"]
  f_is_design : Df K mg "is_design" "is_design" (top 25) ["value"]
  f_need_design : Df K mg "need_design" "need_design" (top 26) ["design"]
  f_with_table : Df K mg "with_table" "with_table" (top 31) ["design", "table"]
  f__law_alike : Df K mg "_law_alike" "_law_alike" (top 43) ["_law_found", "_law_due"]
  f_number_of : Df K mg "number_of" "number_of" (top 20) ["event"]
  f_event_number : Df K mg "event_number" "event_number" (top 28) ["event"]
  f_need_entry : Df K mg "need_entry" "need_entry" (top 22) ["entry"]
  f_can_hold : Df K mg "can_hold" "can_hold" (top 23) ["entry"]
  f_may_hold : Df K mg "may_hold" "may_hold" (top 29) ["entry"]
  f_holds_always : Df K mg "holds_always" "holds_always" (top 34) ["relation", "first", "second"]
  f_forces : Df K mg "forces" "forces" (top 35) ["strong", "weak"]
  f_forced_by_table : Df K mg "forced_by_table" "forced_by_table" (top 36) ["design", "entry"]
  f_forced_in : Df K mg "forced_in" "forced_in" (top 37) ["design", "entry"]
  f_is_forced : Df K mg "is_forced" "is_forced" (top 39) ["design", "entry"]
  f_home_in : Df K mg "home_in" "home_in" (top 27) ["design", "kind"]
  f_home_of : Df K mg "home_of" "home_of" (top 30) ["design", "kind"]
  f_needs_in : Df K mg "needs_in" "needs_in" (top 33) ["design"]
  f_needs : Df K mg "needs" "needs" (top 38) ["design"]
  f__law_home : Df K mg "_law_home" "_law_home" (top 44) ["_law_design", "_law_kind"]
section
variable {P : Program} {w : World} {K : PySem.W.Frag} {mg : Str → Option Value} {base : Heap}
def b__law_taken : Sm Out := (sSeq (sIf (sB (sOp (fGt) (sIx (lift (pV 0)) (lift (pC (.d (.int 3))))) (lift (pC (.d (.int 0)))))) (sSeq (sAsg (gN 2) (sOp fMod (sMk cIntT (sCons (sIx (lift (pV 0)) (lift (pC (.d (.int 3))))) (lift pNil))) (lift (pV 1)))) (sSeq (sAsgS (gSX false (lift (pV 0)) (lift (pC (.d (.int 3))))) (sOp fDiv (sIx (lift (pV 0)) (lift (pC (.d (.int 3))))) (lift (pV 1)))) (lift (pRet (pV 2))))) (lift pNx)) (sSeq (sAsgS (gSX false (lift (pV 0)) (lift (pC (.d (.int 1))))) (sOp fAdd (sIx (lift (pV 0)) (lift (pC (.d (.int 1))))) (lift (pC (.d (.int 1)))))) (sSeq (sIf (sB (sOp (fGt) (sIx (lift (pV 0)) (lift (pC (.d (.int 1))))) (sMk cLen (sCons (sIx (lift (pV 0)) (lift (pC (.d (.int 0))))) (lift pNil))))) (sSeq (sAsgS (gSX false (lift (pV 0)) (lift (pC (.d (.int 2))))) (sOp fMod (sMk cIntT (sCons (sOp fAdd (sOp fMul (sIx (lift (pV 0)) (lift (pC (.d (.int 2))))) (lift (pC (.d (.int 48271))))) (lift (pC (.d (.int 11))))) (lift pNil))) (lift (pC (.d (.int 2147483647)))))) (sRet (sOp fMod (sMk cIntT (sCons (sOp fDiv (sIx (lift (pV 0)) (lift (pC (.d (.int 2))))) (lift (pC (.d (.int 7))))) (lift pNil))) (lift (pV 1))))) (lift pNx)) (sSeq (sAsg (gN 3) (sOp fIx (sIx (lift (pV 0)) (lift (pC (.d (.int 0))))) (sOp fSub (sIx (lift (pV 0)) (lift (pC (.d (.int 1))))) (lift (pC (.d (.int 1))))))) (sSeq (sAsgS (gSX false (lift (pV 0)) (lift (pC (.d (.int 2))))) (sOp fMod (sMk cIntT (sCons (sOp fAdd (sOp fAdd (sOp fMul (sIx (lift (pV 0)) (lift (pC (.d (.int 2))))) (lift (pC (.d (.int 48271))))) (lift (pV 3))) (lift (pC (.d (.int 11))))) (lift pNil))) (lift (pC (.d (.int 2147483647)))))) (sSeq (sIf (lift (pB (pOp (fGe) (pV 3) (pOp fPow (pC (.d (.int 10))) (pC (.d (.int 18))))))) (sAsgS (gSX false (lift (pV 0)) (lift (pC (.d (.int 3))))) (lift (pOp fDiv (pV 3) (pV 1)))) (lift pNx)) (lift (pRet (pOp fMod (pMk cIntT (pCons (pV 3) pNil)) (pV 1))))))))))
def m__law_taken : List D → Ts → R D := mOfS 4 2 b__law_taken
theorem g__law_taken (T : Tp P K mg) : Gs P w K mg base "_law_taken" 1 2 m__law_taken :=
  gs_of (N := ["_law_row", "_law_many", "_law_found", "_law_cell"]) (ps := ["_law_row", "_law_many"]) T.f__law_taken ⟨rfl, rfl, rfl, by decide +kernel, rfl, by decide +kernel, by decide +kernel⟩ rfl fun f cdv A outer s H E Wf tk I im =>
    (dss_cons (ds_if (dt_cmp (o_gt Wf) (de_ixS Wf (qe_v 0) qe_int) qe_int) (dss_cons (ds_asg (de_op (o_mod Wf) (de_callTy Wf (c_intT Wf) T.n_int b_int (da_cons (de_ixS Wf (qe_v 0) qe_int) qa_nil)) (qe_v 1)) (dg_n Wf 2)) (dss_cons (ds_asgS (de_op (o_div Wf) (de_ixS Wf (qe_v 0) qe_int) (qe_v 1)) (dgS_sub false Wf (qe_v 0) qe_int (sub_pg Wf))) (qss_one (qs_ret (qe_v 2))))) qss_nil) (dss_cons (ds_asgS (de_op (o_add Wf) (de_ixS Wf (qe_v 0) qe_int) qe_int) (dgS_sub false Wf (qe_v 0) qe_int (sub_pg Wf))) (dss_cons (ds_if (dt_cmp (o_gt Wf) (de_ixS Wf (qe_v 0) qe_int) (de_callB Wf (c_len Wf) T.n_len b_len (da_cons (de_ixS Wf (qe_v 0) qe_int) qa_nil))) (dss_cons (ds_asgS (de_op (o_mod Wf) (de_callTy Wf (c_intT Wf) T.n_int b_int (da_cons (de_op (o_add Wf) (de_op (o_mul Wf) (de_ixS Wf (qe_v 0) qe_int) qe_int) qe_int) qa_nil)) qe_int) (dgS_sub false Wf (qe_v 0) qe_int (sub_pg Wf))) (dss_one (ds_ret (de_op (o_mod Wf) (de_callTy Wf (c_intT Wf) T.n_int b_int (da_cons (de_op (o_div Wf) (de_ixS Wf (qe_v 0) qe_int) qe_int) qa_nil)) (qe_v 1))))) qss_nil) (dss_cons (ds_asg (de_ix (o_ix Wf) (de_ixS Wf (qe_v 0) qe_int) (de_op (o_sub Wf) (de_ixS Wf (qe_v 0) qe_int) qe_int)) (dg_n Wf 3)) (dss_cons (ds_asgS (de_op (o_mod Wf) (de_callTy Wf (c_intT Wf) T.n_int b_int (da_cons (de_op (o_add Wf) (de_op (o_add Wf) (de_op (o_mul Wf) (de_ixS Wf (qe_v 0) qe_int) qe_int) (qe_v 3)) qe_int) qa_nil)) qe_int) (dgS_sub false Wf (qe_v 0) qe_int (sub_pg Wf))) (dss_cons (ds_if (qt_cmp (o_ge Wf) (qe_v 3) (qe_op (o_pow Wf) qe_int qe_int)) (dss_one (ds_asgS (qe_op (o_div Wf) (qe_v 3) (qe_v 1)) (dgS_sub false Wf (qe_v 0) qe_int (sub_pg Wf)))) qss_nil) (qss_one (qs_ret (qe_op (o_mod Wf) (qe_callTy Wf (c_intT Wf) T.n_int b_int (qa_cons (qe_v 3) qa_nil)) (qe_v 1))))))))))
def b__law_pick : Sm Out := (sRet (sOp fIx (lift (pV 1)) (sCall m__law_taken (lift (pCons (pV 0) (pCons (pMk cLen (pCons (pV 1) pNil)) pNil))))))
def m__law_pick : List D → Ts → R D := mOfS 2 2 b__law_pick
theorem g__law_pick (T : Tp P K mg) : Gs P w K mg base "_law_pick" 2 2 m__law_pick :=
  gs_of (N := ["_law_row", "_law_kinds"]) (ps := ["_law_row", "_law_kinds"]) T.f__law_pick ⟨rfl, rfl, rfl, by decide +kernel, rfl, by decide +kernel, by decide +kernel⟩ rfl fun f cdv A outer s H E Wf tk I im =>
    (dss_one (ds_ret (de_ix (o_ix Wf) (qe_v 1) (de_callS Wf tk im (g__law_taken T) (by decide) (qa_cons (qe_v 0) (qa_cons (qe_callB Wf (c_len Wf) T.n_len b_len (qa_cons (qe_v 1) qa_nil)) qa_nil))))))
def b__law_entry : Sm Out := (sSeq (lift (pAsg (gN 1) (pMk mLst (pCons (pC (.d (.str "set"))) (pCons (pC (.d (.str "sum"))) (pCons (pC (.d (.str "get"))) (pCons (pC (.d (.str "put"))) (pCons (pC (.d (.str "if"))) (pCons (pC (.d (.str "show"))) pNil))))))))) (sSeq (sAsg (gN 2) (sCall m__law_pick (lift (pCons (pV 0) (pCons (pMk mLst (pCons (pC (.d (.str "feeds"))) (pCons (pC (.d (.str "used"))) (pCons (pC (.d (.str "same"))) (pCons (pC (.d (.str "cells"))) (pCons (pC (.d (.str "memory"))) (pCons (pC (.d (.str "shows"))) (pCons (pC (.d (.str "jump"))) (pCons (pC (.d (.str "any"))) (pCons (pC (.d (.str "any"))) pNil)))))))))) pNil))))) (sSeq (sAsg (gN 3) (sCall m__law_pick (lift (pCons (pV 0) (pCons (pMk mLst (pCons (pC (.d (.str "read"))) (pCons (pC (.d (.str "make"))) (pCons (pC (.d (.str "write"))) (pCons (pC (.d (.str "out"))) pNil))))) pNil))))) (sRet (sMk mTup (sCons (lift (pV 2)) (sCons (sCall m__law_pick (lift (pCons (pV 0) (pCons (pV 1) pNil)))) (sCons (sCall m__law_pick (lift (pCons (pV 0) (pCons (pV 1) pNil)))) (sCons (lift (pV 3)) (sCons (sCall m__law_pick (lift (pCons (pV 0) (pCons (pMk mLst (pCons (pC (.d (.str "lay"))) (pCons (pC (.d (.str "read"))) (pCons (pC (.d (.str "make"))) (pCons (pC (.d (.str "write"))) (pCons (pC (.d (.str "out"))) pNil)))))) pNil)))) (lift pNil)))))))))))
def m__law_entry : List D → Ts → R D := mOfS 4 1 b__law_entry
theorem g__law_entry (T : Tp P K mg) : Gs P w K mg base "_law_entry" 3 1 m__law_entry :=
  gs_of (N := ["_law_row", "_law_kinds", "_law_relation", "_law_p"]) (ps := ["_law_row"]) T.f__law_entry ⟨rfl, rfl, rfl, by decide +kernel, rfl, by decide +kernel, by decide +kernel⟩ rfl fun f cdv A outer s H E Wf tk I im =>
    (dss_cons (qs_asg (qe_lst (qa_cons qe_str (qa_cons qe_str (qa_cons qe_str (qa_cons qe_str (qa_cons qe_str (qa_cons qe_str qa_nil))))))) (dg_n Wf 1)) (dss_cons (ds_asg (de_callS Wf tk im (g__law_pick T) (by decide) (qa_cons (qe_v 0) (qa_cons (qe_lst (qa_cons qe_str (qa_cons qe_str (qa_cons qe_str (qa_cons qe_str (qa_cons qe_str (qa_cons qe_str (qa_cons qe_str (qa_cons qe_str (qa_cons qe_str qa_nil)))))))))) qa_nil))) (dg_n Wf 2)) (dss_cons (ds_asg (de_callS Wf tk im (g__law_pick T) (by decide) (qa_cons (qe_v 0) (qa_cons (qe_lst (qa_cons qe_str (qa_cons qe_str (qa_cons qe_str (qa_cons qe_str qa_nil))))) qa_nil))) (dg_n Wf 3)) (dss_one (ds_ret (de_tup (da_cons (qe_v 2) (da_cons (de_callS Wf tk im (g__law_pick T) (by decide) (qa_cons (qe_v 0) (qa_cons (qe_v 1) qa_nil))) (da_cons (de_callS Wf tk im (g__law_pick T) (by decide) (qa_cons (qe_v 0) (qa_cons (qe_v 1) qa_nil))) (da_cons (qe_v 3) (da_cons (de_callS Wf tk im (g__law_pick T) (by decide) (qa_cons (qe_v 0) (qa_cons (qe_lst (qa_cons qe_str (qa_cons qe_str (qa_cons qe_str (qa_cons qe_str (qa_cons qe_str qa_nil)))))) qa_nil))) qa_nil)))))))))))
abbrev l__law_more_0 : Pm D := (pMk mTup (pCons (pV 6) (pCons (pC (.d (.bool true))) pNil)))
abbrev l__law_more_1 : Sm Out := (sAsgS (gSX false (lift (pV 4)) (sCall m__law_entry (lift (pCons (pV 0) pNil)))) (lift (pC (.d (.bool true)))))
def b__law_more : Sm Out := (sSeq (sAsg (gN 4) (sDict (lift (pMk mLst (pLc (gN 6) [6] (pIt (pV 2)) (pC true) l__law_more_0))))) (sSeq (sFor (gN 5) (sRg mR1 (sCons (sCall m__law_taken (lift (pCons (pV 0) (pCons (pOp fAdd (pV 3) (pC (.d (.int 1)))) pNil)))) (lift pNil))) l__law_more_1) (sRet (sOp fAdd (lift (pSl fSl (pV 1) (pC none) (pPart (pC (.d (.int 4)))))) (sMk mTup (sCons (sMk cTup (sCons (sMk cSort (sCons (sMkT cLstT (lift (pCons (pV 4) pNil))) (lift pNil))) (lift pNil))) (lift pNil)))))))
def m__law_more : List D → Ts → R D := mOfS 7 4 b__law_more
theorem g__law_more (T : Tp P K mg) : Gs P w K mg base "_law_more" 4 4 m__law_more :=
  gs_of (N := ["_law_row", "_law_design", "_law_entries", "_law_many", "_law_found", "_law_turn", "_law_entry_here"]) (ps := ["_law_row", "_law_design", "_law_entries", "_law_many"]) T.f__law_more ⟨rfl, rfl, rfl, by decide +kernel, rfl, by decide +kernel, by decide +kernel⟩ rfl fun f cdv A outer s H E Wf tk I im =>
    (dss_cons (ds_asg (de_dict Wf T.n_dict b_dict (qe_lc [("_law_entry_here", 6)] Wf (fun _ => blkOk_by (by kernel_rfl)) (qi_seq Wf (qe_v 2)) (dgv_name (Wf.blk _) 6 (by decide)) qts_nil (qe_tup (qa_cons (qe_v 6) (qa_cons qe_bl qa_nil))))) (dg_n Wf 4)) (dss_cons (ds_for Wf (di_r1 Wf T.n_range (da_cons (de_callS Wf tk im (g__law_taken T) (by decide) (qa_cons (qe_v 0) (qa_cons (qe_op (o_add Wf) (qe_v 3) qe_int) qa_nil))) qa_nil)) (dg_n Wf 5) (dss_one (ds_asgS qe_bl (dgS_sub false Wf (qe_v 4) (de_callS Wf tk im (g__law_entry T) (by decide) (qa_cons (qe_v 0) qa_nil)) (sub_pg Wf))))) (dss_one (ds_ret (de_op (o_add Wf) (qe_slice (o_sl Wf) (qe_v 1) qo_none (qo_some qe_int)) (de_tup (da_cons (de_callTy Wf (c_tup Wf) T.n_tuple b_tuple (da_cons (de_callB Wf (c_sort Wf) T.n_sorted b_sorted (da_cons (de_callTyT Wf (c_lstT Wf) T.n_list b_list (qa_cons (qe_v 4) qa_nil)) qa_nil)) qa_nil)) qa_nil)))))))
abbrev l__law_bare_0 : Sm D := (sCall m__law_pick (lift (pCons (pV 0) (pCons (pMk mLst (pCons (pC (.d (.str "write"))) (pCons (pC (.d (.str "out"))) pNil))) pNil))))
def b__law_bare : Sm Out := (sSeq (sAsg (gN 1) (sMk cTup (sCons (sMk mLst (sLc (gN 2) [2] (liftI (pRg mR1 (pCons (pC (.d (.int 3))) pNil))) (lift (pC true)) l__law_bare_0)) (lift pNil)))) (sSeq (sIf (sB (sOp (fEq) (sCall m__law_taken (lift (pCons (pV 0) (pCons (pC (.d (.int 4))) pNil)))) (lift (pC (.d (.int 0)))))) (lift (pAsg (gN 1) (pMk mTup (pCons (pC (.d (.str "out"))) (pCons (pC (.d (.str "out"))) (pCons (pC (.d (.str "out"))) pNil)))))) (lift pNx)) (sRet (sMk mTup (sCons (sOp fAdd (lift (pC (.d (.int 1)))) (sCall m__law_pick (lift (pCons (pV 0) (pCons (pMk mLst (pCons (pC (.d (.int 0))) (pCons (pC (.d (.int 1))) (pCons (pC (.d (.int 2))) (pCons (pC (.d (.int 3))) (pCons (pC (.d (.int 3))) pNil)))))) pNil))))) (sCons (sOp (fEq) (sCall m__law_taken (lift (pCons (pV 0) (pCons (pC (.d (.int 2))) pNil)))) (lift (pC (.d (.int 0))))) (sCons (sOp (fEq) (sCall m__law_taken (lift (pCons (pV 0) (pCons (pC (.d (.int 2))) pNil)))) (lift (pC (.d (.int 0))))) (lift (pCons (pV 1) (pCons (pMk mTup pNil) pNil))))))))))
def m__law_bare : List D → Ts → R D := mOfS 3 1 b__law_bare
theorem g__law_bare (T : Tp P K mg) : Gs P w K mg base "_law_bare" 3 1 m__law_bare :=
  gs_of (N := ["_law_row", "_law_homes", "_law_turn"]) (ps := ["_law_row"]) T.f__law_bare ⟨rfl, rfl, rfl, by decide +kernel, rfl, by decide +kernel, by decide +kernel⟩ rfl fun f cdv A outer s H E Wf tk I im =>
    (dss_cons (ds_asg (de_callTy Wf (c_tup Wf) T.n_tuple b_tuple (da_cons (de_lc [("_law_turn", 2)] Wf (fun _ => blkOk_by (by kernel_rfl)) (qi_r1 Wf T.n_range (qa_cons qe_int qa_nil)) (dgv_name (Wf.blk _) 2 (by decide)) qts_nil (de_callS (Wf.blk _) (fun _ => takes_f) im (g__law_pick T) (by decide) (qa_cons (qe_v 0) (qa_cons (qe_lst (qa_cons qe_str (qa_cons qe_str qa_nil))) qa_nil)))) qa_nil)) (dg_n Wf 1)) (dss_cons (ds_if (dt_cmp (o_eq Wf) (de_callS Wf tk im (g__law_taken T) (by decide) (qa_cons (qe_v 0) (qa_cons qe_int qa_nil))) qe_int) (qss_one (qs_asg (qe_tup (qa_cons qe_str (qa_cons qe_str (qa_cons qe_str qa_nil)))) (dg_n Wf 1))) qss_nil) (dss_one (ds_ret (de_tup (da_cons (de_op (o_add Wf) qe_int (de_callS Wf tk im (g__law_pick T) (by decide) (qa_cons (qe_v 0) (qa_cons (qe_lst (qa_cons qe_int (qa_cons qe_int (qa_cons qe_int (qa_cons qe_int (qa_cons qe_int qa_nil)))))) qa_nil)))) (da_cons (de_cmp (o_eq Wf) (de_callS Wf tk im (g__law_taken T) (by decide) (qa_cons (qe_v 0) (qa_cons qe_int qa_nil))) qe_int) (da_cons (de_cmp (o_eq Wf) (de_callS Wf tk im (g__law_taken T) (by decide) (qa_cons (qe_v 0) (qa_cons qe_int qa_nil))) qe_int) (qa_cons (qe_v 1) (qa_cons (qe_tup qa_nil) qa_nil))))))))))
abbrev w__law_wrong : Sm Out := (sSeq (sAsg (gN 2) (sMk mLst (sCons (sIsX is_BadDesign (lift (pV 1))) (sCons (sIsX is_BadEntry (lift (pV 1))) (sCons (sIsX is_BadEvent (lift (pV 1))) (sCons (sIsX is_BadKind (lift (pV 1))) (lift pNil))))))) (sSeq (sAsg (gN 2) (sOp fAdd (lift (pV 2)) (sMk mLst (sCons (sIsX is_BadTable (lift (pV 1))) (lift pNil))))) (lift (pRet (pIf (pB (pOp (fEq) (pOp fLCnt (pV 2) (pC (.d (.bool true)))) (pC (.d (.int 1))))) (pOp fIx (pMk mLst (pCons (pC (.d (.str "design"))) (pCons (pC (.d (.str "entry"))) (pCons (pC (.d (.str "event"))) (pCons (pC (.d (.str "kind"))) (pCons (pC (.d (.str "table"))) pNil)))))) (pOp fLIdx (pV 2) (pC (.d (.bool true))))) (pC (.d (.str "other"))))))))
def b__law_wrong : Nat → (Ts → R D) → Sm Out := fun k L0 => (sSeq (sTry 3 ex_WindowError 1 (sExp (sCl 0 k L0)) w__law_wrong) (lift (pRet (pC (.d (.str ""))))))
def m__law_wrong : Nat → (Ts → R D) → Ts → R D := mOfH 3 b__law_wrong
theorem g__law_wrong (T : Tp P K mg) (j : Nat) : Gh P w K mg base "_law_wrong" j m__law_wrong :=
  ⟨"_law_wrong", top 48, "_law_work", ["_law_work", "e", "_law_known"], b__law_wrong, T.f__law_wrong, ⟨rfl, rfl, rfl, by decide +kernel, rfl, by decide +kernel, by decide +kernel⟩, rfl, .inl rfl, by decide, by decide, rfl, fun f cdv A outer s H E Wf tk I k L0 im hcall =>
    (dss_cons (ds_try Wf tk im T.x_WindowError (fun j W2 pn xe tt pa Wt => (dss_one (ds_exp (hcall _ _ _ _ _ tt)))) (fun j a oe cls d pn hz hf Ws => (dss_cons (ds_asg (de_lst (da_cons (de_isx Ws im hz hf T.is_BadDesign (qe_v 1) T.n_isinstance b_isinstance) (da_cons (de_isx Ws im hz hf T.is_BadEntry (qe_v 1) T.n_isinstance b_isinstance) (da_cons (de_isx Ws im hz hf T.is_BadEvent (qe_v 1) T.n_isinstance b_isinstance) (da_cons (de_isx Ws im hz hf T.is_BadKind (qe_v 1) T.n_isinstance b_isinstance) qa_nil))))) (dg_n Ws 2)) (dss_cons (ds_asg (de_op (o_add Ws) (qe_v 2) (de_lst (da_cons (de_isx Ws im hz hf T.is_BadTable (qe_v 1) T.n_isinstance b_isinstance) qa_nil))) (dg_n Ws 2)) (qss_one (qs_ret (qe_if (qt_cmp (o_eq Ws) (qe_lcnt Ws (qe_v 2) qe_bl) qe_int) (qe_ix (o_ix Ws) (qe_lst (qa_cons qe_str (qa_cons qe_str (qa_cons qe_str (qa_cons qe_str (qa_cons qe_str qa_nil)))))) (qe_lidx Ws (qe_v 2) qe_bl)) qe_str))))))) (qss_one (qs_ret qe_str)))⟩
def b_is_list : Pm Out := (pRet (pAndV (pMk cIsi (pCons (pV 0) (pCons (pC (.o (.ty "tuple"))) pNil))) (pCh (fLe) (fLe) (pV 1) (pMk cLen (pCons (pV 0) pNil)) (pV 2))))
def m_is_list : List D → Option D := mOf 3 3 b_is_list
theorem g_is_list (T : Tp P K mg) : Gf P w K mg base "is_list" 1 3 m_is_list :=
  gf_of (N := ["value", "least", "most"]) (ps := ["value", "least", "most"]) T.f_is_list ⟨rfl, rfl, rfl, by decide +kernel, rfl, by decide +kernel, by decide +kernel⟩ rfl fun f cdv A outer s H E Wf I =>
    (qss_one (qs_ret (qe_and (qe_callB Wf (c_isi Wf) T.n_isinstance b_isinstance (qa_cons (qe_v 0) (qa_cons (qe_ty Wf T.n_tuple b_tuple) qa_nil))) (qe_and1 (qe_chain (o_le Wf) (o_le Wf) (qe_v 1) (qe_callB Wf (c_len Wf) T.n_len b_len (qa_cons (qe_v 0) qa_nil)) (qe_v 2))))))
def b_is_kind : Pm Out := (pRet (pAndV (pMk cIsi (pCons (pV 0) (pCons (pC (.o (.ty "str"))) pNil))) (pOp (fIn false) (pV 0) (pC (.kt (.tuple [(.str "set"), (.str "sum"), (.str "get"), (.str "put"), (.str "if"), (.str "show")]))))))
def m_is_kind : List D → Option D := mOf 1 1 b_is_kind
theorem g_is_kind (T : Tp P K mg) : Gf P w K mg base "is_kind" 1 1 m_is_kind :=
  gf_of (N := ["value"]) (ps := ["value"]) T.f_is_kind ⟨rfl, rfl, rfl, by decide +kernel, rfl, by decide +kernel, by decide +kernel⟩ rfl fun f cdv A outer s H E Wf I =>
    (qss_one (qs_ret (qe_and (qe_callB Wf (c_isi Wf) T.n_isinstance b_isinstance (qa_cons (qe_v 0) (qa_cons (qe_ty Wf T.n_str b_str) qa_nil))) (qe_and1 (qe_cmp (o_in Wf) (qe_v 0) (qe_g Wf (T.c_KINDS).c))))))
def b_is_event : Pm Out := (pRet (pAndV (pMk cIsi (pCons (pV 0) (pCons (pC (.o (.ty "str"))) pNil))) (pOp (fIn false) (pV 0) (pC (.kt (.tuple [(.str "lay"), (.str "read"), (.str "make"), (.str "write"), (.str "out")]))))))
def m_is_event : List D → Option D := mOf 1 1 b_is_event
theorem g_is_event (T : Tp P K mg) : Gf P w K mg base "is_event" 1 1 m_is_event :=
  gf_of (N := ["value"]) (ps := ["value"]) T.f_is_event ⟨rfl, rfl, rfl, by decide +kernel, rfl, by decide +kernel, by decide +kernel⟩ rfl fun f cdv A outer s H E Wf I =>
    (qss_one (qs_ret (qe_and (qe_callB Wf (c_isi Wf) T.n_isinstance b_isinstance (qa_cons (qe_v 0) (qa_cons (qe_ty Wf T.n_str b_str) qa_nil))) (qe_and1 (qe_cmp (o_in Wf) (qe_v 0) (qe_g Wf (T.c_EVENTS).c))))))
def b_is_entry : Pm Out := (pSeq (pIf (pOr (pNot (pB (pMk m_is_list (pCons (pV 0) (pCons (pC (.d (.int 5))) (pCons (pC (.d (.int 5))) pNil)))))) (pOr (pNot (pB (pMk cIsi (pCons (pOp fIx (pV 0) (pC (.d (.int 0)))) (pCons (pC (.o (.ty "str"))) pNil))))) (pB (pOp (fIn true) (pOp fIx (pV 0) (pC (.d (.int 0)))) (pC (.kt (.tuple [(.str "feeds"), (.str "used"), (.str "same"), (.str "cells"), (.str "memory"), (.str "shows"), (.str "jump"), (.str "any")]))))))) (pRet (pC (.d (.bool false)))) pNx) (pSeq (pIf (pOr (pNot (pB (pMk m_is_kind (pCons (pOp fIx (pV 0) (pC (.d (.int 1)))) pNil)))) (pOr (pNot (pB (pMk m_is_kind (pCons (pOp fIx (pV 0) (pC (.d (.int 2)))) pNil)))) (pOr (pNot (pB (pMk m_is_event (pCons (pOp fIx (pV 0) (pC (.d (.int 3)))) pNil)))) (pNot (pB (pMk m_is_event (pCons (pOp fIx (pV 0) (pC (.d (.int 4)))) pNil))))))) (pRet (pC (.d (.bool false)))) pNx) (pRet (pOp (fNe) (pOp fIx (pV 0) (pC (.d (.int 3)))) (pC (.d (.str "lay")))))))
def m_is_entry : List D → Option D := mOf 1 1 b_is_entry
theorem g_is_entry (T : Tp P K mg) : Gf P w K mg base "is_entry" 2 1 m_is_entry :=
  gf_of (N := ["value"]) (ps := ["value"]) T.f_is_entry ⟨rfl, rfl, rfl, by decide +kernel, rfl, by decide +kernel, by decide +kernel⟩ rfl fun f cdv A outer s H E Wf I =>
    (qss_cons (qs_if (qw_pt (qw_or (qt_not (qt_val (qe_call Wf (g_is_list T) (by decide) (qa_cons (qe_v 0) (qa_cons qe_int (qa_cons qe_int qa_nil)))))) (qw_or (qt_not (qt_val (qe_callB Wf (c_isi Wf) T.n_isinstance b_isinstance (qa_cons (qe_ix (o_ix Wf) (qe_v 0) qe_int) (qa_cons (qe_ty Wf T.n_str b_str) qa_nil))))) (qw_or1 (qt_cmp (o_nin Wf) (qe_ix (o_ix Wf) (qe_v 0) qe_int) (qe_g Wf (T.c_RELATIONS).c)))))) (qss_one (qs_ret qe_bl)) qss_nil) (qss_cons (qs_if (qw_pt (qw_or (qt_not (qt_val (qe_call Wf (g_is_kind T) (by decide) (qa_cons (qe_ix (o_ix Wf) (qe_v 0) qe_int) qa_nil)))) (qw_or (qt_not (qt_val (qe_call Wf (g_is_kind T) (by decide) (qa_cons (qe_ix (o_ix Wf) (qe_v 0) qe_int) qa_nil)))) (qw_or (qt_not (qt_val (qe_call Wf (g_is_event T) (by decide) (qa_cons (qe_ix (o_ix Wf) (qe_v 0) qe_int) qa_nil)))) (qw_or1 (qt_not (qt_val (qe_call Wf (g_is_event T) (by decide) (qa_cons (qe_ix (o_ix Wf) (qe_v 0) qe_int) qa_nil))))))))) (qss_one (qs_ret qe_bl)) qss_nil) (qss_one (qs_ret (qe_cmp (o_ne Wf) (qe_ix (o_ix Wf) (qe_v 0) qe_int) qe_str)))))
abbrev l_is_table_0 : Pm D := (pMk m_is_entry (pCons (pV 1) pNil))
abbrev l_is_table_1 : Pm D := (pOp (fLt) (pOp fIx (pV 0) (pOp fSub (pV 2) (pC (.d (.int 1))))) (pOp fIx (pV 0) (pV 2)))
def b_is_table : Pm Out := (pSeq (pIf (pOr (pNot (pB (pMk cIsi (pCons (pV 0) (pCons (pC (.o (.ty "tuple"))) pNil))))) (pNot (pB (pMk cAll (pCons (pMk mLst (pLc (gN 1) [1] (pIt (pV 0)) (pC true) l_is_table_0)) pNil))))) (pRet (pC (.d (.bool false)))) pNx) (pRet (pMk cAll (pCons (pMk mLst (pLc (gN 2) [2] (pRg mR2 (pCons (pC (.d (.int 1))) (pCons (pMk cLen (pCons (pV 0) pNil)) pNil))) (pC true) l_is_table_1)) pNil))))
def m_is_table : List D → Option D := mOf 3 1 b_is_table
theorem g_is_table (T : Tp P K mg) : Gf P w K mg base "is_table" 3 1 m_is_table :=
  gf_of (N := ["value", "one", "index"]) (ps := ["value"]) T.f_is_table ⟨rfl, rfl, rfl, by decide +kernel, rfl, by decide +kernel, by decide +kernel⟩ rfl fun f cdv A outer s H E Wf I =>
    (qss_cons (qs_if (qw_pt (qw_or (qt_not (qt_val (qe_callB Wf (c_isi Wf) T.n_isinstance b_isinstance (qa_cons (qe_v 0) (qa_cons (qe_ty Wf T.n_tuple b_tuple) qa_nil))))) (qw_or1 (qt_not (qt_val (qe_callB Wf (c_all Wf) T.n_all b_all (qa_cons (qe_lc [("one", 1)] Wf (fun _ => blkOk_by (by kernel_rfl)) (qi_seq Wf (qe_v 0)) (dgv_name (Wf.blk _) 1 (by decide)) qts_nil (qe_call (Wf.blk _) (g_is_entry T) (by decide) (qa_cons (qe_v 1) qa_nil))) qa_nil))))))) (qss_one (qs_ret qe_bl)) qss_nil) (qss_one (qs_ret (qe_callB Wf (c_all Wf) T.n_all b_all (qa_cons (qe_lc [("index", 2)] Wf (fun _ => blkOk_by (by kernel_rfl)) (qi_r2 Wf T.n_range (qa_cons qe_int (qa_cons (qe_callB Wf (c_len Wf) T.n_len b_len (qa_cons (qe_v 0) qa_nil)) qa_nil))) (dgv_name (Wf.blk _) 2 (by decide)) qts_nil (qe_cmp (o_lt (Wf.blk _)) (qe_ix (o_ix (Wf.blk _)) (qe_v 0) (qe_op (o_sub (Wf.blk _)) (qe_v 2) qe_int)) (qe_ix (o_ix (Wf.blk _)) (qe_v 0) (qe_v 2)))) qa_nil)))))
def b_is_integer : Pm Out := (pRet (pAndV (pMk cIsi (pCons (pV 0) (pCons (pC (.o (.ty "int"))) pNil))) (pNotV (pMk cIsi (pCons (pV 0) (pCons (pC (.o (.ty "bool"))) pNil))))))
def m_is_integer : List D → Option D := mOf 1 1 b_is_integer
theorem g_is_integer (T : Tp P K mg) : Gf P w K mg base "is_integer" 1 1 m_is_integer :=
  gf_of (N := ["value"]) (ps := ["value"]) T.f_is_integer ⟨rfl, rfl, rfl, by decide +kernel, rfl, by decide +kernel, by decide +kernel⟩ rfl fun f cdv A outer s H E Wf I =>
    (qss_one (qs_ret (qe_and (qe_callB Wf (c_isi Wf) T.n_isinstance b_isinstance (qa_cons (qe_v 0) (qa_cons (qe_ty Wf T.n_int b_int) qa_nil))) (qe_and1 (qe_not (qe_callB Wf (c_isi Wf) T.n_isinstance b_isinstance (qa_cons (qe_v 0) (qa_cons (qe_ty Wf T.n_bool b_bool) qa_nil))))))))
def b_is_in : Pm Out := (pRet (pAndV (pMk m_is_integer (pCons (pV 0) pNil)) (pCh (fLe) (fLe) (pV 1) (pV 0) (pV 2))))
def m_is_in : List D → Option D := mOf 3 3 b_is_in
theorem g_is_in (T : Tp P K mg) : Gf P w K mg base "is_in" 2 3 m_is_in :=
  gf_of (N := ["value", "least", "most"]) (ps := ["value", "least", "most"]) T.f_is_in ⟨rfl, rfl, rfl, by decide +kernel, rfl, by decide +kernel, by decide +kernel⟩ rfl fun f cdv A outer s H E Wf I =>
    (qss_one (qs_ret (qe_and (qe_call Wf (g_is_integer T) (by decide) (qa_cons (qe_v 0) qa_nil)) (qe_and1 (qe_chain (o_le Wf) (o_le Wf) (qe_v 1) (qe_v 0) (qe_v 2))))))
abbrev l_is_design_0 : Pm D := (pAndV (pMk cIsi (pCons (pV 1) (pCons (pC (.o (.ty "str"))) pNil))) (pOp (fIn false) (pV 1) (pMk mTup (pCons (pC (.d (.str "write"))) (pCons (pC (.d (.str "out"))) pNil)))))
def b_is_design : Pm Out := (pSeq (pIf (pOr (pNot (pB (pMk m_is_list (pCons (pV 0) (pCons (pC (.d (.int 5))) (pCons (pC (.d (.int 5))) pNil)))))) (pNot (pB (pMk m_is_in (pCons (pOp fIx (pV 0) (pC (.d (.int 0)))) (pCons (pC (.d (.int 1))) (pCons (pC (.d (.int 4))) pNil))))))) (pRet (pC (.d (.bool false)))) pNx) (pSeq (pIf (pOr (pNot (pB (pMk cIsi (pCons (pOp fIx (pV 0) (pC (.d (.int 1)))) (pCons (pC (.o (.ty "bool"))) pNil))))) (pOr (pNot (pB (pMk cIsi (pCons (pOp fIx (pV 0) (pC (.d (.int 2)))) (pCons (pC (.o (.ty "bool"))) pNil))))) (pNot (pB (pMk m_is_list (pCons (pOp fIx (pV 0) (pC (.d (.int 3)))) (pCons (pC (.d (.int 3))) (pCons (pC (.d (.int 3))) pNil)))))))) (pRet (pC (.d (.bool false)))) pNx) (pRet (pAndV (pMk cAll (pCons (pMk mLst (pLc (gN 1) [1] (pIt (pOp fIx (pV 0) (pC (.d (.int 3))))) (pC true) l_is_design_0)) pNil)) (pMk m_is_table (pCons (pOp fIx (pV 0) (pC (.d (.int 4)))) pNil))))))
def m_is_design : List D → Option D := mOf 2 1 b_is_design
theorem g_is_design (T : Tp P K mg) : Gf P w K mg base "is_design" 4 1 m_is_design :=
  gf_of (N := ["value", "one"]) (ps := ["value"]) T.f_is_design ⟨rfl, rfl, rfl, by decide +kernel, rfl, by decide +kernel, by decide +kernel⟩ rfl fun f cdv A outer s H E Wf I =>
    (qss_cons (qs_if (qw_pt (qw_or (qt_not (qt_val (qe_call Wf (g_is_list T) (by decide) (qa_cons (qe_v 0) (qa_cons qe_int (qa_cons qe_int qa_nil)))))) (qw_or1 (qt_not (qt_val (qe_call Wf (g_is_in T) (by decide) (qa_cons (qe_ix (o_ix Wf) (qe_v 0) qe_int) (qa_cons qe_int (qa_cons (qe_g Wf T.c_MOST_WIDTH) qa_nil))))))))) (qss_one (qs_ret qe_bl)) qss_nil) (qss_cons (qs_if (qw_pt (qw_or (qt_not (qt_val (qe_callB Wf (c_isi Wf) T.n_isinstance b_isinstance (qa_cons (qe_ix (o_ix Wf) (qe_v 0) qe_int) (qa_cons (qe_ty Wf T.n_bool b_bool) qa_nil))))) (qw_or (qt_not (qt_val (qe_callB Wf (c_isi Wf) T.n_isinstance b_isinstance (qa_cons (qe_ix (o_ix Wf) (qe_v 0) qe_int) (qa_cons (qe_ty Wf T.n_bool b_bool) qa_nil))))) (qw_or1 (qt_not (qt_val (qe_call Wf (g_is_list T) (by decide) (qa_cons (qe_ix (o_ix Wf) (qe_v 0) qe_int) (qa_cons qe_int (qa_cons qe_int qa_nil)))))))))) (qss_one (qs_ret qe_bl)) qss_nil) (qss_one (qs_ret (qe_and (qe_callB Wf (c_all Wf) T.n_all b_all (qa_cons (qe_lc [("one", 1)] Wf (fun _ => blkOk_by (by kernel_rfl)) (qi_seq Wf (qe_ix (o_ix Wf) (qe_v 0) qe_int)) (dgv_name (Wf.blk _) 1 (by decide)) qts_nil (qe_and (qe_callB (Wf.blk _) (c_isi (Wf.blk _)) T.n_isinstance b_isinstance (qa_cons (qe_v 1) (qa_cons (qe_ty (Wf.blk _) T.n_str b_str) qa_nil))) (qe_and1 (qe_cmp (o_in (Wf.blk _)) (qe_v 1) (qe_tup (qa_cons qe_str (qa_cons qe_str qa_nil))))))) qa_nil)) (qe_and1 (qe_call Wf (g_is_table T) (by decide) (qa_cons (qe_ix (o_ix Wf) (qe_v 0) qe_int) qa_nil))))))))
def b_need_design : Sm Out := (sIf (lift (pNot (pB (pMk m_is_design (pCons (pV 0) pNil))))) (sRaise "BadDesign") (lift pNx))
def m_need_design : List D → Ts → R D := mOfS 1 1 b_need_design
theorem g_need_design (T : Tp P K mg) : Gs P w K mg base "need_design" 5 1 m_need_design :=
  gs_of (N := ["design"]) (ps := ["design"]) T.f_need_design ⟨rfl, rfl, rfl, by decide +kernel, rfl, by decide +kernel, by decide +kernel⟩ rfl fun f cdv A outer s H E Wf tk I im =>
    (dss_one (ds_if (qt_not (qt_val (qe_call Wf (g_is_design T) (by decide) (qa_cons (qe_v 0) qa_nil)))) (dss_one (ds_raise Wf tk im T.e_BadDesign)) qss_nil))
def b_with_table : Sm Out := (sSeq (sExp (sCall m_need_design (lift (pCons (pV 0) pNil)))) (sSeq (sIf (lift (pNot (pB (pMk m_is_table (pCons (pV 1) pNil))))) (sRaise "BadTable") (lift pNx)) (lift (pRet (pOp fAdd (pSl fSl (pV 0) (pC none) (pPart (pC (.d (.int 4))))) (pMk mTup (pCons (pV 1) pNil)))))))
def m_with_table : List D → Ts → R D := mOfS 2 2 b_with_table
theorem g_with_table (T : Tp P K mg) : Gs P w K mg base "with_table" 6 2 m_with_table :=
  gs_of (N := ["design", "table"]) (ps := ["design", "table"]) T.f_with_table ⟨rfl, rfl, rfl, by decide +kernel, rfl, by decide +kernel, by decide +kernel⟩ rfl fun f cdv A outer s H E Wf tk I im =>
    (dss_cons (ds_exp (de_callS Wf tk im (g_need_design T) (by decide) (qa_cons (qe_v 0) qa_nil))) (dss_cons (ds_if (qt_not (qt_val (qe_call Wf (g_is_table T) (by decide) (qa_cons (qe_v 1) qa_nil)))) (dss_one (ds_raise Wf tk im T.e_BadTable)) qss_nil) (qss_one (qs_ret (qe_op (o_add Wf) (qe_slice (o_sl Wf) (qe_v 0) qo_none (qo_some qe_int)) (qe_tup (qa_cons (qe_v 1) qa_nil)))))))
def b__law_alike (ma : List D → Option D) : Pm Out := (pSeq (pIf (pB (pAp (cIsi2 "tuple" "list") (pV 1))) (pSeq (pIf (pOr (pNot (pB (pAp (cIsi2 "tuple" "list") (pV 0)))) (pB (pOp (fNe) (pMk cIsi (pCons (pV 0) (pCons (pC (.o (.ty "list"))) pNil))) (pMk cIsi (pCons (pV 1) (pCons (pC (.o (.ty "list"))) pNil)))))) (pRet (pC (.d (.bool false)))) pNx) (pSeq (pIf (pB (pOp (fNe) (pMk cLen (pCons (pV 0) pNil)) (pMk cLen (pCons (pV 1) pNil)))) (pRet (pC (.d (.bool false)))) pNx) (pRet (pOp (fEq) (pMk mLst (pLc (gN 2) [2] (pRg mR1 (pCons (pMk cLen (pCons (pV 1) pNil)) pNil)) (pNot (pB (pMk ma (pCons (pOp fIx (pV 0) (pV 2)) (pCons (pOp fIx (pV 1) (pV 2)) pNil))))) (pV 2))) (pMk mLst pNil))))) pNx) (pSeq (pIf (pOr (pB (pOp (fIs) (pV 1) (pC (.d .none)))) (pB (pMk cIsi (pCons (pV 1) (pCons (pC (.o (.ty "str"))) pNil))))) (pRet (pAndV (pOp (fEq) (pV 0) (pV 1)) (pOp (fEq) (pMk cIsi (pCons (pV 0) (pCons (pC (.o (.ty "str"))) pNil))) (pMk cIsi (pCons (pV 1) (pCons (pC (.o (.ty "str"))) pNil)))))) pNx) (pRet (pAndV (pMk cIsi (pCons (pV 0) (pCons (pC (.o (.ty "int"))) pNil))) (pAndV (pOp (fEq) (pMk cIsi (pCons (pV 0) (pCons (pC (.o (.ty "bool"))) pNil))) (pMk cIsi (pCons (pV 1) (pCons (pC (.o (.ty "bool"))) pNil)))) (pOp (fEq) (pV 0) (pV 1)))))))
def mr__law_alike : Nat → List D → Option D
  | 0 => mOf 3 2 pNo
  | n + 1 => mOf 3 2 (b__law_alike (mr__law_alike n))
theorem gr__law_alike (T : Tp P K mg) : ∀ n, Gf P w K mg base "_law_alike" (n + 1) 2 (mr__law_alike n)
  | 0 => gf_of (N := ["_law_found", "_law_due", "_law_k"]) (ps := ["_law_found", "_law_due"]) T.f__law_alike ⟨rfl, rfl, rfl, by decide +kernel, rfl, by decide +kernel, by decide +kernel⟩ rfl fun f cdv A outer s H E Wf I => qss_never
  | n + 1 => gf_of (N := ["_law_found", "_law_due", "_law_k"]) (ps := ["_law_found", "_law_due"]) T.f__law_alike ⟨rfl, rfl, rfl, by decide +kernel, rfl, by decide +kernel, by decide +kernel⟩ rfl fun f cdv A outer s H E Wf I =>
    have ih := gr__law_alike T n
    (qss_cons (qs_if (qt_val (qe_isi2 Wf (qe_v 1) T.n_isinstance b_isinstance T.n_tuple T.n_list b_tuple b_list)) (qss_cons (qs_if (qw_pt (qw_or (qt_not (qt_val (qe_isi2 Wf (qe_v 0) T.n_isinstance b_isinstance T.n_tuple T.n_list b_tuple b_list))) (qw_or1 (qt_cmp (o_ne Wf) (qe_callB Wf (c_isi Wf) T.n_isinstance b_isinstance (qa_cons (qe_v 0) (qa_cons (qe_ty Wf T.n_list b_list) qa_nil))) (qe_callB Wf (c_isi Wf) T.n_isinstance b_isinstance (qa_cons (qe_v 1) (qa_cons (qe_ty Wf T.n_list b_list) qa_nil))))))) (qss_one (qs_ret qe_bl)) qss_nil) (qss_cons (qs_if (qt_cmp (o_ne Wf) (qe_callB Wf (c_len Wf) T.n_len b_len (qa_cons (qe_v 0) qa_nil)) (qe_callB Wf (c_len Wf) T.n_len b_len (qa_cons (qe_v 1) qa_nil))) (qss_one (qs_ret qe_bl)) qss_nil) (qss_one (qs_ret (qe_cmp (o_eq Wf) (qe_lc [("_law_k", 2)] Wf (fun _ => blkOk_by (by kernel_rfl)) (qi_r1 Wf T.n_range (qa_cons (qe_callB Wf (c_len Wf) T.n_len b_len (qa_cons (qe_v 1) qa_nil)) qa_nil)) (dgv_name (Wf.blk _) 2 (by decide)) (qts_one (qt_not (qt_val (qe_call (Wf.blk _) ih (Nat.le_refl _) (qa_cons (qe_ix (o_ix (Wf.blk _)) (qe_v 0) (qe_v 2)) (qa_cons (qe_ix (o_ix (Wf.blk _)) (qe_v 1) (qe_v 2)) qa_nil)))))) (qe_v 2)) (qe_lst qa_nil)))))) qss_nil) (qss_cons (qs_if (qw_pt (qw_or (qt_cmp (o_is Wf) (qe_v 1) qe_non) (qw_or1 (qt_val (qe_callB Wf (c_isi Wf) T.n_isinstance b_isinstance (qa_cons (qe_v 1) (qa_cons (qe_ty Wf T.n_str b_str) qa_nil))))))) (qss_one (qs_ret (qe_and (qe_cmp (o_eq Wf) (qe_v 0) (qe_v 1)) (qe_and1 (qe_cmp (o_eq Wf) (qe_callB Wf (c_isi Wf) T.n_isinstance b_isinstance (qa_cons (qe_v 0) (qa_cons (qe_ty Wf T.n_str b_str) qa_nil))) (qe_callB Wf (c_isi Wf) T.n_isinstance b_isinstance (qa_cons (qe_v 1) (qa_cons (qe_ty Wf T.n_str b_str) qa_nil)))))))) qss_nil) (qss_one (qs_ret (qe_and (qe_callB Wf (c_isi Wf) T.n_isinstance b_isinstance (qa_cons (qe_v 0) (qa_cons (qe_ty Wf T.n_int b_int) qa_nil))) (qe_and (qe_cmp (o_eq Wf) (qe_callB Wf (c_isi Wf) T.n_isinstance b_isinstance (qa_cons (qe_v 0) (qa_cons (qe_ty Wf T.n_bool b_bool) qa_nil))) (qe_callB Wf (c_isi Wf) T.n_isinstance b_isinstance (qa_cons (qe_v 1) (qa_cons (qe_ty Wf T.n_bool b_bool) qa_nil)))) (qe_and1 (qe_cmp (o_eq Wf) (qe_v 0) (qe_v 1)))))))))
def m__law_alike : List D → Option D := mr__law_alike 6
theorem g__law_alike (T : Tp P K mg) : Gf P w K mg base "_law_alike" 7 2 m__law_alike := gr__law_alike T 6
def b_number_of : Pm Out := (pRet (pAp (fGIdx ["lay", "read", "make", "write", "out"]) (pV 0)))
def m_number_of : List D → Option D := mOf 1 1 b_number_of
theorem g_number_of (T : Tp P K mg) : Gf P w K mg base "number_of" 1 1 m_number_of :=
  gf_of (N := ["event"]) (ps := ["event"]) T.f_number_of ⟨rfl, rfl, rfl, by decide +kernel, rfl, by decide +kernel, by decide +kernel⟩ rfl fun f cdv A outer s H E Wf I =>
    (qss_one (qs_ret (qe_gidx Wf T.c_EVENTS (qe_v 0))))
def b_event_number : Sm Out := (sSeq (sIf (lift (pNot (pB (pMk m_is_event (pCons (pV 0) pNil))))) (sRaise "BadEvent") (lift pNx)) (lift (pRet (pMk m_number_of (pCons (pV 0) pNil)))))
def m_event_number : List D → Ts → R D := mOfS 1 1 b_event_number
theorem g_event_number (T : Tp P K mg) : Gs P w K mg base "event_number" 2 1 m_event_number :=
  gs_of (N := ["event"]) (ps := ["event"]) T.f_event_number ⟨rfl, rfl, rfl, by decide +kernel, rfl, by decide +kernel, by decide +kernel⟩ rfl fun f cdv A outer s H E Wf tk I im =>
    (dss_cons (ds_if (qt_not (qt_val (qe_call Wf (g_is_event T) (by decide) (qa_cons (qe_v 0) qa_nil)))) (dss_one (ds_raise Wf tk im T.e_BadEvent)) qss_nil) (qss_one (qs_ret (qe_call Wf (g_number_of T) (by decide) (qa_cons (qe_v 0) qa_nil)))))
def b_need_entry : Sm Out := (sIf (lift (pNot (pB (pMk m_is_entry (pCons (pV 0) pNil))))) (sRaise "BadEntry") (lift pNx))
def m_need_entry : List D → Ts → R D := mOfS 1 1 b_need_entry
theorem g_need_entry (T : Tp P K mg) : Gs P w K mg base "need_entry" 3 1 m_need_entry :=
  gs_of (N := ["entry"]) (ps := ["entry"]) T.f_need_entry ⟨rfl, rfl, rfl, by decide +kernel, rfl, by decide +kernel, by decide +kernel⟩ rfl fun f cdv A outer s H E Wf tk I im =>
    (dss_one (ds_if (qt_not (qt_val (qe_call Wf (g_is_entry T) (by decide) (qa_cons (qe_v 0) qa_nil)))) (dss_one (ds_raise Wf tk im T.e_BadEntry)) qss_nil))
def b_can_hold : Pm Out := (pSeq (pAsg (gT 3 (gC (gN 1) (gC (gN 2) (gC (gN 3) gE)))) (pSl fSl (pV 0) (pC none) (pPart (pC (.d (.int 3)))))) (pSeq (pIf (pB (pOp (fEq) (pV 1) (pC (.d (.str "feeds"))))) (pRet (pAndV (pOp (fIn false) (pV 2) (pC (.kt (.tuple [(.str "set"), (.str "sum"), (.str "get")])))) (pOp (fNe) (pV 3) (pC (.d (.str "set")))))) pNx) (pSeq (pIf (pB (pOp (fEq) (pV 1) (pC (.d (.str "used"))))) (pRet (pAndV (pOp (fNe) (pV 2) (pC (.d (.str "set")))) (pOp (fIn false) (pV 3) (pC (.kt (.tuple [(.str "set"), (.str "sum"), (.str "get")])))))) pNx) (pSeq (pIf (pB (pOp (fEq) (pV 1) (pC (.d (.str "same"))))) (pRet (pAndV (pOp (fIn false) (pV 2) (pC (.kt (.tuple [(.str "set"), (.str "sum"), (.str "get")])))) (pOp (fIn false) (pV 3) (pC (.kt (.tuple [(.str "set"), (.str "sum"), (.str "get")])))))) pNx) (pSeq (pIf (pB (pOp (fIn false) (pV 1) (pMk mTup (pCons (pC (.d (.str "cells"))) (pCons (pC (.d (.str "memory"))) pNil))))) (pRet (pOp (fIn false) (pMk mTup (pCons (pV 2) (pCons (pV 3) pNil))) (pC (.kt (.tuple [(.tuple [(.str "put"), (.str "get")]), (.tuple [(.str "get"), (.str "put")]), (.tuple [(.str "put"), (.str "put")])]))))) pNx) (pSeq (pIf (pB (pOp (fEq) (pV 1) (pC (.d (.str "shows"))))) (pRet (pAndV (pOp (fEq) (pV 2) (pC (.d (.str "show")))) (pOp (fEq) (pV 3) (pC (.d (.str "show")))))) pNx) (pRet (pOrV (pOp (fEq) (pV 1) (pC (.d (.str "any")))) (pOp (fEq) (pV 2) (pC (.d (.str "if"))))))))))))
def m_can_hold : List D → Option D := mOf 4 1 b_can_hold
theorem g_can_hold (T : Tp P K mg) : Gf P w K mg base "can_hold" 1 1 m_can_hold :=
  gf_of (N := ["entry", "relation", "first", "second"]) (ps := ["entry"]) T.f_can_hold ⟨rfl, rfl, rfl, by decide +kernel, rfl, by decide +kernel, by decide +kernel⟩ rfl fun f cdv A outer s H E Wf I =>
    (qss_cons (qs_asg (qe_slice (o_sl Wf) (qe_v 0) qo_none (qo_some qe_int)) (dg_tup Wf (dgs_cons (dg_n Wf 1) (dgs_cons (dg_n Wf 2) (dgs_cons (dg_n Wf 3) dgs_e))))) (qss_cons (qs_if (qt_cmp (o_eq Wf) (qe_v 1) qe_str) (qss_one (qs_ret (qe_and (qe_cmp (o_in Wf) (qe_v 2) (qe_g Wf (T.c_WRITING).c)) (qe_and1 (qe_cmp (o_ne Wf) (qe_v 3) qe_str))))) qss_nil) (qss_cons (qs_if (qt_cmp (o_eq Wf) (qe_v 1) qe_str) (qss_one (qs_ret (qe_and (qe_cmp (o_ne Wf) (qe_v 2) qe_str) (qe_and1 (qe_cmp (o_in Wf) (qe_v 3) (qe_g Wf (T.c_WRITING).c)))))) qss_nil) (qss_cons (qs_if (qt_cmp (o_eq Wf) (qe_v 1) qe_str) (qss_one (qs_ret (qe_and (qe_cmp (o_in Wf) (qe_v 2) (qe_g Wf (T.c_WRITING).c)) (qe_and1 (qe_cmp (o_in Wf) (qe_v 3) (qe_g Wf (T.c_WRITING).c)))))) qss_nil) (qss_cons (qs_if (qt_cmp (o_in Wf) (qe_v 1) (qe_tup (qa_cons qe_str (qa_cons qe_str qa_nil)))) (qss_one (qs_ret (qe_cmp (o_in Wf) (qe_tup (qa_cons (qe_v 2) (qa_cons (qe_v 3) qa_nil))) (qe_g Wf T.c_STORES)))) qss_nil) (qss_cons (qs_if (qt_cmp (o_eq Wf) (qe_v 1) qe_str) (qss_one (qs_ret (qe_and (qe_cmp (o_eq Wf) (qe_v 2) qe_str) (qe_and1 (qe_cmp (o_eq Wf) (qe_v 3) qe_str))))) qss_nil) (qss_one (qs_ret (qe_or (qe_cmp (o_eq Wf) (qe_v 1) qe_str) (qe_and1 (qe_cmp (o_eq Wf) (qe_v 2) qe_str)))))))))))
def b_may_hold : Sm Out := (sSeq (sExp (sCall m_need_entry (lift (pCons (pV 0) pNil)))) (lift (pRet (pMk m_can_hold (pCons (pV 0) pNil)))))
def m_may_hold : List D → Ts → R D := mOfS 1 1 b_may_hold
theorem g_may_hold (T : Tp P K mg) : Gs P w K mg base "may_hold" 4 1 m_may_hold :=
  gs_of (N := ["entry"]) (ps := ["entry"]) T.f_may_hold ⟨rfl, rfl, rfl, by decide +kernel, rfl, by decide +kernel, by decide +kernel⟩ rfl fun f cdv A outer s H E Wf tk I im =>
    (dss_cons (ds_exp (de_callS Wf tk im (g_need_entry T) (by decide) (qa_cons (qe_v 0) qa_nil))) (qss_one (qs_ret (qe_call Wf (g_can_hold T) (by decide) (qa_cons (qe_v 0) qa_nil)))))
def b_holds_always : Pm Out := (pSeq (pIf (pB (pOp (fEq) (pV 0) (pC (.d (.str "jump"))))) (pRet (pOp (fEq) (pV 1) (pC (.d (.str "if"))))) pNx) (pSeq (pIf (pB (pOp (fEq) (pV 0) (pC (.d (.str "shows"))))) (pRet (pAndV (pOp (fEq) (pV 1) (pC (.d (.str "show")))) (pOp (fEq) (pV 2) (pC (.d (.str "show")))))) pNx) (pRet (pOrV (pOp (fEq) (pV 0) (pC (.d (.str "any")))) (pAndV (pOp (fEq) (pV 0) (pC (.d (.str "memory")))) (pOp (fIn false) (pMk mTup (pCons (pV 1) (pCons (pV 2) pNil))) (pC (.kt (.tuple [(.tuple [(.str "put"), (.str "get")]), (.tuple [(.str "get"), (.str "put")]), (.tuple [(.str "put"), (.str "put")])])))))))))
def m_holds_always : List D → Option D := mOf 3 3 b_holds_always
theorem g_holds_always (T : Tp P K mg) : Gf P w K mg base "holds_always" 1 3 m_holds_always :=
  gf_of (N := ["relation", "first", "second"]) (ps := ["relation", "first", "second"]) T.f_holds_always ⟨rfl, rfl, rfl, by decide +kernel, rfl, by decide +kernel, by decide +kernel⟩ rfl fun f cdv A outer s H E Wf I =>
    (qss_cons (qs_if (qt_cmp (o_eq Wf) (qe_v 0) qe_str) (qss_one (qs_ret (qe_cmp (o_eq Wf) (qe_v 1) qe_str))) qss_nil) (qss_cons (qs_if (qt_cmp (o_eq Wf) (qe_v 0) qe_str) (qss_one (qs_ret (qe_and (qe_cmp (o_eq Wf) (qe_v 1) qe_str) (qe_and1 (qe_cmp (o_eq Wf) (qe_v 2) qe_str))))) qss_nil) (qss_one (qs_ret (qe_or (qe_cmp (o_eq Wf) (qe_v 0) qe_str) (qe_and1 (qe_and (qe_cmp (o_eq Wf) (qe_v 0) qe_str) (qe_and1 (qe_cmp (o_in Wf) (qe_tup (qa_cons (qe_v 1) (qa_cons (qe_v 2) qa_nil))) (qe_g Wf T.c_STORES))))))))))
def b_forces : Pm Out := (pSeq (pIf (pOr (pB (pOp (fNe) (pSl fSl (pV 0) (pPart (pC (.d (.int 1)))) (pPart (pC (.d (.int 3))))) (pSl fSl (pV 1) (pPart (pC (.d (.int 1)))) (pPart (pC (.d (.int 3))))))) (pB (pOp (fGt) (pMk m_number_of (pCons (pOp fIx (pV 0) (pC (.d (.int 4)))) pNil)) (pMk m_number_of (pCons (pOp fIx (pV 1) (pC (.d (.int 4)))) pNil))))) (pRet (pC (.d (.bool false)))) pNx) (pSeq (pAsg (gT 3 (gC (gN 2) (gC (gN 3) (gC (gN 4) gE)))) (pSl fSl (pV 0) (pC none) (pPart (pC (.d (.int 3)))))) (pSeq (pAsg (gN 5) (pAndV (pOp (fEq) (pV 2) (pC (.d (.str "cells")))) (pOp (fIn false) (pMk mTup (pCons (pV 3) (pCons (pV 4) pNil))) (pC (.kt (.tuple [(.tuple [(.str "put"), (.str "get")]), (.tuple [(.str "get"), (.str "put")]), (.tuple [(.str "put"), (.str "put")])])))))) (pSeq (pIf (pAnd (pB (pV 5)) (pB (pOp (fEq) (pOp fIx (pV 1) (pC (.d (.int 3)))) (pC (.d (.str "read")))))) (pRet (pC (.d (.bool true)))) pNx) (pSeq (pIf (pB (pOp (fLt) (pMk m_number_of (pCons (pOp fIx (pV 0) (pC (.d (.int 3)))) pNil)) (pMk m_number_of (pCons (pOp fIx (pV 1) (pC (.d (.int 3)))) pNil)))) (pRet (pC (.d (.bool false)))) pNx) (pSeq (pIf (pOr (pB (pOp (fEq) (pV 2) (pOp fIx (pV 1) (pC (.d (.int 0)))))) (pB (pMk m_holds_always (pCons (pV 2) (pCons (pV 3) (pCons (pV 4) pNil)))))) (pRet (pC (.d (.bool true)))) pNx) (pRet (pAndV (pV 5) (pOp (fIn false) (pOp fIx (pV 0) (pC (.d (.int 4)))) (pMk mTup (pCons (pC (.d (.str "lay"))) (pCons (pC (.d (.str "read"))) pNil))))))))))))
def m_forces : List D → Option D := mOf 6 2 b_forces
theorem g_forces (T : Tp P K mg) : Gf P w K mg base "forces" 2 2 m_forces :=
  gf_of (N := ["strong", "weak", "relation", "first", "second", "waits"]) (ps := ["strong", "weak"]) T.f_forces ⟨rfl, rfl, rfl, by decide +kernel, rfl, by decide +kernel, by decide +kernel⟩ rfl fun f cdv A outer s H E Wf I =>
    (qss_cons (qs_if (qw_pt (qw_or (qt_cmp (o_ne Wf) (qe_slice (o_sl Wf) (qe_v 0) (qo_some qe_int) (qo_some qe_int)) (qe_slice (o_sl Wf) (qe_v 1) (qo_some qe_int) (qo_some qe_int))) (qw_or1 (qt_cmp (o_gt Wf) (qe_call Wf (g_number_of T) (by decide) (qa_cons (qe_ix (o_ix Wf) (qe_v 0) qe_int) qa_nil)) (qe_call Wf (g_number_of T) (by decide) (qa_cons (qe_ix (o_ix Wf) (qe_v 1) qe_int) qa_nil)))))) (qss_one (qs_ret qe_bl)) qss_nil) (qss_cons (qs_asg (qe_slice (o_sl Wf) (qe_v 0) qo_none (qo_some qe_int)) (dg_tup Wf (dgs_cons (dg_n Wf 2) (dgs_cons (dg_n Wf 3) (dgs_cons (dg_n Wf 4) dgs_e))))) (qss_cons (qs_asg (qe_and (qe_cmp (o_eq Wf) (qe_v 2) qe_str) (qe_and1 (qe_cmp (o_in Wf) (qe_tup (qa_cons (qe_v 3) (qa_cons (qe_v 4) qa_nil))) (qe_g Wf T.c_STORES)))) (dg_n Wf 5)) (qss_cons (qs_if (qw_pt (qw_and (qt_val (qe_v 5)) (qw_and1 (qt_cmp (o_eq Wf) (qe_ix (o_ix Wf) (qe_v 1) qe_int) qe_str)))) (qss_one (qs_ret qe_bl)) qss_nil) (qss_cons (qs_if (qt_cmp (o_lt Wf) (qe_call Wf (g_number_of T) (by decide) (qa_cons (qe_ix (o_ix Wf) (qe_v 0) qe_int) qa_nil)) (qe_call Wf (g_number_of T) (by decide) (qa_cons (qe_ix (o_ix Wf) (qe_v 1) qe_int) qa_nil))) (qss_one (qs_ret qe_bl)) qss_nil) (qss_cons (qs_if (qw_pt (qw_or (qt_cmp (o_eq Wf) (qe_v 2) (qe_ix (o_ix Wf) (qe_v 1) qe_int)) (qw_or1 (qt_val (qe_call Wf (g_holds_always T) (by decide) (qa_cons (qe_v 2) (qa_cons (qe_v 3) (qa_cons (qe_v 4) qa_nil)))))))) (qss_one (qs_ret qe_bl)) qss_nil) (qss_one (qs_ret (qe_and (qe_v 5) (qe_and1 (qe_cmp (o_in Wf) (qe_ix (o_ix Wf) (qe_v 0) qe_int) (qe_tup (qa_cons qe_str (qa_cons qe_str qa_nil))))))))))))))
abbrev l_forced_by_table_0 : Pm D := (pMk m_forces (pCons (pV 2) (pCons (pV 1) pNil)))
def b_forced_by_table : Pm Out := (pRet (pMk cAny (pCons (pMk mLst (pLc (gN 2) [2] (pIt (pOp fIx (pV 0) (pC (.d (.int 4))))) (pC true) l_forced_by_table_0)) pNil)))
def m_forced_by_table : List D → Option D := mOf 3 2 b_forced_by_table
theorem g_forced_by_table (T : Tp P K mg) : Gf P w K mg base "forced_by_table" 3 2 m_forced_by_table :=
  gf_of (N := ["design", "entry", "one"]) (ps := ["design", "entry"]) T.f_forced_by_table ⟨rfl, rfl, rfl, by decide +kernel, rfl, by decide +kernel, by decide +kernel⟩ rfl fun f cdv A outer s H E Wf I =>
    (qss_one (qs_ret (qe_callB Wf (c_any Wf) T.n_any b_any (qa_cons (qe_lc [("one", 2)] Wf (fun _ => blkOk_by (by kernel_rfl)) (qi_seq Wf (qe_ix (o_ix Wf) (qe_v 0) qe_int)) (dgv_name (Wf.blk _) 2 (by decide)) qts_nil (qe_call (Wf.blk _) (g_forces T) (by decide) (qa_cons (qe_v 2) (qa_cons (qe_v 1) qa_nil)))) qa_nil))))
def b_forced_in : Pm Out := (pSeq (pIf (pOr (pNot (pB (pMk m_can_hold (pCons (pV 1) pNil)))) (pOr (pB (pOp (fEq) (pOp fIx (pV 0) (pC (.d (.int 0)))) (pC (.d (.int 1))))) (pAnd (pB (pOp fIx (pV 0) (pC (.d (.int 1))))) (pB (pOp (fEq) (pOp fIx (pV 1) (pC (.d (.int 4)))) (pC (.d (.str "out")))))))) (pRet (pC (.d (.bool true)))) pNx) (pRet (pMk m_forced_by_table (pCons (pV 0) (pCons (pV 1) pNil)))))
def m_forced_in : List D → Option D := mOf 2 2 b_forced_in
theorem g_forced_in (T : Tp P K mg) : Gf P w K mg base "forced_in" 4 2 m_forced_in :=
  gf_of (N := ["design", "entry"]) (ps := ["design", "entry"]) T.f_forced_in ⟨rfl, rfl, rfl, by decide +kernel, rfl, by decide +kernel, by decide +kernel⟩ rfl fun f cdv A outer s H E Wf I =>
    (qss_cons (qs_if (qw_pt (qw_or (qt_not (qt_val (qe_call Wf (g_can_hold T) (by decide) (qa_cons (qe_v 1) qa_nil)))) (qw_or (qt_cmp (o_eq Wf) (qe_ix (o_ix Wf) (qe_v 0) qe_int) qe_int) (qw_or1 (qw_pt (qw_and (qt_val (qe_ix (o_ix Wf) (qe_v 0) qe_int)) (qw_and1 (qt_cmp (o_eq Wf) (qe_ix (o_ix Wf) (qe_v 1) qe_int) qe_str)))))))) (qss_one (qs_ret qe_bl)) qss_nil) (qss_one (qs_ret (qe_call Wf (g_forced_by_table T) (by decide) (qa_cons (qe_v 0) (qa_cons (qe_v 1) qa_nil))))))
def b_is_forced : Sm Out := (sSeq (sExp (sCall m_need_design (lift (pCons (pV 0) pNil)))) (sSeq (sExp (sCall m_need_entry (lift (pCons (pV 1) pNil)))) (lift (pRet (pMk m_forced_in (pCons (pV 0) (pCons (pV 1) pNil)))))))
def m_is_forced : List D → Ts → R D := mOfS 2 2 b_is_forced
theorem g_is_forced (T : Tp P K mg) : Gs P w K mg base "is_forced" 6 2 m_is_forced :=
  gs_of (N := ["design", "entry"]) (ps := ["design", "entry"]) T.f_is_forced ⟨rfl, rfl, rfl, by decide +kernel, rfl, by decide +kernel, by decide +kernel⟩ rfl fun f cdv A outer s H E Wf tk I im =>
    (dss_cons (ds_exp (de_callS Wf tk im (g_need_design T) (by decide) (qa_cons (qe_v 0) qa_nil))) (dss_cons (ds_exp (de_callS Wf tk im (g_need_entry T) (by decide) (qa_cons (qe_v 1) qa_nil))) (qss_one (qs_ret (qe_call Wf (g_forced_in T) (by decide) (qa_cons (qe_v 0) (qa_cons (qe_v 1) qa_nil)))))))
def b_home_in : Pm Out := (pSeq (pIf (pB (pOp (fIn false) (pV 1) (pC (.kt (.tuple [(.str "set"), (.str "sum"), (.str "get")]))))) (pRet (pOp fIx (pOp fIx (pV 0) (pC (.d (.int 3)))) (pC (.d (.int 0))))) pNx) (pSeq (pIf (pB (pOp (fEq) (pV 1) (pC (.d (.str "put"))))) (pRet (pOp fIx (pOp fIx (pV 0) (pC (.d (.int 3)))) (pC (.d (.int 1))))) pNx) (pRet (pIf (pB (pOp (fEq) (pV 1) (pC (.d (.str "show"))))) (pOp fIx (pOp fIx (pV 0) (pC (.d (.int 3)))) (pC (.d (.int 2)))) (pC (.d .none))))))
def m_home_in : List D → Option D := mOf 2 2 b_home_in
theorem g_home_in (T : Tp P K mg) : Gf P w K mg base "home_in" 1 2 m_home_in :=
  gf_of (N := ["design", "kind"]) (ps := ["design", "kind"]) T.f_home_in ⟨rfl, rfl, rfl, by decide +kernel, rfl, by decide +kernel, by decide +kernel⟩ rfl fun f cdv A outer s H E Wf I =>
    (qss_cons (qs_if (qt_cmp (o_in Wf) (qe_v 1) (qe_g Wf (T.c_WRITING).c)) (qss_one (qs_ret (qe_ix (o_ix Wf) (qe_ix (o_ix Wf) (qe_v 0) qe_int) qe_int))) qss_nil) (qss_cons (qs_if (qt_cmp (o_eq Wf) (qe_v 1) qe_str) (qss_one (qs_ret (qe_ix (o_ix Wf) (qe_ix (o_ix Wf) (qe_v 0) qe_int) qe_int))) qss_nil) (qss_one (qs_ret (qe_if (qt_cmp (o_eq Wf) (qe_v 1) qe_str) (qe_ix (o_ix Wf) (qe_ix (o_ix Wf) (qe_v 0) qe_int) qe_int) qe_non)))))
def b_home_of : Sm Out := (sSeq (sExp (sCall m_need_design (lift (pCons (pV 0) pNil)))) (sSeq (sIf (lift (pNot (pB (pMk m_is_kind (pCons (pV 1) pNil))))) (sRaise "BadKind") (lift pNx)) (lift (pRet (pMk m_home_in (pCons (pV 0) (pCons (pV 1) pNil)))))))
def m_home_of : List D → Ts → R D := mOfS 2 2 b_home_of
theorem g_home_of (T : Tp P K mg) : Gs P w K mg base "home_of" 6 2 m_home_of :=
  gs_of (N := ["design", "kind"]) (ps := ["design", "kind"]) T.f_home_of ⟨rfl, rfl, rfl, by decide +kernel, rfl, by decide +kernel, by decide +kernel⟩ rfl fun f cdv A outer s H E Wf tk I im =>
    (dss_cons (ds_exp (de_callS Wf tk im (g_need_design T) (by decide) (qa_cons (qe_v 0) qa_nil))) (dss_cons (ds_if (qt_not (qt_val (qe_call Wf (g_is_kind T) (by decide) (qa_cons (qe_v 1) qa_nil)))) (dss_one (ds_raise Wf tk im T.e_BadKind)) qss_nil) (qss_one (qs_ret (qe_call Wf (g_home_in T) (by decide) (qa_cons (qe_v 0) (qa_cons (qe_v 1) qa_nil)))))))
abbrev l_needs_in_0 : Pm D := (pMk mTup (pCons (pC (.d (.str "feeds"))) (pCons (pV 6) (pCons (pV 7) (pCons (pV 4) (pCons (pC (.d (.str "read"))) pNil))))))
abbrev l_needs_in_1 : Pm D := (pMk mTup (pCons (pC (.d (.str "used"))) (pCons (pV 6) (pCons (pV 7) (pCons (pC (.d (.str "read"))) (pCons (pV 1) pNil))))))
abbrev l_needs_in_2 : Pm D := (pMk mTup (pCons (pC (.d (.str "same"))) (pCons (pV 6) (pCons (pV 7) (pCons (pV 1) (pCons (pV 1) pNil))))))
abbrev l_needs_in_3 : Pm D := (pMk mTup (pCons (pC (.d (.str "jump"))) (pCons (pC (.d (.str "if"))) (pCons (pV 7) (pCons (pC (.d (.str "make"))) (pCons (pMk m_home_in (pCons (pV 0) (pCons (pV 7) pNil))) pNil))))))
def b_needs_in : Sm Out := (sSeq (lift (pAsg (gT 3 (gC (gN 1) (gC (gN 2) (gC (gN 3) gE)))) (pOp fIx (pV 0) (pC (.d (.int 3)))))) (sSeq (lift (pAsg (gN 4) (pIf (pB (pOp fIx (pV 0) (pC (.d (.int 2))))) (pC (.d (.str "make"))) (pV 1)))) (sSeq (sAsg (gN 5) (sAlL (sLc2 (gN 6) [6, 7] (liftI (pIt (pC (.kt (.tuple [(.str "set"), (.str "sum"), (.str "get")]))))) (lift (pC true)) (liftI (pIt (pC (.kt (.tuple [(.str "set"), (.str "sum"), (.str "get"), (.str "put"), (.str "if"), (.str "show")]))))) (gN 7) [7] (lift (pB (pOp (fNe) (pV 7) (pC (.d (.str "set")))))) (lift l_needs_in_0)))) (sSeq (sExp (sMeth1 extX (lift (pV 5)) (lift (pMk mLst (pLc2 (gN 6) [6, 7] (pIt (pC (.kt (.tuple [(.str "set"), (.str "sum"), (.str "get"), (.str "put"), (.str "if"), (.str "show")])))) (pB (pOp (fNe) (pV 6) (pC (.d (.str "set"))))) (pIt (pC (.kt (.tuple [(.str "set"), (.str "sum"), (.str "get")])))) (gN 7) [7] (pC true) l_needs_in_1))))) (sSeq (sExp (sMeth1 extX (lift (pV 5)) (lift (pMk mLst (pLc2 (gN 6) [6, 7] (pIt (pC (.kt (.tuple [(.str "set"), (.str "sum"), (.str "get")])))) (pC true) (pIt (pC (.kt (.tuple [(.str "set"), (.str "sum"), (.str "get")])))) (gN 7) [7] (pC true) l_needs_in_2))))) (sSeq (sExp (sMeth1 extX (lift (pV 5)) (lift (pMk mLst (pCons (pMk mTup (pCons (pC (.d (.str "cells"))) (pCons (pC (.d (.str "put"))) (pCons (pC (.d (.str "get"))) (pCons (pV 2) (pCons (pC (.d (.str "make"))) pNil)))))) (pCons (pMk mTup (pCons (pC (.d (.str "cells"))) (pCons (pC (.d (.str "get"))) (pCons (pC (.d (.str "put"))) (pCons (pC (.d (.str "make"))) (pCons (pV 2) pNil)))))) pNil)))))) (sSeq (sExp (sMeth1 extX (lift (pV 5)) (lift (pMk mLst (pCons (pMk mTup (pCons (pC (.d (.str "cells"))) (pCons (pC (.d (.str "put"))) (pCons (pC (.d (.str "put"))) (pCons (pV 2) (pCons (pV 2) pNil)))))) (pCons (pMk mTup (pCons (pC (.d (.str "shows"))) (pCons (pC (.d (.str "show"))) (pCons (pC (.d (.str "show"))) (pCons (pV 3) (pCons (pV 3) pNil)))))) pNil)))))) (sSeq (sExp (sMeth1 extX (lift (pV 5)) (lift (pMk mLst (pLc (gN 7) [7] (pIt (pC (.kt (.tuple [(.str "set"), (.str "sum"), (.str "get"), (.str "put"), (.str "if"), (.str "show")])))) (pB (pOp (fNe) (pV 7) (pC (.d (.str "if"))))) l_needs_in_3))))) (sFzS 5 (lift (pRet (pMk cSort (pCons (pV 5) pNil)))))))))))))
def m_needs_in : List D → Ts → R D := mOfS 8 1 b_needs_in
theorem g_needs_in (T : Tp P K mg) : Gs P w K mg base "needs_in" 2 1 m_needs_in :=
  gs_of (N := ["design", "home", "cells", "shown", "first", "found", "one", "other"]) (ps := ["design"]) T.f_needs_in ⟨rfl, rfl, rfl, by decide +kernel, rfl, by decide +kernel, by decide +kernel⟩ rfl fun f cdv A outer s H E Wf tk I im =>
    (dss_cons (qs_asg (qe_ix (o_ix Wf) (qe_v 0) qe_int) (dg_tup Wf (dgs_cons (dg_n Wf 1) (dgs_cons (dg_n Wf 2) (dgs_cons (dg_n Wf 3) dgs_e))))) (dss_cons (qs_asg (qe_if (qt_val (qe_ix (o_ix Wf) (qe_v 0) qe_int)) qe_str (qe_v 1)) (dg_n Wf 4)) (dss_cons (ds_setAlLc2 [("one", 6), ("other", 7)] [7] Wf 5 (fun _ => blkOk_by (by kernel_rfl)) (by decide) (qi_seq Wf (qe_g Wf (T.c_WRITING).c)) (dgv_name (Wf.blk _) 6 (by decide)) qts_nil (qi_seq (Wf.blk _) (qe_g (Wf.blk _) (T.c_KINDS).c)) (dgv_name (Wf.blk _) 7 (by decide)) (qts_one (qt_cmp (o_ne (Wf.blk _)) (qe_v 7) qe_str)) (qe_tup (qa_cons qe_str (qa_cons (qe_v 6) (qa_cons (qe_v 7) (qa_cons (qe_v 4) (qa_cons qe_str qa_nil)))))) (fun _ => sw_true rfl rfl rfl (by decide +kernel))) (dss_cons (ds_exp (de_ext Wf (qe_v 5) (qe_lc2 [("one", 6), ("other", 7)] [7] Wf (fun _ => blkOk_by (by kernel_rfl)) (by decide) (qi_seq Wf (qe_g Wf (T.c_KINDS).c)) (dgv_name (Wf.blk _) 6 (by decide)) (qts_one (qt_cmp (o_ne (Wf.blk _)) (qe_v 6) qe_str)) (qi_seq (Wf.blk _) (qe_g (Wf.blk _) (T.c_WRITING).c)) (dgv_name (Wf.blk _) 7 (by decide)) qts_nil (qe_tup (qa_cons qe_str (qa_cons (qe_v 6) (qa_cons (qe_v 7) (qa_cons qe_str (qa_cons (qe_v 1) qa_nil))))))))) (dss_cons (ds_exp (de_ext Wf (qe_v 5) (qe_lc2 [("one", 6), ("other", 7)] [7] Wf (fun _ => blkOk_by (by kernel_rfl)) (by decide) (qi_seq Wf (qe_g Wf (T.c_WRITING).c)) (dgv_name (Wf.blk _) 6 (by decide)) qts_nil (qi_seq (Wf.blk _) (qe_g (Wf.blk _) (T.c_WRITING).c)) (dgv_name (Wf.blk _) 7 (by decide)) qts_nil (qe_tup (qa_cons qe_str (qa_cons (qe_v 6) (qa_cons (qe_v 7) (qa_cons (qe_v 1) (qa_cons (qe_v 1) qa_nil))))))))) (dss_cons (ds_exp (de_ext Wf (qe_v 5) (qe_lst (qa_cons (qe_tup (qa_cons qe_str (qa_cons qe_str (qa_cons qe_str (qa_cons (qe_v 2) (qa_cons qe_str qa_nil)))))) (qa_cons (qe_tup (qa_cons qe_str (qa_cons qe_str (qa_cons qe_str (qa_cons qe_str (qa_cons (qe_v 2) qa_nil)))))) qa_nil))))) (dss_cons (ds_exp (de_ext Wf (qe_v 5) (qe_lst (qa_cons (qe_tup (qa_cons qe_str (qa_cons qe_str (qa_cons qe_str (qa_cons (qe_v 2) (qa_cons (qe_v 2) qa_nil)))))) (qa_cons (qe_tup (qa_cons qe_str (qa_cons qe_str (qa_cons qe_str (qa_cons (qe_v 3) (qa_cons (qe_v 3) qa_nil)))))) qa_nil))))) (dss_cons (ds_exp (de_ext Wf (qe_v 5) (qe_lc [("other", 7)] Wf (fun _ => blkOk_by (by kernel_rfl)) (qi_seq Wf (qe_g Wf (T.c_KINDS).c)) (dgv_name (Wf.blk _) 7 (by decide)) (qts_one (qt_cmp (o_ne (Wf.blk _)) (qe_v 7) qe_str)) (qe_tup (qa_cons qe_str (qa_cons qe_str (qa_cons (qe_v 7) (qa_cons qe_str (qa_cons (qe_call (Wf.blk _) (g_home_in T) (by decide) (qa_cons (qe_v 0) (qa_cons (qe_v 7) qa_nil))) qa_nil))))))))) (dss_frz 5 (qss_one (qs_ret (qe_callB Wf (c_sort Wf) T.n_sorted b_sorted (qa_cons (qe_v 5) qa_nil)))))))))))))
def b_needs : Sm Out := (sSeq (sExp (sCall m_need_design (lift (pCons (pV 0) pNil)))) (sRet (sMk cTup (sCons (sCall m_needs_in (lift (pCons (pV 0) pNil))) (lift pNil)))))
def m_needs : List D → Ts → R D := mOfS 1 1 b_needs
theorem g_needs (T : Tp P K mg) : Gs P w K mg base "needs" 6 1 m_needs :=
  gs_of (N := ["design"]) (ps := ["design"]) T.f_needs ⟨rfl, rfl, rfl, by decide +kernel, rfl, by decide +kernel, by decide +kernel⟩ rfl fun f cdv A outer s H E Wf tk I im =>
    (dss_cons (ds_exp (de_callS Wf tk im (g_need_design T) (by decide) (qa_cons (qe_v 0) qa_nil))) (dss_one (ds_ret (de_callTy Wf (c_tup Wf) T.n_tuple b_tuple (da_cons (de_callS Wf tk im (g_needs_in T) (by decide) (qa_cons (qe_v 0) qa_nil)) qa_nil)))))
def b__law_home : Pm Out := (pRet (pDget (pPcons (.inr "put") (pOp fIx (pOp fIx (pV 0) (pC (.d (.int 3)))) (pC (.d (.int 1)))) (pPcons (.inr "show") (pOp fIx (pOp fIx (pV 0) (pC (.d (.int 3)))) (pC (.d (.int 2)))) (pPcons (.inr "if") (pC (.d .none)) pPnil))) (pV 1) (pOp fIx (pOp fIx (pV 0) (pC (.d (.int 3)))) (pC (.d (.int 0))))))
def m__law_home : List D → Option D := mOf 2 2 b__law_home
theorem g__law_home (T : Tp P K mg) : Gf P w K mg base "_law_home" 1 2 m__law_home :=
  gf_of (N := ["_law_design", "_law_kind"]) (ps := ["_law_design", "_law_kind"]) T.f__law_home ⟨rfl, rfl, rfl, by decide +kernel, rfl, by decide +kernel, by decide +kernel⟩ rfl fun f cdv A outer s H E Wf I =>
    (qss_one (qs_ret (qe_dget Wf (qp_cons (qe_ix (o_ix Wf) (qe_ix (o_ix Wf) (qe_v 0) qe_int) qe_int) (qp_cons (qe_ix (o_ix Wf) (qe_ix (o_ix Wf) (qe_v 0) qe_int) qe_int) (qp_cons qe_non qp_nil))) (qe_v 1) (qe_ix (o_ix Wf) (qe_ix (o_ix Wf) (qe_v 0) qe_int) qe_int))))
abbrev l_law_0 : Sm Out := (sIf (sNot (sB (sMk m__law_alike (sCons (sCall m_home_of (lift (pCons (pV 2) (pCons (pV 3) pNil)))) (lift (pCons (pMk m__law_home (pCons (pV 2) (pCons (pV 3) pNil))) pNil)))))) (lift (pRet (pC (.d (.bool false))))) (lift pNx))
abbrev l_law_1 : Sm D := (sCall m_event_number (lift (pCons (pV 10) pNil)))
def lams_law : Nat → Option (Arguments × Expr × Scope)
  | 0 => lamX (exC (stE (stN (defBody (top 49)) 9)) 0)
  | 1 => lamX (exC (stE (stN (defBody (top 49)) 9)) 1)
  | 2 => lamX (exC (exC (exC (stE (stN (defBody (top 49)) 13)) 1) 0) 1)
  | 3 => lamX (exC (stE (stN (defBody (top 49)) 18)) 0)
  | 4 => lamX (exC (stE (stN (defBody (top 49)) 18)) 1)
  | 5 => lamX (exC (stE (stN (defBody (top 49)) 18)) 2)
  | 6 => lamX (exC (stE (stN (defBody (top 49)) 18)) 3)
  | 7 => lamX (exC (exC (stE (stN (defBody (top 49)) 20)) 0) 1)
  | 8 => lamX (exC (exC (stE (stN (defBody (top 49)) 21)) 0) 1)
  | _ => none
abbrev lam_law_0 : Sm D := (sCall m_may_hold (lift (pCons (pV 7) pNil)))
abbrev lam_law_1 : Sm D := (sCall m_is_forced (lift (pCons (pV 2) (pCons (pV 7) pNil))))
abbrev lam_law_2 : Sm D := (sCall m_with_table (lift (pCons (pV 2) (pCons (pV 9) pNil))))
abbrev lam_law_3 : Sm D := (sCall m_home_of (lift (pCons (pV 7) (pCons (pC (.d (.str "set"))) pNil))))
abbrev lam_law_4 : Sm D := (sCall m_with_table (lift (pCons (pV 7) (pCons (pC (.d .none)) pNil))))
abbrev lam_law_5 : Sm D := (sCall m_needs (lift (pCons (pV 7) pNil)))
abbrev lam_law_6 : Sm D := (sCall m_is_forced (lift (pCons (pV 7) (pCons (pC (.d .none)) pNil))))
abbrev lam_law_7 : Sm D := (sCall m_home_of (sCons (lift (pV 2)) (sCons (sCall m__law_pick (lift (pCons (pV 1) (pCons (pMk mLst (pCons (pC (.d .none)) (pCons (pC (.d (.str ""))) (pCons (pC (.d (.str "Set"))) (pCons (pC (.d (.int 5))) (pCons (pMk mTup (pCons (pC (.d (.str "set"))) pNil)) pNil)))))) pNil)))) (lift pNil))))
abbrev lam_law_8 : Sm D := (sCall m_event_number (sCons (sCall m__law_pick (lift (pCons (pV 1) (pCons (pMk mLst (pCons (pC (.d .none)) (pCons (pC (.d (.str ""))) (pCons (pC (.d (.str "Lay"))) (pCons (pC (.d (.int 0))) (pCons (pMk mTup (pCons (pC (.d (.str "lay"))) pNil)) (pCons (pC (.d (.str "done"))) pNil))))))) pNil)))) (lift pNil)))
def lb_law : Nat → Sm D
  | 0 => lam_law_0
  | 1 => lam_law_1
  | 2 => lam_law_2
  | 3 => lam_law_3
  | 4 => lam_law_4
  | 5 => lam_law_5
  | 6 => lam_law_6
  | 7 => lam_law_7
  | 8 => lam_law_8
  | _ => fun _ _ => .no
abbrev s_law_0 : Sm Out := (sAsg (gN 1) (sAlL (lift (pCons (pV 0) (pCons (pC (.d (.int 0))) (pCons (pC (.d (.int 14394))) (pCons (pC (.d (.int 0))) pNil)))))))
abbrev s_law_1 : Sm Out := (sAsg (gN 2) (sCall m__law_more (sCons (lift (pV 1)) (sCons (sCall m__law_bare (lift (pCons (pV 1) pNil))) (lift (pCons (pMk mTup pNil) (pCons (pC (.d (.int 6))) pNil)))))))
abbrev s_law_2 : Sm Out := (sIf (sOr (lift (pB (pOp (fIsNot) (pMk m_is_design (pCons (pV 2) pNil)) (pC (.d (.bool true)))))) (sB (sOp (fNe) (sCall m_with_table (lift (pCons (pV 2) (pCons (pMk mTup pNil) pNil)))) (lift (pOp fAdd (pSl fSl (pV 2) (pC none) (pPart (pC (.d (.int 4))))) (pMk mTup (pCons (pMk mTup pNil) pNil))))))) (lift (pRet (pC (.d (.bool false))))) (lift pNx))
abbrev s_law_3 : Sm Out := (sFor (gN 3) (liftI (pIt (pMk mLst (pCons (pC (.d (.str "set"))) (pCons (pC (.d (.str "sum"))) (pCons (pC (.d (.str "get"))) (pCons (pC (.d (.str "put"))) (pCons (pC (.d (.str "if"))) (pCons (pC (.d (.str "show"))) pNil))))))))) l_law_0)
abbrev s_law_4 : Sm Out := (sIf (sB (sOp (fNe) (sMk mLst (sLc (gN 10) [10] (liftI (pIt (pMk mLst (pCons (pC (.d (.str "lay"))) (pCons (pC (.d (.str "read"))) (pCons (pC (.d (.str "make"))) (pCons (pC (.d (.str "write"))) (pCons (pC (.d (.str "out"))) pNil)))))))) (lift (pC true)) l_law_1)) (lift (pMk mLst (pCons (pC (.d (.int 0))) (pCons (pC (.d (.int 1))) (pCons (pC (.d (.int 2))) (pCons (pC (.d (.int 3))) (pCons (pC (.d (.int 4))) pNil))))))))) (lift (pRet (pC (.d (.bool false))))) (lift pNx))
abbrev s_law_5 : Sm Out := (sPar2 4 5 (sCons (lift (pMk mTup (pCons (pC (.d (.str "any"))) (pCons (pC (.d (.str "get"))) (pCons (pC (.d (.str "put"))) (pCons (pC (.d (.str "read"))) (pCons (pC (.d (.str "lay"))) pNil))))))) (sCons (sCall m__law_entry (lift (pCons (pV 1) pNil))) (lift pNil))))
abbrev s_law_6 : Pm Out := (pAsg (gN 6) (pMk mLst (pCons (pC (.d .none)) (pCons (pMk mTup pNil) (pCons (pSl fSl (pV 5) (pC none) (pPart (pC (.d (.int 4))))) (pCons (pOp fAdd (pV 5) (pMk mTup (pCons (pC (.d (.str "out"))) pNil))) (pCons (pMk cLst (pCons (pV 5) pNil)) (pCons (pOp fAdd (pMk mTup (pCons (pC (.d (.str "all"))) pNil)) (pSl fSl (pV 5) (pPart (pC (.d (.int 1)))) (pC none))) (pCons (pOp fAdd (pMk mTup (pCons (pOp fIx (pV 5) (pC (.d (.int 0)))) (pCons (pC (.d (.str "add"))) pNil))) (pSl fSl (pV 5) (pPart (pC (.d (.int 2)))) (pC none))) (pCons (pOp fAdd (pSl fSl (pV 5) (pC none) (pPart (pC (.d (.int 3))))) (pMk mTup (pCons (pC (.d (.str "lay"))) (pCons (pC (.d (.str "out"))) pNil)))) pNil))))))))))
abbrev s_law_7 : Pm Out := (pAsg (gN 6) (pOp fAdd (pV 6) (pMk mLst (pCons (pOp fAdd (pSl fSl (pV 5) (pC none) (pPart (pC (.d (.int 4))))) (pMk mTup (pCons (pC (.d (.str ""))) pNil))) (pCons (pOp fAdd (pSl fSl (pV 5) (pC none) (pPart (pC (.d (.int 3))))) (pMk mTup (pCons (pC (.d (.int 4))) (pCons (pC (.d (.str "out"))) pNil)))) (pCons (pOp fAdd (pSl fSl (pV 5) (pC none) (pPart (pC (.d (.int 4))))) (pMk mTup (pCons (pC (.d .none)) pNil))) (pCons (pC (.d (.str "any"))) (pCons (pOp fMul (pMk mTup (pCons (pC (.d .none)) pNil)) (pC (.d (.int 5)))) pNil))))))))
abbrev s_law_8 : Sm Out := (sAsg (gN 7) (sOp fIx (lift (pV 6)) (sCall m__law_taken (lift (pCons (pV 1) (pCons (pMk cLen (pCons (pV 6) pNil)) pNil))))))
abbrev s_law_9 : Sm Out := (sAsg (gN 8) (sMk mLst (sCons (sLam 0) (sCons (sLam 1) (lift pNil)))))
abbrev s_law_10 : Sm Out := (sIf (sOr (lift (pB (pOp (fIsNot) (pMk m_is_entry (pCons (pV 7) pNil)) (pC (.d (.bool false)))))) (sOr (sB (sOp (fNe) (sHi m__law_wrong lb_law (sOp fIx (lift (pV 8)) (sCall m__law_taken (lift (pCons (pV 1) (pCons (pC (.d (.int 2))) pNil)))))) (lift (pC (.d (.str "entry")))))) (lift (pB (pOp (fIsNot) (pMk m_is_entry (pCons (pV 5) pNil)) (pC (.d (.bool true)))))))) (lift (pRet (pC (.d (.bool false))))) (lift pNx))
abbrev s_law_11 : Pm Out := (pAsg (gN 6) (pMk mLst (pCons (pC (.d .none)) (pCons (pMk mLst pNil) (pCons (pMk mTup (pCons (pV 7) pNil)) (pCons (pMk mTup (pCons (pV 4) (pCons (pV 4) pNil))) (pCons (pMk mTup (pCons (pV 4) (pCons (pMk mTup (pCons (pC (.d (.str "any"))) (pCons (pC (.d (.str "get"))) (pCons (pC (.d (.str "put"))) (pCons (pC (.d (.str "make"))) (pCons (pC (.d (.str "lay"))) pNil)))))) pNil))) (pCons (pMk mTup (pCons (pMk mTup (pCons (pC (.d (.str "any"))) (pCons (pC (.d (.str "set"))) (pCons (pC (.d (.str "set"))) (pCons (pC (.d (.str "out"))) (pCons (pC (.d (.str "out"))) pNil)))))) (pCons (pV 4) pNil))) pNil))))))))
abbrev s_law_12 : Sm Out := (sAsg (gN 9) (sOp fIx (lift (pV 6)) (sCall m__law_taken (lift (pCons (pV 1) (pCons (pC (.d (.int 6))) pNil))))))
abbrev s_law_13 : Sm Out := (sIf (sOr (lift (pB (pOp (fIsNot) (pMk m_is_design (pCons (pOp fAdd (pSl fSl (pV 2) (pC none) (pPart (pC (.d (.int 4))))) (pMk mTup (pCons (pV 9) pNil))) pNil)) (pC (.d (.bool false)))))) (sB (sOp (fNe) (sHi m__law_wrong lb_law (sLam 2)) (lift (pC (.d (.str "table"))))))) (lift (pRet (pC (.d (.bool false))))) (lift pNx))
abbrev s_law_14 : Pm Out := (pAsg (gN 6) (pMk mLst (pCons (pC (.d .none)) (pCons (pMk mTup pNil) (pCons (pSl fSl (pV 2) (pC none) (pPart (pC (.d (.int 4))))) (pCons (pMk cLst (pCons (pV 2) pNil)) (pCons (pOp fAdd (pMk mTup (pCons (pC (.d (.int 0))) pNil)) (pSl fSl (pV 2) (pPart (pC (.d (.int 1)))) (pC none))) (pCons (pOp fAdd (pMk mTup (pCons (pC (.d (.int 5))) pNil)) (pSl fSl (pV 2) (pPart (pC (.d (.int 1)))) (pC none))) (pCons (pOp fAdd (pMk mTup (pCons (pC (.d (.bool true))) pNil)) (pSl fSl (pV 2) (pPart (pC (.d (.int 1)))) (pC none))) (pCons (pOp fAdd (pOp fAdd (pSl fSl (pV 2) (pC none) (pPart (pC (.d (.int 1))))) (pMk mTup (pCons (pC (.d (.int 1))) pNil))) (pSl fSl (pV 2) (pPart (pC (.d (.int 2)))) (pC none))) pNil))))))))))
abbrev s_law_15 : Pm Out := (pAsg (gN 6) (pOp fAdd (pV 6) (pMk mLst (pCons (pOp fAdd (pOp fAdd (pSl fSl (pV 2) (pC none) (pPart (pC (.d (.int 2))))) (pMk mTup (pCons (pC (.d .none)) pNil))) (pSl fSl (pV 2) (pPart (pC (.d (.int 3)))) (pC none))) (pCons (pOp fAdd (pOp fAdd (pSl fSl (pV 2) (pC none) (pPart (pC (.d (.int 3))))) (pMk mTup (pCons (pMk mTup (pCons (pC (.d (.str "out"))) (pCons (pC (.d (.str "out"))) pNil))) pNil))) (pSl fSl (pV 2) (pPart (pC (.d (.int 4)))) (pC none))) (pCons (pOp fAdd (pV 2) (pMk mTup (pCons (pMk mTup pNil) pNil))) pNil))))))
abbrev s_law_16 : Pm Out := (pAsg (gN 6) (pOp fAdd (pV 6) (pMk mLst (pCons (pOp fAdd (pOp fAdd (pSl fSl (pV 2) (pC none) (pPart (pC (.d (.int 3))))) (pMk mTup (pCons (pMk mTup (pCons (pC (.d (.str "out"))) (pCons (pC (.d (.str "make"))) (pCons (pC (.d (.str "out"))) pNil)))) pNil))) (pSl fSl (pV 2) (pPart (pC (.d (.int 4)))) (pC none))) (pCons (pOp fAdd (pOp fAdd (pSl fSl (pV 2) (pC none) (pPart (pC (.d (.int 3))))) (pMk mTup (pCons (pOp fMul (pMk mLst (pCons (pC (.d (.str "out"))) pNil)) (pC (.d (.int 3)))) pNil))) (pSl fSl (pV 2) (pPart (pC (.d (.int 4)))) (pC none))) pNil)))))
abbrev s_law_17 : Sm Out := (sAsg (gN 7) (sOp fIx (lift (pV 6)) (sCall m__law_taken (lift (pCons (pV 1) (pCons (pMk cLen (pCons (pV 6) pNil)) pNil))))))
abbrev s_law_18 : Sm Out := (sAsg (gN 8) (sMk mLst (sCons (sLam 3) (sCons (sLam 4) (sCons (sLam 5) (sCons (sLam 6) (lift pNil)))))))
abbrev s_law_19 : Sm Out := (sIf (sOr (lift (pB (pOp (fIsNot) (pMk m_is_design (pCons (pV 7) pNil)) (pC (.d (.bool false)))))) (sB (sOp (fNe) (sHi m__law_wrong lb_law (sOp fIx (lift (pV 8)) (sCall m__law_taken (lift (pCons (pV 1) (pCons (pC (.d (.int 4))) pNil)))))) (lift (pC (.d (.str "design"))))))) (lift (pRet (pC (.d (.bool false))))) (lift pNx))
abbrev s_law_20 : Sm Out := (sIf (sB (sOp (fNe) (sHi m__law_wrong lb_law (sLam 7)) (lift (pC (.d (.str "kind")))))) (lift (pRet (pC (.d (.bool false))))) (lift pNx))
abbrev s_law_21 : Sm Out := (sRet (sOp (fEq) (sHi m__law_wrong lb_law (sLam 8)) (lift (pC (.d (.str "event"))))))
def b_law : Sm Out := (sSeq s_law_0 (sSeq s_law_1 (sSeq s_law_2 (sSeq s_law_3 (sSeq s_law_4 (sSeq s_law_5 (sSeq (lift s_law_6) (sSeq (lift s_law_7) (sSeq s_law_8 (sSeq s_law_9 (sSeq s_law_10 (sSeq (lift s_law_11) (sSeq s_law_12 (sSeq s_law_13 (sSeq (lift s_law_14) (sSeq (lift s_law_15) (sSeq (lift s_law_16) (sSeq s_law_17 (sSeq s_law_18 (sSeq s_law_19 (sSeq s_law_20 s_law_21)))))))))))))))))))))
theorem ok_law (T : Tp P K mg) {f : Addr} {oc kV doc pm cdv ct : Value} {od an : Option Addr} {osl : Array (Option Value)} {lc Pt : Addr} (hlc : cdv = .ref lc) (TB : LamX.TabB base mg lc Pt) (lk : K.lookup f = some ⟨oc, od, .func (PySem.W.fnOf "law" "law" (defArgs (top 49)) (defBody (top 49)) (defScope (top 49)) .none kV doc pm an cdv ct), osl⟩) (hcd : PySem.W.codeIn K cdv "law" = true) (hfin : ∀ (ns : List Int), ns.length ≤ 63 → ∃ t, b_law (startE 11 1 [.sc ns]) [] = .ok (.rt (.d (.bool true))) t) :
    FnOk P w K mg base CX0 9 f (PySem.W.fnOf "law" "law" (defArgs (top 49)) (defBody (top 49)) (defScope (top 49)) .none kV doc pm an cdv ct) ["_law_script"] (spLawT [(Pt, ("law.<locals>.<lambda>" : Str))] K) := by
  subst hlc
  refine ok_lawN (N := ["_law_script", "_law_row", "_law_design", "_law_kind", "_law_first", "_law_entry_here", "_law_odd", "_law_bad", "_law_works", "_law_table", "_law_event"]) (k := 8) (lams := lams_law) lk hcd ⟨rfl, rfl, rfl, by decide +kernel, rfl, by decide +kernel, by decide +kernel⟩ (fun A outer s H E Wf => ?_) hfin
  · have im : (siLaw mg [(Pt, ("law.<locals>.<lambda>" : Str))] "law.<locals>.<lambda>" (PySem.cellsFrom (s.heap.objs.size + 1) (defScope (top 49)).names []) lams_law).mg = mg := rfl
    have hlam : ∀ i n params body scope, lams_law n = some (params, body, scope) → LamP (bodyX P w K mg base ["_law_script", "_law_row", "_law_design", "_law_kind", "_law_first", "_law_entry_here", "_law_odd", "_law_bad", "_law_works", "_law_table", "_law_event"] "law" (top 49) f (.ref lc) A outer s H E i).N (bodyX P w K mg base ["_law_script", "_law_row", "_law_design", "_law_kind", "_law_first", "_law_entry_here", "_law_odd", "_law_bad", "_law_works", "_law_table", "_law_event"] "law" (top 49) f (.ref lc) A outer s H E i).env.scope scope ∧ LamB (bodyX P w K mg base ["_law_script", "_law_row", "_law_design", "_law_kind", "_law_first", "_law_entry_here", "_law_odd", "_law_bad", "_law_works", "_law_table", "_law_event"] "law" (top 49) f (.ref lc) A outer s H E i) params body scope ∧ ∀ (f2 c2 : Addr) (E2 : XK) (A2 : Around) (outer2 : List PySem.Env) (s2 : Shared) (H2 : Hp), Fm P w K mg base 6 ["_law_script", "_law_row", "_law_design", "_law_kind", "_law_first", "_law_entry_here", "_law_odd", "_law_bad", "_law_works", "_law_table", "_law_event"] (fun _ : Unit => LamX.lamCx (bodyX P w K mg base ["_law_script", "_law_row", "_law_design", "_law_kind", "_law_first", "_law_entry_here", "_law_odd", "_law_bad", "_law_works", "_law_table", "_law_event"] "law" (top 49) f (.ref lc) A outer s H E i) A2 outer2 s2 H2 E2 scope f2 c2) → (∀ u, Takes ((fun _ : Unit => LamX.lamCx (bodyX P w K mg base ["_law_script", "_law_row", "_law_design", "_law_kind", "_law_first", "_law_entry_here", "_law_odd", "_law_bad", "_law_works", "_law_table", "_law_event"] "law" (top 49) f (.ref lc) A outer s H E i) A2 outer2 s2 H2 E2 scope f2 c2) u) (fun cls d _ H => E2 cls d H)) → DE (siLaw mg [(Pt, ("law.<locals>.<lambda>" : Str))] "law.<locals>.<lambda>" (PySem.cellsFrom (s.heap.objs.size + 1) (defScope (top 49)).names []) lams_law) K (fun cls d _ H => E2 cls d H) (fun _ : Unit => LamX.lamCx (bodyX P w K mg base ["_law_script", "_law_row", "_law_design", "_law_kind", "_law_first", "_law_entry_here", "_law_odd", "_law_bad", "_law_works", "_law_table", "_law_event"] "law" (top 49) f (.ref lc) A outer s H E i) A2 outer2 s2 H2 E2 scope f2 c2) body (lb_law n) := by
      intro i n params body scope h
      match n, h with
      | 0, h =>
        cases (show some (_, _, _) = some (params, body, scope) from h)
        exact ⟨lamP_by (by kernel_rfl), lamb_0 (fun q cl doc pm cd1 ctv => rfl) rfl, fun f2 c2 E2 A2 outer2 s2 H2 Wl tl => (de_callS Wl tl im (g_may_hold T) (by decide) (qa_cons (qe_v 7) qa_nil))⟩
      | 1, h =>
        cases (show some (_, _, _) = some (params, body, scope) from h)
        exact ⟨lamP_by (by kernel_rfl), lamb_1 (x := "_law_a") rfl (fun q cl doc pm cd1 ctv T => ⟨_, rfl, fun v => rfl⟩) rfl, fun f2 c2 E2 A2 outer2 s2 H2 Wl tl => (de_callS Wl tl im (g_is_forced T) (by decide) (qa_cons (qe_v 2) (qa_cons (qe_v 7) qa_nil)))⟩
      | 2, h =>
        cases (show some (_, _, _) = some (params, body, scope) from h)
        exact ⟨lamP_by (by kernel_rfl), lamb_0 (fun q cl doc pm cd1 ctv => rfl) rfl, fun f2 c2 E2 A2 outer2 s2 H2 Wl tl => (de_callS Wl tl im (g_with_table T) (by decide) (qa_cons (qe_v 2) (qa_cons (qe_v 9) qa_nil)))⟩
      | 3, h =>
        cases (show some (_, _, _) = some (params, body, scope) from h)
        exact ⟨lamP_by (by kernel_rfl), lamb_0 (fun q cl doc pm cd1 ctv => rfl) rfl, fun f2 c2 E2 A2 outer2 s2 H2 Wl tl => (de_callS Wl tl im (g_home_of T) (by decide) (qa_cons (qe_v 7) (qa_cons qe_str qa_nil)))⟩
      | 4, h =>
        cases (show some (_, _, _) = some (params, body, scope) from h)
        exact ⟨lamP_by (by kernel_rfl), lamb_1 (x := "_law_a") rfl (fun q cl doc pm cd1 ctv T => ⟨_, rfl, fun v => rfl⟩) rfl, fun f2 c2 E2 A2 outer2 s2 H2 Wl tl => (de_callS Wl tl im (g_with_table T) (by decide) (qa_cons (qe_v 7) (qa_cons qe_non qa_nil)))⟩
      | 5, h =>
        cases (show some (_, _, _) = some (params, body, scope) from h)
        exact ⟨lamP_by (by kernel_rfl), lamb_1 (x := "_law_b") rfl (fun q cl doc pm cd1 ctv T => ⟨_, rfl, fun v => rfl⟩) rfl, fun f2 c2 E2 A2 outer2 s2 H2 Wl tl => (de_callS Wl tl im (g_needs T) (by decide) (qa_cons (qe_v 7) qa_nil))⟩
      | 6, h =>
        cases (show some (_, _, _) = some (params, body, scope) from h)
        exact ⟨lamP_by (by kernel_rfl), lamb_1 (x := "_law_c") rfl (fun q cl doc pm cd1 ctv T => ⟨_, rfl, fun v => rfl⟩) rfl, fun f2 c2 E2 A2 outer2 s2 H2 Wl tl => (de_callS Wl tl im (g_is_forced T) (by decide) (qa_cons (qe_v 7) (qa_cons qe_non qa_nil)))⟩
      | 7, h =>
        cases (show some (_, _, _) = some (params, body, scope) from h)
        exact ⟨lamP_by (by kernel_rfl), lamb_0 (fun q cl doc pm cd1 ctv => rfl) rfl, fun f2 c2 E2 A2 outer2 s2 H2 Wl tl => (de_callS Wl tl im (g_home_of T) (by decide) (da_cons (qe_v 2) (da_cons (de_callS Wl tl im (g__law_pick T) (by decide) (qa_cons (qe_v 1) (qa_cons (qe_lst (qa_cons qe_non (qa_cons qe_str (qa_cons qe_str (qa_cons qe_int (qa_cons (qe_tup (qa_cons qe_str qa_nil)) qa_nil)))))) qa_nil))) qa_nil)))⟩
      | 8, h =>
        cases (show some (_, _, _) = some (params, body, scope) from h)
        exact ⟨lamP_by (by kernel_rfl), lamb_0 (fun q cl doc pm cd1 ctv => rfl) rfl, fun f2 c2 E2 A2 outer2 s2 H2 Wl tl => (de_callS Wl tl im (g_event_number T) (by decide) (da_cons (de_callS Wl tl im (g__law_pick T) (by decide) (qa_cons (qe_v 1) (qa_cons (qe_lst (qa_cons qe_non (qa_cons qe_str (qa_cons qe_str (qa_cons qe_int (qa_cons (qe_tup (qa_cons qe_str qa_nil)) (qa_cons qe_str qa_nil))))))) qa_nil))) qa_nil))⟩
      | n + 9, h => cases (show none = some (params, body, scope) from h)
    exact (dss_cons (ds_asg (de_allocL (qa_cons (qe_v 0) (qa_cons qe_int (qa_cons qe_int (qa_cons qe_int qa_nil))))) (dg_n Wf 1)) (dss_cons (ds_asg (de_callS Wf (fun _ => takes_f) im (g__law_more T) (by decide) (da_cons (qe_v 1) (da_cons (de_callS Wf (fun _ => takes_f) im (g__law_bare T) (by decide) (qa_cons (qe_v 1) qa_nil)) (qa_cons (qe_tup qa_nil) (qa_cons qe_int qa_nil))))) (dg_n Wf 2)) (dss_cons (ds_if (dw_pt (dw_or (qt_cmp (o_isnot Wf) (qe_call Wf (g_is_design T) (by decide) (qa_cons (qe_v 2) qa_nil)) qe_bl) (dw_or1 (dt_cmp (o_ne Wf) (de_callS Wf (fun _ => takes_f) im (g_with_table T) (by decide) (qa_cons (qe_v 2) (qa_cons (qe_tup qa_nil) qa_nil))) (qe_op (o_add Wf) (qe_slice (o_sl Wf) (qe_v 2) qo_none (qo_some qe_int)) (qe_tup (qa_cons (qe_tup qa_nil) qa_nil))))))) (qss_one (qs_ret qe_bl)) qss_nil) (dss_cons (ds_for Wf (qi_seq Wf (qe_lst (qa_cons qe_str (qa_cons qe_str (qa_cons qe_str (qa_cons qe_str (qa_cons qe_str (qa_cons qe_str qa_nil)))))))) (dg_n Wf 3) (dss_one (ds_if (dt_not (dt_val (de_call Wf (g__law_alike T) (by decide) (da_cons (de_callS Wf (fun _ => takes_f) im (g_home_of T) (by decide) (qa_cons (qe_v 2) (qa_cons (qe_v 3) qa_nil))) (qa_cons (qe_call Wf (g__law_home T) (by decide) (qa_cons (qe_v 2) (qa_cons (qe_v 3) qa_nil))) qa_nil))))) (qss_one (qs_ret qe_bl)) qss_nil))) (dss_cons (ds_if (dt_cmp (o_ne Wf) (de_lc [("_law_event", 10)] Wf (fun _ => blkOk_by (by kernel_rfl)) (qi_seq Wf (qe_lst (qa_cons qe_str (qa_cons qe_str (qa_cons qe_str (qa_cons qe_str (qa_cons qe_str qa_nil))))))) (dgv_name (Wf.blk _) 10 (by decide)) qts_nil (de_callS (Wf.blk _) (fun _ => takes_f) im (g_event_number T) (by decide) (qa_cons (qe_v 10) qa_nil))) (qe_lst (qa_cons qe_int (qa_cons qe_int (qa_cons qe_int (qa_cons qe_int (qa_cons qe_int qa_nil))))))) (qss_one (qs_ret qe_bl)) qss_nil) (dss_cons (ds_par2 Wf 4 5 (by decide) (da_cons (qe_tup (qa_cons qe_str (qa_cons qe_str (qa_cons qe_str (qa_cons qe_str (qa_cons qe_str qa_nil)))))) (da_cons (de_callS Wf (fun _ => takes_f) im (g__law_entry T) (by decide) (qa_cons (qe_v 1) qa_nil)) qa_nil)) (fun _ => rfl)) (dss_cons (qs_asg (qe_lst (qa_cons qe_non (qa_cons (qe_tup qa_nil) (qa_cons (qe_slice (o_sl Wf) (qe_v 5) qo_none (qo_some qe_int)) (qa_cons (qe_op (o_add Wf) (qe_v 5) (qe_tup (qa_cons qe_str qa_nil))) (qa_cons (qe_callTy Wf (c_lst Wf) T.n_list b_list (qa_cons (qe_v 5) qa_nil)) (qa_cons (qe_op (o_add Wf) (qe_tup (qa_cons qe_str qa_nil)) (qe_slice (o_sl Wf) (qe_v 5) (qo_some qe_int) qo_none)) (qa_cons (qe_op (o_add Wf) (qe_tup (qa_cons (qe_ix (o_ix Wf) (qe_v 5) qe_int) (qa_cons qe_str qa_nil))) (qe_slice (o_sl Wf) (qe_v 5) (qo_some qe_int) qo_none)) (qa_cons (qe_op (o_add Wf) (qe_slice (o_sl Wf) (qe_v 5) qo_none (qo_some qe_int)) (qe_tup (qa_cons qe_str (qa_cons qe_str qa_nil)))) qa_nil))))))))) (dg_n Wf 6)) (dss_cons (qs_asg (qe_op (o_add Wf) (qe_v 6) (qe_lst (qa_cons (qe_op (o_add Wf) (qe_slice (o_sl Wf) (qe_v 5) qo_none (qo_some qe_int)) (qe_tup (qa_cons qe_str qa_nil))) (qa_cons (qe_op (o_add Wf) (qe_slice (o_sl Wf) (qe_v 5) qo_none (qo_some qe_int)) (qe_tup (qa_cons qe_int (qa_cons qe_str qa_nil)))) (qa_cons (qe_op (o_add Wf) (qe_slice (o_sl Wf) (qe_v 5) qo_none (qo_some qe_int)) (qe_tup (qa_cons qe_non qa_nil))) (qa_cons qe_str (qa_cons (qe_op (o_mul Wf) (qe_tup (qa_cons qe_non qa_nil)) qe_int) qa_nil))))))) (dg_n Wf 6)) (dss_cons (ds_asg (de_ix (o_ix Wf) (qe_v 6) (de_callS Wf (fun _ => takes_f) im (g__law_taken T) (by decide) (qa_cons (qe_v 1) (qa_cons (qe_callB Wf (c_len Wf) T.n_len b_len (qa_cons (qe_v 6) qa_nil)) qa_nil)))) (dg_n Wf 7)) (dss_cons (ds_asg (de_lst (da_cons (de_lam 0 Wf rfl rfl TB (fun _ => rfl) (fun _ => rfl) (fun _ => rfl) (by rfl) (fun _ => lamP_by (by kernel_rfl))) (da_cons (de_lam 1 Wf rfl rfl TB (fun _ => rfl) (fun _ => rfl) (fun _ => rfl) (by rfl) (fun _ => lamP_by (by kernel_rfl))) qa_nil))) (dg_n Wf 8)) (dss_cons (ds_if (dw_pt (dw_or (qt_cmp (o_isnot Wf) (qe_call Wf (g_is_entry T) (by decide) (qa_cons (qe_v 7) qa_nil)) qe_bl) (dw_or (dt_cmp (o_ne Wf) (de_hi Wf (fun _ => takes_f) im rfl (fun _ => rfl) (fun _ => rfl) (g__law_wrong T 7) (by decide) (by decide) (de_ix (o_ix Wf) (qe_v 8) (de_callS Wf (fun _ => takes_f) im (g__law_taken T) (by decide) (qa_cons (qe_v 1) (qa_cons qe_int qa_nil)))) hlam) qe_str) (qw_or1 (qt_cmp (o_isnot Wf) (qe_call Wf (g_is_entry T) (by decide) (qa_cons (qe_v 5) qa_nil)) qe_bl))))) (qss_one (qs_ret qe_bl)) qss_nil) (dss_cons (qs_asg (qe_lst (qa_cons qe_non (qa_cons (qe_lst qa_nil) (qa_cons (qe_tup (qa_cons (qe_v 7) qa_nil)) (qa_cons (qe_tup (qa_cons (qe_v 4) (qa_cons (qe_v 4) qa_nil))) (qa_cons (qe_tup (qa_cons (qe_v 4) (qa_cons (qe_tup (qa_cons qe_str (qa_cons qe_str (qa_cons qe_str (qa_cons qe_str (qa_cons qe_str qa_nil)))))) qa_nil))) (qa_cons (qe_tup (qa_cons (qe_tup (qa_cons qe_str (qa_cons qe_str (qa_cons qe_str (qa_cons qe_str (qa_cons qe_str qa_nil)))))) (qa_cons (qe_v 4) qa_nil))) qa_nil))))))) (dg_n Wf 6)) (dss_cons (ds_asg (de_ix (o_ix Wf) (qe_v 6) (de_callS Wf (fun _ => takes_f) im (g__law_taken T) (by decide) (qa_cons (qe_v 1) (qa_cons qe_int qa_nil)))) (dg_n Wf 9)) (dss_cons (ds_if (dw_pt (dw_or (qt_cmp (o_isnot Wf) (qe_call Wf (g_is_design T) (by decide) (qa_cons (qe_op (o_add Wf) (qe_slice (o_sl Wf) (qe_v 2) qo_none (qo_some qe_int)) (qe_tup (qa_cons (qe_v 9) qa_nil))) qa_nil)) qe_bl) (dw_or1 (dt_cmp (o_ne Wf) (de_hi Wf (fun _ => takes_f) im rfl (fun _ => rfl) (fun _ => rfl) (g__law_wrong T 7) (by decide) (by decide) (de_lam 2 Wf rfl rfl TB (fun _ => rfl) (fun _ => rfl) (fun _ => rfl) (by rfl) (fun _ => lamP_by (by kernel_rfl))) hlam) qe_str)))) (qss_one (qs_ret qe_bl)) qss_nil) (dss_cons (qs_asg (qe_lst (qa_cons qe_non (qa_cons (qe_tup qa_nil) (qa_cons (qe_slice (o_sl Wf) (qe_v 2) qo_none (qo_some qe_int)) (qa_cons (qe_callTy Wf (c_lst Wf) T.n_list b_list (qa_cons (qe_v 2) qa_nil)) (qa_cons (qe_op (o_add Wf) (qe_tup (qa_cons qe_int qa_nil)) (qe_slice (o_sl Wf) (qe_v 2) (qo_some qe_int) qo_none)) (qa_cons (qe_op (o_add Wf) (qe_tup (qa_cons qe_int qa_nil)) (qe_slice (o_sl Wf) (qe_v 2) (qo_some qe_int) qo_none)) (qa_cons (qe_op (o_add Wf) (qe_tup (qa_cons qe_bl qa_nil)) (qe_slice (o_sl Wf) (qe_v 2) (qo_some qe_int) qo_none)) (qa_cons (qe_op (o_add Wf) (qe_op (o_add Wf) (qe_slice (o_sl Wf) (qe_v 2) qo_none (qo_some qe_int)) (qe_tup (qa_cons qe_int qa_nil))) (qe_slice (o_sl Wf) (qe_v 2) (qo_some qe_int) qo_none)) qa_nil))))))))) (dg_n Wf 6)) (dss_cons (qs_asg (qe_op (o_add Wf) (qe_v 6) (qe_lst (qa_cons (qe_op (o_add Wf) (qe_op (o_add Wf) (qe_slice (o_sl Wf) (qe_v 2) qo_none (qo_some qe_int)) (qe_tup (qa_cons qe_non qa_nil))) (qe_slice (o_sl Wf) (qe_v 2) (qo_some qe_int) qo_none)) (qa_cons (qe_op (o_add Wf) (qe_op (o_add Wf) (qe_slice (o_sl Wf) (qe_v 2) qo_none (qo_some qe_int)) (qe_tup (qa_cons (qe_tup (qa_cons qe_str (qa_cons qe_str qa_nil))) qa_nil))) (qe_slice (o_sl Wf) (qe_v 2) (qo_some qe_int) qo_none)) (qa_cons (qe_op (o_add Wf) (qe_v 2) (qe_tup (qa_cons (qe_tup qa_nil) qa_nil))) qa_nil))))) (dg_n Wf 6)) (dss_cons (qs_asg (qe_op (o_add Wf) (qe_v 6) (qe_lst (qa_cons (qe_op (o_add Wf) (qe_op (o_add Wf) (qe_slice (o_sl Wf) (qe_v 2) qo_none (qo_some qe_int)) (qe_tup (qa_cons (qe_tup (qa_cons qe_str (qa_cons qe_str (qa_cons qe_str qa_nil)))) qa_nil))) (qe_slice (o_sl Wf) (qe_v 2) (qo_some qe_int) qo_none)) (qa_cons (qe_op (o_add Wf) (qe_op (o_add Wf) (qe_slice (o_sl Wf) (qe_v 2) qo_none (qo_some qe_int)) (qe_tup (qa_cons (qe_op (o_mul Wf) (qe_lst (qa_cons qe_str qa_nil)) qe_int) qa_nil))) (qe_slice (o_sl Wf) (qe_v 2) (qo_some qe_int) qo_none)) qa_nil)))) (dg_n Wf 6)) (dss_cons (ds_asg (de_ix (o_ix Wf) (qe_v 6) (de_callS Wf (fun _ => takes_f) im (g__law_taken T) (by decide) (qa_cons (qe_v 1) (qa_cons (qe_callB Wf (c_len Wf) T.n_len b_len (qa_cons (qe_v 6) qa_nil)) qa_nil)))) (dg_n Wf 7)) (dss_cons (ds_asg (de_lst (da_cons (de_lam 3 Wf rfl rfl TB (fun _ => rfl) (fun _ => rfl) (fun _ => rfl) (by rfl) (fun _ => lamP_by (by kernel_rfl))) (da_cons (de_lam 4 Wf rfl rfl TB (fun _ => rfl) (fun _ => rfl) (fun _ => rfl) (by rfl) (fun _ => lamP_by (by kernel_rfl))) (da_cons (de_lam 5 Wf rfl rfl TB (fun _ => rfl) (fun _ => rfl) (fun _ => rfl) (by rfl) (fun _ => lamP_by (by kernel_rfl))) (da_cons (de_lam 6 Wf rfl rfl TB (fun _ => rfl) (fun _ => rfl) (fun _ => rfl) (by rfl) (fun _ => lamP_by (by kernel_rfl))) qa_nil))))) (dg_n Wf 8)) (dss_cons (ds_if (dw_pt (dw_or (qt_cmp (o_isnot Wf) (qe_call Wf (g_is_design T) (by decide) (qa_cons (qe_v 7) qa_nil)) qe_bl) (dw_or1 (dt_cmp (o_ne Wf) (de_hi Wf (fun _ => takes_f) im rfl (fun _ => rfl) (fun _ => rfl) (g__law_wrong T 7) (by decide) (by decide) (de_ix (o_ix Wf) (qe_v 8) (de_callS Wf (fun _ => takes_f) im (g__law_taken T) (by decide) (qa_cons (qe_v 1) (qa_cons qe_int qa_nil)))) hlam) qe_str)))) (qss_one (qs_ret qe_bl)) qss_nil) (dss_cons (ds_if (dt_cmp (o_ne Wf) (de_hi Wf (fun _ => takes_f) im rfl (fun _ => rfl) (fun _ => rfl) (g__law_wrong T 7) (by decide) (by decide) (de_lam 7 Wf rfl rfl TB (fun _ => rfl) (fun _ => rfl) (fun _ => rfl) (by rfl) (fun _ => lamP_by (by kernel_rfl))) hlam) qe_str) (qss_one (qs_ret qe_bl)) qss_nil) (dss_one (ds_ret (de_cmp (o_eq Wf) (de_hi Wf (fun _ => takes_f) im rfl (fun _ => rfl) (fun _ => rfl) (g__law_wrong T 7) (by decide) (by decide) (de_lam 8 Wf rfl rfl TB (fun _ => rfl) (fun _ => rfl) (fun _ => rfl) (by rfl) (fun _ => lamP_by (by kernel_rfl))) hlam) qe_str))))))))))))))))))))))))
end
end My
set_option maxRecDepth 100000
set_option maxHeartbeats 4000000
/-! into the defs -/
namespace My
open PySem L2 Dl
theorem o__law_taken {x0 x1 z : D} {t t1 : Ts} (h : b__law_taken [some x0, some x1, none, none] t = .ok (.rt z) t1) : m__law_taken [x0, x1] t = .ok z (t1.take (max t.length (Dl.top z))) := mOfS_of rfl h
theorem d__law_taken {x0 x1 : D} {z : PyData} {t t1 : Ts} (h : b__law_taken [some x0, some x1, none, none] t = .ok (.rt (.d z)) t1) {r : R D} (hl : t1.length = t.length) (e : R.ok (D.d z) t1 = r) : m__law_taken [x0, x1] t = r := (mOfS_dd rfl h hl).trans e
theorem c__law_taken {x0 x1 : D} {z : PyData} {t t1 t2 : Ts} (h : b__law_taken [some x0, some x1, none, none] t = .ok (.rt (.d z)) t1) {r : R D} (ht : t1.take t.length = t2) (e : R.ok (D.d z) t2 = r) : m__law_taken [x0, x1] t = r := (mOfS_cd rfl h ht).trans e
theorem cn__law_taken {x0 x1 : D} {t t1 t2 : Ts} {e1 : Dl.Env} (h : b__law_taken [some x0, some x1, none, none] t = .ok (.nx e1) t1) {r : R D} (ht : t1.take t.length = t2) (e : R.ok (D.d .none) t2 = r) : m__law_taken [x0, x1] t = r := (mOfS_cn rfl h ht).trans e
theorem cx__law_taken {x0 x1 : D} {t t1 t2 : Ts} {xx : Exn} (h : b__law_taken [some x0, some x1, none, none] t = .ex xx t1) {r : R D} (ht : t1.take t.length = t2) (e : R.ex xx t2 = r) : m__law_taken [x0, x1] t = r := (mOfS_cx rfl h ht).trans e
theorem n__law_taken {x0 x1 : D} {t t1 : Ts} {e1 : Dl.Env} (h : b__law_taken [some x0, some x1, none, none] t = .ok (.nx e1) t1) {r : R D} (hl : t1.length = t.length) (e : R.ok (D.d .none) t1 = r) : m__law_taken [x0, x1] t = r := (mOfS_nn rfl h hl).trans e
theorem x__law_taken {x0 x1 : D} {t t1 : Ts} {xx : Exn} (h : b__law_taken [some x0, some x1, none, none] t = .ex xx t1) {r : R D} (hl : t1.length = t.length) (e : R.ex xx t1 = r) : m__law_taken [x0, x1] t = r := (mOfS_xx rfl h hl).trans e
theorem o__law_pick {x0 x1 z : D} {t t1 : Ts} (h : b__law_pick [some x0, some x1] t = .ok (.rt z) t1) : m__law_pick [x0, x1] t = .ok z (t1.take (max t.length (Dl.top z))) := mOfS_of rfl h
theorem d__law_pick {x0 x1 : D} {z : PyData} {t t1 : Ts} (h : b__law_pick [some x0, some x1] t = .ok (.rt (.d z)) t1) {r : R D} (hl : t1.length = t.length) (e : R.ok (D.d z) t1 = r) : m__law_pick [x0, x1] t = r := (mOfS_dd rfl h hl).trans e
theorem c__law_pick {x0 x1 : D} {z : PyData} {t t1 t2 : Ts} (h : b__law_pick [some x0, some x1] t = .ok (.rt (.d z)) t1) {r : R D} (ht : t1.take t.length = t2) (e : R.ok (D.d z) t2 = r) : m__law_pick [x0, x1] t = r := (mOfS_cd rfl h ht).trans e
theorem cn__law_pick {x0 x1 : D} {t t1 t2 : Ts} {e1 : Dl.Env} (h : b__law_pick [some x0, some x1] t = .ok (.nx e1) t1) {r : R D} (ht : t1.take t.length = t2) (e : R.ok (D.d .none) t2 = r) : m__law_pick [x0, x1] t = r := (mOfS_cn rfl h ht).trans e
theorem cx__law_pick {x0 x1 : D} {t t1 t2 : Ts} {xx : Exn} (h : b__law_pick [some x0, some x1] t = .ex xx t1) {r : R D} (ht : t1.take t.length = t2) (e : R.ex xx t2 = r) : m__law_pick [x0, x1] t = r := (mOfS_cx rfl h ht).trans e
theorem n__law_pick {x0 x1 : D} {t t1 : Ts} {e1 : Dl.Env} (h : b__law_pick [some x0, some x1] t = .ok (.nx e1) t1) {r : R D} (hl : t1.length = t.length) (e : R.ok (D.d .none) t1 = r) : m__law_pick [x0, x1] t = r := (mOfS_nn rfl h hl).trans e
theorem x__law_pick {x0 x1 : D} {t t1 : Ts} {xx : Exn} (h : b__law_pick [some x0, some x1] t = .ex xx t1) {r : R D} (hl : t1.length = t.length) (e : R.ex xx t1 = r) : m__law_pick [x0, x1] t = r := (mOfS_xx rfl h hl).trans e
theorem o__law_entry {x0 z : D} {t t1 : Ts} (h : b__law_entry [some x0, none, none, none] t = .ok (.rt z) t1) : m__law_entry [x0] t = .ok z (t1.take (max t.length (Dl.top z))) := mOfS_of rfl h
theorem d__law_entry {x0 : D} {z : PyData} {t t1 : Ts} (h : b__law_entry [some x0, none, none, none] t = .ok (.rt (.d z)) t1) {r : R D} (hl : t1.length = t.length) (e : R.ok (D.d z) t1 = r) : m__law_entry [x0] t = r := (mOfS_dd rfl h hl).trans e
theorem c__law_entry {x0 : D} {z : PyData} {t t1 t2 : Ts} (h : b__law_entry [some x0, none, none, none] t = .ok (.rt (.d z)) t1) {r : R D} (ht : t1.take t.length = t2) (e : R.ok (D.d z) t2 = r) : m__law_entry [x0] t = r := (mOfS_cd rfl h ht).trans e
theorem cn__law_entry {x0 : D} {t t1 t2 : Ts} {e1 : Dl.Env} (h : b__law_entry [some x0, none, none, none] t = .ok (.nx e1) t1) {r : R D} (ht : t1.take t.length = t2) (e : R.ok (D.d .none) t2 = r) : m__law_entry [x0] t = r := (mOfS_cn rfl h ht).trans e
theorem cx__law_entry {x0 : D} {t t1 t2 : Ts} {xx : Exn} (h : b__law_entry [some x0, none, none, none] t = .ex xx t1) {r : R D} (ht : t1.take t.length = t2) (e : R.ex xx t2 = r) : m__law_entry [x0] t = r := (mOfS_cx rfl h ht).trans e
theorem n__law_entry {x0 : D} {t t1 : Ts} {e1 : Dl.Env} (h : b__law_entry [some x0, none, none, none] t = .ok (.nx e1) t1) {r : R D} (hl : t1.length = t.length) (e : R.ok (D.d .none) t1 = r) : m__law_entry [x0] t = r := (mOfS_nn rfl h hl).trans e
theorem x__law_entry {x0 : D} {t t1 : Ts} {xx : Exn} (h : b__law_entry [some x0, none, none, none] t = .ex xx t1) {r : R D} (hl : t1.length = t.length) (e : R.ex xx t1 = r) : m__law_entry [x0] t = r := (mOfS_xx rfl h hl).trans e
theorem o__law_more {x0 x1 x2 x3 z : D} {t t1 : Ts} (h : b__law_more [some x0, some x1, some x2, some x3, none, none, none] t = .ok (.rt z) t1) : m__law_more [x0, x1, x2, x3] t = .ok z (t1.take (max t.length (Dl.top z))) := mOfS_of rfl h
theorem d__law_more {x0 x1 x2 x3 : D} {z : PyData} {t t1 : Ts} (h : b__law_more [some x0, some x1, some x2, some x3, none, none, none] t = .ok (.rt (.d z)) t1) {r : R D} (hl : t1.length = t.length) (e : R.ok (D.d z) t1 = r) : m__law_more [x0, x1, x2, x3] t = r := (mOfS_dd rfl h hl).trans e
theorem c__law_more {x0 x1 x2 x3 : D} {z : PyData} {t t1 t2 : Ts} (h : b__law_more [some x0, some x1, some x2, some x3, none, none, none] t = .ok (.rt (.d z)) t1) {r : R D} (ht : t1.take t.length = t2) (e : R.ok (D.d z) t2 = r) : m__law_more [x0, x1, x2, x3] t = r := (mOfS_cd rfl h ht).trans e
theorem cn__law_more {x0 x1 x2 x3 : D} {t t1 t2 : Ts} {e1 : Dl.Env} (h : b__law_more [some x0, some x1, some x2, some x3, none, none, none] t = .ok (.nx e1) t1) {r : R D} (ht : t1.take t.length = t2) (e : R.ok (D.d .none) t2 = r) : m__law_more [x0, x1, x2, x3] t = r := (mOfS_cn rfl h ht).trans e
theorem cx__law_more {x0 x1 x2 x3 : D} {t t1 t2 : Ts} {xx : Exn} (h : b__law_more [some x0, some x1, some x2, some x3, none, none, none] t = .ex xx t1) {r : R D} (ht : t1.take t.length = t2) (e : R.ex xx t2 = r) : m__law_more [x0, x1, x2, x3] t = r := (mOfS_cx rfl h ht).trans e
theorem n__law_more {x0 x1 x2 x3 : D} {t t1 : Ts} {e1 : Dl.Env} (h : b__law_more [some x0, some x1, some x2, some x3, none, none, none] t = .ok (.nx e1) t1) {r : R D} (hl : t1.length = t.length) (e : R.ok (D.d .none) t1 = r) : m__law_more [x0, x1, x2, x3] t = r := (mOfS_nn rfl h hl).trans e
theorem x__law_more {x0 x1 x2 x3 : D} {t t1 : Ts} {xx : Exn} (h : b__law_more [some x0, some x1, some x2, some x3, none, none, none] t = .ex xx t1) {r : R D} (hl : t1.length = t.length) (e : R.ex xx t1 = r) : m__law_more [x0, x1, x2, x3] t = r := (mOfS_xx rfl h hl).trans e
theorem o__law_bare {x0 z : D} {t t1 : Ts} (h : b__law_bare [some x0, none, none] t = .ok (.rt z) t1) : m__law_bare [x0] t = .ok z (t1.take (max t.length (Dl.top z))) := mOfS_of rfl h
theorem d__law_bare {x0 : D} {z : PyData} {t t1 : Ts} (h : b__law_bare [some x0, none, none] t = .ok (.rt (.d z)) t1) {r : R D} (hl : t1.length = t.length) (e : R.ok (D.d z) t1 = r) : m__law_bare [x0] t = r := (mOfS_dd rfl h hl).trans e
theorem c__law_bare {x0 : D} {z : PyData} {t t1 t2 : Ts} (h : b__law_bare [some x0, none, none] t = .ok (.rt (.d z)) t1) {r : R D} (ht : t1.take t.length = t2) (e : R.ok (D.d z) t2 = r) : m__law_bare [x0] t = r := (mOfS_cd rfl h ht).trans e
theorem cn__law_bare {x0 : D} {t t1 t2 : Ts} {e1 : Dl.Env} (h : b__law_bare [some x0, none, none] t = .ok (.nx e1) t1) {r : R D} (ht : t1.take t.length = t2) (e : R.ok (D.d .none) t2 = r) : m__law_bare [x0] t = r := (mOfS_cn rfl h ht).trans e
theorem cx__law_bare {x0 : D} {t t1 t2 : Ts} {xx : Exn} (h : b__law_bare [some x0, none, none] t = .ex xx t1) {r : R D} (ht : t1.take t.length = t2) (e : R.ex xx t2 = r) : m__law_bare [x0] t = r := (mOfS_cx rfl h ht).trans e
theorem n__law_bare {x0 : D} {t t1 : Ts} {e1 : Dl.Env} (h : b__law_bare [some x0, none, none] t = .ok (.nx e1) t1) {r : R D} (hl : t1.length = t.length) (e : R.ok (D.d .none) t1 = r) : m__law_bare [x0] t = r := (mOfS_nn rfl h hl).trans e
theorem x__law_bare {x0 : D} {t t1 : Ts} {xx : Exn} (h : b__law_bare [some x0, none, none] t = .ex xx t1) {r : R D} (hl : t1.length = t.length) (e : R.ex xx t1 = r) : m__law_bare [x0] t = r := (mOfS_xx rfl h hl).trans e
theorem o_is_list {x0 x1 x2 z w : D} (h : b_is_list [some x0, some x1, some x2] = some (.rt z)) (e : z = w) : m_is_list [x0, x1, x2] = some w := (mOf_of rfl h).trans (congrArg some e)
theorem o_is_kind {x0 z w : D} (h : b_is_kind [some x0] = some (.rt z)) (e : z = w) : m_is_kind [x0] = some w := (mOf_of rfl h).trans (congrArg some e)
theorem o_is_event {x0 z w : D} (h : b_is_event [some x0] = some (.rt z)) (e : z = w) : m_is_event [x0] = some w := (mOf_of rfl h).trans (congrArg some e)
theorem o_is_entry {x0 z w : D} (h : b_is_entry [some x0] = some (.rt z)) (e : z = w) : m_is_entry [x0] = some w := (mOf_of rfl h).trans (congrArg some e)
theorem o_is_table {x0 z w : D} (h : b_is_table [some x0, none, none] = some (.rt z)) (e : z = w) : m_is_table [x0] = some w := (mOf_of rfl h).trans (congrArg some e)
theorem o_is_integer {x0 z w : D} (h : b_is_integer [some x0] = some (.rt z)) (e : z = w) : m_is_integer [x0] = some w := (mOf_of rfl h).trans (congrArg some e)
theorem o_is_in {x0 x1 x2 z w : D} (h : b_is_in [some x0, some x1, some x2] = some (.rt z)) (e : z = w) : m_is_in [x0, x1, x2] = some w := (mOf_of rfl h).trans (congrArg some e)
theorem o_is_design {x0 z w : D} (h : b_is_design [some x0, none] = some (.rt z)) (e : z = w) : m_is_design [x0] = some w := (mOf_of rfl h).trans (congrArg some e)
theorem o_need_design {x0 z : D} {t t1 : Ts} (h : b_need_design [some x0] t = .ok (.rt z) t1) : m_need_design [x0] t = .ok z (t1.take (max t.length (Dl.top z))) := mOfS_of rfl h
theorem d_need_design {x0 : D} {z : PyData} {t t1 : Ts} (h : b_need_design [some x0] t = .ok (.rt (.d z)) t1) {r : R D} (hl : t1.length = t.length) (e : R.ok (D.d z) t1 = r) : m_need_design [x0] t = r := (mOfS_dd rfl h hl).trans e
theorem c_need_design {x0 : D} {z : PyData} {t t1 t2 : Ts} (h : b_need_design [some x0] t = .ok (.rt (.d z)) t1) {r : R D} (ht : t1.take t.length = t2) (e : R.ok (D.d z) t2 = r) : m_need_design [x0] t = r := (mOfS_cd rfl h ht).trans e
theorem cn_need_design {x0 : D} {t t1 t2 : Ts} {e1 : Dl.Env} (h : b_need_design [some x0] t = .ok (.nx e1) t1) {r : R D} (ht : t1.take t.length = t2) (e : R.ok (D.d .none) t2 = r) : m_need_design [x0] t = r := (mOfS_cn rfl h ht).trans e
theorem cx_need_design {x0 : D} {t t1 t2 : Ts} {xx : Exn} (h : b_need_design [some x0] t = .ex xx t1) {r : R D} (ht : t1.take t.length = t2) (e : R.ex xx t2 = r) : m_need_design [x0] t = r := (mOfS_cx rfl h ht).trans e
theorem n_need_design {x0 : D} {t t1 : Ts} {e1 : Dl.Env} (h : b_need_design [some x0] t = .ok (.nx e1) t1) {r : R D} (hl : t1.length = t.length) (e : R.ok (D.d .none) t1 = r) : m_need_design [x0] t = r := (mOfS_nn rfl h hl).trans e
theorem x_need_design {x0 : D} {t t1 : Ts} {xx : Exn} (h : b_need_design [some x0] t = .ex xx t1) {r : R D} (hl : t1.length = t.length) (e : R.ex xx t1 = r) : m_need_design [x0] t = r := (mOfS_xx rfl h hl).trans e
theorem o_with_table {x0 x1 z : D} {t t1 : Ts} (h : b_with_table [some x0, some x1] t = .ok (.rt z) t1) : m_with_table [x0, x1] t = .ok z (t1.take (max t.length (Dl.top z))) := mOfS_of rfl h
theorem d_with_table {x0 x1 : D} {z : PyData} {t t1 : Ts} (h : b_with_table [some x0, some x1] t = .ok (.rt (.d z)) t1) {r : R D} (hl : t1.length = t.length) (e : R.ok (D.d z) t1 = r) : m_with_table [x0, x1] t = r := (mOfS_dd rfl h hl).trans e
theorem c_with_table {x0 x1 : D} {z : PyData} {t t1 t2 : Ts} (h : b_with_table [some x0, some x1] t = .ok (.rt (.d z)) t1) {r : R D} (ht : t1.take t.length = t2) (e : R.ok (D.d z) t2 = r) : m_with_table [x0, x1] t = r := (mOfS_cd rfl h ht).trans e
theorem cn_with_table {x0 x1 : D} {t t1 t2 : Ts} {e1 : Dl.Env} (h : b_with_table [some x0, some x1] t = .ok (.nx e1) t1) {r : R D} (ht : t1.take t.length = t2) (e : R.ok (D.d .none) t2 = r) : m_with_table [x0, x1] t = r := (mOfS_cn rfl h ht).trans e
theorem cx_with_table {x0 x1 : D} {t t1 t2 : Ts} {xx : Exn} (h : b_with_table [some x0, some x1] t = .ex xx t1) {r : R D} (ht : t1.take t.length = t2) (e : R.ex xx t2 = r) : m_with_table [x0, x1] t = r := (mOfS_cx rfl h ht).trans e
theorem n_with_table {x0 x1 : D} {t t1 : Ts} {e1 : Dl.Env} (h : b_with_table [some x0, some x1] t = .ok (.nx e1) t1) {r : R D} (hl : t1.length = t.length) (e : R.ok (D.d .none) t1 = r) : m_with_table [x0, x1] t = r := (mOfS_nn rfl h hl).trans e
theorem x_with_table {x0 x1 : D} {t t1 : Ts} {xx : Exn} (h : b_with_table [some x0, some x1] t = .ex xx t1) {r : R D} (hl : t1.length = t.length) (e : R.ex xx t1 = r) : m_with_table [x0, x1] t = r := (mOfS_xx rfl h hl).trans e
theorem o_number_of {x0 z w : D} (h : b_number_of [some x0] = some (.rt z)) (e : z = w) : m_number_of [x0] = some w := (mOf_of rfl h).trans (congrArg some e)
theorem o_event_number {x0 z : D} {t t1 : Ts} (h : b_event_number [some x0] t = .ok (.rt z) t1) : m_event_number [x0] t = .ok z (t1.take (max t.length (Dl.top z))) := mOfS_of rfl h
theorem d_event_number {x0 : D} {z : PyData} {t t1 : Ts} (h : b_event_number [some x0] t = .ok (.rt (.d z)) t1) {r : R D} (hl : t1.length = t.length) (e : R.ok (D.d z) t1 = r) : m_event_number [x0] t = r := (mOfS_dd rfl h hl).trans e
theorem c_event_number {x0 : D} {z : PyData} {t t1 t2 : Ts} (h : b_event_number [some x0] t = .ok (.rt (.d z)) t1) {r : R D} (ht : t1.take t.length = t2) (e : R.ok (D.d z) t2 = r) : m_event_number [x0] t = r := (mOfS_cd rfl h ht).trans e
theorem cn_event_number {x0 : D} {t t1 t2 : Ts} {e1 : Dl.Env} (h : b_event_number [some x0] t = .ok (.nx e1) t1) {r : R D} (ht : t1.take t.length = t2) (e : R.ok (D.d .none) t2 = r) : m_event_number [x0] t = r := (mOfS_cn rfl h ht).trans e
theorem cx_event_number {x0 : D} {t t1 t2 : Ts} {xx : Exn} (h : b_event_number [some x0] t = .ex xx t1) {r : R D} (ht : t1.take t.length = t2) (e : R.ex xx t2 = r) : m_event_number [x0] t = r := (mOfS_cx rfl h ht).trans e
theorem n_event_number {x0 : D} {t t1 : Ts} {e1 : Dl.Env} (h : b_event_number [some x0] t = .ok (.nx e1) t1) {r : R D} (hl : t1.length = t.length) (e : R.ok (D.d .none) t1 = r) : m_event_number [x0] t = r := (mOfS_nn rfl h hl).trans e
theorem x_event_number {x0 : D} {t t1 : Ts} {xx : Exn} (h : b_event_number [some x0] t = .ex xx t1) {r : R D} (hl : t1.length = t.length) (e : R.ex xx t1 = r) : m_event_number [x0] t = r := (mOfS_xx rfl h hl).trans e
theorem o_need_entry {x0 z : D} {t t1 : Ts} (h : b_need_entry [some x0] t = .ok (.rt z) t1) : m_need_entry [x0] t = .ok z (t1.take (max t.length (Dl.top z))) := mOfS_of rfl h
theorem d_need_entry {x0 : D} {z : PyData} {t t1 : Ts} (h : b_need_entry [some x0] t = .ok (.rt (.d z)) t1) {r : R D} (hl : t1.length = t.length) (e : R.ok (D.d z) t1 = r) : m_need_entry [x0] t = r := (mOfS_dd rfl h hl).trans e
theorem c_need_entry {x0 : D} {z : PyData} {t t1 t2 : Ts} (h : b_need_entry [some x0] t = .ok (.rt (.d z)) t1) {r : R D} (ht : t1.take t.length = t2) (e : R.ok (D.d z) t2 = r) : m_need_entry [x0] t = r := (mOfS_cd rfl h ht).trans e
theorem cn_need_entry {x0 : D} {t t1 t2 : Ts} {e1 : Dl.Env} (h : b_need_entry [some x0] t = .ok (.nx e1) t1) {r : R D} (ht : t1.take t.length = t2) (e : R.ok (D.d .none) t2 = r) : m_need_entry [x0] t = r := (mOfS_cn rfl h ht).trans e
theorem cx_need_entry {x0 : D} {t t1 t2 : Ts} {xx : Exn} (h : b_need_entry [some x0] t = .ex xx t1) {r : R D} (ht : t1.take t.length = t2) (e : R.ex xx t2 = r) : m_need_entry [x0] t = r := (mOfS_cx rfl h ht).trans e
theorem n_need_entry {x0 : D} {t t1 : Ts} {e1 : Dl.Env} (h : b_need_entry [some x0] t = .ok (.nx e1) t1) {r : R D} (hl : t1.length = t.length) (e : R.ok (D.d .none) t1 = r) : m_need_entry [x0] t = r := (mOfS_nn rfl h hl).trans e
theorem x_need_entry {x0 : D} {t t1 : Ts} {xx : Exn} (h : b_need_entry [some x0] t = .ex xx t1) {r : R D} (hl : t1.length = t.length) (e : R.ex xx t1 = r) : m_need_entry [x0] t = r := (mOfS_xx rfl h hl).trans e
theorem o_can_hold {x0 z w : D} (h : b_can_hold [some x0, none, none, none] = some (.rt z)) (e : z = w) : m_can_hold [x0] = some w := (mOf_of rfl h).trans (congrArg some e)
theorem o_may_hold {x0 z : D} {t t1 : Ts} (h : b_may_hold [some x0] t = .ok (.rt z) t1) : m_may_hold [x0] t = .ok z (t1.take (max t.length (Dl.top z))) := mOfS_of rfl h
theorem d_may_hold {x0 : D} {z : PyData} {t t1 : Ts} (h : b_may_hold [some x0] t = .ok (.rt (.d z)) t1) {r : R D} (hl : t1.length = t.length) (e : R.ok (D.d z) t1 = r) : m_may_hold [x0] t = r := (mOfS_dd rfl h hl).trans e
theorem c_may_hold {x0 : D} {z : PyData} {t t1 t2 : Ts} (h : b_may_hold [some x0] t = .ok (.rt (.d z)) t1) {r : R D} (ht : t1.take t.length = t2) (e : R.ok (D.d z) t2 = r) : m_may_hold [x0] t = r := (mOfS_cd rfl h ht).trans e
theorem cn_may_hold {x0 : D} {t t1 t2 : Ts} {e1 : Dl.Env} (h : b_may_hold [some x0] t = .ok (.nx e1) t1) {r : R D} (ht : t1.take t.length = t2) (e : R.ok (D.d .none) t2 = r) : m_may_hold [x0] t = r := (mOfS_cn rfl h ht).trans e
theorem cx_may_hold {x0 : D} {t t1 t2 : Ts} {xx : Exn} (h : b_may_hold [some x0] t = .ex xx t1) {r : R D} (ht : t1.take t.length = t2) (e : R.ex xx t2 = r) : m_may_hold [x0] t = r := (mOfS_cx rfl h ht).trans e
theorem n_may_hold {x0 : D} {t t1 : Ts} {e1 : Dl.Env} (h : b_may_hold [some x0] t = .ok (.nx e1) t1) {r : R D} (hl : t1.length = t.length) (e : R.ok (D.d .none) t1 = r) : m_may_hold [x0] t = r := (mOfS_nn rfl h hl).trans e
theorem x_may_hold {x0 : D} {t t1 : Ts} {xx : Exn} (h : b_may_hold [some x0] t = .ex xx t1) {r : R D} (hl : t1.length = t.length) (e : R.ex xx t1 = r) : m_may_hold [x0] t = r := (mOfS_xx rfl h hl).trans e
theorem o_holds_always {x0 x1 x2 z w : D} (h : b_holds_always [some x0, some x1, some x2] = some (.rt z)) (e : z = w) : m_holds_always [x0, x1, x2] = some w := (mOf_of rfl h).trans (congrArg some e)
theorem o_forces {x0 x1 z w : D} (h : b_forces [some x0, some x1, none, none, none, none] = some (.rt z)) (e : z = w) : m_forces [x0, x1] = some w := (mOf_of rfl h).trans (congrArg some e)
theorem o_forced_by_table {x0 x1 z w : D} (h : b_forced_by_table [some x0, some x1, none] = some (.rt z)) (e : z = w) : m_forced_by_table [x0, x1] = some w := (mOf_of rfl h).trans (congrArg some e)
theorem o_forced_in {x0 x1 z w : D} (h : b_forced_in [some x0, some x1] = some (.rt z)) (e : z = w) : m_forced_in [x0, x1] = some w := (mOf_of rfl h).trans (congrArg some e)
theorem o_is_forced {x0 x1 z : D} {t t1 : Ts} (h : b_is_forced [some x0, some x1] t = .ok (.rt z) t1) : m_is_forced [x0, x1] t = .ok z (t1.take (max t.length (Dl.top z))) := mOfS_of rfl h
theorem d_is_forced {x0 x1 : D} {z : PyData} {t t1 : Ts} (h : b_is_forced [some x0, some x1] t = .ok (.rt (.d z)) t1) {r : R D} (hl : t1.length = t.length) (e : R.ok (D.d z) t1 = r) : m_is_forced [x0, x1] t = r := (mOfS_dd rfl h hl).trans e
theorem c_is_forced {x0 x1 : D} {z : PyData} {t t1 t2 : Ts} (h : b_is_forced [some x0, some x1] t = .ok (.rt (.d z)) t1) {r : R D} (ht : t1.take t.length = t2) (e : R.ok (D.d z) t2 = r) : m_is_forced [x0, x1] t = r := (mOfS_cd rfl h ht).trans e
theorem cn_is_forced {x0 x1 : D} {t t1 t2 : Ts} {e1 : Dl.Env} (h : b_is_forced [some x0, some x1] t = .ok (.nx e1) t1) {r : R D} (ht : t1.take t.length = t2) (e : R.ok (D.d .none) t2 = r) : m_is_forced [x0, x1] t = r := (mOfS_cn rfl h ht).trans e
theorem cx_is_forced {x0 x1 : D} {t t1 t2 : Ts} {xx : Exn} (h : b_is_forced [some x0, some x1] t = .ex xx t1) {r : R D} (ht : t1.take t.length = t2) (e : R.ex xx t2 = r) : m_is_forced [x0, x1] t = r := (mOfS_cx rfl h ht).trans e
theorem n_is_forced {x0 x1 : D} {t t1 : Ts} {e1 : Dl.Env} (h : b_is_forced [some x0, some x1] t = .ok (.nx e1) t1) {r : R D} (hl : t1.length = t.length) (e : R.ok (D.d .none) t1 = r) : m_is_forced [x0, x1] t = r := (mOfS_nn rfl h hl).trans e
theorem x_is_forced {x0 x1 : D} {t t1 : Ts} {xx : Exn} (h : b_is_forced [some x0, some x1] t = .ex xx t1) {r : R D} (hl : t1.length = t.length) (e : R.ex xx t1 = r) : m_is_forced [x0, x1] t = r := (mOfS_xx rfl h hl).trans e
theorem o_home_in {x0 x1 z w : D} (h : b_home_in [some x0, some x1] = some (.rt z)) (e : z = w) : m_home_in [x0, x1] = some w := (mOf_of rfl h).trans (congrArg some e)
theorem o_home_of {x0 x1 z : D} {t t1 : Ts} (h : b_home_of [some x0, some x1] t = .ok (.rt z) t1) : m_home_of [x0, x1] t = .ok z (t1.take (max t.length (Dl.top z))) := mOfS_of rfl h
theorem d_home_of {x0 x1 : D} {z : PyData} {t t1 : Ts} (h : b_home_of [some x0, some x1] t = .ok (.rt (.d z)) t1) {r : R D} (hl : t1.length = t.length) (e : R.ok (D.d z) t1 = r) : m_home_of [x0, x1] t = r := (mOfS_dd rfl h hl).trans e
theorem c_home_of {x0 x1 : D} {z : PyData} {t t1 t2 : Ts} (h : b_home_of [some x0, some x1] t = .ok (.rt (.d z)) t1) {r : R D} (ht : t1.take t.length = t2) (e : R.ok (D.d z) t2 = r) : m_home_of [x0, x1] t = r := (mOfS_cd rfl h ht).trans e
theorem cn_home_of {x0 x1 : D} {t t1 t2 : Ts} {e1 : Dl.Env} (h : b_home_of [some x0, some x1] t = .ok (.nx e1) t1) {r : R D} (ht : t1.take t.length = t2) (e : R.ok (D.d .none) t2 = r) : m_home_of [x0, x1] t = r := (mOfS_cn rfl h ht).trans e
theorem cx_home_of {x0 x1 : D} {t t1 t2 : Ts} {xx : Exn} (h : b_home_of [some x0, some x1] t = .ex xx t1) {r : R D} (ht : t1.take t.length = t2) (e : R.ex xx t2 = r) : m_home_of [x0, x1] t = r := (mOfS_cx rfl h ht).trans e
theorem n_home_of {x0 x1 : D} {t t1 : Ts} {e1 : Dl.Env} (h : b_home_of [some x0, some x1] t = .ok (.nx e1) t1) {r : R D} (hl : t1.length = t.length) (e : R.ok (D.d .none) t1 = r) : m_home_of [x0, x1] t = r := (mOfS_nn rfl h hl).trans e
theorem x_home_of {x0 x1 : D} {t t1 : Ts} {xx : Exn} (h : b_home_of [some x0, some x1] t = .ex xx t1) {r : R D} (hl : t1.length = t.length) (e : R.ex xx t1 = r) : m_home_of [x0, x1] t = r := (mOfS_xx rfl h hl).trans e
theorem o_needs_in {x0 z : D} {t t1 : Ts} (h : b_needs_in [some x0, none, none, none, none, none, none, none] t = .ok (.rt z) t1) : m_needs_in [x0] t = .ok z (t1.take (max t.length (Dl.top z))) := mOfS_of rfl h
theorem d_needs_in {x0 : D} {z : PyData} {t t1 : Ts} (h : b_needs_in [some x0, none, none, none, none, none, none, none] t = .ok (.rt (.d z)) t1) {r : R D} (hl : t1.length = t.length) (e : R.ok (D.d z) t1 = r) : m_needs_in [x0] t = r := (mOfS_dd rfl h hl).trans e
theorem c_needs_in {x0 : D} {z : PyData} {t t1 t2 : Ts} (h : b_needs_in [some x0, none, none, none, none, none, none, none] t = .ok (.rt (.d z)) t1) {r : R D} (ht : t1.take t.length = t2) (e : R.ok (D.d z) t2 = r) : m_needs_in [x0] t = r := (mOfS_cd rfl h ht).trans e
theorem cn_needs_in {x0 : D} {t t1 t2 : Ts} {e1 : Dl.Env} (h : b_needs_in [some x0, none, none, none, none, none, none, none] t = .ok (.nx e1) t1) {r : R D} (ht : t1.take t.length = t2) (e : R.ok (D.d .none) t2 = r) : m_needs_in [x0] t = r := (mOfS_cn rfl h ht).trans e
theorem cx_needs_in {x0 : D} {t t1 t2 : Ts} {xx : Exn} (h : b_needs_in [some x0, none, none, none, none, none, none, none] t = .ex xx t1) {r : R D} (ht : t1.take t.length = t2) (e : R.ex xx t2 = r) : m_needs_in [x0] t = r := (mOfS_cx rfl h ht).trans e
theorem n_needs_in {x0 : D} {t t1 : Ts} {e1 : Dl.Env} (h : b_needs_in [some x0, none, none, none, none, none, none, none] t = .ok (.nx e1) t1) {r : R D} (hl : t1.length = t.length) (e : R.ok (D.d .none) t1 = r) : m_needs_in [x0] t = r := (mOfS_nn rfl h hl).trans e
theorem x_needs_in {x0 : D} {t t1 : Ts} {xx : Exn} (h : b_needs_in [some x0, none, none, none, none, none, none, none] t = .ex xx t1) {r : R D} (hl : t1.length = t.length) (e : R.ex xx t1 = r) : m_needs_in [x0] t = r := (mOfS_xx rfl h hl).trans e
theorem o_needs {x0 z : D} {t t1 : Ts} (h : b_needs [some x0] t = .ok (.rt z) t1) : m_needs [x0] t = .ok z (t1.take (max t.length (Dl.top z))) := mOfS_of rfl h
theorem d_needs {x0 : D} {z : PyData} {t t1 : Ts} (h : b_needs [some x0] t = .ok (.rt (.d z)) t1) {r : R D} (hl : t1.length = t.length) (e : R.ok (D.d z) t1 = r) : m_needs [x0] t = r := (mOfS_dd rfl h hl).trans e
theorem c_needs {x0 : D} {z : PyData} {t t1 t2 : Ts} (h : b_needs [some x0] t = .ok (.rt (.d z)) t1) {r : R D} (ht : t1.take t.length = t2) (e : R.ok (D.d z) t2 = r) : m_needs [x0] t = r := (mOfS_cd rfl h ht).trans e
theorem cn_needs {x0 : D} {t t1 t2 : Ts} {e1 : Dl.Env} (h : b_needs [some x0] t = .ok (.nx e1) t1) {r : R D} (ht : t1.take t.length = t2) (e : R.ok (D.d .none) t2 = r) : m_needs [x0] t = r := (mOfS_cn rfl h ht).trans e
theorem cx_needs {x0 : D} {t t1 t2 : Ts} {xx : Exn} (h : b_needs [some x0] t = .ex xx t1) {r : R D} (ht : t1.take t.length = t2) (e : R.ex xx t2 = r) : m_needs [x0] t = r := (mOfS_cx rfl h ht).trans e
theorem n_needs {x0 : D} {t t1 : Ts} {e1 : Dl.Env} (h : b_needs [some x0] t = .ok (.nx e1) t1) {r : R D} (hl : t1.length = t.length) (e : R.ok (D.d .none) t1 = r) : m_needs [x0] t = r := (mOfS_nn rfl h hl).trans e
theorem x_needs {x0 : D} {t t1 : Ts} {xx : Exn} (h : b_needs [some x0] t = .ex xx t1) {r : R D} (hl : t1.length = t.length) (e : R.ex xx t1 = r) : m_needs [x0] t = r := (mOfS_xx rfl h hl).trans e
theorem o__law_home {x0 x1 z w : D} (h : b__law_home [some x0, some x1] = some (.rt z)) (e : z = w) : m__law_home [x0, x1] = some w := (mOf_of rfl h).trans (congrArg some e)
end My
set_option maxRecDepth 100000
set_option maxHeartbeats 4000000
/-! what the law draws -/
namespace My
open PySem L2 Dl

structure Row where
  ns : List Int
  i : Int
  sd : Int
  rs : Int
def Row.tr (ρ : Row) : Tr := .nd .lst [.v (.sc ρ.ns), .v (.d (.int ρ.i)), .v (.d (.int ρ.sd)), .v (.d (.int ρ.rs))]
abbrev Row.st (ρ : Row) (t : Ts) : Ts := some ρ.tr :: t
theorem row_0 (ρ : Row) (t : Ts) : getX (.r 0 []) (.d (.int 0)) (ρ.st t) = some (.sc ρ.ns) := rfl
theorem row_1 (ρ : Row) (t : Ts) : getX (.r 0 []) (.d (.int 1)) (ρ.st t) = some (.d (.int ρ.i)) := rfl
theorem row_2 (ρ : Row) (t : Ts) : getX (.r 0 []) (.d (.int 2)) (ρ.st t) = some (.d (.int ρ.sd)) := rfl
theorem row_3 (ρ : Row) (t : Ts) : getX (.r 0 []) (.d (.int 3)) (ρ.st t) = some (.d (.int ρ.rs)) := rfl
theorem set_1 (ρ : Row) (t : Ts) (z : Int) : setX false (.r 0 []) (.d (.int 1)) (.d (.int z)) (ρ.st t) = some (Row.st { ρ with i := z } t) := rfl
theorem set_2 (ρ : Row) (t : Ts) (z : Int) : setX false (.r 0 []) (.d (.int 2)) (.d (.int z)) (ρ.st t) = some (Row.st { ρ with sd := z } t) := rfl
theorem set_3 (ρ : Row) (t : Ts) (z : Int) : setX false (.r 0 []) (.d (.int 3)) (.d (.int z)) (ρ.st t) = some (Row.st { ρ with rs := z } t) := rfl
theorem take_0 (x : Option Tr) (t : Ts) (n : Nat) (h : n ≤ t.length + 1) : (x :: t).take (max (x :: t).length n) = x :: t := by
  rw [Nat.max_eq_left (by rw [List.length_cons]; exact h)]
  exact List.take_length
theorem mOfS_d {L n : Nat} {gs : Sm Out} {ds : List D} {x : Option Tr} {t : Ts} {y : Option Tr} {t2 : Ts} {d : PyData} (hd : ds.length = n) (h : gs (startE L n ds) (x :: t) = .ok (.rt (.d d)) (y :: t2)) (hl : t2.length = t.length) : mOfS L n gs ds (x :: t) = .ok (.d d) (y :: t2) := by
  unfold mOfS
  rw [if_pos hd, h]
  show R.ok _ ((y :: t2).take (max (x :: t).length 0)) = _
  rw [Nat.max_eq_left (Nat.zero_le _), List.length_cons, ← hl]
  exact congrArg _ (List.take_length (l := y :: t2))
theorem taken_a (ρ : Row) (t : Ts) (hr : 0 < ρ.rs) (n : Int) (h1 : 1 ≤ n) (h2 : n < 1000000) : m__law_taken [.r 0 [], .d (.int n)] (ρ.st t) = .ok (.d (.int (ρ.rs.fmod n))) (Row.st { ρ with rs := ρ.rs.fdiv n } t) := by
  have e1 : n ≠ 0 := by omega
  have e2 : n.natAbs < 1073741824 := by omega
  refine mOfS_d rfl ?_ rfl
  simp [b__law_taken, startE, sSeq, sIf, sB, sOp, sIx, lift, pV, pC, ofO, R.bind, row_3, fGt, i2, isB, hr, sAsg, sMk, sCons, pNil, cIntT, fMod, e1, gN, sAsgS, gSX, fDiv, e2, set_3, pRet, sNx, pNx]
theorem taken_b (ρ : Row) (t : Ts) (hr : ¬ 0 < ρ.rs) (hl : (ρ.ns.length : Int) < ρ.i + 1) (n : Int) (h1 : 1 ≤ n) : ∃ (z : Int) (ρ' : Row), m__law_taken [.r 0 [], .d (.int n)] (ρ.st t) = .ok (.d (.int (z.fmod n))) (ρ'.st t) ∧ ρ'.ns = ρ.ns ∧ ρ'.i = ρ.i + 1 := by
  have e1 : n ≠ 0 := by omega
  refine ⟨((ρ.sd * 48271 + 11).fmod 2147483647).fdiv 7, { ρ with i := ρ.i + 1, sd := (ρ.sd * 48271 + 11).fmod 2147483647 }, ?_, rfl, rfl⟩
  refine mOfS_d rfl ?_ rfl
  simp [b__law_taken, startE, sSeq, sIf, sB, sOp, sIx, lift, pV, pC, ofO, R.bind, row_0, row_1, row_2, row_3, fGt, i2, isB, hr, hl, sAsg, sMk, sCons, pNil, cIntT, cLen, fMod, fMul, fAdd, e1, gN, sAsgS, gSX, fDiv, set_1, set_2, set_3, pRet, sRet, sNx, pNx, fIx]
theorem taken_c (ρ : Row) (t : Ts) (hr : ¬ 0 < ρ.rs) (hl : ¬ (ρ.ns.length : Int) < ρ.i + 1) (c : Int) (hc : atI ρ.ns ρ.i = some c) (n : Int) (h1 : 1 ≤ n) (h2 : n < 1000000) : ∃ ρ' : Row, m__law_taken [.r 0 [], .d (.int n)] (ρ.st t) = .ok (.d (.int (c.fmod n))) (ρ'.st t) ∧ ρ'.ns = ρ.ns ∧ ρ'.i = ρ.i + 1 := by
  have e1 : n ≠ 0 := by omega
  have e2 : n.natAbs < 1073741824 := by omega
  by_cases hb : (1000000000000000000 : Int) ≤ c
  · refine ⟨{ ρ with i := ρ.i + 1, sd := (ρ.sd * 48271 + c + 11).fmod 2147483647, rs := c.fdiv n }, ?_, rfl, rfl⟩
    refine mOfS_d rfl ?_ rfl
    simp [b__law_taken, startE, sSeq, sIf, sB, sOp, sIx, lift, pV, pC, pOp, ofO, R.bind, row_0, row_1, row_2, row_3, fGt, fGe, fSub, fPow, i2, isB, hr, hl, hc, hb, sAsg, sMk, sCons, pNil, pCons, pMk, pB, pIf, pSeq, cIntT, cLen, fMod, fMul, fAdd, e1, gN, sAsgS, gSX, fDiv, e2, set_1, set_2, set_3, pRet, sRet, sNx, pNx, fIx]
  · refine ⟨{ ρ with i := ρ.i + 1, sd := (ρ.sd * 48271 + c + 11).fmod 2147483647 }, ?_, rfl, rfl⟩
    refine mOfS_d rfl ?_ rfl
    simp [b__law_taken, startE, sSeq, sIf, sB, sOp, sIx, lift, pV, pC, pOp, ofO, R.bind, row_0, row_1, row_2, row_3, fGt, fGe, fSub, fPow, i2, isB, hr, hl, hc, hb, sAsg, sMk, sCons, pNil, pCons, pMk, pB, pIf, pSeq, cIntT, cLen, fMod, fMul, fAdd, e1, gN, sAsgS, gSX, fDiv, e2, set_1, set_2, set_3, pRet, sRet, sNx, pNx, fIx]
theorem taken_ok (ρ : Row) (t : Ts) (hs : 0 ≤ ρ.i) (n : Int) (h1 : 1 ≤ n) (h2 : n < 1000000) : ∃ (v : Nat) (ρ' : Row), m__law_taken [.r 0 [], .d (.int n)] (ρ.st t) = .ok (.d (.int (v : Nat))) (ρ'.st t) ∧ (v : Int) < n ∧ 0 ≤ ρ'.i := by
  have fin : ∀ z : Int, ∃ v : Nat, z.fmod n = (v : Nat) ∧ (v : Int) < n := fun z => by
    have a1 := Int.fmod_nonneg_of_pos z (b := n) (by omega)
    have a2 := Int.fmod_lt_of_pos z (b := n) (by omega)
    exact ⟨(z.fmod n).toNat, by omega, by omega⟩
  by_cases hr : 0 < ρ.rs
  · obtain ⟨v, e, l⟩ := fin ρ.rs
    exact ⟨v, { ρ with rs := ρ.rs.fdiv n }, by rw [← e]; exact taken_a ρ t hr n h1 h2, l, hs⟩
  · by_cases hl : (ρ.ns.length : Int) < ρ.i + 1
    · obtain ⟨z, s', e, _, r4⟩ := taken_b ρ t hr hl n h1
      obtain ⟨v, ev, l⟩ := fin z
      exact ⟨v, s', by rw [← ev]; exact e, l, by rw [r4]; omega⟩
    · obtain ⟨c, hc⟩ : ∃ c, atI ρ.ns ρ.i = some c := by
        obtain ⟨k, hk⟩ : ∃ k : Nat, ρ.i = k := ⟨ρ.i.toNat, by omega⟩
        have hk2 : k < ρ.ns.length := by omega
        refine ⟨ρ.ns[k], ?_⟩
        rw [hk]
        exact L2.atI_nat (List.getElem?_eq_getElem hk2)
      obtain ⟨s', e, _, r4⟩ := taken_c ρ t hr hl c hc n h1 h2
      obtain ⟨v, ev, l⟩ := fin c
      exact ⟨v, s', by rw [← ev]; exact e, l, by rw [r4]; omega⟩
/-- a pick from a list of data -/
theorem pick_ok (ρ : Row) (t : Ts) (hs : 0 ≤ ρ.i) (xs : List PyData) (h1 : 1 ≤ xs.length) (h2 : xs.length < 1000000) : ∃ (k : Nat) (x : PyData) (ρ' : Row), m__law_pick [.r 0 [], .d (.list xs)] (ρ.st t) = .ok (.d x) (ρ'.st t) ∧ xs[k]? = some x ∧ 0 ≤ ρ'.i := by
  obtain ⟨v, ρ', e, l, kp⟩ := taken_ok ρ t hs xs.length (by omega) (by omega)
  have hv : xs[v]? = some xs[v] := List.getElem?_eq_getElem (by omega)
  refine ⟨v, xs[v], ρ', ?_, hv, kp⟩
  have hx : atI xs (v : Int) = some xs[v] := L2.atI_nat hv
  refine mOfS_d rfl ?_ rfl
  simp [b__law_pick, startE, sRet, sOp, sCall, lift, pV, pCons, pMk, pNil, cLen, ofO, R.bind, e, fIx, hx]
theorem pick_map {α : Type} (ρ : Row) (t : Ts) (hs : 0 ≤ ρ.i) (f : α → PyData) (L : List α) (h1 : 1 ≤ L.length) (h2 : L.length < 1000000) : ∃ (y : α) (ρ' : Row), m__law_pick [.r 0 [], .d (.list (L.map f))] (ρ.st t) = .ok (.d (f y)) (ρ'.st t) ∧ y ∈ L ∧ 0 ≤ ρ'.i := by
  obtain ⟨k, x, ρ', e, hx, k1⟩ := pick_ok ρ t hs (L.map f) (by rw [List.length_map]; exact h1) (by rw [List.length_map]; exact h2)
  rw [List.getElem?_map] at hx
  cases q : L[k]? with
  | none => rw [q] at hx; cases hx
  | some y =>
    rw [q] at hx
    cases hx
    exact ⟨y, ρ', e, List.mem_of_getElem? q, k1⟩
theorem entry_ok (ρ : Row) (t : Ts) (hs : 0 ≤ ρ.i) : ∃ (e : En) (ρ' : Row), m__law_entry [.r 0 []] (ρ.st t) = .ok (.d (enc e)) (ρ'.st t) ∧ e.p ≠ .lay ∧ 0 ≤ ρ'.i := by
  obtain ⟨r, ρ1, e1, _, k1⟩ := pick_map ρ t hs (fun r : Re => .str r.s) [.feeds, .used, .same, .cells, .memory, .shows, .jump, .any, .any] (by decide) (by decide)
  obtain ⟨p, ρ2, e2, hp, k2⟩ := pick_map ρ1 t k1 (fun r : Ev => .str r.s) [.read, .make, .write, .out] (by decide) (by decide)
  obtain ⟨x, ρ3, e3, _, k3⟩ := pick_map ρ2 t k2 (fun r : Ki => .str r.s) [.set, .sum, .get, .put, .if_, .show_] (by decide) (by decide)
  obtain ⟨y, ρ4, e4, _, k4⟩ := pick_map ρ3 t k3 (fun r : Ki => .str r.s) [.set, .sum, .get, .put, .if_, .show_] (by decide) (by decide)
  obtain ⟨q, ρ5, e5, _, k5⟩ := pick_map ρ4 t k4 (fun r : Ev => .str r.s) [.lay, .read, .make, .write, .out] (by decide) (by decide)
  simp only [List.map_cons, List.map_nil, Re.s.eq_1, Re.s.eq_2, Re.s.eq_3, Re.s.eq_4, Re.s.eq_5, Re.s.eq_6, Re.s.eq_7, Re.s.eq_8, Ki.s.eq_1, Ki.s.eq_2, Ki.s.eq_3, Ki.s.eq_4, Ki.s.eq_5, Ki.s.eq_6, Ev.s.eq_1, Ev.s.eq_2, Ev.s.eq_3, Ev.s.eq_4, Ev.s.eq_5] at e1 e2 e3 e4 e5
  refine ⟨⟨r, x, y, p, q⟩, ρ5, ?_, ?_, k5⟩
  · apply d__law_entry
    unfold b__law_entry
    walk_at "ev"
  · intro e
    have e' : p = .lay := e
    subst e'
    simp at hp
theorem bare_ok (ρ : Row) (t : Ts) (hs : 0 ≤ ρ.i) : ∃ (d : De) (ρ' : Row), m__law_bare [.r 0 []] (ρ.st t) = .ok (.d (encD d)) (ρ'.st t) ∧ 1 ≤ d.w ∧ d.w ≤ 4 ∧ d.T = [] ∧ 0 ≤ ρ'.i := by
  obtain ⟨x0, ρ1, e1, _, k1⟩ := pick_map ρ t hs (fun r : Ho => .str r.e.s) [.write, .out] (by decide) (by decide)
  obtain ⟨x1, ρ2, e2, _, k2⟩ := pick_map ρ1 t k1 (fun r : Ho => .str r.e.s) [.write, .out] (by decide) (by decide)
  obtain ⟨x2, ρ3, e3, _, k3⟩ := pick_map ρ2 t k2 (fun r : Ho => .str r.e.s) [.write, .out] (by decide) (by decide)
  obtain ⟨v, ρ4, e4, _, k4⟩ := taken_ok ρ3 t k3 4 (by decide) (by decide)
  obtain ⟨w, ρ5, e5, hw, k5⟩ := pick_map ρ4 t k4 (fun r : Int => .int r) [0, 1, 2, 3, 3] (by decide) (by decide)
  obtain ⟨b, ρ6, e6, _, k6⟩ := taken_ok ρ5 t k5 2 (by decide) (by decide)
  obtain ⟨c, ρ7, e7, _, k7⟩ := taken_ok ρ6 t k6 2 (by decide) (by decide)
  simp only [List.map_cons, List.map_nil, Ho.e.eq_1, Ho.e.eq_2, Ev.s.eq_4, Ev.s.eq_5] at e1 e2 e3 e5
  have hw1 : 1 ≤ 1 + w ∧ 1 + w ≤ 4 := by simp at hw; omega
  by_cases hv : v = 0
  · refine ⟨⟨1 + w, decide ((b : Int) = 0), decide ((c : Int) = 0), .out, .out, .out, []⟩, ρ7, ?_, hw1.1, hw1.2, rfl, k7⟩
    apply d__law_bare
    unfold b__law_bare
    walk_at "ev"
  · refine ⟨⟨1 + w, decide ((b : Int) = 0), decide ((c : Int) = 0), x0, x1, x2, []⟩, ρ7, ?_, hw1.1, hw1.2, rfl, k7⟩
    apply d__law_bare
    unfold b__law_bare
    walk_at "ev"
end My
set_option maxRecDepth 100000
set_option maxHeartbeats 4000000
/-! entries, tables, designs as the program sees them -/
namespace My
open PySem L2 Dl

theorem list_t (xs : List PyData) (a b : Int) : m_is_list [.d (.tuple xs), .d (.int a), .d (.int b)] = some (.d (.bool (decide (a ≤ (xs.length : Int)) && decide ((xs.length : Int) ≤ b)))) := by
  apply o_is_list
  unfold b_is_list
  walk_at "ev"
theorem list5 (a b c d e : PyData) : m_is_list [.d (.tuple [a, b, c, d, e]), .d (.int 5), .d (.int 5)] = some (.d (.bool true)) := list_t _ 5 5
theorem list3 (a b c : PyData) : m_is_list [.d (.tuple [a, b, c]), .d (.int 3), .d (.int 3)] = some (.d (.bool true)) := list_t _ 3 3
theorem kind_eq (a : Ki) : m_is_kind [.d (.str a.s)] = some (.d (.bool true)) := by
  apply o_is_kind
  unfold b_is_kind
  walk_at "ev"
theorem event_eq (a : Ev) : m_is_event [.d (.str a.s)] = some (.d (.bool true)) := by
  apply o_is_event
  unfold b_is_event
  walk_at "ev"
theorem entry_eq (e : En) : m_is_entry [.d (enc e)] = some (.d (.bool (!decide (e.p = .lay)))) := by
  apply o_is_entry
  unfold b_is_entry
  have h1 : m_is_list [.d (enc e), .d (.int 5), .d (.int 5)] = some (.d (.bool true)) := list_t _ 5 5
  have h2 := kind_eq e.a
  have h3 := kind_eq e.b
  have h4 := event_eq e.p
  have h5 := event_eq e.q
  walk_at "ev"
theorem all_true {α : Type} (xs : List α) (f : α → Bool) (h : ∀ x ∈ xs, f x = true) : cAll [.d (.list (xs.map fun x => .bool (f x)))] = some (.d (.bool true)) := by
  show (bools _).map _ = _
  rw [bools_map]
  show some (D.d (.bool ((xs.map f).all id))) = _
  congr 3
  rw [List.all_map, List.all_eq_true]
  exact h
theorem map_encd (T : List En) : (T.map enc).map D.d = T.map fun s => D.d (enc s) := by rw [List.map_map]; rfl
theorem it_T (T : List En) : itL (.d (encT T)) = some (T.map fun s => D.d (enc s)) := congrArg some (map_encd T)
theorem len_T (T : List En) : cLen [.d (encT T)] = some (.d (.int (T.length : Nat))) := by
  show some (D.d (.int ((T.map enc).length : Nat))) = _
  rw [List.length_map]
theorem ix_T {T : List En} {k : Nat} {a : En} (h : T[k]? = some a) : fIx (.d (encT T)) (.d (.int (k : Nat))) = some (.d (enc a)) := ix_t (by rw [List.getElem?_map, h]; rfl)
theorem table_ok (T : List En) (h : Tab T) : m_is_table [.d (encT T)] = some (.d (.bool true)) := by
  have hl : T.length ≤ 100000 := Nat.le_trans h.len (by omega)
  apply o_is_table
  unfold b_is_table
  have h0 := it_T T
  have i1 : cIsi [.d (encT T), .o (.ty "tuple")] = some (.d (.bool true)) := rfl
  have h1 : goP (gN 1) [some (.d (encT T)), none, none] (pC true) (pMk m_is_entry (pCons (pV 1) pNil)) (T.map fun s => D.d (enc s)) = some (T.map fun e => D.d (.bool (!decide (e.p = .lay)))) :=
    goP_map (fun s => D.d (enc s)) _ T fun e he => ⟨[some (.d (encT T)), some (.d (enc e)), none], rfl, by have := entry_eq e; walk_at "ev"⟩
  have h2 := mLst_map (fun e : En => .bool (!decide (e.p = .lay))) T hl
  have h3 := all_true T (fun e => !decide (e.p = .lay)) fun e he => by simp [h.ent e he]
  have h4 := len_T T
  have h5 : mR2 [.d (.int 1), .d (.int (T.length : Nat))] = some ((List.range (T.length - 1)).map fun k : Nat => D.d (.int (1 + (k : Int)))) := by
    simp only [mR2]
    rw [if_pos (by omega)]
    have : ((T.length : Nat) - 1 : Int).toNat = T.length - 1 := by omega
    rw [this]
    rfl
  have h6 : goP (gN 2) [some (.d (encT T)), none, none] (pC true) (pOp (fLt) (pOp fIx (pV 0) (pOp fSub (pV 2) (pC (.d (.int 1))))) (pOp fIx (pV 0) (pV 2))) ((List.range (T.length - 1)).map fun k : Nat => D.d (.int (1 + (k : Int)))) = some ((List.range (T.length - 1)).map fun _ => D.d (.bool true)) :=
    goP_map (fun k : Nat => D.d (.int (1 + (k : Int)))) _ _ fun k hk => ⟨[some (.d (encT T)), none, some (.d (.int (1 + (k : Int))))], rfl, by
      have hk' := List.mem_range.mp hk
      have i1 : T[k]? = some T[k] := List.getElem?_eq_getElem (by omega)
      have i2 : T[k + 1]? = some T[k + 1] := List.getElem?_eq_getElem (by omega)
      have j1 : fIx (.d (encT T)) (.d (.int (1 + (k : Int) - 1))) = some (.d (enc T[k])) := by rw [show 1 + (k : Int) - 1 = (k : Nat) by omega]; exact ix_T i1
      have j2 : fIx (.d (encT T)) (.d (.int (1 + (k : Int)))) = some (.d (enc T[k + 1])) := by rw [show 1 + (k : Int) = ((k + 1 : Nat) : Int) by omega]; exact ix_T i2
      have j3 : fLt (.d (enc T[k])) (.d (enc T[k + 1])) = some (.d (.bool true)) := by rw [lt_enc, h.asc k _ _ i1 i2]
      walk_at "ev"⟩
  have h7 := mLst_map (fun _ : Nat => .bool true) (List.range (T.length - 1)) (by rw [List.length_range]; omega)
  have h8 := all_true (List.range (T.length - 1)) (fun _ => true) fun _ _ => rfl
  walk_at "ev"
structure Des (d : De) : Prop where
  w1 : 1 ≤ d.w
  w4 : d.w ≤ 4
  tab : Tab d.T
theorem isint_eq (i : Int) : m_is_integer [.d (.int i)] = some (.d (.bool true)) := by
  apply o_is_integer
  unfold b_is_integer
  walk_at "ev"
theorem in_eq (i a b : Int) : m_is_in [.d (.int i), .d (.int a), .d (.int b)] = some (.d (.bool (decide (a ≤ i) && decide (i ≤ b)))) := by
  apply o_is_in
  unfold b_is_in
  have h := isint_eq i
  walk_at "ev"
theorem design_ok (d : De) (h : Des d) : m_is_design [.d (encD d)] = some (.d (.bool true)) := by
  apply o_is_design
  unfold b_is_design
  have h1 : m_is_list [.d (encD d), .d (.int 5), .d (.int 5)] = some (.d (.bool true)) := list_t _ 5 5
  have h2 : m_is_in [.d (.int d.w), .d (.int 1), .d (.int 4)] = some (.d (.bool true)) := by rw [in_eq, decide_eq_true h.w1, decide_eq_true h.w4]; rfl
  have h3 : m_is_list [.d (encH d), .d (.int 3), .d (.int 3)] = some (.d (.bool true)) := list_t _ 3 3
  have h4 := table_ok d.T h.tab
  walk_at "ev"
end My
set_option maxRecDepth 100000
set_option maxHeartbeats 4000000
/-! drawn tables -/
namespace My
open PySem L2 Dl

abbrev envM (d : De) (E : PyData) (m : Nat) (n : Nat) (o5 : Option D) : Dl.Env := [some (.r 0 []), some (.d (encD d)), some (.d E), some (.d (.int (m : Nat))), some (.r n []), o5, none]
theorem more_loop (d : De) (E : PyData) (m : Nat) (t : Ts) : ∀ (xs : List D) (U : List En) (n : Nat) (o5 : Option D) (ρ : Row), Drw U n → n + xs.length ≤ 90000 → 0 ≤ ρ.i →
    ∃ (U' : List En) (o5' : Option D) (ρ' : Row), goF (gN 5) (sAsgS (gSX false (lift (pV 4)) (sCall m__law_entry (lift (pCons (pV 0) pNil)))) (lift (pC (.d (.bool true))))) xs (envM d E m (t.length + 1) o5) (ρ.st (t ++ [some (dcT U)])) = .ok (.nx (envM d E m (t.length + 1) o5')) (ρ'.st (t ++ [some (dcT U')])) ∧ Drw U' (n + xs.length) ∧ (∀ e ∈ U, e ∈ U') ∧ 0 ≤ ρ'.i
  | [], U, n, o5, ρ, h, _, k => ⟨U, o5, ρ, rfl, h, fun _ z => z, k⟩
  | x :: r, U, n, o5, ρ, h, hn, k => by
    obtain ⟨e, ρ1, e1, he, k1⟩ := entry_ok ρ (t ++ [some (dcT U)]) k
    rw [List.length_cons] at hn ⊢
    obtain ⟨U', o5', ρ', e2, h2, h3, k2⟩ := more_loop d E m t r (addE U e) (n + 1) (some x) ρ1 (h.add he) (by omega) k1
    have e3 : setX false (.r (t.length + 1) []) (.d (enc e)) (.d (.bool true)) (ρ1.st (t ++ [some (dcT U)])) = some (ρ1.st (t ++ [some (dcT (addE U e))])) := set_dc U e (some ρ1.tr :: t) (by have := h.len; omega)
    refine ⟨U', o5', ρ', ?_, by rw [Nat.add_comm r.length 1, ← Nat.add_assoc]; exact h2, fun y hy => h3 y (mem_addE.mpr (.inl hy)), k2⟩
    refine gf_cons (e1 := envM d E m (t.length + 1) (some x)) rfl ?_ e2
    walk_at "ev"
theorem more_ok (ρ : Row) (t : Ts) (hs : 0 ≤ ρ.i) (d : De) (hT : d.T = []) (E : PyData) (L : List En) (hE : itL (.d E) = some (L.map fun e => D.d (enc e))) (hL : ∀ e ∈ L, e.p ≠ .lay) (hLn : L.length ≤ 1000) (m : Nat) (hm : m ≤ 1000) :
    ∃ (T : List En) (ρ' : Row), m__law_more [.r 0 [], .d (encD d), .d E, .d (.int (m : Nat))] (ρ.st t) = .ok (.d (encD { d with T := T })) (ρ'.st t) ∧ Tab T ∧ T.length ≤ L.length + m ∧ (∀ e ∈ L, e ∈ T) ∧ 0 ≤ ρ'.i := by
  obtain ⟨U0, m0, h0, hU0⟩ := new_dc L hL (ρ.st t)
  have m0 : newDc (.d (.list (L.map fun e => .tuple [enc e, .bool true]))) (ρ.st t) = .ok (.r (t.length + 1) []) (ρ.st (t ++ [some (dcT U0)])) := m0
  obtain ⟨v, ρ1, e1, hv, k1⟩ := taken_ok ρ (t ++ [some (dcT U0)]) hs ((m : Int) + 1) (by omega) (by omega)
  obtain ⟨U, o5, ρ2, e2, h2, h3, k2⟩ := more_loop d E m t ((List.range v).map fun k => D.d (.int (k : Nat))) U0 L.length none ρ1 h0 (by rw [List.length_map, List.length_range]; omega) k1
  rw [List.length_map, List.length_range] at h2
  obtain ⟨T, t1, t2, t3⟩ := sort_tab h2 (by omega)
  have hTl : T.length ≤ L.length + v := by
    have := congrArg List.length t1
    rw [List.length_map, (isort_perm _).length_eq, List.length_map] at this
    have := h2.len
    omega
  refine ⟨T, ρ2, ?_, t2, by omega, fun e he => (t3 e).mpr (h3 e ((hU0 e).mpr he)), k2⟩
  have hg : goP (gN 6) [some (.r 0 []), some (.d (encD d)), some (.d E), some (.d (.int (m : Nat))), none, none, none] (pC true) (pMk mTup (pCons (pV 6) (pCons (pC (.d (.bool true))) pNil))) (L.map fun e => D.d (enc e)) = some (L.map fun e => D.d (.tuple [enc e, .bool true])) :=
    goP_map (fun e => D.d (enc e)) (fun e => D.d (.tuple [enc e, .bool true])) L fun e _ => ⟨_, rfl, by walk_at "ev"⟩
  have hml := mLst_map (fun e : En => .tuple [enc e, .bool true]) L (by omega)
  have hrg : mR1 [.d (.int (v : Nat))] = some ((List.range v).map fun k => D.d (.int (k : Nat))) := mR1_nat v (by omega)
  have hcl : cLstT [.r (t.length + 1) []] (ρ2.st (t ++ [some (dcT U)])) = some (.d (.list (U.map enc))) := lst_dc U (some ρ2.tr :: t)
  have hso : cSort [.d (.list (U.map enc))] = some (.d (.list (T.map enc))) := by rw [sort_dc, t1]
  have hfa : fAdd (.d (.tuple [.int d.w, .bool d.x, .bool d.y, encH d])) (.d (.tuple [.tuple (T.map enc)])) = some (.d (encD { d with T := T })) := lf_addt (by simp)
  refine (o__law_more (z := .d (encD { d with T := T })) (t1 := ρ2.st (t ++ [some (dcT U)])) ?_).trans ?_
  · unfold b__law_more
    walk_at "ev"
  · show R.ok _ (List.take (max (t.length + 1) 0) (some ρ2.tr :: (t ++ [some (dcT U)]))) = _
    rw [Nat.max_eq_left (Nat.zero_le _), List.take_succ_cons, List.take_left]
end My
set_option maxRecDepth 100000
set_option maxHeartbeats 4000000
namespace My
open PySem L2 Dl
/-! the law's comparison: data is like itself -/
theorem sh_true : SeqAt.shaped (.bool true) = true := by kernel_rfl
theorem sh_false : SeqAt.shaped (.bool false) = true := by kernel_rfl
theorem sh_nil : SeqAt.shaped (.list []) = true := by kernel_rfl
theorem okA_list {xs : List PyData} (h : okA (.list xs) = true) : xs.length ≤ 100000 ∧ okAs xs = true := by
  unfold okA at h
  rw [Bool.and_eq_true, decide_eq_true_eq] at h
  exact h
theorem okA_tup {xs : List PyData} (h : okA (.tuple xs) = true) : xs.length ≤ 100000 ∧ okAs xs = true := by
  unfold okA at h
  rw [Bool.and_eq_true, decide_eq_true_eq] at h
  exact h
theorem dpt_list {xs : List PyData} : dpt (.list xs) = dpts xs + 1 := by unfold dpt; rfl
theorem dpt_tup {xs : List PyData} : dpt (.tuple xs) = dpts xs + 1 := by unfold dpt; rfl
theorem mLst_nil : mLst [] = some (.d (.list [])) := by kernel_rfl
theorem alike_leaf (n : Nat) : mr__law_alike (n + 1) [.d .none, .d .none] = some (.d (.bool true)) ∧ ∀ b, mr__law_alike (n + 1) [.d (.bool b), .d (.bool b)] = some (.d (.bool true)) := by
  refine ⟨by kernel_rfl, fun b => ?_⟩
  cases b <;> kernel_rfl

theorem len_list (xs : List PyData) (r : D) : pCons (pMk cLen (pCons (pV 1) pNil)) pNil [some r, some (.d (.list xs)), none] = some [.d (.int xs.length)] := by kernel_rfl
theorem len0_list (xs : List PyData) (r : D) : pMk cLen (pCons (pV 0) pNil) [some (.d (.list xs)), some r, none] = some (.d (.int xs.length)) := by kernel_rfl
theorem len1_list (xs : List PyData) (r : D) : pMk cLen (pCons (pV 1) pNil) [some r, some (.d (.list xs)), none] = some (.d (.int xs.length)) := by kernel_rfl
theorem hp_list {xs : List PyData} {tt : Pm Bool} {el : Pm D} (h : xs.length ≤ 100000) (q : goP (gN 2) [some (.d (.list xs)), some (.d (.list xs)), none] tt el ((List.range xs.length).map fun k => D.d (.int (k : Nat))) = some []) :
    pMk mLst (pLc (gN 2) [2] (pRg mR1 (pCons (pMk cLen (pCons (pV 1) pNil)) pNil)) tt el) [some (.d (.list xs)), some (.d (.list xs)), none] = some (.d (.list [])) := by
  rw [pMk_of (pLc_of (by rw [pRg_of (len_list _ _)]; exact mR1_nat _ h) (by rw [List.length_map, List.length_range]; exact h) q)]
  exact mLst_nil
theorem fin_list {ma : List D → Option D} {xs : List PyData} (h : xs.length ≤ 100000) (q : goP (gN 2) [some (.d (.list xs)), some (.d (.list xs)), none] (pNot (pB (pMk ma (pCons (pOp fIx (pV 0) (pV 2)) (pCons (pOp fIx (pV 1) (pV 2)) pNil))))) (pV 2) ((List.range xs.length).map fun k => D.d (.int (k : Nat))) = some []) :
    mOf 3 2 (b__law_alike ma) [.d (.list xs), .d (.list xs)] = some (.d (.bool true)) := by
  have hA : pB (pAp (cIsi2 "tuple" "list") (pV 1)) [some (.d (.list xs)), some (.d (.list xs)), none] = some true := by kernel_rfl
  have hB : pOr (pNot (pB (pAp (cIsi2 "tuple" "list") (pV 0)))) (pB (pOp (fNe) (pMk cIsi (pCons (pV 0) (pCons (pC (.o (.ty "list"))) pNil))) (pMk cIsi (pCons (pV 1) (pCons (pC (.o (.ty "list"))) pNil))))) [some (.d (.list xs)), some (.d (.list xs)), none] = some false := by kernel_rfl
  have hC : pB (pOp (fNe) (pMk cLen (pCons (pV 0) pNil)) (pMk cLen (pCons (pV 1) pNil))) [some (.d (.list xs)), some (.d (.list xs)), none] = some false := by
    exact pB_of (by rw [pOp_of (len0_list _ _) (len1_list _ _)]; exact ne_self (sh_int _))
  have hE := fEq_nil (hp_list h q) (by kernel_rfl : pMk mLst pNil [some (.d (.list xs)), some (.d (.list xs)), none] = some (.d (.list [])))
  show retO (b__law_alike ma [some (.d (.list xs)), some (.d (.list xs)), none]) = _
  unfold b__law_alike
  rw [pSeq_rt (d := .d (.bool true)) ?_]
  · rfl
  rw [pIf_t hA, pSeq_nx (pIf_f hB), pSeq_nx (pIf_f hC)]
  exact pRet_of hE

theorem len_tuple (xs : List PyData) (r : D) : pCons (pMk cLen (pCons (pV 1) pNil)) pNil [some r, some (.d (.tuple xs)), none] = some [.d (.int xs.length)] := by kernel_rfl
theorem len0_tuple (xs : List PyData) (r : D) : pMk cLen (pCons (pV 0) pNil) [some (.d (.tuple xs)), some r, none] = some (.d (.int xs.length)) := by kernel_rfl
theorem len1_tuple (xs : List PyData) (r : D) : pMk cLen (pCons (pV 1) pNil) [some r, some (.d (.tuple xs)), none] = some (.d (.int xs.length)) := by kernel_rfl
theorem hp_tuple {xs : List PyData} {tt : Pm Bool} {el : Pm D} (h : xs.length ≤ 100000) (q : goP (gN 2) [some (.d (.tuple xs)), some (.d (.tuple xs)), none] tt el ((List.range xs.length).map fun k => D.d (.int (k : Nat))) = some []) :
    pMk mLst (pLc (gN 2) [2] (pRg mR1 (pCons (pMk cLen (pCons (pV 1) pNil)) pNil)) tt el) [some (.d (.tuple xs)), some (.d (.tuple xs)), none] = some (.d (.list [])) := by
  rw [pMk_of (pLc_of (by rw [pRg_of (len_tuple _ _)]; exact mR1_nat _ h) (by rw [List.length_map, List.length_range]; exact h) q)]
  exact mLst_nil
theorem fin_tuple {ma : List D → Option D} {xs : List PyData} (h : xs.length ≤ 100000) (q : goP (gN 2) [some (.d (.tuple xs)), some (.d (.tuple xs)), none] (pNot (pB (pMk ma (pCons (pOp fIx (pV 0) (pV 2)) (pCons (pOp fIx (pV 1) (pV 2)) pNil))))) (pV 2) ((List.range xs.length).map fun k => D.d (.int (k : Nat))) = some []) :
    mOf 3 2 (b__law_alike ma) [.d (.tuple xs), .d (.tuple xs)] = some (.d (.bool true)) := by
  have hA : pB (pAp (cIsi2 "tuple" "list") (pV 1)) [some (.d (.tuple xs)), some (.d (.tuple xs)), none] = some true := by kernel_rfl
  have hB : pOr (pNot (pB (pAp (cIsi2 "tuple" "list") (pV 0)))) (pB (pOp (fNe) (pMk cIsi (pCons (pV 0) (pCons (pC (.o (.ty "list"))) pNil))) (pMk cIsi (pCons (pV 1) (pCons (pC (.o (.ty "list"))) pNil))))) [some (.d (.tuple xs)), some (.d (.tuple xs)), none] = some false := by kernel_rfl
  have hC : pB (pOp (fNe) (pMk cLen (pCons (pV 0) pNil)) (pMk cLen (pCons (pV 1) pNil))) [some (.d (.tuple xs)), some (.d (.tuple xs)), none] = some false := by
    exact pB_of (by rw [pOp_of (len0_tuple _ _) (len1_tuple _ _)]; exact ne_self (sh_int _))
  have hE := fEq_nil (hp_tuple h q) (by kernel_rfl : pMk mLst pNil [some (.d (.tuple xs)), some (.d (.tuple xs)), none] = some (.d (.list [])))
  show retO (b__law_alike ma [some (.d (.tuple xs)), some (.d (.tuple xs)), none]) = _
  unfold b__law_alike
  rw [pSeq_rt (d := .d (.bool true)) ?_]
  · rfl
  rw [pIf_t hA, pSeq_nx (pIf_f hB), pSeq_nx (pIf_f hC)]
  exact pRet_of hE
theorem alike_self (n : Nat) : ∀ (d : PyData), okA d = true → dpt d < n → mr__law_alike n [.d d, .d d] = some (.d (.bool true)) := by
  induction n with
  | zero => intro d _ h; exact absurd h (Nat.not_lt_zero _)
  | succ n ihn =>
    intro d ok h
    have seq : ∀ xs : List PyData, okAs xs = true → dpts xs < n → xs.length ≤ 100000 → ∀ w : PyData, (∀ k : Nat, ∀ x, xs[k]? = some x → fIx (.d w) (.d (.int (k : Nat))) = some (.d x)) →
        goP (gN 2) ([some (.d w), some (.d w), none]) (pNot (pB (pMk (mr__law_alike n) (pCons (pOp fIx (pV 0) (pV 2)) (pCons (pOp fIx (pV 1) (pV 2)) pNil))))) (pV 2) ((List.range xs.length).map fun k => D.d (.int (k : Nat))) = some [] := by
      intro xs hx hd hl w hw
      rw [goP_fm (fun k : Nat => D.d (.int (k : Nat))) (fun _ => false) (fun k => D.d (.int (k : Nat))) (List.range xs.length) (fun k hk => ?_)]
      · simp
      · have hk' := List.mem_range.mp hk
        obtain ⟨x, hx'⟩ : ∃ x, xs[k]? = some x := ⟨xs[k], List.getElem?_eq_getElem hk'⟩
        have hm : x ∈ xs := List.mem_of_getElem? hx'
        have ih := ihn x (okAs_mem hx hm) (Nat.lt_of_le_of_lt (dpts_mem hm) hd)
        have e := hw k x hx'
        refine ⟨_, rfl, ?_, fun z => nomatch z⟩
        simp [pNot, pB, pMk, pCons, pOp, pV, pNil, e, ih, isB]
    cases d with
    | none => exact (alike_leaf n).1
    | bool b => exact (alike_leaf n).2 b
    | int i =>
      have e : SeqAt.shaped (.int i) = true := by simp [SeqAt.shaped, PyData.canLay0, PyData.depth]
      have e2 : SeqAt.shaped (.bool false) = true := sh_false
      simp [mr__law_alike, b__law_alike, mOf, startE, pV, pC, pOp, pB, pNot, pAnd, pOr, pAndV, pOrV, pNotV, pIf, pNil, pCons, pMk, pPart, pSl, pIt, pRg, pAsg, pRet, pExp, pNx, pSeq, pAp, pCh, pPnil, pPcons, pDget, pDsub, pNo, isI, fEq, fNe, fLe, fGt, fGe, fIs, fIsNot, fAdd, fSub, fMod, fIx, fSl, i2, fLt, gN, gT, gC, gE, mTup, cLen, cTup, cLst, cInt, cIsi, cIsi2, cAll, cAny, isSeq, itL, Dl.isNon, e, e2, PyData.eqv, tyN, isT, bind_ite, map_ite, retO_ite, retO_rt, retO_nx, retO_no, isB_b]
    | str x =>
      have e : SeqAt.shaped (.str x) = true := ok
      have e2 : SeqAt.shaped (.bool true) = true := sh_true
      simp [mr__law_alike, b__law_alike, mOf, startE, pV, pC, pOp, pB, pNot, pAnd, pOr, pAndV, pOrV, pNotV, pIf, pNil, pCons, pMk, pPart, pSl, pIt, pRg, pAsg, pRet, pExp, pNx, pSeq, pAp, pCh, pPnil, pPcons, pDget, pDsub, pNo, isI, fEq, fNe, fLe, fGt, fGe, fIs, fIsNot, fAdd, fSub, fMod, fIx, fSl, i2, fLt, gN, gT, gC, gE, mTup, cLen, cTup, cLst, cInt, cIsi, cIsi2, cAll, cAny, isSeq, itL, Dl.isNon, e, e2, PyData.eqv, tyN, isT, bind_ite, map_ite, retO_ite, retO_rt, retO_nx, retO_no, isB_b]
    | list xs =>
      have ok' := okA_list ok
      have hd : dpts xs < n := by rw [dpt_list] at h; exact Nat.lt_of_succ_lt_succ h
      have q := seq xs ok'.2 hd ok'.1 (.list xs) fun k x hx => by show (atI xs (k : Int)).map D.d = _; rw [at_get hx]; rfl
      exact fin_list ok'.1 q
    | tuple xs =>
      have ok' := okA_tup ok
      have hd : dpts xs < n := by rw [dpt_tup] at h; exact Nat.lt_of_succ_lt_succ h
      have q := seq xs ok'.2 hd ok'.1 (.tuple xs) fun k x hx => by show (atI xs (k : Int)).map D.d = _; rw [at_get hx]; rfl
      exact fin_tuple ok'.1 q
    | dict xs => cases ok

theorem okAs_of : ∀ {xs : List PyData}, (∀ x ∈ xs, okA x = true) → okAs xs = true
  | [], _ => rfl
  | x :: r, h => by
    show (okA x && okAs r) = true
    rw [h x List.mem_cons_self, okAs_of fun y hy => h y (List.mem_cons_of_mem _ hy)]
    rfl
theorem okA_tup_of {xs : List PyData} (h : xs.length ≤ 100000) (h2 : ∀ x ∈ xs, okA x = true) : okA (.tuple xs) = true := by
  unfold okA
  rw [okAs_of h2, decide_eq_true h]
  rfl
theorem dpts_of {b : Nat} : ∀ {xs : List PyData}, (∀ x ∈ xs, dpt x ≤ b) → dpts xs ≤ b
  | [], _ => Nat.zero_le _
  | x :: r, h => Nat.max_le.mpr ⟨h x List.mem_cons_self, dpts_of fun y hy => h y (List.mem_cons_of_mem _ hy)⟩
theorem okA_enc (e : En) : okA (enc e) = true := by
  obtain ⟨r, a, b, p, q⟩ := e
  have kr (x : Re) : okA (.str x.s) = true := by cases x <;> kernel_rfl
  have kk (x : Ki) : okA (.str x.s) = true := by cases x <;> kernel_rfl
  have ke (x : Ev) : okA (.str x.s) = true := by cases x <;> kernel_rfl
  refine okA_tup_of (by simp) fun y hy => ?_
  simp only [List.mem_cons, List.not_mem_nil, or_false] at hy
  rcases hy with rfl | rfl | rfl | rfl | rfl
  · exact kr r
  · exact kk a
  · exact kk b
  · exact ke p
  · exact ke q
theorem okA_T {T : List En} (h : T.length ≤ 100000) : okA (encT T) = true := okA_tup_of (by rw [List.length_map]; exact h) fun y hy => by
  obtain ⟨x, _, rfl⟩ := List.mem_map.mp hy
  exact okA_enc x
theorem dpt_T (T : List En) : dpt (encT T) ≤ 2 := by
  have : dpts (T.map enc) ≤ 1 := dpts_of fun y hy => by
    obtain ⟨x, _, rfl⟩ := List.mem_map.mp hy
    exact Nat.le_refl 1
  show dpts (T.map enc) + 1 ≤ 2
  omega
theorem okA_H (d : De) : okA (encH d) = true := by
  obtain ⟨w, x, y, h0, h1, h2, T⟩ := d
  cases h0 <;> cases h1 <;> cases h2 <;> kernel_rfl
theorem okA_D {d : De} (h : d.T.length ≤ 100000) : okA (encD d) = true := by
  refine okA_tup_of (by simp) fun y hy => ?_
  simp only [List.mem_cons, List.not_mem_nil, or_false] at hy
  rcases hy with rfl | rfl | rfl | rfl | rfl
  · rfl
  · rfl
  · rfl
  · exact okA_H d
  · exact okA_T h
theorem dpt_D (d : De) : dpt (encD d) ≤ 3 := by
  have h1 := dpt_T d.T
  show max 0 (max 0 (max 0 (max (dpt (encH d)) (max (dpt (encT d.T)) 0)))) + 1 ≤ 3
  have h2 : dpt (encH d) ≤ 1 := Nat.le_refl 1
  omega
theorem alike_des {d : De} (h : d.T.length ≤ 100000) : m__law_alike [.d (encD d), .d (encD d)] = some (.d (.bool true)) :=
  alike_self _ _ (okA_D h) (Nat.lt_of_le_of_lt (dpt_D d) (by decide))
theorem alike_str {z : Str} (h : SeqAt.shaped (.str z) = true) : m__law_alike [.d (.str z), .d (.str z)] = some (.d (.bool true)) :=
  alike_self _ _ h (by show (0:Nat) < 6; decide)
end My
set_option maxRecDepth 100000
set_option maxHeartbeats 4000000
/-! data that == may be asked of -/
namespace My
open PySem L2 Dl
mutual
theorem eqv_self : ∀ (d : PyData), okA d = true → PyData.eqv d d = true
  | .none, _ => rfl
  | .bool b, _ => by simp [PyData.eqv]
  | .int i, _ => by simp [PyData.eqv]
  | .str x, _ => by simp [PyData.eqv]
  | .list xs, h => by
    have := eqvAll_self xs (okA_list h).2
    simp only [PyData.eqv]
    exact this
  | .tuple xs, h => by
    have := eqvAll_self xs (okA_tup h).2
    simp only [PyData.eqv]
    exact this
  | .dict _, h => by cases h
theorem eqvAll_self : ∀ (xs : List PyData), okAs xs = true → PyData.eqvAll xs xs = true
  | [], _ => rfl
  | x :: r, h => by
    have h' : (okA x && okAs r) = true := h
    rw [Bool.and_eq_true] at h'
    simp only [PyData.eqvAll]
    rw [eqv_self x h'.1, eqvAll_self r h'.2]
    rfl
end
mutual
theorem lay_ok : ∀ (d : PyData), okA d = true → PyData.canLay0 d = true ∧ PyData.depth d ≤ dpt d
  | .none, _ => by simp [PyData.canLay0, PyData.depth]
  | .bool b, _ => by simp [PyData.canLay0, PyData.depth]
  | .int i, _ => by simp [PyData.canLay0, PyData.depth]
  | .str x, h => by
    have h' : SeqAt.shaped (.str x) = true := h
    unfold SeqAt.shaped at h'
    rw [Bool.and_eq_true] at h'
    exact ⟨h'.1, by simp [PyData.depth]⟩
  | .list xs, h => by
    have := layAll_ok xs (okA_list h).2
    simp only [PyData.canLay0, PyData.depth]
    rw [dpt_list]
    exact ⟨this.1, Nat.succ_le_succ this.2⟩
  | .tuple xs, h => by
    have := layAll_ok xs (okA_tup h).2
    simp only [PyData.canLay0, PyData.depth]
    rw [dpt_tup]
    exact ⟨this.1, Nat.succ_le_succ this.2⟩
  | .dict _, h => by cases h
theorem layAll_ok : ∀ (xs : List PyData), okAs xs = true → PyData.canLayAll0 xs = true ∧ PyData.depthAll xs ≤ dpts xs
  | [], _ => by simp [PyData.canLayAll0, PyData.depthAll]
  | x :: r, h => by
    have h' : (okA x && okAs r) = true := h
    rw [Bool.and_eq_true] at h'
    have h1 := lay_ok x h'.1
    have h2 := layAll_ok r h'.2
    simp only [PyData.canLayAll0, PyData.depthAll]
    rw [h1.1, h2.1]
    refine ⟨rfl, ?_⟩
    show max _ _ ≤ max (dpt x) (dpts r)
    omega
end
theorem sh_ok {d : PyData} (h : okA d = true) (h2 : dpt d ≤ 64) : SeqAt.shaped d = true := by
  have := lay_ok d h
  unfold SeqAt.shaped
  rw [this.1, Bool.true_and]
  exact decide_eq_true (Nat.le_trans this.2 h2)
theorem ne_refl {d : PyData} (h : okA d = true) (h2 : dpt d ≤ 64) : fNe (.d d) (.d d) = some (.d (.bool false)) := by
  unfold fNe
  simp only []
  rw [if_pos ⟨sh_ok h h2, sh_ok h h2⟩, eqv_self d h]
  rfl
theorem sh_T {T : List En} (h : T.length ≤ 100000) : SeqAt.shaped (encT T) = true := sh_ok (okA_T h) (Nat.le_trans (dpt_T T) (by decide))
theorem sh_D {d : De} (h : d.T.length ≤ 100000) : SeqAt.shaped (encD d) = true := sh_ok (okA_D h) (Nat.le_trans (dpt_D d) (by decide))
theorem fne_T (T : List En) (h : T.length ≤ 100000) : fNe (.d (encT T)) (.d (.tuple [])) = some (.d (.bool (!T.isEmpty))) := by
  refine fne_of (sh_T h) (by kernel_rfl) ?_
  cases T <;> rfl
theorem feq_T (T : List En) (h : T.length ≤ 100000) : fEq (.d (encT T)) (.d (.tuple [])) = some (.d (.bool T.isEmpty)) := by
  refine feq_of (sh_T h) (by kernel_rfl) ?_
  cases T <;> rfl
theorem feq_refl {d : PyData} (h : okA d = true) (h2 : dpt d ≤ 64) : fEq (.d d) (.d d) = some (.d (.bool true)) := feq_of (sh_ok h h2) (sh_ok h h2) (eqv_self d h)
end My
set_option maxRecDepth 100000
set_option maxHeartbeats 4000000
/-! a lambda that is called in a try -/
namespace My
open PySem L2 Dl
theorem take_l {t t' : Ts} (h : t'.length = t.length) : t'.take t.length = t' := by rw [← h]; exact List.take_length
theorem take_m {t t' : Ts} (h : t'.length = t.length) : t'.take (max t.length 0) = t' := by rw [Nat.max_eq_left (Nat.zero_le _)]; exact take_l h
theorem cl_at (k : Nat) (L0 : Ts → R D) (t : Ts) : sCl 0 k L0 [some (.cl k), none, none] t = L0 t := by
  show (if k = k then L0 t else .no) = _
  rw [if_pos rfl]
theorem wrong_ex {k : Nat} {L0 : Ts → R D} {t t' : Ts} {x : Exn} {y : PyData} (h : L0 t = .ex x t') (hl : t'.length = t.length) (hx : ex_WindowError x.c = some true)
    (hs : ∀ t, w__law_wrong (xenv 3 1 x) t = .ok (.rt (.d y)) t) : m__law_wrong k L0 t = .ok (.d y) t' := by
  show retR t.length (b__law_wrong k L0 [some (.cl k), none, none] t) = _
  have e : b__law_wrong k L0 [some (.cl k), none, none] t = .ok (.rt (.d y)) t' := by
    unfold b__law_wrong
    refine sSeq_rt ?_
    unfold sTry
    rw [sExp_ex ((cl_at k L0 t).trans h)]
    dsimp only
    rw [hx]
    dsimp only
    rw [hs]
    rfl
  rw [e]
  show R.ok _ (t'.take (max t.length 0)) = _
  rw [take_m hl]
theorem go_nx {a b : Sm Out} {env : Dl.Env} {s : Ts} {r : R Out} (e1 : Dl.Env) (s1 : Ts) (h : a env s = .ok (.nx e1) s1) (h2 : b e1 s1 = r) : sSeq a b env s = r := (sSeq_nx h).trans h2
theorem go_if {c : Sm Bool} {a b : Sm Out} {env : Dl.Env} {s : Ts} {r : R Out} {v : Bool} (s1 : Ts) (h : c env s = .ok v s1) (hv : v = false) (h2 : b env s1 = r) : sSeq (sIf c a (lift pNx)) b env s = r := (sSeq_nx ((sIf_f (hv ▸ h)).trans (l_of (g := pNx) (x := Out.nx env) rfl))).trans h2
end My
set_option maxRecDepth 100000
set_option maxHeartbeats 4000000
/-! designs and entries, their errors -/
namespace My
open PySem L2 Dl

def hm (d : De) : Ki → PyData
  | .put => .str d.h1.e.s
  | .show_ => .str d.h2.e.s
  | .if_ => .none
  | _ => .str d.h0.e.s
theorem home_in_eq (d : De) (k : Ki) : m_home_in [.d (encD d), .d (.str k.s)] = some (.d (hm d k)) := by
  obtain ⟨w, x, y, h0, h1, h2, T⟩ := d
  cases h0 <;> cases h1 <;> cases h2 <;> cases k <;> kernel_rfl
theorem homeL_eq (d : De) (k : Ki) : m__law_home [.d (encD d), .d (.str k.s)] = some (.d (hm d k)) := by
  obtain ⟨w, x, y, h0, h1, h2, T⟩ := d
  cases h0 <;> cases h1 <;> cases h2 <;> cases k <;> kernel_rfl
theorem alike_hm (d : De) (k : Ki) : m__law_alike [.d (hm d k), .d (hm d k)] = some (.d (.bool true)) := by
  obtain ⟨w, x, y, h0, h1, h2, T⟩ := d
  cases h0 <;> cases h1 <;> cases h2 <;> cases k <;> kernel_rfl
theorem need_design_ok (d : De) (h : Des d) (t : Ts) : m_need_design [.d (encD d)] t = .ok (.d .none) t := by
  apply n_need_design
  · unfold b_need_design
    have := design_ok d h
    walk_at "ev"
  · rfl
  · rfl
theorem need_design_no {x : PyData} (h : m_is_design [.d x] = some (.d (.bool false))) (t : Ts) : m_need_design [.d x] t = .ex ⟨"BadDesign", none⟩ t := by
  apply x_need_design
  · unfold b_need_design
    walk_at "ev"
  · rfl
  · rfl
theorem home_ok (d : De) (h : Des d) (k : Ki) (t : Ts) : m_home_of [.d (encD d), .d (.str k.s)] t = .ok (.d (hm d k)) t := by
  have h1 := need_design_ok d h t
  have h2 := kind_eq k
  have h3 := home_in_eq d k
  apply d_home_of
  · unfold b_home_of
    walk_at "ev"
  · rfl
  · rfl
theorem home_no (d : De) (h : Des d) {x : PyData} (hx : m_is_kind [.d x] = some (.d (.bool false))) (t : Ts) : m_home_of [.d (encD d), .d x] t = .ex ⟨"BadKind", none⟩ t := by
  have h1 := need_design_ok d h t
  apply x_home_of
  · unfold b_home_of
    walk_at "ev"
  · rfl
  · rfl
theorem number_eq (p : Ev) : m_number_of [.d (.str p.s)] = some (.d (.int (p.n : Nat))) := by cases p <;> kernel_rfl
theorem evn_ok (p : Ev) (t : Ts) : m_event_number [.d (.str p.s)] t = .ok (.d (.int (p.n : Nat))) t := by
  have h1 := event_eq p
  have h2 := number_eq p
  apply d_event_number
  · unfold b_event_number
    walk_at "ev"
  · rfl
  · rfl
theorem evn_no {x : PyData} (hx : m_is_event [.d x] = some (.d (.bool false))) (t : Ts) : m_event_number [.d x] t = .ex ⟨"BadEvent", none⟩ t := by
  apply x_event_number
  · unfold b_event_number
    walk_at "ev"
  · rfl
  · rfl
theorem need_entry_no {x : PyData} (hx : m_is_entry [.d x] = some (.d (.bool false))) (t : Ts) : m_need_entry [.d x] t = .ex ⟨"BadEntry", none⟩ t := by
  apply x_need_entry
  · unfold b_need_entry
    walk_at "ev"
  · rfl
  · rfl
theorem with_ok (d : De) (h : Des d) (t : Ts) : m_with_table [.d (encD d), .d (.tuple [])] t = .ok (.d (.tuple [.int d.w, .bool d.x, .bool d.y, encH d, .tuple []])) t := by
  have h1 := need_design_ok d h t
  have h2 : m_is_table [.d (.tuple [])] = some (.d (.bool true)) := by kernel_rfl
  apply d_with_table
  · unfold b_with_table
    walk_at "ev"
  · rfl
  · rfl
theorem with_no (d : De) (h : Des d) {x : PyData} (hx : m_is_table [.d x] = some (.d (.bool false))) (t : Ts) : m_with_table [.d (encD d), .d x] t = .ex ⟨"BadTable", none⟩ t := by
  have h1 := need_design_ok d h t
  apply x_with_table
  · unfold b_with_table
    walk_at "ev"
  · rfl
  · rfl
def bads (e : En) : List PyData := [.none, .tuple [], .tuple [.str e.r.s, .str e.a.s, .str e.b.s, .str e.p.s], .tuple [.str e.r.s, .str e.a.s, .str e.b.s, .str e.p.s, .str e.q.s, .str "out"], .list [.str e.r.s, .str e.a.s, .str e.b.s, .str e.p.s, .str e.q.s],
  .tuple [.str "all", .str e.a.s, .str e.b.s, .str e.p.s, .str e.q.s], .tuple [.str e.r.s, .str "add", .str e.b.s, .str e.p.s, .str e.q.s], .tuple [.str e.r.s, .str e.a.s, .str e.b.s, .str "lay", .str "out"],
  .tuple [.str e.r.s, .str e.a.s, .str e.b.s, .str e.p.s, .str ""], .tuple [.str e.r.s, .str e.a.s, .str e.b.s, .int 4, .str "out"], .tuple [.str e.r.s, .str e.a.s, .str e.b.s, .str e.p.s, .none], .str "any", .tuple [.none, .none, .none, .none, .none]]
theorem entry_no {r : Re} {a b : Ki} {p q : PyData} (h : m_is_event [.d p] = some (.d (.bool false)) ∨ (∃ e : Ev, p = .str e.s) ∧ m_is_event [.d q] = some (.d (.bool false))) : m_is_entry [.d (.tuple [.str r.s, .str a.s, .str b.s, p, q])] = some (.d (.bool false)) := by
  have h1 := list5 (.str r.s) (.str a.s) (.str b.s) p q
  have h2 := kind_eq a
  have h3 := kind_eq b
  apply o_is_entry
  · unfold b_is_entry
    rcases h with h | ⟨⟨e, rfl⟩, h⟩
    · walk_at "ev"
    · have h4 := event_eq e
      walk_at "ev"
  · rfl
theorem bads_no (e : En) : ∀ x ∈ bads e, m_is_entry [.d x] = some (.d (.bool false)) := by
  intro x hx
  have k1 : m_is_event [.d (.int 4)] = some (.d (.bool false)) := by kernel_rfl
  have k2 : m_is_event [.d (.str "")] = some (.d (.bool false)) := by kernel_rfl
  have k3 : m_is_event [.d .none] = some (.d (.bool false)) := by kernel_rfl
  unfold bads at hx
  simp only [List.mem_cons, List.not_mem_nil, or_false] at hx
  rcases hx with rfl | rfl | rfl | rfl | rfl | rfl | rfl | rfl | rfl | rfl | rfl | rfl | rfl
  · kernel_rfl
  · kernel_rfl
  · kernel_rfl
  · kernel_rfl
  · kernel_rfl
  · kernel_rfl
  · obtain ⟨r, a, b, p, q⟩ := e
    cases r <;> kernel_rfl
  · exact entry_eq { e with p := .lay, q := .out }
  · exact entry_no (.inr ⟨⟨_, rfl⟩, k2⟩)
  · exact entry_no (.inl k1)
  · exact entry_no (.inr ⟨⟨_, rfl⟩, k3⟩)
  · kernel_rfl
  · kernel_rfl
def tabs (x : PyData) : List PyData := [.none, .list [], .tuple [x], .tuple [enc ⟨.any, .get, .put, .read, .lay⟩, enc ⟨.any, .get, .put, .read, .lay⟩], .tuple [enc ⟨.any, .get, .put, .read, .lay⟩, enc ⟨.any, .get, .put, .make, .lay⟩], .tuple [enc ⟨.any, .set, .set, .out, .out⟩, enc ⟨.any, .get, .put, .read, .lay⟩]]
theorem tabs_no {x : PyData} (h : m_is_entry [.d x] = some (.d (.bool false))) : ∀ y ∈ tabs x, m_is_table [.d y] = some (.d (.bool false)) := by
  intro y hy
  unfold tabs at hy
  simp only [List.mem_cons, List.not_mem_nil, or_false] at hy
  rcases hy with rfl | rfl | rfl | rfl | rfl | rfl
  · kernel_rfl
  · kernel_rfl
  · apply o_is_table
    · unfold b_is_table
      walk_at "ev"
    · rfl
  · kernel_rfl
  · kernel_rfl
  · kernel_rfl
theorem tabs_des (d : De) (h : Des d) {y : PyData} (hy : m_is_table [.d y] = some (.d (.bool false))) : m_is_design [.d (.tuple ([.int d.w, .bool d.x, .bool d.y, encH d] ++ [y]))] = some (.d (.bool false)) := by
  have h1 : m_is_list [.d (.tuple [.int d.w, .bool d.x, .bool d.y, encH d, y]), .d (.int 5), .d (.int 5)] = some (.d (.bool true)) := list_t _ 5 5
  have h2 : m_is_in [.d (.int d.w), .d (.int 1), .d (.int 4)] = some (.d (.bool true)) := by rw [in_eq, decide_eq_true h.w1, decide_eq_true h.w4]; rfl
  have h3 : m_is_list [.d (encH d), .d (.int 3), .d (.int 3)] = some (.d (.bool true)) := list_t _ 3 3
  show m_is_design [.d (.tuple [.int d.w, .bool d.x, .bool d.y, encH d, y])] = some (.d (.bool false))
  apply o_is_design
  · unfold b_is_design
    walk_at "ev"
  · rfl
def odes (d : De) : List PyData := [.none, .tuple [], .tuple [.int d.w, .bool d.x, .bool d.y, encH d], .list [.int d.w, .bool d.x, .bool d.y, encH d, encT d.T], .tuple [.int 0, .bool d.x, .bool d.y, encH d, encT d.T], .tuple [.int 5, .bool d.x, .bool d.y, encH d, encT d.T], .tuple [.bool true, .bool d.x, .bool d.y, encH d, encT d.T], .tuple [.int d.w, .int 1, .bool d.y, encH d, encT d.T],
  .tuple [.int d.w, .bool d.x, .none, encH d, encT d.T], .tuple [.int d.w, .bool d.x, .bool d.y, .tuple [.str "out", .str "out"], encT d.T], .tuple [.int d.w, .bool d.x, .bool d.y, encH d, encT d.T, .tuple []],
  .tuple [.int d.w, .bool d.x, .bool d.y, .tuple [.str "out", .str "make", .str "out"], encT d.T], .tuple [.int d.w, .bool d.x, .bool d.y, .list [.str "out", .str "out", .str "out"], encT d.T]]
theorem odes_no (d : De) (h : Des d) : ∀ x ∈ odes d, m_is_design [.d x] = some (.d (.bool false)) := by
  intro x hx
  obtain ⟨w1, w4, _⟩ := h
  obtain ⟨w, a, b, h0, h1, h2, T⟩ := d
  have w1 : 1 ≤ w := w1
  have w4 : w ≤ 4 := w4
  have : w = 1 ∨ w = 2 ∨ w = 3 ∨ w = 4 := by omega
  unfold odes at hx
  simp only [List.mem_cons, List.not_mem_nil, or_false] at hx
  rcases this with rfl | rfl | rfl | rfl <;> rcases hx with rfl | rfl | rfl | rfl | rfl | rfl | rfl | rfl | rfl | rfl | rfl | rfl | rfl <;> kernel_rfl
end My
set_option maxRecDepth 100000
set_option maxHeartbeats 4000000
namespace My
open PySem L2 Dl

theorem wrong_w {k : Nat} {L0 : Ts → R D} {t t' : Ts} {c w : Str} (h : L0 t = .ex ⟨c, none⟩ t') (hl : t'.length = t.length) (hc : (c = "BadDesign" ∧ w = "design") ∨ (c = "BadEntry" ∧ w = "entry") ∨ (c = "BadEvent" ∧ w = "event") ∨ (c = "BadKind" ∧ w = "kind") ∨ (c = "BadTable" ∧ w = "table")) : m__law_wrong k L0 t = .ok (.d (.str w)) t' := by
  rcases hc with ⟨rfl, rfl⟩ | ⟨rfl, rfl⟩ | ⟨rfl, rfl⟩ | ⟨rfl, rfl⟩ | ⟨rfl, rfl⟩ <;> exact wrong_ex h hl (by kernel_rfl) fun t => by kernel_rfl
abbrev EnL (ns : List Int) (d : De) (a3 a4 a5 a6 a7 a8 a9 : Option D) : Dl.Env := [some (.sc ns), some (.r 0 []), some (.d (encD d)), a3, a4, a5, a6, a7, a8, a9, none]
theorem fin (ns : List Int) (h : ns.length ≤ 63) : ∃ t, b_law (startE 11 1 [.sc ns]) [] = .ok (.rt (.d (.bool true))) t := by
  let ρ0 : Row := ⟨ns, 0, 14394, 0⟩
  obtain ⟨d0, ρ1, e1, w1, w4, hT0, r1⟩ := bare_ok ρ0 [] (Int.le_refl 0)
  obtain ⟨T, ρ2, e2, hTab, hTl, _, r2⟩ := more_ok ρ1 [] r1 d0 hT0 (.tuple []) [] rfl (fun _ h => nomatch h) (by simp) 6 (by decide)
  let d : De := { d0 with T := T }
  have hd : Des d := ⟨w1, w4, hTab⟩
  have hT : d.T.length ≤ 6 := by simpa using hTl
  have e2 : m__law_more [.r 0 [], .d (encD d0), .d (.tuple []), .d (.int 6)] (ρ1.st []) = .ok (.d (encD d)) (ρ2.st []) := e2
  clear_value d
  obtain ⟨e, ρ3, e3, he, r3⟩ := entry_ok ρ2 [] r2
  obtain ⟨j1, ρ4, e4, hj1, r4⟩ := taken_ok ρ3 [] r3 13 (by decide) (by decide)
  obtain ⟨x1, hx1⟩ : ∃ x, (bads e)[j1]? = some x := ⟨_, List.getElem?_eq_getElem (by show j1 < 13; omega)⟩
  have hx1e := bads_no e x1 (List.mem_of_getElem? hx1)
  obtain ⟨v1, ρ5, e5, hv1, r5⟩ := taken_ok ρ4 [] r4 2 (by decide) (by decide)
  obtain ⟨j2, ρ6, e6, hj2, r6⟩ := taken_ok ρ5 [] r5 6 (by decide) (by decide)
  obtain ⟨x2, hx2⟩ : ∃ x, (tabs x1)[j2]? = some x := ⟨_, List.getElem?_eq_getElem (by show j2 < 6; omega)⟩
  have hx2t := tabs_no hx1e x2 (List.mem_of_getElem? hx2)
  obtain ⟨j3, ρ7, e7, hj3, r7⟩ := taken_ok ρ6 [] r6 13 (by decide) (by decide)
  obtain ⟨x3, hx3⟩ : ∃ x, (odes d)[j3]? = some x := ⟨_, List.getElem?_eq_getElem (by show j3 < 13; omega)⟩
  have hx3d := odes_no d hd x3 (List.mem_of_getElem? hx3)
  obtain ⟨v2, ρ8, e8, hv2, r8⟩ := taken_ok ρ7 [] r7 4 (by decide) (by decide)
  obtain ⟨q1, y1, ρ9, e9, hy1, r9⟩ := pick_ok ρ8 [] r8 [.none, .str "", .str "Set", .int 5, .tuple [.str "set"]] (by simp) (by simp)
  obtain ⟨q2, y2, ρ10, e10, hy2, r10⟩ := pick_ok ρ9 [] r9 [.none, .str "", .str "Lay", .int 0, .tuple [.str "lay"], .str "done"] (by simp) (by simp)
  refine ⟨ρ10.st [], ?_⟩
  show b_law [some (.sc ns), none, none, none, none, none, none, none, none, none, none] [] = _
  unfold b_law
  have n0 : newLs [.sc ns, .d (.int 0), .d (.int 14394), .d (.int 0)] [] = .ok (.r 0 []) (ρ0.st []) := nl_of rfl (by simp)
  refine go_nx [some (.sc ns), some (.r 0 []), none, none, none, none, none, none, none, none, none] (ρ0.st []) (by walk_at "ev") ?_
  refine go_nx (EnL ns d none none none none none none none) (ρ2.st []) (by walk_at "ev") ?_
  have a1 := design_ok d hd
  have a2 := with_ok d hd (ρ2.st [])
  have a3 : fAdd (.d (.tuple [.int d.w, .bool d.x, .bool d.y, encH d])) (.d (.tuple [.tuple []])) = some (.d (.tuple [.int d.w, .bool d.x, .bool d.y, encH d, .tuple []])) := lf_addt (by simp)
  have a4 : fNe (.d (.tuple [.int d.w, .bool d.x, .bool d.y, encH d, .tuple []])) (.d (.tuple [.int d.w, .bool d.x, .bool d.y, encH d, .tuple []])) = some (.d (.bool false)) := ne_refl (okA_D (d := { d with T := [] }) (by simp)) (Nat.le_trans (dpt_D { d with T := [] }) (by decide))
  refine go_if (v := false) (ρ2.st []) (by walk_at "ev") rfl ?_
  have hk (k : Ki) := home_ok d hd k (ρ2.st [])
  have hL (k : Ki) := homeL_eq d k
  have hA (k : Ki) := alike_hm d k
  refine go_nx (EnL ns d (some (.d (.str "show"))) none none none none none none) (ρ2.st []) ?_ ?_
  · have k1 : m_home_of [.d (encD d), .d (.str "set")] (ρ2.st []) = .ok (.d (hm d .set)) (ρ2.st []) := hk .set
    have k2 : m_home_of [.d (encD d), .d (.str "sum")] (ρ2.st []) = .ok (.d (hm d .sum)) (ρ2.st []) := hk .sum
    have k3 : m_home_of [.d (encD d), .d (.str "get")] (ρ2.st []) = .ok (.d (hm d .get)) (ρ2.st []) := hk .get
    have k4 : m_home_of [.d (encD d), .d (.str "put")] (ρ2.st []) = .ok (.d (hm d .put)) (ρ2.st []) := hk .put
    have k5 : m_home_of [.d (encD d), .d (.str "if")] (ρ2.st []) = .ok (.d (hm d .if_)) (ρ2.st []) := hk .if_
    have k6 : m_home_of [.d (encD d), .d (.str "show")] (ρ2.st []) = .ok (.d (hm d .show_)) (ρ2.st []) := hk .show_
    have l1 : m__law_home [.d (encD d), .d (.str "set")] = some (.d (hm d .set)) := hL .set
    have l2 : m__law_home [.d (encD d), .d (.str "sum")] = some (.d (hm d .sum)) := hL .sum
    have l3 : m__law_home [.d (encD d), .d (.str "get")] = some (.d (hm d .get)) := hL .get
    have l4 : m__law_home [.d (encD d), .d (.str "put")] = some (.d (hm d .put)) := hL .put
    have l5 : m__law_home [.d (encD d), .d (.str "if")] = some (.d (hm d .if_)) := hL .if_
    have l6 : m__law_home [.d (encD d), .d (.str "show")] = some (.d (hm d .show_)) := hL .show_
    have b1 := hA .set
    have b2 := hA .sum
    have b3 := hA .get
    have b4 := hA .put
    have b5 := hA .if_
    have b6 := hA .show_
    walk_at "ev"
  have v0 : m_event_number [.d (.str "lay")] (ρ2.st []) = .ok (.d (.int 0)) (ρ2.st []) := evn_ok .lay _
  have v1' : m_event_number [.d (.str "read")] (ρ2.st []) = .ok (.d (.int 1)) (ρ2.st []) := evn_ok .read _
  have v2' : m_event_number [.d (.str "make")] (ρ2.st []) = .ok (.d (.int 2)) (ρ2.st []) := evn_ok .make _
  have v3 : m_event_number [.d (.str "write")] (ρ2.st []) = .ok (.d (.int 3)) (ρ2.st []) := evn_ok .write _
  have v4 : m_event_number [.d (.str "out")] (ρ2.st []) = .ok (.d (.int 4)) (ρ2.st []) := evn_ok .out _
  have v5 : fNe (.d (.list [.int 0, .int 1, .int 2, .int 3, .int 4])) (.d (.list [.int 0, .int 1, .int 2, .int 3, .int 4])) = some (.d (.bool false)) := by kernel_rfl
  refine go_if (v := false) (ρ2.st []) (by walk_at "ev") rfl ?_
  clear v0 v1' v2' v3 v4 v5 hk hL hA a1 a2 a3 a4
  refine go_nx (EnL ns d (some (.d (.str "show"))) (some (.d (enc ⟨.any, .get, .put, .read, .lay⟩))) (some (.d (enc e))) none none none none) (ρ3.st []) ?_ ?_
  · have t1 : mTup [.d (.str "any"), .d (.str "get"), .d (.str "put"), .d (.str "read"), .d (.str "lay")] = some (.d (enc ⟨.any, .get, .put, .read, .lay⟩)) := by kernel_rfl
    walk_at "ev"
  generalize hF : D.d (enc ⟨.any, .get, .put, .read, .lay⟩) = F
  refine go_nx (EnL ns d (some (.d (.str "show"))) (some F) (some (.d (enc e))) (some (.d (.list ((bads e).take 8)))) none none none) (ρ3.st []) (l_of (pAsg_of (x := .d (.list ((bads e).take 8))) (by kernel_rfl) rfl)) ?_
  refine go_nx (EnL ns d (some (.d (.str "show"))) (some F) (some (.d (enc e))) (some (.d (.list (bads e)))) none none none) (ρ3.st []) (l_of (pAsg_of (x := .d (.list (bads e))) (by kernel_rfl) rfl)) ?_
  have o1 : fIx (.d (.list (bads e))) (.d (.int (j1 : Nat))) = some (.d x1) := ix_l hx1
  have o2 : cLen [.d (.list (bads e))] = some (.d (.int 13)) := rfl
  refine go_nx (EnL ns d (some (.d (.str "show"))) (some F) (some (.d (enc e))) (some (.d (.list (bads e)))) (some (.d x1)) none none) (ρ4.st []) (by walk_at "ev") ?_
  have o3 : mLst [.cl 0, .cl 1] = some (.ls [.cl 0, .cl 1]) := by kernel_rfl
  refine go_nx (EnL ns d (some (.d (.str "show"))) (some F) (some (.d (enc e))) (some (.d (.list (bads e)))) (some (.d x1)) (some (.ls [.cl 0, .cl 1])) none) (ρ4.st []) (by walk_at "ev") ?_
  have qe : fNe (.d (.str "entry")) (.d (.str "entry")) = some (.d (.bool false)) := by kernel_rfl
  have qq : m_is_entry [.d (enc e)] = some (.d (.bool true)) := by rw [entry_eq, decide_eq_false he]; rfl
  refine go_if (v := false) (ρ5.st []) ?_ rfl ?_
  · have nd := need_design_ok d hd (ρ5.st [])
    have ne := need_entry_no hx1e (ρ5.st [])
    have f1 : m_may_hold [.d x1] (ρ5.st []) = .ex ⟨"BadEntry", none⟩ (ρ5.st []) := by
      apply x_may_hold
      · unfold b_may_hold
        walk_at "ev"
      · rfl
      · rfl
    have f2 : m_is_forced [.d (encD d), .d x1] (ρ5.st []) = .ex ⟨"BadEntry", none⟩ (ρ5.st []) := by
      apply x_is_forced
      · unfold b_is_forced
        walk_at "ev"
      · rfl
      · rfl
    have : v1 = 0 ∨ v1 = 1 := by omega
    rcases this with rfl | rfl
    · have g : m__law_wrong 0 (lb_law 0 (EnL ns d (some (.d (.str "show"))) (some F) (some (.d (enc e))) (some (.d (.list (bads e)))) (some (.d x1)) (some (.ls [.cl 0, .cl 1])) none)) (ρ5.st []) = .ok (.d (.str "entry")) (ρ5.st []) := by
        refine wrong_w ?_ rfl (.inr (.inl ⟨rfl, rfl⟩))
        show lam_law_0 _ _ = _
        walk_at "ev"
      have ii : fIx (.ls [.cl 0, .cl 1]) (.d (.int ((0 : Nat) : Int))) = some (.cl 0) := rfl
      walk_at "ev"
    · have g : m__law_wrong 1 (lb_law 1 (EnL ns d (some (.d (.str "show"))) (some F) (some (.d (enc e))) (some (.d (.list (bads e)))) (some (.d x1)) (some (.ls [.cl 0, .cl 1])) none)) (ρ5.st []) = .ok (.d (.str "entry")) (ρ5.st []) := by
        refine wrong_w ?_ rfl (.inr (.inl ⟨rfl, rfl⟩))
        show lam_law_1 _ _ = _
        walk_at "ev"
      have ii : fIx (.ls [.cl 0, .cl 1]) (.d (.int ((1 : Nat) : Int))) = some (.cl 1) := rfl
      walk_at "ev"
  clear o1 o2 o3 qe qq
  generalize D.ls [.cl 0, .cl 1] = W1
  refine go_nx (EnL ns d (some (.d (.str "show"))) (some F) (some (.d (enc e))) (some (.d (.list (tabs x1)))) (some (.d x1)) (some W1) none) (ρ5.st []) (by subst hF; exact l_of (pAsg_of (x := .d (.list (tabs x1))) (by kernel_rfl) rfl)) ?_
  have o1 : fIx (.d (.list (tabs x1))) (.d (.int (j2 : Nat))) = some (.d x2) := ix_l hx2
  refine go_nx (EnL ns d (some (.d (.str "show"))) (some F) (some (.d (enc e))) (some (.d (.list (tabs x1)))) (some (.d x1)) (some W1) (some (.d x2))) (ρ6.st []) (by walk_at "ev") ?_
  refine go_if (v := false) (ρ6.st []) ?_ rfl ?_
  · have nd := with_no d hd hx2t (ρ6.st [])
    have fa : fAdd (.d (.tuple [.int d.w, .bool d.x, .bool d.y, encH d])) (.d (.tuple [x2])) = some (.d (.tuple ([.int d.w, .bool d.x, .bool d.y, encH d] ++ [x2]))) := lf_addt (by simp)
    have fd := tabs_des d hd hx2t
    have qt : fNe (.d (.str "table")) (.d (.str "table")) = some (.d (.bool false)) := by kernel_rfl
    have g : m__law_wrong 2 (lb_law 2 (EnL ns d (some (.d (.str "show"))) (some F) (some (.d (enc e))) (some (.d (.list (tabs x1)))) (some (.d x1)) (some W1) (some (.d x2)))) (ρ6.st []) = .ok (.d (.str "table")) (ρ6.st []) := by
      refine wrong_w ?_ rfl (.inr (.inr (.inr (.inr ⟨rfl, rfl⟩))))
      show lam_law_2 _ _ = _
      walk_at "ev"
    walk_at "ev"
  clear o1
  refine go_nx (EnL ns d (some (.d (.str "show"))) (some F) (some (.d (enc e))) (some (.d (.list ((odes d).take 8)))) (some (.d x1)) (some W1) (some (.d x2))) (ρ6.st []) (l_of (pAsg_of (x := .d (.list ((odes d).take 8))) (by kernel_rfl) rfl)) ?_
  refine go_nx (EnL ns d (some (.d (.str "show"))) (some F) (some (.d (enc e))) (some (.d (.list ((odes d).take 11)))) (some (.d x1)) (some W1) (some (.d x2))) (ρ6.st []) (l_of (pAsg_of (x := .d (.list ((odes d).take 11))) (by kernel_rfl) rfl)) ?_
  refine go_nx (EnL ns d (some (.d (.str "show"))) (some F) (some (.d (enc e))) (some (.d (.list (odes d)))) (some (.d x1)) (some W1) (some (.d x2))) (ρ6.st []) (l_of (pAsg_of (x := .d (.list (odes d))) (by kernel_rfl) rfl)) ?_
  have o1 : fIx (.d (.list (odes d))) (.d (.int (j3 : Nat))) = some (.d x3) := ix_l hx3
  have o2 : cLen [.d (.list (odes d))] = some (.d (.int 13)) := rfl
  refine go_nx (EnL ns d (some (.d (.str "show"))) (some F) (some (.d (enc e))) (some (.d (.list (odes d)))) (some (.d x3)) (some W1) (some (.d x2))) (ρ7.st []) (by walk_at "ev") ?_
  have o3 : mLst [.cl 3, .cl 4, .cl 5, .cl 6] = some (.ls [.cl 3, .cl 4, .cl 5, .cl 6]) := by kernel_rfl
  refine go_nx (EnL ns d (some (.d (.str "show"))) (some F) (some (.d (enc e))) (some (.d (.list (odes d)))) (some (.d x3)) (some (.ls [.cl 3, .cl 4, .cl 5, .cl 6])) (some (.d x2))) (ρ7.st []) (by walk_at "ev") ?_
  refine go_if (v := false) (ρ8.st []) ?_ rfl ?_
  · have nd := need_design_no hx3d (ρ8.st [])
    have qt : fNe (.d (.str "design")) (.d (.str "design")) = some (.d (.bool false)) := by kernel_rfl
    have f3 : m_home_of [.d x3, .d (.str "set")] (ρ8.st []) = .ex ⟨"BadDesign", none⟩ (ρ8.st []) := by
      apply x_home_of
      · unfold b_home_of
        walk_at "ev"
      · rfl
      · rfl
    have f4 : m_with_table [.d x3, .d .none] (ρ8.st []) = .ex ⟨"BadDesign", none⟩ (ρ8.st []) := by
      apply x_with_table
      · unfold b_with_table
        walk_at "ev"
      · rfl
      · rfl
    have f5 : m_needs [.d x3] (ρ8.st []) = .ex ⟨"BadDesign", none⟩ (ρ8.st []) := by
      apply x_needs
      · unfold b_needs
        walk_at "ev"
      · rfl
      · rfl
    have f6 : m_is_forced [.d x3, .d .none] (ρ8.st []) = .ex ⟨"BadDesign", none⟩ (ρ8.st []) := by
      apply x_is_forced
      · unfold b_is_forced
        walk_at "ev"
      · rfl
      · rfl
    have g (k : Nat) (h : lb_law k (EnL ns d (some (.d (.str "show"))) (some F) (some (.d (enc e))) (some (.d (.list (odes d)))) (some (.d x3)) (some (.ls [.cl 3, .cl 4, .cl 5, .cl 6])) (some (.d x2))) (ρ8.st []) = .ex ⟨"BadDesign", none⟩ (ρ8.st [])) :
        m__law_wrong k (lb_law k (EnL ns d (some (.d (.str "show"))) (some F) (some (.d (enc e))) (some (.d (.list (odes d)))) (some (.d x3)) (some (.ls [.cl 3, .cl 4, .cl 5, .cl 6])) (some (.d x2)))) (ρ8.st []) = .ok (.d (.str "design")) (ρ8.st []) := wrong_w h rfl (.inl ⟨rfl, rfl⟩)
    have : v2 = 0 ∨ v2 = 1 ∨ v2 = 2 ∨ v2 = 3 := by omega
    rcases this with rfl | rfl | rfl | rfl
    · have g := g 3 (by show lam_law_3 _ _ = _; walk_at "ev")
      have ii : fIx (.ls [.cl 3, .cl 4, .cl 5, .cl 6]) (.d (.int ((0 : Nat) : Int))) = some (.cl 3) := rfl
      walk_at "ev"
    · have g := g 4 (by show lam_law_4 _ _ = _; walk_at "ev")
      have ii : fIx (.ls [.cl 3, .cl 4, .cl 5, .cl 6]) (.d (.int ((1 : Nat) : Int))) = some (.cl 4) := rfl
      walk_at "ev"
    · have g := g 5 (by show lam_law_5 _ _ = _; walk_at "ev")
      have ii : fIx (.ls [.cl 3, .cl 4, .cl 5, .cl 6]) (.d (.int ((2 : Nat) : Int))) = some (.cl 5) := rfl
      walk_at "ev"
    · have g := g 6 (by show lam_law_6 _ _ = _; walk_at "ev")
      have ii : fIx (.ls [.cl 3, .cl 4, .cl 5, .cl 6]) (.d (.int ((3 : Nat) : Int))) = some (.cl 6) := rfl
      walk_at "ev"
  clear o1 o2 o3
  generalize D.ls [.cl 3, .cl 4, .cl 5, .cl 6] = W2
  have g7 : m__law_wrong 7 (lb_law 7 (EnL ns d (some (.d (.str "show"))) (some F) (some (.d (enc e))) (some (.d (.list (odes d)))) (some (.d x3)) (some W2) (some (.d x2)))) (ρ8.st []) = .ok (.d (.str "kind")) (ρ9.st []) := by
    refine wrong_w ?_ rfl (.inr (.inr (.inr (.inl ⟨rfl, rfl⟩))))
    have ky : m_is_kind [.d y1] = some (.d (.bool false)) := by
      have := List.mem_of_getElem? hy1
      simp only [List.mem_cons, List.not_mem_nil, or_false] at this
      rcases this with rfl | rfl | rfl | rfl | rfl <;> kernel_rfl
    have := home_no d hd ky (ρ9.st [])
    show lam_law_7 _ _ = _
    walk_at "ev"
  have qk : fNe (.d (.str "kind")) (.d (.str "kind")) = some (.d (.bool false)) := by kernel_rfl
  refine go_if (v := false) (ρ9.st []) (by walk_at "ev") rfl ?_
  have g8 : m__law_wrong 8 (lb_law 8 (EnL ns d (some (.d (.str "show"))) (some F) (some (.d (enc e))) (some (.d (.list (odes d)))) (some (.d x3)) (some W2) (some (.d x2)))) (ρ9.st []) = .ok (.d (.str "event")) (ρ10.st []) := by
    refine wrong_w ?_ rfl (.inr (.inr (.inl ⟨rfl, rfl⟩)))
    have ky : m_is_event [.d y2] = some (.d (.bool false)) := by
      have := List.mem_of_getElem? hy2
      simp only [List.mem_cons, List.not_mem_nil, or_false] at this
      rcases this with rfl | rfl | rfl | rfl | rfl | rfl <;> kernel_rfl
    have := evn_no ky (ρ10.st [])
    show lam_law_8 _ _ = _
    walk_at "ev"
  have qv : fEq (.d (.str "event")) (.d (.str "event")) = some (.d (.bool true)) := by kernel_rfl
  walk_at "ev"
end My
set_option maxRecDepth 100000
set_option maxHeartbeats 4000000
namespace My
open PySem L2 Dl
theorem all_mk {l : PySem.W.OpenLaw} {w : World} {K : PySem.W.Frag} {h : Heap} {mg : Str → Option Value} {fa : Addr} (X : K.In h) (G : h.Ns mainGlobals mg) (hfa : mg "law" = some (.ref fa)) (own : LamX.OwnTab K fa h)
  {t_EVENTS_0 : Tok}
  {t_EVENTS_1 : Tok}
  {t_EVENTS_2 : Tok}
  {t_EVENTS_3 : Tok}
  {t_EVENTS_4 : Tok}
  {a_EVENTS : Addr} {n_EVENTS : Nat} {sl_EVENTS : Array (Option Value)}
  {t_KINDS_0 : Tok}
  {t_KINDS_1 : Tok}
  {t_KINDS_2 : Tok}
  {t_KINDS_3 : Tok}
  {t_KINDS_4 : Tok}
  {t_KINDS_5 : Tok}
  {a_KINDS : Addr} {n_KINDS : Nat} {sl_KINDS : Array (Option Value)}
  {t_MOST_WIDTH : Tok}
  {t_RELATIONS_0 : Tok}
  {t_RELATIONS_1 : Tok}
  {t_RELATIONS_2 : Tok}
  {t_RELATIONS_3 : Tok}
  {t_RELATIONS_4 : Tok}
  {t_RELATIONS_5 : Tok}
  {t_RELATIONS_6 : Tok}
  {t_RELATIONS_7 : Tok}
  {a_RELATIONS : Addr} {n_RELATIONS : Nat} {sl_RELATIONS : Array (Option Value)}
  {t_STORES_0_0 : Tok}
  {t_STORES_0_1 : Tok}
  {a_STORES_0 : Addr} {n_STORES_0 : Nat} {sl_STORES_0 : Array (Option Value)}
  {t_STORES_1_0 : Tok}
  {t_STORES_1_1 : Tok}
  {a_STORES_1 : Addr} {n_STORES_1 : Nat} {sl_STORES_1 : Array (Option Value)}
  {t_STORES_2_0 : Tok}
  {t_STORES_2_1 : Tok}
  {a_STORES_2 : Addr} {n_STORES_2 : Nat} {sl_STORES_2 : Array (Option Value)}
  {a_STORES : Addr} {n_STORES : Nat} {sl_STORES : Array (Option Value)}
  {t_WRITING_0 : Tok}
  {t_WRITING_1 : Tok}
  {t_WRITING_2 : Tok}
  {a_WRITING : Addr} {n_WRITING : Nat} {sl_WRITING : Array (Option Value)}
  {C_WindowError : Addr}
  {C_BadEvent : Addr}
  {C_BadEntry : Addr}
  {C_BadDesign : Addr}
  {C_BadKind : Addr}
  {C_BadTable : Addr}
  {f__law_taken : Addr} {oc__law_taken kV__law_taken dc__law_taken pm__law_taken ct__law_taken : Value} {od__law_taken an__law_taken : Option Addr} {sl__law_taken : Array (Option Value)}
  {cd__law_taken : Value}
  {f__law_pick : Addr} {oc__law_pick kV__law_pick dc__law_pick pm__law_pick ct__law_pick : Value} {od__law_pick an__law_pick : Option Addr} {sl__law_pick : Array (Option Value)}
  {cd__law_pick : Value}
  {f__law_entry : Addr} {oc__law_entry kV__law_entry dc__law_entry pm__law_entry ct__law_entry : Value} {od__law_entry an__law_entry : Option Addr} {sl__law_entry : Array (Option Value)}
  {cd__law_entry : Value}
  {f__law_more : Addr} {oc__law_more kV__law_more dc__law_more pm__law_more ct__law_more : Value} {od__law_more an__law_more : Option Addr} {sl__law_more : Array (Option Value)}
  {cd__law_more : Value}
  {f__law_bare : Addr} {oc__law_bare kV__law_bare dc__law_bare pm__law_bare ct__law_bare : Value} {od__law_bare an__law_bare : Option Addr} {sl__law_bare : Array (Option Value)}
  {cd__law_bare : Value}
  {f__law_wrong : Addr} {oc__law_wrong kV__law_wrong dc__law_wrong pm__law_wrong ct__law_wrong : Value} {od__law_wrong an__law_wrong : Option Addr} {sl__law_wrong : Array (Option Value)}
  {cd__law_wrong : Value}
  {f_is_list : Addr} {oc_is_list kV_is_list dc_is_list pm_is_list ct_is_list : Value} {od_is_list an_is_list : Option Addr} {sl_is_list : Array (Option Value)}
  {cd_is_list : Value}
  {f_is_kind : Addr} {oc_is_kind kV_is_kind dc_is_kind pm_is_kind ct_is_kind : Value} {od_is_kind an_is_kind : Option Addr} {sl_is_kind : Array (Option Value)}
  {cd_is_kind : Value}
  {f_is_event : Addr} {oc_is_event kV_is_event dc_is_event pm_is_event ct_is_event : Value} {od_is_event an_is_event : Option Addr} {sl_is_event : Array (Option Value)}
  {cd_is_event : Value}
  {f_is_entry : Addr} {oc_is_entry kV_is_entry dc_is_entry pm_is_entry ct_is_entry : Value} {od_is_entry an_is_entry : Option Addr} {sl_is_entry : Array (Option Value)}
  {cd_is_entry : Value}
  {f_is_table : Addr} {oc_is_table kV_is_table dc_is_table pm_is_table ct_is_table : Value} {od_is_table an_is_table : Option Addr} {sl_is_table : Array (Option Value)}
  {cd_is_table : Value}
  {f_is_integer : Addr} {oc_is_integer kV_is_integer dc_is_integer pm_is_integer ct_is_integer : Value} {od_is_integer an_is_integer : Option Addr} {sl_is_integer : Array (Option Value)}
  {cd_is_integer : Value}
  {f_is_in : Addr} {oc_is_in kV_is_in dc_is_in pm_is_in ct_is_in : Value} {od_is_in an_is_in : Option Addr} {sl_is_in : Array (Option Value)}
  {cd_is_in : Value}
  {f_is_design : Addr} {oc_is_design kV_is_design dc_is_design pm_is_design ct_is_design : Value} {od_is_design an_is_design : Option Addr} {sl_is_design : Array (Option Value)}
  {cd_is_design : Value}
  {f_need_design : Addr} {oc_need_design kV_need_design dc_need_design pm_need_design ct_need_design : Value} {od_need_design an_need_design : Option Addr} {sl_need_design : Array (Option Value)}
  {cd_need_design : Value}
  {f_with_table : Addr} {oc_with_table kV_with_table dc_with_table pm_with_table ct_with_table : Value} {od_with_table an_with_table : Option Addr} {sl_with_table : Array (Option Value)}
  {cd_with_table : Value}
  {f__law_alike : Addr} {oc__law_alike kV__law_alike dc__law_alike pm__law_alike ct__law_alike : Value} {od__law_alike an__law_alike : Option Addr} {sl__law_alike : Array (Option Value)}
  {cd__law_alike : Value}
  {f_number_of : Addr} {oc_number_of kV_number_of dc_number_of pm_number_of ct_number_of : Value} {od_number_of an_number_of : Option Addr} {sl_number_of : Array (Option Value)}
  {cd_number_of : Value}
  {f_event_number : Addr} {oc_event_number kV_event_number dc_event_number pm_event_number ct_event_number : Value} {od_event_number an_event_number : Option Addr} {sl_event_number : Array (Option Value)}
  {cd_event_number : Value}
  {f_need_entry : Addr} {oc_need_entry kV_need_entry dc_need_entry pm_need_entry ct_need_entry : Value} {od_need_entry an_need_entry : Option Addr} {sl_need_entry : Array (Option Value)}
  {cd_need_entry : Value}
  {f_can_hold : Addr} {oc_can_hold kV_can_hold dc_can_hold pm_can_hold ct_can_hold : Value} {od_can_hold an_can_hold : Option Addr} {sl_can_hold : Array (Option Value)}
  {cd_can_hold : Value}
  {f_may_hold : Addr} {oc_may_hold kV_may_hold dc_may_hold pm_may_hold ct_may_hold : Value} {od_may_hold an_may_hold : Option Addr} {sl_may_hold : Array (Option Value)}
  {cd_may_hold : Value}
  {f_holds_always : Addr} {oc_holds_always kV_holds_always dc_holds_always pm_holds_always ct_holds_always : Value} {od_holds_always an_holds_always : Option Addr} {sl_holds_always : Array (Option Value)}
  {cd_holds_always : Value}
  {f_forces : Addr} {oc_forces kV_forces dc_forces pm_forces ct_forces : Value} {od_forces an_forces : Option Addr} {sl_forces : Array (Option Value)}
  {cd_forces : Value}
  {f_forced_by_table : Addr} {oc_forced_by_table kV_forced_by_table dc_forced_by_table pm_forced_by_table ct_forced_by_table : Value} {od_forced_by_table an_forced_by_table : Option Addr} {sl_forced_by_table : Array (Option Value)}
  {cd_forced_by_table : Value}
  {f_forced_in : Addr} {oc_forced_in kV_forced_in dc_forced_in pm_forced_in ct_forced_in : Value} {od_forced_in an_forced_in : Option Addr} {sl_forced_in : Array (Option Value)}
  {cd_forced_in : Value}
  {f_is_forced : Addr} {oc_is_forced kV_is_forced dc_is_forced pm_is_forced ct_is_forced : Value} {od_is_forced an_is_forced : Option Addr} {sl_is_forced : Array (Option Value)}
  {cd_is_forced : Value}
  {f_home_in : Addr} {oc_home_in kV_home_in dc_home_in pm_home_in ct_home_in : Value} {od_home_in an_home_in : Option Addr} {sl_home_in : Array (Option Value)}
  {cd_home_in : Value}
  {f_home_of : Addr} {oc_home_of kV_home_of dc_home_of pm_home_of ct_home_of : Value} {od_home_of an_home_of : Option Addr} {sl_home_of : Array (Option Value)}
  {cd_home_of : Value}
  {f_needs_in : Addr} {oc_needs_in kV_needs_in dc_needs_in pm_needs_in ct_needs_in : Value} {od_needs_in an_needs_in : Option Addr} {sl_needs_in : Array (Option Value)}
  {cd_needs_in : Value}
  {f_needs : Addr} {oc_needs kV_needs dc_needs pm_needs ct_needs : Value} {od_needs an_needs : Option Addr} {sl_needs : Array (Option Value)}
  {cd_needs : Value}
  {f__law_home : Addr} {oc__law_home kV__law_home dc__law_home pm__law_home ct__law_home : Value} {od__law_home an__law_home : Option Addr} {sl__law_home : Array (Option Value)}
  {cd__law_home : Value}
  {f_law : Addr} {oc_law kV_law dc_law pm_law ct_law : Value} {od_law an_law : Option Addr} {sl_law : Array (Option Value)}
  {lc Pt : Addr} {lccl : Value} {lcdd : Option Addr} {lvs : Array Value} {lcsl : Array (Option Value)}
  (n_all : PySem.W.nsIn K mainGlobals "all" = some none)
  (n_any : PySem.W.nsIn K mainGlobals "any" = some none)
  (n_bool : PySem.W.nsIn K mainGlobals "bool" = some none)
  (n_dict : PySem.W.nsIn K mainGlobals "dict" = some none)
  (n_int : PySem.W.nsIn K mainGlobals "int" = some none)
  (n_isinstance : PySem.W.nsIn K mainGlobals "isinstance" = some none)
  (n_len : PySem.W.nsIn K mainGlobals "len" = some none)
  (n_list : PySem.W.nsIn K mainGlobals "list" = some none)
  (n_range : PySem.W.nsIn K mainGlobals "range" = some none)
  (n_sorted : PySem.W.nsIn K mainGlobals "sorted" = some none)
  (n_str : PySem.W.nsIn K mainGlobals "str" = some none)
  (n_tuple : PySem.W.nsIn K mainGlobals "tuple" = some none)
  (c_EVENTS : PySem.W.nsIn K mainGlobals "EVENTS" = some (some (.ref a_EVENTS)))
  (l_EVENTS : K.lookup a_EVENTS = some ⟨.type "tuple", none, .seq #[.str "lay" t_EVENTS_0, .str "read" t_EVENTS_1, .str "make" t_EVENTS_2, .str "write" t_EVENTS_3, .str "out" t_EVENTS_4] n_EVENTS, sl_EVENTS⟩)
  (c_KINDS : PySem.W.nsIn K mainGlobals "KINDS" = some (some (.ref a_KINDS)))
  (l_KINDS : K.lookup a_KINDS = some ⟨.type "tuple", none, .seq #[.str "set" t_KINDS_0, .str "sum" t_KINDS_1, .str "get" t_KINDS_2, .str "put" t_KINDS_3, .str "if" t_KINDS_4, .str "show" t_KINDS_5] n_KINDS, sl_KINDS⟩)
  (c_MOST_WIDTH : PySem.W.nsIn K mainGlobals "MOST_WIDTH" = some (some (.int 4 t_MOST_WIDTH)))
  (c_RELATIONS : PySem.W.nsIn K mainGlobals "RELATIONS" = some (some (.ref a_RELATIONS)))
  (l_RELATIONS : K.lookup a_RELATIONS = some ⟨.type "tuple", none, .seq #[.str "feeds" t_RELATIONS_0, .str "used" t_RELATIONS_1, .str "same" t_RELATIONS_2, .str "cells" t_RELATIONS_3, .str "memory" t_RELATIONS_4, .str "shows" t_RELATIONS_5, .str "jump" t_RELATIONS_6, .str "any" t_RELATIONS_7] n_RELATIONS, sl_RELATIONS⟩)
  (c_STORES : PySem.W.nsIn K mainGlobals "STORES" = some (some (.ref a_STORES)))
  (l_STORES : K.lookup a_STORES = some ⟨.type "tuple", none, .seq #[.ref a_STORES_0, .ref a_STORES_1, .ref a_STORES_2] n_STORES, sl_STORES⟩)
  (l_STORES_0 : K.lookup a_STORES_0 = some ⟨.type "tuple", none, .seq #[.str "put" t_STORES_0_0, .str "get" t_STORES_0_1] n_STORES_0, sl_STORES_0⟩)
  (l_STORES_1 : K.lookup a_STORES_1 = some ⟨.type "tuple", none, .seq #[.str "get" t_STORES_1_0, .str "put" t_STORES_1_1] n_STORES_1, sl_STORES_1⟩)
  (l_STORES_2 : K.lookup a_STORES_2 = some ⟨.type "tuple", none, .seq #[.str "put" t_STORES_2_0, .str "put" t_STORES_2_1] n_STORES_2, sl_STORES_2⟩)
  (c_WRITING : PySem.W.nsIn K mainGlobals "WRITING" = some (some (.ref a_WRITING)))
  (l_WRITING : K.lookup a_WRITING = some ⟨.type "tuple", none, .seq #[.str "set" t_WRITING_0, .str "sum" t_WRITING_1, .str "get" t_WRITING_2] n_WRITING, sl_WRITING⟩)
  (a_WindowError : PySem.W.nsIn K mainGlobals "WindowError" = some (some (.ref C_WindowError)))
  (eC_WindowError : PySem.W.subIn K (.ref C_WindowError) (.type "BaseException") = some true)
  (tC_WindowError : PySem.W.typeIn K (.ref C_WindowError) = some (.type "type"))
  (ga_WindowError : PySem.W.findIn K (.ref C_WindowError) "__getattribute__" = some (some (.builtin "BaseException.__getattribute__")))
  (gg_WindowError : PySem.W.findIn K (.ref C_WindowError) "__getattr__" = some none)
  (hd_WindowError : PySem.W.hasDictIn K C_WindowError = true)
  (cl_WindowError : PySem.W.findIn K (.ref C_WindowError) "__class__" = some (some (.builtin "object.__class__")))
  (mo_WindowError : PySem.W.mroIn K C_WindowError (.type "object") = some true)
  (kC_WindowError : PySem.W.keepIn K (.ref C_WindowError) = true)
  (a_BadEvent : PySem.W.nsIn K mainGlobals "BadEvent" = some (some (.ref C_BadEvent)))
  (eC_BadEvent : PySem.W.subIn K (.ref C_BadEvent) (.type "BaseException") = some true)
  (tC_BadEvent : PySem.W.typeIn K (.ref C_BadEvent) = some (.type "type"))
  (ga_BadEvent : PySem.W.findIn K (.ref C_BadEvent) "__getattribute__" = some (some (.builtin "BaseException.__getattribute__")))
  (gg_BadEvent : PySem.W.findIn K (.ref C_BadEvent) "__getattr__" = some none)
  (hd_BadEvent : PySem.W.hasDictIn K C_BadEvent = true)
  (cl_BadEvent : PySem.W.findIn K (.ref C_BadEvent) "__class__" = some (some (.builtin "object.__class__")))
  (mo_BadEvent : PySem.W.mroIn K C_BadEvent (.type "object") = some true)
  (kC_BadEvent : PySem.W.keepIn K (.ref C_BadEvent) = true)
  (a_BadEntry : PySem.W.nsIn K mainGlobals "BadEntry" = some (some (.ref C_BadEntry)))
  (eC_BadEntry : PySem.W.subIn K (.ref C_BadEntry) (.type "BaseException") = some true)
  (tC_BadEntry : PySem.W.typeIn K (.ref C_BadEntry) = some (.type "type"))
  (ga_BadEntry : PySem.W.findIn K (.ref C_BadEntry) "__getattribute__" = some (some (.builtin "BaseException.__getattribute__")))
  (gg_BadEntry : PySem.W.findIn K (.ref C_BadEntry) "__getattr__" = some none)
  (hd_BadEntry : PySem.W.hasDictIn K C_BadEntry = true)
  (cl_BadEntry : PySem.W.findIn K (.ref C_BadEntry) "__class__" = some (some (.builtin "object.__class__")))
  (mo_BadEntry : PySem.W.mroIn K C_BadEntry (.type "object") = some true)
  (kC_BadEntry : PySem.W.keepIn K (.ref C_BadEntry) = true)
  (a_BadDesign : PySem.W.nsIn K mainGlobals "BadDesign" = some (some (.ref C_BadDesign)))
  (eC_BadDesign : PySem.W.subIn K (.ref C_BadDesign) (.type "BaseException") = some true)
  (tC_BadDesign : PySem.W.typeIn K (.ref C_BadDesign) = some (.type "type"))
  (ga_BadDesign : PySem.W.findIn K (.ref C_BadDesign) "__getattribute__" = some (some (.builtin "BaseException.__getattribute__")))
  (gg_BadDesign : PySem.W.findIn K (.ref C_BadDesign) "__getattr__" = some none)
  (hd_BadDesign : PySem.W.hasDictIn K C_BadDesign = true)
  (cl_BadDesign : PySem.W.findIn K (.ref C_BadDesign) "__class__" = some (some (.builtin "object.__class__")))
  (mo_BadDesign : PySem.W.mroIn K C_BadDesign (.type "object") = some true)
  (kC_BadDesign : PySem.W.keepIn K (.ref C_BadDesign) = true)
  (a_BadKind : PySem.W.nsIn K mainGlobals "BadKind" = some (some (.ref C_BadKind)))
  (eC_BadKind : PySem.W.subIn K (.ref C_BadKind) (.type "BaseException") = some true)
  (tC_BadKind : PySem.W.typeIn K (.ref C_BadKind) = some (.type "type"))
  (ga_BadKind : PySem.W.findIn K (.ref C_BadKind) "__getattribute__" = some (some (.builtin "BaseException.__getattribute__")))
  (gg_BadKind : PySem.W.findIn K (.ref C_BadKind) "__getattr__" = some none)
  (hd_BadKind : PySem.W.hasDictIn K C_BadKind = true)
  (cl_BadKind : PySem.W.findIn K (.ref C_BadKind) "__class__" = some (some (.builtin "object.__class__")))
  (mo_BadKind : PySem.W.mroIn K C_BadKind (.type "object") = some true)
  (kC_BadKind : PySem.W.keepIn K (.ref C_BadKind) = true)
  (a_BadTable : PySem.W.nsIn K mainGlobals "BadTable" = some (some (.ref C_BadTable)))
  (eC_BadTable : PySem.W.subIn K (.ref C_BadTable) (.type "BaseException") = some true)
  (tC_BadTable : PySem.W.typeIn K (.ref C_BadTable) = some (.type "type"))
  (ga_BadTable : PySem.W.findIn K (.ref C_BadTable) "__getattribute__" = some (some (.builtin "BaseException.__getattribute__")))
  (gg_BadTable : PySem.W.findIn K (.ref C_BadTable) "__getattr__" = some none)
  (hd_BadTable : PySem.W.hasDictIn K C_BadTable = true)
  (cl_BadTable : PySem.W.findIn K (.ref C_BadTable) "__class__" = some (some (.builtin "object.__class__")))
  (mo_BadTable : PySem.W.mroIn K C_BadTable (.type "object") = some true)
  (kC_BadTable : PySem.W.keepIn K (.ref C_BadTable) = true)
  (ns_get : PySem.W.specialIn K (.builtin "object.__class__") "__get__" = some (some (.builtin "getset_descriptor.__get__")))
  (ns_tk : PySem.W.takesIn K (.builtin "object.__class__") = some true)
  (ns_opq : PySem.W.nsIn K cStatics "thirdparty.any" = some none)
  (xc_BadDesign : PySem.W.excIn K C_BadDesign [.type "ValueError", .type "Exception", .type "BaseException", .type "object"] "ValueError.__new__" = true)
  (xc_BadEntry : PySem.W.excIn K C_BadEntry [.type "ValueError", .type "Exception", .type "BaseException", .type "object"] "ValueError.__new__" = true)
  (xc_BadEvent : PySem.W.excIn K C_BadEvent [.type "ValueError", .type "Exception", .type "BaseException", .type "object"] "ValueError.__new__" = true)
  (xc_BadKind : PySem.W.excIn K C_BadKind [.type "ValueError", .type "Exception", .type "BaseException", .type "object"] "ValueError.__new__" = true)
  (xc_BadTable : PySem.W.excIn K C_BadTable [.type "ValueError", .type "Exception", .type "BaseException", .type "object"] "ValueError.__new__" = true)
  (em_WindowError_WindowError : PySem.W.exmOne K (.ref C_WindowError) (.ref C_WindowError) = some true)
  (em_BadEvent_WindowError : PySem.W.exmOne K (.ref C_BadEvent) (.ref C_WindowError) = some true)
  (em_BadEntry_WindowError : PySem.W.exmOne K (.ref C_BadEntry) (.ref C_WindowError) = some true)
  (em_BadDesign_WindowError : PySem.W.exmOne K (.ref C_BadDesign) (.ref C_WindowError) = some true)
  (em_BadKind_WindowError : PySem.W.exmOne K (.ref C_BadKind) (.ref C_WindowError) = some true)
  (em_BadTable_WindowError : PySem.W.exmOne K (.ref C_BadTable) (.ref C_WindowError) = some true)
  (ki_WindowError_BadDesign : PySem.W.kitOne K (.ref C_WindowError) (.ref C_BadDesign) = some false)
  (ki_BadEvent_BadDesign : PySem.W.kitOne K (.ref C_BadEvent) (.ref C_BadDesign) = some false)
  (ki_BadEntry_BadDesign : PySem.W.kitOne K (.ref C_BadEntry) (.ref C_BadDesign) = some false)
  (ki_BadDesign_BadDesign : PySem.W.kitOne K (.ref C_BadDesign) (.ref C_BadDesign) = some true)
  (ki_BadKind_BadDesign : PySem.W.kitOne K (.ref C_BadKind) (.ref C_BadDesign) = some false)
  (ki_BadTable_BadDesign : PySem.W.kitOne K (.ref C_BadTable) (.ref C_BadDesign) = some false)
  (ki_WindowError_BadEntry : PySem.W.kitOne K (.ref C_WindowError) (.ref C_BadEntry) = some false)
  (ki_BadEvent_BadEntry : PySem.W.kitOne K (.ref C_BadEvent) (.ref C_BadEntry) = some false)
  (ki_BadEntry_BadEntry : PySem.W.kitOne K (.ref C_BadEntry) (.ref C_BadEntry) = some true)
  (ki_BadDesign_BadEntry : PySem.W.kitOne K (.ref C_BadDesign) (.ref C_BadEntry) = some false)
  (ki_BadKind_BadEntry : PySem.W.kitOne K (.ref C_BadKind) (.ref C_BadEntry) = some false)
  (ki_BadTable_BadEntry : PySem.W.kitOne K (.ref C_BadTable) (.ref C_BadEntry) = some false)
  (ki_WindowError_BadEvent : PySem.W.kitOne K (.ref C_WindowError) (.ref C_BadEvent) = some false)
  (ki_BadEvent_BadEvent : PySem.W.kitOne K (.ref C_BadEvent) (.ref C_BadEvent) = some true)
  (ki_BadEntry_BadEvent : PySem.W.kitOne K (.ref C_BadEntry) (.ref C_BadEvent) = some false)
  (ki_BadDesign_BadEvent : PySem.W.kitOne K (.ref C_BadDesign) (.ref C_BadEvent) = some false)
  (ki_BadKind_BadEvent : PySem.W.kitOne K (.ref C_BadKind) (.ref C_BadEvent) = some false)
  (ki_BadTable_BadEvent : PySem.W.kitOne K (.ref C_BadTable) (.ref C_BadEvent) = some false)
  (ki_WindowError_BadKind : PySem.W.kitOne K (.ref C_WindowError) (.ref C_BadKind) = some false)
  (ki_BadEvent_BadKind : PySem.W.kitOne K (.ref C_BadEvent) (.ref C_BadKind) = some false)
  (ki_BadEntry_BadKind : PySem.W.kitOne K (.ref C_BadEntry) (.ref C_BadKind) = some false)
  (ki_BadDesign_BadKind : PySem.W.kitOne K (.ref C_BadDesign) (.ref C_BadKind) = some false)
  (ki_BadKind_BadKind : PySem.W.kitOne K (.ref C_BadKind) (.ref C_BadKind) = some true)
  (ki_BadTable_BadKind : PySem.W.kitOne K (.ref C_BadTable) (.ref C_BadKind) = some false)
  (ki_WindowError_BadTable : PySem.W.kitOne K (.ref C_WindowError) (.ref C_BadTable) = some false)
  (ki_BadEvent_BadTable : PySem.W.kitOne K (.ref C_BadEvent) (.ref C_BadTable) = some false)
  (ki_BadEntry_BadTable : PySem.W.kitOne K (.ref C_BadEntry) (.ref C_BadTable) = some false)
  (ki_BadDesign_BadTable : PySem.W.kitOne K (.ref C_BadDesign) (.ref C_BadTable) = some false)
  (ki_BadKind_BadTable : PySem.W.kitOne K (.ref C_BadKind) (.ref C_BadTable) = some false)
  (ki_BadTable_BadTable : PySem.W.kitOne K (.ref C_BadTable) (.ref C_BadTable) = some true)
  (a__law_taken : PySem.W.nsIn K mainGlobals "_law_taken" = some (some (.ref f__law_taken)))
  (l__law_taken : K.lookup f__law_taken = some ⟨oc__law_taken, od__law_taken, .func (PySem.W.fnOf "_law_taken" "_law_taken" (defArgs (top 41)) (defBody (top 41)) (defScope (top 41)) .none kV__law_taken dc__law_taken pm__law_taken an__law_taken cd__law_taken ct__law_taken), sl__law_taken⟩)
  (c__law_taken : PySem.W.codeIn K cd__law_taken "_law_taken" = true)
  (k__law_taken : PySem.W.keepIn K (.ref f__law_taken) = true)
  (a__law_pick : PySem.W.nsIn K mainGlobals "_law_pick" = some (some (.ref f__law_pick)))
  (l__law_pick : K.lookup f__law_pick = some ⟨oc__law_pick, od__law_pick, .func (PySem.W.fnOf "_law_pick" "_law_pick" (defArgs (top 42)) (defBody (top 42)) (defScope (top 42)) .none kV__law_pick dc__law_pick pm__law_pick an__law_pick cd__law_pick ct__law_pick), sl__law_pick⟩)
  (c__law_pick : PySem.W.codeIn K cd__law_pick "_law_pick" = true)
  (k__law_pick : PySem.W.keepIn K (.ref f__law_pick) = true)
  (a__law_entry : PySem.W.nsIn K mainGlobals "_law_entry" = some (some (.ref f__law_entry)))
  (l__law_entry : K.lookup f__law_entry = some ⟨oc__law_entry, od__law_entry, .func (PySem.W.fnOf "_law_entry" "_law_entry" (defArgs (top 46)) (defBody (top 46)) (defScope (top 46)) .none kV__law_entry dc__law_entry pm__law_entry an__law_entry cd__law_entry ct__law_entry), sl__law_entry⟩)
  (c__law_entry : PySem.W.codeIn K cd__law_entry "_law_entry" = true)
  (k__law_entry : PySem.W.keepIn K (.ref f__law_entry) = true)
  (a__law_more : PySem.W.nsIn K mainGlobals "_law_more" = some (some (.ref f__law_more)))
  (l__law_more : K.lookup f__law_more = some ⟨oc__law_more, od__law_more, .func (PySem.W.fnOf "_law_more" "_law_more" (defArgs (top 47)) (defBody (top 47)) (defScope (top 47)) .none kV__law_more dc__law_more pm__law_more an__law_more cd__law_more ct__law_more), sl__law_more⟩)
  (c__law_more : PySem.W.codeIn K cd__law_more "_law_more" = true)
  (k__law_more : PySem.W.keepIn K (.ref f__law_more) = true)
  (a__law_bare : PySem.W.nsIn K mainGlobals "_law_bare" = some (some (.ref f__law_bare)))
  (l__law_bare : K.lookup f__law_bare = some ⟨oc__law_bare, od__law_bare, .func (PySem.W.fnOf "_law_bare" "_law_bare" (defArgs (top 45)) (defBody (top 45)) (defScope (top 45)) .none kV__law_bare dc__law_bare pm__law_bare an__law_bare cd__law_bare ct__law_bare), sl__law_bare⟩)
  (c__law_bare : PySem.W.codeIn K cd__law_bare "_law_bare" = true)
  (k__law_bare : PySem.W.keepIn K (.ref f__law_bare) = true)
  (a__law_wrong : PySem.W.nsIn K mainGlobals "_law_wrong" = some (some (.ref f__law_wrong)))
  (l__law_wrong : K.lookup f__law_wrong = some ⟨oc__law_wrong, od__law_wrong, .func (PySem.W.fnOf "_law_wrong" "_law_wrong" (defArgs (top 48)) (defBody (top 48)) (defScope (top 48)) .none kV__law_wrong dc__law_wrong pm__law_wrong an__law_wrong cd__law_wrong ct__law_wrong), sl__law_wrong⟩)
  (c__law_wrong : PySem.W.codeIn K cd__law_wrong "_law_wrong" = true)
  (k__law_wrong : PySem.W.keepIn K (.ref f__law_wrong) = true)
  (a_is_list : PySem.W.nsIn K mainGlobals "is_list" = some (some (.ref f_is_list)))
  (l_is_list : K.lookup f_is_list = some ⟨oc_is_list, od_is_list, .func (PySem.W.fnOf "is_list" "is_list" (defArgs (top 3)) (defBody (top 3)) (defScope (top 3)) .none kV_is_list dc_is_list pm_is_list an_is_list cd_is_list ct_is_list), sl_is_list⟩)
  (c_is_list : PySem.W.codeIn K cd_is_list "is_list" = true)
  (k_is_list : PySem.W.keepIn K (.ref f_is_list) = true)
  (a_is_kind : PySem.W.nsIn K mainGlobals "is_kind" = some (some (.ref f_is_kind)))
  (l_is_kind : K.lookup f_is_kind = some ⟨oc_is_kind, od_is_kind, .func (PySem.W.fnOf "is_kind" "is_kind" (defArgs (top 19)) (defBody (top 19)) (defScope (top 19)) .none kV_is_kind dc_is_kind pm_is_kind an_is_kind cd_is_kind ct_is_kind), sl_is_kind⟩)
  (c_is_kind : PySem.W.codeIn K cd_is_kind "is_kind" = true)
  (k_is_kind : PySem.W.keepIn K (.ref f_is_kind) = true)
  (a_is_event : PySem.W.nsIn K mainGlobals "is_event" = some (some (.ref f_is_event)))
  (l_is_event : K.lookup f_is_event = some ⟨oc_is_event, od_is_event, .func (PySem.W.fnOf "is_event" "is_event" (defArgs (top 18)) (defBody (top 18)) (defScope (top 18)) .none kV_is_event dc_is_event pm_is_event an_is_event cd_is_event ct_is_event), sl_is_event⟩)
  (c_is_event : PySem.W.codeIn K cd_is_event "is_event" = true)
  (k_is_event : PySem.W.keepIn K (.ref f_is_event) = true)
  (a_is_entry : PySem.W.nsIn K mainGlobals "is_entry" = some (some (.ref f_is_entry)))
  (l_is_entry : K.lookup f_is_entry = some ⟨oc_is_entry, od_is_entry, .func (PySem.W.fnOf "is_entry" "is_entry" (defArgs (top 21)) (defBody (top 21)) (defScope (top 21)) .none kV_is_entry dc_is_entry pm_is_entry an_is_entry cd_is_entry ct_is_entry), sl_is_entry⟩)
  (c_is_entry : PySem.W.codeIn K cd_is_entry "is_entry" = true)
  (k_is_entry : PySem.W.keepIn K (.ref f_is_entry) = true)
  (a_is_table : PySem.W.nsIn K mainGlobals "is_table" = some (some (.ref f_is_table)))
  (l_is_table : K.lookup f_is_table = some ⟨oc_is_table, od_is_table, .func (PySem.W.fnOf "is_table" "is_table" (defArgs (top 24)) (defBody (top 24)) (defScope (top 24)) .none kV_is_table dc_is_table pm_is_table an_is_table cd_is_table ct_is_table), sl_is_table⟩)
  (c_is_table : PySem.W.codeIn K cd_is_table "is_table" = true)
  (k_is_table : PySem.W.keepIn K (.ref f_is_table) = true)
  (a_is_integer : PySem.W.nsIn K mainGlobals "is_integer" = some (some (.ref f_is_integer)))
  (l_is_integer : K.lookup f_is_integer = some ⟨oc_is_integer, od_is_integer, .func (PySem.W.fnOf "is_integer" "is_integer" (defArgs (top 1)) (defBody (top 1)) (defScope (top 1)) .none kV_is_integer dc_is_integer pm_is_integer an_is_integer cd_is_integer ct_is_integer), sl_is_integer⟩)
  (c_is_integer : PySem.W.codeIn K cd_is_integer "is_integer" = true)
  (k_is_integer : PySem.W.keepIn K (.ref f_is_integer) = true)
  (a_is_in : PySem.W.nsIn K mainGlobals "is_in" = some (some (.ref f_is_in)))
  (l_is_in : K.lookup f_is_in = some ⟨oc_is_in, od_is_in, .func (PySem.W.fnOf "is_in" "is_in" (defArgs (top 2)) (defBody (top 2)) (defScope (top 2)) .none kV_is_in dc_is_in pm_is_in an_is_in cd_is_in ct_is_in), sl_is_in⟩)
  (c_is_in : PySem.W.codeIn K cd_is_in "is_in" = true)
  (k_is_in : PySem.W.keepIn K (.ref f_is_in) = true)
  (a_is_design : PySem.W.nsIn K mainGlobals "is_design" = some (some (.ref f_is_design)))
  (l_is_design : K.lookup f_is_design = some ⟨oc_is_design, od_is_design, .func (PySem.W.fnOf "is_design" "is_design" (defArgs (top 25)) (defBody (top 25)) (defScope (top 25)) .none kV_is_design dc_is_design pm_is_design an_is_design cd_is_design ct_is_design), sl_is_design⟩)
  (c_is_design : PySem.W.codeIn K cd_is_design "is_design" = true)
  (k_is_design : PySem.W.keepIn K (.ref f_is_design) = true)
  (a_need_design : PySem.W.nsIn K mainGlobals "need_design" = some (some (.ref f_need_design)))
  (l_need_design : K.lookup f_need_design = some ⟨oc_need_design, od_need_design, .func (PySem.W.fnOf "need_design" "need_design" (defArgs (top 26)) (defBody (top 26)) (defScope (top 26)) .none kV_need_design dc_need_design pm_need_design an_need_design cd_need_design ct_need_design), sl_need_design⟩)
  (c_need_design : PySem.W.codeIn K cd_need_design "need_design" = true)
  (k_need_design : PySem.W.keepIn K (.ref f_need_design) = true)
  (a_with_table : PySem.W.nsIn K mainGlobals "with_table" = some (some (.ref f_with_table)))
  (l_with_table : K.lookup f_with_table = some ⟨oc_with_table, od_with_table, .func (PySem.W.fnOf "with_table" "with_table" (defArgs (top 31)) (defBody (top 31)) (defScope (top 31)) .none kV_with_table dc_with_table pm_with_table an_with_table cd_with_table ct_with_table), sl_with_table⟩)
  (c_with_table : PySem.W.codeIn K cd_with_table "with_table" = true)
  (k_with_table : PySem.W.keepIn K (.ref f_with_table) = true)
  (a__law_alike : PySem.W.nsIn K mainGlobals "_law_alike" = some (some (.ref f__law_alike)))
  (l__law_alike : K.lookup f__law_alike = some ⟨oc__law_alike, od__law_alike, .func (PySem.W.fnOf "_law_alike" "_law_alike" (defArgs (top 43)) (defBody (top 43)) (defScope (top 43)) .none kV__law_alike dc__law_alike pm__law_alike an__law_alike cd__law_alike ct__law_alike), sl__law_alike⟩)
  (c__law_alike : PySem.W.codeIn K cd__law_alike "_law_alike" = true)
  (k__law_alike : PySem.W.keepIn K (.ref f__law_alike) = true)
  (a_number_of : PySem.W.nsIn K mainGlobals "number_of" = some (some (.ref f_number_of)))
  (l_number_of : K.lookup f_number_of = some ⟨oc_number_of, od_number_of, .func (PySem.W.fnOf "number_of" "number_of" (defArgs (top 20)) (defBody (top 20)) (defScope (top 20)) .none kV_number_of dc_number_of pm_number_of an_number_of cd_number_of ct_number_of), sl_number_of⟩)
  (c_number_of : PySem.W.codeIn K cd_number_of "number_of" = true)
  (k_number_of : PySem.W.keepIn K (.ref f_number_of) = true)
  (a_event_number : PySem.W.nsIn K mainGlobals "event_number" = some (some (.ref f_event_number)))
  (l_event_number : K.lookup f_event_number = some ⟨oc_event_number, od_event_number, .func (PySem.W.fnOf "event_number" "event_number" (defArgs (top 28)) (defBody (top 28)) (defScope (top 28)) .none kV_event_number dc_event_number pm_event_number an_event_number cd_event_number ct_event_number), sl_event_number⟩)
  (c_event_number : PySem.W.codeIn K cd_event_number "event_number" = true)
  (k_event_number : PySem.W.keepIn K (.ref f_event_number) = true)
  (a_need_entry : PySem.W.nsIn K mainGlobals "need_entry" = some (some (.ref f_need_entry)))
  (l_need_entry : K.lookup f_need_entry = some ⟨oc_need_entry, od_need_entry, .func (PySem.W.fnOf "need_entry" "need_entry" (defArgs (top 22)) (defBody (top 22)) (defScope (top 22)) .none kV_need_entry dc_need_entry pm_need_entry an_need_entry cd_need_entry ct_need_entry), sl_need_entry⟩)
  (c_need_entry : PySem.W.codeIn K cd_need_entry "need_entry" = true)
  (k_need_entry : PySem.W.keepIn K (.ref f_need_entry) = true)
  (a_can_hold : PySem.W.nsIn K mainGlobals "can_hold" = some (some (.ref f_can_hold)))
  (l_can_hold : K.lookup f_can_hold = some ⟨oc_can_hold, od_can_hold, .func (PySem.W.fnOf "can_hold" "can_hold" (defArgs (top 23)) (defBody (top 23)) (defScope (top 23)) .none kV_can_hold dc_can_hold pm_can_hold an_can_hold cd_can_hold ct_can_hold), sl_can_hold⟩)
  (c_can_hold : PySem.W.codeIn K cd_can_hold "can_hold" = true)
  (k_can_hold : PySem.W.keepIn K (.ref f_can_hold) = true)
  (a_may_hold : PySem.W.nsIn K mainGlobals "may_hold" = some (some (.ref f_may_hold)))
  (l_may_hold : K.lookup f_may_hold = some ⟨oc_may_hold, od_may_hold, .func (PySem.W.fnOf "may_hold" "may_hold" (defArgs (top 29)) (defBody (top 29)) (defScope (top 29)) .none kV_may_hold dc_may_hold pm_may_hold an_may_hold cd_may_hold ct_may_hold), sl_may_hold⟩)
  (c_may_hold : PySem.W.codeIn K cd_may_hold "may_hold" = true)
  (k_may_hold : PySem.W.keepIn K (.ref f_may_hold) = true)
  (a_holds_always : PySem.W.nsIn K mainGlobals "holds_always" = some (some (.ref f_holds_always)))
  (l_holds_always : K.lookup f_holds_always = some ⟨oc_holds_always, od_holds_always, .func (PySem.W.fnOf "holds_always" "holds_always" (defArgs (top 34)) (defBody (top 34)) (defScope (top 34)) .none kV_holds_always dc_holds_always pm_holds_always an_holds_always cd_holds_always ct_holds_always), sl_holds_always⟩)
  (c_holds_always : PySem.W.codeIn K cd_holds_always "holds_always" = true)
  (k_holds_always : PySem.W.keepIn K (.ref f_holds_always) = true)
  (a_forces : PySem.W.nsIn K mainGlobals "forces" = some (some (.ref f_forces)))
  (l_forces : K.lookup f_forces = some ⟨oc_forces, od_forces, .func (PySem.W.fnOf "forces" "forces" (defArgs (top 35)) (defBody (top 35)) (defScope (top 35)) .none kV_forces dc_forces pm_forces an_forces cd_forces ct_forces), sl_forces⟩)
  (c_forces : PySem.W.codeIn K cd_forces "forces" = true)
  (k_forces : PySem.W.keepIn K (.ref f_forces) = true)
  (a_forced_by_table : PySem.W.nsIn K mainGlobals "forced_by_table" = some (some (.ref f_forced_by_table)))
  (l_forced_by_table : K.lookup f_forced_by_table = some ⟨oc_forced_by_table, od_forced_by_table, .func (PySem.W.fnOf "forced_by_table" "forced_by_table" (defArgs (top 36)) (defBody (top 36)) (defScope (top 36)) .none kV_forced_by_table dc_forced_by_table pm_forced_by_table an_forced_by_table cd_forced_by_table ct_forced_by_table), sl_forced_by_table⟩)
  (c_forced_by_table : PySem.W.codeIn K cd_forced_by_table "forced_by_table" = true)
  (k_forced_by_table : PySem.W.keepIn K (.ref f_forced_by_table) = true)
  (a_forced_in : PySem.W.nsIn K mainGlobals "forced_in" = some (some (.ref f_forced_in)))
  (l_forced_in : K.lookup f_forced_in = some ⟨oc_forced_in, od_forced_in, .func (PySem.W.fnOf "forced_in" "forced_in" (defArgs (top 37)) (defBody (top 37)) (defScope (top 37)) .none kV_forced_in dc_forced_in pm_forced_in an_forced_in cd_forced_in ct_forced_in), sl_forced_in⟩)
  (c_forced_in : PySem.W.codeIn K cd_forced_in "forced_in" = true)
  (k_forced_in : PySem.W.keepIn K (.ref f_forced_in) = true)
  (a_is_forced : PySem.W.nsIn K mainGlobals "is_forced" = some (some (.ref f_is_forced)))
  (l_is_forced : K.lookup f_is_forced = some ⟨oc_is_forced, od_is_forced, .func (PySem.W.fnOf "is_forced" "is_forced" (defArgs (top 39)) (defBody (top 39)) (defScope (top 39)) .none kV_is_forced dc_is_forced pm_is_forced an_is_forced cd_is_forced ct_is_forced), sl_is_forced⟩)
  (c_is_forced : PySem.W.codeIn K cd_is_forced "is_forced" = true)
  (k_is_forced : PySem.W.keepIn K (.ref f_is_forced) = true)
  (a_home_in : PySem.W.nsIn K mainGlobals "home_in" = some (some (.ref f_home_in)))
  (l_home_in : K.lookup f_home_in = some ⟨oc_home_in, od_home_in, .func (PySem.W.fnOf "home_in" "home_in" (defArgs (top 27)) (defBody (top 27)) (defScope (top 27)) .none kV_home_in dc_home_in pm_home_in an_home_in cd_home_in ct_home_in), sl_home_in⟩)
  (c_home_in : PySem.W.codeIn K cd_home_in "home_in" = true)
  (k_home_in : PySem.W.keepIn K (.ref f_home_in) = true)
  (a_home_of : PySem.W.nsIn K mainGlobals "home_of" = some (some (.ref f_home_of)))
  (l_home_of : K.lookup f_home_of = some ⟨oc_home_of, od_home_of, .func (PySem.W.fnOf "home_of" "home_of" (defArgs (top 30)) (defBody (top 30)) (defScope (top 30)) .none kV_home_of dc_home_of pm_home_of an_home_of cd_home_of ct_home_of), sl_home_of⟩)
  (c_home_of : PySem.W.codeIn K cd_home_of "home_of" = true)
  (k_home_of : PySem.W.keepIn K (.ref f_home_of) = true)
  (a_needs_in : PySem.W.nsIn K mainGlobals "needs_in" = some (some (.ref f_needs_in)))
  (l_needs_in : K.lookup f_needs_in = some ⟨oc_needs_in, od_needs_in, .func (PySem.W.fnOf "needs_in" "needs_in" (defArgs (top 33)) (defBody (top 33)) (defScope (top 33)) .none kV_needs_in dc_needs_in pm_needs_in an_needs_in cd_needs_in ct_needs_in), sl_needs_in⟩)
  (c_needs_in : PySem.W.codeIn K cd_needs_in "needs_in" = true)
  (k_needs_in : PySem.W.keepIn K (.ref f_needs_in) = true)
  (a_needs : PySem.W.nsIn K mainGlobals "needs" = some (some (.ref f_needs)))
  (l_needs : K.lookup f_needs = some ⟨oc_needs, od_needs, .func (PySem.W.fnOf "needs" "needs" (defArgs (top 38)) (defBody (top 38)) (defScope (top 38)) .none kV_needs dc_needs pm_needs an_needs cd_needs ct_needs), sl_needs⟩)
  (c_needs : PySem.W.codeIn K cd_needs "needs" = true)
  (k_needs : PySem.W.keepIn K (.ref f_needs) = true)
  (a__law_home : PySem.W.nsIn K mainGlobals "_law_home" = some (some (.ref f__law_home)))
  (l__law_home : K.lookup f__law_home = some ⟨oc__law_home, od__law_home, .func (PySem.W.fnOf "_law_home" "_law_home" (defArgs (top 44)) (defBody (top 44)) (defScope (top 44)) .none kV__law_home dc__law_home pm__law_home an__law_home cd__law_home ct__law_home), sl__law_home⟩)
  (c__law_home : PySem.W.codeIn K cd__law_home "_law_home" = true)
  (k__law_home : PySem.W.keepIn K (.ref f__law_home) = true)
  (a_law : PySem.W.nsIn K mainGlobals "law" = some (some (.ref f_law)))
  (l_law : K.lookup f_law = some ⟨oc_law, od_law, .func (PySem.W.fnOf "law" "law" (defArgs (top 49)) (defBody (top 49)) (defScope (top 49)) .none kV_law dc_law pm_law an_law (.ref lc) ct_law), sl_law⟩)
  (c_law : PySem.W.codeIn K (.ref lc) "law" = true)
  (k_law : PySem.W.keepIn K (.ref f_law) = true)
  (lC : K.lookup lc = some ⟨lccl, lcdd, .fields lvs, lcsl⟩)
  (lP : lvs[11]? = some (.ref Pt))
  (lN : K.lookup Pt = none)
  (lH : PySem.W.codeHdIn K lc Pt = true) :
    LamX.LawAtS l w K CX0 9 63 "_law_script" mg fa h := by
  have e := hfa.symm.trans (PySem.W.mg_of X G a_law)
  cases e
  have T : Tp l.prog K mg := ⟨PySem.W.mg_none_of X G n_all,
    PySem.W.mg_none_of X G n_any,
    PySem.W.mg_none_of X G n_bool,
    PySem.W.mg_none_of X G n_dict,
    PySem.W.mg_none_of X G n_int,
    PySem.W.mg_none_of X G n_isinstance,
    PySem.W.mg_none_of X G n_len,
    PySem.W.mg_none_of X G n_list,
    PySem.W.mg_none_of X G n_range,
    PySem.W.mg_none_of X G n_sorted,
    PySem.W.mg_none_of X G n_str,
    PySem.W.mg_none_of X G n_tuple,
    ⟨_, _, _, _, PySem.W.mg_of X G c_EVENTS, l_EVENTS, rfl, rfl, rfl, (show 5 ≤ sizeLine by decide), (.cons ⟨_, rfl⟩ (.cons ⟨_, rfl⟩ (.cons ⟨_, rfl⟩ (.cons ⟨_, rfl⟩ (.cons ⟨_, rfl⟩ .nil)))))⟩,
    ⟨_, _, _, _, PySem.W.mg_of X G c_KINDS, l_KINDS, rfl, rfl, rfl, (show 6 ≤ sizeLine by decide), (.cons ⟨_, rfl⟩ (.cons ⟨_, rfl⟩ (.cons ⟨_, rfl⟩ (.cons ⟨_, rfl⟩ (.cons ⟨_, rfl⟩ (.cons ⟨_, rfl⟩ .nil))))))⟩,
    ⟨_, .int _, PySem.W.mg_of X G c_MOST_WIDTH, ⟨_, rfl⟩, fun H => .int _⟩,
    ⟨_, _, _, _, PySem.W.mg_of X G c_RELATIONS, l_RELATIONS, rfl, rfl, rfl, (show 8 ≤ sizeLine by decide), (.cons ⟨_, rfl⟩ (.cons ⟨_, rfl⟩ (.cons ⟨_, rfl⟩ (.cons ⟨_, rfl⟩ (.cons ⟨_, rfl⟩ (.cons ⟨_, rfl⟩ (.cons ⟨_, rfl⟩ (.cons ⟨_, rfl⟩ .nil))))))))⟩,
    ⟨_, .ref _, PySem.W.mg_of X G c_STORES, rfl, fun H => .tup (xs := [.ref a_STORES_0, .ref a_STORES_1, .ref a_STORES_2]) (.inr ⟨_, _, _, l_STORES, rfl, rfl, (show 3 ≤ sizeLine by decide), (.cons rfl (.cons rfl (.cons rfl .nil)))⟩) (.cons (.tup (xs := [.str "put", .str "get"]) (.inr ⟨_, _, _, l_STORES_0, rfl, rfl, (show 2 ≤ sizeLine by decide), (.cons ⟨_, rfl⟩ (.cons ⟨_, rfl⟩ .nil))⟩) (.cons (.str _) (.cons (.str _) .nil))) (.cons (.tup (xs := [.str "get", .str "put"]) (.inr ⟨_, _, _, l_STORES_1, rfl, rfl, (show 2 ≤ sizeLine by decide), (.cons ⟨_, rfl⟩ (.cons ⟨_, rfl⟩ .nil))⟩) (.cons (.str _) (.cons (.str _) .nil))) (.cons (.tup (xs := [.str "put", .str "put"]) (.inr ⟨_, _, _, l_STORES_2, rfl, rfl, (show 2 ≤ sizeLine by decide), (.cons ⟨_, rfl⟩ (.cons ⟨_, rfl⟩ .nil))⟩) (.cons (.str _) (.cons (.str _) .nil))) .nil)))⟩,
    ⟨_, _, _, _, PySem.W.mg_of X G c_WRITING, l_WRITING, rfl, rfl, rfl, (show 3 ≤ sizeLine by decide), (.cons ⟨_, rfl⟩ (.cons ⟨_, rfl⟩ (.cons ⟨_, rfl⟩ .nil)))⟩,
    ⟨_, PySem.W.mg_of X G a_BadDesign, kC_BadDesign, xc_BadDesign, eC_BadDesign, tC_BadDesign⟩,
    ⟨_, PySem.W.mg_of X G a_BadEntry, kC_BadEntry, xc_BadEntry, eC_BadEntry, tC_BadEntry⟩,
    ⟨_, PySem.W.mg_of X G a_BadEvent, kC_BadEvent, xc_BadEvent, eC_BadEvent, tC_BadEvent⟩,
    ⟨_, PySem.W.mg_of X G a_BadKind, kC_BadKind, xc_BadKind, eC_BadKind, tC_BadKind⟩,
    ⟨_, PySem.W.mg_of X G a_BadTable, kC_BadTable, xc_BadTable, eC_BadTable, tC_BadTable⟩,
    exT_of (PySem.W.mg_of X G a_WindowError) (.cons (PySem.W.mg_of X G a_WindowError) em_WindowError_WindowError (.cons (PySem.W.mg_of X G a_BadEvent) em_BadEvent_WindowError (.cons (PySem.W.mg_of X G a_BadEntry) em_BadEntry_WindowError (.cons (PySem.W.mg_of X G a_BadDesign) em_BadDesign_WindowError (.cons (PySem.W.mg_of X G a_BadKind) em_BadKind_WindowError (.cons (PySem.W.mg_of X G a_BadTable) em_BadTable_WindowError .nil)))))),
    isT_of (PySem.W.mg_of X G a_BadDesign) (.cons (PySem.W.mg_of X G a_WindowError) ⟨⟨ga_WindowError, gg_WindowError, eC_WindowError, hd_WindowError, cl_WindowError, ns_get, ns_tk, mo_WindowError⟩, ki_WindowError_BadDesign⟩ (.cons (PySem.W.mg_of X G a_BadEvent) ⟨⟨ga_BadEvent, gg_BadEvent, eC_BadEvent, hd_BadEvent, cl_BadEvent, ns_get, ns_tk, mo_BadEvent⟩, ki_BadEvent_BadDesign⟩ (.cons (PySem.W.mg_of X G a_BadEntry) ⟨⟨ga_BadEntry, gg_BadEntry, eC_BadEntry, hd_BadEntry, cl_BadEntry, ns_get, ns_tk, mo_BadEntry⟩, ki_BadEntry_BadDesign⟩ (.cons (PySem.W.mg_of X G a_BadDesign) ⟨⟨ga_BadDesign, gg_BadDesign, eC_BadDesign, hd_BadDesign, cl_BadDesign, ns_get, ns_tk, mo_BadDesign⟩, ki_BadDesign_BadDesign⟩ (.cons (PySem.W.mg_of X G a_BadKind) ⟨⟨ga_BadKind, gg_BadKind, eC_BadKind, hd_BadKind, cl_BadKind, ns_get, ns_tk, mo_BadKind⟩, ki_BadKind_BadDesign⟩ (.cons (PySem.W.mg_of X G a_BadTable) ⟨⟨ga_BadTable, gg_BadTable, eC_BadTable, hd_BadTable, cl_BadTable, ns_get, ns_tk, mo_BadTable⟩, ki_BadTable_BadDesign⟩ .nil)))))),
    isT_of (PySem.W.mg_of X G a_BadEntry) (.cons (PySem.W.mg_of X G a_WindowError) ⟨⟨ga_WindowError, gg_WindowError, eC_WindowError, hd_WindowError, cl_WindowError, ns_get, ns_tk, mo_WindowError⟩, ki_WindowError_BadEntry⟩ (.cons (PySem.W.mg_of X G a_BadEvent) ⟨⟨ga_BadEvent, gg_BadEvent, eC_BadEvent, hd_BadEvent, cl_BadEvent, ns_get, ns_tk, mo_BadEvent⟩, ki_BadEvent_BadEntry⟩ (.cons (PySem.W.mg_of X G a_BadEntry) ⟨⟨ga_BadEntry, gg_BadEntry, eC_BadEntry, hd_BadEntry, cl_BadEntry, ns_get, ns_tk, mo_BadEntry⟩, ki_BadEntry_BadEntry⟩ (.cons (PySem.W.mg_of X G a_BadDesign) ⟨⟨ga_BadDesign, gg_BadDesign, eC_BadDesign, hd_BadDesign, cl_BadDesign, ns_get, ns_tk, mo_BadDesign⟩, ki_BadDesign_BadEntry⟩ (.cons (PySem.W.mg_of X G a_BadKind) ⟨⟨ga_BadKind, gg_BadKind, eC_BadKind, hd_BadKind, cl_BadKind, ns_get, ns_tk, mo_BadKind⟩, ki_BadKind_BadEntry⟩ (.cons (PySem.W.mg_of X G a_BadTable) ⟨⟨ga_BadTable, gg_BadTable, eC_BadTable, hd_BadTable, cl_BadTable, ns_get, ns_tk, mo_BadTable⟩, ki_BadTable_BadEntry⟩ .nil)))))),
    isT_of (PySem.W.mg_of X G a_BadEvent) (.cons (PySem.W.mg_of X G a_WindowError) ⟨⟨ga_WindowError, gg_WindowError, eC_WindowError, hd_WindowError, cl_WindowError, ns_get, ns_tk, mo_WindowError⟩, ki_WindowError_BadEvent⟩ (.cons (PySem.W.mg_of X G a_BadEvent) ⟨⟨ga_BadEvent, gg_BadEvent, eC_BadEvent, hd_BadEvent, cl_BadEvent, ns_get, ns_tk, mo_BadEvent⟩, ki_BadEvent_BadEvent⟩ (.cons (PySem.W.mg_of X G a_BadEntry) ⟨⟨ga_BadEntry, gg_BadEntry, eC_BadEntry, hd_BadEntry, cl_BadEntry, ns_get, ns_tk, mo_BadEntry⟩, ki_BadEntry_BadEvent⟩ (.cons (PySem.W.mg_of X G a_BadDesign) ⟨⟨ga_BadDesign, gg_BadDesign, eC_BadDesign, hd_BadDesign, cl_BadDesign, ns_get, ns_tk, mo_BadDesign⟩, ki_BadDesign_BadEvent⟩ (.cons (PySem.W.mg_of X G a_BadKind) ⟨⟨ga_BadKind, gg_BadKind, eC_BadKind, hd_BadKind, cl_BadKind, ns_get, ns_tk, mo_BadKind⟩, ki_BadKind_BadEvent⟩ (.cons (PySem.W.mg_of X G a_BadTable) ⟨⟨ga_BadTable, gg_BadTable, eC_BadTable, hd_BadTable, cl_BadTable, ns_get, ns_tk, mo_BadTable⟩, ki_BadTable_BadEvent⟩ .nil)))))),
    isT_of (PySem.W.mg_of X G a_BadKind) (.cons (PySem.W.mg_of X G a_WindowError) ⟨⟨ga_WindowError, gg_WindowError, eC_WindowError, hd_WindowError, cl_WindowError, ns_get, ns_tk, mo_WindowError⟩, ki_WindowError_BadKind⟩ (.cons (PySem.W.mg_of X G a_BadEvent) ⟨⟨ga_BadEvent, gg_BadEvent, eC_BadEvent, hd_BadEvent, cl_BadEvent, ns_get, ns_tk, mo_BadEvent⟩, ki_BadEvent_BadKind⟩ (.cons (PySem.W.mg_of X G a_BadEntry) ⟨⟨ga_BadEntry, gg_BadEntry, eC_BadEntry, hd_BadEntry, cl_BadEntry, ns_get, ns_tk, mo_BadEntry⟩, ki_BadEntry_BadKind⟩ (.cons (PySem.W.mg_of X G a_BadDesign) ⟨⟨ga_BadDesign, gg_BadDesign, eC_BadDesign, hd_BadDesign, cl_BadDesign, ns_get, ns_tk, mo_BadDesign⟩, ki_BadDesign_BadKind⟩ (.cons (PySem.W.mg_of X G a_BadKind) ⟨⟨ga_BadKind, gg_BadKind, eC_BadKind, hd_BadKind, cl_BadKind, ns_get, ns_tk, mo_BadKind⟩, ki_BadKind_BadKind⟩ (.cons (PySem.W.mg_of X G a_BadTable) ⟨⟨ga_BadTable, gg_BadTable, eC_BadTable, hd_BadTable, cl_BadTable, ns_get, ns_tk, mo_BadTable⟩, ki_BadTable_BadKind⟩ .nil)))))),
    isT_of (PySem.W.mg_of X G a_BadTable) (.cons (PySem.W.mg_of X G a_WindowError) ⟨⟨ga_WindowError, gg_WindowError, eC_WindowError, hd_WindowError, cl_WindowError, ns_get, ns_tk, mo_WindowError⟩, ki_WindowError_BadTable⟩ (.cons (PySem.W.mg_of X G a_BadEvent) ⟨⟨ga_BadEvent, gg_BadEvent, eC_BadEvent, hd_BadEvent, cl_BadEvent, ns_get, ns_tk, mo_BadEvent⟩, ki_BadEvent_BadTable⟩ (.cons (PySem.W.mg_of X G a_BadEntry) ⟨⟨ga_BadEntry, gg_BadEntry, eC_BadEntry, hd_BadEntry, cl_BadEntry, ns_get, ns_tk, mo_BadEntry⟩, ki_BadEntry_BadTable⟩ (.cons (PySem.W.mg_of X G a_BadDesign) ⟨⟨ga_BadDesign, gg_BadDesign, eC_BadDesign, hd_BadDesign, cl_BadDesign, ns_get, ns_tk, mo_BadDesign⟩, ki_BadDesign_BadTable⟩ (.cons (PySem.W.mg_of X G a_BadKind) ⟨⟨ga_BadKind, gg_BadKind, eC_BadKind, hd_BadKind, cl_BadKind, ns_get, ns_tk, mo_BadKind⟩, ki_BadKind_BadTable⟩ (.cons (PySem.W.mg_of X G a_BadTable) ⟨⟨ga_BadTable, gg_BadTable, eC_BadTable, hd_BadTable, cl_BadTable, ns_get, ns_tk, mo_BadTable⟩, ki_BadTable_BadTable⟩ .nil)))))),
    ⟨_, _, PySem.W.mg_of X G a__law_taken, fun_mk (st := top 41) l__law_taken c__law_taken k__law_taken, (fun_mk (st := top 41) l__law_taken c__law_taken k__law_taken).binds fun _ _ _ _ _ _ us hl => match us, hl with | [_, _], _ => rfl⟩,
    ⟨_, _, PySem.W.mg_of X G a__law_pick, fun_mk (st := top 42) l__law_pick c__law_pick k__law_pick, (fun_mk (st := top 42) l__law_pick c__law_pick k__law_pick).binds fun _ _ _ _ _ _ us hl => match us, hl with | [_, _], _ => rfl⟩,
    ⟨_, _, PySem.W.mg_of X G a__law_entry, fun_mk (st := top 46) l__law_entry c__law_entry k__law_entry, (fun_mk (st := top 46) l__law_entry c__law_entry k__law_entry).binds fun _ _ _ _ _ _ us hl => match us, hl with | [_], _ => rfl⟩,
    ⟨_, _, PySem.W.mg_of X G a__law_more, fun_mk (st := top 47) l__law_more c__law_more k__law_more, (fun_mk (st := top 47) l__law_more c__law_more k__law_more).binds fun _ _ _ _ _ _ us hl => match us, hl with | [_, _, _, _], _ => rfl⟩,
    ⟨_, _, PySem.W.mg_of X G a__law_bare, fun_mk (st := top 45) l__law_bare c__law_bare k__law_bare, (fun_mk (st := top 45) l__law_bare c__law_bare k__law_bare).binds fun _ _ _ _ _ _ us hl => match us, hl with | [_], _ => rfl⟩,
    ⟨_, _, PySem.W.mg_of X G a__law_wrong, fun_mk (st := top 48) l__law_wrong c__law_wrong k__law_wrong, (fun_mk (st := top 48) l__law_wrong c__law_wrong k__law_wrong).binds fun _ _ _ _ _ _ us hl => match us, hl with | [_], _ => rfl⟩,
    ⟨_, _, PySem.W.mg_of X G a_is_list, fun_mk (st := top 3) l_is_list c_is_list k_is_list, (fun_mk (st := top 3) l_is_list c_is_list k_is_list).binds fun _ _ _ _ _ _ us hl => match us, hl with | [_, _, _], _ => rfl⟩,
    ⟨_, _, PySem.W.mg_of X G a_is_kind, fun_mk (st := top 19) l_is_kind c_is_kind k_is_kind, (fun_mk (st := top 19) l_is_kind c_is_kind k_is_kind).binds fun _ _ _ _ _ _ us hl => match us, hl with | [_], _ => rfl⟩,
    ⟨_, _, PySem.W.mg_of X G a_is_event, fun_mk (st := top 18) l_is_event c_is_event k_is_event, (fun_mk (st := top 18) l_is_event c_is_event k_is_event).binds fun _ _ _ _ _ _ us hl => match us, hl with | [_], _ => rfl⟩,
    ⟨_, _, PySem.W.mg_of X G a_is_entry, fun_mk (st := top 21) l_is_entry c_is_entry k_is_entry, (fun_mk (st := top 21) l_is_entry c_is_entry k_is_entry).binds fun _ _ _ _ _ _ us hl => match us, hl with | [_], _ => rfl⟩,
    ⟨_, _, PySem.W.mg_of X G a_is_table, fun_mk (st := top 24) l_is_table c_is_table k_is_table, (fun_mk (st := top 24) l_is_table c_is_table k_is_table).binds fun _ _ _ _ _ _ us hl => match us, hl with | [_], _ => rfl⟩,
    ⟨_, _, PySem.W.mg_of X G a_is_integer, fun_mk (st := top 1) l_is_integer c_is_integer k_is_integer, (fun_mk (st := top 1) l_is_integer c_is_integer k_is_integer).binds fun _ _ _ _ _ _ us hl => match us, hl with | [_], _ => rfl⟩,
    ⟨_, _, PySem.W.mg_of X G a_is_in, fun_mk (st := top 2) l_is_in c_is_in k_is_in, (fun_mk (st := top 2) l_is_in c_is_in k_is_in).binds fun _ _ _ _ _ _ us hl => match us, hl with | [_, _, _], _ => rfl⟩,
    ⟨_, _, PySem.W.mg_of X G a_is_design, fun_mk (st := top 25) l_is_design c_is_design k_is_design, (fun_mk (st := top 25) l_is_design c_is_design k_is_design).binds fun _ _ _ _ _ _ us hl => match us, hl with | [_], _ => rfl⟩,
    ⟨_, _, PySem.W.mg_of X G a_need_design, fun_mk (st := top 26) l_need_design c_need_design k_need_design, (fun_mk (st := top 26) l_need_design c_need_design k_need_design).binds fun _ _ _ _ _ _ us hl => match us, hl with | [_], _ => rfl⟩,
    ⟨_, _, PySem.W.mg_of X G a_with_table, fun_mk (st := top 31) l_with_table c_with_table k_with_table, (fun_mk (st := top 31) l_with_table c_with_table k_with_table).binds fun _ _ _ _ _ _ us hl => match us, hl with | [_, _], _ => rfl⟩,
    ⟨_, _, PySem.W.mg_of X G a__law_alike, fun_mk (st := top 43) l__law_alike c__law_alike k__law_alike, (fun_mk (st := top 43) l__law_alike c__law_alike k__law_alike).binds fun _ _ _ _ _ _ us hl => match us, hl with | [_, _], _ => rfl⟩,
    ⟨_, _, PySem.W.mg_of X G a_number_of, fun_mk (st := top 20) l_number_of c_number_of k_number_of, (fun_mk (st := top 20) l_number_of c_number_of k_number_of).binds fun _ _ _ _ _ _ us hl => match us, hl with | [_], _ => rfl⟩,
    ⟨_, _, PySem.W.mg_of X G a_event_number, fun_mk (st := top 28) l_event_number c_event_number k_event_number, (fun_mk (st := top 28) l_event_number c_event_number k_event_number).binds fun _ _ _ _ _ _ us hl => match us, hl with | [_], _ => rfl⟩,
    ⟨_, _, PySem.W.mg_of X G a_need_entry, fun_mk (st := top 22) l_need_entry c_need_entry k_need_entry, (fun_mk (st := top 22) l_need_entry c_need_entry k_need_entry).binds fun _ _ _ _ _ _ us hl => match us, hl with | [_], _ => rfl⟩,
    ⟨_, _, PySem.W.mg_of X G a_can_hold, fun_mk (st := top 23) l_can_hold c_can_hold k_can_hold, (fun_mk (st := top 23) l_can_hold c_can_hold k_can_hold).binds fun _ _ _ _ _ _ us hl => match us, hl with | [_], _ => rfl⟩,
    ⟨_, _, PySem.W.mg_of X G a_may_hold, fun_mk (st := top 29) l_may_hold c_may_hold k_may_hold, (fun_mk (st := top 29) l_may_hold c_may_hold k_may_hold).binds fun _ _ _ _ _ _ us hl => match us, hl with | [_], _ => rfl⟩,
    ⟨_, _, PySem.W.mg_of X G a_holds_always, fun_mk (st := top 34) l_holds_always c_holds_always k_holds_always, (fun_mk (st := top 34) l_holds_always c_holds_always k_holds_always).binds fun _ _ _ _ _ _ us hl => match us, hl with | [_, _, _], _ => rfl⟩,
    ⟨_, _, PySem.W.mg_of X G a_forces, fun_mk (st := top 35) l_forces c_forces k_forces, (fun_mk (st := top 35) l_forces c_forces k_forces).binds fun _ _ _ _ _ _ us hl => match us, hl with | [_, _], _ => rfl⟩,
    ⟨_, _, PySem.W.mg_of X G a_forced_by_table, fun_mk (st := top 36) l_forced_by_table c_forced_by_table k_forced_by_table, (fun_mk (st := top 36) l_forced_by_table c_forced_by_table k_forced_by_table).binds fun _ _ _ _ _ _ us hl => match us, hl with | [_, _], _ => rfl⟩,
    ⟨_, _, PySem.W.mg_of X G a_forced_in, fun_mk (st := top 37) l_forced_in c_forced_in k_forced_in, (fun_mk (st := top 37) l_forced_in c_forced_in k_forced_in).binds fun _ _ _ _ _ _ us hl => match us, hl with | [_, _], _ => rfl⟩,
    ⟨_, _, PySem.W.mg_of X G a_is_forced, fun_mk (st := top 39) l_is_forced c_is_forced k_is_forced, (fun_mk (st := top 39) l_is_forced c_is_forced k_is_forced).binds fun _ _ _ _ _ _ us hl => match us, hl with | [_, _], _ => rfl⟩,
    ⟨_, _, PySem.W.mg_of X G a_home_in, fun_mk (st := top 27) l_home_in c_home_in k_home_in, (fun_mk (st := top 27) l_home_in c_home_in k_home_in).binds fun _ _ _ _ _ _ us hl => match us, hl with | [_, _], _ => rfl⟩,
    ⟨_, _, PySem.W.mg_of X G a_home_of, fun_mk (st := top 30) l_home_of c_home_of k_home_of, (fun_mk (st := top 30) l_home_of c_home_of k_home_of).binds fun _ _ _ _ _ _ us hl => match us, hl with | [_, _], _ => rfl⟩,
    ⟨_, _, PySem.W.mg_of X G a_needs_in, fun_mk (st := top 33) l_needs_in c_needs_in k_needs_in, (fun_mk (st := top 33) l_needs_in c_needs_in k_needs_in).binds fun _ _ _ _ _ _ us hl => match us, hl with | [_], _ => rfl⟩,
    ⟨_, _, PySem.W.mg_of X G a_needs, fun_mk (st := top 38) l_needs c_needs k_needs, (fun_mk (st := top 38) l_needs c_needs k_needs).binds fun _ _ _ _ _ _ us hl => match us, hl with | [_], _ => rfl⟩,
    ⟨_, _, PySem.W.mg_of X G a__law_home, fun_mk (st := top 44) l__law_home c__law_home k__law_home, (fun_mk (st := top 44) l__law_home c__law_home k__law_home).binds fun _ _ _ _ _ _ us hl => match us, hl with | [_, _], _ => rfl⟩⟩
  have hP := own lc Pt _ _ _ _ _ _ l_law rfl rfl lC lP
  refine ⟨_, [(lc, Pt)], spLawT [(Pt, ("law.<locals>.<lambda>" : Str))] K, fun p hp => ?_, fun p hp => ?_, fun p hp => ?_, fun s v => .of_eq rfl, fun H a ns hl _ hH hS => ⟨a, ns, rfl, hS, hl, fun p hp => ?_, fun _ => rfl⟩, fun base _ _ hTB => ok_law T rfl (hTB _ (List.mem_singleton.mpr rfl)) l_law c_law fin⟩
  · rw [List.mem_singleton.mp hp]; exact hP
  · rw [List.mem_singleton.mp hp]; exact lN
  · rw [List.mem_singleton.mp hp]; exact PySem.W.codeHd_of_K X lH
  · rw [List.mem_singleton.mp hp]; exact LamX.TabS.nil (hH _ (List.mem_singleton.mpr rfl))
end My
open PySem PySem.W PyProof.Rows
set_option maxRecDepth 100000 in
set_option maxHeartbeats 0 in
theorem PySem.Challenge.cw_windowbelt_k04_whole_designs_holds : PySem.Challenge.rw_windowbelt_k04_whole_designs.Holds := by
  w_on; o_law; k_head; (case hw => w_witness2)
  k_fill
  refine LamX.walk_ofOwn (l := PySem.Challenge.rw_windowbelt_k04_whole_designs) (n := 63) (k := 9) (x := "_law_script") (CX := fun _ => L2.CX0) rfl (by decide) rfl ⟨rfl, by decide, by decide⟩ (by decide +kernel) (fun w h Y => PySem.W.km_in_of Y) ?F fun _ _ _ _ _ z => z
  case F =>
    intro w mg fa h Y KX G hmg own
    refine' My.all_mk KX G hmg own ?n_all ?n_any ?n_bool ?n_dict ?n_int ?n_isinstance ?n_len ?n_list ?n_range ?n_sorted ?n_str ?n_tuple ?c_EVENTS ?l_EVENTS ?c_KINDS ?l_KINDS ?c_MOST_WIDTH ?c_RELATIONS ?l_RELATIONS ?c_STORES ?l_STORES ?l_STORES_0 ?l_STORES_1 ?l_STORES_2 ?c_WRITING ?l_WRITING ?a_WindowError ?eC_WindowError ?tC_WindowError ?ga_WindowError ?gg_WindowError ?hd_WindowError ?cl_WindowError ?mo_WindowError ?kC_WindowError ?a_BadEvent ?eC_BadEvent ?tC_BadEvent ?ga_BadEvent ?gg_BadEvent ?hd_BadEvent ?cl_BadEvent ?mo_BadEvent ?kC_BadEvent ?a_BadEntry ?eC_BadEntry ?tC_BadEntry ?ga_BadEntry ?gg_BadEntry ?hd_BadEntry ?cl_BadEntry ?mo_BadEntry ?kC_BadEntry ?a_BadDesign ?eC_BadDesign ?tC_BadDesign ?ga_BadDesign ?gg_BadDesign ?hd_BadDesign ?cl_BadDesign ?mo_BadDesign ?kC_BadDesign ?a_BadKind ?eC_BadKind ?tC_BadKind ?ga_BadKind ?gg_BadKind ?hd_BadKind ?cl_BadKind ?mo_BadKind ?kC_BadKind ?a_BadTable ?eC_BadTable ?tC_BadTable ?ga_BadTable ?gg_BadTable ?hd_BadTable ?cl_BadTable ?mo_BadTable ?kC_BadTable ?ns_get ?ns_tk ?ns_opq ?xc_BadDesign ?xc_BadEntry ?xc_BadEvent ?xc_BadKind ?xc_BadTable ?em_WindowError_WindowError ?em_BadEvent_WindowError ?em_BadEntry_WindowError ?em_BadDesign_WindowError ?em_BadKind_WindowError ?em_BadTable_WindowError ?ki_WindowError_BadDesign ?ki_BadEvent_BadDesign ?ki_BadEntry_BadDesign ?ki_BadDesign_BadDesign ?ki_BadKind_BadDesign ?ki_BadTable_BadDesign ?ki_WindowError_BadEntry ?ki_BadEvent_BadEntry ?ki_BadEntry_BadEntry ?ki_BadDesign_BadEntry ?ki_BadKind_BadEntry ?ki_BadTable_BadEntry ?ki_WindowError_BadEvent ?ki_BadEvent_BadEvent ?ki_BadEntry_BadEvent ?ki_BadDesign_BadEvent ?ki_BadKind_BadEvent ?ki_BadTable_BadEvent ?ki_WindowError_BadKind ?ki_BadEvent_BadKind ?ki_BadEntry_BadKind ?ki_BadDesign_BadKind ?ki_BadKind_BadKind ?ki_BadTable_BadKind ?ki_WindowError_BadTable ?ki_BadEvent_BadTable ?ki_BadEntry_BadTable ?ki_BadDesign_BadTable ?ki_BadKind_BadTable ?ki_BadTable_BadTable ?a__law_taken ?l__law_taken ?c__law_taken ?k__law_taken ?a__law_pick ?l__law_pick ?c__law_pick ?k__law_pick ?a__law_entry ?l__law_entry ?c__law_entry ?k__law_entry ?a__law_more ?l__law_more ?c__law_more ?k__law_more ?a__law_bare ?l__law_bare ?c__law_bare ?k__law_bare ?a__law_wrong ?l__law_wrong ?c__law_wrong ?k__law_wrong ?a_is_list ?l_is_list ?c_is_list ?k_is_list ?a_is_kind ?l_is_kind ?c_is_kind ?k_is_kind ?a_is_event ?l_is_event ?c_is_event ?k_is_event ?a_is_entry ?l_is_entry ?c_is_entry ?k_is_entry ?a_is_table ?l_is_table ?c_is_table ?k_is_table ?a_is_integer ?l_is_integer ?c_is_integer ?k_is_integer ?a_is_in ?l_is_in ?c_is_in ?k_is_in ?a_is_design ?l_is_design ?c_is_design ?k_is_design ?a_need_design ?l_need_design ?c_need_design ?k_need_design ?a_with_table ?l_with_table ?c_with_table ?k_with_table ?a__law_alike ?l__law_alike ?c__law_alike ?k__law_alike ?a_number_of ?l_number_of ?c_number_of ?k_number_of ?a_event_number ?l_event_number ?c_event_number ?k_event_number ?a_need_entry ?l_need_entry ?c_need_entry ?k_need_entry ?a_can_hold ?l_can_hold ?c_can_hold ?k_can_hold ?a_may_hold ?l_may_hold ?c_may_hold ?k_may_hold ?a_holds_always ?l_holds_always ?c_holds_always ?k_holds_always ?a_forces ?l_forces ?c_forces ?k_forces ?a_forced_by_table ?l_forced_by_table ?c_forced_by_table ?k_forced_by_table ?a_forced_in ?l_forced_in ?c_forced_in ?k_forced_in ?a_is_forced ?l_is_forced ?c_is_forced ?k_is_forced ?a_home_in ?l_home_in ?c_home_in ?k_home_in ?a_home_of ?l_home_of ?c_home_of ?k_home_of ?a_needs_in ?l_needs_in ?c_needs_in ?k_needs_in ?a_needs ?l_needs ?c_needs ?k_needs ?a__law_home ?l__law_home ?c__law_home ?k__law_home ?a_law ?l_law ?c_law ?k_law ?lC ?lP ?lN ?lH
    (case n_all => k_is)
    (case n_any => k_is)
    (case n_bool => k_is)
    (case n_dict => k_is)
    (case n_int => k_is)
    (case n_isinstance => k_is)
    (case n_len => k_is)
    (case n_list => k_is)
    (case n_range => k_is)
    (case n_sorted => k_is)
    (case n_str => k_is)
    (case n_tuple => k_is)
    (case c_EVENTS => k_is)
    (case l_EVENTS => k_is)
    (case c_KINDS => k_is)
    (case l_KINDS => k_is)
    (case c_MOST_WIDTH => k_is)
    (case c_RELATIONS => k_is)
    (case l_RELATIONS => k_is)
    (case c_STORES => k_is)
    (case l_STORES => k_is)
    (case l_STORES_0 => k_is)
    (case l_STORES_1 => k_is)
    (case l_STORES_2 => k_is)
    (case c_WRITING => k_is)
    (case l_WRITING => k_is)
    (case a_WindowError => k_is)
    (case eC_WindowError => k_is)
    (case tC_WindowError => k_is)
    (case ga_WindowError => k_is)
    (case gg_WindowError => k_is)
    (case hd_WindowError => k_is)
    (case cl_WindowError => k_is)
    (case mo_WindowError => k_is)
    (case kC_WindowError => k_is)
    (case a_BadEvent => k_is)
    (case eC_BadEvent => k_is)
    (case tC_BadEvent => k_is)
    (case ga_BadEvent => k_is)
    (case gg_BadEvent => k_is)
    (case hd_BadEvent => k_is)
    (case cl_BadEvent => k_is)
    (case mo_BadEvent => k_is)
    (case kC_BadEvent => k_is)
    (case a_BadEntry => k_is)
    (case eC_BadEntry => k_is)
    (case tC_BadEntry => k_is)
    (case ga_BadEntry => k_is)
    (case gg_BadEntry => k_is)
    (case hd_BadEntry => k_is)
    (case cl_BadEntry => k_is)
    (case mo_BadEntry => k_is)
    (case kC_BadEntry => k_is)
    (case a_BadDesign => k_is)
    (case eC_BadDesign => k_is)
    (case tC_BadDesign => k_is)
    (case ga_BadDesign => k_is)
    (case gg_BadDesign => k_is)
    (case hd_BadDesign => k_is)
    (case cl_BadDesign => k_is)
    (case mo_BadDesign => k_is)
    (case kC_BadDesign => k_is)
    (case a_BadKind => k_is)
    (case eC_BadKind => k_is)
    (case tC_BadKind => k_is)
    (case ga_BadKind => k_is)
    (case gg_BadKind => k_is)
    (case hd_BadKind => k_is)
    (case cl_BadKind => k_is)
    (case mo_BadKind => k_is)
    (case kC_BadKind => k_is)
    (case a_BadTable => k_is)
    (case eC_BadTable => k_is)
    (case tC_BadTable => k_is)
    (case ga_BadTable => k_is)
    (case gg_BadTable => k_is)
    (case hd_BadTable => k_is)
    (case cl_BadTable => k_is)
    (case mo_BadTable => k_is)
    (case kC_BadTable => k_is)
    (case ns_get => k_is)
    (case ns_tk => k_is)
    (case ns_opq => k_is)
    (case xc_BadDesign => k_exc)
    (case xc_BadEntry => k_exc)
    (case xc_BadEvent => k_exc)
    (case xc_BadKind => k_exc)
    (case xc_BadTable => k_exc)
    (case em_WindowError_WindowError => first | kts_exm | kernel_rfl)
    (case em_BadEvent_WindowError => first | kts_exm | kernel_rfl)
    (case em_BadEntry_WindowError => first | kts_exm | kernel_rfl)
    (case em_BadDesign_WindowError => first | kts_exm | kernel_rfl)
    (case em_BadKind_WindowError => first | kts_exm | kernel_rfl)
    (case em_BadTable_WindowError => first | kts_exm | kernel_rfl)
    (case ki_WindowError_BadDesign => first | kit_is | kernel_rfl)
    (case ki_BadEvent_BadDesign => first | kit_is | kernel_rfl)
    (case ki_BadEntry_BadDesign => first | kit_is | kernel_rfl)
    (case ki_BadDesign_BadDesign => first | kit_is | kernel_rfl)
    (case ki_BadKind_BadDesign => first | kit_is | kernel_rfl)
    (case ki_BadTable_BadDesign => first | kit_is | kernel_rfl)
    (case ki_WindowError_BadEntry => first | kit_is | kernel_rfl)
    (case ki_BadEvent_BadEntry => first | kit_is | kernel_rfl)
    (case ki_BadEntry_BadEntry => first | kit_is | kernel_rfl)
    (case ki_BadDesign_BadEntry => first | kit_is | kernel_rfl)
    (case ki_BadKind_BadEntry => first | kit_is | kernel_rfl)
    (case ki_BadTable_BadEntry => first | kit_is | kernel_rfl)
    (case ki_WindowError_BadEvent => first | kit_is | kernel_rfl)
    (case ki_BadEvent_BadEvent => first | kit_is | kernel_rfl)
    (case ki_BadEntry_BadEvent => first | kit_is | kernel_rfl)
    (case ki_BadDesign_BadEvent => first | kit_is | kernel_rfl)
    (case ki_BadKind_BadEvent => first | kit_is | kernel_rfl)
    (case ki_BadTable_BadEvent => first | kit_is | kernel_rfl)
    (case ki_WindowError_BadKind => first | kit_is | kernel_rfl)
    (case ki_BadEvent_BadKind => first | kit_is | kernel_rfl)
    (case ki_BadEntry_BadKind => first | kit_is | kernel_rfl)
    (case ki_BadDesign_BadKind => first | kit_is | kernel_rfl)
    (case ki_BadKind_BadKind => first | kit_is | kernel_rfl)
    (case ki_BadTable_BadKind => first | kit_is | kernel_rfl)
    (case ki_WindowError_BadTable => first | kit_is | kernel_rfl)
    (case ki_BadEvent_BadTable => first | kit_is | kernel_rfl)
    (case ki_BadEntry_BadTable => first | kit_is | kernel_rfl)
    (case ki_BadDesign_BadTable => first | kit_is | kernel_rfl)
    (case ki_BadKind_BadTable => first | kit_is | kernel_rfl)
    (case ki_BadTable_BadTable => first | kit_is | kernel_rfl)
    (case a__law_taken => k_is)
    (case l__law_taken => k_is)
    (case c__law_taken => k_is)
    (case k__law_taken => k_is)
    (case a__law_pick => k_is)
    (case l__law_pick => k_is)
    (case c__law_pick => k_is)
    (case k__law_pick => k_is)
    (case a__law_entry => k_is)
    (case l__law_entry => k_is)
    (case c__law_entry => k_is)
    (case k__law_entry => k_is)
    (case a__law_more => k_is)
    (case l__law_more => k_is)
    (case c__law_more => k_is)
    (case k__law_more => k_is)
    (case a__law_bare => k_is)
    (case l__law_bare => k_is)
    (case c__law_bare => k_is)
    (case k__law_bare => k_is)
    (case a__law_wrong => k_is)
    (case l__law_wrong => k_is)
    (case c__law_wrong => k_is)
    (case k__law_wrong => k_is)
    (case a_is_list => k_is)
    (case l_is_list => k_is)
    (case c_is_list => k_is)
    (case k_is_list => k_is)
    (case a_is_kind => k_is)
    (case l_is_kind => k_is)
    (case c_is_kind => k_is)
    (case k_is_kind => k_is)
    (case a_is_event => k_is)
    (case l_is_event => k_is)
    (case c_is_event => k_is)
    (case k_is_event => k_is)
    (case a_is_entry => k_is)
    (case l_is_entry => k_is)
    (case c_is_entry => k_is)
    (case k_is_entry => k_is)
    (case a_is_table => k_is)
    (case l_is_table => k_is)
    (case c_is_table => k_is)
    (case k_is_table => k_is)
    (case a_is_integer => k_is)
    (case l_is_integer => k_is)
    (case c_is_integer => k_is)
    (case k_is_integer => k_is)
    (case a_is_in => k_is)
    (case l_is_in => k_is)
    (case c_is_in => k_is)
    (case k_is_in => k_is)
    (case a_is_design => k_is)
    (case l_is_design => k_is)
    (case c_is_design => k_is)
    (case k_is_design => k_is)
    (case a_need_design => k_is)
    (case l_need_design => k_is)
    (case c_need_design => k_is)
    (case k_need_design => k_is)
    (case a_with_table => k_is)
    (case l_with_table => k_is)
    (case c_with_table => k_is)
    (case k_with_table => k_is)
    (case a__law_alike => k_is)
    (case l__law_alike => k_is)
    (case c__law_alike => k_is)
    (case k__law_alike => k_is)
    (case a_number_of => k_is)
    (case l_number_of => k_is)
    (case c_number_of => k_is)
    (case k_number_of => k_is)
    (case a_event_number => k_is)
    (case l_event_number => k_is)
    (case c_event_number => k_is)
    (case k_event_number => k_is)
    (case a_need_entry => k_is)
    (case l_need_entry => k_is)
    (case c_need_entry => k_is)
    (case k_need_entry => k_is)
    (case a_can_hold => k_is)
    (case l_can_hold => k_is)
    (case c_can_hold => k_is)
    (case k_can_hold => k_is)
    (case a_may_hold => k_is)
    (case l_may_hold => k_is)
    (case c_may_hold => k_is)
    (case k_may_hold => k_is)
    (case a_holds_always => k_is)
    (case l_holds_always => k_is)
    (case c_holds_always => k_is)
    (case k_holds_always => k_is)
    (case a_forces => k_is)
    (case l_forces => k_is)
    (case c_forces => k_is)
    (case k_forces => k_is)
    (case a_forced_by_table => k_is)
    (case l_forced_by_table => k_is)
    (case c_forced_by_table => k_is)
    (case k_forced_by_table => k_is)
    (case a_forced_in => k_is)
    (case l_forced_in => k_is)
    (case c_forced_in => k_is)
    (case k_forced_in => k_is)
    (case a_is_forced => k_is)
    (case l_is_forced => k_is)
    (case c_is_forced => k_is)
    (case k_is_forced => k_is)
    (case a_home_in => k_is)
    (case l_home_in => k_is)
    (case c_home_in => k_is)
    (case k_home_in => k_is)
    (case a_home_of => k_is)
    (case l_home_of => k_is)
    (case c_home_of => k_is)
    (case k_home_of => k_is)
    (case a_needs_in => k_is)
    (case l_needs_in => k_is)
    (case c_needs_in => k_is)
    (case k_needs_in => k_is)
    (case a_needs => k_is)
    (case l_needs => k_is)
    (case c_needs => k_is)
    (case k_needs => k_is)
    (case a__law_home => k_is)
    (case l__law_home => k_is)
    (case c__law_home => k_is)
    (case k__law_home => k_is)
    (case a_law => k_is)
    (case l_law => k_is)
    (case c_law => k_is)
    (case k_law => k_is)
    (case lC => k_is)
    (case lP => first | rfl | k_is)
    (case lN => first | rfl | k_is)
    (case lH => first | kernel_rfl | rfl | decide +kernel)
