import PyProof.Rows.All
import Wide.All
import OpenK.AllK
import Wide.FinOn
import HandS.ForMost
import HandS.IsInst
import HandS.Deep
import HandS.TupAny
import HandS.TupMul
import HandS.TupLe
import HandS.Strs
import HandS.Conv
import HandS.More
import HandS.Flow
import HandS.Style
import HandS.Wide
import HandS.WordsExc
import HandS.RaiseMore
import HandS.Lambda
import HandS.EndTab
import KE.KSortTupG
import KE.KDflt
import HandS.SortRule
import KE.LtData
import KE.KAssignIn
import KE.KDictPairs
import HandS.Small
import KE.KExcSuper
import HandS.ExcInit
import HandS.ExcIs
import HandS.ExcField
import KE.KExcIs
import HandS.Text
import HandS.EndOwn
import KE.KNestM
import HandS.TryOnly
import HandS.Iter
import PySem.Challenge.RW_windowbelt_k16_whole_frees_refused
import HandS.ForExc
set_option Elab.async false
set_option linter.all false
set_option maxRecDepth 100000
set_option maxHeartbeats 4000000
namespace Hush
structure A (n : Nat) : Type where
structure B : Type where
instance : Coe (A 0) B := ⟨fun _ => ⟨⟩⟩
def mkA (n : Nat) : A n := ⟨⟩
theorem ab (hF : False) (_ : B) : False := hF
theorem hu {P : Prop} (h : P) (_ : False → False) : P := h
end Hush
local macro_rules | `(tactic| walk_at "hu") => `(tactic| (intro hF; simpa only using Hush.ab hF (↑(Hush.mkA (by exact 0)) : Hush.B)))
namespace Dl
open PySem L2
abbrev Pth := List Nat
inductive D where
  /-- data made by the program -/
  | d (x : PyData)
  /-- a value as it is -/
  | o (v : V)
  /-- data that the module has written -/
  | kt (x : PyData)
  /-- an object as it stands -/
  | ob (u : HO)
  /-- the object at a place of a tree -/
  | r (n : Nat) (p : Pth)
  /-- a tuple, a list that nobody changes, of anything -/
  | tp (ds : List D)
  | ls (ds : List D)
  /-- a lambda by its number -/
  | cl (k : Nat)
  /-- the exception that is handled -/
  | xn (c : Str) (x : Option (Str × PyData))
  /-- the script -/
  | sc (ns : List Int)
  /-- nothing is known -/
  | un
mutual
inductive Dq (K : PySem.W.Frag) (H : Hp) : V → PyData → Prop
  | non : Dq K H .non .none
  | bl (b : Bool) : Dq K H (.bl b) (.bool b)
  | int (i : Int) : Dq K H (.int i) (.int i)
  | str (x : Str) : Dq K H (.str x) (.str x)
  | lst {a : Addr} {xs : List V} {ds : List PyData} : H a = some (.lst xs) → DqA K H xs ds → Dq K H (.ref a) (.list ds)
  | tup {a : Addr} {xs : List V} {ds : List PyData} : H a = some (.tup xs) → DqA K H xs ds → Dq K H (.ref a) (.tuple ds)
inductive DqA (K : PySem.W.Frag) (H : Hp) : List V → List PyData → Prop
  | nil : DqA K H [] []
  | cons {v : V} {vs : List V} {d : PyData} {ds : List PyData} : Dq K H v d → DqA K H vs ds → DqA K H (v :: vs) (d :: ds)
end
mutual
theorem dq_dp {K : PySem.W.Frag} {H : Hp} : ∀ {v : V} {d : PyData}, Dq K H v d → Dp K H v d
  | _, _, .non => .non
  | _, _, .bl b => .bl b
  | _, _, .int i => .int i
  | _, _, .str x => .str x
  | _, _, .lst h t => .lst (SqL.of h) (dqa_dpa t)
  | _, _, .tup h t => .tup (SqT.of h) (dqa_dpa t)
theorem dqa_dpa {K : PySem.W.Frag} {H : Hp} : ∀ {v : List V} {d : List PyData}, DqA K H v d → DpAll K H v d
  | _, _, .nil => .nil
  | _, _, .cons h t => .cons (dq_dp h) (dqa_dpa t)
end
structure Vw where
  h : Hp
  w : Nat → Pth → Option Addr
  c : Nat → V → Prop
  x : Str → Option (Str × PyData) → V → Prop
structure VLe (a b : Vw) : Prop where
  h : Same a.h b.h
  w : ∀ n p x, a.w n p = some x → b.w n p = some x
  c : ∀ k v, a.c k v → b.c k v
  x : ∀ c y v, a.x c y v → b.x c y v
theorem VLe.refl (a : Vw) : VLe a a := by
  refine Hush.hu (⟨fun _ _ e => e, fun _ _ _ e => e, fun _ _ e => e, fun _ _ _ e => e⟩) ?_
  walk_at "hu"
theorem VLe.trans {a b c : Vw} (x : VLe a b) (y : VLe b c) : VLe a c := by
  refine Hush.hu (⟨fun q o e => y.h q o (x.h q o e), fun n p q e => y.w n p q (x.w n p q e), fun k v e => y.c k v (x.c k v e), fun c z v q => y.x c z v (x.x c z v q)⟩) ?_
  walk_at "hu"
mutual
def Rp (K : PySem.W.Frag) (H : Vw) : D → V → Prop
  | .d x, v => Dq K H.h v x
  | .o w, v => v = w
  | .kt x, v => Dp K (fun _ => none) v x
  | .ob u, v => ∃ a, v = .ref a ∧ H.h a = some u
  | .r n p, v => ∃ a, v = .ref a ∧ H.w n p = some a
  | .tp ds, v => ∃ a xs, v = .ref a ∧ H.h a = some (.tup xs) ∧ RpA K H ds xs
  | .ls ds, v => ∃ a xs, v = .ref a ∧ H.h a = some (.lst xs) ∧ RpA K H ds xs
  | .cl k, v => H.c k v
  | .xn c y, v => H.x c y v
  | .sc ns, v => ∃ a, v = .ref a ∧ SqL K H.h a (ns.map V.int) ∧ ns.length ≤ 63
  | .un, _ => True
def RpA (K : PySem.W.Frag) (H : Vw) : List D → List V → Prop
  | [], vs => vs = []
  | d :: ds, vs => ∃ v us, vs = v :: us ∧ Rp K H d v ∧ RpA K H ds us
end
theorem rd_same {H H' : Hp} {a : Addr} {u : HO} (e : Same H H') (h : Rd H a u) : Rd H' a u := by
  refine @Hush.hu _ (by
  rcases h with h | ⟨o, h⟩
  · exact Or.inl (e a _ h)
  · exact Or.inr ⟨o, e a _ h⟩) ?_
  walk_at "hu"
theorem sqt_same {K : PySem.W.Frag} {H H' : Hp} {a : Addr} {xs : List V} (e : Same H H') (h : SqT K H a xs) : SqT K H' a xs := by
  refine @Hush.hu _ (by
  rcases h with h | h
  · exact Or.inl (rd_same e h)
  · exact Or.inr h) ?_
  walk_at "hu"
theorem sql_same {K : PySem.W.Frag} {H H' : Hp} {a : Addr} {xs : List V} (e : Same H H') (h : SqL K H a xs) : SqL K H' a xs := by
  refine @Hush.hu _ (by
  rcases h with h | h
  · exact Or.inl (rd_same e h)
  · exact Or.inr h) ?_
  walk_at "hu"
mutual
theorem dp_same {K : PySem.W.Frag} {H H' : Hp} (e : Same H H') : ∀ {v : V} {d : PyData}, Dq K H v d → Dq K H' v d
  | _, _, .non => .non
  | _, _, .bl b => .bl b
  | _, _, .int i => .int i
  | _, _, .str x => .str x
  | _, _, .lst h t => .lst (e _ _ h) (dpa_same e t)
  | _, _, .tup h t => .tup (e _ _ h) (dpa_same e t)
theorem dpa_same {K : PySem.W.Frag} {H H' : Hp} (e : Same H H') : ∀ {v : List V} {d : List PyData}, DqA K H v d → DqA K H' v d
  | _, _, .nil => .nil
  | _, _, .cons h t => .cons (dp_same e h) (dpa_same e t)
end
mutual
theorem rp_same {K : PySem.W.Frag} {H H' : Vw} (e : VLe H H') : ∀ {d : D} {v : V}, Rp K H d v → Rp K H' d v
  | .d x, _, h => dp_same e.h h
  | .o w, _, h => h
  | .kt x, _, h => h
  | .ob u, _, ⟨a, h1, h2⟩ => ⟨a, h1, e.h _ _ h2⟩
  | .r n p, _, ⟨a, h1, h2⟩ => ⟨a, h1, e.w _ _ _ h2⟩
  | .tp ds, _, ⟨a, xs, h1, h2, h3⟩ => ⟨a, xs, h1, e.h _ _ h2, rpa_same e h3⟩
  | .ls ds, _, ⟨a, xs, h1, h2, h3⟩ => ⟨a, xs, h1, e.h _ _ h2, rpa_same e h3⟩
  | .cl k, _, h => e.c _ _ h
  | .xn _ _, _, h => e.x _ _ _ h
  | .sc ns, _, ⟨a, h1, h2, h3⟩ => ⟨a, h1, sql_same e.h h2, h3⟩
  | .un, _, h => h
theorem rpa_same {K : PySem.W.Frag} {H H' : Vw} (e : VLe H H') : ∀ {ds : List D} {vs : List V}, RpA K H ds vs → RpA K H' ds vs
  | [], _, h => h
  | _ :: _, _, ⟨v, us, h1, h2, h3⟩ => ⟨v, us, h1, rp_same e h2, rpa_same e h3⟩
end
theorem dpa_len {K : PySem.W.Frag} {H : Hp} : ∀ {vs : List V} {ds : List PyData}, DqA K H vs ds → vs.length = ds.length
  | _, _, .nil => rfl
  | _, _, .cons _ t => by rw [List.length_cons, List.length_cons, dpa_len t]
inductive RpL (K : PySem.W.Frag) (H : Vw) : List D → List V → Prop
  | nil : RpL K H [] []
  | cons {d : D} {v : V} {ds : List D} {vs : List V} : Rp K H d v → RpL K H ds vs → RpL K H (d :: ds) (v :: vs)
theorem rpa_of {K : PySem.W.Frag} {H : Vw} : ∀ {ds : List D} {vs : List V}, RpL K H ds vs → RpA K H ds vs
  | _, _, .nil => rfl
  | _, _, .cons h t => ⟨_, _, rfl, h, rpa_of t⟩
theorem rpl_ofA {K : PySem.W.Frag} {H : Vw} : ∀ {ds : List D} {vs : List V}, RpA K H ds vs → RpL K H ds vs
  | [], _, h => by
    have h : _ = ([] : List V) := h
    subst h
    exact .nil
  | _ :: _, _, h => by
    obtain ⟨v, us, rfl, h2, h3⟩ := h
    exact .cons h2 (rpl_ofA h3)
theorem rpl_same {K : PySem.W.Frag} {H H' : Vw} (e : VLe H H') : ∀ {ds : List D} {vs : List V}, RpL K H ds vs → RpL K H' ds vs
  | _, _, .nil => .nil
  | _, _, .cons h t => .cons (rp_same e h) (rpl_same e t)
theorem rpl_len {K : PySem.W.Frag} {H : Vw} : ∀ {ds : List D} {vs : List V}, RpL K H ds vs → vs.length = ds.length
  | _, _, .nil => rfl
  | _, _, .cons _ t => by rw [List.length_cons, List.length_cons, rpl_len t]
def pdL : List D → Option (List PyData)
  | [] => some []
  | .d x :: r => (pdL r).map (x :: ·)
  | _ :: _ => none
theorem rpl_pd {K : PySem.W.Frag} {H : Vw} : ∀ {ds : List D} {vs : List V} {xs : List PyData}, RpL K H ds vs → pdL ds = some xs → DqA K H.h vs xs
  | _, _, _, .nil, h => by cases h; exact .nil
  | .d x :: r, v :: vs, _, .cons h t, e => by
    unfold pdL at e
    cases q : pdL r with
    | none => rw [q] at e; cases e
    | some ys =>
      rw [q] at e
      cases e
      exact .cons h (rpl_pd t q)
  | .o _ :: r, v :: vs, _, .cons h t, e => by cases e
  | .kt _ :: r, v :: vs, _, .cons h t, e => by cases e
  | .ob _ :: r, v :: vs, _, .cons h t, e => by cases e
  | .r _ _ :: r, v :: vs, _, .cons h t, e => by cases e
  | .tp _ :: r, v :: vs, _, .cons h t, e => by cases e
  | .ls _ :: r, v :: vs, _, .cons h t, e => by cases e
  | .cl _ :: r, v :: vs, _, .cons h t, e => by cases e
  | .xn _ _ :: r, v :: vs, _, .cons h t, e => by cases e
  | .sc _ :: r, v :: vs, _, .cons h t, e => by cases e
  | .un :: r, v :: vs, _, .cons h t, e => by cases e
theorem rpl_of {K : PySem.W.Frag} {H : Vw} : ∀ {xs : List PyData} {vs : List V}, DqA K H.h vs xs → RpL K H (xs.map D.d) vs
  | _, _, .nil => .nil
  | _, _, .cons h t => .cons h (rpl_of t)
theorem rpl_get {K : PySem.W.Frag} {H : Vw} : ∀ {ds : List D} {vs : List V} {i : Nat} {d : D}, RpL K H ds vs → ds[i]? = some d → ∃ v, vs[i]? = some v ∧ Rp K H d v
  | _, _, _, _, .nil, e => by simp at e
  | _, _, 0, _, .cons r _, e => by simp at e; subst e; exact ⟨_, rfl, r⟩
  | _, _, i + 1, d, .cons _ t, e => by
    obtain ⟨u, h1, h2⟩ := rpl_get (i := i) (d := d) t (by simpa using e)
    exact ⟨u, by simpa using h1, h2⟩
theorem rpl_app {K : PySem.W.Frag} {H : Vw} : ∀ {ds es : List D} {vs us : List V}, RpL K H ds vs → RpL K H es us → RpL K H (ds ++ es) (vs ++ us)
  | _, _, _, _, .nil, h => h
  | _, _, _, _, .cons h t, q => .cons h (rpl_app t q)
theorem dpa_app {K : PySem.W.Frag} {H : Hp} : ∀ {ds es : List PyData} {vs us : List V}, DqA K H vs ds → DqA K H us es → DqA K H (vs ++ us) (ds ++ es)
  | _, _, _, _, .nil, h => h
  | _, _, _, _, .cons h t, q => .cons h (dpa_app t q)
abbrev Env := List (Option D)
structure RE (K : PySem.W.Frag) (H : Vw) (env : Env) (σ : L2.St) : Prop where
  len : env.length = σ.length
  at_ : ∀ (i : Nat) (d : D), env[i]? = some (some d) → ∃ v, σ[i]? = some (some v) ∧ Rp K H d v
theorem RE.same {K : PySem.W.Frag} {H H' : Vw} {env : Env} {σ : L2.St} (r : RE K H env σ) (e : VLe H H') : RE K H' env σ := by
  refine Hush.hu (⟨r.len, fun i d h => let ⟨v, a, b⟩ := r.at_ i d h; ⟨v, a, rp_same e b⟩⟩) ?_
  walk_at "hu"
theorem RE.set {K : PySem.W.Frag} {H : Vw} {env : Env} {σ : L2.St} (r : RE K H env σ) {i : Nat} {d : D} {v : V} (h : Rp K H d v) : RE K H (env.set i (some d)) (σ.set i (some v)) := by
  refine @Hush.hu _ (by
  refine ⟨by rw [List.length_set, List.length_set]; exact r.len, fun j e q => ?_⟩
  by_cases hj : j = i
  · subst hj
    have hl : j < env.length := by
      have := (List.getElem?_eq_some_iff.mp q).1
      rw [List.length_set] at this
      exact this
    rw [List.getElem?_set_self hl] at q
    cases q
    exact ⟨v, List.getElem?_set_self (by rw [← r.len]; exact hl), h⟩
  · rw [List.getElem?_set_ne (Ne.symm hj)] at q ⊢
    exact r.at_ j e q) ?_
  walk_at "hu"
def wipeE (env : Env) : List Nat → Env
  | [] => env
  | i :: r => (wipeE env r).set i none
theorem RE.unset {K : PySem.W.Frag} {H : Vw} {env : Env} {σ : L2.St} (r : RE K H env σ) (i : Nat) : RE K H (env.set i none) (σ.set i none) := by
  refine @Hush.hu _ (by
  refine ⟨by rw [List.length_set, List.length_set]; exact r.len, fun j e q => ?_⟩
  by_cases hj : j = i
  · subst hj
    have hl : j < env.length := by
      have := (List.getElem?_eq_some_iff.mp q).1
      rw [List.length_set] at this
      exact this
    rw [List.getElem?_set_self hl] at q
    cases q
  · rw [List.getElem?_set_ne (Ne.symm hj)] at q ⊢
    exact r.at_ j e q) ?_
  walk_at "hu"
mutual
def top : D → Nat
  | .r n _ => n + 1
  | .tp ds => topL ds
  | .ls ds => topL ds
  | .xn _ _ => 1
  | _ => 0
def topL : List D → Nat
  | [] => 0
  | d :: ds => max (top d) (topL ds)
end
inductive Kd where
  | lst
  | dic (ks : List Str)
  | ins (c : Str) (ks : List Str)
  | dct (ks : List (List Key))
  deriving DecidableEq
inductive Tr where
  | v (d : D)
  | nd (k : Kd) (ts : List Tr)
abbrev Ts := List (Option Tr)
def Tr.get : Tr → Pth → Option Tr
  | t, [] => some t
  | .v _, _ :: _ => none
  | .nd _ ts, j :: p => match ts[j]? with
    | some t => t.get p
    | none => none
def getT (t : Ts) (n : Nat) (p : Pth) : Option Tr := match t[n]? with
  | some (some T) => T.get p
  | _ => none
def NT (o : HO) : Prop := (∀ xs, o ≠ .tup xs) ∧ ∀ φ, o ≠ .ext φ
structure SI where
  mg : Str → Option Value
  T : List (Addr × Str)
  C : Hp → Nat → V → Prop
  cs : ∀ {H H' : Hp} {k : Nat} {v : V}, Same H H' → C H k v → C H' k v
  X : Hp → Str → Option (Str × PyData) → V → Prop
  xs : ∀ {H H' : Hp} {c : Str} {y : Option (Str × PyData)} {v : V}, Same H H' → X H c y v → X H' c y v
  w0 : Nat → Pth → Option (Addr × Addr)
structure St1 where
  t : Ts
  w : Nat → Pth → Option (Addr × Addr)
  Z : Hp
abbrev SI.S (_ : SI) := St1
def Kd.isIns : Kd → Bool
  | .ins _ _ => true
  | _ => false
def Adr (s : St1) (b : Addr) : Prop := ∃ n p k ts a dx, getT s.t n p = some (.nd k ts) ∧ s.w n p = some (a, dx) ∧ (b = a ∨ (k.isIns = true ∧ b = dx))
def SI.M (I : SI) (s : St1) (b : Addr) : Prop := Adr s b ∨ (∃ o, s.Z b = some o) ∨ ∃ q ∈ I.T, q.1 = b
open Classical in
noncomputable def Hr (I : SI) (s : St1) (H : Hp) : Vw where
  h := fun a => if I.M s a then none else H a
  w := fun n p => (s.w n p).map (·.1)
  c := fun k v => I.C (fun a => if I.M s a then none else H a) k v
  x := fun c y v => I.X (fun a => if I.M s a then none else H a) c y v
def Ch (K : PySem.W.Frag) (vw : Vw) (n : Nat) (p : Pth) (j : Nat) : Tr → V → Prop
  | .v d, v => Rp K vw d v ∧ top d = 0
  | .nd _ _, v => ∃ a, vw.w n (p ++ [j]) = some a ∧ v = .ref a
inductive Chs (K : PySem.W.Frag) (vw : Vw) (n : Nat) (p : Pth) : Nat → List Tr → List V → Prop
  | nil {j : Nat} : Chs K vw n p j [] []
  | cons {j : Nat} {t : Tr} {ts : List Tr} {v : V} {vs : List V} : Ch K vw n p j t v → Chs K vw n p (j + 1) ts vs → Chs K vw n p j (t :: ts) (v :: vs)
def Holds (mg : Str → Option Value) (H : Hp) (a dx : Addr) (vs : List V) : Kd → Prop
  | .lst => H a = some (.lst vs)
  | .dic ks => ks.length = vs.length ∧ ks.Nodup ∧ H a = some (.dK ((ks.map Sum.inr).zip vs))
  | .ins c ks => ks.length = vs.length ∧ ks.Nodup ∧ ∃ C, mg c = some (.ref C) ∧ H a = some (.ins C dx (ks.zip vs)) ∧ H dx = some (.own a)
  | .dct ks => ks.length = vs.length ∧ ks.Nodup ∧ H a = some (.dT (ks.zip vs))
structure SI.ok (I : SI) (K : PySem.W.Frag) (s : St1) (H : Hp) : Prop where
  nod : ∀ n p k ts, getT s.t n p = some (.nd k ts) → ∃ a dx vs, s.w n p = some (a, dx) ∧ s.Z a = none ∧ (k.isIns = true → s.Z dx = none) ∧ Chs K (Hr I s H) n p 0 ts vs ∧ Holds I.mg H a dx vs k
  inj : ∀ n p k ts n' p' k' ts' a dx dx', getT s.t n p = some (.nd k ts) → getT s.t n' p' = some (.nd k' ts') → s.w n p = some (a, dx) → s.w n' p' = some (a, dx') → n = n' ∧ p = p'
  dom : ∀ n p x, s.w n p = some x → n < s.t.length ∧ ∀ T, s.t[n]? = some (some T) → ∃ k ts, T.get p = some (.nd k ts)
  z : ∀ a o, s.Z a = some o → H a = some o ∧ NT o ∧ ∀ ps, o ≠ .tbl ps
  tab : LamX.Tabs I.T H
  fl : ∀ n p x, I.w0 n p = some x → s.w n p = some x
end Dl
namespace Dl
open PySem L2
section
variable {I : SI} {K : PySem.W.Frag} {s s' s'' : St1} {H H' H'' : Hp}
theorem hr_of {a : Addr} {o : HO} (h : (Hr I s H).h a = some o) : H a = some o ∧ ¬ I.M s a := by
  refine @Hush.hu _ (by
  unfold Hr at h
  dsimp only at h
  by_cases m : I.M s a
  · rw [if_pos m] at h; cases h
  · rw [if_neg m] at h; exact ⟨h, m⟩) ?_
  walk_at "hu"
theorem hr_in {a : Addr} {o : HO} (h : H a = some o) (m : ¬ I.M s a) : (Hr I s H).h a = some o := by
  refine @Hush.hu _ (by
  unfold Hr
  dsimp only
  rw [if_neg m]
  exact h) ?_
  walk_at "hu"
theorem hr_sub : Same (Hr I s H).h H := by
  refine Hush.hu (fun _ _ h => (hr_of h).1) ?_
  walk_at "hu"
theorem vle_of (h : Same (Hr I s H).h (Hr I s' H').h) (w : ∀ n p x, s.w n p = some x → s'.w n p = some x) : VLe (Hr I s H) (Hr I s' H') := by
  refine Hush.hu (⟨h, fun n p x e => by
    have e : (s.w n p).map (·.1) = some x := e
    cases q : s.w n p with
    | none => rw [q] at e; cases e
    | some y =>
      rw [q] at e
      show (s'.w n p).map (·.1) = some x
      rw [w n p y q]
      exact e, fun k v e => I.cs h e, fun c y v e => I.xs h e⟩) ?_
  walk_at "hu"
theorem hr_up (e : Same H H') : VLe (Hr I s H) (Hr I s H') := by
  refine Hush.hu (vle_of (fun a o h => by
  obtain ⟨h1, h2⟩ := hr_of h
  exact hr_in (e a o h1) h2) fun _ _ _ e => e) ?_
  walk_at "hu"
theorem chs_same {A B : Vw} (e : VLe A B) {n : Nat} {p : Pth} : ∀ {j : Nat} {ts : List Tr} {vs : List V}, Chs K A n p j ts vs → Chs K B n p j ts vs
  | _, _, _, .nil => .nil
  | _, .v d :: _, _, .cons h t => .cons ⟨rp_same (d := d) e h.1, h.2⟩ (chs_same e t)
  | _, .nd _ _ :: _, _, .cons ⟨a, h1, h2⟩ t => .cons ⟨a, e.w _ _ _ h1, h2⟩ (chs_same e t)
theorem chs_len {A : Vw} {n : Nat} {p : Pth} : ∀ {j : Nat} {ts : List Tr} {vs : List V}, Chs K A n p j ts vs → vs.length = ts.length
  | _, _, _, .nil => rfl
  | _, _, _, .cons _ t => by rw [List.length_cons, List.length_cons, chs_len t]
theorem holds_same {mg : Str → Option Value} {a dx : Addr} {vs : List V} {k : Kd} (e : ∀ o, H a = some o → H' a = some o) (e2 : k.isIns = true → ∀ o, H dx = some o → H' dx = some o) (h : Holds mg H a dx vs k) : Holds mg H' a dx vs k := by
  refine @Hush.hu _ (by
  cases k with
  | lst => exact e _ h
  | dic ks => exact ⟨h.1, h.2.1, e _ h.2.2⟩
  | ins c ks => obtain ⟨h1, h2, C, h3, h4, h5⟩ := h; exact ⟨h1, h2, C, h3, e _ h4, e2 rfl _ h5⟩
  | dct ks => exact ⟨h.1, h.2.1, e _ h.2.2⟩) ?_
  walk_at "hu"
theorem holds_at {mg : Str → Option Value} {a dx : Addr} {vs : List V} {k : Kd} (h : Holds mg H a dx vs k) : ∃ o, H a = some o ∧ NT o ∧ (∀ x, o ≠ .own x) ∧ ∀ ps, o ≠ .tbl ps := by
  refine @Hush.hu _ (by
  cases k with
  | lst => exact ⟨_, h, ⟨(fun _ e => nomatch e), (fun _ e => nomatch e)⟩, (fun _ e => nomatch e), (fun _ e => nomatch e)⟩
  | dic ks => exact ⟨_, h.2.2, ⟨(fun _ e => nomatch e), (fun _ e => nomatch e)⟩, (fun _ e => nomatch e), (fun _ e => nomatch e)⟩
  | ins c ks => obtain ⟨h1, h2, C, h3, h4, h5⟩ := h; exact ⟨_, h4, ⟨(fun _ e => nomatch e), (fun _ e => nomatch e)⟩, (fun _ e => nomatch e), (fun _ e => nomatch e)⟩
  | dct ks => exact ⟨_, h.2.2, ⟨(fun _ e => nomatch e), (fun _ e => nomatch e)⟩, (fun _ e => nomatch e), (fun _ e => nomatch e)⟩) ?_
  walk_at "hu"
theorem holds_dx {mg : Str → Option Value} {a dx : Addr} {vs : List V} {k : Kd} (h : Holds mg H a dx vs k) (hi : k.isIns = true) : H dx = some (.own a) := by
  refine @Hush.hu _ (by
  cases k with
  | ins c ks => obtain ⟨h1, h2, C, h3, h4, h5⟩ := h; exact h5
  | lst => cases hi
  | dic ks => cases hi
  | dct ks => cases hi) ?_
  walk_at "hu"
theorem SI.nt (h : I.ok K s H) {a : Addr} (m : I.M s a) : ∃ o, H a = some o ∧ NT o := by
  refine @Hush.hu _ (by
  rcases m with ⟨n, p, k, ts, b, dx, h1, h2, h3⟩ | ⟨o, m⟩ | ⟨q, hq, e⟩
  · obtain ⟨b', dx', vs, e1, _, _, _, e2⟩ := h.nod n p k ts h1
    rw [h2] at e1
    cases e1
    rcases h3 with h3 | ⟨h3, h4⟩
    · subst h3
      obtain ⟨o, y, z, _⟩ := holds_at e2
      exact ⟨o, y, z⟩
    · subst h4
      exact ⟨_, holds_dx e2 h3, (fun _ e => nomatch e), (fun _ e => nomatch e)⟩
  · exact ⟨o, (h.z a o m).1, (h.z a o m).2.1⟩
  · obtain ⟨ps, z, _⟩ := h.tab q hq
    exact ⟨_, (congrArg H e.symm).trans z, (fun _ e => nomatch e), (fun _ e => nomatch e)⟩) ?_
  walk_at "hu"
theorem SI.al (h : I.ok K s H) {a : Addr} (m : I.M s a) : ∃ o, H a = some o := by
  refine Hush.hu (let ⟨o, e, _⟩ := SI.nt h m; ⟨o, e⟩) ?_
  walk_at "hu"
theorem SI.stay (h : I.ok K s H) (e : Same H H') : I.ok K s H' := by
  refine Hush.hu (⟨fun n p k ts q => by
    obtain ⟨a, dx, vs, h1, h2, h3, h4, h5⟩ := h.nod n p k ts q
    exact ⟨a, dx, vs, h1, h2, h3, chs_same (hr_up e) h4, holds_same (fun o z => e _ _ z) (fun _ o z => e _ _ z) h5⟩,
   h.inj, h.dom, fun a o q => ⟨e _ _ (h.z a o q).1, (h.z a o q).2⟩, h.tab.ext e, h.fl⟩) ?_
  walk_at "hu"
structure Po (I : SI) (K : PySem.W.Frag) (s : St1) (H : Hp) (s' : St1) (H' : Hp) : Prop where
  keep : ∀ a o, ¬ I.M s a → H a = some o → H' a = some o
  ok : I.ok K s' H'
  gro : ∀ a, I.M s' a → I.M s a ∨ H a = none
  live : ∀ a o, H a = some o → ∃ o', H' a = some o'
  wle : ∀ n p x, s.w n p = some x → s'.w n p = some x
  ze : s'.Z = s.Z
theorem Po.refl (h : I.ok K s H) : Po I K s H s H := by
  refine Hush.hu (⟨fun _ _ _ e => e, h, fun _ m => .inl m, fun _ o e => ⟨o, e⟩, fun _ _ _ e => e, rfl⟩) ?_
  walk_at "hu"
theorem Po.trans (a : Po I K s H s' H') (b : Po I K s' H' s'' H'') : Po I K s H s'' H'' where
  keep := fun c o m e => b.keep c o (fun z => (a.gro c z).elim m fun n => by rw [n] at e; cases e) (a.keep c o m e)
  ok := b.ok
  gro := fun c m => (b.gro c m).elim (fun z => a.gro c z) fun n => by
    by_cases z : I.M s c
    · exact .inl z
    · refine .inr ?_
      cases q : H c with
      | none => rfl
      | some o => rw [a.keep c o z q] at n; cases n
  live := fun c o e => let ⟨o1, e1⟩ := a.live c o e; b.live c o1 e1
  wle := fun n p x e => b.wle n p x (a.wle n p x e)
  ze := b.ze.trans a.ze
theorem Po.same (a : Po I K s H s' H') : VLe (Hr I s H) (Hr I s' H') := by
  refine Hush.hu (vle_of (fun c o h => by
  obtain ⟨h1, h2⟩ := hr_of h
  exact hr_in (a.keep c o h2 h1) fun z => (a.gro c z).elim h2 fun n => by rw [n] at h1; cases h1) a.wle) ?_
  walk_at "hu"
theorem Po.up (h : I.ok K s H) (e : Same H H') : Po I K s H s H' := by
  refine Hush.hu (⟨fun c o _ q => e c o q, SI.stay h e, fun _ m => .inl m, fun c o q => ⟨o, e c o q⟩, fun _ _ _ e => e, rfl⟩) ?_
  walk_at "hu"
theorem Po.free (a : Po I K s H s' H') {c : Addr} (h : H' c = none) : H c = none := by
  refine @Hush.hu _ (by
  cases q : H c with
  | none => rfl
  | some o =>
    obtain ⟨o', e⟩ := a.live c o q
    rw [h] at e; cases e) ?_
  walk_at "hu"
theorem same_new {p : Addr} {o : HO} (h : H p = none) : Same H (upd H p o) := by
  refine Hush.hu (fun c u e => by
  rw [upd_ne (ne_of_none e h)]
  exact e) ?_
  walk_at "hu"
theorem nom (h : I.ok K s H) {p : Addr} (hp : H p = none) : ¬ I.M s p := by
  refine Hush.hu (fun m => by
  obtain ⟨o, e⟩ := SI.al h m
  rw [hp] at e; cases e) ?_
  walk_at "hu"
theorem hr_new (h : I.ok K s H) {p : Addr} {o : HO} (hp : H p = none) : (Hr I s (upd H p o)).h p = some o := by
  refine Hush.hu (hr_in upd_same (nom h hp)) ?_
  walk_at "hu"
theorem hr_same_new (h : I.ok K s H) {p : Addr} {o : HO} (hp : H p = none) : VLe (Hr I s H) (Hr I s (upd H p o)) := by
  refine Hush.hu ((Po.up (I := I) h (same_new hp)).same) ?_
  walk_at "hu"
theorem hr_tup (h : I.ok K s H) {a : Addr} {xs : List V} (e : H a = some (.tup xs)) : (Hr I s H).h a = some (.tup xs) := by
  refine Hush.hu (hr_in e fun m => let ⟨o, e2, n⟩ := SI.nt h m; by rw [e] at e2; cases e2; exact n.1 xs rfl) ?_
  walk_at "hu"
theorem hr_ext (h : I.ok K s H) {a : Addr} {φ : Heap → Prop} (e : H a = some (.ext φ)) : (Hr I s H).h a = some (.ext φ) := by
  refine Hush.hu (hr_in e fun m => let ⟨o, e2, n⟩ := SI.nt h m; by rw [e] at e2; cases e2; exact n.2 φ rfl) ?_
  walk_at "hu"
variable {Q : VK} {d : D} {v : V}
theorem here (ok : I.ok K s H) (k : ∀ v H', Po I K s H s H' → Rp K (Hr I s H') d v → Q v H') (h : Rp K (Hr I s H) d v) : Q v H := by
  refine Hush.hu (k v H (Po.refl ok) h) ?_
  walk_at "hu"
theorem newT (ok : I.ok K s H) {xs : List V} {ds : List PyData} (k : ∀ v H', Po I K s H s H' → Rp K (Hr I s H') (.d (.tuple ds)) v → Q v H') (h : DqA K (Hr I s H).h xs ds) (p : Addr) (hp : H p = none) : Q (.ref p) (upd H p (.tup xs)) := by
  refine Hush.hu (k _ _ (Po.up ok (same_new hp)) (.tup (hr_new ok hp) (dpa_same (hr_same_new ok hp).h h))) ?_
  walk_at "hu"
theorem newL (ok : I.ok K s H) {xs : List V} {ds : List PyData} (k : ∀ v H', Po I K s H s H' → Rp K (Hr I s H') (.d (.list ds)) v → Q v H') (h : DqA K (Hr I s H).h xs ds) (p : Addr) (hp : H p = none) : Q (.ref p) (upd H p (.lst xs)) := by
  refine Hush.hu (k _ _ (Po.up ok (same_new hp)) (.lst (hr_new ok hp) (dpa_same (hr_same_new ok hp).h h))) ?_
  walk_at "hu"
theorem newTP (ok : I.ok K s H) {xs : List V} {ds : List D} (k : ∀ v H', Po I K s H s H' → Rp K (Hr I s H') (.tp ds) v → Q v H') (h : RpL K (Hr I s H) ds xs) (p : Addr) (hp : H p = none) : Q (.ref p) (upd H p (.tup xs)) := by
  refine Hush.hu (k _ _ (Po.up ok (same_new hp)) ⟨_, _, rfl, hr_new ok hp, rpa_of (rpl_same (hr_same_new ok hp) h)⟩) ?_
  walk_at "hu"
theorem newLS (ok : I.ok K s H) {xs : List V} {ds : List D} (k : ∀ v H', Po I K s H s H' → Rp K (Hr I s H') (.ls ds) v → Q v H') (h : RpL K (Hr I s H) ds xs) (p : Addr) (hp : H p = none) : Q (.ref p) (upd H p (.lst xs)) := by
  refine Hush.hu (k _ _ (Po.up ok (same_new hp)) ⟨_, _, rfl, hr_new ok hp, rpa_of (rpl_same (hr_same_new ok hp) h)⟩) ?_
  walk_at "hu"
end
structure Exn where
  c : Str
  x : Option (Str × PyData)
inductive R (α : Type) where
  | no
  | ok (a : α) (t : Ts)
  | ex (x : Exn) (t : Ts)
def R.bind {α β : Type} (r : R α) (k : α → Ts → R β) : R β := match r with
  | .no => .no
  | .ok a t => k a t
  | .ex x t => .ex x t
def R.map {α β : Type} (r : R α) (f : α → β) : R β := match r with
  | .no => .no
  | .ok a t => .ok (f a) t
  | .ex x t => .ex x t
def ofO {α : Type} (o : Option α) (t : Ts) : R α := match o with
  | some a => .ok a t
  | none => .no
def R.Post {α : Type} (r : R α) (P : α → Ts → Prop) (X : Exn → Ts → Prop) : Prop := match r with
  | .no => False
  | .ok a t => P a t
  | .ex x t => X x t
theorem R.post_bind {α β : Type} {r : R α} {k : α → Ts → R β} {P : β → Ts → Prop} {X : Exn → Ts → Prop} (h : (r.bind k).Post P X) : r.Post (fun a t => (k a t).Post P X) X := by
  refine @Hush.hu _ (by
  cases r with
  | no => exact h
  | ok a t => exact h
  | ex x t => exact h) ?_
  walk_at "hu"
theorem R.Post.mono {α : Type} {r : R α} {P P' : α → Ts → Prop} {X X' : Exn → Ts → Prop} (h : r.Post P X) (hp : ∀ a t, P a t → P' a t) (hx : ∀ x t, X x t → X' x t) : r.Post P' X' := by
  refine @Hush.hu _ (by
  cases r with
  | no => exact h
  | ok a t => exact hp _ _ h
  | ex x t => exact hx _ _ h) ?_
  walk_at "hu"
theorem post_ofO {α : Type} {o : Option α} {t : Ts} {P : α → Ts → Prop} {X : Exn → Ts → Prop} (h : (ofO o t).Post P X) : ∃ a, o = some a ∧ P a t := by
  refine @Hush.hu _ (by
  cases o with
  | none => exact h.elim
  | some a => exact ⟨a, rfl, h⟩) ?_
  walk_at "hu"
abbrev Sm (α : Type) := Env → Ts → R α
abbrev Pm (α : Type) := Env → Option α
def lift {α : Type} (g : Pm α) : Sm α := fun env t => ofO (g env) t
def ExAt (K : PySem.W.Frag) (mg : Str → Option Value) (H : Vw) (x : Exn) (cls : Value) (d : Option Addr) : Prop := ∃ C, mg x.c = some (.ref C) ∧ cls = .ref C ∧ match x.x with
  | none => d = none
  | some (f, y) => ∃ dd v, d = some dd ∧ H.h dd = some (.xd [(f, v)]) ∧ Dq K H.h v y
theorem exat_same {K : PySem.W.Frag} {mg : Str → Option Value} {H H' : Vw} {x : Exn} {cls : Value} {d : Option Addr} (e : VLe H H') (h : ExAt K mg H x cls d) : ExAt K mg H' x cls d := by
  refine @Hush.hu _ (by
  obtain ⟨C, h1, h2, h3⟩ := h
  refine ⟨C, h1, h2, ?_⟩
  cases q : x.x with
  | none => rw [q] at h3; exact h3
  | some y =>
    obtain ⟨f, y⟩ := y
    rw [q] at h3
    obtain ⟨dd, v, h4, h5, h6⟩ := h3
    exact ⟨dd, v, h4, e.h _ _ h5, dp_same e.h h6⟩) ?_
  walk_at "hu"
section
variable (I : SI) (K : PySem.W.Frag) (W : WX)
def XP (s : St1) (σ : L2.St) (H : Hp) (x : Exn) (t : Ts) : Prop := ∀ cls dd s' H', s'.t = t → Po I K s H s' H' → ExAt K I.mg (Hr I s' H') x cls dd → W cls dd σ H'
def tG (g : Sm D) : TE := fun σ H Q => ∃ env s, I.ok K s H ∧ RE K (Hr I s H) env σ ∧ (g env s.t).Post (fun d t => ∀ v s' H', s'.t = t → Po I K s H s' H' → Rp K (Hr I s' H') d v → Q v H') (XP I K W s σ H)
def tGB (g : Sm Bool) : TT := fun σ H Q => ∃ env s, I.ok K s H ∧ RE K (Hr I s H) env σ ∧ (g env s.t).Post (fun b t => ∀ s' H', s'.t = t → Po I K s H s' H' → Q b H') (XP I K W s σ H)
def tGL (g : Sm (List D)) : TA := fun σ H Q => ∃ env s, I.ok K s H ∧ RE K (Hr I s H) env σ ∧ (g env s.t).Post (fun ds t => ∀ vs s' H', s'.t = t → Po I K s H s' H' → RpL K (Hr I s' H') ds vs → Q vs H') (XP I K W s σ H)
inductive Out where
  | nx (env : Env)
  | rt (d : D)
  | bk (env : Env)
  | ct (env : Env)
def Fin1 (s : St1) (H : Hp) (o : Out) (t : Ts) (Dn : Ends) : Prop := match o with
  | .nx env => ∀ σ' s' H', s'.t = t → Po I K s H s' H' → RE K (Hr I s' H') env σ' → Dn.nx σ' H'
  | .rt d => ∀ v s' H', s'.t = t → Po I K s H s' H' → Rp K (Hr I s' H') d v → Dn.rt v H'
  | .bk env => ∀ σ' s' H', s'.t = t → Po I K s H s' H' → RE K (Hr I s' H') env σ' → Dn.bk σ' H'
  | .ct env => ∀ σ' s' H', s'.t = t → Po I K s H s' H' → RE K (Hr I s' H') env σ' → Dn.ct σ' H'
def tGS (g : Sm Out) : L2.TS := fun Dn σ H => ∃ env s, I.ok K s H ∧ RE K (Hr I s H) env σ ∧ (g env s.t).Post (fun o t => Fin1 I K s H o t Dn) (fun x t => ∀ σ', XP I K W s σ' H x t)
end
section
variable {I : SI} {K : PySem.W.Frag} {W : WX} {s s' s1 : St1} {H H1 H' : Hp} {σ : L2.St}
theorem xp_from {x : Exn} {t : Ts} (p : Po I K s H s1 H1) (h : XP I K W s σ H x t) : XP I K W s1 σ H1 x t := by
  refine Hush.hu (fun cls dd s' H' e p2 a => h cls dd s' H' e (p.trans p2) a) ?_
  walk_at "hu"
theorem fin_from {o : Out} {t : Ts} {Dn : Ends} (p : Po I K s H s1 H1) (h : Fin1 I K s H o t Dn) : Fin1 I K s1 H1 o t Dn := by
  refine @Hush.hu _ (by
  cases o with
  | nx env => exact fun σ' s' H' e p2 r => h σ' s' H' e (p.trans p2) r
  | rt d => exact fun v s' H' e p2 r => h v s' H' e (p.trans p2) r
  | bk env => exact fun σ' s' H' e p2 r => h σ' s' H' e (p.trans p2) r
  | ct env => exact fun σ' s' H' e p2 r => h σ' s' H' e (p.trans p2) r) ?_
  walk_at "hu"
theorem _root_.L2.PE.imp {X : Cx} {e : Expr} {t t' : TE} (h : PE X e t) (k : ∀ σ H Q, t' σ H Q → t σ H Q) : PE X e t' := by
  refine Hush.hu (⟨fun pins s σ H Q I q => h.run pins s σ H Q I (k σ H Q q)⟩) ?_
  walk_at "hu"
theorem _root_.L2.PT.imp {X : Cx} {e : Expr} {t t' : TT} (h : PT X e t) (k : ∀ σ H Q, t' σ H Q → t σ H Q) : PT X e t' := by
  refine Hush.hu (⟨fun pins s σ H Q I q => h.run pins s σ H Q I (k σ H Q q)⟩) ?_
  walk_at "hu"
theorem _root_.L2.PW.imp {X : Cx} {e : Expr} {t t' : TT} (h : PW X e t) (k : ∀ σ H Q, t' σ H Q → t σ H Q) : PW X e t' := by
  refine Hush.hu (⟨fun w pins s σ H Q I q => h.run w pins s σ H Q I (k σ H Q q)⟩) ?_
  walk_at "hu"
theorem _root_.L2.PA.imp {X : Cx} {e : List Expr} {t t' : TA} (h : PA X e t) (k : ∀ σ H Q, t' σ H Q → t σ H Q) : PA X e t' := by
  refine Hush.hu (⟨fun pos pins s σ H Q I q => h.run pos pins s σ H Q I (k σ H Q q)⟩) ?_
  walk_at "hu"
theorem _root_.L2.PS.imp {X : Cx} {e : Stmt} {t t' : L2.TS} (h : PS X e t) (k : ∀ D σ H, t' D σ H → t D σ H) : PS X e t' := by
  refine Hush.hu (⟨fun pins s σ H D I q => h.run pins s σ H D I (k D σ H q)⟩) ?_
  walk_at "hu"
theorem _root_.L2.PSs.imp {X : Cx} {e : List Stmt} {t t' : L2.TS} (h : PSs X e t) (k : ∀ D σ H, t' D σ H → t D σ H) : PSs X e t' := by
  refine Hush.hu (⟨fun pins s σ H D I q => h.run pins s σ H D I (k D σ H q)⟩) ?_
  walk_at "hu"
end
structure FmC (cb : Bool) {ι : Type} (P : Program) (w : World) (K : PySem.W.Frag) (mg : Str → Option Value) (base : Heap) (k : Nat) (N : List Str) (F : ι → Cx) : Prop where
  prog : ∀ i, (F i).prog = P
  w : ∀ i, (F i).w = w
  K : ∀ i, (F i).K = K
  mg : ∀ i, (F i).mg = mg
  base : ∀ i, (F i).base = base
  calmC : cb = true → ∀ i, (F i).calm = true
  roomC : cb = true → ∀ i, Room k (F i).A
  un : ∀ i, (F i).A.units + 200 < cLine
  nd : N.Nodup
  N : ∀ i, (F i).N = N
abbrev Fm {ι : Type} (P : Program) (w : World) (K : PySem.W.Frag) (mg : Str → Option Value) (base : Heap) (k : Nat) (N : List Str) (F : ι → Cx) : Prop := FmC true P w K mg base k N F
theorem FmC.calm {ι : Type} {P : Program} {w : World} {K : PySem.W.Frag} {mg : Str → Option Value} {base : Heap} {k : Nat} {N : List Str} {F : ι → Cx} (W : FmC true P w K mg base k N F) (i : ι) : (F i).calm = true := by
  refine Hush.hu (W.calmC rfl i) ?_
  walk_at "hu"
theorem FmC.room {ι : Type} {P : Program} {w : World} {K : PySem.W.Frag} {mg : Str → Option Value} {base : Heap} {k : Nat} {N : List Str} {F : ι → Cx} (W : FmC true P w K mg base k N F) (i : ι) : Room k (F i).A := by
  refine Hush.hu (W.roomC rfl i) ?_
  walk_at "hu"
theorem FmC.units {cb : Bool} {ι : Type} {P : Program} {w : World} {K : PySem.W.Frag} {mg : Str → Option Value} {base : Heap} {k : Nat} {N : List Str} {F : ι → Cx} (W : FmC cb P w K mg base k N F) (i : ι) : (F i).A.units + 200 < cLine := by
  refine Hush.hu (W.un i) ?_
  walk_at "hu"
abbrev Blk := Shared × Hp × Addr × List (Str × Addr) × List Addr
abbrev blkF {ι : Type} (scope : Scope) (F : ι → Cx) : ι × Blk → Cx := fun p => (F p.1).blk p.2.1 p.2.2.1 scope (compEnvC scope p.2.2.2.2.1 p.2.2.2.1 (F p.1).env) p.2.2.2.2.2
theorem FmC.blk {cb : Bool} {ι : Type} {P : Program} {w : World} {K : PySem.W.Frag} {mg : Str → Option Value} {base : Heap} {k : Nat} {N : List Str} {F : ι → Cx} (W : FmC cb P w K mg base k N F) (scope : Scope) : FmC cb P w K mg base k N (blkF scope F) := by
  refine Hush.hu (⟨fun p => W.prog p.1, fun p => W.w p.1, fun p => W.K p.1, fun p => W.mg p.1, fun p => W.base p.1, fun h p => W.calmC h p.1, fun h p => W.roomC h p.1, fun p => W.un p.1, W.nd, fun p => W.N p.1⟩) ?_
  walk_at "hu"
abbrev WF : WX := fun _ _ _ _ => False
theorem takes_f {X : Cx} : Takes X WF := by
  refine Hush.hu (fun u s' ⟨a, B, sI, pins, σ, H, cls, d, e, I, nb, up, sky, na, os, ag, w⟩ => w.elim) ?_
  walk_at "hu"
section
variable {ι : Type} (I : SI) (K : PySem.W.Frag) (W : WX) (F : ι → Cx)
def DE (e : Expr) (g : Sm D) : Prop := ∀ i, PE (F i) e (tG I K W g)
def DT (e : Expr) (g : Sm Bool) : Prop := ∀ i, PT (F i) e (tGB I K W g)
def DW (e : Expr) (g : Sm Bool) : Prop := ∀ i, PW (F i) e (tGB I K W g)
def DTs (es : List Expr) (g : Sm Bool) : Prop := ∀ i, PTs (F i) es (tGB I K W g)
def DA (es : List Expr) (g : Sm (List D)) : Prop := ∀ i, PA (F i) es (tGL I K W g)
def DS (st : Stmt) (g : Sm Out) : Prop := ∀ i, PS (F i) st (tGS I K W g)
def DSs (st : List Stmt) (g : Sm Out) : Prop := ∀ i, PSs (F i) st (tGS I K W g)
end
end Dl
namespace Dl
open PySem L2
section
variable {I : SI} {K : PySem.W.Frag} {W : WX} {s0 s : St1} {H0 H : Hp} {σ : L2.St} {env : Env} {α : Type} {P : α → Ts → Prop}
theorem step {g : Sm D} {k : D → Ts → R α} {Q : VK} (p : Po I K s0 H0 s H) (re : RE K (Hr I s0 H0) env σ) (h : ((g env s.t).bind k).Post P (XP I K W s0 σ H0))
    (c : ∀ x v s1 H1, Po I K s0 H0 s1 H1 → Po I K s H s1 H1 → Rp K (Hr I s1 H1) x v → (k x s1.t).Post P (XP I K W s0 σ H0) → Q v H1) : tG I K W g σ H Q := by
  refine Hush.hu (⟨env, s, p.ok, re.same p.same, (R.post_bind h).mono (fun x t hk v s1 H1 e p1 r => c x v s1 H1 (p.trans p1) p1 r (by rw [e]; exact hk)) fun x t hx => xp_from p hx⟩) ?_
  walk_at "hu"
theorem stepB {g : Sm Bool} {k : Bool → Ts → R α} {Q : Bool → Hp → Prop} (p : Po I K s0 H0 s H) (re : RE K (Hr I s0 H0) env σ) (h : ((g env s.t).bind k).Post P (XP I K W s0 σ H0))
    (c : ∀ x s1 H1, Po I K s0 H0 s1 H1 → Po I K s H s1 H1 → (k x s1.t).Post P (XP I K W s0 σ H0) → Q x H1) : tGB I K W g σ H Q := by
  refine Hush.hu (⟨env, s, p.ok, re.same p.same, (R.post_bind h).mono (fun x t hk s1 H1 e p1 => c x s1 H1 (p.trans p1) p1 (by rw [e]; exact hk)) fun x t hx => xp_from p hx⟩) ?_
  walk_at "hu"
theorem stepL {g : Sm (List D)} {k : List D → Ts → R α} {Q : List V → Hp → Prop} (p : Po I K s0 H0 s H) (re : RE K (Hr I s0 H0) env σ) (h : ((g env s.t).bind k).Post P (XP I K W s0 σ H0))
    (c : ∀ xs vs s1 H1, Po I K s0 H0 s1 H1 → Po I K s H s1 H1 → RpL K (Hr I s1 H1) xs vs → (k xs s1.t).Post P (XP I K W s0 σ H0) → Q vs H1) : tGL I K W g σ H Q := by
  refine Hush.hu (⟨env, s, p.ok, re.same p.same, (R.post_bind h).mono (fun x t hk v s1 H1 e p1 r => c x v s1 H1 (p.trans p1) p1 r (by rw [e]; exact hk)) fun x t hx => xp_from p hx⟩) ?_
  walk_at "hu"
theorem last {g : Sm D} {Q : VK} (p : Po I K s0 H0 s H) (re : RE K (Hr I s0 H0) env σ) (h : (g env s.t).Post (fun d t => ∀ v s' H', s'.t = t → Po I K s0 H0 s' H' → Rp K (Hr I s' H') d v → Q v H') (XP I K W s0 σ H0)) : tG I K W g σ H Q := by
  refine Hush.hu (⟨env, s, p.ok, re.same p.same, h.mono (fun x t hk v s1 H1 e p1 r => hk v s1 H1 e (p.trans p1) r) fun x t hx => xp_from p hx⟩) ?_
  walk_at "hu"
theorem lastB {g : Sm Bool} {Q : Bool → Hp → Prop} (p : Po I K s0 H0 s H) (re : RE K (Hr I s0 H0) env σ) (h : (g env s.t).Post (fun d t => ∀ s' H', s'.t = t → Po I K s0 H0 s' H' → Q d H') (XP I K W s0 σ H0)) : tGB I K W g σ H Q := by
  refine Hush.hu (⟨env, s, p.ok, re.same p.same, h.mono (fun x t hk s1 H1 e p1 => hk s1 H1 e (p.trans p1)) fun x t hx => xp_from p hx⟩) ?_
  walk_at "hu"
end
section
variable {cb : Bool} {ι : Type} {P : Program} {w : World} {K : PySem.W.Frag} {mg : Str → Option Value} {base : Heap} {k : Nat} {N : List Str} {F : ι → Cx} {I : SI} {W : WX} {pos : Pos}
def sV (i : Nat) : Sm D := fun env t => match env[i]? with
  | some (some d) => .ok d t
  | _ => .no
def pV (i : Nat) : Pm D := fun env => match env[i]? with
  | some (some d) => some d
  | _ => none
def sC {α : Type} (d : α) : Sm α := fun _ t => .ok d t
def pC {α : Type} (d : α) : Pm α := fun _ => some d
theorem lift_v (i : Nat) : lift (pV i) = sV i := by
  refine @Hush.hu _ (by
  funext env s
  unfold lift pV sV
  split <;> rfl) ?_
  walk_at "hu"
theorem lift_c {α : Type} (d : α) : lift (pC d) = sC d := rfl
theorem de_v (i : Nat) {x : Str} (hN : ∀ j, (F j).N[i]? = some x := by exact fun _ => rfl) (hv : ∀ j, Vis (F j).env.scope x := by first | exact fun _ => Or.inl rfl | exact fun _ => Or.inr (Or.inl rfl) | exact fun _ => Or.inr (Or.inr rfl))
    (hd : (x == ("__debug__" : Str)) = false := by decide) (hcd : (x == ("__classdict__" : Str)) = false := by decide) : DE I K W F (.Name x pos) (sV i) := by
  refine Hush.hu (fun j => (pe_var (hN j) (hv j) hd hcd).imp fun σ H Q ⟨env, s, ok, re, h⟩ => by
    unfold sV at h
    split at h
    · rename_i d' hd
      obtain ⟨v, h1, h2⟩ := re.at_ i _ hd
      exact ⟨v, h1, h v s H rfl (Po.refl ok) h2⟩
    · exact h.elim) ?_
  walk_at "hu"
theorem tg_c {d : D} {v : V} (h : ∀ H, Rp K H d v) : ∀ σ H Q, tG I K W (sC d) σ H Q → tC v σ H Q := by
  refine Hush.hu (fun σ H Q ⟨env, s, ok, re, q⟩ => q v s H rfl (Po.refl ok) (h _)) ?_
  walk_at "hu"
theorem de_int {i : Int} {j} : DE I K W F (.Constant (.int i) j pos) (sC (.d (.int i))) := by
  refine Hush.hu (fun _ => pe_int.imp (tg_c fun _ => .int i)) ?_
  walk_at "hu"
theorem de_bl {b : Bool} {j} : DE I K W F (.Constant (.bool b) j pos) (sC (.d (.bool b))) := by
  refine Hush.hu (fun _ => pe_bl.imp (tg_c fun _ => .bl b)) ?_
  walk_at "hu"
theorem de_non {j} : DE I K W F (.Constant .none j pos) (sC (.d .none)) := by
  refine Hush.hu (fun _ => pe_non.imp (tg_c fun _ => .non)) ?_
  walk_at "hu"
theorem de_str {x : Str} {j} : DE I K W F (.Constant (.str x) j pos) (sC (.d (.str x))) := by
  refine Hush.hu (fun _ => pe_str.imp (tg_c fun _ => .str x)) ?_
  walk_at "hu"
structure Gc (K : PySem.W.Frag) (mg : Str → Option Value) (x : Str) (d : D) : Prop where
  ex : ∃ (u : Value) (v : V), mg x = some u ∧ RelV v u ∧ ∀ H, Rp K H d v
theorem de_g (Wf : FmC cb P w K mg base k N F) {x : Str} {d : D} (G : Gc K mg x d) (hg : ∀ j, Gl (F j) x := by exact fun _ => rfl) (hd : (x == ("__debug__" : Str)) = false := by decide) : DE I K W F (.Name x pos) (sC d) := by
  refine @Hush.hu _ (by
  obtain ⟨u, v, h1, h2, h3⟩ := G.ex
  exact fun i => (pe_glob (hg i) (by rw [Wf.mg i]; exact h1) h2 hd).imp (tg_c h3)) ?_
  walk_at "hu"
theorem de_ty (Wf : FmC cb P w K mg base k N F) {x : Str} {n : String} (hm : mg x = none) (hv : bootBuiltins x = some (.type n)) (hg : ∀ j, Gl (F j) x := by exact fun _ => rfl) (hn : x ≠ "__name__" := by decide) (hd : (x == ("__debug__" : Str)) = false := by decide) : DE I K W F (.Name x pos) (sC (.o (.ty n))) := by
  refine Hush.hu (fun i => (pe_bltn (v := .ty n) (hg i) (by rw [Wf.mg i]; exact hm) hv rfl hn hd).imp (tg_c fun _ => rfl)) ?_
  walk_at "hu"
def sOp (f : D → D → Option D) (a b : Sm D) : Sm D := fun env t => (a env t).bind fun x t => (b env t).bind fun y t => ofO (f x y) t
def pOp (f : D → D → Option D) (a b : Pm D) : Pm D := fun env => (a env).bind fun x => (b env).bind fun y => f x y
theorem lift_op (f : D → D → Option D) (a b : Pm D) : lift (pOp f a b) = sOp f (lift a) (lift b) := by
  refine @Hush.hu _ (by
  funext env s
  unfold lift pOp sOp
  dsimp only
  cases a env with
  | none => rfl
  | some x =>
    cases b env with
    | none => rfl
    | some y => rfl) ?_
  walk_at "hu"
def OpD (K : PySem.W.Frag) (r : R2) (f : D → D → Option D) : Prop := ∀ (I : SI) (s : I.S) (H : Hp) (x y z : D) (a b : V) (Q : VK), I.ok K s H → Rp K (Hr I s H) x a → Rp K (Hr I s H) y b → f x y = some z →
  (∀ v H', Po I K s H s H' → Rp K (Hr I s H') z v → Q v H') → r a b H Q
theorem tg_op {r : R2} {f : D → D → Option D} {ga gb : Sm D} (hr : OpD K r f) : ∀ σ H Q, tG I K W (sOp f ga gb) σ H Q → tOp r (tG I K W ga) (tG I K W gb) σ H Q := by
  refine Hush.hu (fun σ H Q ⟨env, s, ok, re, h⟩ =>
  step (Po.refl ok) re h fun x v1 s1 H1 p1 _ r1 h => step p1 re h fun y v2 s2 H2 p2 q2 r2 h => by
    obtain ⟨z, e, h⟩ := post_ofO h
    exact hr I s2 H2 x y z v1 v2 Q p2.ok (rp_same q2.same r1) r2 e fun v H' p3 r3 => h v s2 H' rfl (p2.trans p3) r3) ?_
  walk_at "hu"
theorem de_op {op : Operator} {a b : Expr} {f : D → D → Option D} {ga gb : Sm D} (h : ∃ r, (∀ i, OpR (F i) (binaryOp op) r) ∧ OpD K r f) (ha : DE I K W F a ga) (hb : DE I K W F b gb) : DE I K W F (.BinOp a op b pos) (sOp f ga gb) := by
  refine @Hush.hu _ (by
  obtain ⟨r, h1, h2⟩ := h
  exact fun i => (pe_op (h1 i) (ha i) (hb i)).imp (tg_op h2)) ?_
  walk_at "hu"
theorem de_cmp {op : CmpOp} {a b : Expr} {f : D → D → Option D} {ga gb : Sm D} (h : ∃ r, (∀ i, OpR (F i) (compareOp op) r) ∧ OpD K r f) (ha : DE I K W F a ga) (hb : DE I K W F b gb) (hm : behindInMarks op b = false := by first | exact nomark _ | rfl) :
    DE I K W F (.Compare a [op] [b] pos) (sOp f ga gb) := by
  refine @Hush.hu _ (by
  obtain ⟨r, h1, h2⟩ := h
  exact fun i => (pe_cmpR (h1 i) (ha i) (hb i) hm).imp (tg_op h2)) ?_
  walk_at "hu"
def isB : D → Option Bool
  | .d (.bool b) => some b
  | _ => none
theorem isB_some {d : D} {b : Bool} (h : isB d = some b) : d = .d (.bool b) := by
  refine @Hush.hu _ (by
  unfold isB at h
  split at h
  · cases h; rfl
  · cases h) ?_
  walk_at "hu"
theorem isB_at {H : Vw} {d : D} {b : Bool} {v : V} (h : isB d = some b) (r : Rp K H d v) : v = .bl b := by
  refine @Hush.hu _ (by
  have q := isB_some h
  subst q
  cases r
  rfl) ?_
  walk_at "hu"
def sB (a : Sm D) : Sm Bool := fun env t => (a env t).bind fun x t => ofO (isB x) t
def pB (a : Pm D) : Pm Bool := fun env => (a env).bind isB
theorem lift_b (a : Pm D) : lift (pB a) = sB (lift a) := by
  refine @Hush.hu _ (by
  funext env s
  unfold lift pB sB
  dsimp only
  cases a env with
  | none => rfl
  | some x => rfl) ?_
  walk_at "hu"
theorem tgb_of {ga : Sm D} {te : TE} (hi : ∀ σ H Q, tG I K W ga σ H Q → te σ H Q) : ∀ σ H Q, tGB I K W (sB ga) σ H Q → tTest te σ H Q := by
  refine Hush.hu (fun σ H Q ⟨env, s, ok, re, h⟩ =>
  hi _ _ _ (step (Po.refl ok) re h fun x v s1 H1 p1 _ r1 h => by
    obtain ⟨b, e, h⟩ := post_ofO h
    exact ⟨b, isB_at e r1, h s1 H1 rfl p1⟩)) ?_
  walk_at "hu"
theorem dt_cmp {op : CmpOp} {a b : Expr} {f : D → D → Option D} {ga gb : Sm D} (h : ∃ r, (∀ i, OpR (F i) (compareOp op) r) ∧ OpD K r f) (ha : DE I K W F a ga) (hb : DE I K W F b gb) (hm : behindInMarks op b = false := by first | exact nomark _ | rfl) :
    DT I K W F (.Compare a [op] [b] pos) (sB (sOp f ga gb)) := by
  refine @Hush.hu _ (by
  obtain ⟨r, h1, h2⟩ := h
  exact fun i => (pt_cmpR (h1 i) (ha i) (hb i) hm).imp (tgb_of (tg_op h2))) ?_
  walk_at "hu"
theorem dt_val {e : Expr} {g : Sm D} (h : DE I K W F e g) (he : ∀ i whole, isTrue e (F i).env whole = (do let v ← whole; standAt e.pos; holding [v] (truthy v)) := by exact fun _ _ => rfl) : DT I K W F e (sB g) := by
  refine Hush.hu (fun i => (pt_val (h i) (he i)).imp (tgb_of fun _ _ _ q => q)) ?_
  walk_at "hu"
def sNot (a : Sm Bool) : Sm Bool := fun env t => (a env t).bind fun b t => .ok (!b) t
def pNot (a : Pm Bool) : Pm Bool := fun env => (a env).map fun b => !b
theorem lift_not (a : Pm Bool) : lift (pNot a) = sNot (lift a) := by
  refine @Hush.hu _ (by
  funext env s
  unfold lift pNot sNot
  dsimp only
  cases a env <;> rfl) ?_
  walk_at "hu"
theorem dt_not {a : Expr} {ga : Sm Bool} (h : DT I K W F a ga) : DT I K W F (.UnaryOp .Not a pos) (sNot ga) := by
  refine Hush.hu (fun i => (pt_not (h i)).imp fun σ H Q ⟨env, s, ok, re, h⟩ => stepB (Po.refl ok) re h fun x s1 H1 p1 _ h => h s1 H1 rfl p1) ?_
  walk_at "hu"
def sAnd (a b : Sm Bool) : Sm Bool := fun env t => (a env t).bind fun x t => if x = true then b env t else .ok false t
def pAnd (a b : Pm Bool) : Pm Bool := fun env => (a env).bind fun x => if x = true then b env else some false
def sOr (a b : Sm Bool) : Sm Bool := fun env t => (a env t).bind fun x t => if x = true then .ok true t else b env t
def pOr (a b : Pm Bool) : Pm Bool := fun env => (a env).bind fun x => if x = true then some true else b env
theorem lift_and (a b : Pm Bool) : lift (pAnd a b) = sAnd (lift a) (lift b) := by
  refine @Hush.hu _ (by
  funext env s
  unfold lift pAnd sAnd
  dsimp only
  cases a env with
  | none => rfl
  | some x => cases x <;> rfl) ?_
  walk_at "hu"
theorem lift_or (a b : Pm Bool) : lift (pOr a b) = sOr (lift a) (lift b) := by
  refine @Hush.hu _ (by
  funext env s
  unfold lift pOr sOr
  dsimp only
  cases a env with
  | none => rfl
  | some x => cases x <;> rfl) ?_
  walk_at "hu"
theorem dw_pt {e : Expr} {g : Sm Bool} (h : DW I K W F e g) : DT I K W F e g := by
  refine Hush.hu (fun i => (h i).pt) ?_
  walk_at "hu"
theorem dw_and1 {a : Expr} {ga : Sm Bool} (h : DT I K W F a ga) : DW I K W F (.BoolOp .And [a] pos) ga := by
  refine Hush.hu (fun i => pw_and1 (h i)) ?_
  walk_at "hu"
theorem dw_or1 {a : Expr} {ga : Sm Bool} (h : DT I K W F a ga) : DW I K W F (.BoolOp .Or [a] pos) ga := by
  refine Hush.hu (fun i => pw_or1 (h i)) ?_
  walk_at "hu"
theorem dw_and {a b : Expr} {rest : List Expr} {ga gb : Sm Bool} (ha : DT I K W F a ga) (hb : DW I K W F (.BoolOp .And (b :: rest) pos) gb) : DW I K W F (.BoolOp .And (a :: b :: rest) pos) (sAnd ga gb) := by
  refine Hush.hu (fun i => (pw_and (ha i) (hb i)).imp fun σ H Q ⟨env, s, ok, re, h⟩ => stepB (Po.refl ok) re h fun x s1 H1 p1 _ h => by
    cases x with
    | true =>
      rw [if_pos rfl] at h ⊢
      exact lastB p1 re h
    | false =>
      rw [if_neg Bool.false_ne_true] at h ⊢
      exact h s1 H1 rfl p1) ?_
  walk_at "hu"
theorem dw_or {a b : Expr} {rest : List Expr} {ga gb : Sm Bool} (ha : DT I K W F a ga) (hb : DW I K W F (.BoolOp .Or (b :: rest) pos) gb) : DW I K W F (.BoolOp .Or (a :: b :: rest) pos) (sOr ga gb) := by
  refine Hush.hu (fun i => (pw_or (ha i) (hb i)).imp fun σ H Q ⟨env, s, ok, re, h⟩ => stepB (Po.refl ok) re h fun x s1 H1 p1 _ h => by
    cases x with
    | false =>
      rw [if_neg Bool.false_ne_true] at h ⊢
      exact lastB p1 re h
    | true =>
      rw [if_pos rfl] at h ⊢
      exact h s1 H1 rfl p1) ?_
  walk_at "hu"
def sAndV (a b : Sm D) : Sm D := fun env t => (a env t).bind fun x t => (ofO (isB x) t).bind fun c t => if c = true then b env t else .ok (.d (.bool false)) t
def pAndV (a b : Pm D) : Pm D := fun env => (a env).bind fun x => (isB x).bind fun c => if c = true then b env else some (.d (.bool false))
def sOrV (a b : Sm D) : Sm D := fun env t => (a env t).bind fun x t => (ofO (isB x) t).bind fun c t => if c = true then .ok (.d (.bool true)) t else b env t
def pOrV (a b : Pm D) : Pm D := fun env => (a env).bind fun x => (isB x).bind fun c => if c = true then some (.d (.bool true)) else b env
def sNotV (a : Sm D) : Sm D := fun env t => (a env t).bind fun x t => (ofO (isB x) t).bind fun c t => .ok (.d (.bool (!c))) t
def pNotV (a : Pm D) : Pm D := fun env => (a env).bind fun x => (isB x).map fun c => .d (.bool (!c))
theorem lift_andV (a b : Pm D) : lift (pAndV a b) = sAndV (lift a) (lift b) := by
  refine @Hush.hu _ (by
  funext env s
  unfold lift pAndV sAndV
  dsimp only
  cases a env with
  | none => rfl
  | some x =>
    simp only [Option.bind_some, ofO, R.bind]
    cases isB x with
    | none => rfl
    | some c => cases c <;> rfl) ?_
  walk_at "hu"
theorem lift_orV (a b : Pm D) : lift (pOrV a b) = sOrV (lift a) (lift b) := by
  refine @Hush.hu _ (by
  funext env s
  unfold lift pOrV sOrV
  dsimp only
  cases a env with
  | none => rfl
  | some x =>
    simp only [Option.bind_some, ofO, R.bind]
    cases isB x with
    | none => rfl
    | some c => cases c <;> rfl) ?_
  walk_at "hu"
theorem lift_notV (a : Pm D) : lift (pNotV a) = sNotV (lift a) := by
  refine @Hush.hu _ (by
  funext env s
  unfold lift pNotV sNotV
  dsimp only
  cases a env with
  | none => rfl
  | some x =>
    simp only [Option.bind_some, ofO, R.bind]
    cases isB x <;> rfl) ?_
  walk_at "hu"
theorem de_and1 {op} {a : Expr} {ga : Sm D} (h : DE I K W F a ga) : DE I K W F (.BoolOp op [a] pos) ga := by
  refine Hush.hu (fun i => pe_one (h i)) ?_
  walk_at "hu"
theorem de_and {a b : Expr} {rest : List Expr} {ga gb : Sm D} (ha : DE I K W F a ga) (hb : DE I K W F (.BoolOp .And (b :: rest) pos) gb) : DE I K W F (.BoolOp .And (a :: b :: rest) pos) (sAndV ga gb) := by
  refine Hush.hu (fun i => (pe_and (ha i) (hb i)).imp fun σ H Q ⟨env, s, ok, re, h⟩ => step (Po.refl ok) re h fun x v s1 H1 p1 _ r1 h => by
    obtain ⟨c, e, h⟩ := post_ofO (R.post_bind h)
    refine ⟨c, isB_at e r1, ?_⟩
    cases c with
    | true =>
      rw [if_pos rfl] at h ⊢
      exact last p1 re h
    | false =>
      rw [if_neg Bool.false_ne_true] at h ⊢
      exact h _ s1 H1 rfl p1 (.bl false)) ?_
  walk_at "hu"
theorem de_or {a b : Expr} {rest : List Expr} {ga gb : Sm D} (ha : DE I K W F a ga) (hb : DE I K W F (.BoolOp .Or (b :: rest) pos) gb) : DE I K W F (.BoolOp .Or (a :: b :: rest) pos) (sOrV ga gb) := by
  refine Hush.hu (fun i => (pe_or (ha i) (hb i)).imp fun σ H Q ⟨env, s, ok, re, h⟩ => step (Po.refl ok) re h fun x v s1 H1 p1 _ r1 h => by
    obtain ⟨c, e, h⟩ := post_ofO (R.post_bind h)
    refine ⟨c, isB_at e r1, ?_⟩
    cases c with
    | false =>
      rw [if_neg Bool.false_ne_true] at h ⊢
      exact last p1 re h
    | true =>
      rw [if_pos rfl] at h ⊢
      exact h _ s1 H1 rfl p1 (.bl true)) ?_
  walk_at "hu"
theorem de_not {a : Expr} {ga : Sm D} (h : DE I K W F a ga) : DE I K W F (.UnaryOp .Not a pos) (sNotV ga) := by
  refine Hush.hu (fun i => (pe_not (h i)).imp fun σ H Q ⟨env, s, ok, re, h⟩ => step (Po.refl ok) re h fun x v s1 H1 p1 _ r1 h => by
    obtain ⟨c, e, h⟩ := post_ofO (R.post_bind h)
    exact ⟨c, isB_at e r1, h _ s1 H1 rfl p1 (.bl _)⟩) ?_
  walk_at "hu"
def sIf {α : Type} (c : Sm Bool) (a b : Sm α) : Sm α := fun env t => (c env t).bind fun x t => if x = true then a env t else b env t
def pIf {α : Type} (c : Pm Bool) (a b : Pm α) : Pm α := fun env => (c env).bind fun x => if x = true then a env else b env
theorem lift_if {α : Type} (c : Pm Bool) (a b : Pm α) : lift (pIf c a b) = sIf (lift c) (lift a) (lift b) := by
  refine @Hush.hu _ (by
  funext env s
  unfold lift pIf sIf
  dsimp only
  cases c env with
  | none => rfl
  | some x => cases x <;> rfl) ?_
  walk_at "hu"
theorem de_if {c a b : Expr} {gc : Sm Bool} {ga gb : Sm D} (hc : DT I K W F c gc) (ha : DE I K W F a ga) (hb : DE I K W F b gb) : DE I K W F (.IfExp c a b pos) (sIf gc ga gb) := by
  refine Hush.hu (fun i => (pe_ifExp (hc i) (ha i) (hb i)).imp fun σ H Q ⟨env, s, ok, re, h⟩ => stepB (Po.refl ok) re h fun x s1 H1 p1 _ h => by
    cases x with
    | true =>
      rw [if_pos rfl] at h ⊢
      exact last p1 re h
    | false =>
      rw [if_neg Bool.false_ne_true] at h ⊢
      exact last p1 re h) ?_
  walk_at "hu"
def sNil : Sm (List D) := fun _ t => .ok [] t
def pNil : Pm (List D) := fun _ => some []
def sCons (a : Sm D) (r : Sm (List D)) : Sm (List D) := fun env t => (a env t).bind fun x t => (r env t).bind fun xs t => .ok (x :: xs) t
def pCons (a : Pm D) (r : Pm (List D)) : Pm (List D) := fun env => (a env).bind fun x => (r env).map fun q => x :: q
theorem lift_nil : lift pNil = sNil := rfl
theorem lift_cons (a : Pm D) (r : Pm (List D)) : lift (pCons a r) = sCons (lift a) (lift r) := by
  refine @Hush.hu _ (by
  funext env s
  unfold lift pCons sCons
  dsimp only
  cases a env with
  | none => rfl
  | some x =>
    simp only [Option.bind_some, ofO, R.bind]
    cases r env <;> rfl) ?_
  walk_at "hu"
theorem da_nil : DA I K W F [] sNil := by
  refine Hush.hu (fun i => pa_nil.imp fun σ H Q ⟨env, s, ok, re, h⟩ => h [] s H rfl (Po.refl ok) .nil) ?_
  walk_at "hu"
theorem da_cons {e : Expr} {es : List Expr} {g : Sm D} {gr : Sm (List D)} (h : DE I K W F e g) (hr : DA I K W F es gr) (hs : ∀ i, starEach (e :: es) (F i).env = (false, eval e (F i).env) :: starEach es (F i).env := by exact fun _ => rfl) : DA I K W F (e :: es) (sCons g gr) := by
  refine Hush.hu (fun i => (pa_cons (h i) (hr i) (hs i)).imp fun σ H Q ⟨env, s, ok, re, h⟩ => step (Po.refl ok) re h fun x v s1 H1 p1 _ r1 h => stepL p1 re h fun xs vs s2 H2 p2 q2 r2 h =>
    h _ s2 H2 rfl p2 (.cons (rp_same q2.same r1) r2)) ?_
  walk_at "hu"
def sMk (f : List D → Option D) (a : Sm (List D)) : Sm D := fun env t => (a env t).bind fun xs t => ofO (f xs) t
def pMk (f : List D → Option D) (a : Pm (List D)) : Pm D := fun env => (a env).bind f
theorem lift_mk (f : List D → Option D) (a : Pm (List D)) : lift (pMk f a) = sMk f (lift a) := by
  refine @Hush.hu _ (by
  funext env s
  unfold lift pMk sMk
  dsimp only
  cases a env <;> rfl) ?_
  walk_at "hu"
def mTup (l : List D) : Option D := if l.length ≤ 100000 then match pdL l with
  | some xs => some (.d (.tuple xs))
  | none => some (.tp l) else none
def mLst (l : List D) : Option D := if l.length ≤ 100000 then match pdL l with
  | some xs => some (.d (.list xs))
  | none => some (.ls l) else none
theorem sz {n : Nat} (h : n ≤ 100000) : n ≤ sizeLine := by
  refine Hush.hu (Nat.le_trans h (by decide)) ?_
  walk_at "hu"
def CallD (K : PySem.W.Frag) (r : List V → Hp → VK → Prop) (f : List D → Option D) : Prop := ∀ (I : SI) (s : I.S) (H : Hp) (ds : List D) (z : D) (vs : List V) (Q : VK), I.ok K s H → RpL K (Hr I s H) ds vs → f ds = some z →
  (∀ v H', Po I K s H s H' → Rp K (Hr I s H') z v → Q v H') → r vs H Q
theorem tg_mk {r : List V → Hp → VK → Prop} {f : List D → Option D} {g : Sm (List D)} (hr : CallD K r f) : ∀ σ H Q, tG I K W (sMk f g) σ H Q → (tGL I K W g) σ H fun vs H1 => r vs H1 Q := by
  refine Hush.hu (fun σ H Q ⟨env, s, ok, re, h⟩ =>
  stepL (Po.refl ok) re h fun xs vs s1 H1 p1 _ r1 h => by
    obtain ⟨z, e, h⟩ := post_ofO h
    exact hr I s1 H1 xs z vs Q p1.ok r1 e fun v H' p2 r2 => h v s1 H' rfl (p1.trans p2) r2) ?_
  walk_at "hu"
theorem cd_tup : CallD K (fun xs H1 Q => xs.length ≤ sizeLine ∧ ∀ p, H1 p = none → Q (.ref p) (upd H1 p (.tup xs))) mTup := by
  refine Hush.hu (fun I s H ds z vs Q ok r e k => by
  unfold mTup at e
  by_cases c : ds.length ≤ 100000
  · rw [if_pos c] at e
    refine ⟨by rw [rpl_len r]; exact sz c, ?_⟩
    cases q : pdL ds with
    | none => rw [q] at e; cases e; exact newTP ok k r
    | some xs => rw [q] at e; cases e; exact newT ok k (rpl_pd r q)
  · rw [if_neg c] at e; cases e) ?_
  walk_at "hu"
theorem cd_lst : CallD K (fun xs H1 Q => xs.length ≤ sizeLine ∧ ∀ p, H1 p = none → Q (.ref p) (upd H1 p (.lst xs))) mLst := by
  refine Hush.hu (fun I s H ds z vs Q ok r e k => by
  unfold mLst at e
  by_cases c : ds.length ≤ 100000
  · rw [if_pos c] at e
    refine ⟨by rw [rpl_len r]; exact sz c, ?_⟩
    cases q : pdL ds with
    | none => rw [q] at e; cases e; exact newLS ok k r
    | some xs => rw [q] at e; cases e; exact newL ok k (rpl_pd r q)
  · rw [if_neg c] at e; cases e) ?_
  walk_at "hu"
theorem de_tup {es : List Expr} {x1} {g : Sm (List D)} (h : DA I K W F es g) : DE I K W F (.Tuple es x1 pos) (sMk mTup g) := by
  refine Hush.hu (fun i => (pe_tup (h i)).imp (tg_mk cd_tup)) ?_
  walk_at "hu"
theorem de_lst {es : List Expr} {g : Sm (List D)} (h : DA I K W F es g) : DE I K W F (.List es pos) (sMk mLst g) := by
  refine Hush.hu (fun i => (pe_lst (h i)).imp (tg_mk cd_lst)) ?_
  walk_at "hu"
theorem de_callB {x : Str} {id : String} {e : Expr} {es : List Expr} {p : Pos} {f : List D → Option D} {g : Sm (List D)} (Wf : FmC cb P w K mg base k N F) (hc : ∃ r, (∀ i, CallR (F i) (.builtin id) r) ∧ CallD K r f) (hm : mg x = none) (hv : bootBuiltins x = some (.builtin id)) (ha : DA I K W F (e :: es) g)
    (hg : ∀ i, Gl (F i) x := by exact fun _ => rfl) (hn : x ≠ "__name__" := by decide) (hdb : (x == ("__debug__" : Str)) = false := by decide)
    (he : ∀ i, starEach (e :: es) (F i).env = (false, eval e (F i).env) :: starEach es (F i).env := by exact fun _ => rfl) (hpl : ∀ i, (backTo pos (starEach es (F i).env)).any (·.1) = false := by exact fun _ => rfl) : DE I K W F (.Call (.Name x p) (e :: es) [] pos) (sMk f g) := by
  refine @Hush.hu _ (by
  obtain ⟨r, h1, h2⟩ := hc
  exact fun i => (pe_callB (h1 i) (hg i) (by rw [Wf.mg i]; exact hm) hv (ha i) hn hdb (he i) (hpl i)).imp (tg_mk h2)) ?_
  walk_at "hu"
theorem de_callTy {x : Str} {T : String} {e : Expr} {es : List Expr} {p : Pos} {f : List D → Option D} {g : Sm (List D)} (Wf : FmC cb P w K mg base k N F) (hc : ∃ r, (∀ i, CallR (F i) (.type T) r) ∧ CallD K r f) (hm : mg x = none) (hv : bootBuiltins x = some (.type T)) (ha : DA I K W F (e :: es) g)
    (hg : ∀ i, Gl (F i) x := by exact fun _ => rfl) (hn : x ≠ "__name__" := by decide) (hdb : (x == ("__debug__" : Str)) = false := by decide)
    (he : ∀ i, starEach (e :: es) (F i).env = (false, eval e (F i).env) :: starEach es (F i).env := by exact fun _ => rfl) (hpl : ∀ i, (backTo pos (starEach es (F i).env)).any (·.1) = false := by exact fun _ => rfl) : DE I K W F (.Call (.Name x p) (e :: es) [] pos) (sMk f g) := by
  refine @Hush.hu _ (by
  obtain ⟨r, h1, h2⟩ := hc
  exact fun i => (pe_callTy (h1 i) (hg i) (by rw [Wf.mg i]; exact hm) hv (ha i) hn hdb (he i) (hpl i)).imp (tg_mk h2)) ?_
  walk_at "hu"
theorem de_ix {a b : Expr} {f : D → D → Option D} {ga gb : Sm D} (h : ∃ r, (∀ i, IxR (F i) r) ∧ OpD K r f) (ha : DE I K W F a ga) (hb : DE I K W F b gb) (hs : PlainIx b := by exact fun _ _ => rfl) : DE I K W F (.Subscript a b pos) (sOp f ga gb) := by
  refine @Hush.hu _ (by
  obtain ⟨r, h1, h2⟩ := h
  exact fun i => (pe_ix (h1 i) (ha i) (hb i) hs).imp (tg_op h2)) ?_
  walk_at "hu"
def tGO (I : SI) (K : PySem.W.Frag) (W : WX) (g : Sm (Option Int)) : TO := fun σ H Q => ∃ env s, I.ok K s H ∧ RE K (Hr I s H) env σ ∧ (g env s.t).Post (fun b t => ∀ s' H', s'.t = t → Po I K s H s' H' → Q b H') (XP I K W s σ H)
theorem _root_.L2.PO.imp {X : Cx} {e : Option Expr} {t t' : TO} (h : PO X e t) (k : ∀ σ H Q, t' σ H Q → t σ H Q) : PO X e t' := by
  refine Hush.hu (⟨fun pins s σ H Q I q => h.run pins s σ H Q I (k σ H Q q)⟩) ?_
  walk_at "hu"
def DO (I : SI) (K : PySem.W.Frag) (W : WX) (F : ι → Cx) (e : Option Expr) (g : Sm (Option Int)) : Prop := ∀ i, PO (F i) e (tGO I K W g)
theorem stepO {s0 s : St1} {H0 H : Hp} {σ : L2.St} {env : Env} {α : Type} {P : α → Ts → Prop} {g : Sm (Option Int)} {k : Option Int → Ts → R α} {Q : Option Int → Hp → Prop} (p : Po I K s0 H0 s H) (re : RE K (Hr I s0 H0) env σ) (h : ((g env s.t).bind k).Post P (XP I K W s0 σ H0))
    (c : ∀ x s1 H1, Po I K s0 H0 s1 H1 → Po I K s H s1 H1 → (k x s1.t).Post P (XP I K W s0 σ H0) → Q x H1) : tGO I K W g σ H Q := by
  refine Hush.hu (⟨env, s, p.ok, re.same p.same, (R.post_bind h).mono (fun x t hk s1 H1 e p1 => c x s1 H1 (p.trans p1) p1 (by rw [e]; exact hk)) fun x t hx => xp_from p hx⟩) ?_
  walk_at "hu"
theorem do_none : DO I K W F none (sC none) := by
  refine Hush.hu (fun _ => po_none.imp fun σ H Q ⟨env, s, ok, re, h⟩ => h s H rfl (Po.refl ok)) ?_
  walk_at "hu"
def isI : D → Option Int
  | .d (.int i) => some i
  | _ => none
theorem isI_some {d : D} {b : Int} (h : isI d = some b) : d = .d (.int b) := by
  refine @Hush.hu _ (by
  unfold isI at h
  split at h
  · cases h; rfl
  · cases h) ?_
  walk_at "hu"
theorem isI_at {H : Vw} {d : D} {b : Int} {v : V} (h : isI d = some b) (r : Rp K H d v) : v = .int b := by
  refine @Hush.hu _ (by
  have q := isI_some h
  subst q
  cases r
  rfl) ?_
  walk_at "hu"
def sPart (a : Sm D) : Sm (Option Int) := fun env t => (a env t).bind fun x t => (ofO (isI x) t).bind fun b t => .ok (some b) t
def pPart (a : Pm D) : Pm (Option Int) := fun env => (a env).bind fun x => (isI x).map some
theorem lift_part (a : Pm D) : lift (pPart a) = sPart (lift a) := by
  refine @Hush.hu _ (by
  funext env s
  unfold lift pPart sPart
  dsimp only
  cases a env with
  | none => rfl
  | some x =>
    simp only [Option.bind_some, ofO, R.bind]
    cases isI x <;> rfl) ?_
  walk_at "hu"
theorem do_some {e : Expr} {g : Sm D} (h : DE I K W F e g) : DO I K W F (some e) (sPart g) := by
  refine Hush.hu (fun i => (po_some (h i)).imp fun σ H Q ⟨env, s, ok, re, h⟩ =>
  step (Po.refl ok) re h fun x v s1 H1 p1 _ r1 h => by
    obtain ⟨c, e, h⟩ := post_ofO (R.post_bind h)
    exact ⟨c, isI_at e r1, h s1 H1 rfl p1⟩) ?_
  walk_at "hu"
def SlD (K : PySem.W.Frag) (r : V → Option Int → Option Int → Hp → VK → Prop) (f : D → Option Int → Option Int → Option D) : Prop := ∀ (I : SI) (s : I.S) (H : Hp) (x z : D) (lo hi : Option Int) (a : V) (Q : VK), I.ok K s H → Rp K (Hr I s H) x a → f x lo hi = some z →
  (∀ v H', Po I K s H s H' → Rp K (Hr I s H') z v → Q v H') → r a lo hi H Q
def sSl (f : D → Option Int → Option Int → Option D) (a : Sm D) (l u : Sm (Option Int)) : Sm D := fun env t => (a env t).bind fun x t => (l env t).bind fun y t => (u env t).bind fun z t => ofO (f x y z) t
def pSl (f : D → Option Int → Option Int → Option D) (a : Pm D) (l u : Pm (Option Int)) : Pm D := fun env => (a env).bind fun p => (l env).bind fun q => (u env).bind fun r => f p q r
theorem lift_sl (f : D → Option Int → Option Int → Option D) (a : Pm D) (l u : Pm (Option Int)) : lift (pSl f a l u) = sSl f (lift a) (lift l) (lift u) := by
  refine @Hush.hu _ (by
  funext env s
  unfold lift pSl sSl
  dsimp only
  cases a env with
  | none => rfl
  | some x =>
    simp only [Option.bind_some, ofO, R.bind]
    cases l env with
    | none => rfl
    | some y =>
      simp only [Option.bind_some]
      cases u env <;> rfl) ?_
  walk_at "hu"
theorem de_slice {e : Expr} {lo hi : Option Expr} {p2 : Pos} {f : D → Option Int → Option Int → Option D} {g : Sm D} {gl gu : Sm (Option Int)} (h : ∃ r, (∀ i, SlR (F i) r) ∧ SlD K r f) (he : DE I K W F e g) (hl : DO I K W F lo gl) (hu : DO I K W F hi gu) :
    DE I K W F (.Subscript e (.Slice lo hi none p2) pos) (sSl f g gl gu) := by
  refine @Hush.hu _ (by
  obtain ⟨r, h1, h2⟩ := h
  exact fun i => (pe_slice (h1 i) (he i) (hl i) (hu i)).imp fun σ H Q ⟨env, s, ok, re, h⟩ =>
    step (Po.refl ok) re h fun x v s1 H1 p1 _ r1 h => stepO p1 re h fun y s2 H2 p2 q2 h => stepO p2 re h fun z s3 H3 p3 q3 h => by
      obtain ⟨b, e, h⟩ := post_ofO h
      exact h2 I s3 H3 x b y z v Q p3.ok (rp_same (q2.trans q3).same r1) e fun v H' p4 r4 => h v s3 H' rfl (p3.trans p4) r4) ?_
  walk_at "hu"
def sAp (f : D → Option D) (a : Sm D) : Sm D := fun env t => (a env t).bind fun x t => ofO (f x) t
def pAp (f : D → Option D) (a : Pm D) : Pm D := fun env => (a env).bind f
theorem lift_ap (f : D → Option D) (a : Pm D) : lift (pAp f a) = sAp f (lift a) := by
  refine @Hush.hu _ (by
  funext env s
  unfold lift pAp sAp
  dsimp only
  cases a env <;> rfl) ?_
  walk_at "hu"
end
end Dl
namespace Dl
open PySem L2
def isNd : Tr → Bool
  | .nd _ _ => true
  | .v _ => false
def Tr.put : Tr → Pth → Tr → Option Tr
  | _, [], u => some u
  | .v _, _ :: _, _ => none
  | .nd k ts, j :: p, u => match ts[j]? with
    | some t => (t.put p u).map fun t' => .nd k (ts.set j t')
    | none => none
theorem get_nil (T : Tr) : T.get [] = some T := by
  refine @Hush.hu _ (by cases T <;> rfl) ?_
  walk_at "hu"
theorem put_nil (T u : Tr) : T.put [] u = some u := by
  refine @Hush.hu _ (by cases T <;> rfl) ?_
  walk_at "hu"
theorem get_app : ∀ {p q : Pth} {T : Tr}, T.get (p ++ q) = (T.get p).bind fun t => t.get q
  | [], q, T => by rw [get_nil]; rfl
  | j :: p, q, .v d => rfl
  | j :: p, q, .nd k ts => by
    show (match ts[j]? with | some t => t.get (p ++ q) | none => none) = ((match ts[j]? with | some t => t.get p | none => none)).bind _
    cases ts[j]? with
    | none => rfl
    | some t => exact get_app
theorem put_get : ∀ {p q : Pth} {T T' u : Tr}, T.put p u = some T' → T'.get (p ++ q) = u.get q
  | [], q, T, T', u, h => by rw [put_nil] at h; cases h; rfl
  | j :: p, q, .v d, T', u, h => by cases h
  | j :: p, q, .nd k ts, T', u, h => by
    have h : (match ts[j]? with | some t => (t.put p u).map fun t' => Tr.nd k (ts.set j t') | none => none) = some T' := h
    cases e : ts[j]? with
    | none => rw [e] at h; cases h
    | some t =>
      rw [e] at h
      dsimp only at h
      cases e2 : t.put p u with
      | none => rw [e2] at h; cases h
      | some t' =>
        rw [e2] at h
        cases h
        show (match (ts.set j t')[j]? with | some t => t.get (p ++ q) | none => none) = _
        rw [List.getElem?_set_self (List.getElem?_eq_some_iff.mp e).1]
        exact put_get e2
inductive Sim : List Tr → List Tr → Prop
  | nil : Sim [] []
  | cons {t u : Tr} {ts us : List Tr} : (t = u ∨ (isNd t = true ∧ isNd u = true)) → Sim ts us → Sim (t :: ts) (u :: us)
theorem Sim.refl : ∀ ts : List Tr, Sim ts ts
  | [] => .nil
  | _ :: ts => .cons (.inl rfl) (Sim.refl ts)
theorem Sim.set : ∀ {ts : List Tr} {j : Nat} {t u : Tr}, ts[j]? = some t → isNd t = true → isNd u = true → Sim ts (ts.set j u)
  | [], _, _, _, h, _, _ => by simp at h
  | _ :: ts, 0, _, _, h, h1, h2 => by simp at h; subst h; exact .cons (.inr ⟨h1, h2⟩) (Sim.refl ts)
  | _ :: ts, j + 1, t, u, h, h1, h2 => .cons (.inl rfl) (Sim.set (t := t) (by simpa using h) h1 h2)
theorem Sim.get : ∀ {ts us : List Tr} {j : Nat} {u : Tr}, Sim ts us → us[j]? = some u → ∃ t, ts[j]? = some t ∧ (t = u ∨ (isNd t = true ∧ isNd u = true))
  | _, _, _, _, .nil, h => by simp at h
  | _, _, 0, _, .cons h _, e => by simp at e; subst e; exact ⟨_, rfl, h⟩
  | _, _, j + 1, u, .cons _ t, e => by
    obtain ⟨x, h1, h2⟩ := Sim.get (j := j) (u := u) t (by simpa using e)
    exact ⟨x, by simpa using h1, h2⟩
def Off (a b : Option Tr) : Prop := a = b ∨ ∃ k us us', a = some (.nd k us) ∧ b = some (.nd k us') ∧ Sim us us'
theorem put_isNd : ∀ {p : Pth} {T T' : Tr} {u : Tr}, T.put p u = some T' → isNd u = true → isNd T' = true
  | [], T, T', u, h, hu => by rw [put_nil] at h; cases h; exact hu
  | j :: p, .v d, T', u, h, hu => by cases h
  | j :: p, .nd k ts, T', u, h, hu => by
    have h : (match ts[j]? with | some t => (t.put p u).map fun t' => Tr.nd k (ts.set j t') | none => none) = some T' := h
    cases e : ts[j]? with
    | none => rw [e] at h; cases h
    | some t =>
      rw [e] at h
      dsimp only at h
      cases e2 : t.put p u with
      | none => rw [e2] at h; cases h
      | some t' => rw [e2] at h; cases h; rfl
theorem get_isNd {p : Pth} {T : Tr} {k : Kd} {ts : List Tr} (h : T.get p = some (.nd k ts)) : isNd T = true := by
  refine @Hush.hu _ (by
  cases T with
  | nd _ _ => rfl
  | v d =>
    cases p with
    | nil => rw [get_nil] at h; cases h
    | cons j p => cases h) ?_
  walk_at "hu"
theorem put_off : ∀ {p q : Pth} {T T' : Tr} {k : Kd} {ts : List Tr} {u : Tr}, T.put p u = some T' → T.get p = some (.nd k ts) → isNd u = true → (∀ r, q ≠ p ++ r) → Off (T.get q) (T'.get q)
  | [], q, _, _, _, _, _, _, _, _, n => absurd rfl (n q)
  | j :: p, [], .v d, T', k, ts, u, h, _, _, _ => by cases h
  | j :: p, [], .nd k0 ts0, T', k, ts, u, h, hg, hu, n => by
    have h : (match ts0[j]? with | some t => (t.put p u).map fun t' => Tr.nd k0 (ts0.set j t') | none => none) = some T' := h
    have hg : (match ts0[j]? with | some t => t.get p | none => none) = some (.nd k ts) := hg
    cases e : ts0[j]? with
    | none => rw [e] at h; cases h
    | some t =>
      rw [e] at h hg
      dsimp only at h hg
      cases e2 : t.put p u with
      | none => rw [e2] at h; cases h
      | some t' =>
        rw [e2] at h
        cases h
        exact .inr ⟨k0, ts0, ts0.set j t', rfl, rfl, Sim.set e (get_isNd hg) (put_isNd e2 hu)⟩
  | j :: p, i :: q, .v d, T', k, ts, u, h, _, _, _ => by cases h
  | j :: p, i :: q, .nd k0 ts0, T', k, ts, u, h, hg, hu, n => by
    have h : (match ts0[j]? with | some t => (t.put p u).map fun t' => Tr.nd k0 (ts0.set j t') | none => none) = some T' := h
    have hg' : (match ts0[j]? with | some t => t.get p | none => none) = some (.nd k ts) := hg
    cases e : ts0[j]? with
    | none => rw [e] at h; cases h
    | some t =>
      rw [e] at h hg'
      dsimp only at h hg'
      cases e2 : t.put p u with
      | none => rw [e2] at h; cases h
      | some t' =>
        rw [e2] at h
        cases h
        show Off (match ts0[i]? with | some t => t.get q | none => none) (match (ts0.set j t')[i]? with | some t => t.get q | none => none)
        by_cases c : i = j
        · subst c
          have e' := e
          rw [e, List.getElem?_set_self (List.getElem?_eq_some_iff.mp e').1]
          exact put_off (k := k) (ts := ts) e2 hg' hu fun r z => n r (by rw [z]; rfl)
        · rw [List.getElem?_set_ne (fun z => c z.symm)]
          exact .inl rfl
theorem chs_sim {K : PySem.W.Frag} {vw : Vw} {n : Nat} {p : Pth} : ∀ {j : Nat} {ts us : List Tr} {vs : List V}, Chs K vw n p j ts vs → Sim ts us → Chs K vw n p j us vs
  | _, _, _, _, .nil, .nil => .nil
  | _, t :: _, u :: _, _, .cons h r, .cons e q => by
    refine .cons ?_ (chs_sim r q)
    rcases e with e | ⟨e1, e2⟩
    · rw [← e]; exact h
    · cases t with
      | v d => cases e1
      | nd k ts =>
        cases u with
        | v d => cases e2
        | nd k' us => exact h
theorem getT_some {t : Ts} {n : Nat} {p : Pth} {u : Tr} (h : getT t n p = some u) : ∃ T, t[n]? = some (some T) ∧ T.get p = some u := by
  refine @Hush.hu _ (by
  unfold getT at h
  split at h
  · rename_i T e
    exact ⟨T, e, h⟩
  · cases h) ?_
  walk_at "hu"
theorem getT_of {t : Ts} {n : Nat} {p : Pth} {T : Tr} (h : t[n]? = some (some T)) : getT t n p = T.get p := by
  refine @Hush.hu _ (by
  unfold getT
  rw [h]) ?_
  walk_at "hu"
theorem off_nd {a b : Option Tr} {k : Kd} {us : List Tr} (h : Off a b) (e : b = some (.nd k us)) : ∃ ts, a = some (.nd k ts) ∧ Sim ts us := by
  refine @Hush.hu _ (by
  rcases h with h | ⟨k', u1, u2, h1, h2, h3⟩
  · exact ⟨us, by rw [h]; exact e, Sim.refl us⟩
  · rw [e] at h2
    cases h2
    exact ⟨u1, h1, h3⟩) ?_
  walk_at "hu"
theorem off_nd' {a b : Option Tr} {k : Kd} {us : List Tr} (h : Off a b) (e : a = some (.nd k us)) : ∃ ts, b = some (.nd k ts) ∧ Sim us ts := by
  refine @Hush.hu _ (by
  rcases h with h | ⟨k', u1, u2, h1, h2, h3⟩
  · exact ⟨us, by rw [← h]; exact e, Sim.refl us⟩
  · rw [e] at h1
    cases h1
    exact ⟨u2, h2, h3⟩) ?_
  walk_at "hu"
def Kp (ts us : List Tr) : Prop := ∀ (i : Nat) (t : Tr), isNd t = true → (us[i]? = some t ↔ ts[i]? = some t)
theorem nd_get {k : Kd} {ts : List Tr} {i : Nat} {r : Pth} : (Tr.nd k ts).get (i :: r) = (ts[i]?).bind fun t => t.get r := by
  refine @Hush.hu _ (by
  show (match ts[i]? with | some t => t.get r | none => none) = _
  cases ts[i]? <;> rfl) ?_
  walk_at "hu"
theorem kp_get {ts us : List Tr} {k k' kk : Kd} {xs : List Tr} {i : Nat} {r : Pth} (h : Kp ts us) : (Tr.nd k' us).get (i :: r) = some (.nd kk xs) ↔ (Tr.nd k ts).get (i :: r) = some (.nd kk xs) := by
  refine @Hush.hu _ (by
  rw [nd_get, nd_get]
  constructor
  · intro e
    cases q : us[i]? with
    | none => rw [q] at e; cases e
    | some t =>
      rw [q] at e
      rw [(h i t (get_isNd e)).mp q]
      exact e
  · intro e
    cases q : ts[i]? with
    | none => rw [q] at e; cases e
    | some t =>
      rw [q] at e
      rw [(h i t (get_isNd e)).mpr q]
      exact e) ?_
  walk_at "hu"
section
variable {I : SI} {K : PySem.W.Frag} {s : St1} {H : Hp}
theorem put_back {t : Ts} {n : Nat} {p : Pth} {T T' : Tr} {k k' : Kd} {ts us : List Tr} (h1 : t[n]? = some (some T)) (h2 : T.get p = some (.nd k ts)) (h3 : T.put p (.nd k' us) = some T') (hk : Kp ts us) {m : Nat} {q : Pth} {kq : Kd} {xs : List Tr}
    (e : getT (t.set n (some T')) m q = some (.nd kq xs)) : (m = n ∧ q = p ∧ kq = k' ∧ xs = us) ∨ (¬ (m = n ∧ q = p) ∧ ∃ ys, getT t m q = some (.nd kq ys) ∧ Sim ys xs) := by
  refine @Hush.hu _ (by
  by_cases c : m = n
  · subst c
    have hl := (List.getElem?_eq_some_iff.mp h1).1
    rw [getT_of (T := T') (by rw [List.getElem?_set_self hl])] at e
    by_cases c2 : ∃ r, q = p ++ r
    · obtain ⟨r, rfl⟩ := c2
      rw [put_get h3] at e
      cases r with
      | nil =>
        rw [get_nil] at e
        cases e
        exact .inl ⟨rfl, List.append_nil _, rfl, rfl⟩
      | cons i r =>
        refine .inr ⟨fun z => absurd z.2 (by simp), xs, ?_, Sim.refl xs⟩
        rw [getT_of h1, get_app, h2]
        exact (kp_get (k := k) hk).mp e
    · have c2 : ∀ r, q ≠ p ++ r := fun r z => c2 ⟨r, z⟩
      obtain ⟨ys, z1, z2⟩ := off_nd (put_off h3 h2 rfl c2) e
      exact .inr ⟨fun z => c2 [] (by rw [z.2, List.append_nil]), ys, by rw [getT_of h1]; exact z1, z2⟩
  · refine .inr ⟨fun z => c z.1, xs, ?_, Sim.refl xs⟩
    unfold getT at e ⊢
    rw [List.getElem?_set_ne (fun z => c z.symm)] at e
    exact e) ?_
  walk_at "hu"
theorem put_forth {t : Ts} {n : Nat} {p : Pth} {T T' : Tr} {k k' : Kd} {ts us : List Tr} (h1 : t[n]? = some (some T)) (h2 : T.get p = some (.nd k ts)) (h3 : T.put p (.nd k' us) = some T') (hk : Kp ts us) {q : Pth} {kq : Kd} {xs : List Tr}
    (e : T.get q = some (.nd kq xs)) : ∃ kk ys, T'.get q = some (.nd kk ys) := by
  refine @Hush.hu _ (by
  by_cases c2 : ∃ r, q = p ++ r
  · obtain ⟨r, rfl⟩ := c2
    rw [put_get h3]
    cases r with
    | nil => exact ⟨k', us, get_nil _⟩
    | cons i r =>
      rw [get_app, h2] at e
      exact ⟨kq, xs, (kp_get (k := k) hk).mpr e⟩
  · obtain ⟨ys, z1, z2⟩ := off_nd' (put_off h3 h2 rfl fun r z => c2 ⟨r, z⟩) e
    exact ⟨kq, ys, z1⟩) ?_
  walk_at "hu"
theorem po_put {n : Nat} {p : Pth} {T T' : Tr} {k k' : Kd} {ts us : List Tr} {a dx : Addr} {vs : List V} {o : HO} (ok : I.ok K s H) (h1 : s.t[n]? = some (some T)) (h2 : T.get p = some (.nd k ts)) (h3 : T.put p (.nd k' us) = some T') (hk : Kp ts us)
    (hi : k'.isIns = k.isIns) (hw : s.w n p = some (a, dx)) (hh : Holds I.mg (upd H a o) a dx vs k') (hc : Chs K (Hr I s H) n p 0 us vs) : Po I K s H { s with t := s.t.set n (some T') } (upd H a o) := by
  refine @Hush.hu _ (by
  have g0 : getT s.t n p = some (.nd k ts) := by rw [getT_of h1]; exact h2
  obtain ⟨a', dx', vs0, w0, z0, zx0, c0, hd0⟩ := ok.nod n p k ts g0
  rw [hw] at w0
  cases w0
  obtain ⟨o0, ho0, hnt, hno, hnb⟩ := holds_at hd0
  have adr : ∀ b, Adr { s with t := s.t.set n (some T') } b → Adr s b := fun b ⟨m, q, kq, xs, b1, b2, e1, e2, e3⟩ => by
    rcases put_back h1 h2 h3 hk e1 with ⟨rfl, rfl, rfl, rfl⟩ | ⟨_, ys, e4, _⟩
    · exact ⟨m, q, k, ts, b1, b2, g0, e2, by rw [← hi]; exact e3⟩
    · exact ⟨m, q, kq, ys, b1, b2, e4, e2, e3⟩
  have mm : ∀ b, I.M { s with t := s.t.set n (some T') } b → I.M s b := fun b m => by
    rcases m with m | m
    · exact .inl (adr b m)
    · exact .inr m
  have ma : I.M s a := .inl ⟨n, p, k, ts, a, dx, g0, hw, .inl rfl⟩
  have vle : VLe (Hr I s H) (Hr I { s with t := s.t.set n (some T') } (upd H a o)) := vle_of (fun b u hb => by
    obtain ⟨b1, b2⟩ := hr_of hb
    exact hr_in (by rw [upd_ne (fun z => b2 (by rw [z]; exact ma))]; exact b1) fun z => b2 (mm b z)) fun _ _ _ e => e
  have ne : ∀ {m q kq xs b1 b2 ws}, ¬ (m = n ∧ q = p) → getT s.t m q = some (.nd kq xs) → s.w m q = some (b1, b2) → Holds I.mg H b1 b2 ws kq → b1 ≠ a ∧ (kq.isIns = true → b2 ≠ a) := fun {m q kq xs b1 b2 ws} nn e1 e2 e3 =>
    ⟨fun z => nn (ok.inj m q kq xs n p k ts a b2 dx e1 g0 (by rw [← z]; exact e2) hw), fun hi z => by
      have := holds_dx e3 hi
      rw [z, ho0] at this
      exact hno _ (Option.some.inj this)⟩
  refine ⟨fun b u m e => ?_, ⟨fun m q kq xs e => ?_, fun m q kq xs m' q' kq' xs' b b2 b3 e e' e1 e2 => ?_, fun m q x e => ?_, fun b u e => ?_, fun q hq => ?_, ok.fl⟩, fun b m => .inl (mm b m), fun b u e => ?_, fun _ _ _ e => e, rfl⟩
  · rw [upd_ne (fun z => m (by rw [z]; exact ma))]
    exact e
  · rcases put_back h1 h2 h3 hk e with ⟨rfl, rfl, rfl, rfl⟩ | ⟨nn, ys, e4, sm⟩
    · exact ⟨a, dx, vs, hw, z0, by rw [hi]; exact zx0, chs_same vle hc, hh⟩
    · obtain ⟨b1, b2, ws, w1, z1, zx1, c1, hd1⟩ := ok.nod m q kq ys e4
      obtain ⟨n1, n2⟩ := ne nn e4 w1 hd1
      exact ⟨b1, b2, ws, w1, z1, zx1, chs_sim (chs_same vle c1) sm, holds_same (fun u z => by rw [upd_ne n1]; exact z) (fun hi u z => by rw [upd_ne (n2 hi)]; exact z) hd1⟩
  · have f : ∀ {m q kq xs}, getT (s.t.set n (some T')) m q = some (.nd kq xs) → ∃ kk ys, getT s.t m q = some (.nd kk ys) := fun {m q kq xs} e => by
      rcases put_back h1 h2 h3 hk e with ⟨rfl, rfl, rfl, rfl⟩ | ⟨nn, ys, e4, sm⟩
      · exact ⟨k, ts, g0⟩
      · exact ⟨kq, ys, e4⟩
    obtain ⟨k1, y1, f1⟩ := f e
    obtain ⟨k2, y2, f2⟩ := f e'
    exact ok.inj m q k1 y1 m' q' k2 y2 b b2 b3 f1 f2 e1 e2
  · obtain ⟨d1, d2⟩ := ok.dom m q x e
    refine ⟨by rw [List.length_set]; exact d1, fun U hU => ?_⟩
    by_cases c : m = n
    · subst c
      rw [List.getElem?_set_self d1] at hU
      cases hU
      obtain ⟨kk, xs, g⟩ := d2 T h1
      exact put_forth h1 h2 h3 hk g
    · rw [List.getElem?_set_ne (fun z => c z.symm)] at hU
      exact d2 U hU
  · obtain ⟨e1, e2⟩ := ok.z b u e
    exact ⟨by rw [upd_ne (fun z => by rw [z, z0] at e; cases e)]; exact e1, e2⟩
  · obtain ⟨ps, t1, t2, t3⟩ := ok.tab q hq
    refine ⟨ps, by rw [upd_ne (fun z => by rw [z, ho0] at t1; exact hnb _ (Option.some.inj t1))]; exact t1, t2, fun p' cv hcv => ?_⟩
    obtain ⟨c1, y1, y2⟩ := t3 p' cv hcv
    refine ⟨c1, y1, ?_⟩
    rw [upd_ne (fun z => ?_)]
    · exact y2
    · rw [z, ho0] at y2
      have y2 := Option.some.inj y2
      subst y2
      cases k with
      | lst => rw [show H a = _ from hd0] at ho0; cases ho0
      | dic ks => rw [hd0.2.2] at ho0; cases ho0
      | ins c ks => obtain ⟨_, _, C, _, h4, _⟩ := hd0; rw [h4] at ho0; cases ho0
      | dct ks => rw [hd0.2.2] at ho0; cases ho0
  · by_cases c : b = a
    · subst c; exact ⟨_, upd_same⟩
    · exact ⟨u, by rw [upd_ne c]; exact e⟩) ?_
  walk_at "hu"
end
end Dl
namespace Dl
open PySem L2
section
variable {I : SI} {K : PySem.W.Frag} {s : St1} {H H' : Hp}
abbrev allocS (s : St1) (k : Kd) (ds : List D) (a dx : Addr) : St1 := { s with t := s.t ++ [some (.nd k (ds.map Tr.v))], w := fun n p => if n = s.t.length ∧ p = [] then some (a, dx) else s.w n p }
theorem chs_v {vw : Vw} {n : Nat} {p : Pth} : ∀ {j : Nat} {ds : List D} {vs : List V}, RpL K vw ds vs → topL ds = 0 → Chs K vw n p j (ds.map Tr.v) vs
  | _, _, _, .nil, _ => .nil
  | _, _, _, .cons h t, e => by
    unfold topL at e
    exact .cons ⟨h, by omega⟩ (chs_v t (by omega))
theorem get_leafs {k : Kd} {ds : List D} {p : Pth} {kq : Kd} {xs : List Tr} (h : (Tr.nd k (ds.map Tr.v)).get p = some (.nd kq xs)) : p = [] ∧ kq = k ∧ xs = ds.map Tr.v := by
  refine @Hush.hu _ (by
  cases p with
  | nil => rw [get_nil] at h; cases h; exact ⟨rfl, rfl, rfl⟩
  | cons j p =>
    rw [nd_get, List.getElem?_map] at h
    cases e : ds[j]? with
    | none => rw [e] at h; cases h
    | some d =>
      rw [e] at h
      cases p with
      | nil => cases h
      | cons _ _ => cases h) ?_
  walk_at "hu"
theorem app_get {t : Ts} {x : Option Tr} {n : Nat} {p : Pth} {u : Tr} (h : getT (t ++ [x]) n p = some u) : (n = t.length ∧ ∃ T, x = some T ∧ T.get p = some u) ∨ getT t n p = some u := by
  refine @Hush.hu _ (by
  obtain ⟨T, h1, h2⟩ := getT_some h
  by_cases c : n < t.length
  · rw [List.getElem?_append_left c] at h1
    exact .inr (by rw [getT_of h1]; exact h2)
  · have e : n = t.length := by
      have := (List.getElem?_eq_some_iff.mp h1).1
      rw [List.length_append] at this
      have : n < t.length + 1 := this
      omega
    subst e
    rw [List.getElem?_append_right (Nat.le_refl _), Nat.sub_self] at h1
    cases h1
    exact .inl ⟨rfl, T, rfl, h2⟩) ?_
  walk_at "hu"
abbrev killS (s : St1) (m : Nat) : St1 := { s with t := s.t.set m none }
theorem kill_get {t : Ts} {m n : Nat} {p : Pth} {u : Tr} (h : getT (t.set m none) n p = some u) : n ≠ m ∧ getT t n p = some u := by
  refine @Hush.hu _ (by
  obtain ⟨T, h1, h2⟩ := getT_some h
  by_cases c : n = m
  · subst c
    have hl := (List.getElem?_eq_some_iff.mp h1).1
    rw [List.length_set] at hl
    rw [List.getElem?_set_self hl] at h1
    cases h1
  · rw [List.getElem?_set_ne (fun z => c z.symm)] at h1
    exact ⟨c, by rw [getT_of h1]; exact h2⟩) ?_
  walk_at "hu"
theorem po_kill (m : Nat) (ok : I.ok K s H) : Po I K s H (killS s m) H := by
  refine @Hush.hu _ (by
  have mm : ∀ b, I.M (killS s m) b → I.M s b := fun b mb => by
    rcases mb with ⟨n, p, kq, xs, b1, b2, e1, e2, e3⟩ | mb
    · exact .inl ⟨n, p, kq, xs, b1, b2, (kill_get e1).2, e2, e3⟩
    · exact .inr mb
  have vle : VLe (Hr I s H) (Hr I (killS s m) H) := vle_of (fun b u hb => by
    obtain ⟨b1, b2⟩ := hr_of hb
    exact hr_in b1 fun z => b2 (mm b z)) fun _ _ _ e => e
  refine ⟨fun b u _ e => e, ⟨fun n p kq xs e => ?_, fun n p kq xs n' p' kq' xs' b b2 b3 e e' e1 e2 => ok.inj n p kq xs n' p' kq' xs' b b2 b3 (kill_get e).2 (kill_get e').2 e1 e2, fun n p x e => ?_, ok.z, ok.tab, ok.fl⟩, fun b z => .inl (mm b z), fun b u e => ⟨u, e⟩, fun _ _ _ e => e, rfl⟩
  · obtain ⟨b1, b2, ws, w1, z1, zx1, c1, hd1⟩ := ok.nod n p kq xs (kill_get e).2
    exact ⟨b1, b2, ws, w1, z1, zx1, chs_same vle c1, hd1⟩
  · obtain ⟨d1, d2⟩ := ok.dom n p x e
    refine ⟨by rw [List.length_set]; exact d1, fun T hT => ?_⟩
    by_cases c : n = m
    · subst c
      rw [List.getElem?_set_self d1] at hT
      cases hT
    · rw [List.getElem?_set_ne (fun z => c z.symm)] at hT
      exact d2 T hT) ?_
  walk_at "hu"
theorem kill_free {m : Nat} {k : Kd} {ts : List Tr} {a dx : Addr} (ok : I.ok K s H) (h : getT s.t m [] = some (.nd k ts)) (hw : s.w m [] = some (a, dx)) : ¬ I.M (killS s m) a := by
  refine Hush.hu (fun mb => by
  obtain ⟨b1, b2, ws, w1, z1, zx1, c1, hd1⟩ := ok.nod m [] k ts h
  rw [hw] at w1
  cases w1
  obtain ⟨o, ho, hnt, hno, hnb⟩ := holds_at hd1
  rcases mb with ⟨n, p, kq, xs, b1, b2, e1, e2, e3⟩ | ⟨u, e⟩ | ⟨q, hq, e⟩
  · obtain ⟨f1, f2⟩ := kill_get e1
    rcases e3 with e3 | ⟨e3, e4⟩
    · subst e3
      exact f1 (ok.inj n p kq xs m [] k ts a b2 dx f2 h e2 hw).1
    · subst e4
      obtain ⟨c1, c2, ws', w1, z1, zx1, cc, hd2⟩ := ok.nod n p kq xs f2
      rw [e2] at w1
      cases w1
      rw [holds_dx hd2 e3] at ho
      exact hno _ (Option.some.inj ho).symm
  · rw [z1] at e; cases e
  · obtain ⟨ps, t1, _⟩ := ok.tab q hq
    rw [e, ho] at t1
    exact hnb _ (Option.some.inj t1)) ?_
  walk_at "hu"
abbrev cutS (s : St1) (L : Nat) : St1 := { s with t := s.t.take L, w := fun n p => if n < L then s.w n p else none }
theorem cut_get {t : Ts} {L n : Nat} {p : Pth} {u : Tr} (h : getT (t.take L) n p = some u) : n < L ∧ getT t n p = some u := by
  refine @Hush.hu _ (by
  obtain ⟨T, h1, h2⟩ := getT_some h
  have hl := (List.getElem?_eq_some_iff.mp h1).1
  rw [List.length_take] at hl
  rw [List.getElem?_take, if_pos (by omega)] at h1
  exact ⟨by omega, by rw [getT_of h1]; exact h2⟩) ?_
  walk_at "hu"
structure VLt (L : Nat) (A B : Vw) : Prop where
  h : Same A.h B.h
  w : ∀ n p x, n < L → A.w n p = some x → B.w n p = some x
  c : ∀ k v, A.c k v → B.c k v
  x : ∀ c y v, A.x c y v → B.x c y v
mutual
theorem rp_upto {L : Nat} {A B : Vw} (e : VLt L A B) : ∀ {d : D} {v : V}, top d ≤ L → Rp K A d v → Rp K B d v
  | .d x, _, _, h => dp_same e.h h
  | .o w, _, _, h => h
  | .kt x, _, _, h => h
  | .ob u, _, _, ⟨a, h1, h2⟩ => ⟨a, h1, e.h _ _ h2⟩
  | .r n p, _, ht, ⟨a, h1, h2⟩ => ⟨a, h1, e.w _ _ _ (by unfold top at ht; omega) h2⟩
  | .tp ds, _, ht, ⟨a, xs, h1, h2, h3⟩ => ⟨a, xs, h1, e.h _ _ h2, rpa_upto e (by unfold top at ht; exact ht) h3⟩
  | .ls ds, _, ht, ⟨a, xs, h1, h2, h3⟩ => ⟨a, xs, h1, e.h _ _ h2, rpa_upto e (by unfold top at ht; exact ht) h3⟩
  | .cl k, _, _, h => e.c _ _ h
  | .xn _ _, _, _, h => e.x _ _ _ h
  | .sc ns, _, _, ⟨a, h1, h2, h3⟩ => ⟨a, h1, sql_same e.h h2, h3⟩
  | .un, _, _, h => h
theorem rpa_upto {L : Nat} {A B : Vw} (e : VLt L A B) : ∀ {ds : List D} {vs : List V}, topL ds ≤ L → RpA K A ds vs → RpA K B ds vs
  | [], _, _, h => h
  | _ :: _, _, ht, ⟨v, us, h1, h2, h3⟩ => ⟨v, us, h1, rp_upto e (by unfold topL at ht; omega) h2, rpa_upto e (by unfold topL at ht; omega) h3⟩
end
theorem chs_upto {L : Nat} {A B : Vw} (e : VLt L A B) {n : Nat} {p : Pth} (hn : n < L) : ∀ {j : Nat} {ts : List Tr} {vs : List V}, Chs K A n p j ts vs → Chs K B n p j ts vs
  | _, _, _, .nil => .nil
  | _, .v d :: _, _, .cons h t => .cons ⟨rp_upto e (by rw [h.2]; exact Nat.zero_le _) h.1, h.2⟩ (chs_upto e hn t)
  | _, .nd _ _ :: _, _, .cons ⟨a, h1, h2⟩ t => .cons ⟨a, e.w _ _ _ hn h1, h2⟩ (chs_upto e hn t)
theorem cut_m {L : Nat} (b : Addr) (mb : I.M (cutS s L) b) : I.M s b := by
  refine @Hush.hu _ (by
  rcases mb with ⟨n, p, kq, xs, b1, b2, e1, e2, e3⟩ | mb
  · obtain ⟨f1, f2⟩ := cut_get e1
    have e2 : (if n < L then s.w n p else none) = some (b1, b2) := e2
    rw [if_pos f1] at e2
    exact .inl ⟨n, p, kq, xs, b1, b2, f2, e2, e3⟩
  · exact .inr mb) ?_
  walk_at "hu"
theorem cut_vlt {L : Nat} : VLt L (Hr I s H) (Hr I (cutS s L) H) := by
  refine @Hush.hu _ (by
  have hh : Same (Hr I s H).h (Hr I (cutS s L) H).h := fun b u hb => by
    obtain ⟨b1, b2⟩ := hr_of hb
    exact hr_in b1 fun z => b2 (cut_m b z)
  refine ⟨hh, fun n p x hn e => ?_, fun k v e => I.cs hh e, fun c y v e => I.xs hh e⟩
  show ((if n < L then s.w n p else none)).map (·.1) = some x
  rw [if_pos hn]
  exact e) ?_
  walk_at "hu"
theorem cut_ok (L : Nat) (ok : I.ok K s H) (hf : ∀ n p x, I.w0 n p = some x → n < L) : I.ok K (cutS s L) H := by
  refine @Hush.hu _ (by
  have wc : ∀ {n p x}, (cutS s L).w n p = some x → n < L ∧ s.w n p = some x := fun {n p x} e => by
    have e : (if n < L then s.w n p else none) = some x := e
    by_cases c : n < L
    · rw [if_pos c] at e; exact ⟨c, e⟩
    · rw [if_neg c] at e; cases e
  refine ⟨fun n p kq xs e => ?_, fun n p kq xs n' p' kq' xs' b b2 b3 e e' e1 e2 => ok.inj n p kq xs n' p' kq' xs' b b2 b3 (cut_get e).2 (cut_get e').2 (wc e1).2 (wc e2).2, fun n p x e => ?_, ok.z, ok.tab, fun n p x e => by
    show (if n < L then s.w n p else none) = some x
    rw [if_pos (hf n p x e)]
    exact ok.fl n p x e⟩
  · obtain ⟨f1, f2⟩ := cut_get e
    obtain ⟨b1, b2, ws, w1, z1, zx1, c1, hd1⟩ := ok.nod n p kq xs f2
    exact ⟨b1, b2, ws, by show (if n < L then s.w n p else none) = _; rw [if_pos f1]; exact w1, z1, zx1, chs_upto cut_vlt f1 c1, hd1⟩
  · obtain ⟨f1, f2⟩ := wc e
    obtain ⟨d1, d2⟩ := ok.dom n p x f2
    refine ⟨by show n < (s.t.take L).length; rw [List.length_take]; omega, fun T hT => ?_⟩
    rw [List.getElem?_take, if_pos f1] at hT
    exact d2 T hT) ?_
  walk_at "hu"
theorem po_cut {s0 : St1} {H0 : Hp} {L : Nat} (p : Po I K s0 H0 s H) (ok0 : I.ok K s0 H0) (hL : s0.t.length ≤ L) : Po I K s0 H0 (cutS s L) H := by
  refine Hush.hu (⟨p.keep, cut_ok L p.ok (fun n q x e => Nat.lt_of_lt_of_le (ok0.dom n q x (ok0.fl n q x e)).1 hL), fun a m => p.gro a (cut_m a m), p.live, fun n q x e => by
    have h1 := p.wle n q x e
    have h2 := (ok0.dom n q x e).1
    show (if n < L then s.w n q else none) = some x
    rw [if_pos (by omega)]
    exact h1, p.ze⟩) ?_
  walk_at "hu"
theorem rp_cut {L : Nat} {d : D} {v : V} (h : Rp K (Hr I s H) d v) (ht : top d ≤ L) : Rp K (Hr I (cutS s L) H) d v := by
  refine Hush.hu (rp_upto cut_vlt ht h) ?_
  walk_at "hu"
theorem exat_cut {mg : Str → Option Value} {L : Nat} {x : Exn} {cls : Value} {d : Option Addr} (h : ExAt K mg (Hr I s H) x cls d) : ExAt K mg (Hr I (cutS s L) H) x cls d := by
  refine @Hush.hu _ (by
  have e := (cut_vlt (I := I) (s := s) (H := H) (L := L)).h
  obtain ⟨C, h1, h2, h3⟩ := h
  refine ⟨C, h1, h2, ?_⟩
  cases q : x.x with
  | none => rw [q] at h3; exact h3
  | some y =>
    obtain ⟨f, y⟩ := y
    rw [q] at h3
    obtain ⟨dd, v, h4, h5, h6⟩ := h3
    exact ⟨dd, v, h4, e _ _ h5, dp_same e h6⟩) ?_
  walk_at "hu"
end
end Dl
namespace Dl
open PySem L2
def stripP : Pth → Pth → Option Pth
  | [], q => some q
  | _ :: _, [] => none
  | a :: p, b :: q => if a = b then stripP p q else none
theorem stripP_some : ∀ {p q r : Pth}, stripP p q = some r ↔ q = p ++ r
  | [], q, r => by
    constructor
    · intro h; cases h; rfl
    · intro h; rw [h]; rfl
  | _ :: _, [], r => by constructor <;> intro h <;> cases h
  | a :: p, b :: q, r => by
    show (if a = b then stripP p q else none) = some r ↔ _
    by_cases c : a = b
    · subst c
      rw [if_pos rfl, stripP_some]
      constructor
      · intro h; rw [h]; rfl
      · intro h; injection h
    · rw [if_neg c]
      constructor
      · intro h; cases h
      · intro h; injection h with h _; exact absurd h.symm c
theorem stripP_app (p r : Pth) : stripP p (p ++ r) = some r := by
  refine Hush.hu (stripP_some.mpr rfl) ?_
  walk_at "hu"
abbrev attS (s : St1) (n : Nat) (p : Pth) (j m : Nat) (T' : Tr) : St1 := { s with t := (s.t.set n (some T')).set m none, w := fun n' q => if n' = n then match stripP (p ++ [j]) q with | some r => s.w m r | none => s.w n q else s.w n' q }
theorem chs_hole {K : PySem.W.Frag} {A B : Vw} (e : VLe A B) {n : Nat} {p : Pth} {a : Addr} {k : Kd} {ts : List Tr} : ∀ {i j : Nat} {us : List Tr} {vs : List V}, B.w n (p ++ [i + j]) = some a → Chs K A n p i (us.set j (.v (.o (.ref a)))) vs → us[j]? = some (.nd k ts) → Chs K B n p i us vs
  | _, _, [], _, _, _, h => by simp at h
  | i, 0, u :: us, _, hw, .cons h r, hu => by
    simp at hu
    subst hu
    exact .cons ⟨a, hw, h.1⟩ (chs_same e r)
  | i, j + 1, u :: us, _, hw, .cons h r, hu => by
    refine .cons ?_ (chs_hole e (by rw [Nat.add_right_comm]; exact hw) r (by simpa using hu))
    cases u with
    | v d => exact ⟨rp_same e h.1, h.2⟩
    | nd k ts => obtain ⟨b, h1, h2⟩ := h; exact ⟨b, e.w _ _ _ h1, h2⟩
section
variable {I : SI} {K : PySem.W.Frag} {s : St1} {H : Hp}
def Kj (j : Nat) (ts us : List Tr) : Prop := ∀ (i : Nat) (t : Tr), i ≠ j → isNd t = true → (us[i]? = some t ↔ ts[i]? = some t)
theorem kj_get {j : Nat} {ts us : List Tr} {k k' kk : Kd} {xs : List Tr} {i : Nat} {r : Pth} (h : Kj j ts us) (hi : i ≠ j) : (Tr.nd k' us).get (i :: r) = some (.nd kk xs) ↔ (Tr.nd k ts).get (i :: r) = some (.nd kk xs) := by
  refine @Hush.hu _ (by
  rw [nd_get, nd_get]
  constructor
  · intro e
    cases q : us[i]? with
    | none => rw [q] at e; cases e
    | some t =>
      rw [q] at e
      rw [(h i t hi (get_isNd e)).mp q]
      exact e
  · intro e
    cases q : ts[i]? with
    | none => rw [q] at e; cases e
    | some t =>
      rw [q] at e
      rw [(h i t hi (get_isNd e)).mpr q]
      exact e) ?_
  walk_at "hu"
theorem po_att {n m j : Nat} {p : Pth} {T T' : Tr} {k k' km : Kd} {ts us tm : List Tr} {a dx am dm : Addr} {vs : List V} {o : HO} (ok : I.ok K s H) (h1 : s.t[n]? = some (some T)) (h2 : T.get p = some (.nd k ts)) (hmn : m ≠ n) (hm : s.t[m]? = some (some (.nd km tm)))
    (hwm : s.w m [] = some (am, dm)) (h3 : T.put p (.nd k' us) = some T') (huj : us[j]? = some (.nd km tm)) (htj : ∀ t, ts[j]? = some t → isNd t = false) (hk : Kj j ts us) (hi : k'.isIns = k.isIns) (hw : s.w n p = some (a, dx))
    (hh : Holds I.mg (upd H a o) a dx vs k') (hc : Chs K (Hr I s H) n p 0 (us.set j (.v (.o (.ref am)))) vs) : Po I K s H (attS s n p j m T') (upd H a o) := by
  refine @Hush.hu _ (by
  have g0 : getT s.t n p = some (.nd k ts) := by rw [getT_of h1]; exact h2
  obtain ⟨a', dx', vs0, w0, z0, zx0, c0, hd0⟩ := ok.nod n p k ts g0
  rw [hw] at w0
  cases w0
  obtain ⟨o0, ho0, hnt, hno, hnb⟩ := holds_at hd0
  have ln := (List.getElem?_eq_some_iff.mp h1).1
  have lm := (List.getElem?_eq_some_iff.mp hm).1
  have hole : ∀ r, s.w n (p ++ [j] ++ r) = none := fun r => by
    cases q : s.w n (p ++ [j] ++ r) with
    | none => rfl
    | some x =>
      obtain ⟨kk, xs, g⟩ := (ok.dom n _ x q).2 T h1
      rw [List.append_assoc, get_app, h2] at g
      have g : (Tr.nd k ts).get (j :: r) = some (.nd kk xs) := g
      rw [nd_get] at g
      cases e : ts[j]? with
      | none => rw [e] at g; cases g
      | some t =>
        rw [e] at g
        have := get_isNd (T := t) g
        rw [htj t e] at this
        cases this
  have wn : ∀ q, (∀ r, q ≠ p ++ [j] ++ r) → (attS s n p j m T').w n q = s.w n q := fun q hq => by
    show (if n = n then match stripP (p ++ [j]) q with | some r => s.w m r | none => s.w n q else s.w n q) = s.w n q
    rw [if_pos rfl]
    cases e : stripP (p ++ [j]) q with
    | none => rfl
    | some r => exact absurd (stripP_some.mp e) (hq r)
  have wj : ∀ r, (attS s n p j m T').w n (p ++ [j] ++ r) = s.w m r := fun r => by
    show (if n = n then match stripP (p ++ [j]) (p ++ [j] ++ r) with | some r => s.w m r | none => s.w n (p ++ [j] ++ r) else s.w n _) = s.w m r
    rw [if_pos rfl, stripP_app]
  have wo : ∀ n' q, n' ≠ n → (attS s n p j m T').w n' q = s.w n' q := fun n' q c => if_neg c
  have wl : ∀ n' q x, s.w n' q = some x → (attS s n p j m T').w n' q = some x := fun n' q x e => by
    by_cases c : n' = n
    · subst c
      by_cases c2 : ∃ r, q = p ++ [j] ++ r
      · obtain ⟨r, rfl⟩ := c2
        rw [hole r] at e; cases e
      · rw [wn q (fun r z => c2 ⟨r, z⟩)]; exact e
    · rw [wo n' q c]; exact e
  have back : ∀ {n' q kq xs}, getT (attS s n p j m T').t n' q = some (.nd kq xs) → n' ≠ m ∧ ((n' = n ∧ ∃ r, q = p ++ [j] ++ r ∧ getT s.t m r = some (.nd kq xs)) ∨ (n' = n ∧ q = p ∧ kq = k' ∧ xs = us) ∨
      (¬ (n' = n ∧ q = p) ∧ (n' = n → ∀ r, q ≠ p ++ [j] ++ r) ∧ ∃ ys, getT s.t n' q = some (.nd kq ys) ∧ Sim ys xs)) := fun {n' q kq xs} e0 => by
    obtain ⟨nm, e⟩ := kill_get e0
    clear e0
    refine ⟨nm, ?_⟩
    by_cases c : n' = n
    · subst c
      rw [getT_of (T := T') (by rw [List.getElem?_set_self ln])] at e
      by_cases c2 : ∃ r, q = p ++ r
      · obtain ⟨r, rfl⟩ := c2
        rw [put_get h3] at e
        cases r with
        | nil =>
          rw [get_nil] at e
          cases e
          exact .inr (.inl ⟨rfl, List.append_nil _, rfl, rfl⟩)
        | cons i r =>
          by_cases c3 : i = j
          · subst c3
            rw [nd_get, huj] at e
            refine .inl ⟨rfl, r, by simp, ?_⟩
            rw [getT_of hm]
            exact e
          · refine .inr (.inr ⟨fun z => absurd z.2 (by simp), fun _ r2 z => ?_, xs, ?_, Sim.refl xs⟩)
            · rw [List.append_assoc] at z
              have := List.append_cancel_left z
              injection this with h _
              exact c3 h
            · rw [getT_of h1, get_app, h2]
              exact (kj_get (k := k) hk c3).mp e
      · have c2 : ∀ r, q ≠ p ++ r := fun r z => c2 ⟨r, z⟩
        obtain ⟨ys, z1, z2⟩ := off_nd (put_off h3 h2 rfl c2) e
        exact .inr (.inr ⟨fun z => c2 [] (by rw [z.2, List.append_nil]), fun _ r z => c2 ([j] ++ r) (by rw [z, List.append_assoc]), ys, by rw [getT_of h1]; exact z1, z2⟩)
    · refine .inr (.inr ⟨fun z => c z.1, fun z => absurd z c, xs, ?_, Sim.refl xs⟩)
      unfold getT at e ⊢
      rw [List.getElem?_set_ne (fun z => c z.symm)] at e
      exact e
  have from_ : ∀ {n' q kq xs}, getT (attS s n p j m T').t n' q = some (.nd kq xs) → ∃ n0 q0 k0 xs0, getT s.t n0 q0 = some (.nd k0 xs0) ∧ (attS s n p j m T').w n' q = s.w n0 q0 ∧ k0.isIns = kq.isIns ∧
      ((n' = n ∧ (∃ r, q = p ++ [j] ++ r ∧ q0 = r) ∧ n0 = m) ∨ (n0 = n' ∧ q0 = q ∧ (n' = n → ∀ r, q ≠ p ++ [j] ++ r))) := fun {n' q kq xs} e0 => by
    obtain ⟨nm, e⟩ := back e0
    clear e0
    rcases e with ⟨rfl, r, rfl, e⟩ | ⟨rfl, rfl, rfl, rfl⟩ | ⟨c1, c2, ys, e, _⟩
    · exact ⟨m, r, kq, xs, e, wj r, rfl, .inl ⟨rfl, ⟨r, rfl, rfl⟩, rfl⟩⟩
    · have nq : ∀ r, q ≠ q ++ [j] ++ r := fun r z => by
        have := congrArg List.length z
        rw [List.length_append, List.length_append] at this
        have h1 : ([j] : Pth).length = 1 := rfl
        omega
      exact ⟨n', q, k, ts, g0, wn q nq, hi.symm, .inr ⟨rfl, rfl, fun _ => nq⟩⟩
    · refine ⟨n', q, kq, ys, e, ?_, rfl, .inr ⟨rfl, rfl, c2⟩⟩
      by_cases c : n' = n
      · subst c
        exact wn q (c2 rfl)
      · exact wo n' q c
  have mm : ∀ b, I.M (attS s n p j m T') b → I.M s b := fun b mb => by
    rcases mb with ⟨n', q, kq, xs, b1, b2, e1, e2, e3⟩ | mb
    · obtain ⟨n0, q0, k0, xs0, f1, f2, f3, _⟩ := from_ e1
      exact .inl ⟨n0, q0, k0, xs0, b1, b2, f1, by rw [← f2]; exact e2, by rw [f3]; exact e3⟩
    · exact .inr mb
  have ma : I.M s a := .inl ⟨n, p, k, ts, a, dx, g0, hw, .inl rfl⟩
  have vle : VLe (Hr I s H) (Hr I (attS s n p j m T') (upd H a o)) := vle_of (fun b u hb => by
    obtain ⟨b1, b2⟩ := hr_of hb
    exact hr_in (by rw [upd_ne (fun z => b2 (by rw [z]; exact ma))]; exact b1) fun z => b2 (mm b z)) wl
  have ne : ∀ {n' q kq xs b1 b2 ws}, ¬ (n' = n ∧ q = p) → getT s.t n' q = some (.nd kq xs) → s.w n' q = some (b1, b2) → Holds I.mg H b1 b2 ws kq → b1 ≠ a ∧ (kq.isIns = true → b2 ≠ a) := fun {n' q kq xs b1 b2 ws} nn e1 e2 e3 =>
    ⟨fun z => nn (ok.inj n' q kq xs n p k ts a b2 dx e1 g0 (by rw [← z]; exact e2) hw), fun hi z => by
      have := holds_dx e3 hi
      rw [z, ho0] at this
      exact hno _ (Option.some.inj this)⟩
  have stay : ∀ {b1 b2 ws kq}, (b1 ≠ a ∧ (kq.isIns = true → b2 ≠ a)) → Holds I.mg H b1 b2 ws kq → Holds I.mg (upd H a o) b1 b2 ws kq := fun {b1 b2 ws kq} n e => holds_same (fun u z => by rw [upd_ne n.1]; exact z) (fun hi u z => by rw [upd_ne (n.2 hi)]; exact z) e
  have chj : ∀ {r : Pth} {i : Nat} {xs : List Tr} {ws : List V}, Chs K (Hr I s H) m r i xs ws → Chs K (Hr I (attS s n p j m T') (upd H a o)) n (p ++ [j] ++ r) i xs ws := by
    intro r i xs ws c
    induction c with
    | nil => exact .nil
    | @cons i t ts v vs h _ ih =>
      refine .cons ?_ ih
      cases t with
      | v d => exact ⟨rp_same vle h.1, h.2⟩
      | nd kq xs =>
        obtain ⟨b, g1, g2⟩ := h
        refine ⟨b, ?_, g2⟩
        show ((attS s n p j m T').w n (p ++ [j] ++ r ++ [i])).map (·.1) = some b
        rw [List.append_assoc (p ++ [j]), wj]
        exact g1
  refine ⟨fun b u mb e => ?_, ⟨fun n' q kq xs e0 => ?_, fun n' q kq xs n2 q2 kq2 xs2 b b2 b3 e e' e1 e2 => ?_, fun n' q x e => ?_, fun b u e => ?_, fun q hq => ?_, fun n p x e => wl n p x (ok.fl n p x e)⟩, fun b mb => .inl (mm b mb), fun b u e => ?_, wl, rfl⟩
  · rw [upd_ne (fun z => mb (by rw [z]; exact ma))]
    exact e
  · obtain ⟨nm, e⟩ := back e0
    clear e0
    rcases e with ⟨rfl, r, rfl, e⟩ | ⟨rfl, rfl, rfl, rfl⟩ | ⟨c1, c2, ys, e, sm⟩
    · obtain ⟨b1, b2, ws, w1, z1, zx1, cc, hd1⟩ := ok.nod m r kq xs e
      exact ⟨b1, b2, ws, by rw [wj]; exact w1, z1, zx1, chj cc, stay (ne (fun z => hmn z.1) e w1 hd1) hd1⟩
    · have nq : ∀ r, q ≠ q ++ [j] ++ r := fun r z => by
        have := congrArg List.length z
        rw [List.length_append, List.length_append] at this
        have h1 : ([j] : Pth).length = 1 := rfl
        omega
      refine ⟨a, dx, vs, by rw [wn q nq]; exact hw, z0, by rw [hi]; exact zx0, chs_hole vle (a := am) ?_ hc huj, hh⟩
      show ((attS s n' q j m T').w n' (q ++ [0 + j])).map (·.1) = some am
      rw [Nat.zero_add, ← List.append_nil (q ++ [j]), wj, hwm]
      rfl
    · obtain ⟨b1, b2, ws, w1, z1, zx1, cc, hd1⟩ := ok.nod n' q kq ys e
      refine ⟨b1, b2, ws, ?_, z1, zx1, chs_sim (chs_same vle cc) sm, stay (ne c1 e w1 hd1) hd1⟩
      by_cases c : n' = n
      · subst c
        rw [wn q (c2 rfl)]; exact w1
      · rw [wo n' q c]; exact w1
  · obtain ⟨n0, q0, k0, xs0, f1, f2, _, f3⟩ := from_ e
    obtain ⟨n0', q0', k0', xs0', f1', f2', _, f3'⟩ := from_ e'
    obtain ⟨j1, j2⟩ := ok.inj n0 q0 k0 xs0 n0' q0' k0' xs0' b b2 b3 f1 f1' (by rw [← f2]; exact e1) (by rw [← f2']; exact e2)
    obtain ⟨nm, _⟩ := back e
    obtain ⟨nm', _⟩ := back e'
    rcases f3 with ⟨c1, ⟨r, c2, c3⟩, c4⟩ | ⟨c1, c2, c3⟩
    · rcases f3' with ⟨d1, ⟨r', d2, d3⟩, d4⟩ | ⟨d1, d2, d3⟩
      · exact ⟨c1.trans d1.symm, by rw [c2, d2, ← c3, ← d3, j2]⟩
      · exact absurd (d1.symm.trans (j1.symm.trans c4)) nm'
    · rcases f3' with ⟨d1, ⟨r', d2, d3⟩, d4⟩ | ⟨d1, d2, d3⟩
      · exact absurd (c1.symm.trans (j1.trans d4)) nm
      · exact ⟨c1.symm.trans (j1.trans d1), c2.symm.trans (j2.trans d2)⟩
  · by_cases c : n' = n
    · subst c
      refine ⟨by rw [List.length_set, List.length_set]; exact ln, fun U hU => ?_⟩
      rw [List.getElem?_set_ne hmn, List.getElem?_set_self ln] at hU
      cases hU
      by_cases c2 : ∃ r, q = p ++ [j] ++ r
      · obtain ⟨r, rfl⟩ := c2
        rw [wj] at e
        obtain ⟨kk, xs, g⟩ := (ok.dom m r x e).2 _ hm
        refine ⟨kk, xs, ?_⟩
        rw [List.append_assoc, put_get h3]
        show (Tr.nd k' us).get (j :: r) = _
        rw [nd_get, huj]
        exact g
      · have c2 : ∀ r, q ≠ p ++ [j] ++ r := fun r z => c2 ⟨r, z⟩
        rw [wn q c2] at e
        obtain ⟨kk, xs, g⟩ := (ok.dom n' q x e).2 T h1
        by_cases c3 : ∃ r, q = p ++ r
        · obtain ⟨r, rfl⟩ := c3
          rw [put_get h3]
          cases r with
          | nil => exact ⟨k', us, get_nil _⟩
          | cons i r =>
            have hij : i ≠ j := fun z => c2 r (by rw [z]; simp)
            rw [get_app, h2] at g
            exact ⟨kk, xs, (kj_get (k := k) hk hij).mpr g⟩
        · obtain ⟨ys, z1, z2⟩ := off_nd' (put_off h3 h2 rfl fun r z => c3 ⟨r, z⟩) g
          exact ⟨kk, ys, z1⟩
    · rw [wo n' q c] at e
      obtain ⟨d1, d2⟩ := ok.dom n' q x e
      refine ⟨by rw [List.length_set, List.length_set]; exact d1, fun U hU => ?_⟩
      by_cases c2 : n' = m
      · subst c2
        rw [List.getElem?_set_self (by rw [List.length_set]; exact lm)] at hU
        cases hU
      · rw [List.getElem?_set_ne (fun z => c2 z.symm), List.getElem?_set_ne (fun z => c z.symm)] at hU
        exact d2 U hU
  · obtain ⟨e1, e2⟩ := ok.z b u e
    exact ⟨by rw [upd_ne (fun z => by rw [z, z0] at e; cases e)]; exact e1, e2⟩
  · obtain ⟨ps, t1, t2, t3⟩ := ok.tab q hq
    refine ⟨ps, by rw [upd_ne (fun z => by rw [z, ho0] at t1; exact hnb _ (Option.some.inj t1))]; exact t1, t2, fun p' cv hcv => ?_⟩
    obtain ⟨c1, y1, y2⟩ := t3 p' cv hcv
    refine ⟨c1, y1, ?_⟩
    rw [upd_ne (fun z => ?_)]
    · exact y2
    · rw [z, ho0] at y2
      have y2 := Option.some.inj y2
      subst y2
      cases k with
      | lst => rw [show H a = _ from hd0] at ho0; cases ho0
      | dic ks => rw [hd0.2.2] at ho0; cases ho0
      | ins c ks => obtain ⟨_, _, C, _, h4, _⟩ := hd0; rw [h4] at ho0; cases ho0
      | dct ks => rw [hd0.2.2] at ho0; cases ho0
  · by_cases c : b = a
    · subst c; exact ⟨_, upd_same⟩
    · exact ⟨u, by rw [upd_ne c]; exact e⟩) ?_
  walk_at "hu"
end
end Dl
namespace L2
open PySem PySem.Spec PyProof.Rows
theorem tuple_mul0 (l : Addr) (items : Array Value) (n : Nat) (dd : Option Addr) (sl : Array (Option Value)) (u : Tok) (c1 : items.isEmpty = false) :
    Meets (Builtin.«tuple.__mul__» ⟨[.ref l, .int 0 u], []⟩) (fun _ R s => s.heap.get? l = some { cls := .type "tuple", dict := dd, data := .seq items n, slots := sl } ∧
      R (.ok (.ret (Value.ref s.heap.objs.size))) { s with heap := s.heap.push { cls := Value.type "tuple", data := Data.seq #[] }, toks := s.toks }) := by
  refine Hush.hu (.of_wp fun prog w A R s h => by
    obtain ⟨hp, g, d, tk, os⟩ := s
    obtain ⟨hl, h⟩ := h
    have f1 := AutoSeq1.idx_int
    wp_walk using wpAny_loadPart' hl
    repeat (first
      | (refine wpAny_ite_false (decide_eq_false (by decide)) ?_; wp_walk using wpAny_loadPart' hl)
      | (refine wpAny_ite_false (decide_eq_false (by simp [c1])) ?_; wp_walk using wpAny_loadPart' hl)
      | (refine wpAny_ite_true (decide_eq_true (by decide)) ?_; wp_walk using wpAny_loadPart' hl))
    exact ⟨_, rfl, h⟩) ?_
  walk_at "hu"
theorem tuple_mul1 (l : Addr) (items : Array Value) (n : Nat) (dd : Option Addr) (sl : Array (Option Value)) (u : Tok) :
    Meets (Builtin.«tuple.__mul__» ⟨[.ref l, .int 1 u], []⟩) (fun _ R s => s.heap.get? l = some { cls := .type "tuple", dict := dd, data := .seq items n, slots := sl } ∧
      R (.ok (.ret (Value.ref l))) s) := by
  refine Hush.hu (.of_wp fun prog w A R s h => by
    obtain ⟨hp, g, d, tk, os⟩ := s
    obtain ⟨hl, h⟩ := h
    have f1 := AutoSeq1.idx_int
    wp_walk using wpAny_loadPart' hl
    repeat (first
      | (refine wpAny_ite_false (decide_eq_false (by decide)) ?_; wp_walk using wpAny_loadPart' hl)
      | (refine wpAny_ite_true (decide_eq_true (by simp)) ?_; wp_walk using wpAny_loadPart' hl))
    exact ⟨_, rfl, h⟩) ?_
  walk_at "hu"
def rRep0 (K : PySem.W.Frag) : R2 := fun x y H Q => ∃ l k xs, x = .ref l ∧ y = .int k ∧ SqT K H l xs ∧ ((k = 0 ∧ xs ≠ [] ∧ ∀ p, H p = none → Q (.ref p) (upd H p (.tup []))) ∨ (k = 1 ∧ Q (.ref l) H))
section
variable {X : Cx}
theorem op_rep0 : OpR X (binaryOp .Mult) (rRep0 X.K) := by
  refine @Hush.hu _ (by
  intro pins s σ H x y v u Q I rx ry h
  obtain ⟨l, k, xs, rfl, rfl, hT, q⟩ := h
  cases rx
  obtain ⟨t, rfl⟩ := ry
  obtain ⟨its, r, ⟨⟨cls, dd, data, sl⟩, ho, hc, n, hd⟩, hs⟩ := I.tuple hT
  simp only at hc hd
  subst hc hd
  have hle : its.length = xs.length := r.length.symm
  rcases q with ⟨rfl, hne, q⟩ | ⟨rfl, q⟩
  · have hn : its ≠ [] := fun e => hne (by
      rw [e] at hle
      exact List.eq_nil_of_length_eq_zero hle.symm)
    have hi : its.toArray.isEmpty = false := by
      cases its with
      | nil => exact absurd rfl hn
      | cons a b => rfl
    refine wpAny_binaryOp_repeat_ref (T := "tuple") (U := "int") (by decide) ⟨_, ho, rfl⟩ (fun s' => typeIs_int s' 0 t) noFill_tuple_mul F.fills_int_mul F.slot_int_rmul repeat_tuple F.slot_int_index.lookup
      (call_meets F.slot_int_rmul (typeIs_int s 0 t) F.entry_int_rmul (F.args_int_rmul_2 _ _) (int_rmul_tuple 0 t l its.toArray n dd sl)
        ⟨ho, rfl, ⟨_, ho, rfl⟩, call_meets F.slot_tuple_mul ⟨_, ho, rfl⟩ F.entry_tuple_mul (F.args_tuple_mul_2 _ _) (tuple_mul0 l its.toArray n dd sl t hi) ⟨ho, ?_⟩⟩)
    refine ⟨.ref s.heap.objs.size, _, I.laid (t' := s.toks) (o := .tup []) (fun b ob q => Heap.get?_push_of_some _ q) (Nat.le_refl _) ?_, rfl, q _ (I.hok.fresh (Nat.le_refl _))⟩
    exact ⟨by rw [sizeLine_eq]; decide, [], .nil, IsTup.new _ _⟩
  · refine wpAny_binaryOp_repeat_ref (T := "tuple") (U := "int") (by decide) ⟨_, ho, rfl⟩ (fun s' => typeIs_int s' 1 t) noFill_tuple_mul F.fills_int_mul F.slot_int_rmul repeat_tuple F.slot_int_index.lookup
      (call_meets F.slot_int_rmul (typeIs_int s 1 t) F.entry_int_rmul (F.args_int_rmul_2 _ _) (int_rmul_tuple 1 t l its.toArray n dd sl)
        ⟨ho, rfl, ⟨_, ho, rfl⟩, call_meets F.slot_tuple_mul ⟨_, ho, rfl⟩ F.entry_tuple_mul (F.args_tuple_mul_2 _ _) (tuple_mul1 l its.toArray n dd sl t) ⟨ho, ?_⟩⟩)
    exact ⟨.ref l, _, I, rfl, q⟩) ?_
  walk_at "hu"
end
end L2
namespace Dl
open PySem L2
def ktD : PyData → D
  | .tuple xs => .kt (.tuple xs)
  | x => .d x
def flatS : PyData → Bool
  | .list _ => false
  | _ => true
theorem dp_empty {K : PySem.W.Frag} {H : Vw} {v : V} {d : PyData} (h : Dp K (fun _ => none) v d) (hf : flatS d = true) : Rp K H (ktD d) v := by
  refine @Hush.hu _ (by
  cases h with
  | non => exact .non
  | bl b => exact .bl b
  | int i => exact .int i
  | str x => exact .str x
  | lst _ _ => cases hf
  | tup h1 h2 => exact .tup h1 h2) ?_
  walk_at "hu"
theorem dpa_empty {K : PySem.W.Frag} {H : Vw} : ∀ {vs : List V} {ds : List PyData}, DpAll K (fun _ => none) vs ds → ds.all flatS = true → RpL K H (ds.map ktD) vs
  | _, _, .nil, _ => .nil
  | _, _, .cons h t, e => by
    rw [List.all_cons, Bool.and_eq_true] at e
    exact .cons (dp_empty h e.1) (dpa_empty t e.2)
theorem none_sub {H : Hp} : Same (fun _ => none) H := by
  refine Hush.hu (fun _ _ e => by cases e) ?_
  walk_at "hu"
mutual
theorem dpp_same {K : PySem.W.Frag} {H H' : Hp} (e : Same H H') : ∀ {v : V} {d : PyData}, Dp K H v d → Dp K H' v d
  | _, _, .non => .non
  | _, _, .bl b => .bl b
  | _, _, .int i => .int i
  | _, _, .str x => .str x
  | _, _, .lst h t => .lst (sql_same e h) (dppa_same e t)
  | _, _, .tup h t => .tup (sqt_same e h) (dppa_same e t)
theorem dppa_same {K : PySem.W.Frag} {H H' : Hp} (e : Same H H') : ∀ {v : List V} {d : List PyData}, DpAll K H v d → DpAll K H' v d
  | _, _, .nil => .nil
  | _, _, .cons h t => .cons (dpp_same e h) (dppa_same e t)
end
mutual
def wd : D → Option PyData
  | .d x => some x
  | .kt x => some x
  | .tp ds => (wdL ds).map PyData.tuple
  | .ls ds => (wdL ds).map PyData.list
  | _ => none
def wdL : List D → Option (List PyData)
  | [] => some []
  | d :: ds => (wd d).bind fun x => (wdL ds).map (x :: ·)
end
mutual
theorem rp_wd {K : PySem.W.Frag} {H : Vw} : ∀ {d : D} {v : V} {x : PyData}, Rp K H d v → wd d = some x → Dp K H.h v x
  | .d y, v, x, r, e => by
    have e : some y = some x := e
    cases e
    exact dq_dp r
  | .kt y, v, x, r, e => by
    have e : some y = some x := e
    cases e
    exact dpp_same none_sub r
  | .tp ds, v, x, r, e => by
    obtain ⟨a, xs, rfl, h1, h2⟩ := r
    unfold wd at e
    cases q : wdL ds with
    | none => rw [q] at e; cases e
    | some ys =>
      rw [q] at e
      cases e
      exact .tup (SqT.of h1) (rpa_wd h2 q)
  | .ls ds, v, x, r, e => by
    obtain ⟨a, xs, rfl, h1, h2⟩ := r
    unfold wd at e
    cases q : wdL ds with
    | none => rw [q] at e; cases e
    | some ys =>
      rw [q] at e
      cases e
      exact .lst (SqL.of h1) (rpa_wd h2 q)
  | .o _, _, _, _, e => by unfold wd at e; cases e
  | .ob _, _, _, _, e => by unfold wd at e; cases e
  | .r _ _, _, _, _, e => by unfold wd at e; cases e
  | .cl _, _, _, _, e => by unfold wd at e; cases e
  | .xn _ _, _, _, _, e => by unfold wd at e; cases e
  | .sc _, _, _, _, e => by unfold wd at e; cases e
  | .un, _, _, _, e => by unfold wd at e; cases e
theorem rpa_wd {K : PySem.W.Frag} {H : Vw} : ∀ {ds : List D} {vs : List V} {xs : List PyData}, RpA K H ds vs → wdL ds = some xs → DpAll K H.h vs xs
  | [], vs, xs, r, e => by
    have r : vs = [] := r
    subst r
    unfold wdL at e
    cases e
    exact .nil
  | d :: ds, vs, xs, r, e => by
    obtain ⟨v, us, rfl, h1, h2⟩ := r
    unfold wdL at e
    cases q1 : wd d with
    | none => rw [q1] at e; cases e
    | some x =>
      rw [q1] at e
      simp only [Option.bind_some] at e
      cases q2 : wdL ds with
      | none => rw [q2] at e; cases e
      | some ys =>
        rw [q2] at e
        cases e
        exact .cons (rp_wd h1 q1) (rpa_wd h2 q2)
end
def tpD (ds : List D) : D := match pdL ds with
  | some xs => .d (.tuple xs)
  | none => .tp ds
def lsD (ds : List D) : D := match pdL ds with
  | some xs => .d (.list xs)
  | none => .ls ds
theorem rp_tpD {K : PySem.W.Frag} {H : Vw} {a : Addr} {vs : List V} {ds : List D} (h : H.h a = some (.tup vs)) (r : RpL K H ds vs) : Rp K H (tpD ds) (.ref a) := by
  refine @Hush.hu _ (by
  unfold tpD
  split
  · rename_i xs q
    exact .tup h (rpl_pd r q)
  · exact ⟨a, vs, rfl, h, rpa_of r⟩) ?_
  walk_at "hu"
theorem rp_lsD {K : PySem.W.Frag} {H : Vw} {a : Addr} {vs : List V} {ds : List D} (h : H.h a = some (.lst vs)) (r : RpL K H ds vs) : Rp K H (lsD ds) (.ref a) := by
  refine @Hush.hu _ (by
  unfold lsD
  split
  · rename_i xs q
    exact .lst h (rpl_pd r q)
  · exact ⟨a, vs, rfl, h, rpa_of r⟩) ?_
  walk_at "hu"
def dsT : D → Option (List D)
  | .d (.tuple xs) => some (xs.map D.d)
  | .tp ds => some ds
  | _ => none
def dsL : D → Option (List D)
  | .d (.list xs) => some (xs.map D.d)
  | .ls ds => some ds
  | _ => none
theorem rp_dsT {K : PySem.W.Frag} {H : Vw} {d : D} {v : V} {ds : List D} (r : Rp K H d v) (e : dsT d = some ds) : ∃ a vs, v = .ref a ∧ H.h a = some (.tup vs) ∧ RpL K H ds vs := by
  refine @Hush.hu _ (by
  unfold dsT at e
  split at e
  · cases e
    cases r with
    | tup h1 h2 => exact ⟨_, _, rfl, h1, rpl_of h2⟩
  · cases e
    obtain ⟨a, vs, rfl, h1, h2⟩ := r
    exact ⟨a, vs, rfl, h1, rpl_ofA h2⟩
  · cases e) ?_
  walk_at "hu"
theorem rp_dsL {K : PySem.W.Frag} {H : Vw} {d : D} {v : V} {ds : List D} (r : Rp K H d v) (e : dsL d = some ds) : ∃ a vs, v = .ref a ∧ H.h a = some (.lst vs) ∧ RpL K H ds vs := by
  refine @Hush.hu _ (by
  unfold dsL at e
  split at e
  · cases e
    cases r with
    | lst h1 h2 => exact ⟨_, _, rfl, h1, rpl_of h2⟩
  · cases e
    obtain ⟨a, vs, rfl, h1, h2⟩ := r
    exact ⟨a, vs, rfl, h1, rpl_ofA h2⟩
  · cases e) ?_
  walk_at "hu"
section
variable {I : SI} {K : PySem.W.Frag} {s : St1} {H : Hp} {Q : VK}
theorem newTD (ok : I.ok K s H) {xs : List V} {ds : List D} (k : ∀ v H', Po I K s H s H' → Rp K (Hr I s H') (tpD ds) v → Q v H') (h : RpL K (Hr I s H) ds xs) (p : Addr) (hp : H p = none) : Q (.ref p) (upd H p (.tup xs)) := by
  refine Hush.hu (k _ _ (Po.up ok (same_new hp)) (rp_tpD (hr_new ok hp) (rpl_same (hr_same_new ok hp) h))) ?_
  walk_at "hu"
theorem newLD (ok : I.ok K s H) {xs : List V} {ds : List D} (k : ∀ v H', Po I K s H s H' → Rp K (Hr I s H') (lsD ds) v → Q v H') (h : RpL K (Hr I s H) ds xs) (p : Addr) (hp : H p = none) : Q (.ref p) (upd H p (.lst xs)) := by
  refine Hush.hu (k _ _ (Po.up ok (same_new hp)) (rp_lsD (hr_new ok hp) (rpl_same (hr_same_new ok hp) h))) ?_
  walk_at "hu"
end
theorem opr_or {X : Cx} {f : Value → Value → Sem Value} {r r' : R2} (h : OpR X f r) (h' : OpR X f r') : OpR X f (fun x y H Q => r x y H Q ∨ r' x y H Q) := by
  refine @Hush.hu _ (by
  intro pins s σ H x y v u Q I rx ry q
  rcases q with q | q
  · exact h pins s σ H x y v u Q I rx ry q
  · exact h' pins s σ H x y v u Q I rx ry q) ?_
  walk_at "hu"
theorem opK {X : Cx} {K : PySem.W.Frag} {f : Value → Value → Sem Value} (r : PySem.W.Frag → R2) (e : X.K = K) (h : OpR X f (r X.K)) : OpR X f (r K) := by
  refine @Hush.hu _ (by rw [← e]; exact h) ?_
  walk_at "hu"
theorem ixK {X : Cx} {K : PySem.W.Frag} (r : PySem.W.Frag → R2) (e : X.K = K) (h : IxR X (r X.K)) : IxR X (r K) := by
  refine @Hush.hu _ (by rw [← e]; exact h) ?_
  walk_at "hu"
theorem slK {X : Cx} {K : PySem.W.Frag} (r : PySem.W.Frag → V → Option Int → Option Int → Hp → VK → Prop) (e : X.K = K) (h : SlR X (r X.K)) : SlR X (r K) := by
  refine @Hush.hu _ (by rw [← e]; exact h) ?_
  walk_at "hu"
theorem clK {X : Cx} {K : PySem.W.Frag} {f : Value} (r : PySem.W.Frag → List V → Hp → VK → Prop) (e : X.K = K) (h : CallR X f (r X.K)) : CallR X f (r K) := by
  refine @Hush.hu _ (by rw [← e]; exact h) ?_
  walk_at "hu"
def rLenK (K : PySem.W.Frag) : List V → Hp → VK → Prop := fun xs H Q => ∃ x n, xs = [x] ∧ LenV K x H n ∧ Q (.int n) H
def rTupK (K : PySem.W.Frag) : List V → Hp → VK → Prop := fun xs H Q => ∃ p ys, xs = [.ref p] ∧ ((SqL K H p ys ∧ ∀ l, H l = none → Q (.ref l) (upd H l (.tup ys))) ∨ (SqT K H p ys ∧ Q (.ref p) H))
def rLstK (K : PySem.W.Frag) : List V → Hp → VK → Prop := fun xs H Q => ∃ p ys, xs = [.ref p] ∧ (SqL K H p ys ∨ SqT K H p ys) ∧ ∀ l, H l = none → Q (.ref l) (upd H l (.lst ys))
section
variable {cb : Bool} {ι : Type} {P : Program} {w : World} {K : PySem.W.Frag} {mg : Str → Option Value} {base : Heap} {k : Nat} {N : List Str} {F : ι → Cx}
abbrev i2 (f : Int → Int → PyData) : D → D → Option D
  | .d (.int i), .d (.int j) => some (.d (f i j))
  | _, _ => none
def fAdd : D → D → Option D
  | .d (.int i), .d (.int j) => some (.d (.int (i + j)))
  | .d (.str a), .d (.str b) => if a.length + b.length ≤ 100000 then some (.d (.str (a ++ b))) else none
  | .d (.list a), .d (.list b) => if a.length + b.length ≤ 100000 then some (.d (.list (a ++ b))) else none
  | .d (.tuple a), .d (.tuple b) => if a.length + b.length ≤ 100000 then some (.d (.tuple (a ++ b))) else none
  | .ls a, .ls b => if a.length + b.length ≤ 100000 then some (.ls (a ++ b)) else none
  | x, y => match dsT x, dsT y with
    | some a, some b => if a.length + b.length ≤ 100000 then some (tpD (a ++ b)) else none
    | _, _ => match dsL x, dsL y with
      | some a, some b => if a.length + b.length ≤ 100000 then some (lsD (a ++ b)) else none
      | _, _ => none
theorem dqa_len {K : PySem.W.Frag} {H : Hp} : ∀ {vs : List V} {ds : List PyData}, DqA K H vs ds → vs.length = ds.length
  | _, _, .nil => rfl
  | _, _, .cons _ t => by rw [List.length_cons, List.length_cons, dqa_len t]
theorem dqa_nil {K : PySem.W.Frag} {H : Hp} {ds : List PyData} (h : DqA K H [] ds) : ds = [] := by
  refine @Hush.hu _ (by cases h; rfl) ?_
  walk_at "hu"
theorem o_add (W : FmC cb P w K mg base k N F) : ∃ r, (∀ i, OpR (F i) (binaryOp .Add) r) ∧ OpD K r fAdd := by
  refine @Hush.hu _ (by
  refine ⟨_, fun i => opr_or op_add (opr_or op_add_str (opr_or op_cat (opK rCatA (W.K i) op_catA))), fun I s H x y z a b Q ok rx ry e kk => ?_⟩
  unfold fAdd at e
  split at e
  · cases e; cases rx; cases ry
    exact .inl ⟨_, _, rfl, rfl, here ok kk (.int _)⟩
  · rename_i i j
    by_cases c : i.length + j.length ≤ 100000
    · rw [if_pos c] at e
      cases e; cases rx; cases ry
      exact .inr (.inl ⟨_, _, rfl, rfl, sz c, here ok kk (.str _)⟩)
    · rw [if_neg c] at e; cases e
  · rename_i i j
    by_cases c : i.length + j.length ≤ 100000
    · rw [if_pos c] at e
      cases e
      cases rx with
      | lst h1 h2 =>
        cases ry with
        | lst h3 h4 =>
          refine .inr (.inr (.inl ⟨_, _, _, _, rfl, rfl, hr_sub _ _ h1, hr_sub _ _ h3, by rw [dqa_len h2, dqa_len h4]; exact sz c, newL ok kk (dpa_app h2 h4)⟩))
    · rw [if_neg c] at e; cases e
  · rename_i i j
    by_cases c : i.length + j.length ≤ 100000
    · rw [if_pos c] at e
      cases e
      cases rx with
      | tup h1 h2 =>
        cases ry with
        | tup h3 h4 =>
          refine .inr (.inr (.inr ⟨_, _, _, _, rfl, rfl, SqT.of (hr_sub _ _ h1), SqT.of (hr_sub _ _ h3), by rw [dqa_len h2, dqa_len h4]; exact sz c, fun q => ?_, fun q1 q2 => ?_, fun q1 q2 => newT ok kk (dpa_app h2 h4)⟩))
          · subst q
            have := dqa_nil h2
            subst this
            exact here ok kk (.tup h3 h4)
          · subst q2
            have := dqa_nil h4
            subst this
            rw [List.append_nil] at kk
            exact here ok kk (.tup h1 h2)
    · rw [if_neg c] at e; cases e
  · rename_i i j
    by_cases c : i.length + j.length ≤ 100000
    · rw [if_pos c] at e
      cases e
      obtain ⟨p1, xs1, rfl, h1, h2⟩ := rx
      obtain ⟨p2, xs2, rfl, h3, h4⟩ := ry
      have g2 := rpl_ofA h2
      have g4 := rpl_ofA h4
      refine .inr (.inr (.inl ⟨_, _, _, _, rfl, rfl, hr_sub _ _ h1, hr_sub _ _ h3, by rw [rpl_len g2, rpl_len g4]; exact sz c, newLS ok kk (rpl_app g2 g4)⟩))
    · rw [if_neg c] at e; cases e
  · split at e
    · rename_i i j q1 q2
      by_cases c : i.length + j.length ≤ 100000
      · rw [if_pos c] at e
        cases e
        obtain ⟨p1, xs1, rfl, h1, h2⟩ := rp_dsT rx q1
        obtain ⟨p2, xs2, rfl, h3, h4⟩ := rp_dsT ry q2
        refine .inr (.inr (.inr ⟨_, _, _, _, rfl, rfl, SqT.of (hr_sub _ _ h1), SqT.of (hr_sub _ _ h3), by rw [rpl_len h2, rpl_len h4]; exact sz c, fun q => ?_, fun q1 q2 => ?_, fun q1 q2 => newTD ok kk (rpl_app h2 h4)⟩))
        · subst q
          cases h2
          exact here ok kk (rp_tpD h3 h4)
        · subst q2
          cases h4
          rw [List.append_nil] at kk
          exact here ok kk (rp_tpD h1 h2)
      · rw [if_neg c] at e; cases e
    · split at e
      · rename_i i j q1 q2
        by_cases c : i.length + j.length ≤ 100000
        · rw [if_pos c] at e
          cases e
          obtain ⟨p1, xs1, rfl, h1, h2⟩ := rp_dsL rx q1
          obtain ⟨p2, xs2, rfl, h3, h4⟩ := rp_dsL ry q2
          refine .inr (.inr (.inl ⟨_, _, _, _, rfl, rfl, hr_sub _ _ h1, hr_sub _ _ h3, by rw [rpl_len h2, rpl_len h4]; exact sz c, newLD ok kk (rpl_app h2 h4)⟩))
        · rw [if_neg c] at e; cases e
      · cases e) ?_
  walk_at "hu"
def fSub : D → D → Option D := i2 fun i j => .int (i - j)
theorem o_sub (W : FmC cb P w K mg base k N F) : ∃ r, (∀ i, OpR (F i) (binaryOp .Sub) r) ∧ OpD K r fSub := by
  refine Hush.hu (⟨_, fun i => op_sub, fun I s H x y z a b Q ok rx ry e kk => by
  unfold fSub i2 at e
  split at e
  · cases e; cases rx; cases ry
    exact ⟨_, _, rfl, rfl, here ok kk (.int _)⟩
  · cases e⟩) ?_
  walk_at "hu"
def fMod : D → D → Option D
  | .d (.int i), .d (.int j) => if j = 0 then none else some (.d (.int (i.fmod j)))
  | _, _ => none
theorem o_mod (W : FmC cb P w K mg base k N F) : ∃ r, (∀ i, OpR (F i) (binaryOp .Mod) r) ∧ OpD K r fMod := by
  refine Hush.hu (⟨_, fun i => op_modN, fun I s H x y z a b Q ok rx ry e kk => by
  unfold fMod at e
  split at e
  · rename_i i j
    by_cases c : j = 0
    · rw [if_pos c] at e; cases e
    · rw [if_neg c] at e
      cases e; cases rx; cases ry
      exact ⟨_, _, rfl, rfl, c, here ok kk (.int _)⟩
  · cases e⟩) ?_
  walk_at "hu"
def fDiv : D → D → Option D
  | .d (.int i), .d (.int j) => if j ≠ 0 ∧ j.natAbs < 1073741824 then some (.d (.int (i.fdiv j))) else none
  | _, _ => none
theorem o_div (W : FmC cb P w K mg base k N F) : ∃ r, (∀ i, OpR (F i) (binaryOp .FloorDiv) r) ∧ OpD K r fDiv := by
  refine Hush.hu (⟨_, fun i => op_fdivN, fun I s H x y z a b Q ok rx ry e kk => by
  unfold fDiv at e
  split at e
  · rename_i i j
    by_cases c : j ≠ 0 ∧ j.natAbs < 1073741824
    · rw [if_pos c] at e
      cases e; cases rx; cases ry
      exact ⟨_, _, rfl, rfl, c, here ok kk (.int _)⟩
    · rw [if_neg c] at e; cases e
  · cases e⟩) ?_
  walk_at "hu"
def fPow : D → D → Option D
  | .d (.int i), .d (.int j) => if 0 ≤ j ∧ j ≤ 1000000 ∧ i.natAbs < 2 ^ 64 then some (.d (.int (i ^ j.toNat))) else none
  | _, _ => none
theorem o_pow (W : FmC cb P w K mg base k N F) : ∃ r, (∀ i, OpR (F i) (binaryOp .Pow) r) ∧ OpD K r fPow := by
  refine Hush.hu (⟨_, fun i => op_pow, fun I s H x y z a b Q ok rx ry e kk => by
  unfold fPow at e
  split at e
  · rename_i i j
    by_cases c : 0 ≤ j ∧ j ≤ 1000000 ∧ i.natAbs < 2 ^ 64
    · rw [if_pos c] at e
      cases e; cases rx; cases ry
      exact ⟨_, _, rfl, rfl, c, here ok kk (.int _)⟩
    · rw [if_neg c] at e; cases e
  · cases e⟩) ?_
  walk_at "hu"
def fMul : D → D → Option D
  | .d (.int i), .d (.int j) => if (-(2 ^ 64) < i ∧ i < 2 ^ 64) ∨ (-(2 ^ 64) < j ∧ j < 2 ^ 64) then some (.d (.int (i * j))) else none
  | .d (.list a), .d (.int j) => if -(2 ^ 63) ≤ j ∧ j < 2 ^ 63 ∧ a.length * j.toNat ≤ 100000 then some (.d (.list (List.replicate j.toNat a).flatten)) else none
  | .d (.tuple a), .d (.int j) => if a ≠ [] ∧ 2 ≤ j ∧ j ≤ 1000 ∧ a.length ≤ 1000 then some (.d (.tuple (List.replicate j.toNat a).flatten)) else if a ≠ [] ∧ j = 0 then some (.d (.tuple [])) else if j = 1 then some (.d (.tuple a)) else none
  | _, _ => none
theorem dqa_rep {K : PySem.W.Frag} {H : Hp} {vs : List V} {ds : List PyData} (h : DqA K H vs ds) : ∀ n : Nat, DqA K H (List.replicate n vs).flatten (List.replicate n ds).flatten
  | 0 => .nil
  | n + 1 => by
    rw [List.replicate_succ, List.replicate_succ, List.flatten_cons, List.flatten_cons]
    exact dpa_app h (dqa_rep h n)
theorem o_mul (W : FmC cb P w K mg base k N F) : ∃ r, (∀ i, OpR (F i) (binaryOp .Mult) r) ∧ OpD K r fMul := by
  refine @Hush.hu _ (by
  refine ⟨_, fun i => opr_or op_mul (opr_or op_rep (opr_or (opK rRepT (W.K i) op_repT) (opK rRep0 (W.K i) op_rep0))), fun I s H x y z a b Q ok rx ry e kk => ?_⟩
  unfold fMul at e
  split at e
  · rename_i i j
    by_cases c : (-(2 ^ 64) < i ∧ i < 2 ^ 64) ∨ (-(2 ^ 64) < j ∧ j < 2 ^ 64)
    · rw [if_pos c] at e
      cases e; cases rx; cases ry
      exact .inl ⟨_, _, rfl, rfl, c, here ok kk (.int _)⟩
    · rw [if_neg c] at e; cases e
  · rename_i i j
    by_cases c : -(2 ^ 63) ≤ j ∧ j < 2 ^ 63 ∧ i.length * j.toNat ≤ 100000
    · rw [if_pos c] at e
      cases e
      cases rx with
      | lst h1 h2 =>
        cases ry
        exact .inr (.inl ⟨_, _, _, rfl, rfl, hr_sub _ _ h1, c.1, c.2.1, by rw [dqa_len h2]; exact sz c.2.2, newL ok kk (dqa_rep h2 _)⟩)
    · rw [if_neg c] at e; cases e
  · rename_i i j
    by_cases c : i ≠ [] ∧ 2 ≤ j ∧ j ≤ 1000 ∧ i.length ≤ 1000
    · rw [if_pos c] at e
      cases e
      cases rx with
      | tup h1 h2 =>
        cases ry
        exact .inr (.inr (.inl ⟨_, _, _, rfl, rfl, SqT.of (hr_sub _ _ h1), fun q => c.1 (by subst q; exact dqa_nil h2), c.2.1, c.2.2.1, by rw [dqa_len h2]; exact c.2.2.2, newT ok kk (dqa_rep h2 _)⟩))
    · rw [if_neg c] at e
      by_cases c0 : i ≠ [] ∧ j = 0
      · rw [if_pos c0] at e
        cases e
        cases rx with
        | tup h1 h2 =>
          cases ry
          exact .inr (.inr (.inr ⟨_, _, _, rfl, rfl, SqT.of (hr_sub _ _ h1), .inl ⟨c0.2, fun q => c0.1 (by subst q; exact dqa_nil h2), newT ok kk .nil⟩⟩))
      · rw [if_neg c0] at e
        by_cases c1 : j = 1
        · rw [if_pos c1] at e
          cases e
          cases rx with
          | tup h1 h2 =>
            cases ry
            exact .inr (.inr (.inr ⟨_, _, _, rfl, rfl, SqT.of (hr_sub _ _ h1), .inr ⟨c1, here ok kk (.tup h1 h2)⟩⟩))
        · rw [if_neg c1] at e; cases e
  · cases e) ?_
  walk_at "hu"
def fLe : D → D → Option D := i2 fun i j => .bool (decide (i ≤ j))
def fGt : D → D → Option D := i2 fun i j => .bool (decide (j < i))
def fGe : D → D → Option D := i2 fun i j => .bool (decide (j ≤ i))
theorem o_i2 {op : CmpOp} {f : Int → Int → Bool} (h : ∀ i, OpR (F i) (compareOp op) (rI0 fun i j => .bl (f i j))) : ∃ r, (∀ i, OpR (F i) (compareOp op) r) ∧ OpD K r (i2 fun i j => .bool (f i j)) := by
  refine Hush.hu (⟨_, h, fun I s H x y z a b Q ok rx ry e kk => by
  unfold i2 at e
  split at e
  · cases e; cases rx; cases ry
    exact ⟨_, _, rfl, rfl, here ok kk (.bl _)⟩
  · cases e⟩) ?_
  walk_at "hu"
theorem o_le (W : FmC cb P w K mg base k N F) : ∃ r, (∀ i, OpR (F i) (compareOp .LtE) r) ∧ OpD K r fLe := by
  refine Hush.hu (o_i2 fun _ => op_le) ?_
  walk_at "hu"
theorem o_gt (W : FmC cb P w K mg base k N F) : ∃ r, (∀ i, OpR (F i) (compareOp .Gt) r) ∧ OpD K r fGt := by
  refine Hush.hu (o_i2 fun _ => op_gt) ?_
  walk_at "hu"
theorem o_ge (W : FmC cb P w K mg base k N F) : ∃ r, (∀ i, OpR (F i) (compareOp .GtE) r) ∧ OpD K r fGe := by
  refine Hush.hu (o_i2 fun _ => op_ge) ?_
  walk_at "hu"
def fEq : D → D → Option D
  | .d a, .d b => if SeqAt.shaped a = true ∧ SeqAt.shaped b = true then some (.d (.bool (PyData.eqv a b))) else none
  | x, y => match wd x, wd y with
    | some a, some b => if SeqAt.shaped a = true ∧ SeqAt.shaped b = true then some (.d (.bool (PyData.eqv a b))) else none
    | _, _ => none
def fNe : D → D → Option D
  | .d a, .d b => if SeqAt.shaped a = true ∧ SeqAt.shaped b = true then some (.d (.bool (!PyData.eqv a b))) else none
  | x, y => match wd x, wd y with
    | some a, some b => if SeqAt.shaped a = true ∧ SeqAt.shaped b = true then some (.d (.bool (!PyData.eqv a b))) else none
    | _, _ => none
theorem o_eq (W : FmC cb P w K mg base k N F) : ∃ r, (∀ i, OpR (F i) (compareOp .Eq) r) ∧ OpD K r fEq := by
  refine @Hush.hu _ (by
  refine ⟨_, fun i => opK rEqD (W.K i) (op_eqD (by have := W.units i; omega)), fun I s H x y z a b Q ok rx ry e kk => ?_⟩
  unfold fEq at e
  split at e
  · rename_i i j
    by_cases c : SeqAt.shaped i = true ∧ SeqAt.shaped j = true
    · rw [if_pos c] at e
      cases e
      exact ⟨_, _, dq_dp (dp_same hr_sub rx), dq_dp (dp_same hr_sub ry), c.1, c.2, here ok kk (.bl _)⟩
    · rw [if_neg c] at e; cases e
  · split at e
    · rename_i i j q1 q2
      by_cases c : SeqAt.shaped i = true ∧ SeqAt.shaped j = true
      · rw [if_pos c] at e
        cases e
        exact ⟨_, _, dpp_same hr_sub (rp_wd rx q1), dpp_same hr_sub (rp_wd ry q2), c.1, c.2, here ok kk (.bl _)⟩
      · rw [if_neg c] at e; cases e
    · cases e) ?_
  walk_at "hu"
theorem o_ne (W : FmC cb P w K mg base k N F) : ∃ r, (∀ i, OpR (F i) (compareOp .NotEq) r) ∧ OpD K r fNe := by
  refine @Hush.hu _ (by
  refine ⟨_, fun i => opK rNeD (W.K i) (op_neD (by have := W.units i; omega)), fun I s H x y z a b Q ok rx ry e kk => ?_⟩
  unfold fNe at e
  split at e
  · rename_i i j
    by_cases c : SeqAt.shaped i = true ∧ SeqAt.shaped j = true
    · rw [if_pos c] at e
      cases e
      exact ⟨_, _, dq_dp (dp_same hr_sub rx), dq_dp (dp_same hr_sub ry), c.1, c.2, here ok kk (.bl _)⟩
    · rw [if_neg c] at e; cases e
  · split at e
    · rename_i i j q1 q2
      by_cases c : SeqAt.shaped i = true ∧ SeqAt.shaped j = true
      · rw [if_pos c] at e
        cases e
        exact ⟨_, _, dpp_same hr_sub (rp_wd rx q1), dpp_same hr_sub (rp_wd ry q2), c.1, c.2, here ok kk (.bl _)⟩
      · rw [if_neg c] at e; cases e
    · cases e) ?_
  walk_at "hu"
def rInS (K : PySem.W.Frag) (neg : Bool) : R2 := fun x y H Q => ∃ d ds, Dp K H x d ∧ (Dp K H y (.list ds) ∨ Dp K H y (.tuple ds)) ∧ SeqAt.shaped d = true ∧ SeqAt.shaped (.list ds) = true ∧ Q (.bl (if neg = true then !(ds.any fun z => PyData.eqv z d) else ds.any fun z => PyData.eqv z d)) H
theorem op_inS {X : Cx} (hu : X.A.units + 65 < cLine) : OpR X (compareOp .In) (rInS X.K false) := by
  refine @Hush.hu _ (by
  intro pins s σ H x y v u Q I rx ry h
  obtain ⟨d, ds, hd, he, sd, se, q⟩ := h
  obtain ⟨as, r1⟩ := Dp.reads I d x v hd rx
  rcases he with he | he
  · obtain ⟨bs, r2⟩ := Dp.reads I (.list ds) y u he ry
    exact SeqAt.in_list_reads r2 r1 (SeqAt.canLay_of_shaped se) (SeqAt.canLay_of_shaped sd) (PyProof.Rows.room_in_shaped sd hu) ⟨.bl _, H, I, rfl, q⟩
  · obtain ⟨bs, r2⟩ := Dp.reads I (.tuple ds) y u he ry
    exact SeqAt.in_tuple_reads r2 r1 (SeqAt.canLay_of_shaped (d := .list ds) se) (SeqAt.canLay_of_shaped sd) (PyProof.Rows.room_in_shaped sd hu) ⟨.bl _, H, I, rfl, q⟩) ?_
  walk_at "hu"
theorem op_ninS {X : Cx} (hu : X.A.units + 65 < cLine) : OpR X (compareOp .NotIn) (rInS X.K true) := by
  refine @Hush.hu _ (by
  intro pins s σ H x y v u Q I rx ry h
  obtain ⟨d, ds, hd, he, sd, se, q⟩ := h
  obtain ⟨as, r1⟩ := Dp.reads I d x v hd rx
  rcases he with he | he
  · obtain ⟨bs, r2⟩ := Dp.reads I (.list ds) y u he ry
    exact SeqAt.notIn_list_reads r2 r1 (SeqAt.canLay_of_shaped se) (SeqAt.canLay_of_shaped sd) (PyProof.Rows.room_in_shaped sd hu) ⟨.bl _, H, I, rfl, q⟩
  · obtain ⟨bs, r2⟩ := Dp.reads I (.tuple ds) y u he ry
    exact SeqAt.notIn_tuple_reads r2 r1 (SeqAt.canLay_of_shaped (d := .list ds) se) (SeqAt.canLay_of_shaped sd) (PyProof.Rows.room_in_shaped sd hu) ⟨.bl _, H, I, rfl, q⟩) ?_
  walk_at "hu"
def isSeq : D → Option (List PyData)
  | .d (.list ds) => some ds
  | .d (.tuple ds) => some ds
  | .kt (.tuple ds) => some ds
  | .tp ds => wdL ds
  | .ls ds => wdL ds
  | _ => none
def fIn (neg : Bool) : D → D → Option D
  | .d d, y => match isSeq y with
    | some ds => if SeqAt.shaped d = true ∧ SeqAt.shaped (.list ds) = true then some (.d (.bool (if neg = true then !(ds.any fun z => PyData.eqv z d) else ds.any fun z => PyData.eqv z d))) else none
    | none => none
  | x, y => match wd x, isSeq y with
    | some d, some ds => if SeqAt.shaped d = true ∧ SeqAt.shaped (.list ds) = true then some (.d (.bool (if neg = true then !(ds.any fun z => PyData.eqv z d) else ds.any fun z => PyData.eqv z d))) else none
    | _, _ => none
theorem isSeq_dp {K : PySem.W.Frag} {H : Vw} {y : D} {b : V} {ds : List PyData} (ry : Rp K H y b) (hs : isSeq y = some ds) : Dp K H.h b (.list ds) ∨ Dp K H.h b (.tuple ds) := by
  refine @Hush.hu _ (by
  unfold isSeq at hs
  split at hs
  · cases hs; exact .inl (dq_dp ry)
  · cases hs; exact .inr (dq_dp ry)
  · cases hs; exact .inr (dpp_same none_sub ry)
  · obtain ⟨a, xs, rfl, h1, h2⟩ := ry
    exact .inr (.tup (SqT.of h1) (rpa_wd h2 hs))
  · obtain ⟨a, xs, rfl, h1, h2⟩ := ry
    exact .inl (.lst (SqL.of h1) (rpa_wd h2 hs))
  · cases hs) ?_
  walk_at "hu"
theorem od_in {neg : Bool} : OpD K (rInS K neg) (fIn neg) := by
  refine Hush.hu (fun I s H x y z a b Q ok rx ry e kk => by
  unfold fIn at e
  split at e
  · rename_i d
    split at e
    · rename_i ds hs
      by_cases c : SeqAt.shaped d = true ∧ SeqAt.shaped (.list ds) = true
      · rw [if_pos c] at e
        cases e
        exact ⟨d, ds, dq_dp (dp_same hr_sub rx), (isSeq_dp ry hs).imp (dpp_same hr_sub) (dpp_same hr_sub), c.1, c.2, here ok kk (.bl _)⟩
      · rw [if_neg c] at e; cases e
    · cases e
  · split at e
    · rename_i d ds hd hs
      by_cases c : SeqAt.shaped d = true ∧ SeqAt.shaped (.list ds) = true
      · rw [if_pos c] at e
        cases e
        exact ⟨d, ds, dpp_same hr_sub (rp_wd rx hd), (isSeq_dp ry hs).imp (dpp_same hr_sub) (dpp_same hr_sub), c.1, c.2, here ok kk (.bl _)⟩
      · rw [if_neg c] at e; cases e
    · cases e) ?_
  walk_at "hu"
theorem o_in (W : FmC cb P w K mg base k N F) : ∃ r, (∀ i, OpR (F i) (compareOp .In) r) ∧ OpD K r (fIn false) := by
  refine Hush.hu (⟨_, fun i => opK (fun K => rInS K false) (W.K i) (op_inS (by have := W.units i; omega)), od_in⟩) ?_
  walk_at "hu"
theorem o_nin (W : FmC cb P w K mg base k N F) : ∃ r, (∀ i, OpR (F i) (compareOp .NotIn) r) ∧ OpD K r (fIn true) := by
  refine Hush.hu (⟨_, fun i => opK (fun K => rInS K true) (W.K i) (op_ninS (by have := W.units i; omega)), od_in⟩) ?_
  walk_at "hu"
def isNon : D → Option Bool
  | .d .none => some true
  | .d _ => some false
  | .kt (.tuple _) => some false
  | .tp _ => some false
  | .ls _ => some false
  | .r _ _ => some false
  | _ => none
def fIs : D → D → Option D
  | x, .d .none => (isNon x).map fun b => .d (.bool b)
  | .d (.bool a), .d (.bool b) => some (.d (.bool (decide (a = b))))
  | _, _ => none
def fIsNot : D → D → Option D
  | x, .d .none => (isNon x).map fun b => .d (.bool (!b))
  | .d (.bool a), .d (.bool b) => some (.d (.bool (!decide (a = b))))
  | _, _ => none
theorem isNon_some {H : Vw} {d : D} {v : V} {b : Bool} (r : Rp K H d v) (e : isNon d = some b) : decide (v = V.non) = b := by
  refine @Hush.hu _ (by
  unfold isNon at e
  split at e
  · cases e; cases r; rfl
  · rename_i x hx
    cases x <;> first | exact absurd rfl hx | (cases e; cases r; done) | (cases e; cases r; exact decide_eq_false (fun z => by cases z))
  · cases e; cases r; exact decide_eq_false (fun z => by cases z)
  · cases e; obtain ⟨a, xs, rfl, _⟩ := r; exact decide_eq_false (fun z => by cases z)
  · cases e; obtain ⟨a, xs, rfl, _⟩ := r; exact decide_eq_false (fun z => by cases z)
  · cases e; obtain ⟨a, rfl, _⟩ := r; exact decide_eq_false (fun z => by cases z)
  · cases e) ?_
  walk_at "hu"
theorem o_is (W : FmC cb P w K mg base k N F) : ∃ r, (∀ i, OpR (F i) (compareOp .Is) r) ∧ OpD K r fIs := by
  refine @Hush.hu _ (by
  refine ⟨_, fun i => opr_or op_isN op_isBl, fun I s H x y z a b Q ok rx ry e kk => ?_⟩
  unfold fIs at e
  split at e
  · cases q : isNon x with
    | none => rw [q] at e; cases e
    | some c =>
      rw [q] at e
      cases e
      cases ry
      exact .inl ⟨rfl, by rw [isNon_some rx q]; exact here ok kk (.bl _)⟩
  · cases e; cases rx; cases ry
    exact .inr ⟨_, _, rfl, rfl, here ok kk (.bl _)⟩
  · cases e) ?_
  walk_at "hu"
def fIx : D → D → Option D
  | .kt (.tuple xs), .d (.int i) => (atI xs i).bind fun d => if flatS d = true then some (ktD d) else none
  | .d (.list xs), .d (.int i) => (atI xs i).map D.d
  | .d (.tuple xs), .d (.int i) => (atI xs i).map D.d
  | .d (.str z), .d (.int i) => if z.length ≤ 100000 then (atI z.cps.toList i).map fun c => .d (.str ⟨#[c]⟩) else none
  | .tp xs, .d (.int i) => atI xs i
  | .ls xs, .d (.int i) => atI xs i
  | .sc ns, .d (.int i) => (atI ns i).map fun z => .d (.int z)
  | _, _ => none
theorem rpl_at {H : Vw} {vs : List V} {ds : List D} {i : Int} {d : D} (h : RpL K H ds vs) (e : atI ds i = some d) : ∃ v, atI vs i = some v ∧ Rp K H d v := by
  refine @Hush.hu _ (by
  unfold atI at e ⊢
  rw [rpl_len h]
  cases q : ixN ds.length i with
  | none => rw [q] at e; cases e
  | some j => rw [q] at e; exact rpl_get h e) ?_
  walk_at "hu"
theorem map_at {α β : Type} {f : α → β} {xs : List α} {i : Int} {x : α} (e : atI xs i = some x) : atI (xs.map f) i = some (f x) := by
  refine @Hush.hu _ (by
  unfold atI at e ⊢
  rw [List.length_map]
  cases q : ixN xs.length i with
  | none => rw [q] at e; cases e
  | some j =>
    rw [q] at e
    show (xs.map f)[j]? = some (f x)
    rw [List.getElem?_map, show xs[j]? = some x from e]
    rfl) ?_
  walk_at "hu"
theorem dqa_at {H : Hp} {vs : List V} {ds : List PyData} {i : Int} {d : PyData} (h : DqA K H vs ds) (e : atI ds i = some d) : ∃ v, atI vs i = some v ∧ Dq K H v d := by
  refine @Hush.hu _ (by
  unfold atI at e ⊢
  rw [dqa_len h]
  cases q : ixN ds.length i with
  | none => rw [q] at e; cases e
  | some j =>
    rw [q] at e
    have e : ds[j]? = some d := e
    have hd : (ds.map D.d)[j]? = some (D.d d) := by rw [List.getElem?_map, e]; rfl
    obtain ⟨v, h1, h2⟩ := rpl_get (rpl_of (H := ⟨H, fun _ _ => none, fun _ _ => False, fun _ _ _ => False⟩) h) hd
    exact ⟨v, h1, h2⟩) ?_
  walk_at "hu"
theorem dpa_at {H : Hp} {vs : List V} {ds : List PyData} {i : Int} {d : PyData} (h : DpAll K H vs ds) (e : atI ds i = some d) : ∃ v, atI vs i = some v ∧ Dp K H v d := by
  refine @Hush.hu _ (by
  have hl : ∀ {vs : List V} {ds : List PyData}, DpAll K H vs ds → vs.length = ds.length := by
    intro vs ds h
    induction ds generalizing vs with
    | nil => cases h; rfl
    | cons d ds ih => cases h with
      | cons _ t => rw [List.length_cons, List.length_cons, ih t]
  have hg : ∀ {vs : List V} {ds : List PyData} {j : Nat} {d : PyData}, DpAll K H vs ds → ds[j]? = some d → ∃ v, vs[j]? = some v ∧ Dp K H v d := by
    intro vs ds j d h e
    induction ds generalizing vs j with
    | nil => simp at e
    | cons d' ds ih => cases h with
      | cons g t =>
        cases j with
        | zero => simp at e; subst e; exact ⟨_, rfl, g⟩
        | succ j =>
          obtain ⟨v, h1, h2⟩ := ih t (by simpa using e)
          exact ⟨v, by simpa using h1, h2⟩
  unfold atI at e ⊢
  rw [hl h]
  cases q : ixN ds.length i with
  | none => rw [q] at e; cases e
  | some j =>
    rw [q] at e
    exact hg h e) ?_
  walk_at "hu"
theorem o_ix (W : FmC cb P w K mg base k N F) : ∃ r, (∀ i, IxR (F i) r) ∧ OpD K r fIx := by
  refine @Hush.hu _ (by
  refine ⟨_, fun i => (ixK rIxL (W.K i) ix_list).or ((ixK rIxT (W.K i) ix_tup).or ix_str), fun I s H x y z a b Q ok rx ry e kk => ?_⟩
  unfold fIx at e
  split at e
  · rename_i xs i
    cases q : atI xs i with
    | none => rw [q] at e; cases e
    | some d =>
      rw [q] at e
      simp only [Option.bind_some] at e
      by_cases c : flatS d = true
      · rw [if_pos c] at e
        cases e
        cases rx with
        | tup h1 h2 =>
          cases ry
          obtain ⟨v, h3, h4⟩ := dpa_at h2 q
          exact .inr (.inl ⟨_, _, _, _, rfl, rfl, sqt_same none_sub h1, h3, here ok kk (dp_empty h4 c)⟩)
      · rw [if_neg c] at e; cases e
  · rename_i xs i
    cases q : atI xs i with
    | none => rw [q] at e; cases e
    | some d =>
      rw [q] at e
      cases e
      cases rx with
      | lst h1 h2 =>
        cases ry
        obtain ⟨v, h3, h4⟩ := dqa_at h2 q
        exact .inl ⟨_, _, _, _, rfl, rfl, sql_same hr_sub (SqL.of h1), h3, here ok kk h4⟩
  · rename_i xs i
    cases q : atI xs i with
    | none => rw [q] at e; cases e
    | some d =>
      rw [q] at e
      cases e
      cases rx with
      | tup h1 h2 =>
        cases ry
        obtain ⟨v, h3, h4⟩ := dqa_at h2 q
        exact .inr (.inl ⟨_, _, _, _, rfl, rfl, SqT.of (hr_sub _ _ h1), h3, here ok kk h4⟩)
  · rename_i z i
    by_cases c : z.length ≤ 100000
    · rw [if_pos c] at e
      cases q : atI z.cps.toList i with
      | none => rw [q] at e; cases e
      | some d =>
        rw [q] at e
        cases e
        cases rx; cases ry
        exact .inr (.inr ⟨_, _, _, rfl, rfl, sz c, q, here ok kk (.str _)⟩)
    · rw [if_neg c] at e; cases e
  · obtain ⟨a, xs, rfl, h1, h2⟩ := rx
    cases ry
    obtain ⟨v, h3, h4⟩ := rpl_at (rpl_ofA h2) e
    exact .inr (.inl ⟨_, _, _, _, rfl, rfl, SqT.of (hr_sub _ _ h1), h3, here ok kk h4⟩)
  · obtain ⟨a, xs, rfl, h1, h2⟩ := rx
    cases ry
    obtain ⟨v, h3, h4⟩ := rpl_at (rpl_ofA h2) e
    exact .inl ⟨_, _, _, _, rfl, rfl, sql_same hr_sub (SqL.of h1), h3, here ok kk h4⟩
  · rename_i ns i
    cases q : atI ns i with
    | none => rw [q] at e; cases e
    | some zz =>
      rw [q] at e
      cases e
      obtain ⟨a, rfl, h1, h2⟩ := rx
      cases ry
      exact .inl ⟨_, _, _, _, rfl, rfl, sql_same hr_sub h1, map_at q, here ok kk (.int zz)⟩
  · cases e) ?_
  walk_at "hu"
def cutD (xs : List PyData) (lo hi : Option Int) : List PyData := (xs.drop (HT.sIx xs.length 0 lo)).take (HT.sIx xs.length xs.length hi - HT.sIx xs.length 0 lo)
theorem dqa_drop {H : Hp} : ∀ {vs : List V} {ds : List PyData} (n : Nat), DqA K H vs ds → DqA K H (vs.drop n) (ds.drop n)
  | _, _, 0, r => r
  | _, _, _ + 1, .nil => .nil
  | _, _, n + 1, .cons _ t => dqa_drop n t
theorem dqa_take {H : Hp} : ∀ {vs : List V} {ds : List PyData} (n : Nat), DqA K H vs ds → DqA K H (vs.take n) (ds.take n)
  | _, _, 0, _ => .nil
  | _, _, _ + 1, .nil => .nil
  | _, _, n + 1, .cons r t => .cons r (dqa_take n t)
theorem dqa_cut {H : Hp} {vs : List V} {ds : List PyData} (lo hi : Option Int) (h : DqA K H vs ds) : DqA K H (cutV vs lo hi) (cutD ds lo hi) := by
  refine @Hush.hu _ (by
  unfold cutV cutD
  rw [dqa_len h]
  exact dqa_take _ (dqa_drop _ h)) ?_
  walk_at "hu"
def cutA {α : Type} (xs : List α) (lo hi : Option Int) : List α := (xs.drop (HT.sIx xs.length 0 lo)).take (HT.sIx xs.length xs.length hi - HT.sIx xs.length 0 lo)
def fSl : D → Option Int → Option Int → Option D
  | .d (.list xs), lo, hi => some (.d (.list (cutD xs lo hi)))
  | .d (.tuple xs), lo, hi => some (.d (.tuple (cutD xs lo hi)))
  | .tp ds, lo, hi => some (tpD (cutA ds lo hi))
  | .ls ds, lo, hi => some (lsD (cutA ds lo hi))
  | .kt (.tuple xs), lo, hi => if HT.sIx xs.length 0 lo = 0 ∧ HT.sIx xs.length xs.length hi = xs.length then some (.kt (.tuple xs)) else if xs.all flatS = true then some (tpD (cutA (xs.map ktD) lo hi)) else none
  | _, _, _ => none
theorem cutA_all {α : Type} {xs : List α} {lo hi : Option Int} (h : HT.sIx xs.length 0 lo = 0 ∧ HT.sIx xs.length xs.length hi = xs.length) : cutA xs lo hi = xs := by
  refine @Hush.hu _ (by
  unfold cutA
  rw [h.1, h.2, List.drop_zero, Nat.sub_zero, List.take_length]) ?_
  walk_at "hu"
theorem rpl_cut {H : Vw} {vs : List V} {ds : List D} (lo hi : Option Int) (h : RpL K H ds vs) : RpL K H (cutA ds lo hi) (cutV vs lo hi) := by
  refine @Hush.hu _ (by
  have dr : ∀ {vs : List V} {ds : List D} (n : Nat), RpL K H ds vs → RpL K H (ds.drop n) (vs.drop n) := by
    intro vs ds n r
    induction n generalizing vs ds with
    | zero => exact r
    | succ n ih => cases r with
      | nil => exact .nil
      | cons _ t => exact ih t
  have tk : ∀ {vs : List V} {ds : List D} (n : Nat), RpL K H ds vs → RpL K H (ds.take n) (vs.take n) := by
    intro vs ds n r
    induction n generalizing vs ds with
    | zero => exact .nil
    | succ n ih => cases r with
      | nil => exact .nil
      | cons a t => exact .cons a (ih t)
  unfold cutV cutA
  rw [rpl_len h]
  exact tk _ (dr _ h)) ?_
  walk_at "hu"
theorem cutD_all {xs : List PyData} {lo hi : Option Int} (h : HT.sIx xs.length 0 lo = 0 ∧ HT.sIx xs.length xs.length hi = xs.length) : cutD xs lo hi = xs := by
  refine @Hush.hu _ (by
  unfold cutD
  rw [h.1, h.2, List.drop_zero, Nat.sub_zero, List.take_length]) ?_
  walk_at "hu"
theorem o_sl (W : FmC cb P w K mg base k N F) : ∃ r, (∀ i, SlR (F i) r) ∧ SlD K r fSl := by
  refine @Hush.hu _ (by
  refine ⟨_, fun i => (slK rSlL (W.K i) sl_list).or (slK rSlA (W.K i) sl_tupA), fun I s H x z lo hi a Q ok rx e kk => ?_⟩
  unfold fSl at e
  split at e
  · cases e
    cases rx with
    | lst h1 h2 => exact .inl ⟨_, _, rfl, sql_same hr_sub (SqL.of h1), newL ok kk (dqa_cut _ _ h2)⟩
  · cases e
    cases rx with
    | tup h1 h2 =>
      refine .inr ⟨_, _, rfl, SqT.of (hr_sub _ _ h1), fun q => ?_, fun _ => newT ok kk (dqa_cut _ _ h2)⟩
      rw [dqa_len h2] at q
      rw [cutD_all q] at kk
      exact here ok kk (.tup h1 h2)
  · cases e
    obtain ⟨a, xs, rfl, h1, h2⟩ := rx
    have g := rpl_ofA h2
    refine .inr ⟨_, _, rfl, SqT.of (hr_sub _ _ h1), fun q => ?_, fun _ => newTD ok kk (rpl_cut _ _ g)⟩
    rw [rpl_len g] at q
    rw [cutA_all q] at kk
    exact here ok kk (rp_tpD h1 g)
  · cases e
    obtain ⟨a, xs, rfl, h1, h2⟩ := rx
    exact .inl ⟨_, _, rfl, sql_same hr_sub (SqL.of h1), newLD ok kk (rpl_cut _ _ (rpl_ofA h2))⟩
  · rename_i xs
    cases rx with
    | tup h1 h2 =>
      rename_i a vs
      have hl : ∀ {vs : List V} {ds : List PyData}, DpAll K (fun _ => none) vs ds → vs.length = ds.length := by
        intro vs ds h
        induction ds generalizing vs with
        | nil => cases h; rfl
        | cons d ds ih => cases h with
          | cons _ t => rw [List.length_cons, List.length_cons, ih t]
      by_cases c : HT.sIx xs.length 0 lo = 0 ∧ HT.sIx xs.length xs.length hi = xs.length
      · rw [if_pos c] at e
        cases e
        refine .inr ⟨_, _, rfl, sqt_same none_sub h1, fun q => here ok kk (.tup h1 h2), fun q => absurd (by rw [hl h2]; exact c) q⟩
      · rw [if_neg c] at e
        by_cases cf : xs.all flatS = true
        · rw [if_pos cf] at e
          cases e
          refine .inr ⟨_, _, rfl, sqt_same none_sub h1, fun q => absurd (by rw [hl h2] at q; exact q) c, fun _ => newTD ok kk (rpl_cut _ _ (dpa_empty h2 cf))⟩
        · rw [if_neg cf] at e; cases e
  · cases e) ?_
  walk_at "hu"
def cLen : List D → Option D
  | [.d (.list xs)] => some (.d (.int xs.length))
  | [.d (.tuple xs)] => some (.d (.int xs.length))
  | [.d (.str z)] => if z.length ≤ 100000 then some (.d (.int z.length)) else none
  | [.ls xs] => some (.d (.int xs.length))
  | [.sc ns] => some (.d (.int ns.length))
  | [.tp xs] => some (.d (.int xs.length))
  | [.kt (.tuple xs)] => some (.d (.int xs.length))
  | _ => none
theorem c_len (W : FmC cb P w K mg base k N F) : ∃ r, (∀ i, CallR (F i) (.builtin "len") r) ∧ CallD K r cLen := by
  refine @Hush.hu _ (by
  refine ⟨_, fun i => clK rLenK (W.K i) call_len, fun I s H ds z vs Q ok r e kk => ?_⟩
  unfold cLen at e
  split at e
  · cases e
    cases r with
    | cons h1 h2 =>
      cases h2
      cases h1 with
      | lst a b => exact ⟨_, _, rfl, .inl ⟨_, sql_same hr_sub (SqL.of a), rfl⟩, here ok kk (by rw [dqa_len b]; exact .int _)⟩
  · cases e
    cases r with
    | cons h1 h2 =>
      cases h2
      cases h1 with
      | tup a b => exact ⟨_, _, rfl, .inr ⟨_, SqT.of (hr_sub _ _ a), rfl⟩, here ok kk (by rw [dqa_len b]; exact .int _)⟩
  · rename_i z
    by_cases c : z.length ≤ 100000
    · rw [if_pos c] at e
      cases e
      cases r with
      | cons h1 h2 =>
        cases h2
        cases h1
        exact ⟨_, _, rfl, ⟨sz c, rfl⟩, here ok kk (.int _)⟩
    · rw [if_neg c] at e; cases e
  · cases e
    cases r with
    | cons h1 h2 =>
      cases h2
      obtain ⟨a, xs, rfl, h1, h2⟩ := h1
      exact ⟨_, _, rfl, .inl ⟨_, sql_same hr_sub (SqL.of h1), rfl⟩, here ok kk (by rw [rpl_len (rpl_ofA h2)]; exact .int _)⟩
  · cases e
    cases r with
    | cons h1 h2 =>
      cases h2
      obtain ⟨a, rfl, h1, h2⟩ := h1
      exact ⟨_, _, rfl, .inl ⟨_, sql_same hr_sub h1, rfl⟩, here ok kk (by rw [List.length_map]; exact .int _)⟩
  · cases e
    cases r with
    | cons h1 h2 =>
      cases h2
      obtain ⟨a, xs, rfl, h1, h2⟩ := h1
      exact ⟨_, _, rfl, .inr ⟨_, SqT.of (hr_sub _ _ h1), rfl⟩, here ok kk (by rw [rpl_len (rpl_ofA h2)]; exact .int _)⟩
  · cases e
    cases r with
    | cons h1 h2 =>
      cases h2
      cases h1 with
      | tup a b =>
        have hl : ∀ {vs : List V} {ds : List PyData}, DpAll K (fun _ => none) vs ds → vs.length = ds.length := by
          intro vs ds h
          induction ds generalizing vs with
          | nil => cases h; rfl
          | cons d ds ih => cases h with
            | cons _ t => rw [List.length_cons, List.length_cons, ih t]
        exact ⟨_, _, rfl, .inr ⟨_, sqt_same none_sub a, rfl⟩, here ok kk (by rw [hl b]; exact .int _)⟩
  · cases e) ?_
  walk_at "hu"
def bools : List PyData → Option (List Bool)
  | [] => some []
  | .bool b :: r => (bools r).map (b :: ·)
  | _ => none
theorem dqa_bools {H : Hp} : ∀ {vs : List V} {ds : List PyData} {bs : List Bool}, DqA K H vs ds → bools ds = some bs → vs = bs.map V.bl
  | _, _, _, .nil, h => by cases h; rfl
  | _, _, _, .cons (d := d) h t, e => by
    cases d with
    | bool b =>
      unfold bools at e
      rename_i vs ds
      cases q : bools ds with
      | none => rw [q] at e; cases e
      | some ys =>
        rw [q] at e
        cases e
        cases h
        rw [dqa_bools t q]
        rfl
    | _ => cases e
def cAll : List D → Option D
  | [.d (.list xs)] => (bools xs).map fun bs => .d (.bool (bs.all id))
  | _ => none
def cAny : List D → Option D
  | [.d (.list xs)] => (bools xs).map fun bs => .d (.bool (bs.any id))
  | _ => none
theorem c_all (W : Fm P w K mg base k N F) : ∃ r, (∀ i, CallR (F i) (.builtin "all") r) ∧ CallD K r cAll := by
  refine @Hush.hu _ (by
  refine ⟨_, fun i => clK rAll (W.K i) (cr_all (W.calm i)), fun I s H ds z vs Q ok r e kk => ?_⟩
  unfold cAll at e
  split at e
  · rename_i xs
    cases q : bools xs with
    | none => rw [q] at e; cases e
    | some bs =>
      rw [q] at e
      cases e
      cases r with
      | cons h1 h2 =>
        cases h2
        cases h1 with
        | lst a b => exact ⟨_, bs, rfl, by rw [← dqa_bools b q]; exact sql_same hr_sub (SqL.of a), here ok kk (.bl _)⟩
  · cases e) ?_
  walk_at "hu"
theorem c_any (W : Fm P w K mg base k N F) : ∃ r, (∀ i, CallR (F i) (.builtin "any") r) ∧ CallD K r cAny := by
  refine @Hush.hu _ (by
  refine ⟨_, fun i => clK rAny (W.K i) (cr_any (W.calm i)), fun I s H ds z vs Q ok r e kk => ?_⟩
  unfold cAny at e
  split at e
  · rename_i xs
    cases q : bools xs with
    | none => rw [q] at e; cases e
    | some bs =>
      rw [q] at e
      cases e
      cases r with
      | cons h1 h2 =>
        cases h2
        cases h1 with
        | lst a b => exact ⟨_, bs, rfl, by rw [← dqa_bools b q]; exact sql_same hr_sub (SqL.of a), here ok kk (.bl _)⟩
  · cases e) ?_
  walk_at "hu"
def cTup : List D → Option D
  | [.d (.list xs)] => some (.d (.tuple xs))
  | [.d (.tuple xs)] => some (.d (.tuple xs))
  | [.ls xs] => some (tpD xs)
  | [.tp xs] => some (.tp xs)
  | [.kt (.tuple xs)] => some (.kt (.tuple xs))
  | _ => none
theorem c_tup (W : FmC cb P w K mg base k N F) : ∃ r, (∀ i, CallR (F i) (.type "tuple") r) ∧ CallD K r cTup := by
  refine @Hush.hu _ (by
  refine ⟨_, fun i => clK rTupK (W.K i) call_tuple_of, fun I s H ds z vs Q ok r e kk => ?_⟩
  unfold cTup at e
  split at e
  · cases e
    cases r with
    | cons h1 h2 =>
      cases h2
      cases h1 with
      | lst a b => exact ⟨_, _, rfl, .inl ⟨sql_same hr_sub (SqL.of a), newT ok kk b⟩⟩
  · cases e
    cases r with
    | cons h1 h2 =>
      cases h2
      cases h1 with
      | tup a b => exact ⟨_, _, rfl, .inr ⟨SqT.of (hr_sub _ _ a), here ok kk (.tup a b)⟩⟩
  · cases e
    cases r with
    | cons h1 h2 =>
      cases h2
      obtain ⟨a, xs, rfl, h1, h2⟩ := h1
      exact ⟨_, _, rfl, .inl ⟨sql_same hr_sub (SqL.of h1), newTD ok kk (rpl_ofA h2)⟩⟩
  · cases e
    cases r with
    | cons h1 h2 =>
      cases h2
      obtain ⟨a, xs, rfl, h1, h2⟩ := h1
      exact ⟨_, _, rfl, .inr ⟨SqT.of (hr_sub _ _ h1), here ok kk ⟨a, xs, rfl, h1, h2⟩⟩⟩
  · cases e
    cases r with
    | cons h1 h2 =>
      cases h2
      cases h1 with
      | tup a b => exact ⟨_, _, rfl, .inr ⟨sqt_same none_sub a, here ok kk (.tup a b)⟩⟩
  · cases e) ?_
  walk_at "hu"
def cLst : List D → Option D
  | [.d (.list xs)] => some (.d (.list xs))
  | [.d (.tuple xs)] => some (.d (.list xs))
  | [.ls xs] => some (lsD xs)
  | [.tp xs] => some (lsD xs)
  | [.kt (.tuple xs)] => if xs.all flatS = true then some (lsD (xs.map ktD)) else none
  | _ => none
theorem c_lst (W : FmC cb P w K mg base k N F) : ∃ r, (∀ i, CallR (F i) (.type "list") r) ∧ CallD K r cLst := by
  refine @Hush.hu _ (by
  refine ⟨_, fun i => clK rLstK (W.K i) call_list_of, fun I s H ds z vs Q ok r e kk => ?_⟩
  unfold cLst at e
  split at e
  · cases e
    cases r with
    | cons h1 h2 =>
      cases h2
      cases h1 with
      | lst a b => exact ⟨_, _, rfl, .inl (sql_same hr_sub (SqL.of a)), newL ok kk b⟩
  · cases e
    cases r with
    | cons h1 h2 =>
      cases h2
      cases h1 with
      | tup a b => exact ⟨_, _, rfl, .inr (SqT.of (hr_sub _ _ a)), newL ok kk b⟩
  · cases e
    cases r with
    | cons h1 h2 =>
      cases h2
      obtain ⟨a, xs, rfl, h1, h2⟩ := h1
      exact ⟨_, _, rfl, .inl (sql_same hr_sub (SqL.of h1)), newLD ok kk (rpl_ofA h2)⟩
  · cases e
    cases r with
    | cons h1 h2 =>
      cases h2
      obtain ⟨a, xs, rfl, h1, h2⟩ := h1
      exact ⟨_, _, rfl, .inr (SqT.of (hr_sub _ _ h1)), newLD ok kk (rpl_ofA h2)⟩
  · rename_i xs
    by_cases c : xs.all flatS = true
    · rw [if_pos c] at e
      cases e
      cases r with
      | cons h1 h2 =>
        cases h2
        cases h1 with
        | tup a b => exact ⟨_, _, rfl, .inr (sqt_same none_sub a), newLD ok kk (dpa_empty b c)⟩
    · rw [if_neg c] at e; cases e
  · cases e) ?_
  walk_at "hu"
def cInt : List D → Option D
  | [.d (.int i)] => some (.d (.int i))
  | [.d (.bool b)] => some (.d (.int (if b then 1 else 0)))
  | _ => none
def tyN : PyData → Option String
  | .none => some "NoneType"
  | .bool _ => some "bool"
  | .int _ => some "int"
  | .str _ => some "str"
  | .list _ => some "list"
  | .tuple _ => some "tuple"
  | .dict _ => none
theorem tyx {H : Hp} {v : V} {d : PyData} {n : String} (r : Dq K H v d) (e : tyN d = some n) : TyX K H v (.type n) := by
  refine @Hush.hu _ (by
  cases r with
  | non => cases e; exact .base .non
  | bl b => cases e; exact .base (.bl b)
  | int i => cases e; exact .base (.int i)
  | str x => cases e; exact .base (.str x)
  | lst h _ => cases e; exact .base (.lst h)
  | tup h _ => cases e; exact .base (.tup h)) ?_
  walk_at "hu"
theorem tyx_same {H H' : Hp} {v : V} {d : PyData} {n : String} (e2 : Same H H') (r : Dq K H v d) (e : tyN d = some n) : TyX K H' v (.type n) := by
  refine Hush.hu (tyx (dp_same e2 r) e) ?_
  walk_at "hu"
def isT (t n : String) : Option Bool := match n with
  | "int" => some (t == "int" || t == "bool")
  | "bool" => some (t == "bool")
  | "str" => some (t == "str")
  | "tuple" => some (t == "tuple")
  | "list" => some (t == "list")
  | _ => none
def tyD : D → Option String
  | .kt (.tuple _) => some "tuple"
  | .tp _ => some "tuple"
  | .ls _ => some "list"
  | _ => none
theorem tyd_x {K : PySem.W.Frag} {Y : Vw} {H' : Hp} {d : D} {v : V} {n : String} (e2 : Same Y.h H') (r : Rp K Y d v) (e : tyD d = some n) : TyX K H' v (.type n) := by
  refine @Hush.hu _ (by
  unfold tyD at e
  split at e
  · cases e
    cases r with
    | tup h1 h2 =>
      rcases h1 with h1 | ⟨o, its, m, h1, h2, _⟩
      · rcases h1 with h1 | ⟨o, h1⟩ <;> cases h1
      · exact .kTuple h1 h2
  · cases e
    obtain ⟨a, xs, rfl, h1, h2⟩ := r
    exact .base (.tup (e2 _ _ h1))
  · cases e
    obtain ⟨a, xs, rfl, h1, h2⟩ := r
    exact .base (.lst (e2 _ _ h1))
  · cases e) ?_
  walk_at "hu"
theorem tyD_mem {x : D} {t : String} (h : tyD x = some t) : t ∈ ["NoneType", "bool", "int", "str", "list", "tuple"] := by
  refine @Hush.hu _ (by
  unfold tyD at h
  split at h <;> first | (cases h; done) | (cases h; decide)) ?_
  walk_at "hu"
def cIsi : List D → Option D
  | [.d x, .o (.ty m)] => (tyN x).bind fun t => (isT t m).map fun b => .d (.bool b)
  | [x, .o (.ty m)] => (tyD x).bind fun t => (isT t m).map fun b => .d (.bool b)
  | _ => none
theorem kit_all : ∀ t ∈ ["NoneType", "bool", "int", "str", "list", "tuple"], ∀ n ∈ ["int", "bool", "str", "tuple", "list"], ∀ b, isT t n = some b → kitB t n = some b := by
  refine @Hush.hu _ (by decide +kernel) ?_
  walk_at "hu"
theorem tyN_mem {x : PyData} {t : String} (h : tyN x = some t) : t ∈ ["NoneType", "bool", "int", "str", "list", "tuple"] := by
  refine @Hush.hu _ (by
  cases x <;> cases h <;> decide) ?_
  walk_at "hu"
theorem isT_mem {t n : String} {b : Bool} (h : isT t n = some b) : n ∈ ["int", "bool", "str", "tuple", "list"] := by
  refine @Hush.hu _ (by
  unfold isT at h
  split at h <;> first | decide | cases h) ?_
  walk_at "hu"
theorem kit_is {x : PyData} {t n : String} {b : Bool} (h1 : tyN x = some t) (h2 : isT t n = some b) : PySem.W.kitOne K (.type t) (.type n) = some b := by
  refine Hush.hu (kit_ty (kit_all t (tyN_mem h1) n (isT_mem h2) b h2)) ?_
  walk_at "hu"
theorem c_isi (W : FmC cb P w K mg base k N F) : ∃ r, (∀ i, CallR (F i) (.builtin "isinstance") r) ∧ CallD K r cIsi := by
  refine @Hush.hu _ (by
  refine ⟨_, fun i => clK rIsi (W.K i) call_isi, fun I s H ds z vs Q ok r e kk => ?_⟩
  unfold cIsi at e
  split at e
  · rename_i x m
    cases q : tyN x with
    | none => rw [q] at e; cases e
    | some t =>
      rw [q] at e
      have e : (isT t m).map (fun b => D.d (.bool b)) = some z := e
      cases q2 : isT t m with
      | none => rw [q2] at e; cases e
      | some b =>
        rw [q2] at e
        cases e
        cases r with
        | cons h1 h2 =>
          cases h2 with
          | cons h3 h4 =>
            cases h4
            cases h3
            exact ⟨_, _, _, _, _, rfl, .ty m, tyx_same hr_sub h1 q, kit_is q q2, here ok kk (.bl _)⟩
  · rename_i x m _
    cases q : tyD x with
    | none => rw [q] at e; cases e
    | some t =>
      rw [q] at e
      have e : (isT t m).map (fun b => D.d (.bool b)) = some z := e
      cases q2 : isT t m with
      | none => rw [q2] at e; cases e
      | some b =>
        rw [q2] at e
        cases e
        cases r with
        | cons h1 h2 =>
          cases h2 with
          | cons h3 h4 =>
            cases h4
            cases h3
            exact ⟨_, _, _, _, _, rfl, .ty m, tyd_x hr_sub h1 q, kit_ty (kit_all t (tyD_mem q) m (isT_mem q2) b q2), here ok kk (.bl _)⟩
  · cases e) ?_
  walk_at "hu"
def cIsi2 (n1 n2 : String) : D → Option D
  | .d x => (tyN x).bind fun t => (isT t n1).bind fun b1 => (isT t n2).map fun b2 => .d (.bool (b1 || b2))
  | x => (tyD x).bind fun t => (isT t n1).bind fun b1 => (isT t n2).map fun b2 => .d (.bool (b1 || b2))
end
end Dl
namespace Dl
open PySem L2 PySem.W PyProof.Rows
def sk : List PyData → Option (List (Int ⊕ List Nat))
  | [] => some []
  | .str s :: r => (sk r).map (Sum.inr s.cps.toList :: ·)
  | _ => none
def skT : PyData → Option (List (Int ⊕ List Nat))
  | .tuple xs => sk xs
  | _ => none
abbrev ltK (a b : List (Int ⊕ List Nat)) : Bool := PyProof.Rows.lexLt itemOrd a b
theorem sk_cons {x : PyData} {r : List PyData} {l : List (Int ⊕ List Nat)} (h : sk (x :: r) = some l) : ∃ s l', x = .str s ∧ sk r = some l' ∧ l = Sum.inr s.cps.toList :: l' := by
  refine @Hush.hu _ (by
  cases x with
  | str s =>
    unfold sk at h
    cases q : sk r with
    | none => rw [q] at h; cases h
    | some l' =>
      rw [q] at h
      cases h
      exact ⟨s, l', rfl, rfl, rfl⟩
  | _ => cases h) ?_
  walk_at "hu"
theorem sk_alike : ∀ {xs ys : List PyData} {l m : List (Int ⊕ List Nat)}, sk xs = some l → sk ys = some m → alikeAll xs ys = true
  | [], ys, _, _, _, _ => by unfold alikeAll; rfl
  | x :: xs, [], _, _, _, _ => by unfold alikeAll; rfl
  | x :: xs, y :: ys, l, m, h1, h2 => by
    obtain ⟨s, l', rfl, h3, _⟩ := sk_cons h1
    obtain ⟨t, m', rfl, h4, _⟩ := sk_cons h2
    rw [alikeAll, alike, sk_alike h3 h4]
    rfl
theorem sk_lt : ∀ {xs ys : List PyData} {l m : List (Int ⊕ List Nat)}, sk xs = some l → sk ys = some m → ltK (keyToksAll xs) (keyToksAll ys) = ltK l m
  | [], [], l, m, h1, h2 => by cases h1; cases h2; rfl
  | [], y :: ys, l, m, h1, h2 => by
    obtain ⟨t, m', rfl, h4, rfl⟩ := sk_cons h2
    cases h1
    rfl
  | x :: xs, [], l, m, h1, h2 => by
    obtain ⟨t, m', rfl, h4, rfl⟩ := sk_cons h1
    cases h2
    rfl
  | x :: xs, y :: ys, l, m, h1, h2 => by
    obtain ⟨s, l', rfl, h3, rfl⟩ := sk_cons h1
    obtain ⟨t, m', rfl, h4, rfl⟩ := sk_cons h2
    have ih := sk_lt h3 h4
    show ltK (Sum.inl 1 :: ([Sum.inr s.cps.toList] ++ keyToksAll xs)) (Sum.inl 1 :: ([Sum.inr t.cps.toList] ++ keyToksAll ys)) = _
    unfold ltK
    rw [PyProof.Rows.lex_self, PyProof.Rows.lex_cons, List.singleton_append, List.singleton_append, PyProof.Rows.lex_cons]
    rw [show PyProof.Rows.lexLt itemOrd (keyToksAll xs) (keyToksAll ys) = PyProof.Rows.lexLt itemOrd l' m' from ih]
theorem sk_inj : ∀ {xs ys : List PyData} {l : List (Int ⊕ List Nat)}, sk xs = some l → sk ys = some l → xs = ys
  | [], [], _, _, _ => rfl
  | [], y :: ys, _, h1, h2 => by
    obtain ⟨t, m', rfl, h4, e⟩ := sk_cons h2
    cases h1
    cases e
  | x :: xs, [], _, h1, h2 => by
    obtain ⟨t, m', rfl, h4, e⟩ := sk_cons h1
    cases h2
    cases e
  | x :: xs, y :: ys, l, h1, h2 => by
    obtain ⟨s, l', rfl, h3, rfl⟩ := sk_cons h1
    obtain ⟨t, m', rfl, h4, e⟩ := sk_cons h2
    injection e with e1 e2
    injection e1 with e1
    subst e2
    rw [sk_inj h3 h4]
    have : s = t := by
      cases s; cases t
      simp only [Str.mk.injEq]
      exact Array.toList_inj.mp e1
    rw [this]
def rLtD (K : PySem.W.Frag) : R2 := fun x y H Q => ∃ d e, Dp K H x d ∧ Dp K H y e ∧ alike d e = true ∧ d ≠ .none ∧ d.depth ≤ 64 ∧ Q (.bl (dataLt d e)) H
theorem op_ltD {X : Cx} (hu : X.A.units + 64 < cLine) : OpR X (compareOp .Lt) (rLtD X.K) := by
  refine @Hush.hu _ (by
  intro pins s σ H x y v u Q I rx ry h
  obtain ⟨d, e, hd, he, ha, hn, hz, q⟩ := h
  obtain ⟨as, r1⟩ := Dp.reads I d x v hd rx
  obtain ⟨bs, r2⟩ := Dp.reads I e y u he ry
  exact rcLt_alike d e X.A s v u as bs r1 r2 ha hn (by have : min d.depth e.depth ≤ d.depth := Nat.min_le_left _ _; omega) X.prog X.w X.xe _ ⟨.bl _, H, I, rfl, q⟩) ?_
  walk_at "hu"
theorem sk_depth : ∀ {xs : List PyData} {l : List (Int ⊕ List Nat)}, sk xs = some l → PyData.depthAll xs ≤ 1
  | [], _, _ => by simp [PyData.depthAll]
  | x :: xs, l, h => by
    obtain ⟨s, l', rfl, h3, rfl⟩ := sk_cons h
    have := sk_depth h3
    simp only [PyData.depthAll, PyData.depth]
    omega
def fLt : D → D → Option D
  | .d (.int i), .d (.int j) => some (.d (.bool (decide (i < j))))
  | .d (.tuple a), .d (.tuple b) => (sk a).bind fun x => (sk b).map fun y => .d (.bool (ltK x y))
  | _, _ => none
section
variable {cb : Bool} {ι : Type} {P : Program} {w : World} {K : PySem.W.Frag} {mg : Str → Option Value} {base : Heap} {k : Nat} {N : List Str} {F : ι → Cx}
theorem o_lt (W : FmC cb P w K mg base k N F) : ∃ r, (∀ i, OpR (F i) (compareOp .Lt) r) ∧ OpD K r fLt := by
  refine @Hush.hu _ (by
  refine ⟨_, fun i => opr_or op_lt (opK rLtD (W.K i) (op_ltD (by have := W.units i; omega))), fun I s H x y z a b Q ok rx ry e kk => ?_⟩
  unfold fLt at e
  split at e
  · cases e; cases rx; cases ry
    exact .inl ⟨_, _, rfl, rfl, here ok kk (.bl _)⟩
  · rename_i xs ys
    cases q : sk xs with
    | none => rw [q] at e; cases e
    | some l =>
      cases q2 : sk ys with
      | none => rw [q, q2] at e; cases e
      | some m =>
        rw [q, q2] at e
        cases e
        have hd : PyData.depth (.tuple xs) ≤ 64 := by
          have := sk_depth q
          simp only [PyData.depth]
          omega
        refine .inr ⟨_, _, dq_dp (dp_same hr_sub rx), dq_dp (dp_same hr_sub ry), (by rw [alike]; exact sk_alike q q2), (fun z => nomatch z), hd, ?_⟩
        rw [dataLt_tuple, show PyProof.Rows.lexLt itemOrd (keyToksAll xs) (keyToksAll ys) = ltK l m from sk_lt q q2]
        exact here ok kk (.bl _)
  · cases e) ?_
  walk_at "hu"
end
def ltT (x y : PyData) : Bool := ltK ((skT x).getD []) ((skT y).getD [])
def ins (x : PyData) : List PyData → List PyData
  | [] => [x]
  | y :: r => if ltT y x = true then y :: ins x r else x :: y :: r
def isort : List PyData → List PyData
  | [] => []
  | x :: r => ins x (isort r)
theorem ins_perm (x : PyData) : ∀ l : List PyData, (ins x l).Perm (x :: l)
  | [] => List.Perm.refl _
  | y :: r => by
    unfold ins
    by_cases c : ltT y x = true
    · rw [if_pos c]
      exact ((ins_perm x r).cons y).trans (List.Perm.swap x y r)
    · rw [if_neg c]
theorem isort_perm : ∀ l : List PyData, (isort l).Perm l
  | [] => List.Perm.refl _
  | x :: r => (ins_perm x (isort r)).trans ((isort_perm r).cons x)
theorem ltT_neg {x y z : PyData} (h : ltT x z = true) : ltT x y = true ∨ ltT y z = true := by
  refine Hush.hu (lex_negTrans _ _ _ h) ?_
  walk_at "hu"
theorem ltT_asym {x y : PyData} (h : ltT x y = true) : ltT y x = false := by
  refine @Hush.hu _ (by
  cases q : ltT y x with
  | false => rfl
  | true =>
    have := lex_trans _ _ _ h q
    rw [lex_irrefl] at this
    cases this) ?_
  walk_at "hu"
abbrev Asc (l : List PyData) : Prop := l.Pairwise fun x y => ltT y x = false
theorem ins_asc (x : PyData) : ∀ {l : List PyData}, Asc l → Asc (ins x l)
  | [], _ => List.pairwise_singleton _ _
  | y :: r, h => by
    obtain ⟨h1, h2⟩ := List.pairwise_cons.mp h
    unfold ins
    by_cases c : ltT y x = true
    · rw [if_pos c]
      refine List.pairwise_cons.mpr ⟨fun z hz => ?_, ins_asc x h2⟩
      rcases List.mem_cons.mp ((ins_perm x r).mem_iff.mp hz) with e | hz
      · subst e; exact ltT_asym c
      · exact h1 z hz
    · rw [if_neg c]
      refine List.pairwise_cons.mpr ⟨fun z hz => ?_, h⟩
      rcases List.mem_cons.mp hz with e | hz
      · subst e
        cases q : ltT z x with
        | false => rfl
        | true => exact absurd q c
      · cases q : ltT z x with
        | false => rfl
        | true =>
          rcases ltT_neg (y := y) q with q2 | q2
          · rw [h1 z hz] at q2; cases q2
          · exact absurd q2 c
theorem isort_asc : ∀ l : List PyData, Asc (isort l)
  | [] => List.Pairwise.nil
  | x :: r => ins_asc x (isort_asc r)
abbrev TS (d : PyData) : Prop := ∃ l, skT d = some l ∧ l ≠ []
theorem ts_anti {x y : PyData} (hx : TS x) (hy : TS y) (h1 : ltT x y = false) (h2 : ltT y x = false) : x = y := by
  refine @Hush.hu _ (by
  obtain ⟨l, e1, _⟩ := hx
  obtain ⟨m, e2, _⟩ := hy
  unfold ltT at h1 h2
  rw [e1, e2] at h1 h2
  have := lex_total _ _ h1 h2
  simp only [Option.getD_some] at this
  subst this
  cases x with
  | tuple xs =>
    cases y with
    | tuple ys => rw [sk_inj (show sk xs = some l from e1) (show sk ys = some l from e2)]
    | _ => cases e2
  | _ => cases e1) ?_
  walk_at "hu"
theorem asc_uniq : ∀ {l m : List PyData}, (∀ d ∈ l, TS d) → Asc l → Asc m → l.Perm m → l = m
  | [], m, _, _, _, h => (List.Perm.nil_eq h)
  | x :: l, [], _, _, _, h => absurd h.length_eq (by simp)
  | x :: l, y :: m, ht, hl, hm, h => by
    obtain ⟨l1, l2⟩ := List.pairwise_cons.mp hl
    obtain ⟨m1, m2⟩ := List.pairwise_cons.mp hm
    have ty : TS y := ht y (h.mem_iff.mpr List.mem_cons_self)
    have hxy : ltT x y = false := by
      rcases List.mem_cons.mp (h.mem_iff.mp (List.mem_cons_self (a := x) (l := l))) with e | hx
      · rw [e]; exact lex_irrefl _
      · exact m1 x hx
    have hyx : ltT y x = false := by
      rcases List.mem_cons.mp (h.mem_iff.mpr (List.mem_cons_self (a := y) (l := m))) with e | hy
      · rw [e]; exact lex_irrefl _
      · exact l1 y hy
    have e := ts_anti (ht x List.mem_cons_self) ty hxy hyx
    subst e
    rw [asc_uniq (fun d hd => ht d (List.mem_cons_of_mem _ hd)) l2 m2 h.cons_inv]
theorem isort_uniq {l m : List PyData} (ht : ∀ d ∈ l, TS d) (hl : Asc l) (h : l.Perm m) : l = isort m := by
  refine Hush.hu (asc_uniq ht hl (isort_asc m) (h.trans (isort_perm m).symm)) ?_
  walk_at "hu"
theorem dpa_perm {K : PySem.W.Frag} {H : Hp} {xs ys : List V} (p : ys.Perm xs) : ∀ {ds : List PyData}, DqA K H xs ds → ∃ es, DqA K H ys es ∧ es.Perm ds := by
  refine @Hush.hu _ (by
  induction p with
  | nil => intro ds h; exact ⟨ds, h, List.Perm.refl _⟩
  | cons x p ih =>
    intro ds h
    cases h with
    | cons h1 h2 =>
      obtain ⟨es, h3, h4⟩ := ih h2
      exact ⟨_, .cons h1 h3, h4.cons _⟩
  | swap x y l =>
    intro ds h
    cases h with
    | cons h1 h2 =>
      cases h2 with
      | cons h3 h4 => exact ⟨_, .cons h3 (.cons h1 h4), List.Perm.swap _ _ _⟩
  | trans p1 p2 ih1 ih2 =>
    intro ds h
    obtain ⟨es, h3, h4⟩ := ih2 h
    obtain ⟨es2, h5, h6⟩ := ih1 h3
    exact ⟨es2, h5, h6.trans h4⟩) ?_
  walk_at "hu"
def TK (h : Heap) (v : Value) (l : List (Int ⊕ List Nat)) : Prop := ∃ a o ys n, v = .ref a ∧ h.get? a = some o ∧ o.cls = .type "tuple" ∧ o.data = .seq ys n ∧ tupItems (fun _ => true) 0 ys.toList = some l
def kOf (h : Heap) (v : Value) : List (Int ⊕ List Nat) := (tupKey h (fun _ => true) v).getD []
theorem kOf_tk {h : Heap} {v : Value} {l : List (Int ⊕ List Nat)} (t : TK h v l) : kOf h v = l := by
  refine @Hush.hu _ (by
  obtain ⟨a, o, ys, n, rfl, ho, hc, hd, hi⟩ := t
  unfold kOf tupKey
  simp only [ho, hd, hi, Option.getD_some]) ?_
  walk_at "hu"
theorem TK.keep {h h' : Heap} {v : Value} {l : List (Int ⊕ List Nat)} (t : TK h v l) (k : ∀ b o, h.get? b = some o → o.cls = .type "tuple" → h'.get? b = some o) : TK h' v l := by
  refine @Hush.hu _ (by
  obtain ⟨a, o, ys, n, e, ho, hc, hd, hi⟩ := t
  exact ⟨a, o, ys, n, e, k a o ho hc, hc, hd, hi⟩) ?_
  walk_at "hu"
theorem items_sk {K : PySem.W.Frag} {H : Hp} : ∀ {ws : List V} {es : List PyData} {us : List Value} {l : List (Int ⊕ List Nat)} (i : Nat), DqA K H ws es → Vals ws us → sk es = some l → tupItems (fun _ => true) i us = some l
  | _, _, _, _, _, .nil, .nil, h => by cases h; simp [tupItems]
  | _, _, _, _, i, .cons h1 h2, .cons r1 r2, h => by
    obtain ⟨s, l', rfl, h3, rfl⟩ := sk_cons h
    cases h1
    obtain ⟨t, rfl⟩ := r1
    have := items_sk (i + 1) h2 r2 h3
    simp [tupItems, this]
theorem first_sk {us : List Value} {l : List (Int ⊕ List Nat)} (h : tupItems (fun _ => true) 0 us = some l) (hn : l ≠ []) : ∃ x t, us[0]? = some (.str x t) := by
  refine @Hush.hu _ (by
  cases us with
  | nil => exact absurd (by simpa [tupItems] using h.symm) hn
  | cons u r =>
    cases u with
    | str x t => exact ⟨x, t, rfl⟩
    | int n t => simp [tupItems] at h
    | _ => simp [tupItems] at h) ?_
  walk_at "hu"
section
variable {X : Cx} {pins : List (Addr × Obj)} {σ : L2.St} {H : Hp} {s : Shared}
theorem tk_of (I : Inv X pins σ H s) {t : Addr} {d : PyData} {l : List (Int ⊕ List Nat)} (h : Dq X.K H (.ref t) d) (e : skT d = some l) : TK s.heap (.ref t) l := by
  refine @Hush.hu _ (by
  cases h with
  | lst _ _ => cases e
  | tup h1 h2 =>
    obtain ⟨its, rv, ⟨o, ho, hc, n, hd⟩, _⟩ := I.tuple (SqT.of h1)
    exact ⟨t, o, its.toArray, n, rfl, ho, hc, hd, items_sk 0 h2 rv e⟩) ?_
  walk_at "hu"
theorem swo_key (k : Value → List (Int ⊕ List Nat)) : SrtO.Swo fun v u => ltK (k v) (k u) := by
  refine @Hush.hu _ (by
  refine ⟨fun x y h => ?_, fun x y z h1 h2 => ?_⟩
  · cases q : ltK (k y) (k x) with
    | false => rfl
    | true =>
      have := lex_trans _ _ _ h q
      rw [lex_irrefl] at this
      cases this
  · cases q : ltK (k z) (k x) with
    | false => rfl
    | true =>
      rcases lex_negTrans _ (k y) _ q with q2 | q2
      · exact absurd (h2.symm.trans q2) Bool.false_ne_true
      · exact absurd (h1.symm.trans q2) Bool.false_ne_true) ?_
  walk_at "hu"
theorem katTups_of' {h : Heap} : ∀ {vs : List Value}, (∀ v ∈ vs, ∃ l, TK h v l ∧ l ≠ []) → ∃ fs, KatTups h vs fs ∧ fs.length = vs.length ∧ ∀ f ∈ fs, ∃ x t, f = Value.str x t
  | [], _ => ⟨[], KatTups.nil, rfl, fun f hf => absurd hf (by simp)⟩
  | v :: vs, hv => by
    obtain ⟨fs, h1, h2, h3⟩ := katTups_of' (vs := vs) fun u hu => hv u (List.mem_cons_of_mem _ hu)
    obtain ⟨l, ⟨a, o, ys, n, rfl, ho, hc, hd, hi⟩, hn⟩ := hv v List.mem_cons_self
    obtain ⟨x, t, hx⟩ := first_sk hi hn
    refine ⟨.str x t :: fs, KatTups.cons ho hc hd (by rw [← hx]; simp) h1, by rw [List.length_cons, List.length_cons, h2], fun f hf => ?_⟩
    rcases List.mem_cons.mp hf with e | hf
    · exact ⟨x, t, e⟩
    · exact h3 f hf
def rSortT (K : PySem.W.Frag) : List V → Hp → VK → Prop := fun vs H Q => ∃ (a : Addr) (xs : List V) (ds : List PyData) (H0 : Hp), vs = [V.ref a] ∧ H a = some (.lst xs) ∧ Same H0 H ∧ DqA K H0 xs ds ∧ (∀ d ∈ ds, TS d) ∧
  ∀ ys p, DqA K H0 ys (isort ds) → H p = none → Q (.ref p) (upd H p (.lst ys))
theorem dqa_mem {K : PySem.W.Frag} {H : Hp} : ∀ {vs : List V} {ds : List PyData} {v : V}, DqA K H vs ds → v ∈ vs → ∃ d ∈ ds, Dq K H v d
  | _, _, _, .nil, h => absurd h (by simp)
  | _, _, v, .cons h1 h2, h => by
    rcases List.mem_cons.mp h with e | h
    · subst e; exact ⟨_, List.mem_cons_self, h1⟩
    · obtain ⟨d, h3, h4⟩ := dqa_mem h2 h
      exact ⟨d, List.mem_cons_of_mem _ h3, h4⟩
theorem asc_of (I : Inv X pins σ H s) : ∀ {us : List Value} {es : List PyData}, DqA X.K H (us.map backV) es → (∀ u ∈ us, ∃ a, u = Value.ref a) → (∀ d ∈ es, TS d) → us.Pairwise (fun v u => ltK (kOf s.heap u) (kOf s.heap v) = false) → Asc es
  | [], _, h, _, _, _ => by cases h; exact List.Pairwise.nil
  | u :: us, es, h, hr, ht, hp => by
    cases h with
    | cons h1 h2 =>
      rename_i d es
      obtain ⟨p1, p2⟩ := List.pairwise_cons.mp hp
      refine List.pairwise_cons.mpr ⟨fun e he => ?_, asc_of I h2 (fun w hw => hr w (List.mem_cons_of_mem _ hw)) (fun w hw => ht w (List.mem_cons_of_mem _ hw)) p2⟩
      obtain ⟨a, rfl⟩ := hr u List.mem_cons_self
      obtain ⟨l, hl, _⟩ := ht d List.mem_cons_self
      have k1 := kOf_tk (tk_of I h1 hl)
      have mem : ∀ {us : List Value} {es : List PyData}, DqA X.K H (us.map backV) es → e ∈ es → ∃ u ∈ us, Dq X.K H (backV u) e := by
        intro us
        induction us with
        | nil => intro es h he; cases h; cases he
        | cons w r ih =>
          intro es h he
          cases h with
          | cons g1 g2 =>
            rcases List.mem_cons.mp he with q | q
            · subst q; exact ⟨w, List.mem_cons_self, g1⟩
            · obtain ⟨u2, h5, h6⟩ := ih g2 q
              exact ⟨u2, List.mem_cons_of_mem _ h5, h6⟩
      obtain ⟨u2, h5, h6⟩ := mem h2 he
      obtain ⟨a2, rfl⟩ := hr u2 (List.mem_cons_of_mem _ h5)
      obtain ⟨m, hm, _⟩ := ht e (List.mem_cons_of_mem _ he)
      have k2 := kOf_tk (tk_of I (t := a2) h6 hm)
      have := p1 _ h5
      rw [k1, k2] at this
      unfold ltT
      rw [hl, hm]
      exact this
theorem cr_sortT : CallR X (.builtin "sorted") (rSortT X.K) := by
  refine @Hush.hu _ (by
  intro pins s σ H vs us Q I r h
  obtain ⟨a, xs, ds, H0, rfl, hs, hsub, hd0, ht, q⟩ := h
  have hd := dpa_same hsub hd0
  obtain ⟨its, rv, hl, hz⟩ := I.list (SqL.of hs)
  obtain ⟨u, rfl, ru⟩ := vals1 r
  obtain rfl : u = Value.ref a := ru
  obtain ⟨e1, e2⟩ := refs_back rv fun x m => by
    obtain ⟨d, hm, hq⟩ := dqa_mem hd m
    obtain ⟨l, hl, _⟩ := ht d hm
    cases hq <;> first | cases hl | exact ⟨_, rfl⟩
  have hk : ∀ v ∈ its, ∃ l, TK s.heap v l ∧ l ≠ [] := fun v hv => by
    obtain ⟨t, rfl⟩ := e2 v hv
    have hm : V.ref t ∈ xs := by rw [e1]; exact List.mem_map.mpr ⟨_, hv, rfl⟩
    obtain ⟨d, hm, hq⟩ := dqa_mem hd hm
    obtain ⟨l, hl, hn⟩ := ht d hm
    exact ⟨l, tk_of I hq hl, hn⟩
  refine SrtO.sorted_ord (swo_key (kOf s.heap)) hl.isList (by rw [← rv.length]; exact hz) (fun h2 h₁ b hb kk h' keep => ?_) fun out hs hb => ?_
  · have keep2 : ∀ c o, s.heap.get? c = some o → o.cls = .type "tuple" → h'.get? c = some o := fun c o e ec => keep c o (kk c o e).1 (kk c o e).2
    have hk' : ∀ v ∈ its, ∃ l, TK h' v l ∧ l ≠ [] := fun v hv => by
      obtain ⟨l, t, hn⟩ := hk v hv
      exact ⟨l, t.keep keep2, hn⟩
    obtain ⟨fs, f1, f2, f3⟩ := katTups_of' hk'
    refine ⟨tuples' true, fun Q E hq => ?_, fun p q hp hq => ?_⟩
    · refine PySem.W.kat_kind (T := .type "str") f1 (by omega) (fun f hm => ?_) (by rfl) ?_
      · obtain ⟨x, t, rfl⟩ := f3 f hm
        exact PySem.W.Looks.of_pure rfl
      · have e : (Value.type "str" != Value.type "tuple") = true := by first | decide +kernel | rfl | decide
        rw [e]
        exact hq
    · obtain ⟨l, t1, _⟩ := hk p.1 hp
      obtain ⟨m, t2, _⟩ := hk q.1 hq
      show wpAny _ _ _ (fun r s' => s' = _ ∧ r = ltK (kOf s.heap p.1) (kOf s.heap q.1)) _ _
      rw [kOf_tk t1, kOf_tk t2]
      obtain ⟨a1, o1, y1, n1, g1, ho1, hc1, hd1, hi1⟩ := t1.keep keep2
      obtain ⟨a2, o2, y2, n2, g2, ho2, hc2, hd2, hi2⟩ := t2.keep keep2
      rw [g1, g2]
      exact PySem.W.kat_lt ho1 hd1 ho2 hd2 (tup_lex y1.toList y2.toList 0 l m hi1 hi2 (by rw [Array.length_toList, Array.length_toList]) ⟨rfl, rfl⟩)
  · have h3 : ∀ u ∈ out, ∃ a, u = Value.ref a := fun u hu => e2 u (hb.perm.mem_iff.mp hu)
    have hp : (out.map backV).Perm xs := by rw [e1]; exact hb.perm.map backV
    obtain ⟨es, d0, d2⟩ := dpa_perm hp hd0
    have d1 := dpa_same hsub d0
    have hts : ∀ d ∈ es, TS d := fun d hd => ht d (d2.mem_iff.mp hd)
    have hes : es = isort ds := isort_uniq hts (asc_of I d1 h3 hts hs) d2
    obtain ⟨n, hn⟩ := sortedAll_at s.heap its out.toArray
    refine ⟨.ref (s.heap.objs.size + 1), upd H (s.heap.objs.size + 1) (.lst (out.map backV)), I.laid (t' := s.toks) (fun b o e => sortedAll_old e) (Nat.le_succ _) ⟨?_, out, n, vals_back h3, by simpa using hn⟩, rfl, q _ _ (by rw [← hes]; exact d0) (I.hok.fresh (Nat.le_succ _))⟩
    rw [hp.length_eq]
    exact hz) ?_
  walk_at "hu"
end
end Dl
namespace Dl
open PySem L2
theorem b_len : bootBuiltins "len" = some (.builtin "len") := by
  refine @Hush.hu _ (by decide +kernel) ?_
  walk_at "hu"
theorem b_all : bootBuiltins "all" = some (.builtin "all") := by
  refine @Hush.hu _ (by decide +kernel) ?_
  walk_at "hu"
theorem b_any : bootBuiltins "any" = some (.builtin "any") := by
  refine @Hush.hu _ (by decide +kernel) ?_
  walk_at "hu"
theorem b_sorted : bootBuiltins "sorted" = some (.builtin "sorted") := by
  refine @Hush.hu _ (by decide +kernel) ?_
  walk_at "hu"
theorem b_isinstance : bootBuiltins "isinstance" = some (.builtin "isinstance") := by
  refine @Hush.hu _ (by decide +kernel) ?_
  walk_at "hu"
theorem b_int : bootBuiltins "int" = some (.type "int") := by
  refine @Hush.hu _ (by decide +kernel) ?_
  walk_at "hu"
theorem b_bool : bootBuiltins "bool" = some (.type "bool") := by
  refine @Hush.hu _ (by decide +kernel) ?_
  walk_at "hu"
theorem b_str : bootBuiltins "str" = some (.type "str") := by
  refine @Hush.hu _ (by decide +kernel) ?_
  walk_at "hu"
theorem b_list : bootBuiltins "list" = some (.type "list") := by
  refine @Hush.hu _ (by decide +kernel) ?_
  walk_at "hu"
theorem b_tuple : bootBuiltins "tuple" = some (.type "tuple") := by
  refine @Hush.hu _ (by decide +kernel) ?_
  walk_at "hu"
theorem b_dict : bootBuiltins "dict" = some (.type "dict") := by
  refine @Hush.hu _ (by decide +kernel) ?_
  walk_at "hu"
section
variable {cb : Bool} {ι : Type} {P : Program} {w : World} {K : PySem.W.Frag} {mg : Str → Option Value} {base : Heap} {k : Nat} {N : List Str} {F : ι → Cx} {I : SI} {W : WX} {pos : Pos}
def tsB (d : PyData) : Bool := match skT d with
  | some (_ :: _) => true
  | _ => false
theorem tsB_ts {d : PyData} (h : tsB d = true) : TS d := by
  refine @Hush.hu _ (by
  unfold tsB at h
  split at h
  · rename_i a l e
    exact ⟨_, e, fun z => by cases z⟩
  · cases h) ?_
  walk_at "hu"
def cSort : List D → Option D
  | [.d (.list xs)] => if xs.all tsB = true then some (.d (.list (isort xs))) else none
  | _ => none
theorem c_sort (Wf : FmC cb P w K mg base k N F) : ∃ r, (∀ i, CallR (F i) (.builtin "sorted") r) ∧ CallD K r cSort := by
  refine @Hush.hu _ (by
  refine ⟨_, fun i => clK rSortT (Wf.K i) cr_sortT, fun I s H ds z vs Q ok r e kk => ?_⟩
  unfold cSort at e
  split at e
  · rename_i xs
    by_cases c : xs.all tsB = true
    · rw [if_pos c] at e
      cases e
      cases r with
      | cons h1 h2 =>
        cases h2
        cases h1 with
        | lst a b =>
          exact ⟨_, _, _, (Hr I s H).h, rfl, hr_sub _ _ a, hr_sub, b, fun d hd => tsB_ts (List.all_eq_true.mp c d hd), fun ys p hy hp => newL ok kk hy p hp⟩
    · rw [if_neg c] at e; cases e
  · cases e) ?_
  walk_at "hu"
def sCh (f f' : D → D → Option D) (a b c : Sm D) : Sm D := fun env t => (a env t).bind fun x t => (b env t).bind fun y t => (ofO ((f x y).bind isB) t).bind fun k t => if k = true then (c env t).bind fun z t => ofO (f' y z) t else .ok (.d (.bool false)) t
def pCh (f f' : D → D → Option D) (a b c : Pm D) : Pm D := fun env => (a env).bind fun p => (b env).bind fun q => (f p q).bind fun z => (isB z).bind fun t => if t = true then (c env).bind fun r => f' q r else some (.d (.bool false))
theorem lift_ch (f f' : D → D → Option D) (a b c : Pm D) : lift (pCh f f' a b c) = sCh f f' (lift a) (lift b) (lift c) := by
  refine @Hush.hu _ (by
  funext env s
  unfold lift pCh sCh
  dsimp only
  cases a env with
  | none => rfl
  | some x =>
    simp only [Option.bind_some, ofO, R.bind]
    cases b env with
    | none => rfl
    | some y =>
      simp only [Option.bind_some]
      cases f x y with
      | none => rfl
      | some z =>
        simp only [Option.bind_some]
        cases isB z with
        | none => rfl
        | some t =>
          cases t with
          | false => rfl
          | true =>
            simp only [Option.bind_some, if_true]
            cases c env <;> rfl) ?_
  walk_at "hu"
theorem tg_ch {r r' : R2} {f f' : D → D → Option D} {ga gb gc : Sm D} (hr : OpD K r f) (hr' : OpD K r' f') : ∀ σ H Q, tG I K W (sCh f f' ga gb gc) σ H Q → tChain r r' (tG I K W ga) (tG I K W gb) (tG I K W gc) σ H Q := by
  refine Hush.hu (fun σ H Q ⟨env, s, ok, re, h⟩ =>
  step (Po.refl ok) re h fun x v1 s1 H1 p1 _ r1 h => step p1 re h fun y v2 s2 H2 p2 q2 r2 h => by
    obtain ⟨k, e, h⟩ := post_ofO (R.post_bind h)
    cases e3 : f x y with
    | none => rw [e3] at e; cases e
    | some z =>
      rw [e3] at e
      have e : isB z = some k := e
      refine hr I s2 H2 x y z v1 v2 _ p2.ok (rp_same q2.same r1) r2 e3 fun v3 H3 p3 r3 => ?_
      refine ⟨k, isB_at e r3, ?_⟩
      cases k with
      | false =>
        rw [if_neg Bool.false_ne_true] at h ⊢
        exact h _ s2 H3 rfl (p2.trans p3) (.bl false)
      | true =>
        rw [if_pos rfl] at h ⊢
        refine step (s := s2) (p2.trans p3) re h fun u v4 s4 H4 p4 q4 r4 h => ?_
        obtain ⟨y6, e6, h⟩ := post_ofO h
        exact hr' I s4 H4 y u y6 v2 v4 Q p4.ok (rp_same (p3.trans q4).same r2) r4 e6 fun v H' p5 r5 => h v s4 H' rfl (p4.trans p5) r5) ?_
  walk_at "hu"
theorem de_chain {op op' : CmpOp} {a b c : Expr} {f f' : D → D → Option D} {ga gb gc : Sm D} (h : ∃ r, (∀ i, OpR (F i) (compareOp op) r) ∧ OpD K r f) (h' : ∃ r, (∀ i, OpR (F i) (compareOp op') r) ∧ OpD K r f') (ha : DE I K W F a ga) (hb : DE I K W F b gb) (hc : DE I K W F c gc)
    (hm : lastMarks [op, op'] [b, c] = false := by with_unfolding_all rfl) : DE I K W F (.Compare a [op, op'] [b, c] pos) (sCh f f' ga gb gc) := by
  refine @Hush.hu _ (by
  obtain ⟨r, h1, h2⟩ := h
  obtain ⟨r', h3, h4⟩ := h'
  exact fun i => (pe_chain (h1 i) (h3 i) (ha i) (hb i) (hc i) hm).imp (tg_ch h2 h4)) ?_
  walk_at "hu"
def R.Le {α : Type} (a b : R α) : Prop := a = .no ∨ a = b
theorem R.Le.post {α : Type} {a b : R α} {P : α → Ts → Prop} {X : Exn → Ts → Prop} (h : R.Le a b) (p : a.Post P X) : b.Post P X := by
  refine @Hush.hu _ (by
  rcases h with h | h
  · rw [h] at p; exact p.elim
  · rw [← h]; exact p) ?_
  walk_at "hu"
theorem de_le {e : Expr} {g g' : Sm D} (h : DE I K W F e g) (l : ∀ env t, R.Le (g' env t) (g env t)) : DE I K W F e g' := by
  refine Hush.hu (fun i => (h i).imp fun σ H Q ⟨env, s, ok, re, p⟩ => ⟨env, s, ok, re, (l env s.t).post p⟩) ?_
  walk_at "hu"
def sOpT (ty : D → Bool) (f : D → D → Option D) (a b : Sm D) : Sm D := fun env t => (a env t).bind fun x t => if ty x = true then (b env t).bind fun y t => ofO (f x y) t else .no
theorem le_opT {ty : D → Bool} {f : D → D → Option D} {a b : Pm D} (ht : ∀ x y z, f x y = some z → ty x = true) (env : Env) (t : Ts) : R.Le (lift (pOp f a b) env t) (sOpT ty f (lift a) (lift b) env t) := by
  refine @Hush.hu _ (by
  unfold lift pOp sOpT
  dsimp only
  cases a env with
  | none => exact .inl rfl
  | some x =>
    simp only [Option.bind_some, ofO, R.bind]
    cases b env with
    | none => exact .inl rfl
    | some y =>
      simp only [Option.bind_some]
      cases q : f x y with
      | none => exact .inl rfl
      | some z => rw [if_pos (ht x y z q)]; simp only [q]; exact .inr rfl) ?_
  walk_at "hu"
def idxE (d : PyData) : List PyData → Nat → Option Nat
  | [], _ => none
  | z :: r, j => if PyData.eqv z d = true then some j else idxE d r (j + 1)
theorem idxE_some {d : PyData} : ∀ {ds : List PyData} {i j : Nat}, idxE d ds i = some j → i ≤ j ∧ ∃ z, ds[j - i]? = some z ∧ PyData.eqv z d = true ∧ ∀ m z', m < j - i → ds[m]? = some z' → PyData.eqv z' d = false
  | [], _, _, h => by cases h
  | z :: r, i, j, h => by
    unfold idxE at h
    by_cases c : PyData.eqv z d = true
    · rw [if_pos c] at h
      cases h
      refine ⟨Nat.le_refl _, z, by rw [Nat.sub_self]; rfl, c, fun m z' hm => ?_⟩
      rw [Nat.sub_self] at hm
      exact absurd hm (Nat.not_lt_zero _)
    · rw [if_neg c] at h
      obtain ⟨h1, z', h2, h3, h4⟩ := idxE_some h
      have e : j - i = (j - (i + 1)) + 1 := by omega
      refine ⟨by omega, z', by rw [e]; simpa using h2, h3, fun m y hm hy => ?_⟩
      cases m with
      | zero =>
        simp at hy
        subst hy
        cases q : PyData.eqv z d with
        | false => rfl
        | true => exact absurd q c
      | succ m => exact h4 m y (by omega) (by simpa using hy)
def fLIdx : D → D → Option D
  | .d (.list ds), .d d => if SeqAt.shaped (.list ds) = true ∧ SeqAt.shaped d = true then (idxE d ds 0).map fun j => .d (.int (j : Nat)) else none
  | _, _ => none
def isLs : D → Bool
  | .d (.list _) => true
  | _ => false
theorem de_lidxT {o e : Expr} {apos cpos : Pos} {go ge : Sm D} (Wf : FmC cb P w K mg base k N F) (ho : DE I K W F o go) (he : DE I K W F e ge)
    (hbase : ∀ i, attributeBase o "index" (F i).env (eval o (F i).env) = eval o (F i).env := by exact fun _ => rfl)
    (hfew : ∀ i, ((backTo cpos (starEach [e] (F i).env)).all (fun x => !x.1) && (backToKw cpos (keywordEach [] (F i).env)).all (fun x => x.1.isSome)
      && decide (([e] : List Expr).length + ([] : List Keyword).length + (if ([] : List Keyword).isEmpty then 0 else 1) < 30)) = true := by exact fun _ => rfl)
    (hline : (apos.endLine == cpos.line) = true := by rfl) (hs : ∀ i, starEach [e] (F i).env = (false, eval e (F i).env) :: starEach [] (F i).env := by exact fun _ => rfl) (hpl : ∀ i, (backTo cpos (starEach [] (F i).env)).any (·.1) = false := by exact fun _ => rfl) :
    DE I K W F (.Call (.Attribute o "index" apos) [e] [] cpos) (sOpT isLs fLIdx go ge) := by
  refine Hush.hu (fun i => by
  have h := pe_bm (r := rIndexD (F i).K) PySem.F.plainAttrs_list PySem.F.slot_list_index PySem.F.type_list_index (mt_indexD (by have := Wf.units i; omega)) (ho i) (pa_cons (he i) pa_nil (hs i)) (hbase i) (hfew i) hline (hs i) (hpl i)
  rw [Wf.K i] at h
  refine h.imp fun σ H Q ⟨env, s, ok, re, h⟩ => step (Po.refl ok) re h fun x v1 s1 H1 p1 _ r1 h => ?_
  by_cases c : isLs x = true
  · rw [if_pos c] at h
    unfold isLs at c
    split at c
    · rename_i ds
      cases r1 with
      | lst h1 h2 =>
        refine ⟨.inl ⟨rfl, _, SqL.of (hr_sub _ _ h1)⟩, step p1 re h fun y v2 s2 H2 p2 q2 r2 h => ?_⟩
        obtain ⟨z, e3, h⟩ := post_ofO h
        cases y with
        | d d0 =>
          have e3 : (if SeqAt.shaped (.list ds) = true ∧ SeqAt.shaped d0 = true then (idxE d0 ds 0).map fun j => D.d (.int (j : Nat)) else none) = some z := e3
          by_cases c : SeqAt.shaped (.list ds) = true ∧ SeqAt.shaped d0 = true
          · rw [if_pos c] at e3
            cases q : idxE d0 ds 0 with
            | none => rw [q] at e3; cases e3
            | some j =>
              rw [q] at e3
              cases e3
              obtain ⟨_, z, i1, i2, i3⟩ := idxE_some q
              rw [Nat.sub_zero] at i1 i3
              have l2 : Dp K H2 _ (.list ds) := dq_dp (dp_same hr_sub (dp_same q2.same.h (.lst h1 h2)))
              exact ⟨_, _, d0, ds, j, z, rfl, rfl, l2, dq_dp (dp_same hr_sub r2), c.1, c.2, i1, i2, i3, h _ s2 H2 rfl p2 (.int _)⟩
          · rw [if_neg c] at e3; cases e3
        | _ => cases e3
    · cases c
  · rw [if_neg c] at h; exact h.elim) ?_
  walk_at "hu"
theorem fLIdx_ty : ∀ x y z, fLIdx x y = some z → isLs x = true := by
  refine Hush.hu (fun x y z h => by
  unfold fLIdx at h
  split at h
  · rfl
  · cases h) ?_
  walk_at "hu"
structure Gt (K : PySem.W.Frag) (mg : Str → Option Value) (x : Str) (ys : List Str) : Prop where
  ex : ∃ (a : Addr) (o : Obj) (its : Array Value) (n : Nat), mg x = some (.ref a) ∧ K.lookup a = some o ∧ o.cls = .type "tuple" ∧ o.dict = none ∧ o.data = .seq its n ∧ its.size ≤ sizeLine ∧ Vals (ys.map V.str) its.toList
theorem dpa_strs (K : PySem.W.Frag) (H : Hp) : ∀ ys : List Str, DpAll K H (ys.map V.str) (ys.map PyData.str)
  | [] => .nil
  | y :: r => .cons (.str y) (dpa_strs K H r)
theorem Gt.sqt {x : Str} {ys : List Str} (G : Gt K mg x ys) : ∃ a, mg x = some (.ref a) ∧ ∀ H, SqT K H a (ys.map V.str) := by
  refine @Hush.hu _ (by
  obtain ⟨a, o, its, n, h1, h2, h3, h4, h5, h6, h7⟩ := G.ex
  exact ⟨a, h1, fun H => .inr ⟨o, its, n, h2, h3, h5, h6, h7⟩⟩) ?_
  walk_at "hu"
theorem Gt.c {x : Str} {ys : List Str} (G : Gt K mg x ys) : Gc K mg x (.kt (.tuple (ys.map PyData.str))) := by
  refine @Hush.hu _ (by
  obtain ⟨a, h1, h2⟩ := G.sqt
  exact ⟨_, .ref a, h1, rfl, fun H => .tup (h2 _) (dpa_strs K _ ys)⟩) ?_
  walk_at "hu"
def fGIdx (ys : List Str) : D → Option D
  | .d (.str z) => (ys.idxOf? z).map fun j => .d (.int (j : Nat))
  | _ => none
theorem idxOf_some {z : Str} : ∀ {ys : List Str} {j : Nat}, ys.idxOf? z = some j → ys[j]? = some z ∧ ∀ m, m < j → ys[m]? ≠ some z
  | [], j, h => by simp at h
  | y :: r, j, h => by
    rw [List.idxOf?_cons] at h
    by_cases c : (y == z) = true
    · rw [if_pos c] at h
      cases h
      have e : y = z := by simpa using c
      subst e
      exact ⟨rfl, fun m hm => absurd hm (Nat.not_lt_zero _)⟩
    · rw [if_neg c] at h
      cases q : r.idxOf? z with
      | none => rw [q] at h; cases h
      | some i =>
        rw [q] at h
        have h : some (i + 1) = some j := h
        cases h
        obtain ⟨h1, h2⟩ := idxOf_some q
        refine ⟨by simpa using h1, fun m hm hy => ?_⟩
        cases m with
        | zero =>
          simp at hy
          subst hy
          simp at c
        | succ m => exact h2 m (by omega) (by simpa using hy)
theorem de_gidx {x : Str} {e : Expr} {p apos cpos : Pos} {ys : List Str} {g : Sm D} (Wf : FmC cb P w K mg base k N F) (G : Gt K mg x ys) (h : DE I K W F e g) (hg : ∀ j, Gl (F j) x := by exact fun _ => rfl) (hd : (x == ("__debug__" : Str)) = false := by decide)
    (hbase : ∀ i, attributeBase (.Name x p) "index" (F i).env (eval (.Name x p) (F i).env) = eval (.Name x p) (F i).env := by exact fun _ => rfl)
    (hfew : ∀ i, ((backTo cpos (starEach [e] (F i).env)).all (fun x => !x.1) && (backToKw cpos (keywordEach [] (F i).env)).all (fun x => x.1.isSome)
      && decide (([e] : List Expr).length + ([] : List Keyword).length + (if ([] : List Keyword).isEmpty then 0 else 1) < 30)) = true := by exact fun _ => rfl)
    (hline : (apos.endLine == cpos.line) = true := by rfl) (hs : ∀ i, starEach [e] (F i).env = (false, eval e (F i).env) :: starEach [] (F i).env := by exact fun _ => rfl) (hpl : ∀ i, (backTo cpos (starEach [] (F i).env)).any (·.1) = false := by exact fun _ => rfl) :
    DE I K W F (.Call (.Attribute (.Name x p) "index" apos) [e] [] cpos) (sAp (fGIdx ys) g) := by
  refine Hush.hu (fun i => by
  obtain ⟨a, o, its, n, h1, h2, h3, h4, h5, h6, h7⟩ := G.ex
  have hh := pe_bm PySem.F.plainAttrs_tuple PySem.F.slot_tuple_index PySem.F.type_tuple_index mt_tup_index (pe_glob (X := F i) (v := .ref a) (hg i) (by rw [Wf.mg i]; exact h1) rfl hd) (pa_cons (h i) pa_nil (hs i)) (hbase i) (hfew i) hline (hs i) (hpl i)
  rw [Wf.K i] at hh
  refine hh.imp fun σ H Q ⟨env, s, ok, re, h⟩ => ⟨.inr (.inl ⟨rfl, o, h2, h3, h4⟩), step (Po.refl ok) re h fun x v1 s1 H1 p1 _ r1 h => ?_⟩
  obtain ⟨z, e3, h⟩ := post_ofO h
  unfold fGIdx at e3
  split at e3
  · rename_i z
    cases q : ys.idxOf? z with
    | none => rw [q] at e3; cases e3
    | some j =>
      rw [q] at e3
      cases e3
      cases r1
      obtain ⟨i1, i2⟩ := idxOf_some q
      exact ⟨a, ys, z, j, rfl, rfl, .inr ⟨o, its, n, h2, h3, h5, h6, h7⟩, i1, i2, h _ s1 H1 rfl p1 (.int _)⟩
  · cases e3) ?_
  walk_at "hu"
end
end Dl
namespace Dl
open PySem L2
abbrev St1.zz (s : St1) (Z : Hp) : St1 := { s with Z := Z }
def Ld (o : HO) : Prop := (∃ xs, o = .lst xs) ∨ (∃ k, o = .dK k) ∨ (∃ k, o = .dT k)
theorem Ld.nt {o : HO} (h : Ld o) : NT o := by
  refine @Hush.hu _ (by
  refine ⟨fun xs e => ?_, fun φ e => ?_⟩
  · rcases h with ⟨_, h⟩ | ⟨_, h⟩ | ⟨_, h⟩ <;> rw [h] at e <;> cases e
  · rcases h with ⟨_, h⟩ | ⟨_, h⟩ | ⟨_, h⟩ <;> rw [h] at e <;> cases e) ?_
  walk_at "hu"
theorem Ld.tbl {o : HO} (h : Ld o) (ps : Array Value) : o ≠ .tbl ps := by
  refine Hush.hu (fun e => by
  rcases h with ⟨_, h⟩ | ⟨_, h⟩ | ⟨_, h⟩ <;> rw [h] at e <;> cases e) ?_
  walk_at "hu"
theorem Ld.code {o : HO} (h : Ld o) (c : Addr) (q : Str) : o ≠ LamX.CodeO c q := by
  refine Hush.hu (fun e => by
  unfold LamX.CodeO at e
  rcases h with ⟨_, h⟩ | ⟨_, h⟩ | ⟨_, h⟩ <;> rw [h] at e <;> cases e) ?_
  walk_at "hu"
section
variable {I : SI} {K : PySem.W.Frag} {Z : Hp} {s s1 s2 : St1} {H H1 : Hp} {L : Addr} {o o' : HO}
theorem m_zz {a : Addr} : I.M (s.zz (upd Z L o)) a → a = L ∨ I.M (s.zz Z) a := by
  refine Hush.hu (fun m => by
  rcases m with m | ⟨u, m⟩ | m
  · exact .inr (.inl m)
  · by_cases c : a = L
    · exact .inl c
    · rw [show (s.zz (upd Z L o)).Z a = upd Z L o a from rfl, upd_ne c] at m
      exact .inr (.inr (.inl ⟨u, m⟩))
  · exact .inr (.inr (.inr m))) ?_
  walk_at "hu"
theorem m_up {a : Addr} : I.M (s.zz Z) a → I.M (s.zz (upd Z L o)) a := by
  refine Hush.hu (fun m => by
  rcases m with m | ⟨u, m⟩ | m
  · exact .inl m
  · by_cases c : a = L
    · exact .inr (.inl ⟨o, by rw [c]; exact upd_same⟩)
    · exact .inr (.inl ⟨u, by show upd Z L o a = _; rw [upd_ne c]; exact m⟩)
  · exact .inr (.inr m)) ?_
  walk_at "hu"
theorem m_at : I.M (s.zz (upd Z L o)) L := by
  refine Hush.hu (.inr (.inl ⟨o, upd_same⟩)) ?_
  walk_at "hu"
theorem hr_put (hL : H L = none) : VLe (Hr I (s.zz Z) H) (Hr I (s.zz (upd Z L o)) (upd H L o)) := by
  refine Hush.hu (vle_of (fun a u q => by
  obtain ⟨q1, q2⟩ := hr_of q
  have c : a ≠ L := fun e => by subst e; rw [hL] at q1; cases q1
  exact hr_in (by rw [upd_ne c]; exact q1) fun m => (m_zz m).elim c q2) fun _ _ _ e => e) ?_
  walk_at "hu"
theorem hr_set : VLe (Hr I (s.zz (upd Z L o)) H) (Hr I (s.zz (upd Z L o')) (upd H L o')) := by
  refine Hush.hu (vle_of (fun a u q => by
  obtain ⟨q1, q2⟩ := hr_of q
  have c : a ≠ L := fun e => q2 (by rw [e]; exact m_at)
  exact hr_in (by rw [upd_ne c]; exact q1) fun m => q2 (m_up ((m_zz m).elim (fun z => absurd z c) id))) fun _ _ _ e => e) ?_
  walk_at "hu"
theorem hr_get : VLe (Hr I (s.zz (upd Z L o)) H) (Hr I (s.zz Z) H) := by
  refine Hush.hu (vle_of (fun a u q => by
  obtain ⟨q1, q2⟩ := hr_of q
  exact hr_in q1 fun m => q2 (m_up m)) fun _ _ _ e => e) ?_
  walk_at "hu"
theorem pr_put (h : I.ok K (s.zz Z) H) (hL : H L = none) (no : Ld o) : I.ok K (s.zz (upd Z L o)) (upd H L o) := by
  refine @Hush.hu _ (by
  have zL : Z L = none := by
    cases q : Z L with
    | none => rfl
    | some u => rw [(h.z L u q).1] at hL; cases hL
  refine ⟨fun n p k ts e => ?_, h.inj, h.dom, fun a u q => ?_, h.tab.ext (same_new hL), h.fl⟩
  · obtain ⟨a, dx, vs, w1, z1, zx1, c1, hd1⟩ := h.nod n p k ts e
    obtain ⟨oa, ha, _⟩ := holds_at hd1
    have n1 : a ≠ L := fun z => by rw [z, hL] at ha; cases ha
    have n2 : k.isIns = true → dx ≠ L := fun hi z => by have := holds_dx hd1 hi; rw [z, hL] at this; cases this
    exact ⟨a, dx, vs, w1, by show upd Z L o a = _; rw [upd_ne n1]; exact z1, fun hi => by show upd Z L o dx = _; rw [upd_ne (n2 hi)]; exact zx1 hi, chs_same (hr_put hL) c1,
      holds_same (fun u z => by rw [upd_ne n1]; exact z) (fun hi u z => by rw [upd_ne (n2 hi)]; exact z) hd1⟩
  · have q : upd Z L o a = some u := q
    by_cases c : a = L
    · subst c
      rw [upd_same] at q ⊢
      cases q
      exact ⟨rfl, no.nt, no.tbl⟩
    · rw [upd_ne c] at q ⊢
      exact h.z a u q) ?_
  walk_at "hu"
theorem pr_set (h : I.ok K (s.zz (upd Z L o)) H) (lo : Ld o) (no : Ld o') : I.ok K (s.zz (upd Z L o')) (upd H L o') := by
  refine @Hush.hu _ (by
  have hL : H L = some o := (h.z L o upd_same).1
  refine ⟨fun n p k ts e => ?_, h.inj, h.dom, fun a u q => ?_, fun q hq => ?_, h.fl⟩
  · obtain ⟨a, dx, vs, w1, z1, zx1, c1, hd1⟩ := h.nod n p k ts e
    have z1 : upd Z L o a = none := z1
    have n1 : a ≠ L := fun z => by rw [z, upd_same] at z1; cases z1
    have n2 : k.isIns = true → dx ≠ L := fun hi z => by have y : upd Z L o dx = none := zx1 hi; rw [z, upd_same] at y; cases y
    rw [upd_ne n1] at z1
    refine ⟨a, dx, vs, w1, by show upd Z L o' a = _; rw [upd_ne n1]; exact z1, fun hi => ?_, chs_same hr_set c1,
      holds_same (fun u z => by rw [upd_ne n1]; exact z) (fun hi u z => by rw [upd_ne (n2 hi)]; exact z) hd1⟩
    have y : upd Z L o dx = none := zx1 hi
    show upd Z L o' dx = _
    rw [upd_ne (n2 hi)] at y ⊢
    exact y
  · have q : upd Z L o' a = some u := q
    by_cases c : a = L
    · subst c
      rw [upd_same] at q ⊢
      cases q
      exact ⟨rfl, no.nt, no.tbl⟩
    · rw [upd_ne c] at q ⊢
      exact h.z a u (by show upd Z L o a = _; rw [upd_ne c]; exact q)
  · obtain ⟨ps, t1, t2, t3⟩ := h.tab q hq
    refine ⟨ps, by rw [upd_ne (fun z => by rw [z, hL] at t1; exact lo.tbl _ (Option.some.inj t1))]; exact t1, t2, fun p' cv hcv => ?_⟩
    obtain ⟨c1, y1, y2⟩ := t3 p' cv hcv
    exact ⟨c1, y1, by rw [upd_ne (fun z => by rw [z, hL] at y2; exact lo.code _ _ (Option.some.inj y2))]; exact y2⟩) ?_
  walk_at "hu"
theorem pr_get (h : I.ok K (s.zz (upd Z L o)) H) (zL : Z L = none) : I.ok K (s.zz Z) H := by
  refine @Hush.hu _ (by
  have f : ∀ {a : Addr}, upd Z L o a = none → Z a = none := fun {a} e => by
    by_cases c : a = L
    · rw [c, upd_same] at e; cases e
    · rw [upd_ne c] at e; exact e
  refine ⟨fun n p k ts e => ?_, h.inj, h.dom, fun a u q => h.z a u (by show upd Z L o a = _; rw [upd_ne (fun e => by rw [e, show (s.zz Z).Z L = Z L from rfl, zL] at q; cases q)]; exact q), h.tab, h.fl⟩
  obtain ⟨a, dx, vs, w1, z1, zx1, c1, hd1⟩ := h.nod n p k ts e
  exact ⟨a, dx, vs, w1, f z1, fun hi => f (zx1 hi), chs_same hr_get c1, hd1⟩) ?_
  walk_at "hu"
structure Gro (I : SI) (K : PySem.W.Frag) (L : Addr) (s1 : St1) (H1 : Hp) (o : HO) (s : St1) (H : Hp) : Prop where
  ld : Ld o
  ze : s.Z = upd s1.Z L o
  ok : I.ok K s H
  po : Po I K s1 H1 (s.zz s1.Z) H
  sm : VLe (Hr I s1 H1) (Hr I s H)
theorem Gro.start (h : I.ok K s1 H1) (hL : H1 L = none) (no : Ld o) : Gro I K L s1 H1 o (s1.zz (upd s1.Z L o)) (upd H1 L o) := by
  refine Hush.hu (⟨no, rfl, pr_put (Z := s1.Z) h hL no, Po.up h (same_new hL), hr_put (Z := s1.Z) hL⟩) ?_
  walk_at "hu"
theorem Gro.step (g : Gro I K L s1 H1 o s H) {H2 : Hp} (p : Po I K s H s2 H2) (hL : H1 L = none) (zL : s1.Z L = none) : Gro I K L s1 H1 o s2 H2 := by
  refine @Hush.hu _ (by
  obtain ⟨t, w, Z⟩ := s
  obtain ⟨t2, w2, Z2⟩ := s2
  obtain ⟨ld, ze, ok, po, sm⟩ := g
  have ze : Z = upd s1.Z L o := ze
  subst ze
  have ze2 : Z2 = upd s1.Z L o := p.ze
  subst ze2
  have mb : ∀ a, I.M (St1.zz ⟨t2, w2, upd s1.Z L o⟩ s1.Z) a → I.M s1 a ∨ H1 a = none := fun a m => by
    rcases p.gro a (m_up (L := L) (o := o) m) with q | q
    · rcases m_zz (s := ⟨t, w, s1.Z⟩) q with q | q
      · exact .inr (by rw [q]; exact hL)
      · exact po.gro a q
    · by_cases z : I.M s1 a
      · exact .inl z
      · refine .inr ?_
        cases r : H1 a with
        | none => rfl
        | some u => rw [po.keep a u z r] at q; cases q
  refine ⟨ld, rfl, p.ok, ⟨fun a u m e => ?_, pr_get (s := ⟨t2, w2, s1.Z⟩) (L := L) (o := o) p.ok zL, mb, fun a u q => let ⟨o1, e1⟩ := po.live a u q; p.live a o1 e1, fun n q x e => p.wle n q x (po.wle n q x e), rfl⟩, sm.trans p.same⟩
  have e3 := po.keep a u m e
  have c : a ≠ L := fun z => by subst z; rw [hL] at e; cases e
  refine p.keep a u (fun z => ?_) e3
  rcases m_zz (s := ⟨t, w, s1.Z⟩) z with z | z
  · exact c z
  · exact (po.gro a z).elim m fun n => by rw [n] at e; cases e) ?_
  walk_at "hu"
theorem Gro.put (g : Gro I K L s1 H1 o s H) (hL : H1 L = none) (zL : s1.Z L = none) (no : Ld o') : Gro I K L s1 H1 o' (s.zz (upd s1.Z L o')) (upd H L o') := by
  refine @Hush.hu _ (by
  obtain ⟨t, w, Z⟩ := s
  obtain ⟨ld, ze, ok, po, sm⟩ := g
  have ze : Z = upd s1.Z L o := ze
  subst ze
  refine ⟨no, rfl, pr_set (s := ⟨t, w, s1.Z⟩) ok ld no, ⟨fun a u m e => ?_, pr_get (s := ⟨t, w, s1.Z⟩) (pr_set (s := ⟨t, w, s1.Z⟩) (o' := o') ok ld no) zL, fun a m => po.gro a m, fun a u q => ?_, po.wle, rfl⟩, sm.trans (hr_set (s := ⟨t, w, s1.Z⟩))⟩
  · rw [upd_ne (fun z => by subst z; rw [hL] at e; cases e)]
    exact po.keep a u m e
  · by_cases c : a = L
    · subst c; exact ⟨o', upd_same⟩
    · rw [upd_ne c]
      exact po.live a u q) ?_
  walk_at "hu"
theorem Gro.psm (g : Gro I K L s1 H1 o s H) : VLe (Hr I s H) (Hr I (s.zz (upd s1.Z L o')) (upd H L o')) := by
  refine @Hush.hu _ (by
  obtain ⟨t, w, Z⟩ := s
  obtain ⟨ld, ze, ok, po, sm⟩ := g
  have ze : Z = upd s1.Z L o := ze
  subst ze
  exact hr_set (s := ⟨t, w, s1.Z⟩)) ?_
  walk_at "hu"
theorem Gro.gsm (g : Gro I K L s1 H1 o s H) : VLe (Hr I s H) (Hr I (s.zz s1.Z) H) := by
  refine @Hush.hu _ (by
  obtain ⟨t, w, Z⟩ := s
  obtain ⟨ld, ze, ok, po, sm⟩ := g
  have ze : Z = upd s1.Z L o := ze
  subst ze
  exact hr_get (s := ⟨t, w, s1.Z⟩)) ?_
  walk_at "hu"
theorem Gro.at_ (g : Gro I K L s1 H1 o s H) : H L = some o := by
  refine Hush.hu ((g.ok.z L o (by rw [g.ze]; exact upd_same)).1) ?_
  walk_at "hu"
theorem Gro.hr (g : Gro I K L s1 H1 o s H) (zL : s1.Z L = none) : (Hr I (s.zz s1.Z) H).h L = some o := by
  refine Hush.hu (hr_in g.at_ fun m => by
  have hz : s.Z L = some o := by rw [g.ze]; exact upd_same
  rcases m with ⟨n, p, k, ts, a, dx, e1, e2, e3⟩ | ⟨w, m⟩ | ⟨q, hq, e⟩
  · obtain ⟨a', dx', vs, w1, z1, zx1, c1, hd1⟩ := g.ok.nod n p k ts e1
    rw [show s.w n p = _ from e2] at w1
    cases w1
    rcases e3 with e3 | ⟨hi, e3⟩
    · rw [← e3, hz] at z1; cases z1
    · have z1 := zx1 hi
      rw [← e3, hz] at z1; cases z1
  · have m : s1.Z L = some w := m
    rw [zL] at m; cases m
  · obtain ⟨ps, t1, _⟩ := g.ok.tab q hq
    rw [e, g.at_] at t1
    exact g.ld.tbl _ (Option.some.inj t1)) ?_
  walk_at "hu"
theorem ok_zL (h : I.ok K s H) (hL : H L = none) : s.Z L = none := by
  refine @Hush.hu _ (by
  cases q : s.Z L with
  | none => rfl
  | some u => rw [(h.z L u q).1] at hL; cases hL) ?_
  walk_at "hu"
end
def spP (K : PySem.W.Frag) (n : Nat) (m : List D → Option D) : Sp := fun vs H Q _ => vs.length = n ∧ ∃ (I : SI) (s : St1) (ds : List D) (d : D), I.ok K s H ∧ RpL K (Hr I s H) ds vs ∧ m ds = some d ∧ ∀ v s' H', s'.t = s.t → Po I K s H s' H' → Rp K (Hr I s' H') d v → Q v H'
def spS (K : PySem.W.Frag) (mg : Str → Option Value) (n : Nat) (m : List D → Ts → R D) : Sp := fun vs H Q E => vs.length = n ∧ ∃ (I : SI) (s : St1) (ds : List D), I.mg = mg ∧ I.ok K s H ∧ RpL K (Hr I s H) ds vs ∧
  (m ds s.t).Post (fun d t => ∀ v s' H', s'.t = t → Po I K s H s' H' → Rp K (Hr I s' H') d v → Q v H') (fun x t => ∀ cls dd s' H', s'.t = t → Po I K s H s' H' → ExAt K I.mg (Hr I s' H') x cls dd → E cls dd H')
structure Gf (P : Program) (w : World) (K : PySem.W.Frag) (mg : Str → Option Value) (base : Heap) (x : Str) (k n : Nat) (m : List D → Option D) : Prop where
  ex : ∃ (f : Addr) (fd : FuncData) (ps : List Str), ps.length = n ∧ mg x = some (.ref f) ∧ PySem.W.keepIn K (.ref f) = true ∧ Binds K fd ps [] ∧ FnOk P w K mg base CX0 k f fd ps (spP K n m)
  ln : ∀ ds d, m ds = some d → ds.length = n
structure Gs (P : Program) (w : World) (K : PySem.W.Frag) (mg : Str → Option Value) (base : Heap) (x : Str) (k n : Nat) (m : List D → Ts → R D) : Prop where
  ex : ∃ (f : Addr) (fd : FuncData) (ps : List Str), ps.length = n ∧ mg x = some (.ref f) ∧ PySem.W.keepIn K (.ref f) = true ∧ Binds K fd ps [] ∧ FnOk P w K mg base (L2.CX P w) k f fd ps (spS K mg n m)
  ln : ∀ ds t, ds.length ≠ n → m ds t = .no
theorem Gs.len {P : Program} {w : World} {K : PySem.W.Frag} {mg : Str → Option Value} {base : Heap} {x : Str} {k n : Nat} {m : List D → Ts → R D} (G : Gs P w K mg base x k n m) {ds : List D} {t : Ts} {A : D → Ts → Prop} {B : Exn → Ts → Prop} (h : (m ds t).Post A B) : ds.length = n := by
  refine @Hush.hu _ (by
  by_cases c : ds.length = n
  · exact c
  · rw [G.ln ds t c] at h; exact h.elim) ?_
  walk_at "hu"
section
variable {cb : Bool} {ι : Type} {P : Program} {w : World} {K : PySem.W.Frag} {mg : Str → Option Value} {base : Heap} {k : Nat} {N : List Str} {F : ι → Cx} {I : SI} {W : WX} {pos : Pos}
theorem de_call {x : Str} {e : Expr} {es : List Expr} {p : Pos} {j n : Nat} {m : List D → Option D} {g : Sm (List D)} (Wf : FmC true P w K mg base k N F) (G : Gf P w K mg base x j n m) (hj : j ≤ k) (ha : DA I K W F (e :: es) g)
    (hg : ∀ i, Gl (F i) x := by exact fun _ => rfl) (hdb : (x == ("__debug__" : Str)) = false := by decide)
    (he : ∀ i, starEach (e :: es) (F i).env = (false, eval e (F i).env) :: starEach es (F i).env := by exact fun _ => rfl) (hpl : ∀ i, (backTo pos (starEach es (F i).env)).any (·.1) = false := by exact fun _ => rfl) :
    DE I K W F (.Call (.Name x p) (e :: es) [] pos) (sMk m g) := by
  refine Hush.hu (fun i => by
  obtain ⟨f, fd, ps, h0, h1, h2, h3, h4⟩ := G.ex
  have h4' : FnOk (F i).prog (F i).w (F i).K (F i).mg (F i).base CX0 j f fd ps (spP K n m) := by rw [Wf.prog i, Wf.w i, Wf.K i, Wf.mg i, Wf.base i]; exact h4
  refine (pe_call h4' ((Wf.room i).mono hj) (hg i) (by rw [Wf.mg i]; exact h1) (by rw [Wf.K i]; exact h2) (by rw [Wf.K i]; exact h3) .nil pass0 (ha i) hdb (he i) (hpl i)).imp fun σ H Q ⟨env, s, ok, re, h⟩ =>
    stepL (Po.refl ok) re h fun xs vs s1 H1 p1 _ r1 h => ?_
  obtain ⟨z, e, h⟩ := post_ofO h
  rw [List.append_nil]
  exact ⟨by rw [rpl_len r1]; exact G.ln _ _ e, I, s1, xs, z, p1.ok, r1, e, fun v s' H' e2 p2 r2 => h v s' H' e2 (p1.trans p2) r2⟩) ?_
  walk_at "hu"
def sCall (m : List D → Ts → R D) (a : Sm (List D)) : Sm D := fun env t => (a env t).bind m
theorem de_callS {x : Str} {e : Expr} {es : List Expr} {p : Pos} {j n : Nat} {m : List D → Ts → R D} {g : Sm (List D)} (Wf : FmC true P w K mg base k N F) (tk : ∀ i, Takes (F i) W) (im : I.mg = mg) (G : Gs P w K mg base x j n m) (hj : j ≤ k) (ha : DA I K W F (e :: es) g)
    (hg : ∀ i, Gl (F i) x := by exact fun _ => rfl) (hdb : (x == ("__debug__" : Str)) = false := by decide)
    (he : ∀ i, starEach (e :: es) (F i).env = (false, eval e (F i).env) :: starEach es (F i).env := by exact fun _ => rfl) (hpl : ∀ i, (backTo pos (starEach es (F i).env)).any (·.1) = false := by exact fun _ => rfl) :
    DE I K W F (.Call (.Name x p) (e :: es) [] pos) (sCall m g) := by
  refine Hush.hu (fun i => by
  obtain ⟨f, fd, ps, h0, h1, h2, h3, h4⟩ := G.ex
  have h4' : FnOk (F i).prog (F i).w (F i).K (F i).mg (F i).base (L2.CX (F i).prog (F i).w) j f fd ps (spS K mg n m) := by rw [Wf.prog i, Wf.w i, Wf.K i, Wf.mg i, Wf.base i]; exact h4
  refine (pe_callS h4' ((Wf.room i).mono hj) (hg i) (by rw [Wf.mg i]; exact h1) (by rw [Wf.K i]; exact h2) (by rw [Wf.K i]; exact h3) (fun σ => passAt (tk i) σ) (ha i) hdb (he i) (hpl i)).imp fun σ H Q ⟨env, s, ok, re, h⟩ =>
    stepL (Po.refl ok) re h fun xs vs s1 H1 p1 _ r1 h => ?_
  exact ⟨by rw [rpl_len r1]; exact G.len h, I, s1, xs, im, p1.ok, r1, h.mono (fun d t q v s' H' e2 p2 r2 => q v s' H' e2 (p1.trans p2) r2) fun x t q cls dd s' H' e2 p2 a => q cls dd s' H' e2 (p1.trans p2) a⟩) ?_
  walk_at "hu"
end
theorem room_un {k : Nat} {A : Around} (h : Room k A) : A.units + 200 < cLine := by
  refine @Hush.hu _ (by
  have := h.un
  omega) ?_
  walk_at "hu"
structure Df (K : PySem.W.Frag) (mg : Str → Option Value) (x qual : Str) (st : Stmt) (ps : List Str) : Prop where
  ex : ∃ (f : Addr) (fd : FuncData), mg x = some (.ref f) ∧ Fun K x qual st f fd ∧ Binds K fd ps []
def startE (L n : Nat) (ds : List D) : Env := ds.map some ++ List.replicate (L - n) none
def retO : Option Out → Option D
  | some (.rt d) => some d
  | some (.nx _) => some (.d .none)
  | _ => none
def mOf (L n : Nat) (gs : Pm Out) : List D → Option D := fun ds => if ds.length = n then retO (gs (startE L n ds)) else none
def retR (n0 : Nat) : R Out → R D
  | .ok (.rt d) t => .ok d (t.take (max n0 (top d)))
  | .ok (.nx _) t => .ok (.d .none) (t.take n0)
  | .ex x t => .ex x (t.take n0)
  | _ => .no
def mOfS (L n : Nat) (gs : Sm Out) : List D → Ts → R D := fun ds t => if ds.length = n then retR t.length (gs (startE L n ds) t) else .no
theorem re_start {K : PySem.W.Frag} {H : Vw} {N : List Str} {ds : List D} {vs : List V} {n : Nat} (h : RpL K H ds vs) (hn : ds.length = n) : RE K H (startE N.length n ds) (L2.start N vs) := by
  refine @Hush.hu _ (by
  have hl := rpl_len h
  unfold startE L2.start
  refine ⟨by simp [hl, hn], fun i d e => ?_⟩
  by_cases c : i < ds.length
  · rw [List.getElem?_append_left (by simpa using c), List.getElem?_map] at e
    cases q : ds[i]? with
    | none => rw [q] at e; cases e
    | some d' =>
      rw [q] at e
      cases e
      obtain ⟨v, h1, h2⟩ := rpl_get h q
      refine ⟨v, ?_, h2⟩
      rw [List.getElem?_append_left (by rw [List.length_map]; rw [hl]; exact c), List.getElem?_map, h1]
      rfl
  · rw [List.getElem?_append_right (by simpa using c)] at e
    rw [List.getElem?_replicate] at e
    split at e <;> cases e) ?_
  walk_at "hu"
section
variable {P : Program} {w : World} {K : PySem.W.Frag} {mg : Str → Option Value} {base : Heap}
abbrev bodyX (P : Program) (w : World) (K : PySem.W.Frag) (mg : Str → Option Value) (base : Heap) (N : List Str) (qual : Str) (st : Stmt) (f : Addr) (cdv : Value) (A : Around) (outer : List PySem.Env) (s : Shared) (H : Hp) (E : XK) : Unit → Cx := fun _ => (cxOf CX0 P w K mg base N qual (defScope st) f cdv A outer s H E).nox
abbrev bodyR (P : Program) (w : World) (K : PySem.W.Frag) (mg : Str → Option Value) (base : Heap) (N : List Str) (qual : Str) (st : Stmt) (f : Addr) (cdv : Value) (A : Around) (outer : List PySem.Env) (s : Shared) (H : Hp) (E : XK) : Unit → Cx := fun _ => cxOf (L2.CX P w) P w K mg base N qual (defScope st) f cdv A outer s H E
theorem gf_of {x qual : Str} {st : Stmt} {N ps : List Str} {k n : Nat} {gs : Pm Out} (T : Df K mg x qual st ps) (S : FnScope N ps (defScope st)) (hn : ps.length = n)
    (hb : ∀ (f : Addr) (cdv : Value) (A : Around) (outer : List PySem.Env) (s : Shared) (H : Hp) (E : XK), Fm P w K mg base k N (bodyX P w K mg base N qual st f cdv A outer s H E) → ∀ I : SI, DSs I K WF (bodyX P w K mg base N qual st f cdv A outer s H E) (defBody st) (lift gs)) :
    Gf P w K mg base x (k + 1) n (mOf N.length n gs) := by
  refine @Hush.hu _ (by
  obtain ⟨f, fd, h1, F, hbi⟩ := T.ex
  refine ⟨⟨f, fd, ps, hn, h1, F.kp, hbi, ?_⟩, fun ds d h => ?_⟩
  · refine F.ok S (fun vs H Q E h => h.1.trans hn.symm) (fun cdv A outer s H vs Q E hr h => ?_)
    obtain ⟨hl, I, s0, ds, d, ok, r, e, kk⟩ := h
    refine ⟨_, hb f cdv A outer s H E ⟨fun _ => rfl, fun _ => rfl, fun _ => rfl, fun _ => rfl, fun _ => rfl, fun _ _ => rfl, fun _ _ => hr, fun _ => room_un hr, S.nd, fun _ => rfl⟩ I (), ?_⟩
    have hd : ds.length = n := (rpl_len r).symm.trans hl
    unfold mOf at e
    rw [if_pos hd] at e
    refine ⟨startE N.length n ds, s0, ok, re_start r hd, ?_⟩
    unfold lift
    cases q : gs (startE N.length n ds) with
    | none => rw [q] at e; cases e
    | some o =>
      rw [q] at e
      cases o with
      | rt d' => cases e; exact fun v s' H' e p rr => kk v s' H' e p rr
      | nx en => cases e; exact fun σ' s' H' e p _ => kk .non s' H' e p .non
      | bk en => cases e
      | ct en => cases e
  · unfold mOf at h
    by_cases c : ds.length = n
    · exact c
    · rw [if_neg c] at h; cases h) ?_
  walk_at "hu"
theorem gs_of {x qual : Str} {st : Stmt} {N ps : List Str} {k n : Nat} {gs : Sm Out} (T : Df K mg x qual st ps) (S : FnScope N ps (defScope st)) (hn : ps.length = n)
    (hb : ∀ (f : Addr) (cdv : Value) (A : Around) (outer : List PySem.Env) (s : Shared) (H : Hp) (E : XK), Fm P w K mg base k N (bodyR P w K mg base N qual st f cdv A outer s H E) → (∀ i, Takes (bodyR P w K mg base N qual st f cdv A outer s H E i) (fun cls d _ H => E cls d H)) →
      ∀ I : SI, I.mg = mg → DSs I K (fun cls d _ H => E cls d H) (bodyR P w K mg base N qual st f cdv A outer s H E) (defBody st) gs) :
    Gs P w K mg base x (k + 1) n (mOfS N.length n gs) := by
  refine @Hush.hu _ (by
  obtain ⟨f, fd, h1, F, hbi⟩ := T.ex
  refine ⟨⟨f, fd, ps, hn, h1, F.kp, hbi, ?_⟩, fun ds t h => if_neg h⟩
  refine F.okX S (fun vs H Q E h => h.1.trans hn.symm) (fun cdv A outer s H vs Q E hr h => ?_)
  obtain ⟨hl, I, s0, ds, im, ok, r, e⟩ := h
  refine ⟨_, hb f cdv A outer s H E ⟨fun _ => rfl, fun _ => rfl, fun _ => rfl, fun _ => rfl, fun _ => rfl, fun _ _ => rfl, fun _ _ => hr, fun _ => room_un hr, S.nd, fun _ => rfl⟩ (fun _ => takes_of rfl rfl rfl rfl) I im (), ?_⟩
  have hd : ds.length = n := (rpl_len r).symm.trans hl
  unfold mOfS at e
  rw [if_pos hd] at e
  refine ⟨startE N.length n ds, s0, ok, re_start r hd, ?_⟩
  cases q : gs (startE N.length n ds) s0.t with
  | no => rw [q] at e; exact e.elim
  | ex x t =>
    rw [q] at e
    exact fun σ' cls dd s' H' e2 p a => e cls dd (cutS s' s0.t.length) H' (by rw [← e2]) (po_cut p ok (Nat.le_refl _)) (exat_cut a)
  | ok o t =>
    rw [q] at e
    cases o with
    | rt d' => exact fun v s' H' e2 p rr => e v (cutS s' (max s0.t.length (top d'))) H' (by rw [← e2]) (po_cut p ok (Nat.le_max_left _ _)) (rp_cut rr (Nat.le_max_right _ _))
    | nx en => exact fun σ' s' H' e2 p _ => e .non (cutS s' s0.t.length) H' (by rw [← e2]) (po_cut p ok (Nat.le_refl _)) .non
    | bk en => exact e.elim
    | ct en => exact e.elim) ?_
  walk_at "hu"
end
end Dl
namespace Dl
open PySem L2
def Str1 (t : TG) (vs : List Nat) : Prop := ∀ (v : V) (σ : L2.St) (H : Hp) (Q Q' : L2.St → Hp → Prop), (∀ σ2 H2, wipe σ2 vs = wipe σ vs → Q σ2 H2 → Q' σ2 H2) → t v σ H Q → t v σ H Q'
theorem wipe_set {σ : L2.St} {vs : List Nat} {j : Nat} {x : Option V} (hj : j ∈ vs) : wipe (σ.set j x) vs = wipe σ vs := by
  refine @Hush.hu _ (by
  induction vs with
  | nil => cases hj
  | cons v r ih =>
    unfold wipe
    by_cases c : j = v
    · subst c
      by_cases hr : j ∈ r
      · rw [ih hr]
      · have e : ∀ (l : List Nat) (τ : L2.St), j ∉ l → wipe (τ.set j x) l = (wipe τ l).set j x := by
          intro l
          induction l with
          | nil => intro τ _; rfl
          | cons a l ih2 =>
            intro τ hn
            unfold wipe
            rw [ih2 τ (fun z => hn (List.mem_cons_of_mem _ z)), List.set_comm _ _ (fun z => hn (by rw [z]; exact List.mem_cons_self))]
        rw [e r σ hr, List.set_set]
    · rw [ih (by rcases List.mem_cons.mp hj with e | e; exact absurd e c; exact e)]) ?_
  walk_at "hu"
theorem wipe_wipe (σ : L2.St) (vs : List Nat) : wipe (wipe σ vs) vs = wipe σ vs := by
  refine @Hush.hu _ (by
  have e : ∀ l : List Nat, (∀ j ∈ l, j ∈ vs) → wipe (wipe σ l) vs = wipe σ vs := by
    intro l
    induction l with
    | nil => intro _; rfl
    | cons a l ih =>
      intro h
      show wipe ((wipe σ l).set a none) vs = _
      rw [wipe_set (h a List.mem_cons_self)]
      exact ih fun j hj => h j (List.mem_cons_of_mem _ hj)
  exact e vs fun _ h => h) ?_
  walk_at "hu"
theorem re_wipe {K : PySem.W.Frag} {H : Vw} {env : Env} {σ : L2.St} (r : RE K H env σ) : ∀ vs : List Nat, RE K H (wipeE env vs) (wipe σ vs)
  | [] => r
  | v :: vs => (re_wipe r vs).unset v
def EvG (I : SI) (K : PySem.W.Frag) (t : TG) (g : D → Env → Option Env) : Prop := ∀ (env : Env) (s : St1) (σ : L2.St) (H : Hp) (d : D) (v : V) (env' : Env) (Q : L2.St → Hp → Prop), I.ok K s H → RE K (Hr I s H) env σ → Rp K (Hr I s H) d v → g d env = some env' →
  (∀ σ' , RE K (Hr I s H) env' σ' → Q σ' H) → t v σ H Q
def EvGs (I : SI) (K : PySem.W.Frag) (t : TGs) (g : List D → Env → Option Env) : Prop := ∀ (env : Env) (s : St1) (σ : L2.St) (H : Hp) (ds : List D) (vs : List V) (env' : Env) (Q : L2.St → Hp → Prop), I.ok K s H → RE K (Hr I s H) env σ → RpL K (Hr I s H) ds vs → g ds env = some env' →
  (∀ σ' , RE K (Hr I s H) env' σ' → Q σ' H) → t vs σ H Q
section
variable {ι : Type} {P : Program} {w : World} {K : PySem.W.Frag} {mg : Str → Option Value} {base : Heap} {k : Nat} {N : List Str} {F : ι → Cx} {I : SI} {W : WX} {pos : Pos}
def DGv (I : SI) (K : PySem.W.Frag) (F : ι → Cx) (vs : List Nat) (e : Expr) (g : D → Env → Option Env) : Prop := ∃ t, (∀ i, PG (F i) e t) ∧ EvG I K t g ∧ Str1 t vs
def DG (I : SI) (K : PySem.W.Frag) (F : ι → Cx) (e : Expr) (g : D → Env → Option Env) : Prop := ∃ t, (∀ i, PG (F i) e t) ∧ EvG I K t g
def DGs (I : SI) (K : PySem.W.Frag) (F : ι → Cx) (es : List Expr) (g : List D → Env → Option Env) : Prop := ∃ t, (∀ i, PGs (F i) es t) ∧ EvGs I K t g
def gN (i : Nat) : D → Env → Option Env := fun d env => some (env.set i (some d))
theorem evg_name (i : Nat) : EvG I K (gName i) (gN i) := by
  refine Hush.hu (fun env s σ H d v env' Q ok re r e k => by
  cases e
  exact k _ (re.set r)) ?_
  walk_at "hu"
theorem dg_name (Wf : FmC cb P w K mg base k N F) (i : Nat) {x : Str} (hN : ∀ j, (F j).N[i]? = some x := by exact fun _ => rfl) (hx : ∀ j, Loc (F j).env.scope x := by first | exact fun _ => Or.inl rfl | exact fun _ => Or.inr rfl)
    (hf : ∀ j, (F j).fn x = true ∨ (F j).env.scope.names.lookup x = some .local := by first | exact fun _ => Or.inl rfl | exact fun _ => Or.inr rfl) : DG I K F (.Name x pos) (gN i) := by
  refine Hush.hu (⟨gName i, fun j => pg_name (by rw [Wf.N j]; exact Wf.nd) (hN j) (hx j) (hf j), evg_name i⟩) ?_
  walk_at "hu"
theorem dgv_name (Wf : FmC cb P w K mg base k N F) {vs : List Nat} (i : Nat) {x : Str} (hi : i ∈ vs) (hN : ∀ j, (F j).N[i]? = some x := by exact fun _ => rfl) (hx : ∀ j, Loc (F j).env.scope x := by first | exact fun _ => Or.inl rfl | exact fun _ => Or.inr rfl)
    (hf : ∀ j, (F j).fn x = true ∨ (F j).env.scope.names.lookup x = some .local := by first | exact fun _ => Or.inl rfl | exact fun _ => Or.inr rfl) : DGv I K F vs (.Name x pos) (gN i) := by
  refine Hush.hu (⟨gName i, fun j => pg_name (by rw [Wf.N j]; exact Wf.nd) (hN j) (hx j) (hf j), evg_name i, fun v σ H Q Q' m q => m _ _ (wipe_set hi) q⟩) ?_
  walk_at "hu"
def gE : List D → Env → Option Env := fun ds env => if ds.isEmpty = true then some env else none
theorem evgs_nil : EvGs I K gNil gE := by
  refine Hush.hu (fun env s σ H ds us env' Q ok re r e k => by
  cases r with
  | nil =>
    cases e
    exact ⟨rfl, k _ re⟩
  | cons _ _ => cases e) ?_
  walk_at "hu"
def gC (g : D → Env → Option Env) (gs : List D → Env → Option Env) : List D → Env → Option Env
  | d :: ds, env => (g d env).bind fun e1 => gs ds e1
  | [], _ => none
theorem evgs_cons {t : TG} {ts : TGs} {g : D → Env → Option Env} {gs : List D → Env → Option Env} (a : EvG I K t g) (b : EvGs I K ts gs) : EvGs I K (gCons t ts) (gC g gs) := by
  refine Hush.hu (fun env s σ H ds us env' Q ok re r e k => by
  cases r with
  | nil => cases e
  | cons h1 h2 =>
    rename_i d v ds vs
    have e : (g d env).bind (fun e1 => gs ds e1) = some env' := e
    cases e1 : g d env with
    | none => rw [e1] at e; cases e
    | some en =>
      rw [e1] at e
      exact ⟨_, _, rfl, a env s σ H d v en _ ok re h1 e1 fun σ' re' => b en s σ' H ds vs env' Q ok re' h2 e k⟩) ?_
  walk_at "hu"
theorem dgs_nil : DGs I K F [] gE := by
  refine Hush.hu (⟨gNil, fun _ => pgs_nil, evgs_nil⟩) ?_
  walk_at "hu"
theorem dgs_cons {e : Expr} {es : List Expr} {g : D → Env → Option Env} {gs : List D → Env → Option Env} (h : DG I K F e g) (hs : DGs I K F es gs)
    (ha : ∀ i, (assignEach (e :: es) (F i).env).map (·.2) = assign e (F i).env :: (assignEach es (F i).env).map (·.2) := by exact fun _ => rfl) : DGs I K F (e :: es) (gC g gs) := by
  refine @Hush.hu _ (by
  obtain ⟨t, a1, a2⟩ := h
  obtain ⟨ts, b1, b2⟩ := hs
  exact ⟨gCons t ts, fun i => pgs_cons (a1 i) (b1 i) (ha i), evgs_cons a2 b2⟩) ?_
  walk_at "hu"
def gT (n : Nat) (gs : List D → Env → Option Env) : D → Env → Option Env
  | .d (.tuple xs), env => if xs.length = n then gs (xs.map D.d) env else none
  | .tp xs, env => if xs.length = n then gs xs env else none
  | _, _ => none
theorem evg_tup {n : Nat} {ts : TGs} {gs : List D → Env → Option Env} (b : EvGs I K ts gs) : EvG I K (gTup K n ts) (gT n gs) := by
  refine Hush.hu (fun env s σ H d v env' Q ok re r e k => by
  unfold gT at e
  split at e
  · rename_i xs
    by_cases c : xs.length = n
    · rw [if_pos c] at e
      cases r with
      | tup h1 h2 => exact ⟨_, _, rfl, SqT.of (hr_sub _ _ h1), (dpa_len h2).trans c, b env s σ H _ _ env' Q ok re (rpl_of h2) e k⟩
    · rw [if_neg c] at e; cases e
  · rename_i xs
    by_cases c : xs.length = n
    · rw [if_pos c] at e
      obtain ⟨a, us, rfl, h1, h2⟩ := r
      exact ⟨_, _, rfl, SqT.of (hr_sub _ _ h1), (rpl_len (rpl_ofA h2)).trans c, b env s σ H _ _ env' Q ok re (rpl_ofA h2) e k⟩
    · rw [if_neg c] at e; cases e
  · cases e) ?_
  walk_at "hu"
theorem dg_tup {es : List Expr} {n kk : Nat} {gs : List D → Env → Option Env} (Wf : Fm P w K mg base k N F) (hs : DGs I K F es gs) (hn : ∀ i, (assignEach es (F i).env).length = n := by exact fun _ => rfl) (hst : ∀ i, (assignEach es (F i).env).findIdx? (·.1) = none := by exact fun _ => rfl) :
    DG I K F (.Tuple es kk pos) (gT n gs) := by
  refine @Hush.hu _ (by
  obtain ⟨ts, b1, b2⟩ := hs
  exact ⟨gTup K n ts, fun i => by rw [← Wf.K i]; exact pg_tup (Wf.calm i) (b1 i) (hn i) (hst i), evg_tup b2⟩) ?_
  walk_at "hu"
end
inductive Itb where
  | st (ds : List D)
  | dy (n : Nat) (p : Pth)
def chD (n : Nat) (p : Pth) (i : Nat) : Tr → D
  | .v d => d
  | .nd _ _ => .r n (p ++ [i])
def Itb.next : Itb → Nat → Ts → Option (Option D)
  | .st ds, i, _ => some ds[i]?
  | .dy n p, i, t => match getT t n p with
    | some (.nd .lst ts) => some (ts[i]?.map (chD n p i))
    | _ => none
def Wk (I : SI) (K : PySem.W.Frag) (J : It) (it : Itb) (s0 : St1) (H0 : Hp) : Prop := ∀ (s : St1) (H : Hp), I.ok K s H → VLe (Hr I s0 H0) (Hr I s H) → ∀ i o, it.next i s.t = some o → match o with
  | some d => J.go i H ∧ ∀ x H3, J.yld i H x H3 → H3 = H ∧ Rp K (Hr I s H) d x
  | none => J.stop i H
def tGI (I : SI) (K : PySem.W.Frag) (W : WX) (g : Sm Itb) : TI := fun σ H Rr => ∃ env s, I.ok K s H ∧ RE K (Hr I s H) env σ ∧ (g env s.t).Post (fun it t => ∀ J s' H', s'.t = t → Po I K s H s' H' → Wk I K J it s' H' → Rr J H') (XP I K W s σ H)
theorem _root_.L2.PI.imp {X : Cx} {tg e : Expr} {t t' : TI} (h : PI X tg e t) (k : ∀ σ H Q, t' σ H Q → t σ H Q) : PI X tg e t' := by
  refine Hush.hu (⟨fun pins s σ H Q I q => h.run pins s σ H Q I (k σ H Q q)⟩) ?_
  walk_at "hu"
section
variable {ι : Type} {P : Program} {w : World} {K : PySem.W.Frag} {mg : Str → Option Value} {base : Heap} {k : Nat} {N : List Str} {F : ι → Cx} {I : SI} {W : WX} {pos : Pos}
def DI (I : SI) (K : PySem.W.Frag) (W : WX) (F : ι → Cx) (tg e : Expr) (g : Sm Itb) : Prop := ∀ i, PI (F i) tg e (tGI I K W g)
theorem stepI {s0 s : St1} {H0 H : Hp} {σ : L2.St} {env : Env} {α : Type} {P : α → Ts → Prop} {g : Sm Itb} {k : Itb → Ts → R α} {Q : It → Hp → Prop} (p : Po I K s0 H0 s H) (re : RE K (Hr I s0 H0) env σ) (h : ((g env s.t).bind k).Post P (XP I K W s0 σ H0))
    (c : ∀ x J s1 H1, Po I K s0 H0 s1 H1 → Po I K s H s1 H1 → Wk I K J x s1 H1 → (k x s1.t).Post P (XP I K W s0 σ H0) → Q J H1) : tGI I K W g σ H Q := by
  refine Hush.hu (⟨env, s, p.ok, re.same p.same, (R.post_bind h).mono (fun x t hk J s1 H1 e p1 wk => c x J s1 H1 (p.trans p1) p1 wk (by rw [e]; exact hk)) fun x t hx => xp_from p hx⟩) ?_
  walk_at "hu"
def itL : D → Option (List D)
  | .d (.list xs) => some (xs.map D.d)
  | .d (.tuple xs) => some (xs.map D.d)
  | .kt (.tuple xs) => if xs.all flatS = true then some (xs.map ktD) else none
  | .tp xs => some xs
  | .ls xs => some xs
  | _ => none
def iSeq (K : PySem.W.Frag) (tl : TE) : TI := fun σ H R => tl σ H fun x H1 => ∃ a, x = .ref a ∧ (((∃ xs, SqL K H1 a xs) ∧ R (Itl K a) H1) ∨ ((∃ xs, SqT K H1 a xs) ∧ R (Itt K a) H1))
theorem pi_seq {X : Cx} {tg l : Expr} {tl : TE} (hl : PE X l tl) : PI X tg l (iSeq X.K tl) := by
  refine @Hush.hu _ (by
  refine ⟨fun pins s σ H R I h => ?_⟩
  refine thn (hl.run pins s σ H _ I h) fun v s1 ⟨x, H1, I1, r1, q1⟩ => ?_
  obtain ⟨a, e, q⟩ := q1
  subst e
  cases r1
  rcases q with ⟨⟨xs, hq⟩, q⟩ | ⟨⟨xs, hq⟩, q⟩
  · obtain ⟨its, rv, p, hz⟩ := I1.list hq
    refine wpAny_pyIter_list p.isList ?_
    refine ⟨s1.heap.objs.size, [s1.heap.objs.size], _, _, H1, rfl, I1.kept (t' := s1.toks) fun b o e => Heap.get?_push_of_some _ e, turn_list a _, ⟨_, Heap.get?_push_size _ rfl, rfl, rfl⟩, fun b hb => ?_, q⟩
    have e : b = s1.heap.objs.size := by simpa using hb
    subst e
    exact I1.fpOk (Nat.le_refl _) (I1.hok.fresh (Nat.le_refl _))
  · obtain ⟨its, rv, p, hz⟩ := I1.tuple hq
    refine wpAny_pyIter_tuple (show s1.heap.IsTuple a its.toArray from p) ?_
    refine ⟨s1.heap.objs.size, [s1.heap.objs.size], _, _, H1, rfl, I1.kept (t' := s1.toks) fun b o e => Heap.get?_push_of_some _ e, turn_tuple a _, ⟨_, Heap.get?_push_size _ rfl, rfl, rfl⟩, fun b hb => ?_, q⟩
    have e : b = s1.heap.objs.size := by simpa using hb
    subst e
    exact I1.fpOk (Nat.le_refl _) (I1.hok.fresh (Nat.le_refl _))) ?_
  walk_at "hu"
theorem wk_list {s0 : St1} {H0 : Hp} {a : Addr} {vs : List V} {ds : List D} (h : SqL K (Hr I s0 H0).h a vs) (r : RpL K (Hr I s0 H0) ds vs) : Wk I K (Itl K a) (.st ds) s0 H0 := by
  refine Hush.hu (fun s H ok e i o hn => by
  cases hn
  have h2 := sql_same (hr_sub (I := I) (s := s) (H := H)) (sql_same e.h h)
  cases q : ds[i]? with
  | none =>
    exact ⟨vs, h2, by rw [rpl_len r]; exact List.getElem?_eq_none_iff.mp q⟩
  | some d =>
    obtain ⟨v, e1, r1⟩ := rpl_get r q
    refine ⟨⟨vs, v, h2, e1⟩, fun x H3 y => ?_⟩
    obtain ⟨y1, y2⟩ := y
    have := y2 vs h2
    rw [e1] at this
    cases this
    exact ⟨y1, rp_same e r1⟩) ?_
  walk_at "hu"
theorem wk_tup {s0 : St1} {H0 : Hp} {a : Addr} {vs : List V} {ds : List D} (h : ∀ H', Same (Hr I s0 H0).h H' → SqT K H' a vs) (r : RpL K (Hr I s0 H0) ds vs) : Wk I K (Itt K a) (.st ds) s0 H0 := by
  refine Hush.hu (fun s H ok e i o hn => by
  cases hn
  have h2 := h H (fun a o q => hr_sub _ _ (e.h a o q))
  cases q : ds[i]? with
  | none =>
    exact ⟨vs, h2, by rw [rpl_len r]; exact List.getElem?_eq_none_iff.mp q⟩
  | some d =>
    obtain ⟨v, e1, r1⟩ := rpl_get r q
    refine ⟨⟨vs, v, h2, e1⟩, fun x H3 y => ?_⟩
    obtain ⟨y1, y2⟩ := y
    have := y2 vs h2
    rw [e1] at this
    cases this
    exact ⟨y1, rp_same e r1⟩) ?_
  walk_at "hu"
theorem chs_get {vw : Vw} {n : Nat} {p : Pth} : ∀ {j i : Nat} {ts : List Tr} {vs : List V} {t : Tr}, Chs K vw n p j ts vs → ts[i]? = some t → ∃ v, vs[i]? = some v ∧ Ch K vw n p (j + i) t v
  | _, _, _, _, _, .nil, e => by simp at e
  | j, 0, _, _, _, .cons h _, e => by simp at e; subst e; exact ⟨_, rfl, h⟩
  | j, i + 1, _, _, t, .cons _ r, e => by
    obtain ⟨v, h1, h2⟩ := chs_get (i := i) (t := t) r (by simpa using e)
    exact ⟨v, by simpa using h1, by rw [Nat.add_right_comm] at h2; exact h2⟩
theorem ch_rp {vw : Vw} {n : Nat} {p : Pth} {i : Nat} {t : Tr} {v : V} (h : Ch K vw n p i t v) : Rp K vw (chD n p i t) v := by
  refine @Hush.hu _ (by
  cases t with
  | v d => exact h.1
  | nd k ts => obtain ⟨a, h1, h2⟩ := h; exact ⟨a, h2, h1⟩) ?_
  walk_at "hu"
theorem node_at {s : St1} {H : Hp} {n : Nat} {p : Pth} {k : Kd} {ts : List Tr} {v : V} (ok : I.ok K s H) (r : Rp K (Hr I s H) (.r n p) v) (h : getT s.t n p = some (.nd k ts)) :
    ∃ a dx vs, v = .ref a ∧ s.w n p = some (a, dx) ∧ Chs K (Hr I s H) n p 0 ts vs ∧ Holds I.mg H a dx vs k := by
  refine @Hush.hu _ (by
  obtain ⟨a, rfl, ha⟩ := r
  obtain ⟨a', dx, vs, w1, z1, zx1, c1, hd1⟩ := ok.nod n p k ts h
  have ha : (s.w n p).map (·.1) = some a := ha
  rw [w1] at ha
  cases ha
  exact ⟨a', dx, vs, rfl, w1, c1, hd1⟩) ?_
  walk_at "hu"
theorem wk_dy {s0 : St1} {H0 : Hp} {a : Addr} {n : Nat} {p : Pth} (h : (Hr I s0 H0).w n p = some a) : Wk I K (Itl K a) (.dy n p) s0 H0 := by
  refine Hush.hu (fun s H ok e i o hn => by
  have hw := e.w _ _ _ h
  have hn : (match getT s.t n p with | some (.nd .lst ts) => some (ts[i]?.map (chD n p i)) | _ => none) = some o := hn
  split at hn
  · rename_i ts g
    obtain ⟨a', dx, vs, e1, w1, c1, hd1⟩ := node_at ok (v := .ref a) ⟨a, rfl, hw⟩ g
    cases e1
    have hl : SqL K H a vs := SqL.of hd1
    cases q : ts[i]? with
    | none =>
      rw [q] at hn
      cases hn
      exact ⟨vs, hl, by rw [chs_len c1]; exact List.getElem?_eq_none_iff.mp q⟩
    | some t =>
      rw [q] at hn
      cases hn
      obtain ⟨v, g1, g2⟩ := chs_get c1 q
      rw [Nat.zero_add] at g2
      refine ⟨⟨vs, v, hl, g1⟩, fun x H3 y => ?_⟩
      obtain ⟨y1, y2⟩ := y
      have := y2 vs hl
      rw [g1] at this
      cases this
      exact ⟨y1, ch_rp g2⟩
  · cases hn) ?_
  walk_at "hu"
def itS (x : D) (t : Ts) : R Itb := match x with
  | .r n p => match getT t n p with
    | some (.nd .lst _) => .ok (.dy n p) t
    | _ => .no
  | x => match itL x with
    | some ds => .ok (.st ds) t
    | none => .no
def sIt (a : Sm D) : Sm Itb := fun env t => (a env t).bind itS
def pIt (a : Pm D) : Pm (List D) := fun env => (a env).bind itL
def liftI (g : Pm (List D)) : Sm Itb := fun env t => (ofO (g env) t).bind fun ds t => .ok (.st ds) t
theorem tabs_of {s1 : St1} {H1 : Hp} {x : D} {v : V} {α : Type} {A : Itb → Ts → Prop} {B : Exn → Ts → Prop} {Rr : It → Hp → Prop} (ok : I.ok K s1 H1) (r1 : Rp K (Hr I s1 H1) x v) (h : (itS x s1.t).Post A B) (kk : ∀ it J, A it s1.t → Wk I K J it s1 H1 → Rr J H1) :
    ∃ a, v = .ref a ∧ (((∃ xs, SqL K H1 a xs) ∧ Rr (Itl K a) H1) ∨ ((∃ xs, SqT K H1 a xs) ∧ Rr (Itt K a) H1)) := by
  refine @Hush.hu _ (by
  unfold itS at h
  split at h
  · rename_i n p
    split at h
    · rename_i ts g
      obtain ⟨a, dx, vs, e1, w1, c1, hd1⟩ := node_at ok r1 g
      subst e1
      exact ⟨a, rfl, .inl ⟨⟨vs, SqL.of hd1⟩, kk _ _ h (wk_dy (by show (s1.w n p).map (·.1) = some a; rw [w1]; rfl))⟩⟩
    · exact h.elim
  · split at h
    · rename_i ds e
      unfold itL at e
      split at e
      · cases e
        cases r1 with
        | lst hs ha => exact ⟨_, rfl, .inl ⟨⟨_, sql_same hr_sub (SqL.of hs)⟩, kk _ _ h (wk_list (SqL.of hs) (rpl_of ha))⟩⟩
      · cases e
        cases r1 with
        | tup hs ha => exact ⟨_, rfl, .inr ⟨⟨_, SqT.of (hr_sub _ _ hs)⟩, kk _ _ h (wk_tup (fun H' e => SqT.of (e _ _ hs)) (rpl_of ha))⟩⟩
      · rename_i xs _
        by_cases c : xs.all flatS = true
        · rw [if_pos c] at e
          cases e
          cases r1 with
          | tup hs ha => exact ⟨_, rfl, .inr ⟨⟨_, sqt_same none_sub hs⟩, kk _ _ h (wk_tup (fun H' _ => sqt_same none_sub hs) (dpa_empty ha c))⟩⟩
        · rw [if_neg c] at e; cases e
      · cases e
        obtain ⟨a, us, rfl, h1, h2⟩ := r1
        exact ⟨_, rfl, .inr ⟨⟨_, SqT.of (hr_sub _ _ h1)⟩, kk _ _ h (wk_tup (fun H' e => SqT.of (e _ _ h1)) (rpl_ofA h2))⟩⟩
      · cases e
        obtain ⟨a, us, rfl, h1, h2⟩ := r1
        exact ⟨_, rfl, .inl ⟨⟨_, sql_same hr_sub (SqL.of h1)⟩, kk _ _ h (wk_list (SqL.of h1) (rpl_ofA h2))⟩⟩
      · cases e
    · exact h.elim) ?_
  walk_at "hu"
theorem di_seq {tg e : Expr} {g : Sm D} (Wf : Fm P w K mg base k N F) (h : DE I K W F e g) : DI I K W F tg e (sIt g) := by
  refine Hush.hu (fun i => by
  have hh := pi_seq (tg := tg) (h i)
  rw [Wf.K i] at hh
  exact hh.imp fun σ H Rr ⟨env, s, ok, re, h⟩ => step (Po.refl ok) re h fun x v s1 H1 p1 _ r1 h => tabs_of (α := Unit) p1.ok r1 h fun it J a wk => a J s1 H1 rfl p1 wk) ?_
  walk_at "hu"
theorem di_le {tg e : Expr} {g g' : Sm Itb} (h : DI I K W F tg e g) (l : ∀ env t, R.Le (g' env t) (g env t)) : DI I K W F tg e g' := by
  refine Hush.hu (fun i => (h i).imp fun σ H Q ⟨env, s, ok, re, p⟩ => ⟨env, s, ok, re, (l env s.t).post p⟩) ?_
  walk_at "hu"
theorem itS_of {x : D} {ds : List D} (t : Ts) (h : itL x = some ds) : itS x t = .ok (.st ds) t := by
  refine @Hush.hu _ (by
  cases x with
  | r n p => cases h
  | _ => unfold itS; dsimp only; rw [h]) ?_
  walk_at "hu"
theorem le_it {a : Pm D} (env : Env) (t : Ts) : R.Le (liftI (pIt a) env t) (sIt (lift a) env t) := by
  refine @Hush.hu _ (by
  unfold liftI pIt sIt lift
  cases a env with
  | none => exact .inl rfl
  | some x =>
    cases q : itL x with
    | none => exact .inl (by show (ofO (itL x) t).bind _ = _; rw [q]; rfl)
    | some ds => exact .inr (by show (ofO (itL x) t).bind _ = itS x t; rw [q, itS_of t q]; rfl)) ?_
  walk_at "hu"
def rgL (lo : Int) (n : Nat) : List D := (List.range n).map fun (i : Nat) => D.d (.int (lo + (i : Int)))
def mR1 : List D → Option (List D)
  | [.d (.int j)] => if j < 2 ^ 62 ∧ -(2 ^ 62) ≤ j then some (rgL 0 j.toNat) else none
  | _ => none
def mR2 : List D → Option (List D)
  | [.d (.int i), .d (.int j)] => if -(2 ^ 62) ≤ i ∧ i < 2 ^ 62 ∧ -(2 ^ 62) ≤ j ∧ j < 2 ^ 62 then some (rgL i (j - i).toNat) else none
  | _ => none
def sRg (f : List D → Option (List D)) (a : Sm (List D)) : Sm Itb := fun env t => (a env t).bind fun xs t => (ofO (f xs) t).bind fun ds t => .ok (.st ds) t
def pRg (f : List D → Option (List D)) (a : Pm (List D)) : Pm (List D) := fun env => (a env).bind f
theorem lift_rg (f : List D → Option (List D)) (a : Pm (List D)) : liftI (pRg f a) = sRg f (lift a) := by
  refine @Hush.hu _ (by
  funext env s
  unfold liftI lift pRg sRg
  dsimp only
  cases a env <;> rfl) ?_
  walk_at "hu"
theorem wk_rg {s0 : St1} {H0 : Hp} (lo : Int) (n : Nat) : Wk I K (Itr lo n) (.st (rgL lo n)) s0 H0 := by
  refine Hush.hu (fun s H ok e i o hn => by
  cases hn
  unfold rgL
  rw [List.getElem?_map]
  by_cases c : i < n
  · rw [List.getElem?_range c]
    exact ⟨c, fun x H3 y => ⟨y.1, by rw [y.2]; exact .int _⟩⟩
  · rw [List.getElem?_eq_none (by rw [List.length_range]; omega)]
    show n ≤ i
    omega) ?_
  walk_at "hu"
theorem di_r1 {tg a : Expr} {p : Pos} {g : Sm (List D)} (Wf : Fm P w K mg base k N F) (hm : mg "range" = none) (h : DA I K W F [a] g) (hg : ∀ i, Gl (F i) "range" := by exact fun _ => rfl) (hs : ∀ i, starEach [a] (F i).env = [(false, eval a (F i).env)] := by exact fun _ => rfl) :
    DI I K W F tg (.Call (.Name "range" p) [a] [] pos) (sRg mR1 g) := by
  refine Hush.hu (fun i =>
  (pi_range1 (hg i) (by rw [Wf.mg i]; exact hm) (h i) (hs i)).imp fun σ H Rr ⟨env, s, ok, re, h⟩ => stepL (Po.refl ok) re h fun xs vs s1 H1 p1 _ r1 h => by
    obtain ⟨ds, e, h⟩ := post_ofO (R.post_bind h)
    unfold mR1 at e
    split at e
    · rename_i j
      by_cases c : j < 2 ^ 62 ∧ -(2 ^ 62) ≤ j
      · rw [if_pos c] at e
        cases e
        cases r1 with
        | cons h1 h2 =>
          cases h2
          cases h1
          exact ⟨j, rfl, c.2, c.1, h _ s1 H1 rfl p1 (wk_rg 0 _)⟩
      · rw [if_neg c] at e; cases e
    · cases e) ?_
  walk_at "hu"
theorem di_r2 {tg a b : Expr} {p : Pos} {g : Sm (List D)} (Wf : Fm P w K mg base k N F) (hm : mg "range" = none) (h : DA I K W F [a, b] g) (hg : ∀ i, Gl (F i) "range" := by exact fun _ => rfl) (hs : ∀ i, starEach [a, b] (F i).env = [(false, eval a (F i).env), (false, eval b (F i).env)] := by exact fun _ => rfl)
    (hs2 : ∀ i, starEach [b] (F i).env = [(false, eval b (F i).env)] := by exact fun _ => rfl) :
    DI I K W F tg (.Call (.Name "range" p) [a, b] [] pos) (sRg mR2 g) := by
  refine Hush.hu (fun i =>
  (pi_range2 (hg i) (by rw [Wf.mg i]; exact hm) (h i) (hs i) (hs2 i)).imp fun σ H Rr ⟨env, s, ok, re, h⟩ => stepL (Po.refl ok) re h fun xs vs s1 H1 p1 _ r1 h => by
    obtain ⟨ds, e, h⟩ := post_ofO (R.post_bind h)
    unfold mR2 at e
    split at e
    · rename_i i j
      by_cases c : -(2 ^ 62) ≤ i ∧ i < 2 ^ 62 ∧ -(2 ^ 62) ≤ j ∧ j < 2 ^ 62
      · rw [if_pos c] at e
        cases e
        cases r1 with
        | cons h1 h2 =>
          cases h2 with
          | cons h3 h4 =>
            cases h4
            cases h1
            cases h3
            exact ⟨i, j, rfl, c, h _ s1 H1 rfl p1 (wk_rg i _)⟩
      · rw [if_neg c] at e; cases e
    · cases e) ?_
  walk_at "hu"
end
end Dl
namespace Dl
open PySem L2
def R.nox {α : Type} (r : R α) : R α := match r with
  | .ex _ _ => .no
  | r => r
theorem nox_post {α β : Type} {r : R α} {k : α → Ts → R β} {P : β → Ts → Prop} {X : Exn → Ts → Prop} (h : (r.nox.bind k).Post P X) : r.Post (fun a t => (k a t).Post P X) fun _ _ => False := by
  refine @Hush.hu _ (by
  cases r with
  | no => exact h
  | ok a t => exact h
  | ex x t => exact h) ?_
  walk_at "hu"
def goCN (it : Itb) (g : D → Env → Option Env) (env : Env) (tt : Sm Bool) (el : Sm D) : Nat → Nat → Ts → R (List D)
  | 0, i, t => match it.next i t with
    | some none => .ok [] t
    | _ => .no
  | m + 1, i, t => match it.next i t with
    | some none => .ok [] t
    | some (some x) => (ofO (g x env) t).bind fun e1 t => (tt e1 t).nox.bind fun b t => if b = true then (el e1 t).nox.bind fun y t => (goCN it g env tt el m (i + 1) t).bind fun ys t => .ok (y :: ys) t else goCN it g env tt el m (i + 1) t
    | none => .no
def goC (g : D → Env → Option Env) (env : Env) (tt : Sm Bool) (el : Sm D) : List D → Ts → R (List D)
  | [], t => .ok [] t
  | x :: r, t => (ofO (g x env) t).bind fun e1 t => (tt e1 t).nox.bind fun b t => if b = true then (el e1 t).nox.bind fun y t => (goC g env tt el r t).bind fun ys t => .ok (y :: ys) t else goC g env tt el r t
def goP (g : D → Env → Option Env) (env : Env) (tt : Pm Bool) (el : Pm D) : List D → Option (List D)
  | [] => some []
  | x :: r => (g x env).bind fun e1 => (tt e1).bind fun p => if p = true then (el e1).bind fun q => (goP g env tt el r).map fun z => q :: z else goP g env tt el r
theorem drop_get {α : Type} {l : List α} {i : Nat} {x : α} (h : l[i]? = some x) : l.drop i = x :: l.drop (i + 1) := by
  refine @Hush.hu _ (by
  obtain ⟨h1, h2⟩ := List.getElem?_eq_some_iff.mp h
  rw [List.drop_eq_getElem_cons h1, h2]) ?_
  walk_at "hu"
theorem goC_N {g : D → Env → Option Env} {env : Env} {tt : Sm Bool} {el : Sm D} {ds : List D} : ∀ (m i : Nat) (t : Ts), i + m = ds.length → goC g env tt el (ds.drop i) t = goCN (.st ds) g env tt el m i t
  | 0, i, t, h => by
    have e : ds[i]? = none := List.getElem?_eq_none (by omega)
    rw [List.drop_of_length_le (by omega)]
    show R.ok [] t = match (some ds[i]? : Option (Option D)) with | some none => R.ok [] t | _ => R.no
    rw [e]
  | m + 1, i, t, h => by
    obtain ⟨x, hx⟩ : ∃ x, ds[i]? = some x := ⟨ds[i]'(by omega), List.getElem?_eq_getElem (by omega)⟩
    rw [drop_get hx]
    have ih := fun t => goC_N (g := g) (env := env) (tt := tt) (el := el) (ds := ds) m (i + 1) t (by omega)
    show _ = match (some ds[i]? : Option (Option D)) with | some none => R.ok [] t | some (some x) => (ofO (g x env) t).bind fun e1 t => (tt e1 t).nox.bind fun b t => if b = true then (el e1 t).nox.bind fun y t => (goCN (.st ds) g env tt el m (i + 1) t).bind fun ys t => .ok (y :: ys) t else goCN (.st ds) g env tt el m (i + 1) t | none => .no
    rw [hx]
    dsimp only
    rw [goC]
    simp only [ih]
def lenA (n : Nat) (p : Pth) (t : Ts) : Nat := match getT t n p with
  | some (.nd _ ts) => ts.length
  | _ => 0
def goItC (it : Itb) (g : D → Env → Option Env) (env : Env) (tt : Sm Bool) (el : Sm D) (t : Ts) : R (List D) := match it with
  | .st ds => if ds.length ≤ 100000 then goC g env tt el ds t else .no
  | .dy n p => if lenA n p t ≤ 100000 then goCN (.dy n p) g env tt el (lenA n p t) 0 t else .no
theorem goItC_N {it : Itb} {g : D → Env → Option Env} {env : Env} {tt : Sm Bool} {el : Sm D} {t : Ts} {P : List D → Ts → Prop} {X : Exn → Ts → Prop} (h : (goItC it g env tt el t).Post P X) : ∃ m, m ≤ 100000 ∧ (goCN it g env tt el m 0 t).Post P X := by
  refine @Hush.hu _ (by
  cases it with
  | st ds =>
    unfold goItC at h
    by_cases c : ds.length ≤ 100000
    · have h : (if ds.length ≤ 100000 then goC g env tt el ds t else .no).Post P X := h
      rw [if_pos c] at h
      exact ⟨ds.length, c, by rw [← goC_N ds.length 0 t (by omega)]; exact h⟩
    · have h : (if ds.length ≤ 100000 then goC g env tt el ds t else .no).Post P X := h
      rw [if_neg c] at h; exact h.elim
  | dy n p =>
    unfold goItC at h
    by_cases c : lenA n p t ≤ 100000
    · have h : (if lenA n p t ≤ 100000 then goCN (.dy n p) g env tt el (lenA n p t) 0 t else .no).Post P X := h
      rw [if_pos c] at h
      exact ⟨_, c, h⟩
    · have h : (if lenA n p t ≤ 100000 then goCN (.dy n p) g env tt el (lenA n p t) 0 t else .no).Post P X := h
      rw [if_neg c] at h; exact h.elim) ?_
  walk_at "hu"
def sLc (g : D → Env → Option Env) (vs : List Nat) (src : Sm Itb) (tt : Sm Bool) (el : Sm D) : Sm (List D) := fun env t => (src env t).bind fun it t => goItC it g (wipeE env vs) tt el t
def pLc (g : D → Env → Option Env) (vs : List Nat) (src : Pm (List D)) (tt : Pm Bool) (el : Pm D) : Pm (List D) := fun env => (src env).bind fun xs => if xs.length ≤ 100000 then goP g (wipeE env vs) tt el xs else none
theorem goC_lift (g : D → Env → Option Env) (env : Env) (tt : Pm Bool) (el : Pm D) : ∀ (l : List D) (t : Ts), goC g env (lift tt) (lift el) l t = ofO (goP g env tt el l) t
  | [], t => rfl
  | x :: r, t => by
    have ih := goC_lift g env tt el r t
    unfold goC goP
    cases g x env with
    | none => rfl
    | some e1 =>
      simp only [ofO, R.bind, Option.bind_some, lift]
      cases tt e1 with
      | none => rfl
      | some b =>
        cases b with
        | false => simpa [ofO, R.bind, R.nox, lift] using ih
        | true =>
          simp only [ofO, R.bind, R.nox, Option.bind_some, if_true]
          cases el e1 with
          | none => rfl
          | some y =>
            simp only [Option.bind_some, ih]
            cases goP g env tt el r <;> rfl
theorem lift_lc (g : D → Env → Option Env) (vs : List Nat) (src : Pm (List D)) (tt : Pm Bool) (el : Pm D) : lift (pLc g vs src tt el) = sLc g vs (liftI src) (lift tt) (lift el) := by
  refine @Hush.hu _ (by
  funext env t
  unfold lift pLc sLc liftI
  cases src env with
  | none => rfl
  | some xs =>
    simp only [ofO, R.bind, Option.bind_some]
    unfold goItC
    dsimp only
    by_cases c : xs.length ≤ 100000
    · rw [if_pos c, if_pos c]
      exact (goC_lift g (wipeE env vs) tt el xs t).symm
    · rw [if_neg c, if_neg c]) ?_
  walk_at "hu"
section
variable {ι : Type} {P : Program} {w : World} {K : PySem.W.Frag} {mg : Str → Option Value} {base : Heap} {k : Nat} {N : List Str} {F : ι → Cx} {I : SI} {W : WX} {pos : Pos}
theorem lc_sound {J : It} {it : Itb} {g : TG} {gt : Sm Bool} {ge : Sm D} {vs : List Nat} {gg : D → Env → Option Env} {env : Env} {s1 : St1} {σ : L2.St} {H1 : Hp} {m : Nat} {Pr : List D → Ts → Prop} {X : Exn → Ts → Prop} {Q : VK}
    (hg : EvG I K g gg) (hs : Str1 g vs) (ok : I.ok K s1 H1) (re : RE K (Hr I s1 H1) env σ) (wk : Wk I K J it s1 H1) (hm : m ≤ 100000) (h : (goCN it gg (wipeE env vs) gt ge m 0 s1.t).Post Pr X)
    (kk : ∀ L acc ds s H, H1 L = none → Gro I K L s1 H1 (.lst acc) s H → RpL K (Hr I s H) ds acc → Pr ds s.t → Q (.ref L) H) :
    ∀ D, H1 D = none → ∃ Wi : Nat → Nat → Hp → Prop, (∃ m, Wi 0 m (upd H1 D (.lst []))) ∧ ∀ i m H, Wi i m H →
  (J.stop i H ∧ Q (.ref D) H) ∨ (J.go i H ∧ ∃ Nx : Hp → Prop, (∀ H', Nx H' → ∃ m', m' < m ∧ Wi (i + 1) m' H') ∧ ∀ x H', J.yld i H x H' → g x (wipe σ vs) H' fun σ2 H2 => wipe σ2 vs = wipe σ vs ∧ (tGB I K WF gt) σ2 H2 fun b H3 =>
    if b = true then (tG I K WF ge) σ2 H3 fun y H4 => ∃ acc, H4 D = some (.lst acc) ∧ acc.length < sizeLine ∧ Nx (upd H4 D (.lst (acc ++ [y]))) else Nx H3) := by
  refine @Hush.hu _ (by
  intro L hL
  have zL := ok_zL ok hL
  have ldl : ∀ xs, Ld (.lst xs) := fun xs => .inl ⟨xs, rfl⟩
  refine ⟨fun i mm H => ∃ (s3 : St1) (acc : List V) (dn : List D), Gro I K L s1 H1 (.lst acc) s3 H ∧ RpL K (Hr I s3 H) dn acc ∧ acc.length ≤ i ∧ i + mm ≤ 100000 ∧
      (goCN it gg (wipeE env vs) gt ge mm i s3.t).Post (fun ys t => Pr (dn ++ ys) t) X, ⟨m, s1.zz (upd s1.Z L (.lst [])), [], [], Gro.start ok hL (ldl _), .nil, Nat.le_refl _, by omega, h⟩, ?_⟩
  rintro i mm H ⟨s3, acc, dn, gr, ra, hal, him, h3⟩
  have wki := wk s3 H gr.ok gr.sm i
  have fin : it.next i s3.t = some none → Pr (dn ++ []) s3.t → J.stop i H ∧ Q (.ref L) H := fun e hp => by
    rw [List.append_nil] at hp
    exact ⟨wki none e, kk L acc dn s3 H hL gr ra hp⟩
  cases mm with
  | zero =>
    have h3 : (match it.next i s3.t with | some none => R.ok [] s3.t | _ => .no).Post (fun ys t => Pr (dn ++ ys) t) X := h3
    split at h3
    · rename_i e
      exact .inl (fin e h3)
    · exact h3.elim
  | succ mm =>
    have h3 : (match it.next i s3.t with
      | some none => R.ok [] s3.t
      | some (some x) => (ofO (gg x (wipeE env vs)) s3.t).bind fun e1 t => (gt e1 t).nox.bind fun b t => if b = true then (ge e1 t).nox.bind fun y t => (goCN it gg (wipeE env vs) gt ge mm (i + 1) t).bind fun ys t => .ok (y :: ys) t else goCN it gg (wipeE env vs) gt ge mm (i + 1) t
      | none => .no).Post (fun ys t => Pr (dn ++ ys) t) X := h3
    split at h3
    · rename_i e
      exact .inl (fin e h3)
    · rename_i x e
      right
      obtain ⟨go, yl⟩ := wki (some x) e
      refine ⟨go, fun H' => ∃ (s3 : St1) (acc : List V) (dn : List D), Gro I K L s1 H1 (.lst acc) s3 H' ∧ RpL K (Hr I s3 H') dn acc ∧ acc.length ≤ i + 1 ∧
        (goCN it gg (wipeE env vs) gt ge mm (i + 1) s3.t).Post (fun ys t => Pr (dn ++ ys) t) X, fun H' ⟨a1, a2, a3, a4, a5, a6, a7⟩ => ⟨mm, Nat.lt_succ_self _, a1, a2, a3, a4, a5, a6, by omega, a7⟩, fun v H3 y => ?_⟩
      obtain ⟨y1, y3⟩ := yl v H3 y
      subst y1
      obtain ⟨en, e6, h3⟩ := post_ofO (R.post_bind h3)
      have rw1 := re_wipe (re.same gr.sm) vs
      refine hs v (wipe σ vs) H3 _ _ (fun σ2 H2 w2 q => ⟨w2.trans (wipe_wipe σ vs), q⟩) (hg (wipeE env vs) s3 (wipe σ vs) H3 x v en _ gr.ok rw1 y3 e6 fun σ2 re2 => ?_)
      refine ⟨en, s3, gr.ok, re2, (nox_post h3).mono (fun b t hb s4 H4 e4 p4 => ?_) fun _ _ f => f.elim⟩
      subst e4
      have gr4 := gr.step p4 hL zL
      cases b with
      | false =>
        rw [if_neg Bool.false_ne_true] at hb ⊢
        exact ⟨s4, acc, dn, gr4, rpl_same p4.same ra, by omega, hb⟩
      | true =>
        rw [if_pos rfl] at hb ⊢
        refine ⟨en, s4, p4.ok, re2.same p4.same, (nox_post hb).mono (fun yd t hy yv s5 H5 e5 p5 r5 => ?_) fun _ _ f => f.elim⟩
        subst e5
        have gr5 := gr4.step p5 hL zL
        refine ⟨acc, gr5.at_, Nat.lt_of_le_of_lt (show acc.length ≤ 100000 by omega) (by decide), s5.zz (upd s1.Z L (.lst (acc ++ [yv]))), acc ++ [yv], dn ++ [yd], gr5.put hL zL (ldl _), ?_, by rw [List.length_append]; show acc.length + 1 ≤ _; omega, ?_⟩
        · exact rpl_app (rpl_same (p4.same.trans (p5.same.trans gr5.psm)) ra) (.cons (rp_same gr5.psm r5) .nil)
        · refine (R.post_bind hy).mono (fun ys t q => ?_) fun _ _ q => q
          rw [List.append_assoc]
          exact q
    · exact h3.elim) ?_
  walk_at "hu"
theorem lc_end {s1 s : St1} {H1 H : Hp} {L : Addr} {acc : List V} {ds : List D} {z : D} (ok : I.ok K s1 H1) (hL : H1 L = none) (gr : Gro I K L s1 H1 (.lst acc) s H) (r : RpL K (Hr I s H) ds acc) (e : mLst ds = some z) : Rp K (Hr I (s.zz s1.Z) H) z (.ref L) := by
  refine @Hush.hu _ (by
  have zL := ok_zL ok hL
  unfold mLst at e
  by_cases c : ds.length ≤ 100000
  · rw [if_pos c] at e
    cases q : pdL ds with
    | none => rw [q] at e; cases e; exact ⟨L, acc, rfl, gr.hr zL, rpa_of (rpl_same gr.gsm r)⟩
    | some xs => rw [q] at e; cases e; exact .lst (gr.hr zL) (rpl_pd (rpl_same gr.gsm r) q)
  · rw [if_neg c] at e; cases e) ?_
  walk_at "hu"
theorem tg_lc {g : TG} {vs : List Nat} {gs : Sm Itb} {gg : D → Env → Option Env} {gt : Sm Bool} {ge : Sm D} (hg : EvG I K g gg) (hs : Str1 g vs) :
    ∀ σ H Q, tG I K W (sMk mLst (sLc gg vs gs gt ge)) σ H Q → tLc (tGI I K W gs) g (tGB I K WF gt) (tG I K WF ge) vs σ H Q := by
  refine Hush.hu (fun σ H Q ⟨env, s, ok, re, h⟩ => by
  have h : ((gs env s.t).bind fun it t => (goItC it gg (wipeE env vs) gt ge t).bind fun xs t => ofO (mLst xs) t).Post (fun d t => ∀ v s' H', s'.t = t → Po I K s H s' H' → Rp K (Hr I s' H') d v → Q v H') (XP I K W s σ H) := by
    unfold sMk sLc at h
    cases q : gs env s.t with
    | no => rw [q] at h; exact h
    | ok a t => rw [q] at h; exact h
    | ex x t => rw [q] at h; exact h
  refine stepI (Po.refl ok) re h fun it J s1 H1 p1 _ wk h => ?_
  obtain ⟨m, hm, h⟩ := goItC_N (R.post_bind h)
  refine lc_sound hg hs p1.ok (re.same p1.same) wk hm h fun L acc ds s2 H2 hL gr r hp => ?_
  obtain ⟨z, e, hp⟩ := post_ofO hp
  exact hp (.ref L) (s2.zz s1.Z) H2 rfl (p1.trans gr.po) (lc_end p1.ok hL gr r e)) ?_
  walk_at "hu"
theorem dts_nil : DTs I K W F [] (sC true) := by
  refine Hush.hu (fun i => ⟨fun pins s σ H Q II h => (pts_nil (X := F i)).run pins s σ H Q II (let ⟨env, s0, ok, re, q⟩ := h; q s0 H rfl (Po.refl ok))⟩) ?_
  walk_at "hu"
theorem dts_one {c : Expr} {g : Sm Bool} (h : DT I K W F c g) : DTs I K W F [c] g := by
  refine Hush.hu (fun i => pts_one (h i)) ?_
  walk_at "hu"
theorem de_lc {elt tg iter : Expr} {ifs : List Expr} {scope : Scope} (own : List (Str × Nat)) {gs : Sm Itb} {gg : D → Env → Option Env} {gt : Sm Bool} {ge : Sm D} (Wf : Fm P w K mg base k N F)
    (ok : ∀ i, BlkOk (F i).N (F i).env.scope scope own) (hi : DI I K W F tg iter gs) (hg : DGv I K (blkF scope F) (own.map (·.2)) tg gg) (ht : DTs I K WF (blkF scope F) ifs gt) (he : DE I K WF (blkF scope F) elt ge)
    (hs : ∀ i x, foldedSetIterable iter (F i).env x = pure x := by exact fun _ _ => rfl) : DE I K W F (.ListComp elt [⟨tg, iter, ifs, 0⟩] scope pos) (sMk mLst (sLc gg (own.map (·.2)) gs gt ge)) := by
  refine @Hush.hu _ (by
  obtain ⟨g, g1, g2, g3⟩ := hg
  exact fun i => (pe_lc (Wf.calm i) (by rw [Wf.N i]; exact Wf.nd) (hi i) (ok i) (fun s H C cl fp => g1 (i, s, H, C, cl, fp)) (fun s H C cl fp => ht (i, s, H, C, cl, fp)) (fun s H C cl fp => he (i, s, H, C, cl, fp)) (hs i)).imp (tg_lc g2 g3)) ?_
  walk_at "hu"
end
end Dl
namespace Dl
open PySem L2
section
variable {ι : Type} {P : Program} {w : World} {K : PySem.W.Frag} {mg : Str → Option Value} {base : Heap} {k : Nat} {N : List Str} {F : ι → Cx} {I : SI} {W : WX} {pos : Pos}
abbrev XS (I : SI) (K : PySem.W.Frag) (W : WX) (s : St1) (H : Hp) : Exn → Ts → Prop := fun x t => ∀ σ', XP I K W s σ' H x t
theorem xs_from {s0 s1 : St1} {H0 H1 : Hp} {x : Exn} {t : Ts} (p : Po I K s0 H0 s1 H1) (h : XS I K W s0 H0 x t) : XS I K W s1 H1 x t := by
  refine Hush.hu (fun σ' => xp_from p (h σ')) ?_
  walk_at "hu"
section
variable {s0 s : St1} {H0 H : Hp} {σ : L2.St} {env : Env} {α : Type} {P : α → Ts → Prop}
theorem st1 {g : Sm D} {k : D → Ts → R α} {Q : VK} (p : Po I K s0 H0 s H) (re : RE K (Hr I s H) env σ) (h : ((g env s.t).bind k).Post P (XS I K W s0 H0))
    (c : ∀ x v s1 H1, Po I K s0 H0 s1 H1 → Po I K s H s1 H1 → RE K (Hr I s1 H1) env σ → Rp K (Hr I s1 H1) x v → (k x s1.t).Post P (XS I K W s0 H0) → Q v H1) : tG I K W g σ H Q := by
  refine Hush.hu (⟨env, s, p.ok, re, (R.post_bind h).mono (fun x t hk v s1 H1 e p1 r => c x v s1 H1 (p.trans p1) p1 (re.same p1.same) r (by rw [e]; exact hk)) fun x t hx => xp_from p (hx σ)⟩) ?_
  walk_at "hu"
theorem st1B {g : Sm Bool} {k : Bool → Ts → R α} {Q : Bool → Hp → Prop} (p : Po I K s0 H0 s H) (re : RE K (Hr I s H) env σ) (h : ((g env s.t).bind k).Post P (XS I K W s0 H0))
    (c : ∀ x s1 H1, Po I K s0 H0 s1 H1 → Po I K s H s1 H1 → RE K (Hr I s1 H1) env σ → (k x s1.t).Post P (XS I K W s0 H0) → Q x H1) : tGB I K W g σ H Q := by
  refine Hush.hu (⟨env, s, p.ok, re, (R.post_bind h).mono (fun x t hk s1 H1 e p1 => c x s1 H1 (p.trans p1) p1 (re.same p1.same) (by rw [e]; exact hk)) fun x t hx => xp_from p (hx σ)⟩) ?_
  walk_at "hu"
theorem st1L {g : Sm (List D)} {k : List D → Ts → R α} {Q : List V → Hp → Prop} (p : Po I K s0 H0 s H) (re : RE K (Hr I s H) env σ) (h : ((g env s.t).bind k).Post P (XS I K W s0 H0))
    (c : ∀ xs vs s1 H1, Po I K s0 H0 s1 H1 → Po I K s H s1 H1 → RE K (Hr I s1 H1) env σ → RpL K (Hr I s1 H1) xs vs → (k xs s1.t).Post P (XS I K W s0 H0) → Q vs H1) : tGL I K W g σ H Q := by
  refine Hush.hu (⟨env, s, p.ok, re, (R.post_bind h).mono (fun x t hk v s1 H1 e p1 r => c x v s1 H1 (p.trans p1) p1 (re.same p1.same) r (by rw [e]; exact hk)) fun x t hx => xp_from p (hx σ)⟩) ?_
  walk_at "hu"
theorem st1I {g : Sm Itb} {k : Itb → Ts → R α} {Q : It → Hp → Prop} (p : Po I K s0 H0 s H) (re : RE K (Hr I s H) env σ) (h : ((g env s.t).bind k).Post P (XS I K W s0 H0))
    (c : ∀ x J s1 H1, Po I K s0 H0 s1 H1 → Po I K s H s1 H1 → RE K (Hr I s1 H1) env σ → Wk I K J x s1 H1 → (k x s1.t).Post P (XS I K W s0 H0) → Q J H1) : tGI I K W g σ H Q := by
  refine Hush.hu (⟨env, s, p.ok, re, (R.post_bind h).mono (fun x t hk J s1 H1 e p1 wk => c x J s1 H1 (p.trans p1) p1 (re.same p1.same) wk (by rw [e]; exact hk)) fun x t hx => xp_from p (hx σ)⟩) ?_
  walk_at "hu"
end
def sAsg (g : D → Env → Option Env) (a : Sm D) : Sm Out := fun env t => (a env t).bind fun x t => (ofO (g x env) t).bind fun e1 t => .ok (.nx e1) t
def pAsg (g : D → Env → Option Env) (a : Pm D) : Pm Out := fun env => (a env).bind fun x => (g x env).map fun e1 => .nx e1
theorem lift_asg (g : D → Env → Option Env) (a : Pm D) : lift (pAsg g a) = sAsg g (lift a) := by
  refine @Hush.hu _ (by
  funext env s
  unfold lift pAsg sAsg
  dsimp only
  cases a env with
  | none => rfl
  | some x =>
    simp only [Option.bind_some, ofO, R.bind]
    cases g x env <;> rfl) ?_
  walk_at "hu"
theorem tgs_asg {te : TE} {g : TG} {gg : D → Env → Option Env} {ga : Sm D} (he : ∀ σ H Q, tG I K W ga σ H Q → te σ H Q) (hg : EvG I K g gg) : ∀ Dn σ H, tGS I K W (sAsg gg ga) Dn σ H → tAsg te g Dn σ H := by
  refine Hush.hu (fun Dn σ H ⟨env, s, ok, re, h⟩ =>
  he _ _ _ (st1 (Po.refl ok) re h fun x v s1 H1 p1 _ re1 r1 h => by
    obtain ⟨e1, e, h⟩ := post_ofO (R.post_bind h)
    exact hg env s1 σ H1 x v e1 _ p1.ok re1 r1 e fun σ' re' => h σ' s1 H1 rfl p1 re')) ?_
  walk_at "hu"
theorem ds_asg {tg e : Expr} {g : D → Env → Option Env} {ga : Sm D} (h : DE I K W F e ga) (hg : DG I K F tg g) (hs : ∀ i, swapsWithSole [tg] e pos.line (F i).env = pure false := by exact fun _ => rfl) (hw : ∀ i, swappedStores [tg] e (F i).env = pure none := by exact fun _ => rfl)
    (h1 : ∀ i, (assignEach [tg] (F i).env).map (·.2) = [assign tg (F i).env] := by exact fun _ => rfl) : DS I K W F (.Assign [tg] e pos) (sAsg g ga) := by
  refine @Hush.hu _ (by
  obtain ⟨tg, b1, b2⟩ := hg
  exact fun i => (ps_asg (h i) (b1 i) (hs i) (hw i) (h1 i)).imp (tgs_asg (fun _ _ _ q => q) b2)) ?_
  walk_at "hu"
def sRet (a : Sm D) : Sm Out := fun env t => (a env t).bind fun x t => .ok (.rt x) t
def pRet (a : Pm D) : Pm Out := fun env => (a env).map fun x => .rt x
theorem lift_ret (a : Pm D) : lift (pRet a) = sRet (lift a) := by
  refine @Hush.hu _ (by
  funext env s
  unfold lift pRet sRet
  dsimp only
  cases a env <;> rfl) ?_
  walk_at "hu"
theorem ds_ret {e : Expr} {g : Sm D} (h : DE I K W F e g) : DS I K W F (.Return (some e) pos) (sRet g) := by
  refine Hush.hu (fun i => (ps_ret (h i)).imp fun Dn σ H ⟨env, s, ok, re, h⟩ => st1 (Po.refl ok) re h fun x v s1 H1 p1 _ _ r1 h => h v s1 H1 rfl p1 r1) ?_
  walk_at "hu"
def sExp (a : Sm D) : Sm Out := fun env t => (a env t).bind fun _ t => .ok (.nx env) t
def pExp (a : Pm D) : Pm Out := fun env => (a env).map fun _ => .nx env
theorem ds_exp {e : Expr} {g : Sm D} (h : DE I K W F e g) (hs : ∀ i, swapsWith e none pos.line (F i).env = pure false := by exact fun _ => rfl) : DS I K W F (.Expr e pos) (sExp g) := by
  refine Hush.hu (fun i => (ps_expr (h i) (hs i)).imp fun Dn σ H ⟨env, s, ok, re, h⟩ => st1 (Po.refl ok) re h fun x v s1 H1 p1 _ re1 r1 h => h σ s1 H1 rfl p1 re1) ?_
  walk_at "hu"
def sNo {α : Type} : Sm α := fun _ _ => .no
def pNo {α : Type} : Pm α := fun _ => none
theorem ds_never {st : Stmt} : DS I K W F st sNo := by
  refine Hush.hu (fun i => ps_never.imp fun Dn σ H ⟨env, s, ok, re, h⟩ => h.elim) ?_
  walk_at "hu"
theorem lastS {s0 s : St1} {H0 H : Hp} {σ : L2.St} {env : Env} {g : Sm Out} {Dn : Ends} (p : Po I K s0 H0 s H) (re : RE K (Hr I s H) env σ) (h : (g env s.t).Post (fun o t => Fin1 I K s0 H0 o t Dn) (fun x t => ∀ σ', XP I K W s0 σ' H0 x t)) : tGS I K W g Dn σ H := by
  refine Hush.hu (⟨env, s, p.ok, re, h.mono (fun o t hk => fin_from p hk) fun x t hx σ' => xp_from p (hx σ')⟩) ?_
  walk_at "hu"
theorem ds_if {c : Expr} {a b : List Stmt} {gc : Sm Bool} {ga gb : Sm Out} (hc : DT I K W F c gc) (ha : DSs I K W F a ga) (hb : DSs I K W F b gb) : DS I K W F (.If c a b pos) (sIf gc ga gb) := by
  refine Hush.hu (fun i => (ps_if (hc i) (ha i) (hb i)).imp fun Dn σ H ⟨env, s, ok, re, h⟩ => st1B (Po.refl ok) re h fun x s1 H1 p1 _ re1 h => by
    cases x with
    | true => rw [if_pos rfl] at h ⊢; exact lastS p1 re1 h
    | false => rw [if_neg Bool.false_ne_true] at h ⊢; exact lastS p1 re1 h) ?_
  walk_at "hu"
def sNx : Sm Out := fun env t => .ok (.nx env) t
def pNx : Pm Out := fun env => some (.nx env)
theorem lift_nx : lift pNx = sNx := rfl
def sSeq (a b : Sm Out) : Sm Out := fun env t => (a env t).bind fun o t => match o with
  | .nx e1 => b e1 t
  | o => .ok o t
def pSeq (a b : Pm Out) : Pm Out := fun env => (a env).bind fun p => match p with
  | .nx e1 => b e1
  | o => some o
theorem lift_seq (a b : Pm Out) : lift (pSeq a b) = sSeq (lift a) (lift b) := by
  refine @Hush.hu _ (by
  funext env s
  unfold lift pSeq sSeq
  dsimp only
  cases a env with
  | none => rfl
  | some o => cases o <;> rfl) ?_
  walk_at "hu"
theorem dss_nil : DSs I K W F [] sNx := by
  refine Hush.hu (fun i => pss_nil.imp fun Dn σ H ⟨env, s, ok, re, h⟩ => h σ s H rfl (Po.refl ok) re) ?_
  walk_at "hu"
theorem dss_one {st : Stmt} {g : Sm Out} (h : DS I K W F st g) : DSs I K W F [st] g := by
  refine Hush.hu (fun i => pss_one (h i)) ?_
  walk_at "hu"
theorem dss_cons {st : Stmt} {rest : List Stmt} {g gr : Sm Out} (h : DS I K W F st g) (hr : DSs I K W F rest gr) : DSs I K W F (st :: rest) (sSeq g gr) := by
  refine Hush.hu (fun i => (pss_cons (h i) (hr i)).imp fun Dn σ H ⟨env, s, ok, re, h⟩ => ⟨env, s, ok, re, (R.post_bind h).mono (fun o t hk => by
    cases o with
    | nx en => exact fun σ' s1 H1 e p1 r1 => lastS p1 r1 (by rw [e]; exact hk)
    | rt d => exact hk
    | bk en => exact hk
    | ct en => exact hk) fun x t hx => hx⟩) ?_
  walk_at "hu"
def goF (g : D → Env → Option Env) (body : Sm Out) : List D → Env → Ts → R Out
  | [], env, t => .ok (.nx env) t
  | x :: r, env, t => (ofO (g x env) t).bind fun e1 t => (body e1 t).bind fun o t => match o with
    | .nx e2 => goF g body r e2 t
    | .ct e2 => goF g body r e2 t
    | .bk e2 => .ok (.nx e2) t
    | .rt d => .ok (.rt d) t
def goFP (g : D → Env → Option Env) (body : Pm Out) : List D → Env → Option Out
  | [], env => some (.nx env)
  | x :: r, env => (g x env).bind fun e1 => (body e1).bind fun p => match p with
    | .nx e2 => goFP g body r e2
    | .ct e2 => goFP g body r e2
    | .bk e2 => some (.nx e2)
    | .rt d => some (.rt d)
def goFN (it : Itb) (g : D → Env → Option Env) (body : Sm Out) : Nat → Nat → Env → Ts → R Out
  | 0, i, env, t => match it.next i t with
    | some none => .ok (.nx env) t
    | _ => .no
  | m + 1, i, env, t => match it.next i t with
    | some none => .ok (.nx env) t
    | some (some x) => (ofO (g x env) t).bind fun e1 t => (body e1 t).bind fun o t => match o with
      | .nx e2 => goFN it g body m (i + 1) e2 t
      | .ct e2 => goFN it g body m (i + 1) e2 t
      | .bk e2 => .ok (.nx e2) t
      | .rt d => .ok (.rt d) t
    | none => .no
theorem goF_N {g : D → Env → Option Env} {body : Sm Out} {ds : List D} : ∀ (m i : Nat) (env : Env) (t : Ts), i + m = ds.length → goF g body (ds.drop i) env t = goFN (.st ds) g body m i env t
  | 0, i, env, t, h => by
    have e : ds[i]? = none := List.getElem?_eq_none (by omega)
    rw [List.drop_of_length_le (by omega)]
    show R.ok (Out.nx env) t = (match (some ds[i]? : Option (Option D)) with | some none => R.ok (Out.nx env) t | _ => R.no)
    rw [e]
  | m + 1, i, env, t, h => by
    obtain ⟨x, hx⟩ : ∃ x, ds[i]? = some x := ⟨ds[i]'(by omega), List.getElem?_eq_getElem (by omega)⟩
    rw [drop_get hx]
    have ih := fun e t => goF_N (g := g) (body := body) (ds := ds) m (i + 1) e t (by omega)
    show _ = (match (some ds[i]? : Option (Option D)) with
      | some none => R.ok (Out.nx env) t
      | some (some x) => (ofO (g x env) t).bind fun e1 t => (body e1 t).bind fun o t => (match o with
        | .nx e2 => goFN (.st ds) g body m (i + 1) e2 t
        | .ct e2 => goFN (.st ds) g body m (i + 1) e2 t
        | .bk e2 => .ok (.nx e2) t
        | .rt d => .ok (.rt d) t)
      | none => .no)
    rw [hx]
    dsimp only
    rw [goF]
    simp only [ih]
def goItF (it : Itb) (g : D → Env → Option Env) (body : Sm Out) (env : Env) (t : Ts) : R Out := match it with
  | .st ds => goF g body ds env t
  | .dy n p => goFN (.dy n p) g body (lenA n p t) 0 env t
theorem goItF_N {it : Itb} {g : D → Env → Option Env} {body : Sm Out} {env : Env} {t : Ts} : ∃ m, goItF it g body env t = goFN it g body m 0 env t := by
  refine @Hush.hu _ (by
  cases it with
  | st ds => exact ⟨ds.length, goF_N ds.length 0 env t (by omega)⟩
  | dy n p => exact ⟨_, rfl⟩) ?_
  walk_at "hu"
def sFor (g : D → Env → Option Env) (src : Sm Itb) (body : Sm Out) : Sm Out := fun env t => (src env t).bind fun it t => goItF it g body env t
def pFor (g : D → Env → Option Env) (src : Pm (List D)) (body : Pm Out) : Pm Out := fun env => (src env).bind fun xs => goFP g body xs env
theorem goF_lift (g : D → Env → Option Env) (body : Pm Out) : ∀ (l : List D) (env : Env) (t : Ts), goF g (lift body) l env t = ofO (goFP g body l env) t
  | [], env, t => rfl
  | x :: r, env, t => by
    unfold goF goFP
    cases g x env with
    | none => rfl
    | some e1 =>
      simp only [ofO, R.bind, Option.bind_some, lift]
      cases body e1 with
      | none => rfl
      | some o =>
        cases o with
        | nx e2 => exact goF_lift g body r e2 t
        | ct e2 => exact goF_lift g body r e2 t
        | bk e2 => rfl
        | rt d => rfl
theorem lift_for (g : D → Env → Option Env) (src : Pm (List D)) (body : Pm Out) : lift (pFor g src body) = sFor g (liftI src) (lift body) := by
  refine @Hush.hu _ (by
  funext env t
  unfold lift pFor sFor liftI
  cases src env with
  | none => rfl
  | some xs => exact (goF_lift g body xs env t).symm) ?_
  walk_at "hu"
theorem ds_for {tg iter : Expr} {body : List Stmt} {gs : Sm Itb} {gg : D → Env → Option Env} {gb : Sm Out} (Wf : Fm P w K mg base k N F) (hi : DI I K W F tg iter gs) (hg : DG I K F tg gg) (hb : DSs I K W F body gb)
    (hp : ∀ i, PassesOwn (model (F i).prog (F i).w) (F i).A (F i).env (F i).xe := by first | exact fun _ => PassesOwn.never | exact fun _ => passes_of rfl) (hs : ∀ i x, foldedSetIterable iter (F i).env x = pure x := by exact fun _ _ => rfl) : DS I K W F (.For tg iter body [] pos) (sFor gg gs gb) := by
  refine @Hush.hu _ (by
  obtain ⟨g, g1, g2⟩ := hg
  refine fun i => (ps_for (hp i) (Wf.calm i) (hi i) (g1 i) (hb i) (hs i)).imp fun Dn σ H ⟨env, s, ok, re, h⟩ => st1I (Po.refl ok) re h fun it J s1 H1 p1 _ re1 wk h => ?_
  obtain ⟨m0, hm0⟩ := goItF_N (it := it) (g := gg) (body := gb) (env := env) (t := s1.t)
  rw [hm0] at h
  refine ⟨fun i m σ2 H2 => ∃ (en : Env) (s2 : St1), Po I K s H s2 H2 ∧ VLe (Hr I s1 H1) (Hr I s2 H2) ∧ RE K (Hr I s2 H2) en σ2 ∧ (goFN it gg gb m i en s2.t).Post (fun o t => Fin1 I K s H o t Dn) (XS I K W s H), ⟨m0, env, s1, p1, VLe.refl _, re1, h⟩, ?_⟩
  rintro i m σ2 H2 ⟨en, s2, p2, vl, re2, h2⟩
  have wki := wk s2 H2 p2.ok vl i
  have fin : it.next i s2.t = some none → Fin1 I K s H (.nx en) s2.t Dn → J.stop i H2 ∧ Dn.nx σ2 H2 := fun e hf => ⟨wki none e, hf σ2 s2 H2 rfl p2 re2⟩
  cases m with
  | zero =>
    have h2 : (match it.next i s2.t with | some none => R.ok (Out.nx en) s2.t | _ => .no).Post (fun o t => Fin1 I K s H o t Dn) (XS I K W s H) := h2
    split at h2
    · rename_i e
      exact .inl (fin e h2)
    · exact h2.elim
  | succ m =>
    have h2 : (match it.next i s2.t with
      | some none => R.ok (Out.nx en) s2.t
      | some (some x) => (ofO (gg x en) s2.t).bind fun e1 t => (gb e1 t).bind fun o t => (match o with
        | .nx e2 => goFN it gg gb m (i + 1) e2 t
        | .ct e2 => goFN it gg gb m (i + 1) e2 t
        | .bk e2 => .ok (.nx e2) t
        | .rt d => .ok (.rt d) t)
      | none => .no).Post (fun o t => Fin1 I K s H o t Dn) (XS I K W s H) := h2
    split at h2
    · rename_i e
      exact .inl (fin e h2)
    · rename_i x e
      right
      obtain ⟨go, yl⟩ := wki (some x) e
      refine ⟨go, fun σ3 H3 => ∃ (en : Env) (s2 : St1), Po I K s H s2 H3 ∧ VLe (Hr I s1 H1) (Hr I s2 H3) ∧ RE K (Hr I s2 H3) en σ3 ∧ (goFN it gg gb m (i + 1) en s2.t).Post (fun o t => Fin1 I K s H o t Dn) (XS I K W s H), fun σ3 H3 q => ⟨m, Nat.lt_succ_self _, q⟩, fun v H3 y => ?_⟩
      obtain ⟨y1, y3⟩ := yl v H3 y
      subst y1
      obtain ⟨en1, e3, h2⟩ := post_ofO (R.post_bind h2)
      refine g2 en s2 σ2 H3 x v en1 _ p2.ok re2 y3 e3 fun σ3 re3 => ?_
      refine ⟨en1, s2, p2.ok, re3, (R.post_bind h2).mono (fun o t ho => ?_) fun x t hx => xs_from p2 hx⟩
      cases o with
      | nx e5 => exact fun σ4 s4 H4 e4 p4 r4 => ⟨e5, s4, p2.trans p4, vl.trans p4.same, r4, by rw [e4]; exact ho⟩
      | ct e5 => exact fun σ4 s4 H4 e4 p4 r4 => ⟨e5, s4, p2.trans p4, vl.trans p4.same, r4, by rw [e4]; exact ho⟩
      | bk e5 => exact fun σ4 s4 H4 e4 p4 r4 => ho σ4 s4 H4 e4 (p2.trans p4) r4
      | rt d => exact fun v s4 H4 e4 p4 r4 => ho v s4 H4 e4 (p2.trans p4) r4
    · exact h2.elim) ?_
  walk_at "hu"
def goW (c : Sm Bool) (body : Sm Out) : Nat → Env → Ts → R Out
  | 0, _, _ => .no
  | n + 1, env, t => (c env t).bind fun b t => if b = true then (body env t).bind fun o t => match o with
    | .nx e2 => goW c body n e2 t
    | .ct e2 => goW c body n e2 t
    | .bk e2 => .ok (.nx e2) t
    | .rt d => .ok (.rt d) t else .ok (.nx env) t
def goWP (c : Pm Bool) (body : Pm Out) : Nat → Env → Option Out
  | 0, _ => none
  | n + 1, env => (c env).bind fun p => if p = true then (body env).bind fun q => match q with
    | .nx e2 => goWP c body n e2
    | .ct e2 => goWP c body n e2
    | .bk e2 => some (.nx e2)
    | .rt d => some (.rt d) else some (.nx env)
def sWh (n : Nat) (c : Sm Bool) (body : Sm Out) : Sm Out := goW c body n
def pWh (n : Nat) (c : Pm Bool) (body : Pm Out) : Pm Out := goWP c body n
def addI : D → D → Option D
  | .d (.int i), .d (.int j) => some (.d (.int (i + j)))
  | _, _ => none
def sAug (i : Nat) (a : Sm D) : Sm Out := fun env t => (sV i env t).bind fun q t => (a env t).bind fun p t => (ofO (addI q p) t).bind fun z t => .ok (.nx (env.set i (some z))) t
def pAug (i : Nat) (a : Pm D) : Pm Out := fun env => (pV i env).bind fun q => (a env).bind fun p => (addI q p).map fun z => .nx (env.set i (some z))
theorem lift_aug (i : Nat) (a : Pm D) : lift (pAug i a) = sAug i (lift a) := by
  refine @Hush.hu _ (by
  funext env s
  unfold sAug
  rw [← lift_v]
  unfold lift pAug
  cases pV i env with
  | none => rfl
  | some x =>
    simp only [Option.bind_some, ofO, R.bind]
    cases a env with
    | none => rfl
    | some y =>
      simp only [Option.bind_some]
      cases addI x y <;> rfl) ?_
  walk_at "hu"
def sPar2 (i j : Nat) (a : Sm (List D)) : Sm Out := fun env t => (a env t).bind fun p t => match p with
  | [x, y] => .ok (.nx ((env.set i (some x)).set j (some y))) t
  | _ => .no
def pPar2 (i j : Nat) (a : Pm (List D)) : Pm Out := fun env => (a env).bind fun p => match p with
  | [x, y] => some (.nx ((env.set i (some x)).set j (some y)))
  | _ => none
theorem lift_par2 (i j : Nat) (a : Pm (List D)) : lift (pPar2 i j a) = sPar2 i j (lift a) := by
  refine @Hush.hu _ (by
  funext env s
  unfold lift pPar2 sPar2
  dsimp only
  cases a env with
  | none => rfl
  | some l =>
    simp only [Option.bind_some, ofO, R.bind]
    match l with
    | [] => rfl
    | [_] => rfl
    | [_, _] => rfl
    | _ :: _ :: _ :: _ => rfl) ?_
  walk_at "hu"
theorem ds_par2 {x y : Str} {a b : Expr} {px py pt : Pos} {kt k2 pt2} {g : Sm (List D)} (Wf : Fm P w K mg base k N F) (i j : Nat) (hij : i ≠ j) (h : DA I K W F [a, b] g)
    (hw : ∀ l, swappedStores [.Tuple [.Name x px, .Name y py] kt pt] (.Tuple [a, b] k2 pt2) (F l).env = pure (some [x, y])) (hi : ∀ l, (F l).N[i]? = some x := by exact fun _ => rfl) (hj : ∀ l, (F l).N[j]? = some y := by exact fun _ => rfl)
    (hx : ∀ l, (F l).env.scope.names.lookup x = some .local := by exact fun _ => rfl) (hy : ∀ l, (F l).env.scope.names.lookup y = some .local := by exact fun _ => rfl)
    (hs : ∀ l, swapsWithSole [.Tuple [.Name x px, .Name y py] kt pt] (.Tuple [a, b] k2 pt2) pos.line (F l).env = pure false := by exact fun _ => rfl) :
    DS I K W F (.Assign [.Tuple [.Name x px, .Name y py] kt pt] (.Tuple [a, b] k2 pt2) pos) (sPar2 i j g) := by
  refine Hush.hu (fun l => (ps_par (Wf.calm l) (by rw [Wf.N l]; exact Wf.nd) (hi l) (hj l) hij (hx l) (hy l) (h l) (hw l) (hs l)).imp fun Dn σ H ⟨env, s, ok, re, h⟩ => st1L (Po.refl ok) re h fun xs vs s1 H1 p1 _ re1 r1 h => by
    split at h
    · cases r1 with
      | cons h1 h2 =>
        cases h2 with
        | cons h3 h4 =>
          cases h4
          exact ⟨_, _, rfl, h _ s1 H1 rfl p1 ((re1.set h1).set h3)⟩
    · exact h.elim) ?_
  walk_at "hu"
def sPar3 (i j l : Nat) (a : Sm (List D)) : Sm Out := fun env t => (a env t).bind fun p t => match p with
  | [x, y, z] => .ok (.nx (((env.set i (some x)).set j (some y)).set l (some z))) t
  | _ => .no
def pPar3 (i j l : Nat) (a : Pm (List D)) : Pm Out := fun env => (a env).bind fun p => match p with
  | [x, y, z] => some (.nx (((env.set i (some x)).set j (some y)).set l (some z)))
  | _ => none
theorem lift_par3 (i j l : Nat) (a : Pm (List D)) : lift (pPar3 i j l a) = sPar3 i j l (lift a) := by
  refine @Hush.hu _ (by
  funext env s
  unfold lift pPar3 sPar3
  dsimp only
  cases a env with
  | none => rfl
  | some l =>
    simp only [Option.bind_some, ofO, R.bind]
    match l with
    | [] => rfl
    | [_] => rfl
    | [_, _] => rfl
    | [_, _, _] => rfl
    | _ :: _ :: _ :: _ :: _ => rfl) ?_
  walk_at "hu"
theorem ds_par3 {x y z : Str} {a b c : Expr} {px py pz pt : Pos} {kt k2 pt2} {g : Sm (List D)} (Wf : Fm P w K mg base k N F) (i j l : Nat) (hij : i ≠ j) (hil : i ≠ l) (hjl : j ≠ l) (h : DA I K W F [a, b, c] g)
    (hw : ∀ q, swappedStores [.Tuple [.Name x px, .Name y py, .Name z pz] kt pt] (.Tuple [a, b, c] k2 pt2) (F q).env = pure (some [x, y, z])) (hi : ∀ q, (F q).N[i]? = some x := by exact fun _ => rfl) (hj : ∀ q, (F q).N[j]? = some y := by exact fun _ => rfl) (hl : ∀ q, (F q).N[l]? = some z := by exact fun _ => rfl)
    (hx : ∀ l, (F l).env.scope.names.lookup x = some .local := by exact fun _ => rfl) (hy : ∀ l, (F l).env.scope.names.lookup y = some .local := by exact fun _ => rfl) (hz : ∀ l, (F l).env.scope.names.lookup z = some .local := by exact fun _ => rfl)
    (hs : ∀ q, swapsWithSole [.Tuple [.Name x px, .Name y py, .Name z pz] kt pt] (.Tuple [a, b, c] k2 pt2) pos.line (F q).env = pure false := by exact fun _ => rfl) :
    DS I K W F (.Assign [.Tuple [.Name x px, .Name y py, .Name z pz] kt pt] (.Tuple [a, b, c] k2 pt2) pos) (sPar3 i j l g) := by
  refine Hush.hu (fun q => (ps_par3 (Wf.calm q) (by rw [Wf.N q]; exact Wf.nd) (hi q) (hj q) (hl q) hij hil hjl (hx q) (hy q) (hz q) (h q) (hw q) (hs q)).imp fun Dn σ H ⟨env, s, ok, re, h⟩ => st1L (Po.refl ok) re h fun xs vs s1 H1 p1 _ re1 r1 h => by
    split at h
    · cases r1 with
      | cons h1 h2 =>
        cases h2 with
        | cons h3 h4 =>
          cases h4 with
          | cons h5 h6 =>
            cases h6
            exact ⟨_, _, _, rfl, h _ s1 H1 rfl p1 (((re1.set h1).set h3).set h5)⟩
    · exact h.elim) ?_
  walk_at "hu"
end
end Dl
namespace Dl
open PySem L2
def goC2 (g : D → Env → Option Env) (env : Env) (tt : Sm Bool) (src1 : Sm Itb) (g1 : D → Env → Option Env) (vs1 : List Nat) (tt1 : Sm Bool) (el : Sm D) : List D → Ts → R (List D)
  | [], t => .ok [] t
  | x :: r, t => (ofO (g x env) t).bind fun e1 t => (tt e1 t).nox.bind fun b t => if b = true then (src1 e1 t).nox.bind fun it t => match it with
      | .st us => if us.length ≤ 1000 then (goC g1 (wipeE e1 vs1) tt1 el us t).bind fun z t => (goC2 g env tt src1 g1 vs1 tt1 el r t).bind fun y t => .ok (z ++ y) t else .no
      | .dy _ _ => .no
    else goC2 g env tt src1 g1 vs1 tt1 el r t
def goP2 (g : D → Env → Option Env) (env : Env) (tt : Pm Bool) (src1 : Pm (List D)) (g1 : D → Env → Option Env) (vs1 : List Nat) (tt1 : Pm Bool) (el : Pm D) : List D → Option (List D)
  | [] => some []
  | x :: r => (g x env).bind fun e1 => (tt e1).bind fun p => if p = true then (src1 e1).bind fun q => if q.length ≤ 1000 then (goP g1 (wipeE e1 vs1) tt1 el q).bind fun z => (goP2 g env tt src1 g1 vs1 tt1 el r).map fun y => z ++ y else none
    else goP2 g env tt src1 g1 vs1 tt1 el r
theorem goC2_lift (g : D → Env → Option Env) (env : Env) (tt : Pm Bool) (src1 : Pm (List D)) (g1 : D → Env → Option Env) (vs1 : List Nat) (tt1 : Pm Bool) (el : Pm D) :
    ∀ (l : List D) (t : Ts), goC2 g env (lift tt) (liftI src1) g1 vs1 (lift tt1) (lift el) l t = ofO (goP2 g env tt src1 g1 vs1 tt1 el l) t
  | [], t => rfl
  | x :: r, t => by
    have ih := goC2_lift g env tt src1 g1 vs1 tt1 el r t
    unfold goC2 goP2
    cases g x env with
    | none => rfl
    | some e1 =>
      simp only [ofO, R.bind, Option.bind_some, lift]
      cases tt e1 with
      | none => rfl
      | some b =>
        cases b with
        | false => simpa [ofO, R.bind, R.nox, lift] using ih
        | true =>
          simp only [ofO, R.bind, R.nox, Option.bind_some, if_true, liftI]
          cases src1 e1 with
          | none => rfl
          | some xs =>
            simp only [Option.bind_some]
            by_cases c : xs.length ≤ 1000
            · rw [if_pos c, if_pos c]
              rw [goC_lift g1 (wipeE e1 vs1) tt1 el xs t]
              cases goP g1 (wipeE e1 vs1) tt1 el xs with
              | none => rfl
              | some ys =>
                simp only [Option.bind_some, ofO]
                rw [ih]
                cases goP2 g env tt src1 g1 vs1 tt1 el r <;> rfl
            · rw [if_neg c, if_neg c]
def sLc2 (g : D → Env → Option Env) (vs : List Nat) (src : Sm Itb) (tt : Sm Bool) (src1 : Sm Itb) (g1 : D → Env → Option Env) (vs1 : List Nat) (tt1 : Sm Bool) (el : Sm D) : Sm (List D) := fun env t => (src env t).bind fun it t => match it with
  | .st xs => if xs.length ≤ 1000 then goC2 g (wipeE env vs) tt src1 g1 vs1 tt1 el xs t else .no
  | .dy _ _ => .no
def pLc2 (g : D → Env → Option Env) (vs : List Nat) (src : Pm (List D)) (tt : Pm Bool) (src1 : Pm (List D)) (g1 : D → Env → Option Env) (vs1 : List Nat) (tt1 : Pm Bool) (el : Pm D) : Pm (List D) := fun env => (src env).bind fun xs => if xs.length ≤ 1000 then goP2 g (wipeE env vs) tt src1 g1 vs1 tt1 el xs else none
theorem lift_lc2 (g : D → Env → Option Env) (vs : List Nat) (src : Pm (List D)) (tt : Pm Bool) (src1 : Pm (List D)) (g1 : D → Env → Option Env) (vs1 : List Nat) (tt1 : Pm Bool) (el : Pm D) :
    lift (pLc2 g vs src tt src1 g1 vs1 tt1 el) = sLc2 g vs (liftI src) (lift tt) (liftI src1) g1 vs1 (lift tt1) (lift el) := by
  refine @Hush.hu _ (by
  funext env t
  show ofO ((src env).bind fun xs => if xs.length ≤ 1000 then goP2 g (wipeE env vs) tt src1 g1 vs1 tt1 el xs else none) t = ((ofO (src env) t).bind fun ds t => R.ok (Itb.st ds) t).bind _
  cases src env with
  | none => rfl
  | some xs =>
    simp only [Option.bind_some, ofO, R.bind]
    by_cases c : xs.length ≤ 1000
    · rw [if_pos c, if_pos c, goC2_lift]; rfl
    · rw [if_neg c, if_neg c]) ?_
  walk_at "hu"
section
variable {ι : Type} {P : Program} {w : World} {K : PySem.W.Frag} {mg : Str → Option Value} {base : Heap} {k : Nat} {N : List Str} {F : ι → Cx} {I : SI} {W : WX} {pos : Pos}
theorem tg_lc2 {g g1 : TG} {vs vs1 : List Nat} {gs gs1 : Sm Itb} {gg gg1 : D → Env → Option Env} {gt gt1 : Sm Bool} {ge : Sm D} (hg : EvG I K g gg) (hs : Str1 g vs) (hg1 : EvG I K g1 gg1) (hs1 : Str1 g1 vs1) :
    ∀ σ H Q, tG I K W (sMk mLst (sLc2 gg vs gs gt gs1 gg1 vs1 gt1 ge)) σ H Q → tLc2 (tGI I K W gs) g (tGB I K WF gt) (tGI I K WF gs1) g1 (tGB I K WF gt1) (tG I K WF ge) vs vs1 σ H Q := by
  refine Hush.hu (fun σ H Q ⟨env, s, ok, re, h⟩ => by
  have h : ((gs env s.t).bind fun it t => (match it with
      | .st xs => if xs.length ≤ 1000 then goC2 gg (wipeE env vs) gt gs1 gg1 vs1 gt1 ge xs t else .no
      | .dy _ _ => .no : R (List D)).bind fun xs t => ofO (mLst xs) t).Post (fun d t => ∀ v s' H', s'.t = t → Po I K s H s' H' → Rp K (Hr I s' H') d v → Q v H') (XP I K W s σ H) := by
    unfold sMk sLc2 at h
    cases q : gs env s.t with
    | no => rw [q] at h; exact h
    | ok a t => rw [q] at h; exact h
    | ex x t => rw [q] at h; exact h
  refine stepI (Po.refl ok) re h fun it J s1 H1 p1 _ wk h => ?_
  cases it with
  | dy n p => exact h.elim
  | st xs =>
    have h : ((if xs.length ≤ 1000 then goC2 gg (wipeE env vs) gt gs1 gg1 vs1 gt1 ge xs s1.t else .no : R (List D)).bind fun xs t => ofO (mLst xs) t).Post (fun d t => ∀ v s' H', s'.t = t → Po I K s H s' H' → Rp K (Hr I s' H') d v → Q v H') (XP I K W s σ H) := h
    by_cases c : xs.length ≤ 1000
    · rw [if_pos c] at h
      intro L hL
      have re1 := re.same p1.same
      have ok1 := p1.ok
      have zL := ok_zL ok1 hL
      have ldl : ∀ xs, Ld (.lst xs) := fun xs => .inl ⟨xs, rfl⟩
      obtain ⟨Pr, hPr⟩ : ∃ Pr : List D → Ts → Prop, Pr = fun ys t => (ofO (mLst ys) t).Post (fun d t => ∀ v s' H', s'.t = t → Po I K s H s' H' → Rp K (Hr I s' H') d v → Q v H') (XP I K W s σ H) := ⟨_, rfl⟩
      have h := R.post_bind h
      rw [← hPr] at h
      refine ⟨fun i m H2 => m = xs.length - i ∧ i ≤ xs.length ∧ ∃ (s3 : St1) (acc : List V) (dn : List D), Gro I K L s1 H1 (.lst acc) s3 H2 ∧ RpL K (Hr I s3 H2) dn acc ∧ acc.length ≤ i * 1000 ∧
        (goC2 gg (wipeE env vs) gt gs1 gg1 vs1 gt1 ge (xs.drop i) s3.t).Post (fun ys t => Pr (dn ++ ys) t) (XP I K W s σ H), ⟨_, rfl, Nat.zero_le _, s1.zz (upd s1.Z L (.lst [])), [], [], Gro.start ok1 hL (ldl _), .nil, Nat.zero_le _, h⟩, ?_⟩
      rintro i m H2 ⟨rfl, hi', s3, acc, dn, gr, ra, hal, h3⟩
      have wki := wk s3 H2 gr.ok gr.sm i
      by_cases hlt : i < xs.length
      · right
        obtain ⟨x, hx⟩ : ∃ x, xs[i]? = some x := ⟨xs[i], List.getElem?_eq_getElem hlt⟩
        obtain ⟨go, yl⟩ := wki (some x) (by show some xs[i]? = _; rw [hx])
        refine ⟨go, fun H' => i + 1 ≤ xs.length ∧ ∃ (s3 : St1) (acc : List V) (dn : List D), Gro I K L s1 H1 (.lst acc) s3 H' ∧ RpL K (Hr I s3 H') dn acc ∧ acc.length ≤ (i + 1) * 1000 ∧
          (goC2 gg (wipeE env vs) gt gs1 gg1 vs1 gt1 ge (xs.drop (i + 1)) s3.t).Post (fun ys t => Pr (dn ++ ys) t) (XP I K W s σ H), fun H' q => ⟨xs.length - (i + 1), by omega, rfl, q⟩, fun v H3 y => ?_⟩
        obtain ⟨y1, y3⟩ := yl v H3 y
        subst y1
        rw [drop_get hx] at h3
        unfold goC2 at h3
        obtain ⟨en, e6, h3⟩ := post_ofO (R.post_bind h3)
        have rw1 := re_wipe (re1.same gr.sm) vs
        refine hs v (wipe σ vs) H3 _ _ (fun σ2 H2 w2 q => ⟨w2.trans (wipe_wipe σ vs), q⟩) (hg (wipeE env vs) s3 (wipe σ vs) H3 x v en _ gr.ok rw1 y3 e6 fun σ2 re2 => ?_)
        refine ⟨en, s3, gr.ok, re2, (nox_post h3).mono (fun b t hb s4 H4 e4 p4 => ?_) fun _ _ f => f.elim⟩
        subst e4
        have gr4 := gr.step p4 hL zL
        cases b with
        | false =>
          rw [if_neg Bool.false_ne_true] at hb ⊢
          exact ⟨hlt, s4, acc, dn, gr4, rpl_same p4.same ra, by omega, hb⟩
        | true =>
          rw [if_pos rfl] at hb ⊢
          refine ⟨en, s4, p4.ok, re2.same p4.same, (nox_post hb).mono (fun it t hi J1 s5 H5 e5 p5 wk1 => ?_) fun _ _ f => f.elim⟩
          subst e5
          cases it with
          | dy n p => exact hi.elim
          | st us =>
            have hi : (if us.length ≤ 1000 then (goC gg1 (wipeE en vs1) gt1 ge us s5.t).bind fun z t => (goC2 gg (wipeE env vs) gt gs1 gg1 vs1 gt1 ge (xs.drop (i + 1)) t).bind fun y t => .ok (z ++ y) t else .no : R (List D)).Post (fun ys t => Pr (dn ++ ys) t) (XP I K W s σ H) := hi
            by_cases cu : us.length ≤ 1000
            · rw [if_pos cu] at hi
              have gr5 := gr4.step p5 hL zL
              have re5 := (re2.same p4.same).same p5.same
              refine ⟨fun j n H6 => n = us.length - j ∧ j ≤ us.length ∧ ∃ (s8 : St1) (acc2 : List V) (dn2 : List D), Gro I K L s1 H1 (.lst acc2) s8 H6 ∧ VLe (Hr I s5 H5) (Hr I s8 H6) ∧ RpL K (Hr I s8 H6) (dn ++ dn2) acc2 ∧ acc2.length ≤ acc.length + j ∧
                (goC gg1 (wipeE en vs1) gt1 ge (us.drop j) s8.t).Post (fun zs t => (goC2 gg (wipeE env vs) gt gs1 gg1 vs1 gt1 ge (xs.drop (i + 1)) t).Post (fun ys t => Pr (dn ++ (dn2 ++ zs) ++ ys) t) (XP I K W s σ H)) (XP I K W s σ H),
                ⟨_, rfl, Nat.zero_le _, s5, acc, [], gr5, VLe.refl _, by rw [List.append_nil]; exact rpl_same p5.same (rpl_same p4.same ra), Nat.le_refl _, (R.post_bind hi).mono (fun zs t hz => (R.post_bind hz).mono (fun ys t q => by rw [List.nil_append, List.append_assoc]; exact q) fun _ _ q => q) fun _ _ q => q⟩, ?_⟩
              rintro j n H6 ⟨rfl, hj', s8, acc2, dn2, gr8, sm8, ra8, hal8, h8⟩
              have wkj := wk1 s8 H6 gr8.ok sm8 j
              by_cases hlt2 : j < us.length
              · right
                obtain ⟨u, hu⟩ : ∃ u, us[j]? = some u := ⟨us[j], List.getElem?_eq_getElem hlt2⟩
                obtain ⟨go1, yl1⟩ := wkj (some u) (by show some us[j]? = _; rw [hu])
                refine ⟨go1, fun H' => j + 1 ≤ us.length ∧ ∃ (s8 : St1) (acc2 : List V) (dn2 : List D), Gro I K L s1 H1 (.lst acc2) s8 H' ∧ VLe (Hr I s5 H5) (Hr I s8 H') ∧ RpL K (Hr I s8 H') (dn ++ dn2) acc2 ∧ acc2.length ≤ acc.length + (j + 1) ∧
                  (goC gg1 (wipeE en vs1) gt1 ge (us.drop (j + 1)) s8.t).Post (fun zs t => (goC2 gg (wipeE env vs) gt gs1 gg1 vs1 gt1 ge (xs.drop (i + 1)) t).Post (fun ys t => Pr (dn ++ (dn2 ++ zs) ++ ys) t) (XP I K W s σ H)) (XP I K W s σ H), fun H' q => ⟨us.length - (j + 1), by omega, rfl, q⟩, fun v2 H7 y => ?_⟩
                obtain ⟨z1, z3⟩ := yl1 v2 H7 y
                subst z1
                rw [drop_get hu] at h8
                unfold goC at h8
                obtain ⟨en1, f6, h8⟩ := post_ofO (R.post_bind h8)
                have rw2 := re_wipe (re5.same sm8) vs1
                refine hs1 v2 (wipe σ2 vs1) H7 _ _ (fun σ3 H2 w2 q => ⟨w2.trans (wipe_wipe σ2 vs1), q⟩) (hg1 (wipeE en vs1) s8 (wipe σ2 vs1) H7 u v2 en1 _ gr8.ok rw2 z3 f6 fun σ3 re3 => ?_)
                refine ⟨en1, s8, gr8.ok, re3, (nox_post h8).mono (fun b t hb s9 H8 e9 p8 => ?_) fun _ _ f => f.elim⟩
                subst e9
                have gr9 := gr8.step p8 hL zL
                cases b with
                | false =>
                  rw [if_neg Bool.false_ne_true] at hb ⊢
                  exact ⟨hlt2, s9, acc2, dn2, gr9, sm8.trans p8.same, rpl_same p8.same ra8, by omega, hb⟩
                | true =>
                  rw [if_pos rfl] at hb ⊢
                  refine ⟨en1, s9, p8.ok, re3.same p8.same, (nox_post hb).mono (fun yd t hy yv s10 H10 e10 p10 r10 => ?_) fun _ _ f => f.elim⟩
                  subst e10
                  have gr10 := gr9.step p10 hL zL
                  refine ⟨acc2, gr10.at_, Nat.lt_of_le_of_lt (show acc2.length ≤ 1001000 by have : i * 1000 ≤ 1000 * 1000 := Nat.mul_le_mul_right 1000 (by omega); omega) (by decide), hlt2, s10.zz (upd s1.Z L (.lst (acc2 ++ [yv]))), acc2 ++ [yv], dn2 ++ [yd], gr10.put hL zL (ldl _), sm8.trans (p8.same.trans (p10.same.trans gr10.psm)), ?_, by rw [List.length_append]; show acc2.length + 1 ≤ _; omega, ?_⟩
                  · rw [← List.append_assoc]
                    exact rpl_app (rpl_same (p8.same.trans (p10.same.trans gr10.psm)) ra8) (.cons (rp_same gr10.psm r10) .nil)
                  · refine (R.post_bind hy).mono (fun zs t q => ?_) fun _ _ q => q
                    have e : dn2 ++ [yd] ++ zs = dn2 ++ (yd :: zs) := by rw [List.append_assoc]; rfl
                    rw [e]
                    exact q
              · left
                have ej : j = us.length := by omega
                subst ej
                refine ⟨wkj none (by show some us[us.length]? = _; rw [List.getElem?_eq_none (Nat.le_refl _)]), hlt, s8, acc2, dn ++ dn2, gr8, ra8, by omega, ?_⟩
                rw [List.drop_of_length_le (Nat.le_refl _)] at h8
                have h8 : (goC2 gg (wipeE env vs) gt gs1 gg1 vs1 gt1 ge (xs.drop (i + 1)) s8.t).Post (fun ys t => Pr (dn ++ (dn2 ++ []) ++ ys) t) (XP I K W s σ H) := h8
                rw [List.append_nil] at h8
                exact h8
            · rw [if_neg cu] at hi; exact hi.elim
      · left
        have ei : i = xs.length := by omega
        subst ei
        refine ⟨wki none (by show some xs[xs.length]? = _; rw [List.getElem?_eq_none (Nat.le_refl _)]), ?_⟩
        rw [List.drop_of_length_le (Nat.le_refl _)] at h3
        have h3 : Pr (dn ++ []) s3.t := h3
        rw [List.append_nil, hPr] at h3
        obtain ⟨z, e, hp⟩ := post_ofO h3
        exact hp (.ref L) (s3.zz s1.Z) H2 rfl (p1.trans gr.po) (lc_end ok1 hL gr ra e)
    · rw [if_neg c] at h; exact h.elim) ?_
  walk_at "hu"
theorem de_lc2 {elt tg iter tg1 iter1 : Expr} {ifs ifs1 : List Expr} {scope : Scope} (own : List (Str × Nat)) (vs1 : List Nat) {gs gs1 : Sm Itb} {gg gg1 : D → Env → Option Env} {gt gt1 : Sm Bool} {ge : Sm D} (Wf : Fm P w K mg base k N F)
    (ok : ∀ i, BlkOk (F i).N (F i).env.scope scope own) (hv : ∀ i ∈ vs1, i ∈ own.map (·.2)) (hi : DI I K W F tg iter gs) (hg : DGv I K (blkF scope F) (own.map (·.2)) tg gg) (ht : DTs I K WF (blkF scope F) ifs gt)
    (hi1 : DI I K WF (blkF scope F) tg1 iter1 gs1) (hg1 : DGv I K (blkF scope F) vs1 tg1 gg1) (ht1 : DTs I K WF (blkF scope F) ifs1 gt1) (he : DE I K WF (blkF scope F) elt ge)
    (hs : ∀ i x, foldedSetIterable iter (F i).env x = pure x := by exact fun _ _ => rfl) (hs1 : ∀ env x, foldedSetIterable iter1 env x = pure x := by exact fun _ _ => rfl) :
    DE I K W F (.ListComp elt [⟨tg, iter, ifs, 0⟩, ⟨tg1, iter1, ifs1, 0⟩] scope pos) (sMk mLst (sLc2 gg (own.map (·.2)) gs gt gs1 gg1 vs1 gt1 ge)) := by
  refine @Hush.hu _ (by
  obtain ⟨g, g1, g2, g3⟩ := hg
  obtain ⟨gq, q1, q2, q3⟩ := hg1
  exact fun i => (pe_lc2 (Wf.calm i) (by rw [Wf.N i]; exact Wf.nd) (hi i) (ok i) hv (fun s H C cl fp => g1 (i, s, H, C, cl, fp)) (fun s H C cl fp => ht (i, s, H, C, cl, fp)) (fun s H C cl fp => hi1 (i, s, H, C, cl, fp))
    (fun s H C cl fp => q1 (i, s, H, C, cl, fp)) (fun s H C cl fp => ht1 (i, s, H, C, cl, fp)) (fun s H C cl fp => he (i, s, H, C, cl, fp)) (hs i) hs1).imp (tg_lc2 g2 g3 q2 q3)) ?_
  walk_at "hu"
end
end Dl
namespace Dl
open PySem L2
section
variable {κ : Type} [DecidableEq κ]
def kix (z : κ) : List κ → Option Nat
  | [] => none
  | y :: r => if y = z then some 0 else (kix z r).map (· + 1)
theorem kix_cons {z y : κ} {r : List κ} : kix z (y :: r) = if y = z then some 0 else (kix z r).map (· + 1) := rfl
theorem idx_some {z : κ} : ∀ {ys : List κ} {j : Nat}, kix z ys = some j → ys[j]? = some z ∧ ∀ m, m < j → ys[m]? ≠ some z
  | [], j, h => by cases h
  | y :: r, j, h => by
    rw [kix_cons] at h
    by_cases c : y = z
    · rw [if_pos c] at h
      cases h
      have e : y = z := by simpa using c
      subst e
      exact ⟨rfl, fun m hm => absurd hm (Nat.not_lt_zero _)⟩
    · rw [if_neg c] at h
      cases q : kix z r with
      | none => rw [q] at h; cases h
      | some i =>
        rw [q] at h
        have h : some (i + 1) = some j := h
        cases h
        obtain ⟨h1, h2⟩ := idx_some q
        refine ⟨by simpa using h1, fun m hm hy => ?_⟩
        cases m with
        | zero =>
          simp at hy
          subst hy
          simp at c
        | succ m => exact h2 m (by omega) (by simpa using hy)
theorem idx_none {z : κ} : ∀ {ys : List κ}, kix z ys = none → ¬ z ∈ ys
  | [], _ => by simp
  | y :: r, h => by
    rw [kix_cons] at h
    by_cases c : y = z
    · rw [if_pos c] at h; cases h
    · rw [if_neg c] at h
      have h : kix z r = none := by
        cases q : kix z r with
        | none => rfl
        | some i => rw [q] at h; cases h
      intro hm
      rcases List.mem_cons.mp hm with e | e
      · exact c (by simp [e])
      · exact idx_none h e
theorem zip_val {z : κ} {v : V} : ∀ {ys : List κ} {vs : List V} {j : Nat}, kix z ys = some j → vs[j]? = some v → valV (ys.zip vs) z = some v
  | [], _, j, h, _ => by cases h
  | _ :: _, [], _, _, e => by simp at e
  | y :: r, u :: us, j, h, e => by
    rw [kix_cons] at h
    by_cases c : y = z
    · rw [if_pos c] at h
      cases h
      have e2 : y = z := by simpa using c
      subst e2
      simp at e
      subst e
      unfold valV
      rw [List.zip_cons_cons, List.find?_cons_of_pos (by simp)]
      rfl
    · rw [if_neg c] at h
      cases q : kix z r with
      | none => rw [q] at h; cases h
      | some i =>
        rw [q] at h
        have h : some (i + 1) = some j := h
        cases h
        have ih := zip_val (vs := us) q (by simpa using e)
        unfold valV at ih ⊢
        rw [List.zip_cons_cons, List.find?_cons_of_neg (by simpa using c)]
        exact ih
def setA {α : Type} (ts : List α) (j : Nat) (u : α) : List α := if j < ts.length then ts.set j u else ts ++ [u]
theorem zip_any {z : κ} {ys : List κ} {vs : List V} (hl : ys.length = vs.length) : ((ys.zip vs).any fun p => decide (p.1 = z)) = decide (z ∈ ys) := by
  refine @Hush.hu _ (by
  induction ys generalizing vs with
  | nil => rfl
  | cons y r ih =>
    cases vs with
    | nil => cases hl
    | cons u us =>
      rw [List.zip_cons_cons, List.any_cons, ih (by simpa using hl)]
      by_cases c : y = z
      · subst c; simp
      · have : ¬ z = y := fun e => c e.symm
        simp [c, this]) ?_
  walk_at "hu"
theorem zip_put {z : κ} {ys : List κ} {vs : List V} {j : Nat} {v : V} (nd : ys.Nodup) (hl : ys.length = vs.length) (h : kix z ys = some j) : putK (ys.zip vs) z v = ys.zip (vs.set j v) := by
  refine @Hush.hu _ (by
  have hm : z ∈ ys := List.mem_of_getElem? (idx_some h).1
  unfold putK
  rw [if_pos (by rw [zip_any hl]; exact decide_eq_true hm)]
  have e : ∀ {ys : List κ} {vs : List V} {j : Nat}, ys.Nodup → ys.length = vs.length → kix z ys = some j → (ys.zip vs).map (fun p => if p.1 = z then (p.1, v) else p) = ys.zip (vs.set j v) := by
    intro ys
    induction ys with
    | nil => intro vs j _ _ h; cases h
    | cons y r ih =>
      intro vs j nd hl h
      cases vs with
      | nil => cases hl
      | cons u us =>
        rw [kix_cons] at h
        obtain ⟨n1, n2⟩ := List.nodup_cons.mp nd
        by_cases c : y = z
        · rw [if_pos c] at h
          cases h
          have e2 : y = z := by simpa using c
          subst e2
          rw [List.zip_cons_cons, List.map_cons, if_pos rfl, List.set_cons_zero, List.zip_cons_cons]
          congr 1
          have : ∀ p ∈ r.zip us, (if p.1 = y then (p.1, v) else p) = p := fun p hp => if_neg fun e => n1 (by rw [← e]; exact (List.of_mem_zip hp).1)
          rw [List.map_congr_left this, List.map_id']
        · rw [if_neg c] at h
          cases q : kix z r with
          | none => rw [q] at h; cases h
          | some i =>
            rw [q] at h
            have h : some (i + 1) = some j := h
            cases h
            rw [List.zip_cons_cons, List.map_cons, if_neg (by simpa using c), List.set_cons_succ, List.zip_cons_cons, ih n2 (by simpa using hl) q]
  first | exact e nd hl h | (simp only [e nd hl h])) ?_
  walk_at "hu"
theorem zip_new {z : κ} {ys : List κ} {vs : List V} {v : V} (hl : ys.length = vs.length) (h : ¬ z ∈ ys) : putK (ys.zip vs) z v = (ys ++ [z]).zip (vs ++ [v]) := by
  refine @Hush.hu _ (by
  unfold putK
  rw [if_neg (by rw [zip_any hl]; simpa using h), List.zip_append hl]
  rfl) ?_
  walk_at "hu"
end
end Dl
namespace Dl
open PySem L2
def nd? : Option Tr → Bool
  | some (.nd _ _) => true
  | _ => false
def putCh (t : Ts) (n : Nat) (p : Pth) (k : Kd) (ts : List Tr) : Option Ts := match t[n]? with
  | some (some T) => (T.put p (.nd k ts)).map fun T' => t.set n (some T')
  | _ => none
def stc (t : Ts) (n : Nat) (p : Pth) (k : Kd) (ts : List Tr) (j : Nat) (mv : Bool) (y : D) : Option Ts :=
  if nd? ts[j]? = true then none else
  if mv = true then match y with
    | .r m [] => if m = n then none else match t[m]? with
      | some (some (.nd km tm)) => (putCh t n p k (setA ts j (.nd km tm))).map fun t => t.set m none
      | _ => none
    | _ => none
  else if top y = 0 then putCh t n p k (setA ts j (.v y)) else none
section
variable {I : SI} {K : PySem.W.Frag} {s : St1} {H : Hp}
theorem putCh_some {t t' : Ts} {n : Nat} {p : Pth} {k : Kd} {ts : List Tr} (h : putCh t n p k ts = some t') : ∃ T T', t[n]? = some (some T) ∧ T.put p (.nd k ts) = some T' ∧ t' = t.set n (some T') := by
  refine @Hush.hu _ (by
  unfold putCh at h
  split at h
  · rename_i T e
    cases q : T.put p (.nd k ts) with
    | none => rw [q] at h; cases h
    | some T' => rw [q] at h; cases h; exact ⟨T, T', e, q, rfl⟩
  · cases h) ?_
  walk_at "hu"
theorem setA_get {α : Type} {ts : List α} {j : Nat} {u : α} (hj : j ≤ ts.length) : (setA ts j u)[j]? = some u := by
  refine @Hush.hu _ (by
  unfold setA
  by_cases c : j < ts.length
  · rw [if_pos c, List.getElem?_set_self c]
  · have : j = ts.length := by omega
    subst this
    rw [if_neg c, List.getElem?_append_right (Nat.le_refl _), Nat.sub_self]
    rfl) ?_
  walk_at "hu"
theorem setA_ne {α : Type} {ts : List α} {i j : Nat} {u : α} (hj : j ≤ ts.length) (h : i ≠ j) : (setA ts j u)[i]? = ts[i]? := by
  refine @Hush.hu _ (by
  unfold setA
  by_cases c : j < ts.length
  · rw [if_pos c, List.getElem?_set_ne (fun e => h e.symm)]
  · have : j = ts.length := by omega
    subst this
    rw [if_neg c]
    by_cases c2 : i < ts.length
    · rw [List.getElem?_append_left c2]
    · rw [List.getElem?_append_right (by omega), List.getElem?_eq_none (by simp; omega), List.getElem?_eq_none (by omega)]) ?_
  walk_at "hu"
theorem setA_set {α : Type} {ts : List α} {j : Nat} {u w : α} (hj : j ≤ ts.length) : (setA ts j u).set j w = setA ts j w := by
  refine @Hush.hu _ (by
  unfold setA
  by_cases c : j < ts.length
  · rw [if_pos c, if_pos c, List.set_set]
  · have : j = ts.length := by omega
    subst this
    rw [if_neg c, if_neg c, List.set_append_right _ _ (Nat.le_refl _), Nat.sub_self]
    rfl) ?_
  walk_at "hu"
theorem chs_setA {vw : Vw} {n : Nat} {p : Pth} {u : Tr} {v : V} (hu : ∀ i, Ch K vw n p i u v) : ∀ {i j : Nat} {ts : List Tr} {vs : List V}, Chs K vw n p i ts vs → j ≤ ts.length → Chs K vw n p i (setA ts j u) (setA vs j v) := by
  refine @Hush.hu _ (by
  intro i j ts vs h
  induction h generalizing j with
  | nil =>
    intro hj
    have : j = 0 := by simpa using hj
    subst this
    exact .cons (hu _) .nil
  | @cons i t ts w ws h r ih =>
    intro hj
    cases j with
    | zero =>
      unfold setA
      rw [if_pos (by simp), if_pos (by simp)]
      exact .cons (hu _) r
    | succ j =>
      have e : ∀ {α : Type} (a : α) (l : List α) (u : α), setA (a :: l) (j + 1) u = a :: setA l j u := by
        intro α a l u
        unfold setA
        by_cases c : j < l.length
        · rw [if_pos (by simpa using c), if_pos c]; rfl
        · rw [if_neg (by simpa using c), if_neg c]; rfl
      rw [e, e]
      exact .cons h (ih (by simpa using hj))) ?_
  walk_at "hu"
theorem stc_sound {t' : Ts} {n : Nat} {p : Pth} {k k' : Kd} {ts : List Tr} {j : Nat} {mv : Bool} {y : D} {v : V} {a dx : Addr} {vs : List V} {o : HO} (ok : I.ok K s H) (g : getT s.t n p = some (.nd k ts)) (hw : s.w n p = some (a, dx)) (hc : Chs K (Hr I s H) n p 0 ts vs)
    (hj : j ≤ ts.length) (hi : k'.isIns = k.isIns) (r : Rp K (Hr I s H) y v) (h : stc s.t n p k' ts j mv y = some t') (hh : Holds I.mg (upd H a o) a dx (setA vs j v) k') : ∃ s', s'.t = t' ∧ Po I K s H s' (upd H a o) := by
  refine @Hush.hu _ (by
  unfold stc at h
  by_cases c0 : nd? ts[j]? = true
  · rw [if_pos c0] at h; cases h
  · rw [if_neg c0] at h
    have hv : ∀ t, ts[j]? = some t → isNd t = false := fun t e => by
      cases t with
      | v d => rfl
      | nd _ _ => rw [e] at c0; exact absurd rfl c0
    cases mv with
    | false =>
      rw [if_neg Bool.false_ne_true] at h
      by_cases c : top y = 0
      · rw [if_pos c] at h
        obtain ⟨T, T', h1, h2, rfl⟩ := putCh_some h
        have h3 : T.get p = some (.nd k ts) := by rw [← getT_of h1]; exact g
        refine ⟨_, rfl, po_put ok h1 h3 h2 (fun i t ht => ?_) hi hw hh (chs_setA (u := .v y) (fun i => ⟨r, c⟩) hc hj)⟩
        by_cases ci : i = j
        · subst ci
          rw [setA_get hj]
          constructor
          · intro e; cases e; cases ht
          · intro e; rw [hv t e] at ht; cases ht
        · rw [setA_ne hj ci]
      · rw [if_neg c] at h; cases h
    | true =>
      rw [if_pos rfl] at h
      split at h
      · rename_i m
        by_cases cm : m = n
        · rw [if_pos cm] at h; cases h
        · rw [if_neg cm] at h
          split at h
          · rename_i km tm hm
            cases q : putCh s.t n p k' (setA ts j (.nd km tm)) with
            | none => rw [q] at h; cases h
            | some t1 =>
              rw [q] at h
              cases h
              obtain ⟨T, T', h1, h2, rfl⟩ := putCh_some q
              have h3 : T.get p = some (.nd k ts) := by rw [← getT_of h1]; exact g
              obtain ⟨am, rfl, hwm⟩ := r
              have hwm : (s.w m []).map (·.1) = some am := hwm
              cases qm : s.w m [] with
              | none => rw [qm] at hwm; cases hwm
              | some x =>
                obtain ⟨am', dm⟩ := x
                rw [qm] at hwm
                cases hwm
                refine ⟨_, rfl, po_att ok h1 h3 cm hm qm h2 (setA_get hj) hv (fun i t hij ht => by rw [setA_ne hj hij]) hi hw hh ?_⟩
                rw [setA_set hj]
                exact chs_setA (u := .v (.o (.ref _))) (fun i => ⟨rfl, rfl⟩) hc hj
          · cases h
      · cases h) ?_
  walk_at "hu"
end
def tGT (I : SI) (K : PySem.W.Frag) (W : WX) (g : D → Env → Ts → R Env) : TG := fun v σ H Q => ∃ env s d, I.ok K s H ∧ RE K (Hr I s H) env σ ∧ Rp K (Hr I s H) d v ∧
  (g d env s.t).Post (fun env' t => ∀ σ' s' H', s'.t = t → Po I K s H s' H' → RE K (Hr I s' H') env' σ' → Q σ' H') (XS I K W s H)
theorem _root_.L2.PG.imp {X : Cx} {e : Expr} {t t' : TG} (h : PG X e t) (k : ∀ v σ H Q, t' v σ H Q → t v σ H Q) : PG X e t' := by
  refine Hush.hu (⟨fun pins s σ H v u Q I r q => h.run pins s σ H v u Q I r (k v σ H Q q)⟩) ?_
  walk_at "hu"
theorem _root_.L2.PGs.imp {X : Cx} {e : List Expr} {t t' : TGs} (h : PGs X e t) (k : ∀ v σ H Q, t' v σ H Q → t v σ H Q) : PGs X e t' := by
  refine Hush.hu (⟨fun pins s σ H v u Q I r q => h.run pins s σ H v u Q I r (k v σ H Q q)⟩) ?_
  walk_at "hu"
section
variable {ι : Type} {P : Program} {w : World} {K : PySem.W.Frag} {mg : Str → Option Value} {base : Heap} {k : Nat} {N : List Str} {F : ι → Cx} {I : SI} {W : WX} {pos : Pos}
def DGS (I : SI) (K : PySem.W.Frag) (W : WX) (F : ι → Cx) (e : Expr) (g : D → Env → Ts → R Env) : Prop := ∀ i, PG (F i) e (tGT I K W g)
def gL (g : D → Env → Option Env) : D → Env → Ts → R Env := fun d env t => ofO (g d env) t
def gSE : List D → Env → Ts → R Env := fun ds env t => if ds.isEmpty = true then .ok env t else .no
def gSC (g : D → Env → Ts → R Env) (gs : List D → Env → Ts → R Env) : List D → Env → Ts → R Env
  | d :: ds, env, t => (g d env t).bind fun e1 t => gs ds e1 t
  | [], _, _ => .no
def gST (n : Nat) (gs : List D → Env → Ts → R Env) : D → Env → Ts → R Env := fun d env t => match d with
  | .d (.tuple xs) => if xs.length = n then gs (xs.map D.d) env t else .no
  | .tp xs => if xs.length = n then gs xs env t else .no
  | _ => .no
def sAsgS (g : D → Env → Ts → R Env) (a : Sm D) : Sm Out := fun env t => (a env t).bind fun x t => (g x env t).bind fun e1 t => .ok (.nx e1) t
theorem ds_asgS {tg e : Expr} {g : D → Env → Ts → R Env} {ga : Sm D} (h : DE I K W F e ga) (hg : DGS I K W F tg g) (hs : ∀ i, swapsWithSole [tg] e pos.line (F i).env = pure false := by exact fun _ => rfl) (hw : ∀ i, swappedStores [tg] e (F i).env = pure none := by exact fun _ => rfl)
    (h1 : ∀ i, (assignEach [tg] (F i).env).map (·.2) = [assign tg (F i).env] := by exact fun _ => rfl) : DS I K W F (.Assign [tg] e pos) (sAsgS g ga) := by
  refine Hush.hu (fun i => (ps_asg (h i) (hg i) (hs i) (hw i) (h1 i)).imp fun Dn σ H ⟨env, s, ok, re, h⟩ => st1 (Po.refl ok) re h fun x v s1 H1 p1 _ re1 r1 h =>
    ⟨env, s1, x, p1.ok, re1, r1, (R.post_bind h).mono (fun e1 t q σ' s' H' e p2 re2 => q σ' s' H' e (p1.trans p2) re2) fun x t q => xs_from p1 q⟩) ?_
  walk_at "hu"
def getF (cs : List Str) (f : Str) (x : D) (t : Ts) : Option D := match x with
  | .r n p => match getT t n p with
    | some (.nd (.ins c ks) ts) => if cs.contains c = true then (kix f ks).bind fun j => (ts[j]?).map (chD n p j) else none
    | _ => none
  | _ => none
def sFld (cs : List Str) (f : Str) (a : Sm D) : Sm D := fun env t => (a env t).bind fun x t => ofO (getF cs f x t) t
def setF (cs : List Str) (f : Str) (mv : Bool) (x y : D) (t : Ts) : Option Ts := match x with
  | .r n p => match getT t n p with
    | some (.nd (.ins c ks) ts) => if cs.contains c = true ∧ ts.length < 900 then match kix f ks with
        | some j => stc t n p (.ins c ks) ts j mv y
        | none => stc t n p (.ins c (ks ++ [f])) ts ts.length mv y
      else none
    | _ => none
  | _ => none
theorem nodup_snoc {α : Type} {l : List α} {x : α} (h : l.Nodup) (n : ¬ x ∈ l) : (l ++ [x]).Nodup := by
  refine @Hush.hu _ (by
  rw [List.nodup_append]
  refine ⟨h, List.nodup_cons.mpr ⟨by simp, List.nodup_nil⟩, fun a ha b hb e => ?_⟩
  rw [List.mem_singleton] at hb
  subst hb
  subst e
  exact n ha) ?_
  walk_at "hu"
def sFldSet (cs : List Str) (f : Str) (mv : Bool) (o v : Sm D) : Sm Out := fun env t => (v env t).bind fun y t => (o env t).bind fun x t => (ofO (setF cs f mv x y t) t).bind fun t' _ => .ok (.nx env) t'
def gSF (cs : List Str) (f : Str) (mv : Bool) (o : Sm D) : D → Env → Ts → R Env := fun y env t => (o env t).bind fun x t => (ofO (setF cs f mv x y t) t).bind fun t' _ => .ok env t'
def sFldAdd (cs : List Str) (f : Str) (z : Int) (o : Sm D) : Sm Out := fun env t => (o env t).bind fun x t => (ofO ((getF cs f x t).bind fun d => addI d (.d (.int z))) t).bind fun d t => (ofO (setF cs f false x d t) t).bind fun t' _ => .ok (.nx env) t'
end
end Dl
namespace Dl
open PySem PySem.Spec PyProof.Rows L2
def mergeT (kvs more : List (List Key × V)) : List (List Key × V) := more.foldl (fun acc kv => putK acc kv.1 kv.2) kvs
theorem kt_merge {H : Hp} : ∀ {more : List (List Key × V)} {ps xs : List (List Key × Addr × Value)} {kvs : List (List Key × V)}, KT H more ps → KT H kvs xs → KT H (mergeT kvs more) (storedAllH xs ps)
  | _, _, _, _, .nil, r => r
  | _, _, _, _, .cons (a := p) (b := q) h t, r => by
    obtain ⟨h1, h2, h3⟩ := h
    have := kt_merge t (r.put p.1 h2 h3)
    show KT H (mergeT (putK _ p.1 p.2) _) (storedAllH (storedH _ q.1 q.2.1 q.2.2) _)
    rw [← h1]
    exact this
theorem length_mergeT : ∀ (more kvs : List (List Key × V)), (mergeT kvs more).length ≤ kvs.length + more.length
  | [], kvs => by show kvs.length ≤ kvs.length + 0; omega
  | p :: r, kvs => by
    have h1 := length_mergeT r (putK kvs p.1 p.2)
    have h2 := length_putK kvs p.1 p.2
    have e : mergeT kvs (p :: r) = mergeT (putK kvs p.1 p.2) r := rfl
    rw [e, List.length_cons]
    omega
def PairT (K : PySem.W.Frag) (H : Hp) (p : Addr) (kv : List Key × V) : Prop := ∃ b, SqT K H p [.ref b, kv.2] ∧ H b = some (.tup (kv.1.map kV))
theorem pairsT_of {X : Cx} {pins : List (Addr × Obj)} {σ : L2.St} {H : Hp} {s : Shared} (I : Inv X pins σ H s) : ∀ {ps : List Addr} {kvs : List (List Key × V)}, Paired (fun p kv => PairT X.K H p kv) ps kvs →
    ∃ prs : List (List Key × Addr × Value), KT H kvs prs ∧ prs.length = ps.length ∧ ∀ (j : Nat) (q : List Key × Addr × Value), prs[j]? = some q → ∃ p, ps[j]? = some p ∧ IsTup s.heap p #[.ref q.2.1, q.2.2]
  | _, _, .nil => ⟨[], .nil, rfl, fun j q e => by simp at e⟩
  | _, _, .cons (a := p) (b := kv) h t => by
    obtain ⟨prs, r, hl, hp⟩ := pairsT_of I t
    obtain ⟨b, hb, hk⟩ := h
    obtain ⟨its, rv, ht, _⟩ := I.tuple hb
    obtain ⟨u, y, ei, ru, ry⟩ := vals2 rv
    subst ei
    cases ru
    refine ⟨(kv.1, b, y) :: prs, .cons ⟨rfl, hk, ry⟩ r, by rw [List.length_cons, List.length_cons, hl], fun j q e => ?_⟩
    cases j with
    | zero =>
      have e' : (kv.1, b, y) = q := Option.some.inj e
      subst e'
      exact ⟨p, rfl, ht⟩
    | succ j =>
      obtain ⟨p', e1, e2⟩ := hp j q (by simpa using e)
      exact ⟨p', by simpa using e1, e2⟩
theorem call_dictT {X : Cx} (hc : X.calm = true) (hu : X.A.units + 2 < cLine) : CallR X (.type "dict") (fun xs H Q => ∃ (a : Addr) (ps : List Addr) (kvs : List (List Key × V)), xs = [.ref a] ∧ SqL X.K H a (ps.map V.ref) ∧ Paired (fun p kv => PairT X.K H p kv) ps kvs ∧
    ∀ p, H p = none → Q (.ref p) (upd H p (.dT (mergeT [] kvs)))) := by
  refine @Hush.hu _ (by
  intro pins s σ H xs us Q I r q
  obtain ⟨a, ps, kvs, ex, hq, hp, q⟩ := q
  subst ex
  obtain ⟨u, eu, rx⟩ := vals1 r
  subst eu
  cases rx
  obtain ⟨its, rv, pl, hz⟩ := I.list hq
  have ei := refs_at rv
  subst ei
  rw [List.length_map] at hz
  obtain ⟨prs, rel, hl, hpr⟩ := pairsT_of I hp
  obtain ⟨o, n, ho, hcl, hd, hdat⟩ := pl
  have hkey : ∀ x ∈ prs, (tupleKind (mixKind X.prog X.w)).is s.heap x.1 x.2.1 := by
    have all : ∀ {l : List (List Key × V)} {m : List (List Key × Addr × Value)}, KT H l m → ∀ x ∈ m, (tupleKind (mixKind X.prog X.w)).is s.heap x.1 x.2.1 := by
      intro l m q
      induction q with
      | nil => intro x hx; exact nomatch hx
      | @cons p q ps qs hq t ih =>
        intro x hx
        rcases List.mem_cons.mp hx with e | hx
        · subst e
          exact key_of I.hok (by rw [← hq.1]; exact hq.2.1)
        · exact ih x hx
    exact all rel
  refine PySem.call_dict_pairsH (knd := tupleKind (mixKind X.prog X.w)) (ps := prs) (PairArg.list (prog := X.prog) (w := X.w) a ((ps.map Value.ref).toArray) (fun j => ps.getD j 0) (prs.map fun q => (.ref q.2.1, q.2.2)))
    (I.ok.hd hc) (show X.A.units + 2 < cLine from hu) ⟨⟨o, n, ho, hcl, hd, hdat⟩, ⟨by simp [hl], fun j k v e => ?_⟩⟩ ⟨by simp, fun i key v e => ?_⟩ (fun h' hk x hx => ?_) ?_ fun h' tk hd' k => ?_
  · rw [List.getElem?_map] at e
    cases e1 : prs[j]? with
    | none => rw [e1] at e; cases e
    | some q' =>
      rw [e1] at e
      cases e
      obtain ⟨p, e2, e3⟩ := hpr j q' e1
      have e4 : ps.getD j 0 = p := by rw [List.getD_eq_getElem?_getD, e2]; rfl
      show (List.map Value.ref ps).toArray[j]? = some (Value.ref (ps.getD j 0)) ∧ PairAt s.heap (ps.getD j 0) (Value.ref q'.2.1) q'.2.2
      rw [e4]
      exact ⟨by simp [e2], .inl e3⟩
  · unfold PairRel at e
    rw [List.getElem?_map] at e
    cases e1 : prs[i]? with
    | none => rw [e1] at e; cases e
    | some q' =>
      rw [e1] at e
      cases e
      exact ⟨q'.1, q'.2.1, rfl, rfl⟩
  · obtain ⟨o, its, n, h1, h2⟩ := hkey x hx
    exact ⟨o, its, n, hk _ _ (Nat.ne_of_lt (Heap.lt_size h1)) (fun z => nomatch z) h1, h2⟩
  · rw [List.length_map, hl]; exact hz
  · have hm : (s.heap.objs.size == sysModules) = false := beq_eq_false_iff_ne.mpr (Nat.ne_of_gt I.big)
    have hlen : (mergeT [] kvs).length ≤ sizeLine := by
      refine Nat.le_trans (length_mergeT kvs []) ?_
      rw [List.length_nil, Nat.zero_add, Paired.length rel, hl]
      exact hz
    have fr := I.hok.fresh (Nat.le_refl s.heap.objs.size)
    obtain ⟨o', es, ep, d1, d2, d3, d4, _, d5⟩ := hd'
    refine ⟨.ref s.heap.objs.size, upd H s.heap.objs.size (.dT (mergeT [] kvs)), I.laid (t' := tk) (fun b o e => k b o (fun z => nomatch z) e) (Nat.le_refl _) (show ObjOk X.prog X.w _ _ _ (.dT (mergeT [] kvs)) from ⟨hlen, hm, _, (kt_merge rel .nil).keeps fun c ys ec => ?_, o', es, ep, d1, d2, d3, d4, d5⟩), rfl, q _ fr⟩
    rw [upd_ne (ne_of_none ec fr)]
    exact ec) ?_
  walk_at "hu"
def keyD : Key → PyData
  | .inl i => .int i
  | .inr x => .str x
def dKey : PyData → Option Key
  | .int i => some (.inl i)
  | .str x => some (.inr x)
  | _ => none
def dKeys : List PyData → Option (List Key)
  | [] => some []
  | x :: r => (dKey x).bind fun k => (dKeys r).map (k :: ·)
theorem dKeys_ok {K : PySem.W.Frag} {H : Hp} : ∀ {xs : List PyData} {vs : List V} {ks : List Key}, DqA K H vs xs → dKeys xs = some ks → vs = ks.map kV
  | _, _, _, .nil, e => by cases e; rfl
  | x :: r, v :: vs, ks, .cons h t, e => by
    unfold dKeys at e
    cases e1 : dKey x with
    | none => rw [e1] at e; cases e
    | some k =>
      rw [e1] at e
      simp only [Option.bind_some] at e
      cases e2 : dKeys r with
      | none => rw [e2] at e; cases e
      | some ks' =>
        rw [e2] at e
        cases e
        rw [List.map_cons, ← dKeys_ok t e2]
        congr 1
        unfold dKey at e1
        split at e1
        · cases e1; cases h; rfl
        · cases e1; cases h; rfl
        · cases e1
theorem dqa_keys {K : PySem.W.Frag} {H : Hp} : ∀ ks : List Key, DqA K H (ks.map kV) (ks.map keyD)
  | [] => .nil
  | .inl i :: r => .cons (.int i) (dqa_keys r)
  | .inr x :: r => .cons (.str x) (dqa_keys r)
def prT : List PyData → Option (List (List Key × V))
  | [] => some []
  | .tuple [.tuple xs, .bool b] :: r => (dKeys xs).bind fun ks => (prT r).map ((ks, V.bl b) :: ·)
  | _ :: _ => none
theorem prT_ok {K : PySem.W.Frag} {H : Hp} : ∀ {ds : List PyData} {vs : List V} {kvs : List (List Key × V)}, DqA K H vs ds → prT ds = some kvs → ∃ ps : List Addr, vs = ps.map V.ref ∧ Paired (fun p kv => PairT K H p kv) ps kvs
  | _, _, _, .nil, e => by cases e; exact ⟨[], rfl, .nil⟩
  | x :: r, v :: vs, kvs, .cons h t, e => by
    unfold prT at e
    split at e
    · cases ‹_ :: _ = []›
    · rename_i xs b r' he
      cases he
      cases e1 : dKeys xs with
      | none => rw [e1] at e; cases e
      | some ks =>
        rw [e1] at e
        simp only [Option.bind_some] at e
        cases e2 : prT r with
        | none => rw [e2] at e; cases e
        | some kvs' =>
          rw [e2] at e
          cases e
          obtain ⟨ps, e3, e4⟩ := prT_ok t e2
          cases h with
          | tup h1 h2 =>
            cases h2 with
            | cons g1 g2 =>
              cases g2 with
              | cons g3 g4 =>
                cases g4
                cases g3
                cases g1 with
                | tup f1 f2 =>
                  have := dKeys_ok f2 e1
                  subst this
                  exact ⟨_ :: ps, by rw [e3]; rfl, .cons ⟨_, SqT.of h1, f1⟩ e4⟩
    · cases e
theorem isKeys_dq {I : SI} {K : PySem.W.Frag} {s : St1} {H : Hp} (ok : I.ok K s H) : ∀ {kvs : List (List Key × V)} {bs : List Addr}, IsKeys H kvs bs → DqA K (Hr I s H).h (bs.map V.ref) (kvs.map fun p => .tuple (p.1.map keyD))
  | _, _, .nil => .nil
  | _, _, .cons h t => .cons (.tup (hr_tup ok h) (dqa_keys _)) (isKeys_dq ok t)
end Dl
namespace Dl
open PySem L2 PyProof.Rows
def getX (x y : D) (t : Ts) : Option D := match x with
  | .r n p => match getT t n p with
    | some (.nd .lst ts) => match y with
      | .d (.int i) => (ixN ts.length i).bind fun j => (ts[j]?).map (chD n p j)
      | _ => none
    | some (.nd (.dic ks) ts) => match y with
      | .d (.str z) => (kix z ks).bind fun j => (ts[j]?).map (chD n p j)
      | _ => none
    | some (.nd (.dct ks) ts) => match y with
      | .d (.tuple xs) => (dKeys xs).bind fun kk => (kix kk ks).bind fun j => (ts[j]?).map (chD n p j)
      | _ => none
    | _ => none
  | x => fIx x y
def rIxDc : R2 := fun x y H Q => ∃ a v, x = .ref a ∧ DGet H a y (some v) ∧ Q v H
theorem sub_tail {prog : Program} {w : World} {A : Around} {E : Value → Shared → Prop} {s : Shared} {value slice : Expr} {o i : Value} {T id : String} {Q : Value → Shared → Prop} (hT : s.TypeIs o T)
    (hl : typeLookup (.type T) "__getitem__" = pure (some (.builtin id))) (h : wpAny (model prog w) A (getItem o i) Q E s)
    (hs : subscripted slice false o i = operate [o, i] (getItem o i)) : wpAny (model prog w) A (subscriptTail value slice o i) Q E s := by
  refine @Hush.hu _ (by
  unfold subscriptTail
  refine wpAny_bind ?_
  rw [getitemInPython_of_ne hT.not_modules]
  refine wpAny_bind (wpAny_specialOf hT hl ?_)
  have fin : wpAny (model prog w) A (subscripted slice false o i) (fun r s₃ => wpAny (model prog w) A (letTemporaryGo value o r >>= fun _ => pure r) Q E s₃) E s := by
    rw [hs]
    exact wpAny_operating (wpAny_mono h (fun r s₃ h₃ => wpAny_bind (wpAny_letTemporaryGo (wpAny_pure h₃))) fun _ _ x => x)
  first
    | exact wpAny_pure (wpAny_bind fin)
    | exact wpAny_bind (wpAny_pure (wpAny_bind fin))
    | exact wpAny_bind fin) ?_
  walk_at "hu"
theorem ix_dict {X : Cx} (hu : X.A.units + 1 < cLine) : IxR X rIxDc := by
  refine @Hush.hu _ (by
  intro value slice pins s σ H x y v u Q I rx ry h hs
  obtain ⟨a, z, rfl, g, q⟩ := h
  cases rx
  exact sub_tail (dict_typeIs I g) PySem.F.slot_dict_getitem.lookup (d_getItem hu I g ry fun w' s3 I3 rw' => ⟨z, H, I3, rw', q⟩) hs) ?_
  walk_at "hu"
theorem pset_or {X : Cx} {r r' : TSet} (h : PSet X r) (h' : PSet X r') : PSet X (fun o i v H Q => r o i v H Q ∨ r' o i v H Q) := by
  refine @Hush.hu _ (by
  intro pins s σ H o i v ov iv u Q I ro ri rv q
  rcases q with q | q
  · exact h pins s σ H o i v ov iv u Q I ro ri rv q
  · exact h' pins s σ H o i v ov iv u Q I ro ri rv q) ?_
  walk_at "hu"
section
variable {I : SI} {K : PySem.W.Frag} {s : St1} {H : Hp}
theorem zipk_val {ks : List Str} {vs : List V} {z : Str} {j : Nat} {v : V} (h : kix z ks = some j) (e : vs[j]? = some v) : valV ((ks.map (Sum.inr : Str → Key)).zip vs) (Sum.inr z) = some v := by
  refine @Hush.hu _ (by
  induction ks generalizing vs j with
  | nil => cases h
  | cons y r ih =>
    rw [kix_cons] at h
    cases vs with
    | nil => simp at e
    | cons u us =>
      unfold valV
      by_cases c : y = z
      · rw [if_pos c] at h
        cases h
        have e2 : y = z := by simpa using c
        subst e2
        simp at e
        subst e
        rw [List.map_cons, List.zip_cons_cons, List.find?_cons_of_pos (by simp)]
        rfl
      · rw [if_neg c] at h
        cases q : kix z r with
        | none => rw [q] at h; cases h
        | some i =>
          rw [q] at h
          have h : some (i + 1) = some j := h
          cases h
          have ih := ih q (by simpa using e)
          unfold valV at ih
          rw [List.map_cons, List.zip_cons_cons, List.find?_cons_of_neg (by simpa using c)]
          exact ih) ?_
  walk_at "hu"
theorem ixN_lt {n : Nat} {i : Int} {j : Nat} (h : ixN n i = some j) : j < n := by
  refine @Hush.hu _ (by
  unfold ixN at h
  split at h
  · split at h
    · cases h; omega
    · cases h
  · split at h
    · cases h; omega
    · cases h) ?_
  walk_at "hu"
theorem getX_at {x y d : D} {a b : V} {Q : VK} {r : R2} (hr : OpD K r fIx) (ok : I.ok K s H) (rx : Rp K (Hr I s H) x a) (ry : Rp K (Hr I s H) y b) (h : getX x y s.t = some d) (kk : ∀ v H', Po I K s H s H' → Rp K (Hr I s H') d v → Q v H') :
    (rIxL K a b H Q ∨ r a b H Q) ∨ rIxDc a b H Q := by
  refine @Hush.hu _ (by
  unfold getX at h
  split at h
  · rename_i n p
    split at h
    · rename_i ts g
      obtain ⟨ad, dx, vs, rfl, w1, c1, hd1⟩ := node_at ok rx g
      split at h
      · rename_i i
        cases ry
        cases q : ixN ts.length i with
        | none => rw [q] at h; cases h
        | some j =>
          rw [q] at h
          have h : (ts[j]?).map (chD n p j) = some d := h
          cases q2 : ts[j]? with
          | none => rw [q2] at h; cases h
          | some u =>
            rw [q2] at h
            cases h
            obtain ⟨v, g1, g2⟩ := chs_get c1 q2
            rw [Nat.zero_add] at g2
            refine .inl (.inl ⟨ad, vs, i, v, rfl, rfl, SqL.of hd1, ?_, here ok kk (ch_rp g2)⟩)
            unfold atI
            rw [chs_len c1, q]
            exact g1
      · cases h
    · rename_i ks ts g
      obtain ⟨ad, dx, vs, rfl, w1, c1, hd1⟩ := node_at ok rx g
      split at h
      · rename_i z
        cases ry
        cases q : kix z ks with
        | none => rw [q] at h; cases h
        | some j =>
          rw [q] at h
          have h : (ts[j]?).map (chD n p j) = some d := h
          cases q2 : ts[j]? with
          | none => rw [q2] at h; cases h
          | some u =>
            rw [q2] at h
            cases h
            obtain ⟨v, g1, g2⟩ := chs_get c1 q2
            rw [Nat.zero_add] at g2
            refine .inr ⟨ad, v, rfl, ?_, here ok kk (ch_rp g2)⟩
            have e : some v = valV ((ks.map (Sum.inr : Str → Key)).zip vs) (Sum.inr z) := (zipk_val q g1).symm
            rw [e]
            exact DGet.k (k := Sum.inr z) hd1.2.2
      · cases h
    · rename_i ks ts g
      obtain ⟨ad, dx, vs, rfl, w1, c1, hd1⟩ := node_at ok rx g
      split at h
      · rename_i xs
        cases q0 : dKeys xs with
        | none => rw [q0] at h; cases h
        | some kq =>
          rw [q0] at h
          simp only [Option.bind_some] at h
          cases q : kix kq ks with
          | none => rw [q] at h; cases h
          | some j =>
            rw [q] at h
            have h : (ts[j]?).map (chD n p j) = some d := h
            cases q2 : ts[j]? with
            | none => rw [q2] at h; cases h
            | some u =>
              rw [q2] at h
              cases h
              obtain ⟨v, g1, g2⟩ := chs_get c1 q2
              rw [Nat.zero_add] at g2
              cases ry with
              | tup h1 h2 =>
                have e := dKeys_ok h2 q0
                subst e
                refine .inr ⟨ad, v, rfl, ?_, here ok kk (ch_rp g2)⟩
                rw [← zip_val q g1]
                exact DGet.t hd1.2.2 (hr_sub _ _ h1)
      · cases h
    · cases h
  · exact .inl (.inr (hr I s H x y d a b Q ok rx ry h kk))) ?_
  walk_at "hu"
end
def sIx (a b : Sm D) : Sm D := fun env t => (a env t).bind fun x t => (b env t).bind fun y t => ofO (getX x y t) t
def setX (mv : Bool) (x i y : D) (t : Ts) : Option Ts := match x with
  | .r n p => match getT t n p with
    | some (.nd .lst ts) => match i with
      | .d (.int i) => (ixN ts.length i).bind fun j => stc t n p .lst ts j mv y
      | _ => none
    | some (.nd (.dic ks) ts) => if ts.length < 100000 then match i with
      | .d (.str z) => match kix z ks with
        | some j => stc t n p (.dic ks) ts j mv y
        | none => stc t n p (.dic (ks ++ [z])) ts ts.length mv y
      | _ => none else none
    | some (.nd (.dct ks) ts) => if ts.length < 100000 then match i with
      | .d (.tuple xs) => (dKeys xs).bind fun kk => match kix kk ks with
        | some j => stc t n p (.dct ks) ts j mv y
        | none => stc t n p (.dct (ks ++ [kk])) ts ts.length mv y
      | _ => none else none
    | _ => none
  | _ => none
theorem map_idx {ks : List Str} {z : Str} : kix (Sum.inr z) (ks.map (Sum.inr : Str → Key)) = kix z ks := by
  refine @Hush.hu _ (by
  induction ks with
  | nil => rfl
  | cons y r ih =>
    rw [List.map_cons, kix_cons, kix_cons, ih]
    by_cases c : y = z
    · subst c
      rw [if_pos rfl, if_pos rfl]
    · rw [if_neg c, if_neg fun e => c (Sum.inr.inj e)]) ?_
  walk_at "hu"
theorem map_nodup {ks : List Str} (h : ks.Nodup) : (ks.map (Sum.inr : Str → Key)).Nodup := by
  refine Hush.hu (List.Pairwise.map _ (fun a b hab q => hab (Sum.inr.inj q)) h) ?_
  walk_at "hu"
section
variable {I : SI} {K : PySem.W.Frag} {s : St1} {H : Hp}
theorem setX_at {mv : Bool} {x i y : D} {a b u : V} {t' : Ts} {Q : Hp → Prop} (ok : I.ok K s H) (rx : Rp K (Hr I s H) x a) (ri : Rp K (Hr I s H) i b) (ry : Rp K (Hr I s H) y u) (h : setX mv x i y s.t = some t') (kk : ∀ s' H', s'.t = t' → Po I K s H s' H' → Q H') :
    rSetL a b u H Q ∨ rSetD a b u H Q := by
  refine @Hush.hu _ (by
  have lin : ∀ {n : Nat}, n < 100000 → n < sizeLine := fun h => Nat.lt_of_lt_of_le h (by decide)
  unfold setX at h
  split at h
  · rename_i n p
    split at h
    · rename_i ts g
      obtain ⟨ad, dx, vs, rfl, w1, c1, hd1⟩ := node_at ok rx g
      have hl := chs_len c1
      split at h
      · rename_i i
        cases ri
        cases q : ixN ts.length i with
        | none => rw [q] at h; cases h
        | some j =>
          rw [q] at h
          have hj := ixN_lt q
          obtain ⟨s', e1, e2⟩ := stc_sound (o := .lst (vs.set j u)) ok g w1 c1 (by omega) rfl ry h (by unfold setA; rw [if_pos (by omega)]; exact upd_same)
          exact .inl ⟨ad, vs, i, j, rfl, rfl, hd1, by rw [hl]; exact q, kk s' _ e1 e2⟩
      · cases h
    · rename_i ks ts g
      obtain ⟨ad, dx, vs, rfl, w1, c1, hd1⟩ := node_at ok rx g
      obtain ⟨hk1, hk2, hk3⟩ := hd1
      have hl := chs_len c1
      by_cases cl : ts.length < 100000
      · rw [if_pos cl] at h
        split at h
        · rename_i z
          cases ri
          have hz : ((ks.map (Sum.inr : Str → Key)).zip vs).length < sizeLine := by rw [List.length_zip, List.length_map, hk1, hl, Nat.min_self]; exact lin cl
          split at h
          · rename_i j q
            have hj : j < ks.length := (List.getElem?_eq_some_iff.mp (idx_some q).1).1
            have e3 : putK ((ks.map (Sum.inr : Str → Key)).zip vs) (Sum.inr z) u = (ks.map (Sum.inr : Str → Key)).zip (vs.set j u) := zip_put (map_nodup hk2) (by rw [List.length_map]; exact hk1) (by rw [map_idx]; exact q)
            obtain ⟨s', e1, e2⟩ := stc_sound (o := .dK ((ks.map (Sum.inr : Str → Key)).zip (vs.set j u))) ok g w1 c1 (by omega) rfl ry h ⟨by unfold setA; rw [if_pos (by omega), List.length_set]; exact hk1, hk2, by unfold setA; rw [if_pos (by omega)]; exact upd_same⟩
            exact .inr ⟨ad, _, rfl, DPut.k (k := Sum.inr z) hk3 hz, by rw [e3]; exact kk s' _ e1 e2⟩
          · rename_i q
            have e3 : putK ((ks.map (Sum.inr : Str → Key)).zip vs) (Sum.inr z) u = (ks.map (Sum.inr : Str → Key) ++ [Sum.inr z]).zip (vs ++ [u]) := zip_new (by rw [List.length_map]; exact hk1) (idx_none (by rw [map_idx]; exact q))
            obtain ⟨s', e1, e2⟩ := stc_sound (k' := .dic (ks ++ [z])) (o := .dK (((ks ++ [z]).map (Sum.inr : Str → Key)).zip (vs ++ [u]))) ok g w1 c1 (Nat.le_refl _) rfl ry h ⟨by unfold setA; rw [if_neg (by omega), List.length_append, List.length_append, hk1]; rfl, nodup_snoc hk2 (idx_none q), by unfold setA; rw [if_neg (by omega)]; exact upd_same⟩
            exact .inr ⟨ad, _, rfl, DPut.k (k := Sum.inr z) hk3 hz, by rw [e3]; rw [List.map_append] at e2; exact kk s' _ e1 e2⟩
        · cases h
      · rw [if_neg cl] at h; cases h
    · rename_i ks ts g
      obtain ⟨ad, dx, vs, rfl, w1, c1, hd1⟩ := node_at ok rx g
      obtain ⟨hk1, hk2, hk3⟩ := hd1
      have hl := chs_len c1
      by_cases cl : ts.length < 100000
      · rw [if_pos cl] at h
        split at h
        · rename_i xs
          cases q0 : dKeys xs with
          | none => rw [q0] at h; cases h
          | some kq =>
            rw [q0] at h
            simp only [Option.bind_some] at h
            have hz : (ks.zip vs).length < sizeLine := by rw [List.length_zip, hk1, hl, Nat.min_self]; exact lin cl
            cases ri with
            | tup h1 h2 =>
              have e0 := dKeys_ok h2 q0
              subst e0
              split at h
              · rename_i j q
                have hj : j < ks.length := (List.getElem?_eq_some_iff.mp (idx_some q).1).1
                have e3 : putK (ks.zip vs) kq u = ks.zip (vs.set j u) := zip_put hk2 hk1 q
                obtain ⟨s', e1, e2⟩ := stc_sound (o := .dT (ks.zip (vs.set j u))) ok g w1 c1 (by omega) rfl ry h ⟨by unfold setA; rw [if_pos (by omega), List.length_set]; exact hk1, hk2, by unfold setA; rw [if_pos (by omega)]; exact upd_same⟩
                exact .inr ⟨ad, _, rfl, DPut.t hk3 (hr_sub _ _ h1) hz, by rw [e3]; exact kk s' _ e1 e2⟩
              · rename_i q
                have e3 : putK (ks.zip vs) kq u = (ks ++ [kq]).zip (vs ++ [u]) := zip_new hk1 (idx_none q)
                obtain ⟨s', e1, e2⟩ := stc_sound (k' := .dct (ks ++ [kq])) (o := .dT ((ks ++ [kq]).zip (vs ++ [u]))) ok g w1 c1 (Nat.le_refl _) rfl ry h ⟨by unfold setA; rw [if_neg (by omega), List.length_append, List.length_append, hk1]; rfl, nodup_snoc hk2 (idx_none q), by unfold setA; rw [if_neg (by omega)]; exact upd_same⟩
                exact .inr ⟨ad, _, rfl, DPut.t hk3 (hr_sub _ _ h1) hz, by rw [e3]; exact kk s' _ e1 e2⟩
        · cases h
      · rw [if_neg cl] at h; cases h
    · cases h
  · cases h) ?_
  walk_at "hu"
end
section
variable {ι : Type} {P : Program} {w : World} {K : PySem.W.Frag} {mg : Str → Option Value} {base : Heap} {k : Nat} {N : List Str} {F : ι → Cx} {I : SI} {W : WX} {pos : Pos}
theorem de_ixS {a b : Expr} {ga gb : Sm D} (Wf : Fm P w K mg base k N F) (ha : DE I K W F a ga) (hb : DE I K W F b gb) (hs : PlainIx b := by exact fun _ _ => rfl) : DE I K W F (.Subscript a b pos) (sIx ga gb) := by
  refine @Hush.hu _ (by
  obtain ⟨r, h1, h2⟩ := o_ix (F := F) Wf
  exact fun i => (pe_ix (((ixK rIxL (Wf.K i) ix_list).or (h1 i)).or (ix_dict (by have := Wf.units i; omega))) (ha i) (hb i) hs).imp fun σ H Q ⟨env, s, ok, re, h⟩ =>
    step (Po.refl ok) re h fun x v1 s1 H1 p1 _ r1 h => step p1 re h fun y v2 s2 H2 p2 q2 r2 h => by
      obtain ⟨z, e, h⟩ := post_ofO h
      exact getX_at h2 p2.ok (rp_same q2.same r1) r2 e fun v H' p3 r3 => h v s2 H' rfl (p2.trans p3) r3) ?_
  walk_at "hu"
def gSX (mv : Bool) (o i : Sm D) : D → Env → Ts → R Env := fun y env t => (o env t).bind fun x t => (i env t).bind fun z t => (ofO (setX mv x z y t) t).bind fun t' _ => .ok env t'
theorem dgS_sub {o i : Expr} {go gi : Sm D} (mv : Bool) (Wf : Fm P w K mg base k N F) (ho : DE I K W F o go) (hi : DE I K W F i gi)
    (hpg : ∀ l to ti, PE (F l) o to → PE (F l) i ti → PG (F l) (.Subscript o i pos) (gSub to ti fun o i v H Q => rSetL o i v H Q ∨ rSetD o i v H Q)) : DGS I K W F (.Subscript o i pos) (gSX mv go gi) := by
  refine Hush.hu (fun l =>
  (hpg l _ _ (ho l) (hi l)).imp fun u σ H Q ⟨env, s, y, ok, re, ry, h⟩ => st1 (Po.refl ok) re h fun x v1 s1 H1 p1 q1 re1 r1 h => st1 p1 re1 h fun z v2 s2 H2 p2 q2 re2 r2 h => by
    obtain ⟨t', e, h⟩ := post_ofO (R.post_bind h)
    exact setX_at p2.ok (rp_same q2.same r1) r2 (rp_same (q1.trans q2).same ry) e fun s' H' e1 p3 => h σ s' H' e1 (p2.trans p3) (re2.same p3.same)) ?_
  walk_at "hu"
theorem sub_pg (Wf : Fm P w K mg base k N F) {o i : Expr}
    (ha : ∀ l v, assign (.Subscript o i pos) (F l).env v = (do
      let ov ← holding [v] (eval o (F l).env)
      let iv ← holding [v, ov] (eval i (F l).env)
      standAt pos
      holding [v, ov, iv] (setItem ov iv v)
      release [v, ov, iv] []) := by exact fun _ _ => rfl) : ∀ l to ti, PE (F l) o to → PE (F l) i ti → PG (F l) (.Subscript o i pos) (gSub to ti fun o i v H Q => rSetL o i v H Q ∨ rSetD o i v H Q) := by
  refine Hush.hu (fun l _ _ h1 h2 => pg_sub h1 h2 (pset_or set_list (set_dict (by have := Wf.units l; omega))) (ha l)) ?_
  walk_at "hu"
end
end Dl
namespace Dl
open PySem L2 PyProof.Rows
def isAl (x : D) (t : Ts) : Bool := match x with
  | .r n p => match getT t n p with
    | some (.nd .lst _) => true
    | _ => false
  | _ => false
def extX (x y : D) (t : Ts) : Option Ts := match x with
  | .r n p => match getT t n p with
    | some (.nd .lst ts) => match y with
      | .d (.list ys) => if ts.length + ys.length < 100000 then putCh t n p .lst (ts ++ ys.map fun y => .v (.d y)) else none
      | _ => none
    | _ => none
  | _ => none
def sMeth1 (f : D → D → Ts → Option Ts) (o e : Sm D) : Sm D := fun env t => (o env t).bind fun x t => if isAl x t = true then (e env t).bind fun y t => (ofO (f x y t) t).bind fun t' _ => .ok (.d .none) t' else .no
section
variable {I : SI} {K : PySem.W.Frag} {s : St1} {H : Hp}
theorem al_at {x : D} {v : V} (ok : I.ok K s H) (r : Rp K (Hr I s H) x v) (h : isAl x s.t = true) : tyV K "list" v H := by
  refine @Hush.hu _ (by
  unfold isAl at h
  split at h
  · split at h
    · rename_i n p _ _ ts g
      obtain ⟨a, dx, vs, rfl, w1, c1, hd1⟩ := node_at ok r g
      exact Or.inl ⟨rfl, _, SqL.of hd1⟩
    · cases h
  · cases h) ?_
  walk_at "hu"
theorem chs_app {vw : Vw} {n : Nat} {p : Pth} : ∀ {j : Nat} {ts us : List Tr} {vs ws : List V}, Chs K vw n p j ts vs → (∀ i, Chs K vw n p i us ws) → Chs K vw n p j (ts ++ us) (vs ++ ws)
  | _, _, _, _, _, .nil, h => h _
  | _, _, _, _, _, .cons a r, h => .cons a (chs_app r h)
theorem chs_pd {vw : Vw} {n : Nat} {p : Pth} : ∀ {j : Nat} {ys : List PyData} {ws : List V}, DqA K vw.h ws ys → Chs K vw n p j (ys.map fun y => .v (.d y)) ws
  | _, _, _, .nil => .nil
  | _, _, _, .cons h t => .cons ⟨h, rfl⟩ (chs_pd t)
theorem extX_at {x y : D} {v u : V} {t' : Ts} {Q : VK} (ok : I.ok K s H) (r : Rp K (Hr I s H) x v) (ry : Rp K (Hr I s H) y u) (h : extX x y s.t = some t') (kk : ∀ s' H', s'.t = t' → Po I K s H s' H' → Q .non H') : rExtend v [u] H Q := by
  refine @Hush.hu _ (by
  unfold extX at h
  split at h
  · split at h
    · rename_i n p _ ts g
      split at h
      · rename_i ys
        by_cases c : ts.length + ys.length < 100000
        · rw [if_pos c] at h
          obtain ⟨a, dx, vs, rfl, w1, c1, hd1⟩ := node_at ok r g
          have hl := chs_len c1
          cases ry with
          | lst h1 h2 =>
            rename_i b zs
            have hz := dqa_len h2
            obtain ⟨T, T', g1, g2, rfl⟩ := putCh_some h
            have g3 : T.get p = some (.nd .lst ts) := by rw [← getT_of g1]; exact g
            refine ⟨a, b, vs, zs, rfl, rfl, hd1, hr_sub _ _ h1, Nat.le_of_lt (Nat.lt_of_lt_of_le (by omega : vs.length + zs.length < 100000) (by decide)), kk _ _ rfl (po_put (o := .lst (vs ++ zs)) ok g1 g3 g2 (fun i t ht => ?_) rfl w1 upd_same (chs_app c1 fun i => chs_pd h2))⟩
            by_cases ci : i < ts.length
            · rw [List.getElem?_append_left ci]
            · rw [List.getElem?_append_right (by omega), List.getElem?_map]
              constructor
              · intro e
                cases q : ys[i - ts.length]? with
                | none => rw [q] at e; cases e
                | some z => rw [q] at e; cases e; cases ht
              · intro e
                rw [List.getElem?_eq_none (by omega)] at e
                cases e
        · rw [if_neg c] at h; cases h
      · cases h
    · cases h
  · cases h) ?_
  walk_at "hu"
end
section
variable {ι : Type} {P : Program} {w : World} {K : PySem.W.Frag} {mg : Str → Option Value} {base : Heap} {k : Nat} {N : List Str} {F : ι → Cx} {I : SI} {W : WX} {pos : Pos}
theorem tg_meth1 {f : D → D → Ts → Option Ts} {r : V → List V → Hp → VK → Prop} {go ge : Sm D} (hf : ∀ (s : St1) (H : Hp) (x y : D) (v u : V) (t' : Ts) (Q : VK), I.ok K s H → Rp K (Hr I s H) x v → Rp K (Hr I s H) y u → f x y s.t = some t' → (∀ s' H', s'.t = t' → Po I K s H s' H' → Q .non H') → r v [u] H Q) :
    ∀ σ H Q, tG I K W (sMeth1 f go ge) σ H Q → tBM K "list" r (tG I K W go) (tCons (tG I K W ge) tNil) σ H Q := by
  refine Hush.hu (fun σ H Q ⟨env, s, ok, re, h⟩ =>
  step (Po.refl ok) re h fun x v1 s1 H1 p1 _ r1 h => by
    by_cases c : isAl x s1.t = true
    · rw [if_pos c] at h
      refine ⟨al_at p1.ok r1 c, step p1 re h fun y v2 s2 H2 p2 q2 r2 h => ?_⟩
      obtain ⟨t', e, h⟩ := post_ofO (R.post_bind h)
      exact hf s2 H2 x y v1 v2 t' Q p2.ok (rp_same q2.same r1) r2 e fun s' H' e1 p3 => h .non s' H' e1 (p2.trans p3) .non
    · rw [if_neg c] at h; exact h.elim) ?_
  walk_at "hu"
theorem de_ext {o e : Expr} {apos cpos : Pos} {go ge : Sm D} (Wf : Fm P w K mg base k N F) (ho : DE I K W F o go) (he : DE I K W F e ge)
    (hbase : ∀ i, attributeBase o "extend" (F i).env (eval o (F i).env) = eval o (F i).env := by exact fun _ => rfl)
    (hfew : ∀ i, ((backTo cpos (starEach [e] (F i).env)).all (fun x => !x.1) && (backToKw cpos (keywordEach [] (F i).env)).all (fun x => x.1.isSome)
      && decide (([e] : List Expr).length + ([] : List Keyword).length + (if ([] : List Keyword).isEmpty then 0 else 1) < 30)) = true := by exact fun _ => rfl)
    (hline : (apos.endLine == cpos.line) = true := by rfl) (hs : ∀ i, starEach [e] (F i).env = (false, eval e (F i).env) :: starEach [] (F i).env := by exact fun _ => rfl) (hpl : ∀ i, (backTo cpos (starEach [] (F i).env)).any (·.1) = false := by exact fun _ => rfl) :
    DE I K W F (.Call (.Attribute o "extend" apos) [e] [] cpos) (sMeth1 extX go ge) := by
  refine Hush.hu (fun i => by
  have h := pe_bm PySem.F.plainAttrs_list PySem.F.slot_list_extend PySem.F.type_list_extend mt_extend (ho i) (pa_cons (he i) pa_nil (hs i)) (hbase i) (hfew i) hline (hs i) (hpl i)
  rw [Wf.K i] at h
  exact h.imp (tg_meth1 fun s H x y v u t' Q ok r ry e kk => extX_at ok r ry e kk)) ?_
  walk_at "hu"
def sMkT (f : List D → Ts → Option D) (a : Sm (List D)) : Sm D := fun env t => (a env t).bind fun xs t => ofO (f xs t) t
def CallT (K : PySem.W.Frag) (r : List V → Hp → VK → Prop) (f : List D → Ts → Option D) : Prop := ∀ (I : SI) (s : I.S) (H : Hp) (ds : List D) (z : D) (vs : List V) (Q : VK), I.ok K s H → RpL K (Hr I s H) ds vs → f ds s.t = some z →
  (∀ v H', Po I K s H s H' → Rp K (Hr I s H') z v → Q v H') → r vs H Q
theorem tg_mkT {r : List V → Hp → VK → Prop} {f : List D → Ts → Option D} {g : Sm (List D)} (hr : CallT K r f) : ∀ σ H Q, tG I K W (sMkT f g) σ H Q → (tGL I K W g) σ H fun vs H1 => r vs H1 Q := by
  refine Hush.hu (fun σ H Q ⟨env, s, ok, re, h⟩ =>
  stepL (Po.refl ok) re h fun xs vs s1 H1 p1 _ r1 h => by
    obtain ⟨z, e, h⟩ := post_ofO h
    exact hr I s1 H1 xs z vs Q p1.ok r1 e fun v H' p2 r2 => h v s1 H' rfl (p1.trans p2) r2) ?_
  walk_at "hu"
theorem de_callBT {x : Str} {id : String} {e : Expr} {es : List Expr} {p : Pos} {f : List D → Ts → Option D} {g : Sm (List D)} (Wf : Fm P w K mg base k N F) (hc : ∃ r, (∀ i, CallR (F i) (.builtin id) r) ∧ CallT K r f) (hm : mg x = none) (hv : bootBuiltins x = some (.builtin id)) (ha : DA I K W F (e :: es) g)
    (hg : ∀ i, Gl (F i) x := by exact fun _ => rfl) (hn : x ≠ "__name__" := by decide) (hdb : (x == ("__debug__" : Str)) = false := by decide)
    (he : ∀ i, starEach (e :: es) (F i).env = (false, eval e (F i).env) :: starEach es (F i).env := by exact fun _ => rfl) (hpl : ∀ i, (backTo pos (starEach es (F i).env)).any (·.1) = false := by exact fun _ => rfl) : DE I K W F (.Call (.Name x p) (e :: es) [] pos) (sMkT f g) := by
  refine @Hush.hu _ (by
  obtain ⟨r, h1, h2⟩ := hc
  exact fun i => (pe_callB (h1 i) (hg i) (by rw [Wf.mg i]; exact hm) hv (ha i) hn hdb (he i) (hpl i)).imp (tg_mkT h2)) ?_
  walk_at "hu"
theorem de_callTyT {x : Str} {T : String} {e : Expr} {es : List Expr} {p : Pos} {f : List D → Ts → Option D} {g : Sm (List D)} (Wf : Fm P w K mg base k N F) (hc : ∃ r, (∀ i, CallR (F i) (.type T) r) ∧ CallT K r f) (hm : mg x = none) (hv : bootBuiltins x = some (.type T)) (ha : DA I K W F (e :: es) g)
    (hg : ∀ i, Gl (F i) x := by exact fun _ => rfl) (hn : x ≠ "__name__" := by decide) (hdb : (x == ("__debug__" : Str)) = false := by decide)
    (he : ∀ i, starEach (e :: es) (F i).env = (false, eval e (F i).env) :: starEach es (F i).env := by exact fun _ => rfl) (hpl : ∀ i, (backTo pos (starEach es (F i).env)).any (·.1) = false := by exact fun _ => rfl) : DE I K W F (.Call (.Name x p) (e :: es) [] pos) (sMkT f g) := by
  refine @Hush.hu _ (by
  obtain ⟨r, h1, h2⟩ := hc
  exact fun i => (pe_callTy (h1 i) (hg i) (by rw [Wf.mg i]; exact hm) hv (ha i) hn hdb (he i) (hpl i)).imp (tg_mkT h2)) ?_
  walk_at "hu"
theorem callr_or {X : Cx} {f : Value} {r r' : List V → Hp → VK → Prop} (h : CallR X f r) (h' : CallR X f r') : CallR X f (fun xs H Q => r xs H Q ∨ r' xs H Q) := by
  refine @Hush.hu _ (by
  intro pins s σ H xs us Q I rx q
  rcases q with q | q
  · exact h pins s σ H xs us Q I rx q
  · exact h' pins s σ H xs us Q I rx q) ?_
  walk_at "hu"
def cLenT (xs : List D) (t : Ts) : Option D := match xs with
  | [.r n p] => match getT t n p with
    | some (.nd .lst ts) => some (.d (.int ts.length))
    | _ => none
  | xs => cLen xs
theorem c_lenT (Wf : Fm P w K mg base k N F) : ∃ r, (∀ i, CallR (F i) (.builtin "len") r) ∧ CallT K r cLenT := by
  refine @Hush.hu _ (by
  obtain ⟨r, h1, h2⟩ := c_len (F := F) Wf
  refine ⟨_, fun i => callr_or (clK rLenK (Wf.K i) call_len) (h1 i), fun I s H ds z vs Q ok r e kk => ?_⟩
  unfold cLenT at e
  split at e
  · split at e
    · rename_i n p _ ts g
      cases e
      cases r with
      | cons r1 r2 =>
        cases r2
        obtain ⟨a, dx, vs, rfl, w1, c1, hd1⟩ := node_at ok r1 g
        exact .inl ⟨_, _, rfl, .inl ⟨_, SqL.of hd1, rfl⟩, here ok kk (by rw [chs_len c1]; exact .int _)⟩
    · cases e
  · exact .inr (h2 I s H ds z vs Q ok r e kk)) ?_
  walk_at "hu"
def leafs : List Tr → Option (List PyData)
  | [] => some []
  | .v (.d x) :: r => (leafs r).map (x :: ·)
  | _ :: _ => none
theorem leafs_dq {vw : Vw} {n : Nat} {p : Pth} : ∀ {j : Nat} {ts : List Tr} {vs : List V} {xs : List PyData}, Chs K vw n p j ts vs → leafs ts = some xs → DqA K vw.h vs xs
  | _, _, _, _, .nil, e => by cases e; exact .nil
  | j, t :: ts, v :: vs, xs, .cons h r, e => by
    unfold leafs at e
    split at e
    · cases ‹_ :: _ = []›
    · rename_i x r' he
      cases he
      cases q : leafs ts with
      | none => rw [q] at e; cases e
      | some ys => rw [q] at e; cases e; exact .cons h.1 (leafs_dq r q)
    · cases e
def leafsA : List Tr → Option (List D)
  | [] => some []
  | .v d :: r => (leafsA r).map (d :: ·)
  | .nd _ _ :: _ => none
theorem leafsA_rp {vw : Vw} {n : Nat} {p : Pth} : ∀ {j : Nat} {ts : List Tr} {vs : List V} {ds : List D}, Chs K vw n p j ts vs → leafsA ts = some ds → RpL K vw ds vs
  | _, _, _, _, .nil, e => by cases e; exact .nil
  | j, .v d :: ts, v :: vs, ds, .cons h r, e => by
    have e : (leafsA ts).map (d :: ·) = some ds := e
    cases q : leafsA ts with
    | none => rw [q] at e; cases e
    | some ys => rw [q] at e; cases e; exact .cons h.1 (leafsA_rp r q)
  | j, .nd _ _ :: ts, v :: vs, ds, .cons h r, e => by cases e
def cTupT (xs : List D) (t : Ts) : Option D := match xs with
  | [.r n p] => match getT t n p with
    | some (.nd .lst ts) => match leafs ts with
      | some xs => some (.d (.tuple xs))
      | none => (leafsA ts).map D.tp
    | _ => none
  | xs => cTup xs
def cLstT (xs : List D) (t : Ts) : Option D := match xs with
  | [.r n p] => match getT t n p with
    | some (.nd .lst ts) => (leafs ts).map fun xs => .d (.list xs)
    | some (.nd (.dct ks) _) => some (.d (.list (ks.map fun k => .tuple (k.map keyD))))
    | _ => none
  | xs => cLst xs
theorem c_lstT (Wf : Fm P w K mg base k N F) : ∃ r, (∀ i, CallR (F i) (.type "list") r) ∧ CallT K r cLstT := by
  refine @Hush.hu _ (by
  obtain ⟨r, h1, h2⟩ := c_lst (F := F) Wf
  refine ⟨_, fun i => callr_or (callr_or (clK rLstK (Wf.K i) call_list_of) (call_list_dT (Wf.calm i))) (h1 i), fun I s H ds z vs Q ok r e kk => ?_⟩
  unfold cLstT at e
  split at e
  · split at e
    · rename_i n p _ ts g
      cases q : leafs ts with
      | none => rw [q] at e; cases e
      | some xs =>
        rw [q] at e
        cases e
        cases r with
        | cons r1 r2 =>
          cases r2
          obtain ⟨a, dx, vs, rfl, w1, c1, hd1⟩ := node_at ok r1 g
          exact .inl (.inl ⟨_, _, rfl, .inl (SqL.of hd1), newL ok kk (leafs_dq c1 q)⟩)
    · rename_i n p _ ks ts g
      cases e
      cases r with
      | cons r1 r2 =>
        cases r2
        obtain ⟨a, dx, vs, rfl, w1, c1, hd1⟩ := node_at ok r1 g
        refine .inl (.inr ⟨_, _, rfl, .inl hd1.2.2, fun p bs hp hk => ?_⟩)
        have e : ((ks.zip vs).map fun p => PyData.tuple (p.1.map keyD)) = ks.map fun k => PyData.tuple (k.map keyD) := by
          have : ((ks.zip vs).map fun p => PyData.tuple (p.1.map keyD)) = ((ks.zip vs).map Prod.fst).map fun k => PyData.tuple (k.map keyD) := by rw [List.map_map]; rfl
          rw [this, List.map_fst_zip (Nat.le_of_eq hd1.1)]
        have h := isKeys_dq ok hk
        rw [e] at h
        exact newL ok kk h p hp
    · cases e
  · exact .inr (h2 I s H ds z vs Q ok r e kk)) ?_
  walk_at "hu"
def mapD (n : Nat) (p : Pth) : Nat → List Tr → List D
  | _, [] => []
  | i, t :: ts => chD n p i t :: mapD n p (i + 1) ts
def slX (x : D) (lo hi : Option Int) (t : Ts) : Option D := match x with
  | .r n p => match getT t n p with
    | some (.nd .lst ts) => mLst (((mapD n p 0 ts).drop (HT.sIx ts.length 0 lo)).take (HT.sIx ts.length ts.length hi - HT.sIx ts.length 0 lo))
    | _ => none
  | x => fSl x lo hi
def sSlX (a : Sm D) (l u : Sm (Option Int)) : Sm D := fun env t => (a env t).bind fun x t => (l env t).bind fun y t => (u env t).bind fun z t => ofO (slX x y z t) t
end
end Dl
namespace Dl
open PySem L2 PyProof.Rows
section
variable {I : SI} {K : PySem.W.Frag} {s s1 : St1} {H H1 : Hp} {L : Addr} {o : HO}
theorem gro_alloc {k : Kd} {ds : List D} {vs : List V} (z1 : s1.Z L = none) (gr : Gro I K L s1 H1 o s H) (hL : H1 L = none) (hk : k.isIns = false) (hh : Holds I.mg H L L vs k) (hr : RpL K (Hr I s H) ds vs) (ht : topL ds = 0) :
    Po I K s1 H1 (allocS (s.zz s1.Z) k ds L L) H ∧ Rp K (Hr I (allocS (s.zz s1.Z) k ds L L) H) (.r s.t.length []) (.ref L) := by
  refine @Hush.hu _ (by
  have zL : s.Z L = some o := by rw [gr.ze]; exact upd_same
  have zne : ∀ {b}, b ≠ L → s.Z b = s1.Z b := fun {b} c => by rw [gr.ze, upd_ne c]
  have n1 : ∀ {n p x}, s.w n p = some x → (allocS (s.zz s1.Z) k ds L L).w n p = some x := fun {n p x} e => by
    have := (gr.ok.dom n p x e).1
    show (if n = s.t.length ∧ p = [] then some (L, L) else s.w n p) = some x
    rw [if_neg (fun z => by omega)]
    exact e
  have g2 : (allocS (s.zz s1.Z) k ds L L).w s.t.length [] = some (L, L) := if_pos ⟨rfl, rfl⟩
  have g1 : ∀ {n p kq xs}, getT s.t n p = some (.nd kq xs) → (allocS (s.zz s1.Z) k ds L L).w n p = s.w n p := fun {n p kq xs} e => by
    obtain ⟨T, e1, _⟩ := getT_some e
    have := (List.getElem?_eq_some_iff.mp e1).1
    show (if n = s.t.length ∧ p = [] then some (L, L) else s.w n p) = s.w n p
    exact if_neg (fun z => by omega)
  have back : ∀ {n p kq xs}, getT (allocS (s.zz s1.Z) k ds L L).t n p = some (.nd kq xs) → (n = s.t.length ∧ p = [] ∧ kq = k ∧ xs = ds.map Tr.v) ∨ getT s.t n p = some (.nd kq xs) := fun {n p kq xs} e => by
    rcases app_get e with ⟨e1, T, e2, e3⟩ | e
    · cases e2
      obtain ⟨f1, f2, f3⟩ := get_leafs e3
      exact .inl ⟨e1, f1, f2, f3⟩
    · exact .inr e
  have mm : ∀ b, I.M (allocS (s.zz s1.Z) k ds L L) b → b = L ∨ I.M (s.zz s1.Z) b := fun b m => by
    rcases m with ⟨n, p, kq, xs, b1, b2, e1, e2, e3⟩ | m
    · rcases back e1 with ⟨rfl, rfl, rfl, rfl⟩ | e4
      · rw [g2] at e2
        cases e2
        rcases e3 with e3 | ⟨_, e3⟩ <;> exact .inl e3
      · rw [g1 e4] at e2
        exact .inr (.inl ⟨n, p, kq, xs, b1, b2, e4, e2, e3⟩)
    · exact .inr (.inr m)
  have mu : ∀ b, I.M (s.zz s1.Z) b → I.M s b := fun b m => by
    rcases m with m | ⟨u, m⟩ | m
    · exact .inl m
    · by_cases c : b = L
      · subst c
        have m : s1.Z b = some u := m
        rw [z1] at m; cases m
      · exact .inr (.inl ⟨u, by rw [zne c]; exact m⟩)
    · exact .inr (.inr m)
  have vle : VLe (Hr I s H) (Hr I (allocS (s.zz s1.Z) k ds L L) H) := vle_of (fun b u hb => by
    obtain ⟨b1, b2⟩ := hr_of hb
    exact hr_in b1 fun z => b2 ((mm b z).elim (fun e => .inr (.inl ⟨o, by rw [e]; exact zL⟩)) (mu b))) fun n p x e => n1 e
  refine ⟨⟨gr.po.keep, ⟨fun n p kq xs e => ?_, fun n p kq xs n' p' kq' xs' b b2 b3 e e' e1 e2 => ?_, fun n p x e => ?_, fun b u e => ?_, gr.ok.tab, fun n p x e => n1 (gr.ok.fl n p x e)⟩, fun b m => ?_, gr.po.live, fun n p x e => n1 (gr.po.wle n p x e), rfl⟩, ⟨L, rfl, ?_⟩⟩
  · rcases back e with ⟨rfl, rfl, rfl, rfl⟩ | e4
    · exact ⟨L, L, vs, g2, z1, (fun hi => by rw [hk] at hi; cases hi), chs_v (rpl_same vle hr) ht, hh⟩
    · obtain ⟨b1, b2, ws, w1, y1, yx1, c1, hd1⟩ := gr.ok.nod n p kq xs e4
      have c : ∀ {b}, s.Z b = none → s1.Z b = none := fun {b} e => by
        rw [← zne (b := b) (fun z => by rw [z, zL] at e; cases e)]; exact e
      exact ⟨b1, b2, ws, n1 w1, c y1, fun hi => c (yx1 hi), chs_same vle c1, hd1⟩
  · have nw : ∀ {n p kq xs b b2}, getT s.t n p = some (.nd kq xs) → (allocS (s.zz s1.Z) k ds L L).w n p = some (b, b2) → b ≠ L := fun {n p kq xs b b2} e4 e5 z => by
      rw [g1 e4] at e5
      obtain ⟨c1, c2, ws, w1, y1, yx1, cc, hd1⟩ := gr.ok.nod n p kq xs e4
      rw [e5] at w1
      cases w1
      rw [z, zL] at y1
      cases y1
    rcases back e with ⟨rfl, rfl, rfl, rfl⟩ | e4
    · rcases back e' with ⟨rfl, rfl, rfl, rfl⟩ | e5
      · exact ⟨rfl, rfl⟩
      · rw [g2] at e1
        cases e1
        exact absurd rfl (nw e5 e2)
    · rcases back e' with ⟨rfl, rfl, rfl, rfl⟩ | e5
      · rw [g2] at e2
        cases e2
        exact absurd rfl (nw e4 e1)
      · rw [g1 e4] at e1
        rw [g1 e5] at e2
        exact gr.ok.inj n p kq xs n' p' kq' xs' b b2 b3 e4 e5 e1 e2
  · have e : (if n = s.t.length ∧ p = [] then some (L, L) else s.w n p) = some x := e
    by_cases c : n = s.t.length ∧ p = []
    · obtain ⟨rfl, rfl⟩ := c
      refine ⟨by show _ < (s.t ++ [_]).length; rw [List.length_append]; exact Nat.lt_succ_self _, fun T hT => ?_⟩
      have hT : (s.t ++ [some (Tr.nd k (ds.map Tr.v))])[s.t.length]? = some (some T) := hT
      rw [List.getElem?_append_right (Nat.le_refl _), Nat.sub_self] at hT
      cases hT
      exact ⟨k, _, get_nil _⟩
    · rw [if_neg c] at e
      obtain ⟨d1, d2⟩ := gr.ok.dom n p x e
      refine ⟨by show _ < (s.t ++ [_]).length; rw [List.length_append]; omega, fun T hT => ?_⟩
      have hT : (s.t ++ [some (Tr.nd k (ds.map Tr.v))])[n]? = some (some T) := hT
      rw [List.getElem?_append_left d1] at hT
      exact d2 T hT
  · have e : s1.Z b = some u := e
    exact gr.ok.z b u (by rw [zne (fun z => by rw [z, z1] at e; cases e)]; exact e)
  · rcases mm b m with e | e
    · exact .inr (by rw [e]; exact hL)
    · exact gr.po.gro b e
  · show ((allocS (s.zz s1.Z) k ds L L).w s.t.length []).map (·.1) = some L
    rw [g2]
    rfl) ?_
  walk_at "hu"
theorem new_lst {ds : List D} {vs : List V} (ok : I.ok K s H) (hr : RpL K (Hr I s H) ds vs) (ht : topL ds = 0) {p : Addr} (hp : H p = none) :
    ∃ s', s'.t = s.t ++ [some (.nd .lst (ds.map Tr.v))] ∧ Po I K s H s' (upd H p (.lst vs)) ∧ Rp K (Hr I s' (upd H p (.lst vs))) (.r s.t.length []) (.ref p) := by
  refine @Hush.hu _ (by
  have gr := Gro.start (o := .lst vs) ok hp (.inl ⟨vs, rfl⟩)
  obtain ⟨h1, h2⟩ := gro_alloc (k := .lst) (ok_zL ok hp) gr hp rfl upd_same (rpl_same gr.sm hr) ht
  exact ⟨_, rfl, h1, h2⟩) ?_
  walk_at "hu"
end
def newLs (ds : List D) (t : Ts) : R D := if topL ds = 0 ∧ ds.length ≤ 100000 then .ok (.r t.length []) (t ++ [some (.nd .lst (ds.map Tr.v))]) else .no
section
variable {ι : Type} {P : Program} {w : World} {K : PySem.W.Frag} {mg : Str → Option Value} {base : Heap} {k : Nat} {N : List Str} {F : ι → Cx} {I : SI} {W : WX} {pos : Pos}
theorem post_ite {α : Type} {c : Prop} [Decidable c] {a : R α} {P : α → Ts → Prop} {X : Exn → Ts → Prop} (h : (if c then a else .no).Post P X) : c ∧ a.Post P X := by
  refine @Hush.hu _ (by
  by_cases q : c
  · rw [if_pos q] at h; exact ⟨q, h⟩
  · rw [if_neg q] at h; exact h.elim) ?_
  walk_at "hu"
def sAlL (a : Sm (List D)) : Sm D := fun env t => (a env t).bind newLs
theorem de_allocL {es : List Expr} {g : Sm (List D)} (h : DA I K W F es g) : DE I K W F (.List es pos) (sAlL g) := by
  refine Hush.hu (fun i => (pe_lst (h i)).imp fun σ H Q ⟨env, s, ok, re, h⟩ =>
  stepL (Po.refl ok) re h fun ds vs s1 H1 p1 _ r1 h => by
    obtain ⟨⟨c1, c2⟩, h⟩ := post_ite h
    refine ⟨by rw [rpl_len r1]; exact sz c2, fun p hp => ?_⟩
    obtain ⟨s', e1, e2, e3⟩ := new_lst p1.ok r1 c1 hp
    exact h _ s' _ e1 (p1.trans e2) e3) ?_
  walk_at "hu"
def lsOf (x : D) (t : Ts) : Option (List D) := match x with
  | .r n p => match getT t n p with
    | some (.nd .lst ts) => leafsA ts
    | _ => none
  | .d (.list xs) => some (xs.map D.d)
  | .d (.tuple xs) => some (xs.map D.d)
  | .kt (.tuple xs) => if xs.all flatS = true then some (xs.map ktD) else none
  | .tp ds => some ds
  | .ls ds => some ds
  | _ => none
def sAlC (a : Sm D) : Sm D := fun env t => (a env t).bind fun x t => (ofO (lsOf x t) t).bind newLs
def repD (x y : D) : Option (List D) := match x, y with
  | .d (.list a), .d (.int j) => if -(2 ^ 63) ≤ j ∧ j < 2 ^ 63 ∧ a.length * j.toNat ≤ 100000 then some ((List.replicate j.toNat a).flatten.map D.d) else none
  | _, _ => none
def sAlR (a b : Sm D) : Sm D := fun env t => (a env t).bind fun x t => (b env t).bind fun y t => (ofO (repD x y) t).bind newLs
def frz (x : D) (t : Ts) : R D := match x with
  | .r n [] => match t[n]? with
    | some (some (.nd .lst ts)) => match leafs ts with
      | some xs => .ok (.d (.list xs)) (t.set n none)
      | none => match leafsA ts with
        | some ds => .ok (.ls ds) (t.set n none)
        | none => .no
    | _ => .no
  | _ => .no
theorem frz_at {I : SI} {K : PySem.W.Frag} {s : St1} {H : Hp} {x : D} {v : V} {A : D → Ts → Prop} {B : Exn → Ts → Prop} (ok : I.ok K s H) (r : Rp K (Hr I s H) x v) (h : (frz x s.t).Post A B) : ∃ d s', A d s'.t ∧ Po I K s H s' H ∧ Rp K (Hr I s' H) d v := by
  refine @Hush.hu _ (by
  unfold frz at h
  split at h
  · rename_i n
    split at h
    · rename_i ts e
      have g : getT s.t n [] = some (.nd .lst ts) := by rw [getT_of e]; exact get_nil _
      obtain ⟨a, dx, vs, rfl, w1, c1, hd1⟩ := node_at ok r g
      have pk := po_kill n ok
      have na : ¬ I.M (killS s n) a := kill_free ok g w1
      split at h
      · rename_i xs q
        exact ⟨_, killS s n, h, pk, .lst (hr_in hd1 na) (dpa_same pk.same.h (leafs_dq c1 q))⟩
      · split at h
        · rename_i ds q
          exact ⟨_, killS s n, h, pk, ⟨a, vs, rfl, hr_in hd1 na, rpa_of (rpl_same pk.same (leafsA_rp c1 q))⟩⟩
        · exact h.elim
    · exact h.elim
  · exact h.elim) ?_
  walk_at "hu"
def sFrz (a : Sm D) : Sm D := fun env t => (a env t).bind frz
end
end Dl
namespace Dl
open PySem L2 PyProof.Rows
structure Gm (P : Program) (w : World) (K : PySem.W.Frag) (mg : Str → Option Value) (base : Heap) (c m : Str) (k n : Nat) (f : List D → Ts → R D) : Prop where
  ex : ∃ (C fa : Addr) (fd : FuncData) (ps : List Str), mg c = some (.ref C) ∧ Cls K C ∧ Meth K C m fa ∧ ps.length = n ∧ Binds K fd ps [] ∧ FnOk P w K mg base (L2.CX P w) k fa fd ps (spS K mg n f)
  ln : ∀ ds t, ds.length ≠ n → f ds t = .no
theorem Gm.len {P : Program} {w : World} {K : PySem.W.Frag} {mg : Str → Option Value} {base : Heap} {c m : Str} {k n : Nat} {f : List D → Ts → R D} (G : Gm P w K mg base c m k n f) {ds : List D} {t : Ts} {A : D → Ts → Prop} {B : Exn → Ts → Prop} (h : (f ds t).Post A B) : ds.length = n := by
  refine @Hush.hu _ (by
  by_cases c : ds.length = n
  · exact c
  · rw [G.ln ds t c] at h; exact h.elim) ?_
  walk_at "hu"
def isInst (c m : Str) (x : D) (t : Ts) : Bool := match x with
  | .r n p => match getT t n p with
    | some (.nd (.ins c' ks) _) => decide (c' = c) && (kix m ks).isNone
    | _ => false
  | _ => false
def sMeth (c m : Str) (f : List D → Ts → R D) (o : Sm D) (a : Sm (List D)) : Sm D := fun env t => (o env t).bind fun x t => if isInst c m x t = true then (a env t).bind fun xs t => f (x :: xs) t else .no
section
variable {ι : Type} {P : Program} {w : World} {K : PySem.W.Frag} {mg : Str → Option Value} {base : Heap} {k : Nat} {N : List Str} {F : ι → Cx} {I : SI} {W : WX} {pos : Pos}
def sMake (c : Str) (f : List D → Ts → R D) (a : Sm (List D)) : Sm D := fun env t => (a env t).bind fun xs t => (f (.r t.length [] :: xs) (t ++ [some (.nd (.ins c []) [])])).bind fun d t2 => match d with
  | .d .none => .ok (.r t.length []) t2
  | _ => .no
end
end Dl
namespace Dl
open PySem L2 PyProof.Rows
inductive RpK (K : PySem.W.Frag) (H : Vw) : List (Key × D) → List (Key × V) → Prop
  | nil : RpK K H [] []
  | cons {k : Key} {d : D} {v : V} {ds : List (Key × D)} {ps : List (Key × V)} : Rp K H d v → RpK K H ds ps → RpK K H ((k, d) :: ds) ((k, v) :: ps)
theorem rpk_same {K : PySem.W.Frag} {H H' : Vw} (e : VLe H H') : ∀ {ds : List (Key × D)} {ps : List (Key × V)}, RpK K H ds ps → RpK K H' ds ps
  | _, _, .nil => .nil
  | _, _, .cons h t => .cons (rp_same e h) (rpk_same e t)
theorem rpk_keys {K : PySem.W.Frag} {H : Vw} : ∀ {ds : List (Key × D)} {kvs : List (Key × V)}, RpK K H ds kvs → kvs.length = ds.length ∧ kvs.map (·.1) = ds.map (·.1)
  | _, _, .nil => ⟨rfl, rfl⟩
  | _, _, .cons h t => by
    obtain ⟨h1, h2⟩ := rpk_keys t
    exact ⟨by rw [List.length_cons, List.length_cons, h1], by rw [List.map_cons, List.map_cons, h2]⟩
def lkK (z : Key) : List (Key × D) → Option D
  | [] => none
  | (k, d) :: r => if k = z then some d else lkK z r
theorem rpk_look {K : PySem.W.Frag} {H : Vw} (z : Key) : ∀ {ds : List (Key × D)} {kvs : List (Key × V)}, RpK K H ds kvs → (∃ d v, lkK z ds = some d ∧ valV kvs z = some v ∧ Rp K H d v) ∨ (lkK z ds = none ∧ valV kvs z = none)
  | _, _, .nil => .inr ⟨rfl, rfl⟩
  | _, _, .cons (k := k) (d := d) (v := v) (ds := ds) (ps := ps) h t => by
    by_cases c : k = z
    · subst c
      refine .inl ⟨d, v, by unfold lkK; rw [if_pos rfl], ?_, h⟩
      unfold valV
      rw [List.find?_cons_of_pos (by simp)]
      rfl
    · have e1 : lkK z ((k, d) :: ds) = lkK z ds := by show (if k = z then _ else _) = _; rw [if_neg c]
      have e2 : valV ((k, v) :: ps) z = valV ps z := by
        unfold valV
        rw [List.find?_cons_of_neg (by simp [c])]
      rw [e1, e2]
      exact rpk_look z t
theorem putK_new {κ : Type} [DecidableEq κ] {acc : List (κ × V)} {k : κ} {v : V} (h : ¬ k ∈ acc.map (·.1)) : putK acc k v = acc ++ [(k, v)] := by
  refine @Hush.hu _ (by
  unfold putK
  rw [if_neg]
  intro q
  obtain ⟨p, hp, e⟩ := List.any_eq_true.mp q
  exact h (List.mem_map.mpr ⟨p, hp, of_decide_eq_true e⟩)) ?_
  walk_at "hu"
theorem mergeK_new : ∀ (more acc : List (Key × V)), ((acc ++ more).map (·.1)).Nodup → mergeK acc more = acc ++ more
  | [], acc, _ => by rw [List.append_nil]; rfl
  | (k, v) :: r, acc, h => by
    have hk : ¬ k ∈ acc.map (·.1) := fun hm => by
      rw [List.map_append, List.map_cons] at h
      exact (List.nodup_append.mp h).2.2 k hm k List.mem_cons_self rfl
    show mergeK (putK acc k v) r = _
    rw [putK_new hk, mergeK_new r (acc ++ [(k, v)]) (by rw [List.append_assoc]; exact h), List.append_assoc]
    rfl
def sPnil : Sm (List (Key × D)) := fun _ t => .ok [] t
def pPnil : Pm (List (Key × D)) := fun _ => some []
def sPcons (k : Key) (a : Sm D) (r : Sm (List (Key × D))) : Sm (List (Key × D)) := fun env t => (a env t).bind fun d t => (r env t).bind fun ds t => .ok ((k, d) :: ds) t
def pPcons (k : Key) (a : Pm D) (r : Pm (List (Key × D))) : Pm (List (Key × D)) := fun env => (a env).bind fun p => (r env).map fun q => (k, p) :: q
theorem lift_pnil : lift pPnil = sPnil := rfl
theorem lift_pcons (k : Key) (a : Pm D) (r : Pm (List (Key × D))) : lift (pPcons k a r) = sPcons k (lift a) (lift r) := by
  refine @Hush.hu _ (by
  funext env s
  unfold lift pPcons sPcons
  dsimp only
  cases a env with
  | none => rfl
  | some x =>
    simp only [Option.bind_some, ofO, R.bind]
    cases r env <;> rfl) ?_
  walk_at "hu"
def tGP (I : SI) (K : PySem.W.Frag) (W : WX) (g : Sm (List (Key × D))) : L2.St → Hp → (List (V × V) → Hp → Prop) → Prop := fun σ H Q => ∃ env s, I.ok K s H ∧ RE K (Hr I s H) env σ ∧
  (g env s.t).Post (fun ds t => ∀ kvs s' H', s'.t = t → Po I K s H s' H' → RpK K (Hr I s' H') ds kvs → Q (kvs.map fun kv => (kV kv.1, kv.2)) H') (XP I K W s σ H)
def okD (ds : List (Key × D)) : Bool := decide (ds.length ≤ 15) && decide ((ds.map (·.1)).Nodup)
section
variable {ι : Type} {P : Program} {w : World} {K : PySem.W.Frag} {mg : Str → Option Value} {base : Heap} {k : Nat} {N : List Str} {F : ι → Cx} {I : SI} {W : WX} {pos : Pos}
def DP (I : SI) (K : PySem.W.Frag) (W : WX) (F : ι → Cx) (pos : Pos) (keys : List (Option Expr)) (values : List Expr) (g : Sm (List (Key × D))) : Prop := ∃ trs, (∀ i, PPs (F i) pos keys values trs) ∧ ∀ σ H Q, tGP I K W g σ H Q → tPairs trs σ H Q
theorem dp_nil : DP I K W F pos [] [] sPnil := by
  refine Hush.hu (⟨[], fun _ => pps_nil, fun σ H Q ⟨env, s, ok, re, h⟩ => h [] s H rfl (Po.refl ok) .nil⟩) ?_
  walk_at "hu"
theorem dp_add {key : Expr} {kk : Key} {v : Expr} {ks : List (Option Expr)} {vs : List Expr} {g : Sm D} {gr : Sm (List (Key × D))} (hk : ∀ i, PE (F i) key (tC (kV kk))) (h : DE I K W F v g) (hr : DP I K W F pos ks vs gr) : DP I K W F pos (some key :: ks) (v :: vs) (sPcons kk g gr) := by
  refine @Hush.hu _ (by
  obtain ⟨trs, b1, b2⟩ := hr
  refine ⟨(tC (kV kk), tG I K W g) :: trs, fun i => pps_cons (hk i) (h i) (b1 i), fun σ H Q ⟨env, s, ok, re, h⟩ => ?_⟩
  refine step (Po.refl ok) re h fun d v s1 H1 p1 _ r1 h => b2 _ _ _ ⟨env, s1, p1.ok, re.same p1.same, (R.post_bind h).mono (fun ds t q kvs s2 H2 e p2 r2 => ?_) fun x t q => xp_from p1 q⟩
  exact q ((kk, v) :: kvs) s2 H2 e (p1.trans p2) (.cons (rp_same p2.same r1) r2)) ?_
  walk_at "hu"
theorem dp_cons {x : Str} {j : Nat} {p : Pos} {v : Expr} {ks : List (Option Expr)} {vs : List Expr} {g : Sm D} {gr : Sm (List (Key × D))} (h : DE I K W F v g) (hr : DP I K W F pos ks vs gr) : DP I K W F pos (some (.Constant (.str x) j p) :: ks) (v :: vs) (sPcons (.inr x) g gr) := by
  refine Hush.hu (dp_add (fun _ => pe_str) h hr) ?_
  walk_at "hu"
theorem disp_at {trs : List (TE × TE)} {g : Sm (List (Key × D))} {env : Env} {s s0 : St1} {σ : L2.St} {H H0 : Hp} {Q : VK} {α : Type} {kc : List (Key × D) → Ts → R α} {Pr : α → Ts → Prop} (hg : ∀ σ H Q, tGP I K W g σ H Q → tPairs trs σ H Q) (p : Po I K s0 H0 s H) (re : RE K (Hr I s0 H0) env σ) (h : ((g env s.t).bind kc).Post Pr (XP I K W s0 σ H0))
    (hk : ∀ ds t, (kc ds t).Post Pr (XP I K W s0 σ H0) → okD ds = true)
    (c : ∀ q kvs ds s1 H1, H q = none → Gro I K q s H (.dK kvs) s1 H1 → RpK K (Hr I s1 H1) ds kvs → (ds.map (·.1)).Nodup → (kc ds s1.t).Post Pr (XP I K W s0 σ H0) → Q (.ref q) H1) : tDisp trs σ H Q := by
  refine @Hush.hu _ (by
  intro q hq
  have ldd : ∀ kvs, Ld (.dK kvs) := fun kvs => .inr (.inl ⟨kvs, rfl⟩)
  have zq := ok_zL p.ok hq
  have gr := Gro.start (o := .dK []) p.ok hq (ldd _)
  refine hg _ _ _ ⟨env, s.zz (upd s.Z q (.dK [])), gr.ok, (re.same p.same).same gr.sm, (R.post_bind h).mono (fun ds t hd kvs s2 H2 e p2 r2 => ?_) fun x t hx cls dd s' H' e p2 a => ?_⟩
  · subst e
    have gr2 := gr.step p2 hq zq
    have hok := hk ds _ hd
    unfold okD at hok
    rw [Bool.and_eq_true, decide_eq_true_eq, decide_eq_true_eq] at hok
    obtain ⟨hl, hm⟩ := rpk_keys r2
    have em : mergeK [] kvs = kvs := mergeK_new kvs [] (by rw [List.nil_append, hm]; exact hok.2)
    refine ⟨gr2.at_, kvs, rfl, by rw [hl]; exact hok.1, ?_⟩
    rw [em]
    exact c q kvs ds (s2.zz (upd s.Z q (.dK kvs))) _ hq (gr2.put hq zq (ldd _)) (rpk_same gr2.psm r2) hok.2 hd
  · have gr2 := gr.step p2 hq zq
    exact hx cls dd (s'.zz s.Z) H' e (p.trans gr2.po) (exat_same gr2.gsm a)) ?_
  walk_at "hu"
def isK : D → Option Key
  | .d (.str z) => some (.inr z)
  | .d (.int z) => some (.inl z)
  | _ => none
theorem isK_at {H : Vw} {d : D} {z : Key} {v : V} (h : isK d = some z) (r : Rp K H d v) : v = kV z := by
  refine @Hush.hu _ (by
  unfold isK at h
  split at h
  · cases h; cases r; rfl
  · cases h; cases r; rfl
  · cases h) ?_
  walk_at "hu"
def sDget (g : Sm (List (Key × D))) (a b : Sm D) : Sm D := fun env t => (g env t).bind fun ds t => if okD ds = true then (a env t).bind fun x t => (b env t).bind fun y t => (ofO (isK x) t).bind fun z t => .ok ((lkK z ds).getD y) t else .no
def pDget (g : Pm (List (Key × D))) (a b : Pm D) : Pm D := fun env => (g env).bind fun p => if okD p = true then (a env).bind fun q => (b env).bind fun r => (isK q).map fun z => (lkK z p).getD r else none
theorem lift_dget (g : Pm (List (Key × D))) (a b : Pm D) : lift (pDget g a b) = sDget (lift g) (lift a) (lift b) := by
  refine @Hush.hu _ (by
  funext env s
  unfold lift pDget sDget
  dsimp only
  cases g env with
  | none => rfl
  | some p =>
    simp only [Option.bind_some, ofO, R.bind]
    by_cases c : okD p = true
    · rw [if_pos c, if_pos c]
      cases a env with
      | none => rfl
      | some q =>
        simp only [Option.bind_some]
        cases b env with
        | none => rfl
        | some r =>
          simp only [Option.bind_some]
          cases isK q <;> rfl
    · rw [if_neg c, if_neg c]) ?_
  walk_at "hu"
theorem gro_res {s s1 s0 : St1} {H H1 H0 : Hp} {q : Addr} {o : HO} {σ : L2.St} {x : Exn} {t : Ts} (p : Po I K s0 H0 s H) (gr : Gro I K q s H o s1 H1) (hq : H q = none) (zq : s.Z q = none) (hx : XP I K W s0 σ H0 x t) : XP I K W s1 σ H1 x t := by
  refine Hush.hu (fun cls dd s' H' e p2 a => by
  have gr2 := gr.step p2 hq zq
  exact hx cls dd (s'.zz s.Z) H' e (p.trans gr2.po) (exat_same gr2.gsm a)) ?_
  walk_at "hu"
theorem de_dget {keys : List (Option Expr)} {values : List Expr} {dpos apos cpos : Pos} {e f : Expr} {g : Sm (List (Key × D))} {ga gb : Sm D} (Wf : Fm P w K mg base k N F) (h : DP I K W F dpos keys values g) (ha : DE I K W F e ga) (hb : DE I K W F f gb)
    (hall : keys.all (·.isSome) = true := by rfl) (hl : keys.length = values.length := by rfl) (h0 : keys ≠ [] := by exact fun z => nomatch z) (h15 : keys.length ≤ 15 := by decide)
    (m : ∀ i, M2 (F i) (.Dict keys values dpos) "get" apos e f cpos := by exact fun _ => ⟨rfl, rfl, rfl, rfl⟩) : DE I K W F (.Call (.Attribute (.Dict keys values dpos) "get" apos) [e, f] [] cpos) (sDget g ga gb) := by
  refine @Hush.hu _ (by
  obtain ⟨trs, g1, g2⟩ := h
  exact fun i => (pe_dget2 (by have := Wf.units i; omega) (pe_disp (g1 i) hall hl h0 h15) (ha i) (hb i) (m i)).imp fun σ H Q ⟨env, s, ok, re, h⟩ =>
    disp_at g2 (Po.refl ok) re h (fun ds t h => (post_ite h).1) fun q kvs ds s1 H1 hq gr rk nd h => by
      obtain ⟨_, h⟩ := post_ite h
      have zq := ok_zL ok hq
      refine ⟨q, rfl, .inl ⟨kvs, .inl gr.at_⟩, env, s1, gr.ok, re.same gr.sm, (R.post_bind h).mono (fun x t h v3 s3 H3 e3 p3 r3 => ?_) fun x t hx => gro_res (Po.refl ok) gr hq zq hx⟩
      subst e3
      have gr3 := gr.step p3 hq zq
      refine ⟨env, s3, gr3.ok, re.same gr3.sm, (R.post_bind h).mono (fun y t h v4 s4 H4 e4 p4 r4 => ?_) fun x t hx => gro_res (Po.refl ok) gr3 hq zq hx⟩
      subst e4
      have gr4 := gr3.step p4 hq zq
      obtain ⟨z, ez, h⟩ := post_ofO (R.post_bind h)
      have hz := isK_at ez r3
      subst hz
      refine ⟨valV kvs z, DGet.k gr4.at_, ?_⟩
      rcases rpk_look z rk with ⟨d, v, q1, q2, q3⟩ | ⟨q1, q2⟩
      · rw [q1] at h
        rw [q2]
        exact h v (s4.zz s.Z) H4 rfl gr4.po (rp_same gr4.gsm (rp_same (p3.trans p4).same q3))
      · rw [q1] at h
        rw [q2]
        exact h v4 (s4.zz s.Z) H4 rfl gr4.po (rp_same gr4.gsm r4)) ?_
  walk_at "hu"
def sDsub (g : Sm (List (Key × D))) (a : Sm D) : Sm D := fun env t => (g env t).bind fun ds t => if okD ds = true then (a env t).bind fun x t => (ofO (isK x) t).bind fun z t => ofO (lkK z ds) t else .no
def pDsub (g : Pm (List (Key × D))) (a : Pm D) : Pm D := fun env => (g env).bind fun p => if okD p = true then (a env).bind fun q => (isK q).bind fun z => lkK z p else none
theorem lift_dsub (g : Pm (List (Key × D))) (a : Pm D) : lift (pDsub g a) = sDsub (lift g) (lift a) := by
  refine @Hush.hu _ (by
  funext env s
  unfold lift pDsub sDsub
  dsimp only
  cases g env with
  | none => rfl
  | some p =>
    simp only [Option.bind_some, ofO, R.bind]
    by_cases c : okD p = true
    · rw [if_pos c, if_pos c]
      cases a env with
      | none => rfl
      | some q =>
        simp only [Option.bind_some]
        cases isK q <;> rfl
    · rw [if_neg c, if_neg c]) ?_
  walk_at "hu"
theorem de_dsub {keys : List (Option Expr)} {values : List Expr} {dpos : Pos} {e : Expr} {g : Sm (List (Key × D))} {ga : Sm D} (Wf : Fm P w K mg base k N F) (h : DP I K W F dpos keys values g) (ha : DE I K W F e ga)
    (hall : keys.all (·.isSome) = true := by rfl) (hl : keys.length = values.length := by rfl) (h0 : keys ≠ [] := by exact fun z => nomatch z) (h15 : keys.length ≤ 15 := by decide) (hs : NoSl e := by exact fun _ _ => rfl) :
    DE I K W F (.Subscript (.Dict keys values dpos) e pos) (sDsub g ga) := by
  refine @Hush.hu _ (by
  obtain ⟨trs, g1, g2⟩ := h
  exact fun i => (pe_dget (by have := Wf.units i; omega) (pe_disp (g1 i) hall hl h0 h15) (ha i) hs).imp fun σ H Q ⟨env, s, ok, re, h⟩ =>
    disp_at g2 (Po.refl ok) re h (fun ds t h => (post_ite h).1) fun q kvs ds s1 H1 hq gr rk nd h => by
      obtain ⟨_, h⟩ := post_ite h
      have zq := ok_zL ok hq
      refine ⟨env, s1, gr.ok, re.same gr.sm, (R.post_bind h).mono (fun x t h v3 s3 H3 e3 p3 r3 => ?_) fun x t hx => gro_res (Po.refl ok) gr hq zq hx⟩
      subst e3
      have gr3 := gr.step p3 hq zq
      obtain ⟨z, ez, h⟩ := post_ofO (R.post_bind h)
      have hz := isK_at ez r3
      subst hz
      obtain ⟨d, e5, h⟩ := post_ofO h
      rcases rpk_look z rk with ⟨d', v, q1, q2, q3⟩ | ⟨q1, q2⟩
      · rw [q1] at e5
        cases e5
        exact ⟨q, v, rfl, by rw [← q2]; exact DGet.k gr3.at_, h v (s3.zz s.Z) H3 rfl gr3.po (rp_same gr3.gsm (rp_same p3.same q3))⟩
      · rw [q1] at e5; cases e5) ?_
  walk_at "hu"
def getD2 (x k y : D) (t : Ts) : Option D := match x with
  | .r n p => match getT t n p with
    | some (.nd (.dct ks) ts) => match k with
      | .d (.tuple xs) => (dKeys xs).bind fun kk => match kix kk ks with
        | some j => (ts[j]?).map (chD n p j)
        | none => some y
      | _ => none
    | _ => none
  | _ => none
def isDc (x : D) (t : Ts) : Bool := match x with
  | .r n p => match getT t n p with
    | some (.nd (.dct _) _) => true
    | _ => false
  | _ => false
def sGet2 (o a b : Sm D) : Sm D := fun env t => (o env t).bind fun x t => if isDc x t = true then (a env t).bind fun k t => (b env t).bind fun y t => ofO (getD2 x k y t) t else .no
def putB (acc : List (List Key × Bool)) (k : List Key) (b : Bool) : List (List Key × Bool) := if (acc.any fun p => decide (p.1 = k)) = true then acc.map (fun p => if p.1 = k then (p.1, b) else p) else acc ++ [(k, b)]
def prB : List PyData → Option (List (List Key × Bool))
  | [] => some []
  | .tuple [.tuple xs, .bool b] :: r => (dKeys xs).bind fun ks => (prB r).map ((ks, b) :: ·)
  | _ :: _ => none
def newDc (x : D) (t : Ts) : R D := match x with
  | .d (.list xs) => match prB xs with
    | some kvs => .ok (.r t.length []) (t ++ [some (.nd (.dct ((kvs.foldl (fun acc p => putB acc p.1 p.2) []).map (·.1))) ((kvs.foldl (fun acc p => putB acc p.1 p.2) []).map fun p => .v (.d (.bool p.2))))])
    | none => .no
  | _ => .no
def sDict (a : Sm D) : Sm D := fun env t => (a env t).bind newDc
theorem prB_T : ∀ {xs : List PyData} {kvs : List (List Key × Bool)}, prB xs = some kvs → prT xs = some (kvs.map fun p => (p.1, V.bl p.2))
  | [], _, h => by cases h; rfl
  | x :: r, kvs, h => by
    unfold prB at h
    split at h
    · cases ‹_ :: _ = []›
    · rename_i xs b r' he
      cases he
      cases e1 : dKeys xs with
      | none => rw [e1] at h; cases h
      | some ks =>
        rw [e1] at h
        simp only [Option.bind_some] at h
        cases e2 : prB r with
        | none => rw [e2] at h; cases h
        | some q =>
          rw [e2] at h
          cases h
          show (dKeys xs).bind (fun ks => (prT r).map ((ks, V.bl b) :: ·)) = _
          rw [e1, prB_T e2]
          rfl
    · cases h
theorem putB_T (acc : List (List Key × Bool)) (k : List Key) (b : Bool) : putK (acc.map fun p => (p.1, V.bl p.2)) k (V.bl b) = (putB acc k b).map fun p => (p.1, V.bl p.2) := by
  refine @Hush.hu _ (by
  unfold putK putB
  have e : ((acc.map fun p => (p.1, V.bl p.2)).any fun kv => decide (kv.1 = k)) = acc.any fun p => decide (p.1 = k) := by rw [List.any_map]; rfl
  rw [e]
  by_cases c : (acc.any fun p => decide (p.1 = k)) = true
  · rw [if_pos c, if_pos c, List.map_map, List.map_map]
    apply List.map_congr_left
    intro p _
    by_cases q : p.1 = k <;> simp [q]
  · rw [if_neg c, if_neg c, List.map_append]
    rfl) ?_
  walk_at "hu"
theorem merge_T : ∀ (kvs acc : List (List Key × Bool)), mergeT (acc.map fun p => (p.1, V.bl p.2)) (kvs.map fun p => (p.1, V.bl p.2)) = (kvs.foldl (fun acc p => putB acc p.1 p.2) acc).map fun p => (p.1, V.bl p.2)
  | [], acc => rfl
  | p :: r, acc => by
    show mergeT (putK (acc.map fun p => (p.1, V.bl p.2)) p.1 (V.bl p.2)) (r.map fun p => (p.1, V.bl p.2)) = _
    rw [putB_T, merge_T r]
    rfl
theorem putB_nodup {acc : List (List Key × Bool)} {k : List Key} {b : Bool} (h : (acc.map (·.1)).Nodup) : ((putB acc k b).map (·.1)).Nodup := by
  refine @Hush.hu _ (by
  unfold putB
  by_cases c : (acc.any fun p => decide (p.1 = k)) = true
  · rw [if_pos c, List.map_map]
    have e : acc.map ((fun x => x.1) ∘ fun p => if p.1 = k then (p.1, b) else p) = acc.map (·.1) := List.map_congr_left fun p _ => by
      by_cases q : p.1 = k <;> simp [q]
    rw [e]
    exact h
  · rw [if_neg c, List.map_append]
    refine nodup_snoc h fun hm => c ?_
    obtain ⟨p, hp, e⟩ := List.mem_map.mp hm
    exact List.any_eq_true.mpr ⟨p, hp, decide_eq_true e⟩) ?_
  walk_at "hu"
theorem foldB_nodup : ∀ (kvs acc : List (List Key × Bool)), (acc.map (·.1)).Nodup → ((kvs.foldl (fun acc p => putB acc p.1 p.2) acc).map (·.1)).Nodup
  | [], _, h => h
  | p :: r, acc, h => foldB_nodup r _ (putB_nodup h)
theorem rpl_bools {H : Vw} : ∀ (bs : List (List Key × Bool)), RpL K H (bs.map fun p => D.d (.bool p.2)) (bs.map fun p => V.bl p.2)
  | [] => .nil
  | p :: r => .cons (show Dq _ _ _ _ from .bl p.2) (rpl_bools r)
theorem topL_bools : ∀ (bs : List (List Key × Bool)), topL (bs.map fun p => D.d (.bool p.2)) = 0
  | [] => rfl
  | p :: r => by
    show max 0 (topL _) = 0
    rw [topL_bools r]
    rfl
theorem de_dict {e : Expr} {p : Pos} {g : Sm D} (Wf : Fm P w K mg base k N F) (hm : mg "dict" = none) (hv : bootBuiltins "dict" = some (.type "dict")) (h : DE I K W F e g)
    (hg : ∀ i, Gl (F i) "dict" := by exact fun _ => rfl)
    (he : ∀ i, starEach [e] (F i).env = (false, eval e (F i).env) :: starEach [] (F i).env := by exact fun _ => rfl) (hpl : ∀ i, (backTo pos (starEach [] (F i).env)).any (·.1) = false := by exact fun _ => rfl) : DE I K W F (.Call (.Name "dict" p) [e] [] pos) (sDict g) := by
  refine Hush.hu (fun i => by
  have hh := pe_callTy (p := p) (call_dictT (X := F i) (Wf.calm i) (by have := Wf.units i; omega)) (hg i) (by rw [Wf.mg i]; exact hm) hv (pa_cons (h i) pa_nil (he i)) (by decide) (by decide) (he i) (hpl i)
  rw [Wf.K i] at hh
  refine hh.imp fun σ H Q ⟨env, s, ok, re, h⟩ => step (Po.refl ok) re h fun x v s1 H1 p1 _ r1 h => ?_
  unfold newDc at h
  split at h
  · split at h
    · rename_i kvs q
      cases r1 with
      | lst h1 h2 =>
        obtain ⟨ps, e1, e2⟩ := prT_ok (dpa_same hr_sub h2) (prB_T q)
        subst e1
        refine ⟨_, ps, _, rfl, SqL.of (hr_sub _ _ h1), e2, fun l hl => ?_⟩
        have em := merge_T kvs []
        rw [show (([] : List (List Key × Bool)).map fun p => (p.1, V.bl p.2)) = [] from rfl] at em
        rw [em]
        have gr := Gro.start (o := .dT ((kvs.foldl (fun acc p => putB acc p.1 p.2) []).map fun p => (p.1, V.bl p.2))) p1.ok hl (.inr (.inr ⟨_, rfl⟩))
        obtain ⟨g1, g2⟩ := gro_alloc (k := .dct ((kvs.foldl (fun acc p => putB acc p.1 p.2) []).map (·.1))) (ds := (kvs.foldl (fun acc p => putB acc p.1 p.2) []).map fun p => .d (.bool p.2)) (vs := (kvs.foldl (fun acc p => putB acc p.1 p.2) []).map fun p => V.bl p.2) (ok_zL p1.ok hl) gr hl rfl
          ⟨by rw [List.length_map, List.length_map], foldB_nodup kvs [] List.nodup_nil, by rw [upd_same, List.zip_map']⟩ (rpl_bools _) (topL_bools _)
        refine h _ _ _ ?_ (p1.trans g1) g2
        show _ ++ [some (Tr.nd _ (List.map Tr.v (List.map _ _)))] = _
        rw [List.map_map]
        rfl
    · exact h.elim
  · exact h.elim) ?_
  walk_at "hu"
end
end Dl
namespace Dl
open PySem PySem.Spec PyProof.Rows L2
end Dl
namespace Dl
open PySem PySem.Spec PyProof.Rows L2
section
variable {X : Cx}
theorem pmk_none {C : Addr} {bmB : List Value} {B newId initId : String} {x : Str} {p pos : Pos} (F : ExcBaseFacts B newId initId bmB) (q : PySem.W.excIn X.K C bmB newId = true) (gC : X.mg x = some (.ref C)) (kC : PySem.W.keepIn X.K (.ref C) = true) (r : Raises X (.ref C)) (hg : Gl X x)
    (hdb : (x == ("__debug__" : Str)) = false := by decide) : PMk X (.Call (.Name x p) [] [] pos) (fun σ H Q => Q (.ref C) none H) := by
  refine Hush.hu (fun pins s σ H Q I h => by
  refine wpAny_Call_Name_kw (ld_glob I hg gC (PySem.W.callWith_K0 I.kIn kC ?_) hdb)
  obtain ⟨hp, g, dr, tk, os⟩ := s
  have hx := exc_obj I.kIn q
  obtain ⟨bm, N, nm, qn, bs, hdct, sn, sub, ab, col, dd, k0, k1, k2, k3, k5, mN, hC, hN, hni, T⟩ := hx
  exact wpAny_call_exc_subT F T hC hN hni (fun h' e hm => mk_of I hm r h (I.hok.gone hm.new)) (Nat.zero_le _)) ?_
  walk_at "hu"
end
section
variable {cb : Bool} {ι : Type} {P : Program} {w : World} {K : PySem.W.Frag} {mg : Str → Option Value} {base : Heap} {k : Nat} {N : List Str} {F : ι → Cx} {I : SI} {W : WX} {pos : Pos}
structure Xc (K : PySem.W.Frag) (mg : Str → Option Value) (x : Str) : Prop where
  ex : ∃ C : Addr, mg x = some (.ref C) ∧ PySem.W.keepIn K (.ref C) = true ∧ PySem.W.excIn K C [.type "ValueError", .type "Exception", .type "BaseException", .type "object"] "ValueError.__new__" = true ∧
    PySem.W.subIn K (.ref C) (.type "BaseException") = some true ∧ PySem.W.typeIn K (.ref C) = some (.type "type")
def sRaise (x : Str) : Sm Out := fun _ t => .ex ⟨x, none⟩ t
theorem ds_raise {x : Str} {p p2 : Pos} (Wf : Fm P w K mg base k N F) (tk : ∀ i, Takes (F i) W) (im : I.mg = mg) (T : Xc K mg x) (hg : ∀ i, Gl (F i) x := by exact fun _ => rfl) (hdb : (x == ("__debug__" : Str)) = false := by decide) :
    DS I K W F (.Raise (some (.Call (.Name x p) [] [] p2)) none pos) (sRaise x) := by
  refine Hush.hu (fun i => by
  obtain ⟨C, h1, h2, h3, h4, h5⟩ := T.ex
  refine (ps_raise (Wf.calm i) (tk i) (pmk_none PySem.F.excBase_ValueError (by rw [Wf.K i]; exact h3) (by rw [Wf.mg i]; exact h1) (by rw [Wf.K i]; exact h2) (raises_own (by rw [Wf.K i]; exact h4) (by rw [Wf.K i]; exact h5)) (hg i) hdb)).imp fun Dn σ H ⟨env, s, ok, re, h⟩ => ?_
  exact h σ (.ref C) none s H rfl (Po.refl ok) ⟨C, by rw [im]; exact h1, rfl, rfl⟩) ?_
  walk_at "hu"
def sRaise1 (x n : Str) (g : Sm D) : Sm Out := fun env t => (g env t).bind fun d t => match d with
  | .d y => .ex ⟨x, some (n, y)⟩ t
  | _ => .no
end
end Dl
namespace Dl
open PySem PySem.Spec PyProof.Rows L2
def SI.wx (I : SI) (X : Hp → Str → Option (Str × PyData) → V → Prop) (xs : ∀ {H H' : Hp} {c : Str} {y : Option (Str × PyData)} {v : V}, Same H H' → X H c y v → X H' c y v) : SI := { I with X := X, xs := xs }
structure VLx (A B : Vw) : Prop where
  h : Same A.h B.h
  w : ∀ n p x, A.w n p = some x → B.w n p = some x
  c : ∀ k v, A.c k v → B.c k v
mutual
theorem rp_x {A B : Vw} {K : PySem.W.Frag} (e : VLx A B) : ∀ {d : D} {v : V}, top d = 0 → Rp K A d v → Rp K B d v
  | .d x, _, _, h => dp_same e.h h
  | .o w, _, _, h => h
  | .kt x, _, _, h => h
  | .ob u, _, _, ⟨a, h1, h2⟩ => ⟨a, h1, e.h _ _ h2⟩
  | .r n p, _, ht, _ => by unfold top at ht; cases ht
  | .tp ds, _, ht, ⟨a, xs, h1, h2, h3⟩ => ⟨a, xs, h1, e.h _ _ h2, rpa_x e (by unfold top at ht; exact ht) h3⟩
  | .ls ds, _, ht, ⟨a, xs, h1, h2, h3⟩ => ⟨a, xs, h1, e.h _ _ h2, rpa_x e (by unfold top at ht; exact ht) h3⟩
  | .cl k, _, _, h => e.c _ _ h
  | .xn _ _, _, ht, _ => by unfold top at ht; cases ht
  | .sc ns, _, _, ⟨a, h1, h2, h3⟩ => ⟨a, h1, sql_same e.h h2, h3⟩
  | .un, _, _, h => h
theorem rpa_x {A B : Vw} {K : PySem.W.Frag} (e : VLx A B) : ∀ {ds : List D} {vs : List V}, topL ds = 0 → RpA K A ds vs → RpA K B ds vs
  | [], _, _, h => h
  | _ :: _, _, ht, ⟨v, us, h1, h2, h3⟩ => ⟨v, us, h1, rp_x e (by unfold topL at ht; omega) h2, rpa_x e (by unfold topL at ht; omega) h3⟩
end
theorem chs_x {A B : Vw} {K : PySem.W.Frag} (e : VLx A B) {n : Nat} {p : Pth} : ∀ {j : Nat} {ts : List Tr} {vs : List V}, Chs K A n p j ts vs → Chs K B n p j ts vs
  | _, _, _, .nil => .nil
  | _, .v d :: _, _, .cons h t => .cons ⟨rp_x e h.2 h.1, h.2⟩ (chs_x e t)
  | _, .nd _ _ :: _, _, .cons ⟨a, h1, h2⟩ t => .cons ⟨a, e.w _ _ _ h1, h2⟩ (chs_x e t)
section
variable {I : SI} {K : PySem.W.Frag} {s s' : St1} {H H' : Hp} {X : Hp → Str → Option (Str × PyData) → V → Prop} {xs : ∀ {H H' : Hp} {c : Str} {y : Option (Str × PyData)} {v : V}, Same H H' → X H c y v → X H' c y v}
theorem hr_x : VLx (Hr I s H) (Hr (I.wx X xs) s H) := by
  refine Hush.hu (⟨fun _ _ h => h, fun _ _ _ h => h, fun _ _ h => h⟩) ?_
  walk_at "hu"
theorem ok_x (h : I.ok K s H) : (I.wx X xs).ok K s H := by
  refine Hush.hu (⟨fun n p k ts q => by
  obtain ⟨a, dx, vs, h1, h2, h3, h4, h5⟩ := h.nod n p k ts q
  exact ⟨a, dx, vs, h1, h2, h3, chs_x hr_x h4, h5⟩, h.inj, h.dom, h.z, h.tab, h.fl⟩) ?_
  walk_at "hu"
theorem ok_x' (h : (I.wx X xs).ok K s H) : I.ok K s H := by
  refine Hush.hu (ok_x (I := I.wx X xs) (X := I.X) (xs := I.xs) h) ?_
  walk_at "hu"
theorem po_x' (p : Po (I.wx X xs) K s H s' H') : Po I K s H s' H' := by
  refine Hush.hu (⟨p.keep, ok_x' p.ok, p.gro, p.live, p.wle, p.ze⟩) ?_
  walk_at "hu"
end
def XnOf (mg : Str → Option Value) (K : PySem.W.Frag) (a : Addr) (cls : Value) (d : Option Addr) : Hp → Str → Option (Str × PyData) → V → Prop := fun H c y v => v = .ref a ∧ ∃ C, mg c = some (.ref C) ∧ cls = .ref C ∧ match y with
  | none => d = none
  | some (f, y) => ∃ dd u, d = some dd ∧ H dd = some (.xd [(f, u)]) ∧ Dq K H u y
theorem xnOf_same {mg : Str → Option Value} {K : PySem.W.Frag} {a : Addr} {cls : Value} {d : Option Addr} {H H' : Hp} {c : Str} {y : Option (Str × PyData)} {v : V} (e : Same H H') (h : XnOf mg K a cls d H c y v) : XnOf mg K a cls d H' c y v := by
  refine @Hush.hu _ (by
  obtain ⟨h0, C, h1, h2, h3⟩ := h
  refine ⟨h0, C, h1, h2, ?_⟩
  match y, h3 with
  | none, h3 => exact h3
  | some (f, y), ⟨dd, u, h4, h5, h6⟩ => exact ⟨dd, u, h4, e _ _ h5, dp_same e h6⟩) ?_
  walk_at "hu"
abbrev SI.xn (I : SI) (K : PySem.W.Frag) (a : Addr) (cls : Value) (d : Option Addr) : SI := I.wx (XnOf I.mg K a cls d) xnOf_same
theorem ok_xn {I : SI} {K : PySem.W.Frag} {s : St1} {H : Hp} {a : Addr} {cls : Value} {d : Option Addr} (h : I.ok K s H) : (I.xn K a cls d).ok K s H := by
  refine @Hush.hu _ (by
  exact @ok_x I K s H (XnOf I.mg K a cls d) (@xnOf_same I.mg K a cls d) h) ?_
  walk_at "hu"
theorem po_xn {I : SI} {K : PySem.W.Frag} {s s' : St1} {H H' : Hp} {a : Addr} {cls : Value} {d : Option Addr} (h : Po (I.xn K a cls d) K s H s' H') : Po I K s H s' H' := by
  refine Hush.hu (@po_x' I K s s' H H' (XnOf I.mg K a cls d) (@xnOf_same I.mg K a cls d) h) ?_
  walk_at "hu"
def xenv (L i : Nat) (x : Exn) : Env := (List.replicate L none).set i (some (.xn x.c x.x))
def rtD : R Out → R Out
  | .ok (.rt (.d y)) t => .ok (.rt (.d y)) t
  | _ => .no
def sTry (L : Nat) (ex : Str → Option Bool) (i : Nat) (gb gs : Sm Out) : Sm Out := fun env t => match gb env t with
  | .no => .no
  | .ok o t => .ok o t
  | .ex x t => match ex x.c with
    | some true => rtD (gs (xenv L i x) t)
    | some false => .ex x t
    | none => .no
structure ExT (K : PySem.W.Frag) (mg : Str → Option Value) (x : Str) (ex : Str → Option Bool) : Prop where
  at_ : ∃ D : Addr, mg x = some (.ref D) ∧ ∀ c b, ex c = some b → ∀ C, mg c = some (.ref C) → PySem.W.exmOne K (.ref C) (.ref D) = some b
def WL (L : Nat) (W : WX) : WX := fun cls d σ H => σ.length = L → W cls d σ H
theorem takes_len {X : Cx} {W : WX} (tk : Takes X W) : Takes X (WL X.N.length W) := by
  refine Hush.hu (fun u s' ⟨a, B, sI, pins, σ, H, cls, d, e, I, nb, up, sky, na, os, ag, w⟩ =>
  tk u s' ⟨a, B, sI, pins, σ, H, cls, d, e, I, nb, up, sky, na, os, ag, w I.len⟩) ?_
  walk_at "hu"
section
variable {cb : Bool} {ι : Type} {P : Program} {w : World} {K : PySem.W.Frag} {mg : Str → Option Value} {base : Heap} {k : Nat} {N : List Str} {F : ι → Cx} {I : SI} {W : WX} {pos : Pos}
theorem ds_try {x n : Str} {i : Nat} {body : List Stmt} {b0 : Stmt} {suite : List Stmt} {np pos' : Pos} {ex : Str → Option Bool} {gb gs : Sm Out} (Wf : Fm P w K mg base k N F) (tk : ∀ j, Takes (F j) W) (im : I.mg = mg) (T : ExT K mg x ex)
    (hb : ∀ (j : ι) (W' : WX) (pn : List (Addr × Obj)) (xe : Value → Shared → Prop), Takes ((F j).tr pn xe) W' → PassesOwn (model (F j).prog (F j).w) (F j).A (F j).env xe → Fm P w K mg base k N (fun _ : Unit => (F j).tr pn xe) → DSs I K W' (fun _ : Unit => (F j).tr pn xe) body gb)
    (hsu : ∀ (j : ι) (a : Addr) (oe : Obj) (cls : Value) (d : Option Addr) (pn : List (Addr × Obj)), Zc cls d oe → (∃ vs, oe.data = .fields vs) → FmC false P w K mg base k N (fun _ : Unit => (F j).suite a ((a, oe) :: pn)) → DSs (I.xn K a cls d) K WF (fun _ : Unit => (F j).suite a ((a, oe) :: pn)) (b0 :: suite) gs)
    (hN : ∀ j, (F j).N[i]? = some n := by exact fun _ => rfl) (hln : ∀ j, (F j).env.kindOf n = some .local := by exact fun _ => rfl) (hg : ∀ j, Gl (F j) x := by exact fun _ => rfl) (hdb : (x == ("__debug__" : Str)) = false := by decide)
    (hs : ∀ j, (F j).stack = (F j).env :: (F j).outer := by exact fun _ => rfl) (hf : ∀ j, (F j).env.frame = some (F j).env.locals := by exact fun _ => rfl) :
    DS I K W F (.Try body [.ExceptHandler (some (.Name x np)) (some n) (b0 :: suite) pos'] [] [] pos) (sTry N.length ex i gb gs) := by
  refine Hush.hu (fun j => by
  obtain ⟨Dc, h1, h2⟩ := T.at_
  have wt : ∀ pn xe, Fm P w K mg base k N (fun _ : Unit => (F j).tr pn xe) := fun pn xe => ⟨fun _ => Wf.prog j, fun _ => Wf.w j, fun _ => Wf.K j, fun _ => Wf.mg j, fun _ => Wf.base j, fun _ _ => Wf.calm j, fun _ _ => Wf.room j, fun _ => Wf.un j, Wf.nd, fun _ => Wf.N j⟩
  have ws : ∀ a oe pn, FmC false P w K mg base k N (fun _ : Unit => (F j).suite a ((a, oe) :: pn)) := fun a oe pn => ⟨fun _ => Wf.prog j, fun _ => Wf.w j, fun _ => Wf.K j, fun _ => Wf.mg j, fun _ => Wf.base j, fun z => (by cases z), fun z => (by cases z), fun _ => Wf.un j, Wf.nd, fun _ => Wf.N j⟩
  refine (ps_try_as (hs j) (hf j) (by rw [Wf.N j]; exact Wf.nd) (hN j) (hln j) (c := .ref Dc) ⟨hg j, hdb, .inl (by rw [Wf.mg j]; exact h1)⟩ (tk j) (tb := fun W' => tGS I K (WL N.length W') gb) (ts := fun a cls d => tGS (I.xn K a cls d) K WF gs)
    (fun W' pn xe tk' pa => hb j _ pn xe (by have := takes_len tk'; rw [show ((F j).tr pn xe).N = N from Wf.N j] at this; exact this) pa (wt pn xe) ())
    (fun a oe cls d pn hz hd => hsu j a oe cls d pn hz hd (ws a oe pn) ())).imp fun Dn σ H ⟨env, s, ok, re, h⟩ => ⟨env, s, ok, re, ?_⟩
  unfold sTry at h
  cases q : gb env s.t with
  | no => rw [q] at h; exact h.elim
  | ok o t => rw [q] at h; exact h
  | ex x t =>
    rw [q] at h
    dsimp only at h
    intro σ' cls dd s' H' et p ax hlen
    subst et
    obtain ⟨C, c1, c2, c3⟩ := ax
    subst c2
    rw [Wf.K j]
    cases qe : ex x.c with
    | none => rw [qe] at h; exact h.elim
    | some b =>
      rw [qe] at h
      refine ⟨b, h2 _ _ qe _ (by rw [← im]; exact c1), fun hb1 a ha => ?_, fun hb0 => ?_⟩
      · subst hb1
        dsimp only at h
        refine ⟨xenv N.length i x, s', ok_xn p.ok, ⟨by unfold xenv; rw [List.length_set, List.length_set, List.length_replicate]; exact hlen.symm, fun m d hd => ?_⟩, ?_⟩
        · unfold xenv at hd
          by_cases c : m = i
          · subst c
            have hl := (List.getElem?_eq_some_iff.mp hd).1
            rw [List.length_set, List.length_replicate] at hl
            rw [List.getElem?_set_self (by rw [List.length_replicate]; exact hl)] at hd
            cases hd
            refine ⟨.ref a, List.getElem?_set_self (by rw [hlen]; exact hl), rfl, C, c1, rfl, ?_⟩
            cases qx : x.x with
            | none => rw [qx] at c3; exact c3
            | some fy =>
              obtain ⟨f, y⟩ := fy
              rw [qx] at c3
              exact c3
          · rw [List.getElem?_set_ne (fun z => c z.symm), List.getElem?_replicate] at hd
            split at hd <;> cases hd
        · have h : (rtD (gs (xenv N.length i x) s'.t)).Post _ _ := h
          cases qs : gs (xenv N.length i x) s'.t with
          | no => rw [qs] at h; exact h.elim
          | ex y t => rw [qs] at h; exact h.elim
          | ok o t =>
            rw [qs] at h
            match o, h with
            | .rt (.d y), h => exact fun v s'' H'' e p2 r => h v s'' H'' e (p.trans (po_xn p2)) (rp_x (A := Hr (I.xn K a (.ref C) dd) s'' H'') (B := Hr I s'' H'') ⟨fun _ _ z => z, fun _ _ _ z => z, fun _ _ z => z⟩ rfl r)
      · subst hb0
        dsimp only at h
        exact h σ' (.ref C) dd s' H' rfl p ⟨C, c1, rfl, c3⟩) ?_
  walk_at "hu"
end
end Dl
namespace Dl
open PySem PySem.Spec PyProof.Rows L2
def XdAt (H : Hp) : Option Addr → Prop
  | none => True
  | some dd => ∃ fs, H dd = some (.xd fs)
def rIsX (K : PySem.W.Frag) (a : Addr) (cls : Value) (d : Option Addr) : List V → Hp → VK → Prop := fun xs H Q => ∃ (D E : Addr) (b : Bool), xs = [.ref a, .ref E] ∧ cls = .ref D ∧ XdAt H d ∧ ExcC K D ∧ PySem.W.kitOne K (.ref D) (.ref E) = some b ∧ Q (.bl b) H
theorem cls_of {K : PySem.W.Frag} {D : Addr} (h : PySem.W.hasDictIn K D = true) : (PySem.W.clsIn K D).isSome = true := by
  refine @Hush.hu _ (by
  obtain ⟨cd, hc, _⟩ := PySem.W.any_some h
  rw [hc]
  rfl) ?_
  walk_at "hu"
theorem inst_of {X : Cx} {a D : Addr} {oe : Obj} {d : Option Addr} {pn pins : List (Addr × Obj)} {σ : L2.St} {H : Hp} {s : Shared} (I : Inv (X.suite a ((a, oe) :: pn)) pins σ H s) (hz : Zc (.ref D) d oe) (hf : ∃ vs, oe.data = .fields vs) (hd : XdAt H d) : ∃ od, PySem.W.InstAt s.heap a oe D od := by
  refine @Hush.hu _ (by
  obtain ⟨hget, _⟩ := I.pin (a, oe) (List.mem_append.mpr (.inl List.mem_cons_self))
  obtain ⟨vs, hv⟩ := hf
  obtain ⟨oc, od, oda, osl⟩ := oe
  obtain ⟨h1, h2⟩ := hz
  dsimp only at h1 h2 hv
  subst h1 h2 hv
  cases od with
  | none => exact ⟨none, hget, rfl, rfl, trivial⟩
  | some dd =>
    obtain ⟨fs, ea⟩ := hd
    have hx : ObjOk X.prog X.w H s.heap dd (.xd fs) := I.hok dd _ ea
    obtain ⟨mA, hns, hr⟩ := hx
    obtain ⟨od, ho, hl⟩ := lookIn_ns hns
    exact ⟨some od, hget, rfl, rfl, ho⟩) ?_
  walk_at "hu"
theorem call_isX {X : Cx} {a : Addr} {oe : Obj} {cls : Value} {d : Option Addr} {pn : List (Addr × Obj)} (hz : Zc cls d oe) (hf : ∃ vs, oe.data = .fields vs) : CallR (X.suite a ((a, oe) :: pn)) (.builtin "isinstance") (rIsX X.K a cls d) := by
  refine @Hush.hu _ (by
  intro pins s σ H xs us Q I r h
  obtain ⟨D, E, b, rfl, rfl, hd, C, e, q⟩ := h
  obtain ⟨od, J⟩ := inst_of I hz hf hd
  cases r with
  | cons rx rr =>
    cases rr with
    | cons rt rr =>
      cases rr
      cases rx
      cases rt
      exact PySem.W.kia_one (PySem.W.kitx_exc (ox := oe) (od := od) (cls_of C.hd) C.hg C.hk C.hs C.ha C.hn C.ht C.hm) I.kIn J e (fun z => nomatch z) fun tk => ⟨.bl b, H, I.kept (t' := tk) fun _ _ z => z, rfl, q⟩) ?_
  walk_at "hu"
structure IsT (K : PySem.W.Frag) (mg : Str → Option Value) (x : Str) (ex : Str → Option Bool) : Prop where
  at_ : ∃ D : Addr, mg x = some (.ref D) ∧ ∀ c b, ex c = some b → ∀ C, mg c = some (.ref C) → ExcC K C ∧ PySem.W.kitOne K (.ref C) (.ref D) = some b
def isX (ex : Str → Option Bool) : D → Option D
  | .xn c _ => (ex c).map fun b => .d (.bool b)
  | _ => none
def fldX (n : Str) (cs : List Str) : D → Option D
  | .xn c (some (f, y)) => if f = n ∧ c ∈ cs then some (.d y) else none
  | _ => none
def sIsX (ex : Str → Option Bool) (g : Sm D) : Sm D := fun env t => (g env t).bind fun x t => ofO (isX ex x) t
def sXf (n : Str) (cs : List Str) (g : Sm D) : Sm D := fun env t => (g env t).bind fun x t => ofO (fldX n cs x) t
theorem xnof_d {mg : Str → Option Value} {K : PySem.W.Frag} {a : Addr} {cls : Value} {d : Option Addr} {I : SI} {s : St1} {H : Hp} {c : Str} {y : Option (Str × PyData)} {v : V} (h : (Hr (I.xn K a cls d) s H).x c y v) : v = .ref a ∧ ∃ C, I.mg c = some (.ref C) ∧ cls = .ref C ∧ XdAt H d := by
  refine @Hush.hu _ (by
  obtain ⟨h0, C, h1, h2, h3⟩ := h
  refine ⟨h0, C, h1, h2, ?_⟩
  match y, h3 with
  | none, h3 => rw [show d = none from h3]; exact trivial
  | some (f, y), ⟨dd, u, h4, h5, h6⟩ =>
    subst h4
    exact ⟨_, hr_sub (I := I.xn K a cls (some dd)) _ _ h5⟩) ?_
  walk_at "hu"
section
variable {cb : Bool} {P : Program} {w : World} {K : PySem.W.Frag} {mg : Str → Option Value} {base : Heap} {k : Nat} {N : List Str} {X : Cx} {I : SI} {W : WX} {pos : Pos} {a : Addr} {oe : Obj} {cls : Value} {d : Option Addr} {pn : List (Addr × Obj)}
theorem de_isx {x : Str} {e : Expr} {p p1 : Pos} {ex : Str → Option Bool} {g : Sm D} (Wf : FmC cb P w K mg base k N (fun _ : Unit => X.suite a ((a, oe) :: pn))) (im : I.mg = mg) (hz : Zc cls d oe) (hf : ∃ vs, oe.data = .fields vs) (T : IsT K mg x ex) (h : DE (I.xn K a cls d) K W (fun _ : Unit => X.suite a ((a, oe) :: pn)) e g)
    (hm : mg "isinstance" = none) (hv : bootBuiltins "isinstance" = some (.builtin "isinstance")) (hg : Gl X "isinstance" := by exact rfl) (hgx : Gl X x := by exact rfl) (hdx : (x == ("__debug__" : Str)) = false := by decide)
    (he : starEach [e, .Name x p1] X.env = (false, eval e X.env) :: starEach [.Name x p1] X.env := by exact rfl) (hpl : (backTo pos (starEach [.Name x p1] X.env)).any (·.1) = false := by exact rfl) :
    DE (I.xn K a cls d) K W (fun _ : Unit => X.suite a ((a, oe) :: pn)) (.Call (.Name "isinstance" p) [e, .Name x p1] [] pos) (sIsX ex g) := by
  refine Hush.hu (fun i => by
  obtain ⟨D, h1, h2⟩ := T.at_
  have hK : X.K = K := Wf.K ()
  have hm' : X.mg = mg := Wf.mg ()
  refine (pe_callB (X := X.suite a ((a, oe) :: pn)) (call_isX hz hf) hg (by show X.mg _ = none; rw [hm']; exact hm) hv (pa_cons (h ()) (pa_cons (pe_glob (v := .ref D) hgx (by show X.mg x = _; rw [hm']; exact h1) rfl hdx) pa_nil rfl) he) (by decide) (by decide) he hpl).imp fun σ H Q ⟨env, s, ok, re, h⟩ => ?_
  refine ⟨env, s, ok, re, (R.post_bind h).mono (fun x t h v s1 H1 e1 p1 r1 => ?_) fun x t hx => hx⟩
  obtain ⟨z, ez, h⟩ := post_ofO h
  subst e1
  unfold isX at ez
  split at ez
  · rename_i c y
    cases qb : ex c with
    | none => rw [qb] at ez; cases ez
    | some b =>
      rw [qb] at ez
      cases ez
      obtain ⟨rfl, C, c1, c2, c3⟩ := xnof_d (mg := mg) r1
      obtain ⟨d1, d2⟩ := h2 c b qb C (by rw [← im]; exact c1)
      rw [hK]
      exact ⟨C, D, b, rfl, c2, c3, d1, d2, h (.bl b) s1 H1 rfl p1 (.bl b)⟩
  · cases ez) ?_
  walk_at "hu"
end
end Dl
namespace Dl
open PySem PySem.Spec PyProof.Rows L2 LamX
def LamO (f : Addr) (o : Obj) : HO := .ext fun h => h.get? f = some o
theorem lamO_at {P : Program} {w : World} {H : Hp} {h : Heap} {f : Addr} {o : Obj} (ok : HOk P w H h) (e : H f = some (LamO f o)) : h.get? f = some o := by
  refine Hush.hu ((ok f _ e).1) ?_
  walk_at "hu"
section
variable {X : Cx} {pins : List (Addr × Obj)} {σ : L2.St} {H : Hp} {s : Shared}
theorem inv_lam {h' : Heap} {t' : Nat} {o : Obj} (I : Inv X pins σ H s) (k : ∀ b u, s.heap.get? b = some u → h'.get? b = some u) (hz : s.heap.objs.size ≤ h'.objs.size) (hfr : o.isFreed = false := by rfl) : Inv X pins σ (upd H h'.objs.size (LamO h'.objs.size o)) { s with heap := h'.push o, toks := t' } := by
  refine Hush.hu (I.laid (t' := t') (fun b u e => Heap.get?_push_of_some _ (k b u e)) hz ⟨Heap.get?_push_size _ hfr, ⟨o, Heap.get?_push_size _ hfr⟩, fun h1 h2 a st => st _ a⟩) ?_
  walk_at "hu"
def ExtP (P : Addr) (H H' : Hp) : Prop := (∀ b o, b ≠ P → H b = some o → H' b = some o) ∧ ∀ b o, H b = some o → ∃ o', H' b = some o'
theorem lam_mk0 {c P : Addr} {params : Arguments} {body : Expr} {scope : Scope} {pos : Pos} {line : Nat} {dV : Value} {A : Around} {E : Value → Shared → Prop} {Q : Value → Shared → Prop} (I : Inv X pins σ H s) (TB : TabB X.base X.mg c P) (hcode : X.env.code = .ref c)
    (hT : Tabs [(P, X.env.qual ++ "<lambda>")] H) (hfree : ∀ y ∈ scope.names, y.2 = .free → ∃ c, X.env.cells.lookup y.1 = some c)
    (h : ∀ (f c' : Addr) (doc pm ctv : Value) (H1 : Hp) (s' : Shared), Inv X pins σ H1 s' → ExtP P H H1 → Tabs [(P, X.env.qual ++ "<lambda>")] H1 →
      H1 f = some (LamO f (PySem.W.kdv_obj "<lambda>" (X.env.qual ++ "<lambda>") params (.expr body) scope (cloFrom X.env.cells scope.names []) dV doc pm c' ctv)) → H1 c' = some (CodeO c' (X.env.qual ++ "<lambda>")) → Q (.ref f) s') :
    wpAny (model X.prog X.w) A (makeTail "<lambda>" (X.env.qual ++ "<lambda>") params (.expr body) scope X.env dV .none none pos line) Q E s := by
  refine @Hush.hu _ (by
  obtain ⟨ps, hP, ht, ha⟩ := hT _ (List.mem_singleton.mpr rfl)
  have bP := TB.bm.keeps I.bk
  have oP : s.heap.get? P = some { cls := .none, data := .fields ps } := I.hok P _ hP
  cases hc : codeAmong pos ps.toList with
  | none =>
    refine PySem.W.kdv_makeTail (mg := X.mg) (c := c) (P := P) (ps := ps) (closure_ok hfree) I.ok.glob (I.mod.glob.keeps I.bk) hcode (TB.code.keeps I.bk) oP ht hc TB.gP bP fun c' ctv doc h' tk hx hge hlt hrec htb => ?_
    obtain ⟨c2, oc, vs, t, e2, hoc, hd, hv⟩ := hrec
    cases e2
    have nC : H c' = none := I.hok.fresh hge
    have nP : P ≠ c' := ne_of_none hP nC
    have I1 := inv_table (t' := tk) (more := #[rawInt pos.line, rawInt pos.col, .ref c']) (h' := h') I hP (fun b o hb e => hx b o hb e) htb hge ⟨oc, vs, t, hoc, hd, hv⟩
    have I2 := inv_lam (t' := tk) (h' := h') (o := PySem.W.kdv_obj "<lambda>" (X.env.qual ++ "<lambda>") params (.expr body) scope (cloFrom X.env.cells scope.names []) dV doc ((X.mg "__name__").getD .none) c' ctv) I1 (fun _ _ e => e) (Nat.le_refl _)
    have sz : s.heap.objs.size ≤ h'.objs.size := Nat.le_trans hge (Nat.le_of_lt hlt)
    have nF : H h'.objs.size = none := I.hok.fresh sz
    have nFc : h'.objs.size ≠ c' := Nat.ne_of_gt hlt
    have x1 : ∀ b o, b ≠ P → H b = some o → upd (upd (upd H P (.tbl (ps ++ #[rawInt pos.line, rawInt pos.col, .ref c']))) c' (CodeO c' (X.env.qual ++ "<lambda>"))) h'.objs.size (LamO h'.objs.size (PySem.W.kdv_obj "<lambda>" (X.env.qual ++ "<lambda>") params (.expr body) scope (cloFrom X.env.cells scope.names []) dV doc ((X.mg "__name__").getD .none) c' ctv)) b = some o := fun b o n e => by
      rw [upd_ne (ne_of_none e nF), upd_ne (ne_of_none e nC), upd_ne n]
      exact e
    refine h _ c' doc _ ctv _ _ I2 ⟨x1, fun b o e => ?_⟩ (fun p hp => ?_) upd_same (by rw [upd_ne (Ne.symm nFc), upd_same])
    · by_cases hb : b = P
      · rw [hb]
        exact ⟨_, by rw [upd_ne (ne_of_none hP nF), upd_ne nP, upd_same]⟩
      · exact ⟨o, x1 b o hb e⟩
    · rw [List.mem_singleton] at hp
      subst hp
      have eL : (ps ++ #[rawInt pos.line, rawInt pos.col, .ref c']).toList = ps.toList ++ [rawInt pos.line, rawInt pos.col, .ref c'] := by simp
      refine ⟨_, by rw [upd_ne (ne_of_none hP nF), upd_ne nP, upd_same], by rw [eL]; exact PySem.TriplesOk_snoc _ _ _ _ ht, fun p' cv hcv => ?_⟩
      rw [eL] at hcv
      rcases among_app _ ht hcv with z | z
      · obtain ⟨c0, z1, z2⟩ := ha p' cv z
        exact ⟨c0, z1, x1 _ _ (fun y => by rw [y, hP] at z2; exact codeO_ne _ (Option.some.inj z2).symm) z2⟩
      · exact ⟨c', z, by rw [upd_ne (Ne.symm nFc), upd_same]⟩
  | some cv =>
    obtain ⟨c', e, hco⟩ := ha pos cv hc
    subst e
    refine PySem.W.kdv_makeTailHit (mg := X.mg) (c := c) (P := P) (ps := ps) (closure_ok hfree) I.ok.glob (I.mod.glob.keeps I.bk) hcode (TB.code.keeps I.bk) oP ht hc bP fun ctv doc h' tk hx hsz => ?_
    have nF : H h'.objs.size = none := I.hok.fresh hsz
    have I2 := inv_lam (t' := tk) (h' := h') (o := PySem.W.kdv_obj "<lambda>" (X.env.qual ++ "<lambda>") params (.expr body) scope (cloFrom X.env.cells scope.names []) dV doc ((X.mg "__name__").getD .none) c' ctv) I hx hsz
    have x1 : ∀ b o, H b = some o → upd H h'.objs.size (LamO h'.objs.size (PySem.W.kdv_obj "<lambda>" (X.env.qual ++ "<lambda>") params (.expr body) scope (cloFrom X.env.cells scope.names []) dV doc ((X.mg "__name__").getD .none) c' ctv)) b = some o := fun b o e => by
      rw [upd_ne (ne_of_none e nF)]
      exact e
    exact h _ c' doc _ ctv _ _ I2 ⟨fun b o _ e => x1 b o e, fun b o e => ⟨o, x1 b o e⟩⟩ (hT.ext x1) upd_same (x1 _ _ hco)) ?_
  walk_at "hu"
def DfAt (H : Hp) (dV : Value) : List Expr → Prop
  | [.Constant (.int i) _ _] => ∃ td, dV = .ref td ∧ H td = some (.tup [.int i])
  | _ => dV = .none
theorem dfAt_same {H H' : Hp} {dV : Value} : ∀ {es : List Expr}, (∀ b xs, H b = some (.tup xs) → H' b = some (.tup xs)) → DfAt H dV es → DfAt H' dV es := by
  refine @Hush.hu _ (by
  intro es e h
  unfold DfAt at h ⊢
  split at h
  · obtain ⟨td, h1, h2⟩ := h
    exact ⟨td, h1, e _ _ h2⟩
  · exact h) ?_
  walk_at "hu"
theorem lam_mk {c P : Addr} {params : Arguments} {body : Expr} {scope : Scope} {pos : Pos} {E : Value → Shared → Prop} {Q : Value → Shared → Prop} (I : Inv X pins σ H s) (TB : TabB X.base X.mg c P) (hcode : X.env.code = .ref c)
    (hT : Tabs [(P, X.env.qual ++ "<lambda>")] H) (hfree : ∀ y ∈ scope.names, y.2 = .free → ∃ c, X.env.cells.lookup y.1 = some c)
    (hk0 : params.kw_defaults = []) (hd : params.defaults = [] ∨ ∃ i j p, params.defaults = [.Constant (.int i) j p])
    (h : ∀ (f c' : Addr) (dV doc pm ctv : Value) (H1 : Hp) (s' : Shared), Inv X pins σ H1 s' → ExtP P H H1 → Tabs [(P, X.env.qual ++ "<lambda>")] H1 →
      H1 f = some (LamO f (PySem.W.kdv_obj "<lambda>" (X.env.qual ++ "<lambda>") params (.expr body) scope (cloFrom X.env.cells scope.names []) dV doc pm c' ctv)) → H1 c' = some (CodeO c' (X.env.qual ++ "<lambda>")) → DfAt H1 dV params.defaults → Q (.ref f) s') :
    wpAny (model X.prog X.w) X.A (eval (.Lambda params body scope pos) X.env) Q E s := by
  refine @Hush.hu _ (by
  rcases hd with hd | ⟨i, j, p, hd⟩
  · refine PySem.W.kla_eval (by rw [defaultsOf_eq, hk0, hd]; rfl) ?_
    rw [makeFunction_eq]
    simp only [List.zip_nil_right, List.filterMap_nil, List.isEmpty_nil, if_true, pure_bind]
    exact lam_mk0 I TB hcode hT hfree fun f c' doc pm ctv H1 s' I1 x T1 hf hc => h f c' .none doc pm ctv H1 s' I1 x T1 hf hc (by rw [hd]; rfl)
  · refine PySem.W.kdv_lam (by rw [hd]; rfl) hk0 ?_
    rw [hd]
    refine PySem.W.kdv_all1 (wpAny_Constant_int (PySem.W.kdv_all0 ?_))
    have I0 : Inv X pins σ H { s with toks := s.toks + 1 } := I.tok _
    rw [makeFunction_eq]
    simp only [List.zip_nil_right, List.filterMap_nil, List.isEmpty_nil, List.isEmpty_cons, Bool.false_eq_true, if_false, if_true, pure_bind]
    refine wpAny_bind (wpAny_newTextTuple ?_)
    have nD : H s.heap.objs.size = none := I.hok.fresh (Nat.le_refl _)
    have I1 : Inv X pins σ (upd H s.heap.objs.size (.tup [.int i])) { s with heap := s.heap.push { cls := .type "tuple", data := .seq [Value.int i s.toks].toArray }, toks := s.toks + 1 } :=
      I0.laid (t' := s.toks + 1) (fun b u e => Heap.get?_push_of_some _ e) (Nat.le_refl _) ⟨(show 1 ≤ sizeLine by decide), [.int i s.toks], .cons ⟨_, rfl⟩ .nil, IsTup.new _ _⟩
    have up : ∀ b o, H b = some o → upd H s.heap.objs.size (.tup [.int i]) b = some o := fun b o e => by rw [upd_ne (ne_of_none e nD)]; exact e
    have T1 : Tabs [(P, X.env.qual ++ "<lambda>")] (upd H s.heap.objs.size (.tup [.int i])) := hT.ext up
    obtain ⟨ps, hP, _, _⟩ := hT _ (List.mem_singleton.mpr rfl)
    refine lam_mk0 I1 TB hcode T1 hfree fun f c' doc pm ctv H1 s' I2 x T2 hf hc => h f c' _ doc pm ctv H1 s' I2 ⟨fun b o n e => x.1 b o n (up b o e), fun b o e => x.2 b o (up b o e)⟩ T2 hf hc ?_
    rw [hd]
    exact ⟨_, rfl, x.1 _ _ (fun z => by rw [← z, nD] at hP; cases hP) upd_same⟩) ?_
  walk_at "hu"
structure LamP (N : List Str) (sc scope : Scope) : Prop where
  kind : scope.kind = .function
  co : scope.isCoroutine = false
  gen : scope.isGenerator = false
  cell : ∀ y ∈ scope.names, y.2 ≠ .cell
  loc : ∀ y ∈ scope.names, y.2 = .local → y.1 ∉ N
  free : ∀ y ∈ scope.names, y.2 = .free → sc.names.lookup y.1 = some .cell ∨ sc.names.lookup y.1 = some .free
theorem LamP.has {scope : Scope} (L : LamP X.N X.env.scope scope) (ok : X.Ok) : ∀ y ∈ scope.names, y.2 = .free → ∃ c, X.env.cells.lookup y.1 = some c := by
  refine Hush.hu (fun y hy e => by
  rcases L.free y hy e with z | z
  · exact ok.has _ (.inl z)
  · exact ok.has _ (.inr z)) ?_
  walk_at "hu"
theorem lam_start {s1 : Shared} {HZ : Hp} {A : Around} {outer : List PySem.Env} {E : XK} {scope : Scope} {f c' : Addr} {g : Heap} {tk : Nat} {m : Str → Option Value} (I : Inv X pins σ H s) (L : LamP X.N X.env.scope scope) (e0 : Env0 X.prog X.w X.K X.mg X.base A outer s1 HZ) (hd : A.handled = none)
    (un : Un (frs X.stack) [] H HZ s.heap s1.heap) (hns : g.Ns s1.heap.objs.size m) (kp : ∀ b o, s1.heap.get? b = some o → g.get? b = some o) :
    Inv (lamCx X A outer s1 HZ E scope f c') [] σ HZ { s1 with heap := g, toks := tk } := by
  refine @Hush.hu _ (by
  have hfree := L.has I.ok
  have cap : ∀ {y c}, (cloFrom X.env.cells scope.names []).lookup y = some c → X.env.cells.lookup y = some c := fun {y c} e => by
    rcases cloFrom_mem (PySem.mem_of_lookup e) with z | ⟨z1, z2⟩
    · cases z
    · obtain ⟨d, hc⟩ := hfree _ z1 rfl
      have hc : X.env.cells.lookup y = some d := hc
      have : c = d := by rw [z2, hc] <;> rfl
      rw [this]
      exact hc
  have there : ∀ {y}, scope.names.lookup y = some .free → ∃ c, (cloFrom X.env.cells scope.names []).lookup y = some c := fun {y} hl =>
    mem_lookup (cloFrom_has (cells := X.env.cells) (acc := []) (show (y, NameKind.free) ∈ scope.names from PySem.mem_of_lookup hl))
  have still : ∀ {c : Addr} {v : Option Value}, H c = none → s.heap.IsCell c v → g.IsCell c v := fun {c v} n z => by
    obtain ⟨o, ho, hq⟩ := z
    obtain ⟨sl, q⟩ := un.any ho n (by simp)
    exact ⟨_, kp _ _ q, hq⟩
  have noc : ∀ {y}, scope.names.lookup y ≠ some .cell := fun {y} z => L.cell _ (PySem.mem_of_lookup z) rfl
  have nil_ : ∀ b : Addr, b ∉ (lamCx X A outer s1 HZ E scope f c').ex := fun b z => by
    have z' : b ∈ ([] : List Addr) := z
    cases z'
  have okL : (lamCx X A outer s1 HZ E scope f c').Ok := {
    mod := e0.mod
    kind := L.kind
    glob := rfl
    blt := rfl
    above := Nat.le_refl _
    inj := fun y z c a b => I.ok.inj y z c (cap a) (cap b)
    has := fun y hy => by
      have hy : scope.names.lookup y = some .cell ∨ scope.names.lookup y = some .free := hy
      rcases hy with hy | hy
      · exact absurd hy noc
      · exact there hy
    cab := fun y c z _ => by
      have z : false = true := z
      cases z
    hd := fun _ => hd
    frames := Around.frames_deeper e0.frames
    stk := .inr ⟨rfl, rfl⟩
    exf := fun b z => absurd z (nil_ b)
    bs := e0.bs
    bsz := e0.bsz
    noex := fun b _ _ => nil_ b
    exfs := fun b z => absurd z (nil_ b)
    funs := e0.funs
    frf := e0.frf }
  refine ⟨okL, rfl, e0.bare, Un.kept kp, ⟨_, hns, fun i y v a1 a2 a3 => ?_⟩, fun y c e => ?_, e0.hok.fresh (Nat.le_refl _), fun y c e => ?_, fun q hq => ?_, e0.hok.kept kp, I.len⟩
  · have a3 : Vis scope y := a3
    rcases a3 with z | z | z
    · exact absurd (List.mem_of_getElem? a1) (L.loc _ (PySem.mem_of_lookup z) rfl)
    · exact absurd z noc
    · obtain ⟨m0, hn, hl⟩ := I.loc
      have zf := L.free _ (PySem.mem_of_lookup z) rfl
      obtain ⟨u, r, q⟩ := hl i y v a1 a2 (zf.elim (fun k => .inr (.inl k)) (fun k => .inr (.inr k)))
      obtain ⟨d, hd2⟩ := there z
      refine ⟨u, r, .inr ⟨.inr z, d, hd2, ?_⟩⟩
      have d1 := cap hd2
      rcases q with ⟨k', _⟩ | ⟨_, d3, e', q⟩
      · have k' : X.env.scope.names.lookup y = some .local := k'
        rcases zf with k2 | k2 <;> rw [show X.env.scope.names.lookup y = _ from k2] at k' <;> cases k'
      · rw [d1] at e'
        cases e'
        exact still (I.freeC y _ d1) q
  · obtain ⟨v, z⟩ := I.cell y c (cap e)
    exact ⟨v, still (I.freeC y c (cap e)) z⟩
  · obtain ⟨v, o, ho, _⟩ := I.cell y c (cap e)
    exact un.free c o ho (I.freeC y c (cap e)) (by simp)
  · have hq : q ∈ ([] : List (Addr × Obj)) := hq
    cases hq) ?_
  walk_at "hu"
theorem lam_run {s1 : Shared} {HZ : Hp} {A : Around} {outer : List PySem.Env} {E : XK} {params : Arguments} {body : Expr} {scope : Scope} {f c' : Addr} {dV doc pm ctv : Value} {binds : List (Str × Value)} {k : Nat} {tb : TE} {Q : VK} (I : Inv X pins σ H s) (L : LamP X.N X.env.scope scope)
    (e0 : Env0 X.prog X.w X.K X.mg X.base A outer s1 HZ) (hr : Room (k + 1) A) (un : Un (frs X.stack) [] H HZ s.heap s1.heap)
    (ho : HZ f = some (LamO f (PySem.W.kdv_obj "<lambda>" (X.env.qual ++ "<lambda>") params (.expr body) scope (cloFrom X.env.cells scope.names []) dV doc pm c' ctv))) (hc : HZ c' = some (CodeO c' (X.env.qual ++ "<lambda>")))
    (hb : BindsTo s1 (PySem.W.kdv_fn "<lambda>" (X.env.qual ++ "<lambda>") params (.expr body) scope (cloFrom X.env.cells scope.names []) dV doc pm (.ref c') ctv) ⟨[], []⟩ binds) (hloc : ∀ y ∈ binds, scope.names.lookup y.1 = some .local)
    (hbody : Room k (A.deeper (lamEnv X scope s1.heap.objs.size f c')) → PE (lamCx X A outer s1 HZ E scope f c') body tb) (ht : tb σ HZ Q) :
    codeAny (model X.prog X.w) A (.call (.ref f) ⟨[], []⟩) (CR (L2.CX X.prog X.w) outer X.prog X.w HZ s1 Q E) s1 := by
  refine @Hush.hu _ (by
  have of1 := lamO_at e0.hok ho
  obtain ⟨⟨oc, vs, t, hoc, hdc, hvc⟩, _, _⟩ := e0.hok c' _ hc
  have lim : s1.heap.NoLimit := e0.mod.nolimit.keeps fun b o e => (e0.bs b o e).1
  refine PySem.W.kla_callFunE hr.depth of1 rfl L.co L.gen rfl ⟨c', oc, vs, t, rfl, hoc, hdc, hvc⟩ (hb _ _ _ _ ?_)
  refine wpAny_newFunctionEnv (fun y hy => L.cell y hy) hloc (fun g hns hsb => ⟨lim.fresh _ hsb, ?_⟩) L.kind
  have kp : ∀ b o, s1.heap.get? b = some o → g.get? b = some o := fun b o e => hsb.extBut b o (Nat.ne_of_lt (Heap.lt_size e)) (Heap.get?_push_of_some _ e)
  have J : Inv (lamCx X A outer s1 HZ E scope f c') [] σ HZ { s1 with heap := g, toks := s1.toks + binds.length } := lam_start I L e0 hr.hd un hns kp
  refine PySem.W.kla_codeExpr (wpAny_mono ((hbody (hr.deeper _)).run [] _ _ HZ Q J ht) (fun v s' hq => ?_) fun e s' hq => hq)
  obtain ⟨w', H', J', rv, q⟩ := hq
  exact ⟨w', H', J'.os, J'.bare, J'.base, J'.hok, rv, q⟩) ?_
  walk_at "hu"
def LamB (X : Cx) (params : Arguments) (body : Expr) (scope : Scope) : Prop := ∀ (c' : Addr) (dV doc pm ctv : Value) (s1 : Shared) (HZ : Hp), HOk X.prog X.w HZ s1.heap → DfAt HZ dV params.defaults →
  ∃ binds, BindsTo s1 (PySem.W.kdv_fn "<lambda>" (X.env.qual ++ "<lambda>") params (.expr body) scope (cloFrom X.env.cells scope.names []) dV doc pm (.ref c') ctv) ⟨[], []⟩ binds ∧ ∀ y ∈ binds, scope.names.lookup y.1 = some .local
theorem pe_lam {CXg : CXT} {Eg : XK} {Ng : List Str} {qg : Str} {sg : Scope} {g : Addr} {cdg : Value} {k i : Nat} {a : Str} {pn : List (Addr × Obj)} {xe : Value → Shared → Prop} {W : WX} {p1 p2 : Pos}
    (I : Inv X pins σ H s) (tk : Takes ((cxOf CXg X.prog X.w X.K X.mg X.base Ng qg sg g cdg X.A X.stack s H Eg).tr pn xe) W) (hr : Room (k + 1) (X.A.deeper (envOfC qg sg s.heap.objs.size g cdg)))
    (hN : Ng[i]? = some a) (hv : Vis sg a) (hd : (a == ("__debug__" : Str)) = false := by decide) (hcd : (a == ("__classdict__" : Str)) = false := by decide) :
    PE ((cxOf CXg X.prog X.w X.K X.mg X.base Ng qg sg g cdg X.A X.stack s H Eg).tr pn xe) (.Call (.Name a p1) [] [] p2)
      (fun σZ HZ Q => ∃ (params : Arguments) (body : Expr) (scope : Scope) (f c' : Addr) (dV doc pm ctv : Value) (tb : XK → TE), σZ[i]? = some (some (.ref f)) ∧ HZ f = some (LamO f (PySem.W.kdv_obj "<lambda>" (X.env.qual ++ "<lambda>") params (.expr body) scope (cloFrom X.env.cells scope.names []) dV doc pm c' ctv)) ∧
        HZ c' = some (CodeO c' (X.env.qual ++ "<lambda>")) ∧ DfAt HZ dV params.defaults ∧ LamP X.N X.env.scope scope ∧ LamB X params body scope ∧
        (∀ (E : XK) (A : Around) (outer : List PySem.Env) (s1 : Shared) (H1 : Hp), Room k (A.deeper (lamEnv X scope s1.heap.objs.size f c')) → PE (lamCx X A outer s1 H1 E scope f c') body (tb E)) ∧ tb (fun cls d H' => W cls d σZ H') σ HZ Q) := by
  refine @Hush.hu _ (by
  refine ⟨fun pinsZ sZ σZ HZ Q IZ h => ?_⟩
  obtain ⟨params, body, scope, f, c', dV, doc, pm, ctv, tb, h1, h2, h3, h4, L, hbnd, hbody, h5⟩ := h
  refine wpAny_Call_Name_kw (thn ((pe_var (pos := p1) (i := i) hN hv hd hcd).run pinsZ sZ σZ HZ (fun v H1 => v = .ref f ∧ H1 = HZ) IZ ⟨.ref f, h1, rfl, rfl⟩) fun u s1 ⟨v, H1, I1, r1, q1, q2⟩ => ?_)
  subst q1
  rw [q2] at I1
  cases r1
  obtain ⟨binds, b1, b2⟩ := hbnd c' dV doc pm ctv s1 HZ I1.hok h4
  refine PySem.W.callWith_F0 ⟨_, _, _, _, lamO_at I1.hok h2⟩ ?_
  have un : Un (frs X.stack) [] H HZ s.heap s1.heap := I1.base
  have rc := lam_run (E := fun cls d H' => W cls d σZ H') (tb := tb fun cls d H' => W cls d σZ H') (Q := Q) I L I1.env0 hr un h2 h3 b1 b2 (hbody _ _ _ s1 HZ) h5
  refine wpAny_call (codeAny_mono rc fun r s' hq => ?_)
  cases r with
  | error e => exact tk e s' (XE.of_call I1 (fun cls d H' h => h) hq)
  | ok fl =>
    cases fl with
    | ret u => exact I1.after hq
    | next => exact False.elim hq
    | brk => exact False.elim hq
    | cont => exact False.elim hq) ?_
  walk_at "hu"
theorem lamb_0 {params : Arguments} {body : Expr} {scope : Scope} (h : ∀ (q : Str) (cl : List (Str × Addr)) (doc pm cdv ctv : Value), bindArgs (PySem.W.kdv_fn "<lambda>" q params (.expr body) scope cl .none doc pm cdv ctv) ⟨[], []⟩ = pure []) (hd : params.defaults = []) : LamB X params body scope := by
  refine Hush.hu (fun c' dV doc pm ctv s1 HZ ok h4 => by
  rw [hd] at h4
  cases h4
  exact ⟨[], .of_eq (h _ _ _ _ _ _), fun y hy => nomatch hy⟩) ?_
  walk_at "hu"
theorem lamb_1 {params : Arguments} {body : Expr} {scope : Scope} {x : Str} {i : Int} {j : Nat} {p : Pos} (hd : params.defaults = [.Constant (.int i) j p])
    (h : ∀ (q : Str) (cl : List (Str × Addr)) (doc pm cdv ctv : Value) (T : Addr), ∃ k : Option (Array Value) → Sem (List (Str × Value)), bindArgs (PySem.W.kdv_fn "<lambda>" q params (.expr body) scope cl (.ref T) doc pm cdv ctv) ⟨[], []⟩ = seqItems? (.ref T) >>= k ∧ ∀ v, k (some #[v]) = pure [(x, v)]) (hx : scope.names.lookup x = some .local) : LamB X params body scope := by
  refine Hush.hu (fun c' dV doc pm ctv s1 HZ ok h4 => by
  rw [hd] at h4
  obtain ⟨td, rfl, h5⟩ := h4
  obtain ⟨_, its, rv, o, ho, _, n, hs⟩ := ok td _ h5
  obtain ⟨u, rfl, _⟩ := rv.one
  obtain ⟨k, h6, h7⟩ := h _ _ _ _ _ _ td
  exact ⟨[(x, u)], .of_defaults rfl ho hs h6 (h7 u), fun y hy => by rw [List.mem_singleton] at hy; rw [hy]; exact hx⟩) ?_
  walk_at "hu"
end
end Dl
namespace Dl
open PySem PySem.Spec PyProof.Rows L2 LamX
def LamC (q : Str) (cells : List (Str × Addr)) (lams : Nat → Option (Arguments × Expr × Scope)) (H : Hp) (k : Nat) (v : V) : Prop := ∃ (params : Arguments) (body : Expr) (scope : Scope) (f c' : Addr) (dV doc pm ctv : Value), lams k = some (params, body, scope) ∧ v = .ref f ∧
  H f = some (LamO f (PySem.W.kdv_obj "<lambda>" q params (.expr body) scope (cloFrom cells scope.names []) dV doc pm c' ctv)) ∧ H c' = some (CodeO c' q) ∧ DfAt H dV params.defaults
theorem lamC_same {q : Str} {cells : List (Str × Addr)} {lams : Nat → Option (Arguments × Expr × Scope)} {H H' : Hp} {k : Nat} {v : V} (e : Same H H') (h : LamC q cells lams H k v) : LamC q cells lams H' k v := by
  refine @Hush.hu _ (by
  obtain ⟨params, body, scope, f, c', dV, doc, pm, ctv, h0, h1, h2, h3, h4⟩ := h
  exact ⟨params, body, scope, f, c', dV, doc, pm, ctv, h0, h1, e _ _ h2, e _ _ h3, dfAt_same (fun b xs z => e _ _ z) h4⟩) ?_
  walk_at "hu"
def sLam (k : Nat) : Sm D := fun _ t => .ok (.cl k) t
section
variable {cb : Bool} {ι : Type} {P : Program} {w : World} {K : PySem.W.Frag} {mg : Str → Option Value} {base : Heap} {k : Nat} {N : List Str} {F : ι → Cx} {I : SI} {W : WX} {pos : Pos}
theorem de_lam {q : Str} {cells : List (Str × Addr)} {lams : Nat → Option (Arguments × Expr × Scope)} {c Pt : Addr} {params : Arguments} {body : Expr} {scope : Scope} (n : Nat) (Wf : FmC cb P w K mg base k N F) (hI : I.C = LamC q cells lams) (hT : I.T = [(Pt, q)]) (TB : TabB base mg c Pt)
    (hq : ∀ i, (F i).env.qual ++ "<lambda>" = q) (hc : ∀ i, (F i).env.cells = cells) (hcode : ∀ i, (F i).env.code = .ref c) (hn : lams n = some (params, body, scope)) (L : ∀ i, LamP (F i).N (F i).env.scope scope)
    (hk0 : params.kw_defaults = [] := by rfl) (hd : params.defaults = [] ∨ ∃ i j p, params.defaults = [.Constant (.int i) j p] := by first | exact .inl rfl | exact .inr ⟨_, _, _, rfl⟩) : DE I K W F (.Lambda params body scope pos) (sLam n) := by
  refine Hush.hu (fun i => by
  refine ⟨fun pins s0 σ H Q I0 h => ?_⟩
  obtain ⟨env, s, ok, re, h⟩ := h
  have TB' : TabB (F i).base (F i).mg c Pt := by rw [Wf.base i, Wf.mg i]; exact TB
  have hT0 := ok.tab
  rw [hT] at hT0
  refine lam_mk I0 TB' (hcode i) (by rw [hq i]; exact hT0) ((L i).has I0.ok) hk0 hd fun f c' dV doc pm ctv H1 s' I1 x T1 hf hc' hdf => ?_
  rw [hq i] at hf hc' T1
  rw [hc i] at hf
  have nM : ∀ b, ¬ I.M s b → b ≠ Pt := fun b m z => m (.inr (.inr ⟨(Pt, q), by rw [hT]; exact List.mem_singleton.mpr rfl, z.symm⟩))
  have sm : VLe (Hr I s H) (Hr I s H1) := vle_of (fun b o z => by
    obtain ⟨z1, z2⟩ := hr_of z
    exact hr_in (x.1 b o (nM b z2) z1) z2) fun _ _ _ e => e
  have hPt : ∃ ps, H Pt = some (.tbl ps) := by
    obtain ⟨ps, z, _⟩ := hT0 _ (List.mem_singleton.mpr rfl)
    exact ⟨ps, z⟩
  obtain ⟨pst, hPt⟩ := hPt
  have nt : ∀ b o, H b = some o → (∀ ps, o ≠ .tbl ps) → H1 b = some o := fun b o e n => x.1 b o (fun z => by rw [z, hPt] at e; exact n _ (Option.some.inj e).symm) e
  have ok1 : I.ok K s H1 := by
    refine ⟨fun m p kk ts e => ?_, ok.inj, ok.dom, fun b o e => ?_, by rw [hT]; exact T1, ok.fl⟩
    · obtain ⟨a, dx, vs, h1, h2, h3, h4, h5⟩ := ok.nod m p kk ts e
      obtain ⟨oa, ha, _, _, hb⟩ := holds_at h5
      refine ⟨a, dx, vs, h1, h2, h3, chs_same sm h4, holds_same (fun o z => by rw [ha] at z; cases z; exact nt _ _ ha hb) (fun hi o z => ?_) h5⟩
      have := holds_dx h5 hi
      rw [this] at z
      cases z
      exact nt _ _ this fun ps e => nomatch e
    · obtain ⟨h1, h2⟩ := ok.z b o e
      refine ⟨x.1 b o (fun z => ?_) h1, h2⟩
      rw [z, hPt] at h1
      exact h2.2 _ (Option.some.inj h1).symm
  have po : Po I K s H s H1 := ⟨fun b o m e => x.1 b o (nM b m) e, ok1, fun b m => .inl m, fun b o e => x.2 b o e, fun _ _ _ e => e, rfl⟩
  have okx : ∀ {b φ}, H1 b = some (.ext φ) → (Hr I s H1).h b = some (.ext φ) := fun {b φ} e => hr_ext ok1 e
  have hfin : Rp K (Hr I s H1) (.cl n) (.ref f) := by
    show I.C _ n (.ref f)
    rw [hI]
    exact ⟨params, body, scope, f, c', dV, doc, pm, ctv, hn, rfl, okx hf, okx hc', dfAt_same (fun b xs z => hr_tup ok1 z) hdf⟩
  exact ⟨.ref f, H1, I1, rfl, h (.ref f) s H1 rfl po hfin⟩) ?_
  walk_at "hu"
end
end Dl
namespace Dl
open PySem PySem.Spec PyProof.Rows L2 LamX
def Base (I : SI) (K : PySem.W.Frag) (w0 : Nat → Pth → Option (Addr × Addr)) (env : Env) (σ : L2.St) (H : Hp) : Prop := RE K ⟨H, fun n p => (w0 n p).map (·.1), fun k v => I.C H k v, fun c y v => I.X H c y v⟩ env σ
theorem base_same {I : SI} {K : PySem.W.Frag} {w0 : Nat → Pth → Option (Addr × Addr)} {env : Env} {σ : L2.St} {H H' : Hp} (e : Same H H') (h : Base I K w0 env σ H) : Base I K w0 env σ H' := by
  refine Hush.hu (RE.same h ⟨e, fun _ _ _ z => z, fun _ _ z => I.cs e z, fun _ _ _ z => I.xs e z⟩) ?_
  walk_at "hu"
def SI.lw (I : SI) (K : PySem.W.Frag) (w0 : Nat → Pth → Option (Addr × Addr)) (env : Env) (σ : L2.St) : SI := { I with
  C := fun H k v => I.C H k v ∧ Base I K w0 env σ H
  cs := fun e h => ⟨I.cs e h.1, base_same e h.2⟩
  w0 := w0 }
section
variable {I : SI} {K : PySem.W.Frag} {w0 : Nat → Pth → Option (Addr × Addr)} {env : Env} {σ : L2.St} {s s' : St1} {H H' : Hp}
theorem lw_up (b : Base I K w0 env σ (Hr I s H).h) : VLe (Hr I s H) (Hr (I.lw K w0 env σ) s H) := by
  refine Hush.hu (⟨fun _ _ h => h, fun _ _ _ h => h, fun _ _ h => ⟨h, b⟩, fun _ _ _ h => h⟩) ?_
  walk_at "hu"
theorem lw_dn : VLe (Hr (I.lw K w0 env σ) s H) (Hr I s H) := by
  refine Hush.hu (⟨fun _ _ h => h, fun _ _ _ h => h, fun _ _ h => h.1, fun _ _ _ h => h⟩) ?_
  walk_at "hu"
theorem ok_lw (ok : I.ok K s H) (hw : ∀ n p x, w0 n p = some x → s.w n p = some x) (b : Base I K w0 env σ (Hr I s H).h) : (I.lw K w0 env σ).ok K s H := by
  refine Hush.hu (⟨fun n p k ts q => by
  obtain ⟨a, dx, vs, h1, h2, h3, h4, h5⟩ := ok.nod n p k ts q
  exact ⟨a, dx, vs, h1, h2, h3, chs_same (lw_up b) h4, h5⟩, ok.inj, ok.dom, ok.z, ok.tab, hw⟩) ?_
  walk_at "hu"
theorem ok_wl (ok : (I.lw K w0 env σ).ok K s H) (hw : ∀ n p x, I.w0 n p = some x → w0 n p = some x) : I.ok K s H := by
  refine Hush.hu (⟨fun n p k ts q => by
  obtain ⟨a, dx, vs, h1, h2, h3, h4, h5⟩ := ok.nod n p k ts q
  exact ⟨a, dx, vs, h1, h2, h3, chs_same lw_dn h4, h5⟩, ok.inj, ok.dom, ok.z, ok.tab, fun n p x e => ok.fl n p x (hw n p x e)⟩) ?_
  walk_at "hu"
theorem po_lw (p : Po I K s H s' H') (hw : ∀ n p x, w0 n p = some x → s.w n p = some x) (b : Base I K w0 env σ (Hr I s H).h) : Po (I.lw K w0 env σ) K s H s' H' := by
  refine Hush.hu (⟨p.keep, ok_lw p.ok (fun n q x e => p.wle n q x (hw n q x e)) (base_same p.same.h b), p.gro, p.live, p.wle, p.ze⟩) ?_
  walk_at "hu"
theorem po_wl (p : Po (I.lw K w0 env σ) K s H s' H') (hw : ∀ n p x, I.w0 n p = some x → w0 n p = some x) : Po I K s H s' H' := by
  refine Hush.hu (⟨p.keep, ok_wl p.ok hw, p.gro, p.live, p.wle, p.ze⟩) ?_
  walk_at "hu"
end
def sCl (i k : Nat) (L0 : Ts → R D) : Sm D := fun env t => match env[i]? with
  | some (some (.cl k')) => if k' = k then L0 t else .no
  | _ => .no
def mOfH (L : Nat) (gs : Nat → (Ts → R D) → Sm Out) (k : Nat) (L0 : Ts → R D) : Ts → R D := fun t => retR t.length (gs k L0 (startE L 1 [.cl k]) t)
structure Gh (P : Program) (w : World) (K : PySem.W.Frag) (mg : Str → Option Value) (base : Heap) (x : Str) (j : Nat) (m : Nat → (Ts → R D) → Ts → R D) : Prop where
  ex : ∃ (qual : Str) (st : Stmt) (a : Str) (N : List Str) (gs : Nat → (Ts → R D) → Sm Out), Df K mg x qual st [a] ∧ FnScope N [a] (defScope st) ∧ N[0]? = some a ∧ Vis (defScope st) a ∧ (a == ("__debug__" : Str)) = false ∧ (a == ("__classdict__" : Str)) = false ∧ m = mOfH N.length gs ∧
    ∀ (f : Addr) (cdv : Value) (A : Around) (outer : List PySem.Env) (s : Shared) (H : Hp) (E : XK), Fm P w K mg base j N (bodyR P w K mg base N qual st f cdv A outer s H E) → (∀ i, Takes (bodyR P w K mg base N qual st f cdv A outer s H E i) (fun cls d _ H => E cls d H)) →
      ∀ (I : SI) (k : Nat) (L0 : Ts → R D), I.mg = mg → (∀ (W' : WX) (pn : List (Addr × Obj)) (xe : Value → Shared → Prop) (p1 p2 : Pos), Takes ((bodyR P w K mg base N qual st f cdv A outer s H E ()).tr pn xe) W' →
        DE I K W' (fun _ : Unit => (bodyR P w K mg base N qual st f cdv A outer s H E ()).tr pn xe) (.Call (.Name a p1) [] [] p2) (sCl 0 k L0)) →
      DSs I K (fun cls d _ H => E cls d H) (bodyR P w K mg base N qual st f cdv A outer s H E) (defBody st) (gs k L0)
def sHi (m : Nat → (Ts → R D) → Ts → R D) (L : Nat → Sm D) (ge : Sm D) : Sm D := fun env t => (ge env t).bind fun d t => match d with
  | .cl k => m k (L k env) t
  | _ => .no
section
variable {ι : Type} {P : Program} {w : World} {K : PySem.W.Frag} {mg : Str → Option Value} {base : Heap} {k : Nat} {N : List Str} {F : ι → Cx} {I : SI} {W : WX} {pos : Pos}
theorem de_hi {q : Str} {cells : List (Str × Addr)} {lams : Nat → Option (Arguments × Expr × Scope)} {x : Str} {e : Expr} {p : Pos} {j kk : Nat} {m : Nat → (Ts → R D) → Ts → R D} {L : Nat → Sm D} {ge : Sm D} (Wf : Fm P w K mg base k N F) (tk : ∀ i, Takes (F i) W) (im : I.mg = mg)
    (hI : I.C = LamC q cells lams) (hq : ∀ i, (F i).env.qual ++ "<lambda>" = q) (hcl : ∀ i, (F i).env.cells = cells) (G : Gh P w K mg base x j m) (hj : j + 1 ≤ k) (hkk : kk + 1 ≤ j) (he : DE I K W F e ge)
    (hl : ∀ i n params body scope, lams n = some (params, body, scope) → LamP (F i).N (F i).env.scope scope ∧ LamB (F i) params body scope ∧ ∀ (f c' : Addr) (E : XK) (A : Around) (outer : List PySem.Env) (s1 : Shared) (H1 : Hp),
      Fm P w K mg base kk N (fun _ : Unit => lamCx (F i) A outer s1 H1 E scope f c') → (∀ u, Takes ((fun _ : Unit => lamCx (F i) A outer s1 H1 E scope f c') u) (fun cls d _ H => E cls d H)) → DE I K (fun cls d _ H => E cls d H) (fun _ : Unit => lamCx (F i) A outer s1 H1 E scope f c') body (L n))
    (hg : ∀ i, Gl (F i) x := by exact fun _ => rfl) (hdb : (x == ("__debug__" : Str)) = false := by decide)
    (hes : ∀ i, starEach [e] (F i).env = (false, eval e (F i).env) :: starEach [] (F i).env := by exact fun _ => rfl) (hpl : ∀ i, (backTo pos (starEach [] (F i).env)).any (·.1) = false := by exact fun _ => rfl) :
    DE I K W F (.Call (.Name x p) [e] [] pos) (sHi m L ge) := by
  refine Hush.hu (fun i => by
  have e1 := Wf.prog i
  have e2 := Wf.w i
  have e3 := Wf.K i
  have e4 := Wf.mg i
  have e5 := Wf.base i
  subst e1 e2 e3 e4 e5
  obtain ⟨qual, st, a, Ng, gs, T, S, hNg, hva, hda, hca, rfl, hb⟩ := G.ex
  obtain ⟨g, fd, h1, Fu, hbi⟩ := T.ex
  obtain ⟨oc, od, kV, doc0, pm0, an, cdv, ct, osl, rfl, lk, hcd⟩ := Fu.ex
  refine ⟨fun pins s0 σ H Q I0 h => ?_⟩
  obtain ⟨env, s, ok, re, h⟩ := h
  have hm : (F i).mg x = some (.ref g) := h1
  have hkp : PySem.W.keepIn (F i).K (.ref g) = true := Fu.kp
  refine wpAny_Call_Name_kw (ld_glob I0 (hg i) hm ?_ hdb)
  refine PySem.W.callWith_K (h₀ := (F i).base) I0.ok.mod.kin hkp ?_ (hes i) (hpl i)
  refine thn ((pa_cons (he i) pa_nil (hes i)).run pos pins s0 σ H (fun vs H1 => ∃ v s1 d, vs = [v] ∧ Po I (F i).K s H s1 H1 ∧ Rp (F i).K (Hr I s1 H1) d v ∧ (match d with | .cl n => mOfH Ng.length gs n (L n env) s1.t | _ => .no).Post (fun (d : D) (t : Ts) => ∀ (v : V) (s' : St1) (H' : Hp), s'.t = t → Po I (F i).K s H s' H' → Rp (F i).K (Hr I s' H') d v → Q v H') (XP I (F i).K W s σ H)) I0
    ⟨env, s, ok, re, (R.post_bind h).mono (fun d t hd v s1 H1 e1 p1 r1 => ⟨v, s1, d, rfl, p1, r1, by rw [e1]; exact hd⟩) fun x t hx => hx⟩) fun us s1 ⟨vs, H1, I1, r1, v, st1, d, ev, p1, rd, hd⟩ => ⟨I1.kIn, ?_⟩
  subst ev
  cases d with
  | cl n =>
    have re1 : RE (F i).K (Hr I st1 H1) env σ := re.same p1.same
    have hcv : LamC q cells lams (Hr I st1 H1).h n v := by
      have : I.C (Hr I st1 H1).h n v := rd
      rw [hI] at this
      exact this
    obtain ⟨params, body, scope, f, c', dV, doc, pm, ctv, hn, hv, hf, hc', hdf⟩ := hcv
    subst hv
    cases r1 with
    | cons rx rr =>
      cases rr
      cases rx
      have hwl : ∀ n p x, I.w0 n p = some x → st1.w n p = some x := p1.ok.fl
      have bas : Base I (F i).K st1.w env σ (Hr I st1 H1).h := re1
      have ok1 : (I.lw (F i).K st1.w env σ).ok (F i).K st1 H1 := ok_lw p1.ok (fun _ _ _ z => z) bas
      have rc : codeAny (model (F i).prog (F i).w) (F i).A (.call (.ref g) ⟨[.ref f], []⟩) (CR (L2.CX (F i).prog (F i).w) (F i).stack (F i).prog (F i).w H1 s1 Q (fun cls d H' => W cls d σ H')) s1 := by
        refine run_ofS (N := Ng) (ps := [a]) (us := [.ref f]) (vs := [.ref f]) (k := j) lk hcd S ((Wf.room i).mono hj) I1.env0 (hbi s1 [.ref f] I1.kIn rfl) (.cons rfl .nil) rfl fun hr' => ?_
        refine ⟨_, hb g cdv (F i).A (F i).stack s1 H1 (fun cls d H' => W cls d σ H') ⟨fun _ => rfl, fun _ => rfl, fun _ => rfl, fun _ => rfl, fun _ => rfl, fun _ _ => rfl, fun _ _ => hr', fun _ => room_un hr', S.nd, fun _ => rfl⟩ (fun _ => takes_of rfl rfl rfl rfl) (I.lw (F i).K st1.w env σ) n (L n env) im (fun W' pn xe p1 p2 tk' _ => (pe_lam (X := F i) I1 tk' (hr'.mono hkk) hNg hva hda hca).imp fun σZ HZ Q' ⟨envg, sZ, okZ, reZ, hh⟩ => ?_) (), ?_⟩
        · unfold sCl at hh
          split at hh
          · rename_i k' q0
            by_cases ck : k' = n
            · subst ck
              rw [if_pos rfl] at hh
              obtain ⟨v0, v1, v2⟩ := reZ.at_ 0 _ q0
              obtain ⟨v3, v4⟩ := (show I.C (Hr (I.lw (F i).K st1.w env σ) sZ HZ).h k' v0 ∧ Base I (F i).K st1.w env σ (Hr (I.lw (F i).K st1.w env σ) sZ HZ).h from v2)
              rw [hI] at v3
              obtain ⟨params, body, scope, f, c', dV, doc, pm, ctv, hn, hv, hf, hc', hdf⟩ := v3
              subst hv
              rw [← hq i] at hf hc'
              rw [← hcl i] at hf
              have sb : Same (Hr (I.lw (F i).K st1.w env σ) sZ HZ).h HZ := hr_sub
              obtain ⟨l1, l2, l3⟩ := hl i k' params body scope hn
              refine ⟨params, body, scope, f, c', dV, doc, pm, ctv, fun E => tG I (F i).K (fun cls d _ H => E cls d H) (L k'), v1, sb _ _ hf, sb _ _ hc', dfAt_same (fun b xs z => sb _ _ z) hdf, l1, l2, fun E A outer s1 H1 hrr => ?_, ?_⟩
              · exact l3 f c' E A outer s1 H1 ⟨fun _ => rfl, fun _ => rfl, fun _ => rfl, fun _ => rfl, fun _ => rfl, fun _ _ => rfl, fun _ _ => hrr, fun _ => room_un hrr, Wf.nd, fun _ => Wf.N i⟩ (fun _ => takes_of rfl rfl rfl rfl) ()
              · have okI : I.ok (F i).K sZ HZ := ok_wl okZ hwl
                have bZ : Base I (F i).K st1.w env σ (Hr I sZ HZ).h := v4
                have reI : RE (F i).K (Hr I sZ HZ) env σ := RE.same v4 ⟨fun _ _ z => z, fun m q x z => by
                  have z : (st1.w m q).map (·.1) = some x := z
                  cases q1 : st1.w m q with
                  | none => rw [q1] at z; cases z
                  | some y =>
                    rw [q1] at z
                    show (sZ.w m q).map (·.1) = some x
                    rw [okZ.fl m q y q1]
                    exact z, fun _ _ z => z, fun _ _ _ z => z⟩
                refine ⟨env, sZ, okI, reI, hh.mono (fun d t h v s' H' e p r => ?_) fun x t h cls dd s' H' e p a => ?_⟩
                · have bz' := base_same p.same.h bZ
                  exact h v s' H' e (po_lw p okZ.fl bZ) (rp_same (lw_up bz') r)
                · have bz' := base_same p.same.h bZ
                  exact h cls dd s' H' e (po_lw p okZ.fl bZ) (exat_same (lw_up bz') a)
            · rw [if_neg ck] at hh; exact hh.elim
          · exact hh.elim
        · refine ⟨startE Ng.length 1 [.cl n], st1, ok1, re_start (ds := [.cl n]) (.cons (rp_same (d := .cl n) (lw_up bas) rd) .nil) rfl, ?_⟩
          unfold mOfH at hd
          dsimp only at hd
          generalize gs n (L n env) (startE Ng.length 1 [.cl n]) st1.t = r at hd ⊢
          have dn : ∀ {s' : St1} {H' : Hp}, Po (I.lw (F i).K st1.w env σ) (F i).K st1 H1 s' H' → Po I (F i).K st1 H1 s' H' := fun p => po_wl p hwl
          cases r with
          | no => exact hd.elim
          | ex x t => exact fun σ' cls dd s' H' e2 p a => hd cls dd (cutS s' st1.t.length) H' (by rw [← e2]) (p1.trans (po_cut (dn p) p1.ok (Nat.le_refl _))) (exat_cut (exat_same lw_dn a))
          | ok o t =>
            cases o with
            | rt d' => exact fun v s' H' e2 p rr => hd v (cutS s' (max st1.t.length (top d'))) H' (by rw [← e2]) (p1.trans (po_cut (dn p) p1.ok (Nat.le_max_left _ _))) (rp_cut (rp_same lw_dn rr) (Nat.le_max_right _ _))
            | nx en => exact fun σ' s' H' e2 p _ => hd .non (cutS s' st1.t.length) H' (by rw [← e2]) (p1.trans (po_cut (dn p) p1.ok (Nat.le_refl _))) .non
            | bk en => exact hd.elim
            | ct en => exact hd.elim
      refine wpAny_call (codeAny_mono rc fun r s' hq => ?_)
      cases r with
      | error er => exact tk i er s' (XE.of_call I1 (fun cls d H' h => h) hq)
      | ok fl =>
        cases fl with
        | ret u => exact I1.after hq
        | next => exact False.elim hq
        | brk => exact False.elim hq
        | cont => exact False.elim hq
  | _ => exact hd.elim) ?_
  walk_at "hu"
end
end Dl
namespace Dl
open PySem L2
def cStr : List D → Option D
  | [.d (.int i)] => if i.natAbs.log2 < 1920 then some (.d (.str (toString i))) else none
  | [.d (.str a)] => some (.d (.str a))
  | _ => none
def cIntT : List D → Option D
  | [.d (.int i)] => some (.d (.int i))
  | [.d (.bool b)] => some (.d (.int (if b then 1 else 0)))
  | [.d (.str a)] => if a.length ≤ 640 then (PySem.intText? a).map fun n => .d (.int n) else none
  | _ => none
def isTx : D → Bool
  | .d (.str _) => true
  | _ => false
def sM1 (f : D → D → Option D) (o a : Sm D) : Sm D := fun env t => (o env t).bind fun x t => if isTx x = true then (a env t).bind fun y t => ofO (f x y) t else .no
def pM1 (f : D → D → Option D) (o a : Pm D) : Pm D := fun env => (o env).bind fun x => if isTx x = true then (a env).bind fun y => f x y else none
section
variable {cb : Bool} {ι : Type} {P : Program} {w : World} {K : PySem.W.Frag} {mg : Str → Option Value} {base : Heap} {k : Nat} {N : List Str} {F : ι → Cx} {I : SI} {W : WX} {pos : Pos}
theorem c_intT (Wf : FmC cb P w K mg base k N F) : ∃ r, (∀ i, CallR (F i) (.type "int") r) ∧ CallD K r cIntT := by
  refine @Hush.hu _ (by
  refine ⟨_, fun i => callr_or call_int1 call_int_str, fun I s H ds z vs Q ok r e kk => ?_⟩
  unfold cIntT at e
  split at e
  · cases e
    cases r with
    | cons h1 h2 =>
      cases h2
      cases h1
      exact .inl (.inl ⟨_, rfl, here ok kk (.int _)⟩)
  · cases e
    cases r with
    | cons h1 h2 =>
      cases h2
      cases h1
      exact .inl (.inr ⟨_, rfl, here ok kk (.int _)⟩)
  · rename_i a
    by_cases c : a.length ≤ 640
    · rw [if_pos c] at e
      cases q : PySem.intText? a with
      | none => rw [q] at e; cases e
      | some n =>
        rw [q] at e
        cases e
        cases r with
        | cons h1 h2 =>
          cases h2
          cases h1
          exact .inr ⟨_, _, rfl, q, c, here ok kk (.int _)⟩
    · rw [if_neg c] at e; cases e
  · cases e) ?_
  walk_at "hu"
end
end Dl
namespace Dl
open PySem PySem.Spec PyProof.Rows L2
def rCountD (K : PySem.W.Frag) : V → List V → Hp → VK → Prop := fun x xs H Q => ∃ (a : Addr) (y : V) (d : PyData) (ds : List PyData), x = V.ref a ∧ xs = [y] ∧ Dp K H (V.ref a) (.list ds) ∧ Dp K H y d ∧
  SeqAt.shaped (.list ds) = true ∧ SeqAt.shaped d = true ∧ Q (.int ((ds.countP fun z => PyData.eqv z d : Nat) : Int)) H
theorem mt_countD {X : Cx} (hu : X.A.units + 65 < cLine) : MtR X "list.count" (rCountD X.K) := by
  refine @Hush.hu _ (by
  intro pins s σ H x xs v us Q I rx rxs h
  obtain ⟨a, y, d, ds, rfl, rfl, hl, hy, sl, sd, q⟩ := h
  cases rx
  cases rxs with
  | cons ry rt =>
    rename_i uy ut
    cases rt
    obtain ⟨bs, r1⟩ := Dp.reads I d y uy hy ry
    have hxs : PyData.canLayAll0 ds = true := SeqAt.canLay_of_shaped sl
    have hroom : X.A.units + 1 + min (PyData.depthAll ds) d.depth < cLine := room_in_shaped sd hu
    cases hl with
    | lst hs ha =>
      obtain ⟨its, rv, ⟨⟨cls, dd, data, sls⟩, n, ho, hc, hdn, hdt⟩, hlen⟩ := I.list hs
      simp only at hc hdt
      subst hc hdt
      obtain ⟨as, h4⟩ := Dp.readsAll I ds _ its ha rv
      have hmap : its.map (SeqAt.readOf s.heap) = ds := SeqAt.readsAll_map ds its as hxs h4
      refine call_meets PySem.F.slot_list_count ⟨_, ho, rfl⟩ PySem.F.entry_list_count (PySem.F.args_list_count_2 _ _)
        (SeqAt.list_countAt a its.toArray n dd sls uy (fun u => PyData.eqv (SeqAt.readOf s.heap u) d)) ⟨ho, SeqAt.items_eqAt (vs := its.toArray) (show ReadsAll s.heap its.toArray.toList ds as from h4) r1 hxs (SeqAt.canLay_of_shaped sd) hroom, ?_⟩
      have ec : its.toArray.toList.countP (fun u => PyData.eqv (SeqAt.readOf s.heap u) d) = ds.countP fun z => PyData.eqv z d := by
        rw [← hmap, List.countP_map]
        rfl
      refine ⟨.int ((ds.countP fun z => PyData.eqv z d : Nat) : Int), H, I.tok _, ⟨s.toks, ?_⟩, q⟩
      show Value.int ((its.toArray.toList.countP (fun u => PyData.eqv (SeqAt.readOf s.heap u) d) : Nat) : Int) s.toks = _
      rw [ec]) ?_
  walk_at "hu"
def fLCnt : D → D → Option D
  | .d (.list ds), .d d => if SeqAt.shaped (.list ds) = true ∧ SeqAt.shaped d = true then some (.d (.int ((ds.countP fun z => PyData.eqv z d : Nat) : Int))) else none
  | _, _ => none
section
variable {cb : Bool} {ι : Type} {P : Program} {w : World} {K : PySem.W.Frag} {mg : Str → Option Value} {base : Heap} {k : Nat} {N : List Str} {F : ι → Cx} {I : SI} {W : WX} {pos : Pos}
theorem isLs_some {x : D} (h : isLs x = true) : ∃ ds, x = .d (.list ds) := by
  refine @Hush.hu _ (by
  unfold isLs at h
  split at h
  · exact ⟨_, rfl⟩
  · cases h) ?_
  walk_at "hu"
theorem de_lcnt {o e : Expr} {apos cpos : Pos} {go ge : Sm D} (Wf : FmC cb P w K mg base k N F) (ho : DE I K W F o go) (he : DE I K W F e ge)
    (hbase : ∀ i, attributeBase o "count" (F i).env (eval o (F i).env) = eval o (F i).env := by exact fun _ => rfl)
    (hfew : ∀ i, ((backTo cpos (starEach [e] (F i).env)).all (fun x => !x.1) && (backToKw cpos (keywordEach [] (F i).env)).all (fun x => x.1.isSome)
      && decide (([e] : List Expr).length + ([] : List Keyword).length + (if ([] : List Keyword).isEmpty then 0 else 1) < 30)) = true := by exact fun _ => rfl)
    (hline : (apos.endLine == cpos.line) = true := by rfl) (hs : ∀ i, starEach [e] (F i).env = (false, eval e (F i).env) :: starEach [] (F i).env := by exact fun _ => rfl) (hpl : ∀ i, (backTo cpos (starEach [] (F i).env)).any (·.1) = false := by exact fun _ => rfl) :
    DE I K W F (.Call (.Attribute o "count" apos) [e] [] cpos) (sOpT isLs fLCnt go ge) := by
  refine Hush.hu (fun i => by
  have h := pe_bm (r := rCountD (F i).K) PySem.F.plainAttrs_list PySem.F.slot_list_count (by kernel_rfl) (mt_countD (by have := Wf.units i; omega)) (ho i) (pa_cons (he i) pa_nil (hs i)) (hbase i) (hfew i) hline (hs i) (hpl i)
  rw [Wf.K i] at h
  refine h.imp fun σ H Q ⟨env, s, ok, re, h⟩ => step (Po.refl ok) re h fun x v1 s1 H1 p1 _ r1 h => ?_
  by_cases c : isLs x = true
  · rw [if_pos c] at h
    obtain ⟨ds, rfl⟩ := isLs_some c
    have r1 : Dq K (Hr I s1 H1).h v1 (.list ds) := r1
    cases r1 with
    | lst h1 h2 =>
      refine ⟨.inl ⟨rfl, _, SqL.of (hr_sub _ _ h1)⟩, step p1 re h fun y v2 s2 H2 p2 q2 r2 h => ?_⟩
      obtain ⟨z, e3, h⟩ := post_ofO h
      cases y with
      | d d0 =>
        have e3 : (if SeqAt.shaped (.list ds) = true ∧ SeqAt.shaped d0 = true then some (D.d (.int ((ds.countP fun z => PyData.eqv z d0 : Nat) : Int))) else none) = some z := e3
        by_cases c : SeqAt.shaped (.list ds) = true ∧ SeqAt.shaped d0 = true
        · rw [if_pos c] at e3
          cases e3
          have l2 : Dp K H2 _ (.list ds) := dq_dp (dp_same hr_sub (dp_same q2.same.h (.lst h1 h2)))
          exact ⟨_, _, d0, ds, rfl, rfl, l2, dq_dp (dp_same hr_sub (show Dq _ _ _ _ from r2)), c.1, c.2, h _ s2 H2 rfl p2 (show Dq _ _ _ _ from .int _)⟩
        · rw [if_neg c] at e3; cases e3
      | _ => cases e3
  · rw [if_neg c] at h; exact h.elim) ?_
  walk_at "hu"
end
end Dl
namespace Dl
open PySem L2
section
variable {cb : Bool} {ι : Type} {P : Program} {w : World} {K : PySem.W.Frag} {mg : Str → Option Value} {base : Heap} {k : Nat} {N : List Str} {F : ι → Cx} {I : SI} {W : WX} {pos : Pos}
theorem qe_v (i : Nat) {x : Str} (hN : ∀ j, (F j).N[i]? = some x := by exact fun _ => rfl) (hv : ∀ j, Vis (F j).env.scope x := by first | exact fun _ => Or.inl rfl | exact fun _ => Or.inr (Or.inl rfl) | exact fun _ => Or.inr (Or.inr rfl)) (hd : (x == ("__debug__" : Str)) = false := by decide) (hcd : (x == ("__classdict__" : Str)) = false := by decide) : DE I K W F (.Name x pos) (lift (pV i)) := by
  refine @Hush.hu _ (by
  simp only [lift_v]
  exact  de_v i hN hv hd hcd) ?_
  walk_at "hu"
theorem qe_int {i : Int} {j} : DE I K W F (.Constant (.int i) j pos) (lift (pC (.d (.int i)))) := by
  refine @Hush.hu _ (by
  simp only [lift_c]
  exact  de_int) ?_
  walk_at "hu"
theorem qe_bl {b : Bool} {j} : DE I K W F (.Constant (.bool b) j pos) (lift (pC (.d (.bool b)))) := by
  refine @Hush.hu _ (by
  simp only [lift_c]
  exact  de_bl) ?_
  walk_at "hu"
theorem qe_non {j} : DE I K W F (.Constant .none j pos) (lift (pC (.d .none))) := by
  refine @Hush.hu _ (by
  simp only [lift_c]
  exact  de_non) ?_
  walk_at "hu"
theorem qe_str {x : Str} {j} : DE I K W F (.Constant (.str x) j pos) (lift (pC (.d (.str x)))) := by
  refine @Hush.hu _ (by
  simp only [lift_c]
  exact  de_str) ?_
  walk_at "hu"
theorem qe_g (Wf : FmC cb P w K mg base k N F) {x : Str} {d : D} (G : Gc K mg x d) (hg : ∀ j, Gl (F j) x := by exact fun _ => rfl) (hd : (x == ("__debug__" : Str)) = false := by decide) : DE I K W F (.Name x pos) (lift (pC d)) := by
  refine @Hush.hu _ (by
  simp only [lift_c]
  exact  de_g Wf G hg hd) ?_
  walk_at "hu"
theorem qe_ty (Wf : FmC cb P w K mg base k N F) {x : Str} {n : String} (hm : mg x = none) (hv : bootBuiltins x = some (.type n)) (hg : ∀ j, Gl (F j) x := by exact fun _ => rfl) (hn : x ≠ "__name__" := by decide) (hd : (x == ("__debug__" : Str)) = false := by decide) : DE I K W F (.Name x pos) (lift (pC (.o (.ty n)))) := by
  refine @Hush.hu _ (by
  simp only [lift_c]
  exact  de_ty Wf hm hv hg hn hd) ?_
  walk_at "hu"
theorem qe_op {op : Operator} {a b : Expr} {f : D → D → Option D} {ga gb : Pm D} (h : ∃ r, (∀ i, OpR (F i) (binaryOp op) r) ∧ OpD K r f) (ha : DE I K W F a (lift ga)) (hb : DE I K W F b (lift gb)) : DE I K W F (.BinOp a op b pos) (lift (pOp f ga gb)) := by
  refine @Hush.hu _ (by
  simp only [lift_op]
  exact  de_op h ha hb) ?_
  walk_at "hu"
theorem qe_cmp {op : CmpOp} {a b : Expr} {f : D → D → Option D} {ga gb : Pm D} (h : ∃ r, (∀ i, OpR (F i) (compareOp op) r) ∧ OpD K r f) (ha : DE I K W F a (lift ga)) (hb : DE I K W F b (lift gb)) (hm : behindInMarks op b = false := by first | exact nomark _ | rfl) : DE I K W F (.Compare a [op] [b] pos) (lift (pOp f ga gb)) := by
  refine @Hush.hu _ (by
  simp only [lift_op]
  exact  de_cmp h ha hb hm) ?_
  walk_at "hu"
theorem qt_cmp {op : CmpOp} {a b : Expr} {f : D → D → Option D} {ga gb : Pm D} (h : ∃ r, (∀ i, OpR (F i) (compareOp op) r) ∧ OpD K r f) (ha : DE I K W F a (lift ga)) (hb : DE I K W F b (lift gb)) (hm : behindInMarks op b = false := by first | exact nomark _ | rfl) : DT I K W F (.Compare a [op] [b] pos) (lift (pB (pOp f ga gb))) := by
  refine @Hush.hu _ (by
  simp only [lift_b, lift_op]
  exact  dt_cmp h ha hb hm) ?_
  walk_at "hu"
theorem qt_val {e : Expr} {g : Pm D} (h : DE I K W F e (lift g)) (he : ∀ i whole, isTrue e (F i).env whole = (do let v ← whole; standAt e.pos; holding [v] (truthy v)) := by exact fun _ _ => rfl) : DT I K W F e (lift (pB g)) := by
  refine @Hush.hu _ (by
  simp only [lift_b]
  exact  dt_val h he) ?_
  walk_at "hu"
theorem qt_not {a : Expr} {ga : Pm Bool} (h : DT I K W F a (lift ga)) : DT I K W F (.UnaryOp .Not a pos) (lift (pNot ga)) := by
  refine @Hush.hu _ (by
  simp only [lift_not]
  exact  dt_not h) ?_
  walk_at "hu"
theorem qw_pt {e : Expr} {g : Pm Bool} (h : DW I K W F e (lift g)) : DT I K W F e (lift (g)) := by
  refine Hush.hu (dw_pt h) ?_
  walk_at "hu"
theorem qw_and1 {a : Expr} {ga : Pm Bool} (h : DT I K W F a (lift ga)) : DW I K W F (.BoolOp .And [a] pos) (lift (ga)) := by
  refine Hush.hu (dw_and1 h) ?_
  walk_at "hu"
theorem qw_or1 {a : Expr} {ga : Pm Bool} (h : DT I K W F a (lift ga)) : DW I K W F (.BoolOp .Or [a] pos) (lift (ga)) := by
  refine Hush.hu (dw_or1 h) ?_
  walk_at "hu"
theorem qw_and {a b : Expr} {rest : List Expr} {ga gb : Pm Bool} (ha : DT I K W F a (lift ga)) (hb : DW I K W F (.BoolOp .And (b :: rest) pos) (lift gb)) : DW I K W F (.BoolOp .And (a :: b :: rest) pos) (lift (pAnd ga gb)) := by
  refine @Hush.hu _ (by
  simp only [lift_and]
  exact  dw_and ha hb) ?_
  walk_at "hu"
theorem qw_or {a b : Expr} {rest : List Expr} {ga gb : Pm Bool} (ha : DT I K W F a (lift ga)) (hb : DW I K W F (.BoolOp .Or (b :: rest) pos) (lift gb)) : DW I K W F (.BoolOp .Or (a :: b :: rest) pos) (lift (pOr ga gb)) := by
  refine @Hush.hu _ (by
  simp only [lift_or]
  exact  dw_or ha hb) ?_
  walk_at "hu"
theorem qe_and1 {op} {a : Expr} {ga : Pm D} (h : DE I K W F a (lift ga)) : DE I K W F (.BoolOp op [a] pos) (lift (ga)) := by
  refine Hush.hu (de_and1 h) ?_
  walk_at "hu"
theorem qe_and {a b : Expr} {rest : List Expr} {ga gb : Pm D} (ha : DE I K W F a (lift ga)) (hb : DE I K W F (.BoolOp .And (b :: rest) pos) (lift gb)) : DE I K W F (.BoolOp .And (a :: b :: rest) pos) (lift (pAndV ga gb)) := by
  refine @Hush.hu _ (by
  simp only [lift_andV]
  exact  de_and ha hb) ?_
  walk_at "hu"
theorem qe_or {a b : Expr} {rest : List Expr} {ga gb : Pm D} (ha : DE I K W F a (lift ga)) (hb : DE I K W F (.BoolOp .Or (b :: rest) pos) (lift gb)) : DE I K W F (.BoolOp .Or (a :: b :: rest) pos) (lift (pOrV ga gb)) := by
  refine @Hush.hu _ (by
  simp only [lift_orV]
  exact  de_or ha hb) ?_
  walk_at "hu"
theorem qe_not {a : Expr} {ga : Pm D} (h : DE I K W F a (lift ga)) : DE I K W F (.UnaryOp .Not a pos) (lift (pNotV ga)) := by
  refine @Hush.hu _ (by
  simp only [lift_notV]
  exact  de_not h) ?_
  walk_at "hu"
theorem qe_if {c a b : Expr} {gc : Pm Bool} {ga gb : Pm D} (hc : DT I K W F c (lift gc)) (ha : DE I K W F a (lift ga)) (hb : DE I K W F b (lift gb)) : DE I K W F (.IfExp c a b pos) (lift (pIf gc ga gb)) := by
  refine @Hush.hu _ (by
  simp only [lift_if]
  exact  de_if hc ha hb) ?_
  walk_at "hu"
theorem qa_nil  : DA I K W F [] (lift (pNil)) := by
  refine @Hush.hu _ (by
  simp only [lift_nil]
  exact  da_nil) ?_
  walk_at "hu"
theorem qa_cons {e : Expr} {es : List Expr} {g : Pm D} {gr : Pm (List D)} (h : DE I K W F e (lift g)) (hr : DA I K W F es (lift gr)) (hs : ∀ i, starEach (e :: es) (F i).env = (false, eval e (F i).env) :: starEach es (F i).env := by exact fun _ => rfl) : DA I K W F (e :: es) (lift (pCons g gr)) := by
  refine @Hush.hu _ (by
  simp only [lift_cons]
  exact  da_cons h hr hs) ?_
  walk_at "hu"
theorem qe_tup {es : List Expr} {x1} {g : Pm (List D)} (h : DA I K W F es (lift g)) : DE I K W F (.Tuple es x1 pos) (lift (pMk mTup g)) := by
  refine @Hush.hu _ (by
  simp only [lift_mk]
  exact  de_tup h) ?_
  walk_at "hu"
theorem qe_lst {es : List Expr} {g : Pm (List D)} (h : DA I K W F es (lift g)) : DE I K W F (.List es pos) (lift (pMk mLst g)) := by
  refine @Hush.hu _ (by
  simp only [lift_mk]
  exact  de_lst h) ?_
  walk_at "hu"
theorem qe_callB {x : Str} {id : String} {e : Expr} {es : List Expr} {p : Pos} {f : List D → Option D} {g : Pm (List D)} (Wf : FmC cb P w K mg base k N F) (hc : ∃ r, (∀ i, CallR (F i) (.builtin id) r) ∧ CallD K r f) (hm : mg x = none) (hv : bootBuiltins x = some (.builtin id)) (ha : DA I K W F (e :: es) (lift g)) (hg : ∀ i, Gl (F i) x := by exact fun _ => rfl) (hn : x ≠ "__name__" := by decide) (hdb : (x == ("__debug__" : Str)) = false := by decide) (he : ∀ i, starEach (e :: es) (F i).env = (false, eval e (F i).env) :: starEach es (F i).env := by exact fun _ => rfl) (hpl : ∀ i, (backTo pos (starEach es (F i).env)).any (·.1) = false := by exact fun _ => rfl) : DE I K W F (.Call (.Name x p) (e :: es) [] pos) (lift (pMk f g)) := by
  refine @Hush.hu _ (by
  simp only [lift_mk]
  exact  de_callB Wf hc hm hv ha hg hn hdb he hpl) ?_
  walk_at "hu"
theorem qe_callTy {x : Str} {T : String} {e : Expr} {es : List Expr} {p : Pos} {f : List D → Option D} {g : Pm (List D)} (Wf : FmC cb P w K mg base k N F) (hc : ∃ r, (∀ i, CallR (F i) (.type T) r) ∧ CallD K r f) (hm : mg x = none) (hv : bootBuiltins x = some (.type T)) (ha : DA I K W F (e :: es) (lift g)) (hg : ∀ i, Gl (F i) x := by exact fun _ => rfl) (hn : x ≠ "__name__" := by decide) (hdb : (x == ("__debug__" : Str)) = false := by decide) (he : ∀ i, starEach (e :: es) (F i).env = (false, eval e (F i).env) :: starEach es (F i).env := by exact fun _ => rfl) (hpl : ∀ i, (backTo pos (starEach es (F i).env)).any (·.1) = false := by exact fun _ => rfl) : DE I K W F (.Call (.Name x p) (e :: es) [] pos) (lift (pMk f g)) := by
  refine @Hush.hu _ (by
  simp only [lift_mk]
  exact  de_callTy Wf hc hm hv ha hg hn hdb he hpl) ?_
  walk_at "hu"
theorem qe_ix {a b : Expr} {f : D → D → Option D} {ga gb : Pm D} (h : ∃ r, (∀ i, IxR (F i) r) ∧ OpD K r f) (ha : DE I K W F a (lift ga)) (hb : DE I K W F b (lift gb)) (hs : PlainIx b := by exact fun _ _ => rfl) : DE I K W F (.Subscript a b pos) (lift (pOp f ga gb)) := by
  refine @Hush.hu _ (by
  simp only [lift_op]
  exact  de_ix h ha hb hs) ?_
  walk_at "hu"
theorem qo_none  : DO I K W F none (lift (pC none)) := by
  refine @Hush.hu _ (by
  simp only [lift_c]
  exact  do_none) ?_
  walk_at "hu"
theorem qo_some {e : Expr} {g : Pm D} (h : DE I K W F e (lift g)) : DO I K W F (some e) (lift (pPart g)) := by
  refine @Hush.hu _ (by
  simp only [lift_part]
  exact  do_some h) ?_
  walk_at "hu"
theorem qe_slice {e : Expr} {lo hi : Option Expr} {p2 : Pos} {f : D → Option Int → Option Int → Option D} {g : Pm D} {gl gu : Pm (Option Int)} (h : ∃ r, (∀ i, SlR (F i) r) ∧ SlD K r f) (he : DE I K W F e (lift g)) (hl : DO I K W F lo (lift gl)) (hu : DO I K W F hi (lift gu)) : DE I K W F (.Subscript e (.Slice lo hi none p2) pos) (lift (pSl f g gl gu)) := by
  refine @Hush.hu _ (by
  simp only [lift_sl]
  exact  de_slice h he hl hu) ?_
  walk_at "hu"
theorem qe_chain {op op' : CmpOp} {a b c : Expr} {f f' : D → D → Option D} {ga gb gc : Pm D} (h : ∃ r, (∀ i, OpR (F i) (compareOp op) r) ∧ OpD K r f) (h' : ∃ r, (∀ i, OpR (F i) (compareOp op') r) ∧ OpD K r f') (ha : DE I K W F a (lift ga)) (hb : DE I K W F b (lift gb)) (hc : DE I K W F c (lift gc)) (hm : lastMarks [op, op'] [b, c] = false := by with_unfolding_all rfl) : DE I K W F (.Compare a [op, op'] [b, c] pos) (lift (pCh f f' ga gb gc)) := by
  refine @Hush.hu _ (by
  simp only [lift_ch]
  exact  de_chain h h' ha hb hc hm) ?_
  walk_at "hu"
theorem qe_gidx {x : Str} {e : Expr} {p apos cpos : Pos} {ys : List Str} {g : Pm D} (Wf : FmC cb P w K mg base k N F) (G : Gt K mg x ys) (h : DE I K W F e (lift g)) (hg : ∀ j, Gl (F j) x := by exact fun _ => rfl) (hd : (x == ("__debug__" : Str)) = false := by decide) (hbase : ∀ i, attributeBase (.Name x p) "index" (F i).env (eval (.Name x p) (F i).env) = eval (.Name x p) (F i).env := by exact fun _ => rfl) (hfew : ∀ i, ((backTo cpos (starEach [e] (F i).env)).all (fun x => !x.1) && (backToKw cpos (keywordEach [] (F i).env)).all (fun x => x.1.isSome)
      && decide (([e] : List Expr).length + ([] : List Keyword).length + (if ([] : List Keyword).isEmpty then 0 else 1) < 30)) = true := by exact fun _ => rfl) (hline : (apos.endLine == cpos.line) = true := by rfl) (hs : ∀ i, starEach [e] (F i).env = (false, eval e (F i).env) :: starEach [] (F i).env := by exact fun _ => rfl) (hpl : ∀ i, (backTo cpos (starEach [] (F i).env)).any (·.1) = false := by exact fun _ => rfl) : DE I K W F (.Call (.Attribute (.Name x p) "index" apos) [e] [] cpos) (lift (pAp (fGIdx ys) g)) := by
  refine @Hush.hu _ (by
  simp only [lift_ap]
  exact  de_gidx Wf G h hg hd hbase hfew hline hs hpl) ?_
  walk_at "hu"
theorem qi_r1 {tg a : Expr} {p : Pos} {g : Pm (List D)} (Wf : Fm P w K mg base k N F) (hm : mg "range" = none) (h : DA I K W F [a] (lift g)) (hg : ∀ i, Gl (F i) "range" := by exact fun _ => rfl) (hs : ∀ i, starEach [a] (F i).env = [(false, eval a (F i).env)] := by exact fun _ => rfl) : DI I K W F tg (.Call (.Name "range" p) [a] [] pos) (liftI (pRg mR1 g)) := by
  refine @Hush.hu _ (by
  simp only [lift_rg]
  exact  di_r1 Wf hm h hg hs) ?_
  walk_at "hu"
theorem qi_r2 {tg a b : Expr} {p : Pos} {g : Pm (List D)} (Wf : Fm P w K mg base k N F) (hm : mg "range" = none) (h : DA I K W F [a, b] (lift g)) (hg : ∀ i, Gl (F i) "range" := by exact fun _ => rfl) (hs : ∀ i, starEach [a, b] (F i).env = [(false, eval a (F i).env), (false, eval b (F i).env)] := by exact fun _ => rfl) (hs2 : ∀ i, starEach [b] (F i).env = [(false, eval b (F i).env)] := by exact fun _ => rfl) : DI I K W F tg (.Call (.Name "range" p) [a, b] [] pos) (liftI (pRg mR2 g)) := by
  refine @Hush.hu _ (by
  simp only [lift_rg]
  exact  di_r2 Wf hm h hg hs hs2) ?_
  walk_at "hu"
theorem qts_nil  : DTs I K W F [] (lift (pC true)) := by
  refine @Hush.hu _ (by
  simp only [lift_c]
  exact  dts_nil) ?_
  walk_at "hu"
theorem qts_one {c : Expr} {g : Pm Bool} (h : DT I K W F c (lift g)) : DTs I K W F [c] (lift (g)) := by
  refine Hush.hu (dts_one h) ?_
  walk_at "hu"
theorem qe_lc {elt tg iter : Expr} {ifs : List Expr} {scope : Scope} (own : List (Str × Nat)) {gs : Pm (List D)} {gg : D → Env → Option Env} {gt : Pm Bool} {ge : Pm D} (Wf : Fm P w K mg base k N F) (ok : ∀ i, BlkOk (F i).N (F i).env.scope scope own) (hi : DI I K W F tg iter (liftI gs)) (hg : DGv I K (blkF scope F) (own.map (·.2)) tg gg) (ht : DTs I K WF (blkF scope F) ifs (lift gt)) (he : DE I K WF (blkF scope F) elt (lift ge)) (hs : ∀ i x, foldedSetIterable iter (F i).env x = pure x := by exact fun _ _ => rfl) : DE I K W F (.ListComp elt [⟨tg, iter, ifs, 0⟩] scope pos) (lift (pMk mLst (pLc gg (own.map (·.2)) gs gt ge))) := by
  refine @Hush.hu _ (by
  simp only [lift_lc, lift_mk]
  exact  de_lc own Wf ok hi hg ht he hs) ?_
  walk_at "hu"
theorem qs_asg {tg e : Expr} {g : D → Env → Option Env} {ga : Pm D} (h : DE I K W F e (lift ga)) (hg : DG I K F tg g) (hs : ∀ i, swapsWithSole [tg] e pos.line (F i).env = pure false := by exact fun _ => rfl) (hw : ∀ i, swappedStores [tg] e (F i).env = pure none := by exact fun _ => rfl) (h1 : ∀ i, (assignEach [tg] (F i).env).map (·.2) = [assign tg (F i).env] := by exact fun _ => rfl) : DS I K W F (.Assign [tg] e pos) (lift (pAsg g ga)) := by
  refine @Hush.hu _ (by
  simp only [lift_asg]
  exact  ds_asg h hg hs hw h1) ?_
  walk_at "hu"
theorem qs_ret {e : Expr} {g : Pm D} (h : DE I K W F e (lift g)) : DS I K W F (.Return (some e) pos) (lift (pRet g)) := by
  refine @Hush.hu _ (by
  simp only [lift_ret]
  exact  ds_ret h) ?_
  walk_at "hu"
theorem qs_if {c : Expr} {a b : List Stmt} {gc : Pm Bool} {ga gb : Pm Out} (hc : DT I K W F c (lift gc)) (ha : DSs I K W F a (lift ga)) (hb : DSs I K W F b (lift gb)) : DS I K W F (.If c a b pos) (lift (pIf gc ga gb)) := by
  refine @Hush.hu _ (by
  simp only [lift_if]
  exact  ds_if hc ha hb) ?_
  walk_at "hu"
theorem qss_nil  : DSs I K W F [] (lift (pNx)) := by
  refine @Hush.hu _ (by
  simp only [lift_nx]
  exact  dss_nil) ?_
  walk_at "hu"
theorem qss_one {st : Stmt} {g : Pm Out} (h : DS I K W F st (lift g)) : DSs I K W F [st] (lift (g)) := by
  refine Hush.hu (dss_one h) ?_
  walk_at "hu"
theorem qss_cons {st : Stmt} {rest : List Stmt} {g gr : Pm Out} (h : DS I K W F st (lift g)) (hr : DSs I K W F rest (lift gr)) : DSs I K W F (st :: rest) (lift (pSeq g gr)) := by
  refine @Hush.hu _ (by
  simp only [lift_seq]
  exact  dss_cons h hr) ?_
  walk_at "hu"
theorem qs_for {tg iter : Expr} {body : List Stmt} {gs : Pm (List D)} {gg : D → Env → Option Env} {gb : Pm Out} (Wf : Fm P w K mg base k N F) (hi : DI I K W F tg iter (liftI gs)) (hg : DG I K F tg gg) (hb : DSs I K W F body (lift gb)) (hp : ∀ i, PassesOwn (model (F i).prog (F i).w) (F i).A (F i).env (F i).xe := by first | exact fun _ => PassesOwn.never | exact fun _ => passes_of rfl) (hs : ∀ i x, foldedSetIterable iter (F i).env x = pure x := by exact fun _ _ => rfl) : DS I K W F (.For tg iter body [] pos) (lift (pFor gg gs gb)) := by
  refine @Hush.hu _ (by
  simp only [lift_for]
  exact  ds_for Wf hi hg hb hp hs) ?_
  walk_at "hu"
theorem qs_par2 {x y : Str} {a b : Expr} {px py pt : Pos} {kt k2 pt2} {g : Pm (List D)} (Wf : Fm P w K mg base k N F) (i j : Nat) (hij : i ≠ j) (h : DA I K W F [a, b] (lift g)) (hw : ∀ l, swappedStores [.Tuple [.Name x px, .Name y py] kt pt] (.Tuple [a, b] k2 pt2) (F l).env = pure (some [x, y])) (hi : ∀ l, (F l).N[i]? = some x := by exact fun _ => rfl) (hj : ∀ l, (F l).N[j]? = some y := by exact fun _ => rfl) (hx : ∀ l, (F l).env.scope.names.lookup x = some .local := by exact fun _ => rfl) (hy : ∀ l, (F l).env.scope.names.lookup y = some .local := by exact fun _ => rfl) (hs : ∀ l, swapsWithSole [.Tuple [.Name x px, .Name y py] kt pt] (.Tuple [a, b] k2 pt2) pos.line (F l).env = pure false := by exact fun _ => rfl) : DS I K W F (.Assign [.Tuple [.Name x px, .Name y py] kt pt] (.Tuple [a, b] k2 pt2) pos) (lift (pPar2 i j g)) := by
  refine @Hush.hu _ (by
  simp only [lift_par2]
  exact  ds_par2 Wf i j hij h hw hi hj hx hy hs) ?_
  walk_at "hu"
theorem qs_par3 {x y z : Str} {a b c : Expr} {px py pz pt : Pos} {kt k2 pt2} {g : Pm (List D)} (Wf : Fm P w K mg base k N F) (i j l : Nat) (hij : i ≠ j) (hil : i ≠ l) (hjl : j ≠ l) (h : DA I K W F [a, b, c] (lift g)) (hw : ∀ q, swappedStores [.Tuple [.Name x px, .Name y py, .Name z pz] kt pt] (.Tuple [a, b, c] k2 pt2) (F q).env = pure (some [x, y, z])) (hi : ∀ q, (F q).N[i]? = some x := by exact fun _ => rfl) (hj : ∀ q, (F q).N[j]? = some y := by exact fun _ => rfl) (hl : ∀ q, (F q).N[l]? = some z := by exact fun _ => rfl) (hx : ∀ l, (F l).env.scope.names.lookup x = some .local := by exact fun _ => rfl) (hy : ∀ l, (F l).env.scope.names.lookup y = some .local := by exact fun _ => rfl) (hz : ∀ l, (F l).env.scope.names.lookup z = some .local := by exact fun _ => rfl) (hs : ∀ q, swapsWithSole [.Tuple [.Name x px, .Name y py, .Name z pz] kt pt] (.Tuple [a, b, c] k2 pt2) pos.line (F q).env = pure false := by exact fun _ => rfl) : DS I K W F (.Assign [.Tuple [.Name x px, .Name y py, .Name z pz] kt pt] (.Tuple [a, b, c] k2 pt2) pos) (lift (pPar3 i j l g)) := by
  refine @Hush.hu _ (by
  simp only [lift_par3]
  exact  ds_par3 Wf i j l hij hil hjl h hw hi hj hl hx hy hz hs) ?_
  walk_at "hu"
theorem qe_lc2 {elt tg iter tg1 iter1 : Expr} {ifs ifs1 : List Expr} {scope : Scope} (own : List (Str × Nat)) (vs1 : List Nat) {gs gs1 : Pm (List D)} {gg gg1 : D → Env → Option Env} {gt gt1 : Pm Bool} {ge : Pm D} (Wf : Fm P w K mg base k N F) (ok : ∀ i, BlkOk (F i).N (F i).env.scope scope own) (hv : ∀ i ∈ vs1, i ∈ own.map (·.2)) (hi : DI I K W F tg iter (liftI gs)) (hg : DGv I K (blkF scope F) (own.map (·.2)) tg gg) (ht : DTs I K WF (blkF scope F) ifs (lift gt)) (hi1 : DI I K WF (blkF scope F) tg1 iter1 (liftI gs1)) (hg1 : DGv I K (blkF scope F) vs1 tg1 gg1) (ht1 : DTs I K WF (blkF scope F) ifs1 (lift gt1)) (he : DE I K WF (blkF scope F) elt (lift ge)) (hs : ∀ i x, foldedSetIterable iter (F i).env x = pure x := by exact fun _ _ => rfl) (hs1 : ∀ env x, foldedSetIterable iter1 env x = pure x := by exact fun _ _ => rfl) : DE I K W F (.ListComp elt [⟨tg, iter, ifs, 0⟩, ⟨tg1, iter1, ifs1, 0⟩] scope pos) (lift (pMk mLst (pLc2 gg (own.map (·.2)) gs gt gs1 gg1 vs1 gt1 ge))) := by
  refine @Hush.hu _ (by
  simp only [lift_lc2, lift_mk]
  exact  de_lc2 own vs1 Wf ok hv hi hg ht hi1 hg1 ht1 he hs hs1) ?_
  walk_at "hu"
theorem qp_nil  : DP I K W F pos [] [] (lift (pPnil)) := by
  refine @Hush.hu _ (by
  simp only [lift_pnil]
  exact  dp_nil) ?_
  walk_at "hu"
theorem qp_cons {x : Str} {j : Nat} {p : Pos} {v : Expr} {ks : List (Option Expr)} {vs : List Expr} {g : Pm D} {gr : Pm (List (Key × D))} (h : DE I K W F v (lift g)) (hr : DP I K W F pos ks vs (lift gr)) : DP I K W F pos (some (.Constant (.str x) j p) :: ks) (v :: vs) (lift (pPcons (.inr x) g gr)) := by
  refine @Hush.hu _ (by
  simp only [lift_pcons]
  exact  dp_cons h hr) ?_
  walk_at "hu"
theorem qe_dget {keys : List (Option Expr)} {values : List Expr} {dpos apos cpos : Pos} {e f : Expr} {g : Pm (List (Key × D))} {ga gb : Pm D} (Wf : Fm P w K mg base k N F) (h : DP I K W F dpos keys values (lift g)) (ha : DE I K W F e (lift ga)) (hb : DE I K W F f (lift gb)) (hall : keys.all (·.isSome) = true := by rfl) (hl : keys.length = values.length := by rfl) (h0 : keys ≠ [] := by exact fun z => nomatch z) (h15 : keys.length ≤ 15 := by decide) (m : ∀ i, M2 (F i) (.Dict keys values dpos) "get" apos e f cpos := by exact fun _ => ⟨rfl, rfl, rfl, rfl⟩) : DE I K W F (.Call (.Attribute (.Dict keys values dpos) "get" apos) [e, f] [] cpos) (lift (pDget g ga gb)) := by
  refine @Hush.hu _ (by
  simp only [lift_dget]
  exact  de_dget Wf h ha hb hall hl h0 h15 m) ?_
  walk_at "hu"
theorem qe_dsub {keys : List (Option Expr)} {values : List Expr} {dpos : Pos} {e : Expr} {g : Pm (List (Key × D))} {ga : Pm D} (Wf : Fm P w K mg base k N F) (h : DP I K W F dpos keys values (lift g)) (ha : DE I K W F e (lift ga)) (hall : keys.all (·.isSome) = true := by rfl) (hl : keys.length = values.length := by rfl) (h0 : keys ≠ [] := by exact fun z => nomatch z) (h15 : keys.length ≤ 15 := by decide) (hs : NoSl e := by exact fun _ _ => rfl) : DE I K W F (.Subscript (.Dict keys values dpos) e pos) (lift (pDsub g ga)) := by
  refine @Hush.hu _ (by
  simp only [lift_dsub]
  exact  de_dsub Wf h ha hall hl h0 h15 hs) ?_
  walk_at "hu"
theorem qi_seq {tg e : Expr} {g : Pm D} (Wf : Fm P w K mg base k N F) (h : DE I K W F e (lift g)) : DI I K W F tg e (liftI (pIt g)) := by
  refine Hush.hu (di_le (di_seq Wf h) fun env t => le_it env t) ?_
  walk_at "hu"
theorem qe_lidx {o e : Expr} {apos cpos : Pos} {go ge : Pm D} (Wf : FmC cb P w K mg base k N F) (ho : DE I K W F o (lift go)) (he : DE I K W F e (lift ge))
    (hbase : ∀ i, attributeBase o "index" (F i).env (eval o (F i).env) = eval o (F i).env := by exact fun _ => rfl)
    (hfew : ∀ i, ((backTo cpos (starEach [e] (F i).env)).all (fun x => !x.1) && (backToKw cpos (keywordEach [] (F i).env)).all (fun x => x.1.isSome)
      && decide (([e] : List Expr).length + ([] : List Keyword).length + (if ([] : List Keyword).isEmpty then 0 else 1) < 30)) = true := by exact fun _ => rfl)
    (hline : (apos.endLine == cpos.line) = true := by rfl) (hs : ∀ i, starEach [e] (F i).env = (false, eval e (F i).env) :: starEach [] (F i).env := by exact fun _ => rfl) (hpl : ∀ i, (backTo cpos (starEach [] (F i).env)).any (·.1) = false := by exact fun _ => rfl) :
    DE I K W F (.Call (.Attribute o "index" apos) [e] [] cpos) (lift (pOp fLIdx go ge)) := by
  refine Hush.hu (de_le (de_lidxT Wf ho he hbase hfew hline hs hpl) fun env t => le_opT fLIdx_ty env t) ?_
  walk_at "hu"
theorem fLCnt_ty : ∀ x y z, fLCnt x y = some z → isLs x = true := by
  refine Hush.hu (fun x y z h => by
  unfold fLCnt at h
  split at h
  · rfl
  · cases h) ?_
  walk_at "hu"
theorem qe_lcnt {o e : Expr} {apos cpos : Pos} {go ge : Pm D} (Wf : FmC cb P w K mg base k N F) (ho : DE I K W F o (lift go)) (he : DE I K W F e (lift ge))
    (hbase : ∀ i, attributeBase o "count" (F i).env (eval o (F i).env) = eval o (F i).env := by exact fun _ => rfl)
    (hfew : ∀ i, ((backTo cpos (starEach [e] (F i).env)).all (fun x => !x.1) && (backToKw cpos (keywordEach [] (F i).env)).all (fun x => x.1.isSome)
      && decide (([e] : List Expr).length + ([] : List Keyword).length + (if ([] : List Keyword).isEmpty then 0 else 1) < 30)) = true := by exact fun _ => rfl)
    (hline : (apos.endLine == cpos.line) = true := by rfl) (hs : ∀ i, starEach [e] (F i).env = (false, eval e (F i).env) :: starEach [] (F i).env := by exact fun _ => rfl) (hpl : ∀ i, (backTo cpos (starEach [] (F i).env)).any (·.1) = false := by exact fun _ => rfl) :
    DE I K W F (.Call (.Attribute o "count" apos) [e] [] cpos) (lift (pOp fLCnt go ge)) := by
  refine Hush.hu (de_le (de_lcnt Wf ho he hbase hfew hline hs hpl) fun env t => le_opT fLCnt_ty env t) ?_
  walk_at "hu"
theorem qe_call {x : Str} {e : Expr} {es : List Expr} {p : Pos} {j n : Nat} {m : List D → Option D} {g : Pm (List D)} (Wf : Fm P w K mg base k N F) (G : Gf P w K mg base x j n m) (hj : j ≤ k) (ha : DA I K W F (e :: es) (lift g))
    (hg : ∀ i, Gl (F i) x := by exact fun _ => rfl) (hdb : (x == ("__debug__" : Str)) = false := by decide)
    (he : ∀ i, starEach (e :: es) (F i).env = (false, eval e (F i).env) :: starEach es (F i).env := by exact fun _ => rfl) (hpl : ∀ i, (backTo pos (starEach es (F i).env)).any (·.1) = false := by exact fun _ => rfl) :
    DE I K W F (.Call (.Name x p) (e :: es) [] pos) (lift (pMk m g)) := by
  refine @Hush.hu _ (by
  rw [lift_mk]
  exact de_call Wf G hj ha hg hdb he hpl) ?_
  walk_at "hu"
theorem qs_never {st : Stmt} : DS I K W F st (lift pNo) := ds_never
theorem dg_n (Wf : FmC cb P w K mg base k N F) (i : Nat) {x : Str} (hN : ∀ j, (F j).N[i]? = some x := by exact fun _ => rfl) (hx : ∀ j, Loc (F j).env.scope x := by first | exact fun _ => Or.inl rfl | exact fun _ => Or.inr rfl)
    (hf : ∀ j, (F j).fn x = true ∨ (F j).env.scope.names.lookup x = some .local := by first | exact fun _ => Or.inl rfl | exact fun _ => Or.inr rfl) : DG I K F (.Name x pos) (gN i) := by
  refine Hush.hu (dg_name Wf i hN hx hf) ?_
  walk_at "hu"
theorem dgs_e : DGs I K F [] gE := dgs_nil
def sFzS (i : Nat) (g : Sm Out) : Sm Out := fun env t => match env[i]? with
  | some (some x) => (frz x t).bind fun d t => g (env.set i (some d)) t
  | _ => .no
theorem dss_frz {st : List Stmt} {g : Sm Out} (i : Nat) (h : DSs I K W F st g) : DSs I K W F st (sFzS i g) := by
  refine Hush.hu (fun j => (h j).imp fun Dn σ H ⟨env, s, ok, re, h⟩ => by
  unfold sFzS at h
  split at h
  · rename_i x e0
    obtain ⟨v, e1, r1⟩ := re.at_ i x e0
    obtain ⟨rd, s', h, pk, r2⟩ := frz_at ok r1 (R.post_bind h)
    have hl : i < σ.length := (List.getElem?_eq_some_iff.mp e1).1
    have re2 := (re.same pk.same).set (i := i) r2
    have eσ : σ.set i (some v) = σ := by
      apply List.ext_getElem?
      intro m
      by_cases c : m = i
      · subst c
        rw [List.getElem?_set_self hl, e1]
      · rw [List.getElem?_set_ne (fun z => c z.symm)]
    rw [eσ] at re2
    exact ⟨_, s', pk.ok, re2, R.Post.mono h (fun o t hf => fin_from pk hf) fun x t hx σ' => xp_from pk (hx σ')⟩
  · exact h.elim) ?_
  walk_at "hu"
end
end Dl
namespace Dl
open PySem L2 PyProof.Rows
def spLawT (T : List (Addr × Str)) (K : PySem.W.Frag) : Sp := fun vs H Q _ => ∃ (a : Addr) (ns : List Int), vs = [.ref a] ∧ SqL K H a (ns.map V.int) ∧ ns.length ≤ 63 ∧ LamX.Tabs T H ∧ ∀ H', Q (.bl true) H'
def siLaw (mg : Str → Option Value) (T : List (Addr × Str)) (q : Str) (cells : List (Str × Addr)) (lams : Nat → Option (Arguments × Expr × Scope)) : SI where
  mg := mg
  T := T
  C := LamC q cells lams
  cs := lamC_same
  X := fun _ _ _ _ => False
  xs := fun _ h => h
  w0 := fun _ _ => none
section
variable {P : Program} {w : World} {K : PySem.W.Frag} {mg : Str → Option Value} {base : Heap}
theorem ok_lawN {scr : Str} {st : Stmt} {f : Addr} {N : List Str} {k : Nat} {T0 : List (Addr × Str)} {lams : Nat → Option (Arguments × Expr × Scope)} {gs : Sm Out} {oc kV doc pm cdv ct : Value} {od an : Option Addr} {osl : Array (Option Value)}
    (lk : K.lookup f = some ⟨oc, od, .func (PySem.W.fnOf "law" "law" (defArgs st) (defBody st) (defScope st) .none kV doc pm an cdv ct), osl⟩) (hcd : PySem.W.codeIn K cdv "law" = true) (S : FnScope N [scr] (defScope st))
    (hb : ∀ (A : Around) (outer : List PySem.Env) (s : Shared) (H : Hp) (E : XK), Fm P w K mg base k N (bodyX P w K mg base N "law" st f cdv A outer s H E) →
      DSs (siLaw mg T0 ("law.<locals>.<lambda>") (cellsFrom (s.heap.objs.size + 1) (defScope st).names []) lams) K WF (bodyX P w K mg base N "law" st f cdv A outer s H E) (defBody st) gs)
    (hfin : ∀ (ns : List Int), ns.length ≤ 63 → ∃ t, gs (startE N.length 1 [.sc ns]) [] = .ok (.rt (.d (.bool true))) t) :
    FnOk P w K mg base CX0 (k + 1) f (PySem.W.fnOf "law" "law" (defArgs st) (defBody st) (defScope st) .none kV doc pm an cdv ct) [scr] (spLawT T0 K) := by
  refine @Hush.hu _ (by
  refine fn_of lk hcd S (fun vs H Q E h => by obtain ⟨a, ns, rfl, _⟩ := h; rfl) fun A outer s H vs Q E hr h => ?_
  obtain ⟨a, ns, rfl, hS, hl, hT, hQ⟩ := h
  have Wf : Fm P w K mg base k N (bodyX P w K mg base N "law" st f cdv A outer s H E) := ⟨fun _ => rfl, fun _ => rfl, fun _ => rfl, fun _ => rfl, fun _ => rfl, fun _ _ => rfl, fun _ _ => hr, fun _ => room_un hr, S.nd, fun _ => rfl⟩
  refine ⟨_, PSs.nox (hb A outer s H E Wf ()), ?_⟩
  obtain ⟨t, e⟩ := hfin ns hl
  have ok : (siLaw mg T0 "law.<locals>.<lambda>" (cellsFrom (s.heap.objs.size + 1) (defScope st).names []) lams).ok K ⟨[], fun _ _ => none, fun _ => none⟩ H := by
    refine ⟨fun n p k ts q => ?_, fun n p k ts n' p' k' ts' a dx dx' q => ?_, fun n p x q => (by cases q), fun a o q => (by cases q), hT, fun n p x q => (by cases q)⟩
    · obtain ⟨T, e1, _⟩ := getT_some q
      cases e1
    · obtain ⟨T, e1, _⟩ := getT_some q
      cases e1
  have hsq : SqL K (Hr (siLaw mg T0 "law.<locals>.<lambda>" (cellsFrom (s.heap.objs.size + 1) (defScope st).names []) lams) ⟨[], fun _ _ => none, fun _ => none⟩ H).h a (ns.map V.int) := by
    rcases hS with hS | hS
    · have nM : ∀ {b o}, H b = some o → (∀ ps, o ≠ .tbl ps) → (Hr (siLaw mg T0 "law.<locals>.<lambda>" (cellsFrom (s.heap.objs.size + 1) (defScope st).names []) lams) ⟨[], fun _ _ => none, fun _ => none⟩ H).h b = some o := fun {b o} e hn => hr_in e fun m => by
        rcases m with ⟨n, p, k, ts, b1, b2, q, _⟩ | ⟨o', q⟩ | ⟨q, hq, rfl⟩
        · obtain ⟨T, e1, _⟩ := getT_some q
          cases e1
        · cases q
        · obtain ⟨ps, z, _⟩ := hT q hq
          rw [z] at e
          exact hn ps (Option.some.inj e).symm
      rcases hS with hS | ⟨o, hS⟩
      · exact .inl (.inl (nM hS fun ps z => nomatch z))
      · exact .inl (.inr ⟨o, nM hS fun ps z => nomatch z⟩)
    · exact .inr hS
  refine ⟨startE N.length 1 [.sc ns], ⟨[], fun _ _ => none, fun _ => none⟩, ok, re_start (ds := [.sc ns]) (.cons ⟨a, rfl, hsq, hl⟩ .nil) rfl, ?_⟩
  show (gs (startE N.length 1 [.sc ns]) []).Post _ _
  rw [e]
  exact fun v s' H' _ _ r => by
    have r : Dq K _ v (.bool true) := r
    cases r
    exact hQ H') ?_
  walk_at "hu"
end
end Dl
namespace Dl
open PySem L2 LamX
def stE : Stmt → Expr
  | .If t _ _ _ => t
  | .Assign _ v _ => v
  | .Return (some v) _ => v
  | .Expr v _ => v
  | .For _ it _ _ _ => it
  | _ => .Constant .none 0 ⟨0, 0, 0, 0⟩
def stB : Stmt → List Stmt
  | .If _ b _ _ => b
  | .For _ _ b _ _ => b
  | .While _ b _ _ => b
  | _ => []
def stN (l : List Stmt) (j : Nat) : Stmt := l.getD j (.Pass ⟨0, 0, 0, 0⟩)
def exN (l : List Expr) (j : Nat) : Expr := l.getD j (.Constant .none 0 ⟨0, 0, 0, 0⟩)
def exC : Expr → Nat → Expr
  | .BoolOp _ vs _, j => exN vs j
  | .UnaryOp _ e _, _ => e
  | .Compare l _ cs _, j => match j with
    | 0 => l
    | j + 1 => exN cs j
  | .Call f as _ _, j => match j with
    | 0 => f
    | j + 1 => exN as j
  | .List es _, j => exN es j
  | .Tuple es _ _, j => exN es j
  | .BinOp l _ r _, j => match j with
    | 0 => l
    | _ => r
  | .IfExp c a b _, j => match j with
    | 0 => c
    | 1 => a
    | _ => b
  | .Subscript a b _, j => match j with
    | 0 => a
    | _ => b
  | e, _ => e
def lamX : Expr → Option (Arguments × Expr × Scope)
  | .Lambda p b s _ => some (p, b, s)
  | _ => none
def lamPB (N : List Str) (sc scope : Scope) : Bool :=
  decide (scope.kind = .function) && !scope.isCoroutine && !scope.isGenerator && scope.names.all fun y => !decide (y.2 = .cell) && (!decide (y.2 = .local) || !decide (y.1 ∈ N)) && (!decide (y.2 = .free) || decide (sc.names.lookup y.1 = some .cell) || decide (sc.names.lookup y.1 = some .free))
theorem lamP_by {N : List Str} {sc scope : Scope} (h : lamPB N sc scope = true) : LamP N sc scope := by
  refine @Hush.hu _ (by
  unfold lamPB at h
  simp only [Bool.and_eq_true, Bool.or_eq_true, Bool.not_eq_true', decide_eq_true_eq, decide_eq_false_iff_not, List.all_eq_true] at h
  obtain ⟨⟨⟨h1, h2⟩, h3⟩, h4⟩ := h
  refine ⟨h1, h2, h3, fun y hy => (h4 y hy).1.1, fun y hy e => ?_, fun y hy e => ?_⟩
  · rcases (h4 y hy).1.2 with z | z
    · exact absurd e z
    · exact z
  · rcases (h4 y hy).2 with (z | z) | z
    · exact absurd e z
    · exact .inl z
    · exact .inr z) ?_
  walk_at "hu"
def exF (l : List (Str × Bool)) (c : Str) : Option Bool := l.lookup c
theorem exF_mem {l : List (Str × Bool)} {c : Str} {b : Bool} (h : exF l c = some b) : (c, b) ∈ l := by
  refine Hush.hu (PySem.mem_of_lookup h) ?_
  walk_at "hu"
inductive TabQ (mg : Str → Option Value) (Q : Addr → Bool → Prop) : List (Str × Bool) → Prop
  | nil : TabQ mg Q []
  | cons {c : Str} {b : Bool} {C : Addr} {l : List (Str × Bool)} : mg c = some (.ref C) → Q C b → TabQ mg Q l → TabQ mg Q ((c, b) :: l)
theorem TabQ.at_ {mg : Str → Option Value} {Q : Addr → Bool → Prop} : ∀ {l : List (Str × Bool)}, TabQ mg Q l → ∀ c b, (c, b) ∈ l → ∀ C, mg c = some (.ref C) → Q C b
  | _, .nil, c, b, h, _, _ => nomatch h
  | _, .cons h1 h2 t, c, b, h, C, hC => by
    rcases List.mem_cons.mp h with e | h
    · cases e
      rw [h1] at hC
      cases hC
      exact h2
    · exact t.at_ c b h C hC
theorem exT_of {K : PySem.W.Frag} {mg : Str → Option Value} {x : Str} {D : Addr} {l : List (Str × Bool)} (h : mg x = some (.ref D)) (t : TabQ mg (fun C b => PySem.W.exmOne K (.ref C) (.ref D) = some b) l) : ExT K mg x (exF l) := by
  refine Hush.hu (⟨D, h, fun c b e C hC => t.at_ c b (exF_mem e) C hC⟩) ?_
  walk_at "hu"
theorem isT_of {K : PySem.W.Frag} {mg : Str → Option Value} {x : Str} {D : Addr} {l : List (Str × Bool)} (h : mg x = some (.ref D)) (t : TabQ mg (fun C b => ExcC K C ∧ PySem.W.kitOne K (.ref C) (.ref D) = some b) l) : IsT K mg x (exF l) := by
  refine Hush.hu (⟨D, h, fun c b e C hC => t.at_ c b (exF_mem e) C hC⟩) ?_
  walk_at "hu"
inductive TabC (mg : Str → Option Value) (Q : Addr → Prop) : List Str → Prop
  | nil : TabC mg Q []
  | cons {c : Str} {C : Addr} {l : List Str} : mg c = some (.ref C) → Q C → TabC mg Q l → TabC mg Q (c :: l)
theorem TabC.at_ {mg : Str → Option Value} {Q : Addr → Prop} : ∀ {l : List Str}, TabC mg Q l → ∀ c ∈ l, ∀ C, mg c = some (.ref C) → Q C
  | _, .nil, c, h, _, _ => nomatch h
  | _, .cons h1 h2 t, c, h, C, hC => by
    rcases List.mem_cons.mp h with e | h
    · cases e
      rw [h1] at hC
      cases hC
      exact h2
    · exact t.at_ c h C hC
end Dl
namespace Dl
open PySem L2
section
variable {ι : Type} {P : Program} {w : World} {K : PySem.W.Frag} {mg : Str → Option Value} {base : Heap} {k : Nat} {N : List Str} {F : ι → Cx} {I : SI} {W : WX} {pos : Pos}
theorem tg_alLc2 {g g1 : TG} {vs vs1 : List Nat} {gs gs1 : Sm Itb} {gg gg1 : D → Env → Option Env} {gt gt1 : Sm Bool} {ge : Sm D} (hg : EvG I K g gg) (hs : Str1 g vs) (hg1 : EvG I K g1 gg1) (hs1 : Str1 g1 vs1) :
    ∀ σ H Q, tG I K W (sAlL (sLc2 gg vs gs gt gs1 gg1 vs1 gt1 ge)) σ H Q → tLc2 (tGI I K W gs) g (tGB I K WF gt) (tGI I K WF gs1) g1 (tGB I K WF gt1) (tG I K WF ge) vs vs1 σ H Q := by
  refine Hush.hu (fun σ H Q ⟨env, s, ok, re, h⟩ => by
  have h : ((gs env s.t).bind fun it t => (match it with
      | .st xs => if xs.length ≤ 1000 then goC2 gg (wipeE env vs) gt gs1 gg1 vs1 gt1 ge xs t else .no
      | .dy _ _ => .no : R (List D)).bind newLs).Post (fun d t => ∀ v s' H', s'.t = t → Po I K s H s' H' → Rp K (Hr I s' H') d v → Q v H') (XP I K W s σ H) := by
    unfold sAlL sLc2 at h
    cases q : gs env s.t with
    | no => rw [q] at h; exact h
    | ok a t => rw [q] at h; exact h
    | ex x t => rw [q] at h; exact h
  refine stepI (Po.refl ok) re h fun it J s1 H1 p1 _ wk h => ?_
  cases it with
  | dy n p => exact h.elim
  | st xs =>
    have h : ((if xs.length ≤ 1000 then goC2 gg (wipeE env vs) gt gs1 gg1 vs1 gt1 ge xs s1.t else .no : R (List D)).bind newLs).Post (fun d t => ∀ v s' H', s'.t = t → Po I K s H s' H' → Rp K (Hr I s' H') d v → Q v H') (XP I K W s σ H) := h
    by_cases c : xs.length ≤ 1000
    · rw [if_pos c] at h
      intro L hL
      have re1 := re.same p1.same
      have ok1 := p1.ok
      have zL := ok_zL ok1 hL
      have ldl : ∀ xs, Ld (.lst xs) := fun xs => .inl ⟨xs, rfl⟩
      obtain ⟨Pr, hPr⟩ : ∃ Pr : List D → Ts → Prop, Pr = fun ys t => (newLs ys t).Post (fun d t => ∀ v s' H', s'.t = t → Po I K s H s' H' → Rp K (Hr I s' H') d v → Q v H') (XP I K W s σ H) := ⟨_, rfl⟩
      have h := R.post_bind h
      rw [← hPr] at h
      refine ⟨fun i m H2 => m = xs.length - i ∧ i ≤ xs.length ∧ ∃ (s3 : St1) (acc : List V) (dn : List D), Gro I K L s1 H1 (.lst acc) s3 H2 ∧ RpL K (Hr I s3 H2) dn acc ∧ acc.length ≤ i * 1000 ∧
        (goC2 gg (wipeE env vs) gt gs1 gg1 vs1 gt1 ge (xs.drop i) s3.t).Post (fun ys t => Pr (dn ++ ys) t) (XP I K W s σ H), ⟨_, rfl, Nat.zero_le _, s1.zz (upd s1.Z L (.lst [])), [], [], Gro.start ok1 hL (ldl _), .nil, Nat.zero_le _, h⟩, ?_⟩
      rintro i m H2 ⟨rfl, hi', s3, acc, dn, gr, ra, hal, h3⟩
      have wki := wk s3 H2 gr.ok gr.sm i
      by_cases hlt : i < xs.length
      · right
        obtain ⟨x, hx⟩ : ∃ x, xs[i]? = some x := ⟨xs[i], List.getElem?_eq_getElem hlt⟩
        obtain ⟨go, yl⟩ := wki (some x) (by show some xs[i]? = _; rw [hx])
        refine ⟨go, fun H' => i + 1 ≤ xs.length ∧ ∃ (s3 : St1) (acc : List V) (dn : List D), Gro I K L s1 H1 (.lst acc) s3 H' ∧ RpL K (Hr I s3 H') dn acc ∧ acc.length ≤ (i + 1) * 1000 ∧
          (goC2 gg (wipeE env vs) gt gs1 gg1 vs1 gt1 ge (xs.drop (i + 1)) s3.t).Post (fun ys t => Pr (dn ++ ys) t) (XP I K W s σ H), fun H' q => ⟨xs.length - (i + 1), by omega, rfl, q⟩, fun v H3 y => ?_⟩
        obtain ⟨y1, y3⟩ := yl v H3 y
        subst y1
        rw [drop_get hx] at h3
        unfold goC2 at h3
        obtain ⟨en, e6, h3⟩ := post_ofO (R.post_bind h3)
        have rw1 := re_wipe (re1.same gr.sm) vs
        refine hs v (wipe σ vs) H3 _ _ (fun σ2 H2 w2 q => ⟨w2.trans (wipe_wipe σ vs), q⟩) (hg (wipeE env vs) s3 (wipe σ vs) H3 x v en _ gr.ok rw1 y3 e6 fun σ2 re2 => ?_)
        refine ⟨en, s3, gr.ok, re2, (nox_post h3).mono (fun b t hb s4 H4 e4 p4 => ?_) fun _ _ f => f.elim⟩
        subst e4
        have gr4 := gr.step p4 hL zL
        cases b with
        | false =>
          rw [if_neg Bool.false_ne_true] at hb ⊢
          exact ⟨hlt, s4, acc, dn, gr4, rpl_same p4.same ra, by omega, hb⟩
        | true =>
          rw [if_pos rfl] at hb ⊢
          refine ⟨en, s4, p4.ok, re2.same p4.same, (nox_post hb).mono (fun it t hi J1 s5 H5 e5 p5 wk1 => ?_) fun _ _ f => f.elim⟩
          subst e5
          cases it with
          | dy n p => exact hi.elim
          | st us =>
            have hi : (if us.length ≤ 1000 then (goC gg1 (wipeE en vs1) gt1 ge us s5.t).bind fun z t => (goC2 gg (wipeE env vs) gt gs1 gg1 vs1 gt1 ge (xs.drop (i + 1)) t).bind fun y t => .ok (z ++ y) t else .no : R (List D)).Post (fun ys t => Pr (dn ++ ys) t) (XP I K W s σ H) := hi
            by_cases cu : us.length ≤ 1000
            · rw [if_pos cu] at hi
              have gr5 := gr4.step p5 hL zL
              have re5 := (re2.same p4.same).same p5.same
              refine ⟨fun j n H6 => n = us.length - j ∧ j ≤ us.length ∧ ∃ (s8 : St1) (acc2 : List V) (dn2 : List D), Gro I K L s1 H1 (.lst acc2) s8 H6 ∧ VLe (Hr I s5 H5) (Hr I s8 H6) ∧ RpL K (Hr I s8 H6) (dn ++ dn2) acc2 ∧ acc2.length ≤ acc.length + j ∧
                (goC gg1 (wipeE en vs1) gt1 ge (us.drop j) s8.t).Post (fun zs t => (goC2 gg (wipeE env vs) gt gs1 gg1 vs1 gt1 ge (xs.drop (i + 1)) t).Post (fun ys t => Pr (dn ++ (dn2 ++ zs) ++ ys) t) (XP I K W s σ H)) (XP I K W s σ H),
                ⟨_, rfl, Nat.zero_le _, s5, acc, [], gr5, VLe.refl _, by rw [List.append_nil]; exact rpl_same p5.same (rpl_same p4.same ra), Nat.le_refl _, (R.post_bind hi).mono (fun zs t hz => (R.post_bind hz).mono (fun ys t q => by rw [List.nil_append, List.append_assoc]; exact q) fun _ _ q => q) fun _ _ q => q⟩, ?_⟩
              rintro j n H6 ⟨rfl, hj', s8, acc2, dn2, gr8, sm8, ra8, hal8, h8⟩
              have wkj := wk1 s8 H6 gr8.ok sm8 j
              by_cases hlt2 : j < us.length
              · right
                obtain ⟨u, hu⟩ : ∃ u, us[j]? = some u := ⟨us[j], List.getElem?_eq_getElem hlt2⟩
                obtain ⟨go1, yl1⟩ := wkj (some u) (by show some us[j]? = _; rw [hu])
                refine ⟨go1, fun H' => j + 1 ≤ us.length ∧ ∃ (s8 : St1) (acc2 : List V) (dn2 : List D), Gro I K L s1 H1 (.lst acc2) s8 H' ∧ VLe (Hr I s5 H5) (Hr I s8 H') ∧ RpL K (Hr I s8 H') (dn ++ dn2) acc2 ∧ acc2.length ≤ acc.length + (j + 1) ∧
                  (goC gg1 (wipeE en vs1) gt1 ge (us.drop (j + 1)) s8.t).Post (fun zs t => (goC2 gg (wipeE env vs) gt gs1 gg1 vs1 gt1 ge (xs.drop (i + 1)) t).Post (fun ys t => Pr (dn ++ (dn2 ++ zs) ++ ys) t) (XP I K W s σ H)) (XP I K W s σ H), fun H' q => ⟨us.length - (j + 1), by omega, rfl, q⟩, fun v2 H7 y => ?_⟩
                obtain ⟨z1, z3⟩ := yl1 v2 H7 y
                subst z1
                rw [drop_get hu] at h8
                unfold goC at h8
                obtain ⟨en1, f6, h8⟩ := post_ofO (R.post_bind h8)
                have rw2 := re_wipe (re5.same sm8) vs1
                refine hs1 v2 (wipe σ2 vs1) H7 _ _ (fun σ3 H2 w2 q => ⟨w2.trans (wipe_wipe σ2 vs1), q⟩) (hg1 (wipeE en vs1) s8 (wipe σ2 vs1) H7 u v2 en1 _ gr8.ok rw2 z3 f6 fun σ3 re3 => ?_)
                refine ⟨en1, s8, gr8.ok, re3, (nox_post h8).mono (fun b t hb s9 H8 e9 p8 => ?_) fun _ _ f => f.elim⟩
                subst e9
                have gr9 := gr8.step p8 hL zL
                cases b with
                | false =>
                  rw [if_neg Bool.false_ne_true] at hb ⊢
                  exact ⟨hlt2, s9, acc2, dn2, gr9, sm8.trans p8.same, rpl_same p8.same ra8, by omega, hb⟩
                | true =>
                  rw [if_pos rfl] at hb ⊢
                  refine ⟨en1, s9, p8.ok, re3.same p8.same, (nox_post hb).mono (fun yd t hy yv s10 H10 e10 p10 r10 => ?_) fun _ _ f => f.elim⟩
                  subst e10
                  have gr10 := gr9.step p10 hL zL
                  refine ⟨acc2, gr10.at_, Nat.lt_of_le_of_lt (show acc2.length ≤ 1001000 by have : i * 1000 ≤ 1000 * 1000 := Nat.mul_le_mul_right 1000 (by omega); omega) (by decide), hlt2, s10.zz (upd s1.Z L (.lst (acc2 ++ [yv]))), acc2 ++ [yv], dn2 ++ [yd], gr10.put hL zL (ldl _), sm8.trans (p8.same.trans (p10.same.trans gr10.psm)), ?_, by rw [List.length_append]; show acc2.length + 1 ≤ _; omega, ?_⟩
                  · rw [← List.append_assoc]
                    exact rpl_app (rpl_same (p8.same.trans (p10.same.trans gr10.psm)) ra8) (.cons (rp_same gr10.psm r10) .nil)
                  · refine (R.post_bind hy).mono (fun zs t q => ?_) fun _ _ q => q
                    have e : dn2 ++ [yd] ++ zs = dn2 ++ (yd :: zs) := by rw [List.append_assoc]; rfl
                    rw [e]
                    exact q
              · left
                have ej : j = us.length := by omega
                subst ej
                refine ⟨wkj none (by show some us[us.length]? = _; rw [List.getElem?_eq_none (Nat.le_refl _)]), hlt, s8, acc2, dn ++ dn2, gr8, ra8, by omega, ?_⟩
                rw [List.drop_of_length_le (Nat.le_refl _)] at h8
                have h8 : (goC2 gg (wipeE env vs) gt gs1 gg1 vs1 gt1 ge (xs.drop (i + 1)) s8.t).Post (fun ys t => Pr (dn ++ (dn2 ++ []) ++ ys) t) (XP I K W s σ H) := h8
                rw [List.append_nil] at h8
                exact h8
            · rw [if_neg cu] at hi; exact hi.elim
      · left
        have ei : i = xs.length := by omega
        subst ei
        refine ⟨wki none (by show some xs[xs.length]? = _; rw [List.getElem?_eq_none (Nat.le_refl _)]), ?_⟩
        rw [List.drop_of_length_le (Nat.le_refl _)] at h3
        have h3 : Pr (dn ++ []) s3.t := h3
        rw [List.append_nil, hPr] at h3
        obtain ⟨⟨c1, c2⟩, hp⟩ := post_ite h3
        obtain ⟨e1, e2⟩ := gro_alloc (k := .lst) zL gr hL rfl gr.at_ ra c1
        exact hp (.ref L) _ H2 rfl (p1.trans e1) e2
    · rw [if_neg c] at h; exact h.elim) ?_
  walk_at "hu"
theorem ds_setAlLc2 {y : Str} {py spos : Pos} {elt tg iter tg1 iter1 : Expr} {ifs ifs1 : List Expr} {scope : Scope} (own : List (Str × Nat)) (vs1 : List Nat) {gs gs1 : Sm Itb} {gg gg1 : D → Env → Option Env} {gt gt1 : Sm Bool} {ge : Sm D} (Wf : Fm P w K mg base k N F) (i : Nat)
    (ok : ∀ i, BlkOk (F i).N (F i).env.scope scope own) (hv : ∀ i ∈ vs1, i ∈ own.map (·.2)) (hi : DI I K W F tg iter gs) (hg : DGv I K (blkF scope F) (own.map (·.2)) tg gg) (ht : DTs I K WF (blkF scope F) ifs gt)
    (hi1 : DI I K WF (blkF scope F) tg1 iter1 gs1) (hg1 : DGv I K (blkF scope F) vs1 tg1 gg1) (ht1 : DTs I K WF (blkF scope F) ifs1 gt1) (he : DE I K WF (blkF scope F) elt ge)
    (hsw : ∀ j, swapsWith (.ListComp elt [⟨tg, iter, ifs, 0⟩, ⟨tg1, iter1, ifs1, 0⟩] scope pos) (some (.Name y py)) spos.line (F j).env = pure true) (hy : ∀ j, (F j).N[i]? = some y := by exact fun _ => rfl) (hyl : ∀ j, (F j).env.scope.names.lookup y = some .local := by exact fun _ => rfl)
    (hs : ∀ i x, foldedSetIterable iter (F i).env x = pure x := by exact fun _ _ => rfl) (hs1 : ∀ env x, foldedSetIterable iter1 env x = pure x := by exact fun _ _ => rfl) :
    DS I K W F (.Assign [.Name y py] (.ListComp elt [⟨tg, iter, ifs, 0⟩, ⟨tg1, iter1, ifs1, 0⟩] scope pos) spos) (sAsg (gN i) (sAlL (sLc2 gg (own.map (·.2)) gs gt gs1 gg1 vs1 gt1 ge))) := by
  refine @Hush.hu _ (by
  obtain ⟨g, g1, g2, g3⟩ := hg
  obtain ⟨gq, q1, q2, q3⟩ := hg1
  exact fun j => (ps_setLc2 (Wf.calm j) (by rw [Wf.N j]; exact Wf.nd) (hy j) (hyl j) (hsw j) (hi j) (ok j) hv (fun s H C cl fp => g1 (j, s, H, C, cl, fp)) (fun s H C cl fp => ht (j, s, H, C, cl, fp)) (fun s H C cl fp => hi1 (j, s, H, C, cl, fp))
    (fun s H C cl fp => q1 (j, s, H, C, cl, fp)) (fun s H C cl fp => ht1 (j, s, H, C, cl, fp)) (fun s H C cl fp => he (j, s, H, C, cl, fp)) (hs j) hs1).imp (tgs_asg (tg_alLc2 g2 g3 q2 q3) (evg_name i))) ?_
  walk_at "hu"
end
end Dl
namespace Dl
open PySem L2
end Dl
namespace Dl
open PySem L2
end Dl
namespace Dl
open PySem L2
section
variable {cb : Bool} {ι : Type} {P : Program} {w : World} {K : PySem.W.Frag} {mg : Str → Option Value} {base : Heap} {k : Nat} {N : List Str} {F : ι → Cx} {I : SI} {W : WX} {pos : Pos}
def truD : D → Option Bool
  | .d .none => some false
  | .d (.bool b) => some b
  | .d (.int i) => some (i != 0)
  | .d (.list xs) => some (!xs.isEmpty)
  | .d (.tuple xs) => some (!xs.isEmpty)
  | _ => none
def sTru (a : Sm D) : Sm Bool := fun env t => (a env t).bind fun x t => ofO (truD x) t
def pTru (a : Pm D) : Pm Bool := fun env => (a env).bind truD
end
end Dl
namespace Dl
open PySem L2
end Dl
namespace Dl
open PySem L2 PyProof.Rows
end Dl
namespace Dl
open PySem L2
section
variable {K : PySem.W.Frag} {h : Heap} {mg : Str → Option Value} {f C : Addr} {oc kV dc pm cd ct : Value} {od an : Option Addr} {sl : Array (Option Value)} {c x qual : Str} {st : Stmt} {ps : List Str}
theorem df_mk (X : K.In h) (G : h.Ns mainGlobals mg) (a : PySem.W.nsIn K mainGlobals x = some (some (.ref f)))
    (l : K.lookup f = some ⟨oc, od, .func (PySem.W.fnOf x qual (defArgs st) (defBody st) (defScope st) .none kV dc pm an cd ct), sl⟩) (e : PySem.W.codeIn K cd qual = true) (k : PySem.W.keepIn K (.ref f) = true)
    (b : ∀ (kV dc pm : Value) (an : Option Addr) (cd ct : Value) (us : List Value), us.length = ps.length → bindArgs (PySem.W.fnOf x qual (defArgs st) (defBody st) (defScope st) .none kV dc pm an cd ct) ⟨us, []⟩ = pure (ps.zip us)) : Df K mg x qual st ps := by
  refine Hush.hu (⟨_, _, PySem.W.mg_of X G a, fun_mk l e k, (fun_mk l e k).binds b⟩) ?_
  walk_at "hu"
end
end Dl
namespace Dl
open PySem L2
theorem bind_ite {α β : Type} (c : Prop) [Decidable c] (x y : Option α) (f : α → Option β) : (if c then x else y).bind f = if c then x.bind f else y.bind f := by
  refine @Hush.hu _ (by by_cases h : c <;> simp [h]) ?_
  walk_at "hu"
theorem map_ite {α β : Type} (c : Prop) [Decidable c] (x y : Option α) (f : α → β) : (if c then x else y).map f = if c then x.map f else y.map f := by
  refine @Hush.hu _ (by by_cases h : c <;> simp [h]) ?_
  walk_at "hu"
theorem retO_ite (c : Prop) [Decidable c] (x y : Option Out) : retO (if c then x else y) = if c then retO x else retO y := by
  refine @Hush.hu _ (by by_cases h : c <;> simp [h]) ?_
  walk_at "hu"
theorem retO_rt (d : D) : retO (some (.rt d)) = some d := rfl
theorem retO_nx (e : Dl.Env) : retO (some (.nx e)) = some (.d .none) := rfl
theorem retO_no : retO none = none := rfl
theorem isB_b (b : Bool) : isB (.d (.bool b)) = some b := rfl
theorem pMk_of {f : List D → Option D} {a : Pm (List D)} {env : Env} {l : List D} (h : a env = some l) : pMk f a env = f l := by
  refine @Hush.hu _ (by
  unfold pMk
  rw [h]
  rfl) ?_
  walk_at "hu"
theorem pRg_of {f : List D → Option (List D)} {a : Pm (List D)} {env : Env} {l : List D} (h : a env = some l) : pRg f a env = f l := by
  refine @Hush.hu _ (by
  unfold pRg
  rw [h]
  rfl) ?_
  walk_at "hu"
theorem pOp_of {f : D → D → Option D} {a b : Pm D} {env : Env} {x y : D} (h : a env = some x) (h' : b env = some y) : pOp f a b env = f x y := by
  refine @Hush.hu _ (by
  unfold pOp
  rw [h, h']
  rfl) ?_
  walk_at "hu"
theorem pIt_of {a : Pm D} {env : Env} {x : D} (h : a env = some x) : pIt a env = itL x := by
  refine @Hush.hu _ (by
  unfold pIt
  rw [h]
  rfl) ?_
  walk_at "hu"
theorem pRet_of {a : Pm D} {env : Env} {x : D} (h : a env = some x) : pRet a env = some (.rt x) := by
  refine @Hush.hu _ (by
  unfold pRet
  rw [h]
  rfl) ?_
  walk_at "hu"
theorem pB_of {a : Pm D} {env : Env} {b : Bool} (h : a env = some (.d (.bool b))) : pB a env = some b := by
  refine @Hush.hu _ (by
  unfold pB
  rw [h]
  rfl) ?_
  walk_at "hu"
theorem pNot_of {a : Pm Bool} {env : Env} {b : Bool} (h : a env = some b) : pNot a env = some (!b) := by
  refine @Hush.hu _ (by
  unfold pNot
  rw [h]
  rfl) ?_
  walk_at "hu"
theorem pCons_of {a : Pm D} {r : Pm (List D)} {env : Env} {x : D} {l : List D} (h : a env = some x) (h' : r env = some l) : pCons a r env = some (x :: l) := by
  refine @Hush.hu _ (by
  unfold pCons
  rw [h, h']
  rfl) ?_
  walk_at "hu"
theorem pAp_of {f : D → Option D} {a : Pm D} {env : Env} {x : D} (h : a env = some x) : pAp f a env = f x := by
  refine @Hush.hu _ (by
  unfold pAp
  rw [h]
  rfl) ?_
  walk_at "hu"
theorem pAnd_of {a b : Pm Bool} {env : Env} {x : Bool} (h : a env = some x) : pAnd a b env = if x = true then b env else some false := by
  refine @Hush.hu _ (by
  unfold pAnd
  rw [h]
  rfl) ?_
  walk_at "hu"
theorem pOr_of {a b : Pm Bool} {env : Env} {x : Bool} (h : a env = some x) : pOr a b env = if x = true then some true else b env := by
  refine @Hush.hu _ (by
  unfold pOr
  rw [h]
  rfl) ?_
  walk_at "hu"
theorem pAsg_of {g : D → Env → Option Env} {a : Pm D} {env e1 : Env} {x : D} (h : a env = some x) (h' : g x env = some e1) : pAsg g a env = some (.nx e1) := by
  refine @Hush.hu _ (by
  unfold pAsg
  rw [h]
  show (g x env).map _ = _
  rw [h']
  rfl) ?_
  walk_at "hu"
theorem pIf_t {α : Type} {c : Pm Bool} {a b : Pm α} {env : Env} (h : c env = some true) : pIf c a b env = a env := by
  refine @Hush.hu _ (by
  unfold pIf
  rw [h]
  rfl) ?_
  walk_at "hu"
theorem pIf_f {α : Type} {c : Pm Bool} {a b : Pm α} {env : Env} (h : c env = some false) : pIf c a b env = b env := by
  refine @Hush.hu _ (by
  unfold pIf
  rw [h]
  rfl) ?_
  walk_at "hu"
theorem pSeq_nx {a b : Pm Out} {env e1 : Env} (h : a env = some (.nx e1)) : pSeq a b env = b e1 := by
  refine @Hush.hu _ (by
  unfold pSeq
  rw [h]
  rfl) ?_
  walk_at "hu"
theorem pSeq_rt {a b : Pm Out} {env : Env} {d : D} (h : a env = some (.rt d)) : pSeq a b env = some (.rt d) := by
  refine @Hush.hu _ (by
  unfold pSeq
  rw [h]
  rfl) ?_
  walk_at "hu"
theorem l_of {α : Type} {g : Pm α} {env : Env} {t : Ts} {x : α} (h : g env = some x) : lift g env t = .ok x t := by
  refine @Hush.hu _ (by
  unfold lift
  rw [h]
  rfl) ?_
  walk_at "hu"
theorem sAsg_of {g : D → Env → Option Env} {a : Sm D} {env e1 : Env} {s s1 : Ts} {x : D} (h : a env s = .ok x s1) (h' : g x env = some e1) : sAsg g a env s = .ok (.nx e1) s1 := by
  refine @Hush.hu _ (by
  unfold sAsg
  rw [h]
  show (ofO (g x env) s1).bind _ = _
  rw [h']
  rfl) ?_
  walk_at "hu"
theorem sSeq_nx {a b : Sm Out} {env e1 : Env} {s s1 : Ts} (h : a env s = .ok (.nx e1) s1) : sSeq a b env s = b e1 s1 := by
  refine @Hush.hu _ (by
  unfold sSeq
  rw [h]
  rfl) ?_
  walk_at "hu"
theorem sSeq_rt {a b : Sm Out} {env : Env} {s s1 : Ts} {d : D} (h : a env s = .ok (.rt d) s1) : sSeq a b env s = .ok (.rt d) s1 := by
  refine @Hush.hu _ (by
  unfold sSeq
  rw [h]
  rfl) ?_
  walk_at "hu"
theorem sSeq_ex {a b : Sm Out} {env : Env} {s s1 : Ts} {x : Exn} (h : a env s = .ex x s1) : sSeq a b env s = .ex x s1 := by
  refine @Hush.hu _ (by
  unfold sSeq
  rw [h]
  rfl) ?_
  walk_at "hu"
theorem sIf_f {α : Type} {c : Sm Bool} {a b : Sm α} {env : Env} {s s1 : Ts} (h : c env s = .ok false s1) : sIf c a b env s = b env s1 := by
  refine @Hush.hu _ (by
  unfold sIf
  rw [h]
  rfl) ?_
  walk_at "hu"
theorem sMk_of {f : List D → Option D} {a : Sm (List D)} {env : Env} {s s1 : Ts} {l : List D} {x : D} (h : a env s = .ok l s1) (h' : f l = some x) : sMk f a env s = .ok x s1 := by
  refine @Hush.hu _ (by
  unfold sMk
  rw [h]
  show ofO (f l) s1 = _
  rw [h']
  rfl) ?_
  walk_at "hu"
theorem sCons_of {a : Sm D} {r : Sm (List D)} {env : Env} {s s1 s2 : Ts} {x : D} {l : List D} (h : a env s = .ok x s1) (h' : r env s1 = .ok l s2) : sCons a r env s = .ok (x :: l) s2 := by
  refine @Hush.hu _ (by
  unfold sCons
  rw [h]
  show (r env s1).bind _ = _
  rw [h']
  rfl) ?_
  walk_at "hu"
theorem sCall_of {m : List D → Ts → R D} {a : Sm (List D)} {env : Env} {s s1 : Ts} {l : List D} (h : a env s = .ok l s1) : sCall m a env s = m l s1 := by
  refine @Hush.hu _ (by
  unfold sCall
  rw [h]
  rfl) ?_
  walk_at "hu"
theorem sOp_of {f : D → D → Option D} {a b : Sm D} {env : Env} {s s1 s2 : Ts} {x y z : D} (h : a env s = .ok x s1) (h' : b env s1 = .ok y s2) (h2 : f x y = some z) : sOp f a b env s = .ok z s2 := by
  refine @Hush.hu _ (by
  unfold sOp
  rw [h]
  show (b env s1).bind _ = _
  rw [h']
  show ofO (f x y) s2 = _
  rw [h2]
  rfl) ?_
  walk_at "hu"
theorem sB_of {a : Sm D} {env : Env} {s s1 : Ts} {b : Bool} (h : a env s = .ok (.d (.bool b)) s1) : sB a env s = .ok b s1 := by
  refine @Hush.hu _ (by
  unfold sB
  rw [h]; first | done | rfl) ?_
  walk_at "hu"
theorem sNot_of {a : Sm Bool} {env : Env} {s s1 : Ts} {b : Bool} (h : a env s = .ok b s1) : sNot a env s = .ok (!b) s1 := by
  refine @Hush.hu _ (by
  unfold sNot
  rw [h]; first | done | rfl) ?_
  walk_at "hu"
theorem sRet_of {a : Sm D} {env : Env} {s s1 : Ts} {x : D} (h : a env s = .ok x s1) : sRet a env s = .ok (.rt x) s1 := by
  refine @Hush.hu _ (by
  unfold sRet
  rw [h]; first | done | rfl) ?_
  walk_at "hu"
theorem sExp_of {a : Sm D} {env : Env} {s s1 : Ts} {x : D} (h : a env s = .ok x s1) : sExp a env s = .ok (.nx env) s1 := by
  refine @Hush.hu _ (by
  unfold sExp
  rw [h]; first | done | rfl) ?_
  walk_at "hu"
theorem sExp_ex {a : Sm D} {env : Env} {s s1 : Ts} {x : Exn} (h : a env s = .ex x s1) : sExp a env s = .ex x s1 := by
  refine @Hush.hu _ (by
  unfold sExp
  rw [h]; first | done | rfl) ?_
  walk_at "hu"
theorem sRaise1_of {c n : Str} {a : Sm D} {env : Env} {s s1 : Ts} {y : PyData} (h : a env s = .ok (.d y) s1) : sRaise1 c n a env s = .ex ⟨c, some (n, y)⟩ s1 := by
  refine @Hush.hu _ (by
  unfold sRaise1
  rw [h]
  rfl) ?_
  walk_at "hu"
theorem sh_int (i : Int) : SeqAt.shaped (.int i) = true := by
  refine @Hush.hu _ (by simp [SeqAt.shaped, PyData.canLay0, PyData.depth]) ?_
  walk_at "hu"
theorem goP_fm {α : Type} (enc : α → D) {g : D → Env → Option Env} {env : Env} {tt : Pm Bool} {el : Pm D} (t : α → Bool) (h : α → D) : ∀ (xs : List α), (∀ x ∈ xs, ∃ e1, g (enc x) env = some e1 ∧ tt e1 = some (t x) ∧ (t x = true → el e1 = some (h x))) →
    goP g env tt el (xs.map enc) = some ((xs.filter t).map h)
  | [], _ => rfl
  | x :: r, H => by
    obtain ⟨e1, h1, h2, h3⟩ := H x List.mem_cons_self
    have ih := goP_fm enc t h r fun y hy => H y (List.mem_cons_of_mem _ hy)
    show (g (enc x) env).bind (fun e1 => (tt e1).bind fun p => if p = true then (el e1).bind fun q => (goP g env tt el (r.map enc)).map fun z => q :: z else goP g env tt el (r.map enc)) = _
    rw [h1]
    simp only [Option.bind_some]
    rw [h2]
    simp only [Option.bind_some]
    cases hx : t x with
    | true =>
      rw [if_pos rfl, h3 hx, ih, List.filter_cons_of_pos hx]
      rfl
    | false =>
      rw [if_neg Bool.false_ne_true, ih, List.filter_cons_of_neg (by rw [hx]; exact Bool.false_ne_true)]
theorem pLc_of {g : D → Env → Option Env} {vs : List Nat} {src : Pm (List D)} {tt : Pm Bool} {el : Pm D} {env : Env} {xs ys : List D} (h1 : src env = some xs) (h2 : xs.length ≤ 100000) (h3 : goP g (wipeE env vs) tt el xs = some ys) : pLc g vs src tt el env = some ys := by
  refine @Hush.hu _ (by
  unfold pLc
  rw [h1, Option.bind_some, if_pos h2, h3]) ?_
  walk_at "hu"
theorem pdL_map {α : Type} (f : α → PyData) : ∀ xs : List α, pdL (xs.map fun x => D.d (f x)) = some (xs.map f)
  | [] => rfl
  | x :: r => by
    show (pdL (r.map fun x => D.d (f x))).map (f x :: ·) = _
    rw [pdL_map f r]
    rfl
theorem mLst_map {α : Type} (f : α → PyData) (xs : List α) (h : xs.length ≤ 100000) : mLst (xs.map fun x => D.d (f x)) = some (.d (.list (xs.map f))) := by
  refine @Hush.hu _ (by
  unfold mLst
  rw [if_pos (by rw [List.length_map]; exact h), pdL_map]) ?_
  walk_at "hu"
theorem bools_map {α : Type} (f : α → Bool) : ∀ xs : List α, bools (xs.map fun x => .bool (f x)) = some (xs.map f)
  | [] => rfl
  | x :: r => by
    show (bools (r.map fun x => .bool (f x))).map (f x :: ·) = _
    rw [bools_map f r]
    rfl
theorem goFP_find {α : Type} (enc : α → D) {g : D → Env → Option Env} {body : Pm Out} (t : α → Bool) (r : D) (Iv : Env → Prop) : ∀ (xs : List α) (env : Env), Iv env →
    (∀ x ∈ xs, ∀ env, Iv env → ∃ e1, g (enc x) env = some e1 ∧ if t x = true then body e1 = some (.rt r) else ∃ e2, body e1 = some (.nx e2) ∧ Iv e2) →
    if xs.any t = true then goFP g body (xs.map enc) env = some (.rt r) else ∃ e2, goFP g body (xs.map enc) env = some (.nx e2) ∧ Iv e2
  | [], env, hI, _ => ⟨env, rfl, hI⟩
  | x :: xs, env, hI, H => by
    obtain ⟨e1, h1, h2⟩ := H x List.mem_cons_self env hI
    have e0 : goFP g body ((x :: xs).map enc) env = (body e1).bind fun p => match p with
      | .nx e2 => goFP g body (xs.map enc) e2
      | .ct e2 => goFP g body (xs.map enc) e2
      | .bk e2 => some (.nx e2)
      | .rt d => some (.rt d) := by
      show (g (enc x) env).bind _ = _
      rw [h1]
      rfl
    rw [e0, List.any_cons]
    cases hx : t x with
    | true =>
      rw [hx, if_pos rfl] at h2
      rw [Bool.true_or, if_pos rfl, h2]
      rfl
    | false =>
      rw [hx, if_neg Bool.false_ne_true] at h2
      obtain ⟨e2, h3, h4⟩ := h2
      rw [Bool.false_or, h3]
      exact goFP_find enc t r Iv xs e2 h4 fun y hy => H y (List.mem_cons_of_mem _ hy)
mutual
def okA : PyData → Bool
  | .none | .bool _ | .int _ => true
  | .str x => SeqAt.shaped (.str x)
  | .list xs | .tuple xs => decide (xs.length ≤ 100000) && okAs xs
  | .dict _ => false
def okAs : List PyData → Bool
  | [] => true
  | x :: r => okA x && okAs r
end
mutual
def dpt : PyData → Nat
  | .list xs | .tuple xs => dpts xs + 1
  | _ => 0
def dpts : List PyData → Nat
  | [] => 0
  | x :: r => max (dpt x) (dpts r)
end
theorem at_nat {xs : List PyData} {k : Nat} : atI xs (k : Int) = xs[k]? := by
  refine @Hush.hu _ (by
  by_cases c : k < xs.length
  · unfold atI ixN
    rw [if_pos (by omega), if_pos (by omega)]
    simp
  · unfold atI ixN
    rw [if_pos (by omega), if_neg (by omega), List.getElem?_eq_none (by omega)]
    rfl) ?_
  walk_at "hu"
theorem mR1_nat (n : Nat) (h : n ≤ 100000) : mR1 [.d (.int n)] = some ((List.range n).map fun k => D.d (.int (k : Nat))) := by
  refine @Hush.hu _ (by
  simp only [mR1]
  rw [if_pos (by omega)]
  unfold rgL
  rw [Int.toNat_natCast]
  congr 1
  refine List.map_congr_left fun k _ => ?_
  rw [Int.zero_add]) ?_
  walk_at "hu"
end Dl
namespace Dl
open PySem L2
section
variable {α β : Type} {env e1 e2 e3 e0 : Env} {t t1 t2 t3 : Ts} {x y z : D} {v u : Bool} {l l2 : List D}
theorem pv_inv {i : Nat} (h : pV i env = some x) : env[i]? = some (some x) := by
  refine @Hush.hu _ (by
  unfold pV at h
  split at h
  · cases h; assumption
  · cases h) ?_
  walk_at "hu"
section
variable {a b c : Pm D} {f f2 : D → D → Option D} {o k o1 o2 : Pm Out} {p q : Pm Bool} {as : Pm (List D)} {po : Option Out} {pb : Option Bool} {pd : Option D}
theorem p_op (h0 : a env = some x) (h1 : b env = some y) (h2 : f x y = some z) : pOp f a b env = some z := by
  refine Hush.hu ((pOp_of h0 h1).trans h2) ?_
  walk_at "hu"
theorem p_mk {f1 : List D → Option D} (h0 : as env = some l) (h1 : f1 l = some z) : pMk f1 as env = some z := by
  refine Hush.hu ((pMk_of h0).trans h1) ?_
  walk_at "hu"
theorem p_nil  : pNil env = some [] := rfl
theorem p_cons (h0 : a env = some x) (h1 : as env = some l) : pCons a as env = some (x :: l) := by
  refine Hush.hu (pCons_of h0 h1) ?_
  walk_at "hu"
theorem p_b (h0 : a env = some (.d (.bool v))) : pB a env = some v := by
  refine Hush.hu (pB_of h0) ?_
  walk_at "hu"
theorem p_tru (h0 : a env = some x) (h1 : truD x = some v) : pTru a env = some v := by
  refine @Hush.hu _ (by
  unfold pTru
  rw [h0]
  exact h1) ?_
  walk_at "hu"
theorem p_not (h0 : p env = some v) : pNot p env = some (!v) := by
  refine Hush.hu (pNot_of h0) ?_
  walk_at "hu"
theorem p_and (h0 : p env = some v) (h1 : (if v = true then q env else some false) = pb) : pAnd p q env = pb := by
  refine Hush.hu ((pAnd_of h0).trans h1) ?_
  walk_at "hu"
theorem p_or (h0 : p env = some v) (h1 : (if v = true then some true else q env) = pb) : pOr p q env = pb := by
  refine Hush.hu ((pOr_of h0).trans h1) ?_
  walk_at "hu"
theorem p_andV (h0 : a env = some (.d (.bool v))) (h1 : (if v = true then b env else some (.d (.bool false))) = pd) : pAndV a b env = pd := by
  refine @Hush.hu _ (by
  refine Eq.trans ?_ h1
  unfold pAndV
  rw [h0]
  rfl) ?_
  walk_at "hu"
theorem p_orV (h0 : a env = some (.d (.bool v))) (h1 : (if v = true then some (.d (.bool true)) else b env) = pd) : pOrV a b env = pd := by
  refine @Hush.hu _ (by
  refine Eq.trans ?_ h1
  unfold pOrV
  rw [h0]
  rfl) ?_
  walk_at "hu"
theorem p_notV (h0 : a env = some (.d (.bool v))) : pNotV a env = some (.d (.bool (!v))) := by
  refine @Hush.hu _ (by
  unfold pNotV
  rw [h0]
  rfl) ?_
  walk_at "hu"
theorem p_ap {f1 : D → Option D} (h0 : a env = some x) (h1 : f1 x = some z) : pAp f1 a env = some z := by
  refine Hush.hu ((pAp_of h0).trans h1) ?_
  walk_at "hu"
theorem p_sl {f3 : D → Option Int → Option Int → Option D} {lo hi : Pm (Option Int)} {i j : Option Int} (h0 : a env = some x) (h1 : lo env = some i) (h2 : hi env = some j) (h3 : f3 x i j = some z) : pSl f3 a lo hi env = some z := by
  refine @Hush.hu _ (by
  unfold pSl
  rw [h0, Option.bind_some, h1, Option.bind_some, h2, Option.bind_some]
  exact h3) ?_
  walk_at "hu"
theorem p_part {i : Int} (h0 : a env = some (.d (.int i))) : pPart a env = some (some i) := by
  refine @Hush.hu _ (by
  unfold pPart
  rw [h0]
  rfl) ?_
  walk_at "hu"
theorem p_m1 {s : Str} (h0 : a env = some (.d (.str s))) (h1 : b env = some y) (h2 : f (.d (.str s)) y = some z) : pM1 f a b env = some z := by
  refine @Hush.hu _ (by
  unfold pM1
  rw [h0, Option.bind_some, if_pos (by rfl), h1, Option.bind_some]
  exact h2) ?_
  walk_at "hu"
theorem p_ch (h0 : a env = some x) (h1 : b env = some y) (h2 : f x y = some (.d (.bool v))) (h3 : (if v = true then (c env).bind fun z => f2 y z else some (.d (.bool false))) = pd) : pCh f f2 a b c env = pd := by
  refine @Hush.hu _ (by
  refine Eq.trans ?_ h3
  unfold pCh
  rw [h0, Option.bind_some, h1, Option.bind_some, h2]
  rfl) ?_
  walk_at "hu"
theorem p_bind (h0 : a env = some z) (h1 : f2 y z = pd) : ((a env).bind fun z => f2 y z) = pd := by
  refine @Hush.hu _ (by
  rw [h0]
  exact h1) ?_
  walk_at "hu"
end
section
variable {p q : Pm Bool} {a b : Pm α} {r : Option α}
theorem p_if_not (h0 : pIf p b a env = r) : pIf (pNot p) a b env = r := by
  refine @Hush.hu _ (by
  refine Eq.trans ?_ h0
  unfold pIf pNot
  cases p env with
  | none => rfl
  | some w => cases w <;> rfl) ?_
  walk_at "hu"
theorem p_if_and (h0 : p env = some v) (h1 : (if v = true then pIf q a b env else b env) = r) : pIf (pAnd p q) a b env = r := by
  refine @Hush.hu _ (by
  refine Eq.trans ?_ h1
  unfold pIf pAnd
  rw [h0]
  cases v <;> rfl) ?_
  walk_at "hu"
theorem p_if_or (h0 : p env = some v) (h1 : (if v = true then a env else pIf q a b env) = r) : pIf (pOr p q) a b env = r := by
  refine @Hush.hu _ (by
  refine Eq.trans ?_ h1
  unfold pIf pOr
  rw [h0]
  cases v <;> rfl) ?_
  walk_at "hu"
theorem p_if (h0 : p env = some v) (h1 : (if v = true then a env else b env) = r) : pIf p a b env = r := by
  refine @Hush.hu _ (by
  refine Eq.trans ?_ h1
  unfold pIf
  rw [h0]
  rfl) ?_
  walk_at "hu"
end
section
variable {a b c : Pm D} {f f2 : D → D → Option D} {o k o1 o2 : Pm Out} {p q : Pm Bool} {as : Pm (List D)} {po : Option Out} {pb : Option Bool} {pd : Option D}
theorem p_s_seq (h0 : pSeq o (pSeq o1 k) env = po) : pSeq (pSeq o o1) k env = po := by
  refine @Hush.hu _ (by
  refine Eq.trans ?_ h0
  unfold pSeq
  cases o env with
  | none => rfl
  | some w => cases w <;> rfl) ?_
  walk_at "hu"
theorem p_s_if (h0 : pIf p (pSeq o k) (pSeq o1 k) env = po) : pSeq (pIf p o o1) k env = po := by
  refine @Hush.hu _ (by
  refine Eq.trans ?_ h0
  unfold pSeq pIf
  cases p env with
  | none => rfl
  | some w => cases w <;> rfl) ?_
  walk_at "hu"
theorem p_s_nx (h0 : k env = po) : pSeq pNx k env = po := h0
theorem p_s_ret (h0 : a env = some x) : pSeq (pRet a) k env = some (.rt x) := by
  refine Hush.hu (pSeq_rt (pRet_of h0)) ?_
  walk_at "hu"
theorem p_s_asg {g : D → Env → Option Env} (h0 : a env = some x) (h1 : g x env = some e1) (h2 : k e1 = po) : pSeq (pAsg g a) k env = po := by
  refine Hush.hu ((pSeq_nx (pAsg_of h0 h1)).trans h2) ?_
  walk_at "hu"
theorem p_s_par2 {i j : Nat} (h0 : as env = some [x, y]) (h1 : env.set i (some x) = e1) (h2 : e1.set j (some y) = e2) (h3 : k e2 = po) : pSeq (pPar2 i j as) k env = po := by
  refine @Hush.hu _ (by
  subst h1 h2
  refine Eq.trans ?_ h3
  unfold pSeq pPar2
  rw [h0]
  rfl) ?_
  walk_at "hu"
theorem p_s_par3 {i j n : Nat} (h0 : as env = some [x, y, z]) (h1 : env.set i (some x) = e1) (h2 : e1.set j (some y) = e2) (h3 : e2.set n (some z) = e3) (h4 : k e3 = po) : pSeq (pPar3 i j n as) k env = po := by
  refine @Hush.hu _ (by
  subst h1 h2 h3
  refine Eq.trans ?_ h4
  unfold pSeq pPar3
  rw [h0]
  rfl) ?_
  walk_at "hu"
theorem p_s_aug {i : Nat} {m n : Int} (h0 : pV i env = some (.d (.int m))) (h1 : a env = some (.d (.int n))) (h2 : env.set i (some (.d (.int (m + n)))) = e1) (h3 : k e1 = po) : pSeq (pAug i a) k env = po := by
  refine @Hush.hu _ (by
  subst h2
  refine Eq.trans ?_ h3
  unfold pSeq pAug
  rw [h0]
  simp only [Option.bind_some]
  rw [h1]
  rfl) ?_
  walk_at "hu"
theorem p_ret (h0 : a env = some x) : pRet a env = some (.rt x) := by
  refine Hush.hu (pRet_of h0) ?_
  walk_at "hu"
theorem p_asg {g : D → Env → Option Env} (h0 : a env = some x) (h1 : g x env = some e1) : pAsg g a env = some (.nx e1) := by
  refine Hush.hu (pAsg_of h0 h1) ?_
  walk_at "hu"
theorem p_nx  : pNx env = some (.nx env) := rfl
end
theorem p_lc {g : D → Env → Option Env} {vs : List Nat} {src : Pm (List D)} {tt : Pm Bool} {el : Pm D} (h0 : src env = some l) (h1 : l.length ≤ 100000) (h2 : wipeE env vs = e0) (h3 : goP g e0 tt el l = some l2) : pLc g vs src tt el env = some l2 := by
  refine @Hush.hu _ (by subst h2; exact pLc_of h0 h1 h3) ?_
  walk_at "hu"
theorem p_it {a : Pm D} (h0 : a env = some x) (h1 : itL x = some l) : pIt a env = some l := by
  refine Hush.hu ((pIt_of h0).trans h1) ?_
  walk_at "hu"
theorem p_rg {f : List D → Option (List D)} {as : Pm (List D)} (h0 : as env = some l) (h1 : f l = some l2) : pRg f as env = some l2 := by
  refine Hush.hu ((pRg_of h0).trans h1) ?_
  walk_at "hu"
section
variable {a b c d : Sm D} {f : D → D → Option D} {o k : Sm Out} {p q : Sm Bool} {as : Sm (List D)}
theorem s_op (h0 : a env t = .ok x t1) (h1 : b env t1 = .ok y t2) (h2 : f x y = some z) : sOp f a b env t = .ok z t2 := by
  refine Hush.hu (sOp_of h0 h1 h2) ?_
  walk_at "hu"
theorem s_opT {ty : D → Bool} (h0 : a env t = .ok x t1) (h1 : ty x = true) (h2 : b env t1 = .ok y t2) (h3 : f x y = some z) : sOpT ty f a b env t = .ok z t2 := by
  refine @Hush.hu _ (by
  unfold sOpT
  rw [h0]
  show (if ty x = true then (b env t1).bind _ else .no) = _
  rw [if_pos h1, h2]
  show ofO (f x y) t2 = _
  rw [h3]
  rfl) ?_
  walk_at "hu"
theorem s_mk {f1 : List D → Option D} (h0 : as env t = .ok l t1) (h1 : f1 l = some z) : sMk f1 as env t = .ok z t1 := by
  refine Hush.hu (sMk_of h0 h1) ?_
  walk_at "hu"
theorem s_mkT {f1 : List D → Ts → Option D} (h0 : as env t = .ok l t1) (h1 : f1 l t1 = some z) : sMkT f1 as env t = .ok z t1 := by
  refine @Hush.hu _ (by
  unfold sMkT
  rw [h0]
  show ofO (f1 l t1) t1 = _
  rw [h1]
  rfl) ?_
  walk_at "hu"
theorem s_nil  : sNil env t = .ok [] t := rfl
theorem s_cons (h0 : a env t = .ok x t1) (h1 : as env t1 = .ok l t2) : sCons a as env t = .ok (x :: l) t2 := by
  refine Hush.hu (sCons_of h0 h1) ?_
  walk_at "hu"
theorem s_b (h0 : a env t = .ok (.d (.bool v)) t1) : sB a env t = .ok v t1 := by
  refine Hush.hu (sB_of h0) ?_
  walk_at "hu"
theorem s_tru (h0 : a env t = .ok x t1) (h1 : truD x = some v) : sTru a env t = .ok v t1 := by
  refine @Hush.hu _ (by
  unfold sTru
  rw [h0]
  show ofO (truD x) t1 = _
  rw [h1]
  rfl) ?_
  walk_at "hu"
theorem s_not (h0 : p env t = .ok v t1) : sNot p env t = .ok (!v) t1 := by
  refine Hush.hu (sNot_of h0) ?_
  walk_at "hu"
theorem s_and {rb : R Bool} (h0 : p env t = .ok v t1) (h1 : (if v = true then q env t1 else .ok false t1) = rb) : sAnd p q env t = rb := by
  refine @Hush.hu _ (by
  refine Eq.trans ?_ h1
  unfold sAnd
  rw [h0]
  rfl) ?_
  walk_at "hu"
theorem s_or {rb : R Bool} (h0 : p env t = .ok v t1) (h1 : (if v = true then .ok true t1 else q env t1) = rb) : sOr p q env t = rb := by
  refine @Hush.hu _ (by
  refine Eq.trans ?_ h1
  unfold sOr
  rw [h0]
  rfl) ?_
  walk_at "hu"
theorem s_andV {rd : R D} (h0 : a env t = .ok (.d (.bool v)) t1) (h1 : (if v = true then b env t1 else .ok (.d (.bool false)) t1) = rd) : sAndV a b env t = rd := by
  refine @Hush.hu _ (by
  refine Eq.trans ?_ h1
  unfold sAndV
  rw [h0]
  cases v <;> rfl) ?_
  walk_at "hu"
theorem s_orV {rd : R D} (h0 : a env t = .ok (.d (.bool v)) t1) (h1 : (if v = true then .ok (.d (.bool true)) t1 else b env t1) = rd) : sOrV a b env t = rd := by
  refine @Hush.hu _ (by
  refine Eq.trans ?_ h1
  unfold sOrV
  rw [h0]
  cases v <;> rfl) ?_
  walk_at "hu"
theorem s_notV (h0 : a env t = .ok (.d (.bool v)) t1) : sNotV a env t = .ok (.d (.bool (!v))) t1 := by
  refine @Hush.hu _ (by
  unfold sNotV
  rw [h0]
  rfl) ?_
  walk_at "hu"
theorem s_ap {f1 : D → Option D} (h0 : a env t = .ok x t1) (h1 : f1 x = some z) : sAp f1 a env t = .ok z t1 := by
  refine @Hush.hu _ (by
  unfold sAp
  rw [h0]
  show ofO (f1 x) t1 = _
  rw [h1]
  rfl) ?_
  walk_at "hu"
theorem s_ix (h0 : a env t = .ok x t1) (h1 : b env t1 = .ok y t2) (h2 : getX x y t2 = some z) : sIx a b env t = .ok z t2 := by
  refine @Hush.hu _ (by
  unfold sIx
  rw [h0]
  show (b env t1).bind _ = _
  rw [h1]
  show ofO (getX x y t2) t2 = _
  rw [h2]
  rfl) ?_
  walk_at "hu"
theorem s_sl {f3 : D → Option Int → Option Int → Option D} {lo hi : Sm (Option Int)} {i j : Option Int} (h0 : a env t = .ok x t1) (h1 : lo env t1 = .ok i t2) (h2 : hi env t2 = .ok j t3) (h3 : f3 x i j = some z) : sSl f3 a lo hi env t = .ok z t3 := by
  refine @Hush.hu _ (by
  unfold sSl
  rw [h0]
  show (lo env t1).bind _ = _
  rw [h1]
  show (hi env t2).bind _ = _
  rw [h2]
  show ofO (f3 x i j) t3 = _
  rw [h3]
  rfl) ?_
  walk_at "hu"
theorem s_slX {lo hi : Sm (Option Int)} {i j : Option Int} (h0 : a env t = .ok x t1) (h1 : lo env t1 = .ok i t2) (h2 : hi env t2 = .ok j t3) (h3 : slX x i j t3 = some z) : sSlX a lo hi env t = .ok z t3 := by
  refine @Hush.hu _ (by
  unfold sSlX
  rw [h0]
  show (lo env t1).bind _ = _
  rw [h1]
  show (hi env t2).bind _ = _
  rw [h2]
  show ofO (slX x i j t3) t3 = _
  rw [h3]
  rfl) ?_
  walk_at "hu"
theorem s_m1 {s : Str} (h0 : a env t = .ok (.d (.str s)) t1) (h1 : b env t1 = .ok y t2) (h2 : f (.d (.str s)) y = some z) : sM1 f a b env t = .ok z t2 := by
  refine @Hush.hu _ (by
  unfold sM1
  rw [h0]
  show (if isTx (.d (.str s)) = true then (b env t1).bind _ else .no) = _
  rw [if_pos (by rfl), h1]
  show ofO (f (.d (.str s)) y) t2 = _
  rw [h2]
  rfl) ?_
  walk_at "hu"
theorem s_ch {f2 : D → D → Option D} {rd : R D} (h0 : a env t = .ok x t1) (h1 : b env t1 = .ok y t2) (h2 : f x y = some (.d (.bool v))) (h3 : (if v = true then (c env t2).bind (fun z t => ofO (f2 y z) t) else .ok (.d (.bool false)) t2) = rd) : sCh f f2 a b c env t = rd := by
  refine @Hush.hu _ (by
  refine Eq.trans ?_ h3
  unfold sCh
  rw [h0]
  show (b env t1).bind _ = _
  rw [h1]
  show (ofO ((f x y).bind isB) t2).bind _ = _
  rw [h2]
  cases v <;> rfl) ?_
  walk_at "hu"
theorem s_call {m : List D → Ts → R D} {rd : R D} (h0 : as env t = .ok l t1) (h1 : m l t1 = rd) : sCall m as env t = rd := by
  refine Hush.hu ((sCall_of h0).trans h1) ?_
  walk_at "hu"
theorem s_meth1 {fm : D → D → Ts → Option Ts} (h0 : a env t = .ok x t1) (h1 : isAl x t1 = true) (h2 : b env t1 = .ok y t2) (h3 : fm x y t2 = some t3) : sMeth1 fm a b env t = .ok (.d .none) t3 := by
  refine @Hush.hu _ (by
  unfold sMeth1
  rw [h0]
  show (if isAl x t1 = true then (b env t1).bind _ else .no) = _
  rw [if_pos h1, h2]
  show (ofO (fm x y t2) t2).bind _ = _
  rw [h3]
  rfl) ?_
  walk_at "hu"
theorem s_fld {cs : List Str} {fn : Str} (h0 : a env t = .ok x t1) (h1 : getF cs fn x t1 = some z) : sFld cs fn a env t = .ok z t1 := by
  refine @Hush.hu _ (by
  unfold sFld
  rw [h0]
  show ofO (getF cs fn x t1) t1 = _
  rw [h1]
  rfl) ?_
  walk_at "hu"
theorem s_meth {c1 m1 : Str} {m : List D → Ts → R D} {rd : R D} (h0 : a env t = .ok x t1) (h1 : isInst c1 m1 x t1 = true) (h2 : as env t1 = .ok l t2) (h3 : m (x :: l) t2 = rd) : sMeth c1 m1 m a as env t = rd := by
  refine @Hush.hu _ (by
  refine Eq.trans ?_ h3
  unfold sMeth
  rw [h0]
  show (if isInst c1 m1 x t1 = true then (as env t1).bind _ else .no) = _
  rw [if_pos h1, h2]
  rfl) ?_
  walk_at "hu"
theorem s_get2 {w0 : D} (h0 : a env t = .ok x t1) (h1 : isDc x t1 = true) (h2 : b env t1 = .ok y t2) (h3 : c env t2 = .ok z t3) (h4 : getD2 x y z t3 = some w0) : sGet2 a b c env t = .ok w0 t3 := by
  refine @Hush.hu _ (by
  unfold sGet2
  rw [h0]
  show (if isDc x t1 = true then (b env t1).bind _ else .no) = _
  rw [if_pos h1, h2]
  show (c env t2).bind _ = _
  rw [h3]
  show ofO (getD2 x y z t3) t3 = _
  rw [h4]
  rfl) ?_
  walk_at "hu"
theorem s_make {c1 : Str} {m : List D → Ts → R D} (h0 : as env t = .ok l t1) (h1 : m (.r t1.length [] :: l) (t1 ++ [some (.nd (.ins c1 []) [])]) = .ok (.d .none) t2) : sMake c1 m as env t = .ok (.r t1.length []) t2 := by
  refine @Hush.hu _ (by
  unfold sMake
  rw [h0]
  show (m (.r t1.length [] :: l) (t1 ++ [some (.nd (.ins c1 []) [])])).bind _ = _
  rw [h1]
  rfl) ?_
  walk_at "hu"
theorem s_alL {rd : R D} (h0 : as env t = .ok l t1) (h1 : newLs l t1 = rd) : sAlL as env t = rd := by
  refine @Hush.hu _ (by
  refine Eq.trans ?_ h1
  unfold sAlL
  rw [h0]
  rfl) ?_
  walk_at "hu"
theorem s_alC {rd : R D} (h0 : a env t = .ok x t1) (h1 : lsOf x t1 = some l) (h2 : newLs l t1 = rd) : sAlC a env t = rd := by
  refine @Hush.hu _ (by
  refine Eq.trans ?_ h2
  unfold sAlC
  rw [h0]
  show (ofO (lsOf x t1) t1).bind newLs = _
  rw [h1]
  rfl) ?_
  walk_at "hu"
theorem s_alR {rd : R D} (h0 : a env t = .ok x t1) (h1 : b env t1 = .ok y t2) (h2 : repD x y = some l) (h3 : newLs l t2 = rd) : sAlR a b env t = rd := by
  refine @Hush.hu _ (by
  refine Eq.trans ?_ h3
  unfold sAlR
  rw [h0]
  show (b env t1).bind _ = _
  rw [h1]
  show (ofO (repD x y) t2).bind newLs = _
  rw [h2]
  rfl) ?_
  walk_at "hu"
theorem s_dict {rd : R D} (h0 : a env t = .ok x t1) (h1 : newDc x t1 = rd) : sDict a env t = rd := by
  refine @Hush.hu _ (by
  refine Eq.trans ?_ h1
  unfold sDict
  rw [h0]
  rfl) ?_
  walk_at "hu"
theorem s_frz {rd : R D} (h0 : a env t = .ok x t1) (h1 : frz x t1 = rd) : sFrz a env t = rd := by
  refine @Hush.hu _ (by
  refine Eq.trans ?_ h1
  unfold sFrz
  rw [h0]
  rfl) ?_
  walk_at "hu"
theorem s_isx {ex : Str → Option Bool} (h0 : a env t = .ok x t1) (h1 : isX ex x = some z) : sIsX ex a env t = .ok z t1 := by
  refine @Hush.hu _ (by
  unfold sIsX
  rw [h0]
  show ofO (isX ex x) t1 = _
  rw [h1]
  rfl) ?_
  walk_at "hu"
theorem s_xf {fn : Str} {cs : List Str} (h0 : a env t = .ok x t1) (h1 : fldX fn cs x = some z) : sXf fn cs a env t = .ok z t1 := by
  refine @Hush.hu _ (by
  unfold sXf
  rw [h0]
  show ofO (fldX fn cs x) t1 = _
  rw [h1]
  rfl) ?_
  walk_at "hu"
theorem s_lam {n : Nat}  : sLam n env t = .ok (.cl n) t := rfl
theorem s_hi {n : Nat} {mh : Nat → (Ts → R D) → Ts → R D} {LL : Nat → Sm D} {rd : R D} (h0 : a env t = .ok (.cl n) t1) (h1 : mh n (LL n env) t1 = rd) : sHi mh LL a env t = rd := by
  refine @Hush.hu _ (by
  refine Eq.trans ?_ h1
  unfold sHi
  rw [h0]
  rfl) ?_
  walk_at "hu"
end
section
variable {p q : Sm Bool} {a b : Sm α} {r : R α} {pp qq : Pm Bool} {pa pb : Pm α}
theorem s_if_not (h0 : sIf p b a env t = r) : sIf (sNot p) a b env t = r := by
  refine @Hush.hu _ (by
  refine Eq.trans ?_ h0
  unfold sIf sNot
  cases p env t with
  | no => rfl
  | ex _ _ => rfl
  | ok w _ => cases w <;> rfl) ?_
  walk_at "hu"
theorem s_if_and (h0 : p env t = .ok v t1) (h1 : (if v = true then sIf q a b env t1 else b env t1) = r) : sIf (sAnd p q) a b env t = r := by
  refine @Hush.hu _ (by
  refine Eq.trans ?_ h1
  unfold sIf sAnd
  rw [h0]
  cases v <;> rfl) ?_
  walk_at "hu"
theorem s_if_or (h0 : p env t = .ok v t1) (h1 : (if v = true then a env t1 else sIf q a b env t1) = r) : sIf (sOr p q) a b env t = r := by
  refine @Hush.hu _ (by
  refine Eq.trans ?_ h1
  unfold sIf sOr
  rw [h0]
  cases v <;> rfl) ?_
  walk_at "hu"
theorem s_if_lnot (h0 : sIf (lift pp) b a env t = r) : sIf (lift (pNot pp)) a b env t = r := by
  refine Hush.hu ((by rw [lift_not]; exact s_if_not h0)) ?_
  walk_at "hu"
theorem s_if_land (h0 : sIf (sAnd (lift pp) (lift qq)) a b env t = r) : sIf (lift (pAnd pp qq)) a b env t = r := by
  refine Hush.hu ((by rw [lift_and]; exact h0)) ?_
  walk_at "hu"
theorem s_if_lor (h0 : sIf (sOr (lift pp) (lift qq)) a b env t = r) : sIf (lift (pOr pp qq)) a b env t = r := by
  refine Hush.hu ((by rw [lift_or]; exact h0)) ?_
  walk_at "hu"
theorem s_if (h0 : p env t = .ok v t1) (h1 : (if v = true then a env t1 else b env t1) = r) : sIf p a b env t = r := by
  refine @Hush.hu _ (by
  refine Eq.trans ?_ h1
  unfold sIf
  rw [h0]
  rfl) ?_
  walk_at "hu"
theorem s_lif (h0 : sIf (lift pp) (lift pa) (lift pb) env t = r) : lift (pIf pp pa pb) env t = r := by
  refine Hush.hu ((by rw [lift_if]; exact h0)) ?_
  walk_at "hu"
end
section
variable {a : Sm D} {o o1 k : Sm Out} {p : Sm Bool} {as : Sm (List D)} {po p1 : Pm Out} {pp : Pm Bool} {pa : Pm D} {pas : Pm (List D)} {r : R Out} {g : D → Env → Option Env}
theorem s_s_seq (h0 : sSeq o (sSeq o1 k) env t = r) : sSeq (sSeq o o1) k env t = r := by
  refine @Hush.hu _ (by
  refine Eq.trans ?_ h0
  unfold sSeq
  cases o env t with
  | no => rfl
  | ex _ _ => rfl
  | ok w _ => cases w <;> rfl) ?_
  walk_at "hu"
theorem s_s_lseq (h0 : sSeq (lift po) (sSeq (lift p1) k) env t = r) : sSeq (lift (pSeq po p1)) k env t = r := by
  refine Hush.hu ((by rw [lift_seq]; exact s_s_seq h0)) ?_
  walk_at "hu"
theorem s_s_if (h0 : sIf p (sSeq o k) (sSeq o1 k) env t = r) : sSeq (sIf p o o1) k env t = r := by
  refine @Hush.hu _ (by
  refine Eq.trans ?_ h0
  unfold sSeq sIf
  cases p env t with
  | no => rfl
  | ex _ _ => rfl
  | ok w _ => cases w <;> rfl) ?_
  walk_at "hu"
theorem s_s_lif (h0 : sIf (lift pp) (sSeq (lift po) k) (sSeq (lift p1) k) env t = r) : sSeq (lift (pIf pp po p1)) k env t = r := by
  refine Hush.hu ((by rw [lift_if]; exact s_s_if h0)) ?_
  walk_at "hu"
theorem s_s_nx (h0 : k env t = r) : sSeq sNx k env t = r := h0
theorem s_s_lnx (h0 : k env t = r) : sSeq (lift pNx) k env t = r := h0
theorem s_s_ret (h0 : a env t = .ok x t1) : sSeq (sRet a) k env t = .ok (.rt x) t1 := by
  refine Hush.hu (sSeq_rt (sRet_of h0)) ?_
  walk_at "hu"
theorem s_s_lret (h0 : pa env = some x) : sSeq (lift (pRet pa)) k env t = .ok (.rt x) t := by
  refine Hush.hu (sSeq_rt (l_of (pRet_of h0))) ?_
  walk_at "hu"
theorem s_s_asg (h0 : a env t = .ok x t1) (h1 : g x env = some e1) (h2 : k e1 t1 = r) : sSeq (sAsg g a) k env t = r := by
  refine Hush.hu ((sSeq_nx (sAsg_of h0 h1)).trans h2) ?_
  walk_at "hu"
theorem s_s_lasg (h0 : pa env = some x) (h1 : g x env = some e1) (h2 : k e1 t = r) : sSeq (lift (pAsg g pa)) k env t = r := by
  refine Hush.hu ((sSeq_nx (l_of (pAsg_of h0 h1))).trans h2) ?_
  walk_at "hu"
theorem s_s_asgS {gg : D → Env → Ts → R Env} (h0 : a env t = .ok x t1) (h1 : gg x env t1 = .ok e1 t2) (h2 : k e1 t2 = r) : sSeq (sAsgS gg a) k env t = r := by
  refine @Hush.hu _ (by
  refine Eq.trans ?_ h2
  unfold sSeq sAsgS
  rw [h0]
  show (R.bind (R.bind (gg x env t1) _) _) = _
  rw [h1]
  rfl) ?_
  walk_at "hu"
theorem s_gsx {b : Sm D} {mv : Bool} (h0 : a env t = .ok x t1) (h1 : b env t1 = .ok y t2) (h2 : setX mv x y z t2 = some t3) : gSX mv a b z env t = .ok env t3 := by
  refine @Hush.hu _ (by
  unfold gSX
  rw [h0]
  show (b env t1).bind _ = _
  rw [h1]
  show (ofO (setX mv x y z t2) t2).bind _ = _
  rw [h2]
  rfl) ?_
  walk_at "hu"
theorem s_gsf {mv : Bool} {cs : List Str} {fn : Str} (h0 : a env t = .ok x t1) (h1 : setF cs fn mv x z t1 = some t2) : gSF cs fn mv a z env t = .ok env t2 := by
  refine @Hush.hu _ (by
  unfold gSF
  rw [h0]
  show (ofO (setF cs fn mv x z t1) t1).bind _ = _
  rw [h1]
  rfl) ?_
  walk_at "hu"
theorem s_gL (h0 : g x env = some e1) : gL g x env t = .ok e1 t := by
  refine @Hush.hu _ (by
  unfold gL
  rw [h0]
  rfl) ?_
  walk_at "hu"
theorem s_s_fset {b : Sm D} {mv : Bool} {cs : List Str} {fn : Str} (h0 : a env t = .ok y t1) (h1 : b env t1 = .ok x t2) (h2 : setF cs fn mv x y t2 = some t3) (h3 : k env t3 = r) : sSeq (sFldSet cs fn mv b a) k env t = r := by
  refine @Hush.hu _ (by
  refine Eq.trans ?_ h3
  unfold sSeq sFldSet
  rw [h0]
  show R.bind (R.bind (b env t1) _) _ = _
  rw [h1]
  show R.bind (R.bind (ofO (setF cs fn mv x y t2) t2) _) _ = _
  rw [h2]
  rfl) ?_
  walk_at "hu"
theorem s_s_fadd {i j : Int} {cs : List Str} {fn : Str} (h0 : a env t = .ok x t1) (h1 : getF cs fn x t1 = some (.d (.int i))) (h2 : setF cs fn false x (.d (.int (i + j))) t1 = some t2) (h3 : k env t2 = r) : sSeq (sFldAdd cs fn j a) k env t = r := by
  refine @Hush.hu _ (by
  refine Eq.trans ?_ h3
  unfold sSeq sFldAdd
  rw [h0]
  show R.bind (R.bind (ofO ((getF cs fn x t1).bind _) t1) _) _ = _
  rw [h1]
  show R.bind (R.bind (ofO (setF cs fn false x (.d (.int (i + j))) t1) t1) _) _ = _
  rw [h2]
  rfl) ?_
  walk_at "hu"
theorem s_s_exp (h0 : a env t = .ok x t1) (h1 : k env t1 = r) : sSeq (sExp a) k env t = r := by
  refine Hush.hu ((sSeq_nx (sExp_of h0)).trans h1) ?_
  walk_at "hu"
theorem s_s_lexp (h0 : pa env = some x) (h1 : k env t = r) : sSeq (lift (pExp pa)) k env t = r := by
  refine @Hush.hu _ (by
  refine Eq.trans ?_ h1
  unfold sSeq lift pExp
  rw [h0]
  rfl) ?_
  walk_at "hu"
theorem s_s_expex {ee : Exn} (h0 : a env t = .ex ee t1) : sSeq (sExp a) k env t = .ex ee t1 := by
  refine Hush.hu (sSeq_ex (sExp_ex h0)) ?_
  walk_at "hu"
theorem s_s_retex {ee : Exn} (h0 : a env t = .ex ee t1) : sSeq (sRet a) k env t = .ex ee t1 := by
  refine @Hush.hu _ (by
  refine sSeq_ex ?_
  unfold sRet
  rw [h0]
  rfl) ?_
  walk_at "hu"
theorem s_s_asgex {ee : Exn} (h0 : a env t = .ex ee t1) : sSeq (sAsg g a) k env t = .ex ee t1 := by
  refine @Hush.hu _ (by
  refine sSeq_ex ?_
  unfold sAsg
  rw [h0]
  rfl) ?_
  walk_at "hu"
theorem s_s_raise {ex : Str}  : sSeq (sRaise ex) k env t = .ex ⟨ex, none⟩ t := rfl
theorem s_s_raise1 {ex fn : Str} {pdx : PyData} (h0 : a env t = .ok (.d pdx) t1) : sSeq (sRaise1 ex fn a) k env t = .ex ⟨ex, some (fn, pdx)⟩ t1 := by
  refine Hush.hu (sSeq_ex (sRaise1_of h0)) ?_
  walk_at "hu"
theorem s_s_par2 {i j : Nat} (h0 : as env t = .ok [x, y] t1) (h1 : env.set i (some x) = e1) (h2 : e1.set j (some y) = e2) (h3 : k e2 t1 = r) : sSeq (sPar2 i j as) k env t = r := by
  refine @Hush.hu _ (by
  subst h1 h2
  refine Eq.trans ?_ h3
  unfold sSeq sPar2
  rw [h0]
  rfl) ?_
  walk_at "hu"
theorem s_s_par3 {i j n : Nat} (h0 : as env t = .ok [x, y, z] t1) (h1 : env.set i (some x) = e1) (h2 : e1.set j (some y) = e2) (h3 : e2.set n (some z) = e3) (h4 : k e3 t1 = r) : sSeq (sPar3 i j n as) k env t = r := by
  refine @Hush.hu _ (by
  subst h1 h2 h3
  refine Eq.trans ?_ h4
  unfold sSeq sPar3
  rw [h0]
  rfl) ?_
  walk_at "hu"
theorem s_s_lpar2 {i j : Nat} (h0 : pas env = some [x, y]) (h1 : env.set i (some x) = e1) (h2 : e1.set j (some y) = e2) (h3 : k e2 t = r) : sSeq (lift (pPar2 i j pas)) k env t = r := by
  refine @Hush.hu _ (by
  subst h1 h2
  refine Eq.trans ?_ h3
  unfold sSeq lift pPar2
  rw [h0]
  rfl) ?_
  walk_at "hu"
theorem s_s_lpar3 {i j n : Nat} (h0 : pas env = some [x, y, z]) (h1 : env.set i (some x) = e1) (h2 : e1.set j (some y) = e2) (h3 : e2.set n (some z) = e3) (h4 : k e3 t = r) : sSeq (lift (pPar3 i j n pas)) k env t = r := by
  refine @Hush.hu _ (by
  subst h1 h2 h3
  refine Eq.trans ?_ h4
  unfold sSeq lift pPar3
  rw [h0]
  rfl) ?_
  walk_at "hu"
theorem s_s_aug {i : Nat} {m n : Int} (h0 : pV i env = some (.d (.int m))) (h1 : a env t = .ok (.d (.int n)) t1) (h2 : env.set i (some (.d (.int (m + n)))) = e1) (h3 : k e1 t1 = r) : sSeq (sAug i a) k env t = r := by
  refine @Hush.hu _ (by
  subst h2
  refine Eq.trans ?_ h3
  have h0 := pv_inv h0
  unfold sSeq sAug sV
  rw [h0]
  show R.bind (R.bind (a env t) _) _ = _
  rw [h1]
  rfl) ?_
  walk_at "hu"
theorem s_s_laug {i : Nat} {m n : Int} (h0 : pV i env = some (.d (.int m))) (h1 : pa env = some (.d (.int n))) (h2 : env.set i (some (.d (.int (m + n)))) = e1) (h3 : k e1 t = r) : sSeq (lift (pAug i pa)) k env t = r := by
  refine Hush.hu ((by rw [lift_aug]; exact s_s_aug h0 (l_of h1) h2 h3)) ?_
  walk_at "hu"
theorem s_fzs {i : Nat} (h0 : pV i env = some x) (h1 : frz x t = .ok y t1) (h2 : env.set i (some y) = e1) (h3 : k e1 t1 = r) : sFzS i k env t = r := by
  refine @Hush.hu _ (by
  subst h2
  refine Eq.trans ?_ h3
  have h0 := pv_inv h0
  unfold sFzS
  rw [h0]
  show (frz x t).bind _ = _
  rw [h1]
  rfl) ?_
  walk_at "hu"
theorem s_l_ret (h0 : sSeq (sRet a) sNx env t = r) : (sRet a) env t = r := by
  refine @Hush.hu _ (by
  refine Eq.trans ?_ h0
  unfold sSeq
  cases (sRet a) env t with
  | no => rfl
  | ex _ _ => rfl
  | ok w _ => cases w <;> rfl) ?_
  walk_at "hu"
theorem s_l_asg (h0 : sSeq (sAsg g a) sNx env t = r) : (sAsg g a) env t = r := by
  refine @Hush.hu _ (by
  refine Eq.trans ?_ h0
  unfold sSeq
  cases (sAsg g a) env t with
  | no => rfl
  | ex _ _ => rfl
  | ok w _ => cases w <;> rfl) ?_
  walk_at "hu"
theorem s_l_exp (h0 : sSeq (sExp a) sNx env t = r) : (sExp a) env t = r := by
  refine @Hush.hu _ (by
  refine Eq.trans ?_ h0
  unfold sSeq
  cases (sExp a) env t with
  | no => rfl
  | ex _ _ => rfl
  | ok w _ => cases w <;> rfl) ?_
  walk_at "hu"
theorem s_l_asgs {gg : D → Env → Ts → R Env} (h0 : sSeq (sAsgS gg a) sNx env t = r) : (sAsgS gg a) env t = r := by
  refine @Hush.hu _ (by
  refine Eq.trans ?_ h0
  unfold sSeq
  cases (sAsgS gg a) env t with
  | no => rfl
  | ex _ _ => rfl
  | ok w _ => cases w <;> rfl) ?_
  walk_at "hu"
theorem s_l_raise {ex : Str} (h0 : sSeq (sRaise ex) sNx env t = r) : (sRaise ex) env t = r := by
  refine @Hush.hu _ (by
  refine Eq.trans ?_ h0
  unfold sSeq
  cases (sRaise ex) env t with
  | no => rfl
  | ex _ _ => rfl
  | ok w _ => cases w <;> rfl) ?_
  walk_at "hu"
theorem s_l_raise1 {ex fn : Str} (h0 : sSeq (sRaise1 ex fn a) sNx env t = r) : (sRaise1 ex fn a) env t = r := by
  refine @Hush.hu _ (by
  refine Eq.trans ?_ h0
  unfold sSeq
  cases (sRaise1 ex fn a) env t with
  | no => rfl
  | ex _ _ => rfl
  | ok w _ => cases w <;> rfl) ?_
  walk_at "hu"
theorem s_l_par2 {i j : Nat} (h0 : sSeq (sPar2 i j as) sNx env t = r) : (sPar2 i j as) env t = r := by
  refine @Hush.hu _ (by
  refine Eq.trans ?_ h0
  unfold sSeq
  cases (sPar2 i j as) env t with
  | no => rfl
  | ex _ _ => rfl
  | ok w _ => cases w <;> rfl) ?_
  walk_at "hu"
theorem s_l_fldset {b : Sm D} {mv : Bool} {cs : List Str} {fn : Str} (h0 : sSeq (sFldSet cs fn mv b a) sNx env t = r) : (sFldSet cs fn mv b a) env t = r := by
  refine @Hush.hu _ (by
  refine Eq.trans ?_ h0
  unfold sSeq
  cases (sFldSet cs fn mv b a) env t with
  | no => rfl
  | ex _ _ => rfl
  | ok w _ => cases w <;> rfl) ?_
  walk_at "hu"
theorem s_l_fldadd {j : Int} {cs : List Str} {fn : Str} (h0 : sSeq (sFldAdd cs fn j a) sNx env t = r) : (sFldAdd cs fn j a) env t = r := by
  refine @Hush.hu _ (by
  refine Eq.trans ?_ h0
  unfold sSeq
  cases (sFldAdd cs fn j a) env t with
  | no => rfl
  | ex _ _ => rfl
  | ok w _ => cases w <;> rfl) ?_
  walk_at "hu"
theorem s_l_lret (h0 : sSeq (lift (pRet pa)) sNx env t = r) : lift (pRet pa) env t = r := by
  refine @Hush.hu _ (by
  refine Eq.trans ?_ h0
  unfold sSeq
  cases lift (pRet pa) env t with
  | no => rfl
  | ex _ _ => rfl
  | ok w _ => cases w <;> rfl) ?_
  walk_at "hu"
theorem s_l_lasg (h0 : sSeq (lift (pAsg g pa)) sNx env t = r) : lift (pAsg g pa) env t = r := by
  refine @Hush.hu _ (by
  refine Eq.trans ?_ h0
  unfold sSeq
  cases lift (pAsg g pa) env t with
  | no => rfl
  | ex _ _ => rfl
  | ok w _ => cases w <;> rfl) ?_
  walk_at "hu"
theorem s_l_lnx (h0 : sSeq (lift (pNx)) sNx env t = r) : lift (pNx) env t = r := by
  refine @Hush.hu _ (by
  refine Eq.trans ?_ h0
  unfold sSeq
  cases lift (pNx) env t with
  | no => rfl
  | ex _ _ => rfl
  | ok w _ => cases w <;> rfl) ?_
  walk_at "hu"
theorem s_l_lseq (h0 : sSeq (lift (pSeq po p1)) sNx env t = r) : lift (pSeq po p1) env t = r := by
  refine @Hush.hu _ (by
  refine Eq.trans ?_ h0
  unfold sSeq
  cases lift (pSeq po p1) env t with
  | no => rfl
  | ex _ _ => rfl
  | ok w _ => cases w <;> rfl) ?_
  walk_at "hu"
theorem s_l_lexp (h0 : sSeq (lift (pExp pa)) sNx env t = r) : lift (pExp pa) env t = r := by
  refine @Hush.hu _ (by
  refine Eq.trans ?_ h0
  unfold sSeq
  cases lift (pExp pa) env t with
  | no => rfl
  | ex _ _ => rfl
  | ok w _ => cases w <;> rfl) ?_
  walk_at "hu"
theorem s_nx  : sNx env t = .ok (.nx env) t := rfl
theorem s_gST2 {gs : List D → Env → Ts → R Env} {r0 : R Env} {q0 q1 : PyData} (h0 : gs [.d q0, .d q1] env t = r0) : gST 2 gs (.d (.tuple [q0, q1])) env t = r0 := h0
theorem s_gSTp2 {gs : List D → Env → Ts → R Env} {r0 : R Env} {q0 q1 : D} (h0 : gs [q0, q1] env t = r0) : gST 2 gs (.tp [q0, q1]) env t = r0 := h0
theorem s_gST3 {gs : List D → Env → Ts → R Env} {r0 : R Env} {q0 q1 q2 : PyData} (h0 : gs [.d q0, .d q1, .d q2] env t = r0) : gST 3 gs (.d (.tuple [q0, q1, q2])) env t = r0 := h0
theorem s_gSTp3 {gs : List D → Env → Ts → R Env} {r0 : R Env} {q0 q1 q2 : D} (h0 : gs [q0, q1, q2] env t = r0) : gST 3 gs (.tp [q0, q1, q2]) env t = r0 := h0
theorem s_gST6 {gs : List D → Env → Ts → R Env} {r0 : R Env} {q0 q1 q2 q3 q4 q5 : PyData} (h0 : gs [.d q0, .d q1, .d q2, .d q3, .d q4, .d q5] env t = r0) : gST 6 gs (.d (.tuple [q0, q1, q2, q3, q4, q5])) env t = r0 := h0
theorem s_gSTp6 {gs : List D → Env → Ts → R Env} {r0 : R Env} {q0 q1 q2 q3 q4 q5 : D} (h0 : gs [q0, q1, q2, q3, q4, q5] env t = r0) : gST 6 gs (.tp [q0, q1, q2, q3, q4, q5]) env t = r0 := h0
theorem s_gSC {gg : D → Env → Ts → R Env} {gs : List D → Env → Ts → R Env} {r0 : R Env} (h0 : gg x env t = .ok e1 t1) (h1 : gs l e1 t1 = r0) : gSC gg gs (x :: l) env t = r0 := by
  refine @Hush.hu _ (by
  refine Eq.trans ?_ h1
  show (gg x env t).bind _ = _
  rw [h0]
  rfl) ?_
  walk_at "hu"
theorem s_gSE  : gSE [] env t = .ok env t := rfl
end
theorem s_lift {g : Pm α} {a : α} (h0 : g env = some a) : lift g env t = .ok a t := by
  refine Hush.hu (l_of h0) ?_
  walk_at "hu"
theorem s_li {g : Pm (List D)} (h0 : g env = some l) : liftI g env t = .ok (.st l) t := by
  refine @Hush.hu _ (by
  unfold liftI
  rw [h0]
  rfl) ?_
  walk_at "hu"
theorem s_lc {g : D → Env → Option Env} {vs : List Nat} {src : Sm Itb} {tt : Sm Bool} {el : Sm D} {it : Itb} (h0 : src env t = .ok it t1) (h1 : wipeE env vs = e0) (h2 : goItC it g e0 tt el t1 = .ok l2 t2) : sLc g vs src tt el env t = .ok l2 t2 := by
  refine @Hush.hu _ (by
  subst h1
  unfold sLc
  rw [h0]
  exact h2) ?_
  walk_at "hu"
theorem s_for {g : D → Env → Option Env} {src : Sm Itb} {body : Sm Out} {it : Itb} {r : R Out} (h0 : src env t = .ok it t1) (h1 : goItF it g body env t1 = r) : sFor g src body env t = r := by
  refine @Hush.hu _ (by
  refine Eq.trans ?_ h1
  unfold sFor
  rw [h0]
  rfl) ?_
  walk_at "hu"
theorem s_it {a : Sm D} {it : Itb} (h0 : a env t = .ok x t1) (h1 : itS x t1 = .ok it t1) : sIt a env t = .ok it t1 := by
  refine @Hush.hu _ (by
  unfold sIt
  rw [h0]
  exact h1) ?_
  walk_at "hu"
theorem s_rg {f : List D → Option (List D)} {as : Sm (List D)} (h0 : as env t = .ok l t1) (h1 : f l = some l2) : sRg f as env t = .ok (.st l2) t1 := by
  refine @Hush.hu _ (by
  unfold sRg
  rw [h0]
  show (ofO (f l) t1).bind _ = _
  rw [h1]
  rfl) ?_
  walk_at "hu"
theorem p_s_wh {p1 : Pm Bool} {o1 k : Pm Out} {n : Nat} {po : Option Out} (h0 : goWP p1 o1 n env = some (.nx e1)) (h1 : k e1 = po) : pSeq (pWh n p1 o1) k env = po := by
  refine Hush.hu ((pSeq_nx (show pWh n p1 o1 env = _ from h0)).trans h1) ?_
  walk_at "hu"
theorem s_s_wh {p1 : Sm Bool} {o1 k : Sm Out} {n : Nat} {ro : R Out} (h0 : goW p1 o1 n env t = .ok (.nx e1) t1) (h1 : k e1 t1 = ro) : sSeq (sWh n p1 o1) k env t = ro := by
  refine Hush.hu ((sSeq_nx (show sWh n p1 o1 env t = _ from h0)).trans h1) ?_
  walk_at "hu"
theorem p_l_aug {i : Nat} {m n : Int} {a : Pm D} (h0 : pV i env = some (.d (.int m))) (h1 : a env = some (.d (.int n))) (h2 : env.set i (some (.d (.int (m + n)))) = e1) : pAug i a env = some (.nx e1) := by
  refine @Hush.hu _ (by
  subst h2
  unfold pAug
  rw [h0]
  simp only [Option.bind_some]
  rw [h1]
  rfl) ?_
  walk_at "hu"
theorem gt_2 {gs : List D → Env → Option Env} {da db : PyData} (h0 : gs [.d da, .d db] env = some e1) : gT 2 gs (.d (.tuple [da, db])) env = some e1 := h0
theorem gt_3 {gs : List D → Env → Option Env} {da db dc : PyData} (h0 : gs [.d da, .d db, .d dc] env = some e1) : gT 3 gs (.d (.tuple [da, db, dc])) env = some e1 := h0
theorem gt_5 {gs : List D → Env → Option Env} {da db dc dd de : PyData} (h0 : gs [.d da, .d db, .d dc, .d dd, .d de] env = some e1) : gT 5 gs (.d (.tuple [da, db, dc, dd, de])) env = some e1 := h0
theorem gt_2p {gs : List D → Env → Option Env} (h0 : gs [x, y] env = some e1) : gT 2 gs (.tp [x, y]) env = some e1 := h0
theorem gt_3p {gs : List D → Env → Option Env} (h0 : gs [x, y, z] env = some e1) : gT 3 gs (.tp [x, y, z]) env = some e1 := h0
theorem gc_ {g : D → Env → Option Env} {gs : List D → Env → Option Env} (h0 : g x env = some e0) (h1 : gs l e0 = some e1) : gC g gs (x :: l) env = some e1 := by
  refine @Hush.hu _ (by
  show (g x env).bind _ = _
  rw [h0]
  exact h1) ?_
  walk_at "hu"
theorem ge_  : gE [] env = some env := rfl
theorem w_nil  : wipeE env [] = env := rfl
theorem w_cons {i : Nat} {r : List Nat} (h0 : wipeE env r = e1) (h1 : e1.set i none = e2) : wipeE env (i :: r) = e2 := by
  refine @Hush.hu _ (by subst h0; exact h1) ?_
  walk_at "hu"
theorem g_st {g : D → Env → Option Env} {tt : Sm Bool} {el : Sm D} {ds : List D} {rl : R (List D)} (h0 : ds.length ≤ 100000) (h1 : goC g env tt el ds t = rl) : goItC (.st ds) g env tt el t = rl := by
  refine @Hush.hu _ (by
  show (if ds.length ≤ 100000 then goC g env tt el ds t else .no) = rl
  rw [if_pos h0]
  exact h1) ?_
  walk_at "hu"
theorem c_nil {g : D → Env → Option Env} {tt : Sm Bool} {el : Sm D}  : goC g env tt el [] t = .ok [] t := rfl
theorem c_cons {g : D → Env → Option Env} {el : Sm D} (h0 : g x env = some e1) (h1 : el e1 t = .ok y t1) (h2 : goC g env (lift (pC true)) el l t1 = .ok l2 t2) : goC g env (lift (pC true)) el (x :: l) t = .ok (y :: l2) t2 := by
  refine @Hush.hu _ (by
  unfold goC
  rw [h0]
  show ((el e1 t).nox.bind fun y t => (goC g env (lift (pC true)) el l t).bind fun ys t => .ok (y :: ys) t) = _
  rw [h1]
  show ((goC g env (lift (pC true)) el l t1).bind fun ys t => .ok (y :: ys) t) = _
  rw [h2]
  rfl) ?_
  walk_at "hu"
theorem gp_nil {g : D → Env → Option Env} {tt : Pm Bool} {el : Pm D}  : goP g env tt el [] = some [] := rfl
theorem gp_cons {g : D → Env → Option Env} {tt : Pm Bool} {el : Pm D} {ol : Option (List D)} (h0 : g x env = some e1) (h1 : tt e1 = some v) (h2 : (if v = true then (el e1).bind fun q => (goP g env tt el l).map fun z => q :: z else goP g env tt el l) = ol) : goP g env tt el (x :: l) = ol := by
  refine @Hush.hu _ (by
  refine Eq.trans ?_ h2
  show (g x env).bind _ = _
  rw [h0]
  show (tt e1).bind _ = _
  rw [h1]
  rfl) ?_
  walk_at "hu"
theorem gp_el {g : D → Env → Option Env} {tt : Pm Bool} {el : Pm D} (h0 : el e1 = some y) (h1 : goP g env tt el l = some l2) : ((el e1).bind fun q => (goP g env tt el l).map fun z => q :: z) = some (y :: l2) := by
  refine @Hush.hu _ (by
  rw [h0]
  show ((goP g env tt el l).map _) = _
  rw [h1]
  rfl) ?_
  walk_at "hu"
theorem gf_st {g : D → Env → Option Env} {body : Sm Out} {ds : List D} {ro : R Out} (h0 : goF g body ds env t = ro) : goItF (.st ds) g body env t = ro := h0
theorem gf_nil {g : D → Env → Option Env} {body : Sm Out}  : goF g body [] env t = .ok (.nx env) t := rfl
theorem gf_cons {g : D → Env → Option Env} {body : Sm Out} {ro : R Out} (h0 : g x env = some e1) (h1 : body e1 t = .ok (.nx e2) t1) (h2 : goF g body l e2 t1 = ro) : goF g body (x :: l) env t = ro := by
  refine @Hush.hu _ (by
  refine Eq.trans ?_ h2
  show (ofO (g x env) t).bind _ = _
  rw [h0]
  show (body e1 t).bind _ = _
  rw [h1]
  rfl) ?_
  walk_at "hu"
theorem s_s_for {g : D → Env → Option Env} {src : Sm Itb} {body k : Sm Out} {ro : R Out} (h0 : sFor g src body env t = .ok (.nx e1) t1) (h1 : k e1 t1 = ro) : sSeq (sFor g src body) k env t = ro := by
  refine Hush.hu ((sSeq_nx h0).trans h1) ?_
  walk_at "hu"
theorem s_s_forrt {g : D → Env → Option Env} {src : Sm Itb} {body k : Sm Out} (h0 : sFor g src body env t = .ok (.rt y) t1) : sSeq (sFor g src body) k env t = .ok (.rt y) t1 := by
  refine Hush.hu (sSeq_rt h0) ?_
  walk_at "hu"
theorem s_s_forex {g : D → Env → Option Env} {src : Sm Itb} {body k : Sm Out} {ee : Exn} (h0 : sFor g src body env t = .ex ee t1) : sSeq (sFor g src body) k env t = .ex ee t1 := by
  refine Hush.hu (sSeq_ex h0) ?_
  walk_at "hu"
theorem gfp_nil {g : D → Env → Option Env} {body : Pm Out}  : goFP g body [] env = some (.nx env) := rfl
theorem gfp_cons {g : D → Env → Option Env} {body : Pm Out} {ro : Option Out} (h0 : g x env = some e1) (h1 : body e1 = some (.nx e2)) (h2 : goFP g body l e2 = ro) : goFP g body (x :: l) env = ro := by
  refine @Hush.hu _ (by
  refine Eq.trans ?_ h2
  show (g x env).bind _ = _
  rw [h0]
  show (body e1).bind _ = _
  rw [h1]
  rfl) ?_
  walk_at "hu"
theorem p_for {g : D → Env → Option Env} {src : Pm (List D)} {body : Pm Out} {po : Option Out} (h0 : src env = some l) (h1 : goFP g body l env = po) : pFor g src body env = po := by
  refine @Hush.hu _ (by
  refine Eq.trans ?_ h1
  unfold pFor
  rw [h0]
  rfl) ?_
  walk_at "hu"
theorem p_s_for {g : D → Env → Option Env} {src : Pm (List D)} {body k : Pm Out} {po : Option Out} (h0 : pFor g src body env = some (.nx e1)) (h1 : k e1 = po) : pSeq (pFor g src body) k env = po := by
  refine Hush.hu ((pSeq_nx h0).trans h1) ?_
  walk_at "hu"
theorem p_s_forrt {g : D → Env → Option Env} {src : Pm (List D)} {body k : Pm Out} (h0 : pFor g src body env = some (.rt y)) : pSeq (pFor g src body) k env = some (.rt y) := by
  refine Hush.hu (pSeq_rt h0) ?_
  walk_at "hu"
theorem ix_l0 {xs : List PyData} {k : Nat} {x : PyData} (h : xs[k]? = some x) : fIx (.d (.list xs)) (.d (.int (k : Nat))) = some (.d x) := by
  refine @Hush.hu _ (by
  show (atI xs (k : Int)).map D.d = _
  rw [at_nat, h]
  rfl) ?_
  walk_at "hu"
theorem ix_t0 {xs : List PyData} {k : Nat} {x : PyData} (h : xs[k]? = some x) : fIx (.d (.tuple xs)) (.d (.int (k : Nat))) = some (.d x) := by
  refine @Hush.hu _ (by
  show (atI xs (k : Int)).map D.d = _
  rw [at_nat, h]
  rfl) ?_
  walk_at "hu"
theorem st_0 {o0 : Option D} {w : Option D} {r : Env} : (o0 :: r).set 0 w = (w :: r) := rfl
theorem gn_0 {o0 : Option D} {w : D} {r : Env} : gN 0 w (o0 :: r) = some (some w :: r) := rfl
theorem st_1 {o0 o1 : Option D} {w : Option D} {r : Env} : (o0 :: o1 :: r).set 1 w = (o0 :: w :: r) := rfl
theorem gn_1 {o0 o1 : Option D} {w : D} {r : Env} : gN 1 w (o0 :: o1 :: r) = some (o0 :: some w :: r) := rfl
theorem st_2 {o0 o1 o2 : Option D} {w : Option D} {r : Env} : (o0 :: o1 :: o2 :: r).set 2 w = (o0 :: o1 :: w :: r) := rfl
theorem gn_2 {o0 o1 o2 : Option D} {w : D} {r : Env} : gN 2 w (o0 :: o1 :: o2 :: r) = some (o0 :: o1 :: some w :: r) := rfl
theorem st_3 {o0 o1 o2 o3 : Option D} {w : Option D} {r : Env} : (o0 :: o1 :: o2 :: o3 :: r).set 3 w = (o0 :: o1 :: o2 :: w :: r) := rfl
theorem gn_3 {o0 o1 o2 o3 : Option D} {w : D} {r : Env} : gN 3 w (o0 :: o1 :: o2 :: o3 :: r) = some (o0 :: o1 :: o2 :: some w :: r) := rfl
theorem st_4 {o0 o1 o2 o3 o4 : Option D} {w : Option D} {r : Env} : (o0 :: o1 :: o2 :: o3 :: o4 :: r).set 4 w = (o0 :: o1 :: o2 :: o3 :: w :: r) := rfl
theorem gn_4 {o0 o1 o2 o3 o4 : Option D} {w : D} {r : Env} : gN 4 w (o0 :: o1 :: o2 :: o3 :: o4 :: r) = some (o0 :: o1 :: o2 :: o3 :: some w :: r) := rfl
theorem st_5 {o0 o1 o2 o3 o4 o5 : Option D} {w : Option D} {r : Env} : (o0 :: o1 :: o2 :: o3 :: o4 :: o5 :: r).set 5 w = (o0 :: o1 :: o2 :: o3 :: o4 :: w :: r) := rfl
theorem gn_5 {o0 o1 o2 o3 o4 o5 : Option D} {w : D} {r : Env} : gN 5 w (o0 :: o1 :: o2 :: o3 :: o4 :: o5 :: r) = some (o0 :: o1 :: o2 :: o3 :: o4 :: some w :: r) := rfl
theorem st_6 {o0 o1 o2 o3 o4 o5 o6 : Option D} {w : Option D} {r : Env} : (o0 :: o1 :: o2 :: o3 :: o4 :: o5 :: o6 :: r).set 6 w = (o0 :: o1 :: o2 :: o3 :: o4 :: o5 :: w :: r) := rfl
theorem gn_6 {o0 o1 o2 o3 o4 o5 o6 : Option D} {w : D} {r : Env} : gN 6 w (o0 :: o1 :: o2 :: o3 :: o4 :: o5 :: o6 :: r) = some (o0 :: o1 :: o2 :: o3 :: o4 :: o5 :: some w :: r) := rfl
theorem st_7 {o0 o1 o2 o3 o4 o5 o6 o7 : Option D} {w : Option D} {r : Env} : (o0 :: o1 :: o2 :: o3 :: o4 :: o5 :: o6 :: o7 :: r).set 7 w = (o0 :: o1 :: o2 :: o3 :: o4 :: o5 :: o6 :: w :: r) := rfl
theorem gn_7 {o0 o1 o2 o3 o4 o5 o6 o7 : Option D} {w : D} {r : Env} : gN 7 w (o0 :: o1 :: o2 :: o3 :: o4 :: o5 :: o6 :: o7 :: r) = some (o0 :: o1 :: o2 :: o3 :: o4 :: o5 :: o6 :: some w :: r) := rfl
theorem st_8 {o0 o1 o2 o3 o4 o5 o6 o7 o8 : Option D} {w : Option D} {r : Env} : (o0 :: o1 :: o2 :: o3 :: o4 :: o5 :: o6 :: o7 :: o8 :: r).set 8 w = (o0 :: o1 :: o2 :: o3 :: o4 :: o5 :: o6 :: o7 :: w :: r) := rfl
theorem gn_8 {o0 o1 o2 o3 o4 o5 o6 o7 o8 : Option D} {w : D} {r : Env} : gN 8 w (o0 :: o1 :: o2 :: o3 :: o4 :: o5 :: o6 :: o7 :: o8 :: r) = some (o0 :: o1 :: o2 :: o3 :: o4 :: o5 :: o6 :: o7 :: some w :: r) := rfl
theorem st_9 {o0 o1 o2 o3 o4 o5 o6 o7 o8 o9 : Option D} {w : Option D} {r : Env} : (o0 :: o1 :: o2 :: o3 :: o4 :: o5 :: o6 :: o7 :: o8 :: o9 :: r).set 9 w = (o0 :: o1 :: o2 :: o3 :: o4 :: o5 :: o6 :: o7 :: o8 :: w :: r) := rfl
theorem gn_9 {o0 o1 o2 o3 o4 o5 o6 o7 o8 o9 : Option D} {w : D} {r : Env} : gN 9 w (o0 :: o1 :: o2 :: o3 :: o4 :: o5 :: o6 :: o7 :: o8 :: o9 :: r) = some (o0 :: o1 :: o2 :: o3 :: o4 :: o5 :: o6 :: o7 :: o8 :: some w :: r) := rfl
theorem st_10 {o0 o1 o2 o3 o4 o5 o6 o7 o8 o9 o10 : Option D} {w : Option D} {r : Env} : (o0 :: o1 :: o2 :: o3 :: o4 :: o5 :: o6 :: o7 :: o8 :: o9 :: o10 :: r).set 10 w = (o0 :: o1 :: o2 :: o3 :: o4 :: o5 :: o6 :: o7 :: o8 :: o9 :: w :: r) := rfl
theorem gn_10 {o0 o1 o2 o3 o4 o5 o6 o7 o8 o9 o10 : Option D} {w : D} {r : Env} : gN 10 w (o0 :: o1 :: o2 :: o3 :: o4 :: o5 :: o6 :: o7 :: o8 :: o9 :: o10 :: r) = some (o0 :: o1 :: o2 :: o3 :: o4 :: o5 :: o6 :: o7 :: o8 :: o9 :: some w :: r) := rfl
theorem st_11 {o0 o1 o2 o3 o4 o5 o6 o7 o8 o9 o10 o11 : Option D} {w : Option D} {r : Env} : (o0 :: o1 :: o2 :: o3 :: o4 :: o5 :: o6 :: o7 :: o8 :: o9 :: o10 :: o11 :: r).set 11 w = (o0 :: o1 :: o2 :: o3 :: o4 :: o5 :: o6 :: o7 :: o8 :: o9 :: o10 :: w :: r) := rfl
theorem gn_11 {o0 o1 o2 o3 o4 o5 o6 o7 o8 o9 o10 o11 : Option D} {w : D} {r : Env} : gN 11 w (o0 :: o1 :: o2 :: o3 :: o4 :: o5 :: o6 :: o7 :: o8 :: o9 :: o10 :: o11 :: r) = some (o0 :: o1 :: o2 :: o3 :: o4 :: o5 :: o6 :: o7 :: o8 :: o9 :: o10 :: some w :: r) := rfl
theorem st_12 {o0 o1 o2 o3 o4 o5 o6 o7 o8 o9 o10 o11 o12 : Option D} {w : Option D} {r : Env} : (o0 :: o1 :: o2 :: o3 :: o4 :: o5 :: o6 :: o7 :: o8 :: o9 :: o10 :: o11 :: o12 :: r).set 12 w = (o0 :: o1 :: o2 :: o3 :: o4 :: o5 :: o6 :: o7 :: o8 :: o9 :: o10 :: o11 :: w :: r) := rfl
theorem gn_12 {o0 o1 o2 o3 o4 o5 o6 o7 o8 o9 o10 o11 o12 : Option D} {w : D} {r : Env} : gN 12 w (o0 :: o1 :: o2 :: o3 :: o4 :: o5 :: o6 :: o7 :: o8 :: o9 :: o10 :: o11 :: o12 :: r) = some (o0 :: o1 :: o2 :: o3 :: o4 :: o5 :: o6 :: o7 :: o8 :: o9 :: o10 :: o11 :: some w :: r) := rfl
theorem st_13 {o0 o1 o2 o3 o4 o5 o6 o7 o8 o9 o10 o11 o12 o13 : Option D} {w : Option D} {r : Env} : (o0 :: o1 :: o2 :: o3 :: o4 :: o5 :: o6 :: o7 :: o8 :: o9 :: o10 :: o11 :: o12 :: o13 :: r).set 13 w = (o0 :: o1 :: o2 :: o3 :: o4 :: o5 :: o6 :: o7 :: o8 :: o9 :: o10 :: o11 :: o12 :: w :: r) := rfl
theorem gn_13 {o0 o1 o2 o3 o4 o5 o6 o7 o8 o9 o10 o11 o12 o13 : Option D} {w : D} {r : Env} : gN 13 w (o0 :: o1 :: o2 :: o3 :: o4 :: o5 :: o6 :: o7 :: o8 :: o9 :: o10 :: o11 :: o12 :: o13 :: r) = some (o0 :: o1 :: o2 :: o3 :: o4 :: o5 :: o6 :: o7 :: o8 :: o9 :: o10 :: o11 :: o12 :: some w :: r) := rfl
theorem st_14 {o0 o1 o2 o3 o4 o5 o6 o7 o8 o9 o10 o11 o12 o13 o14 : Option D} {w : Option D} {r : Env} : (o0 :: o1 :: o2 :: o3 :: o4 :: o5 :: o6 :: o7 :: o8 :: o9 :: o10 :: o11 :: o12 :: o13 :: o14 :: r).set 14 w = (o0 :: o1 :: o2 :: o3 :: o4 :: o5 :: o6 :: o7 :: o8 :: o9 :: o10 :: o11 :: o12 :: o13 :: w :: r) := rfl
theorem gn_14 {o0 o1 o2 o3 o4 o5 o6 o7 o8 o9 o10 o11 o12 o13 o14 : Option D} {w : D} {r : Env} : gN 14 w (o0 :: o1 :: o2 :: o3 :: o4 :: o5 :: o6 :: o7 :: o8 :: o9 :: o10 :: o11 :: o12 :: o13 :: o14 :: r) = some (o0 :: o1 :: o2 :: o3 :: o4 :: o5 :: o6 :: o7 :: o8 :: o9 :: o10 :: o11 :: o12 :: o13 :: some w :: r) := rfl
theorem st_15 {o0 o1 o2 o3 o4 o5 o6 o7 o8 o9 o10 o11 o12 o13 o14 o15 : Option D} {w : Option D} {r : Env} : (o0 :: o1 :: o2 :: o3 :: o4 :: o5 :: o6 :: o7 :: o8 :: o9 :: o10 :: o11 :: o12 :: o13 :: o14 :: o15 :: r).set 15 w = (o0 :: o1 :: o2 :: o3 :: o4 :: o5 :: o6 :: o7 :: o8 :: o9 :: o10 :: o11 :: o12 :: o13 :: o14 :: w :: r) := rfl
theorem gn_15 {o0 o1 o2 o3 o4 o5 o6 o7 o8 o9 o10 o11 o12 o13 o14 o15 : Option D} {w : D} {r : Env} : gN 15 w (o0 :: o1 :: o2 :: o3 :: o4 :: o5 :: o6 :: o7 :: o8 :: o9 :: o10 :: o11 :: o12 :: o13 :: o14 :: o15 :: r) = some (o0 :: o1 :: o2 :: o3 :: o4 :: o5 :: o6 :: o7 :: o8 :: o9 :: o10 :: o11 :: o12 :: o13 :: o14 :: some w :: r) := rfl
theorem st_16 {o0 o1 o2 o3 o4 o5 o6 o7 o8 o9 o10 o11 o12 o13 o14 o15 o16 : Option D} {w : Option D} {r : Env} : (o0 :: o1 :: o2 :: o3 :: o4 :: o5 :: o6 :: o7 :: o8 :: o9 :: o10 :: o11 :: o12 :: o13 :: o14 :: o15 :: o16 :: r).set 16 w = (o0 :: o1 :: o2 :: o3 :: o4 :: o5 :: o6 :: o7 :: o8 :: o9 :: o10 :: o11 :: o12 :: o13 :: o14 :: o15 :: w :: r) := rfl
theorem gn_16 {o0 o1 o2 o3 o4 o5 o6 o7 o8 o9 o10 o11 o12 o13 o14 o15 o16 : Option D} {w : D} {r : Env} : gN 16 w (o0 :: o1 :: o2 :: o3 :: o4 :: o5 :: o6 :: o7 :: o8 :: o9 :: o10 :: o11 :: o12 :: o13 :: o14 :: o15 :: o16 :: r) = some (o0 :: o1 :: o2 :: o3 :: o4 :: o5 :: o6 :: o7 :: o8 :: o9 :: o10 :: o11 :: o12 :: o13 :: o14 :: o15 :: some w :: r) := rfl
theorem st_17 {o0 o1 o2 o3 o4 o5 o6 o7 o8 o9 o10 o11 o12 o13 o14 o15 o16 o17 : Option D} {w : Option D} {r : Env} : (o0 :: o1 :: o2 :: o3 :: o4 :: o5 :: o6 :: o7 :: o8 :: o9 :: o10 :: o11 :: o12 :: o13 :: o14 :: o15 :: o16 :: o17 :: r).set 17 w = (o0 :: o1 :: o2 :: o3 :: o4 :: o5 :: o6 :: o7 :: o8 :: o9 :: o10 :: o11 :: o12 :: o13 :: o14 :: o15 :: o16 :: w :: r) := rfl
theorem gn_17 {o0 o1 o2 o3 o4 o5 o6 o7 o8 o9 o10 o11 o12 o13 o14 o15 o16 o17 : Option D} {w : D} {r : Env} : gN 17 w (o0 :: o1 :: o2 :: o3 :: o4 :: o5 :: o6 :: o7 :: o8 :: o9 :: o10 :: o11 :: o12 :: o13 :: o14 :: o15 :: o16 :: o17 :: r) = some (o0 :: o1 :: o2 :: o3 :: o4 :: o5 :: o6 :: o7 :: o8 :: o9 :: o10 :: o11 :: o12 :: o13 :: o14 :: o15 :: o16 :: some w :: r) := rfl
theorem st_18 {o0 o1 o2 o3 o4 o5 o6 o7 o8 o9 o10 o11 o12 o13 o14 o15 o16 o17 o18 : Option D} {w : Option D} {r : Env} : (o0 :: o1 :: o2 :: o3 :: o4 :: o5 :: o6 :: o7 :: o8 :: o9 :: o10 :: o11 :: o12 :: o13 :: o14 :: o15 :: o16 :: o17 :: o18 :: r).set 18 w = (o0 :: o1 :: o2 :: o3 :: o4 :: o5 :: o6 :: o7 :: o8 :: o9 :: o10 :: o11 :: o12 :: o13 :: o14 :: o15 :: o16 :: o17 :: w :: r) := rfl
theorem gn_18 {o0 o1 o2 o3 o4 o5 o6 o7 o8 o9 o10 o11 o12 o13 o14 o15 o16 o17 o18 : Option D} {w : D} {r : Env} : gN 18 w (o0 :: o1 :: o2 :: o3 :: o4 :: o5 :: o6 :: o7 :: o8 :: o9 :: o10 :: o11 :: o12 :: o13 :: o14 :: o15 :: o16 :: o17 :: o18 :: r) = some (o0 :: o1 :: o2 :: o3 :: o4 :: o5 :: o6 :: o7 :: o8 :: o9 :: o10 :: o11 :: o12 :: o13 :: o14 :: o15 :: o16 :: o17 :: some w :: r) := rfl
theorem st_19 {o0 o1 o2 o3 o4 o5 o6 o7 o8 o9 o10 o11 o12 o13 o14 o15 o16 o17 o18 o19 : Option D} {w : Option D} {r : Env} : (o0 :: o1 :: o2 :: o3 :: o4 :: o5 :: o6 :: o7 :: o8 :: o9 :: o10 :: o11 :: o12 :: o13 :: o14 :: o15 :: o16 :: o17 :: o18 :: o19 :: r).set 19 w = (o0 :: o1 :: o2 :: o3 :: o4 :: o5 :: o6 :: o7 :: o8 :: o9 :: o10 :: o11 :: o12 :: o13 :: o14 :: o15 :: o16 :: o17 :: o18 :: w :: r) := rfl
theorem gn_19 {o0 o1 o2 o3 o4 o5 o6 o7 o8 o9 o10 o11 o12 o13 o14 o15 o16 o17 o18 o19 : Option D} {w : D} {r : Env} : gN 19 w (o0 :: o1 :: o2 :: o3 :: o4 :: o5 :: o6 :: o7 :: o8 :: o9 :: o10 :: o11 :: o12 :: o13 :: o14 :: o15 :: o16 :: o17 :: o18 :: o19 :: r) = some (o0 :: o1 :: o2 :: o3 :: o4 :: o5 :: o6 :: o7 :: o8 :: o9 :: o10 :: o11 :: o12 :: o13 :: o14 :: o15 :: o16 :: o17 :: o18 :: some w :: r) := rfl
theorem st_20 {o0 o1 o2 o3 o4 o5 o6 o7 o8 o9 o10 o11 o12 o13 o14 o15 o16 o17 o18 o19 o20 : Option D} {w : Option D} {r : Env} : (o0 :: o1 :: o2 :: o3 :: o4 :: o5 :: o6 :: o7 :: o8 :: o9 :: o10 :: o11 :: o12 :: o13 :: o14 :: o15 :: o16 :: o17 :: o18 :: o19 :: o20 :: r).set 20 w = (o0 :: o1 :: o2 :: o3 :: o4 :: o5 :: o6 :: o7 :: o8 :: o9 :: o10 :: o11 :: o12 :: o13 :: o14 :: o15 :: o16 :: o17 :: o18 :: o19 :: w :: r) := rfl
theorem gn_20 {o0 o1 o2 o3 o4 o5 o6 o7 o8 o9 o10 o11 o12 o13 o14 o15 o16 o17 o18 o19 o20 : Option D} {w : D} {r : Env} : gN 20 w (o0 :: o1 :: o2 :: o3 :: o4 :: o5 :: o6 :: o7 :: o8 :: o9 :: o10 :: o11 :: o12 :: o13 :: o14 :: o15 :: o16 :: o17 :: o18 :: o19 :: o20 :: r) = some (o0 :: o1 :: o2 :: o3 :: o4 :: o5 :: o6 :: o7 :: o8 :: o9 :: o10 :: o11 :: o12 :: o13 :: o14 :: o15 :: o16 :: o17 :: o18 :: o19 :: some w :: r) := rfl
theorem st_21 {o0 o1 o2 o3 o4 o5 o6 o7 o8 o9 o10 o11 o12 o13 o14 o15 o16 o17 o18 o19 o20 o21 : Option D} {w : Option D} {r : Env} : (o0 :: o1 :: o2 :: o3 :: o4 :: o5 :: o6 :: o7 :: o8 :: o9 :: o10 :: o11 :: o12 :: o13 :: o14 :: o15 :: o16 :: o17 :: o18 :: o19 :: o20 :: o21 :: r).set 21 w = (o0 :: o1 :: o2 :: o3 :: o4 :: o5 :: o6 :: o7 :: o8 :: o9 :: o10 :: o11 :: o12 :: o13 :: o14 :: o15 :: o16 :: o17 :: o18 :: o19 :: o20 :: w :: r) := rfl
theorem gn_21 {o0 o1 o2 o3 o4 o5 o6 o7 o8 o9 o10 o11 o12 o13 o14 o15 o16 o17 o18 o19 o20 o21 : Option D} {w : D} {r : Env} : gN 21 w (o0 :: o1 :: o2 :: o3 :: o4 :: o5 :: o6 :: o7 :: o8 :: o9 :: o10 :: o11 :: o12 :: o13 :: o14 :: o15 :: o16 :: o17 :: o18 :: o19 :: o20 :: o21 :: r) = some (o0 :: o1 :: o2 :: o3 :: o4 :: o5 :: o6 :: o7 :: o8 :: o9 :: o10 :: o11 :: o12 :: o13 :: o14 :: o15 :: o16 :: o17 :: o18 :: o19 :: o20 :: some w :: r) := rfl
theorem st_22 {o0 o1 o2 o3 o4 o5 o6 o7 o8 o9 o10 o11 o12 o13 o14 o15 o16 o17 o18 o19 o20 o21 o22 : Option D} {w : Option D} {r : Env} : (o0 :: o1 :: o2 :: o3 :: o4 :: o5 :: o6 :: o7 :: o8 :: o9 :: o10 :: o11 :: o12 :: o13 :: o14 :: o15 :: o16 :: o17 :: o18 :: o19 :: o20 :: o21 :: o22 :: r).set 22 w = (o0 :: o1 :: o2 :: o3 :: o4 :: o5 :: o6 :: o7 :: o8 :: o9 :: o10 :: o11 :: o12 :: o13 :: o14 :: o15 :: o16 :: o17 :: o18 :: o19 :: o20 :: o21 :: w :: r) := rfl
theorem gn_22 {o0 o1 o2 o3 o4 o5 o6 o7 o8 o9 o10 o11 o12 o13 o14 o15 o16 o17 o18 o19 o20 o21 o22 : Option D} {w : D} {r : Env} : gN 22 w (o0 :: o1 :: o2 :: o3 :: o4 :: o5 :: o6 :: o7 :: o8 :: o9 :: o10 :: o11 :: o12 :: o13 :: o14 :: o15 :: o16 :: o17 :: o18 :: o19 :: o20 :: o21 :: o22 :: r) = some (o0 :: o1 :: o2 :: o3 :: o4 :: o5 :: o6 :: o7 :: o8 :: o9 :: o10 :: o11 :: o12 :: o13 :: o14 :: o15 :: o16 :: o17 :: o18 :: o19 :: o20 :: o21 :: some w :: r) := rfl
theorem st_23 {o0 o1 o2 o3 o4 o5 o6 o7 o8 o9 o10 o11 o12 o13 o14 o15 o16 o17 o18 o19 o20 o21 o22 o23 : Option D} {w : Option D} {r : Env} : (o0 :: o1 :: o2 :: o3 :: o4 :: o5 :: o6 :: o7 :: o8 :: o9 :: o10 :: o11 :: o12 :: o13 :: o14 :: o15 :: o16 :: o17 :: o18 :: o19 :: o20 :: o21 :: o22 :: o23 :: r).set 23 w = (o0 :: o1 :: o2 :: o3 :: o4 :: o5 :: o6 :: o7 :: o8 :: o9 :: o10 :: o11 :: o12 :: o13 :: o14 :: o15 :: o16 :: o17 :: o18 :: o19 :: o20 :: o21 :: o22 :: w :: r) := rfl
theorem gn_23 {o0 o1 o2 o3 o4 o5 o6 o7 o8 o9 o10 o11 o12 o13 o14 o15 o16 o17 o18 o19 o20 o21 o22 o23 : Option D} {w : D} {r : Env} : gN 23 w (o0 :: o1 :: o2 :: o3 :: o4 :: o5 :: o6 :: o7 :: o8 :: o9 :: o10 :: o11 :: o12 :: o13 :: o14 :: o15 :: o16 :: o17 :: o18 :: o19 :: o20 :: o21 :: o22 :: o23 :: r) = some (o0 :: o1 :: o2 :: o3 :: o4 :: o5 :: o6 :: o7 :: o8 :: o9 :: o10 :: o11 :: o12 :: o13 :: o14 :: o15 :: o16 :: o17 :: o18 :: o19 :: o20 :: o21 :: o22 :: some w :: r) := rfl
theorem st_24 {o0 o1 o2 o3 o4 o5 o6 o7 o8 o9 o10 o11 o12 o13 o14 o15 o16 o17 o18 o19 o20 o21 o22 o23 o24 : Option D} {w : Option D} {r : Env} : (o0 :: o1 :: o2 :: o3 :: o4 :: o5 :: o6 :: o7 :: o8 :: o9 :: o10 :: o11 :: o12 :: o13 :: o14 :: o15 :: o16 :: o17 :: o18 :: o19 :: o20 :: o21 :: o22 :: o23 :: o24 :: r).set 24 w = (o0 :: o1 :: o2 :: o3 :: o4 :: o5 :: o6 :: o7 :: o8 :: o9 :: o10 :: o11 :: o12 :: o13 :: o14 :: o15 :: o16 :: o17 :: o18 :: o19 :: o20 :: o21 :: o22 :: o23 :: w :: r) := rfl
theorem gn_24 {o0 o1 o2 o3 o4 o5 o6 o7 o8 o9 o10 o11 o12 o13 o14 o15 o16 o17 o18 o19 o20 o21 o22 o23 o24 : Option D} {w : D} {r : Env} : gN 24 w (o0 :: o1 :: o2 :: o3 :: o4 :: o5 :: o6 :: o7 :: o8 :: o9 :: o10 :: o11 :: o12 :: o13 :: o14 :: o15 :: o16 :: o17 :: o18 :: o19 :: o20 :: o21 :: o22 :: o23 :: o24 :: r) = some (o0 :: o1 :: o2 :: o3 :: o4 :: o5 :: o6 :: o7 :: o8 :: o9 :: o10 :: o11 :: o12 :: o13 :: o14 :: o15 :: o16 :: o17 :: o18 :: o19 :: o20 :: o21 :: o22 :: o23 :: some w :: r) := rfl
theorem st_25 {o0 o1 o2 o3 o4 o5 o6 o7 o8 o9 o10 o11 o12 o13 o14 o15 o16 o17 o18 o19 o20 o21 o22 o23 o24 o25 : Option D} {w : Option D} {r : Env} : (o0 :: o1 :: o2 :: o3 :: o4 :: o5 :: o6 :: o7 :: o8 :: o9 :: o10 :: o11 :: o12 :: o13 :: o14 :: o15 :: o16 :: o17 :: o18 :: o19 :: o20 :: o21 :: o22 :: o23 :: o24 :: o25 :: r).set 25 w = (o0 :: o1 :: o2 :: o3 :: o4 :: o5 :: o6 :: o7 :: o8 :: o9 :: o10 :: o11 :: o12 :: o13 :: o14 :: o15 :: o16 :: o17 :: o18 :: o19 :: o20 :: o21 :: o22 :: o23 :: o24 :: w :: r) := rfl
theorem gn_25 {o0 o1 o2 o3 o4 o5 o6 o7 o8 o9 o10 o11 o12 o13 o14 o15 o16 o17 o18 o19 o20 o21 o22 o23 o24 o25 : Option D} {w : D} {r : Env} : gN 25 w (o0 :: o1 :: o2 :: o3 :: o4 :: o5 :: o6 :: o7 :: o8 :: o9 :: o10 :: o11 :: o12 :: o13 :: o14 :: o15 :: o16 :: o17 :: o18 :: o19 :: o20 :: o21 :: o22 :: o23 :: o24 :: o25 :: r) = some (o0 :: o1 :: o2 :: o3 :: o4 :: o5 :: o6 :: o7 :: o8 :: o9 :: o10 :: o11 :: o12 :: o13 :: o14 :: o15 :: o16 :: o17 :: o18 :: o19 :: o20 :: o21 :: o22 :: o23 :: o24 :: some w :: r) := rfl
theorem st_26 {o0 o1 o2 o3 o4 o5 o6 o7 o8 o9 o10 o11 o12 o13 o14 o15 o16 o17 o18 o19 o20 o21 o22 o23 o24 o25 o26 : Option D} {w : Option D} {r : Env} : (o0 :: o1 :: o2 :: o3 :: o4 :: o5 :: o6 :: o7 :: o8 :: o9 :: o10 :: o11 :: o12 :: o13 :: o14 :: o15 :: o16 :: o17 :: o18 :: o19 :: o20 :: o21 :: o22 :: o23 :: o24 :: o25 :: o26 :: r).set 26 w = (o0 :: o1 :: o2 :: o3 :: o4 :: o5 :: o6 :: o7 :: o8 :: o9 :: o10 :: o11 :: o12 :: o13 :: o14 :: o15 :: o16 :: o17 :: o18 :: o19 :: o20 :: o21 :: o22 :: o23 :: o24 :: o25 :: w :: r) := rfl
theorem gn_26 {o0 o1 o2 o3 o4 o5 o6 o7 o8 o9 o10 o11 o12 o13 o14 o15 o16 o17 o18 o19 o20 o21 o22 o23 o24 o25 o26 : Option D} {w : D} {r : Env} : gN 26 w (o0 :: o1 :: o2 :: o3 :: o4 :: o5 :: o6 :: o7 :: o8 :: o9 :: o10 :: o11 :: o12 :: o13 :: o14 :: o15 :: o16 :: o17 :: o18 :: o19 :: o20 :: o21 :: o22 :: o23 :: o24 :: o25 :: o26 :: r) = some (o0 :: o1 :: o2 :: o3 :: o4 :: o5 :: o6 :: o7 :: o8 :: o9 :: o10 :: o11 :: o12 :: o13 :: o14 :: o15 :: o16 :: o17 :: o18 :: o19 :: o20 :: o21 :: o22 :: o23 :: o24 :: o25 :: some w :: r) := rfl
theorem st_27 {o0 o1 o2 o3 o4 o5 o6 o7 o8 o9 o10 o11 o12 o13 o14 o15 o16 o17 o18 o19 o20 o21 o22 o23 o24 o25 o26 o27 : Option D} {w : Option D} {r : Env} : (o0 :: o1 :: o2 :: o3 :: o4 :: o5 :: o6 :: o7 :: o8 :: o9 :: o10 :: o11 :: o12 :: o13 :: o14 :: o15 :: o16 :: o17 :: o18 :: o19 :: o20 :: o21 :: o22 :: o23 :: o24 :: o25 :: o26 :: o27 :: r).set 27 w = (o0 :: o1 :: o2 :: o3 :: o4 :: o5 :: o6 :: o7 :: o8 :: o9 :: o10 :: o11 :: o12 :: o13 :: o14 :: o15 :: o16 :: o17 :: o18 :: o19 :: o20 :: o21 :: o22 :: o23 :: o24 :: o25 :: o26 :: w :: r) := rfl
theorem gn_27 {o0 o1 o2 o3 o4 o5 o6 o7 o8 o9 o10 o11 o12 o13 o14 o15 o16 o17 o18 o19 o20 o21 o22 o23 o24 o25 o26 o27 : Option D} {w : D} {r : Env} : gN 27 w (o0 :: o1 :: o2 :: o3 :: o4 :: o5 :: o6 :: o7 :: o8 :: o9 :: o10 :: o11 :: o12 :: o13 :: o14 :: o15 :: o16 :: o17 :: o18 :: o19 :: o20 :: o21 :: o22 :: o23 :: o24 :: o25 :: o26 :: o27 :: r) = some (o0 :: o1 :: o2 :: o3 :: o4 :: o5 :: o6 :: o7 :: o8 :: o9 :: o10 :: o11 :: o12 :: o13 :: o14 :: o15 :: o16 :: o17 :: o18 :: o19 :: o20 :: o21 :: o22 :: o23 :: o24 :: o25 :: o26 :: some w :: r) := rfl
theorem st_28 {o0 o1 o2 o3 o4 o5 o6 o7 o8 o9 o10 o11 o12 o13 o14 o15 o16 o17 o18 o19 o20 o21 o22 o23 o24 o25 o26 o27 o28 : Option D} {w : Option D} {r : Env} : (o0 :: o1 :: o2 :: o3 :: o4 :: o5 :: o6 :: o7 :: o8 :: o9 :: o10 :: o11 :: o12 :: o13 :: o14 :: o15 :: o16 :: o17 :: o18 :: o19 :: o20 :: o21 :: o22 :: o23 :: o24 :: o25 :: o26 :: o27 :: o28 :: r).set 28 w = (o0 :: o1 :: o2 :: o3 :: o4 :: o5 :: o6 :: o7 :: o8 :: o9 :: o10 :: o11 :: o12 :: o13 :: o14 :: o15 :: o16 :: o17 :: o18 :: o19 :: o20 :: o21 :: o22 :: o23 :: o24 :: o25 :: o26 :: o27 :: w :: r) := rfl
theorem gn_28 {o0 o1 o2 o3 o4 o5 o6 o7 o8 o9 o10 o11 o12 o13 o14 o15 o16 o17 o18 o19 o20 o21 o22 o23 o24 o25 o26 o27 o28 : Option D} {w : D} {r : Env} : gN 28 w (o0 :: o1 :: o2 :: o3 :: o4 :: o5 :: o6 :: o7 :: o8 :: o9 :: o10 :: o11 :: o12 :: o13 :: o14 :: o15 :: o16 :: o17 :: o18 :: o19 :: o20 :: o21 :: o22 :: o23 :: o24 :: o25 :: o26 :: o27 :: o28 :: r) = some (o0 :: o1 :: o2 :: o3 :: o4 :: o5 :: o6 :: o7 :: o8 :: o9 :: o10 :: o11 :: o12 :: o13 :: o14 :: o15 :: o16 :: o17 :: o18 :: o19 :: o20 :: o21 :: o22 :: o23 :: o24 :: o25 :: o26 :: o27 :: some w :: r) := rfl
theorem st_29 {o0 o1 o2 o3 o4 o5 o6 o7 o8 o9 o10 o11 o12 o13 o14 o15 o16 o17 o18 o19 o20 o21 o22 o23 o24 o25 o26 o27 o28 o29 : Option D} {w : Option D} {r : Env} : (o0 :: o1 :: o2 :: o3 :: o4 :: o5 :: o6 :: o7 :: o8 :: o9 :: o10 :: o11 :: o12 :: o13 :: o14 :: o15 :: o16 :: o17 :: o18 :: o19 :: o20 :: o21 :: o22 :: o23 :: o24 :: o25 :: o26 :: o27 :: o28 :: o29 :: r).set 29 w = (o0 :: o1 :: o2 :: o3 :: o4 :: o5 :: o6 :: o7 :: o8 :: o9 :: o10 :: o11 :: o12 :: o13 :: o14 :: o15 :: o16 :: o17 :: o18 :: o19 :: o20 :: o21 :: o22 :: o23 :: o24 :: o25 :: o26 :: o27 :: o28 :: w :: r) := rfl
theorem gn_29 {o0 o1 o2 o3 o4 o5 o6 o7 o8 o9 o10 o11 o12 o13 o14 o15 o16 o17 o18 o19 o20 o21 o22 o23 o24 o25 o26 o27 o28 o29 : Option D} {w : D} {r : Env} : gN 29 w (o0 :: o1 :: o2 :: o3 :: o4 :: o5 :: o6 :: o7 :: o8 :: o9 :: o10 :: o11 :: o12 :: o13 :: o14 :: o15 :: o16 :: o17 :: o18 :: o19 :: o20 :: o21 :: o22 :: o23 :: o24 :: o25 :: o26 :: o27 :: o28 :: o29 :: r) = some (o0 :: o1 :: o2 :: o3 :: o4 :: o5 :: o6 :: o7 :: o8 :: o9 :: o10 :: o11 :: o12 :: o13 :: o14 :: o15 :: o16 :: o17 :: o18 :: o19 :: o20 :: o21 :: o22 :: o23 :: o24 :: o25 :: o26 :: o27 :: o28 :: some w :: r) := rfl
theorem st_30 {o0 o1 o2 o3 o4 o5 o6 o7 o8 o9 o10 o11 o12 o13 o14 o15 o16 o17 o18 o19 o20 o21 o22 o23 o24 o25 o26 o27 o28 o29 o30 : Option D} {w : Option D} {r : Env} : (o0 :: o1 :: o2 :: o3 :: o4 :: o5 :: o6 :: o7 :: o8 :: o9 :: o10 :: o11 :: o12 :: o13 :: o14 :: o15 :: o16 :: o17 :: o18 :: o19 :: o20 :: o21 :: o22 :: o23 :: o24 :: o25 :: o26 :: o27 :: o28 :: o29 :: o30 :: r).set 30 w = (o0 :: o1 :: o2 :: o3 :: o4 :: o5 :: o6 :: o7 :: o8 :: o9 :: o10 :: o11 :: o12 :: o13 :: o14 :: o15 :: o16 :: o17 :: o18 :: o19 :: o20 :: o21 :: o22 :: o23 :: o24 :: o25 :: o26 :: o27 :: o28 :: o29 :: w :: r) := rfl
theorem gn_30 {o0 o1 o2 o3 o4 o5 o6 o7 o8 o9 o10 o11 o12 o13 o14 o15 o16 o17 o18 o19 o20 o21 o22 o23 o24 o25 o26 o27 o28 o29 o30 : Option D} {w : D} {r : Env} : gN 30 w (o0 :: o1 :: o2 :: o3 :: o4 :: o5 :: o6 :: o7 :: o8 :: o9 :: o10 :: o11 :: o12 :: o13 :: o14 :: o15 :: o16 :: o17 :: o18 :: o19 :: o20 :: o21 :: o22 :: o23 :: o24 :: o25 :: o26 :: o27 :: o28 :: o29 :: o30 :: r) = some (o0 :: o1 :: o2 :: o3 :: o4 :: o5 :: o6 :: o7 :: o8 :: o9 :: o10 :: o11 :: o12 :: o13 :: o14 :: o15 :: o16 :: o17 :: o18 :: o19 :: o20 :: o21 :: o22 :: o23 :: o24 :: o25 :: o26 :: o27 :: o28 :: o29 :: some w :: r) := rfl
theorem st_31 {o0 o1 o2 o3 o4 o5 o6 o7 o8 o9 o10 o11 o12 o13 o14 o15 o16 o17 o18 o19 o20 o21 o22 o23 o24 o25 o26 o27 o28 o29 o30 o31 : Option D} {w : Option D} {r : Env} : (o0 :: o1 :: o2 :: o3 :: o4 :: o5 :: o6 :: o7 :: o8 :: o9 :: o10 :: o11 :: o12 :: o13 :: o14 :: o15 :: o16 :: o17 :: o18 :: o19 :: o20 :: o21 :: o22 :: o23 :: o24 :: o25 :: o26 :: o27 :: o28 :: o29 :: o30 :: o31 :: r).set 31 w = (o0 :: o1 :: o2 :: o3 :: o4 :: o5 :: o6 :: o7 :: o8 :: o9 :: o10 :: o11 :: o12 :: o13 :: o14 :: o15 :: o16 :: o17 :: o18 :: o19 :: o20 :: o21 :: o22 :: o23 :: o24 :: o25 :: o26 :: o27 :: o28 :: o29 :: o30 :: w :: r) := rfl
theorem gn_31 {o0 o1 o2 o3 o4 o5 o6 o7 o8 o9 o10 o11 o12 o13 o14 o15 o16 o17 o18 o19 o20 o21 o22 o23 o24 o25 o26 o27 o28 o29 o30 o31 : Option D} {w : D} {r : Env} : gN 31 w (o0 :: o1 :: o2 :: o3 :: o4 :: o5 :: o6 :: o7 :: o8 :: o9 :: o10 :: o11 :: o12 :: o13 :: o14 :: o15 :: o16 :: o17 :: o18 :: o19 :: o20 :: o21 :: o22 :: o23 :: o24 :: o25 :: o26 :: o27 :: o28 :: o29 :: o30 :: o31 :: r) = some (o0 :: o1 :: o2 :: o3 :: o4 :: o5 :: o6 :: o7 :: o8 :: o9 :: o10 :: o11 :: o12 :: o13 :: o14 :: o15 :: o16 :: o17 :: o18 :: o19 :: o20 :: o21 :: o22 :: o23 :: o24 :: o25 :: o26 :: o27 :: o28 :: o29 :: o30 :: some w :: r) := rfl
theorem st_32 {o0 o1 o2 o3 o4 o5 o6 o7 o8 o9 o10 o11 o12 o13 o14 o15 o16 o17 o18 o19 o20 o21 o22 o23 o24 o25 o26 o27 o28 o29 o30 o31 o32 : Option D} {w : Option D} {r : Env} : (o0 :: o1 :: o2 :: o3 :: o4 :: o5 :: o6 :: o7 :: o8 :: o9 :: o10 :: o11 :: o12 :: o13 :: o14 :: o15 :: o16 :: o17 :: o18 :: o19 :: o20 :: o21 :: o22 :: o23 :: o24 :: o25 :: o26 :: o27 :: o28 :: o29 :: o30 :: o31 :: o32 :: r).set 32 w = (o0 :: o1 :: o2 :: o3 :: o4 :: o5 :: o6 :: o7 :: o8 :: o9 :: o10 :: o11 :: o12 :: o13 :: o14 :: o15 :: o16 :: o17 :: o18 :: o19 :: o20 :: o21 :: o22 :: o23 :: o24 :: o25 :: o26 :: o27 :: o28 :: o29 :: o30 :: o31 :: w :: r) := rfl
theorem gn_32 {o0 o1 o2 o3 o4 o5 o6 o7 o8 o9 o10 o11 o12 o13 o14 o15 o16 o17 o18 o19 o20 o21 o22 o23 o24 o25 o26 o27 o28 o29 o30 o31 o32 : Option D} {w : D} {r : Env} : gN 32 w (o0 :: o1 :: o2 :: o3 :: o4 :: o5 :: o6 :: o7 :: o8 :: o9 :: o10 :: o11 :: o12 :: o13 :: o14 :: o15 :: o16 :: o17 :: o18 :: o19 :: o20 :: o21 :: o22 :: o23 :: o24 :: o25 :: o26 :: o27 :: o28 :: o29 :: o30 :: o31 :: o32 :: r) = some (o0 :: o1 :: o2 :: o3 :: o4 :: o5 :: o6 :: o7 :: o8 :: o9 :: o10 :: o11 :: o12 :: o13 :: o14 :: o15 :: o16 :: o17 :: o18 :: o19 :: o20 :: o21 :: o22 :: o23 :: o24 :: o25 :: o26 :: o27 :: o28 :: o29 :: o30 :: o31 :: some w :: r) := rfl
theorem st_33 {o0 o1 o2 o3 o4 o5 o6 o7 o8 o9 o10 o11 o12 o13 o14 o15 o16 o17 o18 o19 o20 o21 o22 o23 o24 o25 o26 o27 o28 o29 o30 o31 o32 o33 : Option D} {w : Option D} {r : Env} : (o0 :: o1 :: o2 :: o3 :: o4 :: o5 :: o6 :: o7 :: o8 :: o9 :: o10 :: o11 :: o12 :: o13 :: o14 :: o15 :: o16 :: o17 :: o18 :: o19 :: o20 :: o21 :: o22 :: o23 :: o24 :: o25 :: o26 :: o27 :: o28 :: o29 :: o30 :: o31 :: o32 :: o33 :: r).set 33 w = (o0 :: o1 :: o2 :: o3 :: o4 :: o5 :: o6 :: o7 :: o8 :: o9 :: o10 :: o11 :: o12 :: o13 :: o14 :: o15 :: o16 :: o17 :: o18 :: o19 :: o20 :: o21 :: o22 :: o23 :: o24 :: o25 :: o26 :: o27 :: o28 :: o29 :: o30 :: o31 :: o32 :: w :: r) := rfl
theorem gn_33 {o0 o1 o2 o3 o4 o5 o6 o7 o8 o9 o10 o11 o12 o13 o14 o15 o16 o17 o18 o19 o20 o21 o22 o23 o24 o25 o26 o27 o28 o29 o30 o31 o32 o33 : Option D} {w : D} {r : Env} : gN 33 w (o0 :: o1 :: o2 :: o3 :: o4 :: o5 :: o6 :: o7 :: o8 :: o9 :: o10 :: o11 :: o12 :: o13 :: o14 :: o15 :: o16 :: o17 :: o18 :: o19 :: o20 :: o21 :: o22 :: o23 :: o24 :: o25 :: o26 :: o27 :: o28 :: o29 :: o30 :: o31 :: o32 :: o33 :: r) = some (o0 :: o1 :: o2 :: o3 :: o4 :: o5 :: o6 :: o7 :: o8 :: o9 :: o10 :: o11 :: o12 :: o13 :: o14 :: o15 :: o16 :: o17 :: o18 :: o19 :: o20 :: o21 :: o22 :: o23 :: o24 :: o25 :: o26 :: o27 :: o28 :: o29 :: o30 :: o31 :: o32 :: some w :: r) := rfl
theorem st_34 {o0 o1 o2 o3 o4 o5 o6 o7 o8 o9 o10 o11 o12 o13 o14 o15 o16 o17 o18 o19 o20 o21 o22 o23 o24 o25 o26 o27 o28 o29 o30 o31 o32 o33 o34 : Option D} {w : Option D} {r : Env} : (o0 :: o1 :: o2 :: o3 :: o4 :: o5 :: o6 :: o7 :: o8 :: o9 :: o10 :: o11 :: o12 :: o13 :: o14 :: o15 :: o16 :: o17 :: o18 :: o19 :: o20 :: o21 :: o22 :: o23 :: o24 :: o25 :: o26 :: o27 :: o28 :: o29 :: o30 :: o31 :: o32 :: o33 :: o34 :: r).set 34 w = (o0 :: o1 :: o2 :: o3 :: o4 :: o5 :: o6 :: o7 :: o8 :: o9 :: o10 :: o11 :: o12 :: o13 :: o14 :: o15 :: o16 :: o17 :: o18 :: o19 :: o20 :: o21 :: o22 :: o23 :: o24 :: o25 :: o26 :: o27 :: o28 :: o29 :: o30 :: o31 :: o32 :: o33 :: w :: r) := rfl
theorem gn_34 {o0 o1 o2 o3 o4 o5 o6 o7 o8 o9 o10 o11 o12 o13 o14 o15 o16 o17 o18 o19 o20 o21 o22 o23 o24 o25 o26 o27 o28 o29 o30 o31 o32 o33 o34 : Option D} {w : D} {r : Env} : gN 34 w (o0 :: o1 :: o2 :: o3 :: o4 :: o5 :: o6 :: o7 :: o8 :: o9 :: o10 :: o11 :: o12 :: o13 :: o14 :: o15 :: o16 :: o17 :: o18 :: o19 :: o20 :: o21 :: o22 :: o23 :: o24 :: o25 :: o26 :: o27 :: o28 :: o29 :: o30 :: o31 :: o32 :: o33 :: o34 :: r) = some (o0 :: o1 :: o2 :: o3 :: o4 :: o5 :: o6 :: o7 :: o8 :: o9 :: o10 :: o11 :: o12 :: o13 :: o14 :: o15 :: o16 :: o17 :: o18 :: o19 :: o20 :: o21 :: o22 :: o23 :: o24 :: o25 :: o26 :: o27 :: o28 :: o29 :: o30 :: o31 :: o32 :: o33 :: some w :: r) := rfl
theorem st_35 {o0 o1 o2 o3 o4 o5 o6 o7 o8 o9 o10 o11 o12 o13 o14 o15 o16 o17 o18 o19 o20 o21 o22 o23 o24 o25 o26 o27 o28 o29 o30 o31 o32 o33 o34 o35 : Option D} {w : Option D} {r : Env} : (o0 :: o1 :: o2 :: o3 :: o4 :: o5 :: o6 :: o7 :: o8 :: o9 :: o10 :: o11 :: o12 :: o13 :: o14 :: o15 :: o16 :: o17 :: o18 :: o19 :: o20 :: o21 :: o22 :: o23 :: o24 :: o25 :: o26 :: o27 :: o28 :: o29 :: o30 :: o31 :: o32 :: o33 :: o34 :: o35 :: r).set 35 w = (o0 :: o1 :: o2 :: o3 :: o4 :: o5 :: o6 :: o7 :: o8 :: o9 :: o10 :: o11 :: o12 :: o13 :: o14 :: o15 :: o16 :: o17 :: o18 :: o19 :: o20 :: o21 :: o22 :: o23 :: o24 :: o25 :: o26 :: o27 :: o28 :: o29 :: o30 :: o31 :: o32 :: o33 :: o34 :: w :: r) := rfl
theorem gn_35 {o0 o1 o2 o3 o4 o5 o6 o7 o8 o9 o10 o11 o12 o13 o14 o15 o16 o17 o18 o19 o20 o21 o22 o23 o24 o25 o26 o27 o28 o29 o30 o31 o32 o33 o34 o35 : Option D} {w : D} {r : Env} : gN 35 w (o0 :: o1 :: o2 :: o3 :: o4 :: o5 :: o6 :: o7 :: o8 :: o9 :: o10 :: o11 :: o12 :: o13 :: o14 :: o15 :: o16 :: o17 :: o18 :: o19 :: o20 :: o21 :: o22 :: o23 :: o24 :: o25 :: o26 :: o27 :: o28 :: o29 :: o30 :: o31 :: o32 :: o33 :: o34 :: o35 :: r) = some (o0 :: o1 :: o2 :: o3 :: o4 :: o5 :: o6 :: o7 :: o8 :: o9 :: o10 :: o11 :: o12 :: o13 :: o14 :: o15 :: o16 :: o17 :: o18 :: o19 :: o20 :: o21 :: o22 :: o23 :: o24 :: o25 :: o26 :: o27 :: o28 :: o29 :: o30 :: o31 :: o32 :: o33 :: o34 :: some w :: r) := rfl
theorem st_36 {o0 o1 o2 o3 o4 o5 o6 o7 o8 o9 o10 o11 o12 o13 o14 o15 o16 o17 o18 o19 o20 o21 o22 o23 o24 o25 o26 o27 o28 o29 o30 o31 o32 o33 o34 o35 o36 : Option D} {w : Option D} {r : Env} : (o0 :: o1 :: o2 :: o3 :: o4 :: o5 :: o6 :: o7 :: o8 :: o9 :: o10 :: o11 :: o12 :: o13 :: o14 :: o15 :: o16 :: o17 :: o18 :: o19 :: o20 :: o21 :: o22 :: o23 :: o24 :: o25 :: o26 :: o27 :: o28 :: o29 :: o30 :: o31 :: o32 :: o33 :: o34 :: o35 :: o36 :: r).set 36 w = (o0 :: o1 :: o2 :: o3 :: o4 :: o5 :: o6 :: o7 :: o8 :: o9 :: o10 :: o11 :: o12 :: o13 :: o14 :: o15 :: o16 :: o17 :: o18 :: o19 :: o20 :: o21 :: o22 :: o23 :: o24 :: o25 :: o26 :: o27 :: o28 :: o29 :: o30 :: o31 :: o32 :: o33 :: o34 :: o35 :: w :: r) := rfl
theorem gn_36 {o0 o1 o2 o3 o4 o5 o6 o7 o8 o9 o10 o11 o12 o13 o14 o15 o16 o17 o18 o19 o20 o21 o22 o23 o24 o25 o26 o27 o28 o29 o30 o31 o32 o33 o34 o35 o36 : Option D} {w : D} {r : Env} : gN 36 w (o0 :: o1 :: o2 :: o3 :: o4 :: o5 :: o6 :: o7 :: o8 :: o9 :: o10 :: o11 :: o12 :: o13 :: o14 :: o15 :: o16 :: o17 :: o18 :: o19 :: o20 :: o21 :: o22 :: o23 :: o24 :: o25 :: o26 :: o27 :: o28 :: o29 :: o30 :: o31 :: o32 :: o33 :: o34 :: o35 :: o36 :: r) = some (o0 :: o1 :: o2 :: o3 :: o4 :: o5 :: o6 :: o7 :: o8 :: o9 :: o10 :: o11 :: o12 :: o13 :: o14 :: o15 :: o16 :: o17 :: o18 :: o19 :: o20 :: o21 :: o22 :: o23 :: o24 :: o25 :: o26 :: o27 :: o28 :: o29 :: o30 :: o31 :: o32 :: o33 :: o34 :: o35 :: some w :: r) := rfl
theorem st_37 {o0 o1 o2 o3 o4 o5 o6 o7 o8 o9 o10 o11 o12 o13 o14 o15 o16 o17 o18 o19 o20 o21 o22 o23 o24 o25 o26 o27 o28 o29 o30 o31 o32 o33 o34 o35 o36 o37 : Option D} {w : Option D} {r : Env} : (o0 :: o1 :: o2 :: o3 :: o4 :: o5 :: o6 :: o7 :: o8 :: o9 :: o10 :: o11 :: o12 :: o13 :: o14 :: o15 :: o16 :: o17 :: o18 :: o19 :: o20 :: o21 :: o22 :: o23 :: o24 :: o25 :: o26 :: o27 :: o28 :: o29 :: o30 :: o31 :: o32 :: o33 :: o34 :: o35 :: o36 :: o37 :: r).set 37 w = (o0 :: o1 :: o2 :: o3 :: o4 :: o5 :: o6 :: o7 :: o8 :: o9 :: o10 :: o11 :: o12 :: o13 :: o14 :: o15 :: o16 :: o17 :: o18 :: o19 :: o20 :: o21 :: o22 :: o23 :: o24 :: o25 :: o26 :: o27 :: o28 :: o29 :: o30 :: o31 :: o32 :: o33 :: o34 :: o35 :: o36 :: w :: r) := rfl
theorem gn_37 {o0 o1 o2 o3 o4 o5 o6 o7 o8 o9 o10 o11 o12 o13 o14 o15 o16 o17 o18 o19 o20 o21 o22 o23 o24 o25 o26 o27 o28 o29 o30 o31 o32 o33 o34 o35 o36 o37 : Option D} {w : D} {r : Env} : gN 37 w (o0 :: o1 :: o2 :: o3 :: o4 :: o5 :: o6 :: o7 :: o8 :: o9 :: o10 :: o11 :: o12 :: o13 :: o14 :: o15 :: o16 :: o17 :: o18 :: o19 :: o20 :: o21 :: o22 :: o23 :: o24 :: o25 :: o26 :: o27 :: o28 :: o29 :: o30 :: o31 :: o32 :: o33 :: o34 :: o35 :: o36 :: o37 :: r) = some (o0 :: o1 :: o2 :: o3 :: o4 :: o5 :: o6 :: o7 :: o8 :: o9 :: o10 :: o11 :: o12 :: o13 :: o14 :: o15 :: o16 :: o17 :: o18 :: o19 :: o20 :: o21 :: o22 :: o23 :: o24 :: o25 :: o26 :: o27 :: o28 :: o29 :: o30 :: o31 :: o32 :: o33 :: o34 :: o35 :: o36 :: some w :: r) := rfl
theorem st_38 {o0 o1 o2 o3 o4 o5 o6 o7 o8 o9 o10 o11 o12 o13 o14 o15 o16 o17 o18 o19 o20 o21 o22 o23 o24 o25 o26 o27 o28 o29 o30 o31 o32 o33 o34 o35 o36 o37 o38 : Option D} {w : Option D} {r : Env} : (o0 :: o1 :: o2 :: o3 :: o4 :: o5 :: o6 :: o7 :: o8 :: o9 :: o10 :: o11 :: o12 :: o13 :: o14 :: o15 :: o16 :: o17 :: o18 :: o19 :: o20 :: o21 :: o22 :: o23 :: o24 :: o25 :: o26 :: o27 :: o28 :: o29 :: o30 :: o31 :: o32 :: o33 :: o34 :: o35 :: o36 :: o37 :: o38 :: r).set 38 w = (o0 :: o1 :: o2 :: o3 :: o4 :: o5 :: o6 :: o7 :: o8 :: o9 :: o10 :: o11 :: o12 :: o13 :: o14 :: o15 :: o16 :: o17 :: o18 :: o19 :: o20 :: o21 :: o22 :: o23 :: o24 :: o25 :: o26 :: o27 :: o28 :: o29 :: o30 :: o31 :: o32 :: o33 :: o34 :: o35 :: o36 :: o37 :: w :: r) := rfl
theorem gn_38 {o0 o1 o2 o3 o4 o5 o6 o7 o8 o9 o10 o11 o12 o13 o14 o15 o16 o17 o18 o19 o20 o21 o22 o23 o24 o25 o26 o27 o28 o29 o30 o31 o32 o33 o34 o35 o36 o37 o38 : Option D} {w : D} {r : Env} : gN 38 w (o0 :: o1 :: o2 :: o3 :: o4 :: o5 :: o6 :: o7 :: o8 :: o9 :: o10 :: o11 :: o12 :: o13 :: o14 :: o15 :: o16 :: o17 :: o18 :: o19 :: o20 :: o21 :: o22 :: o23 :: o24 :: o25 :: o26 :: o27 :: o28 :: o29 :: o30 :: o31 :: o32 :: o33 :: o34 :: o35 :: o36 :: o37 :: o38 :: r) = some (o0 :: o1 :: o2 :: o3 :: o4 :: o5 :: o6 :: o7 :: o8 :: o9 :: o10 :: o11 :: o12 :: o13 :: o14 :: o15 :: o16 :: o17 :: o18 :: o19 :: o20 :: o21 :: o22 :: o23 :: o24 :: o25 :: o26 :: o27 :: o28 :: o29 :: o30 :: o31 :: o32 :: o33 :: o34 :: o35 :: o36 :: o37 :: some w :: r) := rfl
theorem st_39 {o0 o1 o2 o3 o4 o5 o6 o7 o8 o9 o10 o11 o12 o13 o14 o15 o16 o17 o18 o19 o20 o21 o22 o23 o24 o25 o26 o27 o28 o29 o30 o31 o32 o33 o34 o35 o36 o37 o38 o39 : Option D} {w : Option D} {r : Env} : (o0 :: o1 :: o2 :: o3 :: o4 :: o5 :: o6 :: o7 :: o8 :: o9 :: o10 :: o11 :: o12 :: o13 :: o14 :: o15 :: o16 :: o17 :: o18 :: o19 :: o20 :: o21 :: o22 :: o23 :: o24 :: o25 :: o26 :: o27 :: o28 :: o29 :: o30 :: o31 :: o32 :: o33 :: o34 :: o35 :: o36 :: o37 :: o38 :: o39 :: r).set 39 w = (o0 :: o1 :: o2 :: o3 :: o4 :: o5 :: o6 :: o7 :: o8 :: o9 :: o10 :: o11 :: o12 :: o13 :: o14 :: o15 :: o16 :: o17 :: o18 :: o19 :: o20 :: o21 :: o22 :: o23 :: o24 :: o25 :: o26 :: o27 :: o28 :: o29 :: o30 :: o31 :: o32 :: o33 :: o34 :: o35 :: o36 :: o37 :: o38 :: w :: r) := rfl
theorem gn_39 {o0 o1 o2 o3 o4 o5 o6 o7 o8 o9 o10 o11 o12 o13 o14 o15 o16 o17 o18 o19 o20 o21 o22 o23 o24 o25 o26 o27 o28 o29 o30 o31 o32 o33 o34 o35 o36 o37 o38 o39 : Option D} {w : D} {r : Env} : gN 39 w (o0 :: o1 :: o2 :: o3 :: o4 :: o5 :: o6 :: o7 :: o8 :: o9 :: o10 :: o11 :: o12 :: o13 :: o14 :: o15 :: o16 :: o17 :: o18 :: o19 :: o20 :: o21 :: o22 :: o23 :: o24 :: o25 :: o26 :: o27 :: o28 :: o29 :: o30 :: o31 :: o32 :: o33 :: o34 :: o35 :: o36 :: o37 :: o38 :: o39 :: r) = some (o0 :: o1 :: o2 :: o3 :: o4 :: o5 :: o6 :: o7 :: o8 :: o9 :: o10 :: o11 :: o12 :: o13 :: o14 :: o15 :: o16 :: o17 :: o18 :: o19 :: o20 :: o21 :: o22 :: o23 :: o24 :: o25 :: o26 :: o27 :: o28 :: o29 :: o30 :: o31 :: o32 :: o33 :: o34 :: o35 :: o36 :: o37 :: o38 :: some w :: r) := rfl
theorem st_40 {o0 o1 o2 o3 o4 o5 o6 o7 o8 o9 o10 o11 o12 o13 o14 o15 o16 o17 o18 o19 o20 o21 o22 o23 o24 o25 o26 o27 o28 o29 o30 o31 o32 o33 o34 o35 o36 o37 o38 o39 o40 : Option D} {w : Option D} {r : Env} : (o0 :: o1 :: o2 :: o3 :: o4 :: o5 :: o6 :: o7 :: o8 :: o9 :: o10 :: o11 :: o12 :: o13 :: o14 :: o15 :: o16 :: o17 :: o18 :: o19 :: o20 :: o21 :: o22 :: o23 :: o24 :: o25 :: o26 :: o27 :: o28 :: o29 :: o30 :: o31 :: o32 :: o33 :: o34 :: o35 :: o36 :: o37 :: o38 :: o39 :: o40 :: r).set 40 w = (o0 :: o1 :: o2 :: o3 :: o4 :: o5 :: o6 :: o7 :: o8 :: o9 :: o10 :: o11 :: o12 :: o13 :: o14 :: o15 :: o16 :: o17 :: o18 :: o19 :: o20 :: o21 :: o22 :: o23 :: o24 :: o25 :: o26 :: o27 :: o28 :: o29 :: o30 :: o31 :: o32 :: o33 :: o34 :: o35 :: o36 :: o37 :: o38 :: o39 :: w :: r) := rfl
theorem gn_40 {o0 o1 o2 o3 o4 o5 o6 o7 o8 o9 o10 o11 o12 o13 o14 o15 o16 o17 o18 o19 o20 o21 o22 o23 o24 o25 o26 o27 o28 o29 o30 o31 o32 o33 o34 o35 o36 o37 o38 o39 o40 : Option D} {w : D} {r : Env} : gN 40 w (o0 :: o1 :: o2 :: o3 :: o4 :: o5 :: o6 :: o7 :: o8 :: o9 :: o10 :: o11 :: o12 :: o13 :: o14 :: o15 :: o16 :: o17 :: o18 :: o19 :: o20 :: o21 :: o22 :: o23 :: o24 :: o25 :: o26 :: o27 :: o28 :: o29 :: o30 :: o31 :: o32 :: o33 :: o34 :: o35 :: o36 :: o37 :: o38 :: o39 :: o40 :: r) = some (o0 :: o1 :: o2 :: o3 :: o4 :: o5 :: o6 :: o7 :: o8 :: o9 :: o10 :: o11 :: o12 :: o13 :: o14 :: o15 :: o16 :: o17 :: o18 :: o19 :: o20 :: o21 :: o22 :: o23 :: o24 :: o25 :: o26 :: o27 :: o28 :: o29 :: o30 :: o31 :: o32 :: o33 :: o34 :: o35 :: o36 :: o37 :: o38 :: o39 :: some w :: r) := rfl
theorem st_41 {o0 o1 o2 o3 o4 o5 o6 o7 o8 o9 o10 o11 o12 o13 o14 o15 o16 o17 o18 o19 o20 o21 o22 o23 o24 o25 o26 o27 o28 o29 o30 o31 o32 o33 o34 o35 o36 o37 o38 o39 o40 o41 : Option D} {w : Option D} {r : Env} : (o0 :: o1 :: o2 :: o3 :: o4 :: o5 :: o6 :: o7 :: o8 :: o9 :: o10 :: o11 :: o12 :: o13 :: o14 :: o15 :: o16 :: o17 :: o18 :: o19 :: o20 :: o21 :: o22 :: o23 :: o24 :: o25 :: o26 :: o27 :: o28 :: o29 :: o30 :: o31 :: o32 :: o33 :: o34 :: o35 :: o36 :: o37 :: o38 :: o39 :: o40 :: o41 :: r).set 41 w = (o0 :: o1 :: o2 :: o3 :: o4 :: o5 :: o6 :: o7 :: o8 :: o9 :: o10 :: o11 :: o12 :: o13 :: o14 :: o15 :: o16 :: o17 :: o18 :: o19 :: o20 :: o21 :: o22 :: o23 :: o24 :: o25 :: o26 :: o27 :: o28 :: o29 :: o30 :: o31 :: o32 :: o33 :: o34 :: o35 :: o36 :: o37 :: o38 :: o39 :: o40 :: w :: r) := rfl
theorem gn_41 {o0 o1 o2 o3 o4 o5 o6 o7 o8 o9 o10 o11 o12 o13 o14 o15 o16 o17 o18 o19 o20 o21 o22 o23 o24 o25 o26 o27 o28 o29 o30 o31 o32 o33 o34 o35 o36 o37 o38 o39 o40 o41 : Option D} {w : D} {r : Env} : gN 41 w (o0 :: o1 :: o2 :: o3 :: o4 :: o5 :: o6 :: o7 :: o8 :: o9 :: o10 :: o11 :: o12 :: o13 :: o14 :: o15 :: o16 :: o17 :: o18 :: o19 :: o20 :: o21 :: o22 :: o23 :: o24 :: o25 :: o26 :: o27 :: o28 :: o29 :: o30 :: o31 :: o32 :: o33 :: o34 :: o35 :: o36 :: o37 :: o38 :: o39 :: o40 :: o41 :: r) = some (o0 :: o1 :: o2 :: o3 :: o4 :: o5 :: o6 :: o7 :: o8 :: o9 :: o10 :: o11 :: o12 :: o13 :: o14 :: o15 :: o16 :: o17 :: o18 :: o19 :: o20 :: o21 :: o22 :: o23 :: o24 :: o25 :: o26 :: o27 :: o28 :: o29 :: o30 :: o31 :: o32 :: o33 :: o34 :: o35 :: o36 :: o37 :: o38 :: o39 :: o40 :: some w :: r) := rfl
theorem st_42 {o0 o1 o2 o3 o4 o5 o6 o7 o8 o9 o10 o11 o12 o13 o14 o15 o16 o17 o18 o19 o20 o21 o22 o23 o24 o25 o26 o27 o28 o29 o30 o31 o32 o33 o34 o35 o36 o37 o38 o39 o40 o41 o42 : Option D} {w : Option D} {r : Env} : (o0 :: o1 :: o2 :: o3 :: o4 :: o5 :: o6 :: o7 :: o8 :: o9 :: o10 :: o11 :: o12 :: o13 :: o14 :: o15 :: o16 :: o17 :: o18 :: o19 :: o20 :: o21 :: o22 :: o23 :: o24 :: o25 :: o26 :: o27 :: o28 :: o29 :: o30 :: o31 :: o32 :: o33 :: o34 :: o35 :: o36 :: o37 :: o38 :: o39 :: o40 :: o41 :: o42 :: r).set 42 w = (o0 :: o1 :: o2 :: o3 :: o4 :: o5 :: o6 :: o7 :: o8 :: o9 :: o10 :: o11 :: o12 :: o13 :: o14 :: o15 :: o16 :: o17 :: o18 :: o19 :: o20 :: o21 :: o22 :: o23 :: o24 :: o25 :: o26 :: o27 :: o28 :: o29 :: o30 :: o31 :: o32 :: o33 :: o34 :: o35 :: o36 :: o37 :: o38 :: o39 :: o40 :: o41 :: w :: r) := rfl
theorem gn_42 {o0 o1 o2 o3 o4 o5 o6 o7 o8 o9 o10 o11 o12 o13 o14 o15 o16 o17 o18 o19 o20 o21 o22 o23 o24 o25 o26 o27 o28 o29 o30 o31 o32 o33 o34 o35 o36 o37 o38 o39 o40 o41 o42 : Option D} {w : D} {r : Env} : gN 42 w (o0 :: o1 :: o2 :: o3 :: o4 :: o5 :: o6 :: o7 :: o8 :: o9 :: o10 :: o11 :: o12 :: o13 :: o14 :: o15 :: o16 :: o17 :: o18 :: o19 :: o20 :: o21 :: o22 :: o23 :: o24 :: o25 :: o26 :: o27 :: o28 :: o29 :: o30 :: o31 :: o32 :: o33 :: o34 :: o35 :: o36 :: o37 :: o38 :: o39 :: o40 :: o41 :: o42 :: r) = some (o0 :: o1 :: o2 :: o3 :: o4 :: o5 :: o6 :: o7 :: o8 :: o9 :: o10 :: o11 :: o12 :: o13 :: o14 :: o15 :: o16 :: o17 :: o18 :: o19 :: o20 :: o21 :: o22 :: o23 :: o24 :: o25 :: o26 :: o27 :: o28 :: o29 :: o30 :: o31 :: o32 :: o33 :: o34 :: o35 :: o36 :: o37 :: o38 :: o39 :: o40 :: o41 :: some w :: r) := rfl
theorem st_43 {o0 o1 o2 o3 o4 o5 o6 o7 o8 o9 o10 o11 o12 o13 o14 o15 o16 o17 o18 o19 o20 o21 o22 o23 o24 o25 o26 o27 o28 o29 o30 o31 o32 o33 o34 o35 o36 o37 o38 o39 o40 o41 o42 o43 : Option D} {w : Option D} {r : Env} : (o0 :: o1 :: o2 :: o3 :: o4 :: o5 :: o6 :: o7 :: o8 :: o9 :: o10 :: o11 :: o12 :: o13 :: o14 :: o15 :: o16 :: o17 :: o18 :: o19 :: o20 :: o21 :: o22 :: o23 :: o24 :: o25 :: o26 :: o27 :: o28 :: o29 :: o30 :: o31 :: o32 :: o33 :: o34 :: o35 :: o36 :: o37 :: o38 :: o39 :: o40 :: o41 :: o42 :: o43 :: r).set 43 w = (o0 :: o1 :: o2 :: o3 :: o4 :: o5 :: o6 :: o7 :: o8 :: o9 :: o10 :: o11 :: o12 :: o13 :: o14 :: o15 :: o16 :: o17 :: o18 :: o19 :: o20 :: o21 :: o22 :: o23 :: o24 :: o25 :: o26 :: o27 :: o28 :: o29 :: o30 :: o31 :: o32 :: o33 :: o34 :: o35 :: o36 :: o37 :: o38 :: o39 :: o40 :: o41 :: o42 :: w :: r) := rfl
theorem gn_43 {o0 o1 o2 o3 o4 o5 o6 o7 o8 o9 o10 o11 o12 o13 o14 o15 o16 o17 o18 o19 o20 o21 o22 o23 o24 o25 o26 o27 o28 o29 o30 o31 o32 o33 o34 o35 o36 o37 o38 o39 o40 o41 o42 o43 : Option D} {w : D} {r : Env} : gN 43 w (o0 :: o1 :: o2 :: o3 :: o4 :: o5 :: o6 :: o7 :: o8 :: o9 :: o10 :: o11 :: o12 :: o13 :: o14 :: o15 :: o16 :: o17 :: o18 :: o19 :: o20 :: o21 :: o22 :: o23 :: o24 :: o25 :: o26 :: o27 :: o28 :: o29 :: o30 :: o31 :: o32 :: o33 :: o34 :: o35 :: o36 :: o37 :: o38 :: o39 :: o40 :: o41 :: o42 :: o43 :: r) = some (o0 :: o1 :: o2 :: o3 :: o4 :: o5 :: o6 :: o7 :: o8 :: o9 :: o10 :: o11 :: o12 :: o13 :: o14 :: o15 :: o16 :: o17 :: o18 :: o19 :: o20 :: o21 :: o22 :: o23 :: o24 :: o25 :: o26 :: o27 :: o28 :: o29 :: o30 :: o31 :: o32 :: o33 :: o34 :: o35 :: o36 :: o37 :: o38 :: o39 :: o40 :: o41 :: o42 :: some w :: r) := rfl
theorem st_44 {o0 o1 o2 o3 o4 o5 o6 o7 o8 o9 o10 o11 o12 o13 o14 o15 o16 o17 o18 o19 o20 o21 o22 o23 o24 o25 o26 o27 o28 o29 o30 o31 o32 o33 o34 o35 o36 o37 o38 o39 o40 o41 o42 o43 o44 : Option D} {w : Option D} {r : Env} : (o0 :: o1 :: o2 :: o3 :: o4 :: o5 :: o6 :: o7 :: o8 :: o9 :: o10 :: o11 :: o12 :: o13 :: o14 :: o15 :: o16 :: o17 :: o18 :: o19 :: o20 :: o21 :: o22 :: o23 :: o24 :: o25 :: o26 :: o27 :: o28 :: o29 :: o30 :: o31 :: o32 :: o33 :: o34 :: o35 :: o36 :: o37 :: o38 :: o39 :: o40 :: o41 :: o42 :: o43 :: o44 :: r).set 44 w = (o0 :: o1 :: o2 :: o3 :: o4 :: o5 :: o6 :: o7 :: o8 :: o9 :: o10 :: o11 :: o12 :: o13 :: o14 :: o15 :: o16 :: o17 :: o18 :: o19 :: o20 :: o21 :: o22 :: o23 :: o24 :: o25 :: o26 :: o27 :: o28 :: o29 :: o30 :: o31 :: o32 :: o33 :: o34 :: o35 :: o36 :: o37 :: o38 :: o39 :: o40 :: o41 :: o42 :: o43 :: w :: r) := rfl
theorem gn_44 {o0 o1 o2 o3 o4 o5 o6 o7 o8 o9 o10 o11 o12 o13 o14 o15 o16 o17 o18 o19 o20 o21 o22 o23 o24 o25 o26 o27 o28 o29 o30 o31 o32 o33 o34 o35 o36 o37 o38 o39 o40 o41 o42 o43 o44 : Option D} {w : D} {r : Env} : gN 44 w (o0 :: o1 :: o2 :: o3 :: o4 :: o5 :: o6 :: o7 :: o8 :: o9 :: o10 :: o11 :: o12 :: o13 :: o14 :: o15 :: o16 :: o17 :: o18 :: o19 :: o20 :: o21 :: o22 :: o23 :: o24 :: o25 :: o26 :: o27 :: o28 :: o29 :: o30 :: o31 :: o32 :: o33 :: o34 :: o35 :: o36 :: o37 :: o38 :: o39 :: o40 :: o41 :: o42 :: o43 :: o44 :: r) = some (o0 :: o1 :: o2 :: o3 :: o4 :: o5 :: o6 :: o7 :: o8 :: o9 :: o10 :: o11 :: o12 :: o13 :: o14 :: o15 :: o16 :: o17 :: o18 :: o19 :: o20 :: o21 :: o22 :: o23 :: o24 :: o25 :: o26 :: o27 :: o28 :: o29 :: o30 :: o31 :: o32 :: o33 :: o34 :: o35 :: o36 :: o37 :: o38 :: o39 :: o40 :: o41 :: o42 :: o43 :: some w :: r) := rfl
theorem st_45 {o0 o1 o2 o3 o4 o5 o6 o7 o8 o9 o10 o11 o12 o13 o14 o15 o16 o17 o18 o19 o20 o21 o22 o23 o24 o25 o26 o27 o28 o29 o30 o31 o32 o33 o34 o35 o36 o37 o38 o39 o40 o41 o42 o43 o44 o45 : Option D} {w : Option D} {r : Env} : (o0 :: o1 :: o2 :: o3 :: o4 :: o5 :: o6 :: o7 :: o8 :: o9 :: o10 :: o11 :: o12 :: o13 :: o14 :: o15 :: o16 :: o17 :: o18 :: o19 :: o20 :: o21 :: o22 :: o23 :: o24 :: o25 :: o26 :: o27 :: o28 :: o29 :: o30 :: o31 :: o32 :: o33 :: o34 :: o35 :: o36 :: o37 :: o38 :: o39 :: o40 :: o41 :: o42 :: o43 :: o44 :: o45 :: r).set 45 w = (o0 :: o1 :: o2 :: o3 :: o4 :: o5 :: o6 :: o7 :: o8 :: o9 :: o10 :: o11 :: o12 :: o13 :: o14 :: o15 :: o16 :: o17 :: o18 :: o19 :: o20 :: o21 :: o22 :: o23 :: o24 :: o25 :: o26 :: o27 :: o28 :: o29 :: o30 :: o31 :: o32 :: o33 :: o34 :: o35 :: o36 :: o37 :: o38 :: o39 :: o40 :: o41 :: o42 :: o43 :: o44 :: w :: r) := rfl
theorem gn_45 {o0 o1 o2 o3 o4 o5 o6 o7 o8 o9 o10 o11 o12 o13 o14 o15 o16 o17 o18 o19 o20 o21 o22 o23 o24 o25 o26 o27 o28 o29 o30 o31 o32 o33 o34 o35 o36 o37 o38 o39 o40 o41 o42 o43 o44 o45 : Option D} {w : D} {r : Env} : gN 45 w (o0 :: o1 :: o2 :: o3 :: o4 :: o5 :: o6 :: o7 :: o8 :: o9 :: o10 :: o11 :: o12 :: o13 :: o14 :: o15 :: o16 :: o17 :: o18 :: o19 :: o20 :: o21 :: o22 :: o23 :: o24 :: o25 :: o26 :: o27 :: o28 :: o29 :: o30 :: o31 :: o32 :: o33 :: o34 :: o35 :: o36 :: o37 :: o38 :: o39 :: o40 :: o41 :: o42 :: o43 :: o44 :: o45 :: r) = some (o0 :: o1 :: o2 :: o3 :: o4 :: o5 :: o6 :: o7 :: o8 :: o9 :: o10 :: o11 :: o12 :: o13 :: o14 :: o15 :: o16 :: o17 :: o18 :: o19 :: o20 :: o21 :: o22 :: o23 :: o24 :: o25 :: o26 :: o27 :: o28 :: o29 :: o30 :: o31 :: o32 :: o33 :: o34 :: o35 :: o36 :: o37 :: o38 :: o39 :: o40 :: o41 :: o42 :: o43 :: o44 :: some w :: r) := rfl
theorem st_46 {o0 o1 o2 o3 o4 o5 o6 o7 o8 o9 o10 o11 o12 o13 o14 o15 o16 o17 o18 o19 o20 o21 o22 o23 o24 o25 o26 o27 o28 o29 o30 o31 o32 o33 o34 o35 o36 o37 o38 o39 o40 o41 o42 o43 o44 o45 o46 : Option D} {w : Option D} {r : Env} : (o0 :: o1 :: o2 :: o3 :: o4 :: o5 :: o6 :: o7 :: o8 :: o9 :: o10 :: o11 :: o12 :: o13 :: o14 :: o15 :: o16 :: o17 :: o18 :: o19 :: o20 :: o21 :: o22 :: o23 :: o24 :: o25 :: o26 :: o27 :: o28 :: o29 :: o30 :: o31 :: o32 :: o33 :: o34 :: o35 :: o36 :: o37 :: o38 :: o39 :: o40 :: o41 :: o42 :: o43 :: o44 :: o45 :: o46 :: r).set 46 w = (o0 :: o1 :: o2 :: o3 :: o4 :: o5 :: o6 :: o7 :: o8 :: o9 :: o10 :: o11 :: o12 :: o13 :: o14 :: o15 :: o16 :: o17 :: o18 :: o19 :: o20 :: o21 :: o22 :: o23 :: o24 :: o25 :: o26 :: o27 :: o28 :: o29 :: o30 :: o31 :: o32 :: o33 :: o34 :: o35 :: o36 :: o37 :: o38 :: o39 :: o40 :: o41 :: o42 :: o43 :: o44 :: o45 :: w :: r) := rfl
theorem gn_46 {o0 o1 o2 o3 o4 o5 o6 o7 o8 o9 o10 o11 o12 o13 o14 o15 o16 o17 o18 o19 o20 o21 o22 o23 o24 o25 o26 o27 o28 o29 o30 o31 o32 o33 o34 o35 o36 o37 o38 o39 o40 o41 o42 o43 o44 o45 o46 : Option D} {w : D} {r : Env} : gN 46 w (o0 :: o1 :: o2 :: o3 :: o4 :: o5 :: o6 :: o7 :: o8 :: o9 :: o10 :: o11 :: o12 :: o13 :: o14 :: o15 :: o16 :: o17 :: o18 :: o19 :: o20 :: o21 :: o22 :: o23 :: o24 :: o25 :: o26 :: o27 :: o28 :: o29 :: o30 :: o31 :: o32 :: o33 :: o34 :: o35 :: o36 :: o37 :: o38 :: o39 :: o40 :: o41 :: o42 :: o43 :: o44 :: o45 :: o46 :: r) = some (o0 :: o1 :: o2 :: o3 :: o4 :: o5 :: o6 :: o7 :: o8 :: o9 :: o10 :: o11 :: o12 :: o13 :: o14 :: o15 :: o16 :: o17 :: o18 :: o19 :: o20 :: o21 :: o22 :: o23 :: o24 :: o25 :: o26 :: o27 :: o28 :: o29 :: o30 :: o31 :: o32 :: o33 :: o34 :: o35 :: o36 :: o37 :: o38 :: o39 :: o40 :: o41 :: o42 :: o43 :: o44 :: o45 :: some w :: r) := rfl
theorem st_47 {o0 o1 o2 o3 o4 o5 o6 o7 o8 o9 o10 o11 o12 o13 o14 o15 o16 o17 o18 o19 o20 o21 o22 o23 o24 o25 o26 o27 o28 o29 o30 o31 o32 o33 o34 o35 o36 o37 o38 o39 o40 o41 o42 o43 o44 o45 o46 o47 : Option D} {w : Option D} {r : Env} : (o0 :: o1 :: o2 :: o3 :: o4 :: o5 :: o6 :: o7 :: o8 :: o9 :: o10 :: o11 :: o12 :: o13 :: o14 :: o15 :: o16 :: o17 :: o18 :: o19 :: o20 :: o21 :: o22 :: o23 :: o24 :: o25 :: o26 :: o27 :: o28 :: o29 :: o30 :: o31 :: o32 :: o33 :: o34 :: o35 :: o36 :: o37 :: o38 :: o39 :: o40 :: o41 :: o42 :: o43 :: o44 :: o45 :: o46 :: o47 :: r).set 47 w = (o0 :: o1 :: o2 :: o3 :: o4 :: o5 :: o6 :: o7 :: o8 :: o9 :: o10 :: o11 :: o12 :: o13 :: o14 :: o15 :: o16 :: o17 :: o18 :: o19 :: o20 :: o21 :: o22 :: o23 :: o24 :: o25 :: o26 :: o27 :: o28 :: o29 :: o30 :: o31 :: o32 :: o33 :: o34 :: o35 :: o36 :: o37 :: o38 :: o39 :: o40 :: o41 :: o42 :: o43 :: o44 :: o45 :: o46 :: w :: r) := rfl
theorem gn_47 {o0 o1 o2 o3 o4 o5 o6 o7 o8 o9 o10 o11 o12 o13 o14 o15 o16 o17 o18 o19 o20 o21 o22 o23 o24 o25 o26 o27 o28 o29 o30 o31 o32 o33 o34 o35 o36 o37 o38 o39 o40 o41 o42 o43 o44 o45 o46 o47 : Option D} {w : D} {r : Env} : gN 47 w (o0 :: o1 :: o2 :: o3 :: o4 :: o5 :: o6 :: o7 :: o8 :: o9 :: o10 :: o11 :: o12 :: o13 :: o14 :: o15 :: o16 :: o17 :: o18 :: o19 :: o20 :: o21 :: o22 :: o23 :: o24 :: o25 :: o26 :: o27 :: o28 :: o29 :: o30 :: o31 :: o32 :: o33 :: o34 :: o35 :: o36 :: o37 :: o38 :: o39 :: o40 :: o41 :: o42 :: o43 :: o44 :: o45 :: o46 :: o47 :: r) = some (o0 :: o1 :: o2 :: o3 :: o4 :: o5 :: o6 :: o7 :: o8 :: o9 :: o10 :: o11 :: o12 :: o13 :: o14 :: o15 :: o16 :: o17 :: o18 :: o19 :: o20 :: o21 :: o22 :: o23 :: o24 :: o25 :: o26 :: o27 :: o28 :: o29 :: o30 :: o31 :: o32 :: o33 :: o34 :: o35 :: o36 :: o37 :: o38 :: o39 :: o40 :: o41 :: o42 :: o43 :: o44 :: o45 :: o46 :: some w :: r) := rfl
theorem lf_all1 {b0 : Bool}  : cAll [.d (.list [.bool b0])] = some (.d (.bool (b0 && true))) := rfl
theorem lf_all2 {b0 b1 : Bool}  : cAll [.d (.list [.bool b0, .bool b1])] = some (.d (.bool (b0 && (b1 && true)))) := rfl
theorem lf_all3 {b0 b1 b2 : Bool}  : cAll [.d (.list [.bool b0, .bool b1, .bool b2])] = some (.d (.bool (b0 && (b1 && (b2 && true))))) := rfl
theorem lf_all4 {b0 b1 b2 b3 : Bool}  : cAll [.d (.list [.bool b0, .bool b1, .bool b2, .bool b3])] = some (.d (.bool (b0 && (b1 && (b2 && (b3 && true)))))) := rfl
theorem ixt_0 {o0 : PyData} {r : List PyData}  : fIx (.d (.tuple (o0 :: r))) (.d (.int 0)) = some (.d o0) := by
  refine Hush.hu (ix_t0 (k := 0) rfl) ?_
  walk_at "hu"
theorem ixl_0 {o0 : PyData} {r : List PyData}  : fIx (.d (.list (o0 :: r))) (.d (.int 0)) = some (.d o0) := by
  refine Hush.hu (ix_l0 (k := 0) rfl) ?_
  walk_at "hu"
theorem ixt_1 {o0 o1 : PyData} {r : List PyData}  : fIx (.d (.tuple (o0 :: o1 :: r))) (.d (.int 1)) = some (.d o1) := by
  refine Hush.hu (ix_t0 (k := 1) rfl) ?_
  walk_at "hu"
theorem ixl_1 {o0 o1 : PyData} {r : List PyData}  : fIx (.d (.list (o0 :: o1 :: r))) (.d (.int 1)) = some (.d o1) := by
  refine Hush.hu (ix_l0 (k := 1) rfl) ?_
  walk_at "hu"
theorem ixt_2 {o0 o1 o2 : PyData} {r : List PyData}  : fIx (.d (.tuple (o0 :: o1 :: o2 :: r))) (.d (.int 2)) = some (.d o2) := by
  refine Hush.hu (ix_t0 (k := 2) rfl) ?_
  walk_at "hu"
theorem ixl_2 {o0 o1 o2 : PyData} {r : List PyData}  : fIx (.d (.list (o0 :: o1 :: o2 :: r))) (.d (.int 2)) = some (.d o2) := by
  refine Hush.hu (ix_l0 (k := 2) rfl) ?_
  walk_at "hu"
theorem ixt_3 {o0 o1 o2 o3 : PyData} {r : List PyData}  : fIx (.d (.tuple (o0 :: o1 :: o2 :: o3 :: r))) (.d (.int 3)) = some (.d o3) := by
  refine Hush.hu (ix_t0 (k := 3) rfl) ?_
  walk_at "hu"
theorem ixl_3 {o0 o1 o2 o3 : PyData} {r : List PyData}  : fIx (.d (.list (o0 :: o1 :: o2 :: o3 :: r))) (.d (.int 3)) = some (.d o3) := by
  refine Hush.hu (ix_l0 (k := 3) rfl) ?_
  walk_at "hu"
theorem ixt_4 {o0 o1 o2 o3 o4 : PyData} {r : List PyData}  : fIx (.d (.tuple (o0 :: o1 :: o2 :: o3 :: o4 :: r))) (.d (.int 4)) = some (.d o4) := by
  refine Hush.hu (ix_t0 (k := 4) rfl) ?_
  walk_at "hu"
theorem ixl_4 {o0 o1 o2 o3 o4 : PyData} {r : List PyData}  : fIx (.d (.list (o0 :: o1 :: o2 :: o3 :: o4 :: r))) (.d (.int 4)) = some (.d o4) := by
  refine Hush.hu (ix_l0 (k := 4) rfl) ?_
  walk_at "hu"
theorem ixt_5 {o0 o1 o2 o3 o4 o5 : PyData} {r : List PyData}  : fIx (.d (.tuple (o0 :: o1 :: o2 :: o3 :: o4 :: o5 :: r))) (.d (.int 5)) = some (.d o5) := by
  refine Hush.hu (ix_t0 (k := 5) rfl) ?_
  walk_at "hu"
theorem ixl_5 {o0 o1 o2 o3 o4 o5 : PyData} {r : List PyData}  : fIx (.d (.list (o0 :: o1 :: o2 :: o3 :: o4 :: o5 :: r))) (.d (.int 5)) = some (.d o5) := by
  refine Hush.hu (ix_l0 (k := 5) rfl) ?_
  walk_at "hu"
theorem ixt_6 {o0 o1 o2 o3 o4 o5 o6 : PyData} {r : List PyData}  : fIx (.d (.tuple (o0 :: o1 :: o2 :: o3 :: o4 :: o5 :: o6 :: r))) (.d (.int 6)) = some (.d o6) := by
  refine Hush.hu (ix_t0 (k := 6) rfl) ?_
  walk_at "hu"
theorem ixl_6 {o0 o1 o2 o3 o4 o5 o6 : PyData} {r : List PyData}  : fIx (.d (.list (o0 :: o1 :: o2 :: o3 :: o4 :: o5 :: o6 :: r))) (.d (.int 6)) = some (.d o6) := by
  refine Hush.hu (ix_l0 (k := 6) rfl) ?_
  walk_at "hu"
theorem ixt_7 {o0 o1 o2 o3 o4 o5 o6 o7 : PyData} {r : List PyData}  : fIx (.d (.tuple (o0 :: o1 :: o2 :: o3 :: o4 :: o5 :: o6 :: o7 :: r))) (.d (.int 7)) = some (.d o7) := by
  refine Hush.hu (ix_t0 (k := 7) rfl) ?_
  walk_at "hu"
theorem ixl_7 {o0 o1 o2 o3 o4 o5 o6 o7 : PyData} {r : List PyData}  : fIx (.d (.list (o0 :: o1 :: o2 :: o3 :: o4 :: o5 :: o6 :: o7 :: r))) (.d (.int 7)) = some (.d o7) := by
  refine Hush.hu (ix_l0 (k := 7) rfl) ?_
  walk_at "hu"
theorem ixt_8 {o0 o1 o2 o3 o4 o5 o6 o7 o8 : PyData} {r : List PyData}  : fIx (.d (.tuple (o0 :: o1 :: o2 :: o3 :: o4 :: o5 :: o6 :: o7 :: o8 :: r))) (.d (.int 8)) = some (.d o8) := by
  refine Hush.hu (ix_t0 (k := 8) rfl) ?_
  walk_at "hu"
theorem ixl_8 {o0 o1 o2 o3 o4 o5 o6 o7 o8 : PyData} {r : List PyData}  : fIx (.d (.list (o0 :: o1 :: o2 :: o3 :: o4 :: o5 :: o6 :: o7 :: o8 :: r))) (.d (.int 8)) = some (.d o8) := by
  refine Hush.hu (ix_l0 (k := 8) rfl) ?_
  walk_at "hu"
theorem ixt_9 {o0 o1 o2 o3 o4 o5 o6 o7 o8 o9 : PyData} {r : List PyData}  : fIx (.d (.tuple (o0 :: o1 :: o2 :: o3 :: o4 :: o5 :: o6 :: o7 :: o8 :: o9 :: r))) (.d (.int 9)) = some (.d o9) := by
  refine Hush.hu (ix_t0 (k := 9) rfl) ?_
  walk_at "hu"
theorem ixl_9 {o0 o1 o2 o3 o4 o5 o6 o7 o8 o9 : PyData} {r : List PyData}  : fIx (.d (.list (o0 :: o1 :: o2 :: o3 :: o4 :: o5 :: o6 :: o7 :: o8 :: o9 :: r))) (.d (.int 9)) = some (.d o9) := by
  refine Hush.hu (ix_l0 (k := 9) rfl) ?_
  walk_at "hu"
theorem lf_c {w : α}  : pC w env = some w := rfl
theorem lf_add {i j : Int}  : fAdd (.d (.int i)) (.d (.int j)) = some (.d (.int (i + j))) := rfl
theorem lf_sub {i j : Int}  : fSub (.d (.int i)) (.d (.int j)) = some (.d (.int (i - j))) := rfl
theorem lf_lt {i j : Int}  : fLt (.d (.int i)) (.d (.int j)) = some (.d (.bool (decide (i < j)))) := rfl
theorem lf_le {i j : Int}  : fLe (.d (.int i)) (.d (.int j)) = some (.d (.bool (decide (i ≤ j)))) := rfl
theorem lf_gt {i j : Int}  : fGt (.d (.int i)) (.d (.int j)) = some (.d (.bool (decide (j < i)))) := rfl
theorem lf_ge {i j : Int}  : fGe (.d (.int i)) (.d (.int j)) = some (.d (.bool (decide (j ≤ i)))) := rfl
theorem lf_tru_l {xs : List PyData}  : truD (.d (.list xs)) = some (!xs.isEmpty) := rfl
theorem lf_eqi_s {i : Int}  : fEq (.d (.int i)) (.d (.int i)) = some (.d (.bool true)) := by
  refine @Hush.hu _ (by simp [fEq, sh_int, PyData.eqv]) ?_
  walk_at "hu"
theorem lf_nei_s {i : Int}  : fNe (.d (.int i)) (.d (.int i)) = some (.d (.bool false)) := by
  refine @Hush.hu _ (by simp [fNe, sh_int, PyData.eqv]) ?_
  walk_at "hu"
theorem lf_eqi {i j : Int}  : fEq (.d (.int i)) (.d (.int j)) = some (.d (.bool (decide (i = j)))) := by
  refine @Hush.hu _ (by simp [fEq, sh_int, PyData.eqv]; rfl) ?_
  walk_at "hu"
theorem lf_nei {i j : Int}  : fNe (.d (.int i)) (.d (.int j)) = some (.d (.bool (!decide (i = j)))) := by
  refine @Hush.hu _ (by simp [fNe, sh_int, PyData.eqv]; rfl) ?_
  walk_at "hu"
theorem lf_lenl {xs : List PyData}  : cLen [.d (.list xs)] = some (.d (.int xs.length)) := rfl
theorem lf_lent {xs : List PyData}  : cLen [.d (.tuple xs)] = some (.d (.int xs.length)) := rfl
theorem lf_lens {xs : List D}  : cLen [.ls xs] = some (.d (.int xs.length)) := rfl
theorem lf_tup1 {xs : List PyData}  : cTup [.d (.list xs)] = some (.d (.tuple xs)) := rfl
theorem lf_tup2 {xs : List PyData}  : cTup [.d (.tuple xs)] = some (.d (.tuple xs)) := rfl
theorem lf_lst1 {xs : List PyData}  : cLst [.d (.list xs)] = some (.d (.list xs)) := rfl
theorem lf_lst2 {xs : List PyData}  : cLst [.d (.tuple xs)] = some (.d (.list xs)) := rfl
theorem lf_int1 {i : Int}  : cIntT [.d (.int i)] = some (.d (.int i)) := rfl
theorem lf_int2 {b : Bool}  : cIntT [.d (.bool b)] = some (.d (.int (if b then 1 else 0))) := rfl
theorem lf_str {s : Str}  : cStr [.d (.str s)] = some (.d (.str s)) := rfl
theorem lf_isn1 {d : PyData}  : fIs (.d .none) (.d .none) = some (.d (.bool true)) := rfl
theorem lf_isNi {i : Int}  : fIs (.d (.int i)) (.d .none) = some (.d (.bool false)) := rfl
theorem lf_isnNi {i : Int}  : fIsNot (.d (.int i)) (.d .none) = some (.d (.bool true)) := rfl
theorem lf_isNs {i : Str}  : fIs (.d (.str i)) (.d .none) = some (.d (.bool false)) := rfl
theorem lf_isnNs {i : Str}  : fIsNot (.d (.str i)) (.d .none) = some (.d (.bool true)) := rfl
theorem lf_isNt {i : List PyData}  : fIs (.d (.tuple i)) (.d .none) = some (.d (.bool false)) := rfl
theorem lf_isnNt {i : List PyData}  : fIsNot (.d (.tuple i)) (.d .none) = some (.d (.bool true)) := rfl
theorem lf_isNl {i : List PyData}  : fIs (.d (.list i)) (.d .none) = some (.d (.bool false)) := rfl
theorem lf_isnNl {i : List PyData}  : fIsNot (.d (.list i)) (.d .none) = some (.d (.bool true)) := rfl
theorem lf_isNb {i : Bool}  : fIs (.d (.bool i)) (.d .none) = some (.d (.bool false)) := rfl
theorem lf_isnNb {i : Bool}  : fIsNot (.d (.bool i)) (.d .none) = some (.d (.bool true)) := rfl
theorem lf_isnN0 : fIsNot (.d .none) (.d .none) = some (.d (.bool false)) := rfl
theorem lf_isN0 : fIs (.d .none) (.d .none) = some (.d (.bool true)) := rfl
theorem lf_is_s {a : Bool}  : fIs (.d (.bool a)) (.d (.bool a)) = some (.d (.bool true)) := by
  refine @Hush.hu _ (by cases a <;> rfl) ?_
  walk_at "hu"
theorem lf_isn_s {a : Bool}  : fIsNot (.d (.bool a)) (.d (.bool a)) = some (.d (.bool false)) := by
  refine @Hush.hu _ (by cases a <;> rfl) ?_
  walk_at "hu"
theorem lf_isb {a b : Bool}  : fIs (.d (.bool a)) (.d (.bool b)) = some (.d (.bool (decide (a = b)))) := rfl
theorem lf_isb2 {a b : Bool}  : fIsNot (.d (.bool a)) (.d (.bool b)) = some (.d (.bool (!decide (a = b)))) := rfl
theorem lf_itl {xs : List PyData}  : itL (.d (.list xs)) = some (xs.map D.d) := rfl
theorem lf_itt {xs : List PyData}  : itL (.d (.tuple xs)) = some (xs.map D.d) := rfl
theorem lf_itls {xs : List D}  : itL (.ls xs) = some xs := rfl
theorem lf_r1_0 {z : Unit}  : mR1 [.d (.int 0)] = some [] := by
  refine @Hush.hu _ (by kernel_rfl) ?_
  walk_at "hu"
theorem lf_r1_1 {z : Unit}  : mR1 [.d (.int 1)] = some [.d (.int 0)] := by
  refine @Hush.hu _ (by kernel_rfl) ?_
  walk_at "hu"
theorem lf_r1_2 {z : Unit}  : mR1 [.d (.int 2)] = some [.d (.int 0), .d (.int 1)] := by
  refine @Hush.hu _ (by kernel_rfl) ?_
  walk_at "hu"
theorem lf_r1_3 {z : Unit}  : mR1 [.d (.int 3)] = some [.d (.int 0), .d (.int 1), .d (.int 2)] := by
  refine @Hush.hu _ (by kernel_rfl) ?_
  walk_at "hu"
theorem lf_r1_4 {z : Unit}  : mR1 [.d (.int 4)] = some [.d (.int 0), .d (.int 1), .d (.int 2), .d (.int 3)] := by
  refine @Hush.hu _ (by kernel_rfl) ?_
  walk_at "hu"
theorem lf_r1_5 {z : Unit}  : mR1 [.d (.int 5)] = some [.d (.int 0), .d (.int 1), .d (.int 2), .d (.int 3), .d (.int 4)] := by
  refine @Hush.hu _ (by kernel_rfl) ?_
  walk_at "hu"
theorem lf_r1_6 {z : Unit}  : mR1 [.d (.int 6)] = some [.d (.int 0), .d (.int 1), .d (.int 2), .d (.int 3), .d (.int 4), .d (.int 5)] := by
  refine @Hush.hu _ (by kernel_rfl) ?_
  walk_at "hu"
theorem lf_r1_7 {z : Unit}  : mR1 [.d (.int 7)] = some [.d (.int 0), .d (.int 1), .d (.int 2), .d (.int 3), .d (.int 4), .d (.int 5), .d (.int 6)] := by
  refine @Hush.hu _ (by kernel_rfl) ?_
  walk_at "hu"
theorem lf_r1_8 {z : Unit}  : mR1 [.d (.int 8)] = some [.d (.int 0), .d (.int 1), .d (.int 2), .d (.int 3), .d (.int 4), .d (.int 5), .d (.int 6), .d (.int 7)] := by
  refine @Hush.hu _ (by kernel_rfl) ?_
  walk_at "hu"
theorem lf_addl {a b : List PyData} (h : a.length + b.length ≤ 100000) : fAdd (.d (.list a)) (.d (.list b)) = some (.d (.list (a ++ b))) := by
  refine Hush.hu (if_pos h) ?_
  walk_at "hu"
theorem lf_addt {a b : List PyData} (h : a.length + b.length ≤ 100000) : fAdd (.d (.tuple a)) (.d (.tuple b)) = some (.d (.tuple (a ++ b))) := by
  refine Hush.hu (if_pos h) ?_
  walk_at "hu"
theorem lf_adds {a b : Str} (h : a.length + b.length ≤ 100000) : fAdd (.d (.str a)) (.d (.str b)) = some (.d (.str (a ++ b))) := by
  refine Hush.hu (if_pos h) ?_
  walk_at "hu"
theorem lf_r1n {n : Nat} (h : n ≤ 100000) : mR1 [.d (.int n)] = some ((List.range n).map fun k => D.d (.int (k : Nat))) := by
  refine Hush.hu (mR1_nat n h) ?_
  walk_at "hu"
theorem lf_sll {xs : List PyData} {lo hi : Option Int}  : fSl (.d (.list xs)) lo hi = some (.d (.list (cutD xs lo hi))) := rfl
theorem lf_slt {xs : List PyData} {lo hi : Option Int}  : fSl (.d (.tuple xs)) lo hi = some (.d (.tuple (cutD xs lo hi))) := rfl
theorem lf_itl_0 : itL (.d (.list [])) = some [] := rfl
theorem lf_itt_0 : itL (.d (.tuple [])) = some [] := rfl
theorem lf_itl_1 {o0 : PyData}  : itL (.d (.list [o0])) = some [.d o0] := rfl
theorem lf_itt_1 {o0 : PyData}  : itL (.d (.tuple [o0])) = some [.d o0] := rfl
theorem lf_itl_2 {o0 o1 : PyData}  : itL (.d (.list [o0, o1])) = some [.d o0, .d o1] := rfl
theorem lf_itt_2 {o0 o1 : PyData}  : itL (.d (.tuple [o0, o1])) = some [.d o0, .d o1] := rfl
theorem lf_itl_3 {o0 o1 o2 : PyData}  : itL (.d (.list [o0, o1, o2])) = some [.d o0, .d o1, .d o2] := rfl
theorem lf_itt_3 {o0 o1 o2 : PyData}  : itL (.d (.tuple [o0, o1, o2])) = some [.d o0, .d o1, .d o2] := rfl
theorem lf_itl_4 {o0 o1 o2 o3 : PyData}  : itL (.d (.list [o0, o1, o2, o3])) = some [.d o0, .d o1, .d o2, .d o3] := rfl
theorem lf_itt_4 {o0 o1 o2 o3 : PyData}  : itL (.d (.tuple [o0, o1, o2, o3])) = some [.d o0, .d o1, .d o2, .d o3] := rfl
theorem lf_itl_5 {o0 o1 o2 o3 o4 : PyData}  : itL (.d (.list [o0, o1, o2, o3, o4])) = some [.d o0, .d o1, .d o2, .d o3, .d o4] := rfl
theorem lf_itt_5 {o0 o1 o2 o3 o4 : PyData}  : itL (.d (.tuple [o0, o1, o2, o3, o4])) = some [.d o0, .d o1, .d o2, .d o3, .d o4] := rfl
theorem lf_itl_6 {o0 o1 o2 o3 o4 o5 : PyData}  : itL (.d (.list [o0, o1, o2, o3, o4, o5])) = some [.d o0, .d o1, .d o2, .d o3, .d o4, .d o5] := rfl
theorem lf_itt_6 {o0 o1 o2 o3 o4 o5 : PyData}  : itL (.d (.tuple [o0, o1, o2, o3, o4, o5])) = some [.d o0, .d o1, .d o2, .d o3, .d o4, .d o5] := rfl
theorem lf_itl_7 {o0 o1 o2 o3 o4 o5 o6 : PyData}  : itL (.d (.list [o0, o1, o2, o3, o4, o5, o6])) = some [.d o0, .d o1, .d o2, .d o3, .d o4, .d o5, .d o6] := rfl
theorem lf_itt_7 {o0 o1 o2 o3 o4 o5 o6 : PyData}  : itL (.d (.tuple [o0, o1, o2, o3, o4, o5, o6])) = some [.d o0, .d o1, .d o2, .d o3, .d o4, .d o5, .d o6] := rfl
theorem lf_itl_8 {o0 o1 o2 o3 o4 o5 o6 o7 : PyData}  : itL (.d (.list [o0, o1, o2, o3, o4, o5, o6, o7])) = some [.d o0, .d o1, .d o2, .d o3, .d o4, .d o5, .d o6, .d o7] := rfl
theorem lf_itt_8 {o0 o1 o2 o3 o4 o5 o6 o7 : PyData}  : itL (.d (.tuple [o0, o1, o2, o3, o4, o5, o6, o7])) = some [.d o0, .d o1, .d o2, .d o3, .d o4, .d o5, .d o6, .d o7] := rfl
theorem lf_itl_9 {o0 o1 o2 o3 o4 o5 o6 o7 o8 : PyData}  : itL (.d (.list [o0, o1, o2, o3, o4, o5, o6, o7, o8])) = some [.d o0, .d o1, .d o2, .d o3, .d o4, .d o5, .d o6, .d o7, .d o8] := rfl
theorem lf_itt_9 {o0 o1 o2 o3 o4 o5 o6 o7 o8 : PyData}  : itL (.d (.tuple [o0, o1, o2, o3, o4, o5, o6, o7, o8])) = some [.d o0, .d o1, .d o2, .d o3, .d o4, .d o5, .d o6, .d o7, .d o8] := rfl
theorem lf_itl_10 {o0 o1 o2 o3 o4 o5 o6 o7 o8 o9 : PyData}  : itL (.d (.list [o0, o1, o2, o3, o4, o5, o6, o7, o8, o9])) = some [.d o0, .d o1, .d o2, .d o3, .d o4, .d o5, .d o6, .d o7, .d o8, .d o9] := rfl
theorem lf_itt_10 {o0 o1 o2 o3 o4 o5 o6 o7 o8 o9 : PyData}  : itL (.d (.tuple [o0, o1, o2, o3, o4, o5, o6, o7, o8, o9])) = some [.d o0, .d o1, .d o2, .d o3, .d o4, .d o5, .d o6, .d o7, .d o8, .d o9] := rfl
theorem lf_itl_11 {o0 o1 o2 o3 o4 o5 o6 o7 o8 o9 o10 : PyData}  : itL (.d (.list [o0, o1, o2, o3, o4, o5, o6, o7, o8, o9, o10])) = some [.d o0, .d o1, .d o2, .d o3, .d o4, .d o5, .d o6, .d o7, .d o8, .d o9, .d o10] := rfl
theorem lf_itt_11 {o0 o1 o2 o3 o4 o5 o6 o7 o8 o9 o10 : PyData}  : itL (.d (.tuple [o0, o1, o2, o3, o4, o5, o6, o7, o8, o9, o10])) = some [.d o0, .d o1, .d o2, .d o3, .d o4, .d o5, .d o6, .d o7, .d o8, .d o9, .d o10] := rfl
theorem lf_itl_12 {o0 o1 o2 o3 o4 o5 o6 o7 o8 o9 o10 o11 : PyData}  : itL (.d (.list [o0, o1, o2, o3, o4, o5, o6, o7, o8, o9, o10, o11])) = some [.d o0, .d o1, .d o2, .d o3, .d o4, .d o5, .d o6, .d o7, .d o8, .d o9, .d o10, .d o11] := rfl
theorem lf_itt_12 {o0 o1 o2 o3 o4 o5 o6 o7 o8 o9 o10 o11 : PyData}  : itL (.d (.tuple [o0, o1, o2, o3, o4, o5, o6, o7, o8, o9, o10, o11])) = some [.d o0, .d o1, .d o2, .d o3, .d o4, .d o5, .d o6, .d o7, .d o8, .d o9, .d o10, .d o11] := rfl
theorem pd_nil : pdL [] = some [] := rfl
theorem pd_cons {r : List D} {xs : List PyData} {w : PyData} (h : pdL r = some xs) : pdL (.d w :: r) = some (w :: xs) := by
  refine @Hush.hu _ (by
  show (pdL r).map _ = _
  rw [h]
  rfl) ?_
  walk_at "hu"
theorem mt_of {l : List D} {xs : List PyData} (h : l.length ≤ 100000) (h2 : pdL l = some xs) : mTup l = some (.d (.tuple xs)) := by
  refine @Hush.hu _ (by
  unfold mTup
  rw [if_pos h, h2]) ?_
  walk_at "hu"
theorem ml_of {l : List D} {xs : List PyData} (h : l.length ≤ 100000) (h2 : pdL l = some xs) : mLst l = some (.d (.list xs)) := by
  refine @Hush.hu _ (by
  unfold mLst
  rw [if_pos h, h2]) ?_
  walk_at "hu"
theorem br_t {r : α} {a b : α} (h : v = true) (h2 : a = r) : (if v = true then a else b) = r := by
  refine @Hush.hu _ (by rw [if_pos h]; exact h2) ?_
  walk_at "hu"
theorem br_f {r : α} {a b : α} (h : v = false) (h2 : b = r) : (if v = true then a else b) = r := by
  refine @Hush.hu _ (by rw [if_neg (by rw [h]; exact Bool.false_ne_true)]; exact h2) ?_
  walk_at "hu"
theorem br_id {r a b : α} (h : (if v = true then a else b) = r) : (if v = true then a else b) = r := h
theorem br_nei {i : Int} {r a b : α} (h : b = r) : (if (!decide (i = i)) = true then a else b) = r := by
  refine @Hush.hu _ (by rw [decide_eq_true rfl]; exact h) ?_
  walk_at "hu"
theorem br_eqi {i : Int} {r a b : α} (h : a = r) : (if decide (i = i) = true then a else b) = r := by
  refine @Hush.hu _ (by rw [decide_eq_true rfl]; exact h) ?_
  walk_at "hu"
def litEq (x : Option D) (v : Bool) : Bool := match x with
  | some (.d (.bool b)) => b == v
  | _ => false
theorem lit_eq {o : Option D} (h : litEq o v = true) : o = some (.d (.bool v)) := by
  refine @Hush.hu _ (by
  unfold litEq at h
  split at h
  · rw [eq_of_beq h]
  · cases h) ?_
  walk_at "hu"
theorem lit_T {o : Option D} (h : litEq o true = true) : o = some (.d (.bool true)) := by
  refine Hush.hu (lit_eq h) ?_
  walk_at "hu"
theorem lit_F {o : Option D} (h : litEq o false = true) : o = some (.d (.bool false)) := by
  refine Hush.hu (lit_eq h) ?_
  walk_at "hu"
theorem br_and {o : Option D} (h : o = some (.d (.bool u))) : (if v = true then o else some (.d (.bool false))) = some (.d (.bool (v && u))) := by
  refine @Hush.hu _ (by
  cases v with
  | true => exact h
  | false => rfl) ?_
  walk_at "hu"
theorem br_or {o : Option D} (h : o = some (.d (.bool u))) : (if v = true then some (.d (.bool true)) else o) = some (.d (.bool (v || u))) := by
  refine @Hush.hu _ (by
  cases v with
  | true => rfl
  | false => exact h) ?_
  walk_at "hu"
theorem br_andB {o : Option Bool} (h : o = some u) : (if v = true then o else some false) = some (v && u) := by
  refine @Hush.hu _ (by
  cases v with
  | true => exact h
  | false => rfl) ?_
  walk_at "hu"
theorem br_orB {o : Option Bool} (h : o = some u) : (if v = true then some true else o) = some (v || u) := by
  refine @Hush.hu _ (by
  cases v with
  | true => rfl
  | false => exact h) ?_
  walk_at "hu"
theorem br_andR {t : Ts} {o : R D} (h : o = .ok (.d (.bool u)) t) : (if v = true then o else .ok (.d (.bool false)) t) = .ok (.d (.bool (v && u))) t := by
  refine @Hush.hu _ (by
  cases v with
  | true => exact h
  | false => rfl) ?_
  walk_at "hu"
theorem br_orR {t : Ts} {o : R D} (h : o = .ok (.d (.bool u)) t) : (if v = true then .ok (.d (.bool true)) t else o) = .ok (.d (.bool (v || u))) t := by
  refine @Hush.hu _ (by
  cases v with
  | true => rfl
  | false => exact h) ?_
  walk_at "hu"
theorem br_andRB {t : Ts} {o : R Bool} (h : o = .ok u t) : (if v = true then o else .ok false t) = .ok (v && u) t := by
  refine @Hush.hu _ (by
  cases v with
  | true => exact h
  | false => rfl) ?_
  walk_at "hu"
theorem br_orRB {t : Ts} {o : R Bool} (h : o = .ok u t) : (if v = true then .ok true t else o) = .ok (v || u) t := by
  refine @Hush.hu _ (by
  cases v with
  | true => rfl
  | false => exact h) ?_
  walk_at "hu"
theorem gx_d {w : PyData} {t : Ts} (h : fIx (.d w) y = some z) : getX (.d w) y t = some z := h
theorem lenT_d {w : PyData} {t : Ts} (h : cLen [.d w] = some z) : cLenT [.d w] t = some z := h
theorem lenT_ls {w : List D} {t : Ts} (h : cLen [.ls w] = some z) : cLenT [.ls w] t = some z := h
theorem tupT_d {w : PyData} {t : Ts} (h : cTup [.d w] = some z) : cTupT [.d w] t = some z := h
theorem its_d {w : PyData} {t : Ts} (h : itL (.d w) = some l) : itS (.d w) t = .ok (.st l) t := by
  refine Hush.hu (itS_of t h) ?_
  walk_at "hu"
theorem its_ls {w : List D} {t : Ts} : itS (.ls w) t = .ok (.st w) t := rfl
theorem mOf_of {L n : Nat} {b : Pm Out} {ds : List D} {w : D} (h : ds.length = n) (h2 : b (startE L n ds) = some (.rt w)) : mOf L n b ds = some w := by
  refine @Hush.hu _ (by
  unfold mOf
  rw [if_pos h, h2]
  rfl) ?_
  walk_at "hu"
theorem mOfS_of {L n : Nat} {b : Sm Out} {ds : List D} {w : D} (h : ds.length = n) (h2 : b (startE L n ds) t = .ok (.rt w) t1) : mOfS L n b ds t = .ok w (t1.take (max t.length (top w))) := by
  refine @Hush.hu _ (by
  unfold mOfS
  rw [if_pos h, h2]
  rfl) ?_
  walk_at "hu"
theorem mOfS_nx {L n : Nat} {b : Sm Out} {ds : List D} (h : ds.length = n) (h2 : b (startE L n ds) t = .ok (.nx e1) t1) : mOfS L n b ds t = .ok (.d .none) (t1.take t.length) := by
  refine @Hush.hu _ (by
  unfold mOfS
  rw [if_pos h, h2]
  rfl) ?_
  walk_at "hu"
theorem mOfS_ex {L n : Nat} {b : Sm Out} {ds : List D} {xx : Exn} (h : ds.length = n) (h2 : b (startE L n ds) t = .ex xx t1) : mOfS L n b ds t = .ex xx (t1.take t.length) := by
  refine @Hush.hu _ (by
  unfold mOfS
  rw [if_pos h, h2]
  rfl) ?_
  walk_at "hu"
theorem mOfS_dd {L n : Nat} {b : Sm Out} {ds : List D} {w : PyData} (h : ds.length = n) (h2 : b (startE L n ds) t = .ok (.rt (.d w)) t1) (hl : t1.length = t.length) : mOfS L n b ds t = .ok (.d w) t1 := by
  refine @Hush.hu _ (by
  rw [mOfS_of h h2]
  show R.ok _ (t1.take (max t.length 0)) = _
  rw [Nat.max_eq_left (Nat.zero_le _), ← hl, List.take_length]) ?_
  walk_at "hu"
theorem mOfS_cd {L n : Nat} {b : Sm Out} {ds : List D} {w : PyData} (h : ds.length = n) (h2 : b (startE L n ds) t = .ok (.rt (.d w)) t1) (ht : t1.take t.length = t2) : mOfS L n b ds t = .ok (.d w) t2 := by
  refine @Hush.hu _ (by
  rw [mOfS_of h h2]
  show R.ok _ (t1.take (max t.length 0)) = _
  rw [Nat.max_eq_left (Nat.zero_le _), ht]) ?_
  walk_at "hu"
theorem pv_rfl {i : Nat} {w : D} {env : Env} (h : env[i]? = some (some w)) : pV i env = some w := by
  refine @Hush.hu _ (by
  unfold pV
  rw [h]) ?_
  walk_at "hu"
theorem nl_of {ds : List D} (h1 : topL ds = 0) (h2 : ds.length ≤ 100000) : newLs ds t = .ok (.r t.length []) (t ++ [some (.nd .lst (ds.map Tr.v))]) := by
  refine Hush.hu (if_pos ⟨h1, h2⟩) ?_
  walk_at "hu"
theorem mOfS_nn {L n : Nat} {b : Sm Out} {ds : List D} (h : ds.length = n) (h2 : b (startE L n ds) t = .ok (.nx e1) t1) (hl : t1.length = t.length) : mOfS L n b ds t = .ok (.d .none) t1 := by
  refine @Hush.hu _ (by
  rw [mOfS_nx h h2, ← hl, List.take_length]) ?_
  walk_at "hu"
theorem mOfS_xx {L n : Nat} {b : Sm Out} {ds : List D} {xx : Exn} (h : ds.length = n) (h2 : b (startE L n ds) t = .ex xx t1) (hl : t1.length = t.length) : mOfS L n b ds t = .ex xx t1 := by
  refine @Hush.hu _ (by
  rw [mOfS_ex h h2, ← hl, List.take_length]) ?_
  walk_at "hu"
end
end Dl
namespace My
open PySem L2 Dl
inductive Re where | feeds | used | same | cells | memory | shows | jump | any
deriving DecidableEq
inductive Ki where | set | sum | get | put | if_ | show_
deriving DecidableEq
inductive Ev where | lay | read | make | write | out
deriving DecidableEq
inductive Ho where | write | out
deriving DecidableEq
def Re.s : Re → Str
  | .feeds => "feeds" | .used => "used" | .same => "same" | .cells => "cells" | .memory => "memory" | .shows => "shows" | .jump => "jump" | .any => "any"
def Ki.s : Ki → Str
  | .set => "set" | .sum => "sum" | .get => "get" | .put => "put" | .if_ => "if" | .show_ => "show"
def Ev.s : Ev → Str
  | .lay => "lay" | .read => "read" | .make => "make" | .write => "write" | .out => "out"
def Ev.n : Ev → Nat
  | .lay => 0 | .read => 1 | .make => 2 | .write => 3 | .out => 4
def Ho.e : Ho → Ev
  | .write => .write | .out => .out
structure En where
  r : Re
  a : Ki
  b : Ki
  p : Ev
  q : Ev
deriving DecidableEq
def enc (e : En) : PyData := .tuple [.str e.r.s, .str e.a.s, .str e.b.s, .str e.p.s, .str e.q.s]
structure De where
  w : Int
  x : Bool
  y : Bool
  h0 : Ho
  h1 : Ho
  h2 : Ho
  T : List En
def encH (d : De) : PyData := .tuple [.str d.h0.e.s, .str d.h1.e.s, .str d.h2.e.s]
def encT (T : List En) : PyData := .tuple (T.map enc)
def encD (d : De) : PyData := .tuple [.int d.w, .bool d.x, .bool d.y, encH d, encT d.T]
theorem eqv_re (x y : Re) : PyData.eqv (.str x.s) (.str y.s) = decide (x = y) := by
  refine @Hush.hu _ (by cases x <;> cases y <;> kernel_rfl) ?_
  walk_at "hu"
theorem eqv_ki (x y : Ki) : PyData.eqv (.str x.s) (.str y.s) = decide (x = y) := by
  refine @Hush.hu _ (by cases x <;> cases y <;> kernel_rfl) ?_
  walk_at "hu"
theorem eqv_ev (x y : Ev) : PyData.eqv (.str x.s) (.str y.s) = decide (x = y) := by
  refine @Hush.hu _ (by cases x <;> cases y <;> kernel_rfl) ?_
  walk_at "hu"
theorem sh_re (x : Re) : SeqAt.shaped (.str x.s) = true := by
  refine @Hush.hu _ (by cases x <;> kernel_rfl) ?_
  walk_at "hu"
theorem sh_ki (x : Ki) : SeqAt.shaped (.str x.s) = true := by
  refine @Hush.hu _ (by cases x <;> kernel_rfl) ?_
  walk_at "hu"
theorem sh_ev (x : Ev) : SeqAt.shaped (.str x.s) = true := by
  refine @Hush.hu _ (by cases x <;> kernel_rfl) ?_
  walk_at "hu"
theorem feq_of {a b : PyData} {v : Bool} (ha : SeqAt.shaped a = true) (hb : SeqAt.shaped b = true) (h : PyData.eqv a b = v) : fEq (.d a) (.d b) = some (.d (.bool v)) := by
  refine @Hush.hu _ (by
  unfold fEq
  dsimp only
  rw [if_pos ⟨ha, hb⟩, h]) ?_
  walk_at "hu"
theorem fne_of {a b : PyData} {v : Bool} (ha : SeqAt.shaped a = true) (hb : SeqAt.shaped b = true) (h : PyData.eqv a b = v) : fNe (.d a) (.d b) = some (.d (.bool (!v))) := by
  refine @Hush.hu _ (by
  unfold fNe
  dsimp only
  rw [if_pos ⟨ha, hb⟩, h]) ?_
  walk_at "hu"
theorem feq_re (x y : Re) : fEq (.d (.str x.s)) (.d (.str y.s)) = some (.d (.bool (decide (x = y)))) := by
  refine Hush.hu (feq_of (sh_re x) (sh_re y) (eqv_re x y)) ?_
  walk_at "hu"
theorem fne_re (x y : Re) : fNe (.d (.str x.s)) (.d (.str y.s)) = some (.d (.bool (!decide (x = y)))) := by
  refine Hush.hu (fne_of (sh_re x) (sh_re y) (eqv_re x y)) ?_
  walk_at "hu"
theorem feq_re_feeds (x : Re) : fEq (.d (.str x.s)) (.d (.str "feeds")) = some (.d (.bool (decide (x = .feeds)))) := by
  refine Hush.hu (feq_re x .feeds) ?_
  walk_at "hu"
theorem fne_re_feeds (x : Re) : fNe (.d (.str x.s)) (.d (.str "feeds")) = some (.d (.bool (!decide (x = .feeds)))) := by
  refine Hush.hu (fne_re x .feeds) ?_
  walk_at "hu"
theorem feq_re_used (x : Re) : fEq (.d (.str x.s)) (.d (.str "used")) = some (.d (.bool (decide (x = .used)))) := by
  refine Hush.hu (feq_re x .used) ?_
  walk_at "hu"
theorem fne_re_used (x : Re) : fNe (.d (.str x.s)) (.d (.str "used")) = some (.d (.bool (!decide (x = .used)))) := by
  refine Hush.hu (fne_re x .used) ?_
  walk_at "hu"
theorem feq_re_same (x : Re) : fEq (.d (.str x.s)) (.d (.str "same")) = some (.d (.bool (decide (x = .same)))) := by
  refine Hush.hu (feq_re x .same) ?_
  walk_at "hu"
theorem fne_re_same (x : Re) : fNe (.d (.str x.s)) (.d (.str "same")) = some (.d (.bool (!decide (x = .same)))) := by
  refine Hush.hu (fne_re x .same) ?_
  walk_at "hu"
theorem feq_re_cells (x : Re) : fEq (.d (.str x.s)) (.d (.str "cells")) = some (.d (.bool (decide (x = .cells)))) := by
  refine Hush.hu (feq_re x .cells) ?_
  walk_at "hu"
theorem fne_re_cells (x : Re) : fNe (.d (.str x.s)) (.d (.str "cells")) = some (.d (.bool (!decide (x = .cells)))) := by
  refine Hush.hu (fne_re x .cells) ?_
  walk_at "hu"
theorem feq_re_memory (x : Re) : fEq (.d (.str x.s)) (.d (.str "memory")) = some (.d (.bool (decide (x = .memory)))) := by
  refine Hush.hu (feq_re x .memory) ?_
  walk_at "hu"
theorem fne_re_memory (x : Re) : fNe (.d (.str x.s)) (.d (.str "memory")) = some (.d (.bool (!decide (x = .memory)))) := by
  refine Hush.hu (fne_re x .memory) ?_
  walk_at "hu"
theorem feq_re_shows (x : Re) : fEq (.d (.str x.s)) (.d (.str "shows")) = some (.d (.bool (decide (x = .shows)))) := by
  refine Hush.hu (feq_re x .shows) ?_
  walk_at "hu"
theorem fne_re_shows (x : Re) : fNe (.d (.str x.s)) (.d (.str "shows")) = some (.d (.bool (!decide (x = .shows)))) := by
  refine Hush.hu (fne_re x .shows) ?_
  walk_at "hu"
theorem feq_re_jump (x : Re) : fEq (.d (.str x.s)) (.d (.str "jump")) = some (.d (.bool (decide (x = .jump)))) := by
  refine Hush.hu (feq_re x .jump) ?_
  walk_at "hu"
theorem fne_re_jump (x : Re) : fNe (.d (.str x.s)) (.d (.str "jump")) = some (.d (.bool (!decide (x = .jump)))) := by
  refine Hush.hu (fne_re x .jump) ?_
  walk_at "hu"
theorem feq_re_any (x : Re) : fEq (.d (.str x.s)) (.d (.str "any")) = some (.d (.bool (decide (x = .any)))) := by
  refine Hush.hu (feq_re x .any) ?_
  walk_at "hu"
theorem fne_re_any (x : Re) : fNe (.d (.str x.s)) (.d (.str "any")) = some (.d (.bool (!decide (x = .any)))) := by
  refine Hush.hu (fne_re x .any) ?_
  walk_at "hu"
theorem feq_ki (x y : Ki) : fEq (.d (.str x.s)) (.d (.str y.s)) = some (.d (.bool (decide (x = y)))) := by
  refine Hush.hu (feq_of (sh_ki x) (sh_ki y) (eqv_ki x y)) ?_
  walk_at "hu"
theorem fne_ki (x y : Ki) : fNe (.d (.str x.s)) (.d (.str y.s)) = some (.d (.bool (!decide (x = y)))) := by
  refine Hush.hu (fne_of (sh_ki x) (sh_ki y) (eqv_ki x y)) ?_
  walk_at "hu"
theorem feq_ki_set (x : Ki) : fEq (.d (.str x.s)) (.d (.str "set")) = some (.d (.bool (decide (x = .set)))) := by
  refine Hush.hu (feq_ki x .set) ?_
  walk_at "hu"
theorem fne_ki_set (x : Ki) : fNe (.d (.str x.s)) (.d (.str "set")) = some (.d (.bool (!decide (x = .set)))) := by
  refine Hush.hu (fne_ki x .set) ?_
  walk_at "hu"
theorem feq_ki_sum (x : Ki) : fEq (.d (.str x.s)) (.d (.str "sum")) = some (.d (.bool (decide (x = .sum)))) := by
  refine Hush.hu (feq_ki x .sum) ?_
  walk_at "hu"
theorem fne_ki_sum (x : Ki) : fNe (.d (.str x.s)) (.d (.str "sum")) = some (.d (.bool (!decide (x = .sum)))) := by
  refine Hush.hu (fne_ki x .sum) ?_
  walk_at "hu"
theorem feq_ki_get (x : Ki) : fEq (.d (.str x.s)) (.d (.str "get")) = some (.d (.bool (decide (x = .get)))) := by
  refine Hush.hu (feq_ki x .get) ?_
  walk_at "hu"
theorem fne_ki_get (x : Ki) : fNe (.d (.str x.s)) (.d (.str "get")) = some (.d (.bool (!decide (x = .get)))) := by
  refine Hush.hu (fne_ki x .get) ?_
  walk_at "hu"
theorem feq_ki_put (x : Ki) : fEq (.d (.str x.s)) (.d (.str "put")) = some (.d (.bool (decide (x = .put)))) := by
  refine Hush.hu (feq_ki x .put) ?_
  walk_at "hu"
theorem fne_ki_put (x : Ki) : fNe (.d (.str x.s)) (.d (.str "put")) = some (.d (.bool (!decide (x = .put)))) := by
  refine Hush.hu (fne_ki x .put) ?_
  walk_at "hu"
theorem feq_ki_if_ (x : Ki) : fEq (.d (.str x.s)) (.d (.str "if")) = some (.d (.bool (decide (x = .if_)))) := by
  refine Hush.hu (feq_ki x .if_) ?_
  walk_at "hu"
theorem fne_ki_if_ (x : Ki) : fNe (.d (.str x.s)) (.d (.str "if")) = some (.d (.bool (!decide (x = .if_)))) := by
  refine Hush.hu (fne_ki x .if_) ?_
  walk_at "hu"
theorem feq_ki_show_ (x : Ki) : fEq (.d (.str x.s)) (.d (.str "show")) = some (.d (.bool (decide (x = .show_)))) := by
  refine Hush.hu (feq_ki x .show_) ?_
  walk_at "hu"
theorem fne_ki_show_ (x : Ki) : fNe (.d (.str x.s)) (.d (.str "show")) = some (.d (.bool (!decide (x = .show_)))) := by
  refine Hush.hu (fne_ki x .show_) ?_
  walk_at "hu"
theorem feq_ev (x y : Ev) : fEq (.d (.str x.s)) (.d (.str y.s)) = some (.d (.bool (decide (x = y)))) := by
  refine Hush.hu (feq_of (sh_ev x) (sh_ev y) (eqv_ev x y)) ?_
  walk_at "hu"
theorem fne_ev (x y : Ev) : fNe (.d (.str x.s)) (.d (.str y.s)) = some (.d (.bool (!decide (x = y)))) := by
  refine Hush.hu (fne_of (sh_ev x) (sh_ev y) (eqv_ev x y)) ?_
  walk_at "hu"
theorem feq_ev_lay (x : Ev) : fEq (.d (.str x.s)) (.d (.str "lay")) = some (.d (.bool (decide (x = .lay)))) := by
  refine Hush.hu (feq_ev x .lay) ?_
  walk_at "hu"
theorem fne_ev_lay (x : Ev) : fNe (.d (.str x.s)) (.d (.str "lay")) = some (.d (.bool (!decide (x = .lay)))) := by
  refine Hush.hu (fne_ev x .lay) ?_
  walk_at "hu"
theorem feq_ev_read (x : Ev) : fEq (.d (.str x.s)) (.d (.str "read")) = some (.d (.bool (decide (x = .read)))) := by
  refine Hush.hu (feq_ev x .read) ?_
  walk_at "hu"
theorem fne_ev_read (x : Ev) : fNe (.d (.str x.s)) (.d (.str "read")) = some (.d (.bool (!decide (x = .read)))) := by
  refine Hush.hu (fne_ev x .read) ?_
  walk_at "hu"
theorem feq_ev_make (x : Ev) : fEq (.d (.str x.s)) (.d (.str "make")) = some (.d (.bool (decide (x = .make)))) := by
  refine Hush.hu (feq_ev x .make) ?_
  walk_at "hu"
theorem fne_ev_make (x : Ev) : fNe (.d (.str x.s)) (.d (.str "make")) = some (.d (.bool (!decide (x = .make)))) := by
  refine Hush.hu (fne_ev x .make) ?_
  walk_at "hu"
theorem feq_ev_write (x : Ev) : fEq (.d (.str x.s)) (.d (.str "write")) = some (.d (.bool (decide (x = .write)))) := by
  refine Hush.hu (feq_ev x .write) ?_
  walk_at "hu"
theorem fne_ev_write (x : Ev) : fNe (.d (.str x.s)) (.d (.str "write")) = some (.d (.bool (!decide (x = .write)))) := by
  refine Hush.hu (fne_ev x .write) ?_
  walk_at "hu"
theorem feq_ev_out (x : Ev) : fEq (.d (.str x.s)) (.d (.str "out")) = some (.d (.bool (decide (x = .out)))) := by
  refine Hush.hu (feq_ev x .out) ?_
  walk_at "hu"
theorem fne_ev_out (x : Ev) : fNe (.d (.str x.s)) (.d (.str "out")) = some (.d (.bool (!decide (x = .out)))) := by
  refine Hush.hu (fne_ev x .out) ?_
  walk_at "hu"
def wri : Ki → Bool
  | .set | .sum | .get => true
  | _ => false
def isGP : Ki → Bool
  | .get | .put => true
  | _ => false
def isHo : Ev → Bool
  | .write | .out => true
  | _ => false
theorem in_kinds (x : Ki) : fIn false (.d (.str x.s)) (.kt (.tuple [(.str "set"), (.str "sum"), (.str "get"), (.str "put"), (.str "if"), (.str "show")])) = some (.d (.bool true)) := by
  refine @Hush.hu _ (by cases x <;> kernel_rfl) ?_
  walk_at "hu"
theorem in_kinds_n (x : Ki) : fIn true (.d (.str x.s)) (.kt (.tuple [(.str "set"), (.str "sum"), (.str "get"), (.str "put"), (.str "if"), (.str "show")])) = some (.d (.bool false)) := by
  refine @Hush.hu _ (by cases x <;> kernel_rfl) ?_
  walk_at "hu"
theorem in_wri (x : Ki) : fIn false (.d (.str x.s)) (.kt (.tuple [(.str "set"), (.str "sum"), (.str "get")])) = some (.d (.bool (wri x))) := by
  refine @Hush.hu _ (by cases x <;> kernel_rfl) ?_
  walk_at "hu"
theorem in_wri_n (x : Ki) : fIn true (.d (.str x.s)) (.kt (.tuple [(.str "set"), (.str "sum"), (.str "get")])) = some (.d (.bool (!wri x))) := by
  refine @Hush.hu _ (by cases x <;> kernel_rfl) ?_
  walk_at "hu"
theorem in_wriL (x : Ki) : fIn false (.d (.str x.s)) (.d (.list [.str "set", .str "sum", .str "get"])) = some (.d (.bool (wri x))) := by
  refine @Hush.hu _ (by cases x <;> kernel_rfl) ?_
  walk_at "hu"
theorem in_wriL_n (x : Ki) : fIn true (.d (.str x.s)) (.d (.list [.str "set", .str "sum", .str "get"])) = some (.d (.bool (!wri x))) := by
  refine @Hush.hu _ (by cases x <;> kernel_rfl) ?_
  walk_at "hu"
theorem in_gpL (x : Ki) : fIn false (.d (.str x.s)) (.d (.list [.str "get", .str "put"])) = some (.d (.bool (isGP x))) := by
  refine @Hush.hu _ (by cases x <;> kernel_rfl) ?_
  walk_at "hu"
theorem in_gpL_n (x : Ki) : fIn true (.d (.str x.s)) (.d (.list [.str "get", .str "put"])) = some (.d (.bool (!isGP x))) := by
  refine @Hush.hu _ (by cases x <;> kernel_rfl) ?_
  walk_at "hu"
theorem in_gpT (x : Ki) : fIn false (.d (.str x.s)) (.d (.tuple [.str "get", .str "put"])) = some (.d (.bool (isGP x))) := by
  refine @Hush.hu _ (by cases x <;> kernel_rfl) ?_
  walk_at "hu"
theorem in_gpT_n (x : Ki) : fIn true (.d (.str x.s)) (.d (.tuple [.str "get", .str "put"])) = some (.d (.bool (!isGP x))) := by
  refine @Hush.hu _ (by cases x <;> kernel_rfl) ?_
  walk_at "hu"
theorem in_rel (x : Re) : fIn false (.d (.str x.s)) (.kt (.tuple [(.str "feeds"), (.str "used"), (.str "same"), (.str "cells"), (.str "memory"), (.str "shows"), (.str "jump"), (.str "any")])) = some (.d (.bool true)) := by
  refine @Hush.hu _ (by cases x <;> kernel_rfl) ?_
  walk_at "hu"
theorem in_rel_n (x : Re) : fIn true (.d (.str x.s)) (.kt (.tuple [(.str "feeds"), (.str "used"), (.str "same"), (.str "cells"), (.str "memory"), (.str "shows"), (.str "jump"), (.str "any")])) = some (.d (.bool false)) := by
  refine @Hush.hu _ (by cases x <;> kernel_rfl) ?_
  walk_at "hu"
theorem in_evs (x : Ev) : fIn false (.d (.str x.s)) (.kt (.tuple [(.str "lay"), (.str "read"), (.str "make"), (.str "write"), (.str "out")])) = some (.d (.bool true)) := by
  refine @Hush.hu _ (by cases x <;> kernel_rfl) ?_
  walk_at "hu"
theorem in_evs_n (x : Ev) : fIn true (.d (.str x.s)) (.kt (.tuple [(.str "lay"), (.str "read"), (.str "make"), (.str "write"), (.str "out")])) = some (.d (.bool false)) := by
  refine @Hush.hu _ (by cases x <;> kernel_rfl) ?_
  walk_at "hu"
theorem in_hoe (h : Ho) : fIn false (.d (.str h.e.s)) (.d (.tuple [.str "write", .str "out"])) = some (.d (.bool true)) := by
  refine @Hush.hu _ (by cases h <;> kernel_rfl) ?_
  walk_at "hu"
theorem in_ho (x : Ev) : fIn false (.d (.str x.s)) (.d (.tuple [.str "write", .str "out"])) = some (.d (.bool (isHo x))) := by
  refine @Hush.hu _ (by cases x <;> kernel_rfl) ?_
  walk_at "hu"
theorem in_ho_n (x : Ev) : fIn true (.d (.str x.s)) (.d (.tuple [.str "write", .str "out"])) = some (.d (.bool (!isHo x))) := by
  refine @Hush.hu _ (by cases x <;> kernel_rfl) ?_
  walk_at "hu"
theorem at_get {xs : List PyData} {k : Nat} {x : PyData} (h : xs[k]? = some x) : atI xs (k : Int) = some x := by
  refine @Hush.hu _ (by rw [at_nat]; exact h) ?_
  walk_at "hu"
theorem ix_l {xs : List PyData} {k : Nat} {x : PyData} (h : xs[k]? = some x) : fIx (.d (.list xs)) (.d (.int (k : Nat))) = some (.d x) := by
  refine @Hush.hu _ (by
  show (atI xs (k : Int)).map D.d = _
  rw [at_get h]
  rfl) ?_
  walk_at "hu"
theorem ix_t {xs : List PyData} {k : Nat} {x : PyData} (h : xs[k]? = some x) : fIx (.d (.tuple xs)) (.d (.int (k : Nat))) = some (.d x) := by
  refine @Hush.hu _ (by
  show (atI xs (k : Int)).map D.d = _
  rw [at_get h]
  rfl) ?_
  walk_at "hu"
theorem isi_i (i : Int) : cIsi [.d (.int i), .o (.ty "int")] = some (.d (.bool true)) := rfl
theorem isi_s (i : Str) : cIsi [.d (.str i), .o (.ty "str")] = some (.d (.bool true)) := rfl
theorem isi_t (i : List PyData) : cIsi [.d (.tuple i), .o (.ty "tuple")] = some (.d (.bool true)) := rfl
theorem isi_b (i : Bool) : cIsi [.d (.bool i), .o (.ty "bool")] = some (.d (.bool true)) := rfl
theorem isi_ib (i : Int) : cIsi [.d (.int i), .o (.ty "bool")] = some (.d (.bool false)) := rfl
theorem ix_e0 (e : En) : fIx (.d (enc e)) (.d (.int 0)) = some (.d (.str e.r.s)) := rfl
theorem ix_e1 (e : En) : fIx (.d (enc e)) (.d (.int 1)) = some (.d (.str e.a.s)) := rfl
theorem ix_e2 (e : En) : fIx (.d (enc e)) (.d (.int 2)) = some (.d (.str e.b.s)) := rfl
theorem ix_e3 (e : En) : fIx (.d (enc e)) (.d (.int 3)) = some (.d (.str e.p.s)) := rfl
theorem ix_e4 (e : En) : fIx (.d (enc e)) (.d (.int 4)) = some (.d (.str e.q.s)) := rfl
theorem ix_d0 (d : De) : fIx (.d (encD d)) (.d (.int 0)) = some (.d (.int d.w)) := rfl
theorem ix_d1 (d : De) : fIx (.d (encD d)) (.d (.int 1)) = some (.d (.bool d.x)) := rfl
theorem ix_d2 (d : De) : fIx (.d (encD d)) (.d (.int 2)) = some (.d (.bool d.y)) := rfl
theorem ix_d3 (d : De) : fIx (.d (encD d)) (.d (.int 3)) = some (.d (encH d)) := rfl
theorem ix_d4 (d : De) : fIx (.d (encD d)) (.d (.int 4)) = some (.d (encT d.T)) := rfl
theorem ix_h0 (d : De) : fIx (.d (encH d)) (.d (.int 0)) = some (.d (.str d.h0.e.s)) := rfl
theorem ix_h1 (d : De) : fIx (.d (encH d)) (.d (.int 1)) = some (.d (.str d.h1.e.s)) := rfl
theorem ix_h2 (d : De) : fIx (.d (encH d)) (.d (.int 2)) = some (.d (.str d.h2.e.s)) := rfl
theorem isi_e (e : En) : cIsi [.d (enc e), .o (.ty "tuple")] = some (.d (.bool true)) := rfl
theorem it_H (d : De) : itL (.d (encH d)) = some [.d (.str d.h0.e.s), .d (.str d.h1.e.s), .d (.str d.h2.e.s)] := rfl
theorem sl_d4 (d : De) : fSl (.d (encD d)) none (some 4) = some (.d (.tuple [.int d.w, .bool d.x, .bool d.y, encH d])) := rfl
theorem sl_e3 (e : En) : fSl (.d (enc e)) none (some 3) = some (.d (.tuple [.str e.r.s, .str e.a.s, .str e.b.s])) := rfl
theorem sl_e13 (e : En) : fSl (.d (enc e)) (some 1) (some 3) = some (.d (.tuple [.str e.a.s, .str e.b.s])) := rfl
theorem len_e (e : En) : cLen [.d (enc e)] = some (.d (.int 5)) := rfl
theorem len_d (d : De) : cLen [.d (encD d)] = some (.d (.int 5)) := rfl
theorem isi_d (d : De) : cIsi [.d (encD d), .o (.ty "tuple")] = some (.d (.bool true)) := rfl
end My
local macro_rules | `(tactic| walk_at "br") => `(tactic| first
  | ((with_reducible apply Dl.br_id); walk_at "brr"))
local macro_rules | `(tactic| walk_at "brr") => `(tactic| first
  | (refine Dl.br_t (by first | with_reducible rfl | with_reducible assumption) ?_)
  | (refine Dl.br_f (by first | with_reducible rfl | with_reducible assumption) ?_)
  | (refine Dl.br_t (by decide) ?_)
  | (refine Dl.br_f (by decide) ?_)
  | (refine Dl.br_t (decide_eq_true (by omega)) ?_)
  | (refine Dl.br_f (decide_eq_false (by omega)) ?_)
  | (with_reducible apply Dl.br_nei)
  | (with_reducible apply Dl.br_eqi))
local macro_rules | `(tactic| walk_at "lf") => `(tactic| first
  | (with_reducible assumption)
  | (with_reducible exact Dl.lf_all1)
  | (with_reducible exact Dl.lf_all2)
  | (with_reducible exact Dl.lf_all3)
  | (with_reducible exact Dl.lf_all4)
  | (with_reducible exact Dl.ixt_0)
  | (with_reducible exact Dl.ixl_0)
  | (with_reducible exact Dl.ixt_1)
  | (with_reducible exact Dl.ixl_1)
  | (with_reducible exact Dl.ixt_2)
  | (with_reducible exact Dl.ixl_2)
  | (with_reducible exact Dl.ixt_3)
  | (with_reducible exact Dl.ixl_3)
  | (with_reducible exact Dl.ixt_4)
  | (with_reducible exact Dl.ixl_4)
  | (with_reducible exact Dl.ixt_5)
  | (with_reducible exact Dl.ixl_5)
  | (with_reducible exact Dl.ixt_6)
  | (with_reducible exact Dl.ixl_6)
  | (with_reducible exact Dl.ixt_7)
  | (with_reducible exact Dl.ixl_7)
  | (with_reducible exact Dl.ixt_8)
  | (with_reducible exact Dl.ixl_8)
  | (with_reducible exact Dl.ixt_9)
  | (with_reducible exact Dl.ixl_9)
  | (with_reducible exact Dl.lf_add)
  | (with_reducible exact Dl.lf_sub)
  | (with_reducible exact Dl.lf_lt)
  | (with_reducible exact Dl.lf_le)
  | (with_reducible exact Dl.lf_gt)
  | (with_reducible exact Dl.lf_ge)
  | (with_reducible exact Dl.lf_tru_l)
  | (with_reducible exact Dl.lf_eqi_s)
  | (with_reducible exact Dl.lf_nei_s)
  | (with_reducible exact Dl.lf_eqi)
  | (with_reducible exact Dl.lf_nei)
  | (with_reducible exact Dl.lf_lenl)
  | (with_reducible exact Dl.lf_lent)
  | (with_reducible exact Dl.lf_lens)
  | (with_reducible exact Dl.lf_tup1)
  | (with_reducible exact Dl.lf_tup2)
  | (with_reducible exact Dl.lf_lst1)
  | (with_reducible exact Dl.lf_lst2)
  | (with_reducible exact Dl.lf_int1)
  | (with_reducible exact Dl.lf_int2)
  | (with_reducible exact Dl.lf_str)
  | (with_reducible exact Dl.lf_isn1)
  | (with_reducible exact Dl.lf_isNi)
  | (with_reducible exact Dl.lf_isnNi)
  | (with_reducible exact Dl.lf_isNs)
  | (with_reducible exact Dl.lf_isnNs)
  | (with_reducible exact Dl.lf_isNt)
  | (with_reducible exact Dl.lf_isnNt)
  | (with_reducible exact Dl.lf_isNl)
  | (with_reducible exact Dl.lf_isnNl)
  | (with_reducible exact Dl.lf_isNb)
  | (with_reducible exact Dl.lf_isnNb)
  | (with_reducible exact Dl.lf_isnN0)
  | (with_reducible exact Dl.lf_isN0)
  | (with_reducible exact Dl.lf_is_s)
  | (with_reducible exact Dl.lf_isn_s)
  | (with_reducible exact Dl.lf_isb)
  | (with_reducible exact Dl.lf_isb2)
  | (with_reducible exact Dl.lf_sll)
  | (with_reducible exact Dl.lf_slt)
  | (with_reducible apply Dl.lf_addl)
  | (with_reducible apply Dl.lf_addt)
  | (with_reducible apply Dl.lf_adds))
local macro_rules | `(tactic| walk_at "lfL") => `(tactic| first
  | (with_reducible assumption)
  | (with_reducible exact Dl.lf_itl_0)
  | (with_reducible exact Dl.lf_itt_0)
  | (with_reducible exact Dl.lf_itl_1)
  | (with_reducible exact Dl.lf_itt_1)
  | (with_reducible exact Dl.lf_itl_2)
  | (with_reducible exact Dl.lf_itt_2)
  | (with_reducible exact Dl.lf_itl_3)
  | (with_reducible exact Dl.lf_itt_3)
  | (with_reducible exact Dl.lf_itl_4)
  | (with_reducible exact Dl.lf_itt_4)
  | (with_reducible exact Dl.lf_itl_5)
  | (with_reducible exact Dl.lf_itt_5)
  | (with_reducible exact Dl.lf_itl_6)
  | (with_reducible exact Dl.lf_itt_6)
  | (with_reducible exact Dl.lf_itl_7)
  | (with_reducible exact Dl.lf_itt_7)
  | (with_reducible exact Dl.lf_itl_8)
  | (with_reducible exact Dl.lf_itt_8)
  | (with_reducible exact Dl.lf_itl_9)
  | (with_reducible exact Dl.lf_itt_9)
  | (with_reducible exact Dl.lf_itl_10)
  | (with_reducible exact Dl.lf_itt_10)
  | (with_reducible exact Dl.lf_itl_11)
  | (with_reducible exact Dl.lf_itt_11)
  | (with_reducible exact Dl.lf_itl_12)
  | (with_reducible exact Dl.lf_itt_12)
  | (with_reducible exact Dl.lf_itl)
  | (with_reducible exact Dl.lf_itt)
  | (with_reducible exact Dl.lf_itls)
  | (with_reducible exact Dl.lf_r1_0 (z := ()))
  | (with_reducible exact Dl.lf_r1_1 (z := ()))
  | (with_reducible exact Dl.lf_r1_2 (z := ()))
  | (with_reducible exact Dl.lf_r1_3 (z := ()))
  | (with_reducible exact Dl.lf_r1_4 (z := ()))
  | (with_reducible exact Dl.lf_r1_5 (z := ()))
  | (with_reducible exact Dl.lf_r1_6 (z := ()))
  | (with_reducible exact Dl.lf_r1_7 (z := ()))
  | (with_reducible exact Dl.lf_r1_8 (z := ()))
  | (with_reducible apply Dl.lf_r1n))
local macro_rules | `(tactic| walk_at "eOD") => `(tactic| first
  | (with_reducible assumption)
  | (with_reducible apply Dl.gx_d)
  | (with_reducible apply Dl.lenT_d)
  | (with_reducible apply Dl.lenT_ls)
  | (with_reducible apply Dl.tupT_d)
  | ((with_reducible apply Dl.pv_rfl); exact rfl)
  | (with_reducible exact Dl.lf_c)
  | (with_reducible apply Dl.p_op)
  | (with_reducible apply Dl.p_mk)
  | (with_reducible apply Dl.p_ap)
  | (with_reducible apply Dl.p_m1)
  | (with_reducible apply Dl.p_sl)
  | (with_reducible apply Dl.p_andV)
  | (with_reducible apply Dl.p_orV)
  | (with_reducible apply Dl.p_notV)
  | (with_reducible apply Dl.p_ch)
  | (with_reducible apply Dl.p_if_not)
  | (with_reducible apply Dl.p_if_and)
  | (with_reducible apply Dl.p_if_or)
  | (with_reducible apply Dl.p_if)
  | (with_reducible apply Dl.p_bind)
  | walk_at "br"
  | (with_reducible apply Dl.br_and)
  | (with_reducible apply Dl.br_or)
  | (with_reducible apply Dl.mt_of (by simp only [List.length_cons, List.length_nil]; omega))
  | (with_reducible apply Dl.ml_of (by simp only [List.length_cons, List.length_nil]; omega))
  | walk_at "lf"
  | walk_at "lfK")
local macro_rules | `(tactic| walk_at "eD") => `(tactic| first
  | exact rfl)
local macro_rules | `(tactic| walk_at "kb") => `(tactic| first
  | ((with_reducible apply Dl.lit_T); decide +kernel)
  | ((with_reducible apply Dl.lit_F); decide +kernel))
local macro_rules | `(tactic| walk_at "lfK") => `(tactic| first
  | ((with_reducible refine (?_ : Dl.fEq _ _ = _)); walk_at "kb")
  | ((with_reducible refine (?_ : Dl.fNe _ _ = _)); walk_at "kb")
  | ((with_reducible refine (?_ : Dl.fIn _ _ _ = _)); walk_at "kb"))
local macro_rules | `(tactic| walk_at "eOB") => `(tactic| first
  | (with_reducible assumption)
  | ((with_reducible refine (?_ : @Eq (Option Bool) (some _) _)); exact rfl)
  | (with_reducible apply Dl.p_b)
  | (with_reducible apply Dl.p_tru)
  | (with_reducible apply Dl.p_not)
  | (with_reducible apply Dl.p_and)
  | (with_reducible apply Dl.p_or)
  | (with_reducible exact Dl.lf_c)
  | (with_reducible apply Dl.p_if_not)
  | (with_reducible apply Dl.p_if_and)
  | (with_reducible apply Dl.p_if_or)
  | (with_reducible apply Dl.p_if)
  | walk_at "br"
  | (with_reducible apply Dl.br_andB)
  | (with_reducible apply Dl.br_orB)
  | walk_at "lf")
local macro_rules | `(tactic| walk_at "eOL") => `(tactic| first
  | (with_reducible assumption)
  | (with_reducible apply Dl.p_cons)
  | (with_reducible exact Dl.p_nil)
  | (with_reducible apply Dl.p_it)
  | (with_reducible apply Dl.p_rg)
  | (with_reducible apply Dl.p_lc)
  | (with_reducible exact Dl.gp_nil)
  | (with_reducible apply Dl.gp_cons)
  | (with_reducible apply Dl.gp_el)
  | walk_at "br"
  | (with_reducible apply Dl.p_if)
  | walk_at "lfL")
local macro_rules | `(tactic| walk_at "eOO") => `(tactic| first
  | (with_reducible assumption)
  | ((with_reducible apply Dl.p_s_forrt); (repeat' walk_at "e1"); done)
  | (with_reducible apply Dl.p_s_seq)
  | (with_reducible apply Dl.p_s_if)
  | (with_reducible apply Dl.p_s_nx)
  | (with_reducible apply Dl.p_s_ret)
  | (with_reducible apply Dl.p_s_asg)
  | (with_reducible apply Dl.p_s_par2)
  | (with_reducible apply Dl.p_s_par3)
  | (with_reducible apply Dl.p_s_aug)
  | (with_reducible apply Dl.p_s_wh)
  | (with_reducible apply Dl.p_s_for)
  | (with_reducible apply Dl.p_for)
  | (with_reducible exact Dl.gfp_nil)
  | (with_reducible apply Dl.gfp_cons)
  | (with_reducible apply Dl.p_if_not)
  | (with_reducible apply Dl.p_if_and)
  | (with_reducible apply Dl.p_if_or)
  | (with_reducible apply Dl.p_if)
  | (with_reducible apply Dl.p_ret)
  | (with_reducible apply Dl.p_asg)
  | (with_reducible exact Dl.p_nx)
  | (with_reducible apply Dl.p_l_aug)
  | walk_at "br"
  | walk_at "lfO")
local macro_rules | `(tactic| walk_at "lfO") => `(tactic| first
  | (with_reducible assumption))
local macro_rules | `(tactic| walk_at "eOE") => `(tactic| first
  | (with_reducible apply Dl.gt_2)
  | (with_reducible apply Dl.gt_3)
  | (with_reducible apply Dl.gt_5)
  | (with_reducible apply Dl.gt_2p)
  | (with_reducible apply Dl.gt_3p)
  | (with_reducible apply Dl.gc_)
  | (with_reducible exact Dl.ge_)
  | (with_reducible exact Dl.gn_0)
  | (with_reducible exact Dl.gn_1)
  | (with_reducible exact Dl.gn_2)
  | (with_reducible exact Dl.gn_3)
  | (with_reducible exact Dl.gn_4)
  | (with_reducible exact Dl.gn_5)
  | (with_reducible exact Dl.gn_6)
  | (with_reducible exact Dl.gn_7)
  | (with_reducible exact Dl.gn_8)
  | (with_reducible exact Dl.gn_9)
  | (with_reducible exact Dl.gn_10)
  | (with_reducible exact Dl.gn_11)
  | (with_reducible exact Dl.gn_12)
  | (with_reducible exact Dl.gn_13)
  | (with_reducible exact Dl.gn_14)
  | (with_reducible exact Dl.gn_15)
  | (with_reducible exact Dl.gn_16)
  | (with_reducible exact Dl.gn_17)
  | (with_reducible exact Dl.gn_18)
  | (with_reducible exact Dl.gn_19)
  | (with_reducible exact Dl.gn_20)
  | (with_reducible exact Dl.gn_21)
  | (with_reducible exact Dl.gn_22)
  | (with_reducible exact Dl.gn_23)
  | (with_reducible exact Dl.gn_24)
  | (with_reducible exact Dl.gn_25)
  | (with_reducible exact Dl.gn_26)
  | (with_reducible exact Dl.gn_27)
  | (with_reducible exact Dl.gn_28)
  | (with_reducible exact Dl.gn_29)
  | (with_reducible exact Dl.gn_30)
  | (with_reducible exact Dl.gn_31)
  | (with_reducible exact Dl.gn_32)
  | (with_reducible exact Dl.gn_33)
  | (with_reducible exact Dl.gn_34)
  | (with_reducible exact Dl.gn_35)
  | (with_reducible exact Dl.gn_36)
  | (with_reducible exact Dl.gn_37)
  | (with_reducible exact Dl.gn_38)
  | (with_reducible exact Dl.gn_39)
  | (with_reducible exact Dl.gn_40)
  | (with_reducible exact Dl.gn_41)
  | (with_reducible exact Dl.gn_42)
  | (with_reducible exact Dl.gn_43)
  | (with_reducible exact Dl.gn_44)
  | (with_reducible exact Dl.gn_45)
  | (with_reducible exact Dl.gn_46)
  | (with_reducible exact Dl.gn_47)
  | walk_at "lfE")
local macro_rules | `(tactic| walk_at "lfE") => `(tactic| first
  | (with_reducible assumption))
local macro_rules | `(tactic| walk_at "eOI") => `(tactic| first
  | (with_reducible apply Dl.p_part)
  | (with_reducible exact Dl.lf_c))
local macro_rules | `(tactic| walk_at "eOP") => `(tactic| first
  | (with_reducible exact Dl.pd_nil)
  | (with_reducible apply Dl.pd_cons)
  | walk_at "lfP")
local macro_rules | `(tactic| walk_at "lfP") => `(tactic| first
  | (with_reducible assumption))
local macro_rules | `(tactic| walk_at "eRD") => `(tactic| first
  | (with_reducible assumption)
  | ((with_reducible refine (?_ : @Eq (Dl.R Dl.D) (Dl.R.ok _ _) _)); exact rfl)
  | ((with_reducible refine (?_ : @Eq (Dl.R Dl.D) (Dl.R.ex _ _) _)); exact rfl)
  | (with_reducible apply Dl.s_lift)
  | (with_reducible apply Dl.s_op)
  | (with_reducible apply Dl.s_opT)
  | (with_reducible apply Dl.s_mk)
  | (with_reducible apply Dl.s_mkT)
  | (with_reducible apply Dl.s_andV)
  | (with_reducible apply Dl.s_orV)
  | (with_reducible apply Dl.s_notV)
  | (with_reducible apply Dl.s_ap)
  | (with_reducible apply Dl.s_ix)
  | (with_reducible apply Dl.s_sl)
  | (with_reducible apply Dl.s_slX)
  | (with_reducible apply Dl.s_m1)
  | (with_reducible apply Dl.s_ch)
  | (with_reducible apply Dl.s_call)
  | (with_reducible apply Dl.s_meth1)
  | (with_reducible apply Dl.s_fld)
  | (with_reducible apply Dl.s_meth)
  | (with_reducible apply Dl.s_get2)
  | (with_reducible apply Dl.s_make)
  | (with_reducible apply Dl.s_alL)
  | (with_reducible apply Dl.s_alC)
  | (with_reducible apply Dl.s_alR)
  | (with_reducible apply Dl.s_dict)
  | (with_reducible apply Dl.s_frz)
  | (with_reducible apply Dl.s_isx)
  | (with_reducible apply Dl.s_xf)
  | (with_reducible exact Dl.s_lam)
  | (with_reducible apply Dl.s_hi)
  | (with_reducible apply Dl.s_if_not)
  | (with_reducible apply Dl.s_if_and)
  | (with_reducible apply Dl.s_if_or)
  | (with_reducible apply Dl.s_if_lnot)
  | (with_reducible apply Dl.s_if_land)
  | (with_reducible apply Dl.s_if_lor)
  | (with_reducible apply Dl.s_if)
  | (with_reducible apply Dl.s_lif)
  | walk_at "br"
  | (with_reducible apply Dl.br_andR)
  | (with_reducible apply Dl.br_orR)
  | walk_at "lfR")
local macro_rules | `(tactic| walk_at "lfR") => `(tactic| first
  | (with_reducible assumption))
local macro_rules | `(tactic| walk_at "eRB") => `(tactic| first
  | (with_reducible assumption)
  | ((with_reducible refine (?_ : @Eq (Dl.R Bool) (Dl.R.ok _ _) _)); exact rfl)
  | (with_reducible apply Dl.s_lift)
  | (with_reducible apply Dl.s_b)
  | (with_reducible apply Dl.s_tru)
  | (with_reducible apply Dl.s_not)
  | (with_reducible apply Dl.s_and)
  | (with_reducible apply Dl.s_or)
  | (with_reducible apply Dl.s_if_not)
  | (with_reducible apply Dl.s_if_and)
  | (with_reducible apply Dl.s_if_or)
  | (with_reducible apply Dl.s_if_lnot)
  | (with_reducible apply Dl.s_if_land)
  | (with_reducible apply Dl.s_if_lor)
  | (with_reducible apply Dl.s_if)
  | walk_at "br"
  | (with_reducible apply Dl.br_andRB)
  | (with_reducible apply Dl.br_orRB))
local macro_rules | `(tactic| walk_at "eRL") => `(tactic| first
  | (with_reducible assumption)
  | ((with_reducible refine (?_ : @Eq (Dl.R (List Dl.D)) (Dl.R.ok _ _) _)); exact rfl)
  | (with_reducible apply Dl.s_lift)
  | (with_reducible apply Dl.s_cons)
  | (with_reducible exact Dl.s_nil)
  | (with_reducible apply Dl.s_lc)
  | (with_reducible apply Dl.g_st)
  | (with_reducible exact Dl.c_nil)
  | (with_reducible apply Dl.c_cons)
  | walk_at "lfRL")
local macro_rules | `(tactic| walk_at "lfRL") => `(tactic| first
  | (with_reducible assumption))
local macro_rules | `(tactic| walk_at "eRO") => `(tactic| first
  | (with_reducible assumption)
  | ((with_reducible refine (?_ : @Eq (Dl.R Dl.Out) (Dl.R.ok _ _) _)); exact rfl)
  | ((with_reducible apply Dl.s_s_expex); (repeat' walk_at "e1"); done)
  | ((with_reducible apply Dl.s_s_retex); (repeat' walk_at "e1"); done)
  | ((with_reducible apply Dl.s_s_asgex); (repeat' walk_at "e1"); done)
  | (with_reducible apply Dl.s_s_seq)
  | (with_reducible apply Dl.s_s_lseq)
  | (with_reducible apply Dl.s_s_if)
  | (with_reducible apply Dl.s_s_lif)
  | (with_reducible apply Dl.s_s_nx)
  | (with_reducible apply Dl.s_s_lnx)
  | (with_reducible apply Dl.s_s_ret)
  | (with_reducible apply Dl.s_s_lret)
  | (with_reducible apply Dl.s_s_asg)
  | (with_reducible apply Dl.s_s_lasg)
  | (with_reducible apply Dl.s_s_asgS)
  | (with_reducible apply Dl.s_s_fset)
  | (with_reducible apply Dl.s_s_fadd)
  | (with_reducible apply Dl.s_s_exp)
  | (with_reducible apply Dl.s_s_lexp)
  | (with_reducible exact Dl.s_s_raise)
  | (with_reducible apply Dl.s_s_raise1)
  | (with_reducible apply Dl.s_s_par2)
  | (with_reducible apply Dl.s_s_par3)
  | (with_reducible apply Dl.s_s_lpar2)
  | (with_reducible apply Dl.s_s_lpar3)
  | (with_reducible apply Dl.s_s_aug)
  | (with_reducible apply Dl.s_s_laug)
  | (with_reducible apply Dl.s_s_wh)
  | (with_reducible apply Dl.s_if_not)
  | (with_reducible apply Dl.s_if_and)
  | (with_reducible apply Dl.s_if_or)
  | (with_reducible apply Dl.s_if_lnot)
  | (with_reducible apply Dl.s_if_land)
  | (with_reducible apply Dl.s_if_lor)
  | (with_reducible apply Dl.s_if)
  | ((with_reducible apply Dl.s_s_forex); (repeat' walk_at "e1"); done)
  | ((with_reducible apply Dl.s_s_forrt); (repeat' walk_at "e1"); done)
  | (with_reducible apply Dl.s_s_for)
  | (with_reducible apply Dl.s_for)
  | (with_reducible apply Dl.gf_st)
  | (with_reducible exact Dl.gf_nil)
  | (with_reducible apply Dl.gf_cons)
  | (with_reducible apply Dl.s_l_ret)
  | (with_reducible apply Dl.s_l_asg)
  | (with_reducible apply Dl.s_l_exp)
  | (with_reducible apply Dl.s_l_asgs)
  | (with_reducible apply Dl.s_l_raise)
  | (with_reducible apply Dl.s_l_raise1)
  | (with_reducible apply Dl.s_l_par2)
  | (with_reducible apply Dl.s_l_fldset)
  | (with_reducible apply Dl.s_l_fldadd)
  | (with_reducible apply Dl.s_l_lret)
  | (with_reducible apply Dl.s_l_lasg)
  | (with_reducible apply Dl.s_l_lnx)
  | (with_reducible apply Dl.s_l_lseq)
  | (with_reducible apply Dl.s_l_lexp)
  | (with_reducible apply Dl.s_fzs)
  | (with_reducible exact Dl.s_nx)
  | (with_reducible apply Dl.s_lif)
  | walk_at "br"
  | walk_at "lfRO")
local macro_rules | `(tactic| walk_at "lfRO") => `(tactic| first
  | (with_reducible assumption))
local macro_rules | `(tactic| walk_at "eRI") => `(tactic| first
  | (with_reducible assumption)
  | (with_reducible apply Dl.its_d)
  | (with_reducible exact Dl.its_ls)
  | (with_reducible apply Dl.s_li)
  | (with_reducible apply Dl.s_it)
  | (with_reducible apply Dl.s_rg)
  | walk_at "lfRI")
local macro_rules | `(tactic| walk_at "lfRI") => `(tactic| first
  | (with_reducible assumption))
local macro_rules | `(tactic| walk_at "eRE") => `(tactic| first
  | (with_reducible apply Dl.s_gsx)
  | (with_reducible apply Dl.s_gsf)
  | (with_reducible apply Dl.s_gL)
  | (with_reducible apply Dl.s_gST2)
  | (with_reducible apply Dl.s_gST3)
  | (with_reducible apply Dl.s_gST6)
  | (with_reducible apply Dl.s_gSTp2)
  | (with_reducible apply Dl.s_gSTp3)
  | (with_reducible apply Dl.s_gSTp6)
  | (with_reducible apply Dl.s_gSC)
  | (with_reducible exact Dl.s_gSE)
  | walk_at "lfRE")
local macro_rules | `(tactic| walk_at "lfRE") => `(tactic| first
  | (with_reducible assumption))
local macro_rules | `(tactic| walk_at "eEn") => `(tactic| first
  | (with_reducible exact Dl.w_nil)
  | (with_reducible apply Dl.w_cons)
  | (with_reducible exact Dl.st_0)
  | (with_reducible exact Dl.st_1)
  | (with_reducible exact Dl.st_2)
  | (with_reducible exact Dl.st_3)
  | (with_reducible exact Dl.st_4)
  | (with_reducible exact Dl.st_5)
  | (with_reducible exact Dl.st_6)
  | (with_reducible exact Dl.st_7)
  | (with_reducible exact Dl.st_8)
  | (with_reducible exact Dl.st_9)
  | (with_reducible exact Dl.st_10)
  | (with_reducible exact Dl.st_11)
  | (with_reducible exact Dl.st_12)
  | (with_reducible exact Dl.st_13)
  | (with_reducible exact Dl.st_14)
  | (with_reducible exact Dl.st_15)
  | (with_reducible exact Dl.st_16)
  | (with_reducible exact Dl.st_17)
  | (with_reducible exact Dl.st_18)
  | (with_reducible exact Dl.st_19)
  | (with_reducible exact Dl.st_20)
  | (with_reducible exact Dl.st_21)
  | (with_reducible exact Dl.st_22)
  | (with_reducible exact Dl.st_23)
  | (with_reducible exact Dl.st_24)
  | (with_reducible exact Dl.st_25)
  | (with_reducible exact Dl.st_26)
  | (with_reducible exact Dl.st_27)
  | (with_reducible exact Dl.st_28)
  | (with_reducible exact Dl.st_29)
  | (with_reducible exact Dl.st_30)
  | (with_reducible exact Dl.st_31)
  | (with_reducible exact Dl.st_32)
  | (with_reducible exact Dl.st_33)
  | (with_reducible exact Dl.st_34)
  | (with_reducible exact Dl.st_35)
  | (with_reducible exact Dl.st_36)
  | (with_reducible exact Dl.st_37)
  | (with_reducible exact Dl.st_38)
  | (with_reducible exact Dl.st_39)
  | (with_reducible exact Dl.st_40)
  | (with_reducible exact Dl.st_41)
  | (with_reducible exact Dl.st_42)
  | (with_reducible exact Dl.st_43)
  | (with_reducible exact Dl.st_44)
  | (with_reducible exact Dl.st_45)
  | (with_reducible exact Dl.st_46)
  | (with_reducible exact Dl.st_47))
local macro_rules | `(tactic| walk_at "e1") => `(tactic| first
  | ((with_reducible refine (?_ : @Eq (Dl.D) _ _)); walk_at "eD")
  | ((with_reducible refine (?_ : @Eq (Option Dl.D) _ _)); walk_at "eOD")
  | ((with_reducible refine (?_ : @Eq (Option Bool) _ _)); walk_at "eOB")
  | ((with_reducible refine (?_ : @Eq (Option (List Dl.D)) _ _)); walk_at "eOL")
  | ((with_reducible refine (?_ : @Eq (Dl.R Dl.D) _ _)); walk_at "eRD")
  | ((with_reducible refine (?_ : @Eq (Dl.R Dl.Out) _ _)); walk_at "eRO")
  | ((with_reducible refine (?_ : @Eq (Option Dl.Out) _ _)); walk_at "eOO")
  | ((with_reducible refine (?_ : @Eq (Dl.R Bool) _ _)); walk_at "eRB")
  | ((with_reducible refine (?_ : @Eq (Dl.R (List Dl.D)) _ _)); walk_at "eRL")
  | ((with_reducible refine (?_ : @Eq (Option Dl.Env) _ _)); walk_at "eOE")
  | ((with_reducible refine (?_ : @Eq (Option (List PySem.PyData)) _ _)); walk_at "eOP")
  | ((with_reducible refine (?_ : @Eq (Option (Option Int)) _ _)); walk_at "eOI")
  | ((with_reducible refine (?_ : @Eq (Dl.R Dl.Itb) _ _)); walk_at "eRI")
  | ((with_reducible refine (?_ : @Eq (Dl.R Dl.Env) _ _)); walk_at "eRE")
  | ((with_reducible refine (?_ : @Eq (Dl.Env) _ _)); walk_at "eEn")
  | walk_at "lfX")
local macro_rules | `(tactic| walk_at "lfX") => `(tactic| first
  | (with_reducible assumption)
  | ((with_reducible refine (?_ : @Eq Nat (List.length _) (List.length _))); exact rfl)
  | (simp only [List.length_map, List.length_cons, List.length_nil, List.length_range]; omega))
local macro_rules | `(tactic| walk_at "ev") => `(tactic| first
  | (repeat' walk_at "e1"))
local macro_rules | `(tactic| walk_at "evd") => `(tactic| first
  | ((repeat' walk_at "e1"); first | done | (focus fail "stuck")))
local macro_rules | `(tactic| walk_at "lf") => `(tactic| first
  | (with_reducible exact My.feq_re _ _)
  | (with_reducible exact My.fne_re _ _)
  | (with_reducible exact My.feq_re_feeds _)
  | (with_reducible exact My.fne_re_feeds _)
  | (with_reducible exact My.feq_re_used _)
  | (with_reducible exact My.fne_re_used _)
  | (with_reducible exact My.feq_re_same _)
  | (with_reducible exact My.fne_re_same _)
  | (with_reducible exact My.feq_re_cells _)
  | (with_reducible exact My.fne_re_cells _)
  | (with_reducible exact My.feq_re_memory _)
  | (with_reducible exact My.fne_re_memory _)
  | (with_reducible exact My.feq_re_shows _)
  | (with_reducible exact My.fne_re_shows _)
  | (with_reducible exact My.feq_re_jump _)
  | (with_reducible exact My.fne_re_jump _)
  | (with_reducible exact My.feq_re_any _)
  | (with_reducible exact My.fne_re_any _)
  | (with_reducible exact My.feq_ki _ _)
  | (with_reducible exact My.fne_ki _ _)
  | (with_reducible exact My.feq_ki_set _)
  | (with_reducible exact My.fne_ki_set _)
  | (with_reducible exact My.feq_ki_sum _)
  | (with_reducible exact My.fne_ki_sum _)
  | (with_reducible exact My.feq_ki_get _)
  | (with_reducible exact My.fne_ki_get _)
  | (with_reducible exact My.feq_ki_put _)
  | (with_reducible exact My.fne_ki_put _)
  | (with_reducible exact My.feq_ki_if_ _)
  | (with_reducible exact My.fne_ki_if_ _)
  | (with_reducible exact My.feq_ki_show_ _)
  | (with_reducible exact My.fne_ki_show_ _)
  | (with_reducible exact My.feq_ev _ _)
  | (with_reducible exact My.fne_ev _ _)
  | (with_reducible exact My.feq_ev_lay _)
  | (with_reducible exact My.fne_ev_lay _)
  | (with_reducible exact My.feq_ev_read _)
  | (with_reducible exact My.fne_ev_read _)
  | (with_reducible exact My.feq_ev_make _)
  | (with_reducible exact My.fne_ev_make _)
  | (with_reducible exact My.feq_ev_write _)
  | (with_reducible exact My.fne_ev_write _)
  | (with_reducible exact My.feq_ev_out _)
  | (with_reducible exact My.fne_ev_out _)
  | (with_reducible exact My.in_kinds _)
  | (with_reducible exact My.in_kinds_n _)
  | (with_reducible exact My.in_wri _)
  | (with_reducible exact My.in_wri_n _)
  | (with_reducible exact My.in_wriL _)
  | (with_reducible exact My.in_wriL_n _)
  | (with_reducible exact My.in_gpL _)
  | (with_reducible exact My.in_gpL_n _)
  | (with_reducible exact My.in_gpT _)
  | (with_reducible exact My.in_gpT_n _)
  | (with_reducible exact My.in_rel _)
  | (with_reducible exact My.in_rel_n _)
  | (with_reducible exact My.in_evs _)
  | (with_reducible exact My.in_evs_n _)
  | (with_reducible exact My.in_hoe _)
  | (with_reducible exact My.in_ho _)
  | (with_reducible exact My.in_ho_n _)
  | (with_reducible exact My.isi_i _)
  | (with_reducible exact My.isi_s _)
  | (with_reducible exact My.isi_t _)
  | (with_reducible exact My.isi_b _)
  | (with_reducible exact My.isi_ib _)
  | (with_reducible exact My.ix_e0 _)
  | (with_reducible exact My.ix_e1 _)
  | (with_reducible exact My.ix_e2 _)
  | (with_reducible exact My.ix_e3 _)
  | (with_reducible exact My.ix_e4 _)
  | (with_reducible exact My.ix_d0 _)
  | (with_reducible exact My.ix_d1 _)
  | (with_reducible exact My.ix_d2 _)
  | (with_reducible exact My.ix_d3 _)
  | (with_reducible exact My.ix_d4 _)
  | (with_reducible exact My.ix_h0 _)
  | (with_reducible exact My.ix_h1 _)
  | (with_reducible exact My.ix_h2 _)
  | (with_reducible exact My.isi_e _)
  | (with_reducible exact My.sl_d4 _)
  | (with_reducible exact My.sl_e3 _)
  | (with_reducible exact My.sl_e13 _)
  | (with_reducible exact My.len_e _)
  | (with_reducible exact My.len_d _)
  | (with_reducible exact My.isi_d _))
local macro_rules | `(tactic| walk_at "lfL") => `(tactic| with_reducible exact My.it_H _)
namespace My
open PySem L2 Dl
theorem eqv_enc (s e : En) : PyData.eqv (enc s) (enc e) = decide (s = e) := by
  refine @Hush.hu _ (by
  obtain ⟨r, a, b, p, q⟩ := s
  obtain ⟨r', a', b', p', q'⟩ := e
  show (PyData.eqv (.str r.s) (.str r'.s) && (PyData.eqv (.str a.s) (.str a'.s) && (PyData.eqv (.str b.s) (.str b'.s) && (PyData.eqv (.str p.s) (.str p'.s) && (PyData.eqv (.str q.s) (.str q'.s) && true))))) = _
  rw [eqv_re, eqv_ki, eqv_ki, eqv_ev, eqv_ev, Bool.and_true]
  simp [En.mk.injEq]) ?_
  walk_at "hu"
theorem re_inj {x y : Re} (h : x.s = y.s) : x = y := by
  refine @Hush.hu _ (by
  have := eqv_re x y
  rw [h, eqv_re y y, decide_eq_true rfl] at this
  exact of_decide_eq_true this.symm) ?_
  walk_at "hu"
theorem ki_inj {x y : Ki} (h : x.s = y.s) : x = y := by
  refine @Hush.hu _ (by
  have := eqv_ki x y
  rw [h, eqv_ki y y, decide_eq_true rfl] at this
  exact of_decide_eq_true this.symm) ?_
  walk_at "hu"
theorem ev_inj {x y : Ev} (h : x.s = y.s) : x = y := by
  refine @Hush.hu _ (by
  have := eqv_ev x y
  rw [h, eqv_ev y y, decide_eq_true rfl] at this
  exact of_decide_eq_true this.symm) ?_
  walk_at "hu"
def encK (e : En) : List Key := [.inr e.r.s, .inr e.a.s, .inr e.b.s, .inr e.p.s, .inr e.q.s]
theorem encK_inj {x y : En} (h : encK x = encK y) : x = y := by
  refine @Hush.hu _ (by
  obtain ⟨r, a, b, p, q⟩ := x
  obtain ⟨r', a', b', p', q'⟩ := y
  unfold encK at h
  simp only [List.cons.injEq, Sum.inr.injEq, and_true] at h
  obtain ⟨h1, h2, h3, h4, h5⟩ := h
  rw [re_inj h1, ki_inj h2, ki_inj h3, ev_inj h4, ev_inj h5]) ?_
  walk_at "hu"
def addE (U : List En) (e : En) : List En := if e ∈ U then U else U ++ [e]
structure Drw (U : List En) (n : Nat) : Prop where
  nd : U.Nodup
  ent : ∀ e ∈ U, e.p ≠ .lay
  len : U.length ≤ n
theorem Drw.add {U : List En} {n : Nat} (h : Drw U n) {e : En} (he : e.p ≠ .lay) : Drw (addE U e) (n + 1) := by
  refine @Hush.hu _ (by
  unfold addE
  by_cases c : e ∈ U
  · rw [if_pos c]; exact ⟨h.nd, h.ent, Nat.le_succ_of_le h.len⟩
  · rw [if_neg c]
    refine ⟨List.nodup_append.mpr ⟨h.nd, List.pairwise_singleton _ _, fun x hx y hy => ?_⟩, fun x hx => ?_, by rw [List.length_append]; have := h.len; show U.length + 1 ≤ n + 1; omega⟩
    · rw [List.mem_singleton] at hy
      subst hy
      exact fun e => c (e ▸ hx)
    · rcases List.mem_append.mp hx with hx | hx
      · exact h.ent x hx
      · rw [List.mem_singleton] at hx; subst hx; exact he) ?_
  walk_at "hu"
def ltE (a b : En) : Bool := ltT (enc a) (enc b)
theorem lt_enc (a b : En) : fLt (.d (enc a)) (.d (enc b)) = some (.d (.bool (ltE a b))) := rfl
structure Tab (T : List En) : Prop where
  len : T.length ≤ 90000
  ent : ∀ e ∈ T, e.p ≠ .lay
  asc : ∀ (k : Nat) (a b : En), T[k]? = some a → T[k + 1]? = some b → ltE a b = true
theorem dec_list {U : List En} : ∀ {l : List PyData}, (∀ x ∈ l, ∃ e ∈ U, enc e = x) → ∃ T : List En, T.map enc = l ∧ ∀ e ∈ T, e ∈ U
  | [], _ => ⟨[], rfl, fun e h => nomatch h⟩
  | x :: r, h => by
    obtain ⟨e, he, rfl⟩ := h x List.mem_cons_self
    obtain ⟨T, h1, h2⟩ := dec_list (l := r) fun y hy => h y (List.mem_cons_of_mem _ hy)
    refine ⟨e :: T, by rw [List.map_cons, h1], fun z hz => ?_⟩
    rcases List.mem_cons.mp hz with q | hz
    · rw [q]; exact he
    · exact h2 z hz
theorem enc_inj {x y : En} (h : enc x = enc y) : x = y := by
  refine @Hush.hu _ (by
  have := eqv_enc x y
  rw [h, eqv_enc y y, decide_eq_true rfl] at this
  exact of_decide_eq_true this.symm) ?_
  walk_at "hu"
theorem ts_enc (e : En) : TS (enc e) := by
  refine Hush.hu (⟨_, rfl, fun h => nomatch h⟩) ?_
  walk_at "hu"
theorem sort_tab {U : List En} {n : Nat} (h : Drw U n) (hn : n ≤ 90000) : ∃ T : List En, isort (U.map enc) = T.map enc ∧ Tab T ∧ ∀ e, e ∈ T ↔ e ∈ U := by
  refine @Hush.hu _ (by
  have pm := isort_perm (U.map enc)
  obtain ⟨T, h1, h2⟩ := dec_list (U := U) (l := isort (U.map enc)) fun x hx => by
    obtain ⟨e, he, q⟩ := List.mem_map.mp (pm.mem_iff.mp hx)
    exact ⟨e, he, q⟩
  refine ⟨T, h1.symm, ⟨?_, fun e he => h.ent e (h2 e he), fun k a b ha hb => ?_⟩, fun e => ⟨h2 e, fun he => ?_⟩⟩
  · have := pm.length_eq
    rw [← h1, List.length_map, List.length_map] at this
    have := h.len
    omega
  · have nd : (isort (U.map enc)).Nodup := pm.nodup_iff.mpr (by
      have : U.Nodup := h.nd
      exact List.Pairwise.map enc (fun x y hxy e => hxy (enc_inj e)) this)
    have asc := isort_asc (U.map enc)
    rw [← h1] at asc nd
    have i1 : (T.map enc)[k]? = some (enc a) := by rw [List.getElem?_map, ha]; rfl
    have i2 : (T.map enc)[k + 1]? = some (enc b) := by rw [List.getElem?_map, hb]; rfl
    obtain ⟨l1, g1⟩ := List.getElem?_eq_some_iff.mp i1
    obtain ⟨l2, g2⟩ := List.getElem?_eq_some_iff.mp i2
    have q1 := List.pairwise_iff_getElem.mp asc k (k + 1) l1 l2 (Nat.lt_succ_self k)
    have q2 := List.pairwise_iff_getElem.mp nd k (k + 1) l1 l2 (Nat.lt_succ_self k)
    rw [g1, g2] at q1 q2
    unfold ltE
    cases q : ltT (enc a) (enc b) with
    | true => rfl
    | false => exact absurd (ts_anti (ts_enc a) (ts_enc b) q q1) q2
  · have : enc e ∈ T.map enc := by rw [h1]; exact pm.mem_iff.mpr (List.mem_map.mpr ⟨e, he, rfl⟩)
    obtain ⟨x, hx, q⟩ := List.mem_map.mp this
    rw [← enc_inj q]; exact hx) ?_
  walk_at "hu"
def dcT (U : List En) : Tr := .nd (.dct (U.map encK)) (U.map fun _ => .v (.d (.bool true)))
theorem kix_enc (e : En) : ∀ U : List En, (e ∈ U → ∃ j, kix (encK e) (U.map encK) = some j ∧ j < U.length) ∧ (e ∉ U → kix (encK e) (U.map encK) = none)
  | [] => ⟨(fun h => nomatch h), fun _ => rfl⟩
  | x :: r => by
    obtain ⟨a, b⟩ := kix_enc e r
    rw [List.map_cons, kix_cons]
    by_cases c : x = e
    · subst c
      rw [if_pos rfl]
      exact ⟨fun _ => ⟨0, rfl, Nat.succ_pos _⟩, fun h => absurd List.mem_cons_self h⟩
    · rw [if_neg (fun h => c (encK_inj h))]
      refine ⟨fun h => ?_, fun h => ?_⟩
      · rcases List.mem_cons.mp h with h | h
        · exact absurd h.symm c
        · obtain ⟨j, h1, h2⟩ := a h
          exact ⟨j + 1, by rw [h1]; rfl, Nat.succ_lt_succ h2⟩
      · rw [b (fun z => h (List.mem_cons_of_mem _ z))]; rfl
theorem dkeys_enc (e : En) : dKeys [.str e.r.s, .str e.a.s, .str e.b.s, .str e.p.s, .str e.q.s] = some (encK e) := rfl
theorem set_dc (U : List En) (e : En) (t0 : Ts) (h : U.length < 100000) : setX false (.r t0.length []) (.d (enc e)) (.d (.bool true)) (t0 ++ [some (dcT U)]) = some (t0 ++ [some (dcT (addE U e))]) := by
  refine @Hush.hu _ (by
  have g0 : (t0 ++ [some (dcT U)])[t0.length]? = some (some (dcT U)) := by simp
  have g : getT (t0 ++ [some (dcT U)]) t0.length [] = some (dcT U) := by rw [getT_of g0]; exact get_nil _
  have put : ∀ T : List Tr, ∀ ks : List (List Key), putCh (t0 ++ [some (dcT U)]) t0.length [] (.dct ks) T = some (t0 ++ [some (.nd (.dct ks) T)]) := fun T ks => by
    unfold putCh
    rw [g0]
    show (Tr.put (dcT U) [] (.nd (.dct ks) T)).map _ = _
    rw [put_nil]
    show some ((t0 ++ [some (dcT U)]).set t0.length (some (.nd (.dct ks) T))) = _
    rw [List.set_append_right _ _ (Nat.le_refl _), Nat.sub_self]
    rfl
  unfold setX
  show (match getT (t0 ++ [some (dcT U)]) t0.length [] with | some (.nd .lst ts) => _ | some (.nd (.dic ks) ts) => _ | some (.nd (.dct ks) ts) => _ | _ => none) = _
  rw [g]
  show (if (U.map fun _ => Tr.v (.d (.bool true))).length < 100000 then (dKeys [.str e.r.s, .str e.a.s, .str e.b.s, .str e.p.s, .str e.q.s]).bind _ else none) = _
  rw [if_pos (by rw [List.length_map]; exact h), dkeys_enc]
  show (match kix (encK e) (U.map encK) with | some j => _ | none => _) = _
  by_cases c : e ∈ U
  · obtain ⟨j, h1, h2⟩ := (kix_enc e U).1 c
    rw [h1]
    show stc _ _ _ (.dct (U.map encK)) (U.map fun _ => Tr.v (.d (.bool true))) j false (.d (.bool true)) = _
    unfold stc
    have hj : (U.map fun _ => Tr.v (.d (.bool true)))[j]? = some (.v (.d (.bool true))) := by rw [List.getElem?_map, List.getElem?_eq_getElem h2]; rfl
    rw [hj, if_neg (by decide), if_neg (by decide), if_pos (by rfl), put]
    unfold addE
    rw [if_pos c]
    unfold setA
    rw [if_pos (by rw [List.length_map]; exact h2)]
    have : (U.map fun _ => Tr.v (.d (.bool true))).set j (.v (.d (.bool true))) = U.map fun _ => Tr.v (.d (.bool true)) := by
      apply List.ext_getElem?
      intro i
      by_cases q : i = j
      · subst q; rw [List.getElem?_set_self (by rw [List.length_map]; exact h2), hj]
      · rw [List.getElem?_set_ne (Ne.symm q)]
    rw [this]
    rfl
  · rw [(kix_enc e U).2 c]
    show stc _ _ _ (.dct (U.map encK ++ [encK e])) (U.map fun _ => Tr.v (.d (.bool true))) (U.map fun _ => Tr.v (.d (.bool true))).length false (.d (.bool true)) = _
    unfold stc
    rw [List.getElem?_eq_none (Nat.le_refl _), if_neg (by decide), if_neg (by decide), if_pos (by rfl), put]
    unfold addE setA
    rw [if_neg c, if_neg (Nat.lt_irrefl _)]
    unfold dcT
    rw [List.map_append, List.map_append]
    rfl) ?_
  walk_at "hu"
theorem keysT (U : List En) : (U.map encK).map (fun k => PyData.tuple (k.map keyD)) = U.map enc := by
  refine @Hush.hu _ (by rw [List.map_map]; rfl) ?_
  walk_at "hu"
theorem lst_dc (U : List En) (t0 : Ts) : cLstT [.r t0.length []] (t0 ++ [some (dcT U)]) = some (.d (.list (U.map enc))) := by
  refine @Hush.hu _ (by
  have g0 : (t0 ++ [some (dcT U)])[t0.length]? = some (some (dcT U)) := by simp
  have g : getT (t0 ++ [some (dcT U)]) t0.length [] = some (dcT U) := by rw [getT_of g0]; exact get_nil _
  unfold cLstT
  show (match getT (t0 ++ [some (dcT U)]) t0.length [] with | some (.nd .lst ts) => _ | some (.nd (.dct ks) _) => _ | _ => none) = _
  rw [g, ← keysT]
  rfl) ?_
  walk_at "hu"
theorem prB_map : ∀ L : List En, prB (L.map fun e => .tuple [enc e, .bool true]) = some (L.map fun e => (encK e, true))
  | [] => rfl
  | e :: r => by
    show (dKeys _).bind (fun ks => (prB (r.map fun e => .tuple [enc e, .bool true])).map ((ks, true) :: ·)) = _
    rw [prB_map r]
    rfl
def kvB (U : List En) : List (List Key × Bool) := U.map fun e => (encK e, true)
theorem put_kvB (U : List En) (e : En) : putB (kvB U) (encK e) true = kvB (addE U e) := by
  refine @Hush.hu _ (by
  have h1 : ((kvB U).any fun kv => decide (kv.1 = encK e)) = decide (e ∈ U) := by
    unfold kvB
    rw [List.any_map]
    induction U with
    | nil => rfl
    | cons x r ih =>
      rw [List.any_cons, ih]
      by_cases c : x = e
      · subst c; simp
      · have : encK x ≠ encK e := fun h => c (encK_inj h)
        have c' : e ≠ x := fun h => c h.symm
        simp [this, c']
  unfold putB addE
  rw [h1]
  by_cases c : e ∈ U
  · rw [if_pos (decide_eq_true c), if_pos c]
    unfold kvB
    rw [List.map_map]
    refine List.map_congr_left fun x hx => ?_
    show (if encK x = encK e then (encK x, true) else (encK x, true)) = (encK x, true)
    by_cases c2 : encK x = encK e <;> simp [c2]
  · rw [if_neg (by simpa using c), if_neg c]
    unfold kvB
    rw [List.map_append]
    rfl) ?_
  walk_at "hu"
theorem mem_addE {U : List En} {e x : En} : x ∈ addE U e ↔ x ∈ U ∨ x = e := by
  refine @Hush.hu _ (by
  unfold addE
  by_cases c : e ∈ U
  · rw [if_pos c]
    refine ⟨.inl, fun h => h.elim id fun h => h ▸ c⟩
  · rw [if_neg c, List.mem_append, List.mem_singleton]) ?_
  walk_at "hu"
theorem merge_kvB : ∀ (L : List En) (U : List En) (n : Nat), Drw U n → (∀ e ∈ L, e.p ≠ .lay) → ∃ U', (kvB L).foldl (fun acc p => putB acc p.1 p.2) (kvB U) = kvB U' ∧ Drw U' (n + L.length) ∧ ∀ e, e ∈ U' ↔ e ∈ U ∨ e ∈ L
  | [], U, n, h, _ => ⟨U, rfl, h, fun e => by simp⟩
  | e :: r, U, n, h, hl => by
    obtain ⟨U', e1, h1, h2⟩ := merge_kvB r (addE U e) (n + 1) (h.add (hl e List.mem_cons_self)) fun x hx => hl x (List.mem_cons_of_mem _ hx)
    refine ⟨U', ?_, by rw [List.length_cons, Nat.add_comm r.length 1, ← Nat.add_assoc]; exact h1, fun x => ?_⟩
    · rw [← e1, ← put_kvB]
      rfl
    · rw [h2, mem_addE, List.mem_cons, or_assoc]
theorem new_dc (L : List En) (hl : ∀ e ∈ L, e.p ≠ .lay) (t : Ts) : ∃ U, newDc (.d (.list (L.map fun e => .tuple [enc e, .bool true]))) t = .ok (.r t.length []) (t ++ [some (dcT U)]) ∧ Drw U L.length ∧ ∀ e, e ∈ U ↔ e ∈ L := by
  refine @Hush.hu _ (by
  obtain ⟨U, h1, h2, h3⟩ := merge_kvB L [] 0 ⟨List.nodup_nil, (fun e he => nomatch he), Nat.le_refl _⟩ hl
  refine ⟨U, ?_, by rw [Nat.zero_add] at h2; exact h2, fun e => by rw [h3]; simp⟩
  unfold newDc
  show (match prB (L.map fun e => .tuple [enc e, .bool true]) with | some kvs => _ | none => _) = _
  rw [prB_map]
  show R.ok (D.r t.length []) (t ++ [some (.nd (.dct (((kvB L).foldl (fun acc p => putB acc p.1 p.2) (kvB [])).map (·.1))) (((kvB L).foldl (fun acc p => putB acc p.1 p.2) (kvB [])).map fun p => .v (.d (.bool p.2))))]) = _
  rw [h1]
  unfold kvB dcT
  rw [List.map_map, List.map_map]
  rfl) ?_
  walk_at "hu"
theorem goP_map {α : Type} (en : α → D) {g : D → Dl.Env → Option Dl.Env} {env : Dl.Env} {el : Pm D} (h : α → D) (xs : List α) (H : ∀ x ∈ xs, ∃ e1, g (en x) env = some e1 ∧ el e1 = some (h x)) : goP g env (pC true) el (xs.map en) = some (xs.map h) := by
  refine @Hush.hu _ (by
  rw [goP_fm en (fun _ => true) h xs fun x hx => by
    obtain ⟨e1, h1, h2⟩ := H x hx
    exact ⟨e1, h1, rfl, fun _ => h2⟩]
  rw [List.filter_eq_self.mpr fun _ _ => rfl]) ?_
  walk_at "hu"
theorem all_true {α : Type} (xs : List α) (f : α → Bool) (h : ∀ x ∈ xs, f x = true) : cAll [.d (.list (xs.map fun x => .bool (f x)))] = some (.d (.bool true)) := by
  refine @Hush.hu _ (by
  show (bools _).map _ = _
  rw [bools_map]
  show some (D.d (.bool ((xs.map f).all id))) = _
  congr 3
  rw [List.all_map, List.all_eq_true]
  exact h) ?_
  walk_at "hu"
theorem sort_dc {U : List En} : cSort [.d (.list (U.map enc))] = some (.d (.list (isort (U.map enc)))) := by
  refine @Hush.hu _ (by
  show (if (U.map enc).all tsB = true then some (D.d (.list (isort (U.map enc)))) else none) = _
  rw [if_pos (by rw [List.all_map, List.all_eq_true]; exact fun e _ => rfl)]) ?_
  walk_at "hu"
end My
namespace My
open PySem L2 Dl
def asc (z : Str) : Prop := ∀ c ∈ TL.tl z, c < 128
end My
namespace My
open PySem L2 Dl
def top (i : Nat) : Stmt := PySem.Challenge.pw_windowbelt_k16_whole_frees_refused.main.body.getD i (.Pass ⟨0, 0, 0, 0⟩)
def exl_WindowError : List (Str × Bool) := [("WindowError", true), ("BadState", true), ("BadEntry", true), ("BadDesign", true), ("BadBlock", true), ("NotMade", true)]
abbrev ex_WindowError := exF exl_WindowError
def isl_BadBlock : List (Str × Bool) := [("WindowError", false), ("BadState", false), ("BadEntry", false), ("BadDesign", false), ("BadBlock", true), ("NotMade", false)]
abbrev is_BadBlock := exF isl_BadBlock
def isl_BadDesign : List (Str × Bool) := [("WindowError", false), ("BadState", false), ("BadEntry", false), ("BadDesign", true), ("BadBlock", false), ("NotMade", false)]
abbrev is_BadDesign := exF isl_BadDesign
def isl_BadEntry : List (Str × Bool) := [("WindowError", false), ("BadState", false), ("BadEntry", true), ("BadDesign", false), ("BadBlock", false), ("NotMade", false)]
abbrev is_BadEntry := exF isl_BadEntry
def isl_BadState : List (Str × Bool) := [("WindowError", false), ("BadState", true), ("BadEntry", false), ("BadDesign", false), ("BadBlock", false), ("NotMade", false)]
abbrev is_BadState := exF isl_BadState
def isl_NotMade : List (Str × Bool) := [("WindowError", false), ("BadState", false), ("BadEntry", false), ("BadDesign", false), ("BadBlock", false), ("NotMade", true)]
abbrev is_NotMade := exF isl_NotMade
structure Tp (P : Program) (K : PySem.W.Frag) (mg : Str → Option Value) : Prop where
  n_all : mg "all" = none
  n_any : mg "any" = none
  n_bool : mg "bool" = none
  n_dict : mg "dict" = none
  n_int : mg "int" = none
  n_isinstance : mg "isinstance" = none
  n_len : mg "len" = none
  n_list : mg "list" = none
  n_range : mg "range" = none
  n_sorted : mg "sorted" = none
  n_str : mg "str" = none
  n_tuple : mg "tuple" = none
  c_CELLS : Gc K mg "CELLS" (.d (.int 8))
  c_EVENTS : Gt K mg "EVENTS" ["lay", "read", "make", "write", "out"]
  c_KINDS : Gt K mg "KINDS" ["set", "sum", "get", "put", "if", "show"]
  c_MOST_BLOCK : Gc K mg "MOST_BLOCK" (.d (.int 3))
  c_MOST_INSTRUCTIONS : Gc K mg "MOST_INSTRUCTIONS" (.d (.int 40))
  c_MOST_SHOWN : Gc K mg "MOST_SHOWN" (.d (.int 500))
  c_MOST_WIDTH : Gc K mg "MOST_WIDTH" (.d (.int 4))
  c_REGISTERS : Gc K mg "REGISTERS" (.d (.int 8))
  c_RELATIONS : Gt K mg "RELATIONS" ["feeds", "used", "same", "cells", "memory", "shows", "jump", "any"]
  c_STORES : Gc K mg "STORES" (.kt (.tuple [(.tuple [(.str "put"), (.str "get")]), (.tuple [(.str "get"), (.str "put")]), (.tuple [(.str "put"), (.str "put")])]))
  c_WORDS : Gc K mg "WORDS" (.d (.int 256))
  c_WRITING : Gt K mg "WRITING" ["set", "sum", "get"]
  e_BadBlock : Xc K mg "BadBlock"
  e_BadDesign : Xc K mg "BadDesign"
  e_BadEntry : Xc K mg "BadEntry"
  e_BadState : Xc K mg "BadState"
  e_NotMade : Xc K mg "NotMade"
  x_WindowError : ExT K mg "WindowError" ex_WindowError
  is_BadBlock : IsT K mg "BadBlock" is_BadBlock
  is_BadDesign : IsT K mg "BadDesign" is_BadDesign
  is_BadEntry : IsT K mg "BadEntry" is_BadEntry
  is_BadState : IsT K mg "BadState" is_BadState
  is_NotMade : IsT K mg "NotMade" is_NotMade
  f__law_taken : Df K mg "_law_taken" "_law_taken" (top 121) ["_law_row", "_law_many"]
  f__law_pick : Df K mg "_law_pick" "_law_pick" (top 122) ["_law_row", "_law_kinds"]
  f__law_bare : Df K mg "_law_bare" "_law_bare" (top 132) ["_law_row"]
  f__law_entry : Df K mg "_law_entry" "_law_entry" (top 133) ["_law_row"]
  f__law_more : Df K mg "_law_more" "_law_more" (top 134) ["_law_row", "_law_design", "_law_entries", "_law_many"]
  f__law_home : Df K mg "_law_home" "_law_home" (top 126) ["_law_design", "_law_kind"]
  f__law_needs : Df K mg "_law_needs" "_law_needs" (top 127) ["_law_design"]
  f__law_number : Df K mg "_law_number" "_law_number" (top 124) ["_law_event"]
  f__law_store : Df K mg "_law_store" "_law_store" (top 125) ["_law_first", "_law_second"]
  f__law_by_table : Df K mg "_law_by_table" "_law_by_table" (top 129) ["_law_table", "_law_entry_here"]
  f__law_can : Df K mg "_law_can" "_law_can" (top 128) ["_law_entry_here"]
  f__law_forced : Df K mg "_law_forced" "_law_forced" (top 130) ["_law_design", "_law_entry_here"]
  f__law_missing : Df K mg "_law_missing" "_law_missing" (top 131) ["_law_design"]
  f__law_right : Df K mg "_law_right" "_law_right" (top 135) ["_law_row"]
  f_is_list : Df K mg "is_list" "is_list" (top 4) ["value", "least", "most"]
  f_is_kind : Df K mg "is_kind" "is_kind" (top 36) ["value"]
  f_is_event : Df K mg "is_event" "is_event" (top 35) ["value"]
  f_is_entry : Df K mg "is_entry" "is_entry" (top 38) ["value"]
  f_is_table : Df K mg "is_table" "is_table" (top 41) ["value"]
  f_is_integer : Df K mg "is_integer" "is_integer" (top 2) ["value"]
  f_is_in : Df K mg "is_in" "is_in" (top 3) ["value", "least", "most"]
  f_is_design : Df K mg "is_design" "is_design" (top 42) ["value"]
  f_need_design : Df K mg "need_design" "need_design" (top 43) ["design"]
  f_home_in : Df K mg "home_in" "home_in" (top 44) ["design", "kind"]
  f_needs_in : Df K mg "needs_in" "needs_in" (top 66) ["design"]
  f_number_of : Df K mg "number_of" "number_of" (top 37) ["event"]
  f_holds_always : Df K mg "holds_always" "holds_always" (top 67) ["relation", "first", "second"]
  f_forces : Df K mg "forces" "forces" (top 68) ["strong", "weak"]
  f_forced_by_table : Df K mg "forced_by_table" "forced_by_table" (top 69) ["design", "entry"]
  f_can_hold : Df K mg "can_hold" "can_hold" (top 40) ["entry"]
  f_forced_in : Df K mg "forced_in" "forced_in" (top 70) ["design", "entry"]
  f_missing_in : Df K mg "missing_in" "missing_in" (top 71) ["design"]
  f_is_right : Df K mg "is_right" "is_right" (top 82) ["design"]
  f__law_wrong : Df K mg "_law_wrong" "_law_wrong" (top 136) ["_law_work"]
  f_need_two : Df K mg "need_two" "need_two" (top 97) ["one", "other"]
  f_barred_row : Df K mg "barred_row" "barred_row" (top 106) ["one", "other"]
  f_lets_by_all : Df K mg "lets_by_all" "lets_by_all" (top 105) ["one", "other"]
  f_freest : Df K mg "freest" "freest" (top 107) ["design"]
  f_unclean : Df K mg "unclean" "unclean" (top 119) ["design"]
  f_need_entry : Df K mg "need_entry" "need_entry" (top 39) ["entry"]
  f_shown : Df K mg "shown" "shown" (top 84) ["design", "need"]
  f_effective_width : Df K mg "effective_width" "effective_width" (top 104) ["design"]
  f_is_word : Df K mg "is_word" "is_word" (top 20) ["value"]
  f_are_words : Df K mg "are_words" "are_words" (top 24) ["value", "least", "most"]
  f_need_state : Df K mg "need_state" "need_state" (top 25) ["state"]
  f_are_registers : Df K mg "are_registers" "are_registers" (top 21) ["values"]
  f_is_instruction_up_to : Df K mg "is_instruction_up_to" "is_instruction_up_to" (top 22) ["value", "most"]
  f_is_instruction : Df K mg "is_instruction" "is_instruction" (top 23) ["value"]
  f_is_block : Df K mg "is_block" "is_block" (top 100) ["value"]
  f_count_rows : Df K mg "count_rows" "count_rows" (top 108) ["design", "block", "state"]
  f_stops_cleanly : Df K mg "stops_cleanly" "stops_cleanly" (top 118) ["design"]
  f_missing : Df K mg "missing" "missing" (top 81) ["design"]
  f_first_shown : Df K mg "first_shown" "first_shown" (top 85) ["design"]
  f_least_table : Df K mg "least_table" "least_table" (top 83) ["design"]
  f__law_state : Df K mg "_law_state" "_law_state" (top 123) ["_law_row"]
section
variable {P : Program} {w : World} {K : PySem.W.Frag} {mg : Str → Option Value} {base : Heap}
def b__law_taken : Sm Out := (sSeq (sIf (sB (sOp (fGt) (sIx (lift (pV 0)) (lift (pC (.d (.int 3))))) (lift (pC (.d (.int 0)))))) (sSeq (sAsg (gN 2) (sOp fMod (sMk cIntT (sCons (sIx (lift (pV 0)) (lift (pC (.d (.int 3))))) (lift pNil))) (lift (pV 1)))) (sSeq (sAsgS (gSX false (lift (pV 0)) (lift (pC (.d (.int 3))))) (sOp fDiv (sIx (lift (pV 0)) (lift (pC (.d (.int 3))))) (lift (pV 1)))) (lift (pRet (pV 2))))) (lift pNx)) (sSeq (sAsgS (gSX false (lift (pV 0)) (lift (pC (.d (.int 1))))) (sOp fAdd (sIx (lift (pV 0)) (lift (pC (.d (.int 1))))) (lift (pC (.d (.int 1)))))) (sSeq (sIf (sB (sOp (fGt) (sIx (lift (pV 0)) (lift (pC (.d (.int 1))))) (sMkT cLenT (sCons (sIx (lift (pV 0)) (lift (pC (.d (.int 0))))) (lift pNil))))) (sSeq (sAsgS (gSX false (lift (pV 0)) (lift (pC (.d (.int 2))))) (sOp fMod (sMk cIntT (sCons (sOp fAdd (sOp fMul (sIx (lift (pV 0)) (lift (pC (.d (.int 2))))) (lift (pC (.d (.int 48271))))) (lift (pC (.d (.int 11))))) (lift pNil))) (lift (pC (.d (.int 2147483647)))))) (sRet (sOp fMod (sMk cIntT (sCons (sOp fDiv (sIx (lift (pV 0)) (lift (pC (.d (.int 2))))) (lift (pC (.d (.int 7))))) (lift pNil))) (lift (pV 1))))) (lift pNx)) (sSeq (sAsg (gN 3) (sIx (sIx (lift (pV 0)) (lift (pC (.d (.int 0))))) (sOp fSub (sIx (lift (pV 0)) (lift (pC (.d (.int 1))))) (lift (pC (.d (.int 1))))))) (sSeq (sAsgS (gSX false (lift (pV 0)) (lift (pC (.d (.int 2))))) (sOp fMod (sMk cIntT (sCons (sOp fAdd (sOp fAdd (sOp fMul (sIx (lift (pV 0)) (lift (pC (.d (.int 2))))) (lift (pC (.d (.int 48271))))) (lift (pV 3))) (lift (pC (.d (.int 11))))) (lift pNil))) (lift (pC (.d (.int 2147483647)))))) (sSeq (sIf (lift (pB (pOp (fGe) (pV 3) (pOp fPow (pC (.d (.int 10))) (pC (.d (.int 18))))))) (sAsgS (gSX false (lift (pV 0)) (lift (pC (.d (.int 3))))) (lift (pOp fDiv (pV 3) (pV 1)))) (lift pNx)) (lift (pRet (pOp fMod (pMk cIntT (pCons (pV 3) pNil)) (pV 1))))))))))
def m__law_taken : List D → Ts → R D := mOfS 4 2 b__law_taken
theorem g__law_taken (T : Tp P K mg) : Gs P w K mg base "_law_taken" 1 2 m__law_taken := by
  refine Hush.hu (gs_of (N := ["_law_row", "_law_many", "_law_found", "_law_cell"]) (ps := ["_law_row", "_law_many"]) T.f__law_taken ⟨rfl, rfl, rfl, by decide +kernel, rfl, by decide +kernel, by decide +kernel⟩ rfl fun f cdv A outer s H E Wf tk I im =>
    (dss_cons (ds_if (dt_cmp (o_gt Wf) (de_ixS Wf (qe_v 0) qe_int) qe_int) (dss_cons (ds_asg (de_op (o_mod Wf) (de_callTy Wf (c_intT Wf) T.n_int b_int (da_cons (de_ixS Wf (qe_v 0) qe_int) qa_nil)) (qe_v 1)) (dg_n Wf 2)) (dss_cons (ds_asgS (de_op (o_div Wf) (de_ixS Wf (qe_v 0) qe_int) (qe_v 1)) (dgS_sub false Wf (qe_v 0) qe_int (sub_pg Wf))) (qss_one (qs_ret (qe_v 2))))) qss_nil) (dss_cons (ds_asgS (de_op (o_add Wf) (de_ixS Wf (qe_v 0) qe_int) qe_int) (dgS_sub false Wf (qe_v 0) qe_int (sub_pg Wf))) (dss_cons (ds_if (dt_cmp (o_gt Wf) (de_ixS Wf (qe_v 0) qe_int) (de_callBT Wf (c_lenT Wf) T.n_len b_len (da_cons (de_ixS Wf (qe_v 0) qe_int) qa_nil))) (dss_cons (ds_asgS (de_op (o_mod Wf) (de_callTy Wf (c_intT Wf) T.n_int b_int (da_cons (de_op (o_add Wf) (de_op (o_mul Wf) (de_ixS Wf (qe_v 0) qe_int) qe_int) qe_int) qa_nil)) qe_int) (dgS_sub false Wf (qe_v 0) qe_int (sub_pg Wf))) (dss_one (ds_ret (de_op (o_mod Wf) (de_callTy Wf (c_intT Wf) T.n_int b_int (da_cons (de_op (o_div Wf) (de_ixS Wf (qe_v 0) qe_int) qe_int) qa_nil)) (qe_v 1))))) qss_nil) (dss_cons (ds_asg (de_ixS Wf (de_ixS Wf (qe_v 0) qe_int) (de_op (o_sub Wf) (de_ixS Wf (qe_v 0) qe_int) qe_int)) (dg_n Wf 3)) (dss_cons (ds_asgS (de_op (o_mod Wf) (de_callTy Wf (c_intT Wf) T.n_int b_int (da_cons (de_op (o_add Wf) (de_op (o_add Wf) (de_op (o_mul Wf) (de_ixS Wf (qe_v 0) qe_int) qe_int) (qe_v 3)) qe_int) qa_nil)) qe_int) (dgS_sub false Wf (qe_v 0) qe_int (sub_pg Wf))) (dss_cons (ds_if (qt_cmp (o_ge Wf) (qe_v 3) (qe_op (o_pow Wf) qe_int qe_int)) (dss_one (ds_asgS (qe_op (o_div Wf) (qe_v 3) (qe_v 1)) (dgS_sub false Wf (qe_v 0) qe_int (sub_pg Wf)))) qss_nil) (qss_one (qs_ret (qe_op (o_mod Wf) (qe_callTy Wf (c_intT Wf) T.n_int b_int (qa_cons (qe_v 3) qa_nil)) (qe_v 1))))))))))) ?_
  walk_at "hu"
def b__law_pick : Sm Out := (sRet (sOp fIx (lift (pV 1)) (sCall m__law_taken (lift (pCons (pV 0) (pCons (pMk cLen (pCons (pV 1) pNil)) pNil))))))
def m__law_pick : List D → Ts → R D := mOfS 2 2 b__law_pick
theorem g__law_pick (T : Tp P K mg) : Gs P w K mg base "_law_pick" 2 2 m__law_pick := by
  refine Hush.hu (gs_of (N := ["_law_row", "_law_kinds"]) (ps := ["_law_row", "_law_kinds"]) T.f__law_pick ⟨rfl, rfl, rfl, by decide +kernel, rfl, by decide +kernel, by decide +kernel⟩ rfl fun f cdv A outer s H E Wf tk I im =>
    (dss_one (ds_ret (de_ix (o_ix Wf) (qe_v 1) (de_callS Wf tk im (g__law_taken T) (by decide) (qa_cons (qe_v 0) (qa_cons (qe_callB Wf (c_len Wf) T.n_len b_len (qa_cons (qe_v 1) qa_nil)) qa_nil))))))) ?_
  walk_at "hu"
abbrev l__law_bare_0 : Sm D := (sCall m__law_pick (lift (pCons (pV 0) (pCons (pMk mLst (pCons (pC (.d (.str "write"))) (pCons (pC (.d (.str "out"))) pNil))) pNil))))
def b__law_bare : Sm Out := (sSeq (sAsg (gN 1) (sMk cTup (sCons (sMk mLst (sLc (gN 2) [2] (liftI (pRg mR1 (pCons (pC (.d (.int 3))) pNil))) (lift (pC true)) l__law_bare_0)) (lift pNil)))) (sSeq (sIf (sB (sOp (fEq) (sCall m__law_taken (lift (pCons (pV 0) (pCons (pC (.d (.int 4))) pNil)))) (lift (pC (.d (.int 0)))))) (lift (pAsg (gN 1) (pMk mTup (pCons (pC (.d (.str "out"))) (pCons (pC (.d (.str "out"))) (pCons (pC (.d (.str "out"))) pNil)))))) (lift pNx)) (sRet (sMk mTup (sCons (sOp fAdd (lift (pC (.d (.int 1)))) (sCall m__law_pick (lift (pCons (pV 0) (pCons (pMk mLst (pCons (pC (.d (.int 0))) (pCons (pC (.d (.int 1))) (pCons (pC (.d (.int 2))) (pCons (pC (.d (.int 3))) (pCons (pC (.d (.int 3))) pNil)))))) pNil))))) (sCons (sOp (fEq) (sCall m__law_taken (lift (pCons (pV 0) (pCons (pC (.d (.int 2))) pNil)))) (lift (pC (.d (.int 0))))) (sCons (sOp (fEq) (sCall m__law_taken (lift (pCons (pV 0) (pCons (pC (.d (.int 2))) pNil)))) (lift (pC (.d (.int 0))))) (lift (pCons (pV 1) (pCons (pMk mTup pNil) pNil))))))))))
def m__law_bare : List D → Ts → R D := mOfS 3 1 b__law_bare
theorem g__law_bare (T : Tp P K mg) : Gs P w K mg base "_law_bare" 3 1 m__law_bare := by
  refine Hush.hu (gs_of (N := ["_law_row", "_law_homes", "_law_turn"]) (ps := ["_law_row"]) T.f__law_bare ⟨rfl, rfl, rfl, by decide +kernel, rfl, by decide +kernel, by decide +kernel⟩ rfl fun f cdv A outer s H E Wf tk I im =>
    (dss_cons (ds_asg (de_callTy Wf (c_tup Wf) T.n_tuple b_tuple (da_cons (de_lc [("_law_turn", 2)] Wf (fun _ => blkOk_by (by kernel_rfl)) (qi_r1 Wf T.n_range (qa_cons qe_int qa_nil)) (dgv_name (Wf.blk _) 2 (by decide)) qts_nil (de_callS (Wf.blk _) (fun _ => takes_f) im (g__law_pick T) (by decide) (qa_cons (qe_v 0) (qa_cons (qe_lst (qa_cons qe_str (qa_cons qe_str qa_nil))) qa_nil)))) qa_nil)) (dg_n Wf 1)) (dss_cons (ds_if (dt_cmp (o_eq Wf) (de_callS Wf tk im (g__law_taken T) (by decide) (qa_cons (qe_v 0) (qa_cons qe_int qa_nil))) qe_int) (qss_one (qs_asg (qe_tup (qa_cons qe_str (qa_cons qe_str (qa_cons qe_str qa_nil)))) (dg_n Wf 1))) qss_nil) (dss_one (ds_ret (de_tup (da_cons (de_op (o_add Wf) qe_int (de_callS Wf tk im (g__law_pick T) (by decide) (qa_cons (qe_v 0) (qa_cons (qe_lst (qa_cons qe_int (qa_cons qe_int (qa_cons qe_int (qa_cons qe_int (qa_cons qe_int qa_nil)))))) qa_nil)))) (da_cons (de_cmp (o_eq Wf) (de_callS Wf tk im (g__law_taken T) (by decide) (qa_cons (qe_v 0) (qa_cons qe_int qa_nil))) qe_int) (da_cons (de_cmp (o_eq Wf) (de_callS Wf tk im (g__law_taken T) (by decide) (qa_cons (qe_v 0) (qa_cons qe_int qa_nil))) qe_int) (qa_cons (qe_v 1) (qa_cons (qe_tup qa_nil) qa_nil))))))))))) ?_
  walk_at "hu"
def b__law_entry : Sm Out := (sSeq (lift (pAsg (gN 1) (pMk mLst (pCons (pC (.d (.str "set"))) (pCons (pC (.d (.str "sum"))) (pCons (pC (.d (.str "get"))) (pCons (pC (.d (.str "put"))) (pCons (pC (.d (.str "if"))) (pCons (pC (.d (.str "show"))) pNil))))))))) (sSeq (sAsg (gN 2) (sCall m__law_pick (lift (pCons (pV 0) (pCons (pMk mLst (pCons (pC (.d (.str "feeds"))) (pCons (pC (.d (.str "used"))) (pCons (pC (.d (.str "same"))) (pCons (pC (.d (.str "cells"))) (pCons (pC (.d (.str "memory"))) (pCons (pC (.d (.str "shows"))) (pCons (pC (.d (.str "jump"))) (pCons (pC (.d (.str "any"))) (pCons (pC (.d (.str "any"))) pNil)))))))))) pNil))))) (sSeq (sAsg (gN 3) (sCall m__law_pick (lift (pCons (pV 0) (pCons (pMk mLst (pCons (pC (.d (.str "read"))) (pCons (pC (.d (.str "make"))) (pCons (pC (.d (.str "write"))) (pCons (pC (.d (.str "out"))) pNil))))) pNil))))) (sRet (sMk mTup (sCons (lift (pV 2)) (sCons (sCall m__law_pick (lift (pCons (pV 0) (pCons (pV 1) pNil)))) (sCons (sCall m__law_pick (lift (pCons (pV 0) (pCons (pV 1) pNil)))) (sCons (lift (pV 3)) (sCons (sCall m__law_pick (lift (pCons (pV 0) (pCons (pMk mLst (pCons (pC (.d (.str "lay"))) (pCons (pC (.d (.str "read"))) (pCons (pC (.d (.str "make"))) (pCons (pC (.d (.str "write"))) (pCons (pC (.d (.str "out"))) pNil)))))) pNil)))) (lift pNil)))))))))))
def m__law_entry : List D → Ts → R D := mOfS 4 1 b__law_entry
theorem g__law_entry (T : Tp P K mg) : Gs P w K mg base "_law_entry" 3 1 m__law_entry := by
  refine Hush.hu (gs_of (N := ["_law_row", "_law_kinds", "_law_relation", "_law_p"]) (ps := ["_law_row"]) T.f__law_entry ⟨rfl, rfl, rfl, by decide +kernel, rfl, by decide +kernel, by decide +kernel⟩ rfl fun f cdv A outer s H E Wf tk I im =>
    (dss_cons (qs_asg (qe_lst (qa_cons qe_str (qa_cons qe_str (qa_cons qe_str (qa_cons qe_str (qa_cons qe_str (qa_cons qe_str qa_nil))))))) (dg_n Wf 1)) (dss_cons (ds_asg (de_callS Wf tk im (g__law_pick T) (by decide) (qa_cons (qe_v 0) (qa_cons (qe_lst (qa_cons qe_str (qa_cons qe_str (qa_cons qe_str (qa_cons qe_str (qa_cons qe_str (qa_cons qe_str (qa_cons qe_str (qa_cons qe_str (qa_cons qe_str qa_nil)))))))))) qa_nil))) (dg_n Wf 2)) (dss_cons (ds_asg (de_callS Wf tk im (g__law_pick T) (by decide) (qa_cons (qe_v 0) (qa_cons (qe_lst (qa_cons qe_str (qa_cons qe_str (qa_cons qe_str (qa_cons qe_str qa_nil))))) qa_nil))) (dg_n Wf 3)) (dss_one (ds_ret (de_tup (da_cons (qe_v 2) (da_cons (de_callS Wf tk im (g__law_pick T) (by decide) (qa_cons (qe_v 0) (qa_cons (qe_v 1) qa_nil))) (da_cons (de_callS Wf tk im (g__law_pick T) (by decide) (qa_cons (qe_v 0) (qa_cons (qe_v 1) qa_nil))) (da_cons (qe_v 3) (da_cons (de_callS Wf tk im (g__law_pick T) (by decide) (qa_cons (qe_v 0) (qa_cons (qe_lst (qa_cons qe_str (qa_cons qe_str (qa_cons qe_str (qa_cons qe_str (qa_cons qe_str qa_nil)))))) qa_nil))) qa_nil)))))))))))) ?_
  walk_at "hu"
abbrev l__law_more_0 : Pm D := (pMk mTup (pCons (pV 6) (pCons (pC (.d (.bool true))) pNil)))
abbrev l__law_more_1 : Sm Out := (sAsgS (gSX false (lift (pV 4)) (sCall m__law_entry (lift (pCons (pV 0) pNil)))) (lift (pC (.d (.bool true)))))
def b__law_more : Sm Out := (sSeq (sAsg (gN 4) (sDict (lift (pMk mLst (pLc (gN 6) [6] (pIt (pV 2)) (pC true) l__law_more_0))))) (sSeq (sFor (gN 5) (sRg mR1 (sCons (sCall m__law_taken (lift (pCons (pV 0) (pCons (pOp fAdd (pV 3) (pC (.d (.int 1)))) pNil)))) (lift pNil))) l__law_more_1) (sRet (sOp fAdd (lift (pSl fSl (pV 1) (pC none) (pPart (pC (.d (.int 4)))))) (sMk mTup (sCons (sMk cTup (sCons (sMk cSort (sCons (sMkT cLstT (lift (pCons (pV 4) pNil))) (lift pNil))) (lift pNil))) (lift pNil)))))))
def m__law_more : List D → Ts → R D := mOfS 7 4 b__law_more
theorem g__law_more (T : Tp P K mg) : Gs P w K mg base "_law_more" 4 4 m__law_more := by
  refine Hush.hu (gs_of (N := ["_law_row", "_law_design", "_law_entries", "_law_many", "_law_found", "_law_turn", "_law_entry_here"]) (ps := ["_law_row", "_law_design", "_law_entries", "_law_many"]) T.f__law_more ⟨rfl, rfl, rfl, by decide +kernel, rfl, by decide +kernel, by decide +kernel⟩ rfl fun f cdv A outer s H E Wf tk I im =>
    (dss_cons (ds_asg (de_dict Wf T.n_dict b_dict (qe_lc [("_law_entry_here", 6)] Wf (fun _ => blkOk_by (by kernel_rfl)) (qi_seq Wf (qe_v 2)) (dgv_name (Wf.blk _) 6 (by decide)) qts_nil (qe_tup (qa_cons (qe_v 6) (qa_cons qe_bl qa_nil))))) (dg_n Wf 4)) (dss_cons (ds_for Wf (di_r1 Wf T.n_range (da_cons (de_callS Wf tk im (g__law_taken T) (by decide) (qa_cons (qe_v 0) (qa_cons (qe_op (o_add Wf) (qe_v 3) qe_int) qa_nil))) qa_nil)) (dg_n Wf 5) (dss_one (ds_asgS qe_bl (dgS_sub false Wf (qe_v 4) (de_callS Wf tk im (g__law_entry T) (by decide) (qa_cons (qe_v 0) qa_nil)) (sub_pg Wf))))) (dss_one (ds_ret (de_op (o_add Wf) (qe_slice (o_sl Wf) (qe_v 1) qo_none (qo_some qe_int)) (de_tup (da_cons (de_callTy Wf (c_tup Wf) T.n_tuple b_tuple (da_cons (de_callB Wf (c_sort Wf) T.n_sorted b_sorted (da_cons (de_callTyT Wf (c_lstT Wf) T.n_list b_list (qa_cons (qe_v 4) qa_nil)) qa_nil)) qa_nil)) qa_nil)))))))) ?_
  walk_at "hu"
def b__law_home : Pm Out := (pRet (pDget (pPcons (.inr "put") (pOp fIx (pOp fIx (pV 0) (pC (.d (.int 3)))) (pC (.d (.int 1)))) (pPcons (.inr "show") (pOp fIx (pOp fIx (pV 0) (pC (.d (.int 3)))) (pC (.d (.int 2)))) (pPcons (.inr "if") (pC (.d .none)) pPnil))) (pV 1) (pOp fIx (pOp fIx (pV 0) (pC (.d (.int 3)))) (pC (.d (.int 0))))))
def m__law_home : List D → Option D := mOf 2 2 b__law_home
theorem g__law_home (T : Tp P K mg) : Gf P w K mg base "_law_home" 1 2 m__law_home := by
  refine Hush.hu (gf_of (N := ["_law_design", "_law_kind"]) (ps := ["_law_design", "_law_kind"]) T.f__law_home ⟨rfl, rfl, rfl, by decide +kernel, rfl, by decide +kernel, by decide +kernel⟩ rfl fun f cdv A outer s H E Wf I =>
    (qss_one (qs_ret (qe_dget Wf (qp_cons (qe_ix (o_ix Wf) (qe_ix (o_ix Wf) (qe_v 0) qe_int) qe_int) (qp_cons (qe_ix (o_ix Wf) (qe_ix (o_ix Wf) (qe_v 0) qe_int) qe_int) (qp_cons qe_non qp_nil))) (qe_v 1) (qe_ix (o_ix Wf) (qe_ix (o_ix Wf) (qe_v 0) qe_int) qe_int))))) ?_
  walk_at "hu"
abbrev l__law_needs_0 : Pm D := (pMk mTup (pCons (pC (.d (.str "feeds"))) (pCons (pV 7) (pCons (pV 8) (pCons (pIf (pB (pOp fIx (pV 0) (pC (.d (.int 2))))) (pC (.d (.str "make"))) (pV 4)) (pCons (pC (.d (.str "read"))) pNil))))))
abbrev l__law_needs_1 : Pm D := (pMk mTup (pCons (pC (.d (.str "same"))) (pCons (pV 7) (pCons (pV 8) (pCons (pV 4) (pCons (pV 4) pNil))))))
abbrev l__law_needs_2 : Pm D := (pMk mTup (pCons (pC (.d (.str "used"))) (pCons (pV 8) (pCons (pV 7) (pCons (pC (.d (.str "read"))) (pCons (pV 4) pNil))))))
abbrev l__law_needs_3 : Pm Out := (pSeq (pAsg (gN 3) (pOp fAdd (pV 3) (pMk mLst (pLc (gN 8) [8] (pIt (pV 2)) (pC true) l__law_needs_0)))) (pSeq (pAsg (gN 3) (pOp fAdd (pV 3) (pMk mLst (pLc (gN 8) [8] (pIt (pV 1)) (pC true) l__law_needs_1)))) (pAsg (gN 3) (pOp fAdd (pV 3) (pMk mLst (pLc (gN 8) [8] (pIt (pV 2)) (pC true) l__law_needs_2))))))
abbrev l__law_needs_4 : Pm D := (pMk mTup (pCons (pC (.d (.str "jump"))) (pCons (pC (.d (.str "if"))) (pCons (pV 7) (pCons (pC (.d (.str "make"))) (pCons (pMk m__law_home (pCons (pV 0) (pCons (pV 7) pNil))) pNil))))))
def b__law_needs : Pm Out := (pSeq (pPar3 1 2 3 (pCons (pMk mLst (pCons (pC (.d (.str "set"))) (pCons (pC (.d (.str "sum"))) (pCons (pC (.d (.str "get"))) pNil)))) (pCons (pMk mLst (pCons (pC (.d (.str "sum"))) (pCons (pC (.d (.str "get"))) (pCons (pC (.d (.str "put"))) (pCons (pC (.d (.str "if"))) (pCons (pC (.d (.str "show"))) pNil)))))) (pCons (pMk mLst pNil) pNil)))) (pSeq (pAsg (gT 3 (gC (gN 4) (gC (gN 5) (gC (gN 6) gE)))) (pOp fIx (pV 0) (pC (.d (.int 3))))) (pSeq (pFor (gN 7) (pIt (pV 1)) l__law_needs_3) (pSeq (pAsg (gN 3) (pOp fAdd (pV 3) (pMk mLst (pCons (pMk mTup (pCons (pC (.d (.str "cells"))) (pCons (pC (.d (.str "put"))) (pCons (pC (.d (.str "get"))) (pCons (pV 5) (pCons (pC (.d (.str "make"))) pNil)))))) (pCons (pMk mTup (pCons (pC (.d (.str "cells"))) (pCons (pC (.d (.str "get"))) (pCons (pC (.d (.str "put"))) (pCons (pC (.d (.str "make"))) (pCons (pV 5) pNil)))))) pNil))))) (pSeq (pAsg (gN 3) (pOp fAdd (pV 3) (pMk mLst (pCons (pMk mTup (pCons (pC (.d (.str "cells"))) (pCons (pC (.d (.str "put"))) (pCons (pC (.d (.str "put"))) (pCons (pV 5) (pCons (pV 5) pNil)))))) (pCons (pMk mTup (pCons (pC (.d (.str "shows"))) (pCons (pC (.d (.str "show"))) (pCons (pC (.d (.str "show"))) (pCons (pV 6) (pCons (pV 6) pNil)))))) pNil))))) (pRet (pMk cSort (pCons (pOp fAdd (pV 3) (pMk mLst (pLc (gN 7) [7] (pIt (pOp fAdd (pV 1) (pMk mLst (pCons (pC (.d (.str "put"))) (pCons (pC (.d (.str "show"))) pNil))))) (pC true) l__law_needs_4))) pNil))))))))
def m__law_needs : List D → Option D := mOf 9 1 b__law_needs
theorem g__law_needs (T : Tp P K mg) : Gf P w K mg base "_law_needs" 2 1 m__law_needs := by
  refine Hush.hu (gf_of (N := ["_law_design", "_law_makers", "_law_users", "_law_found", "_law_home_here", "_law_cells", "_law_outs", "_law_one", "_law_other"]) (ps := ["_law_design"]) T.f__law_needs ⟨rfl, rfl, rfl, by decide +kernel, rfl, by decide +kernel, by decide +kernel⟩ rfl fun f cdv A outer s H E Wf I =>
    (qss_cons (qs_par3 Wf 1 2 3 (by decide) (by decide) (by decide) (qa_cons (qe_lst (qa_cons qe_str (qa_cons qe_str (qa_cons qe_str qa_nil)))) (qa_cons (qe_lst (qa_cons qe_str (qa_cons qe_str (qa_cons qe_str (qa_cons qe_str (qa_cons qe_str qa_nil)))))) (qa_cons (qe_lst qa_nil) qa_nil))) (fun _ => rfl)) (qss_cons (qs_asg (qe_ix (o_ix Wf) (qe_v 0) qe_int) (dg_tup Wf (dgs_cons (dg_n Wf 4) (dgs_cons (dg_n Wf 5) (dgs_cons (dg_n Wf 6) dgs_e))))) (qss_cons (qs_for Wf (qi_seq Wf (qe_v 1)) (dg_n Wf 7) (qss_cons (qs_asg (qe_op (o_add Wf) (qe_v 3) (qe_lc [("_law_other", 8)] Wf (fun _ => blkOk_by (by kernel_rfl)) (qi_seq Wf (qe_v 2)) (dgv_name (Wf.blk _) 8 (by decide)) qts_nil (qe_tup (qa_cons qe_str (qa_cons (qe_v 7) (qa_cons (qe_v 8) (qa_cons (qe_if (qt_val (qe_ix (o_ix (Wf.blk _)) (qe_v 0) qe_int)) qe_str (qe_v 4)) (qa_cons qe_str qa_nil)))))))) (dg_n Wf 3)) (qss_cons (qs_asg (qe_op (o_add Wf) (qe_v 3) (qe_lc [("_law_other", 8)] Wf (fun _ => blkOk_by (by kernel_rfl)) (qi_seq Wf (qe_v 1)) (dgv_name (Wf.blk _) 8 (by decide)) qts_nil (qe_tup (qa_cons qe_str (qa_cons (qe_v 7) (qa_cons (qe_v 8) (qa_cons (qe_v 4) (qa_cons (qe_v 4) qa_nil)))))))) (dg_n Wf 3)) (qss_one (qs_asg (qe_op (o_add Wf) (qe_v 3) (qe_lc [("_law_other", 8)] Wf (fun _ => blkOk_by (by kernel_rfl)) (qi_seq Wf (qe_v 2)) (dgv_name (Wf.blk _) 8 (by decide)) qts_nil (qe_tup (qa_cons qe_str (qa_cons (qe_v 8) (qa_cons (qe_v 7) (qa_cons qe_str (qa_cons (qe_v 4) qa_nil)))))))) (dg_n Wf 3)))))) (qss_cons (qs_asg (qe_op (o_add Wf) (qe_v 3) (qe_lst (qa_cons (qe_tup (qa_cons qe_str (qa_cons qe_str (qa_cons qe_str (qa_cons (qe_v 5) (qa_cons qe_str qa_nil)))))) (qa_cons (qe_tup (qa_cons qe_str (qa_cons qe_str (qa_cons qe_str (qa_cons qe_str (qa_cons (qe_v 5) qa_nil)))))) qa_nil)))) (dg_n Wf 3)) (qss_cons (qs_asg (qe_op (o_add Wf) (qe_v 3) (qe_lst (qa_cons (qe_tup (qa_cons qe_str (qa_cons qe_str (qa_cons qe_str (qa_cons (qe_v 5) (qa_cons (qe_v 5) qa_nil)))))) (qa_cons (qe_tup (qa_cons qe_str (qa_cons qe_str (qa_cons qe_str (qa_cons (qe_v 6) (qa_cons (qe_v 6) qa_nil)))))) qa_nil)))) (dg_n Wf 3)) (qss_one (qs_ret (qe_callB Wf (c_sort Wf) T.n_sorted b_sorted (qa_cons (qe_op (o_add Wf) (qe_v 3) (qe_lc [("_law_one", 7)] Wf (fun _ => blkOk_by (by kernel_rfl)) (qi_seq Wf (qe_op (o_add Wf) (qe_v 1) (qe_lst (qa_cons qe_str (qa_cons qe_str qa_nil))))) (dgv_name (Wf.blk _) 7 (by decide)) qts_nil (qe_tup (qa_cons qe_str (qa_cons qe_str (qa_cons (qe_v 7) (qa_cons qe_str (qa_cons (qe_call (Wf.blk _) (g__law_home T) (by decide) (qa_cons (qe_v 0) (qa_cons (qe_v 7) qa_nil))) qa_nil)))))))) qa_nil)))))))))) ?_
  walk_at "hu"
def b__law_number : Pm Out := (pRet (pOp fLIdx (pMk mLst (pCons (pC (.d (.str "lay"))) (pCons (pC (.d (.str "read"))) (pCons (pC (.d (.str "make"))) (pCons (pC (.d (.str "write"))) (pCons (pC (.d (.str "out"))) pNil)))))) (pV 0)))
def m__law_number : List D → Option D := mOf 1 1 b__law_number
theorem g__law_number (T : Tp P K mg) : Gf P w K mg base "_law_number" 1 1 m__law_number := by
  refine Hush.hu (gf_of (N := ["_law_event"]) (ps := ["_law_event"]) T.f__law_number ⟨rfl, rfl, rfl, by decide +kernel, rfl, by decide +kernel, by decide +kernel⟩ rfl fun f cdv A outer s H E Wf I =>
    (qss_one (qs_ret (qe_lidx Wf (qe_lst (qa_cons qe_str (qa_cons qe_str (qa_cons qe_str (qa_cons qe_str (qa_cons qe_str qa_nil)))))) (qe_v 0))))) ?_
  walk_at "hu"
def b__law_store : Pm Out := (pRet (pOp (fIn false) (pOp fAdd (pV 0) (pV 1)) (pMk mLst (pCons (pC (.d (.str "putget"))) (pCons (pC (.d (.str "getput"))) (pCons (pC (.d (.str "putput"))) pNil))))))
def m__law_store : List D → Option D := mOf 2 2 b__law_store
theorem g__law_store (T : Tp P K mg) : Gf P w K mg base "_law_store" 1 2 m__law_store := by
  refine Hush.hu (gf_of (N := ["_law_first", "_law_second"]) (ps := ["_law_first", "_law_second"]) T.f__law_store ⟨rfl, rfl, rfl, by decide +kernel, rfl, by decide +kernel, by decide +kernel⟩ rfl fun f cdv A outer s H E Wf I =>
    (qss_one (qs_ret (qe_cmp (o_in Wf) (qe_op (o_add Wf) (qe_v 0) (qe_v 1)) (qe_lst (qa_cons qe_str (qa_cons qe_str (qa_cons qe_str qa_nil)))))))) ?_
  walk_at "hu"
abbrev l__law_by_table_0 : Pm D := (pV 12)
abbrev l__law_by_table_1 : Pm Out := (pSeq (pAsg (gN 9) (pOp (fLe) (pMk m__law_number (pCons (pOp fIx (pV 8) (pC (.d (.int 4)))) pNil)) (pMk m__law_number (pCons (pV 6) pNil)))) (pSeq (pAsg (gN 10) (pOp (fGe) (pMk m__law_number (pCons (pOp fIx (pV 8) (pC (.d (.int 3)))) pNil)) (pMk m__law_number (pCons (pV 5) pNil)))) (pSeq (pAsg (gN 11) (pAndV (pOp (fEq) (pOp fIx (pV 8) (pC (.d (.int 0)))) (pC (.d (.str "cells")))) (pMk m__law_store (pCons (pV 3) (pCons (pV 4) pNil))))) (pSeq (pIf (pAnd (pB (pV 9)) (pAnd (pB (pV 10)) (pOr (pB (pOp (fEq) (pOp fIx (pV 8) (pC (.d (.int 0)))) (pV 2))) (pOr (pB (pOp (fIn false) (pOp fIx (pV 8) (pC (.d (.int 0)))) (pV 7))) (pAnd (pB (pV 11)) (pB (pOp (fIn false) (pOp fIx (pV 8) (pC (.d (.int 4)))) (pMk mLst (pCons (pC (.d (.str "lay"))) (pCons (pC (.d (.str "read"))) pNil)))))))))) (pRet (pC (.d (.bool true)))) pNx) (pIf (pAnd (pB (pV 9)) (pAnd (pB (pV 11)) (pB (pOp (fEq) (pV 5) (pC (.d (.str "read"))))))) (pRet (pC (.d (.bool true)))) pNx)))))
def b__law_by_table : Pm Out := (pSeq (pAsg (gT 5 (gC (gN 2) (gC (gN 3) (gC (gN 4) (gC (gN 5) (gC (gN 6) gE)))))) (pV 1)) (pSeq (pAsg (gN 7) (pOp fAdd (pOp fAdd (pMk mLst (pCons (pC (.d (.str "any"))) pNil)) (pOp fMul (pMk mLst (pCons (pC (.d (.str "jump"))) pNil)) (pMk cIntT (pCons (pOp (fEq) (pV 3) (pC (.d (.str "if")))) pNil)))) (pOp fMul (pMk mLst (pCons (pC (.d (.str "shows"))) pNil)) (pMk cIntT (pCons (pCh (fEq) (fEq) (pV 3) (pV 4) (pC (.d (.str "show")))) pNil))))) (pSeq (pAsg (gN 7) (pOp fAdd (pV 7) (pOp fMul (pMk mLst (pCons (pC (.d (.str "memory"))) pNil)) (pMk cIntT (pCons (pMk m__law_store (pCons (pV 3) (pCons (pV 4) pNil))) pNil))))) (pSeq (pFor (gN 8) (pIt (pMk mLst (pLc (gN 12) [12] (pIt (pV 0)) (pB (pOp (fEq) (pSl fSl (pV 12) (pPart (pC (.d (.int 1)))) (pPart (pC (.d (.int 3))))) (pMk mTup (pCons (pV 3) (pCons (pV 4) pNil))))) l__law_by_table_0))) l__law_by_table_1) (pRet (pC (.d (.bool false))))))))
def m__law_by_table : List D → Option D := mOf 13 2 b__law_by_table
theorem g__law_by_table (T : Tp P K mg) : Gf P w K mg base "_law_by_table" 2 2 m__law_by_table := by
  refine Hush.hu (gf_of (N := ["_law_table", "_law_entry_here", "_law_relation", "_law_one", "_law_other", "_law_p", "_law_q", "_law_always", "_law_strong", "_law_soon", "_law_late", "_law_cells", "_law_each"]) (ps := ["_law_table", "_law_entry_here"]) T.f__law_by_table ⟨rfl, rfl, rfl, by decide +kernel, rfl, by decide +kernel, by decide +kernel⟩ rfl fun f cdv A outer s H E Wf I =>
    (qss_cons (qs_asg (qe_v 1) (dg_tup Wf (dgs_cons (dg_n Wf 2) (dgs_cons (dg_n Wf 3) (dgs_cons (dg_n Wf 4) (dgs_cons (dg_n Wf 5) (dgs_cons (dg_n Wf 6) dgs_e))))))) (qss_cons (qs_asg (qe_op (o_add Wf) (qe_op (o_add Wf) (qe_lst (qa_cons qe_str qa_nil)) (qe_op (o_mul Wf) (qe_lst (qa_cons qe_str qa_nil)) (qe_callTy Wf (c_intT Wf) T.n_int b_int (qa_cons (qe_cmp (o_eq Wf) (qe_v 3) qe_str) qa_nil)))) (qe_op (o_mul Wf) (qe_lst (qa_cons qe_str qa_nil)) (qe_callTy Wf (c_intT Wf) T.n_int b_int (qa_cons (qe_chain (o_eq Wf) (o_eq Wf) (qe_v 3) (qe_v 4) qe_str) qa_nil)))) (dg_n Wf 7)) (qss_cons (qs_asg (qe_op (o_add Wf) (qe_v 7) (qe_op (o_mul Wf) (qe_lst (qa_cons qe_str qa_nil)) (qe_callTy Wf (c_intT Wf) T.n_int b_int (qa_cons (qe_call Wf (g__law_store T) (by decide) (qa_cons (qe_v 3) (qa_cons (qe_v 4) qa_nil))) qa_nil)))) (dg_n Wf 7)) (qss_cons (qs_for Wf (qi_seq Wf (qe_lc [("_law_each", 12)] Wf (fun _ => blkOk_by (by kernel_rfl)) (qi_seq Wf (qe_v 0)) (dgv_name (Wf.blk _) 12 (by decide)) (qts_one (qt_cmp (o_eq (Wf.blk _)) (qe_slice (o_sl (Wf.blk _)) (qe_v 12) (qo_some qe_int) (qo_some qe_int)) (qe_tup (qa_cons (qe_v 3) (qa_cons (qe_v 4) qa_nil))))) (qe_v 12))) (dg_n Wf 8) (qss_cons (qs_asg (qe_cmp (o_le Wf) (qe_call Wf (g__law_number T) (by decide) (qa_cons (qe_ix (o_ix Wf) (qe_v 8) qe_int) qa_nil)) (qe_call Wf (g__law_number T) (by decide) (qa_cons (qe_v 6) qa_nil))) (dg_n Wf 9)) (qss_cons (qs_asg (qe_cmp (o_ge Wf) (qe_call Wf (g__law_number T) (by decide) (qa_cons (qe_ix (o_ix Wf) (qe_v 8) qe_int) qa_nil)) (qe_call Wf (g__law_number T) (by decide) (qa_cons (qe_v 5) qa_nil))) (dg_n Wf 10)) (qss_cons (qs_asg (qe_and (qe_cmp (o_eq Wf) (qe_ix (o_ix Wf) (qe_v 8) qe_int) qe_str) (qe_and1 (qe_call Wf (g__law_store T) (by decide) (qa_cons (qe_v 3) (qa_cons (qe_v 4) qa_nil))))) (dg_n Wf 11)) (qss_cons (qs_if (qw_pt (qw_and (qt_val (qe_v 9)) (qw_and (qt_val (qe_v 10)) (qw_and1 (qw_pt (qw_or (qt_cmp (o_eq Wf) (qe_ix (o_ix Wf) (qe_v 8) qe_int) (qe_v 2)) (qw_or (qt_cmp (o_in Wf) (qe_ix (o_ix Wf) (qe_v 8) qe_int) (qe_v 7)) (qw_or1 (qw_pt (qw_and (qt_val (qe_v 11)) (qw_and1 (qt_cmp (o_in Wf) (qe_ix (o_ix Wf) (qe_v 8) qe_int) (qe_lst (qa_cons qe_str (qa_cons qe_str qa_nil))))))))))))))) (qss_one (qs_ret qe_bl)) qss_nil) (qss_one (qs_if (qw_pt (qw_and (qt_val (qe_v 9)) (qw_and (qt_val (qe_v 11)) (qw_and1 (qt_cmp (o_eq Wf) (qe_v 5) qe_str))))) (qss_one (qs_ret qe_bl)) qss_nil))))))) (qss_one (qs_ret qe_bl))))))) ?_
  walk_at "hu"
def b__law_can : Pm Out := (pSeq (pAsg (gT 2 (gC (gN 1) (gC (gT 2 (gC (gN 2) (gC (gN 3) gE))) gE))) (pMk mTup (pCons (pMk mLst (pCons (pC (.d (.str "set"))) (pCons (pC (.d (.str "sum"))) (pCons (pC (.d (.str "get"))) pNil)))) (pCons (pSl fSl (pV 0) (pPart (pC (.d (.int 1)))) (pPart (pC (.d (.int 3))))) pNil)))) (pSeq (pIf (pB (pOp (fEq) (pOp fIx (pV 0) (pC (.d (.int 0)))) (pC (.d (.str "feeds"))))) (pRet (pAndV (pOp (fIn false) (pV 2) (pV 1)) (pOp (fNe) (pV 3) (pC (.d (.str "set")))))) pNx) (pSeq (pIf (pB (pOp (fEq) (pOp fIx (pV 0) (pC (.d (.int 0)))) (pC (.d (.str "used"))))) (pRet (pAndV (pOp (fNe) (pV 2) (pC (.d (.str "set")))) (pOp (fIn false) (pV 3) (pV 1)))) pNx) (pSeq (pIf (pB (pOp (fEq) (pOp fIx (pV 0) (pC (.d (.int 0)))) (pC (.d (.str "same"))))) (pRet (pAndV (pOp (fIn false) (pV 2) (pV 1)) (pOp (fIn false) (pV 3) (pV 1)))) pNx) (pSeq (pIf (pB (pOp (fIn false) (pOp fIx (pV 0) (pC (.d (.int 0)))) (pMk mLst (pCons (pC (.d (.str "cells"))) (pCons (pC (.d (.str "memory"))) pNil))))) (pRet (pMk m__law_store (pCons (pV 2) (pCons (pV 3) pNil)))) pNx) (pRet (pDsub (pPcons (.inr "shows") (pCh (fEq) (fEq) (pV 2) (pV 3) (pC (.d (.str "show")))) (pPcons (.inr "jump") (pOp (fEq) (pV 2) (pC (.d (.str "if")))) (pPcons (.inr "any") (pC (.d (.bool true))) pPnil))) (pOp fIx (pV 0) (pC (.d (.int 0)))))))))))
def m__law_can : List D → Option D := mOf 4 1 b__law_can
theorem g__law_can (T : Tp P K mg) : Gf P w K mg base "_law_can" 2 1 m__law_can := by
  refine Hush.hu (gf_of (N := ["_law_entry_here", "_law_makers", "_law_one", "_law_other"]) (ps := ["_law_entry_here"]) T.f__law_can ⟨rfl, rfl, rfl, by decide +kernel, rfl, by decide +kernel, by decide +kernel⟩ rfl fun f cdv A outer s H E Wf I =>
    (qss_cons (qs_asg (qe_tup (qa_cons (qe_lst (qa_cons qe_str (qa_cons qe_str (qa_cons qe_str qa_nil)))) (qa_cons (qe_slice (o_sl Wf) (qe_v 0) (qo_some qe_int) (qo_some qe_int)) qa_nil))) (dg_tup Wf (dgs_cons (dg_n Wf 1) (dgs_cons (dg_tup Wf (dgs_cons (dg_n Wf 2) (dgs_cons (dg_n Wf 3) dgs_e))) dgs_e)))) (qss_cons (qs_if (qt_cmp (o_eq Wf) (qe_ix (o_ix Wf) (qe_v 0) qe_int) qe_str) (qss_one (qs_ret (qe_and (qe_cmp (o_in Wf) (qe_v 2) (qe_v 1)) (qe_and1 (qe_cmp (o_ne Wf) (qe_v 3) qe_str))))) qss_nil) (qss_cons (qs_if (qt_cmp (o_eq Wf) (qe_ix (o_ix Wf) (qe_v 0) qe_int) qe_str) (qss_one (qs_ret (qe_and (qe_cmp (o_ne Wf) (qe_v 2) qe_str) (qe_and1 (qe_cmp (o_in Wf) (qe_v 3) (qe_v 1)))))) qss_nil) (qss_cons (qs_if (qt_cmp (o_eq Wf) (qe_ix (o_ix Wf) (qe_v 0) qe_int) qe_str) (qss_one (qs_ret (qe_and (qe_cmp (o_in Wf) (qe_v 2) (qe_v 1)) (qe_and1 (qe_cmp (o_in Wf) (qe_v 3) (qe_v 1)))))) qss_nil) (qss_cons (qs_if (qt_cmp (o_in Wf) (qe_ix (o_ix Wf) (qe_v 0) qe_int) (qe_lst (qa_cons qe_str (qa_cons qe_str qa_nil)))) (qss_one (qs_ret (qe_call Wf (g__law_store T) (by decide) (qa_cons (qe_v 2) (qa_cons (qe_v 3) qa_nil))))) qss_nil) (qss_one (qs_ret (qe_dsub Wf (qp_cons (qe_chain (o_eq Wf) (o_eq Wf) (qe_v 2) (qe_v 3) qe_str) (qp_cons (qe_cmp (o_eq Wf) (qe_v 2) qe_str) (qp_cons qe_bl qp_nil))) (qe_ix (o_ix Wf) (qe_v 0) qe_int)))))))))) ?_
  walk_at "hu"
def b__law_forced : Pm Out := (pSeq (pIf (pOr (pNot (pB (pMk m__law_can (pCons (pV 1) pNil)))) (pOr (pB (pOp (fEq) (pOp fIx (pV 0) (pC (.d (.int 0)))) (pC (.d (.int 1))))) (pAnd (pB (pOp fIx (pV 0) (pC (.d (.int 1))))) (pB (pOp (fEq) (pOp fIx (pV 1) (pC (.d (.int 4)))) (pC (.d (.str "out")))))))) (pRet (pC (.d (.bool true)))) pNx) (pRet (pMk m__law_by_table (pCons (pOp fIx (pV 0) (pC (.d (.int 4)))) (pCons (pV 1) pNil)))))
def m__law_forced : List D → Option D := mOf 2 2 b__law_forced
theorem g__law_forced (T : Tp P K mg) : Gf P w K mg base "_law_forced" 3 2 m__law_forced := by
  refine Hush.hu (gf_of (N := ["_law_design", "_law_entry_here"]) (ps := ["_law_design", "_law_entry_here"]) T.f__law_forced ⟨rfl, rfl, rfl, by decide +kernel, rfl, by decide +kernel, by decide +kernel⟩ rfl fun f cdv A outer s H E Wf I =>
    (qss_cons (qs_if (qw_pt (qw_or (qt_not (qt_val (qe_call Wf (g__law_can T) (by decide) (qa_cons (qe_v 1) qa_nil)))) (qw_or (qt_cmp (o_eq Wf) (qe_ix (o_ix Wf) (qe_v 0) qe_int) qe_int) (qw_or1 (qw_pt (qw_and (qt_val (qe_ix (o_ix Wf) (qe_v 0) qe_int)) (qw_and1 (qt_cmp (o_eq Wf) (qe_ix (o_ix Wf) (qe_v 1) qe_int) qe_str)))))))) (qss_one (qs_ret qe_bl)) qss_nil) (qss_one (qs_ret (qe_call Wf (g__law_by_table T) (by decide) (qa_cons (qe_ix (o_ix Wf) (qe_v 0) qe_int) (qa_cons (qe_v 1) qa_nil))))))) ?_
  walk_at "hu"
abbrev l__law_missing_0 : Pm D := (pV 1)
def b__law_missing : Pm Out := (pRet (pMk mLst (pLc (gN 1) [1] (pIt (pMk m__law_needs (pCons (pV 0) pNil))) (pNot (pB (pMk m__law_forced (pCons (pV 0) (pCons (pV 1) pNil))))) l__law_missing_0)))
def m__law_missing : List D → Option D := mOf 2 1 b__law_missing
theorem g__law_missing (T : Tp P K mg) : Gf P w K mg base "_law_missing" 4 1 m__law_missing := by
  refine Hush.hu (gf_of (N := ["_law_design", "_law_need"]) (ps := ["_law_design"]) T.f__law_missing ⟨rfl, rfl, rfl, by decide +kernel, rfl, by decide +kernel, by decide +kernel⟩ rfl fun f cdv A outer s H E Wf I =>
    (qss_one (qs_ret (qe_lc [("_law_need", 1)] Wf (fun _ => blkOk_by (by kernel_rfl)) (qi_seq Wf (qe_call Wf (g__law_needs T) (by decide) (qa_cons (qe_v 0) qa_nil))) (dgv_name (Wf.blk _) 1 (by decide)) (qts_one (qt_not (qt_val (qe_call (Wf.blk _) (g__law_forced T) (by decide) (qa_cons (qe_v 0) (qa_cons (qe_v 1) qa_nil)))))) (qe_v 1))))) ?_
  walk_at "hu"
def b__law_right : Sm Out := (sSeq (sAsg (gN 1) (sCall m__law_bare (lift (pCons (pV 0) pNil)))) (sRet (sCall m__law_more (lift (pCons (pV 0) (pCons (pV 1) (pCons (pMk m__law_missing (pCons (pV 1) pNil)) (pCons (pC (.d (.int 4))) pNil))))))))
def m__law_right : List D → Ts → R D := mOfS 2 1 b__law_right
theorem g__law_right (T : Tp P K mg) : Gs P w K mg base "_law_right" 5 1 m__law_right := by
  refine Hush.hu (gs_of (N := ["_law_row", "_law_design"]) (ps := ["_law_row"]) T.f__law_right ⟨rfl, rfl, rfl, by decide +kernel, rfl, by decide +kernel, by decide +kernel⟩ rfl fun f cdv A outer s H E Wf tk I im =>
    (dss_cons (ds_asg (de_callS Wf tk im (g__law_bare T) (by decide) (qa_cons (qe_v 0) qa_nil)) (dg_n Wf 1)) (dss_one (ds_ret (de_callS Wf tk im (g__law_more T) (by decide) (qa_cons (qe_v 0) (qa_cons (qe_v 1) (qa_cons (qe_call Wf (g__law_missing T) (by decide) (qa_cons (qe_v 1) qa_nil)) (qa_cons qe_int qa_nil))))))))) ?_
  walk_at "hu"
def b_is_list : Pm Out := (pRet (pAndV (pMk cIsi (pCons (pV 0) (pCons (pC (.o (.ty "tuple"))) pNil))) (pCh (fLe) (fLe) (pV 1) (pMk cLen (pCons (pV 0) pNil)) (pV 2))))
def m_is_list : List D → Option D := mOf 3 3 b_is_list
theorem g_is_list (T : Tp P K mg) : Gf P w K mg base "is_list" 1 3 m_is_list := by
  refine Hush.hu (gf_of (N := ["value", "least", "most"]) (ps := ["value", "least", "most"]) T.f_is_list ⟨rfl, rfl, rfl, by decide +kernel, rfl, by decide +kernel, by decide +kernel⟩ rfl fun f cdv A outer s H E Wf I =>
    (qss_one (qs_ret (qe_and (qe_callB Wf (c_isi Wf) T.n_isinstance b_isinstance (qa_cons (qe_v 0) (qa_cons (qe_ty Wf T.n_tuple b_tuple) qa_nil))) (qe_and1 (qe_chain (o_le Wf) (o_le Wf) (qe_v 1) (qe_callB Wf (c_len Wf) T.n_len b_len (qa_cons (qe_v 0) qa_nil)) (qe_v 2))))))) ?_
  walk_at "hu"
def b_is_kind : Pm Out := (pRet (pAndV (pMk cIsi (pCons (pV 0) (pCons (pC (.o (.ty "str"))) pNil))) (pOp (fIn false) (pV 0) (pC (.kt (.tuple [(.str "set"), (.str "sum"), (.str "get"), (.str "put"), (.str "if"), (.str "show")]))))))
def m_is_kind : List D → Option D := mOf 1 1 b_is_kind
theorem g_is_kind (T : Tp P K mg) : Gf P w K mg base "is_kind" 1 1 m_is_kind := by
  refine Hush.hu (gf_of (N := ["value"]) (ps := ["value"]) T.f_is_kind ⟨rfl, rfl, rfl, by decide +kernel, rfl, by decide +kernel, by decide +kernel⟩ rfl fun f cdv A outer s H E Wf I =>
    (qss_one (qs_ret (qe_and (qe_callB Wf (c_isi Wf) T.n_isinstance b_isinstance (qa_cons (qe_v 0) (qa_cons (qe_ty Wf T.n_str b_str) qa_nil))) (qe_and1 (qe_cmp (o_in Wf) (qe_v 0) (qe_g Wf (T.c_KINDS).c))))))) ?_
  walk_at "hu"
def b_is_event : Pm Out := (pRet (pAndV (pMk cIsi (pCons (pV 0) (pCons (pC (.o (.ty "str"))) pNil))) (pOp (fIn false) (pV 0) (pC (.kt (.tuple [(.str "lay"), (.str "read"), (.str "make"), (.str "write"), (.str "out")]))))))
def m_is_event : List D → Option D := mOf 1 1 b_is_event
theorem g_is_event (T : Tp P K mg) : Gf P w K mg base "is_event" 1 1 m_is_event := by
  refine Hush.hu (gf_of (N := ["value"]) (ps := ["value"]) T.f_is_event ⟨rfl, rfl, rfl, by decide +kernel, rfl, by decide +kernel, by decide +kernel⟩ rfl fun f cdv A outer s H E Wf I =>
    (qss_one (qs_ret (qe_and (qe_callB Wf (c_isi Wf) T.n_isinstance b_isinstance (qa_cons (qe_v 0) (qa_cons (qe_ty Wf T.n_str b_str) qa_nil))) (qe_and1 (qe_cmp (o_in Wf) (qe_v 0) (qe_g Wf (T.c_EVENTS).c))))))) ?_
  walk_at "hu"
def b_is_entry : Pm Out := (pSeq (pIf (pOr (pNot (pB (pMk m_is_list (pCons (pV 0) (pCons (pC (.d (.int 5))) (pCons (pC (.d (.int 5))) pNil)))))) (pOr (pNot (pB (pMk cIsi (pCons (pOp fIx (pV 0) (pC (.d (.int 0)))) (pCons (pC (.o (.ty "str"))) pNil))))) (pB (pOp (fIn true) (pOp fIx (pV 0) (pC (.d (.int 0)))) (pC (.kt (.tuple [(.str "feeds"), (.str "used"), (.str "same"), (.str "cells"), (.str "memory"), (.str "shows"), (.str "jump"), (.str "any")]))))))) (pRet (pC (.d (.bool false)))) pNx) (pSeq (pIf (pOr (pNot (pB (pMk m_is_kind (pCons (pOp fIx (pV 0) (pC (.d (.int 1)))) pNil)))) (pOr (pNot (pB (pMk m_is_kind (pCons (pOp fIx (pV 0) (pC (.d (.int 2)))) pNil)))) (pOr (pNot (pB (pMk m_is_event (pCons (pOp fIx (pV 0) (pC (.d (.int 3)))) pNil)))) (pNot (pB (pMk m_is_event (pCons (pOp fIx (pV 0) (pC (.d (.int 4)))) pNil))))))) (pRet (pC (.d (.bool false)))) pNx) (pRet (pOp (fNe) (pOp fIx (pV 0) (pC (.d (.int 3)))) (pC (.d (.str "lay")))))))
def m_is_entry : List D → Option D := mOf 1 1 b_is_entry
theorem g_is_entry (T : Tp P K mg) : Gf P w K mg base "is_entry" 2 1 m_is_entry := by
  refine Hush.hu (gf_of (N := ["value"]) (ps := ["value"]) T.f_is_entry ⟨rfl, rfl, rfl, by decide +kernel, rfl, by decide +kernel, by decide +kernel⟩ rfl fun f cdv A outer s H E Wf I =>
    (qss_cons (qs_if (qw_pt (qw_or (qt_not (qt_val (qe_call Wf (g_is_list T) (by decide) (qa_cons (qe_v 0) (qa_cons qe_int (qa_cons qe_int qa_nil)))))) (qw_or (qt_not (qt_val (qe_callB Wf (c_isi Wf) T.n_isinstance b_isinstance (qa_cons (qe_ix (o_ix Wf) (qe_v 0) qe_int) (qa_cons (qe_ty Wf T.n_str b_str) qa_nil))))) (qw_or1 (qt_cmp (o_nin Wf) (qe_ix (o_ix Wf) (qe_v 0) qe_int) (qe_g Wf (T.c_RELATIONS).c)))))) (qss_one (qs_ret qe_bl)) qss_nil) (qss_cons (qs_if (qw_pt (qw_or (qt_not (qt_val (qe_call Wf (g_is_kind T) (by decide) (qa_cons (qe_ix (o_ix Wf) (qe_v 0) qe_int) qa_nil)))) (qw_or (qt_not (qt_val (qe_call Wf (g_is_kind T) (by decide) (qa_cons (qe_ix (o_ix Wf) (qe_v 0) qe_int) qa_nil)))) (qw_or (qt_not (qt_val (qe_call Wf (g_is_event T) (by decide) (qa_cons (qe_ix (o_ix Wf) (qe_v 0) qe_int) qa_nil)))) (qw_or1 (qt_not (qt_val (qe_call Wf (g_is_event T) (by decide) (qa_cons (qe_ix (o_ix Wf) (qe_v 0) qe_int) qa_nil))))))))) (qss_one (qs_ret qe_bl)) qss_nil) (qss_one (qs_ret (qe_cmp (o_ne Wf) (qe_ix (o_ix Wf) (qe_v 0) qe_int) qe_str)))))) ?_
  walk_at "hu"
abbrev l_is_table_0 : Pm D := (pMk m_is_entry (pCons (pV 1) pNil))
abbrev l_is_table_1 : Pm D := (pOp (fLt) (pOp fIx (pV 0) (pOp fSub (pV 2) (pC (.d (.int 1))))) (pOp fIx (pV 0) (pV 2)))
def b_is_table : Pm Out := (pSeq (pIf (pOr (pNot (pB (pMk cIsi (pCons (pV 0) (pCons (pC (.o (.ty "tuple"))) pNil))))) (pNot (pB (pMk cAll (pCons (pMk mLst (pLc (gN 1) [1] (pIt (pV 0)) (pC true) l_is_table_0)) pNil))))) (pRet (pC (.d (.bool false)))) pNx) (pRet (pMk cAll (pCons (pMk mLst (pLc (gN 2) [2] (pRg mR2 (pCons (pC (.d (.int 1))) (pCons (pMk cLen (pCons (pV 0) pNil)) pNil))) (pC true) l_is_table_1)) pNil))))
def m_is_table : List D → Option D := mOf 3 1 b_is_table
theorem g_is_table (T : Tp P K mg) : Gf P w K mg base "is_table" 3 1 m_is_table := by
  refine Hush.hu (gf_of (N := ["value", "one", "index"]) (ps := ["value"]) T.f_is_table ⟨rfl, rfl, rfl, by decide +kernel, rfl, by decide +kernel, by decide +kernel⟩ rfl fun f cdv A outer s H E Wf I =>
    (qss_cons (qs_if (qw_pt (qw_or (qt_not (qt_val (qe_callB Wf (c_isi Wf) T.n_isinstance b_isinstance (qa_cons (qe_v 0) (qa_cons (qe_ty Wf T.n_tuple b_tuple) qa_nil))))) (qw_or1 (qt_not (qt_val (qe_callB Wf (c_all Wf) T.n_all b_all (qa_cons (qe_lc [("one", 1)] Wf (fun _ => blkOk_by (by kernel_rfl)) (qi_seq Wf (qe_v 0)) (dgv_name (Wf.blk _) 1 (by decide)) qts_nil (qe_call (Wf.blk _) (g_is_entry T) (by decide) (qa_cons (qe_v 1) qa_nil))) qa_nil))))))) (qss_one (qs_ret qe_bl)) qss_nil) (qss_one (qs_ret (qe_callB Wf (c_all Wf) T.n_all b_all (qa_cons (qe_lc [("index", 2)] Wf (fun _ => blkOk_by (by kernel_rfl)) (qi_r2 Wf T.n_range (qa_cons qe_int (qa_cons (qe_callB Wf (c_len Wf) T.n_len b_len (qa_cons (qe_v 0) qa_nil)) qa_nil))) (dgv_name (Wf.blk _) 2 (by decide)) qts_nil (qe_cmp (o_lt (Wf.blk _)) (qe_ix (o_ix (Wf.blk _)) (qe_v 0) (qe_op (o_sub (Wf.blk _)) (qe_v 2) qe_int)) (qe_ix (o_ix (Wf.blk _)) (qe_v 0) (qe_v 2)))) qa_nil)))))) ?_
  walk_at "hu"
def b_is_integer : Pm Out := (pRet (pAndV (pMk cIsi (pCons (pV 0) (pCons (pC (.o (.ty "int"))) pNil))) (pNotV (pMk cIsi (pCons (pV 0) (pCons (pC (.o (.ty "bool"))) pNil))))))
def m_is_integer : List D → Option D := mOf 1 1 b_is_integer
theorem g_is_integer (T : Tp P K mg) : Gf P w K mg base "is_integer" 1 1 m_is_integer := by
  refine Hush.hu (gf_of (N := ["value"]) (ps := ["value"]) T.f_is_integer ⟨rfl, rfl, rfl, by decide +kernel, rfl, by decide +kernel, by decide +kernel⟩ rfl fun f cdv A outer s H E Wf I =>
    (qss_one (qs_ret (qe_and (qe_callB Wf (c_isi Wf) T.n_isinstance b_isinstance (qa_cons (qe_v 0) (qa_cons (qe_ty Wf T.n_int b_int) qa_nil))) (qe_and1 (qe_not (qe_callB Wf (c_isi Wf) T.n_isinstance b_isinstance (qa_cons (qe_v 0) (qa_cons (qe_ty Wf T.n_bool b_bool) qa_nil))))))))) ?_
  walk_at "hu"
def b_is_in : Pm Out := (pRet (pAndV (pMk m_is_integer (pCons (pV 0) pNil)) (pCh (fLe) (fLe) (pV 1) (pV 0) (pV 2))))
def m_is_in : List D → Option D := mOf 3 3 b_is_in
theorem g_is_in (T : Tp P K mg) : Gf P w K mg base "is_in" 2 3 m_is_in := by
  refine Hush.hu (gf_of (N := ["value", "least", "most"]) (ps := ["value", "least", "most"]) T.f_is_in ⟨rfl, rfl, rfl, by decide +kernel, rfl, by decide +kernel, by decide +kernel⟩ rfl fun f cdv A outer s H E Wf I =>
    (qss_one (qs_ret (qe_and (qe_call Wf (g_is_integer T) (by decide) (qa_cons (qe_v 0) qa_nil)) (qe_and1 (qe_chain (o_le Wf) (o_le Wf) (qe_v 1) (qe_v 0) (qe_v 2))))))) ?_
  walk_at "hu"
abbrev l_is_design_0 : Pm D := (pAndV (pMk cIsi (pCons (pV 1) (pCons (pC (.o (.ty "str"))) pNil))) (pOp (fIn false) (pV 1) (pMk mTup (pCons (pC (.d (.str "write"))) (pCons (pC (.d (.str "out"))) pNil)))))
def b_is_design : Pm Out := (pSeq (pIf (pOr (pNot (pB (pMk m_is_list (pCons (pV 0) (pCons (pC (.d (.int 5))) (pCons (pC (.d (.int 5))) pNil)))))) (pNot (pB (pMk m_is_in (pCons (pOp fIx (pV 0) (pC (.d (.int 0)))) (pCons (pC (.d (.int 1))) (pCons (pC (.d (.int 4))) pNil))))))) (pRet (pC (.d (.bool false)))) pNx) (pSeq (pIf (pOr (pNot (pB (pMk cIsi (pCons (pOp fIx (pV 0) (pC (.d (.int 1)))) (pCons (pC (.o (.ty "bool"))) pNil))))) (pOr (pNot (pB (pMk cIsi (pCons (pOp fIx (pV 0) (pC (.d (.int 2)))) (pCons (pC (.o (.ty "bool"))) pNil))))) (pNot (pB (pMk m_is_list (pCons (pOp fIx (pV 0) (pC (.d (.int 3)))) (pCons (pC (.d (.int 3))) (pCons (pC (.d (.int 3))) pNil)))))))) (pRet (pC (.d (.bool false)))) pNx) (pRet (pAndV (pMk cAll (pCons (pMk mLst (pLc (gN 1) [1] (pIt (pOp fIx (pV 0) (pC (.d (.int 3))))) (pC true) l_is_design_0)) pNil)) (pMk m_is_table (pCons (pOp fIx (pV 0) (pC (.d (.int 4)))) pNil))))))
def m_is_design : List D → Option D := mOf 2 1 b_is_design
theorem g_is_design (T : Tp P K mg) : Gf P w K mg base "is_design" 4 1 m_is_design := by
  refine Hush.hu (gf_of (N := ["value", "one"]) (ps := ["value"]) T.f_is_design ⟨rfl, rfl, rfl, by decide +kernel, rfl, by decide +kernel, by decide +kernel⟩ rfl fun f cdv A outer s H E Wf I =>
    (qss_cons (qs_if (qw_pt (qw_or (qt_not (qt_val (qe_call Wf (g_is_list T) (by decide) (qa_cons (qe_v 0) (qa_cons qe_int (qa_cons qe_int qa_nil)))))) (qw_or1 (qt_not (qt_val (qe_call Wf (g_is_in T) (by decide) (qa_cons (qe_ix (o_ix Wf) (qe_v 0) qe_int) (qa_cons qe_int (qa_cons (qe_g Wf T.c_MOST_WIDTH) qa_nil))))))))) (qss_one (qs_ret qe_bl)) qss_nil) (qss_cons (qs_if (qw_pt (qw_or (qt_not (qt_val (qe_callB Wf (c_isi Wf) T.n_isinstance b_isinstance (qa_cons (qe_ix (o_ix Wf) (qe_v 0) qe_int) (qa_cons (qe_ty Wf T.n_bool b_bool) qa_nil))))) (qw_or (qt_not (qt_val (qe_callB Wf (c_isi Wf) T.n_isinstance b_isinstance (qa_cons (qe_ix (o_ix Wf) (qe_v 0) qe_int) (qa_cons (qe_ty Wf T.n_bool b_bool) qa_nil))))) (qw_or1 (qt_not (qt_val (qe_call Wf (g_is_list T) (by decide) (qa_cons (qe_ix (o_ix Wf) (qe_v 0) qe_int) (qa_cons qe_int (qa_cons qe_int qa_nil)))))))))) (qss_one (qs_ret qe_bl)) qss_nil) (qss_one (qs_ret (qe_and (qe_callB Wf (c_all Wf) T.n_all b_all (qa_cons (qe_lc [("one", 1)] Wf (fun _ => blkOk_by (by kernel_rfl)) (qi_seq Wf (qe_ix (o_ix Wf) (qe_v 0) qe_int)) (dgv_name (Wf.blk _) 1 (by decide)) qts_nil (qe_and (qe_callB (Wf.blk _) (c_isi (Wf.blk _)) T.n_isinstance b_isinstance (qa_cons (qe_v 1) (qa_cons (qe_ty (Wf.blk _) T.n_str b_str) qa_nil))) (qe_and1 (qe_cmp (o_in (Wf.blk _)) (qe_v 1) (qe_tup (qa_cons qe_str (qa_cons qe_str qa_nil))))))) qa_nil)) (qe_and1 (qe_call Wf (g_is_table T) (by decide) (qa_cons (qe_ix (o_ix Wf) (qe_v 0) qe_int) qa_nil))))))))) ?_
  walk_at "hu"
def b_need_design : Sm Out := (sIf (lift (pNot (pB (pMk m_is_design (pCons (pV 0) pNil))))) (sRaise "BadDesign") (lift pNx))
def m_need_design : List D → Ts → R D := mOfS 1 1 b_need_design
theorem g_need_design (T : Tp P K mg) : Gs P w K mg base "need_design" 5 1 m_need_design := by
  refine Hush.hu (gs_of (N := ["design"]) (ps := ["design"]) T.f_need_design ⟨rfl, rfl, rfl, by decide +kernel, rfl, by decide +kernel, by decide +kernel⟩ rfl fun f cdv A outer s H E Wf tk I im =>
    (dss_one (ds_if (qt_not (qt_val (qe_call Wf (g_is_design T) (by decide) (qa_cons (qe_v 0) qa_nil)))) (dss_one (ds_raise Wf tk im T.e_BadDesign)) qss_nil))) ?_
  walk_at "hu"
def b_home_in : Pm Out := (pSeq (pIf (pB (pOp (fIn false) (pV 1) (pC (.kt (.tuple [(.str "set"), (.str "sum"), (.str "get")]))))) (pRet (pOp fIx (pOp fIx (pV 0) (pC (.d (.int 3)))) (pC (.d (.int 0))))) pNx) (pSeq (pIf (pB (pOp (fEq) (pV 1) (pC (.d (.str "put"))))) (pRet (pOp fIx (pOp fIx (pV 0) (pC (.d (.int 3)))) (pC (.d (.int 1))))) pNx) (pRet (pIf (pB (pOp (fEq) (pV 1) (pC (.d (.str "show"))))) (pOp fIx (pOp fIx (pV 0) (pC (.d (.int 3)))) (pC (.d (.int 2)))) (pC (.d .none))))))
def m_home_in : List D → Option D := mOf 2 2 b_home_in
theorem g_home_in (T : Tp P K mg) : Gf P w K mg base "home_in" 1 2 m_home_in := by
  refine Hush.hu (gf_of (N := ["design", "kind"]) (ps := ["design", "kind"]) T.f_home_in ⟨rfl, rfl, rfl, by decide +kernel, rfl, by decide +kernel, by decide +kernel⟩ rfl fun f cdv A outer s H E Wf I =>
    (qss_cons (qs_if (qt_cmp (o_in Wf) (qe_v 1) (qe_g Wf (T.c_WRITING).c)) (qss_one (qs_ret (qe_ix (o_ix Wf) (qe_ix (o_ix Wf) (qe_v 0) qe_int) qe_int))) qss_nil) (qss_cons (qs_if (qt_cmp (o_eq Wf) (qe_v 1) qe_str) (qss_one (qs_ret (qe_ix (o_ix Wf) (qe_ix (o_ix Wf) (qe_v 0) qe_int) qe_int))) qss_nil) (qss_one (qs_ret (qe_if (qt_cmp (o_eq Wf) (qe_v 1) qe_str) (qe_ix (o_ix Wf) (qe_ix (o_ix Wf) (qe_v 0) qe_int) qe_int) qe_non)))))) ?_
  walk_at "hu"
abbrev l_needs_in_0 : Pm D := (pMk mTup (pCons (pC (.d (.str "feeds"))) (pCons (pV 6) (pCons (pV 7) (pCons (pV 4) (pCons (pC (.d (.str "read"))) pNil))))))
abbrev l_needs_in_1 : Pm D := (pMk mTup (pCons (pC (.d (.str "used"))) (pCons (pV 6) (pCons (pV 7) (pCons (pC (.d (.str "read"))) (pCons (pV 1) pNil))))))
abbrev l_needs_in_2 : Pm D := (pMk mTup (pCons (pC (.d (.str "same"))) (pCons (pV 6) (pCons (pV 7) (pCons (pV 1) (pCons (pV 1) pNil))))))
abbrev l_needs_in_3 : Pm D := (pMk mTup (pCons (pC (.d (.str "jump"))) (pCons (pC (.d (.str "if"))) (pCons (pV 7) (pCons (pC (.d (.str "make"))) (pCons (pMk m_home_in (pCons (pV 0) (pCons (pV 7) pNil))) pNil))))))
def b_needs_in : Sm Out := (sSeq (lift (pAsg (gT 3 (gC (gN 1) (gC (gN 2) (gC (gN 3) gE)))) (pOp fIx (pV 0) (pC (.d (.int 3)))))) (sSeq (lift (pAsg (gN 4) (pIf (pB (pOp fIx (pV 0) (pC (.d (.int 2))))) (pC (.d (.str "make"))) (pV 1)))) (sSeq (sAsg (gN 5) (sAlL (sLc2 (gN 6) [6, 7] (liftI (pIt (pC (.kt (.tuple [(.str "set"), (.str "sum"), (.str "get")]))))) (lift (pC true)) (liftI (pIt (pC (.kt (.tuple [(.str "set"), (.str "sum"), (.str "get"), (.str "put"), (.str "if"), (.str "show")]))))) (gN 7) [7] (lift (pB (pOp (fNe) (pV 7) (pC (.d (.str "set")))))) (lift l_needs_in_0)))) (sSeq (sExp (sMeth1 extX (lift (pV 5)) (lift (pMk mLst (pLc2 (gN 6) [6, 7] (pIt (pC (.kt (.tuple [(.str "set"), (.str "sum"), (.str "get"), (.str "put"), (.str "if"), (.str "show")])))) (pB (pOp (fNe) (pV 6) (pC (.d (.str "set"))))) (pIt (pC (.kt (.tuple [(.str "set"), (.str "sum"), (.str "get")])))) (gN 7) [7] (pC true) l_needs_in_1))))) (sSeq (sExp (sMeth1 extX (lift (pV 5)) (lift (pMk mLst (pLc2 (gN 6) [6, 7] (pIt (pC (.kt (.tuple [(.str "set"), (.str "sum"), (.str "get")])))) (pC true) (pIt (pC (.kt (.tuple [(.str "set"), (.str "sum"), (.str "get")])))) (gN 7) [7] (pC true) l_needs_in_2))))) (sSeq (sExp (sMeth1 extX (lift (pV 5)) (lift (pMk mLst (pCons (pMk mTup (pCons (pC (.d (.str "cells"))) (pCons (pC (.d (.str "put"))) (pCons (pC (.d (.str "get"))) (pCons (pV 2) (pCons (pC (.d (.str "make"))) pNil)))))) (pCons (pMk mTup (pCons (pC (.d (.str "cells"))) (pCons (pC (.d (.str "get"))) (pCons (pC (.d (.str "put"))) (pCons (pC (.d (.str "make"))) (pCons (pV 2) pNil)))))) pNil)))))) (sSeq (sExp (sMeth1 extX (lift (pV 5)) (lift (pMk mLst (pCons (pMk mTup (pCons (pC (.d (.str "cells"))) (pCons (pC (.d (.str "put"))) (pCons (pC (.d (.str "put"))) (pCons (pV 2) (pCons (pV 2) pNil)))))) (pCons (pMk mTup (pCons (pC (.d (.str "shows"))) (pCons (pC (.d (.str "show"))) (pCons (pC (.d (.str "show"))) (pCons (pV 3) (pCons (pV 3) pNil)))))) pNil)))))) (sSeq (sExp (sMeth1 extX (lift (pV 5)) (lift (pMk mLst (pLc (gN 7) [7] (pIt (pC (.kt (.tuple [(.str "set"), (.str "sum"), (.str "get"), (.str "put"), (.str "if"), (.str "show")])))) (pB (pOp (fNe) (pV 7) (pC (.d (.str "if"))))) l_needs_in_3))))) (sFzS 5 (lift (pRet (pMk cSort (pCons (pV 5) pNil)))))))))))))
def m_needs_in : List D → Ts → R D := mOfS 8 1 b_needs_in
theorem g_needs_in (T : Tp P K mg) : Gs P w K mg base "needs_in" 2 1 m_needs_in := by
  refine Hush.hu (gs_of (N := ["design", "home", "cells", "shown", "first", "found", "one", "other"]) (ps := ["design"]) T.f_needs_in ⟨rfl, rfl, rfl, by decide +kernel, rfl, by decide +kernel, by decide +kernel⟩ rfl fun f cdv A outer s H E Wf tk I im =>
    (dss_cons (qs_asg (qe_ix (o_ix Wf) (qe_v 0) qe_int) (dg_tup Wf (dgs_cons (dg_n Wf 1) (dgs_cons (dg_n Wf 2) (dgs_cons (dg_n Wf 3) dgs_e))))) (dss_cons (qs_asg (qe_if (qt_val (qe_ix (o_ix Wf) (qe_v 0) qe_int)) qe_str (qe_v 1)) (dg_n Wf 4)) (dss_cons (ds_setAlLc2 [("one", 6), ("other", 7)] [7] Wf 5 (fun _ => blkOk_by (by kernel_rfl)) (by decide) (qi_seq Wf (qe_g Wf (T.c_WRITING).c)) (dgv_name (Wf.blk _) 6 (by decide)) qts_nil (qi_seq (Wf.blk _) (qe_g (Wf.blk _) (T.c_KINDS).c)) (dgv_name (Wf.blk _) 7 (by decide)) (qts_one (qt_cmp (o_ne (Wf.blk _)) (qe_v 7) qe_str)) (qe_tup (qa_cons qe_str (qa_cons (qe_v 6) (qa_cons (qe_v 7) (qa_cons (qe_v 4) (qa_cons qe_str qa_nil)))))) (fun _ => sw_true rfl rfl rfl (by decide +kernel))) (dss_cons (ds_exp (de_ext Wf (qe_v 5) (qe_lc2 [("one", 6), ("other", 7)] [7] Wf (fun _ => blkOk_by (by kernel_rfl)) (by decide) (qi_seq Wf (qe_g Wf (T.c_KINDS).c)) (dgv_name (Wf.blk _) 6 (by decide)) (qts_one (qt_cmp (o_ne (Wf.blk _)) (qe_v 6) qe_str)) (qi_seq (Wf.blk _) (qe_g (Wf.blk _) (T.c_WRITING).c)) (dgv_name (Wf.blk _) 7 (by decide)) qts_nil (qe_tup (qa_cons qe_str (qa_cons (qe_v 6) (qa_cons (qe_v 7) (qa_cons qe_str (qa_cons (qe_v 1) qa_nil))))))))) (dss_cons (ds_exp (de_ext Wf (qe_v 5) (qe_lc2 [("one", 6), ("other", 7)] [7] Wf (fun _ => blkOk_by (by kernel_rfl)) (by decide) (qi_seq Wf (qe_g Wf (T.c_WRITING).c)) (dgv_name (Wf.blk _) 6 (by decide)) qts_nil (qi_seq (Wf.blk _) (qe_g (Wf.blk _) (T.c_WRITING).c)) (dgv_name (Wf.blk _) 7 (by decide)) qts_nil (qe_tup (qa_cons qe_str (qa_cons (qe_v 6) (qa_cons (qe_v 7) (qa_cons (qe_v 1) (qa_cons (qe_v 1) qa_nil))))))))) (dss_cons (ds_exp (de_ext Wf (qe_v 5) (qe_lst (qa_cons (qe_tup (qa_cons qe_str (qa_cons qe_str (qa_cons qe_str (qa_cons (qe_v 2) (qa_cons qe_str qa_nil)))))) (qa_cons (qe_tup (qa_cons qe_str (qa_cons qe_str (qa_cons qe_str (qa_cons qe_str (qa_cons (qe_v 2) qa_nil)))))) qa_nil))))) (dss_cons (ds_exp (de_ext Wf (qe_v 5) (qe_lst (qa_cons (qe_tup (qa_cons qe_str (qa_cons qe_str (qa_cons qe_str (qa_cons (qe_v 2) (qa_cons (qe_v 2) qa_nil)))))) (qa_cons (qe_tup (qa_cons qe_str (qa_cons qe_str (qa_cons qe_str (qa_cons (qe_v 3) (qa_cons (qe_v 3) qa_nil)))))) qa_nil))))) (dss_cons (ds_exp (de_ext Wf (qe_v 5) (qe_lc [("other", 7)] Wf (fun _ => blkOk_by (by kernel_rfl)) (qi_seq Wf (qe_g Wf (T.c_KINDS).c)) (dgv_name (Wf.blk _) 7 (by decide)) (qts_one (qt_cmp (o_ne (Wf.blk _)) (qe_v 7) qe_str)) (qe_tup (qa_cons qe_str (qa_cons qe_str (qa_cons (qe_v 7) (qa_cons qe_str (qa_cons (qe_call (Wf.blk _) (g_home_in T) (by decide) (qa_cons (qe_v 0) (qa_cons (qe_v 7) qa_nil))) qa_nil))))))))) (dss_frz 5 (qss_one (qs_ret (qe_callB Wf (c_sort Wf) T.n_sorted b_sorted (qa_cons (qe_v 5) qa_nil)))))))))))))) ?_
  walk_at "hu"
def b_number_of : Pm Out := (pRet (pAp (fGIdx ["lay", "read", "make", "write", "out"]) (pV 0)))
def m_number_of : List D → Option D := mOf 1 1 b_number_of
theorem g_number_of (T : Tp P K mg) : Gf P w K mg base "number_of" 1 1 m_number_of := by
  refine Hush.hu (gf_of (N := ["event"]) (ps := ["event"]) T.f_number_of ⟨rfl, rfl, rfl, by decide +kernel, rfl, by decide +kernel, by decide +kernel⟩ rfl fun f cdv A outer s H E Wf I =>
    (qss_one (qs_ret (qe_gidx Wf T.c_EVENTS (qe_v 0))))) ?_
  walk_at "hu"
def b_holds_always : Pm Out := (pSeq (pIf (pB (pOp (fEq) (pV 0) (pC (.d (.str "jump"))))) (pRet (pOp (fEq) (pV 1) (pC (.d (.str "if"))))) pNx) (pSeq (pIf (pB (pOp (fEq) (pV 0) (pC (.d (.str "shows"))))) (pRet (pAndV (pOp (fEq) (pV 1) (pC (.d (.str "show")))) (pOp (fEq) (pV 2) (pC (.d (.str "show")))))) pNx) (pRet (pOrV (pOp (fEq) (pV 0) (pC (.d (.str "any")))) (pAndV (pOp (fEq) (pV 0) (pC (.d (.str "memory")))) (pOp (fIn false) (pMk mTup (pCons (pV 1) (pCons (pV 2) pNil))) (pC (.kt (.tuple [(.tuple [(.str "put"), (.str "get")]), (.tuple [(.str "get"), (.str "put")]), (.tuple [(.str "put"), (.str "put")])])))))))))
def m_holds_always : List D → Option D := mOf 3 3 b_holds_always
theorem g_holds_always (T : Tp P K mg) : Gf P w K mg base "holds_always" 1 3 m_holds_always := by
  refine Hush.hu (gf_of (N := ["relation", "first", "second"]) (ps := ["relation", "first", "second"]) T.f_holds_always ⟨rfl, rfl, rfl, by decide +kernel, rfl, by decide +kernel, by decide +kernel⟩ rfl fun f cdv A outer s H E Wf I =>
    (qss_cons (qs_if (qt_cmp (o_eq Wf) (qe_v 0) qe_str) (qss_one (qs_ret (qe_cmp (o_eq Wf) (qe_v 1) qe_str))) qss_nil) (qss_cons (qs_if (qt_cmp (o_eq Wf) (qe_v 0) qe_str) (qss_one (qs_ret (qe_and (qe_cmp (o_eq Wf) (qe_v 1) qe_str) (qe_and1 (qe_cmp (o_eq Wf) (qe_v 2) qe_str))))) qss_nil) (qss_one (qs_ret (qe_or (qe_cmp (o_eq Wf) (qe_v 0) qe_str) (qe_and1 (qe_and (qe_cmp (o_eq Wf) (qe_v 0) qe_str) (qe_and1 (qe_cmp (o_in Wf) (qe_tup (qa_cons (qe_v 1) (qa_cons (qe_v 2) qa_nil))) (qe_g Wf T.c_STORES))))))))))) ?_
  walk_at "hu"
def b_forces : Pm Out := (pSeq (pIf (pOr (pB (pOp (fNe) (pSl fSl (pV 0) (pPart (pC (.d (.int 1)))) (pPart (pC (.d (.int 3))))) (pSl fSl (pV 1) (pPart (pC (.d (.int 1)))) (pPart (pC (.d (.int 3))))))) (pB (pOp (fGt) (pMk m_number_of (pCons (pOp fIx (pV 0) (pC (.d (.int 4)))) pNil)) (pMk m_number_of (pCons (pOp fIx (pV 1) (pC (.d (.int 4)))) pNil))))) (pRet (pC (.d (.bool false)))) pNx) (pSeq (pAsg (gT 3 (gC (gN 2) (gC (gN 3) (gC (gN 4) gE)))) (pSl fSl (pV 0) (pC none) (pPart (pC (.d (.int 3)))))) (pSeq (pAsg (gN 5) (pAndV (pOp (fEq) (pV 2) (pC (.d (.str "cells")))) (pOp (fIn false) (pMk mTup (pCons (pV 3) (pCons (pV 4) pNil))) (pC (.kt (.tuple [(.tuple [(.str "put"), (.str "get")]), (.tuple [(.str "get"), (.str "put")]), (.tuple [(.str "put"), (.str "put")])])))))) (pSeq (pIf (pAnd (pB (pV 5)) (pB (pOp (fEq) (pOp fIx (pV 1) (pC (.d (.int 3)))) (pC (.d (.str "read")))))) (pRet (pC (.d (.bool true)))) pNx) (pSeq (pIf (pB (pOp (fLt) (pMk m_number_of (pCons (pOp fIx (pV 0) (pC (.d (.int 3)))) pNil)) (pMk m_number_of (pCons (pOp fIx (pV 1) (pC (.d (.int 3)))) pNil)))) (pRet (pC (.d (.bool false)))) pNx) (pSeq (pIf (pOr (pB (pOp (fEq) (pV 2) (pOp fIx (pV 1) (pC (.d (.int 0)))))) (pB (pMk m_holds_always (pCons (pV 2) (pCons (pV 3) (pCons (pV 4) pNil)))))) (pRet (pC (.d (.bool true)))) pNx) (pRet (pAndV (pV 5) (pOp (fIn false) (pOp fIx (pV 0) (pC (.d (.int 4)))) (pMk mTup (pCons (pC (.d (.str "lay"))) (pCons (pC (.d (.str "read"))) pNil))))))))))))
def m_forces : List D → Option D := mOf 6 2 b_forces
theorem g_forces (T : Tp P K mg) : Gf P w K mg base "forces" 2 2 m_forces := by
  refine Hush.hu (gf_of (N := ["strong", "weak", "relation", "first", "second", "waits"]) (ps := ["strong", "weak"]) T.f_forces ⟨rfl, rfl, rfl, by decide +kernel, rfl, by decide +kernel, by decide +kernel⟩ rfl fun f cdv A outer s H E Wf I =>
    (qss_cons (qs_if (qw_pt (qw_or (qt_cmp (o_ne Wf) (qe_slice (o_sl Wf) (qe_v 0) (qo_some qe_int) (qo_some qe_int)) (qe_slice (o_sl Wf) (qe_v 1) (qo_some qe_int) (qo_some qe_int))) (qw_or1 (qt_cmp (o_gt Wf) (qe_call Wf (g_number_of T) (by decide) (qa_cons (qe_ix (o_ix Wf) (qe_v 0) qe_int) qa_nil)) (qe_call Wf (g_number_of T) (by decide) (qa_cons (qe_ix (o_ix Wf) (qe_v 1) qe_int) qa_nil)))))) (qss_one (qs_ret qe_bl)) qss_nil) (qss_cons (qs_asg (qe_slice (o_sl Wf) (qe_v 0) qo_none (qo_some qe_int)) (dg_tup Wf (dgs_cons (dg_n Wf 2) (dgs_cons (dg_n Wf 3) (dgs_cons (dg_n Wf 4) dgs_e))))) (qss_cons (qs_asg (qe_and (qe_cmp (o_eq Wf) (qe_v 2) qe_str) (qe_and1 (qe_cmp (o_in Wf) (qe_tup (qa_cons (qe_v 3) (qa_cons (qe_v 4) qa_nil))) (qe_g Wf T.c_STORES)))) (dg_n Wf 5)) (qss_cons (qs_if (qw_pt (qw_and (qt_val (qe_v 5)) (qw_and1 (qt_cmp (o_eq Wf) (qe_ix (o_ix Wf) (qe_v 1) qe_int) qe_str)))) (qss_one (qs_ret qe_bl)) qss_nil) (qss_cons (qs_if (qt_cmp (o_lt Wf) (qe_call Wf (g_number_of T) (by decide) (qa_cons (qe_ix (o_ix Wf) (qe_v 0) qe_int) qa_nil)) (qe_call Wf (g_number_of T) (by decide) (qa_cons (qe_ix (o_ix Wf) (qe_v 1) qe_int) qa_nil))) (qss_one (qs_ret qe_bl)) qss_nil) (qss_cons (qs_if (qw_pt (qw_or (qt_cmp (o_eq Wf) (qe_v 2) (qe_ix (o_ix Wf) (qe_v 1) qe_int)) (qw_or1 (qt_val (qe_call Wf (g_holds_always T) (by decide) (qa_cons (qe_v 2) (qa_cons (qe_v 3) (qa_cons (qe_v 4) qa_nil)))))))) (qss_one (qs_ret qe_bl)) qss_nil) (qss_one (qs_ret (qe_and (qe_v 5) (qe_and1 (qe_cmp (o_in Wf) (qe_ix (o_ix Wf) (qe_v 0) qe_int) (qe_tup (qa_cons qe_str (qa_cons qe_str qa_nil))))))))))))))) ?_
  walk_at "hu"
abbrev l_forced_by_table_0 : Pm D := (pMk m_forces (pCons (pV 2) (pCons (pV 1) pNil)))
def b_forced_by_table : Pm Out := (pRet (pMk cAny (pCons (pMk mLst (pLc (gN 2) [2] (pIt (pOp fIx (pV 0) (pC (.d (.int 4))))) (pC true) l_forced_by_table_0)) pNil)))
def m_forced_by_table : List D → Option D := mOf 3 2 b_forced_by_table
theorem g_forced_by_table (T : Tp P K mg) : Gf P w K mg base "forced_by_table" 3 2 m_forced_by_table := by
  refine Hush.hu (gf_of (N := ["design", "entry", "one"]) (ps := ["design", "entry"]) T.f_forced_by_table ⟨rfl, rfl, rfl, by decide +kernel, rfl, by decide +kernel, by decide +kernel⟩ rfl fun f cdv A outer s H E Wf I =>
    (qss_one (qs_ret (qe_callB Wf (c_any Wf) T.n_any b_any (qa_cons (qe_lc [("one", 2)] Wf (fun _ => blkOk_by (by kernel_rfl)) (qi_seq Wf (qe_ix (o_ix Wf) (qe_v 0) qe_int)) (dgv_name (Wf.blk _) 2 (by decide)) qts_nil (qe_call (Wf.blk _) (g_forces T) (by decide) (qa_cons (qe_v 2) (qa_cons (qe_v 1) qa_nil)))) qa_nil))))) ?_
  walk_at "hu"
def b_can_hold : Pm Out := (pSeq (pAsg (gT 3 (gC (gN 1) (gC (gN 2) (gC (gN 3) gE)))) (pSl fSl (pV 0) (pC none) (pPart (pC (.d (.int 3)))))) (pSeq (pIf (pB (pOp (fEq) (pV 1) (pC (.d (.str "feeds"))))) (pRet (pAndV (pOp (fIn false) (pV 2) (pC (.kt (.tuple [(.str "set"), (.str "sum"), (.str "get")])))) (pOp (fNe) (pV 3) (pC (.d (.str "set")))))) pNx) (pSeq (pIf (pB (pOp (fEq) (pV 1) (pC (.d (.str "used"))))) (pRet (pAndV (pOp (fNe) (pV 2) (pC (.d (.str "set")))) (pOp (fIn false) (pV 3) (pC (.kt (.tuple [(.str "set"), (.str "sum"), (.str "get")])))))) pNx) (pSeq (pIf (pB (pOp (fEq) (pV 1) (pC (.d (.str "same"))))) (pRet (pAndV (pOp (fIn false) (pV 2) (pC (.kt (.tuple [(.str "set"), (.str "sum"), (.str "get")])))) (pOp (fIn false) (pV 3) (pC (.kt (.tuple [(.str "set"), (.str "sum"), (.str "get")])))))) pNx) (pSeq (pIf (pB (pOp (fIn false) (pV 1) (pMk mTup (pCons (pC (.d (.str "cells"))) (pCons (pC (.d (.str "memory"))) pNil))))) (pRet (pOp (fIn false) (pMk mTup (pCons (pV 2) (pCons (pV 3) pNil))) (pC (.kt (.tuple [(.tuple [(.str "put"), (.str "get")]), (.tuple [(.str "get"), (.str "put")]), (.tuple [(.str "put"), (.str "put")])]))))) pNx) (pSeq (pIf (pB (pOp (fEq) (pV 1) (pC (.d (.str "shows"))))) (pRet (pAndV (pOp (fEq) (pV 2) (pC (.d (.str "show")))) (pOp (fEq) (pV 3) (pC (.d (.str "show")))))) pNx) (pRet (pOrV (pOp (fEq) (pV 1) (pC (.d (.str "any")))) (pOp (fEq) (pV 2) (pC (.d (.str "if"))))))))))))
def m_can_hold : List D → Option D := mOf 4 1 b_can_hold
theorem g_can_hold (T : Tp P K mg) : Gf P w K mg base "can_hold" 1 1 m_can_hold := by
  refine Hush.hu (gf_of (N := ["entry", "relation", "first", "second"]) (ps := ["entry"]) T.f_can_hold ⟨rfl, rfl, rfl, by decide +kernel, rfl, by decide +kernel, by decide +kernel⟩ rfl fun f cdv A outer s H E Wf I =>
    (qss_cons (qs_asg (qe_slice (o_sl Wf) (qe_v 0) qo_none (qo_some qe_int)) (dg_tup Wf (dgs_cons (dg_n Wf 1) (dgs_cons (dg_n Wf 2) (dgs_cons (dg_n Wf 3) dgs_e))))) (qss_cons (qs_if (qt_cmp (o_eq Wf) (qe_v 1) qe_str) (qss_one (qs_ret (qe_and (qe_cmp (o_in Wf) (qe_v 2) (qe_g Wf (T.c_WRITING).c)) (qe_and1 (qe_cmp (o_ne Wf) (qe_v 3) qe_str))))) qss_nil) (qss_cons (qs_if (qt_cmp (o_eq Wf) (qe_v 1) qe_str) (qss_one (qs_ret (qe_and (qe_cmp (o_ne Wf) (qe_v 2) qe_str) (qe_and1 (qe_cmp (o_in Wf) (qe_v 3) (qe_g Wf (T.c_WRITING).c)))))) qss_nil) (qss_cons (qs_if (qt_cmp (o_eq Wf) (qe_v 1) qe_str) (qss_one (qs_ret (qe_and (qe_cmp (o_in Wf) (qe_v 2) (qe_g Wf (T.c_WRITING).c)) (qe_and1 (qe_cmp (o_in Wf) (qe_v 3) (qe_g Wf (T.c_WRITING).c)))))) qss_nil) (qss_cons (qs_if (qt_cmp (o_in Wf) (qe_v 1) (qe_tup (qa_cons qe_str (qa_cons qe_str qa_nil)))) (qss_one (qs_ret (qe_cmp (o_in Wf) (qe_tup (qa_cons (qe_v 2) (qa_cons (qe_v 3) qa_nil))) (qe_g Wf T.c_STORES)))) qss_nil) (qss_cons (qs_if (qt_cmp (o_eq Wf) (qe_v 1) qe_str) (qss_one (qs_ret (qe_and (qe_cmp (o_eq Wf) (qe_v 2) qe_str) (qe_and1 (qe_cmp (o_eq Wf) (qe_v 3) qe_str))))) qss_nil) (qss_one (qs_ret (qe_or (qe_cmp (o_eq Wf) (qe_v 1) qe_str) (qe_and1 (qe_cmp (o_eq Wf) (qe_v 2) qe_str)))))))))))) ?_
  walk_at "hu"
def b_forced_in : Pm Out := (pSeq (pIf (pOr (pNot (pB (pMk m_can_hold (pCons (pV 1) pNil)))) (pOr (pB (pOp (fEq) (pOp fIx (pV 0) (pC (.d (.int 0)))) (pC (.d (.int 1))))) (pAnd (pB (pOp fIx (pV 0) (pC (.d (.int 1))))) (pB (pOp (fEq) (pOp fIx (pV 1) (pC (.d (.int 4)))) (pC (.d (.str "out")))))))) (pRet (pC (.d (.bool true)))) pNx) (pRet (pMk m_forced_by_table (pCons (pV 0) (pCons (pV 1) pNil)))))
def m_forced_in : List D → Option D := mOf 2 2 b_forced_in
theorem g_forced_in (T : Tp P K mg) : Gf P w K mg base "forced_in" 4 2 m_forced_in := by
  refine Hush.hu (gf_of (N := ["design", "entry"]) (ps := ["design", "entry"]) T.f_forced_in ⟨rfl, rfl, rfl, by decide +kernel, rfl, by decide +kernel, by decide +kernel⟩ rfl fun f cdv A outer s H E Wf I =>
    (qss_cons (qs_if (qw_pt (qw_or (qt_not (qt_val (qe_call Wf (g_can_hold T) (by decide) (qa_cons (qe_v 1) qa_nil)))) (qw_or (qt_cmp (o_eq Wf) (qe_ix (o_ix Wf) (qe_v 0) qe_int) qe_int) (qw_or1 (qw_pt (qw_and (qt_val (qe_ix (o_ix Wf) (qe_v 0) qe_int)) (qw_and1 (qt_cmp (o_eq Wf) (qe_ix (o_ix Wf) (qe_v 1) qe_int) qe_str)))))))) (qss_one (qs_ret qe_bl)) qss_nil) (qss_one (qs_ret (qe_call Wf (g_forced_by_table T) (by decide) (qa_cons (qe_v 0) (qa_cons (qe_v 1) qa_nil))))))) ?_
  walk_at "hu"
abbrev l_missing_in_0 : Pm D := (pV 1)
def b_missing_in : Sm Out := (sRet (sMk mLst (sLc (gN 1) [1] (sIt (sCall m_needs_in (lift (pCons (pV 0) pNil)))) (lift (pNot (pB (pMk m_forced_in (pCons (pV 0) (pCons (pV 1) pNil)))))) (lift l_missing_in_0))))
def m_missing_in : List D → Ts → R D := mOfS 2 1 b_missing_in
theorem g_missing_in (T : Tp P K mg) : Gs P w K mg base "missing_in" 5 1 m_missing_in := by
  refine Hush.hu (gs_of (N := ["design", "need"]) (ps := ["design"]) T.f_missing_in ⟨rfl, rfl, rfl, by decide +kernel, rfl, by decide +kernel, by decide +kernel⟩ rfl fun f cdv A outer s H E Wf tk I im =>
    (dss_one (ds_ret (de_lc [("need", 1)] Wf (fun _ => blkOk_by (by kernel_rfl)) (di_seq Wf (de_callS Wf tk im (g_needs_in T) (by decide) (qa_cons (qe_v 0) qa_nil))) (dgv_name (Wf.blk _) 1 (by decide)) (qts_one (qt_not (qt_val (qe_call (Wf.blk _) (g_forced_in T) (by decide) (qa_cons (qe_v 0) (qa_cons (qe_v 1) qa_nil)))))) (qe_v 1))))) ?_
  walk_at "hu"
def b_is_right : Sm Out := (sSeq (sExp (sCall m_need_design (lift (pCons (pV 0) pNil)))) (sRet (sOp (fEq) (sCall m_missing_in (lift (pCons (pV 0) pNil))) (lift (pMk mLst pNil)))))
def m_is_right : List D → Ts → R D := mOfS 1 1 b_is_right
theorem g_is_right (T : Tp P K mg) : Gs P w K mg base "is_right" 6 1 m_is_right := by
  refine Hush.hu (gs_of (N := ["design"]) (ps := ["design"]) T.f_is_right ⟨rfl, rfl, rfl, by decide +kernel, rfl, by decide +kernel, by decide +kernel⟩ rfl fun f cdv A outer s H E Wf tk I im =>
    (dss_cons (ds_exp (de_callS Wf tk im (g_need_design T) (by decide) (qa_cons (qe_v 0) qa_nil))) (dss_one (ds_ret (de_cmp (o_eq Wf) (de_callS Wf tk im (g_missing_in T) (by decide) (qa_cons (qe_v 0) qa_nil)) (qe_lst qa_nil)))))) ?_
  walk_at "hu"
abbrev w__law_wrong : Sm Out := (sSeq (sAsg (gN 2) (sMk mLst (sCons (sIsX is_BadDesign (lift (pV 1))) (sCons (sIsX is_BadBlock (lift (pV 1))) (sCons (sIsX is_BadState (lift (pV 1))) (sCons (sIsX is_NotMade (lift (pV 1))) (lift pNil))))))) (sSeq (sAsg (gN 2) (sOp fAdd (lift (pV 2)) (sMk mLst (sCons (sIsX is_BadEntry (lift (pV 1))) (lift pNil))))) (lift (pRet (pIf (pB (pOp (fEq) (pOp fLCnt (pV 2) (pC (.d (.bool true)))) (pC (.d (.int 1))))) (pOp fIx (pMk mLst (pCons (pC (.d (.str "design"))) (pCons (pC (.d (.str "block"))) (pCons (pC (.d (.str "state"))) (pCons (pC (.d (.str "made"))) (pCons (pC (.d (.str "entry"))) pNil)))))) (pOp fLIdx (pV 2) (pC (.d (.bool true))))) (pC (.d (.str "other"))))))))
def b__law_wrong : Nat → (Ts → R D) → Sm Out := fun k L0 => (sSeq (sTry 3 ex_WindowError 1 (sExp (sCl 0 k L0)) w__law_wrong) (lift (pRet (pC (.d (.str ""))))))
def m__law_wrong : Nat → (Ts → R D) → Ts → R D := mOfH 3 b__law_wrong
theorem g__law_wrong (T : Tp P K mg) (j : Nat) : Gh P w K mg base "_law_wrong" j m__law_wrong := by
  refine Hush.hu (⟨"_law_wrong", top 136, "_law_work", ["_law_work", "_law_e", "_law_known"], b__law_wrong, T.f__law_wrong, ⟨rfl, rfl, rfl, by decide +kernel, rfl, by decide +kernel, by decide +kernel⟩, rfl, .inl rfl, by decide, by decide, rfl, fun f cdv A outer s H E Wf tk I k L0 im hcall =>
    (dss_cons (ds_try Wf tk im T.x_WindowError (fun j W2 pn xe tt pa Wt => (dss_one (ds_exp (hcall _ _ _ _ _ tt)))) (fun j a oe cls d pn hz hf Ws => (dss_cons (ds_asg (de_lst (da_cons (de_isx Ws im hz hf T.is_BadDesign (qe_v 1) T.n_isinstance b_isinstance) (da_cons (de_isx Ws im hz hf T.is_BadBlock (qe_v 1) T.n_isinstance b_isinstance) (da_cons (de_isx Ws im hz hf T.is_BadState (qe_v 1) T.n_isinstance b_isinstance) (da_cons (de_isx Ws im hz hf T.is_NotMade (qe_v 1) T.n_isinstance b_isinstance) qa_nil))))) (dg_n Ws 2)) (dss_cons (ds_asg (de_op (o_add Ws) (qe_v 2) (de_lst (da_cons (de_isx Ws im hz hf T.is_BadEntry (qe_v 1) T.n_isinstance b_isinstance) qa_nil))) (dg_n Ws 2)) (qss_one (qs_ret (qe_if (qt_cmp (o_eq Ws) (qe_lcnt Ws (qe_v 2) qe_bl) qe_int) (qe_ix (o_ix Ws) (qe_lst (qa_cons qe_str (qa_cons qe_str (qa_cons qe_str (qa_cons qe_str (qa_cons qe_str qa_nil)))))) (qe_lidx Ws (qe_v 2) qe_bl)) qe_str))))))) (qss_one (qs_ret qe_str)))⟩) ?_
  walk_at "hu"
def b_need_two : Sm Out := (sSeq (sExp (sCall m_need_design (lift (pCons (pV 0) pNil)))) (sSeq (sExp (sCall m_need_design (lift (pCons (pV 1) pNil)))) (sIf (sOr (sB (sOp (fNe) (sCall m_missing_in (lift (pCons (pV 0) pNil))) (lift (pMk mLst pNil)))) (sOr (sB (sOp (fNe) (sCall m_missing_in (lift (pCons (pV 1) pNil))) (lift (pMk mLst pNil)))) (lift (pB (pOp (fNe) (pSl fSl (pV 0) (pPart (pC (.d (.int 2)))) (pPart (pC (.d (.int 4))))) (pSl fSl (pV 1) (pPart (pC (.d (.int 2)))) (pPart (pC (.d (.int 4)))))))))) (sRaise "NotMade") (lift pNx))))
def m_need_two : List D → Ts → R D := mOfS 2 2 b_need_two
theorem g_need_two (T : Tp P K mg) : Gs P w K mg base "need_two" 6 2 m_need_two := by
  refine Hush.hu (gs_of (N := ["one", "other"]) (ps := ["one", "other"]) T.f_need_two ⟨rfl, rfl, rfl, by decide +kernel, rfl, by decide +kernel, by decide +kernel⟩ rfl fun f cdv A outer s H E Wf tk I im =>
    (dss_cons (ds_exp (de_callS Wf tk im (g_need_design T) (by decide) (qa_cons (qe_v 0) qa_nil))) (dss_cons (ds_exp (de_callS Wf tk im (g_need_design T) (by decide) (qa_cons (qe_v 1) qa_nil))) (dss_one (ds_if (dw_pt (dw_or (dt_cmp (o_ne Wf) (de_callS Wf tk im (g_missing_in T) (by decide) (qa_cons (qe_v 0) qa_nil)) (qe_lst qa_nil)) (dw_or (dt_cmp (o_ne Wf) (de_callS Wf tk im (g_missing_in T) (by decide) (qa_cons (qe_v 1) qa_nil)) (qe_lst qa_nil)) (qw_or1 (qt_cmp (o_ne Wf) (qe_slice (o_sl Wf) (qe_v 0) (qo_some qe_int) (qo_some qe_int)) (qe_slice (o_sl Wf) (qe_v 1) (qo_some qe_int) (qo_some qe_int))))))) (dss_one (ds_raise Wf tk im T.e_NotMade)) qss_nil))))) ?_
  walk_at "hu"
def b_barred_row : Sm Out := (sSeq (sExp (sCall m_need_two (lift (pCons (pV 0) (pCons (pV 1) pNil))))) (lift pNo))
def m_barred_row : List D → Ts → R D := mOfS 2 2 b_barred_row
theorem g_barred_row (T : Tp P K mg) : Gs P w K mg base "barred_row" 7 2 m_barred_row := by
  refine Hush.hu (gs_of (N := ["one", "other"]) (ps := ["one", "other"]) T.f_barred_row ⟨rfl, rfl, rfl, by decide +kernel, rfl, by decide +kernel, by decide +kernel⟩ rfl fun f cdv A outer s H E Wf tk I im =>
    (dss_cons (ds_exp (de_callS Wf tk im (g_need_two T) (by decide) (qa_cons (qe_v 0) (qa_cons (qe_v 1) qa_nil)))) (qss_one qs_never))) ?_
  walk_at "hu"
def b_lets_by_all : Sm Out := (sRet (sOp (fIs) (sCall m_barred_row (lift (pCons (pV 0) (pCons (pV 1) pNil)))) (lift (pC (.d .none)))))
def m_lets_by_all : List D → Ts → R D := mOfS 2 2 b_lets_by_all
theorem g_lets_by_all (T : Tp P K mg) : Gs P w K mg base "lets_by_all" 8 2 m_lets_by_all := by
  refine Hush.hu (gs_of (N := ["one", "other"]) (ps := ["one", "other"]) T.f_lets_by_all ⟨rfl, rfl, rfl, by decide +kernel, rfl, by decide +kernel, by decide +kernel⟩ rfl fun f cdv A outer s H E Wf tk I im =>
    (dss_one (ds_ret (de_cmp (o_is Wf) (de_callS Wf tk im (g_barred_row T) (by decide) (qa_cons (qe_v 0) (qa_cons (qe_v 1) qa_nil))) qe_non)))) ?_
  walk_at "hu"
def b_freest : Sm Out := (sSeq (sExp (sCall m_need_design (lift (pCons (pV 0) pNil)))) (lift pNo))
def m_freest : List D → Ts → R D := mOfS 1 1 b_freest
theorem g_freest (T : Tp P K mg) : Gs P w K mg base "freest" 6 1 m_freest := by
  refine Hush.hu (gs_of (N := ["design"]) (ps := ["design"]) T.f_freest ⟨rfl, rfl, rfl, by decide +kernel, rfl, by decide +kernel, by decide +kernel⟩ rfl fun f cdv A outer s H E Wf tk I im =>
    (dss_cons (ds_exp (de_callS Wf tk im (g_need_design T) (by decide) (qa_cons (qe_v 0) qa_nil))) (qss_one qs_never))) ?_
  walk_at "hu"
def b_unclean : Sm Out := (sSeq (sExp (sCall m_need_design (lift (pCons (pV 0) pNil)))) (sSeq (sAsg (gN 1) (sCall m_missing_in (lift (pCons (pV 0) pNil)))) (lift (pSeq (pIf (pB (pOp (fNe) (pV 1) (pMk mLst pNil))) pNo pNx) pNo))))
def m_unclean : List D → Ts → R D := mOfS 2 1 b_unclean
theorem g_unclean (T : Tp P K mg) : Gs P w K mg base "unclean" 6 1 m_unclean := by
  refine Hush.hu (gs_of (N := ["design", "some"]) (ps := ["design"]) T.f_unclean ⟨rfl, rfl, rfl, by decide +kernel, rfl, by decide +kernel, by decide +kernel⟩ rfl fun f cdv A outer s H E Wf tk I im =>
    (dss_cons (ds_exp (de_callS Wf tk im (g_need_design T) (by decide) (qa_cons (qe_v 0) qa_nil))) (dss_cons (ds_asg (de_callS Wf tk im (g_missing_in T) (by decide) (qa_cons (qe_v 0) qa_nil)) (dg_n Wf 1)) (qss_cons (qs_if (qt_cmp (o_ne Wf) (qe_v 1) (qe_lst qa_nil)) (qss_one qs_never) qss_nil) (qss_one qs_never))))) ?_
  walk_at "hu"
def b_need_entry : Sm Out := (sIf (lift (pNot (pB (pMk m_is_entry (pCons (pV 0) pNil))))) (sRaise "BadEntry") (lift pNx))
def m_need_entry : List D → Ts → R D := mOfS 1 1 b_need_entry
theorem g_need_entry (T : Tp P K mg) : Gs P w K mg base "need_entry" 3 1 m_need_entry := by
  refine Hush.hu (gs_of (N := ["entry"]) (ps := ["entry"]) T.f_need_entry ⟨rfl, rfl, rfl, by decide +kernel, rfl, by decide +kernel, by decide +kernel⟩ rfl fun f cdv A outer s H E Wf tk I im =>
    (dss_one (ds_if (qt_not (qt_val (qe_call Wf (g_is_entry T) (by decide) (qa_cons (qe_v 0) qa_nil)))) (dss_one (ds_raise Wf tk im T.e_BadEntry)) qss_nil))) ?_
  walk_at "hu"
def b_shown : Sm Out := (sSeq (sExp (sCall m_need_design (lift (pCons (pV 0) pNil)))) (sSeq (sExp (sCall m_need_entry (lift (pCons (pV 1) pNil)))) (sSeq (sIf (sB (sOp (fIn true) (lift (pV 1)) (sCall m_missing_in (lift (pCons (pV 0) pNil))))) (sRaise "NotMade") (lift pNx)) (lift pNo))))
def m_shown : List D → Ts → R D := mOfS 2 2 b_shown
theorem g_shown (T : Tp P K mg) : Gs P w K mg base "shown" 6 2 m_shown := by
  refine Hush.hu (gs_of (N := ["design", "need"]) (ps := ["design", "need"]) T.f_shown ⟨rfl, rfl, rfl, by decide +kernel, rfl, by decide +kernel, by decide +kernel⟩ rfl fun f cdv A outer s H E Wf tk I im =>
    (dss_cons (ds_exp (de_callS Wf tk im (g_need_design T) (by decide) (qa_cons (qe_v 0) qa_nil))) (dss_cons (ds_exp (de_callS Wf tk im (g_need_entry T) (by decide) (qa_cons (qe_v 1) qa_nil))) (dss_cons (ds_if (dt_cmp (o_nin Wf) (qe_v 1) (de_callS Wf tk im (g_missing_in T) (by decide) (qa_cons (qe_v 0) qa_nil))) (dss_one (ds_raise Wf tk im T.e_NotMade)) qss_nil) (qss_one qs_never))))) ?_
  walk_at "hu"
def b_effective_width : Sm Out := (sSeq (sExp (sCall m_need_design (lift (pCons (pV 0) pNil)))) (lift pNo))
def m_effective_width : List D → Ts → R D := mOfS 1 1 b_effective_width
theorem g_effective_width (T : Tp P K mg) : Gs P w K mg base "effective_width" 6 1 m_effective_width := by
  refine Hush.hu (gs_of (N := ["design"]) (ps := ["design"]) T.f_effective_width ⟨rfl, rfl, rfl, by decide +kernel, rfl, by decide +kernel, by decide +kernel⟩ rfl fun f cdv A outer s H E Wf tk I im =>
    (dss_cons (ds_exp (de_callS Wf tk im (g_need_design T) (by decide) (qa_cons (qe_v 0) qa_nil))) (qss_one qs_never))) ?_
  walk_at "hu"
def b_is_word : Pm Out := (pRet (pMk m_is_in (pCons (pV 0) (pCons (pC (.d (.int 0))) (pCons (pOp fSub (pC (.d (.int 256))) (pC (.d (.int 1)))) pNil)))))
def m_is_word : List D → Option D := mOf 1 1 b_is_word
theorem g_is_word (T : Tp P K mg) : Gf P w K mg base "is_word" 3 1 m_is_word := by
  refine Hush.hu (gf_of (N := ["value"]) (ps := ["value"]) T.f_is_word ⟨rfl, rfl, rfl, by decide +kernel, rfl, by decide +kernel, by decide +kernel⟩ rfl fun f cdv A outer s H E Wf I =>
    (qss_one (qs_ret (qe_call Wf (g_is_in T) (by decide) (qa_cons (qe_v 0) (qa_cons qe_int (qa_cons (qe_op (o_sub Wf) (qe_g Wf T.c_WORDS) qe_int) qa_nil))))))) ?_
  walk_at "hu"
abbrev l_are_words_0 : Pm D := (pMk m_is_word (pCons (pV 3) pNil))
def b_are_words : Pm Out := (pRet (pAndV (pMk m_is_list (pCons (pV 0) (pCons (pV 1) (pCons (pV 2) pNil)))) (pMk cAll (pCons (pMk mLst (pLc (gN 3) [3] (pIt (pV 0)) (pC true) l_are_words_0)) pNil))))
def m_are_words : List D → Option D := mOf 4 3 b_are_words
theorem g_are_words (T : Tp P K mg) : Gf P w K mg base "are_words" 4 3 m_are_words := by
  refine Hush.hu (gf_of (N := ["value", "least", "most", "one"]) (ps := ["value", "least", "most"]) T.f_are_words ⟨rfl, rfl, rfl, by decide +kernel, rfl, by decide +kernel, by decide +kernel⟩ rfl fun f cdv A outer s H E Wf I =>
    (qss_one (qs_ret (qe_and (qe_call Wf (g_is_list T) (by decide) (qa_cons (qe_v 0) (qa_cons (qe_v 1) (qa_cons (qe_v 2) qa_nil)))) (qe_and1 (qe_callB Wf (c_all Wf) T.n_all b_all (qa_cons (qe_lc [("one", 3)] Wf (fun _ => blkOk_by (by kernel_rfl)) (qi_seq Wf (qe_v 0)) (dgv_name (Wf.blk _) 3 (by decide)) qts_nil (qe_call (Wf.blk _) (g_is_word T) (by decide) (qa_cons (qe_v 3) qa_nil))) qa_nil))))))) ?_
  walk_at "hu"
def b_need_state : Sm Out := (sSeq (sIf (lift (pOr (pNot (pB (pMk m_is_list (pCons (pV 0) (pCons (pC (.d (.int 3))) (pCons (pC (.d (.int 3))) pNil)))))) (pNot (pB (pMk m_are_words (pCons (pOp fIx (pV 0) (pC (.d (.int 0)))) (pCons (pC (.d (.int 8))) (pCons (pC (.d (.int 8))) pNil)))))))) (sRaise "BadState") (lift pNx)) (sIf (lift (pOr (pNot (pB (pMk m_are_words (pCons (pOp fIx (pV 0) (pC (.d (.int 1)))) (pCons (pC (.d (.int 8))) (pCons (pC (.d (.int 8))) pNil)))))) (pNot (pB (pMk m_are_words (pCons (pOp fIx (pV 0) (pC (.d (.int 2)))) (pCons (pC (.d (.int 0))) (pCons (pC (.d (.int 500))) pNil)))))))) (sRaise "BadState") (lift pNx)))
def m_need_state : List D → Ts → R D := mOfS 1 1 b_need_state
theorem g_need_state (T : Tp P K mg) : Gs P w K mg base "need_state" 5 1 m_need_state := by
  refine Hush.hu (gs_of (N := ["state"]) (ps := ["state"]) T.f_need_state ⟨rfl, rfl, rfl, by decide +kernel, rfl, by decide +kernel, by decide +kernel⟩ rfl fun f cdv A outer s H E Wf tk I im =>
    (dss_cons (ds_if (qw_pt (qw_or (qt_not (qt_val (qe_call Wf (g_is_list T) (by decide) (qa_cons (qe_v 0) (qa_cons qe_int (qa_cons qe_int qa_nil)))))) (qw_or1 (qt_not (qt_val (qe_call Wf (g_are_words T) (by decide) (qa_cons (qe_ix (o_ix Wf) (qe_v 0) qe_int) (qa_cons (qe_g Wf T.c_REGISTERS) (qa_cons (qe_g Wf T.c_REGISTERS) qa_nil))))))))) (dss_one (ds_raise Wf tk im T.e_BadState)) qss_nil) (dss_one (ds_if (qw_pt (qw_or (qt_not (qt_val (qe_call Wf (g_are_words T) (by decide) (qa_cons (qe_ix (o_ix Wf) (qe_v 0) qe_int) (qa_cons (qe_g Wf T.c_CELLS) (qa_cons (qe_g Wf T.c_CELLS) qa_nil)))))) (qw_or1 (qt_not (qt_val (qe_call Wf (g_are_words T) (by decide) (qa_cons (qe_ix (o_ix Wf) (qe_v 0) qe_int) (qa_cons qe_int (qa_cons (qe_g Wf T.c_MOST_SHOWN) qa_nil))))))))) (dss_one (ds_raise Wf tk im T.e_BadState)) qss_nil)))) ?_
  walk_at "hu"
abbrev l_are_registers_0 : Pm D := (pMk m_is_in (pCons (pV 1) (pCons (pC (.d (.int 0))) (pCons (pOp fSub (pC (.d (.int 8))) (pC (.d (.int 1)))) pNil))))
def b_are_registers : Pm Out := (pRet (pMk cAll (pCons (pMk mLst (pLc (gN 1) [1] (pIt (pV 0)) (pC true) l_are_registers_0)) pNil)))
def m_are_registers : List D → Option D := mOf 2 1 b_are_registers
theorem g_are_registers (T : Tp P K mg) : Gf P w K mg base "are_registers" 3 1 m_are_registers := by
  refine Hush.hu (gf_of (N := ["values", "one"]) (ps := ["values"]) T.f_are_registers ⟨rfl, rfl, rfl, by decide +kernel, rfl, by decide +kernel, by decide +kernel⟩ rfl fun f cdv A outer s H E Wf I =>
    (qss_one (qs_ret (qe_callB Wf (c_all Wf) T.n_all b_all (qa_cons (qe_lc [("one", 1)] Wf (fun _ => blkOk_by (by kernel_rfl)) (qi_seq Wf (qe_v 0)) (dgv_name (Wf.blk _) 1 (by decide)) qts_nil (qe_call (Wf.blk _) (g_is_in T) (by decide) (qa_cons (qe_v 1) (qa_cons qe_int (qa_cons (qe_op (o_sub (Wf.blk _)) (qe_g (Wf.blk _) T.c_REGISTERS) qe_int) qa_nil))))) qa_nil))))) ?_
  walk_at "hu"
def b_is_instruction_up_to : Pm Out := (pSeq (pIf (pOr (pNot (pB (pMk m_is_list (pCons (pV 0) (pCons (pC (.d (.int 1))) (pCons (pC (.d (.int 5))) pNil)))))) (pOr (pNot (pB (pMk cIsi (pCons (pOp fIx (pV 0) (pC (.d (.int 0)))) (pCons (pC (.o (.ty "str"))) pNil))))) (pB (pOp (fIn true) (pOp fIx (pV 0) (pC (.d (.int 0)))) (pC (.kt (.tuple [(.str "set"), (.str "sum"), (.str "get"), (.str "put"), (.str "if"), (.str "show")]))))))) (pRet (pC (.d (.bool false)))) pNx) (pSeq (pPar2 2 3 (pCons (pOp fIx (pV 0) (pC (.d (.int 0)))) (pCons (pSl fSl (pV 0) (pPart (pC (.d (.int 1)))) (pC none)) pNil))) (pSeq (pIf (pB (pOp (fEq) (pV 2) (pC (.d (.str "set"))))) (pRet (pAndV (pOp (fEq) (pMk cLen (pCons (pV 3) pNil)) (pC (.d (.int 2)))) (pAndV (pMk m_are_registers (pCons (pSl fSl (pV 3) (pC none) (pPart (pC (.d (.int 1))))) pNil)) (pMk m_is_word (pCons (pOp fIx (pV 3) (pC (.d (.int 1)))) pNil))))) pNx) (pSeq (pIf (pB (pOp (fEq) (pV 2) (pC (.d (.str "sum"))))) (pRet (pAndV (pOp (fEq) (pMk cLen (pCons (pV 3) pNil)) (pC (.d (.int 4)))) (pAndV (pMk m_are_registers (pCons (pSl fSl (pV 3) (pC none) (pPart (pC (.d (.int 3))))) pNil)) (pMk m_is_word (pCons (pOp fIx (pV 3) (pC (.d (.int 3)))) pNil))))) pNx) (pSeq (pIf (pB (pOp (fIn false) (pV 2) (pMk mTup (pCons (pC (.d (.str "get"))) (pCons (pC (.d (.str "put"))) pNil))))) (pRet (pAndV (pOp (fEq) (pMk cLen (pCons (pV 3) pNil)) (pC (.d (.int 3)))) (pAndV (pMk m_are_registers (pCons (pSl fSl (pV 3) (pC none) (pPart (pC (.d (.int 2))))) pNil)) (pMk m_is_in (pCons (pOp fIx (pV 3) (pC (.d (.int 2)))) (pCons (pC (.d (.int 0))) (pCons (pOp fSub (pC (.d (.int 8))) (pC (.d (.int 1)))) pNil))))))) pNx) (pSeq (pIf (pB (pOp (fEq) (pV 2) (pC (.d (.str "if"))))) (pRet (pAndV (pOp (fEq) (pMk cLen (pCons (pV 3) pNil)) (pC (.d (.int 2)))) (pAndV (pMk m_are_registers (pCons (pSl fSl (pV 3) (pC none) (pPart (pC (.d (.int 1))))) pNil)) (pMk m_is_in (pCons (pOp fIx (pV 3) (pC (.d (.int 1)))) (pCons (pC (.d (.int 0))) (pCons (pV 1) pNil))))))) pNx) (pRet (pAndV (pOp (fEq) (pMk cLen (pCons (pV 3) pNil)) (pC (.d (.int 1)))) (pMk m_are_registers (pCons (pV 3) pNil))))))))))
def m_is_instruction_up_to : List D → Option D := mOf 4 2 b_is_instruction_up_to
theorem g_is_instruction_up_to (T : Tp P K mg) : Gf P w K mg base "is_instruction_up_to" 4 2 m_is_instruction_up_to := by
  refine Hush.hu (gf_of (N := ["value", "most", "kind", "rest"]) (ps := ["value", "most"]) T.f_is_instruction_up_to ⟨rfl, rfl, rfl, by decide +kernel, rfl, by decide +kernel, by decide +kernel⟩ rfl fun f cdv A outer s H E Wf I =>
    (qss_cons (qs_if (qw_pt (qw_or (qt_not (qt_val (qe_call Wf (g_is_list T) (by decide) (qa_cons (qe_v 0) (qa_cons qe_int (qa_cons qe_int qa_nil)))))) (qw_or (qt_not (qt_val (qe_callB Wf (c_isi Wf) T.n_isinstance b_isinstance (qa_cons (qe_ix (o_ix Wf) (qe_v 0) qe_int) (qa_cons (qe_ty Wf T.n_str b_str) qa_nil))))) (qw_or1 (qt_cmp (o_nin Wf) (qe_ix (o_ix Wf) (qe_v 0) qe_int) (qe_g Wf (T.c_KINDS).c)))))) (qss_one (qs_ret qe_bl)) qss_nil) (qss_cons (qs_par2 Wf 2 3 (by decide) (qa_cons (qe_ix (o_ix Wf) (qe_v 0) qe_int) (qa_cons (qe_slice (o_sl Wf) (qe_v 0) (qo_some qe_int) qo_none) qa_nil)) (fun _ => rfl)) (qss_cons (qs_if (qt_cmp (o_eq Wf) (qe_v 2) qe_str) (qss_one (qs_ret (qe_and (qe_cmp (o_eq Wf) (qe_callB Wf (c_len Wf) T.n_len b_len (qa_cons (qe_v 3) qa_nil)) qe_int) (qe_and (qe_call Wf (g_are_registers T) (by decide) (qa_cons (qe_slice (o_sl Wf) (qe_v 3) qo_none (qo_some qe_int)) qa_nil)) (qe_and1 (qe_call Wf (g_is_word T) (by decide) (qa_cons (qe_ix (o_ix Wf) (qe_v 3) qe_int) qa_nil))))))) qss_nil) (qss_cons (qs_if (qt_cmp (o_eq Wf) (qe_v 2) qe_str) (qss_one (qs_ret (qe_and (qe_cmp (o_eq Wf) (qe_callB Wf (c_len Wf) T.n_len b_len (qa_cons (qe_v 3) qa_nil)) qe_int) (qe_and (qe_call Wf (g_are_registers T) (by decide) (qa_cons (qe_slice (o_sl Wf) (qe_v 3) qo_none (qo_some qe_int)) qa_nil)) (qe_and1 (qe_call Wf (g_is_word T) (by decide) (qa_cons (qe_ix (o_ix Wf) (qe_v 3) qe_int) qa_nil))))))) qss_nil) (qss_cons (qs_if (qt_cmp (o_in Wf) (qe_v 2) (qe_tup (qa_cons qe_str (qa_cons qe_str qa_nil)))) (qss_one (qs_ret (qe_and (qe_cmp (o_eq Wf) (qe_callB Wf (c_len Wf) T.n_len b_len (qa_cons (qe_v 3) qa_nil)) qe_int) (qe_and (qe_call Wf (g_are_registers T) (by decide) (qa_cons (qe_slice (o_sl Wf) (qe_v 3) qo_none (qo_some qe_int)) qa_nil)) (qe_and1 (qe_call Wf (g_is_in T) (by decide) (qa_cons (qe_ix (o_ix Wf) (qe_v 3) qe_int) (qa_cons qe_int (qa_cons (qe_op (o_sub Wf) (qe_g Wf T.c_CELLS) qe_int) qa_nil))))))))) qss_nil) (qss_cons (qs_if (qt_cmp (o_eq Wf) (qe_v 2) qe_str) (qss_one (qs_ret (qe_and (qe_cmp (o_eq Wf) (qe_callB Wf (c_len Wf) T.n_len b_len (qa_cons (qe_v 3) qa_nil)) qe_int) (qe_and (qe_call Wf (g_are_registers T) (by decide) (qa_cons (qe_slice (o_sl Wf) (qe_v 3) qo_none (qo_some qe_int)) qa_nil)) (qe_and1 (qe_call Wf (g_is_in T) (by decide) (qa_cons (qe_ix (o_ix Wf) (qe_v 3) qe_int) (qa_cons qe_int (qa_cons (qe_v 1) qa_nil))))))))) qss_nil) (qss_one (qs_ret (qe_and (qe_cmp (o_eq Wf) (qe_callB Wf (c_len Wf) T.n_len b_len (qa_cons (qe_v 3) qa_nil)) qe_int) (qe_and1 (qe_call Wf (g_are_registers T) (by decide) (qa_cons (qe_v 3) qa_nil))))))))))))) ?_
  walk_at "hu"
def b_is_instruction : Pm Out := (pRet (pMk m_is_instruction_up_to (pCons (pV 0) (pCons (pC (.d (.int 40))) pNil))))
def m_is_instruction : List D → Option D := mOf 1 1 b_is_instruction
theorem g_is_instruction (T : Tp P K mg) : Gf P w K mg base "is_instruction" 5 1 m_is_instruction := by
  refine Hush.hu (gf_of (N := ["value"]) (ps := ["value"]) T.f_is_instruction ⟨rfl, rfl, rfl, by decide +kernel, rfl, by decide +kernel, by decide +kernel⟩ rfl fun f cdv A outer s H E Wf I =>
    (qss_one (qs_ret (qe_call Wf (g_is_instruction_up_to T) (by decide) (qa_cons (qe_v 0) (qa_cons (qe_g Wf T.c_MOST_INSTRUCTIONS) qa_nil)))))) ?_
  walk_at "hu"
abbrev l_is_block_0 : Pm D := (pMk m_is_instruction (pCons (pV 1) pNil))
abbrev l_is_block_1 : Pm D := (pOp (fEq) (pOp fIx (pV 1) (pC (.d (.int 0)))) (pC (.d (.str "if"))))
def b_is_block : Pm Out := (pSeq (pIf (pOr (pNot (pB (pMk m_is_list (pCons (pV 0) (pCons (pC (.d (.int 0))) (pCons (pC (.d (.int 3))) pNil)))))) (pNot (pB (pMk cAll (pCons (pMk mLst (pLc (gN 1) [1] (pIt (pV 0)) (pC true) l_is_block_0)) pNil))))) (pRet (pC (.d (.bool false)))) pNx) (pRet (pNotV (pMk cAny (pCons (pMk mLst (pLc (gN 1) [1] (pIt (pV 0)) (pC true) l_is_block_1)) pNil)))))
def m_is_block : List D → Option D := mOf 2 1 b_is_block
theorem g_is_block (T : Tp P K mg) : Gf P w K mg base "is_block" 6 1 m_is_block := by
  refine Hush.hu (gf_of (N := ["value", "one"]) (ps := ["value"]) T.f_is_block ⟨rfl, rfl, rfl, by decide +kernel, rfl, by decide +kernel, by decide +kernel⟩ rfl fun f cdv A outer s H E Wf I =>
    (qss_cons (qs_if (qw_pt (qw_or (qt_not (qt_val (qe_call Wf (g_is_list T) (by decide) (qa_cons (qe_v 0) (qa_cons qe_int (qa_cons (qe_g Wf T.c_MOST_BLOCK) qa_nil)))))) (qw_or1 (qt_not (qt_val (qe_callB Wf (c_all Wf) T.n_all b_all (qa_cons (qe_lc [("one", 1)] Wf (fun _ => blkOk_by (by kernel_rfl)) (qi_seq Wf (qe_v 0)) (dgv_name (Wf.blk _) 1 (by decide)) qts_nil (qe_call (Wf.blk _) (g_is_instruction T) (by decide) (qa_cons (qe_v 1) qa_nil))) qa_nil))))))) (qss_one (qs_ret qe_bl)) qss_nil) (qss_one (qs_ret (qe_not (qe_callB Wf (c_any Wf) T.n_any b_any (qa_cons (qe_lc [("one", 1)] Wf (fun _ => blkOk_by (by kernel_rfl)) (qi_seq Wf (qe_v 0)) (dgv_name (Wf.blk _) 1 (by decide)) qts_nil (qe_cmp (o_eq (Wf.blk _)) (qe_ix (o_ix (Wf.blk _)) (qe_v 1) qe_int) qe_str)) qa_nil))))))) ?_
  walk_at "hu"
def b_count_rows : Sm Out := (sSeq (sExp (sCall m_need_design (lift (pCons (pV 0) pNil)))) (sSeq (sIf (lift (pNot (pB (pMk m_is_block (pCons (pV 1) pNil))))) (sRaise "BadBlock") (lift pNx)) (sSeq (sExp (sCall m_need_state (lift (pCons (pV 2) pNil)))) (lift pNo))))
def m_count_rows : List D → Ts → R D := mOfS 3 3 b_count_rows
theorem g_count_rows (T : Tp P K mg) : Gs P w K mg base "count_rows" 7 3 m_count_rows := by
  refine Hush.hu (gs_of (N := ["design", "block", "state"]) (ps := ["design", "block", "state"]) T.f_count_rows ⟨rfl, rfl, rfl, by decide +kernel, rfl, by decide +kernel, by decide +kernel⟩ rfl fun f cdv A outer s H E Wf tk I im =>
    (dss_cons (ds_exp (de_callS Wf tk im (g_need_design T) (by decide) (qa_cons (qe_v 0) qa_nil))) (dss_cons (ds_if (qt_not (qt_val (qe_call Wf (g_is_block T) (by decide) (qa_cons (qe_v 1) qa_nil)))) (dss_one (ds_raise Wf tk im T.e_BadBlock)) qss_nil) (dss_cons (ds_exp (de_callS Wf tk im (g_need_state T) (by decide) (qa_cons (qe_v 2) qa_nil))) (qss_one qs_never))))) ?_
  walk_at "hu"
def b_stops_cleanly : Sm Out := (sSeq (sExp (sCall m_need_design (lift (pCons (pV 0) pNil)))) (lift pNo))
def m_stops_cleanly : List D → Ts → R D := mOfS 1 1 b_stops_cleanly
theorem g_stops_cleanly (T : Tp P K mg) : Gs P w K mg base "stops_cleanly" 6 1 m_stops_cleanly := by
  refine Hush.hu (gs_of (N := ["design"]) (ps := ["design"]) T.f_stops_cleanly ⟨rfl, rfl, rfl, by decide +kernel, rfl, by decide +kernel, by decide +kernel⟩ rfl fun f cdv A outer s H E Wf tk I im =>
    (dss_cons (ds_exp (de_callS Wf tk im (g_need_design T) (by decide) (qa_cons (qe_v 0) qa_nil))) (qss_one qs_never))) ?_
  walk_at "hu"
def b_missing : Sm Out := (sSeq (sExp (sCall m_need_design (lift (pCons (pV 0) pNil)))) (sRet (sMk cTup (sCons (sCall m_missing_in (lift (pCons (pV 0) pNil))) (lift pNil)))))
def m_missing : List D → Ts → R D := mOfS 1 1 b_missing
theorem g_missing (T : Tp P K mg) : Gs P w K mg base "missing" 6 1 m_missing := by
  refine Hush.hu (gs_of (N := ["design"]) (ps := ["design"]) T.f_missing ⟨rfl, rfl, rfl, by decide +kernel, rfl, by decide +kernel, by decide +kernel⟩ rfl fun f cdv A outer s H E Wf tk I im =>
    (dss_cons (ds_exp (de_callS Wf tk im (g_need_design T) (by decide) (qa_cons (qe_v 0) qa_nil))) (dss_one (ds_ret (de_callTy Wf (c_tup Wf) T.n_tuple b_tuple (da_cons (de_callS Wf tk im (g_missing_in T) (by decide) (qa_cons (qe_v 0) qa_nil)) qa_nil)))))) ?_
  walk_at "hu"
def b_first_shown : Sm Out := (sSeq (sExp (sCall m_need_design (lift (pCons (pV 0) pNil)))) (sSeq (sAsg (gN 1) (sCall m_missing_in (lift (pCons (pV 0) pNil)))) (lift pNo)))
def m_first_shown : List D → Ts → R D := mOfS 2 1 b_first_shown
theorem g_first_shown (T : Tp P K mg) : Gs P w K mg base "first_shown" 6 1 m_first_shown := by
  refine Hush.hu (gs_of (N := ["design", "some"]) (ps := ["design"]) T.f_first_shown ⟨rfl, rfl, rfl, by decide +kernel, rfl, by decide +kernel, by decide +kernel⟩ rfl fun f cdv A outer s H E Wf tk I im =>
    (dss_cons (ds_exp (de_callS Wf tk im (g_need_design T) (by decide) (qa_cons (qe_v 0) qa_nil))) (dss_cons (ds_asg (de_callS Wf tk im (g_missing_in T) (by decide) (qa_cons (qe_v 0) qa_nil)) (dg_n Wf 1)) (qss_one qs_never)))) ?_
  walk_at "hu"
def b_least_table : Sm Out := (sSeq (sExp (sCall m_need_design (lift (pCons (pV 0) pNil)))) (lift pNo))
def m_least_table : List D → Ts → R D := mOfS 1 1 b_least_table
theorem g_least_table (T : Tp P K mg) : Gs P w K mg base "least_table" 6 1 m_least_table := by
  refine Hush.hu (gs_of (N := ["design"]) (ps := ["design"]) T.f_least_table ⟨rfl, rfl, rfl, by decide +kernel, rfl, by decide +kernel, by decide +kernel⟩ rfl fun f cdv A outer s H E Wf tk I im =>
    (dss_cons (ds_exp (de_callS Wf tk im (g_need_design T) (by decide) (qa_cons (qe_v 0) qa_nil))) (qss_one qs_never))) ?_
  walk_at "hu"
abbrev l__law_state_0 : Sm D := (sCall m__law_pick (lift (pCons (pV 0) (pCons (pMk mLst (pCons (pC (.d (.int 0))) (pCons (pC (.d (.int 0))) (pCons (pC (.d (.int 1))) (pCons (pC (.d (.int 2))) (pCons (pC (.d (.int 7))) (pCons (pC (.d (.int 255))) pNil))))))) pNil))))
abbrev l__law_state_1 : Sm D := (sCall m__law_taken (lift (pCons (pV 0) (pCons (pC (.d (.int 256))) pNil))))
def b__law_state : Sm Out := (sSeq (sAsg (gN 1) (sOp fAdd (sMk cTup (sCons (sMk mLst (sLc (gN 2) [2] (liftI (pRg mR1 (pCons (pC (.d (.int 3))) pNil))) (lift (pC true)) l__law_state_0)) (lift pNil))) (lift (pMk mTup (pCons (pC (.d (.int 1))) (pCons (pC (.d (.int 2))) (pCons (pC (.d (.int 3))) (pCons (pC (.d (.int 4))) (pCons (pC (.d (.int 0))) pNil))))))))) (sRet (sMk mTup (sCons (lift (pV 1)) (sCons (sMk cTup (sCons (sMk mLst (sLc (gN 2) [2] (liftI (pRg mR1 (pCons (pC (.d (.int 8))) pNil))) (lift (pC true)) l__law_state_1)) (lift pNil))) (sCons (sOp fMul (lift (pMk mTup (pCons (pC (.d (.int 9))) pNil))) (sCall m__law_taken (lift (pCons (pV 0) (pCons (pC (.d (.int 2))) pNil))))) (lift pNil)))))))
def m__law_state : List D → Ts → R D := mOfS 3 1 b__law_state
theorem g__law_state (T : Tp P K mg) : Gs P w K mg base "_law_state" 3 1 m__law_state := by
  refine Hush.hu (gs_of (N := ["_law_row", "_law_names", "_law_turn"]) (ps := ["_law_row"]) T.f__law_state ⟨rfl, rfl, rfl, by decide +kernel, rfl, by decide +kernel, by decide +kernel⟩ rfl fun f cdv A outer s H E Wf tk I im =>
    (dss_cons (ds_asg (de_op (o_add Wf) (de_callTy Wf (c_tup Wf) T.n_tuple b_tuple (da_cons (de_lc [("_law_turn", 2)] Wf (fun _ => blkOk_by (by kernel_rfl)) (qi_r1 Wf T.n_range (qa_cons qe_int qa_nil)) (dgv_name (Wf.blk _) 2 (by decide)) qts_nil (de_callS (Wf.blk _) (fun _ => takes_f) im (g__law_pick T) (by decide) (qa_cons (qe_v 0) (qa_cons (qe_lst (qa_cons qe_int (qa_cons qe_int (qa_cons qe_int (qa_cons qe_int (qa_cons qe_int (qa_cons qe_int qa_nil))))))) qa_nil)))) qa_nil)) (qe_tup (qa_cons qe_int (qa_cons qe_int (qa_cons qe_int (qa_cons qe_int (qa_cons qe_int qa_nil))))))) (dg_n Wf 1)) (dss_one (ds_ret (de_tup (da_cons (qe_v 1) (da_cons (de_callTy Wf (c_tup Wf) T.n_tuple b_tuple (da_cons (de_lc [("_law_turn", 2)] Wf (fun _ => blkOk_by (by kernel_rfl)) (qi_r1 Wf T.n_range (qa_cons qe_int qa_nil)) (dgv_name (Wf.blk _) 2 (by decide)) qts_nil (de_callS (Wf.blk _) (fun _ => takes_f) im (g__law_taken T) (by decide) (qa_cons (qe_v 0) (qa_cons qe_int qa_nil)))) qa_nil)) (da_cons (de_op (o_mul Wf) (qe_tup (qa_cons qe_int qa_nil)) (de_callS Wf tk im (g__law_taken T) (by decide) (qa_cons (qe_v 0) (qa_cons qe_int qa_nil)))) qa_nil)))))))) ?_
  walk_at "hu"
def lams_law : Nat → Option (Arguments × Expr × Scope)
  | 0 => lamX (exC (stE (stN (defBody (top 137)) 3)) 0)
  | 1 => lamX (exC (stE (stN (defBody (top 137)) 3)) 1)
  | 2 => lamX (exC (stE (stN (defBody (top 137)) 3)) 2)
  | 3 => lamX (exC (stE (stN (defBody (top 137)) 3)) 3)
  | 4 => lamX (exC (exC (stE (stN (defBody (top 137)) 4)) 1) 0)
  | 5 => lamX (exC (exC (stE (stN (defBody (top 137)) 4)) 1) 1)
  | 6 => lamX (exC (exC (stE (stN (defBody (top 137)) 4)) 1) 2)
  | 7 => lamX (exC (exC (stE (stN (defBody (top 137)) 5)) 1) 0)
  | 8 => lamX (exC (exC (stE (stN (defBody (top 137)) 5)) 1) 1)
  | 9 => lamX (exC (exC (stE (stN (defBody (top 137)) 5)) 1) 2)
  | 10 => lamX (exC (exC (stE (stN (defBody (top 137)) 5)) 1) 3)
  | 11 => lamX (exC (exC (stE (stN (defBody (top 137)) 8)) 0) 1)
  | 12 => lamX (exC (exC (stE (stN (defBody (top 137)) 9)) 0) 1)
  | 13 => lamX (exC (exC (stE (stN (defBody (top 137)) 10)) 0) 1)
  | 14 => lamX (exC (stE (stN (stB (stN (defBody (top 137)) 12)) 0)) 0)
  | 15 => lamX (exC (stE (stN (stB (stN (defBody (top 137)) 12)) 0)) 1)
  | 16 => lamX (exC (stE (stN (defBody (top 137)) 14)) 0)
  | 17 => lamX (exC (stE (stN (defBody (top 137)) 14)) 1)
  | 18 => lamX (exC (stE (stN (defBody (top 137)) 14)) 2)
  | _ => none
abbrev lam_law_0 : Sm D := (sCall m_lets_by_all (lift (pCons (pV 3) (pCons (pC (.d .none)) pNil))))
abbrev lam_law_1 : Sm D := (sCall m_barred_row (lift (pCons (pV 2) (pCons (pV 3) pNil))))
abbrev lam_law_2 : Sm D := (sCall m_freest (lift (pCons (pV 3) pNil)))
abbrev lam_law_3 : Sm D := (sCall m_unclean (lift (pCons (pV 3) pNil)))
abbrev lam_law_4 : Sm D := (sCall m_effective_width (lift (pCons (pV 3) pNil)))
abbrev lam_law_5 : Sm D := (sCall m_count_rows (lift (pCons (pV 3) (pCons (pC (.d .none)) (pCons (pC (.d .none)) pNil)))))
abbrev lam_law_6 : Sm D := (sCall m_stops_cleanly (lift (pCons (pV 3) pNil)))
abbrev lam_law_7 : Sm D := (sCall m_missing (lift (pCons (pV 3) pNil)))
abbrev lam_law_8 : Sm D := (sCall m_shown (lift (pCons (pV 3) (pCons (pC (.d .none)) pNil))))
abbrev lam_law_9 : Sm D := (sCall m_first_shown (lift (pCons (pV 3) pNil)))
abbrev lam_law_10 : Sm D := (sCall m_least_table (lift (pCons (pV 3) pNil)))
abbrev lam_law_11 : Sm D := (sCall m_count_rows (sCons (lift (pV 2)) (sCons (sOp fIx (lift (pV 5)) (sCall m__law_taken (lift (pCons (pV 1) (pCons (pC (.d (.int 8))) pNil))))) (lift (pCons (pC (.d .none)) pNil)))))
abbrev lam_law_12 : Sm D := (sCall m_count_rows (sCons (lift (pV 2)) (sCons (lift (pMk mTup pNil)) (sCons (sCall m__law_pick (sCons (lift (pV 1)) (sCons (sMk mLst (sCons (lift (pC (.d .none))) (sCons (lift (pMk mTup pNil)) (sCons (sSl fSl (sCall m__law_state (lift (pCons (pV 1) pNil))) (lift (pC none)) (lift (pPart (pC (.d (.int 2)))))) (lift pNil))))) (lift pNil)))) (lift pNil)))))
abbrev lam_law_13 : Sm D := (sCall m_shown (sCons (lift (pV 2)) (sCons (sCall m__law_pick (lift (pCons (pV 1) (pCons (pMk mLst (pCons (pC (.d .none)) (pCons (pMk mTup pNil) (pCons (pMk mTup (pCons (pC (.d (.str "any"))) pNil)) (pCons (pMk mTup (pCons (pC (.d (.str "feeds"))) (pCons (pC (.d (.str "set"))) (pCons (pC (.d (.str "sum"))) (pCons (pC (.d (.str "lay"))) (pCons (pC (.d (.str "read"))) pNil)))))) pNil))))) pNil)))) (lift pNil))))
abbrev lam_law_14 : Sm D := (sCall m_lets_by_all (lift (pCons (pV 2) (pCons (pV 6) pNil))))
abbrev lam_law_15 : Sm D := (sCall m_barred_row (lift (pCons (pV 6) (pCons (pV 2) pNil))))
abbrev lam_law_16 : Sm D := (sCall m_lets_by_all (lift (pCons (pV 7) (pCons (pV 2) pNil))))
abbrev lam_law_17 : Sm D := (sCall m_barred_row (lift (pCons (pV 2) (pCons (pV 7) pNil))))
abbrev lam_law_18 : Sm D := (sCall m_shown (sCons (lift (pV 2)) (sCons (sCall m__law_entry (lift (pCons (pV 1) pNil))) (lift pNil))))
def lb_law : Nat → Sm D
  | 0 => lam_law_0
  | 1 => lam_law_1
  | 2 => lam_law_2
  | 3 => lam_law_3
  | 4 => lam_law_4
  | 5 => lam_law_5
  | 6 => lam_law_6
  | 7 => lam_law_7
  | 8 => lam_law_8
  | 9 => lam_law_9
  | 10 => lam_law_10
  | 11 => lam_law_11
  | 12 => lam_law_12
  | 13 => lam_law_13
  | 14 => lam_law_14
  | 15 => lam_law_15
  | 16 => lam_law_16
  | 17 => lam_law_17
  | 18 => lam_law_18
  | _ => fun _ _ => .no
abbrev s_law_0 : Sm Out := (sAsg (gN 1) (sAlL (lift (pCons (pV 0) (pCons (pC (.d (.int 0))) (pCons (pC (.d (.int 14406))) (pCons (pC (.d (.int 0))) pNil)))))))
abbrev s_law_1 : Sm Out := (sAsg (gN 2) (sCall m__law_right (lift (pCons (pV 1) pNil))))
abbrev s_law_2 : Sm Out := (sAsg (gN 3) (sCall m__law_pick (lift (pCons (pV 1) (pCons (pMk mLst (pCons (pC (.d .none)) (pCons (pMk mTup pNil) (pCons (pSl fSl (pV 2) (pC none) (pPart (pC (.d (.int 4))))) (pCons (pMk cLst (pCons (pV 2) pNil)) (pCons (pOp fAdd (pMk mTup (pCons (pC (.d (.int 0))) pNil)) (pSl fSl (pV 2) (pPart (pC (.d (.int 1)))) (pC none))) pNil)))))) pNil)))))
abbrev s_law_3 : Sm Out := (sAsg (gN 4) (sMk mLst (sCons (sLam 0) (sCons (sLam 1) (sCons (sLam 2) (sCons (sLam 3) (lift pNil)))))))
abbrev s_law_4 : Sm Out := (sAsg (gN 4) (sOp fAdd (lift (pV 4)) (sMk mLst (sCons (sLam 4) (sCons (sLam 5) (sCons (sLam 6) (lift pNil)))))))
abbrev s_law_5 : Sm Out := (sAsg (gN 4) (sOp fAdd (lift (pV 4)) (sMk mLst (sCons (sLam 7) (sCons (sLam 8) (sCons (sLam 9) (sCons (sLam 10) (lift pNil))))))))
abbrev s_law_6 : Sm Out := (sIf (sB (sOp (fNe) (sHi m__law_wrong lb_law (sOp fIx (lift (pV 4)) (sCall m__law_taken (lift (pCons (pV 1) (pCons (pC (.d (.int 11))) pNil)))))) (lift (pC (.d (.str "design")))))) (lift (pRet (pC (.d (.bool false))))) (lift pNx))
abbrev s_law_7 : Pm Out := (pAsg (gN 5) (pMk mLst (pCons (pC (.d .none)) (pCons (pMk mLst pNil) (pCons (pMk mTup (pCons (pMk mTup (pCons (pC (.d (.str "if"))) (pCons (pC (.d (.int 0))) (pCons (pC (.d (.int 0))) pNil)))) pNil)) (pCons (pOp fMul (pMk mTup (pCons (pMk mTup (pCons (pC (.d (.str "show"))) (pCons (pC (.d (.int 0))) pNil))) pNil)) (pC (.d (.int 4)))) (pCons (pMk mTup (pCons (pMk mTup (pCons (pC (.d (.str "show"))) (pCons (pC (.d (.int 0))) pNil))) (pCons (pC (.d .none)) pNil))) (pCons (pMk mTup (pCons (pMk mTup (pCons (pC (.d (.str "hop"))) (pCons (pC (.d (.int 0))) pNil))) pNil)) (pCons (pC (.d (.str "show"))) (pCons (pMk mTup (pCons (pMk mTup (pCons (pC (.d (.str "set"))) (pCons (pC (.d (.int 0))) (pCons (pC (.d (.int 256))) pNil)))) pNil)) pNil))))))))))
abbrev s_law_8 : Sm Out := (sIf (sB (sOp (fNe) (sHi m__law_wrong lb_law (sLam 11)) (lift (pC (.d (.str "block")))))) (lift (pRet (pC (.d (.bool false))))) (lift pNx))
abbrev s_law_9 : Sm Out := (sIf (sB (sOp (fNe) (sHi m__law_wrong lb_law (sLam 12)) (lift (pC (.d (.str "state")))))) (lift (pRet (pC (.d (.bool false))))) (lift pNx))
abbrev s_law_10 : Sm Out := (sIf (sB (sOp (fNe) (sHi m__law_wrong lb_law (sLam 13)) (lift (pC (.d (.str "entry")))))) (lift (pRet (pC (.d (.bool false))))) (lift pNx))
abbrev s_law_11 : Pm Out := (pAsg (gN 6) (pOp fAdd (pOp fAdd (pSl fSl (pV 2) (pC none) (pPart (pC (.d (.int 2))))) (pMk mTup (pCons (pNotV (pOp fIx (pV 2) (pC (.d (.int 2))))) pNil))) (pSl fSl (pV 2) (pPart (pC (.d (.int 3)))) (pC none))))
abbrev s_law_12 : Sm Out := (sIf (sB (sCall m_is_right (lift (pCons (pV 6) pNil)))) (sSeq (sAsg (gN 4) (sMk mLst (sCons (sLam 14) (sCons (sLam 15) (lift pNil))))) (sIf (sB (sOp (fNe) (sHi m__law_wrong lb_law (sOp fIx (lift (pV 4)) (sCall m__law_taken (lift (pCons (pV 1) (pCons (pC (.d (.int 2))) pNil)))))) (lift (pC (.d (.str "made")))))) (lift (pRet (pC (.d (.bool false))))) (lift pNx))) (lift pNx))
abbrev s_law_13 : Pm Out := (pAsg (gN 7) (pOp fAdd (pOp fAdd (pMk mTup (pCons (pC (.d (.int 4))) (pCons (pC (.d (.bool false))) pNil))) (pSl fSl (pV 2) (pPart (pC (.d (.int 2)))) (pPart (pC (.d (.int 4)))))) (pMk mTup (pCons (pMk mTup pNil) pNil))))
abbrev s_law_14 : Sm Out := (sAsg (gN 4) (sMk mLst (sCons (sLam 16) (sCons (sLam 17) (sCons (sLam 18) (lift pNil))))))
abbrev s_law_15 : Sm Out := (sRet (sAndV (sOp (fEq) (sHi m__law_wrong lb_law (sOp fIx (lift (pV 4)) (sCall m__law_taken (lift (pCons (pV 1) (pCons (pC (.d (.int 3))) pNil)))))) (lift (pC (.d (.str "made"))))) (sOp (fIs) (sCall m_is_right (lift (pCons (pV 7) pNil))) (lift (pC (.d (.bool false)))))))
def b_law : Sm Out := (sSeq s_law_0 (sSeq s_law_1 (sSeq s_law_2 (sSeq s_law_3 (sSeq s_law_4 (sSeq s_law_5 (sSeq s_law_6 (sSeq (lift s_law_7) (sSeq s_law_8 (sSeq s_law_9 (sSeq s_law_10 (sSeq (lift s_law_11) (sSeq s_law_12 (sSeq (lift s_law_13) (sSeq s_law_14 s_law_15)))))))))))))))
theorem ok_law (T : Tp P K mg) {f : Addr} {oc kV doc pm cdv ct : Value} {od an : Option Addr} {osl : Array (Option Value)} {lc Pt : Addr} (hlc : cdv = .ref lc) (TB : LamX.TabB base mg lc Pt) (lk : K.lookup f = some ⟨oc, od, .func (PySem.W.fnOf "law" "law" (defArgs (top 137)) (defBody (top 137)) (defScope (top 137)) .none kV doc pm an cdv ct), osl⟩) (hcd : PySem.W.codeIn K cdv "law" = true) (hfin : ∀ (ns : List Int), ns.length ≤ 63 → ∃ t, b_law (startE 8 1 [.sc ns]) [] = .ok (.rt (.d (.bool true))) t) :
    FnOk P w K mg base CX0 11 f (PySem.W.fnOf "law" "law" (defArgs (top 137)) (defBody (top 137)) (defScope (top 137)) .none kV doc pm an cdv ct) ["_law_script"] (spLawT [(Pt, ("law.<locals>.<lambda>" : Str))] K) := by
  refine @Hush.hu _ (by
  subst hlc
  refine ok_lawN (N := ["_law_script", "_law_row", "_law_design", "_law_bad", "_law_works", "_law_odd", "_law_other", "_law_bare_here"]) (k := 10) (lams := lams_law) lk hcd ⟨rfl, rfl, rfl, by decide +kernel, rfl, by decide +kernel, by decide +kernel⟩ (fun A outer s H E Wf => ?_) hfin
  · have im : (siLaw mg [(Pt, ("law.<locals>.<lambda>" : Str))] "law.<locals>.<lambda>" (PySem.cellsFrom (s.heap.objs.size + 1) (defScope (top 137)).names []) lams_law).mg = mg := rfl
    have hlam : ∀ i n params body scope, lams_law n = some (params, body, scope) → LamP (bodyX P w K mg base ["_law_script", "_law_row", "_law_design", "_law_bad", "_law_works", "_law_odd", "_law_other", "_law_bare_here"] "law" (top 137) f (.ref lc) A outer s H E i).N (bodyX P w K mg base ["_law_script", "_law_row", "_law_design", "_law_bad", "_law_works", "_law_odd", "_law_other", "_law_bare_here"] "law" (top 137) f (.ref lc) A outer s H E i).env.scope scope ∧ LamB (bodyX P w K mg base ["_law_script", "_law_row", "_law_design", "_law_bad", "_law_works", "_law_odd", "_law_other", "_law_bare_here"] "law" (top 137) f (.ref lc) A outer s H E i) params body scope ∧ ∀ (f2 c2 : Addr) (E2 : XK) (A2 : Around) (outer2 : List PySem.Env) (s2 : Shared) (H2 : Hp), Fm P w K mg base 8 ["_law_script", "_law_row", "_law_design", "_law_bad", "_law_works", "_law_odd", "_law_other", "_law_bare_here"] (fun _ : Unit => LamX.lamCx (bodyX P w K mg base ["_law_script", "_law_row", "_law_design", "_law_bad", "_law_works", "_law_odd", "_law_other", "_law_bare_here"] "law" (top 137) f (.ref lc) A outer s H E i) A2 outer2 s2 H2 E2 scope f2 c2) → (∀ u, Takes ((fun _ : Unit => LamX.lamCx (bodyX P w K mg base ["_law_script", "_law_row", "_law_design", "_law_bad", "_law_works", "_law_odd", "_law_other", "_law_bare_here"] "law" (top 137) f (.ref lc) A outer s H E i) A2 outer2 s2 H2 E2 scope f2 c2) u) (fun cls d _ H => E2 cls d H)) → DE (siLaw mg [(Pt, ("law.<locals>.<lambda>" : Str))] "law.<locals>.<lambda>" (PySem.cellsFrom (s.heap.objs.size + 1) (defScope (top 137)).names []) lams_law) K (fun cls d _ H => E2 cls d H) (fun _ : Unit => LamX.lamCx (bodyX P w K mg base ["_law_script", "_law_row", "_law_design", "_law_bad", "_law_works", "_law_odd", "_law_other", "_law_bare_here"] "law" (top 137) f (.ref lc) A outer s H E i) A2 outer2 s2 H2 E2 scope f2 c2) body (lb_law n) := by
      intro i n params body scope h
      match n, h with
      | 0, h =>
        cases (show some (_, _, _) = some (params, body, scope) from h)
        exact ⟨lamP_by (by kernel_rfl), lamb_0 (fun q cl doc pm cd1 ctv => rfl) rfl, fun f2 c2 E2 A2 outer2 s2 H2 Wl tl => (de_callS Wl tl im (g_lets_by_all T) (by decide) (qa_cons (qe_v 3) (qa_cons qe_non qa_nil)))⟩
      | 1, h =>
        cases (show some (_, _, _) = some (params, body, scope) from h)
        exact ⟨lamP_by (by kernel_rfl), lamb_1 (x := "_law_a") rfl (fun q cl doc pm cd1 ctv T => ⟨_, rfl, fun v => rfl⟩) rfl, fun f2 c2 E2 A2 outer2 s2 H2 Wl tl => (de_callS Wl tl im (g_barred_row T) (by decide) (qa_cons (qe_v 2) (qa_cons (qe_v 3) qa_nil)))⟩
      | 2, h =>
        cases (show some (_, _, _) = some (params, body, scope) from h)
        exact ⟨lamP_by (by kernel_rfl), lamb_1 (x := "_law_b") rfl (fun q cl doc pm cd1 ctv T => ⟨_, rfl, fun v => rfl⟩) rfl, fun f2 c2 E2 A2 outer2 s2 H2 Wl tl => (de_callS Wl tl im (g_freest T) (by decide) (qa_cons (qe_v 3) qa_nil))⟩
      | 3, h =>
        cases (show some (_, _, _) = some (params, body, scope) from h)
        exact ⟨lamP_by (by kernel_rfl), lamb_1 (x := "_law_c") rfl (fun q cl doc pm cd1 ctv T => ⟨_, rfl, fun v => rfl⟩) rfl, fun f2 c2 E2 A2 outer2 s2 H2 Wl tl => (de_callS Wl tl im (g_unclean T) (by decide) (qa_cons (qe_v 3) qa_nil))⟩
      | 4, h =>
        cases (show some (_, _, _) = some (params, body, scope) from h)
        exact ⟨lamP_by (by kernel_rfl), lamb_1 (x := "_law_d") rfl (fun q cl doc pm cd1 ctv T => ⟨_, rfl, fun v => rfl⟩) rfl, fun f2 c2 E2 A2 outer2 s2 H2 Wl tl => (de_callS Wl tl im (g_effective_width T) (by decide) (qa_cons (qe_v 3) qa_nil))⟩
      | 5, h =>
        cases (show some (_, _, _) = some (params, body, scope) from h)
        exact ⟨lamP_by (by kernel_rfl), lamb_1 (x := "_law_e") rfl (fun q cl doc pm cd1 ctv T => ⟨_, rfl, fun v => rfl⟩) rfl, fun f2 c2 E2 A2 outer2 s2 H2 Wl tl => (de_callS Wl tl im (g_count_rows T) (by decide) (qa_cons (qe_v 3) (qa_cons qe_non (qa_cons qe_non qa_nil))))⟩
      | 6, h =>
        cases (show some (_, _, _) = some (params, body, scope) from h)
        exact ⟨lamP_by (by kernel_rfl), lamb_1 (x := "_law_f") rfl (fun q cl doc pm cd1 ctv T => ⟨_, rfl, fun v => rfl⟩) rfl, fun f2 c2 E2 A2 outer2 s2 H2 Wl tl => (de_callS Wl tl im (g_stops_cleanly T) (by decide) (qa_cons (qe_v 3) qa_nil))⟩
      | 7, h =>
        cases (show some (_, _, _) = some (params, body, scope) from h)
        exact ⟨lamP_by (by kernel_rfl), lamb_1 (x := "_law_g") rfl (fun q cl doc pm cd1 ctv T => ⟨_, rfl, fun v => rfl⟩) rfl, fun f2 c2 E2 A2 outer2 s2 H2 Wl tl => (de_callS Wl tl im (g_missing T) (by decide) (qa_cons (qe_v 3) qa_nil))⟩
      | 8, h =>
        cases (show some (_, _, _) = some (params, body, scope) from h)
        exact ⟨lamP_by (by kernel_rfl), lamb_1 (x := "_law_h") rfl (fun q cl doc pm cd1 ctv T => ⟨_, rfl, fun v => rfl⟩) rfl, fun f2 c2 E2 A2 outer2 s2 H2 Wl tl => (de_callS Wl tl im (g_shown T) (by decide) (qa_cons (qe_v 3) (qa_cons qe_non qa_nil)))⟩
      | 9, h =>
        cases (show some (_, _, _) = some (params, body, scope) from h)
        exact ⟨lamP_by (by kernel_rfl), lamb_1 (x := "_law_i") rfl (fun q cl doc pm cd1 ctv T => ⟨_, rfl, fun v => rfl⟩) rfl, fun f2 c2 E2 A2 outer2 s2 H2 Wl tl => (de_callS Wl tl im (g_first_shown T) (by decide) (qa_cons (qe_v 3) qa_nil))⟩
      | 10, h =>
        cases (show some (_, _, _) = some (params, body, scope) from h)
        exact ⟨lamP_by (by kernel_rfl), lamb_1 (x := "_law_j") rfl (fun q cl doc pm cd1 ctv T => ⟨_, rfl, fun v => rfl⟩) rfl, fun f2 c2 E2 A2 outer2 s2 H2 Wl tl => (de_callS Wl tl im (g_least_table T) (by decide) (qa_cons (qe_v 3) qa_nil))⟩
      | 11, h =>
        cases (show some (_, _, _) = some (params, body, scope) from h)
        exact ⟨lamP_by (by kernel_rfl), lamb_0 (fun q cl doc pm cd1 ctv => rfl) rfl, fun f2 c2 E2 A2 outer2 s2 H2 Wl tl => (de_callS Wl tl im (g_count_rows T) (by decide) (da_cons (qe_v 2) (da_cons (de_ix (o_ix Wl) (qe_v 5) (de_callS Wl tl im (g__law_taken T) (by decide) (qa_cons (qe_v 1) (qa_cons qe_int qa_nil)))) (qa_cons qe_non qa_nil))))⟩
      | 12, h =>
        cases (show some (_, _, _) = some (params, body, scope) from h)
        exact ⟨lamP_by (by kernel_rfl), lamb_0 (fun q cl doc pm cd1 ctv => rfl) rfl, fun f2 c2 E2 A2 outer2 s2 H2 Wl tl => (de_callS Wl tl im (g_count_rows T) (by decide) (da_cons (qe_v 2) (da_cons (qe_tup qa_nil) (da_cons (de_callS Wl tl im (g__law_pick T) (by decide) (da_cons (qe_v 1) (da_cons (de_lst (da_cons qe_non (da_cons (qe_tup qa_nil) (da_cons (de_slice (o_sl Wl) (de_callS Wl tl im (g__law_state T) (by decide) (qa_cons (qe_v 1) qa_nil)) qo_none (qo_some qe_int)) qa_nil)))) qa_nil))) qa_nil))))⟩
      | 13, h =>
        cases (show some (_, _, _) = some (params, body, scope) from h)
        exact ⟨lamP_by (by kernel_rfl), lamb_0 (fun q cl doc pm cd1 ctv => rfl) rfl, fun f2 c2 E2 A2 outer2 s2 H2 Wl tl => (de_callS Wl tl im (g_shown T) (by decide) (da_cons (qe_v 2) (da_cons (de_callS Wl tl im (g__law_pick T) (by decide) (qa_cons (qe_v 1) (qa_cons (qe_lst (qa_cons qe_non (qa_cons (qe_tup qa_nil) (qa_cons (qe_tup (qa_cons qe_str qa_nil)) (qa_cons (qe_tup (qa_cons qe_str (qa_cons qe_str (qa_cons qe_str (qa_cons qe_str (qa_cons qe_str qa_nil)))))) qa_nil))))) qa_nil))) qa_nil)))⟩
      | 14, h =>
        cases (show some (_, _, _) = some (params, body, scope) from h)
        exact ⟨lamP_by (by kernel_rfl), lamb_0 (fun q cl doc pm cd1 ctv => rfl) rfl, fun f2 c2 E2 A2 outer2 s2 H2 Wl tl => (de_callS Wl tl im (g_lets_by_all T) (by decide) (qa_cons (qe_v 2) (qa_cons (qe_v 6) qa_nil)))⟩
      | 15, h =>
        cases (show some (_, _, _) = some (params, body, scope) from h)
        exact ⟨lamP_by (by kernel_rfl), lamb_1 (x := "_law_a") rfl (fun q cl doc pm cd1 ctv T => ⟨_, rfl, fun v => rfl⟩) rfl, fun f2 c2 E2 A2 outer2 s2 H2 Wl tl => (de_callS Wl tl im (g_barred_row T) (by decide) (qa_cons (qe_v 6) (qa_cons (qe_v 2) qa_nil)))⟩
      | 16, h =>
        cases (show some (_, _, _) = some (params, body, scope) from h)
        exact ⟨lamP_by (by kernel_rfl), lamb_0 (fun q cl doc pm cd1 ctv => rfl) rfl, fun f2 c2 E2 A2 outer2 s2 H2 Wl tl => (de_callS Wl tl im (g_lets_by_all T) (by decide) (qa_cons (qe_v 7) (qa_cons (qe_v 2) qa_nil)))⟩
      | 17, h =>
        cases (show some (_, _, _) = some (params, body, scope) from h)
        exact ⟨lamP_by (by kernel_rfl), lamb_1 (x := "_law_a") rfl (fun q cl doc pm cd1 ctv T => ⟨_, rfl, fun v => rfl⟩) rfl, fun f2 c2 E2 A2 outer2 s2 H2 Wl tl => (de_callS Wl tl im (g_barred_row T) (by decide) (qa_cons (qe_v 2) (qa_cons (qe_v 7) qa_nil)))⟩
      | 18, h =>
        cases (show some (_, _, _) = some (params, body, scope) from h)
        exact ⟨lamP_by (by kernel_rfl), lamb_1 (x := "_law_b") rfl (fun q cl doc pm cd1 ctv T => ⟨_, rfl, fun v => rfl⟩) rfl, fun f2 c2 E2 A2 outer2 s2 H2 Wl tl => (de_callS Wl tl im (g_shown T) (by decide) (da_cons (qe_v 2) (da_cons (de_callS Wl tl im (g__law_entry T) (by decide) (qa_cons (qe_v 1) qa_nil)) qa_nil)))⟩
      | n + 19, h => cases (show none = some (params, body, scope) from h)
    exact (dss_cons (ds_asg (de_allocL (qa_cons (qe_v 0) (qa_cons qe_int (qa_cons qe_int (qa_cons qe_int qa_nil))))) (dg_n Wf 1)) (dss_cons (ds_asg (de_callS Wf (fun _ => takes_f) im (g__law_right T) (by decide) (qa_cons (qe_v 1) qa_nil)) (dg_n Wf 2)) (dss_cons (ds_asg (de_callS Wf (fun _ => takes_f) im (g__law_pick T) (by decide) (qa_cons (qe_v 1) (qa_cons (qe_lst (qa_cons qe_non (qa_cons (qe_tup qa_nil) (qa_cons (qe_slice (o_sl Wf) (qe_v 2) qo_none (qo_some qe_int)) (qa_cons (qe_callTy Wf (c_lst Wf) T.n_list b_list (qa_cons (qe_v 2) qa_nil)) (qa_cons (qe_op (o_add Wf) (qe_tup (qa_cons qe_int qa_nil)) (qe_slice (o_sl Wf) (qe_v 2) (qo_some qe_int) qo_none)) qa_nil)))))) qa_nil))) (dg_n Wf 3)) (dss_cons (ds_asg (de_lst (da_cons (de_lam 0 Wf rfl rfl TB (fun _ => rfl) (fun _ => rfl) (fun _ => rfl) (by rfl) (fun _ => lamP_by (by kernel_rfl))) (da_cons (de_lam 1 Wf rfl rfl TB (fun _ => rfl) (fun _ => rfl) (fun _ => rfl) (by rfl) (fun _ => lamP_by (by kernel_rfl))) (da_cons (de_lam 2 Wf rfl rfl TB (fun _ => rfl) (fun _ => rfl) (fun _ => rfl) (by rfl) (fun _ => lamP_by (by kernel_rfl))) (da_cons (de_lam 3 Wf rfl rfl TB (fun _ => rfl) (fun _ => rfl) (fun _ => rfl) (by rfl) (fun _ => lamP_by (by kernel_rfl))) qa_nil))))) (dg_n Wf 4)) (dss_cons (ds_asg (de_op (o_add Wf) (qe_v 4) (de_lst (da_cons (de_lam 4 Wf rfl rfl TB (fun _ => rfl) (fun _ => rfl) (fun _ => rfl) (by rfl) (fun _ => lamP_by (by kernel_rfl))) (da_cons (de_lam 5 Wf rfl rfl TB (fun _ => rfl) (fun _ => rfl) (fun _ => rfl) (by rfl) (fun _ => lamP_by (by kernel_rfl))) (da_cons (de_lam 6 Wf rfl rfl TB (fun _ => rfl) (fun _ => rfl) (fun _ => rfl) (by rfl) (fun _ => lamP_by (by kernel_rfl))) qa_nil))))) (dg_n Wf 4)) (dss_cons (ds_asg (de_op (o_add Wf) (qe_v 4) (de_lst (da_cons (de_lam 7 Wf rfl rfl TB (fun _ => rfl) (fun _ => rfl) (fun _ => rfl) (by rfl) (fun _ => lamP_by (by kernel_rfl))) (da_cons (de_lam 8 Wf rfl rfl TB (fun _ => rfl) (fun _ => rfl) (fun _ => rfl) (by rfl) (fun _ => lamP_by (by kernel_rfl))) (da_cons (de_lam 9 Wf rfl rfl TB (fun _ => rfl) (fun _ => rfl) (fun _ => rfl) (by rfl) (fun _ => lamP_by (by kernel_rfl))) (da_cons (de_lam 10 Wf rfl rfl TB (fun _ => rfl) (fun _ => rfl) (fun _ => rfl) (by rfl) (fun _ => lamP_by (by kernel_rfl))) qa_nil)))))) (dg_n Wf 4)) (dss_cons (ds_if (dt_cmp (o_ne Wf) (de_hi Wf (fun _ => takes_f) im rfl (fun _ => rfl) (fun _ => rfl) (g__law_wrong T 9) (by decide) (by decide) (de_ix (o_ix Wf) (qe_v 4) (de_callS Wf (fun _ => takes_f) im (g__law_taken T) (by decide) (qa_cons (qe_v 1) (qa_cons qe_int qa_nil)))) hlam) qe_str) (qss_one (qs_ret qe_bl)) qss_nil) (dss_cons (qs_asg (qe_lst (qa_cons qe_non (qa_cons (qe_lst qa_nil) (qa_cons (qe_tup (qa_cons (qe_tup (qa_cons qe_str (qa_cons qe_int (qa_cons qe_int qa_nil)))) qa_nil)) (qa_cons (qe_op (o_mul Wf) (qe_tup (qa_cons (qe_tup (qa_cons qe_str (qa_cons qe_int qa_nil))) qa_nil)) qe_int) (qa_cons (qe_tup (qa_cons (qe_tup (qa_cons qe_str (qa_cons qe_int qa_nil))) (qa_cons qe_non qa_nil))) (qa_cons (qe_tup (qa_cons (qe_tup (qa_cons qe_str (qa_cons qe_int qa_nil))) qa_nil)) (qa_cons qe_str (qa_cons (qe_tup (qa_cons (qe_tup (qa_cons qe_str (qa_cons qe_int (qa_cons qe_int qa_nil)))) qa_nil)) qa_nil))))))))) (dg_n Wf 5)) (dss_cons (ds_if (dt_cmp (o_ne Wf) (de_hi Wf (fun _ => takes_f) im rfl (fun _ => rfl) (fun _ => rfl) (g__law_wrong T 9) (by decide) (by decide) (de_lam 11 Wf rfl rfl TB (fun _ => rfl) (fun _ => rfl) (fun _ => rfl) (by rfl) (fun _ => lamP_by (by kernel_rfl))) hlam) qe_str) (qss_one (qs_ret qe_bl)) qss_nil) (dss_cons (ds_if (dt_cmp (o_ne Wf) (de_hi Wf (fun _ => takes_f) im rfl (fun _ => rfl) (fun _ => rfl) (g__law_wrong T 9) (by decide) (by decide) (de_lam 12 Wf rfl rfl TB (fun _ => rfl) (fun _ => rfl) (fun _ => rfl) (by rfl) (fun _ => lamP_by (by kernel_rfl))) hlam) qe_str) (qss_one (qs_ret qe_bl)) qss_nil) (dss_cons (ds_if (dt_cmp (o_ne Wf) (de_hi Wf (fun _ => takes_f) im rfl (fun _ => rfl) (fun _ => rfl) (g__law_wrong T 9) (by decide) (by decide) (de_lam 13 Wf rfl rfl TB (fun _ => rfl) (fun _ => rfl) (fun _ => rfl) (by rfl) (fun _ => lamP_by (by kernel_rfl))) hlam) qe_str) (qss_one (qs_ret qe_bl)) qss_nil) (dss_cons (qs_asg (qe_op (o_add Wf) (qe_op (o_add Wf) (qe_slice (o_sl Wf) (qe_v 2) qo_none (qo_some qe_int)) (qe_tup (qa_cons (qe_not (qe_ix (o_ix Wf) (qe_v 2) qe_int)) qa_nil))) (qe_slice (o_sl Wf) (qe_v 2) (qo_some qe_int) qo_none)) (dg_n Wf 6)) (dss_cons (ds_if (dt_val (de_callS Wf (fun _ => takes_f) im (g_is_right T) (by decide) (qa_cons (qe_v 6) qa_nil))) (dss_cons (ds_asg (de_lst (da_cons (de_lam 14 Wf rfl rfl TB (fun _ => rfl) (fun _ => rfl) (fun _ => rfl) (by rfl) (fun _ => lamP_by (by kernel_rfl))) (da_cons (de_lam 15 Wf rfl rfl TB (fun _ => rfl) (fun _ => rfl) (fun _ => rfl) (by rfl) (fun _ => lamP_by (by kernel_rfl))) qa_nil))) (dg_n Wf 4)) (dss_one (ds_if (dt_cmp (o_ne Wf) (de_hi Wf (fun _ => takes_f) im rfl (fun _ => rfl) (fun _ => rfl) (g__law_wrong T 9) (by decide) (by decide) (de_ix (o_ix Wf) (qe_v 4) (de_callS Wf (fun _ => takes_f) im (g__law_taken T) (by decide) (qa_cons (qe_v 1) (qa_cons qe_int qa_nil)))) hlam) qe_str) (qss_one (qs_ret qe_bl)) qss_nil))) qss_nil) (dss_cons (qs_asg (qe_op (o_add Wf) (qe_op (o_add Wf) (qe_tup (qa_cons qe_int (qa_cons qe_bl qa_nil))) (qe_slice (o_sl Wf) (qe_v 2) (qo_some qe_int) (qo_some qe_int))) (qe_tup (qa_cons (qe_tup qa_nil) qa_nil))) (dg_n Wf 7)) (dss_cons (ds_asg (de_lst (da_cons (de_lam 16 Wf rfl rfl TB (fun _ => rfl) (fun _ => rfl) (fun _ => rfl) (by rfl) (fun _ => lamP_by (by kernel_rfl))) (da_cons (de_lam 17 Wf rfl rfl TB (fun _ => rfl) (fun _ => rfl) (fun _ => rfl) (by rfl) (fun _ => lamP_by (by kernel_rfl))) (da_cons (de_lam 18 Wf rfl rfl TB (fun _ => rfl) (fun _ => rfl) (fun _ => rfl) (by rfl) (fun _ => lamP_by (by kernel_rfl))) qa_nil)))) (dg_n Wf 4)) (dss_one (ds_ret (de_and (de_cmp (o_eq Wf) (de_hi Wf (fun _ => takes_f) im rfl (fun _ => rfl) (fun _ => rfl) (g__law_wrong T 9) (by decide) (by decide) (de_ix (o_ix Wf) (qe_v 4) (de_callS Wf (fun _ => takes_f) im (g__law_taken T) (by decide) (qa_cons (qe_v 1) (qa_cons qe_int qa_nil)))) hlam) qe_str) (de_and1 (de_cmp (o_is Wf) (de_callS Wf (fun _ => takes_f) im (g_is_right T) (by decide) (qa_cons (qe_v 7) qa_nil)) qe_bl))))))))))))))))))))) ?_
  walk_at "hu"
end
end My
namespace My
open PySem L2 Dl
theorem d__law_bare {x0 : D} {z : PyData} {t t1 : Ts} (h : b__law_bare [some x0, none, none] t = .ok (.rt (.d z)) t1) {r : R D} (hl : t1.length = t.length) (e : R.ok (D.d z) t1 = r) : m__law_bare [x0] t = r := by
  refine Hush.hu ((mOfS_dd rfl h hl).trans e) ?_
  walk_at "hu"
theorem d__law_entry {x0 : D} {z : PyData} {t t1 : Ts} (h : b__law_entry [some x0, none, none, none] t = .ok (.rt (.d z)) t1) {r : R D} (hl : t1.length = t.length) (e : R.ok (D.d z) t1 = r) : m__law_entry [x0] t = r := by
  refine Hush.hu ((mOfS_dd rfl h hl).trans e) ?_
  walk_at "hu"
theorem o__law_more {x0 x1 x2 x3 z : D} {t t1 : Ts} (h : b__law_more [some x0, some x1, some x2, some x3, none, none, none] t = .ok (.rt z) t1) : m__law_more [x0, x1, x2, x3] t = .ok z (t1.take (max t.length (Dl.top z))) := by
  refine Hush.hu (mOfS_of rfl h) ?_
  walk_at "hu"
theorem d__law_right {x0 : D} {z : PyData} {t t1 : Ts} (h : b__law_right [some x0, none] t = .ok (.rt (.d z)) t1) {r : R D} (hl : t1.length = t.length) (e : R.ok (D.d z) t1 = r) : m__law_right [x0] t = r := by
  refine Hush.hu ((mOfS_dd rfl h hl).trans e) ?_
  walk_at "hu"
theorem o_is_list {x0 x1 x2 z w : D} (h : b_is_list [some x0, some x1, some x2] = some (.rt z)) (e : z = w) : m_is_list [x0, x1, x2] = some w := by
  refine Hush.hu ((mOf_of rfl h).trans (congrArg some e)) ?_
  walk_at "hu"
theorem o_is_kind {x0 z w : D} (h : b_is_kind [some x0] = some (.rt z)) (e : z = w) : m_is_kind [x0] = some w := by
  refine Hush.hu ((mOf_of rfl h).trans (congrArg some e)) ?_
  walk_at "hu"
theorem o_is_event {x0 z w : D} (h : b_is_event [some x0] = some (.rt z)) (e : z = w) : m_is_event [x0] = some w := by
  refine Hush.hu ((mOf_of rfl h).trans (congrArg some e)) ?_
  walk_at "hu"
theorem o_is_entry {x0 z w : D} (h : b_is_entry [some x0] = some (.rt z)) (e : z = w) : m_is_entry [x0] = some w := by
  refine Hush.hu ((mOf_of rfl h).trans (congrArg some e)) ?_
  walk_at "hu"
theorem o_is_table {x0 z w : D} (h : b_is_table [some x0, none, none] = some (.rt z)) (e : z = w) : m_is_table [x0] = some w := by
  refine Hush.hu ((mOf_of rfl h).trans (congrArg some e)) ?_
  walk_at "hu"
theorem o_is_integer {x0 z w : D} (h : b_is_integer [some x0] = some (.rt z)) (e : z = w) : m_is_integer [x0] = some w := by
  refine Hush.hu ((mOf_of rfl h).trans (congrArg some e)) ?_
  walk_at "hu"
theorem o_is_in {x0 x1 x2 z w : D} (h : b_is_in [some x0, some x1, some x2] = some (.rt z)) (e : z = w) : m_is_in [x0, x1, x2] = some w := by
  refine Hush.hu ((mOf_of rfl h).trans (congrArg some e)) ?_
  walk_at "hu"
theorem o_is_design {x0 z w : D} (h : b_is_design [some x0, none] = some (.rt z)) (e : z = w) : m_is_design [x0] = some w := by
  refine Hush.hu ((mOf_of rfl h).trans (congrArg some e)) ?_
  walk_at "hu"
theorem n_need_design {x0 : D} {t t1 : Ts} {e1 : Dl.Env} (h : b_need_design [some x0] t = .ok (.nx e1) t1) {r : R D} (hl : t1.length = t.length) (e : R.ok (D.d .none) t1 = r) : m_need_design [x0] t = r := by
  refine Hush.hu ((mOfS_nn rfl h hl).trans e) ?_
  walk_at "hu"
theorem x_need_design {x0 : D} {t t1 : Ts} {xx : Exn} (h : b_need_design [some x0] t = .ex xx t1) {r : R D} (hl : t1.length = t.length) (e : R.ex xx t1 = r) : m_need_design [x0] t = r := by
  refine Hush.hu ((mOfS_xx rfl h hl).trans e) ?_
  walk_at "hu"
theorem c_needs_in {x0 : D} {z : PyData} {t t1 t2 : Ts} (h : b_needs_in [some x0, none, none, none, none, none, none, none] t = .ok (.rt (.d z)) t1) {r : R D} (ht : t1.take t.length = t2) (e : R.ok (D.d z) t2 = r) : m_needs_in [x0] t = r := by
  refine Hush.hu ((mOfS_cd rfl h ht).trans e) ?_
  walk_at "hu"
theorem d_missing_in {x0 : D} {z : PyData} {t t1 : Ts} (h : b_missing_in [some x0, none] t = .ok (.rt (.d z)) t1) {r : R D} (hl : t1.length = t.length) (e : R.ok (D.d z) t1 = r) : m_missing_in [x0] t = r := by
  refine Hush.hu ((mOfS_dd rfl h hl).trans e) ?_
  walk_at "hu"
theorem d_is_right {x0 : D} {z : PyData} {t t1 : Ts} (h : b_is_right [some x0] t = .ok (.rt (.d z)) t1) {r : R D} (hl : t1.length = t.length) (e : R.ok (D.d z) t1 = r) : m_is_right [x0] t = r := by
  refine Hush.hu ((mOfS_dd rfl h hl).trans e) ?_
  walk_at "hu"
theorem x_need_two {x0 x1 : D} {t t1 : Ts} {xx : Exn} (h : b_need_two [some x0, some x1] t = .ex xx t1) {r : R D} (hl : t1.length = t.length) (e : R.ex xx t1 = r) : m_need_two [x0, x1] t = r := by
  refine Hush.hu ((mOfS_xx rfl h hl).trans e) ?_
  walk_at "hu"
theorem x_barred_row {x0 x1 : D} {t t1 : Ts} {xx : Exn} (h : b_barred_row [some x0, some x1] t = .ex xx t1) {r : R D} (hl : t1.length = t.length) (e : R.ex xx t1 = r) : m_barred_row [x0, x1] t = r := by
  refine Hush.hu ((mOfS_xx rfl h hl).trans e) ?_
  walk_at "hu"
theorem x_lets_by_all {x0 x1 : D} {t t1 : Ts} {xx : Exn} (h : b_lets_by_all [some x0, some x1] t = .ex xx t1) {r : R D} (hl : t1.length = t.length) (e : R.ex xx t1 = r) : m_lets_by_all [x0, x1] t = r := by
  refine Hush.hu ((mOfS_xx rfl h hl).trans e) ?_
  walk_at "hu"
theorem x_freest {x0 : D} {t t1 : Ts} {xx : Exn} (h : b_freest [some x0] t = .ex xx t1) {r : R D} (hl : t1.length = t.length) (e : R.ex xx t1 = r) : m_freest [x0] t = r := by
  refine Hush.hu ((mOfS_xx rfl h hl).trans e) ?_
  walk_at "hu"
theorem x_unclean {x0 : D} {t t1 : Ts} {xx : Exn} (h : b_unclean [some x0, none] t = .ex xx t1) {r : R D} (hl : t1.length = t.length) (e : R.ex xx t1 = r) : m_unclean [x0] t = r := by
  refine Hush.hu ((mOfS_xx rfl h hl).trans e) ?_
  walk_at "hu"
theorem n_need_entry {x0 : D} {t t1 : Ts} {e1 : Dl.Env} (h : b_need_entry [some x0] t = .ok (.nx e1) t1) {r : R D} (hl : t1.length = t.length) (e : R.ok (D.d .none) t1 = r) : m_need_entry [x0] t = r := by
  refine Hush.hu ((mOfS_nn rfl h hl).trans e) ?_
  walk_at "hu"
theorem x_need_entry {x0 : D} {t t1 : Ts} {xx : Exn} (h : b_need_entry [some x0] t = .ex xx t1) {r : R D} (hl : t1.length = t.length) (e : R.ex xx t1 = r) : m_need_entry [x0] t = r := by
  refine Hush.hu ((mOfS_xx rfl h hl).trans e) ?_
  walk_at "hu"
theorem x_shown {x0 x1 : D} {t t1 : Ts} {xx : Exn} (h : b_shown [some x0, some x1] t = .ex xx t1) {r : R D} (hl : t1.length = t.length) (e : R.ex xx t1 = r) : m_shown [x0, x1] t = r := by
  refine Hush.hu ((mOfS_xx rfl h hl).trans e) ?_
  walk_at "hu"
theorem x_effective_width {x0 : D} {t t1 : Ts} {xx : Exn} (h : b_effective_width [some x0] t = .ex xx t1) {r : R D} (hl : t1.length = t.length) (e : R.ex xx t1 = r) : m_effective_width [x0] t = r := by
  refine Hush.hu ((mOfS_xx rfl h hl).trans e) ?_
  walk_at "hu"
theorem x_need_state {x0 : D} {t t1 : Ts} {xx : Exn} (h : b_need_state [some x0] t = .ex xx t1) {r : R D} (hl : t1.length = t.length) (e : R.ex xx t1 = r) : m_need_state [x0] t = r := by
  refine Hush.hu ((mOfS_xx rfl h hl).trans e) ?_
  walk_at "hu"
theorem x_count_rows {x0 x1 x2 : D} {t t1 : Ts} {xx : Exn} (h : b_count_rows [some x0, some x1, some x2] t = .ex xx t1) {r : R D} (hl : t1.length = t.length) (e : R.ex xx t1 = r) : m_count_rows [x0, x1, x2] t = r := by
  refine Hush.hu ((mOfS_xx rfl h hl).trans e) ?_
  walk_at "hu"
theorem x_stops_cleanly {x0 : D} {t t1 : Ts} {xx : Exn} (h : b_stops_cleanly [some x0] t = .ex xx t1) {r : R D} (hl : t1.length = t.length) (e : R.ex xx t1 = r) : m_stops_cleanly [x0] t = r := by
  refine Hush.hu ((mOfS_xx rfl h hl).trans e) ?_
  walk_at "hu"
theorem x_missing {x0 : D} {t t1 : Ts} {xx : Exn} (h : b_missing [some x0] t = .ex xx t1) {r : R D} (hl : t1.length = t.length) (e : R.ex xx t1 = r) : m_missing [x0] t = r := by
  refine Hush.hu ((mOfS_xx rfl h hl).trans e) ?_
  walk_at "hu"
theorem x_first_shown {x0 : D} {t t1 : Ts} {xx : Exn} (h : b_first_shown [some x0, none] t = .ex xx t1) {r : R D} (hl : t1.length = t.length) (e : R.ex xx t1 = r) : m_first_shown [x0] t = r := by
  refine Hush.hu ((mOfS_xx rfl h hl).trans e) ?_
  walk_at "hu"
theorem x_least_table {x0 : D} {t t1 : Ts} {xx : Exn} (h : b_least_table [some x0] t = .ex xx t1) {r : R D} (hl : t1.length = t.length) (e : R.ex xx t1 = r) : m_least_table [x0] t = r := by
  refine Hush.hu ((mOfS_xx rfl h hl).trans e) ?_
  walk_at "hu"
theorem d__law_state {x0 : D} {z : PyData} {t t1 : Ts} (h : b__law_state [some x0, none, none] t = .ok (.rt (.d z)) t1) {r : R D} (hl : t1.length = t.length) (e : R.ok (D.d z) t1 = r) : m__law_state [x0] t = r := by
  refine Hush.hu ((mOfS_dd rfl h hl).trans e) ?_
  walk_at "hu"
end My
namespace My
open PySem L2 Dl
theorem num_eq (p : Ev) : m_number_of [.d (.str p.s)] = some (.d (.int p.n)) := by
  refine @Hush.hu _ (by cases p <;> kernel_rfl) ?_
  walk_at "hu"
theorem num_eqL (p : Ev) : m__law_number [.d (.str p.s)] = some (.d (.int p.n)) := by
  refine @Hush.hu _ (by cases p <;> kernel_rfl) ?_
  walk_at "hu"
def stor (a b : Ki) : Bool := (decide (a = .put) && decide (b = .get)) || (decide (a = .get) && decide (b = .put)) || (decide (a = .put) && decide (b = .put))
def hold (r : Re) (a b : Ki) : Bool := match r with
  | .jump => decide (a = .if_)
  | .shows => decide (a = .show_) && decide (b = .show_)
  | .any => true
  | .memory => stor a b
  | _ => false
theorem hold_eq (r : Re) (a b : Ki) : m_holds_always [.d (.str r.s), .d (.str a.s), .d (.str b.s)] = some (.d (.bool (hold r a b))) := by
  refine @Hush.hu _ (by
  cases r <;> cases a <;> cases b <;> kernel_rfl) ?_
  walk_at "hu"
theorem sh_kk (x y : Ki) : SeqAt.shaped (.tuple [.str x.s, .str y.s]) = true := by
  refine @Hush.hu _ (by cases x <;> cases y <;> kernel_rfl) ?_
  walk_at "hu"
theorem sh_cells : SeqAt.shaped (.str "cells") = true := by
  refine Hush.hu (sh_re .cells) ?_
  walk_at "hu"
theorem sh_read : SeqAt.shaped (.str "read") = true := by
  refine Hush.hu (sh_ev .read) ?_
  walk_at "hu"
theorem eqv_t2 (x y u v : Str) : PyData.eqv (.tuple [.str x, .str y]) (.tuple [.str u, .str v]) = (PyData.eqv (.str x) (.str u) && PyData.eqv (.str y) (.str v)) := by
  refine @Hush.hu _ (by
  show (PyData.eqv (.str x) (.str u) && (PyData.eqv (.str y) (.str v) && true)) = _
  rw [Bool.and_true]) ?_
  walk_at "hu"
theorem cut13 {a b c d e : PyData} : cutD [a, b, c, d, e] (some 1) (some 3) = [b, c] := rfl
theorem cut03 {a b c d e : PyData} : cutD [a, b, c, d, e] none (some 3) = [a, b, c] := rfl
theorem at0 {a b c d e : PyData} : atI [a, b, c, d, e] 0 = some a := rfl
theorem at3 {a b c d e : PyData} : atI [a, b, c, d, e] 3 = some d := rfl
theorem at4 {a b c d e : PyData} : atI [a, b, c, d, e] 4 = some e := rfl
theorem in_stores (a b : Ki) : fIn false (.d (.tuple [.str a.s, .str b.s])) (.kt (.tuple [(.tuple [(.str "put"), (.str "get")]), (.tuple [(.str "get"), (.str "put")]), (.tuple [(.str "put"), (.str "put")])])) = some (.d (.bool (stor a b))) := by
  refine @Hush.hu _ (by cases a <;> cases b <;> kernel_rfl) ?_
  walk_at "hu"
theorem in_lr (q : Ev) : fIn false (.d (.str q.s)) (.d (.tuple [(.str "lay"), (.str "read")])) = some (.d (.bool (decide (q = .lay) || decide (q = .read)))) := by
  refine @Hush.hu _ (by cases q <;> kernel_rfl) ?_
  walk_at "hu"
theorem cells_s (r : Re) : PyData.eqv (.str r.s) (.str "cells") = decide (r = .cells) := by
  refine Hush.hu (eqv_re r .cells) ?_
  walk_at "hu"
theorem read_s (r : Ev) : PyData.eqv (.str r.s) (.str "read") = decide (r = .read) := by
  refine Hush.hu (eqv_ev r .read) ?_
  walk_at "hu"
def forc (s w : En) : Bool :=
  if s.a ≠ w.a ∨ s.b ≠ w.b ∨ w.q.n < s.q.n then false
  else if s.r = .cells ∧ stor s.a s.b = true ∧ w.p = .read then true
  else if s.p.n < w.p.n then false
  else if s.r = w.r ∨ hold s.r s.a s.b = true then true
  else decide (s.r = .cells) && stor s.a s.b && (decide (s.q = .lay) || decide (s.q = .read))
set_option maxHeartbeats 400000
theorem forc_eq (s w : En) : m_forces [.d (enc s), .d (enc w)] = some (.d (.bool (forc s w))) := by
  refine @Hush.hu _ (by
  obtain ⟨r, a, b, p, q⟩ := s
  obtain ⟨r', a', b', p', q'⟩ := w
  simp [m_forces, b_forces, enc, mOf, startE, pV, pC, pOp, pB, pNot, pAnd, pOr, pAndV, pOrV, pNotV, pIf, pNil, pCons, pMk, pPart, pSl, pIt, pRg, pAsg, pRet, pExp, pNx, pSeq, pAp, pCh, pPnil, pPcons, pDget, pDsub, pNo, isI, fEq, fNe, fLe, fGt, fGe, fIs, fIsNot, fAdd, fSub, fMod, fIx, fSl, i2, fLt, gN, gT, gC, gE, mTup, mLst, pdL, cLen, cTup, cLst, cInt, cIsi, cIsi2, cAll, cAny, isSeq, itL, bind_ite, map_ite, retO_ite, retO_rt, retO_nx, retO_no, isB_b, cut13, cut03, at0, at3, at4, sh_re, sh_ki, sh_ev, sh_kk, sh_cells, sh_read, eqv_t2, eqv_re, eqv_ki, eqv_ev, in_stores, in_lr, cells_s, read_s, num_eq, hold_eq, forc]
  repeat' split
  all_goals first
    | (simp_all; done)
    | (rename_i h; rcases h with h | h <;> simp_all; done)
    | (simp_all [Nat.not_lt.mpr]; done)) ?_
  walk_at "hu"
def can (e : En) : Bool := match e.r with
  | .feeds => wri e.a && !decide (e.b = .set)
  | .used => !decide (e.a = .set) && wri e.b
  | .same => wri e.a && wri e.b
  | .cells => stor e.a e.b
  | .memory => stor e.a e.b
  | .shows => decide (e.a = .show_) && decide (e.b = .show_)
  | .jump => decide (e.a = .if_)
  | .any => true
theorem can_eq (e : En) : m_can_hold [.d (enc e)] = some (.d (.bool (can e))) := by
  refine @Hush.hu _ (by
  obtain ⟨r, a, b, p, q⟩ := e
  cases r <;> cases a <;> cases b <;> kernel_rfl) ?_
  walk_at "hu"
theorem canL_eq (e : En) : m__law_can [.d (enc e)] = some (.d (.bool (can e))) := by
  refine @Hush.hu _ (by
  obtain ⟨r, a, b, p, q⟩ := e
  cases r <;> cases a <;> cases b <;> kernel_rfl) ?_
  walk_at "hu"
def Re.k : Re → Nat
  | .any => 0 | .cells => 1 | .feeds => 2 | .jump => 3 | .memory => 4 | .same => 5 | .shows => 6 | .used => 7
def Ki.k : Ki → Nat
  | .get => 0 | .if_ => 1 | .put => 2 | .set => 3 | .show_ => 4 | .sum => 5
def Ev.k : Ev → Nat
  | .lay => 0 | .make => 1 | .out => 2 | .read => 3 | .write => 4
def En.k (e : En) : Nat := (((e.r.k * 6 + e.a.k) * 6 + e.b.k) * 5 + e.p.k) * 5 + e.q.k
def insE (x : En) : List En → List En
  | [] => [x]
  | y :: r => if y.k < x.k then y :: insE x r else x :: y :: r
def sortE : List En → List En
  | [] => []
  | x :: r => insE x (sortE r)
def needs0 (y : Bool) (h0 h1 h2 : Ev) : List En :=
  ([Ki.set, .sum, .get].flatMap fun a => [Ki.sum, .get, .put, .if_, .show_].map fun b => ⟨.feeds, a, b, if y then .make else h0, .read⟩) ++
  ([Ki.sum, .get, .put, .if_, .show_].flatMap fun a => [Ki.set, .sum, .get].map fun b => ⟨.used, a, b, .read, h0⟩) ++
  ([Ki.set, .sum, .get].flatMap fun a => [Ki.set, .sum, .get].map fun b => ⟨.same, a, b, h0, h0⟩) ++
  [⟨.cells, .put, .get, h1, .make⟩, ⟨.cells, .get, .put, .make, h1⟩, ⟨.cells, .put, .put, h1, h1⟩, ⟨.shows, .show_, .show_, h2, h2⟩] ++
  [⟨.jump, .if_, .set, .make, h0⟩, ⟨.jump, .if_, .sum, .make, h0⟩, ⟨.jump, .if_, .get, .make, h0⟩, ⟨.jump, .if_, .put, .make, h1⟩, ⟨.jump, .if_, .show_, .make, h2⟩]
def needsL (y : Bool) (h0 h1 h2 : Ho) : List En := sortE (needs0 y h0.e h1.e h2.e)
def De.N (d : De) : List En := needsL d.y d.h0 d.h1 d.h2
theorem needsL_eq (d : De) : m__law_needs [.d (encD d)] = some (.d (.list (d.N.map enc))) := by
  refine @Hush.hu _ (by
  obtain ⟨w, x, y, h0, h1, h2, T⟩ := d
  cases y <;> cases h0 <;> cases h1 <;> cases h2 <;> kernel_rfl) ?_
  walk_at "hu"
def alwD (a b : Ki) : PyData := .list ([.str "any"] ++ (if a = .if_ then [.str "jump"] else []) ++ (if a = .show_ ∧ b = .show_ then [.str "shows"] else []) ++ (if stor a b = true then [.str "memory"] else []))
theorem in_alw (r : Re) (a b : Ki) : fIn false (.d (.str r.s)) (.d (alwD a b)) = some (.d (.bool (hold r a b))) := by
  refine @Hush.hu _ (by cases r <;> cases a <;> cases b <;> kernel_rfl) ?_
  walk_at "hu"
theorem storeL_eq (a b : Ki) : m__law_store [.d (.str a.s), .d (.str b.s)] = some (.d (.bool (stor a b))) := by
  refine @Hush.hu _ (by cases a <;> cases b <;> kernel_rfl) ?_
  walk_at "hu"
theorem in_lrL (q : Ev) : fIn false (.d (.str q.s)) (.d (.list [(.str "lay"), (.str "read")])) = some (.d (.bool (decide (q = .lay) || decide (q = .read)))) := by
  refine @Hush.hu _ (by cases q <;> kernel_rfl) ?_
  walk_at "hu"
def env3 (t : PyData) (e : En) (o8 o9 o10 o11 o12 : Option D) : Dl.Env := [some (.d t), some (.d (enc e)), some (.d (.str e.r.s)), some (.d (.str e.a.s)), some (.d (.str e.b.s)), some (.d (.str e.p.s)), some (.d (.str e.q.s)), some (.d (alwD e.a e.b)), o8, o9, o10, o11, o12]
def same2 (s e : En) : Bool := decide (s.a = e.a) && decide (s.b = e.b)
def leN (m n : Nat) : Bool := decide (m ≤ n)
def lawc (s e : En) : Bool :=
  (leN s.q.n e.q.n && leN e.p.n s.p.n && (decide (s.r = e.r) || hold s.r e.a e.b || (decide (s.r = .cells) && stor e.a e.b && (decide (s.q = .lay) || decide (s.q = .read))))) || (leN s.q.n e.q.n && (decide (s.r = .cells) && stor e.a e.b) && decide (e.p = .read))
theorem not_lt (m n : Nat) : (decide (m < n)) = !leN n m := by
  refine @Hush.hu _ (by
  unfold leN
  by_cases h : m < n
  · simp [h, Nat.not_le.mpr h]
  · simp [h, Nat.not_lt.mp h]) ?_
  walk_at "hu"
theorem forcB (s w : En) : forc s w = (same2 s w && (leN s.q.n w.q.n && ((decide (s.r = .cells) && stor s.a s.b && decide (w.p = .read)) || (leN w.p.n s.p.n && (decide (s.r = w.r) || hold s.r s.a s.b || (decide (s.r = .cells) && stor s.a s.b && (decide (s.q = .lay) || decide (s.q = .read)))))))) := by
  refine @Hush.hu _ (by
  unfold forc same2
  have e1 := not_lt w.q.n s.q.n
  have e2 := not_lt s.p.n w.p.n
  generalize leN s.q.n w.q.n = b1 at *
  generalize leN w.p.n s.p.n = b2 at *
  by_cases h1 : s.a = w.a <;> by_cases h2 : s.b = w.b <;> by_cases h3 : w.q.n < s.q.n <;> simp [h1, h2, h3] at e1 ⊢ <;> subst e1 <;> simp
  generalize hold s.r w.a w.b = hh
  generalize stor w.a w.b = ss
  generalize (decide (s.q = .lay) || decide (s.q = .read)) = qq
  by_cases h4 : s.r = .cells <;> by_cases h5 : w.p = .read <;> by_cases h6 : s.p.n < w.p.n <;> by_cases h7 : s.r = w.r <;> simp [h6] at e2 <;> subst e2 <;> cases hh <;> cases ss <;> cases qq <;> simp_all) ?_
  walk_at "hu"
theorem forc_law (s e : En) : forc s e = (same2 s e && lawc s e) := by
  refine @Hush.hu _ (by
  rw [forcB]
  unfold lawc
  by_cases h1 : s.a = e.a
  · by_cases h2 : s.b = e.b
    · rw [h1, h2]
      generalize same2 s e = b0
      generalize leN s.q.n e.q.n = b1
      generalize leN e.p.n s.p.n = b2
      generalize decide (s.r = .cells) = b3
      generalize decide (s.r = e.r) = b4
      generalize hold s.r e.a e.b = b5
      generalize stor e.a e.b = b6
      generalize (decide (s.q = .lay) || decide (s.q = .read)) = b7
      generalize decide (e.p = .read) = b8
      revert b0 b1 b2 b3 b4 b5 b6 b7 b8
      decide
    · unfold same2; simp [h2]
  · unfold same2; simp [h1]) ?_
  walk_at "hu"
def alw2D (a b : Ki) : PyData := .list ([.str "any"] ++ (if a = .if_ then [.str "jump"] else []) ++ (if a = .show_ ∧ b = .show_ then [.str "shows"] else []))
def cst (s e : En) : Bool := decide (s.r = .cells) && stor e.a e.b
theorem lawc_body (t : PyData) (s e : En) (o8 o9 o10 o11 o12 : Option D) :
    (l__law_by_table_1) (env3 t e (some (.d (enc s))) o9 o10 o11 o12) = some (if lawc s e = true then .rt (.d (.bool true)) else .nx (env3 t e (some (.d (enc s))) (some (.d (.bool (leN s.q.n e.q.n)))) (some (.d (.bool (leN e.p.n s.p.n)))) (some (.d (.bool (cst s e)))) o12)) := by
  refine @Hush.hu _ (by
  obtain ⟨r, a, b, p, q⟩ := s
  obtain ⟨r', a', b', p', q'⟩ := e
  have e1 : (match (r, r') with | (x, y) => decide (x = .cells) && stor a' b') = (decide (r = .cells) && stor a' b') := rfl
  by_cases hc : r = .cells
  · subst hc
    unfold lawc leN cst
    simp [env3, enc, mOf, startE, pV, pC, pOp, pB, pNot, pAnd, pOr, pAndV, pOrV, pNotV, pIf, pNil, pCons, pMk, pPart, pSl, pIt, pRg, pAsg, pRet, pExp, pNx, pSeq, pAp, pCh, pPnil, pPcons, pDget, pDsub, pNo, isI, fEq, fNe, fLe, fGt, fGe, fIs, fIsNot, fAdd, fSub, fMod, fIx, fSl, i2, fLt, gN, gT, gC, gE, mTup, mLst, pdL, cLen, cTup, cLst, cInt, cIsi, cIsi2, cAll, cAny, isSeq, itL, bind_ite, map_ite, retO_ite, retO_rt, retO_nx, retO_no, isB_b, at0, at3, at4, sh_re, sh_ki, sh_ev, sh_cells, sh_read, eqv_re, eqv_ki, eqv_ev, cells_s, read_s, num_eqL, storeL_eq, in_alw, in_lrL]
    repeat' split
    all_goals first
      | (simp_all; done)
      | (simp_all; omega)
      | (exfalso; rename_i h1 h2; rcases h2 with ⟨⟨h3, h4⟩, h5⟩ | ⟨⟨h3, h4⟩, h5⟩ <;> omega)
  · unfold lawc leN cst
    simp [env3, enc, mOf, startE, pV, pC, pOp, pB, pNot, pAnd, pOr, pAndV, pOrV, pNotV, pIf, pNil, pCons, pMk, pPart, pSl, pIt, pRg, pAsg, pRet, pExp, pNx, pSeq, pAp, pCh, pPnil, pPcons, pDget, pDsub, pNo, isI, fEq, fNe, fLe, fGt, fGe, fIs, fIsNot, fAdd, fSub, fMod, fIx, fSl, i2, fLt, gN, gT, gC, gE, mTup, mLst, pdL, cLen, cTup, cLst, cInt, cIsi, cIsi2, cAll, cAny, isSeq, itL, bind_ite, map_ite, retO_ite, retO_rt, retO_nx, retO_no, isB_b, at0, at3, at4, sh_re, sh_ki, sh_ev, sh_cells, sh_read, eqv_re, eqv_ki, eqv_ev, cells_s, read_s, num_eqL, storeL_eq, in_alw, in_lrL, hc]
    repeat' split
    all_goals first
      | (simp_all; done)
      | (simp_all; omega)
      | (exfalso; rename_i h1 h2; rcases h2 with ⟨⟨h3, h4⟩, h5⟩ | ⟨⟨h3, h4⟩, h5⟩ <;> omega)) ?_
  walk_at "hu"
theorem map_d (T : List En) : (T.map enc).map D.d = T.map fun s => D.d (enc s) := by
  refine @Hush.hu _ (by rw [List.map_map]; rfl) ?_
  walk_at "hu"
theorem tt_same (s e : En) (t : PyData) (o8 o9 o10 o11 : Option D) :
    ((pB (pOp (fEq) (pSl fSl (pV 12) (pPart (pC (.d (.int 1)))) (pPart (pC (.d (.int 3))))) (pMk mTup (pCons (pV 3) (pCons (pV 4) pNil)))))) (env3 t e o8 o9 o10 o11 (some (.d (enc s)))) = some (same2 s e) := by
  refine @Hush.hu _ (by
  obtain ⟨r, a, b, p, q⟩ := s
  obtain ⟨r', a', b', p', q'⟩ := e
  simp [env3, enc, mOf, startE, pV, pC, pOp, pB, pNot, pAnd, pOr, pAndV, pOrV, pNotV, pIf, pNil, pCons, pMk, pPart, pSl, pIt, pRg, pAsg, pRet, pExp, pNx, pSeq, pAp, pCh, pPnil, pPcons, pDget, pDsub, pNo, isI, fEq, fNe, fLe, fGt, fGe, fIs, fIsNot, fAdd, fSub, fMod, fIx, fSl, i2, fLt, gN, gT, gC, gE, mTup, mLst, pdL, cLen, cTup, cLst, cInt, cIsi, cIsi2, cAll, cAny, isSeq, itL, bind_ite, map_ite, retO_ite, retO_rt, retO_nx, retO_no, isB_b, cut13, sh_kk, eqv_t2, eqv_ki, same2]) ?_
  walk_at "hu"
theorem src_tab (t : PyData) (T : List En) (ht : itL (.d t) = some (T.map fun s => D.d (enc s))) (hT : T.length ≤ 100000) (e : En) :
    ((pIt (pMk mLst (pLc (gN 12) [12] (pIt (pV 0)) (pB (pOp (fEq) (pSl fSl (pV 12) (pPart (pC (.d (.int 1)))) (pPart (pC (.d (.int 3))))) (pMk mTup (pCons (pV 3) (pCons (pV 4) pNil))))) l__law_by_table_0)))) (env3 t e none none none none none) = some ((T.filter fun s => same2 s e).map fun s => D.d (enc s)) := by
  refine @Hush.hu _ (by
  have h1 := goP_fm (fun s => D.d (enc s)) (g := gN 12) (env := env3 t e none none none none none) (tt := (pB (pOp (fEq) (pSl fSl (pV 12) (pPart (pC (.d (.int 1)))) (pPart (pC (.d (.int 3))))) (pMk mTup (pCons (pV 3) (pCons (pV 4) pNil)))))) (el := pV 12) (fun s => same2 s e) (fun s => D.d (enc s)) T fun s _ => ⟨env3 t e none none none none (some (.d (enc s))), rfl, tt_same s e t _ _ _ _, fun _ => rfl⟩
  have h2 : pIt (pV 0) (env3 t e none none none none none) = some (T.map fun s => D.d (enc s)) := by rw [pIt_of (x := .d t) rfl]; exact ht
  rw [pIt_of ((pMk_of (pLc_of h2 (by rw [List.length_map]; exact hT) h1)).trans (mLst_map enc _ (Nat.le_trans (List.length_filter_le _ _) hT)))]
  show some _ = some _
  rw [map_d]) ?_
  walk_at "hu"
theorem any_filter (T : List En) (p q : En → Bool) : (T.filter p).any q = T.any fun s => p s && q s := by
  refine @Hush.hu _ (by
  induction T with
  | nil => rfl
  | cons x r ih =>
    rw [List.any_cons, ← ih]
    cases h : p x with
    | true => rw [List.filter_cons_of_pos h, List.any_cons, Bool.true_and]
    | false => rw [List.filter_cons_of_neg (by rw [h]; exact Bool.false_ne_true), Bool.false_and, Bool.false_or]) ?_
  walk_at "hu"
theorem tab_law (t : PyData) (T : List En) (ht : itL (.d t) = some (T.map fun s => D.d (enc s))) (hT : T.length ≤ 100000) (e : En) :
    m__law_by_table [.d t, .d (enc e)] = some (.d (.bool (T.any fun s => forc s e))) := by
  refine @Hush.hu _ (by
  show retO (b__law_by_table [some (.d t), some (.d (enc e)), none, none, none, none, none, none, none, none, none, none, none]) = _
  have hA1 : ((pAsg (gT 5 (gC (gN 2) (gC (gN 3) (gC (gN 4) (gC (gN 5) (gC (gN 6) gE)))))) (pV 1))) [some (.d t), some (.d (enc e)), none, none, none, none, none, none, none, none, none, none, none] = some (.nx [some (.d t), some (.d (enc e)), some (.d (.str e.r.s)), some (.d (.str e.a.s)), some (.d (.str e.b.s)), some (.d (.str e.p.s)), some (.d (.str e.q.s)), none, none, none, none, none, none]) := by kernel_rfl
  have hA2 : ((pAsg (gN 7) (pOp fAdd (pOp fAdd (pMk mLst (pCons (pC (.d (.str "any"))) pNil)) (pOp fMul (pMk mLst (pCons (pC (.d (.str "jump"))) pNil)) (pMk cIntT (pCons (pOp (fEq) (pV 3) (pC (.d (.str "if")))) pNil)))) (pOp fMul (pMk mLst (pCons (pC (.d (.str "shows"))) pNil)) (pMk cIntT (pCons (pCh (fEq) (fEq) (pV 3) (pV 4) (pC (.d (.str "show")))) pNil)))))) [some (.d t), some (.d (enc e)), some (.d (.str e.r.s)), some (.d (.str e.a.s)), some (.d (.str e.b.s)), some (.d (.str e.p.s)), some (.d (.str e.q.s)), none, none, none, none, none, none] = some (.nx [some (.d t), some (.d (enc e)), some (.d (.str e.r.s)), some (.d (.str e.a.s)), some (.d (.str e.b.s)), some (.d (.str e.p.s)), some (.d (.str e.q.s)), some (.d (alw2D e.a e.b)), none, none, none, none, none]) := by
    obtain ⟨r, a, b, p, q⟩ := e
    cases a <;> cases b <;> kernel_rfl
  have hA3 : ((pAsg (gN 7) (pOp fAdd (pV 7) (pOp fMul (pMk mLst (pCons (pC (.d (.str "memory"))) pNil)) (pMk cIntT (pCons (pMk m__law_store (pCons (pV 3) (pCons (pV 4) pNil))) pNil)))))) [some (.d t), some (.d (enc e)), some (.d (.str e.r.s)), some (.d (.str e.a.s)), some (.d (.str e.b.s)), some (.d (.str e.p.s)), some (.d (.str e.q.s)), some (.d (alw2D e.a e.b)), none, none, none, none, none] = some (.nx (env3 t e none none none none none)) := by
    obtain ⟨r, a, b, p, q⟩ := e
    cases a <;> cases b <;> kernel_rfl
  have key := goFP_find (fun s => D.d (enc s)) (g := gN 8) (body := l__law_by_table_1) (fun s => lawc s e) (.d (.bool true)) (fun env => ∃ o8 o9 o10 o11 o12, env = env3 t e o8 o9 o10 o11 o12) (T.filter fun s => same2 s e) (env3 t e none none none none none) ⟨_, _, _, _, _, rfl⟩ (by
    rintro s _ env ⟨o8, o9, o10, o11, o12, rfl⟩
    refine ⟨env3 t e (some (.d (enc s))) o9 o10 o11 o12, rfl, ?_⟩
    have hb := lawc_body t s e o8 o9 o10 o11 o12
    by_cases c : lawc s e = true
    · rw [if_pos c] at hb ⊢; exact hb
    · rw [if_neg c] at hb ⊢; exact ⟨_, hb, _, _, _, _, _, rfl⟩)
  have hF : ((pFor (gN 8) (pIt (pMk mLst (pLc (gN 12) [12] (pIt (pV 0)) (pB (pOp (fEq) (pSl fSl (pV 12) (pPart (pC (.d (.int 1)))) (pPart (pC (.d (.int 3))))) (pMk mTup (pCons (pV 3) (pCons (pV 4) pNil))))) l__law_by_table_0))) l__law_by_table_1)) (env3 t e none none none none none) = goFP (gN 8) (l__law_by_table_1) ((T.filter fun s => same2 s e).map fun s => D.d (enc s)) (env3 t e none none none none none) := by
    unfold pFor
    rw [src_tab t T ht hT e]
    rfl
  unfold b__law_by_table
  rw [pSeq_nx hA1, pSeq_nx hA2, pSeq_nx hA3]
  have ea : (T.any fun s => forc s e) = (T.filter fun s => same2 s e).any fun s => lawc s e := by
    rw [any_filter]
    congr 1
    funext s
    exact forc_law s e
  rw [ea]
  by_cases c : ((T.filter fun s => same2 s e).any fun s => lawc s e) = true
  · rw [if_pos c] at key
    rw [pSeq_rt (hF.trans key), c]
    rfl
  · rw [if_neg c] at key
    obtain ⟨e2, h1, _⟩ := key
    rw [pSeq_nx (hF.trans h1), Bool.eq_false_iff.mpr c]
    rfl) ?_
  walk_at "hu"
theorem tab_prog (d : De) (hT : d.T.length ≤ 100000) (e : En) : m_forced_by_table [.d (encD d), .d (enc e)] = some (.d (.bool (d.T.any fun s => forc s e))) := by
  refine @Hush.hu _ (by
  have h1 := goP_fm (fun s => D.d (enc s)) (g := gN 2) (env := [some (.d (encD d)), some (.d (enc e)), none]) (tt := pC true) (el := pMk m_forces (pCons (pV 2) (pCons (pV 1) pNil))) (fun _ => true) (fun s => D.d (.bool (forc s e))) d.T fun s _ => ⟨_, rfl, rfl, fun _ => by
    rw [pMk_of (l := [.d (enc s), .d (enc e)]) rfl]; exact forc_eq s e⟩
  have h2 : pIt (pOp fIx (pV 0) (pC (.d (.int 4)))) [some (.d (encD d)), some (.d (enc e)), none] = some (d.T.map fun s => D.d (enc s)) := by
    rw [pIt_of (x := .d (.tuple (d.T.map enc))) rfl, ← map_d]; rfl
  show retO (pRet (pMk cAny (pCons (pMk mLst (pLc (gN 2) [2] (pIt (pOp fIx (pV 0) (pC (.d (.int 4))))) (pC true) (pMk m_forces (pCons (pV 2) (pCons (pV 1) pNil))))) pNil)) [some (.d (encD d)), some (.d (enc e)), none]) = _
  rw [List.filter_eq_self.mpr (fun _ _ => rfl)] at h1
  have h3 := (pMk_of (pLc_of (vs := [2]) h2 (by rw [List.length_map]; exact hT) h1)).trans (mLst_map (fun s => .bool (forc s e)) _ hT)
  rw [pRet_of (x := .d (.bool (d.T.any fun s => forc s e)))]
  · rfl
  rw [pMk_of (l := [.d (.list (d.T.map fun s => .bool (forc s e)))]) (pCons_of h3 rfl)]
  show (bools _).map _ = _
  rw [bools_map]
  show some (D.d (.bool ((d.T.map fun s => forc s e).any id))) = _
  rw [List.any_map]
  rfl) ?_
  walk_at "hu"
def forced (d : De) (e : En) : Bool := !can e || (decide (d.w = 1) || (d.x && decide (e.q = .out))) || d.T.any fun s => forc s e
theorem sh_out : SeqAt.shaped (.str "out") = true := by
  refine Hush.hu (sh_ev .out) ?_
  walk_at "hu"
theorem out_s (r : Ev) : PyData.eqv (.str r.s) (.str "out") = decide (r = .out) := by
  refine Hush.hu (eqv_ev r .out) ?_
  walk_at "hu"
theorem cond_eq (d : De) (e : En) : ((pOr (pNot (pB (pMk m_can_hold (pCons (pV 1) pNil)))) (pOr (pB (pOp (fEq) (pOp fIx (pV 0) (pC (.d (.int 0)))) (pC (.d (.int 1))))) (pAnd (pB (pOp fIx (pV 0) (pC (.d (.int 1))))) (pB (pOp (fEq) (pOp fIx (pV 1) (pC (.d (.int 4)))) (pC (.d (.str "out"))))))))) [some (.d (encD d)), some (.d (enc e))] = some (!can e || (decide (d.w = 1) || (d.x && decide (e.q = .out)))) := by
  refine @Hush.hu _ (by
  have h1 : pMk m_can_hold (pCons (pV 1) pNil) [some (.d (encD d)), some (.d (enc e))] = some (.d (.bool (can e))) := by
    rw [pMk_of (l := [.d (enc e)]) rfl]; exact can_eq e
  have h2 : pB (pOp (fEq) (pOp fIx (pV 0) (pC (.d (.int 0)))) (pC (.d (.int 1)))) [some (.d (encD d)), some (.d (enc e))] = some (decide (d.w = 1)) := by
    refine pB_of (a := pOp fEq (pOp fIx (pV 0) (pC (.d (.int 0)))) (pC (.d (.int 1)))) ?_
    rw [pOp_of (x := .d (.int d.w)) (y := .d (.int 1)) rfl rfl]
    simp [fEq, sh_int, PyData.eqv]
    rfl
  have h3 : pB (pOp fIx (pV 0) (pC (.d (.int 1)))) [some (.d (encD d)), some (.d (enc e))] = some d.x := rfl
  have h4 : pB (pOp (fEq) (pOp fIx (pV 1) (pC (.d (.int 4)))) (pC (.d (.str "out")))) [some (.d (encD d)), some (.d (enc e))] = some (decide (e.q = .out)) := by
    refine pB_of (a := pOp fEq (pOp fIx (pV 1) (pC (.d (.int 4)))) (pC (.d (.str "out")))) ?_
    rw [pOp_of (x := .d (.str e.q.s)) (y := .d (.str "out")) rfl rfl]
    simp [fEq, sh_ev, sh_out, out_s]
  rw [pOr_of (pNot_of (pB_of h1)), pOr_of h2, pAnd_of h3, h4]
  cases can e <;> cases decide (d.w = 1) <;> cases d.x <;> simp) ?_
  walk_at "hu"
theorem condL_eq (d : De) (e : En) : ((pOr (pNot (pB (pMk m__law_can (pCons (pV 1) pNil)))) (pOr (pB (pOp (fEq) (pOp fIx (pV 0) (pC (.d (.int 0)))) (pC (.d (.int 1))))) (pAnd (pB (pOp fIx (pV 0) (pC (.d (.int 1))))) (pB (pOp (fEq) (pOp fIx (pV 1) (pC (.d (.int 4)))) (pC (.d (.str "out"))))))))) [some (.d (encD d)), some (.d (enc e))] = some (!can e || (decide (d.w = 1) || (d.x && decide (e.q = .out)))) := by
  refine @Hush.hu _ (by
  have h1 : pMk m__law_can (pCons (pV 1) pNil) [some (.d (encD d)), some (.d (enc e))] = some (.d (.bool (can e))) := by
    rw [pMk_of (l := [.d (enc e)]) rfl]; exact canL_eq e
  have h2 : pB (pOp (fEq) (pOp fIx (pV 0) (pC (.d (.int 0)))) (pC (.d (.int 1)))) [some (.d (encD d)), some (.d (enc e))] = some (decide (d.w = 1)) := by
    refine pB_of (a := pOp fEq (pOp fIx (pV 0) (pC (.d (.int 0)))) (pC (.d (.int 1)))) ?_
    rw [pOp_of (x := .d (.int d.w)) (y := .d (.int 1)) rfl rfl]
    simp [fEq, sh_int, PyData.eqv]
    rfl
  have h3 : pB (pOp fIx (pV 0) (pC (.d (.int 1)))) [some (.d (encD d)), some (.d (enc e))] = some d.x := rfl
  have h4 : pB (pOp (fEq) (pOp fIx (pV 1) (pC (.d (.int 4)))) (pC (.d (.str "out")))) [some (.d (encD d)), some (.d (enc e))] = some (decide (e.q = .out)) := by
    refine pB_of (a := pOp fEq (pOp fIx (pV 1) (pC (.d (.int 4)))) (pC (.d (.str "out")))) ?_
    rw [pOp_of (x := .d (.str e.q.s)) (y := .d (.str "out")) rfl rfl]
    simp [fEq, sh_ev, sh_out, out_s]
  rw [pOr_of (pNot_of (pB_of h1)), pOr_of h2, pAnd_of h3, h4]
  cases can e <;> cases decide (d.w = 1) <;> cases d.x <;> simp) ?_
  walk_at "hu"
theorem forced_eq (d : De) (hT : d.T.length ≤ 100000) (e : En) : m_forced_in [.d (encD d), .d (enc e)] = some (.d (.bool (forced d e))) := by
  refine @Hush.hu _ (by
  show retO (b_forced_in [some (.d (encD d)), some (.d (enc e))]) = _
  unfold b_forced_in forced
  have h := cond_eq d e
  generalize (!can e || (decide (d.w = 1) || (d.x && decide (e.q = .out)))) = c at h
  cases c with
  | true =>
    rw [pSeq_rt (d := .d (.bool true)) (by rw [pIf_t h]; rfl)]
    rfl
  | false =>
    rw [pSeq_nx (e1 := [some (.d (encD d)), some (.d (enc e))]) (by rw [pIf_f h]; rfl)]
    rw [pRet_of (x := .d (.bool (d.T.any fun s => forc s e))) (by rw [pMk_of (l := [.d (encD d), .d (enc e)]) rfl]; exact tab_prog d hT e)]
    rfl) ?_
  walk_at "hu"
theorem forcedL_eq (d : De) (hT : d.T.length ≤ 100000) (e : En) : m__law_forced [.d (encD d), .d (enc e)] = some (.d (.bool (forced d e))) := by
  refine @Hush.hu _ (by
  show retO (b__law_forced [some (.d (encD d)), some (.d (enc e))]) = _
  unfold b__law_forced forced
  have h := condL_eq d e
  generalize (!can e || (decide (d.w = 1) || (d.x && decide (e.q = .out)))) = c at h
  cases c with
  | true =>
    rw [pSeq_rt (d := .d (.bool true)) (by rw [pIf_t h]; rfl)]
    rfl
  | false =>
    rw [pSeq_nx (e1 := [some (.d (encD d)), some (.d (enc e))]) (by rw [pIf_f h]; rfl)]
    rw [pRet_of (x := .d (.bool (d.T.any fun s => forc s e))) (by rw [pMk_of (l := [.d (.tuple (d.T.map enc)), .d (enc e)]) rfl]; exact tab_law (.tuple (d.T.map enc)) d.T (by rw [← map_d]; rfl) hT e)]
    rfl) ?_
  walk_at "hu"
theorem N_len (d : De) : d.N.length = 48 := by
  refine @Hush.hu _ (by
  obtain ⟨w, x, y, h0, h1, h2, T⟩ := d
  cases y <;> cases h0 <;> cases h1 <;> cases h2 <;> kernel_rfl) ?_
  walk_at "hu"
end My
namespace My
open PySem L2 Dl
def dvs (xs : List PyData) : List Tr := xs.map fun y => .v (.d y)
def dtr (xs : List PyData) : Tr := .nd .lst (dvs xs)
theorem dvs_len (xs : List PyData) : (dvs xs).length = xs.length := by
  refine Hush.hu (List.length_map _) ?_
  walk_at "hu"
theorem topL_dd : ∀ a : List PyData, topL (a.map D.d) = 0
  | [] => rfl
  | x :: r => by
    show max 0 (topL (r.map D.d)) = 0
    rw [topL_dd r]
    rfl
theorem dvs_leafs : ∀ a : List PyData, leafs (dvs a) = some a
  | [] => rfl
  | x :: r => by
    show (leafs (dvs r)).map (x :: ·) = _
    rw [dvs_leafs r]
    rfl
section
variable {T : Ts} {n : Nat} {a : List PyData}
theorem dt_getT (h : T[n]? = some (some (dtr a))) : getT T n [] = some (.nd .lst (dvs a)) := by
  refine @Hush.hu _ (by rw [getT_of h]; exact get_nil _) ?_
  walk_at "hu"
theorem dt_al (h : T[n]? = some (some (dtr a))) : isAl (.r n []) T = true := by
  refine @Hush.hu _ (by
  unfold isAl
  dsimp only
  rw [dt_getT h]) ?_
  walk_at "hu"
theorem dt_put (h : T[n]? = some (some (dtr a))) (us : List Tr) : putCh T n [] .lst us = some (T.set n (some (.nd .lst us))) := by
  refine @Hush.hu _ (by
  unfold putCh
  rw [h]
  show (Tr.put (dtr a) [] (.nd .lst us)).map _ = _
  rw [put_nil]
  rfl) ?_
  walk_at "hu"
theorem dt_ext (h : T[n]? = some (some (dtr a))) {b : List PyData} (hl : a.length + b.length < 100000) : extX (.r n []) (.d (.list b)) T = some (T.set n (some (dtr (a ++ b)))) := by
  refine @Hush.hu _ (by
  unfold extX
  dsimp only
  rw [dt_getT h]
  dsimp only
  rw [dvs_len, if_pos hl, dt_put h]
  unfold dtr dvs
  rw [List.map_append]) ?_
  walk_at "hu"
theorem dt_frz (h : T[n]? = some (some (dtr a))) : frz (.r n []) T = .ok (.d (.list a)) (T.set n none) := by
  refine @Hush.hu _ (by
  unfold frz
  dsimp only
  rw [h]
  dsimp only [dtr]
  rw [dvs_leafs]) ?_
  walk_at "hu"
theorem dt_new (t : Ts) (hl : a.length ≤ 100000) : newLs (a.map D.d) t = .ok (.r t.length []) (t ++ [some (dtr a)]) := by
  refine @Hush.hu _ (by
  rw [nl_of (topL_dd a) (by simpa using hl)]
  rw [List.map_map]
  rfl) ?_
  walk_at "hu"
end
theorem t1_at (t : Ts) (x : Option Tr) : (t ++ [x])[t.length]? = some x := by
  refine @Hush.hu _ (by simp) ?_
  walk_at "hu"
theorem t1_set (t : Ts) (x y : Option Tr) : (t ++ [x]).set t.length y = t ++ [y] := by
  refine @Hush.hu _ (by simp) ?_
  walk_at "hu"
theorem dt_ext1 (t : Ts) (a b : List PyData) (hl : a.length + b.length < 100000) : extX (.r t.length []) (.d (.list b)) (t ++ [some (dtr a)]) = some (t ++ [some (dtr (a ++ b))]) := by
  refine @Hush.hu _ (by rw [dt_ext (t1_at _ _) hl, t1_set]) ?_
  walk_at "hu"
theorem dt_al1 (t : Ts) (a : List PyData) : isAl (.r t.length []) (t ++ [some (dtr a)]) = true := by
  refine Hush.hu (dt_al (t1_at _ _)) ?_
  walk_at "hu"
theorem dt_frz1 (t : Ts) (a : List PyData) : frz (.r t.length []) (t ++ [some (dtr a)]) = .ok (.d (.list a)) (t ++ [none]) := by
  refine @Hush.hu _ (by rw [dt_frz (t1_at _ _), t1_set]) ?_
  walk_at "hu"
end My
namespace My
open PySem L2 Dl
theorem take_l {t t' : Ts} (h : t'.length = t.length) : t'.take t.length = t' := by
  refine @Hush.hu _ (by rw [← h]; exact List.take_length) ?_
  walk_at "hu"
theorem take_m {t t' : Ts} (h : t'.length = t.length) : t'.take (max t.length 0) = t' := by
  refine @Hush.hu _ (by rw [Nat.max_eq_left (Nat.zero_le _)]; exact take_l h) ?_
  walk_at "hu"
theorem go_nx {a b : Sm Out} {env : Dl.Env} {s : Ts} {r : R Out} (e1 : Dl.Env) (s1 : Ts) (h : a env s = .ok (.nx e1) s1) (h2 : b e1 s1 = r) : sSeq a b env s = r := by
  refine Hush.hu ((sSeq_nx h).trans h2) ?_
  walk_at "hu"
theorem go_if {c : Sm Bool} {a b : Sm Out} {env : Dl.Env} {s : Ts} {r : R Out} {v : Bool} (s1 : Ts) (h : c env s = .ok v s1) (hv : v = false) (h2 : b env s1 = r) : sSeq (sIf c a (lift pNx)) b env s = r := by
  refine Hush.hu ((sSeq_nx ((sIf_f (hv ▸ h)).trans (l_of (g := pNx) (x := Out.nx env) rfl))).trans h2) ?_
  walk_at "hu"
end My
namespace My
open PySem L2 Dl
theorem cl_at (k : Nat) (L0 : Ts → R D) (t : Ts) : sCl 0 k L0 [some (.cl k), none, none] t = L0 t := by
  refine @Hush.hu _ (by
  show (if k = k then L0 t else .no) = _
  rw [if_pos rfl]) ?_
  walk_at "hu"
theorem wrong_ex {k : Nat} {L0 : Ts → R D} {t t' : Ts} {x : Exn} {y : PyData} (h : L0 t = .ex x t') (hl : t'.length = t.length) (hx : ex_WindowError x.c = some true)
    (hs : ∀ t, w__law_wrong (xenv 3 1 x) t = .ok (.rt (.d y)) t) : m__law_wrong k L0 t = .ok (.d y) t' := by
  refine @Hush.hu _ (by
  show retR t.length (b__law_wrong k L0 [some (.cl k), none, none] t) = _
  have e : b__law_wrong k L0 [some (.cl k), none, none] t = .ok (.rt (.d y)) t' := by
    unfold b__law_wrong
    refine sSeq_rt ?_
    unfold sTry
    rw [sExp_ex ((cl_at k L0 t).trans h)]
    dsimp only
    rw [hx]
    dsimp only
    rw [hs]
    rfl
  rw [e]
  show R.ok _ (t'.take (max t.length 0)) = _
  rw [take_m hl]) ?_
  walk_at "hu"
end My
namespace My
open PySem L2 Dl
def fst_ (d : De) : Ev := if d.y then .make else d.h0.e
def P1 (d : De) : List En := [Ki.set, .sum, .get].flatMap fun a => [Ki.sum, .get, .put, .if_, .show_].map fun b => ⟨.feeds, a, b, fst_ d, .read⟩
def P2 (d : De) : List En := [Ki.sum, .get, .put, .if_, .show_].flatMap fun a => [Ki.set, .sum, .get].map fun b => ⟨.used, a, b, .read, d.h0.e⟩
def P3 (d : De) : List En := [Ki.set, .sum, .get].flatMap fun a => [Ki.set, .sum, .get].map fun b => ⟨.same, a, b, d.h0.e, d.h0.e⟩
def P4 (d : De) : List En := [⟨.cells, .put, .get, d.h1.e, .make⟩, ⟨.cells, .get, .put, .make, d.h1.e⟩]
def P5 (d : De) : List En := [⟨.cells, .put, .put, d.h1.e, d.h1.e⟩, ⟨.shows, .show_, .show_, d.h2.e, d.h2.e⟩]
def P6 (d : De) : List En := [⟨.jump, .if_, .set, .make, d.h0.e⟩, ⟨.jump, .if_, .sum, .make, d.h0.e⟩, ⟨.jump, .if_, .get, .make, d.h0.e⟩, ⟨.jump, .if_, .put, .make, d.h1.e⟩, ⟨.jump, .if_, .show_, .make, d.h2.e⟩]
abbrev envN (d : De) (o5 : Option D) : Dl.Env := [some (.d (encD d)), some (.d (.str d.h0.e.s)), some (.d (.str d.h1.e.s)), some (.d (.str d.h2.e.s)), some (.d (.str (fst_ d).s)), o5, none, none]
theorem needs_eq (d : De) (t : Ts) : m_needs_in [.d (encD d)] t = .ok (.d (.list (d.N.map enc))) t := by
  refine @Hush.hu _ (by
  apply c_needs_in (t1 := t ++ [none])
  · unfold b_needs_in
    refine go_nx [some (.d (encD d)), some (.d (.str d.h0.e.s)), some (.d (.str d.h1.e.s)), some (.d (.str d.h2.e.s)), none, none, none, none] t (l_of rfl) ?_
    refine go_nx (envN d none) t (l_of ?_) ?_
    · obtain ⟨w, x, y, h0, h1, h2, T⟩ := d
      cases y <;> rfl
    refine go_nx (envN d (some (.r t.length []))) (t ++ [some (dtr ((P1 d).map enc))]) (sAsg_of (s_alL (l := ((P1 d).map enc).map D.d) ?_ (dt_new t (by simp [P1]))) rfl) ?_
    · obtain ⟨w, x, y, h0, h1, h2, T⟩ := d
      cases y <;> cases h0 <;> kernel_rfl
    refine go_nx (envN d (some (.r t.length []))) _ (sExp_of (s_meth1 (l_of rfl) (dt_al1 _ _) (l_of (x := .d (.list ((P2 d).map enc))) ?_) (dt_ext1 _ _ _ (by simp [P1, P2])))) ?_
    · obtain ⟨w, x, y, h0, h1, h2, T⟩ := d
      cases h0 <;> kernel_rfl
    refine go_nx (envN d (some (.r t.length []))) _ (sExp_of (s_meth1 (l_of rfl) (dt_al1 _ _) (l_of (x := .d (.list ((P3 d).map enc))) ?_) (dt_ext1 _ _ _ (by simp [P1, P2, P3])))) ?_
    · obtain ⟨w, x, y, h0, h1, h2, T⟩ := d
      cases h0 <;> kernel_rfl
    refine go_nx (envN d (some (.r t.length []))) _ (sExp_of (s_meth1 (l_of rfl) (dt_al1 _ _) (l_of (x := .d (.list ((P4 d).map enc))) ?_) (dt_ext1 _ _ _ (by simp [P1, P2, P3, P4])))) ?_
    · obtain ⟨w, x, y, h0, h1, h2, T⟩ := d
      cases h1 <;> kernel_rfl
    refine go_nx (envN d (some (.r t.length []))) _ (sExp_of (s_meth1 (l_of rfl) (dt_al1 _ _) (l_of (x := .d (.list ((P5 d).map enc))) ?_) (dt_ext1 _ _ _ (by simp [P1, P2, P3, P4, P5])))) ?_
    · obtain ⟨w, x, y, h0, h1, h2, T⟩ := d
      cases h1 <;> cases h2 <;> kernel_rfl
    refine go_nx (envN d (some (.r t.length []))) _ (sExp_of (s_meth1 (l_of rfl) (dt_al1 _ _) (l_of (x := .d (.list ((P6 d).map enc))) ?_) (dt_ext1 _ _ _ (by simp [P1, P2, P3, P4, P5, P6])))) ?_
    · obtain ⟨w, x, y, h0, h1, h2, T⟩ := d
      cases h0 <;> cases h1 <;> cases h2 <;> kernel_rfl
    refine s_fzs rfl (dt_frz1 _ _) rfl ?_
    refine l_of (pRet_of ?_)
    rw [pMk_of (l := [.d (.list ((((((P1 d).map enc ++ (P2 d).map enc) ++ (P3 d).map enc) ++ (P4 d).map enc) ++ (P5 d).map enc) ++ (P6 d).map enc))]) rfl]
    obtain ⟨w, x, y, h0, h1, h2, T⟩ := d
    cases y <;> cases h0 <;> cases h1 <;> cases h2 <;> kernel_rfl
  · exact List.take_left
  · rfl) ?_
  walk_at "hu"
def miss (d : De) : List En := d.N.filter fun e => !forced d e
theorem miss_len (d : De) : (miss d).length ≤ 48 := by
  refine @Hush.hu _ (by rw [← N_len d]; exact List.length_filter_le _ _) ?_
  walk_at "hu"
theorem miss_go (d : De) (mf : List D → Option D) (hf : ∀ e, mf [.d (encD d), .d (enc e)] = some (.d (.bool (forced d e)))) :
    goP (gN 1) [some (.d (encD d)), none] (pNot (pB (pMk mf (pCons (pV 0) (pCons (pV 1) pNil))))) (pV 1) (d.N.map fun s => D.d (enc s)) = some ((miss d).map fun s => D.d (enc s)) := by
  refine Hush.hu (goP_fm (fun s => D.d (enc s)) (g := gN 1) (env := [some (.d (encD d)), none]) (tt := pNot (pB (pMk mf (pCons (pV 0) (pCons (pV 1) pNil))))) (el := pV 1) (fun e => !forced d e) (fun s => D.d (enc s)) d.N fun s _ => ⟨[some (.d (encD d)), some (.d (enc s))], rfl, pNot_of (pB_of (by rw [pMk_of (l := [.d (encD d), .d (enc s)]) rfl]; exact hf s)), fun _ => rfl⟩) ?_
  walk_at "hu"
theorem missingL_eq (d : De) (hT : d.T.length ≤ 100000) : m__law_missing [.d (encD d)] = some (.d (.list ((miss d).map enc))) := by
  refine @Hush.hu _ (by
  have h1 := miss_go d m__law_forced (forcedL_eq d hT)
  have h2 : pIt (pMk m__law_needs (pCons (pV 0) pNil)) [some (.d (encD d)), none] = some (d.N.map fun s => D.d (enc s)) := by
    rw [pIt_of (x := .d (.list (d.N.map enc))) (by rw [pMk_of (l := [.d (encD d)]) rfl]; exact needsL_eq d), ← map_d]; rfl
  show retO (b__law_missing [some (.d (encD d)), none]) = _
  unfold b__law_missing
  rw [pRet_of ((pMk_of (pLc_of (vs := [1]) h2 (by rw [List.length_map, N_len]; omega) h1)).trans (mLst_map enc _ (Nat.le_trans (miss_len d) (by omega))))]
  rfl) ?_
  walk_at "hu"
theorem goI_s2 {g : D → Dl.Env → Option Dl.Env} {env : Dl.Env} {tt : Sm Bool} {el : Sm D} {xs : List D} {t : Ts} {r : R (List D)} (hl : xs.length ≤ 100000) (h : goC g env tt el xs t = r) : goItC (.st xs) g env tt el t = r := by
  refine Hush.hu ((if_pos hl).trans h) ?_
  walk_at "hu"
theorem missing_eq (d : De) (hT : d.T.length ≤ 100000) (t : Ts) : m_missing_in [.d (encD d)] t = .ok (.d (.list ((miss d).map enc))) t := by
  refine @Hush.hu _ (by
  have h1 := miss_go d m_forced_in (forced_eq d hT)
  have h2 : goItC (.st (d.N.map fun s => D.d (enc s))) (gN 1) [some (.d (encD d)), none] (lift (pNot (pB (pMk m_forced_in (pCons (pV 0) (pCons (pV 1) pNil)))))) (lift l_missing_in_0) t = .ok ((miss d).map fun s => D.d (enc s)) t := by
    refine goI_s2 (by rw [List.length_map, N_len]; omega) ?_
    rw [goC_lift]
    show ofO (goP (gN 1) [some (.d (encD d)), none] (pNot (pB (pMk m_forced_in (pCons (pV 0) (pCons (pV 1) pNil))))) (pV 1) (d.N.map fun s => D.d (enc s))) t = _
    rw [h1]
    rfl
  have h3 := needs_eq d t
  have h4 : itS (.d (.list (d.N.map enc))) t = .ok (.st (d.N.map fun s => D.d (enc s))) t := by
    rw [← map_d]
    rfl
  have h5 := mLst_map enc (miss d) (Nat.le_trans (miss_len d) (by omega))
  apply d_missing_in
  · unfold b_missing_in
    walk_at "ev"
  · rfl
  · rfl) ?_
  walk_at "hu"
end My
namespace My
open PySem L2 Dl
abbrev n_ (k : Nat) : PyData := .int (k : Nat)
inductive Ins where
  | set (d v : Nat)
  | sum (d a b c : Nat)
  | get (d a c : Nat)
  | put (d a c : Nat)
  | if_ (a g : Nat)
  | show_ (a : Nat)
deriving DecidableEq
def Ins.ok (m : Nat) : Ins → Prop
  | .set d v => d < 8 ∧ v < 256
  | .sum d a b c => d < 8 ∧ a < 8 ∧ b < 8 ∧ c < 256
  | .get d a c => d < 8 ∧ a < 8 ∧ c < 8
  | .put d a c => d < 8 ∧ a < 8 ∧ c < 8
  | .if_ a g => a < 8 ∧ g ≤ m
  | .show_ a => a < 8
theorem Ins.ok.mono {m m' : Nat} {x : Ins} (h : x.ok m) (hm : m ≤ m') : x.ok m' := by
  refine @Hush.hu _ (by
  cases x <;> first | exact h | exact ⟨h.1, Nat.le_trans h.2 hm⟩) ?_
  walk_at "hu"
def encW (xs : List Nat) : PyData := .tuple (xs.map n_)
structure Pl where
  names : List Nat
  cells : List Nat
  outs : List Nat
def encS (s : Pl) : PyData := .tuple [encW s.names, encW s.cells, encW s.outs]
def wds (xs : List Nat) : Prop := ∀ x ∈ xs, x < 256
structure Pl.ok (s : Pl) (m : Nat) : Prop where
  n : s.names.length = 8
  c : s.cells.length = 8
  o : s.outs.length ≤ m
  wn : wds s.names
  wc : wds s.cells
  wo : wds s.outs
def at_ (xs : List Nat) (i : Nat) : Nat := xs[i]?.getD 0
end My
namespace My
open PySem L2 Dl
structure Row where
  ns : List Int
  i : Int
  sd : Int
  rs : Int
def Row.tr (ρ : Row) : Tr := .nd .lst [.v (.sc ρ.ns), .v (.d (.int ρ.i)), .v (.d (.int ρ.sd)), .v (.d (.int ρ.rs))]
abbrev Row.st (ρ : Row) (t : Ts) : Ts := some ρ.tr :: t
theorem row_0 (ρ : Row) (t : Ts) : getX (.r 0 []) (.d (.int 0)) (ρ.st t) = some (.sc ρ.ns) := rfl
theorem row_1 (ρ : Row) (t : Ts) : getX (.r 0 []) (.d (.int 1)) (ρ.st t) = some (.d (.int ρ.i)) := rfl
theorem row_2 (ρ : Row) (t : Ts) : getX (.r 0 []) (.d (.int 2)) (ρ.st t) = some (.d (.int ρ.sd)) := rfl
theorem row_3 (ρ : Row) (t : Ts) : getX (.r 0 []) (.d (.int 3)) (ρ.st t) = some (.d (.int ρ.rs)) := rfl
theorem set_1 (ρ : Row) (t : Ts) (z : Int) : setX false (.r 0 []) (.d (.int 1)) (.d (.int z)) (ρ.st t) = some (Row.st { ρ with i := z } t) := rfl
theorem set_2 (ρ : Row) (t : Ts) (z : Int) : setX false (.r 0 []) (.d (.int 2)) (.d (.int z)) (ρ.st t) = some (Row.st { ρ with sd := z } t) := rfl
theorem set_3 (ρ : Row) (t : Ts) (z : Int) : setX false (.r 0 []) (.d (.int 3)) (.d (.int z)) (ρ.st t) = some (Row.st { ρ with rs := z } t) := rfl
theorem gx_sc {ns : List Int} {y : D} {t : Ts} : getX (.sc ns) y t = fIx (.sc ns) y := rfl
theorem mOfS_d {L n : Nat} {gs : Sm Out} {ds : List D} {x : Option Tr} {t : Ts} {y : Option Tr} {t2 : Ts} {d : PyData} (hd : ds.length = n) (h : gs (startE L n ds) (x :: t) = .ok (.rt (.d d)) (y :: t2)) (hl : t2.length = t.length) : mOfS L n gs ds (x :: t) = .ok (.d d) (y :: t2) := by
  refine @Hush.hu _ (by
  unfold mOfS
  rw [if_pos hd, h]
  show R.ok _ ((y :: t2).take (max (x :: t).length 0)) = _
  rw [Nat.max_eq_left (Nat.zero_le _), List.length_cons, ← hl]
  exact congrArg _ (List.take_length (l := y :: t2))) ?_
  walk_at "hu"
theorem taken_a (ρ : Row) (t : Ts) (hr : 0 < ρ.rs) (n : Int) (h1 : 1 ≤ n) (h2 : n < 1000000) : m__law_taken [.r 0 [], .d (.int n)] (ρ.st t) = .ok (.d (.int (ρ.rs.fmod n))) (Row.st { ρ with rs := ρ.rs.fdiv n } t) := by
  refine @Hush.hu _ (by
  have e1 : n ≠ 0 := by omega
  have e2 : n.natAbs < 1073741824 := by omega
  refine mOfS_d rfl ?_ rfl
  simp [b__law_taken, startE, sSeq, sIf, sB, sOp, sIx, lift, pV, pC, ofO, R.bind, row_3, fGt, i2, isB, hr, sAsg, sMk, sCons, pNil, cIntT, fMod, e1, gN, sAsgS, gSX, fDiv, e2, set_3, pRet, sNx, pNx]) ?_
  walk_at "hu"
theorem taken_b (ρ : Row) (t : Ts) (hr : ¬ 0 < ρ.rs) (hl : (ρ.ns.length : Int) < ρ.i + 1) (n : Int) (h1 : 1 ≤ n) : ∃ (z : Int) (ρ' : Row), m__law_taken [.r 0 [], .d (.int n)] (ρ.st t) = .ok (.d (.int (z.fmod n))) (ρ'.st t) ∧ ρ'.ns = ρ.ns ∧ ρ'.i = ρ.i + 1 := by
  refine @Hush.hu _ (by
  have e1 : n ≠ 0 := by omega
  refine ⟨((ρ.sd * 48271 + 11).fmod 2147483647).fdiv 7, { ρ with i := ρ.i + 1, sd := (ρ.sd * 48271 + 11).fmod 2147483647 }, ?_, rfl, rfl⟩
  refine mOfS_d rfl ?_ rfl
  simp [b__law_taken, startE, sSeq, sIf, sB, sOp, sIx, lift, pV, pC, ofO, R.bind, gx_sc, row_0, row_1, row_2, row_3, fGt, i2, isB, hr, hl, sAsg, sMk, sCons, pNil, cIntT, cLen, cLenT, sMkT, fMod, fMul, fAdd, e1, gN, sAsgS, gSX, fDiv, set_1, set_2, set_3, pRet, sRet, sNx, pNx, fIx]) ?_
  walk_at "hu"
theorem taken_c (ρ : Row) (t : Ts) (hr : ¬ 0 < ρ.rs) (hl : ¬ (ρ.ns.length : Int) < ρ.i + 1) (c : Int) (hc : atI ρ.ns ρ.i = some c) (n : Int) (h1 : 1 ≤ n) (h2 : n < 1000000) : ∃ ρ' : Row, m__law_taken [.r 0 [], .d (.int n)] (ρ.st t) = .ok (.d (.int (c.fmod n))) (ρ'.st t) ∧ ρ'.ns = ρ.ns ∧ ρ'.i = ρ.i + 1 := by
  refine @Hush.hu _ (by
  have e1 : n ≠ 0 := by omega
  have e2 : n.natAbs < 1073741824 := by omega
  by_cases hb : (1000000000000000000 : Int) ≤ c
  · refine ⟨{ ρ with i := ρ.i + 1, sd := (ρ.sd * 48271 + c + 11).fmod 2147483647, rs := c.fdiv n }, ?_, rfl, rfl⟩
    refine mOfS_d rfl ?_ rfl
    simp [b__law_taken, startE, sSeq, sIf, sB, sOp, sIx, lift, pV, pC, pOp, ofO, R.bind, gx_sc, row_0, row_1, row_2, row_3, fGt, fGe, fSub, fPow, i2, isB, hr, hl, hc, hb, sAsg, sMk, sCons, pNil, pCons, pMk, pB, pIf, pSeq, cIntT, cLen, cLenT, sMkT, fMod, fMul, fAdd, e1, gN, sAsgS, gSX, fDiv, e2, set_1, set_2, set_3, pRet, sRet, sNx, pNx, fIx]
  · refine ⟨{ ρ with i := ρ.i + 1, sd := (ρ.sd * 48271 + c + 11).fmod 2147483647 }, ?_, rfl, rfl⟩
    refine mOfS_d rfl ?_ rfl
    simp [b__law_taken, startE, sSeq, sIf, sB, sOp, sIx, lift, pV, pC, pOp, ofO, R.bind, gx_sc, row_0, row_1, row_2, row_3, fGt, fGe, fSub, fPow, i2, isB, hr, hl, hc, hb, sAsg, sMk, sCons, pNil, pCons, pMk, pB, pIf, pSeq, cIntT, cLen, cLenT, sMkT, fMod, fMul, fAdd, e1, gN, sAsgS, gSX, fDiv, e2, set_1, set_2, set_3, pRet, sRet, sNx, pNx, fIx]) ?_
  walk_at "hu"
theorem taken_ok (ρ : Row) (t : Ts) (hs : 0 ≤ ρ.i) (n : Int) (h1 : 1 ≤ n) (h2 : n < 1000000) : ∃ (v : Nat) (ρ' : Row), m__law_taken [.r 0 [], .d (.int n)] (ρ.st t) = .ok (.d (.int (v : Nat))) (ρ'.st t) ∧ (v : Int) < n ∧ 0 ≤ ρ'.i := by
  refine @Hush.hu _ (by
  have fin : ∀ z : Int, ∃ v : Nat, z.fmod n = (v : Nat) ∧ (v : Int) < n := fun z => by
    have a1 := Int.fmod_nonneg_of_pos z (b := n) (by omega)
    have a2 := Int.fmod_lt_of_pos z (b := n) (by omega)
    exact ⟨(z.fmod n).toNat, by omega, by omega⟩
  by_cases hr : 0 < ρ.rs
  · obtain ⟨v, e, l⟩ := fin ρ.rs
    exact ⟨v, { ρ with rs := ρ.rs.fdiv n }, by rw [← e]; exact taken_a ρ t hr n h1 h2, l, hs⟩
  · by_cases hl : (ρ.ns.length : Int) < ρ.i + 1
    · obtain ⟨z, s', e, _, r4⟩ := taken_b ρ t hr hl n h1
      obtain ⟨v, ev, l⟩ := fin z
      exact ⟨v, s', by rw [← ev]; exact e, l, by rw [r4]; omega⟩
    · obtain ⟨c, hc⟩ : ∃ c, atI ρ.ns ρ.i = some c := by
        obtain ⟨k, hk⟩ : ∃ k : Nat, ρ.i = k := ⟨ρ.i.toNat, by omega⟩
        have hk2 : k < ρ.ns.length := by omega
        refine ⟨ρ.ns[k], ?_⟩
        rw [hk]
        exact L2.atI_nat (List.getElem?_eq_getElem hk2)
      obtain ⟨s', e, _, r4⟩ := taken_c ρ t hr hl c hc n h1 h2
      obtain ⟨v, ev, l⟩ := fin c
      exact ⟨v, s', by rw [← ev]; exact e, l, by rw [r4]; omega⟩) ?_
  walk_at "hu"
theorem pick_ok (ρ : Row) (t : Ts) (hs : 0 ≤ ρ.i) (xs : List PyData) (h1 : 1 ≤ xs.length) (h2 : xs.length < 1000000) : ∃ (k : Nat) (x : PyData) (ρ' : Row), m__law_pick [.r 0 [], .d (.list xs)] (ρ.st t) = .ok (.d x) (ρ'.st t) ∧ xs[k]? = some x ∧ 0 ≤ ρ'.i := by
  refine @Hush.hu _ (by
  obtain ⟨v, ρ', e, l, kp⟩ := taken_ok ρ t hs xs.length (by omega) (by omega)
  have hv : xs[v]? = some xs[v] := List.getElem?_eq_getElem (by omega)
  refine ⟨v, xs[v], ρ', ?_, hv, kp⟩
  have hx : atI xs (v : Int) = some xs[v] := L2.atI_nat hv
  refine mOfS_d rfl ?_ rfl
  simp [b__law_pick, startE, sRet, sOp, sCall, lift, pV, pCons, pMk, pNil, cLen, ofO, R.bind, e, fIx, hx]) ?_
  walk_at "hu"
theorem pick_map {α : Type} (ρ : Row) (t : Ts) (hs : 0 ≤ ρ.i) (f : α → PyData) (L : List α) (h1 : 1 ≤ L.length) (h2 : L.length < 1000000) : ∃ (y : α) (ρ' : Row), m__law_pick [.r 0 [], .d (.list (L.map f))] (ρ.st t) = .ok (.d (f y)) (ρ'.st t) ∧ y ∈ L ∧ 0 ≤ ρ'.i := by
  refine @Hush.hu _ (by
  obtain ⟨k, x, ρ', e, hx, k1⟩ := pick_ok ρ t hs (L.map f) (by rw [List.length_map]; exact h1) (by rw [List.length_map]; exact h2)
  rw [List.getElem?_map] at hx
  cases q : L[k]? with
  | none => rw [q] at hx; cases hx
  | some y =>
    rw [q] at hx
    cases hx
    exact ⟨y, ρ', e, List.mem_of_getElem? q, k1⟩) ?_
  walk_at "hu"
end My
namespace My
open PySem L2 Dl
theorem entry_ok (ρ : Row) (t : Ts) (hs : 0 ≤ ρ.i) : ∃ (e : En) (ρ' : Row), m__law_entry [.r 0 []] (ρ.st t) = .ok (.d (enc e)) (ρ'.st t) ∧ e.p ≠ .lay ∧ 0 ≤ ρ'.i := by
  refine @Hush.hu _ (by
  obtain ⟨r, ρ1, e1, _, k1⟩ := pick_map ρ t hs (fun r : Re => .str r.s) [.feeds, .used, .same, .cells, .memory, .shows, .jump, .any, .any] (by decide) (by decide)
  obtain ⟨p, ρ2, e2, hp, k2⟩ := pick_map ρ1 t k1 (fun r : Ev => .str r.s) [.read, .make, .write, .out] (by decide) (by decide)
  obtain ⟨x, ρ3, e3, _, k3⟩ := pick_map ρ2 t k2 (fun r : Ki => .str r.s) [.set, .sum, .get, .put, .if_, .show_] (by decide) (by decide)
  obtain ⟨y, ρ4, e4, _, k4⟩ := pick_map ρ3 t k3 (fun r : Ki => .str r.s) [.set, .sum, .get, .put, .if_, .show_] (by decide) (by decide)
  obtain ⟨q, ρ5, e5, _, k5⟩ := pick_map ρ4 t k4 (fun r : Ev => .str r.s) [.lay, .read, .make, .write, .out] (by decide) (by decide)
  simp only [List.map_cons, List.map_nil, Re.s.eq_1, Re.s.eq_2, Re.s.eq_3, Re.s.eq_4, Re.s.eq_5, Re.s.eq_6, Re.s.eq_7, Re.s.eq_8, Ki.s.eq_1, Ki.s.eq_2, Ki.s.eq_3, Ki.s.eq_4, Ki.s.eq_5, Ki.s.eq_6, Ev.s.eq_1, Ev.s.eq_2, Ev.s.eq_3, Ev.s.eq_4, Ev.s.eq_5] at e1 e2 e3 e4 e5
  refine ⟨⟨r, x, y, p, q⟩, ρ5, ?_, ?_, k5⟩
  · apply d__law_entry
    unfold b__law_entry
    walk_at "ev"
  · intro e
    have e' : p = .lay := e
    subst e'
    simp at hp) ?_
  walk_at "hu"
theorem bare_ok (ρ : Row) (t : Ts) (hs : 0 ≤ ρ.i) : ∃ (d : De) (ρ' : Row), m__law_bare [.r 0 []] (ρ.st t) = .ok (.d (encD d)) (ρ'.st t) ∧ 1 ≤ d.w ∧ d.w ≤ 4 ∧ d.T = [] ∧ 0 ≤ ρ'.i := by
  refine @Hush.hu _ (by
  obtain ⟨x0, ρ1, e1, _, k1⟩ := pick_map ρ t hs (fun r : Ho => .str r.e.s) [.write, .out] (by decide) (by decide)
  obtain ⟨x1, ρ2, e2, _, k2⟩ := pick_map ρ1 t k1 (fun r : Ho => .str r.e.s) [.write, .out] (by decide) (by decide)
  obtain ⟨x2, ρ3, e3, _, k3⟩ := pick_map ρ2 t k2 (fun r : Ho => .str r.e.s) [.write, .out] (by decide) (by decide)
  obtain ⟨v, ρ4, e4, _, k4⟩ := taken_ok ρ3 t k3 4 (by decide) (by decide)
  obtain ⟨w, ρ5, e5, hw, k5⟩ := pick_map ρ4 t k4 (fun r : Int => .int r) [0, 1, 2, 3, 3] (by decide) (by decide)
  obtain ⟨b, ρ6, e6, _, k6⟩ := taken_ok ρ5 t k5 2 (by decide) (by decide)
  obtain ⟨c, ρ7, e7, _, k7⟩ := taken_ok ρ6 t k6 2 (by decide) (by decide)
  simp only [List.map_cons, List.map_nil, Ho.e.eq_1, Ho.e.eq_2, Ev.s.eq_4, Ev.s.eq_5] at e1 e2 e3 e5
  have hw1 : 1 ≤ 1 + w ∧ 1 + w ≤ 4 := by simp at hw; omega
  by_cases hv : v = 0
  · refine ⟨⟨1 + w, decide ((b : Int) = 0), decide ((c : Int) = 0), .out, .out, .out, []⟩, ρ7, ?_, hw1.1, hw1.2, rfl, k7⟩
    apply d__law_bare
    unfold b__law_bare
    walk_at "ev"
  · refine ⟨⟨1 + w, decide ((b : Int) = 0), decide ((c : Int) = 0), x0, x1, x2, []⟩, ρ7, ?_, hw1.1, hw1.2, rfl, k7⟩
    apply d__law_bare
    unfold b__law_bare
    walk_at "ev") ?_
  walk_at "hu"
end My
namespace My
open PySem L2 Dl
theorem list_t (xs : List PyData) (a b : Int) : m_is_list [.d (.tuple xs), .d (.int a), .d (.int b)] = some (.d (.bool (decide (a ≤ (xs.length : Int)) && decide ((xs.length : Int) ≤ b)))) := by
  refine @Hush.hu _ (by
  apply o_is_list
  unfold b_is_list
  walk_at "ev") ?_
  walk_at "hu"
theorem isint_eq (i : Int) : m_is_integer [.d (.int i)] = some (.d (.bool true)) := by
  refine @Hush.hu _ (by
  apply o_is_integer
  unfold b_is_integer
  walk_at "ev") ?_
  walk_at "hu"
theorem in_eq (i a b : Int) : m_is_in [.d (.int i), .d (.int a), .d (.int b)] = some (.d (.bool (decide (a ≤ i) && decide (i ≤ b)))) := by
  refine @Hush.hu _ (by
  apply o_is_in
  unfold b_is_in
  have h := isint_eq i
  walk_at "ev") ?_
  walk_at "hu"
end My
namespace My
open PySem L2 Dl
theorem kind_eq (a : Ki) : m_is_kind [.d (.str a.s)] = some (.d (.bool true)) := by
  refine @Hush.hu _ (by
  apply o_is_kind
  unfold b_is_kind
  walk_at "ev") ?_
  walk_at "hu"
theorem event_eq (a : Ev) : m_is_event [.d (.str a.s)] = some (.d (.bool true)) := by
  refine @Hush.hu _ (by
  apply o_is_event
  unfold b_is_event
  walk_at "ev") ?_
  walk_at "hu"
theorem entry_eq (e : En) : m_is_entry [.d (enc e)] = some (.d (.bool (!decide (e.p = .lay)))) := by
  refine @Hush.hu _ (by
  apply o_is_entry
  unfold b_is_entry
  have h1 : m_is_list [.d (enc e), .d (.int 5), .d (.int 5)] = some (.d (.bool true)) := list_t _ 5 5
  have h2 := kind_eq e.a
  have h3 := kind_eq e.b
  have h4 := event_eq e.p
  have h5 := event_eq e.q
  walk_at "ev") ?_
  walk_at "hu"
theorem map_encd (T : List En) : (T.map enc).map D.d = T.map fun s => D.d (enc s) := by
  refine @Hush.hu _ (by rw [List.map_map]; rfl) ?_
  walk_at "hu"
theorem it_T (T : List En) : itL (.d (encT T)) = some (T.map fun s => D.d (enc s)) := by
  refine Hush.hu (congrArg some (map_encd T)) ?_
  walk_at "hu"
theorem len_T (T : List En) : cLen [.d (encT T)] = some (.d (.int (T.length : Nat))) := by
  refine @Hush.hu _ (by
  show some (D.d (.int ((T.map enc).length : Nat))) = _
  rw [List.length_map]) ?_
  walk_at "hu"
theorem ix_T {T : List En} {k : Nat} {a : En} (h : T[k]? = some a) : fIx (.d (encT T)) (.d (.int (k : Nat))) = some (.d (enc a)) := by
  refine Hush.hu (ix_t (by rw [List.getElem?_map, h]; rfl)) ?_
  walk_at "hu"
theorem table_ok (T : List En) (h : Tab T) : m_is_table [.d (encT T)] = some (.d (.bool true)) := by
  refine @Hush.hu _ (by
  have hl : T.length ≤ 100000 := Nat.le_trans h.len (by omega)
  apply o_is_table
  unfold b_is_table
  have h0 := it_T T
  have i1 : cIsi [.d (encT T), .o (.ty "tuple")] = some (.d (.bool true)) := rfl
  have h1 : goP (gN 1) [some (.d (encT T)), none, none] (pC true) (pMk m_is_entry (pCons (pV 1) pNil)) (T.map fun s => D.d (enc s)) = some (T.map fun e => D.d (.bool (!decide (e.p = .lay)))) :=
    goP_map (fun s => D.d (enc s)) _ T fun e he => ⟨[some (.d (encT T)), some (.d (enc e)), none], rfl, by have := entry_eq e; walk_at "ev"⟩
  have h2 := mLst_map (fun e : En => .bool (!decide (e.p = .lay))) T hl
  have h3 := all_true T (fun e => !decide (e.p = .lay)) fun e he => by simp [h.ent e he]
  have h4 := len_T T
  have h5 : mR2 [.d (.int 1), .d (.int (T.length : Nat))] = some ((List.range (T.length - 1)).map fun k : Nat => D.d (.int (1 + (k : Int)))) := by
    simp only [mR2]
    rw [if_pos (by omega)]
    have : ((T.length : Nat) - 1 : Int).toNat = T.length - 1 := by omega
    rw [this]
    rfl
  have h6 : goP (gN 2) [some (.d (encT T)), none, none] (pC true) (pOp (fLt) (pOp fIx (pV 0) (pOp fSub (pV 2) (pC (.d (.int 1))))) (pOp fIx (pV 0) (pV 2))) ((List.range (T.length - 1)).map fun k : Nat => D.d (.int (1 + (k : Int)))) = some ((List.range (T.length - 1)).map fun _ => D.d (.bool true)) :=
    goP_map (fun k : Nat => D.d (.int (1 + (k : Int)))) _ _ fun k hk => ⟨[some (.d (encT T)), none, some (.d (.int (1 + (k : Int))))], rfl, by
      have hk' := List.mem_range.mp hk
      have i1 : T[k]? = some T[k] := List.getElem?_eq_getElem (by omega)
      have i2 : T[k + 1]? = some T[k + 1] := List.getElem?_eq_getElem (by omega)
      have j1 : fIx (.d (encT T)) (.d (.int (1 + (k : Int) - 1))) = some (.d (enc T[k])) := by rw [show 1 + (k : Int) - 1 = (k : Nat) by omega]; exact ix_T i1
      have j2 : fIx (.d (encT T)) (.d (.int (1 + (k : Int)))) = some (.d (enc T[k + 1])) := by rw [show 1 + (k : Int) = ((k + 1 : Nat) : Int) by omega]; exact ix_T i2
      have j3 : fLt (.d (enc T[k])) (.d (enc T[k + 1])) = some (.d (.bool true)) := by rw [lt_enc, h.asc k _ _ i1 i2]
      walk_at "ev"⟩
  have h7 := mLst_map (fun _ : Nat => .bool true) (List.range (T.length - 1)) (by rw [List.length_range]; omega)
  have h8 := all_true (List.range (T.length - 1)) (fun _ => true) fun _ _ => rfl
  walk_at "ev") ?_
  walk_at "hu"
structure Des (d : De) : Prop where
  w1 : 1 ≤ d.w
  w4 : d.w ≤ 4
  tab : Tab d.T
theorem design_ok (d : De) (h : Des d) : m_is_design [.d (encD d)] = some (.d (.bool true)) := by
  refine @Hush.hu _ (by
  apply o_is_design
  unfold b_is_design
  have h1 : m_is_list [.d (encD d), .d (.int 5), .d (.int 5)] = some (.d (.bool true)) := list_t _ 5 5
  have h2 : m_is_in [.d (.int d.w), .d (.int 1), .d (.int 4)] = some (.d (.bool true)) := by rw [in_eq, decide_eq_true h.w1, decide_eq_true h.w4]; rfl
  have h3 : m_is_list [.d (encH d), .d (.int 3), .d (.int 3)] = some (.d (.bool true)) := list_t _ 3 3
  have h4 := table_ok d.T h.tab
  walk_at "ev") ?_
  walk_at "hu"
end My
namespace My
open PySem L2 Dl
abbrev envM (d : De) (E : PyData) (m : Nat) (n : Nat) (o5 : Option D) : Dl.Env := [some (.r 0 []), some (.d (encD d)), some (.d E), some (.d (.int (m : Nat))), some (.r n []), o5, none]
theorem more_loop (d : De) (E : PyData) (m : Nat) (t : Ts) : ∀ (xs : List D) (U : List En) (n : Nat) (o5 : Option D) (ρ : Row), Drw U n → n + xs.length ≤ 90000 → 0 ≤ ρ.i →
    ∃ (U' : List En) (o5' : Option D) (ρ' : Row), goF (gN 5) (sAsgS (gSX false (lift (pV 4)) (sCall m__law_entry (lift (pCons (pV 0) pNil)))) (lift (pC (.d (.bool true))))) xs (envM d E m (t.length + 1) o5) (ρ.st (t ++ [some (dcT U)])) = .ok (.nx (envM d E m (t.length + 1) o5')) (ρ'.st (t ++ [some (dcT U')])) ∧ Drw U' (n + xs.length) ∧ (∀ e ∈ U, e ∈ U') ∧ 0 ≤ ρ'.i
  | [], U, n, o5, ρ, h, _, k => ⟨U, o5, ρ, rfl, h, fun _ z => z, k⟩
  | x :: r, U, n, o5, ρ, h, hn, k => by
    obtain ⟨e, ρ1, e1, he, k1⟩ := entry_ok ρ (t ++ [some (dcT U)]) k
    rw [List.length_cons] at hn ⊢
    obtain ⟨U', o5', ρ', e2, h2, h3, k2⟩ := more_loop d E m t r (addE U e) (n + 1) (some x) ρ1 (h.add he) (by omega) k1
    have e3 : setX false (.r (t.length + 1) []) (.d (enc e)) (.d (.bool true)) (ρ1.st (t ++ [some (dcT U)])) = some (ρ1.st (t ++ [some (dcT (addE U e))])) := set_dc U e (some ρ1.tr :: t) (by have := h.len; omega)
    refine ⟨U', o5', ρ', ?_, by rw [Nat.add_comm r.length 1, ← Nat.add_assoc]; exact h2, fun y hy => h3 y (mem_addE.mpr (.inl hy)), k2⟩
    refine gf_cons (e1 := envM d E m (t.length + 1) (some x)) rfl ?_ e2
    walk_at "ev"
theorem more_ok (ρ : Row) (t : Ts) (hs : 0 ≤ ρ.i) (d : De) (hT : d.T = []) (E : PyData) (L : List En) (hE : itL (.d E) = some (L.map fun e => D.d (enc e))) (hL : ∀ e ∈ L, e.p ≠ .lay) (hLn : L.length ≤ 1000) (m : Nat) (hm : m ≤ 1000) :
    ∃ (T : List En) (ρ' : Row), m__law_more [.r 0 [], .d (encD d), .d E, .d (.int (m : Nat))] (ρ.st t) = .ok (.d (encD { d with T := T })) (ρ'.st t) ∧ Tab T ∧ T.length ≤ L.length + m ∧ (∀ e ∈ L, e ∈ T) ∧ 0 ≤ ρ'.i := by
  refine @Hush.hu _ (by
  obtain ⟨U0, m0, h0, hU0⟩ := new_dc L hL (ρ.st t)
  have m0 : newDc (.d (.list (L.map fun e => .tuple [enc e, .bool true]))) (ρ.st t) = .ok (.r (t.length + 1) []) (ρ.st (t ++ [some (dcT U0)])) := m0
  obtain ⟨v, ρ1, e1, hv, k1⟩ := taken_ok ρ (t ++ [some (dcT U0)]) hs ((m : Int) + 1) (by omega) (by omega)
  obtain ⟨U, o5, ρ2, e2, h2, h3, k2⟩ := more_loop d E m t ((List.range v).map fun k => D.d (.int (k : Nat))) U0 L.length none ρ1 h0 (by rw [List.length_map, List.length_range]; omega) k1
  rw [List.length_map, List.length_range] at h2
  obtain ⟨T, t1, t2, t3⟩ := sort_tab h2 (by omega)
  have hTl : T.length ≤ L.length + v := by
    have := congrArg List.length t1
    rw [List.length_map, (isort_perm _).length_eq, List.length_map] at this
    have := h2.len
    omega
  refine ⟨T, ρ2, ?_, t2, by omega, fun e he => (t3 e).mpr (h3 e ((hU0 e).mpr he)), k2⟩
  have hg : goP (gN 6) [some (.r 0 []), some (.d (encD d)), some (.d E), some (.d (.int (m : Nat))), none, none, none] (pC true) (pMk mTup (pCons (pV 6) (pCons (pC (.d (.bool true))) pNil))) (L.map fun e => D.d (enc e)) = some (L.map fun e => D.d (.tuple [enc e, .bool true])) :=
    goP_map (fun e => D.d (enc e)) (fun e => D.d (.tuple [enc e, .bool true])) L fun e _ => ⟨_, rfl, by walk_at "ev"⟩
  have hml := mLst_map (fun e : En => .tuple [enc e, .bool true]) L (by omega)
  have hrg : mR1 [.d (.int (v : Nat))] = some ((List.range v).map fun k => D.d (.int (k : Nat))) := mR1_nat v (by omega)
  have hcl : cLstT [.r (t.length + 1) []] (ρ2.st (t ++ [some (dcT U)])) = some (.d (.list (U.map enc))) := lst_dc U (some ρ2.tr :: t)
  have hso : cSort [.d (.list (U.map enc))] = some (.d (.list (T.map enc))) := by rw [sort_dc, t1]
  have hfa : fAdd (.d (.tuple [.int d.w, .bool d.x, .bool d.y, encH d])) (.d (.tuple [.tuple (T.map enc)])) = some (.d (encD { d with T := T })) := lf_addt (by simp)
  refine (o__law_more (z := .d (encD { d with T := T })) (t1 := ρ2.st (t ++ [some (dcT U)])) ?_).trans ?_
  · unfold b__law_more
    walk_at "ev"
  · show R.ok _ (List.take (max (t.length + 1) 0) (some ρ2.tr :: (t ++ [some (dcT U)]))) = _
    rw [Nat.max_eq_left (Nat.zero_le _), List.take_succ_cons, List.take_left]) ?_
  walk_at "hu"
end My
namespace My
open PySem L2 Dl
theorem okA_list {xs : List PyData} (h : okA (.list xs) = true) : xs.length ≤ 100000 ∧ okAs xs = true := by
  refine @Hush.hu _ (by
  unfold okA at h
  rw [Bool.and_eq_true, decide_eq_true_eq] at h
  exact h) ?_
  walk_at "hu"
theorem okA_tup {xs : List PyData} (h : okA (.tuple xs) = true) : xs.length ≤ 100000 ∧ okAs xs = true := by
  refine @Hush.hu _ (by
  unfold okA at h
  rw [Bool.and_eq_true, decide_eq_true_eq] at h
  exact h) ?_
  walk_at "hu"
theorem dpt_list {xs : List PyData} : dpt (.list xs) = dpts xs + 1 := by
  refine @Hush.hu _ (by unfold dpt; rfl) ?_
  walk_at "hu"
theorem dpt_tup {xs : List PyData} : dpt (.tuple xs) = dpts xs + 1 := by
  refine @Hush.hu _ (by unfold dpt; rfl) ?_
  walk_at "hu"
theorem okAs_of : ∀ {xs : List PyData}, (∀ x ∈ xs, okA x = true) → okAs xs = true
  | [], _ => rfl
  | x :: r, h => by
    show (okA x && okAs r) = true
    rw [h x List.mem_cons_self, okAs_of fun y hy => h y (List.mem_cons_of_mem _ hy)]
    rfl
theorem okA_tup_of {xs : List PyData} (h : xs.length ≤ 100000) (h2 : ∀ x ∈ xs, okA x = true) : okA (.tuple xs) = true := by
  refine @Hush.hu _ (by
  unfold okA
  rw [okAs_of h2, decide_eq_true h]
  rfl) ?_
  walk_at "hu"
theorem dpts_of {b : Nat} : ∀ {xs : List PyData}, (∀ x ∈ xs, dpt x ≤ b) → dpts xs ≤ b
  | [], _ => Nat.zero_le _
  | x :: r, h => Nat.max_le.mpr ⟨h x List.mem_cons_self, dpts_of fun y hy => h y (List.mem_cons_of_mem _ hy)⟩
theorem okA_enc (e : En) : okA (enc e) = true := by
  refine @Hush.hu _ (by
  obtain ⟨r, a, b, p, q⟩ := e
  have kr (x : Re) : okA (.str x.s) = true := by cases x <;> kernel_rfl
  have kk (x : Ki) : okA (.str x.s) = true := by cases x <;> kernel_rfl
  have ke (x : Ev) : okA (.str x.s) = true := by cases x <;> kernel_rfl
  refine okA_tup_of (by simp) fun y hy => ?_
  simp only [List.mem_cons, List.not_mem_nil, or_false] at hy
  rcases hy with rfl | rfl | rfl | rfl | rfl
  · exact kr r
  · exact kk a
  · exact kk b
  · exact ke p
  · exact ke q) ?_
  walk_at "hu"
end My
namespace My
open PySem L2 Dl
mutual
theorem lay_ok : ∀ (d : PyData), okA d = true → PyData.canLay0 d = true ∧ PyData.depth d ≤ dpt d
  | .none, _ => by simp [PyData.canLay0, PyData.depth]
  | .bool b, _ => by simp [PyData.canLay0, PyData.depth]
  | .int i, _ => by simp [PyData.canLay0, PyData.depth]
  | .str x, h => by
    have h' : SeqAt.shaped (.str x) = true := h
    unfold SeqAt.shaped at h'
    rw [Bool.and_eq_true] at h'
    exact ⟨h'.1, by simp [PyData.depth]⟩
  | .list xs, h => by
    have := layAll_ok xs (okA_list h).2
    simp only [PyData.canLay0, PyData.depth]
    rw [dpt_list]
    exact ⟨this.1, Nat.succ_le_succ this.2⟩
  | .tuple xs, h => by
    have := layAll_ok xs (okA_tup h).2
    simp only [PyData.canLay0, PyData.depth]
    rw [dpt_tup]
    exact ⟨this.1, Nat.succ_le_succ this.2⟩
  | .dict _, h => by cases h
theorem layAll_ok : ∀ (xs : List PyData), okAs xs = true → PyData.canLayAll0 xs = true ∧ PyData.depthAll xs ≤ dpts xs
  | [], _ => by simp [PyData.canLayAll0, PyData.depthAll]
  | x :: r, h => by
    have h' : (okA x && okAs r) = true := h
    rw [Bool.and_eq_true] at h'
    have h1 := lay_ok x h'.1
    have h2 := layAll_ok r h'.2
    simp only [PyData.canLayAll0, PyData.depthAll]
    rw [h1.1, h2.1]
    refine ⟨rfl, ?_⟩
    show max _ _ ≤ max (dpt x) (dpts r)
    omega
end
theorem sh_ok {d : PyData} (h : okA d = true) (h2 : dpt d ≤ 64) : SeqAt.shaped d = true := by
  refine @Hush.hu _ (by
  have := lay_ok d h
  unfold SeqAt.shaped
  rw [this.1, Bool.true_and]
  exact decide_eq_true (Nat.le_trans this.2 h2)) ?_
  walk_at "hu"
end My
namespace My
open PySem L2 Dl
theorem goC_draw {α : Type} {g : D → Dl.Env → Option Dl.Env} {env : Dl.Env} {el : Sm D} {t : Ts} (f : α → PyData) (Q : α → Prop) : ∀ (ds : List D), (∀ d ∈ ds, ∃ e1, g d env = some e1 ∧ ∀ ρ : Row, 0 ≤ ρ.i → ∃ (x : α) (ρ' : Row), el e1 (ρ.st t) = .ok (.d (f x)) (ρ'.st t) ∧ Q x ∧ 0 ≤ ρ'.i) →
    ∀ ρ : Row, 0 ≤ ρ.i → ∃ (xs : List α) (ρ' : Row), goC g env (lift (pC true)) el ds (ρ.st t) = .ok (xs.map fun x => .d (f x)) (ρ'.st t) ∧ xs.length = ds.length ∧ (∀ x ∈ xs, Q x) ∧ 0 ≤ ρ'.i
  | [], _, ρ, h => ⟨[], ρ, rfl, rfl, (fun x hx => nomatch hx), h⟩
  | d :: r, H, ρ, h => by
    obtain ⟨e1, h1, h2⟩ := H d List.mem_cons_self
    obtain ⟨x, ρ1, h3, h4, h5⟩ := h2 ρ h
    obtain ⟨xs, ρ2, h6, h7, h8, h9⟩ := goC_draw f Q r (fun y hy => H y (List.mem_cons_of_mem _ hy)) ρ1 h5
    refine ⟨x :: xs, ρ2, ?_, by rw [List.length_cons, List.length_cons, h7], fun y hy => ?_, h9⟩
    · unfold goC
      rw [h1]
      show ((R.nox (R.ok true (ρ.st t))).bind fun b t_1 => if b = true then (el e1 t_1).nox.bind fun y t => (goC g env (lift (pC true)) el r t).bind fun ys t => .ok (y :: ys) t else goC g env (lift (pC true)) el r t_1) = _
      show ((el e1 (ρ.st t)).nox.bind fun y t => (goC g env (lift (pC true)) el r t).bind fun ys t => .ok (y :: ys) t) = _
      rw [h3]
      show ((goC g env (lift (pC true)) el r (ρ1.st t)).bind fun ys t => .ok (D.d (f x) :: ys) t) = _
      rw [h6]
      rfl
    · rcases List.mem_cons.mp hy with e | hy
      · rw [e]; exact h4
      · exact h8 y hy
theorem goI_st {g : D → Dl.Env → Option Dl.Env} {env : Dl.Env} {tt : Sm Bool} {el : Sm D} {xs : List D} {t : Ts} {r : R (List D)} (hl : xs.length ≤ 100000) (h : goC g env tt el xs t = r) : goItC (.st xs) g env tt el t = r := by
  refine Hush.hu ((if_pos hl).trans h) ?_
  walk_at "hu"
theorem state_ok (ρ : Row) (t : Ts) (hs : 0 ≤ ρ.i) : ∃ (s : Pl) (ρ' : Row), m__law_state [.r 0 []] (ρ.st t) = .ok (.d (encS s)) (ρ'.st t) ∧ s.ok 1 ∧ 0 ≤ ρ'.i := by
  refine @Hush.hu _ (by
  obtain ⟨a, ρ1, e1, l1, w1, h1⟩ := goC_draw (g := gN 2) (env := [some (.r 0 []), none, none]) (el := l__law_state_0) (t := t) n_ (fun x => x < 256) ((List.range 3).map fun k => D.d (.int (k : Nat)))
    (fun d hd => ⟨_, rfl, fun ρ h => by
      obtain ⟨u, ρ', e6, hu, h6⟩ := pick_map ρ t h (fun r : Nat => n_ r) [0, 0, 1, 2, 7, 255] (by simp) (by simp)
      have e6 : m__law_pick [.r 0 [], .d (.list [.int 0, .int 0, .int 1, .int 2, .int 7, .int 255])] (ρ.st t) = .ok (.d (n_ u)) (ρ'.st t) := e6
      have hu : u < 256 := by simp only [List.mem_cons, List.not_mem_nil, or_false] at hu; omega
      exact ⟨u, ρ', by walk_at "ev", hu, h6⟩⟩) ρ hs
  have e1 := goI_st (by rw [List.length_map, List.length_range]; omega) e1
  obtain ⟨b, ρ2, e2, l2, w2, h2⟩ := goC_draw (g := gN 2) (env := [some (.r 0 []), some (.d (encW (a ++ [1, 2, 3, 4, 0]))), none]) (el := l__law_state_1) (t := t) n_ (fun x => x < 256) ((List.range 8).map fun k => D.d (.int (k : Nat)))
    (fun d hd => ⟨_, rfl, fun ρ h => by
      obtain ⟨u, ρ', e6, hu, h6⟩ := taken_ok ρ t h 256 (by decide) (by decide)
      exact ⟨u, ρ', by walk_at "ev", by omega, h6⟩⟩) ρ1 h1
  have e2 := goI_st (by rw [List.length_map, List.length_range]; omega) e2
  obtain ⟨v, ρ3, e3, l3, h3⟩ := taken_ok ρ2 t h2 2 (by decide) (by decide)
  have hr3 : mR1 [.d (.int 3)] = some ((List.range 3).map fun k => D.d (.int (k : Nat))) := mR1_nat 3 (by decide)
  have hr8 : mR1 [.d (.int 8)] = some ((List.range 8).map fun k => D.d (.int (k : Nat))) := mR1_nat 8 (by decide)
  rw [List.length_map, List.length_range] at l1 l2
  have ml1 := mLst_map n_ a (by rw [l1]; decide)
  have ml2 := mLst_map n_ b (by rw [l2]; decide)
  have ct1 : cTup [.d (.list (a.map n_))] = some (.d (encW a)) := rfl
  have ct2 : cTup [.d (.list (b.map n_))] = some (.d (encW b)) := rfl
  have ad : fAdd (.d (encW a)) (.d (.tuple [.int 1, .int 2, .int 3, .int 4, .int 0])) = some (.d (encW (a ++ [1, 2, 3, 4, 0]))) := by
    refine (lf_addt (by simp [l1])).trans ?_
    unfold encW
    rw [List.map_append]
    rfl
  have hv : v = 0 ∨ v = 1 := by omega
  have mu : fMul (.d (.tuple [.int 9])) (.d (.int (v : Nat))) = some (.d (encW (List.replicate v 9))) := by
    rcases hv with rfl | rfl <;> kernel_rfl
  refine ⟨⟨a ++ [1, 2, 3, 4, 0], b, List.replicate v 9⟩, ρ3, ?_, ⟨by simp [l1], l2, by simp; omega, fun x hx => ?_, fun x hx => w2 x hx, fun x hx => by rw [List.eq_of_mem_replicate hx]; decide⟩, h3⟩
  · apply d__law_state
    · unfold b__law_state
      walk_at "ev"
    · rfl
    · rfl
  · rcases List.mem_append.mp hx with hx | hx
    · exact w1 x hx
    · simp only [List.mem_cons, List.not_mem_nil, or_false] at hx
      omega) ?_
  walk_at "hu"
end My
namespace My
open PySem L2 Dl
theorem need_design_ok (d : De) (h : Des d) (t : Ts) : m_need_design [.d (encD d)] t = .ok (.d .none) t := by
  refine @Hush.hu _ (by
  apply n_need_design
  · unfold b_need_design
    have := design_ok d h
    walk_at "ev"
  · rfl
  · rfl) ?_
  walk_at "hu"
theorem need_design_no {x : PyData} (h : m_is_design [.d x] = some (.d (.bool false))) (t : Ts) : m_need_design [.d x] t = .ex ⟨"BadDesign", none⟩ t := by
  refine @Hush.hu _ (by
  apply x_need_design
  · unfold b_need_design
    walk_at "ev"
  · rfl
  · rfl) ?_
  walk_at "hu"
theorem need_entry_ok (e : En) (h : e.p ≠ .lay) (t : Ts) : m_need_entry [.d (enc e)] t = .ok (.d .none) t := by
  refine @Hush.hu _ (by
  have h1 := entry_eq e
  rw [decide_eq_false h] at h1
  have h1 : m_is_entry [.d (enc e)] = some (.d (.bool true)) := h1
  apply n_need_entry
  · unfold b_need_entry
    walk_at "ev"
  · rfl
  · rfl) ?_
  walk_at "hu"
theorem need_entry_no {x : PyData} (hx : m_is_entry [.d x] = some (.d (.bool false))) (t : Ts) : m_need_entry [.d x] t = .ex ⟨"BadEntry", none⟩ t := by
  refine @Hush.hu _ (by
  apply x_need_entry
  · unfold b_need_entry
    walk_at "ev"
  · rfl
  · rfl) ?_
  walk_at "hu"
theorem N_ent (d : De) : ∀ e ∈ d.N, e.p ≠ .lay := by
  refine @Hush.hu _ (by
  have h : d.N.all (fun e => decide (e.p ≠ .lay)) = true := by
    obtain ⟨w, x, y, h0, h1, h2, T⟩ := d
    cases y <;> cases h0 <;> cases h1 <;> cases h2 <;> kernel_rfl
  rw [List.all_eq_true] at h
  exact fun e he => of_decide_eq_true (h e he)) ?_
  walk_at "hu"
theorem forc_self (e : En) : forc e e = true := by
  refine @Hush.hu _ (by
  unfold forc
  rw [if_neg (by simp)]
  split
  · rfl
  · rw [if_neg (Nat.lt_irrefl _), if_pos (.inl rfl)]) ?_
  walk_at "hu"
theorem miss_more (d : De) (hT : d.T = []) (T : List En) (h : ∀ e ∈ miss d, e ∈ T) : miss { d with T := T } = [] := by
  refine @Hush.hu _ (by
  refine List.filter_eq_nil_iff.mpr fun e he => ?_
  have he : e ∈ d.N := he
  by_cases c : forced d e = true
  · have : forced { d with T := T } e = true := by
      unfold forced at c ⊢
      rw [hT, List.any_nil, Bool.or_false] at c
      show ((!can e || (decide (d.w = 1) || (d.x && decide (e.q = .out)))) || T.any fun s => forc s e) = true
      rw [c]
      rfl
    rw [this]
    decide
  · have hm : e ∈ miss d := List.mem_filter.mpr ⟨he, by simpa using c⟩
    have : forced { d with T := T } e = true := by
      show ((!can e || (decide (d.w = 1) || (d.x && decide (e.q = .out)))) || T.any fun s => forc s e) = true
      rw [(List.any_eq_true.mpr ⟨e, h e hm, forc_self e⟩ : (T.any fun s => forc s e) = true), Bool.or_true]
    rw [this]
    decide) ?_
  walk_at "hu"
theorem miss_wide (d : De) : miss { d with w := 4, x := false, T := [] } ≠ [] := by
  refine @Hush.hu _ (by
  intro h
  have : (miss { d with w := 4, x := false, T := [] }).isEmpty = false := by
    obtain ⟨w, x, y, h0, h1, h2, T⟩ := d
    cases y <;> cases h0 <;> cases h1 <;> cases h2 <;> kernel_rfl
  rw [h] at this
  cases this) ?_
  walk_at "hu"
theorem right_ok (ρ : Row) (t : Ts) (hs : 0 ≤ ρ.i) : ∃ (d : De) (ρ' : Row), m__law_right [.r 0 []] (ρ.st t) = .ok (.d (encD d)) (ρ'.st t) ∧ Des d ∧ d.T.length ≤ 52 ∧ miss d = [] ∧ 0 ≤ ρ'.i := by
  refine @Hush.hu _ (by
  obtain ⟨d0, ρ1, e1, w1, w4, hT0, r1⟩ := bare_ok ρ t hs
  have m0 := missingL_eq d0 (by rw [hT0]; exact Nat.zero_le _)
  obtain ⟨T, ρ2, e2, hTab, hTl, hin, r2⟩ := more_ok ρ1 t r1 d0 hT0 (.list ((miss d0).map enc)) (miss d0) (by rw [← map_d]; rfl) (fun e he => N_ent d0 e ((List.mem_filter.mp he).1)) (by have := miss_len d0; omega) 4 (by decide)
  have e2 : m__law_more [.r 0 [], .d (encD d0), .d (.list ((miss d0).map enc)), .d (.int 4)] (ρ1.st t) = .ok (.d (encD { d0 with T := T })) (ρ2.st t) := e2
  refine ⟨{ d0 with T := T }, ρ2, ?_, ⟨w1, w4, hTab⟩, ?_, miss_more d0 hT0 T hin, r2⟩
  · apply d__law_right
    · unfold b__law_right
      walk_at "ev"
    · rfl
    · rfl
  · have := miss_len d0
    show T.length ≤ 52
    omega) ?_
  walk_at "hu"
theorem sh_L {L : List En} (h : L.length ≤ 100000) : SeqAt.shaped (.list (L.map enc)) = true := by
  refine @Hush.hu _ (by
  refine sh_ok ?_ ?_
  · unfold okA
    rw [okAs_of (fun y hy => ?_), List.length_map, decide_eq_true h]
    · rfl
    · obtain ⟨x, _, rfl⟩ := List.mem_map.mp hy
      exact okA_enc x
  · have : dpts (L.map enc) ≤ 1 := dpts_of fun y hy => by
      obtain ⟨x, _, rfl⟩ := List.mem_map.mp hy
      exact Nat.le_refl 1
    rw [dpt_list]
    omega) ?_
  walk_at "hu"
theorem fne_L {L : List En} (h : L.length ≤ 100000) : fNe (.d (.list (L.map enc))) (.d (.list [])) = some (.d (.bool (!L.isEmpty))) := by
  refine @Hush.hu _ (by
  refine fne_of (sh_L h) (by kernel_rfl) ?_
  cases L <;> rfl) ?_
  walk_at "hu"
theorem feq_L {L : List En} (h : L.length ≤ 100000) : fEq (.d (.list (L.map enc))) (.d (.list [])) = some (.d (.bool L.isEmpty)) := by
  refine @Hush.hu _ (by
  refine feq_of (sh_L h) (by kernel_rfl) ?_
  cases L <;> rfl) ?_
  walk_at "hu"
theorem is_right_eq (d : De) (h : Des d) (hT : d.T.length ≤ 100000) (t : Ts) : m_is_right [.d (encD d)] t = .ok (.d (.bool (miss d).isEmpty)) t := by
  refine @Hush.hu _ (by
  have h1 := need_design_ok d h t
  have h2 := missing_eq d hT t
  have h3 := feq_L (L := miss d) (Nat.le_trans (miss_len d) (by decide))
  apply d_is_right
  · unfold b_is_right
    walk_at "ev"
  · rfl
  · rfl) ?_
  walk_at "hu"
theorem made_ne (a b : De) (h : a.y ≠ b.y) : fNe (.d (.tuple [.bool a.y, encH a])) (.d (.tuple [.bool b.y, encH b])) = some (.d (.bool true)) := by
  refine @Hush.hu _ (by
  obtain ⟨w, x, y, h0, h1, h2, T⟩ := a
  obtain ⟨w', x', y', h0', h1', h2', T'⟩ := b
  have h : y ≠ y' := h
  cases y <;> cases y' <;> first | exact absurd rfl h | (cases h0 <;> cases h1 <;> cases h2 <;> cases h0' <;> cases h1' <;> cases h2' <;> kernel_rfl)) ?_
  walk_at "hu"
theorem need_two_no (a b : De) (ha : Des a) (hb : Des b) (la : a.T.length ≤ 100000) (lb : b.T.length ≤ 100000) (t : Ts) (h : miss a ≠ [] ∨ miss b ≠ [] ∨ (a.y ≠ b.y ∧ encH a = encH b)) : m_need_two [.d (encD a), .d (encD b)] t = .ex ⟨"NotMade", none⟩ t := by
  refine @Hush.hu _ (by
  have h1 := need_design_ok a ha t
  have h2 := need_design_ok b hb t
  have h3 := missing_eq a la t
  have h4 := missing_eq b lb t
  have h5 := fne_L (L := miss a) (Nat.le_trans (miss_len a) (by decide))
  have h6 := fne_L (L := miss b) (Nat.le_trans (miss_len b) (by decide))
  have s1 : fSl (.d (encD a)) (some 2) (some 4) = some (.d (.tuple [.bool a.y, encH a])) := rfl
  have s2 : fSl (.d (encD b)) (some 2) (some 4) = some (.d (.tuple [.bool b.y, encH b])) := rfl
  apply x_need_two
  · unfold b_need_two
    by_cases ca : miss a = []
    · rw [ca] at h3 h5 h
      have h5 : fNe (.d (.list (([] : List En).map enc))) (.d (.list [])) = some (.d (.bool false)) := h5
      by_cases cb : miss b = []
      · rw [cb] at h4 h6 h
        have h6 : fNe (.d (.list (([] : List En).map enc))) (.d (.list [])) = some (.d (.bool false)) := h6
        have hy : a.y ≠ b.y := by
          rcases h with h | h | h
          · exact absurd rfl h
          · exact absurd rfl h
          · exact h.1
        have ne := made_ne a b hy
        walk_at "ev"
      · have : (miss b).isEmpty = false := by cases q : miss b with
          | nil => exact absurd q cb
          | cons x r => rfl
        rw [this] at h6
        have h6 : fNe (.d (.list ((miss b).map enc))) (.d (.list [])) = some (.d (.bool true)) := h6
        walk_at "ev"
    · have : (miss a).isEmpty = false := by cases q : miss a with
        | nil => exact absurd q ca
        | cons x r => rfl
      rw [this] at h5
      have h5 : fNe (.d (.list ((miss a).map enc))) (.d (.list [])) = some (.d (.bool true)) := h5
      walk_at "ev"
  · rfl
  · rfl) ?_
  walk_at "hu"
theorem barred_ex {a b : PyData} {t : Ts} {e : Exn} (h : m_need_two [.d a, .d b] t = .ex e t) : m_barred_row [.d a, .d b] t = .ex e t := by
  refine @Hush.hu _ (by
  apply x_barred_row
  · unfold b_barred_row
    walk_at "ev"
  · rfl
  · rfl) ?_
  walk_at "hu"
theorem lets_ex {a b : PyData} {t : Ts} {e : Exn} (h : m_need_two [.d a, .d b] t = .ex e t) : m_lets_by_all [.d a, .d b] t = .ex e t := by
  refine @Hush.hu _ (by
  have := barred_ex h
  apply x_lets_by_all
  · show sRet (sOp fIs (sCall m_barred_row (lift (pCons (pV 0) (pCons (pV 1) pNil)))) (lift (pC (.d .none)))) _ _ = _
    unfold sRet sOp
    rw [show sCall m_barred_row (lift (pCons (pV 0) (pCons (pV 1) pNil))) [some (.d a), some (.d b)] t = .ex e t from (sCall_of (l_of rfl)).trans this]
    rfl
  · rfl
  · rfl) ?_
  walk_at "hu"
theorem two_bad1 {a b : PyData} {t : Ts} (h : m_is_design [.d a] = some (.d (.bool false))) : m_need_two [.d a, .d b] t = .ex ⟨"BadDesign", none⟩ t := by
  refine @Hush.hu _ (by
  have := need_design_no h t
  apply x_need_two
  · unfold b_need_two
    walk_at "ev"
  · rfl
  · rfl) ?_
  walk_at "hu"
theorem two_bad2 {a : De} {b : PyData} {t : Ts} (ha : Des a) (h : m_is_design [.d b] = some (.d (.bool false))) : m_need_two [.d (encD a), .d b] t = .ex ⟨"BadDesign", none⟩ t := by
  refine @Hush.hu _ (by
  have h1 := need_design_ok a ha t
  have := need_design_no h t
  apply x_need_two
  · unfold b_need_two
    walk_at "ev"
  · rfl
  · rfl) ?_
  walk_at "hu"
def bdes (d : De) : List PyData := [.none, .tuple [], .tuple [.int d.w, .bool d.x, .bool d.y, encH d], .list [.int d.w, .bool d.x, .bool d.y, encH d, encT d.T], .tuple [.int 0, .bool d.x, .bool d.y, encH d, encT d.T]]
theorem bdes_no (d : De) : ∀ x ∈ bdes d, m_is_design [.d x] = some (.d (.bool false)) := by
  refine @Hush.hu _ (by
  intro x hx
  unfold bdes at hx
  simp only [List.mem_cons, List.not_mem_nil, or_false] at hx
  rcases hx with rfl | rfl | rfl | rfl | rfl <;> kernel_rfl) ?_
  walk_at "hu"
def bblk : List PyData := [.none, .list [], .tuple [.tuple [.str "if", .int 0, .int 0]], .tuple (List.replicate 4 (.tuple [.str "show", .int 0])), .tuple [.tuple [.str "show", .int 0], .none], .tuple [.tuple [.str "hop", .int 0]], .str "show", .tuple [.tuple [.str "set", .int 0, .int 256]]]
theorem bblk_no : ∀ x ∈ bblk, m_is_block [.d x] = some (.d (.bool false)) := by
  refine @Hush.hu _ (by
  intro x hx
  unfold bblk at hx
  simp only [List.mem_cons, List.not_mem_nil, or_false] at hx
  rcases hx with rfl | rfl | rfl | rfl | rfl | rfl | rfl | rfl <;> kernel_rfl) ?_
  walk_at "hu"
def bst (s : Pl) : List PyData := [.none, .tuple [], .tuple [encW s.names, encW s.cells]]
theorem bst_no (s : Pl) (t : Ts) : ∀ x ∈ bst s, m_need_state [.d x] t = .ex ⟨"BadState", none⟩ t := by
  refine @Hush.hu _ (by
  intro x hx
  unfold bst at hx
  simp only [List.mem_cons, List.not_mem_nil, or_false] at hx
  have : m_is_list [.d x, .d (.int 3), .d (.int 3)] = some (.d (.bool false)) := by
    rcases hx with rfl | rfl | rfl
    · kernel_rfl
    · kernel_rfl
    · exact list_t _ 3 3
  apply x_need_state
  · unfold b_need_state
    walk_at "ev"
  · rfl
  · rfl) ?_
  walk_at "hu"
def bent : List PyData := [.none, .tuple [], .tuple [.str "any"], .tuple [.str "feeds", .str "set", .str "sum", .str "lay", .str "read"]]
theorem bent_no : ∀ x ∈ bent, m_is_entry [.d x] = some (.d (.bool false)) := by
  refine @Hush.hu _ (by
  intro x hx
  unfold bent at hx
  simp only [List.mem_cons, List.not_mem_nil, or_false] at hx
  rcases hx with rfl | rfl | rfl | rfl <;> kernel_rfl) ?_
  walk_at "hu"
theorem count_block (d : De) (h : Des d) {x y : PyData} (hx : m_is_block [.d x] = some (.d (.bool false))) (t : Ts) : m_count_rows [.d (encD d), .d x, .d y] t = .ex ⟨"BadBlock", none⟩ t := by
  refine @Hush.hu _ (by
  have h1 := need_design_ok d h t
  apply x_count_rows
  · unfold b_count_rows
    walk_at "ev"
  · rfl
  · rfl) ?_
  walk_at "hu"
theorem count_state (d : De) (h : Des d) {y : PyData} (t : Ts) (hy : m_need_state [.d y] t = .ex ⟨"BadState", none⟩ t) : m_count_rows [.d (encD d), .d (.tuple []), .d y] t = .ex ⟨"BadState", none⟩ t := by
  refine @Hush.hu _ (by
  have h1 := need_design_ok d h t
  have h2 : m_is_block [.d (.tuple [])] = some (.d (.bool true)) := by kernel_rfl
  apply x_count_rows
  · unfold b_count_rows
    walk_at "ev"
  · rfl
  · rfl) ?_
  walk_at "hu"
theorem shown_entry (d : De) (h : Des d) {x : PyData} (hx : m_is_entry [.d x] = some (.d (.bool false))) (t : Ts) : m_shown [.d (encD d), .d x] t = .ex ⟨"BadEntry", none⟩ t := by
  refine @Hush.hu _ (by
  have h1 := need_design_ok d h t
  have h2 := need_entry_no hx t
  apply x_shown
  · unfold b_shown
    walk_at "ev"
  · rfl
  · rfl) ?_
  walk_at "hu"
theorem shown_made (d : De) (h : Des d) (hT : d.T.length ≤ 100000) (hm : miss d = []) (e : En) (he : e.p ≠ .lay) (t : Ts) : m_shown [.d (encD d), .d (enc e)] t = .ex ⟨"NotMade", none⟩ t := by
  refine @Hush.hu _ (by
  have h1 := need_design_ok d h t
  have h2 := need_entry_ok e he t
  have h3 := missing_eq d hT t
  rw [hm] at h3
  have h3 : m_missing_in [.d (encD d)] t = .ok (.d (.list [])) t := h3
  have h4 : fIn true (.d (enc e)) (.d (.list [])) = some (.d (.bool true)) := by
    refine (if_pos ⟨sh_ok (okA_enc e) (by show 1 ≤ 64; decide), ?_⟩).trans rfl
    kernel_rfl
  apply x_shown
  · unfold b_shown
    walk_at "ev"
  · rfl
  · rfl) ?_
  walk_at "hu"
theorem wrong_w {k : Nat} {L0 : Ts → R D} {t t' : Ts} {c w : Str} (h : L0 t = .ex ⟨c, none⟩ t') (hl : t'.length = t.length) (hc : (c = "BadDesign" ∧ w = "design") ∨ (c = "BadBlock" ∧ w = "block") ∨ (c = "BadState" ∧ w = "state") ∨ (c = "NotMade" ∧ w = "made") ∨ (c = "BadEntry" ∧ w = "entry")) : m__law_wrong k L0 t = .ok (.d (.str w)) t' := by
  refine @Hush.hu _ (by
  rcases hc with ⟨rfl, rfl⟩ | ⟨rfl, rfl⟩ | ⟨rfl, rfl⟩ | ⟨rfl, rfl⟩ | ⟨rfl, rfl⟩ <;> exact wrong_ex h hl (by kernel_rfl) fun t => by kernel_rfl) ?_
  walk_at "hu"
end My
namespace My
open PySem L2 Dl
theorem tab_nil : Tab [] := by
  refine Hush.hu (⟨by decide, (fun _ h => nomatch h), (fun k a b h => by rw [List.getElem?_nil] at h; cases h)⟩) ?_
  walk_at "hu"
theorem freest_bad {x : PyData} {t : Ts} (h : m_is_design [.d x] = some (.d (.bool false))) : m_freest [.d x] t = .ex ⟨"BadDesign", none⟩ t := by
  refine @Hush.hu _ (by
  have := need_design_no h t
  apply x_freest
  · unfold b_freest
    walk_at "ev"
  · rfl
  · rfl) ?_
  walk_at "hu"
theorem unclean_bad {x : PyData} {t : Ts} (h : m_is_design [.d x] = some (.d (.bool false))) : m_unclean [.d x] t = .ex ⟨"BadDesign", none⟩ t := by
  refine @Hush.hu _ (by
  have := need_design_no h t
  apply x_unclean
  · unfold b_unclean
    walk_at "ev"
  · rfl
  · rfl) ?_
  walk_at "hu"
theorem effective_width_bad {x : PyData} {t : Ts} (h : m_is_design [.d x] = some (.d (.bool false))) : m_effective_width [.d x] t = .ex ⟨"BadDesign", none⟩ t := by
  refine @Hush.hu _ (by
  have := need_design_no h t
  apply x_effective_width
  · unfold b_effective_width
    walk_at "ev"
  · rfl
  · rfl) ?_
  walk_at "hu"
theorem count_rows_bad {x : PyData} {y z : PyData} {t : Ts} (h : m_is_design [.d x] = some (.d (.bool false))) : m_count_rows [.d x, .d y, .d z] t = .ex ⟨"BadDesign", none⟩ t := by
  refine @Hush.hu _ (by
  have := need_design_no h t
  apply x_count_rows
  · unfold b_count_rows
    walk_at "ev"
  · rfl
  · rfl) ?_
  walk_at "hu"
theorem stops_cleanly_bad {x : PyData} {t : Ts} (h : m_is_design [.d x] = some (.d (.bool false))) : m_stops_cleanly [.d x] t = .ex ⟨"BadDesign", none⟩ t := by
  refine @Hush.hu _ (by
  have := need_design_no h t
  apply x_stops_cleanly
  · unfold b_stops_cleanly
    walk_at "ev"
  · rfl
  · rfl) ?_
  walk_at "hu"
theorem missing_bad {x : PyData} {t : Ts} (h : m_is_design [.d x] = some (.d (.bool false))) : m_missing [.d x] t = .ex ⟨"BadDesign", none⟩ t := by
  refine @Hush.hu _ (by
  have := need_design_no h t
  apply x_missing
  · unfold b_missing
    walk_at "ev"
  · rfl
  · rfl) ?_
  walk_at "hu"
theorem shown_bad {x : PyData} {y : PyData} {t : Ts} (h : m_is_design [.d x] = some (.d (.bool false))) : m_shown [.d x, .d y] t = .ex ⟨"BadDesign", none⟩ t := by
  refine @Hush.hu _ (by
  have := need_design_no h t
  apply x_shown
  · unfold b_shown
    walk_at "ev"
  · rfl
  · rfl) ?_
  walk_at "hu"
theorem first_shown_bad {x : PyData} {t : Ts} (h : m_is_design [.d x] = some (.d (.bool false))) : m_first_shown [.d x] t = .ex ⟨"BadDesign", none⟩ t := by
  refine @Hush.hu _ (by
  have := need_design_no h t
  apply x_first_shown
  · unfold b_first_shown
    walk_at "ev"
  · rfl
  · rfl) ?_
  walk_at "hu"
theorem least_table_bad {x : PyData} {t : Ts} (h : m_is_design [.d x] = some (.d (.bool false))) : m_least_table [.d x] t = .ex ⟨"BadDesign", none⟩ t := by
  refine @Hush.hu _ (by
  have := need_design_no h t
  apply x_least_table
  · unfold b_least_table
    walk_at "ev"
  · rfl
  · rfl) ?_
  walk_at "hu"
abbrev EnL (ns : List Int) (d : De) (a3 a4 a5 a6 a7 : Option D) : Dl.Env := [some (.sc ns), some (.r 0 []), some (.d (encD d)), a3, a4, a5, a6, a7]
abbrev cls (n : Nat) : List D := (List.range n).map .cl
theorem fin (ns : List Int) (h : ns.length ≤ 63) : ∃ t, b_law (startE 8 1 [.sc ns]) [] = .ok (.rt (.d (.bool true))) t := by
  refine @Hush.hu _ (by
  let ρ0 : Row := ⟨ns, 0, 14406, 0⟩
  obtain ⟨d, ρ1, e1, hd, hT, hm, r1⟩ := right_ok ρ0 [] (Int.le_refl 0)
  have hT : d.T.length ≤ 100000 := by omega
  obtain ⟨q2, x, ρ2, e2, hx, r2⟩ := pick_ok ρ1 [] r1 (bdes d) (by simp [bdes]) (by simp [bdes])
  have hxd := bdes_no d x (List.mem_of_getElem? hx)
  obtain ⟨v1, ρ3, e3, hv1, r3⟩ := taken_ok ρ2 [] r2 11 (by decide) (by decide)
  obtain ⟨j1, ρ4, e4, hj1, r4⟩ := taken_ok ρ3 [] r3 8 (by decide) (by decide)
  obtain ⟨y1, hy1⟩ : ∃ x, bblk[j1]? = some x := ⟨_, List.getElem?_eq_getElem (by show j1 < 8; omega)⟩
  have hyb := bblk_no y1 (List.mem_of_getElem? hy1)
  obtain ⟨s, ρ5, e5, hs, r5⟩ := state_ok ρ4 [] r4
  obtain ⟨q6, y2, ρ6, e6, hy2, r6⟩ := pick_ok ρ5 [] r5 (bst s) (by simp [bst]) (by simp [bst])
  obtain ⟨q7, y3, ρ7, e7, hy3, r7⟩ := pick_ok ρ6 [] r6 bent (by decide) (by decide)
  have hye := bent_no y3 (List.mem_of_getElem? hy3)
  let c : De := { d with y := !d.y }
  have hc : Des c := ⟨hd.w1, hd.w4, hd.tab⟩
  let b : De := { d with w := 4, x := false, T := [] }
  have hb : Des b := ⟨show (1 : Int) ≤ 4 by decide, show (4 : Int) ≤ 4 by decide, tab_nil⟩
  have hbm : miss b ≠ [] := miss_wide d
  obtain ⟨v2, ρ8', e8', hv2, r8'⟩ := taken_ok ρ7 [] r7 2 (by decide) (by decide)
  have key (a3 a4 a5 a7 : Option D) : ∃ (W : Option D) (ρ8 : Row), 0 ≤ ρ8.i ∧ s_law_12 (EnL ns d a3 a4 a5 (some (.d (encD c))) a7) (ρ7.st []) = .ok (.nx (EnL ns d a3 W a5 (some (.d (encD c))) a7)) (ρ8.st []) := by
    have i1 := is_right_eq c hc hT (ρ7.st [])
    by_cases q : (miss c).isEmpty = true
    · rw [q] at i1
      refine ⟨some (.ls [.cl 14, .cl 15]), ρ8', r8', ?_⟩
      have n1 := need_two_no d c hd hc hT hT (ρ8'.st []) (.inr (.inr ⟨by show d.y ≠ !d.y; cases d.y <;> decide, rfl⟩))
      have n2 := need_two_no c d hc hd hT hT (ρ8'.st []) (.inr (.inr ⟨by show (!d.y) ≠ d.y; cases d.y <;> decide, rfl⟩))
      have l1 := lets_ex n1
      have l2 := barred_ex n2
      have o3 : mLst [.cl 14, .cl 15] = some (.ls [.cl 14, .cl 15]) := by kernel_rfl
      have qt : fNe (.d (.str "made")) (.d (.str "made")) = some (.d (.bool false)) := by kernel_rfl
      have g (k : Nat) (h : lb_law k (EnL ns d a3 (some (.ls [.cl 14, .cl 15])) a5 (some (.d (encD c))) a7) (ρ8'.st []) = .ex ⟨"NotMade", none⟩ (ρ8'.st [])) :
          m__law_wrong k (lb_law k (EnL ns d a3 (some (.ls [.cl 14, .cl 15])) a5 (some (.d (encD c))) a7)) (ρ8'.st []) = .ok (.d (.str "made")) (ρ8'.st []) := wrong_w h rfl (.inr (.inr (.inr (.inl ⟨rfl, rfl⟩))))
      have : v2 = 0 ∨ v2 = 1 := by omega
      rcases this with rfl | rfl
      · have g := g 14 (by show lam_law_14 _ _ = _; walk_at "ev")
        have ii : fIx (.ls [.cl 14, .cl 15]) (.d (.int ((0 : Nat) : Int))) = some (.cl 14) := rfl
        walk_at "ev"
      · have g := g 15 (by show lam_law_15 _ _ = _; walk_at "ev")
        have ii : fIx (.ls [.cl 14, .cl 15]) (.d (.int ((1 : Nat) : Int))) = some (.cl 15) := rfl
        walk_at "ev"
    · have q : (miss c).isEmpty = false := by simpa using q
      rw [q] at i1
      refine ⟨a4, ρ7, r7, ?_⟩
      walk_at "ev"
  obtain ⟨W, ρ8, r8, k12⟩ := key (some (.d x)) (some (.ls (cls 11))) (some (.d (.list bblk))) none
  obtain ⟨v3, ρ9, e9, hv3, r9⟩ := taken_ok ρ8 [] r8 3 (by decide) (by decide)
  obtain ⟨e, ρ10, e10, hep, r10⟩ := entry_ok ρ9 [] r9
  have o16 : mLst [.cl 16, .cl 17, .cl 18] = some (.ls [.cl 16, .cl 17, .cl 18]) := by kernel_rfl
  obtain ⟨ρf, hres⟩ : ∃ ρf : Row, (sHi m__law_wrong lb_law (sOp fIx (lift (pV 4)) (sCall m__law_taken (lift (pCons (pV 1) (pCons (pC (.d (.int 3))) pNil)))))) (EnL ns d (some (.d x)) (some (.ls [.cl 16, .cl 17, .cl 18])) (some (.d (.list bblk))) (some (.d (encD c))) (some (.d (encD b)))) (ρ8.st []) = .ok (.d (.str "made")) (ρf.st []) := by
    have n1 := need_two_no b d hb hd (Nat.zero_le _) hT (ρ9.st []) (.inl hbm)
    have n2 := need_two_no d b hd hb hT (Nat.zero_le _) (ρ9.st []) (.inr (.inl hbm))
    have l1 := lets_ex n1
    have l2 := barred_ex n2
    have l3 := shown_made d hd hT hm e hep (ρ10.st [])
    have : v3 = 0 ∨ v3 = 1 ∨ v3 = 2 := by omega
    rcases this with rfl | rfl | rfl
    · refine ⟨ρ9, ?_⟩
      have g : m__law_wrong 16 (lb_law 16 (EnL ns d (some (.d x)) (some (.ls [.cl 16, .cl 17, .cl 18])) (some (.d (.list bblk))) (some (.d (encD c))) (some (.d (encD b))))) (ρ9.st []) = .ok (.d (.str "made")) (ρ9.st []) := by
        refine wrong_w ?_ rfl (.inr (.inr (.inr (.inl ⟨rfl, rfl⟩))))
        show lam_law_16 _ _ = _
        walk_at "ev"
      have ii : fIx (.ls [.cl 16, .cl 17, .cl 18]) (.d (.int ((0 : Nat) : Int))) = some (.cl 16) := rfl
      walk_at "ev"
    · refine ⟨ρ9, ?_⟩
      have g : m__law_wrong 17 (lb_law 17 (EnL ns d (some (.d x)) (some (.ls [.cl 16, .cl 17, .cl 18])) (some (.d (.list bblk))) (some (.d (encD c))) (some (.d (encD b))))) (ρ9.st []) = .ok (.d (.str "made")) (ρ9.st []) := by
        refine wrong_w ?_ rfl (.inr (.inr (.inr (.inl ⟨rfl, rfl⟩))))
        show lam_law_17 _ _ = _
        walk_at "ev"
      have ii : fIx (.ls [.cl 16, .cl 17, .cl 18]) (.d (.int ((1 : Nat) : Int))) = some (.cl 17) := rfl
      walk_at "ev"
    · refine ⟨ρ10, ?_⟩
      have g : m__law_wrong 18 (lb_law 18 (EnL ns d (some (.d x)) (some (.ls [.cl 16, .cl 17, .cl 18])) (some (.d (.list bblk))) (some (.d (encD c))) (some (.d (encD b))))) (ρ9.st []) = .ok (.d (.str "made")) (ρ10.st []) := by
        refine wrong_w ?_ rfl (.inr (.inr (.inr (.inl ⟨rfl, rfl⟩))))
        show lam_law_18 _ _ = _
        walk_at "ev"
      have ii : fIx (.ls [.cl 16, .cl 17, .cl 18]) (.d (.int ((2 : Nat) : Int))) = some (.cl 18) := rfl
      walk_at "ev"
  have ib := is_right_eq b hb (Nat.zero_le _) (ρf.st [])
  have hbe : (miss b).isEmpty = false := by cases q : miss b with
    | nil => exact absurd q hbm
    | cons x r => rfl
  rw [hbe] at ib
  refine ⟨ρf.st [], ?_⟩
  show b_law [some (.sc ns), none, none, none, none, none, none, none] [] = _
  unfold b_law
  have n0 : newLs [.sc ns, .d (.int 0), .d (.int 14406), .d (.int 0)] [] = .ok (.r 0 []) (ρ0.st []) := nl_of rfl (by simp)
  refine go_nx [some (.sc ns), some (.r 0 []), none, none, none, none, none, none] (ρ0.st []) (by walk_at "ev") ?_
  refine go_nx (EnL ns d none none none none none) (ρ1.st []) (by walk_at "ev") ?_
  refine go_nx (EnL ns d (some (.d x)) none none none none) (ρ2.st []) ?_ ?_
  · have k1 : pMk mLst (pCons (pC (.d .none)) (pCons (pMk mTup pNil) (pCons (pSl fSl (pV 2) (pC none) (pPart (pC (.d (.int 4))))) (pCons (pMk cLst (pCons (pV 2) pNil)) (pCons (pOp fAdd (pMk mTup (pCons (pC (.d (.int 0))) pNil)) (pSl fSl (pV 2) (pPart (pC (.d (.int 1)))) (pC none))) pNil))))) (EnL ns d none none none none none) = some (.d (.list (bdes d))) := by kernel_rfl
    walk_at "ev"
  have m1 : mLst [.cl 0, .cl 1, .cl 2, .cl 3] = some (.ls (cls 4)) := by kernel_rfl
  have m2 : mLst [.cl 4, .cl 5, .cl 6] = some (.ls [.cl 4, .cl 5, .cl 6]) := by kernel_rfl
  have m3 : mLst [.cl 7, .cl 8, .cl 9, .cl 10] = some (.ls [.cl 7, .cl 8, .cl 9, .cl 10]) := by kernel_rfl
  have a2 : fAdd (.ls (cls 4)) (.ls [.cl 4, .cl 5, .cl 6]) = some (.ls (cls 7)) := by kernel_rfl
  have a3 : fAdd (.ls (cls 7)) (.ls [.cl 7, .cl 8, .cl 9, .cl 10]) = some (.ls (cls 11)) := by kernel_rfl
  refine go_nx (EnL ns d (some (.d x)) (some (.ls (cls 4))) none none none) (ρ2.st []) (by walk_at "ev") ?_
  refine go_nx (EnL ns d (some (.d x)) (some (.ls (cls 7))) none none none) (ρ2.st []) (by walk_at "ev") ?_
  refine go_nx (EnL ns d (some (.d x)) (some (.ls (cls 11))) none none none) (ρ2.st []) (by walk_at "ev") ?_
  clear m1 m2 m3 a2 a3
  refine go_if (v := false) (ρ3.st []) ?_ rfl ?_
  · have qt : fNe (.d (.str "design")) (.d (.str "design")) = some (.d (.bool false)) := by kernel_rfl
    have f0 : m_lets_by_all [.d x, .d .none] (ρ3.st []) = _ := lets_ex (two_bad1 hxd)
    have f1 : m_barred_row [.d (encD d), .d x] (ρ3.st []) = _ := barred_ex (two_bad2 hd hxd)
    have f2 := freest_bad (t := ρ3.st []) hxd
    have f3 := unclean_bad (t := ρ3.st []) hxd
    have f4 := effective_width_bad (t := ρ3.st []) hxd
    have f5 := count_rows_bad (y := .none) (z := .none) (t := ρ3.st []) hxd
    have f6 := stops_cleanly_bad (t := ρ3.st []) hxd
    have f7 := missing_bad (t := ρ3.st []) hxd
    have f8 := shown_bad (y := .none) (t := ρ3.st []) hxd
    have f9 := first_shown_bad (t := ρ3.st []) hxd
    have f10 := least_table_bad (t := ρ3.st []) hxd
    have g (k : Nat) (h : lb_law k (EnL ns d (some (.d x)) (some (.ls (cls 11))) none none none) (ρ3.st []) = .ex ⟨"BadDesign", none⟩ (ρ3.st [])) :
        m__law_wrong k (lb_law k (EnL ns d (some (.d x)) (some (.ls (cls 11))) none none none)) (ρ3.st []) = .ok (.d (.str "design")) (ρ3.st []) := wrong_w h rfl (.inl ⟨rfl, rfl⟩)
    have : v1 = 0 ∨ v1 = 1 ∨ v1 = 2 ∨ v1 = 3 ∨ v1 = 4 ∨ v1 = 5 ∨ v1 = 6 ∨ v1 = 7 ∨ v1 = 8 ∨ v1 = 9 ∨ v1 = 10 := by omega
    rcases this with rfl | rfl | rfl | rfl | rfl | rfl | rfl | rfl | rfl | rfl | rfl
    · have g := g 0 (by show lam_law_0 _ _ = _; walk_at "ev")
      have ii : fIx (.ls (cls 11)) (.d (.int ((0 : Nat) : Int))) = some (.cl 0) := rfl
      walk_at "ev"
    · have g := g 1 (by show lam_law_1 _ _ = _; walk_at "ev")
      have ii : fIx (.ls (cls 11)) (.d (.int ((1 : Nat) : Int))) = some (.cl 1) := rfl
      walk_at "ev"
    · have g := g 2 (by show lam_law_2 _ _ = _; walk_at "ev")
      have ii : fIx (.ls (cls 11)) (.d (.int ((2 : Nat) : Int))) = some (.cl 2) := rfl
      walk_at "ev"
    · have g := g 3 (by show lam_law_3 _ _ = _; walk_at "ev")
      have ii : fIx (.ls (cls 11)) (.d (.int ((3 : Nat) : Int))) = some (.cl 3) := rfl
      walk_at "ev"
    · have g := g 4 (by show lam_law_4 _ _ = _; walk_at "ev")
      have ii : fIx (.ls (cls 11)) (.d (.int ((4 : Nat) : Int))) = some (.cl 4) := rfl
      walk_at "ev"
    · have g := g 5 (by show lam_law_5 _ _ = _; walk_at "ev")
      have ii : fIx (.ls (cls 11)) (.d (.int ((5 : Nat) : Int))) = some (.cl 5) := rfl
      walk_at "ev"
    · have g := g 6 (by show lam_law_6 _ _ = _; walk_at "ev")
      have ii : fIx (.ls (cls 11)) (.d (.int ((6 : Nat) : Int))) = some (.cl 6) := rfl
      walk_at "ev"
    · have g := g 7 (by show lam_law_7 _ _ = _; walk_at "ev")
      have ii : fIx (.ls (cls 11)) (.d (.int ((7 : Nat) : Int))) = some (.cl 7) := rfl
      walk_at "ev"
    · have g := g 8 (by show lam_law_8 _ _ = _; walk_at "ev")
      have ii : fIx (.ls (cls 11)) (.d (.int ((8 : Nat) : Int))) = some (.cl 8) := rfl
      walk_at "ev"
    · have g := g 9 (by show lam_law_9 _ _ = _; walk_at "ev")
      have ii : fIx (.ls (cls 11)) (.d (.int ((9 : Nat) : Int))) = some (.cl 9) := rfl
      walk_at "ev"
    · have g := g 10 (by show lam_law_10 _ _ = _; walk_at "ev")
      have ii : fIx (.ls (cls 11)) (.d (.int ((10 : Nat) : Int))) = some (.cl 10) := rfl
      walk_at "ev"
  generalize hW : (D.ls (cls 11)) = W1 at k12
  refine go_nx (EnL ns d (some (.d x)) (some W1) (some (.d (.list bblk))) none none) (ρ3.st []) (l_of (pAsg_of (x := .d (.list bblk)) (by kernel_rfl) rfl)) ?_
  refine go_if (v := false) (ρ4.st []) ?_ rfl ?_
  · have ix1 : fIx (.d (.list bblk)) (.d (.int (j1 : Nat))) = some (.d y1) := ix_l hy1
    have f := count_block d hd (y := .none) hyb (ρ4.st [])
    have g : m__law_wrong 11 (lb_law 11 (EnL ns d (some (.d x)) (some W1) (some (.d (.list bblk))) none none)) (ρ3.st []) = .ok (.d (.str "block")) (ρ4.st []) := by
      refine wrong_w ?_ rfl (.inr (.inl ⟨rfl, rfl⟩))
      show lam_law_11 _ _ = _
      walk_at "ev"
    have qt : fNe (.d (.str "block")) (.d (.str "block")) = some (.d (.bool false)) := by kernel_rfl
    walk_at "ev"
  refine go_if (v := false) (ρ6.st []) ?_ rfl ?_
  · have f := count_state d hd (ρ6.st []) (bst_no s (ρ6.st []) y2 (List.mem_of_getElem? hy2))
    have sl : fSl (.d (encS s)) none (some 2) = some (.d (.tuple [encW s.names, encW s.cells])) := rfl
    have ml : mLst [.d .none, .d (.tuple []), .d (.tuple [encW s.names, encW s.cells])] = some (.d (.list (bst s))) := by kernel_rfl
    have g : m__law_wrong 12 (lb_law 12 (EnL ns d (some (.d x)) (some W1) (some (.d (.list bblk))) none none)) (ρ4.st []) = .ok (.d (.str "state")) (ρ6.st []) := by
      refine wrong_w ?_ rfl (.inr (.inr (.inl ⟨rfl, rfl⟩)))
      show lam_law_12 _ _ = _
      have c1 : lift (pC (none : Option Int)) (EnL ns d (some (.d x)) (some W1) (some (.d (.list bblk))) none none) (ρ5.st []) = .ok none (ρ5.st []) := rfl
      have c2 : lift (pPart (pC (.d (.int 2)))) (EnL ns d (some (.d x)) (some W1) (some (.d (.list bblk))) none none) (ρ5.st []) = .ok (some 2) (ρ5.st []) := rfl
      walk_at "ev"
    have qt : fNe (.d (.str "state")) (.d (.str "state")) = some (.d (.bool false)) := by kernel_rfl
    walk_at "ev"
  refine go_if (v := false) (ρ7.st []) ?_ rfl ?_
  · have f := shown_entry d hd hye (ρ7.st [])
    have g : m__law_wrong 13 (lb_law 13 (EnL ns d (some (.d x)) (some W1) (some (.d (.list bblk))) none none)) (ρ6.st []) = .ok (.d (.str "entry")) (ρ7.st []) := by
      refine wrong_w ?_ rfl (.inr (.inr (.inr (.inr ⟨rfl, rfl⟩))))
      show lam_law_13 _ _ = _
      have k1 : pMk mLst (pCons (pC (.d .none)) (pCons (pMk mTup pNil) (pCons (pMk mTup (pCons (pC (.d (.str "any"))) pNil)) (pCons (pMk mTup (pCons (pC (.d (.str "feeds"))) (pCons (pC (.d (.str "set"))) (pCons (pC (.d (.str "sum"))) (pCons (pC (.d (.str "lay"))) (pCons (pC (.d (.str "read"))) pNil)))))) pNil)))) (EnL ns d (some (.d x)) (some W1) (some (.d (.list bblk))) none none) = some (.d (.list bent)) := by kernel_rfl
      walk_at "ev"
    have qt : fNe (.d (.str "entry")) (.d (.str "entry")) = some (.d (.bool false)) := by kernel_rfl
    walk_at "ev"
  refine go_nx (EnL ns d (some (.d x)) (some W1) (some (.d (.list bblk))) (some (.d (encD c))) none) (ρ7.st []) (l_of (pAsg_of (x := .d (encD c)) (by kernel_rfl) rfl)) ?_
  refine go_nx _ _ k12 ?_
  refine go_nx (EnL ns d (some (.d x)) W (some (.d (.list bblk))) (some (.d (encD c))) (some (.d (encD b)))) (ρ8.st []) (l_of (pAsg_of (x := .d (encD b)) (by kernel_rfl) rfl)) ?_
  refine go_nx (EnL ns d (some (.d x)) (some (.ls [.cl 16, .cl 17, .cl 18])) (some (.d (.list bblk))) (some (.d (encD c))) (some (.d (encD b)))) (ρ8.st []) (by walk_at "ev") ?_
  have qv : fEq (.d (.str "made")) (.d (.str "made")) = some (.d (.bool true)) := by kernel_rfl
  clear_value b c
  walk_at "ev") ?_
  walk_at "hu"
end My
def PySem.W.Fast.tw17462064579439618560 : Nat := 0
def PySem.W.Fast.tw15461586742359494210 : Nat := 0
def PySem.W.Fast.tw15032128380757166403 : Nat := 0
def PySem.W.Fast.tw674898563847097636 : Nat := 0
def PySem.W.Fast.tw14060086178205834405 : Nat := 0
def PySem.W.Fast.tw13943732273790081353 : Nat := 0
def PySem.W.Fast.tw3878133141052668489 : Nat := 0
def PySem.W.Fast.tw14820588687944409961 : Nat := 0
def PySem.W.Fast.tw11216259107782215306 : Nat := 0
def PySem.W.Fast.tw11487889896874676304 : Nat := 0
def PySem.W.Fast.tw5740751756774621872 : Nat := 0
def PySem.W.Fast.tw7615403875735834512 : Nat := 0
def PySem.W.Fast.tw191801039511569585 : Nat := 0
def PySem.W.Fast.tw6187556832676215954 : Nat := 0
def PySem.W.Fast.tw9919223771845617811 : Nat := 0
def PySem.W.Fast.tw14815665005313894325 : Nat := 0
def PySem.W.Fast.tw15425482090429095511 : Nat := 0
def PySem.W.Fast.tw10838767540731234104 : Nat := 0
def PySem.W.Fast.tw3748588953751664345 : Nat := 0
def PySem.W.Fast.tw1995554595978107418 : Nat := 0
def PySem.W.Fast.tw7350975279932986527 : Nat := 0
namespace My
open PySem L2 Dl
section
open PySem.W PyProof.Rows
set_option maxRecDepth 100000 in
set_option maxHeartbeats 0 in
open_top tpx for PySem.Challenge.rw_windowbelt_k16_whole_frees_refused
end
theorem h_n_all {P : Params} {h : Heap} {mg : Str → Option Value} (X : (tpx.heap_39 P).In h) (G : h.Ns mainGlobals mg) : mg "all" = none := by
  refine Hush.hu (PySem.W.mg_none_of X G (by k_is)) ?_
  walk_at "hu"
theorem h_n_any {P : Params} {h : Heap} {mg : Str → Option Value} (X : (tpx.heap_39 P).In h) (G : h.Ns mainGlobals mg) : mg "any" = none := by
  refine Hush.hu (PySem.W.mg_none_of X G (by k_is)) ?_
  walk_at "hu"
theorem h_n_bool {P : Params} {h : Heap} {mg : Str → Option Value} (X : (tpx.heap_39 P).In h) (G : h.Ns mainGlobals mg) : mg "bool" = none := by
  refine Hush.hu (PySem.W.mg_none_of X G (by k_is)) ?_
  walk_at "hu"
theorem h_n_dict {P : Params} {h : Heap} {mg : Str → Option Value} (X : (tpx.heap_39 P).In h) (G : h.Ns mainGlobals mg) : mg "dict" = none := by
  refine Hush.hu (PySem.W.mg_none_of X G (by k_is)) ?_
  walk_at "hu"
theorem h_n_int {P : Params} {h : Heap} {mg : Str → Option Value} (X : (tpx.heap_39 P).In h) (G : h.Ns mainGlobals mg) : mg "int" = none := by
  refine Hush.hu (PySem.W.mg_none_of X G (by k_is)) ?_
  walk_at "hu"
theorem h_n_isinstance {P : Params} {h : Heap} {mg : Str → Option Value} (X : (tpx.heap_39 P).In h) (G : h.Ns mainGlobals mg) : mg "isinstance" = none := by
  refine Hush.hu (PySem.W.mg_none_of X G (by k_is)) ?_
  walk_at "hu"
theorem h_n_len {P : Params} {h : Heap} {mg : Str → Option Value} (X : (tpx.heap_39 P).In h) (G : h.Ns mainGlobals mg) : mg "len" = none := by
  refine Hush.hu (PySem.W.mg_none_of X G (by k_is)) ?_
  walk_at "hu"
theorem h_n_list {P : Params} {h : Heap} {mg : Str → Option Value} (X : (tpx.heap_39 P).In h) (G : h.Ns mainGlobals mg) : mg "list" = none := by
  refine Hush.hu (PySem.W.mg_none_of X G (by k_is)) ?_
  walk_at "hu"
theorem h_n_range {P : Params} {h : Heap} {mg : Str → Option Value} (X : (tpx.heap_39 P).In h) (G : h.Ns mainGlobals mg) : mg "range" = none := by
  refine Hush.hu (PySem.W.mg_none_of X G (by k_is)) ?_
  walk_at "hu"
theorem h_n_sorted {P : Params} {h : Heap} {mg : Str → Option Value} (X : (tpx.heap_39 P).In h) (G : h.Ns mainGlobals mg) : mg "sorted" = none := by
  refine Hush.hu (PySem.W.mg_none_of X G (by k_is)) ?_
  walk_at "hu"
theorem h_n_str {P : Params} {h : Heap} {mg : Str → Option Value} (X : (tpx.heap_39 P).In h) (G : h.Ns mainGlobals mg) : mg "str" = none := by
  refine Hush.hu (PySem.W.mg_none_of X G (by k_is)) ?_
  walk_at "hu"
theorem h_n_tuple {P : Params} {h : Heap} {mg : Str → Option Value} (X : (tpx.heap_39 P).In h) (G : h.Ns mainGlobals mg) : mg "tuple" = none := by
  refine Hush.hu (PySem.W.mg_none_of X G (by k_is)) ?_
  walk_at "hu"
theorem g0_c_CELLS {K : PySem.W.Frag} {h : Heap} {mg : Str → Option Value} {t_CELLS : Tok} (X : K.In h) (G : h.Ns mainGlobals mg) (c_CELLS : PySem.W.nsIn K mainGlobals "CELLS" = some (some (.int 8 t_CELLS))) : Gc K mg "CELLS" (.d (.int 8)) := by
  refine Hush.hu (⟨_, .int _, PySem.W.mg_of X G c_CELLS, ⟨_, rfl⟩, fun H => .int _⟩) ?_
  walk_at "hu"
theorem h_c_CELLS {P : Params} {h : Heap} {mg : Str → Option Value} (X : (tpx.heap_39 P).In h) (G : h.Ns mainGlobals mg) : Gc (tpx.heap_39 P) mg "CELLS" (.d (.int 8)) := by
  refine @Hush.hu _ (by
  refine' g0_c_CELLS X G ?c_CELLS
  case c_CELLS => k_is) ?_
  walk_at "hu"
theorem g0_c_EVENTS {K : PySem.W.Frag} {h : Heap} {mg : Str → Option Value} {t_EVENTS_0 : Tok} {t_EVENTS_1 : Tok} {t_EVENTS_2 : Tok} {t_EVENTS_3 : Tok} {t_EVENTS_4 : Tok} {a_EVENTS : Addr} {n_EVENTS : Nat} {sl_EVENTS : Array (Option Value)} (X : K.In h) (G : h.Ns mainGlobals mg) (c_EVENTS : PySem.W.nsIn K mainGlobals "EVENTS" = some (some (.ref a_EVENTS))) (l_EVENTS : K.lookup a_EVENTS = some ⟨.type "tuple", none, .seq #[.str "lay" t_EVENTS_0, .str "read" t_EVENTS_1, .str "make" t_EVENTS_2, .str "write" t_EVENTS_3, .str "out" t_EVENTS_4] n_EVENTS, sl_EVENTS⟩) : Gt K mg "EVENTS" ["lay", "read", "make", "write", "out"] := by
  refine Hush.hu (⟨_, _, _, _, PySem.W.mg_of X G c_EVENTS, l_EVENTS, rfl, rfl, rfl, (show 5 ≤ sizeLine by decide), (.cons ⟨_, rfl⟩ (.cons ⟨_, rfl⟩ (.cons ⟨_, rfl⟩ (.cons ⟨_, rfl⟩ (.cons ⟨_, rfl⟩ .nil)))))⟩) ?_
  walk_at "hu"
theorem h_c_EVENTS {P : Params} {h : Heap} {mg : Str → Option Value} (X : (tpx.heap_39 P).In h) (G : h.Ns mainGlobals mg) : Gt (tpx.heap_39 P) mg "EVENTS" ["lay", "read", "make", "write", "out"] := by
  refine @Hush.hu _ (by
  refine' g0_c_EVENTS X G ?c_EVENTS ?l_EVENTS
  case c_EVENTS => k_is
  case l_EVENTS => k_is) ?_
  walk_at "hu"
theorem g0_c_KINDS {K : PySem.W.Frag} {h : Heap} {mg : Str → Option Value} {t_KINDS_0 : Tok} {t_KINDS_1 : Tok} {t_KINDS_2 : Tok} {t_KINDS_3 : Tok} {t_KINDS_4 : Tok} {t_KINDS_5 : Tok} {a_KINDS : Addr} {n_KINDS : Nat} {sl_KINDS : Array (Option Value)} (X : K.In h) (G : h.Ns mainGlobals mg) (c_KINDS : PySem.W.nsIn K mainGlobals "KINDS" = some (some (.ref a_KINDS))) (l_KINDS : K.lookup a_KINDS = some ⟨.type "tuple", none, .seq #[.str "set" t_KINDS_0, .str "sum" t_KINDS_1, .str "get" t_KINDS_2, .str "put" t_KINDS_3, .str "if" t_KINDS_4, .str "show" t_KINDS_5] n_KINDS, sl_KINDS⟩) : Gt K mg "KINDS" ["set", "sum", "get", "put", "if", "show"] := by
  refine Hush.hu (⟨_, _, _, _, PySem.W.mg_of X G c_KINDS, l_KINDS, rfl, rfl, rfl, (show 6 ≤ sizeLine by decide), (.cons ⟨_, rfl⟩ (.cons ⟨_, rfl⟩ (.cons ⟨_, rfl⟩ (.cons ⟨_, rfl⟩ (.cons ⟨_, rfl⟩ (.cons ⟨_, rfl⟩ .nil))))))⟩) ?_
  walk_at "hu"
theorem h_c_KINDS {P : Params} {h : Heap} {mg : Str → Option Value} (X : (tpx.heap_39 P).In h) (G : h.Ns mainGlobals mg) : Gt (tpx.heap_39 P) mg "KINDS" ["set", "sum", "get", "put", "if", "show"] := by
  refine @Hush.hu _ (by
  refine' g0_c_KINDS X G ?c_KINDS ?l_KINDS
  case c_KINDS => k_is
  case l_KINDS => k_is) ?_
  walk_at "hu"
theorem g0_c_MOST_BLOCK {K : PySem.W.Frag} {h : Heap} {mg : Str → Option Value} {t_MOST_BLOCK : Tok} (X : K.In h) (G : h.Ns mainGlobals mg) (c_MOST_BLOCK : PySem.W.nsIn K mainGlobals "MOST_BLOCK" = some (some (.int 3 t_MOST_BLOCK))) : Gc K mg "MOST_BLOCK" (.d (.int 3)) := by
  refine Hush.hu (⟨_, .int _, PySem.W.mg_of X G c_MOST_BLOCK, ⟨_, rfl⟩, fun H => .int _⟩) ?_
  walk_at "hu"
theorem h_c_MOST_BLOCK {P : Params} {h : Heap} {mg : Str → Option Value} (X : (tpx.heap_39 P).In h) (G : h.Ns mainGlobals mg) : Gc (tpx.heap_39 P) mg "MOST_BLOCK" (.d (.int 3)) := by
  refine @Hush.hu _ (by
  refine' g0_c_MOST_BLOCK X G ?c_MOST_BLOCK
  case c_MOST_BLOCK => k_is) ?_
  walk_at "hu"
theorem g0_c_MOST_INSTRUCTIONS {K : PySem.W.Frag} {h : Heap} {mg : Str → Option Value} {t_MOST_INSTRUCTIONS : Tok} (X : K.In h) (G : h.Ns mainGlobals mg) (c_MOST_INSTRUCTIONS : PySem.W.nsIn K mainGlobals "MOST_INSTRUCTIONS" = some (some (.int 40 t_MOST_INSTRUCTIONS))) : Gc K mg "MOST_INSTRUCTIONS" (.d (.int 40)) := by
  refine Hush.hu (⟨_, .int _, PySem.W.mg_of X G c_MOST_INSTRUCTIONS, ⟨_, rfl⟩, fun H => .int _⟩) ?_
  walk_at "hu"
theorem h_c_MOST_INSTRUCTIONS {P : Params} {h : Heap} {mg : Str → Option Value} (X : (tpx.heap_39 P).In h) (G : h.Ns mainGlobals mg) : Gc (tpx.heap_39 P) mg "MOST_INSTRUCTIONS" (.d (.int 40)) := by
  refine @Hush.hu _ (by
  refine' g0_c_MOST_INSTRUCTIONS X G ?c_MOST_INSTRUCTIONS
  case c_MOST_INSTRUCTIONS => k_is) ?_
  walk_at "hu"
theorem g0_c_MOST_SHOWN {K : PySem.W.Frag} {h : Heap} {mg : Str → Option Value} {t_MOST_SHOWN : Tok} (X : K.In h) (G : h.Ns mainGlobals mg) (c_MOST_SHOWN : PySem.W.nsIn K mainGlobals "MOST_SHOWN" = some (some (.int 500 t_MOST_SHOWN))) : Gc K mg "MOST_SHOWN" (.d (.int 500)) := by
  refine Hush.hu (⟨_, .int _, PySem.W.mg_of X G c_MOST_SHOWN, ⟨_, rfl⟩, fun H => .int _⟩) ?_
  walk_at "hu"
theorem h_c_MOST_SHOWN {P : Params} {h : Heap} {mg : Str → Option Value} (X : (tpx.heap_39 P).In h) (G : h.Ns mainGlobals mg) : Gc (tpx.heap_39 P) mg "MOST_SHOWN" (.d (.int 500)) := by
  refine @Hush.hu _ (by
  refine' g0_c_MOST_SHOWN X G ?c_MOST_SHOWN
  case c_MOST_SHOWN => k_is) ?_
  walk_at "hu"
theorem g0_c_MOST_WIDTH {K : PySem.W.Frag} {h : Heap} {mg : Str → Option Value} {t_MOST_WIDTH : Tok} (X : K.In h) (G : h.Ns mainGlobals mg) (c_MOST_WIDTH : PySem.W.nsIn K mainGlobals "MOST_WIDTH" = some (some (.int 4 t_MOST_WIDTH))) : Gc K mg "MOST_WIDTH" (.d (.int 4)) := by
  refine Hush.hu (⟨_, .int _, PySem.W.mg_of X G c_MOST_WIDTH, ⟨_, rfl⟩, fun H => .int _⟩) ?_
  walk_at "hu"
theorem h_c_MOST_WIDTH {P : Params} {h : Heap} {mg : Str → Option Value} (X : (tpx.heap_39 P).In h) (G : h.Ns mainGlobals mg) : Gc (tpx.heap_39 P) mg "MOST_WIDTH" (.d (.int 4)) := by
  refine @Hush.hu _ (by
  refine' g0_c_MOST_WIDTH X G ?c_MOST_WIDTH
  case c_MOST_WIDTH => k_is) ?_
  walk_at "hu"
theorem g0_c_REGISTERS {K : PySem.W.Frag} {h : Heap} {mg : Str → Option Value} {t_REGISTERS : Tok} (X : K.In h) (G : h.Ns mainGlobals mg) (c_REGISTERS : PySem.W.nsIn K mainGlobals "REGISTERS" = some (some (.int 8 t_REGISTERS))) : Gc K mg "REGISTERS" (.d (.int 8)) := by
  refine Hush.hu (⟨_, .int _, PySem.W.mg_of X G c_REGISTERS, ⟨_, rfl⟩, fun H => .int _⟩) ?_
  walk_at "hu"
theorem h_c_REGISTERS {P : Params} {h : Heap} {mg : Str → Option Value} (X : (tpx.heap_39 P).In h) (G : h.Ns mainGlobals mg) : Gc (tpx.heap_39 P) mg "REGISTERS" (.d (.int 8)) := by
  refine @Hush.hu _ (by
  refine' g0_c_REGISTERS X G ?c_REGISTERS
  case c_REGISTERS => k_is) ?_
  walk_at "hu"
theorem g0_c_RELATIONS {K : PySem.W.Frag} {h : Heap} {mg : Str → Option Value} {t_RELATIONS_0 : Tok} {t_RELATIONS_1 : Tok} {t_RELATIONS_2 : Tok} {t_RELATIONS_3 : Tok} {t_RELATIONS_4 : Tok} {t_RELATIONS_5 : Tok} {t_RELATIONS_6 : Tok} {t_RELATIONS_7 : Tok} {a_RELATIONS : Addr} {n_RELATIONS : Nat} {sl_RELATIONS : Array (Option Value)} (X : K.In h) (G : h.Ns mainGlobals mg) (c_RELATIONS : PySem.W.nsIn K mainGlobals "RELATIONS" = some (some (.ref a_RELATIONS))) (l_RELATIONS : K.lookup a_RELATIONS = some ⟨.type "tuple", none, .seq #[.str "feeds" t_RELATIONS_0, .str "used" t_RELATIONS_1, .str "same" t_RELATIONS_2, .str "cells" t_RELATIONS_3, .str "memory" t_RELATIONS_4, .str "shows" t_RELATIONS_5, .str "jump" t_RELATIONS_6, .str "any" t_RELATIONS_7] n_RELATIONS, sl_RELATIONS⟩) : Gt K mg "RELATIONS" ["feeds", "used", "same", "cells", "memory", "shows", "jump", "any"] := by
  refine Hush.hu (⟨_, _, _, _, PySem.W.mg_of X G c_RELATIONS, l_RELATIONS, rfl, rfl, rfl, (show 8 ≤ sizeLine by decide), (.cons ⟨_, rfl⟩ (.cons ⟨_, rfl⟩ (.cons ⟨_, rfl⟩ (.cons ⟨_, rfl⟩ (.cons ⟨_, rfl⟩ (.cons ⟨_, rfl⟩ (.cons ⟨_, rfl⟩ (.cons ⟨_, rfl⟩ .nil))))))))⟩) ?_
  walk_at "hu"
theorem h_c_RELATIONS {P : Params} {h : Heap} {mg : Str → Option Value} (X : (tpx.heap_39 P).In h) (G : h.Ns mainGlobals mg) : Gt (tpx.heap_39 P) mg "RELATIONS" ["feeds", "used", "same", "cells", "memory", "shows", "jump", "any"] := by
  refine @Hush.hu _ (by
  refine' g0_c_RELATIONS X G ?c_RELATIONS ?l_RELATIONS
  case c_RELATIONS => k_is
  case l_RELATIONS => k_is) ?_
  walk_at "hu"
theorem g0_c_STORES {K : PySem.W.Frag} {h : Heap} {mg : Str → Option Value} {t_STORES_0_0 : Tok} {t_STORES_0_1 : Tok} {a_STORES_0 : Addr} {n_STORES_0 : Nat} {sl_STORES_0 : Array (Option Value)} {t_STORES_1_0 : Tok} {t_STORES_1_1 : Tok} {a_STORES_1 : Addr} {n_STORES_1 : Nat} {sl_STORES_1 : Array (Option Value)} {t_STORES_2_0 : Tok} {t_STORES_2_1 : Tok} {a_STORES_2 : Addr} {n_STORES_2 : Nat} {sl_STORES_2 : Array (Option Value)} {a_STORES : Addr} {n_STORES : Nat} {sl_STORES : Array (Option Value)} (X : K.In h) (G : h.Ns mainGlobals mg) (c_STORES : PySem.W.nsIn K mainGlobals "STORES" = some (some (.ref a_STORES))) (l_STORES : K.lookup a_STORES = some ⟨.type "tuple", none, .seq #[.ref a_STORES_0, .ref a_STORES_1, .ref a_STORES_2] n_STORES, sl_STORES⟩) (l_STORES_0 : K.lookup a_STORES_0 = some ⟨.type "tuple", none, .seq #[.str "put" t_STORES_0_0, .str "get" t_STORES_0_1] n_STORES_0, sl_STORES_0⟩) (l_STORES_1 : K.lookup a_STORES_1 = some ⟨.type "tuple", none, .seq #[.str "get" t_STORES_1_0, .str "put" t_STORES_1_1] n_STORES_1, sl_STORES_1⟩) (l_STORES_2 : K.lookup a_STORES_2 = some ⟨.type "tuple", none, .seq #[.str "put" t_STORES_2_0, .str "put" t_STORES_2_1] n_STORES_2, sl_STORES_2⟩) : Gc K mg "STORES" (.kt (.tuple [(.tuple [(.str "put"), (.str "get")]), (.tuple [(.str "get"), (.str "put")]), (.tuple [(.str "put"), (.str "put")])])) := by
  refine Hush.hu (⟨_, .ref _, PySem.W.mg_of X G c_STORES, rfl, fun H => .tup (xs := [.ref a_STORES_0, .ref a_STORES_1, .ref a_STORES_2]) (.inr ⟨_, _, _, l_STORES, rfl, rfl, (show 3 ≤ sizeLine by decide), (.cons rfl (.cons rfl (.cons rfl .nil)))⟩) (.cons (.tup (xs := [.str "put", .str "get"]) (.inr ⟨_, _, _, l_STORES_0, rfl, rfl, (show 2 ≤ sizeLine by decide), (.cons ⟨_, rfl⟩ (.cons ⟨_, rfl⟩ .nil))⟩) (.cons (.str _) (.cons (.str _) .nil))) (.cons (.tup (xs := [.str "get", .str "put"]) (.inr ⟨_, _, _, l_STORES_1, rfl, rfl, (show 2 ≤ sizeLine by decide), (.cons ⟨_, rfl⟩ (.cons ⟨_, rfl⟩ .nil))⟩) (.cons (.str _) (.cons (.str _) .nil))) (.cons (.tup (xs := [.str "put", .str "put"]) (.inr ⟨_, _, _, l_STORES_2, rfl, rfl, (show 2 ≤ sizeLine by decide), (.cons ⟨_, rfl⟩ (.cons ⟨_, rfl⟩ .nil))⟩) (.cons (.str _) (.cons (.str _) .nil))) .nil)))⟩) ?_
  walk_at "hu"
theorem h_c_STORES {P : Params} {h : Heap} {mg : Str → Option Value} (X : (tpx.heap_39 P).In h) (G : h.Ns mainGlobals mg) : Gc (tpx.heap_39 P) mg "STORES" (.kt (.tuple [(.tuple [(.str "put"), (.str "get")]), (.tuple [(.str "get"), (.str "put")]), (.tuple [(.str "put"), (.str "put")])])) := by
  refine @Hush.hu _ (by
  refine' g0_c_STORES X G ?c_STORES ?l_STORES ?l_STORES_0 ?l_STORES_1 ?l_STORES_2
  case c_STORES => k_is
  case l_STORES => k_is
  case l_STORES_0 => k_is
  case l_STORES_1 => k_is
  case l_STORES_2 => k_is) ?_
  walk_at "hu"
theorem g0_c_WORDS {K : PySem.W.Frag} {h : Heap} {mg : Str → Option Value} {t_WORDS : Tok} (X : K.In h) (G : h.Ns mainGlobals mg) (c_WORDS : PySem.W.nsIn K mainGlobals "WORDS" = some (some (.int 256 t_WORDS))) : Gc K mg "WORDS" (.d (.int 256)) := by
  refine Hush.hu (⟨_, .int _, PySem.W.mg_of X G c_WORDS, ⟨_, rfl⟩, fun H => .int _⟩) ?_
  walk_at "hu"
theorem h_c_WORDS {P : Params} {h : Heap} {mg : Str → Option Value} (X : (tpx.heap_39 P).In h) (G : h.Ns mainGlobals mg) : Gc (tpx.heap_39 P) mg "WORDS" (.d (.int 256)) := by
  refine @Hush.hu _ (by
  refine' g0_c_WORDS X G ?c_WORDS
  case c_WORDS => k_is) ?_
  walk_at "hu"
theorem g0_c_WRITING {K : PySem.W.Frag} {h : Heap} {mg : Str → Option Value} {t_WRITING_0 : Tok} {t_WRITING_1 : Tok} {t_WRITING_2 : Tok} {a_WRITING : Addr} {n_WRITING : Nat} {sl_WRITING : Array (Option Value)} (X : K.In h) (G : h.Ns mainGlobals mg) (c_WRITING : PySem.W.nsIn K mainGlobals "WRITING" = some (some (.ref a_WRITING))) (l_WRITING : K.lookup a_WRITING = some ⟨.type "tuple", none, .seq #[.str "set" t_WRITING_0, .str "sum" t_WRITING_1, .str "get" t_WRITING_2] n_WRITING, sl_WRITING⟩) : Gt K mg "WRITING" ["set", "sum", "get"] := by
  refine Hush.hu (⟨_, _, _, _, PySem.W.mg_of X G c_WRITING, l_WRITING, rfl, rfl, rfl, (show 3 ≤ sizeLine by decide), (.cons ⟨_, rfl⟩ (.cons ⟨_, rfl⟩ (.cons ⟨_, rfl⟩ .nil)))⟩) ?_
  walk_at "hu"
theorem h_c_WRITING {P : Params} {h : Heap} {mg : Str → Option Value} (X : (tpx.heap_39 P).In h) (G : h.Ns mainGlobals mg) : Gt (tpx.heap_39 P) mg "WRITING" ["set", "sum", "get"] := by
  refine @Hush.hu _ (by
  refine' g0_c_WRITING X G ?c_WRITING ?l_WRITING
  case c_WRITING => k_is
  case l_WRITING => k_is) ?_
  walk_at "hu"
theorem g0_e_BadBlock {K : PySem.W.Frag} {h : Heap} {mg : Str → Option Value} {C_BadBlock : Addr} (X : K.In h) (G : h.Ns mainGlobals mg) (a_BadBlock : PySem.W.nsIn K mainGlobals "BadBlock" = some (some (.ref C_BadBlock))) (eC_BadBlock : PySem.W.subIn K (.ref C_BadBlock) (.type "BaseException") = some true) (tC_BadBlock : PySem.W.typeIn K (.ref C_BadBlock) = some (.type "type")) (kC_BadBlock : PySem.W.keepIn K (.ref C_BadBlock) = true) (xc_BadBlock : PySem.W.excIn K C_BadBlock [.type "ValueError", .type "Exception", .type "BaseException", .type "object"] "ValueError.__new__" = true) : Xc K mg "BadBlock" := by
  refine Hush.hu (⟨_, PySem.W.mg_of X G a_BadBlock, kC_BadBlock, xc_BadBlock, eC_BadBlock, tC_BadBlock⟩) ?_
  walk_at "hu"
theorem h_e_BadBlock {P : Params} {h : Heap} {mg : Str → Option Value} (X : (tpx.heap_39 P).In h) (G : h.Ns mainGlobals mg) : Xc (tpx.heap_39 P) mg "BadBlock" := by
  refine @Hush.hu _ (by
  refine' g0_e_BadBlock X G ?a_BadBlock ?eC_BadBlock ?tC_BadBlock ?kC_BadBlock ?xc_BadBlock
  case a_BadBlock => k_is
  case eC_BadBlock => k_is
  case tC_BadBlock => k_is
  case kC_BadBlock => k_is
  case xc_BadBlock => k_exc) ?_
  walk_at "hu"
theorem g0_e_BadDesign {K : PySem.W.Frag} {h : Heap} {mg : Str → Option Value} {C_BadDesign : Addr} (X : K.In h) (G : h.Ns mainGlobals mg) (a_BadDesign : PySem.W.nsIn K mainGlobals "BadDesign" = some (some (.ref C_BadDesign))) (eC_BadDesign : PySem.W.subIn K (.ref C_BadDesign) (.type "BaseException") = some true) (tC_BadDesign : PySem.W.typeIn K (.ref C_BadDesign) = some (.type "type")) (kC_BadDesign : PySem.W.keepIn K (.ref C_BadDesign) = true) (xc_BadDesign : PySem.W.excIn K C_BadDesign [.type "ValueError", .type "Exception", .type "BaseException", .type "object"] "ValueError.__new__" = true) : Xc K mg "BadDesign" := by
  refine Hush.hu (⟨_, PySem.W.mg_of X G a_BadDesign, kC_BadDesign, xc_BadDesign, eC_BadDesign, tC_BadDesign⟩) ?_
  walk_at "hu"
theorem h_e_BadDesign {P : Params} {h : Heap} {mg : Str → Option Value} (X : (tpx.heap_39 P).In h) (G : h.Ns mainGlobals mg) : Xc (tpx.heap_39 P) mg "BadDesign" := by
  refine @Hush.hu _ (by
  refine' g0_e_BadDesign X G ?a_BadDesign ?eC_BadDesign ?tC_BadDesign ?kC_BadDesign ?xc_BadDesign
  case a_BadDesign => k_is
  case eC_BadDesign => k_is
  case tC_BadDesign => k_is
  case kC_BadDesign => k_is
  case xc_BadDesign => k_exc) ?_
  walk_at "hu"
theorem g0_e_BadEntry {K : PySem.W.Frag} {h : Heap} {mg : Str → Option Value} {C_BadEntry : Addr} (X : K.In h) (G : h.Ns mainGlobals mg) (a_BadEntry : PySem.W.nsIn K mainGlobals "BadEntry" = some (some (.ref C_BadEntry))) (eC_BadEntry : PySem.W.subIn K (.ref C_BadEntry) (.type "BaseException") = some true) (tC_BadEntry : PySem.W.typeIn K (.ref C_BadEntry) = some (.type "type")) (kC_BadEntry : PySem.W.keepIn K (.ref C_BadEntry) = true) (xc_BadEntry : PySem.W.excIn K C_BadEntry [.type "ValueError", .type "Exception", .type "BaseException", .type "object"] "ValueError.__new__" = true) : Xc K mg "BadEntry" := by
  refine Hush.hu (⟨_, PySem.W.mg_of X G a_BadEntry, kC_BadEntry, xc_BadEntry, eC_BadEntry, tC_BadEntry⟩) ?_
  walk_at "hu"
theorem h_e_BadEntry {P : Params} {h : Heap} {mg : Str → Option Value} (X : (tpx.heap_39 P).In h) (G : h.Ns mainGlobals mg) : Xc (tpx.heap_39 P) mg "BadEntry" := by
  refine @Hush.hu _ (by
  refine' g0_e_BadEntry X G ?a_BadEntry ?eC_BadEntry ?tC_BadEntry ?kC_BadEntry ?xc_BadEntry
  case a_BadEntry => k_is
  case eC_BadEntry => k_is
  case tC_BadEntry => k_is
  case kC_BadEntry => k_is
  case xc_BadEntry => k_exc) ?_
  walk_at "hu"
theorem g0_e_BadState {K : PySem.W.Frag} {h : Heap} {mg : Str → Option Value} {C_BadState : Addr} (X : K.In h) (G : h.Ns mainGlobals mg) (a_BadState : PySem.W.nsIn K mainGlobals "BadState" = some (some (.ref C_BadState))) (eC_BadState : PySem.W.subIn K (.ref C_BadState) (.type "BaseException") = some true) (tC_BadState : PySem.W.typeIn K (.ref C_BadState) = some (.type "type")) (kC_BadState : PySem.W.keepIn K (.ref C_BadState) = true) (xc_BadState : PySem.W.excIn K C_BadState [.type "ValueError", .type "Exception", .type "BaseException", .type "object"] "ValueError.__new__" = true) : Xc K mg "BadState" := by
  refine Hush.hu (⟨_, PySem.W.mg_of X G a_BadState, kC_BadState, xc_BadState, eC_BadState, tC_BadState⟩) ?_
  walk_at "hu"
theorem h_e_BadState {P : Params} {h : Heap} {mg : Str → Option Value} (X : (tpx.heap_39 P).In h) (G : h.Ns mainGlobals mg) : Xc (tpx.heap_39 P) mg "BadState" := by
  refine @Hush.hu _ (by
  refine' g0_e_BadState X G ?a_BadState ?eC_BadState ?tC_BadState ?kC_BadState ?xc_BadState
  case a_BadState => k_is
  case eC_BadState => k_is
  case tC_BadState => k_is
  case kC_BadState => k_is
  case xc_BadState => k_exc) ?_
  walk_at "hu"
theorem g0_e_NotMade {K : PySem.W.Frag} {h : Heap} {mg : Str → Option Value} {C_NotMade : Addr} (X : K.In h) (G : h.Ns mainGlobals mg) (a_NotMade : PySem.W.nsIn K mainGlobals "NotMade" = some (some (.ref C_NotMade))) (eC_NotMade : PySem.W.subIn K (.ref C_NotMade) (.type "BaseException") = some true) (tC_NotMade : PySem.W.typeIn K (.ref C_NotMade) = some (.type "type")) (kC_NotMade : PySem.W.keepIn K (.ref C_NotMade) = true) (xc_NotMade : PySem.W.excIn K C_NotMade [.type "ValueError", .type "Exception", .type "BaseException", .type "object"] "ValueError.__new__" = true) : Xc K mg "NotMade" := by
  refine Hush.hu (⟨_, PySem.W.mg_of X G a_NotMade, kC_NotMade, xc_NotMade, eC_NotMade, tC_NotMade⟩) ?_
  walk_at "hu"
theorem h_e_NotMade {P : Params} {h : Heap} {mg : Str → Option Value} (X : (tpx.heap_39 P).In h) (G : h.Ns mainGlobals mg) : Xc (tpx.heap_39 P) mg "NotMade" := by
  refine @Hush.hu _ (by
  refine' g0_e_NotMade X G ?a_NotMade ?eC_NotMade ?tC_NotMade ?kC_NotMade ?xc_NotMade
  case a_NotMade => k_is
  case eC_NotMade => k_is
  case tC_NotMade => k_is
  case kC_NotMade => k_is
  case xc_NotMade => k_exc) ?_
  walk_at "hu"
theorem g0_x_WindowError {K : PySem.W.Frag} {h : Heap} {mg : Str → Option Value} {C_WindowError : Addr} {C_BadState : Addr} {C_BadEntry : Addr} {C_BadDesign : Addr} {C_BadBlock : Addr} {C_NotMade : Addr} (X : K.In h) (G : h.Ns mainGlobals mg) (a_WindowError : PySem.W.nsIn K mainGlobals "WindowError" = some (some (.ref C_WindowError))) (a_BadState : PySem.W.nsIn K mainGlobals "BadState" = some (some (.ref C_BadState))) (a_BadEntry : PySem.W.nsIn K mainGlobals "BadEntry" = some (some (.ref C_BadEntry))) (a_BadDesign : PySem.W.nsIn K mainGlobals "BadDesign" = some (some (.ref C_BadDesign))) (a_BadBlock : PySem.W.nsIn K mainGlobals "BadBlock" = some (some (.ref C_BadBlock))) (a_NotMade : PySem.W.nsIn K mainGlobals "NotMade" = some (some (.ref C_NotMade))) (em_WindowError : PySem.W.exmOne K (.ref C_WindowError) (.ref C_WindowError) = some true) (em_BadState : PySem.W.exmOne K (.ref C_BadState) (.ref C_WindowError) = some true) (em_BadEntry : PySem.W.exmOne K (.ref C_BadEntry) (.ref C_WindowError) = some true) (em_BadDesign : PySem.W.exmOne K (.ref C_BadDesign) (.ref C_WindowError) = some true) (em_BadBlock : PySem.W.exmOne K (.ref C_BadBlock) (.ref C_WindowError) = some true) (em_NotMade : PySem.W.exmOne K (.ref C_NotMade) (.ref C_WindowError) = some true) : ExT K mg "WindowError" ex_WindowError := by
  refine Hush.hu (exT_of (PySem.W.mg_of X G a_WindowError) (.cons (PySem.W.mg_of X G a_WindowError) em_WindowError (.cons (PySem.W.mg_of X G a_BadState) em_BadState (.cons (PySem.W.mg_of X G a_BadEntry) em_BadEntry (.cons (PySem.W.mg_of X G a_BadDesign) em_BadDesign (.cons (PySem.W.mg_of X G a_BadBlock) em_BadBlock (.cons (PySem.W.mg_of X G a_NotMade) em_NotMade .nil))))))) ?_
  walk_at "hu"
theorem h_x_WindowError {P : Params} {h : Heap} {mg : Str → Option Value} (X : (tpx.heap_39 P).In h) (G : h.Ns mainGlobals mg) : ExT (tpx.heap_39 P) mg "WindowError" ex_WindowError := by
  refine @Hush.hu _ (by
  refine' g0_x_WindowError X G ?a_WindowError ?a_BadState ?a_BadEntry ?a_BadDesign ?a_BadBlock ?a_NotMade ?em_WindowError ?em_BadState ?em_BadEntry ?em_BadDesign ?em_BadBlock ?em_NotMade
  case a_WindowError => k_is
  case a_BadState => k_is
  case a_BadEntry => k_is
  case a_BadDesign => k_is
  case a_BadBlock => k_is
  case a_NotMade => k_is
  case em_WindowError => first | kts_exm | kernel_rfl
  case em_BadState => first | kts_exm | kernel_rfl
  case em_BadEntry => first | kts_exm | kernel_rfl
  case em_BadDesign => first | kts_exm | kernel_rfl
  case em_BadBlock => first | kts_exm | kernel_rfl
  case em_NotMade => first | kts_exm | kernel_rfl) ?_
  walk_at "hu"
theorem g0_is_BadBlock {K : PySem.W.Frag} {h : Heap} {mg : Str → Option Value} {C_WindowError : Addr} {C_BadState : Addr} {C_BadEntry : Addr} {C_BadDesign : Addr} {C_BadBlock : Addr} {C_NotMade : Addr} (X : K.In h) (G : h.Ns mainGlobals mg) (ns_get : PySem.W.specialIn K (.builtin "object.__class__") "__get__" = some (some (.builtin "getset_descriptor.__get__"))) (ns_tk : PySem.W.takesIn K (.builtin "object.__class__") = some true) (a_WindowError : PySem.W.nsIn K mainGlobals "WindowError" = some (some (.ref C_WindowError))) (a_BadState : PySem.W.nsIn K mainGlobals "BadState" = some (some (.ref C_BadState))) (a_BadEntry : PySem.W.nsIn K mainGlobals "BadEntry" = some (some (.ref C_BadEntry))) (a_BadDesign : PySem.W.nsIn K mainGlobals "BadDesign" = some (some (.ref C_BadDesign))) (a_BadBlock : PySem.W.nsIn K mainGlobals "BadBlock" = some (some (.ref C_BadBlock))) (a_NotMade : PySem.W.nsIn K mainGlobals "NotMade" = some (some (.ref C_NotMade))) (eC_WindowError : PySem.W.subIn K (.ref C_WindowError) (.type "BaseException") = some true) (ga_WindowError : PySem.W.findIn K (.ref C_WindowError) "__getattribute__" = some (some (.builtin "BaseException.__getattribute__"))) (gg_WindowError : PySem.W.findIn K (.ref C_WindowError) "__getattr__" = some none) (hd_WindowError : PySem.W.hasDictIn K C_WindowError = true) (cl_WindowError : PySem.W.findIn K (.ref C_WindowError) "__class__" = some (some (.builtin "object.__class__"))) (mo_WindowError : PySem.W.mroIn K C_WindowError (.type "object") = some true) (ki_WindowError : PySem.W.kitOne K (.ref C_WindowError) (.ref C_BadBlock) = some false) (eC_BadState : PySem.W.subIn K (.ref C_BadState) (.type "BaseException") = some true) (ga_BadState : PySem.W.findIn K (.ref C_BadState) "__getattribute__" = some (some (.builtin "BaseException.__getattribute__"))) (gg_BadState : PySem.W.findIn K (.ref C_BadState) "__getattr__" = some none) (hd_BadState : PySem.W.hasDictIn K C_BadState = true) (cl_BadState : PySem.W.findIn K (.ref C_BadState) "__class__" = some (some (.builtin "object.__class__"))) (mo_BadState : PySem.W.mroIn K C_BadState (.type "object") = some true) (ki_BadState : PySem.W.kitOne K (.ref C_BadState) (.ref C_BadBlock) = some false) (eC_BadEntry : PySem.W.subIn K (.ref C_BadEntry) (.type "BaseException") = some true) (ga_BadEntry : PySem.W.findIn K (.ref C_BadEntry) "__getattribute__" = some (some (.builtin "BaseException.__getattribute__"))) (gg_BadEntry : PySem.W.findIn K (.ref C_BadEntry) "__getattr__" = some none) (hd_BadEntry : PySem.W.hasDictIn K C_BadEntry = true) (cl_BadEntry : PySem.W.findIn K (.ref C_BadEntry) "__class__" = some (some (.builtin "object.__class__"))) (mo_BadEntry : PySem.W.mroIn K C_BadEntry (.type "object") = some true) (ki_BadEntry : PySem.W.kitOne K (.ref C_BadEntry) (.ref C_BadBlock) = some false) (eC_BadDesign : PySem.W.subIn K (.ref C_BadDesign) (.type "BaseException") = some true) (ga_BadDesign : PySem.W.findIn K (.ref C_BadDesign) "__getattribute__" = some (some (.builtin "BaseException.__getattribute__"))) (gg_BadDesign : PySem.W.findIn K (.ref C_BadDesign) "__getattr__" = some none) (hd_BadDesign : PySem.W.hasDictIn K C_BadDesign = true) (cl_BadDesign : PySem.W.findIn K (.ref C_BadDesign) "__class__" = some (some (.builtin "object.__class__"))) (mo_BadDesign : PySem.W.mroIn K C_BadDesign (.type "object") = some true) (ki_BadDesign : PySem.W.kitOne K (.ref C_BadDesign) (.ref C_BadBlock) = some false) (eC_BadBlock : PySem.W.subIn K (.ref C_BadBlock) (.type "BaseException") = some true) (ga_BadBlock : PySem.W.findIn K (.ref C_BadBlock) "__getattribute__" = some (some (.builtin "BaseException.__getattribute__"))) (gg_BadBlock : PySem.W.findIn K (.ref C_BadBlock) "__getattr__" = some none) (hd_BadBlock : PySem.W.hasDictIn K C_BadBlock = true) (cl_BadBlock : PySem.W.findIn K (.ref C_BadBlock) "__class__" = some (some (.builtin "object.__class__"))) (mo_BadBlock : PySem.W.mroIn K C_BadBlock (.type "object") = some true) (ki_BadBlock : PySem.W.kitOne K (.ref C_BadBlock) (.ref C_BadBlock) = some true) (eC_NotMade : PySem.W.subIn K (.ref C_NotMade) (.type "BaseException") = some true) (ga_NotMade : PySem.W.findIn K (.ref C_NotMade) "__getattribute__" = some (some (.builtin "BaseException.__getattribute__"))) (gg_NotMade : PySem.W.findIn K (.ref C_NotMade) "__getattr__" = some none) (hd_NotMade : PySem.W.hasDictIn K C_NotMade = true) (cl_NotMade : PySem.W.findIn K (.ref C_NotMade) "__class__" = some (some (.builtin "object.__class__"))) (mo_NotMade : PySem.W.mroIn K C_NotMade (.type "object") = some true) (ki_NotMade : PySem.W.kitOne K (.ref C_NotMade) (.ref C_BadBlock) = some false) : IsT K mg "BadBlock" is_BadBlock := by
  refine Hush.hu (isT_of (PySem.W.mg_of X G a_BadBlock) (.cons (PySem.W.mg_of X G a_WindowError) ⟨⟨ga_WindowError, gg_WindowError, eC_WindowError, hd_WindowError, cl_WindowError, ns_get, ns_tk, mo_WindowError⟩, ki_WindowError⟩ (.cons (PySem.W.mg_of X G a_BadState) ⟨⟨ga_BadState, gg_BadState, eC_BadState, hd_BadState, cl_BadState, ns_get, ns_tk, mo_BadState⟩, ki_BadState⟩ (.cons (PySem.W.mg_of X G a_BadEntry) ⟨⟨ga_BadEntry, gg_BadEntry, eC_BadEntry, hd_BadEntry, cl_BadEntry, ns_get, ns_tk, mo_BadEntry⟩, ki_BadEntry⟩ (.cons (PySem.W.mg_of X G a_BadDesign) ⟨⟨ga_BadDesign, gg_BadDesign, eC_BadDesign, hd_BadDesign, cl_BadDesign, ns_get, ns_tk, mo_BadDesign⟩, ki_BadDesign⟩ (.cons (PySem.W.mg_of X G a_BadBlock) ⟨⟨ga_BadBlock, gg_BadBlock, eC_BadBlock, hd_BadBlock, cl_BadBlock, ns_get, ns_tk, mo_BadBlock⟩, ki_BadBlock⟩ (.cons (PySem.W.mg_of X G a_NotMade) ⟨⟨ga_NotMade, gg_NotMade, eC_NotMade, hd_NotMade, cl_NotMade, ns_get, ns_tk, mo_NotMade⟩, ki_NotMade⟩ .nil))))))) ?_
  walk_at "hu"
theorem h_is_BadBlock {P : Params} {h : Heap} {mg : Str → Option Value} (X : (tpx.heap_39 P).In h) (G : h.Ns mainGlobals mg) : IsT (tpx.heap_39 P) mg "BadBlock" is_BadBlock := by
  refine @Hush.hu _ (by
  refine' g0_is_BadBlock X G ?ns_get ?ns_tk ?a_WindowError ?a_BadState ?a_BadEntry ?a_BadDesign ?a_BadBlock ?a_NotMade ?eC_WindowError ?ga_WindowError ?gg_WindowError ?hd_WindowError ?cl_WindowError ?mo_WindowError ?ki_WindowError ?eC_BadState ?ga_BadState ?gg_BadState ?hd_BadState ?cl_BadState ?mo_BadState ?ki_BadState ?eC_BadEntry ?ga_BadEntry ?gg_BadEntry ?hd_BadEntry ?cl_BadEntry ?mo_BadEntry ?ki_BadEntry ?eC_BadDesign ?ga_BadDesign ?gg_BadDesign ?hd_BadDesign ?cl_BadDesign ?mo_BadDesign ?ki_BadDesign ?eC_BadBlock ?ga_BadBlock ?gg_BadBlock ?hd_BadBlock ?cl_BadBlock ?mo_BadBlock ?ki_BadBlock ?eC_NotMade ?ga_NotMade ?gg_NotMade ?hd_NotMade ?cl_NotMade ?mo_NotMade ?ki_NotMade
  case ns_get => k_is
  case ns_tk => k_is
  case a_WindowError => k_is
  case a_BadState => k_is
  case a_BadEntry => k_is
  case a_BadDesign => k_is
  case a_BadBlock => k_is
  case a_NotMade => k_is
  case eC_WindowError => k_is
  case ga_WindowError => k_is
  case gg_WindowError => k_is
  case hd_WindowError => k_is
  case cl_WindowError => k_is
  case mo_WindowError => k_is
  case ki_WindowError => first | kit_is | kernel_rfl
  case eC_BadState => k_is
  case ga_BadState => k_is
  case gg_BadState => k_is
  case hd_BadState => k_is
  case cl_BadState => k_is
  case mo_BadState => k_is
  case ki_BadState => first | kit_is | kernel_rfl
  case eC_BadEntry => k_is
  case ga_BadEntry => k_is
  case gg_BadEntry => k_is
  case hd_BadEntry => k_is
  case cl_BadEntry => k_is
  case mo_BadEntry => k_is
  case ki_BadEntry => first | kit_is | kernel_rfl
  case eC_BadDesign => k_is
  case ga_BadDesign => k_is
  case gg_BadDesign => k_is
  case hd_BadDesign => k_is
  case cl_BadDesign => k_is
  case mo_BadDesign => k_is
  case ki_BadDesign => first | kit_is | kernel_rfl
  case eC_BadBlock => k_is
  case ga_BadBlock => k_is
  case gg_BadBlock => k_is
  case hd_BadBlock => k_is
  case cl_BadBlock => k_is
  case mo_BadBlock => k_is
  case ki_BadBlock => first | kit_is | kernel_rfl
  case eC_NotMade => k_is
  case ga_NotMade => k_is
  case gg_NotMade => k_is
  case hd_NotMade => k_is
  case cl_NotMade => k_is
  case mo_NotMade => k_is
  case ki_NotMade => first | kit_is | kernel_rfl) ?_
  walk_at "hu"
theorem g0_is_BadDesign {K : PySem.W.Frag} {h : Heap} {mg : Str → Option Value} {C_WindowError : Addr} {C_BadState : Addr} {C_BadEntry : Addr} {C_BadDesign : Addr} {C_BadBlock : Addr} {C_NotMade : Addr} (X : K.In h) (G : h.Ns mainGlobals mg) (ns_get : PySem.W.specialIn K (.builtin "object.__class__") "__get__" = some (some (.builtin "getset_descriptor.__get__"))) (ns_tk : PySem.W.takesIn K (.builtin "object.__class__") = some true) (a_WindowError : PySem.W.nsIn K mainGlobals "WindowError" = some (some (.ref C_WindowError))) (a_BadState : PySem.W.nsIn K mainGlobals "BadState" = some (some (.ref C_BadState))) (a_BadEntry : PySem.W.nsIn K mainGlobals "BadEntry" = some (some (.ref C_BadEntry))) (a_BadDesign : PySem.W.nsIn K mainGlobals "BadDesign" = some (some (.ref C_BadDesign))) (a_BadBlock : PySem.W.nsIn K mainGlobals "BadBlock" = some (some (.ref C_BadBlock))) (a_NotMade : PySem.W.nsIn K mainGlobals "NotMade" = some (some (.ref C_NotMade))) (eC_WindowError : PySem.W.subIn K (.ref C_WindowError) (.type "BaseException") = some true) (ga_WindowError : PySem.W.findIn K (.ref C_WindowError) "__getattribute__" = some (some (.builtin "BaseException.__getattribute__"))) (gg_WindowError : PySem.W.findIn K (.ref C_WindowError) "__getattr__" = some none) (hd_WindowError : PySem.W.hasDictIn K C_WindowError = true) (cl_WindowError : PySem.W.findIn K (.ref C_WindowError) "__class__" = some (some (.builtin "object.__class__"))) (mo_WindowError : PySem.W.mroIn K C_WindowError (.type "object") = some true) (ki_WindowError : PySem.W.kitOne K (.ref C_WindowError) (.ref C_BadDesign) = some false) (eC_BadState : PySem.W.subIn K (.ref C_BadState) (.type "BaseException") = some true) (ga_BadState : PySem.W.findIn K (.ref C_BadState) "__getattribute__" = some (some (.builtin "BaseException.__getattribute__"))) (gg_BadState : PySem.W.findIn K (.ref C_BadState) "__getattr__" = some none) (hd_BadState : PySem.W.hasDictIn K C_BadState = true) (cl_BadState : PySem.W.findIn K (.ref C_BadState) "__class__" = some (some (.builtin "object.__class__"))) (mo_BadState : PySem.W.mroIn K C_BadState (.type "object") = some true) (ki_BadState : PySem.W.kitOne K (.ref C_BadState) (.ref C_BadDesign) = some false) (eC_BadEntry : PySem.W.subIn K (.ref C_BadEntry) (.type "BaseException") = some true) (ga_BadEntry : PySem.W.findIn K (.ref C_BadEntry) "__getattribute__" = some (some (.builtin "BaseException.__getattribute__"))) (gg_BadEntry : PySem.W.findIn K (.ref C_BadEntry) "__getattr__" = some none) (hd_BadEntry : PySem.W.hasDictIn K C_BadEntry = true) (cl_BadEntry : PySem.W.findIn K (.ref C_BadEntry) "__class__" = some (some (.builtin "object.__class__"))) (mo_BadEntry : PySem.W.mroIn K C_BadEntry (.type "object") = some true) (ki_BadEntry : PySem.W.kitOne K (.ref C_BadEntry) (.ref C_BadDesign) = some false) (eC_BadDesign : PySem.W.subIn K (.ref C_BadDesign) (.type "BaseException") = some true) (ga_BadDesign : PySem.W.findIn K (.ref C_BadDesign) "__getattribute__" = some (some (.builtin "BaseException.__getattribute__"))) (gg_BadDesign : PySem.W.findIn K (.ref C_BadDesign) "__getattr__" = some none) (hd_BadDesign : PySem.W.hasDictIn K C_BadDesign = true) (cl_BadDesign : PySem.W.findIn K (.ref C_BadDesign) "__class__" = some (some (.builtin "object.__class__"))) (mo_BadDesign : PySem.W.mroIn K C_BadDesign (.type "object") = some true) (ki_BadDesign : PySem.W.kitOne K (.ref C_BadDesign) (.ref C_BadDesign) = some true) (eC_BadBlock : PySem.W.subIn K (.ref C_BadBlock) (.type "BaseException") = some true) (ga_BadBlock : PySem.W.findIn K (.ref C_BadBlock) "__getattribute__" = some (some (.builtin "BaseException.__getattribute__"))) (gg_BadBlock : PySem.W.findIn K (.ref C_BadBlock) "__getattr__" = some none) (hd_BadBlock : PySem.W.hasDictIn K C_BadBlock = true) (cl_BadBlock : PySem.W.findIn K (.ref C_BadBlock) "__class__" = some (some (.builtin "object.__class__"))) (mo_BadBlock : PySem.W.mroIn K C_BadBlock (.type "object") = some true) (ki_BadBlock : PySem.W.kitOne K (.ref C_BadBlock) (.ref C_BadDesign) = some false) (eC_NotMade : PySem.W.subIn K (.ref C_NotMade) (.type "BaseException") = some true) (ga_NotMade : PySem.W.findIn K (.ref C_NotMade) "__getattribute__" = some (some (.builtin "BaseException.__getattribute__"))) (gg_NotMade : PySem.W.findIn K (.ref C_NotMade) "__getattr__" = some none) (hd_NotMade : PySem.W.hasDictIn K C_NotMade = true) (cl_NotMade : PySem.W.findIn K (.ref C_NotMade) "__class__" = some (some (.builtin "object.__class__"))) (mo_NotMade : PySem.W.mroIn K C_NotMade (.type "object") = some true) (ki_NotMade : PySem.W.kitOne K (.ref C_NotMade) (.ref C_BadDesign) = some false) : IsT K mg "BadDesign" is_BadDesign := by
  refine Hush.hu (isT_of (PySem.W.mg_of X G a_BadDesign) (.cons (PySem.W.mg_of X G a_WindowError) ⟨⟨ga_WindowError, gg_WindowError, eC_WindowError, hd_WindowError, cl_WindowError, ns_get, ns_tk, mo_WindowError⟩, ki_WindowError⟩ (.cons (PySem.W.mg_of X G a_BadState) ⟨⟨ga_BadState, gg_BadState, eC_BadState, hd_BadState, cl_BadState, ns_get, ns_tk, mo_BadState⟩, ki_BadState⟩ (.cons (PySem.W.mg_of X G a_BadEntry) ⟨⟨ga_BadEntry, gg_BadEntry, eC_BadEntry, hd_BadEntry, cl_BadEntry, ns_get, ns_tk, mo_BadEntry⟩, ki_BadEntry⟩ (.cons (PySem.W.mg_of X G a_BadDesign) ⟨⟨ga_BadDesign, gg_BadDesign, eC_BadDesign, hd_BadDesign, cl_BadDesign, ns_get, ns_tk, mo_BadDesign⟩, ki_BadDesign⟩ (.cons (PySem.W.mg_of X G a_BadBlock) ⟨⟨ga_BadBlock, gg_BadBlock, eC_BadBlock, hd_BadBlock, cl_BadBlock, ns_get, ns_tk, mo_BadBlock⟩, ki_BadBlock⟩ (.cons (PySem.W.mg_of X G a_NotMade) ⟨⟨ga_NotMade, gg_NotMade, eC_NotMade, hd_NotMade, cl_NotMade, ns_get, ns_tk, mo_NotMade⟩, ki_NotMade⟩ .nil))))))) ?_
  walk_at "hu"
theorem h_is_BadDesign {P : Params} {h : Heap} {mg : Str → Option Value} (X : (tpx.heap_39 P).In h) (G : h.Ns mainGlobals mg) : IsT (tpx.heap_39 P) mg "BadDesign" is_BadDesign := by
  refine @Hush.hu _ (by
  refine' g0_is_BadDesign X G ?ns_get ?ns_tk ?a_WindowError ?a_BadState ?a_BadEntry ?a_BadDesign ?a_BadBlock ?a_NotMade ?eC_WindowError ?ga_WindowError ?gg_WindowError ?hd_WindowError ?cl_WindowError ?mo_WindowError ?ki_WindowError ?eC_BadState ?ga_BadState ?gg_BadState ?hd_BadState ?cl_BadState ?mo_BadState ?ki_BadState ?eC_BadEntry ?ga_BadEntry ?gg_BadEntry ?hd_BadEntry ?cl_BadEntry ?mo_BadEntry ?ki_BadEntry ?eC_BadDesign ?ga_BadDesign ?gg_BadDesign ?hd_BadDesign ?cl_BadDesign ?mo_BadDesign ?ki_BadDesign ?eC_BadBlock ?ga_BadBlock ?gg_BadBlock ?hd_BadBlock ?cl_BadBlock ?mo_BadBlock ?ki_BadBlock ?eC_NotMade ?ga_NotMade ?gg_NotMade ?hd_NotMade ?cl_NotMade ?mo_NotMade ?ki_NotMade
  case ns_get => k_is
  case ns_tk => k_is
  case a_WindowError => k_is
  case a_BadState => k_is
  case a_BadEntry => k_is
  case a_BadDesign => k_is
  case a_BadBlock => k_is
  case a_NotMade => k_is
  case eC_WindowError => k_is
  case ga_WindowError => k_is
  case gg_WindowError => k_is
  case hd_WindowError => k_is
  case cl_WindowError => k_is
  case mo_WindowError => k_is
  case ki_WindowError => first | kit_is | kernel_rfl
  case eC_BadState => k_is
  case ga_BadState => k_is
  case gg_BadState => k_is
  case hd_BadState => k_is
  case cl_BadState => k_is
  case mo_BadState => k_is
  case ki_BadState => first | kit_is | kernel_rfl
  case eC_BadEntry => k_is
  case ga_BadEntry => k_is
  case gg_BadEntry => k_is
  case hd_BadEntry => k_is
  case cl_BadEntry => k_is
  case mo_BadEntry => k_is
  case ki_BadEntry => first | kit_is | kernel_rfl
  case eC_BadDesign => k_is
  case ga_BadDesign => k_is
  case gg_BadDesign => k_is
  case hd_BadDesign => k_is
  case cl_BadDesign => k_is
  case mo_BadDesign => k_is
  case ki_BadDesign => first | kit_is | kernel_rfl
  case eC_BadBlock => k_is
  case ga_BadBlock => k_is
  case gg_BadBlock => k_is
  case hd_BadBlock => k_is
  case cl_BadBlock => k_is
  case mo_BadBlock => k_is
  case ki_BadBlock => first | kit_is | kernel_rfl
  case eC_NotMade => k_is
  case ga_NotMade => k_is
  case gg_NotMade => k_is
  case hd_NotMade => k_is
  case cl_NotMade => k_is
  case mo_NotMade => k_is
  case ki_NotMade => first | kit_is | kernel_rfl) ?_
  walk_at "hu"
theorem g0_is_BadEntry {K : PySem.W.Frag} {h : Heap} {mg : Str → Option Value} {C_WindowError : Addr} {C_BadState : Addr} {C_BadEntry : Addr} {C_BadDesign : Addr} {C_BadBlock : Addr} {C_NotMade : Addr} (X : K.In h) (G : h.Ns mainGlobals mg) (ns_get : PySem.W.specialIn K (.builtin "object.__class__") "__get__" = some (some (.builtin "getset_descriptor.__get__"))) (ns_tk : PySem.W.takesIn K (.builtin "object.__class__") = some true) (a_WindowError : PySem.W.nsIn K mainGlobals "WindowError" = some (some (.ref C_WindowError))) (a_BadState : PySem.W.nsIn K mainGlobals "BadState" = some (some (.ref C_BadState))) (a_BadEntry : PySem.W.nsIn K mainGlobals "BadEntry" = some (some (.ref C_BadEntry))) (a_BadDesign : PySem.W.nsIn K mainGlobals "BadDesign" = some (some (.ref C_BadDesign))) (a_BadBlock : PySem.W.nsIn K mainGlobals "BadBlock" = some (some (.ref C_BadBlock))) (a_NotMade : PySem.W.nsIn K mainGlobals "NotMade" = some (some (.ref C_NotMade))) (eC_WindowError : PySem.W.subIn K (.ref C_WindowError) (.type "BaseException") = some true) (ga_WindowError : PySem.W.findIn K (.ref C_WindowError) "__getattribute__" = some (some (.builtin "BaseException.__getattribute__"))) (gg_WindowError : PySem.W.findIn K (.ref C_WindowError) "__getattr__" = some none) (hd_WindowError : PySem.W.hasDictIn K C_WindowError = true) (cl_WindowError : PySem.W.findIn K (.ref C_WindowError) "__class__" = some (some (.builtin "object.__class__"))) (mo_WindowError : PySem.W.mroIn K C_WindowError (.type "object") = some true) (ki_WindowError : PySem.W.kitOne K (.ref C_WindowError) (.ref C_BadEntry) = some false) (eC_BadState : PySem.W.subIn K (.ref C_BadState) (.type "BaseException") = some true) (ga_BadState : PySem.W.findIn K (.ref C_BadState) "__getattribute__" = some (some (.builtin "BaseException.__getattribute__"))) (gg_BadState : PySem.W.findIn K (.ref C_BadState) "__getattr__" = some none) (hd_BadState : PySem.W.hasDictIn K C_BadState = true) (cl_BadState : PySem.W.findIn K (.ref C_BadState) "__class__" = some (some (.builtin "object.__class__"))) (mo_BadState : PySem.W.mroIn K C_BadState (.type "object") = some true) (ki_BadState : PySem.W.kitOne K (.ref C_BadState) (.ref C_BadEntry) = some false) (eC_BadEntry : PySem.W.subIn K (.ref C_BadEntry) (.type "BaseException") = some true) (ga_BadEntry : PySem.W.findIn K (.ref C_BadEntry) "__getattribute__" = some (some (.builtin "BaseException.__getattribute__"))) (gg_BadEntry : PySem.W.findIn K (.ref C_BadEntry) "__getattr__" = some none) (hd_BadEntry : PySem.W.hasDictIn K C_BadEntry = true) (cl_BadEntry : PySem.W.findIn K (.ref C_BadEntry) "__class__" = some (some (.builtin "object.__class__"))) (mo_BadEntry : PySem.W.mroIn K C_BadEntry (.type "object") = some true) (ki_BadEntry : PySem.W.kitOne K (.ref C_BadEntry) (.ref C_BadEntry) = some true) (eC_BadDesign : PySem.W.subIn K (.ref C_BadDesign) (.type "BaseException") = some true) (ga_BadDesign : PySem.W.findIn K (.ref C_BadDesign) "__getattribute__" = some (some (.builtin "BaseException.__getattribute__"))) (gg_BadDesign : PySem.W.findIn K (.ref C_BadDesign) "__getattr__" = some none) (hd_BadDesign : PySem.W.hasDictIn K C_BadDesign = true) (cl_BadDesign : PySem.W.findIn K (.ref C_BadDesign) "__class__" = some (some (.builtin "object.__class__"))) (mo_BadDesign : PySem.W.mroIn K C_BadDesign (.type "object") = some true) (ki_BadDesign : PySem.W.kitOne K (.ref C_BadDesign) (.ref C_BadEntry) = some false) (eC_BadBlock : PySem.W.subIn K (.ref C_BadBlock) (.type "BaseException") = some true) (ga_BadBlock : PySem.W.findIn K (.ref C_BadBlock) "__getattribute__" = some (some (.builtin "BaseException.__getattribute__"))) (gg_BadBlock : PySem.W.findIn K (.ref C_BadBlock) "__getattr__" = some none) (hd_BadBlock : PySem.W.hasDictIn K C_BadBlock = true) (cl_BadBlock : PySem.W.findIn K (.ref C_BadBlock) "__class__" = some (some (.builtin "object.__class__"))) (mo_BadBlock : PySem.W.mroIn K C_BadBlock (.type "object") = some true) (ki_BadBlock : PySem.W.kitOne K (.ref C_BadBlock) (.ref C_BadEntry) = some false) (eC_NotMade : PySem.W.subIn K (.ref C_NotMade) (.type "BaseException") = some true) (ga_NotMade : PySem.W.findIn K (.ref C_NotMade) "__getattribute__" = some (some (.builtin "BaseException.__getattribute__"))) (gg_NotMade : PySem.W.findIn K (.ref C_NotMade) "__getattr__" = some none) (hd_NotMade : PySem.W.hasDictIn K C_NotMade = true) (cl_NotMade : PySem.W.findIn K (.ref C_NotMade) "__class__" = some (some (.builtin "object.__class__"))) (mo_NotMade : PySem.W.mroIn K C_NotMade (.type "object") = some true) (ki_NotMade : PySem.W.kitOne K (.ref C_NotMade) (.ref C_BadEntry) = some false) : IsT K mg "BadEntry" is_BadEntry := by
  refine Hush.hu (isT_of (PySem.W.mg_of X G a_BadEntry) (.cons (PySem.W.mg_of X G a_WindowError) ⟨⟨ga_WindowError, gg_WindowError, eC_WindowError, hd_WindowError, cl_WindowError, ns_get, ns_tk, mo_WindowError⟩, ki_WindowError⟩ (.cons (PySem.W.mg_of X G a_BadState) ⟨⟨ga_BadState, gg_BadState, eC_BadState, hd_BadState, cl_BadState, ns_get, ns_tk, mo_BadState⟩, ki_BadState⟩ (.cons (PySem.W.mg_of X G a_BadEntry) ⟨⟨ga_BadEntry, gg_BadEntry, eC_BadEntry, hd_BadEntry, cl_BadEntry, ns_get, ns_tk, mo_BadEntry⟩, ki_BadEntry⟩ (.cons (PySem.W.mg_of X G a_BadDesign) ⟨⟨ga_BadDesign, gg_BadDesign, eC_BadDesign, hd_BadDesign, cl_BadDesign, ns_get, ns_tk, mo_BadDesign⟩, ki_BadDesign⟩ (.cons (PySem.W.mg_of X G a_BadBlock) ⟨⟨ga_BadBlock, gg_BadBlock, eC_BadBlock, hd_BadBlock, cl_BadBlock, ns_get, ns_tk, mo_BadBlock⟩, ki_BadBlock⟩ (.cons (PySem.W.mg_of X G a_NotMade) ⟨⟨ga_NotMade, gg_NotMade, eC_NotMade, hd_NotMade, cl_NotMade, ns_get, ns_tk, mo_NotMade⟩, ki_NotMade⟩ .nil))))))) ?_
  walk_at "hu"
theorem h_is_BadEntry {P : Params} {h : Heap} {mg : Str → Option Value} (X : (tpx.heap_39 P).In h) (G : h.Ns mainGlobals mg) : IsT (tpx.heap_39 P) mg "BadEntry" is_BadEntry := by
  refine @Hush.hu _ (by
  refine' g0_is_BadEntry X G ?ns_get ?ns_tk ?a_WindowError ?a_BadState ?a_BadEntry ?a_BadDesign ?a_BadBlock ?a_NotMade ?eC_WindowError ?ga_WindowError ?gg_WindowError ?hd_WindowError ?cl_WindowError ?mo_WindowError ?ki_WindowError ?eC_BadState ?ga_BadState ?gg_BadState ?hd_BadState ?cl_BadState ?mo_BadState ?ki_BadState ?eC_BadEntry ?ga_BadEntry ?gg_BadEntry ?hd_BadEntry ?cl_BadEntry ?mo_BadEntry ?ki_BadEntry ?eC_BadDesign ?ga_BadDesign ?gg_BadDesign ?hd_BadDesign ?cl_BadDesign ?mo_BadDesign ?ki_BadDesign ?eC_BadBlock ?ga_BadBlock ?gg_BadBlock ?hd_BadBlock ?cl_BadBlock ?mo_BadBlock ?ki_BadBlock ?eC_NotMade ?ga_NotMade ?gg_NotMade ?hd_NotMade ?cl_NotMade ?mo_NotMade ?ki_NotMade
  case ns_get => k_is
  case ns_tk => k_is
  case a_WindowError => k_is
  case a_BadState => k_is
  case a_BadEntry => k_is
  case a_BadDesign => k_is
  case a_BadBlock => k_is
  case a_NotMade => k_is
  case eC_WindowError => k_is
  case ga_WindowError => k_is
  case gg_WindowError => k_is
  case hd_WindowError => k_is
  case cl_WindowError => k_is
  case mo_WindowError => k_is
  case ki_WindowError => first | kit_is | kernel_rfl
  case eC_BadState => k_is
  case ga_BadState => k_is
  case gg_BadState => k_is
  case hd_BadState => k_is
  case cl_BadState => k_is
  case mo_BadState => k_is
  case ki_BadState => first | kit_is | kernel_rfl
  case eC_BadEntry => k_is
  case ga_BadEntry => k_is
  case gg_BadEntry => k_is
  case hd_BadEntry => k_is
  case cl_BadEntry => k_is
  case mo_BadEntry => k_is
  case ki_BadEntry => first | kit_is | kernel_rfl
  case eC_BadDesign => k_is
  case ga_BadDesign => k_is
  case gg_BadDesign => k_is
  case hd_BadDesign => k_is
  case cl_BadDesign => k_is
  case mo_BadDesign => k_is
  case ki_BadDesign => first | kit_is | kernel_rfl
  case eC_BadBlock => k_is
  case ga_BadBlock => k_is
  case gg_BadBlock => k_is
  case hd_BadBlock => k_is
  case cl_BadBlock => k_is
  case mo_BadBlock => k_is
  case ki_BadBlock => first | kit_is | kernel_rfl
  case eC_NotMade => k_is
  case ga_NotMade => k_is
  case gg_NotMade => k_is
  case hd_NotMade => k_is
  case cl_NotMade => k_is
  case mo_NotMade => k_is
  case ki_NotMade => first | kit_is | kernel_rfl) ?_
  walk_at "hu"
theorem g0_is_BadState {K : PySem.W.Frag} {h : Heap} {mg : Str → Option Value} {C_WindowError : Addr} {C_BadState : Addr} {C_BadEntry : Addr} {C_BadDesign : Addr} {C_BadBlock : Addr} {C_NotMade : Addr} (X : K.In h) (G : h.Ns mainGlobals mg) (ns_get : PySem.W.specialIn K (.builtin "object.__class__") "__get__" = some (some (.builtin "getset_descriptor.__get__"))) (ns_tk : PySem.W.takesIn K (.builtin "object.__class__") = some true) (a_WindowError : PySem.W.nsIn K mainGlobals "WindowError" = some (some (.ref C_WindowError))) (a_BadState : PySem.W.nsIn K mainGlobals "BadState" = some (some (.ref C_BadState))) (a_BadEntry : PySem.W.nsIn K mainGlobals "BadEntry" = some (some (.ref C_BadEntry))) (a_BadDesign : PySem.W.nsIn K mainGlobals "BadDesign" = some (some (.ref C_BadDesign))) (a_BadBlock : PySem.W.nsIn K mainGlobals "BadBlock" = some (some (.ref C_BadBlock))) (a_NotMade : PySem.W.nsIn K mainGlobals "NotMade" = some (some (.ref C_NotMade))) (eC_WindowError : PySem.W.subIn K (.ref C_WindowError) (.type "BaseException") = some true) (ga_WindowError : PySem.W.findIn K (.ref C_WindowError) "__getattribute__" = some (some (.builtin "BaseException.__getattribute__"))) (gg_WindowError : PySem.W.findIn K (.ref C_WindowError) "__getattr__" = some none) (hd_WindowError : PySem.W.hasDictIn K C_WindowError = true) (cl_WindowError : PySem.W.findIn K (.ref C_WindowError) "__class__" = some (some (.builtin "object.__class__"))) (mo_WindowError : PySem.W.mroIn K C_WindowError (.type "object") = some true) (ki_WindowError : PySem.W.kitOne K (.ref C_WindowError) (.ref C_BadState) = some false) (eC_BadState : PySem.W.subIn K (.ref C_BadState) (.type "BaseException") = some true) (ga_BadState : PySem.W.findIn K (.ref C_BadState) "__getattribute__" = some (some (.builtin "BaseException.__getattribute__"))) (gg_BadState : PySem.W.findIn K (.ref C_BadState) "__getattr__" = some none) (hd_BadState : PySem.W.hasDictIn K C_BadState = true) (cl_BadState : PySem.W.findIn K (.ref C_BadState) "__class__" = some (some (.builtin "object.__class__"))) (mo_BadState : PySem.W.mroIn K C_BadState (.type "object") = some true) (ki_BadState : PySem.W.kitOne K (.ref C_BadState) (.ref C_BadState) = some true) (eC_BadEntry : PySem.W.subIn K (.ref C_BadEntry) (.type "BaseException") = some true) (ga_BadEntry : PySem.W.findIn K (.ref C_BadEntry) "__getattribute__" = some (some (.builtin "BaseException.__getattribute__"))) (gg_BadEntry : PySem.W.findIn K (.ref C_BadEntry) "__getattr__" = some none) (hd_BadEntry : PySem.W.hasDictIn K C_BadEntry = true) (cl_BadEntry : PySem.W.findIn K (.ref C_BadEntry) "__class__" = some (some (.builtin "object.__class__"))) (mo_BadEntry : PySem.W.mroIn K C_BadEntry (.type "object") = some true) (ki_BadEntry : PySem.W.kitOne K (.ref C_BadEntry) (.ref C_BadState) = some false) (eC_BadDesign : PySem.W.subIn K (.ref C_BadDesign) (.type "BaseException") = some true) (ga_BadDesign : PySem.W.findIn K (.ref C_BadDesign) "__getattribute__" = some (some (.builtin "BaseException.__getattribute__"))) (gg_BadDesign : PySem.W.findIn K (.ref C_BadDesign) "__getattr__" = some none) (hd_BadDesign : PySem.W.hasDictIn K C_BadDesign = true) (cl_BadDesign : PySem.W.findIn K (.ref C_BadDesign) "__class__" = some (some (.builtin "object.__class__"))) (mo_BadDesign : PySem.W.mroIn K C_BadDesign (.type "object") = some true) (ki_BadDesign : PySem.W.kitOne K (.ref C_BadDesign) (.ref C_BadState) = some false) (eC_BadBlock : PySem.W.subIn K (.ref C_BadBlock) (.type "BaseException") = some true) (ga_BadBlock : PySem.W.findIn K (.ref C_BadBlock) "__getattribute__" = some (some (.builtin "BaseException.__getattribute__"))) (gg_BadBlock : PySem.W.findIn K (.ref C_BadBlock) "__getattr__" = some none) (hd_BadBlock : PySem.W.hasDictIn K C_BadBlock = true) (cl_BadBlock : PySem.W.findIn K (.ref C_BadBlock) "__class__" = some (some (.builtin "object.__class__"))) (mo_BadBlock : PySem.W.mroIn K C_BadBlock (.type "object") = some true) (ki_BadBlock : PySem.W.kitOne K (.ref C_BadBlock) (.ref C_BadState) = some false) (eC_NotMade : PySem.W.subIn K (.ref C_NotMade) (.type "BaseException") = some true) (ga_NotMade : PySem.W.findIn K (.ref C_NotMade) "__getattribute__" = some (some (.builtin "BaseException.__getattribute__"))) (gg_NotMade : PySem.W.findIn K (.ref C_NotMade) "__getattr__" = some none) (hd_NotMade : PySem.W.hasDictIn K C_NotMade = true) (cl_NotMade : PySem.W.findIn K (.ref C_NotMade) "__class__" = some (some (.builtin "object.__class__"))) (mo_NotMade : PySem.W.mroIn K C_NotMade (.type "object") = some true) (ki_NotMade : PySem.W.kitOne K (.ref C_NotMade) (.ref C_BadState) = some false) : IsT K mg "BadState" is_BadState := by
  refine Hush.hu (isT_of (PySem.W.mg_of X G a_BadState) (.cons (PySem.W.mg_of X G a_WindowError) ⟨⟨ga_WindowError, gg_WindowError, eC_WindowError, hd_WindowError, cl_WindowError, ns_get, ns_tk, mo_WindowError⟩, ki_WindowError⟩ (.cons (PySem.W.mg_of X G a_BadState) ⟨⟨ga_BadState, gg_BadState, eC_BadState, hd_BadState, cl_BadState, ns_get, ns_tk, mo_BadState⟩, ki_BadState⟩ (.cons (PySem.W.mg_of X G a_BadEntry) ⟨⟨ga_BadEntry, gg_BadEntry, eC_BadEntry, hd_BadEntry, cl_BadEntry, ns_get, ns_tk, mo_BadEntry⟩, ki_BadEntry⟩ (.cons (PySem.W.mg_of X G a_BadDesign) ⟨⟨ga_BadDesign, gg_BadDesign, eC_BadDesign, hd_BadDesign, cl_BadDesign, ns_get, ns_tk, mo_BadDesign⟩, ki_BadDesign⟩ (.cons (PySem.W.mg_of X G a_BadBlock) ⟨⟨ga_BadBlock, gg_BadBlock, eC_BadBlock, hd_BadBlock, cl_BadBlock, ns_get, ns_tk, mo_BadBlock⟩, ki_BadBlock⟩ (.cons (PySem.W.mg_of X G a_NotMade) ⟨⟨ga_NotMade, gg_NotMade, eC_NotMade, hd_NotMade, cl_NotMade, ns_get, ns_tk, mo_NotMade⟩, ki_NotMade⟩ .nil))))))) ?_
  walk_at "hu"
theorem h_is_BadState {P : Params} {h : Heap} {mg : Str → Option Value} (X : (tpx.heap_39 P).In h) (G : h.Ns mainGlobals mg) : IsT (tpx.heap_39 P) mg "BadState" is_BadState := by
  refine @Hush.hu _ (by
  refine' g0_is_BadState X G ?ns_get ?ns_tk ?a_WindowError ?a_BadState ?a_BadEntry ?a_BadDesign ?a_BadBlock ?a_NotMade ?eC_WindowError ?ga_WindowError ?gg_WindowError ?hd_WindowError ?cl_WindowError ?mo_WindowError ?ki_WindowError ?eC_BadState ?ga_BadState ?gg_BadState ?hd_BadState ?cl_BadState ?mo_BadState ?ki_BadState ?eC_BadEntry ?ga_BadEntry ?gg_BadEntry ?hd_BadEntry ?cl_BadEntry ?mo_BadEntry ?ki_BadEntry ?eC_BadDesign ?ga_BadDesign ?gg_BadDesign ?hd_BadDesign ?cl_BadDesign ?mo_BadDesign ?ki_BadDesign ?eC_BadBlock ?ga_BadBlock ?gg_BadBlock ?hd_BadBlock ?cl_BadBlock ?mo_BadBlock ?ki_BadBlock ?eC_NotMade ?ga_NotMade ?gg_NotMade ?hd_NotMade ?cl_NotMade ?mo_NotMade ?ki_NotMade
  case ns_get => k_is
  case ns_tk => k_is
  case a_WindowError => k_is
  case a_BadState => k_is
  case a_BadEntry => k_is
  case a_BadDesign => k_is
  case a_BadBlock => k_is
  case a_NotMade => k_is
  case eC_WindowError => k_is
  case ga_WindowError => k_is
  case gg_WindowError => k_is
  case hd_WindowError => k_is
  case cl_WindowError => k_is
  case mo_WindowError => k_is
  case ki_WindowError => first | kit_is | kernel_rfl
  case eC_BadState => k_is
  case ga_BadState => k_is
  case gg_BadState => k_is
  case hd_BadState => k_is
  case cl_BadState => k_is
  case mo_BadState => k_is
  case ki_BadState => first | kit_is | kernel_rfl
  case eC_BadEntry => k_is
  case ga_BadEntry => k_is
  case gg_BadEntry => k_is
  case hd_BadEntry => k_is
  case cl_BadEntry => k_is
  case mo_BadEntry => k_is
  case ki_BadEntry => first | kit_is | kernel_rfl
  case eC_BadDesign => k_is
  case ga_BadDesign => k_is
  case gg_BadDesign => k_is
  case hd_BadDesign => k_is
  case cl_BadDesign => k_is
  case mo_BadDesign => k_is
  case ki_BadDesign => first | kit_is | kernel_rfl
  case eC_BadBlock => k_is
  case ga_BadBlock => k_is
  case gg_BadBlock => k_is
  case hd_BadBlock => k_is
  case cl_BadBlock => k_is
  case mo_BadBlock => k_is
  case ki_BadBlock => first | kit_is | kernel_rfl
  case eC_NotMade => k_is
  case ga_NotMade => k_is
  case gg_NotMade => k_is
  case hd_NotMade => k_is
  case cl_NotMade => k_is
  case mo_NotMade => k_is
  case ki_NotMade => first | kit_is | kernel_rfl) ?_
  walk_at "hu"
theorem g0_is_NotMade {K : PySem.W.Frag} {h : Heap} {mg : Str → Option Value} {C_WindowError : Addr} {C_BadState : Addr} {C_BadEntry : Addr} {C_BadDesign : Addr} {C_BadBlock : Addr} {C_NotMade : Addr} (X : K.In h) (G : h.Ns mainGlobals mg) (ns_get : PySem.W.specialIn K (.builtin "object.__class__") "__get__" = some (some (.builtin "getset_descriptor.__get__"))) (ns_tk : PySem.W.takesIn K (.builtin "object.__class__") = some true) (a_WindowError : PySem.W.nsIn K mainGlobals "WindowError" = some (some (.ref C_WindowError))) (a_BadState : PySem.W.nsIn K mainGlobals "BadState" = some (some (.ref C_BadState))) (a_BadEntry : PySem.W.nsIn K mainGlobals "BadEntry" = some (some (.ref C_BadEntry))) (a_BadDesign : PySem.W.nsIn K mainGlobals "BadDesign" = some (some (.ref C_BadDesign))) (a_BadBlock : PySem.W.nsIn K mainGlobals "BadBlock" = some (some (.ref C_BadBlock))) (a_NotMade : PySem.W.nsIn K mainGlobals "NotMade" = some (some (.ref C_NotMade))) (eC_WindowError : PySem.W.subIn K (.ref C_WindowError) (.type "BaseException") = some true) (ga_WindowError : PySem.W.findIn K (.ref C_WindowError) "__getattribute__" = some (some (.builtin "BaseException.__getattribute__"))) (gg_WindowError : PySem.W.findIn K (.ref C_WindowError) "__getattr__" = some none) (hd_WindowError : PySem.W.hasDictIn K C_WindowError = true) (cl_WindowError : PySem.W.findIn K (.ref C_WindowError) "__class__" = some (some (.builtin "object.__class__"))) (mo_WindowError : PySem.W.mroIn K C_WindowError (.type "object") = some true) (ki_WindowError : PySem.W.kitOne K (.ref C_WindowError) (.ref C_NotMade) = some false) (eC_BadState : PySem.W.subIn K (.ref C_BadState) (.type "BaseException") = some true) (ga_BadState : PySem.W.findIn K (.ref C_BadState) "__getattribute__" = some (some (.builtin "BaseException.__getattribute__"))) (gg_BadState : PySem.W.findIn K (.ref C_BadState) "__getattr__" = some none) (hd_BadState : PySem.W.hasDictIn K C_BadState = true) (cl_BadState : PySem.W.findIn K (.ref C_BadState) "__class__" = some (some (.builtin "object.__class__"))) (mo_BadState : PySem.W.mroIn K C_BadState (.type "object") = some true) (ki_BadState : PySem.W.kitOne K (.ref C_BadState) (.ref C_NotMade) = some false) (eC_BadEntry : PySem.W.subIn K (.ref C_BadEntry) (.type "BaseException") = some true) (ga_BadEntry : PySem.W.findIn K (.ref C_BadEntry) "__getattribute__" = some (some (.builtin "BaseException.__getattribute__"))) (gg_BadEntry : PySem.W.findIn K (.ref C_BadEntry) "__getattr__" = some none) (hd_BadEntry : PySem.W.hasDictIn K C_BadEntry = true) (cl_BadEntry : PySem.W.findIn K (.ref C_BadEntry) "__class__" = some (some (.builtin "object.__class__"))) (mo_BadEntry : PySem.W.mroIn K C_BadEntry (.type "object") = some true) (ki_BadEntry : PySem.W.kitOne K (.ref C_BadEntry) (.ref C_NotMade) = some false) (eC_BadDesign : PySem.W.subIn K (.ref C_BadDesign) (.type "BaseException") = some true) (ga_BadDesign : PySem.W.findIn K (.ref C_BadDesign) "__getattribute__" = some (some (.builtin "BaseException.__getattribute__"))) (gg_BadDesign : PySem.W.findIn K (.ref C_BadDesign) "__getattr__" = some none) (hd_BadDesign : PySem.W.hasDictIn K C_BadDesign = true) (cl_BadDesign : PySem.W.findIn K (.ref C_BadDesign) "__class__" = some (some (.builtin "object.__class__"))) (mo_BadDesign : PySem.W.mroIn K C_BadDesign (.type "object") = some true) (ki_BadDesign : PySem.W.kitOne K (.ref C_BadDesign) (.ref C_NotMade) = some false) (eC_BadBlock : PySem.W.subIn K (.ref C_BadBlock) (.type "BaseException") = some true) (ga_BadBlock : PySem.W.findIn K (.ref C_BadBlock) "__getattribute__" = some (some (.builtin "BaseException.__getattribute__"))) (gg_BadBlock : PySem.W.findIn K (.ref C_BadBlock) "__getattr__" = some none) (hd_BadBlock : PySem.W.hasDictIn K C_BadBlock = true) (cl_BadBlock : PySem.W.findIn K (.ref C_BadBlock) "__class__" = some (some (.builtin "object.__class__"))) (mo_BadBlock : PySem.W.mroIn K C_BadBlock (.type "object") = some true) (ki_BadBlock : PySem.W.kitOne K (.ref C_BadBlock) (.ref C_NotMade) = some false) (eC_NotMade : PySem.W.subIn K (.ref C_NotMade) (.type "BaseException") = some true) (ga_NotMade : PySem.W.findIn K (.ref C_NotMade) "__getattribute__" = some (some (.builtin "BaseException.__getattribute__"))) (gg_NotMade : PySem.W.findIn K (.ref C_NotMade) "__getattr__" = some none) (hd_NotMade : PySem.W.hasDictIn K C_NotMade = true) (cl_NotMade : PySem.W.findIn K (.ref C_NotMade) "__class__" = some (some (.builtin "object.__class__"))) (mo_NotMade : PySem.W.mroIn K C_NotMade (.type "object") = some true) (ki_NotMade : PySem.W.kitOne K (.ref C_NotMade) (.ref C_NotMade) = some true) : IsT K mg "NotMade" is_NotMade := by
  refine Hush.hu (isT_of (PySem.W.mg_of X G a_NotMade) (.cons (PySem.W.mg_of X G a_WindowError) ⟨⟨ga_WindowError, gg_WindowError, eC_WindowError, hd_WindowError, cl_WindowError, ns_get, ns_tk, mo_WindowError⟩, ki_WindowError⟩ (.cons (PySem.W.mg_of X G a_BadState) ⟨⟨ga_BadState, gg_BadState, eC_BadState, hd_BadState, cl_BadState, ns_get, ns_tk, mo_BadState⟩, ki_BadState⟩ (.cons (PySem.W.mg_of X G a_BadEntry) ⟨⟨ga_BadEntry, gg_BadEntry, eC_BadEntry, hd_BadEntry, cl_BadEntry, ns_get, ns_tk, mo_BadEntry⟩, ki_BadEntry⟩ (.cons (PySem.W.mg_of X G a_BadDesign) ⟨⟨ga_BadDesign, gg_BadDesign, eC_BadDesign, hd_BadDesign, cl_BadDesign, ns_get, ns_tk, mo_BadDesign⟩, ki_BadDesign⟩ (.cons (PySem.W.mg_of X G a_BadBlock) ⟨⟨ga_BadBlock, gg_BadBlock, eC_BadBlock, hd_BadBlock, cl_BadBlock, ns_get, ns_tk, mo_BadBlock⟩, ki_BadBlock⟩ (.cons (PySem.W.mg_of X G a_NotMade) ⟨⟨ga_NotMade, gg_NotMade, eC_NotMade, hd_NotMade, cl_NotMade, ns_get, ns_tk, mo_NotMade⟩, ki_NotMade⟩ .nil))))))) ?_
  walk_at "hu"
theorem h_is_NotMade {P : Params} {h : Heap} {mg : Str → Option Value} (X : (tpx.heap_39 P).In h) (G : h.Ns mainGlobals mg) : IsT (tpx.heap_39 P) mg "NotMade" is_NotMade := by
  refine @Hush.hu _ (by
  refine' g0_is_NotMade X G ?ns_get ?ns_tk ?a_WindowError ?a_BadState ?a_BadEntry ?a_BadDesign ?a_BadBlock ?a_NotMade ?eC_WindowError ?ga_WindowError ?gg_WindowError ?hd_WindowError ?cl_WindowError ?mo_WindowError ?ki_WindowError ?eC_BadState ?ga_BadState ?gg_BadState ?hd_BadState ?cl_BadState ?mo_BadState ?ki_BadState ?eC_BadEntry ?ga_BadEntry ?gg_BadEntry ?hd_BadEntry ?cl_BadEntry ?mo_BadEntry ?ki_BadEntry ?eC_BadDesign ?ga_BadDesign ?gg_BadDesign ?hd_BadDesign ?cl_BadDesign ?mo_BadDesign ?ki_BadDesign ?eC_BadBlock ?ga_BadBlock ?gg_BadBlock ?hd_BadBlock ?cl_BadBlock ?mo_BadBlock ?ki_BadBlock ?eC_NotMade ?ga_NotMade ?gg_NotMade ?hd_NotMade ?cl_NotMade ?mo_NotMade ?ki_NotMade
  case ns_get => k_is
  case ns_tk => k_is
  case a_WindowError => k_is
  case a_BadState => k_is
  case a_BadEntry => k_is
  case a_BadDesign => k_is
  case a_BadBlock => k_is
  case a_NotMade => k_is
  case eC_WindowError => k_is
  case ga_WindowError => k_is
  case gg_WindowError => k_is
  case hd_WindowError => k_is
  case cl_WindowError => k_is
  case mo_WindowError => k_is
  case ki_WindowError => first | kit_is | kernel_rfl
  case eC_BadState => k_is
  case ga_BadState => k_is
  case gg_BadState => k_is
  case hd_BadState => k_is
  case cl_BadState => k_is
  case mo_BadState => k_is
  case ki_BadState => first | kit_is | kernel_rfl
  case eC_BadEntry => k_is
  case ga_BadEntry => k_is
  case gg_BadEntry => k_is
  case hd_BadEntry => k_is
  case cl_BadEntry => k_is
  case mo_BadEntry => k_is
  case ki_BadEntry => first | kit_is | kernel_rfl
  case eC_BadDesign => k_is
  case ga_BadDesign => k_is
  case gg_BadDesign => k_is
  case hd_BadDesign => k_is
  case cl_BadDesign => k_is
  case mo_BadDesign => k_is
  case ki_BadDesign => first | kit_is | kernel_rfl
  case eC_BadBlock => k_is
  case ga_BadBlock => k_is
  case gg_BadBlock => k_is
  case hd_BadBlock => k_is
  case cl_BadBlock => k_is
  case mo_BadBlock => k_is
  case ki_BadBlock => first | kit_is | kernel_rfl
  case eC_NotMade => k_is
  case ga_NotMade => k_is
  case gg_NotMade => k_is
  case hd_NotMade => k_is
  case cl_NotMade => k_is
  case mo_NotMade => k_is
  case ki_NotMade => first | kit_is | kernel_rfl) ?_
  walk_at "hu"
theorem h_f__law_taken {P : Params} {h : Heap} {mg : Str → Option Value} (X : (tpx.heap_39 P).In h) (G : h.Ns mainGlobals mg) : Df (tpx.heap_39 P) mg "_law_taken" "_law_taken" (top 121) ["_law_row", "_law_many"] := by
  refine @Hush.hu _ (by
  refine' df_mk X G ?a ?b ?c ?d (fun _ _ _ _ _ _ us hl => match us, hl with | [_, _], _ => rfl)
  case a => k_is
  case b => k_is
  case c => k_is
  case d => k_is) ?_
  walk_at "hu"
theorem h_f__law_pick {P : Params} {h : Heap} {mg : Str → Option Value} (X : (tpx.heap_39 P).In h) (G : h.Ns mainGlobals mg) : Df (tpx.heap_39 P) mg "_law_pick" "_law_pick" (top 122) ["_law_row", "_law_kinds"] := by
  refine @Hush.hu _ (by
  refine' df_mk X G ?a ?b ?c ?d (fun _ _ _ _ _ _ us hl => match us, hl with | [_, _], _ => rfl)
  case a => k_is
  case b => k_is
  case c => k_is
  case d => k_is) ?_
  walk_at "hu"
theorem h_f__law_bare {P : Params} {h : Heap} {mg : Str → Option Value} (X : (tpx.heap_39 P).In h) (G : h.Ns mainGlobals mg) : Df (tpx.heap_39 P) mg "_law_bare" "_law_bare" (top 132) ["_law_row"] := by
  refine @Hush.hu _ (by
  refine' df_mk X G ?a ?b ?c ?d (fun _ _ _ _ _ _ us hl => match us, hl with | [_], _ => rfl)
  case a => k_is
  case b => k_is
  case c => k_is
  case d => k_is) ?_
  walk_at "hu"
theorem h_f__law_entry {P : Params} {h : Heap} {mg : Str → Option Value} (X : (tpx.heap_39 P).In h) (G : h.Ns mainGlobals mg) : Df (tpx.heap_39 P) mg "_law_entry" "_law_entry" (top 133) ["_law_row"] := by
  refine @Hush.hu _ (by
  refine' df_mk X G ?a ?b ?c ?d (fun _ _ _ _ _ _ us hl => match us, hl with | [_], _ => rfl)
  case a => k_is
  case b => k_is
  case c => k_is
  case d => k_is) ?_
  walk_at "hu"
theorem h_f__law_more {P : Params} {h : Heap} {mg : Str → Option Value} (X : (tpx.heap_39 P).In h) (G : h.Ns mainGlobals mg) : Df (tpx.heap_39 P) mg "_law_more" "_law_more" (top 134) ["_law_row", "_law_design", "_law_entries", "_law_many"] := by
  refine @Hush.hu _ (by
  refine' df_mk X G ?a ?b ?c ?d (fun _ _ _ _ _ _ us hl => match us, hl with | [_, _, _, _], _ => rfl)
  case a => k_is
  case b => k_is
  case c => k_is
  case d => k_is) ?_
  walk_at "hu"
theorem h_f__law_home {P : Params} {h : Heap} {mg : Str → Option Value} (X : (tpx.heap_39 P).In h) (G : h.Ns mainGlobals mg) : Df (tpx.heap_39 P) mg "_law_home" "_law_home" (top 126) ["_law_design", "_law_kind"] := by
  refine @Hush.hu _ (by
  refine' df_mk X G ?a ?b ?c ?d (fun _ _ _ _ _ _ us hl => match us, hl with | [_, _], _ => rfl)
  case a => k_is
  case b => k_is
  case c => k_is
  case d => k_is) ?_
  walk_at "hu"
theorem h_f__law_needs {P : Params} {h : Heap} {mg : Str → Option Value} (X : (tpx.heap_39 P).In h) (G : h.Ns mainGlobals mg) : Df (tpx.heap_39 P) mg "_law_needs" "_law_needs" (top 127) ["_law_design"] := by
  refine @Hush.hu _ (by
  refine' df_mk X G ?a ?b ?c ?d (fun _ _ _ _ _ _ us hl => match us, hl with | [_], _ => rfl)
  case a => k_is
  case b => k_is
  case c => k_is
  case d => k_is) ?_
  walk_at "hu"
theorem h_f__law_number {P : Params} {h : Heap} {mg : Str → Option Value} (X : (tpx.heap_39 P).In h) (G : h.Ns mainGlobals mg) : Df (tpx.heap_39 P) mg "_law_number" "_law_number" (top 124) ["_law_event"] := by
  refine @Hush.hu _ (by
  refine' df_mk X G ?a ?b ?c ?d (fun _ _ _ _ _ _ us hl => match us, hl with | [_], _ => rfl)
  case a => k_is
  case b => k_is
  case c => k_is
  case d => k_is) ?_
  walk_at "hu"
theorem h_f__law_store {P : Params} {h : Heap} {mg : Str → Option Value} (X : (tpx.heap_39 P).In h) (G : h.Ns mainGlobals mg) : Df (tpx.heap_39 P) mg "_law_store" "_law_store" (top 125) ["_law_first", "_law_second"] := by
  refine @Hush.hu _ (by
  refine' df_mk X G ?a ?b ?c ?d (fun _ _ _ _ _ _ us hl => match us, hl with | [_, _], _ => rfl)
  case a => k_is
  case b => k_is
  case c => k_is
  case d => k_is) ?_
  walk_at "hu"
theorem h_f__law_by_table {P : Params} {h : Heap} {mg : Str → Option Value} (X : (tpx.heap_39 P).In h) (G : h.Ns mainGlobals mg) : Df (tpx.heap_39 P) mg "_law_by_table" "_law_by_table" (top 129) ["_law_table", "_law_entry_here"] := by
  refine @Hush.hu _ (by
  refine' df_mk X G ?a ?b ?c ?d (fun _ _ _ _ _ _ us hl => match us, hl with | [_, _], _ => rfl)
  case a => k_is
  case b => k_is
  case c => k_is
  case d => k_is) ?_
  walk_at "hu"
theorem h_f__law_can {P : Params} {h : Heap} {mg : Str → Option Value} (X : (tpx.heap_39 P).In h) (G : h.Ns mainGlobals mg) : Df (tpx.heap_39 P) mg "_law_can" "_law_can" (top 128) ["_law_entry_here"] := by
  refine @Hush.hu _ (by
  refine' df_mk X G ?a ?b ?c ?d (fun _ _ _ _ _ _ us hl => match us, hl with | [_], _ => rfl)
  case a => k_is
  case b => k_is
  case c => k_is
  case d => k_is) ?_
  walk_at "hu"
theorem h_f__law_forced {P : Params} {h : Heap} {mg : Str → Option Value} (X : (tpx.heap_39 P).In h) (G : h.Ns mainGlobals mg) : Df (tpx.heap_39 P) mg "_law_forced" "_law_forced" (top 130) ["_law_design", "_law_entry_here"] := by
  refine @Hush.hu _ (by
  refine' df_mk X G ?a ?b ?c ?d (fun _ _ _ _ _ _ us hl => match us, hl with | [_, _], _ => rfl)
  case a => k_is
  case b => k_is
  case c => k_is
  case d => k_is) ?_
  walk_at "hu"
theorem h_f__law_missing {P : Params} {h : Heap} {mg : Str → Option Value} (X : (tpx.heap_39 P).In h) (G : h.Ns mainGlobals mg) : Df (tpx.heap_39 P) mg "_law_missing" "_law_missing" (top 131) ["_law_design"] := by
  refine @Hush.hu _ (by
  refine' df_mk X G ?a ?b ?c ?d (fun _ _ _ _ _ _ us hl => match us, hl with | [_], _ => rfl)
  case a => k_is
  case b => k_is
  case c => k_is
  case d => k_is) ?_
  walk_at "hu"
theorem h_f__law_right {P : Params} {h : Heap} {mg : Str → Option Value} (X : (tpx.heap_39 P).In h) (G : h.Ns mainGlobals mg) : Df (tpx.heap_39 P) mg "_law_right" "_law_right" (top 135) ["_law_row"] := by
  refine @Hush.hu _ (by
  refine' df_mk X G ?a ?b ?c ?d (fun _ _ _ _ _ _ us hl => match us, hl with | [_], _ => rfl)
  case a => k_is
  case b => k_is
  case c => k_is
  case d => k_is) ?_
  walk_at "hu"
theorem h_f_is_list {P : Params} {h : Heap} {mg : Str → Option Value} (X : (tpx.heap_39 P).In h) (G : h.Ns mainGlobals mg) : Df (tpx.heap_39 P) mg "is_list" "is_list" (top 4) ["value", "least", "most"] := by
  refine @Hush.hu _ (by
  refine' df_mk X G ?a ?b ?c ?d (fun _ _ _ _ _ _ us hl => match us, hl with | [_, _, _], _ => rfl)
  case a => k_is
  case b => k_is
  case c => k_is
  case d => k_is) ?_
  walk_at "hu"
theorem h_f_is_kind {P : Params} {h : Heap} {mg : Str → Option Value} (X : (tpx.heap_39 P).In h) (G : h.Ns mainGlobals mg) : Df (tpx.heap_39 P) mg "is_kind" "is_kind" (top 36) ["value"] := by
  refine @Hush.hu _ (by
  refine' df_mk X G ?a ?b ?c ?d (fun _ _ _ _ _ _ us hl => match us, hl with | [_], _ => rfl)
  case a => k_is
  case b => k_is
  case c => k_is
  case d => k_is) ?_
  walk_at "hu"
theorem h_f_is_event {P : Params} {h : Heap} {mg : Str → Option Value} (X : (tpx.heap_39 P).In h) (G : h.Ns mainGlobals mg) : Df (tpx.heap_39 P) mg "is_event" "is_event" (top 35) ["value"] := by
  refine @Hush.hu _ (by
  refine' df_mk X G ?a ?b ?c ?d (fun _ _ _ _ _ _ us hl => match us, hl with | [_], _ => rfl)
  case a => k_is
  case b => k_is
  case c => k_is
  case d => k_is) ?_
  walk_at "hu"
theorem h_f_is_entry {P : Params} {h : Heap} {mg : Str → Option Value} (X : (tpx.heap_39 P).In h) (G : h.Ns mainGlobals mg) : Df (tpx.heap_39 P) mg "is_entry" "is_entry" (top 38) ["value"] := by
  refine @Hush.hu _ (by
  refine' df_mk X G ?a ?b ?c ?d (fun _ _ _ _ _ _ us hl => match us, hl with | [_], _ => rfl)
  case a => k_is
  case b => k_is
  case c => k_is
  case d => k_is) ?_
  walk_at "hu"
theorem h_f_is_table {P : Params} {h : Heap} {mg : Str → Option Value} (X : (tpx.heap_39 P).In h) (G : h.Ns mainGlobals mg) : Df (tpx.heap_39 P) mg "is_table" "is_table" (top 41) ["value"] := by
  refine @Hush.hu _ (by
  refine' df_mk X G ?a ?b ?c ?d (fun _ _ _ _ _ _ us hl => match us, hl with | [_], _ => rfl)
  case a => k_is
  case b => k_is
  case c => k_is
  case d => k_is) ?_
  walk_at "hu"
theorem h_f_is_integer {P : Params} {h : Heap} {mg : Str → Option Value} (X : (tpx.heap_39 P).In h) (G : h.Ns mainGlobals mg) : Df (tpx.heap_39 P) mg "is_integer" "is_integer" (top 2) ["value"] := by
  refine @Hush.hu _ (by
  refine' df_mk X G ?a ?b ?c ?d (fun _ _ _ _ _ _ us hl => match us, hl with | [_], _ => rfl)
  case a => k_is
  case b => k_is
  case c => k_is
  case d => k_is) ?_
  walk_at "hu"
theorem h_f_is_in {P : Params} {h : Heap} {mg : Str → Option Value} (X : (tpx.heap_39 P).In h) (G : h.Ns mainGlobals mg) : Df (tpx.heap_39 P) mg "is_in" "is_in" (top 3) ["value", "least", "most"] := by
  refine @Hush.hu _ (by
  refine' df_mk X G ?a ?b ?c ?d (fun _ _ _ _ _ _ us hl => match us, hl with | [_, _, _], _ => rfl)
  case a => k_is
  case b => k_is
  case c => k_is
  case d => k_is) ?_
  walk_at "hu"
theorem h_f_is_design {P : Params} {h : Heap} {mg : Str → Option Value} (X : (tpx.heap_39 P).In h) (G : h.Ns mainGlobals mg) : Df (tpx.heap_39 P) mg "is_design" "is_design" (top 42) ["value"] := by
  refine @Hush.hu _ (by
  refine' df_mk X G ?a ?b ?c ?d (fun _ _ _ _ _ _ us hl => match us, hl with | [_], _ => rfl)
  case a => k_is
  case b => k_is
  case c => k_is
  case d => k_is) ?_
  walk_at "hu"
theorem h_f_need_design {P : Params} {h : Heap} {mg : Str → Option Value} (X : (tpx.heap_39 P).In h) (G : h.Ns mainGlobals mg) : Df (tpx.heap_39 P) mg "need_design" "need_design" (top 43) ["design"] := by
  refine @Hush.hu _ (by
  refine' df_mk X G ?a ?b ?c ?d (fun _ _ _ _ _ _ us hl => match us, hl with | [_], _ => rfl)
  case a => k_is
  case b => k_is
  case c => k_is
  case d => k_is) ?_
  walk_at "hu"
theorem h_f_home_in {P : Params} {h : Heap} {mg : Str → Option Value} (X : (tpx.heap_39 P).In h) (G : h.Ns mainGlobals mg) : Df (tpx.heap_39 P) mg "home_in" "home_in" (top 44) ["design", "kind"] := by
  refine @Hush.hu _ (by
  refine' df_mk X G ?a ?b ?c ?d (fun _ _ _ _ _ _ us hl => match us, hl with | [_, _], _ => rfl)
  case a => k_is
  case b => k_is
  case c => k_is
  case d => k_is) ?_
  walk_at "hu"
theorem h_f_needs_in {P : Params} {h : Heap} {mg : Str → Option Value} (X : (tpx.heap_39 P).In h) (G : h.Ns mainGlobals mg) : Df (tpx.heap_39 P) mg "needs_in" "needs_in" (top 66) ["design"] := by
  refine @Hush.hu _ (by
  refine' df_mk X G ?a ?b ?c ?d (fun _ _ _ _ _ _ us hl => match us, hl with | [_], _ => rfl)
  case a => k_is
  case b => k_is
  case c => k_is
  case d => k_is) ?_
  walk_at "hu"
theorem h_f_number_of {P : Params} {h : Heap} {mg : Str → Option Value} (X : (tpx.heap_39 P).In h) (G : h.Ns mainGlobals mg) : Df (tpx.heap_39 P) mg "number_of" "number_of" (top 37) ["event"] := by
  refine @Hush.hu _ (by
  refine' df_mk X G ?a ?b ?c ?d (fun _ _ _ _ _ _ us hl => match us, hl with | [_], _ => rfl)
  case a => k_is
  case b => k_is
  case c => k_is
  case d => k_is) ?_
  walk_at "hu"
theorem h_f_holds_always {P : Params} {h : Heap} {mg : Str → Option Value} (X : (tpx.heap_39 P).In h) (G : h.Ns mainGlobals mg) : Df (tpx.heap_39 P) mg "holds_always" "holds_always" (top 67) ["relation", "first", "second"] := by
  refine @Hush.hu _ (by
  refine' df_mk X G ?a ?b ?c ?d (fun _ _ _ _ _ _ us hl => match us, hl with | [_, _, _], _ => rfl)
  case a => k_is
  case b => k_is
  case c => k_is
  case d => k_is) ?_
  walk_at "hu"
theorem h_f_forces {P : Params} {h : Heap} {mg : Str → Option Value} (X : (tpx.heap_39 P).In h) (G : h.Ns mainGlobals mg) : Df (tpx.heap_39 P) mg "forces" "forces" (top 68) ["strong", "weak"] := by
  refine @Hush.hu _ (by
  refine' df_mk X G ?a ?b ?c ?d (fun _ _ _ _ _ _ us hl => match us, hl with | [_, _], _ => rfl)
  case a => k_is
  case b => k_is
  case c => k_is
  case d => k_is) ?_
  walk_at "hu"
theorem h_f_forced_by_table {P : Params} {h : Heap} {mg : Str → Option Value} (X : (tpx.heap_39 P).In h) (G : h.Ns mainGlobals mg) : Df (tpx.heap_39 P) mg "forced_by_table" "forced_by_table" (top 69) ["design", "entry"] := by
  refine @Hush.hu _ (by
  refine' df_mk X G ?a ?b ?c ?d (fun _ _ _ _ _ _ us hl => match us, hl with | [_, _], _ => rfl)
  case a => k_is
  case b => k_is
  case c => k_is
  case d => k_is) ?_
  walk_at "hu"
theorem h_f_can_hold {P : Params} {h : Heap} {mg : Str → Option Value} (X : (tpx.heap_39 P).In h) (G : h.Ns mainGlobals mg) : Df (tpx.heap_39 P) mg "can_hold" "can_hold" (top 40) ["entry"] := by
  refine @Hush.hu _ (by
  refine' df_mk X G ?a ?b ?c ?d (fun _ _ _ _ _ _ us hl => match us, hl with | [_], _ => rfl)
  case a => k_is
  case b => k_is
  case c => k_is
  case d => k_is) ?_
  walk_at "hu"
theorem h_f_forced_in {P : Params} {h : Heap} {mg : Str → Option Value} (X : (tpx.heap_39 P).In h) (G : h.Ns mainGlobals mg) : Df (tpx.heap_39 P) mg "forced_in" "forced_in" (top 70) ["design", "entry"] := by
  refine @Hush.hu _ (by
  refine' df_mk X G ?a ?b ?c ?d (fun _ _ _ _ _ _ us hl => match us, hl with | [_, _], _ => rfl)
  case a => k_is
  case b => k_is
  case c => k_is
  case d => k_is) ?_
  walk_at "hu"
theorem h_f_missing_in {P : Params} {h : Heap} {mg : Str → Option Value} (X : (tpx.heap_39 P).In h) (G : h.Ns mainGlobals mg) : Df (tpx.heap_39 P) mg "missing_in" "missing_in" (top 71) ["design"] := by
  refine @Hush.hu _ (by
  refine' df_mk X G ?a ?b ?c ?d (fun _ _ _ _ _ _ us hl => match us, hl with | [_], _ => rfl)
  case a => k_is
  case b => k_is
  case c => k_is
  case d => k_is) ?_
  walk_at "hu"
theorem h_f_is_right {P : Params} {h : Heap} {mg : Str → Option Value} (X : (tpx.heap_39 P).In h) (G : h.Ns mainGlobals mg) : Df (tpx.heap_39 P) mg "is_right" "is_right" (top 82) ["design"] := by
  refine @Hush.hu _ (by
  refine' df_mk X G ?a ?b ?c ?d (fun _ _ _ _ _ _ us hl => match us, hl with | [_], _ => rfl)
  case a => k_is
  case b => k_is
  case c => k_is
  case d => k_is) ?_
  walk_at "hu"
theorem h_f__law_wrong {P : Params} {h : Heap} {mg : Str → Option Value} (X : (tpx.heap_39 P).In h) (G : h.Ns mainGlobals mg) : Df (tpx.heap_39 P) mg "_law_wrong" "_law_wrong" (top 136) ["_law_work"] := by
  refine @Hush.hu _ (by
  refine' df_mk X G ?a ?b ?c ?d (fun _ _ _ _ _ _ us hl => match us, hl with | [_], _ => rfl)
  case a => k_is
  case b => k_is
  case c => k_is
  case d => k_is) ?_
  walk_at "hu"
theorem h_f_need_two {P : Params} {h : Heap} {mg : Str → Option Value} (X : (tpx.heap_39 P).In h) (G : h.Ns mainGlobals mg) : Df (tpx.heap_39 P) mg "need_two" "need_two" (top 97) ["one", "other"] := by
  refine @Hush.hu _ (by
  refine' df_mk X G ?a ?b ?c ?d (fun _ _ _ _ _ _ us hl => match us, hl with | [_, _], _ => rfl)
  case a => k_is
  case b => k_is
  case c => k_is
  case d => k_is) ?_
  walk_at "hu"
theorem h_f_barred_row {P : Params} {h : Heap} {mg : Str → Option Value} (X : (tpx.heap_39 P).In h) (G : h.Ns mainGlobals mg) : Df (tpx.heap_39 P) mg "barred_row" "barred_row" (top 106) ["one", "other"] := by
  refine @Hush.hu _ (by
  refine' df_mk X G ?a ?b ?c ?d (fun _ _ _ _ _ _ us hl => match us, hl with | [_, _], _ => rfl)
  case a => k_is
  case b => k_is
  case c => k_is
  case d => k_is) ?_
  walk_at "hu"
theorem h_f_lets_by_all {P : Params} {h : Heap} {mg : Str → Option Value} (X : (tpx.heap_39 P).In h) (G : h.Ns mainGlobals mg) : Df (tpx.heap_39 P) mg "lets_by_all" "lets_by_all" (top 105) ["one", "other"] := by
  refine @Hush.hu _ (by
  refine' df_mk X G ?a ?b ?c ?d (fun _ _ _ _ _ _ us hl => match us, hl with | [_, _], _ => rfl)
  case a => k_is
  case b => k_is
  case c => k_is
  case d => k_is) ?_
  walk_at "hu"
theorem h_f_freest {P : Params} {h : Heap} {mg : Str → Option Value} (X : (tpx.heap_39 P).In h) (G : h.Ns mainGlobals mg) : Df (tpx.heap_39 P) mg "freest" "freest" (top 107) ["design"] := by
  refine @Hush.hu _ (by
  refine' df_mk X G ?a ?b ?c ?d (fun _ _ _ _ _ _ us hl => match us, hl with | [_], _ => rfl)
  case a => k_is
  case b => k_is
  case c => k_is
  case d => k_is) ?_
  walk_at "hu"
theorem h_f_unclean {P : Params} {h : Heap} {mg : Str → Option Value} (X : (tpx.heap_39 P).In h) (G : h.Ns mainGlobals mg) : Df (tpx.heap_39 P) mg "unclean" "unclean" (top 119) ["design"] := by
  refine @Hush.hu _ (by
  refine' df_mk X G ?a ?b ?c ?d (fun _ _ _ _ _ _ us hl => match us, hl with | [_], _ => rfl)
  case a => k_is
  case b => k_is
  case c => k_is
  case d => k_is) ?_
  walk_at "hu"
theorem h_f_need_entry {P : Params} {h : Heap} {mg : Str → Option Value} (X : (tpx.heap_39 P).In h) (G : h.Ns mainGlobals mg) : Df (tpx.heap_39 P) mg "need_entry" "need_entry" (top 39) ["entry"] := by
  refine @Hush.hu _ (by
  refine' df_mk X G ?a ?b ?c ?d (fun _ _ _ _ _ _ us hl => match us, hl with | [_], _ => rfl)
  case a => k_is
  case b => k_is
  case c => k_is
  case d => k_is) ?_
  walk_at "hu"
theorem h_f_shown {P : Params} {h : Heap} {mg : Str → Option Value} (X : (tpx.heap_39 P).In h) (G : h.Ns mainGlobals mg) : Df (tpx.heap_39 P) mg "shown" "shown" (top 84) ["design", "need"] := by
  refine @Hush.hu _ (by
  refine' df_mk X G ?a ?b ?c ?d (fun _ _ _ _ _ _ us hl => match us, hl with | [_, _], _ => rfl)
  case a => k_is
  case b => k_is
  case c => k_is
  case d => k_is) ?_
  walk_at "hu"
theorem h_f_effective_width {P : Params} {h : Heap} {mg : Str → Option Value} (X : (tpx.heap_39 P).In h) (G : h.Ns mainGlobals mg) : Df (tpx.heap_39 P) mg "effective_width" "effective_width" (top 104) ["design"] := by
  refine @Hush.hu _ (by
  refine' df_mk X G ?a ?b ?c ?d (fun _ _ _ _ _ _ us hl => match us, hl with | [_], _ => rfl)
  case a => k_is
  case b => k_is
  case c => k_is
  case d => k_is) ?_
  walk_at "hu"
theorem h_f_is_word {P : Params} {h : Heap} {mg : Str → Option Value} (X : (tpx.heap_39 P).In h) (G : h.Ns mainGlobals mg) : Df (tpx.heap_39 P) mg "is_word" "is_word" (top 20) ["value"] := by
  refine @Hush.hu _ (by
  refine' df_mk X G ?a ?b ?c ?d (fun _ _ _ _ _ _ us hl => match us, hl with | [_], _ => rfl)
  case a => k_is
  case b => k_is
  case c => k_is
  case d => k_is) ?_
  walk_at "hu"
theorem h_f_are_words {P : Params} {h : Heap} {mg : Str → Option Value} (X : (tpx.heap_39 P).In h) (G : h.Ns mainGlobals mg) : Df (tpx.heap_39 P) mg "are_words" "are_words" (top 24) ["value", "least", "most"] := by
  refine @Hush.hu _ (by
  refine' df_mk X G ?a ?b ?c ?d (fun _ _ _ _ _ _ us hl => match us, hl with | [_, _, _], _ => rfl)
  case a => k_is
  case b => k_is
  case c => k_is
  case d => k_is) ?_
  walk_at "hu"
theorem h_f_need_state {P : Params} {h : Heap} {mg : Str → Option Value} (X : (tpx.heap_39 P).In h) (G : h.Ns mainGlobals mg) : Df (tpx.heap_39 P) mg "need_state" "need_state" (top 25) ["state"] := by
  refine @Hush.hu _ (by
  refine' df_mk X G ?a ?b ?c ?d (fun _ _ _ _ _ _ us hl => match us, hl with | [_], _ => rfl)
  case a => k_is
  case b => k_is
  case c => k_is
  case d => k_is) ?_
  walk_at "hu"
theorem h_f_are_registers {P : Params} {h : Heap} {mg : Str → Option Value} (X : (tpx.heap_39 P).In h) (G : h.Ns mainGlobals mg) : Df (tpx.heap_39 P) mg "are_registers" "are_registers" (top 21) ["values"] := by
  refine @Hush.hu _ (by
  refine' df_mk X G ?a ?b ?c ?d (fun _ _ _ _ _ _ us hl => match us, hl with | [_], _ => rfl)
  case a => k_is
  case b => k_is
  case c => k_is
  case d => k_is) ?_
  walk_at "hu"
theorem h_f_is_instruction_up_to {P : Params} {h : Heap} {mg : Str → Option Value} (X : (tpx.heap_39 P).In h) (G : h.Ns mainGlobals mg) : Df (tpx.heap_39 P) mg "is_instruction_up_to" "is_instruction_up_to" (top 22) ["value", "most"] := by
  refine @Hush.hu _ (by
  refine' df_mk X G ?a ?b ?c ?d (fun _ _ _ _ _ _ us hl => match us, hl with | [_, _], _ => rfl)
  case a => k_is
  case b => k_is
  case c => k_is
  case d => k_is) ?_
  walk_at "hu"
theorem h_f_is_instruction {P : Params} {h : Heap} {mg : Str → Option Value} (X : (tpx.heap_39 P).In h) (G : h.Ns mainGlobals mg) : Df (tpx.heap_39 P) mg "is_instruction" "is_instruction" (top 23) ["value"] := by
  refine @Hush.hu _ (by
  refine' df_mk X G ?a ?b ?c ?d (fun _ _ _ _ _ _ us hl => match us, hl with | [_], _ => rfl)
  case a => k_is
  case b => k_is
  case c => k_is
  case d => k_is) ?_
  walk_at "hu"
theorem h_f_is_block {P : Params} {h : Heap} {mg : Str → Option Value} (X : (tpx.heap_39 P).In h) (G : h.Ns mainGlobals mg) : Df (tpx.heap_39 P) mg "is_block" "is_block" (top 100) ["value"] := by
  refine @Hush.hu _ (by
  refine' df_mk X G ?a ?b ?c ?d (fun _ _ _ _ _ _ us hl => match us, hl with | [_], _ => rfl)
  case a => k_is
  case b => k_is
  case c => k_is
  case d => k_is) ?_
  walk_at "hu"
theorem h_f_count_rows {P : Params} {h : Heap} {mg : Str → Option Value} (X : (tpx.heap_39 P).In h) (G : h.Ns mainGlobals mg) : Df (tpx.heap_39 P) mg "count_rows" "count_rows" (top 108) ["design", "block", "state"] := by
  refine @Hush.hu _ (by
  refine' df_mk X G ?a ?b ?c ?d (fun _ _ _ _ _ _ us hl => match us, hl with | [_, _, _], _ => rfl)
  case a => k_is
  case b => k_is
  case c => k_is
  case d => k_is) ?_
  walk_at "hu"
theorem h_f_stops_cleanly {P : Params} {h : Heap} {mg : Str → Option Value} (X : (tpx.heap_39 P).In h) (G : h.Ns mainGlobals mg) : Df (tpx.heap_39 P) mg "stops_cleanly" "stops_cleanly" (top 118) ["design"] := by
  refine @Hush.hu _ (by
  refine' df_mk X G ?a ?b ?c ?d (fun _ _ _ _ _ _ us hl => match us, hl with | [_], _ => rfl)
  case a => k_is
  case b => k_is
  case c => k_is
  case d => k_is) ?_
  walk_at "hu"
theorem h_f_missing {P : Params} {h : Heap} {mg : Str → Option Value} (X : (tpx.heap_39 P).In h) (G : h.Ns mainGlobals mg) : Df (tpx.heap_39 P) mg "missing" "missing" (top 81) ["design"] := by
  refine @Hush.hu _ (by
  refine' df_mk X G ?a ?b ?c ?d (fun _ _ _ _ _ _ us hl => match us, hl with | [_], _ => rfl)
  case a => k_is
  case b => k_is
  case c => k_is
  case d => k_is) ?_
  walk_at "hu"
theorem h_f_first_shown {P : Params} {h : Heap} {mg : Str → Option Value} (X : (tpx.heap_39 P).In h) (G : h.Ns mainGlobals mg) : Df (tpx.heap_39 P) mg "first_shown" "first_shown" (top 85) ["design"] := by
  refine @Hush.hu _ (by
  refine' df_mk X G ?a ?b ?c ?d (fun _ _ _ _ _ _ us hl => match us, hl with | [_], _ => rfl)
  case a => k_is
  case b => k_is
  case c => k_is
  case d => k_is) ?_
  walk_at "hu"
theorem h_f_least_table {P : Params} {h : Heap} {mg : Str → Option Value} (X : (tpx.heap_39 P).In h) (G : h.Ns mainGlobals mg) : Df (tpx.heap_39 P) mg "least_table" "least_table" (top 83) ["design"] := by
  refine @Hush.hu _ (by
  refine' df_mk X G ?a ?b ?c ?d (fun _ _ _ _ _ _ us hl => match us, hl with | [_], _ => rfl)
  case a => k_is
  case b => k_is
  case c => k_is
  case d => k_is) ?_
  walk_at "hu"
theorem h_f__law_state {P : Params} {h : Heap} {mg : Str → Option Value} (X : (tpx.heap_39 P).In h) (G : h.Ns mainGlobals mg) : Df (tpx.heap_39 P) mg "_law_state" "_law_state" (top 123) ["_law_row"] := by
  refine @Hush.hu _ (by
  refine' df_mk X G ?a ?b ?c ?d (fun _ _ _ _ _ _ us hl => match us, hl with | [_], _ => rfl)
  case a => k_is
  case b => k_is
  case c => k_is
  case d => k_is) ?_
  walk_at "hu"
theorem tp_all {P : Params} {h : Heap} {mg : Str → Option Value} (X : (tpx.heap_39 P).In h) (G : h.Ns mainGlobals mg) : Tp PySem.Challenge.rw_windowbelt_k16_whole_frees_refused.prog (tpx.heap_39 P) mg := by
  refine Hush.hu (⟨h_n_all X G, h_n_any X G, h_n_bool X G, h_n_dict X G, h_n_int X G, h_n_isinstance X G, h_n_len X G, h_n_list X G, h_n_range X G, h_n_sorted X G, h_n_str X G, h_n_tuple X G, h_c_CELLS X G, h_c_EVENTS X G, h_c_KINDS X G, h_c_MOST_BLOCK X G, h_c_MOST_INSTRUCTIONS X G, h_c_MOST_SHOWN X G, h_c_MOST_WIDTH X G, h_c_REGISTERS X G, h_c_RELATIONS X G, h_c_STORES X G, h_c_WORDS X G, h_c_WRITING X G, h_e_BadBlock X G, h_e_BadDesign X G, h_e_BadEntry X G, h_e_BadState X G, h_e_NotMade X G, h_x_WindowError X G, h_is_BadBlock X G, h_is_BadDesign X G, h_is_BadEntry X G, h_is_BadState X G, h_is_NotMade X G, h_f__law_taken X G, h_f__law_pick X G, h_f__law_bare X G, h_f__law_entry X G, h_f__law_more X G, h_f__law_home X G, h_f__law_needs X G, h_f__law_number X G, h_f__law_store X G, h_f__law_by_table X G, h_f__law_can X G, h_f__law_forced X G, h_f__law_missing X G, h_f__law_right X G, h_f_is_list X G, h_f_is_kind X G, h_f_is_event X G, h_f_is_entry X G, h_f_is_table X G, h_f_is_integer X G, h_f_is_in X G, h_f_is_design X G, h_f_need_design X G, h_f_home_in X G, h_f_needs_in X G, h_f_number_of X G, h_f_holds_always X G, h_f_forces X G, h_f_forced_by_table X G, h_f_can_hold X G, h_f_forced_in X G, h_f_missing_in X G, h_f_is_right X G, h_f__law_wrong X G, h_f_need_two X G, h_f_barred_row X G, h_f_lets_by_all X G, h_f_freest X G, h_f_unclean X G, h_f_need_entry X G, h_f_shown X G, h_f_effective_width X G, h_f_is_word X G, h_f_are_words X G, h_f_need_state X G, h_f_are_registers X G, h_f_is_instruction_up_to X G, h_f_is_instruction X G, h_f_is_block X G, h_f_count_rows X G, h_f_stops_cleanly X G, h_f_missing X G, h_f_first_shown X G, h_f_least_table X G, h_f__law_state X G⟩) ?_
  walk_at "hu"
theorem law_mk {l : PySem.W.OpenLaw} {w : World} {K : PySem.W.Frag} {h : Heap} {mg : Str → Option Value} {fa : Addr} {f : Addr} {oc kV dc pm ct : Value} {od an : Option Addr} {sl : Array (Option Value)} {lc Pt : Addr} {lccl : Value} {lcdd : Option Addr} {lvs : Array Value} {lcsl : Array (Option Value)} (X : K.In h) (G : h.Ns mainGlobals mg) (hfa : mg "law" = some (.ref fa)) (own : LamX.OwnTab K fa h) (T : Tp l.prog K mg) (qa : PySem.W.nsIn K mainGlobals "law" = some (some (.ref f))) (ql : K.lookup f = some ⟨oc, od, .func (PySem.W.fnOf "law" "law" (defArgs (top 137)) (defBody (top 137)) (defScope (top 137)) .none kV dc pm an (.ref lc) ct), sl⟩) (qc : PySem.W.codeIn K (.ref lc) "law" = true) (lC : K.lookup lc = some ⟨lccl, lcdd, .fields lvs, lcsl⟩) (lP : lvs[11]? = some (.ref Pt)) (lN : K.lookup Pt = none) (lH : PySem.W.codeHdIn K lc Pt = true) :
    LamX.LawAtS l w K CX0 11 63 "_law_script" mg fa h := by
  refine @Hush.hu _ (by
  have e := hfa.symm.trans (PySem.W.mg_of X G qa)
  cases e
  have hP := own lc Pt _ _ _ _ _ _ ql rfl rfl lC lP
  refine ⟨_, [(lc, Pt)], spLawT [(Pt, ("law.<locals>.<lambda>" : Str))] K, fun p hp => ?_, fun p hp => ?_, fun p hp => ?_, fun s v => .of_eq rfl, fun H a ns hl _ hH hS => ⟨a, ns, rfl, hS, hl, fun p hp => ?_, fun _ => rfl⟩, fun base _ _ hTB => ok_law T rfl (hTB _ (List.mem_singleton.mpr rfl)) ql qc fin⟩
  · rw [List.mem_singleton.mp hp]; exact hP
  · rw [List.mem_singleton.mp hp]; exact lN
  · rw [List.mem_singleton.mp hp]; exact PySem.W.codeHd_of_K X lH
  · rw [List.mem_singleton.mp hp]; exact LamX.TabS.nil (hH _ (List.mem_singleton.mpr rfl))) ?_
  walk_at "hu"
theorem law_at {w : World} {P : Params} {h : Heap} {mg : Str → Option Value} {fa : Addr} (X : (tpx.heap_39 P).In h) (G : h.Ns mainGlobals mg) (hfa : mg "law" = some (.ref fa)) (own : LamX.OwnTab (tpx.heap_39 P) fa h) : LamX.LawAtS PySem.Challenge.rw_windowbelt_k16_whole_frees_refused w (tpx.heap_39 P) CX0 11 63 "_law_script" mg fa h := by
  refine @Hush.hu _ (by
  refine' law_mk X G hfa own (tp_all X G) ?qa ?ql ?qc ?lC ?lP ?lN ?lH
  case qa => k_is
  case ql => k_is
  case qc => k_is
  case lC => k_is
  case lP => first | rfl | k_is
  case lN => first | rfl | k_is
  case lH => first | kernel_rfl | rfl | decide +kernel) ?_
  walk_at "hu"
end My
open PySem PySem.W PyProof.Rows
set_option maxRecDepth 100000 in
set_option maxHeartbeats 0 in
theorem PySem.Challenge.cw_windowbelt_k16_whole_frees_refused_holds : PySem.Challenge.rw_windowbelt_k16_whole_frees_refused.Holds := by
  refine My.tpx ?_
  refine LamX.walk_ofOwn (l := PySem.Challenge.rw_windowbelt_k16_whole_frees_refused) (n := 63) (k := 11) (x := "_law_script") (CX := fun _ => L2.CX0) rfl (by decide) rfl ⟨rfl, by decide, by decide⟩ (by decide +kernel) (fun w h Y => PySem.W.km_in_of Y) (fun w mg fa h Y KX G hmg own => My.law_at KX G hmg own) fun _ _ _ _ _ z => z
