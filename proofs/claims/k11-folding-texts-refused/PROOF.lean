import PyProof.Rows.All
import Wide.All
import OpenK.AllK
import Wide.FinOn
import HandS.ForMost
import HandS.ForExc
import HandS.Wide
import HandS.ExcInit
import HandS.ExcValue
import PyProof.Rows.RuleB_pow
import PyProof.NeKinds
import HandS.TupAny
import HandS.IsInst
import HandS.CallSlots
import HandS.Iter
import HandS.Zip
import HandS.Replace
import HandS.ReplaceList
import HandS.StrMore
import HandS.Star
import KE.GoesEnum
import HandS.SetIn
import HandS.Strs
import HandS.Defaults
import HandS.ExcOwn
import HandS.ExcIs
import HandS.ExcField
import KE.KExcIs
import HandS.TryOnly
import HandS.Style
import PyProof.ListStr
import HandS.More
import PyProof.InstNe
import PyProof.EqKinds
import HandS.SetFor
import HandS.ReplaceLit
import HandS.RaiseMore
import HandS.DictEq
import HandS.TryMany
import PySem.Challenge.RW_plaindoors_k11_folding_texts_refused
set_option Elab.async false
set_option linter.all false
set_option maxRecDepth 100000
set_option maxHeartbeats 4000000
/-! A plain layer over HandS: values as data, lists under construction in numbered places, draws from a jar. -/
namespace Pl
open PySem PySem.Spec PyProof.Rows L2 TL

/-- plain data -/
inductive D where
  | non | bl (b : Bool) | int (i : Int) | str (l : List Nat)
  | tup (ds : List D) | lst (ds : List D)
  | obj (C : Addr) (ns : List Str) (ds : List D)
  | dic (ks : List Key) (ds : List D)
  | scr (ds : List D)
  | ty (n : String) | cls (C : Addr)
  | jar
  | exn (a : Addr) (p : Option Addr) (ns : List Str) (ds : List D)
  | err (C : Addr) (ns : List Str) (ds : List D)
/-- what a name holds: data, or the thing under construction at a place -/
inductive U where
  | d (x : D) | r (i : Nat) | tup (us : List U)
/-- a thing under construction -/
inductive MO where
  | lst (ds : List D) | lsu (us : List U) | dic (ks : List Key) (ds : List D) | ins (C : Addr) (ns : List Str) (us : List U)
abbrev SS := List (Option MO)
abbrev Env := List (Option U)
/-- an exception: its class, its field -/
structure Ex where
  C : Addr
  f : Option (Str × D)

mutual
inductive Rep (K : PySem.W.Frag) (F : Hp) (J : Addr → Prop) : V → D → Prop
  | non : Rep K F J .non .non
  | bl {b : Bool} : Rep K F J (.bl b) (.bl b)
  | int {i : Int} : Rep K F J (.int i) (.int i)
  | str {x : Str} : Rep K F J (.str x) (.str (tl x))
  | tup {a : Addr} {vs : List V} {ds : List D} : SqT K F a vs → Reps K F J vs ds → Rep K F J (.ref a) (.tup ds)
  | lst {a : Addr} {vs : List V} {ds : List D} : F a = some (.lst vs) → Reps K F J vs ds → Rep K F J (.ref a) (.lst ds)
  | scr {a : Addr} {vs : List V} {ds : List D} : SqL K F a vs → Reps K F J vs ds → Rep K F J (.ref a) (.scr ds)
  | obj {a C dx : Addr} {ns : List Str} {vs : List V} {ds : List D} : F a = some (.ins C dx (ns.zip vs)) → ns.length = vs.length → Reps K F J vs ds → Rep K F J (.ref a) (.obj C ns ds)
  | dic {a : Addr} {ks : List Key} {vs : List V} {ds : List D} : F a = some (.dK (ks.zip vs)) → ks.length = vs.length → Reps K F J vs ds → Rep K F J (.ref a) (.dic ks ds)
  | ty {n : String} : Rep K F J (.ty n) (.ty n)
  | cls {C : Addr} : Rep K F J (.ref C) (.cls C)
  | jar {a : Addr} : J a → Rep K F J (.ref a) .jar
  | exn0 {a : Addr} : Rep K F J (.ref a) (.exn a none [] [])
  | exn1 {a p : Addr} {ns : List Str} {vs : List V} {ds : List D} : F p = some (.xd (ns.zip vs)) → ns.length = vs.length → Reps K F J vs ds → Rep K F J (.ref a) (.exn a (some p) ns ds)
  | err0 {a C : Addr} : F a = some (ExO (.ref C) a) → Rep K F J (.ref a) (.err C [] [])
  | err1 {a C p : Addr} {ns : List Str} {vs : List V} {ds : List D} : F a = some (exo a C (some p)) → F p = some (exd p (ns.zip vs)) → ns.length = vs.length → Reps K F J vs ds → Rep K F J (.ref a) (.err C ns ds)
inductive Reps (K : PySem.W.Frag) (F : Hp) (J : Addr → Prop) : List V → List D → Prop
  | nil : Reps K F J [] []
  | cons {v : V} {d : D} {vs : List V} {ds : List D} : Rep K F J v d → Reps K F J vs ds → Reps K F J (v :: vs) (d :: ds)
end

theorem sameT {K : PySem.W.Frag} {H H' : Hp} {a : Addr} {xs : List V} (e : Same H H') (h : SqT K H a xs) : SqT K H' a xs := by
  rcases h with (h | ⟨o, h⟩) | h
  · exact .inl (.inl (e _ _ h))
  · exact .inl (.inr ⟨o, e _ _ h⟩)
  · exact .inr h

mutual
theorem Rep.mono {K : PySem.W.Frag} {F F' : Hp} {J J' : Addr → Prop} (hF : Same F F') (hJ : ∀ a, J a → J' a) : ∀ {v : V} {d : D}, Rep K F J v d → Rep K F' J' v d
  | _, _, .non => .non
  | _, _, .bl => .bl
  | _, _, .int => .int
  | _, _, .str => .str
  | _, _, .tup h r => .tup (sameT hF h) (Reps.mono hF hJ r)
  | _, _, .lst h r => .lst (hF _ _ h) (Reps.mono hF hJ r)
  | _, _, .scr h r => .scr (hF.seq h) (Reps.mono hF hJ r)
  | _, _, .obj h l r => .obj (hF _ _ h) l (Reps.mono hF hJ r)
  | _, _, .dic h l r => .dic (hF _ _ h) l (Reps.mono hF hJ r)
  | _, _, .ty => .ty
  | _, _, .cls => .cls
  | _, _, .jar h => .jar (hJ _ h)
  | _, _, .exn0 => .exn0
  | _, _, .exn1 h l r => .exn1 (hF _ _ h) l (Reps.mono hF hJ r)
  | _, _, .err0 h => .err0 (hF _ _ h)
  | _, _, .err1 h h2 l r => .err1 (hF _ _ h) (hF _ _ h2) l (Reps.mono hF hJ r)
theorem Reps.mono {K : PySem.W.Frag} {F F' : Hp} {J J' : Addr → Prop} (hF : Same F F') (hJ : ∀ a, J a → J' a) : ∀ {vs : List V} {ds : List D}, Reps K F J vs ds → Reps K F' J' vs ds
  | _, _, .nil => .nil
  | _, _, .cons h r => .cons (Rep.mono hF hJ h) (Reps.mono hF hJ r)
end
theorem Reps.length {K : PySem.W.Frag} {F : Hp} {J : Addr → Prop} : ∀ {vs : List V} {ds : List D}, Reps K F J vs ds → vs.length = ds.length
  | _, _, .nil => rfl
  | _, _, .cons _ r => congrArg (· + 1) (Reps.length r)
theorem Reps.get {K : PySem.W.Frag} {F : Hp} {J : Addr → Prop} : ∀ {vs : List V} {ds : List D} {i : Nat} {d : D}, Reps K F J vs ds → ds[i]? = some d → ∃ v, vs[i]? = some v ∧ Rep K F J v d
  | _, _, i, d, .nil, e => by simp at e
  | _, _, 0, d, .cons h r, e => by simp at e; subst e; exact ⟨_, rfl, h⟩
  | _, _, i + 1, d, .cons h r, e => by
    obtain ⟨v, h1, h2⟩ := Reps.get (i := i) (d := d) r (by simpa using e)
    exact ⟨v, by simpa using h1, h2⟩
theorem Reps.app {K : PySem.W.Frag} {F : Hp} {J : Addr → Prop} : ∀ {vs ws : List V} {ds es : List D}, Reps K F J vs ds → Reps K F J ws es → Reps K F J (vs ++ ws) (ds ++ es)
  | _, _, _, _, .nil, s => s
  | _, _, _, _, .cons h r, s => .cons h (Reps.app r s)
theorem Reps.take {K : PySem.W.Frag} {F : Hp} {J : Addr → Prop} : ∀ {vs : List V} {ds : List D} (n : Nat), Reps K F J vs ds → Reps K F J (vs.take n) (ds.take n)
  | _, _, 0, _ => .nil
  | _, _, _ + 1, .nil => .nil
  | _, _, n + 1, .cons h r => .cons h (Reps.take n r)
theorem Reps.drop {K : PySem.W.Frag} {F : Hp} {J : Addr → Prop} : ∀ {vs : List V} {ds : List D} (n : Nat), Reps K F J vs ds → Reps K F J (vs.drop n) (ds.drop n)
  | _, _, 0, r => r
  | _, _, _ + 1, .nil => .nil
  | _, _, n + 1, .cons _ r => Reps.drop n r
theorem Reps.set {K : PySem.W.Frag} {F : Hp} {J : Addr → Prop} {v : V} {d : D} (h : Rep K F J v d) : ∀ {vs : List V} {ds : List D} (i : Nat), Reps K F J vs ds → Reps K F J (vs.set i v) (ds.set i d)
  | _, _, _, .nil => .nil
  | _, _, 0, .cons _ t => .cons h t
  | _, _, i + 1, .cons q t => .cons q (Reps.set h i t)

/-! ### the world behind the data -/
structure Wd where
  F : Hp
  J : Addr → Prop
  A : List (Option Addr)
  R : Hp
  n : Nat
  B : List Addr
def LIM : Nat := 2 ^ 200
/-- a jar of draws -/
def JarAt (n : Nat) (o : Option HO) : Prop := ∃ x y c : Int, o = some (.lst [.int x, .int y, .int c]) ∧ 0 ≤ x ∧ 0 ≤ y ∧ y < 2 ^ 200 ∧ 0 ≤ c ∧ c ≤ n
mutual
inductive RepV (K : PySem.W.Frag) (w : Wd) : V → U → Prop
  | d {v : V} {x : D} : Rep K w.F w.J v x → RepV K w v (.d x)
  | r {a : Addr} {i : Nat} : w.A[i]? = some (some a) → RepV K w (.ref a) (.r i)
  | tup {a : Addr} {vs : List V} {us : List U} : SqT K w.F a vs → RepVs K w vs us → RepV K w (.ref a) (.tup us)
inductive RepVs (K : PySem.W.Frag) (w : Wd) : List V → List U → Prop
  | nil : RepVs K w [] []
  | cons {v : V} {u : U} {vs : List V} {us : List U} : RepV K w v u → RepVs K w vs us → RepVs K w (v :: vs) (u :: us)
end
def RepU (K : PySem.W.Frag) (w : Wd) (v : V) : U → Prop
  | .d x => Rep K w.F w.J v x
  | .r i => ∃ a, w.A[i]? = some (some a) ∧ v = .ref a
  | .tup us => ∃ a vs, v = .ref a ∧ SqT K w.F a vs ∧ RepVs K w vs us
theorem RepV.u {K : PySem.W.Frag} {w : Wd} {v : V} {u : U} (h : RepV K w v u) : RepU K w v u := by
  cases h with
  | d h => exact h
  | r h => exact ⟨_, h, rfl⟩
  | tup h r => exact ⟨_, _, rfl, h, r⟩
theorem RepU.v {K : PySem.W.Frag} {w : Wd} {v : V} {u : U} (h : RepU K w v u) : RepV K w v u := by
  cases u with
  | d x => exact .d h
  | r i => obtain ⟨a, h, rfl⟩ := h; exact .r h
  | tup us => obtain ⟨a, vs, rfl, h, r⟩ := h; exact .tup h r
mutual
theorem RepV.gr {K : PySem.W.Frag} {w w' : Wd} (hF : Same w.F w'.F) (hJ : ∀ a, w.J a → w'.J a) (hA : ∀ (i : Nat) (a : Addr), w.A[i]? = some (some a) → w'.A[i]? = some (some a)) : ∀ {v : V} {u : U}, RepV K w v u → RepV K w' v u
  | _, _, .d h => .d (h.mono hF hJ)
  | _, _, .r h => .r (hA _ _ h)
  | _, _, .tup h r => .tup (sameT hF h) (RepVs.gr hF hJ hA r)
theorem RepVs.gr {K : PySem.W.Frag} {w w' : Wd} (hF : Same w.F w'.F) (hJ : ∀ a, w.J a → w'.J a) (hA : ∀ (i : Nat) (a : Addr), w.A[i]? = some (some a) → w'.A[i]? = some (some a)) : ∀ {vs : List V} {us : List U}, RepVs K w vs us → RepVs K w' vs us
  | _, _, .nil => .nil
  | _, _, .cons h r => .cons (RepV.gr hF hJ hA h) (RepVs.gr hF hJ hA r)
end
inductive RepUs (K : PySem.W.Frag) (w : Wd) : List V → List U → Prop
  | nil : RepUs K w [] []
  | cons {v : V} {u : U} {vs : List V} {us : List U} : RepU K w v u → RepUs K w vs us → RepUs K w (v :: vs) (u :: us)
theorem RepVs.us {K : PySem.W.Frag} {w : Wd} : ∀ {vs : List V} {us : List U}, RepVs K w vs us → RepUs K w vs us
  | _, _, .nil => .nil
  | _, _, .cons h r => .cons h.u r.us
theorem RepUs.vs {K : PySem.W.Frag} {w : Wd} : ∀ {vs : List V} {us : List U}, RepUs K w vs us → RepVs K w vs us
  | _, _, .nil => .nil
  | _, _, .cons h r => .cons h.v r.vs
def RepO (K : PySem.W.Frag) (w : Wd) (o : HO) : MO → Prop
  | .lst ds => ∃ vs, o = .lst vs ∧ Reps K w.F w.J vs ds
  | .lsu us => ∃ vs, o = .lst vs ∧ RepUs K w vs us
  | .dic ks ds => ∃ vs, o = .dK (ks.zip vs) ∧ ks.length = vs.length ∧ Reps K w.F w.J vs ds
  | .ins C ns us => ∃ dx vs, o = .ins C dx (ns.zip vs) ∧ ns.length = vs.length ∧ RepUs K w vs us
structure HRel (K : PySem.W.Frag) (w : Wd) (S : SS) (H : Hp) : Prop where
  fz : Same w.F H
  fr : Same w.R H
  jr : ∀ a, w.J a → JarAt w.n (H a) ∧ w.F a = none ∧ w.R a = none
  len : w.A.length = S.length
  dead : ∀ i : Nat, S[i]? = some none → w.A[i]? = some none
  live : ∀ (i : Nat) (o : MO), S[i]? = some (some o) → ∃ a, w.A[i]? = some (some a) ∧ (∃ ho, H a = some ho ∧ RepO K w ho o) ∧ w.F a = none ∧ w.R a = none ∧ ¬ w.J a
  inj : ∀ (i j : Nat) (a : Addr), w.A[i]? = some (some a) → w.A[j]? = some (some a) → i = j
  pin : ∀ (i : Nat) (a : Addr), w.B[i]? = some a → w.A[i]? = some (some a)
def EnvR (K : PySem.W.Frag) (w : Wd) (σ : L2.St) (env : Env) : Prop :=
  σ.length = env.length ∧ ∀ (i : Nat) (u : U), env[i]? = some (some u) → ∃ v, σ[i]? = some (some v) ∧ RepU K w v u
def ExtA (w w' : Wd) : Prop := ∀ (i : Nat) (a : Addr), w.A[i]? = some (some a) → w'.A[i]? = some (some a)
/-- the world has grown -/
structure Ext (k : Nat) (w w' : Wd) : Prop where
  F : Same w.F w'.F
  J : ∀ a, w.J a → w'.J a
  R : w'.R = w.R
  n : w'.n ≤ w.n + k
  N : ∀ a o, w'.F a = some o → w.F a = some o ∨ w.R a = none
  B : w'.B = w.B
  A : ExtA w w'
theorem Ext.refl (w : Wd) (k : Nat) : Ext k w w := ⟨Same.refl _, fun _ h => h, rfl, Nat.le_add_right _ _, fun _ _ h => .inl h, rfl, fun _ _ h => h⟩
theorem Ext.trans {j k : Nat} {a b c : Wd} (x : Ext j a b) (y : Ext k b c) : Ext (j + k) a c :=
  ⟨x.F.trans y.F, fun a h => y.J a (x.J a h), y.R.trans x.R, by have := x.n; have := y.n; omega, fun a o h => (y.N a o h).elim (fun q => x.N a o q) fun q => .inr (by rw [← x.R]; exact q), y.B.trans x.B, fun i p h => y.A i p (x.A i p h)⟩
theorem Ext.le {j k : Nat} {a b : Wd} (x : Ext j a b) (h : j ≤ k) : Ext k a b := ⟨x.F, x.J, x.R, by have := x.n; omega, x.N, x.B, x.A⟩
theorem ExtA.refl (w : Wd) : ExtA w w := fun _ _ h => h
theorem ExtA.trans {a b c : Wd} (x : ExtA a b) (y : ExtA b c) : ExtA a c := fun i p h => y i p (x i p h)
section
variable {K : PySem.W.Frag} {w w' : Wd} {k : Nat}
theorem Rep.ext {v : V} {d : D} (x : Ext k w w') (h : Rep K w.F w.J v d) : Rep K w'.F w'.J v d := h.mono x.F x.J
theorem Reps.ext {v : List V} {d : List D} (x : Ext k w w') (h : Reps K w.F w.J v d) : Reps K w'.F w'.J v d := h.mono x.F x.J
theorem RepU.ext {v : V} {u : U} (x : Ext k w w') (xa : ExtA w w') (h : RepU K w v u) : RepU K w' v u := by
  cases u with
  | d y => exact Rep.ext x h
  | r i => obtain ⟨a, h1, h2⟩ := h; exact ⟨a, xa i a h1, h2⟩
  | tup us => obtain ⟨a, vs, h1, h2, h3⟩ := h; exact ⟨a, vs, h1, sameT x.F h2, h3.gr x.F x.J xa⟩
theorem RepUs.ext (x : Ext k w w') (xa : ExtA w w') : ∀ {vs : List V} {us : List U}, RepUs K w vs us → RepUs K w' vs us
  | _, _, .nil => .nil
  | _, _, .cons h r => .cons (RepU.ext x xa h) (RepUs.ext x xa r)
theorem RepUs.length : ∀ {vs : List V} {us : List U}, RepUs K w vs us → vs.length = us.length
  | _, _, .nil => rfl
  | _, _, .cons _ r => congrArg (· + 1) (RepUs.length r)
theorem RepUs.app : ∀ {vs ws : List V} {us zs : List U}, RepUs K w vs us → RepUs K w ws zs → RepUs K w (vs ++ ws) (us ++ zs)
  | _, _, _, _, .nil, s => s
  | _, _, _, _, .cons h r, s => .cons h (RepUs.app r s)
theorem RepUs.set {v : V} {u : U} (h : RepU K w v u) : ∀ {vs : List V} {us : List U} (i : Nat), RepUs K w vs us → RepUs K w (vs.set i v) (us.set i u)
  | _, _, _, .nil => .nil
  | _, _, 0, .cons _ t => .cons h t
  | _, _, i + 1, .cons q t => .cons q (RepUs.set h i t)
theorem RepUs.take : ∀ {vs : List V} {us : List U} (n : Nat), RepUs K w vs us → RepUs K w (vs.take n) (us.take n)
  | _, _, 0, _ => .nil
  | _, _, _ + 1, .nil => .nil
  | _, _, n + 1, .cons h r => .cons h (RepUs.take n r)
theorem RepUs.drop : ∀ {vs : List V} {us : List U} (n : Nat), RepUs K w vs us → RepUs K w (vs.drop n) (us.drop n)
  | _, _, 0, r => r
  | _, _, _ + 1, .nil => .nil
  | _, _, n + 1, .cons _ r => RepUs.drop n r
theorem RepUs.get : ∀ {vs : List V} {us : List U} {i : Nat} {u : U}, RepUs K w vs us → us[i]? = some u → ∃ v, vs[i]? = some v ∧ RepU K w v u
  | _, _, i, u, .nil, e => by simp at e
  | _, _, 0, u, .cons h r, e => by simp at e; subst e; exact ⟨_, rfl, h⟩
  | _, _, i + 1, u, .cons h r, e => by
    obtain ⟨v, h1, h2⟩ := RepUs.get (i := i) (u := u) r (by simpa using e)
    exact ⟨v, by simpa using h1, h2⟩
theorem RepO.ext {o : HO} {m : MO} (x : Ext k w w') (xa : ExtA w w') (h : RepO K w o m) : RepO K w' o m := by
  cases m with
  | lst ds => obtain ⟨vs, e, r⟩ := h; exact ⟨vs, e, r.ext x⟩
  | lsu us => obtain ⟨vs, e, r⟩ := h; exact ⟨vs, e, r.ext x xa⟩
  | dic ks ds => obtain ⟨vs, e, l, r⟩ := h; exact ⟨vs, e, l, r.ext x⟩
  | ins C ns us => obtain ⟨dx, vs, e, l, r⟩ := h; exact ⟨dx, vs, e, l, r.ext x xa⟩
theorem EnvR.ext {σ : L2.St} {env : Env} (x : Ext k w w') (xa : ExtA w w') (h : EnvR K w σ env) : EnvR K w' σ env :=
  ⟨h.1, fun i u e => let ⟨v, a, b⟩ := h.2 i u e; ⟨v, a, b.ext x xa⟩⟩
theorem EnvR.set {σ : L2.St} {env : Env} {i : Nat} {v : V} {u : U} (h : EnvR K w σ env) (r : RepU K w v u) : EnvR K w (σ.set i (some v)) (env.set i (some u)) := by
  refine ⟨by simpa using h.1, fun j z e => ?_⟩
  by_cases hj : j = i
  · subst hj
    by_cases hl : j < env.length
    · rw [List.getElem?_set_self hl] at e
      have : u = z := by simpa using e
      subst this
      exact ⟨v, by rw [List.getElem?_set_self (by rw [h.1]; exact hl)], r⟩
    · rw [List.getElem?_eq_none (by simpa using hl)] at e; cases e
  · rw [List.getElem?_set_ne (Ne.symm hj)] at e
    obtain ⟨y, a, b⟩ := h.2 j z e
    exact ⟨y, by rw [List.getElem?_set_ne (Ne.symm hj)]; exact a, b⟩
/-- a new thing that nobody tracks -/
theorem HRel.free {S : SS} {H : Hp} {p : Addr} (h : HRel K w S H) (hp : H p = none) : w.F p = none ∧ w.R p = none ∧ ¬ w.J p ∧ ∀ i : Nat, i < S.length → (∃ o, S[i]? = some (some o)) → w.A[i]? ≠ some (some p) := by
  refine ⟨h.fz.free hp, h.fr.free hp, fun j => ?_, fun i _ ⟨o, e⟩ z => ?_⟩
  · obtain ⟨⟨x, y, c, e, _⟩, _⟩ := h.jr p j
    rw [hp] at e; cases e
  · obtain ⟨a, ea, ⟨ho, e1, _⟩, _⟩ := h.live i o e
    rw [ea] at z
    have : a = p := by simpa using z
    subst this
    rw [hp] at e1; cases e1
theorem HRel.noA {S : SS} {H : Hp} {p : Addr} (h : HRel K w S H) (hp : H p = none) : ∀ i : Nat, w.A[i]? ≠ some (some p) := fun i z => by
  by_cases hi : i < S.length
  · cases e : S[i] with
    | none =>
      have q := h.dead i (by rw [List.getElem?_eq_getElem hi, e])
      rw [z] at q; cases q
    | some o => exact (h.free hp).2.2.2 i hi ⟨o, by rw [List.getElem?_eq_getElem hi, e]⟩ z
  · have : w.A[i]? = none := List.getElem?_eq_none (by rw [h.len]; omega)
    rw [this] at z; cases z
/-- a new frozen thing -/
def Wd.add (w : Wd) (p : Addr) (o : HO) : Wd := { w with F := upd w.F p o }
theorem Ext.add {p : Addr} {o : HO} (hp : w.F p = none) (hr : w.R p = none) : Ext 0 w (w.add p o) := ⟨fun b u e => by rw [show (w.add p o).F b = upd w.F p o b from rfl, upd_ne (ne_of_none e hp)]; exact e, fun _ h => h, rfl, Nat.le_refl _, fun b u e => by
  by_cases z : b = p
  · subst z; exact .inr hr
  · rw [show (w.add p o).F b = upd w.F p o b from rfl, upd_ne z] at e; exact .inl e, rfl, fun _ _ h => h⟩
theorem ExtA.add {p : Addr} {o : HO} : ExtA w (w.add p o) := fun _ _ h => h
theorem same_upd {H : Hp} {p : Addr} {o : HO} (hp : H p = none) : Same H (upd H p o) := fun b u e => by rw [upd_ne (ne_of_none e hp)]; exact e
theorem HRel.add {S : SS} {H : Hp} {p : Addr} {o : HO} (h : HRel K w S H) (hp : H p = none) : HRel K (w.add p o) S (upd H p o) := by
  obtain ⟨f1, f2, f3, _⟩ := h.free hp
  have noA := h.noA hp
  have x : Ext 0 w (w.add p o) := Ext.add f1 f2
  refine ⟨fun b u e => ?_, fun b u e => ?_, fun a j => ?_, h.len, h.dead, fun i m e => ?_, h.inj, h.pin⟩
  · by_cases hb : b = p
    · subst hb
      rw [show (w.add b o).F b = upd w.F b o b from rfl, upd_same] at e
      rw [upd_same]; exact e
    · rw [show (w.add p o).F b = upd w.F p o b from rfl, upd_ne hb] at e
      rw [upd_ne hb]; exact h.fz b u e
  · exact same_upd hp b u (h.fr b u e)
  · obtain ⟨j1, j2, j3⟩ := h.jr a j
    have ne : a ≠ p := fun z => f3 (z ▸ j)
    exact ⟨by rw [upd_ne ne]; exact j1, by rw [show (w.add p o).F a = upd w.F p o a from rfl, upd_ne ne]; exact j2, j3⟩
  · obtain ⟨a, ea, ⟨ho, e1, r⟩, n1, n2, n3⟩ := h.live i m e
    have ne : a ≠ p := fun z => noA i (z ▸ ea)
    exact ⟨a, ea, ⟨ho, by rw [upd_ne ne]; exact e1, r.ext x ExtA.add⟩, by rw [show (w.add p o).F a = upd w.F p o a from rfl, upd_ne ne]; exact n1, n2, n3⟩
/-- the thing at place i is another now -/
theorem HRel.put {S : SS} {H : Hp} {i : Nat} {m m' : MO} {a : Addr} {o : HO} (h : HRel K w S H) (hi : S[i]? = some (some m)) (ha : w.A[i]? = some (some a)) (r : RepO K w o m') : HRel K w (S.set i (some m')) (upd H a o) := by
  obtain ⟨a', ea', _, n1, n2, n3⟩ := h.live i m hi
  rw [ha] at ea'; cases ea'
  have hl : i < S.length := by
    by_cases q : i < S.length
    · exact q
    · rw [List.getElem?_eq_none (by omega)] at hi; cases hi
  refine ⟨fun b u e => ?_, fun b u e => ?_, fun b j => ?_, by simpa using h.len, fun j e => ?_, fun j m2 e => ?_, h.inj, h.pin⟩
  · rw [upd_ne (ne_of_none e n1)]; exact h.fz b u e
  · rw [upd_ne (ne_of_none e n2)]; exact h.fr b u e
  · obtain ⟨j1, j2, j3⟩ := h.jr b j
    have ne : b ≠ a := fun z => n3 (z ▸ j)
    exact ⟨by rw [upd_ne ne]; exact j1, j2, j3⟩
  · by_cases hj : j = i
    · subst hj; rw [List.getElem?_set_self hl] at e; cases e
    · rw [List.getElem?_set_ne (Ne.symm hj)] at e; exact h.dead j e
  · by_cases hj : j = i
    · subst hj
      rw [List.getElem?_set_self hl] at e
      have : m' = m2 := by simpa using e
      subst this
      exact ⟨a, ha, ⟨o, upd_same, r⟩, n1, n2, n3⟩
    · rw [List.getElem?_set_ne (Ne.symm hj)] at e
      obtain ⟨b, eb, ⟨ho, e1, rb⟩, q⟩ := h.live j m2 e
      have ne : b ≠ a := fun z => hj (h.inj j i b eb (z ▸ ha))
      exact ⟨b, eb, ⟨ho, by rw [upd_ne ne]; exact e1, rb⟩, q⟩
/-- a new thing at a new place -/
def Wd.push (w : Wd) (p : Addr) : Wd := { w with A := w.A ++ [some p] }
theorem ExtA.push {p : Addr} : ExtA w (w.push p) := fun j a e => by
  show (w.A ++ [some p])[j]? = _
  by_cases hj : j < w.A.length
  · rw [List.getElem?_append_left hj]; exact e
  · rw [List.getElem?_eq_none (by omega)] at e; cases e
theorem Ext.push {p : Addr} : Ext k w (w.push p) := ⟨Same.refl _, fun _ h => h, rfl, Nat.le_add_right _ _, fun _ _ h => .inl h, rfl, ExtA.push⟩
theorem push_at {S : SS} {H : Hp} {p : Addr} (h : HRel K w S H) : (w.push p).A[S.length]? = some (some p) := by
  show (w.A ++ [some p])[S.length]? = _
  rw [← h.len]; simp
theorem HRel.pushE {S : SS} {H H2 : Hp} {m : MO} {p : Addr} {o : HO} (h : HRel K w S H) (hs : ∀ b u, b ≠ p → H b = some u → H2 b = some u) (e2 : H2 p = some o) (f1 : w.F p = none) (f2 : w.R p = none) (f3 : ¬ w.J p) (noA : ∀ i : Nat, w.A[i]? ≠ some (some p)) (r : RepO K w o m) : HRel K (w.push p) (S ++ [some m]) H2 := by
  have xa : ExtA w (w.push p) := ExtA.push
  have x : Ext 0 w (w.push p) := Ext.push
  have at_i := push_at (p := p) h
  have at_j : ∀ j, j ≠ S.length → (w.push p).A[j]? = w.A[j]? := fun j hj => by
    show (w.A ++ [some p])[j]? = _
    by_cases hl : j < w.A.length
    · rw [List.getElem?_append_left hl]
    · have := h.len
      rw [List.getElem?_eq_none (by simp; omega), List.getElem?_eq_none (by omega)]
  have st_j : ∀ j, j ≠ S.length → (S ++ [some m])[j]? = S[j]? := fun j hj => by
    by_cases hl : j < S.length
    · rw [List.getElem?_append_left hl]
    · rw [List.getElem?_eq_none (by simp; omega), List.getElem?_eq_none (by omega)]
  refine ⟨fun b u e => ?_, fun b u e => ?_, fun b j => ?_, by show (w.A ++ [some p]).length = _; simp [h.len], fun j e => ?_, fun j m2 e => ?_, fun j1 j2 a e1 e2 => ?_, fun j a e => xa j a (h.pin j a e)⟩
  · exact hs b u (fun z => by subst z; rw [show (w.push b).F b = w.F b from rfl, f1] at e; cases e) (h.fz b u e)
  · exact hs b u (fun z => by subst z; rw [show (w.push b).R b = w.R b from rfl, f2] at e; cases e) (h.fr b u e)
  · obtain ⟨j1, j2, j3⟩ := h.jr b j
    have ne : b ≠ p := fun z => f3 (z ▸ j)
    obtain ⟨x1, y1, c1, e1, q1⟩ := j1
    exact ⟨⟨x1, y1, c1, hs b _ ne e1, q1⟩, j2, j3⟩
  · by_cases hj : j = S.length
    · subst hj; simp at e
    · rw [st_j j hj] at e; rw [at_j j hj]; exact h.dead j e
  · by_cases hj : j = S.length
    · subst hj
      have : m = m2 := by simpa using e
      subst this
      exact ⟨p, at_i, ⟨o, e2, r.ext x xa⟩, f1, f2, f3⟩
    · rw [st_j j hj] at e
      obtain ⟨b, eb, ⟨ho, e1, rb⟩, q⟩ := h.live j m2 e
      have ne : b ≠ p := fun z => noA j (z ▸ eb)
      exact ⟨b, by rw [at_j j hj]; exact eb, ⟨ho, hs b ho ne e1, rb.ext x xa⟩, q⟩
  · by_cases h1 : j1 = S.length
    · by_cases h2 : j2 = S.length
      · rw [h1, h2]
      · subst h1
        rw [at_i] at e1; cases e1
        rw [at_j j2 h2] at e2
        exact absurd e2 (noA j2)
    · rw [at_j j1 h1] at e1
      by_cases h2 : j2 = S.length
      · subst h2
        rw [at_i] at e2; cases e2
        exact absurd e1 (noA j1)
      · rw [at_j j2 h2] at e2
        exact h.inj j1 j2 a e1 e2
theorem HRel.push {S : SS} {H : Hp} {m : MO} {p : Addr} {o : HO} (h : HRel K w S H) (hp : H p = none) (r : RepO K w o m) : HRel K (w.push p) (S ++ [some m]) (upd H p o) :=
  h.pushE (fun b u ne e => by rw [upd_ne ne]; exact e) upd_same (h.free hp).1 (h.free hp).2.1 (h.free hp).2.2.1 (h.noA hp) r
end
end Pl

namespace Pl
open PySem PySem.Spec PyProof.Rows L2 TL

/-! ### reading what stands now -/
def rd : U → SS → Option D
  | .d x, _ => some x
  | .r i, S => match S[i]? with
    | some (some (.lst ds)) => some (.lst ds)
    | some (some (.dic ks ds)) => some (.dic ks ds)
    | _ => none
  | .tup _, _ => none
def RepN (K : PySem.W.Frag) (w : Wd) (H : Hp) (v : V) : D → Prop
  | .lst ds => ∃ a vs, v = .ref a ∧ H a = some (.lst vs) ∧ Reps K w.F w.J vs ds
  | .dic ks ds => ∃ a vs, v = .ref a ∧ H a = some (.dK (ks.zip vs)) ∧ ks.length = vs.length ∧ Reps K w.F w.J vs ds
  | d => Rep K w.F w.J v d
section
variable {K : PySem.W.Frag} {w w1 : Wd} {k : Nat} {S : SS} {H : Hp} {v : V} {u : U} {d : D}
theorem Rep.now (h : HRel K w S H) (r : Rep K w.F w.J v d) : RepN K w H v d := by
  cases d with
  | lst ds => cases r with | lst e r => exact ⟨_, _, rfl, h.fz _ _ e, r⟩
  | dic ks ds => cases r with | dic e l r => exact ⟨_, _, rfl, h.fz _ _ e, l, r⟩
  | _ => exact r
theorem rd_ok (h : HRel K w S H) (r : RepU K w v u) (e : rd u S = some d) : RepN K w H v d := by
  cases u with
  | d x =>
    have : x = d := by simpa [rd] using e
    subst this
    exact Rep.now h r
  | r i =>
    obtain ⟨a, ha, rfl⟩ := r
    cases q : S[i]? with
    | none => simp [rd, q] at e
    | some o =>
      cases o with
      | none => simp [rd, q] at e
      | some m =>
        obtain ⟨b, hb, ⟨ho, e1, rr⟩, _⟩ := h.live i m q
        rw [ha] at hb; cases hb
        simp only [rd, q] at e
        cases m with
        | lst ds => cases e; obtain ⟨vs, rfl, rr⟩ := rr; exact ⟨a, vs, rfl, e1, rr⟩
        | dic ks ds => cases e; obtain ⟨vs, rfl, l, rr⟩ := rr; exact ⟨a, vs, rfl, e1, l, rr⟩
        | ins C ns us => cases e
        | lsu us => cases e
  | tup us => cases e
theorem RepN.int {i : Int} (r : RepN K w H v (.int i)) : v = .int i := by
  cases v <;> cases r; rfl
theorem RepN.str {l : List Nat} (r : RepN K w H v (.str l)) : v = .str ⟨l.toArray⟩ := by
  have r' : Rep K w.F w.J v (.str l) := r
  cases r' with | @str x => rw [mk_tl]
theorem Rep.strL {F : Hp} {J : Addr → Prop} {l : List Nat} : Rep K F J (.str ⟨l.toArray⟩) (.str l) := .str (x := ⟨l.toArray⟩)
theorem RepN.rep (r : RepN K w H v d) (hl : ∀ ds, d ≠ .lst ds) (hd : ∀ ks ds, d ≠ .dic ks ds) : Rep K w.F w.J v d := by
  cases d with
  | lst ds => exact absurd rfl (hl ds)
  | dic ks ds => exact absurd rfl (hd ks ds)
  | _ => exact r
theorem RepN.bl {x : Bool} (r : RepN K w H v (.bl x)) : v = .bl x := by
  cases v <;> cases r; rfl
theorem RepN.non (r : RepN K w H v .non) : v = .non := by
  cases v <;> cases r; rfl
theorem RepN.tup {ds : List D} (r : RepN K w H v (.tup ds)) (h : HRel K w S H) : ∃ a vs, v = .ref a ∧ SqT K H a vs ∧ Reps K w.F w.J vs ds := by
  have r' : Rep K w.F w.J v (.tup ds) := r
  cases r' with | tup e r => exact ⟨_, _, rfl, sameT h.fz e, r⟩
theorem RepN.scr {ds : List D} (r : RepN K w H v (.scr ds)) (h : HRel K w S H) : ∃ a vs, v = .ref a ∧ SqL K H a vs ∧ Reps K w.F w.J vs ds := by
  have r' : Rep K w.F w.J v (.scr ds) := r
  cases r' with | scr e r => exact ⟨_, _, rfl, h.fz.seq e, r⟩
end

/-! ### what a reading over data means for the reading over the heap -/
abbrev XX := Ex → SS → Prop
def RepX (K : PySem.W.Frag) (F : Hp) (J : Addr → Prop) (H : Hp) (C : Value) (d : Option Addr) (x : Ex) : Prop :=
  C = .ref x.C ∧ match x.f with
    | none => d = none
    | some (n, y) => ∃ p v, d = some p ∧ F p = some (.xd [(n, v)]) ∧ Rep K F J v y
abbrev RP (α β : Type) := Wd → α → β → Prop
abbrev TG' (β : Type) := Env → SS → (β → SS → Prop) → XX → Prop
structure Co {α β : Type} (Rp : RP α β) (K : PySem.W.Frag) (W : WX) (k : Nat) (w : Wd) (σ : L2.St) (Φ : β → SS → Prop) (Ψ : XX) (Q : α → Hp → Prop) : Prop where
  ok : ∀ b S1, Φ b S1 → ∀ w1 a H1, Ext k w w1 → ExtA w w1 → HRel K w1 S1 H1 → Rp w1 a b → Q a H1
  xx : ∀ x S1, Ψ x S1 → ∀ w1 C d H1, Ext k w w1 → ExtA w w1 → HRel K w1 S1 H1 → RepX K w1.F w1.J H1 C d x → W C d σ H1
def lift {α β : Type} (Rp : RP α β) (K : PySem.W.Frag) (W : WX) (t : TG' β) (k : Nat) : L2.St → Hp → (α → Hp → Prop) → Prop := fun σ H Q =>
  ∃ w env S Φ Ψ, HRel K w S H ∧ EnvR K w σ env ∧ w.n + k ≤ LIM ∧ t env S Φ Ψ ∧ Co Rp K W k w σ Φ Ψ Q
/-- at a point behind some parts -/
structure Here (K : PySem.W.Frag) (w : Wd) (S : SS) (H : Hp) (σ : L2.St) (env : Env) (k : Nat) : Prop where
  h : HRel K w S H
  e : EnvR K w σ env
  l : w.n + k ≤ LIM
abbrev Stab {α β : Type} (Rp : RP α β) : Prop := ∀ {w w' : Wd} {k : Nat} {a : α} {b : β}, Ext k w w' → ExtA w w' → Rp w a b → Rp w' a b
section
variable {α β α2 β2 α3 β3 α4 β4 : Type} {Rp : RP α β} {Rp2 : RP α2 β2} {Rp3 : RP α3 β3} {Rp4 : RP α4 β4} {K : PySem.W.Frag} {W : WX} {j k ka kb kc kg : Nat} {w w1 : Wd} {σ : L2.St} {H : Hp} {S : SS} {env : Env}
theorem Co.ext {Φ : β → SS → Prop} {Ψ : XX} {Q : α → Hp → Prop} (c : Co Rp K W (j + k) w σ Φ Ψ Q) (x : Ext j w w1) (xa : ExtA w w1) : Co Rp K W k w1 σ Φ Ψ Q :=
  ⟨fun b S1 h w2 a H1 y ya hr r => c.ok b S1 h w2 a H1 (x.trans y) (xa.trans ya) hr r, fun e S1 h w2 C d H1 y ya hr r => c.xx e S1 h w2 C d H1 (x.trans y) (xa.trans ya) hr r⟩
theorem Co.le {Φ : β → SS → Prop} {Ψ : XX} {Q : α → Hp → Prop} (c : Co Rp K W k w σ Φ Ψ Q) (h : j ≤ k) : Co Rp K W j w σ Φ Ψ Q :=
  ⟨fun b S1 q w2 a H1 y ya hr r => c.ok b S1 q w2 a H1 (y.le h) ya hr r, fun e S1 q w2 C d H1 y ya hr r => c.xx e S1 q w2 C d H1 (y.le h) ya hr r⟩
theorem lift_bind {ta : TG' β} {g : β → TG' β2} {Q : α2 → Hp → Prop} (h : lift Rp2 K W (fun env S Φ Ψ => ta env S (fun b S1 => g b env S1 Φ Ψ) Ψ) (ka + kg) σ H Q) :
    lift Rp K W ta ka σ H (fun a H1 => ∃ w b env S Φ Ψ, Here K w S H1 σ env kg ∧ Rp w a b ∧ g b env S Φ Ψ ∧ Co Rp2 K W kg w σ Φ Ψ Q) := by
  obtain ⟨w, env, S, Φ, Ψ, hr, he, hl, t, c⟩ := h
  refine ⟨w, env, S, _, Ψ, hr, he, by omega, t, ⟨fun b S1 q w1 a H1 x xa hr1 r => ?_, fun e S1 q w1 C d H1 x xa hr1 r => ?_⟩⟩
  · exact ⟨w1, b, env, S1, Φ, Ψ, ⟨hr1, he.ext x xa, by have := x.n; omega⟩, r, q, c.ext x xa⟩
  · exact c.xx e S1 q w1 C d H1 (x.le (by omega)) xa hr1 r
theorem lift_bind2 {ta : TG' β} {tb : TG' β2} {g : β → β2 → TG' β3} {Q : α3 → Hp → Prop} (st : Stab Rp) (h : lift Rp3 K W (fun env S Φ Ψ => ta env S (fun b S1 => tb env S1 (fun b2 S2 => g b b2 env S2 Φ Ψ) Ψ) Ψ) (ka + kb + kg) σ H Q) :
    lift Rp K W ta ka σ H (fun a H1 => lift Rp2 K W tb kb σ H1 fun a2 H2 => ∃ w b b2 env S Φ Ψ, Here K w S H2 σ env kg ∧ Rp w a b ∧ Rp2 w a2 b2 ∧ g b b2 env S Φ Ψ ∧ Co Rp3 K W kg w σ Φ Ψ Q) := by
  obtain ⟨w, env, S, Φ, Ψ, hr, he, hl, t, c⟩ := h
  refine ⟨w, env, S, _, Ψ, hr, he, by omega, t, ⟨fun b S1 q w1 a H1 x xa hr1 r => ?_, fun e S1 q w1 C d H1 x xa hr1 r => ?_⟩⟩
  · refine ⟨w1, env, S1, _, Ψ, hr1, he.ext x xa, by have := x.n; omega, q, ⟨fun b2 S2 q2 w2 a2 H2 x2 xa2 hr2 r2 => ?_, fun e S2 q2 w2 C d H2 x2 xa2 hr2 r2 => ?_⟩⟩
    · exact ⟨w2, b, b2, env, S2, Φ, Ψ, ⟨hr2, (he.ext x xa).ext x2 xa2, by have := x.n; have := x2.n; omega⟩, st x2 xa2 r, r2, q2, c.ext (x.trans x2) (xa.trans xa2)⟩
    · exact c.xx e S2 q2 w2 C d H2 ((x.trans x2).le (by omega)) (xa.trans xa2) hr2 r2
  · exact c.xx e S1 q w1 C d H1 (x.le (by omega)) xa hr1 r
theorem lift_bind3 {ta : TG' β} {tb : TG' β2} {tc : TG' β3} {g : β → β2 → β3 → TG' β4} {Q : α4 → Hp → Prop} (st : Stab Rp) (st2 : Stab Rp2)
    (h : lift Rp4 K W (fun env S Φ Ψ => ta env S (fun b S1 => tb env S1 (fun b2 S2 => tc env S2 (fun b3 S3 => g b b2 b3 env S3 Φ Ψ) Ψ) Ψ) Ψ) (ka + kb + kc + kg) σ H Q) :
    lift Rp K W ta ka σ H (fun a H1 => lift Rp2 K W tb kb σ H1 fun a2 H2 => lift Rp3 K W tc kc σ H2 fun a3 H3 => ∃ w b b2 b3 env S Φ Ψ, Here K w S H3 σ env kg ∧ Rp w a b ∧ Rp2 w a2 b2 ∧ Rp3 w a3 b3 ∧ g b b2 b3 env S Φ Ψ ∧ Co Rp4 K W kg w σ Φ Ψ Q) := by
  obtain ⟨w, env, S, Φ, Ψ, hr, he, hl, t, c⟩ := h
  refine ⟨w, env, S, _, Ψ, hr, he, by omega, t, ⟨fun b S1 q w1 a H1 x xa hr1 r => ?_, fun e S1 q w1 C d H1 x xa hr1 r => ?_⟩⟩
  · refine ⟨w1, env, S1, _, Ψ, hr1, he.ext x xa, by have := x.n; omega, q, ⟨fun b2 S2 q2 w2 a2 H2 x2 xa2 hr2 r2 => ?_, fun e S2 q2 w2 C d H2 x2 xa2 hr2 r2 => ?_⟩⟩
    · refine ⟨w2, env, S2, _, Ψ, hr2, (he.ext x xa).ext x2 xa2, by have := x.n; have := x2.n; omega, q2, ⟨fun b3 S3 q3 w3 a3 H3 x3 xa3 hr3 r3 => ?_, fun e S3 q3 w3 C d H3 x3 xa3 hr3 r3 => ?_⟩⟩
      · exact ⟨w3, b, b2, b3, env, S3, Φ, Ψ, ⟨hr3, ((he.ext x xa).ext x2 xa2).ext x3 xa3, by have := x.n; have := x2.n; have := x3.n; omega⟩, st x3 xa3 (st x2 xa2 r), st2 x3 xa3 r2, r3, q3, c.ext ((x.trans x2).trans x3) ((xa.trans xa2).trans xa3)⟩
      · exact c.xx e S3 q3 w3 C d H3 (((x.trans x2).trans x3).le (by omega)) ((xa.trans xa2).trans xa3) hr3 r3
    · exact c.xx e S2 q2 w2 C d H2 ((x.trans x2).le (by omega)) (xa.trans xa2) hr2 r2
  · exact c.xx e S1 q w1 C d H1 (x.le (by omega)) xa hr1 r
/-- the end, nothing new -/
theorem Co.here {Φ : β → SS → Prop} {Ψ : XX} {Q : α → Hp → Prop} {a : α} {b : β} (c : Co Rp K W k w σ Φ Ψ Q) (h : Here K w S H σ env k) (q : Φ b S) (r : Rp w a b) : Q a H :=
  c.ok b S q w a H (Ext.refl _ _) (ExtA.refl _) h.h r
/-- .. with a new frozen thing -/
theorem Co.new {Φ : β → SS → Prop} {Ψ : XX} {Q : α → Hp → Prop} {a : α} {b : β} {p : Addr} {o : HO} (c : Co Rp K W k w σ Φ Ψ Q) (h : Here K w S H σ env k) (hp : H p = none) (q : Φ b S) (r : Rp (w.add p o) a b) : Q a (upd H p o) :=
  c.ok b S q _ a _ ((Ext.add (h.h.free hp).1 (h.h.free hp).2.1).le (Nat.zero_le _)) ExtA.add (h.h.add hp) r
end
/-- a new list: frozen, or alive at a new place -/
def mk (kind : Option Nat) (ds : List D) (S : SS) (Φ : U → SS → Prop) : Prop := match kind with
  | none => Φ (.d (.lst ds)) S
  | some _ => Φ (.r S.length) (S ++ [some (.lst ds)])
section
variable {K : PySem.W.Frag} {W : WX} {k : Nat} {w : Wd} {σ : L2.St} {H : Hp} {S : SS} {env : Env}
theorem coMk {kind : Option Nat} {ds : List D} {vs : List V} {Φ : U → SS → Prop} {Ψ : XX} {Q : VK} {p : Addr} (c : Co (RepU K) K W k w σ Φ Ψ Q) (h : Here K w S H σ env k) (hp : H p = none) (r : Reps K w.F w.J vs ds)
    (q : Pl.mk kind ds S Φ) : Q (.ref p) (upd H p (.lst vs)) := by
  have f := h.h.free hp
  cases kind with
  | none =>
    have x : Ext 0 w (w.add p (.lst vs)) := Ext.add f.1 f.2.1
    exact c.new h hp q (show RepU K _ _ (.d _) from .lst (show upd w.F p _ p = _ from upd_same) (r.ext x))
  | some i => exact c.ok _ _ q (w.push p) _ _ Ext.push ExtA.push (h.h.push hp ⟨vs, rfl, r⟩) ⟨p, push_at h.h, rfl⟩
end
theorem lift_mono {α β : Type} {Rp : RP α β} {K : PySem.W.Frag} {W : WX} {t : TG' β} {k : Nat} {σ : L2.St} {H : Hp} {Q Q' : α → Hp → Prop} (h : lift Rp K W t k σ H Q) (i : ∀ a H, Q a H → Q' a H) : lift Rp K W t k σ H Q' := by
  obtain ⟨w, env, S, Φ, Ψ, hr, he, hl, q, c⟩ := h
  exact ⟨w, env, S, Φ, Ψ, hr, he, hl, q, ⟨fun b S1 z w1 a H1 x xa r1 r2 => i _ _ (c.ok b S1 z w1 a H1 x xa r1 r2), c.xx⟩⟩
theorem PE.imp {X : Cx} {e : Expr} {t t2 : TE} (h : PE X e t) (i : ∀ σ H Q, t2 σ H Q → t σ H Q) : PE X e t2 := ⟨fun pins s σ H Q I q => h.run pins s σ H Q I (i σ H Q q)⟩
theorem PT.imp {X : Cx} {e : Expr} {t t2 : TT} (h : PT X e t) (i : ∀ σ H Q, t2 σ H Q → t σ H Q) : PT X e t2 := ⟨fun pins s σ H Q I q => h.run pins s σ H Q I (i σ H Q q)⟩
theorem PA.imp {X : Cx} {e : List Expr} {t t2 : TA} (h : PA X e t) (i : ∀ σ H Q, t2 σ H Q → t σ H Q) : PA X e t2 := ⟨fun pos pins s σ H Q I q => h.run pos pins s σ H Q I (i σ H Q q)⟩
theorem PS.imp {X : Cx} {e : Stmt} {t t2 : TS} (h : PS X e t) (i : ∀ D σ H, t2 D σ H → t D σ H) : PS X e t2 := ⟨fun pins s σ H D I q => h.run pins s σ H D I (i D σ H q)⟩
theorem PSs.imp {X : Cx} {e : List Stmt} {t t2 : TS} (h : PSs X e t) (i : ∀ D σ H, t2 D σ H → t D σ H) : PSs X e t2 := ⟨fun pins s σ H D I q => h.run pins s σ H D I (i D σ H q)⟩
abbrev TE' := TG' U
abbrev TT' := TG' Bool
abbrev TA' := TG' (List U)
abbrev liftE (K : PySem.W.Frag) (W : WX) (t : TE') (k : Nat) : TE := lift (RepU K) K W t k
abbrev liftT (K : PySem.W.Frag) (W : WX) (t : TT') (k : Nat) : TT := lift (fun _ (a b : Bool) => a = b) K W t k
abbrev liftA (K : PySem.W.Frag) (W : WX) (t : TA') (k : Nat) : TA := lift (RepUs K) K W t k
theorem stabU {K : PySem.W.Frag} : Stab (RepU K) := fun x xa r => r.ext x xa
theorem stabUs {K : PySem.W.Frag} : Stab (RepUs K) := fun x xa r => r.ext x xa
theorem stabB : Stab (fun _ (a b : Bool) => a = b) := fun _ _ r => r
end Pl

namespace Pl
open PySem PySem.Spec PyProof.Rows L2 TL

/-! ### equality of data of any shape -/
def scEq : D → D → Option Bool
  | .non, .non => some true
  | .bl a, .bl b => some (a == b)
  | .int a, .int b => some (a == b)
  | .str a, .str b => some (decide (a = b))
  | .bl a, .int b => some ((if a then 1 else 0) == b)
  | .int a, .bl b => some (a == (if b then 1 else 0))
  | .non, .bl _ => some false
  | .non, .int _ => some false
  | .non, .str _ => some false
  | .bl _, .non => some false
  | .bl _, .str _ => some false
  | .int _, .non => some false
  | .int _, .str _ => some false
  | .str _, .non => some false
  | .str _, .bl _ => some false
  | .str _, .int _ => some false
  | _, _ => none
def isSc : D → Bool
  | .non => true | .bl _ => true | .int _ => true | .str _ => true | _ => false
inductive EqR : Nat → D → D → Bool → Prop
  | sc {n : Nat} {d e : D} {b : Bool} : scEq d e = some b → EqR n d e b
  | st {n : Nat} {d : D} {es : List D} : isSc d = true → EqR n d (.tup es) false
  | ts {n : Nat} {e : D} {ds : List D} : isSc e = true → EqR n (.tup ds) e false
  | sl {n : Nat} {d : D} {es : List D} : isSc d = true → EqR n d (.lst es) false
  | ls {n : Nat} {e : D} {ds : List D} : isSc e = true → EqR n (.lst ds) e false
  | tl {n : Nat} {ds es : List D} : EqR n (.tup ds) (.lst es) false
  | lt {n : Nat} {ds es : List D} : EqR n (.lst ds) (.tup es) false
  | tup {n : Nat} {ds es : List D} (bs : Nat → Bool) : (∀ i x y, ds[i]? = some x → es[i]? = some y → EqR n x y (bs i)) → EqR (n + 1) (.tup ds) (.tup es) ((List.range (min ds.length es.length)).all bs && ds.length == es.length)
  | lst {n : Nat} {ds es : List D} (bs : Nat → Bool) : ds.length = es.length → (∀ i x y, ds[i]? = some x → es[i]? = some y → EqR n x y (bs i)) → EqR (n + 1) (.lst ds) (.lst es) ((List.range ds.length).all bs)
  | lstLen {n : Nat} {ds es : List D} : ds.length ≠ es.length → EqR n (.lst ds) (.lst es) false
theorem EqR.le {n : Nat} {d e : D} {b : Bool} (h : EqR n d e b) : ∀ {m : Nat}, n ≤ m → EqR m d e b := by
  induction h with
  | sc h => intro m _; exact .sc h
  | st h => intro m _; exact .st h
  | ts h => intro m _; exact .ts h
  | sl h => intro m _; exact .sl h
  | ls h => intro m _; exact .ls h
  | tl => intro m _; exact .tl
  | lt => intro m _; exact .lt
  | tup bs _ ih =>
    intro m hm
    obtain ⟨k, rfl⟩ : ∃ k, m = k + 1 := ⟨m - 1, by omega⟩
    exact .tup bs fun i x y hx hy => ih i x y hx hy (by omega)
  | lst bs hl _ ih =>
    intro m hm
    obtain ⟨k, rfl⟩ : ∃ k, m = k + 1 := ⟨m - 1, by omega⟩
    exact .lst bs hl fun i x y hx hy => ih i x y hx hy (by omega)
  | lstLen h => intro m _; exact .lstLen h
theorem Reps.get2 {K : PySem.W.Frag} {F : Hp} {J : Addr → Prop} : ∀ {vs : List V} {ds : List D} {i : Nat} {v : V}, Reps K F J vs ds → vs[i]? = some v → ∃ d, ds[i]? = some d ∧ Rep K F J v d
  | _, _, i, v, .nil, e => by simp at e
  | _, _, 0, v, .cons h r, e => by simp at e; subst e; exact ⟨_, rfl, h⟩
  | _, _, i + 1, v, .cons h r, e => by
    obtain ⟨d, h1, h2⟩ := Reps.get2 (i := i) (v := v) r (by simpa using e)
    exact ⟨d, by simpa using h1, h2⟩
section
variable {X : Cx} {pins : List (Addr × Obj)} {σ : L2.St} {H F : Hp} {J : Addr → Prop} {s : Shared}
theorem list_or_tuple (I : Inv X pins σ H s) {a : Addr} {xs ys : List V} (h : SqL X.K H a xs) (h' : SqT X.K H a ys) : False := by
  obtain ⟨its, r, ⟨o, n, e, hc, _, d⟩, _⟩ := I.list h
  obtain ⟨its', r', ⟨o', e', hc', n', d'⟩, _⟩ := I.tuple h'
  rw [e] at e'; cases e'
  have e := hc.symm.trans hc'
  injection e with e
  exact absurd e (by decide)
/-- two pictures of one value are equal -/
theorem EqR.same (I : Inv X pins σ H s) (sF : Same F H) {n : Nat} {d e : D} {b : Bool} (h : EqR n d e b) : ∀ {v : V}, Rep X.K F J v d → Rep X.K F J v e → b = true := by
  induction h with
  | @sc n d e b h =>
    intro v r1 r2
    cases r1 <;> cases r2 <;> simp [scEq] at h <;> (subst h; try simp)
  | @st n d es h => intro v r1 r2; cases r2; cases r1 <;> cases h
  | @ts n e ds h => intro v r1 r2; cases r1; cases r2 <;> cases h
  | @sl n d es h => intro v r1 r2; cases r2; cases r1 <;> cases h
  | @ls n e ds h => intro v r1 r2; cases r1; cases r2 <;> cases h
  | @tl n ds es => intro v r1 r2; cases r1 with | tup h1 _ => cases r2 with | lst h2 _ => exact (list_or_tuple I (SqL.of (sF _ _ h2)) (sameT sF h1)).elim
  | @lt n ds es => intro v r1 r2; cases r1 with | lst h1 _ => cases r2 with | tup h2 _ => exact (list_or_tuple I (SqL.of (sF _ _ h1)) (sameT sF h2)).elim
  | @tup n ds es bs _ ih =>
    intro v r1 r2
    cases r1 with
    | tup h1 q1 =>
      cases r2 with
      | tup h2 q2 =>
        have ev := I.tuple_inj (sameT sF h1) (sameT sF h2)
        subst ev
        have l1 := q1.length
        have l2 := q2.length
        rw [Bool.and_eq_true, List.all_eq_true]
        refine ⟨fun i hi => ?_, by simp [← l1, ← l2]⟩
        have hi' : i < min ds.length es.length := List.mem_range.mp hi
        obtain ⟨y1, e1⟩ : ∃ y, ds[i]? = some y := ⟨ds[i]'(by omega), by simp⟩
        obtain ⟨y2, e2⟩ : ∃ y, es[i]? = some y := ⟨es[i]'(by omega), by simp⟩
        obtain ⟨v1, ev1, rv1⟩ := q1.get e1
        obtain ⟨v2, ev2, rv2⟩ := q2.get e2
        rw [ev1] at ev2; cases ev2
        exact ih i y1 y2 e1 e2 rv1 rv2
  | @lst n ds es bs hl _ ih =>
    intro v r1 r2
    cases r1 with
    | lst h1 q1 =>
      cases r2 with
      | lst h2 q2 =>
        rw [h1] at h2; cases h2
        rw [List.all_eq_true]
        intro i hi
        have hi' : i < ds.length := List.mem_range.mp hi
        obtain ⟨y1, e1⟩ : ∃ y, ds[i]? = some y := ⟨ds[i], by simp⟩
        obtain ⟨y2, e2⟩ : ∃ y, es[i]? = some y := ⟨es[i]'(by omega), by simp⟩
        obtain ⟨v1, ev1, rv1⟩ := q1.get e1
        obtain ⟨v2, ev2, rv2⟩ := q2.get e2
        rw [ev1] at ev2; cases ev2
        exact ih i y1 y2 e1 e2 rv1 rv2
  | @lstLen n ds es h =>
    intro v r1 r2
    cases r1 with
    | lst h1 q1 =>
      cases r2 with
      | lst h2 q2 =>
        rw [h1] at h2; cases h2
        exact absurd (q1.length.symm.trans q2.length) h
theorem pl_is {h : Heap} {a : Addr} {its : Array Value} (p : PlainL h a its) : h.IsList a its := by
  obtain ⟨o, n, e, hc, _, hd⟩ := p
  exact ⟨o, e, hc, n, hd⟩
theorem refs_or {A : Around} {a a' : Addr} {b : Bool} (h : PySem.SeqAt.RcAt A s (.ref a) (.ref a') b) (hs : a = a' → b = true) : PySem.SeqAt.EqAt A s (.ref a) (.ref a') b := by
  by_cases z : a = a'
  · subst z; rw [hs rfl]; exact PySem.SeqAt.EqAt.same _
  · exact PySem.SeqAt.EqAt.of_refs z h
open PySem.SeqAt in
theorem EqR.run (I : Inv X pins σ H s) (sF : Same F H) {n : Nat} {d e : D} {b : Bool} (h : EqR n d e b) : ∀ {v y : V} {x u : Value} {A : Around}, Rep X.K F J v d → Rep X.K F J y e → RelV v x → RelV y u → A.units + n < cLine →
    EqAt A s x u b ∧ RcAt A s x u b ∧ RcNeAt A s x u (!b) := by
  induction h with
  | @sc n d e b h =>
    intro v y x u A r1 r2 q1 q2 hu
    cases r1 <;> cases r2 <;> simp only [scEq] at h <;> first | (cases h; done) | skip
    · cases h; cases q1; cases q2; exact ⟨EqAt.same _, RcAt.none_none, RcNeAt.none_none⟩
    · cases h; cases q1; cases q2; exact ⟨EqAt.none_bool _, RcAt.none_bool _, RcNeAt.none_bool _⟩
    · cases h; cases q1; obtain ⟨t2, rfl⟩ := q2; exact ⟨EqAt.none_int _ _, RcAt.none_int _ _, RcNeAt.none_int _ _⟩
    · cases h; cases q1; obtain ⟨t2, rfl⟩ := q2; exact ⟨EqAt.none_str _ _, RcAt.none_str _ _, RcNeAt.none_str _ _⟩
    · cases h; cases q1; cases q2; exact ⟨EqAt.bool_none _, RcAt.bool_none _, RcNeAt.bool_none _⟩
    · cases h; cases q1; cases q2; exact ⟨EqAt.bool_bool _ _, RcAt.bool_bool _ _, RcNeAt.bool_bool _ _⟩
    · cases h; cases q1; obtain ⟨t2, rfl⟩ := q2; exact ⟨EqAt.bool_int _ _ _, RcAt.bool_int _ _ _, RcNeAt.bool_int _ _ _⟩
    · cases h; cases q1; obtain ⟨t2, rfl⟩ := q2; exact ⟨EqAt.bool_str _ _ _, RcAt.bool_str _ _ _, RcNeAt.bool_str _ _ _⟩
    · cases h; obtain ⟨t1, rfl⟩ := q1; cases q2; exact ⟨EqAt.int_none _ _, RcAt.int_none _ _, RcNeAt.int_none _ _⟩
    · cases h; obtain ⟨t1, rfl⟩ := q1; cases q2; exact ⟨EqAt.int_bool _ _ _, RcAt.int_bool _ _ _, RcNeAt.int_bool _ _ _⟩
    · cases h; obtain ⟨t1, rfl⟩ := q1; obtain ⟨t2, rfl⟩ := q2; exact ⟨EqAt.int_int _ _ _ _, RcAt.int_int _ _ _ _, RcNeAt.int_int _ _ _ _⟩
    · cases h; obtain ⟨t1, rfl⟩ := q1; obtain ⟨t2, rfl⟩ := q2; exact ⟨EqAt.int_str _ _ _ _, RcAt.int_str _ _ _ _, RcNeAt.int_str _ _ _ _⟩
    · cases h; obtain ⟨t1, rfl⟩ := q1; cases q2; exact ⟨EqAt.str_none _ _, RcAt.str_none _ _, RcNeAt.str_none _ _⟩
    · cases h; obtain ⟨t1, rfl⟩ := q1; cases q2; exact ⟨EqAt.str_bool _ _ _, RcAt.str_bool _ _ _, RcNeAt.str_bool _ _ _⟩
    · cases h; obtain ⟨t1, rfl⟩ := q1; obtain ⟨t2, rfl⟩ := q2; exact ⟨EqAt.str_int _ _ _ _, RcAt.str_int _ _ _ _, RcNeAt.str_int _ _ _ _⟩
    · rename_i x1 y1
      obtain ⟨t1, rfl⟩ := q1; obtain ⟨t2, rfl⟩ := q2
      have e : (x1 == y1) = decide (TL.tl x1 = TL.tl y1) := by rw [← PySem.SeqAt.str_beq]; show (TL.tl x1 == TL.tl y1) = _; rw [Bool.eq_iff_iff]; simp
      cases h
      rw [← e]
      exact ⟨EqAt.str_str _ _ _ _, RcAt.str_str _ _ _ _, RcNeAt.str_str _ _ _ _⟩
  | @st n d es h =>
    intro v y x u A r1 r2 q1 q2 hu
    cases r2 with
    | tup h2 _ =>
      cases q2
      obtain ⟨its, _, p, _⟩ := I.tuple (sameT sF h2)
      have hu' : A.units < cLine := by omega
      cases r1 <;> first | (cases h; done) | skip
      · cases q1; exact ⟨EqAt.none_tuple p hu', RcAt.none_tuple p hu', RcNeAt.none_tuple p hu'⟩
      · cases q1; exact ⟨EqAt.bool_tuple _ p hu', RcAt.bool_tuple _ p hu', RcNeAt.bool_tuple _ p hu'⟩
      · obtain ⟨t1, rfl⟩ := q1; exact ⟨EqAt.int_tuple _ _ p hu', RcAt.int_tuple _ _ p hu', RcNeAt.int_tuple _ _ p hu'⟩
      · obtain ⟨t1, rfl⟩ := q1; exact ⟨EqAt.str_tuple _ _ p hu', RcAt.str_tuple _ _ p hu', RcNeAt.str_tuple _ _ p hu'⟩
  | @ts n e ds h =>
    intro v y x u A r1 r2 q1 q2 hu
    cases r1 with
    | tup h2 _ =>
      cases q1
      obtain ⟨its, _, p, _⟩ := I.tuple (sameT sF h2)
      have hu' : A.units < cLine := by omega
      cases r2 <;> first | (cases h; done) | skip
      · cases q2; exact ⟨EqAt.tuple_none p hu', RcAt.tuple_none p hu', RcNeAt.tuple_none p hu'⟩
      · cases q2; exact ⟨EqAt.tuple_bool _ p hu', RcAt.tuple_bool _ p hu', RcNeAt.tuple_bool _ p hu'⟩
      · obtain ⟨t1, rfl⟩ := q2; exact ⟨EqAt.tuple_int _ _ p hu', RcAt.tuple_int _ _ p hu', RcNeAt.tuple_int _ _ p hu'⟩
      · obtain ⟨t1, rfl⟩ := q2; exact ⟨EqAt.tuple_str _ _ p hu', RcAt.tuple_str _ _ p hu', RcNeAt.tuple_str _ _ p hu'⟩
  | @sl n d es h =>
    intro v y x u A r1 r2 q1 q2 hu
    cases r2 with
    | lst h2 _ =>
      cases q2
      obtain ⟨its, _, p, _⟩ := I.list (SqL.of (sF _ _ h2))
      have p := pl_is p
      have hu' : A.units < cLine := by omega
      cases r1 <;> first | (cases h; done) | skip
      · cases q1; exact ⟨EqAt.none_list p hu', RcAt.none_list p hu', RcNeAt.none_list p hu'⟩
      · cases q1; exact ⟨EqAt.bool_list _ p hu', RcAt.bool_list _ p hu', RcNeAt.bool_list _ p hu'⟩
      · obtain ⟨t1, rfl⟩ := q1; exact ⟨EqAt.int_list _ _ p hu', RcAt.int_list _ _ p hu', RcNeAt.int_list _ _ p hu'⟩
      · obtain ⟨t1, rfl⟩ := q1; exact ⟨EqAt.str_list _ _ p hu', RcAt.str_list _ _ p hu', RcNeAt.str_list _ _ p hu'⟩
  | @ls n e ds h =>
    intro v y x u A r1 r2 q1 q2 hu
    cases r1 with
    | lst h2 _ =>
      cases q1
      obtain ⟨its, _, p, _⟩ := I.list (SqL.of (sF _ _ h2))
      have p := pl_is p
      have hu' : A.units < cLine := by omega
      cases r2 <;> first | (cases h; done) | skip
      · cases q2; exact ⟨EqAt.list_none p hu', RcAt.list_none p hu', RcNeAt.list_none p hu'⟩
      · cases q2; exact ⟨EqAt.list_bool _ p hu', RcAt.list_bool _ p hu', RcNeAt.list_bool _ p hu'⟩
      · obtain ⟨t1, rfl⟩ := q2; exact ⟨EqAt.list_int _ _ p hu', RcAt.list_int _ _ p hu', RcNeAt.list_int _ _ p hu'⟩
      · obtain ⟨t1, rfl⟩ := q2; exact ⟨EqAt.list_str _ _ p hu', RcAt.list_str _ _ p hu', RcNeAt.list_str _ _ p hu'⟩
  | @tl n ds es =>
    intro v y x u A r1 r2 q1 q2 hu
    cases r1 with
    | tup h1 _ =>
      cases r2 with
      | lst h2 _ =>
        cases q1; cases q2
        obtain ⟨_, _, p1, _⟩ := I.tuple (sameT sF h1)
        obtain ⟨_, _, p2, _⟩ := I.list (SqL.of (sF _ _ h2))
        have hu' : A.units < cLine := by omega
        exact ⟨EqAt.tuple_list p1 (pl_is p2) hu', RcAt.tuple_list p1 (pl_is p2) hu', RcNeAt.tuple_list p1 (pl_is p2) hu'⟩
  | @lt n ds es =>
    intro v y x u A r1 r2 q1 q2 hu
    cases r1 with
    | lst h1 _ =>
      cases r2 with
      | tup h2 _ =>
        cases q1; cases q2
        obtain ⟨_, _, p1, _⟩ := I.list (SqL.of (sF _ _ h1))
        obtain ⟨_, _, p2, _⟩ := I.tuple (sameT sF h2)
        have hu' : A.units < cLine := by omega
        exact ⟨EqAt.list_tuple (pl_is p1) p2 hu', RcAt.list_tuple (pl_is p1) p2 hu', RcNeAt.list_tuple (pl_is p1) p2 hu'⟩
  | @tup n ds es bs hh ih =>
    intro v y x u A r1 r2 q1 q2 hu
    have sm : ∀ {v : V}, Rep X.K F J v (.tup ds) → Rep X.K F J v (.tup es) → _ := fun {v} => EqR.same (J := J) I sF (EqR.tup bs hh)
    have r1' := r1
    have r2' := r2
    cases r1 with
    | tup h1 w1 =>
      cases r2 with
      | tup h2 w2 =>
        cases q1; cases q2
        obtain ⟨is1, v1, p1, _⟩ := I.tuple (sameT sF h1)
        obtain ⟨is2, v2, p2, _⟩ := I.tuple (sameT sF h2)
        have l1 : is1.toArray.size = ds.length := by have := v1.length; have := w1.length; simp; omega
        have l2 : is2.toArray.size = es.length := by have := v2.length; have := w2.length; simp; omega
        have el : ∀ j (h1 : j < is1.toArray.size) (h2 : j < is2.toArray.size), EqAt A.in1 s is1.toArray[j] is2.toArray[j] (bs j) := fun j h1 h2 => by
          obtain ⟨a1, e1⟩ : ∃ y, ds[j]? = some y := ⟨ds[j]'(by omega), by simp⟩
          obtain ⟨a2, e2⟩ : ∃ y, es[j]? = some y := ⟨es[j]'(by omega), by simp⟩
          obtain ⟨z1, f1, g1⟩ := w1.get e1
          obtain ⟨z2, f2, g2⟩ := w2.get e2
          have k1 := Vals.get v1 f1
          have k2 := Vals.get v2 f2
          obtain ⟨m1, n1, o1⟩ := k1
          obtain ⟨m2, n2, o2⟩ := k2
          have b1 : is1.toArray[j] = m1 := by
            have := List.getElem?_eq_some_iff.mp n1
            obtain ⟨_, t⟩ := this
            simpa using t
          have b2 : is2.toArray[j] = m2 := by
            have := List.getElem?_eq_some_iff.mp n2
            obtain ⟨_, t⟩ := this
            simpa using t
          rw [b1, b2]
          exact (ih j a1 a2 e1 e2 g1 g2 o1 o2 (by show A.units + 1 + _ < cLine; omega)).1
        have hu' : A.units < cLine := by omega
        have c := RcAt.tuples p1 p2 hu' el
        have c2 := RcNeAt.tuples p1 p2 hu' el
        rw [l1, l2] at c c2
        refine ⟨refs_or c fun z => ?_, c, c2⟩
        subst z
        exact sm r1' r2'
  | @lst n ds es bs hl hh ih =>
    intro v y x u A r1 r2 q1 q2 hu
    have sm : ∀ {v : V}, Rep X.K F J v (.lst ds) → Rep X.K F J v (.lst es) → _ := fun {v} => EqR.same (J := J) I sF (EqR.lst bs hl hh)
    have r1' := r1
    have r2' := r2
    cases r1 with
    | lst h1 w1 =>
      cases r2 with
      | lst h2 w2 =>
        cases q1; cases q2
        obtain ⟨is1, v1, p1, _⟩ := I.list (SqL.of (sF _ _ h1))
        obtain ⟨is2, v2, p2, _⟩ := I.list (SqL.of (sF _ _ h2))
        have l1 : is1.toArray.size = ds.length := by have := v1.length; have := w1.length; simp; omega
        have l2 : is2.toArray.size = es.length := by have := v2.length; have := w2.length; simp; omega
        have el : ∀ j (h1 : j < is1.toArray.size) (h2 : j < is2.toArray.size), EqAt A.in1 s is1.toArray[j] is2.toArray[j] (bs j) := fun j h1 h2 => by
          obtain ⟨a1, e1⟩ : ∃ y, ds[j]? = some y := ⟨ds[j]'(by omega), by simp⟩
          obtain ⟨a2, e2⟩ : ∃ y, es[j]? = some y := ⟨es[j]'(by omega), by simp⟩
          obtain ⟨z1, f1, g1⟩ := w1.get e1
          obtain ⟨z2, f2, g2⟩ := w2.get e2
          obtain ⟨m1, n1, o1⟩ := Vals.get v1 f1
          obtain ⟨m2, n2, o2⟩ := Vals.get v2 f2
          have b1 : is1.toArray[j] = m1 := by
            obtain ⟨_, t⟩ := List.getElem?_eq_some_iff.mp n1
            simpa using t
          have b2 : is2.toArray[j] = m2 := by
            obtain ⟨_, t⟩ := List.getElem?_eq_some_iff.mp n2
            simpa using t
          rw [b1, b2]
          exact (ih j a1 a2 e1 e2 g1 g2 o1 o2 (by show A.units + 1 + _ < cLine; omega)).1
        have hu' : A.units < cLine := by omega
        have c := RcAt.lists (pl_is p1) (pl_is p2) (by omega) hu' el
        have c2 := RcNeAt.lists (pl_is p1) (pl_is p2) (by omega) hu' el
        rw [l1] at c c2
        refine ⟨refs_or c fun z => ?_, c, c2⟩
        subst z
        exact sm r1' r2'
  | @lstLen n ds es hne =>
    intro v y x u A r1 r2 q1 q2 hu
    have sm : ∀ {v : V}, Rep X.K F J v (.lst ds) → Rep X.K F J v (.lst es) → _ := fun {v} => EqR.same (n := n) (J := J) I sF (EqR.lstLen hne)
    have r1' := r1
    have r2' := r2
    cases r1 with
    | lst h1 w1 =>
      cases r2 with
      | lst h2 w2 =>
        cases q1; cases q2
        obtain ⟨is1, v1, p1, _⟩ := I.list (SqL.of (sF _ _ h1))
        obtain ⟨is2, v2, p2, _⟩ := I.list (SqL.of (sF _ _ h2))
        have l1 : is1.toArray.size = ds.length := by have := v1.length; have := w1.length; simp; omega
        have l2 : is2.toArray.size = es.length := by have := v2.length; have := w2.length; simp; omega
        have hz : (is1.toArray.size != is2.toArray.size) = true := by rw [l1, l2]; simpa using hne
        have hu' : A.units < cLine := by omega
        have c := RcAt.lists_lengths (pl_is p1) (pl_is p2) hz hu'
        have c2 := RcNeAt.lists_lengths (pl_is p1) (pl_is p2) hz hu'
        refine ⟨refs_or c fun z => ?_, c, c2⟩
        subst z
        exact sm r1' r2'
end
/-- equal or not, by a look -/
def eqvD : Nat → D → D → Option Bool
  | n, d, e => match scEq d e with
    | some b => some b
    | none => match d, e with
      | .tup ds, .lst es => some false
      | .lst ds, .tup es => some false
      | .tup ds, .tup [] => some ds.isEmpty
      | .tup [], .tup es => some es.isEmpty
      | .lst ds, .lst [] => some ds.isEmpty
      | .lst [], .lst es => some es.isEmpty
      | .tup ds, e => if isSc e then some false else none
      | .lst ds, e => if isSc e then some false else none
      | d, .tup es => if isSc d then some false else none
      | d, .lst es => if isSc d then some false else none
      | _, _ => none
end Pl

namespace Pl
open PySem PySem.Spec PyProof.Rows L2 TL

section
variable {X : Cx} {W : WX} {pos : Pos} {e a b c : Expr} {ta tb tc : TE'} {k ka kb kc kr : Nat}
/-! ### names, constants -/
def tVar' (i : Nat) : TE' := fun env S Φ _ => match env[i]? with
  | some (some u) => Φ u S
  | _ => False
def tC' (d : D) : TE' := fun _ S Φ _ => Φ (.d d) S
theorem qvar {i : Nat} {x : Str} (h : PE X (.Name x pos) (tVar i)) : PE X (.Name x pos) (liftE X.K W (tVar' i) 0) := by
  refine PE.imp h fun σ H Q ⟨w, env, S, Φ, Ψ, hr, he, hl, t, c⟩ => ?_
  unfold tVar' at t
  cases q : env[i]? with
  | none => simp only [q] at t
  | some o =>
    cases o with
    | none => simp only [q] at t
    | some u =>
      simp only [q] at t
      obtain ⟨v, h1, h2⟩ := he.2 i u q
      exact ⟨v, h1, c.here ⟨hr, he, hl⟩ t h2⟩
theorem qv (i : Nat) {x : Str} (hN : X.N[i]? = some x := by rfl) (hv : Vis X.env.scope x := by first | exact Or.inl rfl | exact Or.inr (Or.inl rfl) | exact Or.inr (Or.inr rfl)) (hd : (x == ("__debug__" : Str)) = false := by decide) (hcd : (x == ("__classdict__" : Str)) = false := by decide) :
    PE X (.Name x pos) (liftE X.K W (tVar' i) 0) := qvar (pe_var hN hv hd hcd)
theorem qC {v : V} {d : D} (h : PE X e (tC v)) (r : ∀ F J, Rep X.K F J v d) : PE X e (liftE X.K W (tC' d) 0) := by
  refine PE.imp h fun σ H Q ⟨w, env, S, Φ, Ψ, hr, he, hl, t, c⟩ => ?_
  exact c.here ⟨hr, he, hl⟩ t (r _ _)
theorem qint {i j} : PE X (.Constant (.int i) j pos) (liftE X.K W (tC' (.int i)) 0) := qC pe_int fun _ _ => .int
theorem qstr {x j} : PE X (.Constant (.str x) j pos) (liftE X.K W (tC' (.str (tl x))) 0) := qC pe_str fun _ _ => .str
theorem qbl {x j} : PE X (.Constant (.bool x) j pos) (liftE X.K W (tC' (.bl x)) 0) := qC pe_bl fun _ _ => .bl
theorem qnon {j} : PE X (.Constant .none j pos) (liftE X.K W (tC' .non) 0) := qC pe_non fun _ _ => .non
theorem qgl {x : Str} {v : V} {u : Value} {d : D} (hm : X.mg x = some u) (r : RelV v u) (rd : ∀ F J, Rep X.K F J v d) (hg : Gl X x := by rfl) (hd : (x == ("__debug__" : Str)) = false := by decide) : PE X (.Name x pos) (liftE X.K W (tC' d) 0) := qC (pe_glob hg hm r hd) rd

/-! ### operators by values -/
abbrev R2' := U → U → SS → (U → SS → Prop) → XX → Prop
def OpL (K : PySem.W.Frag) (W : WX) (r : R2) (r' : R2') (kr : Nat) : Prop :=
  ∀ {w : Wd} {S : SS} {H : Hp} {σ : L2.St} {env : Env} {x y : V} {u z : U} {Φ : U → SS → Prop} {Ψ : XX} {Q : VK}, Here K w S H σ env kr → RepU K w x u → RepU K w y z → r' u z S Φ Ψ → Co (RepU K) K W kr w σ Φ Ψ Q → r x y H Q
def tOp' (r' : R2') (ta tb : TE') : TE' := fun env S Φ Ψ => ta env S (fun u S1 => tb env S1 (fun z S2 => r' u z S2 Φ Ψ) Ψ) Ψ
theorem op_lift {r : R2} {r' : R2'} (hl : OpL X.K W r r' kr) {σ : L2.St} {H : Hp} {Q : VK} (h : liftE X.K W (tOp' r' ta tb) (ka + kb + kr) σ H Q) : tOp r (liftE X.K W ta ka) (liftE X.K W tb kb) σ H Q :=
  lift_mono (lift_bind2 stabU h) fun x H1 q => lift_mono q fun y H2 ⟨w, u, z, env, S, Φ, Ψ, hh, r1, r2, q, c⟩ => hl hh r1 r2 q c
theorem q_op {op : Operator} {r : R2} {r' : R2'} (ho : OpR X (binaryOp op) r) (hl : OpL X.K W r r' kr) (ha : PE X a (liftE X.K W ta ka)) (hb : PE X b (liftE X.K W tb kb)) : PE X (.BinOp a op b pos) (liftE X.K W (tOp' r' ta tb) (ka + kb + kr)) :=
  PE.imp (pe_op ho ha hb) fun _ _ _ h => op_lift hl h

/-- two values that can be read -/
def rd2 (f : D → D → SS → (U → SS → Prop) → Prop) : R2' := fun u z S Φ _ => match rd u S, rd z S with
  | some d, some e => f d e S Φ
  | _, _ => False
theorem rd2_ok {K : PySem.W.Frag} {f : D → D → SS → (U → SS → Prop) → Prop} {w : Wd} {S : SS} {H : Hp} {σ : L2.St} {env : Env} {x y : V} {u z : U} {Φ : U → SS → Prop} {Ψ : XX} (hh : Here K w S H σ env k) (r1 : RepU K w x u) (r2 : RepU K w y z) (q : rd2 f u z S Φ Ψ) :
    ∃ d e, RepN K w H x d ∧ RepN K w H y e ∧ f d e S Φ := by
  unfold rd2 at q
  cases e1 : rd u S with
  | none => simp only [e1] at q
  | some d =>
    cases e2 : rd z S with
    | none => simp only [e1, e2] at q
    | some e =>
      simp only [e1, e2] at q
      exact ⟨d, e, rd_ok hh.h r1 e1, rd_ok hh.h r2 e2, q⟩
theorem len_mk (l : List Nat) : (⟨l.toArray⟩ : Str).length = l.length := len_tl _
theorem mk_app (l m : List Nat) : (⟨l.toArray⟩ : Str) ++ ⟨m.toArray⟩ = ⟨(l ++ m).toArray⟩ := ext_tl (by rw [tl_append])
/-- + -/
def fAdd (kind : Option Nat) : D → D → SS → (U → SS → Prop) → Prop
  | .int i, .int j, S, Φ => Φ (.d (.int (i + j))) S
  | .str x, .str y, S, Φ => x.length + y.length ≤ sizeLine ∧ Φ (.d (.str (x ++ y))) S
  | .tup x, .tup y, S, Φ => x.length + y.length ≤ sizeLine ∧ Φ (.d (.tup (x ++ y))) S
  | .lst x, .lst y, S, Φ => x.length + y.length ≤ sizeLine ∧ mk kind (x ++ y) S Φ
  | _, _, _, _ => False
def rAddA (K : PySem.W.Frag) : R2 := fun x y H Q => ((fun x y H Q => ∃ i j, x = .int i ∧ y = .int j ∧ Q (.int (i + j)) H) : R2) x y H Q ∨ (((fun x y H Q => ∃ i j, x = .str i ∧ y = .str j ∧ i.length + j.length ≤ sizeLine ∧ Q (.str (i ++ j)) H) : R2) x y H Q ∨ (rCatA K x y H Q ∨ rCat x y H Q))
theorem op_addA : OpR X (binaryOp .Add) (rAddA X.K) := OpR.or op_add (OpR.or op_add_str (OpR.or op_catA op_cat))
theorem addL {K : PySem.W.Frag} {kind : Option Nat} : OpL K W (rAddA K) (rd2 (fAdd kind)) 0 := by
  intro w S H σ env x y u z Φ Ψ Q hh r1 r2 q c
  obtain ⟨d, e, n1, n2, q⟩ := rd2_ok hh r1 r2 q
  cases d <;> cases e <;> try exact False.elim q
  case int.int i j =>
    rw [n1.int, n2.int]
    exact .inl ⟨_, _, rfl, rfl, c.here hh q .int⟩
  case str.str i j =>
    rw [n1.str, n2.str]
    refine .inr (.inl ⟨_, _, rfl, rfl, by rw [len_mk, len_mk]; exact q.1, ?_⟩)
    rw [mk_app]
    exact c.here hh q.2 Rep.strL
  case tup.tup ds es =>
    obtain ⟨p1, vs, rfl, s1, rr1⟩ := n1.tup hh.h
    obtain ⟨p2, ws, rfl, s2, rr2⟩ := n2.tup hh.h
    have l1 := rr1.length
    have l2 := rr2.length
    refine .inr (.inr (.inl ⟨p1, p2, vs, ws, rfl, rfl, s1, s2, by rw [l1, l2]; exact q.1, fun hv => ?_, fun hv hw => ?_, fun _ _ p hp => ?_⟩))
    · have : ds = [] := List.length_eq_zero_iff.mp (by rw [← l1, hv]; rfl)
      subst this
      exact c.here hh q.2 n2
    · have : es = [] := List.length_eq_zero_iff.mp (by rw [← l2, hw]; rfl)
      subst this
      exact c.here (b := .d (.tup (ds ++ []))) hh q.2 (by rw [List.append_nil]; exact n1)
    · have x : Ext 0 w (w.add p (.tup (vs ++ ws))) := Ext.add (hh.h.free hp).1 (hh.h.free hp).2.1
      exact c.new hh hp q.2 (show RepU K _ _ (.d _) from .tup (SqT.of (show upd w.F p _ p = _ from upd_same)) ((rr1.app rr2).ext x))
  case lst.lst ds es =>
    obtain ⟨p1, vs, rfl, s1, rr1⟩ := n1
    obtain ⟨p2, ws, rfl, s2, rr2⟩ := n2
    have l1 := rr1.length
    have l2 := rr2.length
    exact .inr (.inr (.inr ⟨p1, p2, vs, ws, rfl, rfl, s1, s2, by rw [l1, l2]; exact q.1, fun p hp => coMk c hh hp (rr1.app rr2) q.2⟩))
theorem qadd {kind : Option Nat} (ha : PE X a (liftE X.K W ta ka)) (hb : PE X b (liftE X.K W tb kb)) : PE X (.BinOp a .Add b pos) (liftE X.K W (tOp' (rd2 (fAdd kind)) ta tb) (ka + kb + 0)) := q_op op_addA addL ha hb
/-- ints -/
def fI (C : Int → Int → Prop) (g : Int → Int → D) : D → D → SS → (U → SS → Prop) → Prop
  | .int i, .int j, S, Φ => C i j ∧ Φ (.d (g i j)) S
  | _, _, _, _ => False
def fI0 (g : Int → Int → D) : D → D → SS → (U → SS → Prop) → Prop
  | .int i, .int j, S, Φ => Φ (.d (g i j)) S
  | _, _, _, _ => False
theorem fIL {K : PySem.W.Frag} {C : Int → Int → Prop} {g : Int → Int → D} {g2 : Int → Int → V} (hg : ∀ i j F J, Rep K F J (g2 i j) (g i j)) : OpL K W (rI C g2) (rd2 (fI C g)) 0 := by
  intro w S H σ env x y u z Φ Ψ Q hh r1 r2 q c
  obtain ⟨d, e, n1, n2, q⟩ := rd2_ok hh r1 r2 q
  cases d <;> cases e <;> try exact False.elim q
  rw [n1.int, n2.int]
  exact ⟨_, _, rfl, rfl, q.1, c.here hh q.2 (hg _ _ _ _)⟩
theorem fI0L {K : PySem.W.Frag} {g : Int → Int → D} {g2 : Int → Int → V} (hg : ∀ i j F J, Rep K F J (g2 i j) (g i j)) : OpL K W (rI0 g2) (rd2 (fI0 g)) 0 := by
  intro w S H σ env x y u z Φ Ψ Q hh r1 r2 q c
  obtain ⟨d, e, n1, n2, q⟩ := rd2_ok hh r1 r2 q
  cases d <;> cases e <;> try exact False.elim q
  rw [n1.int, n2.int]
  exact ⟨_, _, rfl, rfl, c.here hh q (hg _ _ _ _)⟩
theorem qsub (ha : PE X a (liftE X.K W ta ka)) (hb : PE X b (liftE X.K W tb kb)) : PE X (.BinOp a .Sub b pos) (liftE X.K W (tOp' (rd2 (fI0 fun i j => .int (i - j))) ta tb) (ka + kb + 0)) := q_op op_sub (fI0L fun _ _ _ _ => .int) ha hb
theorem qmod (ha : PE X a (liftE X.K W ta ka)) (hb : PE X b (liftE X.K W tb kb)) : PE X (.BinOp a .Mod b pos) (liftE X.K W (tOp' (rd2 (fI (fun _ j => 0 < j) fun i j => .int (i % j))) ta tb) (ka + kb + 0)) := q_op op_mod (fIL fun _ _ _ _ => .int) ha hb
theorem qfdiv (ha : PE X a (liftE X.K W ta ka)) (hb : PE X b (liftE X.K W tb kb)) : PE X (.BinOp a .FloorDiv b pos) (liftE X.K W (tOp' (rd2 (fI CDivW fun i j => .int (i / j))) ta tb) (ka + kb + 0)) := q_op op_fdivW (fIL fun _ _ _ _ => .int) ha hb
def CPowW (i j : Int) : Prop := 0 ≤ j ∧ (i.natAbs.log2 + 1 : Int) * j ≤ 2 ^ 27
theorem op_powW : OpR X (binaryOp .Pow) (rI CPowW fun i j => .int (i ^ j.toNat)) := opI fun i j _ _ _ _ _ hc q => PyProof.Rows.pow_int hc.1 (by
  have b : (Builtin.Int.intBits i : Int) ≤ (i.natAbs.log2 + 1 : Int) := by
    unfold Builtin.Int.intBits
    split <;> omega
  exact Int.le_trans (Int.mul_le_mul_of_nonneg_right b hc.1) hc.2) q
theorem qpow (ha : PE X a (liftE X.K W ta ka)) (hb : PE X b (liftE X.K W tb kb)) : PE X (.BinOp a .Pow b pos) (liftE X.K W (tOp' (rd2 (fI CPowW fun i j => .int (i ^ j.toNat))) ta tb) (ka + kb + 0)) := q_op op_powW (fIL fun _ _ _ _ => .int) ha hb
def CMulA (i j : Int) : Prop := CMul i j ∨ CMulW i j
theorem op_mulA : OpR X (binaryOp .Mult) (rI CMulA fun i j => .int (i * j)) := opI fun _ _ _ _ _ _ _ hc q => mul_int q (hc.elim (fun h => h.ok) fun h => h.ok)
/-- * : ints, a text times an int, a list times an int -/
def fMul (kind : Option Nat) : D → D → SS → (U → SS → Prop) → Prop
  | .int i, .int j, S, Φ => CMulA i j ∧ Φ (.d (.int (i * j))) S
  | .str x, .int j, S, Φ => (0 ≤ j ∧ j ≤ 1000 ∧ x.length ≤ 1000) ∧ Φ (.d (.str (List.replicate j.toNat x).flatten)) S
  | .lst x, .int j, S, Φ => (0 ≤ j ∧ j < 2 ^ 63 ∧ x.length * j.toNat ≤ sizeLine) ∧ mk kind (List.replicate j.toNat x).flatten S Φ
  | _, _, _, _ => False
theorem Reps.rep {K : PySem.W.Frag} {F : Hp} {J : Addr → Prop} {vs : List V} {ds : List D} (r : Reps K F J vs ds) : ∀ n : Nat, Reps K F J (List.replicate n vs).flatten (List.replicate n ds).flatten
  | 0 => .nil
  | n + 1 => by
    rw [List.replicate_succ, List.replicate_succ, List.flatten_cons, List.flatten_cons]
    exact r.app (Reps.rep r n)
theorem mul_cps (l : List Nat) : ∀ (n : Nat) (acc : Array Nat), ((List.replicate n l.toArray).foldl (· ++ ·) acc).toList = acc.toList ++ (List.replicate n l).flatten
  | 0, acc => by simp
  | n + 1, acc => by
    rw [List.replicate_succ, List.foldl_cons, mul_cps l n, List.replicate_succ, List.flatten_cons]
    simp
theorem txt_mul (l : List Nat) {j : Int} (h : 0 ≤ j) : Txt.mul ⟨l.toArray⟩ j = ⟨(List.replicate j.toNat l).flatten.toArray⟩ := by
  unfold Txt.mul
  by_cases h1 : j < 1
  · have : j = 0 := by omega
    subst this
    rw [if_pos (by decide)]
    rfl
  · rw [if_neg h1]
    split
    · rename_i h2
      rcases (Bool.or_eq_true _ _).mp h2 with h3 | h3
      · have : j = 1 := by simpa using h3
        subst this
        exact ext_tl (by simp [tl])
      · have e : l = [] := by
          have h4 : (⟨l.toArray⟩ : Str).length = 0 := by simpa using h3
          rw [len_mk] at h4
          exact List.length_eq_zero_iff.mp h4
        subst e
        exact ext_tl (by simp [tl])
    · exact ext_tl ((mul_cps l j.toNat #[]).trans (by simp [tl]))
theorem op_mulS : OpR X (binaryOp .Mult) (fun x y H Q => ∃ (l : List Nat) (j : Int), x = .str ⟨l.toArray⟩ ∧ y = .int j ∧ (0 ≤ j ∧ j ≤ 1000 ∧ l.length ≤ 1000) ∧ Q (.str ⟨(List.replicate j.toNat l).flatten.toArray⟩) H) := by
  intro pins s σ H x y v u Q I rx ry h
  obtain ⟨l, j, rfl, rfl, ⟨h0, h1, hz⟩, q⟩ := h
  obtain ⟨t, rfl⟩ := rx
  obtain ⟨t', rfl⟩ := ry
  have hl : (⟨l.toArray⟩ : Str).length = l.length := len_mk l
  refine SB.mul ⟨by simp; omega, fun h2 h3 => ?_, fun h2 h3 => ?_⟩ fun t' k => ⟨.str _, H, I.tok k, ⟨t', by rw [txt_mul l h0]⟩, q⟩
  · rw [hl]
    have h4 : (1000 : Int) ≤ (2 ^ 63 - 1) / j := (Int.le_ediv_iff_mul_le (by omega)).mpr (by omega)
    omega
  · rw [hl]
    have h5 : l.length * j.toNat ≤ 1000 * 1000 := Nat.mul_le_mul hz (by omega)
    unfold Builtin.Str.tooLong
    exact decide_eq_false (by rw [sizeLine_eq]; omega)
theorem mulL {K : PySem.W.Frag} {kind : Option Nat} : OpL K W (fun x y H Q => rI CMulA (fun i j => .int (i * j)) x y H Q ∨ ((∃ (l : List Nat) (j : Int), x = .str ⟨l.toArray⟩ ∧ y = .int j ∧ (0 ≤ j ∧ j ≤ 1000 ∧ l.length ≤ 1000) ∧ Q (.str ⟨(List.replicate j.toNat l).flatten.toArray⟩) H) ∨ rRep x y H Q)) (rd2 (fMul kind)) 0 := by
  intro w S H σ env x y u z Φ Ψ Q hh r1 r2 q c
  obtain ⟨d, e, n1, n2, q⟩ := rd2_ok hh r1 r2 q
  cases d <;> cases e <;> try exact False.elim q
  case int.int i j =>
    rw [n1.int, n2.int]
    exact .inl ⟨_, _, rfl, rfl, q.1, c.here hh q.2 .int⟩
  case str.int l j =>
    rw [n1.str, n2.int]
    exact .inr (.inl ⟨l, j, rfl, rfl, q.1, c.here hh q.2 Rep.strL⟩)
  case lst.int ds j =>
    rw [n2.int]
    obtain ⟨p1, vs, rfl, s1, rr1⟩ := n1
    have l1 := rr1.length
    exact .inr (.inr ⟨p1, j, vs, rfl, rfl, s1, by have := q.1.1; omega, q.1.2.1, by rw [l1]; exact q.1.2.2, fun p hp => coMk c hh hp (rr1.rep _) q.2⟩)
theorem qmul {kind : Option Nat} (ha : PE X a (liftE X.K W ta ka)) (hb : PE X b (liftE X.K W tb kb)) : PE X (.BinOp a .Mult b pos) (liftE X.K W (tOp' (rd2 (fMul kind)) ta tb) (ka + kb + 0)) := q_op (OpR.or op_mulA (OpR.or op_mulS op_rep)) mulL ha hb
/-! ### one value -/
abbrev R1' := U → SS → (U → SS → Prop) → XX → Prop
def UnL (K : PySem.W.Frag) (W : WX) (r : V → Hp → VK → Prop) (r' : R1') (kr : Nat) : Prop :=
  ∀ {w : Wd} {S : SS} {H : Hp} {σ : L2.St} {env : Env} {x : V} {u : U} {Φ : U → SS → Prop} {Ψ : XX} {Q : VK}, Here K w S H σ env kr → RepU K w x u → r' u S Φ Ψ → Co (RepU K) K W kr w σ Φ Ψ Q → r x H Q
def tUn' (r' : R1') (ta : TE') : TE' := fun env S Φ Ψ => ta env S (fun u S1 => r' u S1 Φ Ψ) Ψ
theorem un_lift {K : PySem.W.Frag} {r : V → Hp → VK → Prop} {r' : R1'} (hl : UnL K W r r' kr) {σ : L2.St} {H : Hp} {Q : VK} (h : liftE K W (tUn' r' ta) (ka + kr) σ H Q) : liftE K W ta ka σ H fun x H1 => r x H1 Q :=
  lift_mono (lift_bind (g := fun u _ S Φ Ψ => r' u S Φ Ψ) h) fun x H1 ⟨w, u, env, S, Φ, Ψ, hh, r1, q, c⟩ => hl hh r1 q c
def rd1 (f : D → SS → (U → SS → Prop) → Prop) : R1' := fun u S Φ _ => match rd u S with
  | some d => f d S Φ
  | _ => False
theorem rd1_ok {K : PySem.W.Frag} {f : D → SS → (U → SS → Prop) → Prop} {w : Wd} {S : SS} {H : Hp} {σ : L2.St} {env : Env} {x : V} {u : U} {Φ : U → SS → Prop} {Ψ : XX} (hh : Here K w S H σ env k) (r1 : RepU K w x u) (q : rd1 f u S Φ Ψ) :
    ∃ d, RepN K w H x d ∧ f d S Φ := by
  unfold rd1 at q
  cases e1 : rd u S with
  | none => simp only [e1] at q
  | some d =>
    simp only [e1] at q
    exact ⟨d, rd_ok hh.h r1 e1, q⟩
def fNeg : D → SS → (U → SS → Prop) → Prop
  | .int j, S, Φ => Φ (.d (.int (-j))) S
  | _, _, _ => False
theorem negL {K : PySem.W.Frag} : UnL K W (rU fun i => .int (-i)) (rd1 fNeg) 0 := by
  intro w S H σ env x u Φ Ψ Q hh r1 q c
  obtain ⟨d, n1, q⟩ := rd1_ok hh r1 q
  cases d <;> try exact False.elim q
  rw [n1.int]
  exact ⟨_, rfl, c.here hh q .int⟩
theorem qneg (ha : PE X a (liftE X.K W ta ka)) : PE X (.UnaryOp .USub a pos) (liftE X.K W (tUn' (rd1 fNeg) ta) (ka + 0)) := PE.imp (pe_un un_neg ha) fun _ _ _ h => un_lift negL h

/-! ### comparisons -/
inductive Py : D → PyData → Prop
  | non : Py .non .none
  | bl {b : Bool} : Py (.bl b) (.bool b)
  | int {i : Int} : Py (.int i) (.int i)
  | str {l : List Nat} : Py (.str l) (.str ⟨l.toArray⟩)
  | tup {ds : List D} {ps : List PyData} : ds.length = ps.length → (∀ (i : Nat) (d : D) (p : PyData), ds[i]? = some d → ps[i]? = some p → Py d p) → Py (.tup ds) (.tuple ps)
  | lst {ds : List D} {ps : List PyData} : ds.length = ps.length → (∀ (i : Nat) (d : D) (p : PyData), ds[i]? = some d → ps[i]? = some p → Py d p) → Py (.lst ds) (.list ps)
def EqD (d e : D) (b : Bool) : Prop := (∃ p q, Py d p ∧ Py e q ∧ SeqAt.shaped p = true ∧ SeqAt.shaped q = true ∧ PyData.eqv p q = b) ∨ EqR 60 d e b
theorem dpAll {K : PySem.W.Frag} {H : Hp} : ∀ {vs : List V} {ps : List PyData}, vs.length = ps.length → (∀ (i : Nat) (v : V) (p : PyData), vs[i]? = some v → ps[i]? = some p → Dp K H v p) → DpAll K H vs ps
  | [], [], _, _ => .nil
  | [], _ :: _, h, _ => by cases h
  | _ :: _, [], h, _ => by cases h
  | v :: vs, p :: ps, h, f => .cons (f 0 v p rfl rfl) (dpAll (by simpa using h) fun i v p a b => f (i + 1) v p (by simpa using a) (by simpa using b))
theorem Rep.dp {K : PySem.W.Frag} {w : Wd} {S : SS} {H : Hp} (h : HRel K w S H) {d : D} {p : PyData} (hp : Py d p) : ∀ {v : V}, Rep K w.F w.J v d → Dp K H v p := by
  induction hp with
  | non => intro v r; cases r; exact .non
  | bl => intro v r; cases r; exact .bl _
  | int => intro v r; cases r; exact .int _
  | @str l => intro v r; rw [RepN.str (Rep.now h r)]; exact .str _
  | @tup ds ps hl _ ih =>
    intro v r
    cases r with
    | tup e r =>
      refine .tup (sameT h.fz e) (dpAll (r.length.trans hl) fun i x p hx hp => ?_)
      cases e : ds[i]? with
      | none => have := (List.getElem?_eq_none_iff.mp e); have := (List.getElem?_eq_some_iff.mp hp).1; omega
      | some d =>
        obtain ⟨y, hy, ry⟩ := r.get e
        rw [hx] at hy; cases hy
        exact ih i d p e hp ry
  | @lst ds ps hl _ ih =>
    intro v r
    cases r with
    | lst e r =>
      refine .lst (SqL.of (h.fz _ _ e)) (dpAll (r.length.trans hl) fun i x p hx hp => ?_)
      cases e : ds[i]? with
      | none => have := (List.getElem?_eq_none_iff.mp e); have := (List.getElem?_eq_some_iff.mp hp).1; omega
      | some d =>
        obtain ⟨y, hy, ry⟩ := r.get e
        rw [hx] at hy; cases hy
        exact ih i d p e hp ry
theorem RepN.dp {K : PySem.W.Frag} {w : Wd} {S : SS} {H : Hp} {v : V} {d : D} {p : PyData} (n : RepN K w H v d) (h : HRel K w S H) (hp : Py d p) : Dp K H v p := by
  cases hp with
  | non => exact Rep.dp h .non n
  | bl => exact Rep.dp h .bl n
  | int => exact Rep.dp h .int n
  | str => exact Rep.dp h .str n
  | tup hl hi => exact Rep.dp h (.tup hl hi) n
  | @lst ds ps hl hi =>
    obtain ⟨a, vs, rfl, e, r⟩ := n
    refine .lst (SqL.of e) (dpAll (r.length.trans hl) fun i x p hx hp => ?_)
    cases e : ds[i]? with
    | none => have := (List.getElem?_eq_none_iff.mp e); have := (List.getElem?_eq_some_iff.mp hp).1; omega
    | some d =>
      obtain ⟨y, hy, ry⟩ := r.get e
      rw [hx] at hy; cases hy
      exact Rep.dp h (hi i d p e hp) ry
/-- == (g the identity) and != (g the not) -/
def fEq (g : Bool → Bool) : D → D → SS → (U → SS → Prop) → Prop
  | .int i, .int j, S, Φ => Φ (.d (.bl (g (decide (i = j))))) S
  | .str i, .str j, S, Φ => Φ (.d (.bl (g (decide (i = j))))) S
  | .bl i, .bl j, S, Φ => Φ (.d (.bl (g (decide (i = j))))) S
  | .non, .non, S, Φ => Φ (.d (.bl (g true))) S
  | .non, .int _, S, Φ => Φ (.d (.bl (g false))) S
  | .non, .str _, S, Φ => Φ (.d (.bl (g false))) S
  | .non, .bl _, S, Φ => Φ (.d (.bl (g false))) S
  | .int _, .non, S, Φ => Φ (.d (.bl (g false))) S
  | .str _, .non, S, Φ => Φ (.d (.bl (g false))) S
  | .bl _, .non, S, Φ => Φ (.d (.bl (g false))) S
  | .int _, .str _, S, Φ => Φ (.d (.bl (g false))) S
  | .str _, .int _, S, Φ => Φ (.d (.bl (g false))) S
  | .bl _, .str _, S, Φ => Φ (.d (.bl (g false))) S
  | .str _, .bl _, S, Φ => Φ (.d (.bl (g false))) S
  | d, e, S, Φ => ∃ b, EqD d e b ∧ Φ (.d (.bl (g b))) S
def rEqG (K : PySem.W.Frag) (g : Bool → Bool) : R2 := fun x y H Q => (scal x y = true ∧ Q (.bl (g (decide (x = y)))) H) ∨ ((∃ d e, Dp K H x d ∧ Dp K H y e ∧ SeqAt.shaped d = true ∧ SeqAt.shaped e = true ∧ Q (.bl (g (PyData.eqv d e))) H) ∨ ∃ (F : Hp) (J : Addr → Prop) (d e : D) (b : Bool), Same F H ∧ Rep K F J x d ∧ Rep K F J y e ∧ EqR 60 d e b ∧ Q (.bl (g b)) H)
/-- what stands now, as if it never changed -/
theorem RepN.rep_now {K : PySem.W.Frag} {w : Wd} {S : SS} {H : Hp} {v : V} {d : D} (n : RepN K w H v d) (h : HRel K w S H) : Rep K H w.J v d := by
  cases d with
  | lst ds =>
    obtain ⟨a, vs, rfl, e, r⟩ := n
    exact .lst e (r.mono h.fz fun _ j => j)
  | dic ks ds =>
    obtain ⟨a, vs, rfl, e, l, r⟩ := n
    exact .dic e l (r.mono h.fz fun _ j => j)
  | _ => exact Rep.mono h.fz (fun _ j => j) n
theorem eqL {K : PySem.W.Frag} {g : Bool → Bool} : OpL K W (rEqG K g) (rd2 (fEq g)) 0 := by
  intro w S H σ env x y u z Φ Ψ Q hh r1 r2 q c
  obtain ⟨d, e, n1, n2, q⟩ := rd2_ok hh r1 r2 q
  have gen : (∃ b, EqD d e b ∧ Φ (.d (.bl (g b))) S) → rEqG K g x y H Q := fun ⟨b, y, q⟩ => y.elim (fun ⟨p, p', y1, y2, s1, s2, eb⟩ => .inr (.inl ⟨p, p', n1.dp hh.h y1, n2.dp hh.h y2, s1, s2, by rw [eb]; exact c.here hh q .bl⟩)) fun y => .inr (.inr ⟨H, w.J, d, e, b, Same.refl _, n1.rep_now hh.h, n2.rep_now hh.h, y, c.here hh q .bl⟩)
  have sc : ∀ b, scal x y = true → decide (x = y) = b → Φ (.d (.bl (g b))) S → rEqG K g x y H Q := fun b h1 h2 q => .inl ⟨h1, by rw [h2]; exact c.here hh q .bl⟩
  cases d <;> cases e <;> first
    | exact gen q
    | (have e1 := n1.int; have e2 := n2.int; subst e1 e2; exact sc _ rfl (by simp) q)
    | (have e1 := n1.str; have e2 := n2.str; subst e1 e2; exact sc _ rfl (by rw [dec_str]; rw [Bool.eq_iff_iff]; simp [← Array.toList_inj]) q)
    | (have e1 := n1.bl; have e2 := n2.bl; subst e1 e2; exact sc _ rfl (by simp) q)
    | (have e1 := n1.non; have e2 := n2.non; subst e1 e2; exact sc _ rfl (by simp) q)
    | (have e1 := n1.non; have e2 := n2.int; subst e1 e2; exact sc _ rfl (by simp) q)
    | (have e1 := n1.non; have e2 := n2.str; subst e1 e2; exact sc _ rfl (by simp) q)
    | (have e1 := n1.non; have e2 := n2.bl; subst e1 e2; exact sc _ rfl (by simp) q)
    | (have e1 := n1.int; have e2 := n2.non; subst e1 e2; exact sc _ rfl (by simp) q)
    | (have e1 := n1.str; have e2 := n2.non; subst e1 e2; exact sc _ rfl (by simp) q)
    | (have e1 := n1.bl; have e2 := n2.non; subst e1 e2; exact sc _ rfl (by simp) q)
    | (have e1 := n1.int; have e2 := n2.str; subst e1 e2; exact sc _ rfl (by simp) q)
    | (have e1 := n1.str; have e2 := n2.int; subst e1 e2; exact sc _ rfl (by simp) q)
    | (have e1 := n1.bl; have e2 := n2.str; subst e1 e2; exact sc _ rfl (by simp) q)
    | (have e1 := n1.str; have e2 := n2.bl; subst e1 e2; exact sc _ rfl (by simp) q)
theorem op_eqR (hu : X.A.units + 64 < cLine) : OpR X (compareOp .Eq) (fun x y H Q => ∃ (F : Hp) (J : Addr → Prop) (d e : D) (b : Bool), Same F H ∧ Rep X.K F J x d ∧ Rep X.K F J y e ∧ EqR 60 d e b ∧ Q (.bl b) H) := by
  intro pins s σ H x y v u Q I rx ry ⟨F, J, d, e, b, sF, r1, r2, h, q⟩
  exact (h.run (J := J) (A := X.A) I sF r1 r2 rx ry (by omega)).2.1 X.prog X.w _ _ ⟨.bl b, H, I, rfl, q⟩
theorem op_neR (hu : X.A.units + 64 < cLine) : OpR X (compareOp .NotEq) (fun x y H Q => ∃ (F : Hp) (J : Addr → Prop) (d e : D) (b : Bool), Same F H ∧ Rep X.K F J x d ∧ Rep X.K F J y e ∧ EqR 60 d e b ∧ Q (.bl (!b)) H) := by
  intro pins s σ H x y v u Q I rx ry ⟨F, J, d, e, b, sF, r1, r2, h, q⟩
  exact (h.run (J := J) (A := X.A) I sF r1 r2 rx ry (by omega)).2.2 X.prog X.w _ _ ⟨.bl (!b), H, I, rfl, q⟩
theorem op_eqG (hu : X.A.units + 64 < cLine) : OpR X (compareOp .Eq) (rEqG X.K fun b => b) := OpR.or op_eq (OpR.or (op_eqD hu) (op_eqR hu))
theorem op_neG (hu : X.A.units + 64 < cLine) : OpR X (compareOp .NotEq) (rEqG X.K fun b => !b) := OpR.or op_ne (OpR.or (op_neD hu) (op_neR hu))
theorem op_of {op : Operator} {f : CmpOp} {r : R2} {r' : R2'} (ho : OpR X (compareOp f) r) (hl : OpL X.K W r r' kr) (hm : behindInMarks f b = false) (ha : PE X a (liftE X.K W ta ka)) (hb : PE X b (liftE X.K W tb kb)) :
    PE X (.Compare a [f] [b] pos) (liftE X.K W (tOp' r' ta tb) (ka + kb + kr)) := PE.imp (pe_cmpR ho ha hb hm) fun _ _ _ h => op_lift hl h
theorem qcmp {f : CmpOp} {r : R2} {r' : R2'} (ho : OpR X (compareOp f) r) (hl : OpL X.K W r r' kr) (ha : PE X a (liftE X.K W ta ka)) (hb : PE X b (liftE X.K W tb kb)) (hm : behindInMarks f b = false) :
    PE X (.Compare a [f] [b] pos) (liftE X.K W (tOp' r' ta tb) (ka + kb + kr)) := PE.imp (pe_cmpR ho ha hb hm) fun _ _ _ h => op_lift hl h
/-- a value as a test: it is True or False -/
def tTst (t : TE') : TT' := fun env S Φ Ψ => t env S (fun u S1 => match u with
  | .d (.bl b) => Φ b S1
  | _ => False) Ψ
theorem tst_lift {K : PySem.W.Frag} {σ : L2.St} {H : Hp} {Q : Bool → Hp → Prop} (h : liftT K W (tTst ta) k σ H Q) : liftE K W ta k σ H fun x H1 => ∃ b, x = .bl b ∧ Q b H1 := by
  obtain ⟨w, env, S, Φ, Ψ, hr, he, hl, t, c⟩ := h
  refine ⟨w, env, S, _, Ψ, hr, he, hl, t, ⟨fun u S1 q w1 x H1 y ya h1 r => ?_, c.xx⟩⟩
  cases u with
  | r i => exact False.elim q
  | tup _ => exact False.elim q
  | d z =>
    cases z <;> try exact False.elim q
    rename_i b
    exact ⟨b, RepN.bl (Rep.now h1 r), c.ok b S1 q w1 b H1 y ya h1 rfl⟩
theorem qtcmp {f : CmpOp} {r : R2} {r' : R2'} (ho : OpR X (compareOp f) r) (hl : OpL X.K W r r' kr) (ha : PE X a (liftE X.K W ta ka)) (hb : PE X b (liftE X.K W tb kb)) (hm : behindInMarks f b = false) :
    PT X (.Compare a [f] [b] pos) (liftT X.K W (tTst (tOp' r' ta tb)) (ka + kb + kr)) := PT.imp (pt_cmpR ho ha hb hm) fun _ _ _ h => op_lift (Q := fun x H' => ∃ k, x = V.bl k ∧ _) hl (tst_lift h)
/-- order of ints -/
theorem ordL {K : PySem.W.Frag} {p : Int → Int → Bool} : OpL K W (rI0 fun i j => .bl (p i j)) (rd2 (fI0 fun i j => .bl (p i j))) 0 := fI0L fun _ _ _ _ => .bl
/-- in, not in: a sign in a text; flat things in a list or tuple -/
def flatD : D → Bool
  | .int _ => true | .str _ => true | .bl _ => true | .non => true | _ => false
def toV : D → V
  | .int i => .int i | .str l => .str ⟨l.toArray⟩ | .bl b => .bl b | _ => .non
def fIn (g : Bool → Bool) : D → D → SS → (U → SS → Prop) → Prop := fun d e S Φ => match e with
  | .str l => match d with
    | .str [c] => Φ (.d (.bl (g (decide (c ∈ l))))) S
    | _ => False
  | .tup ys => (flatD d = true ∧ ys.all flatD = true) ∧ Φ (.d (.bl (g (inV (toV d) (ys.map toV))))) S
  | .lst ys => (flatD d = true ∧ ys.all flatD = true) ∧ Φ (.d (.bl (g (inV (toV d) (ys.map toV))))) S
  | _ => False
end
end Pl

namespace Pl
open PySem PySem.Spec PyProof.Rows L2 TL

section
variable {X : Cx} {W : WX} {pos : Pos} {e a b c : Expr} {ta tb tc : TE'} {k ka kb kc kr : Nat}
/-! ### in, not in -/
theorem toV_ok {K : PySem.W.Frag} {F : Hp} {J : Addr → Prop} {v : V} {d : D} (f : flatD d = true) (r : Rep K F J v d) : v = toV d ∧ flatV v = true := by
  cases r <;> first
    | exact ⟨rfl, rfl⟩
    | (refine ⟨?_, rfl⟩; show V.str _ = V.str _; rw [mk_tl])
    | cases f
theorem toVs_ok {K : PySem.W.Frag} {F : Hp} {J : Addr → Prop} : ∀ {vs : List V} {ds : List D}, ds.all flatD = true → Reps K F J vs ds → vs = ds.map toV ∧ vs.all flatV = true
  | _, _, _, .nil => ⟨rfl, rfl⟩
  | _, _, f, .cons h r => by
    rw [List.all_cons, Bool.and_eq_true] at f
    obtain ⟨e1, f1⟩ := toV_ok f.1 h
    obtain ⟨e2, f2⟩ := toVs_ok f.2 r
    exact ⟨by rw [List.map_cons, ← e1, ← e2], by rw [List.all_cons, f1, f2]; rfl⟩
def rInG (K : PySem.W.Frag) (g : Bool → Bool) : R2 := fun x y H Q => (∃ (c : Nat) (z : Str), x = .str ⟨#[c]⟩ ∧ y = .str z ∧ Q (.bl (g (decide (c ∈ z.cps.toList)))) H) ∨
  ∃ p xs, y = .ref p ∧ (SqL K H p xs ∨ SqT K H p xs) ∧ flatV x = true ∧ xs.all flatV = true ∧ Q (.bl (g (inV x xs))) H
theorem inL {K : PySem.W.Frag} {g : Bool → Bool} : OpL K W (rInG K g) (rd2 (fIn g)) 0 := by
  intro w S H σ env x y u z Φ Ψ Q hh r1 r2 q c
  obtain ⟨d, e, n1, n2, q⟩ := rd2_ok hh r1 r2 q
  have seqT : ∀ {ys : List D}, RepN K w H y (.tup ys) → (flatD d = true ∧ ys.all flatD = true) ∧ Φ (.d (.bl (g (inV (toV d) (ys.map toV))))) S → rInG K g x y H Q := fun {ys} n2 q => by
    obtain ⟨p, vs, rfl, s1, rr⟩ := n2.tup hh.h
    have n1' : Rep K w.F w.J x d := n1.rep (fun ds h => by rw [h] at q; cases q.1.1) (fun ks ds h => by rw [h] at q; cases q.1.1)
    obtain ⟨e1, f1⟩ := toV_ok q.1.1 n1'
    obtain ⟨e2, f2⟩ := toVs_ok q.1.2 rr
    exact .inr ⟨p, vs, rfl, .inr s1, f1, f2, by rw [e1, e2]; exact c.here hh q.2 .bl⟩
  have seqL : ∀ {ys : List D}, RepN K w H y (.lst ys) → (flatD d = true ∧ ys.all flatD = true) ∧ Φ (.d (.bl (g (inV (toV d) (ys.map toV))))) S → rInG K g x y H Q := fun {ys} n2 q => by
    obtain ⟨p, vs, rfl, s1, rr⟩ := n2
    have n1' : Rep K w.F w.J x d := n1.rep (fun ds h => by rw [h] at q; cases q.1.1) (fun ks ds h => by rw [h] at q; cases q.1.1)
    obtain ⟨e1, f1⟩ := toV_ok q.1.1 n1'
    obtain ⟨e2, f2⟩ := toVs_ok q.1.2 rr
    exact .inr ⟨p, vs, rfl, .inl (SqL.of s1), f1, f2, by rw [e1, e2]; exact c.here hh q.2 .bl⟩
  cases e <;> try exact False.elim q
  case str m =>
    cases d <;> try exact False.elim q
    rename_i l
    cases l with
    | nil => exact False.elim q
    | cons c0 l =>
      cases l with
      | cons _ _ => exact False.elim q
      | nil =>
        rw [n1.str, n2.str]
        exact .inl ⟨c0, _, rfl, rfl, c.here hh q .bl⟩
  case tup ys => exact seqT n2 q
  case lst ys => exact seqL n2 q
theorem op_inG : OpR X (compareOp .In) (rInG X.K fun b => b) := OpR.or op_in_sign op_in_seq
theorem op_niG : OpR X (compareOp .NotIn) (rInG X.K fun b => !b) := OpR.or op_notIn_sign op_notIn_seq
/-- is None, is not None -/
def isN : U → Bool
  | .d .non => true
  | _ => false
def fIs (g : Bool → Bool) : R2' := fun u z S Φ _ => isN z = true ∧ Φ (.d (.bl (g (isN u)))) S
theorem non_iff {K : PySem.W.Frag} {w : Wd} {v : V} {u : U} (r : RepU K w v u) : decide (v = .non) = isN u := by
  cases u with
  | r i => obtain ⟨a, _, rfl⟩ := r; rfl
  | tup us => obtain ⟨a, vs, rfl, _⟩ := r; rfl
  | d x =>
    have r' : Rep K w.F w.J v x := r
    cases r' <;> rfl
theorem isL {K : PySem.W.Frag} {g : Bool → Bool} : OpL K W (fun x y H Q => y = .non ∧ Q (.bl (g (decide (x = .non)))) H) (fIs g) 0 := by
  intro w S H σ env x y u z Φ Ψ Q hh r1 r2 q c
  have e := non_iff r1
  have e2 := non_iff r2
  rw [q.1] at e2
  exact ⟨of_decide_eq_true e2, by rw [e]; exact c.here hh q.2 .bl⟩

/-! ### and, or, not, if -/
theorem PW.imp {t t2 : TT} (h : PW X e t) (i : ∀ σ H Q, t2 σ H Q → t σ H Q) : PW X e t2 := ⟨fun wh pins s σ H Q I q => h.run wh pins s σ H Q I (i σ H Q q)⟩
variable {ua ub : TT'} {rest : List Expr}
def tAnd' (t u : TT') : TT' := fun env S Φ Ψ => t env S (fun c S1 => if c = true then u env S1 Φ Ψ else Φ false S1) Ψ
def tOr' (t u : TT') : TT' := fun env S Φ Ψ => t env S (fun c S1 => if c = true then Φ true S1 else u env S1 Φ Ψ) Ψ
def tNot' (t : TT') : TT' := fun env S Φ Ψ => t env S (fun c S1 => Φ (!c) S1) Ψ
theorem if_lift {α β : Type} {Rp : RP α β} {K : PySem.W.Frag} {t u : TG' β} {σ : L2.St} {H : Hp} {Q : α → Hp → Prop}
    (h : lift Rp K W (fun env S Φ Ψ => ua env S (fun c S1 => if c = true then t env S1 Φ Ψ else u env S1 Φ Ψ) Ψ) (ka + kb + kc) σ H Q) :
    liftT K W ua ka σ H fun c H1 => if c = true then lift Rp K W t kb σ H1 Q else lift Rp K W u kc σ H1 Q := by
  refine lift_mono (lift_bind (Rp := fun _ (a b : Bool) => a = b) (Rp2 := Rp) (Q := Q) (kg := kb + kc) (g := fun c env S Φ Ψ => if c = true then t env S Φ Ψ else u env S Φ Ψ) (by rw [← Nat.add_assoc]; exact h)) fun b H1 ⟨w, b', env, S, Φ, Ψ, hh, r, q, c⟩ => ?_
  subst r
  cases b with
  | true => exact ⟨w, env, S, Φ, Ψ, hh.h, hh.e, by have := hh.l; omega, q, c.le (by omega)⟩
  | false => exact ⟨w, env, S, Φ, Ψ, hh.h, hh.e, by have := hh.l; omega, q, c.le (by omega)⟩
theorem pure_lift {β : Type} {K : PySem.W.Frag} {α : Type} {Rp : RP α β} {a : α} {b : β} {σ : L2.St} {H : Hp} {Q : α → Hp → Prop} (h : lift Rp K W (fun _ S Φ _ => Φ b S) k σ H Q) (r : ∀ w, Rp w a b) : Q a H := by
  obtain ⟨w, env, S, Φ, Ψ, hr, he, hl, t, c⟩ := h
  exact c.here ⟨hr, he, hl⟩ t (r w)
theorem qand1 (ha : PT X a (liftT X.K W ua ka)) : PW X (.BoolOp .And [a] pos) (liftT X.K W ua ka) := pw_and1 ha
theorem qor1 (ha : PT X a (liftT X.K W ua ka)) : PW X (.BoolOp .Or [a] pos) (liftT X.K W ua ka) := pw_or1 ha
theorem qand (ha : PT X a (liftT X.K W ua ka)) (hb : PW X (.BoolOp .And (b :: rest) pos) (liftT X.K W ub kb)) : PW X (.BoolOp .And (a :: b :: rest) pos) (liftT X.K W (tAnd' ua ub) (ka + kb + 0)) :=
  PW.imp (pw_and ha hb) fun _ _ _ h => lift_mono (if_lift (u := fun _ S Φ _ => Φ false S) h) fun c H1 q => by
    cases c with
    | true => exact q
    | false => exact pure_lift (b := false) q fun _ => rfl
theorem qor (ha : PT X a (liftT X.K W ua ka)) (hb : PW X (.BoolOp .Or (b :: rest) pos) (liftT X.K W ub kb)) : PW X (.BoolOp .Or (a :: b :: rest) pos) (liftT X.K W (tOr' ua ub) (ka + 0 + kb)) :=
  PW.imp (pw_or ha hb) fun _ _ _ h => lift_mono (if_lift (t := fun _ S Φ _ => Φ true S) h) fun c H1 q => by
    cases c with
    | false => exact q
    | true => exact pure_lift (b := true) q fun _ => rfl
theorem qnotT (ha : PT X a (liftT X.K W ua ka)) : PT X (.UnaryOp .Not a pos) (liftT X.K W (tNot' ua) ka) := by
  refine PT.imp (pt_not ha) fun σ H Q ⟨w, env, S, Φ, Ψ, hr, he, hl, t, c⟩ => ?_
  exact ⟨w, env, S, _, Ψ, hr, he, hl, t, ⟨fun b S1 q w1 b' H1 x xa h1 r => by subst r; exact c.ok (!b') S1 q w1 _ H1 x xa h1 rfl, c.xx⟩⟩
/-- .. as values that are True or False: a test's answer as a value -/
def tVal' (t : TT') : TE' := fun env S Φ Ψ => t env S (fun b S1 => Φ (.d (.bl b)) S1) Ψ
def tAndV' (t u : TE') : TE' := fun env S Φ Ψ => tTst t env S (fun c S1 => if c = true then u env S1 Φ Ψ else Φ (.d (.bl false)) S1) Ψ
def tOrV' (t u : TE') : TE' := fun env S Φ Ψ => tTst t env S (fun c S1 => if c = true then Φ (.d (.bl true)) S1 else u env S1 Φ Ψ) Ψ
theorem qone {op} (ha : PE X a (liftE X.K W ta ka)) : PE X (.BoolOp op [a] pos) (liftE X.K W ta ka) := pe_one ha
theorem qandV (ha : PE X a (liftE X.K W ta ka)) (hb : PE X (.BoolOp .And (b :: rest) pos) (liftE X.K W tb kb)) : PE X (.BoolOp .And (a :: b :: rest) pos) (liftE X.K W (tAndV' ta tb) (ka + kb + 0)) :=
  PE.imp (pe_and ha hb) fun _ _ _ h => tst_lift (lift_mono (if_lift (ua := tTst ta) (u := fun _ S (Φ : U → SS → Prop) _ => Φ (U.d (D.bl false)) S) h) fun c H1 q => by
    cases c with
    | true => exact q
    | false => exact pure_lift (b := U.d (D.bl false)) q fun _ => Rep.bl)
theorem qorV (ha : PE X a (liftE X.K W ta ka)) (hb : PE X (.BoolOp .Or (b :: rest) pos) (liftE X.K W tb kb)) : PE X (.BoolOp .Or (a :: b :: rest) pos) (liftE X.K W (tOrV' ta tb) (ka + 0 + kb)) :=
  PE.imp (pe_or ha hb) fun _ _ _ h => tst_lift (lift_mono (if_lift (ua := tTst ta) (t := fun _ S (Φ : U → SS → Prop) _ => Φ (U.d (D.bl true)) S) h) fun c H1 q => by
    cases c with
    | false => exact q
    | true => exact pure_lift (b := U.d (D.bl true)) q fun _ => Rep.bl)
theorem qnotV (ha : PE X a (liftE X.K W ta ka)) : PE X (.UnaryOp .Not a pos) (liftE X.K W (tVal' (tNot' (tTst ta))) ka) := by
  refine PE.imp (pe_not ha) fun σ H Q h => tst_lift ?_
  obtain ⟨w, env, S, Φ, Ψ, hr, he, hl, t, c⟩ := h
  exact ⟨w, env, S, _, Ψ, hr, he, hl, t, ⟨fun b S1 q w1 b' H1 x xa h1 r => by subst r; exact c.ok _ S1 q w1 _ H1 x xa h1 .bl, c.xx⟩⟩
theorem qif (hc : PT X c (liftT X.K W ua ka)) (ha : PE X a (liftE X.K W ta kb)) (hb : PE X b (liftE X.K W tb kc)) : PE X (.IfExp c a b pos) (liftE X.K W (fun env S Φ Ψ => ua env S (fun c S1 => if c = true then ta env S1 Φ Ψ else tb env S1 Φ Ψ) Ψ) (ka + kb + kc)) :=
  PE.imp (pe_ifExp hc ha hb) fun _ _ _ h => if_lift h
/-- a value of any kind as a test -/
def tTru (t : TE') : TT' := fun env S Φ Ψ => t env S (fun u S1 => match rd u S1 with
  | some (.bl b) => Φ b S1
  | some .non => Φ false S1
  | some (.int i) => Φ (i != 0) S1
  | some (.str l) => l.length ≤ sizeLine ∧ Φ (!l.isEmpty) S1
  | some (.tup l) => Φ (!l.isEmpty) S1
  | some (.lst l) => Φ (!l.isEmpty) S1
  | _ => False) Ψ
theorem isEmpty_len {α β : Type} {l : List α} {m : List β} (h : l.length = m.length) : (!l.isEmpty) = !m.isEmpty := by
  cases l <;> cases m <;> first | rfl | cases h
theorem qtru (ha : PE X a (liftE X.K W ta ka)) (he : ∀ whole, isTrue a X.env whole = (do let v ← whole; standAt a.pos; holding [v] (truthy v)) := by intro _; rfl) : PT X a (liftT X.K W (tTru ta) ka) := by
  refine PT.imp (pt_truth ha he) fun σ H Q ⟨w, env, S, Φ, Ψ, hr, he, hl, t, c⟩ => ?_
  refine ⟨w, env, S, _, Ψ, hr, he, hl, t, ⟨fun u S1 q w1 x H1 y ya h1 r => ?_, c.xx⟩⟩
  cases e1 : rd u S1 with
  | none => simp only [e1] at q
  | some d =>
    simp only [e1] at q
    have n := rd_ok h1 r e1
    cases d <;> try exact False.elim q
    · exact ⟨false, by rw [n.non]; rfl, c.ok _ _ q _ _ _ y ya h1 rfl⟩
    · exact ⟨_, by rw [n.bl]; rfl, c.ok _ _ q _ _ _ y ya h1 rfl⟩
    · exact ⟨_, by rw [n.int]; rfl, c.ok _ _ q _ _ _ y ya h1 rfl⟩
    · rename_i l
      refine ⟨!l.isEmpty, ?_, c.ok _ _ q.2 _ _ _ y ya h1 rfl⟩
      rw [n.str]
      refine ⟨by rw [len_mk]; exact q.1, ?_⟩
      rw [len_mk]
      cases l <;> simp
      omega
    · obtain ⟨p, vs, rfl, s1, rr⟩ := n.tup h1
      exact ⟨_, .inr (.inl ⟨vs, s1, (isEmpty_len rr.length).symm⟩), c.ok _ _ q _ _ _ y ya h1 rfl⟩
    · obtain ⟨p, vs, rfl, s1, rr⟩ := n
      exact ⟨_, .inl ⟨vs, SqL.of s1, (isEmpty_len rr.length).symm⟩, c.ok _ _ q _ _ _ y ya h1 rfl⟩
end
end Pl

namespace Pl
open PySem PySem.Spec PyProof.Rows L2 TL

section
variable {X : Cx} {W : WX} {pos p apos : Pos} {e a b c o : Expr} {es : List Expr} {ta tb tc to : TE'} {tas : TA'} {k ka kb kc kr : Nat}
/-! ### argument lists, displays -/
def tNil' : TA' := fun _ S Φ _ => Φ [] S
def tCons' (ta : TE') (tr : TA') : TA' := fun env S Φ Ψ => ta env S (fun u S1 => tr env S1 (fun us S2 => Φ (u :: us) S2) Ψ) Ψ
theorem qa_nil : PA X [] (liftA X.K W tNil' 0) := by
  refine PA.imp pa_nil fun σ H Q ⟨w, env, S, Φ, Ψ, hr, he, hl, t, c⟩ => ?_
  exact c.here ⟨hr, he, hl⟩ t .nil
theorem qa_cons (ha : PE X e (liftE X.K W ta ka)) (hb : PA X es (liftA X.K W tas kb)) (hs : starEach (e :: es) X.env = (false, eval e X.env) :: starEach es X.env := by rfl) : PA X (e :: es) (liftA X.K W (tCons' ta tas) (ka + kb + 0)) :=
  PA.imp (pa_cons ha hb hs) fun σ H Q h => lift_mono (lift_bind2 (g := fun u us _ S Φ _ => Φ (u :: us) S) stabU h) fun x H1 q => lift_mono q fun y H2 ⟨w, u, z, env, S, Φ, Ψ, hh, r1, r2, q, c⟩ => c.here hh q (RepUs.cons r1 r2)
/-- all are data -/
def clos : Nat → List U → Option (List D)
  | _, [] => some []
  | 0, _ :: _ => none
  | n + 1, .d x :: us => match clos n us with
    | some ds => some (x :: ds)
    | none => none
  | _ + 1, _ :: _ => none
theorem clos_ok {K : PySem.W.Frag} {w : Wd} : ∀ {n : Nat} {us : List U} {vs : List V} {ds : List D}, RepUs K w vs us → clos n us = some ds → Reps K w.F w.J vs ds ∧ ds.length ≤ n
  | n, _, _, ds, .nil, e => by
    have : ds = [] := by cases n <;> simpa [clos] using e.symm
    subst this
    exact ⟨.nil, Nat.zero_le _⟩
  | 0, _, _, _, .cons _ _, e => by simp [clos] at e
  | n + 1, _, _, ds, @RepUs.cons _ _ v u vs us h r, e => by
    cases u with
    | r i => simp [clos] at e
    | tup _ => simp [clos] at e
    | d x =>
      cases q : clos n us with
      | none => simp [clos, q] at e
      | some zs =>
        have : ds = x :: zs := by simpa [clos, q] using e.symm
        subst this
        obtain ⟨h1, h2⟩ := clos_ok r q
        exact ⟨.cons h h1, by simpa using h2⟩
def tTup' (tas : TA') : TE' := fun env S Φ Ψ => tas env S (fun us S1 => match clos 100 us with
  | some ds => Φ (.d (.tup ds)) S1
  | none => False) Ψ
def tLst' (kind : Option Nat) (tas : TA') : TE' := fun env S Φ Ψ => tas env S (fun us S1 => match clos 100 us with
  | some ds => mk kind ds S1 Φ
  | none => False) Ψ
theorem qtup {x1} (h : PA X es (liftA X.K W tas ka)) : PE X (.Tuple es x1 pos) (liftE X.K W (tTup' tas) (ka + 0)) := by
  refine PE.imp (pe_tup h) fun σ H Q h => lift_mono (lift_bind (Rp := RepUs X.K) (g := fun us _ S Φ _ => match clos 100 us with
    | some ds => Φ (U.d (.tup ds)) S
    | none => False) h) fun xs H1 ⟨w, us, env, S, Φ, Ψ, hh, r, q, c⟩ => ?_
  cases e : clos 100 us with
  | none => simp only [e] at q
  | some ds =>
    simp only [e] at q
    obtain ⟨r, l⟩ := clos_ok r e
    refine ⟨by rw [r.length, sizeLine_eq]; omega, fun p hp => ?_⟩
    have x : Ext 0 w (w.add p (.tup xs)) := Ext.add (hh.h.free hp).1 (hh.h.free hp).2.1
    exact c.new hh hp q (show RepU X.K _ _ (.d _) from .tup (SqT.of (show upd w.F p _ p = _ from upd_same)) (r.ext x))
theorem qlst {kind : Option Nat} (h : PA X es (liftA X.K W tas ka)) : PE X (.List es pos) (liftE X.K W (tLst' kind tas) (ka + 0)) := by
  refine PE.imp (pe_lst h) fun σ H Q h => lift_mono (lift_bind (Rp := RepUs X.K) (g := fun us _ S Φ _ => match clos 100 us with
    | some ds => mk kind ds S Φ
    | none => False) h) fun xs H1 ⟨w, us, env, S, Φ, Ψ, hh, r, q, c⟩ => ?_
  cases e : clos 100 us with
  | none => simp only [e] at q
  | some ds =>
    simp only [e] at q
    obtain ⟨r, l⟩ := clos_ok r e
    exact ⟨by rw [r.length, sizeLine_eq]; omega, fun p hp => coMk c hh hp r q⟩

/-! ### subscripts -/
def fIx : D → D → SS → (U → SS → Prop) → Prop := fun d e S Φ => match e with
  | .int i => match d with
    | .lst ds => ∃ x, atI ds i = some x ∧ Φ (.d x) S
    | .tup ds => ∃ x, atI ds i = some x ∧ Φ (.d x) S
    | .scr ds => ∃ x, atI ds i = some x ∧ Φ (.d x) S
    | .str l => l.length ≤ sizeLine ∧ ∃ c, atI l i = some c ∧ Φ (.d (.str [c])) S
    | _ => False
  | _ => False
theorem Reps.at {K : PySem.W.Frag} {F : Hp} {J : Addr → Prop} {vs : List V} {ds : List D} {i : Int} {d : D} (r : Reps K F J vs ds) (h : atI ds i = some d) : ∃ v, atI vs i = some v ∧ Rep K F J v d := by
  unfold atI at h ⊢
  rw [r.length]
  cases e : ixN ds.length i with
  | none => rw [e] at h; cases h
  | some j =>
    rw [e] at h
    obtain ⟨v, h1, h2⟩ := r.get (i := j) (d := d) h
    exact ⟨v, h1, h2⟩
theorem ixL {K : PySem.W.Frag} : OpL K W (rIx K) (rd2 fIx) 0 := by
  intro w S H σ env x y u z Φ Ψ Q hh r1 r2 q c
  obtain ⟨d, e, n1, n2, q⟩ := rd2_ok hh r1 r2 q
  cases e <;> try exact False.elim q
  rw [n2.int]
  cases d <;> try exact False.elim q
  case int.str i l =>
    rw [n1.str]
    obtain ⟨h1, c0, h2, q⟩ := q
    exact .inr (.inr ⟨_, i, c0, rfl, rfl, by rw [len_mk]; exact h1, h2, c.here hh q (.strL (l := [c0]))⟩)
  case int.tup i ds =>
    obtain ⟨d, h1, q⟩ := q
    obtain ⟨p, vs, rfl, s1, rr⟩ := n1.tup hh.h
    obtain ⟨v, h2, rv⟩ := rr.at h1
    exact .inr (.inl ⟨p, vs, i, v, rfl, rfl, s1, h2, c.here hh q rv⟩)
  case int.lst i ds =>
    obtain ⟨d, h1, q⟩ := q
    obtain ⟨p, vs, rfl, s1, rr⟩ := n1
    obtain ⟨v, h2, rv⟩ := rr.at h1
    exact .inl ⟨p, vs, i, v, rfl, rfl, SqL.of s1, h2, c.here hh q rv⟩
  case int.scr i ds =>
    obtain ⟨d, h1, q⟩ := q
    obtain ⟨p, vs, rfl, s1, rr⟩ := n1.scr hh.h
    obtain ⟨v, h2, rv⟩ := rr.at h1
    exact .inl ⟨p, vs, i, v, rfl, rfl, s1, h2, c.here hh q rv⟩
theorem qix (ha : PE X a (liftE X.K W ta ka)) (hb : PE X b (liftE X.K W tb kb)) (hs : PlainIx b := by exact fun _ _ => rfl) : PE X (.Subscript a b pos) (liftE X.K W (tOp' (rd2 fIx) ta tb) (ka + kb + 0)) :=
  PE.imp (pe_ix ix_seq ha hb hs) fun _ _ _ h => op_lift ixL h
/-- slices -/
def cut {α : Type} (xs : List α) (lo hi : Option Int) : List α := (xs.drop (HT.sIx xs.length 0 lo)).take (HT.sIx xs.length xs.length hi - HT.sIx xs.length 0 lo)
abbrev TO' := TG' (Option Int)
def tNo' : TO' := fun _ S Φ _ => Φ none S
def tSome' (t : TE') : TO' := fun env S Φ Ψ => t env S (fun u S1 => match u with
  | .d (.int i) => Φ (some i) S1
  | _ => False) Ψ
abbrev liftO (K : PySem.W.Frag) (W : WX) (t : TO') (k : Nat) : TO := lift (fun _ (a b : Option Int) => a = b) K W t k
theorem PO.imp {e : Option Expr} {t t2 : TO} (h : PO X e t) (i : ∀ σ H Q, t2 σ H Q → t σ H Q) : PO X e t2 := ⟨fun pins s σ H Q I q => h.run pins s σ H Q I (i σ H Q q)⟩
theorem qo_none : PO X none (liftO X.K W tNo' 0) := PO.imp po_none fun _ _ _ h => pure_lift (Rp := fun _ (a b : Option Int) => a = b) (b := none) h fun _ => rfl
theorem qo_some (h : PE X e (liftE X.K W ta k)) : PO X (some e) (liftO X.K W (tSome' ta) k) := by
  refine PO.imp (po_some h) fun σ H Q ⟨w, env, S, Φ, Ψ, hr, he, hl, t, c⟩ => ?_
  refine ⟨w, env, S, _, Ψ, hr, he, hl, t, ⟨fun u S1 q w1 x H1 y ya h1 r => ?_, c.xx⟩⟩
  cases u with
  | r i => exact False.elim q
  | tup _ => exact False.elim q
  | d z =>
    cases z <;> try exact False.elim q
    rename_i i
    exact ⟨i, RepN.int (Rep.now h1 r), c.ok (some i) S1 q w1 _ H1 y ya h1 rfl⟩
def fSl (kind : Option Nat) (lo hi : Option Int) : D → SS → (U → SS → Prop) → Prop
  | .lst ds, S, Φ => mk kind (cut ds lo hi) S Φ
  | .tup ds, S, Φ => Φ (.d (.tup (cut ds lo hi))) S
  | .str l, S, Φ => l.length ≤ sizeLine ∧ Φ (.d (.str (cut l lo hi))) S
  | _, _, _ => False
def tSl' (kind : Option Nat) (ta : TE') (tl th : TO') : TE' := fun env S Φ Ψ => ta env S (fun u S1 => tl env S1 (fun lo S2 => th env S2 (fun hi S3 => rd1 (fSl kind lo hi) u S3 Φ Ψ) Ψ) Ψ) Ψ
theorem Reps.cut {K : PySem.W.Frag} {F : Hp} {J : Addr → Prop} {vs : List V} {ds : List D} {lo hi : Option Int} (r : Reps K F J vs ds) : Reps K F J (cutV vs lo hi) (Pl.cut ds lo hi) := by
  unfold cutV Pl.cut
  rw [r.length]
  exact (r.drop _).take _
theorem cut_whole {α : Type} {xs : List α} {lo hi : Option Int} (h : HT.sIx xs.length 0 lo = 0 ∧ HT.sIx xs.length xs.length hi = xs.length) : Pl.cut xs lo hi = xs := by
  unfold Pl.cut
  rw [h.1, h.2]
  simp
theorem cutS_mk (l : List Nat) (lo hi : Option Int) : cutS ⟨l.toArray⟩ lo hi = ⟨(Pl.cut l lo hi).toArray⟩ := by
  unfold cutS Pl.cut
  have e := len_mk l
  first
    | rw [e]
    | (apply ext_tl; simp [e])
theorem qsl {kind : Option Nat} {lo hi : Option Expr} {tl th : TO'} {p2 : Pos} (ha : PE X a (liftE X.K W ta ka)) (hl : PO X lo (liftO X.K W tl kb)) (hu : PO X hi (liftO X.K W th kc)) :
    PE X (.Subscript a (.Slice lo hi none p2) pos) (liftE X.K W (tSl' kind ta tl th) (ka + kb + kc + 0)) := by
  refine PE.imp (pe_slice (SlR.or sl_list (SlR.or sl_tupA sl_str)) ha hl hu) fun σ H Q h => lift_mono (lift_bind3 (g := fun u lo hi _ S Φ Ψ => rd1 (fSl kind lo hi) u S Φ Ψ) stabU (fun _ _ r => r) h) fun x H1 q1 => lift_mono q1 fun l H2 q2 => lift_mono q2 fun u' H3 ⟨w, u, lo, hi, env, S, Φ, Ψ, hh, r1, e1, e2, q0, c⟩ => ?_
  subst e1 e2
  obtain ⟨d, n1, q⟩ := rd1_ok hh r1 q0
  cases d <;> try exact False.elim q
  case str l0 =>
    rw [n1.str]
    refine .inr (.inr ⟨_, rfl, by rw [len_mk]; exact q.1, ?_⟩)
    rw [cutS_mk]
    exact c.here hh q.2 Rep.strL
  case tup ds =>
    obtain ⟨p, vs, rfl, s1, rr⟩ := n1.tup hh.h
    refine .inr (.inl ⟨p, vs, rfl, s1, fun hw => ?_, fun hw p2 hp => ?_⟩)
    · rw [rr.length] at hw
      exact c.here (b := U.d (D.tup (Pl.cut ds l u'))) hh q (by rw [cut_whole hw]; exact n1)
    · have x : Ext 0 w (w.add p2 (.tup (cutV vs l u'))) := Ext.add (hh.h.free hp).1 (hh.h.free hp).2.1
      exact c.new hh hp q (show RepU X.K _ _ (.d _) from .tup (SqT.of (show upd w.F p2 _ p2 = _ from upd_same)) (rr.cut.ext x))
  case lst ds =>
    obtain ⟨p, vs, rfl, s1, rr⟩ := n1
    exact .inl ⟨p, vs, rfl, SqL.of s1, fun p2 hp => coMk c hh hp rr.cut q⟩

/-! ### built-ins called -/
abbrev RL' := List U → SS → (U → SS → Prop) → XX → Prop
def CalL (K : PySem.W.Frag) (W : WX) (r : List V → Hp → VK → Prop) (r' : RL') (kr : Nat) : Prop :=
  ∀ {w : Wd} {S : SS} {H : Hp} {σ : L2.St} {env : Env} {vs : List V} {us : List U} {Φ : U → SS → Prop} {Ψ : XX} {Q : VK}, Here K w S H σ env kr → RepUs K w vs us → r' us S Φ Ψ → Co (RepU K) K W kr w σ Φ Ψ Q → r vs H Q
def tCal' (r' : RL') (ta : TA') : TE' := fun env S Φ Ψ => ta env S (fun us S1 => r' us S1 Φ Ψ) Ψ
theorem cal_lift {K : PySem.W.Frag} {r : List V → Hp → VK → Prop} {r' : RL'} (hl : CalL K W r r' kr) {σ : L2.St} {H : Hp} {Q : VK} (h : liftE K W (tCal' r' tas) (ka + kr) σ H Q) : liftA K W tas ka σ H fun vs H1 => r vs H1 Q :=
  lift_mono (lift_bind (g := fun us _ S Φ Ψ => r' us S Φ Ψ) h) fun x H1 ⟨w, u, env, S, Φ, Ψ, hh, r1, q, c⟩ => hl hh r1 q c
variable {x : Str} {id T : String} {r : List V → Hp → VK → Prop} {r' : RL'}
theorem qcB (hc : CallR X (.builtin id) r) (hl : CalL X.K W r r' kr) (hm : X.mg x = none) (hv : bootBuiltins x = some (.builtin id)) (ha : PA X (e :: es) (liftA X.K W tas ka)) (hg : Gl X x := by rfl) (hn : x ≠ "__name__" := by decide) (hdb : (x == ("__debug__" : Str)) = false := by decide)
    (he : starEach (e :: es) X.env = (false, eval e X.env) :: starEach es X.env := by rfl) (hpl : (backTo pos (starEach es X.env)).any (·.1) = false := by rfl) : PE X (.Call (.Name x p) (e :: es) [] pos) (liftE X.K W (tCal' r' tas) (ka + kr)) :=
  PE.imp (pe_callB hc hg hm hv ha hn hdb he hpl) fun _ _ _ h => cal_lift hl h
theorem qcT (hc : CallR X (.type T) r) (hl : CalL X.K W r r' kr) (hm : X.mg x = none) (hv : bootBuiltins x = some (.type T)) (ha : PA X (e :: es) (liftA X.K W tas ka)) (hg : Gl X x := by rfl) (hn : x ≠ "__name__" := by decide) (hdb : (x == ("__debug__" : Str)) = false := by decide)
    (he : starEach (e :: es) X.env = (false, eval e X.env) :: starEach es X.env := by rfl) (hpl : (backTo pos (starEach es X.env)).any (·.1) = false := by rfl) : PE X (.Call (.Name x p) (e :: es) [] pos) (liftE X.K W (tCal' r' tas) (ka + kr)) :=
  PE.imp (pe_callTy hc hg hm hv ha hn hdb he hpl) fun _ _ _ h => cal_lift hl h
/-- one argument that can be read -/
def a1 (f : D → SS → (U → SS → Prop) → Prop) : RL' := fun us S Φ Ψ => match us with
  | [u] => rd1 f u S Φ Ψ
  | _ => False
theorem a1_ok {K : PySem.W.Frag} {f : D → SS → (U → SS → Prop) → Prop} {w : Wd} {S : SS} {H : Hp} {σ : L2.St} {env : Env} {vs : List V} {us : List U} {Φ : U → SS → Prop} {Ψ : XX} (hh : Here K w S H σ env k) (r1 : RepUs K w vs us) (q : a1 f us S Φ Ψ) :
    ∃ v d, vs = [v] ∧ RepN K w H v d ∧ f d S Φ := by
  cases r1 with
  | nil => exact False.elim q
  | cons h r =>
    cases r with
    | cons _ _ => exact False.elim q
    | nil =>
      obtain ⟨d, n, q⟩ := rd1_ok (Ψ := Ψ) hh h q
      exact ⟨_, d, rfl, n, q⟩
def a2 (f : D → D → SS → (U → SS → Prop) → Prop) : RL' := fun us S Φ Ψ => match us with
  | [u, z] => rd2 f u z S Φ Ψ
  | _ => False
theorem a2_ok {K : PySem.W.Frag} {f : D → D → SS → (U → SS → Prop) → Prop} {w : Wd} {S : SS} {H : Hp} {σ : L2.St} {env : Env} {vs : List V} {us : List U} {Φ : U → SS → Prop} {Ψ : XX} (hh : Here K w S H σ env k) (r1 : RepUs K w vs us) (q : a2 f us S Φ Ψ) :
    ∃ v d v2 d2, vs = [v, v2] ∧ RepN K w H v d ∧ RepN K w H v2 d2 ∧ f d d2 S Φ := by
  cases r1 with
  | nil => exact False.elim q
  | cons h r =>
    cases r with
    | nil => exact False.elim q
    | cons h2 r =>
      cases r with
      | cons _ _ => exact False.elim q
      | nil =>
        obtain ⟨d, d2, n, n2, q⟩ := rd2_ok (Ψ := Ψ) hh h h2 q
        exact ⟨_, d, _, d2, rfl, n, n2, q⟩
/-- len -/
def fLen : D → SS → (U → SS → Prop) → Prop
  | .str l, S, Φ => l.length ≤ sizeLine ∧ Φ (.d (.int l.length)) S
  | .lst l, S, Φ => Φ (.d (.int l.length)) S
  | .tup l, S, Φ => Φ (.d (.int l.length)) S
  | .scr l, S, Φ => Φ (.d (.int l.length)) S
  | .dic ks _, S, Φ => Φ (.d (.int ks.length)) S
  | _, _, _ => False
theorem lenL {K : PySem.W.Frag} : CalL K W (fun xs H Q => (∃ x n, xs = [x] ∧ LenV K x H n ∧ Q (.int (n : Nat)) H) ∨ ∃ p kvs, xs = [.ref p] ∧ H p = some (.dK kvs) ∧ Q (.int (kvs.length : Nat)) H) (a1 fLen) 0 := by
  intro w S H σ env vs us Φ Ψ Q hh r1 q c
  obtain ⟨v, d, rfl, n1, q⟩ := a1_ok hh r1 q
  cases d <;> try exact False.elim q
  case str l =>
    rw [n1.str]
    exact .inl ⟨_, l.length, rfl, ⟨by rw [len_mk]; exact q.1, (len_mk l).symm⟩, c.here hh q.2 .int⟩
  case tup ds =>
    obtain ⟨p, vs, rfl, s1, rr⟩ := n1.tup hh.h
    exact .inl ⟨_, ds.length, rfl, .inr ⟨vs, s1, rr.length.symm⟩, c.here hh q .int⟩
  case lst ds =>
    obtain ⟨p, vs, rfl, s1, rr⟩ := n1
    exact .inl ⟨_, ds.length, rfl, .inl ⟨vs, SqL.of s1, rr.length.symm⟩, c.here hh q .int⟩
  case scr ds =>
    obtain ⟨p, vs, rfl, s1, rr⟩ := n1.scr hh.h
    exact .inl ⟨_, ds.length, rfl, .inl ⟨vs, s1, rr.length.symm⟩, c.here hh q .int⟩
  case dic ks ds =>
    obtain ⟨p, vs, rfl, s1, hl, rr⟩ := n1
    refine .inr ⟨p, _, rfl, s1, ?_⟩
    have e : (ks.zip vs).length = ks.length := by rw [List.length_zip, hl, Nat.min_self]
    rw [e]
    exact c.here hh q .int
theorem call_lenA : CallR X (.builtin "len") (fun xs H Q => (∃ x n, xs = [x] ∧ LenV X.K x H n ∧ Q (.int (n : Nat)) H) ∨ ∃ p kvs, xs = [.ref p] ∧ H p = some (.dK kvs) ∧ Q (.int (kvs.length : Nat)) H) := CallR.or call_len fun pins s σ H xs us Q I r ⟨p, kvs, e, h, q⟩ => call_lenD pins s σ H xs us Q I r ⟨p, kvs, e, h, q⟩

/-- abs, max, min, int -/
def fAbs : D → SS → (U → SS → Prop) → Prop
  | .int i, S, Φ => Φ (.d (.int (if i < 0 then -i else i))) S
  | _, _, _ => False
theorem absL {K : PySem.W.Frag} : CalL K W (fun xs H Q => ∃ i, xs = [.int i] ∧ Q (.int (if i < 0 then -i else i)) H) (a1 fAbs) 0 := by
  intro w S H σ env vs us Φ Ψ Q hh r1 q c
  obtain ⟨v, d, rfl, n1, q⟩ := a1_ok hh r1 q
  cases d <;> try exact False.elim q
  rw [n1.int]
  exact ⟨_, rfl, c.here hh q .int⟩
def fMax : D → D → SS → (U → SS → Prop) → Prop
  | .int i, .int j, S, Φ => Φ (.d (.int (if j > i then j else i))) S
  | _, _, _, _ => False
theorem maxL {K : PySem.W.Frag} : CalL K W (fun xs H Q => ∃ i j, xs = [.int i, .int j] ∧ Q (.int (if j > i then j else i)) H) (a2 fMax) 0 := by
  intro w S H σ env vs us Φ Ψ Q hh r1 q c
  obtain ⟨v, d, v2, d2, rfl, n1, n2, q⟩ := a2_ok hh r1 q
  cases d <;> cases d2 <;> try exact False.elim q
  rw [n1.int, n2.int]
  exact ⟨_, _, rfl, c.here hh q .int⟩
def fMin : D → D → SS → (U → SS → Prop) → Prop
  | .int i, .int j, S, Φ => Φ (.d (.int (if j < i then j else i))) S
  | _, _, _, _ => False
theorem minL {K : PySem.W.Frag} : CalL K W (fun xs H Q => ∃ i j, xs = [.int i, .int j] ∧ Q (.int (if j < i then j else i)) H) (a2 fMin) 0 := by
  intro w S H σ env vs us Φ Ψ Q hh r1 q c
  obtain ⟨v, d, v2, d2, rfl, n1, n2, q⟩ := a2_ok hh r1 q
  cases d <;> cases d2 <;> try exact False.elim q
  rw [n1.int, n2.int]
  exact ⟨_, _, rfl, c.here hh q .int⟩
def fInt : D → SS → (U → SS → Prop) → Prop
  | .int i, S, Φ => Φ (.d (.int i)) S
  | .bl k, S, Φ => Φ (.d (.int (if k then 1 else 0))) S
  | _, _, _ => False
theorem intL {K : PySem.W.Frag} : CalL K W (fun xs H Q => (∃ i, xs = [.int i] ∧ Q (.int i) H) ∨ ∃ k, xs = [.bl k] ∧ Q (.int (if k then 1 else 0)) H) (a1 fInt) 0 := by
  intro w S H σ env vs us Φ Ψ Q hh r1 q c
  obtain ⟨v, d, rfl, n1, q⟩ := a1_ok hh r1 q
  cases d <;> try exact False.elim q
  · rw [n1.bl]
    exact .inr ⟨_, rfl, c.here hh q .int⟩
  · rw [n1.int]
    exact .inl ⟨_, rfl, c.here hh q .int⟩
/-- list(..), tuple(..) -/
def fList (kind : Option Nat) : D → SS → (U → SS → Prop) → Prop
  | .lst ds, S, Φ => mk kind ds S Φ
  | .tup ds, S, Φ => mk kind ds S Φ
  | .scr ds, S, Φ => mk kind ds S Φ
  | _, _, _ => False
theorem listL {K : PySem.W.Frag} {kind : Option Nat} : CalL K W (fun xs H Q => ∃ p ys, xs = [.ref p] ∧ (SqL K H p ys ∨ SqT K H p ys) ∧ ∀ l, H l = none → Q (.ref l) (upd H l (.lst ys))) (a1 (fList kind)) 0 := by
  intro w S H σ env vs us Φ Ψ Q hh r1 q c
  obtain ⟨v, d, rfl, n1, q⟩ := a1_ok hh r1 q
  cases d <;> try exact False.elim q
  case tup ds =>
    obtain ⟨p, vs, rfl, s1, rr⟩ := n1.tup hh.h
    exact ⟨p, vs, rfl, .inr s1, fun p2 hp => coMk c hh hp rr q⟩
  case lst ds =>
    obtain ⟨p, vs, rfl, s1, rr⟩ := n1
    exact ⟨p, vs, rfl, .inl (SqL.of s1), fun p2 hp => coMk c hh hp rr q⟩
  case scr ds =>
    obtain ⟨p, vs, rfl, s1, rr⟩ := n1.scr hh.h
    exact ⟨p, vs, rfl, .inl s1, fun p2 hp => coMk c hh hp rr q⟩
def fTuple : D → SS → (U → SS → Prop) → Prop
  | .lst ds, S, Φ => Φ (.d (.tup ds)) S
  | .tup ds, S, Φ => Φ (.d (.tup ds)) S
  | _, _, _ => False
theorem tupleL {K : PySem.W.Frag} : CalL K W (fun xs H Q => ∃ p ys, xs = [.ref p] ∧ ((SqL K H p ys ∧ ∀ l, H l = none → Q (.ref l) (upd H l (.tup ys))) ∨ (SqT K H p ys ∧ Q (.ref p) H))) (a1 fTuple) 0 := by
  intro w S H σ env vs us Φ Ψ Q hh r1 q c
  obtain ⟨v, d, rfl, n1, q⟩ := a1_ok hh r1 q
  cases d <;> try exact False.elim q
  case tup ds =>
    obtain ⟨p, vs, rfl, s1, rr⟩ := n1.tup hh.h
    exact ⟨p, vs, rfl, .inr ⟨s1, c.here hh q n1⟩⟩
  case lst ds =>
    obtain ⟨p, vs, rfl, s1, rr⟩ := n1
    refine ⟨p, vs, rfl, .inl ⟨SqL.of s1, fun p2 hp => ?_⟩⟩
    have x : Ext 0 w (w.add p2 (.tup vs)) := Ext.add (hh.h.free hp).1 (hh.h.free hp).2.1
    exact c.new hh hp q (show RepU K _ _ (.d _) from .tup (SqT.of (show upd w.F p2 _ p2 = _ from upd_same)) (rr.ext x))
/-- all, any of a list of truths -/
def asBl : List D → Option (List Bool)
  | [] => some []
  | .bl b :: ds => match asBl ds with
    | some bs => some (b :: bs)
    | none => none
  | _ :: _ => none
theorem asBl_ok {K : PySem.W.Frag} {F : Hp} {J : Addr → Prop} : ∀ {ds : List D} {bs : List Bool} {vs : List V}, asBl ds = some bs → Reps K F J vs ds → vs = bs.map V.bl
  | [], bs, _, e, .nil => by
    have : bs = [] := by simpa [asBl] using e.symm
    rw [this]; rfl
  | d :: ds, bs, _, e, .cons h r => by
    cases d <;> try (simp [asBl] at e; done)
    rename_i b
    cases q : asBl ds with
    | none => simp [asBl, q] at e
    | some cs =>
      have : bs = b :: cs := by simpa [asBl, q] using e.symm
      subst this
      cases h
      rw [asBl_ok q r]; rfl
def fAll (g : List Bool → Bool) : D → SS → (U → SS → Prop) → Prop
  | .lst ds, S, Φ => ∃ bs, asBl ds = some bs ∧ Φ (.d (.bl (g bs))) S
  | _, _, _ => False
theorem allL {K : PySem.W.Frag} {g : List Bool → Bool} : CalL K W (fun vs H Q => ∃ a bs, vs = [.ref a] ∧ SqL K H a (bs.map V.bl) ∧ Q (.bl (g bs)) H) (a1 (fAll g)) 0 := by
  intro w S H σ env vs us Φ Ψ Q hh r1 q c
  obtain ⟨v, d, rfl, n1, q⟩ := a1_ok hh r1 q
  cases d <;> try exact False.elim q
  obtain ⟨p, vs, rfl, s1, rr⟩ := n1
  obtain ⟨bs, e, q⟩ := q
  rw [asBl_ok e rr] at s1
  exact ⟨p, bs, rfl, SqL.of s1, c.here hh q .bl⟩
/-- isinstance(x, c): g says the answer by the datum -/
def IsiG (K : PySem.W.Frag) (u : Value) (g : D → Option Bool) : Prop := ∀ {w : Wd} {S : SS} {H : Hp} {v : V} {d : D} {b : Bool}, HRel K w S H → g d = some b → RepN K w H v d → ∃ t, TyX K H v t ∧ PySem.W.kitOne K t u = some b
def gTy (cs : List String) (d : D) : Option Bool := match d with
  | .non => some (cs.contains "NoneType") | .bl _ => some (cs.contains "bool") | .int _ => some (cs.contains "int") | .str _ => some (cs.contains "str")
  | .tup _ => some (cs.contains "tuple") | .lst _ => some (cs.contains "list") | .dic _ _ => some (cs.contains "dict") | _ => none
theorem isiTy {K : PySem.W.Frag} {T : String} {cs : List String} (h : (["NoneType", "bool", "int", "str", "tuple", "list", "dict"].all fun n => kitB n T == some (cs.contains n)) = true) : IsiG K (.type T) (gTy cs) := by
  intro w S H v d b hh e r
  have f : ∀ n, n ∈ ["NoneType", "bool", "int", "str", "tuple", "list", "dict"] → kitB n T = some (cs.contains n) := fun n hn => by simpa using List.all_eq_true.mp h n hn
  cases d <;> simp only [gTy, Option.some.injEq, reduceCtorEq] at e <;> subst e
  · rw [r.non]; exact ⟨_, .base .non, kit_ty (f _ (by simp))⟩
  · rw [r.bl]; exact ⟨_, .base (.bl _), kit_ty (f _ (by simp))⟩
  · rw [r.int]; exact ⟨_, .base (.int _), kit_ty (f _ (by simp))⟩
  · rw [r.str]; exact ⟨_, .base (.str _), kit_ty (f _ (by simp))⟩
  · obtain ⟨p, vs, rfl, s1, rr⟩ := r.tup hh
    refine ⟨.type "tuple", ?_, kit_ty (f _ (by simp))⟩
    rcases s1 with (s1 | ⟨o, s1⟩) | ⟨o, _, _, s1, c1, _⟩
    · exact .base (.tup s1)
    · exact .fTuple s1
    · exact .kTuple s1 c1
  · obtain ⟨p, vs, rfl, s1, rr⟩ := r
    exact ⟨_, .base (.lst s1), kit_ty (f _ (by simp))⟩
  · obtain ⟨p, vs, rfl, s1, rr⟩ := r
    exact ⟨_, .base (.dK s1), kit_ty (f _ (by simp))⟩
def isCl (u : Value) : D → Bool
  | .ty n => u == .type n
  | .cls C => u == .ref C
  | _ => false
/-- the class c stands for u; the datum's answer is g's -/
def tIsi' (g : D → Option Bool) (ta : TE') : TE' := fun env S Φ Ψ => ta env S (fun u S1 => match rd u S1 with
  | some d => match g d with
    | some b => Φ (.d (.bl b)) S1
    | none => False
  | none => False) Ψ
theorem qisi {g : D → Option Bool} {u : Value} {cv : V} (hg : IsiG X.K u g) (hcl : ClsV cv u) (hm : X.mg ("isinstance" : Str) = none) (ha : PE X a (liftE X.K W ta ka)) (hb : PE X b (tC cv)) (hG : Gl X ("isinstance" : Str) := by rfl)
    (he : starEach (a :: b :: []) X.env = (false, eval a X.env) :: starEach [b] X.env := by rfl) (he2 : starEach (b :: []) X.env = (false, eval b X.env) :: starEach [] X.env := by rfl) (hpl : (backTo pos (starEach [b] X.env)).any (·.1) = false := by rfl) :
    PE X (.Call (.Name ("isinstance" : Str) p) [a, b] [] pos) (liftE X.K W (tIsi' g ta) ka) := by
  refine PE.imp (pe_callB call_isi hG hm (by decide +kernel) (pa_cons ha (pa_cons hb pa_nil he2) he) (by decide +kernel) (by decide +kernel) he hpl) fun σ H Q ⟨w, env, S, Φ, Ψ, hr, hE, hl, t, c⟩ => ?_
  refine ⟨w, env, S, _, Ψ, hr, hE, hl, t, ⟨fun u S1 q w1 x H1 y ya h1 r => ?_, c.xx⟩⟩
  cases e1 : rd u S1 with
  | none => simp only [e1] at q
  | some d =>
    simp only [e1] at q
    cases e2 : g d with
    | none => simp only [e2] at q
    | some b0 =>
      simp only [e2] at q
      obtain ⟨t0, ty, kk⟩ := hg h1 e2 (rd_ok h1 r e1)
      exact ⟨x, cv, t0, _, b0, rfl, hcl, ty, kk, c.ok _ _ q _ _ _ y ya h1 .bl⟩
end
end Pl

namespace Pl
open PySem PySem.Spec PyProof.Rows L2 TL

/-! ### defs -/
abbrev Sp' := List D → (D → Prop) → (Ex → Prop) → Prop
structure After (F : Hp) (J : Addr → Prop) (n k : Nat) (H : Hp) (F1 : Hp) (J1 : Addr → Prop) (n1 : Nat) (H1 : Hp) : Prop where
  sF : Same F F1
  sJ : ∀ a, J a → J1 a
  sn : n1 ≤ n + k
  fz : Same F1 H1
  jr : ∀ a, J1 a → JarAt n1 (H1 a) ∧ F1 a = none
  fr : ∀ a o, H a = some o → ¬ J a → H1 a = some o
  nF : ∀ a o, F1 a = some o → F a = some o ∨ H a = none
  nJ : ∀ a, J1 a → J a ∨ H a = none
/-- a promise over data as a promise over the heap -/
def liftP (K : PySem.W.Frag) (sp : Sp') (k : Nat) : Sp := fun vs H Q E => ∃ (F : Hp) (J : Addr → Prop) (n : Nat) (ds : List D) (Φ : D → Prop) (Ψ : Ex → Prop),
  Same F H ∧ (∀ a, J a → JarAt n (H a) ∧ F a = none) ∧ Reps K F J vs ds ∧ n + k ≤ LIM ∧ sp ds Φ Ψ ∧
  (∀ d, Φ d → ∀ F1 J1 n1 v H1, After F J n k H F1 J1 n1 H1 → Rep K F1 J1 v d → Q v H1) ∧
  (∀ x, Ψ x → ∀ F1 J1 n1 H1 C dd, After F J n k H F1 J1 n1 H1 → RepX K F1 J1 H1 C dd x → E C dd H1)
section
variable {K : PySem.W.Frag} {w : Wd} {S : SS} {H : Hp} {σ : L2.St} {env : Env} {k kg : Nat}
/-- the world behind a call -/
theorem After.world {F1 : Hp} {J1 : Addr → Prop} {n1 : Nat} {H1 : Hp} (x : After w.F w.J w.n k H F1 J1 n1 H1) (h : HRel K w S H) :
    Ext k w { w with F := F1, J := J1, n := n1 } ∧ HRel K { w with F := F1, J := J1, n := n1 } S H1 := by
  have E : Ext k w { w with F := F1, J := J1, n := n1 } := ⟨x.sF, x.sJ, rfl, x.sn, fun a o e => (x.nF a o e).elim .inl fun q => .inr (h.fr.free q), rfl, fun _ _ h => h⟩
  refine ⟨E, ⟨x.fz, fun a o e => x.fr a o (h.fr a o e) fun j => ?_, fun a j => ⟨(x.jr a j).1, (x.jr a j).2, ?_⟩, h.len, h.dead, fun i m e => ?_, h.inj, h.pin⟩⟩
  · have q := (h.jr a j).2.2
    rw [e] at q; cases q
  · rcases x.nJ a j with z | z
    · exact (h.jr a z).2.2
    · exact h.fr.free z
  · obtain ⟨a, ea, ⟨ho, e1, r⟩, n1', n2, n3⟩ := h.live i m e
    refine ⟨a, ea, ⟨ho, x.fr a ho e1 n3, r.ext E fun _ _ h => h⟩, ?_, n2, fun j => ?_⟩
    · cases q : F1 a with
      | none => exact q
      | some o =>
        rcases x.nF a o q with z | z
        · rw [n1'] at z; cases z
        · rw [e1] at z; cases z
    · rcases x.nJ a j with z | z
      · exact n3 z
      · rw [e1] at z; cases z
end

/-! ### statements -/
structure End' where
  nx : Env → SS → Prop
  rt : U → SS → Prop
  bk : Env → SS → Prop := fun _ _ => False
  ct : Env → SS → Prop := fun _ _ => False
  xx : Ex → Env → SS → Prop
abbrev TS' := End' → Env → SS → Prop
structure CoS (K : PySem.W.Frag) (W : WX) (k : Nat) (w : Wd) (D' : End') (D : Ends) : Prop where
  nx : ∀ env1 S1, D'.nx env1 S1 → ∀ w1 σ1 H1, Ext k w w1 → HRel K w1 S1 H1 → EnvR K w1 σ1 env1 → D.nx σ1 H1
  rt : ∀ u S1, D'.rt u S1 → ∀ w1 v H1, Ext k w w1 → HRel K w1 S1 H1 → RepU K w1 v u → D.rt v H1
  bk : ∀ env1 S1, D'.bk env1 S1 → ∀ w1 σ1 H1, Ext k w w1 → HRel K w1 S1 H1 → EnvR K w1 σ1 env1 → D.bk σ1 H1
  ct : ∀ env1 S1, D'.ct env1 S1 → ∀ w1 σ1 H1, Ext k w w1 → HRel K w1 S1 H1 → EnvR K w1 σ1 env1 → D.ct σ1 H1
  xx : ∀ x env1 S1, D'.xx x env1 S1 → ∀ w1 σ1 H1 C d, Ext k w w1 → HRel K w1 S1 H1 → EnvR K w1 σ1 env1 → RepX K w1.F w1.J H1 C d x → W C d σ1 H1
def liftS (K : PySem.W.Frag) (W : WX) (t : TS') (k : Nat) : TS := fun D σ H => ∃ w env S D', HRel K w S H ∧ EnvR K w σ env ∧ w.n + k ≤ LIM ∧ t D' env S ∧ CoS K W k w D' D
section
variable {K : PySem.W.Frag} {W : WX} {j k ka kb kc kr : Nat} {w w1 : Wd} {D' : End'} {D : Ends}
theorem CoS.ext (c : CoS K W (j + k) w D' D) (x : Ext j w w1) : CoS K W k w1 D' D :=
  ⟨fun e S h w2 a H1 y r q => c.nx e S h w2 a H1 (x.trans y) r q, fun e S h w2 a H1 y r q => c.rt e S h w2 a H1 (x.trans y) r q, fun e S h w2 a H1 y r q => c.bk e S h w2 a H1 (x.trans y) r q,
    fun e S h w2 a H1 y r q => c.ct e S h w2 a H1 (x.trans y) r q, fun z e S h w2 a H1 C d y r q => c.xx z e S h w2 a H1 C d (x.trans y) r q⟩
theorem CoS.le (c : CoS K W k w D' D) (h : j ≤ k) : CoS K W j w D' D :=
  ⟨fun e S q w2 a H1 y r z => c.nx e S q w2 a H1 (y.le h) r z, fun e S q w2 a H1 y r z => c.rt e S q w2 a H1 (y.le h) r z, fun e S q w2 a H1 y r z => c.bk e S q w2 a H1 (y.le h) r z,
    fun e S q w2 a H1 y r z => c.ct e S q w2 a H1 (y.le h) r z, fun z e S q w2 a H1 C d y r t => c.xx z e S q w2 a H1 C d (y.le h) r t⟩
/-- an expression within a statement -/
theorem exp_lift {α β : Type} {Rp : RP α β} {ta : TG' β} {g : β → TS'} {σ : L2.St} {H : Hp} (h : liftS K W (fun D' env S => ta env S (fun b S1 => g b D' env S1) (fun x S1 => D'.xx x env S1)) (ka + kr) D σ H) :
    lift Rp K W ta ka σ H fun a H1 => ∃ w b env S D', Here K w S H1 σ env kr ∧ Rp w a b ∧ g b D' env S ∧ CoS K W kr w D' D := by
  obtain ⟨w, env, S, D', hr, he, hl, t, c⟩ := h
  refine ⟨w, env, S, _, _, hr, he, by omega, t, ⟨fun b S1 q w1 a H1 x xa hr1 r => ?_, fun e S1 q w1 C d H1 x xa hr1 r => ?_⟩⟩
  · exact ⟨w1, b, env, S1, D', ⟨hr1, he.ext x xa, by have := x.n; omega⟩, r, q, c.ext x⟩
  · exact c.xx e env S1 q w1 σ H1 C d (x.le (by omega)) hr1 (he.ext x xa) r
end
section
variable {X : Cx} {W : WX} {pos p : Pos} {e a b c : Expr} {st : Stmt} {rest body body2 : List Stmt} {ta tb te : TE'} {ua : TT'} {t u : TS'} {k ka kb kc kr : Nat}
def tNext' : TS' := fun D env S => D.nx env S
def tSeq' (t u : TS') : TS' := fun D env S => t { D with nx := u D } env S
theorem qs_nil : PSs X [] (liftS X.K W tNext' 0) := PSs.imp pss_nil fun D σ H ⟨w, env, S, D', hr, he, hl, q, c⟩ => c.nx env S q w σ H (Ext.refl _ _) hr he
theorem qs_cons (h1 : PS X st (liftS X.K W t ka)) (h2 : PSs X rest (liftS X.K W u kb)) : PSs X (st :: rest) (liftS X.K W (tSeq' t u) (ka + kb)) := by
  refine PSs.imp (pss_cons h1 h2) fun D σ H ⟨w, env, S, D', hr, he, hl, q, c⟩ => ?_
  refine ⟨w, env, S, _, hr, he, by omega, q, ⟨fun env1 S1 q1 w1 σ1 H1 x h1 e1 => ?_, (c.le (by omega)).rt, (c.le (by omega)).bk, (c.le (by omega)).ct, (c.le (by omega)).xx⟩⟩
  exact ⟨w1, env1, S1, D', h1, e1, by have := x.n; omega, q1, c.ext x⟩
theorem qs_one (h1 : PS X st (liftS X.K W t ka)) : PSs X [st] (liftS X.K W t ka) := pss_one h1
theorem qpass : PS X (.Pass pos) (liftS X.K W tNext' 0) := PS.imp ps_pass fun D σ H ⟨w, env, S, D', hr, he, hl, q, c⟩ => c.nx env S q w σ H (Ext.refl _ _) hr he
theorem qdoc {x j pos'} : PS X (.Expr (.Constant (.str x) j pos) pos') (liftS X.K W tNext' 0) := PS.imp ps_doc fun D σ H ⟨w, env, S, D', hr, he, hl, q, c⟩ => c.nx env S q w σ H (Ext.refl _ _) hr he
def tRet' (te : TE') : TS' := fun D env S => te env S (fun u S1 => D.rt u S1) (fun x S1 => D.xx x env S1)
theorem qret (he : PE X e (liftE X.K W te k)) : PS X (.Return (some e) pos) (liftS X.K W (tRet' te) (k + 0)) :=
  PS.imp (ps_ret he) fun D σ H h => lift_mono (exp_lift (g := fun u D _ S => D.rt u S) h) fun v H1 ⟨w, u, env, S, D', hh, r, q, c⟩ => c.rt u S q w v H1 (Ext.refl _ _) hh.h r
theorem qretN : PS X (.Return none pos) (liftS X.K W (fun D _ S => D.rt (.d .non) S) 0) := PS.imp ps_retN fun D σ H ⟨w, env, S, D', hr, he, hl, q, c⟩ => c.rt _ S q w .non H (Ext.refl _ _) hr Rep.non
def tDrop' (te : TE') : TS' := fun D env S => te env S (fun _ S1 => D.nx env S1) (fun x S1 => D.xx x env S1)
theorem qexpr (he : PE X e (liftE X.K W te k)) (hs : swapsWith e none pos.line X.env = pure false := by rfl) : PS X (.Expr e pos) (liftS X.K W (tDrop' te) (k + 0)) :=
  PS.imp (ps_expr he hs) fun D σ H h => lift_mono (exp_lift (g := fun _ D env S => D.nx env S) h) fun v H1 ⟨w, u, env, S, D', hh, r, q, c⟩ => c.nx env S q w σ H1 (Ext.refl _ _) hh.h hh.e
def tIfS' (ua : TT') (t u : TS') : TS' := fun D env S => ua env S (fun c S1 => if c = true then t D env S1 else u D env S1) (fun x S1 => D.xx x env S1)
theorem qifS (hc : PT X c (liftT X.K W ua ka)) (h1 : PSs X body (liftS X.K W t kb)) (h2 : PSs X body2 (liftS X.K W u kc)) : PS X (.If c body body2 pos) (liftS X.K W (tIfS' ua t u) (ka + (kb + kc))) :=
  PS.imp (ps_if hc h1 h2) fun D σ H h => lift_mono (exp_lift (Rp := fun _ (a b : Bool) => a = b) (g := fun c D env S => if c = true then t D env S else u D env S) h) fun b H1 ⟨w, b', env, S, D', hh, r, q, c⟩ => by
    subst r
    cases b with
    | true => exact ⟨w, env, S, D', hh.h, hh.e, by have := hh.l; omega, q, c.le (by omega)⟩
    | false => exact ⟨w, env, S, D', hh.h, hh.e, by have := hh.l; omega, q, c.le (by omega)⟩
/-- name = e -/
def tSet' (i : Nat) (te : TE') : TS' := fun D env S => te env S (fun u S1 => D.nx (env.set i (some u)) S1) (fun x S1 => D.xx x env S1)
theorem qset (i : Nat) {x : Str} {pos' : Pos} (he : PE X e (liftE X.K W te k)) (hN : X.N.Nodup) (hi : X.N[i]? = some x := by rfl) (hx : Loc X.env.scope x := by first | exact Or.inl rfl | exact Or.inr rfl) (hs : swapsWith e (some (.Name x pos')) pos.line X.env = pure false := by rfl)
    (hf : X.fn x = true ∨ X.env.scope.names.lookup x = some .local := by first | exact .inl rfl | exact .inr rfl) : PS X (.Assign [.Name x pos'] e pos) (liftS X.K W (tSet' i te) (k + 0)) :=
  PS.imp (ps_set hN hi hx he hs hf) fun D σ H h => lift_mono (exp_lift (g := fun u D env S => D.nx (env.set i (some u)) S) h) fun v H1 ⟨w, u, env, S, D', hh, r, q, c⟩ => c.nx _ S q w _ H1 (Ext.refl _ _) hh.h (hh.e.set r)

/-! ### targets: names, tuples of names -/
abbrev TGt' := U → Env → SS → (Env → SS → Prop) → Prop
abbrev TGts' := List U → Env → SS → (Env → SS → Prop) → Prop
def liftG (K : PySem.W.Frag) (t : TGt') : TG := fun v σ H Q => ∃ w env S u Φ, HRel K w S H ∧ EnvR K w σ env ∧ RepU K w v u ∧ t u env S Φ ∧ ∀ env1 S1, Φ env1 S1 → ∀ σ1, HRel K w S1 H → EnvR K w σ1 env1 → Q σ1 H
def liftGs (K : PySem.W.Frag) (t : TGts') : TGs := fun vs σ H Q => ∃ w env S us Φ, HRel K w S H ∧ EnvR K w σ env ∧ RepUs K w vs us ∧ t us env S Φ ∧ ∀ env1 S1, Φ env1 S1 → ∀ σ1, HRel K w S1 H → EnvR K w σ1 env1 → Q σ1 H
theorem PG.imp {e : Expr} {t t2 : TG} (h : PG X e t) (i : ∀ v σ H Q, t2 v σ H Q → t v σ H Q) : PG X e t2 := ⟨fun pins s σ H v u Q I r q => h.run pins s σ H v u Q I r (i v σ H Q q)⟩
theorem PGs.imp {e : List Expr} {t t2 : TGs} (h : PGs X e t) (i : ∀ v σ H Q, t2 v σ H Q → t v σ H Q) : PGs X e t2 := ⟨fun pins s σ H v u Q I r q => h.run pins s σ H v u Q I r (i v σ H Q q)⟩
def gName' (i : Nat) : TGt' := fun u env S Φ => Φ (env.set i (some u)) S
theorem qg_name (i : Nat) {x : Str} (hN : X.N.Nodup) (hi : X.N[i]? = some x := by rfl) (hx : Loc X.env.scope x := by first | exact Or.inl rfl | exact Or.inr rfl) (hf : X.fn x = true ∨ X.env.scope.names.lookup x = some .local := by first | exact .inl rfl | exact .inr rfl) :
    PG X (.Name x pos) (liftG X.K (gName' i)) := PG.imp (pg_name hN hi hx hf) fun v σ H Q ⟨w, env, S, u, Φ, hr, he, r, q, c⟩ => c _ _ q _ hr (he.set r)
def gNil' : TGts' := fun us env S Φ => match us with
  | [] => Φ env S
  | _ => False
def gCons' (t : TGt') (u : TGts') : TGts' := fun us env S Φ => match us with
  | x :: xs => t x env S fun env1 S1 => u xs env1 S1 Φ
  | [] => False
theorem qgs_nil : PGs X [] (liftGs X.K gNil') := PGs.imp pgs_nil fun vs σ H Q ⟨w, env, S, us, Φ, hr, he, r, q, c⟩ => by
  cases r with
  | nil => exact ⟨rfl, c _ _ q _ hr he⟩
  | cons _ _ => exact False.elim q
theorem qgs_cons {es : List Expr} {t : TGt'} {u : TGts'} (h1 : PG X e (liftG X.K t)) (h2 : PGs X es (liftGs X.K u)) (hs : (assignEach (e :: es) X.env).map (·.2) = assign e X.env :: (assignEach es X.env).map (·.2) := by rfl) :
    PGs X (e :: es) (liftGs X.K (gCons' t u)) := PGs.imp (pgs_cons h1 h2 hs) fun vs σ H Q ⟨w, env, S, us, Φ, hr, he, r, q, c⟩ => by
  cases r with
  | nil => exact False.elim q
  | cons h r => exact ⟨_, _, rfl, w, env, S, _, _, hr, he, h, q, fun env1 S1 q1 σ1 h1 e1 => ⟨w, env1, S1, _, Φ, h1, e1, r, q1, c⟩⟩
def gTup' (t : TGts') : TGt' := fun u env S Φ => match u with
  | .d (.tup ds) => t (ds.map .d) env S Φ
  | _ => False
theorem usOf {K : PySem.W.Frag} {w : Wd} : ∀ {vs : List V} {ds : List D}, Reps K w.F w.J vs ds → RepUs K w vs (ds.map U.d)
  | _, _, .nil => .nil
  | _, _, .cons h r => .cons (u := .d _) h (usOf r)
/-- the number of targets is as wanted -/
def sized (n : Nat) (t : TGts') : TGts' := fun us env S Φ => if us.length = n then t us env S Φ else False
theorem qg_tup {es : List Expr} {j : Nat} {t : TGts'} (n : Nat) (hc : X.calm = true) (h : PGs X es (liftGs X.K t)) (hn : (assignEach es X.env).length = n := by rfl) (hst : (assignEach es X.env).findIdx? (·.1) = none := by rfl) :
    PG X (.Tuple es j pos) (liftG X.K (gTup' (sized n t))) := PG.imp (pg_tup hc h hn hst) fun v σ H Q ⟨w, env, S, u, Φ, hr, he, r, q, c⟩ => by
  cases u with
  | r i => exact False.elim q
  | tup _ => exact False.elim q
  | d x =>
    cases x <;> try exact False.elim q
    rename_i ds
    obtain ⟨a, vs, rfl, s1, rr⟩ := RepN.tup (Rep.now hr r) hr
    have q' : (if (ds.map U.d).length = n then t (ds.map U.d) env S Φ else False) := q
    by_cases z : (ds.map U.d).length = n
    · rw [if_pos z] at q'
      exact ⟨a, vs, rfl, s1, by rw [rr.length]; simpa using z, w, env, S, _, Φ, hr, he, usOf rr, q', c⟩
    · rw [if_neg z] at q'; exact False.elim q'
/-- target = e -/
def tAsg' (te : TE') (g : TGt') : TS' := fun D env S => te env S (fun u S1 => g u env S1 D.nx) (fun x S1 => D.xx x env S1)
theorem qasg {tg : Expr} {g : TGt'} (he : PE X e (liftE X.K W te k)) (hg : PG X tg (liftG X.K g)) (hs : swapsWithSole [tg] e pos.line X.env = pure false := by rfl) (hw : swappedStores [tg] e X.env = pure none := by rfl)
    (h1 : (assignEach [tg] X.env).map (·.2) = [assign tg X.env] := by rfl) : PS X (.Assign [tg] e pos) (liftS X.K W (tAsg' te g) (k + 0)) :=
  PS.imp (ps_asg he hg hs hw h1) fun D σ H h => lift_mono (exp_lift (g := fun u D env S => g u env S D.nx) h) fun v H1 ⟨w, u, env, S, D', hh, r, q, c⟩ => ⟨w, env, S, u, D'.nx, hh.h, hh.e, r, q, fun env1 S1 q1 σ1 h1 e1 => c.nx env1 S1 q1 w σ1 H1 (Ext.refl _ _) h1 e1⟩
/-- a, b = e1, e2 by plain names -/
def tPar' (i j : Nat) (ta tb : TE') : TS' := fun D env S => ta env S (fun u S1 => tb env S1 (fun z S2 => D.nx ((env.set i (some u)).set j (some z)) S2) (fun x S2 => D.xx x env S2)) (fun x S1 => D.xx x env S1)
theorem qpar (i j : Nat) {x y : Str} {px py pt : Pos} {kt k2 pt2} (ha : PE X a (liftE X.K W ta ka)) (hb : PE X b (liftE X.K W tb kb)) (hN : X.N.Nodup) (hc : X.calm = true := by rfl) (hi : X.N[i]? = some x := by rfl) (hj : X.N[j]? = some y := by rfl) (hij : i ≠ j := by decide)
    (hx : X.env.scope.names.lookup x = some .local := by rfl) (hy : X.env.scope.names.lookup y = some .local := by rfl) (hs1 : starEach (a :: [b]) X.env = (false, eval a X.env) :: starEach [b] X.env := by rfl) (hs2 : starEach (b :: []) X.env = (false, eval b X.env) :: starEach [] X.env := by rfl)
    (hw : swappedStores [.Tuple [.Name x px, .Name y py] kt pt] (.Tuple [a, b] k2 pt2) X.env = pure (some [x, y]) := by rfl)
    (hs : swapsWithSole [.Tuple [.Name x px, .Name y py] kt pt] (.Tuple [a, b] k2 pt2) pos.line X.env = pure false := by rfl) :
    PS X (.Assign [.Tuple [.Name x px, .Name y py] kt pt] (.Tuple [a, b] k2 pt2) pos) (liftS X.K W (tPar' i j ta tb) (ka + kb)) := by
  refine PS.imp (ps_par hc hN hi hj hij hx hy (pa_cons ha (pa_cons hb pa_nil hs2) hs1) hw hs) fun D σ H ⟨w, env, S, D', hr, he, hl, q, c⟩ => ?_
  refine ⟨w, env, S, _, _, hr, he, by omega, q, ⟨fun u S1 q1 w1 v H1 x1 xa h1 r1 => ?_, fun e S1 q1 w1 C d H1 x1 xa h1 r1 => c.xx e env S1 q1 w1 σ H1 C d (x1.le (by omega)) h1 (he.ext x1 xa) r1⟩⟩
  refine ⟨w1, env, S1, _, _, h1, he.ext x1 xa, by have := x1.n; omega, q1, ⟨fun z S2 q2 w2 v2 H2 x2 xa2 h2 r2 => ?_, fun e S2 q2 w2 C d H2 x2 xa2 h2 r2 => c.xx e env S2 q2 w2 σ H2 C d (x1.trans x2) h2 ((he.ext x1 xa).ext x2 xa2) r2⟩⟩
  exact ⟨v, v2, rfl, c.nx _ S2 q2 w2 _ H2 (x1.trans x2) h2 ((((he.ext x1 xa).ext x2 xa2).set (r1.ext x2 xa2)).set r2)⟩
end
end Pl

namespace Pl
open PySem PySem.Spec PyProof.Rows L2 TL

section
variable {P : Program} {w : World} {K : PySem.W.Frag} {mg : Str → Option Value} {base : Heap}
/-- a thing under construction as data -/
def frz : U → SS → Option D
  | .d x, _ => some x
  | .r i, S => rd (.r i) S
  | .tup _, _ => none
def rdAll : List U → SS → Option (List D)
  | [], _ => some []
  | u :: us, S => match rd u S, rdAll us S with
    | some d, some ds => some (d :: ds)
    | _, _ => none
/-- what a def tells: data, a thing at a place, a tuple of such -/
def rdR : U → SS → Option D
  | .d x, _ => some x
  | .r i, S => rd (.r i) S
  | .tup us, S => match rdAll us S with
    | some ds => some (.tup ds)
    | none => none
def rtE (Φ : D → Prop) : U → SS → Prop := fun u S => match rdR u S with
  | some d => Φ d
  | none => False
def endE (Φ : D → Prop) (Ψ : Ex → Prop) : End' := { nx := fun _ _ => Φ .non, rt := rtE Φ, xx := fun x _ _ => Ψ x }
def startE (N : List Str) (ds : List D) : Env := ds.map (fun d => some (U.d d)) ++ List.replicate (N.length - ds.length) none
/-- the world of a def's body at its entry -/
noncomputable def wd0 (F : Hp) (J : Addr → Prop) (n m : Nat) (H : Hp) : Wd := ⟨F, J, List.replicate m none, fun a => open Classical in if J a then none else H a, n, []⟩
theorem wd0_rel {F : Hp} {J : Addr → Prop} {n m : Nat} {H : Hp} (hF : Same F H) (hJ : ∀ a, J a → JarAt n (H a) ∧ F a = none) : HRel K (wd0 F J n m H) (List.replicate m none) H := by
  refine ⟨hF, fun a o e => ?_, fun a j => ⟨(hJ a j).1, (hJ a j).2, if_pos j⟩, by simp [wd0], fun i e => ?_, fun i o e => ?_, fun i j a e => ?_, fun i a e => by simp [wd0] at e⟩
  · have e' : (open Classical in if J a then none else H a) = some o := e
    by_cases z : J a
    · rw [if_pos z] at e'; cases e'
    · rw [if_neg z] at e'; exact e'
  · have l : i < m := by
      by_cases q : i < m
      · exact q
      · rw [List.getElem?_eq_none (by simpa using q)] at e; cases e
    show (List.replicate m none)[i]? = some none
    rw [List.getElem?_replicate, if_pos l]
  · rw [List.getElem?_replicate] at e
    split at e <;> cases e
  · have e' : (List.replicate m (none : Option Addr))[i]? = some (some a) := e
    rw [List.getElem?_replicate] at e'
    split at e' <;> cases e'
theorem env0_rel {F : Hp} {J : Addr → Prop} {n m : Nat} {H : Hp} {N : List Str} {vs : List V} {ds : List D} (r : Reps K F J vs ds) : EnvR K (wd0 F J n m H) (L2.start N vs) (startE N ds) := by
  have l := r.length
  refine ⟨by simp [L2.start, startE, l], fun i u e => ?_⟩
  unfold startE at e
  unfold L2.start
  by_cases hi : i < ds.length
  · rw [List.getElem?_append_left (by simpa using hi), List.getElem?_map] at e
    cases q : ds[i]? with
    | none => rw [q] at e; cases e
    | some d =>
      rw [q] at e
      have : U.d d = u := by simpa using e
      subst this
      obtain ⟨v, hv, rv⟩ := r.get q
      exact ⟨v, by rw [List.getElem?_append_left (by simpa [l] using hi), List.getElem?_map, hv]; rfl, rv⟩
  · rw [List.getElem?_append_right (by simpa using Nat.le_of_not_lt hi), List.getElem?_replicate] at e
    split at e <;> cases e
/-- what a body leaves, told to the caller -/
theorem after0 {F : Hp} {J : Addr → Prop} {n m k : Nat} {H H1 : Hp} {w1 : Wd} {S1 : SS} (hF : Same F H) (x : Ext k (wd0 F J n m H) w1) (h : HRel K w1 S1 H1) : After F J n k H w1.F w1.J w1.n H1 := by
  have ra : ∀ a, (wd0 F J n m H).R a = none → J a ∨ H a = none := fun a e => by
    have e' : (open Classical in if J a then none else H a) = none := e
    by_cases z : J a
    · exact .inl z
    · rw [if_neg z] at e'; exact .inr e'
  refine ⟨x.F, x.J, x.n, h.fz, fun a j => ⟨(h.jr a j).1, (h.jr a j).2.1⟩, fun a o e nj => h.fr a o ?_, fun a o e => ?_, fun a j => ?_⟩
  · rw [x.R]
    show (open Classical in if J a then none else H a) = some o
    rw [if_neg nj]; exact e
  · rcases x.N a o e with z | z
    · exact .inl z
    · rcases ra a z with q | q
      · have := (h.jr a (x.J a q)).2.1
        rw [e] at this; cases this
      · exact .inr q
  · exact ra a (by rw [← x.R]; exact (h.jr a j).2.2)
/-- a frozen picture of what is returned -/
theorem after_frz {F : Hp} {J : Addr → Prop} {n m k : Nat} {H H1 : Hp} {w1 : Wd} {S1 : SS} {v : V} {u : U} {d : D} (hF : Same F H) (x : Ext k (wd0 F J n m H) w1) (h : HRel K w1 S1 H1) (r : RepU K w1 v u) (e : rd u S1 = some d) :
    ∃ F1, After F J n k H F1 w1.J w1.n H1 ∧ Rep K F1 w1.J v d := by
  have A := after0 (m := m) hF x h
  cases u with
  | d z =>
    have : z = d := by simpa [rd] using e
    subst this
    exact ⟨w1.F, A, r⟩
  | r i =>
    obtain ⟨a, ha, rfl⟩ := r
    have n1 := rd_ok h (u := .r i) ⟨a, ha, rfl⟩ e
    have hl : ∃ m0, S1[i]? = some (some m0) := by
      cases q : S1[i]? with
      | none => simp [rd, q] at e
      | some o => cases o with
        | none => simp [rd, q] at e
        | some m0 => exact ⟨m0, rfl⟩
    obtain ⟨m0, hm⟩ := hl
    obtain ⟨b, hb, ⟨ho, e1, rr⟩, f1, f2, f3⟩ := h.live i m0 hm
    rw [ha] at hb; cases hb
    have hn : H a = none := by
      cases q : H a with
      | none => rfl
      | some o =>
        by_cases z : J a
        · exact absurd (x.J a z) f3
        · have : w1.R a = some o := by
            rw [x.R]
            show (open Classical in if J a then none else H a) = some o
            rw [if_neg z]; exact q
          rw [f2] at this; cases this
    have fa : F a = none := hF.free hn
    have A2 : After F J n k H (upd w1.F a ho) w1.J w1.n H1 := ⟨fun b o q => by rw [upd_ne (ne_of_none q fa)]; exact A.sF b o q, A.sJ, A.sn, fun b o q => by
        by_cases z : b = a
        · subst z; rw [upd_same] at q; cases q; exact e1
        · rw [upd_ne z] at q; exact A.fz b o q, fun b j => by
        have ne : b ≠ a := fun z => f3 (z ▸ j)
        rw [upd_ne ne]; exact A.jr b j, A.fr, fun b o q => by
        by_cases z : b = a
        · subst z; exact .inr hn
        · rw [upd_ne z] at q; exact A.nF b o q, A.nJ⟩
    have sm : Same w1.F (upd w1.F a ho) := fun b o q => by rw [upd_ne (ne_of_none q f1)]; exact q
    refine ⟨_, A2, ?_⟩
    cases m0 with
    | lst ds =>
      obtain ⟨vs, rfl, rr⟩ := rr
      have : d = .lst ds := by simpa [rd, hm] using e.symm
      subst this
      exact .lst upd_same (rr.mono sm fun _ h => h)
    | dic ks ds =>
      obtain ⟨vs, rfl, l, rr⟩ := rr
      have : d = .dic ks ds := by simpa [rd, hm] using e.symm
      subst this
      exact .dic upd_same l (rr.mono sm fun _ h => h)
    | ins C ns us => simp [rd, hm] at e
    | lsu us => simp [rd, hm] at e
  | tup us => simp [rd] at e
/-- the same, all things at places frozen -/
noncomputable def frzAll (w1 : Wd) (S1 : SS) (H1 : Hp) : Hp := fun b => open Classical in match w1.F b with
  | some o => some o
  | none => if ∃ (i : Nat) (m : MO), w1.A[i]? = some (some b) ∧ S1[i]? = some (some m) then H1 b else none
theorem frzAll_same {w1 : Wd} {S1 : SS} {H1 : Hp} : Same w1.F (frzAll w1 S1 H1) := fun b o q => by
  unfold frzAll
  rw [q]
theorem frzAll_at {w1 : Wd} {S1 : SS} {H1 : Hp} {b : Addr} {i : Nat} {m : MO} (f : w1.F b = none) (h1 : w1.A[i]? = some (some b)) (h2 : S1[i]? = some (some m)) : frzAll w1 S1 H1 b = H1 b := by
  unfold frzAll
  rw [f]
  exact if_pos ⟨i, m, h1, h2⟩
theorem frzAll_inv {w1 : Wd} {S1 : SS} {H1 : Hp} {b : Addr} {o : HO} (h : frzAll w1 S1 H1 b = some o) : w1.F b = some o ∨ (∃ (i : Nat) (m : MO), w1.A[i]? = some (some b) ∧ S1[i]? = some (some m)) ∧ H1 b = some o := by
  unfold frzAll at h
  cases e : w1.F b with
  | some o' => rw [e] at h; exact .inl h
  | none =>
    rw [e] at h
    by_cases z : ∃ (i : Nat) (m : MO), w1.A[i]? = some (some b) ∧ S1[i]? = some (some m)
    · exact .inr ⟨z, (if_pos z).symm.trans h⟩
    · exact absurd ((if_neg z).symm.trans h) (fun q => nomatch q)
theorem frzAll_rd {w1 : Wd} {S1 : SS} {H1 : Hp} {v : V} {u : U} {d : D} (h : HRel K w1 S1 H1) (r : RepU K w1 v u) (e : rd u S1 = some d) : Rep K (frzAll w1 S1 H1) w1.J v d := by
  cases u with
  | d z =>
    have : z = d := by simpa [rd] using e
    subst this
    exact Rep.mono frzAll_same (fun _ j => j) r
  | tup us => simp [rd] at e
  | r i =>
    obtain ⟨a, ha, rfl⟩ := r
    cases q : S1[i]? with
    | none => simp [rd, q] at e
    | some om =>
      cases om with
      | none => simp [rd, q] at e
      | some m0 =>
        obtain ⟨b, hb, ⟨ho, e1, rr⟩, f1, f2, f3⟩ := h.live i m0 q
        rw [ha] at hb; cases hb
        have ea := frzAll_at (H1 := H1) f1 ha q
        rw [e1] at ea
        cases m0 with
        | lst ds =>
          obtain ⟨vs, rfl, rr⟩ := rr
          have : d = .lst ds := by simpa [rd, q] using e.symm
          subst this
          exact .lst ea (rr.mono frzAll_same fun _ h => h)
        | dic ks ds =>
          obtain ⟨vs, rfl, l, rr⟩ := rr
          have : d = .dic ks ds := by simpa [rd, q] using e.symm
          subst this
          exact .dic ea l (rr.mono frzAll_same fun _ h => h)
        | ins C ns us => simp [rd, q] at e
        | lsu us => simp [rd, q] at e
theorem frzAll_rds {w1 : Wd} {S1 : SS} {H1 : Hp} (h : HRel K w1 S1 H1) : ∀ {vs : List V} {us : List U} {ds : List D}, RepUs K w1 vs us → rdAll us S1 = some ds → Reps K (frzAll w1 S1 H1) w1.J vs ds
  | _, _, _, .nil, e => by cases e; exact .nil
  | _, _, _, .cons (u := u) (us := us) r rs, e => by
    unfold rdAll at e
    cases e1 : rd u S1 with
    | none => simp only [e1] at e; cases e
    | some d =>
      cases e2 : rdAll us S1 with
      | none => simp only [e1, e2] at e; cases e
      | some ds2 =>
        simp only [e1, e2] at e
        cases e
        exact .cons (frzAll_rd h r e1) (frzAll_rds h rs e2)
theorem after_frzR {F : Hp} {J : Addr → Prop} {n m k : Nat} {H H1 : Hp} {w1 : Wd} {S1 : SS} {v : V} {u : U} {d : D} (hF : Same F H) (x : Ext k (wd0 F J n m H) w1) (h : HRel K w1 S1 H1) (r : RepU K w1 v u) (e : rdR u S1 = some d) :
    ∃ F1, After F J n k H F1 w1.J w1.n H1 ∧ Rep K F1 w1.J v d := by
  cases u with
  | d z => exact after_frz hF x h r e
  | r i => exact after_frz hF x h r e
  | tup us =>
    have A := after0 (m := m) hF x h
    have e' : (match rdAll us S1 with
      | some ds => some (D.tup ds)
      | none => none) = some d := e
    cases e2 : rdAll us S1 with
    | none => rw [e2] at e'; cases e'
    | some ds =>
      rw [e2] at e'
      cases e'
      obtain ⟨a, vs, rfl, hs, rv⟩ := r
      have liveN : ∀ {b : Addr} {i : Nat} {m0 : MO}, w1.A[i]? = some (some b) → S1[i]? = some (some m0) → H b = none ∧ ¬ w1.J b := fun {b i m0} h1 h2 => by
        obtain ⟨c, hc, _, f1, f2, f3⟩ := h.live i m0 h2
        rw [h1] at hc; cases hc
        refine ⟨?_, f3⟩
        cases q : H b with
        | none => rfl
        | some o =>
          by_cases z : J b
          · exact absurd (x.J b z) f3
          · have : w1.R b = some o := by
              rw [x.R]
              show (open Classical in if J b then none else H b) = some o
              rw [if_neg z]; exact q
            rw [f2] at this; cases this
      refine ⟨frzAll w1 S1 H1, ⟨fun b o q => frzAll_same b o (A.sF b o q), A.sJ, A.sn, fun b o q => ?_, fun b j => ⟨(A.jr b j).1, ?_⟩, A.fr, fun b o q => ?_, A.nJ⟩, .tup (sameT frzAll_same hs) (frzAll_rds h rv.us e2)⟩
      · rcases frzAll_inv q with z | ⟨_, z⟩
        · exact A.fz b o z
        · exact z
      · cases q : frzAll w1 S1 H1 b with
        | none => rfl
        | some o =>
          rcases frzAll_inv q with z | ⟨⟨i, m0, h1, h2⟩, _⟩
          · rw [(A.jr b j).2] at z; cases z
          · exact absurd j (liveN h1 h2).2
      · rcases frzAll_inv q with z | ⟨⟨i, m0, h1, h2⟩, _⟩
        · exact A.nF b o z
        · exact .inr (liveN h1 h2).1
/-- THE RULE for a def: its body as a term, and what its reading says -/
theorem fn_ok {x qual : Str} {st : Stmt} {f : Addr} {fd : FuncData} {N ps : List Str} {l k kb m : Nat} {sp : Sp'} {t : TS'} (Fn : Fun K x qual st f fd) (S : FnScope N ps (defScope st)) (len : ∀ ds Φ Ψ, sp ds Φ Ψ → ds.length = ps.length)
    (hb : ∀ (cdv : Value) (A : Around) (outer : List PySem.Env) (s : Shared) (H : Hp) (E : XK), Room l (A.deeper (envOfC qual (defScope st) s.heap.objs.size f cdv)) →
      PSs (cxOf (L2.CX P w) P w K mg base N qual (defScope st) f cdv A outer s H E) (defBody st) (liftS K (fun C d _ H => E C d H) t kb))
    (hk : kb ≤ k) (hv : ∀ ds Φ Ψ, sp ds Φ Ψ → t (endE Φ Ψ) (startE N ds) (List.replicate m none)) : FnOk P w K mg base (L2.CX P w) (l + 1) f fd ps (liftP K sp k) := by
  refine Fn.okX S (fun vs H Q E ⟨F, J, n, ds, Φ, Ψ, _, _, r, _, q, _, _⟩ => r.length.trans (len ds Φ Ψ q)) fun cdv A outer s H vs Q E hr ⟨F, J, n, ds, Φ, Ψ, hF, hJ, r, hn, q, c1, c2⟩ => ?_
  refine ⟨_, hb cdv A outer s H E hr, wd0 F J n m H, startE N ds, List.replicate m none, endE Φ Ψ, wd0_rel hF hJ, env0_rel r, by show n + kb ≤ LIM; omega, hv ds Φ Ψ q, ?_⟩
  refine ⟨fun _ S1 q1 w1 σ1 H1 x h e => ?_, fun u S1 q1 w1 v H1 x h ru => ?_, fun _ _ z => False.elim z, fun _ _ z => False.elim z, fun z _ S1 q1 w1 σ1 H1 C d x h e rx => ?_⟩
  · exact c1 _ q1 _ _ _ _ _ (after0 hF (x.le hk) h) .non
  · have q1' : rtE Φ u S1 := q1
    unfold rtE at q1'
    cases e : rdR u S1 with
    | none => simp only [e] at q1'
    | some d =>
      simp only [e] at q1'
      obtain ⟨F1, A1, rr⟩ := after_frzR hF (x.le hk) h ru e
      exact c1 d q1' _ _ _ _ _ A1 rr
  · exact c2 z q1 _ _ _ _ _ _ (after0 hF (x.le hk) h) rx
end

/-! ### own defs called -/
def tCall' (sp : Sp') (ta : TA') : TE' := fun env S Φ Ψ => ta env S (fun us S1 => match clos 100 us with
  | some ds => sp ds (fun d => Φ (.d d) S1) (fun x => Ψ x S1)
  | none => False) Ψ
section
variable {X : Cx} {W : WX} {lv k ka : Nat} {f : Addr} {fd : FuncData} {ps : List Str} {sp : Sp'} {x : Str} {p pos : Pos} {e : Expr} {es : List Expr} {ta : TA'}
/-- from the caller's world into the callee's promise -/
theorem call_rep {w : Wd} {S : SS} {H : Hp} {σ : L2.St} {env : Env} {vs : List V} {ds : List D} {Φ : U → SS → Prop} {Ψ : XX} {Q : VK} (hh : Here X.K w S H σ env k) (r : Reps X.K w.F w.J vs ds) (q : sp ds (fun d => Φ (.d d) S) (fun x => Ψ x S)) (c : Co (RepU X.K) X.K W k w σ Φ Ψ Q) :
    liftP X.K sp k vs H Q (WE W σ) := by
  refine ⟨w.F, w.J, w.n, ds, _, _, hh.h.fz, fun a j => ⟨(hh.h.jr a j).1, (hh.h.jr a j).2.1⟩, r, hh.l, q, fun d qd F1 J1 n1 v H1 x rv => ?_, fun z qz F1 J1 n1 H1 C dd x rx => ?_⟩
  · obtain ⟨E, R⟩ := x.world hh.h
    exact c.ok _ S qd _ v H1 E (fun _ _ h => h) R rv
  · obtain ⟨E, R⟩ := x.world hh.h
    exact c.xx _ S qz _ C dd H1 E (fun _ _ h => h) R rx
theorem qcall (G : FnOk X.prog X.w X.K X.mg X.base (L2.CX X.prog X.w) lv f fd ps (liftP X.K sp k)) (hr : Room lv X.A) (hm : X.mg x = some (.ref f)) (hk : PySem.W.keepIn X.K (.ref f) = true) (hb : Binds X.K fd ps []) (tk : Takes X W) (ha : PA X (e :: es) (liftA X.K W ta ka)) (hg : Gl X x := by rfl)
    (hdb : (x == ("__debug__" : Str)) = false := by decide) (he : starEach (e :: es) X.env = (false, eval e X.env) :: starEach es X.env := by rfl) (hpl : (backTo pos (starEach es X.env)).any (·.1) = false := by rfl) :
    PE X (.Call (.Name x p) (e :: es) [] pos) (liftE X.K W (tCall' sp ta) (ka + k)) := by
  refine PE.imp (pe_callSD (E := WE W) G hr hg hm hk hb .nil (fun σ => passAt tk σ) ha hdb he hpl) fun σ H Q h => lift_mono (lift_bind (Rp := RepUs X.K) (g := fun us _ S Φ Ψ => match clos 100 us with
    | some ds => sp ds (fun d => Φ (U.d d) S) (fun x => Ψ x S)
    | none => False) h) fun vs H1 ⟨w, us, env, S, Φ, Ψ, hh, r, q, c⟩ => ?_
  cases e : clos 100 us with
  | none => simp only [e] at q
  | some ds =>
    simp only [e] at q
    rw [List.append_nil]
    exact call_rep hh (clos_ok r e).1 q c
end
end Pl

namespace Pl
open PySem PySem.Spec PyProof.Rows L2 TL

/-! ### what is walked: the items as data -/
structure Gr (w w' : Wd) : Prop where
  F : Same w.F w'.F
  J : ∀ a, w.J a → w'.J a
theorem Ext.gr {k : Nat} {w w' : Wd} (x : Ext k w w') : Gr w w' := ⟨x.F, x.J⟩
theorem Gr.trans {a b c : Wd} (x : Gr a b) (y : Gr b c) : Gr a c := ⟨x.F.trans y.F, fun a h => y.J a (x.J a h)⟩
structure Walk (K : PySem.W.Frag) (w : Wd) (J : It) (ds : List D) : Prop where
  go : ∀ (i : Nat) (w1 : Wd) (S1 : SS) (H1 : Hp), Gr w w1 → HRel K w1 S1 H1 → i < ds.length → J.go i H1
  yld : ∀ (i : Nat) (w1 : Wd) (S1 : SS) (H1 : Hp) (d : D) (x : V) (H2 : Hp), Gr w w1 → HRel K w1 S1 H1 → ds[i]? = some d → J.yld i H1 x H2 → ∃ w2, Ext 0 w1 w2 ∧ ExtA w1 w2 ∧ HRel K w2 S1 H2 ∧ Rep K w2.F w2.J x d
  stop : ∀ (w1 : Wd) (S1 : SS) (H1 : Hp), Gr w w1 → HRel K w1 S1 H1 → J.stop ds.length H1
theorem Walk.ext {K : PySem.W.Frag} {w w' : Wd} {J : It} {ds : List D} {k : Nat} (W : Walk K w J ds) (x : Ext k w w') : Walk K w' J ds :=
  ⟨fun i w1 S1 H1 y h l => W.go i w1 S1 H1 (x.gr.trans y) h l, fun i w1 S1 H1 d v H2 y h e q => W.yld i w1 S1 H1 d v H2 (x.gr.trans y) h e q, fun w1 S1 H1 y h => W.stop w1 S1 H1 (x.gr.trans y) h⟩
abbrev TI' := TG' (List D)
abbrev liftI (K : PySem.W.Frag) (W : WX) (t : TI') (k : Nat) : TI := lift (Walk K) K W t k
theorem PI.imp {X : Cx} {tg e : Expr} {t t2 : TI} (h : PI X tg e t) (i : ∀ σ H R, t2 σ H R → t σ H R) : PI X tg e t2 := ⟨fun pins s σ H R I q => h.run pins s σ H R I (i σ H R q)⟩
section
variable {K : PySem.W.Frag} {w : Wd} {a b : Addr} {vs ws : List V} {ds es : List D}
theorem walk_list (e : SqL K w.F a vs) (r : Reps K w.F w.J vs ds) : Walk K w (Itl K a) ds := by
  refine ⟨fun i w1 S1 H1 x h l => ?_, fun i w1 S1 H1 d v H2 x h e1 y => ?_, fun w1 S1 H1 x h => ⟨vs, (x.F.trans h.fz).seq e, by rw [r.length]; exact Nat.le_refl _⟩⟩
  · have l' : i < vs.length := by rw [r.length]; exact l
    exact ⟨vs, vs[i], (x.F.trans h.fz).seq e, by simp [l']⟩
  · obtain ⟨rfl, y⟩ := y
    obtain ⟨u, h1, h2⟩ := r.get e1
    have h3 := y vs ((x.F.trans h.fz).seq e)
    rw [h1] at h3; cases h3
    exact ⟨w1, Ext.refl _ _, ExtA.refl _, h, h2.mono x.F x.J⟩
theorem walk_tup (e : SqT K w.F a vs) (r : Reps K w.F w.J vs ds) : Walk K w (Itt K a) ds := by
  refine ⟨fun i w1 S1 H1 x h l => ?_, fun i w1 S1 H1 d v H2 x h e1 y => ?_, fun w1 S1 H1 x h => ⟨vs, sameT (x.F.trans h.fz) e, by rw [r.length]; exact Nat.le_refl _⟩⟩
  · have l' : i < vs.length := by rw [r.length]; exact l
    exact ⟨vs, vs[i], sameT (x.F.trans h.fz) e, by simp [l']⟩
  · obtain ⟨rfl, y⟩ := y
    obtain ⟨u, h1, h2⟩ := r.get e1
    have h3 := y vs (sameT (x.F.trans h.fz) e)
    rw [h1] at h3; cases h3
    exact ⟨w1, Ext.refl _ _, ExtA.refl _, h, h2.mono x.F x.J⟩
def rangeD (lo : Int) (n : Nat) : List D := (List.range n).map fun i => .int (lo + (i : Nat))
theorem walk_range {lo : Int} {n : Nat} : Walk K w (Itr lo n) (rangeD lo n) := by
  have hl : (rangeD lo n).length = n := by simp [rangeD]
  refine ⟨fun i w1 S1 H1 x h l => by rw [hl] at l; exact l, fun i w1 S1 H1 d v H2 x h e1 y => ?_, fun w1 S1 H1 x h => by rw [hl]; exact Nat.le_refl _⟩
  obtain ⟨rfl, rfl⟩ := y
  have hi : i < n := by
    have := (List.getElem?_eq_some_iff.mp e1).1
    rw [hl] at this; exact this
  have : d = .int (lo + (i : Nat)) := by
    rw [rangeD, List.getElem?_map, List.getElem?_range hi] at e1
    simpa using e1.symm
  subst this
  exact ⟨w1, Ext.refl _ _, ExtA.refl _, h, .int⟩
theorem walk_str {l : List Nat} : Walk K w (Its ⟨l.toArray⟩) (l.map fun c => .str [c]) := by
  refine ⟨fun i w1 S1 H1 x h l1 => by show i < l.toArray.size; simpa using l1, fun i w1 S1 H1 d v H2 x h e1 y => ?_, fun w1 S1 H1 x h => by show l.toArray.size ≤ _; simp⟩
  obtain ⟨rfl, c, hc, rfl⟩ := y
  have : d = .str [c] := by
    rw [List.getElem?_map] at e1
    have hc' : l[i]? = some c := by simpa using hc
    rw [hc'] at e1
    simpa using e1.symm
  subst this
  exact ⟨w1, Ext.refl _ _, ExtA.refl _, h, .str (x := ⟨#[c]⟩)⟩
theorem add_pair {w1 : Wd} {S1 : SS} {H1 : Hp} {T : Addr} {x y : V} {d e : D} (h : HRel K w1 S1 H1) (hT : H1 T = none) (r1 : Rep K w1.F w1.J x d) (r2 : Rep K w1.F w1.J y e) :
    ∃ w2, Ext 0 w1 w2 ∧ ExtA w1 w2 ∧ HRel K w2 S1 (upd H1 T (.tup [x, y])) ∧ Rep K w2.F w2.J (.ref T) (.tup [d, e]) := by
  have f := h.free hT
  have E : Ext 0 w1 (w1.add T (.tup [x, y])) := Ext.add f.1 f.2.1
  exact ⟨_, E, ExtA.add, h.add hT, .tup (SqT.of (show upd w1.F T _ T = _ from upd_same)) (.cons (r1.ext E) (.cons (r2.ext E) .nil))⟩
def enumD (ds : List D) : Nat → List D := fun n => match ds with
  | [] => []
  | d :: r => .tup [.int n, d] :: enumD r (n + 1)
theorem enumD_get : ∀ (ds : List D) (n i : Nat), (enumD ds n)[i]? = (ds[i]?).map fun d => .tup [.int ((n + i : Nat) : Int), d]
  | [], n, i => by simp [enumD]
  | d :: r, n, 0 => by simp [enumD]
  | d :: r, n, i + 1 => by
    have := enumD_get r (n + 1) i
    rw [show n + 1 + i = n + (i + 1) by omega] at this
    simpa [enumD] using this
theorem enumD_len : ∀ (ds : List D) (n : Nat), (enumD ds n).length = ds.length
  | [], _ => rfl
  | _ :: r, n => by simp [enumD, enumD_len r]
theorem walk_enum (e : SqL K w.F a vs) (r : Reps K w.F w.J vs ds) : Walk K w (Ite K a) (enumD ds 0) := by
  refine ⟨fun i w1 S1 H1 x h l => ?_, fun i w1 S1 H1 d v H2 x h e1 y => ?_, fun w1 S1 H1 x h => ⟨vs, (x.F.trans h.fz).seq e, by rw [r.length, enumD_len]; exact Nat.le_refl _⟩⟩
  · have l' : i < vs.length := by rw [r.length]; rw [enumD_len] at l; exact l
    exact ⟨vs, vs[i], (x.F.trans h.fz).seq e, by simp [l']⟩
  · obtain ⟨T, x0, rfl, hT, rfl, y⟩ := y
    rw [enumD_get] at e1
    cases q : ds[i]? with
    | none => rw [q] at e1; cases e1
    | some d0 =>
      rw [q] at e1
      have : d = .tup [.int ((0 + i : Nat) : Int), d0] := by simpa using e1.symm
      subst this
      obtain ⟨u, h1, h2⟩ := r.get q
      have h3 := y vs ((x.F.trans h.fz).seq e)
      rw [h1] at h3; cases h3
      rw [Nat.zero_add]
      exact add_pair h hT .int (h2.mono x.F x.J)
def zipD (ds es : List D) : List D := (ds.zip es).map fun p => .tup [p.1, p.2]
theorem zip_get {ds es : List D} {i : Nat} {d : D} (e : (zipD ds es)[i]? = some d) : ∃ x y, ds[i]? = some x ∧ es[i]? = some y ∧ d = .tup [x, y] := by
  unfold zipD at e
  rw [List.getElem?_map] at e
  cases q : (ds.zip es)[i]? with
  | none => rw [q] at e; cases e
  | some p =>
    rw [q] at e
    obtain ⟨h1, h2⟩ := List.getElem?_zip_eq_some.mp q
    exact ⟨p.1, p.2, h1, h2, by simpa using e.symm⟩
theorem walk_zipT (e : SqT K w.F a vs) (e' : SqT K w.F b ws) (r : Reps K w.F w.J vs ds) (r' : Reps K w.F w.J ws es) : Walk K w (RZ.ItzT K a b) (zipD ds es) := by
  have hl : (zipD ds es).length = min ds.length es.length := by simp [zipD]
  refine ⟨fun i w1 S1 H1 x h l => ?_, fun i w1 S1 H1 d v H2 x h e1 y => ?_, fun w1 S1 H1 x h => ⟨vs, ws, sameT (x.F.trans h.fz) e, sameT (x.F.trans h.fz) e', by rw [r.length, r'.length, hl]; omega⟩⟩
  · rw [hl] at l
    have l1 : i < vs.length := by rw [r.length]; omega
    have l2 : i < ws.length := by rw [r'.length]; omega
    exact ⟨vs, ws, vs[i], ws[i], sameT (x.F.trans h.fz) e, sameT (x.F.trans h.fz) e', by simp [l1], by simp [l2]⟩
  · obtain ⟨T, x0, y0, rfl, hT, rfl, y1, y2⟩ := y
    obtain ⟨p, q, hp, hq, rfl⟩ := zip_get e1
    obtain ⟨u, h1, h2⟩ := r.get hp
    obtain ⟨u', h1', h2'⟩ := r'.get hq
    have h3 := y1 vs (sameT (x.F.trans h.fz) e)
    have h4 := y2 ws (sameT (x.F.trans h.fz) e')
    rw [h1] at h3; cases h3
    rw [h1'] at h4; cases h4
    exact add_pair h hT (h2.mono x.F x.J) (h2'.mono x.F x.J)
theorem walk_zipL (e : SqL K w.F a vs) (e' : SqL K w.F b ws) (r : Reps K w.F w.J vs ds) (r' : Reps K w.F w.J ws es) : Walk K w (Itz K a b) (zipD ds es) := by
  have hl : (zipD ds es).length = min ds.length es.length := by simp [zipD]
  refine ⟨fun i w1 S1 H1 x h l => ?_, fun i w1 S1 H1 d v H2 x h e1 y => ?_, fun w1 S1 H1 x h => ⟨vs, ws, (x.F.trans h.fz).seq e, (x.F.trans h.fz).seq e', by rw [r.length, r'.length, hl]; omega⟩⟩
  · rw [hl] at l
    have l1 : i < vs.length := by rw [r.length]; omega
    have l2 : i < ws.length := by rw [r'.length]; omega
    exact ⟨vs, ws, vs[i], ws[i], (x.F.trans h.fz).seq e, (x.F.trans h.fz).seq e', by simp [l1], by simp [l2]⟩
  · obtain ⟨T, x0, y0, rfl, hT, rfl, y1, y2⟩ := y
    obtain ⟨p, q, hp, hq, rfl⟩ := zip_get e1
    obtain ⟨u, h1, h2⟩ := r.get hp
    obtain ⟨u', h1', h2'⟩ := r'.get hq
    have h3 := y1 vs ((x.F.trans h.fz).seq e)
    have h4 := y2 ws ((x.F.trans h.fz).seq e')
    rw [h1] at h3; cases h3
    rw [h1'] at h4; cases h4
    exact add_pair h hT (h2.mono x.F x.J) (h2'.mono x.F x.J)
end
section
variable {X : Cx} {W : WX} {pos p : Pos} {tg e e2 a b : Expr} {ta : TE'} {tas : TA'} {k ka : Nat}
/-- a list, a tuple, a text -/
def tSeqI' (ta : TE') : TI' := fun env S Φ Ψ => ta env S (fun u S1 => match u with
  | .d (.lst ds) => Φ ds S1
  | .d (.tup ds) => Φ ds S1
  | .d (.scr ds) => Φ ds S1
  | .d (.str l) => Φ (l.map fun c => .str [c]) S1
  | _ => False) Ψ
def iSeq (K : PySem.W.Frag) (te : TE) : TI := fun σ H R => te σ H fun x H1 => (∃ a, x = .ref a ∧ (∃ xs, SqL K H1 a xs) ∧ R (Itl K a) H1) ∨ (∃ a, x = .ref a ∧ (∃ xs, SqT K H1 a xs) ∧ R (Itt K a) H1) ∨ ∃ z, x = .str z ∧ R (Its z) H1
theorem pi_seq {te : TE} (he : PE X e te) : PI X tg e (iSeq X.K te) := by
  refine ⟨fun pins s σ H R I h => thn (he.run pins s σ H _ I h) fun v s1 ⟨y, H1, I1, r1, q1⟩ => ?_⟩
  rcases q1 with ⟨a, rfl, ⟨xs, hq⟩, q⟩ | ⟨a, rfl, ⟨xs, hq⟩, q⟩ | ⟨z, rfl, q⟩
  · cases r1
    obtain ⟨its, rv, p, hz⟩ := I1.list hq
    exact wpAny_pyIter_list p.isList (pi_one (tk := s1.toks) I1 _ (turn_list a _) ⟨_, Heap.get?_push_size _ rfl, rfl, rfl⟩ q)
  · cases r1
    obtain ⟨its, rv, p, hz⟩ := I1.tuple hq
    exact wpAny_pyIter_tuple (show s1.heap.IsTuple a its.toArray from p) (pi_one (tk := s1.toks) I1 _ (turn_tuple a _) ⟨_, Heap.get?_push_size _ rfl, rfl, rfl⟩ q)
  · obtain ⟨t, rfl⟩ := r1
    cases ha : z.cps.all (· < 128)
    · exact wpAny_pyIter_wide ha (pi_one (tk := s1.toks) I1 _ (turn_str _ z t "str_iterator" (.inr rfl)) ⟨_, Heap.get?_push_size _ rfl, rfl, rfl⟩ q)
    · exact wpAny_pyIter_ascii ha (pi_one (tk := s1.toks) I1 _ (turn_str _ z t "str_ascii_iterator" (.inl rfl)) ⟨_, Heap.get?_push_size _ rfl, rfl, rfl⟩ q)
theorem qi_seq (he : PE X e (liftE X.K W ta k)) : PI X tg e (liftI X.K W (tSeqI' ta) (k + 0)) := by
  refine PI.imp (pi_seq he) fun σ H R h => lift_mono (lift_bind (Rp := RepU X.K) (g := fun u _ S Φ _ => match u with
    | .d (.lst ds) => Φ ds S
    | .d (.tup ds) => Φ ds S
    | .d (.scr ds) => Φ ds S
    | .d (.str l) => Φ (l.map fun c => D.str [c]) S
    | _ => False) h) fun v H1 ⟨w, u, env, S, Φ, Ψ, hh, r, q, c⟩ => ?_
  cases u with
  | r i => exact False.elim q
  | tup _ => exact False.elim q
  | d x =>
    cases x <;> try exact False.elim q
    case str l =>
      rw [RepN.str (Rep.now hh.h r)]
      exact .inr (.inr ⟨_, rfl, c.here hh q walk_str⟩)
    case tup ds =>
      have r' : Rep X.K w.F w.J v (.tup ds) := r
      cases r' with | tup e rr => exact .inr (.inl ⟨_, rfl, ⟨_, sameT hh.h.fz e⟩, c.here hh q (walk_tup e rr)⟩)
    case lst ds =>
      have r' : Rep X.K w.F w.J v (.lst ds) := r
      cases r' with | lst e rr => exact .inl ⟨_, rfl, ⟨_, hh.h.fz.seq (SqL.of e)⟩, c.here hh q (walk_list (SqL.of e) rr)⟩
    case scr ds =>
      have r' : Rep X.K w.F w.J v (.scr ds) := r
      cases r' with | scr e rr => exact .inl ⟨_, rfl, ⟨_, hh.h.fz.seq e⟩, c.here hh q (walk_list e rr)⟩
/-- range(n), range(a, b) -/
def tRange' (ta : TA') : TI' := fun env S Φ Ψ => ta env S (fun us S1 => match us with
  | [.d (.int n)] => (n < 2 ^ 62 ∧ -(2 ^ 62) ≤ n) ∧ Φ (rangeD 0 n.toNat) S1
  | _ => False) Ψ
theorem qi_range (hm : X.mg "range" = none) (ha : PA X [a] (liftA X.K W tas ka)) (hg : Gl X "range" := by rfl) (hs : starEach [a] X.env = [(false, eval a X.env)] := by rfl) : PI X tg (.Call (.Name "range" p) [a] [] pos) (liftI X.K W (tRange' tas) (ka + 0)) := by
  refine PI.imp (pi_range1 hg hm ha hs) fun σ H R h => lift_mono (lift_bind (Rp := RepUs X.K) (g := fun us _ S Φ _ => match us with
    | [.d (.int n)] => (n < 2 ^ 62 ∧ -(2 ^ 62) ≤ n) ∧ Φ (rangeD 0 n.toNat) S
    | _ => False) h) fun vs H1 ⟨w, us, env, S, Φ, Ψ, hh, r, q, c⟩ => ?_
  cases r with
  | nil => exact False.elim q
  | @cons v u vs us r rr =>
    cases rr with
    | cons _ _ => cases u <;> first | exact False.elim q | (rename_i x; cases x <;> exact False.elim q)
    | nil =>
      cases u with
      | r i => exact False.elim q
      | tup _ => exact False.elim q
      | d x =>
        cases x <;> try exact False.elim q
        rename_i n
        rw [RepN.int (Rep.now hh.h r)]
        exact ⟨n, rfl, q.1.2, q.1.1, c.here hh q.2 walk_range⟩
def tRange2' (ta : TA') : TI' := fun env S Φ Ψ => ta env S (fun us S1 => match us with
  | [.d (.int i), .d (.int j)] => (-(2 ^ 62) ≤ i ∧ i < 2 ^ 62 ∧ -(2 ^ 62) ≤ j ∧ j < 2 ^ 62) ∧ Φ (rangeD i (j - i).toNat) S1
  | _ => False) Ψ

theorem qi_range2 (hm : X.mg "range" = none) (ha : PA X [a, b] (liftA X.K W tas ka)) (hg : Gl X "range" := by rfl) (hs : starEach [a, b] X.env = [(false, eval a X.env), (false, eval b X.env)] := by rfl) (hs2 : starEach [b] X.env = [(false, eval b X.env)] := by rfl) :
    PI X tg (.Call (.Name "range" p) [a, b] [] pos) (liftI X.K W (tRange2' tas) (ka + 0)) := by
  refine PI.imp (pi_range2 hg hm ha hs hs2) fun σ H R h => lift_mono (lift_bind (Rp := RepUs X.K) (g := fun us _ S Φ _ => match us with
    | [.d (.int i), .d (.int j)] => (-(2 ^ 62) ≤ i ∧ i < 2 ^ 62 ∧ -(2 ^ 62) ≤ j ∧ j < 2 ^ 62) ∧ Φ (rangeD i (j - i).toNat) S
    | _ => False) h) fun vs H1 ⟨w, us, env, S, Φ, Ψ, hh, r, q, c⟩ => ?_
  obtain ⟨i, j, rfl⟩ : ∃ i j : Int, us = [.d (.int i), .d (.int j)] := by
    split at q
    · exact ⟨_, _, rfl⟩
    · exact q.elim
  cases r with
  | cons r1 r =>
    cases r with
    | cons r2 r =>
      cases r
      rw [RepN.int (Rep.now hh.h r1), RepN.int (Rep.now hh.h r2)]
      exact ⟨i, j, rfl, q.1, c.here hh q.2 walk_range⟩
/-- two sequences of one kind -/
def seq2 (us : List U) (Φ : List D → List D → Prop) : Prop := match us with
  | [.d (.tup ds), .d (.tup es)] => Φ ds es
  | [.d (.lst ds), .d (.lst es)] => Φ ds es
  | _ => False
def tZip' (ta : TA') : TI' := fun env S Φ Ψ => ta env S (fun us S1 => seq2 us fun ds es => Φ (zipD ds es) S1) Ψ
theorem qi_zip {elts : List Expr} {kk : Nat} {tpos : Pos} (hm : X.mg "zip" = none) (ha : PA X [a, b] (liftA X.K W tas ka)) (hg : Gl X "zip" := by rfl) (hs : starEach [a, b] X.env = (false, eval a X.env) :: starEach [b] X.env := by rfl) (hpl : (backTo pos (starEach [b] X.env)).any (·.1) = false := by rfl) :
    PI X (.Tuple elts kk tpos) (.Call (.Name "zip" p) [a, b] [] pos) (liftI X.K W (tZip' tas) (ka + 0)) := by
  refine PI.imp (RZ.pi_zipA hg hm ha hs hpl) fun σ H R h => lift_mono (lift_bind (Rp := RepUs X.K) (g := fun us _ S Φ _ => seq2 us fun ds es => Φ (zipD ds es) S) h) fun vs H1 ⟨w, us, env, S, Φ, Ψ, hh, r, q, c⟩ => ?_
  unfold seq2 at q
  split at q
  · rename_i ds es
    cases r with
    | cons r1 r =>
      cases r with
      | cons r2 r =>
        cases r
        have r1' : Rep X.K w.F w.J _ (.tup ds) := r1
        have r2' : Rep X.K w.F w.J _ (.tup es) := r2
        cases r1' with
        | tup e1 rr1 =>
          cases r2' with
          | tup e2 rr2 => exact ⟨_, _, _, _, rfl, .inr ⟨sameT hh.h.fz e1, sameT hh.h.fz e2, c.here hh q (walk_zipT e1 e2 rr1 rr2)⟩⟩
  · rename_i ds es
    cases r with
    | cons r1 r =>
      cases r with
      | cons r2 r =>
        cases r
        have r1' : Rep X.K w.F w.J _ (.lst ds) := r1
        have r2' : Rep X.K w.F w.J _ (.lst es) := r2
        cases r1' with
        | lst e1 rr1 =>
          cases r2' with
          | lst e2 rr2 => exact ⟨_, _, _, _, rfl, .inl ⟨hh.h.fz.seq (SqL.of e1), hh.h.fz.seq (SqL.of e2), c.here hh q (walk_zipL (SqL.of e1) (SqL.of e2) rr1 rr2)⟩⟩
  · exact q.elim
/-- enumerate(list) -/
def tEnum' (ta : TA') : TI' := fun env S Φ Ψ => ta env S (fun us S1 => match us with
  | [.d (.lst ds)] => Φ (enumD ds 0) S1
  | _ => False) Ψ
theorem qi_enum {elts : List Expr} {kk : Nat} {tpos : Pos} (hm : X.mg "enumerate" = none) (ha : PA X [a] (liftA X.K W tas ka)) (hg : Gl X "enumerate" := by rfl) (hs : starEach [a] X.env = [(false, eval a X.env)] := by rfl) :
    PI X (.Tuple elts kk tpos) (.Call (.Name "enumerate" p) [a] [] pos) (liftI X.K W (tEnum' tas) (ka + 0)) := by
  refine PI.imp (pi_enum hg hm ha hs) fun σ H R h => lift_mono (lift_bind (Rp := RepUs X.K) (g := fun us _ S Φ _ => match us with
    | [.d (.lst ds)] => Φ (enumD ds 0) S
    | _ => False) h) fun vs H1 ⟨w, us, env, S, Φ, Ψ, hh, r, q, c⟩ => ?_
  split at q
  · rename_i ds
    cases r with
    | cons r1 r =>
      cases r
      have r1' : Rep X.K w.F w.J _ (.lst ds) := r1
      cases r1' with
      | lst e1 rr1 => exact ⟨_, _, rfl, hh.h.fz.seq (SqL.of e1), c.here hh q (walk_enum (SqL.of e1) rr1)⟩
  · exact q.elim
end

/-! ### for -/
def forD (g : TGt') (tb : TS') (D : End') : List Pl.D → Env → SS → Prop
  | [], env, S => D.nx env S
  | d :: ds, env, S => g (.d d) env S fun env1 S1 => tb { D with nx := forD g tb D ds, ct := forD g tb D ds, bk := D.nx } env1 S1
section
variable {X : Cx} {W : WX} {pos : Pos} {tg iter : Expr} {body : List Stmt} {ti : TI'} {g : TGt'} {tb : TS'} {ki kb : Nat}
/-- c: the draws of all turns together -/
def tFor' (ti : TI') (g : TGt') (tb : TS') (kb c : Nat) : TS' := fun D env S => ti env S (fun ds S1 => ds.length * kb ≤ c ∧ forD g tb D ds env S1) (fun x S1 => D.xx x env S1)
theorem qforC (c : Nat) (hi : PI X tg iter (liftI X.K W ti ki)) (hg : PG X tg (liftG X.K g)) (hb : PSs X body (liftS X.K W tb kb)) (hp : PassesOwn (model X.prog X.w) X.A X.env X.xe) (hc : X.calm = true)
    (hs : ∀ x, foldedSetIterable iter X.env x = pure x := by intro _; rfl) : PS X (.For tg iter body [] pos) (liftS X.K W (tFor' ti g tb kb c) (ki + c)) := by
  refine PS.imp (ps_for hp hc hi hg hb hs) fun D σ H h => lift_mono (exp_lift (Rp := Walk X.K) (g := fun ds D env S => ds.length * kb ≤ c ∧ forD g tb D ds env S) h) fun J H1 ⟨w, ds, env, S, D', hh, wk, ⟨hl, q⟩, cs⟩ => ?_
  refine ⟨fun i m σ1 H2 => i ≤ ds.length ∧ m = ds.length - i ∧ ∃ w1 env1 S1, Ext (i * kb) w w1 ∧ HRel X.K w1 S1 H2 ∧ EnvR X.K w1 σ1 env1 ∧ forD g tb D' (ds.drop i) env1 S1, ⟨_, Nat.zero_le _, rfl, w, env, S, Ext.refl _ _, hh.h, hh.e, q⟩, ?_⟩
  rintro i m σ1 H2 ⟨hle, rfl, w1, env1, S1, x1, h1, e1, q1⟩
  have hm : i * kb ≤ c := Nat.le_trans (Nat.mul_le_mul_right _ hle) hl
  by_cases hlt : i < ds.length
  · refine .inr ⟨wk.go i w1 S1 H2 x1.gr h1 hlt, fun σ' H' => ∃ w2 env2 S2, Ext ((i + 1) * kb) w w2 ∧ HRel X.K w2 S2 H' ∧ EnvR X.K w2 σ' env2 ∧ forD g tb D' (ds.drop (i + 1)) env2 S2, fun σ' H' z => ⟨ds.length - (i + 1), by omega, hlt, rfl, z⟩, fun v H3 y => ?_⟩
    rw [List.drop_eq_getElem_cons hlt] at q1
    obtain ⟨w2, x2, xa2, h2, r2⟩ := wk.yld i w1 S1 H2 ds[i] v H3 x1.gr h1 (by simp [hlt]) y
    refine ⟨w2, env1, S1, .d ds[i], _, h2, e1.ext x2 xa2, r2, q1, fun env3 S3 q3 σ3 h3 e3 => ?_⟩
    have x3 : Ext (i * kb) w w2 := (x1.trans x2).le (by omega)
    have step : (i + 1) * kb ≤ c := Nat.le_trans (Nat.mul_le_mul_right _ hlt) hl
    have e5 : (i + 1) * kb = i * kb + kb := Nat.succ_mul i kb
    refine ⟨w2, env3, S3, _, h3, e3, by have := hh.l; have := x3.n; omega, q3, ⟨fun env4 S4 q4 w4 σ4 H4 x4 h4 e4 => ?_, fun u S4 q4 w4 v4 H4 x4 h4 r4 => ?_, fun env4 S4 q4 w4 σ4 H4 x4 h4 e4 => ?_, fun env4 S4 q4 w4 σ4 H4 x4 h4 e4 => ?_, fun z env4 S4 q4 w4 σ4 H4 C d x4 h4 e4 r4 => ?_⟩⟩
    · exact ⟨w4, env4, S4, (x3.trans x4).le (by omega), h4, e4, q4⟩
    · exact cs.rt u S4 q4 w4 v4 H4 ((x3.trans x4).le (by omega)) h4 r4
    · exact cs.nx env4 S4 q4 w4 σ4 H4 ((x3.trans x4).le (by omega)) h4 e4
    · exact ⟨w4, env4, S4, (x3.trans x4).le (by omega), h4, e4, q4⟩
    · exact cs.xx z env4 S4 q4 w4 σ4 H4 C d ((x3.trans x4).le (by omega)) h4 e4 r4
  · have e : i = ds.length := by omega
    subst e
    rw [List.drop_length] at q1
    exact .inl ⟨wk.stop w1 S1 H2 x1.gr h1, cs.nx env1 S1 q1 w1 σ1 H2 (x1.le hm) h1 e1⟩
end

/-! ### while -/
section
variable {X : Cx} {W : WX} {pos : Pos} {cnd : Expr} {body : List Stmt} {tc : TT'} {tb : TS'} {kc kb : Nat}
/-- I: the word, μ: what falls, n: the most turns -/
def tWhile' (tc : TT') (tb : TS') (n : Nat) : TS' := fun D env S => ∃ (I : Env → SS → Prop) (μ : Env → SS → Nat), I env S ∧ (μ env S ≤ n) ∧ ∀ env S, I env S →
  tc env S (fun b S1 => if b = true then tb { D with nx := fun e s => I e s ∧ μ e s < μ env S, ct := fun e s => I e s ∧ μ e s < μ env S, bk := D.nx } env S1 else D.nx env S1) (fun x S1 => D.xx x env S1)
theorem qwhile (n : Nat) (hc : PT X cnd (liftT X.K W tc kc)) (hb : PSs X body (liftS X.K W tb kb)) (hp : PassesOwn (model X.prog X.w) X.A X.env X.xe) : PS X (.While cnd body [] pos) (liftS X.K W (tWhile' tc tb n) ((n + 1) * (kc + kb))) := by
  refine PS.imp (ps_while hp hc hb) fun D σ H ⟨w, env, S, D', hr, he, hl, ⟨I, μ, i0, m0, turn⟩, cs⟩ => ?_
  refine ⟨fun m σ1 H1 => ∃ w1 env1 S1 j, Ext (j * (kc + kb)) w w1 ∧ HRel X.K w1 S1 H1 ∧ EnvR X.K w1 σ1 env1 ∧ I env1 S1 ∧ m = μ env1 S1 ∧ j + m ≤ n, ⟨_, w, env, S, 0, Ext.refl _ _, hr, he, i0, rfl, by omega⟩, ?_⟩
  rintro m σ1 H1 ⟨w1, env1, S1, j, x1, h1, e1, i1, rfl, hj⟩
  have hjn : (j + 1) * (kc + kb) ≤ (n + 1) * (kc + kb) := Nat.mul_le_mul_right _ (by omega)
  have e5 : (j + 1) * (kc + kb) = j * (kc + kb) + (kc + kb) := Nat.succ_mul _ _
  refine ⟨w1, env1, S1, _, _, h1, e1, by have := x1.n; omega, turn env1 S1 i1, ⟨fun b S2 q2 w2 b' H2 x2 xa2 h2 r2 => ?_, fun z S2 q2 w2 C d H2 x2 xa2 h2 r2 => cs.xx z env1 S2 q2 w2 σ1 H2 C d ((x1.trans x2).le (by omega)) h2 (e1.ext x2 xa2) r2⟩⟩
  subst r2
  have x3 := x1.trans x2
  cases b' with
  | false => exact cs.nx env1 S2 q2 w2 σ1 H2 (x3.le (by omega)) h2 (e1.ext x2 xa2)
  | true =>
    refine ⟨fun σ' H' => ∃ w3 env3 S3, Ext ((j + 1) * (kc + kb)) w w3 ∧ HRel X.K w3 S3 H' ∧ EnvR X.K w3 σ' env3 ∧ I env3 S3 ∧ μ env3 S3 < μ env1 S1, fun σ' H' ⟨w3, env3, S3, y, h3, e3, i3, l3⟩ => ⟨_, l3, w3, env3, S3, j + 1, y, h3, e3, i3, rfl, by omega⟩, ?_⟩
    refine ⟨w2, env1, S2, _, h2, e1.ext x2 xa2, by have := x3.n; omega, q2, ⟨fun env4 S4 q4 w4 σ4 H4 x4 h4 e4 => ?_, fun u S4 q4 w4 v4 H4 x4 h4 r4 => ?_, fun env4 S4 q4 w4 σ4 H4 x4 h4 e4 => ?_, fun env4 S4 q4 w4 σ4 H4 x4 h4 e4 => ?_, fun z env4 S4 q4 w4 σ4 H4 C d x4 h4 e4 r4 => ?_⟩⟩
    · exact ⟨w4, env4, S4, (x3.trans x4).le (by omega), h4, e4, q4.1, q4.2⟩
    · exact cs.rt u S4 q4 w4 v4 H4 ((x3.trans x4).le (by omega)) h4 r4
    · exact cs.nx env4 S4 q4 w4 σ4 H4 ((x3.trans x4).le (by omega)) h4 e4
    · exact ⟨w4, env4, S4, (x3.trans x4).le (by omega), h4, e4, q4.1, q4.2⟩
    · exact cs.xx z env4 S4 q4 w4 σ4 H4 C d ((x3.trans x4).le (by omega)) h4 e4 r4
end
end Pl

namespace Pl
open PySem PySem.Spec PyProof.Rows L2 TL

/-! ### a thing of nobody's, watched over -/
structure Apart (w : Wd) (D : Addr) : Prop where
  F : w.F D = none
  R : w.R D = none
  J : ¬ w.J D
  A : ∀ i : Nat, w.A[i]? ≠ some (some D)
theorem HRel.apart {K : PySem.W.Frag} {w : Wd} {S : SS} {H : Hp} {p : Addr} (h : HRel K w S H) (hp : H p = none) : Apart w p := ⟨(h.free hp).1, (h.free hp).2.1, (h.free hp).2.2.1, h.noA hp⟩
theorem HRel.upd_apart {K : PySem.W.Frag} {w : Wd} {S : SS} {H : Hp} {p : Addr} {o : HO} (h : HRel K w S H) (a : Apart w p) : HRel K w S (upd H p o) := by
  refine ⟨fun b u e => ?_, fun b u e => ?_, fun b j => ?_, h.len, h.dead, fun i m e => ?_, h.inj, h.pin⟩
  · rw [upd_ne (ne_of_none e a.F)]; exact h.fz b u e
  · rw [upd_ne (ne_of_none e a.R)]; exact h.fr b u e
  · have ne : b ≠ p := fun z => a.J (z ▸ j)
    rw [upd_ne ne]; exact h.jr b j
  · obtain ⟨b, eb, ⟨ho, e1, r⟩, q⟩ := h.live i m e
    have ne : b ≠ p := fun z => a.A i (z ▸ eb)
    exact ⟨b, eb, ⟨ho, by rw [upd_ne ne]; exact e1, r⟩, q⟩
/-- D is watched over as a part of the frame -/
def Wd.guard (w : Wd) (D : Addr) (o : HO) : Wd := { w with R := upd w.R D o }
theorem RepU.toA {K : PySem.W.Frag} {w w' : Wd} {v : V} {u : U} (hF : Same w.F w'.F) (hJ : ∀ a, w.J a → w'.J a) (hA : ∀ (i : Nat) (a : Addr), w.A[i]? = some (some a) → w'.A[i]? = some (some a)) (h : RepU K w v u) : RepU K w' v u := by
  cases u with
  | d y => exact Rep.mono hF hJ h
  | r i => obtain ⟨a, h1, h2⟩ := h; exact ⟨a, hA i a h1, h2⟩
  | tup us => obtain ⟨a, vs, h1, h2, h3⟩ := h; exact ⟨a, vs, h1, sameT hF h2, h3.gr hF hJ hA⟩
theorem RepUs.toA {K : PySem.W.Frag} {w w' : Wd} (hF : Same w.F w'.F) (hJ : ∀ a, w.J a → w'.J a) (hA : ∀ (i : Nat) (a : Addr), w.A[i]? = some (some a) → w'.A[i]? = some (some a)) : ∀ {vs : List V} {us : List U}, RepUs K w vs us → RepUs K w' vs us
  | _, _, .nil => .nil
  | _, _, .cons h r => .cons (RepU.toA hF hJ hA h) (RepUs.toA hF hJ hA r)
theorem RepO.toA {K : PySem.W.Frag} {w w' : Wd} {o : HO} {m : MO} (hF : Same w.F w'.F) (hJ : ∀ a, w.J a → w'.J a) (hA : ∀ (i : Nat) (a : Addr), w.A[i]? = some (some a) → w'.A[i]? = some (some a)) (h : RepO K w o m) : RepO K w' o m := by
  cases m with
  | lst ds => obtain ⟨vs, e, r⟩ := h; exact ⟨vs, e, r.mono hF hJ⟩
  | lsu us => obtain ⟨vs, e, r⟩ := h; exact ⟨vs, e, r.toA hF hJ hA⟩
  | dic ks ds => obtain ⟨vs, e, l, r⟩ := h; exact ⟨vs, e, l, r.mono hF hJ⟩
  | ins C ns us => obtain ⟨dx, vs, e, l, r⟩ := h; exact ⟨dx, vs, e, l, r.toA hF hJ hA⟩
theorem EnvR.toA {K : PySem.W.Frag} {w w' : Wd} {σ : L2.St} {env : Env} (hF : Same w.F w'.F) (hJ : ∀ a, w.J a → w'.J a) (hA : ∀ (i : Nat) (a : Addr), w.A[i]? = some (some a) → w'.A[i]? = some (some a)) (h : EnvR K w σ env) : EnvR K w' σ env :=
  ⟨h.1, fun i u e => let ⟨v, a, b⟩ := h.2 i u e; ⟨v, a, b.toA hF hJ hA⟩⟩
theorem HRel.guard {K : PySem.W.Frag} {w : Wd} {S : SS} {H : Hp} {D : Addr} {o : HO} (h : HRel K w S H) (a : Apart w D) (e : H D = some o) : HRel K (w.guard D o) S H := by
  refine ⟨h.fz, fun b u q => ?_, fun b j => ?_, h.len, h.dead, fun i m q => ?_, h.inj, h.pin⟩
  · by_cases z : b = D
    · subst z
      rw [show (w.guard b o).R b = upd w.R b o b from rfl, upd_same] at q
      cases q; exact e
    · rw [show (w.guard D o).R b = upd w.R D o b from rfl, upd_ne z] at q; exact h.fr b u q
  · have ne : b ≠ D := fun z => a.J (z ▸ j)
    obtain ⟨j1, j2, j3⟩ := h.jr b j
    exact ⟨j1, j2, by rw [show (w.guard D o).R b = upd w.R D o b from rfl, upd_ne ne]; exact j3⟩
  · obtain ⟨b, eb, ⟨ho, e1, r⟩, n1, n2, n3⟩ := h.live i m q
    have ne : b ≠ D := fun z => a.A i (z ▸ eb)
    exact ⟨b, eb, ⟨ho, e1, RepO.toA (w := w) (w' := w.guard D o) (Same.refl _) (fun _ h => h) (fun _ _ h => h) r⟩, n1, by rw [show (w.guard D o).R b = upd w.R D o b from rfl, upd_ne ne]; exact n2, n3⟩
/-- .. and taken out of it again -/
def Wd.unguard (w0 w : Wd) : Wd := { w with R := w0.R }
theorem HRel.unguard {K : PySem.W.Frag} {w w2 : Wd} {S S2 : SS} {H H2 : Hp} {D : Addr} {o : HO} {k : Nat} (a : Apart w D) (x : Ext k (w.guard D o) w2) (xa : ExtA (w.guard D o) w2) (h : HRel K w2 S2 H2) :
    Ext k w (w.unguard w2) ∧ ExtA w (w.unguard w2) ∧ HRel K (w.unguard w2) S2 H2 ∧ H2 D = some o ∧ Apart (w.unguard w2) D := by
  have rr : w2.R = upd w.R D o := x.R
  have rD : w2.R D = some o := by rw [rr, upd_same]
  have rn : ∀ b, w2.R b = none → w.R b = none := fun b q => by
    rw [rr] at q
    by_cases z : b = D
    · subst z; rw [upd_same] at q; cases q
    · rw [upd_ne z] at q; exact q
  have fD : w2.F D = none := by
    cases q : w2.F D with
    | none => rfl
    | some u =>
      rcases x.N D u q with z | z
      · have z' : w.F D = some u := z
        rw [a.F] at z'; cases z'
      · rw [show (w.guard D o).R D = upd w.R D o D from rfl, upd_same] at z; cases z
  refine ⟨⟨x.F, x.J, rfl, x.n, fun b u q => (x.N b u q).imp id fun z => rn b (by rw [rr]; exact z), x.B, xa⟩, xa, ⟨h.fz, fun b u q => h.fr b u ?_, fun b j => ⟨(h.jr b j).1, (h.jr b j).2.1, rn b (h.jr b j).2.2⟩, h.len, h.dead, fun i m q => ?_, h.inj, h.pin⟩, h.fr D o rD, ⟨fD, a.R, fun j => ?_, fun i z => ?_⟩⟩
  · have q' : w.R b = some u := q
    have ne : b ≠ D := fun z => by subst z; rw [a.R] at q'; cases q'
    rw [rr, upd_ne ne]; exact q'
  · obtain ⟨b, eb, ⟨ho, e1, r⟩, n1, n2, n3⟩ := h.live i m q
    exact ⟨b, eb, ⟨ho, e1, RepO.toA (w := w2) (w' := w.unguard w2) (Same.refl _) (fun _ h => h) (fun _ _ h => h) r⟩, n1, rn b n2, n3⟩
  · have := (h.jr D j).2.2
    rw [rD] at this; cases this
  · have z' : w2.A[i]? = some (some D) := z
    by_cases hi : i < S2.length
    · cases e : S2[i] with
      | none =>
        have q := h.dead i (by rw [List.getElem?_eq_getElem hi, e])
        rw [z'] at q; cases q
      | some m =>
        obtain ⟨b, eb, _, _, n2, _⟩ := h.live i m (by rw [List.getElem?_eq_getElem hi, e])
        rw [z'] at eb; cases eb
        rw [rD] at n2; cases n2
    · rw [List.getElem?_eq_none (by rw [h.len]; omega)] at z'; cases z'
/-- a list that stands, of nobody's, becomes data or a thing under construction -/
theorem HRel.adopt {K : PySem.W.Frag} {w : Wd} {S : SS} {H : Hp} {p : Addr} {o : HO} (h : HRel K w S H) (a : Apart w p) (e : H p = some o) : Ext 0 w (w.add p o) ∧ HRel K (w.add p o) S H := by
  have E : Ext 0 w (w.add p o) := Ext.add a.F a.R
  refine ⟨E, fun b u q => ?_, h.fr, fun b j => ?_, h.len, h.dead, fun i m q => ?_, h.inj, h.pin⟩
  · by_cases z : b = p
    · subst z
      rw [show (w.add b o).F b = upd w.F b o b from rfl, upd_same] at q; cases q; exact e
    · rw [show (w.add p o).F b = upd w.F p o b from rfl, upd_ne z] at q; exact h.fz b u q
  · have ne : b ≠ p := fun z => a.J (z ▸ j)
    obtain ⟨j1, j2, j3⟩ := h.jr b j
    exact ⟨j1, by rw [show (w.add p o).F b = upd w.F p o b from rfl, upd_ne ne]; exact j2, j3⟩
  · obtain ⟨b, eb, ⟨ho, e1, r⟩, n1, n2, n3⟩ := h.live i m q
    have ne : b ≠ p := fun z => a.A i (z ▸ eb)
    exact ⟨b, eb, ⟨ho, e1, r.ext E ExtA.add⟩, by rw [show (w.add p o).F b = upd w.F p o b from rfl, upd_ne ne]; exact n1, n2, n3⟩
theorem HRel.adoptAt {K : PySem.W.Frag} {w : Wd} {S : SS} {H : Hp} {m : MO} {p : Addr} {o : HO} (h : HRel K w S H) (a : Apart w p) (e : H p = some o) (r : RepO K w o m) : HRel K (w.push p) (S ++ [some m]) H :=
  h.pushE (fun _ _ _ e => e) e a.F a.R a.J a.A r
theorem coMkA {K : PySem.W.Frag} {W : WX} {k : Nat} {w : Wd} {σ : L2.St} {H : Hp} {S : SS} {kind : Option Nat} {ds : List D} {vs : List V} {Φ : U → SS → Prop} {Ψ : XX} {Q : VK} {p : Addr} (c : Co (RepU K) K W k w σ Φ Ψ Q) (h : HRel K w S H) (a : Apart w p) (e : H p = some (.lst vs)) (r : Reps K w.F w.J vs ds)
    (q : Pl.mk kind ds S Φ) : Q (.ref p) H := by
  cases kind with
  | none =>
    obtain ⟨x, h'⟩ := h.adopt a e
    exact c.ok _ S q _ _ H (x.le (Nat.zero_le _)) ExtA.add h' (show RepU K _ _ (.d _) from .lst (show upd w.F p _ p = _ from upd_same) (r.ext x))
  | some i => exact c.ok _ _ q (w.push p) _ _ Ext.push ExtA.push (h.adoptAt a e ⟨vs, rfl, r⟩) ⟨p, push_at h, rfl⟩

/-! ### list comprehensions -/
def wipeE (env : Env) : List Nat → Env
  | [] => env
  | v :: vs => (wipeE env vs).set v none
theorem EnvR.wipe {K : PySem.W.Frag} {w : Wd} {σ : L2.St} {env : Env} (h : EnvR K w σ env) : ∀ vs : List Nat, EnvR K w (wipe σ vs) (wipeE env vs)
  | [] => h
  | v :: vs => by
    have ih := EnvR.wipe h vs
    refine ⟨by unfold L2.wipe wipeE; simpa using ih.1, fun i u e => ?_⟩
    unfold wipeE at e
    by_cases hi : i = v
    · subst hi
      by_cases l : i < (wipeE env vs).length
      · rw [List.getElem?_set_self l] at e; cases e
      · rw [List.getElem?_eq_none (by simpa using l)] at e; cases e
    · rw [List.getElem?_set_ne (Ne.symm hi)] at e
      obtain ⟨x, a, b⟩ := ih.2 i u e
      exact ⟨x, by unfold L2.wipe; rw [List.getElem?_set_ne (Ne.symm hi)]; exact a, b⟩
/-- a comprehension's target: its own names alone -/
structure TgtOk (K : PySem.W.Frag) (g : TG) (g' : TGt') (vs : List Nat) : Prop where
  up : ∀ v σ H Q, liftG K g' v σ H Q → g v σ H Q
  own : ∀ v σ H Q, g v σ H Q → g v σ H fun σ2 H2 => wipe σ2 vs = wipe σ vs ∧ Q σ2 H2
theorem wipe_set {σ : L2.St} {i : Nat} {o : Option V} : ∀ {vs : List Nat}, i ∈ vs → L2.wipe (σ.set i o) vs = L2.wipe σ vs
  | [], h => by cases h
  | v :: vs, h => by
    unfold L2.wipe
    by_cases hi : i ∈ vs
    · rw [wipe_set hi]
    · have : i = v := by simpa [hi] using h
      subst this
      have key : ∀ (vs : List Nat), i ∉ vs → L2.wipe (σ.set i o) vs = (L2.wipe σ vs).set i o := by
        intro vs
        induction vs with
        | nil => intro _; rfl
        | cons v vs ih =>
          intro hn
          have n1 : v ≠ i := fun z => hn (by rw [z]; exact List.mem_cons_self)
          unfold L2.wipe
          rw [ih fun z => hn (List.mem_cons_of_mem _ z), List.set_comm _ _ n1.symm]
      rw [key vs hi, List.set_set]
theorem wipe_in {σ : L2.St} {vs : List Nat} : ∀ {us : List Nat}, (∀ u ∈ us, u ∈ vs) → L2.wipe (L2.wipe σ us) vs = L2.wipe σ vs
  | [], _ => rfl
  | u :: us, h => by
    show L2.wipe ((L2.wipe σ us).set u none) vs = _
    rw [wipe_set (h u List.mem_cons_self), wipe_in fun x hx => h x (List.mem_cons_of_mem _ hx)]
theorem wipe_idem {σ : L2.St} {vs : List Nat} : L2.wipe (L2.wipe σ vs) vs = L2.wipe σ vs := wipe_in fun _ h => h
theorem tgt_name {K : PySem.W.Frag} {i : Nat} {vs : List Nat} (h : i ∈ vs) : TgtOk K (gName i) (gName' i) vs :=
  ⟨fun v σ H Q ⟨w, env, S, u, Φ, hr, he, r, q, c⟩ => c _ _ q _ hr (he.set r), fun v σ H Q q => ⟨wipe_set h, q⟩⟩
theorem tgt_two {K : PySem.W.Frag} {i j : Nat} {vs : List Nat} (hi : i ∈ vs) (hj : j ∈ vs) : TgtOk K (gTup K 2 (gCons (gName i) (gCons (gName j) gNil))) (gTup' (sized 2 (gCons' (gName' i) (gCons' (gName' j) gNil')))) vs := by
  refine ⟨fun v σ H Q ⟨w, env, S, u, Φ, hr, he, r, q, c⟩ => ?_, fun v σ H Q ⟨a, xs, e, s, l, x, r, e2, y, r2, e3, e4, q⟩ => ⟨a, xs, e, s, l, x, r, e2, y, r2, e3, e4, by rw [wipe_set hj, wipe_set hi], q⟩⟩
  cases u with
  | r i => exact False.elim q
  | tup _ => exact False.elim q
  | d x =>
    cases x <;> try exact False.elim q
    rename_i ds
    obtain ⟨a, vs, rfl, s1, rr⟩ := RepN.tup (Rep.now hr r) hr
    have q' : (if (ds.map U.d).length = 2 then gCons' (gName' i) (gCons' (gName' j) gNil') (ds.map U.d) env S Φ else False) := q
    by_cases z : (ds.map U.d).length = 2
    · rw [if_pos z] at q'
      cases rr with
      | nil => cases z
      | cons r1 rr =>
        cases rr with
        | nil => cases z
        | cons r2 rr =>
          cases rr with
          | cons _ _ => simp at z
          | nil => exact ⟨a, _, rfl, s1, rfl, _, _, rfl, _, _, rfl, rfl, c _ _ q' _ hr ((he.set (u := .d _) r1).set (u := .d _) r2)⟩
    · rw [if_neg z] at q'; exact False.elim q'
def compD (g : TGt') (tt : TT') (te : TE') : List Pl.D → Env → SS → List Pl.D → (List Pl.D → SS → Prop) → Prop
  | [], _, S, acc, Φ => Φ acc S
  | d :: ds, env, S, acc, Φ => g (.d d) env S fun env1 S1 => tt env1 S1 (fun b S2 => if b = true then te env1 S2 (fun u S3 => match u with
      | .d y => compD g tt te ds env S3 (acc ++ [y]) Φ
      | _ => False) (fun _ _ => False) else compD g tt te ds env S2 acc Φ) (fun _ _ => False)
abbrev W0 : WX := fun _ _ _ _ => False
theorem PTs.imp {X : Cx} {e : List Expr} {t t2 : TT} (h : PTs X e t) (i : ∀ σ H Q, t2 σ H Q → t σ H Q) : PTs X e t2 := ⟨fun pins s σ H Q I q => h.run pins s σ H Q I (i σ H Q q)⟩
def tYes' : TT' := fun _ S Φ _ => Φ true S
theorem qts_nil {X : Cx} {W : WX} : PTs X [] (liftT X.K W tYes' 0) := PTs.imp pts_nil fun _ _ _ h => pure_lift (Rp := fun _ (a b : Bool) => a = b) (b := true) h fun _ => rfl
theorem qts_one {X : Cx} {W : WX} {c : Expr} {t : TT'} {k : Nat} (h : PT X c (liftT X.K W t k)) : PTs X [c] (liftT X.K W t k) := pts_one h
section
variable {X : Cx} {W : WX} {pos : Pos} {tg iter elt : Expr} {ifs : List Expr} {scope : Scope} {own : List (Str × Nat)} {ti : TI'} {g : TG} {g' : TGt'} {tt : TT'} {te : TE'} {ki kt ke : Nat}
def tLc' (kind : Option Nat) (ti : TI') (g : TGt') (tt : TT') (te : TE') (vs : List Nat) (ke c : Nat) : TE' := fun env S Φ Ψ => ti env S (fun ds S1 => (ds.length * ke ≤ c ∧ ds.length ≤ 1000000) ∧ compD g tt te ds (wipeE env vs) S1 [] fun acc S2 => mk kind acc S2 Φ) Ψ
theorem lc_lift {kind : Option Nat} {c : Nat} {vs : List Nat} {σ : L2.St} {H : Hp} {Q : VK} (T : TgtOk X.K g g' vs) (h : liftE X.K W (tLc' kind ti g' tt te vs (kt + ke) c) (ki + c) σ H Q) :
    tLc (liftI X.K W ti ki) g (liftT X.K W0 tt kt) (liftE X.K W0 te ke) vs σ H Q := by
  refine lift_mono (lift_bind (Rp := Walk X.K) (g := fun ds env S Φ _ => (ds.length * (kt + ke) ≤ c ∧ ds.length ≤ 1000000) ∧ compD g' tt te ds (wipeE env vs) S [] fun acc S2 => mk kind acc S2 Φ) h) fun J H1 ⟨w, ds, env, S, Φ, Ψ, hh, wk, ⟨⟨hl, hz⟩, q⟩, cs⟩ D hD => ?_
  have aD := hh.h.apart hD
  refine ⟨fun i m H2 => i ≤ ds.length ∧ m = ds.length - i ∧ ∃ w1 S1 acc accd, Ext (i * (kt + ke)) w w1 ∧ ExtA w w1 ∧ HRel X.K w1 S1 H2 ∧ Apart w1 D ∧ H2 D = some (.lst acc) ∧ Reps X.K w1.F w1.J acc accd ∧ acc.length ≤ i ∧ compD g' tt te (ds.drop i) (wipeE env vs) S1 accd fun acc S2 => mk kind acc S2 Φ,
    ⟨_, Nat.zero_le _, rfl, w, S, [], [], Ext.refl _ _, ExtA.refl _, hh.h.upd_apart aD, aD, upd_same, .nil, Nat.zero_le _, q⟩, ?_⟩
  rintro i m H2 ⟨hle, rfl, w1, S1, acc, accd, x1, xa1, h1, a1, hD1, r1, hacc, q1⟩
  have hm : i * (kt + ke) ≤ c := Nat.le_trans (Nat.mul_le_mul_right _ hle) hl
  by_cases hlt : i < ds.length
  · refine .inr ⟨wk.go i w1 S1 H2 x1.gr h1 hlt, fun H' => ∃ w1 S1 acc accd, Ext ((i + 1) * (kt + ke)) w w1 ∧ ExtA w w1 ∧ HRel X.K w1 S1 H' ∧ Apart w1 D ∧ H' D = some (.lst acc) ∧ Reps X.K w1.F w1.J acc accd ∧ acc.length ≤ i + 1 ∧ compD g' tt te (ds.drop (i + 1)) (wipeE env vs) S1 accd fun acc S2 => mk kind acc S2 Φ,
      fun H' z => ⟨ds.length - (i + 1), by omega, hlt, rfl, z⟩, fun v H3 y => ?_⟩
    rw [List.drop_eq_getElem_cons hlt] at q1
    have step : (i + 1) * (kt + ke) ≤ c := Nat.le_trans (Nat.mul_le_mul_right _ hlt) hl
    have e5 : (i + 1) * (kt + ke) = i * (kt + ke) + (kt + ke) := Nat.succ_mul i _
    have hg1 := h1.guard a1 hD1
    have gr1 : Gr w (w1.guard D (.lst acc)) := ⟨x1.F, x1.J⟩
    obtain ⟨w2, x2, xa2, h2, r2⟩ := wk.yld i _ S1 H2 ds[i] v H3 gr1 hg1 (by simp [hlt]) y
    have env2 : EnvR X.K w2 (L2.wipe σ vs) (wipeE env vs) := EnvR.toA (w := w1) x2.F x2.J xa2 ((hh.e.ext x1 xa1).wipe vs)
    have own := fun (Q : L2.St → Hp → Prop) z => T.own v (L2.wipe σ vs) H3 Q z
    simp only [wipe_idem] at own
    refine own _ (T.up _ _ _ _ ⟨w2, wipeE env vs, S1, .d ds[i], _, h2, env2, r2, q1, fun env3 S3 q3 σ3 h3 e3 => ?_⟩)
    have n1 : w1.n ≤ w.n + i * (kt + ke) := x1.n
    have n2 : w2.n ≤ w1.n + 0 := x2.n
    have hn : w.n + c ≤ LIM := hh.l
    refine ⟨w2, env3, S3, _, _, h3, e3, by omega, q3, ⟨fun b S4 q4 w4 b' H4 x4 xa4 h4 rb => ?_, fun _ _ z => False.elim z⟩⟩
    subst rb
    have x24 := x2.trans x4
    have xa24 := xa2.trans xa4
    cases b' with
    | false =>
      have q4' : compD g' tt te (ds.drop (i + 1)) (wipeE env vs) S4 accd (fun acc S2 => mk kind acc S2 Φ) := q4
      obtain ⟨x5, xa5, h5, hD5, a5⟩ := HRel.unguard (S := S1) (H := H2) a1 x24 xa24 h4
      exact ⟨_, S4, acc, accd, (x1.trans x5).le (by omega), xa1.trans xa5, h5, a5, hD5, r1.ext x5, by omega, q4'⟩
    | true =>
      have n4 : w4.n ≤ w2.n + kt := x4.n
      refine ⟨w4, env3, S4, _, _, h4, e3.ext x4 xa4, by omega, q4, ⟨fun u S5 q5 w5 y5 H5 x5 xa5 h5 r5 => ?_, fun _ _ z => False.elim z⟩⟩
      cases u with
      | r _ => exact False.elim q5
      | tup _ => exact False.elim q5
      | d d5 =>
        obtain ⟨x6, xa6, h6, hD6, a6⟩ := HRel.unguard (S := S1) (H := H2) a1 (x24.trans x5) (xa24.trans xa5) h5
        refine ⟨acc, hD6, by rw [sizeLine_eq]; omega, _, S5, acc ++ [y5], accd ++ [d5], (x1.trans x6).le (by omega), xa1.trans xa6, h6.upd_apart a6, a6, upd_same, (r1.ext x6).app (.cons r5 .nil), by rw [List.length_append, List.length_singleton]; omega, q5⟩
  · have e : i = ds.length := by omega
    subst e
    rw [List.drop_length] at q1
    exact .inl ⟨wk.stop w1 S1 H2 x1.gr h1, coMkA (Co.ext (k := 0) (cs.le (by omega : ds.length * (kt + ke) + 0 ≤ c)) x1 xa1) h1 a1 hD1 r1 q1⟩
end
end Pl
namespace Pl
open PySem PySem.Spec PyProof.Rows L2 TL
section
variable {X : Cx} {W : WX} {pos : Pos} {tg iter elt : Expr} {ifs : List Expr} {scope : Scope} {own : List (Str × Nat)} {ti : TI'} {g : TG} {g' : TGt'} {tt : TT'} {te : TE'} {ki kt ke : Nat}
abbrev Cx.bk (X : Cx) (scope : Scope) (s : Shared) (H : Hp) (C : Addr) (cl : List (Str × Addr)) (fp : List Addr) : Cx := X.blk s H scope (compEnvC scope cl C X.env) fp
theorem qlc {kind : Option Nat} (c : Nat) (hc : X.calm = true) (hN : X.N.Nodup) (hi : PI X tg iter (liftI X.K W ti ki)) (ok : BlkOk X.N X.env.scope scope own) (T : TgtOk X.K g g' (own.map (·.2)))
    (hg : ∀ s H C cl fp, PG (Cx.bk X scope s H C cl fp) tg g) (ht : ∀ s H C cl fp, PTs (Cx.bk X scope s H C cl fp) ifs (liftT X.K W0 tt kt)) (he : ∀ s H C cl fp, PE (Cx.bk X scope s H C cl fp) elt (liftE X.K W0 te ke)) (hs : ∀ x, foldedSetIterable iter X.env x = pure x := by intro _; rfl) :
    PE X (.ListComp elt [⟨tg, iter, ifs, 0⟩] scope pos) (liftE X.K W (tLc' kind ti g' tt te (own.map (·.2)) (kt + ke) c) (ki + c)) :=
  PE.imp (pe_lc hc hN hi ok hg ht he hs) fun _ _ _ h => lc_lift T h
theorem qsetLc {kind : Option Nat} (i : Nat) (c : Nat) {y : Str} {py spos : Pos} (hc : X.calm = true) (hN : X.N.Nodup) (hy : X.N[i]? = some y) (hyl : X.env.scope.names.lookup y = some .local) (hsw : swapsWith (.ListComp elt [⟨tg, iter, ifs, 0⟩] scope pos) (some (.Name y py)) spos.line X.env = pure true)
    (hi : PI X tg iter (liftI X.K W ti ki)) (ok : BlkOk X.N X.env.scope scope own) (T : TgtOk X.K g g' (own.map (·.2)))
    (hg : ∀ s H C cl fp, PG (Cx.bk X scope s H C cl fp) tg g) (ht : ∀ s H C cl fp, PTs (Cx.bk X scope s H C cl fp) ifs (liftT X.K W0 tt kt)) (he : ∀ s H C cl fp, PE (Cx.bk X scope s H C cl fp) elt (liftE X.K W0 te ke)) (hs : ∀ x, foldedSetIterable iter X.env x = pure x := by intro _; rfl) :
    PS X (.Assign [.Name y py] (.ListComp elt [⟨tg, iter, ifs, 0⟩] scope pos) spos) (liftS X.K W (tSet' i (tLc' kind ti g' tt te (own.map (·.2)) (kt + ke) c)) (ki + c + 0)) :=
  PS.imp (ps_setLc hc hN hy hyl hsw hi ok hg ht he hs) fun D σ H h => lc_lift T (lift_mono (exp_lift (g := fun u D env S => D.nx (env.set i (some u)) S) h) fun v H1 ⟨w, u, env, S, D', hh, r, q, c⟩ => c.nx _ S q w _ H1 (Ext.refl _ _) hh.h (hh.e.set r))
end

/-! ### a def of the text, found by its name -/
/-- keywords are the last parameters, in order -/
def KwB (K : PySem.W.Frag) (fd : FuncData) (ps : List Str) : Prop := ∀ (n : Nat) (s : Shared) (us ws : List Value), K.In s.heap → us.length = n → n + ws.length = ps.length → BindsTo s fd ⟨us, (ps.drop n).zip ws⟩ (ps.zip (us ++ ws))
theorem KwB.binds {K : PySem.W.Frag} {fd : FuncData} {ps : List Str} (h : KwB K fd ps) : Binds K fd ps [] := fun s us X hl => by
  have hl' : us.length = ps.length := by simpa using hl
  have q := h us.length s us [] X rfl (by simpa using hl')
  simpa using q
structure Fn (P : Program) (w : World) (K : PySem.W.Frag) (mg : Str → Option Value) (base : Heap) (nm : Str) (ps : List Str) (lv : Nat) (sp : Sp') (k : Nat) : Prop where
  ex : ∃ f fd, mg nm = some (.ref f) ∧ PySem.W.keepIn K (.ref f) = true ∧ KwB K fd ps ∧ FnOk P w K mg base (L2.CX P w) lv f fd ps (liftP K sp k)
/-- .. before it is proved -/
structure Df (K : PySem.W.Frag) (mg : Str → Option Value) (nm : Str) (st : Stmt) (ps : List Str) : Prop where
  ex : ∃ f fd, Fun K nm nm st f fd ∧ mg nm = some (.ref f) ∧ KwB K fd ps
theorem fn_okF {P : Program} {w : World} {K : PySem.W.Frag} {mg : Str → Option Value} {base : Heap} {nm : Str} {st : Stmt} {N ps : List Str} {l k kb m : Nat} {sp : Sp'} {t : TS'} (Fd : Df K mg nm st ps) (S : FnScope N ps (defScope st)) (len : ∀ ds Φ Ψ, sp ds Φ Ψ → ds.length = ps.length)
    (hb : ∀ (f : Addr) (cdv : Value) (A : Around) (outer : List PySem.Env) (s : Shared) (H : Hp) (E : XK), Room l (A.deeper (envOfC nm (defScope st) s.heap.objs.size f cdv)) →
      PSs (cxOf (L2.CX P w) P w K mg base N nm (defScope st) f cdv A outer s H E) (defBody st) (liftS K (fun C d _ H => E C d H) t kb))
    (hk : kb ≤ k) (hv : ∀ ds Φ Ψ, sp ds Φ Ψ → t (endE Φ Ψ) (startE N ds) (List.replicate m none)) : Fn P w K mg base nm ps (l + 1) sp k := by
  obtain ⟨f, fd, Fu, hm, hB⟩ := Fd.ex
  exact ⟨f, fd, hm, Fu.kp, hB, fn_ok Fu S len (hb f) hk hv⟩
theorem qcallF {X : Cx} {W : WX} {lv k ka : Nat} {ps : List Str} {sp : Sp'} {x : Str} {p pos : Pos} {e : Expr} {es : List Expr} {ta : TA'} (G : Fn X.prog X.w X.K X.mg X.base x ps lv sp k) (hr : Room lv X.A) (tk : Takes X W) (ha : PA X (e :: es) (liftA X.K W ta ka)) (hg : Gl X x := by rfl)
    (hdb : (x == ("__debug__" : Str)) = false := by decide) (he : starEach (e :: es) X.env = (false, eval e X.env) :: starEach es X.env := by rfl) (hpl : (backTo pos (starEach es X.env)).any (·.1) = false := by rfl) :
    PE X (.Call (.Name x p) (e :: es) [] pos) (liftE X.K W (tCall' sp ta) (ka + k)) := by
  obtain ⟨f, fd, hm, hk, hb, G⟩ := G.ex
  exact qcall G hr hm hk hb.binds tk ha hg hdb he hpl
end Pl

namespace Pl
open PySem PySem.Spec PyProof.Rows L2 TL

section
variable {X : Cx} {W : WX} {pos p apos cpos : Pos} {e a b o : Expr} {es : List Expr} {ta tb to te : TE'} {tas : TA'} {k ka kb kc : Nat}
/-! ### things under construction: o[i] = e, o.append(e) -/
def tSetIx' (te to ti : TE') : TS' := fun D env S => te env S (fun y S1 => to env S1 (fun u S2 => ti env S2 (fun z S3 => match u, z with
  | .r i, .d (.int n) => match S3[i]? with
    | some (some (.lst ds)) => match y with
      | .d d => ∃ j, ixN ds.length n = some j ∧ D.nx env (S3.set i (some (.lst (ds.set j d))))
      | _ => False
    | some (some (.lsu us)) => ∃ j, ixN us.length n = some j ∧ D.nx env (S3.set i (some (.lsu (us.set j y))))
    | _ => False
  | _, _ => False) (fun x S3 => D.xx x env S3)) (fun x S2 => D.xx x env S2)) (fun x S1 => D.xx x env S1)
theorem qsetix {p' : Pos} (he : PE X e (liftE X.K W te ka)) (ho : PE X a (liftE X.K W to kb)) (hi : PE X b (liftE X.K W ta kc))
    (hs : swapsWithSole [.Subscript a b p'] e pos.line X.env = pure false := by rfl) (hw : swappedStores [.Subscript a b p'] e X.env = pure none := by rfl)
    (h1 : (assignEach [.Subscript a b p'] X.env).map (·.2) = [assign (.Subscript a b p') X.env] := by rfl)
    (hA : ∀ v, assign (.Subscript a b p') X.env v = (do
      let ov ← holding [v] (eval a X.env)
      let iv ← holding [v, ov] (eval b X.env)
      standAt p'
      holding [v, ov, iv] (setItem ov iv v)
      release [v, ov, iv] []) := by intro _; rfl) : PS X (.Assign [.Subscript a b p'] e pos) (liftS X.K W (tSetIx' te to ta) (ka + kb + kc)) := by
  refine PS.imp (ps_asg he (pg_sub ho hi set_list hA) hs hw h1) fun D σ H ⟨w, env, S, D', hr, hE, hl, q, c⟩ => ?_
  refine ⟨w, env, S, _, _, hr, hE, by omega, q, ⟨fun y S1 q1 w1 v H1 x1 xa1 h1 r1 => ?_, fun z S1 q1 w1 C d H1 x1 xa1 h1 r1 => c.xx z env S1 q1 w1 σ H1 C d (x1.le (by omega)) h1 (hE.ext x1 xa1) r1⟩⟩
  refine ⟨w1, env, S1, _, _, h1, hE.ext x1 xa1, by have := x1.n; omega, q1, ⟨fun u S2 q2 w2 v2 H2 x2 xa2 h2 r2 => ?_, fun z S2 q2 w2 C d H2 x2 xa2 h2 r2 => c.xx z env S2 q2 w2 σ H2 C d ((x1.trans x2).le (by omega)) h2 ((hE.ext x1 xa1).ext x2 xa2) r2⟩⟩
  refine ⟨w2, env, S2, _, _, h2, (hE.ext x1 xa1).ext x2 xa2, by have := x1.n; have := x2.n; omega, q2, ⟨fun z S3 q3 w3 v3 H3 x3 xa3 h3 r3 => ?_, fun z S3 q3 w3 C d H3 x3 xa3 h3 r3 => c.xx z env S3 q3 w3 σ H3 C d (((x1.trans x2).trans x3).le (by omega)) h3 (((hE.ext x1 xa1).ext x2 xa2).ext x3 xa3) r3⟩⟩
  have r1' := (r1.ext x2 xa2).ext x3 xa3
  have r2' := r2.ext x3 xa3
  cases u with
  | d _ => exact False.elim q3
  | tup _ => exact False.elim q3
  | r i =>
    cases z with
    | r _ => exact False.elim q3
    | tup _ => exact False.elim q3
    | d zd =>
      cases zd <;> try exact False.elim q3
      rename_i n
      rw [RepN.int (Rep.now h3 r3)]
      cases eS : S3[i]? with
      | none => simp only [eS] at q3
      | some o =>
        cases o with
        | none => simp only [eS] at q3
        | some m =>
          obtain ⟨A, hA1, ⟨ho, e1, rr⟩, _⟩ := h3.live i _ eS
          obtain ⟨A', hA2, rfl⟩ := r2'
          rw [hA1] at hA2; cases hA2
          cases m with
          | dic _ _ => simp only [eS] at q3
          | ins _ _ _ => simp only [eS] at q3
          | lst ds =>
            cases y with
            | r _ => simp only [eS] at q3
            | tup _ => simp only [eS] at q3
            | d yd =>
              simp only [eS] at q3
              obtain ⟨j, hj, q3⟩ := q3
              obtain ⟨vs, rfl, rr⟩ := rr
              refine ⟨A, vs, n, j, rfl, rfl, e1, by rw [rr.length]; exact hj, ?_⟩
              exact c.nx _ _ q3 w3 σ _ ((x1.trans x2).trans x3) (h3.put eS hA1 ⟨_, rfl, rr.set r1' j⟩) (((hE.ext x1 xa1).ext x2 xa2).ext x3 xa3)
          | lsu us =>
            simp only [eS] at q3
            obtain ⟨j, hj, q3⟩ := q3
            obtain ⟨vs, rfl, rr⟩ := rr
            refine ⟨A, vs, n, j, rfl, rfl, e1, by rw [rr.length]; exact hj, ?_⟩
            exact c.nx _ _ q3 w3 σ _ ((x1.trans x2).trans x3) (h3.put eS hA1 ⟨_, rfl, rr.set r1' j⟩) (((hE.ext x1 xa1).ext x2 xa2).ext x3 xa3)
/-- o.append(e) -/
def slotL (S : SS) (i : Nat) : Option (List D) := match S[i]? with
  | some (some (.lst ds)) => some ds
  | _ => none
theorem slotL_ok {S : SS} {i : Nat} {ds : List D} (h : slotL S i = some ds) : S[i]? = some (some (.lst ds)) := by
  unfold slotL at h
  split at h
  · rename_i e; cases h; exact e
  · cases h
/-- a list stands there -/
def lsB (S : SS) (i : Nat) : Bool := match S[i]? with
  | some (some (.lst _)) => true
  | some (some (.lsu _)) => true
  | _ => false
theorem lsB_ok {K : PySem.W.Frag} {w : Wd} {S : SS} {H : Hp} (h : HRel K w S H) {i : Nat} (e : lsB S i = true) : ∃ a vs, w.A[i]? = some (some a) ∧ H a = some (.lst vs) := by
  unfold lsB at e
  split at e
  · rename_i q
    obtain ⟨A, hA, ⟨ho, ea, vs, rfl, rr⟩, _⟩ := h.live i _ q
    exact ⟨A, vs, hA, ea⟩
  · rename_i q
    obtain ⟨A, hA, ⟨ho, ea, vs, rfl, rr⟩, _⟩ := h.live i _ q
    exact ⟨A, vs, hA, ea⟩
  · cases e
def tApp' (to te : TE') : TE' := fun env S Φ Ψ => to env S (fun u S1 => match u with
  | .r i => match lsB S1 i with
    | true => te env S1 (fun y S2 => match S2[i]? with
      | some (some (.lst ds)) => match y with
        | .d d => ds.length < sizeLine ∧ Φ (.d .non) (S2.set i (some (.lst (ds ++ [d]))))
        | _ => False
      | some (some (.lsu us)) => us.length < sizeLine ∧ Φ (.d .non) (S2.set i (some (.lsu (us ++ [y]))))
      | _ => False) Ψ
    | false => False
  | _ => False) Ψ
theorem qapp (ho : PE X o (liftE X.K W to ka)) (he : PE X e (liftE X.K W te kb)) (hbase : attributeBase o ("append" : Str) X.env (eval o X.env) = eval o X.env := by rfl)
    (hfew : ((backTo cpos (starEach (e :: []) X.env)).all (fun x => !x.1) && (backToKw cpos (keywordEach [] X.env)).all (fun x => x.1.isSome)
      && decide ((e :: ([] : List Expr)).length + ([] : List Keyword).length + (if ([] : List Keyword).isEmpty then 0 else 1) < 30)) = true := by rfl)
    (hline : (apos.endLine == cpos.line) = true := by rfl) (hs : starEach (e :: []) X.env = (false, eval e X.env) :: starEach [] X.env := by rfl) :
    PE X (.Call (.Attribute o ("append" : Str) apos) [e] [] cpos) (liftE X.K W (tApp' to te) (ka + kb)) := by
  refine PE.imp (pe_bm PySem.F.plainAttrs_list PySem.F.slot_list_append PySem.F.type_list_append mt_append ho (pa_cons he pa_nil hs) hbase hfew hline hs (by rfl) (cpos := cpos)) fun σ H Q ⟨w, env, S, Φ, Ψ, hr, hE, hl, q, c⟩ => ?_
  refine ⟨w, env, S, _, Ψ, hr, hE, by omega, q, ⟨fun u S1 q1 w1 v H1 x1 xa1 h1 r1 => ?_, fun z S1 q1 w1 C d H1 x1 xa1 h1 r1 => c.xx z S1 q1 w1 C d H1 (x1.le (by omega)) xa1 h1 r1⟩⟩
  cases u with
  | d _ => exact False.elim q1
  | tup _ => exact False.elim q1
  | r i =>
    cases e1 : lsB S1 i with
    | false => simp only [e1] at q1
    | true =>
      simp only [e1] at q1
      obtain ⟨A, vs, hA1, ea⟩ := lsB_ok h1 e1
      obtain ⟨A', hA2, rfl⟩ := id r1
      rw [hA1] at hA2; cases hA2
      refine ⟨.inl ⟨rfl, vs, SqL.of ea⟩, w1, env, S1, _, Ψ, h1, hE.ext x1 xa1, by have := x1.n; omega, q1, ⟨fun y S2 q2 w2 v2 H2 x2 xa2 h2 r2 => ?_, fun z S2 q2 w2 C d H2 x2 xa2 h2 r2 => c.xx z S2 q2 w2 C d H2 (x1.trans x2) (xa1.trans xa2) h2 r2⟩⟩
      cases e2 : S2[i]? with
      | none => simp only [e2] at q2
      | some o =>
        cases o with
        | none => simp only [e2] at q2
        | some m =>
          obtain ⟨B, hB1, ⟨ho2, eb, rr2⟩, _⟩ := h2.live i _ e2
          rw [xa2 i A hA1] at hB1; cases hB1
          cases m with
          | dic _ _ => simp only [e2] at q2
          | ins _ _ _ => simp only [e2] at q2
          | lst ds =>
            cases y with
            | r _ => simp only [e2] at q2
            | tup _ => simp only [e2] at q2
            | d yd =>
              simp only [e2] at q2
              obtain ⟨ws, rfl, rr2⟩ := rr2
              exact ⟨A, ws, v2, rfl, rfl, eb, by rw [rr2.length]; exact q2.1, c.ok _ _ q2.2 w2 .non _ (x1.trans x2) (xa1.trans xa2) (h2.put e2 (xa2 i A hA1) ⟨_, rfl, rr2.app (.cons r2 .nil)⟩) .non⟩
          | lsu us =>
            simp only [e2] at q2
            obtain ⟨ws, rfl, rr2⟩ := rr2
            exact ⟨A, ws, v2, rfl, rfl, eb, by rw [rr2.length]; exact q2.1, c.ok _ _ q2.2 w2 .non _ (x1.trans x2) (xa1.trans xa2) (h2.put e2 (xa2 i A hA1) ⟨_, rfl, rr2.app (.cons r2 .nil)⟩) .non⟩

/-! ### methods of texts -/
abbrev RM' := List Nat → List U → SS → (U → SS → Prop) → XX → Prop
def MtL (K : PySem.W.Frag) (W : WX) (r : V → List V → Hp → VK → Prop) (r' : RM') : Prop :=
  ∀ {w : Wd} {S : SS} {H : Hp} {σ : L2.St} {env : Env} {l : List Nat} {vs : List V} {us : List U} {Φ : U → SS → Prop} {Ψ : XX} {Q : VK}, Here K w S H σ env 0 → RepUs K w vs us → r' l us S Φ Ψ → Co (RepU K) K W 0 w σ Φ Ψ Q → r (.str ⟨l.toArray⟩) vs H Q
def tMs' (r' : RM') (to : TE') (ta : TA') : TE' := fun env S Φ Ψ => to env S (fun u S1 => match u with
  | .d (.str l) => ta env S1 (fun us S2 => r' l us S2 Φ Ψ) Ψ
  | _ => False) Ψ
variable {id : String} {name : Str} {r : V → List V → Hp → VK → Prop} {r' : RM'}
theorem ms_lift (hl : MtL X.K W r r') {σ : L2.St} {H : Hp} {Q : VK} (h : liftE X.K W (tMs' r' to tas) (ka + kb) σ H Q) : tBM X.K "str" r (liftE X.K W to ka) (liftA X.K W tas kb) σ H Q := by
  obtain ⟨w, env, S, Φ, Ψ, hr, hE, hl', q, c⟩ := h
  refine ⟨w, env, S, _, Ψ, hr, hE, by omega, q, ⟨fun u S1 q1 w1 v H1 x1 xa1 h1 r1 => ?_, fun z S1 q1 w1 C d H1 x1 xa1 h1 r1 => c.xx z S1 q1 w1 C d H1 (x1.le (by omega)) xa1 h1 r1⟩⟩
  cases u with
  | r _ => exact False.elim q1
  | tup _ => exact False.elim q1
  | d y =>
    cases y <;> try exact False.elim q1
    rename_i l
    rw [RepN.str (Rep.now h1 r1)]
    refine ⟨rfl, w1, env, S1, _, Ψ, h1, hE.ext x1 xa1, by have := x1.n; omega, q1, ⟨fun us S2 q2 w2 vs H2 x2 xa2 h2 r2 => ?_, fun z S2 q2 w2 C d H2 x2 xa2 h2 r2 => c.xx z S2 q2 w2 C d H2 (x1.trans x2) (xa1.trans xa2) h2 r2⟩⟩
    have x3 := x1.trans x2
    exact hl ⟨h2, (hE.ext x1 xa1).ext x2 xa2, by have := x3.n; omega⟩ r2 q2 (Co.ext (k := 0) c x3 (xa1.trans xa2))
theorem qms (slot : Slot "str" name id) (hty : typeOf (.builtin id) = pure (.type "method_descriptor")) (hm : MtR X id r) (hl : MtL X.K W r r') (ho : PE X o (liftE X.K W to ka)) (ha : PA X (e :: es) (liftA X.K W tas kb))
    (hbase : attributeBase o name X.env (eval o X.env) = eval o X.env := by rfl)
    (hfew : ((backTo cpos (starEach (e :: es) X.env)).all (fun x => !x.1) && (backToKw cpos (keywordEach [] X.env)).all (fun x => x.1.isSome)
      && decide ((e :: es).length + ([] : List Keyword).length + (if ([] : List Keyword).isEmpty then 0 else 1) < 30)) = true := by rfl)
    (hline : (apos.endLine == cpos.line) = true := by rfl) (hs : starEach (e :: es) X.env = (false, eval e X.env) :: starEach es X.env := by rfl) (hplain : (backTo cpos (starEach es X.env)).any (·.1) = false := by rfl) :
    PE X (.Call (.Attribute o name apos) (e :: es) [] cpos) (liftE X.K W (tMs' r' to tas) (ka + kb)) := PE.imp (pe_bm PySem.F.plainAttrs_str slot hty hm ho ha hbase hfew hline hs hplain) fun _ _ _ h => ms_lift hl h
theorem qms0 (slot : Slot "str" name id) (hty : typeOf (.builtin id) = pure (.type "method_descriptor")) (hm : MtR X id r) (hl : MtL X.K W r r') (ho : PE X o (liftE X.K W to ka))
    (hbase : attributeBase o name X.env (eval o X.env) = eval o X.env := by rfl) (hline : (apos.endLine == cpos.line) = true := by rfl) :
    PE X (.Call (.Attribute o name apos) [] [] cpos) (liftE X.K W (tMs' r' to tNil') (ka + 0)) := PE.imp (pe_bm0 PySem.F.plainAttrs_str slot hty hm ho hbase hline) fun σ H Q h => lift_mono (ms_lift (tas := tNil') (kb := 0) (r := r) hl h) fun x H1 ⟨t, q⟩ => ⟨t, pure_lift (Rp := RepUs X.K) (b := ([] : List U)) q fun _ => .nil⟩
/-- ASCII -/
def low (c : Nat) : Nat := if 65 ≤ c ∧ c ≤ 90 then c + 32 else c
def upp (c : Nat) : Nat := if 97 ≤ c ∧ c ≤ 122 then c - 32 else c
def asc (l : List Nat) : Prop := ∀ c ∈ l, c < 128
def fCase (g : Nat → Nat) : RM' := fun l us S Φ _ => match us with
  | [] => (asc l ∧ l.length ≤ 1000000) ∧ Φ (.d (.str (l.map g))) S
  | _ => False
theorem lowerM {K : PySem.W.Frag} : MtL K W (fun x xs H Q => ∃ a, x = .str a ∧ xs = [] ∧ a.length ≤ 5592405 ∧ Q (.str (Txt.lower a)) H) (fCase low) := by
  intro w S H σ env l vs us Φ Ψ Q hh r q c
  cases r with
  | cons _ _ => exact False.elim q
  | nil =>
    refine ⟨_, rfl, rfl, by rw [len_mk]; have := q.1.2; omega, ?_⟩
    have e : Txt.lower ⟨l.toArray⟩ = ⟨(l.map low).toArray⟩ := by
      rw [lower_ascii (x := ⟨l.toArray⟩) q.1.1]
      exact ext_tl (by simp [tl]; intro a _; rfl)
    rw [e]
    exact c.here hh q.2 Rep.strL
theorem upperM {K : PySem.W.Frag} : MtL K W (fun x xs H Q => ∃ a, x = .str a ∧ xs = [] ∧ a.length ≤ 5592405 ∧ Q (.str (Txt.upper a)) H) (fCase upp) := by
  intro w S H σ env l vs us Φ Ψ Q hh r q c
  cases r with
  | cons _ _ => exact False.elim q
  | nil =>
    refine ⟨_, rfl, rfl, by rw [len_mk]; have := q.1.2; omega, ?_⟩
    have e : Txt.upper ⟨l.toArray⟩ = ⟨(l.map upp).toArray⟩ := by
      rw [upper_ascii (x := ⟨l.toArray⟩) q.1.1]
      exact ext_tl (by simp [tl]; intro a _; rfl)
    rw [e]
    exact c.here hh q.2 Rep.strL
/-- sep.join(texts) -/
def asStrs : List D → Option (List (List Nat))
  | [] => some []
  | .str l :: ds => match asStrs ds with
    | some ls => some (l :: ls)
    | none => none
  | _ :: _ => none
theorem asStrs_ok {K : PySem.W.Frag} {F : Hp} {J : Addr → Prop} : ∀ {ds : List D} {ls : List (List Nat)} {vs : List V}, asStrs ds = some ls → Reps K F J vs ds → vs = (ls.map fun l => (⟨l.toArray⟩ : Str)).map V.str
  | [], ls, _, e, .nil => by
    have : ls = [] := by simpa [asStrs] using e.symm
    rw [this]; rfl
  | d :: ds, ls, _, e, .cons h r => by
    cases d <;> try (simp [asStrs] at e; done)
    rename_i l
    cases q : asStrs ds with
    | none => simp [asStrs, q] at e
    | some cs =>
      have : ls = l :: cs := by simpa [asStrs, q] using e.symm
      subst this
      rw [asStrs_ok q r]
      cases h
      rw [List.map_cons, List.map_cons, mk_tl]
def seqOf : Option D → Option (List D)
  | some (.lst ds) => some ds
  | some (.tup ds) => some ds
  | _ => none
def fJoin : RM' := fun l us S Φ _ => match us with
  | [u] => ∃ ds ls, seqOf (rd u S) = some ds ∧ asStrs ds = some ls ∧ ((ls.map List.length).sum + ls.length * l.length ≤ 1000000) ∧ Φ (.d (.str (joinL l ls))) S
  | _ => False
theorem joinM {K : PySem.W.Frag} : MtL K W (fun x xs H Q => ∃ a p, ∃ ys : List Str, x = .str a ∧ xs = [.ref p] ∧ (SqL K H p (ys.map V.str) ∨ SqT K H p (ys.map V.str)) ∧ (ys.map (·.length)).sum + ys.length * a.length ≤ 16777216 ∧ Q (.str (Txt.join a ys)) H) fJoin := by
  intro w S H σ env l vs us Φ Ψ Q hh r q c
  cases r with
  | nil => exact False.elim q
  | @cons v u vs us r rr =>
    cases rr with
    | cons _ _ => exact False.elim q
    | nil =>
      obtain ⟨ds, ls, e1, e2, hz, q⟩ := q
      have e3 : Txt.join ⟨l.toArray⟩ (ls.map fun l => (⟨l.toArray⟩ : Str)) = ⟨(joinL l ls).toArray⟩ := ext_tl (by
        rw [join_eq, tl_join]
        show joinL l _ = joinL l ls
        rw [List.map_map]
        congr 1
        exact (List.map_congr_left fun a _ => rfl).trans (List.map_id ls))
      have e4 : ((ls.map fun l => (⟨l.toArray⟩ : Str)).map (·.length)).sum + (ls.map fun l => (⟨l.toArray⟩ : Str)).length * (⟨l.toArray⟩ : Str).length ≤ 16777216 := by
        rw [List.map_map, List.length_map, len_mk]
        have : (ls.map ((fun x : Str => x.length) ∘ fun l => ⟨l.toArray⟩)) = ls.map List.length := List.map_congr_left fun a _ => len_mk a
        rw [this]
        omega
      cases e5 : rd u S with
      | none => rw [e5] at e1; cases e1
      | some d =>
        rw [e5] at e1
        have n := rd_ok hh.h r e5
        cases d <;> try (cases e1; done)
        · cases e1
          obtain ⟨p, vs, rfl, s1, rr⟩ := n.tup hh.h
          rw [asStrs_ok e2 rr] at s1
          exact ⟨_, p, _, rfl, rfl, .inr s1, e4, by rw [e3]; exact c.here hh q Rep.strL⟩
        · cases e1
          obtain ⟨p, vs, rfl, s1, rr⟩ := n
          rw [asStrs_ok e2 rr] at s1
          exact ⟨_, p, _, rfl, rfl, .inl (SqL.of s1), e4, by rw [e3]; exact c.here hh q Rep.strL⟩
end

/-! ### jars -/
def JarOk (x y c : Int) : Prop := 0 ≤ x ∧ 0 ≤ y ∧ y < 2 ^ 200 ∧ 0 ≤ c
section
variable {P : Program} {w : World} {K : PySem.W.Frag} {mg : Str → Option Value} {base : Heap}
/-- many: a number from 0 to many less one -/
def spDraw : Sp' := fun ds Φ _ => match ds with
  | [.jar, .int m] => (0 < m ∧ m < 2 ^ 200) ∧ ∀ r : Int, 0 ≤ r → r < m → Φ (.int r)
  | _ => False
def rtDraw (Φ : D → Prop) (c m : Int) : U → SS → Prop := fun u S => match u, S with
  | .d (.int r), some (.lst [.int x, .int y, .int c']) :: _ => (JarOk x y c' ∧ c' ≤ c + 1 ∧ 0 ≤ r ∧ r < m) ∧ Φ (.int r)
  | _, _ => False
theorem draw_ok {nm : Str} {st : Stmt} {N ps : List Str} {l kb : Nat} {t : TS'} (Fd : Df K mg nm st ps) (S : FnScope N ps (defScope st)) (hps : ps.length = 2)
    (hb : ∀ (f : Addr) (cdv : Value) (A : Around) (outer : List PySem.Env) (s : Shared) (H : Hp) (E : XK), Room l (A.deeper (envOfC nm (defScope st) s.heap.objs.size f cdv)) →
      PSs (cxOf (L2.CX P w) P w K mg base N nm (defScope st) f cdv A outer s H E) (defBody st) (liftS K (fun C d _ H => E C d H) t kb))
    (hk : kb = 0) (hv : ∀ (x y c m : Int) (Φ : D → Prop), JarOk x y c → c ≤ 2 ^ 200 → 0 < m → m < 2 ^ 200 → (∀ r : Int, 0 ≤ r → r < m → Φ (.int r)) →
      t { nx := fun _ _ => False, rt := rtDraw Φ c m, xx := fun _ _ _ => False } (some (.r 0) :: some (.d (.int m)) :: List.replicate (N.length - 2) none) [some (.lst [.int x, .int y, .int c])]) : Fn P w K mg base nm ps (l + 1) spDraw 1 := by
  obtain ⟨f, fd, Fu, hm, hB⟩ := Fd.ex
  refine ⟨f, fd, hm, Fu.kp, hB, Fun.okX Fu S (fun vs H Q E ⟨F, J, n, ds, Φ, Ψ, _, _, r, _, q, _, _⟩ => ?_) fun cdv A outer s H vs Q E hr ⟨F, J, n, ds, Φ, Ψ, hF, hJ, r, hn, q, c1, c2⟩ => ?_⟩
  · rw [r.length, hps]
    unfold spDraw at q
    split at q
    · rfl
    · exact q.elim
  · unfold spDraw at q
    split at q
    · rename_i m
      obtain ⟨⟨m0, m1⟩, q⟩ := q
      cases r with
      | cons r1 r =>
        cases r with
        | cons r2 r =>
          cases r
          cases r2
          cases r1 with
          | @jar a ja =>
            obtain ⟨⟨x, y, c, ea, hx, hy, hy2, hc0, hcn⟩, fa⟩ := hJ a ja
            have nR : (open Classical in if J a then none else H a) = none := if_pos ja
            let w0 : Wd := ⟨F, fun b => J b ∧ b ≠ a, [some a], fun a => open Classical in if J a then none else H a, n, [a]⟩
            have hl : N.length = 2 + (N.length - 2) := by
              have := S.pre
              have h2 : (N.take ps.length).length = ps.length := by rw [this]
              rw [List.length_take, hps] at h2
              omega
            have hlim : (n : Int) ≤ 2 ^ 200 := by
              have h3 : n ≤ LIM := by omega
              have h4 : (LIM : Int) = 2 ^ 200 := by decide +kernel
              omega
            have rel : HRel K w0 [some (.lst [.int x, .int y, .int c])] H := by
              refine ⟨hF, fun b o e => ?_, fun b j => ⟨(hJ b j.1).1, (hJ b j.1).2, if_pos j.1⟩, rfl, fun i e => ?_, fun i o e => ?_, fun i j b e1 e2 => ?_, fun i b e => by cases i <;> simpa [w0] using e⟩
              · have e' : (open Classical in if J b then none else H b) = some o := e
                by_cases z : J b
                · rw [if_pos z] at e'; cases e'
                · rw [if_neg z] at e'; exact e'
              · cases i <;> simp at e
              · cases i with
                | zero =>
                  have : (MO.lst [.int x, .int y, .int c]) = o := by simpa using e
                  subst this
                  exact ⟨a, rfl, ⟨_, ea, _, rfl, .cons .int (.cons .int (.cons .int .nil))⟩, fa, nR, fun z => z.2 rfl⟩
                | succ i => simp at e
              · cases i <;> cases j <;> first | rfl | (simp [w0] at e1 e2; done)
            have er : EnvR K w0 (L2.start N [.ref a, .int m]) (some (.r 0) :: some (.d (.int m)) :: List.replicate (N.length - 2) none) := by
              refine ⟨by simp [L2.start], fun i u e => ?_⟩
              cases i with
              | zero =>
                have : U.r 0 = u := by simpa using e
                subst this
                exact ⟨_, rfl, a, rfl, rfl⟩
              | succ i =>
                cases i with
                | zero =>
                  have : U.d (.int m) = u := by simpa using e
                  subst this
                  exact ⟨_, rfl, .int⟩
                | succ i =>
                  rw [List.getElem?_cons_succ, List.getElem?_cons_succ, List.getElem?_replicate] at e
                  split at e <;> cases e
            refine ⟨_, hb f cdv A outer s H E hr, w0, _, _, _, rel, er, by show n + kb ≤ LIM; omega, hv x y c m Φ ⟨hx, hy, hy2, hc0⟩ (by omega) m0 m1 q, ⟨fun _ _ z => False.elim z, fun u S1 q1 w1 v H1 X1 h1 ru => ?_, fun _ _ z => False.elim z, fun _ _ z => False.elim z, fun _ _ _ z => False.elim z⟩⟩
            have q1' : rtDraw Φ c m u S1 := q1
            unfold rtDraw at q1'
            split at q1'
            · rename_i r x' y' c' tl0
              obtain ⟨⟨⟨k1, k2, k3, k4⟩, k5, k6, k7⟩, q1'⟩ := q1'
              obtain ⟨b, hb1, ⟨ho, e1, vs, rfl, rv⟩, n1, n2, n3⟩ := h1.live 0 _ rfl
              have hb2 := h1.pin 0 a (by rw [X1.B]; rfl)
              rw [hb1] at hb2
              obtain rfl : b = a := by simpa using hb2
              have e1' : H1 b = some (.lst [.int x', .int y', .int c']) := by
                cases rv with
                | cons a1 rv =>
                  cases rv with
                  | cons a2 rv =>
                    cases rv with
                    | cons a3 rv =>
                      cases rv
                      cases a1; cases a2; cases a3
                      exact e1
              have ra : ∀ z, w0.R z = none → J z ∨ H z = none := fun z e => by
                have e' : (open Classical in if J z then none else H z) = none := e
                by_cases zz : J z
                · exact .inl zz
                · rw [if_neg zz] at e'; exact .inr e'
              have hv : v = .int r := RepN.int (Rep.now h1 ru)
              subst hv
              have hn1 : w1.n ≤ n := by
                have z : w1.n ≤ n + kb := X1.n
                omega
              refine c1 _ q1' w1.F (fun z => w1.J z ∨ z = b) (n + 1) _ H1 ⟨X1.F, fun z jz => ?_, Nat.le_refl _, h1.fz, fun z jz => ?_, fun z o e nj => h1.fr z o ?_, fun z o e => ?_, fun z jz => ?_⟩ .int
              · by_cases hz : z = b
                · exact .inr hz
                · exact .inl (X1.J z ⟨jz, hz⟩)
              · rcases jz with jz | jz
                · obtain ⟨⟨x2, y2, c2', e2, g1, g2, g3, g4, g5⟩, g6, _⟩ := h1.jr z jz
                  exact ⟨⟨x2, y2, c2', e2, g1, g2, g3, g4, by omega⟩, g6⟩
                · subst jz
                  exact ⟨⟨x', y', c', e1', k1, k2, k3, k4, by omega⟩, n1⟩
              · rw [X1.R]
                show (open Classical in if J z then none else H z) = some o
                rw [if_neg nj]; exact e
              · rcases X1.N z o e with zz | zz
                · exact .inl zz
                · rcases ra z zz with jz | hz
                  · by_cases hz : z = b
                    · subst hz; rw [n1] at e; cases e
                    · have := (h1.jr z (X1.J z ⟨jz, hz⟩)).2.1
                      rw [e] at this; cases this
                  · exact .inr hz
              · rcases jz with jz | jz
                · exact ra z (by rw [← X1.R]; exact (h1.jr z jz).2.2)
                · subst jz; exact .inl ja
            · exact q1'.elim
    · exact q.elim

/-- a jar is made: a new list of three numbers -/
def rtJar (Φ : D → Prop) : U → SS → Prop := fun u S => match u with
  | .r i => match slotL S i with
    | some [.int x, .int y, .int c] => (JarOk x y c ∧ c = 0) ∧ Φ .jar
    | _ => False
  | _ => False
theorem jar_ok {nm : Str} {st : Stmt} {N ps : List Str} {l k kb m : Nat} {sp : Sp'} {t : TS'} (Fd : Df K mg nm st ps) (S : FnScope N ps (defScope st)) (len : ∀ ds Φ Ψ, sp ds Φ Ψ → ds.length = ps.length)
    (hb : ∀ (f : Addr) (cdv : Value) (A : Around) (outer : List PySem.Env) (s : Shared) (H : Hp) (E : XK), Room l (A.deeper (envOfC nm (defScope st) s.heap.objs.size f cdv)) →
      PSs (cxOf (L2.CX P w) P w K mg base N nm (defScope st) f cdv A outer s H E) (defBody st) (liftS K (fun C d _ H => E C d H) t kb))
    (hk : kb ≤ k) (hv : ∀ ds Φ Ψ, sp ds Φ Ψ → t { nx := fun _ _ => False, rt := rtJar Φ, xx := fun _ _ _ => False } (startE N ds) (List.replicate m none)) : Fn P w K mg base nm ps (l + 1) sp k := by
  obtain ⟨f, fd, Fu, hm, hB⟩ := Fd.ex
  refine ⟨f, fd, hm, Fu.kp, hB, Fun.okX Fu S (fun vs H Q E ⟨F, J, n, ds, Φ, Ψ, _, _, r, _, q, _, _⟩ => r.length.trans (len ds Φ Ψ q)) fun cdv A outer s H vs Q E hr ⟨F, J, n, ds, Φ, Ψ, hF, hJ, r, hn, q, c1, c2⟩ => ?_⟩
  refine ⟨_, hb f cdv A outer s H E hr, wd0 F J n m H, startE N ds, List.replicate m none, _, wd0_rel hF hJ, env0_rel r, by show n + kb ≤ LIM; omega, hv ds Φ Ψ q, ⟨fun _ _ z => False.elim z, fun u S1 q1 w1 v H1 x h ru => ?_, fun _ _ z => False.elim z, fun _ _ z => False.elim z, fun _ _ _ z => False.elim z⟩⟩
  have q1' : rtJar Φ u S1 := q1
  cases u with
  | d _ => exact False.elim q1'
  | tup _ => exact False.elim q1'
  | r i =>
    unfold rtJar at q1'
    simp only at q1'
    split at q1'
    · rename_i x0 y0 c0 e0
      obtain ⟨⟨⟨k1, k2, k3, k4⟩, k5⟩, q1'⟩ := q1'
      have A0 := after0 (m := m) hF (x.le hk) h
      obtain ⟨a, ha, ⟨ho, e1, vs1, rfl, rv⟩, n1, n2, n3⟩ := h.live i _ (slotL_ok e0)
      obtain ⟨a', ha', rfl⟩ := ru
      rw [ha] at ha'; cases ha'
      have e1' : H1 a = some (.lst [.int x0, .int y0, .int c0]) := by
        cases rv with
        | cons a1 rv =>
          cases rv with
          | cons a2 rv =>
            cases rv with
            | cons a3 rv =>
              cases rv
              cases a1; cases a2; cases a3
              exact e1
      have hna : H a = none := by
        cases q : H a with
        | none => rfl
        | some o =>
          by_cases z : J a
          · exact absurd (x.J a z) n3
          · have : w1.R a = some o := by
              rw [x.R]
              show (open Classical in if J a then none else H a) = some o
              rw [if_neg z]; exact q
            rw [n2] at this; cases this
      refine c1 _ q1' w1.F (fun z => w1.J z ∨ z = a) w1.n _ H1 ⟨A0.sF, fun z jz => .inl (A0.sJ z jz), A0.sn, A0.fz, fun z jz => ?_, A0.fr, A0.nF, fun z jz => ?_⟩ (.jar (.inr rfl))
      · rcases jz with jz | jz
        · exact A0.jr z jz
        · subst jz
          exact ⟨⟨x0, y0, c0, e1', k1, k2, k3, k4, by omega⟩, n1⟩
      · rcases jz with jz | jz
        · exact A0.nJ z jz
        · subst jz; exact .inr hna
    · exact q1'.elim
end
end Pl
namespace Pl
open PySem PySem.Spec PyProof.Rows L2 TL
section
variable {P : Program} {w : World} {K : PySem.W.Frag} {mg : Str → Option Value} {base : Heap} {nm : Str} {st : Stmt} {N ps : List Str} {l k : Nat} {sp : Sp'}
/-- a body's derivation, in every frame -/
abbrev Bod (P : Program) (w : World) (K : PySem.W.Frag) (mg : Str → Option Value) (base : Heap) (nm : Str) (st : Stmt) (N : List Str) (l : Nat) (t : TS') (kb : Nat) : Prop :=
  ∀ (f : Addr) (cdv : Value) (A : Around) (outer : List PySem.Env) (s : Shared) (H : Hp) (E : XK), Room l (A.deeper (envOfC nm (defScope st) s.heap.objs.size f cdv)) →
      PSs (cxOf (L2.CX P w) P w K mg base N nm (defScope st) f cdv A outer s H E) (defBody st) (liftS K (fun C d _ H => E C d H) t kb)
theorem fnE (m : Nat) (Fd : Df K mg nm st ps) (S : FnScope N ps (defScope st)) (len : ∀ ds Φ Ψ, sp ds Φ Ψ → ds.length = ps.length)
    (h : ∃ (t : TS') (kb : Nat), Bod P w K mg base nm st N l t kb ∧ kb ≤ k ∧ ∀ ds Φ Ψ, sp ds Φ Ψ → t (endE Φ Ψ) (startE N ds) (List.replicate m none)) : Fn P w K mg base nm ps (l + 1) sp k := by
  obtain ⟨t, kb, hb, hk, hv⟩ := h
  exact fn_okF Fd S len hb hk hv
theorem jarE (m : Nat) (Fd : Df K mg nm st ps) (S : FnScope N ps (defScope st)) (len : ∀ ds Φ Ψ, sp ds Φ Ψ → ds.length = ps.length)
    (h : ∃ (t : TS') (kb : Nat), Bod P w K mg base nm st N l t kb ∧ kb ≤ k ∧ ∀ ds Φ Ψ, sp ds Φ Ψ → t { nx := fun _ _ => False, rt := rtJar Φ, xx := fun _ _ _ => False } (startE N ds) (List.replicate m none)) : Fn P w K mg base nm ps (l + 1) sp k := by
  obtain ⟨t, kb, hb, hk, hv⟩ := h
  exact jar_ok Fd S len hb hk hv
theorem drawE (Fd : Df K mg nm st ps) (S : FnScope N ps (defScope st)) (hps : ps.length = 2)
    (h : ∃ (t : TS') (kb : Nat), Bod P w K mg base nm st N l t kb ∧ kb = 0 ∧ ∀ (x y c m : Int) (Φ : D → Prop), JarOk x y c → c ≤ 2 ^ 200 → 0 < m → m < 2 ^ 200 → (∀ r : Int, 0 ≤ r → r < m → Φ (.int r)) →
      t { nx := fun _ _ => False, rt := rtDraw Φ c m, xx := fun _ _ _ => False } (some (.r 0) :: some (.d (.int m)) :: List.replicate (N.length - 2) none) [some (.lst [.int x, .int y, .int c])]) : Fn P w K mg base nm ps (l + 1) spDraw 1 := by
  obtain ⟨t, kb, hb, hk, hv⟩ := h
  exact draw_ok Fd S hps hb hk hv
end
end Pl
namespace Pl
open PySem PySem.Spec PyProof.Rows L2 TL
theorem powOk {i j : Int} (h0 : 0 ≤ i) (h : i < 2 ^ 250) (hj : 0 ≤ j) (hj2 : j ≤ 1000) : CPowW i j := by
  have l : i.natAbs.log2 < 250 := PySem.Flt.log2_lt_of (by decide) (by omega)
  refine ⟨hj, ?_⟩
  have h1 : (i.natAbs.log2 + 1 : Int) ≤ 1000 := by omega
  have h2 : (i.natAbs.log2 + 1 : Int) * j ≤ 1000 * j := Int.mul_le_mul_of_nonneg_right h1 hj
  omega
theorem divOk {i j : Int} (h0 : 0 < j) (h : j < 2 ^ 250) : CDivW i j := ⟨h0, Nat.lt_of_lt_of_le (show j.natAbs.log2 < 250 from PySem.Flt.log2_lt_of (by decide) (by omega)) (by decide)⟩
theorem mulL1 {i j : Int} (h1 : -(2 ^ 64) < i) (h2 : i < 2 ^ 64) : CMulA i j := .inl (.inl ⟨h1, h2⟩)
theorem mulR1 {i j : Int} (h1 : -(2 ^ 64) < j) (h2 : j < 2 ^ 64) : CMulA i j := .inl (.inr ⟨h1, h2⟩)
end Pl

namespace Pl
open PySem PySem.Spec PyProof.Rows L2 TL

/-! ### fields of objects that never change -/
/-- the class's facts for a field -/
structure Fld (K : PySem.W.Frag) (C : Addr) (ns : List Str) (f : Str) (i : Nat) : Prop where
  cl : Cls K C
  no : NoAttr K C f
  at_ : ∀ {α : Type} (ds : List α) (d : α), ds[i]? = some d → (ns.zip ds).lookup f = some d
section
variable {X : Cx} {W : WX} {pos p apos : Pos} {e o : Expr} {es : List Expr} {ta to te : TE'} {tas : TA'} {k ka kb kc : Nat} {C : Addr} {ns : List Str}
def tFld' (C : Addr) (ns : List Str) (i : Nat) (ta : TE') : TE' := fun env S Φ Ψ => ta env S (fun u S1 => match u with
  | .d (.obj C' ns' ds) => (C' = C ∧ ns' = ns) ∧ ∃ d, ds[i]? = some d ∧ Φ (.d d) S1
  | _ => False) Ψ
theorem qfld {f : Str} {i : Nat} (T : Fld X.K C ns f i) (he : PE X e (liftE X.K W ta k)) (hb : attributeBase e f X.env (eval e X.env) = eval e X.env := by rfl) : PE X (.Attribute e f pos) (liftE X.K W (tFld' C ns i ta) (k + 0)) := by
  refine PE.imp (pe_fld he hb) fun σ H Q h => lift_mono (lift_bind (Rp := RepU X.K) (g := fun u _ S Φ _ => match u with
    | .d (.obj C' ns' ds) => (C' = C ∧ ns' = ns) ∧ ∃ d, ds[i]? = some d ∧ Φ (U.d d) S
    | _ => False) h) fun v H1 ⟨w, u, env, S, Φ, Ψ, hh, r, q, c⟩ => ?_
  cases u with
  | r i => exact False.elim q
  | tup _ => exact False.elim q
  | d x =>
    cases x <;> try exact False.elim q
    obtain ⟨⟨rfl, rfl⟩, d, hd, q⟩ := q
    have r' : Rep X.K w.F w.J v (.obj _ _ _) := r
    cases r' with
    | obj e1 l rr =>
      obtain ⟨y, hy, ry⟩ := rr.get hd
      exact ⟨_, _, _, _, y, rfl, hh.h.fz _ _ e1, T.cl, T.no, T.at_ _ _ hy, c.here hh q ry⟩

/-! ### methods of such objects -/
/-- a callee's run, what it raises wished for at the caller's slots -/
theorem code_fn {CX : CXT} {lv : Nat} {f : Addr} {fd : FuncData} {ps : List Str} {sp : Sp} {E : XK} {pins : List (Addr × Obj)} {σ : L2.St} {H : Hp} {s : Shared} {Q : VK} {us : List Value} {vs : List V} (F : FnOk X.prog X.w X.K X.mg X.base CX lv f fd ps sp) (hr : Room lv X.A) (hb : Binds X.K fd ps [])
    (hx : PassesAt CX X σ E) (I : Inv X pins σ H s) (r : Vals vs us) (h : sp vs H Q E) :
    codeAny (model X.prog X.w) X.A (.call (.ref f) ⟨us, []⟩) (fun r s' => match r with | .ok (.ret v) => EP X pins σ Q v s' | .ok _ => False | .error e => X.xe e s') s := by
  have hl : us.length = ps.length := by rw [← r.length]; exact F.len _ _ _ _ h
  have hb' := hb s us I.kIn (by rw [List.append_nil]; exact hl)
  rw [List.append_nil] at hb'
  refine codeAny_mono (F.run X.A X.stack s H ⟨us, []⟩ us vs Q E hr I.env0 hb' r h) fun r s' hq => ?_
  cases r with
  | error e => exact hx pins H s e s' I hq
  | ok fl =>
    cases fl with
    | ret u => exact I.after hq
    | next => exact False.elim hq
    | brk => exact False.elim hq
    | cont => exact False.elim hq
/-- a method of the class at C, found by its name -/
structure MFn (P : Program) (w : World) (K : PySem.W.Frag) (mg : Str → Option Value) (base : Heap) (C : Addr) (m : Str) (ps : List Str) (lv : Nat) (sp : Sp') (k : Nat) : Prop where
  ex : ∃ f fd, Meth K C m f ∧ PySem.W.fnIn K f = true ∧ KwB K fd ps ∧ FnOk P w K mg base (L2.CX P w) lv f fd ps (liftP K sp k)
structure MDf (K : PySem.W.Frag) (C : Addr) (m qual : Str) (st : Stmt) (ps : List Str) : Prop where
  ex : ∃ f fd, Fun K m qual st f fd ∧ Meth K C m f ∧ PySem.W.fnIn K f = true ∧ KwB K fd ps
def tMeth' (C : Addr) (ns : List Str) (sp : Sp') (to : TE') (ta : TA') : TE' := fun env S Φ Ψ => to env S (fun u S1 => match u with
  | .d (.obj C' ns' ds) => (C' = C ∧ ns' = ns) ∧ ta env S1 (fun us S2 => match clos 100 us with
    | some es => sp (.obj C' ns' ds :: es) (fun d => Φ (.d d) S2) (fun x => Ψ x S2)
    | none => False) Ψ
  | _ => False) Ψ
def tMethS (C : Addr) (m : Str) (sp : Sp) (E : L2.St → XK) (ta : TE) (t : TA) : TE := fun σ H Q => ta σ H fun x H1 => ∃ a dx fs, x = .ref a ∧ H1 a = some (.ins C dx fs) ∧ fs.lookup m = none ∧ t σ H1 fun vs H2 => sp (x :: vs) H2 Q (E σ)
theorem meth_lift {m : Str} {sp : Sp'} (hm : ∀ {α : Type} (ds : List α), (ns.zip ds).lookup m = none) {σ : L2.St} {H : Hp} {Q : VK} (h : liftE X.K W (tMeth' C ns sp to tas) (ka + kb + k) σ H Q) :
    tMethS C m (liftP X.K sp k) (WE W) (liftE X.K W to ka) (liftA X.K W tas kb) σ H Q := by
  obtain ⟨w, env, S, Φ, Ψ, hr, hE, hl, q, c⟩ := h
  refine ⟨w, env, S, _, Ψ, hr, hE, by omega, q, ⟨fun u S1 q1 w1 v H1 x1 xa1 h1 r1 => ?_, fun z S1 q1 w1 C d H1 x1 xa1 h1 r1 => c.xx z S1 q1 w1 C d H1 (x1.le (by omega)) xa1 h1 r1⟩⟩
  cases u with
  | r _ => exact False.elim q1
  | tup _ => exact False.elim q1
  | d y =>
    cases y <;> try exact False.elim q1
    rename_i C' ns' ds
    obtain ⟨⟨rfl, rfl⟩, q1⟩ := q1
    have r1' : Rep X.K w1.F w1.J v (.obj C' ns' ds) := r1
    cases id r1' with
    | obj e1 l rr =>
      refine ⟨_, _, _, rfl, h1.fz _ _ e1, hm _, w1, env, S1, _, Ψ, h1, hE.ext x1 xa1, by have := x1.n; omega, q1, ⟨fun us S2 q2 w2 vs2 H2 x2 xa2 h2 r2 => ?_, fun z S2 q2 w2 C d H2 x2 xa2 h2 r2 => c.xx z S2 q2 w2 C d H2 ((x1.trans x2).le (by omega)) (xa1.trans xa2) h2 r2⟩⟩
      have x3 := x1.trans x2
      cases e3 : clos 100 us with
      | none => simp only [e3] at q2
      | some es2 =>
        simp only [e3] at q2
        exact call_rep (ds := .obj C' ns' ds :: es2) ⟨h2, (hE.ext x1 xa1).ext x2 xa2, by have := x3.n; omega⟩ (.cons (Rep.ext x2 r1') (clos_ok r2 e3).1) q2 (c.ext (j := ka + kb) x3 (xa1.trans xa2))
/-- o.m(e, ..) -/
theorem qmeth {m : Str} {ps : List Str} {lv : Nat} {sp : Sp'} {pl : Sem Bool} (G : MFn X.prog X.w X.K X.mg X.base C m ps lv sp k) (cl : Cls X.K C) (hm : ∀ {α : Type} (ds : List α), (ns.zip ds).lookup m = none) (hr : Room lv X.A) (tk : Takes X W) (he : PE X o (liftE X.K W to ka)) (ha : PA X (e :: es) (liftA X.K W tas kb))
    (hst : starEach (e :: es) X.env = (false, eval e X.env) :: starEach es X.env := by rfl) (hpl : (backTo pos (starEach es X.env)).any (·.1) = false := by rfl)
    (ht : eval (.Call (.Attribute o m apos) (e :: es) [] pos) X.env = (do
      let ov ← eval o X.env
      standAt apos.atName
      let (f, first) ← holding [ov] (getMethod ov m pl)
      callWith pos f first (backTo pos (starEach (e :: es) X.env)) (backToKw pos (keywordEach [] X.env))) := by rfl) :
    PE X (.Call (.Attribute o m apos) (e :: es) [] pos) (liftE X.K W (tMeth' C ns sp to tas) (ka + kb + k)) := by
  obtain ⟨f, fd, hM, _, hb, F⟩ := G.ex
  refine PE.imp (t := tMethS C m (liftP X.K sp k) (WE W) (liftE X.K W to ka) (liftA X.K W tas kb)) ⟨fun pins s σ H Q I h => ?_⟩ fun σ H Q h => meth_lift hm h
  refine PySem.W.methodCall_KW (pl := pl) (thn (he.run pins s σ H _ I h) fun u s1 ⟨x, H1, I1, rx, a, dx, fs, ex, ea, l, q⟩ => ?_) ht
  subst ex
  obtain rfl : u = Value.ref a := rx
  refine getmeth_ok I1 ea cl hM l (PySem.W.callWith_K (first := [.ref a]) (h₀ := X.base) I.ok.mod.kin hM.kp (thn (ha.run pos pins s1 σ H1 _ I1 q) fun us s2 ⟨vs, H2, I2, r, q2⟩ => ⟨I2.kIn, ?_⟩) hst hpl)
  exact wpAny_call (code_fn (us := .ref a :: us) (vs := .ref a :: vs) F hr hb.binds (passAt tk σ) I2 (.cons rfl r) q2)
/-- o.m() -/
theorem qmeth0 {m : Str} {ps : List Str} {lv : Nat} {sp : Sp'} {pl : Sem Bool} (G : MFn X.prog X.w X.K X.mg X.base C m ps lv sp k) (cl : Cls X.K C) (hm : ∀ {α : Type} (ds : List α), (ns.zip ds).lookup m = none) (hr : Room lv X.A) (tk : Takes X W) (he : PE X o (liftE X.K W to ka))
    (ht : eval (.Call (.Attribute o m apos) [] [] pos) X.env = (do
      let ov ← eval o X.env
      standAt apos.atName
      let (f, first) ← holding [ov] (getMethod ov m pl)
      callWith pos f first (backTo pos (starEach [] X.env)) (backToKw pos (keywordEach [] X.env))) := by rfl) :
    PE X (.Call (.Attribute o m apos) [] [] pos) (liftE X.K W (tMeth' C ns sp to tNil') (ka + 0 + k)) := by
  obtain ⟨f, fd, hM, _, hb, F⟩ := G.ex
  refine PE.imp (t := tMethS C m (liftP X.K sp k) (WE W) (liftE X.K W to ka) (liftA X.K W tNil' 0)) ⟨fun pins s σ H Q I h => ?_⟩ fun σ H Q h => meth_lift hm h
  refine PySem.W.methodCall_KW (pl := pl) (thn (he.run pins s σ H _ I h) fun u s1 ⟨x, H1, I1, rx, a, dx, fs, ex, ea, l, q⟩ => ?_) ht
  subst ex
  obtain rfl : u = Value.ref a := rx
  have q' := pure_lift (Rp := RepUs X.K) (a := ([] : List V)) (b := ([] : List U)) q fun _ => .nil
  exact getmeth_ok I1 ea cl hM l (PySem.W.callWith_K0 (first := [.ref a]) I1.kIn hM.kp (wpAny_call (code_fn (us := [.ref a]) (vs := [.ref a]) F hr hb.binds (passAt tk σ) I1 (.cons rfl .nil) q')))
/-- o(e, ..): the class's own __call__ -/
theorem qcallO {ps : List Str} {lv : Nat} {sp : Sp'} (G : MFn X.prog X.w X.K X.mg X.base C "__call__" ps lv sp k) (hr : Room lv X.A) (tk : Takes X W) (he : PE X o (liftE X.K W to ka)) (ha : PA X (e :: es) (liftA X.K W tas kb)) (hm : ∀ {α : Type} (ds : List α), (ns.zip ds).lookup ("__call__" : Str) = none)
    (ht : eval (.Call o (e :: es) [] pos) X.env = (do callWith pos (← eval o X.env) [] (backTo pos (starEach (e :: es) X.env)) (backToKw pos (keywordEach [] X.env))) := by rfl)
    (hst : starEach (e :: es) X.env = (false, eval e X.env) :: starEach es X.env := by rfl) (hpl : (backTo pos (starEach es X.env)).any (·.1) = false := by rfl) :
    PE X (.Call o (e :: es) [] pos) (liftE X.K W (tMeth' C ns sp to tas) (ka + kb + k)) := by
  obtain ⟨f, fd, hM, hF, hb, F⟩ := G.ex
  refine PE.imp (t := fun σ H Q => liftE X.K W to ka σ H fun x H1 => ∃ a dx fs, x = .ref a ∧ H1 a = some (.ins C dx fs) ∧ liftA X.K W tas kb σ H1 fun vs H2 => (∃ dx fs, H2 a = some (.ins C dx fs)) ∧ liftP X.K sp k (.ref a :: vs) H2 Q (WE W σ)) ⟨fun pins s σ H Q I h => ?_⟩ fun σ H Q h => ?_
  · refine Call_ (thn (he.run pins s σ H _ I h) fun u s1 ⟨x, H1, I1, rx, a, dx, fs, ex, ea, q⟩ => ?_) ht
    subst ex
    obtain rfl : u = Value.ref a := rx
    refine StX.callO_with (thn (ha.run pos pins s1 σ H1 _ I1 q) fun us s2 ⟨vs, H2, I2, r, hi, q2⟩ => ?_) hst hpl
    obtain ⟨ox, od, J, hd⟩ := StX.insC_at (X := X) I2 (.inr hi)
    exact ⟨⟨C, ox, od, J, hd⟩, wpAny_call (PySem.W.kco_code I2.kIn J hd hM.at_ hM.fn hF (code_fn (us := .ref a :: us) (vs := .ref a :: vs) F hr hb.binds (passAt tk σ) I2 (.cons rfl r) q2))⟩
  · obtain ⟨w, env, S, Φ, Ψ, hr, hE, hl, q, c⟩ := h
    refine ⟨w, env, S, _, Ψ, hr, hE, by omega, q, ⟨fun u S1 q1 w1 v H1 x1 xa1 h1 r1 => ?_, fun z S1 q1 w1 C d H1 x1 xa1 h1 r1 => c.xx z S1 q1 w1 C d H1 (x1.le (by omega)) xa1 h1 r1⟩⟩
    cases u with
    | r _ => exact False.elim q1
    | tup _ => exact False.elim q1
    | d y =>
      cases y <;> try exact False.elim q1
      rename_i C' ns' ds
      obtain ⟨⟨rfl, rfl⟩, q1⟩ := q1
      have r1' : Rep X.K w1.F w1.J v (.obj C' ns' ds) := r1
      cases id r1' with
      | obj e1 l rr =>
        refine ⟨_, _, _, rfl, h1.fz _ _ e1, w1, env, S1, _, Ψ, h1, hE.ext x1 xa1, by have := x1.n; omega, q1, ⟨fun us S2 q2 w2 vs2 H2 x2 xa2 h2 r2 => ?_, fun z S2 q2 w2 C d H2 x2 xa2 h2 r2 => c.xx z S2 q2 w2 C d H2 ((x1.trans x2).le (by omega)) (xa1.trans xa2) h2 r2⟩⟩
        have x3 := x1.trans x2
        cases e3 : clos 100 us with
        | none => simp only [e3] at q2
        | some es2 =>
          simp only [e3] at q2
          exact ⟨⟨_, _, h2.fz _ _ (x2.F _ _ e1)⟩, call_rep (ds := .obj C' ns' ds :: es2) ⟨h2, (hE.ext x1 xa1).ext x2 xa2, by have := x3.n; omega⟩ (.cons (Rep.ext x2 r1') (clos_ok r2 e3).1) q2 (c.ext (j := ka + kb) x3 (xa1.trans xa2))⟩
end
end Pl

namespace Pl
open PySem PySem.Spec PyProof.Rows L2 TL

section
variable {P : Program} {w : World} {K : PySem.W.Frag} {mg : Str → Option Value} {base : Heap} {nm qual : Str} {st : Stmt} {N ps : List Str} {l k : Nat} {sp : Sp'} {C : Addr}
abbrev BodM (P : Program) (w : World) (K : PySem.W.Frag) (mg : Str → Option Value) (base : Heap) (qual : Str) (st : Stmt) (N : List Str) (l : Nat) (t : TS') (kb : Nat) : Prop :=
  ∀ (f : Addr) (cdv : Value) (A : Around) (outer : List PySem.Env) (s : Shared) (H : Hp) (E : XK), Room l (A.deeper (envOfC qual (defScope st) s.heap.objs.size f cdv)) →
      PSs (cxOf (L2.CX P w) P w K mg base N qual (defScope st) f cdv A outer s H E) (defBody st) (liftS K (fun C d _ H => E C d H) t kb)
theorem mfnE (m : Nat) (Fd : MDf K C nm qual st ps) (S : FnScope N ps (defScope st)) (len : ∀ ds Φ Ψ, sp ds Φ Ψ → ds.length = ps.length)
    (h : ∃ (t : TS') (kb : Nat), BodM P w K mg base qual st N l t kb ∧ kb ≤ k ∧ ∀ ds Φ Ψ, sp ds Φ Ψ → t (endE Φ Ψ) (startE N ds) (List.replicate m none)) : MFn P w K mg base C nm ps (l + 1) sp k := by
  obtain ⟨t, kb, hb, hk, hv⟩ := h
  obtain ⟨f, fd, Fu, hM, hF, hB⟩ := Fd.ex
  exact ⟨f, fd, hM, hF, hB, fn_ok Fu S len (hb f) hk hv⟩

/-! ### __init__ -/
structure AfterI (K : PySem.W.Frag) (C x : Addr) (F : Hp) (J : Addr → Prop) (n k : Nat) (H : Hp) (F1 : Hp) (J1 : Addr → Prop) (n1 : Nat) (H1 : Hp) (ns : List Str) (ds : List D) : Prop where
  sF : Same F F1
  sJ : ∀ a, J a → J1 a
  sn : n1 ≤ n + k
  fz : Same F1 H1
  jr : ∀ a, J1 a → JarAt n1 (H1 a) ∧ F1 a = none
  fr : ∀ a o, H a = some o → ¬ J a → a ≠ x → H1 a = some o
  nF : ∀ a o, F1 a = some o → F a = some o ∨ H a = none
  nJ : ∀ a, J1 a → J a ∨ H a = none
  it : ∃ dx ws, H1 x = some (.ins C dx (ns.zip ws)) ∧ ns.length = ws.length ∧ Reps K F1 J1 ws ds
/-- sp: of the arguments behind self; it is handed the object -/
def liftI0 (K : PySem.W.Frag) (C : Addr) (sp : Sp') (k : Nat) : Sp := fun vs H Q E => ∃ (x dx : Addr) (vs' : List V) (F : Hp) (J : Addr → Prop) (n : Nat) (ds : List D) (Φ : D → Prop) (Ψ : Ex → Prop),
  vs = .ref x :: vs' ∧ H x = some (.ins C dx []) ∧ F x = none ∧ ¬ J x ∧ Same F H ∧ (∀ a, J a → JarAt n (H a) ∧ F a = none) ∧ Reps K F J vs' ds ∧ n + k ≤ LIM ∧ sp ds Φ Ψ ∧
  (∀ ns es, Φ (.obj C ns es) → ∀ F1 J1 n1 H1, AfterI K C x F J n k H F1 J1 n1 H1 ns es → Q .non H1) ∧
  (∀ z, Ψ z → ∀ F1 J1 n1 H1 D dd ns es, AfterI K C x F J n k H F1 J1 n1 H1 ns es → RepX K F1 J1 H1 D dd z → E D dd H1)
/-- one parameter behind self may be left out: it is the empty tuple then -/
def Dfl (K : PySem.W.Frag) (fd : FuncData) (ps : List Str) : Bool → Prop
  | false => True
  | true => ∃ t0, SqT K (fun _ => none) t0 [] ∧ ps.length = 2 ∧ ∀ (s : Shared) (x : Value), K.In s.heap → BindsTo s fd ⟨[x], []⟩ (ps.zip [x, .ref t0])
structure IFn (P : Program) (w : World) (K : PySem.W.Frag) (mg : Str → Option Value) (base : Heap) (C : Addr) (nm : Str) (ps : List Str) (dv : Bool) (lv : Nat) (sp : Sp') (k : Nat) : Prop where
  ex : ∃ f fd, mg nm = some (.ref C) ∧ Mk K C f ∧ (KwB K fd ps ∧ Dfl K fd ps dv) ∧ FnOk P w K mg base (L2.CX P w) lv f fd ps (liftI0 K C sp k)
/-- a def that stands, with defaults or without -/
structure FunC (K : PySem.W.Frag) (x qual : Str) (st : Stmt) (f : Addr) (fd : FuncData) : Prop where
  ex : ∃ (oc : Value) (od : Option Addr) (dV kV doc pm : Value) (an : Option Addr) (cdv ct : Value) (osl : Array (Option Value)),
    fd = PySem.W.fnOf x qual (defArgs st) (defBody st) (defScope st) dV kV doc pm an cdv ct ∧ K.lookup f = some ⟨oc, od, .func fd, osl⟩ ∧ PySem.W.codeIn K cdv qual = true
  kp : PySem.W.keepIn K (.ref f) = true
theorem FunC.okX {x qual : Str} {st : Stmt} {f : Addr} {fd : FuncData} {N ps : List Str} {k : Nat} {sp : Sp} (F : FunC K x qual st f fd) (S : FnScope N ps (defScope st)) (len : ∀ vs H Q E, sp vs H Q E → vs.length = ps.length)
    (hbody : ∀ (cdv : Value) (A : Around) (outer : List PySem.Env) (s : Shared) (H : Hp) (vs : List V) (Q : VK) (E : XK), Room k (A.deeper (envOfC qual (defScope st) s.heap.objs.size f cdv)) → sp vs H Q E →
      ∃ t, PSs (cxOf (L2.CX P w) P w K mg base N qual (defScope st) f cdv A outer s H E) (defBody st) t ∧ t { nx := fun _ H' => Q .non H', rt := Q } (L2.start N vs) H) : FnOk P w K mg base (L2.CX P w) (k + 1) f fd ps sp := by
  obtain ⟨oc, od, dV, kV, doc, pm, an, cdv, ct, osl, rfl, lk, hcd⟩ := F.ex
  exact fn_of lk hcd S len fun A outer s H vs Q E hr hsp => hbody cdv A outer s H vs Q E hr hsp
structure IDf (K : PySem.W.Frag) (mg : Str → Option Value) (C : Addr) (nm qual : Str) (st : Stmt) (ps : List Str) (dv : Bool) : Prop where
  ex : ∃ f fd, FunC K "__init__" qual st f fd ∧ mg nm = some (.ref C) ∧ Mk K C f ∧ (KwB K fd ps ∧ Dfl K fd ps dv)
/-- the object under construction at place 0 becomes data -/
def endI (C : Addr) (Φ : D → Prop) (Ψ : Ex → Prop) : End' :=
  let fin : SS → Prop := fun S => match S with
    | some (.ins C' ns us) :: _ => match clos 100 us with
      | some ds => C' = C ∧ Φ (.obj C ns ds)
      | none => False
    | _ => False
  { nx := fun _ S => fin S, rt := fun u S => match u with
      | .d .non => fin S
      | _ => False, xx := fun x _ S => Ψ x ∧ match S with
    | some (.ins C' ns us) :: _ => match clos 100 us with
      | some _ => C' = C
      | none => False
    | _ => False }
theorem init_ok {st : Stmt} {N ps : List Str} {kb m : Nat} {t : TS'} {dv : Bool} (Fd : IDf K mg C nm qual st ps dv) (S : FnScope N ps (defScope st)) (len : ∀ ds Φ Ψ, sp ds Φ Ψ → ds.length + 1 = ps.length)
    (hb : BodM P w K mg base qual st N l t kb) (hk : kb ≤ k) (hv : ∀ ds Φ Ψ, sp ds Φ Ψ → t (endI C Φ Ψ) (some (.r 0) :: (ds.map (fun d => some (U.d d)) ++ List.replicate (N.length - (ds.length + 1)) none)) (some (.ins C [] []) :: List.replicate m none)) :
    IFn P w K mg base C nm ps dv (l + 1) sp k := by
  obtain ⟨f, fd, Fu, hm, hM, hB⟩ := Fd.ex
  refine ⟨f, fd, hm, hM, hB, FunC.okX Fu S (fun vs H Q E ⟨x, dx, vs', F, J, n, ds, Φ, Ψ, e, _, _, _, _, _, r, _, q, _, _⟩ => by rw [e, List.length_cons, r.length, len ds Φ Ψ q]) fun cdv A outer s H vs Q E hr ⟨x, dx, vs', F, J, n, ds, Φ, Ψ, e, ex, fx, jx, hF, hJ, r, hn, q, c1, c2⟩ => ?_⟩
  subst e
  have l1 := r.length
  have l2 := len ds Φ Ψ q
  have hl : ds.length + 1 ≤ N.length := by
    have := congrArg List.length S.pre
    rw [List.length_take] at this
    omega
  let w0 : Wd := ⟨F, J, some x :: List.replicate m none, fun a => open Classical in if J a then none else if a = x then none else H a, n, [x]⟩
  have rn : ∀ a, w0.R a = none → J a ∨ a = x ∨ H a = none := fun a e => by
    have e' : (open Classical in if J a then none else if a = x then none else H a) = none := e
    by_cases z : J a
    · exact .inl z
    · rw [if_neg z] at e'
      by_cases z2 : a = x
      · exact .inr (.inl z2)
      · rw [if_neg z2] at e'; exact .inr (.inr e')
  have rs : ∀ a o, ¬ J a → a ≠ x → H a = some o → w0.R a = some o := fun a o h1 h2 h3 => by
    show (open Classical in if J a then none else if a = x then none else H a) = some o
    rw [if_neg h1, if_neg h2]; exact h3
  have xR : w0.R x = none := by
    show (open Classical in if J x then none else if x = x then none else H x) = none
    rw [if_neg jx, if_pos rfl]
  have rel : HRel K w0 (some (.ins C [] []) :: List.replicate m none) H := by
    refine ⟨hF, fun a o e => ?_, fun a j => ⟨(hJ a j).1, (hJ a j).2, if_pos j⟩, by simp [w0], fun i e => ?_, fun i o e => ?_, fun i j a e1 e2 => ?_, fun i a e => ?_⟩
    · have e' : (open Classical in if J a then none else if a = x then none else H a) = some o := e
      by_cases z : J a
      · rw [if_pos z] at e'; cases e'
      · rw [if_neg z] at e'
        by_cases z2 : a = x
        · rw [if_pos z2] at e'; cases e'
        · rw [if_neg z2] at e'; exact e'
    · cases i with
      | zero => simp at e
      | succ i =>
        rw [List.getElem?_cons_succ, List.getElem?_replicate] at e
        show (some x :: List.replicate m none)[i + 1]? = _
        rw [List.getElem?_cons_succ, List.getElem?_replicate]
        split at e
        · rename_i h; rw [if_pos h]
        · cases e
    · cases i with
      | zero =>
        have : MO.ins C [] [] = o := by simpa using e
        subst this
        exact ⟨x, rfl, ⟨_, ex, dx, [], rfl, rfl, .nil⟩, fx, xR, jx⟩
      | succ i =>
        rw [List.getElem?_cons_succ, List.getElem?_replicate] at e
        split at e <;> cases e
    · have nope : ∀ i, (some x :: List.replicate m (none : Option Addr))[i + 1]? ≠ some (some a) := fun i z => by
        rw [List.getElem?_cons_succ, List.getElem?_replicate] at z
        split at z <;> cases z
      cases i with
      | zero => cases j with
        | zero => rfl
        | succ j => exact absurd e2 (nope j)
      | succ i => exact absurd e1 (nope i)
    · cases i with
      | zero =>
        have : x = a := by simpa [w0] using e
        subst this; rfl
      | succ i => simp [w0] at e
  have er : EnvR K w0 (L2.start N (.ref x :: vs')) (some (.r 0) :: (ds.map (fun d => some (U.d d)) ++ List.replicate (N.length - (ds.length + 1)) none)) := by
    refine ⟨by simp [L2.start, l1], fun i u e => ?_⟩
    cases i with
    | zero =>
      have : U.r 0 = u := by simpa using e
      subst this
      exact ⟨.ref x, rfl, x, rfl, rfl⟩
    | succ i =>
      rw [List.getElem?_cons_succ] at e
      by_cases hi : i < ds.length
      · rw [List.getElem?_append_left (by simpa using hi), List.getElem?_map] at e
        cases q : ds[i]? with
        | none => rw [q] at e; cases e
        | some d =>
          rw [q] at e
          have : U.d d = u := by simpa using e
          subst this
          obtain ⟨v, hv, rv⟩ := r.get q
          refine ⟨v, ?_, rv⟩
          unfold L2.start
          rw [List.map_cons, List.cons_append, List.getElem?_cons_succ, List.getElem?_append_left (by simpa [l1] using hi), List.getElem?_map, hv]; rfl
      · rw [List.getElem?_append_right (by simpa using Nat.le_of_not_lt hi), List.getElem?_replicate] at e
        split at e <;> cases e
  have fin : ∀ {w1 : Wd} {S1 : SS} {H1 : Hp} {ns : List Str} {us : List U} {es : List D} {tl0 : SS}, Ext kb w0 w1 → HRel K w1 S1 H1 → S1 = some (.ins C ns us) :: tl0 → clos 100 us = some es → AfterI K C x F J n k H w1.F w1.J w1.n H1 ns es := fun {w1 S1 H1 ns us es tl0} X1 h1 hS hc => by
    subst hS
    obtain ⟨b, hb1, ⟨ho, e1, dx', vs1, rfl, hl2, rv⟩, n1, n2, n3⟩ := h1.live 0 _ rfl
    have hb2 := h1.pin 0 x (by rw [X1.B]; rfl)
    rw [hb1] at hb2
    obtain rfl : b = x := by simpa using hb2
    refine ⟨X1.F, X1.J, by have := X1.n; show w1.n ≤ n + k; have e : w0.n = n := rfl; omega, h1.fz, fun a j => ⟨(h1.jr a j).1, (h1.jr a j).2.1⟩, fun a o e nj nx => h1.fr a o (by rw [X1.R]; exact rs a o nj nx e), fun a o e => ?_, fun a j => ?_, dx', vs1, e1, hl2, (clos_ok rv hc).1⟩
    · rcases X1.N a o e with z | z
      · exact .inl z
      · rcases rn a z with q | q | q
        · have := (h1.jr a (X1.J a q)).2.1
          rw [e] at this; cases this
        · subst q; rw [n1] at e; cases e
        · exact .inr q
    · rcases rn a (by rw [← X1.R]; exact (h1.jr a j).2.2) with q | q | q
      · exact .inl q
      · subst q; exact absurd j n3
      · exact .inr q
  refine ⟨_, hb f cdv A outer s H E hr, w0, _, _, endI C Φ Ψ, rel, er, by show n + kb ≤ LIM; omega, hv ds Φ Ψ q, ⟨fun _ S1 q1 w1 σ1 H1 X1 h1 e => ?_, fun u S1 q1 w1 v H1 X1 h1 ru => ?_, fun _ _ z => False.elim z, fun _ _ z => False.elim z, fun z _ S1 q1 w1 σ1 H1 D d X1 h1 e rx => ?_⟩⟩
  · have q1' : (endI C Φ Ψ).nx [] S1 := q1
    unfold endI at q1'
    simp only at q1'
    split at q1'
    · split at q1'
      · obtain ⟨rfl, q1'⟩ := q1'
        exact c1 _ _ q1' _ _ _ _ (fin X1 h1 rfl (by assumption))
      · exact q1'.elim
    · exact q1'.elim
  · have q1' : (endI C Φ Ψ).rt u S1 := q1
    unfold endI at q1'
    simp only at q1'
    split at q1'
    · split at q1'
      · split at q1'
        · obtain ⟨rfl, q1'⟩ := q1'
          have hv : v = .non := RepN.non (Rep.now h1 ru)
          subst hv
          exact c1 _ _ q1' _ _ _ _ (fin X1 h1 rfl (by assumption))
        · exact q1'.elim
      · exact q1'.elim
    · exact q1'.elim
  · obtain ⟨q1, q2⟩ := q1
    split at q2
    · split at q2
      · subst q2
        exact c2 _ q1 _ _ _ _ _ _ _ _ (fin X1 h1 rfl (by assumption)) rx
      · exact q2.elim
    · exact q2.elim
theorem initE (m : Nat) {dv : Bool} (Fd : IDf K mg C nm qual st ps dv) (S : FnScope N ps (defScope st)) (len : ∀ ds Φ Ψ, sp ds Φ Ψ → ds.length + 1 = ps.length)
    (h : ∃ (t : TS') (kb : Nat), BodM P w K mg base qual st N l t kb ∧ kb ≤ k ∧ ∀ ds Φ Ψ, sp ds Φ Ψ → t (endI C Φ Ψ) (some (.r 0) :: (ds.map (fun d => some (U.d d)) ++ List.replicate (N.length - (ds.length + 1)) none)) (some (.ins C [] []) :: List.replicate m none)) : IFn P w K mg base C nm ps dv (l + 1) sp k := by
  obtain ⟨t, kb, hb, hk, hv⟩ := h
  exact init_ok Fd S len hb hk hv
end
section
variable {X : Cx} {W : WX} {pos p : Pos} {e o : Expr} {es : List Expr} {to te : TE'} {tas : TA'} {k ka kb lv : Nat} {C : Addr} {sp : Sp'} {x : Str} {ps : List Str}
/-- self.f = e, a new field of the object under construction -/
def tNewF' (C0 : Addr) (f : Str) (te to : TE') : TS' := fun D env S => te env S (fun y S1 => to env S1 (fun u S2 => match u with
  | .r i => match S2[i]? with
    | some (some (.ins C ns us)) => (C = C0 ∧ ns.contains f = false ∧ ns.length = us.length ∧ ns.length < 900) ∧ D.nx env (S2.set i (some (.ins C (ns ++ [f]) (us ++ [y]))))
    | _ => False
  | _ => False) (fun x S2 => D.xx x env S2)) (fun x S1 => D.xx x env S1)
theorem putF_new {f : Str} {v : V} : ∀ {ns : List Str} {vs : List V}, ns.contains f = false → ns.length = vs.length → putF f v (ns.zip vs) = (ns ++ [f]).zip (vs ++ [v])
  | [], [], _, _ => rfl
  | n :: ns, y :: vs, h, hl => by
    have h1 : ¬ n = f := fun z => by subst z; simp at h
    have h2 : ns.contains f = false := by
      rw [List.contains_cons, Bool.or_eq_false_iff] at h
      exact h.2
    show (if n = f then (n, v) :: ns.zip vs else (n, y) :: putF f v (ns.zip vs)) = _
    rw [if_neg h1, putF_new h2 (by simpa using hl)]
    rfl
  | [], _ :: _, _, h => by cases h
  | _ :: _, [], _, h => by cases h
theorem qnewf {f : Str} {pos' : Pos} (cl : Cls X.K C) (no : NoAttr X.K C f) (he : PE X e (liftE X.K W te ka)) (ho : PE X o (liftE X.K W to kb)) (hs : swapsWith e (some (.Attribute o f pos')) pos.line X.env = pure false := by rfl) :
    PS X (.Assign [.Attribute o f pos'] e pos) (liftS X.K W (tNewF' C f te to) (ka + kb)) := by
  refine PS.imp (ps_fld ho he hs) fun D σ H ⟨w, env, S, D', hr, hE, hl, q, c⟩ => ?_
  refine ⟨w, env, S, _, _, hr, hE, by omega, q, ⟨fun y S1 q1 w1 v H1 x1 xa1 h1 r1 => ?_, fun z S1 q1 w1 C d H1 x1 xa1 h1 r1 => c.xx z env S1 q1 w1 σ H1 C d (x1.le (by omega)) h1 (hE.ext x1 xa1) r1⟩⟩
  refine ⟨w1, env, S1, _, _, h1, hE.ext x1 xa1, by have := x1.n; omega, q1, ⟨fun u S2 q2 w2 v2 H2 x2 xa2 h2 r2 => ?_, fun z S2 q2 w2 C d H2 x2 xa2 h2 r2 => c.xx z env S2 q2 w2 σ H2 C d ((x1.trans x2).le (by omega)) h2 ((hE.ext x1 xa1).ext x2 xa2) r2⟩⟩
  have r1' := r1.ext x2 xa2
  cases u with
  | d _ => exact False.elim q2
  | tup _ => exact False.elim q2
  | r i =>
    cases eS : S2[i]? with
    | none => simp only [eS] at q2
    | some m =>
      cases m with
      | none => simp only [eS] at q2
      | some m =>
        cases m <;> (simp only [eS] at q2)
        rename_i C' ns us
        obtain ⟨⟨rfl, n1, n2, n3⟩, q2⟩ := q2
        obtain ⟨A, hA1, ⟨ho', e1, rr⟩, _⟩ := h2.live i _ eS
        obtain ⟨A', hA2, rfl⟩ := r2
        rw [hA1] at hA2; cases hA2
        obtain ⟨dx, vs, rfl, l2, rr⟩ := rr
        have l3 := rr.length
        have hz : (ns.zip vs).length < 1000 := by rw [List.length_zip]; omega
        refine ⟨A, _, dx, _, rfl, e1, cl, no, hz, ?_⟩
        rw [putF_new n1 l2]
        exact c.nx _ _ q2 w2 σ _ (x1.trans x2) (h2.put eS hA1 ⟨dx, vs ++ [v], rfl, by simp [l2], rr.app (.cons r1' .nil)⟩) ((hE.ext x1 xa1).ext x2 xa2)
/-- what is never reached -/
theorem qdead {st : Stmt} : PS X st (liftS X.K W (fun _ _ _ => False) 0) := ⟨fun pins s σ H D I h => by
  obtain ⟨w, env, S, D', hr, hE, hl, q, c⟩ := h
  exact q.elim⟩
theorem qdeadE {e : Expr} : PE X e (liftE X.K W (fun _ _ _ _ => False) 0) := ⟨fun pins s σ H Q I h => by
  obtain ⟨w, env, S, Φ, Ψ, hr, hE, hl, q, c⟩ := h
  exact q.elim⟩

/-! ### a new object, frozen at once -/
theorem init_call {C x dx : Addr} {sp : Sp'} {w : Wd} {S : SS} {H : Hp} {σ : L2.St} {env : Env} {k : Nat} {vs : List V} {ds : List D} {Φ : U → SS → Prop} {Ψ : XX} {Q : VK} {K : PySem.W.Frag} {W : WX} (hh : Here K w S H σ env k) (r : Reps K w.F w.J vs ds) (q : sp ds (fun d => Φ (.d d) S) (fun x => Ψ x S)) (c : Co (RepU K) K W k w σ Φ Ψ Q)
    (hx : H x = none) (hdx : H dx = none) (ne : dx ≠ x) :
    liftI0 K C sp k (.ref x :: vs) (upd (upd H dx (.own x)) x (.ins C dx [])) (fun v H2 => v = .non ∧ Q (.ref x) H2) (WE W σ) := by
  obtain ⟨f1, f2, f3, _⟩ := hh.h.free hx
  have keep : ∀ a o, H a = some o → upd (upd H dx (.own x)) x (.ins C dx []) a = some o := fun a o e => by
    rw [upd_ne (ne_of_none e hx), upd_ne (ne_of_none e hdx)]; exact e
  have back : ∀ a, upd (upd H dx (.own x)) x (.ins C dx []) a = none → H a = none := fun a e => by
    by_cases z : a = x
    · subst z; rw [upd_same] at e; cases e
    · by_cases z2 : a = dx
      · subst z2; exact hdx
      · rwa [upd_ne z, upd_ne z2] at e
  refine ⟨x, dx, vs, w.F, w.J, w.n, ds, _, _, rfl, upd_same, f1, f3, fun a o e => keep a o (hh.h.fz a o e), fun a j => ⟨?_, (hh.h.jr a j).2.1⟩, r, hh.l, q, fun ns es qd F1 J1 n1 H1 X => ⟨rfl, ?_⟩, fun z qz F1 J1 n1 H1 D dd ns es X rx => ?_⟩
  · obtain ⟨⟨x1, y1, c1, e1, r1⟩, _⟩ := hh.h.jr a j
    exact ⟨x1, y1, c1, keep a _ e1, r1⟩
  · obtain ⟨dy, ws, e1, l1, rr⟩ := X.it
    have fx : F1 x = none := by
      cases z : F1 x with
      | none => rfl
      | some o =>
        rcases X.nF x o z with q | q
        · rw [f1] at q; cases q
        · rw [upd_same] at q; cases q
    have nj : ∀ a, J1 a → a ≠ x := fun a j z => by
      subst z
      obtain ⟨x1, y1, c1, e2, _⟩ := (X.jr a j).1
      rw [e1] at e2; cases e2
    have sm : Same F1 (upd F1 x (.ins C dy (ns.zip ws))) := same_upd fx
    have A : After w.F w.J w.n k H (upd F1 x (.ins C dy (ns.zip ws))) J1 n1 H1 := ⟨X.sF.trans sm, X.sJ, X.sn, fun a o e => by
        by_cases z : a = x
        · subst z; rw [upd_same] at e; rw [e1]; exact e
        · rw [upd_ne z] at e; exact X.fz a o e, fun a j => ⟨(X.jr a j).1, by rw [upd_ne (nj a j)]; exact (X.jr a j).2⟩,
      fun a o e nj => X.fr a o (keep a o e) nj (ne_of_none e hx), fun a o e => by
        by_cases z : a = x
        · subst z; exact .inr hx
        · rw [upd_ne z] at e
          exact (X.nF a o e).imp id (back a), fun a j => (X.nJ a j).imp id (back a)⟩
    obtain ⟨E, R⟩ := A.world hh.h
    exact c.ok _ S qd _ _ H1 E (fun _ _ h => h) R (Rep.obj upd_same l1 (rr.mono sm fun _ z => z))
  · have A : After w.F w.J w.n k H F1 J1 n1 H1 := ⟨X.sF, X.sJ, X.sn, X.fz, X.jr, fun a o e nj => X.fr a o (keep a o e) nj (ne_of_none e hx), fun a o e => (X.nF a o e).imp id (back a), fun a j => (X.nJ a j).imp id (back a)⟩
    obtain ⟨E, R⟩ := A.world hh.h
    exact c.xx _ S qz _ D dd H1 E (fun _ _ h => h) R rx
theorem make_run {CX : CXT} {k : Nat} {f C : Addr} {fd : FuncData} {ps : List Str} {sp : Sp} {E : XK} {pins : List (Addr × Obj)} {σ : L2.St} {H : Hp} {s : Shared} {Q : VK} {us as : List Value} {kw : List (Str × Value)} {vs : List V} (M : Mk X.K C f) (F : FnOk X.prog X.w X.K X.mg X.base CX k f fd ps sp) (hr : Room (k + 1) X.A)
    (hb : ∀ (s : Shared) (x : Value), X.K.In s.heap → BindsTo s fd ⟨x :: us, kw⟩ (ps.zip (x :: as))) (hx : PassesAt CX X σ E) (I : Inv X pins σ H s) (r : Vals vs as)
    (h : ∀ x dx, H x = none → H dx = none → dx ≠ x → sp (.ref x :: vs) (upd (upd H dx (.own x)) x (.ins C dx [])) (fun v H2 => v = .non ∧ Q (.ref x) H2) E) :
    wpAny (model X.prog X.w) X.A (call (.ref C) us kw) (EP X pins σ Q) X.xe s := by
  have hq := h (s.heap.objs.size + 1) s.heap.objs.size (I.hok.fresh (Nat.le_succ _)) (I.hok.fresh (Nat.le_refl _)) (Nat.ne_of_lt (Nat.lt_succ_self _))
  have I2 := Inv.made (C := C) I
  have r2 : Vals (V.ref (s.heap.objs.size + 1) :: vs) (Value.ref (s.heap.objs.size + 1) :: as) := .cons rfl r
  refine wpAny_call (make_map (f := f) I.kIn M.makes M.init (beq_iff_eq.mp M.fn) (codeAny_mono (F.run _ X.stack _ _ ⟨Value.ref (s.heap.objs.size + 1) :: us, kw⟩ (Value.ref (s.heap.objs.size + 1) :: as) _ _ E (hr.make C us kw)
    (I2.env0.make C us kw) (hb _ _ I2.kIn) r2 hq) fun r s' hq' => ?_))
  cases r with
  | error e => exact hx pins _ _ e s' I2 hq'
  | ok fl =>
    cases fl with
    | ret u =>
      obtain ⟨v, H', I3, rv, ev, q3⟩ := I2.after hq'
      subst ev
      exact ⟨rv, ⟨V.ref (s.heap.objs.size + 1), H', I3, rfl, q3⟩⟩
    | next => exact False.elim hq'
    | brk => exact False.elim hq'
    | cont => exact False.elim hq'
theorem call_lift {sp : Sp'} {σ : L2.St} {H : Hp} {Q : VK} {C : Addr} {K : PySem.W.Frag} (h : liftE K W (tCall' sp tas) (ka + k) σ H Q) :
    liftA K W tas ka σ H fun vs H1 => ∀ x dx, H1 x = none → H1 dx = none → dx ≠ x → liftI0 K C sp k (.ref x :: vs) (upd (upd H1 dx (.own x)) x (.ins C dx [])) (fun v H2 => v = .non ∧ Q (.ref x) H2) (WE W σ) :=
  lift_mono (lift_bind (Rp := RepUs K) (g := fun us _ S Φ Ψ => match clos 100 us with
    | some ds => sp ds (fun d => Φ (U.d d) S) (fun x => Ψ x S)
    | none => False) h) fun vs H1 ⟨w, us, env, S, Φ, Ψ, hh, r, q, c⟩ => fun x dx hx hdx ne => by
  cases e : clos 100 us with
  | none => simp only [e] at q
  | some ds =>
    simp only [e] at q
    exact init_call hh (clos_ok r e).1 q c hx hdx ne
/-- C(e, ..) -/
theorem qmake {p pos : Pos} {dv : Bool} (G : IFn X.prog X.w X.K X.mg X.base C x ps dv lv sp k) (hr : Room (lv + 1) X.A) (tk : Takes X W) (ha : PA X (e :: es) (liftA X.K W tas ka)) (hg : Gl X x := by rfl)
    (hdb : (x == ("__debug__" : Str)) = false := by decide) (he : starEach (e :: es) X.env = (false, eval e X.env) :: starEach es X.env := by rfl) (hpl : (backTo pos (starEach es X.env)).any (·.1) = false := by rfl) :
    PE X (.Call (.Name x p) (e :: es) [] pos) (liftE X.K W (tCall' sp tas) (ka + k)) := by
  obtain ⟨f, fd, hm, M, ⟨hb, _⟩, F⟩ := G.ex
  refine PE.imp (t := fun σ H Q => liftA X.K W tas ka σ H fun vs H1 => ∀ x dx, H1 x = none → H1 dx = none → dx ≠ x → liftI0 X.K C sp k (.ref x :: vs) (upd (upd H1 dx (.own x)) x (.ins C dx [])) (fun v H2 => v = .non ∧ Q (.ref x) H2) (WE W σ)) ⟨fun pins s σ H Q I h => ?_⟩ fun σ H Q h => call_lift h
  refine wpAny_Call_Name_kw (ld_glob I hg hm ?_ hdb)
  refine PySem.W.callWith_K (h₀ := X.base) I.ok.mod.kin M.kp (thn (ha.run pos pins s σ H _ I h) fun us s1 ⟨vs, H1, I1, r, q⟩ => ⟨I1.kIn, ?_⟩) he hpl
  have hl : us.length + 1 = ps.length := by
    have hq := q (s1.heap.objs.size + 1) s1.heap.objs.size (I1.hok.fresh (Nat.le_succ _)) (I1.hok.fresh (Nat.le_refl _)) (Nat.ne_of_lt (Nat.lt_succ_self _))
    have := F.len _ _ _ _ hq
    rw [← this, List.length_cons, r.length]
  exact make_run M F hr (fun s x X => by simpa using hb.binds s (x :: us) X (by simpa using hl)) (passAt tk σ) I1 r q
/-- C(), the one parameter left out -/
theorem qmake0 {p pos : Pos} (G : IFn X.prog X.w X.K X.mg X.base C x ps true lv sp k) (hr : Room (lv + 1) X.A) (tk : Takes X W) (hg : Gl X x := by rfl) (hdb : (x == ("__debug__" : Str)) = false := by decide) :
    PE X (.Call (.Name x p) [] [] pos) (liftE X.K W (fun _ S Φ Ψ => sp [.tup []] (fun d => Φ (.d d) S) (fun x => Ψ x S)) (0 + k)) := by
  obtain ⟨f, fd, hm, M, ⟨_, t0, ht, hps, hb⟩, F⟩ := G.ex
  refine PE.imp (t := liftE X.K W (fun _ S Φ Ψ => sp [.tup []] (fun d => Φ (.d d) S) (fun x => Ψ x S)) (0 + k)) ⟨fun pins s σ H Q I h => ?_⟩ fun _ _ _ h => h
  obtain ⟨w, env, S, Φ, Ψ, hr', hE, hl, q, c⟩ := h
  refine wpAny_Call_Name_kw (ld_glob I hg hm ?_ hdb)
  refine PySem.W.callWith_K0 (first := []) I.kIn M.kp ?_
  have ht' : SqT X.K w.F t0 [] := by
    rcases ht with (h | ⟨o, h⟩) | h
    · cases h
    · cases h
    · exact .inr h
  have rr : Reps X.K w.F w.J [.ref t0] [.tup []] := .cons (.tup ht' .nil) .nil
  exact make_run (us := []) (as := [.ref t0]) (vs := [.ref t0]) M F hr (fun s x X => hb s x X) (passAt tk σ) I (.cons rfl .nil) fun x dx hx hdx ne => init_call ⟨hr', hE, by omega⟩ rr q (c.le (by omega)) hx hdx ne
end
end Pl

namespace Pl
open PySem PySem.Spec PyProof.Rows L2 TL

/-! ### enumerate over a tuple -/
def IteT (K : PySem.W.Frag) (a : Addr) : It :=
  ⟨fun n H => ∃ (ys : List V) (y : V), SqT K H a ys ∧ ys[n]? = some y, fun n H v H1 => ∃ T y, v = .ref T ∧ H T = none ∧ H1 = upd H T (.tup [.int (n : Nat), y]) ∧ ∀ ys, SqT K H a ys → ys[n]? = some y, fun n H => ∃ ys : List V, SqT K H a ys ∧ ys.length ≤ n⟩
abbrev EnT (a e it : Addr) (i : Nat) (h : Heap) : Prop := (∃ old, IsEnum h e it ((i : Nat) : Int) old) ∧ h.IsTupleIter it a i ∧ e ≠ it ∧ a ≠ e ∧ a ≠ it
theorem turn_enumT {P : Program} {w : World} {K : PySem.W.Frag} {elts : List Expr} {kk : Nat} {tpos : Pos} (a e it : Addr) :
    Turn P w K (.Tuple elts kk tpos) (IteT K a) [e, it] e (EnT a e it) where
  mem := by simp
  obj := fun i h ⟨⟨old, he⟩, ⟨o, ho, hc, hd⟩, _⟩ b hb => by
    rcases List.mem_cons.mp hb with rfl | hb
    · exact ⟨_, he, fun v q => nomatch q⟩
    · obtain rfl := List.mem_singleton.mp hb
      exact ⟨o, ho, fun v q => by rw [hd] at q; cases q⟩
  keep := fun i h h' ⟨⟨old, he⟩, hi, n1, n2, n3⟩ k => ⟨⟨old, k e (by simp) _ he⟩, hi.at fun o q => k it (by simp) o q, n1, n2, n3⟩
  item := by
    intro X hP hw hK hc i pins s σ H E I hf st hg
    subst hP hw hK
    obtain ⟨⟨old, he⟩, hit, n1, n2, n3⟩ := st
    obtain ⟨ys, y, hq, hy⟩ := hg
    obtain ⟨its, rv, p, hz⟩ := I.tuple hq
    obtain ⟨u, hu, ru⟩ := rv.get hy
    have hlt : i < its.toArray.size := by have := (List.getElem?_eq_some_iff.mp hu).1; simpa using this
    have le : e < s.heap.objs.size := Heap.lt_size he
    have li : it < s.heap.objs.size := by obtain ⟨_, q, _⟩ := hit; exact Heap.lt_size q
    have dr : Draws X.prog X.w X.A.in1 it [it, a] its.toArray.size (fun n v => its.toArray[n]? = some v) (fun n h => h.IsTupleIter it a n ∧ h.IsTuple a its.toArray) := Draws.tuple (A := X.A.in1) (show X.A.in1.handled = none from I.ok.hd hc) it a n3 _
    refine wpAny_pyNext_enum_itemD dr he ⟨hit, p⟩ hlt n1 (by simpa using ⟨n1, Ne.symm n2⟩) fun x h1 tk hx ho ht hT hsz hk => ?_
    obtain rfl : u = x := by
      have hx' : its[i]? = some x := by simpa using hx
      rw [hu] at hx'; simpa using hx'
    refine ⟨_, rfl, wpAny_letOwnedTupleGo_enum (s := { s with heap := h1, toks := tk + 1 }) ho fun h2 he' sb => ?_⟩
    have hT2 := (sb.2 _ (Nat.ne_of_gt le)).trans hT
    have new : ObjOk X.prog X.w (upd H s.heap.objs.size (.tup [.int (i : Nat), y])) h2 s.heap.objs.size (.tup [.int (i : Nat), y]) := by
      refine ⟨?_, _, .cons ⟨_, rfl⟩ (.cons ru .nil), ⟨_, hT2, rfl, _, rfl⟩⟩
      show 2 ≤ sizeLine
      decide
    have I1 : Inv X pins σ (upd H s.heap.objs.size (.tup [.int (i : Nat), y])) { s with heap := h2, toks := tk + 1 } := by
      refine I.turnedNew (ch := [e, it]) (fun b ob hb q => ?_) hf (Nat.le_refl _) new
      have e1 : b ≠ e := fun z => hb (by simp [z])
      have e2 : b ≠ it := fun z => hb (by simp [z])
      exact (sb.2 b e1).trans (hk b ob e1 e2 q)
    refine ⟨.ref s.heap.objs.size, _, I1, rfl, ⟨_, y, rfl, I.hok.fresh (Nat.le_refl _), rfl, fun zs hz => by rw [I.tuple_inj hz hq]; exact hy⟩, ⟨⟨u, ?_⟩, ht.1.at fun o q => (sb.2 it (Ne.symm n1)).trans q, n1, n2, n3⟩, fun b hb => ?_⟩
    · rw [show ((i + 1 : Nat) : Int) = (i : Int) + 1 by omega]
      exact he'
    · have hb' : b < s.heap.objs.size := by
        rcases List.mem_cons.mp hb with rfl | hb
        · exact le
        · obtain rfl := List.mem_singleton.mp hb
          exact li
      rw [upd_ne (Nat.ne_of_lt hb')]
      exact (hf b hb).1
  done := by
    intro X hP hw hK hc i pins s σ H E I hf st hg
    subst hP hw hK
    obtain ⟨⟨old, he⟩, hit, n1, n2, n3⟩ := st
    obtain ⟨ys, hq, hy⟩ := hg
    obtain ⟨its, rv, p, hz⟩ := I.tuple hq
    obtain ⟨f0, f1, f2, f3, f4, f5⟩ := hf it (by simp)
    have hl := rv.length
    have dr : Draws X.prog X.w X.A.in1 it [it, a] i (fun _ _ => True) (fun n h => n = i ∧ h.IsTupleIter it a n ∧ h.IsTuple a its.toArray) := {
      live := fun _ _ st => let ⟨o, ho, _⟩ := st.2.1; ⟨o, ho⟩
      frame := fun _ _ _ st hk => ⟨st.1, st.2.1.at fun o e => hk it (by simp) o e, st.2.2.at fun o e => hk a (by simp) o e⟩
      item := fun j s Q E hj st hQ => absurd st.1 (Nat.ne_of_lt hj)
      done := fun s Q E st hE => wpAny_nextOf_tuple_end (show X.A.in1.handled = none from I.ok.hd hc) st.2.1 st.2.2 (by simp; omega) hE }
    exact wpAny_pyNext_enum_endD dr he ⟨rfl, hit, p⟩ fun h' eb => ⟨rfl, I.turned (t' := s.toks) (fun b o hb q => eb b o hb q) f0 f1 f3 f4 f5⟩
  self := fun A i s Q E ⟨⟨_, he⟩, _⟩ h => wpAny_pyIter_enum he h
set_option maxHeartbeats 1000000 in
theorem meets_enumT {v : Value} {o : Obj} {H : Heap → Prop} (B : Begins v o H) :
    Meets (Builtin.«enumerate.__new__» ⟨[.type "enumerate", v], []⟩) (fun _ R s => H s.heap ∧
      R (.ok (.ret (.ref (s.heap.push o).objs.size))) { s with heap := (s.heap.push o).push { cls := .type "enumerate", data := .fields #[.none, .bool false, .ref s.heap.objs.size, rawInt 0, .none, .none] } }) :=
  .of_wp fun prog w A R s h => by
    obtain ⟨hp, g, d, tk, os⟩ := s
    obtain ⟨h1, h⟩ := h
    have hsub := sub_enumerate
    have it : ∀ {A' : Around} {E : Value → Shared → Prop} {Q : Value → Shared → Prop}, Q (.ref hp.objs.size) ⟨hp.push o, g, d, tk, os⟩ → wpAny (model prog w) A' (pyIter v) Q E ⟨hp, g, d, tk, os⟩ :=
      fun q => B.iter prog w _ _ ⟨hp, g, d, tk, os⟩ _ h1 q
    wp_walk using it
    refine wpAny_stack_any fun _ => wpAny_pure ?_
    split
    · rename_i c _ _ _ _ _
      cases (c == Value.type "enumerate") <;> (wp_walk using it; exact ⟨_, rfl, h⟩)
    · wp_walk using it
      exact ⟨_, rfl, h⟩
theorem call_enumT {prog : Program} {w : World} {A : Around} {E : Value → Shared → Prop} {s : Shared} {v : Value} {o : Obj} {H : Heap → Prop} {Q : Value → Shared → Prop} (B : Begins v o H) (h1 : H s.heap)
    (h : ∀ h', IsEnum h' (s.heap.objs.size + 1) s.heap.objs.size 0 .none → h'.get? s.heap.objs.size = some o → (∀ b o, s.heap.get? b = some o → h'.get? b = some o) → Q (.ref (s.heap.objs.size + 1)) { s with heap := h' }) :
    wpAny (model prog w) A (call (.type "enumerate") [v]) Q E s := by
  refine callType_new F.called_enumerate (by decide) (F.typeCall_enumerate_1 _) (F.newCall_enumerate_1 _) (fun obj => F.args_object_init_2 obj _) F.entry_enumerate_new (meets_enumT B) ⟨h1, ?_⟩
  have hz : (s.heap.push o).objs.size = s.heap.objs.size + 1 := Heap.size_push ..
  show _ ∧ _
  rw [hz]
  have q := Heap.get?_push_size (s.heap.push o) (o := { cls := .type "enumerate", data := .fields #[.none, .bool false, .ref s.heap.objs.size, rawInt 0, .none, .none] }) rfl
  rw [hz] at q
  exact ⟨⟨_, q, rfl⟩, h _ q (Heap.get?_push_of_some _ (Heap.get?_push_size _ B.free)) fun b o x => Heap.get?_push_of_some _ (Heap.get?_push_of_some _ x)⟩
section
variable {X : Cx} {W : WX} {pos p : Pos} {a : Expr} {tas : TA'} {ka : Nat}
theorem pi_enumT {e : Expr} {ta : TA} {tpos : Pos} {elts : List Expr} {kk : Nat} (hg : Gl X "enumerate") (hm : X.mg "enumerate" = none) (ha : PA X [e] ta) (hs : starEach [e] X.env = [(false, eval e X.env)] := by rfl) :
    PI X (.Tuple elts kk tpos) (.Call (.Name "enumerate" p) [e] [] pos) (fun σ H R => ta σ H fun vs H1 => ∃ a xs, vs = [.ref a] ∧ SqT X.K H1 a xs ∧ R (IteT X.K a) H1) := by
  refine ⟨fun pins s σ H R I h => ?_⟩
  refine Call_ (ld_blt I hg hm boot_enumerate (PyProof.Rows.callWith_type1 (thn (ha.run pos pins s σ H _ I h) fun us s1 ⟨vs, H1, I1, r1, a, xs, ex, hq, q⟩ => ?_) hs rfl))
  subst ex
  cases r1 with
  | cons r rr =>
    cases rr
    cases r
    obtain ⟨its, rv, p', hz⟩ := I1.tuple hq
    have hal : a < s1.heap.objs.size := by obtain ⟨o, q, _⟩ := p'; exact Heap.lt_size q
    refine call_enumT (begins_tuple a its.toArray) p' fun h' he hit hk => wpAny_pyIter_enum he ?_
    have I2 : Inv X pins σ H1 { s1 with heap := h' } := I1.kept (t' := s1.toks) hk
    refine ⟨s1.heap.objs.size + 1, [s1.heap.objs.size + 1, s1.heap.objs.size], _, _, H1, rfl, I2, turn_enumT a (s1.heap.objs.size + 1) s1.heap.objs.size, ⟨⟨.none, he⟩, ⟨_, hit, rfl, rfl⟩, Nat.succ_ne_self _, Nat.ne_of_lt (Nat.lt_succ_of_lt hal), Nat.ne_of_lt hal⟩, fun b hb => ?_, q⟩
    have hle : s1.heap.objs.size ≤ b := by
      rcases List.mem_cons.mp hb with rfl | hb
      · exact Nat.le_add_right _ _
      · obtain rfl := List.mem_singleton.mp hb
        exact Nat.le_refl _
    exact I1.fpOk hle (I1.hok.fresh hle)
theorem walk_enumT {K : PySem.W.Frag} {w : Wd} {S : SS} {H : Hp} {vs : List V} {ds : List D} {a : Addr} (e : SqT K w.F a vs) (r : Reps K w.F w.J vs ds) : Walk K w (IteT K a) (enumD ds 0) := by
  refine ⟨fun i w1 S1 H1 x h l => ?_, fun i w1 S1 H1 d v H2 x h e1 y => ?_, fun w1 S1 H1 x h => ⟨vs, sameT (x.F.trans h.fz) e, by rw [r.length, enumD_len]; exact Nat.le_refl _⟩⟩
  · have l' : i < vs.length := by rw [r.length]; rw [enumD_len] at l; exact l
    exact ⟨vs, vs[i], sameT (x.F.trans h.fz) e, by simp [l']⟩
  · obtain ⟨T, x0, rfl, hT, rfl, y⟩ := y
    rw [enumD_get] at e1
    cases q : ds[i]? with
    | none => rw [q] at e1; cases e1
    | some d0 =>
      rw [q] at e1
      have : d = .tup [.int ((0 + i : Nat) : Int), d0] := by simpa using e1.symm
      subst this
      obtain ⟨u, h1, h2⟩ := r.get q
      have h3 := y vs (sameT (x.F.trans h.fz) e)
      rw [h1] at h3; cases h3
      rw [Nat.zero_add]
      exact add_pair h hT .int (h2.mono x.F x.J)
/-- enumerate(tuple) -/
def tEnumT' (ta : TA') : TI' := fun env S Φ Ψ => ta env S (fun us S1 => match us with
  | [.d (.tup ds)] => Φ (enumD ds 0) S1
  | _ => False) Ψ
theorem qi_enumT {elts : List Expr} {kk : Nat} {tpos : Pos} (hm : X.mg "enumerate" = none) (ha : PA X [a] (liftA X.K W tas ka)) (hg : Gl X "enumerate" := by rfl) (hs : starEach [a] X.env = [(false, eval a X.env)] := by rfl) :
    PI X (.Tuple elts kk tpos) (.Call (.Name "enumerate" p) [a] [] pos) (liftI X.K W (tEnumT' tas) (ka + 0)) := by
  refine PI.imp (pi_enumT hg hm ha hs) fun σ H R h => lift_mono (lift_bind (Rp := RepUs X.K) (g := fun us _ S Φ _ => match us with
    | [.d (.tup ds)] => Φ (enumD ds 0) S
    | _ => False) h) fun vs H1 ⟨w, us, env, S, Φ, Ψ, hh, r, q, c⟩ => ?_
  split at q
  · rename_i ds
    cases r with
    | cons r1 r =>
      cases r
      have r1' : Rep X.K w.F w.J _ (.tup ds) := r1
      cases r1' with
      | tup e1 rr1 => exact ⟨_, _, rfl, sameT hh.h.fz e1, c.here hh q (walk_enumT (S := S) (H := H1) e1 rr1)⟩
  · exact q.elim
end
end Pl

namespace Pl
open PySem PySem.Spec PyProof.Rows L2 TL
/-! ### set(text) -/
/-- the signs, each once -/
def sdAdd (σ : List Nat) (c : Nat) : List Nat := if c ∈ σ then σ else σ ++ [c]
def sd (l : List Nat) : List Nat := l.foldl sdAdd []
def sdIn (σ : List Nat) (k : Str) : Bool := decide (∃ c ∈ σ, k = ⟨#[c]⟩)
theorem sd_snoc (l : List Nat) (c : Nat) : sd (l ++ [c]) = sdAdd (sd l) c := by simp [sd]
theorem sdAdd_len (σ : List Nat) (c : Nat) : (sdAdd σ c).length ≤ σ.length + 1 := by unfold sdAdd; split <;> simp
theorem sd_fold : ∀ (l σ : List Nat), (l.foldl sdAdd σ).length ≤ σ.length + l.length
  | [], _ => Nat.le_refl _
  | c :: l, σ => by have := sd_fold l (sdAdd σ c); have := sdAdd_len σ c; simp only [List.foldl_cons, List.length_cons]; omega
theorem sd_len (l : List Nat) : (sd l).length ≤ l.length := by have := sd_fold l []; simpa [sd] using this
theorem one_inj {c d : Nat} (h : (⟨#[c]⟩ : Str) = ⟨#[d]⟩) : c = d := by simpa using h
section
variable {prog : Program} {w : World} {A : Around} {R : Result → Shared → Prop} {I : Addr} {n : Nat} {St : Nat → Heap → Prop}
theorem set_loopT {x : Str} (W : Walks prog w A.in1 I [I] [I] x.cps.size (SignAt x) St) (S : Addr) (hSI : S ≠ I) (hb : x.cps.size + 1 < scanBound) :
    ∀ (k i : Nat) (s : Shared), x.cps.size - i = k → i ≤ x.cps.size → St i s.heap →
      s.heap.SetOf (PySem.strKind prog w) S (sdIn (sd (x.cps.toList.take i))) (sd (x.cps.toList.take i)).length →
      (∀ h' tk, h'.SetOf (PySem.strKind prog w) S (sdIn (sd x.cps.toList)) (sd x.cps.toList).length → (∀ b o, b ≠ S → b ≠ I → s.heap.get? b = some o → h'.get? b = some o) → R (.ok (.ret .none)) { s with heap := h', toks := tk }) →
      codeAny (model prog w) A (.builtin "set.update.loop" ⟨[.ref S, .ref I], []⟩) R s := by
  intro k
  induction k with
  | zero =>
    intro i s hk hi hst hS hR
    have hin : i = x.cps.size := by omega
    subst hin
    refine codeAny_builtin PyProof.Rows.F.entry_set_update_loop ?_
    rw [Around.under_plainId PyProof.Rows.F.plain_set_update_loop _]
    show wpAny _ A.in1 (pyNext (.ref I) >>= _) _ _ s
    refine wpAny_bind (W.done s _ _ hst fun h' tk hm => ?_)
    show wpAny _ A.in1 (ret Value.none) _ _ _
    have e : x.cps.toList.take x.cps.size = x.cps.toList := List.take_of_length_le (by simp)
    rw [e] at hS
    refine wpAny_pure (hR h' tk ?_ fun b o _ h2 q => hm b o (by simpa using h2) q)
    obtain ⟨o, es, ep, t, ho, rest⟩ := hS
    exact ⟨o, es, ep, t, hm S o (by simpa using hSI) ho, rest⟩
  | succ k ih =>
    intro i s hk hi hst hS hR
    have hlt : i < x.cps.size := by omega
    refine codeAny_builtin PyProof.Rows.F.entry_set_update_loop ?_
    rw [Around.under_plainId PyProof.Rows.F.plain_set_update_loop _]
    show wpAny _ A.in1 (pyNext (.ref I) >>= _) _ _ s
    refine wpAny_bind (W.item i s _ _ hlt hst fun v h' tk hP hst' hm => ?_)
    obtain ⟨c, u, hc, rfl⟩ := hP
    have hS1 : h'.SetOf (PySem.strKind prog w) S (sdIn (sd (x.cps.toList.take i))) (sd (x.cps.toList.take i)).length := by
      obtain ⟨o, es, ep, tb, ho, rest⟩ := hS
      exact ⟨o, es, ep, tb, hm S o (by simpa using hSI) ho, rest⟩
    show wpAny _ A.in1 (holding [Value.str ⟨#[c]⟩ u] (setAdd S (.str ⟨#[c]⟩ u)) >>= _) _ _ _
    refine wpAny_bind (wpAny_holding ?_)
    unfold setAdd
    refine wpAny_holding ?_
    refine wpAny_bind ((PySem.strKind prog w).pyHash (k := ⟨#[c]⟩) (strKind_is _ _ _ _) ?_)
    have hl : (x.cps.toList.take i).length ≤ i := by rw [List.length_take]; omega
    have hroom : (sd (x.cps.toList.take i)).length + 1 < scanBound := by have := sd_len (x.cps.toList.take i); omega
    refine wpAny_setAddHashed_of (knd := PySem.strKind prog w) (s := { s with heap := h', toks := tk + 1 }) (strKind_is _ _ _ _) rfl hS1 hroom fun h2 hsb hS2 => ?_
    have et : x.cps.toList.take (i + 1) = x.cps.toList.take i ++ [c] := by
      rw [List.take_succ]
      have : x.cps.toList[i]? = some c := by simpa using hc
      rw [this]; rfl
    have hSi : h2.SetOf (PySem.strKind prog w) S (sdIn (sd (x.cps.toList.take (i + 1)))) (sd (x.cps.toList.take (i + 1))).length := by
      rw [et, sd_snoc]
      refine SetOf_congr hS2 (fun k' => ?_) ?_
      · unfold sdIn sdAdd
        rw [Bool.eq_iff_iff]
        simp only [Bool.or_eq_true, decide_eq_true_eq]
        by_cases z : c ∈ sd (x.cps.toList.take i)
        · rw [if_pos z]
          exact ⟨fun q => q.elim id fun q => ⟨c, z, q⟩, fun q => .inl q⟩
        · rw [if_neg z]
          refine ⟨fun q => q.elim (fun ⟨d, h1, h2⟩ => ⟨d, List.mem_append_left _ h1, h2⟩) fun q => ⟨c, by simp, q⟩, fun ⟨d, h1, h2⟩ => ?_⟩
          rcases List.mem_append.mp h1 with h1 | h1
          · exact .inl ⟨d, h1, h2⟩
          · rw [List.mem_singleton.mp h1] at h2; exact .inr h2
      · unfold sdIn sdAdd
        by_cases z : c ∈ sd (x.cps.toList.take i)
        · rw [if_pos (decide_eq_true ⟨c, z, rfl⟩), if_pos z]
        · rw [if_neg (by simp only [decide_eq_true_eq]; rintro ⟨d, h1, h2⟩; exact z (one_inj h2 ▸ h1)), if_neg z, List.length_append]; rfl
    refine wpAny_pure ⟨plainId_quiet PyProof.Rows.F.plain_set_update_loop _, ih (i + 1) { s with heap := h2, toks := tk + 1 } (by omega) hlt (W.frame _ _ _ hst' fun b hb o e => ?_) hSi fun h3 tk3 hS3 hk3 => ?_⟩
    · rw [hsb.2 b (fun h : b = S => hSI (by rw [← h]; simpa using hb))]; exact e
    · refine hR h3 tk3 hS3 fun b o n1 n2 q => hk3 b o n1 n2 ?_
      rw [hsb.2 b n1]; exact hm b o (by simpa using n2) q
end
section
variable {prog : Program} {w : World} {A : Around} {E : Value → Shared → Prop} {s : Shared}
theorem call_set_text {x : Str} {t : Tok} {Q : Value → Shared → Prop} (hh : A.handled = none) (hb : x.cps.size + 1 < scanBound)
    (h : ∀ (h' : Heap) (tk : Nat), h'.SetOf (PySem.strKind prog w) s.heap.objs.size (sdIn (sd x.cps.toList)) (sd x.cps.toList).length →
      (∀ b o, b < s.heap.objs.size → s.heap.get? b = some o → h'.get? b = some o) → Q (.ref s.heap.objs.size) { s with heap := h', toks := tk }) :
    wpAny (model prog w) A (call (.type "set") [.str x t]) Q E s := by
  obtain ⟨c, tl, hmro⟩ := PySem.F.called_set.mro
  have hmade := PySem.F.called_set.made
  have hsub := PySem.F.called_set.sub
  refine wpAny_call (codeAny_of_tree ?_)
  show wpAny _ _ (callAny (.type "set") _) _ _ _
  refine wpAny_pure ⟨Code.quiet_builtin _ (by decide +kernel), codeAny_builtin PySem.F.entry_type_call ?_⟩
  rw [Around.under_plain (weight_type_call_type "set" [.str x t] []) rfl]
  have h1 := PySem.F.called_set.notType
  have h2 := PySem.F.called_set.canCreate
  have hct := PySem.F.typeCall_set_1 (.str x t)
  repeat (any_goals (first | assumption | wp_step))
  refine codeAny_mono (code_set_new_1 (.str x t) (E := E) (Q₁ := fun obj s₁ => ∃ led : Bool, obj = .ref s.heap.objs.size ∧ s₁ = { s with heap := s.heap.push { cls := .type "set", dict := none, data := .set #[] 0 (.fresh 0 0 led) } }) fun led => ⟨led, rfl, rfl⟩) fun r s₁ hr => ?_
  cases r with
  | error e => exact hr
  | ok fl =>
    cases fl with
    | ret obj =>
      obtain ⟨led, rfl, rfl⟩ := hr
      have hS : (s.heap.push { cls := .type "set", dict := none, data := .set #[] 0 (.fresh 0 0 led) }).get? s.heap.objs.size = some { cls := .type "set", dict := none, data := .set #[] 0 (.fresh 0 0 led) } := Heap.get?_push_size _ rfl
      have hT : Shared.TypeIs { s with heap := s.heap.push { cls := .type "set", dict := none, data := .set #[] 0 (.fresh 0 0 led) } } (.ref s.heap.objs.size) "set" := ⟨_, hS, rfl⟩
      have hli := PySem.F.called_set.init.lookup
      have hbi := PySem.F.called_set.init.bind (.ref s.heap.objs.size)
      repeat (any_goals (first | assumption | wp_step))
      refine codeAny_mono (codeAny_call_builtin (R := wants (fun r s₂ => r = .none ∧ ∃ h' tk, s₂ = { s with heap := h', toks := tk } ∧
          h'.SetOf (PySem.strKind prog w) s.heap.objs.size (sdIn (sd x.cps.toList)) (sd x.cps.toList).length ∧
          (∀ b o, b < s.heap.objs.size → s.heap.get? b = some o → h'.get? b = some o)) E) PySem.F.called_set.init.plain PySem.F.entry_set_init (check_set_init_1 hT ?_)) fun r₂ s₂ hr₂ => ?_
      · have z1 := PySem.F.sub_str_set
        have z2 := PySem.F.sub_str_frozenset
        unfold Builtin.«set.__init__» noKeywords Builtin.Frozenset.updateFrom
        generalize hPI : pyIter = PI
        wp_walk
        subst hPI
        refine wpAny_pyIter_str fun o St W hst => ?_
        refine wpAny_bind (wpAny_runValue ?_)
        refine set_loopT (W _ (by simp [hh])) s.heap.objs.size (by rw [Heap.size_push]; exact Nat.ne_of_lt (Nat.lt_succ_self _)) hb _ 0 _ rfl (Nat.zero_le _) hst ?_ ?_
        · have hget : ((s.heap.push { cls := .type "set", dict := none, data := .set #[] 0 (.fresh 0 0 led) }).push o).get? s.heap.objs.size = some { cls := .type "set", dict := none, data := .set #[] 0 (.fresh 0 0 led) } := Heap.get?_push_of_some _ hS
          exact PyProof.Rows.SetOf_congr ((PyProof.Rows.setObjOf_fresh (knd := PySem.strKind prog w) led).setOf hget (by unfold scanBound; omega)) (fun _ => rfl) rfl
        · intro h' tk hS' hk'
          show wpAny _ _ _ _ _ _
          refine wpAny_pure ?_
          show wpAny _ _ (ret Value.none) _ _ _
          refine wpAny_pure ⟨rfl, h', tk, rfl, hS', fun b o' hb' e => hk' b o' (Nat.ne_of_lt hb') ?_ (Heap.get?_push_of_some _ (Heap.get?_push_of_some _ e))⟩
          rw [Heap.size_push]; exact Nat.ne_of_lt (Nat.lt_succ_of_lt hb')
      · cases r₂ with
        | error e => exact hr₂
        | ok fl₂ =>
          cases fl₂ with
          | ret r =>
            obtain ⟨rfl, h', tk, rfl, hS', hk'⟩ := hr₂
            repeat (any_goals (first | assumption | wp_step))
            exact h _ _ hS' hk'
          | _ => exact hr₂.elim
    | _ => exact hr.elim
end
section
variable {X : Cx} {W : WX} {pos p p2 qp : Pos} {a : Expr} {ta : TE'} {ka : Nat}
theorem pe_lenSetT {ta : TE} (hc : X.calm = true) (hg : Gl X "len") (hm : X.mg "len" = none) (hg2 : Gl X "set") (hm2 : X.mg "set" = none) (ha : PE X a ta)
    (na : starEach [a] X.env = (false, eval a X.env) :: starEach [] X.env := by rfl) : PE X (.Call (.Name "len" p) [.Call (.Name "set" p2) [a] [] qp] [] pos) (fun σ H Q => ta σ H fun x H1 => ∃ t : Str, x = .str t ∧ t.cps.size + 1 < scanBound ∧ Q (.int (sd t.cps.toList).length) H1) := by
  refine ⟨fun pins s σ H Q I h => ?_⟩
  refine Call_ (ld_blt I hg hm boot_len ?_)
  refine PyProof.Rows.callWith_builtin1 (PyProof.Rows.args_cons ?_ rfl) rfl rfl
  refine Call_ (ld_blt I hg2 hm2 boot_set ?_)
  refine PyProof.Rows.callWith_type1 (PyProof.Rows.args_cons (thn (ha.run pins s σ H _ I h) fun v s1 ⟨x, H1, I1, r1, t, ex, hb, q⟩ => PyProof.Rows.args_nil ?_) na) na rfl
  subst ex
  obtain ⟨tk0, rfl⟩ := r1
  refine call_set_text (I1.ok.hd hc) hb fun h' tk hS hk => ?_
  refine PyProof.Rows.args_nil ?_
  obtain ⟨o, es, ep, tb, ho, hex, hd, _, _, _, hf, hn⟩ := hS
  have I2 : Inv X pins σ H1 { s1 with heap := h', toks := tk } := I1.kept fun b o e => hk b o (Heap.lt_size e) e
  have hl := sd_len t.cps.toList
  have hsz : (sd t.cps.toList).length < scanBound := by
    have : t.cps.toList.length = t.cps.size := by simp
    omega
  have hsc : scanBound ≤ 4096 := by decide
  refine call_len_set ho hex hd hf (by rw [hn]; omega) ⟨.int (sd t.cps.toList).length, H1, I2.tok _, ⟨_, by rw [hn]⟩, q⟩
/-- len(set(text)) -/
def fLenSet : D → SS → (U → SS → Prop) → Prop
  | .str l, S, Φ => l.length ≤ 1000 ∧ Φ (.d (.int (sd l).length)) S
  | _, _, _ => False
theorem qlenset (hm : X.mg "len" = none) (hm2 : X.mg "set" = none) (ha : PE X a (liftE X.K W ta ka)) (hc : X.calm = true := by rfl) (hg : Gl X "len" := by rfl) (hg2 : Gl X "set" := by rfl) (na : starEach [a] X.env = (false, eval a X.env) :: starEach [] X.env := by rfl) :
    PE X (.Call (.Name "len" p) [.Call (.Name "set" p2) [a] [] qp] [] pos) (liftE X.K W (tUn' (rd1 fLenSet) ta) (ka + 0)) := by
  refine PE.imp (pe_lenSetT hc hg hm hg2 hm2 ha na) fun σ H Q h => un_lift (r := fun x H Q => ∃ t : Str, x = .str t ∧ t.cps.size + 1 < scanBound ∧ Q (.int (sd t.cps.toList).length) H) (fun {w S H σ env x u Φ Ψ Q} hh r1 q c => ?_) h
  obtain ⟨d, n1, q⟩ := rd1_ok hh r1 q
  cases d <;> try exact False.elim q
  rename_i l
  rw [n1.str]
  have hsc : 1001 < scanBound := by decide
  exact ⟨_, rfl, by have := q.1; simp; omega, c.here hh q.2 .int⟩
end
end Pl

namespace Pl
open PySem PySem.Spec PyProof.Rows L2 TL
section
variable {X : Cx} {W : WX} {pos p apos kpos : Pos} {a b c e o : Expr} {es : List Expr} {kws : List Keyword} {ta tb tc to te : TE'} {tas : TA'} {k ka kb kc lv : Nat} {C : Addr} {ns : List Str} {sp : Sp'} {x m : Str} {ps : List Str}
/-! ### chains -/
def tChI' (p q : Int → Int → Bool) (ta tb tc : TE') : TE' := fun env S Φ Ψ => ta env S (fun u S1 => tb env S1 (fun v S2 => match u, v with
  | .d (.int i), .d (.int j) => if p i j = true then tc env S2 (fun z S3 => match z with
    | .d (.int k) => Φ (.d (.bl (q j k))) S3
    | _ => False) Ψ else Φ (.d (.bl false)) S2
  | _, _ => False) Ψ) Ψ
theorem chain_lift {K : PySem.W.Frag} {f g : Int → Int → Bool} {σ : L2.St} {H : Hp} {Q : VK} (h : liftE K W (tChI' f g ta tb tc) (ka + kb + kc) σ H Q) :
    tChain (rI0 fun i j => .bl (f i j)) (rI0 fun i j => .bl (g i j)) (liftE K W ta ka) (liftE K W tb kb) (liftE K W tc kc) σ H Q := by
  refine lift_mono (lift_bind2 (Rp := RepU K) (Rp2 := RepU K) (Rp3 := RepU K) (kg := kc) (g := fun (u v : U) env S2 Φ Ψ => match u, v with
    | .d (.int i), .d (.int j) => if f i j = true then tc env S2 (fun z S3 => match z with
      | .d (.int k) => Φ (U.d (.bl (g j k))) S3
      | _ => False) Ψ else Φ (U.d (.bl false)) S2
    | _, _ => False) stabU h) fun x H1 q => lift_mono q fun y H2 ⟨w, u, v, env, S, Φ, Ψ, hh, r1, r2, q, cc⟩ => ?_
  cases u with
  | r _ => exact q.elim
  | tup _ => exact q.elim
  | d y1 =>
    cases y1 <;> try exact q.elim
    rename_i i
    cases v with
    | r _ => exact q.elim
    | tup _ => exact q.elim
    | d y2 =>
      cases y2 <;> try exact q.elim
      rename_i j
      rw [RepN.int (Rep.now hh.h r1), RepN.int (Rep.now hh.h r2)]
      refine ⟨i, j, rfl, rfl, _, rfl, ?_⟩
      cases z : f i j with
      | false =>
        rw [if_neg (by decide)]
        simp only [z] at q
        exact cc.here hh (by simpa using q) (show RepU K w (.bl false) (.d (.bl false)) from .bl)
      | true =>
        rw [if_pos rfl]
        simp only [z] at q
        refine ⟨w, env, S, _, Ψ, hh.h, hh.e, hh.l, (by simpa using q), ⟨fun u3 S3 q3 w3 v3 H3 x3 xa3 h3 r3 => ?_, fun z S3 q3 w3 C d H3 x3 xa3 h3 r3 => cc.xx z S3 q3 w3 C d H3 x3 xa3 h3 r3⟩⟩
        cases u3 with
        | r _ => exact False.elim q3
        | tup _ => exact False.elim q3
        | d y3 =>
          cases y3 <;> try exact False.elim q3
          rw [RepN.int (Rep.now h3 r3)]
          exact ⟨j, _, rfl, rfl, cc.ok _ _ q3 w3 _ H3 x3 xa3 h3 .bl⟩
theorem qchain {op op' : CmpOp} {f g : Int → Int → Bool} (h1 : OpR X (compareOp op) (rI0 fun i j => .bl (f i j))) (h2 : OpR X (compareOp op') (rI0 fun i j => .bl (g i j))) (ha : PE X a (liftE X.K W ta ka)) (hb : PE X b (liftE X.K W tb kb)) (hc : PE X c (liftE X.K W tc kc))
    (hm : lastMarks [op, op'] [b, c] = false := by with_unfolding_all rfl) : PE X (.Compare a [op, op'] [b, c] pos) (liftE X.K W (tChI' f g ta tb tc) (ka + kb + kc)) := PE.imp (pe_chain h1 h2 ha hb hc hm) fun _ _ _ h => chain_lift h
theorem qtchain {op op' : CmpOp} {f g : Int → Int → Bool} (h1 : OpR X (compareOp op) (rI0 fun i j => .bl (f i j))) (h2 : OpR X (compareOp op') (rI0 fun i j => .bl (g i j))) (ha : PE X a (liftE X.K W ta ka)) (hb : PE X b (liftE X.K W tb kb)) (hc : PE X c (liftE X.K W tc kc))
    (hm : lastMarks [op, op'] [b, c] = false := by with_unfolding_all rfl) : PT X (.Compare a [op, op'] [b, c] pos) (liftT X.K W (tTst (tChI' f g ta tb tc)) (ka + kb + kc)) := PT.imp (pt_chain h1 h2 ha hb hc hm) fun _ _ _ h => chain_lift (tst_lift h)
/-! ### keywords -/
theorem PK.imp {t t2 : TA} (h : PK X kws t) (i : ∀ σ H Q, t2 σ H Q → t σ H Q) : PK X kws t2 := ⟨fun pos pins s σ H Q I q => h.run pos pins s σ H Q I (i σ H Q q)⟩
theorem qk_nil : PK X [] (liftA X.K W tNil' 0) := PK.imp pk_nil fun σ H Q ⟨w, env, S, Φ, Ψ, hr, he, hl, t, c⟩ => c.here ⟨hr, he, hl⟩ t .nil
theorem qk_cons {nm : Option Str} (ha : PE X e (liftE X.K W ta ka)) (hb : PK X kws (liftA X.K W tas kb)) : PK X (⟨nm, e, kpos⟩ :: kws) (liftA X.K W (tCons' ta tas) (ka + kb + 0)) :=
  PK.imp (pk_cons ha hb) fun σ H Q h => lift_mono (lift_bind2 (g := fun u us _ S Φ _ => Φ (u :: us) S) stabU h) fun x H1 q => lift_mono q fun y H2 ⟨w, u, z, env, S, Φ, Ψ, hh, r1, r2, q, c⟩ => c.here hh q (RepUs.cons r1 r2)
theorem code_run {CX : CXT} {f : Addr} {fd : FuncData} {sp : Sp} {E : XK} {pins : List (Addr × Obj)} {σ : L2.St} {H : Hp} {s : Shared} {Q : VK} {args : Args} {us : List Value} {vs : List V} (F : FnOk X.prog X.w X.K X.mg X.base CX lv f fd ps sp) (hr : Room lv X.A) (hb : BindsTo s fd args (ps.zip us))
    (hx : PassesAt CX X σ E) (I : Inv X pins σ H s) (r : Vals vs us) (h : sp vs H Q E) :
    codeAny (model X.prog X.w) X.A (.call (.ref f) args) (fun r s' => match r with | .ok (.ret v) => EP X pins σ Q v s' | .ok _ => False | .error e => X.xe e s') s := by
  refine codeAny_mono (F.run X.A X.stack s H args us vs Q E hr I.env0 hb r h) fun r s' hq => ?_
  cases r with
  | error e => exact hx pins H s e s' I hq
  | ok fl =>
    cases fl with
    | ret u => exact I.after hq
    | next => exact False.elim hq
    | brk => exact False.elim hq
    | cont => exact False.elim hq
abbrev kwAll (X : Cx) (pos : Pos) (kws : List Keyword) : Prop := (backToKw pos (keywordEach kws X.env)).all (·.1.isSome) = true
/-- C(k = e, ..) -/
theorem qmakeK {dv : Bool} (G : IFn X.prog X.w X.K X.mg X.base C x ps dv lv sp k) (hr : Room (lv + 1) X.A) (tk : Takes X W) (ha : PK X kws (liftA X.K W tas ka)) (hg : Gl X x := by rfl) (hall : kwAll X pos kws := by rfl)
    (hks : (backToKw pos (keywordEach kws X.env)).filterMap (·.1) = ps.drop 1 := by rfl) (hdb : (x == ("__debug__" : Str)) = false := by decide)
    (hpl : ((backTo pos (starEach [] X.env)).any (·.1) || (backToKw pos (keywordEach kws X.env)).any (·.1.isNone)) = false := by rfl) :
    PE X (.Call (.Name x p) [] kws pos) (liftE X.K W (tCall' sp tas) (ka + k)) := by
  obtain ⟨f, fd, hm, M, ⟨hb, _⟩, F⟩ := G.ex
  refine PE.imp (t := fun σ H Q => liftA X.K W tas ka σ H fun vs H1 => ∀ x dx, H1 x = none → H1 dx = none → dx ≠ x → liftI0 X.K C sp k (.ref x :: vs) (upd (upd H1 dx (.own x)) x (.ins C dx [])) (fun v H2 => v = .non ∧ Q (.ref x) H2) (WE W σ)) ⟨fun pins s σ H Q I h => ?_⟩ fun σ H Q h => call_lift h
  refine wpAny_Call_Name_kw (ld_glob I hg hm ?_ hdb)
  refine PySem.W.callWith_KW0 (h₀ := X.base) I.ok.mod.kin M.kp hall ?_ hpl
  refine thn (ha.run pos pins s σ H _ I h) fun us s1 ⟨vs, H1, I1, r, q⟩ => ⟨I1.kIn, ?_⟩
  rw [hks]
  have hl : 1 + us.length = ps.length := by
    have hq := q (s1.heap.objs.size + 1) s1.heap.objs.size (I1.hok.fresh (Nat.le_succ _)) (I1.hok.fresh (Nat.le_refl _)) (Nat.ne_of_lt (Nat.lt_succ_self _))
    have := F.len _ _ _ _ hq
    rw [← this, List.length_cons, r.length]; omega
  exact make_run (us := []) M F hr (fun s x X => hb 1 s [x] us X rfl hl) (passAt tk σ) I1 r q
/-- f(), and f(k = e, ..) -/
theorem qcallF0 (G : Fn X.prog X.w X.K X.mg X.base x ps lv sp k) (hr : Room lv X.A) (tk : Takes X W) (hg : Gl X x := by rfl) (hdb : (x == ("__debug__" : Str)) = false := by decide) :
    PE X (.Call (.Name x p) [] [] pos) (liftE X.K W (tCall' sp tNil') (0 + k)) := by
  obtain ⟨f, fd, hm, hk, hb, F⟩ := G.ex
  refine PE.imp (t := liftE X.K W (tCall' sp tNil') (0 + k)) ⟨fun pins s σ H Q I h => ?_⟩ fun _ _ _ h => h
  obtain ⟨w, env, S, Φ, Ψ, hr', hE, hl, q, c⟩ := h
  refine wpAny_Call_Name_kw (ld_glob I hg hm ?_ hdb)
  refine PySem.W.callWith_K0 (first := []) I.kIn hk (wpAny_call (code_fn (us := []) (vs := []) F hr hb.binds (passAt tk σ) I .nil ?_))
  exact call_rep (ds := []) ⟨hr', hE, by omega⟩ .nil q (c.le (by omega))
theorem kw_call {vs : List V} {sp : Sp'} {σ : L2.St} {H : Hp} {Q : VK} {K : PySem.W.Frag} (h : liftE K W (tCall' sp tas) (ka + k) σ H Q) : liftA K W tas ka σ H fun vs H1 => liftP K sp k vs H1 Q (WE W σ) :=
  lift_mono (lift_bind (Rp := RepUs K) (g := fun us _ S Φ Ψ => match clos 100 us with
    | some ds => sp ds (fun d => Φ (U.d d) S) (fun x => Ψ x S)
    | none => False) h) fun vs H1 ⟨w, us, env, S, Φ, Ψ, hh, r, q, c⟩ => by
  cases e : clos 100 us with
  | none => simp only [e] at q
  | some ds =>
    simp only [e] at q
    obtain ⟨hr1, he1, hl1⟩ := hh
    refine ⟨w.F, w.J, w.n, ds, _, _, hr1.fz, fun a j => ⟨(hr1.jr a j).1, (hr1.jr a j).2.1⟩, (clos_ok r e).1, hl1, q, fun d qd F1 J1 n1 v H1 x rv => ?_, fun z qz F1 J1 n1 H1 C dd x rx => ?_⟩
    · obtain ⟨E, R⟩ := x.world hr1
      exact c.ok _ S qd _ v H1 E (fun _ _ h => h) R rv
    · obtain ⟨E, R⟩ := x.world hr1
      exact c.xx _ S qz _ C dd H1 E (fun _ _ h => h) R rx
theorem qcallFK (G : Fn X.prog X.w X.K X.mg X.base x ps lv sp k) (hr : Room lv X.A) (tk : Takes X W) (ha : PK X kws (liftA X.K W tas ka)) (hg : Gl X x := by rfl) (hall : kwAll X pos kws := by rfl)
    (hks : (backToKw pos (keywordEach kws X.env)).filterMap (·.1) = ps := by rfl) (hdb : (x == ("__debug__" : Str)) = false := by decide)
    (hpl : ((backTo pos (starEach [] X.env)).any (·.1) || (backToKw pos (keywordEach kws X.env)).any (·.1.isNone)) = false := by rfl) :
    PE X (.Call (.Name x p) [] kws pos) (liftE X.K W (tCall' sp tas) (ka + k)) := by
  obtain ⟨f, fd, hm, hk, hb, F⟩ := G.ex
  refine PE.imp (t := fun σ H Q => liftA X.K W tas ka σ H fun vs H1 => liftP X.K sp k vs H1 Q (WE W σ)) ⟨fun pins s σ H Q I h => ?_⟩ fun σ H Q h => kw_call (vs := []) h
  refine wpAny_Call_Name_kw (ld_glob I hg hm ?_ hdb)
  refine PySem.W.callWith_KW0 (h₀ := X.base) I.ok.mod.kin hk hall ?_ hpl
  refine thn (ha.run pos pins s σ H _ I h) fun us s1 ⟨vs, H1, I1, r, q⟩ => ⟨I1.kIn, ?_⟩
  rw [hks]
  have hl : 0 + us.length = ps.length := by
    have := F.len _ _ _ _ q
    rw [← this, r.length]; omega
  exact wpAny_call (code_run F hr (hb 0 s1 [] us I1.kIn rfl hl) (passAt tk σ) I1 r q)
/-- o.m(k = e, ..) -/
theorem qmethK {pl : Sem Bool} (G : MFn X.prog X.w X.K X.mg X.base C m ps lv sp k) (cl : Cls X.K C) (hm : ∀ {α : Type} (ds : List α), (ns.zip ds).lookup m = none) (hr : Room lv X.A) (tk : Takes X W) (he : PE X o (liftE X.K W to ka)) (ha : PK X kws (liftA X.K W tas kb))
    (hall : kwAll X pos kws := by rfl) (hks : (backToKw pos (keywordEach kws X.env)).filterMap (·.1) = ps.drop 1 := by rfl)
    (hpl : ((backTo pos (starEach [] X.env)).any (·.1) || (backToKw pos (keywordEach kws X.env)).any (·.1.isNone)) = false := by rfl)
    (ht : eval (.Call (.Attribute o m apos) [] kws pos) X.env = (do
      let ov ← eval o X.env
      standAt apos.atName
      let (f, first) ← holding [ov] (getMethod ov m pl)
      callWith pos f first (backTo pos (starEach [] X.env)) (backToKw pos (keywordEach kws X.env))) := by rfl) :
    PE X (.Call (.Attribute o m apos) [] kws pos) (liftE X.K W (tMeth' C ns sp to tas) (ka + kb + k)) := by
  obtain ⟨f, fd, hM, _, hb, F⟩ := G.ex
  refine PE.imp (t := tMethS C m (liftP X.K sp k) (WE W) (liftE X.K W to ka) (liftA X.K W tas kb)) ⟨fun pins s σ H Q I h => ?_⟩ fun σ H Q h => meth_lift hm h
  refine PySem.W.methodCall_KW (pl := pl) (thn (he.run pins s σ H _ I h) fun u s1 ⟨x, H1, I1, rx, a, dx, fs, ex, ea, l, q⟩ => ?_) ht
  subst ex
  obtain rfl : u = Value.ref a := rx
  refine getmeth_ok I1 ea cl hM l (PySem.W.callWith_KW0 (first := [.ref a]) (h₀ := X.base) I.ok.mod.kin hM.kp hall (thn (ha.run pos pins s1 σ H1 _ I1 q) fun us s2 ⟨vs, H2, I2, r, q2⟩ => ⟨I2.kIn, ?_⟩) hpl)
  rw [hks]
  have hl : 1 + us.length = ps.length := by
    have := F.len _ _ _ _ q2
    rw [← this, List.length_cons, r.length]; omega
  exact wpAny_call (code_run (us := .ref a :: us) (vs := .ref a :: vs) F hr (hb 1 s2 [.ref a] us I2.kIn rfl hl) (passAt tk σ) I2 (.cons rfl r) q2)
theorem callO_ofK {M : Model} {A : Around} {E : Value → Shared → Prop} {s : Shared} {a : Addr} {pos : Pos} {Q : Value → Shared → Prop} {env : PySem.Env} {kws : List Keyword}
    (hpl : ((backTo pos (starEach [] env)).any (·.1) || (backToKw pos (keywordEach kws env)).any (·.1.isNone)) = false) (hall : (backToKw pos (keywordEach kws env)).all (·.1.isSome) = true)
    (h : wpAny M A (evalAll ((backToKw pos (keywordEach kws env)).map (·.2))) (fun ks s₁ => (∃ C ox od, PySem.W.InstAt s₁.heap a ox C od ∧ ox.data = .plain) ∧ wpAny M A (call (.ref a) [] (((backToKw pos (keywordEach kws env)).filterMap (·.1)).zip ks)) Q E s₁) E s) :
    wpAny M A (callWith pos (.ref a) [] (backTo pos (starEach [] env)) (backToKw pos (keywordEach kws env))) Q E s := by
  unfold callWith
  refine wpAny_bind (wpAny_holding (wpAny_mono (evalArgs_kw2_nil (Q := fun z s₁ => (∃ C ox od, PySem.W.InstAt s₁.heap a ox C od ∧ ox.data = .plain) ∧ wpAny M A (call (.ref a) ([] ++ z.pos) z.kw) Q E s₁) hall h) (fun z s₁ h₁ => wpAny_bind (wpAny_standAt ?_)) fun _ _ y => y))
  obtain ⟨⟨C, ox, od, J, hd⟩, h₁⟩ := h₁
  have L := PySem.W.kco_keeper (M := M) J hd
  simp only [hpl]
  refine wpAny_bind (L.here ?_)
  have tail : ∀ {t : Sem Value}, wpAny M A t Q E s₁ → wpAny M A (t >>= fun r => holding [r] point >>= fun _ => pure r) Q E s₁ :=
    fun ht => wpAny_bind (wpAny_mono ht (fun r s₂ hr => wpAny_bind (wpAny_holding (wpAny_point (wpAny_pure hr)))) fun _ _ y => y)
  exact tail (wpAny_operateT h₁)
theorem callO_lift {X : Cx} (hm : ∀ {α : Type} (ds : List α), (ns.zip ds).lookup ("__call__" : Str) = none) {σ : L2.St} {H : Hp} {Q : VK} (h : liftE X.K W (tMeth' C ns sp to tas) (ka + kb + k) σ H Q) :
    liftE X.K W to ka σ H fun x H1 => ∃ a dx fs, x = .ref a ∧ H1 a = some (.ins C dx fs) ∧ liftA X.K W tas kb σ H1 fun vs H2 => (∃ dx fs, H2 a = some (.ins C dx fs)) ∧ liftP X.K sp k (.ref a :: vs) H2 Q (WE W σ) := by
  obtain ⟨w, env, S, Φ, Ψ, hr, hE, hl, q, c⟩ := h
  refine ⟨w, env, S, _, Ψ, hr, hE, by omega, q, ⟨fun u S1 q1 w1 v H1 x1 xa1 h1 r1 => ?_, fun z S1 q1 w1 C d H1 x1 xa1 h1 r1 => c.xx z S1 q1 w1 C d H1 (x1.le (by omega)) xa1 h1 r1⟩⟩
  cases u with
  | r _ => exact False.elim q1
  | tup _ => exact False.elim q1
  | d y =>
    cases y <;> try exact False.elim q1
    rename_i C' ns' ds
    obtain ⟨⟨rfl, rfl⟩, q1⟩ := q1
    have r1' : Rep X.K w1.F w1.J v (.obj C' ns' ds) := r1
    cases id r1' with
    | obj e1 l rr =>
      refine ⟨_, _, _, rfl, h1.fz _ _ e1, w1, env, S1, _, Ψ, h1, hE.ext x1 xa1, by have := x1.n; omega, q1, ⟨fun us S2 q2 w2 vs2 H2 x2 xa2 h2 r2 => ?_, fun z S2 q2 w2 C d H2 x2 xa2 h2 r2 => c.xx z S2 q2 w2 C d H2 ((x1.trans x2).le (by omega)) (xa1.trans xa2) h2 r2⟩⟩
      have x3 := x1.trans x2
      cases e3 : clos 100 us with
      | none => simp only [e3] at q2
      | some es2 =>
        simp only [e3] at q2
        exact ⟨⟨_, _, h2.fz _ _ (x2.F _ _ e1)⟩, call_rep (ds := .obj C' ns' ds :: es2) ⟨h2, (hE.ext x1 xa1).ext x2 xa2, by have := x3.n; omega⟩ (.cons (Rep.ext x2 r1') (clos_ok r2 e3).1) q2 (c.ext (j := ka + kb) x3 (xa1.trans xa2))⟩
/-- o(k = e, ..) -/
theorem qcallOK (G : MFn X.prog X.w X.K X.mg X.base C "__call__" ps lv sp k) (hr : Room lv X.A) (tk : Takes X W) (he : PE X o (liftE X.K W to ka)) (ha : PK X kws (liftA X.K W tas kb)) (hm : ∀ {α : Type} (ds : List α), (ns.zip ds).lookup ("__call__" : Str) = none)
    (hall : kwAll X pos kws := by rfl) (hks : (backToKw pos (keywordEach kws X.env)).filterMap (·.1) = ps.drop 1 := by rfl)
    (hpl : ((backTo pos (starEach [] X.env)).any (·.1) || (backToKw pos (keywordEach kws X.env)).any (·.1.isNone)) = false := by rfl)
    (ht : eval (.Call o [] kws pos) X.env = (do callWith pos (← eval o X.env) [] (backTo pos (starEach [] X.env)) (backToKw pos (keywordEach kws X.env))) := by rfl) :
    PE X (.Call o [] kws pos) (liftE X.K W (tMeth' C ns sp to tas) (ka + kb + k)) := by
  obtain ⟨f, fd, hM, hF, hb, F⟩ := G.ex
  refine PE.imp (t := fun σ H Q => liftE X.K W to ka σ H fun x H1 => ∃ a dx fs, x = .ref a ∧ H1 a = some (.ins C dx fs) ∧ liftA X.K W tas kb σ H1 fun vs H2 => (∃ dx fs, H2 a = some (.ins C dx fs)) ∧ liftP X.K sp k (.ref a :: vs) H2 Q (WE W σ)) ⟨fun pins s σ H Q I h => ?_⟩ fun σ H Q h => callO_lift hm h
  rw [ht]
  refine wpAny_bind (thn (he.run pins s σ H _ I h) fun u s1 ⟨x, H1, I1, rx, a, dx, fs, ex, ea, q⟩ => ?_)
  subst ex
  obtain rfl : u = Value.ref a := rx
  refine callO_ofK hpl hall (thn (ha.run pos pins s1 σ H1 _ I1 q) fun us s2 ⟨vs, H2, I2, r, hi, q2⟩ => ?_)
  obtain ⟨ox, od, J, hd⟩ := StX.insC_at (X := X) I2 (.inr hi)
  rw [hks]
  have hl : 1 + us.length = ps.length := by
    have := F.len _ _ _ _ q2
    rw [← this, List.length_cons, r.length]; omega
  exact ⟨⟨C, ox, od, J, hd⟩, wpAny_call (PySem.W.kco_code I2.kIn J hd hM.at_ hM.fn hF (code_run (us := .ref a :: us) (vs := .ref a :: vs) F hr (hb 1 s2 [.ref a] us I2.kIn rfl hl) (passAt tk σ) I2 (.cons rfl r) q2))⟩
end
end Pl

namespace Pl
open PySem PySem.Spec PyProof.Rows L2 TL
/-- a global that is data -/
structure Cst (K : PySem.W.Frag) (mg : Str → Option Value) (nm : Str) (d : D) : Prop where
  ex : ∃ v u, mg nm = some u ∧ RelV v u ∧ ∀ F J, Rep K F J v d
theorem Cst.pe {X : Cx} {W : WX} {x : Str} {d : D} {pos : Pos} (c : Cst X.K X.mg x d) (hg : Gl X x := by rfl) (hd : (x == ("__debug__" : Str)) = false := by decide) : PE X (.Name x pos) (liftE X.K W (tC' d) 0) := by
  obtain ⟨v, u, hm, r, rd⟩ := c.ex
  exact qgl hm r rd hg hd
theorem cst_int {K : PySem.W.Frag} {mg : Str → Option Value} {nm : Str} {i : Int} {t : Tok} (h : mg nm = some (.int i t)) : Cst K mg nm (.int i) := ⟨.int i, _, h, ⟨_, rfl⟩, fun _ _ => .int⟩
theorem cst_str {K : PySem.W.Frag} {mg : Str → Option Value} {nm : Str} {x : Str} {t : Tok} (h : mg nm = some (.str x t)) : Cst K mg nm (.str (tl x)) := ⟨.str x, _, h, ⟨_, rfl⟩, fun _ _ => .str⟩
theorem zlook {f : Str} : ∀ {ns : List Str} {i : Nat} {α : Type} {ds : List α} {d : α}, ns[i]? = some f → (∀ j, j < i → ns[j]? ≠ some f) → ds[i]? = some d → (ns.zip ds).lookup f = some d
  | [], _, _, _, _, h, _, _ => by simp at h
  | _ :: _, _, _, [], _, _, _, h => by simp at h
  | n :: ns, 0, _, e :: ds, d, h, _, h2 => by
    simp at h h2
    subst h h2
    simp
  | n :: ns, i + 1, _, e :: ds, d, h, hn, h2 => by
    have h0 := hn 0 (Nat.succ_pos _)
    have hne : (f == n) = false := beq_eq_false_iff_ne.mpr fun z => h0 (by simp [z])
    rw [List.zip_cons_cons, List.lookup_cons, hne]
    exact zlook (by simpa using h) (fun j hj => by have := hn (j + 1) (Nat.succ_lt_succ hj); simpa using this) (by simpa using h2)
theorem zno {f : Str} : ∀ {ns : List Str} {α : Type} (ds : List α), ns.contains f = false → (ns.zip ds).lookup f = none
  | [], _, _, _ => rfl
  | _ :: _, _, [], _ => rfl
  | n :: ns, _, e :: ds, h => by
    rw [List.contains_cons, Bool.or_eq_false_iff] at h
    rw [List.zip_cons_cons, List.lookup_cons, h.1]
    exact zno ds h.2
/-- what a class of frozen objects must have -/
theorem fld_mk {K : PySem.W.Frag} {C : Addr} {ns : List Str} {f : Str} {i : Nat} (cl : Cls K C) (no : NoAttr K C f) (h : ns[i]? = some f ∧ ∀ j, j < i → ns[j]? ≠ some f) : Fld K C ns f i := ⟨cl, no, fun ds d e => zlook h.1 h.2 e⟩
theorem IsiG.of {K : PySem.W.Frag} {u : Value} {g g2 : D → Option Bool} (h : IsiG K u g) (e : ∀ d b, g2 d = some b → g d = some b) : IsiG K u g2 := fun {w S H v d b} hh q r => h hh (e d b q) r
def gStr : D → Option Bool
  | .non => some false
  | .bl _ => some false
  | .int _ => some false
  | .str _ => some true
  | .tup _ => some false
  | .lst _ => some false
  | .dic _ _ => some false
  | _ => none
theorem isi_str {K : PySem.W.Frag} : IsiG K (.type "str") gStr := IsiG.of (g := gTy ["str"]) (fun hh q r => isiTy (K := K) (T := "str") (cs := ["str"]) (by decide +kernel) hh q r) fun d b e => by
  cases d <;> simp only [gStr, gTy, Option.some.injEq, reduceCtorEq] at e ⊢ <;> subst e <;> decide
def gInt : D → Option Bool
  | .non => some false
  | .bl _ => some true
  | .int _ => some true
  | .str _ => some false
  | .tup _ => some false
  | .lst _ => some false
  | .dic _ _ => some false
  | _ => none
theorem isi_int {K : PySem.W.Frag} : IsiG K (.type "int") gInt := IsiG.of (g := gTy ["bool", "int"]) (fun hh q r => isiTy (K := K) (T := "int") (cs := ["bool", "int"]) (by decide +kernel) hh q r) fun d b e => by
  cases d <;> simp only [gInt, gTy, Option.some.injEq, reduceCtorEq] at e ⊢ <;> subst e <;> decide
def gBool : D → Option Bool
  | .non => some false
  | .bl _ => some true
  | .int _ => some false
  | .str _ => some false
  | .tup _ => some false
  | .lst _ => some false
  | .dic _ _ => some false
  | _ => none
theorem isi_bool {K : PySem.W.Frag} : IsiG K (.type "bool") gBool := IsiG.of (g := gTy ["bool"]) (fun hh q r => isiTy (K := K) (T := "bool") (cs := ["bool"]) (by decide +kernel) hh q r) fun d b e => by
  cases d <;> simp only [gBool, gTy, Option.some.injEq, reduceCtorEq] at e ⊢ <;> subst e <;> decide
def gTuple : D → Option Bool
  | .non => some false
  | .bl _ => some false
  | .int _ => some false
  | .str _ => some false
  | .tup _ => some true
  | .lst _ => some false
  | .dic _ _ => some false
  | _ => none
theorem isi_tuple {K : PySem.W.Frag} : IsiG K (.type "tuple") gTuple := IsiG.of (g := gTy ["tuple"]) (fun hh q r => isiTy (K := K) (T := "tuple") (cs := ["tuple"]) (by decide +kernel) hh q r) fun d b e => by
  cases d <;> simp only [gTuple, gTy, Option.some.injEq, reduceCtorEq] at e ⊢ <;> subst e <;> decide
def gList : D → Option Bool
  | .non => some false
  | .bl _ => some false
  | .int _ => some false
  | .str _ => some false
  | .tup _ => some false
  | .lst _ => some true
  | .dic _ _ => some false
  | _ => none
theorem isi_list {K : PySem.W.Frag} : IsiG K (.type "list") gList := IsiG.of (g := gTy ["list"]) (fun hh q r => isiTy (K := K) (T := "list") (cs := ["list"]) (by decide +kernel) hh q r) fun d b e => by
  cases d <;> simp only [gList, gTy, Option.some.injEq, reduceCtorEq] at e ⊢ <;> subst e <;> decide
/-- text.find(text) -/
def fFind : RM' := fun l us S Φ _ => match us with
  | [.d (.str b)] => Φ (.d (.int (Txt.find ⟨l.toArray⟩ ⟨b.toArray⟩))) S
  | _ => False
theorem findM {K : PySem.W.Frag} {W : WX} : MtL K W (fun x xs H Q => ∃ a b, x = .str a ∧ xs = [.str b] ∧ Q (.int (Txt.find a b)) H) fFind := by
  intro w S H σ env l vs us Φ Ψ Q hh r q c
  cases r with
  | nil => exact False.elim q
  | @cons v u vs us r rr =>
    cases rr with
    | cons _ _ => exact False.elim (by cases u <;> first | exact q | (rename_i d; cases d <;> exact q))
    | nil =>
      cases u with
      | r _ => exact False.elim q
      | tup _ => exact False.elim q
      | d y =>
        cases y <;> try exact False.elim q
        rename_i b
        have e := RepN.str (Rep.now hh.h (show Rep K w.F w.J v (.str b) from r))
        rw [e]
        exact ⟨_, _, rfl, rfl, c.here hh q .int⟩
end Pl

namespace Pl
open PySem PySem.Spec PyProof.Rows L2 TL
section
variable {g : TGt'} {tt : TT'} {te : TE'} {tb : TS'} {env : Env} {S : SS} {Φ : List D → SS → Prop} {De : End'}
theorem compD_inv (I : List D → List D → Prop) (fin : ∀ acc, I [] acc → Φ acc S) : ∀ (ds acc : List D), I ds acc →
    (∀ d rest acc, I (d :: rest) acc → (∀ acc1, I rest acc1 → compD g tt te rest env S acc1 Φ) → compD g tt te (d :: rest) env S acc Φ) → compD g tt te ds env S acc Φ
  | [], acc, h, _ => fin acc h
  | d :: rest, acc, h, st => st d rest acc h fun acc1 h1 => compD_inv I fin rest acc1 h1 st
theorem compD_map (f : D → D) : ∀ (ds acc : List D), (∀ d ∈ ds, ∀ rest acc, compD g tt te rest env S (acc ++ [f d]) Φ → compD g tt te (d :: rest) env S acc Φ) → Φ (acc ++ ds.map f) S → compD g tt te ds env S acc Φ
  | [], acc, _, h => by simpa [compD] using h
  | d :: rest, acc, st, h => st d (by simp) rest acc (compD_map f rest (acc ++ [f d]) (fun e he => st e (by simp [he])) (by simpa using h))
theorem compD_fm (f : D → Option D) : ∀ (ds acc : List D), (∀ d ∈ ds, ∀ rest acc, compD g tt te rest env S (acc ++ (f d).toList) Φ → compD g tt te (d :: rest) env S acc Φ) → Φ (acc ++ ds.filterMap f) S → compD g tt te ds env S acc Φ
  | [], acc, _, h => by simpa [compD] using h
  | d :: rest, acc, st, h => st d (by simp) rest acc (compD_fm f rest (acc ++ (f d).toList) (fun e he => st e (by simp [he])) (by
    cases q : f d <;> simpa [q, List.filterMap_cons] using h))
theorem compD_mapA {α : Type} (a f : α → D) : ∀ (l : List α) (acc : List D), (∀ x ∈ l, ∀ rest acc, compD g tt te rest env S (acc ++ [f x]) Φ → compD g tt te (a x :: rest) env S acc Φ) → Φ (acc ++ l.map f) S → compD g tt te (l.map a) env S acc Φ
  | [], acc, _, h => by simpa [compD] using h
  | d :: rest, acc, st, h => st d (by simp) _ acc (compD_mapA a f rest (acc ++ [f d]) (fun e he => st e (by simp [he])) (by simpa using h))
/-- every element has the property, one for each item -/
theorem compD_all (p : D → Prop) (hd : ∀ acc, acc.length = n → (∀ y ∈ acc, p y) → Φ acc S) : ∀ (ds acc : List D), acc.length + ds.length = n → (∀ y ∈ acc, p y) →
    (∀ d ∈ ds, ∀ rest acc, (∀ y, p y → compD g tt te rest env S (acc ++ [y]) Φ) → compD g tt te (d :: rest) env S acc Φ) → compD g tt te ds env S acc Φ
  | [], acc, hl, ha, _ => hd acc (by simpa using hl) ha
  | d :: rest, acc, hl, ha, st => st d (by simp) rest acc fun y hy => compD_all p hd rest (acc ++ [y]) (by simp at hl ⊢; omega) (fun z hz => by
    rcases List.mem_append.mp hz with q | q
    · exact ha z q
    · rw [List.mem_singleton.mp q]; exact hy) fun e he => st e (by simp [he])
theorem forD_inv {g : TGt'} {tb : TS'} (I : List D → Env → SS → Prop) (fin : ∀ env S, I [] env S → De.nx env S) : ∀ (ds : List D) (env : Env) (S : SS), I ds env S →
    (∀ d rest env S, I (d :: rest) env S → (∀ env1 S1, I rest env1 S1 → forD g tb De rest env1 S1) → forD g tb De (d :: rest) env S) → forD g tb De ds env S
  | [], env, S, h, _ => fin env S h
  | d :: rest, env, S, h, st => st d rest env S h fun env1 S1 h1 => forD_inv I fin rest env1 S1 h1 st
end
theorem itD {p : Prop} [Decidable p] {A B : Prop} (h : p) (a : A) : if decide p = true then A else B := by rw [if_pos (decide_eq_true h)]; exact a
theorem itN {p : Prop} [Decidable p] {A B : Prop} (h : ¬ p) (a : B) : if decide p = true then A else B := by rw [if_neg (by simpa using h)]; exact a
theorem itnD {p : Prop} [Decidable p] {A B : Prop} (h : p) (a : B) : if (!decide p) = true then A else B := by rw [if_neg (by simpa using h)]; exact a
theorem itnN {p : Prop} [Decidable p] {A B : Prop} (h : ¬ p) (a : A) : if (!decide p) = true then A else B := by rw [if_pos (by simpa using h)]; exact a
theorem joinL_nil : ∀ ls : List (List Nat), joinL [] ls = ls.flatten
  | [] => rfl
  | [l] => by simp [joinL]
  | l :: m :: ls => by
    have := joinL_nil (m :: ls)
    simp only [joinL] at this ⊢
    simp [this]
theorem asStrs_map {α : Type} (f : α → List Nat) : ∀ l : List α, asStrs (l.map fun a => .str (f a)) = some (l.map f)
  | [] => rfl
  | a :: l => by simp [asStrs, asStrs_map f l]
theorem asBl_map {α : Type} (f : α → Bool) : ∀ l : List α, asBl (l.map fun a => .bl (f a)) = some (l.map f)
  | [] => rfl
  | a :: l => by simp [asBl, asBl_map f l]
theorem atI_nat {α : Type} {l : List α} {i : Int} (h0 : 0 ≤ i) (h : i < l.length) : atI l i = some (l[i.toNat]'(by omega)) := by
  unfold atI ixN
  rw [if_pos h0, if_pos h]
  simp
theorem atI_mem {α : Type} {l : List α} {i : Int} (h0 : 0 ≤ i) (h : i < l.length) : ∃ x ∈ l, atI l i = some x := ⟨_, List.getElem_mem _, atI_nat h0 h⟩
theorem rangeD_len (lo : Int) (n : Nat) : (rangeD lo n).length = n := by simp [rangeD]
theorem cut_from {α : Type} (xs : List α) (n : Nat) : cut xs (some (n : Int)) none = xs.drop n := by
  unfold cut
  rw [HT.sIx_nat, HT.sIx_none]
  by_cases h : n ≤ xs.length
  · rw [Nat.min_eq_left h, List.take_of_length_le (by simp)]
  · rw [Nat.min_eq_right (by omega), List.drop_of_length_le (Nat.le_refl _), List.drop_of_length_le (by omega)]; simp
theorem cut_to {α : Type} (xs : List α) (n : Nat) : cut xs none (some (n : Int)) = xs.take n := by
  unfold cut
  rw [HT.sIx_nat, HT.sIx_none, List.drop_zero, Nat.sub_zero]
  by_cases h : n ≤ xs.length
  · rw [Nat.min_eq_left h]
  · rw [Nat.min_eq_right (by omega), List.take_of_length_le (Nat.le_refl _), List.take_of_length_le (by omega)]
theorem iteB {c : Bool} {A B : Prop} (h1 : c = true → A) (h2 : c = false → B) : if c = true then A else B := by
  cases c
  · exact h2 rfl
  · exact h1 rfl
theorem atI_get {α : Type} (l : List α) (n : Nat) : atI l (n : Int) = l[n]? := by
  by_cases h : n < l.length
  · rw [atI_nat (by omega) (by omega)]; simp [h]
  · unfold atI ixN
    rw [if_pos (by omega), if_neg (by omega), List.getElem?_eq_none (by omega)]; rfl
theorem atI0 {α : Type} {x : α} {l : List α} : atI (x :: l) 0 = some x := atI_get (x :: l) 0
theorem atI1 {α : Type} {x y : α} {l : List α} : atI (x :: y :: l) 1 = some y := atI_get (x :: y :: l) 1
theorem atI2 {α : Type} {x y z : α} {l : List α} : atI (x :: y :: z :: l) 2 = some z := atI_get (x :: y :: z :: l) 2
theorem ixAny {ds : List D} {r : Int} {p : D → Prop} (h0 : 0 ≤ r) (h1 : r < ds.length) (h : ∀ x ∈ ds, p x) : ∃ x, atI ds r = some x ∧ p x := by
  obtain ⟨x, hx, e⟩ := atI_mem h0 h1
  exact ⟨x, e, h x hx⟩
theorem chAny {l : List Nat} {r : Int} {p : Nat → Prop} (h0 : 0 ≤ r) (h1 : r < l.length) (h : ∀ x ∈ l, p x) : ∃ x, atI l r = some x ∧ p x := by
  obtain ⟨x, hx, e⟩ := atI_mem h0 h1
  exact ⟨x, e, h x hx⟩
end Pl

namespace Pl
open PySem PySem.Spec PyProof.Rows L2 TL
/-! ### equality of plain data -/
mutual
/-- n: how deep -/
def plD : Nat → D → Bool
  | _, .non => true | _, .bl _ => true | _, .int _ => true | _, .str l => PyData.strOk ⟨l.toArray⟩
  | n + 1, .tup ds => plDs n ds | n + 1, .lst ds => plDs n ds
  | _, _ => false
def plDs : Nat → List D → Bool
  | _, [] => true
  | n, d :: ds => plD n d && plDs n ds
end
mutual
def toPy : D → PyData
  | .bl b => .bool b | .int i => .int i | .str l => .str ⟨l.toArray⟩ | .tup ds => .tuple (toPys ds) | .lst ds => .list (toPys ds) | _ => .none
def toPys : List D → List PyData
  | [] => []
  | d :: ds => toPy d :: toPys ds
end
theorem toPys_len : ∀ ds : List D, (toPys ds).length = ds.length
  | [] => by simp [toPys]
  | d :: ds => by simp [toPys, toPys_len ds]
theorem toPys_get : ∀ (ds : List D) (i : Nat), (toPys ds)[i]? = (ds[i]?).map toPy
  | [], i => by simp [toPys]
  | d :: ds, 0 => by simp [toPys]
  | d :: ds, i + 1 => by simp [toPys, toPys_get ds i]
theorem plDs_mem : ∀ {n : Nat} {ds : List D}, plDs n ds = true → ∀ d ∈ ds, plD n d = true
  | n, e :: ds, h, d, hd => by
    simp only [plDs, Bool.and_eq_true] at h
    rcases List.mem_cons.mp hd with rfl | hd
    · exact h.1
    · exact plDs_mem h.2 d hd
theorem py_of : ∀ (n : Nat) (d : D), plD n d = true → Py d (toPy d)
  | n, .non, _ => by simp only [toPy]; exact .non
  | n, .bl b, _ => by simp only [toPy]; exact .bl
  | n, .int i, _ => by simp only [toPy]; exact .int
  | n, .str l, _ => by simp only [toPy]; exact .str
  | n + 1, .tup ds, h => by
    simp only [toPy]
    refine .tup (toPys_len ds).symm fun i d p hd hp => ?_
    rw [toPys_get, hd] at hp
    have : toPy d = p := by simpa using hp
    subst this
    exact py_of n d (plDs_mem (by simpa [plD] using h) d (List.mem_of_getElem? hd))
  | n + 1, .lst ds, h => by
    simp only [toPy]
    refine .lst (toPys_len ds).symm fun i d p hd hp => ?_
    rw [toPys_get, hd] at hp
    have : toPy d = p := by simpa using hp
    subst this
    exact py_of n d (plDs_mem (by simpa [plD] using h) d (List.mem_of_getElem? hd))
  | 0, .tup _, h => by simp [plD] at h
  | 0, .lst _, h => by simp [plD] at h
  | _, .obj .., h => by simp [plD] at h
  | _, .dic .., h => by simp [plD] at h
  | _, .scr .., h => by simp [plD] at h
  | _, .ty .., h => by simp [plD] at h
  | _, .cls .., h => by simp [plD] at h
  | _, .jar, h => by simp [plD] at h
  | _, .exn .., h => by simp [plD] at h
  | _, .err .., h => by simp [plD] at h
mutual
theorem sh_of : ∀ (n : Nat) (d : D), plD n d = true → (toPy d).canLay0 = true ∧ (toPy d).depth ≤ n
  | n, .non, _ => by simp [toPy, PyData.canLay0, PyData.depth]
  | n, .bl b, _ => by simp [toPy, PyData.canLay0, PyData.depth]
  | n, .int i, _ => by simp [toPy, PyData.canLay0, PyData.depth]
  | n, .str l, h => by simp only [plD] at h; simp [toPy, PyData.canLay0, PyData.depth, h]
  | n + 1, .tup ds, h => by
    simp only [plD] at h
    have q := shs_of n ds h
    simp only [toPy, PyData.canLay0, PyData.depth]
    exact ⟨q.1, by omega⟩
  | n + 1, .lst ds, h => by
    simp only [plD] at h
    have q := shs_of n ds h
    simp only [toPy, PyData.canLay0, PyData.depth]
    exact ⟨q.1, by omega⟩
  | 0, .tup _, h => by simp [plD] at h
  | 0, .lst _, h => by simp [plD] at h
  | _, .obj .., h => by simp [plD] at h
  | _, .dic .., h => by simp [plD] at h
  | _, .scr .., h => by simp [plD] at h
  | _, .ty .., h => by simp [plD] at h
  | _, .cls .., h => by simp [plD] at h
  | _, .jar, h => by simp [plD] at h
  | _, .exn .., h => by simp [plD] at h
  | _, .err .., h => by simp [plD] at h
theorem shs_of : ∀ (n : Nat) (ds : List D), plDs n ds = true → PyData.canLayAll0 (toPys ds) = true ∧ PyData.depthAll (toPys ds) ≤ n
  | n, [], _ => by simp [toPys, PyData.canLayAll0, PyData.depthAll]
  | n, d :: ds, h => by
    simp only [plDs, Bool.and_eq_true] at h
    have q1 := sh_of n d h.1
    have q2 := shs_of n ds h.2
    simp only [toPys, PyData.canLayAll0, PyData.depthAll, Bool.and_eq_true]
    exact ⟨⟨q1.1, q2.1⟩, Nat.max_le.mpr ⟨q1.2, q2.2⟩⟩
end
theorem eqD_of {n : Nat} {d e : D} {b : Bool} (hn : n ≤ 64) (h1 : plD n d = true) (h2 : plD n e = true) (h : PyData.eqv (toPy d) (toPy e) = b) : EqD d e b :=
  .inl ⟨_, _, py_of n d h1, py_of n e h2, by
    have := sh_of n d h1
    exact Bool.and_eq_true_iff.mpr ⟨this.1, decide_eq_true (by omega)⟩, by
    have := sh_of n e h2
    exact Bool.and_eq_true_iff.mpr ⟨this.1, decide_eq_true (by omega)⟩, h⟩
mutual
/-- no True where a number is meant, and so on: equal means the same -/
def noMx : D → D → Bool
  | .bl _, .int _ => false | .int _, .bl _ => false
  | .tup ds, .tup es => noMxs ds es | .lst ds, .lst es => noMxs ds es
  | _, _ => true
def noMxs : List D → List D → Bool
  | d :: ds, e :: es => noMx d e && noMxs ds es
  | _, _ => true
end
theorem eqD_same {n : Nat} {d : D} (hn : n ≤ 64) (h : plD n d = true) : EqD d d true := eqD_of hn h h (PySem.SeqAt.eqv_refl _ (sh_of n d h).1)
theorem eqD_R {n : Nat} {d e : D} {b : Bool} (h : EqR n d e b) (hn : n ≤ 60 := by decide) : EqD d e b := .inr (h.le hn)
theorem eqR_str (n : Nat) (a b : List Nat) : EqR n (.str a) (.str b) (decide (a = b)) := .sc rfl
theorem eqR_int (n : Nat) (a b : Int) : EqR n (.int a) (.int b) (decide (a = b)) := .sc (by simp [scEq]; rw [Bool.eq_iff_iff]; simp)
theorem eqR_bl (n : Nat) (a b : Bool) : EqR n (.bl a) (.bl b) (decide (a = b)) := .sc (by cases a <;> cases b <;> rfl)
theorem eqR_tupE (n : Nat) (ds : List D) : EqR (n + 1) (.tup ds) (.tup []) ds.isEmpty := by
  have := EqR.tup (n := n) (ds := ds) (es := []) (fun _ => true) (fun i x y _ h => by simp at h)
  cases ds <;> simpa using this
theorem eqR_tupE2 (n : Nat) (ds : List D) : EqR (n + 1) (.tup []) (.tup ds) ds.isEmpty := by
  have := EqR.tup (n := n) (ds := []) (es := ds) (fun _ => true) (fun i x y h _ => by simp at h)
  cases ds <;> simpa using this
theorem eqR_lstE (n : Nat) (ds : List D) : EqR (n + 1) (.lst ds) (.lst []) ds.isEmpty := by
  cases ds with
  | nil => simpa using EqR.lst (n := n) (ds := []) (es := []) (fun _ => true) rfl (fun i x y _ h => by simp at h)
  | cons d ds => exact .lstLen (by simp)
theorem eqR_lstE2 (n : Nat) (ds : List D) : EqR (n + 1) (.lst []) (.lst ds) ds.isEmpty := by
  cases ds with
  | nil => simpa using EqR.lst (n := n) (ds := []) (es := []) (fun _ => true) rfl (fun i x y _ h => by simp at h)
  | cons d ds => exact .lstLen (by simp)
theorem all_get {α : Type} [DecidableEq α] : ∀ (l m : List α), ((List.range (min l.length m.length)).all (fun i => decide (l[i]? = m[i]?)) && l.length == m.length) = decide (l = m) := fun l m => by
  rw [Bool.eq_iff_iff, Bool.and_eq_true, List.all_eq_true, decide_eq_true_eq, beq_iff_eq]
  constructor
  · rintro ⟨h1, h2⟩
    refine List.ext_getElem? fun i => ?_
    by_cases hi : i < l.length
    · exact of_decide_eq_true (h1 i (List.mem_range.mpr (by omega)))
    · rw [List.getElem?_eq_none (by omega), List.getElem?_eq_none (by omega)]
  · rintro rfl
    exact ⟨fun i _ => by simp, rfl⟩
/-- sequences of things that are told apart -/
theorem eqR_tupM {α : Type} [DecidableEq α] {n : Nat} (f : α → D) (l m : List α) (h : ∀ x ∈ l, ∀ y ∈ m, EqR n (f x) (f y) (decide (x = y))) : EqR (n + 1) (.tup (l.map f)) (.tup (m.map f)) (decide (l = m)) := by
  rw [← all_get l m]
  have := EqR.tup (n := n) (ds := l.map f) (es := m.map f) (fun i => decide (l[i]? = m[i]?)) (fun i x y hx hy => by
    rw [List.getElem?_map] at hx hy
    cases el : l[i]? with
    | none => rw [el] at hx; cases hx
    | some a =>
      cases em : m[i]? with
      | none => rw [em] at hy; cases hy
      | some b =>
        rw [el] at hx; rw [em] at hy
        cases hx; cases hy
        have := h a (List.mem_of_getElem? el) b (List.mem_of_getElem? em)
        simpa using this)
  simpa using this
theorem eqR_lstM {α : Type} [DecidableEq α] {n : Nat} (f : α → D) (l m : List α) (h : ∀ x ∈ l, ∀ y ∈ m, EqR n (f x) (f y) (decide (x = y))) : EqR (n + 1) (.lst (l.map f)) (.lst (m.map f)) (decide (l = m)) := by
  by_cases hl : l.length = m.length
  · rw [← all_get l m]
    have := EqR.lst (n := n) (ds := l.map f) (es := m.map f) (fun i => decide (l[i]? = m[i]?)) (by simpa using hl) (fun i x y hx hy => by
      rw [List.getElem?_map] at hx hy
      cases el : l[i]? with
      | none => rw [el] at hx; cases hx
      | some a =>
        cases em : m[i]? with
        | none => rw [em] at hy; cases hy
        | some b =>
          rw [el] at hx; rw [em] at hy
          cases hx; cases hy
          have := h a (List.mem_of_getElem? el) b (List.mem_of_getElem? em)
          simpa using this)
    rw [hl]
    simpa [hl] using this
  · have : decide (l = m) = false := decide_eq_false fun z => hl (by rw [z])
    rw [this]
    exact .lstLen (by simpa using hl)
end Pl

namespace Pl
open PySem PySem.Spec PyProof.Rows L2 TL
/-! ### what the top has written -/
theorem fkwb {K : PySem.W.Frag} {x qual : Str} {st : Stmt} {f : Addr} {fd : FuncData} {ps : List Str} (F : Fun K x qual st f fd)
    (h : ∀ (kV doc pm : Value) (an : Option Addr) (cdv ct : Value) (us ws : List Value), us.length + ws.length = ps.length → bindArgs (PySem.W.fnOf x qual (defArgs st) (defBody st) (defScope st) .none kV doc pm an cdv ct) ⟨us, (ps.drop us.length).zip ws⟩ = pure (ps.zip (us ++ ws))) : KwB K fd ps := by
  obtain ⟨oc, od, kV, doc, pm, an, cdv, ct, osl, rfl, lk, hcd⟩ := F.ex
  intro n s us ws X h1 h2
  subst h1
  exact .of_eq (h kV doc pm an cdv ct us ws h2)
theorem kwb_dflt {K : PySem.W.Frag} {x qual : Str} {st : Stmt} {T : Addr} {toc : Value} {tod : Option Addr} {its : Array Value} {tn : Nat} {tsl : Array (Option Value)} {kV doc pm : Value} {an : Option Addr} {cdv ct : Value} {ps : List Str} (lT : K.lookup T = some ⟨toc, tod, .seq its tn, tsl⟩)
    (h : ∀ (us ws : List Value), us.length + ws.length = ps.length → ∃ k, bindArgs (PySem.W.fnOf x qual (defArgs st) (defBody st) (defScope st) (.ref T) kV doc pm an cdv ct) ⟨us, (ps.drop us.length).zip ws⟩ = seqItems? (.ref T) >>= k ∧ k (some its) = pure (ps.zip (us ++ ws))) :
    KwB K (PySem.W.fnOf x qual (defArgs st) (defBody st) (defScope st) (.ref T) kV doc pm an cdv ct) ps := by
  intro n s us ws X h1 h2
  subst h1
  obtain ⟨k, e1, e2⟩ := h us ws h2
  refine BindsTo.of_looks fun M => ?_
  rw [e1]
  exact looks_items X lT rfl (.of_pure e2)
theorem dfl_mk {K : PySem.W.Frag} {x qual : Str} {st : Stmt} {T t0 : Addr} {toc : Value} {tod eod : Option Addr} {tn en : Nat} {tsl esl : Array (Option Value)} {kV doc pm : Value} {an : Option Addr} {cdv ct : Value} {ps : List Str} (lT : K.lookup T = some ⟨toc, tod, .seq #[.ref t0] tn, tsl⟩)
    (l0 : K.lookup t0 = some ⟨.type "tuple", eod, .seq #[] en, esl⟩) (hps : ps.length = 2) (h : ∀ v : Value, ∃ k, bindArgs (PySem.W.fnOf x qual (defArgs st) (defBody st) (defScope st) (.ref T) kV doc pm an cdv ct) ⟨[v], []⟩ = seqItems? (.ref T) >>= k ∧ k (some #[.ref t0]) = pure (ps.zip [v, .ref t0])) :
    Dfl K (PySem.W.fnOf x qual (defArgs st) (defBody st) (defScope st) (.ref T) kV doc pm an cdv ct) ps true := by
  refine ⟨t0, .inr ⟨_, #[], en, l0, rfl, rfl, by decide, .nil⟩, hps, fun s v X => ?_⟩
  obtain ⟨k, e1, e2⟩ := h v
  refine BindsTo.of_looks fun M => ?_
  rw [e1]
  exact looks_items X lT rfl (.of_pure e2)
/-- law, with its own place -/
theorem fnL {P : Program} {w : World} {K : PySem.W.Frag} {mg : Str → Option Value} {base : Heap} {nm : Str} {st : Stmt} {N ps : List Str} {l k : Nat} {sp : Sp'} {f : Addr} {fd : FuncData} (m : Nat) (Fu : Fun K nm nm st f fd) (S : FnScope N ps (defScope st)) (len : ∀ ds Φ Ψ, sp ds Φ Ψ → ds.length = ps.length)
    (h : ∃ (t : TS') (kb : Nat), Bod P w K mg base nm st N l t kb ∧ kb ≤ k ∧ ∀ ds Φ Ψ, sp ds Φ Ψ → t (endE Φ Ψ) (startE N ds) (List.replicate m none)) : FnOk P w K mg base (L2.CX P w) (l + 1) f fd ps (liftP K sp k) := by
  obtain ⟨t, kb, hb, hk, hv⟩ := h
  exact fn_ok Fu S len (hb f) hk hv
theorem ints_rep {K : PySem.W.Frag} {F : Hp} {J : Addr → Prop} : ∀ ns : List Int, Reps K F J (ns.map V.int) (ns.map D.int)
  | [] => .nil
  | _ :: ns => .cons .int (ints_rep ns)
/-- from a promise over data to the row's walk -/
theorem walkD {l : PySem.W.OpenLaw} {q : Program} {loose : List Str} {XP : (Str → Option Value) → Heap → Prop} {YP : World → Heap → Prop} {d : DefRec} {K : Params → PySem.W.Frag} {sp : Sp'} {k lv : Nat} (hn : l.most = some 63) (hdf : d.params.defaults = []) (hlv : Room lv callerA) (hk : k ≤ LIM)
    (hsp : ∀ ns : List Int, ns.length ≤ 63 → sp [.scr (ns.map .int)] (fun d => d = .bl true) (fun _ => False))
    (hY : ∀ (w : World) (h : Heap), YP w h → (K w.params).In h)
    (F : ∀ (w : World) (mg : Str → Option Value) (fa : Addr) (h : Heap), (K w.params).In h → h.Ns mainGlobals mg → mg d.name = some (.ref fa) →
      ∃ fd : FuncData, (∀ (s : Shared) (u : Value), BindsTo s fd ⟨[u], []⟩ [("script", u)]) ∧ ∀ base : Heap, (K w.params).In base → base.Ns mainGlobals mg → FnOk l.prog w (K w.params) mg base (L2.CX l.prog w) lv fa fd ["script"] (liftP (K w.params) sp k)) :
    PySem.W.WalkO q loose XP YP l.row.toRowW d [] (fun f vs => PySem.call f vs) :=
  L2.walk_of (n := 63) (k := lv) (x := "script") (CX := fun w => L2.CX l.prog w) (sp := fun w => liftP (K w.params) sp k) hn (by decide) hdf hlv hY F
    (fun w H a ns hl _ hS => ⟨H, fun _ => False, 0, [.scr (ns.map .int)], _, _, Same.refl _, fun _ h => h.elim, .cons (.scr hS (ints_rep ns)) .nil, by omega, hsp ns hl, fun d hd F1 J1 n1 v H1 A r => by
      subst hd; cases r; rfl, fun x hx => hx.elim⟩)
    fun _ _ _ _ _ h => by
      obtain ⟨_, _, _, _, _, _, _, _, _, _, _, _, z⟩ := h
      exact z.elim
end Pl

namespace Pl
open PySem PySem.Spec PyProof.Rows L2 TL
/-! ### operators that an own class defines, on objects that never change -/
abbrev E00 : XK := fun _ _ _ => False
theorem pass00 {X : Cx} {σ : L2.St} : PassesAt (L2.CX X.prog X.w) X σ E00 := fun _ _ _ _ _ _ h => by
  obtain ⟨_, _, _, _, _, _, _, _, _, _, _, _, z⟩ := h
  exact z.elim
section
variable {X : Cx} {W : WX} {C : Addr} {ns : List Str} {sp : Sp'} {m : Str} {ps : List Str} {lv k ka kb : Nat} {pos p : Pos} {a b e : Expr} {ta tb : TE'}
theorem insX {pins : List (Addr × Obj)} {σ : L2.St} {H : Hp} {s : Shared} {x dx : Addr} {fs : List (Str × V)} (I : Inv X pins σ H s) (h : H x = some (.ins C dx fs)) : ∃ ox od, PySem.W.InstAt s.heap x ox C od := by
  obtain ⟨ox, od, J, _⟩ := StX.insC_at (X := X) I (.inr ⟨_, _, h⟩)
  exact ⟨ox, od, J⟩
theorem call_meth {f : Addr} {fd : FuncData} {pins : List (Addr × Obj)} {σ : L2.St} {H : Hp} {s : Shared} {Q : VK} {us : List Value} {vs : List V} (F : FnOk X.prog X.w X.K X.mg X.base (L2.CX X.prog X.w) lv f fd ps (liftP X.K sp k)) (hr : Room lv X.A) (hb : KwB X.K fd ps) (I : Inv X pins σ H s) (r : Vals vs us)
    (h : liftP X.K sp k vs H Q E00) : wpAny (model X.prog X.w) X.A (call (.ref f) us) (EP X pins σ Q) X.xe s := wpAny_call (code_fn F hr hb.binds pass00 I r h)
/-- a + b -/
theorem op_addO (G : MFn X.prog X.w X.K X.mg X.base C "__add__" ps lv sp k) (sf : PySem.W.selfFirst X.K C = true) (hr : Room lv X.A) :
    OpR X (binaryOp .Add) (fun x y H Q => ∃ i j d1 f1 d2 f2, x = .ref i ∧ y = .ref j ∧ H i = some (.ins C d1 f1) ∧ H j = some (.ins C d2 f2) ∧ liftP X.K sp k [x, y] H Q E00) := by
  intro pins s σ H x y v u Q I rx ry ⟨i, j, d1, f1, d2, f2, e1, e2, h1, h2, h⟩
  subst e1 e2
  obtain rfl : v = Value.ref i := rx
  obtain rfl : u = Value.ref j := ry
  obtain ⟨f, fd, hM, hF, hb, F⟩ := G.ex
  obtain ⟨o1, g1, J1⟩ := insX I h1
  obtain ⟨o2, g2, J2⟩ := insX I h2
  have KI := I.kIn
  obtain ⟨cd, hcd, hmr⟩ := PySem.W.any_some sf
  have hmr2 : ∃ more, cd.mro = .ref C :: more := by
    cases z : cd.mro with
    | nil => rw [z] at hmr; cases hmr
    | cons c more =>
      rw [z, List.head?_cons] at hmr
      cases (beq_iff_eq.mp hmr)
      exact ⟨more, rfl⟩
  obtain ⟨more, hmr3⟩ := hmr2
  have body := call_meth (σ := σ) (us := [.ref i, .ref j]) (vs := [.ref i, .ref j]) F hr hb I (.cons rfl (.cons rfl .nil)) h
  have fill := PySem.W.fills_K (M := model X.prog X.w) (nm := Operator.Add.info.2) KI hcd hmr3 hM.at_
  unfold binaryOp binaryOp1
  refine wpAny_holding (wpAny_bind (wpAny_bind (J1.type.here (wpAny_bind (J2.type.here (wpAny_bind (fill.here ?_)))))))
  simp only [beq_self_eq_true, if_true]
  refine wpAny_bind (wpAny_pure ?_)
  simp only [Bool.and_false, Bool.false_and, Bool.false_eq_true, if_false]
  refine wpAny_bind (wpAny_pure ?_)
  simp only [if_false, Bool.false_eq_true]
  refine wpAny_bind ?_
  unfold tryMethod
  refine wpAny_bind (PySem.W.special_fn KI J1 hM.at_ (beq_iff_eq.mp hM.fn) (wpAny_mono body (fun r s1 hq => ?_) fun _ _ z => z))
  have hq' := hq
  obtain ⟨y, H1, I1, ry, q⟩ := hq
  cases r <;> first
    | exact wpAny_pure (wpAny_pure (wpAny_pure hq'))
    | (exfalso; cases y <;> first | (cases ry; done) | (obtain ⟨_, z⟩ := ry; cases z; done) | (obtain ⟨_, _, z⟩ := ry; cases z; done))
theorem rep00 {K : PySem.W.Frag} {w : Wd} {S : SS} {H : Hp} {σ : L2.St} {env : Env} {vs : List V} {ds : List D} {Φ : U → SS → Prop} {Ψ : XX} {Q : VK} (hh : Here K w S H σ env k) (r : Reps K w.F w.J vs ds) (q : sp ds (fun d => Φ (.d d) S) (fun _ => False)) (c : Co (RepU K) K W k w σ Φ Ψ Q) :
    liftP K sp k vs H Q E00 :=
  ⟨w.F, w.J, w.n, ds, _, _, hh.h.fz, fun a j => ⟨(hh.h.jr a j).1, (hh.h.jr a j).2.1⟩, r, hh.l, q, fun d qd F1 J1 n1 v H1 x rv => by
    obtain ⟨E, R⟩ := x.world hh.h
    exact c.ok _ S qd _ v H1 E (fun _ _ h => h) R rv, fun z qz => qz.elim⟩
def fAddO (C : Addr) (sp : Sp') : R2' := fun u z S Φ _ => match u, z with
  | .d (.obj C1 n1 ds), .d (.obj C2 n2 es) => (C1 = C ∧ C2 = C) ∧ sp [.obj C1 n1 ds, .obj C2 n2 es] (fun d => Φ (.d d) S) (fun _ => False)
  | _, _ => False
theorem addOL {K : PySem.W.Frag} : OpL K W (fun x y H Q => ∃ i j d1 f1 d2 f2, x = .ref i ∧ y = .ref j ∧ H i = some (.ins C d1 f1) ∧ H j = some (.ins C d2 f2) ∧ liftP K sp k [x, y] H Q E00) (fAddO C sp) k := by
  intro w S H σ env x y u z Φ Ψ Q hh r1 r2 q c
  cases u with
  | r _ => exact False.elim q
  | tup _ => exact False.elim q
  | d u =>
    cases u <;> try exact False.elim q
    cases z with
    | r _ => exact False.elim q
    | tup _ => exact False.elim q
    | d z =>
      cases z <;> try exact False.elim q
      obtain ⟨⟨rfl, rfl⟩, q⟩ := q
      have s1 : Rep K w.F w.J x (.obj _ _ _) := r1
      have s2 : Rep K w.F w.J y (.obj _ _ _) := r2
      cases id s1 with
      | obj e1 l1 _ =>
        cases id s2 with
        | obj e2 l2 _ => exact ⟨_, _, _, _, _, _, rfl, rfl, hh.h.fz _ _ e1, hh.h.fz _ _ e2, rep00 hh (.cons s1 (.cons s2 .nil)) q c⟩
theorem qaddO (G : MFn X.prog X.w X.K X.mg X.base C "__add__" ps lv sp k) (sf : PySem.W.selfFirst X.K C = true) (hr : Room lv X.A) (ha : PE X a (liftE X.K W ta ka)) (hb : PE X b (liftE X.K W tb kb)) :
    PE X (.BinOp a .Add b pos) (liftE X.K W (tOp' (fAddO C sp) ta tb) (ka + kb + k)) := q_op (op_addO G sf hr) addOL ha hb
/-- x in o, x not in o -/
theorem contains_own (G : MFn X.prog X.w X.K X.mg X.base C "__contains__" ps lv sp k) (hr : Room lv X.A) {pins : List (Addr × Obj)} {s : Shared} {σ : L2.St} {H : Hp} {x : V} {v : Value} {j d1 : Addr} {f1 : List (Str × V)} {Q : Bool → Shared → Prop} (I : Inv X pins σ H s) (rx : RelV x v) (hj : H j = some (.ins C d1 f1))
    (h : liftP X.K sp k [.ref j, x] H (fun z H1 => ∃ t, z = .bl t ∧ ∀ s1, Inv X pins σ H1 s1 → Q t s1) E00) : wpAny (model X.prog X.w) X.A (contains (.ref j) v) Q X.xe s := by
  obtain ⟨f, fd, hM, hF, hb, F⟩ := G.ex
  obtain ⟨o1, g1, J1⟩ := insX I hj
  have KI := I.kIn
  have body := call_meth (σ := σ) (us := [.ref j, v]) (vs := [.ref j, x]) F hr hb I (.cons rfl (.cons rx .nil)) h
  unfold contains
  refine wpAny_holding (wpAny_bind (wpAny_bind (J1.type.here ((PySem.W.looks_findIn KI hM.at_).here ?_))))
  rw [if_neg (by simp)]
  refine wpAny_bind (PySem.W.unlessNone_K KI J1 hM.at_ hM.fn (wpAny_mono body (fun r s1 hq => ?_) fun _ _ z => z))
  obtain ⟨y, H1, I1, ry, t, ey, q⟩ := hq
  subst ey
  obtain rfl : r = Value.bool t := ry
  exact wpAny_truthy_bool (q _ I1)
theorem op_inO (G : MFn X.prog X.w X.K X.mg X.base C "__contains__" ps lv sp k) (hr : Room lv X.A) :
    OpR X (compareOp .In) (fun x y H Q => ∃ j d1 f1, y = .ref j ∧ H j = some (.ins C d1 f1) ∧ liftP X.K sp k [y, x] H (fun z H1 => ∃ t, z = .bl t ∧ Q (.bl t) H1) E00) := by
  intro pins s σ H x y v u Q I rx ry ⟨j, d1, f1, e, hj, h⟩
  subst e
  obtain rfl : u = Value.ref j := ry
  refine wpAny_bind (contains_own G hr I rx hj ?_)
  obtain ⟨F, J, n, ds, Φ, Ψ, h1, h2, h3, h4, h5, h6, h7⟩ := h
  exact ⟨F, J, n, ds, Φ, Ψ, h1, h2, h3, h4, h5, fun d hd F1 J1 n1 v1 H1 A r => by
    obtain ⟨t, e, q⟩ := h6 d hd F1 J1 n1 v1 H1 A r
    exact ⟨t, e, fun s1 I1 => wpAny_pure ⟨.bl t, H1, I1, rfl, q⟩⟩, h7⟩
theorem op_niO (G : MFn X.prog X.w X.K X.mg X.base C "__contains__" ps lv sp k) (hr : Room lv X.A) :
    OpR X (compareOp .NotIn) (fun x y H Q => ∃ j d1 f1, y = .ref j ∧ H j = some (.ins C d1 f1) ∧ liftP X.K sp k [y, x] H (fun z H1 => ∃ t, z = .bl t ∧ Q (.bl (!t)) H1) E00) := by
  intro pins s σ H x y v u Q I rx ry ⟨j, d1, f1, e, hj, h⟩
  subst e
  obtain rfl : u = Value.ref j := ry
  refine wpAny_bind (contains_own G hr I rx hj ?_)
  obtain ⟨F, J, n, ds, Φ, Ψ, h1, h2, h3, h4, h5, h6, h7⟩ := h
  exact ⟨F, J, n, ds, Φ, Ψ, h1, h2, h3, h4, h5, fun d hd F1 J1 n1 v1 H1 A r => by
    obtain ⟨t, e, q⟩ := h6 d hd F1 J1 n1 v1 H1 A r
    exact ⟨t, e, fun s1 I1 => wpAny_pure ⟨.bl (!t), H1, I1, rfl, q⟩⟩, h7⟩
def fInO (C : Addr) (sp : Sp') (g : Bool → Bool) : R2' := fun u z S Φ _ => match u, z with
  | .d x, .d (.obj C2 n2 es) => C2 = C ∧ sp [.obj C2 n2 es, x] (fun d => match d with | .bl t => Φ (.d (.bl (g t))) S | _ => False) (fun _ => False)
  | _, _ => False
theorem inOL {K : PySem.W.Frag} {g : Bool → Bool} : OpL K W (fun x y H Q => ∃ j d1 f1, y = .ref j ∧ H j = some (.ins C d1 f1) ∧ liftP K sp k [y, x] H (fun z H1 => ∃ t, z = .bl t ∧ Q (.bl (g t)) H1) E00) (fInO C sp g) k := by
  intro w S H σ env x y u z Φ Ψ Q hh r1 r2 q c
  cases u with
  | r _ => exact False.elim q
  | tup _ => exact False.elim q
  | d u =>
    cases z with
    | r _ => exact False.elim q
    | tup _ => exact False.elim q
    | d z =>
      cases z <;> try exact False.elim q
      obtain ⟨rfl, q⟩ := q
      have s1 : Rep K w.F w.J x u := r1
      have s2 : Rep K w.F w.J y (.obj _ _ _) := r2
      cases id s2 with
      | obj e2 l2 _ =>
        refine ⟨_, _, _, rfl, hh.h.fz _ _ e2, w.F, w.J, w.n, _, _, _, hh.h.fz, fun a j => ⟨(hh.h.jr a j).1, (hh.h.jr a j).2.1⟩, .cons s2 (.cons s1 .nil), hh.l, q, fun d qd F1 J1 n1 v H1 x1 rv => ?_, fun z qz => qz.elim⟩
        obtain ⟨E, R⟩ := x1.world hh.h
        cases d <;> try exact False.elim qd
        cases rv
        exact ⟨_, rfl, c.ok _ S qd _ _ H1 E (fun _ _ h => h) R .bl⟩
end
end Pl

namespace Pl
open PySem PySem.Spec PyProof.Rows L2 TL
/-! ### min of a list of numbers: one of them -/
theorem int_at {ns : List Int} {its : List Value} (r : Vals (ns.map V.int) its) {i : Nat} {v : Value} (h : its[i]? = some v) : ∃ t, v = .int (ns.getD i 0) t ∧ i < ns.length := by
  have hl := r.length
  rw [List.length_map] at hl
  have hi : i < ns.length := by have := (List.getElem?_eq_some_iff.mp h).1; omega
  have e : (ns.map V.int)[i]? = some (.int ns[i]) := by simp [hi]
  obtain ⟨u, hu, ru⟩ := r.get e
  rw [h] at hu
  cases hu
  obtain ⟨t, rfl⟩ := ru
  exact ⟨t, by rw [List.getD_eq_getElem?_getD, List.getElem?_eq_getElem hi]; rfl, hi⟩
section
variable {X : Cx} {W : WX}
theorem call_minLs (hc : X.calm = true) : CallR X (.builtin "min") (fun xs H Q => ∃ (p : Addr) (ns : List Int), xs = [.ref p] ∧ SqL X.K H p (ns.map V.int) ∧ 0 < ns.length ∧ ∀ r ∈ ns, Q (.int r) H) := by
  intro pins s σ H xs us Q I r ⟨p, ns, e, hs, h0, q⟩
  subst e
  cases r with
  | cons r rr =>
    cases rr
    obtain rfl : _ = Value.ref p := r
    obtain ⟨its, rv, pl, hz⟩ := I.list hs
    have hl : its.length = ns.length := by have := rv.length; rw [List.length_map] at this; exact this.symm
    have hh := I.ok.hd hc
    have pl2 := pl.isList
    have hlt : p < s.heap.objs.size := by obtain ⟨_, e, _⟩ := pl2; exact Heap.lt_size e
    refine call_min_walk (wpAny_pyIter_list pl2 ?_)
    refine ⟨_, _, _, _, _, _, _, rfl, Walks.list (A := X.A.in1) (by simpa using hh) _ p (Nat.ne_of_lt hlt) its.toArray, ⟨⟨_, Heap.get?_push_size _ rfl, rfl, rfl⟩, pl2.push _⟩, fun b hb => ?_, by simp; omega,
      CmpOf.ints_lt (fun i => ns.getD i 0) (fun i v hv => ?_), fun v h' tk hP hk => ?_⟩
    · rw [Heap.size_push]
      simp only [List.mem_cons, List.not_mem_nil, or_false] at hb
      rcases hb with rfl | rfl
      · exact Nat.lt_succ_self _
      · exact Nat.lt_succ_of_lt hlt
    · obtain ⟨t, e, _⟩ := int_at rv (by simpa using hv)
      exact ⟨t, e⟩
    · obtain ⟨t, e, hi⟩ := int_at rv (by simpa using hP)
      subst e
      refine ⟨.int _, H, I.kept (t' := tk) (fun b o e => ?_), ⟨t, rfl⟩, q _ (by rw [List.getD_eq_getElem?_getD, List.getElem?_eq_getElem hi]; exact List.getElem_mem _)⟩
      exact hk b o (by simp only [List.mem_cons, List.not_mem_nil, or_false]; exact Nat.ne_of_lt (Heap.lt_size e)) (Heap.get?_push_of_some _ e)
def fMinL : D → SS → (U → SS → Prop) → Prop
  | .lst ds, S, Φ => ∃ ns : List Int, ds = ns.map .int ∧ 0 < ns.length ∧ ∀ r ∈ ns, Φ (.d (.int r)) S
  | _, _, _ => False
theorem ints_of {K : PySem.W.Frag} {F : Hp} {J : Addr → Prop} : ∀ {ns : List Int} {vs : List V}, Reps K F J vs (ns.map .int) → vs = ns.map V.int
  | [], _, .nil => rfl
  | n :: ns, _, .cons h r => by
    cases h
    rw [List.map_cons, ints_of r]
theorem minLL {K : PySem.W.Frag} : CalL K W (fun xs H Q => ∃ (p : Addr) (ns : List Int), xs = [.ref p] ∧ SqL K H p (ns.map V.int) ∧ 0 < ns.length ∧ ∀ r ∈ ns, Q (.int r) H) (a1 fMinL) 0 := by
  intro w S H σ env vs us Φ Ψ Q hh r1 q c
  obtain ⟨v, d, rfl, n1, q⟩ := a1_ok hh r1 q
  cases d <;> try exact False.elim q
  obtain ⟨p, vs, rfl, s1, rr⟩ := n1
  obtain ⟨ns, rfl, h0, q⟩ := q
  have e := ints_of rr
  subst e
  exact ⟨p, ns, rfl, SqL.of s1, h0, fun r hr => c.here hh (q r hr) .int⟩
end
end Pl

namespace Pl
open PySem PySem.Spec PyProof.Rows L2 TL
/-! ### raise -/
/-- an own error class without __init__ -/
structure XC0 (K : PySem.W.Frag) (mg : Str → Option Value) (nm : Str) (C : Addr) : Prop where
  q : PySem.W.excIn K C [.type "ValueError", .type "Exception", .type "BaseException", .type "object"] "ValueError.__new__" = true
  mg : mg nm = some (.ref C)
  kC : PySem.W.keepIn K (.ref C) = true
  ex : PySem.W.subIn K (.ref C) (.type "BaseException") = some true
  ty : PySem.W.typeIn K (.ref C) = some (.type "type")
section
variable {X : Cx} {W : WX} {C : Addr} {x f nm : Str} {p p2 pos pos' : Pos} {e : Expr} {te : TE'} {k ka lv : Nat}
theorem qraise0 {m : Str} {j : Nat} (T : XC0 X.K X.mg x C) (tk : Takes X W) (hc : X.calm = true := by rfl) (hg : Gl X x := by rfl) (hdb : (x == ("__debug__" : Str)) = false := by decide) :
    PS X (.Raise (some (.Call (.Name x p) [.Constant (.str m) j p2] [] pos)) none pos') (liftS X.K W (fun D env S => D.xx ⟨C, none⟩ env S) 0) :=
  PS.imp (ps_raise hc tk (pmk_own PySem.F.excBase_ValueError T.q T.mg T.kC (raises_own T.ex T.ty) hg hdb)) fun D σ H ⟨w, env, S, D', hr, hE, hl, q, c⟩ => c.xx _ env S q w σ H _ none (Ext.refl _ _) hr hE ⟨rfl, rfl⟩
/-- an own error class whose __init__ stores its one argument -/
structure XC1 (P : Program) (w : World) (K : PySem.W.Frag) (mg : Str → Option Value) (base : Heap) (nm : Str) (C : Addr) (f : Str) (lv : Nat) : Prop where
  T : OexC K C
  ex : ∃ fI fd ps, PySem.W.findIn K (.ref C) "__init__" = some (some (.ref fI)) ∧ PySem.W.typeIn K (.ref fI) = some (.type "function") ∧ KwB K fd ps ∧
    FnOk P w K mg base (L2.CX P w) lv fI fd ps (fun vs H Q _ => ∃ (a : Addr) (v : V), vs = [.ref a, v] ∧ H a = some (exo a C none) ∧ ∀ dx, H dx = none → dx ≠ a → Q .non (upd (upd H dx (exd dx [(f, v)])) a (exo a C (some dx))))
  mg : mg nm = some (.ref C)
theorem xinit {P : Program} {w : World} {K : PySem.W.Frag} {mg : Str → Option Value} {base : Heap} {st : Stmt} {qual n1 : Str} {fI : Addr} {fd : FuncData} {b1 b2 b3 b4 : Pos} (Fu : Fun K "__init__" qual st fI fd) (T : OexC K C) (no : PySem.W.findIn K (.ref C) f = some none) (S : FnScope [("self" : Str), n1] [("self" : Str), n1] (defScope st))
    (hb : ∀ (cdv : Value) (A : Around) (outer : List PySem.Env) (s : Shared) (H : Hp) (E : XK), PSs (cxOf (L2.CX P w) P w K mg base [("self" : Str), n1] qual (defScope st) fI cdv A outer s H E) (defBody st) (tOst K f (tVar 0) (tVar 1))) :
    FnOk P w K mg base (L2.CX P w) (0 + 1) fI fd [("self" : Str), n1] (fun vs H Q _ => ∃ (a : Addr) (v : V), vs = [.ref a, v] ∧ H a = some (exo a C none) ∧ ∀ dx, H dx = none → dx ≠ a → Q .non (upd (upd H dx (exd dx [(f, v)])) a (exo a C (some dx)))) := by
  refine Fun.okX Fu S (fun vs H Q E h => ?_) (fun cdv A outer s H vs Q E hr h => ?_)
  · obtain ⟨a, v, rfl, _⟩ := h; rfl
  · obtain ⟨a, v, rfl, h1, k⟩ := h
    refine ⟨_, hb cdv A outer s H E, ?_⟩
    exact ⟨v, rfl, .ref a, rfl, a, C, rfl, T, no, .inl ⟨h1, fun dx hd ne => k dx hd ne⟩⟩
def xx1 (C : Addr) (f : Str) (D : End') (env : Env) (us : List U) (S : SS) : Prop := match us with
  | [.d y] => D.xx ⟨C, some (f, y)⟩ env S
  | _ => False
theorem qraise1 (T : XC1 X.prog X.w X.K X.mg X.base x C f lv) (hr : Room (lv + 1) X.A) (tk : Takes X W) (he : PE X e (liftE X.K W te k)) (hc : X.calm = true := by rfl) (hg : Gl X x := by rfl) (hdb : (x == ("__debug__" : Str)) = false := by decide)
    (hst : starEach (e :: []) X.env = (false, eval e X.env) :: starEach [] X.env := by rfl) (hpl : (backTo pos (starEach [] X.env)).any (·.1) = false := by rfl) :
    PS X (.Raise (some (.Call (.Name x p) [e] [] pos)) none pos') (liftS X.K W (fun D env S => te env S (fun u S1 => xx1 C f D env [u] S1) (fun x S1 => D.xx x env S1)) (k + 0 + 0)) := by
  obtain ⟨fI, fd, ps, iC, tI, hb, F⟩ := T.ex
  have hx : Passes (L2.CX X.prog X.w) X (fun _ _ _ => False) := fun _ _ _ _ _ _ _ h => by
    obtain ⟨_, _, _, _, _, _, _, _, _, _, _, _, z⟩ := h
    exact z.elim
  refine PS.imp (ps_raise hc tk (pmk_oex T.T iC tI F hr hb.binds .nil hx hg T.mg (qa_cons he qa_nil hst) hdb hst hpl)) fun D σ H ⟨w, env, S, D', hr0, hE, hl, q, c⟩ => ?_
  refine ⟨w, env, S, (fun us S1 => xx1 C f D' env us S1), (fun z S1 => D'.xx z env S1), hr0, hE, hl, q, ⟨fun us S1 q1 w1 vs H1 x1 xa1 h1 r1 => ?_, fun z S1 q1 w1 C d H1 x1 xa1 h1 r1 => c.xx z env S1 q1 w1 σ H1 C d x1 h1 (hE.ext x1 xa1) r1⟩⟩
  cases r1 with
  | nil => exact False.elim q1
  | @cons v u vs us r1 rr =>
    cases rr with
    | cons _ _ => exact False.elim (by cases u <;> exact q1)
    | nil =>
      cases u with
      | r _ => exact False.elim q1
      | tup _ => exact False.elim q1
      | d y =>
        refine ⟨by simp, fun a ha => ⟨a, v, rfl, upd_same, fun dx hd ne => ⟨rfl, dx, [(f, v)], upd_same, by rw [upd_ne ne, upd_same], by rwa [upd_ne ne] at hd, ?_⟩⟩⟩
        have hdx : H1 dx = none := by rwa [upd_ne ne] at hd
        have eH : upd (del (upd (upd (upd H1 a (exo a C none)) dx (exd dx [(f, v)])) a (exo a C (some dx))) a) dx (.xd [(f, v)]) = upd H1 dx (.xd [(f, v)]) := by
          funext b
          by_cases z : b = dx
          · subst z; rw [upd_same, upd_same]
          · rw [upd_ne z, upd_ne z]
            by_cases z2 : b = a
            · subst z2; rw [del_same, ha]
            · rw [del_ne z2, upd_ne z2, upd_ne z, upd_ne z2]
        rw [eH]
        have fr := h1.free hdx
        have E1 : Ext 0 w1 (w1.add dx (.xd [(f, v)])) := Ext.add fr.1 fr.2.1
        have ry : Rep X.K w1.F w1.J v y := r1
        exact c.xx _ env S1 q1 _ σ _ _ (some dx) (x1.trans E1) (h1.add hdx) ((hE.ext x1 xa1).ext E1 ExtA.add) ⟨rfl, dx, v, rfl, upd_same, ry.ext E1⟩

theorem zip_look {K : PySem.W.Frag} {F : Hp} {J : Addr → Prop} {n : Str} {y : D} : ∀ {ns : List Str} {vs : List V} {ds : List D}, Reps K F J vs ds → ns.length = vs.length → (ns.zip ds).lookup n = some y → ∃ v, (ns.zip vs).lookup n = some v ∧ Rep K F J v y
  | [], _, _, _, _, h => by simp at h
  | m :: ns, _, _, .nil, l, _ => by cases l
  | m :: ns, _, _, .cons r rs, l, h => by
    simp only [List.zip_cons_cons, List.lookup_cons] at h ⊢
    cases e : n == m with
    | true => simp only [e] at h ⊢; cases h; exact ⟨_, rfl, r⟩
    | false => simp only [e] at h ⊢; exact zip_look rs (by simpa using l) h
/-! ### try: .. except C as e: .. (the error itself is not looked into) -/
theorem EnvR.clear {K : PySem.W.Frag} {w : Wd} {σ : L2.St} {env : Env} {i : Nat} {o : Option V} (h : EnvR K w σ env) : EnvR K w (σ.set i o) (env.set i none) := by
  refine ⟨by simpa using h.1, fun j z e => ?_⟩
  by_cases hj : j = i
  · subst hj
    by_cases hl : j < env.length
    · rw [List.getElem?_set_self hl] at e; cases e
    · rw [List.getElem?_eq_none (by simpa using hl)] at e; cases e
  · rw [List.getElem?_set_ne (Ne.symm hj)] at e
    obtain ⟨y, a, b⟩ := h.2 j z e
    exact ⟨y, by rw [List.getElem?_set_ne (Ne.symm hj)]; exact a, b⟩
def endAs (i : Nat) (D : End') : End' := { nx := fun env S => D.nx (env.set i none) S, rt := D.rt, bk := fun env S => D.bk (env.set i none) S, ct := fun env S => D.ct (env.set i none) S, xx := fun _ _ _ => False }
def heldAs (i : Nat) (ts : Addr → Addr → Option Addr → TS') (D : End') (z : Ex) (env : Env) (S : SS) : Prop := match z.f with
  | none => ∀ a, ts a z.C none (endAs i D) (env.set i (some (.d (.exn a none [] [])))) S
  | some (f, y) => ∀ a p, ts a z.C (some p) (endAs i D) (env.set i (some (.d (.exn a (some p) [f] [y])))) S
def tTryAs (exm : Addr → Bool → Prop) (i : Nat) (tb : TS') (ts : Addr → Addr → Option Addr → TS') : TS' := fun D env S => tb { D with xx := fun z env1 S1 => ∃ b, exm z.C b ∧ if b = true then heldAs i ts D z env1 S1 else D.xx z env1 S1 } env S
theorem qtryAs {n : Str} {c : Value} {i : Nat} {body suite : List Stmt} {b₀ : Stmt} {np : Pos} {tb : TS'} {ts : Addr → Addr → Option Addr → TS'} {kb ks : Nat} (K' : PySem.W.Frag) (hN : X.N.Nodup) (hm : X.mg x = some c) (tk : Takes X W)
    (hb : ∀ (W : WX) (pn : List (Addr × Obj)) (xe : Value → Shared → Prop), Takes (X.tr pn xe) W → PassesOwn (model X.prog X.w) X.A X.env xe → PSs (X.tr pn xe) body (liftS X.K W tb kb))
    (hsu : ∀ (a : Addr) (oe : Obj) (A : Addr) (d : Option Addr) (pn : List (Addr × Obj)), Zc (.ref A) d oe → (∃ vs, oe.data = .fields vs) → PSs (X.suite a ((a, oe) :: pn)) (b₀ :: suite) (liftS X.K W0 (ts a A d) ks))
    (hg : Gl X x := by rfl) (hdb : (x == ("__debug__" : Str)) = false := by decide) (hi : X.N[i]? = some n := by rfl) (hs : X.stack = X.env :: X.outer := by rfl) (hf : X.env.frame = some X.env.locals := by rfl) (hln : X.env.kindOf n = some .local := by rfl) (hK : X.K = K' := by rfl) :
    PS X (.Try body [.ExceptHandler (some (.Name x np)) (some n) (b₀ :: suite) pos'] [] [] pos) (liftS X.K W (tTryAs (fun A b => PySem.W.exmOne K' (.ref A) c = some b) i tb ts) (kb + ks)) := by
  subst hK
  refine PS.imp (ps_try_as (tb := fun W => liftS X.K W tb kb) (ts := fun a cls d => match cls with
    | .ref A => liftS X.K W0 (ts a A d) ks
    | _ => fun _ _ _ => False) hs hf hN hi hln ⟨hg, hdb, .inl hm⟩ tk hb fun a oe cls d pn hz hv => ?_) fun D σ H ⟨w, env, S, D', hr, hE, hl, q, cc⟩ => ?_
  · cases cls <;> first | exact hsu a oe _ d pn hz hv | exact ⟨fun _ _ _ _ _ _ h => False.elim h⟩
  · refine ⟨w, env, S, _, hr, hE, by omega, q, ⟨fun env1 S1 q1 w1 σ1 H1 X1 h1 e1 => cc.nx env1 S1 q1 w1 σ1 H1 (X1.le (by omega)) h1 e1, fun u S1 q1 w1 v H1 X1 h1 ru => cc.rt u S1 q1 w1 v H1 (X1.le (by omega)) h1 ru, fun env1 S1 q1 w1 σ1 H1 X1 h1 e1 => cc.bk env1 S1 q1 w1 σ1 H1 (X1.le (by omega)) h1 e1, fun env1 S1 q1 w1 σ1 H1 X1 h1 e1 => cc.ct env1 S1 q1 w1 σ1 H1 (X1.le (by omega)) h1 e1,
      fun z env1 S1 q1 w1 σ1 H1 C d X1 h1 e1 rx => ?_⟩⟩
    obtain ⟨b, eb, q2⟩ := q1
    have eC := rx.1
    subst eC
    refine ⟨b, eb, fun hb1 a ha => ?_, fun hb0 => ?_⟩
    · rw [if_pos hb1] at q2
      obtain ⟨y, ry, q2⟩ : ∃ y, RepU X.K w1 (.ref a) y ∧ ts a z.C d (endAs i D') (env1.set i (some y)) S1 := by
        have h2 := rx.2
        unfold heldAs at q2
        cases hz : z.f with
        | none =>
          rw [hz] at h2 q2
          rw [show d = none from h2]
          exact ⟨_, show RepU X.K w1 (.ref a) (.d _) from .exn0, q2 a⟩
        | some p =>
          obtain ⟨f, y⟩ := p
          rw [hz] at h2 q2
          obtain ⟨p1, v1, e5, e6, r6⟩ := h2
          rw [e5]
          exact ⟨_, show RepU X.K w1 (.ref a) (.d _) from .exn1 (ns := [f]) (vs := [v1]) e6 rfl (.cons r6 .nil), q2 a p1⟩
      refine ⟨w1, env1.set i (some y), S1, endAs i D', h1, e1.set ry, by have := X1.n; omega, q2, ⟨fun env2 S2 q3 w2 σ2 H2 X2 h2 e2 => cc.nx _ S2 q3 w2 _ H2 (X1.trans X2) h2 e2.clear, fun u S2 q3 w2 v H2 X2 h2 ru => cc.rt u S2 q3 w2 v H2 (X1.trans X2) h2 ru, fun env2 S2 q3 w2 σ2 H2 X2 h2 e2 => cc.bk _ S2 q3 w2 _ H2 (X1.trans X2) h2 e2.clear, fun env2 S2 q3 w2 σ2 H2 X2 h2 e2 => cc.ct _ S2 q3 w2 _ H2 (X1.trans X2) h2 e2.clear, fun _ _ _ q3 => False.elim q3⟩⟩
    · subst hb0
      exact cc.xx z env1 S1 (by simpa using q2) w1 σ1 H1 _ d (X1.le (by omega)) h1 e1 rx
/-- what an own error class must say of itself -/
structure ExQ (K : PySem.W.Frag) (D : Addr) : Prop where
  hcl : (PySem.W.clsIn K D).isSome = true
  hga : PySem.W.findIn K (.ref D) "__getattribute__" = some (some (.builtin "BaseException.__getattribute__"))
  hgt : PySem.W.findIn K (.ref D) "__getattr__" = some none
  hsub : PySem.W.subIn K (.ref D) (.type "BaseException") = some true
  hdd : PySem.W.hasDictIn K D = true
  hat : PySem.W.findIn K (.ref D) "__class__" = some (some (.builtin "object.__class__"))
  hsp : PySem.W.specialIn K (.builtin "object.__class__") "__get__" = some (some (.builtin "getset_descriptor.__get__"))
  htk : PySem.W.takesIn K (.builtin "object.__class__") = some true
  hmr : PySem.W.mroIn K D (.type "object") = some true
/-- isinstance(e, C), e the error that the clause holds -/
theorem call_isEd {a : Addr} {oe : Obj} {cls : Value} {d : Option Addr} {pn : List (Addr × Obj)} (hz : Zc cls d oe) (hf : ∃ vs, oe.data = .fields vs) : CallR (X.suite a ((a, oe) :: pn)) (.builtin "isinstance")
    (fun xs H Q => ∃ (D : Addr) (cv : V) (u : Value) (b : Bool), xs = [.ref a, cv] ∧ cls = .ref D ∧ ExQ X.K D ∧ (∀ p, d = some p → ∃ fs, H p = some (.xd fs)) ∧ (∀ y, RelV cv y → y = u) ∧ PySem.W.kitOne X.K (.ref D) u = some b ∧ Q (.bl b) H) := by
  intro pins s σ H xs us Q I r h
  obtain ⟨D, cv, u, b, rfl, rfl, T, hd, hcv, kb, q⟩ := h
  cases r with
  | cons r1 rr =>
    cases rr with
    | cons r2 rr =>
      cases rr
      cases r1
      obtain rfl := hcv _ r2
      obtain ⟨hget, _⟩ := I.pin (a, oe) (List.mem_append.mpr (.inl List.mem_cons_self))
      obtain ⟨vs, hv⟩ := hf
      have nc : PySem.W.notCls oe := by unfold PySem.W.notCls; rw [hv] <;> rfl
      have main : ∀ od, PySem.W.InstAt s.heap a oe D od → wpAny (model X.prog X.w) (X.suite a ((a, oe) :: pn)).A (call (.builtin "isinstance") [.ref a, _]) (EP (X.suite a ((a, oe) :: pn)) pins σ Q) (X.suite a ((a, oe) :: pn)).xe s := fun od J =>
        PySem.W.kia_one (PySem.W.kitx_exc T.hcl T.hga T.hgt T.hsub T.hat T.hsp T.htk T.hmr) I.kIn J kb (fun z => nomatch z) fun tk => ⟨.bl b, H, I.kept (t' := tk) fun _ _ z => z, rfl, q⟩
      cases ed : d with
      | none => exact main none ⟨hget, hz.1, nc, by rw [hz.2, ed]; trivial⟩
      | some p =>
        obtain ⟨fs, e⟩ := hd p ed
        obtain ⟨mA, hns, _⟩ := I.hok p _ e
        obtain ⟨od, ho, _⟩ := lookIn_ns hns
        exact main (some od) ⟨hget, hz.1, nc, by rw [hz.2, ed]; exact ho⟩
theorem qisE {a A : Addr} {oe : Obj} {d : Option Addr} {pn : List (Addr × Obj)} {n2 : Str} {q2 q3 : Pos} {u : Value} {cv : V} {ea : Expr} {ta : TE'} {k : Nat} (K' : PySem.W.Frag) (hz : Zc (.ref A) d oe) (hf : ∃ vs, oe.data = .fields vs) (hcl : ClsV cv u) (hm : X.mg ("isinstance" : Str) = none)
    (ha : PE (X.suite a ((a, oe) :: pn)) ea (liftE X.K W ta k)) (hb : PE (X.suite a ((a, oe) :: pn)) (.Name n2 q2) (tC cv)) (hG : Gl (X.suite a ((a, oe) :: pn)) ("isinstance" : Str) := by rfl)
    (he : starEach (ea :: .Name n2 q2 :: []) (X.suite a ((a, oe) :: pn)).env = (false, eval ea (X.suite a ((a, oe) :: pn)).env) :: starEach [.Name n2 q2] (X.suite a ((a, oe) :: pn)).env := by rfl)
    (he2 : starEach (.Name n2 q2 :: []) (X.suite a ((a, oe) :: pn)).env = (false, eval (.Name n2 q2) (X.suite a ((a, oe) :: pn)).env) :: starEach [] (X.suite a ((a, oe) :: pn)).env := by rfl) (hpl : (backTo pos (starEach [.Name n2 q2] (X.suite a ((a, oe) :: pn)).env)).any (·.1) = false := by rfl) (hK : X.K = K' := by rfl) :
    PE (X.suite a ((a, oe) :: pn)) (.Call (.Name ("isinstance" : Str) q3) [ea, .Name n2 q2] [] pos) (liftE X.K W (fun env S Φ Ψ => ta env S (fun z S1 => match z with
      | .d (.exn a1 d1 _ _) => (a1 = a ∧ d1 = d ∧ ExQ K' A) ∧ ∃ b, PySem.W.kitOne K' (.ref A) u = some b ∧ Φ (.d (.bl b)) S1
      | _ => False) Ψ) (k + 0)) := by
  subst hK
  refine PE.imp (pe_callB (call_isEd hz hf) hG hm (by decide +kernel) (pa_cons ha (pa_cons hb pa_nil he2) he) (by decide +kernel) (by decide +kernel) he hpl) fun σ H Q ⟨w, env, S, Φ, Ψ, hr, hE, hl, t, c⟩ => ?_
  refine ⟨w, env, S, _, Ψ, hr, hE, by omega, t, ⟨fun z S1 q1 w1 v H1 x xa hr1 rv => ?_, fun e S1 q1 w1 C dd H1 x xa hr1 r => c.xx e S1 q1 w1 C dd H1 x xa hr1 r⟩⟩
  cases z with
  | r _ => exact q1.elim
  | tup _ => exact q1.elim
  | d y =>
    cases y <;> try exact q1.elim
    obtain ⟨⟨rfl, rfl, T⟩, b, kb, q⟩ := q1
    have rv' : Rep X.K w1.F w1.J v (.exn _ _ _ _) := rv
    refine ⟨A, cv, u, b, ?_, rfl, T, ?_, fun w1 r1 => ClsV.eq hcl r1, kb, c.ok _ S1 q w1 _ H1 x xa hr1 .bl⟩
    · cases rv' <;> rfl
    · intro p ep
      cases rv' with
      | exn0 => cases ep
      | exn1 e1 l r => cases ep; exact ⟨_, hr1.fz _ _ e1⟩
/-- e.f, e the error that the clause holds -/
theorem qfldE {a A C : Addr} {oe : Obj} {d : Option Addr} {pn : List (Addr × Obj)} {n : Str} {o : Expr} {ta : TE'} {k : Nat} (K' : PySem.W.Frag) (T : XfC X.K C) (hno : PySem.W.findIn X.K (.ref C) n = some none) (hz : Zc (.ref A) d oe) (hf : ∃ vs, oe.data = .fields vs)
    (he : PE (X.suite a ((a, oe) :: pn)) o (liftE X.K W ta k)) (hb : attributeBase o n X.env (eval o X.env) = eval o X.env := by rfl) :
    PE (X.suite a ((a, oe) :: pn)) (.Attribute o n pos) (liftE X.K W (fun env S Φ Ψ => ta env S (fun z S1 => match z with
      | .d (.exn a1 d1 ns ds) => (a1 = a ∧ d1 = d ∧ A = C) ∧ ∃ y, (ns.zip ds).lookup n = some y ∧ Φ (.d y) S1
      | _ => False) Ψ) (k + 0)) := by
  refine PE.imp (pe_xf T hno hz hf he hb) fun σ H Q ⟨w, env, S, Φ, Ψ, hr, hE, hl, t, c⟩ => ?_
  refine ⟨w, env, S, _, Ψ, hr, hE, by omega, t, ⟨fun z S1 q1 w1 v H1 x xa hr1 rv => ?_, fun e S1 q1 w1 C dd H1 x xa hr1 r => c.xx e S1 q1 w1 C dd H1 x xa hr1 r⟩⟩
  cases z with
  | r _ => exact q1.elim
  | tup _ => exact q1.elim
  | d y =>
    cases y <;> try exact q1.elim
    obtain ⟨⟨rfl, rfl, rfl⟩, y, hy, q⟩ := q1
    have rv' : Rep X.K w1.F w1.J v (.exn _ _ _ _) := rv
    cases rv' with
    | exn0 => cases hy
    | @exn1 _ p ns vs ds e1 l r =>
      obtain ⟨v2, hv2, r2⟩ := zip_look r l hy
      exact ⟨rfl, rfl, p, _, v2, rfl, hr1.fz _ _ e1, hv2, c.ok _ S1 q w1 _ H1 x xa hr1 r2⟩
end
end Pl

namespace Pl
open PySem PySem.Spec PyProof.Rows L2 TL
section
variable {X : Cx} {W : WX}
/-! ### try: .. except C: .. -/
def tTryOnly (exm : Addr → Bool → Prop) (tb ts : TS') : TS' := fun D env S => tb { D with xx := fun z env1 S1 => ∃ b, exm z.C b ∧ if b = true then ts { D with xx := fun _ _ _ => False } env1 S1 else D.xx z env1 S1 } env S
theorem qtryOnly {x : Str} {c : Value} {body suite : List Stmt} {b₀ : Stmt} {np pos pos' : Pos} {tb ts : TS'} {kb ks : Nat} (K' : PySem.W.Frag) (hm : X.mg x = some c) (tk : Takes X W)
    (hb : ∀ (W : WX) (pn : List (Addr × Obj)) (xe : Value → Shared → Prop), Takes (X.tr pn xe) W → PassesOwn (model X.prog X.w) X.A X.env xe → PSs (X.tr pn xe) body (liftS X.K W tb kb))
    (hsu : ∀ (a : Addr) (oe : Obj) (pn : List (Addr × Obj)), (∃ vs, oe.data = .fields vs) → PSs (X.suite a ((a, oe) :: pn)) (b₀ :: suite) (liftS X.K W0 ts ks))
    (hg : Gl X x := by rfl) (hdb : (x == ("__debug__" : Str)) = false := by decide) (hs : X.stack = X.env :: X.outer := by rfl) (hf : X.env.frame = some X.env.locals := by rfl) (hK : X.K = K' := by rfl) :
    PS X (.Try body [.ExceptHandler (some (.Name x np)) none (b₀ :: suite) pos'] [] [] pos) (liftS X.K W (tTryOnly (fun A b => PySem.W.exmOne K' (.ref A) c = some b) tb ts) (kb + ks)) := by
  subst hK
  refine PS.imp (ps_try_only (tb := fun W => liftS X.K W tb kb) (ts := fun _ _ _ => liftS X.K W0 ts ks) hs hf ⟨hg, hdb, .inl hm⟩ tk hb fun a oe cls d pn hz hv => hsu a oe pn hv) fun D σ H ⟨w, env, S, D', hr, hE, hl, q, cc⟩ => ?_
  refine ⟨w, env, S, _, hr, hE, by omega, q, ⟨fun env1 S1 q1 w1 σ1 H1 X1 h1 e1 => cc.nx env1 S1 q1 w1 σ1 H1 (X1.le (by omega)) h1 e1, fun u S1 q1 w1 v H1 X1 h1 ru => cc.rt u S1 q1 w1 v H1 (X1.le (by omega)) h1 ru, fun env1 S1 q1 w1 σ1 H1 X1 h1 e1 => cc.bk env1 S1 q1 w1 σ1 H1 (X1.le (by omega)) h1 e1, fun env1 S1 q1 w1 σ1 H1 X1 h1 e1 => cc.ct env1 S1 q1 w1 σ1 H1 (X1.le (by omega)) h1 e1,
    fun z env1 S1 q1 w1 σ1 H1 C d X1 h1 e1 rx => ?_⟩⟩
  obtain ⟨b, eb, q2⟩ := q1
  have eC := rx.1
  subst eC
  refine ⟨b, eb, fun hb1 a ha => ?_, fun hb0 => ?_⟩
  · rw [if_pos hb1] at q2
    exact ⟨w1, env1, S1, _, h1, e1, by have := X1.n; omega, q2, ⟨fun env2 S2 q3 w2 σ2 H2 X2 h2 e2 => cc.nx _ S2 q3 w2 _ H2 (X1.trans X2) h2 e2, fun u S2 q3 w2 v H2 X2 h2 ru => cc.rt u S2 q3 w2 v H2 (X1.trans X2) h2 ru, fun env2 S2 q3 w2 σ2 H2 X2 h2 e2 => cc.bk _ S2 q3 w2 _ H2 (X1.trans X2) h2 e2, fun env2 S2 q3 w2 σ2 H2 X2 h2 e2 => cc.ct _ S2 q3 w2 _ H2 (X1.trans X2) h2 e2, fun _ _ _ q3 => False.elim q3⟩⟩
  · subst hb0
    exact cc.xx z env1 S1 (by simpa using q2) w1 σ1 H1 _ d (X1.le (by omega)) h1 e1 rx
end
end Pl

namespace Pl
open PySem PySem.Spec PyProof.Rows L2 TL
section
variable {X : Cx} {W : WX} {e : Expr} {ta : TE'} {ka : Nat}
/-! ### xs[::-1] -/
theorem Reps.rev {K : PySem.W.Frag} {F : Hp} {J : Addr → Prop} : ∀ {vs : List V} {ds : List D}, Reps K F J vs ds → Reps K F J vs.reverse ds.reverse
  | _, _, .nil => .nil
  | _, _, .cons h r => by
    rw [List.reverse_cons, List.reverse_cons]
    exact (Reps.rev r).app (.cons h .nil)
def fRev (kind : Option Nat) : D → SS → (U → SS → Prop) → Prop
  | .lst ds, S, Φ => mk kind ds.reverse S Φ
  | _, _, _ => False
theorem qrevL {kind : Option Nat} {k : Nat} {p1 p2 p3 pos : Pos} (he : PE X e (liftE X.K W ta ka)) : PE X (.Subscript e (.Slice none none (some (.UnaryOp .USub (.Constant (.int 1) k p1) p2)) p3) pos) (liftE X.K W (tUn' (rd1 (fRev kind)) ta) (ka + 0)) := by
  refine PE.imp (pe_revL he) fun σ H Q h => un_lift (r := fun x H Q => ∃ a xs, x = .ref a ∧ SqL X.K H a xs ∧ ∀ p, H p = none → Q (.ref p) (upd H p (.lst xs.reverse))) (fun {w S H σ env x u Φ Ψ Q} hh r1 q c => ?_) h
  obtain ⟨d, n1, q⟩ := rd1_ok hh r1 q
  cases d <;> try exact False.elim q
  obtain ⟨p, vs, rfl, s1, rr⟩ := n1
  exact ⟨p, vs, rfl, SqL.of s1, fun a ha => coMk c hh ha rr.rev q⟩
end
/-- what an own error class tells a clause -/
theorem exm_of {K : PySem.W.Frag} {C : Addr} {cls : Value} {b : Bool} (h1 : PySem.W.subIn K (.ref C) (.type "BaseException") = some true) (hdct : PySem.W.hasDictIn K C = true) (ht : PySem.W.typeIn K (.ref C) = some (.type "type")) (h4 : PySem.W.subIn K cls (.ref C) = some b) : PySem.W.exmOne K cls (.ref C) = some b := PySem.W.exm_ref h1 hdct ht h4
end Pl

namespace Pl
open PySem PySem.Spec PyProof.Rows L2 TL
/-! ### calls that are lent lists under construction: they only look, and return flat data -/
def lendAll : List U → SS → Option (List D)
  | [], _ => some []
  | u :: us, S => match rd u S, lendAll us S with
    | some d, some ds => some (d :: ds)
    | _, _ => none
noncomputable def lentF (w : Wd) (H : Hp) : Hp := fun b => open Classical in if w.J b then none else H b
section
variable {K : PySem.W.Frag} {W : WX} {w : Wd} {S : SS} {H : Hp} {σ : L2.St} {env : Env} {k : Nat} {sp : Sp'}
theorem lent_same (h : HRel K w S H) : Same w.F (lentF w H) := fun b o e => by
  have nj : ¬ w.J b := fun j => by
    have := (h.jr b j).2.1
    rw [e] at this; cases this
  show (open Classical in if w.J b then none else H b) = some o
  rw [if_neg nj]; exact h.fz b o e
theorem lent_rep (h : HRel K w S H) {v : V} {u : U} {d : D} (r : RepU K w v u) (e : rd u S = some d) : Rep K (lentF w H) w.J v d := by
  cases u with
  | d x =>
    have : x = d := by simpa [rd] using e
    subst this
    exact Rep.mono (lent_same h) (fun _ z => z) r
  | r i =>
    obtain ⟨a, ha, rfl⟩ := r
    cases q : S[i]? with
    | none => simp [rd, q] at e
    | some o =>
      cases o with
      | none => simp [rd, q] at e
      | some m =>
        obtain ⟨b, hb, ⟨ho, e1, rr⟩, n1, n2, n3⟩ := h.live i m q
        rw [ha] at hb; cases hb
        have ef : lentF w H a = some ho := by
          show (open Classical in if w.J a then none else H a) = some ho
          rw [if_neg n3]; exact e1
        simp only [rd, q] at e
        cases m with
        | lst ds => cases e; obtain ⟨vs, rfl, rr⟩ := rr; exact .lst ef (Reps.mono (lent_same h) (fun _ z => z) rr)
        | dic ks ds => cases e; obtain ⟨vs, rfl, l, rr⟩ := rr; exact .dic ef l (Reps.mono (lent_same h) (fun _ z => z) rr)
        | ins C ns us => cases e
        | lsu us => cases e
  | tup us => simp [rd] at e
theorem lent_reps (h : HRel K w S H) : ∀ {vs : List V} {us : List U} {ds : List D}, RepUs K w vs us → lendAll us S = some ds → Reps K (lentF w H) w.J vs ds
  | _, _, ds, .nil, e => by
    have : ds = [] := by simpa [lendAll] using e.symm
    subst this; exact .nil
  | _, u :: us, ds, .cons r rr, e => by
    unfold lendAll at e
    split at e
    · rename_i d1 ds1 e1 e2
      cases e
      exact .cons (lent_rep h r e1) (lent_reps h rr e2)
    · cases e
theorem flat_any {F F' : Hp} {J J' : Addr → Prop} {v : V} {d : D} (f : flatD d = true) (r : Rep K F J v d) : Rep K F' J' v d := by
  cases d <;> first | (exact (Bool.false_ne_true f).elim) | (cases r; constructor)
/-- the world behind such a call -/
theorem lent_world {F1 : Hp} {J1 : Addr → Prop} {n1 : Nat} {H1 : Hp} (h : HRel K w S H) (x : After (lentF w H) w.J w.n k H F1 J1 n1 H1) : Ext k w { w with n := n1 } ∧ HRel K { w with n := n1 } S H1 := by
  have E : Ext k w { w with n := n1 } := ⟨Same.refl _, fun _ z => z, rfl, x.sn, fun _ _ z => .inl z, rfl, fun _ _ z => z⟩
  refine ⟨E, ⟨fun a o e => x.fz a o (x.sF a o (lent_same h a o e)), fun a o e => x.fr a o (h.fr a o e) fun j => ?_, fun a j => ⟨(x.jr a (x.sJ a j)).1, (h.jr a j).2⟩, h.len, h.dead, fun i m e => ?_, h.inj, h.pin⟩⟩
  · have q := (h.jr a j).2.2
    rw [e] at q; cases q
  · obtain ⟨a, ea, ⟨ho, e1, r⟩, n1', n2, n3⟩ := h.live i m e
    exact ⟨a, ea, ⟨ho, x.fr a ho e1 n3, r.ext E fun _ _ h => h⟩, n1', n2, n3⟩
theorem lend_call {vs : List V} {ds : List D} {Φ : U → SS → Prop} {Ψ : XX} {Q : VK} (hh : Here K w S H σ env k) (r : Reps K (lentF w H) w.J vs ds) (q : sp ds (fun d => flatD d = true ∧ Φ (.d d) S) (fun _ => False)) (c : Co (RepU K) K W k w σ Φ Ψ Q) :
    liftP K sp k vs H Q (WE W σ) := by
  refine ⟨lentF w H, w.J, w.n, ds, _, _, fun a o e => ?_, fun a j => ⟨(hh.h.jr a j).1, if_pos j⟩, r, hh.l, q, fun d qd F1 J1 n1 v H1 x rv => ?_, fun z qz => qz.elim⟩
  · have e' : (open Classical in if w.J a then none else H a) = some o := e
    by_cases z : w.J a
    · rw [if_pos z] at e'; cases e'
    · rw [if_neg z] at e'; exact e'
  · obtain ⟨E, R⟩ := lent_world hh.h x
    exact c.ok _ S qd.2 _ v H1 E (fun _ _ h => h) R (flat_any qd.1 rv)
end
def tLend' (sp : Sp') (ta : TA') : TE' := fun env S Φ Ψ => ta env S (fun us S1 => match lendAll us S1 with
  | some ds => sp ds (fun d => flatD d = true ∧ Φ (.d d) S1) (fun _ => False)
  | none => False) Ψ
theorem qcallL {X : Cx} {W : WX} {lv k ka : Nat} {ps : List Str} {sp : Sp'} {x : Str} {p pos : Pos} {e : Expr} {es : List Expr} {ta : TA'} (G : Fn X.prog X.w X.K X.mg X.base x ps lv sp k) (hr : Room lv X.A) (tk : Takes X W) (ha : PA X (e :: es) (liftA X.K W ta ka)) (hg : Gl X x := by rfl)
    (hdb : (x == ("__debug__" : Str)) = false := by decide) (he : starEach (e :: es) X.env = (false, eval e X.env) :: starEach es X.env := by rfl) (hpl : (backTo pos (starEach es X.env)).any (·.1) = false := by rfl) :
    PE X (.Call (.Name x p) (e :: es) [] pos) (liftE X.K W (tLend' sp ta) (ka + k)) := by
  obtain ⟨f, fd, hm, hk, hb, G⟩ := G.ex
  refine PE.imp (pe_callSD (E := WE W) G hr hg hm hk hb.binds .nil (fun σ => passAt tk σ) ha hdb he hpl) fun σ H Q h => lift_mono (lift_bind (Rp := RepUs X.K) (g := fun us _ S Φ Ψ => match lendAll us S with
    | some ds => sp ds (fun d => flatD d = true ∧ Φ (U.d d) S) (fun _ => False)
    | none => False) h) fun vs H1 ⟨w, us, env, S, Φ, Ψ, hh, r, q, c⟩ => ?_
  cases e : lendAll us S with
  | none => simp only [e] at q
  | some ds =>
    simp only [e] at q
    rw [List.append_nil]
    exact lend_call hh (lent_reps hh.h r e) q c
end Pl

namespace Pl
open PySem PySem.Spec PyProof.Rows L2 TL

/-! ### promises about places -/
abbrev SpH := List U → SS → (U → SS → Prop) → XX → Prop
def liftH (K : PySem.W.Frag) (sp : SpH) (k : Nat) : Sp := fun vs H Q E => ∃ (w : Wd) (S : SS) (us : List U) (Φ : U → SS → Prop) (Ψ : XX),
  HRel K w S H ∧ RepUs K w vs us ∧ w.n + k ≤ LIM ∧ sp us S Φ Ψ ∧
  (∀ u S1, Φ u S1 → ∀ w1 v H1, Ext k w w1 → HRel K w1 S1 H1 → RepU K w1 v u → Q v H1) ∧
  (∀ x S1, Ψ x S1 → ∀ w1 H1 C dd, Ext k w w1 → HRel K w1 S1 H1 → RepX K w1.F w1.J H1 C dd x → E C dd H1)
/-- what a caller may ask of a promise -/
def SpecL (K : PySem.W.Frag) (LS : Sp) (k : Nat) (r' : RL') : Prop :=
  ∀ {W : WX} {w : Wd} {S : SS} {H : Hp} {σ : L2.St} {env : Env} {vs : List V} {us : List U} {Φ : U → SS → Prop} {Ψ : XX} {Q : VK}, Here K w S H σ env k → RepUs K w vs us → r' us S Φ Ψ → Co (RepU K) K W k w σ Φ Ψ Q → LS vs H Q (WE W σ)
def pureR (sp : Sp') : RL' := fun us S Φ Ψ => match clos 100 us with
  | some ds => sp ds (fun d => Φ (.d d) S) (fun x => Ψ x S)
  | none => False
def lendR (sp : Sp') : RL' := fun us S Φ Ψ => match lendAll us S with
  | some ds => sp ds (fun d => flatD d = true ∧ Φ (.d d) S) (fun _ => False)
  | none => False
section
variable {K : PySem.W.Frag} {k : Nat} {sp : Sp'} {C : Addr}
theorem call_repK {W : WX} {w : Wd} {S : SS} {H : Hp} {σ : L2.St} {env : Env} {vs : List V} {ds : List D} {Φ : U → SS → Prop} {Ψ : XX} {Q : VK} (hh : Here K w S H σ env k) (r : Reps K w.F w.J vs ds) (q : sp ds (fun d => Φ (.d d) S) (fun x => Ψ x S)) (c : Co (RepU K) K W k w σ Φ Ψ Q) :
    liftP K sp k vs H Q (WE W σ) := by
  refine ⟨w.F, w.J, w.n, ds, _, _, hh.h.fz, fun a j => ⟨(hh.h.jr a j).1, (hh.h.jr a j).2.1⟩, r, hh.l, q, fun d qd F1 J1 n1 v H1 x rv => ?_, fun z qz F1 J1 n1 H1 C dd x rx => ?_⟩
  · obtain ⟨E, R⟩ := x.world hh.h
    exact c.ok _ S qd _ v H1 E (fun _ _ h => h) R rv
  · obtain ⟨E, R⟩ := x.world hh.h
    exact c.xx _ S qz _ C dd H1 E (fun _ _ h => h) R rx
theorem specP : SpecL K (liftP K sp k) k (pureR sp) := by
  intro W w S H σ env vs us Φ Ψ Q hh r q c
  unfold pureR at q
  cases e : clos 100 us with
  | none => simp only [e] at q
  | some ds =>
    simp only [e] at q
    exact call_repK hh (clos_ok r e).1 q c
theorem specLend : SpecL K (liftP K sp k) k (lendR sp) := by
  intro W w S H σ env vs us Φ Ψ Q hh r q c
  unfold lendR at q
  cases e : lendAll us S with
  | none => simp only [e] at q
  | some ds =>
    simp only [e] at q
    exact lend_call hh (lent_reps hh.h r e) q c
theorem specH {sp : SpH} : SpecL K (liftH K sp k) k sp := by
  intro W w S H σ env vs us Φ Ψ Q hh r q c
  exact ⟨w, S, us, Φ, Ψ, hh.h, r, hh.l, q, fun u S1 h w1 v H1 x hr ru => c.ok u S1 h w1 v H1 x x.A hr ru, fun z S1 h w1 H1 C dd x hr rx => c.xx z S1 h w1 C dd H1 x x.A hr rx⟩
/-- a new list is told -/
def freshSp (sp : Sp') : SpH := fun us S Φ Ψ => match clos 100 us with
  | some ds => sp ds (fun d => match d with
    | .lst xs => Φ (.r S.length) (S ++ [some (.lst xs)])
    | d => Φ (.d d) S) (fun x => Ψ x S)
  | none => False
theorem rel0 {w : Wd} {S : SS} {H : Hp} (h : HRel K w S H) : HRel K (wd0 w.F w.J w.n 0 H) [] H := wd0_rel (m := 0) h.fz fun a j => ⟨(h.jr a j).1, (h.jr a j).2.1⟩
theorem rep0 {w : Wd} {S : SS} {H : Hp} {vs : List V} {ds : List D} (r : Reps K w.F w.J vs ds) : RepUs K (wd0 w.F w.J w.n 0 H) vs (ds.map .d) := usOf (w := wd0 w.F w.J w.n 0 H) r
theorem clos_map : ∀ (ds : List D) (n : Nat), ds.length ≤ n → clos n (ds.map U.d) = some ds
  | [], n, _ => by cases n <;> rfl
  | d :: ds, 0, h => by simp at h
  | d :: ds, n + 1, h => by
    have := clos_map ds n (by simpa using h)
    simp [clos, this]
theorem specFz : SpecL K (liftH K (freshSp sp) k) k (pureR sp) := by
  intro W w S H σ env vs us Φ Ψ Q hh r q c
  unfold pureR at q
  cases e : clos 100 us with
  | none => simp only [e] at q
  | some ds =>
    simp only [e] at q
    obtain ⟨r1, l1⟩ := clos_ok r e
    refine ⟨wd0 w.F w.J w.n 0 H, [], ds.map .d, fun u S1 => ∃ d, rd u S1 = some d ∧ Φ (.d d) S, fun x _ => Ψ x S, rel0 hh.h, rep0 (S := S) r1, hh.l, ?_, fun u S1 ⟨d, ed, qd⟩ w1 v H1 x hr ru => ?_, fun z S1 h w1 H1 C dd x hr rx => ?_⟩
    · unfold freshSp
      rw [clos_map ds 100 l1]
      have ee : (fun d : D => (match d with
          | .lst xs => ∃ d, rd (.r ([] : SS).length) ([] ++ [some (MO.lst xs)]) = some d ∧ Φ (.d d) S
          | d => ∃ d', rd (.d d) ([] : SS) = some d' ∧ Φ (.d d') S)) = fun d => Φ (.d d) S := by
        funext d
        cases d <;> simp [rd]
      have q2 := q
      rw [← ee] at q2
      exact q2
    · obtain ⟨F1, A1, rr⟩ := after_frz (m := 0) hh.h.fz x hr ru ed
      obtain ⟨E, R⟩ := A1.world hh.h
      exact c.ok _ S qd _ v H1 E (fun _ _ h => h) R rr
    · obtain ⟨E, R⟩ := (after0 (m := 0) hh.h.fz x hr).world hh.h
      exact c.xx _ S h _ C dd H1 E (fun _ _ h => h) R rx
end
/-! ### defs with such promises -/
structure FnS (P : Program) (w : World) (K : PySem.W.Frag) (mg : Str → Option Value) (base : Heap) (nm : Str) (ps : List Str) (lv : Nat) (LS : Sp) : Prop where
  ex : ∃ f fd, mg nm = some (.ref f) ∧ PySem.W.keepIn K (.ref f) = true ∧ KwB K fd ps ∧ FnOk P w K mg base (L2.CX P w) lv f fd ps LS
structure MFnS (P : Program) (w : World) (K : PySem.W.Frag) (mg : Str → Option Value) (base : Heap) (C : Addr) (m : Str) (ps : List Str) (lv : Nat) (LS : Sp) : Prop where
  ex : ∃ f fd, Meth K C m f ∧ PySem.W.fnIn K f = true ∧ KwB K fd ps ∧ FnOk P w K mg base (L2.CX P w) lv f fd ps LS
structure IFnS (P : Program) (w : World) (K : PySem.W.Frag) (mg : Str → Option Value) (base : Heap) (C : Addr) (nm : Str) (ps : List Str) (dv : Bool) (lv : Nat) (LS : Sp) : Prop where
  ex : ∃ f fd, mg nm = some (.ref C) ∧ Mk K C f ∧ (KwB K fd ps ∧ Dfl K fd ps dv) ∧ FnOk P w K mg base (L2.CX P w) lv f fd ps LS
section
variable {P : Program} {w : World} {K : PySem.W.Frag} {mg : Str → Option Value} {base : Heap} {nm m : Str} {ps : List Str} {lv : Nat} {sp : Sp'} {k : Nat} {C : Addr} {dv : Bool}
theorem Fn.S (G : Fn P w K mg base nm ps lv sp k) : FnS P w K mg base nm ps lv (liftP K sp k) := ⟨G.ex⟩
theorem MFn.S (G : MFn P w K mg base C m ps lv sp k) : MFnS P w K mg base C m ps lv (liftP K sp k) := ⟨G.ex⟩
end
abbrev FnH (P : Program) (w : World) (K : PySem.W.Frag) (mg : Str → Option Value) (base : Heap) (nm : Str) (ps : List Str) (lv : Nat) (sp : SpH) (k : Nat) : Prop := FnS P w K mg base nm ps lv (liftH K sp k)
abbrev MFnH (P : Program) (w : World) (K : PySem.W.Frag) (mg : Str → Option Value) (base : Heap) (C : Addr) (m : Str) (ps : List Str) (lv : Nat) (sp : SpH) (k : Nat) : Prop := MFnS P w K mg base C m ps lv (liftH K sp k)
abbrev IFnH (P : Program) (w : World) (K : PySem.W.Frag) (mg : Str → Option Value) (base : Heap) (C : Addr) (nm : Str) (ps : List Str) (dv : Bool) (lv : Nat) (sp : SpH) (k : Nat) : Prop := IFnS P w K mg base C nm ps dv lv (liftH K sp k)
/-! ### bodies -/
def endH (Φ : U → SS → Prop) (Ψ : XX) : End' := { nx := fun _ S => Φ (.d .non) S, rt := fun u S => Φ u S, xx := fun x _ S => Ψ x S }
def startU (N : List Str) (us : List U) : Env := us.map some ++ List.replicate (N.length - us.length) none
section
variable {P : Program} {w : World} {K : PySem.W.Frag} {mg : Str → Option Value} {base : Heap} {nm x qual : Str} {ps N : List Str} {l k kb : Nat} {sp : SpH} {spE : Sp'} {C f : Addr} {fd : FuncData} {dv : Bool} {st : Stmt} {t : TS'}
theorem envU_rel {w : Wd} {vs : List V} {us : List U} (r : RepUs K w vs us) : EnvR K w (L2.start N vs) (startU N us) := by
  have l := r.length
  refine ⟨by simp [L2.start, startU, l], fun i u e => ?_⟩
  unfold startU at e
  unfold L2.start
  by_cases hi : i < us.length
  · rw [List.getElem?_append_left (by simpa using hi), List.getElem?_map] at e
    cases q : us[i]? with
    | none => rw [q] at e; cases e
    | some d =>
      rw [q] at e
      have : d = u := by simpa using e
      subst this
      obtain ⟨v, hv, rv⟩ := r.get q
      exact ⟨v, by rw [List.getElem?_append_left (by simpa [l] using hi), List.getElem?_map, hv]; rfl, rv⟩
  · rw [List.getElem?_append_right (by simpa using Nat.le_of_not_lt hi), List.getElem?_replicate] at e
    split at e <;> cases e
theorem fnH_ok (Fu : FunC K x qual st f fd) (S : FnScope N ps (defScope st)) (len : ∀ us S Φ Ψ, sp us S Φ Ψ → us.length = ps.length)
    (hb : ∀ (cdv : Value) (A : Around) (outer : List PySem.Env) (s : Shared) (H : Hp) (E : XK), Room l (A.deeper (envOfC qual (defScope st) s.heap.objs.size f cdv)) →
      PSs (cxOf (L2.CX P w) P w K mg base N qual (defScope st) f cdv A outer s H E) (defBody st) (liftS K (fun C d _ H => E C d H) t kb))
    (hk : kb ≤ k) (hv : ∀ us S Φ Ψ, sp us S Φ Ψ → t (endH Φ Ψ) (startU N us) S) : FnOk P w K mg base (L2.CX P w) (l + 1) f fd ps (liftH K sp k) := by
  refine FunC.okX Fu S (fun vs H Q E ⟨w0, S0, us, Φ, Ψ, _, r, _, q, _, _⟩ => r.length.trans (len us S0 Φ Ψ q)) fun cdv A outer s H vs Q E hr ⟨w0, S0, us, Φ, Ψ, h, r, hn, q, c1, c2⟩ => ?_
  refine ⟨_, hb cdv A outer s H E hr, w0, startU N us, S0, endH Φ Ψ, h, envU_rel r, by omega, hv us S0 Φ Ψ q, ?_⟩
  refine ⟨fun _ S1 q1 w1 σ1 H1 x h e => ?_, fun u S1 q1 w1 v H1 x h ru => ?_, fun _ _ z => False.elim z, fun _ _ z => False.elim z, fun z _ S1 q1 w1 σ1 H1 C d x h e rx => ?_⟩
  · exact c1 _ S1 q1 w1 _ H1 (x.le hk) h Rep.non
  · exact c1 u S1 q1 w1 v H1 (x.le hk) h ru
  · exact c2 z S1 q1 w1 H1 C d (x.le hk) h rx
end
theorem fun_C {K : PySem.W.Frag} {x qual : Str} {st : Stmt} {f : Addr} {fd : FuncData} (F : Fun K x qual st f fd) : FunC K x qual st f fd := ⟨by
  obtain ⟨oc, od, kV, doc, pm, an, cdv, ct, osl, h1, h2, h3⟩ := F.ex
  exact ⟨oc, od, .none, kV, doc, pm, an, cdv, ct, osl, h1, h2, h3⟩, F.kp⟩
end Pl

namespace Pl
open PySem PySem.Spec PyProof.Rows L2 TL

section
variable {P : Program} {w : World} {K : PySem.W.Frag} {mg : Str → Option Value} {base : Heap} {nm x qual : Str} {ps N : List Str} {l k kb : Nat} {sp : SpH} {spE : Sp'} {C f : Addr} {fd : FuncData} {dv : Bool} {st : Stmt} {t : TS'}
theorem fnHE (Fd : Df K mg nm st ps) (S : FnScope N ps (defScope st)) (len : ∀ us S Φ Ψ, sp us S Φ Ψ → us.length = ps.length)
    (h : ∃ (t : TS') (kb : Nat), Bod P w K mg base nm st N l t kb ∧ kb ≤ k ∧ ∀ us S Φ Ψ, sp us S Φ Ψ → t (endH Φ Ψ) (startU N us) S) : FnH P w K mg base nm ps (l + 1) sp k := by
  obtain ⟨t, kb, hb, hk, hv⟩ := h
  obtain ⟨f, fd, Fu, hm, hB⟩ := Fd.ex
  exact ⟨f, fd, hm, Fu.kp, hB, fnH_ok (fun_C Fu) S len (hb f) hk hv⟩
theorem mfnHE (Fd : MDf K C nm qual st ps) (S : FnScope N ps (defScope st)) (len : ∀ us S Φ Ψ, sp us S Φ Ψ → us.length = ps.length)
    (h : ∃ (t : TS') (kb : Nat), BodM P w K mg base qual st N l t kb ∧ kb ≤ k ∧ ∀ us S Φ Ψ, sp us S Φ Ψ → t (endH Φ Ψ) (startU N us) S) : MFnH P w K mg base C nm ps (l + 1) sp k := by
  obtain ⟨t, kb, hb, hk, hv⟩ := h
  obtain ⟨f, fd, Fu, hM, hF, hB⟩ := Fd.ex
  exact ⟨f, fd, hM, hF, hB, fnH_ok (fun_C Fu) S len (hb f) hk hv⟩
theorem initHE (Fd : IDf K mg C nm qual st ps dv) (S : FnScope N ps (defScope st)) (len : ∀ us S Φ Ψ, sp us S Φ Ψ → us.length = ps.length)
    (h : ∃ (t : TS') (kb : Nat), BodM P w K mg base qual st N l t kb ∧ kb ≤ k ∧ ∀ us S Φ Ψ, sp us S Φ Ψ → t (endH Φ Ψ) (startU N us) S) : IFnH P w K mg base C nm ps dv (l + 1) sp k := by
  obtain ⟨t, kb, hb, hk, hv⟩ := h
  obtain ⟨f, fd, Fu, hm, hM, hB⟩ := Fd.ex
  exact ⟨f, fd, hm, hM, hB, fnH_ok Fu S len (hb f) hk hv⟩
/-- a body that ends with a new list of its own -/
def rtF (Φ : D → Prop) : U → SS → Prop := fun u S => match u with
  | .r i => (match slotL S i with
    | some ds => Φ (.lst ds)
    | none => False)
  | .d d => (match d with
    | .lst _ => False
    | d => Φ d)
  | .tup _ => False
def endF (Φ : D → Prop) (Ψ : Ex → Prop) : End' := { nx := fun _ _ => Φ .non, rt := rtF Φ, xx := fun x _ _ => Ψ x }
theorem fnF_ok (Fu : FunC K x qual st f fd) (S : FnScope N ps (defScope st)) (len : ∀ ds Φ Ψ, spE ds Φ Ψ → ds.length = ps.length)
    (hb : ∀ (cdv : Value) (A : Around) (outer : List PySem.Env) (s : Shared) (H : Hp) (E : XK), Room l (A.deeper (envOfC qual (defScope st) s.heap.objs.size f cdv)) →
      PSs (cxOf (L2.CX P w) P w K mg base N qual (defScope st) f cdv A outer s H E) (defBody st) (liftS K (fun C d _ H => E C d H) t kb))
    (hk : kb ≤ k) (hv : ∀ ds Φ Ψ, spE ds Φ Ψ → t (endF Φ Ψ) (startE N ds) []) : FnOk P w K mg base (L2.CX P w) (l + 1) f fd ps (liftH K (freshSp spE) k) := by
  have cl : ∀ {us : List U} {S0 : SS} {Φ : U → SS → Prop} {Ψ : XX}, freshSp spE us S0 Φ Ψ → ∃ ds, clos 100 us = some ds ∧ spE ds (fun d => match d with
    | .lst xs => Φ (.r S0.length) (S0 ++ [some (.lst xs)])
    | d => Φ (.d d) S0) (fun x => Ψ x S0) := fun {us S0 Φ Ψ} q => by
    unfold freshSp at q
    cases e : clos 100 us with
    | none => simp only [e] at q
    | some ds => simp only [e] at q; exact ⟨ds, rfl, q⟩
  refine FunC.okX Fu S (fun vs H Q E ⟨w0, S0, us, Φ, Ψ, _, r, _, q, _, _⟩ => ?_) fun cdv A outer s H vs Q E hr ⟨w0, S0, us, Φ, Ψ, h, r, hn, q, c1, c2⟩ => ?_
  · obtain ⟨ds, e, q⟩ := cl q
    exact (clos_ok r e).1.length.trans (len ds _ _ q)
  obtain ⟨ds, ed, q⟩ := cl q
  have r1 := (clos_ok r ed).1
  refine ⟨_, hb cdv A outer s H E hr, wd0 w0.F w0.J w0.n 0 H, startE N ds, [], endF _ _, rel0 h, env0_rel r1, by show w0.n + kb ≤ LIM; omega, hv ds (fun d => match d with
    | .lst xs => Φ (.r S0.length) (S0 ++ [some (.lst xs)])
    | d => Φ (.d d) S0) (fun x => Ψ x S0) q, ?_⟩
  refine ⟨fun _ S1 q1 w1 σ1 H1 x h1 e => ?_, fun u S1 q1 w1 v H1 x h1 ru => ?_, fun _ _ z => False.elim z, fun _ _ z => False.elim z, fun z _ S1 q1 w1 σ1 H1 C d x h1 e rx => ?_⟩
  · obtain ⟨E, R⟩ := (after0 (m := 0) h.fz (x.le hk) h1).world h
    exact c1 (.d .non) S0 q1 _ _ _ E R Rep.non
  · have A := after0 (m := 0) h.fz (x.le hk) h1
    obtain ⟨E, R⟩ := A.world h
    cases u with
    | tup us => exact False.elim q1
    | d d =>
      cases d with
      | lst _ => exact False.elim q1
      | _ => exact c1 _ S0 q1 _ _ _ E R ru
    | r i =>
      have q1' : (match slotL S1 i with
        | some xs => Φ (.r S0.length) (S0 ++ [some (.lst xs)])
        | none => False) := q1
      cases e1 : slotL S1 i with
      | none => simp only [e1] at q1'
      | some xs =>
        simp only [e1] at q1'
        obtain ⟨a, ha, ⟨ho, e2, rr⟩, f1, f2, f3⟩ := h1.live i _ (slotL_ok e1)
        obtain ⟨b, hb, rfl⟩ := ru
        rw [ha] at hb; cases hb
        have hn : H a = none := by
          cases q : H a with
          | none => rfl
          | some o =>
            by_cases z : w0.J a
            · exact absurd (x.J a z) f3
            · have : w1.R a = some o := by
                rw [x.R]
                show (open Classical in if w0.J a then none else H a) = some o
                rw [if_neg z]; exact q
              rw [f2] at this; cases this
        obtain ⟨vs1, rfl, rr⟩ := rr
        have hA := h.noA hn
        refine c1 _ _ q1' (({ w0 with F := w1.F, J := w1.J, n := w1.n } : Wd).push a) (.ref a) H1 (E.trans (Ext.push (k := 0)) |>.le (Nat.le_refl _)) (R.pushE (fun _ _ _ e => e) e2 f1 (h.free hn).2.1 f3 hA ⟨vs1, rfl, rr⟩) ⟨a, push_at R, rfl⟩
  · obtain ⟨E, R⟩ := (after0 (m := 0) h.fz (x.le hk) h1).world h
    exact c2 z S0 q1 _ _ _ _ E R rx
theorem fnFE (Fd : Df K mg nm st ps) (S : FnScope N ps (defScope st)) (len : ∀ ds Φ Ψ, spE ds Φ Ψ → ds.length = ps.length)
    (h : ∃ (t : TS') (kb : Nat), Bod P w K mg base nm st N l t kb ∧ kb ≤ k ∧ ∀ ds Φ Ψ, spE ds Φ Ψ → t (endF Φ Ψ) (startE N ds) []) : FnH P w K mg base nm ps (l + 1) (freshSp spE) k := by
  obtain ⟨t, kb, hb, hk, hv⟩ := h
  obtain ⟨f, fd, Fu, hm, hB⟩ := Fd.ex
  exact ⟨f, fd, hm, Fu.kp, hB, fnF_ok (fun_C Fu) S len (hb f) hk hv⟩
theorem mfnFE (Fd : MDf K C nm qual st ps) (S : FnScope N ps (defScope st)) (len : ∀ ds Φ Ψ, spE ds Φ Ψ → ds.length = ps.length)
    (h : ∃ (t : TS') (kb : Nat), BodM P w K mg base qual st N l t kb ∧ kb ≤ k ∧ ∀ ds Φ Ψ, spE ds Φ Ψ → t (endF Φ Ψ) (startE N ds) []) : MFnH P w K mg base C nm ps (l + 1) (freshSp spE) k := by
  obtain ⟨t, kb, hb, hk, hv⟩ := h
  obtain ⟨f, fd, Fu, hM, hF, hB⟩ := Fd.ex
  exact ⟨f, fd, hM, hF, hB, fnF_ok (fun_C Fu) S len (hb f) hk hv⟩
end
/-! ### calls by such promises -/
section
variable {X : Cx} {W : WX} {pos p apos kpos : Pos} {a b c e o : Expr} {es : List Expr} {kws : List Keyword} {ta tb tc to te : TE'} {tas : TA'} {k ka kb kc lv : Nat} {C : Addr} {ns : List Str} {r' : RL'} {LS : Sp} {x m : Str} {ps : List Str}
theorem specL_lift {K : PySem.W.Frag} (hs : SpecL K LS k r') {σ : L2.St} {H : Hp} {Q : VK} (h : liftE K W (tCal' r' tas) (ka + k) σ H Q) : liftA K W tas ka σ H fun vs H1 => LS vs H1 Q (WE W σ) :=
  lift_mono (lift_bind (Rp := RepUs K) (g := fun us _ S Φ Ψ => r' us S Φ Ψ) h) fun vs H1 ⟨w, us, env, S, Φ, Ψ, hh, r, q, c⟩ => hs hh r q c
/-- f(e, ..) -/
theorem qcallS (G : FnS X.prog X.w X.K X.mg X.base x ps lv LS) (hs : SpecL X.K LS k r') (hr : Room lv X.A) (tk : Takes X W) (ha : PA X (e :: es) (liftA X.K W tas ka)) (hg : Gl X x := by rfl)
    (hdb : (x == ("__debug__" : Str)) = false := by decide) (he : starEach (e :: es) X.env = (false, eval e X.env) :: starEach es X.env := by rfl) (hpl : (backTo pos (starEach es X.env)).any (·.1) = false := by rfl) :
    PE X (.Call (.Name x p) (e :: es) [] pos) (liftE X.K W (tCal' r' tas) (ka + k)) := by
  obtain ⟨f, fd, hm, hk, hb, G⟩ := G.ex
  refine PE.imp (pe_callSD (E := WE W) G hr hg hm hk hb.binds .nil (fun σ => passAt tk σ) ha hdb he hpl) fun σ H Q h => lift_mono (specL_lift hs h) fun vs H1 q => ?_
  rw [List.append_nil]; exact q
/-- f() -/
theorem qcallS0 (G : FnS X.prog X.w X.K X.mg X.base x ps lv LS) (hs : SpecL X.K LS k r') (hr : Room lv X.A) (tk : Takes X W) (hg : Gl X x := by rfl) (hdb : (x == ("__debug__" : Str)) = false := by decide) :
    PE X (.Call (.Name x p) [] [] pos) (liftE X.K W (tCal' r' tNil') (0 + k)) := by
  obtain ⟨f, fd, hm, hk, hb, F⟩ := G.ex
  refine PE.imp (t := liftE X.K W (tCal' r' tNil') (0 + k)) ⟨fun pins s σ H Q I h => ?_⟩ fun _ _ _ h => h
  obtain ⟨w, env, S, Φ, Ψ, hr', hE, hl, q, c⟩ := h
  refine wpAny_Call_Name_kw (ld_glob I hg hm ?_ hdb)
  refine PySem.W.callWith_K0 (first := []) I.kIn hk (wpAny_call (code_fn (us := []) (vs := []) F hr hb.binds (passAt tk σ) I .nil ?_))
  exact hs (us := []) ⟨hr', hE, by omega⟩ .nil q (c.le (by omega))
/-- f(k = e, ..) -/
theorem qcallSK (G : FnS X.prog X.w X.K X.mg X.base x ps lv LS) (hs : SpecL X.K LS k r') (hr : Room lv X.A) (tk : Takes X W) (ha : PK X kws (liftA X.K W tas ka)) (hg : Gl X x := by rfl) (hall : kwAll X pos kws := by rfl)
    (hks : (backToKw pos (keywordEach kws X.env)).filterMap (·.1) = ps := by rfl) (hdb : (x == ("__debug__" : Str)) = false := by decide)
    (hpl : ((backTo pos (starEach [] X.env)).any (·.1) || (backToKw pos (keywordEach kws X.env)).any (·.1.isNone)) = false := by rfl) :
    PE X (.Call (.Name x p) [] kws pos) (liftE X.K W (tCal' r' tas) (ka + k)) := by
  obtain ⟨f, fd, hm, hk, hb, F⟩ := G.ex
  refine PE.imp (t := fun σ H Q => liftA X.K W tas ka σ H fun vs H1 => LS vs H1 Q (WE W σ)) ⟨fun pins s σ H Q I h => ?_⟩ fun σ H Q h => specL_lift hs h
  refine wpAny_Call_Name_kw (ld_glob I hg hm ?_ hdb)
  refine PySem.W.callWith_KW0 (h₀ := X.base) I.ok.mod.kin hk hall ?_ hpl
  refine thn (ha.run pos pins s σ H _ I h) fun us s1 ⟨vs, H1, I1, r, q⟩ => ⟨I1.kIn, ?_⟩
  rw [hks]
  have hl : 0 + us.length = ps.length := by
    have := F.len _ _ _ _ q
    rw [← this, r.length]; omega
  exact wpAny_call (code_run F hr (hb 0 s1 [] us I1.kIn rfl hl) (passAt tk σ) I1 r q)
/-- an instance: data or at a place -/
def rdI (u : U) (S : SS) : Option (Addr × List Str) := match u with
  | .d (.obj C ns _) => some (C, ns)
  | .r i => match S[i]? with
    | some (some (.ins C ns _)) => some (C, ns)
    | _ => none
  | _ => none
theorem rdI_ok {K : PySem.W.Frag} {w : Wd} {S : SS} {H : Hp} {v : V} {u : U} {C : Addr} {ns : List Str} (h : HRel K w S H) (r : RepU K w v u) (e : rdI u S = some (C, ns)) : ∃ (a dx : Addr) (vs : List V), v = .ref a ∧ H a = some (.ins C dx (ns.zip vs)) := by
  unfold rdI at e
  cases u with
  | tup _ => cases e
  | d x =>
    cases x <;> try (cases e; done)
    cases e
    have r' : Rep K w.F w.J v (.obj _ _ _) := r
    cases r' with | obj e1 l rr => exact ⟨_, _, _, rfl, h.fz _ _ e1⟩
  | r i =>
    simp only at e
    split at e
    · rename_i q
      cases e
      obtain ⟨a, ha, ⟨ho, e1, dx, vs, rfl, l, rr⟩, _⟩ := h.live i _ q
      obtain ⟨b, hb, rfl⟩ := r
      rw [ha] at hb; cases hb
      exact ⟨_, dx, vs, rfl, e1⟩
    · cases e
theorem rdI_keep {K : PySem.W.Frag} {w w1 : Wd} {S S1 : SS} {u : U} {C : Addr} {ns : List Str} : True := trivial
/-- o.m(..): the receiver first -/
def tMethS' (C : Addr) (ns : List Str) (r' : RL') (to : TE') (ta : TA') : TE' := fun env S Φ Ψ => to env S (fun u S1 => match rdI u S1 with
  | some (C', ns') => (C' = C ∧ ns' = ns) ∧ ta env S1 (fun us S2 => r' (u :: us) S2 Φ Ψ) Ψ
  | none => False) Ψ
theorem methS_lift {m : Str} (hs : SpecL X.K LS k r') (hm : ∀ {α : Type} (ds : List α), (ns.zip ds).lookup m = none) {σ : L2.St} {H : Hp} {Q : VK} (h : liftE X.K W (tMethS' C ns r' to tas) (ka + kb + k) σ H Q) :
    tMethS C m LS (WE W) (liftE X.K W to ka) (liftA X.K W tas kb) σ H Q := by
  obtain ⟨w, env, S, Φ, Ψ, hr, hE, hl, q, c⟩ := h
  refine ⟨w, env, S, _, Ψ, hr, hE, by omega, q, ⟨fun u S1 q1 w1 v H1 x1 xa1 h1 r1 => ?_, fun z S1 q1 w1 C d H1 x1 xa1 h1 r1 => c.xx z S1 q1 w1 C d H1 (x1.le (by omega)) xa1 h1 r1⟩⟩
  cases eI : rdI u S1 with
  | none => simp only [eI] at q1
  | some p =>
    obtain ⟨C', ns'⟩ := p
    simp only [eI] at q1
    obtain ⟨⟨rfl, rfl⟩, q1⟩ := q1
    obtain ⟨a, dx, fs, rfl, e1⟩ := rdI_ok h1 r1 eI
    refine ⟨a, _, _, rfl, e1, hm _, w1, env, S1, _, Ψ, h1, hE.ext x1 xa1, by have := x1.n; omega, q1, ⟨fun us S2 q2 w2 vs2 H2 x2 xa2 h2 r2 => ?_, fun z S2 q2 w2 C d H2 x2 xa2 h2 r2 => c.xx z S2 q2 w2 C d H2 ((x1.trans x2).le (by omega)) (xa1.trans xa2) h2 r2⟩⟩
    have x3 := x1.trans x2
    exact hs (us := u :: us) ⟨h2, (hE.ext x1 xa1).ext x2 xa2, by have := x3.n; omega⟩ (.cons (r1.ext x2 xa2) r2) q2 (c.ext (j := ka + kb) x3 (xa1.trans xa2))
theorem qmethS {pl : Sem Bool} (G : MFnS X.prog X.w X.K X.mg X.base C m ps lv LS) (hs : SpecL X.K LS k r') (cl : Cls X.K C) (hm : ∀ {α : Type} (ds : List α), (ns.zip ds).lookup m = none) (hr : Room lv X.A) (tk : Takes X W) (he : PE X o (liftE X.K W to ka)) (ha : PA X (e :: es) (liftA X.K W tas kb))
    (hst : starEach (e :: es) X.env = (false, eval e X.env) :: starEach es X.env := by rfl) (hpl : (backTo pos (starEach es X.env)).any (·.1) = false := by rfl)
    (ht : eval (.Call (.Attribute o m apos) (e :: es) [] pos) X.env = (do
      let ov ← eval o X.env
      standAt apos.atName
      let (f, first) ← holding [ov] (getMethod ov m pl)
      callWith pos f first (backTo pos (starEach (e :: es) X.env)) (backToKw pos (keywordEach [] X.env))) := by rfl) :
    PE X (.Call (.Attribute o m apos) (e :: es) [] pos) (liftE X.K W (tMethS' C ns r' to tas) (ka + kb + k)) := by
  obtain ⟨f, fd, hM, _, hb, F⟩ := G.ex
  refine PE.imp (t := tMethS C m LS (WE W) (liftE X.K W to ka) (liftA X.K W tas kb)) ⟨fun pins s σ H Q I h => ?_⟩ fun σ H Q h => methS_lift hs hm h
  refine PySem.W.methodCall_KW (pl := pl) (thn (he.run pins s σ H _ I h) fun u s1 ⟨x, H1, I1, rx, a, dx, fs, ex, ea, l, q⟩ => ?_) ht
  subst ex
  obtain rfl : u = Value.ref a := rx
  refine getmeth_ok I1 ea cl hM l (PySem.W.callWith_K (first := [.ref a]) (h₀ := X.base) I.ok.mod.kin hM.kp (thn (ha.run pos pins s1 σ H1 _ I1 q) fun us s2 ⟨vs, H2, I2, r, q2⟩ => ⟨I2.kIn, ?_⟩) hst hpl)
  exact wpAny_call (code_fn (us := .ref a :: us) (vs := .ref a :: vs) F hr hb.binds (passAt tk σ) I2 (.cons rfl r) q2)
theorem qmethS0 {pl : Sem Bool} (G : MFnS X.prog X.w X.K X.mg X.base C m ps lv LS) (hs : SpecL X.K LS k r') (cl : Cls X.K C) (hm : ∀ {α : Type} (ds : List α), (ns.zip ds).lookup m = none) (hr : Room lv X.A) (tk : Takes X W) (he : PE X o (liftE X.K W to ka))
    (ht : eval (.Call (.Attribute o m apos) [] [] pos) X.env = (do
      let ov ← eval o X.env
      standAt apos.atName
      let (f, first) ← holding [ov] (getMethod ov m pl)
      callWith pos f first (backTo pos (starEach [] X.env)) (backToKw pos (keywordEach [] X.env))) := by rfl) :
    PE X (.Call (.Attribute o m apos) [] [] pos) (liftE X.K W (tMethS' C ns r' to tNil') (ka + 0 + k)) := by
  obtain ⟨f, fd, hM, _, hb, F⟩ := G.ex
  refine PE.imp (t := tMethS C m LS (WE W) (liftE X.K W to ka) (liftA X.K W tNil' 0)) ⟨fun pins s σ H Q I h => ?_⟩ fun σ H Q h => methS_lift hs hm h
  refine PySem.W.methodCall_KW (pl := pl) (thn (he.run pins s σ H _ I h) fun u s1 ⟨x, H1, I1, rx, a, dx, fs, ex, ea, l, q⟩ => ?_) ht
  subst ex
  obtain rfl : u = Value.ref a := rx
  have q' := pure_lift (Rp := RepUs X.K) (a := ([] : List V)) (b := ([] : List U)) q fun _ => .nil
  exact getmeth_ok I1 ea cl hM l (PySem.W.callWith_K0 (first := [.ref a]) I1.kIn hM.kp (wpAny_call (code_fn (us := [.ref a]) (vs := [.ref a]) F hr hb.binds (passAt tk σ) I1 (.cons rfl .nil) q')))
theorem qmethSK {pl : Sem Bool} (G : MFnS X.prog X.w X.K X.mg X.base C m ps lv LS) (hs : SpecL X.K LS k r') (cl : Cls X.K C) (hm : ∀ {α : Type} (ds : List α), (ns.zip ds).lookup m = none) (hr : Room lv X.A) (tk : Takes X W) (he : PE X o (liftE X.K W to ka)) (ha : PK X kws (liftA X.K W tas kb))
    (hall : kwAll X pos kws := by rfl) (hks : (backToKw pos (keywordEach kws X.env)).filterMap (·.1) = ps.drop 1 := by rfl)
    (hpl : ((backTo pos (starEach [] X.env)).any (·.1) || (backToKw pos (keywordEach kws X.env)).any (·.1.isNone)) = false := by rfl)
    (ht : eval (.Call (.Attribute o m apos) [] kws pos) X.env = (do
      let ov ← eval o X.env
      standAt apos.atName
      let (f, first) ← holding [ov] (getMethod ov m pl)
      callWith pos f first (backTo pos (starEach [] X.env)) (backToKw pos (keywordEach kws X.env))) := by rfl) :
    PE X (.Call (.Attribute o m apos) [] kws pos) (liftE X.K W (tMethS' C ns r' to tas) (ka + kb + k)) := by
  obtain ⟨f, fd, hM, _, hb, F⟩ := G.ex
  refine PE.imp (t := tMethS C m LS (WE W) (liftE X.K W to ka) (liftA X.K W tas kb)) ⟨fun pins s σ H Q I h => ?_⟩ fun σ H Q h => methS_lift hs hm h
  refine PySem.W.methodCall_KW (pl := pl) (thn (he.run pins s σ H _ I h) fun u s1 ⟨x, H1, I1, rx, a, dx, fs, ex, ea, l, q⟩ => ?_) ht
  subst ex
  obtain rfl : u = Value.ref a := rx
  refine getmeth_ok I1 ea cl hM l (PySem.W.callWith_KW0 (first := [.ref a]) (h₀ := X.base) I.ok.mod.kin hM.kp hall (thn (ha.run pos pins s1 σ H1 _ I1 q) fun us s2 ⟨vs, H2, I2, r, q2⟩ => ⟨I2.kIn, ?_⟩) hpl)
  rw [hks]
  have hl : 1 + us.length = ps.length := by
    have := F.len _ _ _ _ q2
    rw [← this, List.length_cons, r.length]; omega
  exact wpAny_call (code_run (us := .ref a :: us) (vs := .ref a :: vs) F hr (hb 1 s2 [.ref a] us I2.kIn rfl hl) (passAt tk σ) I2 (.cons rfl r) q2)
/-! ### a new object at a place -/
def makeR (C : Addr) (sp : SpH) : RL' := fun us S Φ Ψ => sp (.r S.length :: us) (S ++ [some (.ins C [] [])]) (fun u S2 => u = .d .non ∧ Φ (.r S.length) S2) Ψ
theorem makeH_call {K : PySem.W.Frag} {x dx : Addr} {sp : SpH} {w : Wd} {S : SS} {H : Hp} {σ : L2.St} {env : Env} {vs : List V} {us : List U} {Φ : U → SS → Prop} {Ψ : XX} {Q : VK} (hh : Here K w S H σ env k) (r : RepUs K w vs us) (q : makeR C sp us S Φ Ψ) (c : Co (RepU K) K W k w σ Φ Ψ Q)
    (hx : H x = none) (hdx : H dx = none) (ne : dx ≠ x) :
    liftH K sp k (.ref x :: vs) (upd (upd H dx (.own x)) x (.ins C dx [])) (fun v H2 => v = .non ∧ Q (.ref x) H2) (WE W σ) := by
  have h1 : HRel K w S (upd H dx (.own x)) := hh.h.upd_apart (hh.h.apart hdx)
  have hx1 : upd H dx (.own x) x = none := by rw [upd_ne ne.symm]; exact hx
  have h2 : HRel K (w.push x) (S ++ [some (.ins C [] [])]) (upd (upd H dx (.own x)) x (.ins C dx [])) := h1.push hx1 ⟨dx, [], rfl, rfl, .nil⟩
  have at0 := push_at (p := x) hh.h
  refine ⟨w.push x, _, _, _, _, h2, .cons (u := .r S.length) ⟨x, at0, rfl⟩ (r.ext (k := 0) Ext.push ExtA.push), hh.l, q, fun u S2 ⟨eu, qu⟩ w1 v H1 x1 hr ru => ?_, fun z S2 qz w1 H1 D dd x1 hr rx => ?_⟩
  · subst eu
    have hv : v = .non := RepN.non (Rep.now hr ru)
    exact ⟨hv, c.ok _ S2 qu w1 _ H1 (((Ext.push (k := 0)).trans x1).le (by omega)) (ExtA.push.trans x1.A) hr ⟨x, x1.A _ _ at0, rfl⟩⟩
  · exact c.xx z S2 qz w1 D dd H1 (((Ext.push (k := 0)).trans x1).le (by omega)) (ExtA.push.trans x1.A) hr rx
theorem makeH_lift {K : PySem.W.Frag} {sp : SpH} {σ : L2.St} {H : Hp} {Q : VK} (h : liftE K W (tCal' (makeR C sp) tas) (ka + k) σ H Q) :
    liftA K W tas ka σ H fun vs H1 => ∀ x dx, H1 x = none → H1 dx = none → dx ≠ x → liftH K sp k (.ref x :: vs) (upd (upd H1 dx (.own x)) x (.ins C dx [])) (fun v H2 => v = .non ∧ Q (.ref x) H2) (WE W σ) :=
  lift_mono (lift_bind (Rp := RepUs K) (g := fun us _ S Φ Ψ => makeR C sp us S Φ Ψ) h) fun vs H1 ⟨w, us, env, S, Φ, Ψ, hh, r, q, c⟩ => fun x dx hx hdx ne => makeH_call hh r q c hx hdx ne
theorem qmakeH {dv : Bool} {sp : SpH} (G : IFnH X.prog X.w X.K X.mg X.base C x ps dv lv sp k) (hr : Room (lv + 1) X.A) (tk : Takes X W) (ha : PA X (e :: es) (liftA X.K W tas ka)) (hg : Gl X x := by rfl)
    (hdb : (x == ("__debug__" : Str)) = false := by decide) (he : starEach (e :: es) X.env = (false, eval e X.env) :: starEach es X.env := by rfl) (hpl : (backTo pos (starEach es X.env)).any (·.1) = false := by rfl) :
    PE X (.Call (.Name x p) (e :: es) [] pos) (liftE X.K W (tCal' (makeR C sp) tas) (ka + k)) := by
  obtain ⟨f, fd, hm, M, ⟨hb, _⟩, F⟩ := G.ex
  refine PE.imp (t := fun σ H Q => liftA X.K W tas ka σ H fun vs H1 => ∀ x dx, H1 x = none → H1 dx = none → dx ≠ x → liftH X.K sp k (.ref x :: vs) (upd (upd H1 dx (.own x)) x (.ins C dx [])) (fun v H2 => v = .non ∧ Q (.ref x) H2) (WE W σ)) ⟨fun pins s σ H Q I h => ?_⟩ fun σ H Q h => makeH_lift h
  refine wpAny_Call_Name_kw (ld_glob I hg hm ?_ hdb)
  refine PySem.W.callWith_K (h₀ := X.base) I.ok.mod.kin M.kp (thn (ha.run pos pins s σ H _ I h) fun us s1 ⟨vs, H1, I1, r, q⟩ => ⟨I1.kIn, ?_⟩) he hpl
  have hl : us.length + 1 = ps.length := by
    have hq := q (s1.heap.objs.size + 1) s1.heap.objs.size (I1.hok.fresh (Nat.le_succ _)) (I1.hok.fresh (Nat.le_refl _)) (Nat.ne_of_lt (Nat.lt_succ_self _))
    have := F.len _ _ _ _ hq
    rw [← this, List.length_cons, r.length]
  exact make_run M F hr (fun s x X => by simpa using hb.binds s (x :: us) X (by simpa using hl)) (passAt tk σ) I1 r q
theorem qmakeHK {dv : Bool} {sp : SpH} (G : IFnH X.prog X.w X.K X.mg X.base C x ps dv lv sp k) (hr : Room (lv + 1) X.A) (tk : Takes X W) (ha : PK X kws (liftA X.K W tas ka)) (hg : Gl X x := by rfl) (hall : kwAll X pos kws := by rfl)
    (hks : (backToKw pos (keywordEach kws X.env)).filterMap (·.1) = ps.drop 1 := by rfl) (hdb : (x == ("__debug__" : Str)) = false := by decide)
    (hpl : ((backTo pos (starEach [] X.env)).any (·.1) || (backToKw pos (keywordEach kws X.env)).any (·.1.isNone)) = false := by rfl) :
    PE X (.Call (.Name x p) [] kws pos) (liftE X.K W (tCal' (makeR C sp) tas) (ka + k)) := by
  obtain ⟨f, fd, hm, M, ⟨hb, _⟩, F⟩ := G.ex
  refine PE.imp (t := fun σ H Q => liftA X.K W tas ka σ H fun vs H1 => ∀ x dx, H1 x = none → H1 dx = none → dx ≠ x → liftH X.K sp k (.ref x :: vs) (upd (upd H1 dx (.own x)) x (.ins C dx [])) (fun v H2 => v = .non ∧ Q (.ref x) H2) (WE W σ)) ⟨fun pins s σ H Q I h => ?_⟩ fun σ H Q h => makeH_lift h
  refine wpAny_Call_Name_kw (ld_glob I hg hm ?_ hdb)
  refine PySem.W.callWith_KW0 (h₀ := X.base) I.ok.mod.kin M.kp hall ?_ hpl
  refine thn (ha.run pos pins s σ H _ I h) fun us s1 ⟨vs, H1, I1, r, q⟩ => ⟨I1.kIn, ?_⟩
  rw [hks]
  have hl : 1 + us.length = ps.length := by
    have hq := q (s1.heap.objs.size + 1) s1.heap.objs.size (I1.hok.fresh (Nat.le_succ _)) (I1.hok.fresh (Nat.le_refl _)) (Nat.ne_of_lt (Nat.lt_succ_self _))
    have := F.len _ _ _ _ hq
    rw [← this, List.length_cons, r.length]; omega
  exact make_run (us := []) M F hr (fun s x X => hb 1 s [x] us X rfl hl) (passAt tk σ) I1 r q
end
end Pl

namespace Pl
open PySem PySem.Spec PyProof.Rows L2 TL

/-! ### an own class's answers to len, o[i], +, in, == -/
section
variable {X : Cx} {W : WX} {pos p : Pos} {a b e : Expr} {ta tb : TE'} {k ka kb lv : Nat} {C : Addr} {r' : RL'} {LS : Sp} {m : Str} {ps : List Str} {pins : List (Addr × Obj)} {σ : L2.St} {H : Hp} {s : Shared} {Q : VK}
theorem fr_of (I : Inv X pins σ H s) : ∃ m, Fr X.base X.env.locals s.heap m := by
  obtain ⟨m, h, _⟩ := I.loc
  exact ⟨m, h, I.bk, Nat.le_trans I.ok.bsz I.ok.above⟩
theorem call_own {f : Addr} {fd : FuncData} {us : List Value} {vs : List V} (F : FnOk X.prog X.w X.K X.mg X.base (L2.CX X.prog X.w) lv f fd ps LS) (hr : Room lv X.A) (hb : KwB X.K fd ps) (tk : Takes X W) (I : Inv X pins σ H s) (r : Vals vs us)
    (h : LS vs H Q (WE W σ)) : wpAny (model X.prog X.w) X.A (call (.ref f) us) (EP X pins σ Q) X.xe s := wpAny_call (code_fn F hr hb.binds (passAt tk σ) I r h)
theorem call_own1 {f : Addr} {fd : FuncData} {us : List Value} {vs : List V} (F : FnOk X.prog X.w X.K X.mg X.base (L2.CX X.prog X.w) lv f fd ps LS) (hr : Room (lv + 1) X.A) (hb : KwB X.K fd ps) (tk : Takes X W) (I : Inv X pins σ H s) (r : Vals vs us)
    (h : LS vs H Q (WE W σ)) : wpAny (model X.prog X.w) X.A.in1 (call (.ref f) us) (EP X pins σ Q) X.xe s := by
  have hl : us.length = ps.length := by rw [← r.length]; exact F.len _ _ _ _ h
  have hb' := hb.binds s us I.kIn (by rw [List.append_nil]; exact hl)
  rw [List.append_nil] at hb'
  refine wpAny_call (codeAny_mono (F.run X.A.in1 X.stack s H ⟨us, []⟩ us vs Q (WE W σ) hr.in1 I.env0.in1 hb' r h) fun r s' hq => ?_)
  cases r with
  | error e => exact passAt tk σ pins H s e s' I hq
  | ok fl =>
    cases fl with
    | ret u => exact I.after hq
    | next => exact False.elim hq
    | brk => exact False.elim hq
    | cont => exact False.elim hq
/-- what is done with the answer -/
def FinL (K : PySem.W.Frag) (fin : U → SS → (U → SS → Prop) → Prop) (finV : V → Hp → VK → Prop) : Prop :=
  ∀ {W : WX} {w : Wd} {S : SS} {H : Hp} {σ : L2.St} {v : V} {z : U} {Φ : U → SS → Prop} {Ψ : XX} {Q : VK}, HRel K w S H → RepU K w v z → fin z S Φ → Co (RepU K) K W 0 w σ Φ Ψ Q → finV v H Q
theorem fin_co {K : PySem.W.Frag} {fin : U → SS → (U → SS → Prop) → Prop} {finV : V → Hp → VK → Prop} {w : Wd} {Φ : U → SS → Prop} {Ψ : XX} (hf : FinL K fin finV) (c : Co (RepU K) K W k w σ Φ Ψ Q) : Co (RepU K) K W k w σ (fun z S => fin z S Φ) Ψ (fun v H => finV v H Q) :=
  ⟨fun b S1 q w1 a H1 x xa hr r => hf hr r q (Co.ext (j := k) (k := 0) c x xa), fun e S1 q w1 C d H1 x xa hr r => c.xx e S1 q w1 C d H1 x xa hr r⟩
def finId (z : U) (S : SS) (Φ : U → SS → Prop) : Prop := Φ z S
theorem finIdL {K : PySem.W.Frag} : FinL K finId (fun v H Q => Q v H) := fun hr r q c => c.ok _ _ q _ _ _ (Ext.refl _ _) (ExtA.refl _) hr r
def finB (g : Bool → Bool) (z : U) (S : SS) (Φ : U → SS → Prop) : Prop := match z with
  | .d (.bl b) => Φ (.d (.bl (g b))) S
  | _ => False
theorem finBL {K : PySem.W.Frag} {g : Bool → Bool} : FinL K (finB g) (fun v H Q => ∃ b, v = .bl b ∧ Q (.bl (g b)) H) := by
  intro W w S H σ v z Φ Ψ Q hr r q c
  cases z with
  | r _ => exact q.elim
  | tup _ => exact q.elim
  | d y =>
    cases y <;> try exact q.elim
    exact ⟨_, RepN.bl (Rep.now hr r), c.ok _ _ q _ _ _ (Ext.refl _ _) (ExtA.refl _) hr .bl⟩
def finN (z : U) (S : SS) (Φ : U → SS → Prop) : Prop := match z with
  | .d (.int n) => (0 ≤ n ∧ n < 2 ^ 63) ∧ Φ (.d (.int n)) S
  | _ => False
theorem finNL {K : PySem.W.Frag} : FinL K finN (fun v H Q => ∃ n : Int, v = .int n ∧ (0 ≤ n ∧ n < 2 ^ 63) ∧ Q (.int n) H) := by
  intro W w S H σ v z Φ Ψ Q hr r q c
  cases z with
  | r _ => exact q.elim
  | tup _ => exact q.elim
  | d y =>
    cases y <;> try exact q.elim
    exact ⟨_, RepN.int (Rep.now hr r), q.1, c.ok _ _ q.2 _ _ _ (Ext.refl _ _) (ExtA.refl _) hr .int⟩
/-- the receiver alone -/
def tOwn1 (C : Addr) (r' : RL') (fin : U → SS → (U → SS → Prop) → Prop) (ta : TE') : TE' := fun env S Φ Ψ => ta env S (fun u S1 => match rdI u S1 with
  | some (C', _) => C' = C ∧ r' [u] S1 (fun z S2 => fin z S2 Φ) Ψ
  | none => False) Ψ
theorem own1_lift {K : PySem.W.Frag} {fin : U → SS → (U → SS → Prop) → Prop} {finV : V → Hp → VK → Prop} (hs : SpecL K LS k r') (hf : FinL K fin finV) (h : liftE K W (tOwn1 C r' fin ta) (ka + k) σ H Q) :
    liftE K W ta ka σ H fun x H1 => ∃ a dx fs, x = .ref a ∧ H1 a = some (.ins C dx fs) ∧ LS [.ref a] H1 (fun v H2 => finV v H2 Q) (WE W σ) :=
  lift_mono (lift_bind (g := fun u _ S Φ Ψ => match rdI u S with
    | some (C', _) => C' = C ∧ r' [u] S (fun z S2 => fin z S2 Φ) Ψ
    | none => False) h) fun x H1 ⟨w, u, env, S, Φ, Ψ, hh, r1, q, c⟩ => by
  cases eI : rdI u S with
  | none => simp only [eI] at q
  | some p =>
    obtain ⟨C', ns⟩ := p
    simp only [eI] at q
    obtain ⟨rfl, q⟩ := q
    obtain ⟨a, dx, vs, rfl, e1⟩ := rdI_ok hh.h r1 eI
    exact ⟨a, dx, _, rfl, e1, hs (us := [u]) hh (.cons r1 .nil) q (fin_co hf c)⟩
/-- two, the receiver first -/
def tOwn2 (C : Addr) (r' : RL') (fin : U → SS → (U → SS → Prop) → Prop) (ta tb : TE') : TE' := fun env S Φ Ψ => ta env S (fun u S1 => tb env S1 (fun y S2 => match rdI u S2 with
  | some (C', _) => C' = C ∧ r' [u, y] S2 (fun z S3 => fin z S3 Φ) Ψ
  | none => False) Ψ) Ψ
theorem own2_lift {K : PySem.W.Frag} {fin : U → SS → (U → SS → Prop) → Prop} {finV : V → Hp → VK → Prop} (hs : SpecL K LS k r') (hf : FinL K fin finV) (h : liftE K W (tOwn2 C r' fin ta tb) (ka + kb + k) σ H Q) :
    liftE K W ta ka σ H fun x H1 => liftE K W tb kb σ H1 fun y H2 => ∃ a dx fs, x = .ref a ∧ H2 a = some (.ins C dx fs) ∧ LS [.ref a, y] H2 (fun v H3 => finV v H3 Q) (WE W σ) :=
  lift_mono (lift_bind2 (Rp := RepU K) (Rp2 := RepU K) (Rp3 := RepU K) (g := fun u y _ S Φ Ψ => match rdI u S with
    | some (C', _) => C' = C ∧ r' [u, y] S (fun z S3 => fin z S3 Φ) Ψ
    | none => False) stabU h) fun x H1 q1 => lift_mono q1 fun y H2 ⟨w, u, z, env, S, Φ, Ψ, hh, r1, r2, q, c⟩ => by
  cases eI : rdI u S with
  | none => simp only [eI] at q
  | some p =>
    obtain ⟨C', ns⟩ := p
    simp only [eI] at q
    obtain ⟨rfl, q⟩ := q
    obtain ⟨a, dx, vs, rfl, e1⟩ := rdI_ok hh.h r1 eI
    exact ⟨a, dx, _, rfl, e1, hs (us := [u, z]) hh (.cons r1 (.cons r2 .nil)) q (fin_co hf c)⟩
/-- two, the receiver second -/
def tOwn2r (C : Addr) (r' : RL') (fin : U → SS → (U → SS → Prop) → Prop) (ta tb : TE') : TE' := fun env S Φ Ψ => ta env S (fun y S1 => tb env S1 (fun u S2 => match rdI u S2 with
  | some (C', _) => C' = C ∧ r' [u, y] S2 (fun z S3 => fin z S3 Φ) Ψ
  | none => False) Ψ) Ψ
theorem own2r_lift {K : PySem.W.Frag} {fin : U → SS → (U → SS → Prop) → Prop} {finV : V → Hp → VK → Prop} (hs : SpecL K LS k r') (hf : FinL K fin finV) (h : liftE K W (tOwn2r C r' fin ta tb) (ka + kb + k) σ H Q) :
    liftE K W ta ka σ H fun y H1 => liftE K W tb kb σ H1 fun x H2 => ∃ a dx fs, x = .ref a ∧ H2 a = some (.ins C dx fs) ∧ LS [.ref a, y] H2 (fun v H3 => finV v H3 Q) (WE W σ) :=
  lift_mono (lift_bind2 (Rp := RepU K) (Rp2 := RepU K) (Rp3 := RepU K) (g := fun y u _ S Φ Ψ => match rdI u S with
    | some (C', _) => C' = C ∧ r' [u, y] S (fun z S3 => fin z S3 Φ) Ψ
    | none => False) stabU h) fun x H1 q1 => lift_mono q1 fun y H2 ⟨w, z, u, env, S, Φ, Ψ, hh, r2, r1, q, c⟩ => by
  cases eI : rdI u S with
  | none => simp only [eI] at q
  | some p =>
    obtain ⟨C', ns⟩ := p
    simp only [eI] at q
    obtain ⟨rfl, q⟩ := q
    obtain ⟨a, dx, vs, rfl, e1⟩ := rdI_ok hh.h r1 eI
    exact ⟨a, dx, _, rfl, e1, hs (us := [u, z]) hh (.cons r1 (.cons r2 .nil)) q (fin_co hf c)⟩
/-- len(o) -/
theorem qlenS (G : MFnS X.prog X.w X.K X.mg X.base C "__len__" ps lv LS) (hs : SpecL X.K LS k r') (hr : Room (lv + 1) X.A) (tk : Takes X W) (hm : X.mg "len" = none) (ha : PE X e (liftE X.K W ta ka)) (hg : Gl X "len" := by rfl) (he : starEach [e] X.env = (false, eval e X.env) :: starEach [] X.env := by rfl) :
    PE X (.Call (.Name "len" p) [e] [] pos) (liftE X.K W (tOwn1 C r' finN ta) (ka + k)) := by
  obtain ⟨f, fd, hM, hF, hb, F⟩ := G.ex
  refine PE.imp (t := fun σ H Q => liftE X.K W ta ka σ H fun x H1 => ∃ a dx fs, x = .ref a ∧ H1 a = some (.ins C dx fs) ∧ LS [.ref a] H1 (fun v H2 => ∃ n : Int, v = .int n ∧ (0 ≤ n ∧ n < 2 ^ 63) ∧ Q (.int n) H2) (WE W σ)) ⟨fun pins s σ H Q I h => ?_⟩ fun σ H Q h => own1_lift hs finNL h
  have hb1 : PA X [e] (tCons (liftE X.K W ta ka) tNil) := pa_cons ha pa_nil he
  refine wpAny_Call_Name_kw (ld_blt (u := .builtin "len") I hg hm (by decide +kernel) ?_ (by decide) (by decide))
  refine PyProof.Rows.callWith_builtin1 (thn (hb1.run pos pins s σ H (fun vs H1 => ∃ a dx fs, vs = [.ref a] ∧ H1 a = some (.ins C dx fs) ∧ LS [.ref a] H1 (fun v H2 => ∃ n : Int, v = .int n ∧ (0 ≤ n ∧ n < 2 ^ 63) ∧ Q (.int n) H2) (WE W σ)) I ?_) fun us s1 ⟨vs, H1, I1, r1, a, dx, fs, ev, ea, q⟩ => ?_) he (by rfl)
  · exact lift_mono h fun x H1 ⟨a, dx, fs, ex, ea, q⟩ => ⟨a, dx, fs, by rw [ex], ea, q⟩
  · subst ev
    cases r1 with
    | cons r2 rn =>
      cases rn
      cases r2
      obtain ⟨m, fr⟩ := fr_of I1
      obtain ⟨ox, od, J⟩ := insX I1 ea
      refine PySem.W.len_K fr I1.ok.mod.kin J hM.at_ hM.fn (wpAny_mono (call_own1 F hr hb tk I1 (us := [.ref a]) (vs := [.ref a]) (.cons rfl .nil) q) (fun r s2 z => ?_) fun _ _ z => z)
      obtain ⟨v, H2, I2, rv, n, rfl, hn, q2⟩ := z
      obtain ⟨t, rfl⟩ := rv
      exact ⟨hn, .int n, H2, I2.tok _, ⟨_, rfl⟩, q2⟩
/-- o[i] -/
theorem qsubS (G : MFnS X.prog X.w X.K X.mg X.base C "__getitem__" ps lv LS) (hs : SpecL X.K LS k r') (hr : Room (lv + 1) X.A) (tk : Takes X W) (ha : PE X a (liftE X.K W ta ka)) (hb : PE X b (liftE X.K W tb kb))
    (hsl : ∀ x i, subscripted b true (.ref x) i = runValue (.builtin "lifetime.subscript" ⟨[.ref x, i], []⟩) := by exact fun _ _ => by with_unfolding_all rfl) :
    PE X (.Subscript a b pos) (liftE X.K W (tOwn2 C r' finId ta tb) (ka + kb + k)) := by
  obtain ⟨f, fd, hM, hF, hB, F⟩ := G.ex
  refine PE.imp (t := fun σ H Q => liftE X.K W ta ka σ H fun x H1 => liftE X.K W tb kb σ H1 fun y H2 => ∃ a dx fs, x = .ref a ∧ H2 a = some (.ins C dx fs) ∧ LS [.ref a, y] H2 (fun v H3 => Q v H3) (WE W σ)) ⟨fun pins s σ H Q I h => ?_⟩ fun σ H Q h => own2_lift hs finIdL h
  refine Subscript_ (binT ha hb I h fun v u s2 x y H2 I2 rx ry ⟨a1, dx, fs, ex, ea, q⟩ => ?_)
  subst ex
  obtain rfl : v = Value.ref a1 := rx
  obtain ⟨m, fr⟩ := fr_of I2
  obtain ⟨ox, od, J⟩ := insX I2 ea
  exact PySem.W.sub_K fr I2.ok.mod.kin J hM.at_ hF hM.fn (call_own1 F hr hB tk I2 (us := [.ref a1, u]) (vs := [.ref a1, y]) (.cons rfl (.cons ry .nil)) q) (hsl _ _)
/-- x in o, x not in o -/
theorem in_run (neg : Bool) (G : MFnS X.prog X.w X.K X.mg X.base C "__contains__" ps lv LS) (hr : Room lv X.A) (tk : Takes X W) {x y : V} {v u : Value} {a1 dx : Addr} {fs : List (Str × V)} (I2 : Inv X pins σ H s) (rx : RelV x v) (ry : RelV y u) (ex : y = .ref a1) (ea : H a1 = some (.ins C dx fs))
    (q : LS [.ref a1, x] H (fun v H3 => ∃ t, v = .bl t ∧ Q (.bl (if neg then !t else t)) H3) (WE W σ)) : wpAny (model X.prog X.w) X.A (compareOp (if neg then .NotIn else .In) v u) (EP X pins σ Q) X.xe s := by
  obtain ⟨f, fd, hM, hF, hB, F⟩ := G.ex
  subst ex
  obtain rfl : u = Value.ref a1 := ry
  obtain ⟨m, fr⟩ := fr_of I2
  obtain ⟨ox, od, J⟩ := insX I2 ea
  have body := call_own F hr hB tk I2 (us := [.ref a1, v]) (vs := [.ref a1, x]) (.cons rfl (.cons rx .nil)) q
  have main : wpAny (model X.prog X.w) X.A (contains (.ref a1) v) (fun t s3 => EP X pins σ Q (.bool (if neg then !t else t)) s3) X.xe s := by
    refine PySem.W.contains_K fr I2.ok.mod.kin J hM.at_ hM.fn (wpAny_mono body (fun r s3 z => ?_) fun _ _ z => z)
    obtain ⟨v3, H3, I3, rv, t, rfl, q3⟩ := z
    obtain rfl : r = Value.bool t := rv
    exact wpAny_truthy_bool ⟨.bl _, H3, I3, rfl, q3⟩
  cases neg with
  | false => exact wpAny_bind (wpAny_mono main (fun t s3 z => wpAny_pure z) fun _ _ z => z)
  | true => exact wpAny_bind (wpAny_mono main (fun t s3 z => wpAny_pure z) fun _ _ z => z)
theorem qinS (neg : Bool) (G : MFnS X.prog X.w X.K X.mg X.base C "__contains__" ps lv LS) (hs : SpecL X.K LS k r') (hr : Room lv X.A) (tk : Takes X W) (ha : PE X a (liftE X.K W ta ka)) (hb : PE X b (liftE X.K W tb kb)) (hmk : behindInMarks (if neg then .NotIn else .In) b = false := by rfl) :
    PE X (.Compare a [if neg then .NotIn else .In] [b] pos) (liftE X.K W (tOwn2r C r' (finB fun t => if neg then !t else t) ta tb) (ka + kb + k)) := by
  refine PE.imp (t := fun σ H Q => liftE X.K W ta ka σ H fun y H1 => liftE X.K W tb kb σ H1 fun x H2 => ∃ a dx fs, x = .ref a ∧ H2 a = some (.ins C dx fs) ∧ LS [.ref a, y] H2 (fun v H3 => ∃ t, v = .bl t ∧ Q (.bl (if neg then !t else t)) H3) (WE W σ)) ⟨fun pins s σ H Q I h => ?_⟩ fun σ H Q h => own2r_lift hs finBL h
  exact wpAny_Compare1 (binT ha hb I h fun v u s2 x y H2 I2 rx ry ⟨a1, dx, fs, ex, ea, q⟩ => in_run neg G hr tk I2 rx ry ex ea q) hmk
theorem qtinS (neg : Bool) (G : MFnS X.prog X.w X.K X.mg X.base C "__contains__" ps lv LS) (hs : SpecL X.K LS k r') (hr : Room lv X.A) (tk : Takes X W) (ha : PE X a (liftE X.K W ta ka)) (hb : PE X b (liftE X.K W tb kb)) (hmk : behindInMarks (if neg then .NotIn else .In) b = false := by rfl) :
    PT X (.Compare a [if neg then .NotIn else .In] [b] pos) (liftT X.K W (tTst (tOwn2r C r' (finB fun t => if neg then !t else t) ta tb)) (ka + kb + k)) := by
  refine PT.imp (t := fun σ H Q => liftE X.K W ta ka σ H fun y H1 => liftE X.K W tb kb σ H1 fun x H2 => ∃ a dx fs, x = .ref a ∧ H2 a = some (.ins C dx fs) ∧ LS [.ref a, y] H2 (fun v H3 => ∃ t, v = .bl t ∧ (fun x H' => ∃ k, x = V.bl k ∧ Q k H') (.bl (if neg then !t else t)) H3) (WE W σ)) ⟨fun pins s σ H Q I h => ?_⟩ fun σ H Q h => own2r_lift hs finBL (tst_lift h)
  refine wpAny_isTrue_Compare1 (thn (ha.run pins s σ H _ I h) fun v s1 ⟨x, H1, I1, r1, q1⟩ => thn (hb.run pins s1 σ H1 _ I1 q1) fun u s2 ⟨y, H2, I2, r2, a1, dx, fs, ex, ea, q⟩ => thn (in_run (Q := fun x H' => ∃ k, x = V.bl k ∧ Q k H') neg G hr tk I2 r1 r2 ex ea q) fun c s3 ⟨z, H3, I3, r3, k, e, q3⟩ => ?_) hmk
  subst e
  cases r3
  exact wpAny_truthy_bool ⟨H3, I3, q3⟩
/-- a + b -/
theorem qaddS (G : MFnS X.prog X.w X.K X.mg X.base C "__add__" ps lv LS) (hs : SpecL X.K LS k r') (sf : PySem.W.selfFirst X.K C = true) (hr : Room lv X.A) (tk : Takes X W) (ha : PE X a (liftE X.K W ta ka)) (hb : PE X b (liftE X.K W tb kb)) :
    PE X (.BinOp a .Add b pos) (liftE X.K W (fun env S Φ Ψ => ta env S (fun u S1 => tb env S1 (fun y S2 => match rdI u S2, rdI y S2 with
      | some (C', _), some (C2, _) => (C' = C ∧ C2 = C) ∧ r' [u, y] S2 Φ Ψ
      | _, _ => False) Ψ) Ψ) (ka + kb + k)) := by
  obtain ⟨f, fd, hM, hF, hB, F⟩ := G.ex
  refine PE.imp (t := fun σ H Q => liftE X.K W ta ka σ H fun x H1 => liftE X.K W tb kb σ H1 fun y H2 => ∃ a d1 f1 a2 d2 f2, x = .ref a ∧ y = .ref a2 ∧ H2 a = some (.ins C d1 f1) ∧ H2 a2 = some (.ins C d2 f2) ∧ LS [.ref a, y] H2 Q (WE W σ)) ⟨fun pins s σ H Q I h => ?_⟩ fun σ H Q h => ?_
  · refine wpAny_BinOp (binT ha hb I h fun v u s2 x y H2 I2 rx ry ⟨a1, d1, f1, a2, d2, f2, ex, ey, e1, e2, q⟩ => ?_)
    subst ex ey
    obtain rfl : v = Value.ref a1 := rx
    obtain rfl : u = Value.ref a2 := ry
    obtain ⟨m, fr⟩ := fr_of I2
    obtain ⟨ox, od, J⟩ := insX I2 e1
    obtain ⟨oy, oe, J2⟩ := insX I2 e2
    refine PySem.W.binop_K fr I2.ok.mod.kin J J2.type sf hM.at_ hM.fn (wpAny_mono (call_own F hr hB tk I2 (us := [.ref a1, .ref a2]) (vs := [.ref a1, .ref a2]) (.cons rfl (.cons rfl .nil)) q) (fun r s3 z => ?_) fun _ _ z => z)
    have z' := z
    obtain ⟨v3, H3, I3, rv, q3⟩ := z
    cases r <;> first
      | exact z'
      | (exfalso; cases v3 <;> first | (cases rv; done) | (obtain ⟨_, t⟩ := rv; cases t; done) | (obtain ⟨_, _, t⟩ := rv; cases t; done))
  · refine lift_mono (lift_bind2 (Rp := RepU X.K) (Rp2 := RepU X.K) (Rp3 := RepU X.K) (g := fun u y _ S Φ Ψ => match rdI u S, rdI y S with
      | some (C', _), some (C2, _) => (C' = C ∧ C2 = C) ∧ r' [u, y] S Φ Ψ
      | _, _ => False) stabU h) fun x H1 q1 => lift_mono q1 fun y H2 ⟨w, u, z, env, S, Φ, Ψ, hh, r1, r2, q, c⟩ => ?_
    cases eI : rdI u S with
    | none => simp only [eI] at q
    | some p =>
      cases eJ : rdI z S with
      | none => simp only [eI, eJ] at q
      | some p2 =>
        obtain ⟨C', ns⟩ := p
        obtain ⟨C2, ns2⟩ := p2
        simp only [eI, eJ] at q
        obtain ⟨⟨rfl, rfl⟩, q⟩ := q
        obtain ⟨a1, dx, vs, rfl, e1⟩ := rdI_ok hh.h r1 eI
        obtain ⟨a2, dx2, vs2, rfl, e2⟩ := rdI_ok hh.h r2 eJ
        exact ⟨a1, dx, _, a2, dx2, _, rfl, rfl, e1, e2, hs (us := [u, z]) hh (.cons r1 (.cons r2 .nil)) q c⟩
end
end Pl

namespace Pl
open PySem PySem.Spec PyProof.Rows L2 TL

/-! ### methods of lists and dicts that stand at places -/
abbrev RMo := MO → List U → SS → (U → MO → Prop) → Prop
def MmL (K : PySem.W.Frag) (r : V → List V → Hp → VK → Prop) (gm : RMo) : Prop :=
  ∀ {w : Wd} {S : SS} {H : Hp} {a : Addr} {ho : HO} {m : MO} {vs : List V} {us : List U} {kt : U → MO → Prop} {Q : VK}, HRel K w S H → H a = some ho → RepO K w ho m → RepUs K w vs us → gm m us S kt →
    (∀ z m', kt z m' → ∀ v ho', RepU K w v z → RepO K w ho' m' → Q v (upd H a ho')) → r (.ref a) vs H Q
def moB (T : String) (S : SS) (i : Nat) : Bool := match S[i]? with
  | some (some (.lst _)) => T == "list"
  | some (some (.lsu _)) => T == "list"
  | some (some (.dic _ _)) => T == "dict"
  | _ => false
def tMm' (T : String) (gm : RMo) (to : TE') (ta : TA') : TE' := fun env S Φ Ψ => to env S (fun u S1 => match u with
  | .r i => match moB T S1 i with
    | true => ta env S1 (fun us S2 => match S2[i]? with
      | some (some m) => gm m us S2 (fun z m' => Φ z (S2.set i (some m')))
      | _ => False) Ψ
    | false => False
  | _ => False) Ψ
section
variable {X : Cx} {W : WX} {pos p apos cpos : Pos} {e o : Expr} {es : List Expr} {to : TE'} {ta : TA'} {k ka kb : Nat} {T id : String} {name : Str} {r : V → List V → Hp → VK → Prop} {gm : RMo}
theorem moB_ty {K : PySem.W.Frag} {w : Wd} {S : SS} {H : Hp} (h : HRel K w S H) {i : Nat} (e : moB T S i = true) : ∃ a, w.A[i]? = some (some a) ∧ tyV K T (.ref a) H := by
  unfold moB at e
  split at e
  · rename_i q
    obtain ⟨A, hA, ⟨ho, ea, vs, rfl, rr⟩, _⟩ := h.live i _ q
    exact ⟨A, hA, .inl ⟨by simpa using e, vs, SqL.of ea⟩⟩
  · rename_i q
    obtain ⟨A, hA, ⟨ho, ea, vs, rfl, rr⟩, _⟩ := h.live i _ q
    exact ⟨A, hA, .inl ⟨by simpa using e, vs, SqL.of ea⟩⟩
  · rename_i q
    obtain ⟨A, hA, ⟨ho, ea, vs, rfl, rr⟩, _⟩ := h.live i _ q
    exact ⟨A, hA, .inr (.inr (.inl ⟨by simpa using e, .inl ⟨_, ea⟩⟩))⟩
  · cases e
theorem mm_lift (hl : MmL X.K r gm) {σ : L2.St} {H : Hp} {Q : VK} (h : liftE X.K W (tMm' T gm to ta) (ka + kb) σ H Q) : tBM X.K T r (liftE X.K W to ka) (liftA X.K W ta kb) σ H Q := by
  obtain ⟨w, env, S, Φ, Ψ, hr, hE, hl', q, c⟩ := h
  refine ⟨w, env, S, _, Ψ, hr, hE, by omega, q, ⟨fun u S1 q1 w1 v H1 x1 xa1 h1 r1 => ?_, fun z S1 q1 w1 C d H1 x1 xa1 h1 r1 => c.xx z S1 q1 w1 C d H1 (x1.le (by omega)) xa1 h1 r1⟩⟩
  cases u with
  | d _ => exact q1.elim
  | tup _ => exact q1.elim
  | r i =>
    cases e1 : moB T S1 i with
    | false => simp only [e1] at q1
    | true =>
      simp only [e1] at q1
      obtain ⟨A, hA, ty⟩ := moB_ty h1 e1
      obtain ⟨A', hA2, rfl⟩ := id r1
      rw [hA] at hA2; cases hA2
      refine ⟨ty, w1, env, S1, _, Ψ, h1, hE.ext x1 xa1, by have := x1.n; omega, q1, ⟨fun us S2 q2 w2 vs2 H2 x2 xa2 h2 r2 => ?_, fun z S2 q2 w2 C d H2 x2 xa2 h2 r2 => c.xx z S2 q2 w2 C d H2 (x1.trans x2) (xa1.trans xa2) h2 r2⟩⟩
      cases e2 : S2[i]? with
      | none => simp only [e2] at q2
      | some om =>
        cases om with
        | none => simp only [e2] at q2
        | some m =>
          simp only [e2] at q2
          obtain ⟨B, hB1, ⟨ho, eb, rr⟩, _⟩ := h2.live i _ e2
          rw [xa2 i A hA] at hB1; cases hB1
          exact hl h2 eb rr r2 q2 fun z m' kt v ho' rv ro => c.ok z _ kt w2 v _ (x1.trans x2) (xa1.trans xa2) (h2.put e2 (xa2 i A hA) ro) rv
theorem qmm (pa : PlainAttrs T) (slot : Slot T name id) (hty : typeOf (.builtin id) = pure (.type "method_descriptor")) (hm : MtR X id r) (hl : MmL X.K r gm) (ho : PE X o (liftE X.K W to ka)) (ha : PA X (e :: es) (liftA X.K W ta kb))
    (hbase : attributeBase o name X.env (eval o X.env) = eval o X.env := by rfl)
    (hfew : ((backTo cpos (starEach (e :: es) X.env)).all (fun x => !x.1) && (backToKw cpos (keywordEach [] X.env)).all (fun x => x.1.isSome)
      && decide ((e :: es).length + ([] : List Keyword).length + (if ([] : List Keyword).isEmpty then 0 else 1) < 30)) = true := by rfl)
    (hline : (apos.endLine == cpos.line) = true := by rfl) (hs : starEach (e :: es) X.env = (false, eval e X.env) :: starEach es X.env := by rfl) (hplain : (backTo cpos (starEach es X.env)).any (·.1) = false := by rfl) :
    PE X (.Call (.Attribute o name apos) (e :: es) [] cpos) (liftE X.K W (tMm' T gm to ta) (ka + kb)) :=
  PE.imp (pe_bm pa slot hty hm ho ha hbase hfew hline hs hplain) fun _ _ _ h => mm_lift hl h
theorem qmm0 (pa : PlainAttrs T) (slot : Slot T name id) (hty : typeOf (.builtin id) = pure (.type "method_descriptor")) (hm : MtR X id r) (hl : MmL X.K r gm) (ho : PE X o (liftE X.K W to ka))
    (hbase : attributeBase o name X.env (eval o X.env) = eval o X.env := by rfl) (hline : (apos.endLine == cpos.line) = true := by rfl) :
    PE X (.Call (.Attribute o name apos) [] [] cpos) (liftE X.K W (tMm' T gm to tNil') (ka + 0)) :=
  PE.imp (pe_bm0 pa slot hty hm ho hbase hline) fun σ H Q h => lift_mono (mm_lift (kb := 0) hl h) fun x H1 ⟨ty, q⟩ => ⟨ty, pure_lift (Rp := RepUs X.K) (a := ([] : List V)) (b := ([] : List U)) q fun _ => .nil⟩
end
/-! the methods -/
def gInsert : RMo := fun m us S kt => match us with
  | [.d (.int i), y] => (0 ≤ i ∧ i < 2 ^ 63) ∧ (match m with
    | .lst ds => (match y with
      | .d d => ds.length < sizeLine ∧ kt (.d .non) (.lst (ds.take i.toNat ++ [d] ++ ds.drop i.toNat))
      | _ => False)
    | .lsu us => us.length < sizeLine ∧ kt (.d .non) (.lsu (us.take i.toNat ++ [y] ++ us.drop i.toNat))
    | _ => False)
  | _ => False
theorem insertL {K : PySem.W.Frag} : MmL K (fun x vs H Q => ∃ (l : Addr) (xs : List V) (i : Int) (y : V), x = .ref l ∧ vs = [.int i, y] ∧ H l = some (.lst xs) ∧ xs.length < sizeLine ∧ 0 ≤ i ∧ i < 2 ^ 63 ∧
    Q .non (upd H l (.lst (xs.take i.toNat ++ [y] ++ xs.drop i.toNat)))) gInsert := by
  intro w S H a ho m vs us kt Q hr ea ro ru q kk
  unfold gInsert at q
  split at q
  · rename_i i y
    obtain ⟨⟨h0, h1⟩, q⟩ := q
    cases ru with
    | cons r1 rr =>
      cases rr with
      | cons r2 rr =>
        cases rr
        have e1 := RepN.int (Rep.now hr r1)
        subst e1
        cases m with
        | dic _ _ => exact q.elim
        | ins _ _ _ => exact q.elim
        | lst ds =>
          cases y with
          | r _ => exact q.elim
          | tup _ => exact q.elim
          | d d =>
            obtain ⟨xs, rfl, rx⟩ := ro
            exact ⟨a, xs, i, _, rfl, rfl, ea, by rw [rx.length]; exact q.1, h0, h1, kk _ _ q.2 _ _ Rep.non ⟨_, rfl, ((rx.take _).app (.cons r2 .nil)).app (rx.drop _)⟩⟩
        | lsu zs =>
          obtain ⟨xs, rfl, rx⟩ := ro
          exact ⟨a, xs, i, _, rfl, rfl, ea, by rw [rx.length]; exact q.1, h0, h1, kk _ _ q.2 _ _ Rep.non ⟨_, rfl, ((rx.take _).app (.cons r2 .nil)).app (rx.drop _)⟩⟩
  · exact q.elim
theorem RepUs.rev {K : PySem.W.Frag} {w : Wd} : ∀ {vs : List V} {us : List U}, RepUs K w vs us → RepUs K w vs.reverse us.reverse
  | _, _, .nil => .nil
  | _, _, .cons h r => by
    rw [List.reverse_cons, List.reverse_cons]
    exact (RepUs.rev r).app (.cons h .nil)
theorem Reps.dropLast {K : PySem.W.Frag} {F : Hp} {J : Addr → Prop} {vs : List V} {ds : List D} (r : Reps K F J vs ds) : Reps K F J vs.dropLast ds.dropLast := by
  rw [List.dropLast_eq_take, List.dropLast_eq_take, r.length]
  exact r.take _
theorem RepUs.dropLast {K : PySem.W.Frag} {w : Wd} {vs : List V} {us : List U} (r : RepUs K w vs us) : RepUs K w vs.dropLast us.dropLast := by
  rw [List.dropLast_eq_take, List.dropLast_eq_take, r.length]
  exact r.take _
theorem Reps.erase {K : PySem.W.Frag} {F : Hp} {J : Addr → Prop} {vs : List V} {ds : List D} (r : Reps K F J vs ds) (i : Nat) : Reps K F J (vs.eraseIdx i) (ds.eraseIdx i) := by
  rw [List.eraseIdx_eq_take_drop_succ, List.eraseIdx_eq_take_drop_succ]
  exact (r.take _).app (r.drop _)
theorem RepUs.erase {K : PySem.W.Frag} {w : Wd} {vs : List V} {us : List U} (r : RepUs K w vs us) (i : Nat) : RepUs K w (vs.eraseIdx i) (us.eraseIdx i) := by
  rw [List.eraseIdx_eq_take_drop_succ, List.eraseIdx_eq_take_drop_succ]
  exact (r.take _).app (r.drop _)
/-- pop() -/
def gPop : RMo := fun m us S kt => match us with
  | [] => (match m with
    | .lst ds => ∃ d, ds[ds.length - 1]? = some d ∧ kt (.d d) (.lst ds.dropLast)
    | .lsu us => ∃ u, us[us.length - 1]? = some u ∧ kt u (.lsu us.dropLast)
    | _ => False)
  | _ => False
theorem popL {K : PySem.W.Frag} : MmL K rPop gPop := by
  intro w S H a ho m vs us kt Q hr ea ro ru q kk
  unfold gPop at q
  cases ru with
  | cons _ _ => exact q.elim
  | nil =>
    cases m with
    | dic _ _ => exact q.elim
    | ins _ _ _ => exact q.elim
    | lst ds =>
      obtain ⟨d, hd, q⟩ := q
      obtain ⟨xs, rfl, rx⟩ := ro
      obtain ⟨y, hy, ry⟩ := rx.get hd
      rw [← rx.length] at hy
      exact ⟨a, xs, y, rfl, rfl, ea, hy, kk _ _ q _ _ ry ⟨_, rfl, rx.dropLast⟩⟩
    | lsu zs =>
      obtain ⟨d, hd, q⟩ := q
      obtain ⟨xs, rfl, rx⟩ := ro
      obtain ⟨y, hy, ry⟩ := rx.get hd
      rw [← rx.length] at hy
      exact ⟨a, xs, y, rfl, rfl, ea, hy, kk _ _ q _ _ ry ⟨_, rfl, rx.dropLast⟩⟩
/-- pop(i) -/
def gPopAt : RMo := fun m us S kt => match us with
  | [.d (.int i)] => (-(2 ^ 63) ≤ i ∧ i < 2 ^ 63) ∧ (match m with
    | .lst ds => ∃ j d, ixN ds.length i = some j ∧ ds[j]? = some d ∧ kt (.d d) (.lst (ds.eraseIdx j))
    | .lsu us => ∃ j u, ixN us.length i = some j ∧ us[j]? = some u ∧ kt u (.lsu (us.eraseIdx j))
    | _ => False)
  | _ => False
theorem popAtL {K : PySem.W.Frag} : MmL K rPopAt gPopAt := by
  intro w S H a ho m vs us kt Q hr ea ro ru q kk
  unfold gPopAt at q
  split at q
  · rename_i i
    obtain ⟨⟨h0, h1⟩, q⟩ := q
    cases ru with
    | cons r1 rr =>
      cases rr
      have e1 := RepN.int (Rep.now hr r1)
      subst e1
      cases m with
      | dic _ _ => exact q.elim
      | ins _ _ _ => exact q.elim
      | lst ds =>
        obtain ⟨j, d, hj, hd, q⟩ := q
        obtain ⟨xs, rfl, rx⟩ := ro
        obtain ⟨y, hy, ry⟩ := rx.get hd
        rw [← rx.length] at hj
        exact ⟨a, xs, i, j, y, rfl, rfl, ea, h0, h1, (ixN_seq hj).1, hy, kk _ _ q _ _ ry ⟨_, rfl, rx.erase _⟩⟩
      | lsu zs =>
        obtain ⟨j, d, hj, hd, q⟩ := q
        obtain ⟨xs, rfl, rx⟩ := ro
        obtain ⟨y, hy, ry⟩ := rx.get hd
        rw [← rx.length] at hj
        exact ⟨a, xs, i, j, y, rfl, rfl, ea, h0, h1, (ixN_seq hj).1, hy, kk _ _ q _ _ ry ⟨_, rfl, rx.erase _⟩⟩
  · exact q.elim
/-- extend(list) -/
def gExtend : RMo := fun m us S kt => match us with
  | [y] => (match m, rd y S with
    | .lst ds, some (.lst es) => ds.length + es.length ≤ sizeLine ∧ kt (.d .non) (.lst (ds ++ es))
    | _, _ => False)
  | _ => False
theorem extendL {K : PySem.W.Frag} : MmL K rExtend gExtend := by
  intro w S H a ho m vs us kt Q hr ea ro ru q kk
  unfold gExtend at q
  split at q
  · rename_i y
    cases ru with
    | cons r1 rr =>
      cases rr
      split at q
      · rename_i ds es hy
        obtain ⟨xs, rfl, rx⟩ := ro
        obtain ⟨b, zs, rfl, eb, rz⟩ := rd_ok hr r1 hy
        exact ⟨a, b, xs, zs, rfl, rfl, ea, eb, by rw [rx.length, rz.length]; exact q.1, kk _ _ q.2 _ _ Rep.non ⟨_, rfl, rx.app rz⟩⟩
      · exact q.elim
  · exact q.elim
def gReverse : RMo := fun m us S kt => match us with
  | [] => (match m with
    | .lst ds => kt (.d .non) (.lst ds.reverse)
    | .lsu us => kt (.d .non) (.lsu us.reverse)
    | _ => False)
  | _ => False
theorem reverseL {K : PySem.W.Frag} : MmL K rReverse gReverse := by
  intro w S H a ho m vs us kt Q hr ea ro ru q kk
  unfold gReverse at q
  cases ru with
  | cons _ _ => exact q.elim
  | nil =>
    cases m with
    | dic _ _ => exact q.elim
    | ins _ _ _ => exact q.elim
    | lst ds => obtain ⟨xs, rfl, rx⟩ := ro; exact ⟨a, xs, rfl, rfl, ea, kk _ _ q _ _ Rep.non ⟨_, rfl, Reps.rev rx⟩⟩
    | lsu zs => obtain ⟨xs, rfl, rx⟩ := ro; exact ⟨a, xs, rfl, rfl, ea, kk _ _ q _ _ Rep.non ⟨_, rfl, RepUs.rev rx⟩⟩
def gClear : RMo := fun m us S kt => match us with
  | [] => (match m with
    | .lst ds => kt (.d .non) (.lst [])
    | .lsu us => kt (.d .non) (.lsu [])
    | _ => False)
  | _ => False
theorem clearL {K : PySem.W.Frag} : MmL K rClear gClear := by
  intro w S H a ho m vs us kt Q hr ea ro ru q kk
  unfold gClear at q
  cases ru with
  | cons _ _ => exact q.elim
  | nil =>
    cases m with
    | dic _ _ => exact q.elim
    | ins _ _ _ => exact q.elim
    | lst ds => obtain ⟨xs, rfl, rx⟩ := ro; exact ⟨a, xs, rfl, rfl, ea, kk _ _ q _ _ Rep.non ⟨_, rfl, .nil⟩⟩
    | lsu zs => obtain ⟨xs, rfl, rx⟩ := ro; exact ⟨a, xs, rfl, rfl, ea, kk _ _ q _ _ Rep.non ⟨_, rfl, .nil⟩⟩
end Pl

namespace Pl
open PySem PySem.Spec PyProof.Rows L2 TL

/-! ### dicts written out -/
def toKey : D → Option Key
  | .int i => some (.inl i)
  | .str l => some (.inr ⟨l.toArray⟩)
  | _ => none
theorem toKey_ok {K : PySem.W.Frag} {F : Hp} {J : Addr → Prop} {v : V} {d : D} {k : Key} (r : Rep K F J v d) (e : toKey d = some k) : v = kV k := by
  cases d <;> first | (cases e; done) | skip
  · cases r; cases e; rfl
  · cases e
    have r' := RepN.str (K := K) (w := ⟨F, J, [], fun _ => none, 0, []⟩) (H := F) (show RepN K ⟨F, J, [], fun _ => none, 0, []⟩ F v (.str _) from r)
    rw [r']; rfl
def mkDic (kind : Option Nat) (ks : List Key) (ds : List D) (S : SS) (Φ : U → SS → Prop) : Prop := match kind with
  | none => Φ (.d (.dic ks ds)) S
  | some _ => Φ (.r S.length) (S ++ [some (.dic ks ds)])
def nodupK : List Key → Bool
  | [] => true
  | k :: ks => (ks.all fun j => decide (j ≠ k)) && nodupK ks
theorem nodupK_cons {k : Key} {ks : List Key} (h : nodupK (k :: ks) = true) : k ∉ ks ∧ nodupK ks = true := by
  simp only [nodupK, Bool.and_eq_true, List.all_eq_true, decide_eq_true_eq] at h
  exact ⟨fun z => h.1 k z rfl, h.2⟩
theorem putK_new {ks : List Key} {vs : List V} {k : Key} {v : V} (h : k ∉ ks) (l : ks.length = vs.length) : putK (ks.zip vs) k v = (ks ++ [k]).zip (vs ++ [v]) := by
  unfold putK
  rw [if_neg, List.zip_append l]; rfl
  rw [Bool.not_eq_true, List.any_eq_false]
  intro p hp
  have := (List.of_mem_zip (a := p.1) (b := p.2) (by simpa using hp)).1
  simp only [decide_eq_true_eq]
  intro z; subst z; exact h this
theorem mergeK_new : ∀ {ks js : List Key} {vs ws : List V}, nodupK js = true → (∀ k ∈ js, k ∉ ks) → ks.length = vs.length → js.length = ws.length → mergeK (ks.zip vs) (js.zip ws) = (ks ++ js).zip (vs ++ ws)
  | ks, [], vs, [], _, _, l, _ => by simp [mergeK]
  | ks, [], vs, _ :: _, _, _, _, l2 => by cases l2
  | ks, _ :: _, vs, [], _, _, _, l2 => by cases l2
  | ks, j :: js, vs, w :: ws, hn, hd, l, l2 => by
    have h1 : j ∉ js ∧ nodupK js = true := nodupK_cons hn
    show mergeK (putK (ks.zip vs) j w) (js.zip ws) = _
    rw [putK_new (hd j (by simp)) l, mergeK_new (ks := ks ++ [j]) (vs := vs ++ [w]) h1.2 (fun k hk z => ?_) (by simp [l]) (by simpa using l2)]
    · simp
    · rcases List.mem_append.mp z with z | z
      · exact hd k (by simp [hk]) z
      · rw [List.mem_singleton.mp z] at hk; exact h1.1 hk
/-- pairs, from the left -/
def tPr' : List (TE' × TE') → TG' (List (U × U))
  | [] => fun _ S Φ _ => Φ [] S
  | (tk, tv) :: r => fun env S Φ Ψ => tk env S (fun x S1 => tv env S1 (fun y S2 => tPr' r env S2 (fun ps S3 => Φ ((x, y) :: ps) S3) Ψ) Ψ) Ψ
def kvD : List (U × U) → Option (List Key × List D)
  | [] => some ([], [])
  | (.d x, .d y) :: r => match toKey x, kvD r with
    | some k, some (ks, ds) => some (k :: ks, y :: ds)
    | _, _ => none
  | _ :: _ => none
def tDict' (kind : Option Nat) (trs : List (TE' × TE')) : TE' := fun env S Φ Ψ => tPr' trs env S (fun ps S1 => match kvD ps with
  | some (ks, ds) => (nodupK ks = true ∧ ks.length ≤ 15) ∧ mkDic kind ks ds S1 Φ
  | none => False) Ψ
inductive RepPs (K : PySem.W.Frag) (w : Wd) : List (V × V) → List (U × U) → Prop
  | nil : RepPs K w [] []
  | cons {v y : V} {u z : U} {ps : List (V × V)} {us : List (U × U)} : RepU K w v u → RepU K w y z → RepPs K w ps us → RepPs K w ((v, y) :: ps) ((u, z) :: us)
theorem kvD_ok {K : PySem.W.Frag} {w : Wd} : ∀ {ps : List (V × V)} {us : List (U × U)} {ks : List Key} {ds : List D}, RepPs K w ps us → kvD us = some (ks, ds) → ∃ vs, ps = (ks.zip vs).map (fun kv => (kV kv.1, kv.2)) ∧ ks.length = vs.length ∧ Reps K w.F w.J vs ds
  | _, _, ks, ds, .nil, e => by
    simp [kvD] at e
    obtain ⟨rfl, rfl⟩ := e
    exact ⟨[], rfl, rfl, .nil⟩
  | _, _, ks, ds, @RepPs.cons _ _ v y u z ps us r1 r2 rr, e => by
    cases u with
    | r _ => simp [kvD] at e
    | tup _ => simp [kvD] at e
    | d x =>
      cases z with
      | r _ => simp [kvD] at e
      | tup _ => simp [kvD] at e
      | d q =>
        cases e1 : toKey x with
        | none => simp [kvD, e1] at e
        | some k =>
          cases e2 : kvD us with
          | none => simp [kvD, e1, e2] at e
          | some p =>
            obtain ⟨ks2, ds2⟩ := p
            simp [kvD, e1, e2] at e
            obtain ⟨rfl, rfl⟩ := e
            obtain ⟨vs, rfl, l, r3⟩ := kvD_ok rr e2
            have r1' : Rep K w.F w.J v x := r1
            exact ⟨y :: vs, by rw [toKey_ok r1' e1]; rfl, by simp [l], .cons r2 r3⟩
def toTE (K : PySem.W.Frag) (W : WX) : List (TE' × TE') → List (TE × TE)
  | [] => []
  | p :: r => (liftE K W p.1 0, liftE K W p.2 0) :: toTE K W r
theorem RepPs.ext {K : PySem.W.Frag} {w w' : Wd} {k : Nat} (x : Ext k w w') : ∀ {ps : List (V × V)} {us : List (U × U)}, RepPs K w ps us → RepPs K w' ps us
  | _, _, .nil => .nil
  | _, _, .cons h1 h2 r => .cons (h1.ext x x.A) (h2.ext x x.A) (RepPs.ext x r)
theorem pairs_lift {K : PySem.W.Frag} {W : WX} : ∀ {trs : List (TE' × TE')} {σ : L2.St} {H : Hp} {Q : List (V × V) → Hp → Prop}, lift (RepPs K) K W (tPr' trs) 0 σ H Q → tPairs (toTE K W trs) σ H Q
  | [], σ, H, Q, ⟨w, env, S, Φ, Ψ, hr, hE, hl, q, c⟩ => c.here ⟨hr, hE, hl⟩ q .nil
  | (tk, tv) :: r, σ, H, Q, ⟨w, env, S, Φ, Ψ, hr, hE, hl, q, c⟩ => by
    refine ⟨w, env, S, _, Ψ, hr, hE, hl, q, ⟨fun u S1 q1 w1 v H1 x1 xa1 h1 r1 => ?_, fun z S1 q1 w1 C d H1 x1 xa1 h1 r1 => c.xx z S1 q1 w1 C d H1 x1 xa1 h1 r1⟩⟩
    refine ⟨w1, env, S1, _, Ψ, h1, hE.ext x1 xa1, by have := x1.n; omega, q1, ⟨fun y S2 q2 w2 v2 H2 x2 xa2 h2 r2 => ?_, fun z S2 q2 w2 C d H2 x2 xa2 h2 r2 => c.xx z S2 q2 w2 C d H2 (x1.trans x2) (xa1.trans xa2) h2 r2⟩⟩
    have x12 := x1.trans x2
    refine pairs_lift (trs := r) ⟨w2, env, S2, _, Ψ, h2, (hE.ext x1 xa1).ext x2 xa2, by have := x12.n; omega, q2, ⟨fun ps S3 q3 w3 vs H3 x3 xa3 h3 r3 => ?_, fun z S3 q3 w3 C d H3 x3 xa3 h3 r3 => c.xx z S3 q3 w3 C d H3 (x12.trans x3) ((xa1.trans xa2).trans xa3) h3 r3⟩⟩
    exact c.ok _ S3 q3 w3 _ H3 (x12.trans x3) ((xa1.trans xa2).trans xa3) h3 (.cons ((r1.ext x2 xa2).ext x3 xa3) (r2.ext x3 xa3) r3)
section
variable {X : Cx} {W : WX} {pos : Pos}
theorem coDic {K : PySem.W.Frag} {kind : Option Nat} {ks : List Key} {ds : List D} {vs : List V} {w : Wd} {S : SS} {H : Hp} {σ : L2.St} {Φ : U → SS → Prop} {Ψ : XX} {Q : VK} {p : Addr} (c : Co (RepU K) K W 0 w σ Φ Ψ Q) (h : HRel K w S H) (a : Apart w p) (l : ks.length = vs.length) (r : Reps K w.F w.J vs ds)
    (q : mkDic kind ks ds S Φ) : Q (.ref p) (upd H p (.dK (ks.zip vs))) := by
  have h1 := h.upd_apart (o := .dK (ks.zip vs)) a
  cases kind with
  | none =>
    obtain ⟨x, h'⟩ := h1.adopt a upd_same
    exact c.ok _ S q _ _ _ x x.A h' (show RepU K _ _ (.d _) from .dic (show upd w.F p _ p = _ from upd_same) l (r.ext x))
  | some i => exact c.ok _ _ q (w.push p) _ _ Ext.push ExtA.push (h1.adoptAt a upd_same ⟨vs, rfl, l, r⟩) ⟨p, push_at h1, rfl⟩
theorem qdict0 {kind : Option Nat} : PE X (.Dict [] [] pos) (liftE X.K W (fun _ S Φ _ => mkDic kind [] [] S Φ) 0) :=
  PE.imp pe_dnewK fun σ H Q ⟨w, env, S, Φ, Ψ, hr, hE, hl, q, c⟩ p hp => coDic (vs := []) c hr (hr.apart hp) rfl .nil q
theorem qpp_nil : PPs X pos [] [] (toTE X.K W []) := pps_nil
theorem qpp_cons {k v : Expr} {ks : List (Option Expr)} {vs : List Expr} {tk tv : TE'} {trs : List (TE' × TE')} (hk : PE X k (liftE X.K W tk 0)) (hv : PE X v (liftE X.K W tv 0)) (hr : PPs X pos ks vs (toTE X.K W trs)) :
    PPs X pos (some k :: ks) (v :: vs) (toTE X.K W ((tk, tv) :: trs)) := pps_cons hk hv hr
theorem qdict {kind : Option Nat} {keys : List (Option Expr)} {values : List Expr} {trs : List (TE' × TE')} (h : PPs X pos keys values (toTE X.K W trs)) (hall : keys.all (·.isSome) = true := by rfl) (hl : keys.length = values.length := by rfl) (h0 : keys ≠ [] := by exact fun z => by cases z) (h15 : keys.length ≤ 15 := by decide) (hm : trs.length ≤ 15 := by decide) :
    PE X (.Dict keys values pos) (liftE X.K W (tDict' kind trs) 0) := by
  refine PE.imp (pe_disp h hall hl h0 h15) fun σ H Q ⟨w, env, S, Φ, Ψ, hr, hE, hl, q, c⟩ p hp => ?_
  have ap := hr.apart hp
  have hg := (hr.upd_apart (o := .dK []) ap).guard ap upd_same
  refine pairs_lift ⟨w.guard p (.dK []), env, S, _, Ψ, hg, EnvR.toA (w := w) (w' := w.guard p (.dK [])) (Same.refl _) (fun _ j => j) (fun _ _ e => e) hE, hl, q, ⟨fun ps S1 q1 w1 vs H1 x xa h1 r1 => ?_, fun z S1 q1 w1 C d H1 x xa h1 r1 => ?_⟩⟩
  · obtain ⟨x2, xa2, h2, hD, a2⟩ := HRel.unguard (S := S) (H := H) ap x xa h1
    cases e : kvD ps with
    | none => simp only [e] at q1
    | some kd =>
      obtain ⟨ks, ds⟩ := kd
      simp only [e] at q1
      obtain ⟨ws, e2, l2, r2⟩ := kvD_ok r1 e
      have hlen : (ks.zip ws).length ≤ 15 := by
        have := q1.1.2
        rw [List.length_zip]; omega
      refine ⟨hD, ks.zip ws, e2, hlen, ?_⟩
      rw [show mergeK [] (ks.zip ws) = ks.zip ws from by
        have := mergeK_new (ks := []) (js := ks) (vs := []) (ws := ws) q1.1.1 (fun _ _ z => by cases z) rfl l2
        simpa using this]
      exact coDic (c.ext (j := 0) (k := 0) x2 xa2) h2 a2 l2 r2 q1.2
  · obtain ⟨x2, xa2, h2, hD, a2⟩ := HRel.unguard (S := S) (H := H) ap x xa h1
    exact c.xx z S1 q1 (w.unguard w1) C d H1 x2 xa2 h2 r1
end
end Pl

namespace Pl
open PySem PySem.Spec PyProof.Rows L2 TL
section
variable {g : TGt'} {tt : TT'} {te : TE'} {env : Env} {S : SS} {Φ : List D → SS → Prop}
/-- a comprehension with a test -/
theorem compD_filt {α : Type} (a : α → D) (p : α → Bool) (f : α → D) : ∀ (l : List α) (acc : List D), (∀ x ∈ l, ∀ rest acc, (if p x = true then compD g tt te rest env S (acc ++ [f x]) Φ else compD g tt te rest env S acc Φ) → compD g tt te (a x :: rest) env S acc Φ) →
    Φ (acc ++ (l.filter p).map f) S → compD g tt te (l.map a) env S acc Φ
  | [], acc, _, h => by simpa [compD] using h
  | d :: rest, acc, st, h => by
    refine st d (by simp) _ acc ?_
    have ih := fun acc => compD_filt a p f rest acc (fun e he => st e (by simp [he]))
    cases e : p d with
    | true => rw [if_pos rfl]; exact ih _ (by simpa [List.filter_cons, e] using h)
    | false => rw [if_neg (by simp)]; exact ih _ (by simpa [List.filter_cons, e] using h)
end
theorem joinL_strs (l : List Nat) : joinL [] (l.map fun c => [c]) = l := by
  rw [joinL_nil]
  induction l with
  | nil => rfl
  | cons c l ih => simp [ih]
theorem sum_ones (l : List Nat) : ((l.map fun c => [c]).map List.length).sum = l.length := by
  induction l with
  | nil => rfl
  | cons c l ih => simp only [List.map_cons, List.sum_cons, ih, List.length_cons, List.length_nil]; omega
theorem sep0 : tl (Str.ofString "") = [] := rfl
theorem joinB {l : List Nat} (h : l.length ≤ 1000000) : ((l.map fun c => [c]).map List.length).sum + (l.map fun c => [c]).length * (tl (Str.ofString "")).length ≤ 1000000 := by
  rw [sum_ones, sep0, List.length_nil, Nat.mul_zero]; exact h
/-- data without objects -/
def plN : Nat → D → Bool
  | _, .non => true
  | _, .bl _ => true
  | _, .int _ => true
  | _, .str _ => true
  | n + 1, .tup ds => ds.all (plN n)
  | n + 1, .lst ds => ds.all (plN n)
  | _, _ => false
theorem eqR_refl : ∀ (n : Nat) (d : D), plN n d = true → EqR n d d true
  | _, .non, _ => .sc rfl
  | _, .bl b, _ => .sc (by simp [scEq])
  | _, .int i, _ => .sc (by simp [scEq])
  | _, .str l, _ => .sc (by simp [scEq])
  | n + 1, .tup ds, h => by
    have := EqR.tup (n := n) (ds := ds) (es := ds) (fun _ => true) (fun i x y hx hy => by
      rw [hx] at hy; cases hy
      exact eqR_refl n x (List.all_eq_true.mp h x (List.mem_of_getElem? hx)))
    have e : ((List.range ds.length).all fun _ => true) = true := List.all_eq_true.mpr fun _ _ => rfl
    simpa [e] using this
  | n + 1, .lst ds, h => by
    have := EqR.lst (n := n) (ds := ds) (es := ds) (fun _ => true) rfl (fun i x y hx hy => by
      rw [hx] at hy; cases hy
      exact eqR_refl n x (List.all_eq_true.mp h x (List.mem_of_getElem? hx)))
    have e : ((List.range ds.length).all fun _ => true) = true := List.all_eq_true.mpr fun _ _ => rfl
    rw [e] at this; exact this
  | 0, .tup _, h => by cases h
  | 0, .lst _, h => by cases h
  | 0, .obj .., h => by cases h
  | 0, .dic .., h => by cases h
  | 0, .scr .., h => by cases h
  | 0, .ty .., h => by cases h
  | 0, .cls .., h => by cases h
  | 0, .jar, h => by cases h
  | 0, .exn .., h => by cases h
  | 0, .err .., h => by cases h
  | _ + 1, .obj .., h => by cases h
  | _ + 1, .dic .., h => by cases h
  | _ + 1, .scr .., h => by cases h
  | _ + 1, .ty .., h => by cases h
  | _ + 1, .cls .., h => by cases h
  | _ + 1, .jar, h => by cases h
  | _ + 1, .exn .., h => by cases h
  | _ + 1, .err .., h => by cases h
theorem eqD_refl (n : Nat) {d : D} (h : plN n d = true) (hn : n ≤ 60 := by decide) : EqD d d true := eqD_R (eqR_refl n d h) hn
end Pl

namespace Pl
open PySem PySem.Spec PyProof.Rows L2 TL

/-! ### a walk over a list at a place, which stays as it is meanwhile -/
structure WalkO (K : PySem.W.Frag) (w : Wd) (J : It) (ds : List D) (ok : SS → Prop) : Prop where
  go : ∀ (i : Nat) (w1 : Wd) (S1 : SS) (H1 : Hp), Gr w w1 → ExtA w w1 → HRel K w1 S1 H1 → ok S1 → i < ds.length → J.go i H1
  yld : ∀ (i : Nat) (w1 : Wd) (S1 : SS) (H1 : Hp) (d : D) (x : V) (H2 : Hp), Gr w w1 → ExtA w w1 → HRel K w1 S1 H1 → ok S1 → ds[i]? = some d → J.yld i H1 x H2 → ∃ w2, Ext 0 w1 w2 ∧ ExtA w1 w2 ∧ HRel K w2 S1 H2 ∧ Rep K w2.F w2.J x d
  stop : ∀ (w1 : Wd) (S1 : SS) (H1 : Hp), Gr w w1 → ExtA w w1 → HRel K w1 S1 H1 → ok S1 → J.stop ds.length H1
abbrev TIo := TG' (List D × (SS → Prop))
abbrev RpO (K : PySem.W.Frag) : RP It (List D × (SS → Prop)) := fun w J p => WalkO K w J p.1 p.2
abbrev liftIo (K : PySem.W.Frag) (W : WX) (t : TIo) (k : Nat) : TI := lift (RpO K) K W t k
section
variable {X : Cx} {W : WX} {pos p : Pos} {tg e : Expr} {ta : TE'} {k : Nat}
def tSeqO' (ta : TE') : TIo := fun env S Φ Ψ => ta env S (fun u S1 => match u with
  | .r i => (match slotL S1 i with
    | some ds => Φ (ds, fun S => slotL S i = some ds) S1
    | none => False)
  | _ => False) Ψ
theorem qi_seqO (he : PE X e (liftE X.K W ta k)) : PI X tg e (liftIo X.K W (tSeqO' ta) (k + 0)) := by
  refine PI.imp (pi_seq he) fun σ H R h => lift_mono (lift_bind (Rp := RepU X.K) (g := fun u _ S Φ _ => match u with
    | .r i => (match slotL S i with
      | some ds => Φ (ds, fun S => slotL S i = some ds) S
      | none => False)
    | _ => False) h) fun x H1 ⟨w, u, env, S, Φ, Ψ, hh, r, q, c⟩ => ?_
  cases u with
  | d _ => exact q.elim
  | tup _ => exact q.elim
  | r i =>
    cases eS : slotL S i with
    | none => simp only [eS] at q
    | some ds =>
      simp only [eS] at q
      obtain ⟨a, ha, rfl⟩ := r
      have at_ : ∀ {w1 : Wd} {S1 : SS} {H1 : Hp}, ExtA w w1 → HRel X.K w1 S1 H1 → slotL S1 i = some ds → ∃ vs, H1 a = some (.lst vs) ∧ Reps X.K w1.F w1.J vs ds := fun {w1 S1 H1} xa h1 e1 => by
        obtain ⟨b, hb, ⟨ho, e2, vs, rfl, rr⟩, _⟩ := h1.live i _ (slotL_ok e1)
        rw [xa i a ha] at hb; cases hb
        exact ⟨vs, e2, rr⟩
      obtain ⟨vs0, e0, r0⟩ := at_ (ExtA.refl _) hh.h eS
      refine .inl ⟨a, rfl, ⟨vs0, SqL.of e0⟩, c.here (b := (ds, fun S => slotL S i = some ds)) hh q ⟨fun j w1 S1 H1 _ xa h1 e1 hl => ?_, fun j w1 S1 H1 d x H2 _ xa h1 e1 ed y => ?_, fun w1 S1 H1 _ xa h1 e1 => ?_⟩⟩
      · obtain ⟨vs, e2, r2⟩ := at_ xa h1 e1
        have hl' : j < vs.length := by rw [r2.length]; exact hl
        exact ⟨vs, vs[j], SqL.of e2, by simp [hl']⟩
      · obtain ⟨vs, e2, r2⟩ := at_ xa h1 e1
        obtain ⟨rfl, y⟩ := y
        obtain ⟨v, hv, rv⟩ := r2.get ed
        have := y vs (SqL.of e2)
        rw [hv] at this; cases this
        exact ⟨w1, Ext.refl _ _, ExtA.refl _, h1, rv⟩
      · obtain ⟨vs, e2, r2⟩ := at_ xa h1 e1
        exact ⟨vs, SqL.of e2, by rw [r2.length]; exact Nat.le_refl _⟩
end
def forO (ok : SS → Prop) (g : TGt') (tb : TS') (D : End') : List Pl.D → Env → SS → Prop
  | [], env, S => ok S ∧ D.nx env S
  | d :: ds, env, S => ok S ∧ g (.d d) env S fun env1 S1 => tb { D with nx := forO ok g tb D ds, ct := forO ok g tb D ds, bk := D.nx } env1 S1
section
variable {X : Cx} {W : WX} {pos : Pos} {tg iter : Expr} {body : List Stmt} {ti : TIo} {g : TGt'} {tb : TS'} {ki kb : Nat}
def tForO' (ti : TIo) (g : TGt') (tb : TS') (kb c : Nat) : TS' := fun D env S => ti env S (fun p S1 => p.1.length * kb ≤ c ∧ forO p.2 g tb D p.1 env S1) (fun x S1 => D.xx x env S1)
theorem qforO (c : Nat) (hi : PI X tg iter (liftIo X.K W ti ki)) (hg : PG X tg (liftG X.K g)) (hb : PSs X body (liftS X.K W tb kb)) (hp : PassesOwn (model X.prog X.w) X.A X.env X.xe) (hc : X.calm = true)
    (hs : ∀ x, foldedSetIterable iter X.env x = pure x := by intro _; rfl) : PS X (.For tg iter body [] pos) (liftS X.K W (tForO' ti g tb kb c) (ki + c)) := by
  refine PS.imp (ps_for hp hc hi hg hb hs) fun D σ H h => lift_mono (exp_lift (Rp := RpO X.K) (g := fun (p : List Pl.D × (SS → Prop)) D env S => p.1.length * kb ≤ c ∧ forO p.2 g tb D p.1 env S) h) fun J H1 ⟨w, ⟨ds, ok⟩, env, S, D', hh, wk, ⟨hl, q⟩, cs⟩ => ?_
  replace hl : ds.length * kb ≤ c := hl
  replace wk : WalkO X.K w J ds ok := wk
  replace q : forO ok g tb D' ds env S := q
  refine ⟨fun i m σ1 H2 => i ≤ ds.length ∧ m = ds.length - i ∧ ∃ w1 env1 S1, Ext (i * kb) w w1 ∧ HRel X.K w1 S1 H2 ∧ EnvR X.K w1 σ1 env1 ∧ forO ok g tb D' (ds.drop i) env1 S1, ⟨_, Nat.zero_le _, rfl, w, env, S, Ext.refl _ _, hh.h, hh.e, q⟩, ?_⟩
  rintro i m σ1 H2 ⟨hle, rfl, w1, env1, S1, x1, h1, e1, q1⟩
  have hm : i * kb ≤ c := Nat.le_trans (Nat.mul_le_mul_right _ hle) hl
  by_cases hlt : i < ds.length
  · have q0 : forO ok g tb D' (ds[i] :: ds.drop (i + 1)) env1 S1 := by rw [← List.drop_eq_getElem_cons hlt]; exact q1
    have oks : ok S1 := q0.1
    refine .inr ⟨wk.go i w1 S1 H2 x1.gr x1.A h1 oks hlt, fun σ' H' => ∃ w2 env2 S2, Ext ((i + 1) * kb) w w2 ∧ HRel X.K w2 S2 H' ∧ EnvR X.K w2 σ' env2 ∧ forO ok g tb D' (ds.drop (i + 1)) env2 S2, fun σ' H' z => ⟨ds.length - (i + 1), by omega, hlt, rfl, z⟩, fun v H3 y => ?_⟩
    obtain ⟨w2, x2, xa2, h2, r2⟩ := wk.yld i w1 S1 H2 ds[i] v H3 x1.gr x1.A h1 oks (by simp [hlt]) y
    refine ⟨w2, env1, S1, .d ds[i], _, h2, e1.ext x2 xa2, r2, q0.2, fun env3 S3 q3 σ3 h3 e3 => ?_⟩
    have x3 : Ext (i * kb) w w2 := (x1.trans x2).le (by omega)
    have step : (i + 1) * kb ≤ c := Nat.le_trans (Nat.mul_le_mul_right _ hlt) hl
    have e5 : (i + 1) * kb = i * kb + kb := Nat.succ_mul i kb
    refine ⟨w2, env3, S3, _, h3, e3, by have := hh.l; have := x3.n; omega, q3, ⟨fun env4 S4 q4 w4 σ4 H4 x4 h4 e4 => ?_, fun u S4 q4 w4 v4 H4 x4 h4 r4 => ?_, fun env4 S4 q4 w4 σ4 H4 x4 h4 e4 => ?_, fun env4 S4 q4 w4 σ4 H4 x4 h4 e4 => ?_, fun z env4 S4 q4 w4 σ4 H4 C d x4 h4 e4 r4 => ?_⟩⟩
    · exact ⟨w4, env4, S4, (x3.trans x4).le (by omega), h4, e4, q4⟩
    · exact cs.rt u S4 q4 w4 v4 H4 ((x3.trans x4).le (by omega)) h4 r4
    · exact cs.nx env4 S4 q4 w4 σ4 H4 ((x3.trans x4).le (by omega)) h4 e4
    · exact ⟨w4, env4, S4, (x3.trans x4).le (by omega), h4, e4, q4⟩
    · exact cs.xx z env4 S4 q4 w4 σ4 H4 C d ((x3.trans x4).le (by omega)) h4 e4 r4
  · have e : i = ds.length := by omega
    subst e
    rw [List.drop_length] at q1
    exact .inl ⟨wk.stop w1 S1 H2 x1.gr x1.A h1 q1.1, cs.nx env1 S1 q1.2 w1 σ1 H2 (x1.le hm) h1 e1⟩
end
def compO (ok : SS → Prop) (g : TGt') (tt : TT') (te : TE') : List Pl.D → Env → SS → List Pl.D → (List Pl.D → SS → Prop) → Prop
  | [], _, S, acc, Φ => ok S ∧ Φ acc S
  | d :: ds, env, S, acc, Φ => ok S ∧ g (.d d) env S fun env1 S1 => tt env1 S1 (fun b S2 => if b = true then te env1 S2 (fun u S3 => match u with
      | .d y => compO ok g tt te ds env S3 (acc ++ [y]) Φ
      | _ => False) (fun _ _ => False) else compO ok g tt te ds env S2 acc Φ) (fun _ _ => False)
section
variable {X : Cx} {W : WX} {pos : Pos} {tg iter elt : Expr} {ifs : List Expr} {scope : Scope} {own : List (Str × Nat)} {ti : TIo} {g : TG} {g' : TGt'} {tt : TT'} {te : TE'} {ki kt ke : Nat}
def tLcO' (kind : Option Nat) (ti : TIo) (g : TGt') (tt : TT') (te : TE') (vs : List Nat) (ke c : Nat) : TE' := fun env S Φ Ψ => ti env S (fun p S1 => (p.1.length * ke ≤ c ∧ p.1.length ≤ 1000000) ∧ compO p.2 g tt te p.1 (wipeE env vs) S1 [] fun acc S2 => mk kind acc S2 Φ) Ψ
theorem lcO_lift {kind : Option Nat} {c : Nat} {vs : List Nat} {σ : L2.St} {H : Hp} {Q : VK} (T : TgtOk X.K g g' vs) (h : liftE X.K W (tLcO' kind ti g' tt te vs (kt + ke) c) (ki + c) σ H Q) :
    tLc (liftIo X.K W ti ki) g (liftT X.K W0 tt kt) (liftE X.K W0 te ke) vs σ H Q := by
  refine lift_mono (lift_bind (Rp := RpO X.K) (g := fun (p : List D × (SS → Prop)) env S Φ _ => (p.1.length * (kt + ke) ≤ c ∧ p.1.length ≤ 1000000) ∧ compO p.2 g' tt te p.1 (wipeE env vs) S [] fun acc S2 => mk kind acc S2 Φ) h) fun J H1 ⟨w, ⟨ds, ok⟩, env, S, Φ, Ψ, hh, wk, ⟨⟨hl, hz⟩, q⟩, cs⟩ D hD => ?_
  replace hl : ds.length * (kt + ke) ≤ c := hl
  replace hz : ds.length ≤ 1000000 := hz
  replace wk : WalkO X.K w J ds ok := wk
  replace q : compO ok g' tt te ds (wipeE env vs) S [] fun acc S2 => mk kind acc S2 Φ := q
  have aD := hh.h.apart hD
  refine ⟨fun i m H2 => i ≤ ds.length ∧ m = ds.length - i ∧ ∃ w1 S1 acc accd, Ext (i * (kt + ke)) w w1 ∧ ExtA w w1 ∧ HRel X.K w1 S1 H2 ∧ Apart w1 D ∧ H2 D = some (.lst acc) ∧ Reps X.K w1.F w1.J acc accd ∧ acc.length ≤ i ∧ compO ok g' tt te (ds.drop i) (wipeE env vs) S1 accd fun acc S2 => mk kind acc S2 Φ,
    ⟨_, Nat.zero_le _, rfl, w, S, [], [], Ext.refl _ _, ExtA.refl _, hh.h.upd_apart aD, aD, upd_same, .nil, Nat.zero_le _, q⟩, ?_⟩
  rintro i m H2 ⟨hle, rfl, w1, S1, acc, accd, x1, xa1, h1, a1, hD1, r1, hacc, q1⟩
  have hm : i * (kt + ke) ≤ c := Nat.le_trans (Nat.mul_le_mul_right _ hle) hl
  by_cases hlt : i < ds.length
  · have q0 : compO ok g' tt te (ds[i] :: ds.drop (i + 1)) (wipeE env vs) S1 accd fun acc S2 => mk kind acc S2 Φ := by rw [← List.drop_eq_getElem_cons hlt]; exact q1
    have oks : ok S1 := q0.1
    refine .inr ⟨wk.go i w1 S1 H2 x1.gr xa1 h1 oks hlt, fun H' => ∃ w1 S1 acc accd, Ext ((i + 1) * (kt + ke)) w w1 ∧ ExtA w w1 ∧ HRel X.K w1 S1 H' ∧ Apart w1 D ∧ H' D = some (.lst acc) ∧ Reps X.K w1.F w1.J acc accd ∧ acc.length ≤ i + 1 ∧ compO ok g' tt te (ds.drop (i + 1)) (wipeE env vs) S1 accd fun acc S2 => mk kind acc S2 Φ,
      fun H' z => ⟨ds.length - (i + 1), by omega, hlt, rfl, z⟩, fun v H3 y => ?_⟩
    have step : (i + 1) * (kt + ke) ≤ c := Nat.le_trans (Nat.mul_le_mul_right _ hlt) hl
    have e5 : (i + 1) * (kt + ke) = i * (kt + ke) + (kt + ke) := Nat.succ_mul i _
    have hg1 := h1.guard a1 hD1
    have gr1 : Gr w (w1.guard D (.lst acc)) := ⟨x1.F, x1.J⟩
    obtain ⟨w2, x2, xa2, h2, r2⟩ := wk.yld i _ S1 H2 ds[i] v H3 gr1 xa1 hg1 oks (by simp [hlt]) y
    have env2 : EnvR X.K w2 (L2.wipe σ vs) (wipeE env vs) := EnvR.toA (w := w1) x2.F x2.J xa2 ((hh.e.ext x1 xa1).wipe vs)
    have own := fun (Q : L2.St → Hp → Prop) z => T.own v (L2.wipe σ vs) H3 Q z
    simp only [wipe_idem] at own
    refine own _ (T.up _ _ _ _ ⟨w2, wipeE env vs, S1, .d ds[i], _, h2, env2, r2, q0.2, fun env3 S3 q3 σ3 h3 e3 => ?_⟩)
    have n1 : w1.n ≤ w.n + i * (kt + ke) := x1.n
    have n2 : w2.n ≤ w1.n + 0 := x2.n
    have hn : w.n + c ≤ LIM := hh.l
    refine ⟨w2, env3, S3, _, _, h3, e3, by omega, q3, ⟨fun b S4 q4 w4 b' H4 x4 xa4 h4 rb => ?_, fun _ _ z => False.elim z⟩⟩
    subst rb
    have x24 := x2.trans x4
    have xa24 := xa2.trans xa4
    cases b' with
    | false =>
      have q4' : compO ok g' tt te (ds.drop (i + 1)) (wipeE env vs) S4 accd (fun acc S2 => mk kind acc S2 Φ) := q4
      obtain ⟨x5, xa5, h5, hD5, a5⟩ := HRel.unguard (S := S1) (H := H2) a1 x24 xa24 h4
      exact ⟨_, S4, acc, accd, (x1.trans x5).le (by omega), xa1.trans xa5, h5, a5, hD5, r1.ext x5, by omega, q4'⟩
    | true =>
      have n4 : w4.n ≤ w2.n + kt := x4.n
      refine ⟨w4, env3, S4, _, _, h4, e3.ext x4 xa4, by omega, q4, ⟨fun u S5 q5 w5 y5 H5 x5 xa5 h5 r5 => ?_, fun _ _ z => False.elim z⟩⟩
      cases u with
      | r _ => exact False.elim q5
      | tup _ => exact False.elim q5
      | d d5 =>
        obtain ⟨x6, xa6, h6, hD6, a6⟩ := HRel.unguard (S := S1) (H := H2) a1 (x24.trans x5) (xa24.trans xa5) h5
        refine ⟨acc, hD6, by rw [sizeLine_eq]; omega, _, S5, acc ++ [y5], accd ++ [d5], (x1.trans x6).le (by omega), xa1.trans xa6, h6.upd_apart a6, a6, upd_same, (r1.ext x6).app (.cons r5 .nil), by rw [List.length_append, List.length_singleton]; omega, q5⟩
  · have e : i = ds.length := by omega
    subst e
    rw [List.drop_length] at q1
    exact .inl ⟨wk.stop w1 S1 H2 x1.gr xa1 h1 q1.1, coMkA (Co.ext (k := 0) (cs.le (by omega : ds.length * (kt + ke) + 0 ≤ c)) x1 xa1) h1 a1 hD1 r1 q1.2⟩
theorem qlcO {kind : Option Nat} (c : Nat) (hc : X.calm = true) (hN : X.N.Nodup) (hi : PI X tg iter (liftIo X.K W ti ki)) (ok : BlkOk X.N X.env.scope scope own) (T : TgtOk X.K g g' (own.map (·.2)))
    (hg : ∀ s H C cl fp, PG (Cx.bk X scope s H C cl fp) tg g) (ht : ∀ s H C cl fp, PTs (Cx.bk X scope s H C cl fp) ifs (liftT X.K W0 tt kt)) (he : ∀ s H C cl fp, PE (Cx.bk X scope s H C cl fp) elt (liftE X.K W0 te ke)) (hs : ∀ x, foldedSetIterable iter X.env x = pure x := by intro _; rfl) :
    PE X (.ListComp elt [⟨tg, iter, ifs, 0⟩] scope pos) (liftE X.K W (tLcO' kind ti g' tt te (own.map (·.2)) (kt + ke) c) (ki + c)) :=
  PE.imp (pe_lc hc hN hi ok hg ht he hs) fun _ _ _ h => lcO_lift T h
theorem qsetLcO {kind : Option Nat} (i : Nat) (c : Nat) {y : Str} {py spos : Pos} (hc : X.calm = true) (hN : X.N.Nodup) (hy : X.N[i]? = some y) (hyl : X.env.scope.names.lookup y = some .local) (hsw : swapsWith (.ListComp elt [⟨tg, iter, ifs, 0⟩] scope pos) (some (.Name y py)) spos.line X.env = pure true)
    (hi : PI X tg iter (liftIo X.K W ti ki)) (ok : BlkOk X.N X.env.scope scope own) (T : TgtOk X.K g g' (own.map (·.2)))
    (hg : ∀ s H C cl fp, PG (Cx.bk X scope s H C cl fp) tg g) (ht : ∀ s H C cl fp, PTs (Cx.bk X scope s H C cl fp) ifs (liftT X.K W0 tt kt)) (he : ∀ s H C cl fp, PE (Cx.bk X scope s H C cl fp) elt (liftE X.K W0 te ke)) (hs : ∀ x, foldedSetIterable iter X.env x = pure x := by intro _; rfl) :
    PS X (.Assign [.Name y py] (.ListComp elt [⟨tg, iter, ifs, 0⟩] scope pos) spos) (liftS X.K W (tSet' i (tLcO' kind ti g' tt te (own.map (·.2)) (kt + ke) c)) (ki + c + 0)) :=
  PS.imp (ps_setLc hc hN hy hyl hsw hi ok hg ht he hs) fun D σ H h => lcO_lift T (lift_mono (exp_lift (g := fun u D env S => D.nx (env.set i (some u)) S) h) fun v H1 ⟨w, u, env, S, D', hh, r, q, c⟩ => c.nx _ S q w _ H1 (Ext.refl _ _) hh.h (hh.e.set r))
end
section
variable {g : TGt'} {tt : TT'} {te : TE'} {tb : TS'} {env : Env} {S : SS} {Φ : List D → SS → Prop} {De : End'} {ok : SS → Prop}
theorem compO_mapA {α : Type} (a f : α → D) (o : ok S) : ∀ (l : List α) (acc : List D), (∀ x ∈ l, ∀ rest acc, compO ok g tt te rest env S (acc ++ [f x]) Φ → (g (.d (a x)) env S fun env1 S1 => tt env1 S1 (fun b S2 => if b = true then te env1 S2 (fun u S3 => match u with
      | .d y => compO ok g tt te rest env S3 (acc ++ [y]) Φ
      | _ => False) (fun _ _ => False) else compO ok g tt te rest env S2 acc Φ) (fun _ _ => False))) → Φ (acc ++ l.map f) S → compO ok g tt te (l.map a) env S acc Φ
  | [], acc, _, h => ⟨o, by simpa using h⟩
  | d :: rest, acc, st, h => ⟨o, st d (by simp) _ acc (compO_mapA a f o rest (acc ++ [f d]) (fun e he => st e (by simp [he])) (by simpa using h))⟩
theorem compO_filt {α : Type} (a : α → D) (p : α → Bool) (f : α → D) (o : ok S) : ∀ (l : List α) (acc : List D), (∀ x ∈ l, ∀ rest acc, (if p x = true then compO ok g tt te rest env S (acc ++ [f x]) Φ else compO ok g tt te rest env S acc Φ) → (g (.d (a x)) env S fun env1 S1 => tt env1 S1 (fun b S2 => if b = true then te env1 S2 (fun u S3 => match u with
      | .d y => compO ok g tt te rest env S3 (acc ++ [y]) Φ
      | _ => False) (fun _ _ => False) else compO ok g tt te rest env S2 acc Φ) (fun _ _ => False))) →
    Φ (acc ++ (l.filter p).map f) S → compO ok g tt te (l.map a) env S acc Φ
  | [], acc, _, h => ⟨o, by simpa using h⟩
  | d :: rest, acc, st, h => by
    refine ⟨o, st d (by simp) _ acc ?_⟩
    have ih := fun acc => compO_filt a p f o rest acc (fun e he => st e (by simp [he]))
    cases e : p d with
    | true => rw [if_pos rfl]; exact ih _ (by simpa [List.filter_cons, e] using h)
    | false => rw [if_neg (by simp)]; exact ih _ (by simpa [List.filter_cons, e] using h)
theorem forO_inv (I : List D → Env → SS → Prop) (hok : ∀ rest env S, I rest env S → ok S) (fin : ∀ env S, I [] env S → De.nx env S) : ∀ (ds : List D) (env : Env) (S : SS), I ds env S →
    (∀ d rest env S, I (d :: rest) env S → (∀ env1 S1, I rest env1 S1 → forO ok g tb De rest env1 S1) → (g (.d d) env S fun env1 S1 => tb { De with nx := forO ok g tb De rest, ct := forO ok g tb De rest, bk := De.nx } env1 S1)) → forO ok g tb De ds env S
  | [], env, S, h, _ => ⟨hok _ env S h, fin env S h⟩
  | d :: rest, env, S, h, st => ⟨hok _ env S h, st d rest env S h fun env1 S1 h1 => forO_inv I hok fin rest env1 S1 h1 st⟩
end
end Pl

/-! ## classes of errors: isinstance -/
namespace Pl
open PySem PySem.Spec PySem.W
theorem kit_self {K : PySem.W.Frag} {t : Value} : PySem.W.kitOne K t t = some true := by
  unfold PySem.W.kitOne
  rw [if_pos (beq_self_eq_true t)]
theorem kit_of {K : PySem.W.Frag} {t : Value} {C : Addr} {b : Bool} (s0 : PySem.W.subIn K t t = some true) (i : PySem.W.isClsIn K C = true) (ty : PySem.W.typeIn K (.ref C) = some (.type "type")) (s : PySem.W.subIn K t (.ref C) = some b) : PySem.W.kitOne K t (.ref C) = some b := by
  unfold PySem.W.kitOne
  by_cases z : (t == .ref C) = true
  · rw [if_pos z]
    have e : t = .ref C := beq_iff_eq.mp z
    rw [← e, s0] at s
    exact s
  · rw [if_neg z]
    show (if ((PySem.W.clsIn K C).isSome && PySem.W.typeIn K (.ref C) == some (.type "type")) = true then PySem.W.subIn K t (.ref C) else none) = _
    have i' : (PySem.W.clsIn K C).isSome = true := i
    rw [i', ty, if_pos (by rw [Bool.true_and]; exact beq_self_eq_true _)]
    exact s
theorem kit_bt {K : PySem.W.Frag} {C : Addr} {T : String} {b : Bool} (e : PySem.W.kitMeta T = true) (s : PySem.W.subIn K (.ref C) (.type T) = some b) : PySem.W.kitOne K (.ref C) (.type T) = some b := by
  unfold PySem.W.kitOne
  by_cases z : ((Value.ref C) == .type T) = true
  · have e : Value.ref C = .type T := beq_iff_eq.mp z
    cases e
  · rw [if_neg z]
    show (if PySem.W.kitMeta T = true then PySem.W.subIn K (.ref C) (.type T) else none) = _
    rw [if_pos e]
    exact s
end Pl

/-! ## list(s) of a string -/
namespace Pl
open PySem PySem.Spec PyProof.Rows L2 TL PyProof
def kLstS (x : V) (H : Hp) (Q : VK) : Prop := ∃ t : Str, x = .str t ∧ t.cps.size ≤ sizeLine ∧ ∀ q, H q = none → Q (.ref q) (upd H q (.lst (t.cps.toList.map fun c => V.str ⟨[c].toArray⟩)))
theorem rl_listS {X : Cx} (hc : X.calm = true) (pins : List (Addr × Obj)) (s : Shared) (σ : L2.St) (H : Hp) (x : V) (v : Value) (Q : VK) (I : Inv X pins σ H s) (r : RelV x v) (h : kLstS x H Q) :
    wpAny (model X.prog X.w) X.A (call (.type "list") [v]) (EP X pins σ Q) X.xe s := by
  obtain ⟨b, rfl, hz, q⟩ := h
  obtain ⟨t, rfl⟩ := r
  refine call_list_str (I.ok.hd hc) b t (hn := hz) fun h' tk acc c' hk e hi => ?_
  refine ⟨.ref s.heap.objs.size, upd H s.heap.objs.size (.lst (b.cps.toList.map fun c => V.str ⟨[c].toArray⟩)), I.laid hk (Nat.le_refl _) ⟨by rw [List.length_map, Array.length_toList]; exact hz, acc.toList, c', ?_, by rw [Array.toArray_toList]; exact e⟩, rfl, q _ (I.hok.fresh (Nat.le_refl _))⟩
  refine vals_of_idx _ _ (by rw [List.length_map, Array.length_toList, Array.length_toList]; exact hi.1) fun j u hj => ?_
  obtain ⟨c, t', hc, rfl⟩ := hi.2 j u (by rw [← Array.getElem?_toList]; exact hj)
  exact ⟨.str ⟨[c].toArray⟩, by simp [hc], ⟨_, rfl⟩⟩
theorem call_listA {X : Cx} (hc : X.calm = true) : CallR X (.type "list") (fun xs H Q => (∃ p ys, xs = [.ref p] ∧ (SqL X.K H p ys ∨ SqT X.K H p ys) ∧ ∀ l, H l = none → Q (.ref l) (upd H l (.lst ys))) ∨ r1 kLstS xs H Q) :=
  fun pins s σ H xs us Q I r h => h.elim (fun h => call_list_of pins s σ H xs us Q I r h) (fun h => call_r1 (rl_listS hc) pins s σ H xs us Q I r h)
def fListA (kind : Option Nat) : D → SS → (U → SS → Prop) → Prop
  | .str l, S, Φ => l.length ≤ 100000 ∧ mk kind (l.map fun c => .str [c]) S Φ
  | .lst ds, S, Φ => mk kind ds S Φ
  | .tup ds, S, Φ => mk kind ds S Φ
  | .scr ds, S, Φ => mk kind ds S Φ
  | _, _, _ => False
theorem strs_reps {K : PySem.W.Frag} {F : Hp} {J : Addr → Prop} : ∀ l : List Nat, Reps K F J (l.map fun c => V.str ⟨[c].toArray⟩) (l.map fun c => .str [c])
  | [] => .nil
  | c :: l => .cons .strL (strs_reps l)
theorem listAL {K : PySem.W.Frag} {W : WX} {kind : Option Nat} : CalL K W (fun xs H Q => (∃ p ys, xs = [.ref p] ∧ (SqL K H p ys ∨ SqT K H p ys) ∧ ∀ l, H l = none → Q (.ref l) (upd H l (.lst ys))) ∨ r1 kLstS xs H Q) (a1 (fListA kind)) 0 := by
  intro w S H σ env vs us Φ Ψ Q hh r1 q c
  obtain ⟨v, d, rfl, n1, q⟩ := a1_ok hh r1 q
  cases d <;> try exact False.elim q
  case str l =>
    rw [n1.str]
    obtain ⟨hl, q⟩ := q
    refine .inr ⟨_, rfl, by rw [sizeLine_eq]; simp; omega, fun p hp => coMk c hh hp ?_ q⟩
    exact strs_reps l
  case tup ds =>
    obtain ⟨p, vs, rfl, s1, rr⟩ := n1.tup hh.h
    exact .inl ⟨p, vs, rfl, .inr s1, fun p2 hp => coMk c hh hp rr q⟩
  case lst ds =>
    obtain ⟨p, vs, rfl, s1, rr⟩ := n1
    exact .inl ⟨p, vs, rfl, .inl (SqL.of s1), fun p2 hp => coMk c hh hp rr q⟩
  case scr ds =>
    obtain ⟨p, vs, rfl, s1, rr⟩ := n1.scr hh.h
    exact .inl ⟨p, vs, rfl, .inl s1, fun p2 hp => coMk c hh hp rr q⟩
end Pl

/-! ## == and != by an own __eq__ -/
namespace Pl
open PySem PySem.Spec PyProof.Rows L2 TL PyProof
section
variable {M : Model} {prog : Program} {w : World} {A : Around} {E : Value → Shared → Prop} {s : Shared} {K : PySem.W.Frag} {x C : Addr} {ox : Obj} {od : Option Obj} {b tb : Value} {Q : Value → Shared → Prop}
/-- a comparison, by what the left one's own method says -/
theorem cmp_one {op : CmpOp} (hu : A.units < cLine) (X : K.In s.heap) (I : PySem.W.InstAt s.heap x ox C od) (hb : PySem.W.Looks (model prog w) s.heap (typeOf b) tb) (hn : PySem.W.notFirst K C tb = true)
    (one : wpAny (model prog w) A (tryCompare (.ref x) (cmpInfo op).2.1 b) (fun r s' => ∃ v, r = some v ∧ Q v s') E s) : wpAny (model prog w) A (richCompare op (.ref x) b) Q E s := by
  have fin : wpAny (model prog w) A (tryCompare (.ref x) (cmpInfo op).2.1 b) (fun r s' => ∃ v, r = some v ∧ Q v s') E s := one
  unfold richCompare
  simp only [oneThing_ref]
  refine wpAny_holding (wpAny_bind (wpAny_cRoomFor hu ?_))
  refine wpAny_bind (I.type.here (wpAny_bind (hb.here ?_)))
  split
  · rename_i q
    have e : PySem.W.subIn K tb (.ref C) = some false := by
      rcases Bool.or_eq_true_iff.mp hn with e | e
      · rw [beq_iff_eq.mp e] at q; simp at q
      · exact beq_iff_eq.mp e
    refine wpAny_bind ((PySem.W.looks_subIn X e).here ?_)
    simp only [Bool.false_eq_true, if_false]
    refine wpAny_bind (wpAny_mono fin (fun r s' z => ?_) fun _ _ e => e)
    obtain ⟨v, rfl, hq⟩ := z
    exact wpAny_pure hq
  · refine wpAny_bind (wpAny_pure ?_)
    simp only [Bool.false_eq_true, if_false]
    refine wpAny_bind (wpAny_mono fin (fun r s' z => ?_) fun _ _ e => e)
    obtain ⟨v, rfl, hq⟩ := z
    exact wpAny_pure hq
theorem ifBound_ne {args : List Value} {Q : Option Value → Shared → Prop} (X : K.In s.heap) (I : PySem.W.InstAt s.heap x ox C od) (hs : PySem.W.findIn K (.ref C) "__ne__" = some (some (.builtin "object.__ne__")))
    (h : wpAny M A (call (.builtin "object.__ne__") (.ref x :: args)) (fun v => Q (some v)) E s) : wpAny M A (callSpecialIfBound? (.ref x) "__ne__" args) Q E s := by
  simp only [callSpecialIfBound?, bindSpecialIfBound?]
  refine wpAny_holding (wpAny_bind (wpAny_bind (wpAny_bind (I.type.here ((PySem.W.looks_findIn X hs).here ?_)))))
  refine wpAny_bind (wpAny_askSetting (wpAny_ite ?_))
  have fin : wpAny M A (call (.builtin "object.__ne__") ([.ref x] ++ args) >>= fun v => pure (some v)) Q E s := wpAny_bind (wpAny_mono h (fun v s' h' => wpAny_pure h') fun _ _ h' => h')
  split
  · exact wpAny_bind (wpAny_of_eq (PySem.F.cmp_object.ne.bind _) (wpAny_pure (by exact fin)))
  · exact wpAny_tryCatch (wpAny_bind (wpAny_of_eq (PySem.F.cmp_object.ne.bind _) (wpAny_pure (by exact fin))))
theorem entry_ne {f : Addr} {Q : Fin → Shared → Prop} (hu : A.units < cLine) (X : K.In s.heap) (I : PySem.W.InstAt s.heap x ox C od) (hs : PySem.W.findIn K (.ref C) "__eq__" = some (some (.ref f))) (hf : PySem.W.isFn K (.ref f) = true)
    (h : wpAny (model prog w) A (call (.ref f) [.ref x, b]) (fun v s' => ∃ t, v = .bool t ∧ Q (.done (.ret (.bool (!t)))) s') E s) : wpAny (model prog w) A (Builtin.«object.__ne__» ⟨[.ref x, b], []⟩) Q E s := by
  unfold Builtin.«object.__ne__»
  repeat (first
    | with_reducible refine wpAny_cRoomFor hu ?_
    | (refine wpAny_bind (m := callSpecialIfBound? (.ref x) (Str.ofString "__eq__") [b]) (PySem.W.ifBound_K X I hs hf (wpAny_mono h (fun r s' hr => by
          obtain ⟨t, rfl, hq⟩ := hr
          repeat (first | exact hq | exact wpAny_pure hq | exact wpAny_truthy_bool hq | (refine wpAny_bind (m := truthy (.bool _)) (wpAny_truthy_bool ?_)) | wp_step)) fun _ _ e => e)))
    | wp_step)
theorem call_ne {f : Addr} (hu : A.units + 1 < cLine) (X : K.In s.heap) (I : PySem.W.InstAt s.heap x ox C od) (hm : PySem.W.mroIn K C (.type "object") = some true) (hs : PySem.W.findIn K (.ref C) "__eq__" = some (some (.ref f))) (hf : PySem.W.isFn K (.ref f) = true)
    (h : wpAny (model prog w) A.in1 (call (.ref f) [.ref x, b]) (fun v s' => ∃ t, v = .bool t ∧ Q (.bool (!t)) s') E s) : wpAny (model prog w) A (call (.builtin "object.__ne__") [.ref x, b]) Q E s :=
  wpAny_call (codeAny_call_builtin PySem.F.cmp_object.ne.plain PySem.F.cmpEntry_ne (PySem.W.check_slot PySem.F.cmpKind_ne PySem.F.cmpSplit_ne (I.type.andThen (PySem.W.looks_mroIn X hm)) (PySem.F.cmpArgs_ne _ _) (entry_ne (A := A.in1) hu X I hs hf h)))
end
/-- types of built-in kinds are no subclasses of an own class -/
theorem nf_ty {K : PySem.W.Frag} {C : Addr} {T : String} (h : ["NoneType", "bool", "int", "str", "tuple", "list", "dict"].contains T = true) : PySem.W.notFirst K C (.type T) = true := by
  have key : ∀ (T : String) (l : List Value), fastBuiltinMro T = some l → l.contains (.ref C) = false → PySem.W.subIn K (.type T) (.ref C) = some false := fun T l e e2 => by
    show (fastBuiltinMro T).map (·.contains (.ref C)) = some false
    rw [e, Option.map_some, e2]
  have all : ∀ T ∈ ["NoneType", "bool", "int", "str", "tuple", "list", "dict"], ∃ l, fastBuiltinMro T = some l ∧ (l.all fun v => match v with | .type _ => true | _ => false) = true := by decide +kernel
  obtain ⟨l, e, e2⟩ := all T (by simpa using h)
  have e3 : l.contains (.ref C) = false := by
    rw [Bool.eq_false_iff]
    intro z
    have := List.all_eq_true.mp e2 _ (List.contains_iff_mem.mp z)
    cases this
  unfold PySem.W.notFirst
  rw [key T l e e3, beq_self_eq_true, Bool.or_true]
theorem nf_self {K : PySem.W.Frag} {C : Addr} : PySem.W.notFirst K C (.ref C) = true := by
  unfold PySem.W.notFirst
  rw [beq_self_eq_true, Bool.true_or]
def plainK : D → Bool
  | .non => true | .bl _ => true | .int _ => true | .str _ => true | .tup _ => true | .lst _ => true | .dic _ _ => true | _ => false
theorem tyN_of {K : PySem.W.Frag} {w : Wd} {S : SS} {H : Hp} {v : V} {d : D} (hh : HRel K w S H) (r : RepN K w H v d) (e : plainK d = true) : ∃ T : String, TyX K H v (.type T) ∧ ["NoneType", "bool", "int", "str", "tuple", "list", "dict"].contains T = true := by
  cases d <;> try cases e
  · rw [r.non]; exact ⟨_, .base .non, by decide⟩
  · rw [r.bl]; exact ⟨_, .base (.bl _), by decide⟩
  · rw [r.int]; exact ⟨_, .base (.int _), by decide⟩
  · rw [r.str]; exact ⟨_, .base (.str _), by decide⟩
  · obtain ⟨p, vs, rfl, s1, rr⟩ := r.tup hh
    refine ⟨"tuple", ?_, by decide⟩
    rcases s1 with (s1 | ⟨o, s1⟩) | ⟨o, _, _, s1, c1, _⟩
    · exact .base (.tup s1)
    · exact .fTuple s1
    · exact .kTuple s1 c1
  · obtain ⟨p, vs, rfl, s1, rr⟩ := r
    exact ⟨_, .base (.lst s1), by decide⟩
  · obtain ⟨p, vs, rfl, s1, rr⟩ := r
    exact ⟨_, .base (.dK s1), by decide⟩
/-- the other one: an object of the class, or of a built-in kind -/
def okY (C : Addr) (y : U) (S : SS) : Prop := match rdI y S with
  | some (C2, _) => C2 = C
  | none => match rd y S with
    | some d => plainK d = true
    | none => False
def TyN (K : PySem.W.Frag) (C : Addr) (y : V) (H : Hp) : Prop := (∃ b d2 f2, y = .ref b ∧ H b = some (.ins C d2 f2)) ∨ ∃ t, TyX K H y t ∧ PySem.W.notFirst K C t = true
theorem okY_ok {K : PySem.W.Frag} {w : Wd} {S : SS} {H : Hp} {C : Addr} {v : V} {y : U} (hh : HRel K w S H) (r : RepU K w v y) (q : okY C y S) : TyN K C v H := by
  unfold okY at q
  cases e : rdI y S with
  | some p =>
    obtain ⟨C2, ns⟩ := p
    simp only [e] at q
    subst q
    obtain ⟨a, dx, vs, rfl, h⟩ := rdI_ok hh r e
    exact .inl ⟨a, dx, _, rfl, h⟩
  | none =>
    simp only [e] at q
    cases e2 : rd y S with
    | none => simp only [e2] at q
    | some d =>
      simp only [e2] at q
      obtain ⟨T, ty, hT⟩ := tyN_of hh (rd_ok hh r e2) q
      exact .inr ⟨_, ty, nf_ty hT⟩
section
variable {X : Cx} {W : WX} {pos p : Pos} {a b e : Expr} {ta tb : TE'} {k ka kb lv : Nat} {C : Addr} {r' : RL'} {LS : Sp} {m : Str} {ps : List Str} {pins : List (Addr × Obj)} {σ : L2.St} {H : Hp} {s : Shared} {Q : VK}
theorem looksN {y : V} {u : Value} (I : Inv X pins σ H s) (ry : RelV y u) (t : TyN X.K C y H) : ∃ tb, PySem.W.Looks (model X.prog X.w) s.heap (typeOf u) tb ∧ PySem.W.notFirst X.K C tb = true := by
  rcases t with ⟨b, d2, f2, rfl, h⟩ | ⟨t, ty, hn⟩
  · obtain rfl : u = Value.ref b := ry
    obtain ⟨ox, od, J⟩ := insX I h
    exact ⟨_, J.type, nf_self⟩
  · obtain ⟨P, kx, hp, _⟩ := L2.kit_of I ry ty
    exact ⟨t, kx.ty _ _ I.kIn hp, hn⟩
/-- == (neg: !=) between an object and another value -/
theorem eq_run (neg : Bool) (G : MFnS X.prog X.w X.K X.mg X.base C "__eq__" ps lv LS) (hm : neg = true → PySem.W.mroIn X.K C (.type "object") = some true ∧ PySem.W.findIn X.K (.ref C) "__ne__" = some (some (.builtin "object.__ne__"))) (hr : Room (lv + 1) X.A) (tk : Takes X W)
    {y : V} {u : Value} {a1 dx : Addr} {fs : List (Str × V)} (I : Inv X pins σ H s) (ry : RelV y u) (ea : H a1 = some (.ins C dx fs)) (ty : TyN X.K C y H)
    (q : LS [.ref a1, y] H (fun v H3 => ∃ t, v = .bl t ∧ Q (.bl (if neg then !t else t)) H3) (WE W σ)) : wpAny (model X.prog X.w) X.A (compareOp (if neg then .NotEq else .Eq) (.ref a1) u) (EP X pins σ Q) X.xe s := by
  obtain ⟨f, fd, hM, hF, hB, F⟩ := G.ex
  obtain ⟨tb, lk, hn⟩ := looksN I ry ty
  obtain ⟨ox, od, J⟩ := insX I ea
  have hu := hu_of hr
  cases neg with
  | false =>
    show wpAny (model X.prog X.w) X.A (richCompare .Eq (.ref a1) u) (EP X pins σ Q) X.xe s
    obtain ⟨m, fr⟩ := fr_of I
    refine PySem.W.cmp_K (Nat.lt_of_succ_lt hu) fr I.ok.mod.kin J lk hn hM.at_ hM.fn (wpAny_mono (call_own F (hr.mono (Nat.le_succ _)) hB tk I (us := [.ref a1, u]) (vs := [.ref a1, y]) (.cons rfl (.cons ry .nil)) q) (fun r s1 hq => ?_) fun _ _ z => z)
    obtain ⟨v, H1, I1, rv, t, rfl, q1⟩ := hq
    obtain rfl : r = Value.bool t := rv
    exact ⟨.bl t, H1, I1, rfl, q1⟩
  | true =>
    obtain ⟨hm1, hm2⟩ := hm rfl
    show wpAny (model X.prog X.w) X.A (richCompare .NotEq (.ref a1) u) (EP X pins σ Q) X.xe s
    refine cmp_one (Nat.lt_of_succ_lt hu) I.kIn J lk hn ?_
    unfold tryCompare
    refine wpAny_bind (ifBound_ne I.kIn J hm2 (call_ne hu I.kIn J hm1 hM.at_ hM.fn (wpAny_mono (call_own1 F hr hB tk I (us := [.ref a1, u]) (vs := [.ref a1, y]) (.cons rfl (.cons ry .nil)) q) (fun r s1 hq => ?_) fun _ _ z => z)))
    obtain ⟨v, H1, I1, rv, t, rfl, q1⟩ := hq
    obtain rfl : r = Value.bool t := rv
    exact ⟨t, rfl, wpAny_pure ⟨_, rfl, .bl (!t), H1, I1, rfl, q1⟩⟩
def tOwnC (C : Addr) (r' : RL') (neg : Bool) (ta tb : TE') : TE' := fun env S Φ Ψ => ta env S (fun u S1 => tb env S1 (fun y S2 => match rdI u S2 with
  | some (C', _) => (C' = C ∧ okY C y S2) ∧ r' [u, y] S2 (fun z S3 => finB (fun t => if neg then !t else t) z S3 Φ) Ψ
  | none => False) Ψ) Ψ
theorem ownC_lift {K : PySem.W.Frag} {neg : Bool} (hs : SpecL K LS k r') (h : liftE K W (tOwnC C r' neg ta tb) (ka + kb + k) σ H Q) :
    liftE K W ta ka σ H fun x H1 => liftE K W tb kb σ H1 fun y H2 => ∃ a dx fs, x = .ref a ∧ H2 a = some (.ins C dx fs) ∧ TyN K C y H2 ∧ LS [.ref a, y] H2 (fun v H3 => ∃ t, v = .bl t ∧ Q (.bl (if neg then !t else t)) H3) (WE W σ) :=
  lift_mono (lift_bind2 (Rp := RepU K) (Rp2 := RepU K) (Rp3 := RepU K) (g := fun u y _ S Φ Ψ => match rdI u S with
    | some (C', _) => (C' = C ∧ okY C y S) ∧ r' [u, y] S (fun z S3 => finB (fun t => if neg then !t else t) z S3 Φ) Ψ
    | none => False) stabU h) fun x H1 q1 => lift_mono q1 fun y H2 ⟨w, u, z, env, S, Φ, Ψ, hh, r1, r2, q, c⟩ => by
  cases eI : rdI u S with
  | none => simp only [eI] at q
  | some p =>
    obtain ⟨C', ns⟩ := p
    simp only [eI] at q
    obtain ⟨⟨rfl, oy⟩, q⟩ := q
    obtain ⟨a, dx, vs, rfl, e1⟩ := rdI_ok hh.h r1 eI
    exact ⟨a, dx, _, rfl, e1, okY_ok hh.h r2 oy, hs (us := [u, z]) hh (.cons r1 (.cons r2 .nil)) q (fin_co (fin := finB fun t => if neg then !t else t) (finV := fun v H Q => ∃ t, v = .bl t ∧ Q (.bl (if neg then !t else t)) H) (finBL (g := fun t => if neg then !t else t)) c)⟩
theorem qeqS (neg : Bool) (G : MFnS X.prog X.w X.K X.mg X.base C "__eq__" ps lv LS) (hm : neg = true → PySem.W.mroIn X.K C (.type "object") = some true ∧ PySem.W.findIn X.K (.ref C) "__ne__" = some (some (.builtin "object.__ne__"))) (hs : SpecL X.K LS k r') (hr : Room (lv + 1) X.A) (tk : Takes X W) (ha : PE X a (liftE X.K W ta ka)) (hb : PE X b (liftE X.K W tb kb)) (hmk : behindInMarks (if neg then .NotEq else .Eq) b = false := by rfl) :
    PE X (.Compare a [if neg then .NotEq else .Eq] [b] pos) (liftE X.K W (tOwnC C r' neg ta tb) (ka + kb + k)) := by
  refine PE.imp (t := fun σ H Q => liftE X.K W ta ka σ H fun x H1 => liftE X.K W tb kb σ H1 fun y H2 => ∃ a dx fs, x = .ref a ∧ H2 a = some (.ins C dx fs) ∧ TyN X.K C y H2 ∧ LS [.ref a, y] H2 (fun v H3 => ∃ t, v = .bl t ∧ Q (.bl (if neg then !t else t)) H3) (WE W σ)) ⟨fun pins s σ H Q I h => ?_⟩ fun σ H Q h => ownC_lift hs h
  exact wpAny_Compare1 (binT ha hb I h fun v u s2 x y H2 I2 rx ry ⟨a1, dx, fs, ex, ea, ty, q⟩ => by
    subst ex
    obtain rfl : v = Value.ref a1 := rx
    exact eq_run neg G hm hr tk I2 ry ea ty q) hmk
theorem qteqS (neg : Bool) (G : MFnS X.prog X.w X.K X.mg X.base C "__eq__" ps lv LS) (hm : neg = true → PySem.W.mroIn X.K C (.type "object") = some true ∧ PySem.W.findIn X.K (.ref C) "__ne__" = some (some (.builtin "object.__ne__"))) (hs : SpecL X.K LS k r') (hr : Room (lv + 1) X.A) (tk : Takes X W) (ha : PE X a (liftE X.K W ta ka)) (hb : PE X b (liftE X.K W tb kb)) (hmk : behindInMarks (if neg then .NotEq else .Eq) b = false := by rfl) :
    PT X (.Compare a [if neg then .NotEq else .Eq] [b] pos) (liftT X.K W (tTst (tOwnC C r' neg ta tb)) (ka + kb + k)) := by
  refine PT.imp (t := fun σ H Q => liftE X.K W ta ka σ H fun x H1 => liftE X.K W tb kb σ H1 fun y H2 => ∃ a dx fs, x = .ref a ∧ H2 a = some (.ins C dx fs) ∧ TyN X.K C y H2 ∧ LS [.ref a, y] H2 (fun v H3 => ∃ t, v = .bl t ∧ (fun x H' => ∃ k, x = V.bl k ∧ Q k H') (.bl (if neg then !t else t)) H3) (WE W σ)) ⟨fun pins s σ H Q I h => ?_⟩ fun σ H Q h => ownC_lift hs (tst_lift h)
  refine wpAny_isTrue_Compare1 (thn (ha.run pins s σ H _ I h) fun v s1 ⟨x, H1, I1, r1, q1⟩ => thn (hb.run pins s1 σ H1 _ I1 q1) fun u s2 ⟨y, H2, I2, r2, a1, dx, fs, ex, ea, ty, q⟩ => ?_) hmk
  subst ex
  obtain rfl : v = Value.ref a1 := r1
  refine thn (eq_run (Q := fun x H' => ∃ k, x = V.bl k ∧ Q k H') neg G hm hr tk I2 r2 ea ty q) fun c s3 ⟨z, H3, I3, r3, k, e, q3⟩ => ?_
  subst e
  cases r3
  exact wpAny_truthy_bool ⟨H3, I3, q3⟩
end
end Pl

/-! ## isinstance by an own class -/
namespace Pl
open PySem PySem.Spec PyProof.Rows L2 TL
structure IsC (K : PySem.W.Frag) (C : Addr) : Prop where
  cl : Cls K C
  ha : PySem.W.findIn K (.ref C) "__class__" = some (some (.builtin "object.__class__"))
  hn : PySem.W.specialIn K (.builtin "object.__class__") "__get__" = some (some (.builtin "getset_descriptor.__get__"))
  htk : PySem.W.takesIn K (.builtin "object.__class__") = some true
  hm : PySem.W.mroIn K C (.type "object") = some true
  ic : PySem.W.isClsIn K C = true
  ty : PySem.W.typeIn K (.ref C) = some (.type "type")
theorem kit_no {K : PySem.W.Frag} {C : Addr} {T : String} (F : IsC K C) (h : ["NoneType", "bool", "int", "str", "tuple", "list", "dict"].contains T = true) : PySem.W.kitOne K (.type T) (.ref C) = some false := by
  have e : PySem.W.subIn K (.type T) (.ref C) = some false := by
    have := nf_ty (K := K) (C := C) h
    unfold PySem.W.notFirst at this
    rcases Bool.or_eq_true_iff.mp this with z | z
    · cases (beq_iff_eq.mp z)
    · exact beq_iff_eq.mp z
  unfold PySem.W.kitOne
  by_cases z : ((Value.type T) == .ref C) = true
  · cases (beq_iff_eq.mp z)
  · rw [if_neg z]
    show (if ((PySem.W.clsIn K C).isSome && PySem.W.typeIn K (.ref C) == some (.type "type")) = true then PySem.W.subIn K (.type T) (.ref C) else none) = _
    have i' : (PySem.W.clsIn K C).isSome = true := F.ic
    rw [i', F.ty, if_pos (by rw [Bool.true_and]; exact beq_self_eq_true _)]
    exact e
section
variable {X : Cx} {W : WX} {pos p : Pos} {a b : Expr} {ta : TE'} {ka : Nat} {C : Addr} {cv : V}
def tIsO' (C : Addr) (ta : TE') : TE' := fun env S Φ Ψ => ta env S (fun u S1 => match rdI u S1 with
  | some (C2, _) => C2 = C ∧ Φ (.d (.bl true)) S1
  | none => match rd u S1 with
    | some d => plainK d = true ∧ Φ (.d (.bl false)) S1
    | none => False) Ψ
theorem qisiO (F : IsC X.K C) (hcl : ClsV cv (.ref C)) (hm : X.mg ("isinstance" : Str) = none) (ha : PE X a (liftE X.K W ta ka)) (hb : PE X b (tC cv)) (hG : Gl X ("isinstance" : Str) := by rfl)
    (he : starEach (a :: b :: []) X.env = (false, eval a X.env) :: starEach [b] X.env := by rfl) (he2 : starEach (b :: []) X.env = (false, eval b X.env) :: starEach [] X.env := by rfl) (hpl : (backTo pos (starEach [b] X.env)).any (·.1) = false := by rfl) :
    PE X (.Call (.Name ("isinstance" : Str) p) [a, b] [] pos) (liftE X.K W (tIsO' C ta) ka) := by
  refine PE.imp (pe_callB call_isi hG hm (by decide +kernel) (pa_cons ha (pa_cons hb pa_nil he2) he) (by decide +kernel) (by decide +kernel) he hpl) fun σ H Q ⟨w, env, S, Φ, Ψ, hr, hE, hl, t, c⟩ => ?_
  refine ⟨w, env, S, _, Ψ, hr, hE, hl, t, ⟨fun u S1 q w1 x H1 y ya h1 r => ?_, c.xx⟩⟩
  cases eI : rdI u S1 with
  | some pp =>
    obtain ⟨C2, ns⟩ := pp
    simp only [eI] at q
    obtain ⟨rfl, q⟩ := q
    obtain ⟨a1, dx, vs, rfl, e1⟩ := rdI_ok h1 r eI
    exact ⟨_, cv, .ref C2, _, true, rfl, hcl, .base (.ins e1 F.cl F.ha F.hn F.htk F.hm), kit_self, c.ok _ _ q _ _ _ y ya h1 .bl⟩
  | none =>
    simp only [eI] at q
    cases e1 : rd u S1 with
    | none => simp only [e1] at q
    | some d =>
      simp only [e1] at q
      obtain ⟨T, ty, hT⟩ := tyN_of h1 (rd_ok h1 r e1) q.1
      exact ⟨x, cv, .type T, _, false, rfl, hcl, ty, kit_no F hT, c.ok _ _ q.2 _ _ _ y ya h1 .bl⟩
end
end Pl

/-! ## x, y, z = a, b, c -/
namespace Pl
open PySem PySem.Spec PyProof.Rows L2 TL
section
variable {X : Cx} {W : WX} {pos p : Pos} {a b d : Expr} {ta tb td : TE'} {ka kb kd : Nat}
def tPar3' (i j l : Nat) (ta tb td : TE') : TS' := fun D env S => ta env S (fun u S1 => tb env S1 (fun z S2 => td env S2 (fun y S3 => D.nx (((env.set i (some u)).set j (some z)).set l (some y)) S3) (fun x S3 => D.xx x env S3)) (fun x S2 => D.xx x env S2)) (fun x S1 => D.xx x env S1)
theorem qpar3 (i j l : Nat) {x y z : Str} {px py pz pt : Pos} {kt k2 pt2} (ha : PE X a (liftE X.K W ta ka)) (hb : PE X b (liftE X.K W tb kb)) (hd : PE X d (liftE X.K W td kd)) (hN : X.N.Nodup) (hc : X.calm = true := by rfl) (hi : X.N[i]? = some x := by rfl) (hj : X.N[j]? = some y := by rfl) (hl : X.N[l]? = some z := by rfl) (hij : i ≠ j := by decide) (hil : i ≠ l := by decide) (hjl : j ≠ l := by decide)
    (hx : X.env.scope.names.lookup x = some .local := by rfl) (hy : X.env.scope.names.lookup y = some .local := by rfl) (hz : X.env.scope.names.lookup z = some .local := by rfl)
    (hs1 : starEach (a :: [b, d]) X.env = (false, eval a X.env) :: starEach [b, d] X.env := by rfl) (hs2 : starEach (b :: [d]) X.env = (false, eval b X.env) :: starEach [d] X.env := by rfl) (hs3 : starEach (d :: []) X.env = (false, eval d X.env) :: starEach [] X.env := by rfl)
    (hw : swappedStores [.Tuple [.Name x px, .Name y py, .Name z pz] kt pt] (.Tuple [a, b, d] k2 pt2) X.env = pure (some [x, y, z]) := by rfl)
    (hs : swapsWithSole [.Tuple [.Name x px, .Name y py, .Name z pz] kt pt] (.Tuple [a, b, d] k2 pt2) pos.line X.env = pure false := by rfl) :
    PS X (.Assign [.Tuple [.Name x px, .Name y py, .Name z pz] kt pt] (.Tuple [a, b, d] k2 pt2) pos) (liftS X.K W (tPar3' i j l ta tb td) (ka + kb + kd)) := by
  refine PS.imp (ps_par3 hc hN hi hj hl hij hil hjl hx hy hz (pa_cons ha (pa_cons hb (pa_cons hd pa_nil hs3) hs2) hs1) hw hs) fun D σ H ⟨w, env, S, D', hr, he, hl, q, c⟩ => ?_
  refine ⟨w, env, S, _, _, hr, he, by omega, q, ⟨fun u S1 q1 w1 v H1 x1 xa h1 r1 => ?_, fun e S1 q1 w1 C d H1 x1 xa h1 r1 => c.xx e env S1 q1 w1 σ H1 C d (x1.le (by omega)) h1 (he.ext x1 xa) r1⟩⟩
  refine ⟨w1, env, S1, _, _, h1, he.ext x1 xa, by have := x1.n; omega, q1, ⟨fun z S2 q2 w2 v2 H2 x2 xa2 h2 r2 => ?_, fun e S2 q2 w2 C d H2 x2 xa2 h2 r2 => c.xx e env S2 q2 w2 σ H2 C d ((x1.trans x2).le (by omega)) h2 ((he.ext x1 xa).ext x2 xa2) r2⟩⟩
  refine ⟨w2, env, S2, _, _, h2, (he.ext x1 xa).ext x2 xa2, by have := x1.n; have := x2.n; omega, q2, ⟨fun y S3 q3 w3 v3 H3 x3 xa3 h3 r3 => ?_, fun e S3 q3 w3 C d H3 x3 xa3 h3 r3 => c.xx e env S3 q3 w3 σ H3 C d ((x1.trans x2).trans x3) h3 (((he.ext x1 xa).ext x2 xa2).ext x3 xa3) r3⟩⟩
  exact ⟨v, v2, v3, rfl, c.nx _ S3 q3 w3 _ H3 ((x1.trans x2).trans x3) h3 ((((((he.ext x1 xa).ext x2 xa2).ext x3 xa3).set ((r1.ext x2 xa2).ext x3 xa3)).set (r2.ext x3 xa3)).set r3)⟩
end
end Pl

/-! ## == and != with the own object on the right -/
namespace Pl
open PySem PySem.Spec PyProof.Rows L2 TL PyProof PySem.SeqAt
section
variable {M : Model} {prog : Program} {w : World} {A : Around} {E : Value → Shared → Prop} {s : Shared} {K : PySem.W.Frag} {x C : Addr} {ox : Obj} {od : Option Obj} {a : Value} {Q : Value → Shared → Prop} {Ta ida : String}
theorem cmp_back {op : CmpOp} (hu : A.units < cLine) (X : K.In s.heap) (I : PySem.W.InstAt s.heap x ox C od) (ha : s.TypeIs a Ta) (hsub : PySem.W.subIn K (.ref C) (.type Ta) = some false) (h1 : Slot Ta (cmpInfo op).2.1 ida)
    (hc1 : ∀ Q' : Value → Shared → Prop, Q' .notImplemented s → wpAny (model prog w) A (call (.builtin ida) [a, .ref x]) Q' E s)
    (two : wpAny (model prog w) A (tryCompare (.ref x) (cmpInfo op).2.2 a) (fun r s' => ∃ v, r = some v ∧ Q v s') E s) : wpAny (model prog w) A (richCompare op a (.ref x)) Q E s := by
  have fin : wpAny (model prog w) A (tryCompare (.ref x) (cmpInfo op).2.2 a) (fun r s' => ∃ v, r = some v ∧ Q v s') E s := two
  rcases hi : cmpInfo op with ⟨sym, f, r⟩
  rw [hi] at h1 fin
  simp only [richCompare, hi, ha.oneThing_none]
  try with_reducible refine wpAny_holding ?_
  refine wpAny_bind (wpAny_cRoomFor hu ?_)
  refine wpAny_bind (wpAny_typeOf ha (wpAny_bind (I.type.here ?_)))
  have hne : ((Value.type Ta) != .ref C) = true := by simp
  simp only [hne, if_true]
  refine wpAny_bind ((PySem.W.looks_subIn X hsub).here ?_)
  simp only [Bool.false_eq_true, if_false, Bool.not_false, if_true]
  refine wpAny_bind (m := tryCompare a _ (.ref x)) (wpAny_tryCompare_declines ha h1 (hc1 _ ⟨rfl, ?_⟩))
  refine wpAny_bind (m := tryCompare (.ref x) _ a) (wpAny_mono fin (fun r s' z => ?_) fun _ _ e => e)
  obtain ⟨v, rfl, hq⟩ := z
  exact wpAny_pure hq
theorem isInst_no {T : String} {R : Bool → Shared → Prop} (X : K.In s.heap) (I : PySem.W.InstAt s.heap x ox C od) (h : PySem.W.subIn K (.ref C) (.type T) = some false) (q : R false s) : wpAny M A (isInstance (.ref x) (.type T)) R E s := by
  have L : PySem.W.Looks M s.heap (isInstance (.ref x) (.type T)) false := I.type.andThen (PySem.W.looks_subIn X h)
  exact L.here q
theorem tuple_eq_no {Q : Fin → Shared → Prop} {l : Addr} (X : K.In s.heap) (I : PySem.W.InstAt s.heap x ox C od) (h : PySem.W.subIn K (.ref C) (.type "tuple") = some false) (hq : Q (.done (.ret .notImplemented)) s) : wpAny M A (Builtin.«tuple.__eq__» ⟨[.ref l, .ref x], []⟩) Q E s := by
  unfold Builtin.«tuple.__eq__»
  repeat (first | with_reducible refine isInst_no X I h ?_ | wp_step)
  exact hq
theorem tuple_ne_no {Q : Fin → Shared → Prop} {l : Addr} (X : K.In s.heap) (I : PySem.W.InstAt s.heap x ox C od) (h : PySem.W.subIn K (.ref C) (.type "tuple") = some false) (hq : Q (.done (.ret .notImplemented)) s) : wpAny M A (Builtin.«tuple.__ne__» ⟨[.ref l, .ref x], []⟩) Q E s := by
  unfold Builtin.«tuple.__ne__»
  repeat (first | with_reducible refine isInst_no X I h ?_ | wp_step)
  exact hq
theorem list_eq_no {Q : Fin → Shared → Prop} {l : Addr} (X : K.In s.heap) (I : PySem.W.InstAt s.heap x ox C od) (h : PySem.W.subIn K (.ref C) (.type "list") = some false) (hq : Q (.done (.ret .notImplemented)) s) : wpAny M A (Builtin.«list.__eq__» ⟨[.ref l, .ref x], []⟩) Q E s := by
  unfold Builtin.«list.__eq__»
  repeat (first | with_reducible refine isInst_no X I h ?_ | wp_step)
  exact hq
theorem list_ne_no {Q : Fin → Shared → Prop} {l : Addr} (X : K.In s.heap) (I : PySem.W.InstAt s.heap x ox C od) (h : PySem.W.subIn K (.ref C) (.type "list") = some false) (hq : Q (.done (.ret .notImplemented)) s) : wpAny M A (Builtin.«list.__ne__» ⟨[.ref l, .ref x], []⟩) Q E s := by
  unfold Builtin.«list.__ne__»
  repeat (first | with_reducible refine isInst_no X I h ?_ | wp_step)
  exact hq
end
section
open AutoSeq1 (wpAny_loadPart')
theorem str_eq_no (b : Str) (u : Tok) (x C dx : Addr) : Meets (Builtin.«str.__eq__» ⟨[.str b u, .ref x], []⟩) (fun _ R s => s.heap.get? x = some (PySem.W.instObj C dx) ∧ R (.ok (.ret .notImplemented)) s) :=
  .of_wp fun prog w A R s h => by obtain ⟨hp, g, d, tk, os⟩ := s; obtain ⟨hl, h⟩ := h; unfold PySem.W.instObj at hl; wp_walk using wpAny_loadPart' hl, wpAny_load hl; exact ⟨_, rfl, h⟩
theorem str_ne_no (b : Str) (u : Tok) (x C dx : Addr) : Meets (Builtin.«str.__ne__» ⟨[.str b u, .ref x], []⟩) (fun _ R s => s.heap.get? x = some (PySem.W.instObj C dx) ∧ R (.ok (.ret .notImplemented)) s) :=
  .of_wp fun prog w A R s h => by obtain ⟨hp, g, d, tk, os⟩ := s; obtain ⟨hl, h⟩ := h; unfold PySem.W.instObj at hl; wp_walk using wpAny_loadPart' hl, wpAny_load hl; exact ⟨_, rfl, h⟩
theorem int_eq_no (b : Int) (u : Tok) (x C dx : Addr) : Meets (Builtin.«int.__eq__» ⟨[.int b u, .ref x], []⟩) (fun _ R s => s.heap.get? x = some (PySem.W.instObj C dx) ∧ R (.ok (.ret .notImplemented)) s) :=
  .of_wp fun prog w A R s h => by obtain ⟨hp, g, d, tk, os⟩ := s; obtain ⟨hl, h⟩ := h; unfold PySem.W.instObj at hl; wp_walk using wpAny_loadPart' hl, wpAny_load hl; exact ⟨_, rfl, h⟩
theorem int_ne_no (b : Int) (u : Tok) (x C dx : Addr) : Meets (Builtin.«int.__ne__» ⟨[.int b u, .ref x], []⟩) (fun _ R s => s.heap.get? x = some (PySem.W.instObj C dx) ∧ R (.ok (.ret .notImplemented)) s) :=
  .of_wp fun prog w A R s h => by obtain ⟨hp, g, d, tk, os⟩ := s; obtain ⟨hl, h⟩ := h; unfold PySem.W.instObj at hl; wp_walk using wpAny_loadPart' hl, wpAny_load hl; exact ⟨_, rfl, h⟩
theorem bool_eq_no (b : Bool) (x C dx : Addr) : Meets (Builtin.«int.__eq__» ⟨[.bool b, .ref x], []⟩) (fun _ R s => s.heap.get? x = some (PySem.W.instObj C dx) ∧ R (.ok (.ret .notImplemented)) s) :=
  .of_wp fun prog w A R s h => by obtain ⟨hp, g, d, tk, os⟩ := s; obtain ⟨hl, h⟩ := h; unfold PySem.W.instObj at hl; wp_walk using wpAny_loadPart' hl, wpAny_load hl; exact ⟨_, rfl, h⟩
theorem bool_ne_no (b : Bool) (x C dx : Addr) : Meets (Builtin.«int.__ne__» ⟨[.bool b, .ref x], []⟩) (fun _ R s => s.heap.get? x = some (PySem.W.instObj C dx) ∧ R (.ok (.ret .notImplemented)) s) :=
  .of_wp fun prog w A R s h => by obtain ⟨hp, g, d, tk, os⟩ := s; obtain ⟨hl, h⟩ := h; unfold PySem.W.instObj at hl; wp_walk using wpAny_loadPart' hl, wpAny_load hl; exact ⟨_, rfl, h⟩
end
/-- an own class that is no subclass of a built-in kind -/
structure BkC (K : PySem.W.Frag) (C : Addr) : Prop where
  non : PySem.W.subIn K (.ref C) (.type "NoneType") = some false
  bl : PySem.W.subIn K (.ref C) (.type "bool") = some false
  int : PySem.W.subIn K (.ref C) (.type "int") = some false
  str : PySem.W.subIn K (.ref C) (.type "str") = some false
  tup : PySem.W.subIn K (.ref C) (.type "tuple") = some false
  lst : PySem.W.subIn K (.ref C) (.type "list") = some false
inductive BackV (K : PySem.W.Frag) (H : Hp) : V → Prop
  | non : BackV K H .non
  | bl {b : Bool} : BackV K H (.bl b)
  | int {i : Int} : BackV K H (.int i)
  | str {x : Str} : BackV K H (.str x)
  | tup {a : Addr} {vs : List V} : SqT K H a vs → BackV K H (.ref a)
  | lst {a : Addr} {vs : List V} : H a = some (.lst vs) → BackV K H (.ref a)
def backK : D → Bool
  | .non => true | .bl _ => true | .int _ => true | .str _ => true | .tup _ => true | .lst _ => true | _ => false
theorem back_of {K : PySem.W.Frag} {w : Wd} {S : SS} {H : Hp} {v : V} {d : D} (hh : HRel K w S H) (r : RepN K w H v d) (e : backK d = true) : BackV K H v := by
  cases d <;> try cases e
  · rw [r.non]; exact .non
  · rw [r.bl]; exact .bl
  · rw [r.int]; exact .int
  · rw [r.str]; exact .str
  · obtain ⟨p, vs, rfl, s1, rr⟩ := r.tup hh
    exact .tup s1
  · obtain ⟨p, vs, rfl, s1, rr⟩ := r
    exact .lst s1
section
variable {X : Cx} {W : WX} {pos p : Pos} {a b e : Expr} {ta tb : TE'} {k ka kb lv : Nat} {C : Addr} {r' : RL'} {LS : Sp} {m : Str} {ps : List Str} {pins : List (Addr × Obj)} {σ : L2.St} {H : Hp} {s : Shared} {Q : VK}
/-- the left one's own slot declines, in each kind -/
theorem back_cmp (neg : Bool) {E : Value → Shared → Prop} {QQ : Value → Shared → Prop} (B : BkC X.K C) {y : V} {u : Value} {a1 dx : Addr} {fs : List (Str × V)} (I : Inv X pins σ H s) (ry : RelV y u) (ea : H a1 = some (.ins C dx fs)) (bk : BackV X.K H y) (hu : X.A.units < cLine)
    (two : wpAny (model X.prog X.w) X.A (tryCompare (.ref a1) (cmpInfo (if neg then .NotEq else .Eq)).2.2 u) (fun r s' => ∃ v, r = some v ∧ QQ v s') E s) : wpAny (model X.prog X.w) X.A (richCompare (if neg then .NotEq else .Eq) u (.ref a1)) QQ E s := by
  obtain ⟨ox, od, J⟩ := insX I ea
  obtain ⟨_, _, _, hobj, _⟩ := (show ObjOk X.prog X.w H s.heap a1 (.ins C dx fs) from I.hok a1 _ ea)
  cases bk with
  | non =>
    obtain rfl : u = Value.none := ry
    cases neg with
    | false => exact cmp_back (op := .Eq) (Ta := "NoneType") hu I.kIn J rfl B.non F.slot_NoneType_eq (fun _ hq => call_gives F.slot_NoneType_eq rfl F.entry_NoneType_eq (F.args_NoneType_eq_2 _ _) (NoneType___eq___none_ref_0 a1) hq) two
    | true => exact cmp_back (op := .NotEq) (Ta := "NoneType") hu I.kIn J rfl B.non F.slot_NoneType_ne (fun _ hq => call_gives F.slot_NoneType_ne rfl F.entry_NoneType_ne (F.args_NoneType_ne_2 _ _) (NoneType___ne___none_ref_0 a1) hq) two
  | bl =>
    rename_i b
    obtain rfl : u = Value.bool b := ry
    cases neg with
    | false => exact cmp_back (op := .Eq) (Ta := "bool") hu I.kIn J rfl B.bl F.slot_bool_eq (fun _ hq => call_meets F.slot_bool_eq rfl F.entry_int_eq (F.args_int_eq_2 _ _) (bool_eq_no _ _ _ _) ⟨hobj, hq⟩) two
    | true => exact cmp_back (op := .NotEq) (Ta := "bool") hu I.kIn J rfl B.bl F.slot_bool_ne (fun _ hq => call_meets F.slot_bool_ne rfl F.entry_int_ne (F.args_int_ne_2 _ _) (bool_ne_no _ _ _ _) ⟨hobj, hq⟩) two
  | int =>
    rename_i i
    obtain ⟨t, rfl⟩ := (show ∃ t, u = Value.int i t from ry)
    cases neg with
    | false => exact cmp_back (op := .Eq) (Ta := "int") hu I.kIn J (typeIs_int _ _ _) B.int F.slot_int_eq (fun _ hq => call_meets F.slot_int_eq (typeIs_int _ _ _) F.entry_int_eq (F.args_int_eq_2 _ _) (int_eq_no _ _ _ _ _) ⟨hobj, hq⟩) two
    | true => exact cmp_back (op := .NotEq) (Ta := "int") hu I.kIn J (typeIs_int _ _ _) B.int F.slot_int_ne (fun _ hq => call_meets F.slot_int_ne (typeIs_int _ _ _) F.entry_int_ne (F.args_int_ne_2 _ _) (int_ne_no _ _ _ _ _) ⟨hobj, hq⟩) two
  | str =>
    rename_i x
    obtain ⟨t, rfl⟩ := (show ∃ t, u = Value.str x t from ry)
    cases neg with
    | false => exact cmp_back (op := .Eq) (Ta := "str") hu I.kIn J (typeIs_str _ _ _) B.str F.slot_str_eq (fun _ hq => call_meets F.slot_str_eq (typeIs_str _ _ _) F.entry_str_eq (F.args_str_eq_2 _ _) (str_eq_no _ _ _ _ _) ⟨hobj, hq⟩) two
    | true => exact cmp_back (op := .NotEq) (Ta := "str") hu I.kIn J (typeIs_str _ _ _) B.str F.slot_str_ne (fun _ hq => call_meets F.slot_str_ne (typeIs_str _ _ _) F.entry_str_ne (F.args_str_ne_2 _ _) (str_ne_no _ _ _ _ _) ⟨hobj, hq⟩) two
  | tup hs =>
    rename_i l vs
    obtain rfl : u = Value.ref l := ry
    obtain ⟨its, r, ⟨o, ho, hc, n, hd⟩, hz⟩ := I.tuple hs
    have hT : s.TypeIs (.ref l) "tuple" := ⟨o, ho, hc⟩
    cases neg with
    | false => exact cmp_back (op := .Eq) (Ta := "tuple") hu I.kIn J hT B.tup F.slot_tuple_eq (fun _ hq => wpAny_call_entry F.slot_tuple_eq hT F.entry_tuple_eq (tuple_eq_no I.kIn J B.tup ⟨_, rfl, hq⟩) (F.args_tuple_eq_2 _ _)) two
    | true => exact cmp_back (op := .NotEq) (Ta := "tuple") hu I.kIn J hT B.tup F.slot_tuple_ne (fun _ hq => wpAny_call_entry F.slot_tuple_ne hT F.entry_tuple_ne (tuple_ne_no I.kIn J B.tup ⟨_, rfl, hq⟩) (F.args_tuple_ne_2 _ _)) two
  | lst hs =>
    rename_i l vs
    obtain rfl : u = Value.ref l := ry
    obtain ⟨_, its, n, r, h1⟩ := (show ObjOk X.prog X.w H s.heap l (.lst vs) from I.hok l _ hs)
    have hT : s.TypeIs (.ref l) "list" := ⟨_, h1, rfl⟩
    cases neg with
    | false => exact cmp_back (op := .Eq) (Ta := "list") hu I.kIn J hT B.lst F.slot_list_eq (fun _ hq => wpAny_call_entry F.slot_list_eq hT F.entry_list_eq (list_eq_no I.kIn J B.lst ⟨_, rfl, hq⟩) (F.args_list_eq_2 _ _)) two
    | true => exact cmp_back (op := .NotEq) (Ta := "list") hu I.kIn J hT B.lst F.slot_list_ne (fun _ hq => wpAny_call_entry F.slot_list_ne hT F.entry_list_ne (list_ne_no I.kIn J B.lst ⟨_, rfl, hq⟩) (F.args_list_ne_2 _ _)) two
/-- == (neg: !=), the left one of a built-in kind, the right one an object -/
theorem back_run (neg : Bool) (G : MFnS X.prog X.w X.K X.mg X.base C "__eq__" ps lv LS) (hm : neg = true → PySem.W.mroIn X.K C (.type "object") = some true ∧ PySem.W.findIn X.K (.ref C) "__ne__" = some (some (.builtin "object.__ne__"))) (B : BkC X.K C) (hr : Room (lv + 1) X.A) (tk : Takes X W)
    {y : V} {u : Value} {a1 dx : Addr} {fs : List (Str × V)} (I : Inv X pins σ H s) (ry : RelV y u) (ea : H a1 = some (.ins C dx fs)) (bk : BackV X.K H y)
    (q : LS [.ref a1, y] H (fun v H3 => ∃ t, v = .bl t ∧ Q (.bl (if neg then !t else t)) H3) (WE W σ)) : wpAny (model X.prog X.w) X.A (compareOp (if neg then .NotEq else .Eq) u (.ref a1)) (EP X pins σ Q) X.xe s := by
  obtain ⟨f, fd, hM, hF, hB, F⟩ := G.ex
  obtain ⟨ox, od, J⟩ := insX I ea
  have hu := hu_of hr
  have h2 := back_cmp (QQ := EP X pins σ Q) (E := X.xe) neg B I ry ea bk (Nat.lt_of_succ_lt hu) (by
    cases neg with
    | false =>
      show wpAny (model X.prog X.w) X.A (tryCompare (.ref a1) "__eq__" u) _ X.xe s
      unfold tryCompare
      refine wpAny_bind (PySem.W.ifBound_K I.kIn J hM.at_ hM.fn (wpAny_mono (call_own F (hr.mono (Nat.le_succ _)) hB tk I (us := [.ref a1, u]) (vs := [.ref a1, y]) (.cons rfl (.cons ry .nil)) q) (fun r s1 hq => ?_) fun _ _ z => z))
      obtain ⟨v, H1, I1, rv, t, rfl, q1⟩ := hq
      obtain rfl : r = Value.bool t := rv
      exact wpAny_pure ⟨_, rfl, .bl t, H1, I1, rfl, q1⟩
    | true =>
      obtain ⟨hm1, hm2⟩ := hm rfl
      show wpAny (model X.prog X.w) X.A (tryCompare (.ref a1) "__ne__" u) _ X.xe s
      unfold tryCompare
      refine wpAny_bind (ifBound_ne I.kIn J hm2 (call_ne hu I.kIn J hm1 hM.at_ hM.fn (wpAny_mono (call_own1 F hr hB tk I (us := [.ref a1, u]) (vs := [.ref a1, y]) (.cons rfl (.cons ry .nil)) q) (fun r s1 hq => ?_) fun _ _ z => z)))
      obtain ⟨v, H1, I1, rv, t, rfl, q1⟩ := hq
      obtain rfl : r = Value.bool t := rv
      exact ⟨t, rfl, wpAny_pure ⟨_, rfl, .bl (!t), H1, I1, rfl, q1⟩⟩)
  cases neg <;> exact h2
/-- the left one: an object of the class; or the right one is, and the left one is of a built-in kind -/
def tOwnM (C : Addr) (r' : RL') (neg : Bool) (ta tb : TE') : TE' := fun env S Φ Ψ => ta env S (fun u S1 => tb env S1 (fun y S2 => match rdI u S2 with
  | some (C', _) => (C' = C ∧ okY C y S2) ∧ r' [u, y] S2 (fun z S3 => finB (fun t => if neg then !t else t) z S3 Φ) Ψ
  | none => match rdI y S2, rd u S2 with
    | some (C', _), some d => (C' = C ∧ backK d = true) ∧ r' [y, u] S2 (fun z S3 => finB (fun t => if neg then !t else t) z S3 Φ) Ψ
    | _, _ => False) Ψ) Ψ
def OwnM (K : PySem.W.Frag) (C : Addr) (LS : Sp) (neg : Bool) (W : WX) (σ : L2.St) (Q : VK) (x y : V) (H2 : Hp) : Prop :=
  (∃ a dx fs, x = .ref a ∧ H2 a = some (.ins C dx fs) ∧ TyN K C y H2 ∧ LS [.ref a, y] H2 (fun v H3 => ∃ t, v = .bl t ∧ Q (.bl (if neg then !t else t)) H3) (WE W σ)) ∨
  ∃ a dx fs, y = .ref a ∧ H2 a = some (.ins C dx fs) ∧ BackV K H2 x ∧ LS [.ref a, x] H2 (fun v H3 => ∃ t, v = .bl t ∧ Q (.bl (if neg then !t else t)) H3) (WE W σ)
theorem ownM_lift {K : PySem.W.Frag} {neg : Bool} (hs : SpecL K LS k r') (h : liftE K W (tOwnM C r' neg ta tb) (ka + kb + k) σ H Q) :
    liftE K W ta ka σ H fun x H1 => liftE K W tb kb σ H1 fun y H2 => OwnM K C LS neg W σ Q x y H2 :=
  lift_mono (lift_bind2 (Rp := RepU K) (Rp2 := RepU K) (Rp3 := RepU K) (g := fun u y _ S Φ Ψ => match rdI u S with
    | some (C', _) => (C' = C ∧ okY C y S) ∧ r' [u, y] S (fun z S3 => finB (fun t => if neg then !t else t) z S3 Φ) Ψ
    | none => match rdI y S, rd u S with
      | some (C', _), some d => (C' = C ∧ backK d = true) ∧ r' [y, u] S (fun z S3 => finB (fun t => if neg then !t else t) z S3 Φ) Ψ
      | _, _ => False) stabU h) fun x H1 q1 => lift_mono q1 fun y H2 ⟨w, u, z, env, S, Φ, Ψ, hh, r1, r2, q, c⟩ => by
  cases eI : rdI u S with
  | none =>
    simp only [eI] at q
    cases eJ : rdI z S with
    | none => simp only [eJ] at q
    | some p =>
      obtain ⟨C', ns⟩ := p
      cases eD : rd u S with
      | none => simp only [eJ, eD] at q
      | some d =>
        simp only [eJ, eD] at q
        obtain ⟨⟨rfl, oy⟩, q⟩ := q
        obtain ⟨a, dx, vs, rfl, e1⟩ := rdI_ok hh.h r2 eJ
        exact .inr ⟨a, dx, _, rfl, e1, back_of hh.h (rd_ok hh.h r1 eD) oy, hs (us := [z, u]) hh (.cons r2 (.cons r1 .nil)) q (fin_co (fin := finB fun t => if neg then !t else t) (finV := fun v H Q => ∃ t, v = .bl t ∧ Q (.bl (if neg then !t else t)) H) (finBL (g := fun t => if neg then !t else t)) c)⟩
  | some p =>
    obtain ⟨C', ns⟩ := p
    simp only [eI] at q
    obtain ⟨⟨rfl, oy⟩, q⟩ := q
    obtain ⟨a, dx, vs, rfl, e1⟩ := rdI_ok hh.h r1 eI
    exact .inl ⟨a, dx, _, rfl, e1, okY_ok hh.h r2 oy, hs (us := [u, z]) hh (.cons r1 (.cons r2 .nil)) q (fin_co (fin := finB fun t => if neg then !t else t) (finV := fun v H Q => ∃ t, v = .bl t ∧ Q (.bl (if neg then !t else t)) H) (finBL (g := fun t => if neg then !t else t)) c)⟩
theorem ownM_run {neg : Bool} (G : MFnS X.prog X.w X.K X.mg X.base C "__eq__" ps lv LS) (hm : neg = true → PySem.W.mroIn X.K C (.type "object") = some true ∧ PySem.W.findIn X.K (.ref C) "__ne__" = some (some (.builtin "object.__ne__"))) (B : BkC X.K C) (hr : Room (lv + 1) X.A) (tk : Takes X W)
    {x y : V} {v u : Value} (I : Inv X pins σ H s) (rx : RelV x v) (ry : RelV y u) (o : OwnM X.K C LS neg W σ Q x y H) : wpAny (model X.prog X.w) X.A (compareOp (if neg then .NotEq else .Eq) v u) (EP X pins σ Q) X.xe s := by
  rcases o with ⟨a1, dx, fs, ex, ea, ty, q⟩ | ⟨a1, dx, fs, ex, ea, bk, q⟩
  · subst ex
    obtain rfl : v = Value.ref a1 := rx
    exact eq_run neg G hm hr tk I ry ea ty q
  · subst ex
    obtain rfl : u = Value.ref a1 := ry
    exact back_run neg G hm B hr tk I rx ea bk q
theorem qeqM (neg : Bool) (G : MFnS X.prog X.w X.K X.mg X.base C "__eq__" ps lv LS) (hm : neg = true → PySem.W.mroIn X.K C (.type "object") = some true ∧ PySem.W.findIn X.K (.ref C) "__ne__" = some (some (.builtin "object.__ne__"))) (B : BkC X.K C) (hs : SpecL X.K LS k r') (hr : Room (lv + 1) X.A) (tk : Takes X W) (ha : PE X a (liftE X.K W ta ka)) (hb : PE X b (liftE X.K W tb kb)) (hmk : behindInMarks (if neg then .NotEq else .Eq) b = false := by rfl) :
    PE X (.Compare a [if neg then .NotEq else .Eq] [b] pos) (liftE X.K W (tOwnM C r' neg ta tb) (ka + kb + k)) := by
  refine PE.imp (t := fun σ H Q => liftE X.K W ta ka σ H fun x H1 => liftE X.K W tb kb σ H1 fun y H2 => OwnM X.K C LS neg W σ Q x y H2) ⟨fun pins s σ H Q I h => ?_⟩ fun σ H Q h => ownM_lift hs h
  exact wpAny_Compare1 (binT ha hb I h fun v u s2 x y H2 I2 rx ry o => ownM_run G hm B hr tk I2 rx ry o) hmk
theorem qteqM (neg : Bool) (G : MFnS X.prog X.w X.K X.mg X.base C "__eq__" ps lv LS) (hm : neg = true → PySem.W.mroIn X.K C (.type "object") = some true ∧ PySem.W.findIn X.K (.ref C) "__ne__" = some (some (.builtin "object.__ne__"))) (B : BkC X.K C) (hs : SpecL X.K LS k r') (hr : Room (lv + 1) X.A) (tk : Takes X W) (ha : PE X a (liftE X.K W ta ka)) (hb : PE X b (liftE X.K W tb kb)) (hmk : behindInMarks (if neg then .NotEq else .Eq) b = false := by rfl) :
    PT X (.Compare a [if neg then .NotEq else .Eq] [b] pos) (liftT X.K W (tTst (tOwnM C r' neg ta tb)) (ka + kb + k)) := by
  refine PT.imp (t := fun σ H Q => liftE X.K W ta ka σ H fun x H1 => liftE X.K W tb kb σ H1 fun y H2 => OwnM X.K C LS neg W σ (fun x H' => ∃ k, x = V.bl k ∧ Q k H') x y H2) ⟨fun pins s σ H Q I h => ?_⟩ fun σ H Q h => ownM_lift hs (tst_lift h)
  refine wpAny_isTrue_Compare1 (thn (ha.run pins s σ H _ I h) fun v s1 ⟨x, H1, I1, r1, q1⟩ => thn (hb.run pins s1 σ H1 _ I1 q1) fun u s2 ⟨y, H2, I2, r2, o⟩ => ?_) hmk
  refine thn (ownM_run (Q := fun x H' => ∃ k, x = V.bl k ∧ Q k H') G hm B hr tk I2 r1 r2 o) fun c s3 ⟨z, H3, I3, r3, k, e, q3⟩ => ?_
  subst e
  cases r3
  exact wpAny_truthy_bool ⟨H3, I3, q3⟩
end
end Pl

/-! ## tuples that hold places -/
namespace Pl
open PySem PySem.Spec PyProof.Rows L2 TL
section
variable {X : Cx} {W : WX} {pos p : Pos} {e : Expr} {es : List Expr} {tas : TA'} {ka : Nat}
def tTupU' (tas : TA') : TE' := fun env S Φ Ψ => tas env S (fun us S1 => us.length ≤ 1000 ∧ Φ (.tup us) S1) Ψ
theorem qtupU {x1} (h : PA X es (liftA X.K W tas ka)) : PE X (.Tuple es x1 pos) (liftE X.K W (tTupU' tas) (ka + 0)) := by
  refine PE.imp (pe_tup h) fun σ H Q h => lift_mono (lift_bind (Rp := RepUs X.K) (g := fun us _ S Φ _ => us.length ≤ 1000 ∧ Φ (U.tup us) S) h) fun xs H1 ⟨w, us, env, S, Φ, Ψ, hh, r, q, c⟩ => ?_
  obtain ⟨l, q⟩ := q
  refine ⟨by rw [r.length, sizeLine_eq]; omega, fun p hp => ?_⟩
  have x : Ext 0 w (w.add p (.tup xs)) := Ext.add (hh.h.free hp).1 (hh.h.free hp).2.1
  exact c.new hh hp q (show RepU X.K _ _ (.tup us) from ⟨p, xs, rfl, SqT.of (show upd w.F p _ p = _ from upd_same), (r.ext x x.A).vs⟩)
def gTupU' (t : TGts') : TGt' := fun u env S Φ => match u with
  | .tup us => t us env S Φ
  | _ => False
theorem qg_tupU {j : Nat} {t : TGts'} (n : Nat) (hc : X.calm = true) (h : PGs X es (liftGs X.K t)) (hn : (assignEach es X.env).length = n := by rfl) (hst : (assignEach es X.env).findIdx? (·.1) = none := by rfl) :
    PG X (.Tuple es j pos) (liftG X.K (gTupU' (sized n t))) := PG.imp (pg_tup hc h hn hst) fun v σ H Q ⟨w, env, S, u, Φ, hr, he, r, q, c⟩ => by
  cases u with
  | r i => exact False.elim q
  | d _ => exact False.elim q
  | tup us =>
    obtain ⟨a, vs, rfl, s1, rr⟩ := r
    have q' : (if us.length = n then t us env S Φ else False) := q
    by_cases z : us.length = n
    · rw [if_pos z] at q'
      exact ⟨a, vs, rfl, sameT hr.fz s1, by rw [rr.us.length]; simpa using z, w, env, S, _, Φ, hr, he, rr.us, q', c⟩
    · rw [if_neg z] at q'; exact False.elim q'
end
end Pl

/-! ## constant tuples of texts, dicts read at a key, list.remove of a text, isinstance of a caught error by several classes -/
namespace Pl
open PySem PySem.Spec PyProof.Rows L2 TL PyProof
inductive StrsAre : List Value → List (List Nat) → Prop
  | nil : StrsAre [] []
  | cons (x : Str) (t : Tok) {us : List Value} {ls : List (List Nat)} : StrsAre us ls → StrsAre (.str x t :: us) (tl x :: ls)
theorem StrsAre.vals : ∀ {us : List Value} {ls : List (List Nat)}, StrsAre us ls → ∃ vs : List V, Vals vs us ∧ (∀ (K : PySem.W.Frag) (F : Hp) (J : Addr → Prop), Reps K F J vs (ls.map .str)) ∧ us.length = ls.length
  | _, _, .nil => ⟨[], .nil, fun _ _ _ => .nil, rfl⟩
  | _, _, .cons x t h => by
    obtain ⟨vs, h1, h2, h3⟩ := h.vals
    exact ⟨.str x :: vs, .cons ⟨t, rfl⟩ h1, fun K F J => .cons .str (h2 K F J), by simp [h3]⟩
theorem cst_tupS {K : PySem.W.Frag} {mg : Str → Option Value} {nm : Str} {a : Addr} {dd : Option Addr} {n : Nat} {sl : Array (Option Value)} {us : Array Value} {ls : List (List Nat)} (h : mg nm = some (.ref a)) (hk : K.lookup a = some ⟨.type "tuple", dd, .seq us n, sl⟩) (r : StrsAre us.toList ls) (hz : ls.length ≤ 1000) : Cst K mg nm (.tup (ls.map .str)) := by
  obtain ⟨vs, h1, h2, h3⟩ := r.vals
  exact ⟨.ref a, _, h, rfl, fun F J => .tup (.inr ⟨_, us, n, hk, rfl, rfl, by rw [← Array.length_toList, h3, sizeLine_eq]; omega, h1⟩) (h2 K F J)⟩
/-! ### d[k] -/
def atK {α : Type} : List Key → List α → Key → Option α
  | k :: ks, d :: ds, j => if k = j then some d else atK ks ds j
  | _, _, _ => none
theorem valV_of {K : PySem.W.Frag} {F : Hp} {J : Addr → Prop} {k : Key} {d : D} : ∀ {ks : List Key} {vs : List V} {ds : List D}, Reps K F J vs ds → ks.length = vs.length → atK ks ds k = some d → ∃ v, valV (ks.zip vs) k = some v ∧ Rep K F J v d
  | [], _, _, _, _, h => by unfold atK at h; cases h
  | _ :: _, _, _, .nil, l, _ => by cases l
  | j :: ks, _, _, .cons (v := v) r rs, l, h => by
    unfold atK at h
    by_cases e : j = k
    · rw [if_pos e] at h
      cases h
      exact ⟨v, by simp [valV, e], r⟩
    · rw [if_neg e] at h
      obtain ⟨u, h1, h2⟩ := valV_of rs (by simpa using l) h
      exact ⟨u, by simpa [valV, e] using h1, h2⟩
def fDix : D → D → SS → (U → SS → Prop) → Prop := fun d e S Φ => match d, toKey e with
  | .dic ks ds, some k => ∃ x, atK ks ds k = some x ∧ Φ (.d x) S
  | _, _ => False
section
variable {X : Cx} {W : WX} {pos p : Pos} {a b : Expr} {ta tb : TE'} {ka kb lv : Nat}
theorem dixL {K : PySem.W.Frag} : OpL K W (fun x y H Q => ∃ a v, x = .ref a ∧ DGet H a y (some v) ∧ Q v H) (rd2 fDix) 0 := by
  intro w S H σ env x y u z Φ Ψ Q hh r1 r2 q c
  obtain ⟨d, e, n1, n2, q⟩ := rd2_ok hh r1 r2 q
  cases d <;> try (exact False.elim q)
  rename_i ks ds
  have q' : (match toKey e with
    | some k => ∃ x, atK ks ds k = some x ∧ Φ (.d x) S
    | none => False) := by
    unfold fDix at q
    cases ek : toKey e with
    | none => simp only [ek] at q
    | some k => simpa only [ek] using q
  cases ek : toKey e with
  | none => rw [ek] at q'; exact q'.elim
  | some k =>
    rw [ek] at q'
    obtain ⟨x1, h1, q1⟩ := q'
    obtain ⟨p, vs, rfl, e1, l, rr⟩ := n1
    obtain ⟨v, hv, rv⟩ := valV_of rr l h1
    have rk : Rep K w.F w.J y e := n2.rep (fun ds h => by rw [h] at ek; cases ek) (fun ks ds h => by rw [h] at ek; cases ek)
    refine ⟨p, v, rfl, ?_, c.here hh q1 rv⟩
    rw [toKey_ok rk ek, ← hv]
    exact DGet.k e1
theorem qdix (hr : Room (lv + 1) X.A) (ha : PE X a (liftE X.K W ta ka)) (hb : PE X b (liftE X.K W tb kb)) (hs : NoSl b := by exact fun _ _ => rfl) : PE X (.Subscript a b pos) (liftE X.K W (tOp' (rd2 fDix) ta tb) (ka + kb + 0)) :=
  PE.imp (pe_dget (hu_of hr) ha hb hs) fun _ _ _ h => op_lift dixL h
/-! ### list.remove of a text -/
def eqS (k : Str) (v : Value) : Bool := match v with
  | .str n _ => decide (n = k)
  | _ => false
def rRemS : V → List V → Hp → VK → Prop := fun x xs H Q => ∃ (l : Addr) (ns : List Str) (k : Str) (j : Nat), x = .ref l ∧ xs = [.str k] ∧ H l = some (.lst (ns.map V.str)) ∧ ns[j]? = some k ∧ (∀ m : Nat, m < j → ns[m]? ≠ some k) ∧ Q .non (upd H l (.lst ((ns.eraseIdx j).map V.str)))
theorem vstr_get : ∀ {ns : List Str} {us : List Value}, Vals (ns.map V.str) us → ∀ (i : Nat) (x : Str), ns[i]? = some x → ∃ t, us[i]? = some (.str x t) := fun {ns us} r i x h => by
  obtain ⟨u, h1, h2⟩ := Vals.get (i := i) (x := V.str x) r (by rw [List.getElem?_map, h]; rfl)
  obtain ⟨t, rfl⟩ := h2
  exact ⟨t, h1⟩
theorem vstr_all : ∀ {ns : List Str} {us : List Value}, Vals (ns.map V.str) us → ∀ y ∈ us, ∃ x t, y = .str x t := fun {ns us} r y hy => by
  obtain ⟨i, hi, e⟩ := List.mem_iff_getElem.mp hy
  have hl : i < ns.length := by have := r.length; rw [List.length_map] at this; omega
  obtain ⟨t, h⟩ := vstr_get r i ns[i] (List.getElem?_eq_getElem hl)
  rw [List.getElem?_eq_getElem hi, e] at h
  exact ⟨_, t, Option.some.inj h⟩
theorem map_eraseIdx {α β : Type} (f : α → β) : ∀ (l : List α) (j : Nat), (l.map f).eraseIdx j = (l.eraseIdx j).map f
  | [], _ => rfl
  | _ :: _, 0 => rfl
  | a :: l, j + 1 => by simp [map_eraseIdx f l j]
theorem Vals.erase {xs : List V} {us : List Value} (r : Vals xs us) (j : Nat) : Vals (xs.eraseIdx j) (us.eraseIdx j) := r.eraseIdx j
theorem mt_removeS : MtR X "list.remove" rRemS := by
  intro pins s σ H x xs v us Q I rx rxs h
  obtain ⟨l, ns, k, j, rfl, rfl, hH, hj, hno, q⟩ := h
  cases rx
  obtain ⟨u, rfl, ru⟩ := rxs.one
  obtain ⟨t, rfl⟩ := ru
  obtain ⟨z, its, n, r, hl, e⟩ := I.lstM hH
  rw [List.length_map] at hl z
  have hjn : j < ns.length := (List.getElem?_eq_some_iff.mp hj).1
  have hjl : j < its.toArray.size := by rw [List.size_toArray]; omega
  have gives : ∀ y, y ∈ its.toArray → MeetsSeq.EqGives y (.str k t) (eqS k y) := fun y hy => by
    obtain ⟨x, t', rfl⟩ := vstr_all r y (by simpa using hy)
    exact fun _ _ _ _ _ _ h => wpAny_eqBool_str h
  refine call_meets PySem.F.slot_list_remove ⟨_, e, rfl⟩ PySem.F.entry_list_remove (PySem.F.args_list_remove_2 _ _)
    (MeetsSeq.list_remove l its.toArray n (.str k t) (eqS k) gives j hjl ?_ ?_ (by rw [List.size_toArray]; omega)) ⟨e, ?_⟩
  · obtain ⟨tj, hjt⟩ := vstr_get r j k hj
    have e1 : its.toArray[j] = .str k tj := by
      have := (List.getElem?_eq_some_iff.mp hjt).2
      simpa using this
    rw [e1]
    exact decide_eq_true rfl
  · intro m hm hmj
    have hmn : m < ns.length := by omega
    obtain ⟨tm, hmt⟩ := vstr_get r m _ (List.getElem?_eq_getElem hmn)
    have e1 : its.toArray[m] = .str ns[m] tm := by
      have := (List.getElem?_eq_some_iff.mp hmt).2
      simpa using this
    rw [e1]
    exact decide_eq_false fun e2 => hno m hmj (by rw [List.getElem?_eq_getElem hmn, e2])
  · have rr := r.eraseIdx j
    rw [map_eraseIdx] at rr
    refine ⟨.non, _, I.lset (its' := its.eraseIdx j) (t' := s.toks) hH e ?_ rr ?_, rfl, q⟩
    · show its.toArray.eraseIdxIfInBounds j = (its.eraseIdx j).toArray
      rw [List.eraseIdxIfInBounds_toArray]
    · have z2 := len_erase ns j
      rw [List.length_map]
      omega
def gRemove : RMo := fun m us S kt => match m, us with
  | .lst ds, [.d (.str l)] => ∃ ls : List (List Nat), ds = ls.map D.str ∧ l ∈ ls ∧ kt (.d .non) (.lst ((ls.erase l).map D.str))
  | _, _ => False
theorem erase_at (l : List Nat) : ∀ ls : List (List Nat), l ∈ ls → ∃ j, ls[j]? = some l ∧ (∀ m : Nat, m < j → ls[m]? ≠ some l) ∧ ls.erase l = ls.eraseIdx j
  | [], h => by cases h
  | a :: ls, h => by
    by_cases e : a = l
    · exact ⟨0, by simp [e], fun m hm => by omega, by simp [e]⟩
    · obtain ⟨j, h1, h2, h3⟩ := erase_at l ls (by rcases List.mem_cons.mp h with h | h; exact absurd h.symm e; exact h)
      refine ⟨j + 1, by simpa using h1, fun m hm => ?_, ?_⟩
      · cases m with
        | zero => simpa using e
        | succ m => simpa using h2 m (by omega)
      · rw [List.erase_cons_tail (by simpa using e), List.eraseIdx_cons_succ, h3]
theorem repS_map {K : PySem.W.Frag} {F : Hp} {J : Addr → Prop} : ∀ {ls : List (List Nat)} {vs : List V}, Reps K F J vs (ls.map D.str) → vs = (ls.map fun l => (⟨l.toArray⟩ : Str)).map V.str
  | [], _, .nil => rfl
  | l :: ls, _, .cons r rs => by
    have r' := RepN.str (K := K) (w := ⟨F, J, [], fun _ => none, 0, []⟩) (H := F) (show RepN K ⟨F, J, [], fun _ => none, 0, []⟩ F _ (.str l) from r)
    rw [r', repS_map rs]; rfl
theorem removeL {K : PySem.W.Frag} : MmL K rRemS gRemove := by
  intro w S H a ho m vs us kt Q hr ea ro ru q kk
  cases m with
  | lst ds =>
    obtain ⟨xs, rfl, rx⟩ := ro
    cases ru with
    | nil => exact q.elim
    | @cons v u vs us r1 rr =>
      cases rr with
      | cons _ _ => exact False.elim (by cases u <;> first | exact q | (rename_i x; cases x <;> exact q))
      | nil =>
        cases u with
        | r _ => exact q.elim
        | tup _ => exact q.elim
        | d x =>
          cases x <;> try exact False.elim q
          rename_i l
          obtain ⟨ls, rfl, hl, q⟩ := q
          obtain ⟨j, h1, h2, h3⟩ := erase_at l ls hl
          have ex := repS_map rx
          subst ex
          have ev := RepN.str (Rep.now hr r1)
          subst ev
          have inj : ∀ {x y : List Nat}, (⟨x.toArray⟩ : Str) = ⟨y.toArray⟩ → x = y := fun {x y} h => by
            have := congrArg (fun s : Str => s.cps.toList) h
            simpa using this
          refine ⟨a, ls.map fun l => (⟨l.toArray⟩ : Str), ⟨l.toArray⟩, j, rfl, rfl, ea, by rw [List.getElem?_map, h1]; rfl, fun m hm e => ?_, ?_⟩
          · rw [List.getElem?_map] at e
            cases em : ls[m]? with
            | none => rw [em] at e; cases e
            | some y =>
              rw [em] at e
              exact h2 m hm (by rw [em, inj (Option.some.inj e)])
          · have r3 := rx.erase j
            rw [map_eraseIdx, map_eraseIdx, map_eraseIdx, ← h3] at r3
            rw [map_eraseIdx, ← h3]
            exact kk _ _ q _ _ Rep.non ⟨_, rfl, r3⟩
  | dic _ _ => exact False.elim q
  | ins _ _ _ => exact False.elim q
  | lsu _ => exact False.elim q
/-! ### isinstance(e, (A, B, ..)), e the error that the clause holds -/
theorem qcls {n : Str} {A : Addr} (hm : X.mg n = some (.ref A)) (hg : Gl X n := by rfl) (hd : (n == ("__debug__" : Str)) = false := by decide) : PE X (.Name n pos) (liftE X.K W (tC' (.cls A)) 0) := qgl (v := .ref A) hm rfl (fun _ _ => .cls) hg hd
def clsOf : List D → Option (List Addr)
  | [] => some []
  | .cls A :: r => (clsOf r).map (A :: ·)
  | _ :: _ => none
theorem clsOf_ok {K : PySem.W.Frag} {F : Hp} {J : Addr → Prop} : ∀ {ds : List D} {vs : List V} {as : List Addr}, clsOf ds = some as → Reps K F J vs ds → vs = as.map V.ref
  | [], _, as, e, .nil => by cases e; rfl
  | d :: ds, _, as, e, .cons r rs => by
    cases d <;> try (cases e; done)
    unfold clsOf at e
    cases e2 : clsOf ds with
    | none => rw [e2] at e; cases e
    | some bs =>
      rw [e2] at e
      cases e
      cases r
      rw [clsOf_ok e2 rs]; rfl
theorem vals_refs : ∀ {as : List Addr} {us : List Value}, Vals (as.map V.ref) us → us = as.map Value.ref
  | [], _, .nil => rfl
  | _ :: _, _, .cons r rs => by
    rw [vals_refs rs, show _ = _ from r]; rfl
theorem call_isEt {a : Addr} {oe : Obj} {cls : Value} {d : Option Addr} {pn : List (Addr × Obj)} (hz : Zc cls d oe) (hf : ∃ vs, oe.data = .fields vs) : CallR (X.suite a ((a, oe) :: pn)) (.builtin "isinstance")
    (fun xs H Q => ∃ (D tp : Addr) (as : List Addr) (b : Bool), xs = [.ref a, .ref tp] ∧ cls = .ref D ∧ ExQ X.K D ∧ (∀ p, d = some p → ∃ fs, H p = some (.xd fs)) ∧ SqT X.K H tp (as.map V.ref) ∧ PySem.W.kitAny X.K (.ref D) (as.map Value.ref) = some b ∧ Q (.bl b) H) := by
  intro pins s σ H xs us Q I r h
  obtain ⟨D, tp, as, b, rfl, rfl, T, hd, hT, kb, q⟩ := h
  cases r with
  | cons r1 rr =>
    cases rr with
    | cons r2 rr =>
      cases rr
      cases r1
      cases r2
      obtain ⟨hget, _⟩ := I.pin (a, oe) (List.mem_append.mpr (.inl List.mem_cons_self))
      obtain ⟨vs, hv⟩ := hf
      have nc : PySem.W.notCls oe := by unfold PySem.W.notCls; rw [hv] <;> rfl
      obtain ⟨its, rv, ⟨o, h1, h2, n, h3⟩, hzz⟩ := I.tuple hT
      have e3 := vals_refs rv
      subst e3
      obtain ⟨oc, od0, dt, sl⟩ := o
      simp only at h2 h3
      subst h2 h3
      have main : ∀ od, PySem.W.InstAt s.heap a oe D od → wpAny (model X.prog X.w) (X.suite a ((a, oe) :: pn)).A (call (.builtin "isinstance") [.ref a, .ref tp]) (EP (X.suite a ((a, oe) :: pn)) pins σ Q) (X.suite a ((a, oe) :: pn)).xe s := fun od J =>
        PySem.W.kia_tup (PySem.W.kitx_exc T.hcl T.hga T.hgt T.hsub T.hat T.hsp T.htk T.hmr) I.kIn J h1 kb (fun z => nomatch z) fun tk => ⟨.bl b, H, I.kept (t' := tk) fun _ _ z => z, rfl, q⟩
      cases ed : d with
      | none => exact main none ⟨hget, hz.1, nc, by rw [hz.2, ed]; trivial⟩
      | some p =>
        obtain ⟨fs, e⟩ := hd p ed
        obtain ⟨mA, hns, _⟩ := I.hok p _ e
        obtain ⟨od, ho, _⟩ := lookIn_ns hns
        exact main (some od) ⟨hget, hz.1, nc, by rw [hz.2, ed]; exact ho⟩
theorem qisET {a A : Addr} {oe : Obj} {d : Option Addr} {pn : List (Addr × Obj)} {q3 : Pos} {ea eb : Expr} {ta tb : TE'} {k kb : Nat} (K' : PySem.W.Frag) (hz : Zc (.ref A) d oe) (hf : ∃ vs, oe.data = .fields vs) (hm : X.mg ("isinstance" : Str) = none)
    (ha : PE (X.suite a ((a, oe) :: pn)) ea (liftE X.K W ta k)) (hb : PE (X.suite a ((a, oe) :: pn)) eb (liftE X.K W tb kb)) (hG : Gl (X.suite a ((a, oe) :: pn)) ("isinstance" : Str) := by rfl)
    (he : starEach (ea :: eb :: []) (X.suite a ((a, oe) :: pn)).env = (false, eval ea (X.suite a ((a, oe) :: pn)).env) :: starEach [eb] (X.suite a ((a, oe) :: pn)).env := by rfl)
    (he2 : starEach (eb :: []) (X.suite a ((a, oe) :: pn)).env = (false, eval eb (X.suite a ((a, oe) :: pn)).env) :: starEach [] (X.suite a ((a, oe) :: pn)).env := by rfl) (hpl : (backTo pos (starEach [eb] (X.suite a ((a, oe) :: pn)).env)).any (·.1) = false := by rfl) (hK : X.K = K' := by rfl) :
    PE (X.suite a ((a, oe) :: pn)) (.Call (.Name ("isinstance" : Str) q3) [ea, eb] [] pos) (liftE X.K W (fun env S Φ Ψ => ta env S (fun z S1 => tb env S1 (fun y S2 => match z, y with
      | .d (.exn a1 d1 _ _), .d (.tup ds) => (a1 = a ∧ d1 = d ∧ ExQ K' A) ∧ ∃ as b, clsOf ds = some as ∧ PySem.W.kitAny K' (.ref A) (as.map Value.ref) = some b ∧ Φ (.d (.bl b)) S2
      | _, _ => False) Ψ) Ψ) (k + kb + 0)) := by
  subst hK
  refine PE.imp (pe_callB (call_isEt hz hf) hG hm (by decide +kernel) (pa_cons ha (pa_cons hb pa_nil he2) he) (by decide +kernel) (by decide +kernel) he hpl) fun σ H Q h => ?_
  refine lift_mono (lift_bind2 (kg := 0) (Rp := RepU X.K) (Rp2 := RepU X.K) (Rp3 := RepU X.K) (g := fun z y _ S Φ Ψ => match z, y with
      | .d (.exn a1 d1 _ _), .d (.tup ds) => (a1 = a ∧ d1 = d ∧ ExQ X.K A) ∧ ∃ as b, clsOf ds = some as ∧ PySem.W.kitAny X.K (.ref A) (as.map Value.ref) = some b ∧ Φ (.d (.bl b)) S
      | _, _ => False) stabU h) fun x H1 q1 => lift_mono q1 fun y H2 ⟨w, u, z, env, S, Φ, Ψ, hh, r1, r2, q, c⟩ => ?_
  cases u with
  | r _ => exact q.elim
  | tup _ => exact q.elim
  | d ud =>
    cases ud <;> try exact q.elim
    cases z with
    | r _ => exact q.elim
    | tup _ => exact q.elim
    | d zd =>
      cases zd <;> try exact q.elim
      obtain ⟨⟨rfl, rfl, T⟩, as, b, e1, kb, q⟩ := q
      have rv' : Rep X.K w.F w.J x (.exn _ _ _ _) := r1
      obtain ⟨tp, vs, rfl, s1, rr⟩ := RepN.tup (Rep.now hh.h (show Rep X.K w.F w.J y (.tup _) from r2)) hh.h
      have ev := clsOf_ok e1 rr
      subst ev
      refine ⟨A, tp, as, b, ?_, rfl, T, ?_, s1, kb, c.here hh q .bl⟩
      · cases rv' <;> rfl
      · intro p ep
        cases rv' with
        | exn0 => cases ep
        | exn1 e1 l r => cases ep; exact ⟨_, hh.h.fz _ _ e1⟩
end
end Pl

/-! ## where a token is out already: a list comprehension whose items ask one -/
namespace Pl
open PySem PySem.Spec PyProof.Rows L2 TL
/-- behind a step that raises nothing: no fewer tokens -/
theorem thenT {α : Type} {t : Sem α} {Q Q' : α → Shared → Prop} {M : Model} {A : Around} {E : Value → Shared → Prop} {s : Shared} (h1 : 1 ≤ s.toks) (h : wpAny M A t Q (fun _ _ => False) s) (k : ∀ a s1, 1 ≤ s1.toks → Q a s1 → Q' a s1) : wpAny M A t Q' E s :=
  wpAny_mono (PySem.wpAny_toks_of h1 h) (fun a s1 z => k a s1 z.1 z.2) fun _ _ z => z.2.elim
theorem thenE {α : Type} {t : Sem α} {Q Q' : α → Shared → Prop} {M : Model} {A : Around} {E : Value → Shared → Prop} {s : Shared} (h1 : 1 ≤ s.toks) (h : wpAny M A t Q E s) (k : ∀ a s1, 1 ≤ s1.toks → Q a s1 → Q' a s1) : wpAny M A t Q' E s :=
  wpAny_mono (PySem.wpAny_toks_of h1 h) (fun a s1 z => k a s1 z.1 z.2) fun _ _ z => z.2
section
variable {X : Cx}
theorem pet_lcT {elt tg iter : Expr} {scope : Scope} {own : List (Str × Nat)} {pos : Pos} {wi : TI} {g : TG} {tt : TT} {te : TE} (htt : ∀ σ H Q, tt σ H Q → Q true H) (calm : X.calm = true) (nd : X.N.Nodup) (pi : PI X tg iter wi) (bo : BlkOk X.N X.env.scope scope own)
    (pg : ∀ (s : Shared) (H : Hp) (C : Addr) (cl : List (Str × Addr)) (fp : List Addr), PG (X.blk s H scope (compEnvC scope cl C X.env) fp) tg g)
    (pe : ∀ (s : Shared) (H : Hp) (C : Addr) (cl : List (Str × Addr)) (fp : List Addr), PET (X.blk s H scope (compEnvC scope cl C X.env) fp) elt te) (fs : ∀ x, foldedSetIterable iter X.env x = pure x := by intro _; rfl) :
    PET X (.ListComp elt [⟨tg, iter, [], 0⟩] scope pos) (tLc wi g tt te (own.map (·.2))) := by
  intro pins s σ H Q k0 I h
  rw [eval_ListComp]
  have cells : ∀ y ∈ scope.names, y.2 = .free → ∃ c, X.env.cells.lookup y.1 = some c := fun y hy e => (bo.free y hy e).elim (fun z => I.ok.has _ (.inl z)) fun z => I.ok.has _ (.inr z)
  refine wpAny_comprehension_free (use := none) rfl fs (closure_ok cells) bo.kind (fun y hy e => by rw [bo.uniq y hy, e]) (thenE k0 (pi.run pins s σ H _ I h) fun xv s1 k1 hx => thenE k1 hx fun itv s2 k2 hit => ?_)
  obtain ⟨it, fp, tn, J, H2, rfl, I2, T, t0, fr, q⟩ := hit
  refine wpAny_newObj_type (newEnv_comp ?_) (by show 0 ≤ sizeLine; decide)
  -- the list that is filled
  have nD : H2 s2.heap.objs.size = none := I2.hok.fresh (Nat.le_refl _)
  obtain ⟨W, ⟨m0, w0⟩, turn⟩ := q _ nD
  have gD : (s2.heap.push { cls := .type "list", data := .seq ([] : List Value).toArray }).get? s2.heap.objs.size = some { cls := .type "list", data := .seq ([] : List Value).toArray } := Heap.get?_push_size _ rfl
  have I3 : Inv X pins σ (upd H2 s2.heap.objs.size (.lst [])) { s2 with heap := s2.heap.push { cls := .type "list", data := .seq ([] : List Value).toArray } } :=
    I2.laid (t' := s2.toks) (fun b o e => Heap.get?_push_of_some _ e) (Nat.le_refl _) ⟨Nat.zero_le _, [], 0, .nil, gD⟩
  have t3 : tn 0 (s2.heap.push { cls := .type "list", data := .seq ([] : List Value).toArray }) := T.keep _ _ _ t0 fun b _ o e => Heap.get?_push_of_some _ e
  have f3 : ∀ b ∈ fp, FpOk X pins (upd H2 s2.heap.objs.size (.lst [])) b ∧ b < (s2.heap.push { cls := .type "list", data := .seq ([] : List Value).toArray }).objs.size := fun b hb => by
    obtain ⟨o, e, _⟩ := T.obj _ _ t0 b hb
    have lt := Heap.lt_size e
    exact ⟨⟨by rw [upd_ne (Nat.ne_of_lt lt)]; exact (fr b hb).1, (fr b hb).2⟩, by rw [Heap.size_push]; exact Nat.lt_succ_of_lt lt⟩
  generalize hs3 : ({ s2 with heap := s2.heap.push { cls := .type "list", data := .seq ([] : List Value).toArray } } : Shared) = s3 at I3
  have k3 : 1 ≤ s3.toks := by rw [← hs3]; exact k2
  have e3 : s3.heap = s2.heap.push { cls := .type "list", data := .seq ([] : List Value).toArray } := by rw [← hs3]
  rw [← e3] at t3 f3
  generalize s2.heap.objs.size = D at nD w0 turn I3 f3 ⊢
  have I4 := block_start I3 bo nd f3
  show codeAny _ _ (.compStart (.ListComp elt [⟨tg, iter, [], 0⟩] scope pos) 0 (.ref it) (.ref D) (compEnvC scope (cellsFrom (s3.heap.objs.size + 1) scope.names (cloFrom X.env.cells scope.names [])) s3.heap.objs.size X.env)) (compPost (model X.prog X.w) X.A X.xe none _ (.ref D) s3.heap.objs.size) { s3 with heap := pushCells (s3.heap.push { cls := .type "dict", data := .dict #[] }) scope.names }
  have pg' := pg s3 (upd H2 D (.lst [])) s3.heap.objs.size (cellsFrom (s3.heap.objs.size + 1) scope.names (cloFrom X.env.cells scope.names [])) fp
  have pe' := pe s3 (upd H2 D (.lst [])) s3.heap.objs.size (cellsFrom (s3.heap.objs.size + 1) scope.names (cloFrom X.env.cells scope.names [])) fp
  have lc : (compEnvC scope (cellsFrom (s3.heap.objs.size + 1) scope.names (cloFrom X.env.cells scope.names [])) s3.heap.objs.size X.env).locals = s3.heap.objs.size := rfl
  generalize compEnvC scope (cellsFrom (s3.heap.objs.size + 1) scope.names (cloFrom X.env.cells scope.names [])) s3.heap.objs.size X.env = ce at I4 pg' pe' lc ⊢
  generalize hs4 : ({ s3 with heap := pushCells (s3.heap.push { cls := .type "dict", data := .dict #[] }) scope.names } : Shared) = s4 at I4 ⊢
  have k4 : 1 ≤ s4.toks := by rw [← hs4]; exact k3
  have t4 : tn 0 s4.heap := T.keep _ _ _ t3 fun b _ o e => by rw [← hs4]; exact pushCells_keeps _ _ _ _ (Heap.get?_push_of_some _ e)
  have free3 : ∀ b ∈ fp, (upd H2 D (.lst [])) b = none := fun b hb => (f3 b hb).1.1
  generalize upd H2 D (.lst []) = H3 at I3 I4 pg' pe' w0 f3 free3
  have quiet : ∀ {σ' : L2.St} {H' : Hp} {s' : Shared}, Inv (X.blk s3 H3 scope ce fp) [] σ' H' s' → (∀ b ∈ fp, H' b = none) → ∀ b ∈ fp, FpOk (X.blk s3 H3 scope ce fp) [] H' b := fun {σ' H' s'} J' n b hb =>
    ⟨n b hb, (J'.ok.exf b hb).1, J'.ok.exfs b hb, .inl hb, fun x c e => (J'.ok.exf b hb).2 x c e, fun p hp => absurd (show p ∈ ([] : List (Addr × Obj)) ++ [] from hp) (by simp)⟩
  refine codeAny_compStart_list ?loop (T.self X.A 0 _ _ _ t4 ?loop)
  case loop =>
    refine compLoop_any (fun n z => ∃ i Hi, 1 ≤ z.toks ∧ Inv (X.blk s3 H3 scope ce fp) [] (L2.wipe σ (own.map (·.2))) Hi z ∧ tn i z.heap ∧ (∀ b ∈ fp, Hi b = none) ∧ W i n Hi) ?_ m0 ⟨0, H3, k4, I4, t4, free3, w0⟩
    rintro n z ⟨i, Hi, kz, Iz, tz, nz, wz⟩
    rcases turn i n Hi wz with ⟨st, qd⟩ | ⟨go, Nx, less, step⟩
    · refine thenT kz (T.done (X.blk s3 H3 scope ce fp) rfl rfl rfl calm i [] z _ Hi (fun _ _ => False) Iz (quiet Iz nz) tz st) fun r z1 _ ⟨er, J1⟩ => ?_
      subst er
      have back : Inv X pins σ Hi z1 := I3.call' (ch := fp) J1.os J1.base J1.hok J1.bare fun b hb => ⟨(f3 b hb).1.2.2.2.1, (f3 b hb).1.2.1, (f3 b hb).1.2.2.2.2.1, (f3 b hb).1.2.2.2.2.2⟩
      have fl : Hi ce.locals = none := J1.free
      obtain ⟨m, ns, _⟩ := J1.loc
      have ns : z1.heap.Ns ce.locals m := ns
      rw [lc] at ns fl
      obtain ⟨g0, g1, _, g3, g4, g5⟩ := I3.fpOk (Nat.le_refl _) fl
      exact ⟨m, ns, fun h2 sb => ⟨.ref D, Hi, back.turned (t' := z1.toks) (fun b o hb e => (sb.2 b hb).trans e) g0 g1 g3 g4 g5, rfl, qd⟩⟩
    · refine thenT kz (T.item (X.blk s3 H3 scope ce fp) rfl rfl rfl calm i [] z _ Hi (fun _ _ => False) Iz (quiet Iz nz) tz go) fun r z1 kz1 ⟨u, er, it1⟩ => ?_
      subst er
      refine thenT kz1 it1 fun _ z2 kz2 ⟨x, Hx, Jx, rx, yx, tx, nx⟩ => ?_
      have Jp := Jx.pinned (quiet Jx nx) (T.obj _ _ tx)
      refine thenT kz2 (pg'.run _ z2 _ Hx x u _ Jp rx (step x Hx yx)) fun _ z3 kz3 ⟨σ3, Hy, Jy, wy, qy⟩ => ?_
      refine wpAny_tests_nil ?_
      refine thenT kz3 (pe' _ z3 σ3 Hy _ kz3 Jy (htt _ _ _ qy)) fun v z4 kz4 ⟨yv, Hv, Jv, rv, acc, eD, lD, nxt⟩ => ?_
      refine thenT kz4 (app_ok (X := X.blk s3 H3 scope ce fp) (Q := fun _ z => Inv (X.blk s3 H3 scope ce fp) ([] ++ pinsAt fp z2.heap) σ3 (upd Hv D (.lst (acc ++ [yv]))) z) Jv eD lD rv fun z5 J5 => J5) fun _ z5 kz5 J5 => ?_
      obtain ⟨m', lt, w'⟩ := less _ nxt
      have pinned : ∀ b ∈ fp, ∀ o, z2.heap.get? b = some o → z5.heap.get? b = some o ∧ (upd Hv D (.lst (acc ++ [yv]))) b = none := fun b hb o e =>
        have y := J5.pin (b, o) (List.mem_append_right _ (List.mem_append_right _ (mem_pinsAt hb e)))
        ⟨y.1, y.2.1⟩
      refine ⟨m', lt, i + 1, _, kz5, J5.unpinned.weak (by rw [← wy, wipe_length]) (fun j v e => ?_), T.keep _ _ _ tx (fun b hb o e => (pinned b hb o e).1), (fun b hb => ?_), w'⟩
      · rw [← wy] at e
        exact (wipe_some e).1
      · obtain ⟨o, e, _⟩ := T.obj _ _ tx b hb
        exact (pinned b hb o e).2
end
section
variable {X : Cx} {W : WX} {pos p apos cp : Pos} {e o : Expr} {te to : TE'} {k ke : Nat}
theorem PET.imp {e : Expr} {t t2 : TE} (h : PET X e t) (i : ∀ σ H Q, t2 σ H Q → t σ H Q) : PET X e t2 := fun pins s σ H Q k0 I q => h pins s σ H Q k0 I (i σ H Q q)
theorem tYes_ok {K : PySem.W.Frag} (σ : L2.St) (H : Hp) (Q : Bool → Hp → Prop) (h : liftT K W tYes' 0 σ H Q) : Q true H := pure_lift (Rp := fun _ (a b : Bool) => a = b) (b := true) h fun _ => rfl
theorem qlcT {tg iter elt : Expr} {scope : Scope} {own : List (Str × Nat)} {ti : TI'} {g : TG} {g' : TGt'} {ki : Nat} {kind : Option Nat} (c : Nat) (hc : X.calm = true) (hN : X.N.Nodup) (hi : PI X tg iter (liftI X.K W ti ki)) (ok : BlkOk X.N X.env.scope scope own) (T : TgtOk X.K g g' (own.map (·.2)))
    (hg : ∀ s H C cl fp, PG (Cx.bk X scope s H C cl fp) tg g) (he : ∀ s H C cl fp, PET (Cx.bk X scope s H C cl fp) elt (liftE X.K W0 te ke)) (hs : ∀ x, foldedSetIterable iter X.env x = pure x := by intro _; rfl) :
    PET X (.ListComp elt [⟨tg, iter, [], 0⟩] scope pos) (liftE X.K W (tLc' kind ti g' tYes' te (own.map (·.2)) (0 + ke) c) (ki + c)) :=
  PET.imp (pet_lcT tYes_ok hc hN hi ok hg he hs) fun _ _ _ h => lc_lift T h
/-- 'sep'.join(e): behind the written text a token is out -/
theorem pe_joinT {y : Str} {j : Nat} {te : TE} {r : V → List V → Hp → VK → Prop} (rule : MtR X "str.join" r) (he : PET X e te) (hs : starEach [e] X.env = [(false, eval e X.env)] := by rfl)
    (hbase : attributeBase (.Constant (.str y) j cp) "join" X.env (eval (.Constant (.str y) j cp) X.env) = eval (.Constant (.str y) j cp) X.env := by rfl) (hline : (apos.endLine == pos.line) = true := by rfl) :
    PE X (.Call (.Attribute (.Constant (.str y) j cp) "join" apos) [e] [] pos) (fun σ H Q => te σ H fun v H1 => r (.str y) [v] H1 Q) := by
  refine ⟨fun pins s σ H Q I h => ?_⟩
  refine PySem.Call_method1 hbase hs hline (Calls.Constant_str ?_)
  refine ⟨"str", _, F.plainAttrs_str, F.slot_str_join, F.type_str_join, typeIs_str _ _ _, (fun _ e => nomatch e), Calls.callWith_builtin rfl (Calls.evalArgs_plain (Calls.spliced_cons ?_))⟩
  exact thn (he pins { s with toks := s.toks + 1 } σ H _ (Nat.succ_le_succ (Nat.zero_le _)) (I.tok _) h) fun u s2 ⟨z, H2, I2, r2, q2⟩ => Calls.spliced_nil (rule pins s2 σ H2 (V.str y) [z] _ [u] Q I2 ⟨_, rfl⟩ (.cons r2 .nil) q2)
def tJoinT (y : Str) (te : TE') : TE' := fun env S Φ Ψ => te env S (fun u S1 => fJoin (tl y) [u] S1 Φ Ψ) Ψ
theorem qjoinT {y : Str} {j : Nat} (he : PET X e (liftE X.K W te ke)) (hs : starEach [e] X.env = [(false, eval e X.env)] := by rfl)
    (hbase : attributeBase (.Constant (.str y) j cp) "join" X.env (eval (.Constant (.str y) j cp) X.env) = eval (.Constant (.str y) j cp) X.env := by rfl) (hline : (apos.endLine == pos.line) = true := by rfl) :
    PE X (.Call (.Attribute (.Constant (.str y) j cp) "join" apos) [e] [] pos) (liftE X.K W (tJoinT y te) (ke + 0)) :=
  PE.imp (pe_joinT mt_join he hs hbase hline) fun σ H Q h => lift_mono (lift_bind (Rp := RepU X.K) (g := fun u _ S Φ Ψ => fJoin (tl y) [u] S Φ Ψ) h) fun x H1 ⟨w, u, env, S, Φ, Ψ, hh, r1, q, c⟩ => by
    have e : (⟨(tl y).toArray⟩ : Str) = y := mk_tl y
    have := joinM (K := X.K) (W := W) hh (RepUs.cons r1 .nil) q c
    rw [e] at this
    exact this
/-- e.replace of two written texts -/
def repL (y z : Str) (l : List Nat) : List Nat := tl (Txt.replace ⟨l.toArray⟩ y z)
theorem repL_len (y z : Str) (l : List Nat) : (repL y z l).length ≤ l.length + (l.length + 1) * z.length := by
  have h := TK.replace_len ⟨l.toArray⟩ y z
  rw [len_mk] at h
  exact h
theorem repL_eq {y z : Str} (hy : 1 ≤ y.length) (l : List Nat) : repL y z l = StrLaws.replL (tl y) (tl z) l := StrLaws.replace_list (x := ⟨l.toArray⟩) hy
def tRpC' (y z : Str) (to : TE') : TE' := fun env S Φ Ψ => to env S (fun u S1 => match u with
  | .d (.str l) => l.length + (l.length + 1) * z.length ≤ 1000000 ∧ Φ (.d (.str (repL y z l))) S1
  | _ => False) Ψ
theorem qrepC {y z : Str} {j i : Nat} {c0 c1 : Pos} (ho : PE X o (liftE X.K W to k)) (hyz : (y == z) = false := by decide)
    (hst : starEach [.Constant (.str y) j c0, .Constant (.str z) i c1] X.env = [(false, eval (.Constant (.str y) j c0) X.env), (false, eval (.Constant (.str z) i c1) X.env)] := by rfl)
    (hbase : attributeBase o "replace" X.env (eval o X.env) = eval o X.env := by rfl) (hline : (apos.endLine == pos.line) = true := by rfl) :
    PET X (.Call (.Attribute o "replace" apos) [.Constant (.str y) j c0, .Constant (.str z) i c1] [] pos) (liftE X.K W (tRpC' y z to) (k + 0)) :=
  PET.imp (CwR.pet_replC ho hyz hst hbase hline) fun σ H Q h => lift_mono (lift_bind (Rp := RepU X.K) (Rp2 := RepU X.K) (g := fun (u : U) _ S (Φ : U → SS → Prop) _ => match u with
    | .d (.str l) => l.length + (l.length + 1) * z.length ≤ 1000000 ∧ Φ (.d (.str (repL y z l))) S
    | _ => False) h) fun x H1 ⟨w, u, env, S, Φ, Ψ, hh, r1, q, c⟩ => by
    cases u with
    | r _ => exact False.elim q
    | tup _ => exact False.elim q
    | d d =>
      cases d <;> try exact False.elim q
      rename_i l
      rw [RepN.str (Rep.now hh.h r1)]
      refine ⟨_, rfl, by rw [len_mk]; have := q.1; omega, ?_⟩
      have e : Txt.replace ⟨l.toArray⟩ y z = ⟨(repL y z l).toArray⟩ := ext_tl (by simp [repL, tl])
      rw [e]
      exact c.here hh q.2 Rep.strL
/-- str(e) of a whole number or a text -/
def strI (i : Int) : List Nat := tl (toString i : Str)
def fStr : D → SS → (U → SS → Prop) → Prop := fun d S Φ => match d with
  | .int i => i.natAbs.log2 < 1920 ∧ Φ (.d (.str (strI i))) S
  | .str l => Φ (.d (.str l)) S
  | _ => False
theorem strL' {K : PySem.W.Frag} : CalL K W (fun xs H Q => (∃ i, xs = [V.int i] ∧ i.natAbs.log2 < 1920 ∧ Q (.str (toString i)) H) ∨ ∃ a, xs = [V.str a] ∧ Q (.str a) H) (a1 fStr) 0 := by
  intro w S H σ env vs us Φ Ψ Q hh r q c
  obtain ⟨v, d, rfl, rn, q⟩ := a1_ok hh r q
  cases d <;> try exact False.elim q
  · rename_i i
    rw [RepN.int rn]
    refine .inl ⟨i, rfl, q.1, ?_⟩
    have e : (toString i : Str) = ⟨(strI i).toArray⟩ := ext_tl (by simp [strI, tl])
    rw [e]
    exact c.here hh q.2 Rep.strL
  · rename_i l
    rw [RepN.str rn]
    exact .inr ⟨_, rfl, c.here hh q Rep.strL⟩
theorem call_strA : CallR X (.type "str") (fun xs H Q => (∃ i, xs = [V.int i] ∧ i.natAbs.log2 < 1920 ∧ Q (.str (toString i)) H) ∨ ∃ a, xs = [V.str a] ∧ Q (.str a) H) := CallR.or call_str_int SkE.call_str_str
end
end Pl

/-! ## zip(a tuple, a list): the tuple's iterator ahead, the list's behind -/
namespace Pl
open PySem PySem.Spec PyProof.Rows L2 TL RZ
/-- all of a heap stays but for what zip itself works at -/
abbrev ZKeep (z TO i1 i2 : Addr) (h h' : Heap) : Prop := ∀ c o, c ≠ z → c ≠ TO → c ≠ i1 → c ≠ i2 → h.get? c = some o → h'.get? c = some o
section
variable {prog : Program} {w : World} {A : Around} {E : Value → Shared → Prop} {s : Shared} {z TI TO i1 i2 l1 l2 : Addr} {k1 k2 : Nat} {xs ys : Array Value} {x y a b : Value}
theorem zipX_item {Q : Value → Shared → Prop} (D : ZipApart z TI TO i1 i2 l1 l2)
    (hz : IsZip s.heap z TI TO .none) (hTI : IsPair s.heap TI (.ref i1) (.ref i2)) (hTO : IsPair s.heap TO a b)
    (h1 : s.heap.IsTupleIter i1 l1 k1) (h2 : s.heap.IsListIter i2 l2 k2) (hl1 : s.heap.IsTuple l1 xs) (hl2 : s.heap.IsList l2 ys) (hx : xs[k1]? = some x) (hy : ys[k2]? = some y)
    (hQ : ∀ h', IsZip h' z TI TO (rawInt s.heap.objs.size) → IsPair h' TO x y → h'.IsTupleIter i1 l1 (k1 + 1) → h'.IsListIter i2 l2 (k2 + 1) → IsPair h' s.heap.objs.size x y → h'.objs.size = s.heap.objs.size + 1 →
      ZKeep z TO i1 i2 s.heap h' → Q (.ref s.heap.objs.size) { s with heap := h' }) :
    wpAny (model prog w) A (Builtin.«zip.__next__» ⟨[.ref z], []⟩) (fun fin s' => ∃ v, fin = .done (.ret v) ∧ Q v s') E s := by
  show wpAny _ _ (field (.ref z) 2 >>= _) _ _ _
  refine wpAny_bind (wpAny_field hz rfl (x := .bool false) rfl ?_)
  refine wpAny_bind (wpAny_field hz rfl (x := .ref TI) rfl (wpAny_bind (wpAny_seqItems hTI rfl (wpAny_bind ?_))))
  unfold Builtin.SmallTypes.ownedTupleIsFree
  refine wpAny_bind (wpAny_field hz rfl (x := .none) rfl (wpAny_pure ?_))
  rw [if_pos rfl]
  refine wpAny_bind (wpAny_rule (wpAny_bind (wpAny_field hz rfl (x := .ref TO) rfl (wpAny_bind (wpAny_setField_rec hz (by simp) fun g1 z1 s1 => ?_)))))
  have z1 : IsZip g1 z TI TO .ellipsis := z1
  refine wpAny_bind ?_
  simp only [List.zipIdx_cons, List.zipIdx_nil, List.forIn_cons, List.forIn_nil]
  -- the tuple's item
  refine wpAny_bind (wpAny_bind (wpAny_onRaise (wpAny_bind (nextOf_tuple_item (h1.extBut s1.extBut D.i1z) (hl1.extBut s1.extBut D.l1z) hx fun g2 t2 s2 => wpAny_pure ?_))))
  have p2 : IsPair g2 TO a b := s2.extBut _ _ D.TOi1 (s1.extBut _ _ D.TOz hTO)
  refine wpAny_bind (wpAny_seqItems p2 rfl (wpAny_bind (wpAny_updateSeq_pair p2 fun g3 p3 s3 => wpAny_bind (wpAny_letGo (wpAny_pure ?_)))))
  have p3 : IsPair g3 TO x b := p3
  have k3 : ∀ c o, c ≠ z → c ≠ i1 → c ≠ TO → s.heap.get? c = some o → g3.get? c = some o := fun c o n1 n2 n3 e => s3.extBut _ _ n3 (s2.extBut _ _ n2 (s1.extBut _ _ n1 e))
  -- the list's item
  refine wpAny_bind (wpAny_bind (wpAny_onRaise (wpAny_bind (wpAny_nextOf_list_item (h2.at fun o e => k3 _ o D.i2z D.i12.symm D.TOi2.symm e) (hl2.at fun o e => k3 _ o D.l2z D.l2i1 D.l2TO e) hy fun g4 t4 s4 => wpAny_pure ?_))))
  have p4 : IsPair g4 TO x b := s4.extBut _ _ D.TOi2 p3
  refine wpAny_bind (wpAny_seqItems p4 rfl (wpAny_bind (wpAny_updateSeq_pair p4 fun g5 p5 s5 => wpAny_bind (wpAny_letGo (wpAny_pure (wpAny_pure ?_))))))
  have p5 : IsPair g5 TO x y := p5
  refine wpAny_bind (wpAny_seqItems p5 rfl (wpAny_bind (wpAny_newTuple ?_)))
  have sz : g5.objs.size = s.heap.objs.size := by rw [s5.1, s4.1, s3.1, s2.1, s1.1]
  have k5 : ZKeep z TO i1 i2 s.heap g5 := fun c o n1 n2 n3 n4 e => s5.extBut _ _ n2 (s4.extBut _ _ n4 (k3 c o n1 n3 n2 e))
  have z5 : IsZip g5 z TI TO .ellipsis := s5.extBut _ _ D.TOz.symm (s4.extBut _ _ D.i2z.symm (s3.extBut _ _ D.TOz.symm (s2.extBut _ _ D.i1z.symm z1)))
  have t5 : g5.IsTupleIter i1 l1 (k1 + 1) := t2.at fun o e => s5.extBut _ _ D.TOi1.symm (s4.extBut _ _ D.i12 (s3.extBut _ _ D.TOi1.symm e))
  have u5 : g5.IsListIter i2 l2 (k2 + 1) := t4.at fun o e => s5.extBut _ _ D.TOi2.symm e
  refine wpAny_bind ?_
  unfold Builtin.SmallTypes.ownedTupleHandOut
  have z6 : IsZip (g5.push { cls := .type "tuple", data := .seq #[x, y] }) z TI TO .ellipsis := Heap.get?_push_of_some _ z5
  refine wpAny_bind (wpAny_setField_rec z6 (by simp) fun g7 z7 s7 => ?_)
  have z7 : IsZip g7 z TI TO (rawInt g5.objs.size) := z7
  refine wpAny_setField_rec z7 (by simp) fun g8 z8 s8 => ?_
  have z8 : IsZip g8 z TI TO (rawInt g5.objs.size) := z8
  have up : ∀ c o, c ≠ z → g5.get? c = some o → g8.get? c = some o := fun c o n e => s8.extBut _ _ n (s7.extBut _ _ n (Heap.get?_push_of_some _ e))
  have T8 : IsPair g8 g5.objs.size x y := s8.extBut _ _ (Nat.ne_of_gt (Heap.lt_size z5)) (s7.extBut _ _ (Nat.ne_of_gt (Heap.lt_size z5)) (Heap.get?_push_size _ rfl))
  have sz8 : g8.objs.size = g5.objs.size + 1 := by rw [s8.1, s7.1, Heap.size_push]
  rw [sz] at z8 T8 sz8
  refine wpAny_pure ⟨_, rfl, ?_⟩
  show Q (.ref g5.objs.size) _
  rw [sz]
  exact hQ g8 z8 (up _ _ D.TOz p5) (t5.at fun o e => up _ o D.i1z e) (u5.at fun o e => up _ o D.i2z e) T8 sz8 fun c o n1 n2 n3 n4 e => up c o n1 (k5 c o n1 n2 n3 n4 e)
theorem zipX_end {Q : Fin → Shared → Prop} (hh : A.handled = none) (D : ZipApart z TI TO i1 i2 l1 l2)
    (hz : IsZip s.heap z TI TO .none) (hTI : IsPair s.heap TI (.ref i1) (.ref i2)) (hTO : IsPair s.heap TO a b)
    (h1 : s.heap.IsTupleIter i1 l1 k1) (h2 : s.heap.IsListIter i2 l2 k2) (hl1 : s.heap.IsTuple l1 xs) (hl2 : s.heap.IsList l2 ys) (stop : xs[k1]? = none ∨ ys[k2]? = none)
    (hE : ∀ h' e, ZKeep z TO i1 i2 s.heap h' → (∃ o, h'.get? e = some o ∧ o.cls = .type "StopIteration") → E (.ref e) { s with heap := h' }) :
    wpAny (model prog w) A (Builtin.«zip.__next__» ⟨[.ref z], []⟩) Q E s := by
  show wpAny _ _ (field (.ref z) 2 >>= _) _ _ _
  refine wpAny_bind (wpAny_field hz rfl (x := .bool false) rfl ?_)
  refine wpAny_bind (wpAny_field hz rfl (x := .ref TI) rfl (wpAny_bind (wpAny_seqItems hTI rfl (wpAny_bind ?_))))
  unfold Builtin.SmallTypes.ownedTupleIsFree
  refine wpAny_bind (wpAny_field hz rfl (x := .none) rfl (wpAny_pure ?_))
  rw [if_pos rfl]
  refine wpAny_bind (wpAny_rule (wpAny_bind (wpAny_field hz rfl (x := .ref TO) rfl (wpAny_bind (wpAny_setField_rec hz (by simp) fun g1 z1 s1 => ?_)))))
  have z1 : IsZip g1 z TI TO .ellipsis := z1
  -- the error leaves; zip itself is set free again
  have out : ∀ {g : Heap} {e : Addr}, ZKeep z TO i1 i2 s.heap g → IsZip g z TI TO .ellipsis → (∃ o, g.get? e = some o ∧ o.cls = .type "StopIteration") → ∀ g', Heap.SameBut z g g' → E (.ref e) { s with heap := g' } := fun {g e} k zz ⟨o, ho, hc⟩ g' sb => by
    have ne : e ≠ z := fun q => by subst q; rw [zz] at ho; cases ho; simp at hc
    exact hE g' e (fun c o' n1 n2 n3 n4 q => sb.extBut _ _ n1 (k c o' n1 n2 n3 n4 q)) ⟨o, sb.extBut _ _ ne ho, hc⟩
  refine wpAny_bind ?_
  simp only [List.zipIdx_cons, List.zipIdx_nil, List.forIn_cons, List.forIn_nil]
  refine wpAny_bind (wpAny_bind (wpAny_onRaise ?_))
  cases hx : xs[k1]? with
  | none =>
    refine wpAny_bind (nextOf_tuple_end hh (h1.extBut s1.extBut D.i1z) (hl1.extBut s1.extBut D.l1z) hx fun g2 e s2 he => ?_)
    have zz : IsZip g2 z TI TO .ellipsis := s2 _ _ D.i1z.symm z1
    exact wpAny_setField_rec zz (by simp) fun g3 _ s3 => out (fun c o n1 n2 n3 n4 q => s2 _ _ n3 (s1.extBut _ _ n1 q)) zz he g3 s3
  | some x =>
    have hy : ys[k2]? = none := stop.resolve_left fun q => by rw [hx] at q; cases q
    refine wpAny_bind (nextOf_tuple_item (h1.extBut s1.extBut D.i1z) (hl1.extBut s1.extBut D.l1z) hx fun g2 t2 s2 => wpAny_pure ?_)
    have p2 : IsPair g2 TO a b := s2.extBut _ _ D.TOi1 (s1.extBut _ _ D.TOz hTO)
    refine wpAny_bind (wpAny_seqItems p2 rfl (wpAny_bind (wpAny_updateSeq_pair p2 fun g3 p3 s3 => wpAny_bind (wpAny_letGo (wpAny_pure ?_)))))
    have k3 : ∀ c o, c ≠ z → c ≠ i1 → c ≠ TO → s.heap.get? c = some o → g3.get? c = some o := fun c o n1 n2 n3 e => s3.extBut _ _ n3 (s2.extBut _ _ n2 (s1.extBut _ _ n1 e))
    refine wpAny_bind (wpAny_bind (wpAny_onRaise (wpAny_bind (wpAny_nextOf_list_end hh (h2.at fun o e => k3 _ o D.i2z D.i12.symm D.TOi2.symm e) (hl2.at fun o e => k3 _ o D.l2z D.l2i1 D.l2TO e) hy fun g4 e s4 he => ?_))))
    have zz : IsZip g4 z TI TO .ellipsis := s4 _ _ D.i2z.symm (s3.extBut _ _ D.TOz.symm (s2.extBut _ _ D.i1z.symm z1))
    exact wpAny_setField_rec zz (by simp) fun g5 _ s5 => out (fun c o n1 n2 n3 n4 q => s4 _ _ n4 (k3 c o n1 n3 n2 q)) zz he g5 s5
theorem pyNext_zipX_item {Q : Option Value → Shared → Prop} (D : ZipApart z TI TO i1 i2 l1 l2)
    (hz : IsZip s.heap z TI TO .none) (hTI : IsPair s.heap TI (.ref i1) (.ref i2)) (hTO : IsPair s.heap TO a b)
    (h1 : s.heap.IsTupleIter i1 l1 k1) (h2 : s.heap.IsListIter i2 l2 k2) (hl1 : s.heap.IsTuple l1 xs) (hl2 : s.heap.IsList l2 ys) (hx : xs[k1]? = some x) (hy : ys[k2]? = some y)
    (hQ : ∀ h', IsZip h' z TI TO (rawInt s.heap.objs.size) → IsPair h' TO x y → h'.IsTupleIter i1 l1 (k1 + 1) → h'.IsListIter i2 l2 (k2 + 1) → IsPair h' s.heap.objs.size x y → h'.objs.size = s.heap.objs.size + 1 →
      ZKeep z TO i1 i2 s.heap h' → Q (some (.ref s.heap.objs.size)) { s with heap := h' }) : wpAny (model prog w) A (pyNext (.ref z)) Q E s := by
  have hT : s.TypeIs (.ref z) "zip" := ⟨_, hz, rfl⟩
  unfold pyNext
  exact wpAny_bind (wpAny_attempt (wpAny_callSpecial?_slot (name := Str.ofString "__next__") hT F.slot_zip_next
    (wpAny_call_entry F.slot_zip_next hT F.entry_zip_next (zipX_item D hz hTI hTO h1 h2 hl1 hl2 hx hy fun h' a1 a2 a3 a4 a5 a6 a7 => wpAny_pure (hQ h' a1 a2 a3 a4 a5 a6 a7)) (F.args_zip_next_1 _))))
theorem pyNext_zipX_end {Q : Option Value → Shared → Prop} (hh : A.handled = none) (D : ZipApart z TI TO i1 i2 l1 l2)
    (hz : IsZip s.heap z TI TO .none) (hTI : IsPair s.heap TI (.ref i1) (.ref i2)) (hTO : IsPair s.heap TO a b)
    (h1 : s.heap.IsTupleIter i1 l1 k1) (h2 : s.heap.IsListIter i2 l2 k2) (hl1 : s.heap.IsTuple l1 xs) (hl2 : s.heap.IsList l2 ys) (stop : xs[k1]? = none ∨ ys[k2]? = none)
    (hQ : ∀ h', ZKeep z TO i1 i2 s.heap h' → Q none { s with heap := h' }) : wpAny (model prog w) A (pyNext (.ref z)) Q E s := by
  have hT : s.TypeIs (.ref z) "zip" := ⟨_, hz, rfl⟩
  unfold pyNext
  refine wpAny_bind (wpAny_attempt (wpAny_callSpecial?_slot (name := Str.ofString "__next__") hT F.slot_zip_next
    (wpAny_call_entry F.slot_zip_next hT F.entry_zip_next (zipX_end hh D hz hTI hTO h1 h2 hl1 hl2 stop fun h' e hk ⟨o, ho, hc⟩ => ?_) (F.args_zip_next_1 _))))
  exact wpAny_bind (wpAny_isInstance (T := "StopIteration") (b := true) ⟨o, ho, hc⟩ isSubtype_stop (wpAny_pure (hQ _ hk)))
end
/-! ### zip is made -/
abbrev zx1 (h : Heap) (l1 : Addr) : Heap := h.push { cls := .type "tuple_iterator", data := .fields #[.ref l1, .int 0 0] }
abbrev zx2 (h : Heap) (l1 l2 : Addr) : Heap := (zx1 h l1).push { cls := .type "list_iterator", data := .fields #[.ref l2, .int 0 0] }
abbrev zx3 (h : Heap) (l1 l2 : Addr) : Heap := (zx2 h l1 l2).push { cls := .type "tuple", data := .seq #[.ref h.objs.size, .ref (zx1 h l1).objs.size] }
abbrev zx4 (h : Heap) (l1 l2 : Addr) : Heap := (zx3 h l1 l2).push { cls := .type "tuple", data := .seq #[.none, .none] }
abbrev zx5 (h : Heap) (l1 l2 : Addr) : Heap := (zx4 h l1 l2).push { cls := .type "zip", data := .fields #[.none, .bool false, .bool false, .ref (zx2 h l1 l2).objs.size, .ref (zx3 h l1 l2).objs.size] }
theorem zipX_new (l1 l2 : Addr) (xs ys : Array Value) :
    Meets (Builtin.«zip.__new__» ⟨[.type "zip", .ref l1, .ref l2], []⟩) (fun _ R s => s.heap.IsTuple l1 xs ∧ s.heap.IsList l2 ys ∧ R (.ok (.ret (.ref (zx4 s.heap l1 l2).objs.size))) { s with heap := zx5 s.heap l1 l2 }) :=
  .of_wp fun prog w A R s h => by
    obtain ⟨hp, g, d, tk, os⟩ := s
    obtain ⟨q1, q2, h⟩ := h
    have hsub := sub_zip
    have L1 : Heap.IsTuple (Shared.heap ⟨hp, g, d, tk, os⟩) l1 xs := q1
    have L2 : Heap.IsList (Shared.heap ⟨hp.push { cls := .type "tuple_iterator", data := .fields #[.ref l1, .int 0 0] }, g, d, tk, os⟩) l2 ys := Heap.IsList.push q2 _
    wp_walk using wpAny_pyIter_tuple L1, wpAny_pyIter_list L2
    exact ⟨_, rfl, h⟩
section
variable {prog : Program} {w : World} {A : Around} {E : Value → Shared → Prop} {s : Shared}
theorem call_zipX {l1 l2 : Addr} {xs ys : Array Value} {Q : Value → Shared → Prop} (q1 : s.heap.IsTuple l1 xs) (q2 : s.heap.IsList l2 ys)
    (h : ∀ h', IsZip h' (s.heap.objs.size + 4) (s.heap.objs.size + 2) (s.heap.objs.size + 3) .none → IsPair h' (s.heap.objs.size + 2) (.ref s.heap.objs.size) (.ref (s.heap.objs.size + 1)) →
      IsPair h' (s.heap.objs.size + 3) .none .none → h'.IsTupleIter s.heap.objs.size l1 0 → h'.IsListIter (s.heap.objs.size + 1) l2 0 → (∀ c o, s.heap.get? c = some o → h'.get? c = some o) → Q (.ref (s.heap.objs.size + 4)) { s with heap := h' }) :
    wpAny (model prog w) A (call (.type "zip") [.ref l1, .ref l2]) Q E s := by
  refine callType_new F.called_zip (by decide) (F.typeCall_zip_2 _ _) (F.newCall_zip_2 _ _) (fun obj => F.args_object_init_3 obj _ _) F.entry_zip_new (zipX_new l1 l2 xs ys) ⟨q1, q2, ?_⟩
  have n1 : (zx1 s.heap l1).objs.size = s.heap.objs.size + 1 := Heap.size_push ..
  have n2 : (zx2 s.heap l1 l2).objs.size = s.heap.objs.size + 2 := by rw [Heap.size_push, n1]
  have n3 : (zx3 s.heap l1 l2).objs.size = s.heap.objs.size + 3 := by rw [Heap.size_push, n2]
  have n4 : (zx4 s.heap l1 l2).objs.size = s.heap.objs.size + 4 := by rw [Heap.size_push, n3]
  have up : ∀ {g : Heap} {c : Addr} {o o' : Obj}, g.get? c = some o → (g.push o').get? c = some o := fun e => Heap.get?_push_of_some _ e
  have e5 : (zx5 s.heap l1 l2).get? (zx4 s.heap l1 l2).objs.size = some _ := Heap.get?_push_size _ rfl
  have e4 : (zx5 s.heap l1 l2).get? (zx3 s.heap l1 l2).objs.size = some _ := up (Heap.get?_push_size _ rfl)
  have e3 : (zx5 s.heap l1 l2).get? (zx2 s.heap l1 l2).objs.size = some _ := up (up (Heap.get?_push_size _ rfl))
  have e2 : (zx5 s.heap l1 l2).get? (zx1 s.heap l1).objs.size = some _ := up (up (up (Heap.get?_push_size _ rfl)))
  have e1 : (zx5 s.heap l1 l2).get? s.heap.objs.size = some _ := up (up (up (up (Heap.get?_push_size _ rfl))))
  show _ ∧ _
  rw [n2, n3, n4] at e5
  rw [n3] at e4
  rw [n1, n2] at e3
  rw [n1] at e2
  rw [n4]
  exact ⟨⟨_, e5, rfl⟩, h _ e5 e3 e4 ⟨_, e1, rfl, rfl⟩ ⟨_, e2, rfl, rfl⟩ fun c o x => up (up (up (up (up x))))⟩
end
/-! ### the loop over it -/
/-- the tuple at a and the list at b as they stand at each turn -/
def ItzX (K : PySem.W.Frag) (a b : Addr) : It :=
  ⟨fun i H => ∃ (xs ys : List V) (x y : V), SqT K H a xs ∧ SqL K H b ys ∧ xs[i]? = some x ∧ ys[i]? = some y,
    fun i H v H' => ∃ T x y, v = .ref T ∧ H T = none ∧ H' = upd H T (.tup [x, y]) ∧ (∀ xs, SqT K H a xs → xs[i]? = some x) ∧ ∀ ys, SqL K H b ys → ys[i]? = some y,
    fun i H => ∃ xs ys : List V, SqT K H a xs ∧ SqL K H b ys ∧ (xs.length ≤ i ∨ ys.length ≤ i)⟩
theorem five {c z TI TO i1 i2 : Addr} (h : c ∈ [z, TI, TO, i1, i2]) : c = z ∨ c = TI ∨ c = TO ∨ c = i1 ∨ c = i2 := by simpa using h
theorem keep5 {z TI TO i1 i2 : Addr} {h h' : Heap} (k : ZKeep z TO i1 i2 h h') : ∀ c o, c ∉ [z, TI, TO, i1, i2] → h.get? c = some o → h'.get? c = some o := fun c o n e =>
  k c o (fun q => n (by simp [q])) (fun q => n (by simp [q])) (fun q => n (by simp [q])) (fun q => n (by simp [q])) e
theorem turn_zipX {P : Program} {w : World} {K : PySem.W.Frag} {elts : List Expr} {kk : Nat} {tpos : Pos} {a b z TI TO i1 i2 : Addr} (D : ZipApart z TI TO i1 i2 a b) :
    Turn P w K (.Tuple elts kk tpos) (ItzX K a b) [z, TI, TO, i1, i2] z (fun i h => IsZip h z TI TO .none ∧ IsPair h TI (.ref i1) (.ref i2) ∧ (∃ x y, IsPair h TO x y) ∧ h.IsTupleIter i1 a i ∧ h.IsListIter i2 b i) where
  mem := by simp
  obj := fun i h st c hc => by
    obtain ⟨hz, hTI, ⟨x, y, hTO⟩, ⟨o1, e1, _, d1⟩, ⟨o2, e2, _, d2⟩⟩ := st
    rcases five hc with rfl | rfl | rfl | rfl | rfl
    · exact ⟨_, hz, fun v q => nomatch q⟩
    · exact ⟨_, hTI, fun v q => nomatch q⟩
    · exact ⟨_, hTO, fun v q => nomatch q⟩
    · exact ⟨o1, e1, fun v q => by rw [d1] at q; cases q⟩
    · exact ⟨o2, e2, fun v q => by rw [d2] at q; cases q⟩
  keep := fun i h h' ⟨hz, hTI, ⟨x, y, hTO⟩, h1, h2⟩ k => ⟨k z (by simp) _ hz, k TI (by simp) _ hTI, ⟨x, y, k TO (by simp) _ hTO⟩, h1.at fun o q => k i1 (by simp) o q, h2.at fun o q => k i2 (by simp) o q⟩
  item := by
    intro X hP hw hK hc i pins s σ H E I hf st hg
    subst hP hw hK
    obtain ⟨hz, hTI, ⟨x0, y0, hTO⟩, h1, h2⟩ := st
    obtain ⟨xs, ys, x, y, qx, qy, ex, ey⟩ := hg
    obtain ⟨its, rv, p, _⟩ := I.tuple qx
    obtain ⟨its2, rv2, p2, _⟩ := I.list qy
    obtain ⟨u, hu, ru⟩ := rv.get ex
    obtain ⟨u2, hu2, ru2⟩ := rv2.get ey
    have zl := Heap.lt_size hz
    refine pyNext_zipX_item D hz hTI hTO h1 h2 p p2.isList (x := u) (y := u2) (by simpa using hu) (by simpa using hu2) fun g z' TO' h1' h2' hT hsz hk => ?_
    refine ⟨_, rfl, wpAny_letOwnedTupleGo_zip (s := { s with heap := g }) z' fun g2 z2 sb => ?_⟩
    have hT2 : g2.get? s.heap.objs.size = some { cls := .type "tuple", data := .seq #[u, u2] } := (sb.2 _ (Nat.ne_of_gt zl)).trans hT
    have new : ObjOk X.prog X.w (upd H s.heap.objs.size (.tup [x, y])) g2 s.heap.objs.size (.tup [x, y]) := ⟨by show 2 ≤ sizeLine; decide, [u, u2], .cons ru (.cons ru2 .nil), ⟨_, hT2, rfl, _, rfl⟩⟩
    have I1 : Inv X pins σ (upd H s.heap.objs.size (.tup [x, y])) { s with heap := g2 } :=
      I.turnedNew (t' := s.toks) (ch := [z, TI, TO, i1, i2]) (fun c o hb q => (sb.2 c (fun q' => hb (by simp [q']))).trans (keep5 hk c o hb q)) hf (Nat.le_refl _) new
    refine ⟨.ref s.heap.objs.size, _, I1, rfl, ⟨_, x, y, rfl, I.hok.fresh (Nat.le_refl _), rfl, fun l hl => by rw [I.tuple_inj hl qx]; exact ex, fun l hl => by rw [I.list_inj hl qy]; exact ey⟩,
      ⟨z2, (sb.2 _ D.TIz).trans (hk _ _ D.TIz D.TITO D.TIi1 D.TIi2 hTI), ⟨u, u2, (sb.2 _ D.TOz).trans TO'⟩, h1'.at fun o q => (sb.2 _ D.i1z).trans q, h2'.at fun o q => (sb.2 _ D.i2z).trans q⟩, fun c hcm => ?_⟩
    have lt : c < s.heap.objs.size := by
      rcases five hcm with rfl | rfl | rfl | rfl | rfl
      · exact zl
      · exact Heap.lt_size hTI
      · exact Heap.lt_size hTO
      · obtain ⟨_, e1, _⟩ := h1; exact Heap.lt_size e1
      · obtain ⟨_, e2, _⟩ := h2; exact Heap.lt_size e2
    rw [upd_ne (Nat.ne_of_lt lt)]
    exact (hf c hcm).1
  done := by
    intro X hP hw hK hc i pins s σ H E I hf st hg
    subst hP hw hK
    obtain ⟨hz, hTI, ⟨x0, y0, hTO⟩, h1, h2⟩ := st
    obtain ⟨xs, ys, qx, qy, stop⟩ := hg
    obtain ⟨its, rv, p, _⟩ := I.tuple qx
    obtain ⟨its2, rv2, p2, _⟩ := I.list qy
    have l1 := rv.length
    have l2 := rv2.length
    have he : its.toArray[i]? = none ∨ its2.toArray[i]? = none := stop.imp (fun q => by simp; omega) fun q => by simp; omega
    exact pyNext_zipX_end (I.ok.hd hc) D hz hTI hTO h1 h2 p p2.isList he fun g hk => ⟨rfl, I.turnedL (t' := s.toks) (ch := [z, TI, TO, i1, i2]) (keep5 hk) hf⟩
  self := fun A i s Q E st h => wpAny_pyIter_zip st.1 h
def iZipX (K : PySem.W.Frag) (ta : TA) : TI := fun σ H R => ta σ H fun vs H1 => ∃ a b xs ys, vs = [.ref a, .ref b] ∧ SqT K H1 a xs ∧ SqL K H1 b ys ∧ R (ItzX K a b) H1
theorem pi_zipX {X : Cx} {e e2 : Expr} {ta : TA} {p pos tpos : Pos} {elts : List Expr} {kk : Nat} (hg : Gl X "zip") (hm : X.mg "zip" = none) (ha : PA X [e, e2] ta)
    (hs : starEach [e, e2] X.env = (false, eval e X.env) :: starEach [e2] X.env := by rfl) (hpl : (backTo pos (starEach [e2] X.env)).any (·.1) = false := by rfl) :
    PI X (.Tuple elts kk tpos) (.Call (.Name "zip" p) [e, e2] [] pos) (iZipX X.K ta) := by
  refine ⟨fun pins s σ H R I h => ?_⟩
  refine Call_ (ld_blt I hg hm PyProof.Rows.boot_zip (PyProof.Rows.callWith_type1 (thn (ha.run pos pins s σ H _ I h) fun us s1 ⟨vs, H1, I1, r1, q1⟩ => ?_) hs hpl))
  obtain ⟨a, b, xs, ys, rfl, qx, qy, q⟩ := q1
  cases r1 with
  | cons r rr =>
    cases rr with
    | cons r' rr =>
      cases rr
      cases r
      cases r'
      obtain ⟨its, rv, p1, _⟩ := I1.tuple qx
      obtain ⟨its2, rv2, p2, _⟩ := I1.list qy
      obtain ⟨o1, ho1, _⟩ := id p1
      refine call_zipX (show s1.heap.IsTuple a its.toArray from p1) p2.isList fun g hz hTI hTO h1 h2 hk => wpAny_pyIter_zip hz ?_
      refine ⟨s1.heap.objs.size + 4, [s1.heap.objs.size + 4, s1.heap.objs.size + 2, s1.heap.objs.size + 3, s1.heap.objs.size, s1.heap.objs.size + 1], _, _, H1, rfl, I1.kept (t' := s1.toks) hk,
        turn_zipX (PySem.W.ktu_apart s1.heap.objs.size a b (Heap.lt_size ho1) p2.lt), ⟨hz, hTI, ⟨_, _, hTO⟩, h1, h2⟩, fun c hcm => ?_, q⟩
      have le : s1.heap.objs.size ≤ c := by
        rcases five hcm with rfl | rfl | rfl | rfl | rfl <;> first | exact Nat.le_refl _ | exact Nat.le_add_right _ _
      exact I1.fpOk le (I1.hok.fresh le)
section
variable {K : PySem.W.Frag} {w : Wd} {a b : Addr} {vs ws : List V} {ds es : List D}
theorem walk_zipX (e : SqT K w.F a vs) (e' : SqL K w.F b ws) (r : Reps K w.F w.J vs ds) (r' : Reps K w.F w.J ws es) : Walk K w (ItzX K a b) (zipD ds es) := by
  have hl : (zipD ds es).length = min ds.length es.length := by simp [zipD]
  refine ⟨fun i w1 S1 H1 x h l => ?_, fun i w1 S1 H1 d v H2 x h e1 y => ?_, fun w1 S1 H1 x h => ⟨vs, ws, sameT (x.F.trans h.fz) e, (x.F.trans h.fz).seq e', by rw [r.length, r'.length, hl]; omega⟩⟩
  · rw [hl] at l
    have l1 : i < vs.length := by rw [r.length]; omega
    have l2 : i < ws.length := by rw [r'.length]; omega
    exact ⟨vs, ws, vs[i], ws[i], sameT (x.F.trans h.fz) e, (x.F.trans h.fz).seq e', by simp [l1], by simp [l2]⟩
  · obtain ⟨T, x0, y0, rfl, hT, rfl, y1, y2⟩ := y
    obtain ⟨p, q, hp, hq, rfl⟩ := zip_get e1
    obtain ⟨u, h1, h2⟩ := r.get hp
    obtain ⟨u', h1', h2'⟩ := r'.get hq
    have h3 := y1 vs (sameT (x.F.trans h.fz) e)
    have h4 := y2 ws ((x.F.trans h.fz).seq e')
    rw [h1] at h3; cases h3
    rw [h1'] at h4; cases h4
    exact add_pair h hT (h2.mono x.F x.J) (h2'.mono x.F x.J)
end
section
variable {X : Cx} {W : WX} {pos p : Pos} {tg e e2 a b : Expr} {tas : TA'} {k ka : Nat}
def tZipX' (ta : TA') : TI' := fun env S Φ Ψ => ta env S (fun us S1 => match us with
  | [.d (.tup ds), .d (.lst es)] => Φ (zipD ds es) S1
  | _ => False) Ψ
theorem qi_zipX {elts : List Expr} {kk : Nat} {tpos : Pos} (hm : X.mg "zip" = none) (ha : PA X [a, b] (liftA X.K W tas ka)) (hg : Gl X "zip" := by rfl) (hs : starEach [a, b] X.env = (false, eval a X.env) :: starEach [b] X.env := by rfl) (hpl : (backTo pos (starEach [b] X.env)).any (·.1) = false := by rfl) :
    PI X (.Tuple elts kk tpos) (.Call (.Name "zip" p) [a, b] [] pos) (liftI X.K W (tZipX' tas) (ka + 0)) := by
  refine PI.imp (pi_zipX hg hm ha hs hpl) fun σ H R h => lift_mono (lift_bind (Rp := RepUs X.K) (g := fun us _ S Φ _ => match us with
    | [.d (.tup ds), .d (.lst es)] => Φ (zipD ds es) S
    | _ => False) h) fun vs H1 ⟨w, us, env, S, Φ, Ψ, hh, r, q, c⟩ => ?_
  split at q
  · rename_i ds es
    cases r with
    | cons r1 r =>
      cases r with
      | cons r2 r =>
        cases r
        have r1' : Rep X.K w.F w.J _ (.tup ds) := r1
        have r2' : Rep X.K w.F w.J _ (.lst es) := r2
        cases r1' with
        | tup e1 rr1 =>
          cases r2' with
          | lst e2 rr2 => exact ⟨_, _, _, _, rfl, sameT hh.h.fz e1, hh.h.fz.seq (SqL.of e2), c.here hh q (walk_zipX e1 (SqL.of e2) rr1 rr2)⟩
  · exact q.elim
end
end Pl

/-! ## == of dicts whose values are compared by an own __eq__: the state goes on from value to value -/
namespace Pl
open PySem PySem.Spec PyProof.Rows L2 TL PyProof
section
variable {prog : Program} {w : World} {KT : Type} [DecidableEq KT] {knd : KeyKind prog w KT} {A : Around} {E : Value → Shared → Prop} {s : Shared}
/-- what a dict's own object says -/
def RawD (knd : KeyKind prog w KT) (o : Obj) (kvs : List (KT × Value)) : Prop := o.ExactDict ∧ ∃ es ep, o.data = .dict es ep ∧ KeysOf knd es ∧ Pairs knd es.toList kvs ∧ (kvs.map (·.1)).Nodup
theorem samePairsT {nm : String} {a b : Addr} {oa ob : Obj} {ka kb : List (KT × Value)} {Q : Bool → Shared → Prop} (na : (a == sysModules) = false) (nb : (b == sysModules) = false)
    (da : RawD knd oa ka) (db : RawD knd ob kb) (len : ka.length = kb.length) (I : Nat → Shared → Prop) (hI : ∀ i s', I i s' → s'.heap.get? a = some oa ∧ s'.heap.get? b = some ob)
    (step : ∀ i s' k v, i < ka.length → ka[i]? = some (k, v) → I i s' → ∃ y, valueAt kb k = some y ∧ wpAny (model prog w) A (eqBool v y) (fun e s2 => if e = true then I (i + 1) s2 else Q false s2) E s')
    (last : ∀ s', I ka.length s' → Q true s') (h0 : I 0 s) : wpAny (model prog w) A (Builtin.Dict.samePairs nm a b) Q E s := by
  obtain ⟨_, es, ep, hda, hka, hpa, _⟩ := da
  obtain ⟨_, es', ep', hdb, hkb, hpb, _⟩ := db
  have la : ka.length = es.size := by rw [← hpa.length]; exact Array.length_toList
  have lb : kb.length = es'.size := by rw [← hpb.length]; exact Array.length_toList
  have look : ∀ k, findBy knd.is es' k = valueAt kb k := fun k => by
    rw [← hpb.find k]
    clear hpb hkb hdb lb
    obtain ⟨l⟩ := es'
    simp [findBy]
  have hsz : es.size = es'.size := by omega
  unfold Builtin.Dict.samePairs Builtin.Dict.showsAll
  rw [if_neg (show ¬ (a == sysModules) = true by rw [na]; exact Bool.false_ne_true), if_neg (show ¬ (b == sysModules) = true by rw [nb]; exact Bool.false_ne_true)]
  refine wpAny_bind (wpAny_pure (wpAny_bind (wpAny_pure ?_)))
  refine wpAny_bind (wpAny_dictEntries (hI 0 s h0).1 hda ?_)
  dsimp only
  refine wpAny_bind (wpAny_dictEntries (hI 0 s h0).2 hdb ?_)
  rw [if_neg (by rw [hsz]; simp)]
  refine wpAny_bind (wpAny_dictEpoch (hI 0 s h0).1 hda (wpAny_bind ?_))
  rw [Std.Legacy.Range.forIn_eq_forIn_range']
  simp only [Std.Legacy.Range.size, Nat.sub_zero, Nat.add_sub_cancel, Nat.div_one]
  refine wpAny_forIn_list _ (fun rest q s' => q = (none, ()) ∧ ∃ i, rest = List.range' i (es.size - i) ∧ i ≤ es.size ∧ I i s') _ ?_ ?_ _ _ ⟨rfl, 0, by simp, Nat.zero_le _, h0⟩
  · rintro x rest q s' ⟨rfl, i, hr, hi, hIi⟩
    have hlt : i < es.size := by
      rcases Nat.lt_or_ge i es.size with z | z
      · exact z
      · rw [Nat.sub_eq_zero_of_le z] at hr; simp at hr
    obtain ⟨rfl, hrest⟩ : x = i ∧ rest = List.range' (i + 1) (es.size - (i + 1)) := by
      rw [show es.size - i = (es.size - (i + 1)) + 1 by omega, List.range'_succ] at hr
      injection hr with h1 h2
      exact ⟨h1, h2⟩
    obtain ⟨ga, gb⟩ := hI x s' hIi
    refine wpAny_bind (wpAny_dictEntries ga hda ?_)
    rw [Array.getElem?_eq_getElem hlt]
    have hl : x < ka.length := by omega
    obtain ⟨k, v, hkv⟩ : ∃ k v, ka[x] = (k, v) := ⟨_, _, rfl⟩
    obtain ⟨hkey, hval⟩ := hpa.get? (i := x) (e := es[x]) (k := k) (v := v) (by rw [Array.getElem?_toList]; exact Array.getElem?_eq_getElem hlt) (by rw [List.getElem?_eq_getElem hl, hkv])
    obtain ⟨k', hk', hh⟩ := hka es[x] (Array.getElem_mem hlt)
    obtain rfl : k' = k := knd.inj _ _ _ hk' hkey
    obtain ⟨y, hy, he⟩ := step x s' k' v hl (by rw [List.getElem?_eq_getElem hl, hkv]) hIi
    show wpAny _ _ (holding [es[x].key, es[x].val] _ >>= _) _ _ _
    rw [hh]
    refine wpAny_bind (wpAny_holding (wpAny_bind (wpAny_dictFind_of hkey gb hdb hkb ?_)))
    cases hj : es'.findIdx? fun e => knd.is k' e.key with
    | none =>
      have hn : valueAt kb k' = none := by rw [← look k', findBy_of_findIdx?, hj]
      rw [hn] at hy; exact nomatch hy
    | some j =>
      obtain ⟨hjl, _, _⟩ := Array.findIdx?_eq_some_iff_getElem.mp hj
      have hv' : valueAt kb k' = some es'[j].val := by
        rw [← look k', findBy_of_findIdx?, hj]
        simp [Array.getElem?_eq_getElem hjl]
      refine wpAny_bind (wpAny_dictEntries gb hdb ?_)
      rw [Array.getElem?_eq_getElem hjl]
      obtain rfl : es'[j].val = y := Option.some.inj (hv'.symm.trans hy)
      rw [← hval] at he
      refine wpAny_holding (wpAny_mono he (fun e s2 z => ?_) fun _ _ z => z)
      cases e with
      | false =>
        show wpAny _ _ (if (!false) = true then _ else _) _ _ _
        rw [if_pos (by decide)]
        rw [if_neg (by decide)] at z
        exact wpAny_pure (wpAny_pure z)
      | true =>
        rw [if_pos rfl] at z
        show wpAny _ _ (if (!true) = true then _ else _) _ _ _
        rw [if_neg (by decide)]
        refine wpAny_bind (wpAny_dictEpoch (hI _ _ z).1 hda ?_)
        rw [if_neg (by simp)]
        exact wpAny_pure ⟨rfl, x + 1, hrest, hlt, z⟩
  · rintro q s' ⟨rfl, i, hr, hi, hIi⟩
    have hin : i = es.size := by
      rcases Nat.lt_or_ge i es.size with z | z
      · rw [show es.size - i = (es.size - (i + 1)) + 1 by omega, List.range'_succ] at hr; exact nomatch hr
      · exact Nat.le_antisymm hi z
    refine wpAny_pure (last s' ?_)
    rw [la, ← hin]; exact hIi
/-- a == b of two dicts -/
theorem rcT_dicts {a b : Addr} {oa ob : Obj} {ka kb : List (KT × Value)} {Q : Value → Shared → Prop} (na : (a == sysModules) = false) (nb : (b == sysModules) = false) (ca : s.TypeIs (.ref a) "dict") (cb : s.TypeIs (.ref b) "dict")
    (da : RawD knd oa ka) (db : RawD knd ob kb) (hu : A.units < cLine) (len : ka.length = kb.length) (I : Nat → Shared → Prop) (hI : ∀ i s', I i s' → s'.heap.get? a = some oa ∧ s'.heap.get? b = some ob)
    (step : ∀ i s' k v, i < ka.length → ka[i]? = some (k, v) → I i s' → ∃ y, valueAt kb k = some y ∧ wpAny (model prog w) A.in1 (eqBool v y) (fun e s2 => if e = true then I (i + 1) s2 else Q (.bool false) s2) E s')
    (last : ∀ s', I ka.length s' → Q (.bool true) s') (h0 : I 0 s) : wpAny (model prog w) A (richCompare .Eq (.ref a) (.ref b)) Q E s := by
  refine wpAny_richCompare_same_room (op := .Eq) ca cb PySem.F.slot_dict_eq (wpAny_call_entry PySem.F.slot_dict_eq ca PySem.F.entry_dict_eq ?_ (PySem.F.args_dict_eq_2 _ _)) hu
  show wpAny _ _ (Builtin.Dict.dictSlotArgs "__eq__" ⟨[.ref a, .ref b], []⟩ >>= _) _ _ s
  refine wpAny_bind ?_
  unfold Builtin.Dict.dictSlotArgs
  refine wpAny_bind (wpAny_notOrdered_dict ca ?_)
  show wpAny _ _ (pure (Value.ref a, Value.ref b)) _ _ s
  refine wpAny_pure (wpAny_bind (wpAny_isInstance (T := "dict") cb PySem.F.sub_dict_dict ?_))
  simp only [Bool.not_true, Bool.false_eq_true, if_false]
  refine wpAny_bind (wpAny_pure (wpAny_bind (wpAny_pure (wpAny_bind (samePairsT (Q := fun r s' => Q (.bool r) s') na nb da db len I hI step last h0 |> fun z => wpAny_mono z (fun r s' q => ?_) fun _ _ e => e)))))
  refine wpAny_pure ⟨_, rfl, (fun x => nomatch x), ?_⟩
  cases r <;> exact q
end
/-! ### where a dict's objects stand still -/
/-- tuples in tuples, at the bottom scalars -/
def lvD : Nat → D → Bool
  | _, .non => true
  | _, .bl _ => true
  | _, .int _ => true
  | _, .str _ => true
  | n + 1, .tup ds => ds.all (lvD n)
  | _, _ => false
section
variable {X : Cx} {W : WX} {pins : List (Addr × Obj)} {σ : L2.St} {H : Hp} {s : Shared} {F F' : Hp} {J : Addr → Prop}
/-- the dicts left out -/
theorem rep_cut (hF : ∀ a o, F a = some o → (∀ kvs, o ≠ .dK kvs) → F' a = some o) : ∀ (n : Nat) {v : V} {d : D}, lvD n d = true → Rep X.K F J v d → Rep X.K F' J v d := by
  have one : ∀ {n : Nat}, (∀ {v : V} {d : D}, lvD n d = true → Rep X.K F J v d → Rep X.K F' J v d) → ∀ {vs : List V} {ds : List D}, ds.all (lvD n) = true → Reps X.K F J vs ds → Reps X.K F' J vs ds := by
    intro n ih vs ds h r
    induction ds generalizing vs with
    | nil => cases r; exact .nil
    | cons d ds ihd =>
      cases r with
      | cons r rr =>
        rw [List.all_cons, Bool.and_eq_true] at h
        exact .cons (ih h.1 r) (ihd h.2 rr)
  intro n
  induction n with
  | zero => intro v d h r; cases r <;> first | exact .non | exact .bl | exact .int | exact .str | (simp [lvD] at h; done)
  | succ n ih =>
    intro v d h r
    cases r with
    | non => exact .non
    | bl => exact .bl
    | int => exact .int
    | str => exact .str
    | tup e rr =>
      refine .tup ?_ (one (fun a b => ih a b) (by simpa [lvD] using h) rr)
      rcases e with (e | ⟨o, e⟩) | e
      · exact .inl (.inl (hF _ _ e (fun _ z => nomatch z)))
      · exact .inl (.inr ⟨o, hF _ _ e (fun _ z => nomatch z)⟩)
      · exact .inr e
    | _ => simp [lvD] at h
/-- one value says one thing -/
theorem rep_fn (I : Inv X pins σ H s) (hF : Same F H) : ∀ (n : Nat) {v : V} {d e : D}, lvD n d = true → lvD n e = true → Rep X.K F J v d → Rep X.K F J v e → d = e := by
  have one : ∀ {n : Nat}, (∀ {v : V} {d e : D}, lvD n d = true → lvD n e = true → Rep X.K F J v d → Rep X.K F J v e → d = e) → ∀ {vs : List V} {ds es : List D}, ds.all (lvD n) = true → es.all (lvD n) = true → Reps X.K F J vs ds → Reps X.K F J vs es → ds = es := by
    intro n ih vs ds es h1 h2 r1 r2
    induction ds generalizing vs es with
    | nil => cases r1; cases r2; rfl
    | cons d ds ihd =>
      cases r1 with
      | cons a ar =>
        cases r2 with
        | cons b br =>
          rw [List.all_cons, Bool.and_eq_true] at h1 h2
          rw [ih h1.1 h2.1 a b, ihd h1.2 h2.2 ar br]
  intro n
  induction n with
  | zero =>
    intro v d e h1 h2 r1 r2
    cases r1 <;> first | (simp [lvD] at h1; done) | (cases r2 <;> first | rfl | (simp [lvD] at h2; done))
  | succ n ih =>
    intro v d e h1 h2 r1 r2
    cases r1 with
    | non => cases r2; rfl
    | bl => cases r2; rfl
    | int => cases r2; rfl
    | str => cases r2; rfl
    | tup e1 rr1 =>
      cases r2 with
      | tup e2 rr2 =>
        have := I.tuple_inj (sameT hF e1) (sameT hF e2)
        subst this
        rw [one (fun a b c d => ih a b c d) (by simpa [lvD] using h1) (by simpa [lvD] using h2) rr1 rr2]
      | _ => simp [lvD] at h2
    | _ => simp [lvD] at h1
/-- two dicts are locked, and set free again -/
theorem lock2 {p p' : Addr} {A B : List (Key × V)} (I : Inv X pins σ H s) (hp : H p = some (.dK A)) (hp' : H p' = some (.dK B)) :
    ∃ (HL : Hp) (op op' : Obj), Inv X pins σ HL s ∧ HL p = some (.frz op (.dK A)) ∧ HL p' = some (.frz op' (.dK B)) ∧ (∀ b, b ≠ p → b ≠ p' → HL b = H b) ∧
      ∀ H' s', Inv X pins σ H' s' → H' p = some (.frz op (.dK A)) → H' p' = some (.frz op' (.dK B)) → ∃ HU, Inv X pins σ HU s' ∧ HU p = some (.dK A) ∧ HU p' = some (.dK B) ∧ ∀ b, b ≠ p → b ≠ p' → HU b = H' b := by
  obtain ⟨op, I1⟩ := I.lock hp trivial
  by_cases e : p' = p
  · subst e
    have eAB : A = B := by rw [hp] at hp'; cases hp'; rfl
    subst eAB
    refine ⟨_, op, op, I1, upd_same, upd_same, fun b n _ => upd_ne n, fun H' s' I' h _ => ⟨_, I'.unlock h (I.nofrz hp trivial), upd_same, upd_same, fun b n _ => upd_ne n⟩⟩
  · have hp2 : (upd H p (.frz op (.dK A))) p' = some (.dK B) := by rw [upd_ne e]; exact hp'
    obtain ⟨op', I2⟩ := I1.lock hp2 trivial
    refine ⟨_, op, op', I2, by rw [upd_ne (Ne.symm e)]; exact upd_same, upd_same, fun b n n' => by rw [upd_ne n', upd_ne n], fun H' s' I' h h' => ?_⟩
    have J1 := I'.unlock h' (I.nofrz hp' trivial)
    have J2 := J1.unlock (d := p) (od := op) (u := .dK A) (by rw [upd_ne (Ne.symm e)]; exact h) (I.nofrz hp trivial)
    exact ⟨_, J2, upd_same, by rw [upd_ne e]; exact upd_same, fun b n n' => by rw [upd_ne n, upd_ne n']⟩
theorem raw_of {p : Addr} {o : Obj} {A : List (Key × V)} (I : Inv X pins σ H s) (h : H p = some (.frz o (.dK A))) : (p == sysModules) = false ∧ s.heap.get? p = some o ∧ s.TypeIs (.ref p) "dict" ∧ ∃ vs, KV A vs ∧ RawD (mixKind X.prog X.w) o vs := by
  obtain ⟨hd, z, hs, vs, kv, o', es, ep, ho, hx, hdt, r⟩ := I.hok p _ h
  rw [hd] at ho
  cases ho
  exact ⟨hs, hd, ⟨o, hd, hx.1⟩, vs, kv, hx, es, ep, hdt, r⟩
end
theorem paired_back {α β : Type} {G : α → β → Prop} : ∀ {l₁ : List α} {l₂ : List β}, Paired G l₁ l₂ → ∀ {i : Nat} {b : β}, l₂[i]? = some b → ∃ a, l₁[i]? = some a ∧ G a b
  | _, _, .nil, i, b, e => by simp at e
  | _, _, .cons r _, 0, b, e => by simp at e; subst e; exact ⟨_, rfl, r⟩
  | _, _, .cons _ t, i + 1, b, e => by
    obtain ⟨a, h1, h2⟩ := paired_back t (i := i) (b := b) (by simpa using e)
    exact ⟨a, by simpa using h1, h2⟩
theorem valueAt_get {κ : Type} [DecidableEq κ] : ∀ {l : List (κ × Value)} {i : Nat} {k : κ} {v : Value}, l[i]? = some (k, v) → (l.map (·.1)).Nodup → valueAt l k = some v
  | [], i, _, _, e, _ => by simp at e
  | (k0, v0) :: l, 0, k, v, e, _ => by
    obtain ⟨rfl, rfl⟩ : k0 = k ∧ v0 = v := by simpa using e
    simp [valueAt]
  | (k0, v0) :: l, i + 1, k, v, e, nd => by
    have e' : l[i]? = some (k, v) := by simpa using e
    rw [List.map_cons, List.nodup_cons] at nd
    have ih := valueAt_get e' nd.2
    have ne : k0 ≠ k := fun z => nd.1 (by rw [z]; exact List.mem_map.mpr ⟨(k, v), List.mem_of_getElem? e', rfl⟩)
    unfold valueAt at ih ⊢
    rw [List.find?_cons_of_neg (by simpa using ne)]
    exact ih
section
variable {X : Cx} {W : WX} {pos p : Pos} {a b e : Expr} {ta tb : TE'} {k ka kb lv : Nat} {C : Addr} {sp : Sp'} {ps : List Str} {pins : List (Addr × Obj)} {σ : L2.St} {H : Hp} {s : Shared} {Q : VK} {f : Str}
/-- two objects, == within a built-in's walk: the heap but for jars stays as it is -/
theorem eq1_run (G : MFn X.prog X.w X.K X.mg X.base C "__eq__" ps lv sp 0) (hr : Room (lv + 1) X.A) (tk : Takes X W) {F : Hp} {J : Addr → Prop} {n : Nat} {x y : D} {v u : V} {c : Bool} {QQ : Bool → Shared → Prop} (I : Inv X pins σ H s)
    (hv : ∃ a1 dx fs, v = .ref a1 ∧ H a1 = some (.ins C dx fs)) (hu' : ∃ a1 dx fs, u = .ref a1 ∧ H a1 = some (.ins C dx fs)) (hF : Same F H) (hJ : ∀ a, J a → JarAt n (H a) ∧ F a = none) (r1 : Rep X.K F J v (.obj C [f] [x])) (r2 : Rep X.K F J u (.obj C [f] [y])) (hn : n ≤ LIM)
    (hs : sp [.obj C [f] [x], .obj C [f] [y]] (fun z => z = .bl c) (fun _ => False))
    (hq : ∀ s' H1 n1, Inv X pins σ H1 s' → n1 ≤ n → (∀ b o, H b = some o → ¬ J b → H1 b = some o) → (∀ b, J b → JarAt n1 (H1 b)) → QQ c s') {a1 b1 : Addr} (ea : v = .ref a1) (eb : u = .ref b1) :
    wpAny (model X.prog X.w) X.A.in1 (richCompare .Eq (.ref a1) (.ref b1)) (fun r s' => r = .bool c ∧ QQ c s') X.xe s := by
  obtain ⟨fn, fd, hM, hFn, hB, FF⟩ := G.ex
  subst ea; subst eb
  obtain ⟨_, dx, fs, e1, h1⟩ := hv
  cases e1
  obtain ⟨_, dx2, fs2, e2, h2⟩ := hu'
  cases e2
  obtain ⟨ox, od, IA⟩ := insX I h1
  obtain ⟨oy, od2, IB⟩ := insX I h2
  refine cmp_one (A := X.A.in1) (hu_of hr) I.kIn IA IB.type nf_self ?_
  show wpAny (model X.prog X.w) X.A.in1 (tryCompare (.ref a1) "__eq__" (.ref b1)) _ X.xe s
  unfold tryCompare
  refine wpAny_bind (PySem.W.ifBound_K I.kIn IA hM.at_ hM.fn (wpAny_mono (call_own1 (Q := fun z H1 => ∃ n1, z = .bl c ∧ n1 ≤ n ∧ (∀ b o, H b = some o → ¬ J b → H1 b = some o) ∧ ∀ b, J b → JarAt n1 (H1 b)) FF hr hB tk I (us := [.ref a1, .ref b1]) (vs := [.ref a1, .ref b1]) (.cons rfl (.cons rfl .nil)) ?_) (fun r s1 z => ?_) fun _ _ z => z))
  · refine ⟨F, J, n, _, _, _, hF, hJ, .cons r1 (.cons r2 .nil), hn, hs, fun d hd F1 J1 n1 v' H1 af rv => ?_, fun _ z => z.elim⟩
    subst hd
    cases rv
    exact ⟨n1, rfl, af.sn, af.fr, fun b j => (af.jr b (af.sJ b j)).1⟩
  · obtain ⟨v', H1, I1, rv, n1, rfl, hn1, k1, k2⟩ := z
    obtain rfl : r = Value.bool c := rv
    exact wpAny_pure ⟨_, rfl, rfl, hq s1 H1 n1 I1 hn1 k1 k2⟩
/-- what is asked of two dicts of objects with one field each -/
def dicQ (C : Addr) (f : Str) (sp : Sp') (d e : D) (Φ : Bool → Prop) : Prop := match d, e with
  | .dic ks ds, .dic ks' es => ∃ (xs ys : List D) (eqb : D → D → Bool), (ks' = ks ∧ ks.Nodup ∧ ks.length = xs.length ∧ xs.length = ys.length ∧ ds = xs.map (fun x => .obj C [f] [x]) ∧ es = ys.map fun y => .obj C [f] [y]) ∧
      (∀ x ∈ xs, lvD 5 x = true) ∧ (∀ y ∈ ys, lvD 5 y = true) ∧ (∀ x ∈ xs, ∀ y ∈ ys, sp [.obj C [f] [x], .obj C [f] [y]] (fun z => z = .bl (eqb x y)) (fun _ => False)) ∧ (∀ x, eqb x x = true) ∧
      Φ ((xs.zip ys).all fun p => eqb p.1 p.2)
  | _, _ => False
theorem eqBool_refs {M : Model} {prog : Program} {w : World} {A : Around} {E : Value → Shared → Prop} {a1 b1 : Addr} {QQ : Bool → Shared → Prop} {s : Shared} (same : a1 = b1 → QQ true s)
    (other : a1 ≠ b1 → wpAny (model prog w) A (richCompare .Eq (.ref a1) (.ref b1)) (fun r s' => ∃ c, r = .bool c ∧ QQ c s') E s) : wpAny (model prog w) A (eqBool (.ref a1) (.ref b1)) QQ E s := by
  unfold eqBool
  try with_reducible refine wpAny_holding ?_
  show wpAny _ _ (if (Value.ref a1 == Value.ref b1) = true then _ else _) QQ E s
  by_cases h : (Value.ref a1 == Value.ref b1) = true
  · rw [if_pos h]
    have e : a1 = b1 := by have := eq_of_beq h; injection this
    exact wpAny_bind (wpAny_rule (wpAny_pure (same e)))
  · rw [if_neg h]
    refine wpAny_bind (wpAny_mono (other fun e => h (by rw [e]; exact beq_self_eq_true _)) (fun r s' z => ?_) fun _ _ z => z)
    obtain ⟨c, rfl, q⟩ := z
    exact wpAny_truthy_bool q
theorem objs_at {F : Hp} {J : Addr → Prop} {vs : List V} {xs : List D} (r : Reps X.K F J vs (xs.map fun x => D.obj C [f] [x])) {i : Nat} {x : D} (e : xs[i]? = some x) :
    ∃ a dx v, vs[i]? = some (.ref a) ∧ F a = some (.ins C dx [(f, v)]) ∧ Rep X.K F J (.ref a) (.obj C [f] [x]) ∧ Rep X.K F J v x := by
  obtain ⟨v, h1, h2⟩ := r.get (i := i) (d := .obj C [f] [x]) (by rw [List.getElem?_map, e]; rfl)
  cases h2 with
  | obj e1 l1 r1 =>
    cases r1 with
    | cons ra rb =>
      cases rb
      exact ⟨_, _, _, h1, e1, .obj e1 l1 (.cons ra .nil), ra⟩
theorem eqDic_run (G : MFn X.prog X.w X.K X.mg X.base C "__eq__" ps lv sp 0) (hr : Room (lv + 1) X.A) (tk : Takes X W) {w : Wd} {S : SS} {u z : U} {env : Env} {Φ : U → SS → Prop} {Ψ : XX} {x y : V} {v v' : Value}
    (I : Inv X pins σ H s) (rx : RelV x v) (ry : RelV y v') (hh : Here X.K w S H σ env 0) (r1 : RepU X.K w x u) (r2 : RepU X.K w y z) {d e : D} (e1 : rd u S = some d) (e2 : rd z S = some e) (q : dicQ C f sp d e fun c => Φ (.d (.bl c)) S) (c : Co (RepU X.K) X.K W 0 w σ Φ Ψ Q) :
    wpAny (model X.prog X.w) X.A (richCompare .Eq v v') (EP X pins σ Q) X.xe s := by
  have n1 := rd_ok hh.h r1 e1
  have n2 := rd_ok hh.h r2 e2
  unfold dicQ at q
  split at q
  case h_2 => exact q.elim
  rename_i ks ds ks' es
  obtain ⟨xs, ys, eqb, ⟨rfl, nd, lk, lxy, rfl, rfl⟩, lx, ly, hs, refl, q⟩ := q
  obtain ⟨pa, vs, rfl, hpa, la, ra⟩ := n1
  obtain ⟨pb, ws, rfl, hpb, lb, rb⟩ := n2
  obtain rfl : v = Value.ref pa := rx
  obtain rfl : v' = Value.ref pb := ry
  obtain ⟨HL, oa, ob, IL, ga, gb, rest, back⟩ := lock2 I hpa hpb
  obtain ⟨sa, ta, ca, A, ka, da⟩ := raw_of IL ga
  obtain ⟨sb, tb, cb, B, kb, db⟩ := raw_of IL gb
  have lA : A.length = xs.length := by rw [← Paired.length ka, List.length_zip]; omega
  have lB : B.length = xs.length := by rw [← Paired.length kb, List.length_zip]; omega
  have noJ : ∀ {p : Addr} {K : List (Key × V)}, H p = some (.dK K) → ¬ w.J p := fun {p K} h j => by
    obtain ⟨a1, a2, a3, ej, _⟩ := (hh.h.jr p j).1
    rw [h] at ej; cases ej
  have ja := noJ hpa
  have jb := noJ hpb
  -- the frame that does not speak of the two dicts
  let F' : Hp := fun b => if b = pa ∨ b = pb then none else w.F b
  have cutF : ∀ a o, w.F a = some o → (∀ kvs, o ≠ .dK kvs) → F' a = some o := fun a o h no => by
    have n : ¬ (a = pa ∨ a = pb) := by
      rintro (rfl | rfl)
      · have := hh.h.fz _ _ h; rw [hpa] at this; exact no _ (Option.some.inj this).symm
      · have := hh.h.fz _ _ h; rw [hpb] at this; exact no _ (Option.some.inj this).symm
    show (if a = pa ∨ a = pb then none else w.F a) = some o
    rw [if_neg n]; exact h
  have F'w : ∀ a o, F' a = some o → (a ≠ pa ∧ a ≠ pb) ∧ w.F a = some o := fun a o h => by
    have h : (if a = pa ∨ a = pb then none else w.F a) = some o := h
    by_cases n : a = pa ∨ a = pb
    · rw [if_pos n] at h; cases h
    · rw [if_neg n] at h; exact ⟨⟨fun z => n (.inl z), fun z => n (.inr z)⟩, h⟩
  -- the end
  have fin : ∀ s' Hi ni (cc : Bool), Inv X pins σ Hi s' → ni ≤ w.n → (∀ b o, HL b = some o → ¬ w.J b → Hi b = some o) → (∀ b, w.J b → JarAt ni (Hi b)) → cc = ((xs.zip ys).all fun p => eqb p.1 p.2) → EP X pins σ Q (.bool cc) s' := fun s' Hi ni cc Ii hn k1 k2 ec => by
    subst ec
    obtain ⟨HU, IU, ua, ub, uo⟩ := back Hi s' Ii (k1 _ _ ga ja) (k1 _ _ gb jb)
    have keep : ∀ b o, H b = some o → ¬ w.J b → HU b = some o := fun b o h j => by
      by_cases ea : b = pa
      · subst ea; rw [ua, ← hpa]; exact h
      · by_cases eb : b = pb
        · subst eb; rw [ub, ← hpb]; exact h
        · rw [uo b ea eb]; exact k1 b o (by rw [rest b ea eb]; exact h) j
    have jU : ∀ b, w.J b → JarAt ni (HU b) := fun b j => by
      rw [uo b (fun z => ja (z ▸ j)) (fun z => jb (z ▸ j))]; exact k2 b j
    have af : After w.F w.J w.n 0 H w.F w.J ni HU := ⟨fun _ _ h => h, fun _ j => j, hn, fun b o h => keep b o (hh.h.fz b o h) (fun j => by rw [(hh.h.jr b j).2.1] at h; cases h), fun b j => ⟨jU b j, (hh.h.jr b j).2.1⟩, keep, fun _ _ h => .inl h, fun _ j => .inl j⟩
    obtain ⟨ex, hw⟩ := af.world hh.h
    exact ⟨.bl _, HU, IU, rfl, c.ok (.d (.bl _)) S q _ _ _ ex (fun _ _ h => h) hw .bl⟩
  let St : Nat → Shared → Prop := fun i s' => ∃ Hi ni, Inv X pins σ Hi s' ∧ ni ≤ w.n ∧ (∀ b o, HL b = some o → ¬ w.J b → Hi b = some o) ∧ (∀ b, w.J b → JarAt ni (Hi b)) ∧ ∀ j, j < i → ∀ p, (xs.zip ys)[j]? = some p → eqb p.1 p.2 = true
  have zl : (xs.zip ys).length = xs.length := by rw [List.length_zip]; omega
  refine rcT_dicts sa sb ca cb da db (Nat.lt_of_succ_lt (hu_of hr)) (by omega) St (fun i s' h => ?_) (fun i s' k vv hi hk h => ?_) (fun s' h => ?_) ⟨HL, w.n, IL, Nat.le_refl _, fun b o h _ => h, fun b j => ?_, fun j hj => absurd hj (Nat.not_lt_zero _)⟩
  · obtain ⟨Hi, ni, Ii, _, k1, _⟩ := h
    exact ⟨(Ii.hok _ _ (k1 _ _ ga ja)).1, (Ii.hok _ _ (k1 _ _ gb jb)).1⟩
  · obtain ⟨Hi, ni, Ii, hn, k1, k2, k3⟩ := h
    rw [lA] at hi
    obtain ⟨x, ex⟩ : ∃ x, xs[i]? = some x := ⟨_, List.getElem?_eq_getElem hi⟩
    obtain ⟨y, ey⟩ : ∃ y, ys[i]? = some y := ⟨_, List.getElem?_eq_getElem (by omega)⟩
    have ez : (xs.zip ys)[i]? = some (x, y) := List.getElem?_zip_eq_some.mpr ⟨ex, ey⟩
    have mx := List.mem_of_getElem? ex
    have my := List.mem_of_getElem? ey
    obtain ⟨a1, dx1, f1, va, fa, oa1, xa1⟩ := objs_at ra ex
    obtain ⟨b1, dx2, f2, vb, fb, ob1, xb1⟩ := objs_at rb ey
    obtain ⟨kv0, h0, hk0, hv0⟩ := paired_back ka hk
    obtain ⟨hz1, hz2⟩ := List.getElem?_zip_eq_some.mp h0
    rw [va] at hz2
    obtain rfl : vv = Value.ref a1 := by
      have : RelV kv0.2 vv := hv0
      rw [← Option.some.inj hz2] at this; exact this
    have h3 : (ks'.zip ws)[i]? = some (kv0.1, .ref b1) := List.getElem?_zip_eq_some.mpr ⟨hz1, vb⟩
    obtain ⟨kw, h4, hk4, hv4⟩ := paired_get kb h3
    have hk4 : kv0.1 = kw.1 := hk4
    have hk0 : kv0.1 = k := hk0
    obtain ⟨k5, y5⟩ := kw
    have hv4 : RelV (.ref b1) y5 := hv4
    obtain rfl : y5 = Value.ref b1 := hv4
    have hk4 : kv0.1 = k5 := hk4
    subst hk4
    subst hk0
    refine ⟨.ref b1, valueAt_get h4 (by obtain ⟨_, _, _, _, _, _, z⟩ := db; exact z), ?_⟩
    -- one value more
    have go : ∀ (cc : Bool) s2 H2 n2, cc = eqb x y → Inv X pins σ H2 s2 → n2 ≤ ni → (∀ b o, Hi b = some o → ¬ w.J b → H2 b = some o) → (∀ b, w.J b → JarAt n2 (H2 b)) → (if cc = true then St (i + 1) s2 else EP X pins σ Q (.bool false) s2) := fun cc s2 H2 n2 ec I2 hn2 m1 m2 => by
      subst ec
      have m3 : ∀ b o, HL b = some o → ¬ w.J b → H2 b = some o := fun b o h j => m1 b o (k1 b o h j) j
      cases e : eqb x y with
      | true =>
        rw [if_pos rfl]
        refine ⟨H2, n2, I2, Nat.le_trans hn2 hn, m3, m2, fun j hj p hp => ?_⟩
        rcases Nat.lt_succ_iff_lt_or_eq.mp hj with z | z
        · exact k3 j z p hp
        · subst z; rw [ez] at hp; cases hp; exact e
      | false =>
        rw [if_neg (by decide)]
        refine fin s2 H2 n2 false I2 (Nat.le_trans hn2 hn) m3 m2 ?_
        symm
        rw [List.all_eq_false]
        exact ⟨(x, y), List.mem_of_getElem? ez, by simp [e]⟩
    have inF : ∀ {a0 dx0 : Addr} {f0 : V}, w.F a0 = some (.ins C dx0 [(f, f0)]) → F' a0 = some (.ins C dx0 [(f, f0)]) := fun h => cutF _ _ h (fun _ z => nomatch z)
    have FH : Same F' Hi := fun a o h => by
      obtain ⟨⟨na, nb⟩, hw⟩ := F'w a o h
      exact k1 a o (by rw [rest a na nb]; exact hh.h.fz a o hw) (fun j => by rw [(hh.h.jr a j).2.1] at hw; cases hw)
    have cutO : ∀ {a0 dx0 : Addr} {v0 : V} {d0 : D}, w.F a0 = some (.ins C dx0 [(f, v0)]) → lvD 5 d0 = true → Rep X.K w.F w.J v0 d0 → Rep X.K F' w.J (.ref a0) (.obj C [f] [d0]) := fun h l r => .obj (ns := [f]) (vs := [_]) (inF h) rfl (.cons (rep_cut cutF 5 l r) .nil)
    refine eqBool_refs (M := model X.prog X.w) (fun e => ?_) fun _ => ?_
    · subst e
      have exy : x = y := by
        rw [fa] at fb
        cases fb
        exact rep_fn IL (F := F') (fun a o h => by
          obtain ⟨⟨na, nb⟩, hw⟩ := F'w a o h
          rw [rest a na nb]; exact hh.h.fz a o hw) 5 (lx x mx) (ly y my) (rep_cut cutF 5 (lx x mx) xa1) (rep_cut cutF 5 (ly y my) xb1)
      exact go true s' Hi ni (by rw [exy, refl]) Ii (Nat.le_refl _) (fun _ _ h _ => h) k2
    · refine wpAny_mono (eq1_run (F := F') (J := w.J) (n := ni) (f := f) (QQ := fun cc s2 => if cc = true then St (i + 1) s2 else EP X pins σ Q (.bool false) s2) (c := eqb x y) G hr tk Ii ⟨_, _, _, rfl, FH _ _ (inF fa)⟩ ⟨_, _, _, rfl, FH _ _ (inF fb)⟩ FH
        (fun a j => ⟨k2 a j, ?_⟩) (cutO fa (lx x mx) xa1) (cutO fb (ly y my) xb1) (Nat.le_trans hn (by have := hh.l; omega)) (hs x mx y my) (fun s2 H2 n2 I2 hn2 m1 m2 => go _ s2 H2 n2 rfl I2 hn2 m1 m2) rfl rfl) (fun r s2 z => ⟨_, z.1, z.2⟩) fun _ _ z => z
      show (if a = pa ∨ a = pb then none else w.F a) = none
      by_cases n : a = pa ∨ a = pb
      · rw [if_pos n]
      · rw [if_neg n]; exact (hh.h.jr a j).2.1
  · obtain ⟨Hi, ni, Ii, hn, k1, k2, k3⟩ := h
    rw [lA] at k3
    refine fin s' Hi ni true Ii hn k1 k2 ?_
    symm
    rw [List.all_eq_true]
    intro p hp
    obtain ⟨j, hj⟩ := List.mem_iff_getElem?.mp hp
    have : j < (xs.zip ys).length := by
      rcases Nat.lt_or_ge j (xs.zip ys).length with z | z
      · exact z
      · rw [List.getElem?_eq_none z] at hj; cases hj
    exact k3 j (by omega) p hj
  · rw [rest b (fun z => ja (z ▸ j)) (fun z => jb (z ▸ j))]
    exact (hh.h.jr b j).1
def tEqDic (C : Addr) (f : Str) (sp : Sp') (ta tb : TE') : TE' := fun env S Φ Ψ => ta env S (fun u S1 => tb env S1 (fun y S2 => match rd u S2, rd y S2 with
  | some d, some e => dicQ C f sp d e fun c => Φ (.d (.bl c)) S2
  | _, _ => False) Ψ) Ψ
theorem qeqDic (G : MFn X.prog X.w X.K X.mg X.base C "__eq__" ps lv sp 0) (hr : Room (lv + 1) X.A) (tk : Takes X W) (ha : PE X a (liftE X.K W ta ka)) (hb : PE X b (liftE X.K W tb kb)) (hmk : behindInMarks .Eq b = false := by first | rfl | exact nomark _) :
    PE X (.Compare a [.Eq] [b] pos) (liftE X.K W (tEqDic C f sp ta tb) (ka + kb + 0)) := by
  refine PE.imp (t := fun σ H Q => liftE X.K W ta ka σ H fun x H1 => liftE X.K W tb kb σ H1 fun y H2 => ∃ w u z env S Φ Ψ, Here X.K w S H2 σ env 0 ∧ RepU X.K w x u ∧ RepU X.K w y z ∧ (match rd u S, rd z S with
    | some d, some e => dicQ C f sp d e fun c => Φ (.d (.bl c)) S
    | _, _ => False) ∧ Co (RepU X.K) X.K W 0 w σ Φ Ψ Q) ⟨fun pins s σ H Q I h => ?_⟩ fun σ H Q h => lift_mono (lift_bind2 (Rp := RepU X.K) (Rp2 := RepU X.K) (Rp3 := RepU X.K) (g := fun u z _ S Φ _ => match rd u S, rd z S with
    | some d, some e => dicQ C f sp d e fun c => Φ (.d (.bl c)) S
    | _, _ => False) stabU h) fun x H1 q1 => lift_mono q1 fun y H2 ⟨w, u, z, env, S, Φ, Ψ, hh, r1, r2, q, c⟩ => ⟨w, u, z, env, S, Φ, Ψ, hh, r1, r2, q, c⟩
  refine wpAny_Compare1 (binT ha hb I h fun v u s2 x y H2 I2 rx ry ⟨w, u', z, env, S, Φ, Ψ, hh, r1, r2, q, c⟩ => ?_) hmk
  cases e1 : rd u' S with
  | none => simp only [e1] at q
  | some d =>
    cases e2 : rd z S with
    | none => simp only [e1, e2] at q
    | some e =>
      simp only [e1, e2] at q
      exact eqDic_run G hr tk I2 rx ry hh r1 r2 e1 e2 q c
end
end Pl

/-! ## o[i], o[j] = e; == and != where the other one is an object of another own class -/
namespace Pl
open PySem PySem.Spec PyProof.Rows L2 TL PyProof
section
variable {X : Cx} {W : WX} {pos : Pos} {e : Expr} {te : TE'} {ka : Nat}
/-- x[i], x[j] = a pair -/
def tSwp' (ix ii ij : Nat) (te : TE') : TS' := fun D env S => te env S (fun y S1 => match y, env[ix]?, env[ii]?, env[ij]? with
  | .d (.tup [d1, d2]), some (some (.r r)), some (some (.d (.int n))), some (some (.d (.int m))) => (match S1[r]? with
    | some (some (.lst ds)) => ∃ j1 j2, ixN ds.length n = some j1 ∧ ixN ds.length m = some j2 ∧ D.nx env (S1.set r (some (.lst ((ds.set j1 d1).set j2 d2))))
    | _ => False)
  | _, _, _, _ => False) (fun x S1 => D.xx x env S1)
theorem qswp (ix ii ij : Nat) {x y z x2 : Str} {p1 p2 p3 p4 p5 p6 tp : Pos} {kk : Nat} (hc : X.calm = true) (he : PE X e (liftE X.K W te ka)) (hx : PE X (.Name x p1) (tVar ix)) (hy : PE X (.Name y p2) (tVar ii)) (hx2 : PE X (.Name x2 p4) (tVar ix)) (hz : PE X (.Name z p5) (tVar ij))
    (hs : swapsWithSole [.Tuple [.Subscript (.Name x p1) (.Name y p2) p3, .Subscript (.Name x2 p4) (.Name z p5) p6] kk tp] e pos.line X.env = pure false := by rfl)
    (hw : swappedStores [.Tuple [.Subscript (.Name x p1) (.Name y p2) p3, .Subscript (.Name x2 p4) (.Name z p5) p6] kk tp] e X.env = pure none := by rfl) :
    PS X (.Assign [.Tuple [.Subscript (.Name x p1) (.Name y p2) p3, .Subscript (.Name x2 p4) (.Name z p5) p6] kk tp] e pos) (liftS X.K W (tSwp' ix ii ij te) ka) := by
  refine PS.imp (ps_asg he (pg_tup hc (pgs_cons (pg_sub hx hy set_list (by intro _; rfl)) (pgs_cons (pg_sub hx2 hz set_list (by intro _; rfl)) pgs_nil))) hs hw (by rfl)) fun D σ H ⟨w, env, S, D', hr, hE, hl, q, c⟩ => ?_
  refine ⟨w, env, S, _, _, hr, hE, by omega, q, ⟨fun y S1 q1 w1 v H1 x1 xa1 h1 r1 => ?_, fun z S1 q1 w1 C d H1 x1 xa1 h1 r1 => c.xx z env S1 q1 w1 σ H1 C d (x1.le (by omega)) h1 (hE.ext x1 xa1) r1⟩⟩
  have E1 := hE.ext x1 xa1
  split at q1
  case h_2 => exact q1.elim
  rename_i d1 d2 r n m ex ei ej
  split at q1
  case h_2 => exact q1.elim
  rename_i ds eS
  obtain ⟨j1, j2, h2, h3, q1⟩ := q1
  obtain ⟨a, vs, rfl, sq, rr⟩ := RepN.tup (Rep.now h1 r1) h1
  obtain ⟨vx, sx, rx⟩ := E1.2 _ _ ex
  obtain ⟨vi, si, ri⟩ := E1.2 _ _ ei
  obtain ⟨vj, sj, rj⟩ := E1.2 _ _ ej
  obtain ⟨A, hA, rfl⟩ := rx
  have ri' : Rep X.K w1.F w1.J vi (.int n) := ri
  have rj' : Rep X.K w1.F w1.J vj (.int m) := rj
  cases ri'
  cases rj'
  obtain ⟨A', hA', ⟨ho, e1, r0⟩, _⟩ := h1.live r _ eS
  rw [hA] at hA'; cases hA'
  obtain ⟨us, rfl, ru⟩ := r0
  cases rr with
  | cons ra rr =>
    cases rr with
    | cons rb rr =>
      cases rr
      have p1 : HRel X.K w1 (S1.set r (some (.lst (ds.set j1 d1)))) (upd H1 A (.lst (us.set j1 _))) := h1.put eS hA ⟨_, rfl, ru.set ra j1⟩
      have eS2 : (S1.set r (some (.lst (ds.set j1 d1))))[r]? = some (some (.lst (ds.set j1 d1))) := by
        have : r < S1.length := by
          rcases Nat.lt_or_ge r S1.length with z | z
          · exact z
          · rw [List.getElem?_eq_none z] at eS; cases eS
        rw [List.getElem?_set_self this]
      have p2 : HRel X.K w1 ((S1.set r (some (.lst (ds.set j1 d1)))).set r (some (.lst ((ds.set j1 d1).set j2 d2)))) (upd (upd H1 A (.lst (us.set j1 _))) A (.lst ((us.set j1 _).set j2 _))) := p1.put eS2 hA ⟨_, rfl, (ru.set ra j1).set rb j2⟩
      rw [List.set_set] at p2
      refine ⟨a, _, rfl, sq, rfl, _, _, rfl, ?_⟩
      refine ⟨_, sx, _, si, A, us, n, j1, rfl, rfl, e1, by rw [ru.length]; exact h2, ?_⟩
      refine ⟨_, _, rfl, _, sx, _, sj, A, us.set j1 _, m, j2, rfl, rfl, upd_same, by rw [List.length_set, ru.length]; exact h3, rfl, ?_⟩
      exact c.nx _ _ q1 w1 σ _ x1 p2 E1
end
/-- the other one: of the first class, of the second one, or of a built-in kind -/
def okY2 (C C2 : Addr) (y : U) (S : SS) : Prop := match rdI y S with
  | some (C', _) => C' = C ∨ C' = C2
  | none => match rd y S with
    | some d => plainK d = true
    | none => False
def TyN2 (K : PySem.W.Frag) (C C2 : Addr) (y : V) (H : Hp) : Prop := TyN K C y H ∨ ∃ b d2 f2, y = .ref b ∧ H b = some (.ins C2 d2 f2)
theorem okY2_ok {K : PySem.W.Frag} {w : Wd} {S : SS} {H : Hp} {C C2 : Addr} {v : V} {y : U} (hh : HRel K w S H) (r : RepU K w v y) (q : okY2 C C2 y S) : TyN2 K C C2 v H := by
  unfold okY2 at q
  cases e : rdI y S with
  | some p =>
    obtain ⟨C', ns⟩ := p
    simp only [e] at q
    obtain ⟨a, dx, vs, rfl, h⟩ := rdI_ok hh r e
    rcases q with rfl | rfl
    · exact .inl (.inl ⟨a, dx, _, rfl, h⟩)
    · exact .inr ⟨a, dx, _, rfl, h⟩
  | none =>
    simp only [e] at q
    cases e2 : rd y S with
    | none => simp only [e2] at q
    | some d =>
      simp only [e2] at q
      obtain ⟨T, ty, hT⟩ := tyN_of hh (rd_ok hh r e2) q
      exact .inl (.inr ⟨_, ty, nf_ty hT⟩)
section
variable {X : Cx} {W : WX} {pos p : Pos} {a b e : Expr} {ta tb : TE'} {k ka kb lv lv2 : Nat} {C C2 : Addr} {r' r2' : RL'} {LS LS2 : Sp} {ps ps2 : List Str} {pins : List (Addr × Obj)} {σ : L2.St} {H : Hp} {s : Shared} {Q : VK}
theorem nf_sub (h : PySem.W.subIn X.K (.ref C2) (.ref C) = some false) : PySem.W.notFirst X.K C (.ref C2) = true := by
  unfold PySem.W.notFirst
  rw [h, beq_self_eq_true, Bool.or_true]
theorem looksN2 {y : V} {u : Value} (h2 : PySem.W.subIn X.K (.ref C2) (.ref C) = some false) (I : Inv X pins σ H s) (ry : RelV y u) (t : TyN2 X.K C C2 y H) : ∃ tb, PySem.W.Looks (model X.prog X.w) s.heap (typeOf u) tb ∧ PySem.W.notFirst X.K C tb = true := by
  rcases t with t | ⟨b, d2, f2, rfl, h⟩
  · exact looksN I ry t
  · obtain rfl : u = Value.ref b := ry
    obtain ⟨ox, od, J⟩ := insX I h
    exact ⟨_, J.type, nf_sub h2⟩
/-- == (neg: !=) by the left one's own __eq__, whatever the other one's type is -/
theorem eq_runL (neg : Bool) (G : MFnS X.prog X.w X.K X.mg X.base C "__eq__" ps lv LS) (hm : neg = true → PySem.W.mroIn X.K C (.type "object") = some true ∧ PySem.W.findIn X.K (.ref C) "__ne__" = some (some (.builtin "object.__ne__"))) (hr : Room (lv + 1) X.A) (tk : Takes X W)
    {y : V} {u : Value} {a1 dx : Addr} {fs : List (Str × V)} (I : Inv X pins σ H s) (ry : RelV y u) (ea : H a1 = some (.ins C dx fs)) {ty : Value} (lk : PySem.W.Looks (model X.prog X.w) s.heap (typeOf u) ty) (hn : PySem.W.notFirst X.K C ty = true)
    (q : LS [.ref a1, y] H (fun v H3 => ∃ t, v = .bl t ∧ Q (.bl (if neg then !t else t)) H3) (WE W σ)) : wpAny (model X.prog X.w) X.A (compareOp (if neg then .NotEq else .Eq) (.ref a1) u) (EP X pins σ Q) X.xe s := by
  obtain ⟨f, fd, hM, hF, hB, F⟩ := G.ex
  obtain ⟨ox, od, J⟩ := insX I ea
  have hu := hu_of hr
  cases neg with
  | false =>
    show wpAny (model X.prog X.w) X.A (richCompare .Eq (.ref a1) u) (EP X pins σ Q) X.xe s
    refine cmp_one (Nat.lt_of_succ_lt hu) I.kIn J lk hn ?_
    show wpAny (model X.prog X.w) X.A (tryCompare (.ref a1) "__eq__" u) _ X.xe s
    unfold tryCompare
    refine wpAny_bind (PySem.W.ifBound_K I.kIn J hM.at_ hM.fn (wpAny_mono (call_own F (hr.mono (Nat.le_succ _)) hB tk I (us := [.ref a1, u]) (vs := [.ref a1, y]) (.cons rfl (.cons ry .nil)) q) (fun r s1 hq => ?_) fun _ _ z => z))
    obtain ⟨v, H1, I1, rv, t, rfl, q1⟩ := hq
    obtain rfl : r = Value.bool t := rv
    exact wpAny_pure ⟨_, rfl, .bl t, H1, I1, rfl, q1⟩
  | true =>
    obtain ⟨hm1, hm2⟩ := hm rfl
    show wpAny (model X.prog X.w) X.A (richCompare .NotEq (.ref a1) u) (EP X pins σ Q) X.xe s
    refine cmp_one (Nat.lt_of_succ_lt hu) I.kIn J lk hn ?_
    show wpAny (model X.prog X.w) X.A (tryCompare (.ref a1) "__ne__" u) _ X.xe s
    unfold tryCompare
    refine wpAny_bind (ifBound_ne I.kIn J hm2 (call_ne hu I.kIn J hm1 hM.at_ hM.fn (wpAny_mono (call_own1 F hr hB tk I (us := [.ref a1, u]) (vs := [.ref a1, y]) (.cons rfl (.cons ry .nil)) q) (fun r s1 hq => ?_) fun _ _ z => z)))
    obtain ⟨v, H1, I1, rv, t, rfl, q1⟩ := hq
    obtain rfl : r = Value.bool t := rv
    exact ⟨t, rfl, wpAny_pure ⟨_, rfl, .bl (!t), H1, I1, rfl, q1⟩⟩
/-- the left one an object of the first class; or of the second one beside one of the first; or of a built-in kind beside one of the first -/
def tOwnX (C C2 : Addr) (r' r2' : RL') (neg : Bool) (ta tb : TE') : TE' := fun env S Φ Ψ => ta env S (fun u S1 => tb env S1 (fun y S2 => match rdI u S2 with
  | some (C', _) => (C' = C ∧ okY2 C C2 y S2 ∧ r' [u, y] S2 (fun z S3 => finB (fun t => if neg then !t else t) z S3 Φ) Ψ) ∨
      (C' = C2 ∧ okY2 C2 C y S2 ∧ r2' [u, y] S2 (fun z S3 => finB (fun t => if neg then !t else t) z S3 Φ) Ψ)
  | none => match rdI y S2, rd u S2 with
    | some (C', _), some d => (C' = C ∧ backK d = true) ∧ r' [y, u] S2 (fun z S3 => finB (fun t => if neg then !t else t) z S3 Φ) Ψ
    | _, _ => False) Ψ) Ψ
def OwnX (K : PySem.W.Frag) (C C2 : Addr) (LS LS2 : Sp) (neg : Bool) (W : WX) (σ : L2.St) (Q : VK) (x y : V) (H2 : Hp) : Prop :=
  (∃ a dx fs, x = .ref a ∧ H2 a = some (.ins C dx fs) ∧ TyN2 K C C2 y H2 ∧ LS [.ref a, y] H2 (fun v H3 => ∃ t, v = .bl t ∧ Q (.bl (if neg then !t else t)) H3) (WE W σ)) ∨
  (∃ a dx fs, x = .ref a ∧ H2 a = some (.ins C2 dx fs) ∧ TyN2 K C2 C y H2 ∧ LS2 [.ref a, y] H2 (fun v H3 => ∃ t, v = .bl t ∧ Q (.bl (if neg then !t else t)) H3) (WE W σ)) ∨
  ∃ a dx fs, y = .ref a ∧ H2 a = some (.ins C dx fs) ∧ BackV K H2 x ∧ LS [.ref a, x] H2 (fun v H3 => ∃ t, v = .bl t ∧ Q (.bl (if neg then !t else t)) H3) (WE W σ)
theorem ownX_lift {K : PySem.W.Frag} {neg : Bool} (hs : SpecL K LS k r') (hs2 : SpecL K LS2 k r2') (h : liftE K W (tOwnX C C2 r' r2' neg ta tb) (ka + kb + k) σ H Q) :
    liftE K W ta ka σ H fun x H1 => liftE K W tb kb σ H1 fun y H2 => OwnX K C C2 LS LS2 neg W σ Q x y H2 :=
  lift_mono (lift_bind2 (Rp := RepU K) (Rp2 := RepU K) (Rp3 := RepU K) (g := fun u y _ S Φ Ψ => match rdI u S with
    | some (C', _) => (C' = C ∧ okY2 C C2 y S ∧ r' [u, y] S (fun z S3 => finB (fun t => if neg then !t else t) z S3 Φ) Ψ) ∨
        (C' = C2 ∧ okY2 C2 C y S ∧ r2' [u, y] S (fun z S3 => finB (fun t => if neg then !t else t) z S3 Φ) Ψ)
    | none => match rdI y S, rd u S with
      | some (C', _), some d => (C' = C ∧ backK d = true) ∧ r' [y, u] S (fun z S3 => finB (fun t => if neg then !t else t) z S3 Φ) Ψ
      | _, _ => False) stabU h) fun x H1 q1 => lift_mono q1 fun y H2 ⟨w, u, z, env, S, Φ, Ψ, hh, r1, r2, q, c⟩ => by
  have fc := fin_co (fin := finB fun t => if neg then !t else t) (finV := fun v H Q => ∃ t, v = .bl t ∧ Q (.bl (if neg then !t else t)) H) (finBL (g := fun t => if neg then !t else t)) c
  cases eI : rdI u S with
  | none =>
    simp only [eI] at q
    cases eJ : rdI z S with
    | none => simp only [eJ] at q
    | some p =>
      obtain ⟨C', ns⟩ := p
      cases eD : rd u S with
      | none => simp only [eJ, eD] at q
      | some d =>
        simp only [eJ, eD] at q
        obtain ⟨⟨rfl, oy⟩, q⟩ := q
        obtain ⟨a, dx, vs, rfl, e1⟩ := rdI_ok hh.h r2 eJ
        exact .inr (.inr ⟨a, dx, _, rfl, e1, back_of hh.h (rd_ok hh.h r1 eD) oy, hs (us := [z, u]) hh (.cons r2 (.cons r1 .nil)) q fc⟩)
  | some p =>
    obtain ⟨C', ns⟩ := p
    simp only [eI] at q
    obtain ⟨a, dx, vs, rfl, e1⟩ := rdI_ok hh.h r1 eI
    rcases q with ⟨rfl, oy, q⟩ | ⟨rfl, oy, q⟩
    · exact .inl ⟨a, dx, _, rfl, e1, okY2_ok hh.h r2 oy, hs (us := [u, z]) hh (.cons r1 (.cons r2 .nil)) q fc⟩
    · exact .inr (.inl ⟨a, dx, _, rfl, e1, okY2_ok hh.h r2 oy, hs2 (us := [u, z]) hh (.cons r1 (.cons r2 .nil)) q fc⟩)
/-- what is known of the two classes -/
structure TwoC (K : PySem.W.Frag) (C C2 : Addr) : Prop where
  ab : PySem.W.subIn K (.ref C2) (.ref C) = some false
  ba : PySem.W.subIn K (.ref C) (.ref C2) = some false
theorem qeqX (neg : Bool) (G : MFnS X.prog X.w X.K X.mg X.base C "__eq__" ps lv LS) (G2 : MFnS X.prog X.w X.K X.mg X.base C2 "__eq__" ps2 lv2 LS2) (T : TwoC X.K C C2)
    (hm : neg = true → PySem.W.mroIn X.K C (.type "object") = some true ∧ PySem.W.findIn X.K (.ref C) "__ne__" = some (some (.builtin "object.__ne__"))) (hm2 : neg = true → PySem.W.mroIn X.K C2 (.type "object") = some true ∧ PySem.W.findIn X.K (.ref C2) "__ne__" = some (some (.builtin "object.__ne__")))
    (B : BkC X.K C) (hs : SpecL X.K LS k r') (hs2 : SpecL X.K LS2 k r2') (hr : Room (lv + 1) X.A) (hr2 : Room (lv2 + 1) X.A) (tk : Takes X W) (ha : PE X a (liftE X.K W ta ka)) (hb : PE X b (liftE X.K W tb kb)) (hmk : behindInMarks (if neg then .NotEq else .Eq) b = false := by rfl) :
    PE X (.Compare a [if neg then .NotEq else .Eq] [b] pos) (liftE X.K W (tOwnX C C2 r' r2' neg ta tb) (ka + kb + k)) := by
  refine PE.imp (t := fun σ H Q => liftE X.K W ta ka σ H fun x H1 => liftE X.K W tb kb σ H1 fun y H2 => OwnX X.K C C2 LS LS2 neg W σ Q x y H2) ⟨fun pins s σ H Q I h => ?_⟩ fun σ H Q h => ownX_lift hs hs2 h
  refine wpAny_Compare1 (binT ha hb I h fun v u s2 x y H2 I2 rx ry o => ?_) hmk
  rcases o with ⟨a1, dx, fs, ex, ea, ty, q⟩ | ⟨a1, dx, fs, ex, ea, ty, q⟩ | ⟨a1, dx, fs, ex, ea, bk, q⟩
  · subst ex
    obtain rfl : v = Value.ref a1 := rx
    obtain ⟨t, lk, hn⟩ := looksN2 T.ab I2 ry ty
    exact eq_runL neg G hm hr tk I2 ry ea lk hn q
  · subst ex
    obtain rfl : v = Value.ref a1 := rx
    obtain ⟨t, lk, hn⟩ := looksN2 T.ba I2 ry ty
    exact eq_runL neg G2 hm2 hr2 tk I2 ry ea lk hn q
  · subst ex
    obtain rfl : u = Value.ref a1 := ry
    exact back_run neg G hm B hr tk I2 rx ea bk q
/-- isinstance(e, C) where e may be an object of another own class -/
def tIsX' (C C2 : Addr) (ta : TE') : TE' := fun env S Φ Ψ => ta env S (fun u S1 => match rdI u S1 with
  | some (C', _) => (C' = C ∧ Φ (.d (.bl true)) S1) ∨ (C' = C2 ∧ Φ (.d (.bl false)) S1)
  | none => match rd u S1 with
    | some d => plainK d = true ∧ Φ (.d (.bl false)) S1
    | none => False) Ψ
theorem qisiX {cv : V} (F : IsC X.K C) (F2 : IsC X.K C2) (nk : PySem.W.kitOne X.K (.ref C2) (.ref C) = some false) (hcl : ClsV cv (.ref C)) (hm : X.mg ("isinstance" : Str) = none) (ha : PE X a (liftE X.K W ta ka)) (hb : PE X b (tC cv)) (hG : Gl X ("isinstance" : Str) := by rfl)
    (he : starEach (a :: b :: []) X.env = (false, eval a X.env) :: starEach [b] X.env := by rfl) (he2 : starEach (b :: []) X.env = (false, eval b X.env) :: starEach [] X.env := by rfl) (hpl : (backTo pos (starEach [b] X.env)).any (·.1) = false := by rfl) :
    PE X (.Call (.Name ("isinstance" : Str) p) [a, b] [] pos) (liftE X.K W (tIsX' C C2 ta) ka) := by
  refine PE.imp (pe_callB call_isi hG hm (by decide +kernel) (pa_cons ha (pa_cons hb pa_nil he2) he) (by decide +kernel) (by decide +kernel) he hpl) fun σ H Q ⟨w, env, S, Φ, Ψ, hr, hE, hl, t, c⟩ => ?_
  refine ⟨w, env, S, _, Ψ, hr, hE, hl, t, ⟨fun u S1 q w1 x H1 y ya h1 r => ?_, c.xx⟩⟩
  cases eI : rdI u S1 with
  | some pp =>
    obtain ⟨C', ns⟩ := pp
    simp only [eI] at q
    obtain ⟨a1, dx, vs, rfl, e1⟩ := rdI_ok h1 r eI
    rcases q with ⟨rfl, q⟩ | ⟨rfl, q⟩
    · exact ⟨_, cv, _, _, true, rfl, hcl, .base (.ins e1 F.cl F.ha F.hn F.htk F.hm), kit_self, c.ok _ _ q _ _ _ y ya h1 .bl⟩
    · exact ⟨_, cv, _, _, false, rfl, hcl, .base (.ins e1 F2.cl F2.ha F2.hn F2.htk F2.hm), nk, c.ok _ _ q _ _ _ y ya h1 .bl⟩
  | none =>
    simp only [eI] at q
    cases e1 : rd u S1 with
    | none => simp only [e1] at q
    | some d =>
      simp only [e1] at q
      obtain ⟨T, ty, hT⟩ := tyN_of h1 (rd_ok h1 r e1) q.1
      exact ⟨x, cv, .type T, _, false, rfl, hcl, ty, kit_no F hT, c.ok _ _ q.2 _ _ _ y ya h1 .bl⟩
end
end Pl

/-! ## C(k = e, ..) with the keywords in another order -/
namespace Pl
open PySem PySem.Spec PyProof.Rows L2 TL
section
variable {P : Program} {w : World} {K : PySem.W.Frag} {mg : Str → Option Value} {base : Heap} {nm qual : Str} {st : Stmt} {N ps : List Str} {l k : Nat} {sp : Sp'} {C : Addr}
theorem init_okR (R : FuncData → Prop) {st : Stmt} {N ps : List Str} {kb m : Nat} {t : TS'} (Fd : ∃ f fd, FunC K "__init__" qual st f fd ∧ mg nm = some (.ref C) ∧ Mk K C f ∧ R fd) (S : FnScope N ps (defScope st)) (len : ∀ ds Φ Ψ, sp ds Φ Ψ → ds.length + 1 = ps.length)
    (hb : BodM P w K mg base qual st N l t kb) (hk : kb ≤ k) (hv : ∀ ds Φ Ψ, sp ds Φ Ψ → t (endI C Φ Ψ) (some (.r 0) :: (ds.map (fun d => some (U.d d)) ++ List.replicate (N.length - (ds.length + 1)) none)) (some (.ins C [] []) :: List.replicate m none)) :
    ∃ f fd, mg nm = some (.ref C) ∧ Mk K C f ∧ R fd ∧ FnOk P w K mg base (L2.CX P w) (l + 1) f fd ps (liftI0 K C sp k) := by
  obtain ⟨f, fd, Fu, hm, hM, hB⟩ := Fd
  refine ⟨f, fd, hm, hM, hB, FunC.okX Fu S (fun vs H Q E ⟨x, dx, vs', F, J, n, ds, Φ, Ψ, e, _, _, _, _, _, r, _, q, _, _⟩ => by rw [e, List.length_cons, r.length, len ds Φ Ψ q]) fun cdv A outer s H vs Q E hr ⟨x, dx, vs', F, J, n, ds, Φ, Ψ, e, ex, fx, jx, hF, hJ, r, hn, q, c1, c2⟩ => ?_⟩
  subst e
  have l1 := r.length
  have l2 := len ds Φ Ψ q
  have hl : ds.length + 1 ≤ N.length := by
    have := congrArg List.length S.pre
    rw [List.length_take] at this
    omega
  let w0 : Wd := ⟨F, J, some x :: List.replicate m none, fun a => open Classical in if J a then none else if a = x then none else H a, n, [x]⟩
  have rn : ∀ a, w0.R a = none → J a ∨ a = x ∨ H a = none := fun a e => by
    have e' : (open Classical in if J a then none else if a = x then none else H a) = none := e
    by_cases z : J a
    · exact .inl z
    · rw [if_neg z] at e'
      by_cases z2 : a = x
      · exact .inr (.inl z2)
      · rw [if_neg z2] at e'; exact .inr (.inr e')
  have rs : ∀ a o, ¬ J a → a ≠ x → H a = some o → w0.R a = some o := fun a o h1 h2 h3 => by
    show (open Classical in if J a then none else if a = x then none else H a) = some o
    rw [if_neg h1, if_neg h2]; exact h3
  have xR : w0.R x = none := by
    show (open Classical in if J x then none else if x = x then none else H x) = none
    rw [if_neg jx, if_pos rfl]
  have rel : HRel K w0 (some (.ins C [] []) :: List.replicate m none) H := by
    refine ⟨hF, fun a o e => ?_, fun a j => ⟨(hJ a j).1, (hJ a j).2, if_pos j⟩, by simp [w0], fun i e => ?_, fun i o e => ?_, fun i j a e1 e2 => ?_, fun i a e => ?_⟩
    · have e' : (open Classical in if J a then none else if a = x then none else H a) = some o := e
      by_cases z : J a
      · rw [if_pos z] at e'; cases e'
      · rw [if_neg z] at e'
        by_cases z2 : a = x
        · rw [if_pos z2] at e'; cases e'
        · rw [if_neg z2] at e'; exact e'
    · cases i with
      | zero => simp at e
      | succ i =>
        rw [List.getElem?_cons_succ, List.getElem?_replicate] at e
        show (some x :: List.replicate m none)[i + 1]? = _
        rw [List.getElem?_cons_succ, List.getElem?_replicate]
        split at e
        · rename_i h; rw [if_pos h]
        · cases e
    · cases i with
      | zero =>
        have : MO.ins C [] [] = o := by simpa using e
        subst this
        exact ⟨x, rfl, ⟨_, ex, dx, [], rfl, rfl, .nil⟩, fx, xR, jx⟩
      | succ i =>
        rw [List.getElem?_cons_succ, List.getElem?_replicate] at e
        split at e <;> cases e
    · have nope : ∀ i, (some x :: List.replicate m (none : Option Addr))[i + 1]? ≠ some (some a) := fun i z => by
        rw [List.getElem?_cons_succ, List.getElem?_replicate] at z
        split at z <;> cases z
      cases i with
      | zero => cases j with
        | zero => rfl
        | succ j => exact absurd e2 (nope j)
      | succ i => exact absurd e1 (nope i)
    · cases i with
      | zero =>
        have : x = a := by simpa [w0] using e
        subst this; rfl
      | succ i => simp [w0] at e
  have er : EnvR K w0 (L2.start N (.ref x :: vs')) (some (.r 0) :: (ds.map (fun d => some (U.d d)) ++ List.replicate (N.length - (ds.length + 1)) none)) := by
    refine ⟨by simp [L2.start, l1], fun i u e => ?_⟩
    cases i with
    | zero =>
      have : U.r 0 = u := by simpa using e
      subst this
      exact ⟨.ref x, rfl, x, rfl, rfl⟩
    | succ i =>
      rw [List.getElem?_cons_succ] at e
      by_cases hi : i < ds.length
      · rw [List.getElem?_append_left (by simpa using hi), List.getElem?_map] at e
        cases q : ds[i]? with
        | none => rw [q] at e; cases e
        | some d =>
          rw [q] at e
          have : U.d d = u := by simpa using e
          subst this
          obtain ⟨v, hv, rv⟩ := r.get q
          refine ⟨v, ?_, rv⟩
          unfold L2.start
          rw [List.map_cons, List.cons_append, List.getElem?_cons_succ, List.getElem?_append_left (by simpa [l1] using hi), List.getElem?_map, hv]; rfl
      · rw [List.getElem?_append_right (by simpa using Nat.le_of_not_lt hi), List.getElem?_replicate] at e
        split at e <;> cases e
  have fin : ∀ {w1 : Wd} {S1 : SS} {H1 : Hp} {ns : List Str} {us : List U} {es : List D} {tl0 : SS}, Ext kb w0 w1 → HRel K w1 S1 H1 → S1 = some (.ins C ns us) :: tl0 → clos 100 us = some es → AfterI K C x F J n k H w1.F w1.J w1.n H1 ns es := fun {w1 S1 H1 ns us es tl0} X1 h1 hS hc => by
    subst hS
    obtain ⟨b, hb1, ⟨ho, e1, dx', vs1, rfl, hl2, rv⟩, n1, n2, n3⟩ := h1.live 0 _ rfl
    have hb2 := h1.pin 0 x (by rw [X1.B]; rfl)
    rw [hb1] at hb2
    obtain rfl : b = x := by simpa using hb2
    refine ⟨X1.F, X1.J, by have := X1.n; show w1.n ≤ n + k; have e : w0.n = n := rfl; omega, h1.fz, fun a j => ⟨(h1.jr a j).1, (h1.jr a j).2.1⟩, fun a o e nj nx => h1.fr a o (by rw [X1.R]; exact rs a o nj nx e), fun a o e => ?_, fun a j => ?_, dx', vs1, e1, hl2, (clos_ok rv hc).1⟩
    · rcases X1.N a o e with z | z
      · exact .inl z
      · rcases rn a z with q | q | q
        · have := (h1.jr a (X1.J a q)).2.1
          rw [e] at this; cases this
        · subst q; rw [n1] at e; cases e
        · exact .inr q
    · rcases rn a (by rw [← X1.R]; exact (h1.jr a j).2.2) with q | q | q
      · exact .inl q
      · subst q; exact absurd j n3
      · exact .inr q
  refine ⟨_, hb f cdv A outer s H E hr, w0, _, _, endI C Φ Ψ, rel, er, by show n + kb ≤ LIM; omega, hv ds Φ Ψ q, ⟨fun _ S1 q1 w1 σ1 H1 X1 h1 e => ?_, fun u S1 q1 w1 v H1 X1 h1 ru => ?_, fun _ _ z => False.elim z, fun _ _ z => False.elim z, fun z _ S1 q1 w1 σ1 H1 D d X1 h1 e rx => ?_⟩⟩
  · have q1' : (endI C Φ Ψ).nx [] S1 := q1
    unfold endI at q1'
    simp only at q1'
    split at q1'
    · split at q1'
      · obtain ⟨rfl, q1'⟩ := q1'
        exact c1 _ _ q1' _ _ _ _ (fin X1 h1 rfl (by assumption))
      · exact q1'.elim
    · exact q1'.elim
  · have q1' : (endI C Φ Ψ).rt u S1 := q1
    unfold endI at q1'
    simp only at q1'
    split at q1'
    · split at q1'
      · split at q1'
        · obtain ⟨rfl, q1'⟩ := q1'
          have hv : v = .non := RepN.non (Rep.now h1 ru)
          subst hv
          exact c1 _ _ q1' _ _ _ _ (fin X1 h1 rfl (by assumption))
        · exact q1'.elim
      · exact q1'.elim
    · exact q1'.elim
  · obtain ⟨q1, q2⟩ := q1
    split at q2
    · split at q2
      · subst q2
        exact c2 _ q1 _ _ _ _ _ _ _ _ (fin X1 h1 rfl (by assumption)) rx
      · exact q2.elim
    · exact q2.elim
/-- the last, the first, the third, the second of four: the parameters' order from the keywords' -/
def reo {α : Type} : List α → List α
  | [a, b, c, d] => [b, d, c, a]
  | l => l
theorem reo_len {α : Type} (l : List α) : (reo l).length = l.length := by
  unfold reo
  split <;> rfl
theorem reo_us {K : PySem.W.Frag} {w : Wd} {vs : List V} {us : List U} (r : RepUs K w vs us) : RepUs K w (reo vs) (reo us) := by
  cases r with
  | nil => exact .nil
  | cons a r =>
    cases r with
    | nil => exact .cons a .nil
    | cons b r =>
      cases r with
      | nil => exact .cons a (.cons b .nil)
      | cons c r =>
        cases r with
        | nil => exact .cons a (.cons b (.cons c .nil))
        | cons d r =>
          cases r with
          | nil => exact .cons b (.cons d (.cons c (.cons a .nil)))
          | cons e r => exact .cons a (.cons b (.cons c (.cons d (.cons e r))))
theorem reo_vals {vs : List V} {us : List Value} (r : Vals vs us) : Vals (reo vs) (reo us) := by
  cases r with
  | nil => exact .nil
  | cons a r =>
    cases r with
    | nil => exact .cons a .nil
    | cons b r =>
      cases r with
      | nil => exact .cons a (.cons b .nil)
      | cons c r =>
        cases r with
        | nil => exact .cons a (.cons b (.cons c .nil))
        | cons d r =>
          cases r with
          | nil => exact .cons b (.cons d (.cons c (.cons a .nil)))
          | cons e r => exact .cons a (.cons b (.cons c (.cons d (.cons e r))))
def KwP (K : PySem.W.Frag) (fd : FuncData) (ps ks : List Str) : Prop := ∀ (s : Shared) (x : Value) (us : List Value), K.In s.heap → us.length = ks.length → BindsTo s fd ⟨[x], ks.zip us⟩ (ps.zip (x :: reo us))
structure IDfP (K : PySem.W.Frag) (mg : Str → Option Value) (C : Addr) (nm qual : Str) (st : Stmt) (ps ks : List Str) : Prop where
  ex : ∃ f fd, Fun K "__init__" qual st f fd ∧ mg nm = some (.ref C) ∧ Mk K C f ∧ KwP K fd ps ks
structure IFnP (P : Program) (w : World) (K : PySem.W.Frag) (mg : Str → Option Value) (base : Heap) (C : Addr) (nm : Str) (ps ks : List Str) (lv : Nat) (sp : Sp') (k : Nat) : Prop where
  ex : ∃ f fd, mg nm = some (.ref C) ∧ Mk K C f ∧ KwP K fd ps ks ∧ FnOk P w K mg base (L2.CX P w) lv f fd ps (liftI0 K C sp k)
theorem initEP (m : Nat) {ks : List Str} (Fd : IDfP K mg C nm qual st ps ks) (S : FnScope N ps (defScope st)) (len : ∀ ds Φ Ψ, sp ds Φ Ψ → ds.length + 1 = ps.length)
    (h : ∃ (t : TS') (kb : Nat), BodM P w K mg base qual st N l t kb ∧ kb ≤ k ∧ ∀ ds Φ Ψ, sp ds Φ Ψ → t (endI C Φ Ψ) (some (.r 0) :: (ds.map (fun d => some (U.d d)) ++ List.replicate (N.length - (ds.length + 1)) none)) (some (.ins C [] []) :: List.replicate m none)) : IFnP P w K mg base C nm ps ks (l + 1) sp k := by
  obtain ⟨t, kb, hb, hk, hv⟩ := h
  obtain ⟨f, fd, F, a, b, c⟩ := Fd.ex
  obtain ⟨oc, od, kV, doc, pm, an, cdv, ct, osl, e, lk, hcd⟩ := F.ex
  exact ⟨init_okR (fun fd => KwP K fd ps ks) ⟨f, fd, ⟨⟨oc, od, .none, kV, doc, pm, an, cdv, ct, osl, e, lk, hcd⟩, F.kp⟩, a, b, c⟩ S len hb hk hv⟩
theorem fkwp {x qual : Str} {st : Stmt} {f : Addr} {fd : FuncData} {ps ks : List Str} (F : Fun K x qual st f fd)
    (h : ∀ (kV doc pm : Value) (an : Option Addr) (cdv ct : Value) (u : Value) (us : List Value), us.length = ks.length → bindArgs (PySem.W.fnOf x qual (defArgs st) (defBody st) (defScope st) .none kV doc pm an cdv ct) ⟨[u], ks.zip us⟩ = pure (ps.zip (u :: reo us))) : KwP K fd ps ks := by
  obtain ⟨oc, od, kV, doc, pm, an, cdv, ct, osl, rfl, lk, hcd⟩ := F.ex
  intro s x us X h1
  exact .of_eq (h kV doc pm an cdv ct x us h1)
end
section
variable {X : Cx} {W : WX} {pos p : Pos} {kws : List Keyword} {tas : TA'} {k ka lv : Nat} {C : Addr} {sp : Sp'} {x : Str} {ps ks : List Str}
def reoA (ta : TA') : TA' := fun env S Φ Ψ => ta env S (fun us S1 => Φ (reo us) S1) Ψ
theorem reo_lift {K : PySem.W.Frag} {σ : L2.St} {H : Hp} {Q : List V → Hp → Prop} (h : liftA K W (reoA tas) ka σ H Q) : liftA K W tas ka σ H fun vs H1 => Q (reo vs) H1 := by
  obtain ⟨w, env, S, Φ, Ψ, hr, he, hl, t, c⟩ := h
  exact ⟨w, env, S, _, Ψ, hr, he, hl, t, ⟨fun us S1 q w1 vs H1 y ya h1 r => c.ok _ _ q w1 _ H1 y ya h1 (reo_us r), c.xx⟩⟩
theorem qmakeKP (G : IFnP X.prog X.w X.K X.mg X.base C x ps ks lv sp k) (hr : Room (lv + 1) X.A) (tk : Takes X W) (ha : PK X kws (liftA X.K W tas ka)) (hg : Gl X x := by rfl) (hall : kwAll X pos kws := by rfl)
    (hks : (backToKw pos (keywordEach kws X.env)).filterMap (·.1) = ks := by rfl) (hkl : ks.length + 1 = ps.length := by rfl) (hdb : (x == ("__debug__" : Str)) = false := by decide)
    (hpl : ((backTo pos (starEach [] X.env)).any (·.1) || (backToKw pos (keywordEach kws X.env)).any (·.1.isNone)) = false := by rfl) :
    PE X (.Call (.Name x p) [] kws pos) (liftE X.K W (tCall' sp (reoA tas)) (ka + k)) := by
  obtain ⟨f, fd, hm, M, hb, F⟩ := G.ex
  refine PE.imp (t := fun σ H Q => liftA X.K W tas ka σ H fun vs H1 => ∀ x dx, H1 x = none → H1 dx = none → dx ≠ x → liftI0 X.K C sp k (.ref x :: reo vs) (upd (upd H1 dx (.own x)) x (.ins C dx [])) (fun v H2 => v = .non ∧ Q (.ref x) H2) (WE W σ)) ⟨fun pins s σ H Q I h => ?_⟩ fun σ H Q h => reo_lift (call_lift h)
  refine wpAny_Call_Name_kw (ld_glob I hg hm ?_ hdb)
  refine PySem.W.callWith_KW0 (h₀ := X.base) I.ok.mod.kin M.kp hall ?_ hpl
  refine thn (ha.run pos pins s σ H _ I h) fun us s1 ⟨vs, H1, I1, r, q⟩ => ⟨I1.kIn, ?_⟩
  rw [hks]
  have hl : us.length = ks.length := by
    have hq := q (s1.heap.objs.size + 1) s1.heap.objs.size (I1.hok.fresh (Nat.le_succ _)) (I1.hok.fresh (Nat.le_refl _)) (Nat.ne_of_lt (Nat.lt_succ_self _))
    have := F.len _ _ _ _ hq
    rw [List.length_cons, reo_len, r.length] at this
    omega
  exact make_run (us := []) (as := reo us) M F hr (fun s x X => hb s x us X hl) (passAt tk σ) I1 (reo_vals r) q
end
end Pl

/-! ## word, *entries = a list of texts -/
namespace Pl
open PySem PySem.Spec PyProof.Rows L2 TL
section
variable {prog : Program} {w : World} {A : Around} {E : Value → Shared → Prop} {s : Shared}
/-- a list's iterator behind its first item -/
theorem walks_tail {it l : Addr} {items : Array Value} (hh : A.handled = none) (ne : l ≠ it) (hn : 1 ≤ items.size) :
    WalksS prog w A it [it, l] [it] (fun a b => a = b) (items.size - 1) (fun i v => items[1 + i]? = some v) (fun i s => s.heap.IsListIter it l (1 + i) ∧ s.heap.IsList l items) where
  sub := by simp
  grefl := fun _ => rfl
  gtrans := fun _ _ _ => Eq.trans
  frame := fun i s h' tk ⟨h1, h2⟩ _ k => ⟨h1.at fun o e => k it (by simp) o e, h2.at fun o e => k l (by simp) o e⟩
  item := fun i s Q E hi ⟨h1, h2⟩ hQ => by
    have hlt : 1 + i < items.size := by omega
    refine wpAny_pyNext_list_item h1 h2 (x := items[1 + i]) (by simp [hlt]) fun h' h1' sb => hQ _ _ (by simp [hlt]) ⟨by rw [show 1 + (i + 1) = 1 + i + 1 by omega]; exact h1', h2.at fun o e => sb.extBut _ _ ne e⟩ ⟨fun b o hb e => sb.extBut _ _ (fun z => hb (by simp [z])) e, rfl, rfl, rfl, Nat.le_refl _⟩
  done := fun s Q E ⟨h1, h2⟩ hQ => by
    refine wpAny_pyNext_list_end hh h1 h2 (by simp; omega) fun h' eb => hQ _ ⟨fun b o hb e => eb _ _ (fun z => hb (by simp [z])) e, rfl, rfl, rfl, Nat.le_refl _⟩
  self := fun i s Q E ⟨h1, h2⟩ hQ => wpAny_pyIter_listiter h1 hQ
theorem unpack_star {l : Addr} {v0 : Value} {vs : List Value} {Q : List Value → Shared → Prop} (hh : A.handled = none) (hl : s.heap.IsList l (v0 :: vs).toArray) (hz : vs.length + 1 ≤ sizeLine)
    (hQ : ∀ s' : Shared, (∀ b o, s.heap.get? b = some o → s'.heap.get? b = some o) → s'.gens = s.gens → s'.drawn = s.drawn → s'.os = s.os → Q [v0, .ref s'.heap.objs.size] { s' with heap := s'.heap.push { cls := .type "list", data := .seq vs.toArray } }) :
    wpAny (model prog w) A (unpackItems (.ref l) 2 (some 1)) Q E s := by
  have hT : s.TypeIs (.ref l) "list" := by obtain ⟨o, ho, hc, _⟩ := hl; exact ⟨o, ho, hc⟩
  have lt : l < s.heap.objs.size := by obtain ⟨o, ho, _⟩ := id hl; exact Heap.lt_size ho
  have ne : l ≠ s.heap.objs.size := Nat.ne_of_lt lt
  unfold unpackItems
  refine wpAny_bind ?_
  unfold notIterableAtAll
  refine wpAny_bind (wpAny_specialOf hT PySem.F.slot_list_iter.lookup (wpAny_pure ?_))
  simp only [Bool.false_eq_true, if_false]
  refine wpAny_bind (wpAny_holding (wpAny_pyIter_list hl ?_))
  -- the first item
  refine wpAny_bind (wpAny_holding ?_)
  show wpAny _ _ (pyNext (.ref s.heap.objs.size) >>= _) _ _ _
  have hi0 : (s.heap.push { cls := .type "list_iterator", data := .fields #[.ref l, .int 0 0] }).IsListIter s.heap.objs.size l 0 := ⟨_, Heap.get?_push_size _ rfl, rfl, rfl⟩
  refine wpAny_bind (wpAny_pyNext_list_item (s := { s with heap := s.heap.push _ }) hi0 (hl.push _) (x := v0) (by simp) fun h1 hit1 sb1 => ?_)
  show wpAny _ _ (holding [v0] (draw (.ref s.heap.objs.size) 0) >>= _) _ _ _
  refine wpAny_bind (wpAny_holding (wpAny_pure (wpAny_pure ?_)))
  rw [if_neg (by simp)]
  -- the others
  have hl1 : h1.IsList l (v0 :: vs).toArray := (hl.push _).extBut sb1.extBut ne
  have sz1 : h1.objs.size = s.heap.objs.size + 1 := by rw [sb1.1, Heap.size_push]
  refine wpAny_bind (wpAny_holding (wpAny_collect_iter (.inr (.inr (.inl rfl))) (walks_tail (A := A.in1) (it := s.heap.objs.size) (l := l) (items := (v0 :: vs).toArray) hh ne (by simp)) (fun i s' h => h.1.typeIs) ⟨hit1, hl1⟩ (fun b hb => ?_) (by simp) (fun s' acc hm hacc => ?_) (by simp; omega)))
  · have e : b = s.heap.objs.size ∨ b = l := by simpa using hb
    show b < h1.objs.size
    rcases e with e | e
    · rw [e, sz1]; exact Nat.lt_succ_self _
    · rw [e, sz1]; exact Nat.lt_succ_of_lt lt
  · have eacc : acc.toList = vs := by
      obtain ⟨hs, hv⟩ := hacc
      refine List.ext_getElem? fun j => ?_
      have lacc : acc.toList.length = vs.length := by rw [Array.length_toList, hs]; simp
      by_cases hj : j < vs.length
      · have hj2 : j < acc.size := by rw [← Array.length_toList, lacc]; exact hj
        have h := hv j acc[j] (by simp [hj2])
        have h3 : (v0 :: vs)[1 + j]? = some acc[j] := by simpa using h
        rw [show 1 + j = j + 1 by omega, List.getElem?_cons_succ] at h3
        rw [h3]
        simp [hj2]
      · rw [List.getElem?_eq_none (by omega), List.getElem?_eq_none (by omega)]
    rw [eacc]
    rw [if_neg (by simp)]
    refine wpAny_bind ?_
    rw [show vs.take (vs.length - (2 - 1 - 1)) = vs by simp]
    refine wpAny_newObj_type ?_ (by show vs.toArray.size ≤ sizeLine; rw [List.size_toArray]; omega)
    rw [show vs.drop (vs.length - (2 - 1 - 1)) = [] by simp]
    refine wpAny_pure (hQ s' (fun b o e => ?_) hm.gens.symm hm.drawn hm.os)
    have lb := Heap.lt_size e
    have e1 : h1.get? b = some o := sb1.extBut _ _ (Nat.ne_of_lt lb) (Heap.get?_push_of_some _ e)
    exact hm.heap b o (fun z => Nat.ne_of_lt lb (List.mem_singleton.mp z)) e1
end
section
variable {X : Cx} {W : WX} {pos : Pos} {e : Expr} {te : TE'} {ka : Nat}
def gStar (K : PySem.W.Frag) (i j : Nat) : TG := fun v σ H Q => ∃ (a : Addr) (x0 : V) (rest : List V), v = .ref a ∧ SqL K H a (x0 :: rest) ∧ ∀ D, H D = none → Q ((σ.set i (some x0)).set j (some (.ref D))) (upd H D (.lst rest))
theorem pg_star {i j : Nat} {x y : Str} {px py ps tp : Pos} {k : Nat} (hc : X.calm = true) (h1 : PG X (.Name x px) (gName i)) (h2 : PG X (.Name y py) (gName j)) : PG X (.Tuple [.Name x px, .Starred (.Name y py) ps] k tp) (gStar X.K i j) := by
  refine ⟨fun pins s σ H v u Q I r h => ?_⟩
  obtain ⟨a, x0, rest, rfl, hq, h⟩ := h
  obtain rfl : u = Value.ref a := r
  obtain ⟨its, rv, p, hz⟩ := I.list hq
  cases rv with
  | @cons v0 u0 vs us ra rr =>
    have hp : s.heap.IsList a (u0 :: us).toArray := p.isList
    have hl : us.length = rest.length := rr.length.symm
    show wpAny (model X.prog X.w) X.A (do standAt tp; unpack (.ref a) [(false, assign (.Name x px) X.env), (true, assign (.Name y py) X.env)]) _ X.xe s
    refine wpAny_bind (wpAny_standAt ?_)
    unfold unpack
    show wpAny (model X.prog X.w) X.A (holding [.ref a] (unpackItems (.ref a) 2 (some 1)) >>= fun items => assignInOrder [assign (.Name x px) X.env, assign (.Name y py) X.env] items) _ X.xe s
    refine wpAny_bind (wpAny_holding (unpack_star (I.ok.hd hc) hp (by rw [hl]; simpa using hz) fun s' keep g d o => ?_))
    have hs' : s' = { s with heap := s'.heap, toks := s'.toks } := by
      obtain ⟨a1, a2, a3, a4, a5⟩ := s'
      simp only at g d o
      subst g; subst d; subst o
      rfl
    have I1 : Inv X pins σ H s' := by
      rw [hs']
      exact I.kept keep
    have nD : H s'.heap.objs.size = none := I1.hok.fresh (Nat.le_refl _)
    have I2 : Inv X pins σ (upd H s'.heap.objs.size (.lst rest)) { s' with heap := s'.heap.push { cls := .type "list", data := .seq us.toArray } } :=
      I1.laid (t' := s'.toks) (fun b o e => Heap.get?_push_of_some _ e) (Nat.le_refl _) ⟨Nat.le_of_succ_le (by simpa using hz), us, 0, rr, Heap.get?_push_size _ rfl⟩
    refine assignInOrder_cons (thn (h1.run pins _ σ _ x0 u0 (fun σ' H' => σ' = σ.set i (some x0) ∧ H' = upd H s'.heap.objs.size (.lst rest)) I2 ra ⟨rfl, rfl⟩) fun _ s2 ⟨σ2, H2, J2, e1, e2⟩ => ?_)
    subst e1; subst e2
    refine assignInOrder_cons (thn (h2.run pins s2 _ _ (.ref s'.heap.objs.size) (.ref s'.heap.objs.size) Q J2 rfl (h _ nD)) fun _ s3 q3 => assignInOrder_nil q3)
end
/-! ### where a token is out -/
section
variable {X : Cx}
theorem lcT_core {pins : List (Addr × Obj)} {s : Shared} {σ : L2.St} {H : Hp} {Q : VK} {elt tg iter : Expr} {scope : Scope} {own : List (Str × Nat)} {pos pos' : Pos} {wi : TI} {g : TG} {tt : TT} {te : TE} {use : Option (Value → Sem Unit)} {Qf : Value → Shared → Prop}
    (htt : ∀ σ H Q, tt σ H Q → Q true H) (calm : X.calm = true) (nd : X.N.Nodup) (k0 : 1 ≤ s.toks) (I : Inv X pins σ H s) (pi : PI X tg iter wi) (bo : BlkOk X.N X.env.scope scope own)
    (pg : ∀ (s : Shared) (H : Hp) (C : Addr) (cl : List (Str × Addr)) (fp : List Addr), PG (X.blk s H scope (compEnvC scope cl C X.env) fp) tg g)
    (pe : ∀ (s : Shared) (H : Hp) (C : Addr) (cl : List (Str × Addr)) (fp : List Addr), PET (X.blk s H scope (compEnvC scope cl C X.env) fp) elt te) (fs : ∀ x, foldedSetIterable iter X.env x = pure x)
    (h : tLc wi g tt te (own.map (·.2)) σ H Q)
    (hRR : ∀ D C s' m H', 1 ≤ s'.toks → Inv X pins σ H' s' → Q (.ref D) H' → s'.heap.Ns C m → FpOk X pins H' C → compPost (model X.prog X.w) X.A X.xe use Qf (.ref D) C (.ok .next) s') :
    wpAny (model X.prog X.w) X.A (comprehension (.ListComp elt [⟨tg, iter, [], 0⟩] scope pos) scope X.env pos' (newList []) false (eval iter X.env) use) Qf X.xe s := by
  have cells : ∀ y ∈ scope.names, y.2 = .free → ∃ c, X.env.cells.lookup y.1 = some c := fun y hy e => (bo.free y hy e).elim (fun z => I.ok.has _ (.inl z)) fun z => I.ok.has _ (.inr z)
  refine wpAny_comprehension_free (use := use) rfl fs (closure_ok cells) bo.kind (fun y hy e => by rw [bo.uniq y hy, e]) (thenE k0 (pi.run pins s σ H _ I h) fun xv s1 k1 hx => thenE k1 hx fun itv s2 k2 hit => ?_)
  obtain ⟨it, fp, tn, J, H2, rfl, I2, T, t0, fr, q⟩ := hit
  refine wpAny_newObj_type (newEnv_comp ?_) (by show 0 ≤ sizeLine; decide)
  -- the list that is filled
  have nD : H2 s2.heap.objs.size = none := I2.hok.fresh (Nat.le_refl _)
  obtain ⟨W, ⟨m0, w0⟩, turn⟩ := q _ nD
  have gD : (s2.heap.push { cls := .type "list", data := .seq ([] : List Value).toArray }).get? s2.heap.objs.size = some { cls := .type "list", data := .seq ([] : List Value).toArray } := Heap.get?_push_size _ rfl
  have I3 : Inv X pins σ (upd H2 s2.heap.objs.size (.lst [])) { s2 with heap := s2.heap.push { cls := .type "list", data := .seq ([] : List Value).toArray } } :=
    I2.laid (t' := s2.toks) (fun b o e => Heap.get?_push_of_some _ e) (Nat.le_refl _) ⟨Nat.zero_le _, [], 0, .nil, gD⟩
  have t3 : tn 0 (s2.heap.push { cls := .type "list", data := .seq ([] : List Value).toArray }) := T.keep _ _ _ t0 fun b _ o e => Heap.get?_push_of_some _ e
  have f3 : ∀ b ∈ fp, FpOk X pins (upd H2 s2.heap.objs.size (.lst [])) b ∧ b < (s2.heap.push { cls := .type "list", data := .seq ([] : List Value).toArray }).objs.size := fun b hb => by
    obtain ⟨o, e, _⟩ := T.obj _ _ t0 b hb
    have lt := Heap.lt_size e
    exact ⟨⟨by rw [upd_ne (Nat.ne_of_lt lt)]; exact (fr b hb).1, (fr b hb).2⟩, by rw [Heap.size_push]; exact Nat.lt_succ_of_lt lt⟩
  generalize hs3 : ({ s2 with heap := s2.heap.push { cls := .type "list", data := .seq ([] : List Value).toArray } } : Shared) = s3 at I3
  have k3 : 1 ≤ s3.toks := by rw [← hs3]; exact k2
  have e3 : s3.heap = s2.heap.push { cls := .type "list", data := .seq ([] : List Value).toArray } := by rw [← hs3]
  rw [← e3] at t3 f3
  generalize s2.heap.objs.size = D at nD w0 turn I3 f3 ⊢
  have I4 := block_start I3 bo nd f3
  show codeAny _ _ (.compStart (.ListComp elt [⟨tg, iter, [], 0⟩] scope pos) 0 (.ref it) (.ref D) (compEnvC scope (cellsFrom (s3.heap.objs.size + 1) scope.names (cloFrom X.env.cells scope.names [])) s3.heap.objs.size X.env)) (compPost (model X.prog X.w) X.A X.xe use Qf (.ref D) s3.heap.objs.size) { s3 with heap := pushCells (s3.heap.push { cls := .type "dict", data := .dict #[] }) scope.names }
  have pg' := pg s3 (upd H2 D (.lst [])) s3.heap.objs.size (cellsFrom (s3.heap.objs.size + 1) scope.names (cloFrom X.env.cells scope.names [])) fp
  have pe' := pe s3 (upd H2 D (.lst [])) s3.heap.objs.size (cellsFrom (s3.heap.objs.size + 1) scope.names (cloFrom X.env.cells scope.names [])) fp
  have lc : (compEnvC scope (cellsFrom (s3.heap.objs.size + 1) scope.names (cloFrom X.env.cells scope.names [])) s3.heap.objs.size X.env).locals = s3.heap.objs.size := rfl
  generalize compEnvC scope (cellsFrom (s3.heap.objs.size + 1) scope.names (cloFrom X.env.cells scope.names [])) s3.heap.objs.size X.env = ce at I4 pg' pe' lc ⊢
  generalize hs4 : ({ s3 with heap := pushCells (s3.heap.push { cls := .type "dict", data := .dict #[] }) scope.names } : Shared) = s4 at I4 ⊢
  have k4 : 1 ≤ s4.toks := by rw [← hs4]; exact k3
  have t4 : tn 0 s4.heap := T.keep _ _ _ t3 fun b _ o e => by rw [← hs4]; exact pushCells_keeps _ _ _ _ (Heap.get?_push_of_some _ e)
  have free3 : ∀ b ∈ fp, (upd H2 D (.lst [])) b = none := fun b hb => (f3 b hb).1.1
  generalize upd H2 D (.lst []) = H3 at I3 I4 pg' pe' w0 f3 free3
  have quiet : ∀ {σ' : L2.St} {H' : Hp} {s' : Shared}, Inv (X.blk s3 H3 scope ce fp) [] σ' H' s' → (∀ b ∈ fp, H' b = none) → ∀ b ∈ fp, FpOk (X.blk s3 H3 scope ce fp) [] H' b := fun {σ' H' s'} J' n b hb =>
    ⟨n b hb, (J'.ok.exf b hb).1, J'.ok.exfs b hb, .inl hb, fun x c e => (J'.ok.exf b hb).2 x c e, fun p hp => absurd (show p ∈ ([] : List (Addr × Obj)) ++ [] from hp) (by simp)⟩
  refine codeAny_compStart_list ?loop (T.self X.A 0 _ _ _ t4 ?loop)
  case loop =>
    refine compLoop_any (fun n z => ∃ i Hi, 1 ≤ z.toks ∧ Inv (X.blk s3 H3 scope ce fp) [] (L2.wipe σ (own.map (·.2))) Hi z ∧ tn i z.heap ∧ (∀ b ∈ fp, Hi b = none) ∧ W i n Hi) ?_ m0 ⟨0, H3, k4, I4, t4, free3, w0⟩
    rintro n z ⟨i, Hi, kz, Iz, tz, nz, wz⟩
    rcases turn i n Hi wz with ⟨st, qd⟩ | ⟨go, Nx, less, step⟩
    · refine thenT kz (T.done (X.blk s3 H3 scope ce fp) rfl rfl rfl calm i [] z _ Hi (fun _ _ => False) Iz (quiet Iz nz) tz st) fun r z1 kz1 ⟨er, J1⟩ => ?_
      subst er
      have back : Inv X pins σ Hi z1 := I3.call' (ch := fp) J1.os J1.base J1.hok J1.bare fun b hb => ⟨(f3 b hb).1.2.2.2.1, (f3 b hb).1.2.1, (f3 b hb).1.2.2.2.2.1, (f3 b hb).1.2.2.2.2.2⟩
      have fl : Hi ce.locals = none := J1.free
      obtain ⟨m, ns, _⟩ := J1.loc
      have ns : z1.heap.Ns ce.locals m := ns
      rw [lc] at ns fl
      exact hRR D s3.heap.objs.size z1 m Hi kz1 back qd ns (I3.fpOk (Nat.le_refl _) fl)
    · refine thenT kz (T.item (X.blk s3 H3 scope ce fp) rfl rfl rfl calm i [] z _ Hi (fun _ _ => False) Iz (quiet Iz nz) tz go) fun r z1 kz1 ⟨u, er, it1⟩ => ?_
      subst er
      refine thenT kz1 it1 fun _ z2 kz2 ⟨x, Hx, Jx, rx, yx, tx, nx⟩ => ?_
      have Jp := Jx.pinned (quiet Jx nx) (T.obj _ _ tx)
      refine thenT kz2 (pg'.run _ z2 _ Hx x u _ Jp rx (step x Hx yx)) fun _ z3 kz3 ⟨σ3, Hy, Jy, wy, qy⟩ => ?_
      refine wpAny_tests_nil ?_
      refine thenT kz3 (pe' _ z3 σ3 Hy _ kz3 Jy (htt _ _ _ qy)) fun v z4 kz4 ⟨yv, Hv, Jv, rv, acc, eD, lD, nxt⟩ => ?_
      refine thenT kz4 (app_ok (X := X.blk s3 H3 scope ce fp) (Q := fun _ z => Inv (X.blk s3 H3 scope ce fp) ([] ++ pinsAt fp z2.heap) σ3 (upd Hv D (.lst (acc ++ [yv]))) z) Jv eD lD rv fun z5 J5 => J5) fun _ z5 kz5 J5 => ?_
      obtain ⟨m', lt, w'⟩ := less _ nxt
      have pinned : ∀ b ∈ fp, ∀ o, z2.heap.get? b = some o → z5.heap.get? b = some o ∧ (upd Hv D (.lst (acc ++ [yv]))) b = none := fun b hb o e =>
        have y := J5.pin (b, o) (List.mem_append_right _ (List.mem_append_right _ (mem_pinsAt hb e)))
        ⟨y.1, y.2.1⟩
      refine ⟨m', lt, i + 1, _, kz5, J5.unpinned.weak (by rw [← wy, wipe_length]) (fun j v e => ?_), T.keep _ _ _ tx (fun b hb o e => (pinned b hb o e).1), (fun b hb => ?_), w'⟩
      · rw [← wy] at e
        exact (wipe_some e).1
      · obtain ⟨o, e, _⟩ := T.obj _ _ tx b hb
        exact (pinned b hb o e).2

/-- name = [.. for ..] on one line, a token out -/
theorem pst_setLcT {i : Nat} {y : Str} {py : Pos} {elt tg iter : Expr} {scope : Scope} {own : List (Str × Nat)} {pos spos : Pos} {wi : TI} {g : TG} {tt : TT} {te : TE} (htt : ∀ σ H Q, tt σ H Q → Q true H) (hc : X.calm = true) (hN : X.N.Nodup) (hy : X.N[i]? = some y) (hyl : X.env.scope.names.lookup y = some .local)
    (hsw : swapsWith (.ListComp elt [⟨tg, iter, [], 0⟩] scope pos) (some (.Name y py)) spos.line X.env = pure true) (hi : PI X tg iter wi) (ok : BlkOk X.N X.env.scope scope own)
    (hg : ∀ (s : Shared) (H : Hp) (C : Addr) (cl : List (Str × Addr)) (fp : List Addr), PG (X.blk s H scope (compEnvC scope cl C X.env) fp) tg g)
    (he : ∀ (s : Shared) (H : Hp) (C : Addr) (cl : List (Str × Addr)) (fp : List Addr), PET (X.blk s H scope (compEnvC scope cl C X.env) fp) elt te) (hs : ∀ x, foldedSetIterable iter X.env x = pure x := by intro _; rfl) :
    PST X (.Assign [.Name y py] (.ListComp elt [⟨tg, iter, [], 0⟩] scope pos) spos) (tAsg (tLc wi g tt te (own.map (·.2))) (gName i)) := by
  intro pins s σ H D k0 I h
  rw [exec_Assign_Name_used _ _ _ _ hsw]
  refine wpAny_bind (wpAny_standAt (wpAny_bind ?_))
  show wpAny _ X.A (do let _ ← comprehension (.ListComp elt [⟨tg, iter, [], 0⟩] scope pos) scope X.env (firstIterPos [⟨tg, iter, [], 0⟩] pos) (newList []) false (eval iter X.env) (some (assign (.Name y py) X.env))) _ _ s
  have h : tLc wi g tt te (own.map (·.2)) σ H (fun x H1 => gName i x σ H1 D.nx) := h
  refine wpAny_bind (thn (lcT_core (Qf := fun _ s' => SP X pins D .next s') htt hc hN k0 I hi ok hg he hs h fun L C s' m H' _ I' q hn f => ?_) fun _ s' hq => wpAny_pure (wpAny_pure hq))
  show wpAny _ _ (assign (.Name y py) X.env (.ref L)) _ _ _
  refine wpAny_assign_Name (store_ok2 (v := V.ref L) I' hN hy (.inl hyl) rfl (fun s2 I2 ⟨a, sb, ha⟩ => ?_) (.inr hyl))
  obtain ⟨f0, f1, f2, f3, f4, f5⟩ := f
  have haC : C ≠ a := by
    rcases ha with z | z
    · rw [z]; exact f1
    · exact fun e => f4 y a z e.symm
  refine ⟨m, hn.sameBut sb haC, fun h3 sb3 => ?_⟩
  exact ⟨_, H', I2.turned (t' := s2.toks) (fun b o hb e => (sb3.2 b hb).trans e) f0 f1 f3 f4 f5, q⟩
end
section
variable {X : Cx} {W : WX} {pos p apos cp : Pos} {e o a : Expr} {st : Stmt} {rest : List Stmt} {te to ta : TE'} {t u : TS'} {k ka kb ke : Nat}
theorem PST.imp {t t2 : TS} (h : PST X st t) (i : ∀ D σ H, t2 D σ H → t D σ H) : PST X st t2 := fun pins s σ H D k0 I q => h pins s σ H D k0 I (i D σ H q)
theorem PSsT.imp {t t2 : TS} (h : PSsT X rest t) (i : ∀ D σ H, t2 D σ H → t D σ H) : PSsT X rest t2 := fun pins s σ H D k0 I q => h pins s σ H D k0 I (i D σ H q)
theorem seq_lift {K : PySem.W.Frag} {D : Ends} {σ : L2.St} {H : Hp} (h : liftS K W (tSeq' t u) (ka + kb) D σ H) : tSeq (liftS K W t ka) (liftS K W u kb) D σ H := by
  obtain ⟨w, env, S, D', hr, he, hl, q, c⟩ := h
  refine ⟨w, env, S, _, hr, he, by omega, q, ⟨fun env1 S1 q1 w1 σ1 H1 x h1 e1 => ?_, (c.le (by omega)).rt, (c.le (by omega)).bk, (c.le (by omega)).ct, (c.le (by omega)).xx⟩⟩
  exact ⟨w1, env1, S1, D', h1, e1, by have := x.n; omega, q1, c.ext x⟩
theorem qst_cons (h1 : PST X st (liftS X.K W t ka)) (h2 : PSsT X rest (liftS X.K W u kb)) : PSsT X (st :: rest) (liftS X.K W (tSeq' t u) (ka + kb)) := PSsT.imp (psst_cons h1 h2) fun _ _ _ h => seq_lift h
/-- a statement behind which a token is out -/
def PSo (X : Cx) (st : Stmt) (t : TS) : Prop :=
  ∀ (pins : List (Addr × Obj)) (s : Shared) (σ : L2.St) (H : Hp) (D : Ends), Inv X pins σ H s → t D σ H → wpAny (model X.prog X.w) X.A (exec st X.env) (fun f s' => SP X pins D f s' ∧ 1 ≤ s'.toks) X.xe s
theorem PSo.imp {t t2 : TS} (h : PSo X st t) (i : ∀ D σ H, t2 D σ H → t D σ H) : PSo X st t2 := fun pins s σ H D I q => h pins s σ H D I (i D σ H q)
theorem pss_o {t u : TS} (h1 : PSo X st t) (h2 : PSsT X rest u) : PSs X (st :: rest) (tSeq t u) := by
  refine ⟨fun pins s σ H D I h => ?_⟩
  refine wpAny_execs_cons (thn (h1 pins s σ H { D with nx := u D } I h) fun f s1 ⟨q, k1⟩ => ?_)
  cases f with
  | next =>
    obtain ⟨σ', H', I', q⟩ := q
    exact h2 pins s1 σ' H' D k1 I' q
  | ret v => exact q
  | brk => exact q
  | cont => exact q
theorem qs_o (h1 : PSo X st (liftS X.K W t ka)) (h2 : PSsT X rest (liftS X.K W u kb)) : PSs X (st :: rest) (liftS X.K W (tSeq' t u) (ka + kb)) := PSs.imp (pss_o h1 h2) fun _ _ _ h => seq_lift h
/-- an expression behind which a token is out -/
def PEo (X : Cx) (e : Expr) (t : TE) : Prop :=
  ∀ (pins : List (Addr × Obj)) (s : Shared) (σ : L2.St) (H : Hp) (Q : VK), Inv X pins σ H s → t σ H Q → wpAny (model X.prog X.w) X.A (eval e X.env) (fun v s' => EP X pins σ Q v s' ∧ 1 ≤ s'.toks) X.xe s
theorem PEo.imp {t t2 : TE} (h : PEo X e t) (i : ∀ σ H Q, t2 σ H Q → t σ H Q) : PEo X e t2 := fun pins s σ H Q I q => h pins s σ H Q I (i σ H Q q)
/-- o.m('..') of a text -/
theorem peo_m1 {id : String} {name y : Str} {j : Nat} {r : V → List V → Hp → VK → Prop} {to : TE} (slot : Slot "str" name id) (hty : typeOf (.builtin id) = pure (.type "method_descriptor")) (rule : MtR X id r) (ho : PE X o to)
    (hbase : attributeBase o name X.env (eval o X.env) = eval o X.env := by rfl) (hs : starEach [.Constant (.str y) j cp] X.env = [(false, eval (.Constant (.str y) j cp) X.env)] := by rfl) (hline : (apos.endLine == pos.line) = true := by rfl) :
    PEo X (.Call (.Attribute o name apos) [.Constant (.str y) j cp] [] pos) (fun σ H Q => to σ H fun x H1 => (∃ z, x = .str z) ∧ r x [.str y] H1 Q) := by
  intro pins s σ H Q I h
  refine PySem.Call_method1 hbase hs hline (thn (ho.run pins s σ H _ I h) fun v s1 ⟨x, H1, I1, r1, ⟨z, ez⟩, q⟩ => ?_)
  subst ez
  obtain ⟨tz, rfl⟩ := _root_.id r1
  refine ⟨"str", _, F.plainAttrs_str, slot, hty, typeIs_str _ _ _, (fun _ e => nomatch e), Calls.callWith_builtin rfl (Calls.evalArgs_plain (Calls.spliced_cons (Calls.Constant_str (Calls.spliced_nil ?_))))⟩
  have k1 : 1 ≤ ({ s1 with toks := s1.toks + 1 } : Shared).toks := Nat.succ_le_succ (Nat.zero_le _)
  exact thenE k1 (rule pins { s1 with toks := s1.toks + 1 } σ H1 (V.str z) [.str y] _ [.str y s1.toks] Q (I1.tok _) ⟨_, rfl⟩ (.cons ⟨_, rfl⟩ .nil) q) fun a s2 k2 q2 => ⟨q2, k2⟩
/-- x = e -/
theorem pso_set {i : Nat} {x : Str} {pos' : Pos} {te : TE} (he : PEo X e te) (hN : X.N.Nodup) (hi : X.N[i]? = some x) (hx : Loc X.env.scope x) (hs : swapsWith e (some (.Name x pos')) pos.line X.env = pure false) (hf : X.fn x = true ∨ X.env.scope.names.lookup x = some .local) :
    PSo X (.Assign [.Name x pos'] e pos) (tAsg te (gName i)) := by
  intro pins s σ H D I h
  refine wpAny_Assign_Name (thn (he pins s σ H _ I h) fun v s1 ⟨⟨y, H1, I1, r1, q1⟩, k1⟩ => ?_) hs
  exact thenE k1 (store_ok (Q := fun _ s2 => ∃ σ' H', Inv X pins σ' H' s2 ∧ D.nx σ' H') I1 hN hi hx r1 (fun s2 I2 => ⟨_, H1, I2, q1⟩) hf) fun _ s2 k2 q2 => ⟨q2, k2⟩
/-- target = e -/
theorem pso_asg {tg : Expr} {g : TG} {te : TE} (he : PEo X e te) (hg : PG X tg g) (hs : swapsWithSole [tg] e pos.line X.env = pure false) (hw : swappedStores [tg] e X.env = pure none) (h1 : (assignEach [tg] X.env).map (·.2) = [assign tg X.env]) : PSo X (.Assign [tg] e pos) (tAsg te g) := by
  intro pins s σ H D I h
  refine wpAny_Assign_stores (thn (he pins s σ H _ I h) fun v s1 ⟨⟨x, H1, I1, r1, q1⟩, k1⟩ => ?_) hs hw
  rw [h1]
  exact thenE k1 (hg.run pins s1 σ H1 x v _ I1 r1 q1) fun _ s2 k2 q => ⟨q, k2⟩
/-! ### on data -/
def splL (t l : List Nat) : List (List Nat) := (Txt.split ⟨l.toArray⟩ ⟨t.toArray⟩).map tl
def fSplit (kind : Option Nat) : RM' := fun l us S Φ _ => match us with
  | [.d (.str t)] => (1 ≤ t.length ∧ l.length ≤ 1000000) ∧ mk kind ((splL t l).map D.str) S Φ
  | _ => False
theorem reps_strs {K : PySem.W.Frag} {F : Hp} {J : Addr → Prop} : ∀ l : List Str, Reps K F J (l.map V.str) ((l.map tl).map D.str)
  | [] => .nil
  | _ :: l => .cons .str (reps_strs l)
theorem splitM {K : PySem.W.Frag} {kind : Option Nat} : MtL K W (fun x xs H Q => ∃ a b, x = .str a ∧ xs = [.str b] ∧ (b.length == 0) = false ∧ a.length + 2 ≤ sizeLine ∧ rNewStrs (Txt.split a b) H Q) (fSplit kind) := by
  intro w S H σ env l vs us Φ Ψ Q hh r q c
  unfold fSplit at q
  split at q
  · rename_i t
    cases r with
    | cons r rr =>
      cases rr
      have r' : Rep K w.F w.J _ (.str t) := r
      cases r' with
      | @str y =>
        have ey : (⟨(tl y).toArray⟩ : Str) = y := mk_tl y
        have hy : (y.length == 0) = false := by
          have h1 := q.1.1
          have : (tl y).length = y.length := by simp [tl, Str.length]
          rw [this] at h1
          simp; omega
        refine ⟨_, y, rfl, rfl, hy, by rw [len_mk, sizeLine_eq]; have := q.1.2; omega, fun p hp => ?_⟩
        have q2 := q.2
        unfold splL at q2
        rw [ey] at q2
        exact coMk c hh hp (reps_strs _) q2
  · exact q.elim
/-- w = o.split('..') -/
theorem osplit_lift {K : PySem.W.Frag} {kind : Option Nat} {y : Str} {σ : L2.St} {H : Hp} {Q : VK} (h : liftE K W (tMs' (fSplit kind) to (tCons' (tC' (.str (tl y))) tNil')) (k + 0) σ H Q) :
    liftE K W to k σ H fun x H1 => (∃ z, x = .str z) ∧ (∃ a b, x = .str a ∧ [V.str y] = [.str b] ∧ (b.length == 0) = false ∧ a.length + 2 ≤ sizeLine ∧ rNewStrs (Txt.split a b) H1 Q) := by
  obtain ⟨w, env, S, Φ, Ψ, hr, hE, hl', q, c⟩ := h
  refine ⟨w, env, S, _, Ψ, hr, hE, by omega, q, ⟨fun u S1 q1 w1 v H1 x1 xa1 h1 r1 => ?_, fun z S1 q1 w1 C d H1 x1 xa1 h1 r1 => c.xx z S1 q1 w1 C d H1 (x1.le (by omega)) xa1 h1 r1⟩⟩
  cases u with
  | r _ => exact False.elim q1
  | tup _ => exact False.elim q1
  | d z =>
    cases z <;> try exact False.elim q1
    rename_i l
    rw [RepN.str (Rep.now h1 r1)]
    exact ⟨⟨_, rfl⟩, splitM (W := W) ⟨h1, hE.ext x1 xa1, by have := x1.n; omega⟩ (.cons (u := .d (.str (tl y))) (show RepU K w1 (.str y) (.d (.str (tl y))) from .str) .nil) q1 (Co.ext (k := 0) c x1 xa1)⟩
theorem qsplitO {kind : Option Nat} {y : Str} {j : Nat} (ho : PE X o (liftE X.K W to k)) (hbase : attributeBase o "split" X.env (eval o X.env) = eval o X.env := by rfl) (hs : starEach [.Constant (.str y) j cp] X.env = [(false, eval (.Constant (.str y) j cp) X.env)] := by rfl) (hline : (apos.endLine == pos.line) = true := by rfl) :
    PEo X (.Call (.Attribute o "split" apos) [.Constant (.str y) j cp] [] pos) (liftE X.K W (tMs' (fSplit kind) to (tCons' (tC' (.str (tl y))) tNil')) (k + 0)) :=
  PEo.imp (peo_m1 F.slot_str_split F.type_str_split mt_split ho hbase hs hline) fun _ _ _ h => osplit_lift h
theorem qsetO (i : Nat) {x : Str} {pos' : Pos} (he : PEo X e (liftE X.K W te k)) (hN : X.N.Nodup) (hi : X.N[i]? = some x := by rfl) (hx : Loc X.env.scope x := by first | exact Or.inl rfl | exact Or.inr rfl) (hs : swapsWith e (some (.Name x pos')) pos.line X.env = pure false := by rfl)
    (hf : X.fn x = true ∨ X.env.scope.names.lookup x = some .local := by first | exact .inl rfl | exact .inr rfl) : PSo X (.Assign [.Name x pos'] e pos) (liftS X.K W (tSet' i te) (k + 0)) :=
  PSo.imp (pso_set he hN hi hx hs hf) fun D σ H h => lift_mono (exp_lift (g := fun u D env S => D.nx (env.set i (some u)) S) h) fun v H1 ⟨w, u, env, S, D', hh, r, q, c⟩ => c.nx _ S q w _ H1 (Ext.refl _ _) hh.h (hh.e.set r)
def tStar' (i j : Nat) (te : TE') : TS' := fun D env S => te env S (fun u S1 => match rd u S1 with
  | some (.lst (d :: ds)) => D.nx ((env.set i (some (.d d))).set j (some (.d (.lst ds)))) S1
  | _ => False) (fun x S1 => D.xx x env S1)
theorem qstarO (i j : Nat) {x y : Str} {px py ps tp : Pos} {kk : Nat} (hc : X.calm = true) (he : PEo X e (liftE X.K W te k)) (hN : X.N.Nodup) (hi : X.N[i]? = some x := by rfl) (hj : X.N[j]? = some y := by rfl) (hx : Loc X.env.scope x := by first | exact Or.inl rfl | exact Or.inr rfl) (hy : Loc X.env.scope y := by first | exact Or.inl rfl | exact Or.inr rfl)
    (hfx : X.fn x = true ∨ X.env.scope.names.lookup x = some .local := by first | exact .inl rfl | exact .inr rfl) (hfy : X.fn y = true ∨ X.env.scope.names.lookup y = some .local := by first | exact .inl rfl | exact .inr rfl)
    (hs : swapsWithSole [.Tuple [.Name x px, .Starred (.Name y py) ps] kk tp] e pos.line X.env = pure false := by rfl) (hw : swappedStores [.Tuple [.Name x px, .Starred (.Name y py) ps] kk tp] e X.env = pure none := by rfl) :
    PSo X (.Assign [.Tuple [.Name x px, .Starred (.Name y py) ps] kk tp] e pos) (liftS X.K W (tStar' i j te) k) := by
  refine PSo.imp (pso_asg he (pg_star hc (pg_name hN hi hx hfx) (pg_name hN hj hy hfy)) hs hw (by rfl)) fun D σ H ⟨w, env, S, D', hr, hE, hl, q, c⟩ => ?_
  refine ⟨w, env, S, _, _, hr, hE, by omega, q, ⟨fun u S1 q1 w1 v H1 x1 xa1 h1 r1 => ?_, fun z S1 q1 w1 C d H1 x1 xa1 h1 r1 => c.xx z env S1 q1 w1 σ H1 C d (x1.le (by omega)) h1 (hE.ext x1 xa1) r1⟩⟩
  split at q1
  case h_2 => exact q1.elim
  rename_i d ds er
  obtain ⟨a, vs, rfl, ha, rr⟩ := rd_ok h1 r1 er
  cases rr with
  | @cons v0 d0 vs0 ds0 rd0 rr =>
    refine ⟨a, v0, vs0, rfl, SqL.of ha, fun p hp => ?_⟩
    have f := h1.free hp
    have E1 : Ext 0 w1 (w1.add p (.lst vs0)) := Ext.add f.1 f.2.1
    exact c.nx _ S1 q1 _ _ _ (x1.trans E1) (h1.add hp) ((((hE.ext x1 xa1).ext E1 ExtA.add).set (u := .d d) (rd0.ext E1)).set (u := .d (.lst ds)) (show RepU X.K _ _ (.d _) from .lst (show upd w1.F p _ p = _ from upd_same) (rr.ext E1)))
end
section
variable {X : Cx} {W : WX} {pos p apos cp : Pos} {e o a : Expr} {es : List Expr} {st : Stmt} {rest : List Stmt} {te to ta : TE'} {t u : TS'} {k ka kb ke : Nat}
theorem pat_star {te : TE} {t : TA} (he : PET X e te) (hr : PAT X es t) (hs : starEach (.Starred e p :: es) X.env = (true, eval e X.env) :: starEach es X.env := by rfl) : PAT X (.Starred e p :: es) (StX.tStar X.K te t) := by
  intro pos pins s σ H Q k0 I h
  refine PySem.W.items_star (thenE k0 (he pins s σ H _ k0 I h) fun v s1 k1 ⟨y, H1, I1, ry, a, xs, ey, hx, q⟩ => ?_) hs
  subst ey
  obtain rfl : v = Value.ref a := ry
  have z := StX.star_any (E := X.xe) (Q := fun us s2 => Inv X pins σ H1 s2 ∧ Vals xs us) I1 hx (fun us s2 I2 rv => ⟨I2, rv⟩)
  unfold PySem.W.StarOf at z ⊢
  exact thenE k1 z fun b s2 k2 ⟨hb, zz⟩ => ⟨hb, thenE k2 zz fun us s3 k3 ⟨I3, rv⟩ => thn (hr pos pins s3 σ H1 _ k3 I3 q) fun ws s4 ⟨vs, H4, I4, r4, q4⟩ => ⟨xs ++ vs, H4, I4, rv.append r4, q4⟩⟩
theorem pet_tup {x1 : Nat} {t : TA} (h : PAT X es t) : PET X (.Tuple es x1 pos) (tTup t) := by
  intro pins s σ H Q k0 I hq
  refine wpAny_Tuple_spliced (thn (h pos pins s σ H _ k0 I hq) fun us s1 ⟨xs, H1, I1, r, z, q⟩ => ⟨by rw [← r.length]; exact z, ?_⟩)
  have hf : H1 s1.heap.objs.size = none := I1.hok.fresh (Nat.le_refl _)
  refine ⟨.ref s1.heap.objs.size, upd H1 s1.heap.objs.size (.tup xs), I1.laid (t' := s1.toks) (fun b u e => Heap.get?_push_of_some _ e) (Nat.le_refl _) ?_, rfl, q _ hf⟩
  exact ⟨z, us, r, ⟨_, Heap.get?_push_size _ rfl, rfl, _, rfl⟩⟩
/-- (a, *e) -/
def tTupStar (ta te : TE') : TE' := fun env S Φ Ψ => ta env S (fun u S1 => te env S1 (fun z S2 => match u, rd z S2 with
  | .d d, some (.lst ds) => ds.length ≤ 1000000 ∧ Φ (.d (.tup (d :: ds))) S2
  | _, _ => False) Ψ) Ψ
theorem qtupStar {x1 : Nat} (ha : PE X a (liftE X.K W ta ka)) (he : PET X e (liftE X.K W te ke)) (hs : starEach [a, .Starred e p] X.env = (false, eval a X.env) :: starEach [.Starred e p] X.env := by rfl) : PET X (.Tuple [a, .Starred e p] x1 pos) (liftE X.K W (tTupStar ta te) (ka + ke + 0)) := by
  refine PET.imp (pet_tup (pat_cons (CwR.PET.of ha) (pat_star he pat_nil) hs)) fun σ H Q h => lift_mono (lift_bind2 (Rp := RepU X.K) (Rp2 := RepU X.K) (Rp3 := RepU X.K) (g := fun u z _ S Φ _ => match u, rd z S with
    | .d d, some (.lst ds) => ds.length ≤ 1000000 ∧ Φ (.d (.tup (d :: ds))) S
    | _, _ => False) stabU h) fun x H1 q1 => lift_mono q1 fun y H2 ⟨w, u, z, env, S, Φ, Ψ, hh, r1, r2, q, c⟩ => ?_
  split at q
  case h_2 => exact q.elim
  rename_i d ds er
  obtain ⟨a0, vs, rfl, h0, rr⟩ := rd_ok hh.h r2 er
  have r1' : Rep X.K w.F w.J x d := r1
  refine ⟨a0, vs, rfl, .inr (SqL.of h0), by rw [List.append_nil, List.length_cons, rr.length, sizeLine_eq]; have := q.1; omega, fun pp hp => ?_⟩
  rw [List.append_nil]
  have E1 : Ext 0 w (w.add pp (.tup (x :: vs))) := Ext.add (hh.h.free hp).1 (hh.h.free hp).2.1
  exact c.new hh hp q.2 (show RepU X.K _ _ (.d _) from .tup (SqT.of (show upd w.F pp _ pp = _ from upd_same)) (.cons (r1'.ext E1) (rr.ext E1)))
theorem pst_set {i : Nat} {x : Str} {pos' : Pos} {te : TE} (he : PET X e te) (hN : X.N.Nodup) (hi : X.N[i]? = some x) (hx : Loc X.env.scope x) (hs : swapsWith e (some (.Name x pos')) pos.line X.env = pure false) (hf : X.fn x = true ∨ X.env.scope.names.lookup x = some .local) :
    PST X (.Assign [.Name x pos'] e pos) (tAsg te (gName i)) := by
  intro pins s σ H D k0 I h
  refine wpAny_Assign_Name (thn (he pins s σ H _ k0 I h) fun v s1 ⟨y, H1, I1, r1, q1⟩ => ?_) hs
  exact store_ok I1 hN hi hx r1 (fun s2 I2 => ⟨_, H1, I2, q1⟩) hf
theorem qsetT (i : Nat) {x : Str} {pos' : Pos} (he : PET X e (liftE X.K W te k)) (hN : X.N.Nodup) (hi : X.N[i]? = some x := by rfl) (hx : Loc X.env.scope x := by first | exact Or.inl rfl | exact Or.inr rfl) (hs : swapsWith e (some (.Name x pos')) pos.line X.env = pure false := by rfl)
    (hf : X.fn x = true ∨ X.env.scope.names.lookup x = some .local := by first | exact .inl rfl | exact .inr rfl) : PST X (.Assign [.Name x pos'] e pos) (liftS X.K W (tSet' i te) (k + 0)) :=
  PST.imp (pst_set he hN hi hx hs hf) fun D σ H h => lift_mono (exp_lift (g := fun u D env S => D.nx (env.set i (some u)) S) h) fun v H1 ⟨w, u, env, S, D', hh, r, q, c⟩ => c.nx _ S q w _ H1 (Ext.refl _ _) hh.h (hh.e.set r)
theorem qsetLcT {kind : Option Nat} (i : Nat) (c : Nat) {y : Str} {py spos : Pos} {tg iter elt : Expr} {scope : Scope} {own : List (Str × Nat)} {ti : TI'} {g : TG} {g' : TGt'} {ki : Nat} (hc : X.calm = true) (hN : X.N.Nodup) (hy : X.N[i]? = some y) (hyl : X.env.scope.names.lookup y = some .local) (hsw : swapsWith (.ListComp elt [⟨tg, iter, [], 0⟩] scope pos) (some (.Name y py)) spos.line X.env = pure true)
    (hi : PI X tg iter (liftI X.K W ti ki)) (ok : BlkOk X.N X.env.scope scope own) (T : TgtOk X.K g g' (own.map (·.2)))
    (hg : ∀ s H C cl fp, PG (Cx.bk X scope s H C cl fp) tg g) (he : ∀ s H C cl fp, PET (Cx.bk X scope s H C cl fp) elt (liftE X.K W0 te ke)) (hs : ∀ x, foldedSetIterable iter X.env x = pure x := by intro _; rfl) :
    PST X (.Assign [.Name y py] (.ListComp elt [⟨tg, iter, [], 0⟩] scope pos) spos) (liftS X.K W (tSet' i (tLc' kind ti g' tYes' te (own.map (·.2)) (0 + ke) c)) (ki + c + 0)) :=
  PST.imp (pst_setLcT tYes_ok hc hN hy hyl hsw hi ok hg he hs) fun D σ H h => lc_lift T (lift_mono (exp_lift (g := fun u D env S => D.nx (env.set i (some u)) S) h) fun v H1 ⟨w, u, env, S, D', hh, r, q, c⟩ => c.nx _ S q w _ H1 (Ext.refl _ _) hh.h (hh.e.set r))
end
end Pl

/-! ## try: .. except C1 as e: .. except C2 as e: .. -/
namespace Pl
open PySem PySem.Spec PyProof.Rows L2 TL
/-- a clause: the class, the name's slot, the suite's reading -/
abbrev Cl := Value × Nat × (Addr → Value → Option Addr → TS)
def nEnds (i : Nat) (D : Ends) : Ends := { nx := fun σ' H' => D.nx (σ'.set i none) H', rt := D.rt, bk := fun σ' H' => D.bk (σ'.set i none) H', ct := fun σ' H' => D.ct (σ'.set i none) H' }
def wN (K : PySem.W.Frag) (Wout : WX) (D : Ends) : List Cl → WX
  | [] => Wout
  | (c, i, ts) :: r => fun cls d σ H => ∃ b, PySem.W.exmOne K cls c = some b ∧ (b = true → ∀ a, H a = none → ts a cls d (nEnds i D) (σ.set i (some (.ref a))) H) ∧ (b = false → wN K Wout D r cls d σ H)
inductive HN (X : Cx) : List ExceptHandler → List Cl → Prop
  | nil : HN X [] []
  | cons {x n : Str} {c : Value} {i : Nat} {ts : Addr → Value → Option Addr → TS} {b₀ : Stmt} {suite : List Stmt} {np pos' : Pos} {hds : List ExceptHandler} {l : List Cl} (hc : Names X x c) (hi : X.N[i]? = some n) (hln : X.env.kindOf n = some .local)
      (hsu : ∀ (a : Addr) (oe : Obj) (cls : Value) (d : Option Addr) (pn : List (Addr × Obj)), Zc cls d oe → (∃ vs, oe.data = .fields vs) → PSs (X.suite a ((a, oe) :: pn)) (b₀ :: suite) (ts a cls d)) (r : HN X hds l) :
      HN X (.ExceptHandler (some (.Name x np)) (some n) (b₀ :: suite) pos' :: hds) ((c, i, ts) :: l)
section
variable {X : Cx} {body : List Stmt} {h₀ : ExceptHandler} {hds : List ExceptHandler} {l : List Cl} {pos : Pos} {tb : WX → TS} {Wout : WX}
/-- several clauses, each with a name -/
theorem ps_try_names (hs : X.stack = X.env :: X.outer) (hf : X.env.frame = some X.env.locals) (hN : X.N.Nodup) (tk : Takes X Wout)
    (hb : ∀ (W : WX) (pn : List (Addr × Obj)) (xe : Value → Shared → Prop), Takes (X.tr pn xe) W → PassesOwn (model X.prog X.w) X.A X.env xe → PSs (X.tr pn xe) body (tb W))
    (hh : HN X (h₀ :: hds) l) : PS X (.Try body (h₀ :: hds) [] [] pos) (fun D σ H => tb (wN X.K Wout D l) D σ H) := by
  refine ⟨fun pins s σ H D I h => ?_⟩
  have ok := I.ok
  refine wpAny_Try_except (wpAny_mono ((hb (wN X.K Wout D l) (X.pn ++ pins) (fun e s₁ => wpAny (model X.prog X.w) X.A (noteFrame e X.env) (fun _ s₂ => wpAny (model X.prog X.w) X.A (setFlight e none) (fun _ s₃ =>
    wpAny (model X.prog X.w) X.A (handleBy e X.env (h₀ :: hds)) (SP X pins D) X.xe s₃) X.xe s₂) X.xe s₁) (fun u s' xx => ?cat0) PassesOwn.looking).run [] s σ H D (I.toTry _) h) (fun f s1 sp => ?through) (fun e s1 z => z))
  case through =>
    cases f with
    | next => obtain ⟨σ', H', J, q⟩ := sp; exact wpAny_execs_nil ⟨σ', H', J.ofTry ok, q⟩
    | brk => obtain ⟨σ', H', J, q⟩ := sp; exact ⟨σ', H', J.ofTry ok, q⟩
    | cont => obtain ⟨σ', H', J, q⟩ := sp; exact ⟨σ', H', J.ofTry ok, q⟩
    | ret u => obtain ⟨v, σ', H', J, r, q⟩ := sp; exact ⟨v, σ', H', J.ofTry ok, r, q⟩
  case cat0 =>
    obtain ⟨a, B, sI, pins', σ', H', cls, d, rfl, J', nb, up, sky, na, os, ag, w⟩ := xx
    have J := J'.ofTry ok
    have sky2 : Sky B (X.env :: X.outer) a (Zc cls d) X.env.locals s'.heap := by rw [← hs]; exact sky
    show wpAny (model X.prog X.w) X.A (noteFrame (.ref a) X.env) _ _ _
    refine Sky.land Zc.steady (by rw [ok.frames, hs]) hf sky2 fun h3 fl3 up3 => ?_
    have J3 : Inv X pins σ' H' { s' with heap := h3 } := J.landed nb fl3.1 (up.trans up3) os ag
    obtain ⟨oe3, vs3, he3, hz3, hd3⟩ := fl3.there
    have nfr : a ∉ frs (X.env :: X.outer) := fun hm => by
      obtain ⟨_, o', e', hnf⟩ := fl3.2.2.1.mem hm
      rw [he3] at e'; cases e'
      exact hnf _ hd3
    have nL : a ≠ X.env.locals := fun z => nfr (List.mem_filterMap.mpr ⟨X.env, List.mem_cons_self, by rw [hf, z]⟩)
    have nF : a ∉ X.fs := fun hm => by
      obtain ⟨e, he, q⟩ := List.mem_filterMap.mp hm
      exact nfr (List.mem_filterMap.mpr ⟨e, List.mem_cons_of_mem _ he, q⟩)
    have S3 := J3.suite he3 hd3 na nL nF
    have LT : PySem.W.Looks (model X.prog X.w) h3 (typeOf (.ref a)) cls := fun A Q E s k q => wpAny_typeOf_ref (k _ _ he3) (by rw [hz3.1]; exact q)
    have go : ∀ {hds' : List ExceptHandler} {l' : List Cl}, HN X hds' l' → wN X.K Wout D l' cls d σ' H' → wpAny (model X.prog X.w) X.A (handleBy (.ref a) X.env hds') (SP X pins D) X.xe { s' with heap := h3 } := by
      intro hds' l' hk
      induction hk with
      | nil =>
        intro w
        refine wpAny_handleBy_nil ?_
        obtain ⟨k1, k2, k3, oe, vs, T, oT, ts', he, hz, hd, h1, hr⟩ := id fl3
        unfold PySem.passOn
        refine wpAny_bind (wpAny_field he hd h1 ?_)
        rw [if_neg (show ¬ ((Value.ref T == Value.none) = true) from by simp)]
        have fin : wpAny (model X.prog X.w) X.A (setFlight (.ref a) X.env.frame) (fun _ s4 => wpAny (model X.prog X.w) X.A (throw (.ref a) : Sem Flow) (SP X pins D) X.xe s4) X.xe { s' with heap := h3 } := by
          rw [hf]
          exact HandSPX.setFlight_upZ fl3 fun h4 hh4 up4 => wpAny_throw (tk _ _ ⟨a, B, sI, pins, σ', H', cls, d, rfl, J, nb, (up.trans up3).trans up4, .inr (.inr (by rw [hs]; exact hh4)), na, os, ag, w⟩)
        first
          | exact wpAny_bind (wpAny_pure (wpAny_bind fin))
          | exact wpAny_bind fin
      | @cons x n c i ts b₀ suite np pos' hds2 l2 hc hi hln hsu r ih =>
        intro w
        obtain ⟨b, hb1, yes, no⟩ := w
        refine wpAny_handleBy_cons (codeAny_handlers_test ?_) (by intro q; cases q)
        have LM := PySem.W.exm_one (M := model X.prog X.w) (J3.kIn) LT hb1
        have test : ∀ {Q : Value → Shared → Prop} {E : Value → Shared → Prop}, Q c { s' with heap := h3 } → wpAny (model X.prog X.w) (X.A.mark (some (.ref a))) (eval (.Name x np) X.env) Q E { s' with heap := h3 } := fun {Q E} q => by
          obtain ⟨hg, hdbg, hm | ⟨hm, hv, hnn⟩⟩ := hc
          · exact ld_glob (X := X.suite a ((a, oe3) :: (X.pn ++ pins))) S3 hg hm q hdbg
          · exact ld_blt (X := X.suite a ((a, oe3) :: (X.pn ++ pins))) S3 hg hm hv q hnn hdbg
        refine test (LM.here ?_)
        cases b with
        | false =>
          show wpAny _ X.A (handleBy (.ref a) X.env hds2) _ _ _
          exact ih (no rfl)
        | true =>
          refine codeAny_handlers_suite_as (HandSPX.lands_againZ fl3 fun h4 fl4 up4 => ?_)
          have J4 : Inv X pins σ' H' { s' with heap := h4 } := J.landed nb fl4.1 ((up.trans up3).trans up4) os ag
          obtain ⟨oe4, vs4, he4, hz4, hd4⟩ := fl4.there
          have S4 := J4.suite he4 hd4 na nL nF
          refine store_ok (X := X.suite a ((a, oe4) :: (X.pn ++ pins))) (v := .ref a) S4 hN hi (.inl hln) rfl (fun s5 S5 => ?_) (.inr hln)
          refine wpAny_mono ((hsu a oe4 cls d (X.pn ++ pins) hz4 ⟨_, hd4⟩).run [] s5 _ H' _ S5 (yes rfl a na)) (fun f s6 sp => ?_) (fun _ _ z => False.elim z)
          have out : ∀ {σ6 : L2.St} {H6 : Hp} {Q : Shared → Prop}, Inv (X.suite a ((a, oe4) :: (X.pn ++ pins))) [] σ6 H6 s6 → (∀ s7, Inv X pins (σ6.set i none) H6 s7 → Q s7) →
              wpAny (model X.prog X.w) X.A (do bindName X.env n .none; unbindBehindTheSuite X.env n pos') (fun _ s7 => Q s7) X.xe s6 := fun {σ6 H6 Q} S6 hq => gone_ok (S6.unsuite ok) hN hi hln hq
          cases f with
          | next => obtain ⟨σ6, H6, S6, q6⟩ := sp; exact out S6 fun s7 J7 => ⟨_, _, J7, q6⟩
          | brk => obtain ⟨σ6, H6, S6, q6⟩ := sp; exact out S6 fun s7 J7 => ⟨_, _, J7, q6⟩
          | cont => obtain ⟨σ6, H6, S6, q6⟩ := sp; exact out S6 fun s7 J7 => ⟨_, _, J7, q6⟩
          | ret u => obtain ⟨v6, σ6, H6, S6, r6, q6⟩ := sp; exact out S6 fun s7 J7 => ⟨_, _, _, J7, r6, q6⟩
    exact go hh w
end
/-! ### on data -/
section
variable {X : Cx} {W : WX} {pos pos1 pos2 : Pos} {body su1 su2 : List Stmt} {c1 c2 x1 x2 n1 n2 : Str} {b1 b2 : Stmt}
/-- the error a clause was met by stands behind the name -/
theorem held_run {K : PySem.W.Frag} {k0 ks : Nat} {i : Nat} {ts : Addr → Addr → Option Addr → TS'} {D' : End'} {D : Ends} {w w1 : Wd} {z : Ex} {env1 : Env} {S1 : SS} {σ1 : L2.St} {H1 : Hp} {d : Option Addr} {W : WX} (X1 : Ext k0 w w1) (h1 : HRel K w1 S1 H1) (e1 : EnvR K w1 σ1 env1) (rx : RepX K w1.F w1.J H1 (.ref z.C) d z) (cc : CoS K W (k0 + ks) w D' D) (hl : w1.n + ks ≤ LIM)
    (q2 : heldAs i ts D' z env1 S1) (a : Addr) : liftS K W0 (ts a z.C d) ks (nEnds i D) (σ1.set i (some (.ref a))) H1 := by
  have c2 := cc.ext X1
  obtain ⟨y, ry, q2⟩ : ∃ y, RepU K w1 (.ref a) y ∧ ts a z.C d (endAs i D') (env1.set i (some y)) S1 := by
    have h2 := rx.2
    unfold heldAs at q2
    cases hz : z.f with
    | none =>
      rw [hz] at h2 q2
      rw [show d = none from h2]
      exact ⟨_, show RepU K w1 (.ref a) (.d _) from .exn0, q2 a⟩
    | some p =>
      obtain ⟨f, y⟩ := p
      rw [hz] at h2 q2
      obtain ⟨p1, v1, e5, e6, r6⟩ := h2
      rw [e5]
      exact ⟨_, show RepU K w1 (.ref a) (.d _) from .exn1 (ns := [f]) (vs := [v1]) e6 rfl (.cons r6 .nil), q2 a p1⟩
  exact ⟨w1, env1.set i (some y), S1, endAs i D', h1, e1.set ry, hl, q2, ⟨fun env2 S2 q3 w2 σ2 H2 X2 h2 e2 => c2.nx _ S2 q3 w2 _ H2 X2 h2 e2.clear, fun u S2 q3 w2 v H2 X2 h2 ru => c2.rt u S2 q3 w2 v H2 X2 h2 ru, fun env2 S2 q3 w2 σ2 H2 X2 h2 e2 => c2.bk _ S2 q3 w2 _ H2 X2 h2 e2.clear,
    fun env2 S2 q3 w2 σ2 H2 X2 h2 e2 => c2.ct _ S2 q3 w2 _ H2 X2 h2 e2.clear, fun _ _ _ q3 => False.elim q3⟩⟩
def tTry2 (exm1 exm2 : Addr → Bool → Prop) (i1 i2 : Nat) (tb : TS') (ts1 ts2 : Addr → Addr → Option Addr → TS') : TS' := fun D env S => tb { D with xx := fun z env1 S1 => ∃ b, exm1 z.C b ∧ if b = true then heldAs i1 ts1 D z env1 S1 else ∃ b2, exm2 z.C b2 ∧ if b2 = true then heldAs i2 ts2 D z env1 S1 else D.xx z env1 S1 } env S
theorem qtry2 {v1 v2 : Value} {i1 i2 : Nat} {np1 np2 : Pos} {tb : TS'} {ts1 ts2 : Addr → Addr → Option Addr → TS'} {kb ks : Nat} (K' : PySem.W.Frag) (hN : X.N.Nodup) (hm1 : X.mg x1 = some v1) (hm2 : X.mg x2 = some v2) (tk : Takes X W)
    (hb : ∀ (W : WX) (pn : List (Addr × Obj)) (xe : Value → Shared → Prop), Takes (X.tr pn xe) W → PassesOwn (model X.prog X.w) X.A X.env xe → PSs (X.tr pn xe) body (liftS X.K W tb kb))
    (hsu1 : ∀ (a : Addr) (oe : Obj) (A : Addr) (d : Option Addr) (pn : List (Addr × Obj)), Zc (.ref A) d oe → (∃ vs, oe.data = .fields vs) → PSs (X.suite a ((a, oe) :: pn)) (b1 :: su1) (liftS X.K W0 (ts1 a A d) ks))
    (hsu2 : ∀ (a : Addr) (oe : Obj) (A : Addr) (d : Option Addr) (pn : List (Addr × Obj)), Zc (.ref A) d oe → (∃ vs, oe.data = .fields vs) → PSs (X.suite a ((a, oe) :: pn)) (b2 :: su2) (liftS X.K W0 (ts2 a A d) ks))
    (hg1 : Gl X x1 := by rfl) (hg2 : Gl X x2 := by rfl) (hdb1 : (x1 == ("__debug__" : Str)) = false := by decide) (hdb2 : (x2 == ("__debug__" : Str)) = false := by decide) (hi1 : X.N[i1]? = some n1 := by rfl) (hi2 : X.N[i2]? = some n2 := by rfl)
    (hs : X.stack = X.env :: X.outer := by rfl) (hf : X.env.frame = some X.env.locals := by rfl) (hln1 : X.env.kindOf n1 = some .local := by rfl) (hln2 : X.env.kindOf n2 = some .local := by rfl) (hK : X.K = K' := by rfl) :
    PS X (.Try body [.ExceptHandler (some (.Name x1 np1)) (some n1) (b1 :: su1) pos1, .ExceptHandler (some (.Name x2 np2)) (some n2) (b2 :: su2) pos2] [] [] pos)
      (liftS X.K W (tTry2 (fun A b => PySem.W.exmOne K' (.ref A) v1 = some b) (fun A b => PySem.W.exmOne K' (.ref A) v2 = some b) i1 i2 tb ts1 ts2) (kb + ks)) := by
  subst hK
  refine PS.imp (ps_try_names (tb := fun W => liftS X.K W tb kb) (l := [(v1, i1, fun a cls d => match cls with
      | .ref A => liftS X.K W0 (ts1 a A d) ks
      | _ => fun _ _ _ => False), (v2, i2, fun a cls d => match cls with
      | .ref A => liftS X.K W0 (ts2 a A d) ks
      | _ => fun _ _ _ => False)]) hs hf hN tk hb (.cons ⟨hg1, hdb1, .inl hm1⟩ hi1 hln1 (fun a oe cls d pn hz hv => ?_) (.cons ⟨hg2, hdb2, .inl hm2⟩ hi2 hln2 (fun a oe cls d pn hz hv => ?_) .nil))) fun D σ H ⟨w, env, S, D', hr, hE, hl, q, cc⟩ => ?_
  · cases cls <;> first | exact hsu1 a oe _ d pn hz hv | exact ⟨fun _ _ _ _ _ _ h => False.elim h⟩
  · cases cls <;> first | exact hsu2 a oe _ d pn hz hv | exact ⟨fun _ _ _ _ _ _ h => False.elim h⟩
  · refine ⟨w, env, S, _, hr, hE, by omega, q, ⟨fun env1 S1 q1 w1 σ1 H1 X1 h1 e1 => cc.nx env1 S1 q1 w1 σ1 H1 (X1.le (by omega)) h1 e1, fun u S1 q1 w1 v H1 X1 h1 ru => cc.rt u S1 q1 w1 v H1 (X1.le (by omega)) h1 ru, fun env1 S1 q1 w1 σ1 H1 X1 h1 e1 => cc.bk env1 S1 q1 w1 σ1 H1 (X1.le (by omega)) h1 e1, fun env1 S1 q1 w1 σ1 H1 X1 h1 e1 => cc.ct env1 S1 q1 w1 σ1 H1 (X1.le (by omega)) h1 e1,
      fun z env1 S1 q1 w1 σ1 H1 C d X1 h1 e1 rx => ?_⟩⟩
    obtain ⟨b, eb, q2⟩ := q1
    have eC := rx.1
    subst eC
    have hl1 : w1.n + ks ≤ LIM := by have := X1.n; omega
    refine ⟨b, eb, fun hb1 a _ => ?_, fun hb0 => ?_⟩
    · rw [if_pos hb1] at q2
      exact held_run X1 h1 e1 rx cc hl1 q2 a
    · subst hb0
      rw [if_neg (by decide)] at q2
      obtain ⟨b', eb', q3⟩ := q2
      refine ⟨b', eb', fun hb1 a _ => ?_, fun hb0 => ?_⟩
      · rw [if_pos hb1] at q3
        exact held_run X1 h1 e1 rx cc hl1 q3 a
      · subst hb0
        rw [if_neg (by decide)] at q3
        exact cc.xx z env1 S1 q3 w1 σ1 H1 _ d (X1.le (by omega)) h1 e1 rx
end
end Pl

/-! ## a def that stands under another name; a dict beside a text -/
namespace Pl
open PySem PySem.Spec PyProof.Rows L2 TL PyProof
section
variable {P : Program} {w : World} {K : PySem.W.Frag} {mg : Str → Option Value} {base : Heap} {al nm : Str} {st : Stmt} {N ps : List Str} {l k : Nat} {sp : Sp'}
structure DfA (K : PySem.W.Frag) (mg : Str → Option Value) (al nm : Str) (st : Stmt) (ps : List Str) : Prop where
  ex : ∃ f fd, Fun K nm nm st f fd ∧ mg al = some (.ref f) ∧ KwB K fd ps
theorem fnEA (m : Nat) (Fd : DfA K mg al nm st ps) (S : FnScope N ps (defScope st)) (len : ∀ ds Φ Ψ, sp ds Φ Ψ → ds.length = ps.length)
    (h : ∃ (t : TS') (kb : Nat), Bod P w K mg base nm st N l t kb ∧ kb ≤ k ∧ ∀ ds Φ Ψ, sp ds Φ Ψ → t (endE Φ Ψ) (startE N ds) (List.replicate m none)) : Fn P w K mg base al ps (l + 1) sp k := by
  obtain ⟨t, kb, hb, hk, hv⟩ := h
  obtain ⟨f, fd, Fu, hm, hB⟩ := Fd.ex
  exact ⟨f, fd, hm, Fu.kp, hB, fn_ok Fu S len (hb f) hk hv⟩
end
section
variable {prog : Program} {w : World} {A : Around} {E : Value → Shared → Prop} {s : Shared}
theorem str_eq_dict (b : Str) (u : Tok) (x : Addr) (es : Array DictEntry) (ep : Nat) : Meets (Builtin.«str.__eq__» ⟨[.str b u, .ref x], []⟩) (fun _ R s => s.heap.get? x = some { cls := .type "dict", dict := none, data := .dict es ep, slots := #[] } ∧ R (.ok (.ret .notImplemented)) s) :=
  .of_wp fun prog w A R s h => by obtain ⟨hp, g, d, tk, os⟩ := s; obtain ⟨hl, h⟩ := h; wp_walk using wpAny_loadPart' hl, wpAny_load hl; exact ⟨_, rfl, h⟩
theorem dict_eq_str {a : Addr} {z : Str} {t : Tok} {es : Array DictEntry} {ep : Nat} {Q : Value → Shared → Prop} (ho : s.heap.get? a = some { cls := .type "dict", dict := none, data := .dict es ep, slots := #[] }) (hu : A.units < cLine) (h : Q (.bool false) s) : wpAny (model prog w) A (richCompare .Eq (.ref a) (.str z t)) Q E s := by
  have hT : s.TypeIs (.ref a) "dict" := ⟨_, ho, rfl⟩
  refine PySem.SeqAt.rc_eq_decline_or (k := false) hT (typeIs_str _ _ _) (by decide) (by rw [isSubtype_type]; kernel_rfl) PySem.F.slot_dict_eq PySem.F.slot_str_eq (fun Q' hq => wpAny_call_entry PySem.F.slot_dict_eq hT PySem.F.entry_dict_eq ?_ (PySem.F.args_dict_eq_2 _ _)) (fun Q' hq => call_meets F.slot_str_eq (typeIs_str _ _ _) F.entry_str_eq (F.args_str_eq_2 _ _) (str_eq_dict _ _ _ _ _) ⟨ho, hq⟩) (fun Q' hq => wpAny_pure hq) (.inr hu) h
  show wpAny _ _ (Builtin.Dict.dictSlotArgs "__eq__" ⟨[.ref a, .str z t], []⟩ >>= _) _ _ s
  refine wpAny_bind ?_
  unfold Builtin.Dict.dictSlotArgs
  refine wpAny_bind (wpAny_notOrdered_dict hT ?_)
  show wpAny _ _ (pure (Value.ref a, Value.str z t)) _ _ s
  refine wpAny_pure (wpAny_bind (wpAny_isInstance (T := "str") (b := false) (typeIs_str _ _ _) (by rw [isSubtype_type]; kernel_rfl) ?_))
  simp only [Bool.not_false, if_true]
  exact wpAny_bind (wpAny_rule (wpAny_pure ⟨_, rfl, hq⟩))
end
section
variable {X : Cx} {W : WX}
theorem op_eqDS (hu : X.A.units < cLine) : OpR X (compareOp .Eq) (fun x y H Q => ∃ p kvs z, x = .ref p ∧ H p = some (.dK kvs) ∧ y = .str z ∧ Q (.bl false) H) := by
  intro pins s σ H x y v u Q I rx ry ⟨p, kvs, z, ex, hp, ey, q⟩
  subst ex; subst ey
  obtain rfl : v = Value.ref p := rx
  obtain ⟨t, rfl⟩ := (show ∃ t, u = Value.str z t from ry)
  obtain ⟨_, _, vs, kv, o, es, ep, ho, hx, hd, _⟩ := I.hok p _ hp
  obtain ⟨o1, o2, o3⟩ := hx
  have e : o = { cls := .type "dict", dict := none, data := .dict es ep, slots := #[] } := by
    obtain ⟨a, b, c, d⟩ := o
    simp only at o1 o2 o3 hd
    subst o1; subst o2; subst o3; subst hd
    rfl
  rw [e] at ho
  exact dict_eq_str ho hu ⟨.bl false, H, I, rfl, q⟩
def fEqD (g : Bool → Bool) : D → D → SS → (U → SS → Prop) → Prop := fun d e S Φ => match d, e with
  | .dic _ _, .str _ => Φ (.d (.bl false)) S
  | d, e => fEq g d e S Φ
theorem eqLD {K : PySem.W.Frag} : OpL K W (fun x y H Q => rEqG K (fun b => b) x y H Q ∨ ∃ p kvs z, x = V.ref p ∧ H p = some (.dK kvs) ∧ y = .str z ∧ Q (.bl false) H) (rd2 (fEqD fun b => b)) 0 := by
  intro w S H σ env x y u z Φ Ψ Q hh r1 r2 q c
  unfold rd2 at q
  cases e1 : rd u S with
  | none => simp only [e1] at q
  | some d =>
    cases e2 : rd z S with
    | none => simp only [e1, e2] at q
    | some e =>
      simp only [e1, e2] at q
      have n1 := rd_ok hh.h r1 e1
      have n2 := rd_ok hh.h r2 e2
      have left : fEq (fun b => b) d e S Φ → (rEqG K (fun b => b) x y H Q ∨ ∃ p kvs z, x = V.ref p ∧ H p = some (.dK kvs) ∧ y = .str z ∧ Q (.bl false) H) := fun h => .inl (eqL (g := fun b => b) hh r1 r2 (Φ := Φ) (Ψ := Ψ) (by unfold rd2; simp only [e1, e2]; exact h) c)
      cases d <;> first
        | exact left q
        | (cases e <;> first
          | exact left q
          | (obtain ⟨p, vs, ep, hp, _, _⟩ := n1
             exact .inr ⟨p, _, _, ep, hp, n2.str, c.here hh q .bl⟩))
theorem op_eqGD (hu : X.A.units + 64 < cLine) : OpR X (compareOp .Eq) (fun x y H Q => rEqG X.K (fun b => b) x y H Q ∨ ∃ p kvs z, x = V.ref p ∧ H p = some (.dK kvs) ∧ y = .str z ∧ Q (.bl false) H) := OpR.or (op_eqG hu) (op_eqDS (by omega))
end
end Pl
namespace Pl
open PySem PySem.Spec PyProof.Rows L2 TL
/-- int(e) of a text -/
def fIntT : D → SS → (U → SS → Prop) → Prop := fun d S Φ => match d with
  | .str l => l.length ≤ 640 ∧ ∃ n, PySem.intText? ⟨l.toArray⟩ = some n ∧ Φ (.d (.int n)) S
  | _ => False
theorem intTL {K : PySem.W.Frag} {W : WX} : CalL K W (fun xs H Q => ∃ a n, xs = [V.str a] ∧ PySem.intText? a = some n ∧ a.length ≤ 640 ∧ Q (.int n) H) (a1 fIntT) 0 := by
  intro w S H σ env vs us Φ Ψ Q hh r q c
  obtain ⟨v, d, rfl, rn, q⟩ := a1_ok hh r q
  cases d <;> try exact False.elim q
  rename_i l
  obtain ⟨h1, n, h2, q⟩ := q
  rw [RepN.str rn]
  exact ⟨_, n, rfl, h2, by rw [len_mk]; exact h1, c.here hh q .int⟩
end Pl

namespace Pl
open PySem PySem.Spec PyProof.Rows L2 TL
def top (i : Nat) : Stmt := PySem.Challenge.pw_plaindoors_k11_folding_texts_refused.main.body.getD i (.Pass ⟨0, 0, 0, 0⟩)
structure Blt (mg : Str → Option Value) : Prop where
  ValueError : mg "ValueError" = none
  all : mg "all" = none
  bool : mg "bool" = none
  enumerate : mg "enumerate" = none
  int : mg "int" = none
  isinstance : mg "isinstance" = none
  len : mg "len" = none
  list : mg "list" = none
  max : mg "max" = none
  range : mg "range" = none
  set : mg "set" = none
  str : mg "str" = none
  tuple : mg "tuple" = none
  zip : mg "zip" = none
local macro_rules | `(tactic| walk_at "kwb0") => `(tactic| (intro kV doc pm an cdv ct us ws h; (rcases us with _ | ⟨a, us⟩); (rcases ws with _ | ⟨c, ws⟩); (first | exact rfl | (simp at h; done)); all_goals (simp at h; done)))
local macro_rules | `(tactic| walk_at "kwb1") => `(tactic| (intro kV doc pm an cdv ct us ws h; (rcases us with _ | ⟨a, _ | ⟨b, us⟩⟩) <;> (rcases ws with _ | ⟨c, _ | ⟨d, ws⟩⟩) <;> (first | exact rfl | (simp at h; done) | (simp at h; omega))))
local macro_rules | `(tactic| walk_at "kwb2") => `(tactic| (intro kV doc pm an cdv ct us ws h; (rcases us with _ | ⟨a, _ | ⟨b, _ | ⟨c, us⟩⟩⟩) <;> (rcases ws with _ | ⟨d, _ | ⟨e, _ | ⟨f, ws⟩⟩⟩) <;> (first | exact rfl | (simp at h; done) | (simp at h; omega))))
local macro_rules | `(tactic| walk_at "kwb3") => `(tactic| (intro kV doc pm an cdv ct us ws h; (rcases us with _ | ⟨a, _ | ⟨b, _ | ⟨c, _ | ⟨c2, us⟩⟩⟩⟩) <;> (rcases ws with _ | ⟨d, _ | ⟨e, _ | ⟨f, _ | ⟨f2, ws⟩⟩⟩⟩) <;> (first | exact rfl | (simp at h; done) | (simp at h; omega))))
local macro_rules | `(tactic| walk_at "kwb4") => `(tactic| (intro kV doc pm an cdv ct us ws h; (rcases us with _ | ⟨a, _ | ⟨b, _ | ⟨c, _ | ⟨c2, _ | ⟨c3, us⟩⟩⟩⟩⟩) <;> (rcases ws with _ | ⟨d, _ | ⟨e, _ | ⟨f, _ | ⟨f2, _ | ⟨f3, ws⟩⟩⟩⟩⟩) <;> (first | exact rfl | (simp at h; done) | (simp at h; omega))))
local macro_rules | `(tactic| walk_at "kwb5") => `(tactic| (intro kV doc pm an cdv ct us ws h; (rcases us with _ | ⟨p0, _ | ⟨p1, _ | ⟨p2, _ | ⟨p3, _ | ⟨p4, _ | ⟨p5, us⟩⟩⟩⟩⟩⟩) <;> (rcases ws with _ | ⟨q0, _ | ⟨q1, _ | ⟨q2, _ | ⟨q3, _ | ⟨q4, _ | ⟨q5, ws⟩⟩⟩⟩⟩⟩) <;> (first | exact rfl | (simp at h; done) | (simp at h; omega))))
local macro_rules | `(tactic| walk_at "kwb6") => `(tactic| (intro kV doc pm an cdv ct us ws h; (rcases us with _ | ⟨p0, _ | ⟨p1, _ | ⟨p2, _ | ⟨p3, _ | ⟨p4, _ | ⟨p5, _ | ⟨p6, us⟩⟩⟩⟩⟩⟩⟩) <;> (rcases ws with _ | ⟨q0, _ | ⟨q1, _ | ⟨q2, _ | ⟨q3, _ | ⟨q4, _ | ⟨q5, _ | ⟨q6, ws⟩⟩⟩⟩⟩⟩⟩) <;> (first | exact rfl | (simp at h; done) | (simp at h; omega))))
local macro_rules | `(tactic| walk_at "kwd2") => `(tactic| (intro us ws h; (rcases us with _ | ⟨a, _ | ⟨b, _ | ⟨c, us⟩⟩⟩) <;> (rcases ws with _ | ⟨d, _ | ⟨e, _ | ⟨f, ws⟩⟩⟩) <;> (first | exact ⟨_, rfl, rfl⟩ | (simp at h; done) | (simp at h; omega))))
local macro_rules | `(tactic| walk_at "kwp4") => `(tactic| (intro kV doc pm an cdv ct u us h; (rcases us with _ | ⟨a, _ | ⟨b, _ | ⟨c, _ | ⟨d, _ | ⟨e, us⟩⟩⟩⟩⟩) <;> (first | exact rfl | (simp at h; done) | (simp at h; omega))))
local macro_rules | `(tactic| walk_at "sd") => `(tactic| first | assumption | exact rfl | omega | decide | exact mulL1 (by decide) (by decide) | exact mulR1 (by decide) (by decide) | exact ⟨by omega, by omega⟩)
local macro_rules | `(tactic| walk_at "st") => `(tactic| repeat first | refine ⟨_, rfl, ?_⟩ | refine iteT ?_ | refine iteF ?_ | refine ⟨by walk_at "sd", ?_⟩)
def CH : List Nat := [97, 98, 99, 100, 101, 102, 103, 104, 105, 106, 107, 108, 109, 110, 111, 112, 113, 114, 115, 116, 117, 118, 119, 120, 121, 122, 65, 66, 67, 68, 69, 70, 71, 72, 73, 74, 75, 76, 77, 78, 79, 80, 81, 82, 83, 84, 85, 86, 87, 88, 89, 90, 48, 49, 50, 51, 52, 53, 54, 55, 56, 57, 32, 45, 46, 95, 47, 39]
theorem ch_len : CH.length = 68 := rfl
theorem ch_asc : ∀ c ∈ CH, c < 128 := by decide
abbrev d_CHARACTERS : D := .str CH
abbrev d_LONGEST_TEXT : D := .int 60
abbrev d_MOST_DROPPED : D := .int 10
abbrev d_MOST_KEPT : D := .int 9
abbrev d_MOST_STEPS : D := .int 6
/-- what kinds are looked at -/
def okD : D → Bool
  | .non => true | .bl _ => true | .int _ => true | .str l => decide (l.length ≤ 100000) | .tup _ => true | .lst _ => true | .dic _ _ => true | _ => false
def isWholeD : D → Bool | .int _ => true | _ => false
def allCh (l : List Nat) : Bool := l.all fun c => decide (c ∈ CH)
def isWrittenD (a b : Int) : D → Bool | .str l => decide (a ≤ l.length) && (decide ((l.length : Int) ≤ b) && allCh l) | _ => false
/-- a step -/
inductive Stp where
  | lower | swap (a b : Nat) | drop (l : List Nat) | lead (c : Nat) | once (c : Nat) | cut (n : Nat)
def Stp.toD : Stp → D
  | .lower => .tup [.str (tl ("lower" : Str))]
  | .swap a b => .tup [.str (tl ("swap" : Str)), .str [a], .str [b]]
  | .drop l => .tup [.str (tl ("drop" : Str)), .str l]
  | .lead c => .tup [.str (tl ("lead" : Str)), .str [c]]
  | .once c => .tup [.str (tl ("once" : Str)), .str [c]]
  | .cut n => .tup [.str (tl ("cut" : Str)), .int (n : Nat)]
def Stp.ok : Stp → Prop
  | .lower => True
  | .swap a b => a ∈ CH ∧ b ∈ CH
  | .drop l => 1 ≤ l.length ∧ l.length ≤ 10 ∧ (∀ c ∈ l, c ∈ CH) ∧ l.Nodup
  | .lead c => c ∈ CH
  | .once c => c ∈ CH
  | .cut n => 1 ≤ n ∧ n ≤ 9
def rowD (ss : List Stp) : D := .tup (ss.map Stp.toD)
theorem lk_len {l : List Nat} (h : okD (.str l) = true) : l.length ≤ 100000 := by simpa [okD] using h
theorem okS {l : List Nat} (h : l.length ≤ 100000) : okD (.str l) = true := by simpa [okD] using h
theorem len_ok {n : Nat} (h : n ≤ 1000000) : n ≤ sizeLine := by rw [sizeLine_eq]; omega
section
variable {P : Program} {w : World} {K : PySem.W.Frag} {mg : Str → Option Value} {base : Heap} {A_PlainError : Addr} {A_NoText : Addr} {A_NoStep : Addr} {A_NoPart : Addr} {A_Folding : Addr}
def sp_is_whole : Sp' := fun ds Φ _ => match ds with
  | [d] => okD d = true ∧ Φ (.bl (isWholeD d))
  | _ => False
abbrev st_is_whole : Stmt := top 7
abbrev N_is_whole : List Str := ["thing"]
theorem sc_is_whole : FnScope N_is_whole ["thing"] (defScope st_is_whole) := ⟨rfl, rfl, rfl, by decide +kernel, rfl, by decide +kernel, by decide +kernel⟩
theorem ok_is_whole (Dd : Df K mg "is_whole" st_is_whole ["thing"]) (B : Blt mg) : Fn P w K mg base "is_whole" ["thing"] 1 sp_is_whole 0 := by
  refine fnE 0 Dd sc_is_whole (by intro ds Φ Ψ h; unfold sp_is_whole at h; split at h <;> first | rfl | exact h.elim) ⟨_, _, fun f cdv A outer s H E hr =>
      (qs_one (qret (qandV (qisi isi_int (.ty _) B.isinstance (qv 0) (pe_bltn rfl B.int (by decide +kernel) rfl)) (qone (qnotV (qisi isi_bool (.ty _) B.isinstance (qv 0) (pe_bltn rfl B.bool (by decide +kernel) rfl))))))), by decide, ?_⟩
  intro ds Φ Ψ q
  unfold sp_is_whole at q
  split at q
  · rename_i d
    obtain ⟨h, q⟩ := q
    cases d <;> first | (exact (Bool.false_ne_true h).elim) | exact q
  · exact q.elim
def sp_is_written : Sp' := fun ds Φ _ => match ds with
  | [d, .int a, .int b] => okD d = true ∧ Φ (.bl (isWrittenD a b d))
  | _ => False
abbrev st_is_written : Stmt := top 8
abbrev N_is_written : List Str := ["thing", "least", "most", "character"]
theorem sc_is_written : FnScope N_is_written ["thing", "least", "most"] (defScope st_is_written) := ⟨rfl, rfl, rfl, by decide +kernel, rfl, by decide +kernel, by decide +kernel⟩
theorem ok_is_written (Dd : Df K mg "is_written" st_is_written ["thing", "least", "most"]) (B : Blt mg) (c_CHARACTERS : Cst K mg "CHARACTERS" d_CHARACTERS) : Fn P w K mg base "is_written" ["thing", "least", "most"] 1 sp_is_written 0 := by
  refine fnE 0 Dd sc_is_written (by intro ds Φ Ψ h; unfold sp_is_written at h; split at h <;> first | rfl | exact h.elim) ⟨_, _, fun f cdv A outer s H E hr =>
      (qs_cons (qifS (PW.pt (qor (qnotT (qtru (qisi isi_str (.ty _) B.isinstance (qv 0) (pe_bltn rfl B.str (by decide +kernel) rfl)))) (qor1 (qnotT (qtchain op_le op_le (qv 1) (qcB call_lenA lenL B.len (by decide +kernel) (qa_cons (qv 0) qa_nil)) (qv 2))))))
      (qs_one (qret qbl))
      qs_nil)
      (qs_one (qret (qcB (cr_all rfl) allL B.all (by decide +kernel) (qa_cons (qlc (kind := none) 0 rfl sc_is_written.nd (qi_seq (qv 0)) (blkOk_by (own := [("character", 3)]) (N := N_is_written) (sc := defScope st_is_written) (by decide +kernel)) (tgt_name (by decide)) (fun _ _ _ _ _ => (pg_name (i := 3) sc_is_written.nd rfl (Or.inl rfl))) (fun _ _ _ _ _ => qts_nil) (fun _ _ _ _ _ => (qcmp op_inG inL (qv 3) c_CHARACTERS.pe rfl))) qa_nil))))), by decide, ?_⟩
  intro ds Φ Ψ q
  unfold sp_is_written at q
  split at q
  · rename_i d a b
    obtain ⟨h, q⟩ := q
    cases d <;> first | (exact (Bool.false_ne_true h).elim) | exact q | skip
    rename_i l
    have hl := lk_len h
    have e : isWrittenD a b (.str l) = (decide (a ≤ l.length) && (decide ((l.length : Int) ≤ b) && allCh l)) := rfl
    rw [e] at q
    refine ⟨len_ok (by omega), ?_⟩
    refine ite2 (fun h1 => ?_) (fun h1 => ?_)
    · have h1' : decide (a ≤ (l.length : Int)) = true := h1
      rw [h1', Bool.true_and] at q
      refine ite2 (fun h2 => ?_) (fun h2 => ?_)
      · have h2' : decide ((l.length : Int) ≤ b) = false := by simpa using h2
        rw [h2', Bool.false_and] at q
        exact q
      · have h2' : decide ((l.length : Int) ≤ b) = true := by simpa using h2
        rw [h2', Bool.true_and] at q
        refine ⟨⟨by simp, by simp; omega⟩, ?_⟩
        refine compD_mapA (fun c => .str [c]) (fun c => .bl (decide (c ∈ CH))) l [] (fun c hc rest acc q => q) ?_
        refine ⟨l.map fun c => decide (c ∈ CH), by rw [List.nil_append]; exact asBl_map _ l, ?_⟩
        have e2 : (l.map fun c => decide (c ∈ CH)).all id = allCh l := by simp [allCh, List.all_map]
        rw [← e2] at q
        exact q
    · have h1' : decide (a ≤ (l.length : Int)) = false := by simpa using h1
      rw [h1', Bool.false_and] at q
      exact q
  · exact q.elim
def sp_is_character : Sp' := fun ds Φ _ => match ds with
  | [d] => okD d = true ∧ Φ (.bl (isWrittenD 1 1 d))
  | _ => False
abbrev st_is_character : Stmt := top 9
abbrev N_is_character : List Str := ["thing"]
theorem sc_is_character : FnScope N_is_character ["thing"] (defScope st_is_character) := ⟨rfl, rfl, rfl, by decide +kernel, rfl, by decide +kernel, by decide +kernel⟩
theorem ok_is_character (Dd : Df K mg "is_character" st_is_character ["thing"]) (B : Blt mg) (G_is_written : Fn P w K mg base "is_written" ["thing", "least", "most"] 1 sp_is_written 0) : Fn P w K mg base "is_character" ["thing"] 2 sp_is_character 0 := by
  refine fnE 0 Dd sc_is_character (by intro ds Φ Ψ h; unfold sp_is_character at h; split at h <;> first | rfl | exact h.elim) ⟨_, _, fun f cdv A outer s H E hr =>
      (qs_one (qret (qcallF G_is_written (hr.mono (by decide)) (takes_of rfl rfl rfl rfl) (qa_cons (qv 0) (qa_cons qint (qa_cons qint qa_nil)))))), by decide, ?_⟩
  intro ds Φ Ψ q
  unfold sp_is_character at q
  split at q
  · exact q
  · exact q.elim
def sp_is_text : Sp' := fun ds Φ _ => match ds with
  | [d] => okD d = true ∧ Φ (.bl (isWrittenD 0 60 d))
  | _ => False
abbrev st_is_text : Stmt := top 10
abbrev N_is_text : List Str := ["thing"]
theorem sc_is_text : FnScope N_is_text ["thing"] (defScope st_is_text) := ⟨rfl, rfl, rfl, by decide +kernel, rfl, by decide +kernel, by decide +kernel⟩
theorem ok_is_text (Dd : Df K mg "is_text" st_is_text ["thing"]) (B : Blt mg) (c_LONGEST_TEXT : Cst K mg "LONGEST_TEXT" d_LONGEST_TEXT) (G_is_written : Fn P w K mg base "is_written" ["thing", "least", "most"] 1 sp_is_written 0) : Fn P w K mg base "is_text" ["thing"] 2 sp_is_text 0 := by
  refine fnE 0 Dd sc_is_text (by intro ds Φ Ψ h; unfold sp_is_text at h; split at h <;> first | rfl | exact h.elim) ⟨_, _, fun f cdv A outer s H E hr =>
      (qs_one (qret (qcallF G_is_written (hr.mono (by decide)) (takes_of rfl rfl rfl rfl) (qa_cons (qv 0) (qa_cons qint (qa_cons c_LONGEST_TEXT.pe qa_nil)))))), by decide, ?_⟩
  intro ds Φ Ψ q
  unfold sp_is_text at q
  split at q
  · exact q
  · exact q.elim
theorem sd_nodup : ∀ (l σ : List Nat), l.Nodup → (∀ c ∈ l, c ∉ σ) → l.foldl sdAdd σ = σ ++ l
  | [], σ, _, _ => by simp
  | c :: l, σ, h, hs => by
    have hc : c ∉ σ := hs c (by simp)
    have hn := List.nodup_cons.mp h
    rw [List.foldl_cons, show sdAdd σ c = σ ++ [c] from if_neg hc, sd_nodup l _ hn.2 (fun d hd z => by
      rcases List.mem_append.mp z with q | q
      · exact hs d (by simp [hd]) q
      · rw [List.mem_singleton.mp q] at hd; exact hn.1 hd)]
    simp
theorem sd_self {l : List Nat} (h : l.Nodup) : sd l = l := by
  have := sd_nodup l [] h (by simp)
  simpa [sd] using this
theorem chr_ok {c : Nat} (h : c ∈ CH) : isWrittenD 1 1 (.str [c]) = true := by simp [isWrittenD, allCh, h]
theorem drop_ok {l : List Nat} (h1 : 1 ≤ l.length) (h2 : l.length ≤ 10) (h3 : ∀ c ∈ l, c ∈ CH) : isWrittenD 1 10 (.str l) = true := by
  simp [isWrittenD, allCh]; exact ⟨by omega, by omega, h3⟩
def dropD : D → Bool
  | .str l => decide ((sd l).length = l.length)
  | _ => false
def cutD : D → Bool
  | .int n => decide (1 ≤ n) && decide (n ≤ 9)
  | _ => false
def stepOne (w : List Nat) (a : D) : Bool :=
  if w = tl ("drop" : Str) then isWrittenD 1 10 a && dropD a
  else if w = tl ("lead" : Str) ∨ w = tl ("once" : Str) then isWrittenD 1 1 a
  else decide (w = tl ("cut" : Str)) && cutD a
def stepTwo (a b : D) : Bool := isWrittenD 1 1 a && isWrittenD 1 1 b
def stepRest (w : List Nat) (rest : List D) : Bool :=
  if w = tl ("lower" : Str) then rest.isEmpty
  else if w = tl ("swap" : Str) then (match rest with
    | [a, b] => stepTwo a b
    | _ => false)
  else match rest with
    | [a] => stepOne w a
    | _ => false
theorem sr_swap (rest : List D) : stepRest (tl ("swap" : Str)) rest = (match rest with
    | [a, b] => stepTwo a b
    | _ => false) := by unfold stepRest; rw [if_neg (by decide), if_pos rfl]
theorem sr_else {w : List Nat} (h1 : ¬ w = tl ("lower" : Str)) (h2 : ¬ w = tl ("swap" : Str)) (rest : List D) : stepRest w rest = (match rest with
    | [a] => stepOne w a
    | _ => false) := by unfold stepRest; rw [if_neg h1, if_neg h2]
theorem eqV_strs (l w : List Nat) : eqV (toV (.str l)) (toV (.str w)) = decide (l = w) := by
  show ((⟨l.toArray⟩ : Str) == ⟨w.toArray⟩) = _
  rw [← PySem.SeqAt.str_beq, Bool.eq_iff_iff]; simp
theorem inV_strs0 (w : List Nat) : ∀ ls : List (List Nat), inV (toV (.str w)) ((ls.map D.str).map toV) = decide (w ∈ ls)
  | [] => rfl
  | l :: ls => by
    have ih := inV_strs0 w ls
    unfold inV at ih ⊢
    rw [List.map_cons, List.map_cons, List.any_cons, ih, eqV_strs, Bool.eq_iff_iff, Bool.or_eq_true, decide_eq_true_eq, decide_eq_true_eq, decide_eq_true_eq, List.mem_cons]
    exact ⟨fun h => h.imp Eq.symm id, fun h => h.imp Eq.symm id⟩
theorem inV_strs (g : Bool → Bool) (w : List Nat) (ls : List (List Nat)) : g (inV (toV (.str w)) ((ls.map D.str).map toV)) = g (decide (w ∈ ls)) := by rw [inV_strs0]
def isStepD : D → Bool
  | .tup (.str w :: rest) => stepRest w rest
  | _ => false
/-- what is asked of a value that may be a step -/
def okV : D → Prop
  | .tup ds => (∀ d ∈ ds, okD d = true) ∧ ds.length ≤ 2000
  | d => okD d = true
def sp_is_step : Sp' := fun ds Φ _ => match ds with
  | [d] => okV d ∧ Φ (.bl (isStepD d))
  | _ => False
abbrev st_is_step : Stmt := top 11
abbrev N_is_step : List Str := ["thing", "word", "rest"]
theorem sc_is_step : FnScope N_is_step ["thing"] (defScope st_is_step) := ⟨rfl, rfl, rfl, by decide +kernel, rfl, by decide +kernel, by decide +kernel⟩
theorem ok_is_step (Dd : Df K mg "is_step" st_is_step ["thing"]) (B : Blt mg) (c_MOST_DROPPED : Cst K mg "MOST_DROPPED" d_MOST_DROPPED) (c_MOST_KEPT : Cst K mg "MOST_KEPT" d_MOST_KEPT) (G_is_character : Fn P w K mg base "is_character" ["thing"] 2 sp_is_character 0) (G_is_written : Fn P w K mg base "is_written" ["thing", "least", "most"] 1 sp_is_written 0) (G_is_whole : Fn P w K mg base "is_whole" ["thing"] 1 sp_is_whole 0) : Fn P w K mg base "is_step" ["thing"] 3 sp_is_step 0 := by
  refine fnE 0 Dd sc_is_step (by intro ds Φ Ψ h; unfold sp_is_step at h; split at h <;> first | rfl | exact h.elim) ⟨_, _, fun f cdv A outer s H E hr =>
      (qs_cons (qifS (PW.pt (qor (qnotT (qtru (qisi isi_tuple (.ty _) B.isinstance (qv 0) (pe_bltn rfl B.tuple (by decide +kernel) rfl)))) (qor (qtcmp (op_eqG hr.units) eqL (qcB call_lenA lenL B.len (by decide +kernel) (qa_cons (qv 0) qa_nil)) qint (nomark _)) (qor1 (qnotT (qtru (qisi isi_str (.ty _) B.isinstance (qix (qv 0) qint) (pe_bltn rfl B.str (by decide +kernel) rfl))))))))
      (qs_one (qret qbl))
      qs_nil)
      (qs_cons (qpar 1 2 (qix (qv 0) qint) (qsl (kind := none) (qv 0) (qo_some qint) qo_none) sc_is_step.nd)
      (qs_cons (qifS (qtcmp (op_eqG hr.units) eqL (qv 1) qstr (nomark _))
      (qs_one (qret (qcmp (op_eqG hr.units) eqL (qv 2) (qtup qa_nil) (nomark _))))
      qs_nil)
      (qs_cons (qifS (qtcmp (op_eqG hr.units) eqL (qv 1) qstr (nomark _))
      (qs_one (qret (qandV (qcmp (op_eqG hr.units) eqL (qcB call_lenA lenL B.len (by decide +kernel) (qa_cons (qv 2) qa_nil)) qint (nomark _)) (qandV (qcallF G_is_character (hr.mono (by decide)) (takes_of rfl rfl rfl rfl) (qa_cons (qix (qv 2) qint) qa_nil)) (qone (qcallF G_is_character (hr.mono (by decide)) (takes_of rfl rfl rfl rfl) (qa_cons (qix (qv 2) qint) qa_nil)))))))
      qs_nil)
      (qs_cons (qifS (qtcmp (op_neG hr.units) eqL (qcB call_lenA lenL B.len (by decide +kernel) (qa_cons (qv 2) qa_nil)) qint (nomark _))
      (qs_one (qret qbl))
      qs_nil)
      (qs_cons (qifS (qtcmp (op_eqG hr.units) eqL (qv 1) qstr (nomark _))
      (qs_one (qret (qandV (qcallF G_is_written (hr.mono (by decide)) (takes_of rfl rfl rfl rfl) (qa_cons (qix (qv 2) qint) (qa_cons qint (qa_cons c_MOST_DROPPED.pe qa_nil)))) (qone (qcmp (op_eqG hr.units) eqL (qlenset B.len B.set (qix (qv 2) qint)) (qcB call_lenA lenL B.len (by decide +kernel) (qa_cons (qix (qv 2) qint) qa_nil)) (nomark _))))))
      qs_nil)
      (qs_cons (qifS (qtcmp op_inG inL (qv 1) (qtup (qa_cons qstr (qa_cons qstr qa_nil))) rfl)
      (qs_one (qret (qcallF G_is_character (hr.mono (by decide)) (takes_of rfl rfl rfl rfl) (qa_cons (qix (qv 2) qint) qa_nil))))
      qs_nil)
      (qs_one (qret (qandV (qcmp (op_eqG hr.units) eqL (qv 1) qstr (nomark _)) (qandV (qcallF G_is_whole (hr.mono (by decide)) (takes_of rfl rfl rfl rfl) (qa_cons (qix (qv 2) qint) qa_nil)) (qone (qchain op_le op_le qint (qix (qv 2) qint) c_MOST_KEPT.pe))))))))))))), by decide, ?_⟩
  intro ds Φ Ψ q
  unfold sp_is_step at q
  split at q
  · rename_i d
    obtain ⟨h, q⟩ := q
    cases d <;> first | (exact (Bool.false_ne_true h).elim) | exact q | skip
    · rename_i ds
      obtain ⟨h, hl⟩ := h
      cases ds with
      | nil => walk_at "st"; exact q
      | cons d0 rest =>
        cases d0 <;> first | (exact (Bool.false_ne_true (h _ List.mem_cons_self)).elim) | skip
        case str w =>
          have e0 : isStepD (.tup (.str w :: rest)) = stepRest w rest := rfl
          rw [e0] at q
          have lr : rest.length ≤ 2000 := by simp at hl; omega
          have hr : ∀ d ∈ rest, okD d = true := fun d hd => h d (by simp [hd])
          have e1 : Pl.cut (D.str w :: rest) (some 1) none = rest := by rw [show (1 : Int) = ((1 : Nat) : Int) from rfl, cut_from]; rfl
          refine ⟨_, atI0, ?_⟩
          refine ⟨_, atI0, ?_⟩
          show if _ = true then _ else _
          rw [e1]
          refine iteB (fun e => ?_) (fun e2 => ?_)
          · have e' : w = tl ("lower" : Str) := of_decide_eq_true e
            subst e'
            exact ⟨rest.isEmpty, eqD_R (eqR_tupE 1 rest), q⟩
          have e2' : ¬ w = tl ("lower" : Str) := of_decide_eq_false e2
          refine iteB (fun e => ?_) (fun e3 => ?_)
          · have e' : w = tl ("swap" : Str) := of_decide_eq_true e
            subst e'
            rw [sr_swap] at q
            rcases rest with _ | ⟨a, _ | ⟨b, _ | ⟨c, rest⟩⟩⟩
            · exact q
            · exact q
            · have q' : Φ (.bl (isWrittenD 1 1 a && isWrittenD 1 1 b)) := q
              refine ⟨_, rfl, hr a (by simp), ?_⟩
              refine iteB (fun e => ?_) (fun e => ?_)
              · rw [e, Bool.true_and] at q'
                exact ⟨_, rfl, hr b (by simp), q'⟩
              · rw [e, Bool.false_and] at q'; exact q'
            · exact q
          have e3' : ¬ w = tl ("swap" : Str) := of_decide_eq_false e3
          rw [sr_else e2' e3'] at q
          rcases rest with _ | ⟨a, _ | ⟨b, rest⟩⟩
          · exact q
          · replace q : Φ (.bl (stepOne w a)) := q
            unfold stepOne at q
            have ha := hr a (by simp)
            refine iteB (fun e => ?_) (fun e4 => ?_)
            · rw [if_pos (of_decide_eq_true e)] at q
              refine ⟨_, rfl, ha, ?_⟩
              refine iteB (fun e5 => ?_) (fun e5 => ?_)
              · rw [e5, Bool.true_and] at q
                cases a <;> first | (exact (Bool.false_ne_true e5).elim) | skip
                rename_i l
                have e5' : (decide ((1 : Int) ≤ l.length) && (decide ((l.length : Int) ≤ 10) && allCh l)) = true := e5
                simp only [Bool.and_eq_true, decide_eq_true_eq] at e5'
                refine ⟨_, rfl, ⟨by omega, ?_⟩⟩
                refine ⟨_, rfl, ⟨len_ok (by omega), ?_⟩⟩
                have e6 : decide (((sd l).length : Int) = (l.length : Int)) = decide ((sd l).length = l.length) := by rw [Bool.eq_iff_iff, decide_eq_true_eq, decide_eq_true_eq]; omega
                replace q : Φ (.bl (decide ((sd l).length = l.length))) := q
                rw [← e6] at q
                exact q
              · rw [e5, Bool.false_and] at q; exact q
            · rw [if_neg (of_decide_eq_false e4)] at q
              refine ⟨⟨rfl, rfl⟩, ?_⟩
              refine iteB (fun e => ?_) (fun e => ?_)
              · have e := (inV_strs (fun b => b) w [tl ("lead" : Str), tl ("once" : Str)]).symm.trans e
                rw [if_pos (by simpa using e)] at q
                exact ⟨_, rfl, ha, q⟩
              · have e := (inV_strs (fun b => b) w [tl ("lead" : Str), tl ("once" : Str)]).symm.trans e
                rw [if_neg (by simpa using e)] at q
                refine iteB (fun e => ?_) (fun e => ?_)
                · have e : decide (w = tl ("cut" : Str)) = true := e
                  rw [e, Bool.true_and] at q
                  refine ⟨_, rfl, ha, ?_⟩
                  refine iteB (fun e => ?_) (fun e => ?_)
                  · cases a <;> first | (exact (Bool.false_ne_true e).elim) | skip
                    rename_i n
                    replace q : Φ (.bl (decide (1 ≤ n) && decide (n ≤ 9))) := q
                    refine ⟨_, rfl, ?_⟩
                    refine iteB (fun e => ?_) (fun e => ?_)
                    · replace e : decide (1 ≤ n) = true := e
                      rw [e, Bool.true_and] at q; exact q
                    · replace e : decide (1 ≤ n) = false := e
                      rw [e, Bool.false_and] at q; exact q
                  · cases a <;> first | exact q | (exact (Bool.false_ne_true e.symm).elim)
                · have e : decide (w = tl ("cut" : Str)) = false := e
                  rw [e, Bool.false_and] at q
                  exact q
          · exact q
        all_goals (refine ⟨_, atI0, ?_⟩; exact q)
  · exact q.elim
def rstep (s : Stp) (st c : Nat) : Nat × List Nat := match s with
  | .lower => (st, [low c])
  | .swap a b => (st, [if c = a then b else c])
  | .drop l => (st, if c ∈ l then [] else [c])
  | .lead a => if st = 0 ∧ c = a then (0, []) else (1, [c])
  | .once a => if c ≠ a then (0, [c]) else (1, if st = 0 then [c] else [])
  | .cut n => if st < n then (st + 1, [c]) else (st, [])
def sp_read_step : Sp' := fun ds Φ _ => match ds with
  | [d, .int st, .str [c]] => ∃ (s : Stp) (n : Nat), d = s.toD ∧ st = (n : Int) ∧ c < 128 ∧ Φ (.tup [.int ((rstep s n c).1 : Nat), .str (rstep s n c).2])
  | _ => False
abbrev st_read_step : Stmt := top 13
abbrev N_read_step : List Str := ["step", "state", "character", "word"]
theorem sc_read_step : FnScope N_read_step ["step", "state", "character"] (defScope st_read_step) := ⟨rfl, rfl, rfl, by decide +kernel, rfl, by decide +kernel, by decide +kernel⟩
theorem ok_read_step (Dd : DfA K mg "read_step_readers" "read_step" st_read_step ["step", "state", "character"]) (B : Blt mg) : Fn P w K mg base "read_step_readers" ["step", "state", "character"] 1 sp_read_step 0 := by
  refine fnEA 0 Dd sc_read_step (by intro ds Φ Ψ h; unfold sp_read_step at h; split at h <;> first | rfl | exact h.elim) ⟨_, _, fun f cdv A outer s H E hr =>
      (qs_cons (qset 3 (qix (qv 0) qint) sc_read_step.nd)
      (qs_cons (qifS (qtcmp (op_eqG hr.units) eqL (qv 3) qstr (nomark _))
      (qs_one (qret (qtup (qa_cons (qv 1) (qa_cons (qms0 PySem.F.slot_str_lower PySem.F.type_str_lower mt_lower lowerM (qv 2)) qa_nil)))))
      qs_nil)
      (qs_cons (qifS (qtcmp (op_eqG hr.units) eqL (qv 3) qstr (nomark _))
      (qs_one (qret (qtup (qa_cons (qv 1) (qa_cons (qif (qtcmp (op_eqG hr.units) eqL (qv 2) (qix (qv 0) qint) (nomark _)) (qix (qv 0) qint) (qv 2)) qa_nil)))))
      qs_nil)
      (qs_cons (qifS (qtcmp (op_eqG hr.units) eqL (qv 3) qstr (nomark _))
      (qs_one (qret (qtup (qa_cons (qv 1) (qa_cons (qif (qtcmp op_inG inL (qv 2) (qix (qv 0) qint) rfl) qstr (qv 2)) qa_nil)))))
      qs_nil)
      (qs_cons (qifS (qtcmp (op_eqG hr.units) eqL (qv 3) qstr (nomark _))
      (qs_one (qret (qif (PW.pt (qand (qtcmp (op_eqG hr.units) eqL (qv 1) qint (nomark _)) (qand1 (qtcmp (op_eqG hr.units) eqL (qv 2) (qix (qv 0) qint) (nomark _))))) (qtup (qa_cons qint (qa_cons qstr qa_nil))) (qtup (qa_cons qint (qa_cons (qv 2) qa_nil))))))
      qs_nil)
      (qs_cons (qifS (qtcmp (op_eqG hr.units) eqL (qv 3) qstr (nomark _))
      (qs_cons (qifS (qtcmp (op_neG hr.units) eqL (qv 2) (qix (qv 0) qint) (nomark _))
      (qs_one (qret (qtup (qa_cons qint (qa_cons (qv 2) qa_nil)))))
      qs_nil)
      (qs_one (qret (qtup (qa_cons qint (qa_cons (qif (qtcmp (op_eqG hr.units) eqL (qv 1) qint (nomark _)) (qv 2) qstr) qa_nil))))))
      qs_nil)
      (qs_one (qret (qif (qtcmp op_lt ordL (qv 1) (qix (qv 0) qint) (nomark _)) (qtup (qa_cons (qadd (kind := none) (qv 1) qint) (qa_cons (qv 2) qa_nil))) (qtup (qa_cons (qv 1) (qa_cons qstr qa_nil)))))))))))), by decide, ?_⟩
  intro ds Φ Ψ q
  unfold sp_read_step at q
  split at q
  · rename_i d st c
    obtain ⟨s, n, rfl, rfl, hc, q⟩ := q
    cases s with
    | lower =>
      walk_at "st"
      exact ⟨⟨by intro d hd; rw [List.mem_singleton.mp hd]; exact hc, by simp⟩, q⟩
    | swap a b =>
      walk_at "st"
      refine ite2 (fun e => ?_) (fun e => ?_)
      · have e1 : c = a := by simpa using e
        walk_at "st"
        simp only [rstep, if_pos e1] at q
        exact q
      · have e1 : ¬ c = a := by simpa using e
        simp only [rstep, if_neg e1] at q
        exact q
    | drop l =>
      walk_at "st"
      refine ite2 (fun e => ?_) (fun e => ?_)
      · have e1 : c ∈ l := by simpa using e
        simp only [rstep, if_pos e1] at q
        exact q
      · have e1 : ¬ c ∈ l := by simpa using e
        simp only [rstep, if_neg e1] at q
        exact q
    | lead a =>
      walk_at "st"
      refine ite2 (fun e => ?_) (fun e => ?_)
      · have e1 : n = 0 := by have := of_decide_eq_true e; omega
        walk_at "st"
        refine ite2 (fun e2 => ?_) (fun e2 => ?_)
        · have e3 : c = a := by simpa using e2
          simp only [rstep, if_pos (And.intro e1 e3)] at q
          exact q
        · have e3 : ¬ c = a := by simpa using e2
          simp only [rstep, if_neg (fun z : n = 0 ∧ c = a => e3 z.2)] at q
          exact q
      · have e1 : ¬ n = 0 := by intro z; exact e (decide_eq_true (by omega))
        simp only [rstep, if_neg (fun z : n = 0 ∧ c = a => e1 z.1)] at q
        exact q
    | once a =>
      walk_at "st"
      refine ite2 (fun e => ?_) (fun e => ?_)
      · have e1 : c ≠ a := by simpa using e
        simp only [rstep, if_pos e1] at q
        exact q
      · have e1 : ¬ c ≠ a := by simpa using e
        simp only [rstep, if_neg e1] at q
        refine ite2 (fun e2 => ?_) (fun e2 => ?_)
        · have e3 : n = 0 := by have := of_decide_eq_true e2; omega
          simp only [if_pos e3] at q
          exact q
        · have e3 : ¬ n = 0 := by intro z; exact e2 (decide_eq_true (by omega))
          simp only [if_neg e3] at q
          exact q
    | cut m =>
      walk_at "st"
      refine ite2 (fun e => ?_) (fun e => ?_)
      · have e1 : n < m := by have := of_decide_eq_true e; omega
        simp only [rstep, if_pos e1] at q
        exact q
      · have e1 : ¬ n < m := by intro z; exact e (decide_eq_true (by omega))
        simp only [rstep, if_neg e1] at q
        exact q
  · exact q.elim
/-- one sign through the steps -/
def rread : List Stp → List Nat → List Nat → List Nat × List Nat
  | s :: ss, n :: ns, c => match c with
    | [x] => let r := rstep s n x; let t := rread ss ns r.2; (r.1 :: t.1, t.2)
    | _ => let t := rread ss ns c; (n :: t.1, t.2)
  | _, _, c => ([], c)
def natsD (ns : List Nat) : D := .tup (ns.map fun n => .int (n : Nat))
def small (c : List Nat) : Prop := c = [] ∨ ∃ x, c = [x] ∧ x < 128
def sp_beginning : Sp' := fun ds Φ _ => match ds with
  | [d] => ∃ ss : List Stp, d = rowD ss ∧ ss.length ≤ 2000 ∧ Φ (natsD (List.replicate ss.length 0))
  | _ => False
abbrev st_beginning : Stmt := top 15
abbrev N_beginning : List Str := ["steps", "step"]
theorem sc_beginning : FnScope N_beginning ["steps"] (defScope st_beginning) := ⟨rfl, rfl, rfl, by decide +kernel, rfl, by decide +kernel, by decide +kernel⟩
theorem ok_beginning (Dd : Df K mg "beginning" st_beginning ["steps"]) (B : Blt mg) : Fn P w K mg base "beginning" ["steps"] 1 sp_beginning 0 := by
  refine fnE 0 Dd sc_beginning (by intro ds Φ Ψ h; unfold sp_beginning at h; split at h <;> first | rfl | exact h.elim) ⟨_, _, fun f cdv A outer s H E hr =>
      (qs_one (qret (qcT call_tuple_of tupleL B.tuple (by decide +kernel) (qa_cons (qlc (kind := none) 0 rfl sc_beginning.nd (qi_seq (qv 0)) (blkOk_by (own := [("step", 1)]) (N := N_beginning) (sc := defScope st_beginning) (by decide +kernel)) (tgt_name (by decide)) (fun _ _ _ _ _ => (pg_name (i := 1) sc_beginning.nd rfl (Or.inl rfl))) (fun _ _ _ _ _ => qts_nil) (fun _ _ _ _ _ => qint)) qa_nil)))), by decide, ?_⟩
  intro ds Φ Ψ q
  unfold sp_beginning at q
  split at q
  · obtain ⟨ss, rfl, hl, q⟩ := q
    refine ⟨⟨by simp, by simp; omega⟩, ?_⟩
    refine compD_mapA Stp.toD (fun _ => .int 0) ss [] (fun c hc rest acc q => q) ?_
    have e : ([] : List D) ++ ss.map (fun _ => D.int 0) = (List.replicate ss.length 0).map fun n => .int (n : Nat) := by
      rw [List.nil_append, List.map_replicate]
      exact List.map_const' .. 
    rw [e]
    exact q
  · exact q.elim
theorem low_lt {c : Nat} (h : c < 128) : low c < 128 := by unfold low; split <;> omega
theorem rstep_small {s : Stp} (h : s.ok) {n c : Nat} (hc : c < 128) : small (rstep s n c).2 := by
  cases s <;> simp only [rstep]
  · exact .inr ⟨_, rfl, low_lt hc⟩
  · refine .inr ⟨_, rfl, ?_⟩
    split
    · exact ch_asc _ h.2
    · exact hc
  · split
    · exact .inl rfl
    · exact .inr ⟨_, rfl, hc⟩
  · split
    · exact .inl rfl
    · exact .inr ⟨_, rfl, hc⟩
  · split
    · exact .inr ⟨_, rfl, hc⟩
    · simp only
      split
      · exact .inr ⟨_, rfl, hc⟩
      · exact .inl rfl
  · split
    · exact .inr ⟨_, rfl, hc⟩
    · exact .inl rfl
theorem rread_nil (s : Stp) (ss : List Stp) (n : Nat) (ns : List Nat) : rread (s :: ss) (n :: ns) [] = (n :: (rread ss ns []).1, (rread ss ns []).2) := rfl
theorem rread_one (s : Stp) (ss : List Stp) (n : Nat) (ns : List Nat) (x : Nat) : rread (s :: ss) (n :: ns) [x] = ((rstep s n x).1 :: (rread ss ns (rstep s n x).2).1, (rread ss ns (rstep s n x).2).2) := rfl
def okRow (ss : List Stp) : Prop := ∀ s ∈ ss, s.ok
def sp_read : Sp' := fun ds Φ _ => match ds with
  | [d, e, .str c] => ∃ (ss : List Stp) (ns : List Nat), d = rowD ss ∧ e = natsD ns ∧ ss.length = ns.length ∧ ss.length ≤ 2000 ∧ okRow ss ∧ small c ∧ Φ (.tup [natsD (rread ss ns c).1, .str (rread ss ns c).2])
  | _ => False
abbrev st_read : Stmt := top 16
abbrev N_read : List Str := ["steps", "states", "character", "found", "state", "step", "later", "out"]
theorem sc_read : FnScope N_read ["steps", "states", "character"] (defScope st_read) := ⟨rfl, rfl, rfl, by decide +kernel, rfl, by decide +kernel, by decide +kernel⟩
theorem ok_read (Dd : Df K mg "read" st_read ["steps", "states", "character"]) (B : Blt mg) (G_read_step : Fn P w K mg base "read_step_readers" ["step", "state", "character"] 1 sp_read_step 0) : Fn P w K mg base "read" ["steps", "states", "character"] 2 sp_read 0 := by
  refine fnE 0 Dd sc_read (by intro ds Φ Ψ h; unfold sp_read at h; split at h <;> first | rfl | exact h.elim) ⟨_, _, fun f cdv A outer s H E hr =>
      (qs_cons (qset 3 (qlst (kind := (some 0)) qa_nil) sc_read.nd)
      (qs_cons (qforC 0 (qi_zip B.zip (qa_cons (qv 1) (qa_cons (qv 0) qa_nil))) (qg_tup 2 rfl (qgs_cons (qg_name 4 sc_read.nd) (qgs_cons (qg_name 5 sc_read.nd) qgs_nil)))
      (qs_cons (qasg (qif (qtcmp (op_eqG hr.units) eqL (qv 2) qstr (nomark _)) (qtup (qa_cons (qv 4) (qa_cons qstr qa_nil))) (qcallF G_read_step (hr.mono (by decide)) (takes_of rfl rfl rfl rfl) (qa_cons (qv 5) (qa_cons (qv 4) (qa_cons (qv 2) qa_nil))))) (qg_tup 2 rfl (qgs_cons (qg_name 6 sc_read.nd) (qgs_cons (qg_name 7 sc_read.nd) qgs_nil))))
      (qs_cons (qexpr (qapp (qv 3) (qv 6)))
      (qs_one (qset 2 (qv 7) sc_read.nd)))) (passes_of rfl) rfl)
      (qs_one (qret (qtup (qa_cons (qcT call_tuple_of tupleL B.tuple (by decide +kernel) (qa_cons (qv 3) qa_nil)) (qa_cons (qv 2) qa_nil))))))), by decide, ?_⟩
  intro ds Φ Ψ q
  unfold sp_read at q
  split at q
  · rename_i c
    obtain ⟨ss, ns, rfl, rfl, hl, hb, hok, hs, q⟩ := q
    refine ⟨by simp, ?_⟩
    refine forD_inv (fun rest env S => ∃ (ss1 : List Stp) (ns1 : List Nat) (c1 : List Nat) (done : List Nat) (e4 e5 e6 e7 : Option U), rest = zipD (ns1.map fun n => .int (n : Nat)) (ss1.map Stp.toD) ∧ ss1.length = ns1.length ∧ okRow ss1 ∧ small c1 ∧ done.length + ss1.length ≤ 2000 ∧
      env = [some (.d (rowD ss)), some (.d (natsD ns)), some (.d (.str c1)), some (.r 0), e4, e5, e6, e7] ∧ S = [some (.lst (done.map fun n => .int (n : Nat)))] ∧ done ++ (rread ss1 ns1 c1).1 = (rread ss ns c).1 ∧ (rread ss1 ns1 c1).2 = (rread ss ns c).2) ?_ _ _ _
      ⟨ss, ns, c, [], _, _, _, _, rfl, hl, hok, hs, by simpa using hb, rfl, rfl, rfl, rfl⟩ ?_
    · rintro env S ⟨ss1, ns1, c1, done, e4, e5, e6, e7, hr, h1, h2, h3, h4, rfl, rfl, h5, h6⟩
      have e : ss1 = [] := by
        cases ss1 with
        | nil => rfl
        | cons s ss1 => cases ns1 with
          | nil => simp at h1
          | cons n ns1 => simp [zipD] at hr
      subst e
      have e1 : rread [] ns1 c1 = ([], c1) := by cases ns1 <;> rfl
      rw [e1] at h5 h6
      have h5' : done = (rread ss ns c).1 := by simpa using h5
      subst h5'
      have h6' : c1 = (rread ss ns c).2 := h6
      subst h6'
      exact q
    · rintro d rest env S ⟨ss1, ns1, c1, done, e4, e5, e6, e7, hr, h1, h2, h3, h4, rfl, rfl, h5, h6⟩ k
      cases ss1 with
      | nil => simp [zipD] at hr
      | cons s ss1 =>
        cases ns1 with
        | nil => simp at h1
        | cons n ns1 =>
          have hr' : d = .tup [.int (n : Nat), s.toD] ∧ rest = zipD (ns1.map fun n => .int (n : Nat)) (ss1.map Stp.toD) := by simpa [zipD] using hr
          obtain ⟨rfl, rfl⟩ := hr'
          have hs0 : s.ok := h2 s (by simp)
          have ok1 : okRow ss1 := fun z hz => h2 z (by simp [hz])
          have l1 : ss1.length = ns1.length := by simpa using h1
          have l2 : done.length + 1 + ss1.length ≤ 2000 := by simp at h4; omega
          rcases h3 with rfl | ⟨x, rfl, hx⟩
          · rw [rread_nil] at h5 h6
            refine ⟨len_ok (by simp; omega), ?_⟩
            exact k _ _ ⟨ss1, ns1, [], done ++ [n], _, _, _, _, rfl, l1, ok1, .inl rfl, by simpa using l2, rfl, by simp, by simpa using h5, h6⟩
          · rw [rread_one] at h5 h6
            refine ⟨s, n, rfl, rfl, hx, ?_⟩
            refine ⟨len_ok (by simp; omega), ?_⟩
            exact k _ _ ⟨ss1, ns1, _, done ++ [(rstep s n x).1], _, _, _, _, rfl, l1, ok1, rstep_small hs0 hx, by simpa using l2, rfl, by simp, by simpa using h5, h6⟩
  · exact q.elim
end
structure TC_Folding (K : PySem.W.Frag) (A : Addr) : Prop where
  cl : Cls K A
  no_row : NoAttr K A "row"
  sf : PySem.W.selfFirst K A = true
abbrev ns_Folding : List Str := ["row"]
theorem fk_Folding_row {K : PySem.W.Frag} {A : Addr} (T : TC_Folding K A) : Fld K A ns_Folding "row" 0 := fld_mk T.cl T.no_row ⟨rfl, by decide +kernel⟩
theorem zno_Folding___init__ {α : Type} (ds : List α) : (ns_Folding.zip ds).lookup ("__init__" : Str) = none := zno ds (by decide +kernel)
theorem zno_Folding___call__ {α : Type} (ds : List α) : (ns_Folding.zip ds).lookup ("__call__" : Str) = none := zno ds (by decide +kernel)
theorem zno_Folding___getitem__ {α : Type} (ds : List α) : (ns_Folding.zip ds).lookup ("__getitem__" : Str) = none := zno ds (by decide +kernel)
theorem zno_Folding___iter__ {α : Type} (ds : List α) : (ns_Folding.zip ds).lookup ("__iter__" : Str) = none := zno ds (by decide +kernel)
theorem zno_Folding___contains__ {α : Type} (ds : List α) : (ns_Folding.zip ds).lookup ("__contains__" : Str) = none := zno ds (by decide +kernel)
theorem zno_Folding___len__ {α : Type} (ds : List α) : (ns_Folding.zip ds).lookup ("__len__" : Str) = none := zno ds (by decide +kernel)
theorem zno_Folding___eq__ {α : Type} (ds : List α) : (ns_Folding.zip ds).lookup ("__eq__" : Str) = none := zno ds (by decide +kernel)
theorem zno_Folding___add__ {α : Type} (ds : List α) : (ns_Folding.zip ds).lookup ("__add__" : Str) = none := zno ds (by decide +kernel)
theorem zno_Folding_has {α : Type} (ds : List α) : (ns_Folding.zip ds).lookup ("has" : Str) = none := zno ds (by decide +kernel)
theorem zno_Folding_steps {α : Type} (ds : List α) : (ns_Folding.zip ds).lookup ("steps" : Str) = none := zno ds (by decide +kernel)
theorem zno_Folding_without {α : Type} (ds : List α) : (ns_Folding.zip ds).lookup ("without" : Str) = none := zno ds (by decide +kernel)
section
variable {P : Program} {w : World} {K : PySem.W.Frag} {mg : Str → Option Value} {base : Heap} {A_PlainError : Addr} {A_NoText : Addr} {A_NoStep : Addr} {A_NoPart : Addr} {A_Folding : Addr}
def foldO (A : Addr) (ss : List Stp) : D := .obj A ns_Folding [rowD ss]
/-- the first that is no step, or stands behind six -/
def wrongAt : List D → Nat → Option Nat
  | [], _ => none
  | d :: ds, i => if 6 ≤ i ∨ isStepD d = false then some i else wrongAt ds (i + 1)
def noStep (A : Addr) (i : Nat) : Ex := ⟨A, some ("index", .int (i : Nat))⟩
def okF : D → Prop
  | .tup es => (∀ e ∈ es, okV e) ∧ es.length ≤ 2000
  | d => okD d = true
/-- the first wrong one of what is no tuple is 0 -/
def verd : D → Option Nat
  | .tup es => wrongAt es 0
  | _ => some 0
def sp_Folding___init__ (A_Folding A_NoStep : Addr) : Sp' := fun ds Φ Ψ => match ds with
  | [d] => okF d ∧ (match verd d with
    | some i => Ψ (noStep A_NoStep i)
    | none => Φ (.obj A_Folding ns_Folding [d]))
  | _ => False
abbrev st_Folding___init__ : Stmt := inClass (top 24) 0
abbrev N_Folding___init__ : List Str := ["self", "steps", "index", "step"]
theorem sc_Folding___init__ : FnScope N_Folding___init__ ["self", "steps"] (defScope st_Folding___init__) := ⟨rfl, rfl, rfl, by decide +kernel, rfl, by decide +kernel, by decide +kernel⟩
theorem ok_Folding___init__ (Dd : IDf K mg A_Folding "Folding" "Folding.__init__" st_Folding___init__ ["self", "steps"] true) (B : Blt mg) (T_Folding : TC_Folding K A_Folding) (c_MOST_STEPS : Cst K mg "MOST_STEPS" d_MOST_STEPS) (X_NoStep : XC1 P w K mg base "NoStep" A_NoStep "index" 1) (G_is_step : Fn P w K mg base "is_step" ["thing"] 3 sp_is_step 0) : IFn P w K mg base A_Folding "Folding" ["self", "steps"] true 4 (sp_Folding___init__ A_Folding A_NoStep) 0 := by
  refine initE 0 Dd sc_Folding___init__ (by intro ds Φ Ψ h; unfold sp_Folding___init__ at h; split at h <;> first | rfl | exact h.elim) ⟨_, _, fun f cdv A outer s H E hr =>
      (qs_cons (qifS (qnotT (qtru (qisi isi_tuple (.ty _) B.isinstance (qv 1) (pe_bltn rfl B.tuple (by decide +kernel) rfl))))
      (qs_one (qraise1 X_NoStep (hr.mono (by decide)) (takes_of rfl rfl rfl rfl) qint))
      qs_nil)
      (qs_cons (qforC 0 (qi_enumT B.enumerate (qa_cons (qv 1) qa_nil)) (qg_tup 2 rfl (qgs_cons (qg_name 2 sc_Folding___init__.nd) (qgs_cons (qg_name 3 sc_Folding___init__.nd) qgs_nil)))
      (qs_one (qifS (PW.pt (qor (qtcmp op_ge ordL (qv 2) c_MOST_STEPS.pe (nomark _)) (qor1 (qnotT (qtru (qcallF G_is_step (hr.mono (by decide)) (takes_of rfl rfl rfl rfl) (qa_cons (qv 3) qa_nil)))))))
      (qs_one (qraise1 X_NoStep (hr.mono (by decide)) (takes_of rfl rfl rfl rfl) (qv 2)))
      qs_nil)) (passes_of rfl) rfl)
      (qs_one (qnewf T_Folding.cl T_Folding.no_row (qv 1) (qv 0))))), by decide, ?_⟩
  intro ds Φ Ψ q
  unfold sp_Folding___init__ at q
  split at q
  · rename_i d
    obtain ⟨h, q⟩ := q
    cases d <;> first | (exact (Bool.false_ne_true h).elim) | exact ⟨q, rfl⟩ | skip
    rename_i es
    obtain ⟨h, hl⟩ := h
    replace q : (match wrongAt es 0 with
      | some i => Ψ (noStep A_NoStep i)
      | none => Φ (.obj A_Folding ns_Folding [.tup es])) := q
    refine ⟨by simp, ?_⟩
    refine forD_inv (fun rest env S => ∃ (i : Nat) (es1 : List D) (e2 e3 : Option U), rest = enumD es1 i ∧ wrongAt es1 i = wrongAt es 0 ∧ (∀ e ∈ es1, okV e) ∧ env = [some (.r 0), some (.d (.tup es)), e2, e3] ∧ S = [some (.ins A_Folding [] [])]) ?_ _ _ _
      ⟨0, es, _, _, rfl, rfl, h, rfl, rfl⟩ ?_
    · rintro env S ⟨i, es1, e2, e3, hr, h1, h2, rfl, rfl⟩
      cases es1 with
      | cons e es1 => simp [enumD] at hr
      | nil =>
        rw [show wrongAt [] i = none from rfl] at h1
        rw [← h1] at q
        exact ⟨⟨rfl, rfl, rfl, by decide⟩, rfl, q⟩
    · rintro d rest env S ⟨i, es1, e2, e3, hr, h1, h2, rfl, rfl⟩ k
      cases es1 with
      | nil => simp [enumD] at hr
      | cons e es1 =>
        have hr' : d = .tup [.int (i : Nat), e] ∧ rest = enumD es1 (i + 1) := by simpa [enumD] using hr
        obtain ⟨rfl, rfl⟩ := hr'
        have out : (6 ≤ i ∨ isStepD e = false) → Ψ (noStep A_NoStep i) := fun z => by
          rw [wrongAt, if_pos z] at h1
          rw [← h1] at q
          exact q
        refine iteB (fun z => ?_) (fun z => ?_)
        · have z : decide ((i : Int) ≥ 6) = true := z
          exact ⟨out (.inl (by have := of_decide_eq_true z; omega)), rfl⟩
        · have z : decide ((i : Int) ≥ 6) = false := z
          refine ⟨h2 e (by simp), ?_⟩
          refine iteB (fun z2 => ?_) (fun z2 => ?_)
          · exact ⟨out (.inr (by simpa using z2)), rfl⟩
          · have nz : ¬ (6 ≤ i ∨ isStepD e = false) := by
              have := of_decide_eq_false z
              rintro (y | y)
              · omega
              · rw [y] at z2; cases z2
            rw [wrongAt, if_neg nz] at h1
            exact k _ _ ⟨i + 1, es1, _, _, rfl, h1, fun x hx => h2 x (by simp [hx]), rfl, rfl⟩
  · exact q.elim
def sp_Folding_steps (A_Folding : Addr) : Sp' := fun ds Φ _ => match ds with
  | [.obj C ns [d]] => (C = A_Folding ∧ ns = ns_Folding) ∧ Φ d
  | _ => False
abbrev st_Folding_steps : Stmt := inClass (top 24) 9
abbrev N_Folding_steps : List Str := ["self"]
theorem sc_Folding_steps : FnScope N_Folding_steps ["self"] (defScope st_Folding_steps) := ⟨rfl, rfl, rfl, by decide +kernel, rfl, by decide +kernel, by decide +kernel⟩
theorem ok_Folding_steps (Dd : MDf K A_Folding "steps" "Folding.steps" st_Folding_steps ["self"]) (B : Blt mg) (T_Folding : TC_Folding K A_Folding) : MFn P w K mg base A_Folding "steps" ["self"] 1 (sp_Folding_steps A_Folding) 0 := by
  refine mfnE 0 Dd sc_Folding_steps (by intro ds Φ Ψ h; unfold sp_Folding_steps at h; split at h <;> first | rfl | exact h.elim) ⟨_, _, fun f cdv A outer s H E hr =>
      (qs_one (qret (qfld (fk_Folding_row T_Folding) (qv 0)))), by decide, ?_⟩
  intro ds Φ Ψ q
  unfold sp_Folding_steps at q
  split at q
  · obtain ⟨⟨rfl, rfl⟩, q⟩ := q
    exact ⟨⟨rfl, rfl⟩, _, rfl, q⟩
  · exact q.elim
def sp_Folding___len__ (A_Folding : Addr) : Sp' := fun ds Φ _ => match ds with
  | [.obj C ns [.tup es]] => (C = A_Folding ∧ ns = ns_Folding) ∧ Φ (.int es.length)
  | _ => False
abbrev st_Folding___len__ : Stmt := inClass (top 24) 5
abbrev N_Folding___len__ : List Str := ["self"]
theorem sc_Folding___len__ : FnScope N_Folding___len__ ["self"] (defScope st_Folding___len__) := ⟨rfl, rfl, rfl, by decide +kernel, rfl, by decide +kernel, by decide +kernel⟩
theorem ok_Folding___len__ (Dd : MDf K A_Folding "__len__" "Folding.__len__" st_Folding___len__ ["self"]) (B : Blt mg) (T_Folding : TC_Folding K A_Folding) : MFn P w K mg base A_Folding "__len__" ["self"] 1 (sp_Folding___len__ A_Folding) 0 := by
  refine mfnE 0 Dd sc_Folding___len__ (by intro ds Φ Ψ h; unfold sp_Folding___len__ at h; split at h <;> first | rfl | exact h.elim) ⟨_, _, fun f cdv A outer s H E hr =>
      (qs_one (qret (qcB call_lenA lenL B.len (by decide +kernel) (qa_cons (qfld (fk_Folding_row T_Folding) (qv 0)) qa_nil)))), by decide, ?_⟩
  intro ds Φ Ψ q
  unfold sp_Folding___len__ at q
  split at q
  · obtain ⟨⟨rfl, rfl⟩, q⟩ := q
    exact ⟨⟨rfl, rfl⟩, _, rfl, q⟩
  · exact q.elim
def okText (l : List Nat) : Prop := l.length ≤ 60 ∧ ∀ c ∈ l, c ∈ CH
theorem text_ok {l : List Nat} (h : okText l) : isWrittenD 0 60 (.str l) = true := by
  have h1 := h.1
  simp [isWrittenD, allCh]
  exact ⟨by omega, h.2⟩
end
section
variable {P : Program} {w : World} {K : PySem.W.Frag} {mg : Str → Option Value} {base : Heap} {A_PlainError : Addr} {A_NoText : Addr} {A_NoStep : Addr} {A_NoPart : Addr} {A_Folding : Addr}
abbrev d_PLAIN : D := .str (tl (Str.ofString "plain"))
abbrev d_BETWEEN : D := .str (tl (Str.ofString "; "))
/-- what a step's entries are written as -/
def Stp.strs : Stp → List (List Nat)
  | .lower => [tl ("lower" : Str)]
  | .swap a b => [tl ("swap" : Str), [a], [b]]
  | .drop l => [tl ("drop" : Str), l]
  | .lead c => [tl ("lead" : Str), [c]]
  | .once c => [tl ("once" : Str), [c]]
  | .cut n => [tl ("cut" : Str), strI (n : Nat)]
def stepTxt (s : Stp) : List Nat := joinL (tl (Str.ofString " ")) (s.strs.map (repL (Str.ofString " ") (Str.ofString "~")))
theorem strI_len {n : Nat} (h1 : 1 ≤ n) (h2 : n ≤ 9) : (strI (n : Nat)).length = 1 := by
  have : n = 1 ∨ n = 2 ∨ n = 3 ∨ n = 4 ∨ n = 5 ∨ n = 6 ∨ n = 7 ∨ n = 8 ∨ n = 9 := by omega
  rcases this with rfl | rfl | rfl | rfl | rfl | rfl | rfl | rfl | rfl <;> decide +kernel
theorem strI_log {n : Nat} (h2 : n ≤ 9) : (n : Int).natAbs.log2 < 1920 := by
  have : n = 0 ∨ n = 1 ∨ n = 2 ∨ n = 3 ∨ n = 4 ∨ n = 5 ∨ n = 6 ∨ n = 7 ∨ n = 8 ∨ n = 9 := by omega
  rcases this with rfl | rfl | rfl | rfl | rfl | rfl | rfl | rfl | rfl | rfl <;> decide +kernel
theorem rep_le {l : List Nat} {n : Nat} (h : l.length ≤ n) : (repL (Str.ofString " ") (Str.ofString "~") l).length ≤ 2 * n + 1 := by
  have := repL_len (Str.ofString " ") (Str.ofString "~") l
  rw [show (Str.ofString "~").length = 1 from rfl] at this
  omega
theorem rep_ok {l : List Nat} (h : l.length ≤ 20) : l.length + (l.length + 1) * (Str.ofString "~").length ≤ 1000000 := by
  rw [show (Str.ofString "~").length = 1 from rfl]; omega
theorem joinL_len (s : List Nat) : ∀ (ls : List (List Nat)) (n : Nat), (∀ l ∈ ls, l.length ≤ n) → (joinL s ls).length ≤ ls.length * (n + s.length)
  | [], _, _ => by simp [joinL]
  | [l], n, h => by have := h l (by simp); simp [joinL]; omega
  | l :: m :: ls, n, h => by
    have := h l (by simp)
    have ih := joinL_len s (m :: ls) n fun x hx => h x (by simp [hx])
    have e : joinL s (l :: m :: ls) = l ++ s ++ joinL s (m :: ls) := by simp [joinL]
    rw [e, List.length_append, List.length_append, List.length_cons, Nat.succ_mul]
    omega
theorem strs_le {s : Stp} (h : s.ok) : s.strs.length ≤ 3 ∧ ∀ l ∈ s.strs, l.length ≤ 10 := by
  cases s with
  | lower => exact ⟨by decide, by decide⟩
  | swap a b => exact ⟨by simp [Stp.strs], by intro l hl; simp only [Stp.strs, List.mem_cons, List.not_mem_nil, or_false] at hl; rcases hl with rfl | rfl | rfl <;> first | (simp; done) | decide⟩
  | drop d => exact ⟨by simp [Stp.strs], by intro l hl; simp only [Stp.strs, List.mem_cons, List.not_mem_nil, or_false] at hl; rcases hl with rfl | rfl; exact (by decide); exact h.2.1⟩
  | lead c => exact ⟨by simp [Stp.strs], by intro l hl; simp only [Stp.strs, List.mem_cons, List.not_mem_nil, or_false] at hl; rcases hl with rfl | rfl <;> first | (simp; done) | decide⟩
  | once c => exact ⟨by simp [Stp.strs], by intro l hl; simp only [Stp.strs, List.mem_cons, List.not_mem_nil, or_false] at hl; rcases hl with rfl | rfl <;> first | (simp; done) | decide⟩
  | cut n => exact ⟨by simp [Stp.strs], by intro l hl; simp only [Stp.strs, List.mem_cons, List.not_mem_nil, or_false] at hl; rcases hl with rfl | rfl; exact (by decide); rw [strI_len h.1 h.2]; decide⟩
theorem stepTxt_len {s : Stp} (h : s.ok) : (stepTxt s).length ≤ 66 := by
  have h2 := strs_le h
  have := joinL_len (tl (Str.ofString " ")) (s.strs.map (repL (Str.ofString " ") (Str.ofString "~"))) 21 (fun l hl => by
    obtain ⟨m, hm, rfl⟩ := List.mem_map.mp hl
    exact rep_le (h2.2 m hm))
  rw [List.length_map, show (tl (Str.ofString " ")).length = 1 from rfl] at this
  have h3 := h2.1
  unfold stepTxt
  omega
theorem sum_le {n : Nat} : ∀ {ls : List (List Nat)}, (∀ l ∈ ls, l.length ≤ n) → (ls.map List.length).sum ≤ ls.length * n
  | [], _ => by simp
  | l :: ls, h => by
    have := h l (by simp)
    have ih := sum_le (ls := ls) fun x hx => h x (by simp [hx])
    rw [List.map_cons, List.sum_cons, List.length_cons, Nat.succ_mul]
    omega
theorem txt_sum {s : Stp} (h : s.ok) : ((s.strs.map (repL (Str.ofString " ") (Str.ofString "~"))).map List.length).sum + (s.strs.map (repL (Str.ofString " ") (Str.ofString "~"))).length * (tl (Str.ofString " ")).length ≤ 1000000 := by
  have h2 := strs_le h
  have := sum_le (n := 21) (ls := s.strs.map (repL (Str.ofString " ") (Str.ofString "~"))) fun l hl => by
    obtain ⟨m, hm, rfl⟩ := List.mem_map.mp hl
    exact rep_le (h2.2 m hm)
  rw [List.length_map, show (tl (Str.ofString " ")).length = 1 from rfl] at *
  have := h2.1
  omega
def sp_step_text : Sp' := fun ds Φ _ => match ds with
  | [d] => ∃ s : Stp, d = s.toD ∧ s.ok ∧ Φ (.str (stepTxt s))
  | _ => False
/-- the text of a row of steps -/
def foldTxt (ss : List Stp) : List Nat := if ss = [] then tl (Str.ofString "plain") else joinL (tl (Str.ofString "; ")) (ss.map stepTxt)
theorem fold_sum {ss : List Stp} (hl : ss.length ≤ 6) (ho : okRow ss) : ((ss.map stepTxt).map List.length).sum + (ss.map stepTxt).length * (tl (Str.ofString "; ")).length ≤ 1000000 := by
  have := sum_le (n := 66) (ls := ss.map stepTxt) fun l hl => by
    obtain ⟨m, hm, rfl⟩ := List.mem_map.mp hl
    exact stepTxt_len (ho m hm)
  rw [List.length_map, show (tl (Str.ofString "; ")).length = 2 from rfl] at *
  omega
theorem foldTxt_len {ss : List Stp} (hl : ss.length ≤ 6) (ho : okRow ss) : (foldTxt ss).length ≤ 1000 := by
  unfold foldTxt
  split
  · decide
  · have := joinL_len (tl (Str.ofString "; ")) (ss.map stepTxt) 66 fun l hl => by
      obtain ⟨m, hm, rfl⟩ := List.mem_map.mp hl
      exact stepTxt_len (ho m hm)
    rw [List.length_map, show (tl (Str.ofString "; ")).length = 2 from rfl] at this
    omega
def sp_folding_text (A_Folding : Addr) : Sp' := fun ds Φ _ => match ds with
  | [d] => ∃ ss : List Stp, d = foldO A_Folding ss ∧ ss.length ≤ 6 ∧ okRow ss ∧ Φ (.str (foldTxt ss))
  | _ => False
end
section
variable {P : Program} {w : World} {K : PySem.W.Frag} {mg : Str → Option Value} {base : Heap} {A_PlainError : Addr} {A_NoText : Addr} {A_NoStep : Addr} {A_NoPart : Addr} {A_Folding : Addr}
theorem repL_map (a b : Nat) (l : List Nat) : repL ⟨#[a]⟩ ⟨#[b]⟩ l = l.map fun c => if c = a then b else c := by
  rw [repL_eq (show 1 ≤ (⟨#[a]⟩ : Str).length from Nat.le_refl 1)]
  show StrLaws.replL [a] [b] l = _
  induction l with
  | nil => rw [StrLaws.replL_nil]; rfl
  | cons c l ih =>
    by_cases h : c = a
    · subst h
      rw [StrLaws.replL_hit (by simp) (by simp)]
      simp [ih]
    · rw [StrLaws.replL_miss (by simp; exact h), ih]
      simp [h]
def sp1 : Str := Str.ofString " "
def unt (w : List Nat) : List Nat := repL (Str.ofString "~") (Str.ofString " ") w
def til (w : List Nat) : List Nat := repL (Str.ofString " ") (Str.ofString "~") w
theorem unt_map (w : List Nat) : unt w = w.map fun c => if c = 126 then 32 else c := repL_map 126 32 w
theorem til_map (w : List Nat) : til w = w.map fun c => if c = 32 then 126 else c := repL_map 32 126 w
theorem unt_len (w : List Nat) : (unt w).length = w.length := by rw [unt_map, List.length_map]
theorem til_unt {w : List Nat} (h : 32 ∉ w) : til (unt w) = w := by
  rw [til_map, unt_map, List.map_map]
  refine (List.map_congr_left fun c hc => ?_).trans (List.map_id w)
  have : c ≠ 32 := fun e => h (e ▸ hc)
  by_cases z : c = 126
  · subst z; rfl
  · simp [z, this]
theorem til_self {w : List Nat} (h : 32 ∉ w) : til w = w := by
  rw [til_map]
  refine (List.map_congr_left fun c hc => ?_).trans (List.map_id w)
  have : c ≠ 32 := fun e => h (e ▸ hc)
  simp [this]
theorem spl_ne (t l : List Nat) : ∃ w rest, splL t l = w :: rest := by
  have h := PyProof.Rows.split_pos ⟨l.toArray⟩ ⟨t.toArray⟩
  unfold splL
  cases e : Txt.split ⟨l.toArray⟩ ⟨t.toArray⟩ with
  | nil => rw [e] at h; simp at h
  | cons w rest => exact ⟨_, _, rfl⟩
theorem spl_short {t l p : List Nat} (h : p ∈ splL t l) : p.length ≤ l.length := by
  obtain ⟨x, hx, rfl⟩ := List.mem_map.mp h
  have := PyProof.Rows.part_short hx
  rw [len_mk] at this
  simpa [tl, Str.length] using this
theorem spl_le (t l : List Nat) : (splL t l).length ≤ l.length + 2 := by
  have := PyProof.Rows.split_le ⟨l.toArray⟩ ⟨t.toArray⟩
  rw [len_mk] at this
  simpa [splL] using this
theorem spl_free {c : Nat} {l p : List Nat} (h : p ∈ splL [c] l) : c ∉ p := by
  obtain ⟨x, hx, rfl⟩ := List.mem_map.mp h
  exact StrLaws.split_free ⟨l.toArray⟩ c x hx
theorem spl_join (t l : List Nat) : joinL t (splL t l) = l := by
  have h := congrArg tl (StrLaws.join_split ⟨l.toArray⟩ ⟨t.toArray⟩)
  rw [tl_join] at h
  exact h
def spT : List Nat := tl (Str.ofString " ")
def cutT : List Nat := tl (Str.ofString "cut")
def numsL : List (List Nat) := [[49], [50], [51], [52], [53], [54], [55], [56], [57]]
abbrev d_NUMBERS : D := .tup (numsL.map .str)
def numOf (r : List Nat) : Int := (PySem.intText? ⟨r.toArray⟩).getD 0
theorem num_ok : ∀ r ∈ numsL, PySem.intText? ⟨r.toArray⟩ = some (numOf r) ∧ r.length = 1 ∧ ∃ n : Nat, numOf r = (n : Nat) ∧ 1 ≤ n ∧ n ≤ 9 ∧ strI (n : Nat) = r := by
  intro r hr
  simp only [numsL, List.mem_cons, List.not_mem_nil, or_false] at hr
  rcases hr with rfl | rfl | rfl | rfl | rfl | rfl | rfl | rfl | rfl
  · exact ⟨by decide +kernel, rfl, 1, by decide +kernel, by decide, by decide, by decide +kernel⟩
  · exact ⟨by decide +kernel, rfl, 2, by decide +kernel, by decide, by decide, by decide +kernel⟩
  · exact ⟨by decide +kernel, rfl, 3, by decide +kernel, by decide, by decide, by decide +kernel⟩
  · exact ⟨by decide +kernel, rfl, 4, by decide +kernel, by decide, by decide, by decide +kernel⟩
  · exact ⟨by decide +kernel, rfl, 5, by decide +kernel, by decide, by decide, by decide +kernel⟩
  · exact ⟨by decide +kernel, rfl, 6, by decide +kernel, by decide, by decide, by decide +kernel⟩
  · exact ⟨by decide +kernel, rfl, 7, by decide +kernel, by decide, by decide, by decide +kernel⟩
  · exact ⟨by decide +kernel, rfl, 8, by decide +kernel, by decide, by decide, by decide +kernel⟩
  · exact ⟨by decide +kernel, rfl, 9, by decide +kernel, by decide, by decide, by decide +kernel⟩
def cand (w : List Nat) (rest : List (List Nat)) : D := .tup (.str w :: rest.map fun r => .str (unt r))
/-- what a part is read as: a step, or none -/
def readW (w : List Nat) (rest : List (List Nat)) : D :=
  if w = cutT ∧ rest.length = 1 then (match rest with
    | [r] => if r ∈ numsL then .tup [.str cutT, .int (numOf r)] else .non
    | _ => .non)
  else if isStepD (cand w rest) = true then cand w rest else .non
def readS (p : List Nat) : D := match splL spT p with
  | w :: rest => readW w rest
  | [] => .non
theorem flat_strs : ∀ ls : List (List Nat), (ls.map D.str).all flatD = true := fun ls => by simp [List.all_map]; intro x _; rfl
def sp_read_step_texts : Sp' := fun ds Φ _ => match ds with
  | [d] => ∃ l : List Nat, d = .str l ∧ l.length ≤ 1000 ∧ Φ (readS l)
  | _ => False
abbrev st_read_step_texts : Stmt := top 29
abbrev N_read_step_texts : List Str := ["part", "word", "entries", "step", "entry"]
theorem sc_read_step_texts : FnScope N_read_step_texts ["part"] (defScope st_read_step_texts) := ⟨rfl, rfl, rfl, by decide +kernel, rfl, by decide +kernel, by decide +kernel⟩
theorem ok_read_step_texts (Dd : DfA K mg "read_step_texts" "read_step" st_read_step_texts ["part"]) (B : Blt mg) (c_NUMBERS : Cst K mg "NUMBERS" d_NUMBERS) (G_is_step : Fn P w K mg base "is_step" ["thing"] 3 sp_is_step 0) : Fn P w K mg base "read_step_texts" ["part"] 4 sp_read_step_texts 0 := by
  refine fnEA 0 Dd sc_read_step_texts (by intro ds Φ Ψ h; unfold sp_read_step_texts at h; split at h <;> first | rfl | exact h.elim) ⟨_, _, fun f cdv A outer s H E hr =>
      (qs_o (qstarO 1 2 rfl (qsplitO (kind := none) (qv 0)) sc_read_step_texts.nd)
      (qst_cons (PST.of (qifS (PW.pt (qand (qtcmp (op_eqG hr.units) eqL (qv 1) qstr (nomark _)) (qand1 (qtcmp (op_eqG hr.units) eqL (qcB call_lenA lenL B.len (by decide +kernel) (qa_cons (qv 2) qa_nil)) qint (nomark _)))))
      (qs_one (qret (qif (qtcmp op_inG inL (qix (qv 2) qint) c_NUMBERS.pe rfl) (qtup (qa_cons qstr (qa_cons (qcT call_int_str intTL B.int (by decide +kernel) (qa_cons (qix (qv 2) qint) qa_nil)) qa_nil))) qnon)))
      qs_nil))
      (qst_cons (qsetT 3 (qtupStar (qv 1) (qlcT (kind := none) 0 rfl sc_read_step_texts.nd (qi_seq (qv 2)) (blkOk_by (own := [("entry", 4)]) (N := N_read_step_texts) (sc := defScope st_read_step_texts) (by decide +kernel)) (tgt_name (by decide)) (fun _ _ _ _ _ => (pg_name (i := 4) sc_read_step_texts.nd rfl (Or.inl rfl))) (fun _ _ _ _ _ => (qrepC (qv 4))))) sc_read_step_texts.nd)
      (PSsT.of (qs_one (qret (qif (qtru (qcallF G_is_step (hr.mono (by decide)) (takes_of rfl rfl rfl rfl) (qa_cons (qv 3) qa_nil))) (qv 3) qnon))))))), by decide, ?_⟩
  intro ds Φ Ψ q
  unfold sp_read_step_texts at q
  split at q
  · obtain ⟨l, rfl, hl, q⟩ := q
    refine ⟨⟨by decide, by omega⟩, ?_⟩
    obtain ⟨w, rest, e⟩ := spl_ne spT l
    have short : ∀ r ∈ w :: rest, r.length ≤ 1000 := fun r hr => by
      rw [← e] at hr
      exact Nat.le_trans (spl_short hr) hl
    have many : rest.length ≤ 1002 := by
      have := spl_le spT l
      rw [e] at this
      simp at this
      omega
    have eR : readS l = readW w rest := by unfold readS; rw [e]
    rw [eR] at q
    show mk none ((splL spT l).map D.str) _ _
    rw [e]
    have lr : (rest.map D.str).length = rest.length := by simp
    refine iteB (c := decide (w = cutT)) (fun ew => ?_) (fun ew => ?_)
    · refine iteB (c := decide (((rest.map D.str).length : Int) = 1)) (fun el => ?_) (fun el => ?_)
      · have el : rest.length = 1 := by have := of_decide_eq_true el; rw [lr] at this; omega
        have ew : w = cutT := of_decide_eq_true ew
        obtain ⟨r, rfl⟩ : ∃ r, rest = [r] := by
          match rest, el with
          | [r], _ => exact ⟨r, rfl⟩
        have eq2 : readW w [r] = if r ∈ numsL then .tup [.str cutT, .int (numOf r)] else .non := if_pos ⟨ew, rfl⟩
        rw [eq2] at q
        refine ⟨_, rfl, ⟨rfl, flat_strs numsL⟩, ?_⟩
        refine iteB (c := inV (toV (.str r)) ((numsL.map D.str).map toV)) (fun z => ?_) (fun z => ?_)
        · rw [inV_strs0] at z
          have hr := of_decide_eq_true z
          rw [if_pos hr] at q
          exact ⟨_, rfl, by rw [(num_ok r hr).2.1]; decide, _, (num_ok r hr).1, q⟩
        · rw [inV_strs0] at z
          rw [if_neg (of_decide_eq_false z)] at q
          exact q
      · have no : ¬ (w = cutT ∧ rest.length = 1) := fun z => by
          rw [lr, z.2] at el; cases el
        have eq2 : readW w rest = if isStepD (cand w rest) = true then cand w rest else .non := if_neg no
        rw [eq2] at q
        refine ⟨⟨by rw [lr]; omega, by rw [lr]; omega⟩, ?_⟩
        refine compD_mapA D.str (fun r => D.str (unt r)) rest [] (fun r hr rest acc z => ⟨by have := short r (by simp [hr]); rw [show (Str.ofString " ").length = 1 from rfl]; omega, z⟩) ?_
        rw [List.nil_append]
        refine ⟨by rw [List.length_map]; omega, ?_⟩
        refine ⟨⟨fun d hd => ?_, by rw [List.length_cons, List.length_map]; omega⟩, ?_⟩
        · rcases List.mem_cons.mp hd with rfl | hd
          · exact okS (by have := short w (by simp); omega)
          · obtain ⟨r, hr, rfl⟩ := List.mem_map.mp hd
            exact okS (by rw [unt_len]; have := short r (by simp [hr]); omega)
        · refine iteB (c := isStepD (cand w rest)) (fun z => ?_) (fun z => ?_)
          · rw [if_pos z] at q; exact q
          · rw [if_neg (by rw [z]; decide)] at q; exact q
    · have no : ¬ (w = cutT ∧ rest.length = 1) := fun z => of_decide_eq_false ew z.1
      have eq2 : readW w rest = if isStepD (cand w rest) = true then cand w rest else .non := if_neg no
      rw [eq2] at q
      refine ⟨⟨by rw [lr]; omega, by rw [lr]; omega⟩, ?_⟩
      refine compD_mapA D.str (fun r => D.str (unt r)) rest [] (fun r hr rest acc z => ⟨by have := short r (by simp [hr]); rw [show (Str.ofString " ").length = 1 from rfl]; omega, z⟩) ?_
      rw [List.nil_append]
      refine ⟨by rw [List.length_map]; omega, ?_⟩
      refine ⟨⟨fun d hd => ?_, by rw [List.length_cons, List.length_map]; omega⟩, ?_⟩
      · rcases List.mem_cons.mp hd with rfl | hd
        · exact okS (by have := short w (by simp); omega)
        · obtain ⟨r, hr, rfl⟩ := List.mem_map.mp hd
          exact okS (by rw [unt_len]; have := short r (by simp [hr]); omega)
      · refine iteB (c := isStepD (cand w rest)) (fun z => ?_) (fun z => ?_)
        · rw [if_pos z] at q; exact q
        · rw [if_neg (by rw [z]; decide)] at q; exact q
  · exact q.elim
end
section
variable {P : Program} {w : World} {K : PySem.W.Frag} {mg : Str → Option Value} {base : Heap} {A_PlainError : Addr} {A_NoText : Addr} {A_NoStep : Addr} {A_NoPart : Addr} {A_Folding : Addr}
abbrev lowT : List Nat := tl (Str.ofString "lower")
abbrev swaT : List Nat := tl (Str.ofString "swap")
abbrev droT : List Nat := tl (Str.ofString "drop")
abbrev leaT : List Nat := tl (Str.ofString "lead")
abbrev oncT : List Nat := tl (Str.ofString "once")
/-- what a reading by parts guesses -/
def guessW (w : List Nat) (rs : List (List Nat)) : D :=
  if w = cutT ∧ rs.length = 1 ∧ (match rs with
    | [r] => decide (r ∈ numsL)
    | _ => false) = true then (match rs with
    | [r] => .tup [.str cutT, .int (numOf r)]
    | _ => .non) else .tup (.str w :: rs.map .str)
def guessD (p : List Nat) : D := match splL spT p with
  | w :: rest => guessW w (rest.map unt)
  | [] => .non
/-- is a row of words a step, cut apart -/
def lawIsS (w : List Nat) (rs : List (List Nat)) : Bool :=
  if w = cutT then false
  else if ¬ (∀ c ∈ rs.flatten, c ∈ CH) then false
  else if w = droT ∧ rs.length = 1 then (match rs with
    | [r] => decide (0 < r.length ∧ r.length < 11) && decide ((sd r).length = r.length)
    | _ => false)
  else if w = swaT then decide (rs.map List.length = [1, 1])
  else if w = leaT ∨ w = oncT then decide (rs.map List.length = [1])
  else decide (w = lowT) && rs.isEmpty
theorem sd_dupN : ∀ (n : Nat) (l : List Nat), l.length = n → (sd l).length = l.length → l.Nodup
  | 0, l, h, _ => by rw [List.length_eq_zero_iff.mp h]; exact List.nodup_nil
  | n + 1, l, h, e => by
    obtain ⟨m, c, rfl⟩ : ∃ m c, l = m ++ [c] := ⟨l.dropLast, l.getLast (by intro z; rw [z] at h; cases h), (List.dropLast_concat_getLast _).symm⟩
    have hm : m.length = n := by simpa using h
    rw [sd_snoc] at e
    have hl := sd_len m
    unfold sdAdd at e
    split at e
    · rw [List.length_append] at e; simp at e; omega
    · rename_i hc
      have e2 : (sd m).length = m.length := by simpa using e
      have nd := sd_dupN n m hm e2
      rw [sd_self nd] at hc
      exact List.nodup_append.mpr ⟨nd, by simp, fun a ha b hb => by rw [List.mem_singleton.mp hb]; rintro rfl; exact hc ha⟩
theorem sd_dup {l : List Nat} (e : (sd l).length = l.length) : l.Nodup := sd_dupN _ l rfl e
theorem allCh_iff (l : List Nat) : allCh l = true ↔ ∀ c ∈ l, c ∈ CH := by simp [allCh]
theorem isW_iff (a b : Int) (l : List Nat) : isWrittenD a b (.str l) = true ↔ a ≤ l.length ∧ (l.length : Int) ≤ b ∧ ∀ c ∈ l, c ∈ CH := by
  show (decide _ && (decide _ && allCh _)) = true ↔ _
  simp only [Bool.and_eq_true, decide_eq_true_eq, allCh_iff]
theorem one_of {l : List Nat} (h1 : (1 : Int) ≤ l.length) (h2 : (l.length : Int) ≤ 1) : ∃ c, l = [c] := by
  match l, h1, h2 with
  | [c], _, _ => exact ⟨c, rfl⟩
  | [], h, _ => simp at h
  | a :: b :: l, _, h => simp at h; omega
/-- a row of words that is a step -/
theorem step_of {w : List Nat} {rs : List (List Nat)} (hc : ¬ (w = cutT ∧ rs.length = 1)) (h : stepRest w (rs.map .str) = true) : ∃ s : Stp, s.ok ∧ s.strs = w :: rs ∧ s.toD = .tup (.str w :: rs.map .str) := by
  unfold stepRest at h
  split at h
  · rename_i e
    have : rs = [] := by cases rs with | nil => rfl | cons => cases h
    subst this
    exact ⟨.lower, trivial, by rw [e]; rfl, by rw [e]; rfl⟩
  · split at h
    · rename_i e
      match rs, h with
      | [a, b], h =>
        have h : (isWrittenD 1 1 (.str a) && isWrittenD 1 1 (.str b)) = true := h
        rw [Bool.and_eq_true, isW_iff, isW_iff] at h
        obtain ⟨x, rfl⟩ := one_of h.1.1 h.1.2.1
        obtain ⟨y, rfl⟩ := one_of h.2.1 h.2.2.1
        exact ⟨.swap x y, ⟨h.1.2.2 x (by simp), h.2.2.2 y (by simp)⟩, by rw [e]; rfl, by rw [e]; rfl⟩
      | [], h => cases h
      | [a], h => cases h
      | a :: b :: c :: r, h => cases h
    · match rs, h, hc with
      | [a], h, hc =>
        have h : stepOne w (.str a) = true := h
        unfold stepOne at h
        split at h
        · rename_i e
          rw [Bool.and_eq_true, isW_iff] at h
          have hn : (sd a).length = a.length := of_decide_eq_true h.2
          refine ⟨.drop a, ⟨by omega, by omega, h.1.2.2, ?_⟩, by rw [e]; rfl, by rw [e]; rfl⟩
          exact sd_dup hn
        · split at h
          · rename_i e
            rw [isW_iff] at h
            obtain ⟨x, rfl⟩ := one_of h.1 h.2.1
            rcases e with e | e
            · exact ⟨.lead x, h.2.2 x (by simp), by rw [e]; rfl, by rw [e]; rfl⟩
            · exact ⟨.once x, h.2.2 x (by simp), by rw [e]; rfl, by rw [e]; rfl⟩
          · rw [Bool.and_eq_true] at h
            cases h.2
      | [], h, _ => cases h
      | a :: b :: r, h, _ => cases h
theorem lenOne (r : List Nat) : (List.map List.length [r] = [1]) ↔ r.length = 1 := by simp
/-- the two looks agree -/
theorem is_same {w : List Nat} {rs : List (List Nat)} (hc : ¬ (w = cutT ∧ rs.length = 1)) : stepRest w (rs.map .str) = lawIsS w rs := by
  rw [Bool.eq_iff_iff]
  unfold stepRest lawIsS
  by_cases e0 : w = cutT
  · rw [if_pos e0, if_neg (by rw [e0]; decide), if_neg (by rw [e0]; decide)]
    match rs, hc with
    | [], _ => exact ⟨fun h => (by cases h), fun h => (by cases h)⟩
    | [a], hc => exact absurd ⟨e0, rfl⟩ hc
    | a :: b :: r, _ => exact ⟨fun h => (by cases h), fun h => (by cases h)⟩
  rw [if_neg e0]
  by_cases e1 : w = lowT
  · rw [if_pos e1]
    cases rs with
    | nil =>
      rw [if_neg (by simp), if_neg (by rw [e1]; decide), if_neg (by rw [e1]; decide), if_neg (by rw [e1]; decide), decide_eq_true e1]
      exact ⟨fun _ => rfl, fun _ => rfl⟩
    | cons a r =>
      refine ⟨fun h => (by cases h), fun h => ?_⟩
      split at h
      · cases h
      · rw [if_neg (by rw [e1]; rintro ⟨z, _⟩; exact absurd z (by decide)), if_neg (by rw [e1]; decide), if_neg (by rw [e1]; decide), Bool.and_eq_true] at h
        cases h.2
  rw [if_neg e1]
  by_cases e2 : w = swaT
  · rw [if_pos e2, if_neg (c := w = droT ∧ rs.length = 1) (by rw [e2]; rintro ⟨z, _⟩; exact absurd z (by decide)), if_pos e2]
    match rs with
    | [] => exact ⟨fun h => (by cases h), fun h => (by split at h <;> simp at h)⟩
    | [a] => exact ⟨fun h => (by cases h), fun h => (by split at h <;> simp at h)⟩
    | [a, b] =>
      show (isWrittenD 1 1 (.str a) && isWrittenD 1 1 (.str b)) = true ↔ _
      rw [Bool.and_eq_true, isW_iff, isW_iff]
      constructor
      · rintro ⟨⟨h1, h2, h3⟩, h4, h5, h6⟩
        rw [if_neg (by
          intro z; apply z
          intro c hc
          simp only [List.flatten_cons, List.flatten_nil, List.append_nil, List.mem_append] at hc
          exact hc.elim (h3 c) (h6 c))]
        simp; omega
      · intro h
        split at h
        · cases h
        · rename_i z
          have z : ∀ c ∈ [a, b].flatten, c ∈ CH := Classical.not_not.mp z
          simp at h
          exact ⟨⟨by omega, by omega, fun c hc => z c (by simp [hc])⟩, by omega, by omega, fun c hc => z c (by simp [hc])⟩
    | a :: b :: c :: r => exact ⟨fun h => (by cases h), fun h => (by split at h <;> simp at h)⟩
  rw [if_neg e2]
  match rs, hc with
  | [], _ =>
    refine ⟨fun h => (by cases h), fun h => ?_⟩
    split at h
    · cases h
    · rw [if_neg (by rintro ⟨_, z⟩; cases z)] at h
      split at h
      · simp at h
      · rw [decide_eq_false e1] at h; cases h
  | a :: b :: r, _ =>
    refine ⟨fun h => (by cases h), fun h => ?_⟩
    split at h
    · cases h
    · rw [if_neg (by rintro ⟨_, z⟩; simp at z)] at h
      split at h
      · simp at h
      · rw [decide_eq_false e1] at h; cases h
  | [a], hc =>
    show stepOne w (.str a) = true ↔ _
    unfold stepOne
    by_cases e3 : w = droT
    · rw [if_pos e3, if_pos (c := w = droT ∧ [a].length = 1) ⟨e3, rfl⟩, Bool.and_eq_true, isW_iff]
      constructor
      · rintro ⟨⟨h1, h2, h3⟩, h4⟩
        rw [if_neg (by
          intro z; apply z
          intro c hc
          simp only [List.flatten_cons, List.flatten_nil, List.append_nil] at hc
          exact h3 c hc)]
        show (decide (0 < a.length ∧ a.length < 11) && decide ((sd a).length = a.length)) = true
        rw [Bool.and_eq_true]
        exact ⟨decide_eq_true (by omega), h4⟩
      · intro h
        split at h
        · cases h
        · rename_i z
          have z : ∀ c ∈ [a].flatten, c ∈ CH := Classical.not_not.mp z
          have h : (decide (0 < a.length ∧ a.length < 11) && decide ((sd a).length = a.length)) = true := h
          rw [Bool.and_eq_true] at h
          have h1 := of_decide_eq_true h.1
          exact ⟨⟨by omega, by omega, fun c hc => z c (by simp [hc])⟩, h.2⟩
    · rw [if_neg e3, if_neg (c := w = droT ∧ [a].length = 1) (fun z => e3 z.1), if_neg e2]
      by_cases e4 : w = leaT ∨ w = oncT
      · rw [if_pos e4, if_pos e4, isW_iff]
        constructor
        · rintro ⟨h1, h2, h3⟩
          rw [if_neg (by
            intro z; apply z
            intro c hc
            simp only [List.flatten_cons, List.flatten_nil, List.append_nil] at hc
            exact h3 c hc)]
          simp; omega
        · intro h
          split at h
          · cases h
          · rename_i z
            have z : ∀ c ∈ [a].flatten, c ∈ CH := Classical.not_not.mp z
            simp at h
            exact ⟨by omega, by omega, fun c hc => z c (by simp [hc])⟩
      · rw [if_neg e4, if_neg e4, decide_eq_false (p := w = tl (Str.ofString "cut")) e0, decide_eq_false e1]
        refine ⟨fun h => (by cases h), fun h => ?_⟩
        split at h <;> cases h
theorem unt_num {r : List Nat} (h : unt r ∈ numsL) : unt r = r := by
  rw [unt_map] at h ⊢
  match r, h with
  | [], _ => rfl
  | [c], h =>
    by_cases z : c = 126
    · subst z
      exact absurd h (by decide)
    · simp [z]
  | a :: b :: r, h =>
    have := (num_ok _ h).2.1
    simp at this
theorem num_unt {r : List Nat} (h : r ∈ numsL) : unt r = r := by
  simp only [numsL, List.mem_cons, List.not_mem_nil, or_false] at h
  rcases h with rfl | rfl | rfl | rfl | rfl | rfl | rfl | rfl | rfl <;> (rw [unt_map]; rfl)
theorem til_words {w : List Nat} {rest : List (List Nat)} (h0 : 32 ∉ w) (h : ∀ r ∈ rest, 32 ∉ r) : (w :: rest.map unt).map til = w :: rest := by
  rw [List.map_cons, til_self h0, List.map_map]
  congr 1
  refine (List.map_congr_left fun r hr => ?_).trans (List.map_id rest)
  exact til_unt (h r hr)
theorem sum_join (s : List Nat) : ∀ ls : List (List Nat), (ls.map List.length).sum ≤ (joinL s ls).length
  | [] => by simp
  | [l] => by simp [joinL]
  | l :: m :: ls => by
    have ih := sum_join s (m :: ls)
    have e : joinL s (l :: m :: ls) = l ++ s ++ joinL s (m :: ls) := by simp [joinL]
    rw [e, List.length_append, List.length_append, List.map_cons, List.sum_cons]
    omega
theorem sum_mem : ∀ {ls : List (List Nat)} {l : List Nat}, l ∈ ls → l.length ≤ (ls.map List.length).sum
  | m :: ls, l, h => by
    rw [List.map_cons, List.sum_cons]
    rcases List.mem_cons.mp h with rfl | h
    · omega
    · have := sum_mem h; omega
/-- what a part is -/
inductive PartIs (p : List Nat) : Prop
  | good (s : Stp) (ho : s.ok) (hg : guessD p = s.toD) (ht : stepTxt s = p) (hr : readS p = s.toD) (hl : (∃ n : Nat, s.toD = .tup [.str cutT, .int (n : Nat)]) ∨ ∃ w rs, s.toD = .tup (.str w :: rs.map .str) ∧ lawIsS w rs = true ∧ rs.length ≤ 1002 ∧ (rs.map List.length).sum ≤ p.length)
  | bad (w : List Nat) (rs : List (List Nat)) (hg : guessD p = .tup (.str w :: rs.map .str)) (hl : lawIsS w rs = false) (hr : readS p = .non) (hn : rs.length ≤ 1002) (hs : (rs.map List.length).sum ≤ p.length)
theorem part_is {p : List Nat} (hp : p.length ≤ 1000) : PartIs p := by
  obtain ⟨w, rest, e⟩ := spl_ne spT p
  have free : ∀ r ∈ w :: rest, 32 ∉ r := fun r hr => spl_free (c := 32) (by rw [← e] at hr; exact hr)
  have f0 := free w (by simp)
  have f1 : ∀ r ∈ rest, 32 ∉ r := fun r hr => free r (by simp [hr])
  have ejoin : joinL spT (w :: rest) = p := by rw [← e]; exact spl_join spT p
  have short : ((rest.map unt).map List.length).sum ≤ p.length := by
    have h1 := sum_join spT (w :: rest)
    rw [ejoin, List.map_cons, List.sum_cons] at h1
    rw [List.map_map, show (List.length ∘ unt) = List.length from funext unt_len]
    omega
  have many : (rest.map unt).length ≤ 1002 := by
    have := spl_le spT p
    rw [e] at this
    simp at this ⊢
    omega
  have eg : guessD p = guessW w (rest.map unt) := by unfold guessD; rw [e]
  have er : readS p = readW w rest := by unfold readS; rw [e]
  by_cases hc : w = cutT ∧ rest.length = 1
  · obtain ⟨r, rfl⟩ : ∃ r, rest = [r] := by
      match rest, hc.2 with
      | [r], _ => exact ⟨r, rfl⟩
    have er2 : readS p = if r ∈ numsL then .tup [.str cutT, .int (numOf r)] else .non := er.trans (if_pos ⟨hc.1, rfl⟩)
    by_cases hr : r ∈ numsL
    · obtain ⟨_, _, n, en, n1, n2, et⟩ := num_ok r hr
      rw [if_pos hr] at er2
      have eg2 : guessD p = .tup [.str cutT, .int (numOf r)] := by
        rw [eg]
        show guessW w [unt r] = _
        rw [num_unt hr]
        exact if_pos ⟨hc.1, rfl, decide_eq_true hr⟩
      refine .good (.cut n) ⟨n1, n2⟩ (by rw [eg2, en]; rfl) ?_ (by rw [er2, en]; rfl) (.inl ⟨n, rfl⟩)
      rw [← ejoin]
      show joinL spT ((cutT :: [strI (n : Nat)]).map til) = _
      rw [et, hc.1, List.map_cons, List.map_cons, til_self (by decide), til_self (f1 r (by simp))]
      rfl
    · rw [if_neg hr] at er2
      have hu : unt r ∉ numsL := fun z => hr (by rw [← unt_num z]; exact z)
      refine .bad w [unt r] ?_ (by unfold lawIsS; rw [if_pos hc.1]) er2 (by simp) short
      rw [eg]
      exact if_neg fun z => hu (of_decide_eq_true z.2.2)
  · have hc2 : ¬ (w = cutT ∧ (rest.map unt).length = 1) := by rw [List.length_map]; exact hc
    have eg2 : guessD p = .tup (.str w :: (rest.map unt).map .str) := by
      rw [eg]
      exact if_neg fun z => hc2 ⟨z.1, z.2.1⟩
    have ec : cand w rest = .tup (.str w :: (rest.map unt).map .str) := by unfold cand; rw [List.map_map]; rfl
    have er2 : readS p = if isStepD (cand w rest) = true then cand w rest else .non := er.trans (if_neg hc)
    have ei : isStepD (cand w rest) = lawIsS w (rest.map unt) := by
      rw [ec]
      exact is_same hc2
    cases hl : lawIsS w (rest.map unt) with
    | false =>
      rw [ei, hl, if_neg (by decide)] at er2
      exact .bad w (rest.map unt) eg2 hl er2 many short
    | true =>
      rw [ei, hl, if_pos rfl, ec] at er2
      obtain ⟨s, ho, es, ed⟩ := step_of hc2 ((is_same hc2).trans hl)
      refine .good s ho (by rw [eg2, ed]) ?_ (by rw [er2, ed]) (.inr ⟨w, rest.map unt, ed, hl, many, short⟩)
      show joinL spT (s.strs.map til) = p
      rw [es, til_words f0 f1, ejoin]
end
section
variable {P : Program} {w : World} {K : PySem.W.Frag} {mg : Str → Option Value} {base : Heap} {A_PlainError : Addr} {A_NoText : Addr} {A_NoStep : Addr} {A_NoPart : Addr} {A_Folding : Addr}
def nonD : D → Bool
  | .non => true
  | _ => false
theorem cut_step {r : List Nat} (h : r ∈ numsL) : isStepD (.tup [.str cutT, .int (numOf r)]) = true := by
  obtain ⟨_, _, n, e, h1, h2, _⟩ := num_ok r h
  rw [e]
  show stepRest cutT [.int (n : Nat)] = true
  unfold stepRest
  rw [if_neg (by decide), if_neg (by decide)]
  show stepOne cutT (.int (n : Nat)) = true
  unfold stepOne
  rw [if_neg (by decide), if_neg (by decide)]
  show (decide (cutT = cutT) && (decide ((1 : Int) ≤ (n : Nat)) && decide (((n : Nat) : Int) ≤ 9))) = true
  simp; omega
theorem readW_step {w : List Nat} {rest : List (List Nat)} (h : nonD (readW w rest) = false) : isStepD (readW w rest) = true := by
  unfold readW at h ⊢
  split
  · rename_i hc
    rw [if_pos hc] at h
    obtain ⟨r, rfl⟩ : ∃ r, rest = [r] := by
      match rest, hc.2 with
      | [r], _ => exact ⟨r, rfl⟩
    simp only at h ⊢
    split
    · rename_i hr; exact cut_step hr
    · rename_i hr; rw [if_neg hr] at h; cases h
  · rename_i hc
    rw [if_neg hc] at h
    split
    · rename_i hs; exact hs
    · rename_i hs; rw [if_neg hs] at h; cases h
theorem readS_step {p : List Nat} (h : nonD (readS p) = false) : isStepD (readS p) = true := by
  obtain ⟨w, rest, e⟩ := spl_ne spT p
  have e2 : readS p = readW w rest := by unfold readS; rw [e]
  rw [e2] at h ⊢
  exact readW_step h
theorem isStep_okV {d : D} (h : isStepD d = true) : okV d := by
  cases d <;> try (cases h; done)
  rename_i ds
  cases ds with
  | nil => cases h
  | cons d0 rest =>
    cases d0 <;> try (cases h; done)
    rename_i w
    have h : stepRest w rest = true := h
    have w1 : ∀ {a : D} {i : Int}, isWrittenD i 10 a = true ∨ isWrittenD i 1 a = true → okD a = true := fun {a i} h => by
      cases a <;> try (rcases h with h | h <;> cases h; done)
      rename_i l
      refine okS ?_
      rcases h with h | h
      · have h : (decide (i ≤ l.length) && (decide ((l.length : Int) ≤ 10) && allCh l)) = true := h
        simp only [Bool.and_eq_true, decide_eq_true_eq] at h; omega
      · have h : (decide (i ≤ l.length) && (decide ((l.length : Int) ≤ 1) && allCh l)) = true := h
        simp only [Bool.and_eq_true, decide_eq_true_eq] at h; omega
    have one : ∀ {a : D}, stepOne w a = true → okD a = true ∧ w.length ≤ 10 := fun {a} h => by
      unfold stepOne at h
      split at h
      · rename_i e; rw [Bool.and_eq_true] at h; exact ⟨w1 (.inl h.1), by rw [e]; decide⟩
      · split at h
        · rename_i e; exact ⟨w1 (.inr h), by rcases e with e | e <;> rw [e] <;> decide⟩
        · rw [Bool.and_eq_true] at h
          refine ⟨?_, by rw [of_decide_eq_true h.1]; decide⟩
          cases a <;> first | rfl | (cases h.2)
    unfold stepRest at h
    split at h
    · rename_i e
      have : rest = [] := by cases rest with | nil => rfl | cons => cases h
      subst this
      exact ⟨fun d hd => by rw [List.mem_singleton.mp hd]; exact okS (by rw [e]; decide), by simp⟩
    · split at h
      · rename_i e
        split at h
        · rename_i a b h0
          have h : (isWrittenD 1 1 a && isWrittenD 1 1 b) = true := h
          rw [Bool.and_eq_true] at h
          refine ⟨fun d hd => ?_, by simp⟩
          simp only [List.mem_cons, List.not_mem_nil, or_false] at hd
          rcases hd with rfl | rfl | rfl
          · exact okS (by rw [e]; decide)
          · exact w1 (.inr h.1)
          · exact w1 (.inr h.2)
        · cases h
      · split at h
        · rename_i a
          have := one h
          refine ⟨fun d hd => ?_, by simp⟩
          simp only [List.mem_cons, List.not_mem_nil, or_false] at hd
          rcases hd with rfl | rfl
          · exact okS (by omega)
          · exact this.1
        · cases h
/-- a page read part by part -/
inductive Rd where
  | made (ds : List D) | part (k : Nat)
def rdGo : Nat → List D → List (List Nat) → Rd
  | _, acc, [] => .made acc
  | k, acc, p :: ps => if nonD (readS p) = true then .part k else rdGo (k + 1) (acc ++ [readS p]) ps
def plainT : List Nat := tl (Str.ofString "plain")
def betT : List Nat := tl (Str.ofString "; ")
def noPart (A : Addr) (k : Nat) : Ex := ⟨A, some ("part", .int (k : Nat))⟩
def noTextK : D → Bool
  | .non => true | .int _ => true | .bl _ => true | .lst _ => true | .tup _ => true | .dic _ _ => true | _ => false
def sp0_read_folding (A_Folding A_NoStep A_NoPart : Addr) : Sp' := fun ds Φ Ψ => match ds with
  | [d] => (∃ l : List Nat, d = .str l ∧ l.length ≤ 1000 ∧ (l = plainT → Φ (.obj A_Folding ns_Folding [.tup []])) ∧ (l ≠ plainT → match rdGo 0 [] (splL betT l) with
      | .part k => Ψ (noPart A_NoPart k)
      | .made es => match wrongAt es 0 with
        | some i => Ψ (noStep A_NoStep i)
        | none => Φ (.obj A_Folding ns_Folding [.tup es]))) ∨ (noTextK d = true ∧ Ψ (noPart A_NoPart 0))
  | _ => False
theorem okV_toD {s : Stp} (h : s.ok) : okV s.toD := by
  cases s with
  | lower => exact ⟨by simp [okD]; decide, by simp⟩
  | swap a b => exact ⟨by simp [okD]; decide, by simp⟩
  | drop l => exact ⟨by have := h.2.1; simp [okD]; exact ⟨by decide, by omega⟩, by simp⟩
  | lead c => exact ⟨by simp [okD]; decide, by simp⟩
  | once c => exact ⟨by simp [okD]; decide, by simp⟩
  | cut n => exact ⟨by simp [okD]; decide, by simp⟩
theorem step_toD {s : Stp} (h : s.ok) : isStepD s.toD = true := by
  cases s with
  | lower => rfl
  | swap a b =>
    show stepTwo _ _ = true
    unfold stepTwo
    rw [chr_ok h.1, chr_ok h.2]; rfl
  | drop l =>
    obtain ⟨h1, h2, h3, h4⟩ := h
    show (isWrittenD 1 10 (.str l) && decide ((sd l).length = l.length)) = true
    rw [drop_ok h1 h2 h3, sd_self h4]; simp
  | lead c => exact chr_ok h
  | once c => exact chr_ok h
  | cut n =>
    obtain ⟨h1, h2⟩ := h
    show (decide ((1 : Int) ≤ (n : Nat)) && decide (((n : Nat) : Int) ≤ 9)) = true
    rw [decide_eq_true (by omega), decide_eq_true (by omega)]; rfl
theorem toD_inj0 {s t : Stp} (h : s.toD = t.toD) : s = t := by
  cases s <;> cases t <;> simp only [Stp.toD, D.tup.injEq, List.cons.injEq, D.str.injEq, D.int.injEq, reduceCtorEq, and_true, true_and, and_false, false_and] at h <;> try rfl
  all_goals first
    | exact absurd h.1 (by decide)
    | exact absurd h (by decide)
    | (obtain ⟨h1, h2⟩ := h; rw [h1, h2])
    | (obtain ⟨_, h1⟩ := h; rw [h1])
    | rw [h]
    | (rw [Int.ofNat.inj h])
    | skip
/-- what a page is -/
inductive Vd where
  | made (ss : List Stp) | part (k : Nat) | step (k : Nat)
def Vd.toD : Vd → D
  | .made ss => .tup [.str (tl (Str.ofString "made")), rowD ss]
  | .part k => .tup [.str (tl (Str.ofString "part")), .int (k : Nat)]
  | .step k => .tup [.str (tl (Str.ofString "step")), .int (k : Nat)]
/-- reading the parts from one on -/
inductive Reads : Nat → List Stp → List (List Nat) → Vd → Prop
  | nil {k ss} : Reads k ss [] (if ss.length < 7 then .made ss else .step 6)
  | bad {k ss p ps} : readS p = .non → Reads k ss (p :: ps) (.part k)
  | good {k ss p ps v} (s : Stp) : s.ok → readS p = s.toD → Reads (k + 1) (ss ++ [s]) ps v → Reads k ss (p :: ps) v
theorem reads_ok : ∀ (ps : List (List Nat)) (k : Nat) (ss : List Stp), (∀ p ∈ ps, p.length ≤ 1000) → ∃ v, Reads k ss ps v
  | [], _, _, _ => ⟨_, .nil⟩
  | p :: ps, k, ss, h => by
    cases part_is (h p (by simp)) with
    | good s ho hg ht hr hl =>
      obtain ⟨v, hv⟩ := reads_ok ps (k + 1) (ss ++ [s]) fun q hq => h q (by simp [hq])
      exact ⟨v, .good s ho hr hv⟩
    | bad w rs hg hl hr hn hs => exact ⟨_, .bad hr⟩
theorem wrong_steps : ∀ (ss : List Stp) (i : Nat), okRow ss → i ≤ 6 → wrongAt (ss.map Stp.toD) i = if i + ss.length < 7 then none else some 6
  | [], i, _, hi => by rw [if_pos (by simp; omega)]; rfl
  | s :: ss, i, ho, hi => by
    rw [List.map_cons, wrongAt]
    have hs : isStepD s.toD = true := step_toD (ho s (by simp))
    by_cases h6 : i = 6
    · rw [if_pos (.inl (by omega)), if_neg (by simp; omega), h6]
    · rw [if_neg (by rintro (z | z); omega; rw [hs] at z; cases z), wrong_steps ss (i + 1) (fun x hx => ho x (by simp [hx])) (by omega)]
      have : i + 1 + ss.length = i + (s :: ss).length := by simp; omega
      rw [this]
/-- what read_folding does with the parts -/
theorem reads_go {k : Nat} {ss : List Stp} {ps : List (List Nat)} {v : Vd} (h : Reads k ss ps v) : okRow ss → (match rdGo k (ss.map Stp.toD) ps with
    | .part k => v = .part k
    | .made es => ∃ ss', es = ss'.map Stp.toD ∧ okRow ss' ∧ v = if ss'.length < 7 then .made ss' else .step 6) := by
  induction h with
  | @nil k ss => intro ho; exact ⟨ss, rfl, ho, rfl⟩
  | @bad k ss p ps hr =>
    intro ho
    rw [rdGo, hr, if_pos (show nonD .non = true from rfl)]
  | @good k ss p ps v s hs hr _ ih =>
    intro ho
    rw [rdGo, hr, if_neg (by cases s <;> exact Bool.false_ne_true)]
    have := ih (fun x hx => (List.mem_append.mp hx).elim (ho x) fun z => by rw [List.mem_singleton.mp z]; exact hs)
    rw [List.map_append] at this
    exact this
/-- the verdict on a page -/
def PageV (l : List Nat) (v : Vd) : Prop := if l = plainT then v = .made [] else Reads 0 [] (splL betT l) v
theorem page_ok {l : List Nat} (h : l.length ≤ 1000) : ∃ v, PageV l v := by
  unfold PageV
  by_cases z : l = plainT
  · exact ⟨_, by rw [if_pos z]⟩
  · obtain ⟨v, hv⟩ := reads_ok (splL betT l) 0 [] fun p hp => Nat.le_trans (spl_short hp) h
    exact ⟨v, by rw [if_neg z]; exact hv⟩
theorem reads_made {k : Nat} {ss : List Stp} {ps : List (List Nat)} {v : Vd} (h : Reads k ss ps v) : ∀ ss', v = .made ss' → ss'.length ≤ 6 := by
  induction h with
  | @nil k ss =>
    intro ss' e
    split at e
    · cases e; omega
    · cases e
  | bad _ => intro _ e; cases e
  | good s _ _ _ ih => exact ih
/-- what a value is to the reader -/
def PageD (d : D) (v : Vd) : Prop := (∃ l, d = .str l ∧ l.length ≤ 1000 ∧ PageV l v) ∨ (noTextK d = true ∧ v = .part 0)
theorem page_made {d : D} {ss : List Stp} (h : PageD d (.made ss)) : ss.length ≤ 6 := by
  rcases h with ⟨l, rfl, _, h⟩ | ⟨_, h⟩
  · unfold PageV at h
    split at h
    · cases h; simp
    · exact reads_made h ss rfl
  · cases h
def outV (A_Folding A_NoStep A_NoPart : Addr) (Φ : D → Prop) (Ψ : Ex → Prop) : Vd → Prop
  | .made ss => Φ (.obj A_Folding ns_Folding [rowD ss])
  | .part k => Ψ (noPart A_NoPart k)
  | .step k => Ψ (noStep A_NoStep k)
theorem page_sp {A_Folding A_NoStep A_NoPart : Addr} {d : D} {v : Vd} {Φ : D → Prop} {Ψ : Ex → Prop} (hv : PageD d v) (h : outV A_Folding A_NoStep A_NoPart Φ Ψ v) : sp0_read_folding A_Folding A_NoStep A_NoPart [d] Φ Ψ := by
  rcases hv with ⟨l, rfl, hl, hv⟩ | ⟨hd, rfl⟩
  · refine .inl ⟨l, rfl, hl, fun e => ?_, fun ne => ?_⟩
    · unfold PageV at hv
      rw [if_pos e] at hv
      subst hv
      exact h
    · unfold PageV at hv
      rw [if_neg ne] at hv
      have hg := reads_go hv (by intro s hs; cases hs)
      rw [List.map_nil] at hg
      cases e : rdGo 0 [] (splL betT l) with
      | part k =>
        rw [e] at hg
        have hg : v = .part k := hg
        subst hg
        exact h
      | made es =>
        rw [e] at hg
        obtain ⟨ss, rfl, ho, rfl⟩ := hg
        show (match wrongAt (ss.map Stp.toD) 0 with | some i => _ | none => _)
        rw [wrong_steps ss 0 ho (by omega), Nat.zero_add]
        by_cases h7 : ss.length < 7
        · rw [if_pos h7] at h ⊢; exact h
        · rw [if_neg h7] at h ⊢; exact h
  · exact .inr ⟨hd, h⟩
def sp_read_folding (A_Folding A_NoStep A_NoPart : Addr) : Sp' := fun ds Φ Ψ => match ds with
  | [d] => ∃ v, PageD d v ∧ outV A_Folding A_NoStep A_NoPart Φ Ψ v
  | _ => False
abbrev st_read_folding : Stmt := top 31
abbrev N_read_folding : List Str := ["text", "steps", "index", "part", "step"]
theorem sc_read_folding : FnScope N_read_folding ["text"] (defScope st_read_folding) := ⟨rfl, rfl, rfl, by decide +kernel, rfl, by decide +kernel, by decide +kernel⟩
theorem ok_read_folding (Dd : Df K mg "read_folding" st_read_folding ["text"]) (B : Blt mg) (c_BETWEEN : Cst K mg "BETWEEN" d_BETWEEN) (c_PLAIN : Cst K mg "PLAIN" d_PLAIN) (X_NoPart : XC1 P w K mg base "NoPart" A_NoPart "part" 1) (G_Folding___init__ : IFn P w K mg base A_Folding "Folding" ["self", "steps"] true 4 (sp_Folding___init__ A_Folding A_NoStep) 0) (G_read_step_texts : Fn P w K mg base "read_step_texts" ["part"] 4 sp_read_step_texts 0) : Fn P w K mg base "read_folding" ["text"] 6 (sp_read_folding A_Folding A_NoStep A_NoPart) 0 := by
  refine fnE 0 Dd sc_read_folding (by intro ds Φ Ψ h; unfold sp_read_folding at h; split at h <;> first | rfl | exact h.elim) ⟨_, _, fun f cdv A outer s H E hr =>
      (qs_cons (qifS (qtcmp (op_eqGD hr.units) eqLD (qv 0) c_PLAIN.pe (nomark _))
      (qs_one (qret (qmake0 G_Folding___init__ (hr.mono (by decide)) (takes_of rfl rfl rfl rfl))))
      qs_nil)
      (qs_cons (qifS (qnotT (qtru (qisi isi_str (.ty _) B.isinstance (qv 0) (pe_bltn rfl B.str (by decide +kernel) rfl))))
      (qs_one (qraise1 X_NoPart (hr.mono (by decide)) (takes_of rfl rfl rfl rfl) qint))
      qs_nil)
      (qs_cons (qset 1 (qlst (kind := (some 0)) qa_nil) sc_read_folding.nd)
      (qs_cons (qforC 0 (qi_enum B.enumerate (qa_cons (qms PySem.F.slot_str_split PySem.F.type_str_split mt_split (splitM (kind := none)) (qv 0) (qa_cons c_BETWEEN.pe qa_nil)) qa_nil)) (qg_tup 2 rfl (qgs_cons (qg_name 2 sc_read_folding.nd) (qgs_cons (qg_name 3 sc_read_folding.nd) qgs_nil)))
      (qs_cons (qset 4 (qcallF G_read_step_texts (hr.mono (by decide)) (takes_of rfl rfl rfl rfl) (qa_cons (qv 3) qa_nil)) sc_read_folding.nd)
      (qs_cons (qifS (qtcmp op_isN (isL (g := fun b => b)) (qv 4) qnon (nomark _))
      (qs_one (qraise1 X_NoPart (hr.mono (by decide)) (takes_of rfl rfl rfl rfl) (qv 2)))
      qs_nil)
      (qs_one (qexpr (qapp (qv 1) (qv 4)))))) (passes_of rfl) rfl)
      (qs_one (qret (qmake G_Folding___init__ (hr.mono (by decide)) (takes_of rfl rfl rfl rfl) (qa_cons (qcT call_tuple_of tupleL B.tuple (by decide +kernel) (qa_cons (qv 1) qa_nil)) qa_nil)))))))), by decide, ?_⟩
  intro ds Φ Ψ q
  unfold sp_read_folding at q
  split at q
  · rename_i d
    obtain ⟨v, hv, q⟩ := q
    replace q := page_sp hv q
    unfold sp0_read_folding at q
    rcases q with ⟨l, rfl, hl, q1, q2⟩ | ⟨hd, q⟩
    · refine iteB (c := decide (l = plainT)) (fun e => ?_) (fun e => ?_)
      · have := q1 (of_decide_eq_true e)
        exact ⟨⟨by simp, by simp⟩, this⟩
      · have q2 := q2 (of_decide_eq_false e)
        refine ⟨⟨by decide, by omega⟩, ?_⟩
        have sl := spl_le betT l
        refine ⟨Nat.le_of_eq (Nat.mul_zero _), ?_⟩
        refine forD_inv (fun rest env S => ∃ (k : Nat) (ps : List (List Nat)) (acc : List D) (e2 e3 e4 : Option U), rest = enumD (ps.map .str) k ∧ rdGo k acc ps = rdGo 0 [] (splL betT l) ∧ (∀ p ∈ ps, p.length ≤ 1000) ∧ acc.length + ps.length ≤ 1002 ∧ (∀ d ∈ acc, okV d) ∧ env = [some (.d (.str l)), some (.r 0), e2, e3, e4] ∧ S = [some (.lst acc)]) ?_ _ _ _ ⟨0, splL betT l, [], _, _, _, rfl, rfl, fun p hp => Nat.le_trans (spl_short hp) hl, by simp; omega, by simp, rfl, rfl⟩ ?_
        · rintro env S ⟨k, ps, acc, e2, e3, e4, hr, h1, h2, h3, h4, rfl, rfl⟩
          cases ps with
          | cons p ps => simp [enumD] at hr
          | nil =>
            rw [← h1] at q2
            exact ⟨⟨h4, by simp at h3; omega⟩, q2⟩
        · rintro d rest env S ⟨k, ps, acc, e2, e3, e4, hr, h1, h2, h3, h4, rfl, rfl⟩ go
          cases ps with
          | nil => simp [enumD] at hr
          | cons p ps =>
            have hr' : d = .tup [.int (k : Nat), .str p] ∧ rest = enumD (ps.map .str) (k + 1) := by simpa [enumD] using hr
            obtain ⟨rfl, rfl⟩ := hr'
            refine ⟨p, rfl, h2 p (by simp), ?_⟩
            have hs := @readS_step p
            rw [rdGo] at h1
            generalize readS p = d at hs h1
            cases e5 : nonD d with
            | true =>
              rw [e5, if_pos rfl] at h1
              rw [← h1] at q2
              cases d <;> first | (cases e5; done) | exact ⟨q2, rfl⟩ | exact ⟨rfl, q2⟩ | exact ⟨rfl, q2, rfl⟩ | skip
            | false =>
              rw [e5, if_neg (by decide)] at h1
              have hd := isStep_okV (hs e5)
              cases d <;> first | (cases hs e5; done) | skip
              have h3 : acc.length + (ps.length + 1) ≤ 1002 := h3
              exact ⟨rfl, Nat.lt_of_lt_of_le (show acc.length < 2000 by omega) (by decide), go _ _ ⟨k + 1, ps, _, _, _, _, rfl, h1, fun p hp => h2 p (List.mem_cons_of_mem _ hp), by rw [List.length_append]; show acc.length + 1 + ps.length ≤ 1002; omega, fun d hd2 => (List.mem_append.mp hd2).elim (h4 d) (fun z => by rw [List.mem_singleton.mp z]; exact hd), rfl, rfl⟩⟩
    · cases d <;> first | (cases hd; done) | exact q | exact ⟨_, .inr (.ts rfl), q⟩ | exact ⟨_, .inr (.ls rfl), q⟩
  · exact q.elim
end
section
variable {P : Program} {w : World} {K : PySem.W.Frag} {mg : Str → Option Value} {base : Heap} {A_PlainError : Addr} {A_NoText : Addr} {A_NoStep : Addr} {A_NoPart : Addr} {A_Folding : Addr}
abbrev sp__law_draw : Sp' := spDraw
abbrev st__law_draw : Stmt := top 34
abbrev N__law_draw : List Str := ["well", "many", "found", "turn", "mixed"]
theorem sc__law_draw : FnScope N__law_draw ["well", "many"] (defScope st__law_draw) := ⟨rfl, rfl, rfl, by decide +kernel, rfl, by decide +kernel, by decide +kernel⟩
theorem ok__law_draw (Dd : Df K mg "_law_draw" st__law_draw ["well", "many"]) (B : Blt mg) : Fn P w K mg base "_law_draw" ["well", "many"] 1 sp__law_draw 1 := by
  refine drawE Dd sc__law_draw rfl ⟨_, _, fun f cdv A outer s H E hr =>
      (qs_cons (qifS (qtcmp op_gt ordL (qix (qv 0) qint) qint (nomark _))
      (qs_cons (qset 2 (qmod (qcT call_int1 intL B.int (by decide +kernel) (qa_cons (qix (qv 0) qint) qa_nil)) (qv 1)) sc__law_draw.nd)
      (qs_cons (qsetix (qfdiv (qix (qv 0) qint) (qv 1)) (qv 0) qint)
      (qs_one (qret (qv 2)))))
      qs_nil)
      (qs_cons (qset 3 (qadd (kind := none) (qix (qv 0) qint) qint) sc__law_draw.nd)
      (qs_cons (qsetix (qv 3) (qv 0) qint)
      (qs_cons (qset 4 (qmod (qcT call_int1 intL B.int (by decide +kernel) (qa_cons (qadd (kind := none) (qpow (qadd (kind := none) (qix (qv 0) qint) (qmul (kind := none) qint (qv 3))) qint) (qmul (kind := none) qint (qv 3))) qa_nil)) (qadd (kind := none) (qpow qint qint) qint)) sc__law_draw.nd)
      (qs_cons (qset 4 (qmod (qcT call_int1 intL B.int (by decide +kernel) (qa_cons (qpow (qadd (kind := none) (qv 4) (qmul (kind := none) qint (qv 3))) qint) qa_nil)) (qadd (kind := none) (qpow qint qint) qint)) sc__law_draw.nd)
      (qs_one (qret (qmod (qcT call_int1 intL B.int (by decide +kernel) (qa_cons (qfdiv (qv 4) (qpow qint qint)) qa_nil)) (qv 1))))))))), by rfl, ?_⟩
  intro x y c m Φ J hc m0 m1 q
  obtain ⟨hx, hy, hy2, h0⟩ := J
  walk_at "st"
  refine ite2 (fun h => ?_) (fun h => ?_)
  · refine ⟨_, rfl, m0, _, rfl, divOk m0 (by omega), _, rfl, ⟨⟨Int.ediv_nonneg hx (by omega), hy, hy2, h0⟩, by omega, Int.emod_nonneg _ (by omega), Int.emod_lt_of_pos _ m0⟩, q _ (Int.emod_nonneg _ (by omega)) (Int.emod_lt_of_pos _ m0)⟩
  · walk_at "st"
    refine ⟨powOk (by omega) (by omega) (by omega) (by omega), ?_⟩
    walk_at "st"
    refine ⟨powOk (by decide) (by decide) (by decide) (by decide), show (0 : Int) < _ by decide, ?_⟩
    walk_at "st"
    have b1 := Int.emod_nonneg ((y + 15485863 * (c + 1)) ^ Int.toNat 3 + 982451653 * (c + 1)) (show (10 ^ Int.toNat 40 + 121 : Int) ≠ 0 by decide)
    have b2 := Int.emod_lt_of_pos ((y + 15485863 * (c + 1)) ^ Int.toNat 3 + 982451653 * (c + 1)) (show (0 : Int) < 10 ^ Int.toNat 40 + 121 by decide)
    have b3 : (10 ^ Int.toNat 40 + 121 : Int) < 2 ^ 200 := by decide
    refine ⟨powOk (by omega) (by omega) (by decide) (by decide), ?_⟩
    walk_at "st"
    refine ⟨powOk (by decide) (by decide) (by decide) (by decide), show (0 : Int) < _ by decide, ?_⟩
    walk_at "st"
    refine ⟨powOk (by decide) (by decide) (by decide) (by decide), divOk (by decide) (by decide), m0, ?_⟩
    exact ⟨⟨⟨hx, hy, hy2, by omega⟩, by omega, Int.emod_nonneg _ (by omega), Int.emod_lt_of_pos _ m0⟩, q _ (Int.emod_nonneg _ (by omega)) (Int.emod_lt_of_pos _ m0)⟩
def scrD (ns : List Int) : D := .scr (ns.map .int)
def sp__law_well : Sp' := fun ds Φ _ => match ds with
  | [d, .int k] => ∃ ns, d = scrD ns ∧ 0 ≤ k ∧ k ≤ 1000 ∧ Φ .jar
  | _ => False
abbrev st__law_well : Stmt := top 33
abbrev N__law_well : List Str := ["script", "k", "cell", "deep"]
theorem sc__law_well : FnScope N__law_well ["script", "k"] (defScope st__law_well) := ⟨rfl, rfl, rfl, by decide +kernel, rfl, by decide +kernel, by decide +kernel⟩
theorem ok__law_well (Dd : Df K mg "_law_well" st__law_well ["script", "k"]) (B : Blt mg) : Fn P w K mg base "_law_well" ["script", "k"] 1 sp__law_well 0 := by
  refine jarE 0 Dd sc__law_well (by intro ds Φ Ψ h; unfold sp__law_well at h; split at h <;> first | rfl | exact h.elim) ⟨_, _, fun f cdv A outer s H E hr =>
      (qs_cons (qset 2 qint sc__law_well.nd)
      (qs_cons (qifS (qtcmp op_lt ordL (qv 1) (qcB call_lenA lenL B.len (by decide +kernel) (qa_cons (qv 0) qa_nil)) (nomark _))
      (qs_one (qset 2 (qcT call_int1 intL B.int (by decide +kernel) (qa_cons (qix (qv 0) (qv 1)) qa_nil)) sc__law_well.nd))
      qs_nil)
      (qs_cons (qset 3 (qmul (kind := none) qint (qv 2)) sc__law_well.nd)
      (qs_cons (qifS (qtcmp op_lt ordL (qv 2) qint (nomark _))
      (qs_one (qset 3 (qsub (qmul (kind := none) (qneg qint) (qv 2)) qint) sc__law_well.nd))
      qs_nil)
      (qs_one (qret (qlst (kind := (some 0)) (qa_cons (qcB (call_max2 rfl) maxL B.max (by decide +kernel) (qa_cons qint (qa_cons (qsub (qv 3) (qpow qint qint)) qa_nil))) (qa_cons (qadd (kind := none) (qmod (qcT call_int1 intL B.int (by decide +kernel) (qa_cons (qv 3) qa_nil)) (qadd (kind := none) (qpow qint qint) qint)) (qmul (kind := none) qint (qv 1))) (qa_cons qint qa_nil)))))))))), by decide, ?_⟩
  intro ds Φ Ψ q
  unfold sp__law_well at q
  split at q
  · rename_i k
    obtain ⟨ns, rfl, h0, h1, q⟩ := q
    have main : ∀ cell a : Int, JarOk (if a - 10 ^ Int.toNat 18 > 0 then a - 10 ^ Int.toNat 18 else 0) (cell % (10 ^ Int.toNat 27 + 103) + 65537 * k) 0 := fun cell a => by
      have b1 := Int.emod_nonneg cell (show (10 ^ Int.toNat 27 + 103 : Int) ≠ 0 by decide)
      have b2 := Int.emod_lt_of_pos cell (show (0 : Int) < 10 ^ Int.toNat 27 + 103 by decide)
      have b3 : (10 ^ Int.toNat 27 + 103 : Int) < 2 ^ 199 := by decide
      have b4 : (65537 * 1000 : Int) < 2 ^ 199 := by decide
      refine ⟨?_, by omega, by omega, by omega⟩
      split <;> omega
    have last : ∀ cell : Int, True := fun _ => trivial
    refine ite2 (fun e => ?_) (fun e => ?_)
    · have e1 : k < ((ns.map D.int).length : Int) := of_decide_eq_true e
      obtain ⟨x, hx, ex⟩ := atI_mem h0 e1
      obtain ⟨i, hi, rfl⟩ := List.mem_map.mp hx
      refine ⟨_, ex, ?_⟩
      walk_at "st"
      refine ite2 (fun e2 => ?_) (fun e2 => ?_)
      · walk_at "st"
        refine ⟨powOk (by decide) (by decide) (by decide) (by decide), ?_⟩
        walk_at "st"
        refine ⟨powOk (by decide) (by decide) (by decide) (by decide), show (0 : Int) < _ by decide, ?_⟩
        walk_at "st"
        exact ⟨⟨main _ _, rfl⟩, q⟩
      · walk_at "st"
        refine ⟨powOk (by decide) (by decide) (by decide) (by decide), ?_⟩
        walk_at "st"
        refine ⟨powOk (by decide) (by decide) (by decide) (by decide), show (0 : Int) < _ by decide, ?_⟩
        walk_at "st"
        exact ⟨⟨main _ _, rfl⟩, q⟩
    · walk_at "st"
      refine ⟨powOk (by decide) (by decide) (by decide) (by decide), ?_⟩
      walk_at "st"
      refine ⟨powOk (by decide) (by decide) (by decide) (by decide), show (0 : Int) < _ by decide, ?_⟩
      walk_at "st"
      exact ⟨⟨main 0 0, rfl⟩, q⟩
  · exact q.elim
theorem ch_lit : tl (Str.ofString "abcdefghijklmnopqrstuvwxyzABCDEFGHIJKLMNOPQRSTUVWXYZ0123456789 -._/'") = CH := by decide +kernel
theorem chs_at {r : Int} (h0 : 0 ≤ r) (h : r < 68) : ∃ c ∈ CH, atI CH r = some c := atI_mem h0 (by rw [ch_len]; exact h)
def sp__law_chars : Sp' := fun ds Φ _ => match ds with
  | [] => Φ (.str CH)
  | _ => False
abbrev st__law_chars : Stmt := top 35
abbrev N__law_chars : List Str := []
theorem sc__law_chars : FnScope N__law_chars [] (defScope st__law_chars) := ⟨rfl, rfl, rfl, by decide +kernel, rfl, by decide +kernel, by decide +kernel⟩
theorem ok__law_chars (Dd : Df K mg "_law_chars" st__law_chars []) (B : Blt mg) : Fn P w K mg base "_law_chars" [] 1 sp__law_chars 0 := by
  refine fnE 0 Dd sc__law_chars (by intro ds Φ Ψ h; unfold sp__law_chars at h; split at h <;> first | rfl | exact h.elim) ⟨_, _, fun f cdv A outer s H E hr =>
      (qs_one (qret qstr)), by decide, ?_⟩
  intro ds Φ Ψ q
  unfold sp__law_chars at q
  split at q
  · rw [← ch_lit] at q
    exact q
  · exact q.elim
def isPool (l : List Nat) : Prop := l.length = 6 ∧ ∀ c ∈ l, c ∈ CH
theorem sig_of : ∀ {ys : List D}, (∀ y ∈ ys, ∃ c ∈ CH, y = .str [c]) → ∃ cs : List Nat, ys = cs.map (fun c => .str [c]) ∧ ∀ c ∈ cs, c ∈ CH
  | [], _ => ⟨[], rfl, by simp⟩
  | y :: ys, h => by
    obtain ⟨c, hc, e⟩ := h y (by simp)
    obtain ⟨cs, e2, hcs⟩ := sig_of (ys := ys) fun z hz => h z (by simp [hz])
    refine ⟨c :: cs, by rw [e, e2]; rfl, fun d hd => ?_⟩
    rcases List.mem_cons.mp hd with rfl | hd
    · exact hc
    · exact hcs d hd
theorem chs_len : CH.length ≤ sizeLine := len_ok (by rw [ch_len]; decide)
def sp__law_pool : Sp' := fun ds Φ _ => match ds with
  | [.jar] => ∀ l, isPool l → Φ (.str l)
  | _ => False
abbrev st__law_pool : Stmt := top 36
abbrev N__law_pool : List Str := ["well", "chars", "letter", "more", "k"]
theorem sc__law_pool : FnScope N__law_pool ["well"] (defScope st__law_pool) := ⟨rfl, rfl, rfl, by decide +kernel, rfl, by decide +kernel, by decide +kernel⟩
theorem ok__law_pool (Dd : Df K mg "_law_pool" st__law_pool ["well"]) (B : Blt mg) (G__law_draw : Fn P w K mg base "_law_draw" ["well", "many"] 1 sp__law_draw 1) (G__law_chars : Fn P w K mg base "_law_chars" [] 1 sp__law_chars 0) : Fn P w K mg base "_law_pool" ["well"] 2 sp__law_pool 5 := by
  refine fnE 0 Dd sc__law_pool (by intro ds Φ Ψ h; unfold sp__law_pool at h; split at h <;> first | rfl | exact h.elim) ⟨_, _, fun f cdv A outer s H E hr =>
      (qs_cons (qasg (qtup (qa_cons (qcallF0 G__law_chars (hr.mono (by decide)) (takes_of rfl rfl rfl rfl)) (qa_cons (qcallF G__law_draw (hr.mono (by decide)) (takes_of rfl rfl rfl rfl) (qa_cons (qv 0) (qa_cons qint qa_nil))) qa_nil))) (qg_tup 2 rfl (qgs_cons (qg_name 1 sc__law_pool.nd) (qgs_cons (qg_name 2 sc__law_pool.nd) qgs_nil))))
      (qs_cons (qset 3 (qms PySem.F.slot_str_join PySem.F.type_str_join mt_join joinM qstr (qa_cons (qlc (kind := none) 4 rfl sc__law_pool.nd (qi_range B.range (qa_cons qint qa_nil)) (blkOk_by (own := [("k", 4)]) (N := N__law_pool) (sc := defScope st__law_pool) (by decide +kernel)) (tgt_name (by decide)) (fun _ _ _ _ _ => (pg_name (i := 4) sc__law_pool.nd rfl (Or.inl rfl))) (fun _ _ _ _ _ => qts_nil) (fun _ _ _ _ _ => (qix (qv 1) (qcallF G__law_draw (hr.mono (by decide)) takes0 (qa_cons (qv 0) (qa_cons qint qa_nil)))))) qa_nil)) sc__law_pool.nd)
      (qs_one (qret (qadd (kind := none) (qadd (kind := none) (qix (qv 1) (qv 2)) (qix (qv 1) (qadd (kind := none) qint (qv 2)))) (qv 3)))))), by decide, ?_⟩
  intro ds Φ Ψ q
  unfold sp__law_pool at q
  split at q
  · refine ⟨by decide, fun r h0 h1 => ?_⟩
    have h1 : r < 26 := h1
    refine ⟨⟨by decide, by decide⟩, ⟨by rw [rangeD_len]; decide, by rw [rangeD_len]; decide⟩, ?_⟩
    refine compD_all (n := 4) (fun y => ∃ c ∈ CH, y = .str [c]) (fun acc hl2 ha => ?_) _ [] (by rw [rangeD_len]; rfl) (by simp) (fun d hd rest acc k => ?_)
    · obtain ⟨cs, rfl, hcs⟩ := sig_of ha
      have hn : cs.length = 4 := by simpa using hl2
      refine ⟨_, _, rfl, asStrs_map (fun c => [c]) cs, ?_, ?_⟩
      · have := sum_le (n := 1) (ls := cs.map fun c => [c]) (by simp)
        rw [List.length_map] at *
        rw [show (tl (Str.ofString "")).length = 0 from rfl]
        omega
      rw [show tl (Str.ofString "") = [] from rfl, joinL_strs]
      obtain ⟨c1, hc1, e1⟩ := chs_at h0 (by omega)
      obtain ⟨c2, hc2, e2⟩ := chs_at (r := 26 + r) (by omega) (by omega)
      refine ⟨chs_len, c1, e1, chs_len, c2, e2, len_ok (by simp), len_ok (by simp; omega), ?_⟩
      refine q _ ⟨by simp; omega, fun c hc => ?_⟩
      simp only [List.mem_append, List.mem_singleton] at hc
      rcases hc with (rfl | rfl) | hc
      · exact hc1
      · exact hc2
      · exact hcs c hc
    · refine ⟨by decide, fun r2 h2 h3 => ?_⟩
      obtain ⟨c, hc, e⟩ := chs_at h2 h3
      exact ⟨chs_len, c, e, k _ ⟨c, hc, rfl⟩⟩
  · exact q.elim
theorem pool_at {l : List Nat} (h : isPool l) {r : Int} (h0 : 0 ≤ r) (h1 : r < 6) : ∃ c ∈ CH, atI l r = some c := by
  obtain ⟨c, hc, e⟩ := atI_mem (l := l) h0 (by rw [h.1]; exact h1)
  exact ⟨c, h.2 c hc, e⟩
theorem pool_len {l : List Nat} (h : isPool l) : l.length ≤ sizeLine := len_ok (by rw [h.1]; decide)
def sp__law_character : Sp' := fun ds Φ _ => match ds with
  | [.jar, .str l] => isPool l ∧ ∀ c ∈ CH, Φ (.str [c])
  | _ => False
abbrev st__law_character : Stmt := top 37
abbrev N__law_character : List Str := ["well", "pool"]
theorem sc__law_character : FnScope N__law_character ["well", "pool"] (defScope st__law_character) := ⟨rfl, rfl, rfl, by decide +kernel, rfl, by decide +kernel, by decide +kernel⟩
theorem ok__law_character (Dd : Df K mg "_law_character" st__law_character ["well", "pool"]) (B : Blt mg) (G__law_draw : Fn P w K mg base "_law_draw" ["well", "many"] 1 sp__law_draw 1) (G__law_chars : Fn P w K mg base "_law_chars" [] 1 sp__law_chars 0) : Fn P w K mg base "_law_character" ["well", "pool"] 2 sp__law_character 3 := by
  refine fnE 0 Dd sc__law_character (by intro ds Φ Ψ h; unfold sp__law_character at h; split at h <;> first | rfl | exact h.elim) ⟨_, _, fun f cdv A outer s H E hr =>
      (qs_cons (qifS (qtcmp (op_eqG hr.units) eqL (qcallF G__law_draw (hr.mono (by decide)) (takes_of rfl rfl rfl rfl) (qa_cons (qv 0) (qa_cons qint qa_nil))) qint (nomark _))
      (qs_one (qret (qix (qcallF0 G__law_chars (hr.mono (by decide)) (takes_of rfl rfl rfl rfl)) (qcallF G__law_draw (hr.mono (by decide)) (takes_of rfl rfl rfl rfl) (qa_cons (qv 0) (qa_cons qint qa_nil))))))
      qs_nil)
      (qs_one (qret (qix (qv 1) (qcallF G__law_draw (hr.mono (by decide)) (takes_of rfl rfl rfl rfl) (qa_cons (qv 0) (qa_cons qint qa_nil))))))), by decide, ?_⟩
  intro ds Φ Ψ q
  unfold sp__law_character at q
  split at q
  · obtain ⟨hp, q⟩ := q
    refine ⟨by decide, fun r h0 h1 => ?_⟩
    refine ite2 (fun _ => ?_) (fun _ => ?_)
    · refine ⟨by decide, fun r2 h2 h3 => ?_⟩
      obtain ⟨c, hc, e⟩ := chs_at h2 h3
      exact ⟨chs_len, c, e, q c hc⟩
    · refine ⟨by decide, fun r2 h2 h3 => ?_⟩
      obtain ⟨c, hc, e⟩ := pool_at hp h2 h3
      exact ⟨pool_len hp, c, e, q c hc⟩
  · exact q.elim
def sp__law_step : Sp' := fun ds Φ _ => match ds with
  | [.jar, .str p] => isPool p ∧ ∀ s : Stp, s.ok → Φ s.toD
  | _ => False
abbrev st__law_step : Stmt := top 38
abbrev N__law_step : List Str := ["well", "pool", "way", "found", "turn", "one"]
theorem sc__law_step : FnScope N__law_step ["well", "pool"] (defScope st__law_step) := ⟨rfl, rfl, rfl, by decide +kernel, rfl, by decide +kernel, by decide +kernel⟩
theorem ok__law_step (Dd : Df K mg "_law_step" st__law_step ["well", "pool"]) (B : Blt mg) (G__law_draw : Fn P w K mg base "_law_draw" ["well", "many"] 1 sp__law_draw 1) (G__law_character : Fn P w K mg base "_law_character" ["well", "pool"] 2 sp__law_character 3) : Fn P w K mg base "_law_step" ["well", "pool"] 3 sp__law_step 42 := by
  refine fnE 0 Dd sc__law_step (by intro ds Φ Ψ h; unfold sp__law_step at h; split at h <;> first | rfl | exact h.elim) ⟨_, _, fun f cdv A outer s H E hr =>
      (qs_cons (qset 2 (qcallF G__law_draw (hr.mono (by decide)) (takes_of rfl rfl rfl rfl) (qa_cons (qv 0) (qa_cons qint qa_nil))) sc__law_step.nd)
      (qs_cons (qifS (qtcmp (op_eqG hr.units) eqL (qv 2) qint (nomark _))
      (qs_one (qret (qtup (qa_cons qstr qa_nil))))
      qs_nil)
      (qs_cons (qifS (qtcmp (op_eqG hr.units) eqL (qv 2) qint (nomark _))
      (qs_one (qret (qtup (qa_cons qstr (qa_cons (qcallF G__law_character (hr.mono (by decide)) (takes_of rfl rfl rfl rfl) (qa_cons (qv 0) (qa_cons (qv 1) qa_nil))) (qa_cons (qcallF G__law_character (hr.mono (by decide)) (takes_of rfl rfl rfl rfl) (qa_cons (qv 0) (qa_cons (qv 1) qa_nil))) qa_nil))))))
      qs_nil)
      (qs_cons (qifS (qtcmp (op_eqG hr.units) eqL (qv 2) qint (nomark _))
      (qs_cons (qset 3 qstr sc__law_step.nd)
      (qs_cons (qforC 30 (qi_range B.range (qa_cons (qadd (kind := none) qint (qcallF G__law_draw (hr.mono (by decide)) (takes_of rfl rfl rfl rfl) (qa_cons (qv 0) (qa_cons qint qa_nil)))) qa_nil)) (qg_name 4 sc__law_step.nd)
      (qs_cons (qset 5 (qcallF G__law_character (hr.mono (by decide)) (takes_of rfl rfl rfl rfl) (qa_cons (qv 0) (qa_cons (qv 1) qa_nil))) sc__law_step.nd)
      (qs_one (qifS (qtcmp op_niG inL (qv 5) (qv 3) rfl)
      (qs_one (qset 3 (qadd (kind := none) (qv 3) (qv 5)) sc__law_step.nd))
      qs_nil))) (passes_of rfl) rfl)
      (qs_one (qret (qtup (qa_cons qstr (qa_cons (qv 3) qa_nil)))))))
      qs_nil)
      (qs_cons (qifS (qtcmp op_lt ordL (qv 2) qint (nomark _))
      (qs_one (qret (qtup (qa_cons (qix (qlst (kind := none) (qa_cons qstr (qa_cons qstr qa_nil))) (qsub (qv 2) qint)) (qa_cons (qcallF G__law_character (hr.mono (by decide)) (takes_of rfl rfl rfl rfl) (qa_cons (qv 0) (qa_cons (qv 1) qa_nil))) qa_nil)))))
      qs_nil)
      (qs_one (qret (qtup (qa_cons qstr (qa_cons (qadd (kind := none) qint (qcallF G__law_draw (hr.mono (by decide)) (takes_of rfl rfl rfl rfl) (qa_cons (qv 0) (qa_cons qint qa_nil)))) qa_nil)))))))))), by decide, ?_⟩
  intro ds Φ Ψ q
  unfold sp__law_step at q
  split at q
  · rename_i p
    obtain ⟨hp, q⟩ := q
    refine ⟨by decide, fun way h0 h1 => ?_⟩
    refine ite2 (fun _ => q .lower trivial) (fun n0 => ?_)
    have n0 : ¬ way = 0 := fun z => n0 (decide_eq_true z)
    refine ite2 (fun _ => ?_) (fun n1 => ?_)
    · exact ⟨hp, fun a ha => ⟨hp, fun b hb => q (.swap a b) ⟨ha, hb⟩⟩⟩
    have n1 : ¬ way = 1 := fun z => n1 (decide_eq_true z)
    refine ite2 (fun _ => ?_) (fun n2 => ?_)
    · refine ⟨by decide, fun r3 h6 h7 => ?_⟩
      have h7 : r3 < 10 := h7
      refine ⟨⟨by omega, by omega⟩, ?_⟩
      refine ⟨by rw [rangeD_len]; omega, ?_⟩
      refine forD_inv (fun rest env S => ∃ (l : List Nat) (e4 e5 : Option U), (l = [] → rest ≠ []) ∧ l.length + rest.length ≤ 10 ∧ (∀ c ∈ l, c ∈ CH) ∧ l.Nodup ∧ env = [some (.d .jar), some (.d (.str p)), some (.d (.int way)), some (.d (.str l)), e4, e5] ∧ S = []) ?_ _ _ _
        ⟨[], _, _, fun _ z => by have z := congrArg List.length z; rw [rangeD_len] at z; simp at z; omega, by rw [rangeD_len]; simp; omega, by simp, by simp, rfl, rfl⟩ ?_
      · rintro env S ⟨l, e4, e5, h4, h5, h6, h7, rfl, rfl⟩
        have : l ≠ [] := fun z => h4 z rfl
        exact q (.drop l) ⟨by cases l with | nil => exact absurd rfl this | cons => simp, by simpa using h5, h6, h7⟩
      · rintro d rest env S ⟨l, e4, e5, h4, h5, h6, h7, rfl, rfl⟩ k
        simp only [List.length_cons] at h5
        refine ⟨hp, fun c3 hc3 => ?_⟩
        refine ite2 (fun y => ?_) (fun y => ?_)
        · have z : c3 ∉ l := by simpa using y
          refine ⟨len_ok (by simp; omega), ?_⟩
          refine k _ _ ⟨l ++ [c3], _, _, by simp, by simp; omega, fun d hd => ?_, ?_, rfl, rfl⟩
          · rcases List.mem_append.mp hd with y | y
            · exact h6 d y
            · rw [List.mem_singleton.mp y]; exact hc3
          · refine List.nodup_append.mpr ⟨h7, by simp, fun a ha b hb => ?_⟩
            rw [List.mem_singleton.mp hb]
            rintro rfl
            exact z ha
        · have z : c3 ∈ l := by simpa using y
          exact k _ _ ⟨l, _, _, (by intro w; rw [w] at z; cases z), by omega, h6, h7, rfl, rfl⟩
    have n2 : ¬ way = 2 := fun z => n2 (decide_eq_true z)
    refine ite2 (fun w5 => ?_) (fun w5 => ?_)
    · have w5 : way < 5 := of_decide_eq_true w5
      have hw : way = 3 ∨ way = 4 := by omega
      rcases hw with rfl | rfl
      · exact ⟨_, rfl, hp, fun c hc => q (.lead c) hc⟩
      · exact ⟨_, rfl, hp, fun c hc => q (.once c) hc⟩
    · refine ⟨by decide, fun r3 h6 h7 => ?_⟩
      have h7 : r3 < 9 := h7
      have e2 : (1 : Int) + r3 = ((r3.toNat + 1 : Nat) : Int) := by omega
      have q1 := q (.cut (r3.toNat + 1)) ⟨by omega, by omega⟩
      have q2 : Φ (.tup [.str (tl (Str.ofString "cut")), .int (1 + r3)]) := by rw [e2]; exact q1
      exact q2
  · exact q.elim
theorem steps_of : ∀ {ys : List D}, (∀ y ∈ ys, ∃ s : Stp, s.ok ∧ y = s.toD) → ∃ ss : List Stp, ys = ss.map Stp.toD ∧ okRow ss
  | [], _ => ⟨[], rfl, by intro s hs; cases hs⟩
  | y :: ys, h => by
    obtain ⟨s, hs, e⟩ := h y (by simp)
    obtain ⟨ss, e2, hss⟩ := steps_of (ys := ys) fun z hz => h z (by simp [hz])
    refine ⟨s :: ss, by rw [e, e2]; rfl, fun d hd => ?_⟩
    rcases List.mem_cons.mp hd with rfl | hd
    · exact hs
    · exact hss d hd
def sp__law_steps : Sp' := fun ds Φ _ => match ds with
  | [.jar, .str p] => isPool p ∧ ∀ ss : List Stp, ss.length ≤ 6 → okRow ss → Φ (rowD ss)
  | _ => False
abbrev st__law_steps : Stmt := top 39
abbrev N__law_steps : List Str := ["well", "pool", "turn"]
theorem sc__law_steps : FnScope N__law_steps ["well", "pool"] (defScope st__law_steps) := ⟨rfl, rfl, rfl, by decide +kernel, rfl, by decide +kernel, by decide +kernel⟩
theorem ok__law_steps (Dd : Df K mg "_law_steps" st__law_steps ["well", "pool"]) (B : Blt mg) (G__law_draw : Fn P w K mg base "_law_draw" ["well", "many"] 1 sp__law_draw 1) (G__law_step : Fn P w K mg base "_law_step" ["well", "pool"] 3 sp__law_step 42) : Fn P w K mg base "_law_steps" ["well", "pool"] 4 sp__law_steps 253 := by
  refine fnE 0 Dd sc__law_steps (by intro ds Φ Ψ h; unfold sp__law_steps at h; split at h <;> first | rfl | exact h.elim) ⟨_, _, fun f cdv A outer s H E hr =>
      (qs_one (qret (qcT call_tuple_of tupleL B.tuple (by decide +kernel) (qa_cons (qlc (kind := none) 252 rfl sc__law_steps.nd (qi_range B.range (qa_cons (qcallF G__law_draw (hr.mono (by decide)) (takes_of rfl rfl rfl rfl) (qa_cons (qv 0) (qa_cons qint qa_nil))) qa_nil)) (blkOk_by (own := [("turn", 2)]) (N := N__law_steps) (sc := defScope st__law_steps) (by decide +kernel)) (tgt_name (by decide)) (fun _ _ _ _ _ => (pg_name (i := 2) sc__law_steps.nd rfl (Or.inl rfl))) (fun _ _ _ _ _ => qts_nil) (fun _ _ _ _ _ => (qcallF G__law_step (hr.mono (by decide)) takes0 (qa_cons (qv 0) (qa_cons (qv 1) qa_nil))))) qa_nil)))), by decide, ?_⟩
  intro ds Φ Ψ q
  unfold sp__law_steps at q
  split at q
  · obtain ⟨hp, q⟩ := q
    refine ⟨by decide, fun r h0 h1 => ?_⟩
    have h1 : r < 7 := h1
    refine ⟨⟨by omega, by omega⟩, ?_⟩
    refine ⟨⟨by rw [rangeD_len]; omega, by rw [rangeD_len]; omega⟩, ?_⟩
    refine compD_all (n := r.toNat) (fun y => ∃ s : Stp, s.ok ∧ y = s.toD) (fun acc hl2 ha => ?_) _ [] (by rw [rangeD_len]; simp) (by simp) (fun d hd rest acc k => ?_)
    · obtain ⟨ss, e3, hss⟩ := steps_of ha
      rw [e3]
      refine q ss ?_ hss
      have := congrArg List.length e3
      simp at this
      omega
    · exact ⟨hp, fun s hs => k _ ⟨s, hs, rfl⟩⟩
  · exact q.elim
end
section
variable {P : Program} {w : World} {K : PySem.W.Frag} {mg : Str → Option Value} {base : Heap} {A_PlainError : Addr} {A_NoText : Addr} {A_NoStep : Addr} {A_NoPart : Addr} {A_Folding : Addr}
def sp__law_part : Sp' := fun ds Φ _ => match ds with
  | [d] => ∃ s : Stp, d = s.toD ∧ s.ok ∧ Φ (.str (stepTxt s))
  | _ => False
abbrev st__law_part : Stmt := top 40
abbrev N__law_part : List Str := ["step", "entry"]
theorem sc__law_part : FnScope N__law_part ["step"] (defScope st__law_part) := ⟨rfl, rfl, rfl, by decide +kernel, rfl, by decide +kernel, by decide +kernel⟩
theorem ok__law_part (Dd : Df K mg "_law_part" st__law_part ["step"]) (B : Blt mg) : Fn P w K mg base "_law_part" ["step"] 1 sp__law_part 0 := by
  refine fnE 0 Dd sc__law_part (by intro ds Φ Ψ h; unfold sp__law_part at h; split at h <;> first | rfl | exact h.elim) ⟨_, _, fun f cdv A outer s H E hr =>
      (qs_one (qret (qjoinT (qlcT (kind := none) 0 rfl sc__law_part.nd (qi_seq (qv 0)) (blkOk_by (own := [("entry", 1)]) (N := N__law_part) (sc := defScope st__law_part) (by decide +kernel)) (tgt_name (by decide)) (fun _ _ _ _ _ => (pg_name (i := 1) sc__law_part.nd rfl (Or.inl rfl))) (fun _ _ _ _ _ => (qrepC (qcT call_strA strL' B.str (by decide +kernel) (qa_cons (qv 1) qa_nil)))))))), by decide, ?_⟩
  intro ds Φ Ψ q
  unfold sp__law_part at q
  split at q
  · obtain ⟨s, rfl, ho, q⟩ := q
    have hj := txt_sum ho
    have hs := (strs_le ho).2
    have r20 : ∀ l ∈ s.strs, l.length ≤ 20 := fun l hl => by have := hs l hl; omega
    cases s with
    | lower => exact ⟨⟨by simp, by simp⟩, rep_ok (r20 _ (by simp [Stp.strs])), _, _, rfl, rfl, hj, q⟩
    | swap a b => exact ⟨⟨by simp, by simp⟩, rep_ok (r20 _ (by simp [Stp.strs])), rep_ok (r20 _ (by simp [Stp.strs])), rep_ok (r20 _ (by simp [Stp.strs])), _, _, rfl, rfl, hj, q⟩
    | drop l => exact ⟨⟨by simp, by simp⟩, rep_ok (r20 _ (by simp [Stp.strs])), rep_ok (r20 _ (by simp [Stp.strs])), _, _, rfl, rfl, hj, q⟩
    | lead c => exact ⟨⟨by simp, by simp⟩, rep_ok (r20 _ (by simp [Stp.strs])), rep_ok (r20 _ (by simp [Stp.strs])), _, _, rfl, rfl, hj, q⟩
    | once c => exact ⟨⟨by simp, by simp⟩, rep_ok (r20 _ (by simp [Stp.strs])), rep_ok (r20 _ (by simp [Stp.strs])), _, _, rfl, rfl, hj, q⟩
    | cut n => exact ⟨⟨by simp, by simp⟩, rep_ok (r20 _ (by simp [Stp.strs])), strI_log ho.2, rep_ok (r20 _ (by simp [Stp.strs])), _, _, rfl, rfl, hj, q⟩
  · exact q.elim
def sp__law_folding_text : Sp' := fun ds Φ _ => match ds with
  | [d] => ∃ ss : List Stp, d = rowD ss ∧ ss.length ≤ 6 ∧ okRow ss ∧ Φ (.str (foldTxt ss))
  | _ => False
abbrev st__law_folding_text : Stmt := top 41
abbrev N__law_folding_text : List Str := ["steps", "step"]
theorem sc__law_folding_text : FnScope N__law_folding_text ["steps"] (defScope st__law_folding_text) := ⟨rfl, rfl, rfl, by decide +kernel, rfl, by decide +kernel, by decide +kernel⟩
theorem ok__law_folding_text (Dd : Df K mg "_law_folding_text" st__law_folding_text ["steps"]) (B : Blt mg) (G__law_part : Fn P w K mg base "_law_part" ["step"] 1 sp__law_part 0) : Fn P w K mg base "_law_folding_text" ["steps"] 2 sp__law_folding_text 0 := by
  refine fnE 0 Dd sc__law_folding_text (by intro ds Φ Ψ h; unfold sp__law_folding_text at h; split at h <;> first | rfl | exact h.elim) ⟨_, _, fun f cdv A outer s H E hr =>
      (qs_one (qret (qif (qtcmp (op_neG hr.units) eqL (qv 0) (qtup qa_nil) (nomark _)) (qms PySem.F.slot_str_join PySem.F.type_str_join mt_join joinM qstr (qa_cons (qlc (kind := none) 0 rfl sc__law_folding_text.nd (qi_seq (qv 0)) (blkOk_by (own := [("step", 1)]) (N := N__law_folding_text) (sc := defScope st__law_folding_text) (by decide +kernel)) (tgt_name (by decide)) (fun _ _ _ _ _ => (pg_name (i := 1) sc__law_folding_text.nd rfl (Or.inl rfl))) (fun _ _ _ _ _ => qts_nil) (fun _ _ _ _ _ => (qcallF G__law_part (hr.mono (by decide)) takes0 (qa_cons (qv 1) qa_nil)))) qa_nil)) qstr))), by decide, ?_⟩
  intro ds Φ Ψ q
  unfold sp__law_folding_text at q
  split at q
  · obtain ⟨ss, rfl, hl, ho, q⟩ := q
    have hlen : (ss.map Stp.toD).length ≤ 6 := by rw [List.length_map]; exact hl
    refine ⟨(ss.map Stp.toD).isEmpty, eqD_R (eqR_tupE 1 _), ?_⟩
    refine iteB (fun e => ?_) (fun e => ?_)
    · have hne : ss ≠ [] := fun z => by rw [z] at e; cases e
      refine ⟨⟨by omega, by omega⟩, ?_⟩
      refine compD_mapA Stp.toD (fun s => D.str (stepTxt s)) ss [] (fun s hs rest acc z => ⟨s, rfl, ho s hs, z⟩) ?_
      rw [List.nil_append]
      refine ⟨_, _, rfl, asStrs_map stepTxt ss, fold_sum hl ho, ?_⟩
      have e2 : foldTxt ss = joinL (tl (Str.ofString "; ")) (ss.map stepTxt) := if_neg hne
      rw [e2] at q
      exact q
    · have : ss = [] := by cases ss with | nil => rfl | cons => cases e
      subst this
      exact q
  · exact q.elim
theorem rangeD_nat (n : Nat) : ∀ d ∈ rangeD 0 ((n : Int).toNat), ∃ i : Nat, d = .int (i : Nat) ∧ i < n := fun d hd => by
  obtain ⟨i, hi, rfl⟩ := List.mem_map.mp hd
  have := List.mem_range.mp hi
  exact ⟨i, by simp, by omega⟩
/-- what _law_same is asked -/
def smOk : Nat → D → Bool
  | _, .str _ => true
  | _, .int _ => true
  | n + 1, .tup ds => decide (ds.length ≤ 1000) && ds.all (smOk n)
  | _, _ => false
def sp__law_same0 : Sp' := fun ds Φ _ => match ds with
  | [d, e] => d = e ∧ smOk 0 e = true ∧ Φ (.bl true)
  | _ => False
abbrev st__law_same0 : Stmt := top 42
abbrev N__law_same0 : List Str := ["actual", "expected", "k"]
theorem sc__law_same0 : FnScope N__law_same0 ["actual", "expected"] (defScope st__law_same0) := ⟨rfl, rfl, rfl, by decide +kernel, rfl, by decide +kernel, by decide +kernel⟩
theorem ok__law_same0 (Dd : Df K mg "_law_same" st__law_same0 ["actual", "expected"]) (B : Blt mg) : Fn P w K mg base "_law_same" ["actual", "expected"] 1 sp__law_same0 0 := by
  refine fnE 0 Dd sc__law_same0 (by intro ds Φ Ψ h; unfold sp__law_same0 at h; split at h <;> first | rfl | exact h.elim) ⟨_, _, fun f cdv A outer s H E hr =>
      (qs_cons (qifS (qtru (qisi isi_tuple (.ty _) B.isinstance (qv 1) (pe_bltn rfl B.tuple (by decide +kernel) rfl)))
      (qs_cons (qifS (PW.pt (qor (qnotT (qtru (qisi isi_tuple (.ty _) B.isinstance (qv 0) (pe_bltn rfl B.tuple (by decide +kernel) rfl)))) (qor1 (qtcmp (op_neG hr.units) eqL (qcB call_lenA lenL B.len (by decide +kernel) (qa_cons (qv 0) qa_nil)) (qcB call_lenA lenL B.len (by decide +kernel) (qa_cons (qv 1) qa_nil)) (nomark _)))))
      (qs_one (qret qbl))
      qs_nil)
      (qs_cons (qforC 0 (qi_range B.range (qa_cons (qcB call_lenA lenL B.len (by decide +kernel) (qa_cons (qv 1) qa_nil)) qa_nil)) (qg_name 2 sc__law_same0.nd)
      (qs_one (qifS (qnotT (qtru qdeadE))
      (qs_one (qret qbl))
      qs_nil)) (passes_of rfl) rfl)
      (qs_one (qret qbl))))
      qs_nil)
      (qs_cons (qifS (qtru (qisi isi_str (.ty _) B.isinstance (qv 1) (pe_bltn rfl B.str (by decide +kernel) rfl)))
      (qs_one (qret (qandV (qisi isi_str (.ty _) B.isinstance (qv 0) (pe_bltn rfl B.str (by decide +kernel) rfl)) (qone (qcmp (op_eqG hr.units) eqL (qv 0) (qv 1) (nomark _))))))
      qs_nil)
      (qs_one (qret (qandV (qisi isi_int (.ty _) B.isinstance (qv 0) (pe_bltn rfl B.int (by decide +kernel) rfl)) (qandV (qnotV (qisi isi_bool (.ty _) B.isinstance (qv 0) (pe_bltn rfl B.bool (by decide +kernel) rfl))) (qone (qcmp (op_eqG hr.units) eqL (qv 0) (qv 1) (nomark _))))))))), by decide, ?_⟩
  intro ds Φ Ψ q
  unfold sp__law_same0 at q
  split at q
  · rename_i d e
    obtain ⟨rfl, ho, q⟩ := q
    cases d <;> try (simp [smOk] at ho; done)
    · rename_i i
      show Φ (.bl (decide (i = i)))
      rw [decide_eq_true rfl]; exact q
    · rename_i l
      show Φ (.bl (decide (l = l)))
      rw [decide_eq_true rfl]; exact q
  · exact q.elim
def sp__law_same1 : Sp' := fun ds Φ _ => match ds with
  | [d, e] => d = e ∧ smOk 1 e = true ∧ Φ (.bl true)
  | _ => False
abbrev st__law_same1 : Stmt := top 42
abbrev N__law_same1 : List Str := ["actual", "expected", "k"]
theorem sc__law_same1 : FnScope N__law_same1 ["actual", "expected"] (defScope st__law_same1) := ⟨rfl, rfl, rfl, by decide +kernel, rfl, by decide +kernel, by decide +kernel⟩
theorem ok__law_same1 (Dd : Df K mg "_law_same" st__law_same1 ["actual", "expected"]) (B : Blt mg) (G__law_same0 : Fn P w K mg base "_law_same" ["actual", "expected"] 1 sp__law_same0 0) : Fn P w K mg base "_law_same" ["actual", "expected"] 2 sp__law_same1 0 := by
  refine fnE 0 Dd sc__law_same1 (by intro ds Φ Ψ h; unfold sp__law_same1 at h; split at h <;> first | rfl | exact h.elim) ⟨_, _, fun f cdv A outer s H E hr =>
      (qs_cons (qifS (qtru (qisi isi_tuple (.ty _) B.isinstance (qv 1) (pe_bltn rfl B.tuple (by decide +kernel) rfl)))
      (qs_cons (qifS (PW.pt (qor (qnotT (qtru (qisi isi_tuple (.ty _) B.isinstance (qv 0) (pe_bltn rfl B.tuple (by decide +kernel) rfl)))) (qor1 (qtcmp (op_neG hr.units) eqL (qcB call_lenA lenL B.len (by decide +kernel) (qa_cons (qv 0) qa_nil)) (qcB call_lenA lenL B.len (by decide +kernel) (qa_cons (qv 1) qa_nil)) (nomark _)))))
      (qs_one (qret qbl))
      qs_nil)
      (qs_cons (qforC 0 (qi_range B.range (qa_cons (qcB call_lenA lenL B.len (by decide +kernel) (qa_cons (qv 1) qa_nil)) qa_nil)) (qg_name 2 sc__law_same1.nd)
      (qs_one (qifS (qnotT (qtru (qcallF G__law_same0 (hr.mono (by decide)) (takes_of rfl rfl rfl rfl) (qa_cons (qix (qv 0) (qv 2)) (qa_cons (qix (qv 1) (qv 2)) qa_nil)))))
      (qs_one (qret qbl))
      qs_nil)) (passes_of rfl) rfl)
      (qs_one (qret qbl))))
      qs_nil)
      (qs_cons (qifS (qtru (qisi isi_str (.ty _) B.isinstance (qv 1) (pe_bltn rfl B.str (by decide +kernel) rfl)))
      (qs_one (qret (qandV (qisi isi_str (.ty _) B.isinstance (qv 0) (pe_bltn rfl B.str (by decide +kernel) rfl)) (qone (qcmp (op_eqG hr.units) eqL (qv 0) (qv 1) (nomark _))))))
      qs_nil)
      (qs_one (qret (qandV (qisi isi_int (.ty _) B.isinstance (qv 0) (pe_bltn rfl B.int (by decide +kernel) rfl)) (qandV (qnotV (qisi isi_bool (.ty _) B.isinstance (qv 0) (pe_bltn rfl B.bool (by decide +kernel) rfl))) (qone (qcmp (op_eqG hr.units) eqL (qv 0) (qv 1) (nomark _))))))))), by decide, ?_⟩
  intro ds Φ Ψ q
  unfold sp__law_same1 at q
  split at q
  · rename_i d e
    obtain ⟨rfl, ho, q⟩ := q
    cases d <;> try (simp [smOk] at ho; done)
    · rename_i i
      show Φ (.bl (decide (i = i)))
      rw [decide_eq_true rfl]; exact q
    · rename_i l
      show Φ (.bl (decide (l = l)))
      rw [decide_eq_true rfl]; exact q
    · rename_i es
      have h1 : es.length ≤ 1000 ∧ ∀ d ∈ es, smOk 0 d = true := by simpa [smOk] using ho
      refine iteB (c := !decide ((es.length : Int) = (es.length : Int))) (fun e => absurd e (by simp)) (fun _ => ?_)
      refine ⟨⟨by omega, by omega⟩, by rw [rangeD_len]; omega, ?_⟩
      refine forD_inv (fun rest env S => ∃ (e2 : Option U), (∀ d ∈ rest, ∃ i : Nat, d = .int (i : Nat) ∧ i < es.length) ∧ env = [some (.d (.tup es)), some (.d (.tup es)), e2] ∧ S = []) ?_ _ _ _ ⟨_, rangeD_nat es.length, rfl, rfl⟩ ?_
      · rintro env S ⟨e2, _, rfl, rfl⟩
        exact q
      · rintro d rest env S ⟨e2, hr, rfl, rfl⟩ k
        obtain ⟨i, rfl, hi⟩ := hr d (by simp)
        have a : atI es (i : Int) = some es[i] := by rw [atI_nat (by omega) (by omega)]; simp
        refine ⟨_, a, _, a, rfl, h1.2 _ (List.getElem_mem hi), ?_⟩
        exact k _ _ ⟨_, fun z hz => hr z (by simp [hz]), rfl, rfl⟩
  · exact q.elim
def sp__law_same2 : Sp' := fun ds Φ _ => match ds with
  | [d, e] => d = e ∧ smOk 2 e = true ∧ Φ (.bl true)
  | _ => False
abbrev st__law_same2 : Stmt := top 42
abbrev N__law_same2 : List Str := ["actual", "expected", "k"]
theorem sc__law_same2 : FnScope N__law_same2 ["actual", "expected"] (defScope st__law_same2) := ⟨rfl, rfl, rfl, by decide +kernel, rfl, by decide +kernel, by decide +kernel⟩
theorem ok__law_same2 (Dd : Df K mg "_law_same" st__law_same2 ["actual", "expected"]) (B : Blt mg) (G__law_same1 : Fn P w K mg base "_law_same" ["actual", "expected"] 2 sp__law_same1 0) : Fn P w K mg base "_law_same" ["actual", "expected"] 3 sp__law_same2 0 := by
  refine fnE 0 Dd sc__law_same2 (by intro ds Φ Ψ h; unfold sp__law_same2 at h; split at h <;> first | rfl | exact h.elim) ⟨_, _, fun f cdv A outer s H E hr =>
      (qs_cons (qifS (qtru (qisi isi_tuple (.ty _) B.isinstance (qv 1) (pe_bltn rfl B.tuple (by decide +kernel) rfl)))
      (qs_cons (qifS (PW.pt (qor (qnotT (qtru (qisi isi_tuple (.ty _) B.isinstance (qv 0) (pe_bltn rfl B.tuple (by decide +kernel) rfl)))) (qor1 (qtcmp (op_neG hr.units) eqL (qcB call_lenA lenL B.len (by decide +kernel) (qa_cons (qv 0) qa_nil)) (qcB call_lenA lenL B.len (by decide +kernel) (qa_cons (qv 1) qa_nil)) (nomark _)))))
      (qs_one (qret qbl))
      qs_nil)
      (qs_cons (qforC 0 (qi_range B.range (qa_cons (qcB call_lenA lenL B.len (by decide +kernel) (qa_cons (qv 1) qa_nil)) qa_nil)) (qg_name 2 sc__law_same2.nd)
      (qs_one (qifS (qnotT (qtru (qcallF G__law_same1 (hr.mono (by decide)) (takes_of rfl rfl rfl rfl) (qa_cons (qix (qv 0) (qv 2)) (qa_cons (qix (qv 1) (qv 2)) qa_nil)))))
      (qs_one (qret qbl))
      qs_nil)) (passes_of rfl) rfl)
      (qs_one (qret qbl))))
      qs_nil)
      (qs_cons (qifS (qtru (qisi isi_str (.ty _) B.isinstance (qv 1) (pe_bltn rfl B.str (by decide +kernel) rfl)))
      (qs_one (qret (qandV (qisi isi_str (.ty _) B.isinstance (qv 0) (pe_bltn rfl B.str (by decide +kernel) rfl)) (qone (qcmp (op_eqG hr.units) eqL (qv 0) (qv 1) (nomark _))))))
      qs_nil)
      (qs_one (qret (qandV (qisi isi_int (.ty _) B.isinstance (qv 0) (pe_bltn rfl B.int (by decide +kernel) rfl)) (qandV (qnotV (qisi isi_bool (.ty _) B.isinstance (qv 0) (pe_bltn rfl B.bool (by decide +kernel) rfl))) (qone (qcmp (op_eqG hr.units) eqL (qv 0) (qv 1) (nomark _))))))))), by decide, ?_⟩
  intro ds Φ Ψ q
  unfold sp__law_same2 at q
  split at q
  · rename_i d e
    obtain ⟨rfl, ho, q⟩ := q
    cases d <;> try (simp [smOk] at ho; done)
    · rename_i i
      show Φ (.bl (decide (i = i)))
      rw [decide_eq_true rfl]; exact q
    · rename_i l
      show Φ (.bl (decide (l = l)))
      rw [decide_eq_true rfl]; exact q
    · rename_i es
      have h1 : es.length ≤ 1000 ∧ ∀ d ∈ es, smOk 1 d = true := by simpa [smOk] using ho
      refine iteB (c := !decide ((es.length : Int) = (es.length : Int))) (fun e => absurd e (by simp)) (fun _ => ?_)
      refine ⟨⟨by omega, by omega⟩, by rw [rangeD_len]; omega, ?_⟩
      refine forD_inv (fun rest env S => ∃ (e2 : Option U), (∀ d ∈ rest, ∃ i : Nat, d = .int (i : Nat) ∧ i < es.length) ∧ env = [some (.d (.tup es)), some (.d (.tup es)), e2] ∧ S = []) ?_ _ _ _ ⟨_, rangeD_nat es.length, rfl, rfl⟩ ?_
      · rintro env S ⟨e2, _, rfl, rfl⟩
        exact q
      · rintro d rest env S ⟨e2, hr, rfl, rfl⟩ k
        obtain ⟨i, rfl, hi⟩ := hr d (by simp)
        have a : atI es (i : Int) = some es[i] := by rw [atI_nat (by omega) (by omega)]; simp
        refine ⟨_, a, _, a, rfl, h1.2 _ (List.getElem_mem hi), ?_⟩
        exact k _ _ ⟨_, fun z hz => hr z (by simp [hz]), rfl, rfl⟩
  · exact q.elim
end
section
variable {P : Program} {w : World} {K : PySem.W.Frag} {mg : Str → Option Value} {base : Heap} {A_PlainError : Addr} {A_NoText : Addr} {A_NoStep : Addr} {A_NoPart : Addr} {A_Folding : Addr}
theorem strs_all {p : D → Prop} {ls : List (List Nat)} (h : ∀ l ∈ ls, p (.str l)) : ∀ d ∈ ls.map D.str, p d := fun d hd => by
  obtain ⟨l, hl, rfl⟩ := List.mem_map.mp hd
  exact h l hl
theorem dig_lit : tl (Str.ofString "123456789") = [49, 50, 51, 52, 53, 54, 55, 56, 57] := by decide +kernel
def sp__law_guess : Sp' := fun ds Φ _ => match ds with
  | [d] => ∃ p : List Nat, d = .str p ∧ p.length ≤ 1000 ∧ Φ (guessD p)
  | _ => False
abbrev st__law_guess : Stmt := top 44
abbrev N__law_guess : List Str := ["part", "words", "rest", "word"]
theorem sc__law_guess : FnScope N__law_guess ["part"] (defScope st__law_guess) := ⟨rfl, rfl, rfl, by decide +kernel, rfl, by decide +kernel, by decide +kernel⟩
theorem ok__law_guess (Dd : Df K mg "_law_guess" st__law_guess ["part"]) (B : Blt mg) : Fn P w K mg base "_law_guess" ["part"] 1 sp__law_guess 0 := by
  refine fnE 0 Dd sc__law_guess (by intro ds Φ Ψ h; unfold sp__law_guess at h; split at h <;> first | rfl | exact h.elim) ⟨_, _, fun f cdv A outer s H E hr =>
      (qs_o (qsetO 1 (qsplitO (kind := none) (qv 0)) sc__law_guess.nd)
      (qst_cons (qsetLcT (kind := none) 2 0 rfl sc__law_guess.nd rfl rfl (sw_true rfl rfl rfl (by decide +kernel)) (qi_seq (qsl (kind := none) (qv 1) (qo_some qint) qo_none)) (blkOk_by (own := [("word", 3)]) (N := N__law_guess) (sc := defScope st__law_guess) (by decide +kernel)) (tgt_name (by decide)) (fun _ _ _ _ _ => (pg_name (i := 3) sc__law_guess.nd rfl (Or.inl rfl))) (fun _ _ _ _ _ => (qrepC (qv 3))))
      (PSsT.of (qs_cons (qifS (PW.pt (qand (qtcmp (op_eqG hr.units) eqL (qix (qv 1) qint) qstr (nomark _)) (qand (qtcmp (op_eqG hr.units) eqL (qcB call_lenA lenL B.len (by decide +kernel) (qa_cons (qv 2) qa_nil)) qint (nomark _)) (qand1 (qtcmp op_inG inL (qix (qv 2) qint) (qcT (call_listA rfl) (listAL (kind := none)) B.list (by decide +kernel) (qa_cons qstr qa_nil)) rfl)))))
      (qs_one (qret (qtup (qa_cons qstr (qa_cons (qcT call_int_str intTL B.int (by decide +kernel) (qa_cons (qix (qv 2) qint) qa_nil)) qa_nil)))))
      qs_nil)
      (qs_one (qret (qadd (kind := none) (qtup (qa_cons (qix (qv 1) qint) qa_nil)) (qcT call_tuple_of tupleL B.tuple (by decide +kernel) (qa_cons (qv 2) qa_nil))))))))), by decide, ?_⟩
  intro ds Φ Ψ q
  unfold sp__law_guess at q
  split at q
  · obtain ⟨p, rfl, hp, q⟩ := q
    refine ⟨⟨by decide, by omega⟩, ?_⟩
    obtain ⟨w, rest, e⟩ := spl_ne spT p
    have eg : guessD p = guessW w (rest.map unt) := by unfold guessD; rw [e]
    rw [eg] at q
    show mk none ((splL spT p).map D.str) _ _
    rw [e]
    have e1 : Pl.cut ((w :: rest).map D.str) (some 1) none = rest.map D.str := by rw [show (1 : Int) = ((1 : Nat) : Int) from rfl, cut_from]; rfl
    have lr : (rest.map D.str).length = rest.length := by simp
    have short : ∀ r ∈ rest, r.length ≤ 1000 := fun r hr => Nat.le_trans (spl_short (t := spT) (by rw [e]; simp [hr])) hp
    have many : rest.length ≤ 1002 := by
      have := spl_le spT p
      rw [e] at this
      simp at this
      omega
    show _ ∧ _
    rw [e1]
    refine ⟨⟨by rw [lr]; omega, by rw [lr]; omega⟩, ?_⟩
    refine compD_mapA D.str (fun r => D.str (unt r)) rest [] (fun r hr rest acc z => ⟨by have := short r hr; rw [show (Str.ofString " ").length = 1 from rfl]; omega, z⟩) ?_
    rw [List.nil_append]
    refine ⟨_, atI0, ?_⟩
    have el : (rest.map fun r => D.str (unt r)) = (rest.map unt).map D.str := by rw [List.map_map]; rfl
    rw [el]
    have fin : guessW w (rest.map unt) = .tup (.str w :: (rest.map unt).map .str) → (1 + ((rest.map unt).map D.str).length ≤ sizeLine ∧ Φ (.tup ([.str w] ++ (rest.map unt).map D.str))) := fun z => by
      rw [z] at q
      exact ⟨len_ok (by simp; omega), q⟩
    refine iteB (c := decide (w = cutT)) (fun z => ?_) (fun z => ?_)
    · have z : w = cutT := of_decide_eq_true z
      refine iteB (c := decide ((((rest.map unt).map D.str).length : Int) = 1)) (fun zl => ?_) (fun zl => ?_)
      · have zl : rest.length = 1 := by have := of_decide_eq_true zl; simp at this; omega
        obtain ⟨r, rfl⟩ : ∃ r, rest = [r] := by
          match rest, zl with
          | [r], _ => exact ⟨r, rfl⟩
        refine ⟨_, atI0, by decide, ⟨rfl, by decide +kernel⟩, ?_⟩
        refine iteB (c := inV (toV (.str (unt r))) ((((tl (Str.ofString "123456789")).map fun c => [c]).map D.str).map toV)) (fun zi => ?_) (fun zi => ?_)
        · rw [inV_strs0, dig_lit] at zi
          have hr : unt r ∈ numsL := of_decide_eq_true zi
          have eg2 : guessW w [unt r] = .tup [.str cutT, .int (numOf (unt r))] := if_pos ⟨z, rfl, decide_eq_true hr⟩
          have q : Φ (guessW w [unt r]) := q
          rw [eg2] at q
          exact ⟨_, atI0, by rw [(num_ok _ hr).2.1]; decide, _, (num_ok _ hr).1, q⟩
        · rw [inV_strs0, dig_lit] at zi
          have hr : ¬ unt r ∈ numsL := of_decide_eq_false zi
          refine ⟨_, atI0, fin (if_neg fun y => hr (of_decide_eq_true y.2.2))⟩
      · refine ⟨_, atI0, fin (if_neg fun y => ?_)⟩
        rw [decide_eq_true (by have := y.2.1; simp at this ⊢; omega)] at zl
        cases zl
    · exact ⟨_, atI0, fin (if_neg fun y => by rw [decide_eq_true y.1] at z; cases z)⟩
  · exact q.elim
def strsD (w : List Nat) (rs : List (List Nat)) : D := .tup (.str w :: rs.map .str)
def sp__law_is_step : Sp' := fun ds Φ _ => match ds with
  | [d] => (∃ n : Nat, d = .tup [.str cutT, .int (n : Nat)] ∧ Φ (.bl true)) ∨ (∃ w rs, d = strsD w rs ∧ (rs.length ≤ 1002 ∧ (rs.map List.length).sum ≤ 1000) ∧ Φ (.bl (lawIsS w rs)))
  | _ => False
abbrev st__law_is_step : Stmt := top 45
abbrev N__law_is_step : List Str := ["step", "word", "rest", "one", "sizes"]
theorem sc__law_is_step : FnScope N__law_is_step ["step"] (defScope st__law_is_step) := ⟨rfl, rfl, rfl, by decide +kernel, rfl, by decide +kernel, by decide +kernel⟩
theorem ok__law_is_step (Dd : Df K mg "_law_is_step" st__law_is_step ["step"]) (B : Blt mg) (G__law_chars : Fn P w K mg base "_law_chars" [] 1 sp__law_chars 0) : Fn P w K mg base "_law_is_step" ["step"] 2 sp__law_is_step 0 := by
  refine fnE 0 Dd sc__law_is_step (by intro ds Φ Ψ h; unfold sp__law_is_step at h; split at h <;> first | rfl | exact h.elim) ⟨_, _, fun f cdv A outer s H E hr =>
      (qs_cons (qpar 1 2 (qix (qv 0) qint) (qsl (kind := none) (qv 0) (qo_some qint) qo_none) sc__law_is_step.nd)
      (qs_cons (qifS (qtcmp (op_eqG hr.units) eqL (qv 1) qstr (nomark _))
      (qs_one (qret (qandV (qcmp (op_eqG hr.units) eqL (qcB call_lenA lenL B.len (by decide +kernel) (qa_cons (qv 2) qa_nil)) qint (nomark _)) (qone (qisi isi_int (.ty _) B.isinstance (qix (qv 2) qint) (pe_bltn rfl B.int (by decide +kernel) rfl))))))
      qs_nil)
      (qs_cons (qforC 0 (qi_seq (qms PySem.F.slot_str_join PySem.F.type_str_join mt_join joinM qstr (qa_cons (qcT (call_listA rfl) (listAL (kind := none)) B.list (by decide +kernel) (qa_cons (qv 2) qa_nil)) qa_nil))) (qg_name 3 sc__law_is_step.nd)
      (qs_one (qifS (qtcmp op_niG inL (qv 3) (qcallF0 G__law_chars (hr.mono (by decide)) (takes_of rfl rfl rfl rfl)) rfl)
      (qs_one (qret qbl))
      qs_nil)) (passes_of rfl) rfl)
      (qs_cons (qifS (PW.pt (qand (qtcmp (op_eqG hr.units) eqL (qv 1) qstr (nomark _)) (qand1 (qtcmp (op_eqG hr.units) eqL (qcB call_lenA lenL B.len (by decide +kernel) (qa_cons (qv 2) qa_nil)) qint (nomark _)))))
      (qs_one (qret (qandV (qchain op_lt op_lt qint (qcB call_lenA lenL B.len (by decide +kernel) (qa_cons (qix (qv 2) qint) qa_nil)) qint) (qone (qcmp (op_eqG hr.units) eqL (qlenset B.len B.set (qix (qv 2) qint)) (qcB call_lenA lenL B.len (by decide +kernel) (qa_cons (qix (qv 2) qint) qa_nil)) (nomark _))))))
      qs_nil)
      (qs_cons (qsetLc (kind := none) 4 0 rfl sc__law_is_step.nd rfl rfl (sw_true rfl rfl rfl (by decide +kernel)) (qi_seq (qv 2)) (blkOk_by (own := [("one", 3)]) (N := N__law_is_step) (sc := defScope st__law_is_step) (by decide +kernel)) (tgt_name (by decide)) (fun _ _ _ _ _ => (pg_name (i := 3) sc__law_is_step.nd rfl (Or.inl rfl))) (fun _ _ _ _ _ => qts_nil) (fun _ _ _ _ _ => (qcB call_lenA lenL B.len (by decide +kernel) (qa_cons (qv 3) qa_nil))))
      (qs_cons (qifS (qtcmp (op_eqG hr.units) eqL (qv 1) qstr (nomark _))
      (qs_one (qret (qcmp (op_eqG hr.units) eqL (qv 4) (qlst (kind := none) (qa_cons qint (qa_cons qint qa_nil))) (nomark _))))
      qs_nil)
      (qs_cons (qifS (PW.pt (qor (qtcmp (op_eqG hr.units) eqL (qv 1) qstr (nomark _)) (qor1 (qtcmp (op_eqG hr.units) eqL (qv 1) qstr (nomark _)))))
      (qs_one (qret (qcmp (op_eqG hr.units) eqL (qv 4) (qlst (kind := none) (qa_cons qint qa_nil)) (nomark _))))
      qs_nil)
      (qs_one (qret (qandV (qcmp (op_eqG hr.units) eqL (qv 1) qstr (nomark _)) (qone (qcmp (op_eqG hr.units) eqL (qv 4) (qlst (kind := none) qa_nil) (nomark _))))))))))))), by decide, ?_⟩
  intro ds Φ Ψ q
  unfold sp__law_is_step at q
  split at q
  · rcases q with ⟨n, rfl, q⟩ | ⟨w, rs, rfl, ⟨hn, hr⟩, q⟩
    · exact ⟨_, atI0, _, atI0, q⟩
    · have e1 : Pl.cut (D.str w :: rs.map D.str) (some 1) none = rs.map D.str := by rw [show (1 : Int) = ((1 : Nat) : Int) from rfl, cut_from]; rfl
      have one : ∀ r ∈ rs, r.length ≤ 1000 := fun r h => Nat.le_trans (sum_mem h) hr
      have lr : (rs.map D.str).length = rs.length := by simp
      refine ⟨_, atI0, ?_⟩
      show if _ = true then _ else _
      rw [e1]
      unfold lawIsS at q
      refine iteB (c := decide (w = cutT)) (fun z => ?_) (fun z => ?_)
      · rw [if_pos (of_decide_eq_true z)] at q
        refine iteB (c := decide (((rs.map D.str).length : Int) = 1)) (fun zl => ?_) (fun zl => ?_)
        · obtain ⟨r, rfl⟩ : ∃ r, rs = [r] := by
            have zl := of_decide_eq_true zl
            match rs, zl with
            | [r], _ => exact ⟨r, rfl⟩
            | [], z => simp at z
            | a :: b :: r, z => simp at z; omega
          exact ⟨_, atI0, q⟩
        · exact q
      · rw [if_neg (of_decide_eq_false z)] at q
        refine ⟨_, _, rfl, asStrs_map (fun l : List Nat => l) rs, by rw [List.map_id']; have : (tl (Str.ofString "")).length = 0 := rfl; rw [this]; omega, ?_⟩
        rw [sep0, List.map_id', joinL_nil]
        refine ⟨Nat.le_of_eq (Nat.mul_zero _), ?_⟩
        refine forD_inv (fun rest env S => ∃ (cs : List Nat) (e3 : Option U), rest = cs.map (fun c => .str [c]) ∧ ((∀ c ∈ rs.flatten, c ∈ CH) ↔ ∀ c ∈ cs, c ∈ CH) ∧ env = [some (.d (strsD w rs)), some (.d (.str w)), some (.d (.tup (rs.map D.str))), e3, none] ∧ S = []) ?_ _ _ _ ⟨rs.flatten, _, rfl, Iff.rfl, rfl, rfl⟩ ?_
        · rintro env S ⟨cs, e3, hcs, hiff, rfl, rfl⟩
          cases cs with
          | cons c cs => cases hcs
          | nil =>
            have hall : ∀ c ∈ rs.flatten, c ∈ CH := hiff.mpr (by simp)
            rw [if_neg (c := ¬ ∀ c ∈ rs.flatten, c ∈ CH) (fun z => z hall)] at q
            have eqz : ∀ m : List Nat, EqD (.lst (rs.map fun r => D.int (r.length : Nat))) (.lst (m.map fun n => D.int (n : Nat))) (decide (rs.map List.length = m)) := fun m => by
              have h := eqR_lstM (n := 1) (fun n : Nat => D.int (n : Nat)) (rs.map List.length) m fun x _ y _ => by
                have h := eqR_int 1 (x : Int) (y : Int)
                rw [show decide ((x : Int) = (y : Int)) = decide (x = y) by rw [decide_eq_decide]; omega] at h
                exact h
              rw [List.map_map] at h
              exact eqD_R h
            have tail : ¬ (w = droT ∧ rs.length = 1) → Φ (.bl (if w = swaT then decide (List.map List.length rs = [1, 1])
                else if w = leaT ∨ w = oncT then decide (List.map List.length rs = [1]) else decide (w = lowT) && rs.isEmpty)) := fun z => by
              rw [if_neg (c := w = droT ∧ rs.length = 1) z] at q
              exact q
            refine iteB (c := decide (w = droT)) (fun zd => ?_) (fun zd => ?_)
            · have zd := of_decide_eq_true zd
              refine iteB (c := decide (((rs.map D.str).length : Int) = 1)) (fun zl => ?_) (fun zl => ?_)
              · obtain ⟨r, rfl⟩ : ∃ r, rs = [r] := by
                  have zl := of_decide_eq_true zl
                  match rs, zl with
                  | [r], _ => exact ⟨r, rfl⟩
                  | [], z => simp at z
                  | a :: b :: r, z => simp at z; omega
                have q : Φ (.bl (decide (0 < r.length ∧ r.length < 11) && decide ((sd r).length = r.length))) := by rw [if_pos ⟨zd, rfl⟩] at q; exact q
                have hr1 : r.length ≤ 1000 := one r (by simp)
                refine ⟨_, atI0, len_ok (by omega), ?_⟩
                refine iteB (c := decide ((0 : Int) < (r.length : Int))) (fun y => ?_) (fun y => ?_)
                · have y := of_decide_eq_true y
                  refine iteB (c := decide ((r.length : Int) < 11)) (fun y2 => ?_) (fun y2 => ?_)
                  · have y2 := of_decide_eq_true y2
                    refine ⟨_, atI0, hr1, _, atI0, len_ok (by omega), ?_⟩
                    rw [decide_eq_true (p := 0 < r.length ∧ r.length < 11) (by omega), Bool.true_and] at q
                    show Φ (.bl (decide (((sd r).length : Int) = (r.length : Int))))
                    rw [show decide (((sd r).length : Int) = (r.length : Int)) = decide ((sd r).length = r.length) by rw [decide_eq_decide]; omega]
                    exact q
                  · have y2 := of_decide_eq_false y2
                    rw [decide_eq_false (p := 0 < r.length ∧ r.length < 11) (by omega), Bool.false_and] at q
                    exact q
                · have y := of_decide_eq_false y
                  rw [decide_eq_false (p := 0 < r.length ∧ r.length < 11) (by omega), Bool.false_and] at q
                  exact q
              · have zl := of_decide_eq_false zl
                have q := tail (fun z => zl (by rw [lr]; omega))
                refine ⟨⟨by rw [lr]; omega, by rw [lr]; omega⟩, ?_⟩
                refine compD_mapA D.str (fun r => D.int (r.length : Nat)) rs [] (fun r hr2 rest acc z => ⟨len_ok (by have := one r hr2; omega), z⟩) ?_
                rw [List.nil_append]
                refine iteB (c := decide (w = swaT)) (fun y => ?_) (fun y => ?_)
                · rw [if_pos (of_decide_eq_true y)] at q
                  exact ⟨_, eqz [1, 1], q⟩
                · rw [if_neg (c := w = swaT) (of_decide_eq_false y)] at q
                  have lo : (w = leaT ∨ w = oncT) → Φ (.bl (decide (List.map List.length rs = [1]))) := fun z => by rw [if_pos z] at q; exact q
                  refine iteB (c := decide (w = leaT)) (fun y1 => ⟨_, eqz [1], lo (.inl (of_decide_eq_true y1))⟩) (fun y1 => ?_)
                  refine iteB (c := decide (w = oncT)) (fun y2 => ⟨_, eqz [1], lo (.inr (of_decide_eq_true y2))⟩) (fun y2 => ?_)
                  rw [if_neg (c := w = leaT ∨ w = oncT) (fun z => z.elim (of_decide_eq_false y1) (of_decide_eq_false y2))] at q
                  refine iteB (c := decide (w = lowT)) (fun y3 => ?_) (fun y3 => ?_)
                  · rw [y3, Bool.true_and] at q
                    have h := eqz []
                    rw [show decide (rs.map List.length = []) = rs.isEmpty by cases rs <;> rfl] at h
                    exact ⟨_, h, q⟩
                  · rw [y3, Bool.false_and] at q
                    exact q
            · have zd := of_decide_eq_false zd
              have q := tail (fun z => zd z.1)
              refine ⟨⟨by rw [lr]; omega, by rw [lr]; omega⟩, ?_⟩
              refine compD_mapA D.str (fun r => D.int (r.length : Nat)) rs [] (fun r hr2 rest acc z => ⟨len_ok (by have := one r hr2; omega), z⟩) ?_
              rw [List.nil_append]
              refine iteB (c := decide (w = swaT)) (fun y => ?_) (fun y => ?_)
              · rw [if_pos (of_decide_eq_true y)] at q
                exact ⟨_, eqz [1, 1], q⟩
              · rw [if_neg (c := w = swaT) (of_decide_eq_false y)] at q
                have lo : (w = leaT ∨ w = oncT) → Φ (.bl (decide (List.map List.length rs = [1]))) := fun z => by rw [if_pos z] at q; exact q
                refine iteB (c := decide (w = leaT)) (fun y1 => ⟨_, eqz [1], lo (.inl (of_decide_eq_true y1))⟩) (fun y1 => ?_)
                refine iteB (c := decide (w = oncT)) (fun y2 => ⟨_, eqz [1], lo (.inr (of_decide_eq_true y2))⟩) (fun y2 => ?_)
                rw [if_neg (c := w = leaT ∨ w = oncT) (fun z => z.elim (of_decide_eq_false y1) (of_decide_eq_false y2))] at q
                refine iteB (c := decide (w = lowT)) (fun y3 => ?_) (fun y3 => ?_)
                · rw [y3, Bool.true_and] at q
                  have h := eqz []
                  rw [show decide (rs.map List.length = []) = rs.isEmpty by cases rs <;> rfl] at h
                  exact ⟨_, h, q⟩
                · rw [y3, Bool.false_and] at q
                  exact q
        · rintro d rest env S ⟨cs, e3, hcs, hiff, rfl, rfl⟩ k
          cases cs with
          | nil => cases hcs
          | cons c cs =>
            obtain ⟨rfl, rfl⟩ : d = .str [c] ∧ rest = cs.map (fun c => .str [c]) := by simpa using hcs
            refine iteB (c := !decide (c ∈ CH)) (fun zc => ?_) (fun zc => ?_)
            · rw [if_pos (c := ¬ ∀ c ∈ rs.flatten, c ∈ CH) (fun y => by have := hiff.mp y c (by simp); rw [decide_eq_true this] at zc; cases zc)] at q
              exact q
            · have hc : c ∈ CH := by simpa using zc
              exact k _ _ ⟨cs, _, rfl, hiff.trans ⟨fun y c hc => y c (by simp [hc]), fun y d hd => (List.mem_cons.mp hd).elim (fun e => by rw [e]; exact hc) (y d)⟩, rfl, rfl⟩
  · exact q.elim
end
section
variable {P : Program} {w : World} {K : PySem.W.Frag} {mg : Str → Option Value} {base : Heap} {A_PlainError : Addr} {A_NoText : Addr} {A_NoStep : Addr} {A_NoPart : Addr} {A_Folding : Addr}
def sp__law_read : Sp' := fun ds Φ _ => match ds with
  | [d] => ∃ l v, d = .str l ∧ l.length ≤ 1000 ∧ PageV l v ∧ Φ v.toD
  | _ => False
abbrev st__law_read : Stmt := top 46
abbrev N__law_read : List Str := ["page", "parts", "steps", "k", "step"]
theorem sc__law_read : FnScope N__law_read ["page"] (defScope st__law_read) := ⟨rfl, rfl, rfl, by decide +kernel, rfl, by decide +kernel, by decide +kernel⟩
theorem ok__law_read (Dd : Df K mg "_law_read" st__law_read ["page"]) (B : Blt mg) (G__law_guess : Fn P w K mg base "_law_guess" ["part"] 1 sp__law_guess 0) (G__law_is_step : Fn P w K mg base "_law_is_step" ["step"] 2 sp__law_is_step 0) (G__law_part : Fn P w K mg base "_law_part" ["step"] 1 sp__law_part 0) : Fn P w K mg base "_law_read" ["page"] 3 sp__law_read 0 := by
  refine fnE 0 Dd sc__law_read (by intro ds Φ Ψ h; unfold sp__law_read at h; split at h <;> first | rfl | exact h.elim) ⟨_, _, fun f cdv A outer s H E hr =>
      (qs_cons (qifS (qtcmp (op_eqG hr.units) eqL (qv 0) qstr (nomark _))
      (qs_one (qret (qtup (qa_cons qstr (qa_cons (qtup qa_nil) qa_nil)))))
      qs_nil)
      (qs_cons (qpar 1 2 (qms PySem.F.slot_str_split PySem.F.type_str_split mt_split (splitM (kind := none)) (qv 0) (qa_cons qstr qa_nil)) (qlst (kind := (some 0)) qa_nil) sc__law_read.nd)
      (qs_cons (qforC 0 (qi_range B.range (qa_cons (qcB call_lenA lenL B.len (by decide +kernel) (qa_cons (qv 1) qa_nil)) qa_nil)) (qg_name 3 sc__law_read.nd)
      (qs_cons (qset 4 (qcallF G__law_guess (hr.mono (by decide)) (takes_of rfl rfl rfl rfl) (qa_cons (qix (qv 1) (qv 3)) qa_nil)) sc__law_read.nd)
      (qs_cons (qifS (PW.pt (qor (qnotT (qtru (qcallF G__law_is_step (hr.mono (by decide)) (takes_of rfl rfl rfl rfl) (qa_cons (qv 4) qa_nil)))) (qor1 (qtcmp (op_neG hr.units) eqL (qcallF G__law_part (hr.mono (by decide)) (takes_of rfl rfl rfl rfl) (qa_cons (qv 4) qa_nil)) (qix (qv 1) (qv 3)) (nomark _)))))
      (qs_one (qret (qtup (qa_cons qstr (qa_cons (qv 3) qa_nil)))))
      qs_nil)
      (qs_one (qexpr (qapp (qv 2) (qv 4)))))) (passes_of rfl) rfl)
      (qs_one (qret (qif (qtcmp op_lt ordL (qcB call_lenA lenL B.len (by decide +kernel) (qa_cons (qv 2) qa_nil)) qint (nomark _)) (qtup (qa_cons qstr (qa_cons (qcT call_tuple_of tupleL B.tuple (by decide +kernel) (qa_cons (qv 2) qa_nil)) qa_nil))) (qtup (qa_cons qstr (qa_cons qint qa_nil))))))))), by decide, ?_⟩
  intro ds Φ Ψ q
  unfold sp__law_read at q
  split at q
  · obtain ⟨l, v, rfl, hl, hv, q⟩ := q
    unfold PageV at hv
    refine iteB (c := decide (l = plainT)) (fun e => ?_) (fun e => ?_)
    · rw [if_pos (of_decide_eq_true e)] at hv
      subst hv
      exact q
    · rw [if_neg (of_decide_eq_false e)] at hv
      refine ⟨⟨by decide, by omega⟩, ?_⟩
      have sl : (splL (tl (Str.ofString "; ")) l).length ≤ l.length + 2 := spl_le betT l
      have hsh : ∀ p ∈ splL (tl (Str.ofString "; ")) l, p.length ≤ 1000 := fun p hp => Nat.le_trans (spl_short (t := betT) hp) hl
      replace hv : Reads 0 [] (splL (tl (Str.ofString "; ")) l) v := hv
      show mk none _ _ _
      generalize splL (tl (Str.ofString "; ")) l = ps at hv sl hsh ⊢
      have lp : (ps.map D.str).length = ps.length := by simp
      refine ⟨⟨by rw [lp]; omega, by rw [lp]; omega⟩, by rw [rangeD_len]; omega, ?_⟩
      refine forD_inv (fun rest env S => ∃ (i : Nat) (ss : List Stp) (e3 e4 : Option U), rest = (List.range' i (ps.length - i)).map (fun j : Nat => D.int (0 + (j : Nat))) ∧ i ≤ ps.length ∧ Reads i ss (ps.drop i) v ∧ ss.length = i ∧ okRow ss ∧
        env = [some (.d (.str l)), some (.d (.lst (ps.map D.str))), some (.r 0), e3, e4] ∧ S = [some (.lst (ss.map Stp.toD))]) ?_ _ _ _ ⟨0, [], _, _, ?_, by omega, hv, rfl, (by intro s hs; cases hs), rfl, rfl⟩ ?_
      · rintro env S ⟨i, ss, e3, e4, hr, hi, hv, hss, ho, rfl, rfl⟩
        have hi2 : ps.length - i = 0 := by
          have := congrArg List.length hr
          simp at this; omega
        rw [List.drop_eq_nil_of_le (by omega)] at hv
        cases hv
        have l1 : (ss.map Stp.toD).length = ss.length := by simp
        refine iteB (c := decide (((ss.map Stp.toD).length : Int) < 7)) (fun z => ?_) (fun z => ?_)
        · have z := of_decide_eq_true z
          rw [if_pos (by rw [l1] at z; omega)] at q
          exact q
        · have z := of_decide_eq_false z
          rw [if_neg (by rw [l1] at z; omega)] at q
          exact q
      · rw [show ((ps.map D.str).length : Int).toNat = ps.length by rw [lp]; rfl]
        show (List.range ps.length).map _ = _
        rw [List.range_eq_range', Nat.sub_zero]
      · rintro d rest env S ⟨i, ss, e3, e4, hr, hi, hv, hss, ho, rfl, rfl⟩ go
        have hi2 : i < ps.length := by
          have := congrArg List.length hr
          simp at this; omega
        obtain ⟨n, hn⟩ : ∃ n, ps.length - i = n + 1 := ⟨ps.length - i - 1, by omega⟩
        rw [hn, List.range'_succ, List.map_cons] at hr
        obtain ⟨rfl, rfl⟩ := List.cons.inj hr
        have hp : ps[i].length ≤ 1000 := hsh _ (List.getElem_mem hi2)
        rw [List.drop_eq_getElem_cons hi2] at hv
        have a : atI (ps.map D.str) (0 + (i : Nat) : Int) = some (.str ps[i]) := by
          rw [show (0 + (i : Int)) = (i : Int) by omega, atI_get]; simp [hi2]
        refine ⟨_, a, _, rfl, hp, ?_⟩
        generalize ps[i] = p at hv hp a
        cases part_is hp with
        | bad w rs hg hl2 hrd hn2 hs2 =>
          rw [hg]
          refine .inr ⟨w, rs, rfl, ⟨hn2, by omega⟩, ?_⟩
          rw [hl2]
          cases hv with
          | bad _ =>
            have q2 : Φ (.tup [.str (tl (Str.ofString "part")), .int (0 + (i : Int))]) := by rw [show (0 + (i : Int)) = (i : Nat) by omega]; exact q
            exact q2
          | good s hs hr2 _ => rw [hrd] at hr2; cases s <;> cases hr2
        | good s hs hg ht hrd hl2 =>
          rw [hg]
          rcases hl2 with ⟨m, em⟩ | ⟨w, rs, em, hl3, hn3, hs3⟩
          · refine .inl ⟨m, em, ?_⟩
            refine ⟨s, rfl, hs, _, a, ?_⟩
            refine iteB (c := !decide (stepTxt s = p)) (fun z => by rw [decide_eq_true ht] at z; cases z) (fun _ => ?_)
            refine ⟨len_ok (by simp; omega), ?_⟩
            refine go _ _ ⟨i + 1, ss ++ [s], _, _, by rw [show ps.length - (i + 1) = n by omega], by omega, ?_, by simp [hss], fun x hx => (List.mem_append.mp hx).elim (ho x) (fun z => by rw [List.mem_singleton.mp z]; exact hs), rfl, by simp⟩
            cases hv with
            | bad hb => rw [hrd] at hb; cases s <;> cases hb
            | good s2 _ hr2 h2 =>
              rw [hrd] at hr2
              rw [toD_inj0 hr2]
              exact h2
          · refine .inr ⟨w, rs, em, ⟨hn3, by omega⟩, ?_⟩
            rw [hl3]
            refine ⟨s, rfl, hs, _, a, ?_⟩
            refine iteB (c := !decide (stepTxt s = p)) (fun z => by rw [decide_eq_true ht] at z; cases z) (fun _ => ?_)
            refine ⟨len_ok (by simp; omega), ?_⟩
            refine go _ _ ⟨i + 1, ss ++ [s], _, _, by rw [show ps.length - (i + 1) = n by omega], by omega, ?_, by simp [hss], fun x hx => (List.mem_append.mp hx).elim (ho x) (fun z => by rw [List.mem_singleton.mp z]; exact hs), rfl, by simp⟩
            cases hv with
            | bad hb => rw [hrd] at hb; cases s <;> cases hb
            | good s2 _ hr2 h2 =>
              rw [hrd] at hr2
              rw [toD_inj0 hr2]
              exact h2
  · exact q.elim
def triedD (A_Folding : Addr) : Vd → D
  | .made ss => .tup [.tup [.str (tl (Str.ofString "made"))], .obj A_Folding ns_Folding [rowD ss]]
  | .part k => .tup [.tup [.str (tl (Str.ofString "part")), .int (k : Nat)], .non]
  | .step k => .tup [.tup [.str (tl (Str.ofString "step")), .int (k : Nat)], .non]
def sp__law_tried (A_Folding : Addr) : Sp' := fun ds Φ _ => match ds with
  | [d] => ∃ v, PageD d v ∧ Φ (triedD A_Folding v)
  | _ => False
abbrev st__law_tried : Stmt := top 50
abbrev N__law_tried : List Str := ["page", "found", "result", "e"]
theorem sc__law_tried : FnScope N__law_tried ["page"] (defScope st__law_tried) := ⟨rfl, rfl, rfl, by decide +kernel, rfl, by decide +kernel, by decide +kernel⟩
theorem ok__law_tried (Dd : Df K mg "_law_tried" st__law_tried ["page"]) (B : Blt mg) (m_NoPart : mg "NoPart" = some (.ref A_NoPart)) (exm_NoPart_NoPart : PySem.W.exmOne K (.ref A_NoPart) (.ref A_NoPart) = some true) (exm_NoStep_NoPart : PySem.W.exmOne K (.ref A_NoStep) (.ref A_NoPart) = some false) (m_NoStep : mg "NoStep" = some (.ref A_NoStep)) (exm_NoPart_NoStep : PySem.W.exmOne K (.ref A_NoPart) (.ref A_NoStep) = some false) (exm_NoStep_NoStep : PySem.W.exmOne K (.ref A_NoStep) (.ref A_NoStep) = some true) (XF_NoPart : XfC K A_NoPart) (nof_NoPart : PySem.W.findIn K (.ref A_NoPart) "part" = some none) (XF_NoStep : XfC K A_NoStep) (nof_NoStep : PySem.W.findIn K (.ref A_NoStep) "index" = some none) (G_read_folding : Fn P w K mg base "read_folding" ["text"] 6 (sp_read_folding A_Folding A_NoStep A_NoPart) 0) : Fn P w K mg base "_law_tried" ["page"] 7 (sp__law_tried A_Folding) 0 := by
  refine fnE 0 Dd sc__law_tried (by intro ds Φ Ψ h; unfold sp__law_tried at h; split at h <;> first | rfl | exact h.elim) ⟨_, _, fun f cdv A outer s H E hr =>
      (qs_cons (qasg (qtup (qa_cons (qtup (qa_cons qstr qa_nil)) (qa_cons qnon qa_nil))) (qg_tup 2 rfl (qgs_cons (qg_name 1 sc__law_tried.nd) (qgs_cons (qg_name 2 sc__law_tried.nd) qgs_nil))))
      (qs_cons (qtry2 (X := cxOf (L2.CX P w) P w K mg base N__law_tried "_law_tried" (defScope st__law_tried) f cdv A outer s H E) (i1 := 3) (i2 := 3) K sc__law_tried.nd m_NoPart m_NoStep (takes_of rfl rfl rfl rfl) (fun W2 pn2 xe2 tk2 po2 => (qs_one (qset 2 (qcallF G_read_folding (hr.mono (by decide)) tk2 (qa_cons (qv 0) qa_nil)) sc__law_tried.nd)))
      (fun a2 oe2 A2 d2 pn2 hz2 hf2 => (qs_one (qset 1 (qtup (qa_cons qstr (qa_cons (qfldE (C := A_NoPart) K XF_NoPart nof_NoPart hz2 hf2 (qv 3)) qa_nil))) sc__law_tried.nd)))
      (fun a3 oe3 A3 d3 pn3 hz3 hf3 => (qs_one (qset 1 (qtup (qa_cons qstr (qa_cons (qfldE (C := A_NoStep) K XF_NoStep nof_NoStep hz3 hf3 (qv 3)) qa_nil))) sc__law_tried.nd))))
      (qs_one (qret (qtup (qa_cons (qv 1) (qa_cons (qv 2) qa_nil))))))), by decide, ?_⟩
  intro ds Φ Ψ q
  unfold sp__law_tried at q
  split at q
  · obtain ⟨v, hv, q⟩ := q
    refine ⟨v, hv, ?_⟩
    cases v with
    | made ss => exact q
    | part k => exact ⟨true, exm_NoPart_NoPart, fun a p => ⟨⟨rfl, rfl, rfl⟩, _, rfl, q⟩⟩
    | step k => exact ⟨false, exm_NoStep_NoPart, true, exm_NoStep_NoStep, fun a p => ⟨⟨rfl, rfl, rfl⟩, _, rfl, q⟩⟩
  · exact q.elim
def classD : Vd → D
  | .made _ => .tup []
  | .part _ => .tup [.bl true, .bl true, .bl false]
  | .step _ => .tup [.bl true, .bl false, .bl true]
def sp__law_classes : Sp' := fun ds Φ _ => match ds with
  | [d] => ∃ v, PageD d v ∧ Φ (classD v)
  | _ => False
abbrev st__law_classes : Stmt := top 51
abbrev N__law_classes : List Str := ["page", "found", "e"]
theorem sc__law_classes : FnScope N__law_classes ["page"] (defScope st__law_classes) := ⟨rfl, rfl, rfl, by decide +kernel, rfl, by decide +kernel, by decide +kernel⟩
theorem ok__law_classes (Dd : Df K mg "_law_classes" st__law_classes ["page"]) (B : Blt mg) (m_PlainError : mg "PlainError" = some (.ref A_PlainError)) (exm_NoPart_PlainError : PySem.W.exmOne K (.ref A_NoPart) (.ref A_PlainError) = some true) (exm_NoStep_PlainError : PySem.W.exmOne K (.ref A_NoStep) (.ref A_PlainError) = some true) (E_NoPart : ExQ K A_NoPart) (kit_NoPart_NoStep : PySem.W.kitOne K (.ref A_NoPart) (.ref A_NoStep) = some false) (E_NoStep : ExQ K A_NoStep) (kit_NoStep_NoStep : PySem.W.kitOne K (.ref A_NoStep) (.ref A_NoStep) = some true) (m_NoStep : mg "NoStep" = some (.ref A_NoStep)) (kit_NoPart_NoPart : PySem.W.kitOne K (.ref A_NoPart) (.ref A_NoPart) = some true) (kit_NoStep_NoPart : PySem.W.kitOne K (.ref A_NoStep) (.ref A_NoPart) = some false) (m_NoPart : mg "NoPart" = some (.ref A_NoPart)) (kit_NoPart_ValueError : PySem.W.kitOne K (.ref A_NoPart) (.type "ValueError") = some true) (kit_NoStep_ValueError : PySem.W.kitOne K (.ref A_NoStep) (.type "ValueError") = some true) (G_read_folding : Fn P w K mg base "read_folding" ["text"] 6 (sp_read_folding A_Folding A_NoStep A_NoPart) 0) : Fn P w K mg base "_law_classes" ["page"] 7 sp__law_classes 0 := by
  refine fnE 0 Dd sc__law_classes (by intro ds Φ Ψ h; unfold sp__law_classes at h; split at h <;> first | rfl | exact h.elim) ⟨_, _, fun f cdv A outer s H E hr =>
      (qs_cons (qset 1 (qtup qa_nil) sc__law_classes.nd)
      (qs_cons (qtryAs (X := cxOf (L2.CX P w) P w K mg base N__law_classes "_law_classes" (defScope st__law_classes) f cdv A outer s H E) (c := .ref A_PlainError) (i := 2) K sc__law_classes.nd m_PlainError (takes_of rfl rfl rfl rfl) (fun W2 pn2 xe2 tk2 po2 => (qs_one (qexpr (qcallFK G_read_folding (hr.mono (by decide)) tk2 (qk_cons (qv 0) qk_nil)))))
      (fun a2 oe2 A2 d2 pn2 hz2 hf2 => (qs_one (qset 1 (qtup (qa_cons (qisE K hz2 hf2 (.ty "ValueError") B.isinstance (qv 2) (pe_bltn rfl B.ValueError (by decide +kernel) rfl)) (qa_cons (qisE K hz2 hf2 (.own A_NoPart) B.isinstance (qv 2) (pe_glob rfl m_NoPart rfl)) (qa_cons (qisE K hz2 hf2 (.own A_NoStep) B.isinstance (qv 2) (pe_glob rfl m_NoStep rfl)) qa_nil)))) sc__law_classes.nd))))
      (qs_one (qret (qv 1))))), by decide, ?_⟩
  intro ds Φ Ψ q
  unfold sp__law_classes at q
  split at q
  · obtain ⟨v, hv, q⟩ := q
    refine ⟨v, hv, ?_⟩
    cases v with
    | made ss => exact q
    | part k => exact ⟨true, exm_NoPart_PlainError, fun a p => ⟨⟨rfl, rfl, E_NoPart⟩, _, kit_NoPart_ValueError, ⟨rfl, rfl, E_NoPart⟩, _, kit_NoPart_NoPart, ⟨rfl, rfl, E_NoPart⟩, _, kit_NoPart_NoStep, q⟩⟩
    | step k => exact ⟨true, exm_NoStep_PlainError, fun a p => ⟨⟨rfl, rfl, E_NoStep⟩, _, kit_NoStep_ValueError, ⟨rfl, rfl, E_NoStep⟩, _, kit_NoStep_NoPart, ⟨rfl, rfl, E_NoStep⟩, _, kit_NoStep_NoStep, q⟩⟩
  · exact q.elim
def sp__law_whole : Sp' := fun ds Φ _ => match ds with
  | [.int a, .int b] => a = b ∧ Φ (.bl true)
  | _ => False
abbrev st__law_whole : Stmt := top 43
abbrev N__law_whole : List Str := ["actual", "expected"]
theorem sc__law_whole : FnScope N__law_whole ["actual", "expected"] (defScope st__law_whole) := ⟨rfl, rfl, rfl, by decide +kernel, rfl, by decide +kernel, by decide +kernel⟩
theorem ok__law_whole (Dd : Df K mg "_law_whole" st__law_whole ["actual", "expected"]) (B : Blt mg) : Fn P w K mg base "_law_whole" ["actual", "expected"] 1 sp__law_whole 0 := by
  refine fnE 0 Dd sc__law_whole (by intro ds Φ Ψ h; unfold sp__law_whole at h; split at h <;> first | rfl | exact h.elim) ⟨_, _, fun f cdv A outer s H E hr =>
      (qs_one (qret (qandV (qisi isi_int (.ty _) B.isinstance (qv 0) (pe_bltn rfl B.int (by decide +kernel) rfl)) (qandV (qnotV (qisi isi_bool (.ty _) B.isinstance (qv 0) (pe_bltn rfl B.bool (by decide +kernel) rfl))) (qone (qcmp (op_eqG hr.units) eqL (qv 0) (qv 1) (nomark _))))))), by decide, ?_⟩
  intro ds Φ Ψ q
  unfold sp__law_whole at q
  split at q
  · rename_i a b
    obtain ⟨rfl, q⟩ := q
    show Φ (.bl (decide (a = a)))
    rw [decide_eq_true rfl]; exact q
  · exact q.elim
theorem row_sm2 {ss : List Stp} (hl : ss.length ≤ 1000) : smOk 2 (rowD ss) = true := by
  have h : ∀ s : Stp, smOk 1 s.toD = true := fun s => by cases s <;> simp [smOk, Stp.toD]
  show (decide ((ss.map Stp.toD).length ≤ 1000) && (ss.map Stp.toD).all (smOk 1)) = true
  rw [List.length_map, decide_eq_true hl, Bool.true_and, List.all_eq_true]
  intro d hd
  obtain ⟨s, _, rfl⟩ := List.mem_map.mp hd
  exact h s
def sp__law_right : Sp' := fun ds Φ _ => match ds with
  | [d, e] => ∃ v, PageD d v ∧ e = v.toD ∧ Φ (.bl true)
  | _ => False
abbrev st__law_right : Stmt := top 52
abbrev N__law_right : List Str := ["page", "due", "found", "result"]
theorem sc__law_right : FnScope N__law_right ["page", "due"] (defScope st__law_right) := ⟨rfl, rfl, rfl, by decide +kernel, rfl, by decide +kernel, by decide +kernel⟩
theorem ok__law_right (Dd : Df K mg "_law_right" st__law_right ["page", "due"]) (B : Blt mg) (T_Folding : TC_Folding K A_Folding) (is_Folding : IsC K A_Folding) (m_Folding : mg "Folding" = some (.ref A_Folding)) (G__law_tried : Fn P w K mg base "_law_tried" ["page"] 7 (sp__law_tried A_Folding) 0) (G__law_same2 : Fn P w K mg base "_law_same" ["actual", "expected"] 3 sp__law_same2 0) (G_Folding_steps : MFn P w K mg base A_Folding "steps" ["self"] 1 (sp_Folding_steps A_Folding) 0) (G__law_classes : Fn P w K mg base "_law_classes" ["page"] 7 sp__law_classes 0) (G__law_whole : Fn P w K mg base "_law_whole" ["actual", "expected"] 1 sp__law_whole 0) : Fn P w K mg base "_law_right" ["page", "due"] 8 sp__law_right 0 := by
  refine fnE 0 Dd sc__law_right (by intro ds Φ Ψ h; unfold sp__law_right at h; split at h <;> first | rfl | exact h.elim) ⟨_, _, fun f cdv A outer s H E hr =>
      (qs_cons (qasg (qcallF G__law_tried (hr.mono (by decide)) (takes_of rfl rfl rfl rfl) (qa_cons (qv 0) qa_nil)) (qg_tup 2 rfl (qgs_cons (qg_name 2 sc__law_right.nd) (qgs_cons (qg_name 3 sc__law_right.nd) qgs_nil))))
      (qs_cons (qifS (qtcmp (op_neG hr.units) eqL (qix (qv 2) qint) (qix (qv 1) qint) (nomark _))
      (qs_one (qret qbl))
      qs_nil)
      (qs_cons (qifS (qtcmp (op_eqG hr.units) eqL (qix (qv 1) qint) qstr (nomark _))
      (qs_one (qret (qandV (qisiO is_Folding (.own _) B.isinstance (qv 3) (pe_glob rfl m_Folding rfl)) (qone (qcallF G__law_same2 (hr.mono (by decide)) (takes_of rfl rfl rfl rfl) (qa_cons (qmeth0 G_Folding_steps T_Folding.cl (zno_Folding_steps) (hr.mono (by decide)) (takes_of rfl rfl rfl rfl) (qv 3)) (qa_cons (qix (qv 1) qint) qa_nil)))))))
      qs_nil)
      (qs_cons (qifS (qtcmp (op_neG hr.units) eqL (qcallF G__law_classes (hr.mono (by decide)) (takes_of rfl rfl rfl rfl) (qa_cons (qv 0) qa_nil)) (qtup (qa_cons qbl (qa_cons (qcmp (op_eqG hr.units) eqL (qix (qv 1) qint) qstr (nomark _)) (qa_cons (qcmp (op_eqG hr.units) eqL (qix (qv 1) qint) qstr (nomark _)) qa_nil)))) (nomark _))
      (qs_one (qret qbl))
      qs_nil)
      (qs_one (qret (qcallF G__law_whole (hr.mono (by decide)) (takes_of rfl rfl rfl rfl) (qa_cons (qix (qv 2) qint) (qa_cons (qix (qv 1) qint) qa_nil))))))))), by decide, ?_⟩
  intro ds Φ Ψ q
  unfold sp__law_right at q
  split at q
  · obtain ⟨v, hv, rfl, q⟩ := q
    refine ⟨v, hv, ?_⟩
    cases v with
    | made ss =>
      have h6 := page_made hv
      refine ⟨_, atI0, _, atI0, _, atI0, rfl, ?_⟩
      exact ⟨⟨rfl, rfl⟩, ⟨rfl, rfl⟩, _, atI1, rfl, row_sm2 (by omega), q⟩
    | part k =>
      refine ⟨_, atI0, _, atI0, _, atI0, _, hv, ?_⟩
      refine ⟨_, atI0, _, atI0, true, eqD_refl 1 rfl, ?_⟩
      exact ⟨_, atI1, _, atI1, rfl, q⟩
    | step k =>
      refine ⟨_, atI0, _, atI0, _, atI0, _, hv, ?_⟩
      refine ⟨_, atI0, _, atI0, true, eqD_refl 1 rfl, ?_⟩
      exact ⟨_, atI1, _, atI1, rfl, q⟩
  · exact q.elim
end
section
variable {P : Program} {w : World} {K : PySem.W.Frag} {mg : Str → Option Value} {base : Heap} {A_PlainError : Addr} {A_NoText : Addr} {A_NoStep : Addr} {A_NoPart : Addr} {A_Folding : Addr}
theorem lit_len {x : String} (h : (tl (Str.ofString x)).length ≤ 1000 := by decide +kernel) : (tl (Str.ofString x)).length ≤ sizeLine := len_ok (by omega)
def sp__law_edit : Sp' := fun ds Φ _ => match ds with
  | [.jar, .str l] => l.length ≤ 10000 ∧ ∀ m : List Nat, m.length ≤ l.length + 1 → Φ (.str m)
  | _ => False
abbrev st__law_edit : Stmt := top 47
abbrev N__law_edit : List Str := ["well", "page", "signs", "way", "at", "sign"]
theorem sc__law_edit : FnScope N__law_edit ["well", "page"] (defScope st__law_edit) := ⟨rfl, rfl, rfl, by decide +kernel, rfl, by decide +kernel, by decide +kernel⟩
theorem ok__law_edit (Dd : Df K mg "_law_edit" st__law_edit ["well", "page"]) (B : Blt mg) (G__law_draw : Fn P w K mg base "_law_draw" ["well", "many"] 1 sp__law_draw 1) : Fn P w K mg base "_law_edit" ["well", "page"] 2 sp__law_edit 4 := by
  refine fnE 0 Dd sc__law_edit (by intro ds Φ Ψ h; unfold sp__law_edit at h; split at h <;> first | rfl | exact h.elim) ⟨_, _, fun f cdv A outer s H E hr =>
      (qs_cons (qset 2 qstr sc__law_edit.nd)
      (qs_cons (qpar 3 4 (qcallF G__law_draw (hr.mono (by decide)) (takes_of rfl rfl rfl rfl) (qa_cons (qv 0) (qa_cons qint qa_nil))) (qcallF G__law_draw (hr.mono (by decide)) (takes_of rfl rfl rfl rfl) (qa_cons (qv 0) (qa_cons (qadd (kind := none) (qcB call_lenA lenL B.len (by decide +kernel) (qa_cons (qv 1) qa_nil)) qint) qa_nil))) sc__law_edit.nd)
      (qs_cons (qset 5 (qix (qv 2) (qcallF G__law_draw (hr.mono (by decide)) (takes_of rfl rfl rfl rfl) (qa_cons (qv 0) (qa_cons (qcB call_lenA lenL B.len (by decide +kernel) (qa_cons (qv 2) qa_nil)) qa_nil)))) sc__law_edit.nd)
      (qs_cons (qifS (qtcmp (op_eqG hr.units) eqL (qv 3) qint (nomark _))
      (qs_one (qret (qadd (kind := none) (qsl (kind := none) (qv 1) qo_none (qo_some (qv 4))) (qsl (kind := none) (qv 1) (qo_some (qadd (kind := none) (qv 4) qint)) qo_none))))
      qs_nil)
      (qs_cons (qifS (qtcmp (op_eqG hr.units) eqL (qv 3) qint (nomark _))
      (qs_one (qret (qadd (kind := none) (qadd (kind := none) (qsl (kind := none) (qv 1) qo_none (qo_some (qv 4))) (qv 5)) (qsl (kind := none) (qv 1) (qo_some (qadd (kind := none) (qv 4) qint)) qo_none))))
      qs_nil)
      (qs_cons (qifS (qtcmp (op_eqG hr.units) eqL (qv 3) qint (nomark _))
      (qs_one (qset 5 (qix qstr (qcallF G__law_draw (hr.mono (by decide)) (takes_of rfl rfl rfl rfl) (qa_cons (qv 0) (qa_cons qint qa_nil)))) sc__law_edit.nd))
      qs_nil)
      (qs_one (qret (qadd (kind := none) (qadd (kind := none) (qsl (kind := none) (qv 1) qo_none (qo_some (qv 4))) (qv 5)) (qsl (kind := none) (qv 1) (qo_some (qv 4)) qo_none)))))))))), by decide, ?_⟩
  intro ds Φ Ψ q
  unfold sp__law_edit at q
  split at q
  · rename_i l
    obtain ⟨hl, q⟩ := q
    refine ⟨by decide, fun way w0 w1 => ?_⟩
    have lz : l.length ≤ sizeLine := len_ok (by omega)
    have cl : ∀ lo hi, (Pl.cut l lo hi).length ≤ l.length := fun lo hi => by
      unfold Pl.cut
      rw [List.length_take, List.length_drop]; omega
    refine ⟨lz, (show (0 : Int) < (l.length : Int) + 1 ∧ (l.length : Int) + 1 < 2 ^ 200 by omega), fun r r0 r1 => ?_⟩
    replace r1 : r < (l.length : Int) + 1 := r1
    obtain ⟨n, rfl⟩ := Int.eq_ofNat_of_zero_le r0
    have hn : n ≤ l.length := by omega
    have t1 : Pl.cut l none (some (n : Int)) = l.take n := cut_to l n
    have t2 : Pl.cut l (some ((n : Int) + 1)) none = l.drop (n + 1) := by rw [show ((n : Int) + 1) = ((n + 1 : Nat) : Int) by omega]; exact cut_from l (n + 1)
    have t3 : Pl.cut l (some (n : Int)) none = l.drop n := cut_from l n
    refine ⟨lit_len, ⟨by decide +kernel, by decide +kernel⟩, fun r2 h2 h3 => ?_⟩
    refine ⟨lit_len, chAny h2 h3 fun c hc => ?_⟩
    have l1 : (Pl.cut l none (some (n : Int))).length = n := by rw [t1, List.length_take]; omega
    have l2 : (Pl.cut l (some ((n : Int) + 1)) none).length = l.length - (n + 1) := by rw [t2, List.length_drop]
    have l3 : (Pl.cut l (some (n : Int)) none).length = l.length - n := by rw [t3, List.length_drop]
    have app : ∀ {a b : List Nat} (k : Nat), a.length + b.length ≤ k → k ≤ 1000000 → a.length + b.length ≤ sizeLine := fun k h1 h2 => len_ok (by omega)
    refine iteB (fun _ => ?_) (fun y => ?_)
    · exact ⟨lz, lz, app 20000 (by rw [l1, l2]; omega) (by decide), q _ (by rw [List.length_append, l1, l2]; omega)⟩
    refine iteB (fun _ => ?_) (fun y => ?_)
    · exact ⟨lz, app 20000 (by rw [l1]; simp; omega) (by decide), lz, app 20000 (by rw [List.length_append, l1, l2]; simp; omega) (by decide), q _ (by rw [List.length_append, List.length_append, l1, l2]; simp; omega)⟩
    have fin : ∀ c : Nat, ((Pl.cut l none (some (n : Int)) ++ [c]) ++ Pl.cut l (some (n : Int)) none).length ≤ l.length + 1 := fun c => by rw [List.length_append, List.length_append, l1, l3]; simp; omega
    have fin1 : ∀ c : Nat, (Pl.cut l none (some (n : Int))).length + [c].length ≤ 20000 := fun c => by rw [l1]; simp; omega
    have fin2 : ∀ c : Nat, (Pl.cut l none (some (n : Int)) ++ [c]).length + (Pl.cut l (some (n : Int)) none).length ≤ 20000 := fun c => by rw [List.length_append, l1, l3]; simp; omega
    refine iteB (fun _ => ?_) (fun y => ?_)
    · refine ⟨by decide, fun r4 h4 h5 => ?_⟩
      refine ⟨lit_len, chAny h4 h5 fun c2 hc2 => ?_⟩
      exact ⟨lz, app 20000 (fin1 c2) (by decide), lz, app 20000 (fin2 c2) (by decide), q _ (fin c2)⟩
    · exact ⟨lz, app 20000 (fin1 c) (by decide), lz, app 20000 (fin2 c) (by decide), q _ (fin c)⟩
  · exact q.elim
local macro_rules | `(tactic| walk_at "al") => `(tactic| repeat' (first | refine List.forall_mem_cons.2 ⟨?_, ?_⟩ | exact fun _ h => absurd h List.not_mem_nil))
def shortD : D → Prop
  | .str l => l.length ≤ 50
  | _ => False
def sp__law_near_part : Sp' := fun ds Φ _ => match ds with
  | [.jar, .str [c]] => ∀ m : List Nat, m.length ≤ 50 → Φ (.str m)
  | _ => False
abbrev st__law_near_part : Stmt := top 48
abbrev N__law_near_part : List Str := ["well", "one", "near"]
theorem sc__law_near_part : FnScope N__law_near_part ["well", "one"] (defScope st__law_near_part) := ⟨rfl, rfl, rfl, by decide +kernel, rfl, by decide +kernel, by decide +kernel⟩
theorem ok__law_near_part (Dd : Df K mg "_law_near_part" st__law_near_part ["well", "one"]) (B : Blt mg) (G__law_draw : Fn P w K mg base "_law_draw" ["well", "many"] 1 sp__law_draw 1) : Fn P w K mg base "_law_near_part" ["well", "one"] 2 sp__law_near_part 1 := by
  refine fnE 0 Dd sc__law_near_part (by intro ds Φ Ψ h; unfold sp__law_near_part at h; split at h <;> first | rfl | exact h.elim) ⟨_, _, fun f cdv A outer s H E hr =>
      (qs_cons (qset 2 (qlst (kind := none) (qa_cons qstr (qa_cons qstr (qa_cons qstr (qa_cons qstr (qa_cons qstr (qa_cons qstr (qa_cons qstr (qa_cons (qadd (kind := none) qstr (qv 1)) (qa_cons qstr (qa_cons (qadd (kind := none) qstr (qv 1)) qa_nil))))))))))) sc__law_near_part.nd)
      (qs_cons (qset 2 (qadd (kind := none) (qv 2) (qlst (kind := none) (qa_cons qstr (qa_cons qstr (qa_cons qstr (qa_cons qstr (qa_cons qstr (qa_cons qstr (qa_cons qstr (qa_cons qstr (qa_cons qstr qa_nil))))))))))) sc__law_near_part.nd)
      (qs_cons (qset 2 (qadd (kind := none) (qv 2) (qlst (kind := none) (qa_cons qstr (qa_cons qstr (qa_cons qstr (qa_cons qstr (qa_cons qstr (qa_cons qstr (qa_cons qstr (qa_cons qstr qa_nil)))))))))) sc__law_near_part.nd)
      (qs_cons (qset 2 (qadd (kind := none) (qv 2) (qlst (kind := none) (qa_cons qstr (qa_cons qstr (qa_cons qstr (qa_cons qstr (qa_cons qstr (qa_cons qstr (qa_cons qstr (qa_cons qstr (qa_cons qstr (qa_cons qstr qa_nil)))))))))))) sc__law_near_part.nd)
      (qs_cons (qset 2 (qadd (kind := none) (qv 2) (qlst (kind := none) (qa_cons qstr (qa_cons qstr (qa_cons qstr (qa_cons qstr (qa_cons qstr (qa_cons qstr (qa_cons qstr (qa_cons qstr (qa_cons qstr qa_nil))))))))))) sc__law_near_part.nd)
      (qs_cons (qset 2 (qadd (kind := none) (qv 2) (qlst (kind := none) (qa_cons qstr (qa_cons qstr (qa_cons qstr (qa_cons qstr (qa_cons qstr (qa_cons qstr qa_nil)))))))) sc__law_near_part.nd)
      (qs_one (qret (qix (qv 2) (qcallF G__law_draw (hr.mono (by decide)) (takes_of rfl rfl rfl rfl) (qa_cons (qv 0) (qa_cons (qcB call_lenA lenL B.len (by decide +kernel) (qa_cons (qv 2) qa_nil)) qa_nil)))))))))))), by decide, ?_⟩
  intro ds Φ Ψ q
  unfold sp__law_near_part at q
  split at q
  · rename_i c
    have b1 : ∀ x : Str, x.length ≤ 100 → (tl x).length + [c].length ≤ sizeLine := fun x h => len_ok (by rw [show (tl x).length = x.length from by simp [tl, Str.length]]; simp; omega)
    refine ⟨b1 _ (by decide +kernel), b1 _ (by decide +kernel), ?_⟩
    refine ⟨len_ok (by simp), ?_⟩
    refine ⟨len_ok (by simp), ?_⟩
    refine ⟨len_ok (by simp), ?_⟩
    refine ⟨len_ok (by simp), ?_⟩
    refine ⟨len_ok (by simp), ?_⟩
    refine ⟨⟨by simp, by simp⟩, fun r h0 h1 => ?_⟩
    refine ixAny h0 h1 ?_
    have ap : ∀ {p : D → Prop} {a b : List D}, (∀ x ∈ a, p x) → (∀ x ∈ b, p x) → ∀ x ∈ a ++ b, p x := fun ha hb x hx => (List.mem_append.mp hx).elim (ha x) (hb x)
    refine ap (ap (ap (ap (ap ?_ ?_) ?_) ?_) ?_) ?_
    all_goals walk_at "al"
    all_goals refine q _ ?_
    all_goals first
      | decide +kernel
      | (rw [List.length_append]; show (tl _).length + 1 ≤ 50; decide +kernel)
  · exact q.elim
theorem sum_ins (ls : List (List Nat)) (n : Nat) (x : List Nat) : (((ls.take n ++ [x] ++ ls.drop n).map List.length).sum) = (ls.map List.length).sum + x.length := by
  have e : (ls.map List.length).sum = ((ls.take n).map List.length).sum + ((ls.drop n).map List.length).sum := by
    rw [← List.sum_append, ← List.map_append, List.take_append_drop]
  simp [e]; omega
theorem joinL_sum (s : List Nat) : ∀ ls : List (List Nat), (joinL s ls).length ≤ (ls.map List.length).sum + ls.length * s.length
  | [] => by simp [joinL]
  | [l] => by simp [joinL]
  | l :: m :: ls => by
    have ih := joinL_sum s (m :: ls)
    have e : joinL s (l :: m :: ls) = l ++ s ++ joinL s (m :: ls) := by simp [joinL]
    rw [e, List.length_append, List.length_append, List.map_cons, List.sum_cons, List.length_cons, Nat.succ_mul]
    omega
theorem map_erase {α β : Type} (f : α → β) : ∀ (ls : List α) (n : Nat), (ls.map f).eraseIdx n = (ls.eraseIdx n).map f
  | [], n => rfl
  | l :: ls, 0 => rfl
  | l :: ls, n + 1 => by simp [map_erase f ls n]
theorem sum_erase : ∀ (ls : List (List Nat)) (n : Nat), ((ls.eraseIdx n).map List.length).sum ≤ (ls.map List.length).sum
  | [], n => by simp
  | l :: ls, 0 => by simp
  | l :: ls, n + 1 => by have := sum_erase ls n; simp; omega
def sp__law_spoilt : Sp' := fun ds Φ _ => match ds with
  | [.jar, .str p, .str l] => isPool p ∧ l.length ≤ 1000 ∧ ∀ m : List Nat, m.length ≤ 100000 → Φ (.str m)
  | _ => False
abbrev st__law_spoilt : Stmt := top 49
abbrev N__law_spoilt : List Str := ["well", "pool", "page", "way", "parts", "spot", "other", "turn"]
theorem sc__law_spoilt : FnScope N__law_spoilt ["well", "pool", "page"] (defScope st__law_spoilt) := ⟨rfl, rfl, rfl, by decide +kernel, rfl, by decide +kernel, by decide +kernel⟩
theorem ok__law_spoilt (Dd : Df K mg "_law_spoilt" st__law_spoilt ["well", "pool", "page"]) (B : Blt mg) (G__law_draw : Fn P w K mg base "_law_draw" ["well", "many"] 1 sp__law_draw 1) (G__law_edit : Fn P w K mg base "_law_edit" ["well", "page"] 2 sp__law_edit 4) (G__law_near_part : Fn P w K mg base "_law_near_part" ["well", "one"] 2 sp__law_near_part 1) (G__law_part : Fn P w K mg base "_law_part" ["step"] 1 sp__law_part 0) (G__law_step : Fn P w K mg base "_law_step" ["well", "pool"] 3 sp__law_step 42) : Fn P w K mg base "_law_spoilt" ["well", "pool", "page"] 4 sp__law_spoilt 303 := by
  refine fnE 0 Dd sc__law_spoilt (by intro ds Φ Ψ h; unfold sp__law_spoilt at h; split at h <;> first | rfl | exact h.elim) ⟨_, _, fun f cdv A outer s H E hr =>
      (qs_cons (qset 3 (qcallF G__law_draw (hr.mono (by decide)) (takes_of rfl rfl rfl rfl) (qa_cons (qv 0) (qa_cons qint qa_nil))) sc__law_spoilt.nd)
      (qs_cons (qifS (qtcmp op_lt ordL (qv 3) qint (nomark _))
      (qs_one (qret (qcallF G__law_edit (hr.mono (by decide)) (takes_of rfl rfl rfl rfl) (qa_cons (qv 0) (qa_cons (qv 2) qa_nil)))))
      qs_nil)
      (qs_cons (qset 4 (qms PySem.F.slot_str_split PySem.F.type_str_split mt_split (splitM (kind := (some 0))) (qv 2) (qa_cons qstr qa_nil)) sc__law_spoilt.nd)
      (qs_cons (qpar 5 6 (qcallF G__law_draw (hr.mono (by decide)) (takes_of rfl rfl rfl rfl) (qa_cons (qv 0) (qa_cons (qcB call_lenA lenL B.len (by decide +kernel) (qa_cons (qv 4) qa_nil)) qa_nil))) (qcallF G__law_draw (hr.mono (by decide)) (takes_of rfl rfl rfl rfl) (qa_cons (qv 0) (qa_cons (qcB call_lenA lenL B.len (by decide +kernel) (qa_cons (qv 4) qa_nil)) qa_nil))) sc__law_spoilt.nd)
      (qs_cons (qifS (qtcmp op_lt ordL (qv 3) qint (nomark _))
      (qs_one (qexpr (qmm PySem.F.plainAttrs_list PySem.F.slot_list_insert PySem.F.type_list_insert mt_insert insertL (qv 4) (qa_cons (qadd (kind := none) (qv 5) (qmod (qcT call_int1 intL B.int (by decide +kernel) (qa_cons (qv 6) qa_nil)) qint)) (qa_cons (qcallF G__law_near_part (hr.mono (by decide)) (takes_of rfl rfl rfl rfl) (qa_cons (qv 0) (qa_cons (qix (qv 1) qint) qa_nil))) qa_nil)))))
      (qs_one (qifS (qtcmp (op_eqG hr.units) eqL (qv 3) qint (nomark _))
      (qs_one (qexpr (qmm PySem.F.plainAttrs_list PySem.F.slot_list_insert PySem.F.type_list_insert mt_insert insertL (qv 4) (qa_cons (qv 5) (qa_cons (qix (qv 4) (qv 6)) qa_nil)))))
      (qs_one (qifS (PW.pt (qand (qtcmp (op_eqG hr.units) eqL (qv 3) qint (nomark _)) (qand1 (qtcmp op_gt ordL (qcB call_lenA lenL B.len (by decide +kernel) (qa_cons (qv 4) qa_nil)) qint (nomark _)))))
      (qs_one (qexpr (qmm PySem.F.plainAttrs_list PySem.F.slot_list_pop PySem.F.type_list_pop mt_popAt popAtL (qv 4) (qa_cons (qv 5) qa_nil))))
      (qs_one (qforC 294 (qi_range B.range (qa_cons (qadd (kind := none) qint (qcallF G__law_draw (hr.mono (by decide)) (takes_of rfl rfl rfl rfl) (qa_cons (qv 0) (qa_cons qint qa_nil)))) qa_nil)) (qg_name 7 sc__law_spoilt.nd)
      (qs_one (qexpr (qapp (qv 4) (qcallF G__law_part (hr.mono (by decide)) (takes_of rfl rfl rfl rfl) (qa_cons (qcallF G__law_step (hr.mono (by decide)) (takes_of rfl rfl rfl rfl) (qa_cons (qv 0) (qa_cons (qv 1) qa_nil))) qa_nil))))) (passes_of rfl) rfl)))))))
      (qs_one (qret (qms PySem.F.slot_str_join PySem.F.type_str_join mt_join joinM qstr (qa_cons (qv 4) qa_nil))))))))), by decide, ?_⟩
  intro ds Φ Ψ q
  unfold sp__law_spoilt at q
  split at q
  · rename_i p l
    obtain ⟨hp, hl, q⟩ := q
    refine ⟨by decide, fun way w0 w1 => ?_⟩
    refine iteB (fun _ => ?_) (fun _ => ?_)
    · exact ⟨by omega, fun m hm => q m (by omega)⟩
    refine ⟨⟨by decide, by omega⟩, ?_⟩
    have sl : (splL (tl (Str.ofString "; ")) l).length ≤ 1002 := Nat.le_trans (spl_le betT l) (by omega)
    have ss : ((splL (tl (Str.ofString "; ")) l).map List.length).sum ≤ 1000 := by
      have h1 := sum_join betT (splL betT l)
      rw [spl_join] at h1
      exact Nat.le_trans h1 hl
    have sp : 0 < (splL (tl (Str.ofString "; ")) l).length := by
      obtain ⟨w, rest, e⟩ := spl_ne betT l
      have : splL (tl (Str.ofString "; ")) l = w :: rest := e
      rw [this]; simp
    show mk (some 0) _ _ _
    generalize splL (tl (Str.ofString "; ")) l = ps at sl ss sp ⊢
    have lp : (ps.map D.str).length = ps.length := by simp
    have fin : ∀ ls : List (List Nat), ls.length ≤ 1100 → (ls.map List.length).sum ≤ 5000 → ((ls.map List.length).sum + ls.length * (tl (Str.ofString "; ")).length ≤ 1000000 ∧ Φ (.str (joinL (tl (Str.ofString "; ")) ls))) := fun ls h1 h2 => by
      have h3 := joinL_sum (tl (Str.ofString "; ")) ls
      rw [show (tl (Str.ofString "; ")).length = 2 from rfl] at h3 ⊢
      exact ⟨by omega, q _ (by omega)⟩
    refine ⟨⟨by rw [lp]; omega, by rw [lp]; omega⟩, fun r0 h0 h1 => ?_⟩
    refine ⟨⟨by rw [lp]; omega, by rw [lp]; omega⟩, fun r1 h2 h3 => ?_⟩
    replace h1 : r0 < ((ps.map D.str).length : Int) := h1
    replace h3 : r1 < ((ps.map D.str).length : Int) := h3
    rw [lp] at h1 h3
    have ei : ∀ (n : Nat) (x : List Nat), (ps.map D.str).take n ++ [D.str x] ++ (ps.map D.str).drop n = (ps.take n ++ [x] ++ ps.drop n).map D.str := fun n x => by simp [List.map_take, List.map_drop]
    have fini : ∀ (n : Nat) (x : List Nat), x.length ≤ 1000 → (((ps.take n ++ [x] ++ ps.drop n).map List.length).sum + (ps.take n ++ [x] ++ ps.drop n).length * (tl (Str.ofString "; ")).length ≤ 1000000 ∧ Φ (.str (joinL (tl (Str.ofString "; ")) (ps.take n ++ [x] ++ ps.drop n)))) := fun n x hx => fin _ (by simp; omega) (by rw [sum_ins]; omega)
    have lz : (ps.map D.str).length < sizeLine := Nat.lt_of_lt_of_le (show (ps.map D.str).length < 10000 by rw [lp]; omega) (len_ok (by decide))
    have am : ∀ (ls : List (List Nat)), asStrs (ls.map D.str) = some ls := fun ls => by have := asStrs_map (fun l : List Nat => l) ls; rw [List.map_id'] at this; exact this
    refine iteB (fun _ => ?_) (fun _ => ?_)
    · obtain ⟨c, hc, ec⟩ := pool_at hp (r := 0) (by decide) (by decide)
      refine ⟨(show (0 : Int) < 2 by decide), pool_len hp, c, ec, fun m hm => ?_⟩
      refine ⟨⟨by omega, by omega⟩, lz, ?_⟩
      rw [ei]
      have := fini (r0 + r1 % 2).toNat m (by omega)
      exact ⟨_, _, rfl, am _, this.1, this.2⟩
    refine iteB (fun _ => ?_) (fun _ => ?_)
    · obtain ⟨x, hx, ex⟩ := atI_mem (l := ps.map D.str) h2 (by rw [lp]; exact h3)
      obtain ⟨m, hm, rfl⟩ := List.mem_map.mp hx
      refine ⟨_, ex, ⟨by omega, by omega⟩, lz, ?_⟩
      rw [ei]
      have := fini r0.toNat m (by have := sum_mem hm; omega)
      exact ⟨_, _, rfl, am _, this.1, this.2⟩
    refine iteB (fun _ => iteB (fun _ => ?pop) (fun _ => ?_)) (fun _ => ?_)
    case pop =>
      obtain ⟨n, rfl⟩ := Int.eq_ofNat_of_zero_le h0
      have hn : n < ps.length := by omega
      refine ⟨⟨by omega, by omega⟩, n, .str ps[n], ?_, by simp [hn], ?_⟩
      · rw [lp]; unfold ixN; simp; omega
      have e2 : (ps.map D.str).eraseIdx n = (ps.eraseIdx n).map D.str := map_erase D.str ps n
      rw [e2]
      have h4 := List.length_eraseIdx_le ps n
      have h5 := sum_erase ps n
      have := fin (ps.eraseIdx n) (by omega) (by omega)
      exact ⟨_, _, rfl, am _, this.1, this.2⟩
    all_goals
      refine ⟨by decide, fun r4 h4 h5 => ?_⟩
      replace h5 : r4 < 7 := h5
      refine ⟨⟨by omega, by omega⟩, by rw [rangeD_len]; omega, ?_⟩
      refine forD_inv (fun rest env S => ∃ (e7 : Option U) (ls : List (List Nat)), ls.length + rest.length ≤ 1010 ∧ (ls.map List.length).sum + rest.length * 66 ≤ 2000 ∧ env = [some (.d .jar), some (.d (.str p)), some (.d (.str l)), some (.d (.int way)), some (.r 0), some (.d (.int r0)), some (.d (.int r1)), e7] ∧ S = [some (.lst (ls.map D.str))]) ?_ _ _ _ ⟨_, ps, by rw [rangeD_len]; omega, by rw [rangeD_len]; omega, rfl, rfl⟩ ?_
      · rintro env S ⟨e7, ls, hls, hsm, rfl, rfl⟩
        simp only [List.length_nil] at hls hsm
        have := fin ls (by omega) (by omega)
        exact ⟨_, _, rfl, am _, this.1, this.2⟩
      · rintro d rest env S ⟨e7, ls, hls, hsm, rfl, rfl⟩ k
        simp only [List.length_cons] at hls hsm
        refine ⟨hp, fun s hs => ⟨s, rfl, hs, ?_⟩⟩
        have hst := stepTxt_len hs
        refine ⟨Nat.lt_of_lt_of_le (show (ls.map D.str).length < 10000 by simp; omega) (len_ok (by decide)), ?_⟩
        exact k _ _ ⟨_, ls ++ [stepTxt s], by simp; omega, by simp; omega, rfl, by simp⟩
  · exact q.elim
end
section
variable {P : Program} {w : World} {K : PySem.W.Frag} {mg : Str → Option Value} {base : Heap} {A_PlainError : Addr} {A_NoText : Addr} {A_NoStep : Addr} {A_NoPart : Addr} {A_Folding : Addr}
theorem mx_ok (L : Int) (h0 : 0 ≤ L) (h : L ≤ 63) : 1 ≤ (if L > 1 then L else 1) ∧ (if L > 1 then L else 1) ≤ 63 := by
  split <;> omega
theorem rangeD_mem {n : Nat} (h : n ≤ 1000) : ∀ d ∈ rangeD 0 n, ∃ k : Int, d = .int k ∧ 0 ≤ k ∧ k ≤ 1000 := fun d hd => by
  obtain ⟨i, hi, rfl⟩ := List.mem_map.mp hd
  have := List.mem_range.mp hi
  exact ⟨_, rfl, by omega, by omega⟩
theorem cut_le (m : List Nat) : (Pl.cut m none (some 1000)).length ≤ 1000 := by
  rw [show Pl.cut m none (some 1000) = m.take 1000 from cut_to m 1000, List.length_take]
  omega
def sp_law : Sp' := fun ds Φ _ => match ds with
  | [d] => ∃ ns, d = scrD ns ∧ ns.length ≤ 63 ∧ Φ (.bl true)
  | _ => False
abbrev st_law : Stmt := top 53
abbrev N_law : List Str := ["script", "k", "well", "way", "spoils", "pool", "page", "thing", "turn"]
theorem sc_law : FnScope N_law ["script"] (defScope st_law) := ⟨rfl, rfl, rfl, by decide +kernel, rfl, by decide +kernel, by decide +kernel⟩
theorem ok_law {f0 : Addr} {fd0 : FuncData} (Dd : Fun K "law" "law" st_law f0 fd0) (B : Blt mg) (G__law_well : Fn P w K mg base "_law_well" ["script", "k"] 1 sp__law_well 0) (G__law_draw : Fn P w K mg base "_law_draw" ["well", "many"] 1 sp__law_draw 1) (G__law_pool : Fn P w K mg base "_law_pool" ["well"] 2 sp__law_pool 5) (G__law_folding_text : Fn P w K mg base "_law_folding_text" ["steps"] 2 sp__law_folding_text 0) (G__law_steps : Fn P w K mg base "_law_steps" ["well", "pool"] 4 sp__law_steps 253) (G__law_right : Fn P w K mg base "_law_right" ["page", "due"] 8 sp__law_right 0) (G__law_spoilt : Fn P w K mg base "_law_spoilt" ["well", "pool", "page"] 4 sp__law_spoilt 303) (G__law_read : Fn P w K mg base "_law_read" ["page"] 3 sp__law_read 0) : FnOk P w K mg base (L2.CX P w) 9 f0 fd0 ["script"] (liftP K sp_law 73647) := by
  refine fnL 0 Dd sc_law (by intro ds Φ Ψ h; unfold sp_law at h; split at h <;> first | rfl | exact h.elim) ⟨_, _, fun f cdv A outer s H E hr =>
      (qs_cons (qforC 73647 (qi_range B.range (qa_cons (qcB (call_max2 rfl) maxL B.max (by decide +kernel) (qa_cons qint (qa_cons (qcB call_lenA lenL B.len (by decide +kernel) (qa_cons (qv 0) qa_nil)) qa_nil))) qa_nil)) (qg_name 1 sc_law.nd)
      (qs_cons (qset 2 (qcallF G__law_well (hr.mono (by decide)) (takes_of rfl rfl rfl rfl) (qa_cons (qv 0) (qa_cons (qv 1) qa_nil))) sc_law.nd)
      (qs_cons (qpar 3 4 (qcallF G__law_draw (hr.mono (by decide)) (takes_of rfl rfl rfl rfl) (qa_cons (qv 2) (qa_cons qint qa_nil))) (qcallF G__law_draw (hr.mono (by decide)) (takes_of rfl rfl rfl rfl) (qa_cons (qv 2) (qa_cons qint qa_nil))) sc_law.nd)
      (qs_cons (qset 5 (qcallF G__law_pool (hr.mono (by decide)) (takes_of rfl rfl rfl rfl) (qa_cons (qv 2) qa_nil)) sc_law.nd)
      (qs_cons (qset 6 (qcallF G__law_folding_text (hr.mono (by decide)) (takes_of rfl rfl rfl rfl) (qa_cons (qcallF G__law_steps (hr.mono (by decide)) (takes_of rfl rfl rfl rfl) (qa_cons (qv 2) (qa_cons (qv 5) qa_nil))) qa_nil)) sc_law.nd)
      (qs_cons (qifS (qtcmp op_lt ordL (qv 3) qint (nomark _))
      (qs_cons (qset 7 (qix (qlst (kind := none) (qa_cons qnon (qa_cons qint (qa_cons qbl (qa_cons (qlst (kind := none) qa_nil) (qa_cons (qlst (kind := none) (qa_cons (qv 6) qa_nil)) (qa_cons (qtup (qa_cons (qv 6) qa_nil)) (qa_cons (qdict0 (kind := none)) qa_nil)))))))) (qv 3)) sc_law.nd)
      (qs_one (qifS (qnotT (qtru (qcallF G__law_right (hr.mono (by decide)) (takes_of rfl rfl rfl rfl) (qa_cons (qv 7) (qa_cons (qtup (qa_cons qstr (qa_cons qint qa_nil))) qa_nil)))))
      (qs_one (qret qbl))
      qs_nil)))
      qs_nil)
      (qs_cons (qforC 909 (qi_range B.range (qa_cons (qv 4) qa_nil)) (qg_name 8 sc_law.nd)
      (qs_one (qset 6 (qsl (kind := none) (qcallF G__law_spoilt (hr.mono (by decide)) (takes_of rfl rfl rfl rfl) (qa_cons (qv 2) (qa_cons (qv 5) (qa_cons (qv 6) qa_nil)))) qo_none (qo_some qint)) sc_law.nd)) (passes_of rfl) rfl)
      (qs_one (qifS (qnotT (qtru (qcallF G__law_right (hr.mono (by decide)) (takes_of rfl rfl rfl rfl) (qa_cons (qv 6) (qa_cons (qcallF G__law_read (hr.mono (by decide)) (takes_of rfl rfl rfl rfl) (qa_cons (qv 6) qa_nil)) qa_nil)))))
      (qs_one (qret qbl))
      qs_nil)))))))) (passes_of rfl) rfl)
      (qs_one (qret qbl))), by decide, ?_⟩
  intro ds Φ Ψ q
  unfold sp_law at q
  split at q
  · obtain ⟨ns, rfl, hl, q⟩ := q
    have hm := mx_ok ((ns.map D.int).length : Int) (by omega) (by simp; omega)
    refine ⟨⟨by omega, by omega⟩, ?_⟩
    refine ⟨by rw [rangeD_len]; omega, ?_⟩
    refine forD_inv (fun rest env S => ∃ (e1 e2 e3 e4 e5 e6 e7 e8 : Option U), (∀ d ∈ rest, ∃ k : Int, d = .int k ∧ 0 ≤ k ∧ k ≤ 1000) ∧
      env = [some (.d (scrD ns)), e1, e2, e3, e4, e5, e6, e7, e8] ∧ S = []) ?_ _ _ _ ⟨_, _, _, _, _, _, _, _, rangeD_mem (by omega), rfl, rfl⟩ ?_
    · rintro env S ⟨e1, e2, e3, e4, e5, e6, e7, e8, _, rfl, rfl⟩
      exact q
    · rintro d rest env S ⟨e1, e2, e3, e4, e5, e6, e7, e8, hr, rfl, rfl⟩ k
      obtain ⟨i, rfl, hi, hi2⟩ := hr d (by simp)
      have k := fun e1 e2 e3 e4 e5 e6 e7 e8 => k _ _ ⟨e1, e2, e3, e4, e5, e6, e7, e8, fun z hz => hr z (by simp [hz]), rfl, rfl⟩
      refine ⟨ns, rfl, hi, hi2, ?_⟩
      refine ⟨by decide, fun way w0 w1 => ⟨by decide, fun sp s0 s1 => ?_⟩⟩
      replace w1 : way < 42 := w1
      replace s1 : sp < 4 := s1
      intro p hp
      refine ⟨hp, fun ss hl6 hok => ⟨ss, rfl, hl6, hok, ?_⟩⟩
      have hl0 := foldTxt_len hl6 hok
      generalize foldTxt ss = page at hl0
      have tail : ∀ (e7 : Option U), True := fun _ => trivial
      refine iteB (fun wl => ixAny w0 (show way < 7 from of_decide_eq_true wl) fun x hx => ?_) (fun _ => ?_)
      · have hx2 : noTextK x = true := by
          simp only [List.mem_cons, List.not_mem_nil, or_false] at hx
          rcases hx with rfl | rfl | rfl | rfl | rfl | rfl | rfl <;> rfl
        refine ⟨.part 0, .inr ⟨hx2, rfl⟩, rfl, ?_⟩
        refine ⟨⟨by omega, by omega⟩, by rw [rangeD_len]; omega, ?_⟩
        refine forD_inv (fun rest env S => ∃ (pg : List Nat) (e7 e8 : Option U), pg.length ≤ 1000 ∧ env = [some (.d (scrD ns)), some (.d (.int i)), some (.d .jar), some (.d (.int way)), some (.d (.int sp)), some (.d (.str p)), some (.d (.str pg)), e7, e8] ∧ S = []) ?_ _ _ _ ⟨page, _, _, hl0, rfl, rfl⟩ ?_
        · rintro env S ⟨pg, e7, e8, hpg, rfl, rfl⟩
          obtain ⟨v, hv⟩ := page_ok hpg
          refine ⟨pg, v, rfl, hpg, hv, v, .inl ⟨pg, rfl, hpg, hv⟩, rfl, ?_⟩
          exact k _ _ _ _ _ _ _ _
        · rintro d2 rest2 env S ⟨pg, e7, e8, hpg, rfl, rfl⟩ k2
          refine ⟨hp, hpg, fun m hm => ⟨len_ok (by omega), ?_⟩⟩
          exact k2 _ _ ⟨_, _, _, cut_le m, rfl, rfl⟩
      · refine ⟨⟨by omega, by omega⟩, by rw [rangeD_len]; omega, ?_⟩
        refine forD_inv (fun rest env S => ∃ (pg : List Nat) (e7 e8 : Option U), pg.length ≤ 1000 ∧ env = [some (.d (scrD ns)), some (.d (.int i)), some (.d .jar), some (.d (.int way)), some (.d (.int sp)), some (.d (.str p)), some (.d (.str pg)), e7, e8] ∧ S = []) ?_ _ _ _ ⟨page, _, _, hl0, rfl, rfl⟩ ?_
        · rintro env S ⟨pg, e7, e8, hpg, rfl, rfl⟩
          obtain ⟨v, hv⟩ := page_ok hpg
          refine ⟨pg, v, rfl, hpg, hv, v, .inl ⟨pg, rfl, hpg, hv⟩, rfl, ?_⟩
          exact k _ _ _ _ _ _ _ _
        · rintro d2 rest2 env S ⟨pg, e7, e8, hpg, rfl, rfl⟩ k2
          refine ⟨hp, hpg, fun m hm => ⟨len_ok (by omega), ?_⟩⟩
          exact k2 _ _ ⟨_, _, _, cut_le m, rfl, rfl⟩
  · exact q.elim
theorem all_fns (B : Blt mg) (T_Folding : TC_Folding K A_Folding) (c_BETWEEN : Cst K mg "BETWEEN" d_BETWEEN) (c_CHARACTERS : Cst K mg "CHARACTERS" d_CHARACTERS) (c_LONGEST_TEXT : Cst K mg "LONGEST_TEXT" d_LONGEST_TEXT) (c_MOST_DROPPED : Cst K mg "MOST_DROPPED" d_MOST_DROPPED) (c_MOST_KEPT : Cst K mg "MOST_KEPT" d_MOST_KEPT) (c_MOST_STEPS : Cst K mg "MOST_STEPS" d_MOST_STEPS) (c_NUMBERS : Cst K mg "NUMBERS" d_NUMBERS) (c_PLAIN : Cst K mg "PLAIN" d_PLAIN) (X_NoPart : XC1 P w K mg base "NoPart" A_NoPart "part" 1) (X_NoStep : XC1 P w K mg base "NoStep" A_NoStep "index" 1) (m_NoPart : mg "NoPart" = some (.ref A_NoPart)) (exm_NoPart_NoPart : PySem.W.exmOne K (.ref A_NoPart) (.ref A_NoPart) = some true) (exm_NoStep_NoPart : PySem.W.exmOne K (.ref A_NoStep) (.ref A_NoPart) = some false) (m_NoStep : mg "NoStep" = some (.ref A_NoStep)) (exm_NoPart_NoStep : PySem.W.exmOne K (.ref A_NoPart) (.ref A_NoStep) = some false) (exm_NoStep_NoStep : PySem.W.exmOne K (.ref A_NoStep) (.ref A_NoStep) = some true) (XF_NoPart : XfC K A_NoPart) (nof_NoPart : PySem.W.findIn K (.ref A_NoPart) "part" = some none) (XF_NoStep : XfC K A_NoStep) (nof_NoStep : PySem.W.findIn K (.ref A_NoStep) "index" = some none) (m_PlainError : mg "PlainError" = some (.ref A_PlainError)) (exm_NoPart_PlainError : PySem.W.exmOne K (.ref A_NoPart) (.ref A_PlainError) = some true) (exm_NoStep_PlainError : PySem.W.exmOne K (.ref A_NoStep) (.ref A_PlainError) = some true) (E_NoPart : ExQ K A_NoPart) (kit_NoPart_NoStep : PySem.W.kitOne K (.ref A_NoPart) (.ref A_NoStep) = some false) (E_NoStep : ExQ K A_NoStep) (kit_NoStep_NoStep : PySem.W.kitOne K (.ref A_NoStep) (.ref A_NoStep) = some true) (kit_NoPart_NoPart : PySem.W.kitOne K (.ref A_NoPart) (.ref A_NoPart) = some true) (kit_NoStep_NoPart : PySem.W.kitOne K (.ref A_NoStep) (.ref A_NoPart) = some false) (kit_NoPart_ValueError : PySem.W.kitOne K (.ref A_NoPart) (.type "ValueError") = some true) (kit_NoStep_ValueError : PySem.W.kitOne K (.ref A_NoStep) (.type "ValueError") = some true) (is_Folding : IsC K A_Folding) (m_Folding : mg "Folding" = some (.ref A_Folding)) (D_is_whole : Df K mg "is_whole" st_is_whole ["thing"]) (D_is_written : Df K mg "is_written" st_is_written ["thing", "least", "most"]) (D_is_character : Df K mg "is_character" st_is_character ["thing"]) (D_is_text : Df K mg "is_text" st_is_text ["thing"]) (D_is_step : Df K mg "is_step" st_is_step ["thing"]) (D_read_step : DfA K mg "read_step_readers" "read_step" st_read_step ["step", "state", "character"]) (D_beginning : Df K mg "beginning" st_beginning ["steps"]) (D_read : Df K mg "read" st_read ["steps", "states", "character"]) (D_Folding___init__ : IDf K mg A_Folding "Folding" "Folding.__init__" st_Folding___init__ ["self", "steps"] true) (D_Folding_steps : MDf K A_Folding "steps" "Folding.steps" st_Folding_steps ["self"]) (D_Folding___len__ : MDf K A_Folding "__len__" "Folding.__len__" st_Folding___len__ ["self"]) (D_read_step_texts : DfA K mg "read_step_texts" "read_step" st_read_step_texts ["part"]) (D_read_folding : Df K mg "read_folding" st_read_folding ["text"]) (D__law_draw : Df K mg "_law_draw" st__law_draw ["well", "many"]) (D__law_well : Df K mg "_law_well" st__law_well ["script", "k"]) (D__law_chars : Df K mg "_law_chars" st__law_chars []) (D__law_pool : Df K mg "_law_pool" st__law_pool ["well"]) (D__law_character : Df K mg "_law_character" st__law_character ["well", "pool"]) (D__law_step : Df K mg "_law_step" st__law_step ["well", "pool"]) (D__law_steps : Df K mg "_law_steps" st__law_steps ["well", "pool"]) (D__law_part : Df K mg "_law_part" st__law_part ["step"]) (D__law_folding_text : Df K mg "_law_folding_text" st__law_folding_text ["steps"]) (D__law_same0 : Df K mg "_law_same" st__law_same0 ["actual", "expected"]) (D__law_same1 : Df K mg "_law_same" st__law_same1 ["actual", "expected"]) (D__law_same2 : Df K mg "_law_same" st__law_same2 ["actual", "expected"]) (D__law_guess : Df K mg "_law_guess" st__law_guess ["part"]) (D__law_is_step : Df K mg "_law_is_step" st__law_is_step ["step"]) (D__law_read : Df K mg "_law_read" st__law_read ["page"]) (D__law_tried : Df K mg "_law_tried" st__law_tried ["page"]) (D__law_classes : Df K mg "_law_classes" st__law_classes ["page"]) (D__law_whole : Df K mg "_law_whole" st__law_whole ["actual", "expected"]) (D__law_right : Df K mg "_law_right" st__law_right ["page", "due"]) (D__law_edit : Df K mg "_law_edit" st__law_edit ["well", "page"]) (D__law_near_part : Df K mg "_law_near_part" st__law_near_part ["well", "one"]) (D__law_spoilt : Df K mg "_law_spoilt" st__law_spoilt ["well", "pool", "page"]) {f0 : Addr} {fd0 : FuncData} (D_law : Fun K "law" "law" st_law f0 fd0) : FnOk P w K mg base (L2.CX P w) 9 f0 fd0 ["script"] (liftP K sp_law 73647) := by
  have G_is_whole : Fn P w K mg base "is_whole" ["thing"] 1 sp_is_whole 0 := ok_is_whole D_is_whole B
  have G_is_written : Fn P w K mg base "is_written" ["thing", "least", "most"] 1 sp_is_written 0 := ok_is_written D_is_written B c_CHARACTERS
  have G_is_character : Fn P w K mg base "is_character" ["thing"] 2 sp_is_character 0 := ok_is_character D_is_character B G_is_written
  have G_is_text : Fn P w K mg base "is_text" ["thing"] 2 sp_is_text 0 := ok_is_text D_is_text B c_LONGEST_TEXT G_is_written
  have G_is_step : Fn P w K mg base "is_step" ["thing"] 3 sp_is_step 0 := ok_is_step D_is_step B c_MOST_DROPPED c_MOST_KEPT G_is_character G_is_written G_is_whole
  have G_read_step : Fn P w K mg base "read_step_readers" ["step", "state", "character"] 1 sp_read_step 0 := ok_read_step D_read_step B
  have G_beginning : Fn P w K mg base "beginning" ["steps"] 1 sp_beginning 0 := ok_beginning D_beginning B
  have G_read : Fn P w K mg base "read" ["steps", "states", "character"] 2 sp_read 0 := ok_read D_read B G_read_step
  have G_Folding___init__ : IFn P w K mg base A_Folding "Folding" ["self", "steps"] true 4 (sp_Folding___init__ A_Folding A_NoStep) 0 := ok_Folding___init__ D_Folding___init__ B T_Folding c_MOST_STEPS X_NoStep G_is_step
  have G_Folding_steps : MFn P w K mg base A_Folding "steps" ["self"] 1 (sp_Folding_steps A_Folding) 0 := ok_Folding_steps D_Folding_steps B T_Folding
  have G_Folding___len__ : MFn P w K mg base A_Folding "__len__" ["self"] 1 (sp_Folding___len__ A_Folding) 0 := ok_Folding___len__ D_Folding___len__ B T_Folding
  have G_read_step_texts : Fn P w K mg base "read_step_texts" ["part"] 4 sp_read_step_texts 0 := ok_read_step_texts D_read_step_texts B c_NUMBERS G_is_step
  have G_read_folding : Fn P w K mg base "read_folding" ["text"] 6 (sp_read_folding A_Folding A_NoStep A_NoPart) 0 := ok_read_folding D_read_folding B c_BETWEEN c_PLAIN X_NoPart G_Folding___init__ G_read_step_texts
  have G__law_draw : Fn P w K mg base "_law_draw" ["well", "many"] 1 sp__law_draw 1 := ok__law_draw D__law_draw B
  have G__law_well : Fn P w K mg base "_law_well" ["script", "k"] 1 sp__law_well 0 := ok__law_well D__law_well B
  have G__law_chars : Fn P w K mg base "_law_chars" [] 1 sp__law_chars 0 := ok__law_chars D__law_chars B
  have G__law_pool : Fn P w K mg base "_law_pool" ["well"] 2 sp__law_pool 5 := ok__law_pool D__law_pool B G__law_draw G__law_chars
  have G__law_character : Fn P w K mg base "_law_character" ["well", "pool"] 2 sp__law_character 3 := ok__law_character D__law_character B G__law_draw G__law_chars
  have G__law_step : Fn P w K mg base "_law_step" ["well", "pool"] 3 sp__law_step 42 := ok__law_step D__law_step B G__law_draw G__law_character
  have G__law_steps : Fn P w K mg base "_law_steps" ["well", "pool"] 4 sp__law_steps 253 := ok__law_steps D__law_steps B G__law_draw G__law_step
  have G__law_part : Fn P w K mg base "_law_part" ["step"] 1 sp__law_part 0 := ok__law_part D__law_part B
  have G__law_folding_text : Fn P w K mg base "_law_folding_text" ["steps"] 2 sp__law_folding_text 0 := ok__law_folding_text D__law_folding_text B G__law_part
  have G__law_same0 : Fn P w K mg base "_law_same" ["actual", "expected"] 1 sp__law_same0 0 := ok__law_same0 D__law_same0 B
  have G__law_same1 : Fn P w K mg base "_law_same" ["actual", "expected"] 2 sp__law_same1 0 := ok__law_same1 D__law_same1 B G__law_same0
  have G__law_same2 : Fn P w K mg base "_law_same" ["actual", "expected"] 3 sp__law_same2 0 := ok__law_same2 D__law_same2 B G__law_same1
  have G__law_guess : Fn P w K mg base "_law_guess" ["part"] 1 sp__law_guess 0 := ok__law_guess D__law_guess B
  have G__law_is_step : Fn P w K mg base "_law_is_step" ["step"] 2 sp__law_is_step 0 := ok__law_is_step D__law_is_step B G__law_chars
  have G__law_read : Fn P w K mg base "_law_read" ["page"] 3 sp__law_read 0 := ok__law_read D__law_read B G__law_guess G__law_is_step G__law_part
  have G__law_tried : Fn P w K mg base "_law_tried" ["page"] 7 (sp__law_tried A_Folding) 0 := ok__law_tried D__law_tried B m_NoPart exm_NoPart_NoPart exm_NoStep_NoPart m_NoStep exm_NoPart_NoStep exm_NoStep_NoStep XF_NoPart nof_NoPart XF_NoStep nof_NoStep G_read_folding
  have G__law_classes : Fn P w K mg base "_law_classes" ["page"] 7 sp__law_classes 0 := ok__law_classes D__law_classes B m_PlainError exm_NoPart_PlainError exm_NoStep_PlainError E_NoPart kit_NoPart_NoStep E_NoStep kit_NoStep_NoStep m_NoStep kit_NoPart_NoPart kit_NoStep_NoPart m_NoPart kit_NoPart_ValueError kit_NoStep_ValueError G_read_folding
  have G__law_whole : Fn P w K mg base "_law_whole" ["actual", "expected"] 1 sp__law_whole 0 := ok__law_whole D__law_whole B
  have G__law_right : Fn P w K mg base "_law_right" ["page", "due"] 8 sp__law_right 0 := ok__law_right D__law_right B T_Folding is_Folding m_Folding G__law_tried G__law_same2 G_Folding_steps G__law_classes G__law_whole
  have G__law_edit : Fn P w K mg base "_law_edit" ["well", "page"] 2 sp__law_edit 4 := ok__law_edit D__law_edit B G__law_draw
  have G__law_near_part : Fn P w K mg base "_law_near_part" ["well", "one"] 2 sp__law_near_part 1 := ok__law_near_part D__law_near_part B G__law_draw
  have G__law_spoilt : Fn P w K mg base "_law_spoilt" ["well", "pool", "page"] 4 sp__law_spoilt 303 := ok__law_spoilt D__law_spoilt B G__law_draw G__law_edit G__law_near_part G__law_part G__law_step
  have G_law : FnOk P w K mg base (L2.CX P w) 9 f0 fd0 ["script"] (liftP K sp_law 73647) := ok_law D_law B G__law_well G__law_draw G__law_pool G__law_folding_text G__law_steps G__law_right G__law_spoilt G__law_read
  exact G_law
abbrev st_x_NoPart : Stmt := inClass (top 22) 0
theorem sc_x_NoPart : FnScope [("self" : Str), "part"] [("self" : Str), "part"] (defScope st_x_NoPart) := ⟨rfl, rfl, rfl, by decide +kernel, rfl, by decide +kernel, by decide +kernel⟩
abbrev st_x_NoStep : Stmt := inClass (top 21) 0
theorem sc_x_NoStep : FnScope [("self" : Str), "index"] [("self" : Str), "index"] (defScope st_x_NoStep) := ⟨rfl, rfl, rfl, by decide +kernel, rfl, by decide +kernel, by decide +kernel⟩
theorem all_mk {l : PySem.W.OpenLaw} {w : World} {K : PySem.W.Frag} {h : Heap} {mg : Str → Option Value} {fa : Addr} (X : K.In h) (G : h.Ns mainGlobals mg) (hfa : mg "law" = some (.ref fa)) {A_Folding : Addr} {A_NoPart : Addr} {A_NoStep : Addr} {A_PlainError : Addr}
    {f_x_NoPart : Addr} {od_x_NoPart an_x_NoPart : Option Addr} {sl_x_NoPart : Array (Option Value)} {oc_x_NoPart kV_x_NoPart dc_x_NoPart pm_x_NoPart cd_x_NoPart ct_x_NoPart : Value} {xn_NoPart xq_NoPart : Str} {xN_NoPart : Addr} {xbs_NoPart xsb_NoPart : List Value} {xsn_NoPart : List Str} {xdd_NoPart : Option Addr} {xk0_NoPart xk1_NoPart xk2_NoPart xk3_NoPart xk5_NoPart : Option Value} {xab_NoPart : Bool} {xcol_NoPart : Option Bool} {f_x_NoStep : Addr} {od_x_NoStep an_x_NoStep : Option Addr} {sl_x_NoStep : Array (Option Value)} {oc_x_NoStep kV_x_NoStep dc_x_NoStep pm_x_NoStep cd_x_NoStep ct_x_NoStep : Value} {xn_NoStep xq_NoStep : Str} {xN_NoStep : Addr} {xbs_NoStep xsb_NoStep : List Value} {xsn_NoStep : List Str} {xdd_NoStep : Option Addr} {xk0_NoStep xk1_NoStep xk2_NoStep xk3_NoStep xk5_NoStep : Option Value} {xab_NoStep : Bool} {xcol_NoStep : Option Bool} {t_BETWEEN : Tok} {t_CHARACTERS : Tok} {t_LONGEST_TEXT : Tok} {t_MOST_DROPPED : Tok} {t_MOST_KEPT : Tok} {t_MOST_STEPS : Tok} {t_NUMBERS : Addr} {dd_NUMBERS : Option Addr} {n_NUMBERS : Nat} {sl_NUMBERS : Array (Option Value)} {tk0_NUMBERS tk1_NUMBERS tk2_NUMBERS tk3_NUMBERS tk4_NUMBERS tk5_NUMBERS tk6_NUMBERS tk7_NUMBERS tk8_NUMBERS : Tok} {t_PLAIN : Tok} {f_is_whole : Addr} {od_is_whole an_is_whole : Option Addr} {sl_is_whole : Array (Option Value)} {oc_is_whole kV_is_whole dc_is_whole pm_is_whole cd_is_whole ct_is_whole : Value} {f_is_written : Addr} {od_is_written an_is_written : Option Addr} {sl_is_written : Array (Option Value)} {oc_is_written kV_is_written dc_is_written pm_is_written cd_is_written ct_is_written : Value} {f_is_character : Addr} {od_is_character an_is_character : Option Addr} {sl_is_character : Array (Option Value)} {oc_is_character kV_is_character dc_is_character pm_is_character cd_is_character ct_is_character : Value} {f_is_text : Addr} {od_is_text an_is_text : Option Addr} {sl_is_text : Array (Option Value)} {oc_is_text kV_is_text dc_is_text pm_is_text cd_is_text ct_is_text : Value} {f_is_step : Addr} {od_is_step an_is_step : Option Addr} {sl_is_step : Array (Option Value)} {oc_is_step kV_is_step dc_is_step pm_is_step cd_is_step ct_is_step : Value} {f_read_step : Addr} {od_read_step an_read_step : Option Addr} {sl_read_step : Array (Option Value)} {oc_read_step kV_read_step dc_read_step pm_read_step cd_read_step ct_read_step : Value} {f_beginning : Addr} {od_beginning an_beginning : Option Addr} {sl_beginning : Array (Option Value)} {oc_beginning kV_beginning dc_beginning pm_beginning cd_beginning ct_beginning : Value} {f_read : Addr} {od_read an_read : Option Addr} {sl_read : Array (Option Value)} {oc_read kV_read dc_read pm_read cd_read ct_read : Value} {f_Folding___init__ : Addr} {od_Folding___init__ an_Folding___init__ : Option Addr} {sl_Folding___init__ : Array (Option Value)} {oc_Folding___init__ kV_Folding___init__ dc_Folding___init__ pm_Folding___init__ cd_Folding___init__ ct_Folding___init__ : Value} {dT_Folding___init__ : Addr} {toc_Folding___init__ : Value} {tod_Folding___init__ : Option Addr} {its_Folding___init__ : Addr} {tn_Folding___init__ : Nat} {tsl_Folding___init__ : Array (Option Value)} {eod_Folding___init__ : Option Addr} {en_Folding___init__ : Nat} {esl_Folding___init__ : Array (Option Value)} {f_Folding_steps : Addr} {od_Folding_steps an_Folding_steps : Option Addr} {sl_Folding_steps : Array (Option Value)} {oc_Folding_steps kV_Folding_steps dc_Folding_steps pm_Folding_steps cd_Folding_steps ct_Folding_steps : Value} {f_Folding___len__ : Addr} {od_Folding___len__ an_Folding___len__ : Option Addr} {sl_Folding___len__ : Array (Option Value)} {oc_Folding___len__ kV_Folding___len__ dc_Folding___len__ pm_Folding___len__ cd_Folding___len__ ct_Folding___len__ : Value} {f_read_step_texts : Addr} {od_read_step_texts an_read_step_texts : Option Addr} {sl_read_step_texts : Array (Option Value)} {oc_read_step_texts kV_read_step_texts dc_read_step_texts pm_read_step_texts cd_read_step_texts ct_read_step_texts : Value} {f_read_folding : Addr} {od_read_folding an_read_folding : Option Addr} {sl_read_folding : Array (Option Value)} {oc_read_folding kV_read_folding dc_read_folding pm_read_folding cd_read_folding ct_read_folding : Value} {f__law_draw : Addr} {od__law_draw an__law_draw : Option Addr} {sl__law_draw : Array (Option Value)} {oc__law_draw kV__law_draw dc__law_draw pm__law_draw cd__law_draw ct__law_draw : Value} {f__law_well : Addr} {od__law_well an__law_well : Option Addr} {sl__law_well : Array (Option Value)} {oc__law_well kV__law_well dc__law_well pm__law_well cd__law_well ct__law_well : Value} {f__law_chars : Addr} {od__law_chars an__law_chars : Option Addr} {sl__law_chars : Array (Option Value)} {oc__law_chars kV__law_chars dc__law_chars pm__law_chars cd__law_chars ct__law_chars : Value} {f__law_pool : Addr} {od__law_pool an__law_pool : Option Addr} {sl__law_pool : Array (Option Value)} {oc__law_pool kV__law_pool dc__law_pool pm__law_pool cd__law_pool ct__law_pool : Value} {f__law_character : Addr} {od__law_character an__law_character : Option Addr} {sl__law_character : Array (Option Value)} {oc__law_character kV__law_character dc__law_character pm__law_character cd__law_character ct__law_character : Value} {f__law_step : Addr} {od__law_step an__law_step : Option Addr} {sl__law_step : Array (Option Value)} {oc__law_step kV__law_step dc__law_step pm__law_step cd__law_step ct__law_step : Value} {f__law_steps : Addr} {od__law_steps an__law_steps : Option Addr} {sl__law_steps : Array (Option Value)} {oc__law_steps kV__law_steps dc__law_steps pm__law_steps cd__law_steps ct__law_steps : Value} {f__law_part : Addr} {od__law_part an__law_part : Option Addr} {sl__law_part : Array (Option Value)} {oc__law_part kV__law_part dc__law_part pm__law_part cd__law_part ct__law_part : Value} {f__law_folding_text : Addr} {od__law_folding_text an__law_folding_text : Option Addr} {sl__law_folding_text : Array (Option Value)} {oc__law_folding_text kV__law_folding_text dc__law_folding_text pm__law_folding_text cd__law_folding_text ct__law_folding_text : Value} {f__law_same0 : Addr} {od__law_same0 an__law_same0 : Option Addr} {sl__law_same0 : Array (Option Value)} {oc__law_same0 kV__law_same0 dc__law_same0 pm__law_same0 cd__law_same0 ct__law_same0 : Value} {f__law_same1 : Addr} {od__law_same1 an__law_same1 : Option Addr} {sl__law_same1 : Array (Option Value)} {oc__law_same1 kV__law_same1 dc__law_same1 pm__law_same1 cd__law_same1 ct__law_same1 : Value} {f__law_same2 : Addr} {od__law_same2 an__law_same2 : Option Addr} {sl__law_same2 : Array (Option Value)} {oc__law_same2 kV__law_same2 dc__law_same2 pm__law_same2 cd__law_same2 ct__law_same2 : Value} {f__law_guess : Addr} {od__law_guess an__law_guess : Option Addr} {sl__law_guess : Array (Option Value)} {oc__law_guess kV__law_guess dc__law_guess pm__law_guess cd__law_guess ct__law_guess : Value} {f__law_is_step : Addr} {od__law_is_step an__law_is_step : Option Addr} {sl__law_is_step : Array (Option Value)} {oc__law_is_step kV__law_is_step dc__law_is_step pm__law_is_step cd__law_is_step ct__law_is_step : Value} {f__law_read : Addr} {od__law_read an__law_read : Option Addr} {sl__law_read : Array (Option Value)} {oc__law_read kV__law_read dc__law_read pm__law_read cd__law_read ct__law_read : Value} {f__law_tried : Addr} {od__law_tried an__law_tried : Option Addr} {sl__law_tried : Array (Option Value)} {oc__law_tried kV__law_tried dc__law_tried pm__law_tried cd__law_tried ct__law_tried : Value} {f__law_classes : Addr} {od__law_classes an__law_classes : Option Addr} {sl__law_classes : Array (Option Value)} {oc__law_classes kV__law_classes dc__law_classes pm__law_classes cd__law_classes ct__law_classes : Value} {f__law_whole : Addr} {od__law_whole an__law_whole : Option Addr} {sl__law_whole : Array (Option Value)} {oc__law_whole kV__law_whole dc__law_whole pm__law_whole cd__law_whole ct__law_whole : Value} {f__law_right : Addr} {od__law_right an__law_right : Option Addr} {sl__law_right : Array (Option Value)} {oc__law_right kV__law_right dc__law_right pm__law_right cd__law_right ct__law_right : Value} {f__law_edit : Addr} {od__law_edit an__law_edit : Option Addr} {sl__law_edit : Array (Option Value)} {oc__law_edit kV__law_edit dc__law_edit pm__law_edit cd__law_edit ct__law_edit : Value} {f__law_near_part : Addr} {od__law_near_part an__law_near_part : Option Addr} {sl__law_near_part : Array (Option Value)} {oc__law_near_part kV__law_near_part dc__law_near_part pm__law_near_part cd__law_near_part ct__law_near_part : Value} {f__law_spoilt : Addr} {od__law_spoilt an__law_spoilt : Option Addr} {sl__law_spoilt : Array (Option Value)} {oc__law_spoilt kV__law_spoilt dc__law_spoilt pm__law_spoilt cd__law_spoilt ct__law_spoilt : Value} {f_law : Addr} {od_law an_law : Option Addr} {sl_law : Array (Option Value)} {oc_law kV_law dc_law pm_law cd_law ct_law : Value}
    (aC_Folding : PySem.W.nsIn K mainGlobals "Folding" = some (some (.ref A_Folding)))
    (pg_Folding : PySem.W.plainGet K A_Folding Str.empty = true)
    (hd_Folding : PySem.W.hasDictIn K A_Folding = true)
    (po_Folding : PySem.W.plainOver K A_Folding = true)
    (sa_Folding : PySem.W.findIn K (.ref A_Folding) "__setattr__" = some (some (.builtin "object.__setattr__")))
    (mk_Folding : PySem.W.makesIn K A_Folding = true)
    (kc_Folding : PySem.W.keepIn K (.ref A_Folding) = true)
    (no_Folding_row : PySem.W.findIn K (.ref A_Folding) "row" = some none)
    (sf_Folding : PySem.W.selfFirst K A_Folding = true)
    (aC_NoPart : PySem.W.nsIn K mainGlobals "NoPart" = some (some (.ref A_NoPart)))
    (bx_NoPart : PySem.W.subIn K (.ref A_NoPart) (.type "BaseException") = some true)
    (ty_NoPart : PySem.W.typeIn K (.ref A_NoPart) = some (.type "type"))
    (hd_NoPart : PySem.W.hasDictIn K A_NoPart = true)
    (aC_NoStep : PySem.W.nsIn K mainGlobals "NoStep" = some (some (.ref A_NoStep)))
    (bx_NoStep : PySem.W.subIn K (.ref A_NoStep) (.type "BaseException") = some true)
    (ty_NoStep : PySem.W.typeIn K (.ref A_NoStep) = some (.type "type"))
    (hd_NoStep : PySem.W.hasDictIn K A_NoStep = true)
    (aC_PlainError : PySem.W.nsIn K mainGlobals "PlainError" = some (some (.ref A_PlainError)))
    (bx_PlainError : PySem.W.subIn K (.ref A_PlainError) (.type "BaseException") = some true)
    (ty_PlainError : PySem.W.typeIn K (.ref A_PlainError) = some (.type "type"))
    (hd_PlainError : PySem.W.hasDictIn K A_PlainError = true)
    (kc_NoPart : PySem.W.keepIn K (.ref A_NoPart) = true)
    (xl_NoPart : K.lookup A_NoPart = some (excClassObj xn_NoPart xq_NoPart A_NoPart xN_NoPart xbs_NoPart [.ref A_PlainError, .type "ValueError", .type "Exception", .type "BaseException", .type "object"] true xsn_NoPart xsb_NoPart xab_NoPart xcol_NoPart xdd_NoPart xk0_NoPart xk1_NoPart xk2_NoPart xk3_NoPart xk5_NoPart "ValueError.__new__"))
    (sa_NoPart : PySem.W.findIn K (.ref A_NoPart) "__setattr__" = some (some (.builtin "object.__setattr__")))
    (xi_NoPart : PySem.W.findIn K (.ref A_NoPart) "__init__" = some (some (.ref f_x_NoPart)))
    (xt_NoPart : PySem.W.typeIn K (.ref f_x_NoPart) = some (.type "function"))
    (xf_NoPart : PySem.W.findIn K (.ref A_NoPart) "part" = some none)
    (l_x_NoPart : K.lookup f_x_NoPart = some ⟨oc_x_NoPart, od_x_NoPart, .func (PySem.W.fnOf "__init__" "NoPart.__init__" (defArgs st_x_NoPart) (defBody st_x_NoPart) (defScope st_x_NoPart) .none kV_x_NoPart dc_x_NoPart pm_x_NoPart an_x_NoPart cd_x_NoPart ct_x_NoPart), sl_x_NoPart⟩)
    (c_x_NoPart : PySem.W.codeIn K cd_x_NoPart "NoPart.__init__" = true)
    (k_x_NoPart : PySem.W.keepIn K (.ref f_x_NoPart) = true)
    (kc_NoStep : PySem.W.keepIn K (.ref A_NoStep) = true)
    (xl_NoStep : K.lookup A_NoStep = some (excClassObj xn_NoStep xq_NoStep A_NoStep xN_NoStep xbs_NoStep [.ref A_PlainError, .type "ValueError", .type "Exception", .type "BaseException", .type "object"] true xsn_NoStep xsb_NoStep xab_NoStep xcol_NoStep xdd_NoStep xk0_NoStep xk1_NoStep xk2_NoStep xk3_NoStep xk5_NoStep "ValueError.__new__"))
    (sa_NoStep : PySem.W.findIn K (.ref A_NoStep) "__setattr__" = some (some (.builtin "object.__setattr__")))
    (xi_NoStep : PySem.W.findIn K (.ref A_NoStep) "__init__" = some (some (.ref f_x_NoStep)))
    (xt_NoStep : PySem.W.typeIn K (.ref f_x_NoStep) = some (.type "function"))
    (xf_NoStep : PySem.W.findIn K (.ref A_NoStep) "index" = some none)
    (l_x_NoStep : K.lookup f_x_NoStep = some ⟨oc_x_NoStep, od_x_NoStep, .func (PySem.W.fnOf "__init__" "NoStep.__init__" (defArgs st_x_NoStep) (defBody st_x_NoStep) (defScope st_x_NoStep) .none kV_x_NoStep dc_x_NoStep pm_x_NoStep an_x_NoStep cd_x_NoStep ct_x_NoStep), sl_x_NoStep⟩)
    (c_x_NoStep : PySem.W.codeIn K cd_x_NoStep "NoStep.__init__" = true)
    (k_x_NoStep : PySem.W.keepIn K (.ref f_x_NoStep) = true)
    (gsp : PySem.W.specialIn K (.builtin "object.__class__") "__get__" = some (some (.builtin "getset_descriptor.__get__")))
    (gtk : PySem.W.takesIn K (.builtin "object.__class__") = some true)
    (sub_NoPart_NoPart : PySem.W.subIn K (.ref A_NoPart) (.ref A_NoPart) = some true)
    (sub_NoStep_NoPart : PySem.W.subIn K (.ref A_NoStep) (.ref A_NoPart) = some false)
    (sub_NoPart_NoStep : PySem.W.subIn K (.ref A_NoPart) (.ref A_NoStep) = some false)
    (sub_NoStep_NoStep : PySem.W.subIn K (.ref A_NoStep) (.ref A_NoStep) = some true)
    (x2_NoPart : PySem.W.findIn K (.ref A_NoPart) "__getattribute__" = some (some (.builtin "BaseException.__getattribute__")))
    (x3_NoPart : PySem.W.findIn K (.ref A_NoPart) "__getattr__" = some none)
    (nof_NoPart : PySem.W.findIn K (.ref A_NoPart) "part" = some none)
    (x2_NoStep : PySem.W.findIn K (.ref A_NoStep) "__getattribute__" = some (some (.builtin "BaseException.__getattribute__")))
    (x3_NoStep : PySem.W.findIn K (.ref A_NoStep) "__getattr__" = some none)
    (nof_NoStep : PySem.W.findIn K (.ref A_NoStep) "index" = some none)
    (sub_NoPart_PlainError : PySem.W.subIn K (.ref A_NoPart) (.ref A_PlainError) = some true)
    (sub_NoStep_PlainError : PySem.W.subIn K (.ref A_NoStep) (.ref A_PlainError) = some true)
    (e1_NoPart : PySem.W.isClsIn K A_NoPart = true)
    (e2_NoPart : PySem.W.findIn K (.ref A_NoPart) "__getattribute__" = some (some (.builtin "BaseException.__getattribute__")))
    (e3_NoPart : PySem.W.findIn K (.ref A_NoPart) "__getattr__" = some none)
    (e4_NoPart : PySem.W.findIn K (.ref A_NoPart) "__class__" = some (some (.builtin "object.__class__")))
    (e5_NoPart : PySem.W.mroIn K A_NoPart (.type "object") = some true)
    (ic_NoStep : PySem.W.isClsIn K A_NoStep = true)
    (e1_NoStep : PySem.W.isClsIn K A_NoStep = true)
    (e2_NoStep : PySem.W.findIn K (.ref A_NoStep) "__getattribute__" = some (some (.builtin "BaseException.__getattribute__")))
    (e3_NoStep : PySem.W.findIn K (.ref A_NoStep) "__getattr__" = some none)
    (e4_NoStep : PySem.W.findIn K (.ref A_NoStep) "__class__" = some (some (.builtin "object.__class__")))
    (e5_NoStep : PySem.W.mroIn K A_NoStep (.type "object") = some true)
    (ic_NoPart : PySem.W.isClsIn K A_NoPart = true)
    (sub_NoPart_ValueError : PySem.W.subIn K (.ref A_NoPart) (.type "ValueError") = some true)
    (sub_NoStep_ValueError : PySem.W.subIn K (.ref A_NoStep) (.type "ValueError") = some true)
    (ih_Folding : PySem.W.findIn K (.ref A_Folding) "__class__" = some (some (.builtin "object.__class__")))
    (mo_Folding : PySem.W.mroIn K A_Folding (.type "object") = some true)
    (ic_Folding : PySem.W.isClsIn K A_Folding = true)
    (ty_Folding : PySem.W.typeIn K (.ref A_Folding) = some (.type "type"))
    (v_BETWEEN : PySem.W.nsIn K mainGlobals "BETWEEN" = some (some (.str (Str.ofString "; ") t_BETWEEN)))
    (v_CHARACTERS : PySem.W.nsIn K mainGlobals "CHARACTERS" = some (some (.str (Str.ofString "abcdefghijklmnopqrstuvwxyzABCDEFGHIJKLMNOPQRSTUVWXYZ0123456789 -._/'") t_CHARACTERS)))
    (v_LONGEST_TEXT : PySem.W.nsIn K mainGlobals "LONGEST_TEXT" = some (some (.int 60 t_LONGEST_TEXT)))
    (v_MOST_DROPPED : PySem.W.nsIn K mainGlobals "MOST_DROPPED" = some (some (.int 10 t_MOST_DROPPED)))
    (v_MOST_KEPT : PySem.W.nsIn K mainGlobals "MOST_KEPT" = some (some (.int 9 t_MOST_KEPT)))
    (v_MOST_STEPS : PySem.W.nsIn K mainGlobals "MOST_STEPS" = some (some (.int 6 t_MOST_STEPS)))
    (v_NUMBERS : PySem.W.nsIn K mainGlobals "NUMBERS" = some (some (.ref t_NUMBERS)))
    (lk_NUMBERS : K.lookup t_NUMBERS = some ⟨.type "tuple", dd_NUMBERS, .seq #[.str (Str.ofString "1") tk0_NUMBERS, .str (Str.ofString "2") tk1_NUMBERS, .str (Str.ofString "3") tk2_NUMBERS, .str (Str.ofString "4") tk3_NUMBERS, .str (Str.ofString "5") tk4_NUMBERS, .str (Str.ofString "6") tk5_NUMBERS, .str (Str.ofString "7") tk6_NUMBERS, .str (Str.ofString "8") tk7_NUMBERS, .str (Str.ofString "9") tk8_NUMBERS] n_NUMBERS, sl_NUMBERS⟩)
    (v_PLAIN : PySem.W.nsIn K mainGlobals "PLAIN" = some (some (.str (Str.ofString "plain") t_PLAIN)))
    (a_is_whole : PySem.W.nsIn K mainGlobals "is_whole" = some (some (.ref f_is_whole)))
    (l_is_whole : K.lookup f_is_whole = some ⟨oc_is_whole, od_is_whole, .func (PySem.W.fnOf "is_whole" "is_whole" (defArgs st_is_whole) (defBody st_is_whole) (defScope st_is_whole) .none kV_is_whole dc_is_whole pm_is_whole an_is_whole cd_is_whole ct_is_whole), sl_is_whole⟩)
    (c_is_whole : PySem.W.codeIn K cd_is_whole "is_whole" = true)
    (k_is_whole : PySem.W.keepIn K (.ref f_is_whole) = true)
    (a_is_written : PySem.W.nsIn K mainGlobals "is_written" = some (some (.ref f_is_written)))
    (l_is_written : K.lookup f_is_written = some ⟨oc_is_written, od_is_written, .func (PySem.W.fnOf "is_written" "is_written" (defArgs st_is_written) (defBody st_is_written) (defScope st_is_written) .none kV_is_written dc_is_written pm_is_written an_is_written cd_is_written ct_is_written), sl_is_written⟩)
    (c_is_written : PySem.W.codeIn K cd_is_written "is_written" = true)
    (k_is_written : PySem.W.keepIn K (.ref f_is_written) = true)
    (a_is_character : PySem.W.nsIn K mainGlobals "is_character" = some (some (.ref f_is_character)))
    (l_is_character : K.lookup f_is_character = some ⟨oc_is_character, od_is_character, .func (PySem.W.fnOf "is_character" "is_character" (defArgs st_is_character) (defBody st_is_character) (defScope st_is_character) .none kV_is_character dc_is_character pm_is_character an_is_character cd_is_character ct_is_character), sl_is_character⟩)
    (c_is_character : PySem.W.codeIn K cd_is_character "is_character" = true)
    (k_is_character : PySem.W.keepIn K (.ref f_is_character) = true)
    (a_is_text : PySem.W.nsIn K mainGlobals "is_text" = some (some (.ref f_is_text)))
    (l_is_text : K.lookup f_is_text = some ⟨oc_is_text, od_is_text, .func (PySem.W.fnOf "is_text" "is_text" (defArgs st_is_text) (defBody st_is_text) (defScope st_is_text) .none kV_is_text dc_is_text pm_is_text an_is_text cd_is_text ct_is_text), sl_is_text⟩)
    (c_is_text : PySem.W.codeIn K cd_is_text "is_text" = true)
    (k_is_text : PySem.W.keepIn K (.ref f_is_text) = true)
    (a_is_step : PySem.W.nsIn K mainGlobals "is_step" = some (some (.ref f_is_step)))
    (l_is_step : K.lookup f_is_step = some ⟨oc_is_step, od_is_step, .func (PySem.W.fnOf "is_step" "is_step" (defArgs st_is_step) (defBody st_is_step) (defScope st_is_step) .none kV_is_step dc_is_step pm_is_step an_is_step cd_is_step ct_is_step), sl_is_step⟩)
    (c_is_step : PySem.W.codeIn K cd_is_step "is_step" = true)
    (k_is_step : PySem.W.keepIn K (.ref f_is_step) = true)
    (a_read_step : PySem.W.nsIn K mainGlobals "read_step_readers" = some (some (.ref f_read_step)))
    (l_read_step : K.lookup f_read_step = some ⟨oc_read_step, od_read_step, .func (PySem.W.fnOf "read_step" "read_step" (defArgs st_read_step) (defBody st_read_step) (defScope st_read_step) .none kV_read_step dc_read_step pm_read_step an_read_step cd_read_step ct_read_step), sl_read_step⟩)
    (c_read_step : PySem.W.codeIn K cd_read_step "read_step" = true)
    (k_read_step : PySem.W.keepIn K (.ref f_read_step) = true)
    (a_beginning : PySem.W.nsIn K mainGlobals "beginning" = some (some (.ref f_beginning)))
    (l_beginning : K.lookup f_beginning = some ⟨oc_beginning, od_beginning, .func (PySem.W.fnOf "beginning" "beginning" (defArgs st_beginning) (defBody st_beginning) (defScope st_beginning) .none kV_beginning dc_beginning pm_beginning an_beginning cd_beginning ct_beginning), sl_beginning⟩)
    (c_beginning : PySem.W.codeIn K cd_beginning "beginning" = true)
    (k_beginning : PySem.W.keepIn K (.ref f_beginning) = true)
    (a_read : PySem.W.nsIn K mainGlobals "read" = some (some (.ref f_read)))
    (l_read : K.lookup f_read = some ⟨oc_read, od_read, .func (PySem.W.fnOf "read" "read" (defArgs st_read) (defBody st_read) (defScope st_read) .none kV_read dc_read pm_read an_read cd_read ct_read), sl_read⟩)
    (c_read : PySem.W.codeIn K cd_read "read" = true)
    (k_read : PySem.W.keepIn K (.ref f_read) = true)
    (a_Folding___init__ : PySem.W.findIn K (.ref A_Folding) "__init__" = some (some (.ref f_Folding___init__)))
    (i_Folding___init__ : PySem.W.isFn K (.ref f_Folding___init__) = true)
    (l_Folding___init__ : K.lookup f_Folding___init__ = some ⟨oc_Folding___init__, od_Folding___init__, .func (PySem.W.fnOf "__init__" "Folding.__init__" (defArgs st_Folding___init__) (defBody st_Folding___init__) (defScope st_Folding___init__) (.ref dT_Folding___init__) kV_Folding___init__ dc_Folding___init__ pm_Folding___init__ an_Folding___init__ cd_Folding___init__ ct_Folding___init__), sl_Folding___init__⟩)
    (c_Folding___init__ : PySem.W.codeIn K cd_Folding___init__ "Folding.__init__" = true)
    (k_Folding___init__ : PySem.W.keepIn K (.ref f_Folding___init__) = true)
    (d_Folding___init__ : K.lookup dT_Folding___init__ = some ⟨toc_Folding___init__, tod_Folding___init__, .seq #[.ref its_Folding___init__] tn_Folding___init__, tsl_Folding___init__⟩)
    (e_Folding___init__ : K.lookup its_Folding___init__ = some ⟨.type "tuple", eod_Folding___init__, .seq #[] en_Folding___init__, esl_Folding___init__⟩)
    (a_Folding_steps : PySem.W.findIn K (.ref A_Folding) "steps" = some (some (.ref f_Folding_steps)))
    (i_Folding_steps : PySem.W.isFn K (.ref f_Folding_steps) = true)
    (n_Folding_steps : PySem.W.fnIn K f_Folding_steps = true)
    (l_Folding_steps : K.lookup f_Folding_steps = some ⟨oc_Folding_steps, od_Folding_steps, .func (PySem.W.fnOf "steps" "Folding.steps" (defArgs st_Folding_steps) (defBody st_Folding_steps) (defScope st_Folding_steps) .none kV_Folding_steps dc_Folding_steps pm_Folding_steps an_Folding_steps cd_Folding_steps ct_Folding_steps), sl_Folding_steps⟩)
    (c_Folding_steps : PySem.W.codeIn K cd_Folding_steps "Folding.steps" = true)
    (k_Folding_steps : PySem.W.keepIn K (.ref f_Folding_steps) = true)
    (a_Folding___len__ : PySem.W.findIn K (.ref A_Folding) "__len__" = some (some (.ref f_Folding___len__)))
    (i_Folding___len__ : PySem.W.isFn K (.ref f_Folding___len__) = true)
    (n_Folding___len__ : PySem.W.fnIn K f_Folding___len__ = true)
    (l_Folding___len__ : K.lookup f_Folding___len__ = some ⟨oc_Folding___len__, od_Folding___len__, .func (PySem.W.fnOf "__len__" "Folding.__len__" (defArgs st_Folding___len__) (defBody st_Folding___len__) (defScope st_Folding___len__) .none kV_Folding___len__ dc_Folding___len__ pm_Folding___len__ an_Folding___len__ cd_Folding___len__ ct_Folding___len__), sl_Folding___len__⟩)
    (c_Folding___len__ : PySem.W.codeIn K cd_Folding___len__ "Folding.__len__" = true)
    (k_Folding___len__ : PySem.W.keepIn K (.ref f_Folding___len__) = true)
    (a_read_step_texts : PySem.W.nsIn K mainGlobals "read_step_texts" = some (some (.ref f_read_step_texts)))
    (l_read_step_texts : K.lookup f_read_step_texts = some ⟨oc_read_step_texts, od_read_step_texts, .func (PySem.W.fnOf "read_step" "read_step" (defArgs st_read_step_texts) (defBody st_read_step_texts) (defScope st_read_step_texts) .none kV_read_step_texts dc_read_step_texts pm_read_step_texts an_read_step_texts cd_read_step_texts ct_read_step_texts), sl_read_step_texts⟩)
    (c_read_step_texts : PySem.W.codeIn K cd_read_step_texts "read_step" = true)
    (k_read_step_texts : PySem.W.keepIn K (.ref f_read_step_texts) = true)
    (a_read_folding : PySem.W.nsIn K mainGlobals "read_folding" = some (some (.ref f_read_folding)))
    (l_read_folding : K.lookup f_read_folding = some ⟨oc_read_folding, od_read_folding, .func (PySem.W.fnOf "read_folding" "read_folding" (defArgs st_read_folding) (defBody st_read_folding) (defScope st_read_folding) .none kV_read_folding dc_read_folding pm_read_folding an_read_folding cd_read_folding ct_read_folding), sl_read_folding⟩)
    (c_read_folding : PySem.W.codeIn K cd_read_folding "read_folding" = true)
    (k_read_folding : PySem.W.keepIn K (.ref f_read_folding) = true)
    (a__law_draw : PySem.W.nsIn K mainGlobals "_law_draw" = some (some (.ref f__law_draw)))
    (l__law_draw : K.lookup f__law_draw = some ⟨oc__law_draw, od__law_draw, .func (PySem.W.fnOf "_law_draw" "_law_draw" (defArgs st__law_draw) (defBody st__law_draw) (defScope st__law_draw) .none kV__law_draw dc__law_draw pm__law_draw an__law_draw cd__law_draw ct__law_draw), sl__law_draw⟩)
    (c__law_draw : PySem.W.codeIn K cd__law_draw "_law_draw" = true)
    (k__law_draw : PySem.W.keepIn K (.ref f__law_draw) = true)
    (a__law_well : PySem.W.nsIn K mainGlobals "_law_well" = some (some (.ref f__law_well)))
    (l__law_well : K.lookup f__law_well = some ⟨oc__law_well, od__law_well, .func (PySem.W.fnOf "_law_well" "_law_well" (defArgs st__law_well) (defBody st__law_well) (defScope st__law_well) .none kV__law_well dc__law_well pm__law_well an__law_well cd__law_well ct__law_well), sl__law_well⟩)
    (c__law_well : PySem.W.codeIn K cd__law_well "_law_well" = true)
    (k__law_well : PySem.W.keepIn K (.ref f__law_well) = true)
    (a__law_chars : PySem.W.nsIn K mainGlobals "_law_chars" = some (some (.ref f__law_chars)))
    (l__law_chars : K.lookup f__law_chars = some ⟨oc__law_chars, od__law_chars, .func (PySem.W.fnOf "_law_chars" "_law_chars" (defArgs st__law_chars) (defBody st__law_chars) (defScope st__law_chars) .none kV__law_chars dc__law_chars pm__law_chars an__law_chars cd__law_chars ct__law_chars), sl__law_chars⟩)
    (c__law_chars : PySem.W.codeIn K cd__law_chars "_law_chars" = true)
    (k__law_chars : PySem.W.keepIn K (.ref f__law_chars) = true)
    (a__law_pool : PySem.W.nsIn K mainGlobals "_law_pool" = some (some (.ref f__law_pool)))
    (l__law_pool : K.lookup f__law_pool = some ⟨oc__law_pool, od__law_pool, .func (PySem.W.fnOf "_law_pool" "_law_pool" (defArgs st__law_pool) (defBody st__law_pool) (defScope st__law_pool) .none kV__law_pool dc__law_pool pm__law_pool an__law_pool cd__law_pool ct__law_pool), sl__law_pool⟩)
    (c__law_pool : PySem.W.codeIn K cd__law_pool "_law_pool" = true)
    (k__law_pool : PySem.W.keepIn K (.ref f__law_pool) = true)
    (a__law_character : PySem.W.nsIn K mainGlobals "_law_character" = some (some (.ref f__law_character)))
    (l__law_character : K.lookup f__law_character = some ⟨oc__law_character, od__law_character, .func (PySem.W.fnOf "_law_character" "_law_character" (defArgs st__law_character) (defBody st__law_character) (defScope st__law_character) .none kV__law_character dc__law_character pm__law_character an__law_character cd__law_character ct__law_character), sl__law_character⟩)
    (c__law_character : PySem.W.codeIn K cd__law_character "_law_character" = true)
    (k__law_character : PySem.W.keepIn K (.ref f__law_character) = true)
    (a__law_step : PySem.W.nsIn K mainGlobals "_law_step" = some (some (.ref f__law_step)))
    (l__law_step : K.lookup f__law_step = some ⟨oc__law_step, od__law_step, .func (PySem.W.fnOf "_law_step" "_law_step" (defArgs st__law_step) (defBody st__law_step) (defScope st__law_step) .none kV__law_step dc__law_step pm__law_step an__law_step cd__law_step ct__law_step), sl__law_step⟩)
    (c__law_step : PySem.W.codeIn K cd__law_step "_law_step" = true)
    (k__law_step : PySem.W.keepIn K (.ref f__law_step) = true)
    (a__law_steps : PySem.W.nsIn K mainGlobals "_law_steps" = some (some (.ref f__law_steps)))
    (l__law_steps : K.lookup f__law_steps = some ⟨oc__law_steps, od__law_steps, .func (PySem.W.fnOf "_law_steps" "_law_steps" (defArgs st__law_steps) (defBody st__law_steps) (defScope st__law_steps) .none kV__law_steps dc__law_steps pm__law_steps an__law_steps cd__law_steps ct__law_steps), sl__law_steps⟩)
    (c__law_steps : PySem.W.codeIn K cd__law_steps "_law_steps" = true)
    (k__law_steps : PySem.W.keepIn K (.ref f__law_steps) = true)
    (a__law_part : PySem.W.nsIn K mainGlobals "_law_part" = some (some (.ref f__law_part)))
    (l__law_part : K.lookup f__law_part = some ⟨oc__law_part, od__law_part, .func (PySem.W.fnOf "_law_part" "_law_part" (defArgs st__law_part) (defBody st__law_part) (defScope st__law_part) .none kV__law_part dc__law_part pm__law_part an__law_part cd__law_part ct__law_part), sl__law_part⟩)
    (c__law_part : PySem.W.codeIn K cd__law_part "_law_part" = true)
    (k__law_part : PySem.W.keepIn K (.ref f__law_part) = true)
    (a__law_folding_text : PySem.W.nsIn K mainGlobals "_law_folding_text" = some (some (.ref f__law_folding_text)))
    (l__law_folding_text : K.lookup f__law_folding_text = some ⟨oc__law_folding_text, od__law_folding_text, .func (PySem.W.fnOf "_law_folding_text" "_law_folding_text" (defArgs st__law_folding_text) (defBody st__law_folding_text) (defScope st__law_folding_text) .none kV__law_folding_text dc__law_folding_text pm__law_folding_text an__law_folding_text cd__law_folding_text ct__law_folding_text), sl__law_folding_text⟩)
    (c__law_folding_text : PySem.W.codeIn K cd__law_folding_text "_law_folding_text" = true)
    (k__law_folding_text : PySem.W.keepIn K (.ref f__law_folding_text) = true)
    (a__law_same0 : PySem.W.nsIn K mainGlobals "_law_same" = some (some (.ref f__law_same0)))
    (l__law_same0 : K.lookup f__law_same0 = some ⟨oc__law_same0, od__law_same0, .func (PySem.W.fnOf "_law_same" "_law_same" (defArgs st__law_same0) (defBody st__law_same0) (defScope st__law_same0) .none kV__law_same0 dc__law_same0 pm__law_same0 an__law_same0 cd__law_same0 ct__law_same0), sl__law_same0⟩)
    (c__law_same0 : PySem.W.codeIn K cd__law_same0 "_law_same" = true)
    (k__law_same0 : PySem.W.keepIn K (.ref f__law_same0) = true)
    (a__law_same1 : PySem.W.nsIn K mainGlobals "_law_same" = some (some (.ref f__law_same1)))
    (l__law_same1 : K.lookup f__law_same1 = some ⟨oc__law_same1, od__law_same1, .func (PySem.W.fnOf "_law_same" "_law_same" (defArgs st__law_same1) (defBody st__law_same1) (defScope st__law_same1) .none kV__law_same1 dc__law_same1 pm__law_same1 an__law_same1 cd__law_same1 ct__law_same1), sl__law_same1⟩)
    (c__law_same1 : PySem.W.codeIn K cd__law_same1 "_law_same" = true)
    (k__law_same1 : PySem.W.keepIn K (.ref f__law_same1) = true)
    (a__law_same2 : PySem.W.nsIn K mainGlobals "_law_same" = some (some (.ref f__law_same2)))
    (l__law_same2 : K.lookup f__law_same2 = some ⟨oc__law_same2, od__law_same2, .func (PySem.W.fnOf "_law_same" "_law_same" (defArgs st__law_same2) (defBody st__law_same2) (defScope st__law_same2) .none kV__law_same2 dc__law_same2 pm__law_same2 an__law_same2 cd__law_same2 ct__law_same2), sl__law_same2⟩)
    (c__law_same2 : PySem.W.codeIn K cd__law_same2 "_law_same" = true)
    (k__law_same2 : PySem.W.keepIn K (.ref f__law_same2) = true)
    (a__law_guess : PySem.W.nsIn K mainGlobals "_law_guess" = some (some (.ref f__law_guess)))
    (l__law_guess : K.lookup f__law_guess = some ⟨oc__law_guess, od__law_guess, .func (PySem.W.fnOf "_law_guess" "_law_guess" (defArgs st__law_guess) (defBody st__law_guess) (defScope st__law_guess) .none kV__law_guess dc__law_guess pm__law_guess an__law_guess cd__law_guess ct__law_guess), sl__law_guess⟩)
    (c__law_guess : PySem.W.codeIn K cd__law_guess "_law_guess" = true)
    (k__law_guess : PySem.W.keepIn K (.ref f__law_guess) = true)
    (a__law_is_step : PySem.W.nsIn K mainGlobals "_law_is_step" = some (some (.ref f__law_is_step)))
    (l__law_is_step : K.lookup f__law_is_step = some ⟨oc__law_is_step, od__law_is_step, .func (PySem.W.fnOf "_law_is_step" "_law_is_step" (defArgs st__law_is_step) (defBody st__law_is_step) (defScope st__law_is_step) .none kV__law_is_step dc__law_is_step pm__law_is_step an__law_is_step cd__law_is_step ct__law_is_step), sl__law_is_step⟩)
    (c__law_is_step : PySem.W.codeIn K cd__law_is_step "_law_is_step" = true)
    (k__law_is_step : PySem.W.keepIn K (.ref f__law_is_step) = true)
    (a__law_read : PySem.W.nsIn K mainGlobals "_law_read" = some (some (.ref f__law_read)))
    (l__law_read : K.lookup f__law_read = some ⟨oc__law_read, od__law_read, .func (PySem.W.fnOf "_law_read" "_law_read" (defArgs st__law_read) (defBody st__law_read) (defScope st__law_read) .none kV__law_read dc__law_read pm__law_read an__law_read cd__law_read ct__law_read), sl__law_read⟩)
    (c__law_read : PySem.W.codeIn K cd__law_read "_law_read" = true)
    (k__law_read : PySem.W.keepIn K (.ref f__law_read) = true)
    (a__law_tried : PySem.W.nsIn K mainGlobals "_law_tried" = some (some (.ref f__law_tried)))
    (l__law_tried : K.lookup f__law_tried = some ⟨oc__law_tried, od__law_tried, .func (PySem.W.fnOf "_law_tried" "_law_tried" (defArgs st__law_tried) (defBody st__law_tried) (defScope st__law_tried) .none kV__law_tried dc__law_tried pm__law_tried an__law_tried cd__law_tried ct__law_tried), sl__law_tried⟩)
    (c__law_tried : PySem.W.codeIn K cd__law_tried "_law_tried" = true)
    (k__law_tried : PySem.W.keepIn K (.ref f__law_tried) = true)
    (a__law_classes : PySem.W.nsIn K mainGlobals "_law_classes" = some (some (.ref f__law_classes)))
    (l__law_classes : K.lookup f__law_classes = some ⟨oc__law_classes, od__law_classes, .func (PySem.W.fnOf "_law_classes" "_law_classes" (defArgs st__law_classes) (defBody st__law_classes) (defScope st__law_classes) .none kV__law_classes dc__law_classes pm__law_classes an__law_classes cd__law_classes ct__law_classes), sl__law_classes⟩)
    (c__law_classes : PySem.W.codeIn K cd__law_classes "_law_classes" = true)
    (k__law_classes : PySem.W.keepIn K (.ref f__law_classes) = true)
    (a__law_whole : PySem.W.nsIn K mainGlobals "_law_whole" = some (some (.ref f__law_whole)))
    (l__law_whole : K.lookup f__law_whole = some ⟨oc__law_whole, od__law_whole, .func (PySem.W.fnOf "_law_whole" "_law_whole" (defArgs st__law_whole) (defBody st__law_whole) (defScope st__law_whole) .none kV__law_whole dc__law_whole pm__law_whole an__law_whole cd__law_whole ct__law_whole), sl__law_whole⟩)
    (c__law_whole : PySem.W.codeIn K cd__law_whole "_law_whole" = true)
    (k__law_whole : PySem.W.keepIn K (.ref f__law_whole) = true)
    (a__law_right : PySem.W.nsIn K mainGlobals "_law_right" = some (some (.ref f__law_right)))
    (l__law_right : K.lookup f__law_right = some ⟨oc__law_right, od__law_right, .func (PySem.W.fnOf "_law_right" "_law_right" (defArgs st__law_right) (defBody st__law_right) (defScope st__law_right) .none kV__law_right dc__law_right pm__law_right an__law_right cd__law_right ct__law_right), sl__law_right⟩)
    (c__law_right : PySem.W.codeIn K cd__law_right "_law_right" = true)
    (k__law_right : PySem.W.keepIn K (.ref f__law_right) = true)
    (a__law_edit : PySem.W.nsIn K mainGlobals "_law_edit" = some (some (.ref f__law_edit)))
    (l__law_edit : K.lookup f__law_edit = some ⟨oc__law_edit, od__law_edit, .func (PySem.W.fnOf "_law_edit" "_law_edit" (defArgs st__law_edit) (defBody st__law_edit) (defScope st__law_edit) .none kV__law_edit dc__law_edit pm__law_edit an__law_edit cd__law_edit ct__law_edit), sl__law_edit⟩)
    (c__law_edit : PySem.W.codeIn K cd__law_edit "_law_edit" = true)
    (k__law_edit : PySem.W.keepIn K (.ref f__law_edit) = true)
    (a__law_near_part : PySem.W.nsIn K mainGlobals "_law_near_part" = some (some (.ref f__law_near_part)))
    (l__law_near_part : K.lookup f__law_near_part = some ⟨oc__law_near_part, od__law_near_part, .func (PySem.W.fnOf "_law_near_part" "_law_near_part" (defArgs st__law_near_part) (defBody st__law_near_part) (defScope st__law_near_part) .none kV__law_near_part dc__law_near_part pm__law_near_part an__law_near_part cd__law_near_part ct__law_near_part), sl__law_near_part⟩)
    (c__law_near_part : PySem.W.codeIn K cd__law_near_part "_law_near_part" = true)
    (k__law_near_part : PySem.W.keepIn K (.ref f__law_near_part) = true)
    (a__law_spoilt : PySem.W.nsIn K mainGlobals "_law_spoilt" = some (some (.ref f__law_spoilt)))
    (l__law_spoilt : K.lookup f__law_spoilt = some ⟨oc__law_spoilt, od__law_spoilt, .func (PySem.W.fnOf "_law_spoilt" "_law_spoilt" (defArgs st__law_spoilt) (defBody st__law_spoilt) (defScope st__law_spoilt) .none kV__law_spoilt dc__law_spoilt pm__law_spoilt an__law_spoilt cd__law_spoilt ct__law_spoilt), sl__law_spoilt⟩)
    (c__law_spoilt : PySem.W.codeIn K cd__law_spoilt "_law_spoilt" = true)
    (k__law_spoilt : PySem.W.keepIn K (.ref f__law_spoilt) = true)
    (a_law : PySem.W.nsIn K mainGlobals "law" = some (some (.ref f_law)))
    (l_law : K.lookup f_law = some ⟨oc_law, od_law, .func (PySem.W.fnOf "law" "law" (defArgs st_law) (defBody st_law) (defScope st_law) .none kV_law dc_law pm_law an_law cd_law ct_law), sl_law⟩)
    (c_law : PySem.W.codeIn K cd_law "law" = true)
    (k_law : PySem.W.keepIn K (.ref f_law) = true)
    (z_ValueError : PySem.W.nsIn K mainGlobals "ValueError" = some none)
    (z_all : PySem.W.nsIn K mainGlobals "all" = some none)
    (z_bool : PySem.W.nsIn K mainGlobals "bool" = some none)
    (z_enumerate : PySem.W.nsIn K mainGlobals "enumerate" = some none)
    (z_int : PySem.W.nsIn K mainGlobals "int" = some none)
    (z_isinstance : PySem.W.nsIn K mainGlobals "isinstance" = some none)
    (z_len : PySem.W.nsIn K mainGlobals "len" = some none)
    (z_list : PySem.W.nsIn K mainGlobals "list" = some none)
    (z_max : PySem.W.nsIn K mainGlobals "max" = some none)
    (z_range : PySem.W.nsIn K mainGlobals "range" = some none)
    (z_set : PySem.W.nsIn K mainGlobals "set" = some none)
    (z_str : PySem.W.nsIn K mainGlobals "str" = some none)
    (z_tuple : PySem.W.nsIn K mainGlobals "tuple" = some none)
    (z_zip : PySem.W.nsIn K mainGlobals "zip" = some none)
    : ∃ fd : FuncData, (∀ (s : Shared) (v : Value), BindsTo s fd ⟨[v], []⟩ [("script", v)]) ∧ ∀ base : Heap, K.In base → base.Ns mainGlobals mg → FnOk l.prog w K mg base (L2.CX l.prog w) 9 fa fd ["script"] (liftP K sp_law 73647) := by
  have e := hfa.symm.trans (PySem.W.mg_of X G a_law)
  cases e
  have B : Blt mg := ⟨PySem.W.mg_none_of X G z_ValueError, PySem.W.mg_none_of X G z_all, PySem.W.mg_none_of X G z_bool, PySem.W.mg_none_of X G z_enumerate, PySem.W.mg_none_of X G z_int, PySem.W.mg_none_of X G z_isinstance, PySem.W.mg_none_of X G z_len, PySem.W.mg_none_of X G z_list, PySem.W.mg_none_of X G z_max, PySem.W.mg_none_of X G z_range, PySem.W.mg_none_of X G z_set, PySem.W.mg_none_of X G z_str, PySem.W.mg_none_of X G z_tuple, PySem.W.mg_none_of X G z_zip⟩
  have T_Folding : TC_Folding K A_Folding := ⟨⟨pg_Folding, hd_Folding, po_Folding, sa_Folding⟩, no_Folding_row, sf_Folding⟩
  have To_NoPart : OexC K A_NoPart := ⟨⟨_, _, _, _, _, _, _, _, _, _, _, _, _, _, _, xl_NoPart, by rfl⟩, sa_NoPart, bx_NoPart, ty_NoPart, kc_NoPart⟩
  have F_x_NoPart := fun_mk (st := st_x_NoPart) l_x_NoPart c_x_NoPart k_x_NoPart
  have X_NoPart : ∀ base : Heap, XC1 l.prog w K mg base "NoPart" A_NoPart "part" 1 := fun base => ⟨To_NoPart, ⟨f_x_NoPart, _, _, xi_NoPart, xt_NoPart, fkwb F_x_NoPart (by walk_at "kwb2"), xinit (b1 := default) (b2 := default) (b3 := default) (b4 := default) F_x_NoPart To_NoPart xf_NoPart sc_x_NoPart (fun cdv A outer s H E => by refine pss_one (ps_ost (to := tVar 0) (te := tVar 1) ?_ ?_) <;> first | exact pv 1 | exact pv 0)⟩, PySem.W.mg_of X G aC_NoPart⟩
  have To_NoStep : OexC K A_NoStep := ⟨⟨_, _, _, _, _, _, _, _, _, _, _, _, _, _, _, xl_NoStep, by rfl⟩, sa_NoStep, bx_NoStep, ty_NoStep, kc_NoStep⟩
  have F_x_NoStep := fun_mk (st := st_x_NoStep) l_x_NoStep c_x_NoStep k_x_NoStep
  have X_NoStep : ∀ base : Heap, XC1 l.prog w K mg base "NoStep" A_NoStep "index" 1 := fun base => ⟨To_NoStep, ⟨f_x_NoStep, _, _, xi_NoStep, xt_NoStep, fkwb F_x_NoStep (by walk_at "kwb2"), xinit (b1 := default) (b2 := default) (b3 := default) (b4 := default) F_x_NoStep To_NoStep xf_NoStep sc_x_NoStep (fun cdv A outer s H E => by refine pss_one (ps_ost (to := tVar 0) (te := tVar 1) ?_ ?_) <;> first | exact pv 1 | exact pv 0)⟩, PySem.W.mg_of X G aC_NoStep⟩
  have m_NoPart : mg "NoPart" = some (.ref A_NoPart) := PySem.W.mg_of X G aC_NoPart
  have exm_NoPart_NoPart : PySem.W.exmOne K (.ref A_NoPart) (.ref A_NoPart) = some true := exm_of bx_NoPart hd_NoPart ty_NoPart sub_NoPart_NoPart
  have exm_NoStep_NoPart : PySem.W.exmOne K (.ref A_NoStep) (.ref A_NoPart) = some false := exm_of bx_NoPart hd_NoPart ty_NoPart sub_NoStep_NoPart
  have m_NoStep : mg "NoStep" = some (.ref A_NoStep) := PySem.W.mg_of X G aC_NoStep
  have exm_NoPart_NoStep : PySem.W.exmOne K (.ref A_NoPart) (.ref A_NoStep) = some false := exm_of bx_NoStep hd_NoStep ty_NoStep sub_NoPart_NoStep
  have exm_NoStep_NoStep : PySem.W.exmOne K (.ref A_NoStep) (.ref A_NoStep) = some true := exm_of bx_NoStep hd_NoStep ty_NoStep sub_NoStep_NoStep
  have XF_NoPart : XfC K A_NoPart := ⟨x2_NoPart, x3_NoPart, bx_NoPart, hd_NoPart⟩
  have XF_NoStep : XfC K A_NoStep := ⟨x2_NoStep, x3_NoStep, bx_NoStep, hd_NoStep⟩
  have m_PlainError : mg "PlainError" = some (.ref A_PlainError) := PySem.W.mg_of X G aC_PlainError
  have exm_NoPart_PlainError : PySem.W.exmOne K (.ref A_NoPart) (.ref A_PlainError) = some true := exm_of bx_PlainError hd_PlainError ty_PlainError sub_NoPart_PlainError
  have exm_NoStep_PlainError : PySem.W.exmOne K (.ref A_NoStep) (.ref A_PlainError) = some true := exm_of bx_PlainError hd_PlainError ty_PlainError sub_NoStep_PlainError
  have E_NoPart : ExQ K A_NoPart := ⟨e1_NoPart, e2_NoPart, e3_NoPart, bx_NoPart, hd_NoPart, e4_NoPart, gsp, gtk, e5_NoPart⟩
  have kit_NoPart_NoStep : PySem.W.kitOne K (.ref A_NoPart) (.ref A_NoStep) = some false := kit_of sub_NoPart_NoPart ic_NoStep ty_NoStep sub_NoPart_NoStep
  have E_NoStep : ExQ K A_NoStep := ⟨e1_NoStep, e2_NoStep, e3_NoStep, bx_NoStep, hd_NoStep, e4_NoStep, gsp, gtk, e5_NoStep⟩
  have kit_NoStep_NoStep : PySem.W.kitOne K (.ref A_NoStep) (.ref A_NoStep) = some true := kit_self
  have kit_NoPart_NoPart : PySem.W.kitOne K (.ref A_NoPart) (.ref A_NoPart) = some true := kit_self
  have kit_NoStep_NoPart : PySem.W.kitOne K (.ref A_NoStep) (.ref A_NoPart) = some false := kit_of sub_NoStep_NoStep ic_NoPart ty_NoPart sub_NoStep_NoPart
  have kit_NoPart_ValueError : PySem.W.kitOne K (.ref A_NoPart) (.type "ValueError") = some true := kit_bt (by decide +kernel) sub_NoPart_ValueError
  have kit_NoStep_ValueError : PySem.W.kitOne K (.ref A_NoStep) (.type "ValueError") = some true := kit_bt (by decide +kernel) sub_NoStep_ValueError
  have is_Folding : IsC K A_Folding := ⟨T_Folding.cl, ih_Folding, gsp, gtk, mo_Folding, ic_Folding, ty_Folding⟩
  have m_Folding : mg "Folding" = some (.ref A_Folding) := PySem.W.mg_of X G aC_Folding
  have c_BETWEEN : Cst K mg "BETWEEN" d_BETWEEN := by
    have z := cst_str (K := K) (PySem.W.mg_of X G v_BETWEEN)
    first | exact z | (rw [ch_lit] at z; exact z)
  have c_CHARACTERS : Cst K mg "CHARACTERS" d_CHARACTERS := by
    have z := cst_str (K := K) (PySem.W.mg_of X G v_CHARACTERS)
    first | exact z | (rw [ch_lit] at z; exact z)
  have c_LONGEST_TEXT : Cst K mg "LONGEST_TEXT" d_LONGEST_TEXT := by
    have z := cst_int (K := K) (PySem.W.mg_of X G v_LONGEST_TEXT)
    first | exact z | (rw [ch_lit] at z; exact z)
  have c_MOST_DROPPED : Cst K mg "MOST_DROPPED" d_MOST_DROPPED := by
    have z := cst_int (K := K) (PySem.W.mg_of X G v_MOST_DROPPED)
    first | exact z | (rw [ch_lit] at z; exact z)
  have c_MOST_KEPT : Cst K mg "MOST_KEPT" d_MOST_KEPT := by
    have z := cst_int (K := K) (PySem.W.mg_of X G v_MOST_KEPT)
    first | exact z | (rw [ch_lit] at z; exact z)
  have c_MOST_STEPS : Cst K mg "MOST_STEPS" d_MOST_STEPS := by
    have z := cst_int (K := K) (PySem.W.mg_of X G v_MOST_STEPS)
    first | exact z | (rw [ch_lit] at z; exact z)
  have c_NUMBERS : Cst K mg "NUMBERS" d_NUMBERS := cst_tupS (PySem.W.mg_of X G v_NUMBERS) lk_NUMBERS (.cons _ _ (.cons _ _ (.cons _ _ (.cons _ _ (.cons _ _ (.cons _ _ (.cons _ _ (.cons _ _ (.cons _ _ .nil))))))))) (by decide)
  have c_PLAIN : Cst K mg "PLAIN" d_PLAIN := by
    have z := cst_str (K := K) (PySem.W.mg_of X G v_PLAIN)
    first | exact z | (rw [ch_lit] at z; exact z)
  have F_is_whole := fun_mk (st := st_is_whole) l_is_whole c_is_whole k_is_whole
  have D_is_whole : Df K mg "is_whole" st_is_whole ["thing"] := ⟨f_is_whole, _, F_is_whole, PySem.W.mg_of X G a_is_whole, fkwb F_is_whole (by walk_at "kwb1")⟩
  have F_is_written := fun_mk (st := st_is_written) l_is_written c_is_written k_is_written
  have D_is_written : Df K mg "is_written" st_is_written ["thing", "least", "most"] := ⟨f_is_written, _, F_is_written, PySem.W.mg_of X G a_is_written, fkwb F_is_written (by walk_at "kwb3")⟩
  have F_is_character := fun_mk (st := st_is_character) l_is_character c_is_character k_is_character
  have D_is_character : Df K mg "is_character" st_is_character ["thing"] := ⟨f_is_character, _, F_is_character, PySem.W.mg_of X G a_is_character, fkwb F_is_character (by walk_at "kwb1")⟩
  have F_is_text := fun_mk (st := st_is_text) l_is_text c_is_text k_is_text
  have D_is_text : Df K mg "is_text" st_is_text ["thing"] := ⟨f_is_text, _, F_is_text, PySem.W.mg_of X G a_is_text, fkwb F_is_text (by walk_at "kwb1")⟩
  have F_is_step := fun_mk (st := st_is_step) l_is_step c_is_step k_is_step
  have D_is_step : Df K mg "is_step" st_is_step ["thing"] := ⟨f_is_step, _, F_is_step, PySem.W.mg_of X G a_is_step, fkwb F_is_step (by walk_at "kwb1")⟩
  have F_read_step := fun_mk (st := st_read_step) l_read_step c_read_step k_read_step
  have D_read_step : DfA K mg "read_step_readers" "read_step" st_read_step ["step", "state", "character"] := ⟨f_read_step, _, F_read_step, PySem.W.mg_of X G a_read_step, fkwb F_read_step (by walk_at "kwb3")⟩
  have F_beginning := fun_mk (st := st_beginning) l_beginning c_beginning k_beginning
  have D_beginning : Df K mg "beginning" st_beginning ["steps"] := ⟨f_beginning, _, F_beginning, PySem.W.mg_of X G a_beginning, fkwb F_beginning (by walk_at "kwb1")⟩
  have F_read := fun_mk (st := st_read) l_read c_read k_read
  have D_read : Df K mg "read" st_read ["steps", "states", "character"] := ⟨f_read, _, F_read, PySem.W.mg_of X G a_read, fkwb F_read (by walk_at "kwb3")⟩
  have W_Folding___init__ : KwB K _ ["self", "steps"] := kwb_dflt (x := "__init__") (qual := "Folding.__init__") (st := st_Folding___init__) (kV := kV_Folding___init__) (doc := dc_Folding___init__) (pm := pm_Folding___init__) (an := an_Folding___init__) (cdv := cd_Folding___init__) (ct := ct_Folding___init__) d_Folding___init__ (by walk_at "kwd2")
  have V_Folding___init__ : Dfl K _ ["self", "steps"] true := dfl_mk (x := "__init__") (qual := "Folding.__init__") (st := st_Folding___init__) (kV := kV_Folding___init__) (doc := dc_Folding___init__) (pm := pm_Folding___init__) (an := an_Folding___init__) (cdv := cd_Folding___init__) (ct := ct_Folding___init__) d_Folding___init__ e_Folding___init__ rfl (fun x => ⟨_, rfl, rfl⟩)
  have D_Folding___init__ : IDf K mg A_Folding "Folding" "Folding.__init__" st_Folding___init__ ["self", "steps"] true := ⟨f_Folding___init__, _, ⟨⟨_, _, _, _, _, _, _, _, _, _, rfl, l_Folding___init__, c_Folding___init__⟩, k_Folding___init__⟩, PySem.W.mg_of X G aC_Folding, ⟨mk_Folding, a_Folding___init__, i_Folding___init__, kc_Folding⟩, W_Folding___init__, V_Folding___init__⟩
  have F_Folding_steps := fun_mk (st := st_Folding_steps) l_Folding_steps c_Folding_steps k_Folding_steps
  have D_Folding_steps : MDf K A_Folding "steps" "Folding.steps" st_Folding_steps ["self"] := ⟨f_Folding_steps, _, F_Folding_steps, ⟨a_Folding_steps, i_Folding_steps, k_Folding_steps⟩, n_Folding_steps, fkwb F_Folding_steps (by walk_at "kwb1")⟩
  have F_Folding___len__ := fun_mk (st := st_Folding___len__) l_Folding___len__ c_Folding___len__ k_Folding___len__
  have D_Folding___len__ : MDf K A_Folding "__len__" "Folding.__len__" st_Folding___len__ ["self"] := ⟨f_Folding___len__, _, F_Folding___len__, ⟨a_Folding___len__, i_Folding___len__, k_Folding___len__⟩, n_Folding___len__, fkwb F_Folding___len__ (by walk_at "kwb1")⟩
  have F_read_step_texts := fun_mk (st := st_read_step_texts) l_read_step_texts c_read_step_texts k_read_step_texts
  have D_read_step_texts : DfA K mg "read_step_texts" "read_step" st_read_step_texts ["part"] := ⟨f_read_step_texts, _, F_read_step_texts, PySem.W.mg_of X G a_read_step_texts, fkwb F_read_step_texts (by walk_at "kwb1")⟩
  have F_read_folding := fun_mk (st := st_read_folding) l_read_folding c_read_folding k_read_folding
  have D_read_folding : Df K mg "read_folding" st_read_folding ["text"] := ⟨f_read_folding, _, F_read_folding, PySem.W.mg_of X G a_read_folding, fkwb F_read_folding (by walk_at "kwb1")⟩
  have F__law_draw := fun_mk (st := st__law_draw) l__law_draw c__law_draw k__law_draw
  have D__law_draw : Df K mg "_law_draw" st__law_draw ["well", "many"] := ⟨f__law_draw, _, F__law_draw, PySem.W.mg_of X G a__law_draw, fkwb F__law_draw (by walk_at "kwb2")⟩
  have F__law_well := fun_mk (st := st__law_well) l__law_well c__law_well k__law_well
  have D__law_well : Df K mg "_law_well" st__law_well ["script", "k"] := ⟨f__law_well, _, F__law_well, PySem.W.mg_of X G a__law_well, fkwb F__law_well (by walk_at "kwb2")⟩
  have F__law_chars := fun_mk (st := st__law_chars) l__law_chars c__law_chars k__law_chars
  have D__law_chars : Df K mg "_law_chars" st__law_chars [] := ⟨f__law_chars, _, F__law_chars, PySem.W.mg_of X G a__law_chars, fkwb F__law_chars (by walk_at "kwb0")⟩
  have F__law_pool := fun_mk (st := st__law_pool) l__law_pool c__law_pool k__law_pool
  have D__law_pool : Df K mg "_law_pool" st__law_pool ["well"] := ⟨f__law_pool, _, F__law_pool, PySem.W.mg_of X G a__law_pool, fkwb F__law_pool (by walk_at "kwb1")⟩
  have F__law_character := fun_mk (st := st__law_character) l__law_character c__law_character k__law_character
  have D__law_character : Df K mg "_law_character" st__law_character ["well", "pool"] := ⟨f__law_character, _, F__law_character, PySem.W.mg_of X G a__law_character, fkwb F__law_character (by walk_at "kwb2")⟩
  have F__law_step := fun_mk (st := st__law_step) l__law_step c__law_step k__law_step
  have D__law_step : Df K mg "_law_step" st__law_step ["well", "pool"] := ⟨f__law_step, _, F__law_step, PySem.W.mg_of X G a__law_step, fkwb F__law_step (by walk_at "kwb2")⟩
  have F__law_steps := fun_mk (st := st__law_steps) l__law_steps c__law_steps k__law_steps
  have D__law_steps : Df K mg "_law_steps" st__law_steps ["well", "pool"] := ⟨f__law_steps, _, F__law_steps, PySem.W.mg_of X G a__law_steps, fkwb F__law_steps (by walk_at "kwb2")⟩
  have F__law_part := fun_mk (st := st__law_part) l__law_part c__law_part k__law_part
  have D__law_part : Df K mg "_law_part" st__law_part ["step"] := ⟨f__law_part, _, F__law_part, PySem.W.mg_of X G a__law_part, fkwb F__law_part (by walk_at "kwb1")⟩
  have F__law_folding_text := fun_mk (st := st__law_folding_text) l__law_folding_text c__law_folding_text k__law_folding_text
  have D__law_folding_text : Df K mg "_law_folding_text" st__law_folding_text ["steps"] := ⟨f__law_folding_text, _, F__law_folding_text, PySem.W.mg_of X G a__law_folding_text, fkwb F__law_folding_text (by walk_at "kwb1")⟩
  have F__law_same0 := fun_mk (st := st__law_same0) l__law_same0 c__law_same0 k__law_same0
  have D__law_same0 : Df K mg "_law_same" st__law_same0 ["actual", "expected"] := ⟨f__law_same0, _, F__law_same0, PySem.W.mg_of X G a__law_same0, fkwb F__law_same0 (by walk_at "kwb2")⟩
  have F__law_same1 := fun_mk (st := st__law_same1) l__law_same1 c__law_same1 k__law_same1
  have D__law_same1 : Df K mg "_law_same" st__law_same1 ["actual", "expected"] := ⟨f__law_same1, _, F__law_same1, PySem.W.mg_of X G a__law_same1, fkwb F__law_same1 (by walk_at "kwb2")⟩
  have F__law_same2 := fun_mk (st := st__law_same2) l__law_same2 c__law_same2 k__law_same2
  have D__law_same2 : Df K mg "_law_same" st__law_same2 ["actual", "expected"] := ⟨f__law_same2, _, F__law_same2, PySem.W.mg_of X G a__law_same2, fkwb F__law_same2 (by walk_at "kwb2")⟩
  have F__law_guess := fun_mk (st := st__law_guess) l__law_guess c__law_guess k__law_guess
  have D__law_guess : Df K mg "_law_guess" st__law_guess ["part"] := ⟨f__law_guess, _, F__law_guess, PySem.W.mg_of X G a__law_guess, fkwb F__law_guess (by walk_at "kwb1")⟩
  have F__law_is_step := fun_mk (st := st__law_is_step) l__law_is_step c__law_is_step k__law_is_step
  have D__law_is_step : Df K mg "_law_is_step" st__law_is_step ["step"] := ⟨f__law_is_step, _, F__law_is_step, PySem.W.mg_of X G a__law_is_step, fkwb F__law_is_step (by walk_at "kwb1")⟩
  have F__law_read := fun_mk (st := st__law_read) l__law_read c__law_read k__law_read
  have D__law_read : Df K mg "_law_read" st__law_read ["page"] := ⟨f__law_read, _, F__law_read, PySem.W.mg_of X G a__law_read, fkwb F__law_read (by walk_at "kwb1")⟩
  have F__law_tried := fun_mk (st := st__law_tried) l__law_tried c__law_tried k__law_tried
  have D__law_tried : Df K mg "_law_tried" st__law_tried ["page"] := ⟨f__law_tried, _, F__law_tried, PySem.W.mg_of X G a__law_tried, fkwb F__law_tried (by walk_at "kwb1")⟩
  have F__law_classes := fun_mk (st := st__law_classes) l__law_classes c__law_classes k__law_classes
  have D__law_classes : Df K mg "_law_classes" st__law_classes ["page"] := ⟨f__law_classes, _, F__law_classes, PySem.W.mg_of X G a__law_classes, fkwb F__law_classes (by walk_at "kwb1")⟩
  have F__law_whole := fun_mk (st := st__law_whole) l__law_whole c__law_whole k__law_whole
  have D__law_whole : Df K mg "_law_whole" st__law_whole ["actual", "expected"] := ⟨f__law_whole, _, F__law_whole, PySem.W.mg_of X G a__law_whole, fkwb F__law_whole (by walk_at "kwb2")⟩
  have F__law_right := fun_mk (st := st__law_right) l__law_right c__law_right k__law_right
  have D__law_right : Df K mg "_law_right" st__law_right ["page", "due"] := ⟨f__law_right, _, F__law_right, PySem.W.mg_of X G a__law_right, fkwb F__law_right (by walk_at "kwb2")⟩
  have F__law_edit := fun_mk (st := st__law_edit) l__law_edit c__law_edit k__law_edit
  have D__law_edit : Df K mg "_law_edit" st__law_edit ["well", "page"] := ⟨f__law_edit, _, F__law_edit, PySem.W.mg_of X G a__law_edit, fkwb F__law_edit (by walk_at "kwb2")⟩
  have F__law_near_part := fun_mk (st := st__law_near_part) l__law_near_part c__law_near_part k__law_near_part
  have D__law_near_part : Df K mg "_law_near_part" st__law_near_part ["well", "one"] := ⟨f__law_near_part, _, F__law_near_part, PySem.W.mg_of X G a__law_near_part, fkwb F__law_near_part (by walk_at "kwb2")⟩
  have F__law_spoilt := fun_mk (st := st__law_spoilt) l__law_spoilt c__law_spoilt k__law_spoilt
  have D__law_spoilt : Df K mg "_law_spoilt" st__law_spoilt ["well", "pool", "page"] := ⟨f__law_spoilt, _, F__law_spoilt, PySem.W.mg_of X G a__law_spoilt, fkwb F__law_spoilt (by walk_at "kwb3")⟩
  have F_law := fun_mk (st := st_law) l_law c_law k_law
  exact ⟨_, fun s v => .of_eq rfl, fun base _ _ => by
    skip
    exact all_fns B T_Folding c_BETWEEN c_CHARACTERS c_LONGEST_TEXT c_MOST_DROPPED c_MOST_KEPT c_MOST_STEPS c_NUMBERS c_PLAIN (X_NoPart base) (X_NoStep base) m_NoPart exm_NoPart_NoPart exm_NoStep_NoPart m_NoStep exm_NoPart_NoStep exm_NoStep_NoStep XF_NoPart nof_NoPart XF_NoStep nof_NoStep m_PlainError exm_NoPart_PlainError exm_NoStep_PlainError E_NoPart kit_NoPart_NoStep E_NoStep kit_NoStep_NoStep kit_NoPart_NoPart kit_NoStep_NoPart kit_NoPart_ValueError kit_NoStep_ValueError is_Folding m_Folding D_is_whole D_is_written D_is_character D_is_text D_is_step D_read_step D_beginning D_read D_Folding___init__ D_Folding_steps D_Folding___len__ D_read_step_texts D_read_folding D__law_draw D__law_well D__law_chars D__law_pool D__law_character D__law_step D__law_steps D__law_part D__law_folding_text D__law_same0 D__law_same1 D__law_same2 D__law_guess D__law_is_step D__law_read D__law_tried D__law_classes D__law_whole D__law_right D__law_edit D__law_near_part D__law_spoilt F_law⟩
end
end Pl
open PySem PySem.W PyProof.Rows
set_option maxRecDepth 100000 in
set_option maxHeartbeats 0 in
theorem PySem.Challenge.cw_plaindoors_k11_folding_texts_refused_holds : PySem.Challenge.rw_plaindoors_k11_folding_texts_refused.Holds := by
  w_on; o_law; k_head; (case hw => w_witness2)
  k_fill
  refine Pl.walkD (l := PySem.Challenge.rw_plaindoors_k11_folding_texts_refused) (sp := Pl.sp_law) (k := 73647) (lv := 9) rfl rfl ⟨rfl, by decide, by decide⟩ (by decide +kernel) (fun ns hl => ⟨ns, rfl, hl, rfl⟩) (fun w h Y => PySem.W.kIn_of Y) ?F
  case F =>
    intro w mg fa h KX G hmg
    refine' Pl.all_mk KX G hmg ?aC_Folding ?pg_Folding ?hd_Folding ?po_Folding ?sa_Folding ?mk_Folding ?kc_Folding ?no_Folding_row ?sf_Folding ?aC_NoPart ?bx_NoPart ?ty_NoPart ?hd_NoPart ?aC_NoStep ?bx_NoStep ?ty_NoStep ?hd_NoStep ?aC_PlainError ?bx_PlainError ?ty_PlainError ?hd_PlainError ?kc_NoPart ?xl_NoPart ?sa_NoPart ?xi_NoPart ?xt_NoPart ?xf_NoPart ?l_x_NoPart ?c_x_NoPart ?k_x_NoPart ?kc_NoStep ?xl_NoStep ?sa_NoStep ?xi_NoStep ?xt_NoStep ?xf_NoStep ?l_x_NoStep ?c_x_NoStep ?k_x_NoStep ?gsp ?gtk ?sub_NoPart_NoPart ?sub_NoStep_NoPart ?sub_NoPart_NoStep ?sub_NoStep_NoStep ?x2_NoPart ?x3_NoPart ?nof_NoPart ?x2_NoStep ?x3_NoStep ?nof_NoStep ?sub_NoPart_PlainError ?sub_NoStep_PlainError ?e1_NoPart ?e2_NoPart ?e3_NoPart ?e4_NoPart ?e5_NoPart ?ic_NoStep ?e1_NoStep ?e2_NoStep ?e3_NoStep ?e4_NoStep ?e5_NoStep ?ic_NoPart ?sub_NoPart_ValueError ?sub_NoStep_ValueError ?ih_Folding ?mo_Folding ?ic_Folding ?ty_Folding ?v_BETWEEN ?v_CHARACTERS ?v_LONGEST_TEXT ?v_MOST_DROPPED ?v_MOST_KEPT ?v_MOST_STEPS ?v_NUMBERS ?lk_NUMBERS ?v_PLAIN ?a_is_whole ?l_is_whole ?c_is_whole ?k_is_whole ?a_is_written ?l_is_written ?c_is_written ?k_is_written ?a_is_character ?l_is_character ?c_is_character ?k_is_character ?a_is_text ?l_is_text ?c_is_text ?k_is_text ?a_is_step ?l_is_step ?c_is_step ?k_is_step ?a_read_step ?l_read_step ?c_read_step ?k_read_step ?a_beginning ?l_beginning ?c_beginning ?k_beginning ?a_read ?l_read ?c_read ?k_read ?a_Folding___init__ ?i_Folding___init__ ?l_Folding___init__ ?c_Folding___init__ ?k_Folding___init__ ?d_Folding___init__ ?e_Folding___init__ ?a_Folding_steps ?i_Folding_steps ?n_Folding_steps ?l_Folding_steps ?c_Folding_steps ?k_Folding_steps ?a_Folding___len__ ?i_Folding___len__ ?n_Folding___len__ ?l_Folding___len__ ?c_Folding___len__ ?k_Folding___len__ ?a_read_step_texts ?l_read_step_texts ?c_read_step_texts ?k_read_step_texts ?a_read_folding ?l_read_folding ?c_read_folding ?k_read_folding ?a__law_draw ?l__law_draw ?c__law_draw ?k__law_draw ?a__law_well ?l__law_well ?c__law_well ?k__law_well ?a__law_chars ?l__law_chars ?c__law_chars ?k__law_chars ?a__law_pool ?l__law_pool ?c__law_pool ?k__law_pool ?a__law_character ?l__law_character ?c__law_character ?k__law_character ?a__law_step ?l__law_step ?c__law_step ?k__law_step ?a__law_steps ?l__law_steps ?c__law_steps ?k__law_steps ?a__law_part ?l__law_part ?c__law_part ?k__law_part ?a__law_folding_text ?l__law_folding_text ?c__law_folding_text ?k__law_folding_text ?a__law_same0 ?l__law_same0 ?c__law_same0 ?k__law_same0 ?a__law_same1 ?l__law_same1 ?c__law_same1 ?k__law_same1 ?a__law_same2 ?l__law_same2 ?c__law_same2 ?k__law_same2 ?a__law_guess ?l__law_guess ?c__law_guess ?k__law_guess ?a__law_is_step ?l__law_is_step ?c__law_is_step ?k__law_is_step ?a__law_read ?l__law_read ?c__law_read ?k__law_read ?a__law_tried ?l__law_tried ?c__law_tried ?k__law_tried ?a__law_classes ?l__law_classes ?c__law_classes ?k__law_classes ?a__law_whole ?l__law_whole ?c__law_whole ?k__law_whole ?a__law_right ?l__law_right ?c__law_right ?k__law_right ?a__law_edit ?l__law_edit ?c__law_edit ?k__law_edit ?a__law_near_part ?l__law_near_part ?c__law_near_part ?k__law_near_part ?a__law_spoilt ?l__law_spoilt ?c__law_spoilt ?k__law_spoilt ?a_law ?l_law ?c_law ?k_law ?z_ValueError ?z_all ?z_bool ?z_enumerate ?z_int ?z_isinstance ?z_len ?z_list ?z_max ?z_range ?z_set ?z_str ?z_tuple ?z_zip
    (case aC_Folding => k_is)
    (case pg_Folding => k_is)
    (case hd_Folding => k_is)
    (case po_Folding => k_is)
    (case sa_Folding => k_is)
    (case mk_Folding => k_is)
    (case kc_Folding => k_is)
    (case no_Folding_row => k_is)
    (case sf_Folding => k_is)
    (case aC_NoPart => k_is)
    (case bx_NoPart => k_is)
    (case ty_NoPart => k_is)
    (case hd_NoPart => k_is)
    (case aC_NoStep => k_is)
    (case bx_NoStep => k_is)
    (case ty_NoStep => k_is)
    (case hd_NoStep => k_is)
    (case aC_PlainError => k_is)
    (case bx_PlainError => k_is)
    (case ty_PlainError => k_is)
    (case hd_PlainError => k_is)
    (case kc_NoPart => k_is)
    (case xl_NoPart => k_is)
    (case sa_NoPart => k_is)
    (case xi_NoPart => k_is)
    (case xt_NoPart => k_is)
    (case xf_NoPart => k_is)
    (case l_x_NoPart => k_is)
    (case c_x_NoPart => k_is)
    (case k_x_NoPart => k_is)
    (case kc_NoStep => k_is)
    (case xl_NoStep => k_is)
    (case sa_NoStep => k_is)
    (case xi_NoStep => k_is)
    (case xt_NoStep => k_is)
    (case xf_NoStep => k_is)
    (case l_x_NoStep => k_is)
    (case c_x_NoStep => k_is)
    (case k_x_NoStep => k_is)
    (case gsp => k_is)
    (case gtk => k_is)
    (case sub_NoPart_NoPart => k_is)
    (case sub_NoStep_NoPart => k_is)
    (case sub_NoPart_NoStep => k_is)
    (case sub_NoStep_NoStep => k_is)
    (case x2_NoPart => k_is)
    (case x3_NoPart => k_is)
    (case nof_NoPart => k_is)
    (case x2_NoStep => k_is)
    (case x3_NoStep => k_is)
    (case nof_NoStep => k_is)
    (case sub_NoPart_PlainError => k_is)
    (case sub_NoStep_PlainError => k_is)
    (case e1_NoPart => k_is)
    (case e2_NoPart => k_is)
    (case e3_NoPart => k_is)
    (case e4_NoPart => k_is)
    (case e5_NoPart => k_is)
    (case ic_NoStep => k_is)
    (case e1_NoStep => k_is)
    (case e2_NoStep => k_is)
    (case e3_NoStep => k_is)
    (case e4_NoStep => k_is)
    (case e5_NoStep => k_is)
    (case ic_NoPart => k_is)
    (case sub_NoPart_ValueError => k_is)
    (case sub_NoStep_ValueError => k_is)
    (case ih_Folding => k_is)
    (case mo_Folding => k_is)
    (case ic_Folding => k_is)
    (case ty_Folding => k_is)
    (case v_BETWEEN => k_is)
    (case v_CHARACTERS => k_is)
    (case v_LONGEST_TEXT => k_is)
    (case v_MOST_DROPPED => k_is)
    (case v_MOST_KEPT => k_is)
    (case v_MOST_STEPS => k_is)
    (case v_NUMBERS => k_is)
    (case lk_NUMBERS => k_is)
    (case v_PLAIN => k_is)
    (case a_is_whole => k_is)
    (case l_is_whole => k_is)
    (case c_is_whole => k_is)
    (case k_is_whole => k_is)
    (case a_is_written => k_is)
    (case l_is_written => k_is)
    (case c_is_written => k_is)
    (case k_is_written => k_is)
    (case a_is_character => k_is)
    (case l_is_character => k_is)
    (case c_is_character => k_is)
    (case k_is_character => k_is)
    (case a_is_text => k_is)
    (case l_is_text => k_is)
    (case c_is_text => k_is)
    (case k_is_text => k_is)
    (case a_is_step => k_is)
    (case l_is_step => k_is)
    (case c_is_step => k_is)
    (case k_is_step => k_is)
    (case a_read_step => k_is)
    (case l_read_step => k_is)
    (case c_read_step => k_is)
    (case k_read_step => k_is)
    (case a_beginning => k_is)
    (case l_beginning => k_is)
    (case c_beginning => k_is)
    (case k_beginning => k_is)
    (case a_read => k_is)
    (case l_read => k_is)
    (case c_read => k_is)
    (case k_read => k_is)
    (case a_Folding___init__ => k_is)
    (case i_Folding___init__ => k_is)
    (case l_Folding___init__ => k_is)
    (case c_Folding___init__ => k_is)
    (case k_Folding___init__ => k_is)
    (case d_Folding___init__ => k_is)
    (case e_Folding___init__ => k_is)
    (case a_Folding_steps => k_is)
    (case i_Folding_steps => k_is)
    (case n_Folding_steps => k_is)
    (case l_Folding_steps => k_is)
    (case c_Folding_steps => k_is)
    (case k_Folding_steps => k_is)
    (case a_Folding___len__ => k_is)
    (case i_Folding___len__ => k_is)
    (case n_Folding___len__ => k_is)
    (case l_Folding___len__ => k_is)
    (case c_Folding___len__ => k_is)
    (case k_Folding___len__ => k_is)
    (case a_read_step_texts => k_is)
    (case l_read_step_texts => k_is)
    (case c_read_step_texts => k_is)
    (case k_read_step_texts => k_is)
    (case a_read_folding => k_is)
    (case l_read_folding => k_is)
    (case c_read_folding => k_is)
    (case k_read_folding => k_is)
    (case a__law_draw => k_is)
    (case l__law_draw => k_is)
    (case c__law_draw => k_is)
    (case k__law_draw => k_is)
    (case a__law_well => k_is)
    (case l__law_well => k_is)
    (case c__law_well => k_is)
    (case k__law_well => k_is)
    (case a__law_chars => k_is)
    (case l__law_chars => k_is)
    (case c__law_chars => k_is)
    (case k__law_chars => k_is)
    (case a__law_pool => k_is)
    (case l__law_pool => k_is)
    (case c__law_pool => k_is)
    (case k__law_pool => k_is)
    (case a__law_character => k_is)
    (case l__law_character => k_is)
    (case c__law_character => k_is)
    (case k__law_character => k_is)
    (case a__law_step => k_is)
    (case l__law_step => k_is)
    (case c__law_step => k_is)
    (case k__law_step => k_is)
    (case a__law_steps => k_is)
    (case l__law_steps => k_is)
    (case c__law_steps => k_is)
    (case k__law_steps => k_is)
    (case a__law_part => k_is)
    (case l__law_part => k_is)
    (case c__law_part => k_is)
    (case k__law_part => k_is)
    (case a__law_folding_text => k_is)
    (case l__law_folding_text => k_is)
    (case c__law_folding_text => k_is)
    (case k__law_folding_text => k_is)
    (case a__law_same0 => k_is)
    (case l__law_same0 => k_is)
    (case c__law_same0 => k_is)
    (case k__law_same0 => k_is)
    (case a__law_same1 => k_is)
    (case l__law_same1 => k_is)
    (case c__law_same1 => k_is)
    (case k__law_same1 => k_is)
    (case a__law_same2 => k_is)
    (case l__law_same2 => k_is)
    (case c__law_same2 => k_is)
    (case k__law_same2 => k_is)
    (case a__law_guess => k_is)
    (case l__law_guess => k_is)
    (case c__law_guess => k_is)
    (case k__law_guess => k_is)
    (case a__law_is_step => k_is)
    (case l__law_is_step => k_is)
    (case c__law_is_step => k_is)
    (case k__law_is_step => k_is)
    (case a__law_read => k_is)
    (case l__law_read => k_is)
    (case c__law_read => k_is)
    (case k__law_read => k_is)
    (case a__law_tried => k_is)
    (case l__law_tried => k_is)
    (case c__law_tried => k_is)
    (case k__law_tried => k_is)
    (case a__law_classes => k_is)
    (case l__law_classes => k_is)
    (case c__law_classes => k_is)
    (case k__law_classes => k_is)
    (case a__law_whole => k_is)
    (case l__law_whole => k_is)
    (case c__law_whole => k_is)
    (case k__law_whole => k_is)
    (case a__law_right => k_is)
    (case l__law_right => k_is)
    (case c__law_right => k_is)
    (case k__law_right => k_is)
    (case a__law_edit => k_is)
    (case l__law_edit => k_is)
    (case c__law_edit => k_is)
    (case k__law_edit => k_is)
    (case a__law_near_part => k_is)
    (case l__law_near_part => k_is)
    (case c__law_near_part => k_is)
    (case k__law_near_part => k_is)
    (case a__law_spoilt => k_is)
    (case l__law_spoilt => k_is)
    (case c__law_spoilt => k_is)
    (case k__law_spoilt => k_is)
    (case a_law => k_is)
    (case l_law => k_is)
    (case c_law => k_is)
    (case k_law => k_is)
    (case z_ValueError => k_is)
    (case z_all => k_is)
    (case z_bool => k_is)
    (case z_enumerate => k_is)
    (case z_int => k_is)
    (case z_isinstance => k_is)
    (case z_len => k_is)
    (case z_list => k_is)
    (case z_max => k_is)
    (case z_range => k_is)
    (case z_set => k_is)
    (case z_str => k_is)
    (case z_tuple => k_is)
    (case z_zip => k_is)
#print axioms PySem.Challenge.cw_plaindoors_k11_folding_texts_refused_holds

