import PyProof.Rows.All
import Wide.All
import OpenK.AllK
import Wide.FinOn
import HandS.ForMost
import HandS.ForExc
import HandS.Wide
import HandS.WideBits
import HandS.TupAny
import HandS.TupMul
import HandS.Zip
import HandS.Flow
import HandS.IsInst
import HandS.Lambda
import HandS.AnyAll
import HandS.CallSlots
import HandS.Deep
import HandS.Defaults
import HandS.GenOver
import HandS.GenList
import HandS.ExcInit
import HandS.ExcSuper
import KE.KExcSuper
import HandS.HeadWalk
import HandS.ExcField
import HandS.Iter
import HandS.Flt
import HandS.HeadHook4
import HandS.EndTab
import HandS.HeadEnd
import HandS.Head2
import KE.DataEq
import PySem.Challenge.RW_rowanswers_k15_whole_minors
set_option Elab.async false
set_option linter.all false
set_option maxRecDepth 100000
set_option maxHeartbeats 2000000
namespace Y
open PySem PySem.Spec PyProof.Rows L2

/-! ### data -/
inductive D where
  | non | bl (b : Bool) | int (i : Int) | str (s : Str) | tup (l : List D) | lst (l : List D) | scr (l : List D) | ob (n : Nat) (fs : List (Str × D))

/-- what stays fixed in a law: the classes' addresses, the error's class, the tables -/
structure Cc where
  cl : Nat → Addr
  bad : Addr
  T1 : List Addr
  T2 : List (Addr × Str)
def Cc.isT (c : Cc) (a : Addr) : Prop := a ∈ c.T1 ∨ ∃ q, (a, q) ∈ c.T2

mutual
inductive RD (K : PySem.W.Frag) (cl : Nat → Addr) (I : Hp) : V → D → Prop
  | non : RD K cl I .non .non
  | bl (b : Bool) : RD K cl I (.bl b) (.bl b)
  | int (i : Int) : RD K cl I (.int i) (.int i)
  | str (s : Str) : RD K cl I (.str s) (.str s)
  | tup {a : Addr} {xs : List V} {ds : List D} : SqT K I a xs → RDs K cl I xs ds → RD K cl I (.ref a) (.tup ds)
  | lst {a : Addr} {xs : List V} {ds : List D} : I a = some (.lst xs) → RDs K cl I xs ds → RD K cl I (.ref a) (.lst ds)
  | scr {a : Addr} {xs : List V} {ds : List D} : SqL K I a xs → RDs K cl I xs ds → RD K cl I (.ref a) (.scr ds)
  | ob {a dx : Addr} {n : Nat} {fs : List (Str × V)} {gs : List (Str × D)} : I a = some (.ins (cl n) dx fs) → RDf K cl I fs gs → RD K cl I (.ref a) (.ob n gs)
inductive RDs (K : PySem.W.Frag) (cl : Nat → Addr) (I : Hp) : List V → List D → Prop
  | nil : RDs K cl I [] []
  | cons {v : V} {vs : List V} {d : D} {ds : List D} : RD K cl I v d → RDs K cl I vs ds → RDs K cl I (v :: vs) (d :: ds)
inductive RDf (K : PySem.W.Frag) (cl : Nat → Addr) (I : Hp) : List (Str × V) → List (Str × D) → Prop
  | nil : RDf K cl I [] []
  | cons {x : Str} {v : V} {vs : List (Str × V)} {d : D} {ds : List (Str × D)} : RD K cl I v d → RDf K cl I vs ds → RDf K cl I ((x, v) :: vs) ((x, d) :: ds)
end

section
variable {K : PySem.W.Frag} {cl : Nat → Addr} {I I' : Hp}
theorem same_t {a : Addr} {xs : List V} (s : Same I I') (h : SqT K I a xs) : SqT K I' a xs := by
  rcases h with (h | ⟨o, h⟩) | h
  · exact .inl (.inl (s _ _ h))
  · exact .inl (.inr ⟨o, s _ _ h⟩)
  · exact .inr h
mutual
theorem RD.mono (s : Same I I') : ∀ {v : V} {d : D}, RD K cl I v d → RD K cl I' v d
  | _, _, .non => .non
  | _, _, .bl b => .bl b
  | _, _, .int i => .int i
  | _, _, .str x => .str x
  | _, _, .tup h r => .tup (same_t s h) (RDs.mono s r)
  | _, _, .lst h r => .lst (s _ _ h) (RDs.mono s r)
  | _, _, .scr h r => .scr (s.seq h) (RDs.mono s r)
  | _, _, .ob h r => .ob (s _ _ h) (RDf.mono s r)
theorem RDs.mono (s : Same I I') : ∀ {vs : List V} {ds : List D}, RDs K cl I vs ds → RDs K cl I' vs ds
  | _, _, .nil => .nil
  | _, _, .cons h r => .cons (RD.mono s h) (RDs.mono s r)
theorem RDf.mono (s : Same I I') : ∀ {vs : List (Str × V)} {ds : List (Str × D)}, RDf K cl I vs ds → RDf K cl I' vs ds
  | _, _, .nil => .nil
  | _, _, .cons h r => .cons (RD.mono s h) (RDf.mono s r)
end
theorem RDs.length : ∀ {vs : List V} {ds : List D}, RDs K cl I vs ds → vs.length = ds.length
  | _, _, .nil => rfl
  | _, _, .cons _ r => by simp [RDs.length r]
theorem RDs.append : ∀ {vs ws : List V} {ds es : List D}, RDs K cl I vs ds → RDs K cl I ws es → RDs K cl I (vs ++ ws) (ds ++ es)
  | _, _, _, _, .nil, q => q
  | _, _, _, _, .cons h r, q => .cons h (RDs.append r q)
theorem RDs.get : ∀ {vs : List V} {ds : List D} {i : Nat} {d : D}, RDs K cl I vs ds → ds[i]? = some d → ∃ v, vs[i]? = some v ∧ RD K cl I v d
  | _, _, _, _, .nil, e => by simp at e
  | _, _, 0, d, .cons h _, e => by simp at e; subst e; exact ⟨_, rfl, h⟩
  | _, _, i + 1, d, .cons _ r, e => by
    obtain ⟨v, h1, h2⟩ := RDs.get (i := i) (d := d) r (by simpa using e)
    exact ⟨v, by simpa using h1, h2⟩
theorem RDs.getV : ∀ {vs : List V} {ds : List D} {i : Nat} {v : V}, RDs K cl I vs ds → vs[i]? = some v → ∃ d, ds[i]? = some d ∧ RD K cl I v d
  | _, _, _, _, .nil, e => by simp at e
  | _, _, 0, d, .cons h _, e => by simp at e; subst e; exact ⟨_, rfl, h⟩
  | _, _, i + 1, d, .cons _ r, e => by
    obtain ⟨v, h1, h2⟩ := RDs.getV (i := i) (v := d) r (by simpa using e)
    exact ⟨v, by simpa using h1, h2⟩
theorem RDs.set {v : V} {d : D} (h : RD K cl I v d) : ∀ {vs : List V} {ds : List D} (i : Nat), RDs K cl I vs ds → RDs K cl I (vs.set i v) (ds.set i d)
  | _, _, _, .nil => .nil
  | _, _, 0, .cons _ r => .cons h r
  | _, _, i + 1, .cons q r => .cons q (RDs.set h i r)
theorem RDs.drop : ∀ {vs : List V} {ds : List D} (n : Nat), RDs K cl I vs ds → RDs K cl I (vs.drop n) (ds.drop n)
  | _, _, 0, r => r
  | _, _, _ + 1, .nil => .nil
  | _, _, n + 1, .cons _ r => RDs.drop n r
theorem RDs.take : ∀ {vs : List V} {ds : List D} (n : Nat), RDs K cl I vs ds → RDs K cl I (vs.take n) (ds.take n)
  | _, _, 0, _ => .nil
  | _, _, _ + 1, .nil => .nil
  | _, _, n + 1, .cons h r => .cons h (RDs.take n r)
theorem RDs.ints : ∀ {vs : List V} {ns : List Int}, RDs K cl I vs (ns.map D.int) → vs = ns.map V.int
  | _, [], .nil => rfl
  | _, n :: ns, .cons h r => by cases h; rw [RDs.ints r]; rfl
theorem RDs.of_ints : ∀ (ns : List Int), RDs K cl I (ns.map V.int) (ns.map D.int)
  | [] => .nil
  | n :: ns => .cons (.int n) (RDs.of_ints ns)
end

/-! ### the state -/
inductive Sl where
  | un | va (d : D) | ow (l : List D)
abbrev Env := List Sl
/-- a frame: the heap at its entry, the list (in slot 0) that it may change, what is never known for good -/
structure Fr where
  H0 : Hp
  io : Option Addr
  ni : Addr → Prop

structure Rst (K : PySem.W.Frag) (c : Cc) (f : Fr) (I H : Hp) (σ : L2.St) (env : Env) : Prop where
  sub : Same I H
  fr0 : ∀ a o, f.H0 a = some o → f.io ≠ some a → ¬ c.isT a → H a = some o
  t1 : ∀ P ∈ c.T1, GxR.TabG H P
  t2 : LamX.Tabs c.T2 H
  it : ∀ a, c.isT a → I a = none
  len : env.length ≤ σ.length
  va : ∀ (i : Nat) (d : D), env[i]? = some (.va d) → ∃ v, σ[i]? = some (some v) ∧ RD K c.cl I v d
  ow : ∀ (i : Nat) (l : List D), env[i]? = some (.ow l) → ∃ (p : Addr) (vs : List V), σ[i]? = some (some (.ref p)) ∧ H p = some (.lst vs) ∧ RDs K c.cl I vs l ∧ I p = none ∧ (f.H0 p = none ∨ f.io = some p)
  nd : ∀ (i j : Nat) (l l' : List D) (p : Addr), env[i]? = some (.ow l) → env[j]? = some (.ow l') → σ[i]? = some (some (.ref p)) → σ[j]? = some (some (.ref p)) → i = j
  io0 : ∀ p, f.io = some p → σ[0]? = some (some (.ref p)) ∧ ∃ l, env[0]? = some (.ow l)
  ni : ∀ a, f.ni a → I a = none ∧ (∃ o, f.H0 a = some o) ∧ f.io ≠ some a ∧ ¬ c.isT a

/-! ### results -/
inductive R (α : Type) where
  | ok (a : α) (env : Env) | bad (nm : Str) (env : Env) | stuck
def R.bind {α β : Type} (r : R α) (k : α → Env → R β) : R β := match r with
  | .ok a env => k a env
  | .bad nm env => .bad nm env
  | .stuck => .stuck
def R.of {α : Type} (o : Option α) (env : Env) : R α := match o with
  | some a => .ok a env
  | none => .stuck
abbrev ME := Env → R D

section
variable (K : PySem.W.Frag) (c : Cc) (f : Fr) (W : WX)
/-- what is wanted behind a result, by the values that stand for it -/
def PostR {α : Type} (σ : L2.St) (P : α → Env → Hp → Hp → Prop) (I : Hp) : R α → Prop
  | .ok a env => ∀ I' H', Same I I' → Rst K c f I' H' σ env → P a env I' H'
  | .bad nm env => ∀ I' H' dx, Same I I' → Rst K c f I' H' σ env → H' dx = some (.xd [(("name" : Str), .str nm)]) → W (.ref c.bad) (some dx) σ H'
  | .stuck => False
/-- .. of an expression -/
def PQ (Q : VK) : D → Env → Hp → Hp → Prop := fun d _ I' H' => ∀ v, RD K c.cl I' v d → Q v H'
def SimE (te : TE) (m : ME) : Prop := ∀ (I H : Hp) (σ : L2.St) (env : Env) (Q : VK), Rst K c f I H σ env → PostR K c f W σ (PQ K c Q) I (m env) → te σ H Q
end
section
variable {K : PySem.W.Frag} {c : Cc} {f : Fr} {W : WX}
theorem PostR.mono {α : Type} {σ : L2.St} {P : α → Env → Hp → Hp → Prop} {I I' : Hp} {r : R α} (s : Same I I') (h : PostR K c f W σ P I r) : PostR K c f W σ P I' r := by
  cases r with
  | ok a env => exact fun I2 H2 s2 q => h I2 H2 (s.trans s2) q
  | bad nm env => exact fun I2 H2 dx s2 q => h I2 H2 dx (s.trans s2) q
  | stuck => exact h
/-- one after another: behind the first, at its values, the second's wish -/
theorem PostR.bind {α β : Type} {σ : L2.St} {P : α → Env → Hp → Hp → Prop} {P2 : β → Env → Hp → Hp → Prop} {I : Hp} {r : R α} {k : α → Env → R β} (h : PostR K c f W σ P2 I (r.bind k))
    (hk : ∀ a env I' H', Same I I' → Rst K c f I' H' σ env → PostR K c f W σ P2 I' (k a env) → P a env I' H') : PostR K c f W σ P I r := by
  cases r with
  | ok a env => exact fun I' H' s q => hk a env I' H' s q (PostR.mono s h)
  | bad nm env => exact h
  | stuck => exact h
theorem SimE.bind {te : TE} {m : ME} {β : Type} {σ : L2.St} {P2 : β → Env → Hp → Hp → Prop} {I H : Hp} {env : Env} {k : D → Env → R β} {Q : VK} (s : SimE K c f W te m) (r : Rst K c f I H σ env)
    (h : PostR K c f W σ P2 I ((m env).bind k)) (hk : ∀ d env1 I1 H1 v, Same I I1 → Rst K c f I1 H1 σ env1 → RD K c.cl I1 v d → PostR K c f W σ P2 I1 (k d env1) → Q v H1) : te σ H Q :=
  s I H σ env Q r (h.bind fun d env1 I1 H1 s1 r1 q1 v rv => hk d env1 I1 H1 v s1 r1 rv q1)
/-- a pure end: nothing was changed -/
theorem PostR.now {σ : L2.St} {Q : VK} {I H : Hp} {d : D} {env : Env} {v : V} (h : PostR K c f W σ (PQ K c Q) I (.ok d env)) (r : Rst K c f I H σ env) (rv : RD K c.cl I v d) : Q v H :=
  h I H (Same.refl I) r v rv
end

/-! ### a new object -/
section
variable {K : PySem.W.Frag} {c : Cc} {f : Fr} {I H : Hp} {σ : L2.St} {env : Env} {p : Addr} {o : HO}
theorem tabs_new {T : List (Addr × Str)} (t : LamX.Tabs T H) (hp : H p = none) : LamX.Tabs T (upd H p o) := t.ext fun b u e => by rw [upd_ne (ne_of_none e hp)]; exact e
theorem tabg_new {P : Addr} (t : GxR.TabG H P) (hp : H p = none) : GxR.TabG (upd H p o) P := by
  obtain ⟨ps, h1, h2⟩ := t
  exact ⟨ps, by rw [upd_ne (ne_of_none h1 hp)]; exact h1, h2⟩
theorem Rst.tabNe (r : Rst K c f I H σ env) (hp : H p = none) : ¬ c.isT p := by
  rintro (h | ⟨q, h⟩)
  · obtain ⟨ps, h1, _⟩ := r.t1 p h
    rw [hp] at h1; cases h1
  · obtain ⟨ps, h1, _⟩ := r.t2 (p, q) h
    rw [hp] at h1; cases h1
theorem Rst.Inone (r : Rst K c f I H σ env) (hp : H p = none) : I p = none := r.sub.free hp
theorem same_new {H : Hp} (hp : H p = none) : Same H (upd H p o) := fun b u e => by rw [upd_ne (ne_of_none e hp)]; exact e
theorem same_upd {I H : Hp} (s : Same I H) : Same (upd I p o) (upd H p o) := fun b u e => by
  by_cases hb : b = p
  · subst hb; rw [upd_same] at e ⊢; exact e
  · rw [upd_ne hb] at e ⊢; exact s b u e
/-- a new object that is known for good -/
theorem Rst.niNe (r : Rst K c f I H σ env) (hp : H p = none) {a : Addr} (h : f.ni a) : a ≠ p := fun e => by
  obtain ⟨_, ⟨u, hu⟩, h3, h4⟩ := r.ni a h
  have := r.fr0 a u hu h3 h4
  rw [e, hp] at this; cases this
theorem Rst.new (r : Rst K c f I H σ env) (hp : H p = none) : Rst K c f (upd I p o) (upd H p o) σ env := by
  have hI := r.Inone hp
  have sI : Same I (upd I p o) := same_new hI
  refine ⟨same_upd r.sub, fun a u e n nt => ?_, fun P hP => tabg_new (r.t1 P hP) hp, tabs_new r.t2 hp, fun a ha => ?_, r.len, fun i d e => ?_, fun i l e => ?_, r.nd, r.io0, fun a ha => ⟨by rw [upd_ne (r.niNe hp ha)]; exact (r.ni a ha).1, (r.ni a ha).2⟩⟩
  · have h := r.fr0 a u e n nt
    rw [upd_ne (ne_of_none h hp)]; exact h
  · have : a ≠ p := fun e => r.tabNe hp (e ▸ ha)
    rw [upd_ne this]; exact r.it a ha
  · obtain ⟨v, h1, h2⟩ := r.va i d e
    exact ⟨v, h1, h2.mono sI⟩
  · obtain ⟨q, vs, h1, h2, h3, h4, h5⟩ := r.ow i l e
    have ne : q ≠ p := ne_of_none h2 hp
    exact ⟨q, vs, h1, by rw [upd_ne ne]; exact h2, h3.mono sI, by rw [upd_ne ne]; exact h4, h5⟩
/-- a new object that I does not know -/
theorem Rst.new0 (r : Rst K c f I H σ env) (hp : H p = none) : Rst K c f I (upd H p o) σ env := by
  refine ⟨r.sub.trans (same_new hp), fun a u e n nt => ?_, fun P hP => tabg_new (r.t1 P hP) hp, tabs_new r.t2 hp, r.it, r.len, r.va, fun i l e => ?_, r.nd, r.io0, r.ni⟩
  · have h := r.fr0 a u e n nt
    rw [upd_ne (ne_of_none h hp)]; exact h
  · obtain ⟨q, vs, h1, h2, h3, h4, h5⟩ := r.ow i l e
    have ne : q ≠ p := ne_of_none h2 hp
    exact ⟨q, vs, h1, by rw [upd_ne ne]; exact h2, h3, h4, h5⟩
end
/-- an expression's derivation with its mirror -/
def MEx (X : Cx) (c : Cc) (f : Fr) (W : WX) (e : Expr) (m : ME) : Prop := ∃ te, PE X e te ∧ SimE X.K c f W te m
end Y

set_option Elab.async false
set_option linter.all false
set_option maxRecDepth 100000
set_option maxHeartbeats 2000000
namespace Y
open PySem PySem.Spec PyProof.Rows L2

/-! ### leaves -/
def mVar (i : Nat) : ME := fun env => match env[i]? with
  | some (.va d) => .ok d env
  | _ => .stuck
/-- an owned list's name as a value: from now on it is not changed any more -/
def mVarZ (i : Nat) : ME := fun env => match env[i]? with
  | some (.va d) => .ok d env
  | some (.ow l) => .ok (.lst l) (env.set i (.va (.lst l)))
  | _ => .stuck
def mC (d : D) : ME := fun env => .ok d env

section
variable {K : PySem.W.Frag} {c : Cc} {f : Fr} {I H : Hp} {σ : L2.St} {env : Env}
theorem Rst.freeze (r : Rst K c f I H σ env) {i : Nat} {l : List D} (e : env[i]? = some (.ow l)) (hi : f.io = none ∨ i ≠ 0) :
    ∃ p I', σ[i]? = some (some (.ref p)) ∧ Same I I' ∧ RD K c.cl I' (.ref p) (.lst l) ∧ Rst K c f I' H σ (env.set i (.va (.lst l))) := by
  obtain ⟨p, vs, h1, h2, h3, h4, h5⟩ := r.ow i l e
  have sI : Same I (upd I p (.lst vs)) := same_new h4
  have rd : RD K c.cl (upd I p (.lst vs)) (.ref p) (.lst l) := .lst upd_same (h3.mono sI)
  refine ⟨p, upd I p (.lst vs), h1, sI, rd, ⟨fun b u q => ?_, r.fr0, r.t1, r.t2, fun a ha => ?_, by rw [List.length_set]; exact r.len, fun j d q => ?_, fun j l' q => ?_, fun j k l' l'' q a b h h' => ?_, fun q hq => ?_, fun a ha => ?_⟩⟩
  · by_cases hb : b = p
    · subst hb; rw [upd_same] at q; cases q; exact h2
    · rw [upd_ne hb] at q; exact r.sub b u q
  · have : a ≠ p := fun z => by
      subst z
      rcases ha with ha | ⟨q, ha⟩
      · obtain ⟨ps, h, _⟩ := r.t1 _ ha; rw [h2] at h; cases h
      · obtain ⟨ps, h, _⟩ := r.t2 _ ha; rw [h2] at h; cases h
    rw [upd_ne this]; exact r.it a ha
  · by_cases hj : i = j
    · subst hj
      rw [List.getElem?_set_self (List.getElem?_eq_some_iff.mp e).1] at q
      cases q
      exact ⟨_, h1, rd⟩
    · rw [List.getElem?_set_ne hj] at q
      obtain ⟨v, a, b⟩ := r.va j d q
      exact ⟨v, a, b.mono sI⟩
  · by_cases hj : i = j
    · subst hj
      rw [List.getElem?_set_self (List.getElem?_eq_some_iff.mp e).1] at q
      cases q
    · rw [List.getElem?_set_ne hj] at q
      obtain ⟨p', vs', a1, a2, a3, a4, a5⟩ := r.ow j l' q
      have ne : p' ≠ p := fun z => hj (r.nd i j l l' p e q h1 (z ▸ a1))
      exact ⟨p', vs', a1, a2, a3.mono sI, by rw [upd_ne ne]; exact a4, a5⟩
  · have hj : i ≠ j := fun z => by
      subst z; rw [List.getElem?_set_self (List.getElem?_eq_some_iff.mp e).1] at a; cases a
    have hk : i ≠ k := fun z => by
      subst z; rw [List.getElem?_set_self (List.getElem?_eq_some_iff.mp e).1] at b; cases b
    rw [List.getElem?_set_ne hj] at a
    rw [List.getElem?_set_ne hk] at b
    exact r.nd j k l' l'' q a b h h'
  · have hi0 : i ≠ 0 := by
      rcases hi with z | z
      · rw [z] at hq; cases hq
      · exact z
    obtain ⟨a, l0, b⟩ := r.io0 q hq
    exact ⟨a, l0, by rw [List.getElem?_set_ne hi0]; exact b⟩
  · obtain ⟨n1, ⟨u, n2⟩, n3, n4⟩ := r.ni a ha
    have ne : a ≠ p := fun z => by
      rcases h5 with h5 | h5
      · rw [z, h5] at n2; cases n2
      · exact n3 (z ▸ h5)
    exact ⟨by rw [upd_ne ne]; exact n1, ⟨u, n2⟩, n3, n4⟩
end
section
variable {X : Cx} {c : Cc} {f : Fr} {W : WX} {pos : Pos}
theorem me_var (i : Nat) {x : Str} (hN : X.N[i]? = some x := by rfl) (hv : Vis X.env.scope x := by first | exact Or.inl rfl | exact Or.inr (Or.inl rfl) | exact Or.inr (Or.inr rfl)) (hd : (x == ("__debug__" : Str)) = false := by decide)
    (hcd : (x == ("__classdict__" : Str)) = false := by decide) : MEx X c f W (.Name x pos) (mVar i) := by
  refine ⟨tVar i, pe_var hN hv hd hcd, fun I H σ env Q r h => ?_⟩
  unfold mVar at h
  split at h
  · rename_i d e
    obtain ⟨v, hv, rv⟩ := r.va i d e
    exact ⟨v, hv, h.now r rv⟩
  · exact h.elim
theorem me_varZ (i : Nat) {x : Str} (hi : f.io = none ∨ i ≠ 0 := by first | exact .inl rfl | exact .inr (by decide)) (hN : X.N[i]? = some x := by rfl) (hv : Vis X.env.scope x := by first | exact Or.inl rfl | exact Or.inr (Or.inl rfl) | exact Or.inr (Or.inr rfl)) (hd : (x == ("__debug__" : Str)) = false := by decide)
    (hcd : (x == ("__classdict__" : Str)) = false := by decide) : MEx X c f W (.Name x pos) (mVarZ i) := by
  refine ⟨tVar i, pe_var hN hv hd hcd, fun I H σ env Q r h => ?_⟩
  unfold mVarZ at h
  split at h
  · rename_i d e
    obtain ⟨v, hv, rv⟩ := r.va i d e
    exact ⟨v, hv, h.now r rv⟩
  · rename_i l e
    obtain ⟨p, I', h1, s, rd, r'⟩ := r.freeze e hi
    exact ⟨_, h1, h I' H s r' _ rd⟩
  · exact h.elim
theorem sim_c {v : V} {d : D} {K : PySem.W.Frag} (hd : ∀ I, RD K c.cl I v d) : SimE K c f W (tC v) (mC d) := fun I H σ env Q r h => h.now r (hd I)
theorem me_int {i j} : MEx X c f W (.Constant (.int i) j pos) (mC (.int i)) := ⟨_, pe_int, sim_c fun _ => .int i⟩
theorem me_bl {b j} : MEx X c f W (.Constant (.bool b) j pos) (mC (.bl b)) := ⟨_, pe_bl, sim_c fun _ => .bl b⟩
theorem me_non {j} : MEx X c f W (.Constant .none j pos) (mC .non) := ⟨_, pe_non, sim_c fun _ => .non⟩
theorem me_str {x j} : MEx X c f W (.Constant (.str x) j pos) (mC (.str x)) := ⟨_, pe_str, sim_c fun _ => .str x⟩
/-- a module's int, a module's text -/
theorem me_gint {x : Str} {i : Int} (hm : ∃ t, X.mg x = some (.int i t)) (hg : Gl X x := by rfl) (hd : (x == ("__debug__" : Str)) = false := by decide) : MEx X c f W (.Name x pos) (mC (.int i)) := by
  obtain ⟨t, hm⟩ := hm
  exact ⟨_, pe_glob hg hm (v := .int i) ⟨t, rfl⟩ hd, sim_c fun _ => .int i⟩
theorem me_gstr {x z : Str} (hm : ∃ t, X.mg x = some (.str z t)) (hg : Gl X x := by rfl) (hd : (x == ("__debug__" : Str)) = false := by decide) : MEx X c f W (.Name x pos) (mC (.str z)) := by
  obtain ⟨t, hm⟩ := hm
  exact ⟨_, pe_glob hg hm (v := .str z) ⟨t, rfl⟩ hd, sim_c fun _ => .str z⟩
end

/-! ### operators of two values -/
def mBin (g : D → D → Option D) (a b : ME) : ME := fun env => (a env).bind fun x e1 => (b e1).bind fun y e2 => R.of (g x y) e2
def OpS (K : PySem.W.Frag) (c : Cc) (r : R2) (g : D → D → Option D) : Prop :=
  ∀ {f : Fr} {W : WX} {I H : Hp} {σ : L2.St} {env : Env} {Q : VK} {x y : V} {d e : D}, Rst K c f I H σ env → RD K c.cl I x d → RD K c.cl I y e → PostR K c f W σ (PQ K c Q) I (R.of (g d e) env) → r x y H Q
/-- a comparison, for its value and for a test -/
def MCx (X : Cx) (c : Cc) (f : Fr) (W : WX) (op : CmpOp) (a b : Expr) (m : ME) : Prop := ∃ r ta tb, PE X a ta ∧ PE X b tb ∧ OpR X (compareOp op) r ∧ behindInMarks op b = false ∧ SimE X.K c f W (tOp r ta tb) m
section
variable {X : Cx} {c : Cc} {f : Fr} {W : WX} {pos : Pos} {a b : Expr} {ma mb : ME} {r : R2} {g : D → D → Option D}
theorem sim_op {K : PySem.W.Frag} {ta tb : TE} (hs : OpS K c r g) (ha : SimE K c f W ta ma) (hb : SimE K c f W tb mb) : SimE K c f W (tOp r ta tb) (mBin g ma mb) := by
  intro I H σ env Q q h
  refine ha.bind q h fun d env1 I1 H1 v s1 r1 rv h1 => ?_
  refine hb.bind r1 h1 fun e env2 I2 H2 u s2 r2 ru h2 => ?_
  exact hs r2 (rv.mono s2) ru h2
theorem me_bin {op : Operator} (ho : OpR X (binaryOp op) r) (hs : OpS X.K c r g) (ha : MEx X c f W a ma) (hb : MEx X c f W b mb) : MEx X c f W (.BinOp a op b pos) (mBin g ma mb) := by
  obtain ⟨ta, pa, sa⟩ := ha
  obtain ⟨tb, pb, sb⟩ := hb
  exact ⟨_, pe_op ho pa pb, sim_op hs sa sb⟩
theorem mc_of {op : CmpOp} (ho : OpR X (compareOp op) r) (hs : OpS X.K c r g) (ha : MEx X c f W a ma) (hb : MEx X c f W b mb) (hm : behindInMarks op b = false := by first | exact nobehind _ (by decide) (by decide) | rfl) : MCx X c f W op a b (mBin g ma mb) := by
  obtain ⟨ta, pa, sa⟩ := ha
  obtain ⟨tb, pb, sb⟩ := hb
  exact ⟨r, ta, tb, pa, pb, ho, hm, sim_op hs sa sb⟩
theorem me_c {op : CmpOp} {m : ME} (h : MCx X c f W op a b m) : MEx X c f W (.Compare a [op] [b] pos) m := by
  obtain ⟨r, ta, tb, pa, pb, ho, hm, s⟩ := h
  exact ⟨_, pe_cmpR ho pa pb hm, s⟩
end
/-- two ints -/
def gI (C : Int → Int → Bool) (h : Int → Int → D) : D → D → Option D
  | .int i, .int j => if C i j then some (h i j) else none
  | _, _ => none
section
variable {K : PySem.W.Frag} {c : Cc}
theorem ops_I {C : Int → Int → Prop} {Cb : Int → Int → Bool} {g : Int → Int → V} {h : Int → Int → D} (hC : ∀ i j, Cb i j = true → C i j) (hg : ∀ i j I, RD K c.cl I (g i j) (h i j)) : OpS K c (rI C g) (gI Cb h) := by
  intro f W I H σ env Q x y d e r rx ry hq
  cases rx <;> cases ry <;> first | exact hq.elim | skip
  rename_i i j
  unfold gI at hq
  by_cases hc : Cb i j = true
  · simp only [hc, if_true] at hq
    exact ⟨i, j, rfl, rfl, hC i j hc, PostR.now hq r (hg i j I)⟩
  · simp only [hc] at hq
    exact hq.elim
theorem ops_I0 {g : Int → Int → V} {h : Int → Int → D} (hg : ∀ i j I, RD K c.cl I (g i j) (h i j)) : OpS K c (rI0 g) (gI (fun _ _ => true) h) := by
  intro f W I H σ env Q x y d e r rx ry hq
  cases rx <;> cases ry <;> first | exact hq.elim | skip
  rename_i i j
  exact ⟨i, j, rfl, rfl, PostR.now hq r (hg i j I)⟩
end
abbrev gII (h : Int → Int → Int) : D → D → Option D := gI (fun _ _ => true) fun i j => .int (h i j)
abbrev gIB (h : Int → Int → Bool) : D → D → Option D := gI (fun _ _ => true) fun i j => .bl (h i j)
def okMul (i j : Int) : Bool := decide (i.natAbs.log2 + j.natAbs.log2 < 1000000)
def okDiv (_ j : Int) : Bool := decide (j ≠ 0) && decide (j.natAbs.log2 < 9000)
abbrev gMulI : D → D → Option D := gI okMul fun i j => .int (i * j)
abbrev gDiv : D → D → Option D := gI okDiv fun i j => .int (i.fdiv j)
abbrev gMod : D → D → Option D := gI (fun _ j => decide (j ≠ 0)) fun i j => .int (i.fmod j)
abbrev gPow : D → D → Option D := gI (fun i j => decide (0 ≤ j) && (decide (j ≤ 1000000) && decide (i.natAbs < 2 ^ 64))) fun i j => .int (i ^ j.toNat)
section
variable {X : Cx}
theorem op_fdivY : OpR X (binaryOp .FloorDiv) (rI (fun _ j => j ≠ 0 ∧ j.natAbs.log2 < 9000) fun i j => .int (i.fdiv j)) := opI fun i j _ _ _ _ _ hc q => floordiv_int hc.1 q (.inl (PyProof.noPylong_of_log2 hc.2))
variable {c : Cc} {f : Fr} {W : WX} {pos : Pos} {a b : Expr} {ma mb : ME}
theorem me_sub (ha : MEx X c f W a ma) (hb : MEx X c f W b mb) : MEx X c f W (.BinOp a .Sub b pos) (mBin (gII fun i j => i - j) ma mb) := me_bin op_sub (ops_I0 fun _ _ _ => .int _) ha hb
theorem me_addI (ha : MEx X c f W a ma) (hb : MEx X c f W b mb) : MEx X c f W (.BinOp a .Add b pos) (mBin (gII fun i j => i + j) ma mb) := me_bin op_add (ops_I0 fun _ _ _ => .int _) ha hb
theorem me_mulI (ha : MEx X c f W a ma) (hb : MEx X c f W b mb) : MEx X c f W (.BinOp a .Mult b pos) (mBin gMulI ma mb) := me_bin op_mulW (ops_I (fun _ _ h => of_decide_eq_true h) fun _ _ _ => .int _) ha hb
theorem me_fdiv (ha : MEx X c f W a ma) (hb : MEx X c f W b mb) : MEx X c f W (.BinOp a .FloorDiv b pos) (mBin gDiv ma mb) :=
  me_bin op_fdivY (ops_I (fun _ _ h => ⟨of_decide_eq_true (Bool.and_eq_true_iff.mp h).1, of_decide_eq_true (Bool.and_eq_true_iff.mp h).2⟩) fun _ _ _ => .int _) ha hb
theorem me_mod (ha : MEx X c f W a ma) (hb : MEx X c f W b mb) : MEx X c f W (.BinOp a .Mod b pos) (mBin gMod ma mb) := me_bin op_modN (ops_I (fun _ _ h => of_decide_eq_true h) fun _ _ _ => .int _) ha hb
theorem me_pow (ha : MEx X c f W a ma) (hb : MEx X c f W b mb) : MEx X c f W (.BinOp a .Pow b pos) (mBin gPow ma mb) :=
  me_bin op_pow (ops_I (fun _ _ h => ⟨of_decide_eq_true (Bool.and_eq_true_iff.mp h).1, of_decide_eq_true (Bool.and_eq_true_iff.mp (Bool.and_eq_true_iff.mp h).2).1, of_decide_eq_true (Bool.and_eq_true_iff.mp (Bool.and_eq_true_iff.mp h).2).2⟩) fun _ _ _ => .int _) ha hb
theorem mc_lt (ha : MEx X c f W a ma) (hb : MEx X c f W b mb) : MCx X c f W .Lt a b (mBin (gIB fun i j => decide (i < j)) ma mb) := mc_of op_lt (ops_I0 fun _ _ _ => .bl _) ha hb
theorem mc_le (ha : MEx X c f W a ma) (hb : MEx X c f W b mb) : MCx X c f W .LtE a b (mBin (gIB fun i j => decide (i ≤ j)) ma mb) := mc_of op_le (ops_I0 fun _ _ _ => .bl _) ha hb
theorem mc_gt (ha : MEx X c f W a ma) (hb : MEx X c f W b mb) : MCx X c f W .Gt a b (mBin (gIB fun i j => decide (j < i)) ma mb) := mc_of op_gt (ops_I0 fun _ _ _ => .bl _) ha hb
theorem mc_ge (ha : MEx X c f W a ma) (hb : MEx X c f W b mb) : MCx X c f W .GtE a b (mBin (gIB fun i j => decide (j ≤ i)) ma mb) := mc_of op_ge (ops_I0 fun _ _ _ => .bl _) ha hb
end

/-! ### == and != of data -/
mutual
def D.py : D → Option PyData
  | .non => some .none
  | .bl b => some (.bool b)
  | .int i => some (.int i)
  | .str s => some (.str s)
  | .tup l => (D.pys l).map .tuple
  | .lst l => (D.pys l).map .list
  | .scr _ => none
  | .ob _ _ => none
def D.pys : List D → Option (List PyData)
  | [] => some []
  | d :: ds => match D.py d, D.pys ds with
    | some p, some ps => some (p :: ps)
    | _, _ => none
end
mutual
theorem RD.dp {K : PySem.W.Frag} {cl : Nat → Addr} {I H : Hp} (s : Same I H) : ∀ {v : V} {d : D} {p : PyData}, RD K cl I v d → d.py = some p → Dp K H v p
  | _, _, _, .non, e => by simp only [D.py, Option.some.injEq] at e; subst e; exact .non
  | _, _, _, .bl b, e => by simp only [D.py, Option.some.injEq] at e; subst e; exact .bl b
  | _, _, _, .int b, e => by simp only [D.py, Option.some.injEq] at e; subst e; exact .int b
  | _, _, _, .str b, e => by simp only [D.py, Option.some.injEq] at e; subst e; exact .str b
  | _, _, _, .tup h r, e => by
    simp only [D.py, Option.map_eq_some_iff] at e
    obtain ⟨ps, e1, rfl⟩ := e
    exact .tup (same_t s h) (RDs.dp s r e1)
  | _, _, _, .lst h r, e => by
    simp only [D.py, Option.map_eq_some_iff] at e
    obtain ⟨ps, e1, rfl⟩ := e
    exact .lst (.inl (.inl (s _ _ h))) (RDs.dp s r e1)
  | _, _, _, .scr h r, e => by simp [D.py] at e
  | _, _, _, .ob h r, e => by simp [D.py] at e
theorem RDs.dp {K : PySem.W.Frag} {cl : Nat → Addr} {I H : Hp} (s : Same I H) : ∀ {vs : List V} {ds : List D} {ps : List PyData}, RDs K cl I vs ds → D.pys ds = some ps → DpAll K H vs ps
  | _, _, _, .nil, e => by simp only [D.pys, Option.some.injEq] at e; subst e; exact .nil
  | _, _, _, .cons (d := d) (ds := ds) h r, e => by
    unfold D.pys at e
    cases e1 : d.py with
    | none => simp [e1] at e
    | some p =>
      cases e2 : D.pys ds with
      | none => simp [e1, e2] at e
      | some ps =>
        simp only [e1, e2, Option.some.injEq] at e
        subst e
        exact .cons (RD.dp s h e1) (RDs.dp s r e2)
end
def gEqB (n : Bool) (d e : D) : Option D := match d.py, e.py with
  | some p, some q => if SeqAt.shaped p && SeqAt.shaped q then some (.bl (if n then !PyData.eqv p q else PyData.eqv p q)) else none
  | _, _ => none
section
variable {X : Cx} {c : Cc}
theorem eqB_of {d e : D} {n : Bool} {z : D} (h : gEqB n d e = some z) : ∃ p q, d.py = some p ∧ e.py = some q ∧ SeqAt.shaped p = true ∧ SeqAt.shaped q = true ∧ z = .bl (if n then !PyData.eqv p q else PyData.eqv p q) := by
  unfold gEqB at h
  cases e1 : d.py with
  | none => simp [e1] at h
  | some p =>
    cases e2 : e.py with
    | none => simp [e1, e2] at h
    | some q =>
      simp only [e1, e2] at h
      by_cases hs : (SeqAt.shaped p && SeqAt.shaped q) = true
      · rw [if_pos hs] at h
        exact ⟨p, q, rfl, rfl, (Bool.and_eq_true_iff.mp hs).1, (Bool.and_eq_true_iff.mp hs).2, (Option.some.inj h).symm⟩
      · rw [if_neg hs] at h; cases h
theorem ops_eq : OpS X.K c (rEqD X.K) (gEqB false) := by
  intro f W I H σ env Q x y d e r rx ry hq
  cases hz : gEqB false d e with
  | none => rw [hz] at hq; exact hq.elim
  | some z =>
    obtain ⟨p, q, e1, e2, s1, s2, rfl⟩ := eqB_of hz
    rw [hz] at hq
    exact ⟨p, q, rx.dp r.sub e1, ry.dp r.sub e2, s1, s2, PostR.now hq r (.bl _)⟩
theorem ops_ne : OpS X.K c (rNeD X.K) (gEqB true) := by
  intro f W I H σ env Q x y d e r rx ry hq
  cases hz : gEqB true d e with
  | none => rw [hz] at hq; exact hq.elim
  | some z =>
    obtain ⟨p, q, e1, e2, s1, s2, rfl⟩ := eqB_of hz
    rw [hz] at hq
    exact ⟨p, q, rx.dp r.sub e1, ry.dp r.sub e2, s1, s2, PostR.now hq r (.bl _)⟩
variable {f : Fr} {W : WX} {pos : Pos} {a b : Expr} {ma mb : ME} {k : Nat}
theorem mc_eq (hr : Room k X.A) (ha : MEx X c f W a ma) (hb : MEx X c f W b mb) : MCx X c f W .Eq a b (mBin (gEqB false) ma mb) := mc_of (op_eqD hr.units) ops_eq ha hb
theorem mc_ne (hr : Room k X.A) (ha : MEx X c f W a ma) (hb : MEx X c f W b mb) : MCx X c f W .NotEq a b (mBin (gEqB true) ma mb) := mc_of (op_neD hr.units) ops_ne ha hb
/-- is None, is not None -/
def gIsN (d e : D) : Option D := match e with
  | .non => (match d with
    | .non => some (.bl true)
    | _ => some (.bl false))
  | _ => none
def gNotN (d e : D) : Option D := match e with
  | .non => (match d with
    | .non => some (.bl false)
    | _ => some (.bl true))
  | _ => none
theorem ops_isN : OpS X.K c (fun x y H Q => y = .non ∧ Q (.bl (decide (x = .non))) H) gIsN := by
  intro f W I H σ env Q x y d e r rx ry hq
  cases ry <;> first | exact hq.elim | skip
  refine ⟨rfl, ?_⟩
  cases rx <;> exact PostR.now hq r (.bl _)
theorem ops_notN : OpS X.K c (fun x y H Q => y = .non ∧ Q (.bl (!decide (x = .non))) H) gNotN := by
  intro f W I H σ env Q x y d e r rx ry hq
  cases ry <;> first | exact hq.elim | skip
  refine ⟨rfl, ?_⟩
  cases rx <;> exact PostR.now hq r (.bl _)
theorem mc_isN (ha : MEx X c f W a ma) (hb : MEx X c f W b mb) : MCx X c f W .Is a b (mBin gIsN ma mb) := mc_of op_isN ops_isN ha hb
theorem mc_notN (ha : MEx X c f W a ma) (hb : MEx X c f W b mb) : MCx X c f W .IsNot a b (mBin gNotN ma mb) := mc_of op_notN ops_notN ha hb
end
end Y

set_option Elab.async false
set_option linter.all false
set_option maxRecDepth 100000
set_option maxHeartbeats 2000000
namespace Y
open PySem PySem.Spec PyProof.Rows L2
abbrev big : Nat := 1000000
theorem big_le {n : Nat} (h : n ≤ big) : n ≤ sizeLine := Nat.le_trans h (by decide)

/-! ### tests -/
abbrev MT := Env → R Bool
def PT2 (Q : Bool → Hp → Prop) : Bool → Env → Hp → Hp → Prop := fun b _ _ H' => Q b H'
def SimT (K : PySem.W.Frag) (c : Cc) (f : Fr) (W : WX) (tt : TT) (m : MT) : Prop := ∀ (I H : Hp) (σ : L2.St) (env : Env) (Q : Bool → Hp → Prop), Rst K c f I H σ env → PostR K c f W σ (PT2 Q) I (m env) → tt σ H Q
def MTx (X : Cx) (c : Cc) (f : Fr) (W : WX) (e : Expr) (m : MT) : Prop := ∃ tt, PT X e tt ∧ SimT X.K c f W tt m
def MWx (X : Cx) (c : Cc) (f : Fr) (W : WX) (e : Expr) (m : MT) : Prop := ∃ tt, PW X e tt ∧ SimT X.K c f W tt m
def asB (d : D) (env : Env) : R Bool := match d with
  | .bl b => .ok b env
  | _ => .stuck
def mT (m : ME) : MT := fun env => (m env).bind asB
def mTAnd (a b : MT) : MT := fun env => (a env).bind fun x e => if x then b e else .ok false e
def mTOr (a b : MT) : MT := fun env => (a env).bind fun x e => if x then .ok true e else b e
def mTNot (a : MT) : MT := fun env => (a env).bind fun x e => .ok (!x) e
section
variable {K : PySem.W.Frag} {c : Cc} {f : Fr} {W : WX}
theorem SimT.bind {tt : TT} {m : MT} {β : Type} {σ : L2.St} {P2 : β → Env → Hp → Hp → Prop} {I H : Hp} {env : Env} {k : Bool → Env → R β} {Q : Bool → Hp → Prop} (s : SimT K c f W tt m) (r : Rst K c f I H σ env)
    (h : PostR K c f W σ P2 I ((m env).bind k)) (hk : ∀ b env1 I1 H1, Same I I1 → Rst K c f I1 H1 σ env1 → PostR K c f W σ P2 I1 (k b env1) → Q b H1) : tt σ H Q :=
  s I H σ env Q r (h.bind fun d env1 I1 H1 s1 r1 q1 => hk d env1 I1 H1 s1 r1 q1)
theorem PostR.nowT {σ : L2.St} {Q : Bool → Hp → Prop} {I H : Hp} {d : Bool} {env : Env} (h : PostR K c f W σ (PT2 Q) I (.ok d env)) (r : Rst K c f I H σ env) : Q d H := h I H (Same.refl I) r
theorem sim_tB {te : TE} {m : ME} (s : SimE K c f W te m) : SimT K c f W (tB te) (mT m) := by
  intro I H σ env Q r h
  refine s.bind r h fun d env1 I1 H1 v s1 r1 rv h1 => ?_
  cases rv <;> first | exact h1.elim | skip
  exact ⟨_, rfl, PostR.nowT h1 r1⟩
end
section
variable {X : Cx} {c : Cc} {f : Fr} {W : WX} {pos : Pos} {a b : Expr} {rest : List Expr} {ma mb : ME} {ta tb : MT}
theorem mt_val {e : Expr} {m : ME} (h : MEx X c f W e m) (he : ∀ whole, isTrue e X.env whole = (do let v ← whole; standAt e.pos; holding [v] (truthy v)) := by intro _; rfl) : MTx X c f W e (mT m) := by
  obtain ⟨te, pe, se⟩ := h
  exact ⟨_, pt_val pe he, sim_tB se⟩
/-- a comparison as a test -/
theorem mt_c {op : CmpOp} {m : ME} (h : MCx X c f W op a b m) : MTx X c f W (.Compare a [op] [b] pos) (mT m) := by
  obtain ⟨r, ta, tb, pa, pb, ho, hm, s⟩ := h
  exact ⟨_, pt_cmpR ho pa pb hm, sim_tB s⟩
theorem mw_and1 (h : MTx X c f W a ta) : MWx X c f W (.BoolOp .And [a] pos) ta := by
  obtain ⟨t, p, s⟩ := h
  exact ⟨_, pw_and1 p, s⟩
theorem mw_or1 (h : MTx X c f W a ta) : MWx X c f W (.BoolOp .Or [a] pos) ta := by
  obtain ⟨t, p, s⟩ := h
  exact ⟨_, pw_or1 p, s⟩
theorem mw_and (h : MTx X c f W a ta) (h2 : MWx X c f W (.BoolOp .And (b :: rest) pos) tb) : MWx X c f W (.BoolOp .And (a :: b :: rest) pos) (mTAnd ta tb) := by
  obtain ⟨t, p, s⟩ := h
  obtain ⟨u, q, s'⟩ := h2
  refine ⟨_, pw_and p q, fun I H σ env Q r h => ?_⟩
  refine s.bind r h fun x env1 I1 H1 s1 r1 h1 => ?_
  cases x with
  | true => exact s' I1 H1 σ env1 Q r1 h1
  | false => exact PostR.nowT h1 r1
theorem mw_or (h : MTx X c f W a ta) (h2 : MWx X c f W (.BoolOp .Or (b :: rest) pos) tb) : MWx X c f W (.BoolOp .Or (a :: b :: rest) pos) (mTOr ta tb) := by
  obtain ⟨t, p, s⟩ := h
  obtain ⟨u, q, s'⟩ := h2
  refine ⟨_, pw_or p q, fun I H σ env Q r h => ?_⟩
  refine s.bind r h fun x env1 I1 H1 s1 r1 h1 => ?_
  cases x with
  | false => exact s' I1 H1 σ env1 Q r1 h1
  | true => exact PostR.nowT h1 r1
theorem mt_w {e : Expr} {t : MT} (h : MWx X c f W e t) : MTx X c f W e t := by
  obtain ⟨t, p, s⟩ := h
  exact ⟨_, p.pt, s⟩
theorem mt_not (h : MTx X c f W a ta) : MTx X c f W (.UnaryOp .Not a pos) (mTNot ta) := by
  obtain ⟨t, p, s⟩ := h
  refine ⟨_, pt_not p, fun I H σ env Q r h => ?_⟩
  exact s.bind r h fun x env1 I1 H1 s1 r1 h1 => PostR.nowT h1 r1
/-! ### and, or, not as values -/
def mAnd (a b : ME) : ME := fun env => (a env).bind fun x e => (asB x e).bind fun x e => if x then b e else .ok (.bl false) e
def mOr (a b : ME) : ME := fun env => (a env).bind fun x e => (asB x e).bind fun x e => if x then .ok (.bl true) e else b e
def mNot (a : ME) : ME := fun env => (a env).bind fun x e => (asB x e).bind fun x e => .ok (.bl (!x)) e
def mIf (t : MT) (a b : ME) : ME := fun env => (t env).bind fun x e => if x then a e else b e
theorem me_one {op : BoolOp} {m : ME} (h : MEx X c f W a m) : MEx X c f W (.BoolOp op [a] pos) m := by
  obtain ⟨t, p, s⟩ := h
  exact ⟨_, pe_one p, s⟩
theorem me_and (h : MEx X c f W a ma) (h2 : MEx X c f W (.BoolOp .And (b :: rest) pos) mb) : MEx X c f W (.BoolOp .And (a :: b :: rest) pos) (mAnd ma mb) := by
  obtain ⟨t, p, s⟩ := h
  obtain ⟨u, q, s'⟩ := h2
  refine ⟨_, pe_and p q, fun I H σ env Q r h => ?_⟩
  refine s.bind r h fun x env1 I1 H1 v s1 r1 rv h1 => ?_
  cases rv <;> first | exact h1.elim | skip
  rename_i x
  refine ⟨x, rfl, ?_⟩
  cases x with
  | true => exact s' I1 H1 σ env1 Q r1 h1
  | false => exact PostR.now h1 r1 (.bl _)
theorem me_or (h : MEx X c f W a ma) (h2 : MEx X c f W (.BoolOp .Or (b :: rest) pos) mb) : MEx X c f W (.BoolOp .Or (a :: b :: rest) pos) (mOr ma mb) := by
  obtain ⟨t, p, s⟩ := h
  obtain ⟨u, q, s'⟩ := h2
  refine ⟨_, pe_or p q, fun I H σ env Q r h => ?_⟩
  refine s.bind r h fun x env1 I1 H1 v s1 r1 rv h1 => ?_
  cases rv <;> first | exact h1.elim | skip
  rename_i x
  refine ⟨x, rfl, ?_⟩
  cases x with
  | false => exact s' I1 H1 σ env1 Q r1 h1
  | true => exact PostR.now h1 r1 (.bl _)
theorem me_not (h : MEx X c f W a ma) : MEx X c f W (.UnaryOp .Not a pos) (mNot ma) := by
  obtain ⟨t, p, s⟩ := h
  refine ⟨_, pe_not p, fun I H σ env Q r h => ?_⟩
  refine s.bind r h fun x env1 I1 H1 v s1 r1 rv h1 => ?_
  cases rv <;> first | exact h1.elim | skip
  exact ⟨_, rfl, PostR.now h1 r1 (.bl _)⟩
theorem me_if {t : Expr} (ht : MTx X c f W t ta) (h : MEx X c f W a ma) (h2 : MEx X c f W b mb) : MEx X c f W (.IfExp t a b pos) (mIf ta ma mb) := by
  obtain ⟨tt, pt, st⟩ := ht
  obtain ⟨t, p, s⟩ := h
  obtain ⟨u, q, s'⟩ := h2
  refine ⟨_, pe_ifExp pt p q, fun I H σ env Q r h => ?_⟩
  refine st.bind r h fun x env1 I1 H1 s1 r1 h1 => ?_
  cases x with
  | true => exact s I1 H1 σ env1 Q r1 h1
  | false => exact s' I1 H1 σ env1 Q r1 h1
end

/-! ### argument lists, displays -/
abbrev MA := Env → R (List D)
def PA2 (K : PySem.W.Frag) (c : Cc) (Q : List V → Hp → Prop) : List D → Env → Hp → Hp → Prop := fun ds _ I' H' => ∀ vs, RDs K c.cl I' vs ds → Q vs H'
def SimA (K : PySem.W.Frag) (c : Cc) (f : Fr) (W : WX) (ta : TA) (m : MA) : Prop := ∀ (I H : Hp) (σ : L2.St) (env : Env) (Q : List V → Hp → Prop), Rst K c f I H σ env → PostR K c f W σ (PA2 K c Q) I (m env) → ta σ H Q
def MAx (X : Cx) (c : Cc) (f : Fr) (W : WX) (es : List Expr) (m : MA) : Prop := ∃ ta, PA X es ta ∧ SimA X.K c f W ta m
def aNil : MA := fun env => .ok [] env
def aCons (a : ME) (r : MA) : MA := fun env => (a env).bind fun x e => (r e).bind fun xs e => .ok (x :: xs) e
section
variable {K : PySem.W.Frag} {c : Cc} {f : Fr} {W : WX}
theorem SimA.bind {ta : TA} {m : MA} {β : Type} {σ : L2.St} {P2 : β → Env → Hp → Hp → Prop} {I H : Hp} {env : Env} {k : List D → Env → R β} {Q : List V → Hp → Prop} (s : SimA K c f W ta m) (r : Rst K c f I H σ env)
    (h : PostR K c f W σ P2 I ((m env).bind k)) (hk : ∀ ds env1 I1 H1 vs, Same I I1 → Rst K c f I1 H1 σ env1 → RDs K c.cl I1 vs ds → PostR K c f W σ P2 I1 (k ds env1) → Q vs H1) : ta σ H Q :=
  s I H σ env Q r (h.bind fun d env1 I1 H1 s1 r1 q1 v rv => hk d env1 I1 H1 v s1 r1 rv q1)
theorem PostR.nowA {σ : L2.St} {Q : List V → Hp → Prop} {I H : Hp} {ds : List D} {env : Env} {vs : List V} (h : PostR K c f W σ (PA2 K c Q) I (.ok ds env)) (r : Rst K c f I H σ env) (rv : RDs K c.cl I vs ds) : Q vs H :=
  h I H (Same.refl I) r vs rv
end
section
variable {X : Cx} {c : Cc} {f : Fr} {W : WX} {pos : Pos} {e : Expr} {es : List Expr} {m : ME} {ma : MA}
theorem ma_nil : MAx X c f W [] aNil := ⟨_, pa_nil, fun I H σ env Q r h => PostR.nowA h r .nil⟩
theorem ma_cons (h : MEx X c f W e m) (h2 : MAx X c f W es ma) (hs : starEach (e :: es) X.env = (false, eval e X.env) :: starEach es X.env := by rfl) : MAx X c f W (e :: es) (aCons m ma) := by
  obtain ⟨t, p, s⟩ := h
  obtain ⟨u, q, s'⟩ := h2
  refine ⟨_, pa_cons p q hs, fun I H σ env Q r h => ?_⟩
  refine s.bind r h fun x env1 I1 H1 v s1 r1 rv h1 => ?_
  exact s'.bind r1 h1 fun xs env2 I2 H2 vs s2 r2 rvs h2 => PostR.nowA h2 r2 (.cons (rv.mono s2) rvs)
/-- what a new tuple is -/
def newTup (ds : List D) (env : Env) : R D := if ds.length ≤ big then .ok (.tup ds) env else .stuck
theorem post_newTup {K : PySem.W.Frag} {σ : L2.St} {Q : VK} {I H : Hp} {ds : List D} {env : Env} {vs : List V} (h : PostR K c f W σ (PQ K c Q) I (newTup ds env)) (r : Rst K c f I H σ env) (rv : RDs K c.cl I vs ds) :
    vs.length ≤ sizeLine ∧ ∀ p, H p = none → Q (.ref p) (upd H p (.tup vs)) := by
  unfold newTup at h
  by_cases hl : ds.length ≤ big
  · rw [if_pos hl] at h
    refine ⟨big_le (by rw [rv.length]; exact hl), fun p hp => ?_⟩
    have sI : Same I (upd I p (.tup vs)) := same_new (r.Inone hp)
    exact h _ _ sI (r.new hp) _ (.tup (.inl (.inl upd_same)) (rv.mono sI))
  · rw [if_neg hl] at h; exact h.elim
def mTup (a : MA) : ME := fun env => (a env).bind newTup
theorem me_tup {x1} (h : MAx X c f W es ma) : MEx X c f W (.Tuple es x1 pos) (mTup ma) := by
  obtain ⟨t, p, s⟩ := h
  refine ⟨_, pe_tup p, fun I H σ env Q r h => ?_⟩
  exact s.bind r h fun xs env1 I1 H1 vs s1 r1 rvs h1 => post_newTup h1 r1 rvs
end

/-! ### new lists -/
abbrev ML := Env → R (List D)
structure Fresh (f : Fr) (σ : L2.St) (env : Env) (p : Addr) : Prop where
  h0 : f.H0 p = none
  nio : f.io ≠ some p
  no : ∀ (i : Nat) (l : List D), env[i]? = some (.ow l) → σ[i]? ≠ some (some (.ref p))
def PL (K : PySem.W.Frag) (c : Cc) (f : Fr) (σ : L2.St) (Q : VK) : List D → Env → Hp → Hp → Prop := fun ds env I' H' => ∀ p vs, RDs K c.cl I' vs ds → H' p = some (.lst vs) → I' p = none → Fresh f σ env p → Q (.ref p) H'
def SimL (K : PySem.W.Frag) (c : Cc) (f : Fr) (W : WX) (te : TE) (m : ML) : Prop := ∀ (I H : Hp) (σ : L2.St) (env : Env) (Q : VK), Rst K c f I H σ env → PostR K c f W σ (PL K c f σ Q) I (m env) → te σ H Q
def MLx (X : Cx) (c : Cc) (f : Fr) (W : WX) (e : Expr) (m : ML) : Prop := ∃ te, PE X e te ∧ SimL X.K c f W te m
section
variable {K : PySem.W.Frag} {c : Cc} {f : Fr} {W : WX}
/-- a frozen list object: known from now on -/
theorem Rst.know {I H : Hp} {σ : L2.St} {env : Env} {p : Addr} {vs : List V} (r : Rst K c f I H σ env) (hp : H p = some (.lst vs)) (hI : I p = none) (fr : Fresh f σ env p) : Rst K c f (upd I p (.lst vs)) H σ env := by
  have sI : Same I (upd I p (.lst vs)) := same_new hI
  refine ⟨fun b u q => ?_, r.fr0, r.t1, r.t2, fun a ha => ?_, r.len, fun i d e => ?_, fun i l e => ?_, r.nd, r.io0, fun a ha => ?_⟩
  · by_cases hb : b = p
    · subst hb; rw [upd_same] at q; cases q; exact hp
    · rw [upd_ne hb] at q; exact r.sub b u q
  · have : a ≠ p := fun z => by
      subst z
      rcases ha with ha | ⟨q, ha⟩
      · obtain ⟨ps, h, _⟩ := r.t1 _ ha; rw [hp] at h; cases h
      · obtain ⟨ps, h, _⟩ := r.t2 _ ha; rw [hp] at h; cases h
    rw [upd_ne this]; exact r.it a ha
  · obtain ⟨v, h1, h2⟩ := r.va i d e
    exact ⟨v, h1, h2.mono sI⟩
  · obtain ⟨q, ws, h1, h2, h3, h4, h5⟩ := r.ow i l e
    have ne : q ≠ p := fun z => fr.no i l e (z ▸ h1)
    exact ⟨q, ws, h1, h2, h3.mono sI, by rw [upd_ne ne]; exact h4, h5⟩
  · obtain ⟨n1, ⟨u, n2⟩, n3, n4⟩ := r.ni a ha
    have ne : a ≠ p := fun z => by rw [z, fr.h0] at n2; cases n2
    exact ⟨by rw [upd_ne ne]; exact n1, ⟨u, n2⟩, n3, n4⟩
theorem Rst.fresh {I H : Hp} {σ : L2.St} {env : Env} {p : Addr} (r : Rst K c f I H σ env) (hp : H p = none) : Fresh f σ env p := by
  refine ⟨?_, fun e => ?_, fun i l e h => ?_⟩
  · cases q : f.H0 p with
    | none => rfl
    | some o =>
      by_cases hio : f.io = some p
      · obtain ⟨_, l, e⟩ := r.io0 p hio
        obtain ⟨p', vs, a1, a2, _⟩ := r.ow 0 l e
        have := (r.io0 p hio).1
        rw [this] at a1; cases a1
        rw [hp] at a2; cases a2
      · have := r.fr0 p o q hio (r.tabNe hp)
        rw [hp] at this; cases this
  · obtain ⟨h0, l, e1⟩ := r.io0 p e
    obtain ⟨p', vs, a1, a2, _⟩ := r.ow 0 l e1
    rw [h0] at a1; cases a1
    rw [hp] at a2; cases a2
  · obtain ⟨p', vs, a1, a2, _⟩ := r.ow i l e
    rw [h] at a1; cases a1
    rw [hp] at a2; cases a2
/-- as a value: not changed any more -/
def mFz (m : ML) : ME := fun env => (m env).bind fun l e => .ok (.lst l) e
theorem sim_fz {te : TE} {m : ML} (s : SimL K c f W te m) : SimE K c f W te (mFz m) := by
  intro I H σ env Q r h
  refine s I H σ env Q r (h.bind fun l env1 I1 H1 s1 r1 h1 p vs rv hp hI fr => ?_)
  exact h1 _ H1 (same_new hI) (r1.know hp hI fr) _ (.lst upd_same (rv.mono (same_new hI)))
end
section
variable {X : Cx} {c : Cc} {f : Fr} {W : WX} {pos : Pos} {e : Expr} {es : List Expr} {m : ML} {ma : MA}
theorem me_fz (h : MLx X c f W e m) : MEx X c f W e (mFz m) := by
  obtain ⟨t, p, s⟩ := h
  exact ⟨_, p, sim_fz s⟩
def newLst (ds : List D) (env : Env) : R (List D) := if ds.length ≤ big then .ok ds env else .stuck
theorem post_newLst {K : PySem.W.Frag} {σ : L2.St} {Q : VK} {I H : Hp} {ds : List D} {env : Env} {vs : List V} (h : PostR K c f W σ (PL K c f σ Q) I (newLst ds env)) (r : Rst K c f I H σ env) (rv : RDs K c.cl I vs ds) :
    vs.length ≤ sizeLine ∧ ∀ p, H p = none → Q (.ref p) (upd H p (.lst vs)) := by
  unfold newLst at h
  by_cases hl : ds.length ≤ big
  · rw [if_pos hl] at h
    refine ⟨big_le (by rw [rv.length]; exact hl), fun p hp => ?_⟩
    exact h _ _ (Same.refl I) (r.new0 hp) p vs rv upd_same (r.Inone hp) (r.fresh hp)
  · rw [if_neg hl] at h; exact h.elim
def mLst (a : MA) : ML := fun env => (a env).bind newLst
theorem ml_lst (h : MAx X c f W es ma) : MLx X c f W (.List es pos) (mLst ma) := by
  obtain ⟨t, p, s⟩ := h
  refine ⟨_, pe_lst p, fun I H σ env Q r h => ?_⟩
  exact s.bind r h fun xs env1 I1 H1 vs s1 r1 rvs h1 => post_newLst h1 r1 rvs
end
end Y

set_option Elab.async false
set_option linter.all false
set_option maxRecDepth 100000
set_option maxHeartbeats 2000000
namespace Y
open PySem PySem.Spec PyProof.Rows L2

/-! ### built-ins on values -/
def OpC (K : PySem.W.Frag) (c : Cc) (r : List V → Hp → VK → Prop) (g : List D → Option D) : Prop :=
  ∀ {f : Fr} {W : WX} {I H : Hp} {σ : L2.St} {env : Env} {Q : VK} {vs : List V} {ds : List D}, Rst K c f I H σ env → RDs K c.cl I vs ds → PostR K c f W σ (PQ K c Q) I (R.of (g ds) env) → r vs H Q
def OpCL (K : PySem.W.Frag) (c : Cc) (r : List V → Hp → VK → Prop) (g : List D → Option (List D)) : Prop :=
  ∀ {f : Fr} {W : WX} {I H : Hp} {σ : L2.St} {env : Env} {Q : VK} {vs : List V} {ds : List D}, Rst K c f I H σ env → RDs K c.cl I vs ds → PostR K c f W σ (PL K c f σ Q) I (R.of (g ds) env) → r vs H Q
def mCall {α : Type} (g : List D → Option α) (a : MA) : Env → R α := fun env => (a env).bind fun ds e => R.of (g ds) e
section
variable {X : Cx} {c : Cc} {f : Fr} {W : WX} {pos p : Pos} {e : Expr} {es : List Expr} {ma : MA} {r : List V → Hp → VK → Prop} {x : Str} {id T : String}
theorem me_callB {g : List D → Option D} (hc : CallR X (.builtin id) r) (hs : OpC X.K c r g) (hg : Gl X x) (hm : X.mg x = none) (hv : bootBuiltins x = some (.builtin id)) (ha : MAx X c f W (e :: es) ma) (hn : x ≠ "__name__" := by decide) (hdb : (x == ("__debug__" : Str)) = false := by decide)
    (he : starEach (e :: es) X.env = (false, eval e X.env) :: starEach es X.env := by rfl) (hpl : (backTo pos (starEach es X.env)).any (·.1) = false := by rfl) : MEx X c f W (.Call (.Name x p) (e :: es) [] pos) (mCall g ma) := by
  obtain ⟨t, pt, s⟩ := ha
  exact ⟨_, pe_callB hc hg hm hv pt hn hdb he hpl, fun I H σ env Q r h => s.bind r h fun ds env1 I1 H1 vs s1 r1 rvs h1 => hs r1 rvs h1⟩
theorem ml_callB {g : List D → Option (List D)} (hc : CallR X (.builtin id) r) (hs : OpCL X.K c r g) (hg : Gl X x) (hm : X.mg x = none) (hv : bootBuiltins x = some (.builtin id)) (ha : MAx X c f W (e :: es) ma) (hn : x ≠ "__name__" := by decide) (hdb : (x == ("__debug__" : Str)) = false := by decide)
    (he : starEach (e :: es) X.env = (false, eval e X.env) :: starEach es X.env := by rfl) (hpl : (backTo pos (starEach es X.env)).any (·.1) = false := by rfl) : MLx X c f W (.Call (.Name x p) (e :: es) [] pos) (mCall g ma) := by
  obtain ⟨t, pt, s⟩ := ha
  exact ⟨_, pe_callB hc hg hm hv pt hn hdb he hpl, fun I H σ env Q r h => s.bind r h fun ds env1 I1 H1 vs s1 r1 rvs h1 => hs r1 rvs h1⟩
theorem me_callTy {g : List D → Option D} (hc : CallR X (.type T) r) (hs : OpC X.K c r g) (hg : Gl X x) (hm : X.mg x = none) (hv : bootBuiltins x = some (.type T)) (ha : MAx X c f W (e :: es) ma) (hn : x ≠ "__name__" := by decide) (hdb : (x == ("__debug__" : Str)) = false := by decide)
    (he : starEach (e :: es) X.env = (false, eval e X.env) :: starEach es X.env := by rfl) (hpl : (backTo pos (starEach es X.env)).any (·.1) = false := by rfl) : MEx X c f W (.Call (.Name x p) (e :: es) [] pos) (mCall g ma) := by
  obtain ⟨t, pt, s⟩ := ha
  exact ⟨_, pe_callTy hc hg hm hv pt hn hdb he hpl, fun I H σ env Q r h => s.bind r h fun ds env1 I1 H1 vs s1 r1 rvs h1 => hs r1 rvs h1⟩
theorem ml_callTy {g : List D → Option (List D)} (hc : CallR X (.type T) r) (hs : OpCL X.K c r g) (hg : Gl X x) (hm : X.mg x = none) (hv : bootBuiltins x = some (.type T)) (ha : MAx X c f W (e :: es) ma) (hn : x ≠ "__name__" := by decide) (hdb : (x == ("__debug__" : Str)) = false := by decide)
    (he : starEach (e :: es) X.env = (false, eval e X.env) :: starEach es X.env := by rfl) (hpl : (backTo pos (starEach es X.env)).any (·.1) = false := by rfl) : MLx X c f W (.Call (.Name x p) (e :: es) [] pos) (mCall g ma) := by
  obtain ⟨t, pt, s⟩ := ha
  exact ⟨_, pe_callTy hc hg hm hv pt hn hdb he hpl, fun I H σ env Q r h => s.bind r h fun ds env1 I1 H1 vs s1 r1 rvs h1 => hs r1 rvs h1⟩
end
theorem rds1 {K : PySem.W.Frag} {cl : Nat → Addr} {I : Hp} {vs : List V} {d : D} (h : RDs K cl I vs [d]) : ∃ v, vs = [v] ∧ RD K cl I v d := by
  cases h with
  | cons h r => cases r; exact ⟨_, rfl, h⟩
theorem rds2 {K : PySem.W.Frag} {cl : Nat → Addr} {I : Hp} {vs : List V} {d e : D} (h : RDs K cl I vs [d, e]) : ∃ v u, vs = [v, u] ∧ RD K cl I v d ∧ RD K cl I u e := by
  cases h with
  | cons h r =>
    cases r with
    | cons h2 r => cases r; exact ⟨_, _, rfl, h, h2⟩
def gLen : List D → Option D
  | [.str s] => if s.length ≤ big then some (.int s.length) else none
  | [.tup l] => some (.int l.length)
  | [.lst l] => some (.int l.length)
  | [.scr l] => some (.int l.length)
  | _ => none
def gAbs : List D → Option D
  | [.int i] => some (.int (if i < 0 then -i else i))
  | _ => none
def gMax2 : List D → Option D
  | [.int i, .int j] => some (.int (if j > i then j else i))
  | _ => none
def gMin2 : List D → Option D
  | [.int i, .int j] => some (.int (if j < i then j else i))
  | _ => none
def gInt : List D → Option D
  | [.int i] => some (.int i)
  | _ => none
def gTuple : List D → Option D
  | [.tup l] => some (.tup l)
  | [.lst l] => some (.tup l)
  | _ => none
def gList : List D → Option (List D)
  | [.tup l] => some l
  | [.lst l] => some l
  | _ => none
def intsO : List D → Option (List Int)
  | [] => some []
  | .int i :: r => (intsO r).map (i :: ·)
  | _ :: _ => none
def bools : List D → Option (List Bool)
  | [] => some []
  | .bl i :: r => (bools r).map (i :: ·)
  | _ :: _ => none
theorem ints_eq : ∀ {l : List D} {ns : List Int}, intsO l = some ns → l = ns.map D.int
  | [], ns, h => by simp only [intsO, Option.some.injEq] at h; subst h; rfl
  | .int i :: r, ns, h => by
    simp only [intsO, Option.map_eq_some_iff] at h
    obtain ⟨ms, h1, rfl⟩ := h
    rw [ints_eq h1]; rfl
  | .non :: _, _, h | .bl _ :: _, _, h | .str _ :: _, _, h | .tup _ :: _, _, h | .lst _ :: _, _, h | .scr _ :: _, _, h | .ob _ _ :: _, _, h => by simp [intsO] at h
theorem bools_eq : ∀ {l : List D} {ns : List Bool}, bools l = some ns → l = ns.map D.bl
  | [], ns, h => by simp only [bools, Option.some.injEq] at h; subst h; rfl
  | .bl i :: r, ns, h => by
    simp only [bools, Option.map_eq_some_iff] at h
    obtain ⟨ms, h1, rfl⟩ := h
    rw [bools_eq h1]; rfl
  | .non :: _, _, h | .int _ :: _, _, h | .str _ :: _, _, h | .tup _ :: _, _, h | .lst _ :: _, _, h | .scr _ :: _, _, h | .ob _ _ :: _, _, h => by simp [bools] at h
theorem ints_map (ns : List Int) : intsO (ns.map D.int) = some ns := by
  induction ns with
  | nil => rfl
  | cons n r ih => simp [intsO, ih]
theorem bools_map (ns : List Bool) : bools (ns.map D.bl) = some ns := by
  induction ns with
  | nil => rfl
  | cons n r ih => simp [bools, ih]
theorem RDs.bools {K : PySem.W.Frag} {cl : Nat → Addr} {I : Hp} : ∀ {vs : List V} {ns : List Bool}, RDs K cl I vs (ns.map D.bl) → vs = ns.map V.bl
  | _, [], .nil => rfl
  | _, n :: ns, .cons h r => by cases h; rw [RDs.bools r]; rfl
def gSum : List D → Option D
  | [.lst l] => (intsO l).map fun ns => .int ns.sum
  | _ => none
def gAll : List D → Option D
  | [.lst l] => (bools l).map fun ns => .bl (ns.all id)
  | _ => none
def gAny : List D → Option D
  | [.lst l] => (bools l).map fun ns => .bl (ns.any id)
  | _ => none
section
variable {K : PySem.W.Frag} {c : Cc}
theorem sqL_of {I H : Hp} {a : Addr} {xs : List V} (s : Same I H) (h : I a = some (.lst xs)) : SqL K H a xs := .inl (.inl (s _ _ h))
theorem sq_scr {I H : Hp} {a : Addr} {xs : List V} (s : Same I H) (h : SqL K I a xs) : SqL K H a xs := s.seq h
theorem opc_len : OpC K c (fun xs H Q => ∃ x n, xs = [x] ∧ LenV K x H n ∧ Q (.int n) H) gLen := by
  intro f W I H σ env Q vs ds r rvs h
  match ds, h with
  | [.str s], h =>
    obtain ⟨v, rfl, rv⟩ := rds1 rvs
    cases rv
    simp only [gLen] at h
    by_cases hl : s.length ≤ big
    · rw [if_pos hl] at h
      exact ⟨_, s.length, rfl, ⟨big_le hl, rfl⟩, PostR.now h r (.int _)⟩
    · rw [if_neg hl] at h; exact h.elim
  | [.tup l], h =>
    obtain ⟨v, rfl, rv⟩ := rds1 rvs
    cases rv with
    | tup hq hr =>
      refine ⟨_, l.length, rfl, .inr ⟨_, same_t r.sub hq, hr.length.symm⟩, PostR.now h r (.int _)⟩
  | [.lst l], h =>
    obtain ⟨v, rfl, rv⟩ := rds1 rvs
    cases rv with
    | lst hq hr => exact ⟨_, l.length, rfl, .inl ⟨_, sqL_of r.sub hq, hr.length.symm⟩, PostR.now h r (.int _)⟩
  | [.scr l], h =>
    obtain ⟨v, rfl, rv⟩ := rds1 rvs
    cases rv with
    | scr hq hr => exact ⟨_, l.length, rfl, .inl ⟨_, sq_scr r.sub hq, hr.length.symm⟩, PostR.now h r (.int _)⟩
  | [], h => exact h.elim
  | [.non], h | [.bl _], h | [.int _], h | [.ob _ _], h => exact h.elim
  | _ :: _ :: _, h => simp only [gLen, R.of] at h; exact h.elim
theorem opc_abs : OpC K c (fun xs H Q => ∃ i, xs = [.int i] ∧ Q (.int (if i < 0 then -i else i)) H) gAbs := by
  intro f W I H σ env Q vs ds r rvs h
  unfold gAbs at h
  split at h
  · obtain ⟨v, rfl, rv⟩ := rds1 rvs
    cases rv
    exact ⟨_, rfl, PostR.now h r (.int _)⟩
  · exact h.elim
theorem opc_max2 : OpC K c (fun xs H Q => ∃ i j, xs = [.int i, .int j] ∧ Q (.int (if j > i then j else i)) H) gMax2 := by
  intro f W I H σ env Q vs ds r rvs h
  unfold gMax2 at h
  split at h
  · obtain ⟨v, u, rfl, rv, ru⟩ := rds2 rvs
    cases rv; cases ru
    exact ⟨_, _, rfl, PostR.now h r (.int _)⟩
  · exact h.elim
theorem opc_min2 : OpC K c (fun xs H Q => ∃ i j, xs = [.int i, .int j] ∧ Q (.int (if j < i then j else i)) H) gMin2 := by
  intro f W I H σ env Q vs ds r rvs h
  unfold gMin2 at h
  split at h
  · obtain ⟨v, u, rfl, rv, ru⟩ := rds2 rvs
    cases rv; cases ru
    exact ⟨_, _, rfl, PostR.now h r (.int _)⟩
  · exact h.elim
theorem opc_int : OpC K c (fun xs H Q => (∃ i, xs = [.int i] ∧ Q (.int i) H) ∨ ∃ k, xs = [.bl k] ∧ Q (.int (if k then 1 else 0)) H) gInt := by
  intro f W I H σ env Q vs ds r rvs h
  unfold gInt at h
  split at h
  · obtain ⟨v, rfl, rv⟩ := rds1 rvs
    cases rv
    exact .inl ⟨_, rfl, PostR.now h r (.int _)⟩
  · exact h.elim
theorem opc_tuple : OpC K c (fun xs H Q => ∃ p ys, xs = [.ref p] ∧ ((SqL K H p ys ∧ ∀ l, H l = none → Q (.ref l) (upd H l (.tup ys))) ∨ (SqT K H p ys ∧ Q (.ref p) H))) gTuple := by
  intro f W I H σ env Q vs ds r rvs h
  unfold gTuple at h
  split at h
  · obtain ⟨v, rfl, rv⟩ := rds1 rvs
    cases id rv with
    | tup hq hr => exact ⟨_, _, rfl, .inr ⟨same_t r.sub hq, PostR.now h r rv⟩⟩
  · obtain ⟨v, rfl, rv⟩ := rds1 rvs
    cases rv with
    | @lst a xs l hq hr =>
      refine ⟨_, _, rfl, .inl ⟨sqL_of r.sub hq, fun p hp => ?_⟩⟩
      have sI : Same I (upd I p (.tup xs)) := same_new (r.Inone hp)
      exact h _ _ sI (r.new hp) _ (.tup (.inl (.inl upd_same)) (hr.mono sI))
  · exact h.elim
theorem opc_list : OpCL K c (fun xs H Q => ∃ p ys, xs = [.ref p] ∧ (SqL K H p ys ∨ SqT K H p ys) ∧ ∀ l, H l = none → Q (.ref l) (upd H l (.lst ys))) gList := by
  intro f W I H σ env Q vs ds r rvs h
  unfold gList at h
  split at h
  · obtain ⟨v, rfl, rv⟩ := rds1 rvs
    cases rv with
    | tup hq hr => exact ⟨_, _, rfl, .inr (same_t r.sub hq), fun p hp => h _ _ (Same.refl I) (r.new0 hp) p _ hr upd_same (r.Inone hp) (r.fresh hp)⟩
  · obtain ⟨v, rfl, rv⟩ := rds1 rvs
    cases rv with
    | lst hq hr => exact ⟨_, _, rfl, .inl (sqL_of r.sub hq), fun p hp => h _ _ (Same.refl I) (r.new0 hp) p _ hr upd_same (r.Inone hp) (r.fresh hp)⟩
  · exact h.elim
theorem opc_sum : OpC K c (rSum K) gSum := by
  intro f W I H σ env Q vs ds r rvs h
  unfold gSum at h
  split at h
  · rename_i l
    obtain ⟨v, rfl, rv⟩ := rds1 rvs
    cases e : intsO l with
    | none => rw [e] at h; exact h.elim
    | some ns =>
      rw [e] at h
      have el := ints_eq e
      subst el
      cases rv with
      | lst hq hr =>
        have := hr.ints
        subst this
        exact ⟨_, ns, rfl, sqL_of r.sub hq, PostR.now h r (.int _)⟩
  · exact h.elim
theorem opc_all : OpC K c (rAll K) gAll := by
  intro f W I H σ env Q vs ds r rvs h
  unfold gAll at h
  split at h
  · rename_i l
    obtain ⟨v, rfl, rv⟩ := rds1 rvs
    cases e : bools l with
    | none => rw [e] at h; exact h.elim
    | some ns =>
      rw [e] at h
      have el := bools_eq e
      subst el
      cases rv with
      | lst hq hr =>
        have := hr.bools
        subst this
        exact ⟨_, ns, rfl, sqL_of r.sub hq, PostR.now h r (.bl _)⟩
  · exact h.elim
theorem opc_any : OpC K c (rAny K) gAny := by
  intro f W I H σ env Q vs ds r rvs h
  unfold gAny at h
  split at h
  · rename_i l
    obtain ⟨v, rfl, rv⟩ := rds1 rvs
    cases e : bools l with
    | none => rw [e] at h; exact h.elim
    | some ns =>
      rw [e] at h
      have el := bools_eq e
      subst el
      cases rv with
      | lst hq hr =>
        have := hr.bools
        subst this
        exact ⟨_, ns, rfl, sqL_of r.sub hq, PostR.now h r (.bl _)⟩
  · exact h.elim
end
section
variable {X : Cx} {c : Cc} {f : Fr} {W : WX} {pos p : Pos} {e : Expr} {es : List Expr} {ma : MA}
theorem boot_all' : bootBuiltins "all" = some (.builtin "all") := by decide +kernel
theorem boot_any' : bootBuiltins "any" = some (.builtin "any") := by decide +kernel
theorem me_len (hm : X.mg "len" = none) (ha : MAx X c f W [e] ma) (hg : Gl X "len" := by rfl) (he : starEach [e] X.env = (false, eval e X.env) :: starEach [] X.env := by rfl) : MEx X c f W (.Call (.Name "len" p) [e] [] pos) (mCall gLen ma) := me_callB call_len opc_len hg hm PySem.boot_len ha (he := he)
theorem me_abs (hm : X.mg "abs" = none) (ha : MAx X c f W [e] ma) (hg : Gl X "abs" := by rfl) (he : starEach [e] X.env = (false, eval e X.env) :: starEach [] X.env := by rfl) : MEx X c f W (.Call (.Name "abs" p) [e] [] pos) (mCall gAbs ma) := me_callB call_abs opc_abs hg hm (by decide +kernel) ha (he := he)
theorem me_sum (hm : X.mg "sum" = none) (ha : MAx X c f W [e] ma) (hc : X.calm = true := by rfl) (hg : Gl X "sum" := by rfl) (he : starEach [e] X.env = (false, eval e X.env) :: starEach [] X.env := by rfl) : MEx X c f W (.Call (.Name "sum" p) [e] [] pos) (mCall gSum ma) := me_callB (cr_sum hc) opc_sum hg hm (by decide +kernel) ha (he := he)
theorem me_allL (hm : X.mg "all" = none) (ha : MAx X c f W [e] ma) (hc : X.calm = true := by rfl) (hg : Gl X "all" := by rfl) (he : starEach [e] X.env = (false, eval e X.env) :: starEach [] X.env := by rfl) : MEx X c f W (.Call (.Name "all" p) [e] [] pos) (mCall gAll ma) := me_callB (cr_all hc) opc_all hg hm boot_all' ha (he := he)
theorem me_anyL (hm : X.mg "any" = none) (ha : MAx X c f W [e] ma) (hc : X.calm = true := by rfl) (hg : Gl X "any" := by rfl) (he : starEach [e] X.env = (false, eval e X.env) :: starEach [] X.env := by rfl) : MEx X c f W (.Call (.Name "any" p) [e] [] pos) (mCall gAny ma) := me_callB (cr_any hc) opc_any hg hm boot_any' ha (he := he)
theorem me_int1 (hm : X.mg "int" = none) (ha : MAx X c f W [e] ma) (hg : Gl X "int" := by rfl) (he : starEach [e] X.env = (false, eval e X.env) :: starEach [] X.env := by rfl) : MEx X c f W (.Call (.Name "int" p) [e] [] pos) (mCall gInt ma) := me_callTy call_int1 opc_int hg hm PyProof.Rows.boot_int ha (he := he)
theorem me_tuple (hm : X.mg "tuple" = none) (ha : MAx X c f W [e] ma) (hg : Gl X "tuple" := by rfl) (he : starEach [e] X.env = (false, eval e X.env) :: starEach [] X.env := by rfl) : MEx X c f W (.Call (.Name "tuple" p) [e] [] pos) (mCall gTuple ma) := me_callTy call_tuple_of opc_tuple hg hm PyProof.Rows.boot_tuple ha (he := he)
theorem ml_list (hm : X.mg "list" = none) (ha : MAx X c f W [e] ma) (hg : Gl X "list" := by rfl) (he : starEach [e] X.env = (false, eval e X.env) :: starEach [] X.env := by rfl) : MLx X c f W (.Call (.Name "list" p) [e] [] pos) (mCall gList ma) := ml_callTy call_list_of opc_list hg hm PyProof.Rows.boot_list ha (he := he)
theorem me_max2 {e2 : Expr} (hm : X.mg "max" = none) (ha : MAx X c f W [e, e2] ma) (hc : X.calm = true := by rfl) (hg : Gl X "max" := by rfl) (he : starEach [e, e2] X.env = (false, eval e X.env) :: starEach [e2] X.env := by rfl) (hpl : (backTo pos (starEach [e2] X.env)).any (·.1) = false := by rfl) : MEx X c f W (.Call (.Name "max" p) [e, e2] [] pos) (mCall gMax2 ma) := me_callB (call_max2 hc) opc_max2 hg hm (by decide +kernel) ha (he := he) (hpl := hpl)
theorem me_min2 {e2 : Expr} (hm : X.mg "min" = none) (ha : MAx X c f W [e, e2] ma) (hc : X.calm = true := by rfl) (hg : Gl X "min" := by rfl) (he : starEach [e, e2] X.env = (false, eval e X.env) :: starEach [e2] X.env := by rfl) (hpl : (backTo pos (starEach [e2] X.env)).any (·.1) = false := by rfl) : MEx X c f W (.Call (.Name "min" p) [e, e2] [] pos) (mCall gMin2 ma) := me_callB (call_min2 hc) opc_min2 hg hm (by decide +kernel) ha (he := he) (hpl := hpl)
end
end Y

set_option Elab.async false
set_option linter.all false
set_option maxRecDepth 100000
set_option maxHeartbeats 2000000
namespace Y
open PySem PySem.Spec PyProof.Rows L2

/-! ### subscripts -/
theorem atI_rds {K : PySem.W.Frag} {cl : Nat → Addr} {I : Hp} {vs : List V} {ds : List D} {i : Int} {d : D} (r : RDs K cl I vs ds) (h : atI ds i = some d) : ∃ v, atI vs i = some v ∧ RD K cl I v d := by
  unfold atI at h ⊢
  rw [r.length]
  cases e : ixN ds.length i with
  | none => rw [e] at h; cases h
  | some j => rw [e] at h; exact r.get h
def gIx : D → D → Option D
  | .tup l, .int i => atI l i
  | .lst l, .int i => atI l i
  | .scr l, .int i => atI l i
  | .str s, .int i => if s.length ≤ big then (atI s.cps.toList i).map fun c => .str ⟨#[c]⟩ else none
  | _, _ => none
section
variable {X : Cx} {c : Cc} {f : Fr} {W : WX} {pos p2 : Pos} {a b : Expr} {ma mb : ME}
theorem ops_ix {K : PySem.W.Frag} : OpS K c (rIx K) gIx := by
  intro f W I H σ env Q x y d e r rx ry h
  cases ry <;> try (cases d <;> exact h.elim)
  rename_i i
  cases rx with
  | @tup a xs l hq hr =>
    have h : PostR K c f W σ (PQ K c Q) I (R.of (atI l i) env) := h
    cases e : atI l i with
    | none => rw [e] at h; exact h.elim
    | some z =>
      rw [e] at h
      obtain ⟨v, hv, rv⟩ := atI_rds hr e
      exact .inr (.inl ⟨_, _, _, _, rfl, rfl, same_t r.sub hq, hv, PostR.now h r rv⟩)
  | @lst a xs l hq hr =>
    have h : PostR K c f W σ (PQ K c Q) I (R.of (atI l i) env) := h
    cases e : atI l i with
    | none => rw [e] at h; exact h.elim
    | some z =>
      rw [e] at h
      obtain ⟨v, hv, rv⟩ := atI_rds hr e
      exact .inl ⟨_, _, _, _, rfl, rfl, sqL_of r.sub hq, hv, PostR.now h r rv⟩
  | @scr a xs l hq hr =>
    have h : PostR K c f W σ (PQ K c Q) I (R.of (atI l i) env) := h
    cases e : atI l i with
    | none => rw [e] at h; exact h.elim
    | some z =>
      rw [e] at h
      obtain ⟨v, hv, rv⟩ := atI_rds hr e
      exact .inl ⟨_, _, _, _, rfl, rfl, sq_scr r.sub hq, hv, PostR.now h r rv⟩
  | str s =>
    have h : PostR K c f W σ (PQ K c Q) I (R.of (if s.length ≤ big then (atI s.cps.toList i).map fun c => D.str ⟨#[c]⟩ else none) env) := h
    by_cases hl : s.length ≤ big
    · rw [if_pos hl] at h
      cases e : atI s.cps.toList i with
      | none => rw [e] at h; exact h.elim
      | some z =>
        rw [e] at h
        exact .inr (.inr ⟨_, _, _, rfl, rfl, big_le hl, e, PostR.now h r (.str _)⟩)
    · rw [if_neg hl] at h; exact h.elim
  | non => exact h.elim
  | bl _ => exact h.elim
  | int _ => exact h.elim
  | ob _ _ => exact h.elim
theorem me_ix (ha : MEx X c f W a ma) (hb : MEx X c f W b mb) (hs : PlainIx b := by exact fun _ _ => rfl) : MEx X c f W (.Subscript a b pos) (mBin gIx ma mb) := by
  obtain ⟨ta, pa, sa⟩ := ha
  obtain ⟨tb, pb, sb⟩ := hb
  exact ⟨_, pe_ix ix_seq pa pb hs, sim_op ops_ix sa sb⟩
/-- an item, the length of an owned list -/
def mIxO (i : Nat) (mb : ME) : ME := fun env => match env[i]? with
  | some (.ow _) => (mb env).bind fun y e => match e[i]?, y with
    | some (.ow l), .int k => R.of (atI l k) e
    | _, _ => .stuck
  | _ => .stuck
def mLenO (i : Nat) : ME := fun env => match env[i]? with
  | some (.ow l) => .ok (.int l.length) env
  | _ => .stuck
theorem me_ixO (i : Nat) {x : Str} (hb : MEx X c f W b mb) (hN : X.N[i]? = some x := by rfl) (hv : Vis X.env.scope x := by first | exact Or.inl rfl | exact Or.inr (Or.inl rfl) | exact Or.inr (Or.inr rfl)) (hs : PlainIx b := by exact fun _ _ => rfl) (hd : (x == ("__debug__" : Str)) = false := by decide)
    (hcd : (x == ("__classdict__" : Str)) = false := by decide) : MEx X c f W (.Subscript (.Name x p2) b pos) (mIxO i mb) := by
  obtain ⟨tb, pb, sb⟩ := hb
  refine ⟨_, pe_ix ix_seq (pe_var hN hv hd hcd) pb hs, fun I H σ env Q r h => ?_⟩
  unfold mIxO at h
  split at h
  · rename_i l0 e0
    obtain ⟨p, vs, h1, _⟩ := r.ow i l0 e0
    refine ⟨_, h1, ?_⟩
    refine sb.bind r h fun y env1 I1 H1 u s1 r1 ru h2 => ?_
    split at h2
    · rename_i l k e1
      obtain ⟨p', vs', a1, a2, a3, _⟩ := r1.ow i l e1
      rw [h1] at a1; cases a1
      cases ru
      cases e2 : atI l k with
      | none => rw [e2] at h2; exact h2.elim
      | some z =>
        rw [e2] at h2
        obtain ⟨v, hv, rv⟩ := atI_rds a3 e2
        exact .inl ⟨_, _, _, _, rfl, rfl, .inl (.inl a2), hv, PostR.now h2 r1 rv⟩
    · exact h2.elim
  · exact h.elim
theorem me_lenO (i : Nat) {x : Str} {p : Pos} (hm : X.mg "len" = none) (hg : Gl X "len" := by rfl) (hN : X.N[i]? = some x := by rfl) (hv : Vis X.env.scope x := by first | exact Or.inl rfl | exact Or.inr (Or.inl rfl) | exact Or.inr (Or.inr rfl)) (he : starEach [.Name x p2] X.env = (false, eval (.Name x p2) X.env) :: starEach [] X.env := by rfl) (hd : (x == ("__debug__" : Str)) = false := by decide)
    (hcd : (x == ("__classdict__" : Str)) = false := by decide) : MEx X c f W (.Call (.Name "len" p) [.Name x p2] [] pos) (mLenO i) := by
  refine ⟨_, pe_callB call_len hg hm PySem.boot_len (pa_cons (pe_var hN hv hd hcd) pa_nil he) (he := he), fun I H σ env Q r h => ?_⟩
  unfold mLenO at h
  split at h
  · rename_i l e0
    obtain ⟨p, vs, h1, h2, h3, _⟩ := r.ow i l e0
    exact ⟨_, h1, _, l.length, rfl, .inl ⟨_, .inl (.inl h2), h3.length.symm⟩, PostR.now h r (.int _)⟩
  · exact h.elim
end

/-! ### slices -/
abbrev MO := Env → R (Option Int)
def PO2 (Q : Option Int → Hp → Prop) : Option Int → Env → Hp → Hp → Prop := fun b _ _ H' => Q b H'
def SimO (K : PySem.W.Frag) (c : Cc) (f : Fr) (W : WX) (t : TO) (m : MO) : Prop := ∀ (I H : Hp) (σ : L2.St) (env : Env) (Q : Option Int → Hp → Prop), Rst K c f I H σ env → PostR K c f W σ (PO2 Q) I (m env) → t σ H Q
def MOx (X : Cx) (c : Cc) (f : Fr) (W : WX) (e : Option Expr) (m : MO) : Prop := ∃ t, PO X e t ∧ SimO X.K c f W t m
def oNone : MO := fun env => .ok none env
def oSome (m : ME) : MO := fun env => (m env).bind fun d e => match d with
  | .int i => .ok (some i) e
  | _ => .stuck
def cutD (xs : List D) (lo hi : Option Int) : List D := (xs.drop (HT.sIx xs.length 0 lo)).take (HT.sIx xs.length xs.length hi - HT.sIx xs.length 0 lo)
theorem cut_rds {K : PySem.W.Frag} {cl : Nat → Addr} {I : Hp} {vs : List V} {ds : List D} {lo hi : Option Int} (r : RDs K cl I vs ds) : RDs K cl I (cutV vs lo hi) (cutD ds lo hi) := by
  unfold cutV cutD
  rw [r.length]
  exact (r.drop _).take _
def mSl {α : Type} (g : D → Option Int → Option Int → Option α) (m : ME) (lo hi : MO) : Env → R α := fun env => (m env).bind fun x e => (lo e).bind fun l e => (hi e).bind fun h e => R.of (g x l h) e
def gSl : D → Option Int → Option Int → Option D
  | .tup l, lo, hi => some (.tup (cutD l lo hi))
  | .lst l, lo, hi => some (.lst (cutD l lo hi))
  | .scr l, lo, hi => some (.lst (cutD l lo hi))
  | _, _, _ => none
def gSlL : D → Option Int → Option Int → Option (List D)
  | .lst l, lo, hi => some (cutD l lo hi)
  | .scr l, lo, hi => some (cutD l lo hi)
  | _, _, _ => none
theorem sIx_ge (n d : Nat) : HT.sIx n d none = d := rfl
theorem cut_whole {α : Type} (xs : List α) {a b : Nat} (h : a = 0 ∧ b = xs.length) : (xs.drop a).take (b - a) = xs := by
  obtain ⟨rfl, rfl⟩ := h
  simp
section
variable {X : Cx} {c : Cc} {f : Fr} {W : WX} {pos p2 : Pos} {e : Expr} {lo hi : Option Expr} {m : ME} {ml mh : MO}
theorem SimO.bind {K : PySem.W.Frag} {t : TO} {m : MO} {β : Type} {σ : L2.St} {P2 : β → Env → Hp → Hp → Prop} {I H : Hp} {env : Env} {k : Option Int → Env → R β} {Q : Option Int → Hp → Prop} (s : SimO K c f W t m) (r : Rst K c f I H σ env)
    (h : PostR K c f W σ P2 I ((m env).bind k)) (hk : ∀ b env1 I1 H1, Same I I1 → Rst K c f I1 H1 σ env1 → PostR K c f W σ P2 I1 (k b env1) → Q b H1) : t σ H Q :=
  s I H σ env Q r (h.bind fun d env1 I1 H1 s1 r1 q1 => hk d env1 I1 H1 s1 r1 q1)
theorem mo_none : MOx X c f W none oNone := ⟨_, po_none, fun I H σ env Q r h => h I H (Same.refl I) r⟩
theorem mo_some (h : MEx X c f W e m) : MOx X c f W (some e) (oSome m) := by
  obtain ⟨t, p, s⟩ := h
  refine ⟨_, po_some p, fun I H σ env Q r h => ?_⟩
  refine s.bind r h fun d env1 I1 H1 v s1 r1 rv h1 => ?_
  cases rv <;> first | exact h1.elim | skip
  exact ⟨_, rfl, h1 I1 H1 (Same.refl I1) r1⟩
def rSlX (K : PySem.W.Frag) : V → Option Int → Option Int → Hp → VK → Prop := fun x lo hi H Q => rSlL K x lo hi H Q ∨ rSlA K x lo hi H Q
theorem me_slice (h : MEx X c f W e m) (hl : MOx X c f W lo ml) (hh : MOx X c f W hi mh) : MEx X c f W (.Subscript e (.Slice lo hi none p2) pos) (mSl gSl m ml mh) := by
  obtain ⟨t, p, s⟩ := h
  obtain ⟨tl, pl, sl⟩ := hl
  obtain ⟨th, ph, sh⟩ := hh
  refine ⟨_, pe_slice (r := rSlX X.K) (sl_list.or sl_tupA) p pl ph, fun I H σ env Q r h => ?_⟩
  refine s.bind r h fun d env1 I1 H1 v s1 r1 rv h1 => ?_
  refine sl.bind r1 h1 fun l env2 I2 H2 s2 r2 h2 => ?_
  refine sh.bind r2 h2 fun u env3 I3 H3 s3 r3 h3 => ?_
  have rv' := rv.mono (s2.trans s3)
  cases id rv' with
  | @tup a xs ds hq hr =>
    refine .inr ⟨_, _, rfl, same_t r3.sub hq, fun hw => ?_, fun _ p hp => ?_⟩
    · have e : cutD ds l u = ds := by
        unfold cutD
        rw [hr.length] at hw
        exact cut_whole ds hw
      have h4 : PostR X.K c f W σ (PQ X.K c Q) I3 (.ok (.tup (cutD ds l u)) env3) := h3
      rw [e] at h4
      exact PostR.now h4 r3 rv'
    · have sI : Same I3 (upd I3 p (.tup (cutV xs l u))) := same_new (r3.Inone hp)
      exact h3 _ _ sI (r3.new hp) _ (.tup (.inl (.inl upd_same)) ((cut_rds hr).mono sI))
  | @lst a xs ds hq hr =>
    refine .inl ⟨_, _, rfl, sqL_of r3.sub hq, fun p hp => ?_⟩
    have sI : Same I3 (upd I3 p (.lst (cutV xs l u))) := same_new (r3.Inone hp)
    exact h3 _ _ sI (r3.new hp) _ (.lst upd_same ((cut_rds hr).mono sI))
  | @scr a xs ds hq hr =>
    refine .inl ⟨_, _, rfl, sq_scr r3.sub hq, fun p hp => ?_⟩
    have sI : Same I3 (upd I3 p (.lst (cutV xs l u))) := same_new (r3.Inone hp)
    exact h3 _ _ sI (r3.new hp) _ (.lst upd_same ((cut_rds hr).mono sI))
  | non => exact h3.elim
  | bl _ => exact h3.elim
  | int _ => exact h3.elim
  | str _ => exact h3.elim
  | ob _ _ => exact h3.elim
theorem ml_slice (h : MEx X c f W e m) (hl : MOx X c f W lo ml) (hh : MOx X c f W hi mh) : MLx X c f W (.Subscript e (.Slice lo hi none p2) pos) (mSl gSlL m ml mh) := by
  obtain ⟨t, p, s⟩ := h
  obtain ⟨tl, pl, sl⟩ := hl
  obtain ⟨th, ph, sh⟩ := hh
  refine ⟨_, pe_slice sl_list p pl ph, fun I H σ env Q r h => ?_⟩
  refine s.bind r h fun d env1 I1 H1 v s1 r1 rv h1 => ?_
  refine sl.bind r1 h1 fun l env2 I2 H2 s2 r2 h2 => ?_
  refine sh.bind r2 h2 fun u env3 I3 H3 s3 r3 h3 => ?_
  have rv' := rv.mono (s2.trans s3)
  cases id rv' with
  | @lst a xs ds hq hr => exact ⟨_, _, rfl, sqL_of r3.sub hq, fun p hp => h3 _ _ (Same.refl I3) (r3.new0 hp) p _ (cut_rds hr) upd_same (r3.Inone hp) (r3.fresh hp)⟩
  | @scr a xs ds hq hr => exact ⟨_, _, rfl, sq_scr r3.sub hq, fun p hp => h3 _ _ (Same.refl I3) (r3.new0 hp) p _ (cut_rds hr) upd_same (r3.Inone hp) (r3.fresh hp)⟩
  | tup _ _ => exact h3.elim
  | non => exact h3.elim
  | bl _ => exact h3.elim
  | int _ => exact h3.elim
  | str _ => exact h3.elim
  | ob _ _ => exact h3.elim
end

/-! ### a + b of tuples, of lists; a list so many times; a tuple so many times -/
def gCatT : D → D → Option D
  | .tup l, .tup m => if l.length + m.length ≤ big then some (.tup (l ++ m)) else none
  | _, _ => none
def gCatL : D → D → Option (List D)
  | .lst l, .lst m => if l.length + m.length ≤ big then some (l ++ m) else none
  | _, _ => none
def gRepL : D → D → Option (List D)
  | .lst l, .int k => if -(2 ^ 63) ≤ k ∧ k < 2 ^ 63 ∧ l.length * k.toNat ≤ big then some (List.replicate k.toNat l).flatten else none
  | _, _ => none
def gCatS : D → D → Option D
  | .str l, .str m => if l.length + m.length ≤ big then some (.str (l ++ m)) else none
  | _, _ => none
def mBinL (g : D → D → Option (List D)) (a b : ME) : ML := fun env => (a env).bind fun x e1 => (b e1).bind fun y e2 => R.of (g x y) e2
def OpSL (K : PySem.W.Frag) (c : Cc) (r : R2) (g : D → D → Option (List D)) : Prop :=
  ∀ {f : Fr} {W : WX} {I H : Hp} {σ : L2.St} {env : Env} {Q : VK} {x y : V} {d e : D}, Rst K c f I H σ env → RD K c.cl I x d → RD K c.cl I y e → PostR K c f W σ (PL K c f σ Q) I (R.of (g d e) env) → r x y H Q
theorem rep_rds {K : PySem.W.Frag} {cl : Nat → Addr} {I : Hp} {vs : List V} {ds : List D} (r : RDs K cl I vs ds) : ∀ n : Nat, RDs K cl I (List.replicate n vs).flatten (List.replicate n ds).flatten
  | 0 => .nil
  | n + 1 => by
    rw [List.replicate_succ, List.replicate_succ, List.flatten_cons, List.flatten_cons]
    exact r.append (rep_rds r n)
section
variable {X : Cx} {c : Cc} {f : Fr} {W : WX} {pos : Pos} {a b : Expr} {ma mb : ME}
theorem ml_bin {op : Operator} {r : R2} {g : D → D → Option (List D)} (ho : OpR X (binaryOp op) r) (hs : OpSL X.K c r g) (ha : MEx X c f W a ma) (hb : MEx X c f W b mb) : MLx X c f W (.BinOp a op b pos) (mBinL g ma mb) := by
  obtain ⟨ta, pa, sa⟩ := ha
  obtain ⟨tb, pb, sb⟩ := hb
  refine ⟨_, pe_op ho pa pb, fun I H σ env Q q h => ?_⟩
  refine sa.bind q h fun d env1 I1 H1 v s1 r1 rv h1 => ?_
  exact sb.bind r1 h1 fun e env2 I2 H2 u s2 r2 ru h2 => hs r2 (rv.mono s2) ru h2
theorem ops_catT {K : PySem.W.Frag} : OpS K c (rCatA K) gCatT := by
  intro f W I H σ env Q x y d e r rx ry h
  unfold gCatT at h
  split at h
  · rename_i l m
    by_cases hl : l.length + m.length ≤ big
    · rw [if_pos hl] at h
      cases id rx with
      | @tup p xs _ hq hr =>
        cases id ry with
        | @tup p2 ys _ hq2 hr2 =>
          refine ⟨_, _, _, _, rfl, rfl, same_t r.sub hq, same_t r.sub hq2, big_le (by rw [hr.length, hr2.length]; exact hl), fun e => ?_, fun _ e => ?_, fun _ _ q hq3 => ?_⟩
          · subst e
            cases hr
            exact PostR.now h r ry
          · subst e
            cases hr2
            have h2 : PostR K c f W σ (PQ K c Q) I (.ok (.tup (l ++ [])) env) := h
            rw [List.append_nil] at h2
            exact PostR.now h2 r rx
          · have sI : Same I (upd I q (.tup (xs ++ ys))) := same_new (r.Inone hq3)
            exact h _ _ sI (r.new hq3) _ (.tup (.inl (.inl upd_same)) ((hr.append hr2).mono sI))
    · rw [if_neg hl] at h; exact h.elim
  · exact h.elim
theorem opsl_catL {K : PySem.W.Frag} : OpSL K c rCat gCatL := by
  intro f W I H σ env Q x y d e r rx ry h
  unfold gCatL at h
  split at h
  · rename_i l m
    by_cases hl : l.length + m.length ≤ big
    · rw [if_pos hl] at h
      cases rx with
      | @lst p xs _ hq hr =>
        cases ry with
        | @lst p2 ys _ hq2 hr2 =>
          exact ⟨_, _, _, _, rfl, rfl, r.sub _ _ hq, r.sub _ _ hq2, big_le (by rw [hr.length, hr2.length]; exact hl), fun q hp => h _ _ (Same.refl I) (r.new0 hp) q _ (hr.append hr2) upd_same (r.Inone hp) (r.fresh hp)⟩
    · rw [if_neg hl] at h; exact h.elim
  · exact h.elim
theorem opsl_repL {K : PySem.W.Frag} : OpSL K c rRep gRepL := by
  intro f W I H σ env Q x y d e r rx ry h
  unfold gRepL at h
  split at h
  · rename_i l k
    by_cases hl : -(2 ^ 63) ≤ k ∧ k < 2 ^ 63 ∧ l.length * k.toNat ≤ big
    · rw [if_pos hl] at h
      cases rx with
      | @lst p xs _ hq hr =>
        cases ry
        exact ⟨_, _, _, rfl, rfl, r.sub _ _ hq, hl.1, hl.2.1, big_le (by rw [hr.length]; exact hl.2.2), fun q hp => h _ _ (Same.refl I) (r.new0 hp) q _ (rep_rds hr _) upd_same (r.Inone hp) (r.fresh hp)⟩
    · rw [if_neg hl] at h; exact h.elim
  · exact h.elim
theorem ops_catS {K : PySem.W.Frag} : OpS K c (fun x y H Q => ∃ i j, x = .str i ∧ y = .str j ∧ i.length + j.length ≤ sizeLine ∧ Q (.str (i ++ j)) H) gCatS := by
  intro f W I H σ env Q x y d e r rx ry h
  unfold gCatS at h
  split at h
  · rename_i l m
    by_cases hl : l.length + m.length ≤ big
    · rw [if_pos hl] at h
      cases rx
      cases ry
      exact ⟨_, _, rfl, rfl, big_le hl, PostR.now h r (.str _)⟩
    · rw [if_neg hl] at h; exact h.elim
  · exact h.elim
theorem me_catT (ha : MEx X c f W a ma) (hb : MEx X c f W b mb) : MEx X c f W (.BinOp a .Add b pos) (mBin gCatT ma mb) := me_bin op_catA ops_catT ha hb
theorem me_catS (ha : MEx X c f W a ma) (hb : MEx X c f W b mb) : MEx X c f W (.BinOp a .Add b pos) (mBin gCatS ma mb) := me_bin op_add_str ops_catS ha hb
theorem ml_catL (ha : MEx X c f W a ma) (hb : MEx X c f W b mb) : MLx X c f W (.BinOp a .Add b pos) (mBinL gCatL ma mb) := ml_bin op_cat opsl_catL ha hb
theorem ml_repL (ha : MEx X c f W a ma) (hb : MEx X c f W b mb) : MLx X c f W (.BinOp a .Mult b pos) (mBinL gRepL ma mb) := ml_bin op_rep opsl_repL ha hb
end

/-! ### chains: a < b < c -/
def mChain (g g' : D → D → Option D) (a b k : ME) : ME := fun env => (a env).bind fun x e => (b e).bind fun y e => (R.of (g x y) e).bind fun z e => (asB z e).bind fun z e => if z then (k e).bind fun w e => R.of (g' y w) e else .ok (.bl false) e
section
variable {X : Cx} {c : Cc} {f : Fr} {W : WX} {pos : Pos} {a b d : Expr} {ma mb md : ME} {r r' : R2} {g g' : D → D → Option D} {op op' : CmpOp}
theorem sim_chain {K : PySem.W.Frag} {ta tb td : TE} (hs : OpS K c r g) (hs' : OpS K c r' g') (ha : SimE K c f W ta ma) (hb : SimE K c f W tb mb) (hd : SimE K c f W td md) : SimE K c f W (tChain r r' ta tb td) (mChain g g' ma mb md) := by
  intro I H σ env Q q h
  refine ha.bind q h fun x env1 I1 H1 v s1 r1 rv h1 => ?_
  refine hb.bind r1 h1 fun y env2 I2 H2 u s2 r2 ru h2 => ?_
  refine hs r2 (rv.mono s2) ru (h2.bind fun z env3 I3 H3 s3 r3 h3 => ?_)
  intro vz rz
  cases rz <;> first | exact h3.elim | skip
  rename_i z
  refine ⟨z, rfl, ?_⟩
  cases z with
  | true => exact iteT (hd.bind r3 h3 fun w env4 I4 H4 uw s4 r4 rw' h4 => hs' r4 ((ru.mono s3).mono s4) rw' h4)
  | false => exact iteF (PostR.now h3 r3 (.bl _))
theorem me_chain (ho : OpR X (compareOp op) r) (ho' : OpR X (compareOp op') r') (hs : OpS X.K c r g) (hs' : OpS X.K c r' g') (ha : MEx X c f W a ma) (hb : MEx X c f W b mb) (hd : MEx X c f W d md)
    (hm : lastMarks [op, op'] [b, d] = false := by with_unfolding_all rfl) : MEx X c f W (.Compare a [op, op'] [b, d] pos) (mChain g g' ma mb md) := by
  obtain ⟨ta, pa, sa⟩ := ha
  obtain ⟨tb, pb, sb⟩ := hb
  obtain ⟨td, pd, sd⟩ := hd
  exact ⟨_, pe_chain ho ho' pa pb pd hm, sim_chain hs hs' sa sb sd⟩
theorem mt_chain (ho : OpR X (compareOp op) r) (ho' : OpR X (compareOp op') r') (hs : OpS X.K c r g) (hs' : OpS X.K c r' g') (ha : MEx X c f W a ma) (hb : MEx X c f W b mb) (hd : MEx X c f W d md)
    (hm : lastMarks [op, op'] [b, d] = false := by with_unfolding_all rfl) : MTx X c f W (.Compare a [op, op'] [b, d] pos) (mT (mChain g g' ma mb md)) := by
  obtain ⟨ta, pa, sa⟩ := ha
  obtain ⟨tb, pb, sb⟩ := hb
  obtain ⟨td, pd, sd⟩ := hd
  exact ⟨_, pt_chain ho ho' pa pb pd hm, sim_tB (sim_chain hs hs' sa sb sd)⟩
end
section
variable {K : PySem.W.Frag} {c : Cc}
theorem ops_lt : OpS K c (rI0 fun i j => .bl (decide (i < j))) (gIB fun i j => decide (i < j)) := ops_I0 fun _ _ _ => .bl _
theorem ops_le : OpS K c (rI0 fun i j => .bl (decide (i ≤ j))) (gIB fun i j => decide (i ≤ j)) := ops_I0 fun _ _ _ => .bl _
end

/-! ### in, not in: ints among ints -/
def gIn (n : Bool) : D → D → Option D
  | .int i, .tup l => (intsO l).map fun ns => .bl (if n then !(ns.contains i) else ns.contains i)
  | .int i, .lst l => (intsO l).map fun ns => .bl (if n then !(ns.contains i) else ns.contains i)
  | _, _ => none
theorem inV_ints (i : Int) : ∀ ns : List Int, inV (.int i) (ns.map V.int) = ns.contains i
  | [] => rfl
  | n :: ns => by
    have ih := inV_ints i ns
    unfold inV at ih ⊢
    rw [List.map_cons, List.any_cons, ih, List.contains_cons]
    show ((n == i) || _) = ((i == n) || _)
    rw [show (n == i) = (i == n) from by rw [Bool.eq_iff_iff, beq_iff_eq, beq_iff_eq]; exact ⟨Eq.symm, Eq.symm⟩]
theorem flat_ints (ns : List Int) : (ns.map V.int).all flatV = true := by
  rw [List.all_eq_true]
  intro v hv
  obtain ⟨n, _, rfl⟩ := List.mem_map.mp hv
  rfl
section
variable {X : Cx} {c : Cc} {f : Fr} {W : WX} {pos : Pos} {a b : Expr} {ma mb : ME}
theorem ops_in {K : PySem.W.Frag} (n : Bool) : OpS K c (rIn K n) (gIn n) := by
  intro f W I H σ env Q x y d e r rx ry h
  unfold gIn at h
  split at h
  · rename_i i l
    cases e : intsO l with
    | none => rw [e] at h; exact h.elim
    | some ns =>
      rw [e] at h
      have := ints_eq e
      subst this
      cases rx
      cases ry with
      | tup hq hr =>
        have := hr.ints
        subst this
        refine ⟨_, _, rfl, .inr (same_t r.sub hq), rfl, flat_ints ns, ?_⟩
        rw [inV_ints]
        exact PostR.now h r (.bl _)
  · rename_i i l
    cases e : intsO l with
    | none => rw [e] at h; exact h.elim
    | some ns =>
      rw [e] at h
      have := ints_eq e
      subst this
      cases rx
      cases ry with
      | lst hq hr =>
        have := hr.ints
        subst this
        refine ⟨_, _, rfl, .inl (sqL_of r.sub hq), rfl, flat_ints ns, ?_⟩
        rw [inV_ints]
        exact PostR.now h r (.bl _)
  · exact h.elim
theorem mc_in (ha : MEx X c f W a ma) (hb : MEx X c f W b mb) (hm : behindInMarks .In b = false := by first | rfl | with_unfolding_all rfl) : MCx X c f W .In a b (mBin (gIn false) ma mb) := mc_of op_in_seq (ops_in false) ha hb hm
theorem mc_notin (ha : MEx X c f W a ma) (hb : MEx X c f W b mb) (hm : behindInMarks .NotIn b = false := by first | rfl | with_unfolding_all rfl) : MCx X c f W .NotIn a b (mBin (gIn true) ma mb) := mc_of op_notIn_seq (ops_in true) ha hb hm
end

/-! ### isinstance with a built-in class -/
def isT (T : String) : D → Option Bool
  | .non => some false
  | .bl _ => if T = "bool" ∨ T = "int" then some true else some false
  | .int _ => if T = "int" then some true else some false
  | .str _ => if T = "str" then some true else some false
  | .tup _ => if T = "tuple" then some true else some false
  | .lst _ => if T = "list" then some true else some false
  | .scr _ => if T = "list" then some true else some false
  | .ob _ _ => none
def tyD : D → Option String
  | .non => some "NoneType"
  | .bl _ => some "bool"
  | .int _ => some "int"
  | .str _ => some "str"
  | .tup _ => some "tuple"
  | .lst _ => some "list"
  | .scr _ => some "list"
  | .ob _ _ => none
def mIsi (T : String) (m : ME) : ME := fun env => (m env).bind fun d e => R.of ((isT T d).map .bl) e
/-- the classes' answers -/
structure KitOk (T : String) : Prop where
  non : kitB "NoneType" T = some false
  bl : kitB "bool" T = some (decide (T = "bool" ∨ T = "int"))
  int : kitB "int" T = some (decide (T = "int"))
  str : kitB "str" T = some (decide (T = "str"))
  tup : kitB "tuple" T = some (decide (T = "tuple"))
  lst : kitB "list" T = some (decide (T = "list"))
theorem kit_int : KitOk "int" := ⟨by decide +kernel, by decide +kernel, by decide +kernel, by decide +kernel, by decide +kernel, by decide +kernel⟩
theorem kit_bool : KitOk "bool" := ⟨by decide +kernel, by decide +kernel, by decide +kernel, by decide +kernel, by decide +kernel, by decide +kernel⟩
theorem kit_tuple : KitOk "tuple" := ⟨by decide +kernel, by decide +kernel, by decide +kernel, by decide +kernel, by decide +kernel, by decide +kernel⟩
theorem kit_str : KitOk "str" := ⟨by decide +kernel, by decide +kernel, by decide +kernel, by decide +kernel, by decide +kernel, by decide +kernel⟩
theorem isT_kit {T : String} (k : KitOk T) {K : PySem.W.Frag} {cl : Nat → Addr} {I H : Hp} (s : Same I H) {v : V} {d : D} {b : Bool} (r : RD K cl I v d) (h : isT T d = some b) : ∃ t, TyX K H v (.type t) ∧ kitB t T = some b := by
  cases r with
  | non => exact ⟨_, .base .non, by cases h; exact k.non⟩
  | bl x =>
    refine ⟨_, .base (.bl x), ?_⟩
    rw [k.bl]
    by_cases z : T = "bool" ∨ T = "int"
    · simp only [isT, z, if_true] at h; cases h; rw [decide_eq_true z]
    · simp only [isT, z, if_false] at h; cases h; rw [decide_eq_false z]
  | int x =>
    refine ⟨_, .base (.int x), ?_⟩
    rw [k.int]
    by_cases z : T = "int"
    · simp only [isT, z, if_true] at h; cases h; rw [decide_eq_true z]
    · simp only [isT, z, if_false] at h; cases h; rw [decide_eq_false z]
  | str x =>
    refine ⟨_, .base (.str x), ?_⟩
    rw [k.str]
    by_cases z : T = "str"
    · simp only [isT, z, if_true] at h; cases h; rw [decide_eq_true z]
    · simp only [isT, z, if_false] at h; cases h; rw [decide_eq_false z]
  | @tup a xs ds hq hr =>
    refine ⟨"tuple", ?_, ?_⟩
    · rcases hq with (hq | ⟨o, hq⟩) | ⟨o, its, n, h1, h2, _⟩
      · exact .base (.tup (s _ _ hq))
      · exact .fTuple (s _ _ hq)
      · exact .kTuple h1 h2
    · rw [k.tup]
      by_cases z : T = "tuple"
      · simp only [isT, z, if_true] at h; cases h; rw [decide_eq_true z]
      · simp only [isT, z, if_false] at h; cases h; rw [decide_eq_false z]
  | @lst a xs ds hq hr =>
    refine ⟨"list", .base (.lst (s _ _ hq)), ?_⟩
    rw [k.lst]
    by_cases z : T = "list"
    · simp only [isT, z, if_true] at h; cases h; rw [decide_eq_true z]
    · simp only [isT, z, if_false] at h; cases h; rw [decide_eq_false z]
  | @scr a xs ds hq hr =>
    refine ⟨"list", ?_, ?_⟩
    · rcases hq with (hq | ⟨o, hq⟩) | ⟨o, its, n, h1, h2, _⟩
      · exact .base (.lst (s _ _ hq))
      · exact .base (.frz (s _ _ hq))
      · exact .kList h1 h2
    · rw [k.lst]
      by_cases z : T = "list"
      · simp only [isT, z, if_true] at h; cases h; rw [decide_eq_true z]
      · simp only [isT, z, if_false] at h; cases h; rw [decide_eq_false z]
  | ob _ _ => cases h
section
variable {X : Cx} {c : Cc} {f : Fr} {W : WX} {pos p p2 : Pos} {e : Expr} {m : ME}
theorem me_isi {T : String} {xT : Str} (k : KitOk T) (hm : X.mg "isinstance" = none) (hmT : X.mg xT = none) (hvT : bootBuiltins xT = some (.type T)) (h : MEx X c f W e m) (hg : Gl X "isinstance" := by rfl) (hgT : Gl X xT := by rfl) (hnT : xT ≠ "__name__" := by decide) (hdT : (xT == ("__debug__" : Str)) = false := by decide)
    (he : starEach [e, .Name xT p2] X.env = (false, eval e X.env) :: starEach [.Name xT p2] X.env := by rfl) (he2 : starEach [.Name xT p2] X.env = (false, eval (.Name xT p2) X.env) :: starEach [] X.env := by rfl) (hpl : (backTo pos (starEach [.Name xT p2] X.env)).any (·.1) = false := by rfl) :
    MEx X c f W (.Call (.Name "isinstance" p) [e, .Name xT p2] [] pos) (mIsi T m) := by
  obtain ⟨t, pt, s⟩ := h
  refine ⟨_, pe_callB call_isi hg hm (by decide +kernel) (pa_cons pt (pa_cons (pe_bltn (v := .ty T) hgT hmT hvT rfl hnT hdT) pa_nil he2) he) (he := he) (hpl := hpl), fun I H σ env Q r h => ?_⟩
  refine s.bind r h fun d env1 I1 H1 v s1 r1 rv h1 => ?_
  cases eb : isT T d with
  | none => rw [eb] at h1; exact h1.elim
  | some b =>
    rw [eb] at h1
    obtain ⟨t, ty, kb⟩ := isT_kit k r1.sub rv eb
    exact ⟨v, .ty T, .type t, .type T, b, rfl, .ty T, ty, kit_ty kb, PostR.now h1 r1 (.bl b)⟩
end
end Y

set_option Elab.async false
set_option linter.all false
set_option maxRecDepth 100000
set_option maxHeartbeats 2000000
namespace Y
open PySem PySem.Spec PyProof.Rows L2

/-! ### statements -/
inductive SR where
  | nx (env : Env) | rt (d : D) (env : Env) | bk (env : Env) | ct (env : Env) | bad (nm : Str) (env : Env) | stuck
abbrev SX := Env → SR
/-- a result taken on into a statement -/
def R.go {α : Type} (r : R α) (k : α → Env → SR) : SR := match r with
  | .ok a env => k a env
  | .bad nm env => .bad nm env
  | .stuck => .stuck
def PostS (K : PySem.W.Frag) (c : Cc) (f : Fr) (W : WX) (D : Ends) (I : Hp) : SR → Prop
  | .nx env => ∀ I' H' σ', Same I I' → Rst K c f I' H' σ' env → D.nx σ' H'
  | .rt d env => ∀ I' H' σ' v, Same I I' → Rst K c f I' H' σ' env → RD K c.cl I' v d → D.rt v H'
  | .bk env => ∀ I' H' σ', Same I I' → Rst K c f I' H' σ' env → D.bk σ' H'
  | .ct env => ∀ I' H' σ', Same I I' → Rst K c f I' H' σ' env → D.ct σ' H'
  | .bad nm env => ∀ I' H' σ' dx, Same I I' → Rst K c f I' H' σ' env → H' dx = some (.xd [(("name" : Str), .str nm)]) → W (.ref c.bad) (some dx) σ' H'
  | .stuck => False
def SimS (K : PySem.W.Frag) (c : Cc) (f : Fr) (W : WX) (t : TS) (m : SX) : Prop := ∀ (I H : Hp) (σ : L2.St) (env : Env) (D : Ends), Rst K c f I H σ env → PostS K c f W D I (m env) → t D σ H
def MSx (X : Cx) (c : Cc) (f : Fr) (W : WX) (st : Stmt) (m : SX) : Prop := ∃ t, PS X st t ∧ SimS X.K c f W t m
def MBx (X : Cx) (c : Cc) (f : Fr) (W : WX) (sts : List Stmt) (m : SX) : Prop := ∃ t, PSs X sts t ∧ SimS X.K c f W t m
section
variable {K : PySem.W.Frag} {c : Cc} {f : Fr} {W : WX}
theorem PostS.mono {D : Ends} {I I' : Hp} {r : SR} (s : Same I I') (h : PostS K c f W D I r) : PostS K c f W D I' r := by
  cases r with
  | nx env => exact fun I2 H2 σ2 s2 q => h I2 H2 σ2 (s.trans s2) q
  | rt d env => exact fun I2 H2 σ2 v s2 q => h I2 H2 σ2 v (s.trans s2) q
  | bk env => exact fun I2 H2 σ2 s2 q => h I2 H2 σ2 (s.trans s2) q
  | ct env => exact fun I2 H2 σ2 s2 q => h I2 H2 σ2 (s.trans s2) q
  | bad nm env => exact fun I2 H2 σ2 dx s2 q => h I2 H2 σ2 dx (s.trans s2) q
  | stuck => exact h
theorem PostS.go {α : Type} {D : Ends} {σ : L2.St} {P : α → Env → Hp → Hp → Prop} {I : Hp} {r : R α} {k : α → Env → SR} (h : PostS K c f W D I (r.go k))
    (hk : ∀ a env I' H', Same I I' → Rst K c f I' H' σ env → PostS K c f W D I' (k a env) → P a env I' H') : PostR K c f W σ P I r := by
  cases r with
  | ok a env => exact fun I' H' s q => hk a env I' H' s q (PostS.mono s h)
  | bad nm env => exact fun I' H' dx s q => h I' H' σ dx s q
  | stuck => exact h
theorem SimE.go {te : TE} {m : ME} {D : Ends} {σ : L2.St} {I H : Hp} {env : Env} {k : Y.D → Env → SR} {Q : VK} (s : SimE K c f W te m) (r : Rst K c f I H σ env) (h : PostS K c f W D I ((m env).go k))
    (hk : ∀ d env1 I1 H1 v, Same I I1 → Rst K c f I1 H1 σ env1 → RD K c.cl I1 v d → PostS K c f W D I1 (k d env1) → Q v H1) : te σ H Q :=
  s I H σ env Q r (h.go fun d env1 I1 H1 s1 r1 q1 v rv => hk d env1 I1 H1 v s1 r1 rv q1)
theorem SimT.go {tt : TT} {m : MT} {D : Ends} {σ : L2.St} {I H : Hp} {env : Env} {k : Bool → Env → SR} {Q : Bool → Hp → Prop} (s : SimT K c f W tt m) (r : Rst K c f I H σ env) (h : PostS K c f W D I ((m env).go k))
    (hk : ∀ d env1 I1 H1, Same I I1 → Rst K c f I1 H1 σ env1 → PostS K c f W D I1 (k d env1) → Q d H1) : tt σ H Q :=
  s I H σ env Q r (h.go fun d env1 I1 H1 s1 r1 q1 => hk d env1 I1 H1 s1 r1 q1)
theorem SimA.go {ta : TA} {m : MA} {D : Ends} {σ : L2.St} {I H : Hp} {env : Env} {k : List Y.D → Env → SR} {Q : List V → Hp → Prop} (s : SimA K c f W ta m) (r : Rst K c f I H σ env) (h : PostS K c f W D I ((m env).go k))
    (hk : ∀ d env1 I1 H1 v, Same I I1 → Rst K c f I1 H1 σ env1 → RDs K c.cl I1 v d → PostS K c f W D I1 (k d env1) → Q v H1) : ta σ H Q :=
  s I H σ env Q r (h.go fun d env1 I1 H1 s1 r1 q1 v rv => hk d env1 I1 H1 v s1 r1 rv q1)

/-! ### slots are set -/
theorem get_set {α : Type} {l : List α} {i j : Nat} {x y : α} (h : (l.set i x)[j]? = some y) : (i = j ∧ x = y) ∨ (i ≠ j ∧ l[j]? = some y) := by
  by_cases e : i = j
  · subst e
    by_cases hl : i < l.length
    · rw [List.getElem?_set_self hl] at h; exact .inl ⟨rfl, Option.some.inj h⟩
    · rw [List.getElem?_eq_none (by rw [List.length_set]; omega)] at h; cases h
  · rw [List.getElem?_set_ne e] at h; exact .inr ⟨e, h⟩
/-- a slot gets a known value -/
theorem Rst.set {I H : Hp} {σ : L2.St} {env : Env} (r : Rst K c f I H σ env) {i : Nat} {v : V} {d : Y.D} (hi : f.io = none ∨ i ≠ 0) (rv : RD K c.cl I v d) : Rst K c f I H (σ.set i (some v)) (env.set i (.va d)) := by
  refine ⟨r.sub, r.fr0, r.t1, r.t2, r.it, by rw [List.length_set, List.length_set]; exact r.len, fun j e h => ?_, fun j l h => ?_, fun j k l l' p a b ha hb => ?_, fun p hp => ?_, r.ni⟩
  · rcases get_set h with ⟨rfl, e1⟩ | ⟨ne, h⟩
    · cases e1
      have hl : i < env.length := by
        have := (List.getElem?_eq_some_iff.mp h).1
        rw [List.length_set] at this; exact this
      exact ⟨v, by rw [List.getElem?_set_self (Nat.lt_of_lt_of_le hl r.len)], rv⟩
    · obtain ⟨u, h1, h2⟩ := r.va j e h
      exact ⟨u, by rw [List.getElem?_set_ne ne]; exact h1, h2⟩
  · rcases get_set h with ⟨rfl, e1⟩ | ⟨ne, h⟩
    · cases e1
    · obtain ⟨p, vs, h1, h2⟩ := r.ow j l h
      exact ⟨p, vs, by rw [List.getElem?_set_ne ne]; exact h1, h2⟩
  · rcases get_set a with ⟨rfl, e1⟩ | ⟨ne, a⟩
    · cases e1
    · rcases get_set b with ⟨rfl, e1⟩ | ⟨ne2, b⟩
      · cases e1
      · rw [List.getElem?_set_ne ne] at ha
        rw [List.getElem?_set_ne ne2] at hb
        exact r.nd j k l l' p a b ha hb
  · have hi0 : i ≠ 0 := by
      rcases hi with z | z
      · rw [z] at hp; cases hp
      · exact z
    obtain ⟨a, l0, b⟩ := r.io0 p hp
    exact ⟨by rw [List.getElem?_set_ne hi0]; exact a, l0, by rw [List.getElem?_set_ne hi0]; exact b⟩
/-- a slot gets a list of its own -/
theorem Rst.setO {I H : Hp} {σ : L2.St} {env : Env} (r : Rst K c f I H σ env) {i : Nat} {p : Addr} {vs : List V} {l : List Y.D} (hi : f.io = none ∨ i ≠ 0) (rv : RDs K c.cl I vs l) (hp : H p = some (.lst vs)) (hI : I p = none) (fr : Fresh f σ env p) :
    Rst K c f I H (σ.set i (some (.ref p))) (env.set i (.ow l)) := by
  refine ⟨r.sub, r.fr0, r.t1, r.t2, r.it, by rw [List.length_set, List.length_set]; exact r.len, fun j e h => ?_, fun j l' h => ?_, fun j k l1 l2 q a b ha hb => ?_, fun p hp => ?_, r.ni⟩
  · rcases get_set h with ⟨rfl, e1⟩ | ⟨ne, h⟩
    · cases e1
    · obtain ⟨u, h1, h2⟩ := r.va j e h
      exact ⟨u, by rw [List.getElem?_set_ne ne]; exact h1, h2⟩
  · rcases get_set h with ⟨rfl, e1⟩ | ⟨ne, h⟩
    · cases e1
      have hl : i < env.length := by
        have := (List.getElem?_eq_some_iff.mp h).1
        rw [List.length_set] at this; exact this
      exact ⟨p, vs, by rw [List.getElem?_set_self (Nat.lt_of_lt_of_le hl r.len)], hp, rv, hI, .inl fr.h0⟩
    · obtain ⟨q, ws, h1, h2⟩ := r.ow j l' h
      exact ⟨q, ws, by rw [List.getElem?_set_ne ne]; exact h1, h2⟩
  · have hl : ∀ {j : Nat} {x : Sl}, (env.set i x)[j]? = some x → j < σ.length := fun {j x} h => by
      have := (List.getElem?_eq_some_iff.mp h).1
      rw [List.length_set] at this
      exact Nat.lt_of_lt_of_le this r.len
    rcases get_set a with ⟨rfl, e1⟩ | ⟨ne, a'⟩
    · rcases get_set b with ⟨rfl, e2⟩ | ⟨ne2, b'⟩
      · rfl
      · rw [List.getElem?_set_ne ne2] at hb
        cases e1
        rw [List.getElem?_set_self (hl a)] at ha
        cases ha
        exact absurd hb (fr.no k l2 b')
    · rw [List.getElem?_set_ne ne] at ha
      rcases get_set b with ⟨rfl, e2⟩ | ⟨ne2, b'⟩
      · cases e2
        rw [List.getElem?_set_self (hl b)] at hb
        cases hb
        exact absurd ha (fr.no j l1 a')
      · rw [List.getElem?_set_ne ne2] at hb
        exact r.nd j k l1 l2 q a' b' ha hb
  · have hi0 : i ≠ 0 := by
      rcases hi with z | z
      · rw [z] at hp; cases hp
      · exact z
    obtain ⟨a, l0, b⟩ := r.io0 p hp
    exact ⟨by rw [List.getElem?_set_ne hi0]; exact a, l0, by rw [List.getElem?_set_ne hi0]; exact b⟩
/-- an owned list is changed -/
theorem Rst.chg {I H : Hp} {σ : L2.St} {env : Env} (r : Rst K c f I H σ env) {i : Nat} {p : Addr} {vs : List V} {l l' : List Y.D} (e : env[i]? = some (.ow l)) (hσ : σ[i]? = some (some (.ref p))) (rv : RDs K c.cl I vs l') :
    Rst K c f I (upd H p (.lst vs)) σ (env.set i (.ow l')) := by
  obtain ⟨p', ws, h1, h2, h3, h4, h5⟩ := r.ow i l e
  rw [hσ] at h1; cases h1
  have nt : ¬ c.isT p := fun z => by
    rcases z with z | ⟨q, z⟩
    · obtain ⟨ps, h, _⟩ := r.t1 _ z; rw [h2] at h; cases h
    · obtain ⟨ps, h, _⟩ := r.t2 _ z; rw [h2] at h; cases h
  have hl : i < env.length := (List.getElem?_eq_some_iff.mp e).1
  refine ⟨fun a o q => ?_, fun a o q n n2 => ?_, fun P hP => ?_, fun q hq => ?_, r.it, by rw [List.length_set]; exact r.len, fun j d h => ?_, fun j m h => ?_, fun j k l1 l2 q a b ha hb => ?_, fun q hq => ?_, r.ni⟩
  · have : a ≠ p := fun z => by rw [z, h4] at q; cases q
    rw [upd_ne this]; exact r.sub a o q
  · have : a ≠ p := fun z => by
      rcases h5 with h5 | h5
      · rw [z, h5] at q; cases q
      · exact n (by rw [h5, z])
    rw [upd_ne this]; exact r.fr0 a o q n n2
  · obtain ⟨ps, a1, a2⟩ := r.t1 P hP
    exact ⟨ps, by rw [upd_ne (fun z => nt (by rw [← z]; exact .inl hP))]; exact a1, a2⟩
  · obtain ⟨ps, a1, a2, a3⟩ := r.t2 q hq
    refine ⟨ps, by rw [upd_ne (fun z => nt (by rw [← z]; exact .inr ⟨q.2, hq⟩))]; exact a1, a2, fun pos cv hc => ?_⟩
    obtain ⟨c0, b1, b2⟩ := a3 pos cv hc
    refine ⟨c0, b1, ?_⟩
    rw [upd_ne (fun z => by rw [z, h2] at b2; unfold LamX.CodeO at b2; cases b2)]
    exact b2
  · rcases get_set h with ⟨rfl, e1⟩ | ⟨ne, h⟩
    · cases e1
    · exact r.va j d h
  · rcases get_set h with ⟨rfl, e1⟩ | ⟨ne, h⟩
    · cases e1
      exact ⟨p, vs, hσ, upd_same, rv, h4, h5⟩
    · obtain ⟨q, us, a1, a2, a3, a4, a5⟩ := r.ow j m h
      have : q ≠ p := fun z => ne (r.nd i j l m p e h hσ (z ▸ a1))
      exact ⟨q, us, a1, by rw [upd_ne this]; exact a2, a3, a4, a5⟩
  · have key : ∀ {j : Nat} {m : List Y.D}, (env.set i (.ow l'))[j]? = some (.ow m) → ∃ m', env[j]? = some (.ow m') := fun {j m} h => by
      rcases get_set h with ⟨rfl, _⟩ | ⟨_, h⟩
      · exact ⟨l, e⟩
      · exact ⟨m, h⟩
    obtain ⟨m1, a'⟩ := key a
    obtain ⟨m2, b'⟩ := key b
    exact r.nd j k m1 m2 q a' b' ha hb
  · obtain ⟨a, l0, b⟩ := r.io0 q hq
    refine ⟨a, ?_⟩
    by_cases z : i = 0
    · subst z; exact ⟨l', by rw [List.getElem?_set_self hl]⟩
    · exact ⟨l0, by rw [List.getElem?_set_ne z]; exact b⟩
end

/-! ### blocks and small statements -/
def sSeq (a b : SX) : SX := fun env => match a env with
  | .nx e => b e
  | r => r
def sNil : SX := fun env => .nx env
def sSet (i : Nat) (m : ME) : SX := fun env => (m env).go fun d e => .nx (e.set i (.va d))
def sSetO (i : Nat) (m : ML) : SX := fun env => (m env).go fun l e => .nx (e.set i (.ow l))
def sRet (m : ME) : SX := fun env => (m env).go fun d e => .rt d e
def sRetN : SX := fun env => .rt .non env
def sIf (t : MT) (a b : SX) : SX := fun env => (t env).go fun x e => if x then a e else b e
def sDrop (m : ME) : SX := fun env => (m env).go fun _ e => .nx e
def sBreak : SX := fun env => .bk env
def sCont : SX := fun env => .ct env
section
variable {X : Cx} {c : Cc} {f : Fr} {W : WX} {pos p2 : Pos} {st : Stmt} {rest : List Stmt} {e : Expr} {m : ME} {ml : ML} {a b : SX} {x : Str}
theorem mb_nil : MBx X c f W [] sNil := ⟨_, pss_nil, fun I H σ env D r h => h I H σ (Same.refl I) r⟩
theorem sim_seq {K : PySem.W.Frag} {t u : TS} (s : SimS K c f W t a) (s' : SimS K c f W u b) : SimS K c f W (tSeq t u) (sSeq a b) := by
  intro I H σ env D r h
  refine s I H σ env _ r ?_
  unfold sSeq at h
  cases e : a env with
  | nx e1 => rw [e] at h; exact fun I' H' σ' s1 r1 => s' I' H' σ' e1 D r1 (PostS.mono s1 h)
  | rt d e1 => rw [e] at h; exact h
  | bk e1 => rw [e] at h; exact h
  | ct e1 => rw [e] at h; exact h
  | bad nm e1 => rw [e] at h; exact h
  | stuck => rw [e] at h; exact h
theorem mb_cons (h : MSx X c f W st a) (h2 : MBx X c f W rest b) : MBx X c f W (st :: rest) (sSeq a b) := by
  obtain ⟨t, p, s⟩ := h
  obtain ⟨u, q, s'⟩ := h2
  exact ⟨_, pss_cons p q, sim_seq s s'⟩
theorem mb_one (h : MSx X c f W st a) : MBx X c f W [st] a := by
  obtain ⟨t, p, s⟩ := h
  exact ⟨_, pss_one p, s⟩
theorem ms_set (i : Nat) (h : MEx X c f W e m) (hi : f.io = none ∨ i ≠ 0 := by first | exact .inl rfl | exact .inr (by decide)) (hN : X.N.Nodup) (hx : X.N[i]? = some x := by rfl) (hl : Loc X.env.scope x := by first | exact .inl rfl | exact .inr rfl)
    (hs : swapsWith e (some (.Name x p2)) pos.line X.env = pure false := by rfl) (hf : X.fn x = true ∨ X.env.scope.names.lookup x = some .local := by first | exact .inl rfl | exact .inr rfl) : MSx X c f W (.Assign [.Name x p2] e pos) (sSet i m) := by
  obtain ⟨t, p, s⟩ := h
  refine ⟨_, ps_set (i := i) hN hx hl p hs hf, fun I H σ env D r h => ?_⟩
  exact s.go r h fun d env1 I1 H1 v s1 r1 rv h1 => h1 I1 H1 _ (Same.refl I1) (r1.set hi rv)
theorem ms_setO (i : Nat) (h : MLx X c f W e ml) (hi : f.io = none ∨ i ≠ 0 := by first | exact .inl rfl | exact .inr (by decide)) (hN : X.N.Nodup) (hx : X.N[i]? = some x := by rfl) (hl : Loc X.env.scope x := by first | exact .inl rfl | exact .inr rfl)
    (hs : swapsWith e (some (.Name x p2)) pos.line X.env = pure false := by rfl) (hf : X.fn x = true ∨ X.env.scope.names.lookup x = some .local := by first | exact .inl rfl | exact .inr rfl) : MSx X c f W (.Assign [.Name x p2] e pos) (sSetO i ml) := by
  obtain ⟨t, p, s⟩ := h
  refine ⟨_, ps_set (i := i) hN hx hl p hs hf, fun I H σ env D r h => ?_⟩
  exact s I H σ env _ r (h.go fun l env1 I1 H1 s1 r1 h1 p vs rv hp hI fr => h1 I1 H1 _ (Same.refl I1) (r1.setO hi rv hp hI fr))
theorem ms_ret (h : MEx X c f W e m) : MSx X c f W (.Return (some e) pos) (sRet m) := by
  obtain ⟨t, p, s⟩ := h
  refine ⟨_, ps_ret p, fun I H σ env D r h => ?_⟩
  exact s.go r h fun d env1 I1 H1 v s1 r1 rv h1 => h1 I1 H1 σ v (Same.refl I1) r1 rv
theorem ms_retN : MSx X c f W (.Return none pos) sRetN := ⟨_, ps_retN, fun I H σ env D r h => h I H σ .non (Same.refl I) r .non⟩
theorem ms_break : MSx X c f W (.Break pos) sBreak := ⟨_, ps_break, fun I H σ env D r h => h I H σ (Same.refl I) r⟩
theorem ms_continue : MSx X c f W (.Continue pos) sCont := ⟨_, ps_continue, fun I H σ env D r h => h I H σ (Same.refl I) r⟩
theorem ms_pass : MSx X c f W (.Pass pos) sNil := ⟨_, ps_pass, fun I H σ env D r h => h I H σ (Same.refl I) r⟩
theorem ms_expr (h : MEx X c f W e m) (hs : swapsWith e none pos.line X.env = pure false := by rfl) : MSx X c f W (.Expr e pos) (sDrop m) := by
  obtain ⟨t, p, s⟩ := h
  refine ⟨_, ps_expr p hs, fun I H σ env D r h => ?_⟩
  exact s.go r h fun d env1 I1 H1 v s1 r1 rv h1 => h1 I1 H1 σ (Same.refl I1) r1
theorem ms_if {t : Expr} {mt : MT} {sa sb : List Stmt} (ht : MTx X c f W t mt) (ha : MBx X c f W sa a) (hb : MBx X c f W sb b) : MSx X c f W (.If t sa sb pos) (sIf mt a b) := by
  obtain ⟨tt, pt, stt⟩ := ht
  obtain ⟨t1, p1, s1⟩ := ha
  obtain ⟨t2, p2, s2⟩ := hb
  refine ⟨_, ps_if pt p1 p2, fun I H σ env D r h => ?_⟩
  refine stt.go r h fun x env1 I1 H1 s r1 h1 => ?_
  cases x with
  | true => exact iteT (s1 I1 H1 σ env1 D r1 h1)
  | false => exact iteF (s2 I1 H1 σ env1 D r1 h1)

/-! ### owned lists are changed -/
def sAppend (i : Nat) (m : ME) : SX := fun env => match env[i]? with
  | some (.ow _) => (m env).go fun d e => match e[i]? with
    | some (.ow l) => if l.length < big then .nx (e.set i (.ow (l ++ [d]))) else .stuck
    | _ => .stuck
  | _ => .stuck
def sExtend (i : Nat) (m : ME) : SX := fun env => match env[i]? with
  | some (.ow _) => (m env).go fun d e => match e[i]?, d with
    | some (.ow l), .lst k => if l.length + k.length ≤ big then .nx (e.set i (.ow (l ++ k))) else .stuck
    | _, _ => .stuck
  | _ => .stuck
def sSetIx (i : Nat) (mi mv : ME) : SX := fun env => (mv env).go fun d e => match e[i]? with
  | some (.ow _) => (mi e).go fun k e => match e[i]?, k with
    | some (.ow l), .int k => (match ixN l.length k with
      | some j => .nx (e.set i (.ow (l.set j d)))
      | none => .stuck)
    | _, _ => .stuck
  | _ => .stuck
theorem big_lt {n : Nat} (h : n < big) : n < sizeLine := Nat.lt_of_lt_of_le h (by decide)
theorem ms_append (i : Nat) {p3 p4 : Pos} (h : MEx X c f W e m) (hN : X.N[i]? = some x := by rfl) (hv : Vis X.env.scope x := by first | exact Or.inl rfl | exact Or.inr (Or.inl rfl) | exact Or.inr (Or.inr rfl)) (he : starEach [e] X.env = (false, eval e X.env) :: starEach [] X.env := by rfl)
    (hd : (x == ("__debug__" : Str)) = false := by decide) (hcd : (x == ("__classdict__" : Str)) = false := by decide)
    (hP : ∀ to t, PE X (.Name x p2) to → PA X [e] t → PE X (.Call (.Attribute (.Name x p2) "append" p3) [e] [] p4) (tBM X.K "list" rAppend to t) := by intro to t ho ha; exact pe_bm PySem.F.plainAttrs_list PySem.F.slot_list_append PySem.F.type_list_append mt_append ho ha)
    (hs : swapsWith (.Call (.Attribute (.Name x p2) "append" p3) [e] [] p4) none pos.line X.env = pure false := by rfl) :
    MSx X c f W (.Expr (.Call (.Attribute (.Name x p2) "append" p3) [e] [] p4) pos) (sAppend i m) := by
  obtain ⟨t, p, s⟩ := h
  refine ⟨_, ps_expr (hP _ _ (pe_var (i := i) hN hv hd hcd) (pa_cons p pa_nil he)) hs, fun I H σ env D r h => ?_⟩
  unfold sAppend at h
  split at h
  · rename_i l0 e0
    obtain ⟨q, vs, h1, h2, _⟩ := r.ow i l0 e0
    refine ⟨_, h1, .inl ⟨rfl, _, .inl (.inl h2)⟩, ?_⟩
    refine s.go r h fun d env1 I1 H1 v s1 r1 rv h3 => ?_
    split at h3
    · rename_i l e1
      obtain ⟨q', ws, a1, a2, a3, _⟩ := r1.ow i l e1
      rw [h1] at a1; cases a1
      by_cases hl : l.length < big
      · rw [if_pos hl] at h3
        refine ⟨q, ws, v, rfl, rfl, a2, big_lt (by rw [a3.length]; exact hl), ?_⟩
        exact h3 I1 _ σ (Same.refl I1) (r1.chg e1 h1 (a3.append (.cons rv .nil)))
      · rw [if_neg hl] at h3; exact h3.elim
    · exact h3.elim
  · exact h.elim
theorem ms_extend (i : Nat) {p3 p4 : Pos} (h : MEx X c f W e m) (hN : X.N[i]? = some x := by rfl) (hv : Vis X.env.scope x := by first | exact Or.inl rfl | exact Or.inr (Or.inl rfl) | exact Or.inr (Or.inr rfl)) (he : starEach [e] X.env = (false, eval e X.env) :: starEach [] X.env := by rfl)
    (hd : (x == ("__debug__" : Str)) = false := by decide) (hcd : (x == ("__classdict__" : Str)) = false := by decide)
    (hP : ∀ to t, PE X (.Name x p2) to → PA X [e] t → PE X (.Call (.Attribute (.Name x p2) "extend" p3) [e] [] p4) (tBM X.K "list" rExtend to t) := by intro to t ho ha; exact pe_bm PySem.F.plainAttrs_list PySem.F.slot_list_extend PySem.F.type_list_extend mt_extend ho ha)
    (hs : swapsWith (.Call (.Attribute (.Name x p2) "extend" p3) [e] [] p4) none pos.line X.env = pure false := by rfl) :
    MSx X c f W (.Expr (.Call (.Attribute (.Name x p2) "extend" p3) [e] [] p4) pos) (sExtend i m) := by
  obtain ⟨t, p, s⟩ := h
  refine ⟨_, ps_expr (hP _ _ (pe_var (i := i) hN hv hd hcd) (pa_cons p pa_nil he)) hs, fun I H σ env D r h => ?_⟩
  unfold sExtend at h
  split at h
  · rename_i l0 e0
    obtain ⟨q, vs, h1, h2, _⟩ := r.ow i l0 e0
    refine ⟨_, h1, .inl ⟨rfl, _, .inl (.inl h2)⟩, ?_⟩
    refine s.go r h fun d env1 I1 H1 v s1 r1 rv h3 => ?_
    split at h3
    · rename_i l k e1
      obtain ⟨q', ws, a1, a2, a3, _⟩ := r1.ow i l e1
      rw [h1] at a1; cases a1
      by_cases hl : l.length + k.length ≤ big
      · rw [if_pos hl] at h3
        cases rv with
        | @lst b zs _ hb hr =>
          refine ⟨q, b, ws, zs, rfl, rfl, a2, r1.sub _ _ hb, big_le (by rw [a3.length, hr.length]; exact hl), ?_⟩
          exact h3 I1 _ σ (Same.refl I1) (r1.chg e1 h1 (a3.append hr))
      · rw [if_neg hl] at h3; exact h3.elim
    · exact h3.elim
  · exact h.elim
theorem ms_setIx (i : Nat) {p3 p4 : Pos} {ix : Expr} {mi : ME} (hv : MEx X c f W e m) (hi : MEx X c f W ix mi) (hN : X.N[i]? = some x := by rfl) (hvis : Vis X.env.scope x := by first | exact Or.inl rfl | exact Or.inr (Or.inl rfl) | exact Or.inr (Or.inr rfl)) (hd : (x == ("__debug__" : Str)) = false := by decide) (hcd : (x == ("__classdict__" : Str)) = false := by decide)
    (hP : ∀ te to ti, PE X e te → PE X (.Name x p2) to → PE X ix ti → PS X (.Assign [.Subscript (.Name x p2) ix p3] e pos) (tAsg te (gSub to ti rSetL)) := by intro te to ti h1 h2 h3; exact ps_asg h1 (pg_sub h2 h3 set_list)) :
    MSx X c f W (.Assign [.Subscript (.Name x p2) ix p3] e pos) (sSetIx i mi m) := by
  obtain ⟨t, p, s⟩ := hv
  obtain ⟨t2, pi, si⟩ := hi
  refine ⟨_, hP _ _ _ p (pe_var (i := i) hN hvis hd hcd) pi, fun I H σ env D r h => ?_⟩
  refine s.go r h fun d env1 I1 H1 v s1 r1 rv h1 => ?_
  split at h1
  · rename_i l0 e0
    obtain ⟨q, vs, a1, _⟩ := r1.ow i l0 e0
    refine ⟨_, a1, ?_⟩
    refine si.go r1 h1 fun k env2 I2 H2 u s2 r2 ru h2 => ?_
    split at h2
    · rename_i l k e1
      obtain ⟨q', ws, b1, b2, b3, _⟩ := r2.ow i l e1
      rw [a1] at b1; cases b1
      cases ru
      split at h2
      · rename_i j ej
        refine ⟨q, ws, k, j, rfl, rfl, b2, by rw [b3.length]; exact ej, ?_⟩
        exact h2 I2 _ σ (Same.refl I2) (r2.chg e1 a1 (b3.set (rv.mono s2) j))
      · exact h2.elim
    · exact h2.elim
  · exact h1.elim
/-- x += e, x -= e of ints -/
def sAug (i : Nat) (g : Int → Int → Int) (m : ME) : SX := fun env => match env[i]? with
  | some (.va (.int a)) => (m env).go fun d e => match d with
    | .int b => .nx (e.set i (.va (.int (g a b))))
    | _ => .stuck
  | _ => .stuck
theorem ms_aug (i : Nat) {op : Operator} {g : Int → Int → Int} (ho : PIp X op (ipI g)) (h : MEx X c f W e m) (hi : f.io = none ∨ i ≠ 0 := by first | exact .inl rfl | exact .inr (by decide)) (hN : X.N.Nodup) (hx : X.N[i]? = some x := by rfl) (hl : Loc X.env.scope x := by first | exact .inl rfl | exact .inr rfl)
    (hf : X.fn x = true ∨ X.env.scope.names.lookup x = some .local := by first | exact .inl rfl | exact .inr rfl) : MSx X c f W (.AugAssign (.Name x p2) op e pos) (sAug i g m) := by
  obtain ⟨t, p, s⟩ := h
  refine ⟨_, ps_aug (i := i) hN hx hl p ho hf, fun I H σ env D r h => ?_⟩
  unfold sAug at h
  split at h
  · rename_i a e0
    obtain ⟨v, h1, rv⟩ := r.va i _ e0
    cases rv
    refine ⟨_, h1, ?_⟩
    refine s.go r h fun d env1 I1 H1 u s1 r1 ru h2 => ?_
    split at h2
    · cases ru
      exact ⟨_, _, rfl, rfl, h2 I1 H1 _ (Same.refl I1) (r1.set hi (.int _))⟩
    · exact h2.elim
  · exact h.elim
/-- a, b = x, y: two plain names -/
def sPar (i j : Nat) (m : MA) : SX := fun env => (m env).go fun ds e => match ds with
  | [a, b] => .nx ((e.set i (.va a)).set j (.va b))
  | _ => .stuck
theorem ms_par (i j : Nat) {x y : Str} {a b : Expr} {m : MA} {px py pt : Pos} {kt k2 pt2} (h : MAx X c f W [a, b] m) (hi : f.io = none ∨ i ≠ 0 := by first | exact .inl rfl | exact .inr (by decide)) (hj : f.io = none ∨ j ≠ 0 := by first | exact .inl rfl | exact .inr (by decide)) (hN : X.N.Nodup)
    (hc : X.calm = true := by rfl) (hxi : X.N[i]? = some x := by rfl) (hyj : X.N[j]? = some y := by rfl) (hij : i ≠ j := by decide) (hx : X.env.scope.names.lookup x = some .local := by rfl) (hy : X.env.scope.names.lookup y = some .local := by rfl)
    (hw : swappedStores [.Tuple [.Name x px, .Name y py] kt pt] (.Tuple [a, b] k2 pt2) X.env = pure (some [x, y]) := by rfl) (hs : swapsWithSole [.Tuple [.Name x px, .Name y py] kt pt] (.Tuple [a, b] k2 pt2) pos.line X.env = pure false := by rfl) :
    MSx X c f W (.Assign [.Tuple [.Name x px, .Name y py] kt pt] (.Tuple [a, b] k2 pt2) pos) (sPar i j m) := by
  obtain ⟨t, p, s⟩ := h
  refine ⟨_, ps_par hc hN hxi hyj hij hx hy p hw hs, fun I H σ env D r h => ?_⟩
  refine s.go r h fun ds env1 I1 H1 vs s1 r1 rvs h1 => ?_
  match ds, h1 with
  | [d1, d2], h1 =>
    obtain ⟨v, u, rfl, rv, ru⟩ := rds2 rvs
    exact ⟨v, u, rfl, h1 I1 H1 _ (Same.refl I1) ((r1.set hi rv).set hj ru)⟩
  | [], h1 => exact h1.elim
  | [_], h1 => exact h1.elim
  | _ :: _ :: _ :: _, h1 => exact h1.elim
end
end Y

set_option Elab.async false
set_option linter.all false
set_option maxRecDepth 100000
set_option maxHeartbeats 2000000
namespace Y
open PySem PySem.Spec PyProof.Rows L2

/-! ### targets -/
abbrev MG := D → Env → Option Env
/-- is: the slots that the target sets -/
def SimG (K : PySem.W.Frag) (c : Cc) (is : List Nat) (g : TG) (m : MG) : Prop := ∀ (f : Fr) (I H : Hp) (σ : L2.St) (env env' : Env) (v : V) (d : D) (Q : L2.St → Hp → Prop), (f.io = none ∨ 0 ∉ is) → Rst K c f I H σ env → RD K c.cl I v d → m d env = some env' →
  (∀ σ', Rst K c f I H σ' env' → (∀ vs : List Nat, (∀ i ∈ is, i ∈ vs) → wipe σ' vs = wipe σ vs) → Q σ' H) → g v σ H Q
def MGx (X : Cx) (c : Cc) (is : List Nat) (tg : Expr) (m : MG) : Prop := ∃ g, PG X tg g ∧ SimG X.K c is g m
abbrev MGs := List D → Env → Option Env
def SimGs (K : PySem.W.Frag) (c : Cc) (is : List Nat) (g : TGs) (m : MGs) : Prop := ∀ (f : Fr) (I H : Hp) (σ : L2.St) (env env' : Env) (v : List V) (d : List D) (Q : L2.St → Hp → Prop), (f.io = none ∨ 0 ∉ is) → Rst K c f I H σ env → RDs K c.cl I v d → m d env = some env' →
  (∀ σ', Rst K c f I H σ' env' → (∀ vs : List Nat, (∀ i ∈ is, i ∈ vs) → wipe σ' vs = wipe σ vs) → Q σ' H) → g v σ H Q
def MGsx (X : Cx) (c : Cc) (is : List Nat) (tgs : List Expr) (m : MGs) : Prop := ∃ g, PGs X tgs g ∧ SimGs X.K c is g m
def tgN (i : Nat) : MG := fun d e => some (e.set i (.va d))
def tgsN : MGs := fun ds e => match ds with
  | [] => some e
  | _ => none
def tgsC (g : MG) (r : MGs) : MGs := fun ds e => match ds with
  | d :: ds => (g d e).bind (r ds)
  | [] => none
def tgT (n : Nat) (g : MGs) : MG := fun d e => match d with
  | .tup ds => if ds.length = n then g ds e else none
  | _ => none
theorem wipe_set {σ : L2.St} {i : Nat} {v : Option V} : ∀ {vs : List Nat}, i ∈ vs → wipe (σ.set i v) vs = wipe σ vs
  | [], h => by cases h
  | j :: vs, h => by
    unfold wipe
    by_cases hj : i ∈ vs
    · rw [wipe_set hj]
    · have e : i = j := by
        rcases List.mem_cons.mp h with h | h
        · exact h
        · exact absurd h hj
      subst e
      have : ∀ {ws : List Nat}, i ∉ ws → wipe (σ.set i v) ws = (wipe σ ws).set i v := fun {ws} hn => by
        induction ws with
        | nil => rfl
        | cons k ws ih =>
          unfold wipe
          rw [ih (fun z => hn (List.mem_cons_of_mem _ z)), List.set_comm _ _ (fun z => hn (by rw [z]; exact List.mem_cons_self))]
      rw [this hj, List.set_set]
section
variable {X : Cx} {c : Cc} {pos : Pos} {x : Str} {is js : List Nat} {e : Expr} {es : List Expr} {m : MG} {ms : MGs}
theorem mg_name (i : Nat) (hN : X.N.Nodup) (hi : X.N[i]? = some x := by rfl) (hx : Loc X.env.scope x := by first | exact .inl rfl | exact .inr rfl) (hf : X.fn x = true ∨ X.env.scope.names.lookup x = some .local := by first | exact .inl rfl | exact .inr rfl) : MGx X c [i] (.Name x pos) (tgN i) := by
  refine ⟨_, pg_name hN hi hx hf, fun f I H σ env env' v d Q hio r rv e h => ?_⟩
  cases e
  have hi' : f.io = none ∨ i ≠ 0 := hio.imp id fun z q => z (by rw [q]; exact List.mem_cons_self)
  exact h _ (r.set hi' rv) fun vs hv => wipe_set (hv i List.mem_cons_self)
theorem mgs_nil : MGsx X c [] [] tgsN := by
  refine ⟨_, pgs_nil, fun f I H σ env env' v d Q hio r rv e h => ?_⟩
  cases rv with
  | nil => cases e; exact ⟨rfl, h _ r fun _ _ => rfl⟩
  | cons _ _ => cases e
theorem mgs_cons (h : MGx X c is e m) (h2 : MGsx X c js es ms) (hs : (assignEach (e :: es) X.env).map (·.2) = assign e X.env :: (assignEach es X.env).map (·.2) := by rfl) : MGsx X c (is ++ js) (e :: es) (tgsC m ms) := by
  obtain ⟨g, p, s⟩ := h
  obtain ⟨gs, q, s'⟩ := h2
  refine ⟨_, pgs_cons p q hs, fun f I H σ env env' v d Q hio r rv e h => ?_⟩
  cases rv with
  | nil => cases e
  | cons h1 h2 =>
    rename_i v vs d ds
    unfold tgsC at e
    simp only [Option.bind_eq_some_iff] at e
    obtain ⟨e1, a1, a2⟩ := e
    refine ⟨v, vs, rfl, s f I H σ env e1 v d _ (hio.imp id fun z y => z (List.mem_append_left _ y)) r h1 a1 fun σ' r' w1 => ?_⟩
    exact s' f I H σ' e1 env' vs ds _ (hio.imp id fun z y => z (List.mem_append_right _ y)) r' h2 a2 fun σ'' r'' w2 => h _ r'' fun us hu => (w2 us fun i hi => hu i (List.mem_append_right _ hi)).trans (w1 us fun i hi => hu i (List.mem_append_left _ hi))
theorem mg_tup {k n : Nat} (h : MGsx X c is es ms) (hc : X.calm = true := by rfl) (hn : (assignEach es X.env).length = n := by rfl) (hst : (assignEach es X.env).findIdx? (·.1) = none := by rfl) : MGx X c is (.Tuple es k pos) (tgT n ms) := by
  obtain ⟨g, p, s⟩ := h
  refine ⟨_, pg_tup hc p hn hst, fun f I H σ env env' v d Q hio r rv e h => ?_⟩
  unfold tgT at e
  split at e
  · rename_i ds
    by_cases hl : ds.length = n
    · rw [if_pos hl] at e
      cases rv with
      | @tup a xs _ hq hr => exact ⟨a, xs, rfl, same_t r.sub hq, by rw [hr.length]; exact hl, s f I H σ env env' xs ds Q hio r hr e h⟩
    · rw [if_neg hl] at e; cases e
  · cases e
end
/-- target = value -/
def sAsg (g : MG) (m : ME) : SX := fun env => (m env).go fun d e => match g d e with
  | some e => .nx e
  | none => .stuck
section
variable {X : Cx} {c : Cc} {f : Fr} {W : WX} {pos : Pos} {tg e : Expr} {is : List Nat} {m : ME} {g : MG}
theorem ms_asg (h : MEx X c f W e m) (hg : MGx X c is tg g) (hi : f.io = none ∨ 0 ∉ is := by first | exact .inl rfl | exact .inr (by decide)) (hs : swapsWithSole [tg] e pos.line X.env = pure false := by rfl) (hw : swappedStores [tg] e X.env = pure none := by rfl)
    (h1 : (assignEach [tg] X.env).map (·.2) = [assign tg X.env] := by rfl) : MSx X c f W (.Assign [tg] e pos) (sAsg g m) := by
  obtain ⟨t, p, s⟩ := h
  obtain ⟨tg', q, s'⟩ := hg
  refine ⟨_, ps_asg p q hs hw h1, fun I H σ env D r h => ?_⟩
  refine s.go r h fun d env1 I1 H1 v s1 r1 rv h2 => ?_
  split at h2
  · rename_i e2 eg
    exact s' f I1 H1 σ env1 e2 v d _ hi r1 rv eg fun σ' r' _ => h2 I1 H1 σ' (Same.refl I1) r'
  · exact h2.elim
end

/-! ### what is walked -/
/-- J walks the items ds, in any later state -/
def ItOk (K : PySem.W.Frag) (c : Cc) (J : It) (I : Hp) (ds : List D) : Prop := ∀ (f : Fr) (I' H' : Hp) (σ : L2.St) (env : Env), Same I I' → Rst K c f I' H' σ env →
  (∀ i, ds.length ≤ i → J.stop i H') ∧ ∀ i d, ds[i]? = some d → J.go i H' ∧ ∀ x Hn, J.yld i H' x Hn → ∃ In, Same I' In ∧ Rst K c f In Hn σ env ∧ RD K c.cl In x d ∧ (∀ a o, H' a = some o → Hn a = some o) ∧ ∀ a, H' a ≠ none → I' a = none → In a = none
theorem ItOk.mono {K : PySem.W.Frag} {c : Cc} {J : It} {I I' : Hp} {ds : List D} (s : Same I I') (h : ItOk K c J I ds) : ItOk K c J I' ds := fun f I2 H2 σ env s2 r => h f I2 H2 σ env (s.trans s2) r
def PI2 (K : PySem.W.Frag) (c : Cc) (Rr : It → Hp → Prop) : List D → Env → Hp → Hp → Prop := fun ds _ I' H' => ∀ J, ItOk K c J I' ds → Rr J H'
def SimI (K : PySem.W.Frag) (c : Cc) (f : Fr) (W : WX) (wi : TI) (m : ML) : Prop := ∀ (I H : Hp) (σ : L2.St) (env : Env) (Rr : It → Hp → Prop), Rst K c f I H σ env → PostR K c f W σ (PI2 K c Rr) I (m env) → wi σ H Rr
def MIx (X : Cx) (c : Cc) (f : Fr) (W : WX) (tg iter : Expr) (m : ML) : Prop := ∃ wi, PI X tg iter wi ∧ SimI X.K c f W wi m
section
variable {K : PySem.W.Frag} {c : Cc} {I : Hp}
theorem itok_list {a : Addr} {xs : List V} {ds : List D} (h : SqL K I a xs) (hr : RDs K c.cl I xs ds) : ItOk K c (Itl K a) I ds := by
  intro f I' H' σ env s r
  have hq : SqL K H' a xs := r.sub.seq (s.seq h)
  refine ⟨fun i hi => ⟨xs, hq, by rw [hr.length]; exact hi⟩, fun i d e => ?_⟩
  obtain ⟨v, hv, rv⟩ := hr.get e
  refine ⟨⟨xs, v, hq, hv⟩, fun x Hn y => ?_⟩
  obtain ⟨rfl, y⟩ := y
  have : xs[i]? = some x := y xs hq
  rw [hv] at this; cases this
  exact ⟨I', Same.refl I', r, rv.mono s, fun _ _ q => q, fun _ _ q => q⟩
theorem itok_tup {a : Addr} {xs : List V} {ds : List D} (h : SqT K I a xs) (hr : RDs K c.cl I xs ds) : ItOk K c (Itt K a) I ds := by
  intro f I' H' σ env s r
  have hq : SqT K H' a xs := same_t r.sub (same_t s h)
  refine ⟨fun i hi => ⟨xs, hq, by rw [hr.length]; exact hi⟩, fun i d e => ?_⟩
  obtain ⟨v, hv, rv⟩ := hr.get e
  refine ⟨⟨xs, v, hq, hv⟩, fun x Hn y => ?_⟩
  obtain ⟨rfl, y⟩ := y
  have : xs[i]? = some x := y xs hq
  rw [hv] at this; cases this
  exact ⟨I', Same.refl I', r, rv.mono s, fun _ _ q => q, fun _ _ q => q⟩
end
/-- a list or a tuple, whichever it is -/
def iSeq (K : PySem.W.Frag) (tl : TE) : TI := fun σ H R => tl σ H fun x H1 => ∃ a, x = .ref a ∧ (((∃ xs, SqL K H1 a xs) ∧ R (Itl K a) H1) ∨ ((∃ xs, SqT K H1 a xs) ∧ R (Itt K a) H1))
theorem pi_seq {X : Cx} {tg l : Expr} {tl : TE} (hl : PE X l tl) : PI X tg l (iSeq X.K tl) := by
  refine ⟨fun pins s σ H R I h => ?_⟩
  refine thn (hl.run pins s σ H _ I h) fun v s1 ⟨x, H1, I1, r1, q1⟩ => ?_
  obtain ⟨a, e, ⟨⟨xs, hq⟩, q⟩ | ⟨⟨xs, hq⟩, q⟩⟩ := q1
  · subst e
    cases r1
    obtain ⟨its, rv, p, hz⟩ := I1.list hq
    refine wpAny_pyIter_list p.isList ?_
    refine ⟨s1.heap.objs.size, [s1.heap.objs.size], _, _, H1, rfl, I1.kept (t' := s1.toks) fun b o e => Heap.get?_push_of_some _ e, turn_list a _, ⟨_, Heap.get?_push_size _ rfl, rfl, rfl⟩, fun b hb => ?_, q⟩
    have e : b = s1.heap.objs.size := by simpa using hb
    subst e
    exact I1.fpOk (Nat.le_refl _) (I1.hok.fresh (Nat.le_refl _))
  · subst e
    cases r1
    obtain ⟨its, rv, p, hz⟩ := I1.tuple hq
    refine wpAny_pyIter_tuple (show s1.heap.IsTuple a its.toArray from p) ?_
    refine ⟨s1.heap.objs.size, [s1.heap.objs.size], _, _, H1, rfl, I1.kept (t' := s1.toks) fun b o e => Heap.get?_push_of_some _ e, turn_tuple a _, ⟨_, Heap.get?_push_size _ rfl, rfl, rfl⟩, fun b hb => ?_, q⟩
    have e : b = s1.heap.objs.size := by simpa using hb
    subst e
    exact I1.fpOk (Nat.le_refl _) (I1.hok.fresh (Nat.le_refl _))
def mItems (m : ME) : ML := fun env => (m env).bind fun d e => match d with
  | .lst l => .ok l e
  | .tup l => .ok l e
  | .scr l => .ok l e
  | _ => .stuck
section
variable {X : Cx} {c : Cc} {f : Fr} {W : WX} {pos p : Pos} {tg l : Expr} {m : ME}
theorem mi_seq (h : MEx X c f W l m) : MIx X c f W tg l (mItems m) := by
  obtain ⟨t, p, s⟩ := h
  refine ⟨_, pi_seq p, fun I H σ env Rr r h => ?_⟩
  refine s.bind r h fun d env1 I1 H1 v s1 r1 rv h1 => ?_
  cases rv with
  | @lst a xs ds hq hr => exact ⟨a, rfl, .inl ⟨⟨xs, sqL_of r1.sub hq⟩, h1 I1 H1 (Same.refl I1) r1 _ (itok_list (.inl (.inl hq)) hr)⟩⟩
  | @tup a xs ds hq hr => exact ⟨a, rfl, .inr ⟨⟨xs, same_t r1.sub hq⟩, h1 I1 H1 (Same.refl I1) r1 _ (itok_tup hq hr)⟩⟩
  | @scr a xs ds hq hr => exact ⟨a, rfl, .inl ⟨⟨xs, sq_scr r1.sub hq⟩, h1 I1 H1 (Same.refl I1) r1 _ (itok_list hq hr)⟩⟩
  | non => exact h1.elim
  | bl _ => exact h1.elim
  | int _ => exact h1.elim
  | str _ => exact h1.elim
  | ob _ _ => exact h1.elim
def rngD (lo : Int) (n : Nat) : List D := (List.range n).map fun (k : Nat) => D.int (lo + (k : Int))
def gRng1 : List D → Option (List D)
  | [.int j] => if -1000000 ≤ j ∧ j ≤ 1000000 then some (rngD 0 j.toNat) else none
  | _ => none
def gRng2 : List D → Option (List D)
  | [.int i, .int j] => if -1000000 ≤ i ∧ i ≤ 1000000 ∧ -1000000 ≤ j ∧ j ≤ 1000000 then some (rngD i (j - i).toNat) else none
  | _ => none
theorem rngD_len (lo : Int) (n : Nat) : (rngD lo n).length = n := by simp [rngD]
theorem rngD_get {lo : Int} {n i : Nat} {d : D} (h : (rngD lo n)[i]? = some d) : i < n ∧ d = .int (lo + (i : Int)) := by
  unfold rngD at h
  rw [List.getElem?_map] at h
  cases e : (List.range n)[i]? with
  | none => rw [e] at h; cases h
  | some k =>
    rw [e] at h
    obtain ⟨hl, ek⟩ := List.getElem?_eq_some_iff.mp e
    rw [List.getElem_range] at ek
    subst ek
    rw [List.length_range] at hl
    exact ⟨hl, (Option.some.inj h).symm⟩
theorem itok_rng {K : PySem.W.Frag} {c : Cc} {I : Hp} {lo : Int} {n : Nat} : ItOk K c (Itr lo n) I (rngD lo n) := by
  intro f I' H' σ env s r
  refine ⟨fun i hi => by rw [rngD_len] at hi; exact hi, fun i d e => ?_⟩
  obtain ⟨hl, rfl⟩ := rngD_get e
  refine ⟨hl, fun x Hn y => ?_⟩
  obtain ⟨rfl, rfl⟩ := y
  exact ⟨I', Same.refl I', r, .int _, fun _ _ q => q, fun _ _ q => q⟩
def mItC (g : List D → Option (List D)) (a : MA) : ML := fun env => (a env).bind fun ds e => R.of (g ds) e
theorem mi_range1 {a : Expr} {ma : MA} (hm : X.mg "range" = none) (h : MAx X c f W [a] ma) (hg : Gl X "range" := by rfl) (hs : starEach [a] X.env = [(false, eval a X.env)] := by rfl) : MIx X c f W tg (.Call (.Name "range" p) [a] [] pos) (mItC gRng1 ma) := by
  obtain ⟨t, pt, s⟩ := h
  refine ⟨_, pi_range1 hg hm pt hs, fun I H σ env Rr r h => ?_⟩
  refine s.bind r h fun ds env1 I1 H1 vs s1 r1 rvs h1 => ?_
  unfold gRng1 at h1
  split at h1
  · rename_i j
    obtain ⟨v, rfl, rv⟩ := rds1 rvs
    cases rv
    by_cases hj : -1000000 ≤ j ∧ j ≤ 1000000
    · rw [if_pos hj] at h1
      exact ⟨j, rfl, by omega, by omega, h1 I1 H1 (Same.refl I1) r1 _ itok_rng⟩
    · rw [if_neg hj] at h1; exact h1.elim
  · exact h1.elim
theorem mi_range2 {a b : Expr} {ma : MA} (hm : X.mg "range" = none) (h : MAx X c f W [a, b] ma) (hg : Gl X "range" := by rfl) (hs : starEach [a, b] X.env = [(false, eval a X.env), (false, eval b X.env)] := by rfl) (hs2 : starEach [b] X.env = [(false, eval b X.env)] := by rfl) :
    MIx X c f W tg (.Call (.Name "range" p) [a, b] [] pos) (mItC gRng2 ma) := by
  obtain ⟨t, pt, s⟩ := h
  refine ⟨_, pi_range2 hg hm pt hs hs2, fun I H σ env Rr r h => ?_⟩
  refine s.bind r h fun ds env1 I1 H1 vs s1 r1 rvs h1 => ?_
  unfold gRng2 at h1
  split at h1
  · rename_i i j
    obtain ⟨v, u, rfl, rv, ru⟩ := rds2 rvs
    cases rv; cases ru
    by_cases hj : -1000000 ≤ i ∧ i ≤ 1000000 ∧ -1000000 ≤ j ∧ j ≤ 1000000
    · rw [if_pos hj] at h1
      exact ⟨i, j, rfl, by omega, h1 I1 H1 (Same.refl I1) r1 _ itok_rng⟩
    · rw [if_neg hj] at h1; exact h1.elim
  · exact h1.elim
end
/-! zip of two lists, of two tuples -/
def zipD (l m : List D) : List D := (l.zip m).map fun p => D.tup [p.1, p.2]
def gZip : List D → Option (List D)
  | [.lst l, .lst m] => some (zipD l m)
  | [.tup l, .tup m] => some (zipD l m)
  | _ => none
theorem zipD_len (l m : List D) : (zipD l m).length = min l.length m.length := by unfold zipD; simp
theorem zipD_get {l m : List D} {i : Nat} {d : D} (h : (zipD l m)[i]? = some d) : ∃ x y, l[i]? = some x ∧ m[i]? = some y ∧ d = .tup [x, y] := by
  unfold zipD at h
  rw [List.getElem?_map] at h
  cases e : (l.zip m)[i]? with
  | none => rw [e] at h; cases h
  | some q =>
    rw [e] at h
    obtain ⟨a, b⟩ := List.getElem?_zip_eq_some.mp e
    exact ⟨q.1, q.2, a, b, (Option.some.inj h).symm⟩
section
variable {K : PySem.W.Frag} {c : Cc} {I : Hp}
theorem zip_yld {f : Fr} {I' H' : Hp} {σ : L2.St} {env : Env} {T : Addr} {x y : V} {dx dy : D} (r : Rst K c f I' H' σ env) (hT : H' T = none) (rx : RD K c.cl I' x dx) (ry : RD K c.cl I' y dy) :
    ∃ In, Same I' In ∧ Rst K c f In (upd H' T (.tup [x, y])) σ env ∧ RD K c.cl In (.ref T) (.tup [dx, dy]) ∧ (∀ a o, H' a = some o → (upd H' T (.tup [x, y])) a = some o) ∧ ∀ a, H' a ≠ none → I' a = none → In a = none := by
  have sI : Same I' (upd I' T (.tup [x, y])) := same_new (r.Inone hT)
  refine ⟨_, sI, r.new hT, .tup (.inl (.inl upd_same)) (.cons (rx.mono sI) (.cons (ry.mono sI) .nil)), same_new hT, fun a n h => ?_⟩
  have : a ≠ T := fun z => n (z ▸ hT)
  rw [upd_ne this]; exact h
theorem itok_zipL {a b : Addr} {xs ys : List V} {ds es : List D} (h : SqL K I a xs) (hr : RDs K c.cl I xs ds) (h2 : SqL K I b ys) (hr2 : RDs K c.cl I ys es) : ItOk K c (Itz K a b) I (zipD ds es) := by
  intro f I' H' σ env s r
  have hq : SqL K H' a xs := r.sub.seq (s.seq h)
  have hq2 : SqL K H' b ys := r.sub.seq (s.seq h2)
  refine ⟨fun i hi => ⟨xs, ys, hq, hq2, by rw [zipD_len] at hi; rw [hr.length, hr2.length]; omega⟩, fun i d e => ?_⟩
  obtain ⟨dx, dy, e1, e2, rfl⟩ := zipD_get e
  obtain ⟨v, hv, rv⟩ := hr.get e1
  obtain ⟨u, hu, ru⟩ := hr2.get e2
  refine ⟨⟨xs, ys, v, u, hq, hq2, hv, hu⟩, fun x Hn y => ?_⟩
  obtain ⟨T, x1, y1, rfl, hT, rfl, a1, a2⟩ := y
  have b1 := a1 xs hq
  rw [hv] at b1; cases b1
  have b2 := a2 ys hq2
  rw [hu] at b2; cases b2
  exact zip_yld r hT (rv.mono s) (ru.mono s)
theorem itok_zipT {a b : Addr} {xs ys : List V} {ds es : List D} (h : SqT K I a xs) (hr : RDs K c.cl I xs ds) (h2 : SqT K I b ys) (hr2 : RDs K c.cl I ys es) : ItOk K c (RZ.ItzT K a b) I (zipD ds es) := by
  intro f I' H' σ env s r
  have hq : SqT K H' a xs := same_t r.sub (same_t s h)
  have hq2 : SqT K H' b ys := same_t r.sub (same_t s h2)
  refine ⟨fun i hi => ⟨xs, ys, hq, hq2, by rw [zipD_len] at hi; rw [hr.length, hr2.length]; omega⟩, fun i d e => ?_⟩
  obtain ⟨dx, dy, e1, e2, rfl⟩ := zipD_get e
  obtain ⟨v, hv, rv⟩ := hr.get e1
  obtain ⟨u, hu, ru⟩ := hr2.get e2
  refine ⟨⟨xs, ys, v, u, hq, hq2, hv, hu⟩, fun x Hn y => ?_⟩
  obtain ⟨T, x1, y1, rfl, hT, rfl, a1, a2⟩ := y
  have b1 := a1 xs hq
  rw [hv] at b1; cases b1
  have b2 := a2 ys hq2
  rw [hu] at b2; cases b2
  exact zip_yld r hT (rv.mono s) (ru.mono s)
end
section
variable {X : Cx} {c : Cc} {f : Fr} {W : WX} {pos p tpos : Pos}
theorem mi_zip {e e2 : Expr} {elts : List Expr} {kk : Nat} {ma : MA} (hm : X.mg "zip" = none) (h : MAx X c f W [e, e2] ma) (hg : Gl X "zip" := by rfl) (hs : starEach [e, e2] X.env = (false, eval e X.env) :: starEach [e2] X.env := by rfl) (hpl : (backTo pos (starEach [e2] X.env)).any (·.1) = false := by rfl) :
    MIx X c f W (.Tuple elts kk tpos) (.Call (.Name "zip" p) [e, e2] [] pos) (mItC gZip ma) := by
  obtain ⟨t, pt, s⟩ := h
  refine ⟨_, RZ.pi_zipA hg hm pt hs hpl, fun I H σ env Rr r h => ?_⟩
  refine s.bind r h fun ds env1 I1 H1 vs s1 r1 rvs h1 => ?_
  unfold gZip at h1
  split at h1
  · obtain ⟨v, u, rfl, rv, ru⟩ := rds2 rvs
    cases rv with
    | lst hq hr =>
      cases ru with
      | lst hq2 hr2 => exact ⟨_, _, _, _, rfl, .inl ⟨sqL_of r1.sub hq, sqL_of r1.sub hq2, h1 I1 H1 (Same.refl I1) r1 _ (itok_zipL (.inl (.inl hq)) hr (.inl (.inl hq2)) hr2)⟩⟩
  · obtain ⟨v, u, rfl, rv, ru⟩ := rds2 rvs
    cases rv with
    | tup hq hr =>
      cases ru with
      | tup hq2 hr2 => exact ⟨_, _, _, _, rfl, .inr ⟨same_t r1.sub hq, same_t r1.sub hq2, h1 I1 H1 (Same.refl I1) r1 _ (itok_zipT hq hr hq2 hr2)⟩⟩
  · exact h1.elim
end

/-! ### for -/
def forL (g : MG) (b : SX) : List D → SX
  | [], env => .nx env
  | d :: ds, env => match g d env with
    | none => .stuck
    | some e => match b e with
      | .nx e => forL g b ds e
      | .ct e => forL g b ds e
      | .bk e => .nx e
      | r => r
def sFor (mi : ML) (g : MG) (b : SX) : SX := fun env => (mi env).go fun ds e => forL g b ds e
section
variable {X : Cx} {c : Cc} {f : Fr} {W : WX} {pos : Pos} {tg iter : Expr} {body : List Stmt} {is : List Nat} {mi : ML} {g : MG} {b : SX}
theorem sim_for {K : PySem.W.Frag} {wi : TI} {tg' : TG} {tb : TS} (si : SimI K c f W wi mi) (sg : SimG K c is tg' g) (sb : SimS K c f W tb b) (hi : f.io = none ∨ 0 ∉ is) : SimS K c f W (tFor wi tg' tb) (sFor mi g b) := by
  intro I H σ env D r h
  refine si I H σ env _ r (h.go fun ds env1 I1 H1 s1 r1 h1 J hJ => ?_)
  refine ⟨fun i m σ' H' => m = ds.length - i ∧ ∃ I' e, Same I1 I' ∧ Rst K c f I' H' σ' e ∧ PostS K c f W D I' (forL g b (ds.drop i) e), ⟨_, rfl, I1, env1, Same.refl I1, r1, by rw [List.drop_zero]; exact h1⟩, ?_⟩
  rintro i m σ' H' ⟨rfl, I', e, s', r', h'⟩
  obtain ⟨k1, k2⟩ := hJ f I' H' σ' e s' r'
  cases ed : ds[i]? with
  | none =>
    have hl : ds.length ≤ i := List.getElem?_eq_none_iff.mp ed
    rw [List.drop_eq_nil_of_le hl] at h'
    exact .inl ⟨k1 i hl, h' I' H' σ' (Same.refl I') r'⟩
  | some d =>
    obtain ⟨hl, ed'⟩ := List.getElem?_eq_some_iff.mp ed
    obtain ⟨go, yl⟩ := k2 i d ed
    rw [List.drop_eq_getElem_cons hl, ed'] at h'
    unfold forL at h'
    cases eg : g d e with
    | none => rw [eg] at h'; exact h'.elim
    | some e1 =>
      rw [eg] at h'
      have h' : PostS K c f W D I' (match b e1 with
        | .nx e => forL g b (ds.drop (i + 1)) e
        | .ct e => forL g b (ds.drop (i + 1)) e
        | .bk e => .nx e
        | r => r) := h'
      refine .inr ⟨go, fun σ2 H2 => ∃ I2 e2, Same I1 I2 ∧ Rst K c f I2 H2 σ2 e2 ∧ PostS K c f W D I2 (forL g b (ds.drop (i + 1)) e2), fun σ2 H2 ⟨I2, e2, q1, q2, q3⟩ => ⟨ds.length - (i + 1), by omega, rfl, I2, e2, q1, q2, q3⟩, fun x Hn y => ?_⟩
      obtain ⟨In, sn, rn, rv, _⟩ := yl x Hn y
      refine sg f In Hn σ' e e1 x d _ hi rn rv eg fun σ3 r3 _ => ?_
      refine sb In Hn σ3 e1 _ r3 ?_
      have hI : Same I1 In := s'.trans sn
      cases eb : b e1 with
      | nx e2 => rw [eb] at h'; exact fun I2 H2 σ2 t1 t2 => ⟨I2, e2, hI.trans t1, t2, PostS.mono (sn.trans t1) h'⟩
      | ct e2 => rw [eb] at h'; exact fun I2 H2 σ2 t1 t2 => ⟨I2, e2, hI.trans t1, t2, PostS.mono (sn.trans t1) h'⟩
      | bk e2 => rw [eb] at h'; exact PostS.mono sn h'
      | rt d2 e2 => rw [eb] at h'; exact PostS.mono sn h'
      | bad nm e2 => rw [eb] at h'; exact PostS.mono sn h'
      | stuck => rw [eb] at h'; exact h'.elim
theorem ms_for (hp : PassesOwn (model X.prog X.w) X.A X.env X.xe) (hi : MIx X c f W tg iter mi) (hg : MGx X c is tg g) (hb : MBx X c f W body b) (hio : f.io = none ∨ 0 ∉ is := by first | exact .inl rfl | exact .inr (by decide)) (hc : X.calm = true := by rfl)
    (hs : ∀ x, foldedSetIterable iter X.env x = pure x := by intro _; rfl) : MSx X c f W (.For tg iter body [] pos) (sFor mi g b) := by
  obtain ⟨wi, pi, si⟩ := hi
  obtain ⟨tg', pg, sg⟩ := hg
  obtain ⟨tb, pb, sb⟩ := hb
  exact ⟨_, ps_for hp hc pi pg pb hs, sim_for si sg sb hio⟩
end

/-! ### while -/
def whileL (t : MT) (b : SX) : Nat → SX
  | 0, _ => .stuck
  | n + 1, env => match t env with
    | .ok true e => (match b e with
      | .nx e => whileL t b n e
      | .ct e => whileL t b n e
      | .bk e => .nx e
      | r => r)
    | .ok false e => .nx e
    | .bad nm e => .bad nm e
    | .stuck => .stuck
def SR.isStuck : SR → Bool
  | .stuck => true
  | _ => false
theorem whileL_mono {t : MT} {b : SX} : ∀ {n m : Nat} {env : Env}, n ≤ m → (whileL t b n env).isStuck = false → whileL t b m env = whileL t b n env
  | 0, _, _, _, h => by cases h
  | n + 1, 0, _, h, _ => by omega
  | n + 1, m + 1, env, h, hs => by
    unfold whileL at hs ⊢
    cases et : t env with
    | ok x e =>
      rw [et] at hs
      cases x with
      | true =>
        simp only at hs ⊢
        cases eb : b e with
        | nx e2 => rw [eb] at hs; exact whileL_mono (by omega) hs
        | ct e2 => rw [eb] at hs; exact whileL_mono (by omega) hs
        | bk e2 => rfl
        | rt d e2 => rfl
        | bad nm e2 => rfl
        | stuck => rfl
      | false => rfl
    | bad nm e => rfl
    | stuck => rfl
open Classical in
noncomputable def sWhile (t : MT) (b : SX) : SX := fun env => if h : ∃ n, (whileL t b n env).isStuck = false then whileL t b (choose h) env else .stuck
theorem sWhile_eq {t : MT} {b : SX} {env : Env} (n : Nat) {r : SR} (h : whileL t b n env = r) (hs : r.isStuck = false) : sWhile t b env = r := by
  have ex : ∃ n, (whileL t b n env).isStuck = false := ⟨n, by rw [h]; exact hs⟩
  unfold sWhile
  rw [dif_pos ex]
  have h2 := Classical.choose_spec ex
  rcases Nat.le_total n (Classical.choose ex) with q | q
  · rw [whileL_mono q (by rw [h]; exact hs), h]
  · rw [← whileL_mono q h2, h]
section
variable {X : Cx} {c : Cc} {f : Fr} {W : WX} {pos : Pos} {test : Expr} {body : List Stmt} {t : MT} {b : SX}
theorem sim_while {K : PySem.W.Frag} {tc : TT} {tb : TS} (st : SimT K c f W tc t) (sb : SimS K c f W tb b) : SimS K c f W (tWhile tc tb) (sWhile t b) := by
  intro I H σ env D r h
  have ex : ∃ n, PostS K c f W D I (whileL t b n env) := by
    unfold sWhile at h
    split at h
    · exact ⟨_, h⟩
    · exact h.elim
  obtain ⟨n, h⟩ := ex
  refine ⟨fun m σ' H' => ∃ I' e, Same I I' ∧ Rst K c f I' H' σ' e ∧ PostS K c f W D I' (whileL t b m e), ⟨n, I, env, Same.refl I, r, h⟩, ?_⟩
  rintro m σ' H' ⟨I', e, s', r', h'⟩
  cases m with
  | zero => exact h'.elim
  | succ m =>
    unfold whileL at h'
    have h2 : PostS K c f W D I' ((t e).go fun x e => if x then (match b e with
      | .nx e => whileL t b m e
      | .ct e => whileL t b m e
      | .bk e => .nx e
      | r => r) else .nx e) := by
      cases et : t e with
      | ok x e2 => rw [et] at h'; cases x <;> exact h'
      | bad nm e2 => rw [et] at h'; exact h'
      | stuck => rw [et] at h'; exact h'
    refine st.go r' h2 fun x e1 I1 H1 s1 r1 h3 => ?_
    cases x with
    | false => exact iteF (h3 I1 H1 σ' (Same.refl I1) r1)
    | true =>
      refine iteT ⟨fun σ2 H2 => ∃ I2 e2, Same I I2 ∧ Rst K c f I2 H2 σ2 e2 ∧ PostS K c f W D I2 (whileL t b m e2), fun σ2 H2 ⟨I2, e2, q1, q2, q3⟩ => ⟨m, Nat.lt_succ_self m, I2, e2, q1, q2, q3⟩, ?_⟩
      have h3 : PostS K c f W D I1 (match b e1 with
        | .nx e => whileL t b m e
        | .ct e => whileL t b m e
        | .bk e => .nx e
        | r => r) := h3
      refine sb I1 H1 σ' e1 _ r1 ?_
      have hI : Same I I1 := s'.trans s1
      cases eb : b e1 with
      | nx e2 => rw [eb] at h3; exact fun I2 H2 σ2 t1 t2 => ⟨I2, e2, hI.trans t1, t2, PostS.mono t1 h3⟩
      | ct e2 => rw [eb] at h3; exact fun I2 H2 σ2 t1 t2 => ⟨I2, e2, hI.trans t1, t2, PostS.mono t1 h3⟩
      | bk e2 => rw [eb] at h3; exact h3
      | rt d2 e2 => rw [eb] at h3; exact h3
      | bad nm e2 => rw [eb] at h3; exact h3
      | stuck => rw [eb] at h3; exact h3.elim
theorem ms_while (hp : PassesOwn (model X.prog X.w) X.A X.env X.xe) (ht : MTx X c f W test t) (hb : MBx X c f W body b) : MSx X c f W (.While test body [] pos) (sWhile t b) := by
  obtain ⟨tt, pt, st⟩ := ht
  obtain ⟨tb, pb, sb⟩ := hb
  exact ⟨_, ps_while hp pt pb, sim_while st sb⟩
end
end Y

set_option Elab.async false
set_option linter.all false
set_option maxRecDepth 100000
set_option maxHeartbeats 2000000
namespace Y
open PySem PySem.Spec PyProof.Rows L2

/-! ### a frame for a part: all that is not owned stays as it is -/
def Own (σ : L2.St) (env : Env) (a : Addr) : Prop := ∃ (i : Nat) (l : List D), env[i]? = some (.ow l) ∧ σ[i]? = some (some (.ref a))
open Classical in
noncomputable def Fr.at (c : Cc) (f : Fr) (I H : Hp) (σ : L2.St) (env : Env) : Fr where
  H0 := fun a => if Own σ env a ∨ c.isT a then none else H a
  io := f.io
  ni := fun a => I a = none ∧ ¬ Own σ env a ∧ ¬ c.isT a ∧ H a ≠ none
section
variable {K : PySem.W.Frag} {c : Cc} {f : Fr} {I H : Hp} {σ : L2.St} {env : Env}
theorem at_none {a : Addr} (h : Own σ env a ∨ c.isT a) : (f.at c I H σ env).H0 a = none := by
  unfold Fr.at
  exact if_pos h
theorem at_some {a : Addr} (h : ¬ (Own σ env a ∨ c.isT a)) : (f.at c I H σ env).H0 a = H a := by
  unfold Fr.at
  exact if_neg h
theorem Rst.at (r : Rst K c f I H σ env) : Rst K c (f.at c I H σ env) I H σ env := by
  refine ⟨r.sub, fun a o h n nt => ?_, r.t1, r.t2, r.it, r.len, r.va, fun i l e => ?_, r.nd, r.io0, fun a ha => ?_⟩
  · by_cases q : Own σ env a ∨ c.isT a
    · rw [at_none q] at h; cases h
    · rw [at_some q] at h; exact h
  · obtain ⟨p, vs, h1, h2, h3, h4, h5⟩ := r.ow i l e
    exact ⟨p, vs, h1, h2, h3, h4, .inl (at_none (.inl ⟨i, l, e, h1⟩))⟩
  · obtain ⟨h1, h2, h3, h4⟩ := ha
    refine ⟨h1, ?_, fun z => ?_, h3⟩
    · cases q : H a with
      | none => exact absurd q h4
      | some o => exact ⟨o, by rw [at_some (by rintro (z | z); exact h2 z; exact h3 z)]; exact q⟩
    · obtain ⟨a1, l, a2⟩ := r.io0 a z
      exact h2 ⟨0, l, a2, a1⟩
/-- back to the frame as it was; what was not owned stands, and is not known -/
theorem Rst.back (r : Rst K c f I H σ env) {I' H' : Hp} {env' : Env} (q : Rst K c (f.at c I H σ env) I' H' σ env') :
    Rst K c f I' H' σ env' ∧ (∀ a o, H a = some o → ¬ Own σ env a → ¬ c.isT a → H' a = some o) ∧ (∀ a, H a ≠ none → I a = none → ¬ Own σ env a → ¬ c.isT a → I' a = none) ∧ ∀ a, H a ≠ none → ¬ Own σ env a → ¬ c.isT a → ¬ Own σ env' a := by
  have nio : ∀ {a}, ¬ Own σ env a → f.io ≠ some a := fun {a} h z => by
    obtain ⟨a1, l, a2⟩ := r.io0 a z
    exact h ⟨0, l, a2, a1⟩
  have key : ∀ a o, H a = some o → ¬ Own σ env a → ¬ c.isT a → H' a = some o := fun a o h n nt => q.fr0 a o (by rw [at_some (by rintro (z | z); exact n z; exact nt z)]; exact h) (nio n) nt
  have ow' : ∀ {p}, (f.at c I H σ env).H0 p = none ∨ f.io = some p → ¬ c.isT p → Own σ env p ∨ H p = none ∨ f.io = some p := fun {p} h nt => by
    rcases h with h | h
    · by_cases o : Own σ env p
      · exact .inl o
      · rw [at_some (by rintro (z | z); exact o z; exact nt z)] at h
        exact .inr (.inl h)
    · exact .inr (.inr h)
  have notT : ∀ {p vs}, H' p = some (.lst vs) → ¬ c.isT p := fun {p vs} h z => by
    rcases z with z | ⟨y, z⟩
    · obtain ⟨ps, a, _⟩ := q.t1 _ z; rw [h] at a; cases a
    · obtain ⟨ps, a, _⟩ := q.t2 _ z; rw [h] at a; cases a
  refine ⟨⟨q.sub, fun a o h n nt => ?_, q.t1, q.t2, q.it, q.len, q.va, fun i l e => ?_, q.nd, q.io0, fun a ha => ?_⟩, key, fun a h hI n nt => ?_, fun a h n nt ⟨i, l, e, hs⟩ => ?_⟩
  · have h' := r.fr0 a o h n nt
    refine key a o h' (fun ⟨i, l, e, hs⟩ => ?_) nt
    obtain ⟨p, vs, h1, _, _, _, h5⟩ := r.ow i l e
    rw [hs] at h1; cases h1
    rcases h5 with h5 | h5
    · rw [h] at h5; cases h5
    · exact n h5
  · obtain ⟨p, vs, h1, h2, h3, h4, h5⟩ := q.ow i l e
    refine ⟨p, vs, h1, h2, h3, h4, ?_⟩
    rcases ow' h5 (notT h2) with ⟨j, m, e2, hs⟩ | z | z
    · obtain ⟨p', vs', a1, _, _, _, a5⟩ := r.ow j m e2
      rw [hs] at a1; cases a1
      exact a5
    · left
      cases y : f.H0 p with
      | none => rfl
      | some o =>
        by_cases hio : f.io = some p
        · obtain ⟨b1, m, b2⟩ := r.io0 p hio
          obtain ⟨p', vs', a1, a2, _⟩ := r.ow 0 m b2
          rw [b1] at a1; cases a1
          rw [z] at a2; cases a2
        · have := r.fr0 p o y hio (notT h2)
          rw [z] at this; cases this
    · exact .inr z
  · obtain ⟨n1, ⟨o, n2⟩, n3, n4⟩ := r.ni a ha
    have hH := r.fr0 a o n2 n3 n4
    have no : ¬ Own σ env a := fun ⟨i, l, e, hs⟩ => by
      obtain ⟨p, vs, h1, _, _, _, h5⟩ := r.ow i l e
      rw [hs] at h1; cases h1
      rcases h5 with h5 | h5
      · rw [n2] at h5; cases h5
      · exact n3 h5
    exact ⟨(q.ni a ⟨n1, no, n4, by rw [hH]; simp⟩).1, ⟨o, n2⟩, n3, n4⟩
  · exact (q.ni a ⟨hI, n, nt, h⟩).1
  · obtain ⟨p, vs, h1, h2, _, _, h5⟩ := q.ow i l e
    rw [hs] at h1; cases h1
    rcases ow' h5 (notT h2) with z | z | z
    · exact n z
    · exact h z
    · exact nio n z
end

/-! ### the slots of a block's own names -/
def wipeE (env : Env) : List Nat → Env
  | [] => env
  | v :: vs => (wipeE env vs).set v .un
def restE (e0 e : Env) : List Nat → Env
  | [] => e
  | v :: vs => match e0[v]? with
    | some x => (restE e0 e vs).set v x
    | none => restE e0 e vs
theorem wipeE_get {env : Env} {i : Nat} {x : Sl} (hx : x ≠ .un) : ∀ {vs : List Nat}, (wipeE env vs)[i]? = some x → env[i]? = some x ∧ i ∉ vs
  | [], h => ⟨h, by simp⟩
  | v :: vs, h => by
    unfold wipeE at h
    rcases get_set h with ⟨rfl, e⟩ | ⟨ne, h⟩
    · exact absurd e.symm hx
    · obtain ⟨a, b⟩ := wipeE_get hx h
      exact ⟨a, by simp only [List.mem_cons, not_or]; exact ⟨fun z => ne z.symm, b⟩⟩
theorem wipeE_len {env : Env} : ∀ {vs : List Nat}, (wipeE env vs).length = env.length
  | [] => rfl
  | v :: vs => by unfold wipeE; rw [List.length_set, wipeE_len]
theorem wipeE_keep {env : Env} {i : Nat} : ∀ {vs : List Nat}, i ∉ vs → (wipeE env vs)[i]? = env[i]?
  | [], _ => rfl
  | v :: vs, h => by
    unfold wipeE
    rw [List.getElem?_set_ne (fun z => h (by rw [z]; exact List.mem_cons_self)), wipeE_keep (fun z => h (List.mem_cons_of_mem _ z))]
theorem wipe_keep {σ : L2.St} {i : Nat} : ∀ {vs : List Nat}, i ∉ vs → (wipe σ vs)[i]? = σ[i]?
  | [], _ => rfl
  | v :: vs, h => by
    unfold wipe
    rw [List.getElem?_set_ne (fun z => h (by rw [z]; exact List.mem_cons_self)), wipe_keep (fun z => h (List.mem_cons_of_mem _ z))]
theorem restE_get {e0 e : Env} {i : Nat} {x : Sl} : ∀ {vs : List Nat}, (restE e0 e vs)[i]? = some x → (i ∈ vs ∧ e0[i]? = some x) ∨ (e[i]? = some x ∧ (i ∉ vs ∨ e0[i]? = none))
  | [], h => .inr ⟨h, .inl (by simp)⟩
  | v :: vs, h => by
    unfold restE at h
    split at h
    · rename_i y ey
      rcases get_set h with ⟨rfl, e1⟩ | ⟨ne, h⟩
      · subst e1
        exact .inl ⟨List.mem_cons_self, ey⟩
      · rcases restE_get h with ⟨a, b⟩ | ⟨a, b⟩
        · exact .inl ⟨List.mem_cons_of_mem _ a, b⟩
        · refine .inr ⟨a, ?_⟩
          rcases b with b | b
          · exact .inl (by simp only [List.mem_cons, not_or]; exact ⟨fun z => ne z.symm, b⟩)
          · exact .inr b
    · rename_i ey
      rcases restE_get h with ⟨a, b⟩ | ⟨a, b⟩
      · exact .inl ⟨List.mem_cons_of_mem _ a, b⟩
      · refine .inr ⟨a, ?_⟩
        rcases b with b | b
        · by_cases hv : i = v
          · exact .inr (hv ▸ ey)
          · exact .inl (by simp only [List.mem_cons, not_or]; exact ⟨hv, b⟩)
        · exact .inr b
theorem restE_len {e0 e : Env} : ∀ {vs : List Nat}, (restE e0 e vs).length = e.length
  | [] => rfl
  | v :: vs => by
    unfold restE
    split
    · rw [List.length_set, restE_len]
    · exact restE_len
section
variable {K : PySem.W.Frag} {c : Cc} {f : Fr} {I H : Hp} {σ : L2.St} {env : Env} {vs : List Nat}
theorem Rst.wipe (r : Rst K c f I H σ env) (hio : f.io = none ∨ 0 ∉ vs) : Rst K c f I H (wipe σ vs) (wipeE env vs) := by
  refine ⟨r.sub, r.fr0, r.t1, r.t2, r.it, by rw [wipeE_len, wipe_length]; exact r.len, fun i d e => ?_, fun i l e => ?_, fun i j l l' p a b ha hb => ?_, fun p hp => ?_, r.ni⟩
  · obtain ⟨e1, n⟩ := wipeE_get (by intro z; cases z) e
    obtain ⟨v, h1, h2⟩ := r.va i d e1
    exact ⟨v, by rw [wipe_keep n]; exact h1, h2⟩
  · obtain ⟨e1, n⟩ := wipeE_get (by intro z; cases z) e
    obtain ⟨p, ws, h1, h2⟩ := r.ow i l e1
    exact ⟨p, ws, by rw [wipe_keep n]; exact h1, h2⟩
  · obtain ⟨a1, n1⟩ := wipeE_get (by intro z; cases z) a
    obtain ⟨b1, n2⟩ := wipeE_get (by intro z; cases z) b
    rw [wipe_keep n1] at ha
    rw [wipe_keep n2] at hb
    exact r.nd i j l l' p a1 b1 ha hb
  · obtain ⟨a, l, b⟩ := r.io0 p hp
    have n : 0 ∉ vs := by
      rcases hio with z | z
      · rw [z] at hp; cases hp
      · exact z
    exact ⟨by rw [wipe_keep n]; exact a, l, by rw [wipeE_keep n]; exact b⟩
/-- behind the block: its own names are again what they were -/
theorem Rst.rest (r : Rst K c f I H σ env) {I' H' : Hp} {e : Env} (s : Same I I') (hio : f.io = none ∨ 0 ∉ vs) (q : Rst K c f I' H' (L2.wipe σ vs) e) (hl : e.length ≤ env.length)
    (k : ∀ a o, H a = some o → ¬ Own (L2.wipe σ vs) (wipeE env vs) a → ¬ c.isT a → H' a = some o) (ki : ∀ a, H a ≠ none → I a = none → ¬ Own (L2.wipe σ vs) (wipeE env vs) a → ¬ c.isT a → I' a = none)
    (ko : ∀ a, H a ≠ none → ¬ Own (L2.wipe σ vs) (wipeE env vs) a → ¬ c.isT a → ¬ Own (L2.wipe σ vs) e a) : Rst K c f I' H' σ (restE env e vs) := by
  have notT : ∀ {p ws}, H p = some (.lst ws) → ¬ c.isT p := fun {p ws} h z => by
    rcases z with z | ⟨y, z⟩
    · obtain ⟨ps, a, _⟩ := r.t1 _ z; rw [h] at a; cases a
    · obtain ⟨ps, a, _⟩ := r.t2 _ z; rw [h] at a; cases a
  have lt : ∀ {i x}, e[i]? = some x → (i ∉ vs ∨ env[i]? = none) → i ∉ vs := fun {i x} h n => n.elim id fun z => by
    have h1 := (List.getElem?_eq_some_iff.mp h).1
    have h2 := List.getElem?_eq_none_iff.mp z
    omega
  -- an owned list of the block's names is not one of the others
  have away : ∀ {i l p}, i ∈ vs → env[i]? = some (.ow l) → σ[i]? = some (some (.ref p)) → ¬ Own (L2.wipe σ vs) (wipeE env vs) p := fun {i l p} hi e1 hs ⟨j, m, e2, hs2⟩ => by
    obtain ⟨e3, n⟩ := wipeE_get (by intro z; cases z) e2
    rw [wipe_keep n] at hs2
    exact n (r.nd i j l m p e1 e3 hs hs2 ▸ hi)
  refine ⟨q.sub, q.fr0, q.t1, q.t2, q.it, by rw [restE_len]; have := q.len; rw [wipe_length] at this; exact this, fun i d h => ?_, fun i l h => ?_, fun i j l l' p a b ha hb => ?_, fun p hp => ?_, q.ni⟩
  · rcases restE_get h with ⟨hi, h⟩ | ⟨h, n⟩
    · obtain ⟨v, h1, h2⟩ := r.va i d h
      exact ⟨v, h1, h2.mono s⟩
    · obtain ⟨v, h1, h2⟩ := q.va i d h
      rw [wipe_keep (lt h n)] at h1
      exact ⟨v, h1, h2⟩
  · rcases restE_get h with ⟨hi, h⟩ | ⟨h, n⟩
    · obtain ⟨p, ws, h1, h2, h3, h4, h5⟩ := r.ow i l h
      have aw := away hi h h1
      exact ⟨p, ws, h1, k p _ h2 aw (notT h2), h3.mono s, ki p (by rw [h2]; simp) h4 aw (notT h2), h5⟩
    · obtain ⟨p, ws, h1, h2⟩ := q.ow i l h
      rw [wipe_keep (lt h n)] at h1
      exact ⟨p, ws, h1, h2⟩
  · rcases restE_get a with ⟨hi, a⟩ | ⟨a, n⟩
    · obtain ⟨p', ws, h1, h2, _⟩ := r.ow i l a
      rw [ha] at h1; cases h1
      have aw := away hi a ha
      rcases restE_get b with ⟨hj, b⟩ | ⟨b, n2⟩
      · exact r.nd i j l l' p a b ha hb
      · exact absurd ⟨j, l', b, by rw [wipe_keep (lt b n2)]; exact hb⟩ (ko p (by rw [h2]; simp) aw (notT h2))
    · rcases restE_get b with ⟨hj, b⟩ | ⟨b, n2⟩
      · obtain ⟨p', ws, h1, h2, _⟩ := r.ow j l' b
        rw [hb] at h1; cases h1
        have aw := away hj b hb
        exact absurd ⟨i, l, a, by rw [wipe_keep (lt a n)]; exact ha⟩ (ko p (by rw [h2]; simp) aw (notT h2))
      · exact q.nd i j l l' p a b (by rw [wipe_keep (lt a n)]; exact ha) (by rw [wipe_keep (lt b n2)]; exact hb)
  · obtain ⟨a, l, b⟩ := q.io0 p hp
    have n : 0 ∉ vs := by
      rcases hio with z | z
      · rw [z] at hp; cases hp
      · exact z
    rw [wipe_keep n] at a
    refine ⟨a, l, ?_⟩
    have : ∀ {ws : List Nat}, 0 ∉ ws → (restE env e ws)[0]? = e[0]? := fun {ws} h => by
      induction ws with
      | nil => rfl
      | cons v ws ih =>
        unfold restE
        have h0 : v ≠ 0 := fun z => h (by rw [z]; exact List.mem_cons_self)
        have h1 : 0 ∉ ws := fun z => h (List.mem_cons_of_mem _ z)
        split
        · rw [List.getElem?_set_ne h0]; exact ih h1
        · exact ih h1
    rw [this n]; exact b
/-- the list that a comprehension fills grows -/
theorem Rst.grow (r : Rst K c f I H σ env) {p : Addr} {xs ys : List V} (hp : H p = some (.lst xs)) (hI : I p = none) (h0 : f.H0 p = none) (no : ¬ Own σ env p) : Rst K c f I (upd H p (.lst ys)) σ env := by
  have nt : ¬ c.isT p := fun z => by
    rcases z with z | ⟨y, z⟩
    · obtain ⟨ps, a, _⟩ := r.t1 _ z; rw [hp] at a; cases a
    · obtain ⟨ps, a, _⟩ := r.t2 _ z; rw [hp] at a; cases a
  refine ⟨fun a o q => ?_, fun a o q n n2 => ?_, fun P hP => ?_, fun q hq => ?_, r.it, r.len, r.va, fun i l e => ?_, r.nd, r.io0, r.ni⟩
  · have : a ≠ p := fun z => by rw [z, hI] at q; cases q
    rw [upd_ne this]; exact r.sub a o q
  · have : a ≠ p := fun z => by rw [z, h0] at q; cases q
    rw [upd_ne this]; exact r.fr0 a o q n n2
  · obtain ⟨ps, a1, a2⟩ := r.t1 P hP
    exact ⟨ps, by rw [upd_ne (fun z => nt (by rw [← z]; exact .inl hP))]; exact a1, a2⟩
  · obtain ⟨ps, a1, a2, a3⟩ := r.t2 q hq
    refine ⟨ps, by rw [upd_ne (fun z => nt (by rw [← z]; exact .inr ⟨q.2, hq⟩))]; exact a1, a2, fun pos cv hc => ?_⟩
    obtain ⟨c0, b1, b2⟩ := a3 pos cv hc
    refine ⟨c0, b1, ?_⟩
    rw [upd_ne (fun z => by rw [z, hp] at b2; unfold LamX.CodeO at b2; cases b2)]
    exact b2
  · obtain ⟨q, us, a1, a2, a3, a4, a5⟩ := r.ow i l e
    have : q ≠ p := fun z => no ⟨i, l, e, z ▸ a1⟩
    exact ⟨q, us, a1, by rw [upd_ne this]; exact a2, a3, a4, a5⟩
end

/-! ### list comprehensions -/
def R.noBad {α : Type} : R α → R α
  | .bad _ _ => .stuck
  | r => r
def compL (g : MG) (t : MT) (m : ME) (vs : List Nat) : List D → Env → R (List D)
  | [], env => .ok [] (wipeE env vs)
  | d :: ds, env => match g d (wipeE env vs) with
    | none => .stuck
    | some e => (t e).noBad.bind fun b e => if b then (m e).noBad.bind fun y e => (compL g t m vs ds e).bind fun ys e => .ok (y :: ys) e else compL g t m vs ds e
def mYes : MT := fun env => .ok true env
def mLc (mi : ML) (g : MG) (t : MT) (m : ME) (vs : List Nat) : ML := fun env => (mi env).bind fun ds e0 => if ds.length ≤ big then (compL g t m vs ds (wipeE e0 vs)).bind fun l e => if e.length ≤ e0.length then .ok l (restE e0 e vs) else .stuck else .stuck
def MTsx (X : Cx) (c : Cc) (f : Fr) (W : WX) (ifs : List Expr) (m : MT) : Prop := ∃ tt, PTs X ifs tt ∧ SimT X.K c f W tt m
abbrev W0 : WX := fun _ _ _ _ => False
theorem wipeE_idem {env : Env} {vs : List Nat} : wipeE (wipeE env vs) vs = wipeE env vs := by
  have un : ∀ (e : Env) (us : List Nat) (j : Nat) (x : Sl), j ∈ us → (wipeE e us)[j]? = some x → x = .un := fun e us j x hj h => by
    cases x with
    | un => rfl
    | va d => exact absurd hj (wipeE_get (by intro z; cases z) h).2
    | ow l => exact absurd hj (wipeE_get (by intro z; cases z) h).2
  apply List.ext_getElem?
  intro j
  by_cases hj : j ∈ vs
  · rcases Nat.lt_or_ge j env.length with lt | ge
    · have a := List.getElem?_eq_getElem (l := wipeE env vs) (i := j) (by rw [wipeE_len]; exact lt)
      have b := List.getElem?_eq_getElem (l := wipeE (wipeE env vs) vs) (i := j) (by rw [wipeE_len, wipeE_len]; exact lt)
      rw [a, b, un _ _ _ _ hj a, un _ _ _ _ hj b]
    · rw [List.getElem?_eq_none (by rw [wipeE_len, wipeE_len]; exact ge), List.getElem?_eq_none (by rw [wipeE_len]; exact ge)]
  · rw [wipeE_keep hj]
theorem wipe_idem {σ : L2.St} {vs : List Nat} : L2.wipe (L2.wipe σ vs) vs = L2.wipe σ vs := by
  apply List.ext_getElem?
  intro j
  by_cases hj : j ∈ vs
  · have w0 : ∀ (τ : L2.St) (us : List Nat), j ∈ us → ∀ v, (L2.wipe τ us)[j]? ≠ some (some v) := fun τ us hu v z => (wipe_some z).2 hu
    rcases Nat.lt_or_ge j σ.length with lt | ge
    · have a := List.getElem?_eq_getElem (l := L2.wipe σ vs) (i := j) (by rw [wipe_length]; exact lt)
      have b := List.getElem?_eq_getElem (l := L2.wipe (L2.wipe σ vs) vs) (i := j) (by rw [wipe_length, wipe_length]; exact lt)
      have h1 : (L2.wipe σ vs)[j]? = some none := by
        cases e : (L2.wipe σ vs)[j]'(by rw [wipe_length]; exact lt) with
        | none => rw [a, e]
        | some v => rw [e] at a; exact absurd a (w0 σ vs hj v)
      have h2 : (L2.wipe (L2.wipe σ vs) vs)[j]? = some none := by
        cases e : (L2.wipe (L2.wipe σ vs) vs)[j]'(by rw [wipe_length, wipe_length]; exact lt) with
        | none => rw [b, e]
        | some v => rw [e] at b; exact absurd b (w0 _ vs hj v)
      rw [h1, h2]
    · rw [List.getElem?_eq_none (by rw [wipe_length, wipe_length]; exact ge), List.getElem?_eq_none (by rw [wipe_length]; exact ge)]
  · rw [wipe_keep hj]
theorem compL_wipe {g : MG} {t : MT} {m : ME} {vs : List Nat} : ∀ {ds : List D} {e : Env}, compL g t m vs ds (wipeE e vs) = compL g t m vs ds e
  | [], e => by unfold compL; rw [wipeE_idem]
  | d :: ds, e => by unfold compL; rw [wipeE_idem]
theorem compL_len {g : MG} {t : MT} {m : ME} {vs : List Nat} : ∀ {ds : List D} {e e' : Env} {l : List D}, compL g t m vs ds e = .ok l e' → l.length ≤ ds.length
  | [], e, e', l, h => by cases h; exact Nat.le_refl _
  | d :: ds, e, e', l, h => by
    unfold compL at h
    cases eg : g d (wipeE e vs) with
    | none => rw [eg] at h; cases h
    | some e1 =>
      rw [eg] at h
      simp only at h
      cases et : (t e1).noBad with
      | bad nm e2 => rw [et] at h; cases h
      | stuck => rw [et] at h; cases h
      | ok b e2 =>
        rw [et] at h
        cases b with
        | false =>
          have := compL_len (show compL g t m vs ds e2 = .ok l e' from h)
          simp only [List.length_cons]; omega
        | true =>
          cases em : (m e2).noBad with
          | bad nm e3 => simp only [R.bind, if_true, em] at h; cases h
          | stuck => simp only [R.bind, if_true, em] at h; cases h
          | ok y e3 =>
            have h : (compL g t m vs ds e3).bind (fun ys e => .ok (y :: ys) e) = .ok l e' := by
              simp only [R.bind, if_true, em] at h
              exact h
            cases ec : compL g t m vs ds e3 with
            | bad nm e4 => rw [ec] at h; cases h
            | stuck => rw [ec] at h; cases h
            | ok ys e4 =>
              rw [ec] at h
              cases h
              have := compL_len ec
              simp only [List.length_cons]; omega
section
variable {K : PySem.W.Frag} {c : Cc} {f : Fr} {W : WX}
theorem PostR.noBad {α : Type} {σ : L2.St} {P : α → Env → Hp → Hp → Prop} {I : Hp} {r : R α} (h : PostR K c f W σ P I r.noBad) : PostR K c f W0 σ P I r := by
  cases r with
  | ok a e => exact h
  | bad nm e => exact h.elim
  | stuck => exact h.elim
/-- a wish for the noBad part, behind it the rest -/
theorem PostR.nbind {α β : Type} {σ : L2.St} {f2 : Fr} {P : α → Env → Hp → Hp → Prop} {Z : Hp → R β → Prop} {I : Hp} {r : R α} {k : α → Env → R β} (hZ : ∀ {I I' r}, Same I I' → Z I r → Z I' r) (hs : ¬ Z I .stuck) (h : Z I (r.noBad.bind k))
    (hk : ∀ a env I' H', Same I I' → Rst K c f2 I' H' σ env → Z I' (k a env) → P a env I' H') : PostR K c f2 W0 σ P I r := by
  cases r with
  | ok a env => exact fun I' H' s q => hk a env I' H' s q (hZ s h)
  | bad nm env => exact absurd h hs
  | stuck => exact absurd h hs
theorem sim_lc {is : List Nat} {vs : List Nat} {wi : TI} {g : TG} {tt : TT} {te : TE} {mi : ML} {mg : MG} {mt : MT} {m : ME} (hv : ∀ i ∈ is, i ∈ vs) (hio : f.io = none ∨ 0 ∉ vs) (si : SimI K c f W wi mi) (sg : SimG K c is g mg)
    (st : ∀ f : Fr, SimT K c f W0 tt mt) (se : ∀ f : Fr, SimE K c f W0 te m) : SimL K c f W (tLc wi g tt te vs) (mLc mi mg mt m vs) := by
  intro I H σ env Q r h
  refine si I H σ env _ r (h.bind fun ds e0 I1 H1 s1 r1 h1 J hJ => ?_)
  by_cases hsz : ds.length ≤ big
  case neg => rw [if_neg hsz] at h1; exact h1.elim
  rw [if_pos hsz] at h1
  intro D0 hD0
  have r1w := r1.wipe hio
  -- what is wanted of the whole: by the items that are left
  let Z : List Y.D → Hp → R (List Y.D) → Prop := fun acc Iz rr => match rr with
    | .ok l e => e.length ≤ e0.length ∧ ∀ I' H', Same Iz I' → Rst K c f I' H' σ (restE e0 e vs) → PL K c f σ Q (acc ++ l) (restE e0 e vs) I' H'
    | _ => False
  have hz0 : Z [] I1 (compL mg mt m vs ds (wipeE e0 vs)) := by
    cases ec : compL mg mt m vs ds (wipeE e0 vs) with
    | ok l e =>
      rw [ec] at h1
      have h1 : PostR K c f W σ (PL K c f σ Q) I1 (if e.length ≤ e0.length then .ok l (restE e0 e vs) else .stuck) := h1
      by_cases hl : e.length ≤ e0.length
      · rw [if_pos hl] at h1
        exact ⟨hl, h1⟩
      · rw [if_neg hl] at h1; exact h1.elim
    | bad nm e =>
      exfalso
      have : ∀ (ds : List Y.D) (e e' : Env) (nm : Str), compL mg mt m vs ds e ≠ .bad nm e' := by
        intro ds
        induction ds with
        | nil => intro e e' nm z; cases z
        | cons d ds ih =>
          intro e e' nm z
          unfold compL at z
          cases eg : mg d (wipeE e vs) with
          | none => rw [eg] at z; cases z
          | some e1 =>
            rw [eg] at z
            simp only at z
            cases et : mt e1 with
            | bad nm2 e2 => rw [et] at z; cases z
            | stuck => rw [et] at z; cases z
            | ok b e2 =>
              rw [et] at z
              cases b with
              | false => exact ih e2 e' nm z
              | true =>
                have z : (m e2).noBad.bind (fun y e => (compL mg mt m vs ds e).bind fun ys e => .ok (y :: ys) e) = .bad nm e' := z
                cases em : m e2 with
                | bad nm2 e3 => rw [em] at z; cases z
                | stuck => rw [em] at z; cases z
                | ok y e3 =>
                  rw [em] at z
                  have z : (compL mg mt m vs ds e3).bind (fun ys e => .ok (y :: ys) e) = .bad nm e' := z
                  cases ec : compL mg mt m vs ds e3 with
                  | bad nm2 e4 => exact ih e3 e4 nm2 ec
                  | stuck => rw [ec] at z; cases z
                  | ok ys e4 => rw [ec] at z; cases z
      exact this ds _ _ _ ec
    | stuck => rw [ec] at h1; exact h1.elim
  have zmono : ∀ {acc : List Y.D} {Ia Ib : Hp} {rr : R (List Y.D)}, Same Ia Ib → Z acc Ia rr → Z acc Ib rr := fun {acc Ia Ib rr} s z => by
    cases rr with
    | ok l e => exact ⟨z.1, fun I' H' s' => z.2 I' H' (s.trans s')⟩
    | bad nm e => exact z
    | stuck => exact z
  let f1 := f.at c I1 H1 (L2.wipe σ vs) (wipeE e0 vs)
  have fD : f1.H0 D0 = none := by
    by_cases q : Own (L2.wipe σ vs) (wipeE e0 vs) D0 ∨ c.isT D0
    · exact at_none q
    · exact (at_some q).trans hD0
  have nTD : ¬ c.isT D0 := r1.tabNe hD0
  have nD0 : ¬ Own (L2.wipe σ vs) (wipeE e0 vs) D0 := fun ⟨i, l, e, hs⟩ => by
    obtain ⟨p, ws, a1, a2, _⟩ := r1w.ow i l e
    rw [hs] at a1; cases a1
    rw [hD0] at a2; cases a2
  refine ⟨fun i n Hc => n = ds.length - i ∧ i ≤ ds.length ∧ ∃ Ic e acc av, Same I1 Ic ∧ Rst K c f1 Ic Hc (L2.wipe σ vs) e ∧ Hc D0 = some (.lst av) ∧ RDs K c.cl Ic av acc ∧ acc.length ≤ i ∧ Ic D0 = none ∧ ¬ Own (L2.wipe σ vs) e D0 ∧ Z acc Ic (compL mg mt m vs (ds.drop i) e),
    ⟨_, rfl, Nat.zero_le _, I1, _, [], [], Same.refl I1, r1w.at.new0 hD0, upd_same, .nil, Nat.le_refl _, r1.Inone hD0, nD0, by rw [List.drop_zero]; exact hz0⟩, ?_⟩
  rintro i n Hc ⟨rfl, hil, Ic, e, acc, av, sc, rc, hD, hacc, hal, hID, hnD, hz⟩
  obtain ⟨k1, k2⟩ := hJ f1 Ic Hc _ e sc rc
  cases ed : ds[i]? with
  | none =>
    have hl : ds.length ≤ i := List.getElem?_eq_none_iff.mp ed
    rw [List.drop_eq_nil_of_le hl] at hz
    refine .inl ⟨k1 i hl, ?_⟩
    have rcw : Rst K c f1 Ic Hc (L2.wipe σ vs) (wipeE e vs) := by
      have := rc.wipe (vs := vs) (show f1.io = none ∨ 0 ∉ vs from hio)
      rw [wipe_idem] at this
      exact this
    obtain ⟨rb, kb, kib, kob⟩ := r1w.back rcw
    have rr := r1.rest sc hio rb hz.1 kb kib kob
    have hq := hz.2 Ic Hc (Same.refl Ic) rr
    rw [List.append_nil] at hq
    refine hq D0 av hacc hD hID ⟨?_, ?_, fun j l ej hs => ?_⟩
    · exact (r1.fresh hD0).h0
    · exact (r1.fresh hD0).nio
    · rcases restE_get ej with ⟨hj, ej⟩ | ⟨ej, nj⟩
      · exact (r1.fresh hD0).no j l ej hs
      · obtain ⟨ej, this⟩ := wipeE_get (by intro z; cases z) ej
        exact hnD ⟨j, l, ej, by rw [wipe_keep this]; exact hs⟩
  | some d =>
    obtain ⟨hl, ed'⟩ := List.getElem?_eq_some_iff.mp ed
    obtain ⟨go, yl⟩ := k2 i d ed
    rw [List.drop_eq_getElem_cons hl, ed'] at hz
    unfold compL at hz
    cases eg : mg d (wipeE e vs) with
    | none => rw [eg] at hz; exact hz.elim
    | some e1 =>
      rw [eg] at hz
      have hz : Z acc Ic ((mt e1).noBad.bind fun b e => if b then (m e).noBad.bind fun y e => (compL mg mt m vs (ds.drop (i + 1)) e).bind fun ys e => .ok (y :: ys) e else compL mg mt m vs (ds.drop (i + 1)) e) := hz
      refine .inr ⟨go, fun Hn => ∃ In e2 acc2 av2, Same I1 In ∧ Rst K c f1 In Hn (L2.wipe σ vs) e2 ∧ Hn D0 = some (.lst av2) ∧ RDs K c.cl In av2 acc2 ∧ acc2.length ≤ i + 1 ∧ In D0 = none ∧ ¬ Own (L2.wipe σ vs) e2 D0 ∧ Z acc2 In (compL mg mt m vs (ds.drop (i + 1)) e2),
        fun Hn ⟨In, e2, acc2, av2, q1, q2, q3, q4, q5, q6, q7, q8⟩ => ⟨ds.length - (i + 1), by omega, rfl, hl, In, e2, acc2, av2, q1, q2, q3, q4, q5, q6, q7, q8⟩, fun x Hn y => ?_⟩
      obtain ⟨In, sn, rn, rv, keepH, keepI⟩ := yl x Hn y
      have hDn : Hn D0 = some (.lst av) := keepH _ _ hD
      have hIDn : In D0 = none := keepI D0 (by rw [hD]; simp) hID
      have hio1 : f1.io = none ∨ 0 ∉ is := hio.imp id fun z q => z (hv 0 q)
      have rnw : Rst K c f1 In Hn (L2.wipe σ vs) (wipeE e vs) := by
        have := rn.wipe (vs := vs) (show f1.io = none ∨ 0 ∉ vs from hio)
        rw [wipe_idem] at this
        exact this
      have nDw : ¬ Own (L2.wipe σ vs) (wipeE e vs) D0 := fun ⟨j, l, ej, hs⟩ => hnD ⟨j, l, (wipeE_get (by intro z; cases z) ej).1, hs⟩
      -- the block's part, in a frame that keeps the new list
      have ra := rnw.at
      refine sg _ In Hn _ (wipeE e vs) e1 x d _ (show (f1.at c In Hn (L2.wipe σ vs) (wipeE e vs)).io = none ∨ 0 ∉ is from hio1) ra rv eg fun σ3 r3 hw => ?_
      have hw3 : L2.wipe σ3 vs = L2.wipe σ vs := (hw vs hv).trans wipe_idem
      have home : ∀ {I2 H2 : Hp} {e2 : Env}, Rst K c (f1.at c In Hn (L2.wipe σ vs) (wipeE e vs)) I2 H2 σ3 e2 → Rst K c f1 I2 H2 (L2.wipe σ vs) (wipeE e2 vs) ∧ H2 D0 = some (.lst av) ∧ I2 D0 = none ∧ ¬ Own (L2.wipe σ vs) (wipeE e2 vs) D0 := fun {I2 H2 e2} q => by
        have q1 := q.wipe (vs := vs) (show (f1.at c In Hn (L2.wipe σ vs) (wipeE e vs)).io = none ∨ 0 ∉ vs from hio)
        rw [hw3] at q1
        obtain ⟨b1, b2, b3, b4⟩ := rnw.back q1
        exact ⟨b1, b2 D0 _ hDn nDw nTD, b3 D0 (by rw [hDn]; simp) hIDn nDw nTD, b4 D0 (by rw [hDn]; simp) nDw nTD⟩
      refine ⟨hw3, ?_⟩
      refine st _ In Hn σ3 e1 _ r3 (PostR.nbind (Z := Z acc) zmono (fun z => z) (zmono sn hz) fun b e2 I2 H2 s2 q2 z2 => ?_)
      cases b with
      | false =>
        obtain ⟨b1, b2, b3, b4⟩ := home q2
        simp only [PT2, Bool.false_eq_true, if_false]
        refine ⟨I2, wipeE e2 vs, acc, av, (sc.trans sn).trans s2, b1, b2, hacc.mono (sn.trans s2), Nat.le_succ_of_le hal, b3, b4, ?_⟩
        rw [compL_wipe]
        exact z2
      | true =>
        have z2 : Z acc I2 ((m e2).noBad.bind fun y e => (compL mg mt m vs (ds.drop (i + 1)) e).bind fun ys e => .ok (y :: ys) e) := z2
        simp only [PT2, if_true]
        refine se _ I2 H2 σ3 e2 _ q2 (PostR.nbind (Z := Z acc) zmono (fun z => z) z2 fun y e3 I3 H3 s3 q3 z3 v rv3 => ?_)
        obtain ⟨b1, b2, b3, b4⟩ := home q3
        have hacc3 : RDs K c.cl I3 av acc := hacc.mono ((sn.trans s2).trans s3)
        refine ⟨av, b2, big_lt (by rw [hacc3.length]; omega), ?_⟩
        refine ⟨I3, wipeE e3 vs, acc ++ [y], av ++ [v], ((sc.trans sn).trans s2).trans s3, b1.grow b2 b3 fD b4, upd_same, hacc3.append (.cons rv3 .nil), by simp; omega, b3, b4, ?_⟩
        rw [compL_wipe]
        have z3 : Z acc I3 ((compL mg mt m vs (ds.drop (i + 1)) e3).bind fun ys e => .ok (y :: ys) e) := z3
        cases ec : compL mg mt m vs (ds.drop (i + 1)) e3 with
        | ok ys e4 =>
          rw [ec] at z3
          refine ⟨z3.1, fun I' H' s' r' => ?_⟩
          have := z3.2 I' H' s' r'
          rw [List.append_assoc]
          exact this
        | bad nm e4 => rw [ec] at z3; exact z3
        | stuck => rw [ec] at z3; exact z3
end
section
variable {X : Cx} {c : Cc} {f : Fr} {W : WX} {pos : Pos} {elt tg iter : Expr} {ifs : List Expr} {scope : Scope} {own : List (Str × Nat)} {is : List Nat} {mi : ML} {g : MG} {t : MT} {m : ME}
theorem mts_nil : MTsx X c f W [] mYes := ⟨_, pts_nil, fun I H σ env Q r h => h I H (Same.refl I) r⟩
theorem mts_one {e : Expr} {t : MT} (h : MTx X c f W e t) : MTsx X c f W [e] t := by
  obtain ⟨tt, p, s⟩ := h
  exact ⟨_, pts_one p, s⟩
/-- the parts of a block, the same in each of its runs -/
def BlkE (X : Cx) (c : Cc) (scope : Scope) (e : Expr) (m : ME) : Prop := ∃ te, (∀ (s : Shared) (H : Hp) (C : Addr) (cl : List (Str × Addr)) (fp : List Addr), PE (X.blk s H scope (compEnvC scope cl C X.env) fp) e te) ∧ ∀ f : Fr, SimE X.K c f W0 te m
def BlkT (X : Cx) (c : Cc) (scope : Scope) (es : List Expr) (m : MT) : Prop := ∃ tt, (∀ (s : Shared) (H : Hp) (C : Addr) (cl : List (Str × Addr)) (fp : List Addr), PTs (X.blk s H scope (compEnvC scope cl C X.env) fp) es tt) ∧ ∀ f : Fr, SimT X.K c f W0 tt m
def BlkG (X : Cx) (c : Cc) (scope : Scope) (is : List Nat) (e : Expr) (m : MG) : Prop := ∃ g, (∀ (s : Shared) (H : Hp) (C : Addr) (cl : List (Str × Addr)) (fp : List Addr), PG (X.blk s H scope (compEnvC scope cl C X.env) fp) e g) ∧ SimG X.K c is g m
theorem ml_lc (hi : MIx X c f W tg iter mi) (ok : BlkOk X.N X.env.scope scope own) (hg : BlkG X c scope is tg g) (ht : BlkT X c scope ifs t) (he : BlkE X c scope elt m) (hN : X.N.Nodup) (hv : ∀ i ∈ is, i ∈ own.map (·.2) := by decide)
    (hio : f.io = none ∨ 0 ∉ own.map (·.2) := by first | exact .inl rfl | exact .inr (by decide)) (hc : X.calm = true := by rfl) (hs : ∀ x, foldedSetIterable iter X.env x = pure x := by intro _; rfl) :
    MLx X c f W (.ListComp elt [⟨tg, iter, ifs, 0⟩] scope pos) (mLc mi g t m (own.map (·.2))) := by
  obtain ⟨wi, pi, si⟩ := hi
  obtain ⟨g', pg, sg⟩ := hg
  obtain ⟨tt, pt, st⟩ := ht
  obtain ⟨te, pe, se⟩ := he
  exact ⟨_, pe_lc hc hN pi ok pg pt pe hs, sim_lc hv hio si sg st se⟩
/-- name = [..], the name a plain local -/
theorem ms_setLc (i : Nat) {y : Str} {py spos : Pos} (hi : MIx X c f W tg iter mi) (ok : BlkOk X.N X.env.scope scope own) (hg : BlkG X c scope is tg g) (ht : BlkT X c scope ifs t) (he : BlkE X c scope elt m) (hN : X.N.Nodup) (hv : ∀ i ∈ is, i ∈ own.map (·.2) := by decide)
    (hio : f.io = none ∨ 0 ∉ own.map (·.2) := by first | exact .inl rfl | exact .inr (by decide)) (hio2 : f.io = none ∨ i ≠ 0 := by first | exact .inl rfl | exact .inr (by decide)) (hc : X.calm = true := by rfl) (hs : ∀ x, foldedSetIterable iter X.env x = pure x := by intro _; rfl)
    (hy : X.N[i]? = some y := by rfl) (hyl : X.env.scope.names.lookup y = some .local := by rfl) (hsw : swapsWith (.ListComp elt [⟨tg, iter, ifs, 0⟩] scope pos) (some (.Name y py)) spos.line X.env = pure true := by exact sw_true rfl rfl rfl (by decide +kernel)) :
    MSx X c f W (.Assign [.Name y py] (.ListComp elt [⟨tg, iter, ifs, 0⟩] scope pos) spos) (sSetO i (mLc mi g t m (own.map (·.2)))) := by
  obtain ⟨wi, pi, si⟩ := hi
  obtain ⟨g', pg, sg⟩ := hg
  obtain ⟨tt, pt, st⟩ := ht
  obtain ⟨te, pe, se⟩ := he
  refine ⟨_, ps_setLc hc hN hy hyl hsw pi ok pg pt pe hs, fun I H σ env D r h => ?_⟩
  exact sim_lc hv hio si sg st se I H σ env _ r (h.go fun l env1 I1 H1 s1 r1 h1 p vs rv hp hI fr => h1 I1 H1 _ (Same.refl I1) (r1.setO hio2 rv hp hI fr))
end
end Y

set_option Elab.async false
set_option linter.all false
set_option maxRecDepth 100000
set_option maxHeartbeats 2000000
namespace Y
open PySem PySem.Spec PyProof.Rows L2

/-! ### what a def promises -/
inductive FR where
  | ok (d : D) | bad (nm : Str) | stuck
/-- .. one that may change its first argument, a list -/
inductive FRD where
  | ok (d : D) (l : List D) | bad (nm : Str) (l : List D) | stuck
/-- behind a call: q is the list that it may change -/
structure After (K : PySem.W.Frag) (c : Cc) (q : Option Addr) (I H I' H' : Hp) : Prop where
  sI : Same I I'
  sub : Same I' H'
  fr0 : ∀ a o, H a = some o → q ≠ some a → ¬ c.isT a → H' a = some o
  t1 : ∀ P ∈ c.T1, GxR.TabG H' P
  t2 : LamX.Tabs c.T2 H'
  it : ∀ a, c.isT a → I' a = none
  ni : ∀ a, H a ≠ none → I a = none → q ≠ some a → ¬ c.isT a → I' a = none
/-- ahead of a call -/
structure Ahead (K : PySem.W.Frag) (c : Cc) (I H : Hp) : Prop where
  sub : Same I H
  t1 : ∀ P ∈ c.T1, GxR.TabG H P
  t2 : LamX.Tabs c.T2 H
  it : ∀ a, c.isT a → I a = none
def EndP (K : PySem.W.Frag) (c : Cc) (I H : Hp) (Q : VK) (E : XK) : FR → Prop
  | .ok d => ∀ v I' H', After K c none I H I' H' → RD K c.cl I' v d → Q v H'
  | .bad nm => ∀ I' H' dx, After K c none I H I' H' → H' dx = some (.xd [(("name" : Str), .str nm)]) → E (.ref c.bad) (some dx) H'
  | .stuck => False
def spP (K : PySem.W.Frag) (c : Cc) (n : Nat) (m : List D → FR) : Sp := fun vs H Q E => ∃ I ds, vs.length = n ∧ Ahead K c I H ∧ RDs K c.cl I vs ds ∧ EndP K c I H Q E (m ds)
def EndD (K : PySem.W.Frag) (c : Cc) (p : Addr) (I H : Hp) (Q : VK) (E : XK) : FRD → Prop
  | .ok d l => ∀ v I' H' xs, After K c (some p) I H I' H' → RD K c.cl I' v d → H' p = some (.lst xs) → RDs K c.cl I' xs l → I' p = none → Q v H'
  | .bad nm l => ∀ I' H' xs dx, After K c (some p) I H I' H' → H' dx = some (.xd [(("name" : Str), .str nm)]) → H' p = some (.lst xs) → RDs K c.cl I' xs l → I' p = none → E (.ref c.bad) (some dx) H'
  | .stuck => False
def spD (K : PySem.W.Frag) (c : Cc) (n : Nat) (m : List D → List D → FRD) : Sp := fun vs H Q E => ∃ I p us xs l ds, vs = .ref p :: us ∧ vs.length = n ∧ Ahead K c I H ∧ H p = some (.lst xs) ∧ RDs K c.cl I xs l ∧ I p = none ∧ RDs K c.cl I us ds ∧ EndD K c p I H Q E (m l ds)
/-- a def that returns a new list, not known yet -/
inductive FRO where
  | ok (l : List D) | stuck
def EndO (K : PySem.W.Frag) (c : Cc) (I H : Hp) (Q : VK) : FRO → Prop
  | .ok l => ∀ p xs I' H', After K c none I H I' H' → H p = none → H' p = some (.lst xs) → RDs K c.cl I' xs l → I' p = none → Q (.ref p) H'
  | .stuck => False
def spO (K : PySem.W.Frag) (c : Cc) (n : Nat) (m : List D → FRO) : Sp := fun vs H Q E => ∃ I ds, vs.length = n ∧ Ahead K c I H ∧ RDs K c.cl I vs ds ∧ EndO K c I H Q (m ds)

/-! ### from the body to the promise -/
def ent (n : Nat) (ds : List D) : Env := ds.map Sl.va ++ List.replicate (n - ds.length) Sl.un
def runF (n : Nat) (mb : SX) (ds : List D) : FR := match mb (ent n ds) with
  | .nx _ => .ok .non
  | .rt d _ => .ok d
  | .bad nm _ => .bad nm
  | _ => .stuck
def entD (n : Nat) (l : List D) (ds : List D) : Env := Sl.ow l :: ds.map Sl.va ++ List.replicate (n - (ds.length + 1)) Sl.un
def runD (n : Nat) (mb : SX) (l : List D) (ds : List D) : FRD := match mb (entD n l ds) with
  | .nx e => (match e[0]? with
    | some (Sl.ow l') => .ok .non l'
    | _ => .stuck)
  | .rt d e => (match e[0]? with
    | some (Sl.ow l') => .ok d l'
    | _ => .stuck)
  | .bad nm e => (match e[0]? with
    | some (Sl.ow l') => .bad nm l'
    | _ => .stuck)
  | _ => .stuck
section
variable {K : PySem.W.Frag} {c : Cc} {I H : Hp}
theorem ent_get {n : Nat} {ds : List D} {i : Nat} {x : Sl} (h : (ent n ds)[i]? = some x) : (∃ d, ds[i]? = some d ∧ x = .va d) ∨ x = .un := by
  unfold ent at h
  by_cases hi : i < ds.length
  · rw [List.getElem?_append_left (by simpa using hi), List.getElem?_map] at h
    cases e : ds[i]? with
    | none => rw [e] at h; cases h
    | some d => rw [e] at h; cases h; exact .inl ⟨d, rfl, rfl⟩
  · rw [List.getElem?_append_right (by simpa using hi), List.getElem?_replicate] at h
    split at h <;> cases h
    exact .inr rfl
theorem start_get {N : List Str} {vs : List V} {i : Nat} {v : V} (h : vs[i]? = some v) : (L2.start N vs)[i]? = some (some v) := by
  unfold L2.start
  have hi := (List.getElem?_eq_some_iff.mp h).1
  rw [List.getElem?_append_left (by simpa using hi), List.getElem?_map, h]; rfl
theorem start_len {N : List Str} {vs : List V} : (L2.start N vs).length = vs.length + (N.length - vs.length) := by
  unfold L2.start; simp
abbrev frP (H : Hp) (ni : Addr → Prop) : Fr := ⟨H, none, ni⟩
abbrev frD (H : Hp) (p : Addr) (ni : Addr → Prop) : Fr := ⟨H, some p, ni⟩
theorem rst_start {N : List Str} {vs : List V} {ds : List D} (ah : Ahead K c I H) (rv : RDs K c.cl I vs ds) : Rst K c (frP H fun a => I a = none ∧ H a ≠ none ∧ ¬ c.isT a) I H (L2.start N vs) (ent N.length ds) := by
  refine ⟨ah.sub, fun a o h _ _ => h, ah.t1, ah.t2, ah.it, ?_, fun i d e => ?_, fun i l e => ?_, fun i j l l' p e => ?_, fun p hp => (nomatch hp), fun a ⟨h1, h2, h3⟩ => ⟨h1, ?_, (fun z => nomatch z), h3⟩⟩
  · rw [start_len, rv.length]
    unfold ent; simp
  · rcases ent_get e with ⟨d', e1, e2⟩ | e2
    · cases e2
      obtain ⟨v, a, b⟩ := rv.get e1
      exact ⟨v, start_get a, b⟩
    · cases e2
  · rcases ent_get e with ⟨d', e1, e2⟩ | e2 <;> cases e2
  · rcases ent_get e with ⟨d', e1, e2⟩ | e2 <;> cases e2
  · cases q : H a with
    | none => exact absurd q h2
    | some o => exact ⟨o, q⟩
theorem entD_get {n : Nat} {l ds : List D} {i : Nat} {x : Sl} (h : (entD n l ds)[i]? = some x) : (i = 0 ∧ x = .ow l) ∨ (∃ j d, i = j + 1 ∧ ds[j]? = some d ∧ x = .va d) ∨ x = .un := by
  unfold entD at h
  cases i with
  | zero => simp at h; exact .inl ⟨rfl, h.symm⟩
  | succ j =>
    simp only [List.cons_append, List.getElem?_cons_succ] at h
    by_cases hi : j < ds.length
    · rw [List.getElem?_append_left (by simpa using hi), List.getElem?_map] at h
      cases e : ds[j]? with
      | none => rw [e] at h; cases h
      | some d => rw [e] at h; cases h; exact .inr (.inl ⟨j, d, rfl, e, rfl⟩)
    · rw [List.getElem?_append_right (by simpa using hi), List.getElem?_replicate] at h
      split at h <;> cases h
      exact .inr (.inr rfl)
theorem rst_startD {N : List Str} {p : Addr} {us : List V} {xs : List V} {l ds : List D} (ah : Ahead K c I H) (hp : H p = some (.lst xs)) (rl : RDs K c.cl I xs l) (hI : I p = none) (rv : RDs K c.cl I us ds) :
    Rst K c (frD H p fun a => I a = none ∧ H a ≠ none ∧ ¬ c.isT a ∧ a ≠ p) I H (L2.start N (.ref p :: us)) (entD N.length l ds) := by
  refine ⟨ah.sub, fun a o h _ _ => h, ah.t1, ah.t2, ah.it, ?_, fun i d e => ?_, fun i l' e => ?_, fun i j l1 l2 q e e' _ _ => ?_, fun q hq => ?_, fun a ⟨h1, h2, h3, h4⟩ => ⟨h1, ?_, (fun z => h4 (Option.some.inj z).symm), h3⟩⟩
  · rw [start_len]
    unfold entD; simp [rv.length]; omega
  · rcases entD_get e with ⟨rfl, e2⟩ | ⟨j, d', rfl, e1, e2⟩ | e2
    · cases e2
    · cases e2
      obtain ⟨v, a, b⟩ := rv.get e1
      exact ⟨v, start_get (by simpa using a), b⟩
    · cases e2
  · rcases entD_get e with ⟨rfl, e2⟩ | ⟨j, d', rfl, e1, e2⟩ | e2
    · cases e2
      exact ⟨p, xs, start_get rfl, hp, rl, hI, .inr rfl⟩
    · cases e2
    · cases e2
  · rcases entD_get e with ⟨rfl, e2⟩ | ⟨j, d', rfl, e1, e2⟩ | e2
    · rcases entD_get e' with ⟨rfl, e3⟩ | ⟨j, d', rfl, e1, e3⟩ | e3
      · rfl
      · cases e3
      · cases e3
    · cases e2
    · cases e2
  · cases hq
    exact ⟨start_get rfl, l, rfl⟩
  · cases q : H a with
    | none => exact absurd q h2
    | some o => exact ⟨o, q⟩
theorem Rst.after {I' H' : Hp} {σ : L2.St} {env : Env} (s : Same I I') (q : Rst K c (frP H fun a => I a = none ∧ H a ≠ none ∧ ¬ c.isT a) I' H' σ env) : After K c none I H I' H' :=
  ⟨s, q.sub, fun a o h n nt => q.fr0 a o h n nt, q.t1, q.t2, q.it, fun a h hI _ nt => (q.ni a ⟨hI, h, nt⟩).1⟩
theorem Rst.afterD {p : Addr} {I' H' : Hp} {σ : L2.St} {env : Env} (s : Same I I') (q : Rst K c (frD H p fun a => I a = none ∧ H a ≠ none ∧ ¬ c.isT a ∧ a ≠ p) I' H' σ env) : After K c (some p) I H I' H' :=
  ⟨s, q.sub, fun a o h n nt => q.fr0 a o h n nt, q.t1, q.t2, q.it, fun a h hI n nt => (q.ni a ⟨hI, h, nt, fun z => n (by rw [z])⟩).1⟩
theorem Rst.io {p : Addr} {ni : Addr → Prop} {I' H' : Hp} {σ : L2.St} {env : Env} {l : List D} (q : Rst K c (frD H p ni) I' H' σ env) (e : env[0]? = some (.ow l)) : ∃ xs, H' p = some (.lst xs) ∧ RDs K c.cl I' xs l ∧ I' p = none := by
  obtain ⟨h0, _⟩ := q.io0 p rfl
  obtain ⟨p', vs, a1, a2, a3, a4, _⟩ := q.ow 0 l e
  rw [h0] at a1; cases a1
  exact ⟨vs, a2, a3, a4⟩
end

/-! ### defs in their place -/
/-- a def that may be called -/
structure Cal (P : Program) (w : World) (K : PySem.W.Frag) (mg : Str → Option Value) (base : Heap) (k : Nat) (x : Str) (ps : List Str) (sp : Sp) : Prop where
  ex : ∃ f fd, FnOk P w K mg base (L2.CX P w) k f fd ps sp ∧ mg x = some (.ref f) ∧ PySem.W.keepIn K (.ref f) = true ∧ Binds K fd ps []
/-- .. with n positional values and the keywords ks behind them -/
structure CalK (P : Program) (w : World) (K : PySem.W.Frag) (mg : Str → Option Value) (base : Heap) (k : Nat) (x : Str) (ps : List Str) (sp : Sp) (n : Nat) (ks : List Str) : Prop where
  ex : ∃ f fd, FnOk P w K mg base (L2.CX P w) k f fd ps sp ∧ mg x = some (.ref f) ∧ PySem.W.keepIn K (.ref f) = true ∧ KBn K fd ps n ks (fun us ws => us ++ ws) (fun us ws => us ++ ws)
section
variable {P : Program} {w : World} {K : PySem.W.Frag} {mg : Str → Option Value} {base : Heap} {k : Nat} {x qual : Str} {params : Arguments} {body : List Stmt} {scope : Scope} {f : Addr} {fd : FuncData} {N ps : List Str} {c : Cc} {sp : Sp}
theorem FunD.kbn {n : Nat} {ks : List Str} (F : FunD K x qual params body scope [] [] f fd)
    (h : ∀ (kV doc pm : Value) (an : Option Addr) (cdv ct : Value) (us ws : List Value), us.length = n → ws.length = ks.length → bindArgs (PySem.W.fnOf x qual params body scope .none kV doc pm an cdv ct) ⟨us, ks.zip ws⟩ = pure (ps.zip (us ++ ws))) :
    KBn K fd ps n ks (fun us ws => us ++ ws) (fun us ws => us ++ ws) := by
  obtain ⟨oc, od, dV, kV, doc, pm, an, cdv, ct, osl, rfl, lk, hcd, hD, hK⟩ := F.ex
  rcases hD with ⟨_, rfl⟩ | ⟨e, _⟩
  · exact ⟨fun s us ws _ h1 h2 => .of_eq (h kV doc pm an cdv ct us ws h1 h2), fun r1 r2 => r1.append r2⟩
  · exact absurd rfl e
abbrev cxB (P : Program) (w : World) (K : PySem.W.Frag) (mg : Str → Option Value) (base : Heap) (N : List Str) (qual : Str) (scope : Scope) (f : Addr) (cd : Value) (A : Around) (outer : List PySem.Env) (s : Shared) (H : Hp) (E : XK) : Cx := cxOf (L2.CX P w) P w K mg base N qual scope f cd A outer s H E
abbrev WB (E : XK) : WX := fun cls d _ H => E cls d H
theorem takesB {cd : Value} {A : Around} {outer : List PySem.Env} {s : Shared} {H : Hp} {E : XK} : Takes (cxB P w K mg base N qual scope f cd A outer s H E) (WB E) := takes_of rfl rfl rfl rfl
/-- the code object that a def runs -/
def CodeAt (K : PySem.W.Frag) (f : Addr) (qual : Str) (cd : Value) : Prop := ∃ oc od fd osl, K.lookup f = some (⟨oc, od, .func fd, osl⟩ : Obj) ∧ fd.code = cd ∧ PySem.W.codeIn K cd qual = true
/-- what a body is proved in: any entry -/
def Bod (P : Program) (w : World) (K : PySem.W.Frag) (mg : Str → Option Value) (base : Heap) (N : List Str) (qual : Str) (scope : Scope) (f : Addr) (k : Nat) (c : Cc) (io : Bool) (body : List Stmt) (mb : SX) : Prop :=
  ∀ (cd : Value) (A : Around) (outer : List PySem.Env) (s : Shared) (H : Hp) (E : XK), Room k (cxB P w K mg base N qual scope f cd A outer s H E).A → CodeAt K f qual cd →
    ∀ (p : Addr) (ni : Addr → Prop), MBx (cxB P w K mg base N qual scope f cd A outer s H E) c (if io then frD H p ni else frP H ni) (WB E) body mb
theorem FunD.ok2 {CX : CXT} (F : FunD K x qual params body scope [] [] f fd) (S : FnScope N ps scope) (len : ∀ vs H Q E, sp vs H Q E → vs.length = ps.length)
    (hbody : ∀ (cdv : Value) (A : Around) (outer : List PySem.Env) (s : Shared) (H : Hp) (vs : List V) (Q : VK) (E : XK), CodeAt K f qual cdv → Room k (A.deeper (envOfC qual scope s.heap.objs.size f cdv)) → sp vs H Q E →
      ∃ t, PSs (cxOf CX P w K mg base N qual scope f cdv A outer s H E) body t ∧ t { nx := fun _ H' => Q .non H', rt := Q } (L2.start N vs) H) : FnOk P w K mg base CX (k + 1) f fd ps sp := by
  obtain ⟨oc, od, dV, kV, doc, pm, an, cdv, ct, osl, rfl, lk, hcd, _, _⟩ := F.ex
  exact fn_of lk hcd S len fun A outer s H vs Q E hr hsp => hbody cdv A outer s H vs Q E ⟨oc, od, _, osl, lk, rfl, hcd⟩ hr hsp
theorem fnok_P {mb : SX} (F : FunD K x qual params body scope [] [] f fd) (S : FnScope N ps scope) (hb : Bod P w K mg base N qual scope f k c false body mb) :
    FnOk P w K mg base (L2.CX P w) (k + 1) f fd ps (spP K c ps.length (runF N.length mb)) := by
  refine FunD.ok2 F S (fun vs H Q E ⟨_, _, h, _⟩ => h) fun cd A outer s H vs Q E hcd hr ⟨I, ds, hl, ah, rv, he⟩ => ?_
  obtain ⟨t, pt, st⟩ := hb cd A outer s H E hr hcd 0 (fun a => I a = none ∧ H a ≠ none ∧ ¬ c.isT a)
  refine ⟨t, pt, st I H _ (ent N.length ds) _ (rst_start ah rv) ?_⟩
  unfold runF at he
  cases e : mb (ent N.length ds) with
  | nx env => rw [e] at he; exact fun I' H' σ' s' r' => he _ I' H' (r'.after s') .non
  | rt d env => rw [e] at he; exact fun I' H' σ' v s' r' rd => he v I' H' (r'.after s') rd
  | bk env => rw [e] at he; exact he.elim
  | ct env => rw [e] at he; exact he.elim
  | bad nm env => rw [e] at he; exact fun I' H' σ' dx s' r' hx => he I' H' dx (r'.after s') hx
  | stuck => rw [e] at he; exact he.elim
theorem fnok_D {mb : SX} (F : FunD K x qual params body scope [] [] f fd) (S : FnScope N ps scope) (hb : Bod P w K mg base N qual scope f k c true body mb) :
    FnOk P w K mg base (L2.CX P w) (k + 1) f fd ps (spD K c ps.length (runD N.length mb)) := by
  refine FunD.ok2 F S (fun vs H Q E ⟨_, _, _, _, _, _, _, h, _⟩ => h) fun cd A outer s H vs Q E hcd hr ⟨I, p, us, xs, l, ds, ev, hl, ah, hp, rl, hI, rv, he⟩ => ?_
  subst ev
  obtain ⟨t, pt, st⟩ := hb cd A outer s H E hr hcd p (fun a => I a = none ∧ H a ≠ none ∧ ¬ c.isT a ∧ a ≠ p)
  refine ⟨t, pt, st I H _ (entD N.length l ds) _ (rst_startD ah hp rl hI rv) ?_⟩
  unfold runD at he
  cases e : mb (entD N.length l ds) with
  | nx env =>
    rw [e] at he
    simp only at he
    split at he
    · rename_i l' e0
      intro I' H' σ' s' r'
      obtain ⟨zs, b1, b2, b3⟩ := r'.io e0
      exact he _ I' H' zs (r'.afterD s') .non b1 b2 b3
    · exact he.elim
  | rt d env =>
    rw [e] at he
    simp only at he
    split at he
    · rename_i l' e0
      intro I' H' σ' v s' r' rd
      obtain ⟨zs, b1, b2, b3⟩ := r'.io e0
      exact he v I' H' zs (r'.afterD s') rd b1 b2 b3
    · exact he.elim
  | bk env => rw [e] at he; exact he.elim
  | ct env => rw [e] at he; exact he.elim
  | bad nm env =>
    rw [e] at he
    simp only at he
    split at he
    · rename_i l' e0
      intro I' H' σ' dx s' r' hx
      obtain ⟨zs, b1, b2, b3⟩ := r'.io e0
      exact he I' H' zs dx (r'.afterD s') hx b1 b2 b3
    · exact he.elim
  | stuck => rw [e] at he; exact he.elim
/-- a def that nobody can use -/
theorem fnok_stuck {ps : List Str} : FnOk P w K mg base (L2.CX P w) k f fd ps (spP K c ps.length fun _ => .stuck) :=
  ⟨fun vs H Q E ⟨_, _, h, _⟩ => h, fun A outer s H args us vs Q E hr e0 hb hv ⟨_, _, _, _, _, h⟩ => h.elim⟩
theorem Cal.mono {j : Nat} {ps : List Str} (C : Cal P w K mg base j x ps sp) (h : j ≤ k) : Cal P w K mg base k x ps sp := by
  obtain ⟨f, fd, F, r⟩ := C.ex
  exact ⟨f, fd, F.mono h, r⟩
theorem CalK.mono {j n : Nat} {ps ks : List Str} (C : CalK P w K mg base j x ps sp n ks) (h : j ≤ k) : CalK P w K mg base k x ps sp n ks := by
  obtain ⟨f, fd, F, r⟩ := C.ex
  exact ⟨f, fd, F.mono h, r⟩
end

/-! ### calls -/
/-- what the callee lets out is taken -/
def Pas (X : Cx) (W : WX) : Prop := ∃ E : XK, W = WB E ∧ Passes (L2.CX X.prog X.w) X E
theorem Pas.of {X : Cx} {E : XK} (tk : Takes X (WB E)) : Pas X (WB E) := ⟨E, rfl, passes_call tk fun _ _ _ _ h => h⟩
theorem Pas.none {X : Cx} : Pas X W0 := ⟨fun _ _ _ => False, rfl, fun _ _ _ _ _ _ _ ⟨_, _, _, _, _, _, _, _, _, _, _, _, h⟩ => h.elim⟩
def FR.to (r : FR) (env : Env) : R D := match r with
  | .ok d => .ok d env
  | .bad nm => .bad nm env
  | .stuck => .stuck
def mFn (n : Nat) (m : List D → FR) (a : MA) : ME := fun env => (a env).bind fun ds e => if ds.length = n then (m ds).to e else .stuck
section
variable {K : PySem.W.Frag} {c : Cc} {f : Fr} {W : WX} {I H : Hp} {σ : L2.St} {env : Env}
theorem Rst.ahead (r : Rst K c f I H σ env) : Ahead K c I H := ⟨r.sub, r.t1, r.t2, r.it⟩
/-- a call that changes nothing of ours -/
theorem Rst.called (r : Rst K c f I H σ env) {I' H' : Hp} (a : After K c none I H I' H') : Rst K c f I' H' σ env := by
  refine ⟨a.sub, fun b o h n nt => a.fr0 b o (r.fr0 b o h n nt) (fun z => nomatch z) nt, a.t1, a.t2, a.it, r.len, fun i d e => ?_, fun i l e => ?_, r.nd, r.io0, fun b hb => ?_⟩
  · obtain ⟨v, h1, h2⟩ := r.va i d e
    exact ⟨v, h1, h2.mono a.sI⟩
  · obtain ⟨p, vs, h1, h2, h3, h4, h5⟩ := r.ow i l e
    have nt : ¬ c.isT p := fun z => by
      rcases z with z | ⟨q, z⟩
      · obtain ⟨ps, h, _⟩ := r.t1 _ z; rw [h2] at h; cases h
      · obtain ⟨ps, h, _⟩ := r.t2 _ z; rw [h2] at h; cases h
    exact ⟨p, vs, h1, a.fr0 p _ h2 (fun z => nomatch z) nt, h3.mono a.sI, a.ni p (by rw [h2]; simp) h4 (fun z => nomatch z) nt, h5⟩
  · obtain ⟨n1, ⟨o, n2⟩, n3, n4⟩ := r.ni b hb
    have hH := r.fr0 b o n2 n3 n4
    exact ⟨a.ni b (by rw [hH]; simp) n1 (fun z => nomatch z) n4, ⟨o, n2⟩, n3, n4⟩
theorem sim_spP {n : Nat} {m : List D → FR} {E : XK} {Q : VK} {vs : List V} {ds : List D} (r : Rst K c f I H σ env) (rv : RDs K c.cl I vs ds) (h : PostR K c f (WB E) σ (PQ K c Q) I (if ds.length = n then (m ds).to env else .stuck)) : spP K c n m vs H Q E := by
  by_cases hl : ds.length = n
  case neg => rw [if_neg hl] at h; exact h.elim
  rw [if_pos hl] at h
  refine ⟨I, ds, rv.length.trans hl, r.ahead, rv, ?_⟩
  cases e : m ds with
  | ok d => rw [e] at h; exact fun v I' H' a rd => h I' H' a.sI (r.called a) v rd
  | bad nm => rw [e] at h; exact fun I' H' dx a hx => h I' H' dx a.sI (r.called a) hx
  | stuck => rw [e] at h; exact h.elim
end
section
variable {X : Cx} {c : Cc} {f : Fr} {W : WX} {p pos : Pos} {k n : Nat} {x : Str} {ps ks : List Str} {e : Expr} {es : List Expr} {ma mk : MA} {m : List D → FR}
theorem me_call (C : Cal X.prog X.w X.K X.mg X.base k x ps (spP X.K c n m)) (hr : Room k X.A) (hp : Pas X W) (ha : MAx X c f W (e :: es) ma)
    (hg : Gl X x := by rfl) (hdb : (x == ("__debug__" : Str)) = false := by decide) (he : starEach (e :: es) X.env = (false, eval e X.env) :: starEach es X.env := by rfl) (hpl : (backTo pos (starEach es X.env)).any (·.1) = false := by rfl) :
    MEx X c f W (.Call (.Name x p) (e :: es) [] pos) (mFn n m ma) := by
  obtain ⟨fa, fd, F, hm, hk, hb⟩ := C.ex
  obtain ⟨E, rfl, hx⟩ := hp
  obtain ⟨ta, pa, sa⟩ := ha
  refine ⟨_, pe_call F hr hg hm hk hb .nil hx pa hdb he hpl, fun I H σ env Q r h => ?_⟩
  refine sa.bind r h fun ds env1 I1 H1 vs s1 r1 rv h1 => ?_
  rw [List.append_nil]
  exact sim_spP r1 rv h1
/-! with keywords behind -/
structure MKx (X : Cx) (c : Cc) (f : Fr) (W : WX) (kws : List Keyword) (m : MA) : Prop where
  ex : ∃ tk, PK X kws tk ∧ SimA X.K c f W tk m
theorem mk_nil : MKx X c f W [] aNil := ⟨_, pk_nil, fun I H σ env Q r h => PostR.nowA h r .nil⟩
theorem mk_cons {nm : Option Str} {kpos : Pos} {e : Expr} {kws : List Keyword} {m : ME} {ma : MA} (h : MEx X c f W e m) (h2 : MKx X c f W kws ma) : MKx X c f W (⟨nm, e, kpos⟩ :: kws) (aCons m ma) := by
  obtain ⟨t, p, s⟩ := h
  obtain ⟨u, q, s'⟩ := h2.ex
  refine ⟨_, pk_cons p q, fun I H σ env Q r h => ?_⟩
  refine s.bind r h fun x env1 I1 H1 v s1 r1 rv h1 => ?_
  exact s'.bind r1 h1 fun xs env2 I2 H2 vs s2 r2 rvs h2 => PostR.nowA h2 r2 (.cons (rv.mono s2) rvs)
def mFnK (a b n : Nat) (m : List D → FR) (ma mk : MA) : ME := fun env => (ma env).bind fun ds e => (mk e).bind fun zs e => if ds.length = a ∧ zs.length = b then (if (ds ++ zs).length = n then (m (ds ++ zs)).to e else .stuck) else .stuck
theorem me_callK {a : Nat} {kws : List Keyword} (C : CalK X.prog X.w X.K X.mg X.base k x ps (spP X.K c n m) a ks) (hr : Room k X.A) (hp : Pas X W) (ha : MAx X c f W (e :: es) ma) (hk : MKx X c f W kws mk)
    (hall : (backToKw pos (keywordEach kws X.env)).all (·.1.isSome) = true := by rfl) (hks : (backToKw pos (keywordEach kws X.env)).filterMap (·.1) = ks := by rfl)
    (hg : Gl X x := by rfl) (hdb : (x == ("__debug__" : Str)) = false := by decide) (he : starEach (e :: es) X.env = (false, eval e X.env) :: starEach es X.env := by rfl)
    (hpl : ((backTo pos (starEach (e :: es) X.env)).any (·.1) || (backToKw pos (keywordEach kws X.env)).any (·.1.isNone)) = false := by rfl) :
    MEx X c f W (.Call (.Name x p) (e :: es) kws pos) (mFnK a ks.length n m ma mk) := by
  obtain ⟨fa, fd, F, hm, hk', hb⟩ := C.ex
  obtain ⟨E, rfl, hx⟩ := hp
  obtain ⟨ta, pa, sa⟩ := ha
  obtain ⟨tk, pk, sk⟩ := hk.ex
  refine ⟨_, pe_callN F hr hg hm hk' hb hx pa pk hall hks hdb he hpl, fun I H σ env Q r h => ?_⟩
  refine sa.bind r h fun ds env1 I1 H1 vs s1 r1 rv h1 => ?_
  refine sk.bind r1 h1 fun zs env2 I2 H2 us s2 r2 ru h2 => ?_
  by_cases hl : ds.length = a ∧ zs.length = ks.length
  case neg => rw [if_neg hl] at h2; exact h2.elim
  rw [if_pos hl] at h2
  exact ⟨rv.length.trans hl.1, ru.length.trans hl.2, sim_spP r2 ((rv.mono s2).append ru) h2⟩

/-! ### the callee changes our list in slot i -/
def FRD.to (r : FRD) (i : Nat) (env : Env) : R D := match r with
  | .ok d l => .ok d (env.set i (.ow l))
  | .bad nm l => .bad nm (env.set i (.ow l))
  | .stuck => .stuck
def mFnD (i n : Nat) (m : List D → List D → FRD) (a : MA) : ME := fun env => match env[i]? with
  | some (.ow _) => (a env).bind fun ds e => match e[i]? with
    | some (.ow l) => if ds.length + 1 = n then (m l ds).to i e else .stuck
    | _ => .stuck
  | _ => .stuck
end
section
variable {K : PySem.W.Frag} {c : Cc} {f : Fr} {W : WX} {I H : Hp} {σ : L2.St} {env : Env}
theorem Rst.calledD (r : Rst K c f I H σ env) {i : Nat} {p : Addr} {l l' : List D} {xs : List V} (ei : env[i]? = some (.ow l)) (hs : σ[i]? = some (some (.ref p))) {I' H' : Hp} (a : After K c (some p) I H I' H') (hp : H' p = some (.lst xs)) (rl : RDs K c.cl I' xs l') (hI : I' p = none) :
    Rst K c f I' H' σ (env.set i (.ow l')) := by
  obtain ⟨p', vs', b1, b2, b3, b4, b5⟩ := r.ow i l ei
  rw [hs] at b1; cases b1
  have hi : i < env.length := (List.getElem?_eq_some_iff.mp ei).1
  have nt : ∀ {q vs}, H q = some (.lst vs) → ¬ c.isT q := fun {q vs} h2 z => by
    rcases z with z | ⟨y, z⟩
    · obtain ⟨ps, h, _⟩ := r.t1 _ z; rw [h2] at h; cases h
    · obtain ⟨ps, h, _⟩ := r.t2 _ z; rw [h2] at h; cases h
  refine ⟨a.sub, fun b o h n ntb => ?_, a.t1, a.t2, a.it, by rw [List.length_set]; exact r.len, fun j d e => ?_, fun j m e => ?_, fun j k m m' q e e' hj hk => ?_, fun q hq => ?_, fun b hb => ?_⟩
  · have : b ≠ p := fun z => by
      rcases b5 with b5 | b5
      · rw [z, b5] at h; cases h
      · exact n (b5.trans (by rw [z]))
    exact a.fr0 b o (r.fr0 b o h n ntb) (fun z => this (Option.some.inj z).symm) ntb
  · rcases get_set e with ⟨rfl, e1⟩ | ⟨ne, e⟩
    · cases e1
    · obtain ⟨v, h1, h2⟩ := r.va j d e
      exact ⟨v, h1, h2.mono a.sI⟩
  · rcases get_set e with ⟨rfl, e1⟩ | ⟨ne, e⟩
    · cases e1
      exact ⟨p, xs, hs, hp, rl, hI, b5⟩
    · obtain ⟨q, vs, h1, h2, h3, h4, h5⟩ := r.ow j m e
      have nq : q ≠ p := fun z => ne (r.nd i j l m p ei e hs (z ▸ h1))
      exact ⟨q, vs, h1, a.fr0 q _ h2 (fun z => nq (Option.some.inj z).symm) (nt h2), h3.mono a.sI, a.ni q (by rw [h2]; simp) h4 (fun z => nq (Option.some.inj z).symm) (nt h2), h5⟩
  · have key : ∀ {j : Nat} {m : List D}, (env.set i (.ow l'))[j]? = some (.ow m) → ∃ m', env[j]? = some (.ow m') := fun {j m} h => by
      rcases get_set h with ⟨rfl, _⟩ | ⟨_, h⟩
      · exact ⟨l, ei⟩
      · exact ⟨m, h⟩
    obtain ⟨m1, e1⟩ := key e
    obtain ⟨m2, e2⟩ := key e'
    exact r.nd j k m1 m2 q e1 e2 hj hk
  · obtain ⟨h0, l0, e0⟩ := r.io0 q hq
    refine ⟨h0, ?_⟩
    by_cases z : i = 0
    · subst z; exact ⟨l', by rw [List.getElem?_set_self hi]⟩
    · exact ⟨l0, by rw [List.getElem?_set_ne z]; exact e0⟩
  · obtain ⟨n1, ⟨o, n2⟩, n3, n4⟩ := r.ni b hb
    have hH := r.fr0 b o n2 n3 n4
    have nb : b ≠ p := fun z => by
      rcases b5 with b5 | b5
      · rw [z, b5] at n2; cases n2
      · exact n3 (b5.trans (by rw [z]))
    exact ⟨a.ni b (by rw [hH]; simp) n1 (fun z => nb (Option.some.inj z).symm) n4, ⟨o, n2⟩, n3, n4⟩
theorem sim_spD {i n : Nat} {m : List D → List D → FRD} {E : XK} {Q : VK} {us : List V} {ds l : List D} {p : Addr} (r : Rst K c f I H σ env) (ei : env[i]? = some (.ow l)) (hs : σ[i]? = some (some (.ref p))) (rv : RDs K c.cl I us ds)
    (h : PostR K c f (WB E) σ (PQ K c Q) I (if ds.length + 1 = n then (m l ds).to i env else .stuck)) : spD K c n m (.ref p :: us) H Q E := by
  by_cases hl : ds.length + 1 = n
  case neg => rw [if_neg hl] at h; exact h.elim
  rw [if_pos hl] at h
  obtain ⟨p', xs, b1, b2, b3, b4, b5⟩ := r.ow i l ei
  rw [hs] at b1; cases b1
  refine ⟨I, p, us, xs, l, ds, rfl, by simp [rv.length, hl], r.ahead, b2, b3, b4, rv, ?_⟩
  cases e : m l ds with
  | ok d l' => rw [e] at h; exact fun v I' H' xs' a rd hp rl hI => h I' H' a.sI (r.calledD ei hs a hp rl hI) v rd
  | bad nm l' => rw [e] at h; exact fun I' H' xs' dx a hx hp rl hI => h I' H' dx a.sI (r.calledD ei hs a hp rl hI) hx
  | stuck => rw [e] at h; exact h.elim
end
section
variable {X : Cx} {c : Cc} {f : Fr} {W : WX} {p p2 pos : Pos} {k n : Nat} {x y : Str} {ps ks : List Str} {e : Expr} {es : List Expr} {ma mk : MA} {m : List D → List D → FRD}
/-- f(y, e, ..): y's list in slot i may be changed -/
theorem me_callD (i : Nat) (C : Cal X.prog X.w X.K X.mg X.base k x ps (spD X.K c n m)) (hr : Room k X.A) (hp : Pas X W) (ha : MAx X c f W es ma) (hN : X.N[i]? = some y := by rfl) (hv : Vis X.env.scope y := by first | exact Or.inl rfl | exact Or.inr (Or.inl rfl) | exact Or.inr (Or.inr rfl))
    (hd : (y == ("__debug__" : Str)) = false := by decide) (hcd : (y == ("__classdict__" : Str)) = false := by decide)
    (hg : Gl X x := by rfl) (hdb : (x == ("__debug__" : Str)) = false := by decide) (he : starEach (.Name y p2 :: es) X.env = (false, eval (.Name y p2) X.env) :: starEach es X.env := by rfl) (hpl : (backTo pos (starEach es X.env)).any (·.1) = false := by rfl) :
    MEx X c f W (.Call (.Name x p) (.Name y p2 :: es) [] pos) (mFnD i n m ma) := by
  obtain ⟨fa, fd, F, hm, hk, hb⟩ := C.ex
  obtain ⟨E, rfl, hx⟩ := hp
  obtain ⟨ta, pa, sa⟩ := ha
  refine ⟨_, pe_call F hr hg hm hk hb .nil hx (pa_cons (pe_var (i := i) hN hv hd hcd) pa he) hdb he hpl, fun I H σ env Q r h => ?_⟩
  unfold mFnD at h
  split at h
  · rename_i l0 e0
    obtain ⟨q, vs, h1, _⟩ := r.ow i l0 e0
    refine ⟨_, h1, ?_⟩
    refine sa.bind r h fun ds env1 I1 H1 us s1 r1 ru h1' => ?_
    split at h1'
    · rename_i l e1
      rw [List.append_nil]
      exact sim_spD r1 e1 h1 ru h1'
    · exact h1'.elim
  · exact h.elim
end
end Y

set_option Elab.async false
set_option linter.all false
set_option maxRecDepth 100000
set_option maxHeartbeats 2000000
namespace Y
open PySem PySem.Spec PyProof.Rows L2

/-! ### all(.. for .. in ..) -/
/-- a generator expression's own names: x, the walked thing, captured ones -/
structure GS (N : List Str) (sc scope : Scope) (xs : List Str) : Prop where
  kind : scope.kind = .function
  co : scope.isCoroutine = false
  cell : ∀ y ∈ scope.names, y.2 ≠ .cell
  dot : scope.names.lookup (".0" : Str) = some NameKind.local
  nd : (".0" : Str) ∉ N
  loc : ∀ y ∈ scope.names, y.2 = .local → y.1 ∈ xs ∨ y.1 = (".0" : Str)
  free : ∀ y ∈ scope.names, y.2 = .free → sc.names.lookup y.1 = some .cell ∨ sc.names.lookup y.1 = some .free
def gsB (N : List Str) (sc scope : Scope) (xs : List Str) : Bool :=
  decide (scope.kind = .function) && !scope.isCoroutine && (scope.names.all fun y => !decide (y.2 = .cell) && (!decide (y.2 = .local) || xs.contains y.1 || y.1 == (".0" : Str)) && (!decide (y.2 = .free) || decide (sc.names.lookup y.1 = some .cell) || decide (sc.names.lookup y.1 = some .free))) &&
    decide (scope.names.lookup (".0" : Str) = some NameKind.local) && !N.contains (".0" : Str)
theorem gs_by {N : List Str} {sc scope : Scope} {xs : List Str} (h : gsB N sc scope xs = true) : GS N sc scope xs := by
  unfold gsB at h
  simp only [Bool.and_eq_true, Bool.or_eq_true, Bool.not_eq_true', decide_eq_true_eq, decide_eq_false_iff_not, List.all_eq_true, beq_iff_eq] at h
  obtain ⟨⟨⟨⟨h1, h2⟩, h3⟩, h4⟩, h5⟩ := h
  refine ⟨h1, h2, fun y hy => (h3 y hy).1.1, h4, fun z => ?_, fun y hy e => ?_, fun y hy e => ?_⟩
  · rw [List.contains_iff_mem.mpr z] at h5; cases h5
  · rcases (h3 y hy).1.2 with (z | z) | z
    · exact absurd e z
    · exact .inl (List.contains_iff_mem.mp z)
    · exact .inr z
  · rcases (h3 y hy).2 with (z | z) | z
    · exact absurd e z
    · exact .inl z
    · exact .inr z
abbrev gEnv (X : Cx) (scope : Scope) (C : Addr) (code : Value) : PySem.Env := genEnv scope (cloFrom X.env.cells scope.names []) C code builtinsNs X.env
/-- the context in a generator expression's frame -/
abbrev gCx (X : Cx) (A : Around) (s : Shared) (H : Hp) (fp : List Addr) (scope : Scope) (C : Addr) (code : Value) : Cx where
  prog := X.prog
  w := X.w
  K := X.K
  mg := X.mg
  base := X.base
  A := A
  N := X.N
  s_0 := s
  H_0 := H
  env := gEnv X scope C code
  outer := X.stack
  stack := gEnv X scope C code :: X.stack
  ex := fp
  fn := fun _ => false
  calm := true
  pn := []
  xe := fun _ _ => False
theorem over_comp_frames {A : Around} {elt : Expr} {gens : List Comprehension} {sc : Scope} {gp : Pos} {it acc : Value} {env : PySem.Env} {l : List PySem.Env} (h : A.frames = some l) : (A.over (.compLoop (.GeneratorExp elt gens sc gp) 0 it acc env) []).frames = some (env :: l) := by
  obtain ⟨hd, d, fr, gs, u⟩ := A
  simp only at h
  subst h
  first | rfl | simp [Around.over, marksOver, frameCount, unitsOf, envsOf, guardsOf, pushEnvs, pushGuards, Code.envs, Code.env?, Code.isFrame, Code.guards, Code.isGuard, Code.weight, Code.frames, Code.isCreation, Code.isCaller, Code.cUnits]
theorem over_comp_handled {A : Around} {elt : Expr} {gens : List Comprehension} {sc : Scope} {gp : Pos} {it acc : Value} {env : PySem.Env} : (A.over (.compLoop (.GeneratorExp elt gens sc gp) 0 it acc env) []).handled = A.handled := rfl
theorem over_comp_room {k : Nat} {A : Around} {elt : Expr} {gens : List Comprehension} {sc : Scope} {gp : Pos} {it acc : Value} {env : PySem.Env} (r : Room (k + 1) A) : Room k (A.in1.in1.over (.compLoop (.GeneratorExp elt gens sc gp) 0 it acc env) []) := by
  refine ⟨r.hd, ?_, ?_⟩
  · have := r.dp
    have e1 : (A.in1.in1.over (.compLoop (.GeneratorExp elt gens sc gp) 0 it acc env) []).depth = A.depth + 1 := by
      obtain ⟨hd, d, fr, gs, u⟩ := A
      first | rfl | simp [Around.over, Around.in1, marksOver, frameCount, unitsOf, envsOf, guardsOf, pushEnvs, pushGuards, Code.envs, Code.env?, Code.isFrame, Code.guards, Code.isGuard, Code.weight, Code.frames, Code.isCreation, Code.isCaller, Code.cUnits]
    rw [e1]; omega
  · have := r.un
    have e1 : (A.in1.in1.over (.compLoop (.GeneratorExp elt gens sc gp) 0 it acc env) []).units ≤ A.units + 10 := by
      obtain ⟨hd, d, fr, gs, u⟩ := A
      simp [Around.over, Around.in1, marksOver, frameCount, unitsOf, envsOf, guardsOf, pushEnvs, pushGuards, Code.envs, Code.env?, Code.isFrame, Code.guards, Code.isGuard, Code.weight, Code.frames, Code.isCreation, Code.isCaller, Code.cUnits]
    omega
section
variable {X : Cx} {pins : List (Addr × Obj)} {σ : L2.St} {H H' : Hp} {s : Shared} {A : Around} {fp : List Addr} {scope : Scope} {xs : List Str} {code it : Value}
/-- σ without a block's names -/
theorem gen_start {h3 h5 : Heap} {tk5 : Nat} {g5 : Array GenState} {go : Obj} (I : Inv X pins σ H s) (G : GS X.N X.env.scope scope xs) (hex : X.ex = []) (hA : A.frames = some (gEnv X scope h3.objs.size code :: X.stack)) (hh : A.handled = none)
    (hfp : ∀ b ∈ fp, FpOk X pins H b) (hlt : ∀ b ∈ fp, b < h3.objs.size) (hsz : s.heap.objs.size ≤ h3.objs.size) (un : Un (frs X.stack) fp H H' s.heap h3) (hok : HOk X.prog X.w H' h3) (kc : ∀ b o, H b = none → s.heap.get? b = some o → h3.get? b = some o)
    (hn : h5.Ns h3.objs.size (fun y => if y = ".0" then some it else none)) (hb : Heap.SameBut h3.objs.size (h3.push { cls := .type "frame", data := .dict #[] }) h5) (hg5 : AllBare g5) (hgo : ∀ v, go.data ≠ .cell v) (hgd : go.isFreed = false)
    {σ' : L2.St} (hσ : ∀ (i : Nat) (y : Str) (v : V), X.N[i]? = some y → σ'[i]? = some (some v) → y ∉ xs ∧ σ[i]? = some (some v)) (hσl : σ'.length = σ.length) :
    Inv (gCx X A s H fp scope h3.objs.size code) [(h5.objs.size, go)] σ' H' { s with heap := h5.push go, gens := g5, toks := tk5 } := by
  have ok := I.ok
  have hfree : ∀ y ∈ scope.names, y.2 = .free → ∃ c, X.env.cells.lookup y.1 = some c := fun y hy e => ok.has _ (G.free y hy e)
  have cm : ∀ {y c}, (cloFrom X.env.cells scope.names []).lookup y = some c → X.env.cells.lookup y = some c := fun {y c} e => by
    rcases cloFrom_mem (PySem.mem_of_lookup e) with hm | ⟨h1, h2⟩
    · cases hm
    · obtain ⟨c1, hc⟩ := hfree _ h1 rfl
      have hc : X.env.cells.lookup y = some c1 := hc
      have e2 : c = c1 := by
        rw [h2, hc] <;> rfl
      rw [e2]
      exact hc
  have look : ∀ {y}, scope.names.lookup y = some .free → ∃ c, (cloFrom X.env.cells scope.names []).lookup y = some c := fun {y} hl => by
    have hy : (y, NameKind.free) ∈ scope.names := PySem.mem_of_lookup hl
    exact mem_lookup (cloFrom_has (cells := X.env.cells) (acc := []) hy)
  have size5 : h5.objs.size = h3.objs.size + 1 := by rw [hb.1, Heap.size_push]
  have k35 : ∀ b o, h3.get? b = some o → (h5.push go).get? b = some o := fun b o e => Heap.get?_push_of_some _ (hb.extBut b o (Nat.ne_of_lt (Heap.lt_size e)) (Heap.get?_push_of_some _ e))
  have cellK : ∀ {c : Addr} {v : Option Value}, H c = none → s.heap.IsCell c v → (h5.push go).IsCell c v := fun {c v} n ⟨o, ho, hd⟩ => ⟨o, k35 _ _ (kc c o n ho), hd⟩
  have cellLt : ∀ {y c}, X.env.cells.lookup y = some c → c < s.heap.objs.size := fun {y c} e => by
    obtain ⟨v, o, ho, _⟩ := I.cell y c e
    exact Heap.lt_size ho
  have cge : ∀ b, b < h3.objs.size → b ≠ h3.objs.size := fun b h => Nat.ne_of_lt h
  have stkLt : ∀ b ∈ frs X.stack, b < s.heap.objs.size := fun b hb => by
    obtain ⟨_, o, ho, _⟩ := I.stack.mem hb
    exact Heap.lt_size ho
  have pinsG : ∀ p ∈ [(h5.objs.size, go)], (h5.push go).get? p.1 = some p.2 := fun p hp => by
    rw [List.mem_singleton.mp hp]
    exact Heap.get?_push_size _ hgd
  refine ⟨⟨ok.mod, G.kind, ok.glob, rfl, hsz, fun y z c e1 e2 => ok.inj y z c (cm e1) (cm e2), fun y hy => ?_, fun y c z _ => ?_, fun _ => hh, hA, .inr ⟨rfl, rfl⟩, fun b hb => ⟨cge b (hlt b hb), fun y c e => (hfp b hb).2.2.2.2.1 y c (cm e)⟩,
      I.bs, Nat.le_trans ok.bsz I.sz, fun b o e hb => ?_, fun b hb hm => ?_, I.stack, I.stkFree⟩,
    rfl, hg5, ?_, ⟨_, hn.push _, fun i y v e1 e2 e3 => ?_⟩, fun y c e => ?_, hok.fresh (Nat.le_refl _), fun y c e => ?_, fun p hp => ?_, hok.kept k35, hσl.trans I.len⟩
  · have hy : scope.names.lookup y = some .cell ∨ scope.names.lookup y = some .free := hy
    rcases hy with hy | hy
    · exact absurd rfl (G.cell _ (PySem.mem_of_lookup hy))
    · exact look hy
  · have z : false = true := z
    cases z
  · have h4 := (hfp b hb).2.2.2.1
    rw [hex] at h4
    rcases h4 with h4 | h4
    · cases h4
    · exact absurd (Nat.lt_of_lt_of_le (Heap.lt_size e) (Nat.le_trans ok.bsz h4)) (Nat.lt_irrefl _)
  · rcases List.mem_cons.mp (I.stkSub b hm) with z | z
    · exact (hfp b hb).2.1 z
    · exact (hfp b hb).2.2.1 z
  · exact ⟨fun b o e n hb hx => k35 b o (un.keep b o e n hb hx), fun b o e n hb hx => by
      obtain ⟨sl, q⟩ := un.slot b o e n hb hx
      exact ⟨sl, k35 _ _ q⟩, un.free, fun b o e hx => by
      obtain ⟨o', q⟩ := un.there b o e hx
      exact ⟨o', k35 _ _ q⟩, un.tups, un.frzs, un.tbls⟩
  · have e3 : Vis scope y := e3
    rcases e3 with k | k | k
    · rcases G.loc _ (PySem.mem_of_lookup k) rfl with z | z
      · exact absurd z (hσ i y v e1 e2).1
      · have z : y = ".0" := z
        exact absurd (z ▸ List.mem_of_getElem? e1) G.nd
    · exact absurd rfl (G.cell _ (PySem.mem_of_lookup k))
    · obtain ⟨m, hn, hl⟩ := I.loc
      have hvis : Vis X.env.scope y := (G.free _ (PySem.mem_of_lookup k) rfl).elim (fun k => .inr (.inl k)) (fun k => .inr (.inr k))
      obtain ⟨w', r, q⟩ := hl i y v e1 (hσ i y v e1 e2).2 hvis
      obtain ⟨c2, h2⟩ := look k
      refine ⟨w', r, .inr ⟨.inr k, c2, h2, ?_⟩⟩
      have c1 := cm h2
      rcases q with ⟨k', _⟩ | ⟨_, c3, e', z⟩
      · have k' : X.env.scope.names.lookup y = some .local := k'
        rcases G.free _ (PySem.mem_of_lookup k) rfl with k2 | k2 <;> rw [show X.env.scope.names.lookup y = _ from k2] at k' <;> cases k'
      · rw [c1] at e'
        cases e'
        exact cellK (I.freeC y _ c1) z
  · obtain ⟨w', z⟩ := I.cell y c (cm e)
    exact ⟨w', cellK (I.freeC y c (cm e)) z⟩
  · obtain ⟨v, o, ho, hd⟩ := I.cell y c (cm e)
    exact un.free c o ho (I.freeC y c (cm e)) fun hm => (hfp c hm).2.2.2.2.1 y c (cm e) rfl
  · have hp' : p = (h5.objs.size, go) := List.mem_singleton.mp hp
    refine ⟨pinsG p hp, ?_, ?_, fun hm => ?_, by rw [hp']; exact hgo⟩
    · rw [hp']
      exact hok.fresh (by show h3.objs.size ≤ h5.objs.size; omega)
    · rw [hp']
      show h5.objs.size ≠ h3.objs.size
      omega
    · rw [hp'] at hm
      have := stkLt _ hm
      have : (h5.objs.size : Nat) < s.heap.objs.size := this
      omega
end

/-! the walk itself: seg by seg -/
section
variable {X : Cx} {pins : List (Addr × Obj)} {σ : L2.St} {H : Hp} {s1 : Shared} {scope : Scope} {elt tg iter : Expr} {gp : Pos}
/-- what is wanted at each place: len places; W: the wish between two of them -/
def AllW (J : It) (g : TG) (te : TE) (Q : VK) (len : Nat) (W : Nat → L2.St → Hp → Prop) : Prop := ∀ i σ H, W i σ H →
  (i = len ∧ J.stop i H ∧ Q (.bl true) H) ∨ (i < len ∧ J.go i H ∧ ∀ x H', J.yld i H x H' → g x σ H' fun σ2 H2 => te σ2 H2 fun v H3 => ∃ b, v = .bl b ∧ (b = true → W (i + 1) σ2 H3) ∧ (b = false → Q (.bl false) H3))
/-- the generator has come to its end -/
def gEnd (X' : Cx) (pn : List (Addr × Obj)) (Q : VK) : GenEnd := fun _ _ r s => r = .ok .next ∧ ∃ σ' H', Inv X' pn σ' H' s ∧ Q (.bl true) H'
/-- it hands a truth out -/
def gYld (X' : Cx) (pn : List (Addr × Obj)) (Q : VK) : Protocol := fun _ _ v s kap => ∃ b σ' H', v = .bool b ∧ Inv X' pn σ' H' s ∧ (b = false → Q (.bl false) H') ∧ (b = true → ∀ s'' : Shared, s''.heap = s.heap → s''.os = s.os → AllBare s''.gens → kap (.send .none) s'')
theorem _root_.L2.Inv.sameH {X : Cx} {pins : List (Addr × Obj)} {σ : L2.St} {H : Hp} {s s' : Shared} (I : Inv X pins σ H s) (h1 : s'.heap = s.heap) (h2 : s'.os = s.os) (h3 : AllBare s'.gens) : Inv X pins σ H s' := by
  obtain ⟨a1, a2, a3, a4, a5⟩ := s'
  cases h1; cases h2
  exact ⟨I.ok, I.os, h3, I.base, I.loc, I.cell, I.free, I.freeC, I.pin, I.hok, I.len⟩
theorem seg_all {A : Around} {X' : Cx} {it : Addr} {fp : List Addr} {tn : Nat → Heap → Prop} {J : It} {g : TG} {te : TE} {Q : VK} {len : Nat} {W : Nat → L2.St → Hp → Prop} {pn : List (Addr × Obj)} {env : PySem.Env}
    (hX : X'.A = A.over (.compLoop (.GeneratorExp elt [⟨tg, iter, [], 0⟩] scope gp) 0 (.ref it) .none env) []) (he : X'.env = env) (hc : X'.calm = true) (hxe : X'.xe = fun _ _ => False) (hco : env.scope.isCoroutine = false) (T : Turn X'.prog X'.w X'.K tg J fp it tn) (hg : PG X' tg g) (ht : PE X' elt te) (aw : AllW J g te Q len W)
    (st : ∀ {H' : Hp}, (∀ b ∈ fp, H' b = none) → ∀ b ∈ fp, FpOk X' pn H' b) :
    ∀ (m i : Nat) (s₀ s : Shared) (σ' : L2.St) (H' : Hp), m = len - i → i ≤ len → Inv X' pn σ' H' s → tn i s.heap → (∀ b ∈ fp, H' b = none) → W i σ' H' →
      Seg (model X'.prog X'.w) A (gEnd X' pn Q) (gYld X' pn Q) m s₀ (.compLoop (.GeneratorExp elt [⟨tg, iter, [], 0⟩] scope gp) 0 (.ref it) .none env)
        ((model X'.prog X'.w).den (.compLoop (.GeneratorExp elt [⟨tg, iter, [], 0⟩] scope gp) 0 (.ref it) .none env)) [] s := by
  intro m
  induction m with
  | zero =>
    intro i s₀ s σ' H' hm hi I htn hfn hw
    rcases aw i σ' H' hw with ⟨e, stop, q⟩ | ⟨lt, _⟩
    case inr => omega
    show Seg _ A _ _ _ s₀ _ ((compTurn (.GeneratorExp elt [⟨tg, iter, [], 0⟩] scope gp) 0 (.ref it) .none env).onRaise (leaving env)) [] s
    rw [compTurn_gen, Sem.onRaise_eq_wrap]
    refine seg_bind_wrap (wpAny_standAt ?_)
    refine seg_bind_wrap ?_
    rw [← hX]
    refine wpAny_mono (T.done X' rfl rfl rfl hc i pn s σ' H' (fun _ _ => False) I (st hfn) htn stop) (fun r s4 hr => ?_) fun _ _ z => z.elim
    obtain ⟨rfl, I4⟩ := hr
    exact seg_end (.ok .next) ⟨rfl, σ', H', I4, q⟩
  | succ m ih =>
    intro i s₀ s σ' H' hm hi I htn hfn hw
    rcases aw i σ' H' hw with ⟨e, stop, q⟩ | ⟨lt, go, step⟩
    case inl => omega
    show Seg _ A _ _ _ s₀ _ ((compTurn (.GeneratorExp elt [⟨tg, iter, [], 0⟩] scope gp) 0 (.ref it) .none env).onRaise (leaving env)) [] s
    rw [compTurn_gen, Sem.onRaise_eq_wrap]
    refine seg_bind_wrap (wpAny_standAt ?_)
    refine seg_bind_wrap ?_
    rw [← hX]
    refine wpAny_mono (T.item X' rfl rfl rfl hc i pn s σ' H' (fun _ _ => False) I (st hfn) htn go) (fun r s4 hr => ?_) fun _ _ z => z.elim
    obtain ⟨u, rfl, h4⟩ := hr
    refine seg_bind_wrap ?_
    rw [← hX]
    refine wpAny_mono h4 (fun _ s5 h5 => ?_) fun _ _ z => z.elim
    obtain ⟨x, H5, I5, r5, y5, st5, fr5⟩ := h5
    have I5' := I5.pinned (st fr5) (T.obj _ _ st5)
    refine seg_bind_wrap ?_
    rw [← hX, ← he]
    refine wpAny_mono (hg.run _ s5 σ' H5 x u _ I5' r5 (step x H5 y5)) (fun _ s6 h6 => ?_) fun _ _ z => (by rw [hxe] at z; exact z.elim)
    obtain ⟨σ6, H6, I6, q6⟩ := h6
    simp only [List.forIn_nil]
    refine seg_bind_wrap (wpAny_pure ?_)
    simp only [if_true]
    have hy : ∀ v, yieldOut env v = yieldValue v := fun v => by simp only [yieldOut, hco, Bool.false_eq_true, if_false]
    rw [he]
    simp only [hy]
    rw [Sem.bind_eq_wrap', Sem.bind_eq_wrap', Sem.wrap_wrap, Sem.wrap_wrap]
    refine seg_wrap ?_
    rw [← hX, ← he]
    refine wpAny_mono (ht.run _ s6 σ6 H6 _ I6 q6) (fun y s7 h7 => ?_) fun _ _ z => (by rw [hxe] at z; exact z.elim)
    obtain ⟨v, H7, I7, r7, b, rfl, q1, q2⟩ := h7
    obtain rfl : y = .bool b := r7
    rw [he]
    have I7' : Inv X' pn σ6 H7 s7 := I7.unpinned
    refine seg_at (seg_yield rfl rfl rfl ⟨b, σ6, H7, rfl, I7', q2, fun hb s'' e1 e2 e3 => ?_⟩)
    have I8 : Inv X' (pn ++ pinsAt fp s5.heap) σ6 H7 s'' := I7.sameH e1 e2 e3
    refine seg_again rfl (ih (i + 1) s'' s'' σ6 H7 (by omega) lt I8.unpinned ?_ ?_ (q1 hb))
    · exact T.keep _ _ _ st5 fun b' hb' o e => (I8.pin (b', o) (List.mem_append_right _ (List.mem_append_right _ (mem_pinsAt hb' e)))).1
    · intro b' hb'
      obtain ⟨o, e, d⟩ := T.obj _ _ st5 b' hb'
      exact (I8.pin (b', o) (List.mem_append_right _ (List.mem_append_right _ (mem_pinsAt hb' e)))).2.1
end

section
theorem setGen_heap (s : Shared) (g : Nat) (x : GenState) : (s.setGen g x).heap = s.heap := rfl
theorem bare_set {s : Shared} {g : Nat} {x : GenState} (h : AllBare s.gens) (hx : x.bare = true) : AllBare (s.setGen g x).gens := by
  first | exact allBare_setGen h hx | exact GenW.allBare_setGen h hx
theorem all_gen {X' : Cx} {A : Around} {R : Result → Shared → Prop} {Q : VK} {a : Addr} {g : Nat} {go : Obj} {pn : List (Addr × Obj)} (hh : A.handled = none) (hd : A.depth < recursionLimit) (hpn : (a, go) ∈ pn) (hgo : ∀ h : Heap, h.get? a = some go → h.IsGen a g)
    (hR : ∀ b σ' H' s', Inv X' pn σ' H' s' → Q (.bl b) H' → R (.ok (.ret (.bool b))) s') :
    ∀ (m : Nat) (s : Shared) (σ' : L2.St) (H' : Hp), Inv X' pn σ' H' s → (∃ gs, s.gens[g]? = some gs ∧ gs.Goes (model X'.prog X'.w) A.in1.in1 (gEnd X' pn Q) (gYld X' pn Q) m (.send .none) (s.setGen g .running)) →
      codeAny (model X'.prog X'.w) A (.builtin "all.loop" ⟨[.ref a], []⟩) R s := by
  have key : ∀ {σ' : L2.St} {H' : Hp} {s : Shared}, Inv X' pn σ' H' s → s.heap.IsGen a g := fun {σ' H' s} I => hgo _ (I.pin (a, go) (List.mem_append_right _ hpn)).1
  intro m
  induction m with
  | zero =>
    intro s σ' H' I ⟨gs, hgs, hgoes⟩
    refine codeAny_builtin F.entry_all_loop ?_
    rw [Around.under_plainId F.plain_all_loop _]
    show wpAny _ A.in1 (pyNext (.ref a) >>= _) _ _ s
    refine wpAny_bind (wpAny_pyNext_genexpQ (A := A.in1) (P := fun _ _ s => ∃ σ' H', Inv X' pn σ' H' s ∧ Q (.bl true) H') hh I.nolimit hd (key I) hgs hgoes (fun v s₁ gs' hbare hv => ?_) (fun s₁ hp h' hk => ?_))
    · obtain ⟨b, σ1, H1, rfl, I1, q1, q2⟩ := hv
      refine wpAny_bind (wpAny_holding (wpAny_truthy_bool ?_))
      refine wpAny_bind (wpAny_letGo ?_)
      cases b with
      | true => exact (q2 rfl s₁ rfl rfl I1.bare).elim
      | false =>
        simp only [Bool.false_eq_true, if_false]
        exact wpAny_bind (wpAny_rule (wpAny_pure (hR false σ1 H1 _ (I1.sameH rfl rfl (bare_set I1.bare hbare)) (q1 rfl))))
    · obtain ⟨σ1, H1, I1, q⟩ := hp
      refine wpAny_bind (wpAny_rule (wpAny_pure (hR true σ1 H1 _ ?_ q)))
      have I2 : Inv X' pn σ1 H1 (s₁.setGen g .finished) := I1.sameH rfl rfl (bare_set I1.bare rfl)
      exact I2.kept (t' := (s₁.setGen g .finished).toks) hk
  | succ m ih =>
    intro s σ' H' I ⟨gs, hgs, hgoes⟩
    have hgl : g < s.gens.size := (Array.getElem?_eq_some_iff.mp hgs).1
    refine codeAny_builtin F.entry_all_loop ?_
    rw [Around.under_plainId F.plain_all_loop _]
    show wpAny _ A.in1 (pyNext (.ref a) >>= _) _ _ s
    refine wpAny_bind (GenW.wpAny_gsz (n := g + 1) hgl (wpAny_pyNext_genexpQ (A := A.in1) (P := fun _ _ s => ∃ σ' H', Inv X' pn σ' H' s ∧ Q (.bl true) H') hh I.nolimit hd (key I) hgs hgoes (fun v s₁ gs' hbare hv => ?_) (fun s₁ hp h' hk => ?_)))
    · intro hsz
      obtain ⟨b, σ1, H1, rfl, I1, q1, q2⟩ := hv
      refine wpAny_bind (wpAny_holding (wpAny_truthy_bool ?_))
      refine wpAny_bind (wpAny_letGo ?_)
      have I2 : Inv X' pn σ1 H1 (s₁.setGen g gs') := I1.sameH rfl rfl (bare_set I1.bare hbare)
      cases b with
      | true =>
        simp only [if_true]
        refine wpAny_pure ⟨plainId_quiet F.plain_all_loop _, ih _ σ1 H1 I2 ⟨gs', ?_, ?_⟩⟩
        · refine setGen_at ?_
          have q : (s₁.setGen g gs').gens.size = s₁.gens.size := GenW.setGen_size _ _ _
          have hsz' : g + 1 ≤ (s₁.setGen g gs').gens.size := hsz
          omega
        · exact q2 rfl _ rfl rfl (bare_set I2.bare rfl)
      | false =>
        simp only [Bool.false_eq_true, if_false]
        exact wpAny_bind (wpAny_rule (wpAny_pure (hR false σ1 H1 _ I2 (q1 rfl))))
    · intro hsz
      obtain ⟨σ1, H1, I1, q⟩ := hp
      refine wpAny_bind (wpAny_rule (wpAny_pure (hR true σ1 H1 _ ?_ q)))
      have I2 : Inv X' pn σ1 H1 (s₁.setGen g .finished) := I1.sameH rfl rfl (bare_set I1.bare rfl)
      exact I2.kept (t' := (s₁.setGen g .finished).toks) hk
end

section
variable {X : Cx} {pins : List (Addr × Obj)} {σ : L2.St} {H : Hp} {s : Shared}
/-- all(elt for tg in iter): behind it the def's table may have grown -/
def tAllG (P : Addr) (vs : List Nat) (wi : TI) (g : TG) (te : TE) : TE := fun σ H Q => wi σ H fun J H1 => GxR.TabG H1 P ∧ ∀ H2, GxR.Tabbed P H1 H2 → ∃ len W, W 0 (L2.wipe σ vs) H2 ∧ AllW J g te Q len W
theorem pe_allG {c P : Addr} {elt tg iter : Expr} {scope : Scope} {gp p pos : Pos} {wi : TI} {g : TG} {te : TE} {xs : List Str} {vs : List Nat} {k : Nat} (hr : Room (k + 1) X.A) (hg : Gl X "all") (hm : X.mg "all" = none) (hb : bootBuiltins "all" = some (.builtin "all")) (TB : GxR.TabB X.base X.mg c P)
    (hcode : X.env.code = .ref c) (G : GS X.N X.env.scope scope xs) (hxs : ∀ (i : Nat) (y : Str), X.N[i]? = some y → y ∈ xs → i ∈ vs) (hex : X.ex = []) (hi : PI X tg iter wi)
    (hpg : ∀ (A : Around) (s : Shared) (H : Hp) (fp : List Addr) (C : Addr) (code : Value), PG (gCx X A s H fp scope C code) tg g)
    (hpe : ∀ (A : Around) (s : Shared) (H : Hp) (fp : List Addr) (C : Addr) (code : Value), Room k A → PE (gCx X A s H fp scope C code) elt te)
    (hs : ∀ v, genFold iter X.env v = pure v)
    (he : starEach [.GeneratorExp elt [⟨tg, iter, [], 0⟩] scope gp] X.env = (false, eval (.GeneratorExp elt [⟨tg, iter, [], 0⟩] scope gp) X.env) :: starEach [] X.env := by rfl) :
    PE X (.Call (.Name "all" p) [.GeneratorExp elt [⟨tg, iter, [], 0⟩] scope gp] [] pos) (tAllG P vs wi g te) := by
  refine ⟨fun pins s σ H Q I h => ?_⟩
  refine wpAny_Call_Name_kw (ld_blt I hg hm hb ?_)
  refine PyProof.Rows.callWith_builtin1 ?_ he (by rfl)
  rw [he]
  show wpAny _ _ (spliced ((false, eval (.GeneratorExp elt [⟨tg, iter, [], 0⟩] scope gp) X.env) :: backTo pos (starEach [] X.env))) _ _ s
  refine Calls.spliced_cons ?_
  have hfree : ∀ y ∈ scope.names, y.2 = .free → ∃ c, X.env.cells.lookup y.1 = some c := fun y hy e => I.ok.has _ (G.free y hy e)
  refine wpAny_GeneratorExp_make G.co (closure_ok hfree) G.cell G.dot G.kind (by have := hr.dp; omega) ?_ hs
  refine thn (hi.run pins s σ H _ I h) fun xv s1 h1 => ?_
  refine thn h1 fun itv s2 h2 => ?_
  obtain ⟨it, fp, tn, J, H2, rfl, I2, T, st2, f2, ⟨ps, hP, htr⟩, hq⟩ := h2
  have hPs : s2.heap.get? P = some { cls := .none, data := .fields ps } := I2.hok P _ hP
  have cd : PySem.W.CodeHd s2.heap c P := TB.code.keeps fun b u e => I2.bk b u e
  refine ⟨I2.nolimit, ?_⟩
  have nPH : ∀ b, H2 b = none → b ≠ P := fun b e z => by rw [z, hP] at e; cases e
  have hPlt : P < s2.heap.objs.size := Heap.lt_size hPs
  -- behind the code object is found or made
  have cont : ∀ (code : Value) (h3 : Heap) (tk : Nat) (ps' : Array Value), Heap.ExtBut P s2.heap h3 → s2.heap.objs.size ≤ h3.objs.size → h3.get? P = some { cls := .none, data := .fields ps' } → (∃ more, ps' = ps ++ more) → TriplesOk ps'.toList →
      wpAny (model X.prog X.w) X.A (builtinsFor X.env.globals X.env.builtins) (fun bi s₄ =>
        ∀ h', h'.Ns s₄.heap.objs.size (fun y => if y = ".0" then some (.ref it) else none) → Heap.SameBut s₄.heap.objs.size (s₄.heap.push { cls := .type "frame", data := .dict #[] }) h' →
          wpAny (model X.prog X.w) X.A (spliced (backTo pos (starEach [] X.env))) (fun us s5 => wpAny (model X.prog X.w) X.A (call (.builtin "all") (.ref h'.objs.size :: us)) (EP X pins σ Q) X.xe s5) X.xe { s₄ with
            gens := s₄.gens.push (.fresh (.compStart (.GeneratorExp elt [⟨tg, iter, [], 0⟩] scope gp) 0 (.ref it) .none (genEnv scope (cloFrom X.env.cells scope.names []) s₄.heap.objs.size code bi X.env))),
            toks := s₄.toks + 1 + 1 + 1,
            heap := h'.push { cls := .type "generator", data := .fields #[.int s₄.gens.size 0, .str "<genexpr>" (s₄.toks + 1), .str (X.env.qual ++ "<genexpr>") (s₄.toks + 1 + 1)] } }) X.xe { s2 with heap := h3, toks := tk } := by
    intro code h3 tk ps' hx hsz hP3 ⟨more, em⟩ ht3
    obtain ⟨bm, ob, e1, e2, e3, e4, e5, e6, e7, e8⟩ := TB.bm
    refine wpAny_builtinsFor (m := X.mg) (by rw [I2.ok.glob]; exact (I2.mod.glob.keeps I2.bk).extBut hx TB.gP) e1 e2 (hx _ _ e4 (I2.bk _ _ e5)) e6 e7 e8 ?_
    intro h' hn' hb'
    refine Calls.spliced_nil ?_
    have J3 := GxR.inv_tab (more := more) (h' := h3) (g' := s2.gens) (d' := s2.drawn) (t' := tk) I2 hP (fun b o hb e => hx b o hb e) (by rw [← em]; exact hP3) I2.bare
    have at_ : ∀ b, b ≠ P → upd H2 P (.tbl (ps ++ more)) b = H2 b := fun b h1 => upd_ne h1
    have tbd : GxR.Tabbed P H2 (upd H2 P (.tbl (ps ++ more))) := ⟨⟨_, upd_same, by rw [← em]; exact ht3⟩, fun b hb => upd_ne hb⟩
    obtain ⟨len, W, w0, aw⟩ := hq _ tbd
    have un : Un (frs X.stack) fp H2 (upd H2 P (.tbl (ps ++ more))) s2.heap h3 := by
      refine ⟨fun b o e n _ _ => hx b o (nPH b n) e, fun b o e n _ _ => ⟨o.slots, hx b o (nPH b n) e⟩, fun b o e n _ => by rw [at_ b (nPH b n)]; exact n, fun b o e _ => ?_, fun b ys e => ?_, fun b o u e => ?_, fun b qs e => ?_⟩
      · by_cases hb : b = P
        · rw [hb]; exact ⟨_, hP3⟩
        · exact ⟨o, hx b o hb e⟩
      · rw [at_ b (fun z => by rw [z, hP] at e; cases e)]; exact e
      · rw [at_ b (fun z => by rw [z, hP] at e; cases e)]; exact e
      · by_cases hb : b = P
        · rw [hb, hP] at e; cases e
          rw [hb, upd_same]; exact ⟨more, rfl⟩
        · rw [at_ b hb, e]; exact ⟨#[], by simp⟩
    have fobj := T.obj 0 _ st2
    have flt : ∀ b ∈ fp, b < s2.heap.objs.size := fun b hb => by obtain ⟨o, e, _⟩ := fobj b hb; exact Heap.lt_size e
    have flt3 : ∀ b ∈ fp, b < h3.objs.size := fun b hb => Nat.lt_of_lt_of_le (flt b hb) hsz
    -- the generator
    generalize hgo : ({ cls := .type "generator", data := .fields #[.int s2.gens.size 0, .str "<genexpr>" (tk + 1), .str (X.env.qual ++ "<genexpr>") (tk + 1 + 1)] } : Obj) = go
    have hgen : ∀ h : Heap, h.get? h'.objs.size = some go → h.IsGen h'.objs.size s2.gens.size := fun h e => by subst hgo; exact ⟨_, _, _, e, rfl, rfl, rfl⟩
    let c0 : Code := .compLoop (.GeneratorExp elt [⟨tg, iter, [], 0⟩] scope gp) 0 (.ref it) .none (gEnv X scope h3.objs.size code)
    have hA : (X.A.in1.in1.over c0 []).frames = some (gEnv X scope h3.objs.size code :: X.stack) := over_comp_frames (A := X.A.in1.in1) I2.ok.frames
    have hro : Room k (X.A.in1.in1.over c0 []) := over_comp_room hr
    let X' := gCx X (X.A.in1.in1.over c0 []) s2 H2 fp scope h3.objs.size code
    have g5 : AllBare (s2.gens.push (.fresh (.compStart (.GeneratorExp elt [⟨tg, iter, [], 0⟩] scope gp) 0 (.ref it) .none (gEnv X scope h3.objs.size code)))) := AllBare.push I2.bare rfl
    have J5 : Inv X' [(h'.objs.size, go)] (L2.wipe σ vs) (upd H2 P (.tbl (ps ++ more))) _ :=
      gen_start (tk5 := tk + 1 + 1 + 1) (it := .ref it) I2 G hex hA hro.hd f2 flt3 hsz un J3.hok (fun b o n e => hx b o (nPH b n) e) hn' hb' g5 (fun v => by subst hgo; exact fun z => by cases z) (by subst hgo; rfl)
        (fun i y v e1 e2 => by
          obtain ⟨q1, q2⟩ := wipe_some e2
          exact ⟨fun hy => q2 (hxs i y e1 hy), q1⟩) (wipe_length σ vs)
    have stf : ∀ {H' : Hp}, (∀ b ∈ fp, H' b = none) → ∀ b ∈ fp, FpOk X' [(h'.objs.size, go)] H' b := fun {H'} hn b hb => by
      refine ⟨hn b hb, Nat.ne_of_lt (flt3 b hb), fun hm => ?_, .inl hb, fun y cc e z => ?_, fun p hp z => ?_⟩
      · rcases List.mem_cons.mp (I2.stkSub b hm) with z | z
        · exact (f2 b hb).2.1 z
        · exact (f2 b hb).2.2.1 z
      · obtain ⟨v, o, ho, _⟩ := J5.cell y cc e
        have hcx : X.env.cells.lookup y = some cc := by
          rcases cloFrom_mem (PySem.mem_of_lookup e) with hm | ⟨h1, h2⟩
          · cases hm
          · obtain ⟨c1, hc⟩ := hfree _ h1 rfl
            have hc : X.env.cells.lookup y = some c1 := hc
            have e2 : cc = c1 := by rw [h2, hc] <;> rfl
            rw [e2]; exact hc
        exact (f2 b hb).2.2.2.2.1 y cc hcx z
      · rw [List.mem_singleton.mp hp] at z
        have z : h'.objs.size = b := z
        have e5 : h'.objs.size = h3.objs.size + 1 := by rw [hb'.1, Heap.size_push]
        have := flt3 b hb
        rw [← z, e5] at this
        exact absurd (Nat.lt_of_succ_lt this) (Nat.lt_irrefl _)
    have back : ∀ {b : Bool} {σ' : L2.St} {H' : Hp} {s' : Shared}, Inv X' [(h'.objs.size, go)] σ' H' s' → Q (.bl b) H' → EP X pins σ Q (.bool b) s' := fun {b σ' H' s'} Ie q =>
      ⟨.bl b, H', I2.call' (ch := fp) Ie.os Ie.base Ie.hok Ie.bare fun b hb => ⟨(f2 b hb).2.2.2.1, (f2 b hb).2.1, (f2 b hb).2.2.2.2.1, (f2 b hb).2.2.2.2.2⟩, rfl, q⟩
    refine call_function_tree F.kind_all F.plain_all F.entry_all (F.args_all1 _) ?_
    unfold Builtin.«all»
    refine wpAny_bind (m := oneArg "all" _) (wpAny_pure ?_)
    refine wpAny_bind (wpAny_pyIter_gen (hgen _ (by subst hgo; exact Heap.get?_push_size _ rfl)) ?_)
    refine wpAny_pure ⟨plainId_quiet F.plain_all_loop _, ?_⟩
    refine all_gen (A := X.A) (R := fun r s' => match r with | .ok (.ret v) => EP X pins σ Q v s' | .ok _ => False | .error e => X.xe e s') (X' := X') (Q := Q) (pn := [(h'.objs.size, go)]) hr.hd (by have := hr.dp; omega) (List.mem_singleton.mpr rfl) hgen (fun b σ' H' s' Ie q => back Ie q) len _ _ _ J5 ⟨_, Array.getElem?_push_size .., rfl, ?_⟩
    -- its beginning
    show Seg _ _ _ _ _ _ _ ((compStart (.GeneratorExp elt [⟨tg, iter, [], 0⟩] scope gp) 0 (.ref it) .none (gEnv X scope h3.objs.size code)).onRaise (leaving (gEnv X scope h3.objs.size code))) [] _
    have J6 := J5.sameH (s' := Shared.setGen { s2 with gens := s2.gens.push (.fresh (.compStart (.GeneratorExp elt [⟨tg, iter, [], 0⟩] scope gp) 0 (.ref it) .none (gEnv X scope h3.objs.size code))), toks := tk + 1 + 1 + 1, heap := h'.push go } s2.gens.size .running) rfl rfl (bare_set J5.bare rfl)
    have tn5 : tn 0 (h'.push go) := T.keep 0 _ _ st2 fun b hb o e => Heap.get?_push_of_some _ (hb'.extBut b o (Nat.ne_of_lt (flt3 b hb)) (Heap.get?_push_of_some _ (hx b o (fun z => by
      have := (f2 b hb).1
      rw [z, hP] at this
      cases this) e)))
    have loop := fun s0 => seg_all (X' := X') (A := X.A.in1.in1) (pn := [(h'.objs.size, go)]) (tn := tn) (env := gEnv X scope h3.objs.size code) (Q := Q) (W := W) (len := len) rfl rfl rfl rfl G.co T (hpg _ _ _ _ _ _) (hpe _ _ _ _ _ _ hro) aw stf len 0 s0 _ _ _ (by omega) (Nat.zero_le _) J6 tn5
      (fun b hb => un.free b _ (fobj b hb).choose_spec.1 (f2 b hb).1 |> fun z => (at_ b (nPH b (f2 b hb).1)).trans (f2 b hb).1) w0
    unfold compStart
    rw [Sem.onRaise_eq_wrap]
    show Seg _ _ _ _ _ _ _ ((ask >>= _).wrap _ _ _ _) [] _
    refine seg_bind_wrap (wpAny_askSetting ?_)
    split
    · exact seg_again rfl (loop _)
    · first
        | exact seg_bind_wrap (wpAny_rule (seg_bind_wrap (wpAny_standAt (seg_bind_wrap (T.self _ 0 _ _ _ tn5 (seg_again rfl (loop _)))))))
        | (refine seg_bind_wrap (wpAny_rule ?_); show Seg _ _ _ _ _ _ _ ((standAt iter.pos >>= _).wrap _ _ _ _) [] _; exact seg_bind_wrap (wpAny_standAt (seg_bind_wrap (T.self _ 0 _ _ _ tn5 (seg_again rfl (loop _))))))
  cases hf : codeAmong gp ps.toList with
  | none =>
    refine wpAny_genexprCodeX hcode (cd.code hPs htr) (cd.tab hPs) hf fun c' h' tk hx hge hlt hco' _ htab' _ => ?_
    obtain ⟨o1, vs1, f1, tf, fl, tg1, inF, tx, tt, op, _, _, _, _, _, _, _, _, _, htr', _⟩ := hco'
    exact cont _ h' tk _ hx (Nat.le_trans hge (Nat.le_of_lt hlt)) htab'.2 ⟨_, rfl⟩ htr'
  | some cv =>
    refine wpAny_genexprCode_hit hcode (cd.code hPs htr) hf ?_
    exact cont cv s2.heap s2.toks ps (Heap.ExtBut.refl _ _) (Nat.le_refl _) hPs ⟨#[], by simp⟩ htr
end
end Y

set_option Elab.async false
set_option linter.all false
set_option maxRecDepth 100000
set_option maxHeartbeats 2000000
namespace Y
open PySem PySem.Spec PyProof.Rows L2

/-! ### one reading for many contexts -/
section
variable {ι : Type} {X : ι → Cx} {K : PySem.W.Frag} {c : Cc}
theorem uni_e {e : Expr} {m : ME} (hK : ∀ i, (X i).K = K) (h : ∀ i (f : Fr), MEx (X i) c f W0 e m) : ∃ te, (∀ i, PE (X i) e te) ∧ ∀ f : Fr, SimE K c f W0 te m := by
  refine ⟨fun σ H Q => ∃ f, ∀ i, (h i f).choose σ H Q, fun i => ⟨fun pins s σ H Q I ⟨f, hf⟩ => (h i f).choose_spec.1.run pins s σ H Q I (hf i)⟩, fun f I H σ env Q r hq => ⟨f, fun i => ?_⟩⟩
  have key : ∀ {K1 K2 : PySem.W.Frag} {te : TE}, K1 = K2 → SimE K1 c f W0 te m → SimE K2 c f W0 te m := fun e h => e ▸ h
  exact key (hK i) (h i f).choose_spec.2 I H σ env Q r hq
theorem uni_t {es : List Expr} {m : MT} (hK : ∀ i, (X i).K = K) (h : ∀ i (f : Fr), MTsx (X i) c f W0 es m) : ∃ tt, (∀ i, PTs (X i) es tt) ∧ ∀ f : Fr, SimT K c f W0 tt m := by
  refine ⟨fun σ H Q => ∃ f, ∀ i, (h i f).choose σ H Q, fun i => ⟨fun pins s σ H Q I ⟨f, hf⟩ => (h i f).choose_spec.1.run pins s σ H Q I (hf i)⟩, fun f I H σ env Q r hq => ⟨f, fun i => ?_⟩⟩
  have key : ∀ {K1 K2 : PySem.W.Frag} {te : TT}, K1 = K2 → SimT K1 c f W0 te m → SimT K2 c f W0 te m := fun e h => e ▸ h
  exact key (hK i) (h i f).choose_spec.2 I H σ env Q r hq
theorem uni_g {tg : Expr} {is : List Nat} {m : MG} (hK : ∀ i, (X i).K = K) (h : ∀ i, MGx (X i) c is tg m) : ∃ g, (∀ i, PG (X i) tg g) ∧ SimG K c is g m := by
  refine ⟨fun v σ H Q => ∀ i, (h i).choose v σ H Q, fun i => ⟨fun pins s σ H v u Q I rv hf => (h i).choose_spec.1.run pins s σ H v u Q I rv (hf i)⟩, fun f I H σ env env' v d Q hio r rv e hq i => ?_⟩
  have key : ∀ {K1 K2 : PySem.W.Frag} {te : TG}, K1 = K2 → SimG K1 c is te m → SimG K2 c is te m := fun e h => e ▸ h
  exact key (hK i) (h i).choose_spec.2 f I H σ env env' v d Q hio r rv e hq
end
section
variable {X : Cx} {c : Cc} {scope : Scope} {e tg : Expr} {es : List Expr} {m : ME} {t : MT} {g : MG} {is : List Nat}
abbrev BlkI : Type := Shared × Hp × Addr × List (Str × Addr) × List Addr
abbrev blkX (X : Cx) (scope : Scope) (i : BlkI) : Cx := X.blk i.1 i.2.1 scope (compEnvC scope i.2.2.2.1 i.2.2.1 X.env) i.2.2.2.2
theorem blk_e (h : ∀ (i : BlkI) (f : Fr), MEx (blkX X scope i) c f W0 e m) : BlkE X c scope e m := by
  obtain ⟨te, h1, h2⟩ := uni_e (K := X.K) (X := blkX X scope) (fun _ => rfl) h
  exact ⟨te, fun s H C cl fp => h1 (s, H, C, cl, fp), h2⟩
theorem blk_t (h : ∀ (i : BlkI) (f : Fr), MTsx (blkX X scope i) c f W0 es t) : BlkT X c scope es t := by
  obtain ⟨te, h1, h2⟩ := uni_t (K := X.K) (X := blkX X scope) (fun _ => rfl) h
  exact ⟨te, fun s H C cl fp => h1 (s, H, C, cl, fp), h2⟩
theorem blk_g (h : ∀ (i : BlkI), MGx (blkX X scope i) c is tg g) : BlkG X c scope is tg g := by
  obtain ⟨te, h1, h2⟩ := uni_g (K := X.K) (X := blkX X scope) (fun _ => rfl) h
  exact ⟨te, fun s H C cl fp => h1 (s, H, C, cl, fp), h2⟩
end

/-! ### all(.. for ..) with its mirror -/
def dropO (env : Env) : Env := env.map fun x => match x with
  | .ow _ => .un
  | x => x
def genE (env : Env) (vs : List Nat) : Env := wipeE (dropO env) vs
def allG (g : MG) (m : ME) : List D → Env → R Bool
  | [], e => .ok true e
  | d :: ds, e => match g d e with
    | none => .stuck
    | some e1 => (m e1).noBad.bind fun b e2 => (asB b e2).bind fun b e2 => if b then allG g m ds e2 else .ok false e2
def mAllG (mi : ML) (g : MG) (m : ME) (vs : List Nat) : ME := fun env => (mi env).bind fun ds e0 => match allG g m ds (genE e0 vs) with
  | .ok b _ => .ok (.bl b) e0
  | _ => .stuck
section
variable {K : PySem.W.Frag} {c : Cc} {f : Fr} {W : WX} {I H : Hp} {σ : L2.St} {env : Env}
theorem dropO_get {env : Env} {i : Nat} {x : Sl} (h : (dropO env)[i]? = some x) : (∃ d, x = .va d ∧ env[i]? = some (.va d)) ∨ x = .un := by
  unfold dropO at h
  rw [List.getElem?_map] at h
  cases e : env[i]? with
  | none => rw [e] at h; cases h
  | some y =>
    rw [e] at h
    cases y with
    | un => cases h; exact .inr rfl
    | va d => cases h; exact .inl ⟨d, rfl, rfl⟩
    | ow l => cases h; exact .inr rfl
/-- into a generator's frame: nothing there is owned -/
theorem Rst.gen (r : Rst K c f I H σ env) : Rst K c (frP H fun a => I a = none ∧ H a ≠ none ∧ ¬ c.isT a) I H σ (dropO env) := by
  refine ⟨r.sub, fun a o h _ _ => h, r.t1, r.t2, r.it, by unfold dropO; rw [List.length_map]; exact r.len, fun i d e => ?_, fun i l e => ?_, fun i j l l' p e => ?_, fun p hp => (nomatch hp), fun a ⟨h1, h2, h3⟩ => ⟨h1, ?_, (fun z => nomatch z), h3⟩⟩
  · rcases dropO_get e with ⟨d', e1, e2⟩ | e2
    · cases e1
      exact r.va i d e2
    · cases e2
  · rcases dropO_get e with ⟨d', e1, e2⟩ | e2
    · cases e1
    · cases e2
  · rcases dropO_get e with ⟨d', e1, e2⟩ | e2
    · cases e1
    · cases e2
  · cases q : H a with
    | none => exact absurd q h2
    | some o => exact ⟨o, q⟩
/-- a table has grown -/
theorem Rst.tabbed (r : Rst K c f I H σ env) {P : Addr} {H2 : Hp} (hP : P ∈ c.T1) (hd : ∀ q ∈ c.T2, q.1 ≠ P) (t : GxR.Tabbed P H H2) : Rst K c f I H2 σ env := by
  obtain ⟨tp, tk⟩ := t
  have hPt : c.isT P := .inl hP
  have ps := r.t1 P hP
  refine ⟨fun a o h => ?_, fun a o h n nt => ?_, fun P' hP' => ?_, fun q hq => ?_, r.it, r.len, r.va, fun i l e => ?_, r.nd, r.io0, r.ni⟩
  · have : a ≠ P := fun z => by rw [z, r.it P hPt] at h; cases h
    rw [tk a this]; exact r.sub a o h
  · have : a ≠ P := fun z => nt (z ▸ hPt)
    rw [tk a this]; exact r.fr0 a o h n nt
  · by_cases z : P' = P
    · rw [z]; exact tp
    · obtain ⟨qs, a1, a2⟩ := r.t1 P' hP'
      exact ⟨qs, by rw [tk P' z]; exact a1, a2⟩
  · obtain ⟨qs, a1, a2, a3⟩ := r.t2 q hq
    refine ⟨qs, by rw [tk _ (hd q hq)]; exact a1, a2, fun pos cv hc => ?_⟩
    obtain ⟨c0, b1, b2⟩ := a3 pos cv hc
    obtain ⟨qs', h1, _⟩ := ps
    exact ⟨c0, b1, by rw [tk c0 (fun z => by rw [z, h1] at b2; unfold LamX.CodeO at b2; cases b2)]; exact b2⟩
  · obtain ⟨p, vs, h1, h2, h3, h4, h5⟩ := r.ow i l e
    obtain ⟨qs', h1', _⟩ := ps
    exact ⟨p, vs, h1, by rw [tk p (fun z => by rw [z, h1'] at h2; cases h2)]; exact h2, h3, h4, h5⟩
theorem sim_allG {P : Addr} {vs is : List Nat} {wi : TI} {g : TG} {te : TE} {mi : ML} {mg : MG} {m : ME} (hP : P ∈ c.T1) (hd : ∀ q ∈ c.T2, q.1 ≠ P) (si : SimI K c f W wi mi) (sg : SimG K c is g mg) (se : ∀ f : Fr, SimE K c f W0 te m) :
    SimE K c f W (tAllG P vs wi g te) (mAllG mi mg m vs) := by
  intro I H σ env Q r h
  refine si I H σ env _ r (h.bind fun ds e0 I1 H1 s1 r1 h1 J hJ => ?_)
  refine ⟨r1.t1 P hP, fun H2 tb => ?_⟩
  have r2 := r1.tabbed hP hd tb
  have rg : Rst K c (frP H2 fun a => I1 a = none ∧ H2 a ≠ none ∧ ¬ c.isT a) I1 H2 (L2.wipe σ vs) (genE e0 vs) := r2.gen.wipe (.inl rfl)
  have fin : ∀ {b : Bool} {e : Env} {I' H' : Hp} {σ' : L2.St}, allG mg m ds (genE e0 vs) = .ok b e → ∀ {e' : Env}, Same I1 I' → Rst K c (frP H2 fun a => I1 a = none ∧ H2 a ≠ none ∧ ¬ c.isT a) I' H' σ' e' → Q (.bl b) H' := fun {b e I' H' σ'} ea {e'} s' r' => by
    rw [ea] at h1
    have ra := r2.called (r'.after s')
    exact h1 I' H' s' ra _ (.bl b)
  cases ea : allG mg m ds (genE e0 vs) with
  | bad nm e => rw [ea] at h1; exact h1.elim
  | stuck => rw [ea] at h1; exact h1.elim
  | ok b e =>
    refine ⟨ds.length, fun i σ' H' => i ≤ ds.length ∧ ∃ Ic ec, Same I1 Ic ∧ Rst K c (frP H2 fun a => I1 a = none ∧ H2 a ≠ none ∧ ¬ c.isT a) Ic H' σ' ec ∧ allG mg m (ds.drop i) ec = .ok b e, ⟨Nat.zero_le _, I1, _, Same.refl I1, rg, by rw [List.drop_zero]; exact ea⟩, ?_⟩
    rintro i σ' H' ⟨hi, Ic, ec, sc, rc, hq⟩
    obtain ⟨k1, k2⟩ := hJ _ Ic H' _ ec sc rc
    cases ed : ds[i]? with
    | none =>
      have hl : ds.length ≤ i := List.getElem?_eq_none_iff.mp ed
      rw [List.drop_eq_nil_of_le hl] at hq
      cases hq
      exact .inl ⟨Nat.le_antisymm hi hl, k1 i hl, fin ea sc rc⟩
    | some d =>
      obtain ⟨hl, ed'⟩ := List.getElem?_eq_some_iff.mp ed
      obtain ⟨go, yl⟩ := k2 i d ed
      rw [List.drop_eq_getElem_cons hl, ed'] at hq
      unfold allG at hq
      cases eg : mg d ec with
      | none => rw [eg] at hq; cases hq
      | some e1 =>
        rw [eg] at hq
        have hq : ((m e1).noBad.bind fun b e2 => (asB b e2).bind fun b e2 => if b then allG mg m (ds.drop (i + 1)) e2 else .ok false e2) = .ok b e := hq
        refine .inr ⟨hl, go, fun x Hn y => ?_⟩
        obtain ⟨In, sn, rn, rv, _, _⟩ := yl x Hn y
        refine sg _ In Hn _ ec e1 x d _ (.inl rfl) rn rv eg fun σ3 r3 _ => ?_
        refine se _ In Hn σ3 e1 _ r3 ?_
        cases em : m e1 with
        | bad nm e2 => rw [em] at hq; cases hq
        | stuck => rw [em] at hq; cases hq
        | ok z e2 =>
          rw [em] at hq
          have hq : ((asB z e2).bind fun b e2 => if b then allG mg m (ds.drop (i + 1)) e2 else .ok false e2) = .ok b e := hq
          intro I4 H4 s4 r4 v rv4
          cases rv4 with
          | bl b2 =>
            have hq : (if b2 = true then allG mg m (ds.drop (i + 1)) e2 else R.ok false e2) = .ok b e := hq
            refine ⟨b2, rfl, fun hb => ⟨hl, I4, e2, (sc.trans sn).trans s4, r4, by rw [hb] at hq; exact hq⟩, fun hb => ?_⟩
            rw [hb] at hq
            cases hq
            exact fin ea ((sc.trans sn).trans s4) r4
          | _ => cases hq
end
section
variable {X : Cx} {c : Cc} {f : Fr} {W : WX}
abbrev GenI (k : Nat) : Type := { q : Around × Shared × Hp × List Addr × Addr × Value // Room k q.1 }
abbrev genX (X : Cx) (scope : Scope) {k : Nat} (i : GenI k) : Cx := gCx X i.1.1 i.1.2.1 i.1.2.2.1 i.1.2.2.2.1 scope i.1.2.2.2.2.1 i.1.2.2.2.2.2
abbrev genX0 (X : Cx) (scope : Scope) (i : Around × Shared × Hp × List Addr × Addr × Value) : Cx := gCx X i.1 i.2.1 i.2.2.1 i.2.2.2.1 scope i.2.2.2.2.1 i.2.2.2.2.2
theorem me_allG {cd P : Addr} {elt tg iter : Expr} {scope : Scope} {gp p pos : Pos} {mi : ML} {g : MG} {m : ME} {xs : List Str} {vs is : List Nat} {k : Nat} (hm : X.mg "all" = none) (hr : Room (k + 1) X.A) (TB : GxR.TabB X.base X.mg cd P) (hcode : X.env.code = .ref cd)
    (hP : P ∈ c.T1) (hd : ∀ q ∈ c.T2, q.1 ≠ P) (G : GS X.N X.env.scope scope xs) (hxs : ∀ (i : Nat) (y : Str), X.N[i]? = some y → y ∈ xs → i ∈ vs) (hi : MIx X c f W tg iter mi)
    (hpg : ∀ i, MGx (genX0 X scope i) c is tg g) (hpe : ∀ (i : GenI k) (f : Fr), MEx (genX X scope i) c f W0 elt m) (hg : Gl X "all" := by rfl) (hex : X.ex = [] := by rfl) (hs : ∀ v, genFold iter X.env v = pure v := by intro _; rfl)
    (he : starEach [.GeneratorExp elt [⟨tg, iter, [], 0⟩] scope gp] X.env = (false, eval (.GeneratorExp elt [⟨tg, iter, [], 0⟩] scope gp) X.env) :: starEach [] X.env := by rfl) :
    MEx X c f W (.Call (.Name "all" p) [.GeneratorExp elt [⟨tg, iter, [], 0⟩] scope gp] [] pos) (mAllG mi g m vs) := by
  obtain ⟨wi, pi, si⟩ := hi
  obtain ⟨g', pg, sg⟩ := uni_g (K := X.K) (X := genX0 X scope) (fun _ => rfl) hpg
  obtain ⟨te, pe, se⟩ := uni_e (K := X.K) (X := genX X scope) (fun _ => rfl) hpe
  exact ⟨_, pe_allG hr hg hm boot_all' TB hcode G hxs hex pi (fun A s H fp C code => pg (A, s, H, fp, C, code)) (fun A s H fp C code h => pe ⟨(A, s, H, fp, C, code), h⟩) hs he, sim_allG hP hd si sg se⟩
end
end Y

set_option Elab.async false
set_option linter.all false
set_option maxRecDepth 100000
set_option maxHeartbeats 2000000
namespace Y
open PySem PySem.Spec PyProof.Rows L2
open PySem.W (clsIn findIn subIn nsIn typeIn keepIn codeIn mroIn)

/-! ### BadArgument.__init__: super().__init__('..' + name); self.name = name -/
/-- its body, at some places -/
abbrev initBody (pre : Str) (q : List Pos) (ks : List Nat) : List Stmt :=
  [.Expr (.Call (.Attribute (.Call (.Name "super" (q.getD 0 ⟨0, 0, 0, 0⟩)) [] [] (q.getD 1 ⟨0, 0, 0, 0⟩)) "__init__" (q.getD 2 ⟨0, 0, 0, 0⟩)) [.BinOp (.Constant (.str pre) (ks.getD 0 0) (q.getD 3 ⟨0, 0, 0, 0⟩)) .Add (.Name "name" (q.getD 4 ⟨0, 0, 0, 0⟩)) (q.getD 5 ⟨0, 0, 0, 0⟩)] [] (q.getD 6 ⟨0, 0, 0, 0⟩)) (q.getD 7 ⟨0, 0, 0, 0⟩),
   .Assign [.Attribute (.Name "self" (q.getD 8 ⟨0, 0, 0, 0⟩)) "name" (q.getD 9 ⟨0, 0, 0, 0⟩)] (.Name "name" (q.getD 10 ⟨0, 0, 0, 0⟩)) (q.getD 11 ⟨0, 0, 0, 0⟩)]
structure SupOk (P : Program) (K : PySem.W.Frag) (mg : Str → Option Value) (pre : Str) (C fI : Addr) (fd : FuncData) : Prop where
  ex : ∃ oc od osl qual params scope kV doc pm an cda ct cc q ks ccl cdd ccs vs file tf cl cld csl a1 a2,
    fd = PySem.W.fnX "__init__" qual params (initBody pre q ks) scope [("__class__", cc)] .none kV doc pm an (.ref cda) ct ∧ ((q.getD 2 ⟨0, 0, 0, 0⟩).endLine == (q.getD 6 ⟨0, 0, 0, 0⟩).line) = true ∧
    K.lookup fI = some ⟨oc, od, .func fd, osl⟩ ∧ codeIn K (.ref cda) qual = true ∧
    K.lookup cda = some ⟨ccl, cdd, .fields vs, ccs⟩ ∧ vs[2]? = some (.str file tf) ∧ ((P.main.file : Str) == file) = true ∧
    K.lookup cc = some ⟨cl, cld, .cell (some (.ref C)), csl⟩ ∧
    params = { posonlyargs := [], args := [{ arg := "self", annotation := none, pos := a1 }, { arg := "name", annotation := none, pos := a2 }], vararg := none, kwonlyargs := [], kw_defaults := [], kwarg := none, defaults := [] } ∧
    scope.kind = .function ∧ scope.isCoroutine = false ∧ scope.isGenerator = false ∧ (∀ x ∈ scope.names, x.2 ≠ .cell) ∧ scope.names.lookup ("super" : Str) = some .globalImplicit ∧ scope.names.lookup ("__class__" : Str) = some .free ∧
    scope.names.lookup ("self" : Str) = some .local ∧ scope.names.lookup ("name" : Str) = some .local
  T : OexC K C
  mro : mroIn K C (.ref C) = some true
  sup : PySem.W.ks_superIn K C C "__init__" = some (some (.builtin "ValueError.__init__"))
  ve : subIn K (.ref C) (.type "ValueError") = some true
  tp : nsIn K cStatics "thirdparty.any" = some none
  top : (P.main.scope.names.lookup ("super" : Str)).isSome = false
  nosup : mg "super" = none
  noname : findIn K (.ref C) "name" = some none
  init : findIn K (.ref C) "__init__" = some (some (.ref fI))
  tI : typeIn K (.ref fI) = some (.type "function")
  short : pre.length ≤ 100
def spBad (C : Addr) : Sp := fun vs H Q _ => ∃ a nm, vs = [.ref a, .str nm] ∧ nm.length ≤ 1000 ∧ H a = some (exo a C none) ∧ ∀ dx, H dx = none → dx ≠ a → Q .non (upd (upd H dx (exd dx [("name", .str nm)])) a (exo a C (some dx)))
section
variable {prog : Program} {w : World} {A : Around} {E : Value → Shared → Prop} {h : Heap} {g : Array GenState} {d : Drawn} {t : Nat} {os : OsState}
variable {nm q : Str} {C N : Addr} {bs bm : List Value} {hdct : Bool} {sn : List Str} {sub : List Value} {ab : Bool} {col : Option Bool} {dd : Option Addr} {k0 k1 k2 k3 k5 : Option Value}
theorem call_bwV {u e t0 : Addr} {rest : List Value} {Q : Value → Shared → Prop}
    (hC : h.get? C = some (excClassObj nm q C N bs bm hdct sn sub ab col dd k0 k1 k2 k3 k5 "ValueError.__new__")) (he : h.get? e = some (HandSPX.excO C t0)) (hu : h.get? u = some (PySem.W.kxs_mw "ValueError.__init__" e)) (hrest : rest.length ≤ sizeLine)
    (hq : ∀ h' t1, (∀ b o, b ≠ e → h.get? b = some o → h'.get? b = some o) → h'.get? e = some (HandSPX.excO C t1) → Q .none ⟨h', g, d, t, os⟩) :
    wpAny (model prog w) A (call (.ref u) rest) Q E ⟨h, g, d, t, os⟩ := by
  refine wpAny_call (codeAny_of_tree ?_)
  show wpAny _ A.in1 (callAny (.ref u) ⟨rest, []⟩) _ _ _
  simp only [callAny]
  refine wpAny_bind (wpAny_load hu ?_)
  simp only [PySem.W.kxs_mw, show (Value.type "method-wrapper" == Value.type "method" || Value.type "method-wrapper" == Value.type "builtin_function_or_method" || Value.type "method-wrapper" == Value.type "method-wrapper") = true by decide, if_true]
  refine PySem.W.KFB.if_so (by decide) ?_
  refine wpAny_bind (ESX.check_bound F.excBase_ValueError hC he rfl ?_)
  refine wpAny_bind (wpAny_pure (wpAny_pure ?_))
  refine ⟨plainId_quiet F.excBase_ValueError.init.plain _, codeAny_builtin F.excBase_ValueError.initEntry ?_⟩
  exact PySem.W.exc_init_tree (cls := .ref C) (t0 := t0) (dv := none) (c2 := .none) (c3 := .none) (b4 := .bool false) he hrest fun h' k e' t' => hq h' _ k e'
end
section
variable {P : Program} {w : World} {K : PySem.W.Frag} {mg : Str → Option Value} {base : Heap} {pre : Str} {C fI : Addr} {fd : FuncData} {k : Nat} {CX : CXT}
theorem bad_binds (S : SupOk P K mg pre C fI fd) : L2.Binds K fd ["self", "name"] [] := by
  obtain ⟨oc, od, osl, qual, params, scope, kV, doc, pm, an, cda, ct, cc, q, ks, ccl, cdd, ccs, vs, file, tf, cl, cld, csl, a1, a2, rfl, hline, lk, hcd, lcd, hvs, hfile, lcc, rfl, _⟩ := S.ex
  exact .all fun us hl => match us, hl with | [_, _], _ => rfl
theorem bad_init (S : SupOk P K mg pre C fI fd) : FnOk P w K mg base CX k fI fd ["self", "name"] (spBad C) := by
  have binds := bad_binds S
  obtain ⟨oc, od, osl, qual, params, scope, kV, doc, pm, an, cda, ct, cc, q, ks, ccl, cdd, ccs, vs, file, tf, cl, cld, csl, a1, a2, rfl, hline, lk, hcd, lcd, hvs, hfile, lcc, rfl, hk, hco, hgen, hcell, nsup, ncls, nself, nname⟩ := S.ex
  refine ⟨fun vs H Q E ⟨_, _, e, _⟩ => by rw [e]; rfl, fun A outer s H args us vs' Q E hr e0 hb rv hsp => ?_⟩
  obtain ⟨a, nm, rfl, hnm, ha, hQ⟩ := hsp
  obtain ⟨u1, u2, rfl, r1, r2⟩ := vals2 rv
  obtain rfl : u1 = Value.ref a := r1
  obtain ⟨tk, rfl⟩ := (show ∃ t, u2 = Value.str nm t from r2)
  have KX : K.In s.heap := e0.mod.kin.keeps fun b o e => (e0.bs b o e).1
  have lim : s.heap.NoLimit := e0.mod.nolimit.keeps fun b o e => (e0.bs b o e).1
  obtain ⟨mb, hmb, hmb2⟩ := e0.mod.blt
  obtain ⟨hp, g, d, t, os⟩ := s
  refine PySem.ks_codeAny_call_defAt (body := initBody pre q ks) (binds := [("self", .ref a), ("name", .str nm tk)]) hr.depth (KX _ _ lk) rfl lim (PySem.W.codeRec_of KX hcd) rfl hb hcell (fun x hx => ?_) (fun h₁ hns hk₁ => ?_) hco hgen hk
  · rcases List.mem_cons.mp hx with rfl | hx
    · exact nself
    · rw [List.mem_singleton.mp hx]; exact nname
  have X1 : K.In h₁ := KX.keeps hk₁
  have gl1 : h₁.Ns mainGlobals mg := (e0.mod.glob.keeps fun b o e => (e0.bs b o e).1).keeps hk₁
  have bl1 : h₁.Ns builtinsNs mb := (hmb.keeps fun b o e => (e0.bs b o e).1).keeps hk₁
  obtain ⟨cnm, cq, N, bs, bm, sn, sub, ab, col, dd, k0, k1, k2, k3, k5, hC, hbm⟩ := S.T.cls
  have hcl : PySem.W.clsIn K C = some { name := cnm, bases := bs, mro := .ref C :: bm, ns := N, qualname := cq, hasDict := true, slotNames := sn, subclasses := sub, abstract := ab, collection := col, hasDel := false } := by unfold PySem.W.clsIn; rw [hC] <;> rfl
  obtain ⟨t1, ho⟩ := exo_at e0.hok ha
  have ho : hp.get? a = some (HandSPX.excO C t1) := ho
  have ho1 := hk₁ _ _ ho
  have hns : h₁.Ns hp.objs.size (fun x => ([("self", Value.ref a), ("name", Value.str nm tk)] : List (Str × Value)).reverse.lookup x) := hns
  have fin : ∀ (h6 : Heap) (tk6 : Nat) (dx : Addr), (∀ b o, b ≠ a → hp.get? b = some o → h6.get? b = some o) → hp.objs.size ≤ dx → dx ≠ a → (∃ t6, h6.get? a = some ({ cls := .ref C, dict := some dx, data := .fields #[.ref t6, .none, .none, .none, .bool false, .none] } : Obj)) → h6.Ns1 dx (fun y => if y = "name" then some (Value.str nm tk) else none) →
      CR CX outer P w H ⟨hp, g, d, t, os⟩ Q E (.ok (.ret .none)) ⟨h6, g, d, tk6, os⟩ := by
    intro h6 tk6 dx kk dn dne hx hn
    have hnd : H dx = none := e0.hok.fresh dn
    have nd : ∀ {b : Addr} {o : Obj}, hp.get? b = some o → b ≠ dx := fun {b o} q => Nat.ne_of_lt (Nat.lt_of_lt_of_le (Heap.lt_size q) dn)
    have na : ∀ {b : Addr}, H b = none → b ≠ a := fun {b} n z => by rw [z, ha] at n; cases n
    refine ⟨.non, upd (upd H dx (exd dx [("name", .str nm)])) a (exo a C (some dx)), rfl, e0.bare, ?_, fun b o q => ?_, rfl, hQ dx hnd dne⟩
    · exact {
        keep := fun b o q n _ _ => kk b o (na n) q
        slot := fun b o q n _ _ => ⟨o.slots, kk b o (na n) q⟩
        free := fun b o q n _ => by rw [upd_ne (na n), upd_ne (nd q)]; exact n
        there := fun b o q _ => by
          by_cases hb : b = a
          · obtain ⟨t6, e6⟩ := hx
            exact ⟨_, by rw [hb]; exact e6⟩
          · exact ⟨o, kk b o hb q⟩
        tups := fun b xs q => by rw [upd_ne (at_ne ha q exo_tup), upd_ne (ne_of_none q hnd)]; exact q
        frzs := fun b o v q => by rw [upd_ne (at_ne ha q exo_frz), upd_ne (ne_of_none q hnd)]; exact q
        tbls := fun b ps q => ⟨#[], by rw [upd_ne (at_ne ha q exo_tbl), upd_ne (ne_of_none q hnd), q]; simp⟩ }
    · by_cases hb : b = a
      · subst hb
        rw [upd_same] at q
        cases q
        obtain ⟨t6, e6⟩ := hx
        exact exo_ok e6
      · rw [upd_ne hb] at q
        by_cases hd : b = dx
        · subst hd
          rw [upd_same] at q
          cases q
          exact exd_ok hn (relO_put (fs := []) ⟨tk, rfl⟩ fun g => True.intro)
        · rw [upd_ne hd] at q
          exact (e0.hok b o q).stay (fun c v hc z => kk c v (by
              rcases hc with hc | hc
              · rw [hc]
                exact hb
              · exact at_ne ha hc exo_own) z)
            (fun c hc => by rw [upd_ne (at_ne ha hc exo_own), upd_ne (ne_of_none hc hnd)]; exact hc) (fun c xs hc => by rw [upd_ne (at_ne ha hc exo_tup), upd_ne (ne_of_none hc hnd)]; exact hc)
  have hint : ∀ env : PySem.Env, env.scope = scope → interactive env = false := fun env e => by
    unfold interactive
    rw [e, hk] <;> rfl
  -- the last statement, from the heap behind super().__init__(..)
  have last : ∀ (h3 : Heap) (tk3 : Nat), (∀ b o, b ≠ a → h₁.get? b = some o → h3.get? b = some o) → (∃ t3, h3.get? a = some (HandSPX.excO C t3)) →
      wpAny (model P w) (A.deeper (callEnv (PySem.W.fnX "__init__" qual { posonlyargs := [], args := [{ arg := "self", annotation := none, pos := a1 }, { arg := "name", annotation := none, pos := a2 }], vararg := none, kwonlyargs := [], kw_defaults := [], kwarg := none, defaults := [] } (initBody pre q ks) scope [("__class__", cc)] .none kV doc pm an (.ref cda) ct) hp.objs.size fI))
        (execs [.Assign [.Attribute (.Name "self" (q.getD 8 ⟨0, 0, 0, 0⟩)) "name" (q.getD 9 ⟨0, 0, 0, 0⟩)] (.Name "name" (q.getD 10 ⟨0, 0, 0, 0⟩)) (q.getD 11 ⟨0, 0, 0, 0⟩)] (callEnv (PySem.W.fnX "__init__" qual { posonlyargs := [], args := [{ arg := "self", annotation := none, pos := a1 }, { arg := "name", annotation := none, pos := a2 }], vararg := none, kwonlyargs := [], kw_defaults := [], kwarg := none, defaults := [] } (initBody pre q ks) scope [("__class__", cc)] .none kV doc pm an (.ref cda) ct) hp.objs.size fI))
        (fun f s' => CR CX outer P w H ⟨hp, g, d, t, os⟩ Q E (.ok (.ret (match f with | .ret v => v | _ => .none))) s') (fun e s' => False) ⟨h3, g, d, tk3, os⟩ := by
    intro h3 tk3 k3' ⟨t3, e3⟩
    have aL : hp.objs.size ≠ a := Nat.ne_of_gt (Heap.lt_size ho)
    have ns3 : h3.Ns hp.objs.size (fun x => ([("self", Value.ref a), ("name", Value.str nm tk)] : List (Str × Value)).reverse.lookup x) := hns.at' fun o e => k3' _ o aL e
    have K3 : K.In h3 := fun b o e => k3' b o (fun z => by
      have h9 := (e0.bs b o (e0.mod.kin b o e)).2
      rw [z, ha] at h9; cases h9) (X1 b o e)
    have sz3 : hp.objs.size ≤ h3.objs.size := by
      have := Heap.lt_size (k3' _ _ aL hns.choose_spec.choose_spec.choose_spec.1)
      exact Nat.le_of_lt this
    refine wpAny_execs_cons (plainObj_wpAny_Assign_Attribute (wpAny_Name (wpAny_loadName_local hk nname ns3 rfl ?_) (by decide)) rfl)
    refine wpAny_Name (wpAny_loadName_local hk nself ns3 rfl ?_) (by decide)
    refine PySem.W.set_plain (s := ⟨h3, g, d, tk3, os⟩) K3 (ox := HandSPX.excO C t3) (od := none) ⟨e3, rfl, rfl, trivial⟩ S.T.sa ?_
    refine PySem.HandSPX.exc_osa K3 e3 hcl (show PySem.HandSPX.refsVE (.ref C :: bm) = true from hbm) rfl S.noname (fun h' tk' dx k dn dne hx hn => ?_)
    refine wpAny_execs_nil (fin h' tk' dx (fun b o hb e => k b o hb (k3' b o hb (hk₁ b o e))) (Nat.le_trans sz3 dn) dne ⟨t3, hx⟩ hn)
  refine PySem.ks_wpAt_execs_cons ?_
  refine PySem.ks_wpAt_Expr_any ?_ (hint _ rfl) rfl
  refine PySem.ks_wpAt_MethodCall (pl := plainOf (.Call (.Name "super" (q.getD 0 ⟨0, 0, 0, 0⟩)) [] [] (q.getD 1 ⟨0, 0, 0, 0⟩)) (callEnv (PySem.W.fnX "__init__" qual { posonlyargs := [], args := [{ arg := "self", annotation := none, pos := a1 }, { arg := "name", annotation := none, pos := a2 }], vararg := none, kwonlyargs := [], kw_defaults := [], kwarg := none, defaults := [] } (initBody pre q ks) scope [("__class__", cc)] .none kV doc pm an (.ref cda) ct) hp.objs.size fI)) ?_ ?_
  · refine PySem.ks_wpAt_super_base (f := fI) (ar := { arg := "self", annotation := none, pos := a1 }) nsup ncls (by decide) rfl (X1 _ _ lk) rfl rfl rfl (X1 _ _ lcd) rfl hvs hfile S.top ?_
    refine PySem.W.ks_loadName_global hk nsup (Calls.loadGlobal_builtin gl1 S.nosup bl1 ((hmb2 _ (by decide)).trans (by decide +kernel)) ⟨rfl, ?_⟩)
    refine wpAny_loadName_free hk ncls rfl ⟨_, X1 _ _ lcc, rfl⟩ ?_
    refine wpAny_loadName_local hk nself hns rfl ?_
    refine PySem.ks_wpAny_isType_cls (X1 _ _ hC) rfl ⟨rfl, ?_⟩
    refine PySem.ks_wpAny_call_super (X1 _ _ hC) rfl ho1 rfl (fun c z => by cases z) (PySem.W.looks_mroIn X1 S.mro) (fun h2 e2 k2 => ?_)
    have X2 : K.In h2 := X1.keeps k2
    have ho2 := k2 _ _ ho1
    have I2 : PySem.W.InstAt h2 a (HandSPX.excO C t1) C none := ⟨ho2, rfl, rfl, trivial⟩
    have ne : a ≠ C := PySem.W.ks_ne X2 I2 hcl
    have hsup := S.sup
    unfold PySem.W.ks_superIn at hsup
    rw [hcl] at hsup
    refine PySem.W.kxs_getMethod (B := "ValueError") PySem.W.kxs_ValueError e2 (PySem.W.looks_opaque X2 S.tp) (l₀ := .ref C :: bm) (fun A Q E s k q => wpAny_bind ((PySem.W.looks_clsIn X2 hcl) A _ E s k (wpAny_pure q))) rfl X2 hsup (I2.type.andThen (PySem.W.looks_subIn X2 S.ve)) ne (by decide) ?_
    refine PySem.W.kxs_callWith (i := "ValueError.__init__") (x := a) rfl (Calls.evalArgs_plain ?_)
    refine Calls.spliced_cons (wpAny_BinOp (Calls.Constant_str ?_))
    refine wpAny_Name (wpAny_loadName_local hk nname ((hns.keeps k2).push _) rfl ?_) (by decide)
    have hpl := S.short
    have hsl : 2000 ≤ sizeLine := by decide
    refine add_str (fun t' tk' => Calls.spliced_nil ⟨Heap.get?_push_size _ rfl, ?_⟩) (by omega)
    have ho3 : (h2.push (PySem.W.kxs_mw "ValueError.__init__" a)).get? a = some (HandSPX.excO C t1) := Heap.get?_push_of_some _ ho2
    refine call_bwV (Heap.get?_push_of_some _ (X2 _ _ hC)) ho3 (Heap.get?_push_size _ rfl) (by show 1 ≤ sizeLine; omega) fun h' t1' kk ex => ?_
    exact wpAt_of_wpAny (wpAny_mono (last h' _ (fun b o hb e => kk b o hb (Heap.get?_push_of_some _ (k2 b o e))) ⟨t1', ex⟩) (fun _ _ z => z) fun _ _ z => z.elim)
  · rw [arm_eval_Call]
    refine congrArg _ (funext fun ov => congrArg _ (funext fun _ => ?_))
    exact mcall_line rfl hline
end
end Y

set_option Elab.async false
set_option linter.all false
set_option maxRecDepth 100000
set_option maxHeartbeats 2000000
namespace Y
open PySem PySem.Spec PyProof.Rows L2

/-! ### raise BadArgument(e) -/
def sRaise (m : ME) : SX := fun env => (m env).go fun d e => match d with
  | .str nm => if nm.length ≤ 1000 then .bad nm e else .stuck
  | _ => .stuck
section
variable {X : Cx} {c : Cc} {f : Fr} {E : XK} {e : Expr} {m : ME} {pre x : Str} {fI : Addr} {fd : FuncData} {p p2 pos : Pos} {k : Nat}
theorem ms_raise (S : SupOk X.prog X.K X.mg pre c.bad fI fd) (hr : Room 1 X.A) (tk : Takes X (WB E)) (hm : X.mg x = some (.ref c.bad)) (h : MEx X c f (WB E) e m) (hg : Gl X x := by rfl) (hdb : (x == ("__debug__" : Str)) = false := by decide)
    (he : starEach [e] X.env = (false, eval e X.env) :: starEach [] X.env := by rfl) (hc : X.calm = true := by rfl) : MSx X c f (WB E) (.Raise (some (.Call (.Name x p) [e] [] p2)) none pos) (sRaise m) := by
  obtain ⟨t, pe, se⟩ := h
  refine ⟨_, ps_raise hc tk (pmk_oex (CX := L2.CX X.prog X.w) S.T S.init S.tI (bad_init S) hr (bad_binds S) .nil (fun _ _ _ _ _ _ _ ⟨_, _, _, _, _, _, _, _, _, _, _, _, h⟩ => h.elim) hg hm (pa_cons pe pa_nil he) hdb he), fun I H σ env D r h => ?_⟩
  refine se.go r h fun d env1 I1 H1 v s1 r1 rv h1 => ?_
  cases rv <;> first | exact h1.elim | skip
  rename_i nm
  by_cases hn : nm.length ≤ 1000
  case neg => simp only [if_neg hn] at h1; exact h1.elim
  simp only [if_pos hn] at h1
  refine ⟨by show 1 ≤ 1000; decide, fun a ha => ⟨a, nm, rfl, hn, upd_same, fun dx hd hda => ⟨rfl, dx, [("name", .str nm)], upd_same, ?_, ?_, ?_⟩⟩⟩
  · rw [upd_ne hda, upd_same]
  · rw [upd_ne hda] at hd; exact hd
  · have hd1 : H1 dx = none := by rw [upd_ne hda] at hd; exact hd
    have eH : upd (del (upd (upd (upd H1 a (exo a c.bad none)) dx (exd dx [("name", .str nm)])) a (exo a c.bad (some dx))) a) dx (.xd [("name", .str nm)]) = upd H1 dx (.xd [("name", .str nm)]) := by
      funext b
      by_cases hb : b = dx
      · rw [hb, upd_same, upd_same]
      · rw [upd_ne hb, upd_ne hb]
        by_cases hba : b = a
        · rw [hba, del_same, ha]
        · rw [del_ne hba, upd_ne hba, upd_ne hb, upd_ne hba]
    rw [eH]
    exact h1 I1 _ σ dx (Same.refl I1) (r1.new0 hd1) upd_same
end

/-! ### lambdas handed to a def that catches -/
section
variable {X : Cx} {pins : List (Addr × Obj)} {σ : L2.St} {H : Hp} {s : Shared}
/-- all stays but the table at P, which may grow -/
def But (P : Addr) (H H1 : Hp) : Prop := ∀ b o, H b = some o → b ≠ P → H1 b = some o
/-- what the maker of a lambda may rely on: as LamX.lam_make2 has it, with But -/
theorem lam_mk {T : List (Addr × Str)} {c P : Addr} {params : Arguments} {body : Expr} {scope : Scope} {pos : Pos} {E Q : Value → Shared → Prop} (I : Inv X pins σ H s) (TB : GxR.TabB X.base X.mg c P) (hcode : X.env.code = .ref c)
    (hm : (P, X.env.qual ++ "<lambda>") ∈ T) (hu : ∀ p ∈ T, p.1 = P → p.2 = X.env.qual ++ "<lambda>") (hT : LamX.Tabs T H) (hdef : defaultsOf params X.env = ([], [])) (hfree : ∀ y ∈ scope.names, y.2 = .free → ∃ c, X.env.cells.lookup y.1 = some c)
    (h : ∀ (f c' : Addr) (pm ctv : Value) (H1 : Hp) (s' : Shared), Inv X pins σ H1 s' → But P H H1 → LamX.Tabs T H1 → (∀ b, H1 b = none → H b = none) →
      s'.heap.get? f = some (PySem.W.kla_obj "<lambda>" (X.env.qual ++ "<lambda>") params body scope (cloFrom X.env.cells scope.names []) pm c' ctv) → H1 f = none → f ∉ frs X.stack → H1 c' = some (LamX.CodeO c' (X.env.qual ++ "<lambda>")) → Q (.ref f) s') :
    wpAny (model X.prog X.w) X.A (eval (.Lambda params body scope pos) X.env) Q E s := by
  obtain ⟨ps, hP, ht, ha⟩ := hT _ hm
  have bmP : s.heap.BuiltinsAt X.mg P := TB.bm.keeps I.bk
  have atP : s.heap.get? P = some { cls := .none, data := .fields ps } := I.hok P _ hP
  have out : ∀ f, s.heap.objs.size ≤ f → f ∉ frs X.stack := fun f hf hmem => (List.mem_cons.mp (I.stkSub _ hmem)).elim (fun e => by
    have := I.lt; rw [← e] at this; exact absurd (Nat.lt_of_lt_of_le this hf) (Nat.lt_irrefl _)) (I.nofs hf)
  refine PySem.W.kla_eval hdef ?_
  cases hc : codeAmong pos ps.toList with
  | some cv =>
    obtain ⟨c', rfl, hco⟩ := ha pos cv hc
    refine PySem.W.kla_makeFunctionHit (mg := X.mg) (c := c) (P := P) (ps := ps) (closure_ok hfree) I.ok.glob (I.mod.glob.keeps I.bk) hcode (TB.code.keeps I.bk) atP ht hc bmP fun ctv h' tk hx hsz => ?_
    exact h h'.objs.size c' ((X.mg "__name__").getD .none) ctv H _ (I.kept (h' := h'.push _) (t' := tk) fun b o e => Heap.get?_push_of_some _ (hx b o e)) (fun b o e _ => e) hT (fun b e => e) (Heap.get?_push_size _ rfl) (I.hok.fresh hsz) (out _ hsz) hco
  | none =>
    refine PySem.W.kla_makeFunction (mg := X.mg) (c := c) (P := P) (ps := ps) (closure_ok hfree) I.ok.glob (I.mod.glob.keeps I.bk) hcode (TB.code.keeps I.bk) atP ht hc TB.gP bmP fun c' ctv h' tk hx hge hlt hrec htb => ?_
    obtain ⟨c2, oc, vs, t, e2, hoc, hd, hv⟩ := hrec
    cases e2
    have sz : s.heap.objs.size ≤ h'.objs.size := Nat.le_trans hge (Nat.le_of_lt hlt)
    have nC : H c' = none := I.hok.fresh hge
    have J := LamX.inv_table (t' := tk) (more := #[rawInt pos.line, rawInt pos.col, .ref c']) (h' := h'.push (PySem.W.kla_obj "<lambda>" (X.env.qual ++ "<lambda>") params body scope (cloFrom X.env.cells scope.names []) ((X.mg "__name__").getD .none) c' ctv)) I hP
      (fun b o hb e => Heap.get?_push_of_some _ (hx b o hb e)) (Heap.get?_push_of_some _ htb) hge ⟨oc, vs, t, Heap.get?_push_of_some _ hoc, hd, hv⟩
    generalize hH1 : upd (upd H P (.tbl (ps ++ #[rawInt pos.line, rawInt pos.col, .ref c']))) c' (LamX.CodeO c' (X.env.qual ++ "<lambda>")) = H1 at J
    have k1 : But P H H1 := fun b o e n => by rw [← hH1, upd_ne (ne_of_none e nC), upd_ne n]; exact e
    have kC : H1 c' = some (LamX.CodeO c' (X.env.qual ++ "<lambda>")) := by rw [← hH1]; exact upd_same
    have kP : H1 P = some (.tbl (ps ++ #[rawInt pos.line, rawInt pos.col, .ref c'])) := by rw [← hH1, upd_ne (ne_of_none hP nC)]; exact upd_same
    have cP : ∀ {c0 q0}, H c0 = some (LamX.CodeO c0 q0) → H1 c0 = some (LamX.CodeO c0 q0) := fun {c0 q0} e => k1 _ _ e fun z => by
      rw [z, hP] at e; unfold LamX.CodeO at e; cases e
    have eL : (ps ++ #[rawInt pos.line, rawInt pos.col, .ref c']).toList = ps.toList ++ [rawInt pos.line, rawInt pos.col, .ref c'] := by simp
    refine h h'.objs.size c' ((X.mg "__name__").getD .none) ctv H1 _ J k1 (fun p hp => ?_) (fun b e => ?_) (Heap.get?_push_size _ rfl) ?_ (out _ sz) kC
    · by_cases hb : p.1 = P
      · rw [hu p hp hb, hb]
        refine ⟨_, kP, by rw [eL]; exact PySem.TriplesOk_snoc _ _ _ _ ht, fun p' cv hcv => ?_⟩
        rw [eL] at hcv
        rcases LamX.among_app _ ht hcv with z | z
        · obtain ⟨c0, e1, e2⟩ := ha p' cv z
          exact ⟨c0, e1, cP e2⟩
        · exact ⟨c', z, kC⟩
      · obtain ⟨qs, a1, a2, a3⟩ := hT p hp
        refine ⟨qs, k1 _ _ a1 hb, a2, fun p' cv hcv => ?_⟩
        obtain ⟨c0, e1, e2⟩ := a3 p' cv hcv
        exact ⟨c0, e1, cP e2⟩
    · cases q : H b with
      | none => rfl
      | some o =>
        by_cases hb : b = P
        · rw [hb, kP] at e; cases e
        · rw [k1 b o q hb] at e; cases e
    · cases q : H1 h'.objs.size with
      | none => rfl
      | some o =>
        have n1 : h'.objs.size ≠ c' := Nat.ne_of_gt hlt
        have n2 : h'.objs.size ≠ P := Nat.ne_of_gt (Nat.lt_of_lt_of_le (Heap.lt_size atP) sz)
        rw [← hH1, upd_ne n1, upd_ne n2, I.hok.fresh sz] at q
        cases q
/-- def refused(a): try: a() / except x as n: return n.f / return ret: the body of such a def -/
abbrev refBody (a x n fl ret : Str) (j : Nat) (q : Nat → Pos) : List Stmt :=
  [.Try [.Expr (.Call (.Name a (q 0)) [] [] (q 1)) (q 2)] [.ExceptHandler (some (.Name x (q 3))) (some n) [.Return (some (.Attribute (.Name n (q 4)) fl (q 5))) (q 6)] (q 7)] [] [] (q 8), .Return (some (.Constant (.str ret) j (q 9))) (q 10)]
end
theorem takes_len {X : Cx} {W : WX} (t : Takes X W) : Takes X (fun cls d σ H => σ.length = X.N.length → W cls d σ H) := fun u s' ⟨a, B, sI, pins, σ, H, cls, d, e, I, nb, up, sky, na, os, ag, w⟩ =>
  t u s' ⟨a, B, sI, pins, σ, H, cls, d, e, I, nb, up, sky, na, os, ag, w I.len⟩
/-- what such a def wishes of the exception: its field is told -/
def ERef (CS : Addr) (fl : Str) (Q : VK) : XK := fun cls d H' => cls = .ref CS ∧ ∃ dd fs v, d = some dd ∧ H' dd = some (.xd fs) ∧ fs.lookup fl = some v ∧ Q v H'
def tRef (T : List (Addr × Str)) (P CS : Addr) (fl ret : Str) (t : XK → TE) : TE := fun σ H Q => LamX.Tabs T H ∧ ∀ H1, But P H H1 → LamX.Tabs T H1 → (∀ b, H1 b = none → H b = none) → t (ERef CS fl Q) σ H1 fun _ H2 => Q (.str ret) H2
section
variable {X : Cx}
theorem pe_refused {T : List (Addr × Str)} {x a n fl ret ex : Str} {g c P CS : Addr} {k j : Nat} {pg : Arguments} {sg : Scope} {fd : FuncData} {q : Nat → Pos} {params : Arguments} {body : Expr} {scope : Scope} {t : XK → TE} {p lpos pos : Pos} (hg : Gl X x) (hm : X.mg x = some (.ref g))
    (F : FunD X.K x x pg (refBody a ex n fl ret j q) sg [] [] g fd) (hb : L2.Binds X.K fd [a] []) (Sg : FnScope [a, n] [a] sg) (hva : Vis sg a) (hvn : sg.names.lookup n = some .local) (hge : sg.names.lookup ex = some .globalImplicit) (hme : X.mg ex = some (.ref CS))
    (hexm : PySem.W.exmOne X.K (.ref CS) (.ref CS) = some true) (XF : XfC X.K CS) (hno : PySem.W.findIn X.K (.ref CS) fl = some none)
    (TB : GxR.TabB X.base X.mg c P) (hcode : X.env.code = .ref c) (hmT : (P, X.env.qual ++ "<lambda>") ∈ T) (hu : ∀ p ∈ T, p.1 = P → p.2 = X.env.qual ++ "<lambda>") (hr : Room (k + 2) X.A) (L : LamX.LamS X.env.scope scope) (hdef : defaultsOf params X.env = ([], []))
    (hbind : ∀ (q : Str) (cl : List (Str × Addr)) (pm cv ctv : Value), bindArgs (PySem.W.kla_fn "<lambda>" q params body scope cl pm cv ctv) ⟨[], []⟩ = pure [])
    (hbody : ∀ (A : Around) (outer : List PySem.Env) (s : Shared) (H : Hp) (E : XK) (f c' : Addr), Room k (A.deeper (LamX.lamEnv X scope s.heap.objs.size f c')) → PE (LamX.lamCx X A outer s H E scope f c') body (t E))
    (hdb : (x == ("__debug__" : Str)) = false := by decide) (hda : (a == ("__debug__" : Str)) = false := by decide) (hcda : (a == ("__classdict__" : Str)) = false := by decide) (hdn : (n == ("__debug__" : Str)) = false := by decide) (hcdn : (n == ("__classdict__" : Str)) = false := by decide) (hde : (ex == ("__debug__" : Str)) = false := by decide) :
    PE X (.Call (.Name x p) [.Lambda params body scope lpos] [] pos) (tRef T P CS fl ret t) := by
  obtain ⟨oc, od, dV, kV, doc, pm, an, cdv, ct, osl, rfl, lk, hcg, _⟩ := F.ex
  refine ⟨fun pins s σ H Q I h => ?_⟩
  obtain ⟨hT, h⟩ := h
  refine wpAny_Call_Name_kw (ld_glob I hg hm ?_ hdb)
  refine PySem.W.callWith_K (h₀ := X.base) I.ok.mod.kin F.kp ?_ (by rfl) (by rfl)
  show wpAny _ _ (spliced ((false, eval (.Lambda params body scope lpos) X.env) :: backTo pos (starEach [] X.env))) _ _ s
  refine Calls.spliced_cons (lam_mk I TB hcode hmT hu hT hdef (L.has I.ok) fun f c' pm' ctv H1 s' I1 eN T1 nN hf hfn hfr hco => ?_)
  refine Calls.spliced_nil ⟨I1.kIn, ?_⟩
  have hq := h H1 eN T1 nN
  have rc : codeAny (model X.prog X.w) X.A (.call (.ref g) ⟨[.ref f], []⟩) (CR C8.CX0 X.stack X.prog X.w H1 s' Q C8.E0) s' := by
    refine LamX.run_ofS (N := [a, n]) (ps := [a]) (us := [.ref f]) (vs := [.ref f]) lk hcg Sg hr I1.env0 (hb s' [.ref f] I1.kIn rfl) (.cons rfl .nil) rfl fun hr' => ?_
    have hgl : Gl (cxOf C8.CX0 X.prog X.w X.K X.mg X.base [a, n] x sg g cdv X.A X.stack s' H1 C8.E0).nox ex := hge
    have hv0 : (L2.start [a, n] [V.ref f])[0]? = some (some (V.ref f)) := rfl
    refine ⟨_, PSs.nox (pss_cons (ps_try_as (X := (cxOf C8.CX0 X.prog X.w X.K X.mg X.base [a, n] x sg g cdv X.A X.stack s' H1 C8.E0).nox) (i := 1) (c := .ref CS) (n := n)
      (tb := fun W D σ' H' => ∃ Ech : XK, (∀ cls d σ2 H2, Ech cls d H2 → σ2.length = 2 → W cls d σ2 H2) ∧ σ'[0]? = some (some (.ref f)) ∧ H' c' = some (LamX.CodeO c' (X.env.qual ++ "<lambda>")) ∧ t Ech σ H' fun _ H2 => D.nx σ' H2)
      rfl rfl Sg.nd rfl hvn ⟨hgl, hde, .inl hme⟩ LamX.takes0 (fun W pn xe tk _ => ?_) (fun aa oe cls d pn hz hfd => pss_one (ps_ret (pe_xf XF hno hz hfd (pe_var (i := 1) rfl (.inl hvn) hdn hcdn))))) (pss_one (ps_ret pe_str))), ?_⟩
    · refine ⟨fun pinsZ sZ σZ HZ D IZ hz => ?_⟩
      obtain ⟨Ech, hW, h1, h2, h3⟩ := hz
      have hp := LamX.pe_act (i := 0) (CXg := C8.CX0) (Eg := C8.E0) (Ng := [a, n]) (qg := x) (sg := sg) (g := g) (cdg := cdv) (E := Ech) (tb := t Ech) (k := k) (xe := xe) (pn := pn) (p1 := q 0) (p2 := q 1) I1 L hf hfn hfr (hbind _ _ _ _ _) (takes_len tk) (fun cls d σ2 H2 he hl => hW cls d σ2 H2 he hl) hr' (fun A outer s H hr2 => hbody A outer s H Ech f c' hr2) rfl hva hda hcda
      exact (pss_one (ps_expr (pos := q 2) hp)).run pinsZ sZ σZ HZ D IZ ⟨h1, h2, h3⟩
    · refine ⟨ERef CS fl Q, fun cls d σ2 H2 he hl => ?_, hv0, hco, hq⟩
      obtain ⟨rfl, dd, fs, v, rfl, e2, e3, e4⟩ := he
      refine ⟨true, hexm, fun _ aa haa => ?_, fun z => by cases z⟩
      refine ⟨_, ?_, rfl, rfl, dd, fs, v, rfl, e2, e3, e4⟩
      exact List.getElem?_set_self (by omega)
  refine wpAny_call (codeAny_mono rc fun r s2 hq => ?_)
  cases r with
  | error e => exact (show False from hq).elim
  | ok fl =>
    cases fl with
    | ret u => exact I1.after hq
    | next => exact False.elim hq
    | brk => exact False.elim hq
    | cont => exact False.elim hq
end
end Y

set_option Elab.async false
set_option linter.all false
set_option maxRecDepth 100000
set_option maxHeartbeats 2000000
namespace Y
open PySem PySem.Spec PyProof.Rows L2

/-! ### refused(lambda: e) -/
def mRef (m : ME) : ME := fun env => match m (dropO env) with
  | .ok _ _ => .ok (.str "") env
  | .bad nm _ => .ok (.str nm) env
  | .stuck => .stuck
section
variable {K : PySem.W.Frag} {c : Cc} {f : Fr} {W : WX} {I H : Hp} {σ : L2.St} {env : Env}
theorem Rst.butted (r : Rst K c f I H σ env) {P : Addr} {q : Str} {H1 : Hp} (hP : (P, q) ∈ c.T2) (hd : ∀ P' ∈ c.T1, P' ≠ P) (t : But P H H1) (t2 : LamX.Tabs c.T2 H1) : Rst K c f I H1 σ env := by
  have hPt : c.isT P := .inr ⟨q, hP⟩
  obtain ⟨qs, hq1, _⟩ := r.t2 _ hP
  refine ⟨fun a o h => t a o (r.sub a o h) fun z => (by rw [z, r.it P hPt] at h; cases h), fun a o h n nt => t a o (r.fr0 a o h n nt) fun z => nt (z ▸ hPt), fun P' hP' => ?_, t2, r.it, r.len, r.va, fun i l e => ?_, r.nd, r.io0, r.ni⟩
  · obtain ⟨ps, a1, a2⟩ := r.t1 P' hP'
    exact ⟨ps, t _ _ a1 (hd P' hP'), a2⟩
  · obtain ⟨p, vs, h1, h2, h3, h4, h5⟩ := r.ow i l e
    exact ⟨p, vs, h1, t _ _ h2 (fun z => by rw [z, hq1] at h2; cases h2), h3, h4, h5⟩
theorem sim_ref {P : Addr} {q : Str} {m : ME} {t : XK → TE} (hP : (P, q) ∈ c.T2) (hd : ∀ P' ∈ c.T1, P' ≠ P) (hs : ∀ (E : XK) (H0 : Hp) (ni : Addr → Prop), SimE K c (frP H0 ni) (WB E) (t E) m) :
    SimE K c f W (tRef c.T2 P c.bad "name" "" t) (mRef m) := by
  intro I H σ env Q r h
  refine ⟨r.t2, fun H1 b t2 nN => ?_⟩
  have r1 := r.butted hP hd b t2
  unfold mRef at h
  refine hs _ _ _ I H1 σ (dropO env) _ r1.gen ?_
  cases em : m (dropO env) with
  | ok d e =>
    rw [em] at h
    intro I' H' s' r' v rv
    exact h I' H' s' (r1.called (r'.after s')) _ (.str _)
  | bad nm e =>
    rw [em] at h
    intro I' H' dx s' r' hx
    exact ⟨rfl, dx, _, .str nm, rfl, hx, rfl, h I' H' s' (r1.called (r'.after s')) _ (.str _)⟩
  | stuck => rw [em] at h; exact h.elim
end
section
variable {X : Cx} {c : Cc} {f : Fr} {W : WX}
abbrev LamI (X : Cx) (scope : Scope) (k : Nat) : Type := { q : Around × List PySem.Env × Shared × Hp × Addr × Addr // Room k (q.1.deeper (LamX.lamEnv X scope q.2.2.1.heap.objs.size q.2.2.2.2.1 q.2.2.2.2.2)) }
abbrev lamX (X : Cx) (scope : Scope) {k : Nat} (E : XK) (i : LamI X scope k) : Cx := LamX.lamCx X i.1.1 i.1.2.1 i.1.2.2.1 i.1.2.2.2.1 E scope i.1.2.2.2.2.1 i.1.2.2.2.2.2
theorem takesL {E : XK} {scope : Scope} {k : Nat} {i : LamI X scope k} : Takes (lamX X scope E i) (WB E) := takes_of rfl rfl rfl rfl
theorem uni_l {scope : Scope} {k : Nat} {body : Expr} {m : ME} {E : XK} (h : ∀ (i : LamI X scope k) (H0 : Hp) (ni : Addr → Prop), MEx (lamX X scope E i) c (frP H0 ni) (WB E) body m) :
    ∃ t : TE, (∀ i : LamI X scope k, PE (lamX X scope E i) body t) ∧ ∀ (H0 : Hp) (ni : Addr → Prop), SimE X.K c (frP H0 ni) (WB E) t m :=
  ⟨fun σ H Q => ∃ H0 ni, ∀ i, (h i H0 ni).choose σ H Q, fun i => ⟨fun pins s σ H Q I ⟨H0, ni, hf⟩ => (h i H0 ni).choose_spec.1.run pins s σ H Q I (hf i)⟩,
    fun H0 ni I H σ env Q r hq => ⟨H0, ni, fun i => (h i H0 ni).choose_spec.2 I H σ env Q r hq⟩⟩
theorem me_ref {x a n ex : Str} {g cd P : Addr} {k j : Nat} {pg : Arguments} {sg : Scope} {fd : FuncData} {q : Nat → Pos} {params : Arguments} {body : Expr} {scope : Scope} {m : ME} {p lpos pos : Pos} (hm : X.mg x = some (.ref g))
    (F : FunD X.K x x pg (refBody a ex n "name" "" j q) sg [] [] g fd) (hb : L2.Binds X.K fd [a] []) (Sg : FnScope [a, n] [a] sg) (hva : Vis sg a) (hvn : sg.names.lookup n = some .local) (hge : sg.names.lookup ex = some .globalImplicit) (hme : X.mg ex = some (.ref c.bad))
    (hexm : PySem.W.exmOne X.K (.ref c.bad) (.ref c.bad) = some true) (XF : XfC X.K c.bad) (hno : PySem.W.findIn X.K (.ref c.bad) "name" = some none)
    (TB : GxR.TabB X.base X.mg cd P) (hcode : X.env.code = .ref cd) (hmT : (P, X.env.qual ++ "<lambda>") ∈ c.T2) (hu : ∀ p ∈ c.T2, p.1 = P → p.2 = X.env.qual ++ "<lambda>") (hd : ∀ P' ∈ c.T1, P' ≠ P) (hr : Room (k + 2) X.A) (L : LamX.LamS X.env.scope scope)
    (hbody : ∀ (E : XK) (i : LamI X scope k) (H0 : Hp) (ni : Addr → Prop), MEx (lamX X scope E i) c (frP H0 ni) (WB E) body m) (hdef : defaultsOf params X.env = ([], []) := by rfl)
    (hbind : ∀ (q : Str) (cl : List (Str × Addr)) (pm cv ctv : Value), bindArgs (PySem.W.kla_fn "<lambda>" q params body scope cl pm cv ctv) ⟨[], []⟩ = pure [] := by intro _ _ _ _ _; rfl) (hg : Gl X x := by rfl)
    (hdb : (x == ("__debug__" : Str)) = false := by decide) (hda : (a == ("__debug__" : Str)) = false := by decide) (hcda : (a == ("__classdict__" : Str)) = false := by decide) (hdn : (n == ("__debug__" : Str)) = false := by decide) (hcdn : (n == ("__classdict__" : Str)) = false := by decide) (hde : (ex == ("__debug__" : Str)) = false := by decide) :
    MEx X c f W (.Call (.Name x p) [.Lambda params body scope lpos] [] pos) (mRef m) := by
  have hc := fun E => uni_l (X := X) (c := c) (hbody E)
  refine ⟨_, pe_refused (t := fun E => (hc E).choose) hg hm F hb Sg hva hvn hge hme hexm XF hno TB hcode hmT hu hr L hdef hbind (fun A outer s H E f c' hr2 => (hc E).choose_spec.1 ⟨(A, outer, s, H, f, c'), hr2⟩) hdb hda hcda hdn hcdn hde, ?_⟩
  exact sim_ref hmT hd fun E H0 ni => (hc E).choose_spec.2 H0 ni
end

/-! ### further small rules -/
def mUn (g : D → Option D) (m : ME) : ME := fun env => (m env).bind fun d e => R.of (g d) e
def gNeg : D → Option D
  | .int i => some (.int (-i))
  | _ => none
def gSumA : List D → Option D
  | [.lst l] => (intsO l).map fun ns => .int ns.sum
  | [.tup l] => (intsO l).map fun ns => .int ns.sum
  | _ => none
def gMin3 : List D → Option D
  | [.int i, .int j, .int k] => some (.int (if k < (if j < i then j else i) then k else if j < i then j else i))
  | _ => none
def gRepT : D → D → Option D
  | .tup l, .int k => if l ≠ [] ∧ 1 ≤ k ∧ k ≤ 1000 ∧ l.length ≤ 1000 then some (.tup (List.replicate k.toNat l).flatten) else none
  | _, _ => none
def rngDn (i : Int) (n : Nat) : List D := (List.range n).map fun (k : Nat) => D.int (i - (k : Int))
def gRngDn : List D → Option (List D)
  | [.int i, .int j, .int c] => if c = -1 ∧ -1000000 ≤ i ∧ i ≤ 1000000 ∧ -1000000 ≤ j ∧ j ≤ 1000000 then some (rngDn i (i - j).toNat) else none
  | _ => none
section
variable {prog : Program} {w : World} {A : Around} {E : Value → Shared → Prop} {s : Shared} {l : Addr} {xs : Array (Int × Tok)}
theorem sum_intTup {Q : Value → Shared → Prop} (hh : A.handled = none) (hl : s.heap.IsTuple l (intItems xs))
    (h : ∀ h' tk t', (∀ b o, s.heap.get? b = some o → h'.get? b = some o) → Q (.int (preSum (numAt xs) xs.size) t') { s with heap := h', toks := tk }) :
    wpAny (model prog w) A (call (.builtin "sum") [.ref l]) Q E s := by
  have hlt : l < s.heap.objs.size := by obtain ⟨_, e, _⟩ := hl; exact Heap.lt_size e
  refine call_sum_walkG (wpAny_pyIter_tuple hl ?_)
  refine ⟨_, _, _, _, _, _, numAt xs, rfl, Walks.tuple (A := A.in1) hh _ l (Nat.ne_of_lt hlt) (intItems xs), ⟨⟨_, Heap.get?_push_size _ rfl, rfl, rfl⟩, hl.push _⟩, fun b hb => ?_, (fun _ _ => intItems_at), fun h' tk t' hk => ?_⟩
  · show b < (s.heap.push _).objs.size
    rw [Heap.size_push]
    rcases List.mem_cons.mp hb with rfl | hb
    · exact Nat.lt_succ_self _
    · rw [List.mem_singleton.mp hb]; exact Nat.lt_succ_of_lt hlt
  · have := h h' tk t' fun b o e => hk b o (fun hm => by
      rw [List.mem_singleton.mp hm] at e
      exact absurd (Heap.lt_size e) (Nat.lt_irrefl _)) (Heap.get?_push_of_some _ e)
    simpa [intItems] using this
end
def rSumA (K : PySem.W.Frag) : List V → Hp → VK → Prop := fun vs H Q => ∃ (a : Addr) (ns : List Int), vs = [V.ref a] ∧ (SqL K H a (ns.map V.int) ∨ SqT K H a (ns.map V.int)) ∧ Q (.int ns.sum) H
section
variable {X : Cx}
theorem cr_sumA (hc : X.calm = true) : CallR X (.builtin "sum") (rSumA X.K) := by
  intro pins s σ H vs us Q I r h
  obtain ⟨a, ns, rfl, hs | hs, q⟩ := h
  · exact cr_sum hc pins s σ H _ us Q I r ⟨a, ns, rfl, hs, q⟩
  · obtain ⟨its, rv, hl, _⟩ := I.tuple hs
    rw [Vals.ref1 r]
    have hi := rv.ints
    obtain ⟨xs, e⟩ := hi.allInts.items
    have hn : numsOf (intItems xs).toList = ns := by rw [← e]; exact hi.numsOf
    rw [nums_intItems] at hn
    have hl : s.heap.IsTuple a its.toArray := hl
    rw [e] at hl
    refine sum_intTup (I.ok.hd hc) hl fun h' tk t' hk => ⟨.int ns.sum, H, I.kept hk, ⟨t', ?_⟩, q⟩
    rw [preSum_eq, List.take_of_length_le (by simp), hn]
/-- a tuple once -/
theorem tuple_mul1 (l : Addr) (items : Array Value) (n : Nat) (dd : Option Addr) (sl : Array (Option Value)) (u : Tok) :
    Meets (Builtin.«tuple.__mul__» ⟨[.ref l, .int 1 u], []⟩) (fun _ R s => s.heap.get? l = some { cls := .type "tuple", dict := dd, data := .seq items n, slots := sl } ∧ R (.ok (.ret (Value.ref l))) s) :=
  .of_wp fun prog w A R s h => by
    obtain ⟨hp, g, d, tk, os⟩ := s
    obtain ⟨hl, h⟩ := h
    have f1 := AutoSeq1.idx_int
    wp_walk using wpAny_loadPart' hl
    repeat (first
      | (refine wpAny_ite_true (by simp) ?_; wp_walk using wpAny_loadPart' hl)
      | (refine wpAny_ite_false (by simp) ?_; wp_walk using wpAny_loadPart' hl))
    exact ⟨_, rfl, h⟩
def rRep1 (K : PySem.W.Frag) : R2 := fun x y H Q => ∃ l xs, x = .ref l ∧ y = .int 1 ∧ SqT K H l xs ∧ Q (.ref l) H
theorem op_rep1 : OpR X (binaryOp .Mult) (rRep1 X.K) := by
  intro pins s σ H x y v u Q I rx ry h
  obtain ⟨l, xs, rfl, rfl, hT, q⟩ := h
  cases rx
  obtain ⟨t, rfl⟩ := ry
  obtain ⟨its, r, ⟨⟨cls, dd, data, sl⟩, ho, hc, n, hd⟩, hs⟩ := I.tuple hT
  simp only at hc hd
  subst hc hd
  exact wpAny_binaryOp_repeat_ref (T := "tuple") (U := "int") (by decide) ⟨_, ho, rfl⟩ (fun s' => typeIs_int s' 1 t) noFill_tuple_mul F.fills_int_mul F.slot_int_rmul repeat_tuple F.slot_int_index.lookup
    (call_meets F.slot_int_rmul (typeIs_int s 1 t) F.entry_int_rmul (F.args_int_rmul_2 _ _) (int_rmul_tuple 1 t l its.toArray n dd sl)
      ⟨ho, rfl, ⟨_, ho, rfl⟩, call_meets F.slot_tuple_mul ⟨_, ho, rfl⟩ F.entry_tuple_mul (F.args_tuple_mul_2 _ _) (tuple_mul1 l its.toArray n dd sl t) ⟨ho, ⟨.ref l, H, I, rfl, q⟩⟩⟩)
end
section
variable {K : PySem.W.Frag} {c : Cc}
theorem ops_repT : OpS K c (fun x y H Q => rRep1 K x y H Q ∨ rRepT K x y H Q) gRepT := by
  intro f W I H σ env Q x y d e r rx ry h
  unfold gRepT at h
  split at h
  · rename_i l k
    by_cases hl : l ≠ [] ∧ 1 ≤ k ∧ k ≤ 1000 ∧ l.length ≤ 1000
    · rw [if_pos hl] at h
      cases id rx with
      | @tup p xs _ hq hr =>
        cases ry
        have hq' := same_t (K := K) r.sub hq
        by_cases hk : k = 1
        · subst hk
          have e1 : (List.replicate (1 : Int).toNat l).flatten = l := by simp
          rw [e1] at h
          exact .inl ⟨_, _, rfl, rfl, hq', PostR.now h r rx⟩
        · refine .inr ⟨_, _, _, rfl, rfl, hq', fun z => hl.1 (by
            have := hr.length
            rw [z] at this
            exact List.eq_nil_of_length_eq_zero this.symm), by omega, hl.2.2.1, by rw [hr.length]; exact hl.2.2.2, fun q hp => ?_⟩
          have sI : Same I (upd I q (.tup (List.replicate k.toNat xs).flatten)) := same_new (r.Inone hp)
          exact h _ _ sI (r.new hp) _ (.tup (.inl (.inl upd_same)) ((rep_rds hr _).mono sI))
    · rw [if_neg hl] at h; exact h.elim
  · exact h.elim
theorem opc_sumA : OpC K c (rSumA K) gSumA := by
  intro f W I H σ env Q vs ds r rvs h
  unfold gSumA at h
  split at h
  · rename_i l
    obtain ⟨v, rfl, rv⟩ := rds1 rvs
    cases e : intsO l with
    | none => rw [e] at h; exact h.elim
    | some ns =>
      rw [e] at h
      have el := ints_eq e
      subst el
      cases rv with
      | lst hq hr =>
        have := hr.ints
        subst this
        exact ⟨_, ns, rfl, .inl (sqL_of r.sub hq), PostR.now h r (.int _)⟩
  · rename_i l
    obtain ⟨v, rfl, rv⟩ := rds1 rvs
    cases e : intsO l with
    | none => rw [e] at h; exact h.elim
    | some ns =>
      rw [e] at h
      have el := ints_eq e
      subst el
      cases rv with
      | tup hq hr =>
        have := hr.ints
        subst this
        exact ⟨_, ns, rfl, .inr (same_t r.sub hq), PostR.now h r (.int _)⟩
  · exact h.elim
theorem rds3 {cl : Nat → Addr} {I : Hp} {vs : List V} {d e f : D} (h : RDs K cl I vs [d, e, f]) : ∃ v u w, vs = [v, u, w] ∧ RD K cl I v d ∧ RD K cl I u e ∧ RD K cl I w f := by
  cases h with
  | cons h r =>
    obtain ⟨u, w, rfl, h2, h3⟩ := rds2 r
    exact ⟨_, u, w, rfl, h, h2, h3⟩
theorem nu_min3 (i j k : Int) : nuMin3 (.int i) (.int j) (.int k) = some (.int (if k < (if j < i then j else i) then k else if j < i then j else i)) := by
  have h2 : ∀ a b : Int, nuMin2 (.int a) (.int b) = some (.int (if b < a then b else a)) := fun a b => by
    unfold nuMin2 nuLt nuCB
    by_cases h : b < a <;> simp [h]
  unfold nuMin3
  rw [h2, Option.bind_some, h2]
theorem opc_min3 : OpC K c (rNuC3 nuMin3) gMin3 := by
  intro f W I H σ env Q vs ds r rvs h
  unfold gMin3 at h
  split at h
  · rename_i i j k
    obtain ⟨v, u, w, rfl, rv, ru, rw'⟩ := rds3 rvs
    cases rv; cases ru; cases rw'
    exact ⟨_, _, _, _, rfl, nu_min3 i j k, PostR.now h r (.int _)⟩
  · exact h.elim
theorem rngDn_get {lo : Int} {n i : Nat} {d : D} (h : (rngDn lo n)[i]? = some d) : i < n ∧ d = .int (lo - (i : Int)) := by
  unfold rngDn at h
  rw [List.getElem?_map] at h
  cases e : (List.range n)[i]? with
  | none => rw [e] at h; cases h
  | some k =>
    rw [e] at h
    obtain ⟨hl, ek⟩ := List.getElem?_eq_some_iff.mp e
    rw [List.getElem_range] at ek
    subst ek
    rw [List.length_range] at hl
    exact ⟨hl, (Option.some.inj h).symm⟩
theorem itok_rngDn {I : Hp} {lo : Int} {n : Nat} : ItOk K c (Itc lo (-1) n) I (rngDn lo n) := by
  intro f I' H' σ env s r
  refine ⟨fun i hi => by rw [show (rngDn lo n).length = n by simp [rngDn]] at hi; exact hi, fun i d e => ?_⟩
  obtain ⟨hl, rfl⟩ := rngDn_get e
  refine ⟨hl, fun x Hn y => ?_⟩
  obtain ⟨rfl, rfl⟩ := y
  have e2 : lo + (i : Int) * (-1) = lo - (i : Int) := by omega
  rw [e2]
  exact ⟨I', Same.refl I', r, .int _, fun _ _ q => q, fun _ _ q => q⟩
end
section
variable {X : Cx} {c : Cc} {f : Fr} {W : WX} {pos p : Pos} {a b e e2 e3 tg : Expr} {m mb : ME} {ma : MA}
theorem me_neg (h : MEx X c f W a m) : MEx X c f W (.UnaryOp .USub a pos) (mUn gNeg m) := by
  obtain ⟨t, pt, s⟩ := h
  refine ⟨_, pe_un un_neg pt, fun I H σ env Q r h => ?_⟩
  refine s.bind r h fun d env1 I1 H1 v s1 r1 rv h1 => ?_
  cases rv <;> first | exact h1.elim | skip
  exact ⟨_, rfl, PostR.now h1 r1 (.int _)⟩
theorem me_repT (ha : MEx X c f W a m) (hb : MEx X c f W b mb) : MEx X c f W (.BinOp a .Mult b pos) (mBin gRepT m mb) := me_bin (op_rep1.or op_repT) ops_repT ha hb
theorem me_sumA (hm : X.mg "sum" = none) (ha : MAx X c f W [e] ma) (hc : X.calm = true := by rfl) (hg : Gl X "sum" := by rfl) (he : starEach [e] X.env = (false, eval e X.env) :: starEach [] X.env := by rfl) : MEx X c f W (.Call (.Name "sum" p) [e] [] pos) (mCall gSumA ma) := me_callB (cr_sumA hc) opc_sumA hg hm (by decide +kernel) ha (he := he)
theorem me_min3 (hm : X.mg "min" = none) (ha : MAx X c f W [e, e2, e3] ma) (hc : X.calm = true := by rfl) (hg : Gl X "min" := by rfl) (he : starEach [e, e2, e3] X.env = (false, eval e X.env) :: starEach [e2, e3] X.env := by rfl) (hpl : (backTo pos (starEach [e2, e3] X.env)).any (·.1) = false := by rfl) :
    MEx X c f W (.Call (.Name "min" p) [e, e2, e3] [] pos) (mCall gMin3 ma) := me_callB (call_min3Nu hc) opc_min3 hg hm (by decide +kernel) ha (he := he) (hpl := hpl)
theorem mi_rangeDn (hm : X.mg "range" = none) (h : MAx X c f W [e, e2, e3] ma) (hg : Gl X "range" := by rfl) (hs : starEach [e, e2, e3] X.env = (false, eval e X.env) :: starEach [e2, e3] X.env := by rfl) (hpl : (backTo pos (starEach [e2, e3] X.env)).any (·.1) = false := by rfl) :
    MIx X c f W tg (.Call (.Name "range" p) [e, e2, e3] [] pos) (mItC gRngDn ma) := by
  obtain ⟨t, pt, s⟩ := h
  refine ⟨_, pi_range3 hg hm pt hs hpl, fun I H σ env Rr r h => ?_⟩
  refine s.bind r h fun ds env1 I1 H1 vs s1 r1 rvs h1 => ?_
  unfold gRngDn at h1
  split at h1
  · rename_i i j k
    obtain ⟨v, u, w, rfl, rv, ru, rw'⟩ := rds3 rvs
    cases rv; cases ru; cases rw'
    by_cases hj : k = -1 ∧ -1000000 ≤ i ∧ i ≤ 1000000 ∧ -1000000 ≤ j ∧ j ≤ 1000000
    · rw [if_pos hj] at h1
      obtain ⟨rfl, h2, h3, h4, h5⟩ := hj
      exact ⟨i, j, -1, _, rfl, RgC.neg (by omega) (by omega) (by omega) (by omega), h1 I1 H1 (Same.refl I1) r1 _ itok_rngDn⟩
    · rw [if_neg hj] at h1; exact h1.elim
  · exact h1.elim
/-- a def that returns a new list -/
def sRetO (m : ML) : Env → FRO := fun env => match m env with
  | .ok l _ => .ok l
  | _ => .stuck
end
end Y

set_option Elab.async false
set_option linter.all false
set_option maxRecDepth 100000
set_option maxHeartbeats 2000000
namespace Y
open PySem PySem.Spec PyProof.Rows L2

/-! ### a body that ends in a new list -/
abbrev OX := Env → FRO
def PostO (K : PySem.W.Frag) (c : Cc) (f : Fr) (D : Ends) (I : Hp) : FRO → Prop
  | .ok l => ∀ I' H' σ' env' p vs, Same I I' → Rst K c f I' H' σ' env' → RDs K c.cl I' vs l → H' p = some (.lst vs) → I' p = none → f.H0 p = none → D.rt (.ref p) H'
  | .stuck => False
def SimOx (K : PySem.W.Frag) (c : Cc) (f : Fr) (t : TS) (m : OX) : Prop := ∀ (I H : Hp) (σ : L2.St) (env : Env) (D : Ends), Rst K c f I H σ env → PostO K c f D I (m env) → t D σ H
def MBOx (X : Cx) (c : Cc) (f : Fr) (W : WX) (sts : List Stmt) (m : OX) : Prop := ∃ t, PSs X sts t ∧ SimOx X.K c f t m
def oSeq (a : SX) (b : OX) : OX := fun env => match a env with
  | .nx e => b e
  | _ => .stuck
section
variable {X : Cx} {c : Cc} {f : Fr} {W : WX} {pos : Pos} {st : Stmt} {rest : List Stmt} {e : Expr} {a : SX} {b : OX} {ml : ML}
theorem PostO.mono {K : PySem.W.Frag} {D : Ends} {I I' : Hp} {r : FRO} (s : Same I I') (h : PostO K c f D I r) : PostO K c f D I' r := by
  cases r with
  | ok l => exact fun I2 H2 σ2 e2 p vs s2 => h I2 H2 σ2 e2 p vs (s.trans s2)
  | stuck => exact h
theorem mbo_ret (h : MLx X c f W e ml) : MBOx X c f W [.Return (some e) pos] (sRetO ml) := by
  obtain ⟨t, p, s⟩ := h
  refine ⟨_, pss_one (ps_ret p), fun I H σ env D r h => ?_⟩
  refine s I H σ env _ r ?_
  unfold sRetO at h
  cases em : ml env with
  | ok l e1 =>
    rw [em] at h
    exact fun I' H' s' r' p vs rv hp hI fr => h I' H' σ e1 p vs s' r' rv hp hI fr.h0
  | bad nm e1 => rw [em] at h; exact h.elim
  | stuck => rw [em] at h; exact h.elim
theorem mbo_cons (h : MSx X c f W st a) (h2 : MBOx X c f W rest b) : MBOx X c f W (st :: rest) (oSeq a b) := by
  obtain ⟨t, p, s⟩ := h
  obtain ⟨u, q, s'⟩ := h2
  refine ⟨_, pss_cons p q, fun I H σ env D r h => ?_⟩
  refine s I H σ env _ r ?_
  unfold oSeq at h
  cases ea : a env with
  | nx e1 => rw [ea] at h; exact fun I' H' σ' s1 r1 => s' I' H' σ' e1 D r1 (PostO.mono s1 h)
  | rt d e1 => rw [ea] at h; exact h.elim
  | bk e1 => rw [ea] at h; exact h.elim
  | ct e1 => rw [ea] at h; exact h.elim
  | bad nm e1 => rw [ea] at h; exact h.elim
  | stuck => rw [ea] at h; exact h.elim
end
def runO (n : Nat) (mb : OX) (ds : List D) : FRO := mb (ent n ds)
def BodO (P : Program) (w : World) (K : PySem.W.Frag) (mg : Str → Option Value) (base : Heap) (N : List Str) (qual : Str) (scope : Scope) (f : Addr) (k : Nat) (c : Cc) (body : List Stmt) (mb : OX) : Prop :=
  ∀ (cd : Value) (A : Around) (outer : List PySem.Env) (s : Shared) (H : Hp) (E : XK), Room k (cxB P w K mg base N qual scope f cd A outer s H E).A → CodeAt K f qual cd →
    ∀ (ni : Addr → Prop), MBOx (cxB P w K mg base N qual scope f cd A outer s H E) c (frP H ni) (WB E) body mb
section
variable {P : Program} {w : World} {K : PySem.W.Frag} {mg : Str → Option Value} {base : Heap} {k : Nat} {x qual : Str} {params : Arguments} {body : List Stmt} {scope : Scope} {f : Addr} {fd : FuncData} {N ps : List Str} {c : Cc}
theorem fnok_O {mb : OX} (F : FunD K x qual params body scope [] [] f fd) (S : FnScope N ps scope) (hb : BodO P w K mg base N qual scope f k c body mb) :
    FnOk P w K mg base (L2.CX P w) (k + 1) f fd ps (spO K c ps.length (runO N.length mb)) := by
  refine FunD.ok2 F S (fun vs H Q E ⟨_, _, h, _⟩ => h) fun cd A outer s H vs Q E hcd hr ⟨I, ds, hl, ah, rv, he⟩ => ?_
  obtain ⟨t, pt, st⟩ := hb cd A outer s H E hr hcd (fun a => I a = none ∧ H a ≠ none ∧ ¬ c.isT a)
  refine ⟨t, pt, st I H _ (ent N.length ds) _ (rst_start ah rv) ?_⟩
  unfold runO at he
  cases e : mb (ent N.length ds) with
  | ok l => rw [e] at he; exact fun I' H' σ' env' p vs s' r' rv hp hI h0 => he p vs I' H' (r'.after s') h0 hp rv hI
  | stuck => rw [e] at he; exact he.elim
end
section
variable {K : PySem.W.Frag} {c : Cc} {f : Fr} {W : WX} {I H : Hp} {σ : L2.St} {env : Env}
/-- a call that may change a list that is none of ours -/
theorem Rst.calledF (r : Rst K c f I H σ env) {p : Addr} (fr : Fresh f σ env p) {I' H' : Hp} (a : After K c (some p) I H I' H') : Rst K c f I' H' σ env := by
  refine ⟨a.sub, fun b o h n nt => ?_, a.t1, a.t2, a.it, r.len, fun i d e => ?_, fun i l e => ?_, r.nd, r.io0, fun b hb => ?_⟩
  · have hb : b ≠ p := fun z => by rw [z, fr.h0] at h; cases h
    exact a.fr0 b o (r.fr0 b o h n nt) (fun z => hb (Option.some.inj z).symm) nt
  · obtain ⟨v, h1, h2⟩ := r.va i d e
    exact ⟨v, h1, h2.mono a.sI⟩
  · obtain ⟨q, vs, h1, h2, h3, h4, h5⟩ := r.ow i l e
    have nt : ¬ c.isT q := fun z => by
      rcases z with z | ⟨y, z⟩
      · obtain ⟨ps, h, _⟩ := r.t1 _ z; rw [h2] at h; cases h
      · obtain ⟨ps, h, _⟩ := r.t2 _ z; rw [h2] at h; cases h
    have nq : (some p : Option Addr) ≠ some q := fun z => fr.no i l e (by rw [h1, Option.some.inj z])
    exact ⟨q, vs, h1, a.fr0 q _ h2 nq nt, h3.mono a.sI, a.ni q (by rw [h2]; simp) h4 nq nt, h5⟩
  · obtain ⟨n1, ⟨o, n2⟩, n3, n4⟩ := r.ni b hb
    have hH := r.fr0 b o n2 n3 n4
    have nb : (some p : Option Addr) ≠ some b := fun z => by rw [← Option.some.inj z, fr.h0] at n2; cases n2
    exact ⟨a.ni b (by rw [hH]; simp) n1 nb n4, ⟨o, n2⟩, n3, n4⟩
end
/-- f(g(..)): g makes a list that f may change -/
def mFnDO (n : Nat) (m1 : List D → FRO) (m2 : List D → List D → FRD) (a : MA) : ME := fun env => (a env).bind fun ds e => if ds.length = n then (match m1 ds with
  | .ok l => (match m2 l [] with
    | .ok d _ => .ok d e
    | .bad nm _ => .bad nm e
    | .stuck => .stuck)
  | .stuck => .stuck) else .stuck
section
variable {X : Cx} {c : Cc} {f : Fr} {W : WX} {p p2 pos pos2 : Pos} {k n : Nat} {x y : Str} {ps ps2 : List Str} {e : Expr} {es : List Expr} {ma : MA} {m1 : List D → FRO} {m2 : List D → List D → FRD}
theorem me_callDO (C1 : Cal X.prog X.w X.K X.mg X.base k y ps2 (spO X.K c n m1)) (C2 : Cal X.prog X.w X.K X.mg X.base k x ps (spD X.K c 1 m2)) (hr : Room k X.A) (hp : Pas X W) (ha : MAx X c f W (e :: es) ma)
    (hg : Gl X x := by rfl) (hg2 : Gl X y := by rfl) (hdb : (x == ("__debug__" : Str)) = false := by decide) (hdb2 : (y == ("__debug__" : Str)) = false := by decide) (he : starEach (e :: es) X.env = (false, eval e X.env) :: starEach es X.env := by rfl) (hpl : (backTo pos2 (starEach es X.env)).any (·.1) = false := by rfl)
    (he2 : starEach [.Call (.Name y p2) (e :: es) [] pos2] X.env = (false, eval (.Call (.Name y p2) (e :: es) [] pos2) X.env) :: starEach [] X.env := by rfl) (hpl2 : (backTo pos (starEach [] X.env)).any (·.1) = false := by rfl) :
    MEx X c f W (.Call (.Name x p) [.Call (.Name y p2) (e :: es) [] pos2] [] pos) (mFnDO n m1 m2 ma) := by
  obtain ⟨fa, fd, F, hm, hk, hb⟩ := C1.ex
  obtain ⟨fa2, fd2, F2, hm2, hk2, hb2⟩ := C2.ex
  obtain ⟨E, rfl, hx⟩ := hp
  obtain ⟨ta, pa, sa⟩ := ha
  refine ⟨_, pe_call F2 hr hg hm2 hk2 hb2 .nil hx (pa_cons (pe_call F hr hg2 hm hk hb .nil hx pa hdb2 he hpl) pa_nil he2) hdb he2 hpl2, fun I H σ env Q r h => ?_⟩
  refine sa.bind r h fun ds env1 I1 H1 vs s1 r1 rv h1 => ?_
  by_cases hl : ds.length = n
  case neg => rw [if_neg hl] at h1; exact h1.elim
  rw [if_pos hl] at h1
  rw [List.append_nil]
  refine ⟨I1, ds, rv.length.trans hl, r1.ahead, rv, ?_⟩
  cases e1 : m1 ds with
  | stuck => rw [e1] at h1; exact h1.elim
  | ok l =>
    rw [e1] at h1
    intro q xs I' H' af hq0 hq rl hI
    have fr := r1.fresh hq0
    have r2 := r1.called af
    refine ⟨I', q, [], xs, l, [], rfl, rfl, r2.ahead, hq, rl, hI, .nil, ?_⟩
    cases e2 : m2 l [] with
    | stuck => simp only [e2] at h1; exact h1.elim
    | ok d l2 =>
      simp only [e2] at h1
      exact fun v I2 H2 ys af2 rd _ _ _ => h1 I2 H2 (af.sI.trans af2.sI) (r2.calledF fr af2) v rd
    | bad nm l2 =>
      simp only [e2] at h1
      exact fun I2 H2 ys dx af2 hx2 _ _ _ => h1 I2 H2 dx (af.sI.trans af2.sI) (r2.calledF fr af2) hx2
end
end Y

set_option Elab.async false
set_option linter.all false
set_option maxRecDepth 100000
set_option maxHeartbeats 2000000
namespace Y
open PySem PySem.Spec PyProof.Rows L2

/-! ### one rule for +, one for * -/
def gAddA : D → D → Option D
  | .int i, .int j => some (.int (i + j))
  | .tup l, .tup m => if l.length + m.length ≤ big then some (.tup (l ++ m)) else none
  | .lst l, .lst m => if l.length + m.length ≤ big then some (.lst (l ++ m)) else none
  | .str l, .str m => if l.length + m.length ≤ big then some (.str (l ++ m)) else none
  | _, _ => none
def gMulA : D → D → Option D
  | .int i, .int j => if okMul i j then some (.int (i * j)) else none
  | .tup l, .int k => gRepT (.tup l) (.int k)
  | .lst l, .int k => (gRepL (.lst l) (.int k)).map .lst
  | _, _ => none
section
variable {K : PySem.W.Frag} {c : Cc}
/-- a rule for new lists gives one for known ones -/
theorem ops_fz {r : R2} {g : D → D → Option (List D)} (h : OpSL K c r g) : OpS K c r (fun d e => (g d e).map .lst) := by
  intro f W I H σ env Q x y d e rr rx ry hq
  refine h (W := W) rr rx ry ?_
  have hq : PostR K c f W σ (PQ K c Q) I (R.of (Option.map D.lst (g d e)) env) := hq
  cases eg : g d e with
  | none => rw [eg] at hq; exact hq.elim
  | some l =>
    rw [eg] at hq
    intro I' H' s' r' p vs rv hp hI fr
    exact hq _ H' (s'.trans (same_new hI)) (r'.know hp hI fr) _ (.lst upd_same (rv.mono (same_new hI)))
theorem ops_addA : OpS K c (fun x y H Q => (rI0 (fun i j => .int (i + j)) x y H Q ∨ rCatA K x y H Q) ∨ (rCat x y H Q ∨ ∃ i j, x = .str i ∧ y = .str j ∧ i.length + j.length ≤ sizeLine ∧ Q (.str (i ++ j)) H)) gAddA := by
  intro f W I H σ env Q x y d e r rx ry h
  unfold gAddA at h
  split at h
  · cases rx; cases ry
    exact .inl (.inl ⟨_, _, rfl, rfl, PostR.now h r (.int _)⟩)
  · exact .inl (.inr (ops_catT r rx ry h))
  · refine .inr (.inl (ops_fz opsl_catL (W := W) r rx ry ?_))
    rename_i l m
    have e1 : (gCatL (.lst l) (.lst m)).map D.lst = if l.length + m.length ≤ big then some (.lst (l ++ m)) else none := by
      show Option.map D.lst (if l.length + m.length ≤ big then some (l ++ m) else none) = _
      by_cases q : l.length + m.length ≤ big
      · rw [if_pos q, if_pos q]; rfl
      · rw [if_neg q, if_neg q]; rfl
    show PostR K c f W σ (PQ K c Q) I (R.of ((gCatL (.lst l) (.lst m)).map D.lst) env)
    rw [e1]; exact h
  · cases rx; cases ry
    rename_i l m
    by_cases q : l.length + m.length ≤ big
    · rw [if_pos q] at h
      exact .inr (.inr ⟨_, _, rfl, rfl, big_le q, PostR.now h r (.str _)⟩)
    · rw [if_neg q] at h; exact h.elim
  · exact h.elim
theorem ops_mulA : OpS K c (fun x y H Q => (rI (fun i j => i.natAbs.log2 + j.natAbs.log2 < 1000000) (fun i j => .int (i * j)) x y H Q ∨ (rRep1 K x y H Q ∨ rRepT K x y H Q)) ∨ rRep x y H Q) gMulA := by
  intro f W I H σ env Q x y d e r rx ry h
  unfold gMulA at h
  split at h
  · cases rx; cases ry
    rename_i i j
    by_cases q : okMul i j = true
    · rw [if_pos q] at h
      exact .inl (.inl ⟨_, _, rfl, rfl, of_decide_eq_true q, PostR.now h r (.int _)⟩)
    · rw [if_neg q] at h; exact h.elim
  · exact .inl (.inr (ops_repT (W := W) r rx ry h))
  · exact .inr (ops_fz opsl_repL (W := W) r rx ry h)
  · exact h.elim
end
section
variable {X : Cx} {c : Cc} {f : Fr} {W : WX} {pos p : Pos} {a b : Expr} {m mb : ME}
theorem me_addA (ha : MEx X c f W a m) (hb : MEx X c f W b mb) : MEx X c f W (.BinOp a .Add b pos) (mBin gAddA m mb) := me_bin ((op_add.or op_catA).or (op_cat.or op_add_str)) ops_addA ha hb
theorem me_mulA (ha : MEx X c f W a m) (hb : MEx X c f W b mb) : MEx X c f W (.BinOp a .Mult b pos) (mBin gMulA m mb) := me_bin ((op_mulW.or (op_rep1.or op_repT)).or op_rep) ops_mulA ha hb
/-- name = [..], the name a plain local that is not changed in place -/
theorem ms_setLcF {elt tg iter : Expr} {ifs : List Expr} {scope : Scope} {own : List (Str × Nat)} {is : List Nat} {mi : ML} {g : MG} {t : MT} (i : Nat) {y : Str} {py spos : Pos} (hi : MIx X c f W tg iter mi) (ok : BlkOk X.N X.env.scope scope own) (hg : BlkG X c scope is tg g) (ht : BlkT X c scope ifs t) (he : BlkE X c scope elt m) (hN : X.N.Nodup) (hv : ∀ i ∈ is, i ∈ own.map (·.2) := by decide)
    (hio : f.io = none ∨ 0 ∉ own.map (·.2) := by first | exact .inl rfl | exact .inr (by decide)) (hio2 : f.io = none ∨ i ≠ 0 := by first | exact .inl rfl | exact .inr (by decide)) (hc : X.calm = true := by rfl) (hs : ∀ x, foldedSetIterable iter X.env x = pure x := by intro _; rfl)
    (hy : X.N[i]? = some y := by rfl) (hyl : X.env.scope.names.lookup y = some .local := by rfl) (hsw : swapsWith (.ListComp elt [⟨tg, iter, ifs, 0⟩] scope pos) (some (.Name y py)) spos.line X.env = pure true := by exact sw_true rfl rfl rfl (by decide +kernel)) :
    MSx X c f W (.Assign [.Name y py] (.ListComp elt [⟨tg, iter, ifs, 0⟩] scope pos) spos) (sSet i (mFz (mLc mi g t m (own.map (·.2))))) := by
  obtain ⟨wi, pi, si⟩ := hi
  obtain ⟨g', pg, sg⟩ := hg
  obtain ⟨tt, pt, st⟩ := ht
  obtain ⟨te, pe, se⟩ := he
  refine ⟨_, ps_setLc hc hN hy hyl hsw pi ok pg pt pe hs, fun I H σ env D r h => ?_⟩
  have s := sim_fz (sim_lc (W := W) hv hio si sg st se)
  exact s.go r h fun d env1 I1 H1 v s1 r1 rv h1 => h1 I1 H1 _ (Same.refl I1) (r1.set hio2 rv)
end
section
variable {P : Program} {w : World} {K : PySem.W.Frag} {mg : Str → Option Value} {base : Heap} {N : List Str} {qual : Str} {scope : Scope} {f : Addr} {cd : Value} {A : Around} {outer : List PySem.Env} {s : Shared} {H : Hp} {E : XK}
theorem ownsB : PassesOwn (model (cxB P w K mg base N qual scope f cd A outer s H E).prog (cxB P w K mg base N qual scope f cd A outer s H E).w) (cxB P w K mg base N qual scope f cd A outer s H E).A (cxB P w K mg base N qual scope f cd A outer s H E).env (cxB P w K mg base N qual scope f cd A outer s H E).xe :=
  passes_of (X := cxB P w K mg base N qual scope f cd A outer s H E) (K := fun e s'' => L2.CX P w outer H s E e s'') (E₁ := fun e' s'' => L2.CX P w outer H s E e' s'') rfl
theorem pasB : Pas (cxB P w K mg base N qual scope f cd A outer s H E) (WB E) := Pas.of takesB
theorem pasL {X : Cx} {E : XK} {scope : Scope} {k : Nat} {i : LamI X scope k} : Pas (lamX X scope E i) (WB E) := Pas.of takesL
end
end Y

set_option Elab.async false
set_option linter.all false
set_option maxRecDepth 100000
set_option maxHeartbeats 2000000
namespace Y
open PySem PySem.Spec PyProof.Rows L2
open PySem.W (clsIn findIn subIn nsIn typeIn keepIn codeIn mroIn)

/-! ### what the head must tell of BadArgument -/
def bodyQ : FuncBody → Option (Str × List Pos × List Nat)
  | .stmts [.Expr (.Call (.Attribute (.Call (.Name n0 p0) [] [] p1) n1 p2) [.BinOp (.Constant (.str pr) k0 p3) .Add (.Name n2 p4) p5] [] p6) p7, .Assign [.Attribute (.Name n3 p8) n4 p9] (.Name n5 p10) p11] =>
    if n0 = "super" ∧ n1 = "__init__" ∧ n2 = "name" ∧ n3 = "self" ∧ n4 = "name" ∧ n5 = "name" ∧ (p2.endLine == p6.line) = true then some (pr, [p0, p1, p2, p3, p4, p5, p6, p7, p8, p9, p10, p11], [k0]) else none
  | _ => none
theorem bodyQ_ok {b : FuncBody} {pre : Str} {q : List Pos} {ks : List Nat} (h : bodyQ b = some (pre, q, ks)) : b = .stmts (initBody pre q ks) ∧ ((q.getD 2 ⟨0, 0, 0, 0⟩).endLine == (q.getD 6 ⟨0, 0, 0, 0⟩).line) = true := by
  unfold bodyQ at h
  split at h
  · split at h
    · rename_i hc
      obtain ⟨rfl, rfl, rfl, rfl, rfl, rfl, hl⟩ := hc
      cases h
      exact ⟨rfl, hl⟩
    · cases h
  · cases h
def parsQ : Arguments → Bool
  | { posonlyargs := [], args := [{ arg := x, annotation := none, pos := _ }, { arg := y, annotation := none, pos := _ }], vararg := none, kwonlyargs := [], kw_defaults := [], kwarg := none, defaults := [] } => decide (x = "self") && decide (y = "name")
  | _ => false
theorem parsQ_ok {a : Arguments} (h : parsQ a = true) : ∃ a1 a2, a = { posonlyargs := [], args := [{ arg := "self", annotation := none, pos := a1 }, { arg := "name", annotation := none, pos := a2 }], vararg := none, kwonlyargs := [], kw_defaults := [], kwarg := none, defaults := [] } := by
  unfold parsQ at h
  split at h
  · obtain ⟨h1, h2⟩ := Bool.and_eq_true_iff.mp h
    obtain rfl := of_decide_eq_true h1
    obtain rfl := of_decide_eq_true h2
    exact ⟨_, _, rfl⟩
  · cases h
def scopQ (s : Scope) : Bool := decide (s.kind = .function) && (!s.isCoroutine && (!s.isGenerator && ((s.names.all fun y => !decide (y.2 = .cell)) && (decide (s.names.lookup ("super" : Str) = some .globalImplicit) && (decide (s.names.lookup ("__class__" : Str) = some .free) &&
  (decide (s.names.lookup ("self" : Str) = some .local) && decide (s.names.lookup ("name" : Str) = some .local)))))))
def fileQ (K : PySem.W.Frag) (cda : Addr) (file : Str) : Bool := match K.lookup cda with
  | some ⟨_, _, .fields vs, _⟩ => (match vs[2]? with
    | some (Value.str z _) => decide (z = file)
    | _ => false)
  | _ => false
def cellQ (K : PySem.W.Frag) (cc C : Addr) : Bool := match K.lookup cc with
  | some ⟨_, _, .cell (some (.ref D)), _⟩ => D == C
  | _ => false
def initQ (K : PySem.W.Frag) (C fI : Addr) (pre file : Str) : Bool := match K.lookup fI with
  | some ⟨_, _, .func fd, _⟩ => decide (fd.name = "__init__") && (parsQ fd.params && (scopQ fd.scope && (decide (fd.globals = mainGlobals) && (decide (fd.builtins = builtinsNs) && ((match fd.defaults with
      | .none => true
      | _ => false) && ((match bodyQ fd.body with
      | some (pr, _, _) => decide (pr = pre)
      | none => false) && ((match fd.closure with
      | [(x, cc)] => decide (x = "__class__") && cellQ K cc C
      | _ => false) && (match fd.code with
      | .ref cda => codeIn K (.ref cda) fd.qualname && fileQ K cda file
      | _ => false))))))))
  | _ => false
def oexQ (K : PySem.W.Frag) (C : Addr) : Bool := match K.lookup C with
  | some ⟨.type T, _, .cls cd, sl⟩ => (match cd.mro, sl.toList with
    | .ref C' :: bm, [_, _, _, _, some (.builtin n), _] => decide (T = "type") && (decide (C' = C) && (decide (n = "ValueError.__new__") && (!cd.hasDel && (cd.hasDict && HandSPX.refsVE bm))))
    | _, _ => false)
  | _ => false
def supB (bad pre file : Str) (K : PySem.W.Frag) : Bool := initQ K (He.ga K bad) (He.ma K (He.ga K bad) "__init__") pre file && (oexQ K (He.ga K bad) && (He.eqO (findIn K (.ref (He.ga K bad)) "__setattr__") (some (some (.builtin "object.__setattr__"))) &&
  (decide (subIn K (.ref (He.ga K bad)) (.type "BaseException") = some true) && (decide (typeIn K (.ref (He.ga K bad)) = some (.type "type")) && (keepIn K (.ref (He.ga K bad)) && (decide (mroIn K (He.ga K bad) (.ref (He.ga K bad)) = some true) &&
  (He.eqO (PySem.W.ks_superIn K (He.ga K bad) (He.ga K bad) "__init__") (some (some (.builtin "ValueError.__init__"))) && (decide (subIn K (.ref (He.ga K bad)) (.type "ValueError") = some true) && (He.eqO (nsIn K cStatics "thirdparty.any") (some none) &&
  (He.eqO (findIn K (.ref (He.ga K bad)) "name") (some none) && (He.eqO (findIn K (.ref (He.ga K bad)) "__init__") (some (some (.ref (He.ma K (He.ga K bad) "__init__")))) && (decide (typeIn K (.ref (He.ma K (He.ga K bad) "__init__")) = some (.type "function")) &&
  (xfB K (He.ga K bad) && decide (PySem.W.exmOne K (.ref (He.ga K bad)) (.ref (He.ga K bad)) = some true))))))))))))))
theorem oexQ_ok {K : PySem.W.Frag} {C : Addr} (h : oexQ K C = true) : ∃ nm q N bs bm sn sub ab col dd k0 k1 k2 k3 k5, K.lookup C = some (excClassObj nm q C N bs bm true sn sub ab col dd k0 k1 k2 k3 k5 "ValueError.__new__") ∧ PySem.HandSPX.refsVE bm = true := by
  unfold oexQ at h
  split at h
  · rename_i T dd cd sl ho
    split at h
    · rename_i C' bm k0 k1 k2 k3 n k5 hm hs
      obtain ⟨h1, h⟩ := Bool.and_eq_true_iff.mp h
      obtain ⟨h2, h⟩ := Bool.and_eq_true_iff.mp h
      obtain ⟨h3, h⟩ := Bool.and_eq_true_iff.mp h
      obtain ⟨h4, h⟩ := Bool.and_eq_true_iff.mp h
      obtain ⟨h5, h6⟩ := Bool.and_eq_true_iff.mp h
      obtain rfl := of_decide_eq_true h1
      obtain rfl := of_decide_eq_true h2
      obtain rfl := of_decide_eq_true h3
      obtain ⟨nm, bs, mro, ns, qn, hd, sn, sub, ab, col, del⟩ := cd
      dsimp only at hm h4 h5
      subst hm h5
      have hdel : del = false := by cases del <;> first | rfl | (cases h4)
      subst hdel
      have hsl : sl = #[k0, k1, k2, k3, some (.builtin "ValueError.__new__"), k5] := by
        obtain ⟨l⟩ := sl
        simp only at hs
        rw [hs]
      subst hsl
      exact ⟨nm, qn, ns, bs, bm, sn, sub, ab, col, dd, k0, k1, k2, k3, k5, ho, h6⟩
    · cases h
  · cases h
theorem supB_ok {P : Program} {K : PySem.W.Frag} {mg : Str → Option Value} {bad pre file : Str} (hf : (P.main.file == file) = true) (ht : (P.main.scope.names.lookup ("super" : Str)).isSome = false) (hg : mg "super" = none) (hs : pre.length ≤ 100) (h : supB bad pre file K = true) :
    (∃ fI fd, SupOk P K mg pre (He.ga K bad) fI fd) ∧ XfC K (He.ga K bad) ∧ PySem.W.exmOne K (.ref (He.ga K bad)) (.ref (He.ga K bad)) = some true := by
  unfold supB at h
  obtain ⟨h1, h⟩ := Bool.and_eq_true_iff.mp h
  obtain ⟨h2, h⟩ := Bool.and_eq_true_iff.mp h
  obtain ⟨h3, h⟩ := Bool.and_eq_true_iff.mp h
  obtain ⟨h4, h⟩ := Bool.and_eq_true_iff.mp h
  obtain ⟨h5, h⟩ := Bool.and_eq_true_iff.mp h
  obtain ⟨h6, h⟩ := Bool.and_eq_true_iff.mp h
  obtain ⟨h7, h⟩ := Bool.and_eq_true_iff.mp h
  obtain ⟨h8, h⟩ := Bool.and_eq_true_iff.mp h
  obtain ⟨h9, h⟩ := Bool.and_eq_true_iff.mp h
  obtain ⟨h10, h⟩ := Bool.and_eq_true_iff.mp h
  obtain ⟨h11, h⟩ := Bool.and_eq_true_iff.mp h
  obtain ⟨h12, h⟩ := Bool.and_eq_true_iff.mp h
  obtain ⟨h13, h⟩ := Bool.and_eq_true_iff.mp h
  obtain ⟨h14, h15⟩ := Bool.and_eq_true_iff.mp h
  refine ⟨?_, xfB_ok h14, of_decide_eq_true h15⟩
  generalize He.ma K (He.ga K bad) "__init__" = fI at *
  generalize He.ga K bad = C at *
  unfold initQ at h1
  split at h1
  · rename_i oc od fd osl lk
    obtain ⟨n1, n2, n3, n4, n5, n6, n7, n8, n9, n10, n11, n12, n13, n14, n15⟩ := fd
    simp only at h1
    obtain ⟨g1, t1⟩ := Bool.and_eq_true_iff.mp h1
    obtain ⟨g2, t2⟩ := Bool.and_eq_true_iff.mp t1
    obtain ⟨g3, t3⟩ := Bool.and_eq_true_iff.mp t2
    obtain ⟨g4, t4⟩ := Bool.and_eq_true_iff.mp t3
    obtain ⟨g5, t5⟩ := Bool.and_eq_true_iff.mp t4
    obtain ⟨g6, t6⟩ := Bool.and_eq_true_iff.mp t5
    obtain ⟨g7, t7⟩ := Bool.and_eq_true_iff.mp t6
    obtain ⟨g8, g9⟩ := Bool.and_eq_true_iff.mp t7
    clear h1 t1 t2 t3 t4 t5 t6 t7
    obtain rfl := of_decide_eq_true g1
    obtain ⟨a1, a2, rfl⟩ := parsQ_ok g2
    obtain rfl := of_decide_eq_true g4
    obtain rfl := of_decide_eq_true g5
    have e8 : n8 = .none := by
      cases n8 <;> first | rfl | (cases g6)
    subst e8
    cases hb : bodyQ n4 with
    | none => rw [hb] at g7; cases g7
    | some z =>
      obtain ⟨pr, q, ks⟩ := z
      rw [hb] at g7
      have g7 : decide (pr = pre) = true := g7
      obtain rfl := of_decide_eq_true g7
      obtain ⟨rfl, hline⟩ := bodyQ_ok hb
      split at g8
      · rename_i x cc
        obtain ⟨e1, e2⟩ := Bool.and_eq_true_iff.mp g8
        obtain rfl := of_decide_eq_true e1
        cases n13 with
        | ref cda =>
          obtain ⟨e3, e4⟩ := Bool.and_eq_true_iff.mp (show (codeIn K (.ref cda) n2 && fileQ K cda file) = true from g9)
          unfold fileQ at e4
          split at e4
          · rename_i ccl cdd vs ccs lc
            split at e4
            · rename_i z tf hvs
              obtain rfl := of_decide_eq_true e4
              unfold cellQ at e2
              split at e2
              · rename_i cl cld D csl lcc
                obtain rfl := beq_iff_eq.mp e2
                unfold scopQ at g3
                simp only [Bool.and_eq_true, Bool.not_eq_true', decide_eq_true_eq, List.all_eq_true, decide_eq_false_iff_not] at g3
                obtain ⟨s1, s2, s3, s4, s5, s6, s7, s8⟩ := g3
                refine ⟨fI, _, ⟨⟨oc, od, osl, n2, _, n5, n9, n10, n11, n12, cda, n14, cc, q, ks, ccl, cdd, ccs, vs, _, tf, cl, cld, csl, a1, a2, rfl, hline, lk, e3, lc, hvs, hf, lcc, rfl, s1, s2, s3, s4, s5, s6, s7, s8⟩,
                  ⟨oexQ_ok h2, He.eqO_ok h3, of_decide_eq_true h4, of_decide_eq_true h5, h6⟩, of_decide_eq_true h7, He.eqO_ok h8, of_decide_eq_true h9, He.eqO_ok h10, ht, hg, He.eqO_ok h11, He.eqO_ok h12, of_decide_eq_true h13, hs⟩⟩
              · cases e2
            · cases e4
          · cases e4
        | _ => cases g9
      · cases g8
  · cases h1

/-! ### defs as the head tells them -/
structure FactD (K : PySem.W.Frag) (mg : Str → Option Value) (x : Str) (st : Stmt) : Prop where
  ex : ∃ fd, FunD K x x (defArgs st) (defBody st) (defScope st) [] [] (He.ga K x) fd
  glo : mg x = some (.ref (He.ga K x))
/-- the datum of a top-level def -/
abbrev dOf (x : Str) (st : Stmt) : He.DefD := ⟨(x, none), x, x, defArgs st, defBody st, defScope st, [], []⟩
theorem code_at {K : PySem.W.Frag} {x : Str} {cd : Value} (h : CodeAt K (He.ga K x) x cd) : cd = .ref (He.cT K (x, none)).1 := by
  obtain ⟨oc, od, fd, osl, lk, e, hc⟩ := h
  obtain ⟨c, rfl⟩ := He.codeIn_ref hc
  have : He.codeOf K (x, none) = c := He.codeOf_eq (p := (x, none)) lk e
  show Value.ref c = .ref (He.codeOf K (x, none))
  rw [this]
section
variable {P : Program} {w : World} {K : PySem.W.Frag} {mg : Str → Option Value} {base : Heap} {k : Nat} {x : Str} {st : Stmt} {N ps : List Str} {c : Cc} {mb : SX}
def BindsN (x : Str) (st : Stmt) (ps : List Str) : Prop := ∀ (kV doc pm : Value) (an : Option Addr) (cdv ct : Value) (us : List Value), us.length = ps.length → bindArgs (PySem.W.fnOf x x (defArgs st) (defBody st) (defScope st) .none kV doc pm an cdv ct) ⟨us, []⟩ = pure (ps.zip us)
def BindsK (x : Str) (st : Stmt) (ps : List Str) (n : Nat) (ks : List Str) : Prop := ∀ (kV doc pm : Value) (an : Option Addr) (cdv ct : Value) (us ws : List Value), us.length = n → ws.length = ks.length → bindArgs (PySem.W.fnOf x x (defArgs st) (defBody st) (defScope st) .none kV doc pm an cdv ct) ⟨us, ks.zip ws⟩ = pure (ps.zip (us ++ ws))
theorem cal_P (D : FactD K mg x st) (S : FnScope N ps (defScope st)) (hb : BindsN x st ps) (b : Bod P w K mg base N x (defScope st) (He.ga K x) k c false (defBody st) mb) : Cal P w K mg base (k + 1) x ps (spP K c ps.length (runF N.length mb)) := by
  obtain ⟨fd, F⟩ := D.ex
  exact ⟨_, fd, fnok_P F S b, D.glo, F.kp, F.bindsN hb⟩
theorem cal_D (D : FactD K mg x st) (S : FnScope N ps (defScope st)) (hb : BindsN x st ps) (b : Bod P w K mg base N x (defScope st) (He.ga K x) k c true (defBody st) mb) : Cal P w K mg base (k + 1) x ps (spD K c ps.length (runD N.length mb)) := by
  obtain ⟨fd, F⟩ := D.ex
  exact ⟨_, fd, fnok_D F S b, D.glo, F.kp, F.bindsN hb⟩
theorem cal_O {mo : OX} (D : FactD K mg x st) (S : FnScope N ps (defScope st)) (hb : BindsN x st ps) (b : BodO P w K mg base N x (defScope st) (He.ga K x) k c (defBody st) mo) : Cal P w K mg base (k + 1) x ps (spO K c ps.length (runO N.length mo)) := by
  obtain ⟨fd, F⟩ := D.ex
  exact ⟨_, fd, fnok_O F S b, D.glo, F.kp, F.bindsN hb⟩
theorem cal_K {n : Nat} {ks : List Str} (D : FactD K mg x st) (S : FnScope N ps (defScope st)) (hb : BindsK x st ps n ks) (b : Bod P w K mg base N x (defScope st) (He.ga K x) k c false (defBody st) mb) : CalK P w K mg base (k + 1) x ps (spP K c ps.length (runF N.length mb)) n ks := by
  obtain ⟨fd, F⟩ := D.ex
  exact ⟨_, fd, fnok_P F S b, D.glo, F.kp, FunD.kbn F hb⟩
/-- nobody can use it: the ground of a recursion -/
theorem cal_0 (D : FactD K mg x st) (hb : BindsN x st ps) : Cal P w K mg base 0 x ps (spP K c ps.length fun _ => .stuck) := by
  obtain ⟨fd, F⟩ := D.ex
  exact ⟨_, fd, fnok_stuck, D.glo, F.kp, F.bindsN hb⟩
end
/-- the tables of code objects -/
structure FactT (K : PySem.W.Frag) (mg : Str → Option Value) (base : Heap) (x : Str) : Prop where
  tb : GxR.TabB base mg (He.cT K (x, none)).1 (He.cT K (x, none)).2

/-! ### the end -/
section
variable {l : PySem.W.OpenLaw} {w : World} {K : PySem.W.Frag} {mg : Str → Option Value} {k : Nat} {c : Cc}
/-- the start of the law: the script and the empty tables -/
theorem law_start {cs : List (Addr × Addr)} {H : Hp} {a : Addr} {ns : List Int} {m : List D → FR} (h1 : ∀ P ∈ c.T1, ∃ q, (q, P) ∈ cs) (h2 : ∀ p ∈ c.T2, ∃ q, (q, p.1) ∈ cs) (hT : ∀ p ∈ cs, H p.2 = some (.tbl #[])) (hS : SqL K H a (ns.map V.int))
    (hm : m [.scr (ns.map D.int)] = .ok (.bl true)) : spP K c 1 m [.ref a] H (fun v _ => v = .bl true) fun _ _ _ => False := by
  classical
  have tbl : ∀ b, c.isT b → H b = some (.tbl #[]) := fun b hb => by
    rcases hb with hb | ⟨q, hb⟩
    · obtain ⟨q, hq⟩ := h1 b hb; exact hT _ hq
    · obtain ⟨q', hq⟩ := h2 _ hb; exact hT _ hq
  refine ⟨fun b => if c.isT b then none else H b, [.scr (ns.map D.int)], rfl, ⟨fun b o e => ?_, fun P hP => ⟨#[], tbl P (.inl hP), trivial⟩, fun p hp => .nil (tbl p.1 (.inr ⟨p.2, hp⟩)), fun b hb => if_pos hb⟩, ?_, ?_⟩
  · by_cases hb : c.isT b
    · simp only [if_pos hb] at e; cases e
    · simp only [if_neg hb] at e; exact e
  · refine .cons (.scr ?_ (RDs.of_ints ns)) .nil
    rcases hS with (h | ⟨o, h⟩) | h
    · refine .inl (.inl ?_)
      have nb : ¬ c.isT a := fun z => by rw [tbl a z] at h; cases h
      show (if c.isT a then none else H a) = _
      rw [if_neg nb]; exact h
    · refine .inl (.inr ⟨o, ?_⟩)
      have nb : ¬ c.isT a := fun z => by rw [tbl a z] at h; cases h
      show (if c.isT a then none else H a) = _
      rw [if_neg nb]; exact h
    · exact .inr h
  · rw [hm]
    intro v I' H' _ rv
    cases rv
    rfl
theorem cx_end {P : Program} {w : World} (H : Hp) (s : Shared) (e : Value) (s' : Shared) : L2.CX P w [] H s (fun _ _ _ => False) e s' → False := fun ⟨_, _, _, _, _, _, _, _, _, _, _, _, h⟩ => h
end
end Y

set_option Elab.async false
set_option linter.all false
namespace Y
open PySem PySem.Spec PyProof.Rows L2
theorem hxs_by {N xs : List Str} {vs : List Nat} (h : ((List.range N.length).all fun i => match N[i]? with | some y => !xs.contains y || vs.contains i | none => true) = true) : ∀ i y, N[i]? = some y → y ∈ xs → i ∈ vs := by
  intro i y hi hy
  have hl : i < N.length := by
    rcases Nat.lt_or_ge i N.length with g | g
    · exact g
    · rw [List.getElem?_eq_none_iff.2 g] at hi; exact absurd hi nofun
  have h1 := (List.all_eq_true.1 h) i (List.mem_range.2 hl)
  rw [hi] at h1
  simp only [List.contains_eq_mem, hy, decide_true, Bool.not_true, Bool.false_or, decide_eq_true_eq] at h1
  exact h1

/-! ### the head's Hook, the statics' own namespace looked at too -/
section
variable (n : Nat) (fa : List He.Fa) (fn : List He.DefD) (tf : List He.Defn) (ex : PySem.W.Frag → Bool)
def seenK (g : Addr → Option Obj) : PySem.W.Frag := He.frT g (cStatics :: He.asD g n)
def tellK (g : Addr → Option Obj) : He.AlX := (He.obsT fa fn [] (seenK n g), (ex (seenK n g) && He.tabsB g tf (seenK n g)))
theorem tellK_ok {w : World} {h : Heap} (e : tellK n fa fn tf ex h.get? = He.valX fn [] w) : He.SaysX fa fn [] tf ex w h (seenK n h.get?) := by
  obtain ⟨a, b⟩ := Prod.mk.inj e
  obtain ⟨b1, b2⟩ := Bool.and_eq_true_iff.mp b
  have tab : ∀ p ∈ tf, PySem.W.codeHdIn (seenK n h.get?) (He.cT (seenK n h.get?) p).1 (He.cT (seenK n h.get?) p).2 = true ∧ ∃ o, h.get? (He.cT (seenK n h.get?) p).2 = some o ∧ He.emptyTab o = true := by
    intro p hp
    have z := Bool.and_eq_true_iff.mp ((List.all_eq_true.mp b2) p hp)
    refine ⟨z.1, ?_⟩
    have z2 := z.2
    split at z2
    · rename_i o q
      exact ⟨o, q, z2⟩
    · exact absurd z2 Bool.false_ne_true
  refine { t := a, more := b1, hd := fun p hp => (tab p hp).1, out := ?_, empty := ?_ }
  · intro p hp
    have ⟨_, o, q, z⟩ := tab p hp
    exact He.frT_none q z
  · intro p hp
    have ⟨_, o, q, z⟩ := tab p hp
    exact q.trans (congrArg some (He.emptyTab_eq z))
def hookK : PySem.W.Hook where
  α := He.AlX
  obs s := tellK n fa fn tf ex s.heap.get?
  val w := He.valX fn [] w
  says w h := ∃ K : PySem.W.Frag, K.In h ∧ He.SaysX fa fn [] tf ex w h K
  of _ _ e := ⟨seenK n _, He.frT_in, tellK_ok n fa fn tf ex e⟩
  keeps _ _ _ := by
    rintro ⟨K, hK, c⟩ k
    exact ⟨K, PySem.W.Frag.In.keeps hK k, { t := c.t, more := c.more, hd := c.hd, out := c.out, empty := fun p hp => k _ _ (c.empty p hp) }⟩
theorem hookK_obs {g : Addr → Option Obj} {s : Shared} (h : ∀ a, g a = s.heap.get? a) : tellK n fa fn tf ex g = (hookK n fa fn tf ex).obs s := by
  obtain rfl : g = s.heap.get? := funext h
  rfl
end
end Y

set_option Elab.async false
set_option linter.all false
set_option maxRecDepth 100000
set_option maxHeartbeats 2000000
namespace Y
open PySem PySem.Spec PyProof.Rows L2
open PySem.W (clsIn findIn subIn nsIn typeIn keepIn codeIn mroIn)
noncomputable section
/-! ### the text, the mirrors -/
def top (i : Nat) : Stmt := PySem.Challenge.pw_rowanswers_k15_whole_minors.main.body.getD i (.Pass ⟨0, 0, 0, 0⟩)
/-! is_integer -/
abbrev s_is_integer : Stmt := top 6
abbrev N_is_integer : List Str := ["value"]
theorem S_is_integer : FnScope N_is_integer ["value"] (defScope s_is_integer) := ⟨rfl, rfl, rfl, by decide +kernel, rfl, by decide +kernel, by decide +kernel⟩
def m_is_integer : SX := (sRet (mAnd (mIsi "int" (mVar 0)) (mNot (mIsi "bool" (mVar 0)))))
def F_is_integer : List D → FR := runF 1 m_is_integer
/-! is_row_of -/
abbrev s_is_row_of : Stmt := top 7
abbrev N_is_row_of : List Str := ["value", "width", "one"]
theorem S_is_row_of : FnScope N_is_row_of ["value", "width"] (defScope s_is_row_of) := ⟨rfl, rfl, rfl, by decide +kernel, rfl, by decide +kernel, by decide +kernel⟩
def c_is_row_of_2 : ML := mLc (mItems (mVar 0)) (tgN 2) mYes (mBin (gIB fun i j => decide (i ≤ j)) (mCall gAbs (aCons (mVar 2) aNil)) (mC (.int 1000000))) [2]
def m_is_row_of : SX := (sSeq (sIf (mTOr (mTNot (mT (mIsi "tuple" (mVar 0)))) (mTOr (mT (mBin (gEqB true) (mCall gLen (aCons (mVar 0) aNil)) (mVar 1))) (mTNot (mT (mAllG (mItems (mVar 0)) (tgN 2) (mFn 1 F_is_integer (aCons (mVar 2) aNil)) [2]))))) (sRet (mC (.bl false))) sNil)
  (sRet (mCall gAll (aCons (mFz c_is_row_of_2) aNil))))
def F_is_row_of : List D → FR := runF 3 m_is_row_of
/-! is_grid -/
abbrev s_is_grid : Stmt := top 8
abbrev N_is_grid : List Str := ["value", "row"]
theorem S_is_grid : FnScope N_is_grid ["value"] (defScope s_is_grid) := ⟨rfl, rfl, rfl, by decide +kernel, rfl, by decide +kernel, by decide +kernel⟩
def m_is_grid : SX := (sSeq (sIf (mTOr (mTNot (mT (mIsi "tuple" (mVar 0)))) (mTOr (mT (mBin (gEqB true) (mCall gLen (aCons (mVar 0) aNil)) (mC (.int 2)))) (mTOr (mTNot (mT (mFn 1 F_is_integer (aCons (mBin gIx (mVar 0) (mC (.int 0))) aNil)))) (mTNot (mT (mChain (gIB fun i j => decide (i ≤ j)) (gIB fun i j => decide (i ≤ j)) (mC (.int 1)) (mBin gIx (mVar 0) (mC (.int 0))) (mC (.int 6)))))))) (sRet (mC (.bl false))) sNil)
  (sSeq (sIf (mTOr (mTNot (mT (mIsi "tuple" (mBin gIx (mVar 0) (mC (.int 1)))))) (mT (mBin (gIB fun i j => decide (j < i)) (mCall gLen (aCons (mBin gIx (mVar 0) (mC (.int 1))) aNil)) (mC (.int 6))))) (sRet (mC (.bl false))) sNil)
  (sRet (mAllG (mItems (mBin gIx (mVar 0) (mC (.int 1)))) (tgN 1) (mFn 2 F_is_row_of (aCons (mVar 1) (aCons (mBin gIx (mVar 0) (mC (.int 0))) aNil))) [1]))))
def F_is_grid : List D → FR := runF 2 m_is_grid
/-! need_grid -/
abbrev s_need_grid : Stmt := top 9
abbrev N_need_grid : List Str := ["value", "name"]
theorem S_need_grid : FnScope N_need_grid ["value", "name"] (defScope s_need_grid) := ⟨rfl, rfl, rfl, by decide +kernel, rfl, by decide +kernel, by decide +kernel⟩
def m_need_grid : SX := (sIf (mTNot (mT (mFn 1 F_is_grid (aCons (mVar 0) aNil)))) (sRaise (mVar 1)) sNil)
def F_need_grid : List D → FR := runF 2 m_need_grid
/-! need_sums -/
abbrev s_need_sums : Stmt := top 10
abbrev N_need_sums : List Str := ["sums", "grid"]
theorem S_need_sums : FnScope N_need_sums ["sums", "grid"] (defScope s_need_sums) := ⟨rfl, rfl, rfl, by decide +kernel, rfl, by decide +kernel, by decide +kernel⟩
def m_need_sums : SX := (sIf (mTNot (mT (mFn 2 F_is_row_of (aCons (mVar 0) (aCons (mCall gLen (aCons (mBin gIx (mVar 1) (mC (.int 1))) aNil)) aNil))))) (sRaise (mC (.str "sums"))) sNil)
def F_need_sums : List D → FR := runF 2 m_need_sums
/-! need_square -/
abbrev s_need_square : Stmt := top 11
abbrev N_need_square : List Str := ["grid", "name"]
theorem S_need_square : FnScope N_need_square ["grid", "name"] (defScope s_need_square) := ⟨rfl, rfl, rfl, by decide +kernel, rfl, by decide +kernel, by decide +kernel⟩
def m_need_square : SX := (sSeq (sDrop (mFn 2 F_need_grid (aCons (mVar 0) (aCons (mVar 1) aNil))))
  (sIf (mT (mBin (gEqB true) (mBin gIx (mVar 0) (mC (.int 0))) (mCall gLen (aCons (mBin gIx (mVar 0) (mC (.int 1))) aNil)))) (sRaise (mVar 1)) sNil))
def F_need_square : List D → FR := runF 2 m_need_square
/-! common -/
abbrev s_common : Stmt := top 12
abbrev N_common : List Str := ["one", "other"]
theorem S_common : FnScope N_common ["one", "other"] (defScope s_common) := ⟨rfl, rfl, rfl, by decide +kernel, rfl, by decide +kernel, by decide +kernel⟩
def l_common_1 : SX := (sPar 0 1 (aCons (mVar 1) (aCons (mBin gMod (mVar 0) (mVar 1)) aNil)))
def m_common : SX := (sSeq (sSet 0 (mCall gAbs (aCons (mVar 0) aNil)))
  (sSeq (sSet 1 (mCall gAbs (aCons (mVar 1) aNil)))
  (sSeq (sWhile (mT (mBin (gIB fun i j => decide (j < i)) (mVar 1) (mC (.int 0)))) l_common_1)
  (sRet (mVar 0)))))
def F_common : List D → FR := runF 2 m_common
/-! ratio -/
abbrev s_ratio : Stmt := top 13
abbrev N_ratio : List Str := ["above", "below", "divisor"]
theorem S_ratio : FnScope N_ratio ["above", "below"] (defScope s_ratio) := ⟨rfl, rfl, rfl, by decide +kernel, rfl, by decide +kernel, by decide +kernel⟩
def m_ratio : SX := (sSeq (sIf (mT (mBin (gIB fun i j => decide (i < j)) (mVar 1) (mC (.int 0)))) (sSeq (sSet 0 (mBin (gII fun i j => i - j) (mC (.int 0)) (mVar 0)))
  (sSet 1 (mBin (gII fun i j => i - j) (mC (.int 0)) (mVar 1)))) sNil)
  (sSeq (sSet 2 (mFn 2 F_common (aCons (mVar 0) (aCons (mVar 1) aNil))))
  (sRet (mTup (aCons (mBin gDiv (mVar 0) (mVar 2)) (aCons (mBin gDiv (mVar 1) (mVar 2)) aNil))))))
def F_ratio : List D → FR := runF 3 m_ratio
/-! determinant -/
abbrev s_determinant : Stmt := top 14
abbrev N_determinant : List Str := ["rows", "grid", "sign", "last", "at", "own", "picks", "held", "first", "row", "one", "more"]
theorem S_determinant : FnScope N_determinant ["rows"] (defScope s_determinant) := ⟨rfl, rfl, rfl, by decide +kernel, rfl, by decide +kernel, by decide +kernel⟩
def c_determinant_1 : ML := mLc (mItems (mVar 0)) (tgN 9) mYes (mFz (mCall gList (aCons (mVar 9) aNil))) [9]
def c_determinant_2 : ML := mLc (mItC gRng2 (aCons (mVar 4) (aCons (mLenO 1) aNil))) (tgN 5) (mT (mBin (gEqB true) (mBin gIx (mIxO 1 (mVar 5)) (mVar 4)) (mC (.int 0)))) (mVar 5) [5]
def c_determinant_3 : ML := mLc (mItC gZip (aCons (mIxO 1 (mVar 5)) (aCons (mIxO 1 (mVar 4)) aNil))) (tgT 2 (tgsC (tgN 10) (tgsC (tgN 11) tgsN))) mYes (mBin gDiv (mBin (gII fun i j => i - j) (mBin gMulA (mVar 10) (mBin gIx (mIxO 1 (mVar 4)) (mVar 4))) (mBin gMulA (mVar 8) (mVar 11))) (mVar 3)) [10, 11]
def l_determinant_1 : SX := (sSeq (sSet 8 (mBin gIx (mIxO 1 (mVar 5)) (mVar 4)))
  (sSetIx 1 (mVar 5) (mFz c_determinant_3)))
def l_determinant_2 : SX := (sSeq (sSet 6 (mFz c_determinant_2))
  (sSeq (sIf (mT (mBin (gEqB false) (mCall gLen (aCons (mVar 6) aNil)) (mC (.int 0)))) (sRet (mC (.int 0))) sNil)
  (sSeq (sIf (mT (mBin (gEqB true) (mBin gIx (mVar 6) (mC (.int 0))) (mVar 4))) (sSeq (sSet 7 (mIxO 1 (mVar 4)))
  (sSeq (sSetIx 1 (mVar 4) (mIxO 1 (mBin gIx (mVar 6) (mC (.int 0)))))
  (sSeq (sSetIx 1 (mBin gIx (mVar 6) (mC (.int 0))) (mVar 7))
  (sSet 2 (mBin (gII fun i j => i - j) (mC (.int 0)) (mVar 2)))))) sNil)
  (sSeq (sFor (mItC gRng2 (aCons (mBin gAddA (mVar 4) (mC (.int 1))) (aCons (mLenO 1) aNil))) (tgN 5) l_determinant_1)
  (sSet 3 (mBin gIx (mIxO 1 (mVar 4)) (mVar 4)))))))
def m_determinant : SX := (sSeq (sSetO 1 c_determinant_1)
  (sSeq (sSet 2 (mC (.int 1)))
  (sSeq (sSet 3 (mC (.int 1)))
  (sSeq (sFor (mItC gRng1 (aCons (mLenO 1) aNil)) (tgN 4) l_determinant_2)
  (sRet (mBin gMulA (mVar 2) (mVar 3)))))))
def F_determinant : List D → FR := runF 12 m_determinant
/-! chosen -/
abbrev s_chosen : Stmt := top 16
abbrev N_chosen : List Str := ["many", "size", "rows", "turn", "longer", "row", "first", "at"]
theorem S_chosen : FnScope N_chosen ["many", "size"] (defScope s_chosen) := ⟨rfl, rfl, rfl, by decide +kernel, rfl, by decide +kernel, by decide +kernel⟩
def c_chosen_1 : ML := mLc (mItC gRng2 (aCons (mVar 6) (aCons (mVar 0) aNil))) (tgN 7) mYes (mBin gAddA (mVar 5) (mTup (aCons (mVar 7) aNil))) [7]
def l_chosen_1 : SX := (sSeq (sSet 6 (mIf (mT (mBin (gIB fun i j => decide (j < i)) (mCall gLen (aCons (mVar 5) aNil)) (mC (.int 0)))) (mBin gAddA (mBin gIx (mVar 5) (mBin (gII fun i j => i - j) (mCall gLen (aCons (mVar 5) aNil)) (mC (.int 1)))) (mC (.int 1))) (mC (.int 0))))
  (sExtend 4 (mFz c_chosen_1)))
def l_chosen_2 : SX := (sSeq (sSetO 4 (mLst aNil))
  (sSeq (sFor (mItems (mVar 2)) (tgN 5) l_chosen_1)
  (sSet 2 (mVarZ 4))))
def m_chosen : SX := (sSeq (sSet 2 (mFz (mLst (aCons (mTup aNil) aNil))))
  (sSeq (sFor (mItC gRng1 (aCons (mVar 1) aNil)) (tgN 3) l_chosen_2)
  (sRet (mVar 2))))
def F_chosen : List D → FR := runF 8 m_chosen
/-! part -/
abbrev s_part : Stmt := top 17
abbrev N_part : List Str := ["rows", "ups", "sides", "at", "side"]
theorem S_part : FnScope N_part ["rows", "ups", "sides"] (defScope s_part) := ⟨rfl, rfl, rfl, by decide +kernel, rfl, by decide +kernel, by decide +kernel⟩
def c_part_2 : ML := mLc (mItems (mVar 2)) (tgN 4) mYes (mBin gIx (mBin gIx (mVar 0) (mVar 3)) (mVar 4)) [4]
def c_part_1 : ML := mLc (mItems (mVar 1)) (tgN 3) mYes (mCall gTuple (aCons (mFz c_part_2) aNil)) [3]
def m_part : SX := (sRet (mFn 1 F_determinant (aCons (mFz c_part_1) aNil)))
def F_part : List D → FR := runF 5 m_part
/-! is_choice -/
abbrev s_is_choice : Stmt := top 18
abbrev N_is_choice : List Str := ["value", "many", "own", "at"]
theorem S_is_choice : FnScope N_is_choice ["value", "many"] (defScope s_is_choice) := ⟨rfl, rfl, rfl, by decide +kernel, rfl, by decide +kernel, by decide +kernel⟩
def c_is_choice_1 : ML := mLc (mItems (mVar 0)) (tgN 2) mYes (mAnd (mFn 1 F_is_integer (aCons (mVar 2) aNil)) (mChain (gIB fun i j => decide (i ≤ j)) (gIB fun i j => decide (i < j)) (mC (.int 0)) (mVar 2) (mVar 1))) [2]
def c_is_choice_2 : ML := mLc (mItC gRng2 (aCons (mC (.int 1)) (aCons (mCall gLen (aCons (mVar 0) aNil)) aNil))) (tgN 3) mYes (mBin (gIB fun i j => decide (i < j)) (mBin gIx (mVar 0) (mBin (gII fun i j => i - j) (mVar 3) (mC (.int 1)))) (mBin gIx (mVar 0) (mVar 3))) [3]
def m_is_choice : SX := (sSeq (sIf (mTOr (mTNot (mT (mIsi "tuple" (mVar 0)))) (mTNot (mT (mCall gAll (aCons (mFz c_is_choice_1) aNil))))) (sRet (mC (.bl false))) sNil)
  (sRet (mCall gAll (aCons (mFz c_is_choice_2) aNil))))
def F_is_choice : List D → FR := runF 4 m_is_choice
/-! minor -/
abbrev s_minor : Stmt := top 19
abbrev N_minor : List Str := ["grid", "ups", "sides"]
theorem S_minor : FnScope N_minor ["grid", "ups", "sides"] (defScope s_minor) := ⟨rfl, rfl, rfl, by decide +kernel, rfl, by decide +kernel, by decide +kernel⟩
def m_minor : SX := (sSeq (sDrop (mFn 2 F_need_grid (aCons (mVar 0) (aCons (mC (.str "grid")) aNil))))
  (sSeq (sIf (mTNot (mT (mFn 2 F_is_choice (aCons (mVar 1) (aCons (mCall gLen (aCons (mBin gIx (mVar 0) (mC (.int 1))) aNil)) aNil))))) (sRaise (mC (.str "ups"))) sNil)
  (sSeq (sIf (mTOr (mTNot (mT (mFn 2 F_is_choice (aCons (mVar 2) (aCons (mBin gIx (mVar 0) (mC (.int 0))) aNil))))) (mT (mBin (gEqB true) (mCall gLen (aCons (mVar 2) aNil)) (mCall gLen (aCons (mVar 1) aNil))))) (sRaise (mC (.str "sides"))) sNil)
  (sRet (mFn 3 F_part (aCons (mBin gIx (mVar 0) (mC (.int 1))) (aCons (mVar 1) (aCons (mVar 2) aNil))))))))
def F_minor : List D → FR := runF 3 m_minor
/-! need_size -/
abbrev s_need_size : Stmt := top 20
abbrev N_need_size : List Str := ["grid", "size"]
theorem S_need_size : FnScope N_need_size ["grid", "size"] (defScope s_need_size) := ⟨rfl, rfl, rfl, by decide +kernel, rfl, by decide +kernel, by decide +kernel⟩
def m_need_size : SX := (sSeq (sDrop (mFn 2 F_need_grid (aCons (mVar 0) (aCons (mC (.str "grid")) aNil))))
  (sIf (mTOr (mTNot (mT (mFn 1 F_is_integer (aCons (mVar 1) aNil)))) (mTNot (mT (mChain (gIB fun i j => decide (i ≤ j)) (gIB fun i j => decide (i ≤ j)) (mC (.int 1)) (mVar 1) (mCall gMin2 (aCons (mBin gIx (mVar 0) (mC (.int 0))) (aCons (mCall gLen (aCons (mBin gIx (mVar 0) (mC (.int 1))) aNil)) aNil))))))) (sRaise (mC (.str "size"))) sNil))
def F_need_size : List D → FR := runF 2 m_need_size
/-! compound -/
abbrev s_compound : Stmt := top 21
abbrev N_compound : List Str := ["grid", "size", "sides", "ups", "own"]
theorem S_compound : FnScope N_compound ["grid", "size"] (defScope s_compound) := ⟨rfl, rfl, rfl, by decide +kernel, rfl, by decide +kernel, by decide +kernel⟩
def c_compound_2 : ML := mLc (mItems (mVar 2)) (tgN 4) mYes (mFn 3 F_part (aCons (mBin gIx (mVar 0) (mC (.int 1))) (aCons (mVar 3) (aCons (mVar 4) aNil)))) [4]
def c_compound_1 : ML := mLc (mItems (mFn 2 F_chosen (aCons (mCall gLen (aCons (mBin gIx (mVar 0) (mC (.int 1))) aNil)) (aCons (mVar 1) aNil)))) (tgN 3) mYes (mCall gTuple (aCons (mFz c_compound_2) aNil)) [3]
def m_compound : SX := (sSeq (sDrop (mFn 2 F_need_size (aCons (mVar 0) (aCons (mVar 1) aNil))))
  (sSeq (sSet 2 (mFn 2 F_chosen (aCons (mBin gIx (mVar 0) (mC (.int 0))) (aCons (mVar 1) aNil))))
  (sRet (mCall gTuple (aCons (mFz c_compound_1) aNil)))))
def F_compound : List D → FR := runF 5 m_compound
/-! common_minor -/
abbrev s_common_minor : Stmt := top 22
abbrev N_common_minor : List Str := ["grid", "size", "found", "row", "own"]
theorem S_common_minor : FnScope N_common_minor ["grid", "size"] (defScope s_common_minor) := ⟨rfl, rfl, rfl, by decide +kernel, rfl, by decide +kernel, by decide +kernel⟩
def l_common_minor_1 : SX := (sSet 2 (mFn 2 F_common (aCons (mVar 2) (aCons (mVar 4) aNil))))
def l_common_minor_2 : SX := (sFor (mItems (mVar 3)) (tgN 4) l_common_minor_1)
def m_common_minor : SX := (sSeq (sSet 2 (mC (.int 0)))
  (sSeq (sFor (mItems (mFn 2 F_compound (aCons (mVar 0) (aCons (mVar 1) aNil)))) (tgN 3) l_common_minor_2)
  (sRet (mVar 2))))
def F_common_minor : List D → FR := runF 5 m_common_minor
/-! cofactors -/
abbrev s_cofactors : Stmt := top 23
abbrev N_cofactors : List Str := ["grid", "many", "found", "at", "ups", "sides", "up", "own"]
theorem S_cofactors : FnScope N_cofactors ["grid"] (defScope s_cofactors) := ⟨rfl, rfl, rfl, by decide +kernel, rfl, by decide +kernel, by decide +kernel⟩
def c_cofactors_2 : ML := mLc (mItC gRng1 (aCons (mVar 1) aNil)) (tgN 7) (mT (mBin (gEqB true) (mVar 7) (mVar 6))) (mVar 7) [7]
def c_cofactors_1 : ML := mLc (mItC gRng1 (aCons (mVar 1) aNil)) (tgN 6) mYes (mCall gTuple (aCons (mFz c_cofactors_2) aNil)) [6]
def c_cofactors_3 : ML := mLc (mItC gRng1 (aCons (mVar 1) aNil)) (tgN 6) mYes (mBin gMulA (mFn 3 F_part (aCons (mBin gIx (mVar 0) (mC (.int 1))) (aCons (mBin gIx (mVar 4) (mVar 6)) (aCons (mVar 5) aNil)))) (mIf (mT (mBin (gEqB false) (mBin gMod (mBin gAddA (mVar 3) (mVar 6)) (mC (.int 2))) (mC (.int 0)))) (mC (.int 1)) (mUn gNeg (mC (.int 1))))) [6]
def l_cofactors_1 : SX := (sSeq (sSet 4 (mFz c_cofactors_1))
  (sSeq (sSet 5 (mBin gIx (mVar 4) (mVar 3)))
  (sAppend 2 (mCall gTuple (aCons (mFz c_cofactors_3) aNil)))))
def m_cofactors : SX := (sSeq (sDrop (mFn 2 F_need_square (aCons (mVar 0) (aCons (mC (.str "grid")) aNil))))
  (sSeq (sSet 1 (mBin gIx (mVar 0) (mC (.int 0))))
  (sSeq (sSetO 2 (mLst aNil))
  (sSeq (sFor (mItC gRng1 (aCons (mVar 1) aNil)) (tgN 3) l_cofactors_1)
  (sRet (mCall gTuple (aCons (mVarZ 2) aNil)))))))
def F_cofactors : List D → FR := runF 8 m_cofactors
/-! by_cofactors -/
abbrev s_by_cofactors : Stmt := top 24
abbrev N_by_cofactors : List Str := ["grid", "sums", "rows", "whole", "row", "one", "more"]
theorem S_by_cofactors : FnScope N_by_cofactors ["grid", "sums"] (defScope s_by_cofactors) := ⟨rfl, rfl, rfl, by decide +kernel, rfl, by decide +kernel, by decide +kernel⟩
def c_by_cofactors_2 : ML := mLc (mItC gZip (aCons (mVar 4) (aCons (mVar 1) aNil))) (tgT 2 (tgsC (tgN 5) (tgsC (tgN 6) tgsN))) mYes (mBin gMulA (mVar 5) (mVar 6)) [5, 6]
def c_by_cofactors_1 : ML := mLc (mItems (mVar 2)) (tgN 4) mYes (mFn 2 F_ratio (aCons (mCall gSumA (aCons (mFz c_by_cofactors_2) aNil)) (aCons (mVar 3) aNil))) [4]
def m_by_cofactors : SX := (sSeq (sSet 2 (mFn 1 F_cofactors (aCons (mVar 0) aNil)))
  (sSeq (sDrop (mFn 2 F_need_sums (aCons (mVar 1) (aCons (mVar 0) aNil))))
  (sSeq (sSet 3 (mFn 1 F_determinant (aCons (mBin gIx (mVar 0) (mC (.int 1))) aNil)))
  (sSeq (sIf (mT (mBin (gEqB false) (mVar 3) (mC (.int 0)))) (sRet (mC .non)) sNil)
  (sRet (mCall gTuple (aCons (mFz c_by_cofactors_1) aNil)))))))
def F_by_cofactors : List D → FR := runF 7 m_by_cofactors
/-! by_rows -/
abbrev s_by_rows : Stmt := top 25
abbrev N_by_rows : List Str := ["grid", "ups", "many", "others", "found", "sides", "left", "sign", "own"]
theorem S_by_rows : FnScope N_by_rows ["grid", "ups"] (defScope s_by_rows) := ⟨rfl, rfl, rfl, by decide +kernel, rfl, by decide +kernel, by decide +kernel⟩
def c_by_rows_1 : ML := mLc (mItC gRng1 (aCons (mVar 2) aNil)) (tgN 8) (mT (mBin (gIn true) (mVar 8) (mVar 1))) (mVar 8) [8]
def c_by_rows_2 : ML := mLc (mItC gRng1 (aCons (mVar 2) aNil)) (tgN 8) (mT (mBin (gIn true) (mVar 8) (mVar 5))) (mVar 8) [8]
def l_by_rows_1 : SX := (sSeq (sSet 6 (mCall gTuple (aCons (mFz c_by_rows_2) aNil)))
  (sSeq (sSet 7 (mIf (mT (mBin (gEqB false) (mBin gMod (mBin gAddA (mCall gSumA (aCons (mVar 1) aNil)) (mCall gSumA (aCons (mVar 5) aNil))) (mC (.int 2))) (mC (.int 0)))) (mC (.int 1)) (mUn gNeg (mC (.int 1)))))
  (sAug 4 (fun i j => i + j) (mBin gMulA (mBin gMulA (mVar 7) (mFn 3 F_part (aCons (mBin gIx (mVar 0) (mC (.int 1))) (aCons (mVar 1) (aCons (mVar 5) aNil))))) (mFn 3 F_part (aCons (mBin gIx (mVar 0) (mC (.int 1))) (aCons (mVar 3) (aCons (mVar 6) aNil))))))))
def m_by_rows : SX := (sSeq (sDrop (mFn 2 F_need_square (aCons (mVar 0) (aCons (mC (.str "grid")) aNil))))
  (sSeq (sSet 2 (mBin gIx (mVar 0) (mC (.int 0))))
  (sSeq (sIf (mTNot (mT (mFn 2 F_is_choice (aCons (mVar 1) (aCons (mVar 2) aNil))))) (sRaise (mC (.str "ups"))) sNil)
  (sSeq (sSet 3 (mCall gTuple (aCons (mFz c_by_rows_1) aNil)))
  (sSeq (sSet 4 (mC (.int 0)))
  (sSeq (sFor (mItems (mFn 2 F_chosen (aCons (mVar 2) (aCons (mCall gLen (aCons (mVar 1) aNil)) aNil)))) (tgN 5) l_by_rows_1)
  (sRet (mVar 4))))))))
def F_by_rows : List D → FR := runF 9 m_by_rows
/-! rank_by_minors -/
abbrev s_rank_by_minors : Stmt := top 26
abbrev N_rank_by_minors : List Str := ["grid", "size"]
theorem S_rank_by_minors : FnScope N_rank_by_minors ["grid"] (defScope s_rank_by_minors) := ⟨rfl, rfl, rfl, by decide +kernel, rfl, by decide +kernel, by decide +kernel⟩
def l_rank_by_minors_1 : SX := (sIf (mT (mBin (gEqB true) (mFn 2 F_common_minor (aCons (mVar 0) (aCons (mVar 1) aNil))) (mC (.int 0)))) (sRet (mVar 1)) sNil)
def m_rank_by_minors : SX := (sSeq (sDrop (mFn 2 F_need_grid (aCons (mVar 0) (aCons (mC (.str "grid")) aNil))))
  (sSeq (sFor (mItC gRngDn (aCons (mCall gMin2 (aCons (mBin gIx (mVar 0) (mC (.int 0))) (aCons (mCall gLen (aCons (mBin gIx (mVar 0) (mC (.int 1))) aNil)) aNil))) (aCons (mC (.int 0)) (aCons (mUn gNeg (mC (.int 1))) aNil)))) (tgN 1) l_rank_by_minors_1)
  (sRet (mC (.int 0)))))
def F_rank_by_minors : List D → FR := runF 2 m_rank_by_minors
/-! _law_dice -/
abbrev s__law_dice : Stmt := top 28
abbrev N__law_dice : List Str := ["script", "spot", "own", "mixed", "cell"]
theorem S__law_dice : FnScope N__law_dice ["script", "spot"] (defScope s__law_dice) := ⟨rfl, rfl, rfl, by decide +kernel, rfl, by decide +kernel, by decide +kernel⟩
def l__law_dice_1 : SX := (sSet 3 (mBin gMod (mCall gInt (aCons (mBin gAddA (mBin gMulA (mVar 3) (mC (.int 48271))) (mBin gMod (mCall gInt (aCons (mVar 4) aNil)) (mC (.int 2147480009)))) aNil)) (mC (.int 2147480009))))
def m__law_dice : OX := (oSeq (sSet 2 (mIf (mT (mBin (gIB fun i j => decide (i < j)) (mVar 1) (mCall gLen (aCons (mVar 0) aNil)))) (mBin gIx (mVar 0) (mVar 1)) (mBin gAddA (mBin gMulA (mC (.int 733)) (mVar 1)) (mC (.int 29)))))
  (oSeq (sSet 3 (mBin gAddA (mC (.int 930011)) (mBin gMulA (mC (.int 7907)) (mVar 1))))
  (oSeq (sFor (mItems (mBin gAddA (mSl gSl (mVar 0) oNone (oSome (mC (.int 6)))) (mFz (mLst (aCons (mVar 2) aNil))))) (tgN 4) l__law_dice_1)
  (sRetO (mLst (aCons (mIf (mTOr (mT (mBin (gIB fun i j => decide (i < j)) (mVar 2) (mC (.int 0)))) (mT (mBin (gIB fun i j => decide (j ≤ i)) (mVar 2) (mBin gPow (mC (.int 10)) (mC (.int 16)))))) (mCall gAbs (aCons (mVar 2) aNil)) (mC (.int 0))) (aCons (mVar 3) (aCons (mC (.int 0)) aNil))))))))
def F__law_dice : List D → FRO := runO 5 m__law_dice
/-! _law_roll -/
abbrev s__law_roll : Stmt := top 29
abbrev N__law_roll : List Str := ["dice", "many", "found"]
theorem S__law_roll : FnScope N__law_roll ["dice", "many"] (defScope s__law_roll) := ⟨rfl, rfl, rfl, by decide +kernel, rfl, by decide +kernel, by decide +kernel⟩
def m__law_roll : SX := (sSeq (sIf (mT (mBin (gIB fun i j => decide (j < i)) (mIxO 0 (mC (.int 0))) (mC (.int 0)))) (sSeq (sSet 2 (mBin gMod (mCall gInt (aCons (mIxO 0 (mC (.int 0))) aNil)) (mVar 1)))
  (sSeq (sSetIx 0 (mC (.int 0)) (mBin gDiv (mIxO 0 (mC (.int 0))) (mVar 1)))
  (sRet (mVar 2)))) sNil)
  (sSeq (sSetIx 0 (mC (.int 2)) (mBin gAddA (mIxO 0 (mC (.int 2))) (mC (.int 1))))
  (sSeq (sSetIx 0 (mC (.int 1)) (mBin gMod (mCall gInt (aCons (mBin gAddA (mBin gAddA (mBin gMulA (mIxO 0 (mC (.int 1))) (mC (.int 52501))) (mBin gMulA (mBin gMulA (mIxO 0 (mC (.int 2))) (mIxO 0 (mC (.int 2)))) (mC (.int 1009)))) (mC (.int 77))) aNil)) (mC (.int 2147480009))))
  (sRet (mBin gMod (mCall gInt (aCons (mBin gDiv (mIxO 0 (mC (.int 1))) (mC (.int 211))) aNil)) (mVar 1))))))
def F__law_roll : List D → List D → FRD := runD 3 m__law_roll
/-! _law_pick -/
abbrev s__law_pick : Stmt := top 30
abbrev N__law_pick : List Str := ["dice", "things"]
theorem S__law_pick : FnScope N__law_pick ["dice", "things"] (defScope s__law_pick) := ⟨rfl, rfl, rfl, by decide +kernel, rfl, by decide +kernel, by decide +kernel⟩
def m__law_pick : SX := (sRet (mBin gIx (mVar 1) (mFnD 0 2 F__law_roll (aCons (mCall gLen (aCons (mVar 1) aNil)) aNil))))
def F__law_pick : List D → List D → FRD := runD 2 m__law_pick
/-! _law_refused -/
abbrev s__law_refused : Stmt := top 31
abbrev N__law_refused : List Str := ["call", "e"]
theorem S__law_refused : FnScope N__law_refused ["call"] (defScope s__law_refused) := ⟨rfl, rfl, rfl, by decide +kernel, rfl, by decide +kernel, by decide +kernel⟩
/-! _law_gcd -/
abbrev s__law_gcd : Stmt := top 32
abbrev N__law_gcd : List Str := ["one", "other", "turn"]
theorem S__law_gcd : FnScope N__law_gcd ["one", "other"] (defScope s__law_gcd) := ⟨rfl, rfl, rfl, by decide +kernel, rfl, by decide +kernel, by decide +kernel⟩
def l__law_gcd_1 : SX := (sSeq (sIf (mT (mBin (gEqB false) (mVar 1) (mC (.int 0)))) sBreak sNil)
  (sPar 0 1 (aCons (mVar 1) (aCons (mBin gMod (mVar 0) (mVar 1)) aNil))))
def m__law_gcd : SX := (sSeq (sPar 0 1 (aCons (mCall gAbs (aCons (mVar 0) aNil)) (aCons (mCall gAbs (aCons (mVar 1) aNil)) aNil)))
  (sSeq (sFor (mItC gRng1 (aCons (mC (.int 400)) aNil)) (tgN 2) l__law_gcd_1)
  (sRet (mVar 0))))
def F__law_gcd : List D → FR := runF 3 m__law_gcd
/-! _law_row -/
abbrev s__law_row : Stmt := top 33
abbrev N__law_row : List Str := ["dice", "width", "most", "at"]
theorem S__law_row : FnScope N__law_row ["dice", "width", "most"] (defScope s__law_row) := ⟨rfl, rfl, rfl, by decide +kernel, rfl, by decide +kernel, by decide +kernel⟩
def c__law_row_1 : ML := mLc (mItC gRng1 (aCons (mVar 1) aNil)) (tgN 3) mYes (mBin (gII fun i j => i - j) (mFnD 0 2 F__law_roll (aCons (mBin gAddA (mBin gMulA (mC (.int 2)) (mVar 2)) (mC (.int 1))) aNil)) (mVar 2)) [3]
def m__law_row : SX := (sRet (mCall gTuple (aCons (mFz c__law_row_1) aNil)))
def F__law_row : List D → List D → FRD := runD 4 m__law_row
/-! _law_grid -/
abbrev s__law_grid : Stmt := top 34
abbrev N__law_grid : List Str := ["dice", "width", "many", "rows", "turn", "own", "one", "more"]
theorem S__law_grid : FnScope N__law_grid ["dice", "width", "many"] (defScope s__law_grid) := ⟨rfl, rfl, rfl, by decide +kernel, rfl, by decide +kernel, by decide +kernel⟩
def c__law_grid_1 : ML := mLc (mItC gZip (aCons (mIxO 3 (mUn gNeg (mC (.int 1)))) (aCons (mIxO 3 (mC (.int 0))) aNil))) (tgT 2 (tgsC (tgN 6) (tgsC (tgN 7) tgsN))) mYes (mBin gAddA (mVar 6) (mBin gMulA (mFnD 0 2 F__law_pick (aCons (mFz (mLst (aCons (mUn gNeg (mC (.int 1))) (aCons (mC (.int 1)) (aCons (mC (.int 2)) aNil))))) aNil)) (mVar 7))) [6, 7]
def c__law_grid_2 : ML := mLc (mItems (mVar 5)) (tgN 6) mYes (mBin gMulA (mC (.int 2)) (mVar 6)) [6]
def l__law_grid_1 : SX := (sSeq (sSet 5 (mFnD 0 3 F__law_row (aCons (mVar 1) (aCons (mC (.int 3)) aNil))))
  (sSeq (sIf (mTAnd (mT (mBin (gIB fun i j => decide (j < i)) (mLenO 3) (mC (.int 1)))) (mT (mBin (gEqB false) (mFnD 0 2 F__law_roll (aCons (mC (.int 4)) aNil)) (mC (.int 0))))) (sSet 5 (mCall gTuple (aCons (mFz c__law_grid_1) aNil))) sNil)
  (sAppend 3 (mFnD 0 2 F__law_pick (aCons (mFz (mLst (aCons (mVar 5) (aCons (mVar 5) (aCons (mVar 5) (aCons (mBin gMulA (mTup (aCons (mC (.int 0)) aNil)) (mVar 1)) (aCons (mCall gTuple (aCons (mFz c__law_grid_2) aNil)) aNil))))))) aNil)))))
def m__law_grid : SX := (sSeq (sSetO 3 (mLst aNil))
  (sSeq (sFor (mItC gRng1 (aCons (mVar 2) aNil)) (tgN 4) l__law_grid_1)
  (sRet (mTup (aCons (mVar 1) (aCons (mCall gTuple (aCons (mVarZ 3) aNil)) aNil))))))
def F__law_grid : List D → List D → FRD := runD 8 m__law_grid
/-! _law_dot -/
abbrev s__law_dot : Stmt := top 35
abbrev N__law_dot : List Str := ["one", "other", "first", "second"]
theorem S__law_dot : FnScope N__law_dot ["one", "other"] (defScope s__law_dot) := ⟨rfl, rfl, rfl, by decide +kernel, rfl, by decide +kernel, by decide +kernel⟩
def c__law_dot_1 : ML := mLc (mItC gZip (aCons (mVar 0) (aCons (mVar 1) aNil))) (tgT 2 (tgsC (tgN 2) (tgsC (tgN 3) tgsN))) mYes (mBin gMulA (mVar 2) (mVar 3)) [2, 3]
def m__law_dot : SX := (sRet (mCall gSumA (aCons (mFz c__law_dot_1) aNil)))
def F__law_dot : List D → FR := runF 4 m__law_dot
/-! _law_det -/
abbrev s__law_det : Stmt := top 36
abbrev N__law_det : List Str := ["rows", "found", "at", "less", "row"]
theorem S__law_det : FnScope N__law_det ["rows"] (defScope s__law_det) := ⟨rfl, rfl, rfl, by decide +kernel, rfl, by decide +kernel, by decide +kernel⟩
def c__law_det_1 (R : List D → FR) : ML := mLc (mItems (mSl gSl (mVar 0) (oSome (mC (.int 1))) oNone)) (tgN 4) mYes (mBin gAddA (mSl gSl (mVar 4) oNone (oSome (mVar 2))) (mSl gSl (mVar 4) (oSome (mBin gAddA (mVar 2) (mC (.int 1)))) oNone)) [4]
def l__law_det_1 (R : List D → FR) : SX := (sSeq (sSet 3 (mFz (c__law_det_1 R)))
  (sSet 1 (mBin gAddA (mVar 1) (mBin gMulA (mBin gMulA (mIf (mT (mBin (gEqB false) (mBin gMod (mVar 2) (mC (.int 2))) (mC (.int 0)))) (mC (.int 1)) (mUn gNeg (mC (.int 1)))) (mBin gIx (mBin gIx (mVar 0) (mC (.int 0))) (mVar 2))) (mFn 1 R (aCons (mVar 3) aNil))))))
def m__law_det (R : List D → FR) : SX := (sSeq (sIf (mT (mBin (gEqB false) (mCall gLen (aCons (mVar 0) aNil)) (mC (.int 0)))) (sRet (mC (.int 1))) sNil)
  (sSeq (sSet 1 (mC (.int 0)))
  (sSeq (sFor (mItC gRng1 (aCons (mCall gLen (aCons (mVar 0) aNil)) aNil)) (tgN 2) (l__law_det_1 R))
  (sRet (mVar 1)))))
def F__law_det : Nat → List D → FR
  | 0 => fun _ => .stuck
  | n + 1 => runF 5 (m__law_det (F__law_det n))
/-! _law_some -/
abbrev s__law_some : Stmt := top 37
abbrev N__law_some : List Str := ["many", "size", "rows", "turn", "longer", "row", "own"]
theorem S__law_some : FnScope N__law_some ["many", "size"] (defScope s__law_some) := ⟨rfl, rfl, rfl, by decide +kernel, rfl, by decide +kernel, by decide +kernel⟩
def c__law_some_1 : ML := mLc (mItC gRng2 (aCons (mIf (mT (mBin (gIB fun i j => decide (j < i)) (mCall gLen (aCons (mVar 5) aNil)) (mC (.int 0)))) (mBin gAddA (mBin gIx (mVar 5) (mUn gNeg (mC (.int 1)))) (mC (.int 1))) (mC (.int 0))) (aCons (mVar 0) aNil))) (tgN 6) mYes (mBin gAddA (mVar 5) (mTup (aCons (mVar 6) aNil))) [6]
def l__law_some_1 : SX := (sSet 4 (mBin gAddA (mVar 4) (mFz c__law_some_1)))
def l__law_some_2 : SX := (sSeq (sSet 4 (mFz (mLst aNil)))
  (sSeq (sFor (mItems (mVar 2)) (tgN 5) l__law_some_1)
  (sSet 2 (mVar 4))))
def m__law_some : SX := (sSeq (sSet 2 (mFz (mLst (aCons (mTup aNil) aNil))))
  (sSeq (sFor (mItC gRng1 (aCons (mVar 1) aNil)) (tgN 3) l__law_some_2)
  (sRet (mVar 2))))
def F__law_some : List D → FR := runF 7 m__law_some
/-! _law_divisor -/
abbrev s__law_divisor : Stmt := top 38
abbrev N__law_divisor : List Str := ["rows", "width", "size", "found", "some", "places", "at", "place"]
theorem S__law_divisor : FnScope N__law_divisor ["rows", "width", "size"] (defScope s__law_divisor) := ⟨rfl, rfl, rfl, by decide +kernel, rfl, by decide +kernel, by decide +kernel⟩
def c__law_divisor_2 : ML := mLc (mItems (mVar 5)) (tgN 7) mYes (mBin gIx (mBin gIx (mVar 0) (mVar 6)) (mVar 7)) [7]
def c__law_divisor_1 : ML := mLc (mItems (mVar 4)) (tgN 6) mYes (mCall gTuple (aCons (mFz c__law_divisor_2) aNil)) [6]
def l__law_divisor_1 : SX := (sSet 3 (mFn 2 F__law_gcd (aCons (mVar 3) (aCons (mFn 1 (F__law_det 6) (aCons (mFz c__law_divisor_1) aNil)) aNil))))
def l__law_divisor_2 : SX := (sFor (mItems (mFn 2 F__law_some (aCons (mVar 1) (aCons (mVar 2) aNil)))) (tgN 5) l__law_divisor_1)
def m__law_divisor : SX := (sSeq (sSet 3 (mC (.int 0)))
  (sSeq (sFor (mItems (mFn 2 F__law_some (aCons (mCall gLen (aCons (mVar 0) aNil)) (aCons (mVar 2) aNil)))) (tgN 4) l__law_divisor_2)
  (sRet (mVar 3))))
def F__law_divisor : List D → FR := runF 8 m__law_divisor
/-! _law_rank -/
abbrev s__law_rank : Stmt := top 39
abbrev N__law_rank : List Str := ["rows", "width", "size"]
theorem S__law_rank : FnScope N__law_rank ["rows", "width"] (defScope s__law_rank) := ⟨rfl, rfl, rfl, by decide +kernel, rfl, by decide +kernel, by decide +kernel⟩
def l__law_rank_1 : SX := (sSet 2 (mBin gAddA (mVar 2) (mC (.int 1))))
def m__law_rank : SX := (sSeq (sSet 2 (mC (.int 0)))
  (sSeq (sWhile (mTAnd (mT (mBin (gIB fun i j => decide (i < j)) (mVar 2) (mCall gMin2 (aCons (mCall gLen (aCons (mVar 0) aNil)) (aCons (mVar 1) aNil))))) (mT (mBin (gEqB true) (mFn 3 F__law_divisor (aCons (mVar 0) (aCons (mVar 1) (aCons (mBin gAddA (mVar 2) (mC (.int 1))) aNil)))) (mC (.int 0))))) l__law_rank_1)
  (sRet (mVar 2))))
def F__law_rank : List D → FR := runF 3 m__law_rank
/-! _law_plus -/
abbrev s__law_plus : Stmt := top 40
abbrev N__law_plus : List Str := ["one", "other", "above", "below", "divisor"]
theorem S__law_plus : FnScope N__law_plus ["one", "other"] (defScope s__law_plus) := ⟨rfl, rfl, rfl, by decide +kernel, rfl, by decide +kernel, by decide +kernel⟩
def m__law_plus : SX := (sSeq (sPar 2 3 (aCons (mBin gAddA (mBin gMulA (mBin gIx (mVar 0) (mC (.int 0))) (mBin gIx (mVar 1) (mC (.int 1)))) (mBin gMulA (mBin gIx (mVar 1) (mC (.int 0))) (mBin gIx (mVar 0) (mC (.int 1))))) (aCons (mBin gMulA (mBin gIx (mVar 0) (mC (.int 1))) (mBin gIx (mVar 1) (mC (.int 1)))) aNil)))
  (sSeq (sSet 4 (mFn 2 F__law_gcd (aCons (mVar 2) (aCons (mVar 3) aNil))))
  (sRet (mTup (aCons (mBin gDiv (mVar 2) (mVar 4)) (aCons (mBin gDiv (mVar 3) (mVar 4)) aNil))))))
def F__law_plus : List D → FR := runF 5 m__law_plus
/-! _law_mix -/
abbrev s__law_mix : Stmt := top 41
abbrev N__law_mix : List Str := ["row", "parts", "found", "one", "part_v"]
theorem S__law_mix : FnScope N__law_mix ["row", "parts"] (defScope s__law_mix) := ⟨rfl, rfl, rfl, by decide +kernel, rfl, by decide +kernel, by decide +kernel⟩
def l__law_mix_1 : SX := (sSet 2 (mFn 2 F__law_plus (aCons (mVar 2) (aCons (mTup (aCons (mBin gMulA (mVar 3) (mBin gIx (mVar 4) (mC (.int 0)))) (aCons (mBin gIx (mVar 4) (mC (.int 1))) aNil))) aNil))))
def m__law_mix : SX := (sSeq (sSet 2 (mTup (aCons (mC (.int 0)) (aCons (mC (.int 1)) aNil))))
  (sSeq (sFor (mItC gZip (aCons (mVar 0) (aCons (mVar 1) aNil))) (tgT 2 (tgsC (tgN 3) (tgsC (tgN 4) tgsN))) l__law_mix_1)
  (sRet (mVar 2))))
def F__law_mix : List D → FR := runF 5 m__law_mix
/-! _law_bad -/
abbrev s__law_bad : Stmt := top 42
abbrev N__law_bad : List Str := ["dice"]
theorem S__law_bad : FnScope N__law_bad ["dice"] (defScope s__law_bad) := ⟨rfl, rfl, rfl, by decide +kernel, rfl, by decide +kernel, by decide +kernel⟩
def m__law_bad : SX := (sRet (mFnD 0 2 F__law_pick (aCons (mFz (mLst (aCons (mC .non) (aCons (mTup (aCons (mC (.int 0)) (aCons (mTup aNil) aNil))) (aCons (mTup (aCons (mC (.int 7)) (aCons (mTup aNil) aNil))) (aCons (mTup (aCons (mC (.int 1)) (aCons (mFz (mLst (aCons (mTup (aCons (mC (.int 1)) aNil)) aNil))) aNil))) (aCons (mTup (aCons (mC (.int 1)) (aCons (mTup (aCons (mTup (aCons (mC (.int 1)) (aCons (mC (.int 2)) aNil))) aNil)) aNil))) (aCons (mTup (aCons (mC (.int 1)) (aCons (mTup (aCons (mTup (aCons (mC (.bl true)) aNil)) aNil)) aNil))) (aCons (mTup (aCons (mC (.int 2)) (aCons (mTup (aCons (mTup (aCons (mC (.int 1)) aNil)) aNil)) aNil))) (aCons (mTup (aCons (mC (.int 1)) (aCons (mTup (aCons (mTup (aCons (mC (.int 1000001)) aNil)) aNil)) aNil))) (aCons (mTup (aCons (mTup (aCons (mC (.int 1)) aNil)) aNil)) (aCons (mTup (aCons (mC (.int 1)) (aCons (mBin gMulA (mTup (aCons (mTup (aCons (mC (.int 1)) aNil)) aNil)) (mC (.int 7))) aNil))) aNil)))))))))))) aNil)))
def F__law_bad : List D → List D → FRD := runD 1 m__law_bad
/-! _law_part -/
abbrev s__law_part : Stmt := top 43
abbrev N__law_part : List Str := ["rows", "ups", "sides", "at", "side"]
theorem S__law_part : FnScope N__law_part ["rows", "ups", "sides"] (defScope s__law_part) := ⟨rfl, rfl, rfl, by decide +kernel, rfl, by decide +kernel, by decide +kernel⟩
def c__law_part_2 : ML := mLc (mItems (mVar 2)) (tgN 4) mYes (mBin gIx (mBin gIx (mVar 0) (mVar 3)) (mVar 4)) [4]
def c__law_part_1 : ML := mLc (mItems (mVar 1)) (tgN 3) mYes (mCall gTuple (aCons (mFz c__law_part_2) aNil)) [3]
def m__law_part : SX := (sRet (mFn 1 (F__law_det 6) (aCons (mFz c__law_part_1) aNil)))
def F__law_part : List D → FR := runF 5 m__law_part
/-! _law_product -/
abbrev s__law_product : Stmt := top 44
abbrev N__law_product : List Str := ["one", "other", "width", "columns", "at", "row", "column"]
theorem S__law_product : FnScope N__law_product ["one", "other", "width"] (defScope s__law_product) := ⟨rfl, rfl, rfl, by decide +kernel, rfl, by decide +kernel, by decide +kernel⟩
def c__law_product_2 : ML := mLc (mItems (mVar 1)) (tgN 5) mYes (mBin gIx (mVar 5) (mVar 4)) [5]
def c__law_product_1 : ML := mLc (mItC gRng1 (aCons (mVar 2) aNil)) (tgN 4) mYes (mCall gTuple (aCons (mFz c__law_product_2) aNil)) [4]
def c__law_product_4 : ML := mLc (mItems (mVar 3)) (tgN 6) mYes (mFn 2 F__law_dot (aCons (mVar 5) (aCons (mVar 6) aNil))) [6]
def c__law_product_3 : ML := mLc (mItems (mVar 0)) (tgN 5) mYes (mCall gTuple (aCons (mFz c__law_product_4) aNil)) [5]
def m__law_product : SX := (sSeq (sSet 3 (mFz c__law_product_1))
  (sRet (mCall gTuple (aCons (mFz c__law_product_3) aNil))))
def F__law_product : List D → FR := runF 7 m__law_product
/-! _law_right -/
abbrev s__law_right : Stmt := top 45
abbrev N__law_right : List Str := ["dice", "size", "ups", "sides", "table", "other", "own", "wide", "both", "whole", "turned", "straight", "point", "row", "total", "rows", "names", "bad", "grid", "many", "square", "sums", "width", "one", "turn", "two"]
theorem S__law_right : FnScope N__law_right ["dice"] (defScope s__law_right) := ⟨rfl, rfl, rfl, by decide +kernel, rfl, by decide +kernel, by decide +kernel⟩
def c__law_right_2 : ML := mLc (mItems (mFn 2 F__law_some (aCons (mVar 22) (aCons (mVar 1) aNil)))) (tgN 5) mYes (mFn 3 F__law_part (aCons (mBin gIx (mVar 18) (mC (.int 1))) (aCons (mVar 23) (aCons (mVar 5) aNil)))) [5]
def c__law_right_1 : ML := mLc (mItems (mFn 2 F__law_some (aCons (mVar 19) (aCons (mVar 1) aNil)))) (tgN 23) mYes (mCall gTuple (aCons (mFz c__law_right_2) aNil)) [23]
def c__law_right_3 : ML := mLc (mItC gRng1 (aCons (mVar 22) aNil)) (tgN 24) mYes (mFnD 0 3 F__law_row (aCons (mVar 7) (aCons (mC (.int 2)) aNil))) [24]
def c__law_right_4 : ML := mLc (mItC gRng1 (aCons (mVar 19) aNil)) (tgN 24) mYes (mFnD 0 3 F__law_row (aCons (mVar 19) (aCons (mC (.int 3)) aNil))) [24]
def c__law_right_6 : ML := mLc (mItC gRng1 (aCons (mVar 19) aNil)) (tgN 25) mYes (mIf (mT (mBin (gEqB false) (mVar 23) (mVar 25))) (mVar 9) (mC (.int 0))) [25]
def c__law_right_5 : ML := mLc (mItC gRng1 (aCons (mVar 19) aNil)) (tgN 23) mYes (mCall gTuple (aCons (mFz c__law_right_6) aNil)) [23]
def l__law_right_1 : SX := (sIf (mT (mBin (gEqB true) (mFn 2 F__law_mix (aCons (mVar 13) (aCons (mVar 12) aNil))) (mTup (aCons (mVar 14) (aCons (mC (.int 1)) aNil))))) (sRet (mC (.bl false))) sNil)
def m__law_right : SX := (sSeq (sAsg (tgT 2 (tgsC (tgN 22) (tgsC (tgN 19) tgsN))) (mTup (aCons (mBin gAddA (mC (.int 1)) (mFnD 0 2 F__law_roll (aCons (mC (.int 4)) aNil))) (aCons (mBin gAddA (mC (.int 1)) (mFnD 0 2 F__law_roll (aCons (mC (.int 3)) aNil))) aNil))))
  (sSeq (sSet 18 (mFnD 0 3 F__law_grid (aCons (mVar 22) (aCons (mVar 19) aNil))))
  (sSeq (sSet 1 (mBin gAddA (mC (.int 1)) (mFnD 0 2 F__law_roll (aCons (mCall gMin2 (aCons (mVar 22) (aCons (mVar 19) aNil))) aNil))))
  (sSeq (sPar 2 3 (aCons (mFnD 0 2 F__law_pick (aCons (mFn 2 F__law_some (aCons (mVar 19) (aCons (mVar 1) aNil))) aNil)) (aCons (mFnD 0 2 F__law_pick (aCons (mFn 2 F__law_some (aCons (mVar 22) (aCons (mVar 1) aNil))) aNil)) aNil)))
  (sSeq (sIf (mT (mBin (gEqB true) (mFnK 2 1 3 F_minor (aCons (mVar 18) (aCons (mVar 2) aNil)) (aCons (mVar 3) aNil)) (mFn 3 F__law_part (aCons (mBin gIx (mVar 18) (mC (.int 1))) (aCons (mVar 2) (aCons (mVar 3) aNil)))))) (sRet (mC (.bl false))) sNil)
  (sSeq (sSet 4 (mFnK 1 1 2 F_compound (aCons (mVar 18) aNil) (aCons (mVar 1) aNil)))
  (sSeq (sSet 6 (mCall gTuple (aCons (mFz c__law_right_1) aNil)))
  (sSeq (sIf (mTOr (mT (mBin (gEqB true) (mVar 4) (mVar 6))) (mT (mBin (gEqB true) (mFnK 1 1 2 F_common_minor (aCons (mVar 18) aNil) (aCons (mVar 1) aNil)) (mFn 3 F__law_divisor (aCons (mFz (mCall gList (aCons (mBin gIx (mVar 18) (mC (.int 1))) aNil))) (aCons (mVar 22) (aCons (mVar 1) aNil))))))) (sRet (mC (.bl false))) sNil)
  (sSeq (sIf (mT (mBin (gEqB true) (mFn 1 F_rank_by_minors (aCons (mVar 18) aNil)) (mFn 2 F__law_rank (aCons (mFz (mCall gList (aCons (mBin gIx (mVar 18) (mC (.int 1))) aNil))) (aCons (mVar 22) aNil))))) (sRet (mC (.bl false))) sNil)
  (sSeq (sSet 7 (mBin gAddA (mC (.int 1)) (mFnD 0 2 F__law_roll (aCons (mC (.int 3)) aNil))))
  (sSeq (sSet 5 (mTup (aCons (mVar 7) (aCons (mCall gTuple (aCons (mFz c__law_right_3) aNil)) aNil))))
  (sSeq (sSet 8 (mTup (aCons (mVar 7) (aCons (mFn 3 F__law_product (aCons (mBin gIx (mVar 18) (mC (.int 1))) (aCons (mBin gIx (mVar 5) (mC (.int 1))) (aCons (mVar 7) aNil)))) aNil))))
  (sSeq (sIf (mT (mBin (gIB fun i j => decide (i ≤ j)) (mVar 1) (mCall gMin3 (aCons (mVar 7) (aCons (mVar 22) (aCons (mVar 19) aNil)))))) (sIf (mT (mBin (gEqB true) (mFn 2 F_compound (aCons (mVar 8) (aCons (mVar 1) aNil))) (mFn 3 F__law_product (aCons (mVar 4) (aCons (mFn 2 F_compound (aCons (mVar 5) (aCons (mVar 1) aNil))) (aCons (mCall gLen (aCons (mFn 2 F__law_some (aCons (mVar 7) (aCons (mVar 1) aNil))) aNil)) aNil)))))) (sRet (mC (.bl false))) sNil) sNil)
  (sSeq (sSet 20 (mTup (aCons (mVar 19) (aCons (mCall gTuple (aCons (mFz c__law_right_4) aNil)) aNil))))
  (sSeq (sSet 9 (mFn 1 (F__law_det 6) (aCons (mBin gIx (mVar 20) (mC (.int 1))) aNil)))
  (sSeq (sSet 10 (mFn 1 F_cofactors (aCons (mVar 20) aNil)))
  (sSeq (sSet 11 (mCall gTuple (aCons (mFz c__law_right_5) aNil)))
  (sSeq (sIf (mTOr (mT (mBin (gEqB true) (mFn 3 F__law_product (aCons (mBin gIx (mVar 20) (mC (.int 1))) (aCons (mVar 10) (aCons (mVar 19) aNil)))) (mVar 11))) (mT (mBin (gEqB true) (mFn 3 F__law_product (aCons (mVar 10) (aCons (mBin gIx (mVar 20) (mC (.int 1))) (aCons (mVar 19) aNil)))) (mVar 11)))) (sRet (mC (.bl false))) sNil)
  (sSeq (sSet 21 (mFnD 0 3 F__law_row (aCons (mVar 19) (aCons (mC (.int 4)) aNil))))
  (sSeq (sSet 12 (mFnK 1 1 2 F_by_cofactors (aCons (mVar 20) aNil) (aCons (mVar 21) aNil)))
  (sSeq (sIf (mT (mBin (gEqB true) (mBin gIsN (mVar 12) (mC .non)) (mBin (gEqB false) (mVar 9) (mC (.int 0))))) (sRet (mC (.bl false))) sNil)
  (sSeq (sIf (mT (mBin gNotN (mVar 12) (mC .non))) (sFor (mItC gZip (aCons (mBin gIx (mVar 20) (mC (.int 1))) (aCons (mVar 21) aNil))) (tgT 2 (tgsC (tgN 13) (tgsC (tgN 14) tgsN))) l__law_right_1) sNil)
  (sSeq (sSet 15 (mFnD 0 2 F__law_pick (aCons (mFn 2 F__law_some (aCons (mVar 19) (aCons (mFnD 0 2 F__law_roll (aCons (mBin gAddA (mVar 19) (mC (.int 1))) aNil)) aNil))) aNil)))
  (sSeq (sIf (mT (mBin (gEqB true) (mFnK 1 1 2 F_by_rows (aCons (mVar 20) aNil) (aCons (mVar 15) aNil)) (mVar 9))) (sRet (mC (.bl false))) sNil)
  (sSeq (sSet 17 (mFnD 0 1 F__law_bad aNil))
  (sSeq (sSet 16 (mFz (mLst (aCons (mRef (mFn 3 F_minor (aCons (mVar 17) (aCons (mTup aNil) (aCons (mTup aNil) aNil))))) (aCons (mRef (mFn 3 F_minor (aCons (mVar 18) (aCons (mTup (aCons (mVar 19) aNil)) (aCons (mTup (aCons (mC (.int 0)) aNil)) aNil))))) (aCons (mRef (mFn 3 F_minor (aCons (mVar 18) (aCons (mC .non) (aCons (mTup aNil) aNil))))) (aCons (mRef (mFn 3 F_minor (aCons (mVar 18) (aCons (mTup (aCons (mC (.int 0)) aNil)) (aCons (mTup aNil) aNil))))) (aCons (mRef (mFn 3 F_minor (aCons (mVar 18) (aCons (mTup (aCons (mC (.int 0)) aNil)) (aCons (mTup (aCons (mVar 22) aNil)) aNil))))) (aCons (mRef (mFn 2 F_compound (aCons (mVar 18) (aCons (mC (.int 0)) aNil)))) (aCons (mRef (mFn 2 F_compound (aCons (mVar 18) (aCons (mBin gAddA (mCall gMin2 (aCons (mVar 22) (aCons (mVar 19) aNil))) (mC (.int 1))) aNil)))) (aCons (mRef (mFn 2 F_common_minor (aCons (mVar 17) (aCons (mC (.int 1)) aNil)))) (aCons (mRef (mFn 1 F_cofactors (aCons (mTup (aCons (mC (.int 2)) (aCons (mTup (aCons (mTup (aCons (mC (.int 1)) (aCons (mC (.int 2)) aNil))) aNil)) aNil))) aNil))) (aCons (mRef (mFn 2 F_by_cofactors (aCons (mVar 20) (aCons (mBin gAddA (mVar 21) (mTup (aCons (mC (.int 0)) aNil))) aNil)))) (aCons (mRef (mFn 2 F_by_rows (aCons (mVar 20) (aCons (mTup (aCons (mVar 19) aNil)) aNil)))) (aCons (mRef (mFn 1 F_rank_by_minors (aCons (mVar 17) aNil))) aNil)))))))))))))))
  (sRet (mBin (gEqB false) (mVar 16) (mFz (mLst (aCons (mC (.str "grid")) (aCons (mC (.str "ups")) (aCons (mC (.str "ups")) (aCons (mC (.str "sides")) (aCons (mC (.str "sides")) (aCons (mC (.str "size")) (aCons (mC (.str "size")) (aCons (mC (.str "grid")) (aCons (mC (.str "grid")) (aCons (mC (.str "sums")) (aCons (mC (.str "ups")) (aCons (mC (.str "grid")) aNil))))))))))))))))))))))))))))))))))))))))))
def F__law_right : List D → List D → FRD := runD 26 m__law_right
/-! law -/
abbrev s_law : Stmt := top 46
abbrev N_law : List Str := ["script", "spot"]
theorem S_law : FnScope N_law ["script"] (defScope s_law) := ⟨rfl, rfl, rfl, by decide +kernel, rfl, by decide +kernel, by decide +kernel⟩
def l_law_1 : SX := (sIf (mTNot (mT (mFnDO 2 F__law_dice F__law_right (aCons (mVar 0) (aCons (mVar 1) aNil))))) (sRet (mC (.bl false))) sNil)
def m_law : SX := (sSeq (sFor (mItC gRng1 (aCons (mCall gMax2 (aCons (mC (.int 1)) (aCons (mCall gMin2 (aCons (mC (.int 4)) (aCons (mCall gLen (aCons (mVar 0) aNil)) aNil))) aNil))) aNil)) (tgN 1) l_law_1)
  (sRet (mC (.bl true))))
def F_law : List D → FR := runF 2 m_law
/-! ### what the head tells -/
abbrev cK (K : PySem.W.Frag) : Cc := ⟨fun _ => 0, He.ga K "BadArgument", [(He.cT K ("is_row_of", none)).2, (He.cT K ("is_grid", none)).2], [((He.cT K ("_law_right", none)).2, (("_law_right" : Str) ++ ".<locals>.") ++ "<lambda>")]⟩
structure LF (P : Program) (w : World) (K : PySem.W.Frag) (mg : Str → Option Value) (base : Heap) : Prop where
  b_abs : mg "abs" = none
  b_all : mg "all" = none
  b_bool : mg "bool" = none
  b_int : mg "int" = none
  b_isinstance : mg "isinstance" = none
  b_len : mg "len" = none
  b_list : mg "list" = none
  b_max : mg "max" = none
  b_min : mg "min" = none
  b_range : mg "range" = none
  b_sum : mg "sum" = none
  b_tuple : mg "tuple" = none
  b_zip : mg "zip" = none
  c_MOST_WIDTH : ∃ t, mg "MOST_WIDTH" = some (.int 6 t)
  c_MOST_ROWS : ∃ t, mg "MOST_ROWS" = some (.int 6 t)
  c_MOST_NUMBER : ∃ t, mg "MOST_NUMBER" = some (.int 1000000 t)
  bad : mg "BadArgument" = some (.ref (cK K).bad)
  sup : ∃ fI fd, SupOk P K mg "bad argument: " (cK K).bad fI fd
  xf : XfC K (cK K).bad
  exm : PySem.W.exmOne K (.ref (cK K).bad) (.ref (cK K).bad) = some true
  noname : PySem.W.findIn K (.ref (cK K).bad) "name" = some none
  t_is_row_of : GxR.TabB base mg (He.cT K ("is_row_of", none)).1 (He.cT K ("is_row_of", none)).2
  t_is_grid : GxR.TabB base mg (He.cT K ("is_grid", none)).1 (He.cT K ("is_grid", none)).2
  t__law_right : GxR.TabB base mg (He.cT K ("_law_right", none)).1 (He.cT K ("_law_right", none)).2
  x_is_row_of : ∀ q ∈ (cK K).T2, q.1 ≠ (He.cT K ("is_row_of", none)).2
  x_is_grid : ∀ q ∈ (cK K).T2, q.1 ≠ (He.cT K ("is_grid", none)).2
  y__law_right : ∀ p ∈ (cK K).T2, p.1 = (He.cT K ("_law_right", none)).2 → p.2 = (("_law_right" : Str) ++ ".<locals>.") ++ "<lambda>"
  z__law_right : ∀ P' ∈ (cK K).T1, P' ≠ (He.cT K ("_law_right", none)).2
  d_is_integer : FactD K mg "is_integer" s_is_integer
  d_is_row_of : FactD K mg "is_row_of" s_is_row_of
  d_is_grid : FactD K mg "is_grid" s_is_grid
  d_need_grid : FactD K mg "need_grid" s_need_grid
  d_need_sums : FactD K mg "need_sums" s_need_sums
  d_need_square : FactD K mg "need_square" s_need_square
  d_common : FactD K mg "common" s_common
  d_ratio : FactD K mg "ratio" s_ratio
  d_determinant : FactD K mg "determinant" s_determinant
  d_chosen : FactD K mg "chosen" s_chosen
  d_part : FactD K mg "part" s_part
  d_is_choice : FactD K mg "is_choice" s_is_choice
  d_minor : FactD K mg "minor" s_minor
  d_need_size : FactD K mg "need_size" s_need_size
  d_compound : FactD K mg "compound" s_compound
  d_common_minor : FactD K mg "common_minor" s_common_minor
  d_cofactors : FactD K mg "cofactors" s_cofactors
  d_by_cofactors : FactD K mg "by_cofactors" s_by_cofactors
  d_by_rows : FactD K mg "by_rows" s_by_rows
  d_rank_by_minors : FactD K mg "rank_by_minors" s_rank_by_minors
  d__law_dice : FactD K mg "_law_dice" s__law_dice
  d__law_roll : FactD K mg "_law_roll" s__law_roll
  d__law_pick : FactD K mg "_law_pick" s__law_pick
  d__law_refused : FactD K mg "_law_refused" s__law_refused
  d__law_gcd : FactD K mg "_law_gcd" s__law_gcd
  d__law_row : FactD K mg "_law_row" s__law_row
  d__law_grid : FactD K mg "_law_grid" s__law_grid
  d__law_dot : FactD K mg "_law_dot" s__law_dot
  d__law_det : FactD K mg "_law_det" s__law_det
  d__law_some : FactD K mg "_law_some" s__law_some
  d__law_divisor : FactD K mg "_law_divisor" s__law_divisor
  d__law_rank : FactD K mg "_law_rank" s__law_rank
  d__law_plus : FactD K mg "_law_plus" s__law_plus
  d__law_mix : FactD K mg "_law_mix" s__law_mix
  d__law_bad : FactD K mg "_law_bad" s__law_bad
  d__law_part : FactD K mg "_law_part" s__law_part
  d__law_product : FactD K mg "_law_product" s__law_product
  d__law_right : FactD K mg "_law_right" s__law_right
  d_law : FactD K mg "law" s_law
section
variable {P : Program} {w : World} {K : PySem.W.Frag} {mg : Str → Option Value} {base : Heap}
theorem bn__law_refused : BindsN "_law_refused" s__law_refused ["call"] := fun _ _ _ _ _ _ us hl => match us, hl with | [_], _ => rfl
theorem ref_ok (F : LF P w K mg base) : ∃ fd, FunD K "_law_refused" "_law_refused" (defArgs s__law_refused) (refBody "call" "BadArgument" "e" "name" "" 0 (fun i => [⟨153, 8, 153, 12⟩, ⟨153, 8, 153, 14⟩, ⟨153, 8, 153, 14⟩, ⟨154, 11, 154, 22⟩, ⟨155, 15, 155, 16⟩, ⟨155, 15, 155, 21⟩, ⟨155, 8, 155, 21⟩, ⟨154, 4, 155, 21⟩, ⟨152, 4, 155, 21⟩, ⟨156, 11, 156, 13⟩, ⟨156, 4, 156, 13⟩].getD i ⟨0, 0, 0, 0⟩)) (defScope s__law_refused) [] [] (He.ga K "_law_refused") fd := F.d__law_refused.ex
theorem bn_is_integer : BindsN "is_integer" s_is_integer ["value"] := fun _ _ _ _ _ _ us hl => match us, hl with | [_], _ => rfl
theorem b_is_integer (F : LF P w K mg base) : Bod P w K mg base N_is_integer "is_integer" (defScope s_is_integer) (He.ga K "is_integer") 0 (cK K) false (defBody s_is_integer) m_is_integer := by
  unfold m_is_integer
  exact fun cd A outer s H E hr hcd p ni => 
  (mb_one (ms_ret (me_and (me_isi kit_int F.b_isinstance F.b_int PyProof.Rows.boot_int (me_var 0)) (me_one (me_not (me_isi kit_bool F.b_isinstance F.b_bool (by decide +kernel) (me_var 0)))))))
theorem cal_is_integer (F : LF P w K mg base) : Cal P w K mg base 1 "is_integer" ["value"] (spP K (cK K) 1 F_is_integer) := cal_P F.d_is_integer S_is_integer bn_is_integer (b_is_integer F)
abbrev sc_is_row_of_1 : Scope := { kind := .function, names := [(".0", .local), ("one", .local), ("is_integer", .globalImplicit)], isGenerator := true, isCoroutine := false, more := [] }
theorem gs_is_row_of_1 : GS N_is_row_of (defScope s_is_row_of) sc_is_row_of_1 ["one"] := gs_by (by decide +kernel)
theorem hx_is_row_of_1 : ∀ (i : Nat) (y : Str), N_is_row_of[i]? = some y → y ∈ (["one"] : List Str) → i ∈ ([2] : List Nat) := hxs_by (by decide +kernel)
abbrev sc_is_row_of_2 : Scope := { kind := .function, names := [(".0", .local), ("one", .local), ("abs", .globalImplicit), ("MOST_NUMBER", .globalImplicit)], isGenerator := false, isCoroutine := false, more := [] }
theorem ok_is_row_of_2 : BlkOk N_is_row_of (defScope s_is_row_of) sc_is_row_of_2 [("one", 2)] := blkOk_by (by decide +kernel)
theorem bn_is_row_of : BindsN "is_row_of" s_is_row_of ["value", "width"] := fun _ _ _ _ _ _ us hl => match us, hl with | [_, _], _ => rfl
theorem b_is_row_of (F : LF P w K mg base) : Bod P w K mg base N_is_row_of "is_row_of" (defScope s_is_row_of) (He.ga K "is_row_of") 2 (cK K) false (defBody s_is_row_of) m_is_row_of := by
  unfold m_is_row_of c_is_row_of_2
  exact fun cd A outer s H E hr hcd p ni => 
  (mb_cons (ms_if (mt_w (mw_or (mt_not (mt_val (me_isi kit_tuple F.b_isinstance F.b_tuple PyProof.Rows.boot_tuple (me_var 0)))) (mw_or (mt_c (mc_ne hr (me_len F.b_len (ma_cons (me_var 0) ma_nil)) (me_var 1))) (mw_or1 (mt_not (mt_val (me_allG (k := 1) F.b_all (hr.mono (by decide)) F.t_is_row_of (code_at hcd) (by simp [cK]) F.x_is_row_of gs_is_row_of_1 hx_is_row_of_1 (mi_seq (me_var 0)) (fun j1 => (mg_name 2 S_is_row_of.nd)) (fun j1 f1 => (me_call (n := 1) (cal_is_integer F) (j1.2.mono (by decide)) Pas.none (ma_cons (me_var 2) ma_nil)))))))))) (mb_one (ms_ret me_bl)) mb_nil)
  (mb_one (ms_ret (me_allL F.b_all (ma_cons (me_fz (ml_lc (own := [("one", 2)]) (mi_seq (me_var 0)) ok_is_row_of_2 (blk_g fun i2 => (mg_name 2 S_is_row_of.nd)) (blk_t fun i2 f2 => mts_nil) (blk_e fun i2 f2 => (me_c (mc_le (me_abs F.b_abs (ma_cons (me_var 2) ma_nil)) (me_gint F.c_MOST_NUMBER)))) S_is_row_of.nd)) ma_nil)))))
theorem cal_is_row_of (F : LF P w K mg base) : Cal P w K mg base 3 "is_row_of" ["value", "width"] (spP K (cK K) 2 F_is_row_of) := cal_P F.d_is_row_of S_is_row_of bn_is_row_of (b_is_row_of F)
abbrev sc_is_grid_1 : Scope := { kind := .function, names := [(".0", .local), ("row", .local), ("value", .free), ("is_row_of", .globalImplicit)], isGenerator := true, isCoroutine := false, more := [] }
theorem gs_is_grid_1 : GS N_is_grid (defScope s_is_grid) sc_is_grid_1 ["row"] := gs_by (by decide +kernel)
theorem hx_is_grid_1 : ∀ (i : Nat) (y : Str), N_is_grid[i]? = some y → y ∈ (["row"] : List Str) → i ∈ ([1] : List Nat) := hxs_by (by decide +kernel)
theorem bn_is_grid : BindsN "is_grid" s_is_grid ["value"] := fun _ _ _ _ _ _ us hl => match us, hl with | [_], _ => rfl
theorem b_is_grid (F : LF P w K mg base) : Bod P w K mg base N_is_grid "is_grid" (defScope s_is_grid) (He.ga K "is_grid") 4 (cK K) false (defBody s_is_grid) m_is_grid := by
  unfold m_is_grid
  exact fun cd A outer s H E hr hcd p ni => 
  (mb_cons (ms_if (mt_w (mw_or (mt_not (mt_val (me_isi kit_tuple F.b_isinstance F.b_tuple PyProof.Rows.boot_tuple (me_var 0)))) (mw_or (mt_c (mc_ne hr (me_len F.b_len (ma_cons (me_var 0) ma_nil)) me_int)) (mw_or (mt_not (mt_val (me_call (n := 1) (cal_is_integer F) (hr.mono (by decide)) pasB (ma_cons (me_ix (me_var 0) me_int) ma_nil)))) (mw_or1 (mt_not (mt_chain (g := gIB fun i j => decide (i ≤ j)) (g' := gIB fun i j => decide (i ≤ j)) op_le op_le (ops_I0 fun _ _ _ => .bl _) (ops_I0 fun _ _ _ => .bl _) me_int (me_ix (me_var 0) me_int) (me_gint F.c_MOST_WIDTH)))))))) (mb_one (ms_ret me_bl)) mb_nil)
  (mb_cons (ms_if (mt_w (mw_or (mt_not (mt_val (me_isi kit_tuple F.b_isinstance F.b_tuple PyProof.Rows.boot_tuple (me_ix (me_var 0) me_int)))) (mw_or1 (mt_c (mc_gt (me_len F.b_len (ma_cons (me_ix (me_var 0) me_int) ma_nil)) (me_gint F.c_MOST_ROWS)))))) (mb_one (ms_ret me_bl)) mb_nil)
  (mb_one (ms_ret (me_allG (k := 3) F.b_all (hr.mono (by decide)) F.t_is_grid (code_at hcd) (by simp [cK]) F.x_is_grid gs_is_grid_1 hx_is_grid_1 (mi_seq (me_ix (me_var 0) me_int)) (fun j1 => (mg_name 1 S_is_grid.nd)) (fun j1 f1 => (me_call (n := 2) (cal_is_row_of F) (j1.2.mono (by decide)) Pas.none (ma_cons (me_var 1) (ma_cons (me_ix (me_var 0) me_int) ma_nil)))))))))
theorem cal_is_grid (F : LF P w K mg base) : Cal P w K mg base 5 "is_grid" ["value"] (spP K (cK K) 1 F_is_grid) := cal_P F.d_is_grid S_is_grid bn_is_grid (b_is_grid F)
theorem bn_need_grid : BindsN "need_grid" s_need_grid ["value", "name"] := fun _ _ _ _ _ _ us hl => match us, hl with | [_, _], _ => rfl
theorem b_need_grid (F : LF P w K mg base) : Bod P w K mg base N_need_grid "need_grid" (defScope s_need_grid) (He.ga K "need_grid") 5 (cK K) false (defBody s_need_grid) m_need_grid := by
  obtain ⟨fI, fd, SU⟩ := F.sup
  unfold m_need_grid
  exact fun cd A outer s H E hr hcd p ni => 
  (mb_one (ms_if (mt_not (mt_val (me_call (n := 1) (cal_is_grid F) (hr.mono (by decide)) pasB (ma_cons (me_var 0) ma_nil)))) (mb_one (ms_raise SU ((hr.mono (by decide))) takesB F.bad (me_var 1))) mb_nil))
theorem cal_need_grid (F : LF P w K mg base) : Cal P w K mg base 6 "need_grid" ["value", "name"] (spP K (cK K) 2 F_need_grid) := cal_P F.d_need_grid S_need_grid bn_need_grid (b_need_grid F)
theorem bn_need_sums : BindsN "need_sums" s_need_sums ["sums", "grid"] := fun _ _ _ _ _ _ us hl => match us, hl with | [_, _], _ => rfl
theorem b_need_sums (F : LF P w K mg base) : Bod P w K mg base N_need_sums "need_sums" (defScope s_need_sums) (He.ga K "need_sums") 3 (cK K) false (defBody s_need_sums) m_need_sums := by
  obtain ⟨fI, fd, SU⟩ := F.sup
  unfold m_need_sums
  exact fun cd A outer s H E hr hcd p ni => 
  (mb_one (ms_if (mt_not (mt_val (me_call (n := 2) (cal_is_row_of F) (hr.mono (by decide)) pasB (ma_cons (me_var 0) (ma_cons (me_len F.b_len (ma_cons (me_ix (me_var 1) me_int) ma_nil)) ma_nil))))) (mb_one (ms_raise SU ((hr.mono (by decide))) takesB F.bad me_str)) mb_nil))
theorem cal_need_sums (F : LF P w K mg base) : Cal P w K mg base 4 "need_sums" ["sums", "grid"] (spP K (cK K) 2 F_need_sums) := cal_P F.d_need_sums S_need_sums bn_need_sums (b_need_sums F)
theorem bn_need_square : BindsN "need_square" s_need_square ["grid", "name"] := fun _ _ _ _ _ _ us hl => match us, hl with | [_, _], _ => rfl
theorem b_need_square (F : LF P w K mg base) : Bod P w K mg base N_need_square "need_square" (defScope s_need_square) (He.ga K "need_square") 6 (cK K) false (defBody s_need_square) m_need_square := by
  obtain ⟨fI, fd, SU⟩ := F.sup
  unfold m_need_square
  exact fun cd A outer s H E hr hcd p ni => 
  (mb_cons (ms_expr (me_call (n := 2) (cal_need_grid F) (hr.mono (by decide)) pasB (ma_cons (me_var 0) (ma_cons (me_var 1) ma_nil))))
  (mb_one (ms_if (mt_c (mc_ne hr (me_ix (me_var 0) me_int) (me_len F.b_len (ma_cons (me_ix (me_var 0) me_int) ma_nil)))) (mb_one (ms_raise SU ((hr.mono (by decide))) takesB F.bad (me_var 1))) mb_nil)))
theorem cal_need_square (F : LF P w K mg base) : Cal P w K mg base 7 "need_square" ["grid", "name"] (spP K (cK K) 2 F_need_square) := cal_P F.d_need_square S_need_square bn_need_square (b_need_square F)
theorem bn_common : BindsN "common" s_common ["one", "other"] := fun _ _ _ _ _ _ us hl => match us, hl with | [_, _], _ => rfl
theorem b_common (F : LF P w K mg base) : Bod P w K mg base N_common "common" (defScope s_common) (He.ga K "common") 0 (cK K) false (defBody s_common) m_common := by
  unfold m_common l_common_1
  exact fun cd A outer s H E hr hcd p ni => 
  (mb_cons (ms_set 0 (me_abs F.b_abs (ma_cons (me_var 0) ma_nil)) (hN := S_common.nd))
  (mb_cons (ms_set 1 (me_abs F.b_abs (ma_cons (me_var 1) ma_nil)) (hN := S_common.nd))
  (mb_cons (ms_while ownsB (mt_c (mc_gt (me_var 1) me_int)) (mb_one (ms_par 0 1 (ma_cons (me_var 1) (ma_cons (me_mod (me_var 0) (me_var 1)) ma_nil)) (hN := S_common.nd))))
  (mb_one (ms_ret (me_var 0))))))
theorem cal_common (F : LF P w K mg base) : Cal P w K mg base 1 "common" ["one", "other"] (spP K (cK K) 2 F_common) := cal_P F.d_common S_common bn_common (b_common F)
theorem bn_ratio : BindsN "ratio" s_ratio ["above", "below"] := fun _ _ _ _ _ _ us hl => match us, hl with | [_, _], _ => rfl
theorem b_ratio (F : LF P w K mg base) : Bod P w K mg base N_ratio "ratio" (defScope s_ratio) (He.ga K "ratio") 1 (cK K) false (defBody s_ratio) m_ratio := by
  unfold m_ratio
  exact fun cd A outer s H E hr hcd p ni => 
  (mb_cons (ms_if (mt_c (mc_lt (me_var 1) me_int)) (mb_cons (ms_set 0 (me_sub me_int (me_var 0)) (hN := S_ratio.nd))
  (mb_one (ms_set 1 (me_sub me_int (me_var 1)) (hN := S_ratio.nd)))) mb_nil)
  (mb_cons (ms_set 2 (me_call (n := 2) (cal_common F) (hr.mono (by decide)) pasB (ma_cons (me_var 0) (ma_cons (me_var 1) ma_nil))) (hN := S_ratio.nd))
  (mb_one (ms_ret (me_tup (ma_cons (me_fdiv (me_var 0) (me_var 2)) (ma_cons (me_fdiv (me_var 1) (me_var 2)) ma_nil)))))))
theorem cal_ratio (F : LF P w K mg base) : Cal P w K mg base 2 "ratio" ["above", "below"] (spP K (cK K) 2 F_ratio) := cal_P F.d_ratio S_ratio bn_ratio (b_ratio F)
abbrev sc_determinant_1 : Scope := { kind := .function, names := [(".0", .local), ("row", .local), ("list", .globalImplicit)], isGenerator := false, isCoroutine := false, more := [] }
theorem ok_determinant_1 : BlkOk N_determinant (defScope s_determinant) sc_determinant_1 [("row", 9)] := blkOk_by (by decide +kernel)
abbrev sc_determinant_2 : Scope := { kind := .function, names := [(".0", .local), ("own", .local), ("at", .free), ("grid", .free)], isGenerator := false, isCoroutine := false, more := [] }
theorem ok_determinant_2 : BlkOk N_determinant (defScope s_determinant) sc_determinant_2 [("own", 5)] := blkOk_by (by decide +kernel)
abbrev sx_determinant_2 : Scope := { kind := .function, names := [(".0", .local), ("own", .local), ("at", .cell), ("grid", .cell)], isGenerator := false, isCoroutine := false, more := [] }
abbrev sc_determinant_3 : Scope := { kind := .function, names := [(".0", .local), ("one", .local), ("more", .local), ("at", .free), ("first", .free), ("grid", .free), ("last", .free)], isGenerator := false, isCoroutine := false, more := [] }
theorem ok_determinant_3 : BlkOk N_determinant (defScope s_determinant) sc_determinant_3 [("one", 10), ("more", 11)] := blkOk_by (by decide +kernel)
abbrev sx_determinant_3 : Scope := { kind := .function, names := [(".0", .local), ("one", .local), ("more", .local), ("at", .cell), ("first", .cell), ("grid", .cell), ("last", .cell)], isGenerator := false, isCoroutine := false, more := [] }
theorem bn_determinant : BindsN "determinant" s_determinant ["rows"] := fun _ _ _ _ _ _ us hl => match us, hl with | [_], _ => rfl
theorem b_determinant (F : LF P w K mg base) : Bod P w K mg base N_determinant "determinant" (defScope s_determinant) (He.ga K "determinant") 0 (cK K) false (defBody s_determinant) m_determinant := by
  unfold m_determinant l_determinant_2 l_determinant_1 c_determinant_3 c_determinant_2 c_determinant_1
  exact fun cd A outer s H E hr hcd p ni => 
  (mb_cons (ms_setO 1 (ml_lc (own := [("row", 9)]) (mi_seq (me_var 0)) ok_determinant_1 (blk_g fun i1 => (mg_name 9 S_determinant.nd)) (blk_t fun i1 f1 => mts_nil) (blk_e fun i1 f1 => (me_fz (ml_list F.b_list (ma_cons (me_var 9) ma_nil)))) S_determinant.nd) (hN := S_determinant.nd))
  (mb_cons (ms_set 2 me_int (hN := S_determinant.nd))
  (mb_cons (ms_set 3 me_int (hN := S_determinant.nd))
  (mb_cons (ms_for ownsB (mi_range1 F.b_range (ma_cons (me_lenO 1 F.b_len) ma_nil)) (mg_name 4 S_determinant.nd) (mb_cons (ms_setLcF 6 (own := [("own", 5)]) (mi_range2 F.b_range (ma_cons (me_var 4) (ma_cons (me_lenO 1 F.b_len) ma_nil))) ok_determinant_2 (blk_g fun i2 => (mg_name 5 S_determinant.nd)) (blk_t fun i2 f2 => (mts_one (mt_c (mc_ne hr (me_ix (me_ixO 1 (me_var 5)) (me_var 4)) me_int)))) (blk_e fun i2 f2 => (me_var 5)) S_determinant.nd)
  (mb_cons (ms_if (mt_c (mc_eq hr (me_len F.b_len (ma_cons (me_var 6) ma_nil)) me_int)) (mb_one (ms_ret me_int)) mb_nil)
  (mb_cons (ms_if (mt_c (mc_ne hr (me_ix (me_var 6) me_int) (me_var 4))) (mb_cons (ms_set 7 (me_ixO 1 (me_var 4)) (hN := S_determinant.nd))
  (mb_cons (ms_setIx (p4 := ⟨0, 0, 0, 0⟩) 1 (me_ixO 1 (me_ix (me_var 6) me_int)) (me_var 4))
  (mb_cons (ms_setIx (p4 := ⟨0, 0, 0, 0⟩) 1 (me_var 7) (me_ix (me_var 6) me_int))
  (mb_one (ms_set 2 (me_sub me_int (me_var 2)) (hN := S_determinant.nd)))))) mb_nil)
  (mb_cons (ms_for ownsB (mi_range2 F.b_range (ma_cons (me_addA (me_var 4) me_int) (ma_cons (me_lenO 1 F.b_len) ma_nil))) (mg_name 5 S_determinant.nd) (mb_cons (ms_set 8 (me_ix (me_ixO 1 (me_var 5)) (me_var 4)) (hN := S_determinant.nd))
  (mb_one (ms_setIx (p4 := ⟨0, 0, 0, 0⟩) 1 (me_fz (ml_lc (own := [("one", 10), ("more", 11)]) (mi_zip F.b_zip (ma_cons (me_ixO 1 (me_var 5)) (ma_cons (me_ixO 1 (me_var 4)) ma_nil))) ok_determinant_3 (blk_g fun i3 => (mg_tup (mgs_cons (mg_name 10 S_determinant.nd) (mgs_cons (mg_name 11 S_determinant.nd) mgs_nil)))) (blk_t fun i3 f3 => mts_nil) (blk_e fun i3 f3 => (me_fdiv (me_sub (me_mulA (me_var 10) (me_ix (me_ixO 1 (me_var 4)) (me_var 4))) (me_mulA (me_var 8) (me_var 11))) (me_var 3))) S_determinant.nd)) (me_var 5)))))
  (mb_one (ms_set 3 (me_ix (me_ixO 1 (me_var 4)) (me_var 4)) (hN := S_determinant.nd))))))))
  (mb_one (ms_ret (me_mulA (me_var 2) (me_var 3))))))))
theorem cal_determinant (F : LF P w K mg base) : Cal P w K mg base 1 "determinant" ["rows"] (spP K (cK K) 1 F_determinant) := cal_P F.d_determinant S_determinant bn_determinant (b_determinant F)
abbrev sc_chosen_1 : Scope := { kind := .function, names := [(".0", .local), ("at", .local), ("row", .free)], isGenerator := false, isCoroutine := false, more := [] }
theorem ok_chosen_1 : BlkOk N_chosen (defScope s_chosen) sc_chosen_1 [("at", 7)] := blkOk_by (by decide +kernel)
abbrev sx_chosen_1 : Scope := { kind := .function, names := [(".0", .local), ("at", .local), ("row", .cell)], isGenerator := false, isCoroutine := false, more := [] }
theorem bn_chosen : BindsN "chosen" s_chosen ["many", "size"] := fun _ _ _ _ _ _ us hl => match us, hl with | [_, _], _ => rfl
theorem b_chosen (F : LF P w K mg base) : Bod P w K mg base N_chosen "chosen" (defScope s_chosen) (He.ga K "chosen") 0 (cK K) false (defBody s_chosen) m_chosen := by
  unfold m_chosen l_chosen_2 l_chosen_1 c_chosen_1
  exact fun cd A outer s H E hr hcd p ni => 
  (mb_cons (ms_set 2 (me_fz (ml_lst (ma_cons (me_tup ma_nil) ma_nil))) (hN := S_chosen.nd))
  (mb_cons (ms_for ownsB (mi_range1 F.b_range (ma_cons (me_var 1) ma_nil)) (mg_name 3 S_chosen.nd) (mb_cons (ms_setO 4 (ml_lst ma_nil) (hN := S_chosen.nd))
  (mb_cons (ms_for ownsB (mi_seq (me_var 2)) (mg_name 5 S_chosen.nd) (mb_cons (ms_set 6 (me_if (mt_c (mc_gt (me_len F.b_len (ma_cons (me_var 5) ma_nil)) me_int)) (me_addA (me_ix (me_var 5) (me_sub (me_len F.b_len (ma_cons (me_var 5) ma_nil)) me_int)) me_int) me_int) (hN := S_chosen.nd))
  (mb_one (ms_extend 4 (me_fz (ml_lc (own := [("at", 7)]) (mi_range2 F.b_range (ma_cons (me_var 6) (ma_cons (me_var 0) ma_nil))) ok_chosen_1 (blk_g fun i1 => (mg_name 7 S_chosen.nd)) (blk_t fun i1 f1 => mts_nil) (blk_e fun i1 f1 => (me_addA (me_var 5) (me_tup (ma_cons (me_var 7) ma_nil)))) S_chosen.nd))))))
  (mb_one (ms_set 2 (me_varZ 4) (hN := S_chosen.nd))))))
  (mb_one (ms_ret (me_var 2)))))
theorem cal_chosen (F : LF P w K mg base) : Cal P w K mg base 1 "chosen" ["many", "size"] (spP K (cK K) 2 F_chosen) := cal_P F.d_chosen S_chosen bn_chosen (b_chosen F)
abbrev sc_part_1 : Scope := { kind := .function, names := [(".0", .local), ("at", .cell), ("tuple", .globalImplicit), ("rows", .free), ("sides", .free)], isGenerator := false, isCoroutine := false, more := [] }
theorem ok_part_1 : BlkOk N_part (defScope s_part) sc_part_1 [("at", 3)] := blkOk_by (by decide +kernel)
abbrev sx_part_1 : Scope := { kind := .function, names := [(".0", .local), ("at", .cell), ("tuple", .globalImplicit), ("rows", .cell), ("sides", .cell)], isGenerator := false, isCoroutine := false, more := [] }
abbrev sc_part_2 : Scope := { kind := .function, names := [(".0", .local), ("side", .local), ("at", .free), ("rows", .free)], isGenerator := false, isCoroutine := false, more := [] }
theorem ok_part_2 : BlkOk N_part (sx_part_1) sc_part_2 [("side", 4)] := blkOk_by (by decide +kernel)
abbrev sx_part_2 : Scope := { kind := .function, names := [(".0", .local), ("side", .local), ("at", .cell), ("rows", .cell)], isGenerator := false, isCoroutine := false, more := [] }
theorem bn_part : BindsN "part" s_part ["rows", "ups", "sides"] := fun _ _ _ _ _ _ us hl => match us, hl with | [_, _, _], _ => rfl
theorem b_part (F : LF P w K mg base) : Bod P w K mg base N_part "part" (defScope s_part) (He.ga K "part") 1 (cK K) false (defBody s_part) m_part := by
  unfold m_part c_part_1 c_part_2
  exact fun cd A outer s H E hr hcd p ni => 
  (mb_one (ms_ret (me_call (n := 1) (cal_determinant F) (hr.mono (by decide)) pasB (ma_cons (me_fz (ml_lc (own := [("at", 3)]) (mi_seq (me_var 1)) ok_part_1 (blk_g fun i1 => (mg_name 3 S_part.nd)) (blk_t fun i1 f1 => mts_nil) (blk_e fun i1 f1 => (me_tuple F.b_tuple (ma_cons (me_fz (ml_lc (own := [("side", 4)]) (mi_seq (me_var 2)) ok_part_2 (blk_g fun i2 => (mg_name 4 S_part.nd)) (blk_t fun i2 f2 => mts_nil) (blk_e fun i2 f2 => (me_ix (me_ix (me_var 0) (me_var 3)) (me_var 4))) S_part.nd)) ma_nil))) S_part.nd)) ma_nil))))
theorem cal_part (F : LF P w K mg base) : Cal P w K mg base 2 "part" ["rows", "ups", "sides"] (spP K (cK K) 3 F_part) := cal_P F.d_part S_part bn_part (b_part F)
abbrev sc_is_choice_1 : Scope := { kind := .function, names := [(".0", .local), ("own", .local), ("is_integer", .globalImplicit), ("many", .free)], isGenerator := false, isCoroutine := false, more := [] }
theorem ok_is_choice_1 : BlkOk N_is_choice (defScope s_is_choice) sc_is_choice_1 [("own", 2)] := blkOk_by (by decide +kernel)
abbrev sx_is_choice_1 : Scope := { kind := .function, names := [(".0", .local), ("own", .local), ("is_integer", .globalImplicit), ("many", .cell)], isGenerator := false, isCoroutine := false, more := [] }
abbrev sc_is_choice_2 : Scope := { kind := .function, names := [(".0", .local), ("at", .local), ("value", .free)], isGenerator := false, isCoroutine := false, more := [] }
theorem ok_is_choice_2 : BlkOk N_is_choice (defScope s_is_choice) sc_is_choice_2 [("at", 3)] := blkOk_by (by decide +kernel)
abbrev sx_is_choice_2 : Scope := { kind := .function, names := [(".0", .local), ("at", .local), ("value", .cell)], isGenerator := false, isCoroutine := false, more := [] }
theorem bn_is_choice : BindsN "is_choice" s_is_choice ["value", "many"] := fun _ _ _ _ _ _ us hl => match us, hl with | [_, _], _ => rfl
theorem b_is_choice (F : LF P w K mg base) : Bod P w K mg base N_is_choice "is_choice" (defScope s_is_choice) (He.ga K "is_choice") 1 (cK K) false (defBody s_is_choice) m_is_choice := by
  unfold m_is_choice c_is_choice_2 c_is_choice_1
  exact fun cd A outer s H E hr hcd p ni => 
  (mb_cons (ms_if (mt_w (mw_or (mt_not (mt_val (me_isi kit_tuple F.b_isinstance F.b_tuple PyProof.Rows.boot_tuple (me_var 0)))) (mw_or1 (mt_not (mt_val (me_allL F.b_all (ma_cons (me_fz (ml_lc (own := [("own", 2)]) (mi_seq (me_var 0)) ok_is_choice_1 (blk_g fun i1 => (mg_name 2 S_is_choice.nd)) (blk_t fun i1 f1 => mts_nil) (blk_e fun i1 f1 => (me_and (me_call (n := 1) (cal_is_integer F) (hr.mono (by decide)) Pas.none (ma_cons (me_var 2) ma_nil)) (me_one (me_chain (g := gIB fun i j => decide (i ≤ j)) (g' := gIB fun i j => decide (i < j)) op_le op_lt (ops_I0 fun _ _ _ => .bl _) (ops_I0 fun _ _ _ => .bl _) me_int (me_var 2) (me_var 1))))) S_is_choice.nd)) ma_nil))))))) (mb_one (ms_ret me_bl)) mb_nil)
  (mb_one (ms_ret (me_allL F.b_all (ma_cons (me_fz (ml_lc (own := [("at", 3)]) (mi_range2 F.b_range (ma_cons me_int (ma_cons (me_len F.b_len (ma_cons (me_var 0) ma_nil)) ma_nil))) ok_is_choice_2 (blk_g fun i2 => (mg_name 3 S_is_choice.nd)) (blk_t fun i2 f2 => mts_nil) (blk_e fun i2 f2 => (me_c (mc_lt (me_ix (me_var 0) (me_sub (me_var 3) me_int)) (me_ix (me_var 0) (me_var 3))))) S_is_choice.nd)) ma_nil)))))
theorem cal_is_choice (F : LF P w K mg base) : Cal P w K mg base 2 "is_choice" ["value", "many"] (spP K (cK K) 2 F_is_choice) := cal_P F.d_is_choice S_is_choice bn_is_choice (b_is_choice F)
theorem bn_minor : BindsN "minor" s_minor ["grid", "ups", "sides"] := fun _ _ _ _ _ _ us hl => match us, hl with | [_, _, _], _ => rfl
theorem b_minor (F : LF P w K mg base) : Bod P w K mg base N_minor "minor" (defScope s_minor) (He.ga K "minor") 6 (cK K) false (defBody s_minor) m_minor := by
  obtain ⟨fI, fd, SU⟩ := F.sup
  unfold m_minor
  exact fun cd A outer s H E hr hcd p ni => 
  (mb_cons (ms_expr (me_call (n := 2) (cal_need_grid F) (hr.mono (by decide)) pasB (ma_cons (me_var 0) (ma_cons me_str ma_nil))))
  (mb_cons (ms_if (mt_not (mt_val (me_call (n := 2) (cal_is_choice F) (hr.mono (by decide)) pasB (ma_cons (me_var 1) (ma_cons (me_len F.b_len (ma_cons (me_ix (me_var 0) me_int) ma_nil)) ma_nil))))) (mb_one (ms_raise SU ((hr.mono (by decide))) takesB F.bad me_str)) mb_nil)
  (mb_cons (ms_if (mt_w (mw_or (mt_not (mt_val (me_call (n := 2) (cal_is_choice F) (hr.mono (by decide)) pasB (ma_cons (me_var 2) (ma_cons (me_ix (me_var 0) me_int) ma_nil))))) (mw_or1 (mt_c (mc_ne hr (me_len F.b_len (ma_cons (me_var 2) ma_nil)) (me_len F.b_len (ma_cons (me_var 1) ma_nil))))))) (mb_one (ms_raise SU ((hr.mono (by decide))) takesB F.bad me_str)) mb_nil)
  (mb_one (ms_ret (me_call (n := 3) (cal_part F) (hr.mono (by decide)) pasB (ma_cons (me_ix (me_var 0) me_int) (ma_cons (me_var 1) (ma_cons (me_var 2) ma_nil)))))))))
theorem cal_minor (F : LF P w K mg base) : Cal P w K mg base 7 "minor" ["grid", "ups", "sides"] (spP K (cK K) 3 F_minor) := cal_P F.d_minor S_minor bn_minor (b_minor F)
theorem bk_minor_2 : BindsK "minor" s_minor ["grid", "ups", "sides"] 2 ["sides"] := fun _ _ _ _ _ _ us ws h1 h2 => match us, h1, ws, h2 with | [_, _], _, [_], _ => rfl
theorem calk_minor_2 (F : LF P w K mg base) : CalK P w K mg base 7 "minor" ["grid", "ups", "sides"] (spP K (cK K) 3 F_minor) 2 ["sides"] := cal_K F.d_minor S_minor bk_minor_2 (b_minor F)
theorem bn_need_size : BindsN "need_size" s_need_size ["grid", "size"] := fun _ _ _ _ _ _ us hl => match us, hl with | [_, _], _ => rfl
theorem b_need_size (F : LF P w K mg base) : Bod P w K mg base N_need_size "need_size" (defScope s_need_size) (He.ga K "need_size") 6 (cK K) false (defBody s_need_size) m_need_size := by
  obtain ⟨fI, fd, SU⟩ := F.sup
  unfold m_need_size
  exact fun cd A outer s H E hr hcd p ni => 
  (mb_cons (ms_expr (me_call (n := 2) (cal_need_grid F) (hr.mono (by decide)) pasB (ma_cons (me_var 0) (ma_cons me_str ma_nil))))
  (mb_one (ms_if (mt_w (mw_or (mt_not (mt_val (me_call (n := 1) (cal_is_integer F) (hr.mono (by decide)) pasB (ma_cons (me_var 1) ma_nil)))) (mw_or1 (mt_not (mt_chain (g := gIB fun i j => decide (i ≤ j)) (g' := gIB fun i j => decide (i ≤ j)) op_le op_le (ops_I0 fun _ _ _ => .bl _) (ops_I0 fun _ _ _ => .bl _) me_int (me_var 1) (me_min2 F.b_min (ma_cons (me_ix (me_var 0) me_int) (ma_cons (me_len F.b_len (ma_cons (me_ix (me_var 0) me_int) ma_nil)) ma_nil)))))))) (mb_one (ms_raise SU ((hr.mono (by decide))) takesB F.bad me_str)) mb_nil)))
theorem cal_need_size (F : LF P w K mg base) : Cal P w K mg base 7 "need_size" ["grid", "size"] (spP K (cK K) 2 F_need_size) := cal_P F.d_need_size S_need_size bn_need_size (b_need_size F)
abbrev sc_compound_1 : Scope := { kind := .function, names := [(".0", .local), ("ups", .cell), ("tuple", .globalImplicit), ("grid", .free), ("sides", .free)], isGenerator := false, isCoroutine := false, more := [] }
theorem ok_compound_1 : BlkOk N_compound (defScope s_compound) sc_compound_1 [("ups", 3)] := blkOk_by (by decide +kernel)
abbrev sx_compound_1 : Scope := { kind := .function, names := [(".0", .local), ("ups", .cell), ("tuple", .globalImplicit), ("grid", .cell), ("sides", .cell)], isGenerator := false, isCoroutine := false, more := [] }
abbrev sc_compound_2 : Scope := { kind := .function, names := [(".0", .local), ("own", .local), ("part", .globalImplicit), ("grid", .free), ("ups", .free)], isGenerator := false, isCoroutine := false, more := [] }
theorem ok_compound_2 : BlkOk N_compound (sx_compound_1) sc_compound_2 [("own", 4)] := blkOk_by (by decide +kernel)
abbrev sx_compound_2 : Scope := { kind := .function, names := [(".0", .local), ("own", .local), ("part", .globalImplicit), ("grid", .cell), ("ups", .cell)], isGenerator := false, isCoroutine := false, more := [] }
theorem bn_compound : BindsN "compound" s_compound ["grid", "size"] := fun _ _ _ _ _ _ us hl => match us, hl with | [_, _], _ => rfl
theorem b_compound (F : LF P w K mg base) : Bod P w K mg base N_compound "compound" (defScope s_compound) (He.ga K "compound") 7 (cK K) false (defBody s_compound) m_compound := by
  unfold m_compound c_compound_1 c_compound_2
  exact fun cd A outer s H E hr hcd p ni => 
  (mb_cons (ms_expr (me_call (n := 2) (cal_need_size F) (hr.mono (by decide)) pasB (ma_cons (me_var 0) (ma_cons (me_var 1) ma_nil))))
  (mb_cons (ms_set 2 (me_call (n := 2) (cal_chosen F) (hr.mono (by decide)) pasB (ma_cons (me_ix (me_var 0) me_int) (ma_cons (me_var 1) ma_nil))) (hN := S_compound.nd))
  (mb_one (ms_ret (me_tuple F.b_tuple (ma_cons (me_fz (ml_lc (own := [("ups", 3)]) (mi_seq (me_call (n := 2) (cal_chosen F) (hr.mono (by decide)) pasB (ma_cons (me_len F.b_len (ma_cons (me_ix (me_var 0) me_int) ma_nil)) (ma_cons (me_var 1) ma_nil)))) ok_compound_1 (blk_g fun i1 => (mg_name 3 S_compound.nd)) (blk_t fun i1 f1 => mts_nil) (blk_e fun i1 f1 => (me_tuple F.b_tuple (ma_cons (me_fz (ml_lc (own := [("own", 4)]) (mi_seq (me_var 2)) ok_compound_2 (blk_g fun i2 => (mg_name 4 S_compound.nd)) (blk_t fun i2 f2 => mts_nil) (blk_e fun i2 f2 => (me_call (n := 3) (cal_part F) (hr.mono (by decide)) Pas.none (ma_cons (me_ix (me_var 0) me_int) (ma_cons (me_var 3) (ma_cons (me_var 4) ma_nil))))) S_compound.nd)) ma_nil))) S_compound.nd)) ma_nil))))))
theorem cal_compound (F : LF P w K mg base) : Cal P w K mg base 8 "compound" ["grid", "size"] (spP K (cK K) 2 F_compound) := cal_P F.d_compound S_compound bn_compound (b_compound F)
theorem bk_compound_1 : BindsK "compound" s_compound ["grid", "size"] 1 ["size"] := fun _ _ _ _ _ _ us ws h1 h2 => match us, h1, ws, h2 with | [_], _, [_], _ => rfl
theorem calk_compound_1 (F : LF P w K mg base) : CalK P w K mg base 8 "compound" ["grid", "size"] (spP K (cK K) 2 F_compound) 1 ["size"] := cal_K F.d_compound S_compound bk_compound_1 (b_compound F)
theorem bn_common_minor : BindsN "common_minor" s_common_minor ["grid", "size"] := fun _ _ _ _ _ _ us hl => match us, hl with | [_, _], _ => rfl
theorem b_common_minor (F : LF P w K mg base) : Bod P w K mg base N_common_minor "common_minor" (defScope s_common_minor) (He.ga K "common_minor") 8 (cK K) false (defBody s_common_minor) m_common_minor := by
  unfold m_common_minor l_common_minor_2 l_common_minor_1
  exact fun cd A outer s H E hr hcd p ni => 
  (mb_cons (ms_set 2 me_int (hN := S_common_minor.nd))
  (mb_cons (ms_for ownsB (mi_seq (me_call (n := 2) (cal_compound F) (hr.mono (by decide)) pasB (ma_cons (me_var 0) (ma_cons (me_var 1) ma_nil)))) (mg_name 3 S_common_minor.nd) (mb_one (ms_for ownsB (mi_seq (me_var 3)) (mg_name 4 S_common_minor.nd) (mb_one (ms_set 2 (me_call (n := 2) (cal_common F) (hr.mono (by decide)) pasB (ma_cons (me_var 2) (ma_cons (me_var 4) ma_nil))) (hN := S_common_minor.nd))))))
  (mb_one (ms_ret (me_var 2)))))
theorem cal_common_minor (F : LF P w K mg base) : Cal P w K mg base 9 "common_minor" ["grid", "size"] (spP K (cK K) 2 F_common_minor) := cal_P F.d_common_minor S_common_minor bn_common_minor (b_common_minor F)
theorem bk_common_minor_1 : BindsK "common_minor" s_common_minor ["grid", "size"] 1 ["size"] := fun _ _ _ _ _ _ us ws h1 h2 => match us, h1, ws, h2 with | [_], _, [_], _ => rfl
theorem calk_common_minor_1 (F : LF P w K mg base) : CalK P w K mg base 9 "common_minor" ["grid", "size"] (spP K (cK K) 2 F_common_minor) 1 ["size"] := cal_K F.d_common_minor S_common_minor bk_common_minor_1 (b_common_minor F)
abbrev sc_cofactors_1 : Scope := { kind := .function, names := [(".0", .local), ("up", .cell), ("tuple", .globalImplicit), ("range", .globalImplicit), ("many", .free)], isGenerator := false, isCoroutine := false, more := [] }
theorem ok_cofactors_1 : BlkOk N_cofactors (defScope s_cofactors) sc_cofactors_1 [("up", 6)] := blkOk_by (by decide +kernel)
abbrev sx_cofactors_1 : Scope := { kind := .function, names := [(".0", .local), ("up", .cell), ("tuple", .globalImplicit), ("range", .globalImplicit), ("many", .cell)], isGenerator := false, isCoroutine := false, more := [] }
abbrev sc_cofactors_2 : Scope := { kind := .function, names := [(".0", .local), ("own", .local), ("up", .free)], isGenerator := false, isCoroutine := false, more := [] }
theorem ok_cofactors_2 : BlkOk N_cofactors (sx_cofactors_1) sc_cofactors_2 [("own", 7)] := blkOk_by (by decide +kernel)
abbrev sx_cofactors_2 : Scope := { kind := .function, names := [(".0", .local), ("own", .local), ("up", .cell)], isGenerator := false, isCoroutine := false, more := [] }
abbrev sc_cofactors_3 : Scope := { kind := .function, names := [(".0", .local), ("up", .local), ("part", .globalImplicit), ("at", .free), ("grid", .free), ("sides", .free), ("ups", .free)], isGenerator := false, isCoroutine := false, more := [] }
theorem ok_cofactors_3 : BlkOk N_cofactors (defScope s_cofactors) sc_cofactors_3 [("up", 6)] := blkOk_by (by decide +kernel)
abbrev sx_cofactors_3 : Scope := { kind := .function, names := [(".0", .local), ("up", .local), ("part", .globalImplicit), ("at", .cell), ("grid", .cell), ("sides", .cell), ("ups", .cell)], isGenerator := false, isCoroutine := false, more := [] }
theorem bn_cofactors : BindsN "cofactors" s_cofactors ["grid"] := fun _ _ _ _ _ _ us hl => match us, hl with | [_], _ => rfl
theorem b_cofactors (F : LF P w K mg base) : Bod P w K mg base N_cofactors "cofactors" (defScope s_cofactors) (He.ga K "cofactors") 7 (cK K) false (defBody s_cofactors) m_cofactors := by
  unfold m_cofactors l_cofactors_1 c_cofactors_3 c_cofactors_1 c_cofactors_2
  exact fun cd A outer s H E hr hcd p ni => 
  (mb_cons (ms_expr (me_call (n := 2) (cal_need_square F) (hr.mono (by decide)) pasB (ma_cons (me_var 0) (ma_cons me_str ma_nil))))
  (mb_cons (ms_set 1 (me_ix (me_var 0) me_int) (hN := S_cofactors.nd))
  (mb_cons (ms_setO 2 (ml_lst ma_nil) (hN := S_cofactors.nd))
  (mb_cons (ms_for ownsB (mi_range1 F.b_range (ma_cons (me_var 1) ma_nil)) (mg_name 3 S_cofactors.nd) (mb_cons (ms_set 4 (me_fz (ml_lc (own := [("up", 6)]) (mi_range1 F.b_range (ma_cons (me_var 1) ma_nil)) ok_cofactors_1 (blk_g fun i1 => (mg_name 6 S_cofactors.nd)) (blk_t fun i1 f1 => mts_nil) (blk_e fun i1 f1 => (me_tuple F.b_tuple (ma_cons (me_fz (ml_lc (own := [("own", 7)]) (mi_range1 F.b_range (ma_cons (me_var 1) ma_nil)) ok_cofactors_2 (blk_g fun i2 => (mg_name 7 S_cofactors.nd)) (blk_t fun i2 f2 => (mts_one (mt_c (mc_ne hr (me_var 7) (me_var 6))))) (blk_e fun i2 f2 => (me_var 7)) S_cofactors.nd)) ma_nil))) S_cofactors.nd)) (hN := S_cofactors.nd))
  (mb_cons (ms_set 5 (me_ix (me_var 4) (me_var 3)) (hN := S_cofactors.nd))
  (mb_one (ms_append 2 (me_tuple F.b_tuple (ma_cons (me_fz (ml_lc (own := [("up", 6)]) (mi_range1 F.b_range (ma_cons (me_var 1) ma_nil)) ok_cofactors_3 (blk_g fun i3 => (mg_name 6 S_cofactors.nd)) (blk_t fun i3 f3 => mts_nil) (blk_e fun i3 f3 => (me_mulA (me_call (n := 3) (cal_part F) (hr.mono (by decide)) Pas.none (ma_cons (me_ix (me_var 0) me_int) (ma_cons (me_ix (me_var 4) (me_var 6)) (ma_cons (me_var 5) ma_nil)))) (me_if (mt_c (mc_eq hr (me_mod (me_addA (me_var 3) (me_var 6)) me_int) me_int)) me_int (me_neg me_int)))) S_cofactors.nd)) ma_nil)))))))
  (mb_one (ms_ret (me_tuple F.b_tuple (ma_cons (me_varZ 2) ma_nil))))))))
theorem cal_cofactors (F : LF P w K mg base) : Cal P w K mg base 8 "cofactors" ["grid"] (spP K (cK K) 1 F_cofactors) := cal_P F.d_cofactors S_cofactors bn_cofactors (b_cofactors F)
abbrev sc_by_cofactors_1 : Scope := { kind := .function, names := [(".0", .local), ("row", .local), ("ratio", .globalImplicit), ("sum", .globalImplicit), ("zip", .globalImplicit), ("sums", .free), ("whole", .free)], isGenerator := false, isCoroutine := false, more := [] }
theorem ok_by_cofactors_1 : BlkOk N_by_cofactors (defScope s_by_cofactors) sc_by_cofactors_1 [("row", 4)] := blkOk_by (by decide +kernel)
abbrev sx_by_cofactors_1 : Scope := { kind := .function, names := [(".0", .local), ("row", .local), ("ratio", .globalImplicit), ("sum", .globalImplicit), ("zip", .globalImplicit), ("sums", .cell), ("whole", .cell)], isGenerator := false, isCoroutine := false, more := [] }
abbrev sc_by_cofactors_2 : Scope := { kind := .function, names := [(".0", .local), ("one", .local), ("more", .local)], isGenerator := false, isCoroutine := false, more := [] }
theorem ok_by_cofactors_2 : BlkOk N_by_cofactors (sx_by_cofactors_1) sc_by_cofactors_2 [("one", 5), ("more", 6)] := blkOk_by (by decide +kernel)
theorem bn_by_cofactors : BindsN "by_cofactors" s_by_cofactors ["grid", "sums"] := fun _ _ _ _ _ _ us hl => match us, hl with | [_, _], _ => rfl
theorem b_by_cofactors (F : LF P w K mg base) : Bod P w K mg base N_by_cofactors "by_cofactors" (defScope s_by_cofactors) (He.ga K "by_cofactors") 8 (cK K) false (defBody s_by_cofactors) m_by_cofactors := by
  unfold m_by_cofactors c_by_cofactors_1 c_by_cofactors_2
  exact fun cd A outer s H E hr hcd p ni => 
  (mb_cons (ms_set 2 (me_call (n := 1) (cal_cofactors F) (hr.mono (by decide)) pasB (ma_cons (me_var 0) ma_nil)) (hN := S_by_cofactors.nd))
  (mb_cons (ms_expr (me_call (n := 2) (cal_need_sums F) (hr.mono (by decide)) pasB (ma_cons (me_var 1) (ma_cons (me_var 0) ma_nil))))
  (mb_cons (ms_set 3 (me_call (n := 1) (cal_determinant F) (hr.mono (by decide)) pasB (ma_cons (me_ix (me_var 0) me_int) ma_nil)) (hN := S_by_cofactors.nd))
  (mb_cons (ms_if (mt_c (mc_eq hr (me_var 3) me_int)) (mb_one (ms_ret me_non)) mb_nil)
  (mb_one (ms_ret (me_tuple F.b_tuple (ma_cons (me_fz (ml_lc (own := [("row", 4)]) (mi_seq (me_var 2)) ok_by_cofactors_1 (blk_g fun i1 => (mg_name 4 S_by_cofactors.nd)) (blk_t fun i1 f1 => mts_nil) (blk_e fun i1 f1 => (me_call (n := 2) (cal_ratio F) (hr.mono (by decide)) Pas.none (ma_cons (me_sumA F.b_sum (ma_cons (me_fz (ml_lc (own := [("one", 5), ("more", 6)]) (mi_zip F.b_zip (ma_cons (me_var 4) (ma_cons (me_var 1) ma_nil))) ok_by_cofactors_2 (blk_g fun i2 => (mg_tup (mgs_cons (mg_name 5 S_by_cofactors.nd) (mgs_cons (mg_name 6 S_by_cofactors.nd) mgs_nil)))) (blk_t fun i2 f2 => mts_nil) (blk_e fun i2 f2 => (me_mulA (me_var 5) (me_var 6))) S_by_cofactors.nd)) ma_nil)) (ma_cons (me_var 3) ma_nil)))) S_by_cofactors.nd)) ma_nil))))))))
theorem cal_by_cofactors (F : LF P w K mg base) : Cal P w K mg base 9 "by_cofactors" ["grid", "sums"] (spP K (cK K) 2 F_by_cofactors) := cal_P F.d_by_cofactors S_by_cofactors bn_by_cofactors (b_by_cofactors F)
theorem bk_by_cofactors_1 : BindsK "by_cofactors" s_by_cofactors ["grid", "sums"] 1 ["sums"] := fun _ _ _ _ _ _ us ws h1 h2 => match us, h1, ws, h2 with | [_], _, [_], _ => rfl
theorem calk_by_cofactors_1 (F : LF P w K mg base) : CalK P w K mg base 9 "by_cofactors" ["grid", "sums"] (spP K (cK K) 2 F_by_cofactors) 1 ["sums"] := cal_K F.d_by_cofactors S_by_cofactors bk_by_cofactors_1 (b_by_cofactors F)
abbrev sc_by_rows_1 : Scope := { kind := .function, names := [(".0", .local), ("own", .local), ("ups", .free)], isGenerator := false, isCoroutine := false, more := [] }
theorem ok_by_rows_1 : BlkOk N_by_rows (defScope s_by_rows) sc_by_rows_1 [("own", 8)] := blkOk_by (by decide +kernel)
abbrev sx_by_rows_1 : Scope := { kind := .function, names := [(".0", .local), ("own", .local), ("ups", .cell)], isGenerator := false, isCoroutine := false, more := [] }
abbrev sc_by_rows_2 : Scope := { kind := .function, names := [(".0", .local), ("own", .local), ("sides", .free)], isGenerator := false, isCoroutine := false, more := [] }
theorem ok_by_rows_2 : BlkOk N_by_rows (defScope s_by_rows) sc_by_rows_2 [("own", 8)] := blkOk_by (by decide +kernel)
abbrev sx_by_rows_2 : Scope := { kind := .function, names := [(".0", .local), ("own", .local), ("sides", .cell)], isGenerator := false, isCoroutine := false, more := [] }
theorem bn_by_rows : BindsN "by_rows" s_by_rows ["grid", "ups"] := fun _ _ _ _ _ _ us hl => match us, hl with | [_, _], _ => rfl
theorem b_by_rows (F : LF P w K mg base) : Bod P w K mg base N_by_rows "by_rows" (defScope s_by_rows) (He.ga K "by_rows") 7 (cK K) false (defBody s_by_rows) m_by_rows := by
  obtain ⟨fI, fd, SU⟩ := F.sup
  unfold m_by_rows l_by_rows_1 c_by_rows_2 c_by_rows_1
  exact fun cd A outer s H E hr hcd p ni => 
  (mb_cons (ms_expr (me_call (n := 2) (cal_need_square F) (hr.mono (by decide)) pasB (ma_cons (me_var 0) (ma_cons me_str ma_nil))))
  (mb_cons (ms_set 2 (me_ix (me_var 0) me_int) (hN := S_by_rows.nd))
  (mb_cons (ms_if (mt_not (mt_val (me_call (n := 2) (cal_is_choice F) (hr.mono (by decide)) pasB (ma_cons (me_var 1) (ma_cons (me_var 2) ma_nil))))) (mb_one (ms_raise SU ((hr.mono (by decide))) takesB F.bad me_str)) mb_nil)
  (mb_cons (ms_set 3 (me_tuple F.b_tuple (ma_cons (me_fz (ml_lc (own := [("own", 8)]) (mi_range1 F.b_range (ma_cons (me_var 2) ma_nil)) ok_by_rows_1 (blk_g fun i1 => (mg_name 8 S_by_rows.nd)) (blk_t fun i1 f1 => (mts_one (mt_c (mc_notin (me_var 8) (me_var 1))))) (blk_e fun i1 f1 => (me_var 8)) S_by_rows.nd)) ma_nil)) (hN := S_by_rows.nd))
  (mb_cons (ms_set 4 me_int (hN := S_by_rows.nd))
  (mb_cons (ms_for ownsB (mi_seq (me_call (n := 2) (cal_chosen F) (hr.mono (by decide)) pasB (ma_cons (me_var 2) (ma_cons (me_len F.b_len (ma_cons (me_var 1) ma_nil)) ma_nil)))) (mg_name 5 S_by_rows.nd) (mb_cons (ms_set 6 (me_tuple F.b_tuple (ma_cons (me_fz (ml_lc (own := [("own", 8)]) (mi_range1 F.b_range (ma_cons (me_var 2) ma_nil)) ok_by_rows_2 (blk_g fun i2 => (mg_name 8 S_by_rows.nd)) (blk_t fun i2 f2 => (mts_one (mt_c (mc_notin (me_var 8) (me_var 5))))) (blk_e fun i2 f2 => (me_var 8)) S_by_rows.nd)) ma_nil)) (hN := S_by_rows.nd))
  (mb_cons (ms_set 7 (me_if (mt_c (mc_eq hr (me_mod (me_addA (me_sumA F.b_sum (ma_cons (me_var 1) ma_nil)) (me_sumA F.b_sum (ma_cons (me_var 5) ma_nil))) me_int) me_int)) me_int (me_neg me_int)) (hN := S_by_rows.nd))
  (mb_one (ms_aug 4 (g := fun i j => i + j) ip_add (me_mulA (me_mulA (me_var 7) (me_call (n := 3) (cal_part F) (hr.mono (by decide)) pasB (ma_cons (me_ix (me_var 0) me_int) (ma_cons (me_var 1) (ma_cons (me_var 5) ma_nil))))) (me_call (n := 3) (cal_part F) (hr.mono (by decide)) pasB (ma_cons (me_ix (me_var 0) me_int) (ma_cons (me_var 3) (ma_cons (me_var 6) ma_nil))))) (hN := S_by_rows.nd))))))
  (mb_one (ms_ret (me_var 4)))))))))
theorem cal_by_rows (F : LF P w K mg base) : Cal P w K mg base 8 "by_rows" ["grid", "ups"] (spP K (cK K) 2 F_by_rows) := cal_P F.d_by_rows S_by_rows bn_by_rows (b_by_rows F)
theorem bk_by_rows_1 : BindsK "by_rows" s_by_rows ["grid", "ups"] 1 ["ups"] := fun _ _ _ _ _ _ us ws h1 h2 => match us, h1, ws, h2 with | [_], _, [_], _ => rfl
theorem calk_by_rows_1 (F : LF P w K mg base) : CalK P w K mg base 8 "by_rows" ["grid", "ups"] (spP K (cK K) 2 F_by_rows) 1 ["ups"] := cal_K F.d_by_rows S_by_rows bk_by_rows_1 (b_by_rows F)
theorem bn_rank_by_minors : BindsN "rank_by_minors" s_rank_by_minors ["grid"] := fun _ _ _ _ _ _ us hl => match us, hl with | [_], _ => rfl
theorem b_rank_by_minors (F : LF P w K mg base) : Bod P w K mg base N_rank_by_minors "rank_by_minors" (defScope s_rank_by_minors) (He.ga K "rank_by_minors") 9 (cK K) false (defBody s_rank_by_minors) m_rank_by_minors := by
  unfold m_rank_by_minors l_rank_by_minors_1
  exact fun cd A outer s H E hr hcd p ni => 
  (mb_cons (ms_expr (me_call (n := 2) (cal_need_grid F) (hr.mono (by decide)) pasB (ma_cons (me_var 0) (ma_cons me_str ma_nil))))
  (mb_cons (ms_for ownsB (mi_rangeDn F.b_range (ma_cons (me_min2 F.b_min (ma_cons (me_ix (me_var 0) me_int) (ma_cons (me_len F.b_len (ma_cons (me_ix (me_var 0) me_int) ma_nil)) ma_nil))) (ma_cons me_int (ma_cons (me_neg me_int) ma_nil)))) (mg_name 1 S_rank_by_minors.nd) (mb_one (ms_if (mt_c (mc_ne hr (me_call (n := 2) (cal_common_minor F) (hr.mono (by decide)) pasB (ma_cons (me_var 0) (ma_cons (me_var 1) ma_nil))) me_int)) (mb_one (ms_ret (me_var 1))) mb_nil)))
  (mb_one (ms_ret me_int))))
theorem cal_rank_by_minors (F : LF P w K mg base) : Cal P w K mg base 10 "rank_by_minors" ["grid"] (spP K (cK K) 1 F_rank_by_minors) := cal_P F.d_rank_by_minors S_rank_by_minors bn_rank_by_minors (b_rank_by_minors F)
theorem bn__law_dice : BindsN "_law_dice" s__law_dice ["script", "spot"] := fun _ _ _ _ _ _ us hl => match us, hl with | [_, _], _ => rfl
theorem b__law_dice (F : LF P w K mg base) : BodO P w K mg base N__law_dice "_law_dice" (defScope s__law_dice) (He.ga K "_law_dice") 0 (cK K) (defBody s__law_dice) m__law_dice := by
  unfold m__law_dice l__law_dice_1
  exact fun cd A outer s H E hr hcd ni => 
  (mbo_cons (ms_set 2 (me_if (mt_c (mc_lt (me_var 1) (me_len F.b_len (ma_cons (me_var 0) ma_nil)))) (me_ix (me_var 0) (me_var 1)) (me_addA (me_mulA me_int (me_var 1)) me_int)) (hN := S__law_dice.nd))
  (mbo_cons (ms_set 3 (me_addA me_int (me_mulA me_int (me_var 1))) (hN := S__law_dice.nd))
  (mbo_cons (ms_for ownsB (mi_seq (me_addA (me_slice (me_var 0) mo_none (mo_some me_int)) (me_fz (ml_lst (ma_cons (me_var 2) ma_nil))))) (mg_name 4 S__law_dice.nd) (mb_one (ms_set 3 (me_mod (me_int1 F.b_int (ma_cons (me_addA (me_mulA (me_var 3) me_int) (me_mod (me_int1 F.b_int (ma_cons (me_var 4) ma_nil)) me_int)) ma_nil)) me_int) (hN := S__law_dice.nd))))
  (mbo_ret (ml_lst (ma_cons (me_if (mt_w (mw_or (mt_c (mc_lt (me_var 2) me_int)) (mw_or1 (mt_c (mc_ge (me_var 2) (me_pow me_int me_int)))))) (me_abs F.b_abs (ma_cons (me_var 2) ma_nil)) me_int) (ma_cons (me_var 3) (ma_cons me_int ma_nil))))))))
theorem cal__law_dice (F : LF P w K mg base) : Cal P w K mg base 1 "_law_dice" ["script", "spot"] (spO K (cK K) 2 F__law_dice) := cal_O F.d__law_dice S__law_dice bn__law_dice (b__law_dice F)
theorem bn__law_roll : BindsN "_law_roll" s__law_roll ["dice", "many"] := fun _ _ _ _ _ _ us hl => match us, hl with | [_, _], _ => rfl
theorem b__law_roll (F : LF P w K mg base) : Bod P w K mg base N__law_roll "_law_roll" (defScope s__law_roll) (He.ga K "_law_roll") 0 (cK K) true (defBody s__law_roll) m__law_roll := by
  unfold m__law_roll
  exact fun cd A outer s H E hr hcd p ni => 
  (mb_cons (ms_if (mt_c (mc_gt (me_ixO 0 me_int) me_int)) (mb_cons (ms_set 2 (me_mod (me_int1 F.b_int (ma_cons (me_ixO 0 me_int) ma_nil)) (me_var 1)) (hN := S__law_roll.nd))
  (mb_cons (ms_setIx (p4 := ⟨0, 0, 0, 0⟩) 0 (me_fdiv (me_ixO 0 me_int) (me_var 1)) me_int)
  (mb_one (ms_ret (me_var 2))))) mb_nil)
  (mb_cons (ms_setIx (p4 := ⟨0, 0, 0, 0⟩) 0 (me_addA (me_ixO 0 me_int) me_int) me_int)
  (mb_cons (ms_setIx (p4 := ⟨0, 0, 0, 0⟩) 0 (me_mod (me_int1 F.b_int (ma_cons (me_addA (me_addA (me_mulA (me_ixO 0 me_int) me_int) (me_mulA (me_mulA (me_ixO 0 me_int) (me_ixO 0 me_int)) me_int)) me_int) ma_nil)) me_int) me_int)
  (mb_one (ms_ret (me_mod (me_int1 F.b_int (ma_cons (me_fdiv (me_ixO 0 me_int) me_int) ma_nil)) (me_var 1)))))))
theorem cal__law_roll (F : LF P w K mg base) : Cal P w K mg base 1 "_law_roll" ["dice", "many"] (spD K (cK K) 2 F__law_roll) := cal_D F.d__law_roll S__law_roll bn__law_roll (b__law_roll F)
theorem bn__law_pick : BindsN "_law_pick" s__law_pick ["dice", "things"] := fun _ _ _ _ _ _ us hl => match us, hl with | [_, _], _ => rfl
theorem b__law_pick (F : LF P w K mg base) : Bod P w K mg base N__law_pick "_law_pick" (defScope s__law_pick) (He.ga K "_law_pick") 1 (cK K) true (defBody s__law_pick) m__law_pick := by
  unfold m__law_pick
  exact fun cd A outer s H E hr hcd p ni => 
  (mb_one (ms_ret (me_ix (me_var 1) (me_callD 0 (cal__law_roll F) (hr.mono (by decide)) pasB (ma_cons (me_len F.b_len (ma_cons (me_var 1) ma_nil)) ma_nil)))))
theorem cal__law_pick (F : LF P w K mg base) : Cal P w K mg base 2 "_law_pick" ["dice", "things"] (spD K (cK K) 2 F__law_pick) := cal_D F.d__law_pick S__law_pick bn__law_pick (b__law_pick F)
theorem bn__law_gcd : BindsN "_law_gcd" s__law_gcd ["one", "other"] := fun _ _ _ _ _ _ us hl => match us, hl with | [_, _], _ => rfl
theorem b__law_gcd (F : LF P w K mg base) : Bod P w K mg base N__law_gcd "_law_gcd" (defScope s__law_gcd) (He.ga K "_law_gcd") 0 (cK K) false (defBody s__law_gcd) m__law_gcd := by
  unfold m__law_gcd l__law_gcd_1
  exact fun cd A outer s H E hr hcd p ni => 
  (mb_cons (ms_par 0 1 (ma_cons (me_abs F.b_abs (ma_cons (me_var 0) ma_nil)) (ma_cons (me_abs F.b_abs (ma_cons (me_var 1) ma_nil)) ma_nil)) (hN := S__law_gcd.nd))
  (mb_cons (ms_for ownsB (mi_range1 F.b_range (ma_cons me_int ma_nil)) (mg_name 2 S__law_gcd.nd) (mb_cons (ms_if (mt_c (mc_eq hr (me_var 1) me_int)) (mb_one ms_break) mb_nil)
  (mb_one (ms_par 0 1 (ma_cons (me_var 1) (ma_cons (me_mod (me_var 0) (me_var 1)) ma_nil)) (hN := S__law_gcd.nd)))))
  (mb_one (ms_ret (me_var 0)))))
theorem cal__law_gcd (F : LF P w K mg base) : Cal P w K mg base 1 "_law_gcd" ["one", "other"] (spP K (cK K) 2 F__law_gcd) := cal_P F.d__law_gcd S__law_gcd bn__law_gcd (b__law_gcd F)
abbrev sc__law_row_1 : Scope := { kind := .function, names := [(".0", .local), ("at", .local), ("_law_roll", .globalImplicit), ("dice", .free), ("most", .free)], isGenerator := false, isCoroutine := false, more := [] }
theorem ok__law_row_1 : BlkOk N__law_row (defScope s__law_row) sc__law_row_1 [("at", 3)] := blkOk_by (by decide +kernel)
abbrev sx__law_row_1 : Scope := { kind := .function, names := [(".0", .local), ("at", .local), ("_law_roll", .globalImplicit), ("dice", .cell), ("most", .cell)], isGenerator := false, isCoroutine := false, more := [] }
theorem bn__law_row : BindsN "_law_row" s__law_row ["dice", "width", "most"] := fun _ _ _ _ _ _ us hl => match us, hl with | [_, _, _], _ => rfl
theorem b__law_row (F : LF P w K mg base) : Bod P w K mg base N__law_row "_law_row" (defScope s__law_row) (He.ga K "_law_row") 1 (cK K) true (defBody s__law_row) m__law_row := by
  unfold m__law_row c__law_row_1
  exact fun cd A outer s H E hr hcd p ni => 
  (mb_one (ms_ret (me_tuple F.b_tuple (ma_cons (me_fz (ml_lc (own := [("at", 3)]) (mi_range1 F.b_range (ma_cons (me_var 1) ma_nil)) ok__law_row_1 (blk_g fun i1 => (mg_name 3 S__law_row.nd)) (blk_t fun i1 f1 => mts_nil) (blk_e fun i1 f1 => (me_sub (me_callD 0 (cal__law_roll F) (hr.mono (by decide)) Pas.none (ma_cons (me_addA (me_mulA me_int (me_var 2)) me_int) ma_nil)) (me_var 2))) S__law_row.nd)) ma_nil))))
theorem cal__law_row (F : LF P w K mg base) : Cal P w K mg base 2 "_law_row" ["dice", "width", "most"] (spD K (cK K) 3 F__law_row) := cal_D F.d__law_row S__law_row bn__law_row (b__law_row F)
abbrev sc__law_grid_1 : Scope := { kind := .function, names := [(".0", .local), ("one", .local), ("more", .local), ("_law_pick", .globalImplicit), ("dice", .free)], isGenerator := false, isCoroutine := false, more := [] }
theorem ok__law_grid_1 : BlkOk N__law_grid (defScope s__law_grid) sc__law_grid_1 [("one", 6), ("more", 7)] := blkOk_by (by decide +kernel)
abbrev sx__law_grid_1 : Scope := { kind := .function, names := [(".0", .local), ("one", .local), ("more", .local), ("_law_pick", .globalImplicit), ("dice", .cell)], isGenerator := false, isCoroutine := false, more := [] }
abbrev sc__law_grid_2 : Scope := { kind := .function, names := [(".0", .local), ("one", .local)], isGenerator := false, isCoroutine := false, more := [] }
theorem ok__law_grid_2 : BlkOk N__law_grid (defScope s__law_grid) sc__law_grid_2 [("one", 6)] := blkOk_by (by decide +kernel)
theorem bn__law_grid : BindsN "_law_grid" s__law_grid ["dice", "width", "many"] := fun _ _ _ _ _ _ us hl => match us, hl with | [_, _, _], _ => rfl
theorem b__law_grid (F : LF P w K mg base) : Bod P w K mg base N__law_grid "_law_grid" (defScope s__law_grid) (He.ga K "_law_grid") 2 (cK K) true (defBody s__law_grid) m__law_grid := by
  unfold m__law_grid l__law_grid_1 c__law_grid_2 c__law_grid_1
  exact fun cd A outer s H E hr hcd p ni => 
  (mb_cons (ms_setO 3 (ml_lst ma_nil) (hN := S__law_grid.nd))
  (mb_cons (ms_for ownsB (mi_range1 F.b_range (ma_cons (me_var 2) ma_nil)) (mg_name 4 S__law_grid.nd) (mb_cons (ms_set 5 (me_callD 0 (cal__law_row F) (hr.mono (by decide)) pasB (ma_cons (me_var 1) (ma_cons me_int ma_nil))) (hN := S__law_grid.nd))
  (mb_cons (ms_if (mt_w (mw_and (mt_c (mc_gt (me_lenO 3 F.b_len) me_int)) (mw_and1 (mt_c (mc_eq hr (me_callD 0 (cal__law_roll F) (hr.mono (by decide)) pasB (ma_cons me_int ma_nil)) me_int))))) (mb_one (ms_set 5 (me_tuple F.b_tuple (ma_cons (me_fz (ml_lc (own := [("one", 6), ("more", 7)]) (mi_zip F.b_zip (ma_cons (me_ixO 3 (me_neg me_int)) (ma_cons (me_ixO 3 me_int) ma_nil))) ok__law_grid_1 (blk_g fun i1 => (mg_tup (mgs_cons (mg_name 6 S__law_grid.nd) (mgs_cons (mg_name 7 S__law_grid.nd) mgs_nil)))) (blk_t fun i1 f1 => mts_nil) (blk_e fun i1 f1 => (me_addA (me_var 6) (me_mulA (me_callD 0 (cal__law_pick F) (hr.mono (by decide)) Pas.none (ma_cons (me_fz (ml_lst (ma_cons (me_neg me_int) (ma_cons me_int (ma_cons me_int ma_nil))))) ma_nil)) (me_var 7)))) S__law_grid.nd)) ma_nil)) (hN := S__law_grid.nd))) mb_nil)
  (mb_one (ms_append 3 (me_callD 0 (cal__law_pick F) (hr.mono (by decide)) pasB (ma_cons (me_fz (ml_lst (ma_cons (me_var 5) (ma_cons (me_var 5) (ma_cons (me_var 5) (ma_cons (me_mulA (me_tup (ma_cons me_int ma_nil)) (me_var 1)) (ma_cons (me_tuple F.b_tuple (ma_cons (me_fz (ml_lc (own := [("one", 6)]) (mi_seq (me_var 5)) ok__law_grid_2 (blk_g fun i2 => (mg_name 6 S__law_grid.nd)) (blk_t fun i2 f2 => mts_nil) (blk_e fun i2 f2 => (me_mulA me_int (me_var 6))) S__law_grid.nd)) ma_nil)) ma_nil))))))) ma_nil)))))))
  (mb_one (ms_ret (me_tup (ma_cons (me_var 1) (ma_cons (me_tuple F.b_tuple (ma_cons (me_varZ 3) ma_nil)) ma_nil)))))))
theorem cal__law_grid (F : LF P w K mg base) : Cal P w K mg base 3 "_law_grid" ["dice", "width", "many"] (spD K (cK K) 3 F__law_grid) := cal_D F.d__law_grid S__law_grid bn__law_grid (b__law_grid F)
abbrev sc__law_dot_1 : Scope := { kind := .function, names := [(".0", .local), ("first", .local), ("second", .local)], isGenerator := false, isCoroutine := false, more := [] }
theorem ok__law_dot_1 : BlkOk N__law_dot (defScope s__law_dot) sc__law_dot_1 [("first", 2), ("second", 3)] := blkOk_by (by decide +kernel)
theorem bn__law_dot : BindsN "_law_dot" s__law_dot ["one", "other"] := fun _ _ _ _ _ _ us hl => match us, hl with | [_, _], _ => rfl
theorem b__law_dot (F : LF P w K mg base) : Bod P w K mg base N__law_dot "_law_dot" (defScope s__law_dot) (He.ga K "_law_dot") 0 (cK K) false (defBody s__law_dot) m__law_dot := by
  unfold m__law_dot c__law_dot_1
  exact fun cd A outer s H E hr hcd p ni => 
  (mb_one (ms_ret (me_sumA F.b_sum (ma_cons (me_fz (ml_lc (own := [("first", 2), ("second", 3)]) (mi_zip F.b_zip (ma_cons (me_var 0) (ma_cons (me_var 1) ma_nil))) ok__law_dot_1 (blk_g fun i1 => (mg_tup (mgs_cons (mg_name 2 S__law_dot.nd) (mgs_cons (mg_name 3 S__law_dot.nd) mgs_nil)))) (blk_t fun i1 f1 => mts_nil) (blk_e fun i1 f1 => (me_mulA (me_var 2) (me_var 3))) S__law_dot.nd)) ma_nil))))
theorem cal__law_dot (F : LF P w K mg base) : Cal P w K mg base 1 "_law_dot" ["one", "other"] (spP K (cK K) 2 F__law_dot) := cal_P F.d__law_dot S__law_dot bn__law_dot (b__law_dot F)
abbrev sc__law_det_1 : Scope := { kind := .function, names := [(".0", .local), ("row", .local), ("at", .free)], isGenerator := false, isCoroutine := false, more := [] }
theorem ok__law_det_1 : BlkOk N__law_det (defScope s__law_det) sc__law_det_1 [("row", 4)] := blkOk_by (by decide +kernel)
abbrev sx__law_det_1 : Scope := { kind := .function, names := [(".0", .local), ("row", .local), ("at", .cell)], isGenerator := false, isCoroutine := false, more := [] }
theorem bn__law_det : BindsN "_law_det" s__law_det ["rows"] := fun _ _ _ _ _ _ us hl => match us, hl with | [_], _ => rfl
theorem b__law_det (F : LF P w K mg base) {R : List D → FR} {j : Nat} (C : Cal P w K mg base j "_law_det" ["rows"] (spP K (cK K) 1 R)) (hj : 0 ≤ j) : Bod P w K mg base N__law_det "_law_det" (defScope s__law_det) (He.ga K "_law_det") j (cK K) false (defBody s__law_det) (m__law_det R) := by
  unfold m__law_det l__law_det_1 c__law_det_1
  exact fun cd A outer s H E hr hcd p ni => 
  (mb_cons (ms_if (mt_c (mc_eq hr (me_len F.b_len (ma_cons (me_var 0) ma_nil)) me_int)) (mb_one (ms_ret me_int)) mb_nil)
  (mb_cons (ms_set 1 me_int (hN := S__law_det.nd))
  (mb_cons (ms_for ownsB (mi_range1 F.b_range (ma_cons (me_len F.b_len (ma_cons (me_var 0) ma_nil)) ma_nil)) (mg_name 2 S__law_det.nd) (mb_cons (ms_setLcF 3 (own := [("row", 4)]) (mi_seq (me_slice (me_var 0) (mo_some me_int) mo_none)) ok__law_det_1 (blk_g fun i1 => (mg_name 4 S__law_det.nd)) (blk_t fun i1 f1 => mts_nil) (blk_e fun i1 f1 => (me_addA (me_slice (me_var 4) mo_none (mo_some (me_var 2))) (me_slice (me_var 4) (mo_some (me_addA (me_var 2) me_int)) mo_none))) S__law_det.nd)
  (mb_one (ms_set 1 (me_addA (me_var 1) (me_mulA (me_mulA (me_if (mt_c (mc_eq hr (me_mod (me_var 2) me_int) me_int)) me_int (me_neg me_int)) (me_ix (me_ix (me_var 0) me_int) (me_var 2))) (me_call (n := 1) (C) (hr.mono (by omega)) pasB (ma_cons (me_var 3) ma_nil)))) (hN := S__law_det.nd)))))
  (mb_one (ms_ret (me_var 1))))))
theorem calr__law_det (F : LF P w K mg base) : ∀ n, Cal P w K mg base (n + 0) "_law_det" ["rows"] (spP K (cK K) 1 (F__law_det n))
  | 0 => (cal_0 F.d__law_det bn__law_det).mono (Nat.zero_le _)
  | n + 1 => (cal_P F.d__law_det S__law_det bn__law_det (b__law_det F (calr__law_det F n) (by omega))).mono (by omega)
theorem cal__law_det (F : LF P w K mg base) : Cal P w K mg base 6 "_law_det" ["rows"] (spP K (cK K) 1 (F__law_det 6)) := calr__law_det F 6
abbrev sc__law_some_1 : Scope := { kind := .function, names := [(".0", .local), ("own", .local), ("row", .free)], isGenerator := false, isCoroutine := false, more := [] }
theorem ok__law_some_1 : BlkOk N__law_some (defScope s__law_some) sc__law_some_1 [("own", 6)] := blkOk_by (by decide +kernel)
abbrev sx__law_some_1 : Scope := { kind := .function, names := [(".0", .local), ("own", .local), ("row", .cell)], isGenerator := false, isCoroutine := false, more := [] }
theorem bn__law_some : BindsN "_law_some" s__law_some ["many", "size"] := fun _ _ _ _ _ _ us hl => match us, hl with | [_, _], _ => rfl
theorem b__law_some (F : LF P w K mg base) : Bod P w K mg base N__law_some "_law_some" (defScope s__law_some) (He.ga K "_law_some") 0 (cK K) false (defBody s__law_some) m__law_some := by
  unfold m__law_some l__law_some_2 l__law_some_1 c__law_some_1
  exact fun cd A outer s H E hr hcd p ni => 
  (mb_cons (ms_set 2 (me_fz (ml_lst (ma_cons (me_tup ma_nil) ma_nil))) (hN := S__law_some.nd))
  (mb_cons (ms_for ownsB (mi_range1 F.b_range (ma_cons (me_var 1) ma_nil)) (mg_name 3 S__law_some.nd) (mb_cons (ms_set 4 (me_fz (ml_lst ma_nil)) (hN := S__law_some.nd))
  (mb_cons (ms_for ownsB (mi_seq (me_var 2)) (mg_name 5 S__law_some.nd) (mb_one (ms_set 4 (me_addA (me_var 4) (me_fz (ml_lc (own := [("own", 6)]) (mi_range2 F.b_range (ma_cons (me_if (mt_c (mc_gt (me_len F.b_len (ma_cons (me_var 5) ma_nil)) me_int)) (me_addA (me_ix (me_var 5) (me_neg me_int)) me_int) me_int) (ma_cons (me_var 0) ma_nil))) ok__law_some_1 (blk_g fun i1 => (mg_name 6 S__law_some.nd)) (blk_t fun i1 f1 => mts_nil) (blk_e fun i1 f1 => (me_addA (me_var 5) (me_tup (ma_cons (me_var 6) ma_nil)))) S__law_some.nd))) (hN := S__law_some.nd))))
  (mb_one (ms_set 2 (me_var 4) (hN := S__law_some.nd))))))
  (mb_one (ms_ret (me_var 2)))))
theorem cal__law_some (F : LF P w K mg base) : Cal P w K mg base 1 "_law_some" ["many", "size"] (spP K (cK K) 2 F__law_some) := cal_P F.d__law_some S__law_some bn__law_some (b__law_some F)
abbrev sc__law_divisor_1 : Scope := { kind := .function, names := [(".0", .local), ("at", .cell), ("tuple", .globalImplicit), ("places", .free), ("rows", .free)], isGenerator := false, isCoroutine := false, more := [] }
theorem ok__law_divisor_1 : BlkOk N__law_divisor (defScope s__law_divisor) sc__law_divisor_1 [("at", 6)] := blkOk_by (by decide +kernel)
abbrev sx__law_divisor_1 : Scope := { kind := .function, names := [(".0", .local), ("at", .cell), ("tuple", .globalImplicit), ("places", .cell), ("rows", .cell)], isGenerator := false, isCoroutine := false, more := [] }
abbrev sc__law_divisor_2 : Scope := { kind := .function, names := [(".0", .local), ("place", .local), ("at", .free), ("rows", .free)], isGenerator := false, isCoroutine := false, more := [] }
theorem ok__law_divisor_2 : BlkOk N__law_divisor (sx__law_divisor_1) sc__law_divisor_2 [("place", 7)] := blkOk_by (by decide +kernel)
abbrev sx__law_divisor_2 : Scope := { kind := .function, names := [(".0", .local), ("place", .local), ("at", .cell), ("rows", .cell)], isGenerator := false, isCoroutine := false, more := [] }
theorem bn__law_divisor : BindsN "_law_divisor" s__law_divisor ["rows", "width", "size"] := fun _ _ _ _ _ _ us hl => match us, hl with | [_, _, _], _ => rfl
theorem b__law_divisor (F : LF P w K mg base) : Bod P w K mg base N__law_divisor "_law_divisor" (defScope s__law_divisor) (He.ga K "_law_divisor") 6 (cK K) false (defBody s__law_divisor) m__law_divisor := by
  unfold m__law_divisor l__law_divisor_2 l__law_divisor_1 c__law_divisor_1 c__law_divisor_2
  exact fun cd A outer s H E hr hcd p ni => 
  (mb_cons (ms_set 3 me_int (hN := S__law_divisor.nd))
  (mb_cons (ms_for ownsB (mi_seq (me_call (n := 2) (cal__law_some F) (hr.mono (by decide)) pasB (ma_cons (me_len F.b_len (ma_cons (me_var 0) ma_nil)) (ma_cons (me_var 2) ma_nil)))) (mg_name 4 S__law_divisor.nd) (mb_one (ms_for ownsB (mi_seq (me_call (n := 2) (cal__law_some F) (hr.mono (by decide)) pasB (ma_cons (me_var 1) (ma_cons (me_var 2) ma_nil)))) (mg_name 5 S__law_divisor.nd) (mb_one (ms_set 3 (me_call (n := 2) (cal__law_gcd F) (hr.mono (by decide)) pasB (ma_cons (me_var 3) (ma_cons (me_call (n := 1) (cal__law_det F) (hr.mono (by decide)) pasB (ma_cons (me_fz (ml_lc (own := [("at", 6)]) (mi_seq (me_var 4)) ok__law_divisor_1 (blk_g fun i1 => (mg_name 6 S__law_divisor.nd)) (blk_t fun i1 f1 => mts_nil) (blk_e fun i1 f1 => (me_tuple F.b_tuple (ma_cons (me_fz (ml_lc (own := [("place", 7)]) (mi_seq (me_var 5)) ok__law_divisor_2 (blk_g fun i2 => (mg_name 7 S__law_divisor.nd)) (blk_t fun i2 f2 => mts_nil) (blk_e fun i2 f2 => (me_ix (me_ix (me_var 0) (me_var 6)) (me_var 7))) S__law_divisor.nd)) ma_nil))) S__law_divisor.nd)) ma_nil)) ma_nil))) (hN := S__law_divisor.nd))))))
  (mb_one (ms_ret (me_var 3)))))
theorem cal__law_divisor (F : LF P w K mg base) : Cal P w K mg base 7 "_law_divisor" ["rows", "width", "size"] (spP K (cK K) 3 F__law_divisor) := cal_P F.d__law_divisor S__law_divisor bn__law_divisor (b__law_divisor F)
theorem bn__law_rank : BindsN "_law_rank" s__law_rank ["rows", "width"] := fun _ _ _ _ _ _ us hl => match us, hl with | [_, _], _ => rfl
theorem b__law_rank (F : LF P w K mg base) : Bod P w K mg base N__law_rank "_law_rank" (defScope s__law_rank) (He.ga K "_law_rank") 7 (cK K) false (defBody s__law_rank) m__law_rank := by
  unfold m__law_rank l__law_rank_1
  exact fun cd A outer s H E hr hcd p ni => 
  (mb_cons (ms_set 2 me_int (hN := S__law_rank.nd))
  (mb_cons (ms_while ownsB (mt_w (mw_and (mt_c (mc_lt (me_var 2) (me_min2 F.b_min (ma_cons (me_len F.b_len (ma_cons (me_var 0) ma_nil)) (ma_cons (me_var 1) ma_nil))))) (mw_and1 (mt_c (mc_ne hr (me_call (n := 3) (cal__law_divisor F) (hr.mono (by decide)) pasB (ma_cons (me_var 0) (ma_cons (me_var 1) (ma_cons (me_addA (me_var 2) me_int) ma_nil)))) me_int))))) (mb_one (ms_set 2 (me_addA (me_var 2) me_int) (hN := S__law_rank.nd))))
  (mb_one (ms_ret (me_var 2)))))
theorem cal__law_rank (F : LF P w K mg base) : Cal P w K mg base 8 "_law_rank" ["rows", "width"] (spP K (cK K) 2 F__law_rank) := cal_P F.d__law_rank S__law_rank bn__law_rank (b__law_rank F)
theorem bn__law_plus : BindsN "_law_plus" s__law_plus ["one", "other"] := fun _ _ _ _ _ _ us hl => match us, hl with | [_, _], _ => rfl
theorem b__law_plus (F : LF P w K mg base) : Bod P w K mg base N__law_plus "_law_plus" (defScope s__law_plus) (He.ga K "_law_plus") 1 (cK K) false (defBody s__law_plus) m__law_plus := by
  unfold m__law_plus
  exact fun cd A outer s H E hr hcd p ni => 
  (mb_cons (ms_par 2 3 (ma_cons (me_addA (me_mulA (me_ix (me_var 0) me_int) (me_ix (me_var 1) me_int)) (me_mulA (me_ix (me_var 1) me_int) (me_ix (me_var 0) me_int))) (ma_cons (me_mulA (me_ix (me_var 0) me_int) (me_ix (me_var 1) me_int)) ma_nil)) (hN := S__law_plus.nd))
  (mb_cons (ms_set 4 (me_call (n := 2) (cal__law_gcd F) (hr.mono (by decide)) pasB (ma_cons (me_var 2) (ma_cons (me_var 3) ma_nil))) (hN := S__law_plus.nd))
  (mb_one (ms_ret (me_tup (ma_cons (me_fdiv (me_var 2) (me_var 4)) (ma_cons (me_fdiv (me_var 3) (me_var 4)) ma_nil)))))))
theorem cal__law_plus (F : LF P w K mg base) : Cal P w K mg base 2 "_law_plus" ["one", "other"] (spP K (cK K) 2 F__law_plus) := cal_P F.d__law_plus S__law_plus bn__law_plus (b__law_plus F)
theorem bn__law_mix : BindsN "_law_mix" s__law_mix ["row", "parts"] := fun _ _ _ _ _ _ us hl => match us, hl with | [_, _], _ => rfl
theorem b__law_mix (F : LF P w K mg base) : Bod P w K mg base N__law_mix "_law_mix" (defScope s__law_mix) (He.ga K "_law_mix") 2 (cK K) false (defBody s__law_mix) m__law_mix := by
  unfold m__law_mix l__law_mix_1
  exact fun cd A outer s H E hr hcd p ni => 
  (mb_cons (ms_set 2 (me_tup (ma_cons me_int (ma_cons me_int ma_nil))) (hN := S__law_mix.nd))
  (mb_cons (ms_for ownsB (mi_zip F.b_zip (ma_cons (me_var 0) (ma_cons (me_var 1) ma_nil))) (mg_tup (mgs_cons (mg_name 3 S__law_mix.nd) (mgs_cons (mg_name 4 S__law_mix.nd) mgs_nil))) (mb_one (ms_set 2 (me_call (n := 2) (cal__law_plus F) (hr.mono (by decide)) pasB (ma_cons (me_var 2) (ma_cons (me_tup (ma_cons (me_mulA (me_var 3) (me_ix (me_var 4) me_int)) (ma_cons (me_ix (me_var 4) me_int) ma_nil))) ma_nil))) (hN := S__law_mix.nd))))
  (mb_one (ms_ret (me_var 2)))))
theorem cal__law_mix (F : LF P w K mg base) : Cal P w K mg base 3 "_law_mix" ["row", "parts"] (spP K (cK K) 2 F__law_mix) := cal_P F.d__law_mix S__law_mix bn__law_mix (b__law_mix F)
theorem bn__law_bad : BindsN "_law_bad" s__law_bad ["dice"] := fun _ _ _ _ _ _ us hl => match us, hl with | [_], _ => rfl
theorem b__law_bad (F : LF P w K mg base) : Bod P w K mg base N__law_bad "_law_bad" (defScope s__law_bad) (He.ga K "_law_bad") 2 (cK K) true (defBody s__law_bad) m__law_bad := by
  unfold m__law_bad
  exact fun cd A outer s H E hr hcd p ni => 
  (mb_one (ms_ret (me_callD 0 (cal__law_pick F) (hr.mono (by decide)) pasB (ma_cons (me_fz (ml_lst (ma_cons me_non (ma_cons (me_tup (ma_cons me_int (ma_cons (me_tup ma_nil) ma_nil))) (ma_cons (me_tup (ma_cons me_int (ma_cons (me_tup ma_nil) ma_nil))) (ma_cons (me_tup (ma_cons me_int (ma_cons (me_fz (ml_lst (ma_cons (me_tup (ma_cons me_int ma_nil)) ma_nil))) ma_nil))) (ma_cons (me_tup (ma_cons me_int (ma_cons (me_tup (ma_cons (me_tup (ma_cons me_int (ma_cons me_int ma_nil))) ma_nil)) ma_nil))) (ma_cons (me_tup (ma_cons me_int (ma_cons (me_tup (ma_cons (me_tup (ma_cons me_bl ma_nil)) ma_nil)) ma_nil))) (ma_cons (me_tup (ma_cons me_int (ma_cons (me_tup (ma_cons (me_tup (ma_cons me_int ma_nil)) ma_nil)) ma_nil))) (ma_cons (me_tup (ma_cons me_int (ma_cons (me_tup (ma_cons (me_tup (ma_cons me_int ma_nil)) ma_nil)) ma_nil))) (ma_cons (me_tup (ma_cons (me_tup (ma_cons me_int ma_nil)) ma_nil)) (ma_cons (me_tup (ma_cons me_int (ma_cons (me_mulA (me_tup (ma_cons (me_tup (ma_cons me_int ma_nil)) ma_nil)) me_int) ma_nil))) ma_nil)))))))))))) ma_nil))))
theorem cal__law_bad (F : LF P w K mg base) : Cal P w K mg base 3 "_law_bad" ["dice"] (spD K (cK K) 1 F__law_bad) := cal_D F.d__law_bad S__law_bad bn__law_bad (b__law_bad F)
abbrev sc__law_part_1 : Scope := { kind := .function, names := [(".0", .local), ("at", .cell), ("tuple", .globalImplicit), ("rows", .free), ("sides", .free)], isGenerator := false, isCoroutine := false, more := [] }
theorem ok__law_part_1 : BlkOk N__law_part (defScope s__law_part) sc__law_part_1 [("at", 3)] := blkOk_by (by decide +kernel)
abbrev sx__law_part_1 : Scope := { kind := .function, names := [(".0", .local), ("at", .cell), ("tuple", .globalImplicit), ("rows", .cell), ("sides", .cell)], isGenerator := false, isCoroutine := false, more := [] }
abbrev sc__law_part_2 : Scope := { kind := .function, names := [(".0", .local), ("side", .local), ("at", .free), ("rows", .free)], isGenerator := false, isCoroutine := false, more := [] }
theorem ok__law_part_2 : BlkOk N__law_part (sx__law_part_1) sc__law_part_2 [("side", 4)] := blkOk_by (by decide +kernel)
abbrev sx__law_part_2 : Scope := { kind := .function, names := [(".0", .local), ("side", .local), ("at", .cell), ("rows", .cell)], isGenerator := false, isCoroutine := false, more := [] }
theorem bn__law_part : BindsN "_law_part" s__law_part ["rows", "ups", "sides"] := fun _ _ _ _ _ _ us hl => match us, hl with | [_, _, _], _ => rfl
theorem b__law_part (F : LF P w K mg base) : Bod P w K mg base N__law_part "_law_part" (defScope s__law_part) (He.ga K "_law_part") 6 (cK K) false (defBody s__law_part) m__law_part := by
  unfold m__law_part c__law_part_1 c__law_part_2
  exact fun cd A outer s H E hr hcd p ni => 
  (mb_one (ms_ret (me_call (n := 1) (cal__law_det F) (hr.mono (by decide)) pasB (ma_cons (me_fz (ml_lc (own := [("at", 3)]) (mi_seq (me_var 1)) ok__law_part_1 (blk_g fun i1 => (mg_name 3 S__law_part.nd)) (blk_t fun i1 f1 => mts_nil) (blk_e fun i1 f1 => (me_tuple F.b_tuple (ma_cons (me_fz (ml_lc (own := [("side", 4)]) (mi_seq (me_var 2)) ok__law_part_2 (blk_g fun i2 => (mg_name 4 S__law_part.nd)) (blk_t fun i2 f2 => mts_nil) (blk_e fun i2 f2 => (me_ix (me_ix (me_var 0) (me_var 3)) (me_var 4))) S__law_part.nd)) ma_nil))) S__law_part.nd)) ma_nil))))
theorem cal__law_part (F : LF P w K mg base) : Cal P w K mg base 7 "_law_part" ["rows", "ups", "sides"] (spP K (cK K) 3 F__law_part) := cal_P F.d__law_part S__law_part bn__law_part (b__law_part F)
abbrev sc__law_product_1 : Scope := { kind := .function, names := [(".0", .local), ("at", .cell), ("tuple", .globalImplicit), ("other", .free)], isGenerator := false, isCoroutine := false, more := [] }
theorem ok__law_product_1 : BlkOk N__law_product (defScope s__law_product) sc__law_product_1 [("at", 4)] := blkOk_by (by decide +kernel)
abbrev sx__law_product_1 : Scope := { kind := .function, names := [(".0", .local), ("at", .cell), ("tuple", .globalImplicit), ("other", .cell)], isGenerator := false, isCoroutine := false, more := [] }
abbrev sc__law_product_2 : Scope := { kind := .function, names := [(".0", .local), ("row", .local), ("at", .free)], isGenerator := false, isCoroutine := false, more := [] }
theorem ok__law_product_2 : BlkOk N__law_product (sx__law_product_1) sc__law_product_2 [("row", 5)] := blkOk_by (by decide +kernel)
abbrev sx__law_product_2 : Scope := { kind := .function, names := [(".0", .local), ("row", .local), ("at", .cell)], isGenerator := false, isCoroutine := false, more := [] }
abbrev sc__law_product_3 : Scope := { kind := .function, names := [(".0", .local), ("row", .cell), ("tuple", .globalImplicit), ("columns", .free)], isGenerator := false, isCoroutine := false, more := [] }
theorem ok__law_product_3 : BlkOk N__law_product (defScope s__law_product) sc__law_product_3 [("row", 5)] := blkOk_by (by decide +kernel)
abbrev sx__law_product_3 : Scope := { kind := .function, names := [(".0", .local), ("row", .cell), ("tuple", .globalImplicit), ("columns", .cell)], isGenerator := false, isCoroutine := false, more := [] }
abbrev sc__law_product_4 : Scope := { kind := .function, names := [(".0", .local), ("column", .local), ("_law_dot", .globalImplicit), ("row", .free)], isGenerator := false, isCoroutine := false, more := [] }
theorem ok__law_product_4 : BlkOk N__law_product (sx__law_product_3) sc__law_product_4 [("column", 6)] := blkOk_by (by decide +kernel)
abbrev sx__law_product_4 : Scope := { kind := .function, names := [(".0", .local), ("column", .local), ("_law_dot", .globalImplicit), ("row", .cell)], isGenerator := false, isCoroutine := false, more := [] }
theorem bn__law_product : BindsN "_law_product" s__law_product ["one", "other", "width"] := fun _ _ _ _ _ _ us hl => match us, hl with | [_, _, _], _ => rfl
theorem b__law_product (F : LF P w K mg base) : Bod P w K mg base N__law_product "_law_product" (defScope s__law_product) (He.ga K "_law_product") 1 (cK K) false (defBody s__law_product) m__law_product := by
  unfold m__law_product c__law_product_3 c__law_product_4 c__law_product_1 c__law_product_2
  exact fun cd A outer s H E hr hcd p ni => 
  (mb_cons (ms_set 3 (me_fz (ml_lc (own := [("at", 4)]) (mi_range1 F.b_range (ma_cons (me_var 2) ma_nil)) ok__law_product_1 (blk_g fun i1 => (mg_name 4 S__law_product.nd)) (blk_t fun i1 f1 => mts_nil) (blk_e fun i1 f1 => (me_tuple F.b_tuple (ma_cons (me_fz (ml_lc (own := [("row", 5)]) (mi_seq (me_var 1)) ok__law_product_2 (blk_g fun i2 => (mg_name 5 S__law_product.nd)) (blk_t fun i2 f2 => mts_nil) (blk_e fun i2 f2 => (me_ix (me_var 5) (me_var 4))) S__law_product.nd)) ma_nil))) S__law_product.nd)) (hN := S__law_product.nd))
  (mb_one (ms_ret (me_tuple F.b_tuple (ma_cons (me_fz (ml_lc (own := [("row", 5)]) (mi_seq (me_var 0)) ok__law_product_3 (blk_g fun i3 => (mg_name 5 S__law_product.nd)) (blk_t fun i3 f3 => mts_nil) (blk_e fun i3 f3 => (me_tuple F.b_tuple (ma_cons (me_fz (ml_lc (own := [("column", 6)]) (mi_seq (me_var 3)) ok__law_product_4 (blk_g fun i4 => (mg_name 6 S__law_product.nd)) (blk_t fun i4 f4 => mts_nil) (blk_e fun i4 f4 => (me_call (n := 2) (cal__law_dot F) (hr.mono (by decide)) Pas.none (ma_cons (me_var 5) (ma_cons (me_var 6) ma_nil)))) S__law_product.nd)) ma_nil))) S__law_product.nd)) ma_nil)))))
theorem cal__law_product (F : LF P w K mg base) : Cal P w K mg base 2 "_law_product" ["one", "other", "width"] (spP K (cK K) 3 F__law_product) := cal_P F.d__law_product S__law_product bn__law_product (b__law_product F)
abbrev sc__law_right_1 : Scope := { kind := .function, names := [(".0", .local), ("one", .cell), ("tuple", .globalImplicit), ("_law_some", .globalImplicit), ("grid", .free), ("size", .free), ("width", .free)], isGenerator := false, isCoroutine := false, more := [] }
theorem ok__law_right_1 : BlkOk N__law_right (defScope s__law_right) sc__law_right_1 [("one", 23)] := blkOk_by (by decide +kernel)
abbrev sx__law_right_1 : Scope := { kind := .function, names := [(".0", .local), ("one", .cell), ("tuple", .globalImplicit), ("_law_some", .globalImplicit), ("grid", .cell), ("size", .cell), ("width", .cell)], isGenerator := false, isCoroutine := false, more := [] }
abbrev sc__law_right_2 : Scope := { kind := .function, names := [(".0", .local), ("other", .local), ("_law_part", .globalImplicit), ("grid", .free), ("one", .free)], isGenerator := false, isCoroutine := false, more := [] }
theorem ok__law_right_2 : BlkOk N__law_right (sx__law_right_1) sc__law_right_2 [("other", 5)] := blkOk_by (by decide +kernel)
abbrev sx__law_right_2 : Scope := { kind := .function, names := [(".0", .local), ("other", .local), ("_law_part", .globalImplicit), ("grid", .cell), ("one", .cell)], isGenerator := false, isCoroutine := false, more := [] }
abbrev sc__law_right_3 : Scope := { kind := .function, names := [(".0", .local), ("turn", .local), ("_law_row", .globalImplicit), ("dice", .free), ("wide", .free)], isGenerator := false, isCoroutine := false, more := [] }
theorem ok__law_right_3 : BlkOk N__law_right (defScope s__law_right) sc__law_right_3 [("turn", 24)] := blkOk_by (by decide +kernel)
abbrev sx__law_right_3 : Scope := { kind := .function, names := [(".0", .local), ("turn", .local), ("_law_row", .globalImplicit), ("dice", .cell), ("wide", .cell)], isGenerator := false, isCoroutine := false, more := [] }
abbrev sc__law_right_4 : Scope := { kind := .function, names := [(".0", .local), ("turn", .local), ("_law_row", .globalImplicit), ("dice", .free), ("many", .free)], isGenerator := false, isCoroutine := false, more := [] }
theorem ok__law_right_4 : BlkOk N__law_right (defScope s__law_right) sc__law_right_4 [("turn", 24)] := blkOk_by (by decide +kernel)
abbrev sx__law_right_4 : Scope := { kind := .function, names := [(".0", .local), ("turn", .local), ("_law_row", .globalImplicit), ("dice", .cell), ("many", .cell)], isGenerator := false, isCoroutine := false, more := [] }
abbrev sc__law_right_5 : Scope := { kind := .function, names := [(".0", .local), ("one", .cell), ("tuple", .globalImplicit), ("range", .globalImplicit), ("many", .free), ("whole", .free)], isGenerator := false, isCoroutine := false, more := [] }
theorem ok__law_right_5 : BlkOk N__law_right (defScope s__law_right) sc__law_right_5 [("one", 23)] := blkOk_by (by decide +kernel)
abbrev sx__law_right_5 : Scope := { kind := .function, names := [(".0", .local), ("one", .cell), ("tuple", .globalImplicit), ("range", .globalImplicit), ("many", .cell), ("whole", .cell)], isGenerator := false, isCoroutine := false, more := [] }
abbrev sc__law_right_6 : Scope := { kind := .function, names := [(".0", .local), ("two", .local), ("one", .free), ("whole", .free)], isGenerator := false, isCoroutine := false, more := [] }
theorem ok__law_right_6 : BlkOk N__law_right (sx__law_right_5) sc__law_right_6 [("two", 25)] := blkOk_by (by decide +kernel)
abbrev sx__law_right_6 : Scope := { kind := .function, names := [(".0", .local), ("two", .local), ("one", .cell), ("whole", .cell)], isGenerator := false, isCoroutine := false, more := [] }
abbrev sc__law_right_7 : Scope := { kind := .function, names := [("bad", .free), ("minor", .globalImplicit)], isGenerator := false, isCoroutine := false, more := [] }
theorem la__law_right_7 : LamX.LamS (defScope s__law_right) sc__law_right_7 := LamX.lamS_by (by decide +kernel)
abbrev sc__law_right_8 : Scope := { kind := .function, names := [("grid", .free), ("many", .free), ("minor", .globalImplicit)], isGenerator := false, isCoroutine := false, more := [] }
theorem la__law_right_8 : LamX.LamS (defScope s__law_right) sc__law_right_8 := LamX.lamS_by (by decide +kernel)
abbrev sc__law_right_9 : Scope := { kind := .function, names := [("grid", .free), ("minor", .globalImplicit)], isGenerator := false, isCoroutine := false, more := [] }
theorem la__law_right_9 : LamX.LamS (defScope s__law_right) sc__law_right_9 := LamX.lamS_by (by decide +kernel)
abbrev sc__law_right_10 : Scope := { kind := .function, names := [("grid", .free), ("minor", .globalImplicit)], isGenerator := false, isCoroutine := false, more := [] }
theorem la__law_right_10 : LamX.LamS (defScope s__law_right) sc__law_right_10 := LamX.lamS_by (by decide +kernel)
abbrev sc__law_right_11 : Scope := { kind := .function, names := [("grid", .free), ("width", .free), ("minor", .globalImplicit)], isGenerator := false, isCoroutine := false, more := [] }
theorem la__law_right_11 : LamX.LamS (defScope s__law_right) sc__law_right_11 := LamX.lamS_by (by decide +kernel)
abbrev sc__law_right_12 : Scope := { kind := .function, names := [("grid", .free), ("compound", .globalImplicit)], isGenerator := false, isCoroutine := false, more := [] }
theorem la__law_right_12 : LamX.LamS (defScope s__law_right) sc__law_right_12 := LamX.lamS_by (by decide +kernel)
abbrev sc__law_right_13 : Scope := { kind := .function, names := [("grid", .free), ("many", .free), ("width", .free), ("compound", .globalImplicit), ("min", .globalImplicit)], isGenerator := false, isCoroutine := false, more := [] }
theorem la__law_right_13 : LamX.LamS (defScope s__law_right) sc__law_right_13 := LamX.lamS_by (by decide +kernel)
abbrev sc__law_right_14 : Scope := { kind := .function, names := [("bad", .free), ("common_minor", .globalImplicit)], isGenerator := false, isCoroutine := false, more := [] }
theorem la__law_right_14 : LamX.LamS (defScope s__law_right) sc__law_right_14 := LamX.lamS_by (by decide +kernel)
abbrev sc__law_right_15 : Scope := { kind := .function, names := [("cofactors", .globalImplicit)], isGenerator := false, isCoroutine := false, more := [] }
theorem la__law_right_15 : LamX.LamS (defScope s__law_right) sc__law_right_15 := LamX.lamS_by (by decide +kernel)
abbrev sc__law_right_16 : Scope := { kind := .function, names := [("square", .free), ("sums", .free), ("by_cofactors", .globalImplicit)], isGenerator := false, isCoroutine := false, more := [] }
theorem la__law_right_16 : LamX.LamS (defScope s__law_right) sc__law_right_16 := LamX.lamS_by (by decide +kernel)
abbrev sc__law_right_17 : Scope := { kind := .function, names := [("many", .free), ("square", .free), ("by_rows", .globalImplicit)], isGenerator := false, isCoroutine := false, more := [] }
theorem la__law_right_17 : LamX.LamS (defScope s__law_right) sc__law_right_17 := LamX.lamS_by (by decide +kernel)
abbrev sc__law_right_18 : Scope := { kind := .function, names := [("bad", .free), ("rank_by_minors", .globalImplicit)], isGenerator := false, isCoroutine := false, more := [] }
theorem la__law_right_18 : LamX.LamS (defScope s__law_right) sc__law_right_18 := LamX.lamS_by (by decide +kernel)
theorem bn__law_right : BindsN "_law_right" s__law_right ["dice"] := fun _ _ _ _ _ _ us hl => match us, hl with | [_], _ => rfl
theorem b__law_right (F : LF P w K mg base) : Bod P w K mg base N__law_right "_law_right" (defScope s__law_right) (He.ga K "_law_right") 12 (cK K) true (defBody s__law_right) m__law_right := by
  obtain ⟨fdR, hRef⟩ := ref_ok F
  have bRef := hRef.bindsN bn__law_refused
  unfold m__law_right l__law_right_1 c__law_right_5 c__law_right_6 c__law_right_4 c__law_right_3 c__law_right_1 c__law_right_2
  exact fun cd A outer s H E hr hcd p ni => 
  (mb_cons (ms_asg (me_tup (ma_cons (me_addA me_int (me_callD 0 (cal__law_roll F) (hr.mono (by decide)) pasB (ma_cons me_int ma_nil))) (ma_cons (me_addA me_int (me_callD 0 (cal__law_roll F) (hr.mono (by decide)) pasB (ma_cons me_int ma_nil))) ma_nil))) (mg_tup (mgs_cons (mg_name 22 S__law_right.nd) (mgs_cons (mg_name 19 S__law_right.nd) mgs_nil))))
  (mb_cons (ms_set 18 (me_callD 0 (cal__law_grid F) (hr.mono (by decide)) pasB (ma_cons (me_var 22) (ma_cons (me_var 19) ma_nil))) (hN := S__law_right.nd))
  (mb_cons (ms_set 1 (me_addA me_int (me_callD 0 (cal__law_roll F) (hr.mono (by decide)) pasB (ma_cons (me_min2 F.b_min (ma_cons (me_var 22) (ma_cons (me_var 19) ma_nil))) ma_nil))) (hN := S__law_right.nd))
  (mb_cons (ms_par 2 3 (ma_cons (me_callD 0 (cal__law_pick F) (hr.mono (by decide)) pasB (ma_cons (me_call (n := 2) (cal__law_some F) (hr.mono (by decide)) pasB (ma_cons (me_var 19) (ma_cons (me_var 1) ma_nil))) ma_nil)) (ma_cons (me_callD 0 (cal__law_pick F) (hr.mono (by decide)) pasB (ma_cons (me_call (n := 2) (cal__law_some F) (hr.mono (by decide)) pasB (ma_cons (me_var 22) (ma_cons (me_var 1) ma_nil))) ma_nil)) ma_nil)) (hN := S__law_right.nd))
  (mb_cons (ms_if (mt_c (mc_ne hr (me_callK (n := 3) (calk_minor_2 F) (hr.mono (by decide)) pasB (ma_cons (me_var 18) (ma_cons (me_var 2) ma_nil)) (mk_cons (me_var 3) mk_nil)) (me_call (n := 3) (cal__law_part F) (hr.mono (by decide)) pasB (ma_cons (me_ix (me_var 18) me_int) (ma_cons (me_var 2) (ma_cons (me_var 3) ma_nil)))))) (mb_one (ms_ret me_bl)) mb_nil)
  (mb_cons (ms_set 4 (me_callK (n := 2) (calk_compound_1 F) (hr.mono (by decide)) pasB (ma_cons (me_var 18) ma_nil) (mk_cons (me_var 1) mk_nil)) (hN := S__law_right.nd))
  (mb_cons (ms_set 6 (me_tuple F.b_tuple (ma_cons (me_fz (ml_lc (own := [("one", 23)]) (mi_seq (me_call (n := 2) (cal__law_some F) (hr.mono (by decide)) pasB (ma_cons (me_var 19) (ma_cons (me_var 1) ma_nil)))) ok__law_right_1 (blk_g fun i1 => (mg_name 23 S__law_right.nd)) (blk_t fun i1 f1 => mts_nil) (blk_e fun i1 f1 => (me_tuple F.b_tuple (ma_cons (me_fz (ml_lc (own := [("other", 5)]) (mi_seq (me_call (n := 2) (cal__law_some F) (hr.mono (by decide)) Pas.none (ma_cons (me_var 22) (ma_cons (me_var 1) ma_nil)))) ok__law_right_2 (blk_g fun i2 => (mg_name 5 S__law_right.nd)) (blk_t fun i2 f2 => mts_nil) (blk_e fun i2 f2 => (me_call (n := 3) (cal__law_part F) (hr.mono (by decide)) Pas.none (ma_cons (me_ix (me_var 18) me_int) (ma_cons (me_var 23) (ma_cons (me_var 5) ma_nil))))) S__law_right.nd)) ma_nil))) S__law_right.nd)) ma_nil)) (hN := S__law_right.nd))
  (mb_cons (ms_if (mt_w (mw_or (mt_c (mc_ne hr (me_var 4) (me_var 6))) (mw_or1 (mt_c (mc_ne hr (me_callK (n := 2) (calk_common_minor_1 F) (hr.mono (by decide)) pasB (ma_cons (me_var 18) ma_nil) (mk_cons (me_var 1) mk_nil)) (me_call (n := 3) (cal__law_divisor F) (hr.mono (by decide)) pasB (ma_cons (me_fz (ml_list F.b_list (ma_cons (me_ix (me_var 18) me_int) ma_nil))) (ma_cons (me_var 22) (ma_cons (me_var 1) ma_nil))))))))) (mb_one (ms_ret me_bl)) mb_nil)
  (mb_cons (ms_if (mt_c (mc_ne hr (me_call (n := 1) (cal_rank_by_minors F) (hr.mono (by decide)) pasB (ma_cons (me_var 18) ma_nil)) (me_call (n := 2) (cal__law_rank F) (hr.mono (by decide)) pasB (ma_cons (me_fz (ml_list F.b_list (ma_cons (me_ix (me_var 18) me_int) ma_nil))) (ma_cons (me_var 22) ma_nil))))) (mb_one (ms_ret me_bl)) mb_nil)
  (mb_cons (ms_set 7 (me_addA me_int (me_callD 0 (cal__law_roll F) (hr.mono (by decide)) pasB (ma_cons me_int ma_nil))) (hN := S__law_right.nd))
  (mb_cons (ms_set 5 (me_tup (ma_cons (me_var 7) (ma_cons (me_tuple F.b_tuple (ma_cons (me_fz (ml_lc (own := [("turn", 24)]) (mi_range1 F.b_range (ma_cons (me_var 22) ma_nil)) ok__law_right_3 (blk_g fun i3 => (mg_name 24 S__law_right.nd)) (blk_t fun i3 f3 => mts_nil) (blk_e fun i3 f3 => (me_callD 0 (cal__law_row F) (hr.mono (by decide)) Pas.none (ma_cons (me_var 7) (ma_cons me_int ma_nil)))) S__law_right.nd)) ma_nil)) ma_nil))) (hN := S__law_right.nd))
  (mb_cons (ms_set 8 (me_tup (ma_cons (me_var 7) (ma_cons (me_call (n := 3) (cal__law_product F) (hr.mono (by decide)) pasB (ma_cons (me_ix (me_var 18) me_int) (ma_cons (me_ix (me_var 5) me_int) (ma_cons (me_var 7) ma_nil)))) ma_nil))) (hN := S__law_right.nd))
  (mb_cons (ms_if (mt_c (mc_le (me_var 1) (me_min3 F.b_min (ma_cons (me_var 7) (ma_cons (me_var 22) (ma_cons (me_var 19) ma_nil)))))) (mb_one (ms_if (mt_c (mc_ne hr (me_call (n := 2) (cal_compound F) (hr.mono (by decide)) pasB (ma_cons (me_var 8) (ma_cons (me_var 1) ma_nil))) (me_call (n := 3) (cal__law_product F) (hr.mono (by decide)) pasB (ma_cons (me_var 4) (ma_cons (me_call (n := 2) (cal_compound F) (hr.mono (by decide)) pasB (ma_cons (me_var 5) (ma_cons (me_var 1) ma_nil))) (ma_cons (me_len F.b_len (ma_cons (me_call (n := 2) (cal__law_some F) (hr.mono (by decide)) pasB (ma_cons (me_var 7) (ma_cons (me_var 1) ma_nil))) ma_nil)) ma_nil)))))) (mb_one (ms_ret me_bl)) mb_nil)) mb_nil)
  (mb_cons (ms_set 20 (me_tup (ma_cons (me_var 19) (ma_cons (me_tuple F.b_tuple (ma_cons (me_fz (ml_lc (own := [("turn", 24)]) (mi_range1 F.b_range (ma_cons (me_var 19) ma_nil)) ok__law_right_4 (blk_g fun i4 => (mg_name 24 S__law_right.nd)) (blk_t fun i4 f4 => mts_nil) (blk_e fun i4 f4 => (me_callD 0 (cal__law_row F) (hr.mono (by decide)) Pas.none (ma_cons (me_var 19) (ma_cons me_int ma_nil)))) S__law_right.nd)) ma_nil)) ma_nil))) (hN := S__law_right.nd))
  (mb_cons (ms_set 9 (me_call (n := 1) (cal__law_det F) (hr.mono (by decide)) pasB (ma_cons (me_ix (me_var 20) me_int) ma_nil)) (hN := S__law_right.nd))
  (mb_cons (ms_set 10 (me_call (n := 1) (cal_cofactors F) (hr.mono (by decide)) pasB (ma_cons (me_var 20) ma_nil)) (hN := S__law_right.nd))
  (mb_cons (ms_set 11 (me_tuple F.b_tuple (ma_cons (me_fz (ml_lc (own := [("one", 23)]) (mi_range1 F.b_range (ma_cons (me_var 19) ma_nil)) ok__law_right_5 (blk_g fun i5 => (mg_name 23 S__law_right.nd)) (blk_t fun i5 f5 => mts_nil) (blk_e fun i5 f5 => (me_tuple F.b_tuple (ma_cons (me_fz (ml_lc (own := [("two", 25)]) (mi_range1 F.b_range (ma_cons (me_var 19) ma_nil)) ok__law_right_6 (blk_g fun i6 => (mg_name 25 S__law_right.nd)) (blk_t fun i6 f6 => mts_nil) (blk_e fun i6 f6 => (me_if (mt_c (mc_eq hr (me_var 23) (me_var 25))) (me_var 9) me_int)) S__law_right.nd)) ma_nil))) S__law_right.nd)) ma_nil)) (hN := S__law_right.nd))
  (mb_cons (ms_if (mt_w (mw_or (mt_c (mc_ne hr (me_call (n := 3) (cal__law_product F) (hr.mono (by decide)) pasB (ma_cons (me_ix (me_var 20) me_int) (ma_cons (me_var 10) (ma_cons (me_var 19) ma_nil)))) (me_var 11))) (mw_or1 (mt_c (mc_ne hr (me_call (n := 3) (cal__law_product F) (hr.mono (by decide)) pasB (ma_cons (me_var 10) (ma_cons (me_ix (me_var 20) me_int) (ma_cons (me_var 19) ma_nil)))) (me_var 11)))))) (mb_one (ms_ret me_bl)) mb_nil)
  (mb_cons (ms_set 21 (me_callD 0 (cal__law_row F) (hr.mono (by decide)) pasB (ma_cons (me_var 19) (ma_cons me_int ma_nil))) (hN := S__law_right.nd))
  (mb_cons (ms_set 12 (me_callK (n := 2) (calk_by_cofactors_1 F) (hr.mono (by decide)) pasB (ma_cons (me_var 20) ma_nil) (mk_cons (me_var 21) mk_nil)) (hN := S__law_right.nd))
  (mb_cons (ms_if (mt_c (mc_ne hr (me_c (mc_isN (me_var 12) me_non)) (me_c (mc_eq hr (me_var 9) me_int)))) (mb_one (ms_ret me_bl)) mb_nil)
  (mb_cons (ms_if (mt_c (mc_notN (me_var 12) me_non)) (mb_one (ms_for ownsB (mi_zip F.b_zip (ma_cons (me_ix (me_var 20) me_int) (ma_cons (me_var 21) ma_nil))) (mg_tup (mgs_cons (mg_name 13 S__law_right.nd) (mgs_cons (mg_name 14 S__law_right.nd) mgs_nil))) (mb_one (ms_if (mt_c (mc_ne hr (me_call (n := 2) (cal__law_mix F) (hr.mono (by decide)) pasB (ma_cons (me_var 13) (ma_cons (me_var 12) ma_nil))) (me_tup (ma_cons (me_var 14) (ma_cons me_int ma_nil))))) (mb_one (ms_ret me_bl)) mb_nil)))) mb_nil)
  (mb_cons (ms_set 15 (me_callD 0 (cal__law_pick F) (hr.mono (by decide)) pasB (ma_cons (me_call (n := 2) (cal__law_some F) (hr.mono (by decide)) pasB (ma_cons (me_var 19) (ma_cons (me_callD 0 (cal__law_roll F) (hr.mono (by decide)) pasB (ma_cons (me_addA (me_var 19) me_int) ma_nil)) ma_nil))) ma_nil)) (hN := S__law_right.nd))
  (mb_cons (ms_if (mt_c (mc_ne hr (me_callK (n := 2) (calk_by_rows_1 F) (hr.mono (by decide)) pasB (ma_cons (me_var 20) ma_nil) (mk_cons (me_var 15) mk_nil)) (me_var 9))) (mb_one (ms_ret me_bl)) mb_nil)
  (mb_cons (ms_set 17 (me_callD 0 (cal__law_bad F) (hr.mono (by decide)) pasB ma_nil) (hN := S__law_right.nd))
  (mb_cons (ms_set 16 (me_fz (ml_lst (ma_cons (me_ref (k := 7) F.d__law_refused.glo hRef bRef S__law_refused (by first | exact .inl rfl | exact .inr (.inl rfl)) rfl rfl F.bad F.exm F.xf F.noname F.t__law_right (code_at hcd) (List.mem_of_getElem? (i := 0) rfl) F.y__law_right F.z__law_right (hr.mono (by decide)) la__law_right_7 (fun E7 j7 H7 n7 => (me_call (n := 3) (cal_minor F) (j7.2.mono (by decide)) pasL (ma_cons (me_var 17) (ma_cons (me_tup ma_nil) (ma_cons (me_tup ma_nil) ma_nil)))))) (ma_cons (me_ref (k := 7) F.d__law_refused.glo hRef bRef S__law_refused (by first | exact .inl rfl | exact .inr (.inl rfl)) rfl rfl F.bad F.exm F.xf F.noname F.t__law_right (code_at hcd) (List.mem_of_getElem? (i := 0) rfl) F.y__law_right F.z__law_right (hr.mono (by decide)) la__law_right_8 (fun E8 j8 H8 n8 => (me_call (n := 3) (cal_minor F) (j8.2.mono (by decide)) pasL (ma_cons (me_var 18) (ma_cons (me_tup (ma_cons (me_var 19) ma_nil)) (ma_cons (me_tup (ma_cons me_int ma_nil)) ma_nil)))))) (ma_cons (me_ref (k := 7) F.d__law_refused.glo hRef bRef S__law_refused (by first | exact .inl rfl | exact .inr (.inl rfl)) rfl rfl F.bad F.exm F.xf F.noname F.t__law_right (code_at hcd) (List.mem_of_getElem? (i := 0) rfl) F.y__law_right F.z__law_right (hr.mono (by decide)) la__law_right_9 (fun E9 j9 H9 n9 => (me_call (n := 3) (cal_minor F) (j9.2.mono (by decide)) pasL (ma_cons (me_var 18) (ma_cons me_non (ma_cons (me_tup ma_nil) ma_nil)))))) (ma_cons (me_ref (k := 7) F.d__law_refused.glo hRef bRef S__law_refused (by first | exact .inl rfl | exact .inr (.inl rfl)) rfl rfl F.bad F.exm F.xf F.noname F.t__law_right (code_at hcd) (List.mem_of_getElem? (i := 0) rfl) F.y__law_right F.z__law_right (hr.mono (by decide)) la__law_right_10 (fun E10 j10 H10 n10 => (me_call (n := 3) (cal_minor F) (j10.2.mono (by decide)) pasL (ma_cons (me_var 18) (ma_cons (me_tup (ma_cons me_int ma_nil)) (ma_cons (me_tup ma_nil) ma_nil)))))) (ma_cons (me_ref (k := 7) F.d__law_refused.glo hRef bRef S__law_refused (by first | exact .inl rfl | exact .inr (.inl rfl)) rfl rfl F.bad F.exm F.xf F.noname F.t__law_right (code_at hcd) (List.mem_of_getElem? (i := 0) rfl) F.y__law_right F.z__law_right (hr.mono (by decide)) la__law_right_11 (fun E11 j11 H11 n11 => (me_call (n := 3) (cal_minor F) (j11.2.mono (by decide)) pasL (ma_cons (me_var 18) (ma_cons (me_tup (ma_cons me_int ma_nil)) (ma_cons (me_tup (ma_cons (me_var 22) ma_nil)) ma_nil)))))) (ma_cons (me_ref (k := 8) F.d__law_refused.glo hRef bRef S__law_refused (by first | exact .inl rfl | exact .inr (.inl rfl)) rfl rfl F.bad F.exm F.xf F.noname F.t__law_right (code_at hcd) (List.mem_of_getElem? (i := 0) rfl) F.y__law_right F.z__law_right (hr.mono (by decide)) la__law_right_12 (fun E12 j12 H12 n12 => (me_call (n := 2) (cal_compound F) (j12.2.mono (by decide)) pasL (ma_cons (me_var 18) (ma_cons me_int ma_nil))))) (ma_cons (me_ref (k := 8) F.d__law_refused.glo hRef bRef S__law_refused (by first | exact .inl rfl | exact .inr (.inl rfl)) rfl rfl F.bad F.exm F.xf F.noname F.t__law_right (code_at hcd) (List.mem_of_getElem? (i := 0) rfl) F.y__law_right F.z__law_right (hr.mono (by decide)) la__law_right_13 (fun E13 j13 H13 n13 => (me_call (n := 2) (cal_compound F) (j13.2.mono (by decide)) pasL (ma_cons (me_var 18) (ma_cons (me_addA (me_min2 F.b_min (ma_cons (me_var 22) (ma_cons (me_var 19) ma_nil))) me_int) ma_nil))))) (ma_cons (me_ref (k := 9) F.d__law_refused.glo hRef bRef S__law_refused (by first | exact .inl rfl | exact .inr (.inl rfl)) rfl rfl F.bad F.exm F.xf F.noname F.t__law_right (code_at hcd) (List.mem_of_getElem? (i := 0) rfl) F.y__law_right F.z__law_right (hr.mono (by decide)) la__law_right_14 (fun E14 j14 H14 n14 => (me_call (n := 2) (cal_common_minor F) (j14.2.mono (by decide)) pasL (ma_cons (me_var 17) (ma_cons me_int ma_nil))))) (ma_cons (me_ref (k := 8) F.d__law_refused.glo hRef bRef S__law_refused (by first | exact .inl rfl | exact .inr (.inl rfl)) rfl rfl F.bad F.exm F.xf F.noname F.t__law_right (code_at hcd) (List.mem_of_getElem? (i := 0) rfl) F.y__law_right F.z__law_right (hr.mono (by decide)) la__law_right_15 (fun E15 j15 H15 n15 => (me_call (n := 1) (cal_cofactors F) (j15.2.mono (by decide)) pasL (ma_cons (me_tup (ma_cons me_int (ma_cons (me_tup (ma_cons (me_tup (ma_cons me_int (ma_cons me_int ma_nil))) ma_nil)) ma_nil))) ma_nil)))) (ma_cons (me_ref (k := 9) F.d__law_refused.glo hRef bRef S__law_refused (by first | exact .inl rfl | exact .inr (.inl rfl)) rfl rfl F.bad F.exm F.xf F.noname F.t__law_right (code_at hcd) (List.mem_of_getElem? (i := 0) rfl) F.y__law_right F.z__law_right (hr.mono (by decide)) la__law_right_16 (fun E16 j16 H16 n16 => (me_call (n := 2) (cal_by_cofactors F) (j16.2.mono (by decide)) pasL (ma_cons (me_var 20) (ma_cons (me_addA (me_var 21) (me_tup (ma_cons me_int ma_nil))) ma_nil))))) (ma_cons (me_ref (k := 8) F.d__law_refused.glo hRef bRef S__law_refused (by first | exact .inl rfl | exact .inr (.inl rfl)) rfl rfl F.bad F.exm F.xf F.noname F.t__law_right (code_at hcd) (List.mem_of_getElem? (i := 0) rfl) F.y__law_right F.z__law_right (hr.mono (by decide)) la__law_right_17 (fun E17 j17 H17 n17 => (me_call (n := 2) (cal_by_rows F) (j17.2.mono (by decide)) pasL (ma_cons (me_var 20) (ma_cons (me_tup (ma_cons (me_var 19) ma_nil)) ma_nil))))) (ma_cons (me_ref (k := 10) F.d__law_refused.glo hRef bRef S__law_refused (by first | exact .inl rfl | exact .inr (.inl rfl)) rfl rfl F.bad F.exm F.xf F.noname F.t__law_right (code_at hcd) (List.mem_of_getElem? (i := 0) rfl) F.y__law_right F.z__law_right (hr.mono (by decide)) la__law_right_18 (fun E18 j18 H18 n18 => (me_call (n := 1) (cal_rank_by_minors F) (j18.2.mono (by decide)) pasL (ma_cons (me_var 17) ma_nil)))) ma_nil)))))))))))))) (hN := S__law_right.nd))
  (mb_one (ms_ret (me_c (mc_eq hr (me_var 16) (me_fz (ml_lst (ma_cons me_str (ma_cons me_str (ma_cons me_str (ma_cons me_str (ma_cons me_str (ma_cons me_str (ma_cons me_str (ma_cons me_str (ma_cons me_str (ma_cons me_str (ma_cons me_str (ma_cons me_str ma_nil))))))))))))))))))))))))))))))))))))))))))))
theorem cal__law_right (F : LF P w K mg base) : Cal P w K mg base 13 "_law_right" ["dice"] (spD K (cK K) 1 F__law_right) := cal_D F.d__law_right S__law_right bn__law_right (b__law_right F)
theorem bn_law : BindsN "law" s_law ["script"] := fun _ _ _ _ _ _ us hl => match us, hl with | [_], _ => rfl
theorem b_law (F : LF P w K mg base) : Bod P w K mg base N_law "law" (defScope s_law) (He.ga K "law") 13 (cK K) false (defBody s_law) m_law := by
  unfold m_law l_law_1
  exact fun cd A outer s H E hr hcd p ni => 
  (mb_cons (ms_for ownsB (mi_range1 F.b_range (ma_cons (me_max2 F.b_max (ma_cons me_int (ma_cons (me_min2 F.b_min (ma_cons me_int (ma_cons (me_len F.b_len (ma_cons (me_var 0) ma_nil)) ma_nil))) ma_nil))) ma_nil)) (mg_name 1 S_law.nd) (mb_one (ms_if (mt_not (mt_val (me_callDO ((cal__law_dice F).mono (by decide : 1 ≤ 13)) ((cal__law_right F).mono (by decide : 13 ≤ 13)) (hr.mono (by decide)) pasB (ma_cons (me_var 0) (ma_cons (me_var 1) ma_nil))))) (mb_one (ms_ret me_bl)) mb_nil)))
  (mb_one (ms_ret me_bl)))
theorem cal_law (F : LF P w K mg base) : Cal P w K mg base 14 "law" ["script"] (spP K (cK K) 1 F_law) := cal_P F.d_law S_law bn_law (b_law F)
end
end
end Y

set_option Elab.async false
set_option linter.all false
set_option maxRecDepth 100000
set_option maxHeartbeats 0
namespace Y
open PySem PySem.Spec PyProof.Rows L2
noncomputable section
def hFn : List He.DefD := [dOf "is_integer" s_is_integer, dOf "is_row_of" s_is_row_of, dOf "is_grid" s_is_grid, dOf "need_grid" s_need_grid, dOf "need_sums" s_need_sums, dOf "need_square" s_need_square, dOf "common" s_common, dOf "ratio" s_ratio, dOf "determinant" s_determinant, dOf "chosen" s_chosen, dOf "part" s_part, dOf "is_choice" s_is_choice, dOf "minor" s_minor, dOf "need_size" s_need_size, dOf "compound" s_compound, dOf "common_minor" s_common_minor, dOf "cofactors" s_cofactors, dOf "by_cofactors" s_by_cofactors, dOf "by_rows" s_by_rows, dOf "rank_by_minors" s_rank_by_minors, dOf "_law_dice" s__law_dice, dOf "_law_roll" s__law_roll, dOf "_law_pick" s__law_pick, dOf "_law_refused" s__law_refused, dOf "_law_gcd" s__law_gcd, dOf "_law_row" s__law_row, dOf "_law_grid" s__law_grid, dOf "_law_dot" s__law_dot, dOf "_law_det" s__law_det, dOf "_law_some" s__law_some, dOf "_law_divisor" s__law_divisor, dOf "_law_rank" s__law_rank, dOf "_law_plus" s__law_plus, dOf "_law_mix" s__law_mix, dOf "_law_bad" s__law_bad, dOf "_law_part" s__law_part, dOf "_law_product" s__law_product, dOf "_law_right" s__law_right, dOf "law" s_law]
def hFa : List He.Fa := [.glo "is_integer",
  .glo "is_row_of",
  .glo "is_grid",
  .glo "need_grid",
  .glo "need_sums",
  .glo "need_square",
  .glo "common",
  .glo "ratio",
  .glo "determinant",
  .glo "chosen",
  .glo "part",
  .glo "is_choice",
  .glo "minor",
  .glo "need_size",
  .glo "compound",
  .glo "common_minor",
  .glo "cofactors",
  .glo "by_cofactors",
  .glo "by_rows",
  .glo "rank_by_minors",
  .glo "_law_dice",
  .glo "_law_roll",
  .glo "_law_pick",
  .glo "_law_refused",
  .glo "_law_gcd",
  .glo "_law_row",
  .glo "_law_grid",
  .glo "_law_dot",
  .glo "_law_det",
  .glo "_law_some",
  .glo "_law_divisor",
  .glo "_law_rank",
  .glo "_law_plus",
  .glo "_law_mix",
  .glo "_law_bad",
  .glo "_law_part",
  .glo "_law_product",
  .glo "_law_right",
  .glo "law",
  .glo "BadArgument",
  .free "abs",
  .free "all",
  .free "bool",
  .free "int",
  .free "isinstance",
  .free "len",
  .free "list",
  .free "max",
  .free "min",
  .free "range",
  .free "sum",
  .free "super",
  .free "tuple",
  .free "zip",
  .int "MOST_WIDTH" 6,
  .int "MOST_ROWS" 6,
  .int "MOST_NUMBER" 1000000,
  .noat "BadArgument" "name"]
abbrev hTf : List He.Defn := [("is_row_of", none), ("is_grid", none), ("_law_right", none)]
def hEx (K : PySem.W.Frag) : Bool := supB "BadArgument" "bad argument: " "/claim/cut.py" K && decide ((hTf.map fun p => (He.cT K p).2).Nodup)
abbrev hR : PySem.W.OpenRow := PySem.W.OpenLaw.row PySem.Challenge.rw_rowanswers_k15_whole_minors
abbrev hHk : PySem.W.Hook := hookK 4 hFa hFn hTf hEx
def hOb (s : PySem.W.SharedT) : He.AlX := tellK 4 hFa hFn hTf hEx (HandSHeadRun.getT s)
theorem hOb_eq (s : PySem.W.SharedT) : hOb s = hHk.obs s.abs := hookK_obs 4 hFa hFn hTf hEx (HandSHeadRun.getT_eq s)
def hLoose : List Str := (["__name__", "BadArgument", "MOST_WIDTH", "MOST_ROWS", "MOST_NUMBER", "is_integer", "is_row_of", "is_grid", "need_grid", "need_sums", "need_square", "common", "ratio", "determinant", "chosen", "part", "is_choice", "minor", "need_size", "compound", "common_minor", "cofactors", "by_cofactors", "by_rows", "rank_by_minors", "_law_dice", "_law_roll", "_law_pick", "_law_refused", "_law_gcd"] : List Str) ++ (["_law_row", "_law_grid", "_law_dot", "_law_det", "_law_some", "_law_divisor", "_law_rank", "_law_plus", "_law_mix", "_law_bad", "_law_part", "_law_product", "_law_right"] : List Str)
theorem hRun (w : World) : HandSHeadRun.RunEq hR (PySem.W.view hR.prog [46]) hHk hOb 6000 hLoose w := by
  intro os
  kernel_rfl
section
variable {w : World} {K : PySem.W.Frag} {mg : Str → Option Value} {h : Heap}
theorem lf_of (KX : K.In h) (G : h.Ns mainGlobals mg) (c : He.SaysX hFa hFn [] hTf hEx w h K) {base : Heap} (tb : ∀ p ∈ hTf.map (He.cT K), LamX.TabB base mg p.1 p.2) : LF PySem.Challenge.rw_rowanswers_k15_whole_minors.prog w K mg base := by
  obtain ⟨hs, hn⟩ := He.ba c.more
  have nd := of_decide_eq_true hn
  simp only [List.map_cons, List.map_nil, List.nodup_cons, List.mem_cons, List.not_mem_nil, or_false, not_or] at nd
  have sp := He.free_ok KX G (x := "super") (c.t.d.fact 51 rfl)
  obtain ⟨su, xf, xm⟩ := supB_ok (P := PySem.Challenge.rw_rowanswers_k15_whole_minors.prog) (mg := mg) (by decide +kernel) (by decide +kernel) sp (by decide) hs
  have tB : ∀ p ∈ hTf.map (He.cT K), GxR.TabB base mg p.1 p.2 := fun p hp => ⟨(tb p hp).code, (tb p hp).bm, (tb p hp).gP⟩
  exact {
    b_abs := He.free_ok KX G (c.t.d.fact 40 rfl)
    b_all := He.free_ok KX G (c.t.d.fact 41 rfl)
    b_bool := He.free_ok KX G (c.t.d.fact 42 rfl)
    b_int := He.free_ok KX G (c.t.d.fact 43 rfl)
    b_isinstance := He.free_ok KX G (c.t.d.fact 44 rfl)
    b_len := He.free_ok KX G (c.t.d.fact 45 rfl)
    b_list := He.free_ok KX G (c.t.d.fact 46 rfl)
    b_max := He.free_ok KX G (c.t.d.fact 47 rfl)
    b_min := He.free_ok KX G (c.t.d.fact 48 rfl)
    b_range := He.free_ok KX G (c.t.d.fact 49 rfl)
    b_sum := He.free_ok KX G (c.t.d.fact 50 rfl)
    b_tuple := He.free_ok KX G (c.t.d.fact 52 rfl)
    b_zip := He.free_ok KX G (c.t.d.fact 53 rfl)
    c_MOST_WIDTH := He.int_ok KX G (c.t.d.fact 54 rfl)
    c_MOST_ROWS := He.int_ok KX G (c.t.d.fact 55 rfl)
    c_MOST_NUMBER := He.int_ok KX G (c.t.d.fact 56 rfl)
    bad := He.glo_ok KX G (c.t.d.fact 39 rfl)
    sup := su
    xf := xf
    exm := xm
    noname := He.eqO_ok (c.t.d.fact 57 rfl)
    t_is_row_of := tB _ (List.mem_of_getElem? (i := 0) rfl)
    t_is_grid := tB _ (List.mem_of_getElem? (i := 1) rfl)
    t__law_right := tB _ (List.mem_of_getElem? (i := 2) rfl)
    x_is_row_of := by simp only [cK, List.forall_mem_cons, List.not_mem_nil, false_imp_iff, and_true, ne_eq, implies_true, forall_const, true_and, eq_self] <;> grind only
    x_is_grid := by simp only [cK, List.forall_mem_cons, List.not_mem_nil, false_imp_iff, and_true, ne_eq, implies_true, forall_const, true_and, eq_self] <;> grind only
    y__law_right := by simp only [cK, List.forall_mem_cons, List.not_mem_nil, false_imp_iff, and_true, ne_eq, implies_true, forall_const, true_and, eq_self] <;> grind only
    z__law_right := by simp only [cK, List.forall_mem_cons, List.not_mem_nil, false_imp_iff, and_true, ne_eq, implies_true, forall_const, true_and, eq_self] <;> grind only
    d_is_integer := ⟨c.t.d.def_ 0 (d := dOf "is_integer" s_is_integer) rfl, He.glo_ok KX G (c.t.d.fact 0 rfl)⟩
    d_is_row_of := ⟨c.t.d.def_ 1 (d := dOf "is_row_of" s_is_row_of) rfl, He.glo_ok KX G (c.t.d.fact 1 rfl)⟩
    d_is_grid := ⟨c.t.d.def_ 2 (d := dOf "is_grid" s_is_grid) rfl, He.glo_ok KX G (c.t.d.fact 2 rfl)⟩
    d_need_grid := ⟨c.t.d.def_ 3 (d := dOf "need_grid" s_need_grid) rfl, He.glo_ok KX G (c.t.d.fact 3 rfl)⟩
    d_need_sums := ⟨c.t.d.def_ 4 (d := dOf "need_sums" s_need_sums) rfl, He.glo_ok KX G (c.t.d.fact 4 rfl)⟩
    d_need_square := ⟨c.t.d.def_ 5 (d := dOf "need_square" s_need_square) rfl, He.glo_ok KX G (c.t.d.fact 5 rfl)⟩
    d_common := ⟨c.t.d.def_ 6 (d := dOf "common" s_common) rfl, He.glo_ok KX G (c.t.d.fact 6 rfl)⟩
    d_ratio := ⟨c.t.d.def_ 7 (d := dOf "ratio" s_ratio) rfl, He.glo_ok KX G (c.t.d.fact 7 rfl)⟩
    d_determinant := ⟨c.t.d.def_ 8 (d := dOf "determinant" s_determinant) rfl, He.glo_ok KX G (c.t.d.fact 8 rfl)⟩
    d_chosen := ⟨c.t.d.def_ 9 (d := dOf "chosen" s_chosen) rfl, He.glo_ok KX G (c.t.d.fact 9 rfl)⟩
    d_part := ⟨c.t.d.def_ 10 (d := dOf "part" s_part) rfl, He.glo_ok KX G (c.t.d.fact 10 rfl)⟩
    d_is_choice := ⟨c.t.d.def_ 11 (d := dOf "is_choice" s_is_choice) rfl, He.glo_ok KX G (c.t.d.fact 11 rfl)⟩
    d_minor := ⟨c.t.d.def_ 12 (d := dOf "minor" s_minor) rfl, He.glo_ok KX G (c.t.d.fact 12 rfl)⟩
    d_need_size := ⟨c.t.d.def_ 13 (d := dOf "need_size" s_need_size) rfl, He.glo_ok KX G (c.t.d.fact 13 rfl)⟩
    d_compound := ⟨c.t.d.def_ 14 (d := dOf "compound" s_compound) rfl, He.glo_ok KX G (c.t.d.fact 14 rfl)⟩
    d_common_minor := ⟨c.t.d.def_ 15 (d := dOf "common_minor" s_common_minor) rfl, He.glo_ok KX G (c.t.d.fact 15 rfl)⟩
    d_cofactors := ⟨c.t.d.def_ 16 (d := dOf "cofactors" s_cofactors) rfl, He.glo_ok KX G (c.t.d.fact 16 rfl)⟩
    d_by_cofactors := ⟨c.t.d.def_ 17 (d := dOf "by_cofactors" s_by_cofactors) rfl, He.glo_ok KX G (c.t.d.fact 17 rfl)⟩
    d_by_rows := ⟨c.t.d.def_ 18 (d := dOf "by_rows" s_by_rows) rfl, He.glo_ok KX G (c.t.d.fact 18 rfl)⟩
    d_rank_by_minors := ⟨c.t.d.def_ 19 (d := dOf "rank_by_minors" s_rank_by_minors) rfl, He.glo_ok KX G (c.t.d.fact 19 rfl)⟩
    d__law_dice := ⟨c.t.d.def_ 20 (d := dOf "_law_dice" s__law_dice) rfl, He.glo_ok KX G (c.t.d.fact 20 rfl)⟩
    d__law_roll := ⟨c.t.d.def_ 21 (d := dOf "_law_roll" s__law_roll) rfl, He.glo_ok KX G (c.t.d.fact 21 rfl)⟩
    d__law_pick := ⟨c.t.d.def_ 22 (d := dOf "_law_pick" s__law_pick) rfl, He.glo_ok KX G (c.t.d.fact 22 rfl)⟩
    d__law_refused := ⟨c.t.d.def_ 23 (d := dOf "_law_refused" s__law_refused) rfl, He.glo_ok KX G (c.t.d.fact 23 rfl)⟩
    d__law_gcd := ⟨c.t.d.def_ 24 (d := dOf "_law_gcd" s__law_gcd) rfl, He.glo_ok KX G (c.t.d.fact 24 rfl)⟩
    d__law_row := ⟨c.t.d.def_ 25 (d := dOf "_law_row" s__law_row) rfl, He.glo_ok KX G (c.t.d.fact 25 rfl)⟩
    d__law_grid := ⟨c.t.d.def_ 26 (d := dOf "_law_grid" s__law_grid) rfl, He.glo_ok KX G (c.t.d.fact 26 rfl)⟩
    d__law_dot := ⟨c.t.d.def_ 27 (d := dOf "_law_dot" s__law_dot) rfl, He.glo_ok KX G (c.t.d.fact 27 rfl)⟩
    d__law_det := ⟨c.t.d.def_ 28 (d := dOf "_law_det" s__law_det) rfl, He.glo_ok KX G (c.t.d.fact 28 rfl)⟩
    d__law_some := ⟨c.t.d.def_ 29 (d := dOf "_law_some" s__law_some) rfl, He.glo_ok KX G (c.t.d.fact 29 rfl)⟩
    d__law_divisor := ⟨c.t.d.def_ 30 (d := dOf "_law_divisor" s__law_divisor) rfl, He.glo_ok KX G (c.t.d.fact 30 rfl)⟩
    d__law_rank := ⟨c.t.d.def_ 31 (d := dOf "_law_rank" s__law_rank) rfl, He.glo_ok KX G (c.t.d.fact 31 rfl)⟩
    d__law_plus := ⟨c.t.d.def_ 32 (d := dOf "_law_plus" s__law_plus) rfl, He.glo_ok KX G (c.t.d.fact 32 rfl)⟩
    d__law_mix := ⟨c.t.d.def_ 33 (d := dOf "_law_mix" s__law_mix) rfl, He.glo_ok KX G (c.t.d.fact 33 rfl)⟩
    d__law_bad := ⟨c.t.d.def_ 34 (d := dOf "_law_bad" s__law_bad) rfl, He.glo_ok KX G (c.t.d.fact 34 rfl)⟩
    d__law_part := ⟨c.t.d.def_ 35 (d := dOf "_law_part" s__law_part) rfl, He.glo_ok KX G (c.t.d.fact 35 rfl)⟩
    d__law_product := ⟨c.t.d.def_ 36 (d := dOf "_law_product" s__law_product) rfl, He.glo_ok KX G (c.t.d.fact 36 rfl)⟩
    d__law_right := ⟨c.t.d.def_ 37 (d := dOf "_law_right" s__law_right) rfl, He.glo_ok KX G (c.t.d.fact 37 rfl)⟩
    d_law := ⟨c.t.d.def_ 38 (d := dOf "law" s_law) rfl, He.glo_ok KX G (c.t.d.fact 38 rfl)⟩ }
end
theorem law_of (hm : ∀ ns : List Int, ns.length ≤ 63 → F_law [.scr (ns.map D.int)] = .ok (.bl true)) : PySem.Challenge.rw_rowanswers_k15_whole_minors.Holds := by
  w_on; o_law
  refine HandSHeadRun.head_any (r := PySem.W.OpenLaw.row PySem.Challenge.rw_rowanswers_k15_whole_minors) (q := PySem.W.view (PySem.W.OpenLaw.row PySem.Challenge.rw_rowanswers_k15_whole_minors).prog [46]) (H := hHk) (ob := hOb) (M := 6000) (loose := hLoose) (d := HandSHeadRun.topDef (PySem.W.OpenLaw.row PySem.Challenge.rw_rowanswers_k15_whole_minors).prog 46) (kwd := []) hOb_eq
    (by kernel_rfl) (fun s => by kernel_rfl) hRun (by kernel_rfl) (by kernel_rfl) (by kernel_rfl) (by rfl) (by first | assumption | decide +kernel) (by decide +kernel) ⟨rfl, rfl, rfl, rfl, rfl, by decide +kernel⟩ ?hw ?hc
  case hw => w_witness2
  case hc =>
    refine LamX.walk_ofTsE (l := PySem.Challenge.rw_rowanswers_k15_whole_minors) (n := 63) (k := 14) (x := "script") (CX := fun w => L2.CX PySem.Challenge.rw_rowanswers_k15_whole_minors.prog w) rfl (by decide) (by kernel_rfl) ⟨rfl, by decide, by decide⟩ ?F (fun w H s e s' => cx_end H s e s')
    intro w mg fa h Y G hmg0
    obtain ⟨K, KX, c⟩ := Y
    have hmg : mg ("law" : Str) = some (.ref fa) := by
      have e : (HandSHeadRun.topDef (PySem.W.OpenLaw.row PySem.Challenge.rw_rowanswers_k15_whole_minors).prog 46).name = ("law" : Str) := by kernel_rfl
      rw [← e]
      exact hmg0
    obtain ⟨fd, Fd⟩ := c.t.d.def_ 38 (d := dOf "law" s_law) rfl
    have e := hmg.symm.trans (He.glo_ok KX G (c.t.d.fact 38 (f := .glo "law") rfl))
    cases e
    have b := FunD.bindsA (ps := ["script"]) Fd fun _ _ _ _ _ _ us hl => match us, hl with | [_], _ => rfl
    refine ⟨K, KX, fd, hTf.map (He.cT K), spP K (cK K) 1 F_law, ?_, ?_, ?_, fun s v => b s [v] rfl, ?_, ?_⟩
    · intro p hp
      obtain ⟨q, hq, rfl⟩ := List.mem_map.mp hp
      exact c.empty q hq
    · intro p hp
      obtain ⟨q, hq, rfl⟩ := List.mem_map.mp hp
      exact c.out q hq
    · intro p hp
      obtain ⟨q, hq, rfl⟩ := List.mem_map.mp hp
      exact PySem.W.codeHd_of_K KX (c.hd q hq)
    · intro H a ns hl _ hT hS
      refine law_start (cs := hTf.map (He.cT K)) ?_ ?_ hT hS (hm ns hl)
      · simp only [cK, List.forall_mem_cons, List.not_mem_nil, false_imp_iff, implies_true, and_true]
        exact ⟨⟨_, List.mem_of_getElem? (i := 0) rfl⟩, ⟨_, List.mem_of_getElem? (i := 1) rfl⟩⟩
      · simp only [cK, List.forall_mem_cons, List.not_mem_nil, false_imp_iff, implies_true, and_true]
        exact ⟨_, List.mem_of_getElem? (i := 2) rfl⟩
    · intro base KB GB tb
      exact fnok_P Fd S_law (b_law (lf_of KX G c tb))
end
end Y

set_option Elab.async false
set_option linter.all false
set_option maxRecDepth 100000
set_option maxHeartbeats 2000000
namespace Y
open PySem PySem.Spec PyProof.Rows L2
/-! ### loops of the mirrors, in plain words -/
inductive All2 {α β : Type} (R : α → β → Prop) : List α → List β → Prop
  | nil : All2 R [] []
  | cons {a : α} {b : β} {as : List α} {bs : List β} : R a b → All2 R as bs → All2 R (a :: as) (b :: bs)
theorem All2.len {α β : Type} {R : α → β → Prop} : ∀ {as : List α} {bs : List β}, All2 R as bs → bs.length = as.length
  | _, _, .nil => rfl
  | _, _, .cons _ r => by simp [All2.len r]
theorem wipe_len (env : Env) : ∀ vs, (wipeE env vs).length = env.length := fun _ => wipeE_len
theorem wipe_get (env : Env) (i : Nat) : ∀ vs, i ∉ vs → (wipeE env vs)[i]? = env[i]?
  | [], _ => rfl
  | v :: vs, h => by
    have h1 : i ≠ v := fun e => h (by simp [e])
    have h2 : i ∉ vs := fun e => h (by simp [e])
    show ((wipeE env vs).set v .un)[i]? = _
    rw [List.getElem?_set_ne (fun e => h1 e.symm), wipe_get env i vs h2]
theorem rest_get (e0 e : Env) (hl : e.length = e0.length) (i : Nat) : ∀ vs, (restE e0 e vs).length = e.length ∧ (restE e0 e vs)[i]? = if i ∈ vs then e0[i]? else e[i]?
  | [] => by simp [restE]
  | v :: vs => by
    obtain ⟨a, b⟩ := rest_get e0 e hl i vs
    unfold restE
    cases hv : e0[v]? with
    | none =>
      refine ⟨a, ?_⟩
      simp only [b, List.mem_cons]
      by_cases hi : i = v
      · subst hi
        have : e[i]? = none := by
          rw [List.getElem?_eq_none_iff] at hv ⊢
          omega
        by_cases hm : i ∈ vs <;> simp [hm, hv, this]
      · simp [hi]
    | some x =>
      refine ⟨by simp [a], ?_⟩
      by_cases hi : i = v
      · subst hi
        have hlt : i < (restE e0 e vs).length := by
          rw [a, hl]
          rcases Nat.lt_or_ge i e0.length with h | h
          · exact h
          · rw [List.getElem?_eq_none_iff.2 h] at hv; cases hv
        simp [List.getElem?_set_self hlt, hv]
      · simp only
        rw [List.getElem?_set_ne (fun e => hi e.symm), b]
        simp [hi]
theorem rest_wipe (env : Env) (vs : List Nat) : restE env (wipeE env vs) vs = env := by
  apply List.ext_getElem?
  intro i
  rw [(rest_get env (wipeE env vs) (wipe_len env vs) i vs).2]
  split
  · rfl
  · rename_i h
    exact wipe_get env i vs h
section
variable {g : MG} {t : MT} {m : ME} {vs : List Nat} {mi : ML}
theorem compL_filter {w : Env} {p : D → Bool} {f : D → D} (hw : wipeE w vs = w) : ∀ (ds : List D) (env : Env), wipeE env vs = w →
    (∀ d ∈ ds, ∃ e1 e2, g d w = some e1 ∧ t e1 = .ok (p d) e2 ∧ (p d = true → ∃ e3, m e2 = .ok (f d) e3 ∧ wipeE e3 vs = w) ∧ (p d = false → wipeE e2 vs = w)) →
    compL g t m vs ds env = .ok ((ds.filter p).map f) w
  | [], env, he, _ => by unfold compL; rw [he]; rfl
  | d :: ds, env, he, h => by
    obtain ⟨e1, e2, h1, h2, h3, h4⟩ := h d (by simp)
    unfold compL
    rw [he, h1]
    simp only [h2, R.noBad, R.bind]
    cases hp : p d with
    | true =>
      obtain ⟨e3, h5, h6⟩ := h3 hp
      rw [if_pos rfl]
      simp only [h5, R.noBad, R.bind]
      rw [compL_filter hw ds e3 h6 fun d hd => h d (by simp [hd])]
      simp [List.filter_cons, hp]
    | false =>
      rw [if_neg (by simp)]
      rw [compL_filter hw ds e2 (h4 hp) fun d hd => h d (by simp [hd])]
      simp [List.filter_cons, hp]
theorem wipe_wipe (env : Env) (vs : List Nat) : wipeE (wipeE env vs) vs = wipeE env vs := wipeE_idem
theorem mLc_filter {env : Env} {ds : List D} {p : D → Bool} {f : D → D} (hi : mi env = .ok ds env) (hl : ds.length ≤ big)
    (h : ∀ d ∈ ds, ∃ e1 e2, g d (wipeE env vs) = some e1 ∧ t e1 = .ok (p d) e2 ∧ (p d = true → ∃ e3, m e2 = .ok (f d) e3 ∧ wipeE e3 vs = wipeE env vs) ∧ (p d = false → wipeE e2 vs = wipeE env vs)) :
    mLc mi g t m vs env = .ok ((ds.filter p).map f) env := by
  unfold mLc
  simp only [hi, R.bind]
  rw [if_pos hl, compL_filter (wipe_wipe env vs) ds _ (wipe_wipe env vs) h]
  simp only
  rw [if_pos (by rw [wipe_len]; exact Nat.le_refl _), rest_wipe]
/-- one name, no test -/
theorem mLc_map {env : Env} {v : Nat} {ds : List D} {f : D → D} (hi : mi env = .ok ds env) (hl : ds.length ≤ big) (h : ∀ d ∈ ds, m (env.set v (.va d)) = .ok (f d) (env.set v (.va d))) :
    mLc mi (tgN v) mYes m [v] env = .ok (ds.map f) env := by
  have := mLc_filter (p := fun _ => true) (f := f) (g := tgN v) (t := mYes) (m := m) (vs := [v]) hi hl fun d hd => ⟨_, _, rfl, rfl, fun _ => ⟨_, by
    show m ((env.set v .un).set v (.va d)) = _
    rw [List.set_set]
    exact h d hd, by show (env.set v (.va d)).set v .un = env.set v .un; rw [List.set_set]⟩, fun h => by cases h⟩
  rw [this, List.filter_eq_self.2 fun _ _ => rfl]
/-- one name and a test -/
theorem mLc_if {env : Env} {v : Nat} {ds : List D} {p : D → Bool} {f : D → D} (hi : mi env = .ok ds env) (hl : ds.length ≤ big) (ht : ∀ d ∈ ds, t (env.set v (.va d)) = .ok (p d) (env.set v (.va d)))
    (h : ∀ d ∈ ds, p d = true → m (env.set v (.va d)) = .ok (f d) (env.set v (.va d))) : mLc mi (tgN v) t m [v] env = .ok ((ds.filter p).map f) env := by
  refine mLc_filter (p := p) (f := f) hi hl fun d hd => ⟨_, _, rfl, by
    show t ((env.set v .un).set v (.va d)) = _
    rw [List.set_set]
    exact ht d hd, fun hp => ⟨_, h d hd hp, ?_⟩, fun _ => ?_⟩
  all_goals show (env.set v (.va d)).set v .un = env.set v .un; rw [List.set_set]
/-- two names over zip -/
theorem mLc_zip {env : Env} {a b : Nat} {xs ys : List D} {f : D → D → D} (hab : a ≠ b) (hi : mi env = .ok (zipD xs ys) env) (hl : xs.length ≤ big) (h : ∀ q ∈ xs.zip ys, m ((env.set a (.va q.1)).set b (.va q.2)) = .ok (f q.1 q.2) ((env.set a (.va q.1)).set b (.va q.2))) :
    mLc mi (tgT 2 (tgsC (tgN a) (tgsC (tgN b) tgsN))) mYes m [a, b] env = .ok ((xs.zip ys).map fun q => f q.1 q.2) env := by
  have hz : (zipD xs ys).length ≤ big := by unfold zipD; simp; omega
  have key := mLc_filter (p := fun _ => true) (f := fun d => match d with | .tup [x, y] => f x y | _ => .non) (g := tgT 2 (tgsC (tgN a) (tgsC (tgN b) tgsN))) (t := mYes) (m := m) (vs := [a, b]) hi hz fun d hd => by
    unfold zipD at hd
    obtain ⟨q, hq, rfl⟩ := List.mem_map.1 hd
    refine ⟨((wipeE env [a, b]).set a (.va q.1)).set b (.va q.2), ((wipeE env [a, b]).set a (.va q.1)).set b (.va q.2), rfl, rfl, fun _ => ⟨(env.set a (.va q.1)).set b (.va q.2), ?_, ?_⟩, fun h => by cases h⟩
    · show m ((((env.set b .un).set a .un).set a (.va q.1)).set b (.va q.2)) = _
      rw [List.set_set, List.set_comm _ _ hab, List.set_set, ← List.set_comm _ _ hab]
      exact h q hq
    · show (((env.set a (.va q.1)).set b (.va q.2)).set b .un).set a .un = (env.set b .un).set a .un
      rw [List.set_set, List.set_comm _ _ hab, List.set_set]
  rw [key, List.filter_eq_self.2 fun _ _ => rfl]
  unfold zipD
  rw [List.map_map]
  rfl
/-- one name, the dice in slot 0 go through -/
theorem compL_dice {v : Nat} (hv : 0 < v) (P : Nat → List D → Prop) (Rl : D → D → Prop) {env : Env} : ∀ (ds : List D) (n : Nat) (d : List D) (x : Sl), P n d →
    (∀ k x d, x ∈ ds → n ≤ k → k < n + ds.length → P k d → ∃ y d', m ((Sl.ow d :: env).set v (.va x)) = .ok y ((Sl.ow d' :: env).set v (.va x)) ∧ Rl x y ∧ P (k + 1) d') →
    ∃ l d', compL (tgN v) mYes m [v] ds ((Sl.ow d :: env).set v x) = .ok l ((Sl.ow d' :: env).set v .un) ∧ All2 Rl ds l ∧ P (n + ds.length) d'
  | [], n, d, x, hP, _ => ⟨[], d, by unfold compL; show R.ok [] (((Sl.ow d :: env).set v x).set v .un) = _; rw [List.set_set], .nil, hP⟩
  | z :: ds, n, d, x, hP, h => by
    obtain ⟨y, d1, h1, h2, h3⟩ := h n z d (by simp) (Nat.le_refl _) (by simp) hP
    obtain ⟨l, d', h4, h5, h6⟩ := compL_dice hv P Rl (env := env) ds (n + 1) d1 (.va z) h3 fun k x d hx hk hk2 => h k x d (by simp [hx]) (by omega) (by simp; omega)
    refine ⟨y :: l, d', ?_, .cons h2 h5, by rw [List.length_cons, show n + (ds.length + 1) = n + 1 + ds.length by omega]; exact h6⟩
    unfold compL
    have e1 : tgN v z (wipeE ((Sl.ow d :: env).set v x) [v]) = some ((Sl.ow d :: env).set v (.va z)) := by
      show some ((((Sl.ow d :: env).set v x).set v .un).set v (.va z)) = _
      rw [List.set_set, List.set_set]
    rw [e1]
    simp only [mYes, R.noBad, R.bind, h1]
    rw [if_pos trivial, h4]
theorem mLc_dice {v n : Nat} (hv : 0 < v) (P : Nat → List D → Prop) (Rl : D → D → Prop) {env : Env} {d : List D} {ds : List D} (hi : mi (.ow d :: env) = .ok ds (.ow d :: env)) (hl : ds.length ≤ big) (hP : P n d)
    (h : ∀ k x d, x ∈ ds → n ≤ k → k < n + ds.length → P k d → ∃ y d', m ((Sl.ow d :: env).set v (.va x)) = .ok y ((Sl.ow d' :: env).set v (.va x)) ∧ Rl x y ∧ P (k + 1) d') :
    ∃ l d', mLc mi (tgN v) mYes m [v] (.ow d :: env) = .ok l (.ow d' :: env) ∧ All2 Rl ds l ∧ P (n + ds.length) d' := by
  obtain ⟨l, d', h1, h2, h3⟩ := compL_dice (m := m) hv P Rl (env := env) ds n d .un hP h
  refine ⟨l, d', ?_, h2, h3⟩
  unfold mLc
  simp only [hi, R.bind]
  rw [if_pos hl]
  rw [show wipeE (Sl.ow d :: env) [v] = (Sl.ow d :: env).set v .un from rfl]
  rw [h1]
  simp only
  rw [if_pos (by simp)]
  congr 1
  obtain ⟨u, rfl⟩ : ∃ u, v = u + 1 := ⟨v - 1, by omega⟩
  unfold restE
  simp only [List.getElem?_cons_succ, List.set_cons_succ]
  cases e : env[u]? with
  | none =>
    simp only [restE]
    rw [List.getElem?_eq_none_iff] at e
    rw [List.set_eq_of_length_le (by omega)]
  | some z =>
    simp only [restE, List.set_cons_succ, List.set_set]
    congr 1
    apply List.ext_getElem?
    intro i
    by_cases hi : u = i
    · subst hi
      have : u < env.length := by
        rcases Nat.lt_or_ge u env.length with q | q
        · exact q
        · rw [List.getElem?_eq_none_iff.2 q] at e; cases e
      rw [List.getElem?_set_self this, e]
    · rw [List.getElem?_set_ne hi]
/-- .. any target, the dice in slot 0 go through -/
theorem compL_diceG {E : List D → D → Env} {env : Env} (P : Nat → List D → Prop) (Rl : D → D → Prop) : ∀ (ds : List D) (n : Nat) (d : List D) (e0 : Env), wipeE e0 vs = wipeE (.ow d :: env) vs → P n d →
    (∀ d x, x ∈ ds → g x (wipeE (.ow d :: env) vs) = some (E d x)) → (∀ d x, x ∈ ds → wipeE (E d x) vs = wipeE (.ow d :: env) vs) →
    (∀ k x d, x ∈ ds → n ≤ k → k < n + ds.length → P k d → ∃ y d', m (E d x) = .ok y (E d' x) ∧ Rl x y ∧ P (k + 1) d') →
    ∃ l d', compL g mYes m vs ds e0 = .ok l (wipeE (.ow d' :: env) vs) ∧ All2 Rl ds l ∧ P (n + ds.length) d'
  | [], n, d, e0, he, hP, _, _, _ => ⟨[], d, by unfold compL; rw [he], .nil, hP⟩
  | z :: ds, n, d, e0, he, hP, hg, hw, h => by
    obtain ⟨y, d1, h1, h2, h3⟩ := h n z d (by simp) (Nat.le_refl _) (by simp) hP
    obtain ⟨l, d', h4, h5, h6⟩ := compL_diceG P Rl ds (n + 1) d1 (E d1 z) (hw d1 z (by simp)) h3 (fun d x hx => hg d x (by simp [hx])) (fun d x hx => hw d x (by simp [hx])) fun k x d hx hk hk2 => h k x d (by simp [hx]) (by omega) (by simp; omega)
    refine ⟨y :: l, d', ?_, .cons h2 h5, by rw [List.length_cons, show n + (ds.length + 1) = n + 1 + ds.length by omega]; exact h6⟩
    unfold compL
    rw [he, hg d z (by simp)]
    simp only [mYes, R.noBad, R.bind, h1]
    rw [if_pos trivial, h4]
theorem mLc_diceG {n : Nat} {E : List D → D → Env} (P : Nat → List D → Prop) (Rl : D → D → Prop) {env : Env} {d : List D} {ds : List D} (h0 : 0 ∉ vs) (hi : mi (.ow d :: env) = .ok ds (.ow d :: env)) (hl : ds.length ≤ big) (hP : P n d)
    (hg : ∀ d x, x ∈ ds → g x (wipeE (.ow d :: env) vs) = some (E d x)) (hw : ∀ d x, x ∈ ds → wipeE (E d x) vs = wipeE (.ow d :: env) vs)
    (h : ∀ k x d, x ∈ ds → n ≤ k → k < n + ds.length → P k d → ∃ y d', m (E d x) = .ok y (E d' x) ∧ Rl x y ∧ P (k + 1) d') :
    ∃ l d', mLc mi g mYes m vs (.ow d :: env) = .ok l (.ow d' :: env) ∧ All2 Rl ds l ∧ P (n + ds.length) d' := by
  obtain ⟨l, d', h1, h2, h3⟩ := compL_diceG (g := g) (m := m) (vs := vs) (E := E) (env := env) P Rl ds n d (wipeE (.ow d :: env) vs) (wipe_wipe _ _) hP hg hw h
  refine ⟨l, d', ?_, h2, h3⟩
  unfold mLc
  simp only [hi, R.bind]
  rw [if_pos hl, h1]
  simp only
  rw [if_pos (by rw [wipe_len]; simp)]
  congr 1
  apply List.ext_getElem?
  intro i
  rw [(rest_get (.ow d :: env) (wipeE (.ow d' :: env) vs) (by rw [wipe_len]; simp) i vs).2]
  cases i with
  | zero => rw [if_neg h0, wipe_get _ _ _ h0]
  | succ i =>
    split
    · rfl
    · rename_i hm; rw [wipe_get _ _ _ hm]
/-- two names over zip, the dice go through -/
theorem mLc_zipD {n a b : Nat} (ha : 0 < a) (hb : 0 < b) (hab : a ≠ b) (P : Nat → List D → Prop) (Rl : D → D → Prop) {env : Env} {d : List D} {xs ys : List D} (hi : mi (.ow d :: env) = .ok (zipD xs ys) (.ow d :: env)) (hl : (zipD xs ys).length ≤ big) (hP : P n d)
    (h : ∀ k x y d, (x, y) ∈ xs.zip ys → n ≤ k → k < n + (zipD xs ys).length → P k d → ∃ z d', m (((Sl.ow d :: env).set a (.va x)).set b (.va y)) = .ok z (((Sl.ow d' :: env).set a (.va x)).set b (.va y)) ∧ Rl (.tup [x, y]) z ∧ P (k + 1) d') :
    ∃ l d', mLc mi (tgT 2 (tgsC (tgN a) (tgsC (tgN b) tgsN))) mYes m [a, b] (.ow d :: env) = .ok l (.ow d' :: env) ∧ All2 Rl (zipD xs ys) l ∧ P (n + (zipD xs ys).length) d' := by
  have mem : ∀ x, x ∈ zipD xs ys → ∃ p q, x = .tup [p, q] ∧ (p, q) ∈ xs.zip ys := fun x hx => by
    unfold zipD at hx
    obtain ⟨q, hq, rfl⟩ := List.mem_map.1 hx
    exact ⟨q.1, q.2, rfl, hq⟩
  refine mLc_diceG (E := fun d x => match x with | .tup [p, q] => ((Sl.ow d :: env).set a (.va p)).set b (.va q) | _ => []) P Rl (by simp; omega) hi hl hP ?_ ?_ ?_
  · intro d x hx
    obtain ⟨p, q, rfl, _⟩ := mem x hx
    show some (((((Sl.ow d :: env).set b .un).set a .un).set a (.va p)).set b (.va q)) = some (((Sl.ow d :: env).set a (.va p)).set b (.va q))
    rw [List.set_set, List.set_comm _ _ hab, List.set_set, ← List.set_comm _ _ hab]
  · intro d x hx
    obtain ⟨p, q, rfl, _⟩ := mem x hx
    show ((((Sl.ow d :: env).set a (.va p)).set b (.va q)).set b .un).set a .un = ((Sl.ow d :: env).set b .un).set a .un
    rw [List.set_set, List.set_comm _ _ hab, List.set_set]
  · intro k x d hx hk hk2 hd
    obtain ⟨p, q, rfl, hpq⟩ := mem x hx
    exact h k p q d hpq hk hk2 hd
theorem mItC_ok {g : List D → Option (List D)} {a : MA} {env e : Env} {ds l : List D} (h : a env = .ok ds e) (hg : g ds = some l) : mItC g a env = .ok l e := by
  unfold mItC
  rw [h]
  show R.of (g ds) e = _
  rw [hg]
  rfl
theorem forL_step {b : SX} {d : D} {ds : List D} {env e1 e2 : Env} (hg : g d env = some e1) (hb : b e1 = .nx e2) : forL g b (d :: ds) env = forL g b ds e2 := by
  simp only [forL, hg, hb]
theorem allG_name {v : Nat} {E : Env} {p : D → Bool} : ∀ (ds : List D) (x : Sl), (∀ d ∈ ds, m (E.set v (.va d)) = .ok (.bl (p d)) (E.set v (.va d))) → ∃ e, allG (tgN v) m ds (E.set v x) = .ok (ds.all p) e
  | [], x, _ => ⟨_, rfl⟩
  | d :: ds, x, h => by
    have h1 := h d (by simp)
    obtain ⟨e, h2⟩ := allG_name ds (.va d) fun d hd => h d (by simp [hd])
    unfold allG
    simp only [tgN, List.set_set, h1, R.noBad, R.bind, asB]
    cases hp : p d with
    | true => exact ⟨e, by simpa [hp] using h2⟩
    | false => exact ⟨_, by simp [hp]; rfl⟩
/-- all(.. for name in ..) -/
theorem mAllG_name {v : Nat} {env : Env} {ds : List D} {p : D → Bool} (hi : mi env = .ok ds env) (h : ∀ d ∈ ds, m ((dropO env).set v (.va d)) = .ok (.bl (p d)) ((dropO env).set v (.va d))) : mAllG mi (tgN v) m [v] env = .ok (.bl (ds.all p)) env := by
  obtain ⟨e, h2⟩ := allG_name (m := m) ds .un h
  unfold mAllG
  simp only [hi, R.bind]
  rw [show genE env [v] = (dropO env).set v .un from rfl, h2]
/-- a for loop -/
theorem forL_gen {b : SX} (P : List D → Env → Prop) (Q : Env → Prop) (Z : D → Env → Prop) (h0 : ∀ e, P [] e → Q e)
    (h : ∀ d ds env, P (d :: ds) env → ∃ e1, g d env = some e1 ∧ match b e1 with | .nx e2 => P ds e2 | .ct e2 => P ds e2 | .bk e2 => Q e2 | .rt v e2 => Z v e2 | _ => False) : ∀ (ds : List D) (env : Env), P ds env →
    match forL g b ds env with | .nx e => Q e | .rt v e => Z v e | _ => False
  | [], env, hP => h0 _ hP
  | d :: ds, env, hP => by
    obtain ⟨e1, h1, h2⟩ := h d ds env hP
    unfold forL
    rw [h1]
    simp only
    cases hb : b e1 with
    | nx e2 => rw [hb] at h2; exact forL_gen P Q Z h0 h ds e2 h2
    | ct e2 => rw [hb] at h2; exact forL_gen P Q Z h0 h ds e2 h2
    | bk e2 => rw [hb] at h2; exact h2
    | rt v e2 => rw [hb] at h2; exact h2
    | bad nm e2 => rw [hb] at h2; exact h2.elim
    | stuck => rw [hb] at h2; exact h2.elim
/-- .. that goes through to its end -/
theorem forL_run {b : SX} (P : List D → Env → Prop) (h : ∀ d ds env, P (d :: ds) env → ∃ e1 e2, g d env = some e1 ∧ b e1 = .nx e2 ∧ P ds e2) : ∀ (ds : List D) (env : Env), P ds env → ∃ e, forL g b ds env = .nx e ∧ P [] e
  | [], env, hP => ⟨env, rfl, hP⟩
  | d :: ds, env, hP => by
    obtain ⟨e1, e2, h1, h2, h3⟩ := h d ds env hP
    obtain ⟨e, h4, h5⟩ := forL_run P h ds e2 h3
    refine ⟨e, ?_, h5⟩
    unfold forL
    rw [h1]
    simp only [h2]
    exact h4
end
end Y

set_option Elab.async false
set_option linter.all false
set_option maxRecDepth 100000
set_option maxHeartbeats 2000000
namespace Y
open PySem PySem.Spec PyProof.Rows L2
/-! ### what == tells of plain data -/
theorem eqI (a b : Int) : gEqB false (.int a) (.int b) = some (.bl (decide (a = b))) := by
  simp [gEqB, D.py, SeqAt.shaped, PyData.canLay0, PyData.depth, PyData.eqv]
  by_cases h : a = b <;> simp [h]
theorem neI (a b : Int) : gEqB true (.int a) (.int b) = some (.bl (!decide (a = b))) := by
  simp [gEqB, D.py, SeqAt.shaped, PyData.canLay0, PyData.depth, PyData.eqv]
  by_cases h : a = b <;> simp [h]
theorem eqBl (a b : Bool) : gEqB false (.bl a) (.bl b) = some (.bl (a == b)) := by
  simp [gEqB, D.py, SeqAt.shaped, PyData.canLay0, PyData.depth, PyData.eqv]
theorem neBl (a b : Bool) : gEqB true (.bl a) (.bl b) = some (.bl (!(a == b))) := by
  simp [gEqB, D.py, SeqAt.shaped, PyData.canLay0, PyData.depth, PyData.eqv]
/-- plain data of at most so many storeys -/
structure Lay (k : Nat) (d : D) : Prop where
  ex : ∃ p, d.py = some p ∧ p.canLay0 = true ∧ p.depth ≤ k
theorem Lay.mono {j k : Nat} {d : D} (h : Lay j d) (hk : j ≤ k) : Lay k d := by
  obtain ⟨p, a, b, c⟩ := h
  exact ⟨p, a, b, by omega⟩
theorem Lay.int {k : Nat} (i : Int) : Lay k (.int i) := ⟨_, rfl, rfl, by simp [PyData.depth]⟩
theorem Lay.bl {k : Nat} (i : Bool) : Lay k (.bl i) := ⟨_, rfl, rfl, by simp [PyData.depth]⟩
theorem Lay.non {k : Nat} : Lay k .non := ⟨_, rfl, rfl, by simp [PyData.depth]⟩
theorem Lay.all {k : Nat} : ∀ {l : List D}, (∀ d ∈ l, Lay k d) → ∃ ps, D.pys l = some ps ∧ PyData.canLayAll0 ps = true ∧ PyData.depthAll ps ≤ k
  | [], _ => ⟨[], rfl, rfl, by simp [PyData.depthAll]⟩
  | d :: l, h => by
    obtain ⟨p, a, b, c⟩ := h d (by simp)
    obtain ⟨ps, a2, b2, c2⟩ := Lay.all (l := l) fun d hd => h d (by simp [hd])
    exact ⟨p :: ps, by simp [D.pys, a, a2], by simp [PyData.canLayAll0, b, b2], by simp [PyData.depthAll]; omega⟩
theorem Lay.tup {k : Nat} {l : List D} (h : ∀ d ∈ l, Lay k d) : Lay (k + 1) (.tup l) := by
  obtain ⟨ps, a, b, c⟩ := Lay.all h
  exact ⟨.tuple ps, by simp [D.py, a], by simpa [PyData.canLay0] using b, by simp [PyData.depth]; omega⟩
theorem Lay.lst {k : Nat} {l : List D} (h : ∀ d ∈ l, Lay k d) : Lay (k + 1) (.lst l) := by
  obtain ⟨ps, a, b, c⟩ := Lay.all h
  exact ⟨.list ps, by simp [D.py, a], by simpa [PyData.canLay0] using b, by simp [PyData.depth]; omega⟩
theorem eq_self' {d : D} {n : Bool} (h : Lay 64 d) : gEqB n d d = some (.bl (!n)) := by
  obtain ⟨p, a, b, c⟩ := h
  have e : SeqAt.shaped p = true := by simp [SeqAt.shaped, b, c]
  have q : PyData.eqv p p = true := SeqAt.eqv_refl_plain p (PyData.plain_of_canLay0 p b)
  simp only [gEqB, a, e, q, Bool.and_self, if_true]
  cases n <;> rfl
end Y

set_option Elab.async false
set_option linter.all false
set_option maxRecDepth 100000
set_option maxHeartbeats 2000000
namespace Y
open PySem PySem.Spec PyProof.Rows L2
/-- the dice: three numbers, at most n rolls of its own behind it -/
structure Dice (n : Nat) (d : List D) : Prop where
  ex : ∃ a b c : Int, d = [.int a, .int b, .int c] ∧ 0 ≤ a ∧ 0 ≤ b ∧ b < 2147480009 ∧ 0 ≤ c ∧ c ≤ n
theorem okMul_small {i j : Int} (hi : i.natAbs < 2 ^ 400) (hj : j.natAbs < 2 ^ 400) : okMul i j = true := by
  have e : ∀ k : Nat, k < 2 ^ 400 → k.log2 < 400 := fun k h => by
    by_cases z : k = 0
    · subst z; decide
    · exact (Nat.log2_lt z).2 h
  have := e _ hi
  have := e _ hj
  unfold okMul
  exact decide_eq_true (by omega)
theorem okDiv_small {i j : Int} (h0 : j ≠ 0) (hj : j.natAbs < 2 ^ 400) : okDiv i j = true := by
  have e : j.natAbs.log2 < 400 := (Nat.log2_lt (by omega)).2 hj
  unfold okDiv
  simp only [Bool.and_eq_true, decide_eq_true_eq]
  omega
theorem fmod_lt {a b : Int} (h : 0 < b) : 0 ≤ a.fmod b ∧ a.fmod b < b := ⟨Int.fmod_nonneg_of_pos a h, Int.fmod_lt_of_pos a h⟩
theorem roll_ok {n : Nat} {d : List D} {m : Int} (hd : Dice n d) (h0 : 0 < m) (h1 : m < 2 ^ 60) (hn : n ≤ 2 ^ 60) :
    ∃ v d', F__law_roll d [.int m] = .ok (.int v) d' ∧ 0 ≤ v ∧ v < m ∧ Dice (n + 1) d' := by
  obtain ⟨a, b, c, rfl, ha, hb, hb2, hc, hc2⟩ := hd
  have f := fmod_lt (a := a) h0
  have q : okDiv a m = true := okDiv_small (by omega) (by omega)
  by_cases z : 0 < a
  · refine ⟨a.fmod m, [.int (a.fdiv m), .int b, .int c], ?_, f.1, f.2, ⟨_, _, _, rfl, Int.fdiv_nonneg ha (by omega), hb, hb2, hc, by omega⟩⟩
    have z2 : m ≠ 0 := by omega
    simp [F__law_roll, m__law_roll, ent, entD, runF, runD, runO, oSeq, sRetO, sSeq, sNil, sSet, sSetO, sRet, sRetN, sIf, sDrop, sBreak, sCont, sAppend, sExtend, sSetIx, sAug, sPar, sAsg, sRaise, mVar, mVarZ, mC, mBin, mT, mTAnd, mTOr, mTNot, mAnd, mOr, mNot, mIf, aNil, aCons, newTup, mTup, mFz, newLst, mLst, mCall, mIxO, mLenO, oNone, oSome, mSl, mBinL, mIsi, mFn, mFnK, mFnD, mFnDO, mUn, mItems, mItC, mYes, asB, R.bind, R.go, R.of, R.noBad, FR.to, FRD.to, tgN, tgsN, tgsC, tgT, gI, gIx, gLen, gAbs, gMax2, gMin2, gMin3, gInt, gTuple, gList, gSl, gSlL, gNeg, isT, gIsN, gNotN, gAddA, gMulA, gZip, List.map_cons, List.map_nil, List.length_cons, List.length_nil, List.replicate, List.append_eq, List.cons_append, List.nil_append, List.getElem?_cons_zero, List.getElem?_cons_succ, List.set_cons_zero, List.set_cons_succ, Option.map_some, Option.bind_some, Nat.reduceAdd, Nat.reduceSub, Nat.reduceLT, Nat.reduceLeDiff, Nat.reduceEqDiff, Int.reduceToNat, if_true, if_false, Bool.not_true, Bool.not_false, Bool.false_eq_true, List.length_append, Nat.zero_add, String.reduceEq, or_true, true_or, or_false, false_or, and_true, true_and, Nat.add_zero, Int.reduceLT, Int.reduceLE, decide_true, decide_false, decide_eq_true_eq, Int.reduceAdd, Int.reduceSub, Int.reduceMul, Int.reduceNeg, atI, ixN, z, z2, q]
  · have c2 : (c + 1).natAbs ≤ 2 ^ 60 + 1 := by omega
    have c3 : ((c + 1) * (c + 1)).natAbs < 2 ^ 400 := by
      rw [Int.natAbs_mul]
      exact Nat.lt_of_le_of_lt (Nat.mul_le_mul c2 c2) (by decide)
    have q1 : okMul b 52501 = true := okMul_small (by omega) (by omega)
    have q2 : okMul (c + 1) (c + 1) = true := okMul_small (by omega) (by omega)
    have q3 : okMul ((c + 1) * (c + 1)) 1009 = true := okMul_small c3 (by omega)
    have q4 : ∀ i, okDiv i 211 = true := fun i => okDiv_small (by omega) (by omega)
    have z2 : m ≠ 0 := by omega
    have z3 : ¬ (0 < a) := z
    refine ⟨((((b * 52501 + (c + 1) * (c + 1) * 1009 + 77).fmod 2147480009)).fdiv 211).fmod m, [.int a, .int ((b * 52501 + (c + 1) * (c + 1) * 1009 + 77).fmod 2147480009), .int (c + 1)], ?_, (fmod_lt h0).1, (fmod_lt h0).2, ⟨_, _, _, rfl, ha, (fmod_lt (by omega)).1, (fmod_lt (by omega)).2, by omega, by omega⟩⟩
    simp [F__law_roll, m__law_roll, ent, entD, runF, runD, runO, oSeq, sRetO, sSeq, sNil, sSet, sSetO, sRet, sRetN, sIf, sDrop, sBreak, sCont, sAppend, sExtend, sSetIx, sAug, sPar, sAsg, sRaise, mVar, mVarZ, mC, mBin, mT, mTAnd, mTOr, mTNot, mAnd, mOr, mNot, mIf, aNil, aCons, newTup, mTup, mFz, newLst, mLst, mCall, mIxO, mLenO, oNone, oSome, mSl, mBinL, mIsi, mFn, mFnK, mFnD, mFnDO, mUn, mItems, mItC, mYes, asB, R.bind, R.go, R.of, R.noBad, FR.to, FRD.to, tgN, tgsN, tgsC, tgT, gI, gIx, gLen, gAbs, gMax2, gMin2, gMin3, gInt, gTuple, gList, gSl, gSlL, gNeg, isT, gIsN, gNotN, gAddA, gMulA, gZip, List.map_cons, List.map_nil, List.length_cons, List.length_nil, List.replicate, List.append_eq, List.cons_append, List.nil_append, List.getElem?_cons_zero, List.getElem?_cons_succ, List.set_cons_zero, List.set_cons_succ, Option.map_some, Option.bind_some, Nat.reduceAdd, Nat.reduceSub, Nat.reduceLT, Nat.reduceLeDiff, Nat.reduceEqDiff, Int.reduceToNat, if_true, if_false, Bool.not_true, Bool.not_false, Bool.false_eq_true, List.length_append, Nat.zero_add, String.reduceEq, or_true, true_or, or_false, false_or, and_true, true_and, Nat.add_zero, Int.reduceLT, Int.reduceLE, decide_true, decide_false, decide_eq_true_eq, Int.reduceAdd, Int.reduceSub, Int.reduceMul, Int.reduceNeg, atI, ixN, z3, z2, q1, q2, q3, q4]
theorem atI_lt {α : Type} {l : List α} {i : Int} (h0 : 0 ≤ i) (h1 : i < l.length) : ∃ x, atI l i = some x ∧ x ∈ l ∧ l[i.toNat]? = some x := by
  have e : i.toNat < l.length := by omega
  refine ⟨l[i.toNat], ?_, List.getElem_mem e, List.getElem?_eq_getElem e⟩
  unfold atI ixN
  simp [h0, h1, e]
/-- a pick from a list (or tuple) of things -/
theorem pick_ok {n : Nat} {d : List D} {l : List D} (hd : Dice n d) (h0 : l ≠ []) (h1 : l.length ≤ big) (hn : n ≤ 2 ^ 60) :
    ∃ v d', F__law_pick d [.lst l] = .ok v d' ∧ v ∈ l ∧ Dice (n + 1) d' := by
  have h2 : 0 < l.length := List.length_pos_iff.2 h0
  obtain ⟨v, d', e, v0, v1, hd'⟩ := roll_ok (m := l.length) hd (by omega) (by have : big = 1000000 := rfl; omega) hn
  obtain ⟨x, ex, hx, _⟩ := atI_lt v0 v1
  refine ⟨x, d', ?_, hx, hd'⟩
  simp [F__law_pick, m__law_pick, ent, entD, runF, runD, runO, oSeq, sRetO, sSeq, sNil, sSet, sSetO, sRet, sRetN, sIf, sDrop, sBreak, sCont, sAppend, sExtend, sSetIx, sAug, sPar, sAsg, sRaise, mVar, mVarZ, mC, mBin, mT, mTAnd, mTOr, mTNot, mAnd, mOr, mNot, mIf, aNil, aCons, newTup, mTup, mFz, newLst, mLst, mCall, mIxO, mLenO, oNone, oSome, mSl, mBinL, mIsi, mFn, mFnK, mFnD, mFnDO, mUn, mItems, mItC, mYes, asB, R.bind, R.go, R.of, R.noBad, FR.to, FRD.to, tgN, tgsN, tgsC, tgT, gI, gIx, gLen, gAbs, gMax2, gMin2, gMin3, gInt, gTuple, gList, gSl, gSlL, gNeg, isT, gIsN, gNotN, gAddA, gMulA, gZip, List.map_cons, List.map_nil, List.length_cons, List.length_nil, List.replicate, List.append_eq, List.cons_append, List.nil_append, List.getElem?_cons_zero, List.getElem?_cons_succ, List.set_cons_zero, List.set_cons_succ, Option.map_some, Option.bind_some, Nat.reduceAdd, Nat.reduceSub, Nat.reduceLT, Nat.reduceLeDiff, Nat.reduceEqDiff, Int.reduceToNat, if_true, if_false, Bool.not_true, Bool.not_false, Bool.false_eq_true, List.length_append, Nat.zero_add, String.reduceEq, or_true, true_or, or_false, false_or, and_true, true_and, Nat.add_zero, Int.reduceLT, Int.reduceLE, decide_true, decide_false, decide_eq_true_eq, Int.reduceAdd, Int.reduceSub, Int.reduceMul, Int.reduceNeg, e, ex]
abbrev zs (r : List Int) : List D := r.map D.int
abbrev tupI (r : List Int) : D := .tup (zs r)
theorem All2.ints {α : Type} {P : Int → Prop} : ∀ {ds : List α} {l : List D}, All2 (fun _ y => ∃ x : Int, y = .int x ∧ P x) ds l → ∃ r : List Int, l = zs r ∧ ∀ x ∈ r, P x
  | _, _, .nil => ⟨[], rfl, by simp⟩
  | _, _, .cons ⟨x, rfl, hx⟩ q => by
    obtain ⟨r, rfl, hr⟩ := All2.ints q
    exact ⟨x :: r, rfl, by simpa using ⟨hx, hr⟩⟩
theorem rng_len (lo : Int) (n : Nat) : (rngD lo n).length = n := by simp [rngD]
theorem rng1 {n : Nat} (h : n ≤ 1000000) : gRng1 [.int n] = some (rngD 0 n) := by
  unfold gRng1
  simp only
  rw [if_pos (by omega)]
  rfl
theorem rng2 {i j : Int} {k : Nat} (h1 : -1000000 ≤ i) (h2 : i ≤ 1000000) (h3 : -1000000 ≤ j) (h4 : j ≤ 1000000) (hk : (j - i).toNat = k) : gRng2 [.int i, .int j] = some (rngD i k) := by
  unfold gRng2
  simp only
  rw [if_pos ⟨h1, h2, h3, h4⟩, hk]
theorem row_ok {n : Nat} {d : List D} {w : Nat} {m : Int} (hd : Dice n d) (hw : w ≤ 1000) (h0 : 0 ≤ m) (h1 : m < 2 ^ 50) (hn : n ≤ 2 ^ 50) :
    ∃ r d', F__law_row d [.int w, .int m] = .ok (tupI r) d' ∧ r.length = w ∧ (∀ x ∈ r, -m ≤ x ∧ x ≤ m) ∧ Dice (n + w) d' := by
  have hb : big = 1000000 := rfl
  have q : -1000000 ≤ (w : Int) ∧ (w : Int) ≤ 1000000 := by omega
  have q2 : okMul 2 m = true := okMul_small (by omega) (by omega)
  obtain ⟨l, d', h2, h3, h4⟩ := mLc_dice (v := 3) (n := 0) (by omega) (fun k d => Dice (n + k) d) (fun _ y => ∃ x : Int, y = .int x ∧ (-m ≤ x ∧ x ≤ m))
    (mi := mItC gRng1 (aCons (mVar 1) aNil)) (m := mBin (gII fun i j => i - j) (mFnD 0 2 F__law_roll (aCons (mBin gAddA (mBin gMulA (mC (.int 2)) (mVar 2)) (mC (.int 1))) aNil)) (mVar 2))
    (env := [.va (.int w), .va (.int m), .un]) (d := d) (ds := rngD 0 w) (by simp [ent, entD, runF, runD, runO, oSeq, sRetO, sSeq, sNil, sSet, sSetO, sRet, sRetN, sIf, sDrop, sBreak, sCont, sAppend, sExtend, sSetIx, sAug, sPar, sAsg, sRaise, mVar, mVarZ, mC, mBin, mT, mTAnd, mTOr, mTNot, mAnd, mOr, mNot, mIf, aNil, aCons, newTup, mTup, mFz, newLst, mLst, mCall, mIxO, mLenO, oNone, oSome, mSl, mBinL, mIsi, mFn, mFnK, mFnD, mFnDO, mUn, mItems, mItC, mYes, asB, R.bind, R.go, R.of, R.noBad, FR.to, FRD.to, tgN, tgsN, tgsC, tgT, gI, gIx, gLen, gAbs, gMax2, gMin2, gMin3, gInt, gTuple, gList, gSl, gSlL, gNeg, isT, gIsN, gNotN, gAddA, gMulA, gZip, List.map_cons, List.map_nil, List.length_cons, List.length_nil, List.replicate, List.append_eq, List.cons_append, List.nil_append, List.getElem?_cons_zero, List.getElem?_cons_succ, List.set_cons_zero, List.set_cons_succ, Option.map_some, Option.bind_some, Nat.reduceAdd, Nat.reduceSub, Nat.reduceLT, Nat.reduceLeDiff, Nat.reduceEqDiff, Int.reduceToNat, if_true, if_false, Bool.not_true, Bool.not_false, Bool.false_eq_true, List.length_append, Nat.zero_add, String.reduceEq, or_true, true_or, or_false, false_or, and_true, true_and, Nat.add_zero, Int.reduceLT, Int.reduceLE, decide_true, decide_false, decide_eq_true_eq, Int.reduceAdd, Int.reduceSub, Int.reduceMul, Int.reduceNeg, rng1 (n := w) (by omega)]) (by rw [rng_len]; omega) hd fun k x d hx hk hk2 hd => by
      rw [rng_len] at hk2
      obtain ⟨v, d', e, v0, v1, hd'⟩ := roll_ok (m := 2 * m + 1) hd (by omega) (by omega) (by omega)
      exact ⟨.int (v - m), d', by simp [ent, entD, runF, runD, runO, oSeq, sRetO, sSeq, sNil, sSet, sSetO, sRet, sRetN, sIf, sDrop, sBreak, sCont, sAppend, sExtend, sSetIx, sAug, sPar, sAsg, sRaise, mVar, mVarZ, mC, mBin, mT, mTAnd, mTOr, mTNot, mAnd, mOr, mNot, mIf, aNil, aCons, newTup, mTup, mFz, newLst, mLst, mCall, mIxO, mLenO, oNone, oSome, mSl, mBinL, mIsi, mFn, mFnK, mFnD, mFnDO, mUn, mItems, mItC, mYes, asB, R.bind, R.go, R.of, R.noBad, FR.to, FRD.to, tgN, tgsN, tgsC, tgT, gI, gIx, gLen, gAbs, gMax2, gMin2, gMin3, gInt, gTuple, gList, gSl, gSlL, gNeg, isT, gIsN, gNotN, gAddA, gMulA, gZip, List.map_cons, List.map_nil, List.length_cons, List.length_nil, List.replicate, List.append_eq, List.cons_append, List.nil_append, List.getElem?_cons_zero, List.getElem?_cons_succ, List.set_cons_zero, List.set_cons_succ, Option.map_some, Option.bind_some, Nat.reduceAdd, Nat.reduceSub, Nat.reduceLT, Nat.reduceLeDiff, Nat.reduceEqDiff, Int.reduceToNat, if_true, if_false, Bool.not_true, Bool.not_false, Bool.false_eq_true, List.length_append, Nat.zero_add, String.reduceEq, or_true, true_or, or_false, false_or, and_true, true_and, Nat.add_zero, Int.reduceLT, Int.reduceLE, decide_true, decide_false, decide_eq_true_eq, Int.reduceAdd, Int.reduceSub, Int.reduceMul, Int.reduceNeg, q2, e], ⟨_, rfl, by omega, by omega⟩, hd'⟩
  obtain ⟨r, rfl, hr⟩ := h3.ints
  refine ⟨r, d', ?_, ?_, hr, by rw [rng_len] at h4; simpa using h4⟩
  · simp [F__law_row, m__law_row, c__law_row_1, runD, entD, List.replicate, sRet, mCall, aCons, mFz, h2, ent, entD, runF, runD, runO, oSeq, sRetO, sSeq, sNil, sSet, sSetO, sRet, sRetN, sIf, sDrop, sBreak, sCont, sAppend, sExtend, sSetIx, sAug, sPar, sAsg, sRaise, mVar, mVarZ, mC, mBin, mT, mTAnd, mTOr, mTNot, mAnd, mOr, mNot, mIf, aNil, aCons, newTup, mTup, mFz, newLst, mLst, mCall, mIxO, mLenO, oNone, oSome, mSl, mBinL, mIsi, mFn, mFnK, mFnD, mFnDO, mUn, mItems, mItC, mYes, asB, R.bind, R.go, R.of, R.noBad, FR.to, FRD.to, tgN, tgsN, tgsC, tgT, gI, gIx, gLen, gAbs, gMax2, gMin2, gMin3, gInt, gTuple, gList, gSl, gSlL, gNeg, isT, gIsN, gNotN, gAddA, gMulA, gZip, List.map_cons, List.map_nil, List.length_cons, List.length_nil, List.replicate, List.append_eq, List.cons_append, List.nil_append, List.getElem?_cons_zero, List.getElem?_cons_succ, List.set_cons_zero, List.set_cons_succ, Option.map_some, Option.bind_some, Nat.reduceAdd, Nat.reduceSub, Nat.reduceLT, Nat.reduceLeDiff, Nat.reduceEqDiff, Int.reduceToNat, if_true, if_false, Bool.not_true, Bool.not_false, Bool.false_eq_true, List.length_append, Nat.zero_add, String.reduceEq, or_true, true_or, or_false, false_or, and_true, true_and, Nat.add_zero, Int.reduceLT, Int.reduceLE, decide_true, decide_false, decide_eq_true_eq, Int.reduceAdd, Int.reduceSub, Int.reduceMul, Int.reduceNeg]
  · have := h3.len
    rw [rng_len] at this
    simpa using this
theorem Dice.mono {j k : Nat} {d : List D} (h : Dice j d) (hk : j ≤ k) : Dice k d := by
  obtain ⟨a, b, c, e, h1, h2, h3, h4, h5⟩ := h
  exact ⟨a, b, c, e, h1, h2, h3, h4, by omega⟩
abbrev tupM (m : List (List Int)) : D := .tup (m.map tupI)
/-- rows of one width, their numbers no larger than b -/
structure Rows (w : Nat) (b : Int) (m : List (List Int)) : Prop where
  len : ∀ r ∈ m, r.length = w
  le : ∀ r ∈ m, ∀ x ∈ r, -b ≤ x ∧ x ≤ b
theorem atI_0 {α : Type} {x : α} {l : List α} : atI (x :: l) 0 = some x := by
  unfold atI ixN
  simp
theorem atI_last {α : Type} {l : List α} (h : l ≠ []) : ∃ x, atI l (-1) = some x ∧ x ∈ l := by
  have h2 : 0 < l.length := List.length_pos_iff.2 h
  refine ⟨l[l.length - 1], ?_, List.getElem_mem _⟩
  unfold atI ixN
  rw [if_neg (by omega), if_pos (by omega)]
  have e : ((-1 : Int) + (l.length : Int)).toNat = l.length - 1 := by omega
  simp only [e]
  first | exact List.getElem?_eq_getElem (by omega) | simp
theorem zs_zip (r s : List Int) : (zs r).zip (zs s) = (r.zip s).map fun q => (D.int q.1, D.int q.2) := by
  induction r generalizing s with
  | nil => rfl
  | cons x r ih => cases s with
    | nil => rfl
    | cons y s => simp [zs] at ih ⊢; exact ih s
theorem rep_zero (w : Nat) : (List.replicate w [D.int 0]).flatten = zs (List.replicate w 0) := by
  induction w with
  | zero => rfl
  | succ w ih => simp [List.replicate_succ, zs] at ih ⊢
theorem bound_mix {b i j p : Int} (hi : -b ≤ i ∧ i ≤ b) (hj : -b ≤ j ∧ j ≤ b) (hp : p = -1 ∨ p = 1 ∨ p = 2) : -(3 * b) ≤ i + p * j ∧ i + p * j ≤ 3 * b := by
  rcases hp with rfl | rfl | rfl <;> omega
theorem okMul_one {p j : Int} {b : Int} (hj : -b ≤ j ∧ j ≤ b) (hb : b < 2 ^ 60) (hp : p = -1 ∨ p = 1 ∨ p = 2) : okMul p j = true := okMul_small (by omega) (by omega)
theorem mix_ok {n : Nat} {d G : List D} {b : Int} {r0 r1 : List Int} {x1 x2 x4 x5 : Sl} {x6 x7 : Sl} (hd : Dice n d) (h0 : atI G 0 = some (tupI r0)) (h1 : atI G (-1) = some (tupI r1)) (b0 : ∀ x ∈ r0, -b ≤ x ∧ x ≤ b) (b1 : ∀ x ∈ r1, -b ≤ x ∧ x ≤ b)
    (l0 : r0.length ≤ 1000) (l1 : r1.length = r0.length) (hb : b < 2 ^ 60) (hn : n ≤ 2 ^ 50) :
    ∃ r d', c__law_grid_1
        (.ow d :: [x1, x2, .ow G, x4, x5, x6, x7]) = .ok (zs r) (.ow d' :: [x1, x2, .ow G, x4, x5, x6, x7]) ∧ r.length = r0.length ∧ (∀ x ∈ r, -(3 * b) ≤ x ∧ x ≤ 3 * b) ∧ Dice (n + r0.length) d' := by
  have hbig : big = 1000000 := rfl
  have zl : (zipD (zs r1) (zs r0)).length = r0.length := by simp [zipD, zs, l1]
  obtain ⟨l, d', h2, h3, h4⟩ := mLc_zipD (n := 0) (a := 6) (b := 7) (by omega) (by omega) (by omega) (fun k d => Dice (n + k) d) (fun _ y => ∃ x : Int, y = .int x ∧ (-(3 * b) ≤ x ∧ x ≤ 3 * b))
    (mi := mItC gZip (aCons (mIxO 3 (mUn gNeg (mC (.int 1)))) (aCons (mIxO 3 (mC (.int 0))) aNil))) (m := mBin gAddA (mVar 6) (mBin gMulA (mFnD 0 2 F__law_pick (aCons (mFz (mLst (aCons (mUn gNeg (mC (.int 1))) (aCons (mC (.int 1)) (aCons (mC (.int 2)) aNil))))) aNil)) (mVar 7)))
    (env := [x1, x2, .ow G, x4, x5, x6, x7]) (d := d) (xs := zs r1) (ys := zs r0) (by simp [ent, entD, runF, runD, runO, oSeq, sRetO, sSeq, sNil, sSet, sSetO, sRet, sRetN, sIf, sDrop, sBreak, sCont, sAppend, sExtend, sSetIx, sAug, sPar, sAsg, sRaise, mVar, mVarZ, mC, mBin, mT, mTAnd, mTOr, mTNot, mAnd, mOr, mNot, mIf, aNil, aCons, newTup, mTup, mFz, newLst, mLst, mCall, mIxO, mLenO, oNone, oSome, mSl, mBinL, mIsi, mFn, mFnK, mFnD, mFnDO, mUn, mItems, mItC, mYes, asB, R.bind, R.go, R.of, R.noBad, FR.to, FRD.to, tgN, tgsN, tgsC, tgT, gI, gIx, gLen, gAbs, gMax2, gMin2, gMin3, gInt, gTuple, gList, gSl, gSlL, gNeg, isT, gIsN, gNotN, gAddA, gMulA, gZip, List.map_cons, List.map_nil, List.length_cons, List.length_nil, List.replicate, List.append_eq, List.cons_append, List.nil_append, List.getElem?_cons_zero, List.getElem?_cons_succ, List.set_cons_zero, List.set_cons_succ, Option.map_some, Option.bind_some, Nat.reduceAdd, Nat.reduceSub, Nat.reduceLT, Nat.reduceLeDiff, Nat.reduceEqDiff, Int.reduceToNat, if_true, if_false, Bool.not_true, Bool.not_false, Bool.false_eq_true, List.length_append, Nat.zero_add, String.reduceEq, or_true, true_or, or_false, false_or, and_true, true_and, Nat.add_zero, Int.reduceLT, Int.reduceLE, decide_true, decide_false, decide_eq_true_eq, Int.reduceAdd, Int.reduceSub, Int.reduceMul, Int.reduceNeg, h0, h1]) (by rw [zl]; omega) hd fun k x y d hx hk hk2 hd => by
      rw [zl] at hk2
      rw [zs_zip] at hx
      obtain ⟨q, hq, e⟩ := List.mem_map.1 hx
      obtain ⟨rfl, rfl⟩ := Prod.mk.inj e
      have q1 := b1 _ (List.of_mem_zip hq).1
      have q2 := b0 _ (List.of_mem_zip hq).2
      obtain ⟨v, d', e, hv, hd'⟩ := pick_ok (l := [.int (-1), .int 1, .int 2]) hd (by simp) (by decide) (by omega)
      obtain ⟨p, rfl, hp⟩ : ∃ p : Int, v = .int p ∧ (p = -1 ∨ p = 1 ∨ p = 2) := by
        simp only [List.mem_cons, List.not_mem_nil, or_false] at hv
        rcases hv with rfl | rfl | rfl
        · exact ⟨-1, rfl, by simp⟩
        · exact ⟨1, rfl, by simp⟩
        · exact ⟨2, rfl, by simp⟩
      have q3 := okMul_one q2 hb hp
      have bm := bound_mix q1 q2 hp
      exact ⟨.int (q.1 + p * q.2), d', by simp [ent, entD, runF, runD, runO, oSeq, sRetO, sSeq, sNil, sSet, sSetO, sRet, sRetN, sIf, sDrop, sBreak, sCont, sAppend, sExtend, sSetIx, sAug, sPar, sAsg, sRaise, mVar, mVarZ, mC, mBin, mT, mTAnd, mTOr, mTNot, mAnd, mOr, mNot, mIf, aNil, aCons, newTup, mTup, mFz, newLst, mLst, mCall, mIxO, mLenO, oNone, oSome, mSl, mBinL, mIsi, mFn, mFnK, mFnD, mFnDO, mUn, mItems, mItC, mYes, asB, R.bind, R.go, R.of, R.noBad, FR.to, FRD.to, tgN, tgsN, tgsC, tgT, gI, gIx, gLen, gAbs, gMax2, gMin2, gMin3, gInt, gTuple, gList, gSl, gSlL, gNeg, isT, gIsN, gNotN, gAddA, gMulA, gZip, List.map_cons, List.map_nil, List.length_cons, List.length_nil, List.replicate, List.append_eq, List.cons_append, List.nil_append, List.getElem?_cons_zero, List.getElem?_cons_succ, List.set_cons_zero, List.set_cons_succ, Option.map_some, Option.bind_some, Nat.reduceAdd, Nat.reduceSub, Nat.reduceLT, Nat.reduceLeDiff, Nat.reduceEqDiff, Int.reduceToNat, if_true, if_false, Bool.not_true, Bool.not_false, Bool.false_eq_true, List.length_append, Nat.zero_add, String.reduceEq, or_true, true_or, or_false, false_or, and_true, true_and, Nat.add_zero, Int.reduceLT, Int.reduceLE, decide_true, decide_false, decide_eq_true_eq, Int.reduceAdd, Int.reduceSub, Int.reduceMul, Int.reduceNeg, big, e, q3], ⟨_, rfl, bm⟩, hd'⟩
  obtain ⟨r, rfl, hr⟩ := h3.ints
  refine ⟨r, d', by unfold c__law_grid_1; exact h2, ?_, hr, by rw [zl] at h4; simpa using h4⟩
  have := h3.len
  rw [zl] at this
  simpa using this
abbrev gridD (w : Nat) (m : List (List Int)) : D := .tup [.int w, tupM m]
theorem big_eq : big = 1000000 := rfl
theorem pow6 (n : Nat) : (6 : Int) ^ (n + 1) = 6 * 6 ^ n := by rw [Int.pow_succ]; omega
theorem pow6_le : ∀ j : Nat, j ≤ 6 → (1 : Int) ≤ 6 ^ j ∧ (6 : Int) ^ j ≤ 46656 := by decide
theorem atI_first {α : Type} {l : List α} (h : l ≠ []) : ∃ x, atI l 0 = some x ∧ x ∈ l := by
  cases l with
  | nil => exact absurd rfl h
  | cons a b => exact ⟨a, atI_0, by simp⟩
theorem twice_ok {env : Env} {r : List Int} {b : Int} (h5 : env[5]? = some (.va (tupI r))) (l : 6 < env.length) (hl : r.length ≤ 1000) (hb : b < 2 ^ 50) (hr : ∀ x ∈ r, -b ≤ x ∧ x ≤ b) :
    c__law_grid_2 env = .ok (zs (r.map fun x => 2 * x)) env := by
  unfold c__law_grid_2
  have := mLc_map (mi := mItems (mVar 5)) (m := mBin gMulA (mC (.int 2)) (mVar 6)) (env := env) (v := 6) (ds := zs r) (f := fun d => match d with | .int i => .int (2 * i) | d => d) (by simp [ent, entD, runF, runD, runO, oSeq, sRetO, sSeq, sNil, sSet, sSetO, sRet, sRetN, sIf, sDrop, sBreak, sCont, sAppend, sExtend, sSetIx, sAug, sPar, sAsg, sRaise, mVar, mVarZ, mC, mBin, mT, mTAnd, mTOr, mTNot, mAnd, mOr, mNot, mIf, aNil, aCons, newTup, mTup, mFz, newLst, mLst, mCall, mIxO, mLenO, oNone, oSome, mSl, mBinL, mIsi, mFn, mFnK, mFnD, mFnDO, mUn, mItems, mItC, mYes, asB, R.bind, R.go, R.of, R.noBad, FR.to, FRD.to, tgN, tgsN, tgsC, tgT, gI, gIx, gLen, gAbs, gMax2, gMin2, gMin3, gInt, gTuple, gList, gSl, gSlL, gNeg, isT, gIsN, gNotN, gAddA, gMulA, gZip, List.map_cons, List.map_nil, List.length_cons, List.length_nil, List.replicate, List.append_eq, List.cons_append, List.nil_append, List.getElem?_cons_zero, List.getElem?_cons_succ, List.set_cons_zero, List.set_cons_succ, Option.map_some, Option.bind_some, Nat.reduceAdd, Nat.reduceSub, Nat.reduceLT, Nat.reduceLeDiff, Nat.reduceEqDiff, Int.reduceToNat, if_true, if_false, Bool.not_true, Bool.not_false, Bool.false_eq_true, List.length_append, Nat.zero_add, String.reduceEq, or_true, true_or, or_false, false_or, and_true, true_and, Nat.add_zero, Int.reduceLT, Int.reduceLE, decide_true, decide_false, decide_eq_true_eq, Int.reduceAdd, Int.reduceSub, Int.reduceMul, Int.reduceNeg, h5]) (by simp [zs, big_eq]; omega) fun d hd => by
    obtain ⟨x, hx, rfl⟩ := List.mem_map.1 hd
    have := hr x hx
    have q : okMul 2 x = true := okMul_small (by omega) (by omega)
    simp [ent, entD, runF, runD, runO, oSeq, sRetO, sSeq, sNil, sSet, sSetO, sRet, sRetN, sIf, sDrop, sBreak, sCont, sAppend, sExtend, sSetIx, sAug, sPar, sAsg, sRaise, mVar, mVarZ, mC, mBin, mT, mTAnd, mTOr, mTNot, mAnd, mOr, mNot, mIf, aNil, aCons, newTup, mTup, mFz, newLst, mLst, mCall, mIxO, mLenO, oNone, oSome, mSl, mBinL, mIsi, mFn, mFnK, mFnD, mFnDO, mUn, mItems, mItC, mYes, asB, R.bind, R.go, R.of, R.noBad, FR.to, FRD.to, tgN, tgsN, tgsC, tgT, gI, gIx, gLen, gAbs, gMax2, gMin2, gMin3, gInt, gTuple, gList, gSl, gSlL, gNeg, isT, gIsN, gNotN, gAddA, gMulA, gZip, List.map_cons, List.map_nil, List.length_cons, List.length_nil, List.replicate, List.append_eq, List.cons_append, List.nil_append, List.getElem?_cons_zero, List.getElem?_cons_succ, List.set_cons_zero, List.set_cons_succ, Option.map_some, Option.bind_some, Nat.reduceAdd, Nat.reduceSub, Nat.reduceLT, Nat.reduceLeDiff, Nat.reduceEqDiff, Int.reduceToNat, if_true, if_false, Bool.not_true, Bool.not_false, Bool.false_eq_true, List.length_append, Nat.zero_add, String.reduceEq, or_true, true_or, or_false, false_or, and_true, true_and, Nat.add_zero, Int.reduceLT, Int.reduceLE, decide_true, decide_false, decide_eq_true_eq, Int.reduceAdd, Int.reduceSub, Int.reduceMul, Int.reduceNeg, q, l]
  rw [this]
  simp [zs]
theorem grid_ok {n : Nat} {d : List D} {w k : Nat} (hd : Dice n d) (hw : w ≤ 100) (hw1 : 1 ≤ w) (hk : k ≤ 6) (hn : n ≤ 2 ^ 40) :
    ∃ m d', F__law_grid d [.int w, .int k] = .ok (gridD w m) d' ∧ m.length = k ∧ Rows w (6 ^ k) m ∧ Dice (n + k * (2 * w + 2)) d' := by
  let P : List D → Env → Prop := fun ds env => ∃ (d : List D) (m : List (List Int)) (x4 x5 : Sl), env = [.ow d, .va (.int w), .va (.int k), .ow (m.map tupI), x4, x5, .un, .un] ∧ m.length + ds.length = k ∧ Rows w (6 ^ m.length) m ∧ Dice (n + m.length * (2 * w + 2)) d
  have step := forL_run (g := tgN 4) (b := l__law_grid_1) P (by
    rintro z ds env ⟨d, m, x4, x5, rfl, hl, hr, hd⟩
    have hlen : m.length ≤ 6 := by simp at hl; omega
    have hc : m.length * (2 * w + 2) ≤ 6 * (2 * 100 + 2) := Nat.mul_le_mul hlen (by omega)
    obtain ⟨r, d1, e1, rl, rb, hd1⟩ := row_ok (m := 3) hd (w := w) (by omega) (by omega) (by omega) (by omega)
    obtain ⟨p1, p0⟩ := pow6_le _ hlen
    -- the row that is picked from
    have last : ∀ (d2 : List D) (r2 : List Int), r2.length = w → (∀ x ∈ r2, -(3 * 6 ^ m.length) ≤ x ∧ x ≤ 3 * 6 ^ m.length) → Dice (n + m.length * (2 * w + 2) + (2 * w + 1)) d2 → ∃ e2, sAppend 3 (mFnD 0 2 F__law_pick (aCons (mFz (mLst (aCons (mVar 5) (aCons (mVar 5) (aCons (mVar 5) (aCons (mBin gMulA (mTup (aCons (mC (.int 0)) aNil)) (mVar 1)) (aCons (mCall gTuple (aCons (mFz c__law_grid_2) aNil)) aNil))))))) aNil))
        [.ow d2, .va (.int w), .va (.int k), .ow (m.map tupI), .va z, .va (tupI r2), .un, .un] = .nx e2 ∧ P ds e2 := fun d2 r2 l2 b2 hd2 => by
      have tw := twice_ok (env := [.ow d2, .va (.int w), .va (.int k), .ow (m.map tupI), .va z, .va (tupI r2), .un, .un]) (r := r2) (b := 3 * 6 ^ m.length) rfl (by simp) (by omega) (by omega) b2
      obtain ⟨v, d3, e3, hv, hd3⟩ := pick_ok (l := [tupI r2, tupI r2, tupI r2, .tup (List.replicate w (.int 0)), tupI (r2.map fun x => 2 * x)]) hd2 (by simp) (by simp [big_eq]) (by omega)
      obtain ⟨r3, rfl, l3, b3⟩ : ∃ r3 : List Int, v = tupI r3 ∧ r3.length = w ∧ ∀ x ∈ r3, -(6 ^ (m.length + 1)) ≤ x ∧ x ≤ 6 ^ (m.length + 1) := by
        rw [pow6]
        simp only [List.mem_cons, List.not_mem_nil, or_false] at hv
        rcases hv with rfl | rfl | rfl | rfl | rfl
        · exact ⟨_, rfl, l2, fun x hx => by have := b2 x hx; omega⟩
        · exact ⟨_, rfl, l2, fun x hx => by have := b2 x hx; omega⟩
        · exact ⟨_, rfl, l2, fun x hx => by have := b2 x hx; omega⟩
        · exact ⟨List.replicate w 0, by simp, by simp, fun x hx => by rw [(List.mem_replicate.1 hx).2]; omega⟩
        · exact ⟨_, rfl, by simp [l2], fun x hx => by
            obtain ⟨y, hy, rfl⟩ := List.mem_map.1 hx
            have := b2 y hy
            omega⟩
      refine ⟨_, ?_, d3, m ++ [r3], .va z, .va (tupI r2), rfl, ?_, ⟨?_, ?_⟩, ?_⟩
      · have w1 : ¬ (w : Int) = 0 := by omega
        have w2 : (1 : Int) ≤ w := by omega
        have w3 : (w : Int) ≤ 1000 := by omega
        have w4 : m.length < 1000000 := by omega
        simp [ent, entD, runF, runD, runO, oSeq, sRetO, sSeq, sNil, sSet, sSetO, sRet, sRetN, sIf, sDrop, sBreak, sCont, sAppend, sExtend, sSetIx, sAug, sPar, sAsg, sRaise, mVar, mVarZ, mC, mBin, mT, mTAnd, mTOr, mTNot, mAnd, mOr, mNot, mIf, aNil, aCons, newTup, mTup, mFz, newLst, mLst, mCall, mIxO, mLenO, oNone, oSome, mSl, mBinL, mIsi, mFn, mFnK, mFnD, mFnDO, mUn, mItems, mItC, mYes, asB, R.bind, R.go, R.of, R.noBad, FR.to, FRD.to, tgN, tgsN, tgsC, tgT, gI, gIx, gLen, gAbs, gMax2, gMin2, gMin3, gInt, gTuple, gList, gSl, gSlL, gNeg, isT, gIsN, gNotN, gAddA, gMulA, gZip, List.map_cons, List.map_nil, List.length_cons, List.length_nil, List.replicate, List.append_eq, List.cons_append, List.nil_append, List.getElem?_cons_zero, List.getElem?_cons_succ, List.set_cons_zero, List.set_cons_succ, Option.map_some, Option.bind_some, Nat.reduceAdd, Nat.reduceSub, Nat.reduceLT, Nat.reduceLeDiff, Nat.reduceEqDiff, Int.reduceToNat, if_true, if_false, Bool.not_true, Bool.not_false, Bool.false_eq_true, List.length_append, Nat.zero_add, String.reduceEq, or_true, true_or, or_false, false_or, and_true, true_and, Nat.add_zero, Int.reduceLT, Int.reduceLE, decide_true, decide_false, decide_eq_true_eq, Int.reduceAdd, Int.reduceSub, Int.reduceMul, Int.reduceNeg, gRepT, big, tw, w1, w2, w3, w4, rep_zero, e3, -List.map_map, -List.map_replicate]
      · simp at hl ⊢; omega
      · intro r hr2
        rcases List.mem_append.1 hr2 with h | h
        · exact hr.len r h
        · rw [List.mem_singleton.1 h]; exact l3
      · intro r hr2 x hx
        rw [List.length_append, List.length_singleton, pow6]
        rcases List.mem_append.1 hr2 with h | h
        · have := hr.le r h x hx; omega
        · rw [List.mem_singleton.1 h] at hx
          have := b3 x hx
          rw [pow6] at this
          omega
      · refine hd3.mono ?_
        rw [List.length_append, List.length_singleton, Nat.add_mul]
        omega
    by_cases hm : 1 < m.length
    · obtain ⟨v, d2, e2, v0, v1, hd2⟩ := roll_ok (m := 4) hd1 (by omega) (by omega) (by omega)
      have hm2 : (1 : Int) < m.length := by omega
      by_cases hv : v = 0
      · have hne : m.map tupI ≠ [] := by
          intro e
          rw [List.map_eq_nil_iff] at e
          subst e
          simp at hm
        obtain ⟨fst, ef, hfm⟩ := atI_first hne
        obtain ⟨r0, hr0, rfl⟩ := List.mem_map.1 hfm
        obtain ⟨lst, el, hlm⟩ := atI_last hne
        obtain ⟨r1, hr1, rfl⟩ := List.mem_map.1 hlm
        obtain ⟨r2, d3, e3, l2, b2, hd3⟩ := mix_ok (n := n + m.length * (2 * w + 2) + w + 1) (b := 6 ^ m.length) (G := m.map tupI) (r0 := r0) (r1 := r1) (x1 := .va (.int w)) (x2 := .va (.int k)) (x4 := .va z) (x5 := .va (tupI r)) (x6 := .un) (x7 := .un)
          hd2 ef el (hr.le r0 hr0) (hr.le r1 hr1) (by rw [hr.len r0 hr0]; omega) (by rw [hr.len r0 hr0, hr.len r1 hr1]) (by omega) (by omega)
        rw [hr.len r0 hr0] at l2 hd3
        obtain ⟨e4, h4, h5⟩ := last d3 r2 l2 b2 (hd3.mono (by omega))
        refine ⟨_, e4, rfl, ?_, h5⟩
        rw [← h4]
        simp [l__law_grid_1, ent, entD, runF, runD, runO, oSeq, sRetO, sSeq, sNil, sSet, sSetO, sRet, sRetN, sIf, sDrop, sBreak, sCont, sAppend, sExtend, sSetIx, sAug, sPar, sAsg, sRaise, mVar, mVarZ, mC, mBin, mT, mTAnd, mTOr, mTNot, mAnd, mOr, mNot, mIf, aNil, aCons, newTup, mTup, mFz, newLst, mLst, mCall, mIxO, mLenO, oNone, oSome, mSl, mBinL, mIsi, mFn, mFnK, mFnD, mFnDO, mUn, mItems, mItC, mYes, asB, R.bind, R.go, R.of, R.noBad, FR.to, FRD.to, tgN, tgsN, tgsC, tgT, gI, gIx, gLen, gAbs, gMax2, gMin2, gMin3, gInt, gTuple, gList, gSl, gSlL, gNeg, isT, gIsN, gNotN, gAddA, gMulA, gZip, List.map_cons, List.map_nil, List.length_cons, List.length_nil, List.replicate, List.append_eq, List.cons_append, List.nil_append, List.getElem?_cons_zero, List.getElem?_cons_succ, List.set_cons_zero, List.set_cons_succ, Option.map_some, Option.bind_some, Nat.reduceAdd, Nat.reduceSub, Nat.reduceLT, Nat.reduceLeDiff, Nat.reduceEqDiff, Int.reduceToNat, if_true, if_false, Bool.not_true, Bool.not_false, Bool.false_eq_true, List.length_append, Nat.zero_add, String.reduceEq, or_true, true_or, or_false, false_or, and_true, true_and, Nat.add_zero, Int.reduceLT, Int.reduceLE, decide_true, decide_false, decide_eq_true_eq, Int.reduceAdd, Int.reduceSub, Int.reduceMul, Int.reduceNeg, e1, hm2, hv, e2, e3, eqI]
      · obtain ⟨e4, h4, h5⟩ := last d2 r rl (fun x hx => by have := rb x hx; omega) (hd2.mono (by omega))
        refine ⟨_, e4, rfl, ?_, h5⟩
        rw [← h4]
        simp [l__law_grid_1, ent, entD, runF, runD, runO, oSeq, sRetO, sSeq, sNil, sSet, sSetO, sRet, sRetN, sIf, sDrop, sBreak, sCont, sAppend, sExtend, sSetIx, sAug, sPar, sAsg, sRaise, mVar, mVarZ, mC, mBin, mT, mTAnd, mTOr, mTNot, mAnd, mOr, mNot, mIf, aNil, aCons, newTup, mTup, mFz, newLst, mLst, mCall, mIxO, mLenO, oNone, oSome, mSl, mBinL, mIsi, mFn, mFnK, mFnD, mFnDO, mUn, mItems, mItC, mYes, asB, R.bind, R.go, R.of, R.noBad, FR.to, FRD.to, tgN, tgsN, tgsC, tgT, gI, gIx, gLen, gAbs, gMax2, gMin2, gMin3, gInt, gTuple, gList, gSl, gSlL, gNeg, isT, gIsN, gNotN, gAddA, gMulA, gZip, List.map_cons, List.map_nil, List.length_cons, List.length_nil, List.replicate, List.append_eq, List.cons_append, List.nil_append, List.getElem?_cons_zero, List.getElem?_cons_succ, List.set_cons_zero, List.set_cons_succ, Option.map_some, Option.bind_some, Nat.reduceAdd, Nat.reduceSub, Nat.reduceLT, Nat.reduceLeDiff, Nat.reduceEqDiff, Int.reduceToNat, if_true, if_false, Bool.not_true, Bool.not_false, Bool.false_eq_true, List.length_append, Nat.zero_add, String.reduceEq, or_true, true_or, or_false, false_or, and_true, true_and, Nat.add_zero, Int.reduceLT, Int.reduceLE, decide_true, decide_false, decide_eq_true_eq, Int.reduceAdd, Int.reduceSub, Int.reduceMul, Int.reduceNeg, e1, hm2, hv, e2, eqI]
    · have hm2 : ¬ (1 : Int) < m.length := by omega
      obtain ⟨e4, h4, h5⟩ := last d1 r rl (fun x hx => by have := rb x hx; omega) (hd1.mono (by omega))
      refine ⟨_, e4, rfl, ?_, h5⟩
      rw [← h4]
      simp [l__law_grid_1, ent, entD, runF, runD, runO, oSeq, sRetO, sSeq, sNil, sSet, sSetO, sRet, sRetN, sIf, sDrop, sBreak, sCont, sAppend, sExtend, sSetIx, sAug, sPar, sAsg, sRaise, mVar, mVarZ, mC, mBin, mT, mTAnd, mTOr, mTNot, mAnd, mOr, mNot, mIf, aNil, aCons, newTup, mTup, mFz, newLst, mLst, mCall, mIxO, mLenO, oNone, oSome, mSl, mBinL, mIsi, mFn, mFnK, mFnD, mFnDO, mUn, mItems, mItC, mYes, asB, R.bind, R.go, R.of, R.noBad, FR.to, FRD.to, tgN, tgsN, tgsC, tgT, gI, gIx, gLen, gAbs, gMax2, gMin2, gMin3, gInt, gTuple, gList, gSl, gSlL, gNeg, isT, gIsN, gNotN, gAddA, gMulA, gZip, List.map_cons, List.map_nil, List.length_cons, List.length_nil, List.replicate, List.append_eq, List.cons_append, List.nil_append, List.getElem?_cons_zero, List.getElem?_cons_succ, List.set_cons_zero, List.set_cons_succ, Option.map_some, Option.bind_some, Nat.reduceAdd, Nat.reduceSub, Nat.reduceLT, Nat.reduceLeDiff, Nat.reduceEqDiff, Int.reduceToNat, if_true, if_false, Bool.not_true, Bool.not_false, Bool.false_eq_true, List.length_append, Nat.zero_add, String.reduceEq, or_true, true_or, or_false, false_or, and_true, true_and, Nat.add_zero, Int.reduceLT, Int.reduceLE, decide_true, decide_false, decide_eq_true_eq, Int.reduceAdd, Int.reduceSub, Int.reduceMul, Int.reduceNeg, e1, hm2])
  obtain ⟨e, h1, d', m, x4, x5, rfl, hl, hr, hd'⟩ := step (rngD 0 k) [.ow d, .va (.int w), .va (.int k), .ow [], .un, .un, .un, .un] ⟨d, [], .un, .un, rfl, by simp [rng_len], ⟨by simp, by simp⟩, by simpa using hd⟩
  have hl : m.length = k := by simpa using hl
  refine ⟨m, d', ?_, hl, by rw [← hl]; exact hr, by rw [← hl]; exact hd'⟩
  have q : (-1000000 ≤ (k : Int) ∧ (k : Int) ≤ 1000000) := by omega
  simp [F__law_grid, m__law_grid, ent, entD, runF, runD, runO, oSeq, sRetO, sSeq, sNil, sSet, sSetO, sRet, sRetN, sIf, sDrop, sBreak, sCont, sAppend, sExtend, sSetIx, sAug, sPar, sAsg, sRaise, mVar, mVarZ, mC, mBin, mT, mTAnd, mTOr, mTNot, mAnd, mOr, mNot, mIf, aNil, aCons, newTup, mTup, mFz, newLst, mLst, mCall, mIxO, mLenO, oNone, oSome, mSl, mBinL, mIsi, mFn, mFnK, mFnD, mFnDO, mUn, mItems, mItC, mYes, asB, R.bind, R.go, R.of, R.noBad, FR.to, FRD.to, tgN, tgsN, tgsC, tgT, gI, gIx, gLen, gAbs, gMax2, gMin2, gMin3, gInt, gTuple, gList, gSl, gSlL, gNeg, isT, gIsN, gNotN, gAddA, gMulA, gZip, List.map_cons, List.map_nil, List.length_cons, List.length_nil, List.replicate, List.append_eq, List.cons_append, List.nil_append, List.getElem?_cons_zero, List.getElem?_cons_succ, List.set_cons_zero, List.set_cons_succ, Option.map_some, Option.bind_some, Nat.reduceAdd, Nat.reduceSub, Nat.reduceLT, Nat.reduceLeDiff, Nat.reduceEqDiff, Int.reduceToNat, if_true, if_false, Bool.not_true, Bool.not_false, Bool.false_eq_true, List.length_append, Nat.zero_add, String.reduceEq, or_true, true_or, or_false, false_or, and_true, true_and, Nat.add_zero, Int.reduceLT, Int.reduceLE, decide_true, decide_false, decide_eq_true_eq, Int.reduceAdd, Int.reduceSub, Int.reduceMul, Int.reduceNeg, sFor, rng1 (n := k) (by omega), h1, big_eq]
end Y

set_option Elab.async false
set_option linter.all false
set_option maxRecDepth 100000
set_option maxHeartbeats 4000000
namespace Y
open PySem PySem.Spec PyProof.Rows L2
/-- numbers of so many bits -/
abbrev Bd (k : Nat) (x : Int) : Prop := x.natAbs < 2 ^ k
theorem Bd.mono {j k : Nat} {x : Int} (h : Bd j x) (hk : j ≤ k) : Bd k x := Nat.lt_of_lt_of_le h (Nat.pow_le_pow_right (by decide) hk)
theorem Bd.mul {j k : Nat} {x y : Int} (h : Bd j x) (h2 : Bd k y) : Bd (j + k) (x * y) := by
  unfold Bd
  rw [Int.natAbs_mul, Nat.pow_add]
  exact Nat.mul_lt_mul'' h h2
theorem Bd.neg {k : Nat} {x : Int} (h : Bd k x) : Bd k (-x) := by
  unfold Bd
  rw [Int.natAbs_neg]
  exact h
theorem Bd.add {k : Nat} {x y : Int} (h : Bd k x) (h2 : Bd k y) : Bd (k + 1) (x + y) := by
  unfold Bd at h h2 ⊢
  rw [Nat.pow_succ]
  have := Int.natAbs_add_le x y
  omega
theorem Bd.sub {k : Nat} {x y : Int} (h : Bd k x) (h2 : Bd k y) : Bd (k + 1) (x - y) := by
  rw [Int.sub_eq_add_neg]
  exact h.add h2.neg
theorem Bd.one : Bd 1 1 := by decide
theorem Bd.ok {j k : Nat} {x y : Int} (h : Bd j x) (h2 : Bd k y) (hj : j ≤ 400) (hk : k ≤ 400) : okMul x y = true := okMul_small (h.mono hj) (h2.mono hk)
theorem det0 (n : Nat) : F__law_det (n + 1) [.lst []] = .ok (.int 1) := by
  simp [F__law_det, m__law_det, ent, entD, runF, runD, runO, oSeq, sRetO, sSeq, sNil, sSet, sSetO, sRet, sRetN, sIf, sDrop, sBreak, sCont, sAppend, sExtend, sSetIx, sAug, sPar, sAsg, sRaise, mVar, mVarZ, mC, mBin, mT, mTAnd, mTOr, mTNot, mAnd, mOr, mNot, mIf, aNil, aCons, newTup, mTup, mFz, newLst, mLst, mCall, mIxO, mLenO, oNone, oSome, mSl, mBinL, mIsi, mFn, mFnK, mFnD, mFnDO, mUn, mItems, mItC, mYes, asB, R.bind, R.go, R.of, R.noBad, FR.to, FRD.to, tgN, tgsN, tgsC, tgT, gI, gIx, gLen, gAbs, gMax2, gMin2, gMin3, gInt, gTuple, gList, gSl, gSlL, gNeg, isT, gIsN, gNotN, gAddA, gMulA, gZip, List.map_cons, List.map_nil, List.length_cons, List.length_nil, List.replicate, List.append_eq, List.cons_append, List.nil_append, List.getElem?_cons_zero, List.getElem?_cons_succ, List.set_cons_zero, List.set_cons_succ, Option.map_some, Option.bind_some, Nat.reduceAdd, Nat.reduceSub, Nat.reduceLT, Nat.reduceLeDiff, Nat.reduceEqDiff, Int.reduceToNat, if_true, if_false, Bool.not_true, Bool.not_false, Bool.false_eq_true, List.length_append, Nat.zero_add, String.reduceEq, or_true, true_or, or_false, false_or, and_true, true_and, Nat.add_zero, Int.reduceLT, Int.reduceLE, decide_true, decide_false, decide_eq_true_eq, Int.reduceAdd, Int.reduceSub, Int.reduceMul, Int.reduceNeg, eqI]
theorem det1 (n : Nat) (a : Int) (ha : Bd 30 a) : F__law_det (n + 2) [.lst [.tup [.int a]]] = .ok (.int a) := by
  have q1 : okMul 1 a = true := Bd.one.ok ha (by decide) (by decide)
  have q2 : okMul a 1 = true := ha.ok Bd.one (by decide) (by decide)
  rw [F__law_det]
  simp [m__law_det, l__law_det_1, c__law_det_1, ent, entD, runF, runD, runO, oSeq, sRetO, sSeq, sNil, sSet, sSetO, sRet, sRetN, sIf, sDrop, sBreak, sCont, sAppend, sExtend, sSetIx, sAug, sPar, sAsg, sRaise, mVar, mVarZ, mC, mBin, mT, mTAnd, mTOr, mTNot, mAnd, mOr, mNot, mIf, aNil, aCons, newTup, mTup, mFz, newLst, mLst, mCall, mIxO, mLenO, oNone, oSome, mSl, mBinL, mIsi, mFn, mFnK, mFnD, mFnDO, mUn, mItems, mItC, mYes, asB, R.bind, R.go, R.of, R.noBad, FR.to, FRD.to, tgN, tgsN, tgsC, tgT, gI, gIx, gLen, gAbs, gMax2, gMin2, gMin3, gInt, gTuple, gList, gSl, gSlL, gNeg, isT, gIsN, gNotN, gAddA, gMulA, gZip, List.map_cons, List.map_nil, List.length_cons, List.length_nil, List.replicate, List.append_eq, List.cons_append, List.nil_append, List.getElem?_cons_zero, List.getElem?_cons_succ, List.set_cons_zero, List.set_cons_succ, Option.map_some, Option.bind_some, Nat.reduceAdd, Nat.reduceSub, Nat.reduceLT, Nat.reduceLeDiff, Nat.reduceEqDiff, Int.reduceToNat, if_true, if_false, Bool.not_true, Bool.not_false, Bool.false_eq_true, List.length_append, Nat.zero_add, String.reduceEq, or_true, true_or, or_false, false_or, and_true, true_and, Nat.add_zero, Int.reduceLT, Int.reduceLE, decide_true, decide_false, decide_eq_true_eq, Int.reduceAdd, Int.reduceSub, Int.reduceMul, Int.reduceNeg, gRng1, gRng2, eqI, sFor, forL, mLc, compL, wipeE, restE, rngD, cutD, HT.sIx, List.range, List.range.loop, big_eq, atI, ixN, det0, q1, q2, gMod]
/-- what a determinant of few rows is -/
def det : List (List Int) → Int
  | [] => 1
  | [[a]] => a
  | [[a, b], [c, d]] => a * d - b * c
  | [[a, b, c], [d, e, f], [g, h, i]] => a * (e * i - f * h) - b * (d * i - f * g) + c * (d * h - e * g)
  | _ => 0
abbrev lstM (m : List (List Int)) : D := .lst (m.map tupI)
theorem det2 (n : Nat) (a b c d : Int) (ha : Bd 30 a) (hb : Bd 30 b) (hc : Bd 30 c) (hd : Bd 30 d) : F__law_det (n + 3) [.lst [.tup [.int a, .int b], .tup [.int c, .int d]]] = .ok (.int (a * d - b * c)) := by
  have q1 : okMul 1 a = true := Bd.one.ok ha (by decide) (by decide)
  have q2 : okMul a d = true := ha.ok hd (by decide) (by decide)
  have q3 : okMul (-1) b = true := Bd.one.neg.ok hb (by decide) (by decide)
  have q4 : okMul (-b) c = true := hb.neg.ok hc (by decide) (by decide)
  rw [F__law_det]
  simp [m__law_det, l__law_det_1, c__law_det_1, ent, entD, runF, runD, runO, oSeq, sRetO, sSeq, sNil, sSet, sSetO, sRet, sRetN, sIf, sDrop, sBreak, sCont, sAppend, sExtend, sSetIx, sAug, sPar, sAsg, sRaise, mVar, mVarZ, mC, mBin, mT, mTAnd, mTOr, mTNot, mAnd, mOr, mNot, mIf, aNil, aCons, newTup, mTup, mFz, newLst, mLst, mCall, mIxO, mLenO, oNone, oSome, mSl, mBinL, mIsi, mFn, mFnK, mFnD, mFnDO, mUn, mItems, mItC, mYes, asB, R.bind, R.go, R.of, R.noBad, FR.to, FRD.to, tgN, tgsN, tgsC, tgT, gI, gIx, gLen, gAbs, gMax2, gMin2, gMin3, gInt, gTuple, gList, gSl, gSlL, gNeg, isT, gIsN, gNotN, gAddA, gMulA, gZip, List.map_cons, List.map_nil, List.length_cons, List.length_nil, List.replicate, List.append_eq, List.cons_append, List.nil_append, List.getElem?_cons_zero, List.getElem?_cons_succ, List.set_cons_zero, List.set_cons_succ, Option.map_some, Option.bind_some, Nat.reduceAdd, Nat.reduceSub, Nat.reduceLT, Nat.reduceLeDiff, Nat.reduceEqDiff, Int.reduceToNat, if_true, if_false, Bool.not_true, Bool.not_false, Bool.false_eq_true, List.length_append, Nat.zero_add, String.reduceEq, or_true, true_or, or_false, false_or, and_true, true_and, Nat.add_zero, Int.reduceLT, Int.reduceLE, decide_true, decide_false, decide_eq_true_eq, Int.reduceAdd, Int.reduceSub, Int.reduceMul, Int.reduceNeg, gRng1, gRng2, eqI, sFor, forL, mLc, compL, wipeE, restE, rngD, cutD, HT.sIx, List.range, List.range.loop, big_eq, atI, ixN, gMod, det1, hc, hd, q1, q2, q3, q4]
  grind
theorem det3 (n : Nat) (a b c d e f g h i : Int) (ha : Bd 30 a) (hb : Bd 30 b) (hc : Bd 30 c) (hd : Bd 30 d) (he : Bd 30 e) (hf : Bd 30 f) (hg : Bd 30 g) (hh : Bd 30 h) (hi : Bd 30 i) :
    F__law_det (n + 4) [.lst [.tup [.int a, .int b, .int c], .tup [.int d, .int e, .int f], .tup [.int g, .int h, .int i]]] = .ok (.int (a * (e * i - f * h) - b * (d * i - f * g) + c * (d * h - e * g))) := by
  have q1 : okMul 1 a = true := Bd.one.ok ha (by decide) (by decide)
  have q2 : okMul a (e * i - f * h) = true := ha.ok ((he.mul hi).sub (hf.mul hh)) (by decide) (by decide)
  have q3 : okMul (-1) b = true := Bd.one.neg.ok hb (by decide) (by decide)
  have q4 : okMul (-b) (d * i - f * g) = true := hb.neg.ok ((hd.mul hi).sub (hf.mul hg)) (by decide) (by decide)
  have q5 : okMul 1 c = true := Bd.one.ok hc (by decide) (by decide)
  have q6 : okMul c (d * h - e * g) = true := hc.ok ((hd.mul hh).sub (he.mul hg)) (by decide) (by decide)
  rw [F__law_det]
  simp [m__law_det, l__law_det_1, c__law_det_1, ent, entD, runF, runD, runO, oSeq, sRetO, sSeq, sNil, sSet, sSetO, sRet, sRetN, sIf, sDrop, sBreak, sCont, sAppend, sExtend, sSetIx, sAug, sPar, sAsg, sRaise, mVar, mVarZ, mC, mBin, mT, mTAnd, mTOr, mTNot, mAnd, mOr, mNot, mIf, aNil, aCons, newTup, mTup, mFz, newLst, mLst, mCall, mIxO, mLenO, oNone, oSome, mSl, mBinL, mIsi, mFn, mFnK, mFnD, mFnDO, mUn, mItems, mItC, mYes, asB, R.bind, R.go, R.of, R.noBad, FR.to, FRD.to, tgN, tgsN, tgsC, tgT, gI, gIx, gLen, gAbs, gMax2, gMin2, gMin3, gInt, gTuple, gList, gSl, gSlL, gNeg, isT, gIsN, gNotN, gAddA, gMulA, gZip, List.map_cons, List.map_nil, List.length_cons, List.length_nil, List.replicate, List.append_eq, List.cons_append, List.nil_append, List.getElem?_cons_zero, List.getElem?_cons_succ, List.set_cons_zero, List.set_cons_succ, Option.map_some, Option.bind_some, Nat.reduceAdd, Nat.reduceSub, Nat.reduceLT, Nat.reduceLeDiff, Nat.reduceEqDiff, Int.reduceToNat, if_true, if_false, Bool.not_true, Bool.not_false, Bool.false_eq_true, List.length_append, Nat.zero_add, String.reduceEq, or_true, true_or, or_false, false_or, and_true, true_and, Nat.add_zero, Int.reduceLT, Int.reduceLE, decide_true, decide_false, decide_eq_true_eq, Int.reduceAdd, Int.reduceSub, Int.reduceMul, Int.reduceNeg, gRng1, gRng2, eqI, sFor, forL, mLc, compL, wipeE, restE, rngD, cutD, HT.sIx, List.range, List.range.loop, big_eq, atI, ixN, gMod, det2, hd, he, hf, hg, hh, hi, q1, q2, q3, q4, q5, q6]
  grind
theorem dett1 (n : Nat) (a : Int) (ha : Bd 30 a) : F__law_det (n + 2) [.tup [.tup [.int a]]] = .ok (.int a) := by
  have q1 : okMul 1 a = true := Bd.one.ok ha (by decide) (by decide)
  have q2 : okMul a 1 = true := ha.ok Bd.one (by decide) (by decide)
  rw [F__law_det]
  simp [m__law_det, l__law_det_1, c__law_det_1, ent, entD, runF, runD, runO, oSeq, sRetO, sSeq, sNil, sSet, sSetO, sRet, sRetN, sIf, sDrop, sBreak, sCont, sAppend, sExtend, sSetIx, sAug, sPar, sAsg, sRaise, mVar, mVarZ, mC, mBin, mT, mTAnd, mTOr, mTNot, mAnd, mOr, mNot, mIf, aNil, aCons, newTup, mTup, mFz, newLst, mLst, mCall, mIxO, mLenO, oNone, oSome, mSl, mBinL, mIsi, mFn, mFnK, mFnD, mFnDO, mUn, mItems, mItC, mYes, asB, R.bind, R.go, R.of, R.noBad, FR.to, FRD.to, tgN, tgsN, tgsC, tgT, gI, gIx, gLen, gAbs, gMax2, gMin2, gMin3, gInt, gTuple, gList, gSl, gSlL, gNeg, isT, gIsN, gNotN, gAddA, gMulA, gZip, List.map_cons, List.map_nil, List.length_cons, List.length_nil, List.replicate, List.append_eq, List.cons_append, List.nil_append, List.getElem?_cons_zero, List.getElem?_cons_succ, List.set_cons_zero, List.set_cons_succ, Option.map_some, Option.bind_some, Nat.reduceAdd, Nat.reduceSub, Nat.reduceLT, Nat.reduceLeDiff, Nat.reduceEqDiff, Int.reduceToNat, if_true, if_false, Bool.not_true, Bool.not_false, Bool.false_eq_true, List.length_append, Nat.zero_add, String.reduceEq, or_true, true_or, or_false, false_or, and_true, true_and, Nat.add_zero, Int.reduceLT, Int.reduceLE, decide_true, decide_false, decide_eq_true_eq, Int.reduceAdd, Int.reduceSub, Int.reduceMul, Int.reduceNeg, gRng1, gRng2, eqI, sFor, forL, mLc, compL, wipeE, restE, rngD, cutD, HT.sIx, List.range, List.range.loop, big_eq, atI, ixN, gMod, det0, q1, q2]
theorem dett2 (n : Nat) (a b c d : Int) (ha : Bd 30 a) (hb : Bd 30 b) (hc : Bd 30 c) (hd : Bd 30 d) : F__law_det (n + 3) [.tup [.tup [.int a, .int b], .tup [.int c, .int d]]] = .ok (.int (a * d - b * c)) := by
  have q1 : okMul 1 a = true := Bd.one.ok ha (by decide) (by decide)
  have q2 : okMul a d = true := ha.ok hd (by decide) (by decide)
  have q3 : okMul (-1) b = true := Bd.one.neg.ok hb (by decide) (by decide)
  have q4 : okMul (-b) c = true := hb.neg.ok hc (by decide) (by decide)
  rw [F__law_det]
  simp [m__law_det, l__law_det_1, c__law_det_1, ent, entD, runF, runD, runO, oSeq, sRetO, sSeq, sNil, sSet, sSetO, sRet, sRetN, sIf, sDrop, sBreak, sCont, sAppend, sExtend, sSetIx, sAug, sPar, sAsg, sRaise, mVar, mVarZ, mC, mBin, mT, mTAnd, mTOr, mTNot, mAnd, mOr, mNot, mIf, aNil, aCons, newTup, mTup, mFz, newLst, mLst, mCall, mIxO, mLenO, oNone, oSome, mSl, mBinL, mIsi, mFn, mFnK, mFnD, mFnDO, mUn, mItems, mItC, mYes, asB, R.bind, R.go, R.of, R.noBad, FR.to, FRD.to, tgN, tgsN, tgsC, tgT, gI, gIx, gLen, gAbs, gMax2, gMin2, gMin3, gInt, gTuple, gList, gSl, gSlL, gNeg, isT, gIsN, gNotN, gAddA, gMulA, gZip, List.map_cons, List.map_nil, List.length_cons, List.length_nil, List.replicate, List.append_eq, List.cons_append, List.nil_append, List.getElem?_cons_zero, List.getElem?_cons_succ, List.set_cons_zero, List.set_cons_succ, Option.map_some, Option.bind_some, Nat.reduceAdd, Nat.reduceSub, Nat.reduceLT, Nat.reduceLeDiff, Nat.reduceEqDiff, Int.reduceToNat, if_true, if_false, Bool.not_true, Bool.not_false, Bool.false_eq_true, List.length_append, Nat.zero_add, String.reduceEq, or_true, true_or, or_false, false_or, and_true, true_and, Nat.add_zero, Int.reduceLT, Int.reduceLE, decide_true, decide_false, decide_eq_true_eq, Int.reduceAdd, Int.reduceSub, Int.reduceMul, Int.reduceNeg, gRng1, gRng2, eqI, sFor, forL, mLc, compL, wipeE, restE, rngD, cutD, HT.sIx, List.range, List.range.loop, big_eq, atI, ixN, gMod, det1, hc, hd, q1, q2, q3, q4]
  grind
theorem dett3 (n : Nat) (a b c d e f g h i : Int) (ha : Bd 30 a) (hb : Bd 30 b) (hc : Bd 30 c) (hd : Bd 30 d) (he : Bd 30 e) (hf : Bd 30 f) (hg : Bd 30 g) (hh : Bd 30 h) (hi : Bd 30 i) :
    F__law_det (n + 4) [.tup [.tup [.int a, .int b, .int c], .tup [.int d, .int e, .int f], .tup [.int g, .int h, .int i]]] = .ok (.int (a * (e * i - f * h) - b * (d * i - f * g) + c * (d * h - e * g))) := by
  have q1 : okMul 1 a = true := Bd.one.ok ha (by decide) (by decide)
  have q2 : okMul a (e * i - f * h) = true := ha.ok ((he.mul hi).sub (hf.mul hh)) (by decide) (by decide)
  have q3 : okMul (-1) b = true := Bd.one.neg.ok hb (by decide) (by decide)
  have q4 : okMul (-b) (d * i - f * g) = true := hb.neg.ok ((hd.mul hi).sub (hf.mul hg)) (by decide) (by decide)
  have q5 : okMul 1 c = true := Bd.one.ok hc (by decide) (by decide)
  have q6 : okMul c (d * h - e * g) = true := hc.ok ((hd.mul hh).sub (he.mul hg)) (by decide) (by decide)
  rw [F__law_det]
  simp [m__law_det, l__law_det_1, c__law_det_1, ent, entD, runF, runD, runO, oSeq, sRetO, sSeq, sNil, sSet, sSetO, sRet, sRetN, sIf, sDrop, sBreak, sCont, sAppend, sExtend, sSetIx, sAug, sPar, sAsg, sRaise, mVar, mVarZ, mC, mBin, mT, mTAnd, mTOr, mTNot, mAnd, mOr, mNot, mIf, aNil, aCons, newTup, mTup, mFz, newLst, mLst, mCall, mIxO, mLenO, oNone, oSome, mSl, mBinL, mIsi, mFn, mFnK, mFnD, mFnDO, mUn, mItems, mItC, mYes, asB, R.bind, R.go, R.of, R.noBad, FR.to, FRD.to, tgN, tgsN, tgsC, tgT, gI, gIx, gLen, gAbs, gMax2, gMin2, gMin3, gInt, gTuple, gList, gSl, gSlL, gNeg, isT, gIsN, gNotN, gAddA, gMulA, gZip, List.map_cons, List.map_nil, List.length_cons, List.length_nil, List.replicate, List.append_eq, List.cons_append, List.nil_append, List.getElem?_cons_zero, List.getElem?_cons_succ, List.set_cons_zero, List.set_cons_succ, Option.map_some, Option.bind_some, Nat.reduceAdd, Nat.reduceSub, Nat.reduceLT, Nat.reduceLeDiff, Nat.reduceEqDiff, Int.reduceToNat, if_true, if_false, Bool.not_true, Bool.not_false, Bool.false_eq_true, List.length_append, Nat.zero_add, String.reduceEq, or_true, true_or, or_false, false_or, and_true, true_and, Nat.add_zero, Int.reduceLT, Int.reduceLE, decide_true, decide_false, decide_eq_true_eq, Int.reduceAdd, Int.reduceSub, Int.reduceMul, Int.reduceNeg, gRng1, gRng2, eqI, sFor, forL, mLc, compL, wipeE, restE, rngD, cutD, HT.sIx, List.range, List.range.loop, big_eq, atI, ixN, gMod, det2, hd, he, hf, hg, hh, hi, q1, q2, q3, q4, q5, q6]
  grind

end Y

set_option Elab.async false
set_option linter.all false
set_option maxRecDepth 100000
set_option maxHeartbeats 4000000
namespace Y
open PySem PySem.Spec PyProof.Rows L2
/-! ### determinant: what the program's loops do, as a function on rows -/
def gt (G : List (List Int)) (i j : Nat) : Int := ((G[i]?).getD [])[j]?.getD 0
def pk (G : List (List Int)) (at_ n : Nat) : List Nat := ((List.range (n - at_)).map (at_ + ·)).filter fun own => decide (gt G own at_ ≠ 0)
abbrev lstZ (m : List (List Int)) : List D := m.map fun r => D.lst (zs r)
structure Sq (n : Nat) (G : List (List Int)) : Prop where
  len : G.length = n
  row : ∀ r ∈ G, r.length = n
theorem Sq.get {n : Nat} {G : List (List Int)} (h : Sq n G) {i : Nat} (hi : i < n) : ∃ r, G[i]? = some r ∧ r ∈ G ∧ r.length = n := by
  have : i < G.length := by rw [h.len]; exact hi
  exact ⟨G[i], List.getElem?_eq_getElem this, List.getElem_mem this, h.row _ (List.getElem_mem this)⟩
theorem Sq.gt {n : Nat} {G : List (List Int)} (h : Sq n G) {i j : Nat} (hi : i < n) (hj : j < n) : ∃ r, G[i]? = some r ∧ r[j]? = some (Y.gt G i j) := by
  obtain ⟨r, h1, h2, h3⟩ := h.get hi
  have : j < r.length := by omega
  refine ⟨r, h1, ?_⟩
  unfold Y.gt
  rw [h1]
  simp [List.getElem?_eq_getElem this]
theorem atI_nat {α : Type} {l : List α} {i : Nat} {x : α} (h : l[i]? = some x) : atI l (i : Int) = some x := by
  have hi : i < l.length := by
    rcases Nat.lt_or_ge i l.length with g | g
    · exact g
    · rw [List.getElem?_eq_none_iff.2 g] at h; cases h
  unfold atI ixN
  rw [if_pos (by omega), if_pos (by omega)]
  simpa using h
theorem lstZ_get {G : List (List Int)} {i : Nat} {r : List Int} (h : G[i]? = some r) : atI (lstZ G) (i : Int) = some (.lst (zs r)) := atI_nat (by simp [h])
theorem zs_get {r : List Int} {i : Nat} {x : Int} (h : r[i]? = some x) : atI (zs r) (i : Int) = some (.int x) := atI_nat (by simp [h])
theorem picks_ok {n at_ : Nat} {G : List (List Int)} (hs : Sq n G) (ha : at_ < n) (hn : n ≤ 1000) {x0 x2 x3 x5 x6 x7 x8 x9 x10 x11 : Sl} :
    c_determinant_2 [x0, .ow (lstZ G), x2, x3, .va (.int at_), x5, x6, x7, x8, x9, x10, x11] = .ok ((pk G at_ n).map fun i : Nat => .int i) [x0, .ow (lstZ G), x2, x3, .va (.int at_), x5, x6, x7, x8, x9, x10, x11] := by
  unfold c_determinant_2
  have e : ((n : Int) - (at_ : Int)).toNat = n - at_ := by omega
  have q : -1000000 ≤ (at_ : Int) ∧ (at_ : Int) ≤ 1000000 ∧ -1000000 ≤ (n : Int) ∧ (n : Int) ≤ 1000000 := by omega
  rw [mLc_if (p := fun d => match d with | .int i => decide (gt G i.toNat at_ ≠ 0) | _ => false) (f := fun d => d) (ds := rngD at_ (n - at_))]
  · congr 1
    unfold pk rngD
    rw [List.map_id', List.filter_map, List.filter_map, List.map_map]
    congr 1
  · simp [ent, entD, runF, runD, runO, oSeq, sRetO, sSeq, sNil, sSet, sSetO, sRet, sRetN, sIf, sDrop, sBreak, sCont, sAppend, sExtend, sSetIx, sAug, sPar, sAsg, sRaise, mVar, mVarZ, mC, mBin, mT, mTAnd, mTOr, mTNot, mAnd, mOr, mNot, mIf, aNil, aCons, newTup, mTup, mFz, newLst, mLst, mCall, mIxO, mLenO, oNone, oSome, mSl, mBinL, mIsi, mFn, mFnK, mFnD, mFnDO, mUn, mItems, mItC, mYes, asB, R.bind, R.go, R.of, R.noBad, FR.to, FRD.to, tgN, tgsN, tgsC, tgT, gI, gIx, gLen, gAbs, gMax2, gMin2, gMin3, gInt, gTuple, gList, gSl, gSlL, gNeg, isT, gIsN, gNotN, gAddA, gMulA, gZip, List.map_cons, List.map_nil, List.length_cons, List.length_nil, List.replicate, List.append_eq, List.cons_append, List.nil_append, List.getElem?_cons_zero, List.getElem?_cons_succ, List.set_cons_zero, List.set_cons_succ, Option.map_some, Option.bind_some, Nat.reduceAdd, Nat.reduceSub, Nat.reduceLT, Nat.reduceLeDiff, Nat.reduceEqDiff, Int.reduceToNat, if_true, if_false, Bool.not_true, Bool.not_false, Bool.false_eq_true, List.length_append, Nat.zero_add, String.reduceEq, or_true, true_or, or_false, false_or, and_true, true_and, Nat.add_zero, Int.reduceLT, Int.reduceLE, decide_true, decide_false, decide_eq_true_eq, Int.reduceAdd, Int.reduceSub, Int.reduceMul, Int.reduceNeg, hs.len, rng2 (i := at_) (j := n) (k := n - at_) (by omega) (by omega) (by omega) (by omega) e]
  · simp [rng_len, big_eq]; omega
  · intro d hd
    unfold rngD at hd
    obtain ⟨k, hk, rfl⟩ := List.mem_map.1 hd
    have hk2 := List.mem_range.1 hk
    obtain ⟨r, h1, h2⟩ := hs.gt (i := at_ + k) (j := at_) (by omega) ha
    rw [show (at_ : Int) + (k : Int) = ((at_ + k : Nat) : Int) by omega]
    generalize at_ + k = m at h1 h2 ⊢
    have e1 := lstZ_get h1
    have e2 := zs_get h2
    simp [ent, entD, runF, runD, runO, oSeq, sRetO, sSeq, sNil, sSet, sSetO, sRet, sRetN, sIf, sDrop, sBreak, sCont, sAppend, sExtend, sSetIx, sAug, sPar, sAsg, sRaise, mVar, mVarZ, mC, mBin, mT, mTAnd, mTOr, mTNot, mAnd, mOr, mNot, mIf, aNil, aCons, newTup, mTup, mFz, newLst, mLst, mCall, mIxO, mLenO, oNone, oSome, mSl, mBinL, mIsi, mFn, mFnK, mFnD, mFnDO, mUn, mItems, mItC, mYes, asB, R.bind, R.go, R.of, R.noBad, FR.to, FRD.to, tgN, tgsN, tgsC, tgT, gI, gIx, gLen, gAbs, gMax2, gMin2, gMin3, gInt, gTuple, gList, gSl, gSlL, gNeg, isT, gIsN, gNotN, gAddA, gMulA, gZip, List.map_cons, List.map_nil, List.length_cons, List.length_nil, List.replicate, List.append_eq, List.cons_append, List.nil_append, List.getElem?_cons_zero, List.getElem?_cons_succ, List.set_cons_zero, List.set_cons_succ, Option.map_some, Option.bind_some, Nat.reduceAdd, Nat.reduceSub, Nat.reduceLT, Nat.reduceLeDiff, Nat.reduceEqDiff, Int.reduceToNat, if_true, if_false, Bool.not_true, Bool.not_false, Bool.false_eq_true, List.length_append, Nat.zero_add, String.reduceEq, or_true, true_or, or_false, false_or, and_true, true_and, Nat.add_zero, Int.reduceLT, Int.reduceLE, decide_true, decide_false, decide_eq_true_eq, Int.reduceAdd, Int.reduceSub, Int.reduceMul, Int.reduceNeg, e1, e2, neI]
  · intro d hd _
    simp [ent, entD, runF, runD, runO, oSeq, sRetO, sSeq, sNil, sSet, sSetO, sRet, sRetN, sIf, sDrop, sBreak, sCont, sAppend, sExtend, sSetIx, sAug, sPar, sAsg, sRaise, mVar, mVarZ, mC, mBin, mT, mTAnd, mTOr, mTNot, mAnd, mOr, mNot, mIf, aNil, aCons, newTup, mTup, mFz, newLst, mLst, mCall, mIxO, mLenO, oNone, oSome, mSl, mBinL, mIsi, mFn, mFnK, mFnD, mFnDO, mUn, mItems, mItC, mYes, asB, R.bind, R.go, R.of, R.noBad, FR.to, FRD.to, tgN, tgsN, tgsC, tgT, gI, gIx, gLen, gAbs, gMax2, gMin2, gMin3, gInt, gTuple, gList, gSl, gSlL, gNeg, isT, gIsN, gNotN, gAddA, gMulA, gZip, List.map_cons, List.map_nil, List.length_cons, List.length_nil, List.replicate, List.append_eq, List.cons_append, List.nil_append, List.getElem?_cons_zero, List.getElem?_cons_succ, List.set_cons_zero, List.set_cons_succ, Option.map_some, Option.bind_some, Nat.reduceAdd, Nat.reduceSub, Nat.reduceLT, Nat.reduceLeDiff, Nat.reduceEqDiff, Int.reduceToNat, if_true, if_false, Bool.not_true, Bool.not_false, Bool.false_eq_true, List.length_append, Nat.zero_add, String.reduceEq, or_true, true_or, or_false, false_or, and_true, true_and, Nat.add_zero, Int.reduceLT, Int.reduceLE, decide_true, decide_false, decide_eq_true_eq, Int.reduceAdd, Int.reduceSub, Int.reduceMul, Int.reduceNeg]
/-- what one row becomes -/
def elim (G : List (List Int)) (at_ own : Nat) (last : Int) : List Int := ((((G[own]?).getD []).zip ((G[at_]?).getD [])).map fun q => (q.1 * gt G at_ at_ - gt G own at_ * q.2).fdiv last)
theorem zipD_zs (r s : List Int) : (zs r).zip (zs s) = (r.zip s).map fun q => (D.int q.1, D.int q.2) := zs_zip r s
theorem elim_ok {n at_ own b : Nat} {last : Int} {G : List (List Int)} (hs : Sq n G) (ha : at_ < n) (ho : own < n) (hn : n ≤ 1000) (hA : ∀ r, G[at_]? = some r → ∀ x ∈ r, Bd b x) (hO : ∀ r, G[own]? = some r → ∀ x ∈ r, Bd b x) (hb : b ≤ 400) (hl : Bd b last) (h0 : last ≠ 0) {x0 x2 x6 x7 x9 x10 x11 : Sl} :
    c_determinant_3 [x0, .ow (lstZ G), x2, .va (.int last), .va (.int at_), .va (.int own), x6, x7, .va (.int (gt G own at_)), x9, x10, x11] = .ok (zs (elim G at_ own last)) [x0, .ow (lstZ G), x2, .va (.int last), .va (.int at_), .va (.int own), x6, x7, .va (.int (gt G own at_)), x9, x10, x11] := by
  unfold c_determinant_3
  obtain ⟨r, h1, h2, h3⟩ := hs.get ha
  obtain ⟨s, k1, k2, k3⟩ := hs.get ho
  obtain ⟨r', g1, g2⟩ := hs.gt ha ha
  obtain ⟨s', f1, f2⟩ := hs.gt ho ha
  have e1 := lstZ_get h1
  have e2 := lstZ_get k1
  have e3 : atI (zs r) (at_ : Int) = some (.int (gt G at_ at_)) := by
    rw [h1] at g1
    cases g1
    exact zs_get g2
  have d0 : okDiv 0 last = true := okDiv_small h0 (Nat.lt_of_lt_of_le hl (Nat.pow_le_pow_right (by decide) hb))
  have d1 : ∀ x, okDiv x last = true := fun x => d0
  have bg : Bd b (gt G at_ at_) := by
    rw [h1] at g1
    cases g1
    exact hA r h1 _ (List.mem_of_getElem? g2)
  have bf : Bd b (gt G own at_) := by
    rw [k1] at f1
    cases f1
    exact hO s k1 _ (List.mem_of_getElem? f2)
  rw [mLc_zip (xs := zs s) (ys := zs r) (f := fun x y => match x, y with | .int x, .int y => .int ((x * gt G at_ at_ - gt G own at_ * y).fdiv last) | _, _ => .non) (by decide)]
  · congr 1
    unfold elim
    rw [zs_zip, h1, k1, List.map_map]
    unfold zs
    rw [List.map_map]
    rfl
  · simp [ent, entD, runF, runD, runO, oSeq, sRetO, sSeq, sNil, sSet, sSetO, sRet, sRetN, sIf, sDrop, sBreak, sCont, sAppend, sExtend, sSetIx, sAug, sPar, sAsg, sRaise, mVar, mVarZ, mC, mBin, mT, mTAnd, mTOr, mTNot, mAnd, mOr, mNot, mIf, aNil, aCons, newTup, mTup, mFz, newLst, mLst, mCall, mIxO, mLenO, oNone, oSome, mSl, mBinL, mIsi, mFn, mFnK, mFnD, mFnDO, mUn, mItems, mItC, mYes, asB, R.bind, R.go, R.of, R.noBad, FR.to, FRD.to, tgN, tgsN, tgsC, tgT, gI, gIx, gLen, gAbs, gMax2, gMin2, gMin3, gInt, gTuple, gList, gSl, gSlL, gNeg, isT, gIsN, gNotN, gAddA, gMulA, gZip, List.map_cons, List.map_nil, List.length_cons, List.length_nil, List.replicate, List.append_eq, List.cons_append, List.nil_append, List.getElem?_cons_zero, List.getElem?_cons_succ, List.set_cons_zero, List.set_cons_succ, Option.map_some, Option.bind_some, Nat.reduceAdd, Nat.reduceSub, Nat.reduceLT, Nat.reduceLeDiff, Nat.reduceEqDiff, Int.reduceToNat, if_true, if_false, Bool.not_true, Bool.not_false, Bool.false_eq_true, List.length_append, Nat.zero_add, String.reduceEq, or_true, true_or, or_false, false_or, and_true, true_and, Nat.add_zero, Int.reduceLT, Int.reduceLE, decide_true, decide_false, decide_eq_true_eq, Int.reduceAdd, Int.reduceSub, Int.reduceMul, Int.reduceNeg, e1, e2]
  · simp [k3, big_eq]; omega
  · intro q hq
    rw [zs_zip] at hq
    obtain ⟨⟨x, y⟩, hxy, rfl⟩ := List.mem_map.1 hq
    have bx := hO s k1 x (List.of_mem_zip hxy).1
    have byy := hA r h1 y (List.of_mem_zip hxy).2
    have q1 := bx.ok bg hb hb
    have q2 := bf.ok byy hb hb
    simp [ent, entD, runF, runD, runO, oSeq, sRetO, sSeq, sNil, sSet, sSetO, sRet, sRetN, sIf, sDrop, sBreak, sCont, sAppend, sExtend, sSetIx, sAug, sPar, sAsg, sRaise, mVar, mVarZ, mC, mBin, mT, mTAnd, mTOr, mTNot, mAnd, mOr, mNot, mIf, aNil, aCons, newTup, mTup, mFz, newLst, mLst, mCall, mIxO, mLenO, oNone, oSome, mSl, mBinL, mIsi, mFn, mFnK, mFnD, mFnDO, mUn, mItems, mItC, mYes, asB, R.bind, R.go, R.of, R.noBad, FR.to, FRD.to, tgN, tgsN, tgsC, tgT, gI, gIx, gLen, gAbs, gMax2, gMin2, gMin3, gInt, gTuple, gList, gSl, gSlL, gNeg, isT, gIsN, gNotN, gAddA, gMulA, gZip, List.map_cons, List.map_nil, List.length_cons, List.length_nil, List.replicate, List.append_eq, List.cons_append, List.nil_append, List.getElem?_cons_zero, List.getElem?_cons_succ, List.set_cons_zero, List.set_cons_succ, Option.map_some, Option.bind_some, Nat.reduceAdd, Nat.reduceSub, Nat.reduceLT, Nat.reduceLeDiff, Nat.reduceEqDiff, Int.reduceToNat, if_true, if_false, Bool.not_true, Bool.not_false, Bool.false_eq_true, List.length_append, Nat.zero_add, String.reduceEq, or_true, true_or, or_false, false_or, and_true, true_and, Nat.add_zero, Int.reduceLT, Int.reduceLE, decide_true, decide_false, decide_eq_true_eq, Int.reduceAdd, Int.reduceSub, Int.reduceMul, Int.reduceNeg, e1, e3, q1, q2, d1]
/-- the rows behind at_, the first j of them done -/
def upd (G : List (List Int)) (at_ j : Nat) (last : Int) : List (List Int) := G.mapIdx fun i r => if at_ < i ∧ i < at_ + 1 + j then elim G at_ i last else r
theorem upd_get {G : List (List Int)} {at_ j i : Nat} {last : Int} (h : ¬ (at_ < i ∧ i < at_ + 1 + j)) : (upd G at_ j last)[i]? = G[i]? := by
  unfold upd
  rw [List.getElem?_mapIdx]
  cases G[i]? with
  | none => rfl
  | some r => simp [h]
theorem upd_sq {n at_ j : Nat} {G : List (List Int)} {last : Int} (hs : Sq n G) (ha : at_ < n) : Sq n (upd G at_ j last) := by
  refine ⟨by unfold upd; rw [List.length_mapIdx, hs.len], fun r hr => ?_⟩
  unfold upd at hr
  obtain ⟨i, hi, rfl⟩ := List.mem_mapIdx.1 hr
  split
  · obtain ⟨r, h1, h2, h3⟩ := hs.get ha
    have hi2 : i < n := by rw [← hs.len]; exact hi
    obtain ⟨s, k1, k2, k3⟩ := hs.get hi2
    unfold elim
    simp [h1, k1, h3, k3]
  · exact hs.row _ (List.getElem_mem hi)
theorem upd_step {n at_ j : Nat} {G : List (List Int)} {last : Int} (hs : Sq n G) (hj : at_ + 1 + j < n) : (upd G at_ j last).set (at_ + 1 + j) (elim (upd G at_ j last) at_ (at_ + 1 + j) last) = upd G at_ (j + 1) last := by
  have e1 : (upd G at_ j last)[at_]? = G[at_]? := upd_get (by omega)
  have e2 : (upd G at_ j last)[at_ + 1 + j]? = G[at_ + 1 + j]? := upd_get (by omega)
  have e3 : elim (upd G at_ j last) at_ (at_ + 1 + j) last = elim G at_ (at_ + 1 + j) last := by
    unfold elim Y.gt
    rw [e1, e2]
  rw [e3]
  apply List.ext_getElem?
  intro i
  by_cases hi : at_ + 1 + j = i
  · subst hi
    rw [List.getElem?_set_self (by rw [(upd_sq hs (by omega)).len]; exact hj)]
    unfold upd
    rw [List.getElem?_mapIdx]
    obtain ⟨s, k1, _, _⟩ := hs.get hj
    rw [k1]
    simp
    omega
  · rw [List.getElem?_set_ne hi]
    unfold upd
    rw [List.getElem?_mapIdx, List.getElem?_mapIdx]
    cases G[i]? with
    | none => rfl
    | some r =>
      simp only [Option.map_some]
      congr 1
      by_cases h : at_ < i ∧ i < at_ + 1 + j
      · rw [if_pos h, if_pos (by omega)]
      · rw [if_neg h, if_neg (by omega)]
theorem lstZ_set {G : List (List Int)} {i : Nat} {r : List Int} : (lstZ G).set i (.lst (zs r)) = lstZ (G.set i r) := by
  unfold lstZ
  rw [List.map_set]
theorem ixN_nat {n i : Nat} (h : i < n) : ixN n (i : Int) = some i := by
  unfold ixN
  rw [if_pos (by omega), if_pos (by omega)]
  simp
theorem inner_ok {n at_ b : Nat} {last : Int} {G : List (List Int)} (hs : Sq n G) (ha : at_ < n) (hn : n ≤ 1000) (hG : ∀ r ∈ G, ∀ x ∈ r, Bd b x) (hb : b ≤ 400) (hl : Bd b last) (h0 : last ≠ 0) {x0 x2 x5 x6 x7 x8 x9 x10 x11 : Sl} :
    ∃ y5 y8, forL (tgN 5) l_determinant_1 (rngD (at_ + 1 : Nat) (n - (at_ + 1))) [x0, .ow (lstZ G), x2, .va (.int last), .va (.int at_), x5, x6, x7, x8, x9, x10, x11] = .nx [x0, .ow (lstZ (upd G at_ (n - (at_ + 1)) last)), x2, .va (.int last), .va (.int at_), y5, x6, x7, y8, x9, x10, x11] := by
  obtain ⟨e, h1, j, x5, x8, hj, rfl⟩ := forL_run (g := tgN 5) (b := l_determinant_1) (fun ds env => ∃ (j : Nat) (x5 x8 : Sl), (ds = (List.range (n - (at_ + 1) - j)).map (fun k : Nat => D.int ((at_ + 1 + j + k : Nat) : Int)) ∧ j ≤ n - (at_ + 1)) ∧ env = [x0, .ow (lstZ (upd G at_ j last)), x2, .va (.int last), .va (.int at_), x5, x6, x7, x8, x9, x10, x11])
    (by
      rintro d ds env ⟨j, x5, x8, ⟨hd, hj⟩, rfl⟩
      have hlt : 0 < n - (at_ + 1) - j := by
        rcases Nat.eq_zero_or_pos (n - (at_ + 1) - j) with z | z
        · rw [z] at hd; cases hd
        · exact z
      obtain ⟨m, hm⟩ : ∃ m, n - (at_ + 1) - j = m + 1 := ⟨_, (Nat.succ_pred_eq_of_pos hlt).symm⟩
      rw [hm, List.range_succ_eq_map, List.map_cons, List.map_map] at hd
      obtain ⟨rfl, rfl⟩ := List.cons.inj hd
      have ho : at_ + 1 + j < n := by omega
      have hu := upd_sq (j := j) (last := last) hs ha
      have e1 : (upd G at_ j last)[at_]? = G[at_]? := upd_get (by omega)
      have e2 : (upd G at_ j last)[at_ + 1 + j]? = G[at_ + 1 + j]? := upd_get (by omega)
      obtain ⟨s', f1, f2⟩ := hu.gt ho ha
      have key := fun x9 x10 x11 => elim_ok (x0 := x0) (x2 := x2) (x6 := x6) (x7 := x7) (x9 := x9) (x10 := x10) (x11 := x11) hu ha ho hn (b := b) (last := last) (fun r hr => by rw [e1] at hr; exact hG r (List.mem_of_getElem? hr)) (fun r hr => by rw [e2] at hr; exact hG r (List.mem_of_getElem? hr)) hb hl h0
      have hst := upd_step (last := last) hs ho
      have hlen : (upd G at_ j last).length = n := hu.len
      refine ⟨_, _, rfl, ?_, j + 1, .va (.int ((at_ + 1 + j : Nat) : Int)), .va (.int (gt (upd G at_ j last) (at_ + 1 + j) at_)), ⟨?_, by omega⟩, rfl⟩
      · rw [Nat.add_zero]
        rw [← hst]
        generalize at_ + 1 + j = own at *
        generalize upd G at_ j last = U at *
        have g1 := lstZ_get f1
        have g2 := zs_get f2
        rw [← lstZ_set]
        simp [l_determinant_1, ent, entD, runF, runD, runO, oSeq, sRetO, sSeq, sNil, sSet, sSetO, sRet, sRetN, sIf, sDrop, sBreak, sCont, sAppend, sExtend, sSetIx, sAug, sPar, sAsg, sRaise, mVar, mVarZ, mC, mBin, mT, mTAnd, mTOr, mTNot, mAnd, mOr, mNot, mIf, aNil, aCons, newTup, mTup, mFz, newLst, mLst, mCall, mIxO, mLenO, oNone, oSome, mSl, mBinL, mIsi, mFn, mFnK, mFnD, mFnDO, mUn, mItems, mItC, mYes, asB, R.bind, R.go, R.of, R.noBad, FR.to, FRD.to, tgN, tgsN, tgsC, tgT, gI, gIx, gLen, gAbs, gMax2, gMin2, gMin3, gInt, gTuple, gList, gSl, gSlL, gNeg, isT, gIsN, gNotN, gAddA, gMulA, gZip, List.map_cons, List.map_nil, List.length_cons, List.length_nil, List.replicate, List.append_eq, List.cons_append, List.nil_append, List.getElem?_cons_zero, List.getElem?_cons_succ, List.set_cons_zero, List.set_cons_succ, Option.map_some, Option.bind_some, Nat.reduceAdd, Nat.reduceSub, Nat.reduceLT, Nat.reduceLeDiff, Nat.reduceEqDiff, Int.reduceToNat, if_true, if_false, Bool.not_true, Bool.not_false, Bool.false_eq_true, List.length_append, Nat.zero_add, String.reduceEq, or_true, true_or, or_false, false_or, and_true, true_and, Nat.add_zero, Int.reduceLT, Int.reduceLE, decide_true, decide_false, decide_eq_true_eq, Int.reduceAdd, Int.reduceSub, Int.reduceMul, Int.reduceNeg, g1, g2, key, hlen, ixN_nat ho]
      · rw [show n - (at_ + 1) - (j + 1) = m by omega]
        apply List.map_congr_left
        intro k _
        show D.int _ = D.int _
        congr 2
        omega)
    (rngD (at_ + 1 : Nat) (n - (at_ + 1))) _ ⟨0, x5, x8, ⟨by unfold rngD; simp, by omega⟩, by
      have : upd G at_ 0 last = G := by
        apply List.ext_getElem?
        intro i
        exact upd_get (by omega)
      rw [this]⟩
  obtain ⟨hj1, hj2⟩ := hj
  have : j = n - (at_ + 1) := by
    rcases Nat.lt_or_ge j (n - (at_ + 1)) with z | z
    · obtain ⟨m, hm⟩ : ∃ m, n - (at_ + 1) - j = m + 1 := ⟨n - (at_ + 1) - j - 1, by omega⟩
      rw [hm, List.range_succ_eq_map] at hj1
      cases hj1
    · omega
  subst this
  exact ⟨x5, x8, h1⟩
/-- two rows change places -/
def swp (G : List (List Int)) (i j : Nat) : List (List Int) := (G.set i ((G[j]?).getD [])).set j ((G[i]?).getD [])
theorem swp_sq {n i j : Nat} {G : List (List Int)} (hs : Sq n G) (hi : i < n) (hj : j < n) : Sq n (swp G i j) := by
  obtain ⟨r, h1, h2, h3⟩ := hs.get hi
  obtain ⟨s, k1, k2, k3⟩ := hs.get hj
  refine ⟨by simp [swp, hs.len], fun x hx => ?_⟩
  unfold swp at hx
  rw [h1, k1] at hx
  rcases List.mem_or_eq_of_mem_set hx with h | h
  · rcases List.mem_or_eq_of_mem_set h with h | h
    · exact hs.row x h
    · rw [h]; exact k3
  · rw [h]; exact h3
theorem swp_bd {n i j b : Nat} {G : List (List Int)} (hs : Sq n G) (hi : i < n) (hj : j < n) (hG : ∀ r ∈ G, ∀ x ∈ r, Bd b x) : ∀ r ∈ swp G i j, ∀ x ∈ r, Bd b x := by
  obtain ⟨r, h1, h2, h3⟩ := hs.get hi
  obtain ⟨s, k1, k2, k3⟩ := hs.get hj
  intro y hy
  unfold swp at hy
  rw [h1, k1] at hy
  rcases List.mem_or_eq_of_mem_set hy with h | h
  · rcases List.mem_or_eq_of_mem_set h with h | h
    · exact hG y h
    · rw [h]; exact hG s k2
  · rw [h]; exact hG r h2
/-- the rows after one turn of the outer loop, with the pivot's place p -/
def turn (G : List (List Int)) (at_ p n : Nat) (last : Int) : List (List Int) := upd (if p = at_ then G else swp G at_ p) at_ (n - (at_ + 1)) last
theorem pk_lt {G : List (List Int)} {at_ n p : Nat} {ps : List Nat} (h : pk G at_ n = p :: ps) (ha : at_ < n) : at_ ≤ p ∧ p < n ∧ gt G p at_ ≠ 0 := by
  have hp : p ∈ pk G at_ n := by rw [h]; simp
  unfold pk at hp
  obtain ⟨h1, h2⟩ := List.mem_filter.1 hp
  obtain ⟨k, hk, rfl⟩ := List.mem_map.1 h1
  have := List.mem_range.1 hk
  exact ⟨by omega, by omega, by simpa using h2⟩
theorem outer_none {n at_ : Nat} {G : List (List Int)} (hs : Sq n G) (ha : at_ < n) (hn : n ≤ 1000) (hp : pk G at_ n = []) {x0 x2 x3 x5 x6 x7 x8 x9 x10 x11 : Sl} :
    ∃ e, l_determinant_2 [x0, .ow (lstZ G), x2, x3, .va (.int at_), x5, x6, x7, x8, x9, x10, x11] = .rt (.int 0) e := by
  have := picks_ok (x0 := x0) (x2 := x2) (x3 := x3) (x5 := x5) (x6 := x6) (x7 := x7) (x8 := x8) (x9 := x9) (x10 := x10) (x11 := x11) hs ha hn
  rw [hp] at this
  exact ⟨_, by simp [l_determinant_2, ent, entD, runF, runD, runO, oSeq, sRetO, sSeq, sNil, sSet, sSetO, sRet, sRetN, sIf, sDrop, sBreak, sCont, sAppend, sExtend, sSetIx, sAug, sPar, sAsg, sRaise, mVar, mVarZ, mC, mBin, mT, mTAnd, mTOr, mTNot, mAnd, mOr, mNot, mIf, aNil, aCons, newTup, mTup, mFz, newLst, mLst, mCall, mIxO, mLenO, oNone, oSome, mSl, mBinL, mIsi, mFn, mFnK, mFnD, mFnDO, mUn, mItems, mItC, mYes, asB, R.bind, R.go, R.of, R.noBad, FR.to, FRD.to, tgN, tgsN, tgsC, tgT, gI, gIx, gLen, gAbs, gMax2, gMin2, gMin3, gInt, gTuple, gList, gSl, gSlL, gNeg, isT, gIsN, gNotN, gAddA, gMulA, gZip, List.map_cons, List.map_nil, List.length_cons, List.length_nil, List.replicate, List.append_eq, List.cons_append, List.nil_append, List.getElem?_cons_zero, List.getElem?_cons_succ, List.set_cons_zero, List.set_cons_succ, Option.map_some, Option.bind_some, Nat.reduceAdd, Nat.reduceSub, Nat.reduceLT, Nat.reduceLeDiff, Nat.reduceEqDiff, Int.reduceToNat, if_true, if_false, Bool.not_true, Bool.not_false, Bool.false_eq_true, List.length_append, Nat.zero_add, String.reduceEq, or_true, true_or, or_false, false_or, and_true, true_and, Nat.add_zero, Int.reduceLT, Int.reduceLE, decide_true, decide_false, decide_eq_true_eq, Int.reduceAdd, Int.reduceSub, Int.reduceMul, Int.reduceNeg, this, eqI]; rfl⟩
theorem seq_nx {a b : SX} {env e : Env} (h : a env = .nx e) : sSeq a b env = b e := by
  unfold sSeq
  rw [h]
theorem seq_rt {a b : SX} {env e : Env} {d : D} (h : a env = .rt d e) : sSeq a b env = .rt d e := by
  unfold sSeq
  rw [h]
theorem if_no {t : MT} {a b : SX} {env e : Env} (h : t env = .ok false e) : sIf t a b env = b e := by
  unfold sIf
  rw [h]
  rfl
theorem if_yes {t : MT} {a b : SX} {env e : Env} (h : t env = .ok true e) : sIf t a b env = a e := by
  unfold sIf
  rw [h]
  rfl
theorem tail_ok {n at_ b : Nat} {last : Int} {G : List (List Int)} (hs : Sq n G) (ha : at_ < n) (hn : n ≤ 1000) (hG : ∀ r ∈ G, ∀ x ∈ r, Bd b x) (hb : b ≤ 400) (hl : Bd b last) (h0 : last ≠ 0) {x0 x2 x5 x6 x7 x8 x9 x10 x11 : Sl} :
    ∃ y5 y8, (sSeq (sFor (mItC gRng2 (aCons (mBin gAddA (mVar 4) (mC (.int 1))) (aCons (mLenO 1) aNil))) (tgN 5) l_determinant_1) (sSet 3 (mBin gIx (mIxO 1 (mVar 4)) (mVar 4)))) [x0, .ow (lstZ G), x2, .va (.int last), .va (.int at_), x5, x6, x7, x8, x9, x10, x11] =
      .nx [x0, .ow (lstZ (upd G at_ (n - (at_ + 1)) last)), x2, .va (.int (gt G at_ at_)), .va (.int at_), y5, x6, x7, y8, x9, x10, x11] := by
  have q : -1000000 ≤ (at_ : Int) + 1 ∧ (at_ : Int) + 1 ≤ 1000000 ∧ -1000000 ≤ (n : Int) ∧ (n : Int) ≤ 1000000 := by omega
  have q2 : ((n : Int) - ((at_ : Int) + 1)).toNat = n - (at_ + 1) := by omega
  obtain ⟨y5, y8, hin⟩ := inner_ok (x0 := x0) (x2 := x2) (x5 := x5) (x6 := x6) (x7 := x7) (x8 := x8) (x9 := x9) (x10 := x10) (x11 := x11) hs ha hn hG hb hl h0
  have e1 : (upd G at_ (n - (at_ + 1)) last)[at_]? = G[at_]? := upd_get (by omega)
  obtain ⟨r, f1, f2⟩ := hs.gt ha ha
  rw [← e1] at f1
  have g1 := lstZ_get f1
  have g2 := zs_get f2
  refine ⟨y5, y8, ?_⟩
  rw [Int.natCast_add] at hin
  have hin : forL (tgN 5) l_determinant_1 (rngD ((at_ : Int) + 1) (n - (at_ + 1))) [x0, .ow (lstZ G), x2, .va (.int last), .va (.int at_), x5, x6, x7, x8, x9, x10, x11] = .nx [x0, .ow (lstZ (upd G at_ (n - (at_ + 1)) last)), x2, .va (.int last), .va (.int at_), y5, x6, x7, y8, x9, x10, x11] := hin
  have hit : mItC gRng2 (aCons (mBin gAddA (mVar 4) (mC (.int 1))) (aCons (mLenO 1) aNil)) [x0, .ow (lstZ G), x2, .va (.int last), .va (.int at_), x5, x6, x7, x8, x9, x10, x11] = .ok (rngD ((at_ : Int) + 1) (n - (at_ + 1))) [x0, .ow (lstZ G), x2, .va (.int last), .va (.int at_), x5, x6, x7, x8, x9, x10, x11] := by
    exact mItC_ok (ds := [.int ((at_ : Int) + 1), .int n]) (by simp [ent, entD, runF, runD, runO, oSeq, sRetO, sSeq, sNil, sSet, sSetO, sRet, sRetN, sIf, sDrop, sBreak, sCont, sAppend, sExtend, sSetIx, sAug, sPar, sAsg, sRaise, mVar, mVarZ, mC, mBin, mT, mTAnd, mTOr, mTNot, mAnd, mOr, mNot, mIf, aNil, aCons, newTup, mTup, mFz, newLst, mLst, mCall, mIxO, mLenO, oNone, oSome, mSl, mBinL, mIsi, mFn, mFnK, mFnD, mFnDO, mUn, mItems, mItC, mYes, asB, R.bind, R.go, R.of, R.noBad, FR.to, FRD.to, tgN, tgsN, tgsC, tgT, gI, gIx, gLen, gAbs, gMax2, gMin2, gMin3, gInt, gTuple, gList, gSl, gSlL, gNeg, isT, gIsN, gNotN, gAddA, gMulA, gZip, List.map_cons, List.map_nil, List.length_cons, List.length_nil, List.replicate, List.append_eq, List.cons_append, List.nil_append, List.getElem?_cons_zero, List.getElem?_cons_succ, List.set_cons_zero, List.set_cons_succ, Option.map_some, Option.bind_some, Nat.reduceAdd, Nat.reduceSub, Nat.reduceLT, Nat.reduceLeDiff, Nat.reduceEqDiff, Int.reduceToNat, if_true, if_false, Bool.not_true, Bool.not_false, Bool.false_eq_true, List.length_append, Nat.zero_add, String.reduceEq, or_true, true_or, or_false, false_or, and_true, true_and, Nat.add_zero, Int.reduceLT, Int.reduceLE, decide_true, decide_false, decide_eq_true_eq, Int.reduceAdd, Int.reduceSub, Int.reduceMul, Int.reduceNeg, hs.len]) (rng2 (by omega) (by omega) (by omega) (by omega) q2)
  rw [seq_nx (e := [x0, .ow (lstZ (upd G at_ (n - (at_ + 1)) last)), x2, .va (.int last), .va (.int at_), y5, x6, x7, y8, x9, x10, x11]) (by unfold sFor; rw [hit]; exact hin)]
  simp [ent, entD, runF, runD, runO, oSeq, sRetO, sSeq, sNil, sSet, sSetO, sRet, sRetN, sIf, sDrop, sBreak, sCont, sAppend, sExtend, sSetIx, sAug, sPar, sAsg, sRaise, mVar, mVarZ, mC, mBin, mT, mTAnd, mTOr, mTNot, mAnd, mOr, mNot, mIf, aNil, aCons, newTup, mTup, mFz, newLst, mLst, mCall, mIxO, mLenO, oNone, oSome, mSl, mBinL, mIsi, mFn, mFnK, mFnD, mFnDO, mUn, mItems, mItC, mYes, asB, R.bind, R.go, R.of, R.noBad, FR.to, FRD.to, tgN, tgsN, tgsC, tgT, gI, gIx, gLen, gAbs, gMax2, gMin2, gMin3, gInt, gTuple, gList, gSl, gSlL, gNeg, isT, gIsN, gNotN, gAddA, gMulA, gZip, List.map_cons, List.map_nil, List.length_cons, List.length_nil, List.replicate, List.append_eq, List.cons_append, List.nil_append, List.getElem?_cons_zero, List.getElem?_cons_succ, List.set_cons_zero, List.set_cons_succ, Option.map_some, Option.bind_some, Nat.reduceAdd, Nat.reduceSub, Nat.reduceLT, Nat.reduceLeDiff, Nat.reduceEqDiff, Int.reduceToNat, if_true, if_false, Bool.not_true, Bool.not_false, Bool.false_eq_true, List.length_append, Nat.zero_add, String.reduceEq, or_true, true_or, or_false, false_or, and_true, true_and, Nat.add_zero, Int.reduceLT, Int.reduceLE, decide_true, decide_false, decide_eq_true_eq, Int.reduceAdd, Int.reduceSub, Int.reduceMul, Int.reduceNeg, g1, g2]
theorem swp_at {n i j : Nat} {G : List (List Int)} (hs : Sq n G) (hi : i < n) (hj : j < n) (hij : i ≠ j) : gt (swp G i j) i i = gt G j i := by
  obtain ⟨s, k1, k2, k3⟩ := hs.get hj
  unfold swp gt
  rw [List.getElem?_set_ne (fun e => hij e.symm), List.getElem?_set_self (by rw [hs.len]; exact hi)]
  rfl
theorem outer_some {n at_ b p : Nat} {ps : List Nat} {last sign : Int} {G : List (List Int)} (hs : Sq n G) (ha : at_ < n) (hn : n ≤ 1000) (hG : ∀ r ∈ G, ∀ x ∈ r, Bd b x) (hb : b ≤ 400) (hl : Bd b last) (h0 : last ≠ 0) (hp : pk G at_ n = p :: ps) {x0 x5 x6 x7 x8 x9 x10 x11 : Sl} :
    ∃ y5 y6 y7 y8, l_determinant_2 [x0, .ow (lstZ G), .va (.int sign), .va (.int last), .va (.int at_), x5, x6, x7, x8, x9, x10, x11] =
      .nx [x0, .ow (lstZ (turn G at_ p n last)), .va (.int (if p = at_ then sign else 0 - sign)), .va (.int (gt G p at_)), .va (.int at_), y5, y6, y7, y8, x9, x10, x11] := by
  have pc := picks_ok (x0 := x0) (x2 := .va (.int sign)) (x3 := .va (.int last)) (x5 := x5) (x6 := x6) (x7 := x7) (x8 := x8) (x9 := x9) (x10 := x10) (x11 := x11) hs ha hn
  rw [hp] at pc
  obtain ⟨hp1, hp2, hp3⟩ := pk_lt hp ha
  have ne : ¬ ((ps.length : Int) + 1 = 0) := by omega
  unfold l_determinant_2
  rw [seq_nx (e := [x0, .ow (lstZ G), .va (.int sign), .va (.int last), .va (.int at_), x5, .va (.lst ((p :: ps).map fun i : Nat => .int i)), x7, x8, x9, x10, x11]) (by simp only [sSet, mFz, pc, R.bind, R.go]; rfl)]
  rw [seq_nx (e := [x0, .ow (lstZ G), .va (.int sign), .va (.int last), .va (.int at_), x5, .va (.lst ((p :: ps).map fun i : Nat => .int i)), x7, x8, x9, x10, x11]) (by simp [ent, entD, runF, runD, runO, oSeq, sRetO, sSeq, sNil, sSet, sSetO, sRet, sRetN, sIf, sDrop, sBreak, sCont, sAppend, sExtend, sSetIx, sAug, sPar, sAsg, sRaise, mVar, mVarZ, mC, mBin, mT, mTAnd, mTOr, mTNot, mAnd, mOr, mNot, mIf, aNil, aCons, newTup, mTup, mFz, newLst, mLst, mCall, mIxO, mLenO, oNone, oSome, mSl, mBinL, mIsi, mFn, mFnK, mFnD, mFnDO, mUn, mItems, mItC, mYes, asB, R.bind, R.go, R.of, R.noBad, FR.to, FRD.to, tgN, tgsN, tgsC, tgT, gI, gIx, gLen, gAbs, gMax2, gMin2, gMin3, gInt, gTuple, gList, gSl, gSlL, gNeg, isT, gIsN, gNotN, gAddA, gMulA, gZip, List.map_cons, List.map_nil, List.length_cons, List.length_nil, List.replicate, List.append_eq, List.cons_append, List.nil_append, List.getElem?_cons_zero, List.getElem?_cons_succ, List.set_cons_zero, List.set_cons_succ, Option.map_some, Option.bind_some, Nat.reduceAdd, Nat.reduceSub, Nat.reduceLT, Nat.reduceLeDiff, Nat.reduceEqDiff, Int.reduceToNat, if_true, if_false, Bool.not_true, Bool.not_false, Bool.false_eq_true, List.length_append, Nat.zero_add, String.reduceEq, or_true, true_or, or_false, false_or, and_true, true_and, Nat.add_zero, Int.reduceLT, Int.reduceLE, decide_true, decide_false, decide_eq_true_eq, Int.reduceAdd, Int.reduceSub, Int.reduceMul, Int.reduceNeg, eqI, ne])]
  by_cases h : p = at_
  · subst h
    rw [seq_nx (e := [x0, .ow (lstZ G), .va (.int sign), .va (.int last), .va (.int p), x5, .va (.lst ((p :: ps).map fun i : Nat => .int i)), x7, x8, x9, x10, x11]) (by simp [ent, entD, runF, runD, runO, oSeq, sRetO, sSeq, sNil, sSet, sSetO, sRet, sRetN, sIf, sDrop, sBreak, sCont, sAppend, sExtend, sSetIx, sAug, sPar, sAsg, sRaise, mVar, mVarZ, mC, mBin, mT, mTAnd, mTOr, mTNot, mAnd, mOr, mNot, mIf, aNil, aCons, newTup, mTup, mFz, newLst, mLst, mCall, mIxO, mLenO, oNone, oSome, mSl, mBinL, mIsi, mFn, mFnK, mFnD, mFnDO, mUn, mItems, mItC, mYes, asB, R.bind, R.go, R.of, R.noBad, FR.to, FRD.to, tgN, tgsN, tgsC, tgT, gI, gIx, gLen, gAbs, gMax2, gMin2, gMin3, gInt, gTuple, gList, gSl, gSlL, gNeg, isT, gIsN, gNotN, gAddA, gMulA, gZip, List.map_cons, List.map_nil, List.length_cons, List.length_nil, List.replicate, List.append_eq, List.cons_append, List.nil_append, List.getElem?_cons_zero, List.getElem?_cons_succ, List.set_cons_zero, List.set_cons_succ, Option.map_some, Option.bind_some, Nat.reduceAdd, Nat.reduceSub, Nat.reduceLT, Nat.reduceLeDiff, Nat.reduceEqDiff, Int.reduceToNat, if_true, if_false, Bool.not_true, Bool.not_false, Bool.false_eq_true, List.length_append, Nat.zero_add, String.reduceEq, or_true, true_or, or_false, false_or, and_true, true_and, Nat.add_zero, Int.reduceLT, Int.reduceLE, decide_true, decide_false, decide_eq_true_eq, Int.reduceAdd, Int.reduceSub, Int.reduceMul, Int.reduceNeg, neI, atI_0])]
    obtain ⟨y5, y8, ht⟩ := tail_ok (x0 := x0) (x2 := .va (.int sign)) (x5 := x5) (x6 := .va (.lst ((p :: ps).map fun i : Nat => .int i))) (x7 := x7) (x8 := x8) (x9 := x9) (x10 := x10) (x11 := x11) hs ha hn hG hb hl h0
    unfold turn
    rw [if_pos rfl, if_pos rfl]
    exact ⟨y5, _, _, y8, ht⟩
  · obtain ⟨r, h1, h2, h3⟩ := hs.get ha
    obtain ⟨s, k1, k2, k3⟩ := hs.get hp2
    have g1 := lstZ_get h1
    have g2 := lstZ_get k1
    have hne : ¬ ((p : Int) = (at_ : Int)) := by omega
    have hsw := swp_sq hs ha hp2
    have hl2 : at_ < G.length := by rw [hs.len]; exact ha
    have hl3 : p < G.length := by rw [hs.len]; exact hp2
    have e0 : lstZ (swp G at_ p) = ((lstZ G).set at_ (.lst (zs s))).set p (.lst (zs r)) := by
      unfold swp
      rw [h1, k1, lstZ_set, lstZ_set]
      rfl
    rw [seq_nx (e := [x0, .ow (lstZ (swp G at_ p)), .va (.int (0 - sign)), .va (.int last), .va (.int at_), x5, .va (.lst ((p :: ps).map fun i : Nat => .int i)), .va (.lst (zs r)), x8, x9, x10, x11])
      (by simp [ent, entD, runF, runD, runO, oSeq, sRetO, sSeq, sNil, sSet, sSetO, sRet, sRetN, sIf, sDrop, sBreak, sCont, sAppend, sExtend, sSetIx, sAug, sPar, sAsg, sRaise, mVar, mVarZ, mC, mBin, mT, mTAnd, mTOr, mTNot, mAnd, mOr, mNot, mIf, aNil, aCons, newTup, mTup, mFz, newLst, mLst, mCall, mIxO, mLenO, oNone, oSome, mSl, mBinL, mIsi, mFn, mFnK, mFnD, mFnDO, mUn, mItems, mItC, mYes, asB, R.bind, R.go, R.of, R.noBad, FR.to, FRD.to, tgN, tgsN, tgsC, tgT, gI, gIx, gLen, gAbs, gMax2, gMin2, gMin3, gInt, gTuple, gList, gSl, gSlL, gNeg, isT, gIsN, gNotN, gAddA, gMulA, gZip, List.map_cons, List.map_nil, List.length_cons, List.length_nil, List.replicate, List.append_eq, List.cons_append, List.nil_append, List.getElem?_cons_zero, List.getElem?_cons_succ, List.set_cons_zero, List.set_cons_succ, Option.map_some, Option.bind_some, Nat.reduceAdd, Nat.reduceSub, Nat.reduceLT, Nat.reduceLeDiff, Nat.reduceEqDiff, Int.reduceToNat, if_true, if_false, Bool.not_true, Bool.not_false, Bool.false_eq_true, List.length_append, Nat.zero_add, String.reduceEq, or_true, true_or, or_false, false_or, and_true, true_and, Nat.add_zero, Int.reduceLT, Int.reduceLE, decide_true, decide_false, decide_eq_true_eq, Int.reduceAdd, Int.reduceSub, Int.reduceMul, Int.reduceNeg, neI, atI_0, hne, g1, g2, e0, ixN_nat hl2, ixN_nat hl3])]
    obtain ⟨y5, y8, ht⟩ := tail_ok (x0 := x0) (x2 := .va (.int (0 - sign))) (x5 := x5) (x6 := .va (.lst ((p :: ps).map fun i : Nat => .int i))) (x7 := .va (.lst (zs r))) (x8 := x8) (x9 := x9) (x10 := x10) (x11 := x11) hsw ha hn (swp_bd hs ha hp2 hG) hb hl h0
    rw [swp_at hs ha hp2 (fun e => h e.symm)] at ht
    unfold turn
    rw [if_neg h, if_neg h]
    exact ⟨y5, _, _, y8, ht⟩
end Y

set_option Elab.async false
set_option linter.all false
set_option maxRecDepth 100000
set_option maxHeartbeats 4000000
namespace Y
open PySem PySem.Spec PyProof.Rows L2
theorem fdiv_bd {b : Nat} {x y : Int} (h : Bd b x) (h0 : y ≠ 0) : Bd b (x.fdiv y) := by
  refine Nat.lt_of_le_of_lt ?_ h
  exact Int.natAbs_fdiv_le_natAbs x y
theorem elim_bd {n at_ own b : Nat} {last : Int} {G : List (List Int)} (hs : Sq n G) (ha : at_ < n) (ho : own < n) (hG : ∀ r ∈ G, ∀ x ∈ r, Bd b x) (h0 : last ≠ 0) : ∀ x ∈ elim G at_ own last, Bd (b + b + 1) x := by
  obtain ⟨r, h1, h2, h3⟩ := hs.get ha
  obtain ⟨s, k1, k2, k3⟩ := hs.get ho
  obtain ⟨r', g1, g2⟩ := hs.gt ha ha
  obtain ⟨s', f1, f2⟩ := hs.gt ho ha
  rw [h1] at g1
  rw [k1] at f1
  cases g1
  cases f1
  intro x hx
  unfold elim at hx
  rw [h1, k1] at hx
  obtain ⟨q, hq, rfl⟩ := List.mem_map.1 hx
  exact fdiv_bd (((hG s k2 _ (List.of_mem_zip hq).1).mul (hG r h2 _ (List.mem_of_getElem? g2))).sub ((hG s k2 _ (List.mem_of_getElem? f2)).mul (hG r h2 _ (List.of_mem_zip hq).2))) h0
theorem upd_bd {n at_ j b : Nat} {last : Int} {G : List (List Int)} (hs : Sq n G) (ha : at_ < n) (hG : ∀ r ∈ G, ∀ x ∈ r, Bd b x) (h0 : last ≠ 0) : ∀ r ∈ upd G at_ j last, ∀ x ∈ r, Bd (b + b + 1) x := by
  intro r hr
  unfold upd at hr
  obtain ⟨i, hi, rfl⟩ := List.mem_mapIdx.1 hr
  split
  · exact elim_bd hs ha (by rw [← hs.len]; exact hi) hG h0
  · exact fun x hx => (hG _ (List.getElem_mem hi) x hx).mono (by omega)
/-- the outer loop, k turns left -/
def barR (n : Nat) : Nat → Nat → List (List Int) → Int → Int → Int
  | 0, _, _, sign, last => sign * last
  | k + 1, at_, G, sign, last => match pk G at_ n with
    | [] => 0
    | p :: _ => barR n k (at_ + 1) (turn G at_ p n last) (if p = at_ then sign else 0 - sign) (gt G p at_)
theorem bar_run {n : Nat} (hn : n ≤ 1000) {x0 : Sl} : ∀ (k at_ b : Nat) (G : List (List Int)) (sign last : Int) (x4 x5 x6 x7 x8 x9 x10 x11 : Sl), at_ + k = n → Sq n G → (∀ r ∈ G, ∀ x ∈ r, Bd b x) → Bd b last → last ≠ 0 → (sign = 1 ∨ sign = -1) → (b + 1) * 2 ^ k ≤ 401 →
    ∃ e, (sSeq (fun e => forL (tgN 4) l_determinant_2 ((List.range k).map fun j : Nat => .int ((at_ + j : Nat) : Int)) e) (sRet (mBin gMulA (mVar 2) (mVar 3)))) [x0, .ow (lstZ G), .va (.int sign), .va (.int last), x4, x5, x6, x7, x8, x9, x10, x11] = .rt (.int (barR n k at_ G sign last)) e
  | 0, at_, b, G, sign, last, x4, x5, x6, x7, x8, x9, x10, x11, hk, hs, hG, hl, h0, hsg, hb => by
    have q : okMul sign last = true := by
      rcases hsg with rfl | rfl
      · exact Bd.one.ok hl (by decide) (by omega)
      · exact Bd.one.neg.ok hl (by decide) (by omega)
    refine ⟨_, by simp [ent, entD, runF, runD, runO, oSeq, sRetO, sSeq, sNil, sSet, sSetO, sRet, sRetN, sIf, sDrop, sBreak, sCont, sAppend, sExtend, sSetIx, sAug, sPar, sAsg, sRaise, mVar, mVarZ, mC, mBin, mT, mTAnd, mTOr, mTNot, mAnd, mOr, mNot, mIf, aNil, aCons, newTup, mTup, mFz, newLst, mLst, mCall, mIxO, mLenO, oNone, oSome, mSl, mBinL, mIsi, mFn, mFnK, mFnD, mFnDO, mUn, mItems, mItC, mYes, asB, R.bind, R.go, R.of, R.noBad, FR.to, FRD.to, tgN, tgsN, tgsC, tgT, gI, gIx, gLen, gAbs, gMax2, gMin2, gMin3, gInt, gTuple, gList, gSl, gSlL, gNeg, isT, gIsN, gNotN, gAddA, gMulA, gZip, List.map_cons, List.map_nil, List.length_cons, List.length_nil, List.replicate, List.append_eq, List.cons_append, List.nil_append, List.getElem?_cons_zero, List.getElem?_cons_succ, List.set_cons_zero, List.set_cons_succ, Option.map_some, Option.bind_some, Nat.reduceAdd, Nat.reduceSub, Nat.reduceLT, Nat.reduceLeDiff, Nat.reduceEqDiff, Int.reduceToNat, if_true, if_false, Bool.not_true, Bool.not_false, Bool.false_eq_true, List.length_append, Nat.zero_add, String.reduceEq, or_true, true_or, or_false, false_or, and_true, true_and, Nat.add_zero, Int.reduceLT, Int.reduceLE, decide_true, decide_false, decide_eq_true_eq, Int.reduceAdd, Int.reduceSub, Int.reduceMul, Int.reduceNeg, forL, barR, q]; rfl⟩
  | k + 1, at_, b, G, sign, last, x4, x5, x6, x7, x8, x9, x10, x11, hk, hs, hG, hl, h0, hsg, hb => by
    have ha : at_ < n := by omega
    have hb2 : (b + b + 1 + 1) * 2 ^ k ≤ 401 := by
      rw [Nat.pow_succ] at hb
      have e : (b + b + 1 + 1) * 2 ^ k = (b + 1) * (2 ^ k * 2) := by
        rw [Nat.mul_comm (2 ^ k) 2, ← Nat.mul_assoc]
        congr 1
        omega
      omega
    have hb3 : b ≤ 400 := by
      have : 1 ≤ 2 ^ (k + 1) := Nat.one_le_two_pow
      have := Nat.le_mul_of_pos_right (b + 1) this
      omega
    rw [List.range_succ_eq_map, List.map_cons, List.map_map]
    cases hp : pk G at_ n with
    | nil =>
      obtain ⟨e, he⟩ := outer_none (x0 := x0) (x2 := .va (.int sign)) (x3 := .va (.int last)) (x5 := x5) (x6 := x6) (x7 := x7) (x8 := x8) (x9 := x9) (x10 := x10) (x11 := x11) hs ha hn hp
      refine ⟨e, ?_⟩
      unfold sSeq forL
      simp only [tgN, Nat.add_zero, List.set_cons_succ, List.set_cons_zero, he, barR, hp]
    | cons p ps =>
      obtain ⟨y5, y6, y7, y8, he⟩ := outer_some (x0 := x0) (sign := sign) (x5 := x5) (x6 := x6) (x7 := x7) (x8 := x8) (x9 := x9) (x10 := x10) (x11 := x11) hs ha hn hG hb3 hl h0 hp
      obtain ⟨p1, p2, p3⟩ := pk_lt hp ha
      obtain ⟨s', f1, f2⟩ := hs.gt p2 ha
      have hs2 : Sq n (if p = at_ then G else swp G at_ p) := by
        split
        · exact hs
        · exact swp_sq hs ha p2
      have hG2 : ∀ r ∈ (if p = at_ then G else swp G at_ p), ∀ x ∈ r, Bd b x := by
        split
        · exact hG
        · exact swp_bd hs ha p2 hG
      obtain ⟨e, h2⟩ := bar_run hn (x0 := x0) k (at_ + 1) (b + b + 1) (turn G at_ p n last) (if p = at_ then sign else 0 - sign) (gt G p at_) (.va (.int at_)) y5 y6 y7 y8 x9 x10 x11 (by omega) (upd_sq hs2 ha) (upd_bd hs2 ha hG2 h0) ((hG s' (List.mem_of_getElem? f1) _ (List.mem_of_getElem? f2)).mono (by omega)) p3
        (by split <;> rcases hsg with rfl | rfl <;> simp) hb2
      refine ⟨e, ?_⟩
      have e4 : (List.range k).map ((fun j : Nat => D.int ((at_ + j : Nat) : Int)) ∘ Nat.succ) = (List.range k).map fun j : Nat => D.int ((at_ + 1 + j : Nat) : Int) := by
        apply List.map_congr_left
        intro j _
        simp only [Function.comp]
        congr 2
        omega
      rw [e4]
      unfold barR
      rw [hp]
      refine Eq.trans ?_ h2
      unfold sSeq
      dsimp only
      rw [forL_step (e1 := [x0, .ow (lstZ G), .va (.int sign), .va (.int last), .va (.int ((at_ + 0 : Nat) : Int)), x5, x6, x7, x8, x9, x10, x11]) rfl (by rw [Nat.add_zero]; exact he)]
/-- determinant is barR -/
theorem bar_ok {n b : Nat} {G : List (List Int)} {S : D} (hS : S = .lst (G.map tupI) ∨ S = .tup (G.map tupI)) (hn : n ≤ 1000) (hs : Sq n G) (hG : ∀ r ∈ G, ∀ x ∈ r, Bd b x) (hb1 : 1 ≤ b) (hb : (b + 1) * 2 ^ n ≤ 401) : F_determinant [S] = .ok (.int (barR n n 0 G 1 1)) := by
  have hc : ∀ x1 x2 x3 x4 x5 x6 x7 x8 x9 x10 x11, c_determinant_1 [.va S, x1, x2, x3, x4, x5, x6, x7, x8, x9, x10, x11] = .ok (lstZ G) [.va S, x1, x2, x3, x4, x5, x6, x7, x8, x9, x10, x11] := by
    intro x1 x2 x3 x4 x5 x6 x7 x8 x9 x10 x11
    unfold c_determinant_1
    rw [mLc_map (ds := G.map tupI) (f := fun d => match d with | .tup l => .lst l | d => d)]
    · rw [List.map_map]
      rfl
    · rcases hS with rfl | rfl <;> simp [ent, entD, runF, runD, runO, oSeq, sRetO, sSeq, sNil, sSet, sSetO, sRet, sRetN, sIf, sDrop, sBreak, sCont, sAppend, sExtend, sSetIx, sAug, sPar, sAsg, sRaise, mVar, mVarZ, mC, mBin, mT, mTAnd, mTOr, mTNot, mAnd, mOr, mNot, mIf, aNil, aCons, newTup, mTup, mFz, newLst, mLst, mCall, mIxO, mLenO, oNone, oSome, mSl, mBinL, mIsi, mFn, mFnK, mFnD, mFnDO, mUn, mItems, mItC, mYes, asB, R.bind, R.go, R.of, R.noBad, FR.to, FRD.to, tgN, tgsN, tgsC, tgT, gI, gIx, gLen, gAbs, gMax2, gMin2, gMin3, gInt, gTuple, gList, gSl, gSlL, gNeg, isT, gIsN, gNotN, gAddA, gMulA, gZip, List.map_cons, List.map_nil, List.length_cons, List.length_nil, List.replicate, List.append_eq, List.cons_append, List.nil_append, List.getElem?_cons_zero, List.getElem?_cons_succ, List.set_cons_zero, List.set_cons_succ, Option.map_some, Option.bind_some, Nat.reduceAdd, Nat.reduceSub, Nat.reduceLT, Nat.reduceLeDiff, Nat.reduceEqDiff, Int.reduceToNat, if_true, if_false, Bool.not_true, Bool.not_false, Bool.false_eq_true, List.length_append, Nat.zero_add, String.reduceEq, or_true, true_or, or_false, false_or, and_true, true_and, Nat.add_zero, Int.reduceLT, Int.reduceLE, decide_true, decide_false, decide_eq_true_eq, Int.reduceAdd, Int.reduceSub, Int.reduceMul, Int.reduceNeg]
    · rw [List.length_map, hs.len, big_eq]; omega
    · intro d hd
      obtain ⟨r, hr, rfl⟩ := List.mem_map.1 hd
      simp [ent, entD, runF, runD, runO, oSeq, sRetO, sSeq, sNil, sSet, sSetO, sRet, sRetN, sIf, sDrop, sBreak, sCont, sAppend, sExtend, sSetIx, sAug, sPar, sAsg, sRaise, mVar, mVarZ, mC, mBin, mT, mTAnd, mTOr, mTNot, mAnd, mOr, mNot, mIf, aNil, aCons, newTup, mTup, mFz, newLst, mLst, mCall, mIxO, mLenO, oNone, oSome, mSl, mBinL, mIsi, mFn, mFnK, mFnD, mFnDO, mUn, mItems, mItC, mYes, asB, R.bind, R.go, R.of, R.noBad, FR.to, FRD.to, tgN, tgsN, tgsC, tgT, gI, gIx, gLen, gAbs, gMax2, gMin2, gMin3, gInt, gTuple, gList, gSl, gSlL, gNeg, isT, gIsN, gNotN, gAddA, gMulA, gZip, List.map_cons, List.map_nil, List.length_cons, List.length_nil, List.replicate, List.append_eq, List.cons_append, List.nil_append, List.getElem?_cons_zero, List.getElem?_cons_succ, List.set_cons_zero, List.set_cons_succ, Option.map_some, Option.bind_some, Nat.reduceAdd, Nat.reduceSub, Nat.reduceLT, Nat.reduceLeDiff, Nat.reduceEqDiff, Int.reduceToNat, if_true, if_false, Bool.not_true, Bool.not_false, Bool.false_eq_true, List.length_append, Nat.zero_add, String.reduceEq, or_true, true_or, or_false, false_or, and_true, true_and, Nat.add_zero, Int.reduceLT, Int.reduceLE, decide_true, decide_false, decide_eq_true_eq, Int.reduceAdd, Int.reduceSub, Int.reduceMul, Int.reduceNeg]
  obtain ⟨e, h⟩ := bar_run hn (x0 := .va S) n 0 b G 1 1 .un .un .un .un .un .un .un .un (by omega) hs hG (Bd.one.mono hb1) (by decide) (.inl rfl) hb
  have hr : mItC gRng1 (aCons (mLenO 1) aNil) [.va S, .ow (lstZ G), .va (.int 1), .va (.int 1), .un, .un, .un, .un, .un, .un, .un, .un] = .ok ((List.range n).map fun j : Nat => .int ((0 + j : Nat) : Int)) [.va S, .ow (lstZ G), .va (.int 1), .va (.int 1), .un, .un, .un, .un, .un, .un, .un, .un] := by
    refine mItC_ok (ds := [.int n]) (by simp [ent, entD, runF, runD, runO, oSeq, sRetO, sSeq, sNil, sSet, sSetO, sRet, sRetN, sIf, sDrop, sBreak, sCont, sAppend, sExtend, sSetIx, sAug, sPar, sAsg, sRaise, mVar, mVarZ, mC, mBin, mT, mTAnd, mTOr, mTNot, mAnd, mOr, mNot, mIf, aNil, aCons, newTup, mTup, mFz, newLst, mLst, mCall, mIxO, mLenO, oNone, oSome, mSl, mBinL, mIsi, mFn, mFnK, mFnD, mFnDO, mUn, mItems, mItC, mYes, asB, R.bind, R.go, R.of, R.noBad, FR.to, FRD.to, tgN, tgsN, tgsC, tgT, gI, gIx, gLen, gAbs, gMax2, gMin2, gMin3, gInt, gTuple, gList, gSl, gSlL, gNeg, isT, gIsN, gNotN, gAddA, gMulA, gZip, List.map_cons, List.map_nil, List.length_cons, List.length_nil, List.replicate, List.append_eq, List.cons_append, List.nil_append, List.getElem?_cons_zero, List.getElem?_cons_succ, List.set_cons_zero, List.set_cons_succ, Option.map_some, Option.bind_some, Nat.reduceAdd, Nat.reduceSub, Nat.reduceLT, Nat.reduceLeDiff, Nat.reduceEqDiff, Int.reduceToNat, if_true, if_false, Bool.not_true, Bool.not_false, Bool.false_eq_true, List.length_append, Nat.zero_add, String.reduceEq, or_true, true_or, or_false, false_or, and_true, true_and, Nat.add_zero, Int.reduceLT, Int.reduceLE, decide_true, decide_false, decide_eq_true_eq, Int.reduceAdd, Int.reduceSub, Int.reduceMul, Int.reduceNeg, hs.len]) ?_
    rw [rng1 (by omega)]
    unfold rngD
    simp
  have hbody : m_determinant [.va S, .un, .un, .un, .un, .un, .un, .un, .un, .un, .un, .un] = .rt (.int (barR n n 0 G 1 1)) e := by
    unfold m_determinant
    rw [seq_nx (e := [.va S, .ow (lstZ G), .un, .un, .un, .un, .un, .un, .un, .un, .un, .un]) (by unfold sSetO; rw [hc]; rfl)]
    rw [seq_nx (e := [.va S, .ow (lstZ G), .va (.int 1), .un, .un, .un, .un, .un, .un, .un, .un, .un]) (by rfl)]
    rw [seq_nx (e := [.va S, .ow (lstZ G), .va (.int 1), .va (.int 1), .un, .un, .un, .un, .un, .un, .un, .un]) (by rfl)]
    rw [← h]
    unfold sSeq sFor
    rw [hr]
    rfl
  unfold F_determinant runF
  rw [show ent 12 [S] = [.va S, .un, .un, .un, .un, .un, .un, .un, .un, .un, .un, .un] from rfl, hbody]
theorem barR0 (G : List (List Int)) : barR 0 0 0 G 1 1 = 1 := by
  simp [barR]
theorem barR1 (a : Int) : barR 1 1 0 [[a]] 1 1 = a := by
  by_cases h : a = 0
  · simp [barR, pk, gt, List.range, List.range.loop, h]
  · simp [barR, pk, gt, List.range, List.range.loop, h]
theorem barR2 (a b c d : Int) : barR 2 2 0 [[a, b], [c, d]] 1 1 = a * d - b * c := by
  by_cases h : a = 0
  · by_cases h2 : c = 0
    · simp [barR, pk, gt, List.range, List.range.loop, h, h2]
    · subst h
      by_cases h3 : b = 0
      · simp [barR, pk, gt, List.range, List.range.loop, h2, h3, turn, upd, swp, elim, Int.fdiv_one]
      · simp [barR, pk, gt, List.range, List.range.loop, h2, h3, turn, upd, swp, elim, Int.fdiv_one]
  · by_cases h3 : d * a - c * b = 0
    · simp [barR, pk, gt, List.range, List.range.loop, turn, upd, swp, elim, Int.fdiv_one, h, h3]
      grind
    · simp [barR, pk, gt, List.range, List.range.loop, turn, upd, swp, elim, Int.fdiv_one, h, h3]
      grind
theorem bar3b {r0 : List Int} {x y e f h i s a k : Int} {b1 c1 : Int} (hr : r0 = [a, b1, c1]) (hk : e * i - f * h = a * k) (ha : a ≠ 0) : barR 3 2 1 [r0, [x, e, f], [y, h, i]] s a = s * k := by
  subst hr
  by_cases he : e = 0
  · by_cases hh : h = 0
    · have : k = 0 := by
        subst he hh
        have : a * k = 0 := by rw [← hk]; grind
        exact (Int.mul_eq_zero.1 this).resolve_left ha
      simp [barR, pk, gt, List.range, List.range.loop, turn, upd, swp, elim, Int.fdiv_one, he, hh, this]
    · have e1 : (f * h).fdiv a = -k := by
        rw [show f * h = a * (-k) by subst he; grind]
        exact Int.mul_fdiv_cancel_left _ ha
      by_cases hz : k = 0
      · simp [barR, pk, gt, List.range, List.range.loop, turn, upd, swp, elim, Int.fdiv_one, he, hh, e1, hz]
      · simp [barR, pk, gt, List.range, List.range.loop, turn, upd, swp, elim, Int.fdiv_one, he, hh, e1, hz]
        try grind
  · have e1 : (i * e - h * f).fdiv a = k := by
      rw [show i * e - h * f = a * k by grind]
      exact Int.mul_fdiv_cancel_left _ ha
    by_cases hz : k = 0
    · simp [barR, pk, gt, List.range, List.range.loop, turn, upd, swp, elim, Int.fdiv_one, he, e1, hz]
    · simp [barR, pk, gt, List.range, List.range.loop, turn, upd, swp, elim, Int.fdiv_one, he, e1, hz]
theorem barR3 (a b c d e f g h i : Int) : barR 3 3 0 [[a, b, c], [d, e, f], [g, h, i]] 1 1 = a * (e * i - f * h) - b * (d * i - f * g) + c * (d * h - e * g) := by
  by_cases ha : a = 0
  · subst ha
    by_cases hd : d = 0
    · subst hd
      by_cases hg : g = 0
      · simp [barR, pk, gt, List.range, List.range.loop, turn, upd, swp, elim, Int.fdiv_one, hg]
      · have e1 : barR 3 3 0 [[0, b, c], [0, e, f], [g, h, i]] 1 1 = barR 3 2 1 [[g, h, i], [0, e * g, f * g], [0, b * g, c * g]] (-1) g := by
          rw [barR]
          simp [pk, gt, List.range, List.range.loop, turn, upd, swp, elim, Int.fdiv_one, hg]
        rw [e1, bar3b (k := (e * c - f * b) * g) rfl (by grind) hg]
        grind
    · have e1 : barR 3 3 0 [[0, b, c], [d, e, f], [g, h, i]] 1 1 = barR 3 2 1 [[d, e, f], [0, b * d, c * d], [0, h * d - g * e, i * d - g * f]] (-1) d := by
        rw [barR]
        simp [pk, gt, List.range, List.range.loop, turn, upd, swp, elim, Int.fdiv_one, hd]
      rw [e1, bar3b (k := b * (i * d - g * f) - c * (h * d - g * e)) rfl (by grind) hd]
      grind
  · have e1 : barR 3 3 0 [[a, b, c], [d, e, f], [g, h, i]] 1 1 = barR 3 2 1 [[a, b, c], [0, e * a - d * b, f * a - d * c], [0, h * a - g * b, i * a - g * c]] 1 a := by
      rw [barR]
      simp [pk, gt, List.range, List.range.loop, turn, upd, swp, elim, Int.fdiv_one, ha]
    rw [e1, bar3b (k := a * (e * i - f * h) - b * (d * i - f * g) + c * (d * h - e * g)) rfl (by grind) ha]
    grind
theorem len1 {α : Type} : ∀ {l : List α}, l.length = 1 → ∃ a, l = [a]
  | [a], _ => ⟨a, rfl⟩
theorem len2 {α : Type} : ∀ {l : List α}, l.length = 2 → ∃ a b, l = [a, b]
  | [a, b], _ => ⟨a, b, rfl⟩
theorem len3 {α : Type} : ∀ {l : List α}, l.length = 3 → ∃ a b c, l = [a, b, c]
  | [a, b, c], _ => ⟨a, b, c, rfl⟩
theorem sq_cases {n : Nat} {M : List (List Int)} (hn : n ≤ 3) (hs : Sq n M) : M = [] ∧ n = 0 ∨ (∃ a, M = [[a]] ∧ n = 1) ∨ (∃ a b c d, M = [[a, b], [c, d]] ∧ n = 2) ∨ ∃ a b c d e f g h i, M = [[a, b, c], [d, e, f], [g, h, i]] ∧ n = 3 := by
  obtain ⟨hl, hr⟩ := hs
  have : n = 0 ∨ n = 1 ∨ n = 2 ∨ n = 3 := by omega
  rcases this with rfl | rfl | rfl | rfl
  · exact .inl ⟨List.length_eq_zero_iff.1 hl, rfl⟩
  · obtain ⟨r, rfl⟩ := len1 hl
    obtain ⟨a, rfl⟩ := len1 (hr r (by simp))
    exact .inr (.inl ⟨a, rfl, rfl⟩)
  · obtain ⟨r, s, rfl⟩ := len2 hl
    obtain ⟨a, b, rfl⟩ := len2 (hr r (by simp))
    obtain ⟨c, d, rfl⟩ := len2 (hr s (by simp))
    exact .inr (.inr (.inl ⟨a, b, c, d, rfl, rfl⟩))
  · obtain ⟨r, s, t, rfl⟩ := len3 hl
    obtain ⟨a, b, c, rfl⟩ := len3 (hr r (by simp))
    obtain ⟨d, e, f, rfl⟩ := len3 (hr s (by simp))
    obtain ⟨g, h, i, rfl⟩ := len3 (hr t (by simp))
    exact .inr (.inr (.inr ⟨a, b, c, d, e, f, g, h, i, rfl, rfl⟩))
/-- determinant of few rows -/
theorem bar_det {n : Nat} {M : List (List Int)} {S : D} (hS : S = .lst (M.map tupI) ∨ S = .tup (M.map tupI)) (hn : n ≤ 3) (hs : Sq n M) (hM : ∀ r ∈ M, ∀ x ∈ r, Bd 30 x) : F_determinant [S] = .ok (.int (det M)) := by
  have hb : (30 + 1) * 2 ^ n ≤ 401 := Nat.le_trans (Nat.mul_le_mul_left _ (Nat.pow_le_pow_right (by decide) hn)) (by decide)
  rw [bar_ok hS (by omega) hs hM (by decide) hb]
  rcases sq_cases hn hs with ⟨rfl, rfl⟩ | ⟨a, rfl, rfl⟩ | ⟨a, b, c, d, rfl, rfl⟩ | ⟨a, b, c, d, e, f, g, h, i, rfl, rfl⟩
  · rw [barR0]; rfl
  · rw [barR1]; rfl
  · rw [barR2]; rfl
  · rw [barR3]; rfl
/-- .. as the law has it -/
theorem law_det {n : Nat} {M : List (List Int)} {S : D} (hS : S = .lst (M.map tupI) ∨ S = .tup (M.map tupI)) (hn : n ≤ 3) (hs : Sq n M) (hM : ∀ r ∈ M, ∀ x ∈ r, Bd 30 x) : F__law_det 6 [S] = .ok (.int (det M)) := by
  rcases sq_cases hn hs with ⟨rfl, rfl⟩ | ⟨a, rfl, rfl⟩ | ⟨a, b, c, d, rfl, rfl⟩ | ⟨a, b, c, d, e, f, g, h, i, rfl, rfl⟩
  · rcases hS with rfl | rfl
    · exact det0 5
    · simp [F__law_det, m__law_det, ent, entD, runF, runD, runO, oSeq, sRetO, sSeq, sNil, sSet, sSetO, sRet, sRetN, sIf, sDrop, sBreak, sCont, sAppend, sExtend, sSetIx, sAug, sPar, sAsg, sRaise, mVar, mVarZ, mC, mBin, mT, mTAnd, mTOr, mTNot, mAnd, mOr, mNot, mIf, aNil, aCons, newTup, mTup, mFz, newLst, mLst, mCall, mIxO, mLenO, oNone, oSome, mSl, mBinL, mIsi, mFn, mFnK, mFnD, mFnDO, mUn, mItems, mItC, mYes, asB, R.bind, R.go, R.of, R.noBad, FR.to, FRD.to, tgN, tgsN, tgsC, tgT, gI, gIx, gLen, gAbs, gMax2, gMin2, gMin3, gInt, gTuple, gList, gSl, gSlL, gNeg, isT, gIsN, gNotN, gAddA, gMulA, gZip, List.map_cons, List.map_nil, List.length_cons, List.length_nil, List.replicate, List.append_eq, List.cons_append, List.nil_append, List.getElem?_cons_zero, List.getElem?_cons_succ, List.set_cons_zero, List.set_cons_succ, Option.map_some, Option.bind_some, Nat.reduceAdd, Nat.reduceSub, Nat.reduceLT, Nat.reduceLeDiff, Nat.reduceEqDiff, Int.reduceToNat, if_true, if_false, Bool.not_true, Bool.not_false, Bool.false_eq_true, List.length_append, Nat.zero_add, String.reduceEq, or_true, true_or, or_false, false_or, and_true, true_and, Nat.add_zero, Int.reduceLT, Int.reduceLE, decide_true, decide_false, decide_eq_true_eq, Int.reduceAdd, Int.reduceSub, Int.reduceMul, Int.reduceNeg, eqI]
      rfl
  · have ha : Bd 30 a := hM [a] (by simp) a (by simp)
    rcases hS with rfl | rfl
    · exact det1 4 a ha
    · exact dett1 4 a ha
  · have h1 := hM [a, b] (by simp)
    have h2 := hM [c, d] (by simp)
    rcases hS with rfl | rfl
    · exact det2 3 a b c d (h1 a (by simp)) (h1 b (by simp)) (h2 c (by simp)) (h2 d (by simp))
    · exact dett2 3 a b c d (h1 a (by simp)) (h1 b (by simp)) (h2 c (by simp)) (h2 d (by simp))
  · have h1 := hM [a, b, c] (by simp)
    have h2 := hM [d, e, f] (by simp)
    have h3 := hM [g, h, i] (by simp)
    rcases hS with rfl | rfl
    · exact det3 2 a b c d e f g h i (h1 a (by simp)) (h1 b (by simp)) (h1 c (by simp)) (h2 d (by simp)) (h2 e (by simp)) (h2 f (by simp)) (h3 g (by simp)) (h3 h (by simp)) (h3 i (by simp))
    · exact dett3 2 a b c d e f g h i (h1 a (by simp)) (h1 b (by simp)) (h1 c (by simp)) (h2 d (by simp)) (h2 e (by simp)) (h2 f (by simp)) (h3 g (by simp)) (h3 h (by simp)) (h3 i (by simp))
end Y

set_option Elab.async false
set_option linter.all false
set_option maxRecDepth 100000
set_option maxHeartbeats 4000000
namespace Y
open PySem PySem.Spec PyProof.Rows L2
theorem isint_ok (i : Int) : F_is_integer [.int i] = .ok (.bl true) := by
  simp [F_is_integer, m_is_integer, ent, entD, runF, runD, runO, oSeq, sRetO, sSeq, sNil, sSet, sSetO, sRet, sRetN, sIf, sDrop, sBreak, sCont, sAppend, sExtend, sSetIx, sAug, sPar, sAsg, sRaise, mVar, mVarZ, mC, mBin, mT, mTAnd, mTOr, mTNot, mAnd, mOr, mNot, mIf, aNil, aCons, newTup, mTup, mFz, newLst, mLst, mCall, mIxO, mLenO, oNone, oSome, mSl, mBinL, mIsi, mFn, mFnK, mFnD, mFnDO, mUn, mItems, mItC, mYes, asB, R.bind, R.go, R.of, R.noBad, FR.to, FRD.to, tgN, tgsN, tgsC, tgT, gI, gIx, gLen, gAbs, gMax2, gMin2, gMin3, gInt, gTuple, gList, gSl, gSlL, gNeg, isT, gIsN, gNotN, gAddA, gMulA, gZip, List.map_cons, List.map_nil, List.length_cons, List.length_nil, List.replicate, List.append_eq, List.cons_append, List.nil_append, List.getElem?_cons_zero, List.getElem?_cons_succ, List.set_cons_zero, List.set_cons_succ, Option.map_some, Option.bind_some, Nat.reduceAdd, Nat.reduceSub, Nat.reduceLT, Nat.reduceLeDiff, Nat.reduceEqDiff, Int.reduceToNat, if_true, if_false, Bool.not_true, Bool.not_false, Bool.false_eq_true, List.length_append, Nat.zero_add, String.reduceEq, or_true, true_or, or_false, false_or, and_true, true_and, Nat.add_zero, Int.reduceLT, Int.reduceLE, decide_true, decide_false, decide_eq_true_eq, Int.reduceAdd, Int.reduceSub, Int.reduceMul, Int.reduceNeg]
theorem seq_if_no {t : MT} {a b : SX} {env e : Env} (h : t env = .ok false e) : sSeq (sIf t a sNil) b env = b e := seq_nx (by rw [if_no h]; rfl)
theorem bools_all {α : Type} (l : List α) (p : α → Bool) : bools (l.map fun x => D.bl (p x)) = some (l.map p) := by
  induction l with
  | nil => rfl
  | cons a l ih => simp [bools, ih]
theorem row_of_ok {r : List Int} {w : Nat} (hr : r.length = w) (hw : w ≤ 1000) (hb : ∀ x ∈ r, -1000000 ≤ x ∧ x ≤ 1000000) : F_is_row_of [tupI r, .int w] = .ok (.bl true) := by
  have e1 : mAllG (mItems (mVar 0)) (tgN 2) (mFn 1 F_is_integer (aCons (mVar 2) aNil)) [2] [.va (tupI r), .va (.int w), .un] = .ok (.bl true) [.va (tupI r), .va (.int w), .un] := by
    rw [mAllG_name (p := fun _ => true) (ds := zs r)]
    · simp
    · simp [ent, entD, runF, runD, runO, oSeq, sRetO, sSeq, sNil, sSet, sSetO, sRet, sRetN, sIf, sDrop, sBreak, sCont, sAppend, sExtend, sSetIx, sAug, sPar, sAsg, sRaise, mVar, mVarZ, mC, mBin, mT, mTAnd, mTOr, mTNot, mAnd, mOr, mNot, mIf, aNil, aCons, newTup, mTup, mFz, newLst, mLst, mCall, mIxO, mLenO, oNone, oSome, mSl, mBinL, mIsi, mFn, mFnK, mFnD, mFnDO, mUn, mItems, mItC, mYes, asB, R.bind, R.go, R.of, R.noBad, FR.to, FRD.to, tgN, tgsN, tgsC, tgT, gI, gIx, gLen, gAbs, gMax2, gMin2, gMin3, gInt, gTuple, gList, gSl, gSlL, gNeg, isT, gIsN, gNotN, gAddA, gMulA, gZip, List.map_cons, List.map_nil, List.length_cons, List.length_nil, List.replicate, List.append_eq, List.cons_append, List.nil_append, List.getElem?_cons_zero, List.getElem?_cons_succ, List.set_cons_zero, List.set_cons_succ, Option.map_some, Option.bind_some, Nat.reduceAdd, Nat.reduceSub, Nat.reduceLT, Nat.reduceLeDiff, Nat.reduceEqDiff, Int.reduceToNat, if_true, if_false, Bool.not_true, Bool.not_false, Bool.false_eq_true, List.length_append, Nat.zero_add, String.reduceEq, or_true, true_or, or_false, false_or, and_true, true_and, Nat.add_zero, Int.reduceLT, Int.reduceLE, decide_true, decide_false, decide_eq_true_eq, Int.reduceAdd, Int.reduceSub, Int.reduceMul, Int.reduceNeg]
    · intro d hd
      obtain ⟨x, hx, rfl⟩ := List.mem_map.1 hd
      simp [ent, entD, runF, runD, runO, oSeq, sRetO, sSeq, sNil, sSet, sSetO, sRet, sRetN, sIf, sDrop, sBreak, sCont, sAppend, sExtend, sSetIx, sAug, sPar, sAsg, sRaise, mVar, mVarZ, mC, mBin, mT, mTAnd, mTOr, mTNot, mAnd, mOr, mNot, mIf, aNil, aCons, newTup, mTup, mFz, newLst, mLst, mCall, mIxO, mLenO, oNone, oSome, mSl, mBinL, mIsi, mFn, mFnK, mFnD, mFnDO, mUn, mItems, mItC, mYes, asB, R.bind, R.go, R.of, R.noBad, FR.to, FRD.to, tgN, tgsN, tgsC, tgT, gI, gIx, gLen, gAbs, gMax2, gMin2, gMin3, gInt, gTuple, gList, gSl, gSlL, gNeg, isT, gIsN, gNotN, gAddA, gMulA, gZip, List.map_cons, List.map_nil, List.length_cons, List.length_nil, List.replicate, List.append_eq, List.cons_append, List.nil_append, List.getElem?_cons_zero, List.getElem?_cons_succ, List.set_cons_zero, List.set_cons_succ, Option.map_some, Option.bind_some, Nat.reduceAdd, Nat.reduceSub, Nat.reduceLT, Nat.reduceLeDiff, Nat.reduceEqDiff, Int.reduceToNat, if_true, if_false, Bool.not_true, Bool.not_false, Bool.false_eq_true, List.length_append, Nat.zero_add, String.reduceEq, or_true, true_or, or_false, false_or, and_true, true_and, Nat.add_zero, Int.reduceLT, Int.reduceLE, decide_true, decide_false, decide_eq_true_eq, Int.reduceAdd, Int.reduceSub, Int.reduceMul, Int.reduceNeg, dropO, isint_ok]
  have e2 : c_is_row_of_2 [.va (tupI r), .va (.int w), .un] = .ok (r.map fun x => .bl true) [.va (tupI r), .va (.int w), .un] := by
    unfold c_is_row_of_2
    rw [mLc_map (f := fun _ => .bl true) (ds := zs r)]
    · simp [zs, Function.comp_def]
    · simp [ent, entD, runF, runD, runO, oSeq, sRetO, sSeq, sNil, sSet, sSetO, sRet, sRetN, sIf, sDrop, sBreak, sCont, sAppend, sExtend, sSetIx, sAug, sPar, sAsg, sRaise, mVar, mVarZ, mC, mBin, mT, mTAnd, mTOr, mTNot, mAnd, mOr, mNot, mIf, aNil, aCons, newTup, mTup, mFz, newLst, mLst, mCall, mIxO, mLenO, oNone, oSome, mSl, mBinL, mIsi, mFn, mFnK, mFnD, mFnDO, mUn, mItems, mItC, mYes, asB, R.bind, R.go, R.of, R.noBad, FR.to, FRD.to, tgN, tgsN, tgsC, tgT, gI, gIx, gLen, gAbs, gMax2, gMin2, gMin3, gInt, gTuple, gList, gSl, gSlL, gNeg, isT, gIsN, gNotN, gAddA, gMulA, gZip, List.map_cons, List.map_nil, List.length_cons, List.length_nil, List.replicate, List.append_eq, List.cons_append, List.nil_append, List.getElem?_cons_zero, List.getElem?_cons_succ, List.set_cons_zero, List.set_cons_succ, Option.map_some, Option.bind_some, Nat.reduceAdd, Nat.reduceSub, Nat.reduceLT, Nat.reduceLeDiff, Nat.reduceEqDiff, Int.reduceToNat, if_true, if_false, Bool.not_true, Bool.not_false, Bool.false_eq_true, List.length_append, Nat.zero_add, String.reduceEq, or_true, true_or, or_false, false_or, and_true, true_and, Nat.add_zero, Int.reduceLT, Int.reduceLE, decide_true, decide_false, decide_eq_true_eq, Int.reduceAdd, Int.reduceSub, Int.reduceMul, Int.reduceNeg]
    · simp [big_eq]; omega
    · intro d hd
      obtain ⟨x, hx, rfl⟩ := List.mem_map.1 hd
      have := hb x hx
      have h2 : (if x < 0 then -x else x) ≤ 1000000 := by split <;> omega
      simp [ent, entD, runF, runD, runO, oSeq, sRetO, sSeq, sNil, sSet, sSetO, sRet, sRetN, sIf, sDrop, sBreak, sCont, sAppend, sExtend, sSetIx, sAug, sPar, sAsg, sRaise, mVar, mVarZ, mC, mBin, mT, mTAnd, mTOr, mTNot, mAnd, mOr, mNot, mIf, aNil, aCons, newTup, mTup, mFz, newLst, mLst, mCall, mIxO, mLenO, oNone, oSome, mSl, mBinL, mIsi, mFn, mFnK, mFnD, mFnDO, mUn, mItems, mItC, mYes, asB, R.bind, R.go, R.of, R.noBad, FR.to, FRD.to, tgN, tgsN, tgsC, tgT, gI, gIx, gLen, gAbs, gMax2, gMin2, gMin3, gInt, gTuple, gList, gSl, gSlL, gNeg, isT, gIsN, gNotN, gAddA, gMulA, gZip, List.map_cons, List.map_nil, List.length_cons, List.length_nil, List.replicate, List.append_eq, List.cons_append, List.nil_append, List.getElem?_cons_zero, List.getElem?_cons_succ, List.set_cons_zero, List.set_cons_succ, Option.map_some, Option.bind_some, Nat.reduceAdd, Nat.reduceSub, Nat.reduceLT, Nat.reduceLeDiff, Nat.reduceEqDiff, Int.reduceToNat, if_true, if_false, Bool.not_true, Bool.not_false, Bool.false_eq_true, List.length_append, Nat.zero_add, String.reduceEq, or_true, true_or, or_false, false_or, and_true, true_and, Nat.add_zero, Int.reduceLT, Int.reduceLE, decide_true, decide_false, decide_eq_true_eq, Int.reduceAdd, Int.reduceSub, Int.reduceMul, Int.reduceNeg, h2]
  unfold F_is_row_of m_is_row_of runF
  rw [show ent 3 [tupI r, .int w] = [.va (tupI r), .va (.int w), .un] from rfl]
  rw [seq_if_no (e := [.va (tupI r), .va (.int w), .un]) (by simp [ent, entD, runF, runD, runO, oSeq, sRetO, sSeq, sNil, sSet, sSetO, sRet, sRetN, sIf, sDrop, sBreak, sCont, sAppend, sExtend, sSetIx, sAug, sPar, sAsg, sRaise, mVar, mVarZ, mC, mBin, mT, mTAnd, mTOr, mTNot, mAnd, mOr, mNot, mIf, aNil, aCons, newTup, mTup, mFz, newLst, mLst, mCall, mIxO, mLenO, oNone, oSome, mSl, mBinL, mIsi, mFn, mFnK, mFnD, mFnDO, mUn, mItems, mItC, mYes, asB, R.bind, R.go, R.of, R.noBad, FR.to, FRD.to, tgN, tgsN, tgsC, tgT, gI, gIx, gLen, gAbs, gMax2, gMin2, gMin3, gInt, gTuple, gList, gSl, gSlL, gNeg, isT, gIsN, gNotN, gAddA, gMulA, gZip, List.map_cons, List.map_nil, List.length_cons, List.length_nil, List.replicate, List.append_eq, List.cons_append, List.nil_append, List.getElem?_cons_zero, List.getElem?_cons_succ, List.set_cons_zero, List.set_cons_succ, Option.map_some, Option.bind_some, Nat.reduceAdd, Nat.reduceSub, Nat.reduceLT, Nat.reduceLeDiff, Nat.reduceEqDiff, Int.reduceToNat, if_true, if_false, Bool.not_true, Bool.not_false, Bool.false_eq_true, List.length_append, Nat.zero_add, String.reduceEq, or_true, true_or, or_false, false_or, and_true, true_and, Nat.add_zero, Int.reduceLT, Int.reduceLE, decide_true, decide_false, decide_eq_true_eq, Int.reduceAdd, Int.reduceSub, Int.reduceMul, Int.reduceNeg, hr, neI, e1])]
  have := bools_all r fun _ => true
  simp only [sRet, mCall, aCons, aNil, mFz, e2, R.bind, gAll, this, Option.map_some, R.of, R.go]
  simp
/-- a good grid -/
structure Grid (w : Nat) (b : Int) (m : List (List Int)) : Prop where
  w1 : 1 ≤ w
  w6 : w ≤ 6
  m6 : m.length ≤ 6
  rows : Rows w b m
theorem grid_good {w : Nat} {b : Int} {m : List (List Int)} (h : Grid w b m) (hb : b ≤ 1000000) : F_is_grid [gridD w m] = .ok (.bl true) := by
  have e1 : ∀ x, mAllG (mItems (mBin gIx (mVar 0) (mC (.int 1)))) (tgN 1) (mFn 2 F_is_row_of (aCons (mVar 1) (aCons (mBin gIx (mVar 0) (mC (.int 0))) aNil))) [1] [.va (gridD w m), x] = .ok (.bl true) [.va (gridD w m), x] := by
    intro x
    rw [mAllG_name (p := fun _ => true) (ds := m.map tupI)]
    · simp
    · simp [ent, entD, runF, runD, runO, oSeq, sRetO, sSeq, sNil, sSet, sSetO, sRet, sRetN, sIf, sDrop, sBreak, sCont, sAppend, sExtend, sSetIx, sAug, sPar, sAsg, sRaise, mVar, mVarZ, mC, mBin, mT, mTAnd, mTOr, mTNot, mAnd, mOr, mNot, mIf, aNil, aCons, newTup, mTup, mFz, newLst, mLst, mCall, mIxO, mLenO, oNone, oSome, mSl, mBinL, mIsi, mFn, mFnK, mFnD, mFnDO, mUn, mItems, mItC, mYes, asB, R.bind, R.go, R.of, R.noBad, FR.to, FRD.to, tgN, tgsN, tgsC, tgT, gI, gIx, gLen, gAbs, gMax2, gMin2, gMin3, gInt, gTuple, gList, gSl, gSlL, gNeg, isT, gIsN, gNotN, gAddA, gMulA, gZip, List.map_cons, List.map_nil, List.length_cons, List.length_nil, List.replicate, List.append_eq, List.cons_append, List.nil_append, List.getElem?_cons_zero, List.getElem?_cons_succ, List.set_cons_zero, List.set_cons_succ, Option.map_some, Option.bind_some, Nat.reduceAdd, Nat.reduceSub, Nat.reduceLT, Nat.reduceLeDiff, Nat.reduceEqDiff, Int.reduceToNat, if_true, if_false, Bool.not_true, Bool.not_false, Bool.false_eq_true, List.length_append, Nat.zero_add, String.reduceEq, or_true, true_or, or_false, false_or, and_true, true_and, Nat.add_zero, Int.reduceLT, Int.reduceLE, decide_true, decide_false, decide_eq_true_eq, Int.reduceAdd, Int.reduceSub, Int.reduceMul, Int.reduceNeg, atI, ixN]
    · intro d hd
      obtain ⟨r, hr, rfl⟩ := List.mem_map.1 hd
      have q := row_of_ok (h.rows.len r hr) (by have := h.w6; omega) fun x hx => by have := h.rows.le r hr x hx; omega
      simp [ent, entD, runF, runD, runO, oSeq, sRetO, sSeq, sNil, sSet, sSetO, sRet, sRetN, sIf, sDrop, sBreak, sCont, sAppend, sExtend, sSetIx, sAug, sPar, sAsg, sRaise, mVar, mVarZ, mC, mBin, mT, mTAnd, mTOr, mTNot, mAnd, mOr, mNot, mIf, aNil, aCons, newTup, mTup, mFz, newLst, mLst, mCall, mIxO, mLenO, oNone, oSome, mSl, mBinL, mIsi, mFn, mFnK, mFnD, mFnDO, mUn, mItems, mItC, mYes, asB, R.bind, R.go, R.of, R.noBad, FR.to, FRD.to, tgN, tgsN, tgsC, tgT, gI, gIx, gLen, gAbs, gMax2, gMin2, gMin3, gInt, gTuple, gList, gSl, gSlL, gNeg, isT, gIsN, gNotN, gAddA, gMulA, gZip, List.map_cons, List.map_nil, List.length_cons, List.length_nil, List.replicate, List.append_eq, List.cons_append, List.nil_append, List.getElem?_cons_zero, List.getElem?_cons_succ, List.set_cons_zero, List.set_cons_succ, Option.map_some, Option.bind_some, Nat.reduceAdd, Nat.reduceSub, Nat.reduceLT, Nat.reduceLeDiff, Nat.reduceEqDiff, Int.reduceToNat, if_true, if_false, Bool.not_true, Bool.not_false, Bool.false_eq_true, List.length_append, Nat.zero_add, String.reduceEq, or_true, true_or, or_false, false_or, and_true, true_and, Nat.add_zero, Int.reduceLT, Int.reduceLE, decide_true, decide_false, decide_eq_true_eq, Int.reduceAdd, Int.reduceSub, Int.reduceMul, Int.reduceNeg, dropO, atI, ixN, q]
  have h1 : (1 : Int) ≤ w := by have := h.w1; omega
  have h2 : (w : Int) ≤ 6 := by have := h.w6; omega
  have h3 : ¬ (6 : Int) < m.length := by have := h.m6; omega
  unfold F_is_grid m_is_grid runF
  rw [show ent 2 [gridD w m] = [.va (gridD w m), .un] from rfl]
  rw [seq_if_no (e := [.va (gridD w m), .un]) (by simp [ent, entD, runF, runD, runO, oSeq, sRetO, sSeq, sNil, sSet, sSetO, sRet, sRetN, sIf, sDrop, sBreak, sCont, sAppend, sExtend, sSetIx, sAug, sPar, sAsg, sRaise, mVar, mVarZ, mC, mBin, mT, mTAnd, mTOr, mTNot, mAnd, mOr, mNot, mIf, aNil, aCons, newTup, mTup, mFz, newLst, mLst, mCall, mIxO, mLenO, oNone, oSome, mSl, mBinL, mIsi, mFn, mFnK, mFnD, mFnDO, mUn, mItems, mItC, mYes, asB, R.bind, R.go, R.of, R.noBad, FR.to, FRD.to, tgN, tgsN, tgsC, tgT, gI, gIx, gLen, gAbs, gMax2, gMin2, gMin3, gInt, gTuple, gList, gSl, gSlL, gNeg, isT, gIsN, gNotN, gAddA, gMulA, gZip, List.map_cons, List.map_nil, List.length_cons, List.length_nil, List.replicate, List.append_eq, List.cons_append, List.nil_append, List.getElem?_cons_zero, List.getElem?_cons_succ, List.set_cons_zero, List.set_cons_succ, Option.map_some, Option.bind_some, Nat.reduceAdd, Nat.reduceSub, Nat.reduceLT, Nat.reduceLeDiff, Nat.reduceEqDiff, Int.reduceToNat, if_true, if_false, Bool.not_true, Bool.not_false, Bool.false_eq_true, List.length_append, Nat.zero_add, String.reduceEq, or_true, true_or, or_false, false_or, and_true, true_and, Nat.add_zero, Int.reduceLT, Int.reduceLE, decide_true, decide_false, decide_eq_true_eq, Int.reduceAdd, Int.reduceSub, Int.reduceMul, Int.reduceNeg, neI, atI, ixN, isint_ok, mChain, h1, h2])]
  rw [seq_if_no (e := [.va (gridD w m), .un]) (by simp [ent, entD, runF, runD, runO, oSeq, sRetO, sSeq, sNil, sSet, sSetO, sRet, sRetN, sIf, sDrop, sBreak, sCont, sAppend, sExtend, sSetIx, sAug, sPar, sAsg, sRaise, mVar, mVarZ, mC, mBin, mT, mTAnd, mTOr, mTNot, mAnd, mOr, mNot, mIf, aNil, aCons, newTup, mTup, mFz, newLst, mLst, mCall, mIxO, mLenO, oNone, oSome, mSl, mBinL, mIsi, mFn, mFnK, mFnD, mFnDO, mUn, mItems, mItC, mYes, asB, R.bind, R.go, R.of, R.noBad, FR.to, FRD.to, tgN, tgsN, tgsC, tgT, gI, gIx, gLen, gAbs, gMax2, gMin2, gMin3, gInt, gTuple, gList, gSl, gSlL, gNeg, isT, gIsN, gNotN, gAddA, gMulA, gZip, List.map_cons, List.map_nil, List.length_cons, List.length_nil, List.replicate, List.append_eq, List.cons_append, List.nil_append, List.getElem?_cons_zero, List.getElem?_cons_succ, List.set_cons_zero, List.set_cons_succ, Option.map_some, Option.bind_some, Nat.reduceAdd, Nat.reduceSub, Nat.reduceLT, Nat.reduceLeDiff, Nat.reduceEqDiff, Int.reduceToNat, if_true, if_false, Bool.not_true, Bool.not_false, Bool.false_eq_true, List.length_append, Nat.zero_add, String.reduceEq, or_true, true_or, or_false, false_or, and_true, true_and, Nat.add_zero, Int.reduceLT, Int.reduceLE, decide_true, decide_false, decide_eq_true_eq, Int.reduceAdd, Int.reduceSub, Int.reduceMul, Int.reduceNeg, neI, atI, ixN, h3])]
  simp only [sRet, e1, R.go]
theorem need_ok {w : Nat} {b : Int} {m : List (List Int)} (h : Grid w b m) (hb : b ≤ 1000000) (x : D) : F_need_grid [gridD w m, x] = .ok .non := by
  have := grid_good h hb
  simp [F_need_grid, m_need_grid, ent, entD, runF, runD, runO, oSeq, sRetO, sSeq, sNil, sSet, sSetO, sRet, sRetN, sIf, sDrop, sBreak, sCont, sAppend, sExtend, sSetIx, sAug, sPar, sAsg, sRaise, mVar, mVarZ, mC, mBin, mT, mTAnd, mTOr, mTNot, mAnd, mOr, mNot, mIf, aNil, aCons, newTup, mTup, mFz, newLst, mLst, mCall, mIxO, mLenO, oNone, oSome, mSl, mBinL, mIsi, mFn, mFnK, mFnD, mFnDO, mUn, mItems, mItC, mYes, asB, R.bind, R.go, R.of, R.noBad, FR.to, FRD.to, tgN, tgsN, tgsC, tgT, gI, gIx, gLen, gAbs, gMax2, gMin2, gMin3, gInt, gTuple, gList, gSl, gSlL, gNeg, isT, gIsN, gNotN, gAddA, gMulA, gZip, List.map_cons, List.map_nil, List.length_cons, List.length_nil, List.replicate, List.append_eq, List.cons_append, List.nil_append, List.getElem?_cons_zero, List.getElem?_cons_succ, List.set_cons_zero, List.set_cons_succ, Option.map_some, Option.bind_some, Nat.reduceAdd, Nat.reduceSub, Nat.reduceLT, Nat.reduceLeDiff, Nat.reduceEqDiff, Int.reduceToNat, if_true, if_false, Bool.not_true, Bool.not_false, Bool.false_eq_true, List.length_append, Nat.zero_add, String.reduceEq, or_true, true_or, or_false, false_or, and_true, true_and, Nat.add_zero, Int.reduceLT, Int.reduceLE, decide_true, decide_false, decide_eq_true_eq, Int.reduceAdd, Int.reduceSub, Int.reduceMul, Int.reduceNeg, this]
end Y

set_option Elab.async false
set_option linter.all false
set_option maxRecDepth 100000
set_option maxHeartbeats 4000000
namespace Y
open PySem PySem.Spec PyProof.Rows L2
/-- the ways to choose -/
def comb : Nat → Nat → List (List Int)
  | _, 0 => [[]]
  | n, k + 1 => (comb n k).flatMap fun r => ((List.range n).filter fun j : Nat => match r.getLast? with | some l => decide (l < (j : Int)) | none => true).map fun j : Nat => r ++ [(j : Int)]
theorem le4 {n : Nat} (h : n ≤ 4) : n = 0 ∨ n = 1 ∨ n = 2 ∨ n = 3 ∨ n = 4 := by omega
theorem some_ok {n k : Nat} (hn : n ≤ 4) (hk : k ≤ 4) : F__law_some [.int n, .int k] = .ok (.lst ((comb n k).map tupI)) := by
  rcases le4 hn with rfl | rfl | rfl | rfl | rfl <;> rcases le4 hk with rfl | rfl | rfl | rfl | rfl <;> rfl
theorem chosen_ok {n k : Nat} (hn : n ≤ 4) (hk : k ≤ 4) : F_chosen [.int n, .int k] = .ok (.lst ((comb n k).map tupI)) := by
  rcases le4 hn with rfl | rfl | rfl | rfl | rfl <;> rcases le4 hk with rfl | rfl | rfl | rfl | rfl <;> rfl
/-- a choice of k places below n -/
structure Cho (n k : Nat) (c : List Int) : Prop where
  len : c.length = k
  lt : ∀ x ∈ c, 0 ≤ x ∧ x < n
theorem comb_cho {n k : Nat} (hn : n ≤ 4) (hk : k ≤ 4) {c : List Int} (h : c ∈ comb n k) : Cho n k c := by
  have key : (List.range 5).all (fun n => (List.range 5).all fun k => (comb n k).all fun c => decide (c.length = k) && c.all fun x => decide (0 ≤ x) && decide (x < (n : Int))) = true := by decide +kernel
  have h1 := (List.all_eq_true.1 ((List.all_eq_true.1 ((List.all_eq_true.1 key) n (List.mem_range.2 (by omega)))) k (List.mem_range.2 (by omega)))) c h
  simp only [Bool.and_eq_true, decide_eq_true_eq, List.all_eq_true] at h1
  exact ⟨h1.1, fun x hx => h1.2 x hx⟩
theorem cho_ok {n k : Nat} (hn : n ≤ 4) (hk : k ≤ 4) {c : List Int} (h : c ∈ comb n k) : F_is_choice [tupI c, .int n] = .ok (.bl true) := by
  have key : ∀ n k : Nat, n ≤ 4 → k ≤ 4 → ((comb n k).all fun c => match F_is_choice [tupI c, .int n] with | .ok (.bl b) => b | _ => false) = true := by
    intro n k hn hk
    rcases le4 hn with rfl | rfl | rfl | rfl | rfl <;> rcases le4 hk with rfl | rfl | rfl | rfl | rfl <;> rfl
  have h1 := (List.all_eq_true.1 (key n k hn hk)) c h
  cases e : F_is_choice [tupI c, .int n] with
  | ok d =>
    rw [e] at h1
    cases d with
    | bl b => cases b with
      | true => rfl
      | false => cases h1
    | _ => cases h1
  | _ => rw [e] at h1; cases h1
/-- a part of the rows -/
def subm (M : List (List Int)) (U V : List Int) : List (List Int) := U.map fun u => V.map fun v => gt M u.toNat v.toNat
theorem rows_gt {w : Nat} {b : Int} {M : List (List Int)} (h : Rows w b M) {u v : Int} (hu : 0 ≤ u ∧ u < M.length) (hv : 0 ≤ v ∧ v < w) : ∃ r, atI (M.map tupI) u = some (tupI r) ∧ atI (zs r) v = some (.int (gt M u.toNat v.toNat)) ∧ -b ≤ gt M u.toNat v.toNat ∧ gt M u.toNat v.toNat ≤ b := by
  have e1 : u.toNat < M.length := by omega
  have hr := List.getElem_mem e1
  have e2 : v.toNat < (M[u.toNat]).length := by rw [h.len _ hr]; omega
  have e3 : gt M u.toNat v.toNat = (M[u.toNat])[v.toNat] := by
    unfold gt
    rw [List.getElem?_eq_getElem e1]
    simp [List.getElem?_eq_getElem e2]
  refine ⟨M[u.toNat], ?_, ?_, ?_⟩
  · have := atI_nat (l := M.map tupI) (i := u.toNat) (x := tupI (M[u.toNat])) (by simp [List.getElem?_eq_getElem e1])
    rwa [Int.toNat_of_nonneg hu.1] at this
  · have := zs_get (r := M[u.toNat]) (i := v.toNat) (x := gt M u.toNat v.toNat) (by rw [List.getElem?_eq_getElem e2, e3])
    rwa [Int.toNat_of_nonneg hv.1] at this
  · rw [e3]
    exact h.le _ hr _ (List.getElem_mem e2)
theorem subm_sq {M : List (List Int)} {U V : List Int} {k : Nat} (hU : U.length = k) (hV : V.length = k) : Sq k (subm M U V) := by
  refine ⟨by simp [subm, hU], fun r hr => ?_⟩
  obtain ⟨u, _, rfl⟩ := List.mem_map.1 hr
  simp [hV]
theorem bd_of {b : Int} {x : Int} (h : -b ≤ x ∧ x ≤ b) (hb : b < 2 ^ 30) : Bd 30 x := by
  unfold Bd
  omega
theorem part_ok {w k m : Nat} {b : Int} {M : List (List Int)} (h : Rows w b M) (hb : b < 2 ^ 30) {U V : List Int} (hm : M.length = m) (hU : Cho m k U) (hV : Cho w k V) (hk : k ≤ 3) : F_part [tupM M, tupI U, tupI V] = .ok (.int (det (subm M U V))) ∧ F__law_part [tupM M, tupI U, tupI V] = .ok (.int (det (subm M U V))) := by
  subst hm
  have in2 : ∀ u ∈ U, ∀ E : Env, E = [.va (tupM M), .va (tupI U), .va (tupI V), .va (.int u), .un] → mLc (mItems (mVar 2)) (tgN 4) mYes (mBin gIx (mBin gIx (mVar 0) (mVar 3)) (mVar 4)) [4] E = .ok (zs (V.map fun v => gt M u.toNat v.toNat)) E := by
    rintro u hu E rfl
    rw [mLc_map (ds := zs V) (f := fun d => match d with | .int v => .int (gt M u.toNat v.toNat) | d => d)]
    · rw [List.map_map, zs, List.map_map]
      rfl
    · simp [ent, entD, runF, runD, runO, oSeq, sRetO, sSeq, sNil, sSet, sSetO, sRet, sRetN, sIf, sDrop, sBreak, sCont, sAppend, sExtend, sSetIx, sAug, sPar, sAsg, sRaise, mVar, mVarZ, mC, mBin, mT, mTAnd, mTOr, mTNot, mAnd, mOr, mNot, mIf, aNil, aCons, newTup, mTup, mFz, newLst, mLst, mCall, mIxO, mLenO, oNone, oSome, mSl, mBinL, mIsi, mFn, mFnK, mFnD, mFnDO, mUn, mItems, mItC, mYes, asB, R.bind, R.go, R.of, R.noBad, FR.to, FRD.to, tgN, tgsN, tgsC, tgT, gI, gIx, gLen, gAbs, gMax2, gMin2, gMin3, gInt, gTuple, gList, gSl, gSlL, gNeg, isT, gIsN, gNotN, gAddA, gMulA, gZip, List.map_cons, List.map_nil, List.length_cons, List.length_nil, List.replicate, List.append_eq, List.cons_append, List.nil_append, List.getElem?_cons_zero, List.getElem?_cons_succ, List.set_cons_zero, List.set_cons_succ, Option.map_some, Option.bind_some, Nat.reduceAdd, Nat.reduceSub, Nat.reduceLT, Nat.reduceLeDiff, Nat.reduceEqDiff, Int.reduceToNat, if_true, if_false, Bool.not_true, Bool.not_false, Bool.false_eq_true, List.length_append, Nat.zero_add, String.reduceEq, or_true, true_or, or_false, false_or, and_true, true_and, Nat.add_zero, Int.reduceLT, Int.reduceLE, decide_true, decide_false, decide_eq_true_eq, Int.reduceAdd, Int.reduceSub, Int.reduceMul, Int.reduceNeg]
    · simp [hV.len, big_eq]; omega
    · intro d hd
      obtain ⟨v, hv, rfl⟩ := List.mem_map.1 hd
      obtain ⟨r, h1, h2, _⟩ := rows_gt h (hU.lt u hu) (hV.lt v hv)
      simp [ent, entD, runF, runD, runO, oSeq, sRetO, sSeq, sNil, sSet, sSetO, sRet, sRetN, sIf, sDrop, sBreak, sCont, sAppend, sExtend, sSetIx, sAug, sPar, sAsg, sRaise, mVar, mVarZ, mC, mBin, mT, mTAnd, mTOr, mTNot, mAnd, mOr, mNot, mIf, aNil, aCons, newTup, mTup, mFz, newLst, mLst, mCall, mIxO, mLenO, oNone, oSome, mSl, mBinL, mIsi, mFn, mFnK, mFnD, mFnDO, mUn, mItems, mItC, mYes, asB, R.bind, R.go, R.of, R.noBad, FR.to, FRD.to, tgN, tgsN, tgsC, tgT, gI, gIx, gLen, gAbs, gMax2, gMin2, gMin3, gInt, gTuple, gList, gSl, gSlL, gNeg, isT, gIsN, gNotN, gAddA, gMulA, gZip, List.map_cons, List.map_nil, List.length_cons, List.length_nil, List.replicate, List.append_eq, List.cons_append, List.nil_append, List.getElem?_cons_zero, List.getElem?_cons_succ, List.set_cons_zero, List.set_cons_succ, Option.map_some, Option.bind_some, Nat.reduceAdd, Nat.reduceSub, Nat.reduceLT, Nat.reduceLeDiff, Nat.reduceEqDiff, Int.reduceToNat, if_true, if_false, Bool.not_true, Bool.not_false, Bool.false_eq_true, List.length_append, Nat.zero_add, String.reduceEq, or_true, true_or, or_false, false_or, and_true, true_and, Nat.add_zero, Int.reduceLT, Int.reduceLE, decide_true, decide_false, decide_eq_true_eq, Int.reduceAdd, Int.reduceSub, Int.reduceMul, Int.reduceNeg, h1, h2]
  have in1 : ∀ c2 : ML, (∀ u ∈ U, ∀ E : Env, E = [.va (tupM M), .va (tupI U), .va (tupI V), .va (.int u), .un] → c2 E = .ok (zs (V.map fun v => gt M u.toNat v.toNat)) E) → mLc (mItems (mVar 1)) (tgN 3) mYes (mCall gTuple (aCons (mFz c2) aNil)) [3] [.va (tupM M), .va (tupI U), .va (tupI V), .un, .un] = .ok ((subm M U V).map tupI) [.va (tupM M), .va (tupI U), .va (tupI V), .un, .un] := by
    intro c2 hc
    rw [mLc_map (ds := zs U) (f := fun d => match d with | .int u => tupI (V.map fun v => gt M u.toNat v.toNat) | d => d)]
    · rw [List.map_map, subm, List.map_map]
      rfl
    · simp [ent, entD, runF, runD, runO, oSeq, sRetO, sSeq, sNil, sSet, sSetO, sRet, sRetN, sIf, sDrop, sBreak, sCont, sAppend, sExtend, sSetIx, sAug, sPar, sAsg, sRaise, mVar, mVarZ, mC, mBin, mT, mTAnd, mTOr, mTNot, mAnd, mOr, mNot, mIf, aNil, aCons, newTup, mTup, mFz, newLst, mLst, mCall, mIxO, mLenO, oNone, oSome, mSl, mBinL, mIsi, mFn, mFnK, mFnD, mFnDO, mUn, mItems, mItC, mYes, asB, R.bind, R.go, R.of, R.noBad, FR.to, FRD.to, tgN, tgsN, tgsC, tgT, gI, gIx, gLen, gAbs, gMax2, gMin2, gMin3, gInt, gTuple, gList, gSl, gSlL, gNeg, isT, gIsN, gNotN, gAddA, gMulA, gZip, List.map_cons, List.map_nil, List.length_cons, List.length_nil, List.replicate, List.append_eq, List.cons_append, List.nil_append, List.getElem?_cons_zero, List.getElem?_cons_succ, List.set_cons_zero, List.set_cons_succ, Option.map_some, Option.bind_some, Nat.reduceAdd, Nat.reduceSub, Nat.reduceLT, Nat.reduceLeDiff, Nat.reduceEqDiff, Int.reduceToNat, if_true, if_false, Bool.not_true, Bool.not_false, Bool.false_eq_true, List.length_append, Nat.zero_add, String.reduceEq, or_true, true_or, or_false, false_or, and_true, true_and, Nat.add_zero, Int.reduceLT, Int.reduceLE, decide_true, decide_false, decide_eq_true_eq, Int.reduceAdd, Int.reduceSub, Int.reduceMul, Int.reduceNeg]
    · simp [hU.len, big_eq]; omega
    · intro d hd
      obtain ⟨u, hu, rfl⟩ := List.mem_map.1 hd
      have := hc u hu _ rfl
      simp [ent, entD, runF, runD, runO, oSeq, sRetO, sSeq, sNil, sSet, sSetO, sRet, sRetN, sIf, sDrop, sBreak, sCont, sAppend, sExtend, sSetIx, sAug, sPar, sAsg, sRaise, mVar, mVarZ, mC, mBin, mT, mTAnd, mTOr, mTNot, mAnd, mOr, mNot, mIf, aNil, aCons, newTup, mTup, mFz, newLst, mLst, mCall, mIxO, mLenO, oNone, oSome, mSl, mBinL, mIsi, mFn, mFnK, mFnD, mFnDO, mUn, mItems, mItC, mYes, asB, R.bind, R.go, R.of, R.noBad, FR.to, FRD.to, tgN, tgsN, tgsC, tgT, gI, gIx, gLen, gAbs, gMax2, gMin2, gMin3, gInt, gTuple, gList, gSl, gSlL, gNeg, isT, gIsN, gNotN, gAddA, gMulA, gZip, List.map_cons, List.map_nil, List.length_cons, List.length_nil, List.replicate, List.append_eq, List.cons_append, List.nil_append, List.getElem?_cons_zero, List.getElem?_cons_succ, List.set_cons_zero, List.set_cons_succ, Option.map_some, Option.bind_some, Nat.reduceAdd, Nat.reduceSub, Nat.reduceLT, Nat.reduceLeDiff, Nat.reduceEqDiff, Int.reduceToNat, if_true, if_false, Bool.not_true, Bool.not_false, Bool.false_eq_true, List.length_append, Nat.zero_add, String.reduceEq, or_true, true_or, or_false, false_or, and_true, true_and, Nat.add_zero, Int.reduceLT, Int.reduceLE, decide_true, decide_false, decide_eq_true_eq, Int.reduceAdd, Int.reduceSub, Int.reduceMul, Int.reduceNeg, this, -List.map_map]
  have hs : Sq k (subm M U V) := subm_sq hU.len hV.len
  have hB : ∀ r ∈ subm M U V, ∀ x ∈ r, Bd 30 x := by
    intro r hr x hx
    obtain ⟨u, hu, rfl⟩ := List.mem_map.1 hr
    obtain ⟨v, hv, rfl⟩ := List.mem_map.1 hx
    obtain ⟨_, _, _, h3⟩ := rows_gt h (hU.lt u hu) (hV.lt v hv)
    exact bd_of h3 hb
  have d1 := bar_det (S := .lst ((subm M U V).map tupI)) (.inl rfl) hk hs hB
  have d2 := law_det (S := .lst ((subm M U V).map tupI)) (.inl rfl) hk hs hB
  constructor
  · have c1 := in1 c_part_2 in2
    unfold F_part m_part runF
    rw [show ent 5 [tupM M, tupI U, tupI V] = [.va (tupM M), .va (tupI U), .va (tupI V), .un, .un] from rfl]
    have c1' : c_part_1 [.va (tupM M), .va (tupI U), .va (tupI V), .un, .un] = _ := c1
    simp only [sRet, mFn, aCons, aNil, mFz, c1', R.bind]
    simp [d1, FR.to, R.go]
  · have c1 := in1 c__law_part_2 in2
    unfold F__law_part m__law_part runF
    rw [show ent 5 [tupM M, tupI U, tupI V] = [.va (tupM M), .va (tupI U), .va (tupI V), .un, .un] from rfl]
    have c1' : c__law_part_1 [.va (tupM M), .va (tupI U), .va (tupI V), .un, .un] = _ := c1
    simp only [sRet, mFn, aCons, aNil, mFz, c1', R.bind]
    simp [d2, FR.to, R.go]
end Y

set_option Elab.async false
set_option linter.all false
set_option maxRecDepth 100000
set_option maxHeartbeats 4000000
namespace Y
open PySem PySem.Spec PyProof.Rows L2
theorem fmod_nat (x y : Nat) : Int.fmod (x : Int) (y : Int) = ((x % y : Nat) : Int) := by
  rw [Int.fmod_eq_emod_of_nonneg _ (by omega)]
  omega
theorem abs_nat (a : Int) : (if a < 0 then -a else a) = (a.natAbs : Int) := by
  split <;> omega
theorem common_loop : ∀ (y x : Nat), ∃ n, whileL (mT (mBin (gIB fun i j => decide (j < i)) (mVar 1) (mC (.int 0)))) l_common_1 n [.va (.int x), .va (.int y)] = .nx [.va (.int (Nat.gcd x y)), .va (.int 0)] := by
  intro y
  induction y using Nat.strongRecOn with
  | _ y ih =>
    intro x
    by_cases h : y = 0
    · subst h
      exact ⟨1, by simp [whileL, ent, entD, runF, runD, runO, oSeq, sRetO, sSeq, sNil, sSet, sSetO, sRet, sRetN, sIf, sDrop, sBreak, sCont, sAppend, sExtend, sSetIx, sAug, sPar, sAsg, sRaise, mVar, mVarZ, mC, mBin, mT, mTAnd, mTOr, mTNot, mAnd, mOr, mNot, mIf, aNil, aCons, newTup, mTup, mFz, newLst, mLst, mCall, mIxO, mLenO, oNone, oSome, mSl, mBinL, mIsi, mFn, mFnK, mFnD, mFnDO, mUn, mItems, mItC, mYes, asB, R.bind, R.go, R.of, R.noBad, FR.to, FRD.to, tgN, tgsN, tgsC, tgT, gI, gIx, gLen, gAbs, gMax2, gMin2, gMin3, gInt, gTuple, gList, gSl, gSlL, gNeg, isT, gIsN, gNotN, gAddA, gMulA, gZip, List.map_cons, List.map_nil, List.length_cons, List.length_nil, List.replicate, List.append_eq, List.cons_append, List.nil_append, List.getElem?_cons_zero, List.getElem?_cons_succ, List.set_cons_zero, List.set_cons_succ, Option.map_some, Option.bind_some, Nat.reduceAdd, Nat.reduceSub, Nat.reduceLT, Nat.reduceLeDiff, Nat.reduceEqDiff, Int.reduceToNat, if_true, if_false, Bool.not_true, Bool.not_false, Bool.false_eq_true, List.length_append, Nat.zero_add, String.reduceEq, or_true, true_or, or_false, false_or, and_true, true_and, Nat.add_zero, Int.reduceLT, Int.reduceLE, decide_true, decide_false, decide_eq_true_eq, Int.reduceAdd, Int.reduceSub, Int.reduceMul, Int.reduceNeg]⟩
    · obtain ⟨n, hn⟩ := ih (x % y) (Nat.mod_lt _ (by omega)) y
      refine ⟨n + 1, ?_⟩
      have e1 : (mT (mBin (gIB fun i j => decide (j < i)) (mVar 1) (mC (.int 0)))) [.va (.int x), .va (.int y)] = .ok true [.va (.int x), .va (.int y)] := by
        have : (0 : Int) < y := by omega
        simp [ent, entD, runF, runD, runO, oSeq, sRetO, sSeq, sNil, sSet, sSetO, sRet, sRetN, sIf, sDrop, sBreak, sCont, sAppend, sExtend, sSetIx, sAug, sPar, sAsg, sRaise, mVar, mVarZ, mC, mBin, mT, mTAnd, mTOr, mTNot, mAnd, mOr, mNot, mIf, aNil, aCons, newTup, mTup, mFz, newLst, mLst, mCall, mIxO, mLenO, oNone, oSome, mSl, mBinL, mIsi, mFn, mFnK, mFnD, mFnDO, mUn, mItems, mItC, mYes, asB, R.bind, R.go, R.of, R.noBad, FR.to, FRD.to, tgN, tgsN, tgsC, tgT, gI, gIx, gLen, gAbs, gMax2, gMin2, gMin3, gInt, gTuple, gList, gSl, gSlL, gNeg, isT, gIsN, gNotN, gAddA, gMulA, gZip, List.map_cons, List.map_nil, List.length_cons, List.length_nil, List.replicate, List.append_eq, List.cons_append, List.nil_append, List.getElem?_cons_zero, List.getElem?_cons_succ, List.set_cons_zero, List.set_cons_succ, Option.map_some, Option.bind_some, Nat.reduceAdd, Nat.reduceSub, Nat.reduceLT, Nat.reduceLeDiff, Nat.reduceEqDiff, Int.reduceToNat, if_true, if_false, Bool.not_true, Bool.not_false, Bool.false_eq_true, List.length_append, Nat.zero_add, String.reduceEq, or_true, true_or, or_false, false_or, and_true, true_and, Nat.add_zero, Int.reduceLT, Int.reduceLE, decide_true, decide_false, decide_eq_true_eq, Int.reduceAdd, Int.reduceSub, Int.reduceMul, Int.reduceNeg]
        omega
      have e2 : l_common_1 [.va (.int x), .va (.int y)] = .nx [.va (.int y), .va (.int ((x % y : Nat) : Int))] := by
        have : ¬ (y : Int) = 0 := by omega
        simp [l_common_1, ent, entD, runF, runD, runO, oSeq, sRetO, sSeq, sNil, sSet, sSetO, sRet, sRetN, sIf, sDrop, sBreak, sCont, sAppend, sExtend, sSetIx, sAug, sPar, sAsg, sRaise, mVar, mVarZ, mC, mBin, mT, mTAnd, mTOr, mTNot, mAnd, mOr, mNot, mIf, aNil, aCons, newTup, mTup, mFz, newLst, mLst, mCall, mIxO, mLenO, oNone, oSome, mSl, mBinL, mIsi, mFn, mFnK, mFnD, mFnDO, mUn, mItems, mItC, mYes, asB, R.bind, R.go, R.of, R.noBad, FR.to, FRD.to, tgN, tgsN, tgsC, tgT, gI, gIx, gLen, gAbs, gMax2, gMin2, gMin3, gInt, gTuple, gList, gSl, gSlL, gNeg, isT, gIsN, gNotN, gAddA, gMulA, gZip, List.map_cons, List.map_nil, List.length_cons, List.length_nil, List.replicate, List.append_eq, List.cons_append, List.nil_append, List.getElem?_cons_zero, List.getElem?_cons_succ, List.set_cons_zero, List.set_cons_succ, Option.map_some, Option.bind_some, Nat.reduceAdd, Nat.reduceSub, Nat.reduceLT, Nat.reduceLeDiff, Nat.reduceEqDiff, Int.reduceToNat, if_true, if_false, Bool.not_true, Bool.not_false, Bool.false_eq_true, List.length_append, Nat.zero_add, String.reduceEq, or_true, true_or, or_false, false_or, and_true, true_and, Nat.add_zero, Int.reduceLT, Int.reduceLE, decide_true, decide_false, decide_eq_true_eq, Int.reduceAdd, Int.reduceSub, Int.reduceMul, Int.reduceNeg, this, gMod, fmod_nat, h]
      unfold whileL
      simp only [e1, e2, hn]
      rw [Nat.gcd_comm x y, Nat.gcd_rec y x, Nat.gcd_comm]
theorem common_ok (a b : Int) : F_common [.int a, .int b] = .ok (.int (Int.gcd a b)) := by
  obtain ⟨n, hn⟩ := common_loop b.natAbs a.natAbs
  have hw := sWhile_eq n hn rfl
  unfold F_common m_common runF
  rw [show ent 2 [.int a, .int b] = [.va (.int a), .va (.int b)] from rfl]
  rw [seq_nx (e := [.va (.int a.natAbs), .va (.int b)]) (by simp [ent, entD, runF, runD, runO, oSeq, sRetO, sSeq, sNil, sSet, sSetO, sRet, sRetN, sIf, sDrop, sBreak, sCont, sAppend, sExtend, sSetIx, sAug, sPar, sAsg, sRaise, mVar, mVarZ, mC, mBin, mT, mTAnd, mTOr, mTNot, mAnd, mOr, mNot, mIf, aNil, aCons, newTup, mTup, mFz, newLst, mLst, mCall, mIxO, mLenO, oNone, oSome, mSl, mBinL, mIsi, mFn, mFnK, mFnD, mFnDO, mUn, mItems, mItC, mYes, asB, R.bind, R.go, R.of, R.noBad, FR.to, FRD.to, tgN, tgsN, tgsC, tgT, gI, gIx, gLen, gAbs, gMax2, gMin2, gMin3, gInt, gTuple, gList, gSl, gSlL, gNeg, isT, gIsN, gNotN, gAddA, gMulA, gZip, List.map_cons, List.map_nil, List.length_cons, List.length_nil, List.replicate, List.append_eq, List.cons_append, List.nil_append, List.getElem?_cons_zero, List.getElem?_cons_succ, List.set_cons_zero, List.set_cons_succ, Option.map_some, Option.bind_some, Nat.reduceAdd, Nat.reduceSub, Nat.reduceLT, Nat.reduceLeDiff, Nat.reduceEqDiff, Int.reduceToNat, if_true, if_false, Bool.not_true, Bool.not_false, Bool.false_eq_true, List.length_append, Nat.zero_add, String.reduceEq, or_true, true_or, or_false, false_or, and_true, true_and, Nat.add_zero, Int.reduceLT, Int.reduceLE, decide_true, decide_false, decide_eq_true_eq, Int.reduceAdd, Int.reduceSub, Int.reduceMul, Int.reduceNeg, abs_nat])]
  rw [seq_nx (e := [.va (.int a.natAbs), .va (.int b.natAbs)]) (by simp [ent, entD, runF, runD, runO, oSeq, sRetO, sSeq, sNil, sSet, sSetO, sRet, sRetN, sIf, sDrop, sBreak, sCont, sAppend, sExtend, sSetIx, sAug, sPar, sAsg, sRaise, mVar, mVarZ, mC, mBin, mT, mTAnd, mTOr, mTNot, mAnd, mOr, mNot, mIf, aNil, aCons, newTup, mTup, mFz, newLst, mLst, mCall, mIxO, mLenO, oNone, oSome, mSl, mBinL, mIsi, mFn, mFnK, mFnD, mFnDO, mUn, mItems, mItC, mYes, asB, R.bind, R.go, R.of, R.noBad, FR.to, FRD.to, tgN, tgsN, tgsC, tgT, gI, gIx, gLen, gAbs, gMax2, gMin2, gMin3, gInt, gTuple, gList, gSl, gSlL, gNeg, isT, gIsN, gNotN, gAddA, gMulA, gZip, List.map_cons, List.map_nil, List.length_cons, List.length_nil, List.replicate, List.append_eq, List.cons_append, List.nil_append, List.getElem?_cons_zero, List.getElem?_cons_succ, List.set_cons_zero, List.set_cons_succ, Option.map_some, Option.bind_some, Nat.reduceAdd, Nat.reduceSub, Nat.reduceLT, Nat.reduceLeDiff, Nat.reduceEqDiff, Int.reduceToNat, if_true, if_false, Bool.not_true, Bool.not_false, Bool.false_eq_true, List.length_append, Nat.zero_add, String.reduceEq, or_true, true_or, or_false, false_or, and_true, true_and, Nat.add_zero, Int.reduceLT, Int.reduceLE, decide_true, decide_false, decide_eq_true_eq, Int.reduceAdd, Int.reduceSub, Int.reduceMul, Int.reduceNeg, abs_nat])]
  rw [seq_nx hw]
  simp [ent, entD, runF, runD, runO, oSeq, sRetO, sSeq, sNil, sSet, sSetO, sRet, sRetN, sIf, sDrop, sBreak, sCont, sAppend, sExtend, sSetIx, sAug, sPar, sAsg, sRaise, mVar, mVarZ, mC, mBin, mT, mTAnd, mTOr, mTNot, mAnd, mOr, mNot, mIf, aNil, aCons, newTup, mTup, mFz, newLst, mLst, mCall, mIxO, mLenO, oNone, oSome, mSl, mBinL, mIsi, mFn, mFnK, mFnD, mFnDO, mUn, mItems, mItC, mYes, asB, R.bind, R.go, R.of, R.noBad, FR.to, FRD.to, tgN, tgsN, tgsC, tgT, gI, gIx, gLen, gAbs, gMax2, gMin2, gMin3, gInt, gTuple, gList, gSl, gSlL, gNeg, isT, gIsN, gNotN, gAddA, gMulA, gZip, List.map_cons, List.map_nil, List.length_cons, List.length_nil, List.replicate, List.append_eq, List.cons_append, List.nil_append, List.getElem?_cons_zero, List.getElem?_cons_succ, List.set_cons_zero, List.set_cons_succ, Option.map_some, Option.bind_some, Nat.reduceAdd, Nat.reduceSub, Nat.reduceLT, Nat.reduceLeDiff, Nat.reduceEqDiff, Int.reduceToNat, if_true, if_false, Bool.not_true, Bool.not_false, Bool.false_eq_true, List.length_append, Nat.zero_add, String.reduceEq, or_true, true_or, or_false, false_or, and_true, true_and, Nat.add_zero, Int.reduceLT, Int.reduceLE, decide_true, decide_false, decide_eq_true_eq, Int.reduceAdd, Int.reduceSub, Int.reduceMul, Int.reduceNeg, Int.gcd]
theorem gcd_loop : ∀ (k x y : Nat) (ds : List D) (s : Sl), y < 2 ^ k → 2 * k ≤ ds.length → ∃ s', forL (tgN 2) l__law_gcd_1 ds [.va (.int x), .va (.int y), s] = .nx [.va (.int (Nat.gcd x y)), .va (.int 0), s'] := by
  have stop : ∀ (x : Nat) (ds : List D) (s : Sl), ∃ s', forL (tgN 2) l__law_gcd_1 ds [.va (.int x), .va (.int 0), s] = .nx [.va (.int x), .va (.int 0), s'] := by
    intro x ds s
    cases ds with
    | nil => exact ⟨s, rfl⟩
    | cons d ds => exact ⟨.va d, by simp [forL, l__law_gcd_1, ent, entD, runF, runD, runO, oSeq, sRetO, sSeq, sNil, sSet, sSetO, sRet, sRetN, sIf, sDrop, sBreak, sCont, sAppend, sExtend, sSetIx, sAug, sPar, sAsg, sRaise, mVar, mVarZ, mC, mBin, mT, mTAnd, mTOr, mTNot, mAnd, mOr, mNot, mIf, aNil, aCons, newTup, mTup, mFz, newLst, mLst, mCall, mIxO, mLenO, oNone, oSome, mSl, mBinL, mIsi, mFn, mFnK, mFnD, mFnDO, mUn, mItems, mItC, mYes, asB, R.bind, R.go, R.of, R.noBad, FR.to, FRD.to, tgN, tgsN, tgsC, tgT, gI, gIx, gLen, gAbs, gMax2, gMin2, gMin3, gInt, gTuple, gList, gSl, gSlL, gNeg, isT, gIsN, gNotN, gAddA, gMulA, gZip, List.map_cons, List.map_nil, List.length_cons, List.length_nil, List.replicate, List.append_eq, List.cons_append, List.nil_append, List.getElem?_cons_zero, List.getElem?_cons_succ, List.set_cons_zero, List.set_cons_succ, Option.map_some, Option.bind_some, Nat.reduceAdd, Nat.reduceSub, Nat.reduceLT, Nat.reduceLeDiff, Nat.reduceEqDiff, Int.reduceToNat, if_true, if_false, Bool.not_true, Bool.not_false, Bool.false_eq_true, List.length_append, Nat.zero_add, String.reduceEq, or_true, true_or, or_false, false_or, and_true, true_and, Nat.add_zero, Int.reduceLT, Int.reduceLE, decide_true, decide_false, decide_eq_true_eq, Int.reduceAdd, Int.reduceSub, Int.reduceMul, Int.reduceNeg, eqI]⟩
  have step : ∀ (x y : Nat) (s d : _), y ≠ 0 → ∃ e1, tgN 2 d [.va (.int x), .va (.int y), s] = some e1 ∧ l__law_gcd_1 e1 = .nx [.va (.int y), .va (.int ((x % y : Nat) : Int)), .va d] := by
    intro x y s d hy
    have : ¬ (y : Int) = 0 := by omega
    exact ⟨_, rfl, by simp [l__law_gcd_1, ent, entD, runF, runD, runO, oSeq, sRetO, sSeq, sNil, sSet, sSetO, sRet, sRetN, sIf, sDrop, sBreak, sCont, sAppend, sExtend, sSetIx, sAug, sPar, sAsg, sRaise, mVar, mVarZ, mC, mBin, mT, mTAnd, mTOr, mTNot, mAnd, mOr, mNot, mIf, aNil, aCons, newTup, mTup, mFz, newLst, mLst, mCall, mIxO, mLenO, oNone, oSome, mSl, mBinL, mIsi, mFn, mFnK, mFnD, mFnDO, mUn, mItems, mItC, mYes, asB, R.bind, R.go, R.of, R.noBad, FR.to, FRD.to, tgN, tgsN, tgsC, tgT, gI, gIx, gLen, gAbs, gMax2, gMin2, gMin3, gInt, gTuple, gList, gSl, gSlL, gNeg, isT, gIsN, gNotN, gAddA, gMulA, gZip, List.map_cons, List.map_nil, List.length_cons, List.length_nil, List.replicate, List.append_eq, List.cons_append, List.nil_append, List.getElem?_cons_zero, List.getElem?_cons_succ, List.set_cons_zero, List.set_cons_succ, Option.map_some, Option.bind_some, Nat.reduceAdd, Nat.reduceSub, Nat.reduceLT, Nat.reduceLeDiff, Nat.reduceEqDiff, Int.reduceToNat, if_true, if_false, Bool.not_true, Bool.not_false, Bool.false_eq_true, List.length_append, Nat.zero_add, String.reduceEq, or_true, true_or, or_false, false_or, and_true, true_and, Nat.add_zero, Int.reduceLT, Int.reduceLE, decide_true, decide_false, decide_eq_true_eq, Int.reduceAdd, Int.reduceSub, Int.reduceMul, Int.reduceNeg, eqI, this, gMod, fmod_nat, hy]⟩
  have gm : ∀ x y : Nat, Nat.gcd y (x % y) = Nat.gcd x y := fun x y => by rw [Nat.gcd_comm x y, Nat.gcd_rec y x, Nat.gcd_comm]
  intro k
  induction k with
  | zero =>
    intro x y ds s hy _
    have : y = 0 := by simpa using hy
    subst this
    obtain ⟨s', h⟩ := stop x ds s
    exact ⟨s', by simpa using h⟩
  | succ k ih =>
    intro x y ds s hy hl
    by_cases h0 : y = 0
    · subst h0
      obtain ⟨s', h⟩ := stop x ds s
      exact ⟨s', by simpa using h⟩
    · match ds, hl with
      | d1 :: d2 :: ds, hl =>
        obtain ⟨e1, h1, h2⟩ := step x y s d1 h0
        by_cases h3 : x % y = 0
        · obtain ⟨s', h⟩ := stop y (d2 :: ds) (.va d1)
          refine ⟨s', ?_⟩
          rw [forL_step h1 h2, h3]
          rw [← gm x y, h3, Nat.gcd_zero_right]
          exact h
        · obtain ⟨e2, h4, h5⟩ := step y (x % y) (.va d1) d2 h3
          have hlt : y % (x % y) < 2 ^ k := by
            have a1 := Nat.mod_lt x (Nat.pos_of_ne_zero h0)
            have a2 := Nat.mod_lt y (Nat.pos_of_ne_zero h3)
            rw [Nat.pow_succ] at hy
            have a3 : y % (x % y) ≤ y - x % y := by
              rw [Nat.mod_eq_sub_mod (by omega)]
              exact Nat.mod_le _ _
            omega
          obtain ⟨s', h⟩ := ih (x % y) (y % (x % y)) ds (.va d2) hlt (by simp at hl; omega)
          refine ⟨s', ?_⟩
          rw [forL_step h1 h2, forL_step h4 h5, h, gm, gm]
theorem gcd_ok (a b : Int) (hb : Bd 190 b) : F__law_gcd [.int a, .int b] = .ok (.int (Int.gcd a b)) := by
  obtain ⟨s', h⟩ := gcd_loop 190 a.natAbs b.natAbs (rngD 0 400) .un hb (by rw [rng_len]; decide)
  unfold F__law_gcd m__law_gcd runF
  rw [show ent 3 [.int a, .int b] = [.va (.int a), .va (.int b), .un] from rfl]
  rw [seq_nx (e := [.va (.int a.natAbs), .va (.int b.natAbs), .un]) (by simp [ent, entD, runF, runD, runO, oSeq, sRetO, sSeq, sNil, sSet, sSetO, sRet, sRetN, sIf, sDrop, sBreak, sCont, sAppend, sExtend, sSetIx, sAug, sPar, sAsg, sRaise, mVar, mVarZ, mC, mBin, mT, mTAnd, mTOr, mTNot, mAnd, mOr, mNot, mIf, aNil, aCons, newTup, mTup, mFz, newLst, mLst, mCall, mIxO, mLenO, oNone, oSome, mSl, mBinL, mIsi, mFn, mFnK, mFnD, mFnDO, mUn, mItems, mItC, mYes, asB, R.bind, R.go, R.of, R.noBad, FR.to, FRD.to, tgN, tgsN, tgsC, tgT, gI, gIx, gLen, gAbs, gMax2, gMin2, gMin3, gInt, gTuple, gList, gSl, gSlL, gNeg, isT, gIsN, gNotN, gAddA, gMulA, gZip, List.map_cons, List.map_nil, List.length_cons, List.length_nil, List.replicate, List.append_eq, List.cons_append, List.nil_append, List.getElem?_cons_zero, List.getElem?_cons_succ, List.set_cons_zero, List.set_cons_succ, Option.map_some, Option.bind_some, Nat.reduceAdd, Nat.reduceSub, Nat.reduceLT, Nat.reduceLeDiff, Nat.reduceEqDiff, Int.reduceToNat, if_true, if_false, Bool.not_true, Bool.not_false, Bool.false_eq_true, List.length_append, Nat.zero_add, String.reduceEq, or_true, true_or, or_false, false_or, and_true, true_and, Nat.add_zero, Int.reduceLT, Int.reduceLE, decide_true, decide_false, decide_eq_true_eq, Int.reduceAdd, Int.reduceSub, Int.reduceMul, Int.reduceNeg, abs_nat])]
  rw [seq_nx (by unfold sFor; rw [mItC_ok (e := [.va (.int a.natAbs), .va (.int b.natAbs), .un]) (ds := [.int 400]) (l := rngD 0 400) (by simp [ent, entD, runF, runD, runO, oSeq, sRetO, sSeq, sNil, sSet, sSetO, sRet, sRetN, sIf, sDrop, sBreak, sCont, sAppend, sExtend, sSetIx, sAug, sPar, sAsg, sRaise, mVar, mVarZ, mC, mBin, mT, mTAnd, mTOr, mTNot, mAnd, mOr, mNot, mIf, aNil, aCons, newTup, mTup, mFz, newLst, mLst, mCall, mIxO, mLenO, oNone, oSome, mSl, mBinL, mIsi, mFn, mFnK, mFnD, mFnDO, mUn, mItems, mItC, mYes, asB, R.bind, R.go, R.of, R.noBad, FR.to, FRD.to, tgN, tgsN, tgsC, tgT, gI, gIx, gLen, gAbs, gMax2, gMin2, gMin3, gInt, gTuple, gList, gSl, gSlL, gNeg, isT, gIsN, gNotN, gAddA, gMulA, gZip, List.map_cons, List.map_nil, List.length_cons, List.length_nil, List.replicate, List.append_eq, List.cons_append, List.nil_append, List.getElem?_cons_zero, List.getElem?_cons_succ, List.set_cons_zero, List.set_cons_succ, Option.map_some, Option.bind_some, Nat.reduceAdd, Nat.reduceSub, Nat.reduceLT, Nat.reduceLeDiff, Nat.reduceEqDiff, Int.reduceToNat, if_true, if_false, Bool.not_true, Bool.not_false, Bool.false_eq_true, List.length_append, Nat.zero_add, String.reduceEq, or_true, true_or, or_false, false_or, and_true, true_and, Nat.add_zero, Int.reduceLT, Int.reduceLE, decide_true, decide_false, decide_eq_true_eq, Int.reduceAdd, Int.reduceSub, Int.reduceMul, Int.reduceNeg]) (rng1 (n := 400) (by decide))]; exact h)]
  simp [ent, entD, runF, runD, runO, oSeq, sRetO, sSeq, sNil, sSet, sSetO, sRet, sRetN, sIf, sDrop, sBreak, sCont, sAppend, sExtend, sSetIx, sAug, sPar, sAsg, sRaise, mVar, mVarZ, mC, mBin, mT, mTAnd, mTOr, mTNot, mAnd, mOr, mNot, mIf, aNil, aCons, newTup, mTup, mFz, newLst, mLst, mCall, mIxO, mLenO, oNone, oSome, mSl, mBinL, mIsi, mFn, mFnK, mFnD, mFnDO, mUn, mItems, mItC, mYes, asB, R.bind, R.go, R.of, R.noBad, FR.to, FRD.to, tgN, tgsN, tgsC, tgT, gI, gIx, gLen, gAbs, gMax2, gMin2, gMin3, gInt, gTuple, gList, gSl, gSlL, gNeg, isT, gIsN, gNotN, gAddA, gMulA, gZip, List.map_cons, List.map_nil, List.length_cons, List.length_nil, List.replicate, List.append_eq, List.cons_append, List.nil_append, List.getElem?_cons_zero, List.getElem?_cons_succ, List.set_cons_zero, List.set_cons_succ, Option.map_some, Option.bind_some, Nat.reduceAdd, Nat.reduceSub, Nat.reduceLT, Nat.reduceLeDiff, Nat.reduceEqDiff, Int.reduceToNat, if_true, if_false, Bool.not_true, Bool.not_false, Bool.false_eq_true, List.length_append, Nat.zero_add, String.reduceEq, or_true, true_or, or_false, false_or, and_true, true_and, Nat.add_zero, Int.reduceLT, Int.reduceLE, decide_true, decide_false, decide_eq_true_eq, Int.reduceAdd, Int.reduceSub, Int.reduceMul, Int.reduceNeg, Int.gcd]
end Y

set_option Elab.async false
set_option linter.all false
set_option maxRecDepth 100000
set_option maxHeartbeats 4000000
namespace Y
open PySem PySem.Spec PyProof.Rows L2
theorem ix0 {w : Nat} {M : List (List Int)} : atI [D.int (w : Int), tupM M] 0 = some (.int w) := atI_0
theorem ix1 {w : Nat} {M : List (List Int)} : atI [D.int (w : Int), tupM M] 1 = some (tupM M) := by simp [atI, ixN]
/-- a grid as the law draws it: few rows, small numbers -/
structure Gr (w m : Nat) (M : List (List Int)) : Prop where
  w1 : 1 ≤ w
  w4 : w ≤ 4
  m4 : m ≤ 4
  len : M.length = m
  rows : Rows w 1000000 M
theorem Gr.grid {w m : Nat} {M : List (List Int)} (h : Gr w m M) : Grid w 1000000 M := ⟨h.w1, by have := h.w4; omega, by have := h.len; have := h.m4; omega, h.rows⟩
theorem minor_ok {w m k : Nat} {M : List (List Int)} (h : Gr w m M) (hk : k ≤ 3) {U V : List Int} (hU : U ∈ comb m k) (hV : V ∈ comb w k) : F_minor [gridD w M, tupI U, tupI V] = .ok (.int (det (subm M U V))) := by
  have h1 := need_ok h.grid (by omega) (.str "grid")
  have h2 := cho_ok h.m4 (by omega) hU
  have h3 := cho_ok h.w4 (by omega) hV
  have c1 := comb_cho h.m4 (by omega) hU
  have c2 := comb_cho h.w4 (by omega) hV
  have h4 := (part_ok h.rows (by omega) h.len c1 c2 hk).1
  have h5 : V.length = U.length := by rw [c1.len, c2.len]
  simp [F_minor, m_minor, ent, entD, runF, runD, runO, oSeq, sRetO, sSeq, sNil, sSet, sSetO, sRet, sRetN, sIf, sDrop, sBreak, sCont, sAppend, sExtend, sSetIx, sAug, sPar, sAsg, sRaise, mVar, mVarZ, mC, mBin, mT, mTAnd, mTOr, mTNot, mAnd, mOr, mNot, mIf, aNil, aCons, newTup, mTup, mFz, newLst, mLst, mCall, mIxO, mLenO, oNone, oSome, mSl, mBinL, mIsi, mFn, mFnK, mFnD, mFnDO, mUn, mItems, mItC, mYes, asB, R.bind, R.go, R.of, R.noBad, FR.to, FRD.to, tgN, tgsN, tgsC, tgT, gI, gIx, gLen, gAbs, gMax2, gMin2, gMin3, gInt, gTuple, gList, gSl, gSlL, gNeg, isT, gIsN, gNotN, gAddA, gMulA, gZip, List.map_cons, List.map_nil, List.length_cons, List.length_nil, List.replicate, List.append_eq, List.cons_append, List.nil_append, List.getElem?_cons_zero, List.getElem?_cons_succ, List.set_cons_zero, List.set_cons_succ, Option.map_some, Option.bind_some, Nat.reduceAdd, Nat.reduceSub, Nat.reduceLT, Nat.reduceLeDiff, Nat.reduceEqDiff, Int.reduceToNat, if_true, if_false, Bool.not_true, Bool.not_false, Bool.false_eq_true, List.length_append, Nat.zero_add, String.reduceEq, or_true, true_or, or_false, false_or, and_true, true_and, Nat.add_zero, Int.reduceLT, Int.reduceLE, decide_true, decide_false, decide_eq_true_eq, Int.reduceAdd, Int.reduceSub, Int.reduceMul, Int.reduceNeg, h1, ix0, ix1, h.len, h2, h3, h4, h5, neI]
def table (M : List (List Int)) (w k : Nat) : List (List Int) := (comb M.length k).map fun U => (comb w k).map fun V => det (subm M U V)
theorem min_if (a b : Int) : (if b < a then b else a) = min a b := by
  split <;> omega
theorem size_ok {w m k : Nat} {M : List (List Int)} (h : Gr w m M) (h1 : 1 ≤ k) (h2 : k ≤ w) (h3 : k ≤ m) : F_need_size [gridD w M, .int k] = .ok .non := by
  have e1 := need_ok h.grid (by omega) (.str "grid")
  have e2 : (1 : Int) ≤ k := by omega
  have e3 : ¬ (if m < w then (m : Int) else w) < k := by split <;> omega
  simp [F_need_size, m_need_size, ent, entD, runF, runD, runO, oSeq, sRetO, sSeq, sNil, sSet, sSetO, sRet, sRetN, sIf, sDrop, sBreak, sCont, sAppend, sExtend, sSetIx, sAug, sPar, sAsg, sRaise, mVar, mVarZ, mC, mBin, mT, mTAnd, mTOr, mTNot, mAnd, mOr, mNot, mIf, aNil, aCons, newTup, mTup, mFz, newLst, mLst, mCall, mIxO, mLenO, oNone, oSome, mSl, mBinL, mIsi, mFn, mFnK, mFnD, mFnDO, mUn, mItems, mItC, mYes, asB, R.bind, R.go, R.of, R.noBad, FR.to, FRD.to, tgN, tgsN, tgsC, tgT, gI, gIx, gLen, gAbs, gMax2, gMin2, gMin3, gInt, gTuple, gList, gSl, gSlL, gNeg, isT, gIsN, gNotN, gAddA, gMulA, gZip, List.map_cons, List.map_nil, List.length_cons, List.length_nil, List.replicate, List.append_eq, List.cons_append, List.nil_append, List.getElem?_cons_zero, List.getElem?_cons_succ, List.set_cons_zero, List.set_cons_succ, Option.map_some, Option.bind_some, Nat.reduceAdd, Nat.reduceSub, Nat.reduceLT, Nat.reduceLeDiff, Nat.reduceEqDiff, Int.reduceToNat, if_true, if_false, Bool.not_true, Bool.not_false, Bool.false_eq_true, List.length_append, Nat.zero_add, String.reduceEq, or_true, true_or, or_false, false_or, and_true, true_and, Nat.add_zero, Int.reduceLT, Int.reduceLE, decide_true, decide_false, decide_eq_true_eq, Int.reduceAdd, Int.reduceSub, Int.reduceMul, Int.reduceNeg, e1, ix0, ix1, h.len, isint_ok, mChain, e2, e3]
theorem comb_len {n k : Nat} (hn : n ≤ 4) (hk : k ≤ 4) : (comb n k).length ≤ 10 := by
  rcases le4 hn with rfl | rfl | rfl | rfl | rfl <;> rcases le4 hk with rfl | rfl | rfl | rfl | rfl <;> decide
theorem compound_ok {w m k : Nat} {M : List (List Int)} (h : Gr w m M) (h1 : 1 ≤ k) (h2 : k ≤ w) (h3 : k ≤ m) (hk : k ≤ 3) : F_compound [gridD w M, .int k] = .ok (tupM (table M w k)) := by
  have e1 := size_ok h h1 h2 h3
  have e2 := chosen_ok (n := w) (k := k) h.w4 (by omega)
  have e3 := chosen_ok (n := m) (k := k) h.m4 (by omega)
  have hl1 := comb_len (k := k) h.w4 (by omega)
  have hl2 := comb_len (k := k) h.m4 (by omega)
  have in2 : ∀ U ∈ comb m k, ∀ E : Env, E = [.va (gridD w M), .va (.int k), .va (.lst ((comb w k).map tupI)), .va (tupI U), .un] → c_compound_2 E = .ok (zs ((comb w k).map fun V => det (subm M U V))) E := by
    rintro U hU E rfl
    unfold c_compound_2
    rw [mLc_map (ds := (comb w k).map tupI) (f := fun d => match d with | .tup l => (match intsO l with | some V => .int (det (subm M U V)) | none => .non) | d => d)]
    · rw [List.map_map, zs, List.map_map]
      congr 1
      apply List.map_congr_left
      intro V hV
      simp [zs, ints_map]
    · simp [ent, entD, runF, runD, runO, oSeq, sRetO, sSeq, sNil, sSet, sSetO, sRet, sRetN, sIf, sDrop, sBreak, sCont, sAppend, sExtend, sSetIx, sAug, sPar, sAsg, sRaise, mVar, mVarZ, mC, mBin, mT, mTAnd, mTOr, mTNot, mAnd, mOr, mNot, mIf, aNil, aCons, newTup, mTup, mFz, newLst, mLst, mCall, mIxO, mLenO, oNone, oSome, mSl, mBinL, mIsi, mFn, mFnK, mFnD, mFnDO, mUn, mItems, mItC, mYes, asB, R.bind, R.go, R.of, R.noBad, FR.to, FRD.to, tgN, tgsN, tgsC, tgT, gI, gIx, gLen, gAbs, gMax2, gMin2, gMin3, gInt, gTuple, gList, gSl, gSlL, gNeg, isT, gIsN, gNotN, gAddA, gMulA, gZip, List.map_cons, List.map_nil, List.length_cons, List.length_nil, List.replicate, List.append_eq, List.cons_append, List.nil_append, List.getElem?_cons_zero, List.getElem?_cons_succ, List.set_cons_zero, List.set_cons_succ, Option.map_some, Option.bind_some, Nat.reduceAdd, Nat.reduceSub, Nat.reduceLT, Nat.reduceLeDiff, Nat.reduceEqDiff, Int.reduceToNat, if_true, if_false, Bool.not_true, Bool.not_false, Bool.false_eq_true, List.length_append, Nat.zero_add, String.reduceEq, or_true, true_or, or_false, false_or, and_true, true_and, Nat.add_zero, Int.reduceLT, Int.reduceLE, decide_true, decide_false, decide_eq_true_eq, Int.reduceAdd, Int.reduceSub, Int.reduceMul, Int.reduceNeg]
    · simp [big_eq]; omega
    · intro d hd
      obtain ⟨V, hV, rfl⟩ := List.mem_map.1 hd
      have := (part_ok h.rows (by omega) h.len (comb_cho h.m4 (by omega) hU) (comb_cho h.w4 (by omega) hV) hk).1
      simp [ent, entD, runF, runD, runO, oSeq, sRetO, sSeq, sNil, sSet, sSetO, sRet, sRetN, sIf, sDrop, sBreak, sCont, sAppend, sExtend, sSetIx, sAug, sPar, sAsg, sRaise, mVar, mVarZ, mC, mBin, mT, mTAnd, mTOr, mTNot, mAnd, mOr, mNot, mIf, aNil, aCons, newTup, mTup, mFz, newLst, mLst, mCall, mIxO, mLenO, oNone, oSome, mSl, mBinL, mIsi, mFn, mFnK, mFnD, mFnDO, mUn, mItems, mItC, mYes, asB, R.bind, R.go, R.of, R.noBad, FR.to, FRD.to, tgN, tgsN, tgsC, tgT, gI, gIx, gLen, gAbs, gMax2, gMin2, gMin3, gInt, gTuple, gList, gSl, gSlL, gNeg, isT, gIsN, gNotN, gAddA, gMulA, gZip, List.map_cons, List.map_nil, List.length_cons, List.length_nil, List.replicate, List.append_eq, List.cons_append, List.nil_append, List.getElem?_cons_zero, List.getElem?_cons_succ, List.set_cons_zero, List.set_cons_succ, Option.map_some, Option.bind_some, Nat.reduceAdd, Nat.reduceSub, Nat.reduceLT, Nat.reduceLeDiff, Nat.reduceEqDiff, Int.reduceToNat, if_true, if_false, Bool.not_true, Bool.not_false, Bool.false_eq_true, List.length_append, Nat.zero_add, String.reduceEq, or_true, true_or, or_false, false_or, and_true, true_and, Nat.add_zero, Int.reduceLT, Int.reduceLE, decide_true, decide_false, decide_eq_true_eq, Int.reduceAdd, Int.reduceSub, Int.reduceMul, Int.reduceNeg, ix1, this, zs, ints_map]
  have in1 : c_compound_1 [.va (gridD w M), .va (.int k), .va (.lst ((comb w k).map tupI)), .un, .un] = .ok ((table M w k).map tupI) [.va (gridD w M), .va (.int k), .va (.lst ((comb w k).map tupI)), .un, .un] := by
    unfold c_compound_1
    rw [mLc_map (ds := (comb m k).map tupI) (f := fun d => match d with | .tup l => (match intsO l with | some U => tupI ((comb w k).map fun V => det (subm M U V)) | none => .non) | d => d)]
    · rw [List.map_map, table, List.map_map, h.len]
      congr 1
      apply List.map_congr_left
      intro V hV
      simp [zs, ints_map]
    · simp [ent, entD, runF, runD, runO, oSeq, sRetO, sSeq, sNil, sSet, sSetO, sRet, sRetN, sIf, sDrop, sBreak, sCont, sAppend, sExtend, sSetIx, sAug, sPar, sAsg, sRaise, mVar, mVarZ, mC, mBin, mT, mTAnd, mTOr, mTNot, mAnd, mOr, mNot, mIf, aNil, aCons, newTup, mTup, mFz, newLst, mLst, mCall, mIxO, mLenO, oNone, oSome, mSl, mBinL, mIsi, mFn, mFnK, mFnD, mFnDO, mUn, mItems, mItC, mYes, asB, R.bind, R.go, R.of, R.noBad, FR.to, FRD.to, tgN, tgsN, tgsC, tgT, gI, gIx, gLen, gAbs, gMax2, gMin2, gMin3, gInt, gTuple, gList, gSl, gSlL, gNeg, isT, gIsN, gNotN, gAddA, gMulA, gZip, List.map_cons, List.map_nil, List.length_cons, List.length_nil, List.replicate, List.append_eq, List.cons_append, List.nil_append, List.getElem?_cons_zero, List.getElem?_cons_succ, List.set_cons_zero, List.set_cons_succ, Option.map_some, Option.bind_some, Nat.reduceAdd, Nat.reduceSub, Nat.reduceLT, Nat.reduceLeDiff, Nat.reduceEqDiff, Int.reduceToNat, if_true, if_false, Bool.not_true, Bool.not_false, Bool.false_eq_true, List.length_append, Nat.zero_add, String.reduceEq, or_true, true_or, or_false, false_or, and_true, true_and, Nat.add_zero, Int.reduceLT, Int.reduceLE, decide_true, decide_false, decide_eq_true_eq, Int.reduceAdd, Int.reduceSub, Int.reduceMul, Int.reduceNeg, ix1, h.len, e3]
    · simp [big_eq]; omega
    · intro d hd
      obtain ⟨U, hU, rfl⟩ := List.mem_map.1 hd
      have := in2 U hU _ rfl
      simp [ent, entD, runF, runD, runO, oSeq, sRetO, sSeq, sNil, sSet, sSetO, sRet, sRetN, sIf, sDrop, sBreak, sCont, sAppend, sExtend, sSetIx, sAug, sPar, sAsg, sRaise, mVar, mVarZ, mC, mBin, mT, mTAnd, mTOr, mTNot, mAnd, mOr, mNot, mIf, aNil, aCons, newTup, mTup, mFz, newLst, mLst, mCall, mIxO, mLenO, oNone, oSome, mSl, mBinL, mIsi, mFn, mFnK, mFnD, mFnDO, mUn, mItems, mItC, mYes, asB, R.bind, R.go, R.of, R.noBad, FR.to, FRD.to, tgN, tgsN, tgsC, tgT, gI, gIx, gLen, gAbs, gMax2, gMin2, gMin3, gInt, gTuple, gList, gSl, gSlL, gNeg, isT, gIsN, gNotN, gAddA, gMulA, gZip, List.map_cons, List.map_nil, List.length_cons, List.length_nil, List.replicate, List.append_eq, List.cons_append, List.nil_append, List.getElem?_cons_zero, List.getElem?_cons_succ, List.set_cons_zero, List.set_cons_succ, Option.map_some, Option.bind_some, Nat.reduceAdd, Nat.reduceSub, Nat.reduceLT, Nat.reduceLeDiff, Nat.reduceEqDiff, Int.reduceToNat, if_true, if_false, Bool.not_true, Bool.not_false, Bool.false_eq_true, List.length_append, Nat.zero_add, String.reduceEq, or_true, true_or, or_false, false_or, and_true, true_and, Nat.add_zero, Int.reduceLT, Int.reduceLE, decide_true, decide_false, decide_eq_true_eq, Int.reduceAdd, Int.reduceSub, Int.reduceMul, Int.reduceNeg, this, zs, ints_map, -List.map_map]
  unfold F_compound m_compound runF
  rw [show ent 5 [gridD w M, .int k] = [.va (gridD w M), .va (.int k), .un, .un, .un] from rfl]
  rw [seq_nx (e := [.va (gridD w M), .va (.int k), .un, .un, .un]) (by simp [ent, entD, runF, runD, runO, oSeq, sRetO, sSeq, sNil, sSet, sSetO, sRet, sRetN, sIf, sDrop, sBreak, sCont, sAppend, sExtend, sSetIx, sAug, sPar, sAsg, sRaise, mVar, mVarZ, mC, mBin, mT, mTAnd, mTOr, mTNot, mAnd, mOr, mNot, mIf, aNil, aCons, newTup, mTup, mFz, newLst, mLst, mCall, mIxO, mLenO, oNone, oSome, mSl, mBinL, mIsi, mFn, mFnK, mFnD, mFnDO, mUn, mItems, mItC, mYes, asB, R.bind, R.go, R.of, R.noBad, FR.to, FRD.to, tgN, tgsN, tgsC, tgT, gI, gIx, gLen, gAbs, gMax2, gMin2, gMin3, gInt, gTuple, gList, gSl, gSlL, gNeg, isT, gIsN, gNotN, gAddA, gMulA, gZip, List.map_cons, List.map_nil, List.length_cons, List.length_nil, List.replicate, List.append_eq, List.cons_append, List.nil_append, List.getElem?_cons_zero, List.getElem?_cons_succ, List.set_cons_zero, List.set_cons_succ, Option.map_some, Option.bind_some, Nat.reduceAdd, Nat.reduceSub, Nat.reduceLT, Nat.reduceLeDiff, Nat.reduceEqDiff, Int.reduceToNat, if_true, if_false, Bool.not_true, Bool.not_false, Bool.false_eq_true, List.length_append, Nat.zero_add, String.reduceEq, or_true, true_or, or_false, false_or, and_true, true_and, Nat.add_zero, Int.reduceLT, Int.reduceLE, decide_true, decide_false, decide_eq_true_eq, Int.reduceAdd, Int.reduceSub, Int.reduceMul, Int.reduceNeg, e1])]
  rw [seq_nx (e := [.va (gridD w M), .va (.int k), .va (.lst ((comb w k).map tupI)), .un, .un]) (by simp [ent, entD, runF, runD, runO, oSeq, sRetO, sSeq, sNil, sSet, sSetO, sRet, sRetN, sIf, sDrop, sBreak, sCont, sAppend, sExtend, sSetIx, sAug, sPar, sAsg, sRaise, mVar, mVarZ, mC, mBin, mT, mTAnd, mTOr, mTNot, mAnd, mOr, mNot, mIf, aNil, aCons, newTup, mTup, mFz, newLst, mLst, mCall, mIxO, mLenO, oNone, oSome, mSl, mBinL, mIsi, mFn, mFnK, mFnD, mFnDO, mUn, mItems, mItC, mYes, asB, R.bind, R.go, R.of, R.noBad, FR.to, FRD.to, tgN, tgsN, tgsC, tgT, gI, gIx, gLen, gAbs, gMax2, gMin2, gMin3, gInt, gTuple, gList, gSl, gSlL, gNeg, isT, gIsN, gNotN, gAddA, gMulA, gZip, List.map_cons, List.map_nil, List.length_cons, List.length_nil, List.replicate, List.append_eq, List.cons_append, List.nil_append, List.getElem?_cons_zero, List.getElem?_cons_succ, List.set_cons_zero, List.set_cons_succ, Option.map_some, Option.bind_some, Nat.reduceAdd, Nat.reduceSub, Nat.reduceLT, Nat.reduceLeDiff, Nat.reduceEqDiff, Int.reduceToNat, if_true, if_false, Bool.not_true, Bool.not_false, Bool.false_eq_true, List.length_append, Nat.zero_add, String.reduceEq, or_true, true_or, or_false, false_or, and_true, true_and, Nat.add_zero, Int.reduceLT, Int.reduceLE, decide_true, decide_false, decide_eq_true_eq, Int.reduceAdd, Int.reduceSub, Int.reduceMul, Int.reduceNeg, ix0, e2])]
  simp only [sRet, mCall, aCons, aNil, mFz, in1, R.bind, gTuple, R.of, R.go]
end Y

set_option Elab.async false
set_option linter.all false
set_option maxRecDepth 100000
set_option maxHeartbeats 4000000
namespace Y
open PySem PySem.Spec PyProof.Rows L2
theorem det_bd {n : Nat} {M : List (List Int)} (hn : n ≤ 3) (hs : Sq n M) (hM : ∀ r ∈ M, ∀ x ∈ r, Bd 30 x) : Bd 100 (det M) := by
  rcases sq_cases hn hs with ⟨rfl, rfl⟩ | ⟨a, rfl, rfl⟩ | ⟨a, b, c, d, rfl, rfl⟩ | ⟨a, b, c, d, e, f, g, h, i, rfl, rfl⟩
  · exact Bd.one.mono (by decide)
  · exact (hM [a] (by simp) a (by simp)).mono (by decide)
  · have h1 := hM [a, b] (by simp)
    have h2 := hM [c, d] (by simp)
    exact (((h1 a (by simp)).mul (h2 d (by simp))).sub ((h1 b (by simp)).mul (h2 c (by simp)))).mono (by decide)
  · have h1 := hM [a, b, c] (by simp)
    have h2 := hM [d, e, f] (by simp)
    have h3 := hM [g, h, i] (by simp)
    have p : ∀ {x y z t}, Bd 30 x → Bd 30 y → Bd 30 z → Bd 30 t → Bd 61 (x * y - z * t) := fun a b c d => (a.mul b).sub (c.mul d)
    have q : ∀ {u v w : Int}, Bd 91 u → Bd 91 v → Bd 91 w → Bd 93 (u - v + w) := fun a b c => (a.sub b).add (c.mono (by decide))
    exact (q ((h1 a (by simp)).mul (p (h2 e (by simp)) (h3 i (by simp)) (h2 f (by simp)) (h3 h (by simp)))) ((h1 b (by simp)).mul (p (h2 d (by simp)) (h3 i (by simp)) (h2 f (by simp)) (h3 g (by simp)))) ((h1 c (by simp)).mul (p (h2 d (by simp)) (h3 h (by simp)) (h2 e (by simp)) (h3 g (by simp))))).mono (by decide)
theorem subm_bd {w k m : Nat} {b : Int} {M : List (List Int)} (h : Rows w b M) (hb : b < 2 ^ 30) {U V : List Int} (hm : M.length = m) (hU : Cho m k U) (hV : Cho w k V) (hk : k ≤ 3) : Bd 100 (det (subm M U V)) := by
  subst hm
  refine det_bd hk (subm_sq hU.len hV.len) fun r hr x hx => ?_
  obtain ⟨u, hu, rfl⟩ := List.mem_map.1 hr
  obtain ⟨v, hv, rfl⟩ := List.mem_map.1 hx
  obtain ⟨_, _, _, h3⟩ := rows_gt h (hU.lt u hu) (hV.lt v hv)
  exact bd_of h3 hb
def gcdR (r : List Int) (a : Int) : Int := r.foldl (fun a x => (Int.gcd a x : Int)) a
def gcdT (t : List (List Int)) (a : Int) : Int := t.foldl (fun a r => gcdR r a) a
theorem cminor_ok {w m k : Nat} {M : List (List Int)} (h : Gr w m M) (h1 : 1 ≤ k) (h2 : k ≤ w) (h3 : k ≤ m) (hk : k ≤ 3) : F_common_minor [gridD w M, .int k] = .ok (.int (gcdT (table M w k) 0)) := by
  have hc := compound_ok h h1 h2 h3 hk
  generalize table M w k = T at *
  have inner : ∀ (r : List Int) (a : Int) (x3 x4 : Sl), ∃ y4, forL (tgN 4) l_common_minor_1 (zs r) [.va (gridD w M), .va (.int k), .va (.int a), x3, x4] = .nx [.va (gridD w M), .va (.int k), .va (.int (gcdR r a)), x3, y4] := by
    intro r
    induction r with
    | nil => exact fun a x3 x4 => ⟨x4, rfl⟩
    | cons x r ih =>
      intro a x3 x4
      obtain ⟨y4, hy⟩ := ih (Int.gcd a x) x3 (.va (.int x))
      refine ⟨y4, ?_⟩
      rw [zs, List.map_cons, forL_step (e1 := [.va (gridD w M), .va (.int k), .va (.int a), x3, .va (.int x)]) (e2 := [.va (gridD w M), .va (.int k), .va (.int (Int.gcd a x)), x3, .va (.int x)]) rfl (by simp [l_common_minor_1, ent, entD, runF, runD, runO, oSeq, sRetO, sSeq, sNil, sSet, sSetO, sRet, sRetN, sIf, sDrop, sBreak, sCont, sAppend, sExtend, sSetIx, sAug, sPar, sAsg, sRaise, mVar, mVarZ, mC, mBin, mT, mTAnd, mTOr, mTNot, mAnd, mOr, mNot, mIf, aNil, aCons, newTup, mTup, mFz, newLst, mLst, mCall, mIxO, mLenO, oNone, oSome, mSl, mBinL, mIsi, mFn, mFnK, mFnD, mFnDO, mUn, mItems, mItC, mYes, asB, R.bind, R.go, R.of, R.noBad, FR.to, FRD.to, tgN, tgsN, tgsC, tgT, gI, gIx, gLen, gAbs, gMax2, gMin2, gMin3, gInt, gTuple, gList, gSl, gSlL, gNeg, isT, gIsN, gNotN, gAddA, gMulA, gZip, List.map_cons, List.map_nil, List.length_cons, List.length_nil, List.replicate, List.append_eq, List.cons_append, List.nil_append, List.getElem?_cons_zero, List.getElem?_cons_succ, List.set_cons_zero, List.set_cons_succ, Option.map_some, Option.bind_some, Nat.reduceAdd, Nat.reduceSub, Nat.reduceLT, Nat.reduceLeDiff, Nat.reduceEqDiff, Int.reduceToNat, if_true, if_false, Bool.not_true, Bool.not_false, Bool.false_eq_true, List.length_append, Nat.zero_add, String.reduceEq, or_true, true_or, or_false, false_or, and_true, true_and, Nat.add_zero, Int.reduceLT, Int.reduceLE, decide_true, decide_false, decide_eq_true_eq, Int.reduceAdd, Int.reduceSub, Int.reduceMul, Int.reduceNeg, common_ok])]
      exact hy
  have outer : ∀ (t : List (List Int)) (a : Int) (x3 x4 : Sl), ∃ y3 y4, forL (tgN 3) l_common_minor_2 (t.map tupI) [.va (gridD w M), .va (.int k), .va (.int a), x3, x4] = .nx [.va (gridD w M), .va (.int k), .va (.int (gcdT t a)), y3, y4] := by
    intro t
    induction t with
    | nil => exact fun a x3 x4 => ⟨x3, x4, rfl⟩
    | cons r t ih =>
      intro a x3 x4
      obtain ⟨z4, hz⟩ := inner r a (.va (tupI r)) x4
      obtain ⟨y3, y4, hy⟩ := ih (gcdR r a) (.va (tupI r)) z4
      refine ⟨y3, y4, ?_⟩
      rw [List.map_cons, forL_step (e1 := [.va (gridD w M), .va (.int k), .va (.int a), .va (tupI r), x4]) (e2 := [.va (gridD w M), .va (.int k), .va (.int (gcdR r a)), .va (tupI r), z4]) rfl (by unfold l_common_minor_2 sFor; simp only [mItems, mVar, List.getElem?_cons_succ, List.getElem?_cons_zero, R.bind, R.go]; exact hz)]
      exact hy
  obtain ⟨y3, y4, ho⟩ := outer T 0 .un .un
  unfold F_common_minor m_common_minor runF
  rw [show ent 5 [gridD w M, .int k] = [.va (gridD w M), .va (.int k), .un, .un, .un] from rfl]
  rw [seq_nx (e := [.va (gridD w M), .va (.int k), .va (.int 0), .un, .un]) (by simp [ent, entD, runF, runD, runO, oSeq, sRetO, sSeq, sNil, sSet, sSetO, sRet, sRetN, sIf, sDrop, sBreak, sCont, sAppend, sExtend, sSetIx, sAug, sPar, sAsg, sRaise, mVar, mVarZ, mC, mBin, mT, mTAnd, mTOr, mTNot, mAnd, mOr, mNot, mIf, aNil, aCons, newTup, mTup, mFz, newLst, mLst, mCall, mIxO, mLenO, oNone, oSome, mSl, mBinL, mIsi, mFn, mFnK, mFnD, mFnDO, mUn, mItems, mItC, mYes, asB, R.bind, R.go, R.of, R.noBad, FR.to, FRD.to, tgN, tgsN, tgsC, tgT, gI, gIx, gLen, gAbs, gMax2, gMin2, gMin3, gInt, gTuple, gList, gSl, gSlL, gNeg, isT, gIsN, gNotN, gAddA, gMulA, gZip, List.map_cons, List.map_nil, List.length_cons, List.length_nil, List.replicate, List.append_eq, List.cons_append, List.nil_append, List.getElem?_cons_zero, List.getElem?_cons_succ, List.set_cons_zero, List.set_cons_succ, Option.map_some, Option.bind_some, Nat.reduceAdd, Nat.reduceSub, Nat.reduceLT, Nat.reduceLeDiff, Nat.reduceEqDiff, Int.reduceToNat, if_true, if_false, Bool.not_true, Bool.not_false, Bool.false_eq_true, List.length_append, Nat.zero_add, String.reduceEq, or_true, true_or, or_false, false_or, and_true, true_and, Nat.add_zero, Int.reduceLT, Int.reduceLE, decide_true, decide_false, decide_eq_true_eq, Int.reduceAdd, Int.reduceSub, Int.reduceMul, Int.reduceNeg])]
  rw [seq_nx (by unfold sFor; rw [show mItems (mFn 2 F_compound (aCons (mVar 0) (aCons (mVar 1) aNil))) [.va (gridD w M), .va (.int k), .va (.int 0), .un, .un] = .ok (T.map tupI) [.va (gridD w M), .va (.int k), .va (.int 0), .un, .un] by simp [ent, entD, runF, runD, runO, oSeq, sRetO, sSeq, sNil, sSet, sSetO, sRet, sRetN, sIf, sDrop, sBreak, sCont, sAppend, sExtend, sSetIx, sAug, sPar, sAsg, sRaise, mVar, mVarZ, mC, mBin, mT, mTAnd, mTOr, mTNot, mAnd, mOr, mNot, mIf, aNil, aCons, newTup, mTup, mFz, newLst, mLst, mCall, mIxO, mLenO, oNone, oSome, mSl, mBinL, mIsi, mFn, mFnK, mFnD, mFnDO, mUn, mItems, mItC, mYes, asB, R.bind, R.go, R.of, R.noBad, FR.to, FRD.to, tgN, tgsN, tgsC, tgT, gI, gIx, gLen, gAbs, gMax2, gMin2, gMin3, gInt, gTuple, gList, gSl, gSlL, gNeg, isT, gIsN, gNotN, gAddA, gMulA, gZip, List.map_cons, List.map_nil, List.length_cons, List.length_nil, List.replicate, List.append_eq, List.cons_append, List.nil_append, List.getElem?_cons_zero, List.getElem?_cons_succ, List.set_cons_zero, List.set_cons_succ, Option.map_some, Option.bind_some, Nat.reduceAdd, Nat.reduceSub, Nat.reduceLT, Nat.reduceLeDiff, Nat.reduceEqDiff, Int.reduceToNat, if_true, if_false, Bool.not_true, Bool.not_false, Bool.false_eq_true, List.length_append, Nat.zero_add, String.reduceEq, or_true, true_or, or_false, false_or, and_true, true_and, Nat.add_zero, Int.reduceLT, Int.reduceLE, decide_true, decide_false, decide_eq_true_eq, Int.reduceAdd, Int.reduceSub, Int.reduceMul, Int.reduceNeg, hc]]; exact ho)]
  simp [ent, entD, runF, runD, runO, oSeq, sRetO, sSeq, sNil, sSet, sSetO, sRet, sRetN, sIf, sDrop, sBreak, sCont, sAppend, sExtend, sSetIx, sAug, sPar, sAsg, sRaise, mVar, mVarZ, mC, mBin, mT, mTAnd, mTOr, mTNot, mAnd, mOr, mNot, mIf, aNil, aCons, newTup, mTup, mFz, newLst, mLst, mCall, mIxO, mLenO, oNone, oSome, mSl, mBinL, mIsi, mFn, mFnK, mFnD, mFnDO, mUn, mItems, mItC, mYes, asB, R.bind, R.go, R.of, R.noBad, FR.to, FRD.to, tgN, tgsN, tgsC, tgT, gI, gIx, gLen, gAbs, gMax2, gMin2, gMin3, gInt, gTuple, gList, gSl, gSlL, gNeg, isT, gIsN, gNotN, gAddA, gMulA, gZip, List.map_cons, List.map_nil, List.length_cons, List.length_nil, List.replicate, List.append_eq, List.cons_append, List.nil_append, List.getElem?_cons_zero, List.getElem?_cons_succ, List.set_cons_zero, List.set_cons_succ, Option.map_some, Option.bind_some, Nat.reduceAdd, Nat.reduceSub, Nat.reduceLT, Nat.reduceLeDiff, Nat.reduceEqDiff, Int.reduceToNat, if_true, if_false, Bool.not_true, Bool.not_false, Bool.false_eq_true, List.length_append, Nat.zero_add, String.reduceEq, or_true, true_or, or_false, false_or, and_true, true_and, Nat.add_zero, Int.reduceLT, Int.reduceLE, decide_true, decide_false, decide_eq_true_eq, Int.reduceAdd, Int.reduceSub, Int.reduceMul, Int.reduceNeg]
theorem divisor_ok {w m k : Nat} {M : List (List Int)} (h : Gr w m M) (hk : k ≤ 3) : F__law_divisor [lstM M, .int w, .int k] = .ok (.int (gcdT (table M w k) 0)) := by
  have e2 := some_ok (n := w) (k := k) h.w4 (by omega)
  have e3 := some_ok (n := m) (k := k) h.m4 (by omega)
  have sub : ∀ U ∈ comb m k, ∀ V ∈ comb w k, ∀ (x3 x6 x7 : Sl), c__law_divisor_1 [.va (lstM M), .va (.int w), .va (.int k), x3, .va (tupI U), .va (tupI V), x6, x7] = .ok ((subm M U V).map tupI) [.va (lstM M), .va (.int w), .va (.int k), x3, .va (tupI U), .va (tupI V), x6, x7] := by
    intro U hU V hV x3 x6 x7
    have cU := comb_cho h.m4 (by omega) hU
    have cV := comb_cho h.w4 (by omega) hV
    rw [← h.len] at cU
    have in2 : ∀ u ∈ U, c__law_divisor_2 [.va (lstM M), .va (.int w), .va (.int k), x3, .va (tupI U), .va (tupI V), .va (.int u), x7] = .ok (zs (V.map fun v => gt M u.toNat v.toNat)) [.va (lstM M), .va (.int w), .va (.int k), x3, .va (tupI U), .va (tupI V), .va (.int u), x7] := by
      intro u hu
      unfold c__law_divisor_2
      rw [mLc_map (ds := zs V) (f := fun d => match d with | .int v => .int (gt M u.toNat v.toNat) | d => d)]
      · rw [List.map_map, zs, List.map_map]
        rfl
      · simp [ent, entD, runF, runD, runO, oSeq, sRetO, sSeq, sNil, sSet, sSetO, sRet, sRetN, sIf, sDrop, sBreak, sCont, sAppend, sExtend, sSetIx, sAug, sPar, sAsg, sRaise, mVar, mVarZ, mC, mBin, mT, mTAnd, mTOr, mTNot, mAnd, mOr, mNot, mIf, aNil, aCons, newTup, mTup, mFz, newLst, mLst, mCall, mIxO, mLenO, oNone, oSome, mSl, mBinL, mIsi, mFn, mFnK, mFnD, mFnDO, mUn, mItems, mItC, mYes, asB, R.bind, R.go, R.of, R.noBad, FR.to, FRD.to, tgN, tgsN, tgsC, tgT, gI, gIx, gLen, gAbs, gMax2, gMin2, gMin3, gInt, gTuple, gList, gSl, gSlL, gNeg, isT, gIsN, gNotN, gAddA, gMulA, gZip, List.map_cons, List.map_nil, List.length_cons, List.length_nil, List.replicate, List.append_eq, List.cons_append, List.nil_append, List.getElem?_cons_zero, List.getElem?_cons_succ, List.set_cons_zero, List.set_cons_succ, Option.map_some, Option.bind_some, Nat.reduceAdd, Nat.reduceSub, Nat.reduceLT, Nat.reduceLeDiff, Nat.reduceEqDiff, Int.reduceToNat, if_true, if_false, Bool.not_true, Bool.not_false, Bool.false_eq_true, List.length_append, Nat.zero_add, String.reduceEq, or_true, true_or, or_false, false_or, and_true, true_and, Nat.add_zero, Int.reduceLT, Int.reduceLE, decide_true, decide_false, decide_eq_true_eq, Int.reduceAdd, Int.reduceSub, Int.reduceMul, Int.reduceNeg]
      · simp [cV.len, big_eq]; omega
      · intro d hd
        obtain ⟨v, hv, rfl⟩ := List.mem_map.1 hd
        obtain ⟨r, h1, h2, _⟩ := rows_gt h.rows (cU.lt u hu) (cV.lt v hv)
        simp [ent, entD, runF, runD, runO, oSeq, sRetO, sSeq, sNil, sSet, sSetO, sRet, sRetN, sIf, sDrop, sBreak, sCont, sAppend, sExtend, sSetIx, sAug, sPar, sAsg, sRaise, mVar, mVarZ, mC, mBin, mT, mTAnd, mTOr, mTNot, mAnd, mOr, mNot, mIf, aNil, aCons, newTup, mTup, mFz, newLst, mLst, mCall, mIxO, mLenO, oNone, oSome, mSl, mBinL, mIsi, mFn, mFnK, mFnD, mFnDO, mUn, mItems, mItC, mYes, asB, R.bind, R.go, R.of, R.noBad, FR.to, FRD.to, tgN, tgsN, tgsC, tgT, gI, gIx, gLen, gAbs, gMax2, gMin2, gMin3, gInt, gTuple, gList, gSl, gSlL, gNeg, isT, gIsN, gNotN, gAddA, gMulA, gZip, List.map_cons, List.map_nil, List.length_cons, List.length_nil, List.replicate, List.append_eq, List.cons_append, List.nil_append, List.getElem?_cons_zero, List.getElem?_cons_succ, List.set_cons_zero, List.set_cons_succ, Option.map_some, Option.bind_some, Nat.reduceAdd, Nat.reduceSub, Nat.reduceLT, Nat.reduceLeDiff, Nat.reduceEqDiff, Int.reduceToNat, if_true, if_false, Bool.not_true, Bool.not_false, Bool.false_eq_true, List.length_append, Nat.zero_add, String.reduceEq, or_true, true_or, or_false, false_or, and_true, true_and, Nat.add_zero, Int.reduceLT, Int.reduceLE, decide_true, decide_false, decide_eq_true_eq, Int.reduceAdd, Int.reduceSub, Int.reduceMul, Int.reduceNeg, h1, h2]
    unfold c__law_divisor_1
    rw [mLc_map (ds := zs U) (f := fun d => match d with | .int u => tupI (V.map fun v => gt M u.toNat v.toNat) | d => d)]
    · rw [List.map_map, subm, List.map_map]
      rfl
    · simp [ent, entD, runF, runD, runO, oSeq, sRetO, sSeq, sNil, sSet, sSetO, sRet, sRetN, sIf, sDrop, sBreak, sCont, sAppend, sExtend, sSetIx, sAug, sPar, sAsg, sRaise, mVar, mVarZ, mC, mBin, mT, mTAnd, mTOr, mTNot, mAnd, mOr, mNot, mIf, aNil, aCons, newTup, mTup, mFz, newLst, mLst, mCall, mIxO, mLenO, oNone, oSome, mSl, mBinL, mIsi, mFn, mFnK, mFnD, mFnDO, mUn, mItems, mItC, mYes, asB, R.bind, R.go, R.of, R.noBad, FR.to, FRD.to, tgN, tgsN, tgsC, tgT, gI, gIx, gLen, gAbs, gMax2, gMin2, gMin3, gInt, gTuple, gList, gSl, gSlL, gNeg, isT, gIsN, gNotN, gAddA, gMulA, gZip, List.map_cons, List.map_nil, List.length_cons, List.length_nil, List.replicate, List.append_eq, List.cons_append, List.nil_append, List.getElem?_cons_zero, List.getElem?_cons_succ, List.set_cons_zero, List.set_cons_succ, Option.map_some, Option.bind_some, Nat.reduceAdd, Nat.reduceSub, Nat.reduceLT, Nat.reduceLeDiff, Nat.reduceEqDiff, Int.reduceToNat, if_true, if_false, Bool.not_true, Bool.not_false, Bool.false_eq_true, List.length_append, Nat.zero_add, String.reduceEq, or_true, true_or, or_false, false_or, and_true, true_and, Nat.add_zero, Int.reduceLT, Int.reduceLE, decide_true, decide_false, decide_eq_true_eq, Int.reduceAdd, Int.reduceSub, Int.reduceMul, Int.reduceNeg]
    · simp [cU.len, big_eq]; omega
    · intro d hd
      obtain ⟨u, hu, rfl⟩ := List.mem_map.1 hd
      simp [ent, entD, runF, runD, runO, oSeq, sRetO, sSeq, sNil, sSet, sSetO, sRet, sRetN, sIf, sDrop, sBreak, sCont, sAppend, sExtend, sSetIx, sAug, sPar, sAsg, sRaise, mVar, mVarZ, mC, mBin, mT, mTAnd, mTOr, mTNot, mAnd, mOr, mNot, mIf, aNil, aCons, newTup, mTup, mFz, newLst, mLst, mCall, mIxO, mLenO, oNone, oSome, mSl, mBinL, mIsi, mFn, mFnK, mFnD, mFnDO, mUn, mItems, mItC, mYes, asB, R.bind, R.go, R.of, R.noBad, FR.to, FRD.to, tgN, tgsN, tgsC, tgT, gI, gIx, gLen, gAbs, gMax2, gMin2, gMin3, gInt, gTuple, gList, gSl, gSlL, gNeg, isT, gIsN, gNotN, gAddA, gMulA, gZip, List.map_cons, List.map_nil, List.length_cons, List.length_nil, List.replicate, List.append_eq, List.cons_append, List.nil_append, List.getElem?_cons_zero, List.getElem?_cons_succ, List.set_cons_zero, List.set_cons_succ, Option.map_some, Option.bind_some, Nat.reduceAdd, Nat.reduceSub, Nat.reduceLT, Nat.reduceLeDiff, Nat.reduceEqDiff, Int.reduceToNat, if_true, if_false, Bool.not_true, Bool.not_false, Bool.false_eq_true, List.length_append, Nat.zero_add, String.reduceEq, or_true, true_or, or_false, false_or, and_true, true_and, Nat.add_zero, Int.reduceLT, Int.reduceLE, decide_true, decide_false, decide_eq_true_eq, Int.reduceAdd, Int.reduceSub, Int.reduceMul, Int.reduceNeg, in2 u hu, -List.map_map]
  have inner : ∀ U ∈ comb m k, ∀ (Vs : List (List Int)), (∀ V ∈ Vs, V ∈ comb w k) → ∀ (a : Int) (x5 x6 x7 : Sl), ∃ y5, forL (tgN 5) l__law_divisor_1 (Vs.map tupI) [.va (lstM M), .va (.int w), .va (.int k), .va (.int a), .va (tupI U), x5, x6, x7] = .nx [.va (lstM M), .va (.int w), .va (.int k), .va (.int (gcdR (Vs.map fun V => det (subm M U V)) a)), .va (tupI U), y5, x6, x7] := by
    intro U hU Vs
    induction Vs with
    | nil => exact fun _ a x5 x6 x7 => ⟨x5, rfl⟩
    | cons V Vs ih =>
      intro hVs a x5 x6 x7
      have hV := hVs V (by simp)
      have cU := comb_cho h.m4 (by omega) hU
      have cV := comb_cho h.w4 (by omega) hV
      have hb := subm_bd h.rows (by omega) h.len cU cV hk
      have hd := law_det (S := .lst ((subm M U V).map tupI)) (.inl rfl) hk (subm_sq cU.len cV.len) (fun r hr x hx => by
        obtain ⟨u, hu, rfl⟩ := List.mem_map.1 hr
        obtain ⟨v, hv, rfl⟩ := List.mem_map.1 hx
        rw [← h.len] at cU
        obtain ⟨_, _, _, h3⟩ := rows_gt h.rows (cU.lt u hu) (cV.lt v hv)
        exact bd_of h3 (by omega))
      have hg := gcd_ok a _ (hb.mono (by decide : 100 ≤ 190))
      obtain ⟨y5, hy⟩ := ih (fun V hV => hVs V (by simp [hV])) (Int.gcd a (det (subm M U V))) (.va (tupI V)) x6 x7
      refine ⟨y5, ?_⟩
      rw [List.map_cons, forL_step (e1 := [.va (lstM M), .va (.int w), .va (.int k), .va (.int a), .va (tupI U), .va (tupI V), x6, x7]) (e2 := [.va (lstM M), .va (.int w), .va (.int k), .va (.int (Int.gcd a (det (subm M U V)))), .va (tupI U), .va (tupI V), x6, x7]) rfl (by simp [l__law_divisor_1, ent, entD, runF, runD, runO, oSeq, sRetO, sSeq, sNil, sSet, sSetO, sRet, sRetN, sIf, sDrop, sBreak, sCont, sAppend, sExtend, sSetIx, sAug, sPar, sAsg, sRaise, mVar, mVarZ, mC, mBin, mT, mTAnd, mTOr, mTNot, mAnd, mOr, mNot, mIf, aNil, aCons, newTup, mTup, mFz, newLst, mLst, mCall, mIxO, mLenO, oNone, oSome, mSl, mBinL, mIsi, mFn, mFnK, mFnD, mFnDO, mUn, mItems, mItC, mYes, asB, R.bind, R.go, R.of, R.noBad, FR.to, FRD.to, tgN, tgsN, tgsC, tgT, gI, gIx, gLen, gAbs, gMax2, gMin2, gMin3, gInt, gTuple, gList, gSl, gSlL, gNeg, isT, gIsN, gNotN, gAddA, gMulA, gZip, List.map_cons, List.map_nil, List.length_cons, List.length_nil, List.replicate, List.append_eq, List.cons_append, List.nil_append, List.getElem?_cons_zero, List.getElem?_cons_succ, List.set_cons_zero, List.set_cons_succ, Option.map_some, Option.bind_some, Nat.reduceAdd, Nat.reduceSub, Nat.reduceLT, Nat.reduceLeDiff, Nat.reduceEqDiff, Int.reduceToNat, if_true, if_false, Bool.not_true, Bool.not_false, Bool.false_eq_true, List.length_append, Nat.zero_add, String.reduceEq, or_true, true_or, or_false, false_or, and_true, true_and, Nat.add_zero, Int.reduceLT, Int.reduceLE, decide_true, decide_false, decide_eq_true_eq, Int.reduceAdd, Int.reduceSub, Int.reduceMul, Int.reduceNeg, sub U hU V hV, hd, hg, -List.map_map])]
      exact hy
  have outer : ∀ (Us : List (List Int)), (∀ U ∈ Us, U ∈ comb m k) → ∀ (a : Int) (x4 x5 x6 x7 : Sl), ∃ y4 y5, forL (tgN 4) l__law_divisor_2 (Us.map tupI) [.va (lstM M), .va (.int w), .va (.int k), .va (.int a), x4, x5, x6, x7] = .nx [.va (lstM M), .va (.int w), .va (.int k), .va (.int (gcdT (Us.map fun U => (comb w k).map fun V => det (subm M U V)) a)), y4, y5, x6, x7] := by
    intro Us
    induction Us with
    | nil => exact fun _ a x4 x5 x6 x7 => ⟨x4, x5, rfl⟩
    | cons U Us ih =>
      intro hUs a x4 x5 x6 x7
      obtain ⟨z5, hz⟩ := inner U (hUs U (by simp)) (comb w k) (fun _ h => h) a x5 x6 x7
      obtain ⟨y4, y5, hy⟩ := ih (fun U hU => hUs U (by simp [hU])) (gcdR ((comb w k).map fun V => det (subm M U V)) a) (.va (tupI U)) z5 x6 x7
      refine ⟨y4, y5, ?_⟩
      rw [List.map_cons, forL_step (e1 := [.va (lstM M), .va (.int w), .va (.int k), .va (.int a), .va (tupI U), x5, x6, x7]) (e2 := [.va (lstM M), .va (.int w), .va (.int k), .va (.int (gcdR ((comb w k).map fun V => det (subm M U V)) a)), .va (tupI U), z5, x6, x7]) rfl
        (by unfold l__law_divisor_2 sFor; rw [show mItems (mFn 2 F__law_some (aCons (mVar 1) (aCons (mVar 2) aNil))) [.va (lstM M), .va (.int w), .va (.int k), .va (.int a), .va (tupI U), x5, x6, x7] = .ok ((comb w k).map tupI) [.va (lstM M), .va (.int w), .va (.int k), .va (.int a), .va (tupI U), x5, x6, x7] by simp [ent, entD, runF, runD, runO, oSeq, sRetO, sSeq, sNil, sSet, sSetO, sRet, sRetN, sIf, sDrop, sBreak, sCont, sAppend, sExtend, sSetIx, sAug, sPar, sAsg, sRaise, mVar, mVarZ, mC, mBin, mT, mTAnd, mTOr, mTNot, mAnd, mOr, mNot, mIf, aNil, aCons, newTup, mTup, mFz, newLst, mLst, mCall, mIxO, mLenO, oNone, oSome, mSl, mBinL, mIsi, mFn, mFnK, mFnD, mFnDO, mUn, mItems, mItC, mYes, asB, R.bind, R.go, R.of, R.noBad, FR.to, FRD.to, tgN, tgsN, tgsC, tgT, gI, gIx, gLen, gAbs, gMax2, gMin2, gMin3, gInt, gTuple, gList, gSl, gSlL, gNeg, isT, gIsN, gNotN, gAddA, gMulA, gZip, List.map_cons, List.map_nil, List.length_cons, List.length_nil, List.replicate, List.append_eq, List.cons_append, List.nil_append, List.getElem?_cons_zero, List.getElem?_cons_succ, List.set_cons_zero, List.set_cons_succ, Option.map_some, Option.bind_some, Nat.reduceAdd, Nat.reduceSub, Nat.reduceLT, Nat.reduceLeDiff, Nat.reduceEqDiff, Int.reduceToNat, if_true, if_false, Bool.not_true, Bool.not_false, Bool.false_eq_true, List.length_append, Nat.zero_add, String.reduceEq, or_true, true_or, or_false, false_or, and_true, true_and, Nat.add_zero, Int.reduceLT, Int.reduceLE, decide_true, decide_false, decide_eq_true_eq, Int.reduceAdd, Int.reduceSub, Int.reduceMul, Int.reduceNeg, e2]]; exact hz)]
      exact hy
  obtain ⟨y4, y5, ho⟩ := outer (comb m k) (fun _ h => h) 0 .un .un .un .un
  unfold F__law_divisor m__law_divisor runF
  rw [show ent 8 [lstM M, .int w, .int k] = [.va (lstM M), .va (.int w), .va (.int k), .un, .un, .un, .un, .un] from rfl]
  rw [seq_nx (e := [.va (lstM M), .va (.int w), .va (.int k), .va (.int 0), .un, .un, .un, .un]) (by simp [ent, entD, runF, runD, runO, oSeq, sRetO, sSeq, sNil, sSet, sSetO, sRet, sRetN, sIf, sDrop, sBreak, sCont, sAppend, sExtend, sSetIx, sAug, sPar, sAsg, sRaise, mVar, mVarZ, mC, mBin, mT, mTAnd, mTOr, mTNot, mAnd, mOr, mNot, mIf, aNil, aCons, newTup, mTup, mFz, newLst, mLst, mCall, mIxO, mLenO, oNone, oSome, mSl, mBinL, mIsi, mFn, mFnK, mFnD, mFnDO, mUn, mItems, mItC, mYes, asB, R.bind, R.go, R.of, R.noBad, FR.to, FRD.to, tgN, tgsN, tgsC, tgT, gI, gIx, gLen, gAbs, gMax2, gMin2, gMin3, gInt, gTuple, gList, gSl, gSlL, gNeg, isT, gIsN, gNotN, gAddA, gMulA, gZip, List.map_cons, List.map_nil, List.length_cons, List.length_nil, List.replicate, List.append_eq, List.cons_append, List.nil_append, List.getElem?_cons_zero, List.getElem?_cons_succ, List.set_cons_zero, List.set_cons_succ, Option.map_some, Option.bind_some, Nat.reduceAdd, Nat.reduceSub, Nat.reduceLT, Nat.reduceLeDiff, Nat.reduceEqDiff, Int.reduceToNat, if_true, if_false, Bool.not_true, Bool.not_false, Bool.false_eq_true, List.length_append, Nat.zero_add, String.reduceEq, or_true, true_or, or_false, false_or, and_true, true_and, Nat.add_zero, Int.reduceLT, Int.reduceLE, decide_true, decide_false, decide_eq_true_eq, Int.reduceAdd, Int.reduceSub, Int.reduceMul, Int.reduceNeg])]
  rw [seq_nx (by unfold sFor; rw [show mItems (mFn 2 F__law_some (aCons (mCall gLen (aCons (mVar 0) aNil)) (aCons (mVar 2) aNil))) [.va (lstM M), .va (.int w), .va (.int k), .va (.int 0), .un, .un, .un, .un] = .ok ((comb m k).map tupI) [.va (lstM M), .va (.int w), .va (.int k), .va (.int 0), .un, .un, .un, .un] by simp [ent, entD, runF, runD, runO, oSeq, sRetO, sSeq, sNil, sSet, sSetO, sRet, sRetN, sIf, sDrop, sBreak, sCont, sAppend, sExtend, sSetIx, sAug, sPar, sAsg, sRaise, mVar, mVarZ, mC, mBin, mT, mTAnd, mTOr, mTNot, mAnd, mOr, mNot, mIf, aNil, aCons, newTup, mTup, mFz, newLst, mLst, mCall, mIxO, mLenO, oNone, oSome, mSl, mBinL, mIsi, mFn, mFnK, mFnD, mFnDO, mUn, mItems, mItC, mYes, asB, R.bind, R.go, R.of, R.noBad, FR.to, FRD.to, tgN, tgsN, tgsC, tgT, gI, gIx, gLen, gAbs, gMax2, gMin2, gMin3, gInt, gTuple, gList, gSl, gSlL, gNeg, isT, gIsN, gNotN, gAddA, gMulA, gZip, List.map_cons, List.map_nil, List.length_cons, List.length_nil, List.replicate, List.append_eq, List.cons_append, List.nil_append, List.getElem?_cons_zero, List.getElem?_cons_succ, List.set_cons_zero, List.set_cons_succ, Option.map_some, Option.bind_some, Nat.reduceAdd, Nat.reduceSub, Nat.reduceLT, Nat.reduceLeDiff, Nat.reduceEqDiff, Int.reduceToNat, if_true, if_false, Bool.not_true, Bool.not_false, Bool.false_eq_true, List.length_append, Nat.zero_add, String.reduceEq, or_true, true_or, or_false, false_or, and_true, true_and, Nat.add_zero, Int.reduceLT, Int.reduceLE, decide_true, decide_false, decide_eq_true_eq, Int.reduceAdd, Int.reduceSub, Int.reduceMul, Int.reduceNeg, h.len, e3]]; exact ho)]
  unfold table
  rw [h.len]
  simp [ent, entD, runF, runD, runO, oSeq, sRetO, sSeq, sNil, sSet, sSetO, sRet, sRetN, sIf, sDrop, sBreak, sCont, sAppend, sExtend, sSetIx, sAug, sPar, sAsg, sRaise, mVar, mVarZ, mC, mBin, mT, mTAnd, mTOr, mTNot, mAnd, mOr, mNot, mIf, aNil, aCons, newTup, mTup, mFz, newLst, mLst, mCall, mIxO, mLenO, oNone, oSome, mSl, mBinL, mIsi, mFn, mFnK, mFnD, mFnDO, mUn, mItems, mItC, mYes, asB, R.bind, R.go, R.of, R.noBad, FR.to, FRD.to, tgN, tgsN, tgsC, tgT, gI, gIx, gLen, gAbs, gMax2, gMin2, gMin3, gInt, gTuple, gList, gSl, gSlL, gNeg, isT, gIsN, gNotN, gAddA, gMulA, gZip, List.map_cons, List.map_nil, List.length_cons, List.length_nil, List.replicate, List.append_eq, List.cons_append, List.nil_append, List.getElem?_cons_zero, List.getElem?_cons_succ, List.set_cons_zero, List.set_cons_succ, Option.map_some, Option.bind_some, Nat.reduceAdd, Nat.reduceSub, Nat.reduceLT, Nat.reduceLeDiff, Nat.reduceEqDiff, Int.reduceToNat, if_true, if_false, Bool.not_true, Bool.not_false, Bool.false_eq_true, List.length_append, Nat.zero_add, String.reduceEq, or_true, true_or, or_false, false_or, and_true, true_and, Nat.add_zero, Int.reduceLT, Int.reduceLE, decide_true, decide_false, decide_eq_true_eq, Int.reduceAdd, Int.reduceSub, Int.reduceMul, Int.reduceNeg]
end Y

set_option Elab.async false
set_option linter.all false
set_option maxRecDepth 100000
set_option maxHeartbeats 4000000
namespace Y
open PySem PySem.Spec PyProof.Rows L2
theorem gcdR_zero {r : List Int} {a : Int} : gcdR r a = 0 ↔ a = 0 ∧ ∀ x ∈ r, x = 0 := by
  induction r generalizing a with
  | nil => simp [gcdR]
  | cons x r ih =>
    have : gcdR (x :: r) a = gcdR r (Int.gcd a x) := rfl
    rw [this, ih]
    simp [Int.gcd_eq_zero_iff]
    constructor
    · rintro ⟨⟨h1, h2⟩, h3⟩; exact ⟨h1, h2, h3⟩
    · rintro ⟨h1, h2, h3⟩; exact ⟨⟨h1, h2⟩, h3⟩
theorem gcdT_zero {t : List (List Int)} {a : Int} : gcdT t a = 0 ↔ a = 0 ∧ ∀ r ∈ t, ∀ x ∈ r, x = 0 := by
  induction t generalizing a with
  | nil => simp [gcdT]
  | cons r t ih =>
    have : gcdT (r :: t) a = gcdT t (gcdR r a) := rfl
    rw [this, ih, gcdR_zero]
    simp
    constructor
    · rintro ⟨⟨h1, h2⟩, h3⟩; exact ⟨h1, h2, h3⟩
    · rintro ⟨h1, h2, h3⟩; exact ⟨⟨h1, h2⟩, h3⟩
/-- all minors of one size are zero -/
def AllZ (M : List (List Int)) (w k : Nat) : Prop := ∀ U ∈ comb M.length k, ∀ V ∈ comb w k, det (subm M U V) = 0
theorem gcdT_table {M : List (List Int)} {w k : Nat} : gcdT (table M w k) 0 = 0 ↔ AllZ M w k := by
  rw [gcdT_zero]
  constructor
  · rintro ⟨_, h⟩ U hU V hV
    exact h _ (List.mem_map.2 ⟨U, hU, rfl⟩) _ (List.mem_map.2 ⟨V, hV, rfl⟩)
  · intro h
    refine ⟨rfl, fun r hr x hx => ?_⟩
    obtain ⟨U, hU, rfl⟩ := List.mem_map.1 hr
    obtain ⟨V, hV, rfl⟩ := List.mem_map.1 hx
    exact h U hU V hV
theorem comb2 {n : Nat} (hn : n ≤ 4) {c : List Int} (h : c ∈ comb n 2) : ∃ x y, c = [x, y] ∧ [x] ∈ comb n 1 ∧ [y] ∈ comb n 1 := by
  have key : ∀ n, n ≤ 4 → ((comb n 2).all fun c => match c with | [x, y] => decide ([x] ∈ comb n 1) && decide ([y] ∈ comb n 1) | _ => false) = true := by
    intro n hn
    rcases le4 hn with rfl | rfl | rfl | rfl | rfl <;> decide
  have h1 := (List.all_eq_true.1 (key n hn)) c h
  match c, h1 with
  | [x, y], h1 =>
    simp only [Bool.and_eq_true, decide_eq_true_eq] at h1
    exact ⟨x, y, rfl, h1.1, h1.2⟩
theorem comb3 {n : Nat} (hn : n ≤ 4) {c : List Int} (h : c ∈ comb n 3) : ∃ x y z, c = [x, y, z] ∧ [y, z] ∈ comb n 2 ∧ [x, z] ∈ comb n 2 ∧ [x, y] ∈ comb n 2 := by
  have key : ∀ n, n ≤ 4 → ((comb n 3).all fun c => match c with | [x, y, z] => decide ([y, z] ∈ comb n 2) && (decide ([x, z] ∈ comb n 2) && decide ([x, y] ∈ comb n 2)) | _ => false) = true := by
    intro n hn
    rcases le4 hn with rfl | rfl | rfl | rfl | rfl <;> decide
  have h1 := (List.all_eq_true.1 (key n hn)) c h
  match c, h1 with
  | [x, y, z], h1 =>
    simp only [Bool.and_eq_true, decide_eq_true_eq] at h1
    exact ⟨x, y, z, rfl, h1.1, h1.2.1, h1.2.2⟩
theorem allz12 {M : List (List Int)} {w : Nat} (hm : M.length ≤ 4) (hw : w ≤ 4) (h : AllZ M w 1) : AllZ M w 2 := by
  intro U hU V hV
  obtain ⟨u, u', rfl, hu, hu'⟩ := comb2 hm hU
  obtain ⟨v, v', rfl, hv, hv'⟩ := comb2 hw hV
  have a1 := h _ hu _ hv
  have a2 := h _ hu _ hv'
  simp only [subm, List.map_cons, List.map_nil, det] at a1 a2 ⊢
  rw [a1, a2]
  simp
theorem allz23 {M : List (List Int)} {w : Nat} (hm : M.length ≤ 4) (hw : w ≤ 4) (h : AllZ M w 2) : AllZ M w 3 := by
  intro U hU V hV
  obtain ⟨u, u1, u2, rfl, h1, h2, h3⟩ := comb3 hm hU
  obtain ⟨v, v1, v2, rfl, k1, k2, k3⟩ := comb3 hw hV
  have a1 := h _ h1 _ k1
  have a2 := h _ h1 _ k2
  have a3 := h _ h1 _ k3
  simp only [subm, List.map_cons, List.map_nil, det] at a1 a2 a3 ⊢
  rw [a1, a2, a3]
  simp
/-- the rank -/
def rk (M : List (List Int)) (w L : Nat) : Nat := if L ≥ 1 ∧ gcdT (table M w 1) 0 ≠ 0 then (if L ≥ 2 ∧ gcdT (table M w 2) 0 ≠ 0 then (if L ≥ 3 ∧ gcdT (table M w 3) 0 ≠ 0 then 3 else 2) else 1) else 0
theorem rank_ok {w m L : Nat} {M : List (List Int)} (h : Gr w m M) (hL : L = min w m) (h1 : 1 ≤ L) (h3 : L ≤ 3) : F_rank_by_minors [gridD w M] = .ok (.int (rk M w L)) := by
  have e0 := need_ok h.grid (by omega) (.str "grid")
  have lw : M.length ≤ 4 := by rw [h.len]; exact h.m4
  have z12 : gcdT (table M w 1) 0 = 0 → gcdT (table M w 2) 0 = 0 := fun z => gcdT_table.2 (allz12 lw h.w4 (gcdT_table.1 z))
  have z23 : gcdT (table M w 2) 0 = 0 → gcdT (table M w 3) 0 = 0 := fun z => gcdT_table.2 (allz23 lw h.w4 (gcdT_table.1 z))
  have cm : ∀ k, 1 ≤ k → k ≤ L → F_common_minor [gridD w M, .int k] = .ok (.int (gcdT (table M w k) 0)) := fun k a b => cminor_ok h a (by omega) (by omega) (by omega)
  have hmin : (if (m : Int) < w then (m : Int) else w) = L := by split <;> omega
  have hr : mItC gRngDn (aCons (mCall gMin2 (aCons (mBin gIx (mVar 0) (mC (.int 0))) (aCons (mCall gLen (aCons (mBin gIx (mVar 0) (mC (.int 1))) aNil)) aNil))) (aCons (mC (.int 0)) (aCons (mUn gNeg (mC (.int 1))) aNil))) [.va (gridD w M), .un] = .ok (rngDn L L) [.va (gridD w M), .un] := by
    refine mItC_ok (ds := [.int L, .int 0, .int (-1)]) ?_ ?_
    · simp only [aCons, aNil, mCall, mBin, mVar, mC, mUn, List.getElem?_cons_zero, R.bind, gIx, ix0, ix1, R.of, gLen, List.length_map, h.len, gMin2, gNeg]
      rw [hmin]
    · unfold gRngDn
      simp only
      rw [if_pos ⟨trivial, by omega, by omega, by omega, by omega⟩]
      congr 2
  unfold F_rank_by_minors m_rank_by_minors runF
  rw [show ent 2 [gridD w M] = [.va (gridD w M), .un] from rfl]
  rw [seq_nx (e := [.va (gridD w M), .un]) (by simp [ent, entD, runF, runD, runO, oSeq, sRetO, sSeq, sNil, sSet, sSetO, sRet, sRetN, sIf, sDrop, sBreak, sCont, sAppend, sExtend, sSetIx, sAug, sPar, sAsg, sRaise, mVar, mVarZ, mC, mBin, mT, mTAnd, mTOr, mTNot, mAnd, mOr, mNot, mIf, aNil, aCons, newTup, mTup, mFz, newLst, mLst, mCall, mIxO, mLenO, oNone, oSome, mSl, mBinL, mIsi, mFn, mFnK, mFnD, mFnDO, mUn, mItems, mItC, mYes, asB, R.bind, R.go, R.of, R.noBad, FR.to, FRD.to, tgN, tgsN, tgsC, tgT, gI, gIx, gLen, gAbs, gMax2, gMin2, gMin3, gInt, gTuple, gList, gSl, gSlL, gNeg, isT, gIsN, gNotN, gAddA, gMulA, gZip, List.map_cons, List.map_nil, List.length_cons, List.length_nil, List.replicate, List.append_eq, List.cons_append, List.nil_append, List.getElem?_cons_zero, List.getElem?_cons_succ, List.set_cons_zero, List.set_cons_succ, Option.map_some, Option.bind_some, Nat.reduceAdd, Nat.reduceSub, Nat.reduceLT, Nat.reduceLeDiff, Nat.reduceEqDiff, Int.reduceToNat, if_true, if_false, Bool.not_true, Bool.not_false, Bool.false_eq_true, List.length_append, Nat.zero_add, String.reduceEq, or_true, true_or, or_false, false_or, and_true, true_and, Nat.add_zero, Int.reduceLT, Int.reduceLE, decide_true, decide_false, decide_eq_true_eq, Int.reduceAdd, Int.reduceSub, Int.reduceMul, Int.reduceNeg, e0])]
  have : L = 1 ∨ L = 2 ∨ L = 3 := by omega
  unfold sSeq sFor
  rw [hr]
  rcases this with rfl | rfl | rfl
  · have c1 : F_common_minor [gridD w M, .int 1] = .ok (.int (gcdT (table M w 1) 0)) := cm 1 (by omega) (by omega)
    by_cases g1 : gcdT (table M w 1) 0 = 0
    · simp [rngDn, List.range, List.range.loop, forL, l_rank_by_minors_1, ent, entD, runF, runD, runO, oSeq, sRetO, sSeq, sNil, sSet, sSetO, sRet, sRetN, sIf, sDrop, sBreak, sCont, sAppend, sExtend, sSetIx, sAug, sPar, sAsg, sRaise, mVar, mVarZ, mC, mBin, mT, mTAnd, mTOr, mTNot, mAnd, mOr, mNot, mIf, aNil, aCons, newTup, mTup, mFz, newLst, mLst, mCall, mIxO, mLenO, oNone, oSome, mSl, mBinL, mIsi, mFn, mFnK, mFnD, mFnDO, mUn, mItems, mItC, mYes, asB, R.bind, R.go, R.of, R.noBad, FR.to, FRD.to, tgN, tgsN, tgsC, tgT, gI, gIx, gLen, gAbs, gMax2, gMin2, gMin3, gInt, gTuple, gList, gSl, gSlL, gNeg, isT, gIsN, gNotN, gAddA, gMulA, gZip, List.map_cons, List.map_nil, List.length_cons, List.length_nil, List.replicate, List.append_eq, List.cons_append, List.nil_append, List.getElem?_cons_zero, List.getElem?_cons_succ, List.set_cons_zero, List.set_cons_succ, Option.map_some, Option.bind_some, Nat.reduceAdd, Nat.reduceSub, Nat.reduceLT, Nat.reduceLeDiff, Nat.reduceEqDiff, Int.reduceToNat, if_true, if_false, Bool.not_true, Bool.not_false, Bool.false_eq_true, List.length_append, Nat.zero_add, String.reduceEq, or_true, true_or, or_false, false_or, and_true, true_and, Nat.add_zero, Int.reduceLT, Int.reduceLE, decide_true, decide_false, decide_eq_true_eq, Int.reduceAdd, Int.reduceSub, Int.reduceMul, Int.reduceNeg, neI, rk, c1, g1]
    · simp [rngDn, List.range, List.range.loop, forL, l_rank_by_minors_1, ent, entD, runF, runD, runO, oSeq, sRetO, sSeq, sNil, sSet, sSetO, sRet, sRetN, sIf, sDrop, sBreak, sCont, sAppend, sExtend, sSetIx, sAug, sPar, sAsg, sRaise, mVar, mVarZ, mC, mBin, mT, mTAnd, mTOr, mTNot, mAnd, mOr, mNot, mIf, aNil, aCons, newTup, mTup, mFz, newLst, mLst, mCall, mIxO, mLenO, oNone, oSome, mSl, mBinL, mIsi, mFn, mFnK, mFnD, mFnDO, mUn, mItems, mItC, mYes, asB, R.bind, R.go, R.of, R.noBad, FR.to, FRD.to, tgN, tgsN, tgsC, tgT, gI, gIx, gLen, gAbs, gMax2, gMin2, gMin3, gInt, gTuple, gList, gSl, gSlL, gNeg, isT, gIsN, gNotN, gAddA, gMulA, gZip, List.map_cons, List.map_nil, List.length_cons, List.length_nil, List.replicate, List.append_eq, List.cons_append, List.nil_append, List.getElem?_cons_zero, List.getElem?_cons_succ, List.set_cons_zero, List.set_cons_succ, Option.map_some, Option.bind_some, Nat.reduceAdd, Nat.reduceSub, Nat.reduceLT, Nat.reduceLeDiff, Nat.reduceEqDiff, Int.reduceToNat, if_true, if_false, Bool.not_true, Bool.not_false, Bool.false_eq_true, List.length_append, Nat.zero_add, String.reduceEq, or_true, true_or, or_false, false_or, and_true, true_and, Nat.add_zero, Int.reduceLT, Int.reduceLE, decide_true, decide_false, decide_eq_true_eq, Int.reduceAdd, Int.reduceSub, Int.reduceMul, Int.reduceNeg, neI, rk, c1, g1]
  · have c1 : F_common_minor [gridD w M, .int 1] = .ok (.int (gcdT (table M w 1) 0)) := cm 1 (by omega) (by omega)
    have c2 : F_common_minor [gridD w M, .int 2] = .ok (.int (gcdT (table M w 2) 0)) := cm 2 (by omega) (by omega)
    by_cases g1 : gcdT (table M w 1) 0 = 0
    · have g2 := z12 g1
      simp [rngDn, List.range, List.range.loop, forL, l_rank_by_minors_1, ent, entD, runF, runD, runO, oSeq, sRetO, sSeq, sNil, sSet, sSetO, sRet, sRetN, sIf, sDrop, sBreak, sCont, sAppend, sExtend, sSetIx, sAug, sPar, sAsg, sRaise, mVar, mVarZ, mC, mBin, mT, mTAnd, mTOr, mTNot, mAnd, mOr, mNot, mIf, aNil, aCons, newTup, mTup, mFz, newLst, mLst, mCall, mIxO, mLenO, oNone, oSome, mSl, mBinL, mIsi, mFn, mFnK, mFnD, mFnDO, mUn, mItems, mItC, mYes, asB, R.bind, R.go, R.of, R.noBad, FR.to, FRD.to, tgN, tgsN, tgsC, tgT, gI, gIx, gLen, gAbs, gMax2, gMin2, gMin3, gInt, gTuple, gList, gSl, gSlL, gNeg, isT, gIsN, gNotN, gAddA, gMulA, gZip, List.map_cons, List.map_nil, List.length_cons, List.length_nil, List.replicate, List.append_eq, List.cons_append, List.nil_append, List.getElem?_cons_zero, List.getElem?_cons_succ, List.set_cons_zero, List.set_cons_succ, Option.map_some, Option.bind_some, Nat.reduceAdd, Nat.reduceSub, Nat.reduceLT, Nat.reduceLeDiff, Nat.reduceEqDiff, Int.reduceToNat, if_true, if_false, Bool.not_true, Bool.not_false, Bool.false_eq_true, List.length_append, Nat.zero_add, String.reduceEq, or_true, true_or, or_false, false_or, and_true, true_and, Nat.add_zero, Int.reduceLT, Int.reduceLE, decide_true, decide_false, decide_eq_true_eq, Int.reduceAdd, Int.reduceSub, Int.reduceMul, Int.reduceNeg, neI, rk, c1, c2, g1, g2]
    · by_cases g2 : gcdT (table M w 2) 0 = 0
      · simp [rngDn, List.range, List.range.loop, forL, l_rank_by_minors_1, ent, entD, runF, runD, runO, oSeq, sRetO, sSeq, sNil, sSet, sSetO, sRet, sRetN, sIf, sDrop, sBreak, sCont, sAppend, sExtend, sSetIx, sAug, sPar, sAsg, sRaise, mVar, mVarZ, mC, mBin, mT, mTAnd, mTOr, mTNot, mAnd, mOr, mNot, mIf, aNil, aCons, newTup, mTup, mFz, newLst, mLst, mCall, mIxO, mLenO, oNone, oSome, mSl, mBinL, mIsi, mFn, mFnK, mFnD, mFnDO, mUn, mItems, mItC, mYes, asB, R.bind, R.go, R.of, R.noBad, FR.to, FRD.to, tgN, tgsN, tgsC, tgT, gI, gIx, gLen, gAbs, gMax2, gMin2, gMin3, gInt, gTuple, gList, gSl, gSlL, gNeg, isT, gIsN, gNotN, gAddA, gMulA, gZip, List.map_cons, List.map_nil, List.length_cons, List.length_nil, List.replicate, List.append_eq, List.cons_append, List.nil_append, List.getElem?_cons_zero, List.getElem?_cons_succ, List.set_cons_zero, List.set_cons_succ, Option.map_some, Option.bind_some, Nat.reduceAdd, Nat.reduceSub, Nat.reduceLT, Nat.reduceLeDiff, Nat.reduceEqDiff, Int.reduceToNat, if_true, if_false, Bool.not_true, Bool.not_false, Bool.false_eq_true, List.length_append, Nat.zero_add, String.reduceEq, or_true, true_or, or_false, false_or, and_true, true_and, Nat.add_zero, Int.reduceLT, Int.reduceLE, decide_true, decide_false, decide_eq_true_eq, Int.reduceAdd, Int.reduceSub, Int.reduceMul, Int.reduceNeg, neI, rk, c1, c2, g1, g2]
      · simp [rngDn, List.range, List.range.loop, forL, l_rank_by_minors_1, ent, entD, runF, runD, runO, oSeq, sRetO, sSeq, sNil, sSet, sSetO, sRet, sRetN, sIf, sDrop, sBreak, sCont, sAppend, sExtend, sSetIx, sAug, sPar, sAsg, sRaise, mVar, mVarZ, mC, mBin, mT, mTAnd, mTOr, mTNot, mAnd, mOr, mNot, mIf, aNil, aCons, newTup, mTup, mFz, newLst, mLst, mCall, mIxO, mLenO, oNone, oSome, mSl, mBinL, mIsi, mFn, mFnK, mFnD, mFnDO, mUn, mItems, mItC, mYes, asB, R.bind, R.go, R.of, R.noBad, FR.to, FRD.to, tgN, tgsN, tgsC, tgT, gI, gIx, gLen, gAbs, gMax2, gMin2, gMin3, gInt, gTuple, gList, gSl, gSlL, gNeg, isT, gIsN, gNotN, gAddA, gMulA, gZip, List.map_cons, List.map_nil, List.length_cons, List.length_nil, List.replicate, List.append_eq, List.cons_append, List.nil_append, List.getElem?_cons_zero, List.getElem?_cons_succ, List.set_cons_zero, List.set_cons_succ, Option.map_some, Option.bind_some, Nat.reduceAdd, Nat.reduceSub, Nat.reduceLT, Nat.reduceLeDiff, Nat.reduceEqDiff, Int.reduceToNat, if_true, if_false, Bool.not_true, Bool.not_false, Bool.false_eq_true, List.length_append, Nat.zero_add, String.reduceEq, or_true, true_or, or_false, false_or, and_true, true_and, Nat.add_zero, Int.reduceLT, Int.reduceLE, decide_true, decide_false, decide_eq_true_eq, Int.reduceAdd, Int.reduceSub, Int.reduceMul, Int.reduceNeg, neI, rk, c1, c2, g1, g2]
  · have c1 : F_common_minor [gridD w M, .int 1] = .ok (.int (gcdT (table M w 1) 0)) := cm 1 (by omega) (by omega)
    have c2 : F_common_minor [gridD w M, .int 2] = .ok (.int (gcdT (table M w 2) 0)) := cm 2 (by omega) (by omega)
    have c3 : F_common_minor [gridD w M, .int 3] = .ok (.int (gcdT (table M w 3) 0)) := cm 3 (by omega) (by omega)
    by_cases g1 : gcdT (table M w 1) 0 = 0
    · have g2 := z12 g1
      have g3 := z23 g2
      simp [rngDn, List.range, List.range.loop, forL, l_rank_by_minors_1, ent, entD, runF, runD, runO, oSeq, sRetO, sSeq, sNil, sSet, sSetO, sRet, sRetN, sIf, sDrop, sBreak, sCont, sAppend, sExtend, sSetIx, sAug, sPar, sAsg, sRaise, mVar, mVarZ, mC, mBin, mT, mTAnd, mTOr, mTNot, mAnd, mOr, mNot, mIf, aNil, aCons, newTup, mTup, mFz, newLst, mLst, mCall, mIxO, mLenO, oNone, oSome, mSl, mBinL, mIsi, mFn, mFnK, mFnD, mFnDO, mUn, mItems, mItC, mYes, asB, R.bind, R.go, R.of, R.noBad, FR.to, FRD.to, tgN, tgsN, tgsC, tgT, gI, gIx, gLen, gAbs, gMax2, gMin2, gMin3, gInt, gTuple, gList, gSl, gSlL, gNeg, isT, gIsN, gNotN, gAddA, gMulA, gZip, List.map_cons, List.map_nil, List.length_cons, List.length_nil, List.replicate, List.append_eq, List.cons_append, List.nil_append, List.getElem?_cons_zero, List.getElem?_cons_succ, List.set_cons_zero, List.set_cons_succ, Option.map_some, Option.bind_some, Nat.reduceAdd, Nat.reduceSub, Nat.reduceLT, Nat.reduceLeDiff, Nat.reduceEqDiff, Int.reduceToNat, if_true, if_false, Bool.not_true, Bool.not_false, Bool.false_eq_true, List.length_append, Nat.zero_add, String.reduceEq, or_true, true_or, or_false, false_or, and_true, true_and, Nat.add_zero, Int.reduceLT, Int.reduceLE, decide_true, decide_false, decide_eq_true_eq, Int.reduceAdd, Int.reduceSub, Int.reduceMul, Int.reduceNeg, neI, rk, c1, c2, c3, g1, g2, g3]
    · by_cases g2 : gcdT (table M w 2) 0 = 0
      · have g3 := z23 g2
        simp [rngDn, List.range, List.range.loop, forL, l_rank_by_minors_1, ent, entD, runF, runD, runO, oSeq, sRetO, sSeq, sNil, sSet, sSetO, sRet, sRetN, sIf, sDrop, sBreak, sCont, sAppend, sExtend, sSetIx, sAug, sPar, sAsg, sRaise, mVar, mVarZ, mC, mBin, mT, mTAnd, mTOr, mTNot, mAnd, mOr, mNot, mIf, aNil, aCons, newTup, mTup, mFz, newLst, mLst, mCall, mIxO, mLenO, oNone, oSome, mSl, mBinL, mIsi, mFn, mFnK, mFnD, mFnDO, mUn, mItems, mItC, mYes, asB, R.bind, R.go, R.of, R.noBad, FR.to, FRD.to, tgN, tgsN, tgsC, tgT, gI, gIx, gLen, gAbs, gMax2, gMin2, gMin3, gInt, gTuple, gList, gSl, gSlL, gNeg, isT, gIsN, gNotN, gAddA, gMulA, gZip, List.map_cons, List.map_nil, List.length_cons, List.length_nil, List.replicate, List.append_eq, List.cons_append, List.nil_append, List.getElem?_cons_zero, List.getElem?_cons_succ, List.set_cons_zero, List.set_cons_succ, Option.map_some, Option.bind_some, Nat.reduceAdd, Nat.reduceSub, Nat.reduceLT, Nat.reduceLeDiff, Nat.reduceEqDiff, Int.reduceToNat, if_true, if_false, Bool.not_true, Bool.not_false, Bool.false_eq_true, List.length_append, Nat.zero_add, String.reduceEq, or_true, true_or, or_false, false_or, and_true, true_and, Nat.add_zero, Int.reduceLT, Int.reduceLE, decide_true, decide_false, decide_eq_true_eq, Int.reduceAdd, Int.reduceSub, Int.reduceMul, Int.reduceNeg, neI, rk, c1, c2, c3, g1, g2, g3]
      · by_cases g3 : gcdT (table M w 3) 0 = 0
        · simp [rngDn, List.range, List.range.loop, forL, l_rank_by_minors_1, ent, entD, runF, runD, runO, oSeq, sRetO, sSeq, sNil, sSet, sSetO, sRet, sRetN, sIf, sDrop, sBreak, sCont, sAppend, sExtend, sSetIx, sAug, sPar, sAsg, sRaise, mVar, mVarZ, mC, mBin, mT, mTAnd, mTOr, mTNot, mAnd, mOr, mNot, mIf, aNil, aCons, newTup, mTup, mFz, newLst, mLst, mCall, mIxO, mLenO, oNone, oSome, mSl, mBinL, mIsi, mFn, mFnK, mFnD, mFnDO, mUn, mItems, mItC, mYes, asB, R.bind, R.go, R.of, R.noBad, FR.to, FRD.to, tgN, tgsN, tgsC, tgT, gI, gIx, gLen, gAbs, gMax2, gMin2, gMin3, gInt, gTuple, gList, gSl, gSlL, gNeg, isT, gIsN, gNotN, gAddA, gMulA, gZip, List.map_cons, List.map_nil, List.length_cons, List.length_nil, List.replicate, List.append_eq, List.cons_append, List.nil_append, List.getElem?_cons_zero, List.getElem?_cons_succ, List.set_cons_zero, List.set_cons_succ, Option.map_some, Option.bind_some, Nat.reduceAdd, Nat.reduceSub, Nat.reduceLT, Nat.reduceLeDiff, Nat.reduceEqDiff, Int.reduceToNat, if_true, if_false, Bool.not_true, Bool.not_false, Bool.false_eq_true, List.length_append, Nat.zero_add, String.reduceEq, or_true, true_or, or_false, false_or, and_true, true_and, Nat.add_zero, Int.reduceLT, Int.reduceLE, decide_true, decide_false, decide_eq_true_eq, Int.reduceAdd, Int.reduceSub, Int.reduceMul, Int.reduceNeg, neI, rk, c1, c2, c3, g1, g2, g3]
        · simp [rngDn, List.range, List.range.loop, forL, l_rank_by_minors_1, ent, entD, runF, runD, runO, oSeq, sRetO, sSeq, sNil, sSet, sSetO, sRet, sRetN, sIf, sDrop, sBreak, sCont, sAppend, sExtend, sSetIx, sAug, sPar, sAsg, sRaise, mVar, mVarZ, mC, mBin, mT, mTAnd, mTOr, mTNot, mAnd, mOr, mNot, mIf, aNil, aCons, newTup, mTup, mFz, newLst, mLst, mCall, mIxO, mLenO, oNone, oSome, mSl, mBinL, mIsi, mFn, mFnK, mFnD, mFnDO, mUn, mItems, mItC, mYes, asB, R.bind, R.go, R.of, R.noBad, FR.to, FRD.to, tgN, tgsN, tgsC, tgT, gI, gIx, gLen, gAbs, gMax2, gMin2, gMin3, gInt, gTuple, gList, gSl, gSlL, gNeg, isT, gIsN, gNotN, gAddA, gMulA, gZip, List.map_cons, List.map_nil, List.length_cons, List.length_nil, List.replicate, List.append_eq, List.cons_append, List.nil_append, List.getElem?_cons_zero, List.getElem?_cons_succ, List.set_cons_zero, List.set_cons_succ, Option.map_some, Option.bind_some, Nat.reduceAdd, Nat.reduceSub, Nat.reduceLT, Nat.reduceLeDiff, Nat.reduceEqDiff, Int.reduceToNat, if_true, if_false, Bool.not_true, Bool.not_false, Bool.false_eq_true, List.length_append, Nat.zero_add, String.reduceEq, or_true, true_or, or_false, false_or, and_true, true_and, Nat.add_zero, Int.reduceLT, Int.reduceLE, decide_true, decide_false, decide_eq_true_eq, Int.reduceAdd, Int.reduceSub, Int.reduceMul, Int.reduceNeg, neI, rk, c1, c2, c3, g1, g2, g3]
theorem lrank_ok {w m L : Nat} {M : List (List Int)} (h : Gr w m M) (hL : L = min w m) (h1 : 1 ≤ L) (h3 : L ≤ 3) : F__law_rank [lstM M, .int w] = .ok (.int (rk M w L)) := by
  have cm : ∀ k : Nat, k ≤ 3 → F__law_divisor [lstM M, .int w, .int k] = .ok (.int (gcdT (table M w k) 0)) := fun k a => divisor_ok h a
  have c1 : F__law_divisor [lstM M, .int w, .int 1] = .ok (.int (gcdT (table M w 1) 0)) := cm 1 (by omega)
  have c2 : F__law_divisor [lstM M, .int w, .int 2] = .ok (.int (gcdT (table M w 2) 0)) := cm 2 (by omega)
  have c3 : F__law_divisor [lstM M, .int w, .int 3] = .ok (.int (gcdT (table M w 3) 0)) := cm 3 (by omega)
  have hmin : (if w < m then (w : Int) else m) = L := by split <;> omega
  have ht : ∀ z g : Int, z < L → F__law_divisor [lstM M, .int w, .int (z + 1)] = .ok (.int g) → (mTAnd (mT (mBin (gIB fun i j => decide (i < j)) (mVar 2) (mCall gMin2 (aCons (mCall gLen (aCons (mVar 0) aNil)) (aCons (mVar 1) aNil))))) (mT (mBin (gEqB true) (mFn 3 F__law_divisor (aCons (mVar 0) (aCons (mVar 1) (aCons (mBin gAddA (mVar 2) (mC (.int 1))) aNil)))) (mC (.int 0))))) [.va (lstM M), .va (.int w), .va (.int z)] = .ok (!decide (g = 0)) [.va (lstM M), .va (.int w), .va (.int z)] := by
    intro z g hz e
    have hz2 : z < if w < m then (w : Int) else m := by rw [hmin]; exact hz
    simp [ent, entD, runF, runD, runO, oSeq, sRetO, sSeq, sNil, sSet, sSetO, sRet, sRetN, sIf, sDrop, sBreak, sCont, sAppend, sExtend, sSetIx, sAug, sPar, sAsg, sRaise, mVar, mVarZ, mC, mBin, mT, mTAnd, mTOr, mTNot, mAnd, mOr, mNot, mIf, aNil, aCons, newTup, mTup, mFz, newLst, mLst, mCall, mIxO, mLenO, oNone, oSome, mSl, mBinL, mIsi, mFn, mFnK, mFnD, mFnDO, mUn, mItems, mItC, mYes, asB, R.bind, R.go, R.of, R.noBad, FR.to, FRD.to, tgN, tgsN, tgsC, tgT, gI, gIx, gLen, gAbs, gMax2, gMin2, gMin3, gInt, gTuple, gList, gSl, gSlL, gNeg, isT, gIsN, gNotN, gAddA, gMulA, gZip, List.map_cons, List.map_nil, List.length_cons, List.length_nil, List.replicate, List.append_eq, List.cons_append, List.nil_append, List.getElem?_cons_zero, List.getElem?_cons_succ, List.set_cons_zero, List.set_cons_succ, Option.map_some, Option.bind_some, Nat.reduceAdd, Nat.reduceSub, Nat.reduceLT, Nat.reduceLeDiff, Nat.reduceEqDiff, Int.reduceToNat, if_true, if_false, Bool.not_true, Bool.not_false, Bool.false_eq_true, List.length_append, Nat.zero_add, String.reduceEq, or_true, true_or, or_false, false_or, and_true, true_and, Nat.add_zero, Int.reduceLT, Int.reduceLE, decide_true, decide_false, decide_eq_true_eq, Int.reduceAdd, Int.reduceSub, Int.reduceMul, Int.reduceNeg, h.len, hz2, e, neI]
  have ht0 : (mTAnd (mT (mBin (gIB fun i j => decide (i < j)) (mVar 2) (mCall gMin2 (aCons (mCall gLen (aCons (mVar 0) aNil)) (aCons (mVar 1) aNil))))) (mT (mBin (gEqB true) (mFn 3 F__law_divisor (aCons (mVar 0) (aCons (mVar 1) (aCons (mBin gAddA (mVar 2) (mC (.int 1))) aNil)))) (mC (.int 0))))) [.va (lstM M), .va (.int w), .va (.int L)] = .ok false [.va (lstM M), .va (.int w), .va (.int L)] := by
    have hz2 : ¬ ((L : Int) < if w < m then (w : Int) else m) := by rw [hmin]; omega
    simp [ent, entD, runF, runD, runO, oSeq, sRetO, sSeq, sNil, sSet, sSetO, sRet, sRetN, sIf, sDrop, sBreak, sCont, sAppend, sExtend, sSetIx, sAug, sPar, sAsg, sRaise, mVar, mVarZ, mC, mBin, mT, mTAnd, mTOr, mTNot, mAnd, mOr, mNot, mIf, aNil, aCons, newTup, mTup, mFz, newLst, mLst, mCall, mIxO, mLenO, oNone, oSome, mSl, mBinL, mIsi, mFn, mFnK, mFnD, mFnDO, mUn, mItems, mItC, mYes, asB, R.bind, R.go, R.of, R.noBad, FR.to, FRD.to, tgN, tgsN, tgsC, tgT, gI, gIx, gLen, gAbs, gMax2, gMin2, gMin3, gInt, gTuple, gList, gSl, gSlL, gNeg, isT, gIsN, gNotN, gAddA, gMulA, gZip, List.map_cons, List.map_nil, List.length_cons, List.length_nil, List.replicate, List.append_eq, List.cons_append, List.nil_append, List.getElem?_cons_zero, List.getElem?_cons_succ, List.set_cons_zero, List.set_cons_succ, Option.map_some, Option.bind_some, Nat.reduceAdd, Nat.reduceSub, Nat.reduceLT, Nat.reduceLeDiff, Nat.reduceEqDiff, Int.reduceToNat, if_true, if_false, Bool.not_true, Bool.not_false, Bool.false_eq_true, List.length_append, Nat.zero_add, String.reduceEq, or_true, true_or, or_false, false_or, and_true, true_and, Nat.add_zero, Int.reduceLT, Int.reduceLE, decide_true, decide_false, decide_eq_true_eq, Int.reduceAdd, Int.reduceSub, Int.reduceMul, Int.reduceNeg, h.len, hz2, neI]
  have hs : ∀ z : Int, l__law_rank_1 [.va (lstM M), .va (.int w), .va (.int z)] = .nx [.va (lstM M), .va (.int w), .va (.int (z + 1))] := by
    intro z
    simp [l__law_rank_1, ent, entD, runF, runD, runO, oSeq, sRetO, sSeq, sNil, sSet, sSetO, sRet, sRetN, sIf, sDrop, sBreak, sCont, sAppend, sExtend, sSetIx, sAug, sPar, sAsg, sRaise, mVar, mVarZ, mC, mBin, mT, mTAnd, mTOr, mTNot, mAnd, mOr, mNot, mIf, aNil, aCons, newTup, mTup, mFz, newLst, mLst, mCall, mIxO, mLenO, oNone, oSome, mSl, mBinL, mIsi, mFn, mFnK, mFnD, mFnDO, mUn, mItems, mItC, mYes, asB, R.bind, R.go, R.of, R.noBad, FR.to, FRD.to, tgN, tgsN, tgsC, tgT, gI, gIx, gLen, gAbs, gMax2, gMin2, gMin3, gInt, gTuple, gList, gSl, gSlL, gNeg, isT, gIsN, gNotN, gAddA, gMulA, gZip, List.map_cons, List.map_nil, List.length_cons, List.length_nil, List.replicate, List.append_eq, List.cons_append, List.nil_append, List.getElem?_cons_zero, List.getElem?_cons_succ, List.set_cons_zero, List.set_cons_succ, Option.map_some, Option.bind_some, Nat.reduceAdd, Nat.reduceSub, Nat.reduceLT, Nat.reduceLeDiff, Nat.reduceEqDiff, Int.reduceToNat, if_true, if_false, Bool.not_true, Bool.not_false, Bool.false_eq_true, List.length_append, Nat.zero_add, String.reduceEq, or_true, true_or, or_false, false_or, and_true, true_and, Nat.add_zero, Int.reduceLT, Int.reduceLE, decide_true, decide_false, decide_eq_true_eq, Int.reduceAdd, Int.reduceSub, Int.reduceMul, Int.reduceNeg]
  have hw : ∃ n, whileL (mTAnd (mT (mBin (gIB fun i j => decide (i < j)) (mVar 2) (mCall gMin2 (aCons (mCall gLen (aCons (mVar 0) aNil)) (aCons (mVar 1) aNil))))) (mT (mBin (gEqB true) (mFn 3 F__law_divisor (aCons (mVar 0) (aCons (mVar 1) (aCons (mBin gAddA (mVar 2) (mC (.int 1))) aNil)))) (mC (.int 0))))) l__law_rank_1 n [.va (lstM M), .va (.int w), .va (.int 0)] = .nx [.va (lstM M), .va (.int w), .va (.int (rk M w L))] := by
    generalize (mTAnd (mT (mBin (gIB fun i j => decide (i < j)) (mVar 2) (mCall gMin2 (aCons (mCall gLen (aCons (mVar 0) aNil)) (aCons (mVar 1) aNil))))) (mT (mBin (gEqB true) (mFn 3 F__law_divisor (aCons (mVar 0) (aCons (mVar 1) (aCons (mBin gAddA (mVar 2) (mC (.int 1))) aNil)))) (mC (.int 0))))) = T at ht ht0
    refine ⟨4, ?_⟩
    have : L = 1 ∨ L = 2 ∨ L = 3 := by omega
    rcases this with rfl | rfl | rfl
    · have t0 := ht 0 _ (by decide) c1
      have t1 : T [.va (lstM M), .va (.int w), .va (.int 1)] = .ok false [.va (lstM M), .va (.int w), .va (.int 1)] := ht0
      by_cases g1 : gcdT (table M w 1) 0 = 0
      · simp [whileL, t0, g1, rk]
      · simp [whileL, t0, t1, hs, g1, rk]
    · have t0 := ht 0 _ (by decide) c1
      have t1 := ht 1 _ (by decide) c2
      have t2 : T [.va (lstM M), .va (.int w), .va (.int 2)] = .ok false [.va (lstM M), .va (.int w), .va (.int 2)] := ht0
      by_cases g1 : gcdT (table M w 1) 0 = 0
      · simp [whileL, t0, g1, rk]
      · by_cases g2 : gcdT (table M w 2) 0 = 0
        · simp [whileL, t0, t1, hs, g1, g2, rk]
        · simp [whileL, t0, t1, t2, hs, g1, g2, rk]
    · have t0 := ht 0 _ (by decide) c1
      have t1 := ht 1 _ (by decide) c2
      have t2 := ht 2 _ (by decide) c3
      have t3 : T [.va (lstM M), .va (.int w), .va (.int 3)] = .ok false [.va (lstM M), .va (.int w), .va (.int 3)] := ht0
      by_cases g1 : gcdT (table M w 1) 0 = 0
      · simp [whileL, t0, g1, rk]
      · by_cases g2 : gcdT (table M w 2) 0 = 0
        · simp [whileL, t0, t1, hs, g1, g2, rk]
        · by_cases g3 : gcdT (table M w 3) 0 = 0
          · simp [whileL, t0, t1, t2, hs, g1, g2, g3, rk]
          · simp [whileL, t0, t1, t2, t3, hs, g1, g2, g3, rk]
  obtain ⟨n, hn⟩ := hw
  have hn := sWhile_eq n hn rfl
  unfold F__law_rank m__law_rank runF
  rw [show ent 3 [lstM M, .int w] = [.va (lstM M), .va (.int w), .un] from rfl]
  rw [seq_nx (e := [.va (lstM M), .va (.int w), .va (.int 0)]) (by simp [ent, entD, runF, runD, runO, oSeq, sRetO, sSeq, sNil, sSet, sSetO, sRet, sRetN, sIf, sDrop, sBreak, sCont, sAppend, sExtend, sSetIx, sAug, sPar, sAsg, sRaise, mVar, mVarZ, mC, mBin, mT, mTAnd, mTOr, mTNot, mAnd, mOr, mNot, mIf, aNil, aCons, newTup, mTup, mFz, newLst, mLst, mCall, mIxO, mLenO, oNone, oSome, mSl, mBinL, mIsi, mFn, mFnK, mFnD, mFnDO, mUn, mItems, mItC, mYes, asB, R.bind, R.go, R.of, R.noBad, FR.to, FRD.to, tgN, tgsN, tgsC, tgT, gI, gIx, gLen, gAbs, gMax2, gMin2, gMin3, gInt, gTuple, gList, gSl, gSlL, gNeg, isT, gIsN, gNotN, gAddA, gMulA, gZip, List.map_cons, List.map_nil, List.length_cons, List.length_nil, List.replicate, List.append_eq, List.cons_append, List.nil_append, List.getElem?_cons_zero, List.getElem?_cons_succ, List.set_cons_zero, List.set_cons_succ, Option.map_some, Option.bind_some, Nat.reduceAdd, Nat.reduceSub, Nat.reduceLT, Nat.reduceLeDiff, Nat.reduceEqDiff, Int.reduceToNat, if_true, if_false, Bool.not_true, Bool.not_false, Bool.false_eq_true, List.length_append, Nat.zero_add, String.reduceEq, or_true, true_or, or_false, false_or, and_true, true_and, Nat.add_zero, Int.reduceLT, Int.reduceLE, decide_true, decide_false, decide_eq_true_eq, Int.reduceAdd, Int.reduceSub, Int.reduceMul, Int.reduceNeg])]
  rw [seq_nx hn]
  simp [ent, entD, runF, runD, runO, oSeq, sRetO, sSeq, sNil, sSet, sSetO, sRet, sRetN, sIf, sDrop, sBreak, sCont, sAppend, sExtend, sSetIx, sAug, sPar, sAsg, sRaise, mVar, mVarZ, mC, mBin, mT, mTAnd, mTOr, mTNot, mAnd, mOr, mNot, mIf, aNil, aCons, newTup, mTup, mFz, newLst, mLst, mCall, mIxO, mLenO, oNone, oSome, mSl, mBinL, mIsi, mFn, mFnK, mFnD, mFnDO, mUn, mItems, mItC, mYes, asB, R.bind, R.go, R.of, R.noBad, FR.to, FRD.to, tgN, tgsN, tgsC, tgT, gI, gIx, gLen, gAbs, gMax2, gMin2, gMin3, gInt, gTuple, gList, gSl, gSlL, gNeg, isT, gIsN, gNotN, gAddA, gMulA, gZip, List.map_cons, List.map_nil, List.length_cons, List.length_nil, List.replicate, List.append_eq, List.cons_append, List.nil_append, List.getElem?_cons_zero, List.getElem?_cons_succ, List.set_cons_zero, List.set_cons_succ, Option.map_some, Option.bind_some, Nat.reduceAdd, Nat.reduceSub, Nat.reduceLT, Nat.reduceLeDiff, Nat.reduceEqDiff, Int.reduceToNat, if_true, if_false, Bool.not_true, Bool.not_false, Bool.false_eq_true, List.length_append, Nat.zero_add, String.reduceEq, or_true, true_or, or_false, false_or, and_true, true_and, Nat.add_zero, Int.reduceLT, Int.reduceLE, decide_true, decide_false, decide_eq_true_eq, Int.reduceAdd, Int.reduceSub, Int.reduceMul, Int.reduceNeg]
end Y

set_option Elab.async false
set_option linter.all false
set_option maxRecDepth 100000
set_option maxHeartbeats 4000000
namespace Y
open PySem PySem.Spec PyProof.Rows L2
/-- the sum of products -/
def dot (r s : List Int) : Int := ((r.zip s).map fun q => q.1 * q.2).sum
def col (B : List (List Int)) (j : Nat) : List Int := B.map fun s => (s[j]?).getD 0
def mulM (A B : List (List Int)) (w : Nat) : List (List Int) := A.map fun r => (List.range w).map fun j => dot r (col B j)
theorem dot_ok {r s : List Int} (hr : ∀ x ∈ r, Bd 200 x) (hs : ∀ x ∈ s, Bd 200 x) (hl : r.length ≤ 1000) : F__law_dot [tupI r, tupI s] = .ok (.int (dot r s)) := by
  have e : c__law_dot_1 [.va (tupI r), .va (tupI s), .un, .un] = .ok (zs ((r.zip s).map fun q => q.1 * q.2)) [.va (tupI r), .va (tupI s), .un, .un] := by
    unfold c__law_dot_1
    rw [mLc_zip (xs := zs r) (ys := zs s) (f := fun a b => match a, b with | .int i, .int j => .int (i * j) | _, _ => .non) (by decide)]
    · rw [zs_zip, List.map_map, zs, List.map_map]
      rfl
    · simp [ent, entD, runF, runD, runO, oSeq, sRetO, sSeq, sNil, sSet, sSetO, sRet, sRetN, sIf, sDrop, sBreak, sCont, sAppend, sExtend, sSetIx, sAug, sPar, sAsg, sRaise, mVar, mVarZ, mC, mBin, mT, mTAnd, mTOr, mTNot, mAnd, mOr, mNot, mIf, aNil, aCons, newTup, mTup, mFz, newLst, mLst, mCall, mIxO, mLenO, oNone, oSome, mSl, mBinL, mIsi, mFn, mFnK, mFnD, mFnDO, mUn, mItems, mItC, mYes, asB, R.bind, R.go, R.of, R.noBad, FR.to, FRD.to, tgN, tgsN, tgsC, tgT, gI, gIx, gLen, gAbs, gMax2, gMin2, gMin3, gInt, gTuple, gList, gSl, gSlL, gNeg, isT, gIsN, gNotN, gAddA, gMulA, gZip, List.map_cons, List.map_nil, List.length_cons, List.length_nil, List.replicate, List.append_eq, List.cons_append, List.nil_append, List.getElem?_cons_zero, List.getElem?_cons_succ, List.set_cons_zero, List.set_cons_succ, Option.map_some, Option.bind_some, Nat.reduceAdd, Nat.reduceSub, Nat.reduceLT, Nat.reduceLeDiff, Nat.reduceEqDiff, Int.reduceToNat, if_true, if_false, Bool.not_true, Bool.not_false, Bool.false_eq_true, List.length_append, Nat.zero_add, String.reduceEq, or_true, true_or, or_false, false_or, and_true, true_and, Nat.add_zero, Int.reduceLT, Int.reduceLE, decide_true, decide_false, decide_eq_true_eq, Int.reduceAdd, Int.reduceSub, Int.reduceMul, Int.reduceNeg]
    · simp [big_eq]; omega
    · intro q hq
      rw [zs_zip] at hq
      obtain ⟨p, hp, rfl⟩ := List.mem_map.1 hq
      have := (hr _ (List.of_mem_zip hp).1).ok (hs _ (List.of_mem_zip hp).2) (by decide) (by decide)
      simp [ent, entD, runF, runD, runO, oSeq, sRetO, sSeq, sNil, sSet, sSetO, sRet, sRetN, sIf, sDrop, sBreak, sCont, sAppend, sExtend, sSetIx, sAug, sPar, sAsg, sRaise, mVar, mVarZ, mC, mBin, mT, mTAnd, mTOr, mTNot, mAnd, mOr, mNot, mIf, aNil, aCons, newTup, mTup, mFz, newLst, mLst, mCall, mIxO, mLenO, oNone, oSome, mSl, mBinL, mIsi, mFn, mFnK, mFnD, mFnDO, mUn, mItems, mItC, mYes, asB, R.bind, R.go, R.of, R.noBad, FR.to, FRD.to, tgN, tgsN, tgsC, tgT, gI, gIx, gLen, gAbs, gMax2, gMin2, gMin3, gInt, gTuple, gList, gSl, gSlL, gNeg, isT, gIsN, gNotN, gAddA, gMulA, gZip, List.map_cons, List.map_nil, List.length_cons, List.length_nil, List.replicate, List.append_eq, List.cons_append, List.nil_append, List.getElem?_cons_zero, List.getElem?_cons_succ, List.set_cons_zero, List.set_cons_succ, Option.map_some, Option.bind_some, Nat.reduceAdd, Nat.reduceSub, Nat.reduceLT, Nat.reduceLeDiff, Nat.reduceEqDiff, Int.reduceToNat, if_true, if_false, Bool.not_true, Bool.not_false, Bool.false_eq_true, List.length_append, Nat.zero_add, String.reduceEq, or_true, true_or, or_false, false_or, and_true, true_and, Nat.add_zero, Int.reduceLT, Int.reduceLE, decide_true, decide_false, decide_eq_true_eq, Int.reduceAdd, Int.reduceSub, Int.reduceMul, Int.reduceNeg, this]
  unfold F__law_dot m__law_dot runF
  rw [show ent 4 [tupI r, tupI s] = [.va (tupI r), .va (tupI s), .un, .un] from rfl]
  simp only [sRet, mCall, aCons, aNil, mFz, e, R.bind, gSumA, zs, ints_map, Option.map_some, R.of, R.go]
  rfl
theorem zs_ix {s : List Int} {j : Nat} (h : j < s.length) : atI (zs s) (j : Int) = some (.int ((s[j]?).getD 0)) := zs_get (by rw [List.getElem?_eq_getElem h]; rfl)
theorem col_bd {b : Nat} {B : List (List Int)} {w j : Nat} (hB : ∀ r ∈ B, r.length = w) (hb : ∀ r ∈ B, ∀ x ∈ r, Bd b x) (hj : j < w) : ∀ x ∈ col B j, Bd b x := by
  intro x hx
  obtain ⟨s, hs, rfl⟩ := List.mem_map.1 hx
  have : j < s.length := by rw [hB s hs]; exact hj
  rw [List.getElem?_eq_getElem this]
  exact hb s hs _ (List.getElem_mem this)
theorem product_ok {A B : List (List Int)} {w : Nat} (hA : ∀ r ∈ A, ∀ x ∈ r, Bd 200 x) (lA : ∀ r ∈ A, r.length ≤ 1000) (hB : ∀ r ∈ B, r.length = w) (hb : ∀ r ∈ B, ∀ x ∈ r, Bd 200 x) (nA : A.length ≤ 1000) (nB : B.length ≤ 1000) (hw : w ≤ 1000) :
    F__law_product [tupM A, tupM B, .int w] = .ok (tupM (mulM A B w)) := by
  have c2 : ∀ j : Nat, j < w → ∀ E : Env, E = [.va (tupM A), .va (tupM B), .va (.int w), .un, .va (.int j), .un, .un] → c__law_product_2 E = .ok (zs (col B j)) E := by
    rintro j hj E rfl
    unfold c__law_product_2
    rw [mLc_map (ds := B.map tupI) (f := fun d => match d with | .tup l => (match intsO l with | some s => .int ((s[j]?).getD 0) | none => .non) | d => d)]
    · rw [List.map_map, col, zs, List.map_map]
      congr 1
      apply List.map_congr_left
      intro s hs
      simp [zs, ints_map]
    · simp [ent, entD, runF, runD, runO, oSeq, sRetO, sSeq, sNil, sSet, sSetO, sRet, sRetN, sIf, sDrop, sBreak, sCont, sAppend, sExtend, sSetIx, sAug, sPar, sAsg, sRaise, mVar, mVarZ, mC, mBin, mT, mTAnd, mTOr, mTNot, mAnd, mOr, mNot, mIf, aNil, aCons, newTup, mTup, mFz, newLst, mLst, mCall, mIxO, mLenO, oNone, oSome, mSl, mBinL, mIsi, mFn, mFnK, mFnD, mFnDO, mUn, mItems, mItC, mYes, asB, R.bind, R.go, R.of, R.noBad, FR.to, FRD.to, tgN, tgsN, tgsC, tgT, gI, gIx, gLen, gAbs, gMax2, gMin2, gMin3, gInt, gTuple, gList, gSl, gSlL, gNeg, isT, gIsN, gNotN, gAddA, gMulA, gZip, List.map_cons, List.map_nil, List.length_cons, List.length_nil, List.replicate, List.append_eq, List.cons_append, List.nil_append, List.getElem?_cons_zero, List.getElem?_cons_succ, List.set_cons_zero, List.set_cons_succ, Option.map_some, Option.bind_some, Nat.reduceAdd, Nat.reduceSub, Nat.reduceLT, Nat.reduceLeDiff, Nat.reduceEqDiff, Int.reduceToNat, if_true, if_false, Bool.not_true, Bool.not_false, Bool.false_eq_true, List.length_append, Nat.zero_add, String.reduceEq, or_true, true_or, or_false, false_or, and_true, true_and, Nat.add_zero, Int.reduceLT, Int.reduceLE, decide_true, decide_false, decide_eq_true_eq, Int.reduceAdd, Int.reduceSub, Int.reduceMul, Int.reduceNeg]
    · simp [big_eq]; omega
    · intro d hd
      obtain ⟨s, hs, rfl⟩ := List.mem_map.1 hd
      have := zs_ix (s := s) (j := j) (by rw [hB s hs]; exact hj)
      simp only [mBin, mVar, List.set_cons_succ, List.set_cons_zero, List.getElem?_cons_succ, List.getElem?_cons_zero, R.bind, gIx, this, R.of, ints_map]
  have c1 : c__law_product_1 [.va (tupM A), .va (tupM B), .va (.int w), .un, .un, .un, .un] = .ok ((List.range w).map fun j => tupI (col B j)) [.va (tupM A), .va (tupM B), .va (.int w), .un, .un, .un, .un] := by
    unfold c__law_product_1
    rw [mLc_map (ds := rngD 0 w) (f := fun d => match d with | .int i => tupI (col B i.toNat) | d => d)]
    · unfold rngD
      rw [List.map_map]
      congr 1
      apply List.map_congr_left
      intro j _
      simp
    · exact mItC_ok (by simp [ent, entD, runF, runD, runO, oSeq, sRetO, sSeq, sNil, sSet, sSetO, sRet, sRetN, sIf, sDrop, sBreak, sCont, sAppend, sExtend, sSetIx, sAug, sPar, sAsg, sRaise, mVar, mVarZ, mC, mBin, mT, mTAnd, mTOr, mTNot, mAnd, mOr, mNot, mIf, aNil, aCons, newTup, mTup, mFz, newLst, mLst, mCall, mIxO, mLenO, oNone, oSome, mSl, mBinL, mIsi, mFn, mFnK, mFnD, mFnDO, mUn, mItems, mItC, mYes, asB, R.bind, R.go, R.of, R.noBad, FR.to, FRD.to, tgN, tgsN, tgsC, tgT, gI, gIx, gLen, gAbs, gMax2, gMin2, gMin3, gInt, gTuple, gList, gSl, gSlL, gNeg, isT, gIsN, gNotN, gAddA, gMulA, gZip, List.map_cons, List.map_nil, List.length_cons, List.length_nil, List.replicate, List.append_eq, List.cons_append, List.nil_append, List.getElem?_cons_zero, List.getElem?_cons_succ, List.set_cons_zero, List.set_cons_succ, Option.map_some, Option.bind_some, Nat.reduceAdd, Nat.reduceSub, Nat.reduceLT, Nat.reduceLeDiff, Nat.reduceEqDiff, Int.reduceToNat, if_true, if_false, Bool.not_true, Bool.not_false, Bool.false_eq_true, List.length_append, Nat.zero_add, String.reduceEq, or_true, true_or, or_false, false_or, and_true, true_and, Nat.add_zero, Int.reduceLT, Int.reduceLE, decide_true, decide_false, decide_eq_true_eq, Int.reduceAdd, Int.reduceSub, Int.reduceMul, Int.reduceNeg]) (rng1 (n := w) (by omega))
    · rw [rng_len, big_eq]; omega
    · intro d hd
      obtain ⟨j, hj, rfl⟩ := List.mem_map.1 hd
      have := c2 j (List.mem_range.1 hj) _ rfl
      simp only [Int.zero_add, List.set_cons_succ, List.set_cons_zero, mCall, aCons, aNil, mFz, this, R.bind, gTuple, R.of, Int.toNat_natCast]
  have c4 : ∀ r ∈ A, ∀ E : Env, E = [.va (tupM A), .va (tupM B), .va (.int w), .va (.lst ((List.range w).map fun j => tupI (col B j))), .un, .va (tupI r), .un] → c__law_product_4 E = .ok (zs ((List.range w).map fun j => dot r (col B j))) E := by
    rintro r hr E rfl
    unfold c__law_product_4
    rw [mLc_map (ds := (List.range w).map fun j => tupI (col B j)) (f := fun d => match d with | .tup l => (match intsO l with | some s => .int (dot r s) | none => .non) | d => d)]
    · rw [List.map_map, zs, List.map_map]
      congr 1
      apply List.map_congr_left
      intro s hs
      simp [zs, ints_map]
    · simp [ent, entD, runF, runD, runO, oSeq, sRetO, sSeq, sNil, sSet, sSetO, sRet, sRetN, sIf, sDrop, sBreak, sCont, sAppend, sExtend, sSetIx, sAug, sPar, sAsg, sRaise, mVar, mVarZ, mC, mBin, mT, mTAnd, mTOr, mTNot, mAnd, mOr, mNot, mIf, aNil, aCons, newTup, mTup, mFz, newLst, mLst, mCall, mIxO, mLenO, oNone, oSome, mSl, mBinL, mIsi, mFn, mFnK, mFnD, mFnDO, mUn, mItems, mItC, mYes, asB, R.bind, R.go, R.of, R.noBad, FR.to, FRD.to, tgN, tgsN, tgsC, tgT, gI, gIx, gLen, gAbs, gMax2, gMin2, gMin3, gInt, gTuple, gList, gSl, gSlL, gNeg, isT, gIsN, gNotN, gAddA, gMulA, gZip, List.map_cons, List.map_nil, List.length_cons, List.length_nil, List.replicate, List.append_eq, List.cons_append, List.nil_append, List.getElem?_cons_zero, List.getElem?_cons_succ, List.set_cons_zero, List.set_cons_succ, Option.map_some, Option.bind_some, Nat.reduceAdd, Nat.reduceSub, Nat.reduceLT, Nat.reduceLeDiff, Nat.reduceEqDiff, Int.reduceToNat, if_true, if_false, Bool.not_true, Bool.not_false, Bool.false_eq_true, List.length_append, Nat.zero_add, String.reduceEq, or_true, true_or, or_false, false_or, and_true, true_and, Nat.add_zero, Int.reduceLT, Int.reduceLE, decide_true, decide_false, decide_eq_true_eq, Int.reduceAdd, Int.reduceSub, Int.reduceMul, Int.reduceNeg, -List.map_map]
    · simp [big_eq]; omega
    · intro d hd
      obtain ⟨j, hj, rfl⟩ := List.mem_map.1 hd
      have := dot_ok (hA r hr) (col_bd hB hb (List.mem_range.1 hj)) (lA r hr)
      simp only [mFn, aCons, aNil, mVar, List.set_cons_succ, List.set_cons_zero, List.getElem?_cons_succ, List.getElem?_cons_zero, R.bind, this, FR.to, ints_map, List.length_cons, List.length_nil, Nat.zero_add, Nat.reduceAdd, if_true]
  have c3 : c__law_product_3 [.va (tupM A), .va (tupM B), .va (.int w), .va (.lst ((List.range w).map fun j => tupI (col B j))), .un, .un, .un] = .ok ((mulM A B w).map tupI) [.va (tupM A), .va (tupM B), .va (.int w), .va (.lst ((List.range w).map fun j => tupI (col B j))), .un, .un, .un] := by
    unfold c__law_product_3
    rw [mLc_map (ds := A.map tupI) (f := fun d => match d with | .tup l => (match intsO l with | some r => tupI ((List.range w).map fun j => dot r (col B j)) | none => .non) | d => d)]
    · rw [List.map_map, mulM, List.map_map]
      congr 1
      apply List.map_congr_left
      intro s hs
      simp [zs, ints_map]
    · simp [ent, entD, runF, runD, runO, oSeq, sRetO, sSeq, sNil, sSet, sSetO, sRet, sRetN, sIf, sDrop, sBreak, sCont, sAppend, sExtend, sSetIx, sAug, sPar, sAsg, sRaise, mVar, mVarZ, mC, mBin, mT, mTAnd, mTOr, mTNot, mAnd, mOr, mNot, mIf, aNil, aCons, newTup, mTup, mFz, newLst, mLst, mCall, mIxO, mLenO, oNone, oSome, mSl, mBinL, mIsi, mFn, mFnK, mFnD, mFnDO, mUn, mItems, mItC, mYes, asB, R.bind, R.go, R.of, R.noBad, FR.to, FRD.to, tgN, tgsN, tgsC, tgT, gI, gIx, gLen, gAbs, gMax2, gMin2, gMin3, gInt, gTuple, gList, gSl, gSlL, gNeg, isT, gIsN, gNotN, gAddA, gMulA, gZip, List.map_cons, List.map_nil, List.length_cons, List.length_nil, List.replicate, List.append_eq, List.cons_append, List.nil_append, List.getElem?_cons_zero, List.getElem?_cons_succ, List.set_cons_zero, List.set_cons_succ, Option.map_some, Option.bind_some, Nat.reduceAdd, Nat.reduceSub, Nat.reduceLT, Nat.reduceLeDiff, Nat.reduceEqDiff, Int.reduceToNat, if_true, if_false, Bool.not_true, Bool.not_false, Bool.false_eq_true, List.length_append, Nat.zero_add, String.reduceEq, or_true, true_or, or_false, false_or, and_true, true_and, Nat.add_zero, Int.reduceLT, Int.reduceLE, decide_true, decide_false, decide_eq_true_eq, Int.reduceAdd, Int.reduceSub, Int.reduceMul, Int.reduceNeg]
    · simp [big_eq]; omega
    · intro d hd
      obtain ⟨r, hr, rfl⟩ := List.mem_map.1 hd
      have := c4 r hr _ rfl
      simp only [List.set_cons_succ, List.set_cons_zero, mCall, aCons, aNil, mFz, this, R.bind, gTuple, R.of, ints_map]
  unfold F__law_product m__law_product runF
  rw [show ent 7 [tupM A, tupM B, .int w] = [.va (tupM A), .va (tupM B), .va (.int w), .un, .un, .un, .un] from rfl]
  rw [seq_nx (e := [.va (tupM A), .va (tupM B), .va (.int w), .va (.lst ((List.range w).map fun j => tupI (col B j))), .un, .un, .un]) (by simp only [sSet, mFz, c1, R.bind, R.go, List.set_cons_succ, List.set_cons_zero])]
  simp only [sRet, mCall, aCons, aNil, mFz, c3, R.bind, gTuple, R.of, R.go]
/-! products of tables -/
theorem dot_range {w : Nat} {r s : List Int} (hr : r.length = w) (hs : s.length = w) : dot r s = ((List.range w).map fun t => (r[t]?).getD 0 * (s[t]?).getD 0).sum := by
  unfold dot
  congr 1
  apply List.ext_getElem
  · simp [hr, hs]
  · intro i h1 h2
    simp at h1 h2
    have a : i < r.length := by omega
    have b : i < s.length := by omega
    simp [a, b]
theorem range_map {α β : Type} (l : List α) (F : Option α → β) : (List.range l.length).map (fun j => F l[j]?) = l.map fun x => F (some x) := by
  apply List.ext_getElem
  · simp
  · intro i h1 h2
    simp at h1
    simp [h1]
theorem gt_mul {A B : List (List Int)} {w p u v : Nat} (hA : ∀ r ∈ A, r.length = w) (hB : B.length = w) (hu : u < A.length) (hv : v < p) : gt (mulM A B p) u v = ((List.range w).map fun t => gt A u t * gt B t v).sum := by
  have hr := hA _ (List.getElem_mem hu)
  have e : gt (mulM A B p) u v = dot A[u] (col B v) := by
    unfold gt mulM
    simp [hu, hv]
  rw [e, dot_range hr (by simp [col, hB])]
  congr 1
  apply List.map_congr_left
  intro t ht
  have ht := List.mem_range.1 ht
  have ht2 : t < B.length := by omega
  unfold gt col
  simp [hu, ht2]
end Y

set_option Elab.async false
set_option linter.all false
set_option maxRecDepth 100000
set_option maxHeartbeats 4000000
namespace Y
open PySem PySem.Spec PyProof.Rows L2
theorem rg1 : List.range 1 = [0] := rfl
theorem rg2 : List.range 2 = [0, 1] := rfl
theorem rg3 : List.range 3 = [0, 1, 2] := rfl
theorem rg4 : List.range 4 = [0, 1, 2, 3] := rfl
theorem cb11 : comb 1 1 = [[0]] := by decide
theorem cb21 : comb 2 1 = [[0], [1]] := by decide
theorem cb31 : comb 3 1 = [[0], [1], [2]] := by decide
theorem cb41 : comb 4 1 = [[0], [1], [2], [3]] := by decide
theorem cb22 : comb 2 2 = [[0, 1]] := by decide
theorem cb32 : comb 3 2 = [[0, 1], [0, 2], [1, 2]] := by decide
theorem cb42 : comb 4 2 = [[0, 1], [0, 2], [0, 3], [1, 2], [1, 3], [2, 3]] := by decide
theorem cb33 : comb 3 3 = [[0, 1, 2]] := by decide
theorem cb43 : comb 4 3 = [[0, 1, 2], [0, 1, 3], [0, 2, 3], [1, 2, 3]] := by decide
theorem cauchy {A B : List (List Int)} {w p m k : Nat} (hA : ∀ r ∈ A, r.length = w) (hB : B.length = w) (h1 : 1 ≤ k) (hk : k ≤ 3) (hkw : k ≤ w) (hw : w ≤ 4) {U V : List Int} (hm : A.length = m) (hU : Cho m k U) (hV : Cho p k V) :
    det (subm (mulM A B p) U V) = dot ((comb w k).map fun T => det (subm A U T)) ((comb w k).map fun T => det (subm B T V)) := by
  have g : ∀ u ∈ U, ∀ v ∈ V, gt (mulM A B p) u.toNat v.toNat = ((List.range w).map fun t => gt A u.toNat t * gt B t v.toNat).sum := fun u hu v hv => by
    have a := hU.lt u hu
    have b := hV.lt v hv
    exact gt_mul hA hB (by omega) (by omega)
  have kk : k = 1 ∨ k = 2 ∨ k = 3 := by omega
  have ww : w = 1 ∨ w = 2 ∨ w = 3 ∨ w = 4 := by omega
  clear hA hB
  rcases kk with rfl | rfl | rfl
  · obtain ⟨u, rfl⟩ := len1 hU.len
    obtain ⟨v, rfl⟩ := len1 hV.len
    have g1 := g u (by simp) v (by simp)
    simp only [subm, List.map_cons, List.map_nil, det, g1]
    rcases ww with rfl | rfl | rfl | rfl <;> simp [cb11, cb21, cb31, cb41, rg1, rg2, rg3, rg4, dot, det]
  · obtain ⟨u0, u1, rfl⟩ := len2 hU.len
    obtain ⟨v0, v1, rfl⟩ := len2 hV.len
    have g00 := g u0 (by simp) v0 (by simp)
    have g01 := g u0 (by simp) v1 (by simp)
    have g10 := g u1 (by simp) v0 (by simp)
    have g11 := g u1 (by simp) v1 (by simp)
    clear g hU hV
    simp only [subm, List.map_cons, List.map_nil, det, g00, g01, g10, g11]
    clear g00 g01 g10 g11
    rcases ww with rfl | rfl | rfl | rfl
    · omega
    · simp [cb22, rg2, dot, det]
      grind
    · simp [cb32, rg3, dot, det]
      grind
    · simp [cb42, rg4, dot, det]
      grind
  · obtain ⟨u0, u1, u2, rfl⟩ := len3 hU.len
    obtain ⟨v0, v1, v2, rfl⟩ := len3 hV.len
    have g00 := g u0 (by simp) v0 (by simp)
    have g01 := g u0 (by simp) v1 (by simp)
    have g02 := g u0 (by simp) v2 (by simp)
    have g10 := g u1 (by simp) v0 (by simp)
    have g11 := g u1 (by simp) v1 (by simp)
    have g12 := g u1 (by simp) v2 (by simp)
    have g20 := g u2 (by simp) v0 (by simp)
    have g21 := g u2 (by simp) v1 (by simp)
    have g22 := g u2 (by simp) v2 (by simp)
    clear g hU hV
    simp only [subm, List.map_cons, List.map_nil, det, g00, g01, g02, g10, g11, g12, g20, g21, g22]
    clear g00 g01 g02 g10 g11 g12 g20 g21 g22
    rcases ww with rfl | rfl | rfl | rfl
    · omega
    · omega
    · simp [cb33, rg3, dot, det]
      grind
    · simp [cb43, rg4, dot, det]
      grind

theorem table_mul {A B : List (List Int)} {w p m k : Nat} (hA : ∀ r ∈ A, r.length = w) (hB : B.length = w) (h1 : 1 ≤ k) (hk : k ≤ 3) (hkw : k ≤ w) (hw : w ≤ 4) (hm : A.length = m) (hU : ∀ U ∈ comb m k, Cho m k U) (hV : ∀ V ∈ comb p k, Cho p k V) :
    table (mulM A B p) p k = mulM (table A w k) (table B p k) (comb p k).length := by
  have e : (mulM A B p).length = m := by simp [mulM, hm]
  unfold table
  rw [e, hm, hB]
  conv => rhs; unfold mulM
  rw [List.map_map]
  apply List.map_congr_left
  intro U hu
  simp only [Function.comp_apply]
  have q := range_map (comb p k) (fun o : Option (List Int) => dot ((comb w k).map fun V => det (subm A U V)) ((comb w k).map fun T => (o.map fun V => det (subm B T V)).getD 0))
  refine Eq.trans ?_ (Eq.trans q.symm ?_)
  · apply List.map_congr_left
    intro V hv
    exact cauchy hA hB h1 hk hkw hw hm (hU U hu) (hV V hv)
  · simp [col, Function.comp_def]
end Y

set_option Elab.async false
set_option linter.all false
set_option maxRecDepth 100000
set_option maxHeartbeats 4000000
namespace Y
open PySem PySem.Spec PyProof.Rows L2
def oth (n i : Nat) : List Int := ((List.range n).filter fun j => decide (j ≠ i)).map fun j : Nat => (j : Int)
def adj (M : List (List Int)) (n : Nat) : List (List Int) := (List.range n).map fun a => (List.range n).map fun u => det (subm M (oth n u) (oth n a)) * (if (a + u) % 2 = 0 then 1 else -1)
def strM (n : Nat) (d : Int) : List (List Int) := (List.range n).map fun i => (List.range n).map fun j => if i = j then d else 0
theorem o10 : oth 1 0 = [] := by decide
theorem o20 : oth 2 0 = [1] := by decide
theorem o21 : oth 2 1 = [0] := by decide
theorem o30 : oth 3 0 = [1, 2] := by decide
theorem o31 : oth 3 1 = [0, 2] := by decide
theorem o32 : oth 3 2 = [0, 1] := by decide
theorem adj1 (a : Int) : adj [[a]] 1 = [[1]] := by
  simp [adj, rg1, o10, subm, det]
theorem adj2 (a b c d : Int) : adj [[a, b], [c, d]] 2 = [[d, -b], [-c, a]] := by
  simp [adj, rg2, o20, o21, subm, det, gt]
theorem adj3 (a b c d e f g h i : Int) : adj [[a, b, c], [d, e, f], [g, h, i]] 3 = [[e * i - f * h, -(b * i - c * h), b * f - c * e], [-(d * i - f * g), a * i - c * g, -(a * f - c * d)], [d * h - e * g, -(a * h - b * g), a * e - b * d]] := by
  simp [adj, rg3, o30, o31, o32, subm, det, gt]
theorem sq_cases1 {n : Nat} {M : List (List Int)} (h1 : 1 ≤ n) (hn : n ≤ 3) (hl : M.length = n) (hs : ∀ r ∈ M, r.length = n) : (∃ a, M = [[a]] ∧ n = 1) ∨ (∃ a b c d, M = [[a, b], [c, d]] ∧ n = 2) ∨ ∃ a b c d e f g h i, M = [[a, b, c], [d, e, f], [g, h, i]] ∧ n = 3 := by
  rcases sq_cases hn ⟨hl, hs⟩ with ⟨_, h⟩ | h | h | h
  · omega
  · exact .inl h
  · exact .inr (.inl h)
  · exact .inr (.inr h)
theorem mul_adj {n : Nat} {M : List (List Int)} (h1 : 1 ≤ n) (hn : n ≤ 3) (hl : M.length = n) (hs : ∀ r ∈ M, r.length = n) : mulM M (adj M n) n = strM n (det M) ∧ mulM (adj M n) M n = strM n (det M) := by
  rcases sq_cases1 h1 hn hl hs with ⟨a, rfl, rfl⟩ | ⟨a, b, c, d, rfl, rfl⟩ | ⟨a, b, c, d, e, f, g, h, i, rfl, rfl⟩
  · simp [adj1, mulM, strM, rg1, dot, col, det]
  · simp [adj2, mulM, strM, rg2, dot, col, det]
    grind
  · simp [adj3, mulM, strM, rg3, dot, col, det]
    grind

theorem need_sq {n : Nat} {b : Int} {M : List (List Int)} (h : Grid n b M) (hb : b ≤ 1000000) (hn : M.length = n) (x : D) : F_need_square [gridD n M, x] = .ok .non := by
  have := need_ok h hb x
  simp [F_need_square, m_need_square, ent, entD, runF, runD, runO, oSeq, sRetO, sSeq, sNil, sSet, sSetO, sRet, sRetN, sIf, sDrop, sBreak, sCont, sAppend, sExtend, sSetIx, sAug, sPar, sAsg, sRaise, mVar, mVarZ, mC, mBin, mT, mTAnd, mTOr, mTNot, mAnd, mOr, mNot, mIf, aNil, aCons, newTup, mTup, mFz, newLst, mLst, mCall, mIxO, mLenO, oNone, oSome, mSl, mBinL, mIsi, mFn, mFnK, mFnD, mFnDO, mUn, mItems, mItC, mYes, asB, R.bind, R.go, R.of, R.noBad, FR.to, FRD.to, tgN, tgsN, tgsC, tgT, gI, gIx, gLen, gAbs, gMax2, gMin2, gMin3, gInt, gTuple, gList, gSl, gSlL, gNeg, isT, gIsN, gNotN, gAddA, gMulA, gZip, List.map_cons, List.map_nil, List.length_cons, List.length_nil, List.replicate, List.append_eq, List.cons_append, List.nil_append, List.getElem?_cons_zero, List.getElem?_cons_succ, List.set_cons_zero, List.set_cons_succ, Option.map_some, Option.bind_some, Nat.reduceAdd, Nat.reduceSub, Nat.reduceLT, Nat.reduceLeDiff, Nat.reduceEqDiff, Int.reduceToNat, if_true, if_false, Bool.not_true, Bool.not_false, Bool.false_eq_true, List.length_append, Nat.zero_add, String.reduceEq, or_true, true_or, or_false, false_or, and_true, true_and, Nat.add_zero, Int.reduceLT, Int.reduceLE, decide_true, decide_false, decide_eq_true_eq, Int.reduceAdd, Int.reduceSub, Int.reduceMul, Int.reduceNeg, this, ix0, ix1, neI, hn]
theorem oth_cho {n i : Nat} (hn : n ≤ 3) (hi : i < n) : Cho n (n - 1) (oth n i) := by
  have key : ∀ n, n ≤ 3 → ∀ i, i < n → (oth n i).length = n - 1 ∧ ∀ x ∈ oth n i, 0 ≤ x ∧ x < (n : Int) := by decide
  exact ⟨(key n hn i hi).1, (key n hn i hi).2⟩
theorem even_mod {a b : Nat} : (Int.fmod ((a : Int) + (b : Int)) 2 = 0) ↔ (a + b) % 2 = 0 := by
  rw [Int.fmod_eq_emod_of_nonneg _ (by decide)]
  omega
theorem oth_list (n i : Nat) : (rngD 0 n).filter (fun d => match d with | .int j => decide (j ≠ (i : Int)) | _ => true) = zs (oth n i) := by
  unfold rngD oth zs
  rw [List.filter_map, List.map_map]
  simp only [Function.comp_def, Int.zero_add]
  congr 1
  apply List.filter_congr
  intro x _
  by_cases h : x = i
  · simp [h]
  · have : (x : Int) ≠ i := by omega
    simp [h, this]
theorem ups_ok {n u : Nat} {G out x3 x4 x5 x7 : _} (hn : n ≤ 3) : c_cofactors_2 [.va G, .va (.int n), .ow out, x3, x4, x5, .va (.int u), x7] = .ok (zs (oth n u)) [.va G, .va (.int n), .ow out, x3, x4, x5, .va (.int u), x7] := by
  unfold c_cofactors_2
  rw [mLc_if (ds := rngD 0 n) (p := fun d => match d with | .int j => decide (j ≠ (u : Int)) | _ => true) (f := fun d => d)]
  · rw [oth_list, List.map_id']
  · exact mItC_ok (by simp [ent, entD, runF, runD, runO, oSeq, sRetO, sSeq, sNil, sSet, sSetO, sRet, sRetN, sIf, sDrop, sBreak, sCont, sAppend, sExtend, sSetIx, sAug, sPar, sAsg, sRaise, mVar, mVarZ, mC, mBin, mT, mTAnd, mTOr, mTNot, mAnd, mOr, mNot, mIf, aNil, aCons, newTup, mTup, mFz, newLst, mLst, mCall, mIxO, mLenO, oNone, oSome, mSl, mBinL, mIsi, mFn, mFnK, mFnD, mFnDO, mUn, mItems, mItC, mYes, asB, R.bind, R.go, R.of, R.noBad, FR.to, FRD.to, tgN, tgsN, tgsC, tgT, gI, gIx, gLen, gAbs, gMax2, gMin2, gMin3, gInt, gTuple, gList, gSl, gSlL, gNeg, isT, gIsN, gNotN, gAddA, gMulA, gZip, List.map_cons, List.map_nil, List.length_cons, List.length_nil, List.replicate, List.append_eq, List.cons_append, List.nil_append, List.getElem?_cons_zero, List.getElem?_cons_succ, List.set_cons_zero, List.set_cons_succ, Option.map_some, Option.bind_some, Nat.reduceAdd, Nat.reduceSub, Nat.reduceLT, Nat.reduceLeDiff, Nat.reduceEqDiff, Int.reduceToNat, if_true, if_false, Bool.not_true, Bool.not_false, Bool.false_eq_true, List.length_append, Nat.zero_add, String.reduceEq, or_true, true_or, or_false, false_or, and_true, true_and, Nat.add_zero, Int.reduceLT, Int.reduceLE, decide_true, decide_false, decide_eq_true_eq, Int.reduceAdd, Int.reduceSub, Int.reduceMul, Int.reduceNeg]) (rng1 (n := n) (by omega))
  · rw [rng_len, big_eq]; omega
  · intro d hd
    obtain ⟨j, hj, rfl⟩ := List.mem_map.1 hd
    simp [ent, entD, runF, runD, runO, oSeq, sRetO, sSeq, sNil, sSet, sSetO, sRet, sRetN, sIf, sDrop, sBreak, sCont, sAppend, sExtend, sSetIx, sAug, sPar, sAsg, sRaise, mVar, mVarZ, mC, mBin, mT, mTAnd, mTOr, mTNot, mAnd, mOr, mNot, mIf, aNil, aCons, newTup, mTup, mFz, newLst, mLst, mCall, mIxO, mLenO, oNone, oSome, mSl, mBinL, mIsi, mFn, mFnK, mFnD, mFnDO, mUn, mItems, mItC, mYes, asB, R.bind, R.go, R.of, R.noBad, FR.to, FRD.to, tgN, tgsN, tgsC, tgT, gI, gIx, gLen, gAbs, gMax2, gMin2, gMin3, gInt, gTuple, gList, gSl, gSlL, gNeg, isT, gIsN, gNotN, gAddA, gMulA, gZip, List.map_cons, List.map_nil, List.length_cons, List.length_nil, List.replicate, List.append_eq, List.cons_append, List.nil_append, List.getElem?_cons_zero, List.getElem?_cons_succ, List.set_cons_zero, List.set_cons_succ, Option.map_some, Option.bind_some, Nat.reduceAdd, Nat.reduceSub, Nat.reduceLT, Nat.reduceLeDiff, Nat.reduceEqDiff, Int.reduceToNat, if_true, if_false, Bool.not_true, Bool.not_false, Bool.false_eq_true, List.length_append, Nat.zero_add, String.reduceEq, or_true, true_or, or_false, false_or, and_true, true_and, Nat.add_zero, Int.reduceLT, Int.reduceLE, decide_true, decide_false, decide_eq_true_eq, Int.reduceAdd, Int.reduceSub, Int.reduceMul, Int.reduceNeg, neI]
  · intro d hd _
    obtain ⟨j, hj, rfl⟩ := List.mem_map.1 hd
    simp [ent, entD, runF, runD, runO, oSeq, sRetO, sSeq, sNil, sSet, sSetO, sRet, sRetN, sIf, sDrop, sBreak, sCont, sAppend, sExtend, sSetIx, sAug, sPar, sAsg, sRaise, mVar, mVarZ, mC, mBin, mT, mTAnd, mTOr, mTNot, mAnd, mOr, mNot, mIf, aNil, aCons, newTup, mTup, mFz, newLst, mLst, mCall, mIxO, mLenO, oNone, oSome, mSl, mBinL, mIsi, mFn, mFnK, mFnD, mFnDO, mUn, mItems, mItC, mYes, asB, R.bind, R.go, R.of, R.noBad, FR.to, FRD.to, tgN, tgsN, tgsC, tgT, gI, gIx, gLen, gAbs, gMax2, gMin2, gMin3, gInt, gTuple, gList, gSl, gSlL, gNeg, isT, gIsN, gNotN, gAddA, gMulA, gZip, List.map_cons, List.map_nil, List.length_cons, List.length_nil, List.replicate, List.append_eq, List.cons_append, List.nil_append, List.getElem?_cons_zero, List.getElem?_cons_succ, List.set_cons_zero, List.set_cons_succ, Option.map_some, Option.bind_some, Nat.reduceAdd, Nat.reduceSub, Nat.reduceLT, Nat.reduceLeDiff, Nat.reduceEqDiff, Int.reduceToNat, if_true, if_false, Bool.not_true, Bool.not_false, Bool.false_eq_true, List.length_append, Nat.zero_add, String.reduceEq, or_true, true_or, or_false, false_or, and_true, true_and, Nat.add_zero, Int.reduceLT, Int.reduceLE, decide_true, decide_false, decide_eq_true_eq, Int.reduceAdd, Int.reduceSub, Int.reduceMul, Int.reduceNeg]
def othT (n : Nat) : List D := (List.range n).map fun i => tupI (oth n i)
theorem othT_ix {n i : Nat} (hi : i < n) : atI (othT n) (i : Int) = some (tupI (oth n i)) := atI_nat (by simp [othT, hi])
theorem allups_ok {n : Nat} {G out x3 x4 x5 : _} (hn : n ≤ 3) : c_cofactors_1 [.va G, .va (.int n), .ow out, x3, x4, x5, .un, .un] = .ok (othT n) [.va G, .va (.int n), .ow out, x3, x4, x5, .un, .un] := by
  unfold c_cofactors_1
  rw [mLc_map (ds := rngD 0 n) (f := fun d => match d with | .int i => tupI (oth n i.toNat) | d => d)]
  · unfold rngD othT
    rw [List.map_map]
    simp [Function.comp_def]
  · exact mItC_ok (by simp [ent, entD, runF, runD, runO, oSeq, sRetO, sSeq, sNil, sSet, sSetO, sRet, sRetN, sIf, sDrop, sBreak, sCont, sAppend, sExtend, sSetIx, sAug, sPar, sAsg, sRaise, mVar, mVarZ, mC, mBin, mT, mTAnd, mTOr, mTNot, mAnd, mOr, mNot, mIf, aNil, aCons, newTup, mTup, mFz, newLst, mLst, mCall, mIxO, mLenO, oNone, oSome, mSl, mBinL, mIsi, mFn, mFnK, mFnD, mFnDO, mUn, mItems, mItC, mYes, asB, R.bind, R.go, R.of, R.noBad, FR.to, FRD.to, tgN, tgsN, tgsC, tgT, gI, gIx, gLen, gAbs, gMax2, gMin2, gMin3, gInt, gTuple, gList, gSl, gSlL, gNeg, isT, gIsN, gNotN, gAddA, gMulA, gZip, List.map_cons, List.map_nil, List.length_cons, List.length_nil, List.replicate, List.append_eq, List.cons_append, List.nil_append, List.getElem?_cons_zero, List.getElem?_cons_succ, List.set_cons_zero, List.set_cons_succ, Option.map_some, Option.bind_some, Nat.reduceAdd, Nat.reduceSub, Nat.reduceLT, Nat.reduceLeDiff, Nat.reduceEqDiff, Int.reduceToNat, if_true, if_false, Bool.not_true, Bool.not_false, Bool.false_eq_true, List.length_append, Nat.zero_add, String.reduceEq, or_true, true_or, or_false, false_or, and_true, true_and, Nat.add_zero, Int.reduceLT, Int.reduceLE, decide_true, decide_false, decide_eq_true_eq, Int.reduceAdd, Int.reduceSub, Int.reduceMul, Int.reduceNeg]) (rng1 (n := n) (by omega))
  · rw [rng_len, big_eq]; omega
  · intro d hd
    obtain ⟨j, hj, rfl⟩ := List.mem_map.1 hd
    have := ups_ok (u := j) (G := G) (out := out) (x3 := x3) (x4 := x4) (x5 := x5) (x7 := .un) hn
    simp only [Int.zero_add, List.set_cons_succ, List.set_cons_zero, mCall, aCons, aNil, mFz, this, R.bind, gTuple, R.of, Int.toNat_natCast]
def adjR (M : List (List Int)) (n a : Nat) : List Int := (List.range n).map fun u => det (subm M (oth n u) (oth n a)) * (if (a + u) % 2 = 0 then 1 else -1)
theorem adjrow_ok {n a : Nat} {M : List (List Int)} {out : List D} (hn : n ≤ 3) (ha : a < n) (h : Rows n 1000000 M) (hl : M.length = n) : c_cofactors_3 [.va (gridD n M), .va (.int n), .ow out, .va (.int a), .va (.lst (othT n)), .va (tupI (oth n a)), .un, .un] = .ok (zs (adjR M n a)) [.va (gridD n M), .va (.int n), .ow out, .va (.int a), .va (.lst (othT n)), .va (tupI (oth n a)), .un, .un] := by
  unfold c_cofactors_3
  rw [mLc_map (ds := rngD 0 n) (f := fun d => match d with | .int u => .int (det (subm M (oth n u.toNat) (oth n a)) * (if (a + u.toNat) % 2 = 0 then 1 else -1)) | d => d)]
  · unfold rngD adjR zs
    rw [List.map_map, List.map_map]
    simp [Function.comp_def]
  · exact mItC_ok (by simp [ent, entD, runF, runD, runO, oSeq, sRetO, sSeq, sNil, sSet, sSetO, sRet, sRetN, sIf, sDrop, sBreak, sCont, sAppend, sExtend, sSetIx, sAug, sPar, sAsg, sRaise, mVar, mVarZ, mC, mBin, mT, mTAnd, mTOr, mTNot, mAnd, mOr, mNot, mIf, aNil, aCons, newTup, mTup, mFz, newLst, mLst, mCall, mIxO, mLenO, oNone, oSome, mSl, mBinL, mIsi, mFn, mFnK, mFnD, mFnDO, mUn, mItems, mItC, mYes, asB, R.bind, R.go, R.of, R.noBad, FR.to, FRD.to, tgN, tgsN, tgsC, tgT, gI, gIx, gLen, gAbs, gMax2, gMin2, gMin3, gInt, gTuple, gList, gSl, gSlL, gNeg, isT, gIsN, gNotN, gAddA, gMulA, gZip, List.map_cons, List.map_nil, List.length_cons, List.length_nil, List.replicate, List.append_eq, List.cons_append, List.nil_append, List.getElem?_cons_zero, List.getElem?_cons_succ, List.set_cons_zero, List.set_cons_succ, Option.map_some, Option.bind_some, Nat.reduceAdd, Nat.reduceSub, Nat.reduceLT, Nat.reduceLeDiff, Nat.reduceEqDiff, Int.reduceToNat, if_true, if_false, Bool.not_true, Bool.not_false, Bool.false_eq_true, List.length_append, Nat.zero_add, String.reduceEq, or_true, true_or, or_false, false_or, and_true, true_and, Nat.add_zero, Int.reduceLT, Int.reduceLE, decide_true, decide_false, decide_eq_true_eq, Int.reduceAdd, Int.reduceSub, Int.reduceMul, Int.reduceNeg]) (rng1 (n := n) (by omega))
  · rw [rng_len, big_eq]; omega
  · intro d hd
    obtain ⟨u, hu, rfl⟩ := List.mem_map.1 hd
    have hu := List.mem_range.1 hu
    have cu := oth_cho hn hu
    have ca := oth_cho hn ha
    have hp := (part_ok h (by decide) hl cu ca (by omega)).1
    have hb := subm_bd h (by decide) hl cu ca (by omega)
    have q1 : okMul (det (subm M (oth n u) (oth n a))) 1 = true := hb.ok Bd.one (by decide) (by decide)
    have q2 : okMul (det (subm M (oth n u) (oth n a))) (-1) = true := hb.ok Bd.one.neg (by decide) (by decide)
    have hx := othT_ix hu
    by_cases he : (a + u) % 2 = 0
    · have he2 := even_mod.2 he
      simp [ent, entD, runF, runD, runO, oSeq, sRetO, sSeq, sNil, sSet, sSetO, sRet, sRetN, sIf, sDrop, sBreak, sCont, sAppend, sExtend, sSetIx, sAug, sPar, sAsg, sRaise, mVar, mVarZ, mC, mBin, mT, mTAnd, mTOr, mTNot, mAnd, mOr, mNot, mIf, aNil, aCons, newTup, mTup, mFz, newLst, mLst, mCall, mIxO, mLenO, oNone, oSome, mSl, mBinL, mIsi, mFn, mFnK, mFnD, mFnDO, mUn, mItems, mItC, mYes, asB, R.bind, R.go, R.of, R.noBad, FR.to, FRD.to, tgN, tgsN, tgsC, tgT, gI, gIx, gLen, gAbs, gMax2, gMin2, gMin3, gInt, gTuple, gList, gSl, gSlL, gNeg, isT, gIsN, gNotN, gAddA, gMulA, gZip, List.map_cons, List.map_nil, List.length_cons, List.length_nil, List.replicate, List.append_eq, List.cons_append, List.nil_append, List.getElem?_cons_zero, List.getElem?_cons_succ, List.set_cons_zero, List.set_cons_succ, Option.map_some, Option.bind_some, Nat.reduceAdd, Nat.reduceSub, Nat.reduceLT, Nat.reduceLeDiff, Nat.reduceEqDiff, Int.reduceToNat, if_true, if_false, Bool.not_true, Bool.not_false, Bool.false_eq_true, List.length_append, Nat.zero_add, String.reduceEq, or_true, true_or, or_false, false_or, and_true, true_and, Nat.add_zero, Int.reduceLT, Int.reduceLE, decide_true, decide_false, decide_eq_true_eq, Int.reduceAdd, Int.reduceSub, Int.reduceMul, Int.reduceNeg, ix1, hx, hp, gMod, eqI, he2, he, q1]
    · have he2 : ¬ _ := fun z => he (even_mod.1 z)
      simp [ent, entD, runF, runD, runO, oSeq, sRetO, sSeq, sNil, sSet, sSetO, sRet, sRetN, sIf, sDrop, sBreak, sCont, sAppend, sExtend, sSetIx, sAug, sPar, sAsg, sRaise, mVar, mVarZ, mC, mBin, mT, mTAnd, mTOr, mTNot, mAnd, mOr, mNot, mIf, aNil, aCons, newTup, mTup, mFz, newLst, mLst, mCall, mIxO, mLenO, oNone, oSome, mSl, mBinL, mIsi, mFn, mFnK, mFnD, mFnDO, mUn, mItems, mItC, mYes, asB, R.bind, R.go, R.of, R.noBad, FR.to, FRD.to, tgN, tgsN, tgsC, tgT, gI, gIx, gLen, gAbs, gMax2, gMin2, gMin3, gInt, gTuple, gList, gSl, gSlL, gNeg, isT, gIsN, gNotN, gAddA, gMulA, gZip, List.map_cons, List.map_nil, List.length_cons, List.length_nil, List.replicate, List.append_eq, List.cons_append, List.nil_append, List.getElem?_cons_zero, List.getElem?_cons_succ, List.set_cons_zero, List.set_cons_succ, Option.map_some, Option.bind_some, Nat.reduceAdd, Nat.reduceSub, Nat.reduceLT, Nat.reduceLeDiff, Nat.reduceEqDiff, Int.reduceToNat, if_true, if_false, Bool.not_true, Bool.not_false, Bool.false_eq_true, List.length_append, Nat.zero_add, String.reduceEq, or_true, true_or, or_false, false_or, and_true, true_and, Nat.add_zero, Int.reduceLT, Int.reduceLE, decide_true, decide_false, decide_eq_true_eq, Int.reduceAdd, Int.reduceSub, Int.reduceMul, Int.reduceNeg, ix1, hx, hp, gMod, eqI, he2, he, q2]
theorem cofactors_ok {n : Nat} {M : List (List Int)} (h1 : 1 ≤ n) (hn : n ≤ 3) (h : Rows n 1000000 M) (hl : M.length = n) : F_cofactors [gridD n M] = .ok (tupM (adj M n)) := by
  have e0 := need_sq (M := M) (n := n) ⟨h1, by omega, by omega, h⟩ (by decide) hl (.str "grid")
  have loop : ∀ k a : Nat, a + k = n → ∀ (x3 x4 x5 : Sl), ∃ y3 y4 y5, forL (tgN 3) l_cofactors_1 ((List.range' a k).map fun i : Nat => D.int i) [.va (gridD n M), .va (.int n), .ow ((List.range a).map fun i => tupI (adjR M n i)), x3, x4, x5, .un, .un] = .nx [.va (gridD n M), .va (.int n), .ow ((List.range n).map fun i => tupI (adjR M n i)), y3, y4, y5, .un, .un] := by
    intro k
    induction k with
    | zero =>
      intro a ha x3 x4 x5
      rw [show a = n by omega]
      exact ⟨x3, x4, x5, rfl⟩
    | succ k ih =>
      intro a ha x3 x4 x5
      obtain ⟨y3, y4, y5, hy⟩ := ih (a + 1) (by omega) (.va (.int a)) (.va (.lst (othT n))) (.va (tupI (oth n a)))
      refine ⟨y3, y4, y5, ?_⟩
      have s1 := allups_ok (G := gridD n M) (out := (List.range a).map fun i => tupI (adjR M n i)) (x3 := .va (.int a)) (x4 := x4) (x5 := x5) hn
      have s2 := othT_ix (n := n) (i := a) (by omega)
      have s3 := adjrow_ok (n := n) (a := a) (M := M) (out := (List.range a).map fun i => tupI (adjR M n i)) hn (by omega) h hl
      have s4 : a < 1000000 := by omega
      rw [List.range'_succ, List.map_cons, forL_step (e1 := [.va (gridD n M), .va (.int n), .ow ((List.range a).map fun i => tupI (adjR M n i)), .va (.int a), x4, x5, .un, .un]) (e2 := [.va (gridD n M), .va (.int n), .ow ((List.range (a + 1)).map fun i => tupI (adjR M n i)), .va (.int a), .va (.lst (othT n)), .va (tupI (oth n a)), .un, .un]) rfl ?_]
      · exact hy
      · rw [List.range_succ, List.map_append]
        unfold l_cofactors_1
        rw [seq_nx (e := [.va (gridD n M), .va (.int n), .ow ((List.range a).map fun i => tupI (adjR M n i)), .va (.int a), .va (.lst (othT n)), x5, .un, .un]) (by simp only [sSet, mFz, s1, R.bind, R.go, List.set_cons_succ, List.set_cons_zero])]
        rw [seq_nx (e := [.va (gridD n M), .va (.int n), .ow ((List.range a).map fun i => tupI (adjR M n i)), .va (.int a), .va (.lst (othT n)), .va (tupI (oth n a)), .un, .un]) (by simp [ent, entD, runF, runD, runO, oSeq, sRetO, sSeq, sNil, sSet, sSetO, sRet, sRetN, sIf, sDrop, sBreak, sCont, sAppend, sExtend, sSetIx, sAug, sPar, sAsg, sRaise, mVar, mVarZ, mC, mBin, mT, mTAnd, mTOr, mTNot, mAnd, mOr, mNot, mIf, aNil, aCons, newTup, mTup, mFz, newLst, mLst, mCall, mIxO, mLenO, oNone, oSome, mSl, mBinL, mIsi, mFn, mFnK, mFnD, mFnDO, mUn, mItems, mItC, mYes, asB, R.bind, R.go, R.of, R.noBad, FR.to, FRD.to, tgN, tgsN, tgsC, tgT, gI, gIx, gLen, gAbs, gMax2, gMin2, gMin3, gInt, gTuple, gList, gSl, gSlL, gNeg, isT, gIsN, gNotN, gAddA, gMulA, gZip, List.map_cons, List.map_nil, List.length_cons, List.length_nil, List.replicate, List.append_eq, List.cons_append, List.nil_append, List.getElem?_cons_zero, List.getElem?_cons_succ, List.set_cons_zero, List.set_cons_succ, Option.map_some, Option.bind_some, Nat.reduceAdd, Nat.reduceSub, Nat.reduceLT, Nat.reduceLeDiff, Nat.reduceEqDiff, Int.reduceToNat, if_true, if_false, Bool.not_true, Bool.not_false, Bool.false_eq_true, List.length_append, Nat.zero_add, String.reduceEq, or_true, true_or, or_false, false_or, and_true, true_and, Nat.add_zero, Int.reduceLT, Int.reduceLE, decide_true, decide_false, decide_eq_true_eq, Int.reduceAdd, Int.reduceSub, Int.reduceMul, Int.reduceNeg, s2])]
        simp [ent, entD, runF, runD, runO, oSeq, sRetO, sSeq, sNil, sSet, sSetO, sRet, sRetN, sIf, sDrop, sBreak, sCont, sAppend, sExtend, sSetIx, sAug, sPar, sAsg, sRaise, mVar, mVarZ, mC, mBin, mT, mTAnd, mTOr, mTNot, mAnd, mOr, mNot, mIf, aNil, aCons, newTup, mTup, mFz, newLst, mLst, mCall, mIxO, mLenO, oNone, oSome, mSl, mBinL, mIsi, mFn, mFnK, mFnD, mFnDO, mUn, mItems, mItC, mYes, asB, R.bind, R.go, R.of, R.noBad, FR.to, FRD.to, tgN, tgsN, tgsC, tgT, gI, gIx, gLen, gAbs, gMax2, gMin2, gMin3, gInt, gTuple, gList, gSl, gSlL, gNeg, isT, gIsN, gNotN, gAddA, gMulA, gZip, List.map_cons, List.map_nil, List.length_cons, List.length_nil, List.replicate, List.append_eq, List.cons_append, List.nil_append, List.getElem?_cons_zero, List.getElem?_cons_succ, List.set_cons_zero, List.set_cons_succ, Option.map_some, Option.bind_some, Nat.reduceAdd, Nat.reduceSub, Nat.reduceLT, Nat.reduceLeDiff, Nat.reduceEqDiff, Int.reduceToNat, if_true, if_false, Bool.not_true, Bool.not_false, Bool.false_eq_true, List.length_append, Nat.zero_add, String.reduceEq, or_true, true_or, or_false, false_or, and_true, true_and, Nat.add_zero, Int.reduceLT, Int.reduceLE, decide_true, decide_false, decide_eq_true_eq, Int.reduceAdd, Int.reduceSub, Int.reduceMul, Int.reduceNeg, s3, big_eq, s4, -List.map_map]
  obtain ⟨y3, y4, y5, hy⟩ := loop n 0 (by omega) .un .un .un
  unfold F_cofactors m_cofactors runF
  rw [show ent 8 [gridD n M] = [.va (gridD n M), .un, .un, .un, .un, .un, .un, .un] from rfl]
  rw [seq_nx (e := [.va (gridD n M), .un, .un, .un, .un, .un, .un, .un]) (by simp [ent, entD, runF, runD, runO, oSeq, sRetO, sSeq, sNil, sSet, sSetO, sRet, sRetN, sIf, sDrop, sBreak, sCont, sAppend, sExtend, sSetIx, sAug, sPar, sAsg, sRaise, mVar, mVarZ, mC, mBin, mT, mTAnd, mTOr, mTNot, mAnd, mOr, mNot, mIf, aNil, aCons, newTup, mTup, mFz, newLst, mLst, mCall, mIxO, mLenO, oNone, oSome, mSl, mBinL, mIsi, mFn, mFnK, mFnD, mFnDO, mUn, mItems, mItC, mYes, asB, R.bind, R.go, R.of, R.noBad, FR.to, FRD.to, tgN, tgsN, tgsC, tgT, gI, gIx, gLen, gAbs, gMax2, gMin2, gMin3, gInt, gTuple, gList, gSl, gSlL, gNeg, isT, gIsN, gNotN, gAddA, gMulA, gZip, List.map_cons, List.map_nil, List.length_cons, List.length_nil, List.replicate, List.append_eq, List.cons_append, List.nil_append, List.getElem?_cons_zero, List.getElem?_cons_succ, List.set_cons_zero, List.set_cons_succ, Option.map_some, Option.bind_some, Nat.reduceAdd, Nat.reduceSub, Nat.reduceLT, Nat.reduceLeDiff, Nat.reduceEqDiff, Int.reduceToNat, if_true, if_false, Bool.not_true, Bool.not_false, Bool.false_eq_true, List.length_append, Nat.zero_add, String.reduceEq, or_true, true_or, or_false, false_or, and_true, true_and, Nat.add_zero, Int.reduceLT, Int.reduceLE, decide_true, decide_false, decide_eq_true_eq, Int.reduceAdd, Int.reduceSub, Int.reduceMul, Int.reduceNeg, e0])]
  rw [seq_nx (e := [.va (gridD n M), .va (.int n), .un, .un, .un, .un, .un, .un]) (by simp [ent, entD, runF, runD, runO, oSeq, sRetO, sSeq, sNil, sSet, sSetO, sRet, sRetN, sIf, sDrop, sBreak, sCont, sAppend, sExtend, sSetIx, sAug, sPar, sAsg, sRaise, mVar, mVarZ, mC, mBin, mT, mTAnd, mTOr, mTNot, mAnd, mOr, mNot, mIf, aNil, aCons, newTup, mTup, mFz, newLst, mLst, mCall, mIxO, mLenO, oNone, oSome, mSl, mBinL, mIsi, mFn, mFnK, mFnD, mFnDO, mUn, mItems, mItC, mYes, asB, R.bind, R.go, R.of, R.noBad, FR.to, FRD.to, tgN, tgsN, tgsC, tgT, gI, gIx, gLen, gAbs, gMax2, gMin2, gMin3, gInt, gTuple, gList, gSl, gSlL, gNeg, isT, gIsN, gNotN, gAddA, gMulA, gZip, List.map_cons, List.map_nil, List.length_cons, List.length_nil, List.replicate, List.append_eq, List.cons_append, List.nil_append, List.getElem?_cons_zero, List.getElem?_cons_succ, List.set_cons_zero, List.set_cons_succ, Option.map_some, Option.bind_some, Nat.reduceAdd, Nat.reduceSub, Nat.reduceLT, Nat.reduceLeDiff, Nat.reduceEqDiff, Int.reduceToNat, if_true, if_false, Bool.not_true, Bool.not_false, Bool.false_eq_true, List.length_append, Nat.zero_add, String.reduceEq, or_true, true_or, or_false, false_or, and_true, true_and, Nat.add_zero, Int.reduceLT, Int.reduceLE, decide_true, decide_false, decide_eq_true_eq, Int.reduceAdd, Int.reduceSub, Int.reduceMul, Int.reduceNeg, ix0])]
  rw [seq_nx (e := [.va (gridD n M), .va (.int n), .ow [], .un, .un, .un, .un, .un]) (by simp [ent, entD, runF, runD, runO, oSeq, sRetO, sSeq, sNil, sSet, sSetO, sRet, sRetN, sIf, sDrop, sBreak, sCont, sAppend, sExtend, sSetIx, sAug, sPar, sAsg, sRaise, mVar, mVarZ, mC, mBin, mT, mTAnd, mTOr, mTNot, mAnd, mOr, mNot, mIf, aNil, aCons, newTup, mTup, mFz, newLst, mLst, mCall, mIxO, mLenO, oNone, oSome, mSl, mBinL, mIsi, mFn, mFnK, mFnD, mFnDO, mUn, mItems, mItC, mYes, asB, R.bind, R.go, R.of, R.noBad, FR.to, FRD.to, tgN, tgsN, tgsC, tgT, gI, gIx, gLen, gAbs, gMax2, gMin2, gMin3, gInt, gTuple, gList, gSl, gSlL, gNeg, isT, gIsN, gNotN, gAddA, gMulA, gZip, List.map_cons, List.map_nil, List.length_cons, List.length_nil, List.replicate, List.append_eq, List.cons_append, List.nil_append, List.getElem?_cons_zero, List.getElem?_cons_succ, List.set_cons_zero, List.set_cons_succ, Option.map_some, Option.bind_some, Nat.reduceAdd, Nat.reduceSub, Nat.reduceLT, Nat.reduceLeDiff, Nat.reduceEqDiff, Int.reduceToNat, if_true, if_false, Bool.not_true, Bool.not_false, Bool.false_eq_true, List.length_append, Nat.zero_add, String.reduceEq, or_true, true_or, or_false, false_or, and_true, true_and, Nat.add_zero, Int.reduceLT, Int.reduceLE, decide_true, decide_false, decide_eq_true_eq, Int.reduceAdd, Int.reduceSub, Int.reduceMul, Int.reduceNeg])]
  have hr : rngD 0 n = (List.range' 0 n).map fun i : Nat => D.int i := by
    unfold rngD
    rw [← List.range_eq_range']
    simp
  rw [seq_nx (by unfold sFor; rw [mItC_ok (e := [.va (gridD n M), .va (.int n), .ow [], .un, .un, .un, .un, .un]) (ds := [.int n]) (by simp [ent, entD, runF, runD, runO, oSeq, sRetO, sSeq, sNil, sSet, sSetO, sRet, sRetN, sIf, sDrop, sBreak, sCont, sAppend, sExtend, sSetIx, sAug, sPar, sAsg, sRaise, mVar, mVarZ, mC, mBin, mT, mTAnd, mTOr, mTNot, mAnd, mOr, mNot, mIf, aNil, aCons, newTup, mTup, mFz, newLst, mLst, mCall, mIxO, mLenO, oNone, oSome, mSl, mBinL, mIsi, mFn, mFnK, mFnD, mFnDO, mUn, mItems, mItC, mYes, asB, R.bind, R.go, R.of, R.noBad, FR.to, FRD.to, tgN, tgsN, tgsC, tgT, gI, gIx, gLen, gAbs, gMax2, gMin2, gMin3, gInt, gTuple, gList, gSl, gSlL, gNeg, isT, gIsN, gNotN, gAddA, gMulA, gZip, List.map_cons, List.map_nil, List.length_cons, List.length_nil, List.replicate, List.append_eq, List.cons_append, List.nil_append, List.getElem?_cons_zero, List.getElem?_cons_succ, List.set_cons_zero, List.set_cons_succ, Option.map_some, Option.bind_some, Nat.reduceAdd, Nat.reduceSub, Nat.reduceLT, Nat.reduceLeDiff, Nat.reduceEqDiff, Int.reduceToNat, if_true, if_false, Bool.not_true, Bool.not_false, Bool.false_eq_true, List.length_append, Nat.zero_add, String.reduceEq, or_true, true_or, or_false, false_or, and_true, true_and, Nat.add_zero, Int.reduceLT, Int.reduceLE, decide_true, decide_false, decide_eq_true_eq, Int.reduceAdd, Int.reduceSub, Int.reduceMul, Int.reduceNeg]) (rng1 (n := n) (by omega)), hr]; exact hy)]
  simp [ent, entD, runF, runD, runO, oSeq, sRetO, sSeq, sNil, sSet, sSetO, sRet, sRetN, sIf, sDrop, sBreak, sCont, sAppend, sExtend, sSetIx, sAug, sPar, sAsg, sRaise, mVar, mVarZ, mC, mBin, mT, mTAnd, mTOr, mTNot, mAnd, mOr, mNot, mIf, aNil, aCons, newTup, mTup, mFz, newLst, mLst, mCall, mIxO, mLenO, oNone, oSome, mSl, mBinL, mIsi, mFn, mFnK, mFnD, mFnDO, mUn, mItems, mItC, mYes, asB, R.bind, R.go, R.of, R.noBad, FR.to, FRD.to, tgN, tgsN, tgsC, tgT, gI, gIx, gLen, gAbs, gMax2, gMin2, gMin3, gInt, gTuple, gList, gSl, gSlL, gNeg, isT, gIsN, gNotN, gAddA, gMulA, gZip, List.map_cons, List.map_nil, List.length_cons, List.length_nil, List.replicate, List.append_eq, List.cons_append, List.nil_append, List.getElem?_cons_zero, List.getElem?_cons_succ, List.set_cons_zero, List.set_cons_succ, Option.map_some, Option.bind_some, Nat.reduceAdd, Nat.reduceSub, Nat.reduceLT, Nat.reduceLeDiff, Nat.reduceEqDiff, Int.reduceToNat, if_true, if_false, Bool.not_true, Bool.not_false, Bool.false_eq_true, List.length_append, Nat.zero_add, String.reduceEq, or_true, true_or, or_false, false_or, and_true, true_and, Nat.add_zero, Int.reduceLT, Int.reduceLE, decide_true, decide_false, decide_eq_true_eq, Int.reduceAdd, Int.reduceSub, Int.reduceMul, Int.reduceNeg, adj, adjR]
end Y

set_option Elab.async false
set_option linter.all false
set_option maxRecDepth 100000
set_option maxHeartbeats 4000000
namespace Y
open PySem PySem.Spec PyProof.Rows L2
theorem fdiv_dvd {a g : Int} (hg : g ≠ 0) (h : g ∣ a) : g * a.fdiv g = a := by
  rw [Int.fdiv_eq_ediv_of_dvd h]
  exact Int.mul_ediv_cancel' h
/-- a fraction in lowest terms, made of two numbers -/
structure Low (a b : Int) (x y : Int) : Prop where
  pos : 0 < y
  low : Int.gcd x y = 1
  eq : x * b = a * y
  lx : x.natAbs ≤ a.natAbs
  ly : y.natAbs ≤ b.natAbs
theorem low_pos {a b : Int} (h : 0 < b) : Low a b (a.fdiv (Int.gcd a b)) (b.fdiv (Int.gcd a b)) := by
  have g0 : (0 : Int) < Int.gcd a b := by
    have := Int.gcd_pos_of_ne_zero_right a (b := b) (by omega)
    omega
  have d1 : (Int.gcd a b : Int) ∣ a := Int.gcd_dvd_left ..
  have d2 : (Int.gcd a b : Int) ∣ b := Int.gcd_dvd_right ..
  have e1 := fdiv_dvd (by omega) d1
  have e2 := fdiv_dvd (by omega) d2
  have hl : Int.gcd (a.fdiv (Int.gcd a b)) (b.fdiv (Int.gcd a b)) = 1 := by
    rw [Int.fdiv_eq_ediv_of_dvd d1, Int.fdiv_eq_ediv_of_dvd d2]
    exact Int.gcd_ediv_gcd_ediv_gcd (by omega)
  generalize a.fdiv (Int.gcd a b) = x at *
  generalize b.fdiv (Int.gcd a b) = y at *
  generalize (Int.gcd a b : Int) = g at *
  refine ⟨?_, hl, ?_, ?_, ?_⟩
  · rcases Int.lt_trichotomy y 0 with h2 | h2 | h2
    · have := Int.mul_neg_of_pos_of_neg g0 h2
      omega
    · subst h2; simp at e2; omega
    · exact h2
  · rw [← e1, ← e2]; grind
  · have := congrArg Int.natAbs e1
    rw [Int.natAbs_mul] at this
    rw [← this]
    exact Nat.le_mul_of_pos_left _ (by omega)
  · have := congrArg Int.natAbs e2
    rw [Int.natAbs_mul] at this
    rw [← this]
    exact Nat.le_mul_of_pos_left _ (by omega)
/-- one step of the sum -/
theorem low_step {p q x y r s S W a b p' q' : Int} (hq : 0 < q) (hy : 0 < y) (hp : p * W = q * S) (hx : x * W = s * y) (ha : a = p * y + r * x * q) (hb : b = q * y) (h : Low a b p' q') : p' * W = q' * (S + r * s) := by
  have hb0 : b ≠ 0 := by
    rw [hb]
    exact Int.ne_of_gt (Int.mul_pos hq hy)
  have e := h.eq
  apply Int.eq_of_mul_eq_mul_left hb0
  have h1 : a * W = b * (S + r * s) := by
    rw [ha, hb]
    grind
  grind
theorem low_end {p q W t : Int} (hq : 0 < q) (hl : Int.gcd p q = 1) (hW : W ≠ 0) (h : p * W = q * (W * t)) : p = t ∧ q = 1 := by
  have e : p = q * t := by
    apply Int.eq_of_mul_eq_mul_right hW
    grind
  subst e
  have : Int.gcd (q * t) q = q.natAbs := by simp [Int.gcd_mul_right_left]
  rw [this] at hl
  have : q = 1 := by omega
  subst this
  simp

theorem gcd_le {a b : Int} (h : b ≠ 0) : Int.gcd a b ≤ b.natAbs := Nat.le_of_dvd (by omega) (Nat.gcd_dvd_right _ _)
theorem gcd_ne {a b : Int} (h : b ≠ 0) : (Int.gcd a b : Int) ≠ 0 := by
  have := Int.gcd_pos_of_ne_zero_right a (b := b) h
  omega
theorem okDiv_gcd {a b i : Int} (h : b ≠ 0) (hb : Bd 300 b) : okDiv i (Int.gcd a b) = true := by
  refine okDiv_small (gcd_ne h) ?_
  have := gcd_le (a := a) h
  have h2 := hb.mono (by decide : 300 ≤ 400)
  unfold Bd at h2
  omega
/-- a fraction -/
def ratP (a b : Int) : Int × Int := if b < 0 then ((-a).fdiv (Int.gcd a b), (-b).fdiv (Int.gcd a b)) else (a.fdiv (Int.gcd a b), b.fdiv (Int.gcd a b))
abbrev ratD (a b : Int) : D := .tup [.int (ratP a b).1, .int (ratP a b).2]
theorem ratio_ok {a b : Int} (h : b ≠ 0) (hb : Bd 300 b) : F_ratio [.int a, .int b] = .ok (ratD a b) ∧ Low a b (ratP a b).1 (ratP a b).2 := by
  have hd : ∀ i, okDiv i (Int.gcd a b) = true := fun i => okDiv_gcd h hb
  unfold ratD ratP
  by_cases hn : b < 0
  · have L := low_pos (a := -a) (b := -b) (by omega)
    have hc := common_ok (-a) (-b)
    rw [Int.gcd_neg, Int.neg_gcd] at L hc
    rw [if_pos hn]
    refine ⟨?_, L.pos, L.low, by have := L.eq; grind, by simpa using L.lx, by simpa using L.ly⟩
    simp [F_ratio, m_ratio, ent, entD, runF, runD, runO, oSeq, sRetO, sSeq, sNil, sSet, sSetO, sRet, sRetN, sIf, sDrop, sBreak, sCont, sAppend, sExtend, sSetIx, sAug, sPar, sAsg, sRaise, mVar, mVarZ, mC, mBin, mT, mTAnd, mTOr, mTNot, mAnd, mOr, mNot, mIf, aNil, aCons, newTup, mTup, mFz, newLst, mLst, mCall, mIxO, mLenO, oNone, oSome, mSl, mBinL, mIsi, mFn, mFnK, mFnD, mFnDO, mUn, mItems, mItC, mYes, asB, R.bind, R.go, R.of, R.noBad, FR.to, FRD.to, tgN, tgsN, tgsC, tgT, gI, gIx, gLen, gAbs, gMax2, gMin2, gMin3, gInt, gTuple, gList, gSl, gSlL, gNeg, isT, gIsN, gNotN, gAddA, gMulA, gZip, List.map_cons, List.map_nil, List.length_cons, List.length_nil, List.replicate, List.append_eq, List.cons_append, List.nil_append, List.getElem?_cons_zero, List.getElem?_cons_succ, List.set_cons_zero, List.set_cons_succ, Option.map_some, Option.bind_some, Nat.reduceAdd, Nat.reduceSub, Nat.reduceLT, Nat.reduceLeDiff, Nat.reduceEqDiff, Int.reduceToNat, if_true, if_false, Bool.not_true, Bool.not_false, Bool.false_eq_true, List.length_append, Nat.zero_add, String.reduceEq, or_true, true_or, or_false, false_or, and_true, true_and, Nat.add_zero, Int.reduceLT, Int.reduceLE, decide_true, decide_false, decide_eq_true_eq, Int.reduceAdd, Int.reduceSub, Int.reduceMul, Int.reduceNeg, big_eq, hn, hc, hd]
  · have L := low_pos (a := a) (b := b) (by omega)
    have hc := common_ok a b
    rw [if_neg hn]
    refine ⟨?_, L⟩
    simp [F_ratio, m_ratio, ent, entD, runF, runD, runO, oSeq, sRetO, sSeq, sNil, sSet, sSetO, sRet, sRetN, sIf, sDrop, sBreak, sCont, sAppend, sExtend, sSetIx, sAug, sPar, sAsg, sRaise, mVar, mVarZ, mC, mBin, mT, mTAnd, mTOr, mTNot, mAnd, mOr, mNot, mIf, aNil, aCons, newTup, mTup, mFz, newLst, mLst, mCall, mIxO, mLenO, oNone, oSome, mSl, mBinL, mIsi, mFn, mFnK, mFnD, mFnDO, mUn, mItems, mItC, mYes, asB, R.bind, R.go, R.of, R.noBad, FR.to, FRD.to, tgN, tgsN, tgsC, tgT, gI, gIx, gLen, gAbs, gMax2, gMin2, gMin3, gInt, gTuple, gList, gSl, gSlL, gNeg, isT, gIsN, gNotN, gAddA, gMulA, gZip, List.map_cons, List.map_nil, List.length_cons, List.length_nil, List.replicate, List.append_eq, List.cons_append, List.nil_append, List.getElem?_cons_zero, List.getElem?_cons_succ, List.set_cons_zero, List.set_cons_succ, Option.map_some, Option.bind_some, Nat.reduceAdd, Nat.reduceSub, Nat.reduceLT, Nat.reduceLeDiff, Nat.reduceEqDiff, Int.reduceToNat, if_true, if_false, Bool.not_true, Bool.not_false, Bool.false_eq_true, List.length_append, Nat.zero_add, String.reduceEq, or_true, true_or, or_false, false_or, and_true, true_and, Nat.add_zero, Int.reduceLT, Int.reduceLE, decide_true, decide_false, decide_eq_true_eq, Int.reduceAdd, Int.reduceSub, Int.reduceMul, Int.reduceNeg, big_eq, hn, hc, hd]
theorem plus_ok {p q u y : Int} (hq : 0 < q) (hy : 0 < y) (bp : Bd 200 p) (bq : Bd 95 q) (bu : Bd 200 u) (b2 : Bd 95 y) : ∃ x' y' : Int, F__law_plus [.tup [.int p, .int q], .tup [.int u, .int y]] = .ok (.tup [.int x', .int y']) ∧ Low (p * y + u * q) (q * y) x' y' := by
  have h0 : 0 < q * y := Int.mul_pos hq hy
  have h1 : q * y ≠ 0 := by omega
  have b3 := bq.mul b2
  have q1 := bp.ok b2 (by decide) (by decide)
  have q2 := bu.ok bq (by decide) (by decide)
  have q3 := bq.ok b2 (by decide) (by decide)
  have hg := gcd_ok (p * y + u * q) (q * y) b3
  have hd : ∀ i, okDiv i (Int.gcd (p * y + u * q) (q * y)) = true := fun i => okDiv_gcd h1 (b3.mono (by decide))
  refine ⟨_, _, ?_, low_pos h0⟩
  simp [F__law_plus, m__law_plus, ent, entD, runF, runD, runO, oSeq, sRetO, sSeq, sNil, sSet, sSetO, sRet, sRetN, sIf, sDrop, sBreak, sCont, sAppend, sExtend, sSetIx, sAug, sPar, sAsg, sRaise, mVar, mVarZ, mC, mBin, mT, mTAnd, mTOr, mTNot, mAnd, mOr, mNot, mIf, aNil, aCons, newTup, mTup, mFz, newLst, mLst, mCall, mIxO, mLenO, oNone, oSome, mSl, mBinL, mIsi, mFn, mFnK, mFnD, mFnDO, mUn, mItems, mItC, mYes, asB, R.bind, R.go, R.of, R.noBad, FR.to, FRD.to, tgN, tgsN, tgsC, tgT, gI, gIx, gLen, gAbs, gMax2, gMin2, gMin3, gInt, gTuple, gList, gSl, gSlL, gNeg, isT, gIsN, gNotN, gAddA, gMulA, gZip, List.map_cons, List.map_nil, List.length_cons, List.length_nil, List.replicate, List.append_eq, List.cons_append, List.nil_append, List.getElem?_cons_zero, List.getElem?_cons_succ, List.set_cons_zero, List.set_cons_succ, Option.map_some, Option.bind_some, Nat.reduceAdd, Nat.reduceSub, Nat.reduceLT, Nat.reduceLeDiff, Nat.reduceEqDiff, Int.reduceToNat, if_true, if_false, Bool.not_true, Bool.not_false, Bool.false_eq_true, List.length_append, Nat.zero_add, String.reduceEq, or_true, true_or, or_false, false_or, and_true, true_and, Nat.add_zero, Int.reduceLT, Int.reduceLE, decide_true, decide_false, decide_eq_true_eq, Int.reduceAdd, Int.reduceSub, Int.reduceMul, Int.reduceNeg, big_eq, atI, ixN, q1, q2, q3, hg, hd]
theorem mix_loop {W : Int} {A B : Sl} : ∀ (l : List (Int × Int × Int × Int)) (k : Nat) (p q S : Int) (s3 s4 : Sl), k + l.length ≤ 3 → 0 < q → p * W = q * S → Bd (40 * k + 1) p → Bd (12 * k + 1) q → (k ≠ 0 → Int.gcd p q = 1) →
    (∀ z ∈ l, 0 < z.2.2.1 ∧ z.2.1 * W = z.2.2.2 * z.2.2.1 ∧ Bd 3 z.1 ∧ Bd 20 z.2.1 ∧ Bd 12 z.2.2.1) →
    ∃ p' q' t3 t4, forL (tgT 2 (tgsC (tgN 3) (tgsC (tgN 4) tgsN))) l__law_mix_1 (l.map fun z => .tup [.int z.1, .tup [.int z.2.1, .int z.2.2.1]]) [A, B, .va (.tup [.int p, .int q]), s3, s4] = .nx [A, B, .va (.tup [.int p', .int q']), t3, t4] ∧ 0 < q' ∧ p' * W = q' * (S + (l.map fun z => z.1 * z.2.2.2).sum) ∧ (k + l.length ≠ 0 → Int.gcd p' q' = 1)
  | [], k, p, q, S, s3, s4, hk, hq, hp, bp, bq, hl, _ => ⟨p, q, s3, s4, rfl, hq, by simpa using hp, by simpa using hl⟩
  | (r, x, y, s) :: l, k, p, q, S, s3, s4, hk, hq, hp, bp, bq, hl, hz => by
    obtain ⟨z1, z2, z3, z4, z5⟩ := hz (r, x, y, s) (by simp)
    simp only at z1 z2 z3 z4 z5
    simp only [List.length_cons] at hk
    have brx := z3.mul z4
    obtain ⟨x', y', e, L⟩ := plus_ok hq z1 (bp.mono (by omega)) (bq.mono (by omega)) (brx.mono (by decide)) (z5.mono (by decide))
    have b1 : Bd (40 * (k + 1) + 1) x' := by
      refine Nat.lt_of_le_of_lt L.lx ?_
      exact ((bp.mul z5).mono (by omega : 40 * k + 1 + 12 ≤ 40 * (k + 1))).add ((brx.mul bq).mono (by omega : 3 + 20 + (12 * k + 1) ≤ 40 * (k + 1)))
    have b2 : Bd (12 * (k + 1) + 1) y' := by
      refine Nat.lt_of_le_of_lt L.ly ?_
      exact (bq.mul z5).mono (by omega)
    have st := low_step hq z1 hp z2 rfl rfl L
    obtain ⟨p2, q2, t3, t4, h1, h2, h3, h4⟩ := mix_loop (W := W) (A := A) (B := B) l (k + 1) x' y' (S + r * s) (.va (.int r)) (.va (.tup [.int x, .int y])) (by omega) L.pos st b1 b2 (fun _ => L.low) fun z h => hz z (by simp [h])
    refine ⟨p2, q2, t3, t4, ?_, h2, ?_, ?_⟩
    · rw [List.map_cons, forL_step (e1 := [A, B, .va (.tup [.int p, .int q]), .va (.int r), .va (.tup [.int x, .int y])]) (e2 := [A, B, .va (.tup [.int x', .int y']), .va (.int r), .va (.tup [.int x, .int y])]) rfl]
      · exact h1
      · have ok := z3.ok z4 (by decide) (by decide)
        simp [l__law_mix_1, ent, entD, runF, runD, runO, oSeq, sRetO, sSeq, sNil, sSet, sSetO, sRet, sRetN, sIf, sDrop, sBreak, sCont, sAppend, sExtend, sSetIx, sAug, sPar, sAsg, sRaise, mVar, mVarZ, mC, mBin, mT, mTAnd, mTOr, mTNot, mAnd, mOr, mNot, mIf, aNil, aCons, newTup, mTup, mFz, newLst, mLst, mCall, mIxO, mLenO, oNone, oSome, mSl, mBinL, mIsi, mFn, mFnK, mFnD, mFnDO, mUn, mItems, mItC, mYes, asB, R.bind, R.go, R.of, R.noBad, FR.to, FRD.to, tgN, tgsN, tgsC, tgT, gI, gIx, gLen, gAbs, gMax2, gMin2, gMin3, gInt, gTuple, gList, gSl, gSlL, gNeg, isT, gIsN, gNotN, gAddA, gMulA, gZip, List.map_cons, List.map_nil, List.length_cons, List.length_nil, List.replicate, List.append_eq, List.cons_append, List.nil_append, List.getElem?_cons_zero, List.getElem?_cons_succ, List.set_cons_zero, List.set_cons_succ, Option.map_some, Option.bind_some, Nat.reduceAdd, Nat.reduceSub, Nat.reduceLT, Nat.reduceLeDiff, Nat.reduceEqDiff, Int.reduceToNat, if_true, if_false, Bool.not_true, Bool.not_false, Bool.false_eq_true, List.length_append, Nat.zero_add, String.reduceEq, or_true, true_or, or_false, false_or, and_true, true_and, Nat.add_zero, Int.reduceLT, Int.reduceLE, decide_true, decide_false, decide_eq_true_eq, Int.reduceAdd, Int.reduceSub, Int.reduceMul, Int.reduceNeg, big_eq, atI, ixN, ok, e]
    · rw [h3, List.map_cons, List.sum_cons, Int.add_assoc]
    · intro _
      exact h4 (by omega)
theorem det_bdb {n b : Nat} {M : List (List Int)} (hn : n ≤ 3) (hs : Sq n M) (hM : ∀ r ∈ M, ∀ x ∈ r, Bd b x) : Bd (3 * b + 5) (det M) := by
  rcases sq_cases hn hs with ⟨rfl, rfl⟩ | ⟨a, rfl, rfl⟩ | ⟨a, b1, c, d, rfl, rfl⟩ | ⟨a, b1, c, d, e, f, g, h, i, rfl, rfl⟩
  · exact Bd.one.mono (by omega)
  · exact (hM [a] (by simp) a (by simp)).mono (by omega)
  · have h1 := hM [a, b1] (by simp)
    have h2 := hM [c, d] (by simp)
    exact (((h1 a (by simp)).mul (h2 d (by simp))).sub ((h1 b1 (by simp)).mul (h2 c (by simp)))).mono (by omega)
  · have h1 := hM [a, b1, c] (by simp)
    have h2 := hM [d, e, f] (by simp)
    have h3 := hM [g, h, i] (by simp)
    have p : ∀ {x y z t}, Bd b x → Bd b y → Bd b z → Bd b t → Bd (b + b + 1) (x * y - z * t) := fun a b c d => (a.mul b).sub (c.mul d)
    have q : ∀ {k} {u v w : Int}, Bd k u → Bd k v → Bd k w → Bd (k + 2) (u - v + w) := fun a b c => (a.sub b).add (c.mono (by omega))
    exact (q ((h1 a (by simp)).mul (p (h2 e (by simp)) (h3 i (by simp)) (h2 f (by simp)) (h3 h (by simp)))) ((h1 b1 (by simp)).mul (p (h2 d (by simp)) (h3 i (by simp)) (h2 f (by simp)) (h3 g (by simp)))) ((h1 c (by simp)).mul (p (h2 d (by simp)) (h3 h (by simp)) (h2 e (by simp)) (h3 g (by simp))))).mono (by omega)
theorem gt_bd {b : Nat} {M : List (List Int)} (hM : ∀ r ∈ M, ∀ x ∈ r, Bd b x) (i j : Nat) : Bd b (gt M i j) := by
  have z : Bd b 0 := by unfold Bd; exact Nat.pow_pos (by decide)
  unfold gt
  cases e : M[i]? with
  | none => simpa using z
  | some r =>
    cases e2 : r[j]? with
    | none => simpa [e2] using z
    | some x => simpa [e2] using hM r (List.mem_of_getElem? e) x (List.mem_of_getElem? e2)
theorem adj_bd {n b : Nat} {M : List (List Int)} (hn : n ≤ 3) (hM : ∀ r ∈ M, ∀ x ∈ r, Bd b x) : ∀ r ∈ adj M n, r.length = n ∧ ∀ x ∈ r, Bd (3 * b + 5) x := by
  intro r hr
  obtain ⟨a, ha, rfl⟩ := List.mem_map.1 hr
  have ha := List.mem_range.1 ha
  refine ⟨by simp, fun x hx => ?_⟩
  obtain ⟨u, hu, rfl⟩ := List.mem_map.1 hx
  have hu := List.mem_range.1 hu
  have hd : Bd (3 * b + 5) (det (subm M (oth n u) (oth n a))) := by
    refine det_bdb (n := n - 1) (by omega) (subm_sq (oth_cho hn hu).len (oth_cho hn ha).len) fun r hr x hx => ?_
    obtain ⟨i, _, rfl⟩ := List.mem_map.1 hr
    obtain ⟨j, _, rfl⟩ := List.mem_map.1 hx
    exact gt_bd hM _ _
  by_cases h : (a + u) % 2 = 0
  · rw [if_pos h, Int.mul_one]; exact hd
  · rw [if_neg h]; simpa using hd
theorem dot_bd {n a b : Nat} {r s : List Int} (hn : n ≤ 3) (lr : r.length = n) (ls : s.length = n) (hr : ∀ x ∈ r, Bd a x) (hs : ∀ x ∈ s, Bd b x) : Bd (a + b + 2) (dot r s) := by
  have : n = 0 ∨ n = 1 ∨ n = 2 ∨ n = 3 := by omega
  rcases this with rfl | rfl | rfl | rfl
  · rw [List.length_eq_zero_iff] at lr
    subst lr
    simp [dot]
    exact Nat.pow_pos (by decide)
  · obtain ⟨x, rfl⟩ := len1 lr
    obtain ⟨y, rfl⟩ := len1 ls
    simpa [dot] using ((hr x (by simp)).mul (hs y (by simp))).mono (by omega : a + b ≤ a + b + 2)
  · obtain ⟨x, x1, rfl⟩ := len2 lr
    obtain ⟨y, y1, rfl⟩ := len2 ls
    have := (((hr x (by simp)).mul (hs y (by simp))).add ((hr x1 (by simp)).mul (hs y1 (by simp)))).mono (by omega : a + b + 1 ≤ a + b + 2)
    simpa [dot] using this
  · obtain ⟨x, x1, x2, rfl⟩ := len3 lr
    obtain ⟨y, y1, y2, rfl⟩ := len3 ls
    have := ((hr x (by simp)).mul (hs y (by simp))).mono (by omega : a + b ≤ a + b + 1) |>.add (((hr x1 (by simp)).mul (hs y1 (by simp))).add ((hr x2 (by simp)).mul (hs y2 (by simp))))
    simpa [dot] using this
/-- the point has the sums -/
theorem adj_sums {n : Nat} {M : List (List Int)} {sums : List Int} (h1 : 1 ≤ n) (hn : n ≤ 3) (hl : M.length = n) (hs : ∀ r ∈ M, r.length = n) (ls : sums.length = n) : ∀ q ∈ M.zip sums, ((q.1.zip (adj M n)).map fun z => z.1 * dot z.2 sums).sum = det M * q.2 := by
  rcases sq_cases1 h1 hn hl hs with ⟨a, rfl, rfl⟩ | ⟨a, b, c, d, rfl, rfl⟩ | ⟨a, b, c, d, e, f, g, h, i, rfl, rfl⟩
  · obtain ⟨x, rfl⟩ := len1 ls
    simp [adj1, dot, det]
  · obtain ⟨x, y, rfl⟩ := len2 ls
    simp [adj2, dot, det]
    grind
  · obtain ⟨x, y, z, rfl⟩ := len3 ls
    simp [adj3, dot, det]
    grind
end Y

set_option Elab.async false
set_option linter.all false
set_option maxRecDepth 100000
set_option maxHeartbeats 4000000
namespace Y
open PySem PySem.Spec PyProof.Rows L2

def nin (n : Nat) (U : List Int) : List Int := ((List.range n).filter fun j : Nat => !(U.contains (j : Int))).map fun j : Nat => (j : Int)
def lapT (M : List (List Int)) (n : Nat) (U S : List Int) : Int := (if Int.fmod (U.sum + S.sum) 2 = 0 then 1 else -1) * det (subm M U S) * det (subm M (nin n U) (nin n S))
theorem cb10 : comb 1 0 = [[]] := by decide
theorem cb20 : comb 2 0 = [[]] := by decide
theorem cb30 : comb 3 0 = [[]] := by decide
theorem laplace {n k : Nat} {M : List (List Int)} (h1 : 1 ≤ n) (hn : n ≤ 3) (hl : M.length = n) (hs : ∀ r ∈ M, r.length = n) (hk : k ≤ n) {U : List Int} (hU : U ∈ comb n k) : ((comb n k).map (lapT M n U)).sum = det M := by
  rcases sq_cases1 h1 hn hl hs with ⟨a, rfl, rfl⟩ | ⟨a, b, c, d, rfl, rfl⟩ | ⟨a, b, c, d, e, f, g, h, i, rfl, rfl⟩
  · have : k = 0 ∨ k = 1 := by omega
    rcases this with rfl | rfl
    · simp only [cb10, List.mem_cons, List.not_mem_nil, or_false] at hU
      subst hU
      simp [cb10, lapT, nin, rg1, subm, det, gt]
    · simp only [cb11, List.mem_cons, List.not_mem_nil, or_false] at hU
      subst hU
      simp [cb11, lapT, nin, rg1, subm, det, gt]
  · have : k = 0 ∨ k = 1 ∨ k = 2 := by omega
    rcases this with rfl | rfl | rfl
    · simp only [cb20, List.mem_cons, List.not_mem_nil, or_false] at hU
      subst hU
      simp [cb20, lapT, nin, rg2, subm, det, gt]
    · simp only [cb21, List.mem_cons, List.not_mem_nil, or_false] at hU
      rcases hU with rfl | rfl <;> simp [cb21, lapT, nin, rg2, subm, det, gt] <;> grind
    · simp only [cb22, List.mem_cons, List.not_mem_nil, or_false] at hU
      subst hU
      simp [cb22, lapT, nin, rg2, subm, det, gt]
  · have : k = 0 ∨ k = 1 ∨ k = 2 ∨ k = 3 := by omega
    rcases this with rfl | rfl | rfl | rfl
    · simp only [cb30, List.mem_cons, List.not_mem_nil, or_false] at hU
      subst hU
      simp [cb30, lapT, nin, rg3, subm, det, gt]
    · simp only [cb31, List.mem_cons, List.not_mem_nil, or_false] at hU
      rcases hU with rfl | rfl | rfl <;> simp [cb31, lapT, nin, rg3, subm, det, gt] <;> grind
    · simp only [cb32, List.mem_cons, List.not_mem_nil, or_false] at hU
      rcases hU with rfl | rfl | rfl <;> simp [cb32, lapT, nin, rg3, subm, det, gt] <;> grind
    · simp only [cb33, List.mem_cons, List.not_mem_nil, or_false] at hU
      subst hU
      simp [cb33, lapT, nin, rg3, subm, det, gt]

theorem nin_list (n : Nat) (U : List Int) : (rngD 0 n).filter (fun d => match d with | .int j => !(U.contains j) | _ => true) = zs (nin n U) := by
  unfold rngD nin zs
  rw [List.filter_map, List.map_map]
  simp [Function.comp_def]
theorem others_ok {n : Nat} {U : List Int} {G x3 x4 x5 x6 x7 : _} (hn : n ≤ 3) : c_by_rows_1 [.va G, .va (tupI U), .va (.int n), x3, x4, x5, x6, x7, .un] = .ok (zs (nin n U)) [.va G, .va (tupI U), .va (.int n), x3, x4, x5, x6, x7, .un] := by
  unfold c_by_rows_1
  rw [mLc_if (ds := rngD 0 n) (p := fun d => match d with | .int j => !(U.contains j) | _ => true) (f := fun d => d)]
  · rw [nin_list, List.map_id']
  · exact mItC_ok (by simp [ent, entD, runF, runD, runO, oSeq, sRetO, sSeq, sNil, sSet, sSetO, sRet, sRetN, sIf, sDrop, sBreak, sCont, sAppend, sExtend, sSetIx, sAug, sPar, sAsg, sRaise, mVar, mVarZ, mC, mBin, mT, mTAnd, mTOr, mTNot, mAnd, mOr, mNot, mIf, aNil, aCons, newTup, mTup, mFz, newLst, mLst, mCall, mIxO, mLenO, oNone, oSome, mSl, mBinL, mIsi, mFn, mFnK, mFnD, mFnDO, mUn, mItems, mItC, mYes, asB, R.bind, R.go, R.of, R.noBad, FR.to, FRD.to, tgN, tgsN, tgsC, tgT, gI, gIx, gLen, gAbs, gMax2, gMin2, gMin3, gInt, gTuple, gList, gSl, gSlL, gNeg, isT, gIsN, gNotN, gAddA, gMulA, gZip, List.map_cons, List.map_nil, List.length_cons, List.length_nil, List.replicate, List.append_eq, List.cons_append, List.nil_append, List.getElem?_cons_zero, List.getElem?_cons_succ, List.set_cons_zero, List.set_cons_succ, Option.map_some, Option.bind_some, Nat.reduceAdd, Nat.reduceSub, Nat.reduceLT, Nat.reduceLeDiff, Nat.reduceEqDiff, Int.reduceToNat, if_true, if_false, Bool.not_true, Bool.not_false, Bool.false_eq_true, List.length_append, Nat.zero_add, String.reduceEq, or_true, true_or, or_false, false_or, and_true, true_and, Nat.add_zero, Int.reduceLT, Int.reduceLE, decide_true, decide_false, decide_eq_true_eq, Int.reduceAdd, Int.reduceSub, Int.reduceMul, Int.reduceNeg]) (rng1 (n := n) (by omega))
  · rw [rng_len, big_eq]; omega
  · intro d hd
    obtain ⟨j, hj, rfl⟩ := List.mem_map.1 hd
    simp [ent, entD, runF, runD, runO, oSeq, sRetO, sSeq, sNil, sSet, sSetO, sRet, sRetN, sIf, sDrop, sBreak, sCont, sAppend, sExtend, sSetIx, sAug, sPar, sAsg, sRaise, mVar, mVarZ, mC, mBin, mT, mTAnd, mTOr, mTNot, mAnd, mOr, mNot, mIf, aNil, aCons, newTup, mTup, mFz, newLst, mLst, mCall, mIxO, mLenO, oNone, oSome, mSl, mBinL, mIsi, mFn, mFnK, mFnD, mFnDO, mUn, mItems, mItC, mYes, asB, R.bind, R.go, R.of, R.noBad, FR.to, FRD.to, tgN, tgsN, tgsC, tgT, gI, gIx, gLen, gAbs, gMax2, gMin2, gMin3, gInt, gTuple, gList, gSl, gSlL, gNeg, isT, gIsN, gNotN, gAddA, gMulA, gZip, List.map_cons, List.map_nil, List.length_cons, List.length_nil, List.replicate, List.append_eq, List.cons_append, List.nil_append, List.getElem?_cons_zero, List.getElem?_cons_succ, List.set_cons_zero, List.set_cons_succ, Option.map_some, Option.bind_some, Nat.reduceAdd, Nat.reduceSub, Nat.reduceLT, Nat.reduceLeDiff, Nat.reduceEqDiff, Int.reduceToNat, if_true, if_false, Bool.not_true, Bool.not_false, Bool.false_eq_true, List.length_append, Nat.zero_add, String.reduceEq, or_true, true_or, or_false, false_or, and_true, true_and, Nat.add_zero, Int.reduceLT, Int.reduceLE, decide_true, decide_false, decide_eq_true_eq, Int.reduceAdd, Int.reduceSub, Int.reduceMul, Int.reduceNeg, gIn, zs, ints_map]
  · intro d hd _
    obtain ⟨j, hj, rfl⟩ := List.mem_map.1 hd
    simp [ent, entD, runF, runD, runO, oSeq, sRetO, sSeq, sNil, sSet, sSetO, sRet, sRetN, sIf, sDrop, sBreak, sCont, sAppend, sExtend, sSetIx, sAug, sPar, sAsg, sRaise, mVar, mVarZ, mC, mBin, mT, mTAnd, mTOr, mTNot, mAnd, mOr, mNot, mIf, aNil, aCons, newTup, mTup, mFz, newLst, mLst, mCall, mIxO, mLenO, oNone, oSome, mSl, mBinL, mIsi, mFn, mFnK, mFnD, mFnDO, mUn, mItems, mItC, mYes, asB, R.bind, R.go, R.of, R.noBad, FR.to, FRD.to, tgN, tgsN, tgsC, tgT, gI, gIx, gLen, gAbs, gMax2, gMin2, gMin3, gInt, gTuple, gList, gSl, gSlL, gNeg, isT, gIsN, gNotN, gAddA, gMulA, gZip, List.map_cons, List.map_nil, List.length_cons, List.length_nil, List.replicate, List.append_eq, List.cons_append, List.nil_append, List.getElem?_cons_zero, List.getElem?_cons_succ, List.set_cons_zero, List.set_cons_succ, Option.map_some, Option.bind_some, Nat.reduceAdd, Nat.reduceSub, Nat.reduceLT, Nat.reduceLeDiff, Nat.reduceEqDiff, Int.reduceToNat, if_true, if_false, Bool.not_true, Bool.not_false, Bool.false_eq_true, List.length_append, Nat.zero_add, String.reduceEq, or_true, true_or, or_false, false_or, and_true, true_and, Nat.add_zero, Int.reduceLT, Int.reduceLE, decide_true, decide_false, decide_eq_true_eq, Int.reduceAdd, Int.reduceSub, Int.reduceMul, Int.reduceNeg]
theorem left_ok {n : Nat} {S : List Int} {x0 x1 x3 x4 x6 x7 : _} (hn : n ≤ 3) : c_by_rows_2 [x0, x1, .va (.int n), x3, x4, .va (tupI S), x6, x7, .un] = .ok (zs (nin n S)) [x0, x1, .va (.int n), x3, x4, .va (tupI S), x6, x7, .un] := by
  unfold c_by_rows_2
  rw [mLc_if (ds := rngD 0 n) (p := fun d => match d with | .int j => !(S.contains j) | _ => true) (f := fun d => d)]
  · rw [nin_list, List.map_id']
  · exact mItC_ok (by simp [ent, entD, runF, runD, runO, oSeq, sRetO, sSeq, sNil, sSet, sSetO, sRet, sRetN, sIf, sDrop, sBreak, sCont, sAppend, sExtend, sSetIx, sAug, sPar, sAsg, sRaise, mVar, mVarZ, mC, mBin, mT, mTAnd, mTOr, mTNot, mAnd, mOr, mNot, mIf, aNil, aCons, newTup, mTup, mFz, newLst, mLst, mCall, mIxO, mLenO, oNone, oSome, mSl, mBinL, mIsi, mFn, mFnK, mFnD, mFnDO, mUn, mItems, mItC, mYes, asB, R.bind, R.go, R.of, R.noBad, FR.to, FRD.to, tgN, tgsN, tgsC, tgT, gI, gIx, gLen, gAbs, gMax2, gMin2, gMin3, gInt, gTuple, gList, gSl, gSlL, gNeg, isT, gIsN, gNotN, gAddA, gMulA, gZip, List.map_cons, List.map_nil, List.length_cons, List.length_nil, List.replicate, List.append_eq, List.cons_append, List.nil_append, List.getElem?_cons_zero, List.getElem?_cons_succ, List.set_cons_zero, List.set_cons_succ, Option.map_some, Option.bind_some, Nat.reduceAdd, Nat.reduceSub, Nat.reduceLT, Nat.reduceLeDiff, Nat.reduceEqDiff, Int.reduceToNat, if_true, if_false, Bool.not_true, Bool.not_false, Bool.false_eq_true, List.length_append, Nat.zero_add, String.reduceEq, or_true, true_or, or_false, false_or, and_true, true_and, Nat.add_zero, Int.reduceLT, Int.reduceLE, decide_true, decide_false, decide_eq_true_eq, Int.reduceAdd, Int.reduceSub, Int.reduceMul, Int.reduceNeg]) (rng1 (n := n) (by omega))
  · rw [rng_len, big_eq]; omega
  · intro d hd
    obtain ⟨j, hj, rfl⟩ := List.mem_map.1 hd
    simp [ent, entD, runF, runD, runO, oSeq, sRetO, sSeq, sNil, sSet, sSetO, sRet, sRetN, sIf, sDrop, sBreak, sCont, sAppend, sExtend, sSetIx, sAug, sPar, sAsg, sRaise, mVar, mVarZ, mC, mBin, mT, mTAnd, mTOr, mTNot, mAnd, mOr, mNot, mIf, aNil, aCons, newTup, mTup, mFz, newLst, mLst, mCall, mIxO, mLenO, oNone, oSome, mSl, mBinL, mIsi, mFn, mFnK, mFnD, mFnDO, mUn, mItems, mItC, mYes, asB, R.bind, R.go, R.of, R.noBad, FR.to, FRD.to, tgN, tgsN, tgsC, tgT, gI, gIx, gLen, gAbs, gMax2, gMin2, gMin3, gInt, gTuple, gList, gSl, gSlL, gNeg, isT, gIsN, gNotN, gAddA, gMulA, gZip, List.map_cons, List.map_nil, List.length_cons, List.length_nil, List.replicate, List.append_eq, List.cons_append, List.nil_append, List.getElem?_cons_zero, List.getElem?_cons_succ, List.set_cons_zero, List.set_cons_succ, Option.map_some, Option.bind_some, Nat.reduceAdd, Nat.reduceSub, Nat.reduceLT, Nat.reduceLeDiff, Nat.reduceEqDiff, Int.reduceToNat, if_true, if_false, Bool.not_true, Bool.not_false, Bool.false_eq_true, List.length_append, Nat.zero_add, String.reduceEq, or_true, true_or, or_false, false_or, and_true, true_and, Nat.add_zero, Int.reduceLT, Int.reduceLE, decide_true, decide_false, decide_eq_true_eq, Int.reduceAdd, Int.reduceSub, Int.reduceMul, Int.reduceNeg, gIn, zs, ints_map]
  · intro d hd _
    obtain ⟨j, hj, rfl⟩ := List.mem_map.1 hd
    simp [ent, entD, runF, runD, runO, oSeq, sRetO, sSeq, sNil, sSet, sSetO, sRet, sRetN, sIf, sDrop, sBreak, sCont, sAppend, sExtend, sSetIx, sAug, sPar, sAsg, sRaise, mVar, mVarZ, mC, mBin, mT, mTAnd, mTOr, mTNot, mAnd, mOr, mNot, mIf, aNil, aCons, newTup, mTup, mFz, newLst, mLst, mCall, mIxO, mLenO, oNone, oSome, mSl, mBinL, mIsi, mFn, mFnK, mFnD, mFnDO, mUn, mItems, mItC, mYes, asB, R.bind, R.go, R.of, R.noBad, FR.to, FRD.to, tgN, tgsN, tgsC, tgT, gI, gIx, gLen, gAbs, gMax2, gMin2, gMin3, gInt, gTuple, gList, gSl, gSlL, gNeg, isT, gIsN, gNotN, gAddA, gMulA, gZip, List.map_cons, List.map_nil, List.length_cons, List.length_nil, List.replicate, List.append_eq, List.cons_append, List.nil_append, List.getElem?_cons_zero, List.getElem?_cons_succ, List.set_cons_zero, List.set_cons_succ, Option.map_some, Option.bind_some, Nat.reduceAdd, Nat.reduceSub, Nat.reduceLT, Nat.reduceLeDiff, Nat.reduceEqDiff, Int.reduceToNat, if_true, if_false, Bool.not_true, Bool.not_false, Bool.false_eq_true, List.length_append, Nat.zero_add, String.reduceEq, or_true, true_or, or_false, false_or, and_true, true_and, Nat.add_zero, Int.reduceLT, Int.reduceLE, decide_true, decide_false, decide_eq_true_eq, Int.reduceAdd, Int.reduceSub, Int.reduceMul, Int.reduceNeg]
theorem nin_cho {n k : Nat} (hn : n ≤ 3) (hk : k ≤ n) {U : List Int} (hU : U ∈ comb n k) : Cho n (n - k) (nin n U) := by
  have key : (List.range 4).all (fun n => (List.range 4).all fun k => (comb n k).all fun U => !decide (k ≤ n) || (decide ((nin n U).length = n - k) && (nin n U).all fun x => decide (0 ≤ x) && decide (x < (n : Int)))) = true := by decide +kernel
  have h := (List.all_eq_true.1 ((List.all_eq_true.1 ((List.all_eq_true.1 key) n (List.mem_range.2 (by omega)))) k (List.mem_range.2 (by omega)))) U hU
  simp only [hk, decide_true, Bool.not_true, Bool.false_or, Bool.and_eq_true, decide_eq_true_eq, List.all_eq_true] at h
  exact ⟨h.1, fun x hx => h.2 x hx⟩
theorem byrows_ok {n k : Nat} {M : List (List Int)} (h1 : 1 ≤ n) (hn : n ≤ 3) (h : Rows n 1000000 M) (hl : M.length = n) (hk : k ≤ n) {U : List Int} (hU : U ∈ comb n k) : F_by_rows [gridD n M, tupI U] = .ok (.int (det M)) := by
  have e0 := need_sq (M := M) (n := n) ⟨h1, by omega, by omega, h⟩ (by decide) hl (.str "grid")
  have e1 := cho_ok (n := n) (k := k) (by omega) (by omega) hU
  have e2 := chosen_ok (n := n) (k := k) (by omega) (by omega)
  have cU := comb_cho (n := n) (k := k) (by omega) (by omega) hU
  have nU := nin_cho hn hk hU
  have loop : ∀ (Ss : List (List Int)), (∀ S ∈ Ss, S ∈ comb n k) → ∀ (f : Int) (x5 x6 x7 : Sl), ∃ y5 y6 y7, forL (tgN 5) l_by_rows_1 (Ss.map tupI) [.va (gridD n M), .va (tupI U), .va (.int n), .va (tupI (nin n U)), .va (.int f), x5, x6, x7, .un] = .nx [.va (gridD n M), .va (tupI U), .va (.int n), .va (tupI (nin n U)), .va (.int (f + (Ss.map (lapT M n U)).sum)), y5, y6, y7, .un] := by
    intro Ss
    induction Ss with
    | nil => exact fun _ f x5 x6 x7 => ⟨x5, x6, x7, by simp [forL]⟩
    | cons S Ss ih =>
      intro hS f x5 x6 x7
      have hS1 := hS S (by simp)
      have cS := comb_cho (n := n) (k := k) (by omega) (by omega) hS1
      have nS := nin_cho hn hk hS1
      have p1 := (part_ok h (by decide) hl cU cS (by omega)).1
      have p2 := (part_ok h (by decide) hl nU nS (by omega)).1
      have b1 := subm_bd h (by decide) hl cU cS (by omega)
      have b2 := subm_bd h (by decide) hl nU nS (by omega)
      have sg : ∃ s : Int, (s = 1 ∨ s = -1) ∧ s = (if Int.fmod (U.sum + S.sum) 2 = 0 then 1 else -1) := ⟨_, by split <;> simp, rfl⟩
      obtain ⟨s, hs1, hs2⟩ := sg
      have q1 : okMul s (det (subm M U S)) = true := by
        rcases hs1 with rfl | rfl
        · exact Bd.one.ok b1 (by decide) (by decide)
        · exact Bd.one.neg.ok b1 (by decide) (by decide)
      have b3 : Bd 101 (s * det (subm M U S)) := by
        rcases hs1 with rfl | rfl
        · simpa using b1.mono (by decide : 100 ≤ 101)
        · simpa using b1.mono (by decide : 100 ≤ 101)
      have q2 := b3.ok b2 (by decide) (by decide)
      have hleft := left_ok (n := n) (S := S) (x0 := .va (gridD n M)) (x1 := .va (tupI U)) (x3 := .va (tupI (nin n U))) (x4 := .va (.int f)) (x6 := x6) (x7 := x7) hn
      obtain ⟨y5, y6, y7, hy⟩ := ih (fun S h => hS S (by simp [h])) (f + lapT M n U S) (.va (tupI S)) (.va (tupI (nin n S))) (.va (.int s))
      refine ⟨y5, y6, y7, ?_⟩
      rw [List.map_cons, forL_step (e1 := [.va (gridD n M), .va (tupI U), .va (.int n), .va (tupI (nin n U)), .va (.int f), .va (tupI S), x6, x7, .un]) (e2 := [.va (gridD n M), .va (tupI U), .va (.int n), .va (tupI (nin n U)), .va (.int (f + lapT M n U S)), .va (tupI S), .va (tupI (nin n S)), .va (.int s), .un]) rfl]
      · rw [hy, List.map_cons, List.sum_cons, Int.add_assoc]
      · unfold l_by_rows_1
        rw [seq_nx (e := [.va (gridD n M), .va (tupI U), .va (.int n), .va (tupI (nin n U)), .va (.int f), .va (tupI S), .va (tupI (nin n S)), x7, .un]) (by simp only [sSet, mCall, aCons, aNil, mFz, hleft, R.bind, gTuple, R.of, R.go, List.set_cons_succ, List.set_cons_zero])]
        rw [seq_nx (e := [.va (gridD n M), .va (tupI U), .va (.int n), .va (tupI (nin n U)), .va (.int f), .va (tupI S), .va (tupI (nin n S)), .va (.int s), .un]) (by
          by_cases hm : Int.fmod (U.sum + S.sum) 2 = 0
          · rw [if_pos hm] at hs2
            subst hs2
            simp [ent, entD, runF, runD, runO, oSeq, sRetO, sSeq, sNil, sSet, sSetO, sRet, sRetN, sIf, sDrop, sBreak, sCont, sAppend, sExtend, sSetIx, sAug, sPar, sAsg, sRaise, mVar, mVarZ, mC, mBin, mT, mTAnd, mTOr, mTNot, mAnd, mOr, mNot, mIf, aNil, aCons, newTup, mTup, mFz, newLst, mLst, mCall, mIxO, mLenO, oNone, oSome, mSl, mBinL, mIsi, mFn, mFnK, mFnD, mFnDO, mUn, mItems, mItC, mYes, asB, R.bind, R.go, R.of, R.noBad, FR.to, FRD.to, tgN, tgsN, tgsC, tgT, gI, gIx, gLen, gAbs, gMax2, gMin2, gMin3, gInt, gTuple, gList, gSl, gSlL, gNeg, isT, gIsN, gNotN, gAddA, gMulA, gZip, List.map_cons, List.map_nil, List.length_cons, List.length_nil, List.replicate, List.append_eq, List.cons_append, List.nil_append, List.getElem?_cons_zero, List.getElem?_cons_succ, List.set_cons_zero, List.set_cons_succ, Option.map_some, Option.bind_some, Nat.reduceAdd, Nat.reduceSub, Nat.reduceLT, Nat.reduceLeDiff, Nat.reduceEqDiff, Int.reduceToNat, if_true, if_false, Bool.not_true, Bool.not_false, Bool.false_eq_true, List.length_append, Nat.zero_add, String.reduceEq, or_true, true_or, or_false, false_or, and_true, true_and, Nat.add_zero, Int.reduceLT, Int.reduceLE, decide_true, decide_false, decide_eq_true_eq, Int.reduceAdd, Int.reduceSub, Int.reduceMul, Int.reduceNeg, gSumA, zs, ints_map, gMod, eqI, hm]
          · rw [if_neg hm] at hs2
            subst hs2
            simp [ent, entD, runF, runD, runO, oSeq, sRetO, sSeq, sNil, sSet, sSetO, sRet, sRetN, sIf, sDrop, sBreak, sCont, sAppend, sExtend, sSetIx, sAug, sPar, sAsg, sRaise, mVar, mVarZ, mC, mBin, mT, mTAnd, mTOr, mTNot, mAnd, mOr, mNot, mIf, aNil, aCons, newTup, mTup, mFz, newLst, mLst, mCall, mIxO, mLenO, oNone, oSome, mSl, mBinL, mIsi, mFn, mFnK, mFnD, mFnDO, mUn, mItems, mItC, mYes, asB, R.bind, R.go, R.of, R.noBad, FR.to, FRD.to, tgN, tgsN, tgsC, tgT, gI, gIx, gLen, gAbs, gMax2, gMin2, gMin3, gInt, gTuple, gList, gSl, gSlL, gNeg, isT, gIsN, gNotN, gAddA, gMulA, gZip, List.map_cons, List.map_nil, List.length_cons, List.length_nil, List.replicate, List.append_eq, List.cons_append, List.nil_append, List.getElem?_cons_zero, List.getElem?_cons_succ, List.set_cons_zero, List.set_cons_succ, Option.map_some, Option.bind_some, Nat.reduceAdd, Nat.reduceSub, Nat.reduceLT, Nat.reduceLeDiff, Nat.reduceEqDiff, Int.reduceToNat, if_true, if_false, Bool.not_true, Bool.not_false, Bool.false_eq_true, List.length_append, Nat.zero_add, String.reduceEq, or_true, true_or, or_false, false_or, and_true, true_and, Nat.add_zero, Int.reduceLT, Int.reduceLE, decide_true, decide_false, decide_eq_true_eq, Int.reduceAdd, Int.reduceSub, Int.reduceMul, Int.reduceNeg, gSumA, zs, ints_map, gMod, eqI, hm])]
        unfold lapT
        rw [← hs2]
        simp [ent, entD, runF, runD, runO, oSeq, sRetO, sSeq, sNil, sSet, sSetO, sRet, sRetN, sIf, sDrop, sBreak, sCont, sAppend, sExtend, sSetIx, sAug, sPar, sAsg, sRaise, mVar, mVarZ, mC, mBin, mT, mTAnd, mTOr, mTNot, mAnd, mOr, mNot, mIf, aNil, aCons, newTup, mTup, mFz, newLst, mLst, mCall, mIxO, mLenO, oNone, oSome, mSl, mBinL, mIsi, mFn, mFnK, mFnD, mFnDO, mUn, mItems, mItC, mYes, asB, R.bind, R.go, R.of, R.noBad, FR.to, FRD.to, tgN, tgsN, tgsC, tgT, gI, gIx, gLen, gAbs, gMax2, gMin2, gMin3, gInt, gTuple, gList, gSl, gSlL, gNeg, isT, gIsN, gNotN, gAddA, gMulA, gZip, List.map_cons, List.map_nil, List.length_cons, List.length_nil, List.replicate, List.append_eq, List.cons_append, List.nil_append, List.getElem?_cons_zero, List.getElem?_cons_succ, List.set_cons_zero, List.set_cons_succ, Option.map_some, Option.bind_some, Nat.reduceAdd, Nat.reduceSub, Nat.reduceLT, Nat.reduceLeDiff, Nat.reduceEqDiff, Int.reduceToNat, if_true, if_false, Bool.not_true, Bool.not_false, Bool.false_eq_true, List.length_append, Nat.zero_add, String.reduceEq, or_true, true_or, or_false, false_or, and_true, true_and, Nat.add_zero, Int.reduceLT, Int.reduceLE, decide_true, decide_false, decide_eq_true_eq, Int.reduceAdd, Int.reduceSub, Int.reduceMul, Int.reduceNeg, ix1, p1, p2, q1, q2]
  obtain ⟨y5, y6, y7, hy⟩ := loop (comb n k) (fun _ h => h) 0 .un .un .un
  have ho := others_ok (n := n) (U := U) (G := gridD n M) (x3 := .un) (x4 := .un) (x5 := .un) (x6 := .un) (x7 := .un) hn
  unfold F_by_rows m_by_rows runF
  rw [show ent 9 [gridD n M, tupI U] = [.va (gridD n M), .va (tupI U), .un, .un, .un, .un, .un, .un, .un] from rfl]
  rw [seq_nx (e := [.va (gridD n M), .va (tupI U), .un, .un, .un, .un, .un, .un, .un]) (by simp [ent, entD, runF, runD, runO, oSeq, sRetO, sSeq, sNil, sSet, sSetO, sRet, sRetN, sIf, sDrop, sBreak, sCont, sAppend, sExtend, sSetIx, sAug, sPar, sAsg, sRaise, mVar, mVarZ, mC, mBin, mT, mTAnd, mTOr, mTNot, mAnd, mOr, mNot, mIf, aNil, aCons, newTup, mTup, mFz, newLst, mLst, mCall, mIxO, mLenO, oNone, oSome, mSl, mBinL, mIsi, mFn, mFnK, mFnD, mFnDO, mUn, mItems, mItC, mYes, asB, R.bind, R.go, R.of, R.noBad, FR.to, FRD.to, tgN, tgsN, tgsC, tgT, gI, gIx, gLen, gAbs, gMax2, gMin2, gMin3, gInt, gTuple, gList, gSl, gSlL, gNeg, isT, gIsN, gNotN, gAddA, gMulA, gZip, List.map_cons, List.map_nil, List.length_cons, List.length_nil, List.replicate, List.append_eq, List.cons_append, List.nil_append, List.getElem?_cons_zero, List.getElem?_cons_succ, List.set_cons_zero, List.set_cons_succ, Option.map_some, Option.bind_some, Nat.reduceAdd, Nat.reduceSub, Nat.reduceLT, Nat.reduceLeDiff, Nat.reduceEqDiff, Int.reduceToNat, if_true, if_false, Bool.not_true, Bool.not_false, Bool.false_eq_true, List.length_append, Nat.zero_add, String.reduceEq, or_true, true_or, or_false, false_or, and_true, true_and, Nat.add_zero, Int.reduceLT, Int.reduceLE, decide_true, decide_false, decide_eq_true_eq, Int.reduceAdd, Int.reduceSub, Int.reduceMul, Int.reduceNeg, e0])]
  rw [seq_nx (e := [.va (gridD n M), .va (tupI U), .va (.int n), .un, .un, .un, .un, .un, .un]) (by simp [ent, entD, runF, runD, runO, oSeq, sRetO, sSeq, sNil, sSet, sSetO, sRet, sRetN, sIf, sDrop, sBreak, sCont, sAppend, sExtend, sSetIx, sAug, sPar, sAsg, sRaise, mVar, mVarZ, mC, mBin, mT, mTAnd, mTOr, mTNot, mAnd, mOr, mNot, mIf, aNil, aCons, newTup, mTup, mFz, newLst, mLst, mCall, mIxO, mLenO, oNone, oSome, mSl, mBinL, mIsi, mFn, mFnK, mFnD, mFnDO, mUn, mItems, mItC, mYes, asB, R.bind, R.go, R.of, R.noBad, FR.to, FRD.to, tgN, tgsN, tgsC, tgT, gI, gIx, gLen, gAbs, gMax2, gMin2, gMin3, gInt, gTuple, gList, gSl, gSlL, gNeg, isT, gIsN, gNotN, gAddA, gMulA, gZip, List.map_cons, List.map_nil, List.length_cons, List.length_nil, List.replicate, List.append_eq, List.cons_append, List.nil_append, List.getElem?_cons_zero, List.getElem?_cons_succ, List.set_cons_zero, List.set_cons_succ, Option.map_some, Option.bind_some, Nat.reduceAdd, Nat.reduceSub, Nat.reduceLT, Nat.reduceLeDiff, Nat.reduceEqDiff, Int.reduceToNat, if_true, if_false, Bool.not_true, Bool.not_false, Bool.false_eq_true, List.length_append, Nat.zero_add, String.reduceEq, or_true, true_or, or_false, false_or, and_true, true_and, Nat.add_zero, Int.reduceLT, Int.reduceLE, decide_true, decide_false, decide_eq_true_eq, Int.reduceAdd, Int.reduceSub, Int.reduceMul, Int.reduceNeg, ix0])]
  rw [seq_nx (e := [.va (gridD n M), .va (tupI U), .va (.int n), .un, .un, .un, .un, .un, .un]) (by simp [ent, entD, runF, runD, runO, oSeq, sRetO, sSeq, sNil, sSet, sSetO, sRet, sRetN, sIf, sDrop, sBreak, sCont, sAppend, sExtend, sSetIx, sAug, sPar, sAsg, sRaise, mVar, mVarZ, mC, mBin, mT, mTAnd, mTOr, mTNot, mAnd, mOr, mNot, mIf, aNil, aCons, newTup, mTup, mFz, newLst, mLst, mCall, mIxO, mLenO, oNone, oSome, mSl, mBinL, mIsi, mFn, mFnK, mFnD, mFnDO, mUn, mItems, mItC, mYes, asB, R.bind, R.go, R.of, R.noBad, FR.to, FRD.to, tgN, tgsN, tgsC, tgT, gI, gIx, gLen, gAbs, gMax2, gMin2, gMin3, gInt, gTuple, gList, gSl, gSlL, gNeg, isT, gIsN, gNotN, gAddA, gMulA, gZip, List.map_cons, List.map_nil, List.length_cons, List.length_nil, List.replicate, List.append_eq, List.cons_append, List.nil_append, List.getElem?_cons_zero, List.getElem?_cons_succ, List.set_cons_zero, List.set_cons_succ, Option.map_some, Option.bind_some, Nat.reduceAdd, Nat.reduceSub, Nat.reduceLT, Nat.reduceLeDiff, Nat.reduceEqDiff, Int.reduceToNat, if_true, if_false, Bool.not_true, Bool.not_false, Bool.false_eq_true, List.length_append, Nat.zero_add, String.reduceEq, or_true, true_or, or_false, false_or, and_true, true_and, Nat.add_zero, Int.reduceLT, Int.reduceLE, decide_true, decide_false, decide_eq_true_eq, Int.reduceAdd, Int.reduceSub, Int.reduceMul, Int.reduceNeg, e1])]
  rw [seq_nx (e := [.va (gridD n M), .va (tupI U), .va (.int n), .va (tupI (nin n U)), .un, .un, .un, .un, .un]) (by simp only [sSet, mCall, aCons, aNil, mFz, ho, R.bind, gTuple, R.of, R.go, List.set_cons_succ, List.set_cons_zero])]
  rw [seq_nx (e := [.va (gridD n M), .va (tupI U), .va (.int n), .va (tupI (nin n U)), .va (.int 0), .un, .un, .un, .un]) (by simp [ent, entD, runF, runD, runO, oSeq, sRetO, sSeq, sNil, sSet, sSetO, sRet, sRetN, sIf, sDrop, sBreak, sCont, sAppend, sExtend, sSetIx, sAug, sPar, sAsg, sRaise, mVar, mVarZ, mC, mBin, mT, mTAnd, mTOr, mTNot, mAnd, mOr, mNot, mIf, aNil, aCons, newTup, mTup, mFz, newLst, mLst, mCall, mIxO, mLenO, oNone, oSome, mSl, mBinL, mIsi, mFn, mFnK, mFnD, mFnDO, mUn, mItems, mItC, mYes, asB, R.bind, R.go, R.of, R.noBad, FR.to, FRD.to, tgN, tgsN, tgsC, tgT, gI, gIx, gLen, gAbs, gMax2, gMin2, gMin3, gInt, gTuple, gList, gSl, gSlL, gNeg, isT, gIsN, gNotN, gAddA, gMulA, gZip, List.map_cons, List.map_nil, List.length_cons, List.length_nil, List.replicate, List.append_eq, List.cons_append, List.nil_append, List.getElem?_cons_zero, List.getElem?_cons_succ, List.set_cons_zero, List.set_cons_succ, Option.map_some, Option.bind_some, Nat.reduceAdd, Nat.reduceSub, Nat.reduceLT, Nat.reduceLeDiff, Nat.reduceEqDiff, Int.reduceToNat, if_true, if_false, Bool.not_true, Bool.not_false, Bool.false_eq_true, List.length_append, Nat.zero_add, String.reduceEq, or_true, true_or, or_false, false_or, and_true, true_and, Nat.add_zero, Int.reduceLT, Int.reduceLE, decide_true, decide_false, decide_eq_true_eq, Int.reduceAdd, Int.reduceSub, Int.reduceMul, Int.reduceNeg])]
  rw [seq_nx (by unfold sFor; rw [show mItems (mFn 2 F_chosen (aCons (mVar 2) (aCons (mCall gLen (aCons (mVar 1) aNil)) aNil))) [.va (gridD n M), .va (tupI U), .va (.int n), .va (tupI (nin n U)), .va (.int 0), .un, .un, .un, .un] = .ok ((comb n k).map tupI) [.va (gridD n M), .va (tupI U), .va (.int n), .va (tupI (nin n U)), .va (.int 0), .un, .un, .un, .un] by simp [ent, entD, runF, runD, runO, oSeq, sRetO, sSeq, sNil, sSet, sSetO, sRet, sRetN, sIf, sDrop, sBreak, sCont, sAppend, sExtend, sSetIx, sAug, sPar, sAsg, sRaise, mVar, mVarZ, mC, mBin, mT, mTAnd, mTOr, mTNot, mAnd, mOr, mNot, mIf, aNil, aCons, newTup, mTup, mFz, newLst, mLst, mCall, mIxO, mLenO, oNone, oSome, mSl, mBinL, mIsi, mFn, mFnK, mFnD, mFnDO, mUn, mItems, mItC, mYes, asB, R.bind, R.go, R.of, R.noBad, FR.to, FRD.to, tgN, tgsN, tgsC, tgT, gI, gIx, gLen, gAbs, gMax2, gMin2, gMin3, gInt, gTuple, gList, gSl, gSlL, gNeg, isT, gIsN, gNotN, gAddA, gMulA, gZip, List.map_cons, List.map_nil, List.length_cons, List.length_nil, List.replicate, List.append_eq, List.cons_append, List.nil_append, List.getElem?_cons_zero, List.getElem?_cons_succ, List.set_cons_zero, List.set_cons_succ, Option.map_some, Option.bind_some, Nat.reduceAdd, Nat.reduceSub, Nat.reduceLT, Nat.reduceLeDiff, Nat.reduceEqDiff, Int.reduceToNat, if_true, if_false, Bool.not_true, Bool.not_false, Bool.false_eq_true, List.length_append, Nat.zero_add, String.reduceEq, or_true, true_or, or_false, false_or, and_true, true_and, Nat.add_zero, Int.reduceLT, Int.reduceLE, decide_true, decide_false, decide_eq_true_eq, Int.reduceAdd, Int.reduceSub, Int.reduceMul, Int.reduceNeg, cU.len, e2]]; exact hy)]
  have := laplace h1 hn hl h.len hk hU
  simp [ent, entD, runF, runD, runO, oSeq, sRetO, sSeq, sNil, sSet, sSetO, sRet, sRetN, sIf, sDrop, sBreak, sCont, sAppend, sExtend, sSetIx, sAug, sPar, sAsg, sRaise, mVar, mVarZ, mC, mBin, mT, mTAnd, mTOr, mTNot, mAnd, mOr, mNot, mIf, aNil, aCons, newTup, mTup, mFz, newLst, mLst, mCall, mIxO, mLenO, oNone, oSome, mSl, mBinL, mIsi, mFn, mFnK, mFnD, mFnDO, mUn, mItems, mItC, mYes, asB, R.bind, R.go, R.of, R.noBad, FR.to, FRD.to, tgN, tgsN, tgsC, tgT, gI, gIx, gLen, gAbs, gMax2, gMin2, gMin3, gInt, gTuple, gList, gSl, gSlL, gNeg, isT, gIsN, gNotN, gAddA, gMulA, gZip, List.map_cons, List.map_nil, List.length_cons, List.length_nil, List.replicate, List.append_eq, List.cons_append, List.nil_append, List.getElem?_cons_zero, List.getElem?_cons_succ, List.set_cons_zero, List.set_cons_succ, Option.map_some, Option.bind_some, Nat.reduceAdd, Nat.reduceSub, Nat.reduceLT, Nat.reduceLeDiff, Nat.reduceEqDiff, Int.reduceToNat, if_true, if_false, Bool.not_true, Bool.not_false, Bool.false_eq_true, List.length_append, Nat.zero_add, String.reduceEq, or_true, true_or, or_false, false_or, and_true, true_and, Nat.add_zero, Int.reduceLT, Int.reduceLE, decide_true, decide_false, decide_eq_true_eq, Int.reduceAdd, Int.reduceSub, Int.reduceMul, Int.reduceNeg, this]
end Y

set_option Elab.async false
set_option linter.all false
set_option maxRecDepth 100000
set_option maxHeartbeats 4000000
namespace Y
open PySem PySem.Spec PyProof.Rows L2
theorem need_sums_ok {n w : Nat} {M : List (List Int)} {sums : List Int} (hl : M.length = n) (hn : n ≤ 3) (ls : sums.length = n) (hb : ∀ x ∈ sums, -1000000 ≤ x ∧ x ≤ 1000000) : F_need_sums [tupI sums, gridD w M] = .ok .non := by
  have := row_of_ok (r := sums) (w := n) ls (by omega) hb
  simp [F_need_sums, m_need_sums, ent, entD, runF, runD, runO, oSeq, sRetO, sSeq, sNil, sSet, sSetO, sRet, sRetN, sIf, sDrop, sBreak, sCont, sAppend, sExtend, sSetIx, sAug, sPar, sAsg, sRaise, mVar, mVarZ, mC, mBin, mT, mTAnd, mTOr, mTNot, mAnd, mOr, mNot, mIf, aNil, aCons, newTup, mTup, mFz, newLst, mLst, mCall, mIxO, mLenO, oNone, oSome, mSl, mBinL, mIsi, mFn, mFnK, mFnD, mFnDO, mUn, mItems, mItC, mYes, asB, R.bind, R.go, R.of, R.noBad, FR.to, FRD.to, tgN, tgsN, tgsC, tgT, gI, gIx, gLen, gAbs, gMax2, gMin2, gMin3, gInt, gTuple, gList, gSl, gSlL, gNeg, isT, gIsN, gNotN, gAddA, gMulA, gZip, List.map_cons, List.map_nil, List.length_cons, List.length_nil, List.replicate, List.append_eq, List.cons_append, List.nil_append, List.getElem?_cons_zero, List.getElem?_cons_succ, List.set_cons_zero, List.set_cons_succ, Option.map_some, Option.bind_some, Nat.reduceAdd, Nat.reduceSub, Nat.reduceLT, Nat.reduceLeDiff, Nat.reduceEqDiff, Int.reduceToNat, if_true, if_false, Bool.not_true, Bool.not_false, Bool.false_eq_true, List.length_append, Nat.zero_add, String.reduceEq, or_true, true_or, or_false, false_or, and_true, true_and, Nat.add_zero, Int.reduceLT, Int.reduceLE, decide_true, decide_false, decide_eq_true_eq, Int.reduceAdd, Int.reduceSub, Int.reduceMul, Int.reduceNeg, ix1, hl, this]
theorem pair_ok {r sums : List Int} {x0 x2 x3 : _} (hr : ∀ x ∈ r, Bd 20 x) (hs : ∀ x ∈ sums, Bd 20 x) (hl : r.length ≤ 1000) : c_by_cofactors_2 [x0, .va (tupI sums), x2, x3, .va (tupI r), .un, .un] = .ok (zs ((r.zip sums).map fun q => q.1 * q.2)) [x0, .va (tupI sums), x2, x3, .va (tupI r), .un, .un] := by
  unfold c_by_cofactors_2
  rw [mLc_zip (xs := zs r) (ys := zs sums) (f := fun a b => match a, b with | .int i, .int j => .int (i * j) | _, _ => .non) (by decide)]
  · rw [zs_zip, List.map_map, zs, List.map_map]
    rfl
  · simp [ent, entD, runF, runD, runO, oSeq, sRetO, sSeq, sNil, sSet, sSetO, sRet, sRetN, sIf, sDrop, sBreak, sCont, sAppend, sExtend, sSetIx, sAug, sPar, sAsg, sRaise, mVar, mVarZ, mC, mBin, mT, mTAnd, mTOr, mTNot, mAnd, mOr, mNot, mIf, aNil, aCons, newTup, mTup, mFz, newLst, mLst, mCall, mIxO, mLenO, oNone, oSome, mSl, mBinL, mIsi, mFn, mFnK, mFnD, mFnDO, mUn, mItems, mItC, mYes, asB, R.bind, R.go, R.of, R.noBad, FR.to, FRD.to, tgN, tgsN, tgsC, tgT, gI, gIx, gLen, gAbs, gMax2, gMin2, gMin3, gInt, gTuple, gList, gSl, gSlL, gNeg, isT, gIsN, gNotN, gAddA, gMulA, gZip, List.map_cons, List.map_nil, List.length_cons, List.length_nil, List.replicate, List.append_eq, List.cons_append, List.nil_append, List.getElem?_cons_zero, List.getElem?_cons_succ, List.set_cons_zero, List.set_cons_succ, Option.map_some, Option.bind_some, Nat.reduceAdd, Nat.reduceSub, Nat.reduceLT, Nat.reduceLeDiff, Nat.reduceEqDiff, Int.reduceToNat, if_true, if_false, Bool.not_true, Bool.not_false, Bool.false_eq_true, List.length_append, Nat.zero_add, String.reduceEq, or_true, true_or, or_false, false_or, and_true, true_and, Nat.add_zero, Int.reduceLT, Int.reduceLE, decide_true, decide_false, decide_eq_true_eq, Int.reduceAdd, Int.reduceSub, Int.reduceMul, Int.reduceNeg]
  · simp [big_eq]; omega
  · intro q hq
    rw [zs_zip] at hq
    obtain ⟨p, hp, rfl⟩ := List.mem_map.1 hq
    have := (hr _ (List.of_mem_zip hp).1).ok (hs _ (List.of_mem_zip hp).2) (by decide) (by decide)
    simp [ent, entD, runF, runD, runO, oSeq, sRetO, sSeq, sNil, sSet, sSetO, sRet, sRetN, sIf, sDrop, sBreak, sCont, sAppend, sExtend, sSetIx, sAug, sPar, sAsg, sRaise, mVar, mVarZ, mC, mBin, mT, mTAnd, mTOr, mTNot, mAnd, mOr, mNot, mIf, aNil, aCons, newTup, mTup, mFz, newLst, mLst, mCall, mIxO, mLenO, oNone, oSome, mSl, mBinL, mIsi, mFn, mFnK, mFnD, mFnDO, mUn, mItems, mItC, mYes, asB, R.bind, R.go, R.of, R.noBad, FR.to, FRD.to, tgN, tgsN, tgsC, tgT, gI, gIx, gLen, gAbs, gMax2, gMin2, gMin3, gInt, gTuple, gList, gSl, gSlL, gNeg, isT, gIsN, gNotN, gAddA, gMulA, gZip, List.map_cons, List.map_nil, List.length_cons, List.length_nil, List.replicate, List.append_eq, List.cons_append, List.nil_append, List.getElem?_cons_zero, List.getElem?_cons_succ, List.set_cons_zero, List.set_cons_succ, Option.map_some, Option.bind_some, Nat.reduceAdd, Nat.reduceSub, Nat.reduceLT, Nat.reduceLeDiff, Nat.reduceEqDiff, Int.reduceToNat, if_true, if_false, Bool.not_true, Bool.not_false, Bool.false_eq_true, List.length_append, Nat.zero_add, String.reduceEq, or_true, true_or, or_false, false_or, and_true, true_and, Nat.add_zero, Int.reduceLT, Int.reduceLE, decide_true, decide_false, decide_eq_true_eq, Int.reduceAdd, Int.reduceSub, Int.reduceMul, Int.reduceNeg, this]
/-- what by_cofactors is given -/
structure Sys (n : Nat) (M : List (List Int)) (sums : List Int) : Prop where
  n1 : 1 ≤ n
  n3 : n ≤ 3
  rows : Rows n 3 M
  hl : M.length = n
  ls : sums.length = n
  bs : ∀ x ∈ sums, -4 ≤ x ∧ x ≤ 4
section
variable {n : Nat} {M : List (List Int)} {sums : List Int} (h : Sys n M sums)
include h
theorem Sys.mb : ∀ r ∈ M, ∀ x ∈ r, Bd 2 x := fun r hr x hx => by
  have := h.rows.le r hr x hx
  unfold Bd
  omega
theorem Sys.sb : ∀ x ∈ sums, Bd 3 x := fun x hx => by
  have := h.bs x hx
  unfold Bd
  omega
theorem Sys.rows6 : Rows n 1000000 M := ⟨h.rows.len, fun r hr x hx => by have := h.rows.le r hr x hx; omega⟩
theorem Sys.sq : Sq n M := ⟨h.hl, h.rows.len⟩
theorem Sys.det_bd : Bd 11 (det M) := det_bdb h.n3 h.sq h.mb
theorem Sys.dot_bd {r : List Int} (hr : r ∈ adj M n) : Bd 16 (dot r sums) := by
  have := adj_bd h.n3 h.mb r hr
  exact Y.dot_bd h.n3 this.1 h.ls this.2 h.sb
theorem Sys.whole : F_determinant [tupM M] = .ok (.int (det M)) := bar_det (.inr rfl) h.n3 h.sq fun r hr x hx => (h.mb r hr x hx).mono (by decide)
theorem bycof_zero (hd : det M = 0) : F_by_cofactors [gridD n M, tupI sums] = .ok .non := by
  have e1 := cofactors_ok h.n1 h.n3 h.rows6 h.hl
  have e2 := need_sums_ok (w := n) h.hl h.n3 h.ls (fun x hx => by have := h.bs x hx; omega)
  have e3 := h.whole
  rw [hd] at e3
  simp [F_by_cofactors, m_by_cofactors, ent, entD, runF, runD, runO, oSeq, sRetO, sSeq, sNil, sSet, sSetO, sRet, sRetN, sIf, sDrop, sBreak, sCont, sAppend, sExtend, sSetIx, sAug, sPar, sAsg, sRaise, mVar, mVarZ, mC, mBin, mT, mTAnd, mTOr, mTNot, mAnd, mOr, mNot, mIf, aNil, aCons, newTup, mTup, mFz, newLst, mLst, mCall, mIxO, mLenO, oNone, oSome, mSl, mBinL, mIsi, mFn, mFnK, mFnD, mFnDO, mUn, mItems, mItC, mYes, asB, R.bind, R.go, R.of, R.noBad, FR.to, FRD.to, tgN, tgsN, tgsC, tgT, gI, gIx, gLen, gAbs, gMax2, gMin2, gMin3, gInt, gTuple, gList, gSl, gSlL, gNeg, isT, gIsN, gNotN, gAddA, gMulA, gZip, List.map_cons, List.map_nil, List.length_cons, List.length_nil, List.replicate, List.append_eq, List.cons_append, List.nil_append, List.getElem?_cons_zero, List.getElem?_cons_succ, List.set_cons_zero, List.set_cons_succ, Option.map_some, Option.bind_some, Nat.reduceAdd, Nat.reduceSub, Nat.reduceLT, Nat.reduceLeDiff, Nat.reduceEqDiff, Int.reduceToNat, if_true, if_false, Bool.not_true, Bool.not_false, Bool.false_eq_true, List.length_append, Nat.zero_add, String.reduceEq, or_true, true_or, or_false, false_or, and_true, true_and, Nat.add_zero, Int.reduceLT, Int.reduceLE, decide_true, decide_false, decide_eq_true_eq, Int.reduceAdd, Int.reduceSub, Int.reduceMul, Int.reduceNeg, e1, e2, e3, ix1, eqI]
theorem bycof_ok (hd : det M ≠ 0) : F_by_cofactors [gridD n M, tupI sums] = .ok (.tup ((adj M n).map fun r => ratD (dot r sums) (det M))) := by
  have e1 := cofactors_ok h.n1 h.n3 h.rows6 h.hl
  have e2 := need_sums_ok (w := n) h.hl h.n3 h.ls (fun x hx => by have := h.bs x hx; omega)
  have e3 := h.whole
  have c1 : c_by_cofactors_1 [.va (gridD n M), .va (tupI sums), .va (tupM (adj M n)), .va (.int (det M)), .un, .un, .un] = .ok ((adj M n).map fun r => ratD (dot r sums) (det M)) [.va (gridD n M), .va (tupI sums), .va (tupM (adj M n)), .va (.int (det M)), .un, .un, .un] := by
    unfold c_by_cofactors_1
    rw [mLc_map (ds := (adj M n).map tupI) (f := fun d => match d with | .tup l => (match intsO l with | some r => ratD (dot r sums) (det M) | none => .non) | d => d)]
    · rw [List.map_map]
      congr 1
      apply List.map_congr_left
      intro r hr
      simp [zs, ints_map]
    · simp [ent, entD, runF, runD, runO, oSeq, sRetO, sSeq, sNil, sSet, sSetO, sRet, sRetN, sIf, sDrop, sBreak, sCont, sAppend, sExtend, sSetIx, sAug, sPar, sAsg, sRaise, mVar, mVarZ, mC, mBin, mT, mTAnd, mTOr, mTNot, mAnd, mOr, mNot, mIf, aNil, aCons, newTup, mTup, mFz, newLst, mLst, mCall, mIxO, mLenO, oNone, oSome, mSl, mBinL, mIsi, mFn, mFnK, mFnD, mFnDO, mUn, mItems, mItC, mYes, asB, R.bind, R.go, R.of, R.noBad, FR.to, FRD.to, tgN, tgsN, tgsC, tgT, gI, gIx, gLen, gAbs, gMax2, gMin2, gMin3, gInt, gTuple, gList, gSl, gSlL, gNeg, isT, gIsN, gNotN, gAddA, gMulA, gZip, List.map_cons, List.map_nil, List.length_cons, List.length_nil, List.replicate, List.append_eq, List.cons_append, List.nil_append, List.getElem?_cons_zero, List.getElem?_cons_succ, List.set_cons_zero, List.set_cons_succ, Option.map_some, Option.bind_some, Nat.reduceAdd, Nat.reduceSub, Nat.reduceLT, Nat.reduceLeDiff, Nat.reduceEqDiff, Int.reduceToNat, if_true, if_false, Bool.not_true, Bool.not_false, Bool.false_eq_true, List.length_append, Nat.zero_add, String.reduceEq, or_true, true_or, or_false, false_or, and_true, true_and, Nat.add_zero, Int.reduceLT, Int.reduceLE, decide_true, decide_false, decide_eq_true_eq, Int.reduceAdd, Int.reduceSub, Int.reduceMul, Int.reduceNeg]
    · have : (adj M n).length = n := by simp [adj]
      have := h.n3
      simp [big_eq]; omega
    · intro d hd2
      obtain ⟨r, hr, rfl⟩ := List.mem_map.1 hd2
      have hb := adj_bd h.n3 h.mb r hr
      have p1 := pair_ok (r := r) (sums := sums) (x0 := .va (gridD n M)) (x2 := .va (tupM (adj M n))) (x3 := .va (.int (det M))) (fun x hx => (hb.2 x hx).mono (by decide)) (fun x hx => (h.sb x hx).mono (by decide)) (by have := h.n3; rw [hb.1]; omega)
      have p2 := (ratio_ok (a := dot r sums) hd (h.det_bd.mono (by decide))).1
      have p3 : ((r.zip sums).map fun q => q.1 * q.2).sum = dot r sums := rfl
      simp only [List.set_cons_succ, List.set_cons_zero, mFn, mCall, aCons, aNil, mFz, mVar, p1, R.bind, gSumA, zs, ints_map, Option.map_some, R.of, p3, List.getElem?_cons_succ, List.getElem?_cons_zero, FR.to, p2, List.length_cons, List.length_nil, Nat.zero_add, Nat.reduceAdd, if_true]
  unfold F_by_cofactors m_by_cofactors runF
  rw [show ent 7 [gridD n M, tupI sums] = [.va (gridD n M), .va (tupI sums), .un, .un, .un, .un, .un] from rfl]
  rw [seq_nx (e := [.va (gridD n M), .va (tupI sums), .va (tupM (adj M n)), .un, .un, .un, .un]) (by simp [ent, entD, runF, runD, runO, oSeq, sRetO, sSeq, sNil, sSet, sSetO, sRet, sRetN, sIf, sDrop, sBreak, sCont, sAppend, sExtend, sSetIx, sAug, sPar, sAsg, sRaise, mVar, mVarZ, mC, mBin, mT, mTAnd, mTOr, mTNot, mAnd, mOr, mNot, mIf, aNil, aCons, newTup, mTup, mFz, newLst, mLst, mCall, mIxO, mLenO, oNone, oSome, mSl, mBinL, mIsi, mFn, mFnK, mFnD, mFnDO, mUn, mItems, mItC, mYes, asB, R.bind, R.go, R.of, R.noBad, FR.to, FRD.to, tgN, tgsN, tgsC, tgT, gI, gIx, gLen, gAbs, gMax2, gMin2, gMin3, gInt, gTuple, gList, gSl, gSlL, gNeg, isT, gIsN, gNotN, gAddA, gMulA, gZip, List.map_cons, List.map_nil, List.length_cons, List.length_nil, List.replicate, List.append_eq, List.cons_append, List.nil_append, List.getElem?_cons_zero, List.getElem?_cons_succ, List.set_cons_zero, List.set_cons_succ, Option.map_some, Option.bind_some, Nat.reduceAdd, Nat.reduceSub, Nat.reduceLT, Nat.reduceLeDiff, Nat.reduceEqDiff, Int.reduceToNat, if_true, if_false, Bool.not_true, Bool.not_false, Bool.false_eq_true, List.length_append, Nat.zero_add, String.reduceEq, or_true, true_or, or_false, false_or, and_true, true_and, Nat.add_zero, Int.reduceLT, Int.reduceLE, decide_true, decide_false, decide_eq_true_eq, Int.reduceAdd, Int.reduceSub, Int.reduceMul, Int.reduceNeg, e1])]
  rw [seq_nx (e := [.va (gridD n M), .va (tupI sums), .va (tupM (adj M n)), .un, .un, .un, .un]) (by simp [ent, entD, runF, runD, runO, oSeq, sRetO, sSeq, sNil, sSet, sSetO, sRet, sRetN, sIf, sDrop, sBreak, sCont, sAppend, sExtend, sSetIx, sAug, sPar, sAsg, sRaise, mVar, mVarZ, mC, mBin, mT, mTAnd, mTOr, mTNot, mAnd, mOr, mNot, mIf, aNil, aCons, newTup, mTup, mFz, newLst, mLst, mCall, mIxO, mLenO, oNone, oSome, mSl, mBinL, mIsi, mFn, mFnK, mFnD, mFnDO, mUn, mItems, mItC, mYes, asB, R.bind, R.go, R.of, R.noBad, FR.to, FRD.to, tgN, tgsN, tgsC, tgT, gI, gIx, gLen, gAbs, gMax2, gMin2, gMin3, gInt, gTuple, gList, gSl, gSlL, gNeg, isT, gIsN, gNotN, gAddA, gMulA, gZip, List.map_cons, List.map_nil, List.length_cons, List.length_nil, List.replicate, List.append_eq, List.cons_append, List.nil_append, List.getElem?_cons_zero, List.getElem?_cons_succ, List.set_cons_zero, List.set_cons_succ, Option.map_some, Option.bind_some, Nat.reduceAdd, Nat.reduceSub, Nat.reduceLT, Nat.reduceLeDiff, Nat.reduceEqDiff, Int.reduceToNat, if_true, if_false, Bool.not_true, Bool.not_false, Bool.false_eq_true, List.length_append, Nat.zero_add, String.reduceEq, or_true, true_or, or_false, false_or, and_true, true_and, Nat.add_zero, Int.reduceLT, Int.reduceLE, decide_true, decide_false, decide_eq_true_eq, Int.reduceAdd, Int.reduceSub, Int.reduceMul, Int.reduceNeg, e2])]
  rw [seq_nx (e := [.va (gridD n M), .va (tupI sums), .va (tupM (adj M n)), .va (.int (det M)), .un, .un, .un]) (by simp [ent, entD, runF, runD, runO, oSeq, sRetO, sSeq, sNil, sSet, sSetO, sRet, sRetN, sIf, sDrop, sBreak, sCont, sAppend, sExtend, sSetIx, sAug, sPar, sAsg, sRaise, mVar, mVarZ, mC, mBin, mT, mTAnd, mTOr, mTNot, mAnd, mOr, mNot, mIf, aNil, aCons, newTup, mTup, mFz, newLst, mLst, mCall, mIxO, mLenO, oNone, oSome, mSl, mBinL, mIsi, mFn, mFnK, mFnD, mFnDO, mUn, mItems, mItC, mYes, asB, R.bind, R.go, R.of, R.noBad, FR.to, FRD.to, tgN, tgsN, tgsC, tgT, gI, gIx, gLen, gAbs, gMax2, gMin2, gMin3, gInt, gTuple, gList, gSl, gSlL, gNeg, isT, gIsN, gNotN, gAddA, gMulA, gZip, List.map_cons, List.map_nil, List.length_cons, List.length_nil, List.replicate, List.append_eq, List.cons_append, List.nil_append, List.getElem?_cons_zero, List.getElem?_cons_succ, List.set_cons_zero, List.set_cons_succ, Option.map_some, Option.bind_some, Nat.reduceAdd, Nat.reduceSub, Nat.reduceLT, Nat.reduceLeDiff, Nat.reduceEqDiff, Int.reduceToNat, if_true, if_false, Bool.not_true, Bool.not_false, Bool.false_eq_true, List.length_append, Nat.zero_add, String.reduceEq, or_true, true_or, or_false, false_or, and_true, true_and, Nat.add_zero, Int.reduceLT, Int.reduceLE, decide_true, decide_false, decide_eq_true_eq, Int.reduceAdd, Int.reduceSub, Int.reduceMul, Int.reduceNeg, e3, ix1])]
  rw [seq_if_no (e := [.va (gridD n M), .va (tupI sums), .va (tupM (adj M n)), .va (.int (det M)), .un, .un, .un]) (by simp [ent, entD, runF, runD, runO, oSeq, sRetO, sSeq, sNil, sSet, sSetO, sRet, sRetN, sIf, sDrop, sBreak, sCont, sAppend, sExtend, sSetIx, sAug, sPar, sAsg, sRaise, mVar, mVarZ, mC, mBin, mT, mTAnd, mTOr, mTNot, mAnd, mOr, mNot, mIf, aNil, aCons, newTup, mTup, mFz, newLst, mLst, mCall, mIxO, mLenO, oNone, oSome, mSl, mBinL, mIsi, mFn, mFnK, mFnD, mFnDO, mUn, mItems, mItC, mYes, asB, R.bind, R.go, R.of, R.noBad, FR.to, FRD.to, tgN, tgsN, tgsC, tgT, gI, gIx, gLen, gAbs, gMax2, gMin2, gMin3, gInt, gTuple, gList, gSl, gSlL, gNeg, isT, gIsN, gNotN, gAddA, gMulA, gZip, List.map_cons, List.map_nil, List.length_cons, List.length_nil, List.replicate, List.append_eq, List.cons_append, List.nil_append, List.getElem?_cons_zero, List.getElem?_cons_succ, List.set_cons_zero, List.set_cons_succ, Option.map_some, Option.bind_some, Nat.reduceAdd, Nat.reduceSub, Nat.reduceLT, Nat.reduceLeDiff, Nat.reduceEqDiff, Int.reduceToNat, if_true, if_false, Bool.not_true, Bool.not_false, Bool.false_eq_true, List.length_append, Nat.zero_add, String.reduceEq, or_true, true_or, or_false, false_or, and_true, true_and, Nat.add_zero, Int.reduceLT, Int.reduceLE, decide_true, decide_false, decide_eq_true_eq, Int.reduceAdd, Int.reduceSub, Int.reduceMul, Int.reduceNeg, eqI, hd])]
  simp only [sRet, mCall, aCons, aNil, mFz, c1, R.bind, gTuple, R.of, R.go]
theorem mix_fin (hd : det M ≠ 0) : ∀ q ∈ M.zip sums, F__law_mix [tupI q.1, .tup ((adj M n).map fun r => ratD (dot r sums) (det M))] = .ok (.tup [.int q.2, .int 1]) := by
  intro q hq
  have hq1 : q.1 ∈ M := (List.of_mem_zip hq).1
  have hs := adj_sums h.n1 h.n3 h.hl h.rows.len h.ls q hq
  have ln : q.1.length = n := h.rows.len _ hq1
  have la : (adj M n).length = n := by simp [adj]
  have n1 := h.n1
  have n3 := h.n3
  obtain ⟨p', q', t3, t4, h1, h2, h3, h4⟩ := mix_loop (W := det M) (A := .va (tupI q.1)) (B := .va (.tup ((adj M n).map fun r => ratD (dot r sums) (det M)))) ((q.1.zip (adj M n)).map fun z => (z.1, (ratP (dot z.2 sums) (det M)).1, (ratP (dot z.2 sums) (det M)).2, dot z.2 sums)) 0 0 1 0 .un .un (by simp; omega) (by decide) (by simp) (by decide) (by decide) (by simp) (by
    intro z hz
    obtain ⟨y, hy, rfl⟩ := List.mem_map.1 hz
    have a1 := (List.of_mem_zip hy).1
    have a2 := (List.of_mem_zip hy).2
    have L := (ratio_ok (a := dot y.2 sums) hd (h.det_bd.mono (by decide))).2
    have d1 := (h.dot_bd a2).mono (by decide : 16 ≤ 20)
    have d2 := h.det_bd.mono (by decide : 11 ≤ 12)
    exact ⟨L.pos, L.eq, (h.mb _ hq1 _ a1).mono (by decide), Nat.lt_of_le_of_lt L.lx d1, Nat.lt_of_le_of_lt L.ly d2⟩)
  have hn0 : (0 + ((q.1.zip (adj M n)).map fun z => (z.1, (ratP (dot z.2 sums) (det M)).1, (ratP (dot z.2 sums) (det M)).2, dot z.2 sums)).length) ≠ 0 := by rw [List.length_map, List.length_zip, ln, la]; omega
  have hsum : (((q.1.zip (adj M n)).map fun z => (z.1, (ratP (dot z.2 sums) (det M)).1, (ratP (dot z.2 sums) (det M)).2, dot z.2 sums)).map fun z => z.1 * z.2.2.2).sum = det M * q.2 := by
    rw [List.map_map]
    exact hs
  rw [hsum, Int.zero_add] at h3
  obtain ⟨r1, r2⟩ := low_end h2 (h4 hn0) hd h3
  subst r1 r2
  have hz : zipD (zs q.1) ((adj M n).map fun r => ratD (dot r sums) (det M)) = ((q.1.zip (adj M n)).map fun z => (z.1, (ratP (dot z.2 sums) (det M)).1, (ratP (dot z.2 sums) (det M)).2, dot z.2 sums)).map fun z => .tup [.int z.1, .tup [.int z.2.1, .int z.2.2.1]] := by
    unfold zipD zs
    rw [List.zip_map, List.map_map, List.map_map]
    rfl
  unfold F__law_mix m__law_mix runF
  rw [show ent 5 [tupI q.1, .tup ((adj M n).map fun r => ratD (dot r sums) (det M))] = [.va (tupI q.1), .va (.tup ((adj M n).map fun r => ratD (dot r sums) (det M))), .un, .un, .un] from rfl]
  rw [seq_nx (e := [.va (tupI q.1), .va (.tup ((adj M n).map fun r => ratD (dot r sums) (det M))), .va (.tup [.int 0, .int 1]), .un, .un]) (by simp [ent, entD, runF, runD, runO, oSeq, sRetO, sSeq, sNil, sSet, sSetO, sRet, sRetN, sIf, sDrop, sBreak, sCont, sAppend, sExtend, sSetIx, sAug, sPar, sAsg, sRaise, mVar, mVarZ, mC, mBin, mT, mTAnd, mTOr, mTNot, mAnd, mOr, mNot, mIf, aNil, aCons, newTup, mTup, mFz, newLst, mLst, mCall, mIxO, mLenO, oNone, oSome, mSl, mBinL, mIsi, mFn, mFnK, mFnD, mFnDO, mUn, mItems, mItC, mYes, asB, R.bind, R.go, R.of, R.noBad, FR.to, FRD.to, tgN, tgsN, tgsC, tgT, gI, gIx, gLen, gAbs, gMax2, gMin2, gMin3, gInt, gTuple, gList, gSl, gSlL, gNeg, isT, gIsN, gNotN, gAddA, gMulA, gZip, List.map_cons, List.map_nil, List.length_cons, List.length_nil, List.replicate, List.append_eq, List.cons_append, List.nil_append, List.getElem?_cons_zero, List.getElem?_cons_succ, List.set_cons_zero, List.set_cons_succ, Option.map_some, Option.bind_some, Nat.reduceAdd, Nat.reduceSub, Nat.reduceLT, Nat.reduceLeDiff, Nat.reduceEqDiff, Int.reduceToNat, if_true, if_false, Bool.not_true, Bool.not_false, Bool.false_eq_true, List.length_append, Nat.zero_add, String.reduceEq, or_true, true_or, or_false, false_or, and_true, true_and, Nat.add_zero, Int.reduceLT, Int.reduceLE, decide_true, decide_false, decide_eq_true_eq, Int.reduceAdd, Int.reduceSub, Int.reduceMul, Int.reduceNeg, big_eq])]
  rw [seq_nx (by unfold sFor; rw [show mItC gZip (aCons (mVar 0) (aCons (mVar 1) aNil)) [.va (tupI q.1), .va (.tup ((adj M n).map fun r => ratD (dot r sums) (det M))), .va (.tup [.int 0, .int 1]), .un, .un] = .ok (zipD (zs q.1) ((adj M n).map fun r => ratD (dot r sums) (det M))) [.va (tupI q.1), .va (.tup ((adj M n).map fun r => ratD (dot r sums) (det M))), .va (.tup [.int 0, .int 1]), .un, .un] from by simp [ent, entD, runF, runD, runO, oSeq, sRetO, sSeq, sNil, sSet, sSetO, sRet, sRetN, sIf, sDrop, sBreak, sCont, sAppend, sExtend, sSetIx, sAug, sPar, sAsg, sRaise, mVar, mVarZ, mC, mBin, mT, mTAnd, mTOr, mTNot, mAnd, mOr, mNot, mIf, aNil, aCons, newTup, mTup, mFz, newLst, mLst, mCall, mIxO, mLenO, oNone, oSome, mSl, mBinL, mIsi, mFn, mFnK, mFnD, mFnDO, mUn, mItems, mItC, mYes, asB, R.bind, R.go, R.of, R.noBad, FR.to, FRD.to, tgN, tgsN, tgsC, tgT, gI, gIx, gLen, gAbs, gMax2, gMin2, gMin3, gInt, gTuple, gList, gSl, gSlL, gNeg, isT, gIsN, gNotN, gAddA, gMulA, gZip, List.map_cons, List.map_nil, List.length_cons, List.length_nil, List.replicate, List.append_eq, List.cons_append, List.nil_append, List.getElem?_cons_zero, List.getElem?_cons_succ, List.set_cons_zero, List.set_cons_succ, Option.map_some, Option.bind_some, Nat.reduceAdd, Nat.reduceSub, Nat.reduceLT, Nat.reduceLeDiff, Nat.reduceEqDiff, Int.reduceToNat, if_true, if_false, Bool.not_true, Bool.not_false, Bool.false_eq_true, List.length_append, Nat.zero_add, String.reduceEq, or_true, true_or, or_false, false_or, and_true, true_and, Nat.add_zero, Int.reduceLT, Int.reduceLE, decide_true, decide_false, decide_eq_true_eq, Int.reduceAdd, Int.reduceSub, Int.reduceMul, Int.reduceNeg], hz]; exact h1)]
  simp [ent, entD, runF, runD, runO, oSeq, sRetO, sSeq, sNil, sSet, sSetO, sRet, sRetN, sIf, sDrop, sBreak, sCont, sAppend, sExtend, sSetIx, sAug, sPar, sAsg, sRaise, mVar, mVarZ, mC, mBin, mT, mTAnd, mTOr, mTNot, mAnd, mOr, mNot, mIf, aNil, aCons, newTup, mTup, mFz, newLst, mLst, mCall, mIxO, mLenO, oNone, oSome, mSl, mBinL, mIsi, mFn, mFnK, mFnD, mFnDO, mUn, mItems, mItC, mYes, asB, R.bind, R.go, R.of, R.noBad, FR.to, FRD.to, tgN, tgsN, tgsC, tgT, gI, gIx, gLen, gAbs, gMax2, gMin2, gMin3, gInt, gTuple, gList, gSl, gSlL, gNeg, isT, gIsN, gNotN, gAddA, gMulA, gZip, List.map_cons, List.map_nil, List.length_cons, List.length_nil, List.replicate, List.append_eq, List.cons_append, List.nil_append, List.getElem?_cons_zero, List.getElem?_cons_succ, List.set_cons_zero, List.set_cons_succ, Option.map_some, Option.bind_some, Nat.reduceAdd, Nat.reduceSub, Nat.reduceLT, Nat.reduceLeDiff, Nat.reduceEqDiff, Int.reduceToNat, if_true, if_false, Bool.not_true, Bool.not_false, Bool.false_eq_true, List.length_append, Nat.zero_add, String.reduceEq, or_true, true_or, or_false, false_or, and_true, true_and, Nat.add_zero, Int.reduceLT, Int.reduceLE, decide_true, decide_false, decide_eq_true_eq, Int.reduceAdd, Int.reduceSub, Int.reduceMul, Int.reduceNeg]
end
end Y

set_option Elab.async false
set_option linter.all false
set_option maxRecDepth 100000
set_option maxHeartbeats 4000000
namespace Y
open PySem PySem.Spec PyProof.Rows L2
def badL : List D := [.non, .tup [.int 0, .tup []], .tup [.int 7, .tup []], .tup [.int 1, .lst [.tup [.int 1]]], .tup [.int 1, .tup [.tup [.int 1, .int 2]]], .tup [.int 1, .tup [.tup [.bl true]]], .tup [.int 2, .tup [.tup [.int 1]]], .tup [.int 1, .tup [.tup [.int 1000001]]], .tup [.tup [.int 1]], .tup [.int 1, .tup [.tup [.int 1], .tup [.int 1], .tup [.int 1], .tup [.int 1], .tup [.int 1], .tup [.int 1], .tup [.int 1]]]]
theorem bad_ok {n : Nat} {d : List D} (hd : Dice n d) (hn : n ≤ 2 ^ 50) : ∃ v d', F__law_bad d [] = .ok v d' ∧ v ∈ badL ∧ Dice (n + 1) d' := by
  obtain ⟨v, d', e, hv, hd'⟩ := pick_ok (l := badL) hd (by simp [badL]) (by simp [badL, big_eq]) (by omega)
  refine ⟨v, d', ?_, hv, hd'⟩
  unfold badL at e
  simp [F__law_bad, m__law_bad, ent, entD, runF, runD, runO, oSeq, sRetO, sSeq, sNil, sSet, sSetO, sRet, sRetN, sIf, sDrop, sBreak, sCont, sAppend, sExtend, sSetIx, sAug, sPar, sAsg, sRaise, mVar, mVarZ, mC, mBin, mT, mTAnd, mTOr, mTNot, mAnd, mOr, mNot, mIf, aNil, aCons, newTup, mTup, mFz, newLst, mLst, mCall, mIxO, mLenO, oNone, oSome, mSl, mBinL, mIsi, mFn, mFnK, mFnD, mFnDO, mUn, mItems, mItC, mYes, asB, R.bind, R.go, R.of, R.noBad, FR.to, FRD.to, tgN, tgsN, tgsC, tgT, gI, gIx, gLen, gAbs, gMax2, gMin2, gMin3, gInt, gTuple, gList, gSl, gSlL, gNeg, isT, gIsN, gNotN, gAddA, gMulA, gZip, List.map_cons, List.map_nil, List.length_cons, List.length_nil, List.replicate, List.append_eq, List.cons_append, List.nil_append, List.getElem?_cons_zero, List.getElem?_cons_succ, List.set_cons_zero, List.set_cons_succ, Option.map_some, Option.bind_some, Nat.reduceAdd, Nat.reduceSub, Nat.reduceLT, Nat.reduceLeDiff, Nat.reduceEqDiff, Int.reduceToNat, if_true, if_false, Bool.not_true, Bool.not_false, Bool.false_eq_true, List.length_append, Nat.zero_add, String.reduceEq, or_true, true_or, or_false, false_or, and_true, true_and, Nat.add_zero, Int.reduceLT, Int.reduceLE, decide_true, decide_false, decide_eq_true_eq, Int.reduceAdd, Int.reduceSub, Int.reduceMul, Int.reduceNeg, gRepT, big_eq, List.replicate, e]
theorem bad_need {v : D} (h : v ∈ badL) : F_need_grid [v, .str "grid"] = .bad "grid" := by
  unfold badL at h
  simp only [List.mem_cons, List.not_mem_nil, or_false] at h
  rcases h with rfl | rfl | rfl | rfl | rfl | rfl | rfl | rfl | rfl | rfl <;> rfl
theorem bad_minor {v x y : D} (h : v ∈ badL) : F_minor [v, x, y] = .bad "grid" := by
  have := bad_need h
  simp [F_minor, m_minor, ent, entD, runF, runD, runO, oSeq, sRetO, sSeq, sNil, sSet, sSetO, sRet, sRetN, sIf, sDrop, sBreak, sCont, sAppend, sExtend, sSetIx, sAug, sPar, sAsg, sRaise, mVar, mVarZ, mC, mBin, mT, mTAnd, mTOr, mTNot, mAnd, mOr, mNot, mIf, aNil, aCons, newTup, mTup, mFz, newLst, mLst, mCall, mIxO, mLenO, oNone, oSome, mSl, mBinL, mIsi, mFn, mFnK, mFnD, mFnDO, mUn, mItems, mItC, mYes, asB, R.bind, R.go, R.of, R.noBad, FR.to, FRD.to, tgN, tgsN, tgsC, tgT, gI, gIx, gLen, gAbs, gMax2, gMin2, gMin3, gInt, gTuple, gList, gSl, gSlL, gNeg, isT, gIsN, gNotN, gAddA, gMulA, gZip, List.map_cons, List.map_nil, List.length_cons, List.length_nil, List.replicate, List.append_eq, List.cons_append, List.nil_append, List.getElem?_cons_zero, List.getElem?_cons_succ, List.set_cons_zero, List.set_cons_succ, Option.map_some, Option.bind_some, Nat.reduceAdd, Nat.reduceSub, Nat.reduceLT, Nat.reduceLeDiff, Nat.reduceEqDiff, Int.reduceToNat, if_true, if_false, Bool.not_true, Bool.not_false, Bool.false_eq_true, List.length_append, Nat.zero_add, String.reduceEq, or_true, true_or, or_false, false_or, and_true, true_and, Nat.add_zero, Int.reduceLT, Int.reduceLE, decide_true, decide_false, decide_eq_true_eq, Int.reduceAdd, Int.reduceSub, Int.reduceMul, Int.reduceNeg, this]
theorem bad_compound {v x : D} (h : v ∈ badL) : F_compound [v, x] = .bad "grid" := by
  have := bad_need h
  simp [F_compound, m_compound, F_need_size, m_need_size, ent, entD, runF, runD, runO, oSeq, sRetO, sSeq, sNil, sSet, sSetO, sRet, sRetN, sIf, sDrop, sBreak, sCont, sAppend, sExtend, sSetIx, sAug, sPar, sAsg, sRaise, mVar, mVarZ, mC, mBin, mT, mTAnd, mTOr, mTNot, mAnd, mOr, mNot, mIf, aNil, aCons, newTup, mTup, mFz, newLst, mLst, mCall, mIxO, mLenO, oNone, oSome, mSl, mBinL, mIsi, mFn, mFnK, mFnD, mFnDO, mUn, mItems, mItC, mYes, asB, R.bind, R.go, R.of, R.noBad, FR.to, FRD.to, tgN, tgsN, tgsC, tgT, gI, gIx, gLen, gAbs, gMax2, gMin2, gMin3, gInt, gTuple, gList, gSl, gSlL, gNeg, isT, gIsN, gNotN, gAddA, gMulA, gZip, List.map_cons, List.map_nil, List.length_cons, List.length_nil, List.replicate, List.append_eq, List.cons_append, List.nil_append, List.getElem?_cons_zero, List.getElem?_cons_succ, List.set_cons_zero, List.set_cons_succ, Option.map_some, Option.bind_some, Nat.reduceAdd, Nat.reduceSub, Nat.reduceLT, Nat.reduceLeDiff, Nat.reduceEqDiff, Int.reduceToNat, if_true, if_false, Bool.not_true, Bool.not_false, Bool.false_eq_true, List.length_append, Nat.zero_add, String.reduceEq, or_true, true_or, or_false, false_or, and_true, true_and, Nat.add_zero, Int.reduceLT, Int.reduceLE, decide_true, decide_false, decide_eq_true_eq, Int.reduceAdd, Int.reduceSub, Int.reduceMul, Int.reduceNeg, this]
theorem bad_common {v x : D} (h : v ∈ badL) : F_common_minor [v, x] = .bad "grid" := by
  have := bad_compound (x := x) h
  simp [F_common_minor, m_common_minor, ent, entD, runF, runD, runO, oSeq, sRetO, sSeq, sNil, sSet, sSetO, sRet, sRetN, sIf, sDrop, sBreak, sCont, sAppend, sExtend, sSetIx, sAug, sPar, sAsg, sRaise, mVar, mVarZ, mC, mBin, mT, mTAnd, mTOr, mTNot, mAnd, mOr, mNot, mIf, aNil, aCons, newTup, mTup, mFz, newLst, mLst, mCall, mIxO, mLenO, oNone, oSome, mSl, mBinL, mIsi, mFn, mFnK, mFnD, mFnDO, mUn, mItems, mItC, mYes, asB, R.bind, R.go, R.of, R.noBad, FR.to, FRD.to, tgN, tgsN, tgsC, tgT, gI, gIx, gLen, gAbs, gMax2, gMin2, gMin3, gInt, gTuple, gList, gSl, gSlL, gNeg, isT, gIsN, gNotN, gAddA, gMulA, gZip, List.map_cons, List.map_nil, List.length_cons, List.length_nil, List.replicate, List.append_eq, List.cons_append, List.nil_append, List.getElem?_cons_zero, List.getElem?_cons_succ, List.set_cons_zero, List.set_cons_succ, Option.map_some, Option.bind_some, Nat.reduceAdd, Nat.reduceSub, Nat.reduceLT, Nat.reduceLeDiff, Nat.reduceEqDiff, Int.reduceToNat, if_true, if_false, Bool.not_true, Bool.not_false, Bool.false_eq_true, List.length_append, Nat.zero_add, String.reduceEq, or_true, true_or, or_false, false_or, and_true, true_and, Nat.add_zero, Int.reduceLT, Int.reduceLE, decide_true, decide_false, decide_eq_true_eq, Int.reduceAdd, Int.reduceSub, Int.reduceMul, Int.reduceNeg, sFor, this]
theorem bad_rank {v : D} (h : v ∈ badL) : F_rank_by_minors [v] = .bad "grid" := by
  have := bad_need h
  simp [F_rank_by_minors, m_rank_by_minors, ent, entD, runF, runD, runO, oSeq, sRetO, sSeq, sNil, sSet, sSetO, sRet, sRetN, sIf, sDrop, sBreak, sCont, sAppend, sExtend, sSetIx, sAug, sPar, sAsg, sRaise, mVar, mVarZ, mC, mBin, mT, mTAnd, mTOr, mTNot, mAnd, mOr, mNot, mIf, aNil, aCons, newTup, mTup, mFz, newLst, mLst, mCall, mIxO, mLenO, oNone, oSome, mSl, mBinL, mIsi, mFn, mFnK, mFnD, mFnDO, mUn, mItems, mItC, mYes, asB, R.bind, R.go, R.of, R.noBad, FR.to, FRD.to, tgN, tgsN, tgsC, tgT, gI, gIx, gLen, gAbs, gMax2, gMin2, gMin3, gInt, gTuple, gList, gSl, gSlL, gNeg, isT, gIsN, gNotN, gAddA, gMulA, gZip, List.map_cons, List.map_nil, List.length_cons, List.length_nil, List.replicate, List.append_eq, List.cons_append, List.nil_append, List.getElem?_cons_zero, List.getElem?_cons_succ, List.set_cons_zero, List.set_cons_succ, Option.map_some, Option.bind_some, Nat.reduceAdd, Nat.reduceSub, Nat.reduceLT, Nat.reduceLeDiff, Nat.reduceEqDiff, Int.reduceToNat, if_true, if_false, Bool.not_true, Bool.not_false, Bool.false_eq_true, List.length_append, Nat.zero_add, String.reduceEq, or_true, true_or, or_false, false_or, and_true, true_and, Nat.add_zero, Int.reduceLT, Int.reduceLE, decide_true, decide_false, decide_eq_true_eq, Int.reduceAdd, Int.reduceSub, Int.reduceMul, Int.reduceNeg, this]
theorem l_ups : ((Str.ofString "ups").length ≤ 1000) = True := by decide
theorem l_sides : ((Str.ofString "sides").length ≤ 1000) = True := by decide
theorem l_size : ((Str.ofString "size").length ≤ 1000) = True := by decide
theorem l_sums : ((Str.ofString "sums").length ≤ 1000) = True := by decide
theorem cho1_no {i m : Int} (h : ¬ (0 ≤ i ∧ i < m)) : F_is_choice [.tup [.int i], .int m] = .ok (.bl false) := by
  have e : c_is_choice_1 [.va (.tup [.int i]), .va (.int m), .un, .un] = .ok [.bl false] [.va (.tup [.int i]), .va (.int m), .un, .un] := by
    unfold c_is_choice_1
    rw [mLc_map (ds := [.int i]) (f := fun _ => .bl false)]
    · rfl
    · simp [ent, entD, runF, runD, runO, oSeq, sRetO, sSeq, sNil, sSet, sSetO, sRet, sRetN, sIf, sDrop, sBreak, sCont, sAppend, sExtend, sSetIx, sAug, sPar, sAsg, sRaise, mVar, mVarZ, mC, mBin, mT, mTAnd, mTOr, mTNot, mAnd, mOr, mNot, mIf, aNil, aCons, newTup, mTup, mFz, newLst, mLst, mCall, mIxO, mLenO, oNone, oSome, mSl, mBinL, mIsi, mFn, mFnK, mFnD, mFnDO, mUn, mItems, mItC, mYes, asB, R.bind, R.go, R.of, R.noBad, FR.to, FRD.to, tgN, tgsN, tgsC, tgT, gI, gIx, gLen, gAbs, gMax2, gMin2, gMin3, gInt, gTuple, gList, gSl, gSlL, gNeg, isT, gIsN, gNotN, gAddA, gMulA, gZip, List.map_cons, List.map_nil, List.length_cons, List.length_nil, List.replicate, List.append_eq, List.cons_append, List.nil_append, List.getElem?_cons_zero, List.getElem?_cons_succ, List.set_cons_zero, List.set_cons_succ, Option.map_some, Option.bind_some, Nat.reduceAdd, Nat.reduceSub, Nat.reduceLT, Nat.reduceLeDiff, Nat.reduceEqDiff, Int.reduceToNat, if_true, if_false, Bool.not_true, Bool.not_false, Bool.false_eq_true, List.length_append, Nat.zero_add, String.reduceEq, or_true, true_or, or_false, false_or, and_true, true_and, Nat.add_zero, Int.reduceLT, Int.reduceLE, decide_true, decide_false, decide_eq_true_eq, Int.reduceAdd, Int.reduceSub, Int.reduceMul, Int.reduceNeg]
    · simp [big_eq]
    · intro d hd
      simp at hd
      subst hd
      by_cases h0 : 0 ≤ i
      · have h1 : ¬ i < m := fun z => h ⟨h0, z⟩
        simp [ent, entD, runF, runD, runO, oSeq, sRetO, sSeq, sNil, sSet, sSetO, sRet, sRetN, sIf, sDrop, sBreak, sCont, sAppend, sExtend, sSetIx, sAug, sPar, sAsg, sRaise, mVar, mVarZ, mC, mBin, mT, mTAnd, mTOr, mTNot, mAnd, mOr, mNot, mIf, aNil, aCons, newTup, mTup, mFz, newLst, mLst, mCall, mIxO, mLenO, oNone, oSome, mSl, mBinL, mIsi, mFn, mFnK, mFnD, mFnDO, mUn, mItems, mItC, mYes, asB, R.bind, R.go, R.of, R.noBad, FR.to, FRD.to, tgN, tgsN, tgsC, tgT, gI, gIx, gLen, gAbs, gMax2, gMin2, gMin3, gInt, gTuple, gList, gSl, gSlL, gNeg, isT, gIsN, gNotN, gAddA, gMulA, gZip, List.map_cons, List.map_nil, List.length_cons, List.length_nil, List.replicate, List.append_eq, List.cons_append, List.nil_append, List.getElem?_cons_zero, List.getElem?_cons_succ, List.set_cons_zero, List.set_cons_succ, Option.map_some, Option.bind_some, Nat.reduceAdd, Nat.reduceSub, Nat.reduceLT, Nat.reduceLeDiff, Nat.reduceEqDiff, Int.reduceToNat, if_true, if_false, Bool.not_true, Bool.not_false, Bool.false_eq_true, List.length_append, Nat.zero_add, String.reduceEq, or_true, true_or, or_false, false_or, and_true, true_and, Nat.add_zero, Int.reduceLT, Int.reduceLE, decide_true, decide_false, decide_eq_true_eq, Int.reduceAdd, Int.reduceSub, Int.reduceMul, Int.reduceNeg, isint_ok, mChain, h0, h1]
      · simp [ent, entD, runF, runD, runO, oSeq, sRetO, sSeq, sNil, sSet, sSetO, sRet, sRetN, sIf, sDrop, sBreak, sCont, sAppend, sExtend, sSetIx, sAug, sPar, sAsg, sRaise, mVar, mVarZ, mC, mBin, mT, mTAnd, mTOr, mTNot, mAnd, mOr, mNot, mIf, aNil, aCons, newTup, mTup, mFz, newLst, mLst, mCall, mIxO, mLenO, oNone, oSome, mSl, mBinL, mIsi, mFn, mFnK, mFnD, mFnDO, mUn, mItems, mItC, mYes, asB, R.bind, R.go, R.of, R.noBad, FR.to, FRD.to, tgN, tgsN, tgsC, tgT, gI, gIx, gLen, gAbs, gMax2, gMin2, gMin3, gInt, gTuple, gList, gSl, gSlL, gNeg, isT, gIsN, gNotN, gAddA, gMulA, gZip, List.map_cons, List.map_nil, List.length_cons, List.length_nil, List.replicate, List.append_eq, List.cons_append, List.nil_append, List.getElem?_cons_zero, List.getElem?_cons_succ, List.set_cons_zero, List.set_cons_succ, Option.map_some, Option.bind_some, Nat.reduceAdd, Nat.reduceSub, Nat.reduceLT, Nat.reduceLeDiff, Nat.reduceEqDiff, Int.reduceToNat, if_true, if_false, Bool.not_true, Bool.not_false, Bool.false_eq_true, List.length_append, Nat.zero_add, String.reduceEq, or_true, true_or, or_false, false_or, and_true, true_and, Nat.add_zero, Int.reduceLT, Int.reduceLE, decide_true, decide_false, decide_eq_true_eq, Int.reduceAdd, Int.reduceSub, Int.reduceMul, Int.reduceNeg, isint_ok, mChain, h0]
  simp [F_is_choice, m_is_choice, ent, entD, runF, runD, runO, oSeq, sRetO, sSeq, sNil, sSet, sSetO, sRet, sRetN, sIf, sDrop, sBreak, sCont, sAppend, sExtend, sSetIx, sAug, sPar, sAsg, sRaise, mVar, mVarZ, mC, mBin, mT, mTAnd, mTOr, mTNot, mAnd, mOr, mNot, mIf, aNil, aCons, newTup, mTup, mFz, newLst, mLst, mCall, mIxO, mLenO, oNone, oSome, mSl, mBinL, mIsi, mFn, mFnK, mFnD, mFnDO, mUn, mItems, mItC, mYes, asB, R.bind, R.go, R.of, R.noBad, FR.to, FRD.to, tgN, tgsN, tgsC, tgT, gI, gIx, gLen, gAbs, gMax2, gMin2, gMin3, gInt, gTuple, gList, gSl, gSlL, gNeg, isT, gIsN, gNotN, gAddA, gMulA, gZip, List.map_cons, List.map_nil, List.length_cons, List.length_nil, List.replicate, List.append_eq, List.cons_append, List.nil_append, List.getElem?_cons_zero, List.getElem?_cons_succ, List.set_cons_zero, List.set_cons_succ, Option.map_some, Option.bind_some, Nat.reduceAdd, Nat.reduceSub, Nat.reduceLT, Nat.reduceLeDiff, Nat.reduceEqDiff, Int.reduceToNat, if_true, if_false, Bool.not_true, Bool.not_false, Bool.false_eq_true, List.length_append, Nat.zero_add, String.reduceEq, or_true, true_or, or_false, false_or, and_true, true_and, Nat.add_zero, Int.reduceLT, Int.reduceLE, decide_true, decide_false, decide_eq_true_eq, Int.reduceAdd, Int.reduceSub, Int.reduceMul, Int.reduceNeg, e, gAll, bools]
theorem cho1_yes {m : Nat} (h : 1 ≤ m) (hm : m ≤ 4) : F_is_choice [.tup [.int 0], .int m] = .ok (.bl true) := by
  have : ([0] : List Int) ∈ comb m 1 := by
    rcases le4 hm with rfl | rfl | rfl | rfl | rfl
    · omega
    all_goals decide
  exact cho_ok (n := m) (k := 1) hm (by omega) this
theorem cho0_yes {m : Nat} (hm : m ≤ 4) : F_is_choice [.tup [], .int m] = .ok (.bl true) := by
  have : ([] : List Int) ∈ comb m 0 := by simp [comb]
  exact cho_ok (n := m) (k := 0) hm (by omega) this
theorem cho_non (m : D) : F_is_choice [.non, m] = .ok (.bl false) := by
  simp [F_is_choice, m_is_choice, ent, entD, runF, runD, runO, oSeq, sRetO, sSeq, sNil, sSet, sSetO, sRet, sRetN, sIf, sDrop, sBreak, sCont, sAppend, sExtend, sSetIx, sAug, sPar, sAsg, sRaise, mVar, mVarZ, mC, mBin, mT, mTAnd, mTOr, mTNot, mAnd, mOr, mNot, mIf, aNil, aCons, newTup, mTup, mFz, newLst, mLst, mCall, mIxO, mLenO, oNone, oSome, mSl, mBinL, mIsi, mFn, mFnK, mFnD, mFnDO, mUn, mItems, mItC, mYes, asB, R.bind, R.go, R.of, R.noBad, FR.to, FRD.to, tgN, tgsN, tgsC, tgT, gI, gIx, gLen, gAbs, gMax2, gMin2, gMin3, gInt, gTuple, gList, gSl, gSlL, gNeg, isT, gIsN, gNotN, gAddA, gMulA, gZip, List.map_cons, List.map_nil, List.length_cons, List.length_nil, List.replicate, List.append_eq, List.cons_append, List.nil_append, List.getElem?_cons_zero, List.getElem?_cons_succ, List.set_cons_zero, List.set_cons_succ, Option.map_some, Option.bind_some, Nat.reduceAdd, Nat.reduceSub, Nat.reduceLT, Nat.reduceLeDiff, Nat.reduceEqDiff, Int.reduceToNat, if_true, if_false, Bool.not_true, Bool.not_false, Bool.false_eq_true, List.length_append, Nat.zero_add, String.reduceEq, or_true, true_or, or_false, false_or, and_true, true_and, Nat.add_zero, Int.reduceLT, Int.reduceLE, decide_true, decide_false, decide_eq_true_eq, Int.reduceAdd, Int.reduceSub, Int.reduceMul, Int.reduceNeg]
section
variable {w m : Nat} {M : List (List Int)} (h : Gr w m M)
include h
theorem minor_ups : F_minor [gridD w M, .tup [.int m], .tup [.int 0]] = .bad "ups" := by
  have e0 := need_ok h.grid (by omega) (.str "grid")
  have e1 := cho1_no (i := m) (m := m) (by omega)
  simp [F_minor, m_minor, ent, entD, runF, runD, runO, oSeq, sRetO, sSeq, sNil, sSet, sSetO, sRet, sRetN, sIf, sDrop, sBreak, sCont, sAppend, sExtend, sSetIx, sAug, sPar, sAsg, sRaise, mVar, mVarZ, mC, mBin, mT, mTAnd, mTOr, mTNot, mAnd, mOr, mNot, mIf, aNil, aCons, newTup, mTup, mFz, newLst, mLst, mCall, mIxO, mLenO, oNone, oSome, mSl, mBinL, mIsi, mFn, mFnK, mFnD, mFnDO, mUn, mItems, mItC, mYes, asB, R.bind, R.go, R.of, R.noBad, FR.to, FRD.to, tgN, tgsN, tgsC, tgT, gI, gIx, gLen, gAbs, gMax2, gMin2, gMin3, gInt, gTuple, gList, gSl, gSlL, gNeg, isT, gIsN, gNotN, gAddA, gMulA, gZip, List.map_cons, List.map_nil, List.length_cons, List.length_nil, List.replicate, List.append_eq, List.cons_append, List.nil_append, List.getElem?_cons_zero, List.getElem?_cons_succ, List.set_cons_zero, List.set_cons_succ, Option.map_some, Option.bind_some, Nat.reduceAdd, Nat.reduceSub, Nat.reduceLT, Nat.reduceLeDiff, Nat.reduceEqDiff, Int.reduceToNat, if_true, if_false, Bool.not_true, Bool.not_false, Bool.false_eq_true, List.length_append, Nat.zero_add, String.reduceEq, or_true, true_or, or_false, false_or, and_true, true_and, Nat.add_zero, Int.reduceLT, Int.reduceLE, decide_true, decide_false, decide_eq_true_eq, Int.reduceAdd, Int.reduceSub, Int.reduceMul, Int.reduceNeg, l_ups, l_sides, l_size, l_sums, e0, ix1, h.len, e1]
theorem minor_non : F_minor [gridD w M, .non, .tup []] = .bad "ups" := by
  have e0 := need_ok h.grid (by omega) (.str "grid")
  have e1 := cho_non (.int m)
  simp [F_minor, m_minor, ent, entD, runF, runD, runO, oSeq, sRetO, sSeq, sNil, sSet, sSetO, sRet, sRetN, sIf, sDrop, sBreak, sCont, sAppend, sExtend, sSetIx, sAug, sPar, sAsg, sRaise, mVar, mVarZ, mC, mBin, mT, mTAnd, mTOr, mTNot, mAnd, mOr, mNot, mIf, aNil, aCons, newTup, mTup, mFz, newLst, mLst, mCall, mIxO, mLenO, oNone, oSome, mSl, mBinL, mIsi, mFn, mFnK, mFnD, mFnDO, mUn, mItems, mItC, mYes, asB, R.bind, R.go, R.of, R.noBad, FR.to, FRD.to, tgN, tgsN, tgsC, tgT, gI, gIx, gLen, gAbs, gMax2, gMin2, gMin3, gInt, gTuple, gList, gSl, gSlL, gNeg, isT, gIsN, gNotN, gAddA, gMulA, gZip, List.map_cons, List.map_nil, List.length_cons, List.length_nil, List.replicate, List.append_eq, List.cons_append, List.nil_append, List.getElem?_cons_zero, List.getElem?_cons_succ, List.set_cons_zero, List.set_cons_succ, Option.map_some, Option.bind_some, Nat.reduceAdd, Nat.reduceSub, Nat.reduceLT, Nat.reduceLeDiff, Nat.reduceEqDiff, Int.reduceToNat, if_true, if_false, Bool.not_true, Bool.not_false, Bool.false_eq_true, List.length_append, Nat.zero_add, String.reduceEq, or_true, true_or, or_false, false_or, and_true, true_and, Nat.add_zero, Int.reduceLT, Int.reduceLE, decide_true, decide_false, decide_eq_true_eq, Int.reduceAdd, Int.reduceSub, Int.reduceMul, Int.reduceNeg, l_ups, l_sides, l_size, l_sums, e0, ix1, h.len, e1]
theorem minor_len (h1 : 1 ≤ m) : F_minor [gridD w M, .tup [.int 0], .tup []] = .bad "sides" := by
  have e0 := need_ok h.grid (by omega) (.str "grid")
  have e1 := cho1_yes h1 h.m4
  have e2 := cho0_yes h.w4
  simp [F_minor, m_minor, ent, entD, runF, runD, runO, oSeq, sRetO, sSeq, sNil, sSet, sSetO, sRet, sRetN, sIf, sDrop, sBreak, sCont, sAppend, sExtend, sSetIx, sAug, sPar, sAsg, sRaise, mVar, mVarZ, mC, mBin, mT, mTAnd, mTOr, mTNot, mAnd, mOr, mNot, mIf, aNil, aCons, newTup, mTup, mFz, newLst, mLst, mCall, mIxO, mLenO, oNone, oSome, mSl, mBinL, mIsi, mFn, mFnK, mFnD, mFnDO, mUn, mItems, mItC, mYes, asB, R.bind, R.go, R.of, R.noBad, FR.to, FRD.to, tgN, tgsN, tgsC, tgT, gI, gIx, gLen, gAbs, gMax2, gMin2, gMin3, gInt, gTuple, gList, gSl, gSlL, gNeg, isT, gIsN, gNotN, gAddA, gMulA, gZip, List.map_cons, List.map_nil, List.length_cons, List.length_nil, List.replicate, List.append_eq, List.cons_append, List.nil_append, List.getElem?_cons_zero, List.getElem?_cons_succ, List.set_cons_zero, List.set_cons_succ, Option.map_some, Option.bind_some, Nat.reduceAdd, Nat.reduceSub, Nat.reduceLT, Nat.reduceLeDiff, Nat.reduceEqDiff, Int.reduceToNat, if_true, if_false, Bool.not_true, Bool.not_false, Bool.false_eq_true, List.length_append, Nat.zero_add, String.reduceEq, or_true, true_or, or_false, false_or, and_true, true_and, Nat.add_zero, Int.reduceLT, Int.reduceLE, decide_true, decide_false, decide_eq_true_eq, Int.reduceAdd, Int.reduceSub, Int.reduceMul, Int.reduceNeg, l_ups, l_sides, l_size, l_sums, e0, ix0, ix1, h.len, e1, e2, neI]
theorem minor_sides (h1 : 1 ≤ m) : F_minor [gridD w M, .tup [.int 0], .tup [.int w]] = .bad "sides" := by
  have e0 := need_ok h.grid (by omega) (.str "grid")
  have e1 := cho1_yes h1 h.m4
  have e2 := cho1_no (i := w) (m := w) (by omega)
  simp [F_minor, m_minor, ent, entD, runF, runD, runO, oSeq, sRetO, sSeq, sNil, sSet, sSetO, sRet, sRetN, sIf, sDrop, sBreak, sCont, sAppend, sExtend, sSetIx, sAug, sPar, sAsg, sRaise, mVar, mVarZ, mC, mBin, mT, mTAnd, mTOr, mTNot, mAnd, mOr, mNot, mIf, aNil, aCons, newTup, mTup, mFz, newLst, mLst, mCall, mIxO, mLenO, oNone, oSome, mSl, mBinL, mIsi, mFn, mFnK, mFnD, mFnDO, mUn, mItems, mItC, mYes, asB, R.bind, R.go, R.of, R.noBad, FR.to, FRD.to, tgN, tgsN, tgsC, tgT, gI, gIx, gLen, gAbs, gMax2, gMin2, gMin3, gInt, gTuple, gList, gSl, gSlL, gNeg, isT, gIsN, gNotN, gAddA, gMulA, gZip, List.map_cons, List.map_nil, List.length_cons, List.length_nil, List.replicate, List.append_eq, List.cons_append, List.nil_append, List.getElem?_cons_zero, List.getElem?_cons_succ, List.set_cons_zero, List.set_cons_succ, Option.map_some, Option.bind_some, Nat.reduceAdd, Nat.reduceSub, Nat.reduceLT, Nat.reduceLeDiff, Nat.reduceEqDiff, Int.reduceToNat, if_true, if_false, Bool.not_true, Bool.not_false, Bool.false_eq_true, List.length_append, Nat.zero_add, String.reduceEq, or_true, true_or, or_false, false_or, and_true, true_and, Nat.add_zero, Int.reduceLT, Int.reduceLE, decide_true, decide_false, decide_eq_true_eq, Int.reduceAdd, Int.reduceSub, Int.reduceMul, Int.reduceNeg, l_ups, l_sides, l_size, l_sums, e0, ix0, ix1, h.len, e1, e2, neI]
theorem size_zero : F_compound [gridD w M, .int 0] = .bad "size" := by
  have e0 := need_ok h.grid (by omega) (.str "grid")
  simp [F_compound, m_compound, F_need_size, m_need_size, ent, entD, runF, runD, runO, oSeq, sRetO, sSeq, sNil, sSet, sSetO, sRet, sRetN, sIf, sDrop, sBreak, sCont, sAppend, sExtend, sSetIx, sAug, sPar, sAsg, sRaise, mVar, mVarZ, mC, mBin, mT, mTAnd, mTOr, mTNot, mAnd, mOr, mNot, mIf, aNil, aCons, newTup, mTup, mFz, newLst, mLst, mCall, mIxO, mLenO, oNone, oSome, mSl, mBinL, mIsi, mFn, mFnK, mFnD, mFnDO, mUn, mItems, mItC, mYes, asB, R.bind, R.go, R.of, R.noBad, FR.to, FRD.to, tgN, tgsN, tgsC, tgT, gI, gIx, gLen, gAbs, gMax2, gMin2, gMin3, gInt, gTuple, gList, gSl, gSlL, gNeg, isT, gIsN, gNotN, gAddA, gMulA, gZip, List.map_cons, List.map_nil, List.length_cons, List.length_nil, List.replicate, List.append_eq, List.cons_append, List.nil_append, List.getElem?_cons_zero, List.getElem?_cons_succ, List.set_cons_zero, List.set_cons_succ, Option.map_some, Option.bind_some, Nat.reduceAdd, Nat.reduceSub, Nat.reduceLT, Nat.reduceLeDiff, Nat.reduceEqDiff, Int.reduceToNat, if_true, if_false, Bool.not_true, Bool.not_false, Bool.false_eq_true, List.length_append, Nat.zero_add, String.reduceEq, or_true, true_or, or_false, false_or, and_true, true_and, Nat.add_zero, Int.reduceLT, Int.reduceLE, decide_true, decide_false, decide_eq_true_eq, Int.reduceAdd, Int.reduceSub, Int.reduceMul, Int.reduceNeg, l_ups, l_sides, l_size, l_sums, e0, isint_ok, mChain]
theorem size_more {L : Nat} (hL : L = min w m) : F_compound [gridD w M, .int (L + 1)] = .bad "size" := by
  have e0 := need_ok h.grid (by omega) (.str "grid")
  have e1 : (1 : Int) ≤ L + 1 := by omega
  have e2 : (if m < w then (m : Int) else w) < L + 1 := by split <;> omega
  simp [F_compound, m_compound, F_need_size, m_need_size, ent, entD, runF, runD, runO, oSeq, sRetO, sSeq, sNil, sSet, sSetO, sRet, sRetN, sIf, sDrop, sBreak, sCont, sAppend, sExtend, sSetIx, sAug, sPar, sAsg, sRaise, mVar, mVarZ, mC, mBin, mT, mTAnd, mTOr, mTNot, mAnd, mOr, mNot, mIf, aNil, aCons, newTup, mTup, mFz, newLst, mLst, mCall, mIxO, mLenO, oNone, oSome, mSl, mBinL, mIsi, mFn, mFnK, mFnD, mFnDO, mUn, mItems, mItC, mYes, asB, R.bind, R.go, R.of, R.noBad, FR.to, FRD.to, tgN, tgsN, tgsC, tgT, gI, gIx, gLen, gAbs, gMax2, gMin2, gMin3, gInt, gTuple, gList, gSl, gSlL, gNeg, isT, gIsN, gNotN, gAddA, gMulA, gZip, List.map_cons, List.map_nil, List.length_cons, List.length_nil, List.replicate, List.append_eq, List.cons_append, List.nil_append, List.getElem?_cons_zero, List.getElem?_cons_succ, List.set_cons_zero, List.set_cons_succ, Option.map_some, Option.bind_some, Nat.reduceAdd, Nat.reduceSub, Nat.reduceLT, Nat.reduceLeDiff, Nat.reduceEqDiff, Int.reduceToNat, if_true, if_false, Bool.not_true, Bool.not_false, Bool.false_eq_true, List.length_append, Nat.zero_add, String.reduceEq, or_true, true_or, or_false, false_or, and_true, true_and, Nat.add_zero, Int.reduceLT, Int.reduceLE, decide_true, decide_false, decide_eq_true_eq, Int.reduceAdd, Int.reduceSub, Int.reduceMul, Int.reduceNeg, l_ups, l_sides, l_size, l_sums, e0, isint_ok, mChain, ix0, ix1, h.len, e1, e2]
end
theorem cofactors_no : F_cofactors [.tup [.int 2, .tup [.tup [.int 1, .int 2]]]] = .bad "grid" := by
  have e0 : F_need_square [.tup [.int 2, .tup [.tup [.int 1, .int 2]]], .str "grid"] = .bad "grid" := by rfl
  simp [F_cofactors, m_cofactors, ent, entD, runF, runD, runO, oSeq, sRetO, sSeq, sNil, sSet, sSetO, sRet, sRetN, sIf, sDrop, sBreak, sCont, sAppend, sExtend, sSetIx, sAug, sPar, sAsg, sRaise, mVar, mVarZ, mC, mBin, mT, mTAnd, mTOr, mTNot, mAnd, mOr, mNot, mIf, aNil, aCons, newTup, mTup, mFz, newLst, mLst, mCall, mIxO, mLenO, oNone, oSome, mSl, mBinL, mIsi, mFn, mFnK, mFnD, mFnDO, mUn, mItems, mItC, mYes, asB, R.bind, R.go, R.of, R.noBad, FR.to, FRD.to, tgN, tgsN, tgsC, tgT, gI, gIx, gLen, gAbs, gMax2, gMin2, gMin3, gInt, gTuple, gList, gSl, gSlL, gNeg, isT, gIsN, gNotN, gAddA, gMulA, gZip, List.map_cons, List.map_nil, List.length_cons, List.length_nil, List.replicate, List.append_eq, List.cons_append, List.nil_append, List.getElem?_cons_zero, List.getElem?_cons_succ, List.set_cons_zero, List.set_cons_succ, Option.map_some, Option.bind_some, Nat.reduceAdd, Nat.reduceSub, Nat.reduceLT, Nat.reduceLeDiff, Nat.reduceEqDiff, Int.reduceToNat, if_true, if_false, Bool.not_true, Bool.not_false, Bool.false_eq_true, List.length_append, Nat.zero_add, String.reduceEq, or_true, true_or, or_false, false_or, and_true, true_and, Nat.add_zero, Int.reduceLT, Int.reduceLE, decide_true, decide_false, decide_eq_true_eq, Int.reduceAdd, Int.reduceSub, Int.reduceMul, Int.reduceNeg, l_ups, l_sides, l_size, l_sums, e0]
theorem row_of_no {l : List D} {w : Int} (h : ¬ (l.length : Int) = w) : F_is_row_of [.tup l, .int w] = .ok (.bl false) := by
  simp [F_is_row_of, m_is_row_of, ent, entD, runF, runD, runO, oSeq, sRetO, sSeq, sNil, sSet, sSetO, sRet, sRetN, sIf, sDrop, sBreak, sCont, sAppend, sExtend, sSetIx, sAug, sPar, sAsg, sRaise, mVar, mVarZ, mC, mBin, mT, mTAnd, mTOr, mTNot, mAnd, mOr, mNot, mIf, aNil, aCons, newTup, mTup, mFz, newLst, mLst, mCall, mIxO, mLenO, oNone, oSome, mSl, mBinL, mIsi, mFn, mFnK, mFnD, mFnDO, mUn, mItems, mItC, mYes, asB, R.bind, R.go, R.of, R.noBad, FR.to, FRD.to, tgN, tgsN, tgsC, tgT, gI, gIx, gLen, gAbs, gMax2, gMin2, gMin3, gInt, gTuple, gList, gSl, gSlL, gNeg, isT, gIsN, gNotN, gAddA, gMulA, gZip, List.map_cons, List.map_nil, List.length_cons, List.length_nil, List.replicate, List.append_eq, List.cons_append, List.nil_append, List.getElem?_cons_zero, List.getElem?_cons_succ, List.set_cons_zero, List.set_cons_succ, Option.map_some, Option.bind_some, Nat.reduceAdd, Nat.reduceSub, Nat.reduceLT, Nat.reduceLeDiff, Nat.reduceEqDiff, Int.reduceToNat, if_true, if_false, Bool.not_true, Bool.not_false, Bool.false_eq_true, List.length_append, Nat.zero_add, String.reduceEq, or_true, true_or, or_false, false_or, and_true, true_and, Nat.add_zero, Int.reduceLT, Int.reduceLE, decide_true, decide_false, decide_eq_true_eq, Int.reduceAdd, Int.reduceSub, Int.reduceMul, Int.reduceNeg, l_ups, l_sides, l_size, l_sums, neI, h]
section
variable {n : Nat} {M : List (List Int)} {sums : List Int} (h : Sys n M sums)
include h
theorem bycof_no : F_by_cofactors [gridD n M, .tup (zs sums ++ [.int 0])] = .bad "sums" := by
  have e1 := cofactors_ok h.n1 h.n3 h.rows6 h.hl
  have e2 := row_of_no (l := zs sums ++ [.int 0]) (w := n) (by simp [zs, h.ls]; omega)
  simp [F_by_cofactors, m_by_cofactors, F_need_sums, m_need_sums, ent, entD, runF, runD, runO, oSeq, sRetO, sSeq, sNil, sSet, sSetO, sRet, sRetN, sIf, sDrop, sBreak, sCont, sAppend, sExtend, sSetIx, sAug, sPar, sAsg, sRaise, mVar, mVarZ, mC, mBin, mT, mTAnd, mTOr, mTNot, mAnd, mOr, mNot, mIf, aNil, aCons, newTup, mTup, mFz, newLst, mLst, mCall, mIxO, mLenO, oNone, oSome, mSl, mBinL, mIsi, mFn, mFnK, mFnD, mFnDO, mUn, mItems, mItC, mYes, asB, R.bind, R.go, R.of, R.noBad, FR.to, FRD.to, tgN, tgsN, tgsC, tgT, gI, gIx, gLen, gAbs, gMax2, gMin2, gMin3, gInt, gTuple, gList, gSl, gSlL, gNeg, isT, gIsN, gNotN, gAddA, gMulA, gZip, List.map_cons, List.map_nil, List.length_cons, List.length_nil, List.replicate, List.append_eq, List.cons_append, List.nil_append, List.getElem?_cons_zero, List.getElem?_cons_succ, List.set_cons_zero, List.set_cons_succ, Option.map_some, Option.bind_some, Nat.reduceAdd, Nat.reduceSub, Nat.reduceLT, Nat.reduceLeDiff, Nat.reduceEqDiff, Int.reduceToNat, if_true, if_false, Bool.not_true, Bool.not_false, Bool.false_eq_true, List.length_append, Nat.zero_add, String.reduceEq, or_true, true_or, or_false, false_or, and_true, true_and, Nat.add_zero, Int.reduceLT, Int.reduceLE, decide_true, decide_false, decide_eq_true_eq, Int.reduceAdd, Int.reduceSub, Int.reduceMul, Int.reduceNeg, l_ups, l_sides, l_size, l_sums, e1, ix1, h.hl, e2]
theorem byrows_no : F_by_rows [gridD n M, .tup [.int n]] = .bad "ups" := by
  have e0 := need_sq (M := M) (n := n) ⟨h.n1, by have := h.n3; omega, by have := h.n3; have := h.hl; omega, h.rows6⟩ (by decide) h.hl (.str "grid")
  have e1 := cho1_no (i := n) (m := n) (by omega)
  simp [F_by_rows, m_by_rows, ent, entD, runF, runD, runO, oSeq, sRetO, sSeq, sNil, sSet, sSetO, sRet, sRetN, sIf, sDrop, sBreak, sCont, sAppend, sExtend, sSetIx, sAug, sPar, sAsg, sRaise, mVar, mVarZ, mC, mBin, mT, mTAnd, mTOr, mTNot, mAnd, mOr, mNot, mIf, aNil, aCons, newTup, mTup, mFz, newLst, mLst, mCall, mIxO, mLenO, oNone, oSome, mSl, mBinL, mIsi, mFn, mFnK, mFnD, mFnDO, mUn, mItems, mItC, mYes, asB, R.bind, R.go, R.of, R.noBad, FR.to, FRD.to, tgN, tgsN, tgsC, tgT, gI, gIx, gLen, gAbs, gMax2, gMin2, gMin3, gInt, gTuple, gList, gSl, gSlL, gNeg, isT, gIsN, gNotN, gAddA, gMulA, gZip, List.map_cons, List.map_nil, List.length_cons, List.length_nil, List.replicate, List.append_eq, List.cons_append, List.nil_append, List.getElem?_cons_zero, List.getElem?_cons_succ, List.set_cons_zero, List.set_cons_succ, Option.map_some, Option.bind_some, Nat.reduceAdd, Nat.reduceSub, Nat.reduceLT, Nat.reduceLeDiff, Nat.reduceEqDiff, Int.reduceToNat, if_true, if_false, Bool.not_true, Bool.not_false, Bool.false_eq_true, List.length_append, Nat.zero_add, String.reduceEq, or_true, true_or, or_false, false_or, and_true, true_and, Nat.add_zero, Int.reduceLT, Int.reduceLE, decide_true, decide_false, decide_eq_true_eq, Int.reduceAdd, Int.reduceSub, Int.reduceMul, Int.reduceNeg, l_ups, l_sides, l_size, l_sums, e0, ix0, e1]
end
end Y

set_option Elab.async false
set_option linter.all false
set_option maxRecDepth 100000
set_option maxHeartbeats 4000000
namespace Y
open PySem PySem.Spec PyProof.Rows L2
theorem cut_zs (ns : List Int) (lo hi : Option Int) : ∃ l, cutD (zs ns) lo hi = zs l ∧ l.length ≤ ns.length := by
  refine ⟨(ns.drop (HT.sIx ns.length 0 lo)).take (HT.sIx ns.length ns.length hi - HT.sIx ns.length 0 lo), ?_, by simp; omega⟩
  unfold cutD zs
  rw [List.length_map, List.map_take, List.map_drop]
theorem dice_loop {x0 x1 x2 : Sl} : ∀ (l : List Int) (b : Int) (x4 : Sl), 0 ≤ b → b < 2147480009 → ∃ b' y4, forL (tgN 4) l__law_dice_1 (zs l) [x0, x1, x2, .va (.int b), x4] = .nx [x0, x1, x2, .va (.int b'), y4] ∧ 0 ≤ b' ∧ b' < 2147480009
  | [], b, x4, h0, h1 => ⟨b, x4, rfl, h0, h1⟩
  | c :: l, b, x4, h0, h1 => by
    have f := fmod_lt (a := b * 48271 + c.fmod 2147480009) (b := 2147480009) (by decide)
    obtain ⟨b', y4, h2, h3⟩ := dice_loop (x0 := x0) (x1 := x1) (x2 := x2) l _ (.va (.int c)) f.1 f.2
    refine ⟨b', y4, ?_, h3⟩
    have q : okMul b 48271 = true := okMul_small (by omega) (by omega)
    rw [zs, List.map_cons, forL_step (e1 := [x0, x1, x2, .va (.int b), .va (.int c)]) (e2 := [x0, x1, x2, .va (.int ((b * 48271 + c.fmod 2147480009).fmod 2147480009)), .va (.int c)]) rfl]
    · exact h2
    · simp [l__law_dice_1, ent, entD, runF, runD, runO, oSeq, sRetO, sSeq, sNil, sSet, sSetO, sRet, sRetN, sIf, sDrop, sBreak, sCont, sAppend, sExtend, sSetIx, sAug, sPar, sAsg, sRaise, mVar, mVarZ, mC, mBin, mT, mTAnd, mTOr, mTNot, mAnd, mOr, mNot, mIf, aNil, aCons, newTup, mTup, mFz, newLst, mLst, mCall, mIxO, mLenO, oNone, oSome, mSl, mBinL, mIsi, mFn, mFnK, mFnD, mFnDO, mUn, mItems, mItC, mYes, asB, R.bind, R.go, R.of, R.noBad, FR.to, FRD.to, tgN, tgsN, tgsC, tgT, gI, gIx, gLen, gAbs, gMax2, gMin2, gMin3, gInt, gTuple, gList, gSl, gSlL, gNeg, isT, gIsN, gNotN, gAddA, gMulA, gZip, List.map_cons, List.map_nil, List.length_cons, List.length_nil, List.replicate, List.append_eq, List.cons_append, List.nil_append, List.getElem?_cons_zero, List.getElem?_cons_succ, List.set_cons_zero, List.set_cons_succ, Option.map_some, Option.bind_some, Nat.reduceAdd, Nat.reduceSub, Nat.reduceLT, Nat.reduceLeDiff, Nat.reduceEqDiff, Int.reduceToNat, if_true, if_false, Bool.not_true, Bool.not_false, Bool.false_eq_true, List.length_append, Nat.zero_add, String.reduceEq, or_true, true_or, or_false, false_or, and_true, true_and, Nat.add_zero, Int.reduceLT, Int.reduceLE, decide_true, decide_false, decide_eq_true_eq, Int.reduceAdd, Int.reduceSub, Int.reduceMul, Int.reduceNeg, gMod, q]
theorem dice_ok {ns : List Int} {spot : Nat} (h : ns.length ≤ 63) (hs : spot ≤ 3) : ∃ d, F__law_dice [.scr (zs ns), .int spot] = .ok d ∧ Dice 0 d := by
  have e1 : ∃ own : Int, ∀ x2 x3 x4, sSet 2 (mIf (mT (mBin (gIB fun i j => decide (i < j)) (mVar 1) (mCall gLen (aCons (mVar 0) aNil)))) (mBin gIx (mVar 0) (mVar 1)) (mBin gAddA (mBin gMulA (mC (.int 733)) (mVar 1)) (mC (.int 29)))) [.va (.scr (zs ns)), .va (.int spot), x2, x3, x4] = .nx [.va (.scr (zs ns)), .va (.int spot), .va (.int own), x3, x4] := by
    by_cases hl : spot < ns.length
    · have hx := zs_ix hl
      refine ⟨(ns[spot]?).getD 0, fun x2 x3 x4 => ?_⟩
      simp only [sSet, mIf, mT, mBin, mVar, mCall, aCons, aNil, List.getElem?_cons_zero, List.getElem?_cons_succ, R.bind, gLen, R.of, gIB, List.length_map, decide_eq_true_eq, gIx, hx, R.go, List.set_cons_succ, List.set_cons_zero, asB, ent, entD, runF, runD, runO, oSeq, sRetO, sSeq, sNil, sSet, sSetO, sRet, sRetN, sIf, sDrop, sBreak, sCont, sAppend, sExtend, sSetIx, sAug, sPar, sAsg, sRaise, mVar, mVarZ, mC, mBin, mT, mTAnd, mTOr, mTNot, mAnd, mOr, mNot, mIf, aNil, aCons, newTup, mTup, mFz, newLst, mLst, mCall, mIxO, mLenO, oNone, oSome, mSl, mBinL, mIsi, mFn, mFnK, mFnD, mFnDO, mUn, mItems, mItC, mYes, asB, R.bind, R.go, R.of, R.noBad, FR.to, FRD.to, tgN, tgsN, tgsC, tgT, gI, gIx, gLen, gAbs, gMax2, gMin2, gMin3, gInt, gTuple, gList, gSl, gSlL, gNeg, isT, gIsN, gNotN, gAddA, gMulA, gZip, List.map_cons, List.map_nil, List.length_cons, List.length_nil, List.replicate, List.append_eq, List.cons_append, List.nil_append, List.getElem?_cons_zero, List.getElem?_cons_succ, List.set_cons_zero, List.set_cons_succ, Option.map_some, Option.bind_some, Nat.reduceAdd, Nat.reduceSub, Nat.reduceLT, Nat.reduceLeDiff, Nat.reduceEqDiff, Int.reduceToNat, if_true, if_false, Bool.not_true, Bool.not_false, Bool.false_eq_true, List.length_append, Nat.zero_add, String.reduceEq, or_true, true_or, or_false, false_or, and_true, true_and, Nat.add_zero, Int.reduceLT, Int.reduceLE, decide_true, decide_false, decide_eq_true_eq, Int.reduceAdd, Int.reduceSub, Int.reduceMul, Int.reduceNeg, hl]
      simp [hl]
    · have q : okMul 733 spot = true := okMul_small (by omega) (by omega)
      refine ⟨733 * spot + 29, fun x2 x3 x4 => ?_⟩
      simp [ent, entD, runF, runD, runO, oSeq, sRetO, sSeq, sNil, sSet, sSetO, sRet, sRetN, sIf, sDrop, sBreak, sCont, sAppend, sExtend, sSetIx, sAug, sPar, sAsg, sRaise, mVar, mVarZ, mC, mBin, mT, mTAnd, mTOr, mTNot, mAnd, mOr, mNot, mIf, aNil, aCons, newTup, mTup, mFz, newLst, mLst, mCall, mIxO, mLenO, oNone, oSome, mSl, mBinL, mIsi, mFn, mFnK, mFnD, mFnDO, mUn, mItems, mItC, mYes, asB, R.bind, R.go, R.of, R.noBad, FR.to, FRD.to, tgN, tgsN, tgsC, tgT, gI, gIx, gLen, gAbs, gMax2, gMin2, gMin3, gInt, gTuple, gList, gSl, gSlL, gNeg, isT, gIsN, gNotN, gAddA, gMulA, gZip, List.map_cons, List.map_nil, List.length_cons, List.length_nil, List.replicate, List.append_eq, List.cons_append, List.nil_append, List.getElem?_cons_zero, List.getElem?_cons_succ, List.set_cons_zero, List.set_cons_succ, Option.map_some, Option.bind_some, Nat.reduceAdd, Nat.reduceSub, Nat.reduceLT, Nat.reduceLeDiff, Nat.reduceEqDiff, Int.reduceToNat, if_true, if_false, Bool.not_true, Bool.not_false, Bool.false_eq_true, List.length_append, Nat.zero_add, String.reduceEq, or_true, true_or, or_false, false_or, and_true, true_and, Nat.add_zero, Int.reduceLT, Int.reduceLE, decide_true, decide_false, decide_eq_true_eq, Int.reduceAdd, Int.reduceSub, Int.reduceMul, Int.reduceNeg, hl, q]
  obtain ⟨own, e1⟩ := e1
  have q2 : okMul 7907 (spot : Int) = true := okMul_small (by omega) (by omega)
  obtain ⟨l, hc, hl⟩ := cut_zs ns none (some 6)
  obtain ⟨b', y4, h2, h3, h4⟩ := dice_loop (x0 := .va (.scr (zs ns))) (x1 := .va (.int spot)) (x2 := .va (.int own)) (l ++ [own]) (930011 + 7907 * spot) .un (by omega) (by omega)
  have he : F__law_dice [.scr (zs ns), .int spot] = .ok [.int (if own < 0 ∨ 10000000000000000 ≤ own then (if own < 0 then -own else own) else 0), .int b', .int 0] := by
    unfold F__law_dice m__law_dice runO
    rw [show ent 5 [.scr (zs ns), .int spot] = [.va (.scr (zs ns)), .va (.int spot), .un, .un, .un] from rfl]
    unfold oSeq
    rw [e1]
    simp only
    rw [show sSet 3 (mBin gAddA (mC (.int 930011)) (mBin gMulA (mC (.int 7907)) (mVar 1))) [.va (.scr (zs ns)), .va (.int spot), .va (.int own), .un, .un] = .nx [.va (.scr (zs ns)), .va (.int spot), .va (.int own), .va (.int (930011 + 7907 * spot)), .un] by simp [ent, entD, runF, runD, runO, oSeq, sRetO, sSeq, sNil, sSet, sSetO, sRet, sRetN, sIf, sDrop, sBreak, sCont, sAppend, sExtend, sSetIx, sAug, sPar, sAsg, sRaise, mVar, mVarZ, mC, mBin, mT, mTAnd, mTOr, mTNot, mAnd, mOr, mNot, mIf, aNil, aCons, newTup, mTup, mFz, newLst, mLst, mCall, mIxO, mLenO, oNone, oSome, mSl, mBinL, mIsi, mFn, mFnK, mFnD, mFnDO, mUn, mItems, mItC, mYes, asB, R.bind, R.go, R.of, R.noBad, FR.to, FRD.to, tgN, tgsN, tgsC, tgT, gI, gIx, gLen, gAbs, gMax2, gMin2, gMin3, gInt, gTuple, gList, gSl, gSlL, gNeg, isT, gIsN, gNotN, gAddA, gMulA, gZip, List.map_cons, List.map_nil, List.length_cons, List.length_nil, List.replicate, List.append_eq, List.cons_append, List.nil_append, List.getElem?_cons_zero, List.getElem?_cons_succ, List.set_cons_zero, List.set_cons_succ, Option.map_some, Option.bind_some, Nat.reduceAdd, Nat.reduceSub, Nat.reduceLT, Nat.reduceLeDiff, Nat.reduceEqDiff, Int.reduceToNat, if_true, if_false, Bool.not_true, Bool.not_false, Bool.false_eq_true, List.length_append, Nat.zero_add, String.reduceEq, or_true, true_or, or_false, false_or, and_true, true_and, Nat.add_zero, Int.reduceLT, Int.reduceLE, decide_true, decide_false, decide_eq_true_eq, Int.reduceAdd, Int.reduceSub, Int.reduceMul, Int.reduceNeg, q2]]
    simp only
    have hi : mItems (mBin gAddA (mSl gSl (mVar 0) oNone (oSome (mC (.int 6)))) (mFz (mLst (aCons (mVar 2) aNil)))) [.va (.scr (zs ns)), .va (.int spot), .va (.int own), .va (.int (930011 + 7907 * spot)), .un] = .ok (zs (l ++ [own])) [.va (.scr (zs ns)), .va (.int spot), .va (.int own), .va (.int (930011 + 7907 * spot)), .un] := by
      have hb : l.length + 1 ≤ 1000000 := by omega
      simp [ent, entD, runF, runD, runO, oSeq, sRetO, sSeq, sNil, sSet, sSetO, sRet, sRetN, sIf, sDrop, sBreak, sCont, sAppend, sExtend, sSetIx, sAug, sPar, sAsg, sRaise, mVar, mVarZ, mC, mBin, mT, mTAnd, mTOr, mTNot, mAnd, mOr, mNot, mIf, aNil, aCons, newTup, mTup, mFz, newLst, mLst, mCall, mIxO, mLenO, oNone, oSome, mSl, mBinL, mIsi, mFn, mFnK, mFnD, mFnDO, mUn, mItems, mItC, mYes, asB, R.bind, R.go, R.of, R.noBad, FR.to, FRD.to, tgN, tgsN, tgsC, tgT, gI, gIx, gLen, gAbs, gMax2, gMin2, gMin3, gInt, gTuple, gList, gSl, gSlL, gNeg, isT, gIsN, gNotN, gAddA, gMulA, gZip, List.map_cons, List.map_nil, List.length_cons, List.length_nil, List.replicate, List.append_eq, List.cons_append, List.nil_append, List.getElem?_cons_zero, List.getElem?_cons_succ, List.set_cons_zero, List.set_cons_succ, Option.map_some, Option.bind_some, Nat.reduceAdd, Nat.reduceSub, Nat.reduceLT, Nat.reduceLeDiff, Nat.reduceEqDiff, Int.reduceToNat, if_true, if_false, Bool.not_true, Bool.not_false, Bool.false_eq_true, List.length_append, Nat.zero_add, String.reduceEq, or_true, true_or, or_false, false_or, and_true, true_and, Nat.add_zero, Int.reduceLT, Int.reduceLE, decide_true, decide_false, decide_eq_true_eq, Int.reduceAdd, Int.reduceSub, Int.reduceMul, Int.reduceNeg, hc, big_eq, hb]
    unfold sFor
    simp only [hi, R.bind, R.go, h2]
    by_cases h5 : own < 0
    · simp [ent, entD, runF, runD, runO, oSeq, sRetO, sSeq, sNil, sSet, sSetO, sRet, sRetN, sIf, sDrop, sBreak, sCont, sAppend, sExtend, sSetIx, sAug, sPar, sAsg, sRaise, mVar, mVarZ, mC, mBin, mT, mTAnd, mTOr, mTNot, mAnd, mOr, mNot, mIf, aNil, aCons, newTup, mTup, mFz, newLst, mLst, mCall, mIxO, mLenO, oNone, oSome, mSl, mBinL, mIsi, mFn, mFnK, mFnD, mFnDO, mUn, mItems, mItC, mYes, asB, R.bind, R.go, R.of, R.noBad, FR.to, FRD.to, tgN, tgsN, tgsC, tgT, gI, gIx, gLen, gAbs, gMax2, gMin2, gMin3, gInt, gTuple, gList, gSl, gSlL, gNeg, isT, gIsN, gNotN, gAddA, gMulA, gZip, List.map_cons, List.map_nil, List.length_cons, List.length_nil, List.replicate, List.append_eq, List.cons_append, List.nil_append, List.getElem?_cons_zero, List.getElem?_cons_succ, List.set_cons_zero, List.set_cons_succ, Option.map_some, Option.bind_some, Nat.reduceAdd, Nat.reduceSub, Nat.reduceLT, Nat.reduceLeDiff, Nat.reduceEqDiff, Int.reduceToNat, if_true, if_false, Bool.not_true, Bool.not_false, Bool.false_eq_true, List.length_append, Nat.zero_add, String.reduceEq, or_true, true_or, or_false, false_or, and_true, true_and, Nat.add_zero, Int.reduceLT, Int.reduceLE, decide_true, decide_false, decide_eq_true_eq, Int.reduceAdd, Int.reduceSub, Int.reduceMul, Int.reduceNeg, gPow, big_eq, h5]
    · by_cases h6 : 10000000000000000 ≤ own
      · simp [ent, entD, runF, runD, runO, oSeq, sRetO, sSeq, sNil, sSet, sSetO, sRet, sRetN, sIf, sDrop, sBreak, sCont, sAppend, sExtend, sSetIx, sAug, sPar, sAsg, sRaise, mVar, mVarZ, mC, mBin, mT, mTAnd, mTOr, mTNot, mAnd, mOr, mNot, mIf, aNil, aCons, newTup, mTup, mFz, newLst, mLst, mCall, mIxO, mLenO, oNone, oSome, mSl, mBinL, mIsi, mFn, mFnK, mFnD, mFnDO, mUn, mItems, mItC, mYes, asB, R.bind, R.go, R.of, R.noBad, FR.to, FRD.to, tgN, tgsN, tgsC, tgT, gI, gIx, gLen, gAbs, gMax2, gMin2, gMin3, gInt, gTuple, gList, gSl, gSlL, gNeg, isT, gIsN, gNotN, gAddA, gMulA, gZip, List.map_cons, List.map_nil, List.length_cons, List.length_nil, List.replicate, List.append_eq, List.cons_append, List.nil_append, List.getElem?_cons_zero, List.getElem?_cons_succ, List.set_cons_zero, List.set_cons_succ, Option.map_some, Option.bind_some, Nat.reduceAdd, Nat.reduceSub, Nat.reduceLT, Nat.reduceLeDiff, Nat.reduceEqDiff, Int.reduceToNat, if_true, if_false, Bool.not_true, Bool.not_false, Bool.false_eq_true, List.length_append, Nat.zero_add, String.reduceEq, or_true, true_or, or_false, false_or, and_true, true_and, Nat.add_zero, Int.reduceLT, Int.reduceLE, decide_true, decide_false, decide_eq_true_eq, Int.reduceAdd, Int.reduceSub, Int.reduceMul, Int.reduceNeg, gPow, big_eq, h5, h6]
      · simp [ent, entD, runF, runD, runO, oSeq, sRetO, sSeq, sNil, sSet, sSetO, sRet, sRetN, sIf, sDrop, sBreak, sCont, sAppend, sExtend, sSetIx, sAug, sPar, sAsg, sRaise, mVar, mVarZ, mC, mBin, mT, mTAnd, mTOr, mTNot, mAnd, mOr, mNot, mIf, aNil, aCons, newTup, mTup, mFz, newLst, mLst, mCall, mIxO, mLenO, oNone, oSome, mSl, mBinL, mIsi, mFn, mFnK, mFnD, mFnDO, mUn, mItems, mItC, mYes, asB, R.bind, R.go, R.of, R.noBad, FR.to, FRD.to, tgN, tgsN, tgsC, tgT, gI, gIx, gLen, gAbs, gMax2, gMin2, gMin3, gInt, gTuple, gList, gSl, gSlL, gNeg, isT, gIsN, gNotN, gAddA, gMulA, gZip, List.map_cons, List.map_nil, List.length_cons, List.length_nil, List.replicate, List.append_eq, List.cons_append, List.nil_append, List.getElem?_cons_zero, List.getElem?_cons_succ, List.set_cons_zero, List.set_cons_succ, Option.map_some, Option.bind_some, Nat.reduceAdd, Nat.reduceSub, Nat.reduceLT, Nat.reduceLeDiff, Nat.reduceEqDiff, Int.reduceToNat, if_true, if_false, Bool.not_true, Bool.not_false, Bool.false_eq_true, List.length_append, Nat.zero_add, String.reduceEq, or_true, true_or, or_false, false_or, and_true, true_and, Nat.add_zero, Int.reduceLT, Int.reduceLE, decide_true, decide_false, decide_eq_true_eq, Int.reduceAdd, Int.reduceSub, Int.reduceMul, Int.reduceNeg, gPow, big_eq, h5, h6]
  refine ⟨_, he, _, _, _, rfl, ?_, h3, h4, by omega, by omega⟩
  split
  · split <;> omega
  · omega
end Y

set_option Elab.async false
set_option linter.all false
set_option maxRecDepth 100000
set_option maxHeartbeats 4000000
namespace Y
open PySem PySem.Spec PyProof.Rows L2
theorem All2.rows {α : Type} {P : List Int → Prop} : ∀ {ds : List α} {l : List D}, All2 (fun _ y => ∃ r : List Int, y = tupI r ∧ P r) ds l → ∃ M : List (List Int), l = M.map tupI ∧ (∀ r ∈ M, P r) ∧ M.length = ds.length
  | _, _, .nil => ⟨[], rfl, by simp, rfl⟩
  | _, _, .cons ⟨r, rfl, hr⟩ q => by
    obtain ⟨M, rfl, hM, hl⟩ := All2.rows q
    exact ⟨r :: M, rfl, by simpa using ⟨hr, hM⟩, by simp [hl]⟩
theorem own2_ok {w m k : Nat} {M : List (List Int)} (h : Gr w m M) (hk : k ≤ 3) {U : List Int} (hU : U ∈ comb m k) {x0 x2 x3 x4 x5 x6 x7 x8 x9 x10 x11 x12 x13 x14 x15 x16 x17 x20 x21 x24 x25 : Sl} :
    c__law_right_2 [x0, .va (.int k), x2, x3, x4, x5, x6, x7, x8, x9, x10, x11, x12, x13, x14, x15, x16, x17, .va (gridD w M), .va (.int m), x20, x21, .va (.int w), .va (tupI U), x24, x25] = .ok (zs ((comb w k).map fun V => det (subm M U V))) [x0, .va (.int k), x2, x3, x4, x5, x6, x7, x8, x9, x10, x11, x12, x13, x14, x15, x16, x17, .va (gridD w M), .va (.int m), x20, x21, .va (.int w), .va (tupI U), x24, x25] := by
  have e2 := some_ok (n := w) (k := k) h.w4 (by omega)
  have hl := comb_len (k := k) h.w4 (by omega)
  unfold c__law_right_2
  rw [mLc_map (ds := (comb w k).map tupI) (f := fun d => match d with | .tup l => (match intsO l with | some V => .int (det (subm M U V)) | none => .non) | d => d)]
  · rw [List.map_map, zs, List.map_map]
    congr 1
    apply List.map_congr_left
    intro V hV
    simp [zs, ints_map]
  · simp [ent, entD, runF, runD, runO, oSeq, sRetO, sSeq, sNil, sSet, sSetO, sRet, sRetN, sIf, sDrop, sBreak, sCont, sAppend, sExtend, sSetIx, sAug, sPar, sAsg, sRaise, mVar, mVarZ, mC, mBin, mT, mTAnd, mTOr, mTNot, mAnd, mOr, mNot, mIf, aNil, aCons, newTup, mTup, mFz, newLst, mLst, mCall, mIxO, mLenO, oNone, oSome, mSl, mBinL, mIsi, mFn, mFnK, mFnD, mFnDO, mUn, mItems, mItC, mYes, asB, R.bind, R.go, R.of, R.noBad, FR.to, FRD.to, tgN, tgsN, tgsC, tgT, gI, gIx, gLen, gAbs, gMax2, gMin2, gMin3, gInt, gTuple, gList, gSl, gSlL, gNeg, isT, gIsN, gNotN, gAddA, gMulA, gZip, List.map_cons, List.map_nil, List.length_cons, List.length_nil, List.replicate, List.append_eq, List.cons_append, List.nil_append, List.getElem?_cons_zero, List.getElem?_cons_succ, List.set_cons_zero, List.set_cons_succ, Option.map_some, Option.bind_some, Nat.reduceAdd, Nat.reduceSub, Nat.reduceLT, Nat.reduceLeDiff, Nat.reduceEqDiff, Int.reduceToNat, if_true, if_false, Bool.not_true, Bool.not_false, Bool.false_eq_true, List.length_append, Nat.zero_add, String.reduceEq, or_true, true_or, or_false, false_or, and_true, true_and, Nat.add_zero, Int.reduceLT, Int.reduceLE, decide_true, decide_false, decide_eq_true_eq, Int.reduceAdd, Int.reduceSub, Int.reduceMul, Int.reduceNeg, e2]
  · simp [big_eq]; omega
  · intro d hd
    obtain ⟨V, hV, rfl⟩ := List.mem_map.1 hd
    have := (part_ok h.rows (by omega) h.len (comb_cho h.m4 (by omega) hU) (comb_cho h.w4 (by omega) hV) hk).2
    simp [ent, entD, runF, runD, runO, oSeq, sRetO, sSeq, sNil, sSet, sSetO, sRet, sRetN, sIf, sDrop, sBreak, sCont, sAppend, sExtend, sSetIx, sAug, sPar, sAsg, sRaise, mVar, mVarZ, mC, mBin, mT, mTAnd, mTOr, mTNot, mAnd, mOr, mNot, mIf, aNil, aCons, newTup, mTup, mFz, newLst, mLst, mCall, mIxO, mLenO, oNone, oSome, mSl, mBinL, mIsi, mFn, mFnK, mFnD, mFnDO, mUn, mItems, mItC, mYes, asB, R.bind, R.go, R.of, R.noBad, FR.to, FRD.to, tgN, tgsN, tgsC, tgT, gI, gIx, gLen, gAbs, gMax2, gMin2, gMin3, gInt, gTuple, gList, gSl, gSlL, gNeg, isT, gIsN, gNotN, gAddA, gMulA, gZip, List.map_cons, List.map_nil, List.length_cons, List.length_nil, List.replicate, List.append_eq, List.cons_append, List.nil_append, List.getElem?_cons_zero, List.getElem?_cons_succ, List.set_cons_zero, List.set_cons_succ, Option.map_some, Option.bind_some, Nat.reduceAdd, Nat.reduceSub, Nat.reduceLT, Nat.reduceLeDiff, Nat.reduceEqDiff, Int.reduceToNat, if_true, if_false, Bool.not_true, Bool.not_false, Bool.false_eq_true, List.length_append, Nat.zero_add, String.reduceEq, or_true, true_or, or_false, false_or, and_true, true_and, Nat.add_zero, Int.reduceLT, Int.reduceLE, decide_true, decide_false, decide_eq_true_eq, Int.reduceAdd, Int.reduceSub, Int.reduceMul, Int.reduceNeg, ix1, this, zs, ints_map]
theorem own1_ok {w m k : Nat} {M : List (List Int)} (h : Gr w m M) (hk : k ≤ 3) {x0 x2 x3 x4 x5 x6 x7 x8 x9 x10 x11 x12 x13 x14 x15 x16 x17 x20 x21 x23 x24 x25 : Sl} :
    c__law_right_1 [x0, .va (.int k), x2, x3, x4, x5, x6, x7, x8, x9, x10, x11, x12, x13, x14, x15, x16, x17, .va (gridD w M), .va (.int m), x20, x21, .va (.int w), x23, x24, x25] = .ok ((table M w k).map tupI) [x0, .va (.int k), x2, x3, x4, x5, x6, x7, x8, x9, x10, x11, x12, x13, x14, x15, x16, x17, .va (gridD w M), .va (.int m), x20, x21, .va (.int w), x23, x24, x25] := by
  have e2 := some_ok (n := m) (k := k) h.m4 (by omega)
  have hl := comb_len (k := k) h.m4 (by omega)
  unfold c__law_right_1
  rw [mLc_map (ds := (comb m k).map tupI) (f := fun d => match d with | .tup l => (match intsO l with | some U => tupI ((comb w k).map fun V => det (subm M U V)) | none => .non) | d => d)]
  · rw [List.map_map, table, List.map_map, h.len]
    congr 1
    apply List.map_congr_left
    intro V hV
    simp [zs, ints_map]
  · simp [ent, entD, runF, runD, runO, oSeq, sRetO, sSeq, sNil, sSet, sSetO, sRet, sRetN, sIf, sDrop, sBreak, sCont, sAppend, sExtend, sSetIx, sAug, sPar, sAsg, sRaise, mVar, mVarZ, mC, mBin, mT, mTAnd, mTOr, mTNot, mAnd, mOr, mNot, mIf, aNil, aCons, newTup, mTup, mFz, newLst, mLst, mCall, mIxO, mLenO, oNone, oSome, mSl, mBinL, mIsi, mFn, mFnK, mFnD, mFnDO, mUn, mItems, mItC, mYes, asB, R.bind, R.go, R.of, R.noBad, FR.to, FRD.to, tgN, tgsN, tgsC, tgT, gI, gIx, gLen, gAbs, gMax2, gMin2, gMin3, gInt, gTuple, gList, gSl, gSlL, gNeg, isT, gIsN, gNotN, gAddA, gMulA, gZip, List.map_cons, List.map_nil, List.length_cons, List.length_nil, List.replicate, List.append_eq, List.cons_append, List.nil_append, List.getElem?_cons_zero, List.getElem?_cons_succ, List.set_cons_zero, List.set_cons_succ, Option.map_some, Option.bind_some, Nat.reduceAdd, Nat.reduceSub, Nat.reduceLT, Nat.reduceLeDiff, Nat.reduceEqDiff, Int.reduceToNat, if_true, if_false, Bool.not_true, Bool.not_false, Bool.false_eq_true, List.length_append, Nat.zero_add, String.reduceEq, or_true, true_or, or_false, false_or, and_true, true_and, Nat.add_zero, Int.reduceLT, Int.reduceLE, decide_true, decide_false, decide_eq_true_eq, Int.reduceAdd, Int.reduceSub, Int.reduceMul, Int.reduceNeg, e2]
  · simp [big_eq]; omega
  · intro d hd
    obtain ⟨U, hU, rfl⟩ := List.mem_map.1 hd
    have := @own2_ok w m k M h hk U hU
    simp only [List.set_cons_succ, List.set_cons_zero, mCall, aCons, aNil, mFz, this, R.bind, gTuple, R.of, ints_map]
theorem other_ok {a n p : Nat} {d : List D} (hd : Dice a d) (hn : n ≤ 10) (hp : p ≤ 10) (ha : a ≤ 2 ^ 40) {x1 x2 x3 x4 x5 x6 x8 x9 x10 x11 x12 x13 x14 x15 x16 x17 x18 x19 x20 x21 x23 x24 x25 : Sl} :
    ∃ B d', c__law_right_3 [.ow d, x1, x2, x3, x4, x5, x6, .va (.int p), x8, x9, x10, x11, x12, x13, x14, x15, x16, x17, x18, x19, x20, x21, .va (.int n), x23, x24, x25] = .ok (B.map tupI) [.ow d', x1, x2, x3, x4, x5, x6, .va (.int p), x8, x9, x10, x11, x12, x13, x14, x15, x16, x17, x18, x19, x20, x21, .va (.int n), x23, x24, x25] ∧ B.length = n ∧ Rows p 2 B ∧ Dice (a + n * p) d' := by
  obtain ⟨l, d', h2, h3, h4⟩ := mLc_dice (v := 24) (n := 0) (by omega) (fun k d => Dice (a + k * p) d) (fun _ y => ∃ r : List Int, y = tupI r ∧ (r.length = p ∧ ∀ x ∈ r, -2 ≤ x ∧ x ≤ 2))
    (mi := mItC gRng1 (aCons (mVar 22) aNil)) (m := mFnD 0 3 F__law_row (aCons (mVar 7) (aCons (mC (.int 2)) aNil)))
    (env := [x1, x2, x3, x4, x5, x6, .va (.int p), x8, x9, x10, x11, x12, x13, x14, x15, x16, x17, x18, x19, x20, x21, .va (.int n), x23, x24, x25]) (d := d) (ds := rngD 0 n) (mItC_ok (by simp [ent, entD, runF, runD, runO, oSeq, sRetO, sSeq, sNil, sSet, sSetO, sRet, sRetN, sIf, sDrop, sBreak, sCont, sAppend, sExtend, sSetIx, sAug, sPar, sAsg, sRaise, mVar, mVarZ, mC, mBin, mT, mTAnd, mTOr, mTNot, mAnd, mOr, mNot, mIf, aNil, aCons, newTup, mTup, mFz, newLst, mLst, mCall, mIxO, mLenO, oNone, oSome, mSl, mBinL, mIsi, mFn, mFnK, mFnD, mFnDO, mUn, mItems, mItC, mYes, asB, R.bind, R.go, R.of, R.noBad, FR.to, FRD.to, tgN, tgsN, tgsC, tgT, gI, gIx, gLen, gAbs, gMax2, gMin2, gMin3, gInt, gTuple, gList, gSl, gSlL, gNeg, isT, gIsN, gNotN, gAddA, gMulA, gZip, List.map_cons, List.map_nil, List.length_cons, List.length_nil, List.replicate, List.append_eq, List.cons_append, List.nil_append, List.getElem?_cons_zero, List.getElem?_cons_succ, List.set_cons_zero, List.set_cons_succ, Option.map_some, Option.bind_some, Nat.reduceAdd, Nat.reduceSub, Nat.reduceLT, Nat.reduceLeDiff, Nat.reduceEqDiff, Int.reduceToNat, if_true, if_false, Bool.not_true, Bool.not_false, Bool.false_eq_true, List.length_append, Nat.zero_add, String.reduceEq, or_true, true_or, or_false, false_or, and_true, true_and, Nat.add_zero, Int.reduceLT, Int.reduceLE, decide_true, decide_false, decide_eq_true_eq, Int.reduceAdd, Int.reduceSub, Int.reduceMul, Int.reduceNeg]) (rng1 (by omega))) (by rw [rng_len, big_eq]; omega) (by simpa using hd) fun k x d hx hk hk2 hd => by
      rw [rng_len] at hk2
      have hkp : k * p ≤ 10 * 10 := Nat.mul_le_mul (by omega) hp
      obtain ⟨r, d', e, l1, b1, hd'⟩ := row_ok (w := p) (m := 2) hd (by omega) (by omega) (by omega) (by omega)
      exact ⟨tupI r, d', by simp [ent, entD, runF, runD, runO, oSeq, sRetO, sSeq, sNil, sSet, sSetO, sRet, sRetN, sIf, sDrop, sBreak, sCont, sAppend, sExtend, sSetIx, sAug, sPar, sAsg, sRaise, mVar, mVarZ, mC, mBin, mT, mTAnd, mTOr, mTNot, mAnd, mOr, mNot, mIf, aNil, aCons, newTup, mTup, mFz, newLst, mLst, mCall, mIxO, mLenO, oNone, oSome, mSl, mBinL, mIsi, mFn, mFnK, mFnD, mFnDO, mUn, mItems, mItC, mYes, asB, R.bind, R.go, R.of, R.noBad, FR.to, FRD.to, tgN, tgsN, tgsC, tgT, gI, gIx, gLen, gAbs, gMax2, gMin2, gMin3, gInt, gTuple, gList, gSl, gSlL, gNeg, isT, gIsN, gNotN, gAddA, gMulA, gZip, List.map_cons, List.map_nil, List.length_cons, List.length_nil, List.replicate, List.append_eq, List.cons_append, List.nil_append, List.getElem?_cons_zero, List.getElem?_cons_succ, List.set_cons_zero, List.set_cons_succ, Option.map_some, Option.bind_some, Nat.reduceAdd, Nat.reduceSub, Nat.reduceLT, Nat.reduceLeDiff, Nat.reduceEqDiff, Int.reduceToNat, if_true, if_false, Bool.not_true, Bool.not_false, Bool.false_eq_true, List.length_append, Nat.zero_add, String.reduceEq, or_true, true_or, or_false, false_or, and_true, true_and, Nat.add_zero, Int.reduceLT, Int.reduceLE, decide_true, decide_false, decide_eq_true_eq, Int.reduceAdd, Int.reduceSub, Int.reduceMul, Int.reduceNeg, e], ⟨_, rfl, l1, b1⟩, by rw [Nat.add_mul, Nat.one_mul, ← Nat.add_assoc]; exact hd'⟩
  obtain ⟨B, rfl, hB, hl⟩ := h3.rows
  rw [rng_len] at hl h4
  exact ⟨B, d', by unfold c__law_right_3; exact h2, hl, ⟨fun r hr => (hB r hr).1, fun r hr => (hB r hr).2⟩, by simpa using h4⟩
theorem square_ok {a p : Nat} {d : List D} (hd : Dice a d) (hn : p ≤ 10) (hp : p ≤ 10) (ha : a ≤ 2 ^ 40) {x1 x2 x3 x4 x5 x6 x7 x8 x9 x10 x11 x12 x13 x14 x15 x16 x17 x18 x20 x21 x22 x23 x24 x25 : Sl} :
    ∃ B d', c__law_right_4 [.ow d, x1, x2, x3, x4, x5, x6, x7, x8, x9, x10, x11, x12, x13, x14, x15, x16, x17, x18, .va (.int p), x20, x21, x22, x23, x24, x25] = .ok (B.map tupI) [.ow d', x1, x2, x3, x4, x5, x6, x7, x8, x9, x10, x11, x12, x13, x14, x15, x16, x17, x18, .va (.int p), x20, x21, x22, x23, x24, x25] ∧ B.length = p ∧ Rows p 3 B ∧ Dice (a + p * p) d' := by
  obtain ⟨l, d', h2, h3, h4⟩ := mLc_dice (v := 24) (n := 0) (by omega) (fun k d => Dice (a + k * p) d) (fun _ y => ∃ r : List Int, y = tupI r ∧ (r.length = p ∧ ∀ x ∈ r, -3 ≤ x ∧ x ≤ 3))
    (mi := mItC gRng1 (aCons (mVar 19) aNil)) (m := mFnD 0 3 F__law_row (aCons (mVar 19) (aCons (mC (.int 3)) aNil)))
    (env := [x1, x2, x3, x4, x5, x6, x7, x8, x9, x10, x11, x12, x13, x14, x15, x16, x17, x18, .va (.int p), x20, x21, x22, x23, x24, x25]) (d := d) (ds := rngD 0 p) (mItC_ok (by simp [ent, entD, runF, runD, runO, oSeq, sRetO, sSeq, sNil, sSet, sSetO, sRet, sRetN, sIf, sDrop, sBreak, sCont, sAppend, sExtend, sSetIx, sAug, sPar, sAsg, sRaise, mVar, mVarZ, mC, mBin, mT, mTAnd, mTOr, mTNot, mAnd, mOr, mNot, mIf, aNil, aCons, newTup, mTup, mFz, newLst, mLst, mCall, mIxO, mLenO, oNone, oSome, mSl, mBinL, mIsi, mFn, mFnK, mFnD, mFnDO, mUn, mItems, mItC, mYes, asB, R.bind, R.go, R.of, R.noBad, FR.to, FRD.to, tgN, tgsN, tgsC, tgT, gI, gIx, gLen, gAbs, gMax2, gMin2, gMin3, gInt, gTuple, gList, gSl, gSlL, gNeg, isT, gIsN, gNotN, gAddA, gMulA, gZip, List.map_cons, List.map_nil, List.length_cons, List.length_nil, List.replicate, List.append_eq, List.cons_append, List.nil_append, List.getElem?_cons_zero, List.getElem?_cons_succ, List.set_cons_zero, List.set_cons_succ, Option.map_some, Option.bind_some, Nat.reduceAdd, Nat.reduceSub, Nat.reduceLT, Nat.reduceLeDiff, Nat.reduceEqDiff, Int.reduceToNat, if_true, if_false, Bool.not_true, Bool.not_false, Bool.false_eq_true, List.length_append, Nat.zero_add, String.reduceEq, or_true, true_or, or_false, false_or, and_true, true_and, Nat.add_zero, Int.reduceLT, Int.reduceLE, decide_true, decide_false, decide_eq_true_eq, Int.reduceAdd, Int.reduceSub, Int.reduceMul, Int.reduceNeg]) (rng1 (by omega))) (by rw [rng_len, big_eq]; omega) (by simpa using hd) fun k x d hx hk hk2 hd => by
      rw [rng_len] at hk2
      have hkp : k * p ≤ 10 * 10 := Nat.mul_le_mul (by omega) hp
      obtain ⟨r, d', e, l1, b1, hd'⟩ := row_ok (w := p) (m := 3) hd (by omega) (by omega) (by omega) (by omega)
      exact ⟨tupI r, d', by simp [ent, entD, runF, runD, runO, oSeq, sRetO, sSeq, sNil, sSet, sSetO, sRet, sRetN, sIf, sDrop, sBreak, sCont, sAppend, sExtend, sSetIx, sAug, sPar, sAsg, sRaise, mVar, mVarZ, mC, mBin, mT, mTAnd, mTOr, mTNot, mAnd, mOr, mNot, mIf, aNil, aCons, newTup, mTup, mFz, newLst, mLst, mCall, mIxO, mLenO, oNone, oSome, mSl, mBinL, mIsi, mFn, mFnK, mFnD, mFnDO, mUn, mItems, mItC, mYes, asB, R.bind, R.go, R.of, R.noBad, FR.to, FRD.to, tgN, tgsN, tgsC, tgT, gI, gIx, gLen, gAbs, gMax2, gMin2, gMin3, gInt, gTuple, gList, gSl, gSlL, gNeg, isT, gIsN, gNotN, gAddA, gMulA, gZip, List.map_cons, List.map_nil, List.length_cons, List.length_nil, List.replicate, List.append_eq, List.cons_append, List.nil_append, List.getElem?_cons_zero, List.getElem?_cons_succ, List.set_cons_zero, List.set_cons_succ, Option.map_some, Option.bind_some, Nat.reduceAdd, Nat.reduceSub, Nat.reduceLT, Nat.reduceLeDiff, Nat.reduceEqDiff, Int.reduceToNat, if_true, if_false, Bool.not_true, Bool.not_false, Bool.false_eq_true, List.length_append, Nat.zero_add, String.reduceEq, or_true, true_or, or_false, false_or, and_true, true_and, Nat.add_zero, Int.reduceLT, Int.reduceLE, decide_true, decide_false, decide_eq_true_eq, Int.reduceAdd, Int.reduceSub, Int.reduceMul, Int.reduceNeg, e], ⟨_, rfl, l1, b1⟩, by rw [Nat.add_mul, Nat.one_mul, ← Nat.add_assoc]; exact hd'⟩
  obtain ⟨B, rfl, hB, hl⟩ := h3.rows
  rw [rng_len] at hl h4
  exact ⟨B, d', by unfold c__law_right_4; exact h2, hl, ⟨fun r hr => (hB r hr).1, fun r hr => (hB r hr).2⟩, by simpa using h4⟩
theorem str6_ok {n : Nat} {i W : Int} (hn : n ≤ 3) {x0 x1 x2 x3 x4 x5 x6 x7 x8 x10 x11 x12 x13 x14 x15 x16 x17 x18 x20 x21 x22 x24 x25 : Sl} :
    c__law_right_6 [x0, x1, x2, x3, x4, x5, x6, x7, x8, .va (.int W), x10, x11, x12, x13, x14, x15, x16, x17, x18, .va (.int n), x20, x21, x22, .va (.int i), x24, x25] = .ok (zs ((List.range n).map fun j : Nat => if i = (j : Int) then W else 0)) [x0, x1, x2, x3, x4, x5, x6, x7, x8, .va (.int W), x10, x11, x12, x13, x14, x15, x16, x17, x18, .va (.int n), x20, x21, x22, .va (.int i), x24, x25] := by
  unfold c__law_right_6
  rw [mLc_map (ds := rngD 0 n) (f := fun d => match d with | .int j => .int (if i = j then W else 0) | d => d)]
  · unfold rngD zs
    rw [List.map_map, List.map_map]
    simp [Function.comp_def]
  · exact mItC_ok (by simp [ent, entD, runF, runD, runO, oSeq, sRetO, sSeq, sNil, sSet, sSetO, sRet, sRetN, sIf, sDrop, sBreak, sCont, sAppend, sExtend, sSetIx, sAug, sPar, sAsg, sRaise, mVar, mVarZ, mC, mBin, mT, mTAnd, mTOr, mTNot, mAnd, mOr, mNot, mIf, aNil, aCons, newTup, mTup, mFz, newLst, mLst, mCall, mIxO, mLenO, oNone, oSome, mSl, mBinL, mIsi, mFn, mFnK, mFnD, mFnDO, mUn, mItems, mItC, mYes, asB, R.bind, R.go, R.of, R.noBad, FR.to, FRD.to, tgN, tgsN, tgsC, tgT, gI, gIx, gLen, gAbs, gMax2, gMin2, gMin3, gInt, gTuple, gList, gSl, gSlL, gNeg, isT, gIsN, gNotN, gAddA, gMulA, gZip, List.map_cons, List.map_nil, List.length_cons, List.length_nil, List.replicate, List.append_eq, List.cons_append, List.nil_append, List.getElem?_cons_zero, List.getElem?_cons_succ, List.set_cons_zero, List.set_cons_succ, Option.map_some, Option.bind_some, Nat.reduceAdd, Nat.reduceSub, Nat.reduceLT, Nat.reduceLeDiff, Nat.reduceEqDiff, Int.reduceToNat, if_true, if_false, Bool.not_true, Bool.not_false, Bool.false_eq_true, List.length_append, Nat.zero_add, String.reduceEq, or_true, true_or, or_false, false_or, and_true, true_and, Nat.add_zero, Int.reduceLT, Int.reduceLE, decide_true, decide_false, decide_eq_true_eq, Int.reduceAdd, Int.reduceSub, Int.reduceMul, Int.reduceNeg]) (rng1 (n := n) (by omega))
  · rw [rng_len, big_eq]; omega
  · intro d hd
    obtain ⟨j, hj, rfl⟩ := List.mem_map.1 hd
    by_cases hij : i = 0 + (j : Int)
    · rw [hij]
      simp [ent, entD, runF, runD, runO, oSeq, sRetO, sSeq, sNil, sSet, sSetO, sRet, sRetN, sIf, sDrop, sBreak, sCont, sAppend, sExtend, sSetIx, sAug, sPar, sAsg, sRaise, mVar, mVarZ, mC, mBin, mT, mTAnd, mTOr, mTNot, mAnd, mOr, mNot, mIf, aNil, aCons, newTup, mTup, mFz, newLst, mLst, mCall, mIxO, mLenO, oNone, oSome, mSl, mBinL, mIsi, mFn, mFnK, mFnD, mFnDO, mUn, mItems, mItC, mYes, asB, R.bind, R.go, R.of, R.noBad, FR.to, FRD.to, tgN, tgsN, tgsC, tgT, gI, gIx, gLen, gAbs, gMax2, gMin2, gMin3, gInt, gTuple, gList, gSl, gSlL, gNeg, isT, gIsN, gNotN, gAddA, gMulA, gZip, List.map_cons, List.map_nil, List.length_cons, List.length_nil, List.replicate, List.append_eq, List.cons_append, List.nil_append, List.getElem?_cons_zero, List.getElem?_cons_succ, List.set_cons_zero, List.set_cons_succ, Option.map_some, Option.bind_some, Nat.reduceAdd, Nat.reduceSub, Nat.reduceLT, Nat.reduceLeDiff, Nat.reduceEqDiff, Int.reduceToNat, if_true, if_false, Bool.not_true, Bool.not_false, Bool.false_eq_true, List.length_append, Nat.zero_add, String.reduceEq, or_true, true_or, or_false, false_or, and_true, true_and, Nat.add_zero, Int.reduceLT, Int.reduceLE, decide_true, decide_false, decide_eq_true_eq, Int.reduceAdd, Int.reduceSub, Int.reduceMul, Int.reduceNeg, eqI]
    · have h2 : ¬ i = (j : Int) := by omega
      simp [ent, entD, runF, runD, runO, oSeq, sRetO, sSeq, sNil, sSet, sSetO, sRet, sRetN, sIf, sDrop, sBreak, sCont, sAppend, sExtend, sSetIx, sAug, sPar, sAsg, sRaise, mVar, mVarZ, mC, mBin, mT, mTAnd, mTOr, mTNot, mAnd, mOr, mNot, mIf, aNil, aCons, newTup, mTup, mFz, newLst, mLst, mCall, mIxO, mLenO, oNone, oSome, mSl, mBinL, mIsi, mFn, mFnK, mFnD, mFnDO, mUn, mItems, mItC, mYes, asB, R.bind, R.go, R.of, R.noBad, FR.to, FRD.to, tgN, tgsN, tgsC, tgT, gI, gIx, gLen, gAbs, gMax2, gMin2, gMin3, gInt, gTuple, gList, gSl, gSlL, gNeg, isT, gIsN, gNotN, gAddA, gMulA, gZip, List.map_cons, List.map_nil, List.length_cons, List.length_nil, List.replicate, List.append_eq, List.cons_append, List.nil_append, List.getElem?_cons_zero, List.getElem?_cons_succ, List.set_cons_zero, List.set_cons_succ, Option.map_some, Option.bind_some, Nat.reduceAdd, Nat.reduceSub, Nat.reduceLT, Nat.reduceLeDiff, Nat.reduceEqDiff, Int.reduceToNat, if_true, if_false, Bool.not_true, Bool.not_false, Bool.false_eq_true, List.length_append, Nat.zero_add, String.reduceEq, or_true, true_or, or_false, false_or, and_true, true_and, Nat.add_zero, Int.reduceLT, Int.reduceLE, decide_true, decide_false, decide_eq_true_eq, Int.reduceAdd, Int.reduceSub, Int.reduceMul, Int.reduceNeg, eqI, h2]
theorem str5_ok {n : Nat} {W : Int} (hn : n ≤ 3) {x0 x1 x2 x3 x4 x5 x6 x7 x8 x10 x11 x12 x13 x14 x15 x16 x17 x18 x20 x21 x22 x23 x24 x25 : Sl} :
    c__law_right_5 [x0, x1, x2, x3, x4, x5, x6, x7, x8, .va (.int W), x10, x11, x12, x13, x14, x15, x16, x17, x18, .va (.int n), x20, x21, x22, x23, x24, x25] = .ok ((strM n W).map tupI) [x0, x1, x2, x3, x4, x5, x6, x7, x8, .va (.int W), x10, x11, x12, x13, x14, x15, x16, x17, x18, .va (.int n), x20, x21, x22, x23, x24, x25] := by
  unfold c__law_right_5
  rw [mLc_map (ds := rngD 0 n) (f := fun d => match d with | .int i => tupI ((List.range n).map fun j : Nat => if i = (j : Int) then W else 0) | d => d)]
  · unfold rngD strM
    rw [List.map_map, List.map_map]
    congr 1
    apply List.map_congr_left
    intro i _
    simp only [Function.comp_apply, Int.zero_add]
    congr 2
    funext j
    by_cases h : i = j
    · simp [h]
    · have : ¬ (i : Int) = j := by omega
      simp [h, this]
  · exact mItC_ok (by simp [ent, entD, runF, runD, runO, oSeq, sRetO, sSeq, sNil, sSet, sSetO, sRet, sRetN, sIf, sDrop, sBreak, sCont, sAppend, sExtend, sSetIx, sAug, sPar, sAsg, sRaise, mVar, mVarZ, mC, mBin, mT, mTAnd, mTOr, mTNot, mAnd, mOr, mNot, mIf, aNil, aCons, newTup, mTup, mFz, newLst, mLst, mCall, mIxO, mLenO, oNone, oSome, mSl, mBinL, mIsi, mFn, mFnK, mFnD, mFnDO, mUn, mItems, mItC, mYes, asB, R.bind, R.go, R.of, R.noBad, FR.to, FRD.to, tgN, tgsN, tgsC, tgT, gI, gIx, gLen, gAbs, gMax2, gMin2, gMin3, gInt, gTuple, gList, gSl, gSlL, gNeg, isT, gIsN, gNotN, gAddA, gMulA, gZip, List.map_cons, List.map_nil, List.length_cons, List.length_nil, List.replicate, List.append_eq, List.cons_append, List.nil_append, List.getElem?_cons_zero, List.getElem?_cons_succ, List.set_cons_zero, List.set_cons_succ, Option.map_some, Option.bind_some, Nat.reduceAdd, Nat.reduceSub, Nat.reduceLT, Nat.reduceLeDiff, Nat.reduceEqDiff, Int.reduceToNat, if_true, if_false, Bool.not_true, Bool.not_false, Bool.false_eq_true, List.length_append, Nat.zero_add, String.reduceEq, or_true, true_or, or_false, false_or, and_true, true_and, Nat.add_zero, Int.reduceLT, Int.reduceLE, decide_true, decide_false, decide_eq_true_eq, Int.reduceAdd, Int.reduceSub, Int.reduceMul, Int.reduceNeg]) (rng1 (n := n) (by omega))
  · rw [rng_len, big_eq]; omega
  · intro d hd
    obtain ⟨i, hi, rfl⟩ := List.mem_map.1 hd
    have := @str6_ok n (0 + (i : Int)) W hn
    simp only [List.set_cons_succ, List.set_cons_zero, mCall, aCons, aNil, mFz, this, R.bind, gTuple, R.of]
end Y

set_option Elab.async false
set_option linter.all false
set_option maxRecDepth 100000
set_option maxHeartbeats 4000000
namespace Y
open PySem PySem.Spec PyProof.Rows L2
theorem dot_bd4 {n a b : Nat} {r s : List Int} (hn : n ≤ 4) (lr : r.length = n) (ls : s.length = n) (hr : ∀ x ∈ r, Bd a x) (hs : ∀ x ∈ s, Bd b x) : Bd (a + b + 2) (dot r s) := by
  rcases Nat.lt_or_ge n 4 with h | h
  · exact dot_bd (by omega) lr ls hr hs
  · have h4 : n = 4 := by omega
    subst h4
    match r, s, lr, ls with
    | [x, x1, x2, x3], [y, y1, y2, y3], _, _ =>
      have := (((hr x (by simp)).mul (hs y (by simp))).add ((hr x1 (by simp)).mul (hs y1 (by simp)))).add (((hr x2 (by simp)).mul (hs y2 (by simp))).add ((hr x3 (by simp)).mul (hs y3 (by simp))))
      simpa [dot, Int.add_assoc] using this
theorem right_ok {d : List D} (hd : Dice 0 d) : ∃ d', F__law_right d [] = .ok (.bl true) d' := by
  obtain ⟨v1, d1, r1, a1, b1, D1⟩ := roll_ok (m := 4) hd (by omega) (by omega) (by omega)
  obtain ⟨v2, d2, r2, a2, b2, D2⟩ := roll_ok (m := 3) D1 (by omega) (by omega) (by omega)
  obtain ⟨w, hw⟩ : ∃ w : Nat, 1 + v1 = (w : Int) := ⟨(1 + v1).toNat, by omega⟩
  obtain ⟨m, hm⟩ : ∃ m : Nat, 1 + v2 = (m : Int) := ⟨(1 + v2).toNat, by omega⟩
  have w1 : 1 ≤ w := by omega
  have w4 : w ≤ 4 := by omega
  have m1 : 1 ≤ m := by omega
  have m3 : m ≤ 3 := by omega
  obtain ⟨M, d3, r3, lM, RM, D3⟩ := grid_ok D2 (w := w) (k := m) (by omega) w1 (by omega) (by omega)
  have hc3 : m * (2 * w + 2) ≤ 3 * (2 * 4 + 2) := Nat.mul_le_mul m3 (by omega)
  have p6 : (6 : Int) ^ m ≤ 216 := by
    have : m = 1 ∨ m = 2 ∨ m = 3 := by omega
    rcases this with rfl | rfl | rfl <;> decide
  have RM6 : Rows w 216 M := ⟨RM.len, fun r hr x hx => by have := RM.le r hr x hx; omega⟩
  have GM : Gr w m M := ⟨w1, w4, by omega, lM, ⟨RM.len, fun r hr x hx => by have := RM.le r hr x hx; omega⟩⟩
  obtain ⟨L, hL⟩ : ∃ L : Nat, L = min w m := ⟨_, rfl⟩
  have hmin : (if m < w then (m : Int) else w) = (L : Int) := by split <;> omega
  obtain ⟨v4, d4, r4, a4, b4, D4⟩ := roll_ok (m := L) D3 (by omega) (by omega) (by omega)
  obtain ⟨k, hk⟩ : ∃ k : Nat, 1 + v4 = (k : Int) := ⟨(1 + v4).toNat, by omega⟩
  have k1 : 1 ≤ k := by omega
  have kL : k ≤ L := by omega
  have k3 : k ≤ 3 := by omega
  have comb_ne : ∀ n k : Nat, n ≤ 4 → k ≤ n → comb n k ≠ [] := by
    intro n k hn hk
    have key : (List.range 5).all (fun n => (List.range 5).all fun k => !decide (k ≤ n) || !(comb n k).isEmpty) = true := by decide +kernel
    have h1 := (List.all_eq_true.1 ((List.all_eq_true.1 key) n (List.mem_range.2 (by omega)))) k (List.mem_range.2 (by omega))
    simpa [hk] using h1
  have pickC : ∀ (n k a : Nat) (d : List D), Dice a d → a ≤ 2 ^ 50 → n ≤ 4 → k ≤ n → ∃ U d', F__law_pick d [.lst ((comb n k).map tupI)] = .ok (tupI U) d' ∧ U ∈ comb n k ∧ Dice (a + 1) d' := by
    intro n k a d hd ha hn hk
    obtain ⟨v, d', e, hv, hd'⟩ := pick_ok (l := (comb n k).map tupI) hd (by simpa using comb_ne n k hn hk) (by have := comb_len (n := n) (k := k) hn (by omega); simp [big_eq]; omega) (by omega)
    obtain ⟨U, hU, rfl⟩ := List.mem_map.1 hv
    exact ⟨U, d', e, hU, hd'⟩
  obtain ⟨U, d5, r5, hU, D5⟩ := pickC m k _ _ D4 (by omega) (by omega) (by omega)
  obtain ⟨V, d6, r6, hV, D6⟩ := pickC w k _ _ D5 (by omega) (by omega) (by omega)
  have sm := some_ok (n := m) (k := k) (by omega) (by omega)
  have sw := some_ok (n := w) (k := k) (by omega) (by omega)
  have fminor := minor_ok GM k3 hU hV
  have fpart := (part_ok GM.rows (by decide) lM (comb_cho (n := m) (k := k) (by omega) (by omega) hU) (comb_cho (n := w) (k := k) (by omega) (by omega) hV) k3).2
  have fcomp := compound_ok GM k1 (by omega) (by omega) k3
  have fcm := cminor_ok GM k1 (by omega) (by omega) k3
  have fdv := divisor_ok GM k3
  have frank := rank_ok GM hL (by omega) (by omega)
  have flrank := lrank_ok GM hL (by omega) (by omega)
  have layM : ∀ A : List (List Int), Lay 64 (tupM A) := fun A => (Lay.tup (k := 63) fun d hd => by
    obtain ⟨r, _, rfl⟩ := List.mem_map.1 hd
    exact Lay.tup (k := 62) fun d hd => by
      obtain ⟨x, _, rfl⟩ := List.mem_map.1 hd
      exact Lay.int _)
  have neM : ∀ A : List (List Int), gEqB true (tupM A) (tupM A) = some (.bl false) := fun A => eq_self' (n := true) (layM A)
  obtain ⟨v7, d7, r7, a7, b7, D7⟩ := roll_ok (m := 3) D6 (by omega) (by omega) (by omega)
  obtain ⟨p, hp⟩ : ∃ p : Nat, 1 + v7 = (p : Int) := ⟨(1 + v7).toNat, by omega⟩
  have p1 : 1 ≤ p := by omega
  have p3 : p ≤ 3 := by omega

  unfold F__law_right m__law_right runD
  rw [show entD 26 d [] = [.ow d, .un, .un, .un, .un, .un, .un, .un, .un, .un, .un, .un, .un, .un, .un, .un, .un, .un, .un, .un, .un, .un, .un, .un, .un, .un] from rfl]
  rw [seq_nx (e := [.ow d2, .un, .un, .un, .un, .un, .un, .un, .un, .un, .un, .un, .un, .un, .un, .un, .un, .un, .un, .va (.int m), .un, .un, .va (.int w), .un, .un, .un]) (by simp [ent, entD, runF, runD, runO, oSeq, sRetO, sSeq, sNil, sSet, sSetO, sRet, sRetN, sIf, sDrop, sBreak, sCont, sAppend, sExtend, sSetIx, sAug, sPar, sAsg, sRaise, mVar, mVarZ, mC, mBin, mT, mTAnd, mTOr, mTNot, mAnd, mOr, mNot, mIf, aNil, aCons, newTup, mTup, mFz, newLst, mLst, mCall, mIxO, mLenO, oNone, oSome, mSl, mBinL, mIsi, mFn, mFnK, mFnD, mFnDO, mUn, mItems, mItC, mYes, asB, R.bind, R.go, R.of, R.noBad, FR.to, FRD.to, tgN, tgsN, tgsC, tgT, gI, gIx, gLen, gAbs, gMax2, gMin2, gMin3, gInt, gTuple, gList, gSl, gSlL, gNeg, isT, gIsN, gNotN, gAddA, gMulA, gZip, List.map_cons, List.map_nil, List.length_cons, List.length_nil, List.replicate, List.append_eq, List.cons_append, List.nil_append, List.getElem?_cons_zero, List.getElem?_cons_succ, List.set_cons_zero, List.set_cons_succ, Option.map_some, Option.bind_some, Nat.reduceAdd, Nat.reduceSub, Nat.reduceLT, Nat.reduceLeDiff, Nat.reduceEqDiff, Int.reduceToNat, if_true, if_false, Bool.not_true, Bool.not_false, Bool.false_eq_true, List.length_append, Nat.zero_add, String.reduceEq, or_true, true_or, or_false, false_or, and_true, true_and, Nat.add_zero, Int.reduceLT, Int.reduceLE, decide_true, decide_false, decide_eq_true_eq, Int.reduceAdd, Int.reduceSub, Int.reduceMul, Int.reduceNeg, big_eq, r1, r2, hw, hm])]
  rw [seq_nx (e := [.ow d3, .un, .un, .un, .un, .un, .un, .un, .un, .un, .un, .un, .un, .un, .un, .un, .un, .un, .va (gridD w M), .va (.int m), .un, .un, .va (.int w), .un, .un, .un]) (by simp [ent, entD, runF, runD, runO, oSeq, sRetO, sSeq, sNil, sSet, sSetO, sRet, sRetN, sIf, sDrop, sBreak, sCont, sAppend, sExtend, sSetIx, sAug, sPar, sAsg, sRaise, mVar, mVarZ, mC, mBin, mT, mTAnd, mTOr, mTNot, mAnd, mOr, mNot, mIf, aNil, aCons, newTup, mTup, mFz, newLst, mLst, mCall, mIxO, mLenO, oNone, oSome, mSl, mBinL, mIsi, mFn, mFnK, mFnD, mFnDO, mUn, mItems, mItC, mYes, asB, R.bind, R.go, R.of, R.noBad, FR.to, FRD.to, tgN, tgsN, tgsC, tgT, gI, gIx, gLen, gAbs, gMax2, gMin2, gMin3, gInt, gTuple, gList, gSl, gSlL, gNeg, isT, gIsN, gNotN, gAddA, gMulA, gZip, List.map_cons, List.map_nil, List.length_cons, List.length_nil, List.replicate, List.append_eq, List.cons_append, List.nil_append, List.getElem?_cons_zero, List.getElem?_cons_succ, List.set_cons_zero, List.set_cons_succ, Option.map_some, Option.bind_some, Nat.reduceAdd, Nat.reduceSub, Nat.reduceLT, Nat.reduceLeDiff, Nat.reduceEqDiff, Int.reduceToNat, if_true, if_false, Bool.not_true, Bool.not_false, Bool.false_eq_true, List.length_append, Nat.zero_add, String.reduceEq, or_true, true_or, or_false, false_or, and_true, true_and, Nat.add_zero, Int.reduceLT, Int.reduceLE, decide_true, decide_false, decide_eq_true_eq, Int.reduceAdd, Int.reduceSub, Int.reduceMul, Int.reduceNeg, big_eq, r3])]
  rw [seq_nx (e := [.ow d4, .va (.int k), .un, .un, .un, .un, .un, .un, .un, .un, .un, .un, .un, .un, .un, .un, .un, .un, .va (gridD w M), .va (.int m), .un, .un, .va (.int w), .un, .un, .un]) (by simp [ent, entD, runF, runD, runO, oSeq, sRetO, sSeq, sNil, sSet, sSetO, sRet, sRetN, sIf, sDrop, sBreak, sCont, sAppend, sExtend, sSetIx, sAug, sPar, sAsg, sRaise, mVar, mVarZ, mC, mBin, mT, mTAnd, mTOr, mTNot, mAnd, mOr, mNot, mIf, aNil, aCons, newTup, mTup, mFz, newLst, mLst, mCall, mIxO, mLenO, oNone, oSome, mSl, mBinL, mIsi, mFn, mFnK, mFnD, mFnDO, mUn, mItems, mItC, mYes, asB, R.bind, R.go, R.of, R.noBad, FR.to, FRD.to, tgN, tgsN, tgsC, tgT, gI, gIx, gLen, gAbs, gMax2, gMin2, gMin3, gInt, gTuple, gList, gSl, gSlL, gNeg, isT, gIsN, gNotN, gAddA, gMulA, gZip, List.map_cons, List.map_nil, List.length_cons, List.length_nil, List.replicate, List.append_eq, List.cons_append, List.nil_append, List.getElem?_cons_zero, List.getElem?_cons_succ, List.set_cons_zero, List.set_cons_succ, Option.map_some, Option.bind_some, Nat.reduceAdd, Nat.reduceSub, Nat.reduceLT, Nat.reduceLeDiff, Nat.reduceEqDiff, Int.reduceToNat, if_true, if_false, Bool.not_true, Bool.not_false, Bool.false_eq_true, List.length_append, Nat.zero_add, String.reduceEq, or_true, true_or, or_false, false_or, and_true, true_and, Nat.add_zero, Int.reduceLT, Int.reduceLE, decide_true, decide_false, decide_eq_true_eq, Int.reduceAdd, Int.reduceSub, Int.reduceMul, Int.reduceNeg, big_eq, hmin, r4, hk])]
  rw [seq_nx (e := [.ow d6, .va (.int k), .va (tupI U), .va (tupI V), .un, .un, .un, .un, .un, .un, .un, .un, .un, .un, .un, .un, .un, .un, .va (gridD w M), .va (.int m), .un, .un, .va (.int w), .un, .un, .un]) (by simp [ent, entD, runF, runD, runO, oSeq, sRetO, sSeq, sNil, sSet, sSetO, sRet, sRetN, sIf, sDrop, sBreak, sCont, sAppend, sExtend, sSetIx, sAug, sPar, sAsg, sRaise, mVar, mVarZ, mC, mBin, mT, mTAnd, mTOr, mTNot, mAnd, mOr, mNot, mIf, aNil, aCons, newTup, mTup, mFz, newLst, mLst, mCall, mIxO, mLenO, oNone, oSome, mSl, mBinL, mIsi, mFn, mFnK, mFnD, mFnDO, mUn, mItems, mItC, mYes, asB, R.bind, R.go, R.of, R.noBad, FR.to, FRD.to, tgN, tgsN, tgsC, tgT, gI, gIx, gLen, gAbs, gMax2, gMin2, gMin3, gInt, gTuple, gList, gSl, gSlL, gNeg, isT, gIsN, gNotN, gAddA, gMulA, gZip, List.map_cons, List.map_nil, List.length_cons, List.length_nil, List.replicate, List.append_eq, List.cons_append, List.nil_append, List.getElem?_cons_zero, List.getElem?_cons_succ, List.set_cons_zero, List.set_cons_succ, Option.map_some, Option.bind_some, Nat.reduceAdd, Nat.reduceSub, Nat.reduceLT, Nat.reduceLeDiff, Nat.reduceEqDiff, Int.reduceToNat, if_true, if_false, Bool.not_true, Bool.not_false, Bool.false_eq_true, List.length_append, Nat.zero_add, String.reduceEq, or_true, true_or, or_false, false_or, and_true, true_and, Nat.add_zero, Int.reduceLT, Int.reduceLE, decide_true, decide_false, decide_eq_true_eq, Int.reduceAdd, Int.reduceSub, Int.reduceMul, Int.reduceNeg, big_eq, sm, sw, r5, r6])]
  rw [seq_nx (e := [.ow d6, .va (.int k), .va (tupI U), .va (tupI V), .un, .un, .un, .un, .un, .un, .un, .un, .un, .un, .un, .un, .un, .un, .va (gridD w M), .va (.int m), .un, .un, .va (.int w), .un, .un, .un]) (by simp [ent, entD, runF, runD, runO, oSeq, sRetO, sSeq, sNil, sSet, sSetO, sRet, sRetN, sIf, sDrop, sBreak, sCont, sAppend, sExtend, sSetIx, sAug, sPar, sAsg, sRaise, mVar, mVarZ, mC, mBin, mT, mTAnd, mTOr, mTNot, mAnd, mOr, mNot, mIf, aNil, aCons, newTup, mTup, mFz, newLst, mLst, mCall, mIxO, mLenO, oNone, oSome, mSl, mBinL, mIsi, mFn, mFnK, mFnD, mFnDO, mUn, mItems, mItC, mYes, asB, R.bind, R.go, R.of, R.noBad, FR.to, FRD.to, tgN, tgsN, tgsC, tgT, gI, gIx, gLen, gAbs, gMax2, gMin2, gMin3, gInt, gTuple, gList, gSl, gSlL, gNeg, isT, gIsN, gNotN, gAddA, gMulA, gZip, List.map_cons, List.map_nil, List.length_cons, List.length_nil, List.replicate, List.append_eq, List.cons_append, List.nil_append, List.getElem?_cons_zero, List.getElem?_cons_succ, List.set_cons_zero, List.set_cons_succ, Option.map_some, Option.bind_some, Nat.reduceAdd, Nat.reduceSub, Nat.reduceLT, Nat.reduceLeDiff, Nat.reduceEqDiff, Int.reduceToNat, if_true, if_false, Bool.not_true, Bool.not_false, Bool.false_eq_true, List.length_append, Nat.zero_add, String.reduceEq, or_true, true_or, or_false, false_or, and_true, true_and, Nat.add_zero, Int.reduceLT, Int.reduceLE, decide_true, decide_false, decide_eq_true_eq, Int.reduceAdd, Int.reduceSub, Int.reduceMul, Int.reduceNeg, big_eq, ix1, fminor, fpart, neI])]
  rw [seq_nx (e := [.ow d6, .va (.int k), .va (tupI U), .va (tupI V), .va (tupM (table M w k)), .un, .un, .un, .un, .un, .un, .un, .un, .un, .un, .un, .un, .un, .va (gridD w M), .va (.int m), .un, .un, .va (.int w), .un, .un, .un]) (by simp [ent, entD, runF, runD, runO, oSeq, sRetO, sSeq, sNil, sSet, sSetO, sRet, sRetN, sIf, sDrop, sBreak, sCont, sAppend, sExtend, sSetIx, sAug, sPar, sAsg, sRaise, mVar, mVarZ, mC, mBin, mT, mTAnd, mTOr, mTNot, mAnd, mOr, mNot, mIf, aNil, aCons, newTup, mTup, mFz, newLst, mLst, mCall, mIxO, mLenO, oNone, oSome, mSl, mBinL, mIsi, mFn, mFnK, mFnD, mFnDO, mUn, mItems, mItC, mYes, asB, R.bind, R.go, R.of, R.noBad, FR.to, FRD.to, tgN, tgsN, tgsC, tgT, gI, gIx, gLen, gAbs, gMax2, gMin2, gMin3, gInt, gTuple, gList, gSl, gSlL, gNeg, isT, gIsN, gNotN, gAddA, gMulA, gZip, List.map_cons, List.map_nil, List.length_cons, List.length_nil, List.replicate, List.append_eq, List.cons_append, List.nil_append, List.getElem?_cons_zero, List.getElem?_cons_succ, List.set_cons_zero, List.set_cons_succ, Option.map_some, Option.bind_some, Nat.reduceAdd, Nat.reduceSub, Nat.reduceLT, Nat.reduceLeDiff, Nat.reduceEqDiff, Int.reduceToNat, if_true, if_false, Bool.not_true, Bool.not_false, Bool.false_eq_true, List.length_append, Nat.zero_add, String.reduceEq, or_true, true_or, or_false, false_or, and_true, true_and, Nat.add_zero, Int.reduceLT, Int.reduceLE, decide_true, decide_false, decide_eq_true_eq, Int.reduceAdd, Int.reduceSub, Int.reduceMul, Int.reduceNeg, big_eq, fcomp])]
  rw [seq_nx (e := [.ow d6, .va (.int k), .va (tupI U), .va (tupI V), .va (tupM (table M w k)), .un, .va (tupM (table M w k)), .un, .un, .un, .un, .un, .un, .un, .un, .un, .un, .un, .va (gridD w M), .va (.int m), .un, .un, .va (.int w), .un, .un, .un]) (by simp only [sSet, mCall, aCons, aNil, mFz, own1_ok GM k3, R.bind, gTuple, R.of, R.go, List.set_cons_succ, List.set_cons_zero])]
  rw [seq_nx (e := [.ow d6, .va (.int k), .va (tupI U), .va (tupI V), .va (tupM (table M w k)), .un, .va (tupM (table M w k)), .un, .un, .un, .un, .un, .un, .un, .un, .un, .un, .un, .va (gridD w M), .va (.int m), .un, .un, .va (.int w), .un, .un, .un]) (by simp [ent, entD, runF, runD, runO, oSeq, sRetO, sSeq, sNil, sSet, sSetO, sRet, sRetN, sIf, sDrop, sBreak, sCont, sAppend, sExtend, sSetIx, sAug, sPar, sAsg, sRaise, mVar, mVarZ, mC, mBin, mT, mTAnd, mTOr, mTNot, mAnd, mOr, mNot, mIf, aNil, aCons, newTup, mTup, mFz, newLst, mLst, mCall, mIxO, mLenO, oNone, oSome, mSl, mBinL, mIsi, mFn, mFnK, mFnD, mFnDO, mUn, mItems, mItC, mYes, asB, R.bind, R.go, R.of, R.noBad, FR.to, FRD.to, tgN, tgsN, tgsC, tgT, gI, gIx, gLen, gAbs, gMax2, gMin2, gMin3, gInt, gTuple, gList, gSl, gSlL, gNeg, isT, gIsN, gNotN, gAddA, gMulA, gZip, List.map_cons, List.map_nil, List.length_cons, List.length_nil, List.replicate, List.append_eq, List.cons_append, List.nil_append, List.getElem?_cons_zero, List.getElem?_cons_succ, List.set_cons_zero, List.set_cons_succ, Option.map_some, Option.bind_some, Nat.reduceAdd, Nat.reduceSub, Nat.reduceLT, Nat.reduceLeDiff, Nat.reduceEqDiff, Int.reduceToNat, if_true, if_false, Bool.not_true, Bool.not_false, Bool.false_eq_true, List.length_append, Nat.zero_add, String.reduceEq, or_true, true_or, or_false, false_or, and_true, true_and, Nat.add_zero, Int.reduceLT, Int.reduceLE, decide_true, decide_false, decide_eq_true_eq, Int.reduceAdd, Int.reduceSub, Int.reduceMul, Int.reduceNeg, big_eq, ix1, neM, fcm, fdv, neI])]
  rw [seq_nx (e := [.ow d6, .va (.int k), .va (tupI U), .va (tupI V), .va (tupM (table M w k)), .un, .va (tupM (table M w k)), .un, .un, .un, .un, .un, .un, .un, .un, .un, .un, .un, .va (gridD w M), .va (.int m), .un, .un, .va (.int w), .un, .un, .un]) (by simp [ent, entD, runF, runD, runO, oSeq, sRetO, sSeq, sNil, sSet, sSetO, sRet, sRetN, sIf, sDrop, sBreak, sCont, sAppend, sExtend, sSetIx, sAug, sPar, sAsg, sRaise, mVar, mVarZ, mC, mBin, mT, mTAnd, mTOr, mTNot, mAnd, mOr, mNot, mIf, aNil, aCons, newTup, mTup, mFz, newLst, mLst, mCall, mIxO, mLenO, oNone, oSome, mSl, mBinL, mIsi, mFn, mFnK, mFnD, mFnDO, mUn, mItems, mItC, mYes, asB, R.bind, R.go, R.of, R.noBad, FR.to, FRD.to, tgN, tgsN, tgsC, tgT, gI, gIx, gLen, gAbs, gMax2, gMin2, gMin3, gInt, gTuple, gList, gSl, gSlL, gNeg, isT, gIsN, gNotN, gAddA, gMulA, gZip, List.map_cons, List.map_nil, List.length_cons, List.length_nil, List.replicate, List.append_eq, List.cons_append, List.nil_append, List.getElem?_cons_zero, List.getElem?_cons_succ, List.set_cons_zero, List.set_cons_succ, Option.map_some, Option.bind_some, Nat.reduceAdd, Nat.reduceSub, Nat.reduceLT, Nat.reduceLeDiff, Nat.reduceEqDiff, Int.reduceToNat, if_true, if_false, Bool.not_true, Bool.not_false, Bool.false_eq_true, List.length_append, Nat.zero_add, String.reduceEq, or_true, true_or, or_false, false_or, and_true, true_and, Nat.add_zero, Int.reduceLT, Int.reduceLE, decide_true, decide_false, decide_eq_true_eq, Int.reduceAdd, Int.reduceSub, Int.reduceMul, Int.reduceNeg, big_eq, ix1, frank, flrank, neI])]
  rw [seq_nx (e := [.ow d7, .va (.int k), .va (tupI U), .va (tupI V), .va (tupM (table M w k)), .un, .va (tupM (table M w k)), .va (.int p), .un, .un, .un, .un, .un, .un, .un, .un, .un, .un, .va (gridD w M), .va (.int m), .un, .un, .va (.int w), .un, .un, .un]) (by simp [ent, entD, runF, runD, runO, oSeq, sRetO, sSeq, sNil, sSet, sSetO, sRet, sRetN, sIf, sDrop, sBreak, sCont, sAppend, sExtend, sSetIx, sAug, sPar, sAsg, sRaise, mVar, mVarZ, mC, mBin, mT, mTAnd, mTOr, mTNot, mAnd, mOr, mNot, mIf, aNil, aCons, newTup, mTup, mFz, newLst, mLst, mCall, mIxO, mLenO, oNone, oSome, mSl, mBinL, mIsi, mFn, mFnK, mFnD, mFnDO, mUn, mItems, mItC, mYes, asB, R.bind, R.go, R.of, R.noBad, FR.to, FRD.to, tgN, tgsN, tgsC, tgT, gI, gIx, gLen, gAbs, gMax2, gMin2, gMin3, gInt, gTuple, gList, gSl, gSlL, gNeg, isT, gIsN, gNotN, gAddA, gMulA, gZip, List.map_cons, List.map_nil, List.length_cons, List.length_nil, List.replicate, List.append_eq, List.cons_append, List.nil_append, List.getElem?_cons_zero, List.getElem?_cons_succ, List.set_cons_zero, List.set_cons_succ, Option.map_some, Option.bind_some, Nat.reduceAdd, Nat.reduceSub, Nat.reduceLT, Nat.reduceLeDiff, Nat.reduceEqDiff, Int.reduceToNat, if_true, if_false, Bool.not_true, Bool.not_false, Bool.false_eq_true, List.length_append, Nat.zero_add, String.reduceEq, or_true, true_or, or_false, false_or, and_true, true_and, Nat.add_zero, Int.reduceLT, Int.reduceLE, decide_true, decide_false, decide_eq_true_eq, Int.reduceAdd, Int.reduceSub, Int.reduceMul, Int.reduceNeg, big_eq, r7, hp])]
  obtain ⟨B, d8, r8, lB, RB, D8⟩ := other_ok (n := w) (p := p) D7 (by omega) (by omega) (by omega) (x1 := .va (.int k)) (x2 := .va (tupI U)) (x3 := .va (tupI V)) (x4 := .va (tupM (table M w k))) (x5 := .un) (x6 := .va (tupM (table M w k))) (x8 := .un) (x9 := .un) (x10 := .un) (x11 := .un) (x12 := .un) (x13 := .un) (x14 := .un) (x15 := .un) (x16 := .un) (x17 := .un) (x18 := .va (gridD w M)) (x19 := .va (.int m)) (x20 := .un) (x21 := .un) (x23 := .un) (x24 := .un) (x25 := .un)
  have w10 : w * p ≤ 4 * 3 := Nat.mul_le_mul w4 p3
  have GB : Gr p w B := ⟨p1, by omega, w4, lB, ⟨RB.len, fun r hr x hx => by have := RB.le r hr x hx; omega⟩⟩
  have MB : ∀ r ∈ M, ∀ x ∈ r, Bd 8 x := fun r hr x hx => by
    have := RM6.le r hr x hx
    unfold Bd
    omega
  have BB : ∀ r ∈ B, ∀ x ∈ r, Bd 2 x := fun r hr x hx => by
    have := RB.le r hr x hx
    unfold Bd
    omega
  have fprod := product_ok (A := M) (B := B) (w := p) (fun r hr x hx => (MB r hr x hx).mono (by decide)) (fun r hr => by rw [RM.len r hr]; omega) RB.len (fun r hr x hx => (BB r hr x hx).mono (by decide)) (by omega) (by omega) (by omega)
  rw [seq_nx (e := [.ow d8, .va (.int k), .va (tupI U), .va (tupI V), .va (tupM (table M w k)), .va (gridD p B), .va (tupM (table M w k)), .va (.int p), .un, .un, .un, .un, .un, .un, .un, .un, .un, .un, .va (gridD w M), .va (.int m), .un, .un, .va (.int w), .un, .un, .un]) (by simp [ent, entD, runF, runD, runO, oSeq, sRetO, sSeq, sNil, sSet, sSetO, sRet, sRetN, sIf, sDrop, sBreak, sCont, sAppend, sExtend, sSetIx, sAug, sPar, sAsg, sRaise, mVar, mVarZ, mC, mBin, mT, mTAnd, mTOr, mTNot, mAnd, mOr, mNot, mIf, aNil, aCons, newTup, mTup, mFz, newLst, mLst, mCall, mIxO, mLenO, oNone, oSome, mSl, mBinL, mIsi, mFn, mFnK, mFnD, mFnDO, mUn, mItems, mItC, mYes, asB, R.bind, R.go, R.of, R.noBad, FR.to, FRD.to, tgN, tgsN, tgsC, tgT, gI, gIx, gLen, gAbs, gMax2, gMin2, gMin3, gInt, gTuple, gList, gSl, gSlL, gNeg, isT, gIsN, gNotN, gAddA, gMulA, gZip, List.map_cons, List.map_nil, List.length_cons, List.length_nil, List.replicate, List.append_eq, List.cons_append, List.nil_append, List.getElem?_cons_zero, List.getElem?_cons_succ, List.set_cons_zero, List.set_cons_succ, Option.map_some, Option.bind_some, Nat.reduceAdd, Nat.reduceSub, Nat.reduceLT, Nat.reduceLeDiff, Nat.reduceEqDiff, Int.reduceToNat, if_true, if_false, Bool.not_true, Bool.not_false, Bool.false_eq_true, List.length_append, Nat.zero_add, String.reduceEq, or_true, true_or, or_false, false_or, and_true, true_and, Nat.add_zero, Int.reduceLT, Int.reduceLE, decide_true, decide_false, decide_eq_true_eq, Int.reduceAdd, Int.reduceSub, Int.reduceMul, Int.reduceNeg, big_eq, r8])]
  rw [seq_nx (e := [.ow d8, .va (.int k), .va (tupI U), .va (tupI V), .va (tupM (table M w k)), .va (gridD p B), .va (tupM (table M w k)), .va (.int p), .va (gridD p (mulM M B p)), .un, .un, .un, .un, .un, .un, .un, .un, .un, .va (gridD w M), .va (.int m), .un, .un, .va (.int w), .un, .un, .un]) (by simp [ent, entD, runF, runD, runO, oSeq, sRetO, sSeq, sNil, sSet, sSetO, sRet, sRetN, sIf, sDrop, sBreak, sCont, sAppend, sExtend, sSetIx, sAug, sPar, sAsg, sRaise, mVar, mVarZ, mC, mBin, mT, mTAnd, mTOr, mTNot, mAnd, mOr, mNot, mIf, aNil, aCons, newTup, mTup, mFz, newLst, mLst, mCall, mIxO, mLenO, oNone, oSome, mSl, mBinL, mIsi, mFn, mFnK, mFnD, mFnDO, mUn, mItems, mItC, mYes, asB, R.bind, R.go, R.of, R.noBad, FR.to, FRD.to, tgN, tgsN, tgsC, tgT, gI, gIx, gLen, gAbs, gMax2, gMin2, gMin3, gInt, gTuple, gList, gSl, gSlL, gNeg, isT, gIsN, gNotN, gAddA, gMulA, gZip, List.map_cons, List.map_nil, List.length_cons, List.length_nil, List.replicate, List.append_eq, List.cons_append, List.nil_append, List.getElem?_cons_zero, List.getElem?_cons_succ, List.set_cons_zero, List.set_cons_succ, Option.map_some, Option.bind_some, Nat.reduceAdd, Nat.reduceSub, Nat.reduceLT, Nat.reduceLeDiff, Nat.reduceEqDiff, Int.reduceToNat, if_true, if_false, Bool.not_true, Bool.not_false, Bool.false_eq_true, List.length_append, Nat.zero_add, String.reduceEq, or_true, true_or, or_false, false_or, and_true, true_and, Nat.add_zero, Int.reduceLT, Int.reduceLE, decide_true, decide_false, decide_eq_true_eq, Int.reduceAdd, Int.reduceSub, Int.reduceMul, Int.reduceNeg, big_eq, ix1, fprod])]
  have GP : Gr p m (mulM M B p) := by
    refine ⟨p1, by omega, by omega, by simp [mulM, lM], ⟨fun r hr => ?_, fun r hr x hx => ?_⟩⟩
    · obtain ⟨s, _, rfl⟩ := List.mem_map.1 hr
      simp
    · obtain ⟨s, hs, rfl⟩ := List.mem_map.1 hr
      obtain ⟨j, hj, rfl⟩ := List.mem_map.1 hx
      have hb := dot_bd4 (n := w) w4 (RM.len s hs) (by simp [col, lB]) (MB s hs) (col_bd RB.len BB (List.mem_range.1 hj))
      unfold Bd at hb
      omega
  obtain ⟨Q, hQ⟩ : ∃ Q : Nat, Q = min (min p w) m := ⟨_, rfl⟩
  have hmin3 : (if (m : Int) < (if w < p then (w : Int) else p) then (m : Int) else if w < p then (w : Int) else p) = Q := by
    by_cases h : w < p <;> simp only [h, if_true, if_false] <;> split <;> omega
  have step13 : ((sIf (mT (mBin (gIB fun i j => decide (i ≤ j)) (mVar 1) (mCall gMin3 (aCons (mVar 7) (aCons (mVar 22) (aCons (mVar 19) aNil)))))) (sIf (mT (mBin (gEqB true) (mFn 2 F_compound (aCons (mVar 8) (aCons (mVar 1) aNil))) (mFn 3 F__law_product (aCons (mVar 4) (aCons (mFn 2 F_compound (aCons (mVar 5) (aCons (mVar 1) aNil))) (aCons (mCall gLen (aCons (mFn 2 F__law_some (aCons (mVar 7) (aCons (mVar 1) aNil))) aNil)) aNil)))))) (sRet (mC (.bl false))) sNil) sNil)) [.ow d8, .va (.int k), .va (tupI U), .va (tupI V), .va (tupM (table M w k)), .va (gridD p B), .va (tupM (table M w k)), .va (.int p), .va (gridD p (mulM M B p)), .un, .un, .un, .un, .un, .un, .un, .un, .un, .va (gridD w M), .va (.int m), .un, .un, .va (.int w), .un, .un, .un] = .nx [.ow d8, .va (.int k), .va (tupI U), .va (tupI V), .va (tupM (table M w k)), .va (gridD p B), .va (tupM (table M w k)), .va (.int p), .va (gridD p (mulM M B p)), .un, .un, .un, .un, .un, .un, .un, .un, .un, .va (gridD w M), .va (.int m), .un, .un, .va (.int w), .un, .un, .un] := by
    by_cases hk3 : k ≤ p
    · have c1 := compound_ok GP k1 hk3 (by omega) k3
      have c2 := compound_ok GB k1 hk3 (by omega) k3
      have c3 := some_ok (n := p) (k := k) (by omega) (by omega)
      have c4 : F__law_product [tupM (table M w k), tupM (table B p k), .int ((comb p k).length : Nat)] = .ok (tupM (mulM (table M w k) (table B p k) (comb p k).length)) := by
        have l1 := comb_len (n := m) (k := k) (by omega) (by omega)
        have l2 := comb_len (n := w) (k := k) (by omega) (by omega)
        have l3 := comb_len (n := p) (k := k) (by omega) (by omega)
        refine product_ok ?_ ?_ ?_ ?_ ?_ ?_ (by omega)
        · intro r hr x hx
          obtain ⟨U, hU, rfl⟩ := List.mem_map.1 hr
          obtain ⟨V, hV, rfl⟩ := List.mem_map.1 hx
          rw [lM] at hU
          exact (subm_bd GM.rows (by decide) lM (comb_cho (n := m) (k := k) (by omega) (by omega) hU) (comb_cho (n := w) (k := k) (by omega) (by omega) hV) k3).mono (by decide)
        · intro r hr
          obtain ⟨U, hU, rfl⟩ := List.mem_map.1 hr
          simp
          omega
        · intro r hr
          obtain ⟨U, hU, rfl⟩ := List.mem_map.1 hr
          simp
        · intro r hr x hx
          obtain ⟨U, hU, rfl⟩ := List.mem_map.1 hr
          obtain ⟨V, hV, rfl⟩ := List.mem_map.1 hx
          rw [lB] at hU
          exact (subm_bd GB.rows (by decide) lB (comb_cho (n := w) (k := k) (by omega) (by omega) hU) (comb_cho (n := p) (k := k) (by omega) (by omega) hV) k3).mono (by decide)
        · simp [table, lM]; omega
        · simp [table, lB]; omega
      have tm := table_mul (A := M) (B := B) (w := w) (p := p) (m := m) (k := k) RM.len lB k1 k3 (by omega) w4 lM (fun U hU => comb_cho (by omega) (by omega) hU) (fun V hV => comb_cho (by omega) (by omega) hV)
      rw [tm] at c1
      have hkQ : k ≤ Q := by omega
      simp [ent, entD, runF, runD, runO, oSeq, sRetO, sSeq, sNil, sSet, sSetO, sRet, sRetN, sIf, sDrop, sBreak, sCont, sAppend, sExtend, sSetIx, sAug, sPar, sAsg, sRaise, mVar, mVarZ, mC, mBin, mT, mTAnd, mTOr, mTNot, mAnd, mOr, mNot, mIf, aNil, aCons, newTup, mTup, mFz, newLst, mLst, mCall, mIxO, mLenO, oNone, oSome, mSl, mBinL, mIsi, mFn, mFnK, mFnD, mFnDO, mUn, mItems, mItC, mYes, asB, R.bind, R.go, R.of, R.noBad, FR.to, FRD.to, tgN, tgsN, tgsC, tgT, gI, gIx, gLen, gAbs, gMax2, gMin2, gMin3, gInt, gTuple, gList, gSl, gSlL, gNeg, isT, gIsN, gNotN, gAddA, gMulA, gZip, List.map_cons, List.map_nil, List.length_cons, List.length_nil, List.replicate, List.append_eq, List.cons_append, List.nil_append, List.getElem?_cons_zero, List.getElem?_cons_succ, List.set_cons_zero, List.set_cons_succ, Option.map_some, Option.bind_some, Nat.reduceAdd, Nat.reduceSub, Nat.reduceLT, Nat.reduceLeDiff, Nat.reduceEqDiff, Int.reduceToNat, if_true, if_false, Bool.not_true, Bool.not_false, Bool.false_eq_true, List.length_append, Nat.zero_add, String.reduceEq, or_true, true_or, or_false, false_or, and_true, true_and, Nat.add_zero, Int.reduceLT, Int.reduceLE, decide_true, decide_false, decide_eq_true_eq, Int.reduceAdd, Int.reduceSub, Int.reduceMul, Int.reduceNeg, hmin3, hkQ, c1, c2, c3, c4, neM]
    · have hkQ : ¬ k ≤ Q := by omega
      simp [ent, entD, runF, runD, runO, oSeq, sRetO, sSeq, sNil, sSet, sSetO, sRet, sRetN, sIf, sDrop, sBreak, sCont, sAppend, sExtend, sSetIx, sAug, sPar, sAsg, sRaise, mVar, mVarZ, mC, mBin, mT, mTAnd, mTOr, mTNot, mAnd, mOr, mNot, mIf, aNil, aCons, newTup, mTup, mFz, newLst, mLst, mCall, mIxO, mLenO, oNone, oSome, mSl, mBinL, mIsi, mFn, mFnK, mFnD, mFnDO, mUn, mItems, mItC, mYes, asB, R.bind, R.go, R.of, R.noBad, FR.to, FRD.to, tgN, tgsN, tgsC, tgT, gI, gIx, gLen, gAbs, gMax2, gMin2, gMin3, gInt, gTuple, gList, gSl, gSlL, gNeg, isT, gIsN, gNotN, gAddA, gMulA, gZip, List.map_cons, List.map_nil, List.length_cons, List.length_nil, List.replicate, List.append_eq, List.cons_append, List.nil_append, List.getElem?_cons_zero, List.getElem?_cons_succ, List.set_cons_zero, List.set_cons_succ, Option.map_some, Option.bind_some, Nat.reduceAdd, Nat.reduceSub, Nat.reduceLT, Nat.reduceLeDiff, Nat.reduceEqDiff, Int.reduceToNat, if_true, if_false, Bool.not_true, Bool.not_false, Bool.false_eq_true, List.length_append, Nat.zero_add, String.reduceEq, or_true, true_or, or_false, false_or, and_true, true_and, Nat.add_zero, Int.reduceLT, Int.reduceLE, decide_true, decide_false, decide_eq_true_eq, Int.reduceAdd, Int.reduceSub, Int.reduceMul, Int.reduceNeg, hmin3, hkQ]
  rw [seq_nx step13]
  obtain ⟨S, d9, r9, lS, RS, D9⟩ := square_ok (p := m) D8 (by omega) (by omega) (by omega) (x1 := .va (.int k)) (x2 := .va (tupI U)) (x3 := .va (tupI V)) (x4 := .va (tupM (table M w k))) (x5 := .va (gridD p B)) (x6 := .va (tupM (table M w k))) (x7 := .va (.int p)) (x8 := .va (gridD p (mulM M B p))) (x9 := .un) (x10 := .un) (x11 := .un) (x12 := .un) (x13 := .un) (x14 := .un) (x15 := .un) (x16 := .un) (x17 := .un) (x18 := .va (gridD w M)) (x20 := .un) (x21 := .un) (x22 := .va (.int w)) (x23 := .un) (x24 := .un) (x25 := .un)
  have mm : m * m ≤ 3 * 3 := Nat.mul_le_mul m3 m3
  obtain ⟨sums, d10, r10, ls, bs, D10⟩ := row_ok (w := m) (m := 4) D9 (by omega) (by omega) (by omega) (by omega)
  have SY : Sys m S sums := ⟨m1, m3, RS, lS, ls, bs⟩
  have fdet : F__law_det 6 [tupM S] = .ok (.int (det S)) := law_det (.inr rfl) m3 SY.sq fun r hr x hx => (SY.mb r hr x hx).mono (by decide)
  have fcof := cofactors_ok m1 m3 SY.rows6 lS
  have ladj : (adj S m).length = m := by simp [adj]
  have fp1 := product_ok (A := S) (B := adj S m) (w := m) (fun r hr x hx => (SY.mb r hr x hx).mono (by decide)) (fun r hr => by rw [RS.len r hr]; omega) (fun r hr => (adj_bd m3 SY.mb r hr).1) (fun r hr x hx => ((adj_bd m3 SY.mb r hr).2 x hx).mono (by decide)) (by omega) (by omega) (by omega)
  have fp2 := product_ok (A := adj S m) (B := S) (w := m) (fun r hr x hx => ((adj_bd m3 SY.mb r hr).2 x hx).mono (by decide)) (fun r hr => by rw [(adj_bd m3 SY.mb r hr).1]; omega) RS.len (fun r hr x hx => (SY.mb r hr x hx).mono (by decide)) (by omega) (by omega) (by omega)
  rw [(mul_adj m1 m3 lS RS.len).1] at fp1
  rw [(mul_adj m1 m3 lS RS.len).2] at fp2
  rw [seq_nx (e := [.ow d9, .va (.int k), .va (tupI U), .va (tupI V), .va (tupM (table M w k)), .va (gridD p B), .va (tupM (table M w k)), .va (.int p), .va (gridD p (mulM M B p)), .un, .un, .un, .un, .un, .un, .un, .un, .un, .va (gridD w M), .va (.int m), .va (gridD m S), .un, .va (.int w), .un, .un, .un]) (by simp [ent, entD, runF, runD, runO, oSeq, sRetO, sSeq, sNil, sSet, sSetO, sRet, sRetN, sIf, sDrop, sBreak, sCont, sAppend, sExtend, sSetIx, sAug, sPar, sAsg, sRaise, mVar, mVarZ, mC, mBin, mT, mTAnd, mTOr, mTNot, mAnd, mOr, mNot, mIf, aNil, aCons, newTup, mTup, mFz, newLst, mLst, mCall, mIxO, mLenO, oNone, oSome, mSl, mBinL, mIsi, mFn, mFnK, mFnD, mFnDO, mUn, mItems, mItC, mYes, asB, R.bind, R.go, R.of, R.noBad, FR.to, FRD.to, tgN, tgsN, tgsC, tgT, gI, gIx, gLen, gAbs, gMax2, gMin2, gMin3, gInt, gTuple, gList, gSl, gSlL, gNeg, isT, gIsN, gNotN, gAddA, gMulA, gZip, List.map_cons, List.map_nil, List.length_cons, List.length_nil, List.replicate, List.append_eq, List.cons_append, List.nil_append, List.getElem?_cons_zero, List.getElem?_cons_succ, List.set_cons_zero, List.set_cons_succ, Option.map_some, Option.bind_some, Nat.reduceAdd, Nat.reduceSub, Nat.reduceLT, Nat.reduceLeDiff, Nat.reduceEqDiff, Int.reduceToNat, if_true, if_false, Bool.not_true, Bool.not_false, Bool.false_eq_true, List.length_append, Nat.zero_add, String.reduceEq, or_true, true_or, or_false, false_or, and_true, true_and, Nat.add_zero, Int.reduceLT, Int.reduceLE, decide_true, decide_false, decide_eq_true_eq, Int.reduceAdd, Int.reduceSub, Int.reduceMul, Int.reduceNeg, big_eq, r9])]
  rw [seq_nx (e := [.ow d9, .va (.int k), .va (tupI U), .va (tupI V), .va (tupM (table M w k)), .va (gridD p B), .va (tupM (table M w k)), .va (.int p), .va (gridD p (mulM M B p)), .va (.int (det S)), .un, .un, .un, .un, .un, .un, .un, .un, .va (gridD w M), .va (.int m), .va (gridD m S), .un, .va (.int w), .un, .un, .un]) (by simp [ent, entD, runF, runD, runO, oSeq, sRetO, sSeq, sNil, sSet, sSetO, sRet, sRetN, sIf, sDrop, sBreak, sCont, sAppend, sExtend, sSetIx, sAug, sPar, sAsg, sRaise, mVar, mVarZ, mC, mBin, mT, mTAnd, mTOr, mTNot, mAnd, mOr, mNot, mIf, aNil, aCons, newTup, mTup, mFz, newLst, mLst, mCall, mIxO, mLenO, oNone, oSome, mSl, mBinL, mIsi, mFn, mFnK, mFnD, mFnDO, mUn, mItems, mItC, mYes, asB, R.bind, R.go, R.of, R.noBad, FR.to, FRD.to, tgN, tgsN, tgsC, tgT, gI, gIx, gLen, gAbs, gMax2, gMin2, gMin3, gInt, gTuple, gList, gSl, gSlL, gNeg, isT, gIsN, gNotN, gAddA, gMulA, gZip, List.map_cons, List.map_nil, List.length_cons, List.length_nil, List.replicate, List.append_eq, List.cons_append, List.nil_append, List.getElem?_cons_zero, List.getElem?_cons_succ, List.set_cons_zero, List.set_cons_succ, Option.map_some, Option.bind_some, Nat.reduceAdd, Nat.reduceSub, Nat.reduceLT, Nat.reduceLeDiff, Nat.reduceEqDiff, Int.reduceToNat, if_true, if_false, Bool.not_true, Bool.not_false, Bool.false_eq_true, List.length_append, Nat.zero_add, String.reduceEq, or_true, true_or, or_false, false_or, and_true, true_and, Nat.add_zero, Int.reduceLT, Int.reduceLE, decide_true, decide_false, decide_eq_true_eq, Int.reduceAdd, Int.reduceSub, Int.reduceMul, Int.reduceNeg, big_eq, ix1, fdet])]
  rw [seq_nx (e := [.ow d9, .va (.int k), .va (tupI U), .va (tupI V), .va (tupM (table M w k)), .va (gridD p B), .va (tupM (table M w k)), .va (.int p), .va (gridD p (mulM M B p)), .va (.int (det S)), .va (tupM (adj S m)), .un, .un, .un, .un, .un, .un, .un, .va (gridD w M), .va (.int m), .va (gridD m S), .un, .va (.int w), .un, .un, .un]) (by simp [ent, entD, runF, runD, runO, oSeq, sRetO, sSeq, sNil, sSet, sSetO, sRet, sRetN, sIf, sDrop, sBreak, sCont, sAppend, sExtend, sSetIx, sAug, sPar, sAsg, sRaise, mVar, mVarZ, mC, mBin, mT, mTAnd, mTOr, mTNot, mAnd, mOr, mNot, mIf, aNil, aCons, newTup, mTup, mFz, newLst, mLst, mCall, mIxO, mLenO, oNone, oSome, mSl, mBinL, mIsi, mFn, mFnK, mFnD, mFnDO, mUn, mItems, mItC, mYes, asB, R.bind, R.go, R.of, R.noBad, FR.to, FRD.to, tgN, tgsN, tgsC, tgT, gI, gIx, gLen, gAbs, gMax2, gMin2, gMin3, gInt, gTuple, gList, gSl, gSlL, gNeg, isT, gIsN, gNotN, gAddA, gMulA, gZip, List.map_cons, List.map_nil, List.length_cons, List.length_nil, List.replicate, List.append_eq, List.cons_append, List.nil_append, List.getElem?_cons_zero, List.getElem?_cons_succ, List.set_cons_zero, List.set_cons_succ, Option.map_some, Option.bind_some, Nat.reduceAdd, Nat.reduceSub, Nat.reduceLT, Nat.reduceLeDiff, Nat.reduceEqDiff, Int.reduceToNat, if_true, if_false, Bool.not_true, Bool.not_false, Bool.false_eq_true, List.length_append, Nat.zero_add, String.reduceEq, or_true, true_or, or_false, false_or, and_true, true_and, Nat.add_zero, Int.reduceLT, Int.reduceLE, decide_true, decide_false, decide_eq_true_eq, Int.reduceAdd, Int.reduceSub, Int.reduceMul, Int.reduceNeg, big_eq, fcof])]
  rw [seq_nx (e := [.ow d9, .va (.int k), .va (tupI U), .va (tupI V), .va (tupM (table M w k)), .va (gridD p B), .va (tupM (table M w k)), .va (.int p), .va (gridD p (mulM M B p)), .va (.int (det S)), .va (tupM (adj S m)), .va (tupM (strM m (det S))), .un, .un, .un, .un, .un, .un, .va (gridD w M), .va (.int m), .va (gridD m S), .un, .va (.int w), .un, .un, .un]) (by simp only [sSet, mCall, aCons, aNil, mFz, str5_ok m3, R.bind, gTuple, R.of, R.go, List.set_cons_succ, List.set_cons_zero])]
  rw [seq_nx (e := [.ow d9, .va (.int k), .va (tupI U), .va (tupI V), .va (tupM (table M w k)), .va (gridD p B), .va (tupM (table M w k)), .va (.int p), .va (gridD p (mulM M B p)), .va (.int (det S)), .va (tupM (adj S m)), .va (tupM (strM m (det S))), .un, .un, .un, .un, .un, .un, .va (gridD w M), .va (.int m), .va (gridD m S), .un, .va (.int w), .un, .un, .un]) (by simp [ent, entD, runF, runD, runO, oSeq, sRetO, sSeq, sNil, sSet, sSetO, sRet, sRetN, sIf, sDrop, sBreak, sCont, sAppend, sExtend, sSetIx, sAug, sPar, sAsg, sRaise, mVar, mVarZ, mC, mBin, mT, mTAnd, mTOr, mTNot, mAnd, mOr, mNot, mIf, aNil, aCons, newTup, mTup, mFz, newLst, mLst, mCall, mIxO, mLenO, oNone, oSome, mSl, mBinL, mIsi, mFn, mFnK, mFnD, mFnDO, mUn, mItems, mItC, mYes, asB, R.bind, R.go, R.of, R.noBad, FR.to, FRD.to, tgN, tgsN, tgsC, tgT, gI, gIx, gLen, gAbs, gMax2, gMin2, gMin3, gInt, gTuple, gList, gSl, gSlL, gNeg, isT, gIsN, gNotN, gAddA, gMulA, gZip, List.map_cons, List.map_nil, List.length_cons, List.length_nil, List.replicate, List.append_eq, List.cons_append, List.nil_append, List.getElem?_cons_zero, List.getElem?_cons_succ, List.set_cons_zero, List.set_cons_succ, Option.map_some, Option.bind_some, Nat.reduceAdd, Nat.reduceSub, Nat.reduceLT, Nat.reduceLeDiff, Nat.reduceEqDiff, Int.reduceToNat, if_true, if_false, Bool.not_true, Bool.not_false, Bool.false_eq_true, List.length_append, Nat.zero_add, String.reduceEq, or_true, true_or, or_false, false_or, and_true, true_and, Nat.add_zero, Int.reduceLT, Int.reduceLE, decide_true, decide_false, decide_eq_true_eq, Int.reduceAdd, Int.reduceSub, Int.reduceMul, Int.reduceNeg, big_eq, ix1, fp1, fp2, neM])]
  rw [seq_nx (e := [.ow d10, .va (.int k), .va (tupI U), .va (tupI V), .va (tupM (table M w k)), .va (gridD p B), .va (tupM (table M w k)), .va (.int p), .va (gridD p (mulM M B p)), .va (.int (det S)), .va (tupM (adj S m)), .va (tupM (strM m (det S))), .un, .un, .un, .un, .un, .un, .va (gridD w M), .va (.int m), .va (gridD m S), .va (tupI sums), .va (.int w), .un, .un, .un]) (by simp [ent, entD, runF, runD, runO, oSeq, sRetO, sSeq, sNil, sSet, sSetO, sRet, sRetN, sIf, sDrop, sBreak, sCont, sAppend, sExtend, sSetIx, sAug, sPar, sAsg, sRaise, mVar, mVarZ, mC, mBin, mT, mTAnd, mTOr, mTNot, mAnd, mOr, mNot, mIf, aNil, aCons, newTup, mTup, mFz, newLst, mLst, mCall, mIxO, mLenO, oNone, oSome, mSl, mBinL, mIsi, mFn, mFnK, mFnD, mFnDO, mUn, mItems, mItC, mYes, asB, R.bind, R.go, R.of, R.noBad, FR.to, FRD.to, tgN, tgsN, tgsC, tgT, gI, gIx, gLen, gAbs, gMax2, gMin2, gMin3, gInt, gTuple, gList, gSl, gSlL, gNeg, isT, gIsN, gNotN, gAddA, gMulA, gZip, List.map_cons, List.map_nil, List.length_cons, List.length_nil, List.replicate, List.append_eq, List.cons_append, List.nil_append, List.getElem?_cons_zero, List.getElem?_cons_succ, List.set_cons_zero, List.set_cons_succ, Option.map_some, Option.bind_some, Nat.reduceAdd, Nat.reduceSub, Nat.reduceLT, Nat.reduceLeDiff, Nat.reduceEqDiff, Int.reduceToNat, if_true, if_false, Bool.not_true, Bool.not_false, Bool.false_eq_true, List.length_append, Nat.zero_add, String.reduceEq, or_true, true_or, or_false, false_or, and_true, true_and, Nat.add_zero, Int.reduceLT, Int.reduceLE, decide_true, decide_false, decide_eq_true_eq, Int.reduceAdd, Int.reduceSub, Int.reduceMul, Int.reduceNeg, big_eq, r10])]
  have step22 : ∃ y12 y13 y14 : Sl, ∀ rest : SX, sSeq ((sSet 12 (mFnK 1 1 2 F_by_cofactors (aCons (mVar 20) aNil) (aCons (mVar 21) aNil)))) (sSeq ((sIf (mT (mBin (gEqB true) (mBin gIsN (mVar 12) (mC .non)) (mBin (gEqB false) (mVar 9) (mC (.int 0))))) (sRet (mC (.bl false))) sNil)) (sSeq ((sIf (mT (mBin gNotN (mVar 12) (mC .non))) (sFor (mItC gZip (aCons (mBin gIx (mVar 20) (mC (.int 1))) (aCons (mVar 21) aNil))) (tgT 2 (tgsC (tgN 13) (tgsC (tgN 14) tgsN))) l__law_right_1) sNil)) rest)) [.ow d10, .va (.int k), .va (tupI U), .va (tupI V), .va (tupM (table M w k)), .va (gridD p B), .va (tupM (table M w k)), .va (.int p), .va (gridD p (mulM M B p)), .va (.int (det S)), .va (tupM (adj S m)), .va (tupM (strM m (det S))), .un, .un, .un, .un, .un, .un, .va (gridD w M), .va (.int m), .va (gridD m S), .va (tupI sums), .va (.int w), .un, .un, .un] = rest [.ow d10, .va (.int k), .va (tupI U), .va (tupI V), .va (tupM (table M w k)), .va (gridD p B), .va (tupM (table M w k)), .va (.int p), .va (gridD p (mulM M B p)), .va (.int (det S)), .va (tupM (adj S m)), .va (tupM (strM m (det S))), y12, y13, y14, .un, .un, .un, .va (gridD w M), .va (.int m), .va (gridD m S), .va (tupI sums), .va (.int w), .un, .un, .un] := by
    by_cases hd : det S = 0
    · have f1 := bycof_zero SY hd
      refine ⟨.va .non, .un, .un, fun rest => ?_⟩
      rw [seq_nx (e := [.ow d10, .va (.int k), .va (tupI U), .va (tupI V), .va (tupM (table M w k)), .va (gridD p B), .va (tupM (table M w k)), .va (.int p), .va (gridD p (mulM M B p)), .va (.int (det S)), .va (tupM (adj S m)), .va (tupM (strM m (det S))), .va .non, .un, .un, .un, .un, .un, .va (gridD w M), .va (.int m), .va (gridD m S), .va (tupI sums), .va (.int w), .un, .un, .un]) (by simp [ent, entD, runF, runD, runO, oSeq, sRetO, sSeq, sNil, sSet, sSetO, sRet, sRetN, sIf, sDrop, sBreak, sCont, sAppend, sExtend, sSetIx, sAug, sPar, sAsg, sRaise, mVar, mVarZ, mC, mBin, mT, mTAnd, mTOr, mTNot, mAnd, mOr, mNot, mIf, aNil, aCons, newTup, mTup, mFz, newLst, mLst, mCall, mIxO, mLenO, oNone, oSome, mSl, mBinL, mIsi, mFn, mFnK, mFnD, mFnDO, mUn, mItems, mItC, mYes, asB, R.bind, R.go, R.of, R.noBad, FR.to, FRD.to, tgN, tgsN, tgsC, tgT, gI, gIx, gLen, gAbs, gMax2, gMin2, gMin3, gInt, gTuple, gList, gSl, gSlL, gNeg, isT, gIsN, gNotN, gAddA, gMulA, gZip, List.map_cons, List.map_nil, List.length_cons, List.length_nil, List.replicate, List.append_eq, List.cons_append, List.nil_append, List.getElem?_cons_zero, List.getElem?_cons_succ, List.set_cons_zero, List.set_cons_succ, Option.map_some, Option.bind_some, Nat.reduceAdd, Nat.reduceSub, Nat.reduceLT, Nat.reduceLeDiff, Nat.reduceEqDiff, Int.reduceToNat, if_true, if_false, Bool.not_true, Bool.not_false, Bool.false_eq_true, List.length_append, Nat.zero_add, String.reduceEq, or_true, true_or, or_false, false_or, and_true, true_and, Nat.add_zero, Int.reduceLT, Int.reduceLE, decide_true, decide_false, decide_eq_true_eq, Int.reduceAdd, Int.reduceSub, Int.reduceMul, Int.reduceNeg, f1])]
      rw [seq_nx (e := [.ow d10, .va (.int k), .va (tupI U), .va (tupI V), .va (tupM (table M w k)), .va (gridD p B), .va (tupM (table M w k)), .va (.int p), .va (gridD p (mulM M B p)), .va (.int (det S)), .va (tupM (adj S m)), .va (tupM (strM m (det S))), .va .non, .un, .un, .un, .un, .un, .va (gridD w M), .va (.int m), .va (gridD m S), .va (tupI sums), .va (.int w), .un, .un, .un]) (by simp [ent, entD, runF, runD, runO, oSeq, sRetO, sSeq, sNil, sSet, sSetO, sRet, sRetN, sIf, sDrop, sBreak, sCont, sAppend, sExtend, sSetIx, sAug, sPar, sAsg, sRaise, mVar, mVarZ, mC, mBin, mT, mTAnd, mTOr, mTNot, mAnd, mOr, mNot, mIf, aNil, aCons, newTup, mTup, mFz, newLst, mLst, mCall, mIxO, mLenO, oNone, oSome, mSl, mBinL, mIsi, mFn, mFnK, mFnD, mFnDO, mUn, mItems, mItC, mYes, asB, R.bind, R.go, R.of, R.noBad, FR.to, FRD.to, tgN, tgsN, tgsC, tgT, gI, gIx, gLen, gAbs, gMax2, gMin2, gMin3, gInt, gTuple, gList, gSl, gSlL, gNeg, isT, gIsN, gNotN, gAddA, gMulA, gZip, List.map_cons, List.map_nil, List.length_cons, List.length_nil, List.replicate, List.append_eq, List.cons_append, List.nil_append, List.getElem?_cons_zero, List.getElem?_cons_succ, List.set_cons_zero, List.set_cons_succ, Option.map_some, Option.bind_some, Nat.reduceAdd, Nat.reduceSub, Nat.reduceLT, Nat.reduceLeDiff, Nat.reduceEqDiff, Int.reduceToNat, if_true, if_false, Bool.not_true, Bool.not_false, Bool.false_eq_true, List.length_append, Nat.zero_add, String.reduceEq, or_true, true_or, or_false, false_or, and_true, true_and, Nat.add_zero, Int.reduceLT, Int.reduceLE, decide_true, decide_false, decide_eq_true_eq, Int.reduceAdd, Int.reduceSub, Int.reduceMul, Int.reduceNeg, hd, eqI, neBl, gIsN])]
      rw [seq_nx (e := [.ow d10, .va (.int k), .va (tupI U), .va (tupI V), .va (tupM (table M w k)), .va (gridD p B), .va (tupM (table M w k)), .va (.int p), .va (gridD p (mulM M B p)), .va (.int (det S)), .va (tupM (adj S m)), .va (tupM (strM m (det S))), .va .non, .un, .un, .un, .un, .un, .va (gridD w M), .va (.int m), .va (gridD m S), .va (tupI sums), .va (.int w), .un, .un, .un]) (by simp [ent, entD, runF, runD, runO, oSeq, sRetO, sSeq, sNil, sSet, sSetO, sRet, sRetN, sIf, sDrop, sBreak, sCont, sAppend, sExtend, sSetIx, sAug, sPar, sAsg, sRaise, mVar, mVarZ, mC, mBin, mT, mTAnd, mTOr, mTNot, mAnd, mOr, mNot, mIf, aNil, aCons, newTup, mTup, mFz, newLst, mLst, mCall, mIxO, mLenO, oNone, oSome, mSl, mBinL, mIsi, mFn, mFnK, mFnD, mFnDO, mUn, mItems, mItC, mYes, asB, R.bind, R.go, R.of, R.noBad, FR.to, FRD.to, tgN, tgsN, tgsC, tgT, gI, gIx, gLen, gAbs, gMax2, gMin2, gMin3, gInt, gTuple, gList, gSl, gSlL, gNeg, isT, gIsN, gNotN, gAddA, gMulA, gZip, List.map_cons, List.map_nil, List.length_cons, List.length_nil, List.replicate, List.append_eq, List.cons_append, List.nil_append, List.getElem?_cons_zero, List.getElem?_cons_succ, List.set_cons_zero, List.set_cons_succ, Option.map_some, Option.bind_some, Nat.reduceAdd, Nat.reduceSub, Nat.reduceLT, Nat.reduceLeDiff, Nat.reduceEqDiff, Int.reduceToNat, if_true, if_false, Bool.not_true, Bool.not_false, Bool.false_eq_true, List.length_append, Nat.zero_add, String.reduceEq, or_true, true_or, or_false, false_or, and_true, true_and, Nat.add_zero, Int.reduceLT, Int.reduceLE, decide_true, decide_false, decide_eq_true_eq, Int.reduceAdd, Int.reduceSub, Int.reduceMul, Int.reduceNeg, gNotN])]
    · have f1 := bycof_ok SY hd
      have f2 := mix_fin SY hd
      generalize (adj S m).map (fun r => ratD (dot r sums) (det S)) = pt at f1 f2
      have loop : ∀ (l : List (List Int × Int)), (∀ q ∈ l, q ∈ S.zip sums) → ∀ x13 x14 : Sl, ∃ y13 y14, forL (tgT 2 (tgsC (tgN 13) (tgsC (tgN 14) tgsN))) l__law_right_1 (l.map fun q => .tup [tupI q.1, .int q.2]) [.ow d10, .va (.int k), .va (tupI U), .va (tupI V), .va (tupM (table M w k)), .va (gridD p B), .va (tupM (table M w k)), .va (.int p), .va (gridD p (mulM M B p)), .va (.int (det S)), .va (tupM (adj S m)), .va (tupM (strM m (det S))), .va (.tup pt), x13, x14, .un, .un, .un, .va (gridD w M), .va (.int m), .va (gridD m S), .va (tupI sums), .va (.int w), .un, .un, .un] = .nx [.ow d10, .va (.int k), .va (tupI U), .va (tupI V), .va (tupM (table M w k)), .va (gridD p B), .va (tupM (table M w k)), .va (.int p), .va (gridD p (mulM M B p)), .va (.int (det S)), .va (tupM (adj S m)), .va (tupM (strM m (det S))), .va (.tup pt), y13, y14, .un, .un, .un, .va (gridD w M), .va (.int m), .va (gridD m S), .va (tupI sums), .va (.int w), .un, .un, .un] := by
        intro l
        induction l with
        | nil => exact fun _ x13 x14 => ⟨x13, x14, rfl⟩
        | cons q l ih =>
          intro hl x13 x14
          obtain ⟨y13, y14, hy⟩ := ih (fun z h => hl z (by simp [h])) (.va (tupI q.1)) (.va (.int q.2))
          refine ⟨y13, y14, ?_⟩
          have fm := f2 q (hl q (by simp))
          have ne1 : gEqB true (.tup [.int q.2, .int 1]) (.tup [.int q.2, .int 1]) = some (.bl false) := eq_self' (n := true) (Lay.tup (k := 63) fun d hd => by
            simp only [List.mem_cons, List.not_mem_nil, or_false] at hd
            rcases hd with rfl | rfl <;> exact Lay.int _)
          rw [List.map_cons, forL_step (e1 := [.ow d10, .va (.int k), .va (tupI U), .va (tupI V), .va (tupM (table M w k)), .va (gridD p B), .va (tupM (table M w k)), .va (.int p), .va (gridD p (mulM M B p)), .va (.int (det S)), .va (tupM (adj S m)), .va (tupM (strM m (det S))), .va (.tup pt), .va (tupI q.1), .va (.int q.2), .un, .un, .un, .va (gridD w M), .va (.int m), .va (gridD m S), .va (tupI sums), .va (.int w), .un, .un, .un]) (e2 := [.ow d10, .va (.int k), .va (tupI U), .va (tupI V), .va (tupM (table M w k)), .va (gridD p B), .va (tupM (table M w k)), .va (.int p), .va (gridD p (mulM M B p)), .va (.int (det S)), .va (tupM (adj S m)), .va (tupM (strM m (det S))), .va (.tup pt), .va (tupI q.1), .va (.int q.2), .un, .un, .un, .va (gridD w M), .va (.int m), .va (gridD m S), .va (tupI sums), .va (.int w), .un, .un, .un]) rfl]
          · exact hy
          · simp [l__law_right_1, ent, entD, runF, runD, runO, oSeq, sRetO, sSeq, sNil, sSet, sSetO, sRet, sRetN, sIf, sDrop, sBreak, sCont, sAppend, sExtend, sSetIx, sAug, sPar, sAsg, sRaise, mVar, mVarZ, mC, mBin, mT, mTAnd, mTOr, mTNot, mAnd, mOr, mNot, mIf, aNil, aCons, newTup, mTup, mFz, newLst, mLst, mCall, mIxO, mLenO, oNone, oSome, mSl, mBinL, mIsi, mFn, mFnK, mFnD, mFnDO, mUn, mItems, mItC, mYes, asB, R.bind, R.go, R.of, R.noBad, FR.to, FRD.to, tgN, tgsN, tgsC, tgT, gI, gIx, gLen, gAbs, gMax2, gMin2, gMin3, gInt, gTuple, gList, gSl, gSlL, gNeg, isT, gIsN, gNotN, gAddA, gMulA, gZip, List.map_cons, List.map_nil, List.length_cons, List.length_nil, List.replicate, List.append_eq, List.cons_append, List.nil_append, List.getElem?_cons_zero, List.getElem?_cons_succ, List.set_cons_zero, List.set_cons_succ, Option.map_some, Option.bind_some, Nat.reduceAdd, Nat.reduceSub, Nat.reduceLT, Nat.reduceLeDiff, Nat.reduceEqDiff, Int.reduceToNat, if_true, if_false, Bool.not_true, Bool.not_false, Bool.false_eq_true, List.length_append, Nat.zero_add, String.reduceEq, or_true, true_or, or_false, false_or, and_true, true_and, Nat.add_zero, Int.reduceLT, Int.reduceLE, decide_true, decide_false, decide_eq_true_eq, Int.reduceAdd, Int.reduceSub, Int.reduceMul, Int.reduceNeg, big_eq, fm, ne1]
      have hz : zipD (S.map tupI) (zs sums) = (S.zip sums).map fun q => .tup [tupI q.1, .int q.2] := by
        unfold zipD zs
        rw [List.zip_map, List.map_map]
        rfl
      obtain ⟨y13, y14, hy⟩ := loop (S.zip sums) (fun _ h => h) .un .un
      refine ⟨.va (.tup pt), y13, y14, fun rest => ?_⟩
      rw [seq_nx (e := [.ow d10, .va (.int k), .va (tupI U), .va (tupI V), .va (tupM (table M w k)), .va (gridD p B), .va (tupM (table M w k)), .va (.int p), .va (gridD p (mulM M B p)), .va (.int (det S)), .va (tupM (adj S m)), .va (tupM (strM m (det S))), .va (.tup pt), .un, .un, .un, .un, .un, .va (gridD w M), .va (.int m), .va (gridD m S), .va (tupI sums), .va (.int w), .un, .un, .un]) (by simp [ent, entD, runF, runD, runO, oSeq, sRetO, sSeq, sNil, sSet, sSetO, sRet, sRetN, sIf, sDrop, sBreak, sCont, sAppend, sExtend, sSetIx, sAug, sPar, sAsg, sRaise, mVar, mVarZ, mC, mBin, mT, mTAnd, mTOr, mTNot, mAnd, mOr, mNot, mIf, aNil, aCons, newTup, mTup, mFz, newLst, mLst, mCall, mIxO, mLenO, oNone, oSome, mSl, mBinL, mIsi, mFn, mFnK, mFnD, mFnDO, mUn, mItems, mItC, mYes, asB, R.bind, R.go, R.of, R.noBad, FR.to, FRD.to, tgN, tgsN, tgsC, tgT, gI, gIx, gLen, gAbs, gMax2, gMin2, gMin3, gInt, gTuple, gList, gSl, gSlL, gNeg, isT, gIsN, gNotN, gAddA, gMulA, gZip, List.map_cons, List.map_nil, List.length_cons, List.length_nil, List.replicate, List.append_eq, List.cons_append, List.nil_append, List.getElem?_cons_zero, List.getElem?_cons_succ, List.set_cons_zero, List.set_cons_succ, Option.map_some, Option.bind_some, Nat.reduceAdd, Nat.reduceSub, Nat.reduceLT, Nat.reduceLeDiff, Nat.reduceEqDiff, Int.reduceToNat, if_true, if_false, Bool.not_true, Bool.not_false, Bool.false_eq_true, List.length_append, Nat.zero_add, String.reduceEq, or_true, true_or, or_false, false_or, and_true, true_and, Nat.add_zero, Int.reduceLT, Int.reduceLE, decide_true, decide_false, decide_eq_true_eq, Int.reduceAdd, Int.reduceSub, Int.reduceMul, Int.reduceNeg, f1])]
      rw [seq_nx (e := [.ow d10, .va (.int k), .va (tupI U), .va (tupI V), .va (tupM (table M w k)), .va (gridD p B), .va (tupM (table M w k)), .va (.int p), .va (gridD p (mulM M B p)), .va (.int (det S)), .va (tupM (adj S m)), .va (tupM (strM m (det S))), .va (.tup pt), .un, .un, .un, .un, .un, .va (gridD w M), .va (.int m), .va (gridD m S), .va (tupI sums), .va (.int w), .un, .un, .un]) (by simp [ent, entD, runF, runD, runO, oSeq, sRetO, sSeq, sNil, sSet, sSetO, sRet, sRetN, sIf, sDrop, sBreak, sCont, sAppend, sExtend, sSetIx, sAug, sPar, sAsg, sRaise, mVar, mVarZ, mC, mBin, mT, mTAnd, mTOr, mTNot, mAnd, mOr, mNot, mIf, aNil, aCons, newTup, mTup, mFz, newLst, mLst, mCall, mIxO, mLenO, oNone, oSome, mSl, mBinL, mIsi, mFn, mFnK, mFnD, mFnDO, mUn, mItems, mItC, mYes, asB, R.bind, R.go, R.of, R.noBad, FR.to, FRD.to, tgN, tgsN, tgsC, tgT, gI, gIx, gLen, gAbs, gMax2, gMin2, gMin3, gInt, gTuple, gList, gSl, gSlL, gNeg, isT, gIsN, gNotN, gAddA, gMulA, gZip, List.map_cons, List.map_nil, List.length_cons, List.length_nil, List.replicate, List.append_eq, List.cons_append, List.nil_append, List.getElem?_cons_zero, List.getElem?_cons_succ, List.set_cons_zero, List.set_cons_succ, Option.map_some, Option.bind_some, Nat.reduceAdd, Nat.reduceSub, Nat.reduceLT, Nat.reduceLeDiff, Nat.reduceEqDiff, Int.reduceToNat, if_true, if_false, Bool.not_true, Bool.not_false, Bool.false_eq_true, List.length_append, Nat.zero_add, String.reduceEq, or_true, true_or, or_false, false_or, and_true, true_and, Nat.add_zero, Int.reduceLT, Int.reduceLE, decide_true, decide_false, decide_eq_true_eq, Int.reduceAdd, Int.reduceSub, Int.reduceMul, Int.reduceNeg, hd, eqI, neBl, gIsN])]
      rw [seq_nx (e := [.ow d10, .va (.int k), .va (tupI U), .va (tupI V), .va (tupM (table M w k)), .va (gridD p B), .va (tupM (table M w k)), .va (.int p), .va (gridD p (mulM M B p)), .va (.int (det S)), .va (tupM (adj S m)), .va (tupM (strM m (det S))), .va (.tup pt), y13, y14, .un, .un, .un, .va (gridD w M), .va (.int m), .va (gridD m S), .va (tupI sums), .va (.int w), .un, .un, .un]) (by
        rw [if_yes (e := [.ow d10, .va (.int k), .va (tupI U), .va (tupI V), .va (tupM (table M w k)), .va (gridD p B), .va (tupM (table M w k)), .va (.int p), .va (gridD p (mulM M B p)), .va (.int (det S)), .va (tupM (adj S m)), .va (tupM (strM m (det S))), .va (.tup pt), .un, .un, .un, .un, .un, .va (gridD w M), .va (.int m), .va (gridD m S), .va (tupI sums), .va (.int w), .un, .un, .un]) (by simp [ent, entD, runF, runD, runO, oSeq, sRetO, sSeq, sNil, sSet, sSetO, sRet, sRetN, sIf, sDrop, sBreak, sCont, sAppend, sExtend, sSetIx, sAug, sPar, sAsg, sRaise, mVar, mVarZ, mC, mBin, mT, mTAnd, mTOr, mTNot, mAnd, mOr, mNot, mIf, aNil, aCons, newTup, mTup, mFz, newLst, mLst, mCall, mIxO, mLenO, oNone, oSome, mSl, mBinL, mIsi, mFn, mFnK, mFnD, mFnDO, mUn, mItems, mItC, mYes, asB, R.bind, R.go, R.of, R.noBad, FR.to, FRD.to, tgN, tgsN, tgsC, tgT, gI, gIx, gLen, gAbs, gMax2, gMin2, gMin3, gInt, gTuple, gList, gSl, gSlL, gNeg, isT, gIsN, gNotN, gAddA, gMulA, gZip, List.map_cons, List.map_nil, List.length_cons, List.length_nil, List.replicate, List.append_eq, List.cons_append, List.nil_append, List.getElem?_cons_zero, List.getElem?_cons_succ, List.set_cons_zero, List.set_cons_succ, Option.map_some, Option.bind_some, Nat.reduceAdd, Nat.reduceSub, Nat.reduceLT, Nat.reduceLeDiff, Nat.reduceEqDiff, Int.reduceToNat, if_true, if_false, Bool.not_true, Bool.not_false, Bool.false_eq_true, List.length_append, Nat.zero_add, String.reduceEq, or_true, true_or, or_false, false_or, and_true, true_and, Nat.add_zero, Int.reduceLT, Int.reduceLE, decide_true, decide_false, decide_eq_true_eq, Int.reduceAdd, Int.reduceSub, Int.reduceMul, Int.reduceNeg, gNotN])]
        unfold sFor
        rw [show mItC gZip (aCons (mBin gIx (mVar 20) (mC (.int 1))) (aCons (mVar 21) aNil)) [.ow d10, .va (.int k), .va (tupI U), .va (tupI V), .va (tupM (table M w k)), .va (gridD p B), .va (tupM (table M w k)), .va (.int p), .va (gridD p (mulM M B p)), .va (.int (det S)), .va (tupM (adj S m)), .va (tupM (strM m (det S))), .va (.tup pt), .un, .un, .un, .un, .un, .va (gridD w M), .va (.int m), .va (gridD m S), .va (tupI sums), .va (.int w), .un, .un, .un] = .ok ((S.zip sums).map fun q => .tup [tupI q.1, .int q.2]) [.ow d10, .va (.int k), .va (tupI U), .va (tupI V), .va (tupM (table M w k)), .va (gridD p B), .va (tupM (table M w k)), .va (.int p), .va (gridD p (mulM M B p)), .va (.int (det S)), .va (tupM (adj S m)), .va (tupM (strM m (det S))), .va (.tup pt), .un, .un, .un, .un, .un, .va (gridD w M), .va (.int m), .va (gridD m S), .va (tupI sums), .va (.int w), .un, .un, .un] by simp [ent, entD, runF, runD, runO, oSeq, sRetO, sSeq, sNil, sSet, sSetO, sRet, sRetN, sIf, sDrop, sBreak, sCont, sAppend, sExtend, sSetIx, sAug, sPar, sAsg, sRaise, mVar, mVarZ, mC, mBin, mT, mTAnd, mTOr, mTNot, mAnd, mOr, mNot, mIf, aNil, aCons, newTup, mTup, mFz, newLst, mLst, mCall, mIxO, mLenO, oNone, oSome, mSl, mBinL, mIsi, mFn, mFnK, mFnD, mFnDO, mUn, mItems, mItC, mYes, asB, R.bind, R.go, R.of, R.noBad, FR.to, FRD.to, tgN, tgsN, tgsC, tgT, gI, gIx, gLen, gAbs, gMax2, gMin2, gMin3, gInt, gTuple, gList, gSl, gSlL, gNeg, isT, gIsN, gNotN, gAddA, gMulA, gZip, List.map_cons, List.map_nil, List.length_cons, List.length_nil, List.replicate, List.append_eq, List.cons_append, List.nil_append, List.getElem?_cons_zero, List.getElem?_cons_succ, List.set_cons_zero, List.set_cons_succ, Option.map_some, Option.bind_some, Nat.reduceAdd, Nat.reduceSub, Nat.reduceLT, Nat.reduceLeDiff, Nat.reduceEqDiff, Int.reduceToNat, if_true, if_false, Bool.not_true, Bool.not_false, Bool.false_eq_true, List.length_append, Nat.zero_add, String.reduceEq, or_true, true_or, or_false, false_or, and_true, true_and, Nat.add_zero, Int.reduceLT, Int.reduceLE, decide_true, decide_false, decide_eq_true_eq, Int.reduceAdd, Int.reduceSub, Int.reduceMul, Int.reduceNeg, ix1, ← hz]]
        exact hy)]
  obtain ⟨y12, y13, y14, step22⟩ := step22
  rw [step22]
  obtain ⟨v11, d11, r11, a11, b11, D11⟩ := roll_ok (m := (m : Int) + 1) D10 (by omega) (by omega) (by omega)
  obtain ⟨j, hj⟩ : ∃ j : Nat, v11 = (j : Int) := ⟨v11.toNat, by omega⟩
  subst hj
  obtain ⟨J, d12, r12, hJ, D12⟩ := pickC m j _ _ D11 (by omega) (by omega) (by omega)
  have sj := some_ok (n := m) (k := j) (by omega) (by omega)
  have fbr := byrows_ok m1 m3 SY.rows6 lS (by omega : j ≤ m) hJ
  obtain ⟨bv, d13, r13, hbv, D13⟩ := bad_ok D12 (by omega)
  have n1 : F_minor [bv, .tup [], .tup []] = .bad "grid" := bad_minor hbv
  have n2 := minor_ups GM
  have n3 := minor_non GM
  have n4 := minor_len GM m1
  have n5 := minor_sides GM m1
  have n6 := size_zero GM
  have n7 := size_more GM hL
  have n8 : F_common_minor [bv, .int 1] = .bad "grid" := bad_common hbv
  have n9 := cofactors_no
  have n10 := bycof_no SY
  have n11 := byrows_no SY
  have n12 := bad_rank hbv
  have bl : sums.length ≤ 999999 := by omega
  rw [seq_nx (e := [.ow d12, .va (.int k), .va (tupI U), .va (tupI V), .va (tupM (table M w k)), .va (gridD p B), .va (tupM (table M w k)), .va (.int p), .va (gridD p (mulM M B p)), .va (.int (det S)), .va (tupM (adj S m)), .va (tupM (strM m (det S))), y12, y13, y14, .va (tupI J), .un, .un, .va (gridD w M), .va (.int m), .va (gridD m S), .va (tupI sums), .va (.int w), .un, .un, .un]) (by simp [ent, entD, runF, runD, runO, oSeq, sRetO, sSeq, sNil, sSet, sSetO, sRet, sRetN, sIf, sDrop, sBreak, sCont, sAppend, sExtend, sSetIx, sAug, sPar, sAsg, sRaise, mVar, mVarZ, mC, mBin, mT, mTAnd, mTOr, mTNot, mAnd, mOr, mNot, mIf, aNil, aCons, newTup, mTup, mFz, newLst, mLst, mCall, mIxO, mLenO, oNone, oSome, mSl, mBinL, mIsi, mFn, mFnK, mFnD, mFnDO, mUn, mItems, mItC, mYes, asB, R.bind, R.go, R.of, R.noBad, FR.to, FRD.to, tgN, tgsN, tgsC, tgT, gI, gIx, gLen, gAbs, gMax2, gMin2, gMin3, gInt, gTuple, gList, gSl, gSlL, gNeg, isT, gIsN, gNotN, gAddA, gMulA, gZip, List.map_cons, List.map_nil, List.length_cons, List.length_nil, List.replicate, List.append_eq, List.cons_append, List.nil_append, List.getElem?_cons_zero, List.getElem?_cons_succ, List.set_cons_zero, List.set_cons_succ, Option.map_some, Option.bind_some, Nat.reduceAdd, Nat.reduceSub, Nat.reduceLT, Nat.reduceLeDiff, Nat.reduceEqDiff, Int.reduceToNat, if_true, if_false, Bool.not_true, Bool.not_false, Bool.false_eq_true, List.length_append, Nat.zero_add, String.reduceEq, or_true, true_or, or_false, false_or, and_true, true_and, Nat.add_zero, Int.reduceLT, Int.reduceLE, decide_true, decide_false, decide_eq_true_eq, Int.reduceAdd, Int.reduceSub, Int.reduceMul, Int.reduceNeg, big_eq, r11, sj, r12])]
  rw [seq_nx (e := [.ow d12, .va (.int k), .va (tupI U), .va (tupI V), .va (tupM (table M w k)), .va (gridD p B), .va (tupM (table M w k)), .va (.int p), .va (gridD p (mulM M B p)), .va (.int (det S)), .va (tupM (adj S m)), .va (tupM (strM m (det S))), y12, y13, y14, .va (tupI J), .un, .un, .va (gridD w M), .va (.int m), .va (gridD m S), .va (tupI sums), .va (.int w), .un, .un, .un]) (by simp [ent, entD, runF, runD, runO, oSeq, sRetO, sSeq, sNil, sSet, sSetO, sRet, sRetN, sIf, sDrop, sBreak, sCont, sAppend, sExtend, sSetIx, sAug, sPar, sAsg, sRaise, mVar, mVarZ, mC, mBin, mT, mTAnd, mTOr, mTNot, mAnd, mOr, mNot, mIf, aNil, aCons, newTup, mTup, mFz, newLst, mLst, mCall, mIxO, mLenO, oNone, oSome, mSl, mBinL, mIsi, mFn, mFnK, mFnD, mFnDO, mUn, mItems, mItC, mYes, asB, R.bind, R.go, R.of, R.noBad, FR.to, FRD.to, tgN, tgsN, tgsC, tgT, gI, gIx, gLen, gAbs, gMax2, gMin2, gMin3, gInt, gTuple, gList, gSl, gSlL, gNeg, isT, gIsN, gNotN, gAddA, gMulA, gZip, List.map_cons, List.map_nil, List.length_cons, List.length_nil, List.replicate, List.append_eq, List.cons_append, List.nil_append, List.getElem?_cons_zero, List.getElem?_cons_succ, List.set_cons_zero, List.set_cons_succ, Option.map_some, Option.bind_some, Nat.reduceAdd, Nat.reduceSub, Nat.reduceLT, Nat.reduceLeDiff, Nat.reduceEqDiff, Int.reduceToNat, if_true, if_false, Bool.not_true, Bool.not_false, Bool.false_eq_true, List.length_append, Nat.zero_add, String.reduceEq, or_true, true_or, or_false, false_or, and_true, true_and, Nat.add_zero, Int.reduceLT, Int.reduceLE, decide_true, decide_false, decide_eq_true_eq, Int.reduceAdd, Int.reduceSub, Int.reduceMul, Int.reduceNeg, big_eq, fbr, neI])]
  rw [seq_nx (e := [.ow d13, .va (.int k), .va (tupI U), .va (tupI V), .va (tupM (table M w k)), .va (gridD p B), .va (tupM (table M w k)), .va (.int p), .va (gridD p (mulM M B p)), .va (.int (det S)), .va (tupM (adj S m)), .va (tupM (strM m (det S))), y12, y13, y14, .va (tupI J), .un, .va bv, .va (gridD w M), .va (.int m), .va (gridD m S), .va (tupI sums), .va (.int w), .un, .un, .un]) (by simp [ent, entD, runF, runD, runO, oSeq, sRetO, sSeq, sNil, sSet, sSetO, sRet, sRetN, sIf, sDrop, sBreak, sCont, sAppend, sExtend, sSetIx, sAug, sPar, sAsg, sRaise, mVar, mVarZ, mC, mBin, mT, mTAnd, mTOr, mTNot, mAnd, mOr, mNot, mIf, aNil, aCons, newTup, mTup, mFz, newLst, mLst, mCall, mIxO, mLenO, oNone, oSome, mSl, mBinL, mIsi, mFn, mFnK, mFnD, mFnDO, mUn, mItems, mItC, mYes, asB, R.bind, R.go, R.of, R.noBad, FR.to, FRD.to, tgN, tgsN, tgsC, tgT, gI, gIx, gLen, gAbs, gMax2, gMin2, gMin3, gInt, gTuple, gList, gSl, gSlL, gNeg, isT, gIsN, gNotN, gAddA, gMulA, gZip, List.map_cons, List.map_nil, List.length_cons, List.length_nil, List.replicate, List.append_eq, List.cons_append, List.nil_append, List.getElem?_cons_zero, List.getElem?_cons_succ, List.set_cons_zero, List.set_cons_succ, Option.map_some, Option.bind_some, Nat.reduceAdd, Nat.reduceSub, Nat.reduceLT, Nat.reduceLeDiff, Nat.reduceEqDiff, Int.reduceToNat, if_true, if_false, Bool.not_true, Bool.not_false, Bool.false_eq_true, List.length_append, Nat.zero_add, String.reduceEq, or_true, true_or, or_false, false_or, and_true, true_and, Nat.add_zero, Int.reduceLT, Int.reduceLE, decide_true, decide_false, decide_eq_true_eq, Int.reduceAdd, Int.reduceSub, Int.reduceMul, Int.reduceNeg, big_eq, r13])]
  rw [seq_nx (e := [.ow d13, .va (.int k), .va (tupI U), .va (tupI V), .va (tupM (table M w k)), .va (gridD p B), .va (tupM (table M w k)), .va (.int p), .va (gridD p (mulM M B p)), .va (.int (det S)), .va (tupM (adj S m)), .va (tupM (strM m (det S))), y12, y13, y14, .va (tupI J), .va (.lst [.str "grid", .str "ups", .str "ups", .str "sides", .str "sides", .str "size", .str "size", .str "grid", .str "grid", .str "sums", .str "ups", .str "grid"]), .va bv, .va (gridD w M), .va (.int m), .va (gridD m S), .va (tupI sums), .va (.int w), .un, .un, .un]) (by simp [ent, entD, runF, runD, runO, oSeq, sRetO, sSeq, sNil, sSet, sSetO, sRet, sRetN, sIf, sDrop, sBreak, sCont, sAppend, sExtend, sSetIx, sAug, sPar, sAsg, sRaise, mVar, mVarZ, mC, mBin, mT, mTAnd, mTOr, mTNot, mAnd, mOr, mNot, mIf, aNil, aCons, newTup, mTup, mFz, newLst, mLst, mCall, mIxO, mLenO, oNone, oSome, mSl, mBinL, mIsi, mFn, mFnK, mFnD, mFnDO, mUn, mItems, mItC, mYes, asB, R.bind, R.go, R.of, R.noBad, FR.to, FRD.to, tgN, tgsN, tgsC, tgT, gI, gIx, gLen, gAbs, gMax2, gMin2, gMin3, gInt, gTuple, gList, gSl, gSlL, gNeg, isT, gIsN, gNotN, gAddA, gMulA, gZip, List.map_cons, List.map_nil, List.length_cons, List.length_nil, List.replicate, List.append_eq, List.cons_append, List.nil_append, List.getElem?_cons_zero, List.getElem?_cons_succ, List.set_cons_zero, List.set_cons_succ, Option.map_some, Option.bind_some, Nat.reduceAdd, Nat.reduceSub, Nat.reduceLT, Nat.reduceLeDiff, Nat.reduceEqDiff, Int.reduceToNat, if_true, if_false, Bool.not_true, Bool.not_false, Bool.false_eq_true, List.length_append, Nat.zero_add, String.reduceEq, or_true, true_or, or_false, false_or, and_true, true_and, Nat.add_zero, Int.reduceLT, Int.reduceLE, decide_true, decide_false, decide_eq_true_eq, Int.reduceAdd, Int.reduceSub, Int.reduceMul, Int.reduceNeg, big_eq, mRef, dropO, hmin, bl, n1, n2, n3, n4, n5, n6, n7, n8, n9, n10, n11, n12])]
  have fin : gEqB false (.lst [.str "grid", .str "ups", .str "ups", .str "sides", .str "sides", .str "size", .str "size", .str "grid", .str "grid", .str "sums", .str "ups", .str "grid"]) (.lst [.str "grid", .str "ups", .str "ups", .str "sides", .str "sides", .str "size", .str "size", .str "grid", .str "grid", .str "sums", .str "ups", .str "grid"]) = some (.bl true) := eq_self' (n := false) (Lay.lst (k := 63) fun d hd => by
    simp only [List.mem_cons, List.not_mem_nil, or_false] at hd
    rcases hd with rfl | rfl | rfl | rfl | rfl | rfl | rfl | rfl | rfl | rfl | rfl | rfl <;> exact ⟨_, rfl, by decide +kernel, by simp [PyData.depth]⟩)
  exact ⟨d13, by simp [ent, entD, runF, runD, runO, oSeq, sRetO, sSeq, sNil, sSet, sSetO, sRet, sRetN, sIf, sDrop, sBreak, sCont, sAppend, sExtend, sSetIx, sAug, sPar, sAsg, sRaise, mVar, mVarZ, mC, mBin, mT, mTAnd, mTOr, mTNot, mAnd, mOr, mNot, mIf, aNil, aCons, newTup, mTup, mFz, newLst, mLst, mCall, mIxO, mLenO, oNone, oSome, mSl, mBinL, mIsi, mFn, mFnK, mFnD, mFnDO, mUn, mItems, mItC, mYes, asB, R.bind, R.go, R.of, R.noBad, FR.to, FRD.to, tgN, tgsN, tgsC, tgT, gI, gIx, gLen, gAbs, gMax2, gMin2, gMin3, gInt, gTuple, gList, gSl, gSlL, gNeg, isT, gIsN, gNotN, gAddA, gMulA, gZip, List.map_cons, List.map_nil, List.length_cons, List.length_nil, List.replicate, List.append_eq, List.cons_append, List.nil_append, List.getElem?_cons_zero, List.getElem?_cons_succ, List.set_cons_zero, List.set_cons_succ, Option.map_some, Option.bind_some, Nat.reduceAdd, Nat.reduceSub, Nat.reduceLT, Nat.reduceLeDiff, Nat.reduceEqDiff, Int.reduceToNat, if_true, if_false, Bool.not_true, Bool.not_false, Bool.false_eq_true, List.length_append, Nat.zero_add, String.reduceEq, or_true, true_or, or_false, false_or, and_true, true_and, Nat.add_zero, Int.reduceLT, Int.reduceLE, decide_true, decide_false, decide_eq_true_eq, Int.reduceAdd, Int.reduceSub, Int.reduceMul, Int.reduceNeg, big_eq, fin]⟩
theorem law_hm (ns : List Int) (h : ns.length ≤ 63) : F_law [.scr (ns.map D.int)] = .ok (.bl true) := by
  have hr : ∀ K : Nat, K ≤ 4 → mItC gRng1 (aCons (mC (.int K)) aNil) [.va (.scr (zs ns)), .un] = .ok (rngD 0 K) [.va (.scr (zs ns)), .un] := fun K hK => mItC_ok (by simp [ent, entD, runF, runD, runO, oSeq, sRetO, sSeq, sNil, sSet, sSetO, sRet, sRetN, sIf, sDrop, sBreak, sCont, sAppend, sExtend, sSetIx, sAug, sPar, sAsg, sRaise, mVar, mVarZ, mC, mBin, mT, mTAnd, mTOr, mTNot, mAnd, mOr, mNot, mIf, aNil, aCons, newTup, mTup, mFz, newLst, mLst, mCall, mIxO, mLenO, oNone, oSome, mSl, mBinL, mIsi, mFn, mFnK, mFnD, mFnDO, mUn, mItems, mItC, mYes, asB, R.bind, R.go, R.of, R.noBad, FR.to, FRD.to, tgN, tgsN, tgsC, tgT, gI, gIx, gLen, gAbs, gMax2, gMin2, gMin3, gInt, gTuple, gList, gSl, gSlL, gNeg, isT, gIsN, gNotN, gAddA, gMulA, gZip, List.map_cons, List.map_nil, List.length_cons, List.length_nil, List.replicate, List.append_eq, List.cons_append, List.nil_append, List.getElem?_cons_zero, List.getElem?_cons_succ, List.set_cons_zero, List.set_cons_succ, Option.map_some, Option.bind_some, Nat.reduceAdd, Nat.reduceSub, Nat.reduceLT, Nat.reduceLeDiff, Nat.reduceEqDiff, Int.reduceToNat, if_true, if_false, Bool.not_true, Bool.not_false, Bool.false_eq_true, List.length_append, Nat.zero_add, String.reduceEq, or_true, true_or, or_false, false_or, and_true, true_and, Nat.add_zero, Int.reduceLT, Int.reduceLE, decide_true, decide_false, decide_eq_true_eq, Int.reduceAdd, Int.reduceSub, Int.reduceMul, Int.reduceNeg]) (rng1 (by omega))
  have step : ∀ (k a : Nat) (x : Sl), a + k ≤ 4 → ∃ y, forL (tgN 1) l_law_1 ((List.range' a k).map fun i : Nat => D.int i) [.va (.scr (zs ns)), x] = .nx [.va (.scr (zs ns)), y] := by
    intro k
    induction k with
    | zero => exact fun a x _ => ⟨x, rfl⟩
    | succ k ih =>
      intro a x hk
      obtain ⟨y, hy⟩ := ih (a + 1) (.va (.int a)) (by omega)
      refine ⟨y, ?_⟩
      obtain ⟨d, e1, hd⟩ := dice_ok (ns := ns) (spot := a) h (by omega)
      obtain ⟨d', e2⟩ := right_ok hd
      rw [List.range'_succ, List.map_cons, forL_step (e1 := [.va (.scr (zs ns)), .va (.int a)]) (e2 := [.va (.scr (zs ns)), .va (.int a)]) rfl]
      · exact hy
      · simp [l_law_1, ent, entD, runF, runD, runO, oSeq, sRetO, sSeq, sNil, sSet, sSetO, sRet, sRetN, sIf, sDrop, sBreak, sCont, sAppend, sExtend, sSetIx, sAug, sPar, sAsg, sRaise, mVar, mVarZ, mC, mBin, mT, mTAnd, mTOr, mTNot, mAnd, mOr, mNot, mIf, aNil, aCons, newTup, mTup, mFz, newLst, mLst, mCall, mIxO, mLenO, oNone, oSome, mSl, mBinL, mIsi, mFn, mFnK, mFnD, mFnDO, mUn, mItems, mItC, mYes, asB, R.bind, R.go, R.of, R.noBad, FR.to, FRD.to, tgN, tgsN, tgsC, tgT, gI, gIx, gLen, gAbs, gMax2, gMin2, gMin3, gInt, gTuple, gList, gSl, gSlL, gNeg, isT, gIsN, gNotN, gAddA, gMulA, gZip, List.map_cons, List.map_nil, List.length_cons, List.length_nil, List.replicate, List.append_eq, List.cons_append, List.nil_append, List.getElem?_cons_zero, List.getElem?_cons_succ, List.set_cons_zero, List.set_cons_succ, Option.map_some, Option.bind_some, Nat.reduceAdd, Nat.reduceSub, Nat.reduceLT, Nat.reduceLeDiff, Nat.reduceEqDiff, Int.reduceToNat, if_true, if_false, Bool.not_true, Bool.not_false, Bool.false_eq_true, List.length_append, Nat.zero_add, String.reduceEq, or_true, true_or, or_false, false_or, and_true, true_and, Nat.add_zero, Int.reduceLT, Int.reduceLE, decide_true, decide_false, decide_eq_true_eq, Int.reduceAdd, Int.reduceSub, Int.reduceMul, Int.reduceNeg, e1, e2]
  obtain ⟨K, hK⟩ : ∃ K : Nat, K = max 1 (min 4 ns.length) := ⟨_, rfl⟩
  obtain ⟨y, hy⟩ := step K 0 .un (by omega)
  have hmK : (if (1 : Int) < (if (ns.length : Int) < 4 then (ns.length : Int) else 4) then (if (ns.length : Int) < 4 then (ns.length : Int) else 4) else 1) = K := by
    by_cases h4 : (ns.length : Int) < 4 <;> simp only [h4, if_true, if_false] <;> split <;> omega
  have hr2 : rngD 0 K = (List.range' 0 K).map fun i : Nat => D.int i := by
    unfold rngD
    rw [← List.range_eq_range']
    simp
  unfold F_law m_law runF
  rw [show ent 2 [.scr (ns.map D.int)] = [.va (.scr (zs ns)), .un] from rfl]
  rw [seq_nx (by unfold sFor; rw [mItC_ok (e := [.va (.scr (zs ns)), .un]) (ds := [.int K]) (by simp [ent, entD, runF, runD, runO, oSeq, sRetO, sSeq, sNil, sSet, sSetO, sRet, sRetN, sIf, sDrop, sBreak, sCont, sAppend, sExtend, sSetIx, sAug, sPar, sAsg, sRaise, mVar, mVarZ, mC, mBin, mT, mTAnd, mTOr, mTNot, mAnd, mOr, mNot, mIf, aNil, aCons, newTup, mTup, mFz, newLst, mLst, mCall, mIxO, mLenO, oNone, oSome, mSl, mBinL, mIsi, mFn, mFnK, mFnD, mFnDO, mUn, mItems, mItC, mYes, asB, R.bind, R.go, R.of, R.noBad, FR.to, FRD.to, tgN, tgsN, tgsC, tgT, gI, gIx, gLen, gAbs, gMax2, gMin2, gMin3, gInt, gTuple, gList, gSl, gSlL, gNeg, isT, gIsN, gNotN, gAddA, gMulA, gZip, List.map_cons, List.map_nil, List.length_cons, List.length_nil, List.replicate, List.append_eq, List.cons_append, List.nil_append, List.getElem?_cons_zero, List.getElem?_cons_succ, List.set_cons_zero, List.set_cons_succ, Option.map_some, Option.bind_some, Nat.reduceAdd, Nat.reduceSub, Nat.reduceLT, Nat.reduceLeDiff, Nat.reduceEqDiff, Int.reduceToNat, if_true, if_false, Bool.not_true, Bool.not_false, Bool.false_eq_true, List.length_append, Nat.zero_add, String.reduceEq, or_true, true_or, or_false, false_or, and_true, true_and, Nat.add_zero, Int.reduceLT, Int.reduceLE, decide_true, decide_false, decide_eq_true_eq, Int.reduceAdd, Int.reduceSub, Int.reduceMul, Int.reduceNeg, hmK]) (rng1 (n := K) (by omega)), hr2]; exact hy)]
  simp [ent, entD, runF, runD, runO, oSeq, sRetO, sSeq, sNil, sSet, sSetO, sRet, sRetN, sIf, sDrop, sBreak, sCont, sAppend, sExtend, sSetIx, sAug, sPar, sAsg, sRaise, mVar, mVarZ, mC, mBin, mT, mTAnd, mTOr, mTNot, mAnd, mOr, mNot, mIf, aNil, aCons, newTup, mTup, mFz, newLst, mLst, mCall, mIxO, mLenO, oNone, oSome, mSl, mBinL, mIsi, mFn, mFnK, mFnD, mFnDO, mUn, mItems, mItC, mYes, asB, R.bind, R.go, R.of, R.noBad, FR.to, FRD.to, tgN, tgsN, tgsC, tgT, gI, gIx, gLen, gAbs, gMax2, gMin2, gMin3, gInt, gTuple, gList, gSl, gSlL, gNeg, isT, gIsN, gNotN, gAddA, gMulA, gZip, List.map_cons, List.map_nil, List.length_cons, List.length_nil, List.replicate, List.append_eq, List.cons_append, List.nil_append, List.getElem?_cons_zero, List.getElem?_cons_succ, List.set_cons_zero, List.set_cons_succ, Option.map_some, Option.bind_some, Nat.reduceAdd, Nat.reduceSub, Nat.reduceLT, Nat.reduceLeDiff, Nat.reduceEqDiff, Int.reduceToNat, if_true, if_false, Bool.not_true, Bool.not_false, Bool.false_eq_true, List.length_append, Nat.zero_add, String.reduceEq, or_true, true_or, or_false, false_or, and_true, true_and, Nat.add_zero, Int.reduceLT, Int.reduceLE, decide_true, decide_false, decide_eq_true_eq, Int.reduceAdd, Int.reduceSub, Int.reduceMul, Int.reduceNeg]

end Y

theorem PySem.Challenge.cw_rowanswers_k15_whole_minors_holds : PySem.Challenge.rw_rowanswers_k15_whole_minors.Holds :=
  Y.law_of Y.law_hm
