import PyProof.Rows.All
import Wide.All
import OpenK.AllK
import Wide.FinOn
import HandS.ForMost
import HandS.ForExc
import HandS.TupAny
import HandS.IsInst
import HandS.Conv
import HandS.CallSlots
import HandS.SortInts
import HandS.Wide
import HandS.Deep
import HandS.TupMul
import HandS.Style
import HandS.TupLen
import HandS.WordsDict
import HandS.SetFor
import HandS.Remove
import HandS.More
import KE.DataMinMax
import HandS.Zip
import HandS.Defaults
import KE.KDictZip
import HandS.RaiseMore
import PyProof.Rows.RegFStrParts
import PyProof.FitsInt
import PySem.Challenge.RW_lookpast_k01_ways_and_steps
set_option Elab.async false
set_option linter.all false
set_option maxRecDepth 100000
set_option maxRecDepth 100000
namespace MP
open PySem PySem.Spec PyProof.Rows L2

/-- a value of the mirror: tuples are data, lists and the like stand in a store -/
inductive PV where
  | non | bl (b : Bool) | int (i : Int) | str (s : Str) | tup (xs : List PV) | loc (n : Nat) | rol (xs : List PV)
instance : Inhabited PV := ⟨.non⟩

/-- an object of the store -/
inductive Ob where
  | lst (xs : List PV)
  | dK (kvs : List (Key × PV))
  | dT (kvs : List (List Key × PV))
  | ins (c : Str) (fs : List (Str × PV))
  | lk (o : Ob)
instance : Inhabited Ob := ⟨.lst []⟩

abbrev Ms := List Ob
abbrev Env' := List (Option PV)
structure Ex where
  cls : Str
  fs : List (Str × PV)
inductive Out (α : Type) where
  | ret (a : α) (S : Ms) | exc (x : Ex) (S : Ms) | fail
/-- how a statement ends -/
inductive SO where
  | nx (env : Env') (S : Ms) | rt (v : PV) (S : Ms) | bk (env : Env') (S : Ms) | ct (env : Env') (S : Ms) | exc (env : Env') (x : Ex) (S : Ms) | fail

def Out.bind {α β : Type} (o : Out α) (f : α → Ms → Out β) : Out β := match o with
  | .ret a S => f a S
  | .exc x S => .exc x S
  | .fail => .fail

/-! ### how a store lies in the heap -/
/-- a list that is never written (the script) -/
def RoL (K : PySem.W.Frag) (H : Hp) (a : Addr) (xs : List V) : Prop := (∃ o, H a = some (.frz o (.lst xs))) ∨
  ∃ (o : Obj) (its : Array Value) (n : Nat), K.lookup a = some o ∧ o.cls = .type "list" ∧ o.dict = none ∧ o.data = .seq its n ∧ its.size ≤ sizeLine ∧ Vals xs its.toList
theorem RoL.sq {K : PySem.W.Frag} {H : Hp} {a : Addr} {xs : List V} (h : RoL K H a xs) : SqL K H a xs := h.elim (fun ⟨o, h⟩ => .inl (.inr ⟨o, h⟩)) .inr
mutual
inductive VR (K : PySem.W.Frag) (H : Hp) (ρ : List Addr) : PV → V → Prop
  | non : VR K H ρ .non .non
  | bl (b : Bool) : VR K H ρ (.bl b) (.bl b)
  | int (i : Int) : VR K H ρ (.int i) (.int i)
  | str (s : Str) : VR K H ρ (.str s) (.str s)
  | loc {n : Nat} {a : Addr} : ρ[n]? = some a → VR K H ρ (.loc n) (.ref a)
  | tup {xs : List PV} {a : Addr} {vs : List V} : H a = some (.tup vs) → VRs K H ρ xs vs → VR K H ρ (.tup xs) (.ref a)
  | rol {xs : List PV} {a : Addr} {vs : List V} : RoL K H a vs → VRs K H ρ xs vs → VR K H ρ (.rol xs) (.ref a)
inductive VRs (K : PySem.W.Frag) (H : Hp) (ρ : List Addr) : List PV → List V → Prop
  | nil : VRs K H ρ [] []
  | cons {x : PV} {v : V} {xs : List PV} {vs : List V} : VR K H ρ x v → VRs K H ρ xs vs → VRs K H ρ (x :: xs) (v :: vs)
end
section
variable (K : PySem.W.Frag) (mg : Str → Option Value)
def KVR (H : Hp) (ρ : List Addr) {κ : Type} : List (κ × PV) → List (κ × V) → Prop := Paired fun p q => p.1 = q.1 ∧ VR K H ρ p.2 q.2
inductive OR (H : Hp) (ρ : List Addr) : Ob → HO → Prop
  | lst {xs : List PV} {vs : List V} : VRs K H ρ xs vs → OR H ρ (.lst xs) (.lst vs)
  | dK {xs : List (Key × PV)} {vs : List (Key × V)} : KVR K H ρ xs vs → OR H ρ (.dK xs) (.dK vs)
  | dT {xs : List (List Key × PV)} {vs : List (List Key × V)} : KVR K H ρ xs vs → OR H ρ (.dT xs) (.dT vs)
  | ins {c : Str} {C dx : Addr} {fs : List (Str × PV)} {gs : List (Str × V)} : mg c = some (.ref C) → KVR K H ρ fs gs → OR H ρ (.ins c fs) (.ins C dx gs)
  | lk {o : Ob} {u : HO} {oj : Obj} : OR H ρ o u → OR H ρ (.lk o) (.frz oj u)
structure HR (ρ : List Addr) (S : Ms) (H : Hp) : Prop where
  len : ρ.length = S.length
  nd : ρ.Nodup
  at_ : ∀ (n : Nat) (o : Ob), S[n]? = some o → ∃ a ho, ρ[n]? = some a ∧ H a = some ho ∧ OR K mg H ρ o ho
end
/-- the tuples and what is locked stay -/
def Ext (H H' : Hp) : Prop := ∀ a, (∀ xs, H a = some (.tup xs) → H' a = some (.tup xs)) ∧ (∀ o u, H a = some (.frz o u) → H' a = some (.frz o u))
theorem Ext.refl (H : Hp) : Ext H H := fun _ => ⟨fun _ h => h, fun _ _ h => h⟩
theorem Ext.trans {H H1 H2 : Hp} (a : Ext H H1) (b : Ext H1 H2) : Ext H H2 := fun c => ⟨fun xs h => (b c).1 xs ((a c).1 xs h), fun o u h => (b c).2 o u ((a c).2 o u h)⟩
theorem Ext.sqT {K : PySem.W.Frag} {H H' : Hp} (e : Ext H H') {a : Addr} {vs : List V} (h : SqT K H a vs) : SqT K H' a vs := by
  rcases h with (h | ⟨o, h⟩) | h
  · exact .inl (.inl ((e a).1 _ h))
  · exact .inl (.inr ⟨o, (e a).2 _ _ h⟩)
  · exact .inr h
theorem Ext.roL {K : PySem.W.Frag} {H H' : Hp} (e : Ext H H') {a : Addr} {vs : List V} (h : RoL K H a vs) : RoL K H' a vs := h.elim (fun ⟨o, h⟩ => .inl ⟨o, (e a).2 _ _ h⟩) .inr
/-- the addresses grow -/
def Grow (ρ ρ' : List Addr) : Prop := ∀ (n : Nat) (a : Addr), ρ[n]? = some a → ρ'[n]? = some a
theorem Grow.refl (ρ : List Addr) : Grow ρ ρ := fun _ _ h => h
theorem Grow.trans {a b c : List Addr} (h : Grow a b) (h' : Grow b c) : Grow a c := fun n x e => h' n x (h n x e)
theorem Grow.snoc (ρ : List Addr) (p : Addr) : Grow ρ (ρ ++ [p]) := fun n a e => by
  rw [List.getElem?_append_left (by have := (List.getElem?_eq_some_iff.mp e).1; exact this)]; exact e
section
variable {K : PySem.W.Frag} {mg : Str → Option Value} {H H' : Hp} {ρ ρ' : List Addr}
mutual
theorem VR.mono (e : Ext H H') (g : Grow ρ ρ') : ∀ {x : PV} {v : V}, VR K H ρ x v → VR K H' ρ' x v
  | _, _, .non => .non
  | _, _, .bl b => .bl b
  | _, _, .int i => .int i
  | _, _, .str s => .str s
  | _, _, .loc h => .loc (g _ _ h)
  | _, _, .tup h hs => .tup ((e _).1 _ h) (VRs.mono e g hs)
  | _, _, .rol h hs => .rol (e.roL h) (VRs.mono e g hs)
theorem VRs.mono (e : Ext H H') (g : Grow ρ ρ') : ∀ {xs : List PV} {vs : List V}, VRs K H ρ xs vs → VRs K H' ρ' xs vs
  | _, _, .nil => .nil
  | _, _, .cons h t => .cons (VR.mono e g h) (VRs.mono e g t)
end
theorem KVR.mono {κ : Type} (e : Ext H H') (g : Grow ρ ρ') {xs : List (κ × PV)} {vs : List (κ × V)} (h : KVR K H ρ xs vs) : KVR K H' ρ' xs vs :=
  Paired.mapP h fun _ _ z => ⟨z.1, z.2.mono e g⟩
theorem OR.mono (e : Ext H H') (g : Grow ρ ρ') {o : Ob} {u : HO} (h : OR K mg H ρ o u) : OR K mg H' ρ' o u := by
  induction h with
  | lst h => exact .lst (h.mono e g)
  | dK h => exact .dK (h.mono e g)
  | dT h => exact .dT (h.mono e g)
  | ins c h => exact .ins c (h.mono e g)
  | lk h ih => exact .lk ih
theorem OR.ntup {o : Ob} {xs : List V} (h : OR K mg H ρ o (.tup xs)) : False := by cases h
theorem VRs.length : ∀ {xs : List PV} {vs : List V}, VRs K H ρ xs vs → vs.length = xs.length
  | _, _, .nil => rfl
  | _, _, .cons _ t => by rw [List.length_cons, List.length_cons, VRs.length t]
theorem VRs.get : ∀ {xs : List PV} {vs : List V} {i : Nat} {x : PV}, VRs K H ρ xs vs → xs[i]? = some x → ∃ v, vs[i]? = some v ∧ VR K H ρ x v
  | _, _, _, _, .nil, e => by simp at e
  | _, _, 0, x, .cons (v := v) h _, e => ⟨v, rfl, by simp at e; subst e; exact h⟩
  | _, _, i + 1, x, .cons _ t, e => by
    obtain ⟨v, h1, h2⟩ := VRs.get (i := i) (x := x) t (by simpa using e)
    exact ⟨v, by simpa using h1, h2⟩
theorem VRs.get' : ∀ {xs : List PV} {vs : List V} {i : Nat} {v : V}, VRs K H ρ xs vs → vs[i]? = some v → ∃ x, xs[i]? = some x ∧ VR K H ρ x v
  | _, _, _, _, .nil, e => by simp at e
  | _, _, 0, v, .cons (x := x) h _, e => ⟨x, rfl, by simp at e; subst e; exact h⟩
  | _, _, i + 1, v, .cons _ t, e => by
    obtain ⟨x, h1, h2⟩ := VRs.get' (i := i) (v := v) t (by simpa using e)
    exact ⟨x, by simpa using h1, h2⟩
theorem VRs.append : ∀ {xs ys : List PV} {vs ws : List V}, VRs K H ρ xs vs → VRs K H ρ ys ws → VRs K H ρ (xs ++ ys) (vs ++ ws)
  | _, _, _, _, .nil, h => h
  | _, _, _, _, .cons h t, h' => .cons h (VRs.append t h')
theorem VRs.take : ∀ {xs : List PV} {vs : List V} (n : Nat), VRs K H ρ xs vs → VRs K H ρ (xs.take n) (vs.take n)
  | _, _, 0, _ => .nil
  | _, _, _ + 1, .nil => .nil
  | _, _, n + 1, .cons h t => .cons h (VRs.take n t)
theorem VRs.drop : ∀ {xs : List PV} {vs : List V} (n : Nat), VRs K H ρ xs vs → VRs K H ρ (xs.drop n) (vs.drop n)
  | _, _, 0, h => h
  | _, _, _ + 1, .nil => .nil
  | _, _, n + 1, .cons _ t => VRs.drop n t
theorem VRs.set {x : PV} {v : V} (r : VR K H ρ x v) : ∀ {xs : List PV} {vs : List V} (i : Nat), VRs K H ρ xs vs → VRs K H ρ (xs.set i x) (vs.set i v)
  | _, _, _, .nil => .nil
  | _, _, 0, .cons _ t => .cons r t
  | _, _, i + 1, .cons q t => .cons q (VRs.set r i t)
theorem VRs.reverse : ∀ {xs : List PV} {vs : List V}, VRs K H ρ xs vs → VRs K H ρ xs.reverse vs.reverse
  | _, _, .nil => .nil
  | _, _, .cons h t => by rw [List.reverse_cons, List.reverse_cons]; exact (VRs.reverse t).append (.cons h .nil)
theorem VRs.eraseIdx : ∀ {xs : List PV} {vs : List V} (i : Nat), VRs K H ρ xs vs → VRs K H ρ (xs.eraseIdx i) (vs.eraseIdx i)
  | _, _, _, .nil => .nil
  | _, _, 0, .cons _ t => t
  | _, _, i + 1, .cons h t => .cons h (VRs.eraseIdx i t)
theorem VRs.ints : ∀ (ns : List Int), VRs K H ρ (ns.map PV.int) (ns.map V.int)
  | [] => .nil
  | n :: r => .cons (.int n) (VRs.ints r)
theorem VRs.ints_inv : ∀ {ns : List Int} {vs : List V}, VRs K H ρ (ns.map PV.int) vs → vs = ns.map V.int
  | [], _, h => by cases h; rfl
  | n :: r, _, h => by
    cases h with
    | cons h t => cases h; rw [VRs.ints_inv t]; rfl
theorem VRs.bls_inv : ∀ {ns : List Bool} {vs : List V}, VRs K H ρ (ns.map PV.bl) vs → vs = ns.map V.bl
  | [], _, h => by cases h; rfl
  | n :: r, _, h => by
    cases h with
    | cons h t => cases h; rw [VRs.bls_inv t]; rfl
/-- the locals -/
def ER (K : PySem.W.Frag) (H : Hp) (ρ : List Addr) : Env' → List (Option V) → Prop := Paired fun e s => ∀ x, e = some x → ∃ v, s = some v ∧ VR K H ρ x v
theorem ER.mono (e : Ext H H') (g : Grow ρ ρ') {env : Env'} {σ : List (Option V)} (h : ER K H ρ env σ) : ER K H' ρ' env σ :=
  Paired.mapP h fun _ _ z x ex => let ⟨v, h1, h2⟩ := z x ex; ⟨v, h1, h2.mono e g⟩
theorem ER.get : ∀ {env : Env'} {σ : List (Option V)} {i : Nat} {x : PV}, ER K H ρ env σ → env[i]? = some (some x) → ∃ v, σ[i]? = some (some v) ∧ VR K H ρ x v
  | _, _, _, _, .nil, e => by simp at e
  | _, _, 0, x, .cons h _, e => by
    simp at e; subst e
    obtain ⟨v, h1, h2⟩ := h x rfl
    subst h1; exact ⟨v, rfl, h2⟩
  | _, _, i + 1, x, .cons _ t, e => by
    obtain ⟨v, h1, h2⟩ := ER.get (i := i) (x := x) t (by simpa using e)
    exact ⟨v, by simpa using h1, h2⟩
theorem ER.set {x : PV} {v : V} (r : VR K H ρ x v) : ∀ {env : Env'} {σ : List (Option V)} (i : Nat), ER K H ρ env σ → ER K H ρ (env.set i (some x)) (σ.set i (some v))
  | _, _, _, .nil => .nil
  | _, _, 0, .cons _ t => .cons (fun y e => by cases e; exact ⟨v, rfl, r⟩) t
  | _, _, i + 1, .cons q t => .cons q (ER.set r i t)
theorem ER.setN : ∀ {env : Env'} {σ : List (Option V)} (i : Nat) (s : Option V), ER K H ρ env σ → ER K H ρ (env.set i none) (σ.set i s)
  | _, _, _, _, .nil => .nil
  | _, _, 0, _, .cons _ t => .cons (fun y e => by cases e) t
  | _, _, i + 1, s, .cons q t => .cons q (ER.setN i s t)
theorem ER.start : ∀ {xs : List PV} {vs : List V} (n : Nat), VRs K H ρ xs vs → ER K H ρ (xs.map some ++ List.replicate n none) (vs.map some ++ List.replicate n none)
  | _, _, 0, .nil => .nil
  | _, _, n + 1, .nil => by rw [List.replicate_succ, List.replicate_succ]; exact .cons (fun _ e => by cases e) (ER.start n .nil)
  | _, _, n, .cons h t => .cons (fun y e => by cases e; exact ⟨_, rfl, h⟩) (ER.start n t)
end
end MP

set_option maxRecDepth 100000
namespace MP
open PySem PySem.Spec PyProof.Rows L2
section
variable {K : PySem.W.Frag} {mg : Str → Option Value} {H H' : Hp} {ρ ρ' : List Addr} {S : Ms}

theorem nodup_inj {l : List Addr} (h : l.Nodup) {i j : Nat} (hi : i < l.length) (hj : j < l.length) (e : l[i] = l[j]) : i = j := by
  have h' := List.pairwise_iff_getElem.mp h
  rcases Nat.lt_trichotomy i j with q | q | q
  · exact absurd e (h' i j hi hj q)
  · exact q
  · exact absurd e.symm (h' j i hj hi q)
theorem Ext.new {p : Addr} {o : HO} (h : H p = none) : Ext H (upd H p o) := fun a =>
  ⟨fun xs e => by rw [upd_ne (ne_of_none e h)]; exact e, fun o u e => by rw [upd_ne (ne_of_none e h)]; exact e⟩
/-- what is neither a tuple nor locked -/
def Soft (u : HO) : Prop := (∀ xs, u ≠ .tup xs) ∧ ∀ o x, u ≠ .frz o x
theorem Ext.put {p : Addr} {o u : HO} (h : H p = some u) (s : Soft u) : Ext H (upd H p o) := fun a =>
  ⟨fun xs e => by rw [upd_ne (ne_of e h (fun z => s.1 xs z.symm))]; exact e, fun o x e => by rw [upd_ne (ne_of e h (fun z => s.2 o x z.symm))]; exact e⟩

theorem HR.fresh (R : HR K mg ρ S H) {p : Addr} (h : H p = none) : p ∉ ρ := fun hp => by
  obtain ⟨n, hn, e⟩ := List.getElem_of_mem hp
  have hs : n < S.length := by rw [← R.len]; exact hn
  obtain ⟨a, ho, h1, h2, _⟩ := R.at_ n S[n] (List.getElem?_eq_getElem hs)
  rw [List.getElem?_eq_getElem hn] at h1
  cases h1
  rw [e, h] at h2
  cases h2
theorem HR.get (R : HR K mg ρ S H) {n : Nat} {a : Addr} {o : Ob} (h : ρ[n]? = some a) (e : S[n]? = some o) : ∃ ho, H a = some ho ∧ OR K mg H ρ o ho := by
  obtain ⟨a', ho, h1, h2, h3⟩ := R.at_ n o e
  rw [h] at h1; cases h1
  exact ⟨ho, h2, h3⟩
theorem HR.bound (R : HR K mg ρ S H) {n : Nat} {o : Ob} (e : S[n]? = some o) : ∃ a, ρ[n]? = some a := let ⟨a, _, h, _⟩ := R.at_ n o e; ⟨a, h⟩
/-- an untracked object (a tuple) more in the heap -/
theorem HR.mono (R : HR K mg ρ S H) (e : Ext H H') (k : ∀ (n : Nat) (a : Addr), ρ[n]? = some a → H' a = H a) : HR K mg ρ S H' :=
  ⟨R.len, R.nd, fun n o h => let ⟨a, ho, h1, h2, h3⟩ := R.at_ n o h; ⟨a, ho, h1, by rw [k n a h1]; exact h2, h3.mono e (.refl _)⟩⟩
theorem HR.newTup (R : HR K mg ρ S H) {p : Addr} {vs : List V} (h : H p = none) : HR K mg ρ S (upd H p (.tup vs)) :=
  R.mono (.new h) fun n a e => by
    rw [upd_ne]
    intro z
    subst z
    exact R.fresh h (List.mem_of_getElem? e)
/-- a new object of the store -/
theorem HR.new (R : HR K mg ρ S H) {p : Addr} {o : Ob} {u : HO} (h : H p = none) (r : OR K mg H ρ o u) : HR K mg (ρ ++ [p]) (S ++ [o]) (upd H p u) := by
  have nf := R.fresh h
  refine ⟨by rw [List.length_append, List.length_append, R.len]; rfl, List.nodup_append.mpr ⟨R.nd, by simp, fun a ha b hb => ?_⟩, fun n o' e => ?_⟩
  · simp at hb; subst hb; intro z; subst z; exact nf ha
  · by_cases hn : n < S.length
    · rw [List.getElem?_append_left hn] at e
      obtain ⟨a, ho, h1, h2, h3⟩ := R.at_ n o' e
      refine ⟨a, ho, Grow.snoc _ _ _ _ h1, ?_, h3.mono (.new h) (.snoc _ _)⟩
      rw [upd_ne (ne_of_none h2 h)]; exact h2
    · have e' : n = S.length := by
        have := (List.getElem?_eq_some_iff.mp e).1
        rw [List.length_append] at this
        simp at this
        omega
      subst e'
      simp at e
      subst e
      refine ⟨p, u, ?_, upd_same, r.mono (.new h) (.snoc _ _)⟩
      rw [← R.len]; simp
theorem VR.new {p : Addr} : VR K H' (ρ ++ [p]) (.loc ρ.length) (.ref p) := .loc (by simp)
/-- an object is changed -/
theorem HR.put (R : HR K mg ρ S H) {n : Nat} {a : Addr} {o : Ob} {u u' : HO} (hn : ρ[n]? = some a) (ha : H a = some u) (s : Soft u) (r : OR K mg H ρ o u') : HR K mg ρ (S.set n o) (upd H a u') := by
  have ex : Ext H (upd H a u') := .put ha s
  refine ⟨by rw [R.len, List.length_set], R.nd, fun m o' e => ?_⟩
  by_cases hm : n = m
  · subst hm
    have hl : n < S.length := by
      have := (List.getElem?_eq_some_iff.mp e).1
      rw [List.length_set] at this
      exact this
    rw [List.getElem?_set_self hl] at e
    cases e
    exact ⟨a, u', hn, upd_same, r.mono ex (.refl _)⟩
  · rw [List.getElem?_set_ne hm] at e
    obtain ⟨b, ho, h1, h2, h3⟩ := R.at_ m o' e
    refine ⟨b, ho, h1, ?_, h3.mono ex (.refl _)⟩
    rw [upd_ne]; exact h2
    intro z
    subst z
    have hmb := (List.getElem?_eq_some_iff.mp h1)
    have hnb := (List.getElem?_eq_some_iff.mp hn)
    obtain ⟨l1, q1⟩ := hmb
    obtain ⟨l2, q2⟩ := hnb
    exact hm (nodup_inj R.nd l2 l1 (q2.trans q1.symm))
end

/-! ### what is wanted behind an expression, behind a statement -/
section
variable (K : PySem.W.Frag) (mg : Str → Option Value)
/-- what lies in an exception's dict -/
def XR (H : Hp) (ρ : List Addr) (fs : List (Str × PV)) (d : Option Addr) : Prop := ∃ dd gs, d = some dd ∧ H dd = some (.xd gs) ∧ KVR K H ρ fs gs
def Post (ρ : List Addr) (H : Hp) (σ : L2.St) (W : WX) (Q : VK) : Out PV → Prop
  | .ret v S' => ∀ ρ' v' H', Grow ρ ρ' → HR K mg ρ' S' H' → Ext H H' → VR K H' ρ' v v' → Q v' H'
  | .exc x S' => ∀ ρ' C d H', Grow ρ ρ' → HR K mg ρ' S' H' → Ext H H' → mg x.cls = some (.ref C) → XR K H' ρ' x.fs d → W (.ref C) d σ H'
  | .fail => False
def PostL (ρ : List Addr) (H : Hp) (σ : L2.St) (W : WX) (Q : List V → Hp → Prop) : Out (List PV) → Prop
  | .ret v S' => ∀ ρ' v' H', Grow ρ ρ' → HR K mg ρ' S' H' → Ext H H' → VRs K H' ρ' v v' → Q v' H'
  | .exc x S' => ∀ ρ' C d H', Grow ρ ρ' → HR K mg ρ' S' H' → Ext H H' → mg x.cls = some (.ref C) → XR K H' ρ' x.fs d → W (.ref C) d σ H'
  | .fail => False
def PostB (ρ : List Addr) (H : Hp) (σ : L2.St) (W : WX) (Q : Bool → Hp → Prop) : Out Bool → Prop
  | .ret v S' => ∀ ρ' H', Grow ρ ρ' → HR K mg ρ' S' H' → Ext H H' → Q v H'
  | .exc x S' => ∀ ρ' C d H', Grow ρ ρ' → HR K mg ρ' S' H' → Ext H H' → mg x.cls = some (.ref C) → XR K H' ρ' x.fs d → W (.ref C) d σ H'
  | .fail => False
def PostS (ρ : List Addr) (H : Hp) (W : WX) (D : Ends) : SO → Prop
  | .nx e S' => ∀ ρ' σ' H', Grow ρ ρ' → HR K mg ρ' S' H' → Ext H H' → ER K H' ρ' e σ' → D.nx σ' H'
  | .rt v S' => ∀ ρ' v' H', Grow ρ ρ' → HR K mg ρ' S' H' → Ext H H' → VR K H' ρ' v v' → D.rt v' H'
  | .bk e S' => ∀ ρ' σ' H', Grow ρ ρ' → HR K mg ρ' S' H' → Ext H H' → ER K H' ρ' e σ' → D.bk σ' H'
  | .ct e S' => ∀ ρ' σ' H', Grow ρ ρ' → HR K mg ρ' S' H' → Ext H H' → ER K H' ρ' e σ' → D.ct σ' H'
  | .exc e x S' => ∀ ρ' σ' C d H', Grow ρ ρ' → HR K mg ρ' S' H' → Ext H H' → ER K H' ρ' e σ' → mg x.cls = some (.ref C) → XR K H' ρ' x.fs d → W (.ref C) d σ' H'
  | .fail => False
end
section
variable {K : PySem.W.Frag} {mg : Str → Option Value} {H H' : Hp} {ρ ρ' : List Addr} {S : Ms} {σ : L2.St} {W : WX} {D : Ends}
theorem Post.mono {Q : VK} {o : Out PV} (g : Grow ρ ρ') (e : Ext H H') (h : Post K mg ρ H σ W Q o) : Post K mg ρ' H' σ W Q o := by
  cases o with
  | ret v S => exact fun r v' h' g' R e' => h r v' h' (g.trans g') R (e.trans e')
  | exc x S => exact fun r C d h' g' R e' => h r C d h' (g.trans g') R (e.trans e')
  | fail => exact h
theorem PostL.mono {Q : List V → Hp → Prop} {o : Out (List PV)} (g : Grow ρ ρ') (e : Ext H H') (h : PostL K mg ρ H σ W Q o) : PostL K mg ρ' H' σ W Q o := by
  cases o with
  | ret v S => exact fun r v' h' g' R e' => h r v' h' (g.trans g') R (e.trans e')
  | exc x S => exact fun r C d h' g' R e' => h r C d h' (g.trans g') R (e.trans e')
  | fail => exact h
theorem PostB.mono {Q : Bool → Hp → Prop} {o : Out Bool} (g : Grow ρ ρ') (e : Ext H H') (h : PostB K mg ρ H σ W Q o) : PostB K mg ρ' H' σ W Q o := by
  cases o with
  | ret v S => exact fun r h' g' R e' => h r h' (g.trans g') R (e.trans e')
  | exc x S => exact fun r C d h' g' R e' => h r C d h' (g.trans g') R (e.trans e')
  | fail => exact h
theorem PostS.mono {o : SO} (g : Grow ρ ρ') (e : Ext H H') (h : PostS K mg ρ H W D o) : PostS K mg ρ' H' W D o := by
  cases o with
  | nx en S => exact fun r s h' g' R e' => h r s h' (g.trans g') R (e.trans e')
  | rt v S => exact fun r v' h' g' R e' => h r v' h' (g.trans g') R (e.trans e')
  | bk en S => exact fun r s h' g' R e' => h r s h' (g.trans g') R (e.trans e')
  | ct en S => exact fun r s h' g' R e' => h r s h' (g.trans g') R (e.trans e')
  | exc en x S => exact fun r s C d h' g' R e' => h r s C d h' (g.trans g') R (e.trans e')
  | fail => exact h
end

/-! ### the judgements: a piece of syntax and its mirror -/
abbrev ME := Env' → Ms → Out PV
abbrev ML := Env' → Ms → Out (List PV)
abbrev MB := Env' → Ms → Out Bool
abbrev MS := Env' → Ms → SO
def SE (X : Cx) (W : WX) (e : Expr) (m : ME) : Prop := ∃ t, PE X e t ∧ ∀ ρ env S σ H Q, HR X.K X.mg ρ S H → ER X.K H ρ env σ → Post X.K X.mg ρ H σ W Q (m env S) → t σ H Q
def SA (X : Cx) (W : WX) (es : List Expr) (m : ML) : Prop := ∃ t, PA X es t ∧ ∀ ρ env S σ H Q, HR X.K X.mg ρ S H → ER X.K H ρ env σ → PostL X.K X.mg ρ H σ W Q (m env S) → t σ H Q
def SB (X : Cx) (W : WX) (e : Expr) (m : MB) : Prop := ∃ t, PT X e t ∧ ∀ ρ env S σ H Q, HR X.K X.mg ρ S H → ER X.K H ρ env σ → PostB X.K X.mg ρ H σ W Q (m env S) → t σ H Q
def SW (X : Cx) (W : WX) (e : Expr) (m : MB) : Prop := ∃ t, PW X e t ∧ ∀ ρ env S σ H Q, HR X.K X.mg ρ S H → ER X.K H ρ env σ → PostB X.K X.mg ρ H σ W Q (m env S) → t σ H Q
def SS (X : Cx) (W : WX) (st : Stmt) (m : MS) : Prop := ∃ t, PS X st t ∧ ∀ ρ env S σ H D, HR X.K X.mg ρ S H → ER X.K H ρ env σ → PostS X.K X.mg ρ H W D (m env S) → t D σ H
def SSs (X : Cx) (W : WX) (st : List Stmt) (m : MS) : Prop := ∃ t, PSs X st t ∧ ∀ ρ env S σ H D, HR X.K X.mg ρ S H → ER X.K H ρ env σ → PostS X.K X.mg ρ H W D (m env S) → t D σ H

/-! ### expressions -/
section
variable {X : Cx} {W : WX} {a b e : Expr} {es : List Expr} {pos : Pos} {m n : ME} {ml : ML}
def mVar (i : Nat) : ME := fun env S => match env[i]? with | some (some v) => .ret v S | _ => .fail
theorem s_var (i : Nat) {x : Str} (hN : X.N[i]? = some x := by rfl) (hv : Vis X.env.scope x := by first | exact Or.inl rfl | exact Or.inr (Or.inl rfl) | exact Or.inr (Or.inr rfl)) (hd : (x == ("__debug__" : Str)) = false := by decide)
    (hcd : (x == ("__classdict__" : Str)) = false := by decide) : SE X W (.Name x pos) (mVar i) := ⟨_, pe_var hN hv hd hcd, fun ρ env S σ H Q R er h => by
  unfold mVar at h
  split at h
  · rename_i v ev
    obtain ⟨v', h1, h2⟩ := er.get ev
    exact ⟨v', h1, h _ _ _ (.refl _) R (.refl _) h2⟩
  · exact h.elim⟩
def mC (v : PV) : ME := fun _ S => .ret v S
theorem s_int {i j} : SE X W (.Constant (.int i) j pos) (mC (.int i)) := ⟨_, pe_int, fun ρ env S σ H Q R er h => h _ _ _ (.refl _) R (.refl _) (.int i)⟩
theorem s_bl {i j} : SE X W (.Constant (.bool i) j pos) (mC (.bl i)) := ⟨_, pe_bl, fun ρ env S σ H Q R er h => h _ _ _ (.refl _) R (.refl _) (.bl i)⟩
theorem s_non {j} : SE X W (.Constant .none j pos) (mC .non) := ⟨_, pe_non, fun ρ env S σ H Q R er h => h _ _ _ (.refl _) R (.refl _) .non⟩
theorem s_str {i j} : SE X W (.Constant (.str i) j pos) (mC (.str i)) := ⟨_, pe_str, fun ρ env S σ H Q R er h => h _ _ _ (.refl _) R (.refl _) (.str i)⟩

/-- two values, an operation on them -/
def m2 (a b : ME) (f : PV → PV → Ms → Out PV) : ME := fun env S => (a env S).bind fun x S1 => (b env S1).bind fun y S2 => f x y S2
def m1 (a : ME) (f : PV → Ms → Out PV) : ME := fun env S => (a env S).bind fun x S1 => f x S1
/-- a rule by values serves the operation f -/
def O2 (X : Cx) (W : WX) (f : PV → PV → Ms → Out PV) (r : V → V → Hp → VK → Prop) : Prop :=
  ∀ ρ S H σ Q x y x' y', HR X.K X.mg ρ S H → VR X.K H ρ x x' → VR X.K H ρ y y' → Post X.K X.mg ρ H σ W Q (f x y S) → r x' y' H Q
def O1 (X : Cx) (W : WX) (f : PV → Ms → Out PV) (r : V → Hp → VK → Prop) : Prop :=
  ∀ ρ S H σ Q x x', HR X.K X.mg ρ S H → VR X.K H ρ x x' → Post X.K X.mg ρ H σ W Q (f x S) → r x' H Q
def OL (X : Cx) (W : WX) (f : List PV → Ms → Out PV) (r : List V → Hp → VK → Prop) : Prop :=
  ∀ ρ S H σ Q x x', HR X.K X.mg ρ S H → VRs X.K H ρ x x' → Post X.K X.mg ρ H σ W Q (f x S) → r x' H Q

theorem seq_ok {o : Out PV} {f : PV → Ms → Out PV} {ρ H σ Q} (h : Post X.K X.mg ρ H σ W Q (o.bind f)) :
    Post X.K X.mg ρ H σ W (fun v H' => ∃ ρ' x S', Grow ρ ρ' ∧ HR X.K X.mg ρ' S' H' ∧ Ext H H' ∧ VR X.K H' ρ' x v ∧ Post X.K X.mg ρ' H' σ W Q (f x S')) o := by
  cases o with
  | ret v S => exact fun ρ' v' H' g R e r => ⟨ρ', v, S, g, R, e, r, Post.mono g e h⟩
  | exc x S => exact h
  | fail => exact h
theorem bin_ok {ta tb : TE} {r : V → V → Hp → VK → Prop} {f : PV → PV → Ms → Out PV}
    (ha : ∀ ρ env S σ H Q, HR X.K X.mg ρ S H → ER X.K H ρ env σ → Post X.K X.mg ρ H σ W Q (m env S) → ta σ H Q)
    (hb : ∀ ρ env S σ H Q, HR X.K X.mg ρ S H → ER X.K H ρ env σ → Post X.K X.mg ρ H σ W Q (n env S) → tb σ H Q) (hf : O2 X W f r)
    (ρ env S σ H Q) (R : HR X.K X.mg ρ S H) (er : ER X.K H ρ env σ) (h : Post X.K X.mg ρ H σ W Q (m2 m n f env S)) : tOp r ta tb σ H Q := by
  refine ha ρ env S σ H _ R er ?_
  unfold m2 at h
  cases e : m env S with
  | fail => rw [e] at h; exact h.elim
  | exc x S => rw [e] at h; exact h
  | ret x S1 =>
    rw [e] at h
    intro ρ1 x' H1 g1 R1 e1 r1
    refine hb ρ1 env S1 σ H1 _ R1 (er.mono e1 g1) ?_
    have h := Post.mono g1 e1 h
    simp only [Out.bind] at h
    cases e : n env S1 with
    | fail => rw [e] at h; exact h.elim
    | exc x S => rw [e] at h; exact h
    | ret y S2 =>
      rw [e] at h
      intro ρ2 y' H2 g2 R2 e2 r2
      exact hf ρ2 S2 H2 σ Q x y x' y' R2 (r1.mono e2 g2) r2 (Post.mono g2 e2 h)
theorem s_op {op : Operator} {f : PV → PV → Ms → Out PV} {r : V → V → Hp → VK → Prop} (ho : OpR X (binaryOp op) r) (hf : O2 X W f r) (ha : SE X W a m) (hb : SE X W b n) : SE X W (.BinOp a op b pos) (m2 m n f) :=
  let ⟨_, pa, qa⟩ := ha; let ⟨_, pb, qb⟩ := hb
  ⟨_, pe_op ho pa pb, bin_ok qa qb hf⟩
theorem un_ok {ta : TE} {r : V → Hp → VK → Prop} {f : PV → Ms → Out PV}
    (ha : ∀ ρ env S σ H Q, HR X.K X.mg ρ S H → ER X.K H ρ env σ → Post X.K X.mg ρ H σ W Q (m env S) → ta σ H Q) (hf : O1 X W f r)
    (ρ env S σ H Q) (R : HR X.K X.mg ρ S H) (er : ER X.K H ρ env σ) (h : Post X.K X.mg ρ H σ W Q (m1 m f env S)) : tUn r ta σ H Q := by
  refine ha ρ env S σ H _ R er ?_
  unfold m1 at h
  cases e : m env S with
  | fail => rw [e] at h; exact h.elim
  | exc x S => rw [e] at h; exact h
  | ret x S1 =>
    rw [e] at h
    intro ρ1 x' H1 g1 R1 e1 r1
    exact hf ρ1 S1 H1 σ Q x x' R1 r1 (Post.mono g1 e1 h)
theorem s_un {op : UnaryOp} {f : PV → Ms → Out PV} {r : V → Hp → VK → Prop} (ho : UnR X (unaryOp op) r) (hf : O1 X W f r) (ha : SE X W a m) : SE X W (.UnaryOp op a pos) (m1 m f) :=
  let ⟨_, pa, qa⟩ := ha
  ⟨_, pe_un ho pa, un_ok qa hf⟩
/-- comparisons by values -/
theorem s_cmp {op : CmpOp} {f : PV → PV → Ms → Out PV} {r : V → V → Hp → VK → Prop} (ho : OpR X (compareOp op) r) (hf : O2 X W f r) (ha : SE X W a m) (hb : SE X W b n) (h1 : behindInMarks op b = false := by first | exact nobehind _ (by decide) (by decide) | rfl) :
    SE X W (.Compare a [op] [b] pos) (m2 m n f) :=
  let ⟨_, pa, qa⟩ := ha; let ⟨_, pb, qb⟩ := hb
  ⟨_, pe_cmpR ho pa pb h1, bin_ok qa qb hf⟩
/-- argument lists -/
def mNil : ML := fun _ S => .ret [] S
def mCons (a : ME) (r : ML) : ML := fun env S => match a env S with
  | .ret x S1 => (match r env S1 with | .ret xs S2 => .ret (x :: xs) S2 | .exc x S => .exc x S | .fail => .fail)
  | .exc x S => .exc x S
  | .fail => .fail
theorem sa_nil : SA X W [] mNil := ⟨_, pa_nil, fun ρ env S σ H Q R er h => h _ _ _ (.refl _) R (.refl _) .nil⟩
theorem sa_cons (ha : SE X W e m) (hr : SA X W es ml) (hs : starEach (e :: es) X.env = (false, eval e X.env) :: starEach es X.env := by rfl) : SA X W (e :: es) (mCons m ml) :=
  let ⟨_, pa, qa⟩ := ha; let ⟨_, pb, qb⟩ := hr
  ⟨_, pa_cons pa pb hs, fun ρ env S σ H Q R er h => by
    refine qa ρ env S σ H _ R er ?_
    unfold mCons at h
    cases e : m env S with
    | fail => rw [e] at h; exact h.elim
    | exc x S => rw [e] at h; exact h
    | ret x S1 =>
      rw [e] at h
      intro ρ1 x' H1 g1 R1 e1 r1
      refine qb ρ1 env S1 σ H1 _ R1 (er.mono e1 g1) ?_
      have h := PostL.mono g1 e1 h
      cases e : ml env S1 with
      | fail => simp only [e] at h; exact h.elim
      | exc x S => simp only [e] at h; exact h
      | ret xs S2 =>
        simp only [e] at h
        intro ρ2 xs' H2 g2 R2 e2 r2
        exact h ρ2 _ H2 g2 R2 e2 (.cons (r1.mono e2 g2) r2)⟩
theorem args_ok {t : TA} {r : List V → Hp → VK → Prop} {f : List PV → Ms → Out PV}
    (ha : ∀ ρ env S σ H Q, HR X.K X.mg ρ S H → ER X.K H ρ env σ → PostL X.K X.mg ρ H σ W Q (ml env S) → t σ H Q) 
    (ρ env S σ H Q) (hf : ∀ ρ' S' H' x x', Grow ρ ρ' → Ext H H' → HR X.K X.mg ρ' S' H' → VRs X.K H' ρ' x x' → Post X.K X.mg ρ' H' σ W Q (f x S') → r x' H' Q) (R : HR X.K X.mg ρ S H) (er : ER X.K H ρ env σ) (h : Post X.K X.mg ρ H σ W Q ((ml env S).bind f)) : t σ H (fun x H1 => r x H1 Q) := by
  refine ha ρ env S σ H _ R er ?_
  cases e : ml env S with
  | fail => rw [e] at h; exact h.elim
  | exc x S => rw [e] at h; exact h
  | ret x S1 =>
    rw [e] at h
    intro ρ1 x' H1 g1 R1 e1 r1
    exact hf ρ1 S1 H1 x x' g1 e1 R1 r1 (Post.mono g1 e1 h)
def mL (l : ML) (f : List PV → Ms → Out PV) : ME := fun env S => (l env S).bind f
/-- a new list, a tuple -/
def lim : Nat := 16000000
theorem lim_le {n : Nat} (h : n ≤ lim) : n ≤ sizeLine := Nat.le_trans h (by decide)
def oList (xs : List PV) (S : Ms) : Out PV := if xs.length ≤ lim then .ret (.loc S.length) (S ++ [.lst xs]) else .fail
def oTup (xs : List PV) (S : Ms) : Out PV := if xs.length ≤ lim then .ret (.tup xs) S else .fail
theorem new_list {ρ H σ S Q} {xs : List PV} {vs : List V} (R : HR X.K X.mg ρ S H) (r : VRs X.K H ρ xs vs) (h : Post X.K X.mg ρ H σ W Q (.ret (.loc S.length) (S ++ [.lst xs]))) {p : Addr} (hp : H p = none) : Q (.ref p) (upd H p (.lst vs)) :=
  h (ρ ++ [p]) _ _ (.snoc _ _) (R.new hp (.lst r)) (.new hp) (by rw [← R.len]; exact .new)
theorem s_list (ha : SA X W es ml) : SE X W (.List es pos) (mL ml oList) :=
  let ⟨_, pa, qa⟩ := ha
  ⟨_, pe_lst pa, fun ρ env S σ H Q R er h => args_ok (r := fun xs H1 Q => xs.length ≤ sizeLine ∧ ∀ p, H1 p = none → Q (.ref p) (upd H1 p (.lst xs))) qa ρ env S σ H Q (fun ρ' S' H' x x' g e R' r h' => by
    unfold oList at h'
    split at h'
    · rename_i hl
      exact ⟨by rw [r.length]; exact lim_le hl, fun p hp => new_list R' r h' hp⟩
    · exact h'.elim) R er h⟩
theorem new_tup {ρ H σ S Q} {xs : List PV} {vs : List V} (R : HR X.K X.mg ρ S H) (r : VRs X.K H ρ xs vs) (h : Post X.K X.mg ρ H σ W Q (.ret (.tup xs) S)) {p : Addr} (hp : H p = none) : Q (.ref p) (upd H p (.tup vs)) :=
  h ρ _ _ (.refl _) (R.newTup hp) (.new hp) (.tup upd_same (r.mono (.new hp) (.refl _)))
theorem s_tup {k} (ha : SA X W es ml) : SE X W (.Tuple es k pos) (mL ml oTup) :=
  let ⟨_, pa, qa⟩ := ha
  ⟨_, pe_tup pa, fun ρ env S σ H Q R er h => args_ok (r := fun xs H1 Q => xs.length ≤ sizeLine ∧ ∀ p, H1 p = none → Q (.ref p) (upd H1 p (.tup xs))) qa ρ env S σ H Q (fun ρ' S' H' x x' g e R' r h' => by
    unfold oTup at h'
    split at h'
    · rename_i hl
      exact ⟨by rw [r.length]; exact lim_le hl, fun p hp => new_tup R' r h' hp⟩
    · exact h'.elim) R er h⟩
end
end MP

set_option maxRecDepth 100000
namespace MP
open PySem PySem.Spec PyProof.Rows L2

theorem or_or {X : Cx} {f : Value → Value → Sem Value} {r r' : R2} (h : OpR X f r) (h' : OpR X f r') : OpR X f (fun x y H Q => r x y H Q ∨ r' x y H Q) := fun pins s σ H x y v u Q I rx ry q =>
  q.elim (h pins s σ H x y v u Q I rx ry) (h' pins s σ H x y v u Q I rx ry)
theorem un_or {X : Cx} {f : Value → Sem Value} {r r' : V → Hp → VK → Prop} (h : UnR X f r) (h' : UnR X f r') : UnR X f (fun x H Q => r x H Q ∨ r' x H Q) := fun pins s σ H x v Q I rx q =>
  q.elim (h pins s σ H x v Q I rx) (h' pins s σ H x v Q I rx)
theorem call_or {X : Cx} {f : Value} {r r' : List V → Hp → VK → Prop} (h : CallR X f r) (h' : CallR X f r') : CallR X f (fun x H Q => r x H Q ∨ r' x H Q) := fun pins s σ H x v Q I rx q =>
  q.elim (h pins s σ H x v Q I rx) (h' pins s σ H x v Q I rx)

section
variable {X : Cx} {W : WX}
/-- an answer without a new object -/
theorem Post.now {ρ H σ S Q} {v : PV} {v' : V} (R : HR X.K X.mg ρ S H) (r : VR X.K H ρ v v') (h : Post X.K X.mg ρ H σ W Q (.ret v S)) : Q v' H := h _ _ _ (.refl _) R (.refl _) r
/-- the list at a place -/
theorem HR.lst {ρ : List Addr} {S : Ms} {H : Hp} {n : Nat} {a : Addr} {xs : List (PV)} (R : HR X.K X.mg ρ S H) (h : ρ[n]? = some a) (e : S[n]? = some (.lst xs)) : ∃ vs, H a = some (.lst vs) ∧ VRs X.K H ρ xs vs := by
  obtain ⟨ho, h1, h2⟩ := R.get h e
  cases h2 with
  | lst r => exact ⟨_, h1, r⟩
theorem HR.dK {ρ : List Addr} {S : Ms} {H : Hp} {n : Nat} {a : Addr} {xs : List (Key × PV)} (R : HR X.K X.mg ρ S H) (h : ρ[n]? = some a) (e : S[n]? = some (.dK xs)) : ∃ vs, H a = some (.dK vs) ∧ KVR X.K H ρ xs vs := by
  obtain ⟨ho, h1, h2⟩ := R.get h e
  cases h2 with
  | dK r => exact ⟨_, h1, r⟩
theorem HR.dT {ρ : List Addr} {S : Ms} {H : Hp} {n : Nat} {a : Addr} {xs : List (List Key × PV)} (R : HR X.K X.mg ρ S H) (h : ρ[n]? = some a) (e : S[n]? = some (.dT xs)) : ∃ vs, H a = some (.dT vs) ∧ KVR X.K H ρ xs vs := by
  obtain ⟨ho, h1, h2⟩ := R.get h e
  cases h2 with
  | dT r => exact ⟨_, h1, r⟩
theorem soft_lst {vs : List V} : Soft (.lst vs) := ⟨(fun _ h => nomatch h), (fun _ _ h => nomatch h)⟩
theorem soft_dK {vs : List (Key × V)} : Soft (.dK vs) := ⟨(fun _ h => nomatch h), (fun _ _ h => nomatch h)⟩
theorem soft_dT {vs : List (List Key × V)} : Soft (.dT vs) := ⟨(fun _ h => nomatch h), (fun _ _ h => nomatch h)⟩
theorem soft_ins {C dx : Addr} {gs : List (Str × V)} : Soft (.ins C dx gs) := ⟨(fun _ h => nomatch h), (fun _ _ h => nomatch h)⟩

/-- the items of a list or tuple -/
def itemsOf (S : Ms) : PV → Option (List PV)
  | .tup xs => some xs
  | .rol xs => some xs
  | .loc n => match S[n]? with | some (.lst xs) => some xs | _ => none
  | _ => none
theorem items_ok {ρ S H x x' xs} (R : HR X.K X.mg ρ S H) (r : VR X.K H ρ x x') (h : itemsOf S x = some xs) :
    ∃ a vs, x' = .ref a ∧ VRs X.K H ρ xs vs ∧ ((SqL X.K H a vs ∧ ∀ ys, x ≠ .tup ys) ∨ (H a = some (.tup vs) ∧ x = .tup xs)) := by
  cases r with
  | tup hs ha => cases h; exact ⟨_, _, rfl, ha, .inr ⟨hs, rfl⟩⟩
  | rol hs ha => cases h; exact ⟨_, _, rfl, ha, .inl ⟨hs.sq, fun _ z => nomatch z⟩⟩
  | loc e =>
    simp only [itemsOf] at h
    split at h
    · rename_i q; cases h
      obtain ⟨vs, h1, h2⟩ := R.lst e q
      exact ⟨_, vs, rfl, h2, .inl ⟨.of h1, fun _ z => nomatch z⟩⟩
    · cases h
  | non => cases h
  | bl b => cases h
  | int i => cases h
  | str s => cases h

/-! ### arithmetic -/
def oAdd : PV → PV → Ms → Out PV
  | .int i, .int j, S => .ret (.int (i + j)) S
  | .tup xs, .tup ys, S => if xs.length + ys.length ≤ lim then .ret (.tup (xs ++ ys)) S else .fail
  | .loc n, .loc m, S => (match S[n]?, S[m]? with
    | some (.lst xs), some (.lst ys) => if xs.length + ys.length ≤ lim then .ret (.loc S.length) (S ++ [.lst (xs ++ ys)]) else .fail
    | _, _ => .fail)
  | .str a, .str b, S => if a.length + b.length ≤ lim then .ret (.str (a ++ b)) S else .fail
  | _, _, _ => .fail
def rAdd4 (K : PySem.W.Frag) : R2 := fun x y H Q => ((rI0 fun i j => V.int (i + j)) x y H Q ∨ rCatA K x y H Q) ∨ (rCat x y H Q ∨ ∃ i j, x = .str i ∧ y = .str j ∧ i.length + j.length ≤ sizeLine ∧ Q (.str (i ++ j)) H)
theorem op_add4 : OpR X (binaryOp .Add) (rAdd4 X.K) := or_or (or_or op_add op_catA) (or_or op_cat op_add_str)
theorem o_add : O2 X W oAdd (rAdd4 X.K) := by
  intro ρ S H σ Q x y x' y' R rx ry h
  unfold oAdd at h
  split at h
  · cases rx; cases ry; exact .inl (.inl ⟨_, _, rfl, rfl, Post.now R (.int _) h⟩)
  · cases rx with
    | tup hx ax => cases ry with
      | tup hy ay =>
        split at h
        · rename_i hl
          refine .inl (.inr ⟨_, _, _, _, rfl, rfl, .of hx, .of hy, by rw [ax.length, ay.length]; exact lim_le hl, fun e => ?_, fun _ e => ?_, fun _ _ p hp => new_tup R (ax.append ay) h hp⟩)
          · subst e; cases ax; exact Post.now R (.tup hy ay) h
          · subst e; cases ay; rw [List.append_nil] at h; exact Post.now R (.tup hx ax) h
        · exact h.elim
  · cases rx with
    | loc ex => cases ry with
      | loc ey =>
        split at h
        · rename_i q1 q2
          split at h
          · rename_i hl
            obtain ⟨vs, h1, h2⟩ := R.lst ex q1
            obtain ⟨ws, h3, h4⟩ := R.lst ey q2
            exact .inr (.inl ⟨_, _, _, _, rfl, rfl, h1, h3, by rw [h2.length, h4.length]; exact lim_le hl, fun p hp => new_list R (h2.append h4) h hp⟩)
          · exact h.elim
        · exact h.elim
  · cases rx; cases ry
    split at h
    · rename_i hl
      exact .inr (.inr ⟨_, _, rfl, rfl, lim_le hl, Post.now R (.str _) h⟩)
    · exact h.elim
  · exact h.elim
def oSub : PV → PV → Ms → Out PV
  | .int i, .int j, S => .ret (.int (i - j)) S
  | _, _, _ => .fail
theorem o_sub : O2 X W oSub (rI0 fun i j => V.int (i - j)) := by
  intro ρ S H σ Q x y x' y' R rx ry h
  unfold oSub at h
  split at h
  · cases rx; cases ry; exact ⟨_, _, rfl, rfl, Post.now R (.int _) h⟩
  · exact h.elim
instance (i j : Int) : Decidable (CMul i j) := by unfold CMul; infer_instance
instance (i j : Int) : Decidable (CMulW i j) := by unfold CMulW; infer_instance
instance (i j : Int) : Decidable (CDivN i j) := by unfold CDivN; infer_instance
instance (i j : Int) : Decidable (CDivW i j) := by unfold CDivW; infer_instance
instance (i j : Int) : Decidable (CPow i j) := by unfold CPow; infer_instance
def oMul : PV → PV → Ms → Out PV
  | .int i, .int j, S => if CMul i j ∨ CMulW i j then .ret (.int (i * j)) S else .fail
  | .loc n, .int k, S => (match S[n]? with
    | some (.lst xs) => if -(2 ^ 63) ≤ k ∧ k < 2 ^ 63 ∧ xs.length * k.toNat ≤ lim then .ret (.loc S.length) (S ++ [.lst (List.replicate k.toNat xs).flatten]) else .fail
    | _ => .fail)
  | .tup xs, .int k, S => if xs ≠ [] ∧ 2 ≤ k ∧ k ≤ 1000 ∧ xs.length ≤ 1000 then .ret (.tup (List.replicate k.toNat xs).flatten) S else .fail
  | _, _, _ => .fail
theorem vrs_rep {K H ρ} {xs : List PV} {vs : List V} (h : VRs K H ρ xs vs) : ∀ k : Nat, VRs K H ρ (List.replicate k xs).flatten (List.replicate k vs).flatten
  | 0 => .nil
  | k + 1 => by rw [List.replicate_succ, List.replicate_succ, List.flatten_cons, List.flatten_cons]; exact h.append (vrs_rep h k)
def rMul4 (K : PySem.W.Frag) : R2 := fun x y H Q => (rI CMul (fun i j => V.int (i * j)) x y H Q ∨ rI CMulW (fun i j => V.int (i * j)) x y H Q) ∨ (rRep x y H Q ∨ rRepT K x y H Q)
theorem op_mul4 : OpR X (binaryOp .Mult) (rMul4 X.K) := or_or (or_or op_mul op_mulW) (or_or op_rep op_repT)
theorem o_mul : O2 X W oMul (rMul4 X.K) := by
  intro ρ S H σ Q x y x' y' R rx ry h
  unfold oMul at h
  split at h
  · cases rx; cases ry
    split at h
    · rename_i hc
      rcases hc with hc | hc
      · exact .inl (.inl ⟨_, _, rfl, rfl, hc, Post.now R (.int _) h⟩)
      · exact .inl (.inr ⟨_, _, rfl, rfl, hc, Post.now R (.int _) h⟩)
    · exact h.elim
  · cases rx with
    | loc ex => cases ry; split at h
                · rename_i q
                  split at h
                  · rename_i hc
                    obtain ⟨vs, h1, h2⟩ := R.lst ex q
                    exact .inr (.inl ⟨_, _, _, rfl, rfl, h1, hc.1, hc.2.1, by rw [h2.length]; exact lim_le hc.2.2, fun p hp => new_list R (vrs_rep h2 _) h hp⟩)
                  · exact h.elim
                · exact h.elim
  · cases rx with
    | tup hx ax => cases ry; split at h
                   · rename_i hc
                     exact .inr (.inr ⟨_, _, _, rfl, rfl, .of hx, fun z => hc.1 (by subst z; cases ax; rfl), hc.2.1, hc.2.2.1, by rw [ax.length]; exact hc.2.2.2, fun p hp => new_tup R (vrs_rep ax _) h hp⟩)
                   · exact h.elim
  · exact h.elim
def oMod : PV → PV → Ms → Out PV
  | .int i, .int j, S => if j ≠ 0 then .ret (.int (i.fmod j)) S else .fail
  | _, _, _ => .fail
theorem o_mod : O2 X W oMod (rI (fun _ j => j ≠ 0) fun i j => V.int (i.fmod j)) := by
  intro ρ S H σ Q x y x' y' R rx ry h
  unfold oMod at h
  split at h
  · cases rx; cases ry
    split at h
    · rename_i hc; exact ⟨_, _, rfl, rfl, hc, Post.now R (.int _) h⟩
    · exact h.elim
  · exact h.elim
def oDiv : PV → PV → Ms → Out PV
  | .int i, .int j, S => if CDivN i j then .ret (.int (i.fdiv j)) S else if CDivW i j then .ret (.int (i / j)) S else .fail
  | _, _, _ => .fail
def rDiv4 : R2 := fun x y H Q => rI CDivN (fun i j => V.int (i.fdiv j)) x y H Q ∨ rI CDivW (fun i j => V.int (i / j)) x y H Q
theorem op_div4 : OpR X (binaryOp .FloorDiv) rDiv4 := or_or op_fdivN op_fdivW
theorem o_div : O2 X W oDiv rDiv4 := by
  intro ρ S H σ Q x y x' y' R rx ry h
  unfold oDiv at h
  split at h
  · cases rx; cases ry
    split at h
    · rename_i hc; exact .inl ⟨_, _, rfl, rfl, hc, Post.now R (.int _) h⟩
    · split at h
      · rename_i hc; exact .inr ⟨_, _, rfl, rfl, hc, Post.now R (.int _) h⟩
      · exact h.elim
  · exact h.elim
def oPow : PV → PV → Ms → Out PV
  | .int i, .int j, S => if CPow i j then .ret (.int (i ^ j.toNat)) S else .fail
  | _, _, _ => .fail
theorem o_pow : O2 X W oPow (rI CPow fun i j => V.int (i ^ j.toNat)) := by
  intro ρ S H σ Q x y x' y' R rx ry h
  unfold oPow at h
  split at h
  · cases rx; cases ry
    split at h
    · rename_i hc; exact ⟨_, _, rfl, rfl, hc, Post.now R (.int _) h⟩
    · exact h.elim
  · exact h.elim
def oNeg : PV → Ms → Out PV
  | .int i, S => .ret (.int (-i)) S
  | _, _ => .fail
theorem o_neg : O1 X W oNeg (rU fun i => V.int (-i)) := by
  intro ρ S H σ Q x x' R rx h
  unfold oNeg at h
  split at h
  · cases rx; exact ⟨_, rfl, Post.now R (.int _) h⟩
  · exact h.elim

/-! ### order -/
def oCmp (p : Int → Int → Bool) : PV → PV → Ms → Out PV
  | .int i, .int j, S => .ret (.bl (p i j)) S
  | _, _, _ => .fail
theorem o_cmp {p : Int → Int → Bool} : O2 X W (oCmp p) (rI0 fun i j => V.bl (p i j)) := by
  intro ρ S H σ Q x y x' y' R rx ry h
  unfold oCmp at h
  split at h
  · cases rx; cases ry; exact ⟨_, _, rfl, rfl, Post.now R (.bl _) h⟩
  · exact h.elim
abbrev oLt := oCmp fun i j => decide (i < j)
abbrev oLe := oCmp fun i j => decide (i ≤ j)
abbrev oGt := oCmp fun i j => decide (j < i)
abbrev oGe := oCmp fun i j => decide (j ≤ i)

/-! ### equality -/
mutual
def toD (S : Ms) : Nat → PV → Option PyData
  | _, .non => some .none
  | _, .bl b => some (.bool b)
  | _, .int i => some (.int i)
  | _, .str s => some (.str s)
  | 0, _ => none
  | k + 1, .tup xs => (toDs S k xs).map .tuple
  | k + 1, .rol xs => (toDs S k xs).map .list
  | k + 1, .loc n => match S[n]? with
    | some (.lst xs) => (toDs S k xs).map .list
    | _ => none
termination_by k x => (k, 0)
def toDs (S : Ms) : Nat → List PV → Option (List PyData)
  | _, [] => some []
  | k, x :: xs => match toD S k x, toDs S k xs with | some d, some ds => some (d :: ds) | _, _ => none
termination_by k xs => (k, xs.length + 1)
end
mutual
theorem toD_ok {ρ S H} (R : HR X.K X.mg ρ S H) : ∀ (k : Nat) (x : PV) (x' : V) (d : PyData), VR X.K H ρ x x' → toD S k x = some d → Dp X.K H x' d
  | k, .non, _, d, r, h => by cases r; unfold toD at h; cases h; exact .non
  | k, .bl b, _, d, r, h => by cases r; unfold toD at h; cases h; exact .bl b
  | k, .int b, _, d, r, h => by cases r; unfold toD at h; cases h; exact .int b
  | k, .str b, _, d, r, h => by cases r; unfold toD at h; cases h; exact .str b
  | 0, .tup xs, _, d, r, h => by unfold toD at h; cases h
  | 0, .loc n, _, d, r, h => by unfold toD at h; cases h
  | 0, .rol n, _, d, r, h => by unfold toD at h; cases h
  | k + 1, .tup xs, _, d, r, h => by
    unfold toD at h
    cases e : toDs S k xs with
    | none => rw [e] at h; cases h
    | some ds =>
      rw [e] at h; cases h
      cases r with
      | tup hx ax => exact .tup (.of hx) (toDs_ok R k xs _ ds ax e)
  | k + 1, .rol xs, _, d, r, h => by
    unfold toD at h
    cases e : toDs S k xs with
    | none => rw [e] at h; cases h
    | some ds =>
      rw [e] at h; cases h
      cases r with
      | rol hx ax => exact .lst hx.sq (toDs_ok R k xs _ ds ax e)
  | k + 1, .loc n, _, d, r, h => by
    unfold toD at h
    cases r with
    | loc en =>
      split at h
      · rename_i xs q
        cases e : toDs S k xs with
        | none => rw [e] at h; cases h
        | some ds =>
          rw [e] at h; cases h
          obtain ⟨vs, h1, h2⟩ := R.lst en q
          exact .lst (.of h1) (toDs_ok R k xs vs ds h2 e)
      · cases h
termination_by k x => (k, 0)
theorem toDs_ok {ρ S H} (R : HR X.K X.mg ρ S H) : ∀ (k : Nat) (xs : List PV) (vs : List V) (ds : List PyData), VRs X.K H ρ xs vs → toDs S k xs = some ds → DpAll X.K H vs ds
  | k, [], _, ds, r, h => by cases r; unfold toDs at h; cases h; exact .nil
  | k, x :: xs, _, ds, r, h => by
    cases r with
    | cons r t =>
      unfold toDs at h
      split at h
      · rename_i d ds' e1 e2
        cases h
        exact .cons (toD_ok R k x _ d r e1) (toDs_ok R k xs _ ds' t e2)
      · cases h
termination_by k xs => (k, xs.length + 1)
end
def eqD (S : Ms) (x y : PV) : Option Bool := match toD S 12 x, toD S 12 y with
  | some d, some e => if SeqAt.shaped d && SeqAt.shaped e then some (PyData.eqv d e) else none
  | _, _ => none
def oEq (x y : PV) (S : Ms) : Out PV := match eqD S x y with | some b => .ret (.bl b) S | none => .fail
def oNe (x y : PV) (S : Ms) : Out PV := match eqD S x y with | some b => .ret (.bl (!b)) S | none => .fail
theorem o_eq : O2 X W oEq (rEqD X.K) := by
  intro ρ S H σ Q x y x' y' R rx ry h
  unfold oEq eqD at h
  cases e1 : toD S 12 x with
  | none => simp only [e1] at h; exact h.elim
  | some d => cases e2 : toD S 12 y with
    | none => simp only [e1, e2] at h; exact h.elim
    | some e =>
      simp only [e1, e2] at h
      by_cases hs : (SeqAt.shaped d && SeqAt.shaped e) = true
      · simp only [hs, if_true] at h
        rw [Bool.and_eq_true] at hs
        exact ⟨d, e, toD_ok R 12 x x' d rx e1, toD_ok R 12 y y' e ry e2, hs.1, hs.2, Post.now R (.bl _) h⟩
      · simp only [hs] at h; exact h.elim
theorem o_ne : O2 X W oNe (rNeD X.K) := by
  intro ρ S H σ Q x y x' y' R rx ry h
  unfold oNe eqD at h
  cases e1 : toD S 12 x with
  | none => simp only [e1] at h; exact h.elim
  | some d => cases e2 : toD S 12 y with
    | none => simp only [e1, e2] at h; exact h.elim
    | some e =>
      simp only [e1, e2] at h
      by_cases hs : (SeqAt.shaped d && SeqAt.shaped e) = true
      · simp only [hs, if_true] at h
        rw [Bool.and_eq_true] at hs
        exact ⟨d, e, toD_ok R 12 x x' d rx e1, toD_ok R 12 y y' e ry e2, hs.1, hs.2, Post.now R (.bl _) h⟩
      · simp only [hs] at h; exact h.elim
/-- is None, is True -/
def isNon : PV → Bool
  | .non => true
  | _ => false
def oIsN : PV → PV → Ms → Out PV
  | x, .non, S => .ret (.bl (isNon x)) S
  | _, _, _ => .fail
def oNotN : PV → PV → Ms → Out PV
  | x, .non, S => .ret (.bl (!isNon x)) S
  | _, _, _ => .fail
theorem non_iff {K : PySem.W.Frag} {H : Hp} {ρ : List Addr} {x : PV} {x' : V} (r : VR K H ρ x x') : decide (x' = .non) = isNon x := by
  cases r <;> rfl
theorem o_isN : O2 X W oIsN (fun x y H Q => y = V.non ∧ Q (.bl (decide (x = .non))) H) := by
  intro ρ S H σ Q x y x' y' R rx ry h
  unfold oIsN at h
  split at h
  · cases ry; refine ⟨rfl, ?_⟩; rw [non_iff rx]; exact Post.now R (.bl _) h
  · exact h.elim
theorem o_notN : O2 X W oNotN (fun x y H Q => y = V.non ∧ Q (.bl (!decide (x = .non))) H) := by
  intro ρ S H σ Q x y x' y' R rx ry h
  unfold oNotN at h
  split at h
  · cases ry; refine ⟨rfl, ?_⟩; rw [non_iff rx]; exact Post.now R (.bl _) h
  · exact h.elim
end
end MP

set_option maxRecDepth 100000
namespace MP
open PySem PySem.Spec PyProof.Rows L2
section
variable {X : Cx} {W : WX} {a b c e o : Expr} {es rest : List Expr} {pos : Pos} {m n k : ME} {ml : ML} {t u : MB}

/-! ### tests -/
def outB (f : PV → Ms → Out Bool) (m : ME) : MB := fun env S => match m env S with | .ret v S1 => f v S1 | .exc x S => .exc x S | .fail => .fail
def asB : PV → Ms → Out Bool
  | .bl b, S => .ret b S
  | _, _ => .fail
def truth : PV → Ms → Out Bool
  | .non, S => .ret false S
  | .bl b, S => .ret b S
  | .int i, S => .ret (i != 0) S
  | .str s, S => if s.length ≤ lim then .ret ((s.length : Int) != 0) S else .fail
  | .tup xs, S => .ret (!xs.isEmpty) S
  | .rol xs, S => .ret (!xs.isEmpty) S
  | .loc n, S => match S[n]? with
    | some (.lst xs) => .ret (!xs.isEmpty) S
    | some (.dK xs) => .ret (!xs.isEmpty) S
    | _ => .fail
abbrev mB (m : ME) : MB := outB asB m
abbrev mT (m : ME) : MB := outB truth m
theorem PostB.now {ρ H σ S Q} {v : Bool} (R : HR X.K X.mg ρ S H) (h : PostB X.K X.mg ρ H σ W Q (.ret v S)) : Q v H := h _ _ (.refl _) R (.refl _)
theorem test_ok {ta : TE} {f : PV → Ms → Out Bool} {r : V → Hp → (Bool → Hp → Prop) → Prop}
    (ha : ∀ ρ env S σ H Q, HR X.K X.mg ρ S H → ER X.K H ρ env σ → Post X.K X.mg ρ H σ W Q (m env S) → ta σ H Q)
    (hf : ∀ ρ S H σ (Q : Bool → Hp → Prop) x x', HR X.K X.mg ρ S H → VR X.K H ρ x x' → PostB X.K X.mg ρ H σ W Q (f x S) → r x' H Q)
    (ρ env S σ H) (Q : Bool → Hp → Prop) (R : HR X.K X.mg ρ S H) (er : ER X.K H ρ env σ) (h : PostB X.K X.mg ρ H σ W Q (outB f m env S)) : ta σ H (fun x H1 => r x H1 Q) := by
  refine ha ρ env S σ H _ R er ?_
  unfold outB at h
  cases e : m env S with
  | fail => simp only [e] at h; exact h.elim
  | exc x S => simp only [e] at h; exact h
  | ret x S1 =>
    simp only [e] at h
    intro ρ1 x' H1 g1 R1 e1 r1
    exact hf ρ1 S1 H1 σ Q x x' R1 r1 (PostB.mono g1 e1 h)
theorem asB_ok (ρ S H σ) (Q : Bool → Hp → Prop) (x : PV) (x' : V) (R : HR X.K X.mg ρ S H) (r : VR X.K H ρ x x') (h : PostB X.K X.mg ρ H σ W Q (asB x S)) : ∃ k, x' = .bl k ∧ Q k H := by
  unfold asB at h
  split at h
  · cases r; exact ⟨_, rfl, PostB.now R h⟩
  · exact h.elim
/-- a bool, as a test -/
theorem sb_val (h : SE X W e m) (he : ∀ whole, isTrue e X.env whole = (do let v ← whole; standAt e.pos; holding [v] (truthy v)) := by intro _; rfl) : SB X W e (mB m) :=
  let ⟨_, p, q⟩ := h
  ⟨_, pt_val p he, fun ρ env S σ H Q R er h => test_ok q asB_ok ρ env S σ H Q R er h⟩
theorem empty_vrs {K : PySem.W.Frag} {H : Hp} {ρ : List Addr} {xs : List PV} {vs : List V} (h : VRs K H ρ xs vs) : (!vs.isEmpty) = !xs.isEmpty := by cases h <;> rfl
theorem empty_kvr {K : PySem.W.Frag} {H : Hp} {ρ : List Addr} {κ : Type} {xs : List (κ × PV)} {vs : List (κ × V)} (h : KVR K H ρ xs vs) : (!vs.isEmpty) = !xs.isEmpty := by cases h <;> rfl
theorem truth_ok (ρ S H σ) (Q : Bool → Hp → Prop) (x : PV) (x' : V) (R : HR X.K X.mg ρ S H) (r : VR X.K H ρ x x') (h : PostB X.K X.mg ρ H σ W Q (truth x S)) : ∃ k, TruV X.K x' H k ∧ Q k H := by
  cases r with
  | non => exact ⟨_, rfl, PostB.now R h⟩
  | bl b => exact ⟨_, rfl, PostB.now R h⟩
  | int b => exact ⟨_, rfl, PostB.now R h⟩
  | str s =>
    simp only [truth] at h
    split at h
    · rename_i hl; exact ⟨_, ⟨lim_le hl, rfl⟩, PostB.now R h⟩
    · exact h.elim
  | tup hx ax => exact ⟨_, .inr (.inl ⟨_, .of hx, rfl⟩), by rw [empty_vrs ax]; exact PostB.now R h⟩
  | rol hx ax => exact ⟨_, .inl ⟨_, hx.sq, rfl⟩, by rw [empty_vrs ax]; exact PostB.now R h⟩
  | loc en =>
    simp only [truth] at h
    split at h
    · rename_i q
      obtain ⟨vs, h1, h2⟩ := R.lst en q
      exact ⟨_, .inl ⟨_, .of h1, rfl⟩, by rw [empty_vrs h2]; exact PostB.now R h⟩
    · rename_i q
      obtain ⟨vs, h1, h2⟩ := R.dK en q
      exact ⟨_, .inr (.inr ⟨_, h1, rfl⟩), by rw [empty_kvr h2]; exact PostB.now R h⟩
    · exact h.elim
theorem sb_truth (h : SE X W e m) (he : ∀ whole, isTrue e X.env whole = (do let v ← whole; standAt e.pos; holding [v] (truthy v)) := by intro _; rfl) : SB X W e (mT m) :=
  let ⟨_, p, q⟩ := h
  ⟨_, pt_truth p he, fun ρ env S σ H Q R er h => test_ok q truth_ok ρ env S σ H Q R er h⟩
theorem sb_cmp {op : CmpOp} {f : PV → PV → Ms → Out PV} {r : V → V → Hp → VK → Prop} (ho : OpR X (compareOp op) r) (hf : O2 X W f r) (ha : SE X W a m) (hb : SE X W b n) (h1 : behindInMarks op b = false := by first | exact nobehind _ (by decide) (by decide) | rfl) :
    SB X W (.Compare a [op] [b] pos) (mB (m2 m n f)) :=
  let ⟨_, pa, qa⟩ := ha; let ⟨_, pb, qb⟩ := hb
  ⟨_, pt_cmpR ho pa pb h1, fun ρ env S σ H Q R er h => test_ok (bin_ok qa qb hf) asB_ok ρ env S σ H Q R er h⟩
/-- a < b < c -/
def mChain (a b c : ME) (f g : PV → PV → Ms → Out PV) : ME := fun env S => (a env S).bind fun x S1 => (b env S1).bind fun y S2 => (f x y S2).bind fun z S3 => match z with
  | .bl true => (c env S3).bind fun w S4 => g y w S4
  | .bl false => .ret (.bl false) S3
  | _ => .fail
theorem chain_ok {ta tb tc : TE} {f g : PV → PV → Ms → Out PV} {r r' : R2}
    (ha : ∀ ρ env S σ H Q, HR X.K X.mg ρ S H → ER X.K H ρ env σ → Post X.K X.mg ρ H σ W Q (m env S) → ta σ H Q)
    (hb : ∀ ρ env S σ H Q, HR X.K X.mg ρ S H → ER X.K H ρ env σ → Post X.K X.mg ρ H σ W Q (n env S) → tb σ H Q)
    (hc : ∀ ρ env S σ H Q, HR X.K X.mg ρ S H → ER X.K H ρ env σ → Post X.K X.mg ρ H σ W Q (k env S) → tc σ H Q) (hf : O2 X W f r) (hg : O2 X W g r')
    (ρ env S σ H Q) (R : HR X.K X.mg ρ S H) (er : ER X.K H ρ env σ) (h : Post X.K X.mg ρ H σ W Q (mChain m n k f g env S)) : tChain r r' ta tb tc σ H Q := by
  refine ha ρ env S σ H _ R er ?_
  unfold mChain at h
  cases e : m env S with
  | fail => rw [e] at h; exact h.elim
  | exc x S => rw [e] at h; exact h
  | ret x S1 =>
    rw [e] at h
    intro ρ1 x' H1 g1 R1 e1 r1
    have er1 := er.mono e1 g1
    refine hb ρ1 env S1 σ H1 _ R1 er1 ?_
    have h := Post.mono g1 e1 h
    simp only [Out.bind] at h
    cases e : n env S1 with
    | fail => rw [e] at h; exact h.elim
    | exc x S => rw [e] at h; exact h
    | ret y S2 =>
      rw [e] at h
      intro ρ2 y' H2 g2 R2 e2 r2
      have er2 := er1.mono e2 g2
      have h := Post.mono g2 e2 h
      simp only [] at h
      refine hf ρ2 S2 H2 σ _ x y x' y' R2 (r1.mono e2 g2) r2 ?_
      cases e : f x y S2 with
      | fail => rw [e] at h; exact h.elim
      | exc x S => rw [e] at h; exact h
      | ret z S3 =>
        rw [e] at h
        intro ρ3 z' H3 g3 R3 e3 r3
        have h := Post.mono g3 e3 h
        simp only [] at h
        split at h
        · cases r3
          refine ⟨true, rfl, ?_⟩
          rw [if_pos rfl]
          refine hc ρ3 env S3 σ H3 _ R3 (er2.mono e3 g3) ?_
          cases e : k env S3 with
          | fail => rw [e] at h; exact h.elim
          | exc x S => rw [e] at h; exact h
          | ret w S4 =>
            rw [e] at h
            intro ρ4 w' H4 g4 R4 e4 r4
            exact hg ρ4 S4 H4 σ Q y w y' w' R4 ((r2.mono e3 g3).mono e4 g4) r4 (Post.mono g4 e4 h)
        · cases r3
          refine ⟨false, rfl, ?_⟩
          rw [if_neg Bool.false_ne_true]
          exact Post.now R3 (.bl _) h
        · exact h.elim
theorem s_chain {op op' : CmpOp} {f g : PV → PV → Ms → Out PV} {r r' : R2} (ho : OpR X (compareOp op) r) (ho' : OpR X (compareOp op') r') (hf : O2 X W f r) (hg : O2 X W g r') (ha : SE X W a m) (hb : SE X W b n) (hc : SE X W c k)
    (hm : lastMarks [op, op'] [b, c] = false := by with_unfolding_all rfl) : SE X W (.Compare a [op, op'] [b, c] pos) (mChain m n k f g) :=
  let ⟨_, pa, qa⟩ := ha; let ⟨_, pb, qb⟩ := hb; let ⟨_, pc, qc⟩ := hc
  ⟨_, pe_chain ho ho' pa pb pc hm, chain_ok qa qb qc hf hg⟩
theorem sb_chain {op op' : CmpOp} {f g : PV → PV → Ms → Out PV} {r r' : R2} (ho : OpR X (compareOp op) r) (ho' : OpR X (compareOp op') r') (hf : O2 X W f r) (hg : O2 X W g r') (ha : SE X W a m) (hb : SE X W b n) (hc : SE X W c k)
    (hm : lastMarks [op, op'] [b, c] = false := by with_unfolding_all rfl) : SB X W (.Compare a [op, op'] [b, c] pos) (mB (mChain m n k f g)) :=
  let ⟨_, pa, qa⟩ := ha; let ⟨_, pb, qb⟩ := hb; let ⟨_, pc, qc⟩ := hc
  ⟨_, pt_chain ho ho' pa pb pc hm, fun ρ env S σ H Q R er h => test_ok (chain_ok qa qb qc hf hg) asB_ok ρ env S σ H Q R er h⟩
def bAnd (t u : MB) : MB := fun env S => match t env S with | .ret true S1 => u env S1 | .ret false S1 => .ret false S1 | .exc x S => .exc x S | .fail => .fail
def bOr (t u : MB) : MB := fun env S => match t env S with | .ret true S1 => .ret true S1 | .ret false S1 => u env S1 | .exc x S => .exc x S | .fail => .fail
def bNot (t : MB) : MB := fun env S => match t env S with | .ret b S1 => .ret (!b) S1 | .exc x S => .exc x S | .fail => .fail
theorem sw_and1 (h : SB X W a t) : SW X W (.BoolOp .And [a] pos) t := let ⟨_, p, q⟩ := h; ⟨_, pw_and1 p, q⟩
theorem sw_or1 (h : SB X W a t) : SW X W (.BoolOp .Or [a] pos) t := let ⟨_, p, q⟩ := h; ⟨_, pw_or1 p, q⟩
theorem sw_and (h : SB X W a t) (h' : SW X W (.BoolOp .And (b :: rest) pos) u) : SW X W (.BoolOp .And (a :: b :: rest) pos) (bAnd t u) :=
  let ⟨_, pa, qa⟩ := h; let ⟨_, pb, qb⟩ := h'
  ⟨_, pw_and pa pb, fun ρ env S σ H Q R er h => by
    refine qa ρ env S σ H _ R er ?_
    unfold bAnd at h
    split at h
    · rename_i S1 e
      rw [e]
      intro ρ1 H1 g1 R1 e1
      rw [if_pos rfl]
      exact qb ρ1 env S1 σ H1 _ R1 (er.mono e1 g1) (PostB.mono g1 e1 h)
    · rename_i S1 e
      rw [e]
      intro ρ1 H1 g1 R1 e1
      rw [if_neg Bool.false_ne_true]
      exact h ρ1 H1 g1 R1 e1
    · rename_i e; rw [e]; exact h
    · exact h.elim⟩
theorem sw_or (h : SB X W a t) (h' : SW X W (.BoolOp .Or (b :: rest) pos) u) : SW X W (.BoolOp .Or (a :: b :: rest) pos) (bOr t u) :=
  let ⟨_, pa, qa⟩ := h; let ⟨_, pb, qb⟩ := h'
  ⟨_, pw_or pa pb, fun ρ env S σ H Q R er h => by
    refine qa ρ env S σ H _ R er ?_
    unfold bOr at h
    split at h
    · rename_i S1 e
      rw [e]
      intro ρ1 H1 g1 R1 e1
      rw [if_pos rfl]
      exact h ρ1 H1 g1 R1 e1
    · rename_i S1 e
      rw [e]
      intro ρ1 H1 g1 R1 e1
      rw [if_neg Bool.false_ne_true]
      exact qb ρ1 env S1 σ H1 _ R1 (er.mono e1 g1) (PostB.mono g1 e1 h)
    · rename_i e; rw [e]; exact h
    · exact h.elim⟩
theorem sb_w (h : SW X W a t) : SB X W a t := let ⟨_, p, q⟩ := h; ⟨_, p.pt, q⟩
theorem sb_not (h : SB X W a t) : SB X W (.UnaryOp .Not a pos) (bNot t) :=
  let ⟨_, p, q⟩ := h
  ⟨_, pt_not p, fun ρ env S σ H Q R er h => by
    refine q ρ env S σ H _ R er ?_
    unfold bNot at h
    split at h
    · rename_i b S1 e
      rw [e]
      exact fun ρ1 H1 g1 R1 e1 => h ρ1 H1 g1 R1 e1
    · rename_i e; rw [e]; exact h
    · exact h.elim⟩
/-! ### truth values as values -/
def mAnd (a b : ME) : ME := fun env S => match a env S with | .ret (.bl true) S1 => b env S1 | .ret (.bl false) S1 => .ret (.bl false) S1 | .exc x S => .exc x S | _ => .fail
def mOr (a b : ME) : ME := fun env S => match a env S with | .ret (.bl true) S1 => .ret (.bl true) S1 | .ret (.bl false) S1 => b env S1 | .exc x S => .exc x S | _ => .fail
def mNot (a : ME) : ME := fun env S => match a env S with | .ret (.bl b) S1 => .ret (.bl (!b)) S1 | .exc x S => .exc x S | _ => .fail
theorem s_one {op} (h : SE X W a m) : SE X W (.BoolOp op [a] pos) m := let ⟨_, p, q⟩ := h; ⟨_, pe_one p, q⟩
theorem s_and (h : SE X W a m) (h' : SE X W (.BoolOp .And (b :: rest) pos) n) : SE X W (.BoolOp .And (a :: b :: rest) pos) (mAnd m n) :=
  let ⟨_, pa, qa⟩ := h; let ⟨_, pb, qb⟩ := h'
  ⟨_, pe_and pa pb, fun ρ env S σ H Q R er h => by
    refine qa ρ env S σ H _ R er ?_
    unfold mAnd at h
    split at h
    · rename_i S1 e
      rw [e]
      intro ρ1 x1 H1 g1 R1 e1 r1
      cases r1
      refine ⟨true, rfl, ?_⟩
      rw [if_pos rfl]
      exact qb ρ1 env S1 σ H1 _ R1 (er.mono e1 g1) (Post.mono g1 e1 h)
    · rename_i S1 e
      rw [e]
      intro ρ1 x1 H1 g1 R1 e1 r1
      cases r1
      refine ⟨false, rfl, ?_⟩
      rw [if_neg Bool.false_ne_true]
      exact h ρ1 _ H1 g1 R1 e1 (.bl _)
    · rename_i e; rw [e]; exact h
    · exact h.elim⟩
theorem s_or (h : SE X W a m) (h' : SE X W (.BoolOp .Or (b :: rest) pos) n) : SE X W (.BoolOp .Or (a :: b :: rest) pos) (mOr m n) :=
  let ⟨_, pa, qa⟩ := h; let ⟨_, pb, qb⟩ := h'
  ⟨_, pe_or pa pb, fun ρ env S σ H Q R er h => by
    refine qa ρ env S σ H _ R er ?_
    unfold mOr at h
    split at h
    · rename_i S1 e
      rw [e]
      intro ρ1 x1 H1 g1 R1 e1 r1
      cases r1
      refine ⟨true, rfl, ?_⟩
      rw [if_pos rfl]
      exact h ρ1 _ H1 g1 R1 e1 (.bl _)
    · rename_i S1 e
      rw [e]
      intro ρ1 x1 H1 g1 R1 e1 r1
      cases r1
      refine ⟨false, rfl, ?_⟩
      rw [if_neg Bool.false_ne_true]
      exact qb ρ1 env S1 σ H1 _ R1 (er.mono e1 g1) (Post.mono g1 e1 h)
    · rename_i e; rw [e]; exact h
    · exact h.elim⟩
theorem s_not (h : SE X W a m) : SE X W (.UnaryOp .Not a pos) (mNot m) :=
  let ⟨_, p, q⟩ := h
  ⟨_, pe_not p, fun ρ env S σ H Q R er h => by
    refine q ρ env S σ H _ R er ?_
    unfold mNot at h
    split at h
    · rename_i b S1 e
      rw [e]
      intro ρ1 x1 H1 g1 R1 e1 r1
      cases r1
      exact ⟨b, rfl, h ρ1 _ H1 g1 R1 e1 (.bl _)⟩
    · rename_i e; rw [e]; exact h
    · exact h.elim⟩
def mIf (t : MB) (a b : ME) : ME := fun env S => match t env S with | .ret true S1 => a env S1 | .ret false S1 => b env S1 | .exc x S => .exc x S | .fail => .fail
theorem s_ifE (hc : SB X W c t) (ha : SE X W a m) (hb : SE X W b n) : SE X W (.IfExp c a b pos) (mIf t m n) :=
  let ⟨_, pc, qc⟩ := hc; let ⟨_, pa, qa⟩ := ha; let ⟨_, pb, qb⟩ := hb
  ⟨_, pe_ifExp pc pa pb, fun ρ env S σ H Q R er h => by
    refine qc ρ env S σ H _ R er ?_
    unfold mIf at h
    split at h
    · rename_i S1 e
      rw [e]
      intro ρ1 H1 g1 R1 e1
      rw [if_pos rfl]
      exact qa ρ1 env S1 σ H1 _ R1 (er.mono e1 g1) (Post.mono g1 e1 h)
    · rename_i S1 e
      rw [e]
      intro ρ1 H1 g1 R1 e1
      rw [if_neg Bool.false_ne_true]
      exact qb ρ1 env S1 σ H1 _ R1 (er.mono e1 g1) (Post.mono g1 e1 h)
    · rename_i e; rw [e]; exact h
    · exact h.elim⟩
/-- two rules for one expression, by the values -/
theorem pe_or2 {t1 t2 : TE} (h : PE X e t1) (h' : PE X e t2) : PE X e (fun σ H Q => t1 σ H Q ∨ t2 σ H Q) := ⟨fun pins s σ H Q I z => z.elim (h.run pins s σ H Q I) (h'.run pins s σ H Q I)⟩
def oSel (g : PV → PV → Ms → Bool) (f f' : PV → PV → Ms → Out PV) : PV → PV → Ms → Out PV := fun x y S => if g x y S then f x y S else f' x y S
theorem s_sel {f f' : PV → PV → Ms → Out PV} (g : PV → PV → Ms → Bool) (h : SE X W e (m2 m n f)) (h' : SE X W e (m2 m n f')) : SE X W e (m2 m n (oSel g f f')) :=
  let ⟨_, pa, qa⟩ := h; let ⟨_, pb, qb⟩ := h'
  ⟨_, pe_or2 pa pb, fun ρ env S σ H Q R er h => by
    have key : m2 m n (oSel g f f') env S = m2 m n f env S ∨ m2 m n (oSel g f f') env S = m2 m n f' env S := by
      unfold m2
      cases m env S with
      | fail => exact .inl rfl
      | exc x S => exact .inl rfl
      | ret x S1 =>
        simp only [Out.bind]
        cases n env S1 with
        | fail => exact .inl rfl
        | exc x S => exact .inl rfl
        | ret y S2 =>
          simp only [oSel]
          by_cases q : g x y S2 = true
          · exact .inl (if_pos q)
          · exact .inr (if_neg q)
    rcases key with key | key
    · rw [key] at h; exact .inl (qa ρ env S σ H Q R er h)
    · rw [key] at h; exact .inr (qb ρ env S σ H Q R er h)⟩
theorem pt_or2 {t1 t2 : TT} (h : PT X e t1) (h' : PT X e t2) : PT X e (fun σ H Q => t1 σ H Q ∨ t2 σ H Q) := ⟨fun pins s σ H Q I z => z.elim (h.run pins s σ H Q I) (h'.run pins s σ H Q I)⟩
theorem sb_sel {f f' : PV → PV → Ms → Out PV} (g : PV → PV → Ms → Bool) (h : SB X W e (mB (m2 m n f))) (h' : SB X W e (mB (m2 m n f'))) : SB X W e (mB (m2 m n (oSel g f f'))) :=
  let ⟨_, pa, qa⟩ := h; let ⟨_, pb, qb⟩ := h'
  ⟨_, pt_or2 pa pb, fun ρ env S σ H Q R er h => by
    have key : m2 m n (oSel g f f') env S = m2 m n f env S ∨ m2 m n (oSel g f f') env S = m2 m n f' env S := by
      unfold m2
      cases m env S with
      | fail => exact .inl rfl
      | exc x S => exact .inl rfl
      | ret x S1 =>
        simp only [Out.bind]
        cases n env S1 with
        | fail => exact .inl rfl
        | exc x S => exact .inl rfl
        | ret y S2 =>
          simp only [oSel]
          by_cases q : g x y S2 = true
          · exact .inl (if_pos q)
          · exact .inr (if_neg q)
    have h1 : ∀ w, m2 m n (oSel g f f') env S = m2 m n w env S → mB (m2 m n (oSel g f f')) env S = mB (m2 m n w) env S := fun w z => by
      show (match m2 m n (oSel g f f') env S with | .ret v S1 => asB v S1 | .exc x S => .exc x S | .fail => .fail) = _
      rw [z]; rfl
    rcases key with key | key
    · rw [h1 _ key] at h; exact .inl (qa ρ env S σ H Q R er h)
    · rw [h1 _ key] at h; exact .inr (qb ρ env S σ H Q R er h)⟩
end
end MP

set_option maxRecDepth 100000
namespace MP
open PySem PySem.Spec PyProof.Rows L2
section
variable {X : Cx} {W : WX} {a b c e o : Expr} {es rest : List Expr} {pos : Pos} {m n k : ME} {ml : ML} {t u : MB}

/-! ### subscripts -/
theorem VRs.at_ {K : PySem.W.Frag} {H : Hp} {ρ : List Addr} {xs : List PV} {vs : List V} (h : VRs K H ρ xs vs) {i : Int} {x : PV} (e : atI xs i = some x) : ∃ v, atI vs i = some v ∧ VR K H ρ x v := by
  unfold atI at e ⊢
  rw [h.length]
  cases q : ixN xs.length i with
  | none => rw [q] at e; cases e
  | some j => rw [q] at e; exact h.get e
def oIdx : PV → PV → Ms → Out PV
  | .str z, .int i, S => if z.length ≤ lim then (match atI z.cps.toList i with | some c => .ret (.str ⟨#[c]⟩) S | none => .fail) else .fail
  | x, .int i, S => (match itemsOf S x with
    | some xs => (match atI xs i with | some v => .ret v S | none => .fail)
    | none => .fail)
  | _, _, _ => .fail
theorem o_idx : O2 X W oIdx (rIx X.K) := by
  intro ρ S H σ Q x y x' y' R rx ry h
  unfold oIdx at h
  split at h
  · cases rx; cases ry
    split at h
    · rename_i hl
      split at h
      · rename_i q; exact .inr (.inr ⟨_, _, _, rfl, rfl, lim_le hl, q, Post.now R (.str _) h⟩)
      · exact h.elim
    · exact h.elim
  · split at h
    · rename_i xs q
      split at h
      · rename_i v qv
        obtain ⟨a, vs, rfl, hv, hs⟩ := items_ok R rx q
        obtain ⟨v', e1, r1⟩ := hv.at_ qv
        cases ry
        rcases hs with ⟨hs, _⟩ | ⟨hs, _⟩
        · exact .inl ⟨_, _, _, _, rfl, rfl, hs, e1, Post.now R r1 h⟩
        · exact .inr (.inl ⟨_, _, _, _, rfl, rfl, .of hs, e1, Post.now R r1 h⟩)
      · exact h.elim
    · exact h.elim
  · exact h.elim

/-! ### dicts -/
def keyP : PV → Option Key
  | .int i => some (.inl i)
  | .str s => some (.inr s)
  | _ => none
def keysL : List PV → Option (List Key)
  | [] => some []
  | x :: xs => match keyP x, keysL xs with | some k, some ks => some (k :: ks) | _, _ => none
def keysP : PV → Option (List Key)
  | .tup xs => keysL xs
  | _ => none
def kP : Key → PV
  | .inl i => .int i
  | .inr s => .str s
section
variable {κ : Type} [DecidableEq κ]
def valP (kvs : List (κ × PV)) (k : κ) : Option PV := (kvs.find? fun kv => decide (kv.1 = k)).map (·.2)
def putP (kvs : List (κ × PV)) (k : κ) (v : PV) : List (κ × PV) :=
  if (kvs.any fun kv => decide (kv.1 = k)) = true then kvs.map (fun kv => if kv.1 = k then (kv.1, v) else kv) else kvs ++ [(k, v)]
end
theorem key_ok {K : PySem.W.Frag} {H : Hp} {ρ : List Addr} {x : PV} {x' : V} {k : Key} (r : VR K H ρ x x') (h : keyP x = some k) : x' = kV k := by
  cases r <;> simp [keyP] at h <;> subst h <;> rfl
theorem keysL_ok {K : PySem.W.Frag} {H : Hp} {ρ : List Addr} : ∀ {xs : List PV} {vs : List V} {ks : List Key}, VRs K H ρ xs vs → keysL xs = some ks → vs = ks.map kV
  | [], _, _, r, h => by cases r; cases h; rfl
  | x :: xs, _, _, r, h => by
    cases r with
    | cons r t =>
      unfold keysL at h
      split at h
      · rename_i k ks e1 e2
        cases h
        rw [key_ok r e1, keysL_ok t e2]; rfl
      · cases h
/-- the keys of a dict, as values -/
theorem kP_ok {K : PySem.W.Frag} {H : Hp} {ρ : List Addr} (k : Key) : VR K H ρ (kP k) (kV k) := by cases k <;> constructor
section
variable {κ : Type} [DecidableEq κ] {K : PySem.W.Frag} {H : Hp} {ρ : List Addr}
theorem val_ok {k : κ} : ∀ {xs : List (κ × PV)} {vs : List (κ × V)}, KVR K H ρ xs vs → (valP xs k = none ∧ valV vs k = none) ∨ ∃ v v', valP xs k = some v ∧ valV vs k = some v' ∧ VR K H ρ v v'
  | [], _, h => by cases h; exact .inl ⟨rfl, rfl⟩
  | (j, x) :: xs, _, h => by
    cases h with
    | cons h t =>
      rename_i q vs
      obtain ⟨j', v⟩ := q
      obtain ⟨e, r⟩ := h
      simp only at e r
      subst e
      by_cases hk : j = k
      · subst hk
        exact .inr ⟨x, v, by simp [valP], by simp [valV], r⟩
      · have ih := val_ok (k := k) t
        have e1 : valP ((j, x) :: xs) k = valP xs k := by simp [valP, hk]
        have e2 : valV ((j, v) :: vs) k = valV vs k := valV_neg (p := (j, v)) hk
        rw [e1, e2]; exact ih
theorem any_ok {k : κ} : ∀ {xs : List (κ × PV)} {vs : List (κ × V)}, KVR K H ρ xs vs → (xs.any fun kv => decide (kv.1 = k)) = (vs.any fun kv => decide (kv.1 = k))
  | [], _, h => by cases h; rfl
  | (j, x) :: xs, _, h => by
    cases h with
    | cons h t =>
      rename_i q vs
      obtain ⟨j', v⟩ := q
      obtain ⟨e, r⟩ := h
      simp only at e r
      subst e
      rw [List.any_cons, List.any_cons, any_ok t]
theorem map_ok {k : κ} {y : PV} {y' : V} (r : VR K H ρ y y') : ∀ {xs : List (κ × PV)} {vs : List (κ × V)}, KVR K H ρ xs vs → KVR K H ρ (xs.map (fun kv => if kv.1 = k then (kv.1, y) else kv)) (vs.map (fun kv => if kv.1 = k then (kv.1, y') else kv))
  | [], _, h => by cases h; exact .nil
  | (j, x) :: xs, _, h => by
    cases h with
    | cons h t =>
      rename_i q vs
      obtain ⟨j', v⟩ := q
      obtain ⟨e, r'⟩ := h
      simp only at e r'
      subst e
      rw [List.map_cons, List.map_cons]
      refine .cons ?_ (map_ok r t)
      by_cases hk : j = k
      · simp only [hk, if_true]; exact ⟨trivial, r⟩
      · simp only [hk, if_false]; exact ⟨trivial, r'⟩
theorem kvr_snoc {k : κ} {y : PV} {y' : V} (r : VR K H ρ y y') : ∀ {xs : List (κ × PV)} {vs : List (κ × V)}, KVR K H ρ xs vs → KVR K H ρ (xs ++ [(k, y)]) (vs ++ [(k, y')])
  | [], _, h => by cases h; exact .cons ⟨rfl, r⟩ .nil
  | _ :: xs, _, h => by cases h with | cons h t => exact .cons h (kvr_snoc r t)
theorem put_ok {k : κ} {y : PV} {y' : V} (r : VR K H ρ y y') {xs : List (κ × PV)} {vs : List (κ × V)} (h : KVR K H ρ xs vs) : KVR K H ρ (putP xs k y) (putK vs k y') := by
  unfold putP putK
  rw [any_ok h]
  by_cases q : (vs.any fun kv => decide (kv.1 = k)) = true
  · rw [if_pos q, if_pos q]; exact map_ok r h
  · rw [if_neg q, if_neg q]; exact kvr_snoc r h
theorem kvr_len {xs : List (κ × PV)} {vs : List (κ × V)} (h : KVR K H ρ xs vs) : vs.length = xs.length := (Paired.length h).symm
end
def isDict (S : Ms) : PV → Bool
  | .loc n => match S[n]? with | some (.dK _) => true | some (.dT _) => true | some (.lk _) => true | _ => false
  | _ => false
/-- what a dict holds at a key -/
def dGet (S : Ms) : PV → PV → Option (Option PV)
  | .loc n, k => match S[n]? with
    | some (.dK kvs) => (keyP k).map (valP kvs)
    | some (.lk (.dK kvs)) => (keyP k).map (valP kvs)
    | some (.dT kvs) => (keysP k).map (valP kvs)
    | some (.lk (.dT kvs)) => (keysP k).map (valP kvs)
    | _ => none
  | _, _ => none
theorem HR.lk {ρ : List Addr} {S : Ms} {H : Hp} {n : Nat} {a : Addr} {o : Ob} (R : HR X.K X.mg ρ S H) (h : ρ[n]? = some a) (e : S[n]? = some (.lk o)) : ∃ u oj, H a = some (.frz oj u) ∧ OR X.K X.mg H ρ o u := by
  obtain ⟨ho, h1, h2⟩ := R.get h e
  cases h2 with
  | lk r => exact ⟨_, _, h1, r⟩
theorem dget_ok {ρ : List Addr} {S : Ms} {H : Hp} {d k : PV} {d' k' : V} {r : Option PV} (R : HR X.K X.mg ρ S H) (rd : VR X.K H ρ d d') (rk : VR X.K H ρ k k') (h : dGet S d k = some r) :
    ∃ a r', d' = .ref a ∧ DGet H a k' r' ∧ ((r = none ∧ r' = none) ∨ ∃ v v', r = some v ∧ r' = some v' ∧ VR X.K H ρ v v') := by
  cases rd with
  | loc en =>
    simp only [dGet] at h
    have fK : ∀ {kvs : List (Key × PV)} {vs : List (Key × V)} {a : Addr}, Rd H a (.dK vs) → KVR X.K H ρ kvs vs → (keyP k).map (valP kvs) = some r → ∃ a' r', V.ref a = .ref a' ∧ DGet H a' k' r' ∧ ((r = none ∧ r' = none) ∨ ∃ v v', r = some v ∧ r' = some v' ∧ VR X.K H ρ v v') := by
      intro kvs vs a ha hk hv
      cases ek : keyP k with
      | none => rw [ek] at hv; cases hv
      | some kk =>
        rw [ek] at hv
        cases hv
        refine ⟨a, valV vs kk, rfl, .inl ⟨vs, kk, ha, key_ok rk ek, rfl⟩, ?_⟩
        rcases val_ok (k := kk) hk with ⟨h1, h2⟩ | ⟨v, v', h1, h2, h3⟩
        · exact .inl ⟨h1, h2⟩
        · exact .inr ⟨v, v', h1, h2, h3⟩
    have fT : ∀ {kvs : List (List Key × PV)} {vs : List (List Key × V)} {a : Addr}, Rd H a (.dT vs) → KVR X.K H ρ kvs vs → (keysP k).map (valP kvs) = some r → ∃ a' r', V.ref a = .ref a' ∧ DGet H a' k' r' ∧ ((r = none ∧ r' = none) ∨ ∃ v v', r = some v ∧ r' = some v' ∧ VR X.K H ρ v v') := by
      intro kvs vs a ha hk hv
      cases rk with
      | tup ht at_ =>
        simp only [keysP] at hv
        rename_i xs at' vt
        cases ek : keysL xs with
        | none => rw [ek] at hv; cases hv
        | some kk =>
          rw [ek] at hv
          cases hv
          have e1 := keysL_ok at_ ek
          subst e1
          refine ⟨a, valV vs kk, rfl, .inr ⟨vs, kk, _, ha, rfl, ht, rfl⟩, ?_⟩
          rcases val_ok (k := kk) hk with ⟨h1, h2⟩ | ⟨v, v', h1, h2, h3⟩
          · exact .inl ⟨h1, h2⟩
          · exact .inr ⟨v, v', h1, h2, h3⟩
      | non => cases hv
      | bl b => cases hv
      | int i => cases hv
      | str s => cases hv
      | loc e => cases hv
      | rol _ _ => cases hv
    split at h
    · rename_i kvs q
      obtain ⟨vs, h1, h2⟩ := R.dK en q
      exact fK (.of h1) h2 h
    · rename_i kvs q
      obtain ⟨u, oj, h1, h2⟩ := R.lk en q
      cases h2 with | dK h2 => exact fK (.inr ⟨_, h1⟩) h2 h
    · rename_i kvs q
      obtain ⟨vs, h1, h2⟩ := R.dT en q
      exact fT (.of h1) h2 h
    · rename_i kvs q
      obtain ⟨u, oj, h1, h2⟩ := R.lk en q
      cases h2 with | dT h2 => exact fT (.inr ⟨_, h1⟩) h2 h
    · cases h
  | non => cases h
  | bl b => cases h
  | int i => cases h
  | str s => cases h
  | tup _ _ => cases h
  | rol _ _ => cases h
def oDGet (d k : PV) (S : Ms) : Out PV := match dGet S d k with | some (some v) => .ret v S | _ => .fail
theorem o_dget : O2 X W oDGet (fun x y H Q => ∃ a v, x = .ref a ∧ DGet H a y (some v) ∧ Q v H) := by
  intro ρ S H σ Q x y x' y' R rx ry h
  unfold oDGet at h
  split at h
  · rename_i v q
    obtain ⟨a, r', rfl, g, hr⟩ := dget_ok R rx ry q
    rcases hr with ⟨h1, _⟩ | ⟨w, w', h1, h2, h3⟩
    · cases h1
    · cases h1; subst h2
      exact ⟨a, w', rfl, g, Post.now R h3 h⟩
  · exact h.elim
/-- x[i]: of a list, a tuple, a text, a dict -/
abbrev oSub1 : PV → PV → Ms → Out PV := oSel (fun x _ S => isDict S x) oDGet oIdx
abbrev mSub (m n : ME) : ME := m2 m n oSub1
theorem s_sub (hu : X.A.units + 1 < cLine) (ha : SE X W a m) (hb : SE X W b n) (hs : NoSl b := by exact fun _ _ => rfl) : SE X W (.Subscript a b pos) (mSub m n) :=
  let ⟨_, pa, qa⟩ := ha; let ⟨_, pb, qb⟩ := hb
  s_sel _ ⟨_, pe_dget hu pa pb hs, bin_ok qa qb o_dget⟩ ⟨_, pe_ix ix_seq pa pb hs, bin_ok qa qb o_idx⟩

/-! ### in, not in -/
def flatP : PV → Option V
  | .non => some .non
  | .bl b => some (.bl b)
  | .int i => some (.int i)
  | .str s => some (.str s)
  | _ => none
def flatPs : List PV → Option (List V)
  | [] => some []
  | x :: xs => match flatP x, flatPs xs with | some v, some vs => some (v :: vs) | _, _ => none
theorem flat_ok {K : PySem.W.Frag} {H : Hp} {ρ : List Addr} {x : PV} {x' v : V} (r : VR K H ρ x x') (h : flatP x = some v) : x' = v ∧ flatV x' = true := by
  cases r <;> simp [flatP] at h <;> subst h <;> exact ⟨rfl, rfl⟩
theorem flats_ok {K : PySem.W.Frag} {H : Hp} {ρ : List Addr} : ∀ {xs : List PV} {vs ws : List V}, VRs K H ρ xs vs → flatPs xs = some ws → vs = ws ∧ vs.all flatV = true
  | [], _, _, r, h => by cases r; cases h; exact ⟨rfl, rfl⟩
  | x :: xs, _, _, r, h => by
    cases r with
    | cons r t =>
      unfold flatPs at h
      split at h
      · rename_i v vs e1 e2
        cases h
        obtain ⟨h1, h2⟩ := flat_ok r e1
        obtain ⟨h3, h4⟩ := flats_ok t e2
        subst h1; subst h3
        exact ⟨rfl, by rw [List.all_cons, h2, h4]; rfl⟩
      · cases h
/-- whether x is in what stands at y (a list, a tuple, a text) -/
def inSeq (S : Ms) (x y : PV) : Option Bool := match itemsOf S y with
  | some xs => (match flatP x, flatPs xs with
    | some v, some vs => some (inV v vs)
    | _, _ => (match y, toD S 12 x, toDs S 11 xs with
      | .loc _, some d, some ds => if SeqAt.shaped d && SeqAt.shaped (.list ds) then some (ds.any fun z => PyData.eqv z d) else none
      | _, _, _ => none))
  | none => none
def oInS (x y : PV) (S : Ms) : Out PV := match inSeq S x y with | some b => .ret (.bl b) S | none => .fail
def oNotInS (x y : PV) (S : Ms) : Out PV := match inSeq S x y with | some b => .ret (.bl (!b)) S | none => .fail
theorem inSeq_ok {ρ : List Addr} {S : Ms} {H : Hp} {x y : PV} {x' y' : V} {r : Bool} (R : HR X.K X.mg ρ S H) (rx : VR X.K H ρ x x') (ry : VR X.K H ρ y y') (h : inSeq S x y = some r) :
    (∃ p xs, y' = .ref p ∧ (SqL X.K H p xs ∨ SqT X.K H p xs) ∧ flatV x' = true ∧ xs.all flatV = true ∧ inV x' xs = r) ∨
    ∃ d ds, Dp X.K H x' d ∧ Dp X.K H y' (.list ds) ∧ SeqAt.shaped d = true ∧ SeqAt.shaped (.list ds) = true ∧ (ds.any fun z => PyData.eqv z d) = r := by
  unfold inSeq at h
  split at h
  · rename_i xs q
    obtain ⟨a, vs, rfl, hv, hs⟩ := items_ok R ry q
    split at h
    · rename_i v ws e1 e2
      cases h
      obtain ⟨h1, h2⟩ := flat_ok rx e1
      obtain ⟨h3, h4⟩ := flats_ok hv e2
      refine .inl ⟨a, vs, rfl, ?_, h2, h4, by rw [h1, h3]⟩
      rcases hs with ⟨hs, _⟩ | ⟨hs, _⟩
      · exact .inl hs
      · exact .inr (.of hs)
    · split at h
      · rename_i d ds e1 e2
        by_cases hsh : (SeqAt.shaped d && SeqAt.shaped (.list ds)) = true
        · rw [if_pos hsh] at h
          cases h
          rw [Bool.and_eq_true] at hsh
          rcases hs with ⟨hs, _⟩ | ⟨_, hz⟩
          · exact .inr ⟨d, ds, toD_ok R 12 x x' d rx e1, .lst hs (toDs_ok R 11 xs vs ds hv e2), hsh.1, hsh.2, rfl⟩
          · cases hz
        · rw [if_neg hsh] at h; cases h
      · cases h
  · cases h
def rInA (K : PySem.W.Frag) : R2 := fun x y H Q => rIn K false x y H Q ∨ rInD K x y H Q
def rNotInA (K : PySem.W.Frag) : R2 := fun x y H Q => rIn K true x y H Q ∨ rNotInD K x y H Q
theorem op_inA (hu : X.A.units + 65 < cLine) : OpR X (compareOp .In) (rInA X.K) := or_or op_in_seq (op_inD hu)
theorem op_notInA (hu : X.A.units + 65 < cLine) : OpR X (compareOp .NotIn) (rNotInA X.K) := or_or op_notIn_seq (op_notInD hu)
theorem o_inS : O2 X W oInS (rInA X.K) := by
  intro ρ S H σ Q x y x' y' R rx ry h
  unfold oInS at h
  split at h
  · rename_i r q
    rcases inSeq_ok R rx ry q with ⟨p, xs, rfl, hs, f1, f2, e⟩ | ⟨d, ds, h1, h2, h3, h4, e⟩
    · exact .inl ⟨p, xs, rfl, hs, f1, f2, by rw [e]; exact Post.now R (.bl _) h⟩
    · exact .inr ⟨d, ds, h1, h2, h3, h4, by rw [e]; exact Post.now R (.bl _) h⟩
  · exact h.elim
theorem o_notInS : O2 X W oNotInS (rNotInA X.K) := by
  intro ρ S H σ Q x y x' y' R rx ry h
  unfold oNotInS at h
  split at h
  · rename_i r q
    rcases inSeq_ok R rx ry q with ⟨p, xs, rfl, hs, f1, f2, e⟩ | ⟨d, ds, h1, h2, h3, h4, e⟩
    · exact .inl ⟨p, xs, rfl, hs, f1, f2, by rw [e]; exact Post.now R (.bl _) h⟩
    · exact .inr ⟨d, ds, h1, h2, h3, h4, by rw [e]; exact Post.now R (.bl _) h⟩
  · exact h.elim
def oDIn (k d : PV) (S : Ms) : Out PV := match dGet S d k with | some r => .ret (.bl r.isSome) S | none => .fail
def oDNotIn (k d : PV) (S : Ms) : Out PV := match dGet S d k with | some r => .ret (.bl (!r.isSome)) S | none => .fail
theorem o_din : O2 X W oDIn (fun y x H Q => ∃ a o, x = .ref a ∧ DGet H a y o ∧ Q (.bl o.isSome) H) := by
  intro ρ S H σ Q x y x' y' R rx ry h
  unfold oDIn at h
  split at h
  · rename_i v q
    obtain ⟨a, r', rfl, g, hr⟩ := dget_ok R ry rx q
    refine ⟨a, r', rfl, g, ?_⟩
    rcases hr with ⟨h1, h2⟩ | ⟨w, w', h1, h2, h3⟩
    · subst h1; subst h2; exact Post.now R (.bl _) h
    · subst h1; subst h2; exact Post.now R (.bl _) h
  · exact h.elim
theorem o_dnotin : O2 X W oDNotIn (fun y x H Q => ∃ a o, x = .ref a ∧ DGet H a y o ∧ Q (.bl (!o.isSome)) H) := by
  intro ρ S H σ Q x y x' y' R rx ry h
  unfold oDNotIn at h
  split at h
  · rename_i v q
    obtain ⟨a, r', rfl, g, hr⟩ := dget_ok R ry rx q
    refine ⟨a, r', rfl, g, ?_⟩
    rcases hr with ⟨h1, h2⟩ | ⟨w, w', h1, h2, h3⟩
    · subst h1; subst h2; exact Post.now R (.bl _) h
    · subst h1; subst h2; exact Post.now R (.bl _) h
  · exact h.elim
abbrev oIn : PV → PV → Ms → Out PV := oSel (fun _ y S => isDict S y) oDIn oInS
abbrev oNotIn : PV → PV → Ms → Out PV := oSel (fun _ y S => isDict S y) oDNotIn oNotInS
theorem s_in (hu : X.A.units + 65 < cLine) (ha : SE X W a m) (hb : SE X W b n) (h1 : behindInMarks .In b = false := by first | exact nobehind _ (by decide) (by decide) | rfl) : SE X W (.Compare a [.In] [b] pos) (m2 m n oIn) :=
  let ⟨_, pa, qa⟩ := ha; let ⟨_, pb, qb⟩ := hb
  s_sel _ ⟨_, pe_cmp (pc_din (by omega) pa pb) h1, bin_ok qa qb o_din⟩ (s_cmp (op_inA hu) o_inS ⟨_, pa, qa⟩ ⟨_, pb, qb⟩ h1)
theorem s_notin (hu : X.A.units + 65 < cLine) (ha : SE X W a m) (hb : SE X W b n) (h1 : behindInMarks .NotIn b = false := by first | exact nobehind _ (by decide) (by decide) | rfl) : SE X W (.Compare a [.NotIn] [b] pos) (m2 m n oNotIn) :=
  let ⟨_, pa, qa⟩ := ha; let ⟨_, pb, qb⟩ := hb
  s_sel _ ⟨_, pe_cmp (pc_dnotin (by omega) pa pb) h1, bin_ok qa qb o_dnotin⟩ (s_cmp (op_notInA hu) o_notInS ⟨_, pa, qa⟩ ⟨_, pb, qb⟩ h1)
theorem sb_in (hu : X.A.units + 65 < cLine) (ha : SE X W a m) (hb : SE X W b n) (h1 : behindInMarks .In b = false := by first | exact nobehind _ (by decide) (by decide) | rfl) : SB X W (.Compare a [.In] [b] pos) (mB (m2 m n oIn)) :=
  let ⟨_, pa, qa⟩ := ha; let ⟨_, pb, qb⟩ := hb
  sb_sel _ ⟨_, pt_cmp (pc_din (by omega) pa pb) h1, fun ρ env S σ H Q R er h => test_ok (bin_ok qa qb o_din) asB_ok ρ env S σ H Q R er h⟩ (sb_cmp (op_inA hu) o_inS ⟨_, pa, qa⟩ ⟨_, pb, qb⟩ h1)
theorem sb_notin (hu : X.A.units + 65 < cLine) (ha : SE X W a m) (hb : SE X W b n) (h1 : behindInMarks .NotIn b = false := by first | exact nobehind _ (by decide) (by decide) | rfl) : SB X W (.Compare a [.NotIn] [b] pos) (mB (m2 m n oNotIn)) :=
  let ⟨_, pa, qa⟩ := ha; let ⟨_, pb, qb⟩ := hb
  sb_sel _ ⟨_, pt_cmp (pc_dnotin (by omega) pa pb) h1, fun ρ env S σ H Q R er h => test_ok (bin_ok qa qb o_dnotin) asB_ok ρ env S σ H Q R er h⟩ (sb_cmp (op_notInA hu) o_notInS ⟨_, pa, qa⟩ ⟨_, pb, qb⟩ h1)
end
end MP

set_option maxRecDepth 100000
namespace MP
open PySem PySem.Spec PyProof.Rows L2
section
variable {X : Cx} {W : WX} {a b c e o : Expr} {es rest : List Expr} {pos : Pos} {m n k : ME} {ml : ML} {t u : MB}

/-! ### slices -/
abbrev MO := Env' → Ms → Out PV
/-- a part of a slice: an int, or left out (None) -/
def SOp (X : Cx) (W : WX) (e : Option Expr) (m : ME) : Prop := ∃ t, PO X e t ∧ ∀ ρ env S σ H (Q : Option Int → Hp → Prop), HR X.K X.mg ρ S H → ER X.K H ρ env σ →
  (match m env S with
    | .ret (.int i) S' => ∀ ρ' H', Grow ρ ρ' → HR X.K X.mg ρ' S' H' → Ext H H' → Q (some i) H'
    | .ret .non S' => ∀ ρ' H', Grow ρ ρ' → HR X.K X.mg ρ' S' H' → Ext H H' → Q none H'
    | .exc x S' => ∀ ρ' C d H', Grow ρ ρ' → HR X.K X.mg ρ' S' H' → Ext H H' → X.mg x.cls = some (.ref C) → XR X.K H' ρ' x.fs d → W (.ref C) d σ H'
    | _ => False) → t σ H Q
theorem so_none : SOp X W none (mC .non) := ⟨_, po_none, fun ρ env S σ H Q R er h => h _ _ (.refl _) R (.refl _)⟩
def onlyI (m : ME) : ME := fun env S => match m env S with | .ret (.int i) S' => .ret (.int i) S' | .exc x S => .exc x S | _ => .fail
theorem so_some (h : SE X W e m) : SOp X W (some e) (onlyI m) :=
  let ⟨_, p, q⟩ := h
  ⟨_, po_some p, fun ρ env S σ H Q R er h => by
    refine q ρ env S σ H _ R er ?_
    unfold onlyI at h
    cases e : m env S with
    | fail => simp only [e] at h
    | exc x S => simp only [e] at h; exact h
    | ret x S1 =>
      simp only [e] at h
      cases x <;> simp only [] at h
      rename_i i
      intro ρ1 x1 H1 g1 R1 e1 r1
      cases r1
      exact ⟨i, rfl, h ρ1 H1 g1 R1 e1⟩⟩
def cutP (xs : List PV) (lo hi : Option Int) : List PV := (xs.drop (HT.sIx xs.length 0 lo)).take (HT.sIx xs.length xs.length hi - HT.sIx xs.length 0 lo)
theorem cut_ok {K : PySem.W.Frag} {H : Hp} {ρ : List Addr} {xs : List PV} {vs : List V} (h : VRs K H ρ xs vs) (lo hi : Option Int) : VRs K H ρ (cutP xs lo hi) (cutV vs lo hi) := by
  unfold cutP cutV
  rw [h.length]
  exact (h.drop _).take _
theorem cutP_length (xs : List PV) (lo hi : Option Int) : (cutP xs lo hi).length ≤ xs.length := by
  unfold cutP
  rw [List.length_take, List.length_drop]; omega
def partI : PV → Option (Option Int)
  | .int i => some (some i)
  | .non => some none
  | _ => none
def oCut (x : PV) (l u : Option Int) (S : Ms) : Out PV := match x with
  | .tup xs => .ret (.tup (cutP xs l u)) S
  | .rol xs => .ret (.loc S.length) (S ++ [.lst (cutP xs l u)])
  | .loc n => match S[n]? with
    | some (.lst xs) => .ret (.loc S.length) (S ++ [.lst (cutP xs l u)])
    | _ => .fail
  | _ => .fail
def mCut (a l u : ME) : ME := fun env S => (a env S).bind fun x S1 => (l env S1).bind fun y S2 => match partI y with
  | some lo => (u env S2).bind fun z S3 => (match partI z with | some hi => oCut x lo hi S3 | none => .fail)
  | none => .fail
theorem whole_cut (xs : List PV) (lo hi : Option Int) (h : HT.sIx xs.length 0 lo = 0 ∧ HT.sIx xs.length xs.length hi = xs.length) : cutP xs lo hi = xs := by
  unfold cutP
  rw [h.1, h.2]
  simp
theorem slice_at {ρ S H σ Q} {x : PV} {x' : V} {lo hi : Option Int} (R : HR X.K X.mg ρ S H) (r : VR X.K H ρ x x') (h : Post X.K X.mg ρ H σ W Q (oCut x lo hi S)) :
    rSlL X.K x' lo hi H Q ∨ rSlA X.K x' lo hi H Q := by
  cases r with
  | tup hx ax =>
    simp only [oCut] at h
    refine .inr ⟨_, _, rfl, .of hx, fun z => ?_, fun _ p hp => new_tup R (cut_ok ax _ _) h hp⟩
    rw [ax.length] at z
    rw [whole_cut _ _ _ z] at h
    exact Post.now R (.tup hx ax) h
  | rol hx ax => exact .inl ⟨_, _, rfl, hx.sq, fun p hp => new_list R (cut_ok ax _ _) h hp⟩
  | loc en =>
    simp only [oCut] at h
    split at h
    · rename_i q
      obtain ⟨vs, h1, h2⟩ := R.lst en q
      exact .inl ⟨_, _, rfl, .of h1, fun p hp => new_list R (cut_ok h2 _ _) h hp⟩
    · exact h.elim
  | non => exact h.elim
  | bl b => exact h.elim
  | int i => exact h.elim
  | str s => exact h.elim
theorem s_slice {lo hi : Option Expr} {p2 : Pos} (ha : SE X W a m) (hl : SOp X W lo n) (hh : SOp X W hi k) : SE X W (.Subscript a (.Slice lo hi none p2) pos) (mCut m n k) :=
  let ⟨_, pa, qa⟩ := ha; let ⟨_, pb, qb⟩ := hl; let ⟨_, pc, qc⟩ := hh
  ⟨_, pe_slice (SlR.or sl_list sl_tupA) pa pb pc, fun ρ env S σ H Q R er h => by
    refine qa ρ env S σ H _ R er ?_
    unfold mCut at h
    cases e : m env S with
    | fail => rw [e] at h; exact h.elim
    | exc x S => rw [e] at h; exact h
    | ret x S1 =>
      rw [e] at h
      intro ρ1 x' H1 g1 R1 e1 r1
      have er1 := er.mono e1 g1
      have h := Post.mono g1 e1 h
      simp only [Out.bind] at h
      refine qb ρ1 env S1 σ H1 _ R1 er1 ?_
      have part3 : ∀ (lo' : Option Int) (S2 : Ms) (ρ2 : List Addr) (H2 : Hp), Grow ρ1 ρ2 → HR X.K X.mg ρ2 S2 H2 → Ext H1 H2 →
          Post X.K X.mg ρ1 H1 σ W Q ((k env S2).bind fun z S3 => (match partI z with | some hi => oCut x lo' hi S3 | none => .fail)) → _ := fun lo' S2 ρ2 H2 g2 R2 e2 h3 => by
        have h3 := Post.mono g2 e2 h3
        refine qc ρ2 env S2 σ H2 (fun u H3 => rSlL X.K x' lo' u H3 Q ∨ rSlA X.K x' lo' u H3 Q) R2 (er1.mono e2 g2) ?_
        cases e : k env S2 with
        | fail => rw [e] at h3; exact h3.elim
        | exc x S => rw [e] at h3; exact h3
        | ret z S3 =>
          rw [e] at h3
          cases z with
          | int i => exact fun ρ3 H3 g3 R3 e3 => slice_at R3 ((r1.mono e2 g2).mono e3 g3) (Post.mono g3 e3 h3)
          | non => exact fun ρ3 H3 g3 R3 e3 => slice_at R3 ((r1.mono e2 g2).mono e3 g3) (Post.mono g3 e3 h3)
          | bl b => exact h3.elim
          | str b => exact h3.elim
          | tup b => exact h3.elim
          | loc b => exact h3.elim
          | rol b => exact h3.elim
      cases e : n env S1 with
      | fail => rw [e] at h; exact h.elim
      | exc x S => rw [e] at h; exact h
      | ret y S2 =>
        rw [e] at h
        cases y with
        | int i => exact fun ρ2 H2 g2 R2 e2 => part3 (some i) S2 ρ2 H2 g2 R2 e2 h
        | non => exact fun ρ2 H2 g2 R2 e2 => part3 none S2 ρ2 H2 g2 R2 e2 h
        | bl b => exact h.elim
        | str b => exact h.elim
        | tup b => exact h.elim
        | loc b => exact h.elim
        | rol b => exact h.elim⟩
end
end MP

set_option maxRecDepth 100000
namespace MP
open PySem PySem.Spec PyProof.Rows L2
section
variable {X : Cx} {W : WX} {a b c e o : Expr} {es rest : List Expr} {pos : Pos} {m n k : ME} {ml : ML} {t u : MB}

/-! ### calls of built-ins by name -/
def gArgs (f : List PV → Ms → Out PV) (g : List PV → Ms → Out PV) (p : List PV → Ms → Bool) : List PV → Ms → Out PV := fun xs S => if p xs S then f xs S else g xs S
theorem ol_ok {f : List PV → Ms → Out PV} {r : List V → Hp → VK → Prop} {t : TA} (hf : OL X W f r)
    (qa : ∀ ρ env S σ H Q, HR X.K X.mg ρ S H → ER X.K H ρ env σ → PostL X.K X.mg ρ H σ W Q (ml env S) → t σ H Q)
    (ρ env S σ H) (Q : VK) (R : HR X.K X.mg ρ S H) (er : ER X.K H ρ env σ) (h : Post X.K X.mg ρ H σ W Q (mL ml f env S)) : t σ H (fun xs H1 => r xs H1 Q) :=
  args_ok qa ρ env S σ H Q (fun ρ' S' H' x x' g e R' r h' => hf ρ' S' H' σ Q x x' R' r h') R er h
theorem s_callB {x : Str} {p : Pos} {id : String} {f : List PV → Ms → Out PV} {r : List V → Hp → VK → Prop} (hc : CallR X (.builtin id) r) (hf : OL X W f r) (hm : X.mg x = none) (hv : bootBuiltins x = some (.builtin id)) (ha : SA X W (e :: es) ml)
    (hg : Gl X x := by rfl) (hn : x ≠ "__name__" := by decide) (hdb : (x == ("__debug__" : Str)) = false := by decide)
    (he : starEach (e :: es) X.env = (false, eval e X.env) :: starEach es X.env := by rfl) (hpl : (backTo pos (starEach es X.env)).any (·.1) = false := by rfl) : SE X W (.Call (.Name x p) (e :: es) [] pos) (mL ml f) :=
  let ⟨_, pa, qa⟩ := ha
  ⟨_, pe_callB hc hg hm hv pa hn hdb he hpl, ol_ok hf qa⟩
theorem s_callTy {x : Str} {p : Pos} {T : String} {f : List PV → Ms → Out PV} {r : List V → Hp → VK → Prop} (hc : CallR X (.type T) r) (hf : OL X W f r) (hm : X.mg x = none) (hv : bootBuiltins x = some (.type T)) (ha : SA X W (e :: es) ml)
    (hg : Gl X x := by rfl) (hn : x ≠ "__name__" := by decide) (hdb : (x == ("__debug__" : Str)) = false := by decide)
    (he : starEach (e :: es) X.env = (false, eval e X.env) :: starEach es X.env := by rfl) (hpl : (backTo pos (starEach es X.env)).any (·.1) = false := by rfl) : SE X W (.Call (.Name x p) (e :: es) [] pos) (mL ml f) :=
  let ⟨_, pa, qa⟩ := ha
  ⟨_, pe_callTy hc hg hm hv pa hn hdb he hpl, ol_ok hf qa⟩
/-- len -/
def oLen : List PV → Ms → Out PV
  | [.str s], S => if s.length ≤ lim then .ret (.int s.length) S else .fail
  | [.tup xs], S => .ret (.int xs.length) S
  | [.rol xs], S => .ret (.int xs.length) S
  | [.loc n], S => (match S[n]? with
    | some (.lst xs) => .ret (.int xs.length) S
    | some (.dK xs) => .ret (.int xs.length) S
    | some (.dT xs) => .ret (.int xs.length) S
    | _ => .fail)
  | _, _ => .fail
theorem vrs1 {K : PySem.W.Frag} {H : Hp} {ρ : List Addr} {x : PV} {vs : List V} (h : VRs K H ρ [x] vs) : ∃ v, vs = [v] ∧ VR K H ρ x v := by
  cases h with | cons h t => cases t; exact ⟨_, rfl, h⟩
theorem vrs2 {K : PySem.W.Frag} {H : Hp} {ρ : List Addr} {x y : PV} {vs : List V} (h : VRs K H ρ [x, y] vs) : ∃ v w, vs = [v, w] ∧ VR K H ρ x v ∧ VR K H ρ y w := by
  cases h with | cons h t => cases t with | cons h' t => cases t; exact ⟨_, _, rfl, h, h'⟩
def rLen4 (K : PySem.W.Frag) : List V → Hp → VK → Prop := fun xs H Q => (∃ x n, xs = [x] ∧ LenV K x H n ∧ Q (.int n) H) ∨ (∃ a kvs, xs = [V.ref a] ∧ H a = some (.dK kvs) ∧ Q (.int kvs.length) H) ∨ rLenT xs H Q
theorem call_len4 : CallR X (.builtin "len") (rLen4 X.K) := call_or call_len (call_or call_lenD call_len_dT)
theorem o_len : OL X W oLen (rLen4 X.K) := by
  intro ρ S H σ Q x x' R r h
  unfold oLen at h
  split at h
  · obtain ⟨v, rfl, rv⟩ := vrs1 r
    cases rv
    split at h
    · rename_i hl; exact .inl ⟨_, _, rfl, ⟨lim_le hl, rfl⟩, Post.now R (.int _) h⟩
    · exact h.elim
  · obtain ⟨v, rfl, rv⟩ := vrs1 r
    cases rv with | tup hx ax => exact .inl ⟨_, _, rfl, .inr ⟨_, .of hx, rfl⟩, by rw [ax.length]; exact Post.now R (.int _) h⟩
  · obtain ⟨v, rfl, rv⟩ := vrs1 r
    cases rv with | rol hx ax => exact .inl ⟨_, _, rfl, .inl ⟨_, hx.sq, rfl⟩, by rw [ax.length]; exact Post.now R (.int _) h⟩
  · obtain ⟨v, rfl, rv⟩ := vrs1 r
    cases rv with
    | loc en =>
      split at h
      · rename_i q; obtain ⟨vs, h1, h2⟩ := R.lst en q
        exact .inl ⟨_, _, rfl, .inl ⟨_, .of h1, rfl⟩, by rw [h2.length]; exact Post.now R (.int _) h⟩
      · rename_i q; obtain ⟨vs, h1, h2⟩ := R.dK en q
        exact .inr (.inl ⟨_, _, rfl, h1, by rw [kvr_len h2]; exact Post.now R (.int _) h⟩)
      · rename_i q; obtain ⟨vs, h1, h2⟩ := R.dT en q
        exact .inr (.inr ⟨_, _, rfl, h1, by rw [kvr_len h2]; exact Post.now R (.int _) h⟩)
      · exact h.elim
  · exact h.elim
def oAbs : List PV → Ms → Out PV
  | [.int i], S => .ret (.int (if i < 0 then -i else i)) S
  | _, _ => .fail
theorem o_abs : OL X W oAbs (fun xs H Q => ∃ i, xs = [.int i] ∧ Q (.int (if i < 0 then -i else i)) H) := by
  intro ρ S H σ Q x x' R r h
  unfold oAbs at h
  split at h
  · obtain ⟨v, rfl, rv⟩ := vrs1 r; cases rv; exact ⟨_, rfl, Post.now R (.int _) h⟩
  · exact h.elim
def oInt : List PV → Ms → Out PV
  | [.int i], S => .ret (.int i) S
  | [.bl b], S => .ret (.int (if b then 1 else 0)) S
  | _, _ => .fail
theorem o_int : OL X W oInt (fun xs H Q => (∃ i, xs = [.int i] ∧ Q (.int i) H) ∨ ∃ k, xs = [.bl k] ∧ Q (.int (if k then 1 else 0)) H) := by
  intro ρ S H σ Q x x' R r h
  unfold oInt at h
  split at h
  · obtain ⟨v, rfl, rv⟩ := vrs1 r; cases rv; exact .inl ⟨_, rfl, Post.now R (.int _) h⟩
  · obtain ⟨v, rfl, rv⟩ := vrs1 r; cases rv; exact .inr ⟨_, rfl, Post.now R (.int _) h⟩
  · exact h.elim
def intsP : List PV → Option (List Int)
  | [] => some []
  | .int i :: xs => (intsP xs).map (i :: ·)
  | _ => none
theorem ints_ok : ∀ {xs : List PV} {ns : List Int}, intsP xs = some ns → xs = ns.map PV.int
  | [], _, h => by cases h; rfl
  | .int i :: xs, _, h => by
    unfold intsP at h
    cases e : intsP xs with
    | none => rw [e] at h; cases h
    | some ns => rw [e] at h; cases h; rw [ints_ok e]; rfl
  | .non :: _, _, h => by cases h
  | .bl _ :: _, _, h => by cases h
  | .str _ :: _, _, h => by cases h
  | .tup _ :: _, _, h => by cases h
  | .loc _ :: _, _, h => by cases h
  | .rol _ :: _, _, h => by cases h
theorem intsP_map : ∀ ns : List Int, intsP (ns.map PV.int) = some ns
  | [] => rfl
  | n :: r => by show (intsP (r.map PV.int)).map (n :: ·) = _; rw [intsP_map r]; rfl
def blsP : List PV → Option (List Bool)
  | [] => some []
  | .bl i :: xs => (blsP xs).map (i :: ·)
  | _ => none
theorem bls_ok : ∀ {xs : List PV} {ns : List Bool}, blsP xs = some ns → xs = ns.map PV.bl
  | [], _, h => by cases h; rfl
  | .bl i :: xs, _, h => by
    unfold blsP at h
    cases e : blsP xs with
    | none => rw [e] at h; cases h
    | some ns => rw [e] at h; cases h; rw [bls_ok e]; rfl
  | .non :: _, _, h => by cases h
  | .int _ :: _, _, h => by cases h
  | .str _ :: _, _, h => by cases h
  | .tup _ :: _, _, h => by cases h
  | .loc _ :: _, _, h => by cases h
  | .rol _ :: _, _, h => by cases h
theorem blsP_map : ∀ ns : List Bool, blsP (ns.map PV.bl) = some ns
  | [] => rfl
  | n :: r => by show (blsP (r.map PV.bl)).map (n :: ·) = _; rw [blsP_map r]; rfl
/-- a list of the store -/
def lstOf (S : Ms) : PV → Option (List PV)
  | .rol xs => some xs
  | .loc n => match S[n]? with | some (.lst xs) => some xs | _ => none
  | _ => none
theorem lstOf_ok {ρ : List Addr} {S : Ms} {H : Hp} {x : PV} {x' : V} {xs : List PV} (R : HR X.K X.mg ρ S H) (r : VR X.K H ρ x x') (h : lstOf S x = some xs) : ∃ a vs, x' = .ref a ∧ VRs X.K H ρ xs vs ∧ SqL X.K H a vs := by
  cases r with
  | loc en =>
    simp only [lstOf] at h
    split at h
    · rename_i q; cases h; obtain ⟨vs, h1, h2⟩ := R.lst en q; exact ⟨_, vs, rfl, h2, .of h1⟩
    · cases h
  | non => cases h
  | bl b => cases h
  | int i => cases h
  | str s => cases h
  | tup _ _ => cases h
  | rol hx ax => cases h; exact ⟨_, _, rfl, ax, hx.sq⟩
def minL (x : Int) (xs : List Int) : Int := xs.foldl min x
def maxL (x : Int) (xs : List Int) : Int := xs.foldl max x
theorem minL_spec : ∀ (xs : List Int) (x : Int), minL x xs ∈ x :: xs ∧ ∀ y ∈ x :: xs, minL x xs ≤ y
  | [], x => ⟨List.mem_cons_self, fun y hy => by simp at hy; subst hy; exact Int.le_refl _⟩
  | z :: xs, x => by
    have ih := minL_spec xs (min x z)
    have e : minL x (z :: xs) = minL (min x z) xs := rfl
    rw [e]
    constructor
    · rcases List.mem_cons.mp ih.1 with h | h
      · rw [h]; rcases Int.le_total x z with q | q
        · rw [Int.min_eq_left q]; exact List.mem_cons_self
        · rw [Int.min_eq_right q]; simp
      · simp [h]
    · intro y hy
      have hm := ih.2 (min x z) List.mem_cons_self
      rcases List.mem_cons.mp hy with h | h
      · subst h; omega
      · rcases List.mem_cons.mp h with h | h
        · subst h; omega
        · exact ih.2 y (List.mem_cons_of_mem _ h)
theorem maxL_spec : ∀ (xs : List Int) (x : Int), maxL x xs ∈ x :: xs ∧ ∀ y ∈ x :: xs, y ≤ maxL x xs
  | [], x => ⟨List.mem_cons_self, fun y hy => by simp at hy; subst hy; exact Int.le_refl _⟩
  | z :: xs, x => by
    have ih := maxL_spec xs (max x z)
    have e : maxL x (z :: xs) = maxL (max x z) xs := rfl
    rw [e]
    constructor
    · rcases List.mem_cons.mp ih.1 with h | h
      · rw [h]; rcases Int.le_total x z with q | q
        · rw [Int.max_eq_right q]; simp
        · rw [Int.max_eq_left q]; exact List.mem_cons_self
      · simp [h]
    · intro y hy
      have hm := ih.2 (max x z) List.mem_cons_self
      rcases List.mem_cons.mp hy with h | h
      · subst h; omega
      · rcases List.mem_cons.mp h with h | h
        · subst h; omega
        · exact ih.2 y (List.mem_cons_of_mem _ h)
/-- min of a tuple of ints -/
def rMinTI : List V → Hp → VK → Prop := fun vs H Q => ∃ (a : Addr) (x : Int) (ns : List Int), vs = [V.ref a] ∧ H a = some (.tup ((x :: ns).map V.int)) ∧ Q (.int (minL x ns)) H
theorem dpInts {K : PySem.W.Frag} {H : Hp} : ∀ ns : List Int, DpAll K H (ns.map V.int) (ns.map PyData.int)
  | [] => .nil
  | n :: r => .cons (.int n) (dpInts r)
theorem depth_ints : ∀ ns : List Int, PyData.depthAll (ns.map PyData.int) = 0
  | [] => rfl
  | n :: r => by show max (PyData.depth (.int n)) (PyData.depthAll (r.map PyData.int)) = 0; rw [depth_ints r]; rfl
theorem cr_minT (hc : X.calm = true) (hu : X.A.units + 64 < cLine) : CallR X (.builtin "min") rMinTI := by
  intro pins s σ H vs us Q I r h
  obtain ⟨a, x, ns, rfl, hs, q⟩ := h
  obtain ⟨its, rv, ht, _⟩ := I.tuple (a := a) (.of hs)
  rw [Vals.ref1 r]
  obtain ⟨as, hr⟩ := Dp.readsAll I ((x :: ns).map PyData.int) _ its (dpInts (x :: ns)) rv
  refine PySem.W.min_tuple_data (I.ok.hd hc) (vs := its.toArray) (x := .int x) (xs := ns.map PyData.int) (as := as) ht hr ⟨fun y hy z hz => ?_, fun y hy => ?_⟩ ?_ fun i v h' tk bs hv rd hk => ?_
  · obtain ⟨j, _, rfl⟩ := List.mem_map.mp (show y ∈ (x :: ns).map PyData.int from hy)
    obtain ⟨l, _, rfl⟩ := List.mem_map.mp (show z ∈ (x :: ns).map PyData.int from hz)
    unfold PySem.W.alike; rfl
  · obtain ⟨j, _, rfl⟩ := List.mem_map.mp (show y ∈ (x :: ns).map PyData.int from hy)
    intro z; cases z
  · show X.A.units + 1 + PyData.depthAll ((x :: ns).map PyData.int) < cLine
    rw [depth_ints]; omega
  · rw [PySem.W.minD_ints] at rd
    cases rd with
    | int _ t => exact ⟨.int _, H, I.kept hk, ⟨t, rfl⟩, q⟩
def oMin : List PV → Ms → Out PV
  | [.int i, .int j], S => .ret (.int (if j < i then j else i)) S
  | [.tup xs], S => (match intsP xs with | some (x :: ns) => .ret (.int (minL x ns)) S | _ => .fail)
  | [.loc n], S => (match (lstOf S (.loc n)).bind intsP with | some (x :: ns) => .ret (.int (minL x ns)) S | _ => .fail)
  | _, _ => .fail
def rMin4 (K : PySem.W.Frag) : List V → Hp → VK → Prop := fun xs H Q => (∃ i j, xs = [.int i, .int j] ∧ Q (.int (if j < i then j else i)) H) ∨ rMinTI xs H Q ∨ rMin K xs H Q
theorem call_min4 (hc : X.calm = true) (hu : X.A.units + 64 < cLine) : CallR X (.builtin "min") (rMin4 X.K) := call_or (call_min2 hc) (call_or (cr_minT hc hu) (cr_min hc))
theorem o_min : OL X W oMin (rMin4 X.K) := by
  intro ρ S H σ Q x x' R r h
  unfold oMin at h
  split at h
  · obtain ⟨v, w, rfl, r1, r2⟩ := vrs2 r; cases r1; cases r2; exact .inl ⟨_, _, rfl, Post.now R (.int _) h⟩
  · obtain ⟨v, rfl, rv⟩ := vrs1 r
    split at h
    · rename_i q
      have e := ints_ok q
      subst e
      cases rv with
      | tup hx ax =>
        have e2 := VRs.ints_inv ax
        subst e2
        exact .inr (.inl ⟨_, _, _, rfl, hx, Post.now R (.int _) h⟩)
    · exact h.elim
  · rename_i xx
    obtain ⟨v, rfl, rv⟩ := vrs1 r
    split at h
    · rename_i x ns q
      cases e : lstOf S (.loc xx) with
      | none => rw [e] at q; cases q
      | some xs =>
        rw [e] at q
        obtain ⟨a, vs, rfl, hv, hs⟩ := lstOf_ok R rv e
        have e := ints_ok (show intsP xs = _ from q)
        subst e
        have e2 := VRs.ints_inv hv
        subst e2
        refine .inr (.inr ⟨_, _, rfl, hs, Nat.succ_pos _, fun mm h1 h2 => ?_⟩)
        have sp := minL_spec ns x
        have e3 : mm = minL x ns := Int.le_antisymm (h2 _ sp.1) (sp.2 _ h1)
        rw [e3]; exact Post.now R (.int _) h
    · exact h.elim
  · exact h.elim
def oMax : List PV → Ms → Out PV
  | [.int i, .int j], S => .ret (.int (if j > i then j else i)) S
  | [.loc n], S => (match (lstOf S (.loc n)).bind intsP with | some (x :: ns) => .ret (.int (maxL x ns)) S | _ => .fail)
  | _, _ => .fail
def rMax4 (K : PySem.W.Frag) : List V → Hp → VK → Prop := fun xs H Q => (∃ i j, xs = [.int i, .int j] ∧ Q (.int (if j > i then j else i)) H) ∨ rMax K xs H Q
theorem call_max4 (hc : X.calm = true) : CallR X (.builtin "max") (rMax4 X.K) := call_or (call_max2 hc) (cr_max hc)
theorem o_max : OL X W oMax (rMax4 X.K) := by
  intro ρ S H σ Q x x' R r h
  unfold oMax at h
  split at h
  · obtain ⟨v, w, rfl, r1, r2⟩ := vrs2 r; cases r1; cases r2; exact .inl ⟨_, _, rfl, Post.now R (.int _) h⟩
  · rename_i xx
    obtain ⟨v, rfl, rv⟩ := vrs1 r
    split at h
    · rename_i x ns q
      cases e : lstOf S (.loc xx) with
      | none => rw [e] at q; cases q
      | some xs =>
        rw [e] at q
        obtain ⟨a, vs, rfl, hv, hs⟩ := lstOf_ok R rv e
        have e := ints_ok (show intsP xs = _ from q)
        subst e
        have e2 := VRs.ints_inv hv
        subst e2
        refine .inr ⟨_, _, rfl, hs, Nat.succ_pos _, fun mm h1 h2 => ?_⟩
        have sp := maxL_spec ns x
        have e3 : mm = maxL x ns := Int.le_antisymm (sp.2 _ h1) (h2 _ sp.1)
        rw [e3]; exact Post.now R (.int _) h
    · exact h.elim
  · exact h.elim
def oSum : List PV → Ms → Out PV
  | [x], S => (match (lstOf S x).bind intsP with | some ns => .ret (.int ns.sum) S | _ => .fail)
  | _, _ => .fail
theorem o_sum : OL X W oSum (rSum X.K) := by
  intro ρ S H σ Q x x' R r h
  unfold oSum at h
  split at h
  · rename_i xx
    obtain ⟨v, rfl, rv⟩ := vrs1 r
    split at h
    · rename_i ns q
      cases e : lstOf S xx with
      | none => rw [e] at q; cases q
      | some xs =>
        rw [e] at q
        obtain ⟨a, vs, rfl, hv, hs⟩ := lstOf_ok R rv e
        have e := ints_ok (show intsP xs = _ from q)
        subst e
        have e2 := VRs.ints_inv hv
        subst e2
        exact ⟨_, _, rfl, hs, Post.now R (.int _) h⟩
    · exact h.elim
  · exact h.elim
def oAll : List PV → Ms → Out PV
  | [x], S => (match (lstOf S x).bind blsP with | some ns => .ret (.bl (ns.all id)) S | _ => .fail)
  | _, _ => .fail
theorem o_all : OL X W oAll (rAll X.K) := by
  intro ρ S H σ Q x x' R r h
  unfold oAll at h
  split at h
  · rename_i xx
    obtain ⟨v, rfl, rv⟩ := vrs1 r
    split at h
    · rename_i ns q
      cases e : lstOf S xx with
      | none => rw [e] at q; cases q
      | some xs =>
        rw [e] at q
        obtain ⟨a, vs, rfl, hv, hs⟩ := lstOf_ok R rv e
        have e := bls_ok (show blsP xs = _ from q)
        subst e
        have e2 := VRs.bls_inv hv
        subst e2
        exact ⟨_, _, rfl, hs, Post.now R (.bl _) h⟩
    · exact h.elim
  · exact h.elim
def oAny : List PV → Ms → Out PV
  | [x], S => (match (lstOf S x).bind blsP with | some ns => .ret (.bl (ns.any id)) S | _ => .fail)
  | _, _ => .fail
theorem o_any : OL X W oAny (rAny X.K) := by
  intro ρ S H σ Q x x' R r h
  unfold oAny at h
  split at h
  · rename_i xx
    obtain ⟨v, rfl, rv⟩ := vrs1 r
    split at h
    · rename_i ns q
      cases e : lstOf S xx with
      | none => rw [e] at q; cases q
      | some xs =>
        rw [e] at q
        obtain ⟨a, vs, rfl, hv, hs⟩ := lstOf_ok R rv e
        have e := bls_ok (show blsP xs = _ from q)
        subst e
        have e2 := VRs.bls_inv hv
        subst e2
        exact ⟨_, _, rfl, hs, Post.now R (.bl _) h⟩
    · exact h.elim
  · exact h.elim
/-- list(x): of a list, a tuple, a dict's keys -/
def oListOf : List PV → Ms → Out PV
  | [.tup xs], S => .ret (.loc S.length) (S ++ [.lst xs])
  | [.rol xs], S => .ret (.loc S.length) (S ++ [.lst xs])
  | [.loc n], S => (match S[n]? with
    | some (.lst xs) => .ret (.loc S.length) (S ++ [.lst xs])
    | some (.dK kvs) => .ret (.loc S.length) (S ++ [.lst (kvs.map fun kv => kP kv.1)])
    | some (.dT kvs) => .ret (.loc S.length) (S ++ [.lst (kvs.map fun kv => .tup (kv.1.map kP))])
    | _ => .fail)
  | _, _ => .fail
def rListOf (K : PySem.W.Frag) : List V → Hp → VK → Prop := fun xs H Q => (∃ p ys, xs = [.ref p] ∧ (SqL K H p ys ∨ SqT K H p ys) ∧ ∀ l, H l = none → Q (.ref l) (upd H l (.lst ys))) ∨ rListD xs H Q ∨
  (∃ d kvs, xs = [V.ref d] ∧ Rd H d (.dT kvs) ∧ ∀ p bs, H p = none → IsKeys H kvs bs → Q (.ref p) (upd H p (.lst (bs.map V.ref))))
theorem call_listOf (hc : X.calm = true) : CallR X (.type "list") (rListOf X.K) := call_or call_list_of (call_or (call_list_dK hc) (call_list_dT hc))
theorem keysK_ok {K : PySem.W.Frag} {H : Hp} {ρ : List Addr} : ∀ {xs : List (Key × PV)} {vs : List (Key × V)}, KVR K H ρ xs vs → VRs K H ρ (xs.map fun kv => kP kv.1) (vs.map fun kv => kV kv.1)
  | [], _, h => by cases h; exact .nil
  | _ :: _, _, h => by cases h with | cons h t => exact .cons (by have e := h.1; show VR K H ρ (kP _) (kV _); rw [← e]; exact kP_ok _) (keysK_ok t)
theorem kPs_ok {K : PySem.W.Frag} {H : Hp} {ρ : List Addr} : ∀ ks : List Key, VRs K H ρ (ks.map kP) (ks.map kV)
  | [] => .nil
  | k :: r => .cons (kP_ok k) (kPs_ok r)
theorem keysT_ok {K : PySem.W.Frag} {H : Hp} {ρ : List Addr} : ∀ {xs : List (List Key × PV)} {vs : List (List Key × V)} {bs : List Addr}, KVR K H ρ xs vs → IsKeys H vs bs → VRs K H ρ (xs.map fun kv => PV.tup (kv.1.map kP)) (bs.map V.ref)
  | [], _, _, h, r => by cases h; cases r; exact .nil
  | _ :: _, _, _, h, r => by
    cases h with
    | cons h t => cases r with
      | cons r rt => exact .cons (.tup (by rw [r, ← h.1]) (kPs_ok _)) (keysT_ok t rt)
theorem o_listOf : OL X W oListOf (rListOf X.K) := by
  intro ρ S H σ Q x x' R r h
  unfold oListOf at h
  split at h
  · obtain ⟨v, rfl, rv⟩ := vrs1 r
    cases rv with | tup hx ax => exact .inl ⟨_, _, rfl, .inr (.of hx), fun p hp => new_list R ax h hp⟩
  · obtain ⟨v, rfl, rv⟩ := vrs1 r
    cases rv with | rol hx ax => exact .inl ⟨_, _, rfl, .inl hx.sq, fun p hp => new_list R ax h hp⟩
  · obtain ⟨v, rfl, rv⟩ := vrs1 r
    cases rv with
    | loc en =>
      split at h
      · rename_i q; obtain ⟨vs, h1, h2⟩ := R.lst en q
        exact .inl ⟨_, _, rfl, .inl (.of h1), fun p hp => new_list R h2 h hp⟩
      · rename_i q; obtain ⟨vs, h1, h2⟩ := R.dK en q
        exact .inr (.inl ⟨_, _, rfl, h1, fun p hp => new_list R (keysK_ok h2) h hp⟩)
      · rename_i q; obtain ⟨vs, h1, h2⟩ := R.dT en q
        exact .inr (.inr ⟨_, _, rfl, .of h1, fun p bs hp hb => new_list R (keysT_ok h2 hb) h hp⟩)
      · exact h.elim
  · exact h.elim
/-- tuple(x) -/
def oTupOf : List PV → Ms → Out PV
  | [x], S => (match itemsOf S x with | some xs => .ret (.tup xs) S | none => .fail)
  | _, _ => .fail
theorem o_tupOf : OL X W oTupOf (fun xs H Q => ∃ p ys, xs = [.ref p] ∧ ((SqL X.K H p ys ∧ ∀ l, H l = none → Q (.ref l) (upd H l (.tup ys))) ∨ (SqT X.K H p ys ∧ Q (.ref p) H))) := by
  intro ρ S H σ Q x x' R r h
  unfold oTupOf at h
  split at h
  · obtain ⟨v, rfl, rv⟩ := vrs1 r
    split at h
    · rename_i xs q
      obtain ⟨a, vs, rfl, hv, hs⟩ := items_ok R rv q
      rcases hs with ⟨hs, _⟩ | ⟨hs, rfl⟩
      · exact ⟨_, _, rfl, .inl ⟨hs, fun p hp => new_tup R hv h hp⟩⟩
      · exact ⟨_, _, rfl, .inr ⟨.of hs, Post.now R rv h⟩⟩
    · exact h.elim
  · exact h.elim
/-- sorted of ints -/
def sortI (ns : List Int) : List Int := ns.mergeSort (fun a b => decide (a ≤ b))
theorem sorted_uniq : ∀ {l m : List Int}, l.Perm m → l.Pairwise (· ≤ ·) → m.Pairwise (· ≤ ·) → l = m
  | [], m, p, _, _ => (List.Perm.eq_nil p.symm).symm
  | x :: l, [], p, _, _ => absurd p.length_eq (by simp)
  | x :: l, y :: m, p, hl, hm => by
    have h1 := List.pairwise_cons.mp hl
    have h2 := List.pairwise_cons.mp hm
    have e : x = y := by
      have hx : x ∈ y :: m := p.subset List.mem_cons_self
      have hy : y ∈ x :: l := p.symm.subset List.mem_cons_self
      rcases List.mem_cons.mp hx with e | hx
      · exact e
      · rcases List.mem_cons.mp hy with e | hy
        · exact e.symm
        · exact Int.le_antisymm (h1.1 y hy) (h2.1 x hx)
    subst e
    rw [sorted_uniq (List.perm_cons x |>.mp p) h1.2 h2.2]
theorem sortI_perm (ns : List Int) : (sortI ns).Perm ns := List.mergeSort_perm _ _
theorem sortI_sorted (ns : List Int) : (sortI ns).Pairwise (· ≤ ·) := by
  have h := List.pairwise_mergeSort (le := fun (a b : Int) => decide (a ≤ b)) (by intro a b c; simp; omega) (by intro a b; simp; omega) ns
  exact h.imp (by intro a b h; simpa using h)
def oSortedI : List PV → Ms → Out PV
  | [x], S => (match (lstOf S x).bind intsP with | some ns => if ns.length ≤ lim then .ret (.loc S.length) (S ++ [.lst ((sortI ns).map PV.int)]) else .fail | _ => .fail)
  | _, _ => .fail
theorem o_sortedI : OL X W oSortedI (rSortedI X.K) := by
  intro ρ S H σ Q x x' R r h
  unfold oSortedI at h
  split at h
  · rename_i xx
    obtain ⟨v, rfl, rv⟩ := vrs1 r
    split at h
    · rename_i ns q
      cases e : lstOf S xx with
      | none => rw [e] at q; cases q
      | some xs =>
        rw [e] at q
        split at h
        · obtain ⟨a, vs, rfl, hv, hs⟩ := lstOf_ok R rv e
          have e := ints_ok (show intsP xs = _ from q)
          subst e
          have e2 := VRs.ints_inv hv
          subst e2
          refine ⟨_, _, rfl, hs, fun ns' p h1 h2 hp => ?_⟩
          have e3 : ns' = sortI ns := sorted_uniq (h1.trans (sortI_perm ns).symm) h2 (sortI_sorted ns)
          subst e3
          exact new_list R (VRs.ints _) h hp
        · exact h.elim
    · exact h.elim
  · exact h.elim
end
end MP

set_option maxRecDepth 100000
namespace MP
open PySem PySem.Spec PyProof.Rows L2
section
variable {X : Cx} {W : WX} {a b c e o : Expr} {es rest : List Expr} {pos : Pos} {m n k : ME} {ml : ML} {t u : MB} {st : Stmt} {sts : List Stmt} {p q : MS}

/-! ### statements -/
def sNext : MS := fun env S => .nx env S
def sSeq (p q : MS) : MS := fun env S => match p env S with | .nx env1 S1 => q env1 S1 | r => r
theorem ss_nil : SSs X W [] sNext := ⟨_, pss_nil, fun ρ env S σ H D R er h => h _ _ _ (.refl _) R (.refl _) er⟩
theorem ss_cons (h : SS X W st p) (h' : SSs X W sts q) : SSs X W (st :: sts) (sSeq p q) :=
  let ⟨_, pa, qa⟩ := h; let ⟨_, pb, qb⟩ := h'
  ⟨_, pss_cons pa pb, fun ρ env S σ H D R er h => by
    refine qa ρ env S σ H _ R er ?_
    unfold sSeq at h
    cases e : p env S with
    | nx env1 S1 => rw [e] at h; exact fun ρ1 σ1 H1 g1 R1 e1 er1 => qb ρ1 env1 S1 σ1 H1 D R1 er1 (PostS.mono g1 e1 h)
    | rt v S1 => rw [e] at h; exact h
    | bk env1 S1 => rw [e] at h; exact h
    | ct env1 S1 => rw [e] at h; exact h
    | exc env1 x S1 => rw [e] at h; exact h
    | fail => rw [e] at h; exact h⟩
theorem ss_one (h : SS X W st p) : SSs X W [st] p := let ⟨_, pa, qa⟩ := h; ⟨_, pss_one pa, qa⟩
def sBreak : MS := fun env S => .bk env S
def sCont : MS := fun env S => .ct env S
def sFail : MS := fun _ _ => .fail
theorem ss_pass : SS X W (.Pass pos) sNext := ⟨_, ps_pass, fun ρ env S σ H D R er h => h _ _ _ (.refl _) R (.refl _) er⟩
theorem ss_break : SS X W (.Break pos) sBreak := ⟨_, ps_break, fun ρ env S σ H D R er h => h _ _ _ (.refl _) R (.refl _) er⟩
theorem ss_cont : SS X W (.Continue pos) sCont := ⟨_, ps_continue, fun ρ env S σ H D R er h => h _ _ _ (.refl _) R (.refl _) er⟩
theorem ss_never : SS X W st sFail := ⟨_, ps_never, fun ρ env S σ H D R er h => h⟩
/-- an expression, and a statement's end made of its value -/
def sOf (m : ME) (f : PV → Env' → Ms → SO) : MS := fun env S => match m env S with | .ret v S1 => f v env S1 | .exc x S1 => .exc env x S1 | .fail => .fail
theorem sOf_ok {ta : TE} {f : PV → Env' → Ms → SO} {kk : V → Hp → Prop} {D : Ends}
    (ha : ∀ ρ env S σ H Q, HR X.K X.mg ρ S H → ER X.K H ρ env σ → Post X.K X.mg ρ H σ W Q (m env S) → ta σ H Q)
    (ρ env S σ H) (R : HR X.K X.mg ρ S H) (er : ER X.K H ρ env σ)
    (hf : ∀ ρ' S' H' x x', Grow ρ ρ' → HR X.K X.mg ρ' S' H' → Ext H H' → ER X.K H' ρ' env σ → VR X.K H' ρ' x x' → PostS X.K X.mg ρ' H' W D (f x env S') → kk x' H')
    (h : PostS X.K X.mg ρ H W D (sOf m f env S)) : ta σ H kk := by
  refine ha ρ env S σ H _ R er ?_
  unfold sOf at h
  cases e : m env S with
  | fail => simp only [e] at h; exact h.elim
  | exc x S => simp only [e] at h; exact fun ρ' C d H' g R' e' hc xr => h ρ' σ C d H' g R' e' (er.mono e' g) hc xr
  | ret x S1 =>
    simp only [e] at h
    exact fun ρ1 x' H1 g1 R1 e1 r1 => hf ρ1 S1 H1 x x' g1 R1 e1 (er.mono e1 g1) r1 (PostS.mono g1 e1 h)
abbrev sDrop (m : ME) : MS := sOf m fun _ env S => .nx env S
theorem ss_expr (h : SE X W e m) (hs : swapsWith e none pos.line X.env = pure false := by rfl) : SS X W (.Expr e pos) (sDrop m) :=
  let ⟨_, pa, qa⟩ := h
  ⟨_, ps_expr pa hs, fun ρ env S σ H D R er h => sOf_ok (D := D) (f := fun _ env S => .nx env S) qa ρ env S σ H R er (fun ρ' S' H' x x' g R' e' er' r h => h _ _ _ (.refl _) R' (.refl _) er') h⟩
abbrev sRet (m : ME) : MS := sOf m fun v _ S => .rt v S
theorem ss_ret (h : SE X W e m) : SS X W (.Return (some e) pos) (sRet m) :=
  let ⟨_, pa, qa⟩ := h
  ⟨_, ps_ret pa, fun ρ env S σ H D R er h => sOf_ok (D := D) (f := fun v _ S => .rt v S) qa ρ env S σ H R er (fun ρ' S' H' x x' g R' e' er' r h => h _ _ _ (.refl _) R' (.refl _) r) h⟩
def sRetN : MS := fun _ S => .rt .non S
theorem ss_retN : SS X W (.Return none pos) sRetN := ⟨_, ps_retN, fun ρ env S σ H D R er h => h _ _ _ (.refl _) R (.refl _) .non⟩
def sIf (t : MB) (p q : MS) : MS := fun env S => match t env S with | .ret true S1 => p env S1 | .ret false S1 => q env S1 | .exc x S1 => .exc env x S1 | .fail => .fail
theorem ss_if {sa sb : List Stmt} (hc : SB X W c t) (ha : SSs X W sa p) (hb : SSs X W sb q) : SS X W (.If c sa sb pos) (sIf t p q) :=
  let ⟨_, pc, qc⟩ := hc; let ⟨_, pa, qa⟩ := ha; let ⟨_, pb, qb⟩ := hb
  ⟨_, ps_if pc pa pb, fun ρ env S σ H D R er h => by
    refine qc ρ env S σ H _ R er ?_
    unfold sIf at h
    split at h
    · rename_i S1 e
      rw [e]
      intro ρ1 H1 g1 R1 e1
      rw [if_pos rfl]
      exact qa ρ1 env S1 σ H1 D R1 (er.mono e1 g1) (PostS.mono g1 e1 h)
    · rename_i S1 e
      rw [e]
      intro ρ1 H1 g1 R1 e1
      rw [if_neg Bool.false_ne_true]
      exact qb ρ1 env S1 σ H1 D R1 (er.mono e1 g1) (PostS.mono g1 e1 h)
    · rename_i e; rw [e]; exact fun ρ' C d H' g R' e' hc xr => h ρ' σ C d H' g R' e' (er.mono e' g) hc xr
    · exact h.elim⟩

/-! ### targets: what they make of the locals; sl: the slots that may change -/
abbrev MG := PV → Env' → Option Env'
theorem wipe_set {σ : L2.St} {i : Nat} {s : Option V} : ∀ {vs : List Nat}, i ∈ vs → wipe (σ.set i s) vs = wipe σ vs
  | v :: vs, h => by
    show (wipe (σ.set i s) vs).set v none = (wipe σ vs).set v none
    by_cases hv : i ∈ vs
    · rw [wipe_set hv]
    · have e : i = v := by rcases List.mem_cons.mp h with h | h; exact h; exact absurd h hv
      subst e
      have g : ∀ (vs : List Nat), i ∉ vs → wipe (σ.set i s) vs = (wipe σ vs).set i s := by
        intro vs
        induction vs with
        | nil => intro _; rfl
        | cons w ws ih =>
          intro hn
          show (wipe (σ.set i s) ws).set w none = ((wipe σ ws).set w none).set i s
          rw [ih (fun z => hn (List.mem_cons_of_mem _ z))]
          rw [List.set_comm]
          intro z; subst z; exact hn List.mem_cons_self
      rw [g vs hv, List.set_set]
def SG (X : Cx) (tg : Expr) (g : MG) (sl : List Nat) : Prop := ∃ t, PG X tg t ∧ ∀ ρ env S σ H v v' env' (Q : L2.St → Hp → Prop), HR X.K X.mg ρ S H → ER X.K H ρ env σ → VR X.K H ρ v v' → g v env = some env' →
  (∀ σ', ER X.K H ρ env' σ' → (∀ vs, (∀ i ∈ sl, i ∈ vs) → wipe σ' vs = wipe σ vs) → Q σ' H) → t v' σ H Q
def SGs (X : Cx) (tgs : List Expr) (g : List PV → Env' → Option Env') (sl : List Nat) : Prop := ∃ t, PGs X tgs t ∧ ∀ ρ env S σ H vs vs' env' (Q : L2.St → Hp → Prop), HR X.K X.mg ρ S H → ER X.K H ρ env σ → VRs X.K H ρ vs vs' → g vs env = some env' →
  (∀ σ', ER X.K H ρ env' σ' → (∀ ws, (∀ i ∈ sl, i ∈ ws) → wipe σ' ws = wipe σ ws) → Q σ' H) → t vs' σ H Q
def gNm (i : Nat) : MG := fun v env => some (env.set i (some v))
theorem sg_name {i : Nat} {x : Str} (hN : X.N.Nodup) (hi : X.N[i]? = some x := by rfl) (hx : Loc X.env.scope x := by first | exact .inl rfl | exact .inr rfl) (hf : X.fn x = true ∨ X.env.scope.names.lookup x = some .local := by first | exact .inl rfl | exact .inr rfl | assumption) : SG X (.Name x pos) (gNm i) [i] :=
  ⟨_, pg_name hN hi hx hf, fun ρ env S σ H v v' env' Q R er r e h => by
    cases e
    exact h _ (er.set r i) fun vs hv => wipe_set (hv i List.mem_cons_self)⟩
def gNl : List PV → Env' → Option Env'
  | [], env => some env
  | _, _ => none
def gCn (g : MG) (gs : List PV → Env' → Option Env') : List PV → Env' → Option Env'
  | v :: vs, env => (g v env).bind fun env1 => gs vs env1
  | [], _ => none
theorem sgs_nil : SGs X [] gNl [] := ⟨_, pgs_nil, fun ρ env S σ H vs vs' env' Q R er r e h => by
  cases r with
  | nil => cases e; exact ⟨rfl, h σ er fun _ _ => rfl⟩
  | cons _ _ => cases e⟩
theorem sgs_cons {g : MG} {gs : List PV → Env' → Option Env'} {sl sl' : List Nat} (h1 : SG X e g sl) (h2 : SGs X es gs sl') (hs : (assignEach (e :: es) X.env).map (·.2) = assign e X.env :: (assignEach es X.env).map (·.2) := by rfl) : SGs X (e :: es) (gCn g gs) (sl ++ sl') :=
  let ⟨_, pa, qa⟩ := h1; let ⟨_, pb, qb⟩ := h2
  ⟨_, pgs_cons pa pb hs, fun ρ env S σ H vs vs' env' Q R er r e h => by
    cases r with
    | nil => cases e
    | cons r t =>
      rename_i x v xs vs
      simp only [gCn] at e
      cases e1 : g x env with
      | none => rw [e1] at e; cases e
      | some env1 =>
        rw [e1] at e
        refine ⟨_, _, rfl, qa ρ env S σ H x v env1 _ R er r e1 fun σ1 er1 w1 => ?_⟩
        refine qb ρ env1 S σ1 H xs vs env' _ R er1 t e fun σ2 er2 w2 => ?_
        exact h σ2 er2 fun ws hw => by rw [w2 ws fun i hi => hw i (List.mem_append_right _ hi), w1 ws fun i hi => hw i (List.mem_append_left _ hi)]⟩
def gTp (n : Nat) (gs : List PV → Env' → Option Env') : MG := fun v env => match v with | .tup xs => if xs.length = n then gs xs env else none | _ => none
theorem sg_tup {k n : Nat} {gs : List PV → Env' → Option Env'} {sl : List Nat} (hc : X.calm = true) (h : SGs X es gs sl)
    (hn : (assignEach es X.env).length = n := by rfl) (hst : (assignEach es X.env).findIdx? (·.1) = none := by rfl) : SG X (.Tuple es k pos) (gTp n gs) sl :=
  let ⟨_, pa, qa⟩ := h
  ⟨_, pg_tup hc pa hn hst, fun ρ env S σ H v v' env' Q R er r e h => by
    cases r with
    | tup hx ax =>
      simp only [gTp] at e
      split at e
      · rename_i hl
        exact ⟨_, _, rfl, .of hx, by rw [ax.length]; exact hl, qa ρ env S σ H _ _ env' Q R er ax e h⟩
      · cases e
    | non => cases e
    | bl b => cases e
    | int b => cases e
    | str b => cases e
    | loc b => cases e
    | rol _ _ => cases e⟩
def toSO : Option Env' → Ms → SO
  | some env, S => .nx env S
  | none, _ => .fail
abbrev sAsg (g : MG) (m : ME) : MS := sOf m fun v env S => toSO (g v env) S
theorem ss_asg {tg : Expr} {g : MG} {sl : List Nat} (he : SE X W e m) (hg : SG X tg g sl) (hs : swapsWithSole [tg] e pos.line X.env = pure false := by rfl) (hw : swappedStores [tg] e X.env = pure none := by rfl)
    (h1 : (assignEach [tg] X.env).map (·.2) = [assign tg X.env] := by rfl) : SS X W (.Assign [tg] e pos) (sAsg g m) :=
  let ⟨_, pa, qa⟩ := he; let ⟨_, pg, qg⟩ := hg
  ⟨_, ps_asg pa pg hs hw h1, fun ρ env S σ H D R er h => sOf_ok (D := D) qa ρ env S σ H R er (fun ρ' S' H' x x' gg R' e' er' r h => by
    cases q : g x env with
    | none => simp only [q, toSO] at h; exact h.elim
    | some env1 =>
      simp only [q, toSO] at h
      exact qg ρ' env S' σ H' x x' env1 _ R' er' r q fun σ' er'' _ => h _ _ _ (.refl _) R' (.refl _) er'') h⟩
/-- x = e -/
abbrev sSet (i : Nat) (m : ME) : MS := sAsg (gNm i) m
theorem ss_set {i : Nat} {x : Str} {pos' : Pos} (hN : X.N.Nodup) (he : SE X W e m) (hi : X.N[i]? = some x := by rfl) (hx : Loc X.env.scope x := by first | exact .inl rfl | exact .inr rfl) (hs : swapsWith e (some (.Name x pos')) pos.line X.env = pure false := by rfl)
    (hf : X.fn x = true ∨ X.env.scope.names.lookup x = some .local := by first | exact .inl rfl | exact .inr rfl | assumption) : SS X W (.Assign [.Name x pos'] e pos) (sSet i m) :=
  let ⟨_, pa, qa⟩ := he
  ⟨_, ps_set hN hi hx pa hs hf, fun ρ env S σ H D R er h => sOf_ok (D := D) (f := fun v env S => toSO (gNm i v env) S) qa ρ env S σ H R er (fun ρ' S' H' x x' gg R' e' er' r h => h _ _ _ (.refl _) R' (.refl _) (er'.set r i)) h⟩
/-- x, y = a, b -/
def sPar (i j : Nat) (a b : ME) : MS := fun env S => match mCons a (mCons b mNil) env S with
  | .ret [v, w] S1 => .nx ((env.set i (some v)).set j (some w)) S1
  | .exc x S1 => .exc env x S1
  | _ => .fail
theorem ss_par {i j : Nat} {x y : Str} {px py pt : Pos} {kt k2 pt2} (hc : X.calm = true) (hN : X.N.Nodup) (ha : SE X W a m) (hb : SE X W b n) (hi : X.N[i]? = some x := by rfl) (hj : X.N[j]? = some y := by rfl) (hij : i ≠ j := by decide)
    (hx : X.env.scope.names.lookup x = some .local := by rfl) (hy : X.env.scope.names.lookup y = some .local := by rfl)
    (hw : swappedStores [.Tuple [.Name x px, .Name y py] kt pt] (.Tuple [a, b] k2 pt2) X.env = pure (some [x, y]) := by rfl)
    (hs : swapsWithSole [.Tuple [.Name x px, .Name y py] kt pt] (.Tuple [a, b] k2 pt2) pos.line X.env = pure false := by rfl)
    (h1 : starEach [a, b] X.env = (false, eval a X.env) :: starEach [b] X.env := by rfl) (h2 : starEach [b] X.env = (false, eval b X.env) :: starEach [] X.env := by rfl) :
    SS X W (.Assign [.Tuple [.Name x px, .Name y py] kt pt] (.Tuple [a, b] k2 pt2) pos) (sPar i j m n) :=
  let ⟨_, pa, qa⟩ := sa_cons ha (sa_cons hb sa_nil h2) h1
  ⟨_, ps_par hc hN hi hj hij hx hy pa hw hs, fun ρ env S σ H D R er h => by
    refine qa ρ env S σ H _ R er ?_
    unfold sPar at h
    split at h
    · rename_i v w S1 e
      rw [e]
      intro ρ1 vs H1 g1 R1 e1 r1
      obtain ⟨v', w', rfl, r1, r2⟩ := vrs2 r1
      exact ⟨v', w', rfl, h ρ1 _ H1 g1 R1 e1 (((er.mono e1 g1).set r1 i).set r2 j)⟩
    · rename_i e; rw [e]; exact fun ρ' C d H' g R' e' hc xr => h ρ' σ C d H' g R' e' (er.mono e' g) hc xr
    · exact h.elim⟩
/-- x op= e -/
def sAug (i : Nat) (f : PV → PV → Ms → Out PV) (m : ME) : MS := fun env S => match env[i]? with
  | some (some x) => (match (m env S).bind (fun y S1 => f x y S1) with | .ret v S1 => .nx (env.set i (some v)) S1 | .exc x S1 => .exc env x S1 | .fail => .fail)
  | _ => .fail
theorem ss_aug {i : Nat} {x : Str} {op : Operator} {pos' : Pos} {f : PV → PV → Ms → Out PV} {r : V → V → Hp → VK → Prop} (hN : X.N.Nodup) (ho : OpR X (inplaceOp op) r) (hf : O2 X W f r) (he : SE X W e m) (hi : X.N[i]? = some x := by rfl) (hx : Loc X.env.scope x := by first | exact .inl rfl | exact .inr rfl)
    (hfn : X.fn x = true ∨ X.env.scope.names.lookup x = some .local := by first | exact .inl rfl | exact .inr rfl | assumption) : SS X W (.AugAssign (.Name x pos') op e pos) (sAug i f m) :=
  let ⟨_, pa, qa⟩ := he
  ⟨_, ps_aug hN hi hx pa (ti := r) (fun pins s σ H x y v u Q I rx ry q => ho pins s σ H x y v u Q I rx ry q) hfn, fun ρ env S σ H D R er h => by
    unfold sAug at h
    split at h
    · rename_i x ex
      obtain ⟨x', h1, h2⟩ := er.get ex
      refine ⟨x', h1, ?_⟩
      refine qa ρ env S σ H _ R er ?_
      cases e : m env S with
      | fail => simp only [e, Out.bind] at h; exact h.elim
      | exc x S => simp only [e, Out.bind] at h; exact fun ρ' C d H' g R' e' hc xr => h ρ' σ C d H' g R' e' (er.mono e' g) hc xr
      | ret y S1 =>
        simp only [e, Out.bind] at h
        intro ρ1 y' H1 g1 R1 e1 r1
        have h := PostS.mono g1 e1 h
        refine hf ρ1 S1 H1 σ _ x y x' y' R1 (h2.mono e1 g1) r1 ?_
        cases e : f x y S1 with
        | fail => simp only [e] at h; exact h.elim
        | exc x S => simp only [e] at h; exact fun ρ' C d H' g R' e' hc xr => h ρ' σ C d H' g R' e' ((er.mono e1 g1).mono e' g) hc xr
        | ret z S2 =>
          simp only [e] at h
          exact fun ρ2 z' H2 g2 R2 e2 r2 => h ρ2 _ H2 g2 R2 e2 (((er.mono e1 g1).mono e2 g2).set r2 i)
    · exact h.elim⟩
/-- o[i] = e: of a list, of a dict -/
def oPut (o i v : PV) (S : Ms) : Option Ms := match o with
  | .loc n => (match S[n]? with
    | some (.lst xs) => (match i with | .int k => (ixN xs.length k).map fun j => S.set n (.lst (xs.set j v)) | _ => none)
    | some (.dK kvs) => if kvs.length < lim then (keyP i).map fun k => S.set n (.dK (putP kvs k v)) else none
    | some (.dT kvs) => if kvs.length < lim then (keysP i).map fun k => S.set n (.dT (putP kvs k v)) else none
    | _ => none)
  | _ => none
def sPut (m n k : ME) : MS := fun env S => match k env S with
  | .ret v S1 => (match m env S1 with
    | .ret o S2 => (match n env S2 with
      | .ret i S3 => (match oPut o i v S3 with | some S4 => .nx env S4 | none => .fail)
      | .exc x S' => .exc env x S'
      | .fail => .fail)
    | .exc x S' => .exc env x S'
    | .fail => .fail)
  | .exc x S' => .exc env x S'
  | .fail => .fail
theorem ps_or2 {t1 t2 : TS} (h : PS X st t1) (h' : PS X st t2) : PS X st (fun D σ H => t1 D σ H ∨ t2 D σ H) := ⟨fun pins s σ H D I z => z.elim (h.run pins s σ H D I) (h'.run pins s σ H D I)⟩
def isLst (S : Ms) : PV → Bool
  | .loc n => match S[n]? with | some (.lst _) => true | _ => false
  | _ => false
theorem ss_put {pos' : Pos} (hu : X.A.units + 1 < cLine) (ha : SE X W a m) (hb : SE X W b n) (hc : SE X W c k)
    (hs : swapsWithSole [.Subscript a b pos'] c pos.line X.env = pure false := by rfl) (hw : swappedStores [.Subscript a b pos'] c X.env = pure none := by rfl)
    (h1 : (assignEach [.Subscript a b pos'] X.env).map (·.2) = [assign (.Subscript a b pos') X.env] := by rfl)
    (hsu : ∀ v, assign (.Subscript a b pos') X.env v = (do
      let ov ← holding [v] (eval a X.env)
      let iv ← holding [v, ov] (eval b X.env)
      standAt pos'
      holding [v, ov, iv] (setItem ov iv v)
      release [v, ov, iv] []) := by intro _; rfl)
    (hsw : swapsWith c (some (.Subscript a b pos')) pos.line X.env = pure false := by rfl) : SS X W (.Assign [.Subscript a b pos'] c pos) (sPut m n k) :=
  let ⟨ta, pa, qa⟩ := ha; let ⟨tb, pb, qb⟩ := hb; let ⟨tc, pc, qc⟩ := hc
  ⟨_, ps_or2 (ps_asg pc (pg_sub pa pb set_list hsu) hs hw h1) (ps_dput hu pa pb pc hsw), fun ρ env S σ H D R er h => by
    have gen : ∀ (kk : V → V → V → Hp → Prop), (∀ ρ' S' H' o i v o' i' v', HR X.K X.mg ρ' S' H' → Grow ρ ρ' → Ext H H' → ER X.K H' ρ' env σ → VR X.K H' ρ' o o' → VR X.K H' ρ' i i' → VR X.K H' ρ' v v' →
        (∃ S1 S2, k env S = .ret v S1 ∧ m env S1 = .ret o S2 ∧ n env S2 = .ret i S') →
        PostS X.K X.mg ρ' H' W D (match oPut o i v S' with | some S4 => SO.nx env S4 | none => .fail) → kk v' o' i' H') → tc σ H (fun v H1 => ta σ H1 fun o H2 => tb σ H2 fun i H3 => kk v o i H3) := fun kk hk => by
      refine qc ρ env S σ H _ R er ?_
      unfold sPut at h
      cases e : k env S with
      | fail => simp only [e] at h; exact h.elim
      | exc x S => simp only [e] at h; exact fun ρ' C d H' g R' e' hc xr => h ρ' σ C d H' g R' e' (er.mono e' g) hc xr
      | ret v S1 =>
        simp only [e] at h
        intro ρ1 v' H1 g1 R1 e1 r1
        have h := PostS.mono g1 e1 h
        have er1 := er.mono e1 g1
        refine qa ρ1 env S1 σ H1 _ R1 er1 ?_
        cases ee : m env S1 with
        | fail => simp only [ee] at h; exact h.elim
        | exc x S => simp only [ee] at h; exact fun ρ' C d H' g R' e' hc xr => h ρ' σ C d H' g R' e' (er1.mono e' g) hc xr
        | ret o S2 =>
          simp only [ee] at h
          intro ρ2 o' H2 g2 R2 e2 r2
          have h := PostS.mono g2 e2 h
          have er2 := er1.mono e2 g2
          refine qb ρ2 env S2 σ H2 _ R2 er2 ?_
          cases eee : n env S2 with
          | fail => simp only [eee] at h; exact h.elim
          | exc x S => simp only [eee] at h; exact fun ρ' C d H' g R' e' hc xr => h ρ' σ C d H' g R' e' (er2.mono e' g) hc xr
          | ret i S3 =>
            simp only [eee] at h
            intro ρ3 i' H3 g3 R3 e3 r3
            exact hk ρ3 S3 H3 o i v o' i' v' R3 ((g1.trans g2).trans g3) ((e1.trans e2).trans e3) (er2.mono e3 g3) (r2.mono e3 g3) r3 ((r1.mono e2 g2).mono e3 g3) ⟨S1, S2, e, ee, eee⟩ (PostS.mono g3 e3 h)
    by_cases hl : ∃ v S1 o S2 i S3, k env S = .ret v S1 ∧ m env S1 = .ret o S2 ∧ n env S2 = .ret i S3 ∧ isLst S3 o = true
    · obtain ⟨v0, S1, o0, S2, i0, S3, q1, q2, q3, q4⟩ := hl
      refine .inl (gen (fun v o i H' => rSetL o i v H' fun H3 => D.nx σ H3) fun ρ' S' H' o i v o' i' v' R' g e er' ro ri rv ⟨T1, T2, z1, z2, z3⟩ hp => ?_)
      rw [q1] at z1; cases z1
      rw [q2] at z2; cases z2
      rw [q3] at z3; cases z3
      cases ro with
      | loc en =>
        simp only [isLst] at q4
        simp only [oPut] at hp
        split at hp
        · rename_i S4 q
          split at q
          · rename_i xs qq
            obtain ⟨vs, h1, h2⟩ := R'.lst en qq
            split at q
            · rename_i kk _
              cases ri
              cases ej : ixN xs.length kk with
              | none => rw [ej] at q; cases q
              | some j =>
                rw [ej] at q; cases q
                exact ⟨_, vs, kk, j, rfl, rfl, h1, by rw [h2.length]; exact ej, hp _ _ _ (.refl _) (R'.put en h1 soft_lst (.lst (h2.set rv j))) (.put h1 soft_lst) (er'.mono (.put h1 soft_lst) (.refl _))⟩
            · cases q
          · rename_i qq; rw [qq] at q4; cases q4
          · rename_i qq; rw [qq] at q4; cases q4
          · cases q
        · exact hp.elim
      | non => cases q4
      | bl b => cases q4
      | int b => cases q4
      | str b => cases q4
      | tup _ _ => cases q4
      | rol _ _ => cases q4
    · refine .inr (gen (fun v o i H' => ∃ a H4, o = .ref a ∧ DPut H' a i v H4 ∧ D.nx σ H4) fun ρ' S' H' o i v o' i' v' R' g e er' ro ri rv ⟨T1, T2, z1, z2, z3⟩ hp => ?_)
      cases ro with
      | loc en =>
        simp only [oPut] at hp
        split at hp
        · rename_i S4 q
          split at q
          · rename_i xs qq
            exact absurd ⟨v, T1, _, T2, i, S', z1, z2, z3, by simp only [isLst, qq]⟩ hl
          · rename_i kvs qq
            obtain ⟨vs, h1, h2⟩ := R'.dK en qq
            split at q
            · rename_i hlim
              cases ek : keyP i with
              | none => rw [ek] at q; cases q
              | some kk =>
                rw [ek] at q; cases q
                refine ⟨_, _, rfl, .inl ⟨vs, kk, h1, key_ok ri ek, by rw [kvr_len h2]; exact Nat.lt_of_lt_of_le hlim (by decide), rfl⟩, ?_⟩
                exact hp _ _ _ (.refl _) (R'.put en h1 soft_dK (.dK (put_ok rv h2))) (.put h1 soft_dK) (er'.mono (.put h1 soft_dK) (.refl _))
            · cases q
          · rename_i kvs qq
            obtain ⟨vs, h1, h2⟩ := R'.dT en qq
            split at q
            · rename_i hlim
              cases ri with
              | tup ht at_ =>
                simp only [keysP] at q
                cases ek : keysL _ with
                | none => rw [ek] at q; cases q
                | some kk =>
                  rw [ek] at q; cases q
                  have e1 := keysL_ok at_ ek
                  subst e1
                  refine ⟨_, _, rfl, .inr ⟨vs, kk, _, h1, rfl, ht, by rw [kvr_len h2]; exact Nat.lt_of_lt_of_le hlim (by decide), rfl⟩, ?_⟩
                  exact hp _ _ _ (.refl _) (R'.put en h1 soft_dT (.dT (put_ok rv h2))) (.put h1 soft_dT) (er'.mono (.put h1 soft_dT) (.refl _))
              | non => cases q
              | bl b => cases q
              | int b => cases q
              | str b => cases q
              | loc b => cases q
              | rol _ _ => cases q
            · cases q
          · cases q
        · exact hp.elim
      | non => exact hp.elim
      | bl b => exact hp.elim
      | int b => exact hp.elim
      | str b => exact hp.elim
      | tup _ _ => exact hp.elim
      | rol _ _ => exact hp.elim⟩
end
end MP

set_option maxRecDepth 100000
namespace MP
open PySem PySem.Spec PyProof.Rows L2

/-! ### what is walked -/
inductive Src where
  | lst (n : Nat) | fix (xs : List PV) | tup (xs : List PV) | rng (lo : Int) (n : Nat) | zipL (n m : Nat) | zipT (xs ys : List PV) | enm (n : Nat) | rngC (lo c : Int) (n : Nat) | chr (x : Str) | rev (n : Nat) (k : Nat) | ezL (n m : Nat)
inductive Nx where
  | stop | yld (v : PV) | bad
def rdL (S : Ms) (n : Nat) : Option (List PV) := match S[n]? with | some (.lst xs) => some xs | _ => none
def nxt (S : Ms) (i : Nat) : Src → Nx
  | .lst n => match rdL S n with
    | some xs => (match xs[i]? with | some v => .yld v | none => .stop)
    | none => .bad
  | .tup xs => (match xs[i]? with | some v => .yld v | none => .stop)
  | .fix xs => (match xs[i]? with | some v => .yld v | none => .stop)
  | .rng lo n => if i < n then .yld (.int (lo + i)) else .stop
  | .rngC lo c n => if i < n then .yld (.int (lo + i * c)) else .stop
  | .zipL n m => match rdL S n, rdL S m with
    | some xs, some ys => (match xs[i]?, ys[i]? with | some v, some w => .yld (.tup [v, w]) | _, _ => .stop)
    | _, _ => .bad
  | .zipT xs ys => (match xs[i]?, ys[i]? with | some v, some w => .yld (.tup [v, w]) | _, _ => .stop)
  | .enm n => match rdL S n with
    | some xs => (match xs[i]? with | some v => .yld (.tup [.int i, v]) | none => .stop)
    | none => .bad
  | .chr x => (match x.cps[i]? with | some c => .yld (.str ⟨#[c]⟩) | none => .stop)
  | .ezL n m => match rdL S n, rdL S m with
    | some xs, some ys => (match xs[i]?, ys[i]? with | some v, some w => .yld (.tup [.int i, .tup [v, w]]) | _, _ => .stop)
    | _, _ => .bad
  | .rev n k => match rdL S n with
    | some xs => if i < k then (match xs[k - 1 - i]? with | some v => .yld v | none => .bad) else .stop
    | none => .bad
section
variable {X : Cx} {W : WX} {a b c e o tg : Expr} {es rest : List Expr} {pos : Pos} {m n k : ME} {ml : ML} {t u : MB} {st : Stmt} {sts : List Stmt} {p q : MS}
/-- an iterator of the layer serves a source -/
def JR (X : Cx) (ρ0 : List Addr) (H0 : Hp) (src : Src) (J : It) : Prop := ∀ ρ S H i, Grow ρ0 ρ → Ext H0 H → HR X.K X.mg ρ S H →
  (nxt S i src = .stop → J.stop i H) ∧ ∀ v, nxt S i src = .yld v → J.go i H ∧ ∀ x H', J.yld i H x H' → HR X.K X.mg ρ S H' ∧ Ext H H' ∧ VR X.K H' ρ v x
abbrev MI := Env' → Ms → Out Src
def PostI (X : Cx) (ρ : List Addr) (H : Hp) (σ : L2.St) (W : WX) (R : It → Hp → Prop) : Out Src → Prop
  | .ret src S' => ∀ ρ' H' J, Grow ρ ρ' → HR X.K X.mg ρ' S' H' → Ext H H' → JR X ρ' H' src J → R J H'
  | .exc x S' => ∀ ρ' C d H', Grow ρ ρ' → HR X.K X.mg ρ' S' H' → Ext H H' → X.mg x.cls = some (.ref C) → XR X.K H' ρ' x.fs d → W (.ref C) d σ H'
  | .fail => False
def SI (X : Cx) (W : WX) (tg it : Expr) (m : MI) : Prop := ∃ t, PI X tg it t ∧ ∀ ρ env S σ H R, HR X.K X.mg ρ S H → ER X.K H ρ env σ → PostI X ρ H σ W R (m env S) → t σ H R
theorem rdL_ok {ρ : List Addr} {S : Ms} {H : Hp} {nn : Nat} {aa : Addr} {xs : List PV} (R : HR X.K X.mg ρ S H) (e : ρ[nn]? = some aa) (h : rdL S nn = some xs) : ∃ vs, SqL X.K H aa vs ∧ VRs X.K H ρ xs vs := by
  unfold rdL at h
  split at h
  · rename_i qq; cases h; obtain ⟨vs, h1, h2⟩ := R.lst e qq; exact ⟨vs, .of h1, h2⟩
  · cases h
theorem vrs_none {K : PySem.W.Frag} {H : Hp} {ρ : List Addr} {xs : List PV} {vs : List V} {i : Nat} (h : VRs K H ρ xs vs) (e : xs[i]? = none) : vs.length ≤ i := by
  rw [h.length]; exact List.getElem?_eq_none_iff.mp e
theorem jr_lst {ρ0 : List Addr} {H0 : Hp} {nn : Nat} {aa : Addr} (e : ρ0[nn]? = some aa) : JR X ρ0 H0 (.lst nn) (Itl X.K aa) := by
  intro ρ S H i g ex R
  simp only [nxt]
  cases q : rdL S nn with
  | none => exact ⟨(fun z => by cases z), (fun v z => by cases z)⟩
  | some xs =>
    obtain ⟨vs, h1, h2⟩ := rdL_ok R (g _ _ e) q
    simp only []
    cases q2 : xs[i]? with
    | none => exact ⟨fun _ => ⟨vs, h1, vrs_none h2 q2⟩, (fun v z => by cases z)⟩
    | some v =>
      obtain ⟨v', e1, r1⟩ := h2.get q2
      refine ⟨(fun z => by cases z), fun w z => ?_⟩
      cases z
      refine ⟨⟨vs, v', h1, e1⟩, fun x H' y => ?_⟩
      obtain ⟨rfl, y⟩ := y
      have := y vs h1
      rw [e1] at this; cases this
      exact ⟨R, .refl _, r1⟩
theorem jr_tup {ρ0 : List Addr} {H0 : Hp} {xs : List PV} {vs : List V} {aa : Addr} (e : H0 aa = some (.tup vs)) (r : VRs X.K H0 ρ0 xs vs) : JR X ρ0 H0 (.tup xs) (Itt X.K aa) := by
  intro ρ S H i g ex R
  have h1 : SqT X.K H aa vs := .of ((ex aa).1 _ e)
  have h2 := r.mono ex g
  simp only [nxt]
  cases q2 : xs[i]? with
  | none => exact ⟨fun _ => ⟨vs, h1, vrs_none h2 q2⟩, (fun v z => by cases z)⟩
  | some v =>
    obtain ⟨v', e1, r1⟩ := h2.get q2
    refine ⟨(fun z => by cases z), fun w z => ?_⟩
    cases z
    refine ⟨⟨vs, v', h1, e1⟩, fun x H' y => ?_⟩
    obtain ⟨rfl, y⟩ := y
    have := y vs h1
    rw [e1] at this; cases this
    exact ⟨R, .refl _, r1⟩
theorem jr_fix {ρ0 : List Addr} {H0 : Hp} {xs : List PV} {vs : List V} {aa : Addr} (e : RoL X.K H0 aa vs) (r : VRs X.K H0 ρ0 xs vs) : JR X ρ0 H0 (.fix xs) (Itl X.K aa) := by
  intro ρ S H i g ex R
  have h1 : SqL X.K H aa vs := (ex.roL e).sq
  have h2 := r.mono ex g
  simp only [nxt]
  cases q2 : xs[i]? with
  | none => exact ⟨fun _ => ⟨vs, h1, vrs_none h2 q2⟩, (fun v z => by cases z)⟩
  | some v =>
    obtain ⟨v', e1, r1⟩ := h2.get q2
    refine ⟨(fun z => by cases z), fun w z => ?_⟩
    cases z
    refine ⟨⟨vs, v', h1, e1⟩, fun x H' y => ?_⟩
    obtain ⟨rfl, y⟩ := y
    have := y vs h1
    rw [e1] at this; cases this
    exact ⟨R, .refl _, r1⟩
theorem jr_rng {ρ0 : List Addr} {H0 : Hp} {lo : Int} {nn : Nat} : JR X ρ0 H0 (.rng lo nn) (Itr lo nn) := by
  intro ρ S H i g ex R
  simp only [nxt]
  by_cases h : i < nn
  · rw [if_pos h]
    refine ⟨(fun z => by cases z), fun w z => ?_⟩
    cases z
    refine ⟨h, fun x H' y => ?_⟩
    obtain ⟨rfl, rfl⟩ := y
    exact ⟨R, .refl _, .int _⟩
  · rw [if_neg h]
    exact ⟨fun _ => Nat.le_of_not_lt h, (fun v z => by cases z)⟩
theorem jr_rngC {ρ0 : List Addr} {H0 : Hp} {lo c : Int} {nn : Nat} : JR X ρ0 H0 (.rngC lo c nn) (Itc lo c nn) := by
  intro ρ S H i g ex R
  simp only [nxt]
  by_cases h : i < nn
  · rw [if_pos h]
    refine ⟨(fun z => by cases z), fun w z => ?_⟩
    cases z
    refine ⟨h, fun x H' y => ?_⟩
    obtain ⟨rfl, rfl⟩ := y
    exact ⟨R, .refl _, .int _⟩
  · rw [if_neg h]
    exact ⟨fun _ => Nat.le_of_not_lt h, (fun v z => by cases z)⟩
theorem jr_chr {ρ0 : List Addr} {H0 : Hp} {x : Str} : JR X ρ0 H0 (.chr x) (Its x) := by
  intro ρ S H i g ex R
  simp only [nxt]
  cases q : x.cps[i]? with
  | none => exact ⟨fun _ => by
      show x.cps.size ≤ i
      exact Array.getElem?_eq_none_iff.mp q, (fun v z => by cases z)⟩
  | some c =>
    refine ⟨(fun z => by cases z), fun w z => ?_⟩
    cases z
    refine ⟨(Array.getElem?_eq_some_iff.mp q).1, fun y H' z => ?_⟩
    obtain ⟨rfl, c', e, rfl⟩ := z
    rw [q] at e; cases e
    exact ⟨R, .refl _, .str _⟩
theorem pair_ok {ρ : List Addr} {S : Ms} {H : Hp} {T : Addr} {v w : PV} {v' w' : V} (R : HR X.K X.mg ρ S H) (hT : H T = none) (r1 : VR X.K H ρ v v') (r2 : VR X.K H ρ w w') :
    HR X.K X.mg ρ S (upd H T (.tup [v', w'])) ∧ Ext H (upd H T (.tup [v', w'])) ∧ VR X.K (upd H T (.tup [v', w'])) ρ (.tup [v, w]) (.ref T) :=
  ⟨R.newTup hT, .new hT, .tup upd_same (.cons (r1.mono (.new hT) (.refl _)) (.cons (r2.mono (.new hT) (.refl _)) .nil))⟩
theorem jr_zipL {ρ0 : List Addr} {H0 : Hp} {nn mm : Nat} {aa bb : Addr} (e : ρ0[nn]? = some aa) (e' : ρ0[mm]? = some bb) : JR X ρ0 H0 (.zipL nn mm) (Itz X.K aa bb) := by
  intro ρ S H i g ex R
  simp only [nxt]
  cases q : rdL S nn with
  | none => exact ⟨(fun z => by cases z), (fun v z => by cases z)⟩
  | some xs =>
    cases q' : rdL S mm with
    | none => exact ⟨(fun z => by cases z), (fun v z => by cases z)⟩
    | some ys =>
      obtain ⟨vs, h1, h2⟩ := rdL_ok R (g _ _ e) q
      obtain ⟨ws, h3, h4⟩ := rdL_ok R (g _ _ e') q'
      simp only []
      cases q2 : xs[i]? with
      | none => exact ⟨fun _ => ⟨vs, ws, h1, h3, .inl (vrs_none h2 q2)⟩, (fun v z => by cases z)⟩
      | some v =>
        cases q3 : ys[i]? with
        | none => exact ⟨fun _ => ⟨vs, ws, h1, h3, .inr (vrs_none h4 q3)⟩, (fun v z => by cases z)⟩
        | some w =>
          obtain ⟨v', e1, r1⟩ := h2.get q2
          obtain ⟨w', e2, r2⟩ := h4.get q3
          refine ⟨(fun z => by cases z), fun u z => ?_⟩
          cases z
          refine ⟨⟨vs, ws, v', w', h1, h3, e1, e2⟩, fun x H' y => ?_⟩
          obtain ⟨T, x, y, rfl, hT, rfl, y1, y2⟩ := y
          have z1 := y1 vs h1
          rw [e1] at z1; cases z1
          have z2 := y2 ws h3
          rw [e2] at z2; cases z2
          exact pair_ok R hT r1 r2
theorem jr_zipT {ρ0 : List Addr} {H0 : Hp} {xs ys : List PV} {vs ws : List V} {aa bb : Addr} (e : H0 aa = some (.tup vs)) (r : VRs X.K H0 ρ0 xs vs) (e' : H0 bb = some (.tup ws)) (r' : VRs X.K H0 ρ0 ys ws) : JR X ρ0 H0 (.zipT xs ys) (RZ.ItzT X.K aa bb) := by
  intro ρ S H i g ex R
  have h1 : SqT X.K H aa vs := .of ((ex aa).1 _ e)
  have h2 := r.mono ex g
  have h3 : SqT X.K H bb ws := .of ((ex bb).1 _ e')
  have h4 := r'.mono ex g
  simp only [nxt]
  cases q2 : xs[i]? with
  | none => exact ⟨fun _ => ⟨vs, ws, h1, h3, .inl (vrs_none h2 q2)⟩, (fun v z => by cases z)⟩
  | some v =>
    cases q3 : ys[i]? with
    | none => exact ⟨fun _ => ⟨vs, ws, h1, h3, .inr (vrs_none h4 q3)⟩, (fun v z => by cases z)⟩
    | some w =>
      obtain ⟨v', e1, r1⟩ := h2.get q2
      obtain ⟨w', e2, r2⟩ := h4.get q3
      refine ⟨(fun z => by cases z), fun u z => ?_⟩
      cases z
      refine ⟨⟨vs, ws, v', w', h1, h3, e1, e2⟩, fun x H' y => ?_⟩
      obtain ⟨T, x, y, rfl, hT, rfl, y1, y2⟩ := y
      have z1 := y1 vs h1
      rw [e1] at z1; cases z1
      have z2 := y2 ws h3
      rw [e2] at z2; cases z2
      exact pair_ok R hT r1 r2
theorem jr_enm {ρ0 : List Addr} {H0 : Hp} {nn : Nat} {aa : Addr} (e : ρ0[nn]? = some aa) : JR X ρ0 H0 (.enm nn) (Ite X.K aa) := by
  intro ρ S H i g ex R
  simp only [nxt]
  cases q : rdL S nn with
  | none => exact ⟨(fun z => by cases z), (fun v z => by cases z)⟩
  | some xs =>
    obtain ⟨vs, h1, h2⟩ := rdL_ok R (g _ _ e) q
    simp only []
    cases q2 : xs[i]? with
    | none => exact ⟨fun _ => ⟨vs, h1, vrs_none h2 q2⟩, (fun v z => by cases z)⟩
    | some v =>
      obtain ⟨v', e1, r1⟩ := h2.get q2
      refine ⟨(fun z => by cases z), fun w z => ?_⟩
      cases z
      refine ⟨⟨vs, v', h1, e1⟩, fun x H' y => ?_⟩
      obtain ⟨T, x, rfl, hT, rfl, y⟩ := y
      have := y vs h1
      rw [e1] at this; cases this
      exact pair_ok R hT (.int _) r1
theorem jr_rev {ρ0 : List Addr} {H0 : Hp} {nn kk : Nat} {aa : Addr} (e : ρ0[nn]? = some aa) : JR X ρ0 H0 (.rev nn kk) (Itv X.K aa kk) := by
  intro ρ S H i g ex R
  simp only [nxt]
  cases q : rdL S nn with
  | none => exact ⟨(fun z => by cases z), (fun v z => by cases z)⟩
  | some xs =>
    obtain ⟨vs, h1, h2⟩ := rdL_ok R (g _ _ e) q
    simp only []
    by_cases h : i < kk
    · rw [if_pos h]
      cases q2 : xs[kk - 1 - i]? with
      | none => exact ⟨(fun z => by cases z), (fun v z => by cases z)⟩
      | some v =>
        obtain ⟨v', e1, r1⟩ := h2.get q2
        refine ⟨(fun z => by cases z), fun w z => ?_⟩
        cases z
        refine ⟨⟨h, vs, v', h1, e1⟩, fun x H' y => ?_⟩
        obtain ⟨rfl, y⟩ := y
        have := y vs h1
        rw [e1] at this; cases this
        exact ⟨R, .refl _, r1⟩
    · rw [if_neg h]
      exact ⟨fun _ => Nat.le_of_not_lt h, (fun v z => by cases z)⟩

/-! ### the sources of a for -/
def srcOf (S : Ms) : PV → Option Src
  | .tup xs => some (.tup xs)
  | .rol xs => some (.fix xs)
  | .str x => some (.chr x)
  | .loc n => (rdL S n).map fun _ => .lst n
  | _ => none
def iOf (m : ME) : MI := fun env S => match m env S with | .ret v S1 => (match srcOf S1 v with | some s => .ret s S1 | none => .fail) | .exc x S1 => .exc x S1 | .fail => .fail
theorem pi_or {t1 t2 : TI} (h : PI X tg e t1) (h' : PI X tg e t2) : PI X tg e (fun σ H R => t1 σ H R ∨ t2 σ H R) := ⟨fun pins s σ H R I z => z.elim (h.run pins s σ H R I) (h'.run pins s σ H R I)⟩
theorem si_of (h : SE X W e m) : SI X W tg e (iOf m) :=
  let ⟨ta, pa, qa⟩ := h
  ⟨_, pi_or (pi_list pa) (pi_or (pi_tup pa) (pi_str pa)), fun ρ env S σ H R R0 er h => by
    unfold iOf at h
    cases e : m env S with
    | fail => simp only [e] at h; exact h.elim
    | exc x S1 => simp only [e] at h; exact .inl (qa ρ env S σ H _ R0 er (by rw [e]; exact h))
    | ret v S1 =>
      simp only [e] at h
      cases v with
      | tup xs =>
        simp only [srcOf] at h
        refine .inr (.inl (qa ρ env S σ H _ R0 er ?_))
        rw [e]
        intro ρ1 x' H1 g1 R1 e1 r1
        cases r1 with
        | tup hx ax => exact ⟨_, rfl, ⟨_, .of hx⟩, h ρ1 H1 _ g1 R1 e1 (jr_tup hx ax)⟩
      | str x =>
        simp only [srcOf] at h
        refine .inr (.inr (qa ρ env S σ H _ R0 er ?_))
        rw [e]
        intro ρ1 x' H1 g1 R1 e1 r1
        cases r1
        exact ⟨_, rfl, h ρ1 H1 _ g1 R1 e1 jr_chr⟩
      | loc n =>
        simp only [srcOf] at h
        cases q : rdL S1 n with
        | none => rw [q] at h; exact h.elim
        | some xs =>
          rw [q] at h
          refine .inl (qa ρ env S σ H _ R0 er ?_)
          rw [e]
          intro ρ1 x' H1 g1 R1 e1 r1
          cases r1 with
          | loc en =>
            obtain ⟨vs, h1, h2⟩ := rdL_ok R1 en q
            exact ⟨_, rfl, ⟨_, h1⟩, h ρ1 H1 _ g1 R1 e1 (jr_lst en)⟩
      | rol xs =>
        simp only [srcOf] at h
        refine .inl (qa ρ env S σ H _ R0 er ?_)
        rw [e]
        intro ρ1 x' H1 g1 R1 e1 r1
        cases r1 with
        | rol hx ax => exact ⟨_, rfl, ⟨_, hx.sq⟩, h ρ1 H1 _ g1 R1 e1 (jr_fix hx ax)⟩
      | non => exact h.elim
      | bl b => exact h.elim
      | int i => exact h.elim⟩
def big62 (i : Int) : Bool := decide (-(2 ^ 62) ≤ i ∧ i < 2 ^ 62)
def rng1 : List PV → Option Src
  | [.int j] => if big62 j then some (.rng 0 j.toNat) else none
  | _ => none
def rng2 : List PV → Option Src
  | [.int i, .int j] => if big62 i && big62 j then some (.rng i (j - i).toNat) else none
  | _ => none
def rng3 : List PV → Option Src
  | [.int i, .int j, .int (-1)] => if big62 i && big62 j then some (.rngC i (-1) (i - j).toNat) else none
  | _ => none
def iRg (f : List PV → Option Src) (l : ML) : MI := fun env S => match l env S with | .ret vs S1 => (match f vs with | some s => .ret s S1 | none => .fail) | .exc x S1 => .exc x S1 | .fail => .fail
theorem iRg_ok {f : List PV → Option Src} {ta : TA} {kk : List V → Hp → Prop} {R : It → Hp → Prop}
    (qa : ∀ ρ env S σ H Q, HR X.K X.mg ρ S H → ER X.K H ρ env σ → PostL X.K X.mg ρ H σ W Q (ml env S) → ta σ H Q)
    (ρ env S σ H) (R0 : HR X.K X.mg ρ S H) (er : ER X.K H ρ env σ) (h : PostI X ρ H σ W R (iRg f ml env S))
    (hk : ∀ vs vs' s ρ' S' H', Grow ρ ρ' → HR X.K X.mg ρ' S' H' → Ext H H' → VRs X.K H' ρ' vs vs' → f vs = some s → (∀ J, JR X ρ' H' s J → R J H') → kk vs' H') : ta σ H kk := by
  unfold iRg at h
  refine qa ρ env S σ H _ R0 er ?_
  cases e : ml env S with
  | fail => simp only [e] at h; exact h.elim
  | exc x S1 => simp only [e] at h; exact h
  | ret v S1 =>
    simp only [e] at h
    cases q : f v with
    | none => simp only [q] at h; exact h.elim
    | some s => simp only [q] at h; exact fun ρ1 v' H1 g1 R1 e1 r1 => hk v v' s ρ1 S1 H1 g1 R1 e1 r1 q fun J j => h ρ1 H1 J g1 R1 e1 j
theorem big_ok {i : Int} (h : big62 i = true) : -(2 ^ 62) ≤ i ∧ i < 2 ^ 62 := of_decide_eq_true h
theorem si_range1 {p : Pos} (hm : X.mg "range" = none) (ha : SA X W [a] ml) (hg : Gl X "range" := by rfl) (hs : starEach [a] X.env = [(false, eval a X.env)] := by rfl) : SI X W tg (.Call (.Name "range" p) [a] [] pos) (iRg rng1 ml) :=
  let ⟨ta, pa, qa⟩ := ha
  ⟨_, pi_range1 hg hm pa hs, fun ρ env S σ H R R0 er h => by
    refine iRg_ok qa ρ env S σ H R0 er h fun vs vs' s ρ' S' H' g R' e' r q hJ => ?_
    unfold rng1 at q
    split at q
    · split at q
      · rename_i hb
        cases q
        obtain ⟨w, rfl, rw⟩ := vrs1 r
        cases rw
        exact ⟨_, rfl, (big_ok hb).1, (big_ok hb).2, hJ _ jr_rng⟩
      · cases q
    · cases q⟩
theorem si_range2 {p : Pos} (hm : X.mg "range" = none) (ha : SA X W [a, b] ml) (hg : Gl X "range" := by rfl) (hs : starEach [a, b] X.env = [(false, eval a X.env), (false, eval b X.env)] := by rfl) (hs2 : starEach [b] X.env = [(false, eval b X.env)] := by rfl) :
    SI X W tg (.Call (.Name "range" p) [a, b] [] pos) (iRg rng2 ml) :=
  let ⟨ta, pa, qa⟩ := ha
  ⟨_, pi_range2 hg hm pa hs hs2, fun ρ env S σ H R R0 er h => by
    refine iRg_ok qa ρ env S σ H R0 er h fun vs vs' s ρ' S' H' g R' e' r q hJ => ?_
    unfold rng2 at q
    split at q
    · split at q
      · rename_i hb
        cases q
        rw [Bool.and_eq_true] at hb
        obtain ⟨w, z, rfl, rw, rz⟩ := vrs2 r
        cases rw; cases rz
        exact ⟨_, _, rfl, ⟨(big_ok hb.1).1, (big_ok hb.1).2, (big_ok hb.2).1, (big_ok hb.2).2⟩, hJ _ jr_rng⟩
      · cases q
    · cases q⟩
theorem vrs3 {K : PySem.W.Frag} {H : Hp} {ρ : List Addr} {x y z : PV} {vs : List V} (h : VRs K H ρ [x, y, z] vs) : ∃ u v w, vs = [u, v, w] ∧ VR K H ρ x u ∧ VR K H ρ y v ∧ VR K H ρ z w := by
  cases h with | cons h t => obtain ⟨v, w, rfl, a, b⟩ := vrs2 t; exact ⟨_, _, _, rfl, h, a, b⟩
theorem si_range3 {p : Pos} (hm : X.mg "range" = none) (ha : SA X W [a, b, c] ml) (hg : Gl X "range" := by rfl) (hs : starEach [a, b, c] X.env = (false, eval a X.env) :: starEach [b, c] X.env := by rfl) (hpl : (backTo pos (starEach [b, c] X.env)).any (·.1) = false := by rfl) :
    SI X W tg (.Call (.Name "range" p) [a, b, c] [] pos) (iRg rng3 ml) :=
  let ⟨ta, pa, qa⟩ := ha
  ⟨_, pi_range3 hg hm pa hs hpl, fun ρ env S σ H R R0 er h => by
    refine iRg_ok qa ρ env S σ H R0 er h fun vs vs' s ρ' S' H' g R' e' r q hJ => ?_
    unfold rng3 at q
    split at q
    · split at q
      · rename_i hb
        cases q
        rw [Bool.and_eq_true] at hb
        obtain ⟨w, z, y, rfl, rw, rz, ry⟩ := vrs3 r
        cases rw; cases rz; cases ry
        exact ⟨_, _, _, _, rfl, RgC.neg (big_ok hb.1).1 (big_ok hb.1).2 (big_ok hb.2).1 (big_ok hb.2).2, hJ _ jr_rngC⟩
      · cases q
    · cases q⟩
/-- zip, enumerate, reversed -/
def zipOf (S : Ms) : List PV → Option Src
  | [.tup xs, .tup ys] => some (.zipT xs ys)
  | [.loc n, .loc m] => match rdL S n, rdL S m with | some _, some _ => some (.zipL n m) | _, _ => none
  | _ => none
def enmOf (S : Ms) : List PV → Option Src
  | [.loc n] => (rdL S n).map fun _ => .enm n
  | _ => none
def revOf (S : Ms) : List PV → Option Src
  | [.loc n] => (rdL S n).map fun xs => .rev n xs.length
  | _ => none
def iSt (f : Ms → List PV → Option Src) (l : ML) : MI := fun env S => match l env S with | .ret vs S1 => (match f S1 vs with | some s => .ret s S1 | none => .fail) | .exc x S1 => .exc x S1 | .fail => .fail
theorem iSt_ok {f : Ms → List PV → Option Src} {ta : TA} {kk : List V → Hp → Prop} {R : It → Hp → Prop}
    (qa : ∀ ρ env S σ H Q, HR X.K X.mg ρ S H → ER X.K H ρ env σ → PostL X.K X.mg ρ H σ W Q (ml env S) → ta σ H Q)
    (ρ env S σ H) (R0 : HR X.K X.mg ρ S H) (er : ER X.K H ρ env σ) (h : PostI X ρ H σ W R (iSt f ml env S))
    (hk : ∀ vs vs' s ρ' S' H', Grow ρ ρ' → HR X.K X.mg ρ' S' H' → Ext H H' → VRs X.K H' ρ' vs vs' → f S' vs = some s → (∀ J, JR X ρ' H' s J → R J H') → kk vs' H') : ta σ H kk := by
  unfold iSt at h
  refine qa ρ env S σ H _ R0 er ?_
  cases e : ml env S with
  | fail => simp only [e] at h; exact h.elim
  | exc x S1 => simp only [e] at h; exact h
  | ret v S1 =>
    simp only [e] at h
    cases q : f S1 v with
    | none => simp only [q] at h; exact h.elim
    | some s => simp only [q] at h; exact fun ρ1 v' H1 g1 R1 e1 r1 => hk v v' s ρ1 S1 H1 g1 R1 e1 r1 q fun J j => h ρ1 H1 J g1 R1 e1 j
theorem si_zip {p tpos : Pos} {elts : List Expr} {kk : Nat} (hm : X.mg "zip" = none) (ha : SA X W [a, b] ml) (hg : Gl X "zip" := by rfl)
    (hs : starEach [a, b] X.env = (false, eval a X.env) :: starEach [b] X.env := by rfl) (hpl : (backTo pos (starEach [b] X.env)).any (·.1) = false := by rfl) : SI X W (.Tuple elts kk tpos) (.Call (.Name "zip" p) [a, b] [] pos) (iSt zipOf ml) :=
  let ⟨ta, pa, qa⟩ := ha
  ⟨_, RZ.pi_zipA hg hm pa hs hpl, fun ρ env S σ H R R0 er h => by
    refine iSt_ok qa ρ env S σ H R0 er h fun vs vs' s ρ' S' H' g R' e' r q hJ => ?_
    unfold zipOf at q
    split at q
    · cases q
      obtain ⟨w, z, rfl, rw, rz⟩ := vrs2 r
      cases rw with
      | tup hx ax => cases rz with
        | tup hy ay => exact ⟨_, _, _, _, rfl, .inr ⟨.of hx, .of hy, hJ _ (jr_zipT hx ax hy ay)⟩⟩
    · split at q
      · rename_i q1 q2
        cases q
        obtain ⟨w, z, rfl, rw, rz⟩ := vrs2 r
        cases rw with
        | loc e1 => cases rz with
          | loc e2 =>
            obtain ⟨vs, h1, _⟩ := rdL_ok R' e1 q1
            obtain ⟨ws, h2, _⟩ := rdL_ok R' e2 q2
            exact ⟨_, _, _, _, rfl, .inl ⟨h1, h2, hJ _ (jr_zipL e1 e2)⟩⟩
      · cases q
    · cases q⟩
theorem si_enum {p tpos : Pos} {elts : List Expr} {kk : Nat} (hm : X.mg "enumerate" = none) (ha : SA X W [a] ml) (hg : Gl X "enumerate" := by rfl)
    (hs : starEach [a] X.env = [(false, eval a X.env)] := by rfl) : SI X W (.Tuple elts kk tpos) (.Call (.Name "enumerate" p) [a] [] pos) (iSt enmOf ml) :=
  let ⟨ta, pa, qa⟩ := ha
  ⟨_, pi_enum hg hm pa hs, fun ρ env S σ H R R0 er h => by
    refine iSt_ok qa ρ env S σ H R0 er h fun vs vs' s ρ' S' H' g R' e' r q hJ => ?_
    unfold enmOf at q
    split at q
    · rename_i nn
      cases q1 : rdL S' nn with
      | none => rw [q1] at q; cases q
      | some xs =>
        rw [q1] at q; cases q
        obtain ⟨w, rfl, rw⟩ := vrs1 r
        cases rw with
        | loc e1 =>
          obtain ⟨vs, h1, _⟩ := rdL_ok R' e1 q1
          exact ⟨_, _, rfl, h1, hJ _ (jr_enm e1)⟩
    · cases q⟩
theorem si_rev {p : Pos} (hm : X.mg "reversed" = none) (ha : SA X W [a] ml) (hg : Gl X "reversed" := by rfl)
    (hs : starEach [a] X.env = [(false, eval a X.env)] := by rfl) : SI X W tg (.Call (.Name "reversed" p) [a] [] pos) (iSt revOf ml) :=
  let ⟨ta, pa, qa⟩ := ha
  ⟨_, pi_reversed hg hm pa hs, fun ρ env S σ H R R0 er h => by
    refine iSt_ok qa ρ env S σ H R0 er h fun vs vs' s ρ' S' H' g R' e' r q hJ => ?_
    unfold revOf at q
    split at q
    · rename_i nn
      cases q1 : rdL S' nn with
      | none => rw [q1] at q; cases q
      | some xs =>
        rw [q1] at q; cases q
        obtain ⟨w, rfl, rw⟩ := vrs1 r
        cases rw with
        | loc e1 =>
          obtain ⟨vs, h1, h2⟩ := rdL_ok R' e1 q1
          exact ⟨_, _, rfl, h1, by rw [h2.length]; exact hJ _ (jr_rev e1)⟩
    · cases q⟩

/-! ### for -/
def fuel : Nat := 1099511627776
def loopM (src : Src) (g : MG) (body : MS) : Nat → Nat → Env' → Ms → SO
  | 0, _, _, _ => .fail
  | f + 1, i, env, S => match nxt S i src with
    | .stop => .nx env S
    | .bad => .fail
    | .yld v => (match g v env with
      | none => .fail
      | some env1 => (match body env1 S with
        | .nx env2 S2 => loopM src g body f (i + 1) env2 S2
        | .ct env2 S2 => loopM src g body f (i + 1) env2 S2
        | .bk env2 S2 => .nx env2 S2
        | .rt v S2 => .rt v S2
        | .exc env2 x S2 => .exc env2 x S2
        | .fail => .fail))
def sFor (mi : MI) (g : MG) (body : MS) : MS := fun env S => match mi env S with | .ret src S1 => loopM src g body fuel 0 env S1 | .exc x S1 => .exc env x S1 | .fail => .fail
theorem ss_for {iter : Expr} {body : List Stmt} {mi : MI} {g : MG} {sl : List Nat} (hp : PassesOwn (model X.prog X.w) X.A X.env X.xe) (hc : X.calm = true) (hi : SI X W tg iter mi) (hg : SG X tg g sl) (hb : SSs X W body p)
    (hs : ∀ x, foldedSetIterable iter X.env x = pure x := by intro _; rfl) : SS X W (.For tg iter body [] pos) (sFor mi g p) :=
  let ⟨ti, pi, qi⟩ := hi; let ⟨tg', pg, qg⟩ := hg; let ⟨tb, pb, qb⟩ := hb
  ⟨_, ps_for hp hc pi pg pb hs, fun ρ env S σ H D R er h => by
    refine qi ρ env S σ H _ R er ?_
    unfold sFor at h
    cases e : mi env S with
    | fail => simp only [e] at h; exact h.elim
    | exc x S1 => simp only [e] at h; exact fun ρ' C d H' g R' e' hc xr => h ρ' σ C d H' g R' e' (er.mono e' g) hc xr
    | ret src S1 =>
      simp only [e] at h
      intro ρ1 H1 J g1 R1 e1 hJ
      have h := PostS.mono g1 e1 h
      refine ⟨fun i f σ H => ∃ ρ2 env2 S2, Grow ρ1 ρ2 ∧ Ext H1 H ∧ HR X.K X.mg ρ2 S2 H ∧ ER X.K H ρ2 env2 σ ∧ PostS X.K X.mg ρ1 H1 W D (loopM src g p f i env2 S2), ⟨fuel, ρ1, env, S1, .refl _, .refl _, R1, er.mono e1 g1, h⟩, ?_⟩
      rintro i f σ2 H2 ⟨ρ2, env2, S2, g2, e2, R2, er2, h2⟩
      obtain ⟨j1, j2⟩ := hJ ρ2 S2 H2 i g2 e2 R2
      cases f with
      | zero => exact h2.elim
      | succ f =>
        unfold loopM at h2
        cases q : nxt S2 i src with
        | bad => simp only [q] at h2; exact h2.elim
        | stop => simp only [q] at h2; exact .inl ⟨j1 q, h2 ρ2 σ2 H2 g2 R2 e2 er2⟩
        | yld v =>
          simp only [q] at h2
          obtain ⟨jg, jy⟩ := j2 v q
          refine .inr ⟨jg, fun σ' H' => ∃ ρ2 env2 S2, Grow ρ1 ρ2 ∧ Ext H1 H' ∧ HR X.K X.mg ρ2 S2 H' ∧ ER X.K H' ρ2 env2 σ' ∧ PostS X.K X.mg ρ1 H1 W D (loopM src g p f (i + 1) env2 S2), fun σ' H' hN => ⟨f, Nat.lt_succ_self _, hN⟩, fun x H3 hy => ?_⟩
          obtain ⟨R3, e3, r3⟩ := jy x H3 hy
          cases q3 : g v env2 with
          | none => simp only [q3] at h2; exact h2.elim
          | some env3 =>
            simp only [q3] at h2
            refine qg ρ2 env2 S2 σ2 H3 v x env3 _ R3 (er2.mono e3 (.refl _)) r3 q3 fun σ3 er3 _ => ?_
            refine qb ρ2 env3 S2 σ3 H3 _ R3 er3 ?_
            cases q4 : p env3 S2 with
            | nx env4 S4 => simp only [q4] at h2; exact fun ρ4 σ4 H4 g4 R4 e4 er4 => ⟨ρ4, env4, S4, g2.trans g4, (e2.trans e3).trans e4, R4, er4, h2⟩
            | ct env4 S4 => simp only [q4] at h2; exact fun ρ4 σ4 H4 g4 R4 e4 er4 => ⟨ρ4, env4, S4, g2.trans g4, (e2.trans e3).trans e4, R4, er4, h2⟩
            | bk env4 S4 => simp only [q4] at h2; exact fun ρ4 σ4 H4 g4 R4 e4 er4 => h2 ρ4 σ4 H4 (g2.trans g4) R4 ((e2.trans e3).trans e4) er4
            | rt v S4 => simp only [q4] at h2; exact fun ρ4 v4 H4 g4 R4 e4 er4 => h2 ρ4 v4 H4 (g2.trans g4) R4 ((e2.trans e3).trans e4) er4
            | exc env4 x S4 => simp only [q4] at h2; exact fun ρ4 σ4 C d H4 g4 R4 e4 er4 => h2 ρ4 σ4 C d H4 (g2.trans g4) R4 ((e2.trans e3).trans e4) er4
            | fail => simp only [q4] at h2; exact h2.elim⟩
/-! ### while -/
def whileM (c : MB) (body : MS) : Nat → Env' → Ms → SO
  | 0, _, _ => .fail
  | f + 1, env, S => match c env S with
    | .ret true S1 => (match body env S1 with
      | .nx env2 S2 => whileM c body f env2 S2
      | .ct env2 S2 => whileM c body f env2 S2
      | .bk env2 S2 => .nx env2 S2
      | .rt v S2 => .rt v S2
      | .exc env2 x S2 => .exc env2 x S2
      | .fail => .fail)
    | .ret false S1 => .nx env S1
    | .exc x S1 => .exc env x S1
    | .fail => .fail
def sWhile (c : MB) (body : MS) : MS := whileM c body fuel
theorem ss_while {body : List Stmt} (hp : PassesOwn (model X.prog X.w) X.A X.env X.xe) (hc : SB X W c t) (hb : SSs X W body p) : SS X W (.While c body [] pos) (sWhile t p) :=
  let ⟨tc, pc, qc⟩ := hc; let ⟨tb, pb, qb⟩ := hb
  ⟨_, ps_while hp pc pb, fun ρ1 env S1 σ H1 D R1 er h => by
    refine ⟨fun f σ H => ∃ ρ2 env2 S2, Grow ρ1 ρ2 ∧ Ext H1 H ∧ HR X.K X.mg ρ2 S2 H ∧ ER X.K H ρ2 env2 σ ∧ PostS X.K X.mg ρ1 H1 W D (whileM t p f env2 S2), ⟨fuel, ρ1, env, S1, .refl _, .refl _, R1, er, h⟩, ?_⟩
    rintro f σ2 H2 ⟨ρ2, env2, S2, g2, e2, R2, er2, h2⟩
    cases f with
    | zero => exact h2.elim
    | succ f =>
      unfold whileM at h2
      refine qc ρ2 env2 S2 σ2 H2 _ R2 er2 ?_
      cases q : t env2 S2 with
      | fail => simp only [q] at h2; exact h2.elim
      | exc x S3 => simp only [q] at h2; exact fun ρ3 C d H3 g3 R3 e3 hc xr => h2 ρ3 σ2 C d H3 (g2.trans g3) R3 (e2.trans e3) (er2.mono e3 g3) hc xr
      | ret b S3 =>
        intro ρ3 H3 g3 R3 e3
        have er3 := er2.mono e3 g3
        cases b with
        | false => simp only [q] at h2; rw [if_neg Bool.false_ne_true]; exact h2 ρ3 σ2 H3 (g2.trans g3) R3 (e2.trans e3) er3
        | true =>
          simp only [q] at h2
          rw [if_pos rfl]
          refine ⟨fun σ' H' => ∃ ρ2 env2 S2, Grow ρ1 ρ2 ∧ Ext H1 H' ∧ HR X.K X.mg ρ2 S2 H' ∧ ER X.K H' ρ2 env2 σ' ∧ PostS X.K X.mg ρ1 H1 W D (whileM t p f env2 S2), fun σ' H' hN => ⟨f, Nat.lt_succ_self _, hN⟩, ?_⟩
          refine qb ρ3 env2 S3 σ2 H3 _ R3 er3 ?_
          have g' := g2.trans g3
          have e' := e2.trans e3
          cases q4 : p env2 S3 with
          | nx env4 S4 => simp only [q4] at h2; exact fun ρ4 σ4 H4 g4 R4 e4 er4 => ⟨ρ4, env4, S4, g'.trans g4, e'.trans e4, R4, er4, h2⟩
          | ct env4 S4 => simp only [q4] at h2; exact fun ρ4 σ4 H4 g4 R4 e4 er4 => ⟨ρ4, env4, S4, g'.trans g4, e'.trans e4, R4, er4, h2⟩
          | bk env4 S4 => simp only [q4] at h2; exact fun ρ4 σ4 H4 g4 R4 e4 er4 => h2 ρ4 σ4 H4 (g'.trans g4) R4 (e'.trans e4) er4
          | rt v S4 => simp only [q4] at h2; exact fun ρ4 v4 H4 g4 R4 e4 er4 => h2 ρ4 v4 H4 (g'.trans g4) R4 (e'.trans e4) er4
          | exc env4 x S4 => simp only [q4] at h2; exact fun ρ4 σ4 C d H4 g4 R4 e4 er4 => h2 ρ4 σ4 C d H4 (g'.trans g4) R4 (e'.trans e4) er4
          | fail => simp only [q4] at h2; exact h2.elim⟩
end
end MP

set_option maxRecDepth 100000
namespace MP
open PySem PySem.Spec PyProof.Rows L2
section
variable {X : Cx} {W : WX} {a b c e o tg : Expr} {es rest : List Expr} {pos : Pos} {m n k : ME} {ml : ML} {t u : MB} {st : Stmt} {sts : List Stmt} {p q : MS}

/-! ### one reading for every context: what the mirror says -/
def tE (K : PySem.W.Frag) (mg : Str → Option Value) (W : WX) (m : ME) : TE := fun σ H Q => ∃ ρ env S, HR K mg ρ S H ∧ ER K H ρ env σ ∧ Post K mg ρ H σ W Q (m env S)
def tBo (K : PySem.W.Frag) (mg : Str → Option Value) (W : WX) (m : MB) : TT := fun σ H Q => ∃ ρ env S, HR K mg ρ S H ∧ ER K H ρ env σ ∧ PostB K mg ρ H σ W Q (m env S)
def tGt (K : PySem.W.Frag) (mg : Str → Option Value) (g : MG) (sl : List Nat) : TG := fun v' σ H Q => ∃ ρ env S v env', HR K mg ρ S H ∧ ER K H ρ env σ ∧ VR K H ρ v v' ∧ g v env = some env' ∧
  ∀ σ', ER K H ρ env' σ' → (∀ vs, (∀ i ∈ sl, i ∈ vs) → wipe σ' vs = wipe σ vs) → Q σ' H
theorem SE.pe (h : SE X W e m) : PE X e (tE X.K X.mg W m) := let ⟨_, p, q⟩ := h; ⟨fun pins s σ H Q I ⟨ρ, env, S, R, er, z⟩ => p.run pins s σ H Q I (q ρ env S σ H Q R er z)⟩
def SIf (X : Cx) (W : WX) (ifs : List Expr) (t : MB) : Prop := PTs X ifs (tBo X.K X.mg W t)
def bYes : MB := fun _ S => .ret true S
theorem sif_nil : SIf X W [] bYes := ⟨fun pins s σ H Q I ⟨ρ, env, S, R, er, z⟩ => pts_nil.run pins s σ H Q I (z ρ H (.refl _) R (.refl _))⟩
theorem sif_one (h : SB X W c t) : SIf X W [c] t := let ⟨_, p, q⟩ := h; ⟨fun pins s σ H Q I ⟨ρ, env, S, R, er, z⟩ => (pts_one p).run pins s σ H Q I (q ρ env S σ H Q R er z)⟩
theorem SG.pg {g : MG} {sl : List Nat} (h : SG X tg g sl) : PG X tg (tGt X.K X.mg g sl) := let ⟨_, p, q⟩ := h; ⟨fun pins s σ H v u Q I r ⟨ρ, env, S, v0, env', R, er, rv, e, z⟩ => p.run pins s σ H v u Q I r (q ρ env S σ H v0 v env' Q R er rv e z)⟩

/-! ### list comprehensions -/
abbrev W0 : WX := fun _ _ _ _ => False
def wipeE (env : Env') : List Nat → Env'
  | [] => env
  | v :: vs => (wipeE env vs).set v none
theorem ER.wipe {K : PySem.W.Frag} {H : Hp} {ρ : List Addr} {env : Env'} {σ : L2.St} (h : ER K H ρ env σ) : ∀ vs, ER K H ρ (wipeE env vs) (wipe σ vs)
  | [] => h
  | v :: vs => (ER.wipe h vs).setN v none
theorem wipe_wipe {σ : L2.St} {vs : List Nat} : ∀ us : List Nat, (∀ i ∈ us, i ∈ vs) → wipe (wipe σ us) vs = wipe σ vs
  | [], _ => rfl
  | u :: us, h => by
    show wipe ((wipe σ us).set u none) vs = _
    rw [wipe_set (h u List.mem_cons_self), wipe_wipe us fun i hi => h i (List.mem_cons_of_mem _ hi)]
def lcM (src : Src) (g : MG) (tt : MB) (m : ME) (vs : List Nat) (l : Nat) (env : Env') : Nat → Nat → Ms → Out PV
  | 0, _, _ => .fail
  | f + 1, i, S => match nxt S i src with
    | .stop => .ret (.loc l) S
    | .bad => .fail
    | .yld v => (match g v (wipeE env vs) with
      | none => .fail
      | some env1 => (match tt env1 S with
        | .ret false S1 => lcM src g tt m vs l env f (i + 1) S1
        | .ret true S1 => (match m env1 S1 with
          | .ret y S2 => (match S2[l]? with
            | some (.lst acc) => if acc.length < lim then lcM src g tt m vs l env f (i + 1) (S2.set l (.lst (acc ++ [y]))) else .fail
            | _ => .fail)
          | _ => .fail)
        | _ => .fail))
def mLc (mi : MI) (g : MG) (tt : MB) (m : ME) (vs : List Nat) : ME := fun env S => match mi env S with
  | .ret src S1 => lcM src g tt m vs S1.length env fuel 0 (S1 ++ [.lst []])
  | .exc x S1 => .exc x S1
  | .fail => .fail
theorem lc_ok {ti : TI} {mi : MI} {g : MG} {sl vs : List Nat} (hsl : ∀ i ∈ sl, i ∈ vs)
    (qi : ∀ ρ env S σ H R, HR X.K X.mg ρ S H → ER X.K H ρ env σ → PostI X ρ H σ W R (mi env S) → ti σ H R)
    (ρ env S σ H) (Q : VK) (R : HR X.K X.mg ρ S H) (er : ER X.K H ρ env σ) (h : Post X.K X.mg ρ H σ W Q (mLc mi g t m vs env S)) :
    tLc ti (tGt X.K X.mg g sl) (tBo X.K X.mg W0 t) (tE X.K X.mg W0 m) vs σ H Q := by
  refine qi ρ env S σ H _ R er ?_
  unfold mLc at h
  cases e : mi env S with
  | fail => simp only [e] at h; exact h.elim
  | exc x S1 => simp only [e] at h; exact h
  | ret src S1 =>
    simp only [e] at h
    intro ρ1 H1 J g1 R1 e1 hJ D hD
    have h := Post.mono g1 e1 h
    have er1 := er.mono e1 g1
    have gD : Grow ρ1 (ρ1 ++ [D]) := .snoc _ _
    have eD : Ext H1 (upd H1 D (.lst [])) := .new hD
    have lD : (ρ1 ++ [D])[S1.length]? = some D := by rw [← R1.len]; simp
    refine ⟨fun i f H => ∃ ρ2 S2, Grow (ρ1 ++ [D]) ρ2 ∧ Ext (upd H1 D (.lst [])) H ∧ HR X.K X.mg ρ2 S2 H ∧ Post X.K X.mg ρ1 H1 σ W Q (lcM src g t m vs S1.length env f i S2),
      ⟨fuel, ρ1 ++ [D], _, .refl _, .refl _, R1.new hD (.lst .nil), h⟩, ?_⟩
    rintro i f H2 ⟨ρ2, S2, g2, e2, R2, h2⟩
    have g12 := gD.trans g2
    have e12 := eD.trans e2
    obtain ⟨j1, j2⟩ := hJ ρ2 S2 H2 i g12 e12 R2
    cases f with
    | zero => exact h2.elim
    | succ f =>
      unfold lcM at h2
      cases q : nxt S2 i src with
      | bad => simp only [q] at h2; exact h2.elim
      | stop => simp only [q] at h2; exact .inl ⟨j1 q, h2 ρ2 _ H2 g12 R2 e12 (.loc (g2 _ _ lD))⟩
      | yld v =>
        simp only [q] at h2
        obtain ⟨jg, jy⟩ := j2 v q
        refine .inr ⟨jg, fun H' => ∃ ρ2 S2, Grow (ρ1 ++ [D]) ρ2 ∧ Ext (upd H1 D (.lst [])) H' ∧ HR X.K X.mg ρ2 S2 H' ∧ Post X.K X.mg ρ1 H1 σ W Q (lcM src g t m vs S1.length env f (i + 1) S2), fun H' hN => ⟨f, Nat.lt_succ_self _, hN⟩, fun x H3 hy => ?_⟩
        obtain ⟨R3, e3, r3⟩ := jy x H3 hy
        cases q3 : g v (wipeE env vs) with
        | none => simp only [q3] at h2; exact h2.elim
        | some env3 =>
          simp only [q3] at h2
          refine ⟨ρ2, wipeE env vs, S2, v, env3, R3, ((er1.mono e12 g12).mono e3 (.refl _)).wipe vs, r3, q3, fun σ3 er3 w3 => ⟨?_, ρ2, env3, S2, R3, er3, ?_⟩⟩
          · rw [w3 vs hsl, wipe_wipe vs fun _ h => h]
          · cases q4 : t env3 S2 with
            | fail => simp only [q4] at h2; exact h2.elim
            | exc x S3 => simp only [q4] at h2; exact h2.elim
            | ret bb S3 =>
              intro ρ4 H4 g4 R4 e4
              cases bb with
              | false =>
                simp only [q4] at h2
                rw [if_neg Bool.false_ne_true]
                exact ⟨ρ4, S3, g2.trans g4, (e2.trans e3).trans e4, R4, h2⟩
              | true =>
                simp only [q4] at h2
                rw [if_pos rfl]
                refine ⟨ρ4, env3, S3, R4, er3.mono e4 g4, ?_⟩
                cases q5 : m env3 S3 with
                | fail => simp only [q5] at h2; exact h2.elim
                | exc x S3 => simp only [q5] at h2; exact h2.elim
                | ret y S4 =>
                  simp only [q5] at h2
                  intro ρ5 y' H5 g5 R5 e5 r5
                  split at h2
                  · rename_i acc qa
                    split at h2
                    · rename_i hlim
                      have lD5 : ρ5[S1.length]? = some D := g5 _ _ (g4 _ _ (g2 _ _ lD))
                      obtain ⟨acc', a1, a2⟩ := R5.lst lD5 qa
                      refine ⟨acc', a1, by rw [a2.length]; exact Nat.lt_of_lt_of_le hlim (by decide), ρ5, _, (g2.trans g4).trans g5, (((e2.trans e3).trans e4).trans e5).trans (.put a1 soft_lst), R5.put lD5 a1 soft_lst (.lst (a2.append (.cons r5 .nil))), h2⟩
                    · exact h2.elim
                  · exact h2.elim
theorem s_lc {iter : Expr} {ifs : List Expr} {scope : Scope} {own : List (Str × Nat)} {mi : MI} {g : MG} {sl : List Nat} (hc : X.calm = true) (hN : X.N.Nodup) (hi : SI X W tg iter mi) (ok : BlkOk X.N X.env.scope scope own) (hsl : ∀ i ∈ sl, i ∈ own.map (·.2))
    (hg : ∀ (s : Shared) (H : Hp) (C : Addr) (cl : List (Str × Addr)) (fp : List Addr), SG (X.blk s H scope (compEnvC scope cl C X.env) fp) tg g sl) (ht : ∀ (s : Shared) (H : Hp) (C : Addr) (cl : List (Str × Addr)) (fp : List Addr), SIf (X.blk s H scope (compEnvC scope cl C X.env) fp) W0 ifs t)
    (he : ∀ (s : Shared) (H : Hp) (C : Addr) (cl : List (Str × Addr)) (fp : List Addr), SE (X.blk s H scope (compEnvC scope cl C X.env) fp) W0 e m) (hs : ∀ x, foldedSetIterable iter X.env x = pure x := by intro _; rfl) :
    SE X W (.ListComp e [⟨tg, iter, ifs, 0⟩] scope pos) (mLc mi g t m (own.map (·.2))) :=
  let ⟨_, pi, qi⟩ := hi
  ⟨_, pe_lc (tt := tBo X.K X.mg W0 t) hc hN pi ok (fun s H C cl fp => (hg s H C cl fp).pg) (fun s H C cl fp => ht s H C cl fp) (fun s H C cl fp => (he s H C cl fp).pe) hs, lc_ok hsl qi⟩
theorem ss_setLc {i : Nat} {y : Str} {py spos : Pos} {iter : Expr} {ifs : List Expr} {scope : Scope} {own : List (Str × Nat)} {mi : MI} {g : MG} {sl : List Nat} (hc : X.calm = true) (hN : X.N.Nodup) (hi : SI X W tg iter mi) (ok : BlkOk X.N X.env.scope scope own) (hsl : ∀ i ∈ sl, i ∈ own.map (·.2))
    (hg : ∀ (s : Shared) (H : Hp) (C : Addr) (cl : List (Str × Addr)) (fp : List Addr), SG (X.blk s H scope (compEnvC scope cl C X.env) fp) tg g sl) (ht : ∀ (s : Shared) (H : Hp) (C : Addr) (cl : List (Str × Addr)) (fp : List Addr), SIf (X.blk s H scope (compEnvC scope cl C X.env) fp) W0 ifs t)
    (he : ∀ (s : Shared) (H : Hp) (C : Addr) (cl : List (Str × Addr)) (fp : List Addr), SE (X.blk s H scope (compEnvC scope cl C X.env) fp) W0 e m)
    (hsw : swapsWith (.ListComp e [⟨tg, iter, ifs, 0⟩] scope pos) (some (.Name y py)) spos.line X.env = pure true)
    (hy : X.N[i]? = some y := by rfl) (hyl : X.env.scope.names.lookup y = some .local := by rfl) (hs : ∀ x, foldedSetIterable iter X.env x = pure x := by intro _; rfl) :
    SS X W (.Assign [.Name y py] (.ListComp e [⟨tg, iter, ifs, 0⟩] scope pos) spos) (sSet i (mLc mi g t m (own.map (·.2)))) :=
  let ⟨_, pi, qi⟩ := hi
  ⟨_, ps_setLc (tt := tBo X.K X.mg W0 t) hc hN hy hyl hsw pi ok (fun s H C cl fp => (hg s H C cl fp).pg) (fun s H C cl fp => ht s H C cl fp) (fun s H C cl fp => (he s H C cl fp).pe) hs, fun ρ env S σ H D R er h =>
    sOf_ok (D := D) (f := fun v env S => toSO (gNm i v env) S) (lc_ok hsl qi) ρ env S σ H R er (fun ρ' S' H' x x' gg R' e' er' r h => h _ _ _ (.refl _) R' (.refl _) (er'.set r i)) h⟩

/-! ### defs and their calls -/
def mFn (nl : Nat) (body : MS) : List PV → Ms → Out PV := fun args S => match body (args.map some ++ List.replicate nl none) S with
  | .nx _ S1 => .ret .non S1
  | .rt v S1 => .ret v S1
  | .exc _ x S1 => .exc x S1
  | _ => .fail
def spF (K : PySem.W.Frag) (mg : Str → Option Value) (np : Nat) (F : List PV → Ms → Out PV) : Sp := fun vs H Q E => vs.length = np ∧ ∃ ρ S args, HR K mg ρ S H ∧ VRs K H ρ args vs ∧ Post K mg ρ H [] (fun c d _ H => E c d H) Q (F args S)
/-- the mirror of a call of a def with so many parameters -/
def cl (np : Nat) (G : List PV → Ms → Out PV) : List PV → Ms → Out PV := fun vs S => if vs.length = np then G vs S else .fail
theorem s_call {x : Str} {pp : Pos} {f : Addr} {fd : FuncData} {ps : List Str} {lv np : Nat} {G : List PV → Ms → Out PV} (F : FnOk X.prog X.w X.K X.mg X.base (L2.CX X.prog X.w) lv f fd ps (spF X.K X.mg np G)) (hnp : ps.length = np) (hr : Room lv X.A)
    (hm : X.mg x = some (.ref f)) (hk : PySem.W.keepIn X.K (.ref f) = true) (hb : Binds X.K fd ps []) (tk : Takes X W) (ha : SA X W (e :: es) ml) (hargs : (e :: es).length = np := by rfl) (hg : Gl X x := by rfl)
    (hdb : (x == ("__debug__" : Str)) = false := by decide) (he : starEach (e :: es) X.env = (false, eval e X.env) :: starEach es X.env := by rfl) (hpl : (backTo pos (starEach es X.env)).any (·.1) = false := by rfl) :
    SE X W (.Call (.Name x pp) (e :: es) [] pos) (mL ml (cl np G)) :=
  let ⟨_, pa, qa⟩ := ha
  ⟨_, pe_callSD (E := WE W) (dvs := []) F hr hg hm hk hb .nil (fun σ => passAt tk σ) pa hdb he hpl, fun ρ env S σ H Q R er h =>
    args_ok (r := fun vs H1 Q => spF X.K X.mg np G (vs ++ []) H1 Q (WE W σ)) qa ρ env S σ H Q (fun ρ' S' H' x x' g e R' r h' => by
      unfold cl at h'
      split at h'
      · rename_i hl
        rw [List.append_nil]
        refine ⟨by rw [r.length]; exact hl, ρ', S', x, R', r, ?_⟩
        cases q : G x S' with
        | fail => rw [q] at h'; exact h'.elim
        | ret v S1 => rw [q] at h'; exact h'
        | exc xx S1 => rw [q] at h'; exact h'
      · exact h'.elim) R er h⟩
theorem start_er {K : PySem.W.Frag} {H : Hp} {ρ : List Addr} {N : List Str} {nl : Nat} {args : List PV} {vs : List V} (r : VRs K H ρ args vs) (hl : N.length = vs.length + nl) : ER K H ρ (args.map some ++ List.replicate nl none) (L2.start N vs) := by
  unfold L2.start
  have e : N.length - vs.length = nl := by omega
  rw [e]
  exact ER.start nl r
theorem fn_ok {P : Program} {w : World} {K : PySem.W.Frag} {mg : Str → Option Value} {base : Heap} {x qual : Str} {sst : Stmt} {f : Addr} {fd : FuncData} {N ps : List Str} {lv nl : Nat} {mm : MS} (F : Fun K x qual sst f fd) (Sc : FnScope N ps (defScope sst)) (hl : N.length = ps.length + nl)
    (hbody : ∀ (cdv : Value) (A : Around) (outer : List Env) (s : Shared) (H : Hp) (E : XK), Room lv (A.deeper (envOfC qual (defScope sst) s.heap.objs.size f cdv)) →
      SSs (cxOf (L2.CX P w) P w K mg base N qual (defScope sst) f cdv A outer s H E) (fun c d _ H => E c d H) (defBody sst) mm) : FnOk P w K mg base (L2.CX P w) (lv + 1) f fd ps (spF K mg ps.length (mFn nl mm)) :=
  F.okX Sc (fun vs H Q E h => h.1) fun cdv A outer s H vs Q E hr h => by
    obtain ⟨hv, ρ, S, args, R, r, hp⟩ := h
    obtain ⟨t, pt, qt⟩ := hbody cdv A outer s H E hr
    refine ⟨t, pt, qt ρ (args.map some ++ List.replicate nl none) S _ H _ R (start_er r (by rw [hl, hv])) ?_⟩
    unfold mFn at hp
    cases e : mm (args.map some ++ List.replicate nl none) S with
    | nx env1 S1 => simp only [e] at hp; exact fun ρ1 σ1 H1 g1 R1 e1 er1 => hp ρ1 _ H1 g1 R1 e1 .non
    | rt v S1 => simp only [e] at hp; exact fun ρ1 v1 H1 g1 R1 e1 r1 => hp ρ1 v1 H1 g1 R1 e1 r1
    | exc env1 xx S1 => simp only [e] at hp; exact fun ρ1 σ1 C d H1 g1 R1 e1 er1 hc xr => hp ρ1 C d H1 g1 R1 e1 hc xr
    | bk env1 S1 => simp only [e] at hp; exact hp.elim
    | ct env1 S1 => simp only [e] at hp; exact hp.elim
    | fail => simp only [e] at hp; exact hp.elim
theorem fn_never {P : Program} {w : World} {K : PySem.W.Frag} {mg : Str → Option Value} {base : Heap} {f : Addr} {fd : FuncData} {ps : List Str} {lv : Nat} : FnOk P w K mg base (L2.CX P w) lv f fd ps (spF K mg ps.length (fun _ _ => .fail)) :=
  ⟨fun vs H Q E h => h.1, fun A outer s H args us vs Q E hr he hb r h => by obtain ⟨_, _, _, _, _, _, z⟩ := h; exact z.elim⟩
end
end MP

set_option maxRecDepth 100000
namespace MP
open PySem PySem.Spec PyProof.Rows L2
section
variable {X : Cx} {W : WX} {a b c e o tg : Expr} {es rest : List Expr} {pos : Pos} {m n k : ME} {ml mk : ML} {t u : MB} {st : Stmt} {sts : List Stmt} {p q : MS} {kws : List Keyword}

/-! ### calls with keywords -/
def SK (X : Cx) (W : WX) (kws : List Keyword) (m : ML) : Prop := ∃ t, PK X kws t ∧ ∀ ρ env S σ H Q, HR X.K X.mg ρ S H → ER X.K H ρ env σ → PostL X.K X.mg ρ H σ W Q (m env S) → t σ H Q
theorem sk_nil : SK X W [] mNil := ⟨_, pk_nil, fun ρ env S σ H Q R er h => h _ _ _ (.refl _) R (.refl _) .nil⟩
theorem sk_cons {nm : Option Str} {kpos : Pos} (ha : SE X W e m) (hr : SK X W kws ml) : SK X W (⟨nm, e, kpos⟩ :: kws) (mCons m ml) :=
  let ⟨_, pa, qa⟩ := ha; let ⟨_, pb, qb⟩ := hr
  ⟨_, pk_cons pa pb, fun ρ env S σ H Q R er h => by
    refine qa ρ env S σ H _ R er ?_
    unfold mCons at h
    cases e : m env S with
    | fail => rw [e] at h; exact h.elim
    | exc x S => rw [e] at h; exact h
    | ret x S1 =>
      rw [e] at h
      intro ρ1 x' H1 g1 R1 e1 r1
      refine qb ρ1 env S1 σ H1 _ R1 (er.mono e1 g1) ?_
      have h := PostL.mono g1 e1 h
      cases e : ml env S1 with
      | fail => simp only [e] at h; exact h.elim
      | exc x S => simp only [e] at h; exact h
      | ret xs S2 =>
        simp only [e] at h
        intro ρ2 xs' H2 g2 R2 e2 r2
        exact h ρ2 _ H2 g2 R2 e2 (.cons (r1.mono e2 g2) r2)⟩
def gOf {α : Type} (d : α) (is : List Nat) (us ws : List α) : List α := is.map fun i => (us ++ ws).getD i d
theorem vals_getD : ∀ {vs : List V} {us : List Value} (i : Nat), Vals vs us → RelV (vs.getD i .non) (us.getD i .none)
  | [], [], _, .nil => by simp; rfl
  | _ :: _, _ :: _, 0, .cons r _ => by simpa using r
  | _ :: _, _ :: _, i + 1, .cons _ t => by simpa using vals_getD i t
theorem vals_gOf {vs zs : List V} {us ws : List Value} (h1 : Vals vs us) (h2 : Vals zs ws) : ∀ is : List Nat, Vals (gOf .non is vs zs) (gOf .none is us ws)
  | [] => .nil
  | i :: is => .cons (vals_getD i (h1.append h2)) (vals_gOf h1 h2 is)
theorem vrs_getD {K : PySem.W.Frag} {H : Hp} {ρ : List Addr} : ∀ {xs : List PV} {vs : List V} (i : Nat), VRs K H ρ xs vs → VR K H ρ (xs.getD i .non) (vs.getD i .non)
  | [], _, _, .nil => by simp; exact .non
  | _ :: _, _, 0, .cons r _ => by simpa using r
  | _ :: _, _, i + 1, .cons _ t => by simpa using vrs_getD i t
theorem vrs_gOf {K : PySem.W.Frag} {H : Hp} {ρ : List Addr} {xs ys : List PV} {vs zs : List V} (h1 : VRs K H ρ xs vs) (h2 : VRs K H ρ ys zs) : ∀ is : List Nat, VRs K H ρ (gOf .non is xs ys) (gOf .non is vs zs)
  | [] => .nil
  | i :: is => .cons (vrs_getD i (h1.append h2)) (vrs_gOf h1 h2 is)
theorem kbn_mk {K : PySem.W.Frag} {fd : FuncData} {ps : List Str} {nn : Nat} {ks : List Str} (is : List Nat)
    (h : ∀ (us ws : List Value), us.length = nn → ws.length = ks.length → bindArgs fd ⟨us, ks.zip ws⟩ = pure (ps.zip (gOf .none is us ws))) : KBn K fd ps nn ks (gOf .none is) (gOf .non is) :=
  ⟨fun s us ws _ l1 l2 => .of_eq (h us ws l1 l2), fun r1 r2 => vals_gOf r1 r2 is⟩
def tCallKS (n m : Nat) (sp : Sp) (gV : List V → List V → List V) (E : L2.St → XK) (t tk : TA) : TE := fun σ H Q => t σ H fun vs H1 => tk σ H1 fun zs H2 => vs.length = n ∧ zs.length = m ∧ sp (gV vs zs) H2 Q (E σ)
theorem run_fnNS {CX : CXT} {lv nn : Nat} {f : Addr} {fd : FuncData} {ps ks : List Str} {sp : Sp} {E : L2.St → XK} {g : List Value → List Value → List Value} {gV : List V → List V → List V} {pins : List (Addr × Obj)} {σ : L2.St} {H : Hp} {s : Shared} {Q : VK} {us ws : List Value} {vs zs : List V} (F : FnOk X.prog X.w X.K X.mg X.base CX lv f fd ps sp) (hr : Room lv X.A) (hb : KBn X.K fd ps nn ks g gV) (hx : PassesAt CX X σ (E σ))
    (I : Inv X pins σ H s) (r : Vals vs us) (rz : Vals zs ws) (l1 : vs.length = nn) (l2 : zs.length = ks.length) (h : sp (gV vs zs) H Q (E σ)) : wpAny (model X.prog X.w) X.A (call (.ref f) us (ks.zip ws)) (EP X pins σ Q) X.xe s := by
  have r2 := hb.rel r rz
  refine wpAny_call (codeAny_mono (F.run X.A X.stack s H ⟨us, ks.zip ws⟩ (g us ws) (gV vs zs) Q (E σ) hr I.env0 (hb.to s us ws I.kIn (r.length.symm.trans l1) (rz.length.symm.trans l2)) r2 h) fun r s' hq => ?_)
  cases r with
  | error e => exact hx pins H s e s' I hq
  | ok fl =>
    cases fl with
    | ret u => exact I.after hq
    | next => exact False.elim hq
    | brk => exact False.elim hq
    | cont => exact False.elim hq
theorem pe_callKS {CX : CXT} {lv nn : Nat} {f : Addr} {fd : FuncData} {ps ks : List Str} {sp : Sp} {E : L2.St → XK} {g : List Value → List Value → List Value} {gV : List V → List V → List V} {x : Str} {pp : Pos} {t tk : TA} (F : FnOk X.prog X.w X.K X.mg X.base CX lv f fd ps sp) (hr : Room lv X.A) (hg : Gl X x) (hm : X.mg x = some (.ref f)) (hk : PySem.W.keepIn X.K (.ref f) = true) (hb : KBn X.K fd ps nn ks g gV) (hx : ∀ σ, PassesAt CX X σ (E σ))
    (ha : PA X (e :: es) t) (hkw : PK X kws tk) (hall : (backToKw pos (keywordEach kws X.env)).all (·.1.isSome) = true) (hks : (backToKw pos (keywordEach kws X.env)).filterMap (·.1) = ks)
    (hdb : (x == ("__debug__" : Str)) = false) (he : starEach (e :: es) X.env = (false, eval e X.env) :: starEach es X.env)
    (hpl : ((backTo pos (starEach (e :: es) X.env)).any (·.1) || (backToKw pos (keywordEach kws X.env)).any (·.1.isNone)) = false) :
    PE X (.Call (.Name x pp) (e :: es) kws pos) (tCallKS nn ks.length sp gV E t tk) := by
  refine ⟨fun pins s σ H Q I h => ?_⟩
  refine wpAny_Call_Name_kw (ld_glob I hg hm ?_ hdb)
  refine PySem.W.callWith_KW (h₀ := X.base) I.ok.mod.kin hk hall (thn (ha.run pos pins s σ H _ I h) fun us s1 ⟨vs, H1, I1, r, q⟩ => ?_) hpl he
  refine thn (hkw.run pos pins s1 σ H1 _ I1 q) fun ws s2 ⟨zs, H2, I2, rz, l1, l2, q2⟩ => ⟨I2.kIn, ?_⟩
  rw [hks]
  exact run_fnNS F hr hb (hx σ) I2 r rz l1 l2 q2
theorem pe_callKS0 {CX : CXT} {lv : Nat} {f : Addr} {fd : FuncData} {ps ks : List Str} {sp : Sp} {E : L2.St → XK} {g : List Value → List Value → List Value} {gV : List V → List V → List V} {x : Str} {pp : Pos} {tk : TA} (F : FnOk X.prog X.w X.K X.mg X.base CX lv f fd ps sp) (hr : Room lv X.A) (hg : Gl X x) (hm : X.mg x = some (.ref f)) (hk : PySem.W.keepIn X.K (.ref f) = true) (hb : KBn X.K fd ps 0 ks g gV) (hx : ∀ σ, PassesAt CX X σ (E σ))
    (hkw : PK X kws tk) (hall : (backToKw pos (keywordEach kws X.env)).all (·.1.isSome) = true) (hks : (backToKw pos (keywordEach kws X.env)).filterMap (·.1) = ks)
    (hdb : (x == ("__debug__" : Str)) = false)
    (hpl : ((backTo pos (starEach [] X.env)).any (·.1) || (backToKw pos (keywordEach kws X.env)).any (·.1.isNone)) = false) :
    PE X (.Call (.Name x pp) [] kws pos) (tCallKS 0 ks.length sp gV E tNil tk) := by
  refine ⟨fun pins s σ H Q I h => ?_⟩
  refine wpAny_Call_Name_kw (ld_glob I hg hm ?_ hdb)
  refine PySem.W.callWith_KW0 (h₀ := X.base) I.ok.mod.kin hk hall (thn (hkw.run pos pins s σ H _ I h) fun ws s2 ⟨zs, H2, I2, rz, l1, l2, q2⟩ => ⟨I2.kIn, ?_⟩) hpl
  rw [hks]
  exact run_fnNS (us := []) (vs := []) F hr hb (hx σ) I2 .nil rz l1 l2 q2
def mCallK (ml mk : ML) (nn kk : Nat) (is : List Nat) (G : List PV → Ms → Out PV) : ME := fun env S => (ml env S).bind fun vs S1 => (mk env S1).bind fun zs S2 => if vs.length = nn ∧ zs.length = kk then G (gOf .non is vs zs) S2 else .fail
theorem callK_ok {nn kk np : Nat} {is : List Nat} {G : List PV → Ms → Out PV} {ta tk : TA} (hnp : is.length = np)
    (qa : ∀ ρ env S σ H Q, HR X.K X.mg ρ S H → ER X.K H ρ env σ → PostL X.K X.mg ρ H σ W Q (ml env S) → ta σ H Q)
    (qb : ∀ ρ env S σ H Q, HR X.K X.mg ρ S H → ER X.K H ρ env σ → PostL X.K X.mg ρ H σ W Q (mk env S) → tk σ H Q)
    (ρ env S σ H) (Q : VK) (R : HR X.K X.mg ρ S H) (er : ER X.K H ρ env σ) (h : Post X.K X.mg ρ H σ W Q (mCallK ml mk nn kk is G env S)) : tCallKS nn kk (spF X.K X.mg np G) (gOf .non is) (WE W) ta tk σ H Q := by
  refine qa ρ env S σ H _ R er ?_
  unfold mCallK at h
  cases e : ml env S with
  | fail => rw [e] at h; exact h.elim
  | exc x S => rw [e] at h; exact h
  | ret vs S1 =>
    rw [e] at h
    intro ρ1 vs' H1 g1 R1 e1 r1
    have h := Post.mono g1 e1 h
    simp only [Out.bind] at h
    refine qb ρ1 env S1 σ H1 _ R1 (er.mono e1 g1) ?_
    cases e : mk env S1 with
    | fail => rw [e] at h; exact h.elim
    | exc x S => rw [e] at h; exact h
    | ret zs S2 =>
      rw [e] at h
      intro ρ2 zs' H2 g2 R2 e2 r2
      have h := Post.mono g2 e2 h
      simp only [] at h
      split at h
      · rename_i hl
        refine ⟨by rw [r1.length]; exact hl.1, by rw [r2.length]; exact hl.2, ?_, ρ2, S2, _, R2, vrs_gOf (r1.mono e2 g2) r2 is, ?_⟩
        · unfold gOf; rw [List.length_map]; exact hnp
        · cases q : G (gOf .non is vs zs) S2 with
          | fail => rw [q] at h; exact h.elim
          | ret v S1 => rw [q] at h; exact h
          | exc xx S1 => rw [q] at h; exact h
      · exact h.elim
theorem s_callK {x : Str} {pp : Pos} {f : Addr} {fd : FuncData} {ps ks : List Str} {lv nn np kk : Nat} {is : List Nat} {G : List PV → Ms → Out PV} (F : FnOk X.prog X.w X.K X.mg X.base (L2.CX X.prog X.w) lv f fd ps (spF X.K X.mg np G)) (hr : Room lv X.A)
    (hm : X.mg x = some (.ref f)) (hk : PySem.W.keepIn X.K (.ref f) = true) (hb : KBn X.K fd ps nn ks (gOf .none is) (gOf .non is)) (tk : Takes X W) (ha : SA X W (e :: es) ml) (hkw : SK X W kws mk) (hkk : ks.length = kk := by rfl) (hnp : is.length = np := by rfl) (hg : Gl X x := by rfl)
    (hall : (backToKw pos (keywordEach kws X.env)).all (·.1.isSome) = true := by rfl) (hks : (backToKw pos (keywordEach kws X.env)).filterMap (·.1) = ks := by rfl)
    (hdb : (x == ("__debug__" : Str)) = false := by decide) (he : starEach (e :: es) X.env = (false, eval e X.env) :: starEach es X.env := by rfl)
    (hpl : ((backTo pos (starEach (e :: es) X.env)).any (·.1) || (backToKw pos (keywordEach kws X.env)).any (·.1.isNone)) = false := by rfl) :
    SE X W (.Call (.Name x pp) (e :: es) kws pos) (mCallK ml mk nn kk is G) := by
  subst hkk
  exact (
  let ⟨_, pa, qa⟩ := ha; let ⟨_, pb, qb⟩ := hkw
  ⟨_, pe_callKS (E := WE W) F hr hg hm hk hb (fun σ => passAt tk σ) pa pb hall hks hdb he hpl, callK_ok hnp qa qb⟩)

theorem s_callK0 {x : Str} {pp : Pos} {f : Addr} {fd : FuncData} {ps ks : List Str} {lv np kk : Nat} {is : List Nat} {G : List PV → Ms → Out PV} (F : FnOk X.prog X.w X.K X.mg X.base (L2.CX X.prog X.w) lv f fd ps (spF X.K X.mg np G)) (hr : Room lv X.A)
    (hm : X.mg x = some (.ref f)) (hk : PySem.W.keepIn X.K (.ref f) = true) (hb : KBn X.K fd ps 0 ks (gOf .none is) (gOf .non is)) (tk : Takes X W) (hkw : SK X W kws mk) (hkk : ks.length = kk := by rfl) (hnp : is.length = np := by rfl) (hg : Gl X x := by rfl)
    (hall : (backToKw pos (keywordEach kws X.env)).all (·.1.isSome) = true := by rfl) (hks : (backToKw pos (keywordEach kws X.env)).filterMap (·.1) = ks := by rfl)
    (hdb : (x == ("__debug__" : Str)) = false := by decide)
    (hpl : ((backTo pos (starEach [] X.env)).any (·.1) || (backToKw pos (keywordEach kws X.env)).any (·.1.isNone)) = false := by rfl) :
    SE X W (.Call (.Name x pp) [] kws pos) (mCallK mNil mk 0 kk is G) := by
  subst hkk
  exact (
  let ⟨_, pb, qb⟩ := hkw
  ⟨_, pe_callKS0 (E := WE W) F hr hg hm hk hb (fun σ => passAt tk σ) pb hall hks hdb hpl, callK_ok (ta := tNil) hnp (fun ρ env S σ H Q R er h => h _ _ _ (.refl _) R (.refl _) .nil) qb⟩)

/-! ### methods of lists -/
def mMeth (m : ME) (ml : ML) (f : PV → List PV → Ms → Out PV) : ME := fun env S => (m env S).bind fun x S1 => if (lstOf S1 x).isSome then (ml env S1).bind fun xs S2 => f x xs S2 else .fail
def OM (X : Cx) (W : WX) (f : PV → List PV → Ms → Out PV) (r : V → List V → Hp → VK → Prop) : Prop :=
  ∀ ρ S H σ Q x x' xs xs', HR X.K X.mg ρ S H → VR X.K H ρ x x' → VRs X.K H ρ xs xs' → Post X.K X.mg ρ H σ W Q (f x xs S) → r x' xs' H Q
theorem tyL_ok {ρ : List Addr} {S : Ms} {H : Hp} {x : PV} {x' : V} (R : HR X.K X.mg ρ S H) (r : VR X.K H ρ x x') (h : (lstOf S x).isSome = true) : tyV X.K "list" x' H := by
  cases e : lstOf S x with
  | none => rw [e] at h; cases h
  | some xs =>
    obtain ⟨a, vs, rfl, _, hs⟩ := lstOf_ok R r e
    exact .inl ⟨rfl, vs, hs⟩
theorem s_bmL {name : Str} {id : String} {apos cpos : Pos} {f : PV → List PV → Ms → Out PV} {r : V → List V → Hp → VK → Prop} (slot : Slot "list" name id) (hty : typeOf (.builtin id) = pure (.type "method_descriptor")) (hm : MtR X id r) (hf : OM X W f r) (ho : SE X W o m) (ha : SA X W (e :: es) ml)
    (hbase : attributeBase o name X.env (eval o X.env) = eval o X.env := by rfl)
    (hfew : ((backTo cpos (starEach (e :: es) X.env)).all (fun x => !x.1) && (backToKw cpos (keywordEach [] X.env)).all (fun x => x.1.isSome)
      && decide ((e :: es).length + ([] : List Keyword).length + (if ([] : List Keyword).isEmpty then 0 else 1) < 30)) = true := by rfl)
    (hline : (apos.endLine == cpos.line) = true := by rfl) (hs : starEach (e :: es) X.env = (false, eval e X.env) :: starEach es X.env := by rfl) (hplain : (backTo cpos (starEach es X.env)).any (·.1) = false := by rfl) :
    SE X W (.Call (.Attribute o name apos) (e :: es) [] cpos) (mMeth m ml f) :=
  let ⟨_, pa, qa⟩ := ho; let ⟨_, pb, qb⟩ := ha
  ⟨_, pe_bm PySem.F.plainAttrs_list slot hty hm pa pb hbase hfew hline hs hplain, fun ρ env S σ H Q R er h => by
    refine qa ρ env S σ H _ R er ?_
    unfold mMeth at h
    cases e : m env S with
    | fail => rw [e] at h; exact h.elim
    | exc x S => rw [e] at h; exact h
    | ret x S1 =>
      rw [e] at h
      intro ρ1 x' H1 g1 R1 e1 r1
      have h := Post.mono g1 e1 h
      simp only [Out.bind] at h
      split at h
      · rename_i hl
        refine ⟨tyL_ok R1 r1 hl, ?_⟩
        exact args_ok qb ρ1 env S1 σ H1 Q (fun ρ' S' H' xs xs' g e R' r h' => hf ρ' S' H' σ Q x x' xs xs' R' (r1.mono e g) r h') R1 (er.mono e1 g1) h
      · exact h.elim⟩
theorem s_bmL0 {name : Str} {id : String} {apos cpos : Pos} {f : PV → List PV → Ms → Out PV} {r : V → List V → Hp → VK → Prop} (slot : Slot "list" name id) (hty : typeOf (.builtin id) = pure (.type "method_descriptor")) (hm : MtR X id r) (hf : OM X W f r) (ho : SE X W o m)
    (hbase : attributeBase o name X.env (eval o X.env) = eval o X.env := by rfl) (hline : (apos.endLine == cpos.line) = true := by rfl) :
    SE X W (.Call (.Attribute o name apos) [] [] cpos) (mMeth m mNil f) :=
  let ⟨_, pa, qa⟩ := ho
  ⟨_, pe_bm0 PySem.F.plainAttrs_list slot hty hm pa hbase hline, fun ρ env S σ H Q R er h => by
    refine qa ρ env S σ H _ R er ?_
    unfold mMeth at h
    cases e : m env S with
    | fail => rw [e] at h; exact h.elim
    | exc x S => rw [e] at h; exact h
    | ret x S1 =>
      rw [e] at h
      intro ρ1 x' H1 g1 R1 e1 r1
      have h := Post.mono g1 e1 h
      simp only [Out.bind] at h
      split at h
      · rename_i hl
        refine ⟨tyL_ok R1 r1 hl, ?_⟩
        exact hf ρ1 S1 H1 σ Q x x' [] [] R1 r1 .nil h
      · exact h.elim⟩
def oAppend : PV → List PV → Ms → Out PV
  | .loc n, [y], S => (match S[n]? with | some (.lst xs) => if xs.length < lim then .ret .non (S.set n (.lst (xs ++ [y]))) else .fail | _ => .fail)
  | _, _, _ => .fail
theorem Post.put {ρ : List Addr} {H : Hp} {σ : L2.St} {S : Ms} {Q : VK} {nn : Nat} {aa : Addr} {v : PV} {v' : V} {xs : List PV} {vs ws : List V} (R : HR X.K X.mg ρ S H) (en : ρ[nn]? = some aa) (h1 : H aa = some (.lst vs)) (r : VRs X.K H ρ xs ws) (rv : VR X.K H ρ v v')
    (h : Post X.K X.mg ρ H σ W Q (.ret v (S.set nn (.lst xs)))) : Q v' (upd H aa (.lst ws)) :=
  h ρ v' _ (.refl _) (R.put en h1 soft_lst (.lst r)) (.put h1 soft_lst) (rv.mono (.put h1 soft_lst) (.refl _))
theorem o_append : OM X W oAppend rAppend := by
  intro ρ S H σ Q x x' xs xs' R rx rxs h
  unfold oAppend at h
  split at h
  · obtain ⟨v, rfl, rv⟩ := vrs1 rxs
    cases rx with
    | loc en =>
      split at h
      · rename_i q
        split at h
        · rename_i hl
          obtain ⟨vs, h1, h2⟩ := R.lst en q
          exact ⟨_, vs, v, rfl, rfl, h1, by rw [h2.length]; exact Nat.lt_of_lt_of_le hl (by decide), Post.put R en h1 (h2.append (.cons rv .nil)) .non h⟩
        · exact h.elim
      · exact h.elim
  · exact h.elim
def oPop : PV → List PV → Ms → Out PV
  | .loc n, [], S => (match S[n]? with | some (.lst xs) => (match xs[xs.length - 1]? with | some y => .ret y (S.set n (.lst xs.dropLast)) | none => .fail) | _ => .fail)
  | .loc n, [.int i], S => (match S[n]? with
    | some (.lst xs) => if -(2 ^ 63) ≤ i ∧ i < 2 ^ 63 then (match seqIndex? i xs.length with
      | some k => (match xs[k]? with | some y => .ret y (S.set n (.lst (xs.eraseIdx k))) | none => .fail)
      | none => .fail) else .fail
    | _ => .fail)
  | _, _, _ => .fail
def rPop2 : V → List V → Hp → VK → Prop := fun x xs H Q => rPop x xs H Q ∨ rPopAt x xs H Q
theorem mt_pop2 : MtR X "list.pop" rPop2 := MtR.or mt_pop mt_popAt
theorem vrs_dropLast {K : PySem.W.Frag} {H : Hp} {ρ : List Addr} {xs : List PV} {vs : List V} (h : VRs K H ρ xs vs) : VRs K H ρ xs.dropLast vs.dropLast := by
  rw [List.dropLast_eq_take, List.dropLast_eq_take, h.length]; exact h.take _
theorem o_pop : OM X W oPop rPop2 := by
  intro ρ S H σ Q x x' xs xs' R rx rxs h
  unfold oPop at h
  split at h
  · cases rxs
    cases rx with
    | loc en =>
      split at h
      · rename_i q
        split at h
        · rename_i y qy
          obtain ⟨vs, h1, h2⟩ := R.lst en q
          obtain ⟨y', e1, r1⟩ := h2.get qy
          exact .inl ⟨_, vs, y', rfl, rfl, h1, by rw [h2.length]; exact e1, Post.put R en h1 (vrs_dropLast h2) r1 h⟩
        · exact h.elim
      · exact h.elim
  · obtain ⟨v, rfl, rv⟩ := vrs1 rxs
    cases rv
    cases rx with
    | loc en =>
      split at h
      · rename_i q
        split at h
        · rename_i hb
          split at h
          · rename_i kk qk
            split at h
            · rename_i y qy
              obtain ⟨vs, h1, h2⟩ := R.lst en q
              obtain ⟨y', e1, r1⟩ := h2.get qy
              exact .inr ⟨_, vs, _, kk, y', rfl, rfl, h1, hb.1, hb.2, by rw [h2.length]; exact qk, e1, Post.put R en h1 (h2.eraseIdx kk) r1 h⟩
            · exact h.elim
          · exact h.elim
        · exact h.elim
      · exact h.elim
  · exact h.elim
def oExtend : PV → List PV → Ms → Out PV
  | .loc n, [.loc k], S => (match S[n]?, S[k]? with | some (.lst xs), some (.lst ys) => if xs.length + ys.length ≤ lim then .ret .non (S.set n (.lst (xs ++ ys))) else .fail | _, _ => .fail)
  | _, _, _ => .fail
theorem o_extend : OM X W oExtend rExtend := by
  intro ρ S H σ Q x x' xs xs' R rx rxs h
  unfold oExtend at h
  split at h
  · obtain ⟨v, rfl, rv⟩ := vrs1 rxs
    cases rx with
    | loc en => cases rv with
      | loc ek =>
        split at h
        · rename_i q1 q2
          split at h
          · rename_i hl
            obtain ⟨vs, h1, h2⟩ := R.lst en q1
            obtain ⟨ws, h3, h4⟩ := R.lst ek q2
            exact ⟨_, _, vs, ws, rfl, rfl, h1, h3, by rw [h2.length, h4.length]; exact lim_le hl, Post.put R en h1 (h2.append h4) .non h⟩
          · exact h.elim
        · exact h.elim
  · exact h.elim
def oReverse : PV → List PV → Ms → Out PV
  | .loc n, [], S => (match S[n]? with | some (.lst xs) => .ret .non (S.set n (.lst xs.reverse)) | _ => .fail)
  | _, _, _ => .fail
theorem o_reverse : OM X W oReverse rReverse := by
  intro ρ S H σ Q x x' xs xs' R rx rxs h
  unfold oReverse at h
  split at h
  · cases rxs
    cases rx with
    | loc en =>
      split at h
      · rename_i q
        obtain ⟨vs, h1, h2⟩ := R.lst en q
        exact ⟨_, vs, rfl, rfl, h1, Post.put R en h1 h2.reverse .non h⟩
      · exact h.elim
  · exact h.elim
end
end MP

set_option maxRecDepth 100000
namespace MP
open PySem PySem.Spec PyProof.Rows L2
section
variable {X : Cx} {W : WX} {a b c e o tg : Expr} {es rest : List Expr} {pos : Pos} {m n k : ME} {ml mk : ML} {t u : MB} {st : Stmt} {sts : List Stmt} {p q : MS} {kws : List Keyword}

/-! ### isinstance against built-in classes -/
def tyName (S : Ms) : PV → Option String
  | .non => some "NoneType"
  | .bl _ => some "bool"
  | .int _ => some "int"
  | .str _ => some "str"
  | .tup _ => some "tuple"
  | .rol _ => some "list"
  | .loc n => match S[n]? with | some (.lst _) => some "list" | some (.dK _) => some "dict" | some (.dT _) => some "dict" | _ => none
/-- is an object of the first class one of the second? -/
def isiB (a b : String) : Bool := a == b || (a == "bool" && b == "int")
def knownTy : List String := ["int", "bool", "str", "tuple", "list", "dict"]
theorem kit_int : ∀ a ∈ ["NoneType", "bool", "int", "str", "tuple", "list", "dict"], kitB a "int" = some (isiB a "int") := by decide +kernel
theorem kit_bool : ∀ a ∈ ["NoneType", "bool", "int", "str", "tuple", "list", "dict"], kitB a "bool" = some (isiB a "bool") := by decide +kernel
theorem kit_str : ∀ a ∈ ["NoneType", "bool", "int", "str", "tuple", "list", "dict"], kitB a "str" = some (isiB a "str") := by decide +kernel
theorem kit_tuple : ∀ a ∈ ["NoneType", "bool", "int", "str", "tuple", "list", "dict"], kitB a "tuple" = some (isiB a "tuple") := by decide +kernel
theorem kit_list : ∀ a ∈ ["NoneType", "bool", "int", "str", "tuple", "list", "dict"], kitB a "list" = some (isiB a "list") := by decide +kernel
/-- a class that isinstance may ask for, as the program names it -/
structure TyN (T : String) : Prop where
  kit : ∀ a ∈ ["NoneType", "bool", "int", "str", "tuple", "list", "dict"], kitB a T = some (isiB a T)
theorem ty_int : TyN "int" := ⟨kit_int⟩
theorem ty_bool : TyN "bool" := ⟨kit_bool⟩
theorem ty_str : TyN "str" := ⟨kit_str⟩
theorem ty_tuple : TyN "tuple" := ⟨kit_tuple⟩
theorem ty_list : TyN "list" := ⟨kit_list⟩
theorem tyx_ok {ρ : List Addr} {S : Ms} {H : Hp} {x : PV} {x' : V} {T : String} (R : HR X.K X.mg ρ S H) (r : VR X.K H ρ x x') (h : tyName S x = some T) :
    TyX X.K H x' (.type T) ∧ T ∈ ["NoneType", "bool", "int", "str", "tuple", "list", "dict"] := by
  cases r with
  | non => cases h; exact ⟨.base .non, by decide⟩
  | bl b => cases h; exact ⟨.base (.bl b), by decide⟩
  | int b => cases h; exact ⟨.base (.int b), by decide⟩
  | str b => cases h; exact ⟨.base (.str b), by decide⟩
  | tup hx ax => cases h; exact ⟨.base (.tup hx), by decide⟩
  | rol hx ax =>
    cases h
    refine ⟨?_, by decide⟩
    rcases hx with ⟨o, hx⟩ | ⟨o, its, nn, h1, h2, _⟩
    · exact .base (.frz hx)
    · exact .kList h1 h2
  | loc en =>
    simp only [tyName] at h
    split at h
    · rename_i q; cases h; obtain ⟨vs, h1, _⟩ := R.lst en q; exact ⟨.base (.lst h1), by decide⟩
    · rename_i q; cases h; obtain ⟨vs, h1, _⟩ := R.dK en q; exact ⟨.base (.dK h1), by decide⟩
    · rename_i q; cases h; obtain ⟨vs, h1, _⟩ := R.dT en q; exact ⟨.base (.dT h1), by decide⟩
    · cases h
def oIsi (Ts : List String) (x : PV) (S : Ms) : Out PV := match tyName S x with | some T => .ret (.bl (Ts.any fun U => isiB T U)) S | none => .fail
theorem s_isi {T : String} {pp p2 : Pos} {x2 : Str} (ht : TyN T) (ha : SE X W a m) (hm : X.mg "isinstance" = none) (hm2 : X.mg x2 = none) (hb : bootBuiltins x2 = some (.type T)) (hg : Gl X "isinstance" := by rfl) (hg2 : Gl X x2 := by rfl) (hn2 : x2 ≠ "__name__" := by decide) (hd2 : (x2 == ("__debug__" : Str)) = false := by decide)
    (he : starEach [a, .Name x2 p2] X.env = (false, eval a X.env) :: starEach [.Name x2 p2] X.env := by rfl) (he2 : starEach [.Name x2 p2] X.env = (false, eval (.Name x2 p2) X.env) :: starEach [] X.env := by rfl) (hpl : (backTo pos (starEach [.Name x2 p2] X.env)).any (·.1) = false := by rfl) :
    SE X W (.Call (.Name "isinstance" pp) [a, .Name x2 p2] [] pos) (m1 m (oIsi [T])) :=
  let ⟨ta, pa, qa⟩ := ha
  ⟨_, pe_callB call_isi hg hm (by decide +kernel) (pa_cons pa (pa_cons (pe_bltn (v := .ty T) hg2 hm2 hb rfl hn2 hd2) pa_nil he2) he) (by decide) (by decide) he hpl, fun ρ env S σ H Q R er h => by
    refine qa ρ env S σ H _ R er ?_
    unfold m1 at h
    cases e : m env S with
    | fail => rw [e] at h; exact h.elim
    | exc x S => rw [e] at h; exact h
    | ret x S1 =>
      rw [e] at h
      intro ρ1 x' H1 g1 R1 e1 r1
      have h := Post.mono g1 e1 h
      simp only [Out.bind, oIsi] at h
      cases q : tyName S1 x with
      | none => simp only [q] at h; exact h.elim
      | some U =>
        simp only [q] at h
        obtain ⟨h1, h2⟩ := tyx_ok R1 r1 q
        refine ⟨x', .ty T, .type U, .type T, isiB U T, rfl, .ty T, h1, kit_ty (ht.kit U h2), ?_⟩
        have e3 : ([T].any fun V => isiB U V) = isiB U T := by simp
        rw [e3] at h
        exact Post.now R1 (.bl _) h⟩
theorem s_isi2 {T T' : String} {pp p2 p3 tp : Pos} {kk} {x2 x3 : Str} (ht : TyN T) (ht' : TyN T') (ha : SE X W a m) (hm : X.mg "isinstance" = none) (hm2 : X.mg x2 = none) (hb : bootBuiltins x2 = some (.type T)) (hm3 : X.mg x3 = none) (hb3 : bootBuiltins x3 = some (.type T')) (hg : Gl X "isinstance" := by rfl) (hg2 : Gl X x2 := by rfl) (hg3 : Gl X x3 := by rfl) (hn2 : x2 ≠ "__name__" := by decide) (hd2 : (x2 == ("__debug__" : Str)) = false := by decide) (hn3 : x3 ≠ "__name__" := by decide) (hd3 : (x3 == ("__debug__" : Str)) = false := by decide)
    (he : starEach [a, .Tuple [.Name x2 p2, .Name x3 p3] kk tp] X.env = (false, eval a X.env) :: starEach [.Tuple [.Name x2 p2, .Name x3 p3] kk tp] X.env := by rfl) (he2 : starEach [.Tuple [.Name x2 p2, .Name x3 p3] kk tp] X.env = (false, eval (.Tuple [.Name x2 p2, .Name x3 p3] kk tp) X.env) :: starEach [] X.env := by rfl)
    (he3 : starEach [.Name x2 p2, .Name x3 p3] X.env = (false, eval (.Name x2 p2) X.env) :: starEach [.Name x3 p3] X.env := by rfl) (he4 : starEach [.Name x3 p3] X.env = (false, eval (.Name x3 p3) X.env) :: starEach [] X.env := by rfl)
    (hpl : (backTo pos (starEach [.Tuple [.Name x2 p2, .Name x3 p3] kk tp] X.env)).any (·.1) = false := by rfl) :
    SE X W (.Call (.Name "isinstance" pp) [a, .Tuple [.Name x2 p2, .Name x3 p3] kk tp] [] pos) (m1 m (oIsi [T, T'])) :=
  let ⟨ta, pa, qa⟩ := ha
  ⟨_, pe_callB call_isiT hg hm (by decide +kernel) (pa_cons pa (pa_cons (pe_tup (pa_cons (pe_bltn (v := .ty T) hg2 hm2 hb rfl hn2 hd2) (pa_cons (pe_bltn (v := .ty T') hg3 hm3 hb3 rfl hn3 hd3) pa_nil he4) he3)) pa_nil he2) he) (by decide) (by decide) he hpl, fun ρ env S σ H Q R er h => by
    refine qa ρ env S σ H _ R er ?_
    unfold m1 at h
    cases e : m env S with
    | fail => rw [e] at h; exact h.elim
    | exc x S => rw [e] at h; exact h
    | ret x S1 =>
      rw [e] at h
      intro ρ1 x' H1 g1 R1 e1 r1
      have h := Post.mono g1 e1 h
      simp only [Out.bind, oIsi] at h
      cases q : tyName S1 x with
      | none => simp only [q] at h; exact h.elim
      | some U =>
        simp only [q] at h
        refine ⟨by show 2 ≤ sizeLine; decide, fun tp htp => ?_⟩
        have R2 := R1.newTup (vs := [V.ty T, V.ty T']) htp
        have r2 := r1.mono (.new htp (o := .tup [V.ty T, V.ty T'])) (.refl _)
        obtain ⟨h1, h2⟩ := tyx_ok R2 r2 q
        have e3 : ([T, T'].any fun V => isiB U V) = (isiB U T || isiB U T') := by simp
        rw [e3] at h
        refine ⟨x', tp, [.ty T, .ty T'], .type U, [.type T, .type T'], isiB U T || isiB U T', rfl, upd_same, .cons (.ty T) (.cons (.ty T') .nil), h1, ?_, ?_⟩
        · exact kitAny_cons (kit_ty (ht.kit U h2)) (fun z => kitAny_cons (kit_ty (ht'.kit U h2)) (fun z' => by rw [z, z']; exact kitAny_nil) (fun z' => by rw [z']; simp)) (fun z => by rw [z]; rfl)
        · exact h _ _ _ (.refl _) R2 (.new htp) (.bl _)⟩

/-! ### list(range(..)), tuple(range(..)) -/
def rgP (a b : Int) : List PV := (List.range (b - a).toNat).map fun i => PV.int (a + (i : Nat))
theorem rg_ok {K : PySem.W.Frag} {H : Hp} {ρ : List Addr} (a b : Int) : VRs K H ρ (rgP a b) (rgV a b) := by
  unfold rgP rgV
  induction (List.range (b - a).toNat) with
  | nil => exact .nil
  | cons i r ih => exact .cons (.int _) ih
instance (a b : Int) : Decidable (RgOk a b) := by unfold RgOk; infer_instance
def oListRg1 : PV → Ms → Out PV
  | .int nn, S => if RgOk 0 nn ∧ (rgP 0 nn).length ≤ lim then .ret (.loc S.length) (S ++ [.lst (rgP 0 nn)]) else .fail
  | _, _ => .fail
def oTupRg1 : PV → Ms → Out PV
  | .int nn, S => if RgOk 0 nn ∧ (rgP 0 nn).length ≤ lim then .ret (.tup (rgP 0 nn)) S else .fail
  | _, _ => .fail
theorem s_listRg1 {pp p2 p3 : Pos} (hc : X.calm = true) (ha : SE X W a m) (hm : X.mg "list" = none) (hm2 : X.mg "range" = none) (hg : Gl X "list" := by rfl) (hg2 : Gl X "range" := by rfl)
    (na : starEach [.Call (.Name "range" p2) [a] [] p3] X.env = (false, eval (.Call (.Name "range" p2) [a] [] p3) X.env) :: starEach [] X.env := by rfl) (na2 : starEach [a] X.env = (false, eval a X.env) :: starEach [] X.env := by rfl) :
    SE X W (.Call (.Name "list" pp) [.Call (.Name "range" p2) [a] [] p3] [] pos) (m1 m oListRg1) :=
  let ⟨ta, pa, qa⟩ := ha
  ⟨_, pe_listRg hc hg hm (prg_1 hg2 hm2 pa na2) na, fun ρ env S σ H Q R er h => by
    refine un_ok (r := fun x H1 Q => ∃ nn, x = .int nn ∧ RgOk 0 nn ∧ ∀ q, H1 q = none → Q (.ref q) (upd H1 q (.lst (rgV 0 nn)))) qa (fun ρ S H σ Q x x' R r h => ?_) ρ env S σ H Q R er h
    unfold oListRg1 at h
    split at h
    · cases r
      split at h
      · rename_i hh; exact ⟨_, rfl, hh.1, fun q hq => new_list R (rg_ok _ _) h hq⟩
      · exact h.elim
    · exact h.elim⟩
theorem s_tupRg1 {pp p2 p3 : Pos} (hc : X.calm = true) (ha : SE X W a m) (hm : X.mg "tuple" = none) (hm2 : X.mg "range" = none) (hg : Gl X "tuple" := by rfl) (hg2 : Gl X "range" := by rfl)
    (na : starEach [.Call (.Name "range" p2) [a] [] p3] X.env = (false, eval (.Call (.Name "range" p2) [a] [] p3) X.env) :: starEach [] X.env := by rfl) (na2 : starEach [a] X.env = (false, eval a X.env) :: starEach [] X.env := by rfl) :
    SE X W (.Call (.Name "tuple" pp) [.Call (.Name "range" p2) [a] [] p3] [] pos) (m1 m oTupRg1) :=
  let ⟨ta, pa, qa⟩ := ha
  ⟨_, pe_tupRg hc hg hm (prg_1 hg2 hm2 pa na2) na, fun ρ env S σ H Q R er h => by
    refine un_ok (r := fun x H1 Q => ∃ nn, x = .int nn ∧ RgOk 0 nn ∧ ∀ q, H1 q = none → Q (.ref q) (upd H1 q (.tup (rgV 0 nn)))) qa (fun ρ S H σ Q x x' R r h => ?_) ρ env S σ H Q R er h
    unfold oTupRg1 at h
    split at h
    · cases r
      split at h
      · rename_i hh; exact ⟨_, rfl, hh.1, fun q hq => new_tup R (rg_ok _ _) h hq⟩
      · exact h.elim
    · exact h.elim⟩

/-! ### index, remove, count -/
def oIndex : PV → List PV → Ms → Out PV
  | x, [y], S => (match (lstOf S x).bind flatPs, flatP y with
    | some vs, some v => (match vs.findIdx? (fun z => eqV z v) with | some j => .ret (.int (j : Nat)) S | none => .fail)
    | _, _ => .fail)
  | _, _, _ => .fail
theorem o_index : OM X W oIndex (rIndex X.K) := by
  intro ρ S H σ Q x x' xs xs' R rx rxs h
  unfold oIndex at h
  split at h
  · rename_i y
    obtain ⟨v, rfl, rv⟩ := vrs1 rxs
    cases e : lstOf S x with
    | none => simp only [e, Option.bind] at h; exact h.elim
    | some ys =>
      simp only [e, Option.bind] at h
      split at h
      · rename_i vs w q1 q2
        obtain ⟨a, us, rfl, hv, hs⟩ := lstOf_ok R rx e
        obtain ⟨h1, h2⟩ := flat_ok rv q2
        obtain ⟨h3, h4⟩ := flats_ok hv q1
        subst h1; subst h3
        split at h
        · rename_i j qj
          rw [List.findIdx?_eq_some_iff_getElem] at qj
          obtain ⟨hj, hz, hno⟩ := qj
          refine ⟨a, us, v, j, us[j], rfl, rfl, hs, h2, h4, List.getElem?_eq_getElem hj, hz, fun mm z' hm hz' => ?_, Post.now R (.int _) h⟩
          obtain ⟨hl, rfl⟩ := List.getElem?_eq_some_iff.mp hz'
          have := hno mm hm
          simpa using this
        · exact h.elim
      · exact h.elim
  · exact h.elim
def oRemove : PV → List PV → Ms → Out PV
  | .loc nn, [.int k], S => (match S[nn]? with
    | some (.lst xs) => (match intsP xs with
      | some ns => (match ns.findIdx? (fun z => z == k) with | some j => .ret .non (S.set nn (.lst (xs.eraseIdx j))) | none => .fail)
      | none => .fail)
    | _ => .fail)
  | _, _, _ => .fail
theorem map_eraseIdx {α β : Type} (f : α → β) : ∀ (l : List α) (j : Nat), (l.map f).eraseIdx j = (l.eraseIdx j).map f
  | [], _ => rfl
  | _ :: _, 0 => rfl
  | x :: l, j + 1 => by show f x :: (l.map f).eraseIdx j = f x :: (l.eraseIdx j).map f; rw [map_eraseIdx f l j]
theorem o_remove : OM X W oRemove rRemI := by
  intro ρ S H σ Q x x' xs xs' R rx rxs h
  unfold oRemove at h
  split at h
  · obtain ⟨v, rfl, rv⟩ := vrs1 rxs
    cases rv
    cases rx with
    | loc en =>
      split at h
      · rename_i xs q
        split at h
        · rename_i ns qi
          split at h
          · rename_i j qj
            have e := ints_ok qi
            subst e
            obtain ⟨vs, h1, h2⟩ := R.lst en q
            have e2 := VRs.ints_inv h2
            subst e2
            rw [List.findIdx?_eq_some_iff_getElem] at qj
            obtain ⟨hj, hz, hno⟩ := qj
            have ez : ns[j] = _ := of_decide_eq_true hz
            refine ⟨_, ns, _, j, rfl, rfl, h1, ?_, fun mm hm hz' => ?_, ?_⟩
            · rw [List.getElem?_eq_getElem hj, ez]
            · obtain ⟨hl, e⟩ := List.getElem?_eq_some_iff.mp hz'
              have := hno mm hm
              rw [e] at this
              simp at this
            · rw [map_eraseIdx] at h
              exact Post.put R en h1 (VRs.ints _) .non h
          · exact h.elim
        · exact h.elim
      · exact h.elim
  · exact h.elim
def oCount : PV → List PV → Ms → Out PV
  | x, [.int k], S => (match (lstOf S x).bind intsP with | some ns => .ret (.int (ns.count k : Nat)) S | none => .fail)
  | _, _, _ => .fail
theorem o_count : OM X W oCount (rCntI X.K) := by
  intro ρ S H σ Q x x' xs xs' R rx rxs h
  unfold oCount at h
  split at h
  · rename_i kk
    obtain ⟨v, rfl, rv⟩ := vrs1 rxs
    cases rv
    cases e : lstOf S x with
    | none => simp only [e, Option.bind] at h; exact h.elim
    | some ys =>
      simp only [e, Option.bind] at h
      split at h
      · rename_i ns q
        obtain ⟨a, us, rfl, hv, hs⟩ := lstOf_ok R rx e
        have e := ints_ok q
        subst e
        have e2 := VRs.ints_inv hv
        subst e2
        exact ⟨_, _, _, rfl, rfl, hs, Post.now R (.int _) h⟩
      · exact h.elim
  · exact h.elim

/-! ### new dicts, d.get -/
def mNewK : ME := fun _ S => .ret (.loc S.length) (S ++ [.dK []])
def mNewT : ME := fun _ S => .ret (.loc S.length) (S ++ [.dT []])
theorem s_newK : SE X W (.Dict [] [] pos) mNewK := ⟨_, pe_dnewK, fun ρ env S σ H Q R er h p hp => h (ρ ++ [p]) _ _ (.snoc _ _) (R.new hp (.dK .nil)) (.new hp) (by rw [← R.len]; exact .new)⟩
theorem s_newT : SE X W (.Dict [] [] pos) mNewT := ⟨_, pe_dnewT, fun ρ env S σ H Q R er h p hp => h (ρ ++ [p]) _ _ (.snoc _ _) (R.new hp (.dT .nil)) (.new hp) (by rw [← R.len]; exact .new)⟩
def mGet2 (m n k : ME) : ME := fun env S => (m env S).bind fun d S1 => if isDict S1 d then (n env S1).bind fun y S2 => (k env S2).bind fun z S3 => (match dGet S3 d y with | some r => .ret (r.getD z) S3 | none => .fail) else .fail
theorem isD_ok {ρ : List Addr} {S : Ms} {H : Hp} {d : PV} {d' : V} (R : HR X.K X.mg ρ S H) (r : VR X.K H ρ d d') (h : isDict S d = true) : ∃ a, d' = .ref a ∧ (IsD H a ∨ ∃ o u, H a = some (.frz o u)) := by
  cases r with
  | loc en =>
    simp only [isDict] at h
    split at h
    · rename_i q; obtain ⟨vs, h1, _⟩ := R.dK en q; exact ⟨_, rfl, .inl (.inl ⟨vs, .of h1⟩)⟩
    · rename_i q; obtain ⟨vs, h1, _⟩ := R.dT en q; exact ⟨_, rfl, .inl (.inr ⟨vs, .of h1⟩)⟩
    · rename_i q; obtain ⟨u, oj, h1, _⟩ := R.lk en q; exact ⟨_, rfl, .inr ⟨_, _, h1⟩⟩
    · cases h
  | non => cases h
  | bl b => cases h
  | int b => cases h
  | str b => cases h
  | tup _ _ => cases h
  | rol _ _ => cases h
end

/-! ### the law -/
theorem law_sp {K : PySem.W.Frag} {H : Hp} {aa : Addr} {ns : List Int} {G : List PV → Ms → Out PV} {mg : Str → Option Value} (hO : Only H) (hS : SqL K H aa (ns.map V.int)) (h : ∃ S', G [.rol (ns.map PV.int)] [] = .ret (.bl true) S') :
    spF K mg 1 G [.ref aa] H (fun v _ => v = .bl true) fun _ _ _ => False := by
  obtain ⟨S', h⟩ := h
  refine ⟨rfl, [], [], [.rol (ns.map PV.int)], ⟨rfl, List.nodup_nil, fun nn o e => by simp at e⟩, .cons (.rol ?_ (VRs.ints ns)) .nil, ?_⟩
  · rcases hS with (hS | ⟨o, hS⟩) | hS
    · rcases hO aa with z | ⟨o, xs, z⟩
      · rw [z] at hS; cases hS
      · rw [z] at hS; cases hS
    · exact .inl ⟨o, hS⟩
    · exact .inr hS
  · rw [h]
    intro ρ' v' H' _ _ _ r
    cases r; rfl
def spL (K : PySem.W.Frag) (G : List PV → Ms → Out PV) : Sp := fun vs H Q E => ∀ mg, spF K mg 1 G vs H Q E
theorem law_spL {K : PySem.W.Frag} {H : Hp} {aa : Addr} {ns : List Int} {G : List PV → Ms → Out PV} (hO : Only H) (hS : SqL K H aa (ns.map V.int)) (h : ∃ S', G [.rol (ns.map PV.int)] [] = .ret (.bl true) S') :
    spL K G [.ref aa] H (fun v _ => v = .bl true) fun _ _ _ => False := fun _ => law_sp hO hS h
theorem cx_end {P : Program} {w : World} (H : Hp) (s : Shared) (e : Value) (s' : Shared) (h : L2.CX P w [] H s (fun _ _ _ => False) e s') : False := by
  obtain ⟨_, _, _, _, _, _, _, _, _, _, _, _, z⟩ := h
  exact z
end MP

set_option maxRecDepth 100000
namespace MP
open PySem PySem.Spec PyProof.Rows L2
theorem hu65 {A : Around} {k : Nat} (hr : Room k A) : A.units + 65 < cLine := by have := hr.un; omega
theorem _root_.L2.Fun.kbn {K : PySem.W.Frag} {x qual : Str} {st : Stmt} {f : Addr} {fd : FuncData} {ps : List Str} {nn : Nat} (is : List Nat) {ks : List Str} (F : Fun K x qual st f fd)
    (h : ∀ (kV doc pm : Value) (an : Option Addr) (cdv ct : Value) (us ws : List Value), us.length = nn → ws.length = ks.length → bindArgs (PySem.W.fnOf x qual (defArgs st) (defBody st) (defScope st) .none kV doc pm an cdv ct) ⟨us, ks.zip ws⟩ = pure (ps.zip (gOf .none is us ws))) :
    KBn K fd ps nn ks (gOf .none is) (gOf .non is) := by
  obtain ⟨oc, od, kV, doc, pm, an, cdv, ct, osl, rfl, lk, hcd⟩ := F.ex
  exact kbn_mk is (h kV doc pm an cdv ct)
section
variable {X : Cx} {W : WX} {a b c e o tg : Expr} {es rest : List Expr} {pos : Pos} {m n k : ME} {ml mk : ML} {t u : MB} {st : Stmt} {sts : List Stmt} {p q : MS} {kws : List Keyword}
def oAddI : PV → PV → Ms → Out PV
  | .int i, .int j, S => .ret (.int (i + j)) S
  | _, _, _ => .fail
theorem o_addI : O2 X W oAddI (rI0 fun i j => V.int (i + j)) := by
  intro ρ S H σ Q x y x' y' R rx ry h
  unfold oAddI at h
  split at h
  · cases rx; cases ry; exact ⟨_, _, rfl, rfl, Post.now R (.int _) h⟩
  · exact h.elim
def oMulI : PV → PV → Ms → Out PV
  | .int i, .int j, S => if CMul i j then .ret (.int (i * j)) S else .fail
  | _, _, _ => .fail
theorem o_mulI : O2 X W oMulI (rI CMul fun i j => V.int (i * j)) := by
  intro ρ S H σ Q x y x' y' R rx ry h
  unfold oMulI at h
  split at h
  · cases rx; cases ry
    split at h
    · rename_i hc; exact ⟨_, _, rfl, rfl, hc, Post.now R (.int _) h⟩
    · exact h.elim
  · exact h.elim
/-- is True -/
def oIsBl : PV → PV → Ms → Out PV
  | .bl x, .bl y, S => .ret (.bl (decide (x = y))) S
  | _, _, _ => .fail
def oIsNotBl : PV → PV → Ms → Out PV
  | .bl x, .bl y, S => .ret (.bl (!decide (x = y))) S
  | _, _, _ => .fail
theorem o_isBl : O2 X W oIsBl rIsB := by
  intro ρ S H σ Q x y x' y' R rx ry h
  unfold oIsBl at h
  split at h
  · cases rx; cases ry; exact ⟨_, _, rfl, rfl, Post.now R (.bl _) h⟩
  · exact h.elim
theorem o_isNotBl : O2 X W oIsNotBl rNotB := by
  intro ρ S H σ Q x y x' y' R rx ry h
  unfold oIsNotBl at h
  split at h
  · cases rx; cases ry; exact ⟨_, _, rfl, rfl, Post.now R (.bl _) h⟩
  · exact h.elim
def sPar3 (i j l : Nat) (a b c : ME) : MS := fun env S => match mCons a (mCons b (mCons c mNil)) env S with
  | .ret [v, w, z] S1 => .nx (((env.set i (some v)).set j (some w)).set l (some z)) S1
  | .exc x S1 => .exc env x S1
  | _ => .fail
theorem ss_par3 {i j l : Nat} {x y z : Str} {px py pz pt : Pos} {kt k2 pt2} (hc : X.calm = true) (hN : X.N.Nodup) (ha : SE X W a m) (hb : SE X W b n) (hcc : SE X W c k) (hi : X.N[i]? = some x := by rfl) (hj : X.N[j]? = some y := by rfl) (hl : X.N[l]? = some z := by rfl)
    (hij : i ≠ j := by decide) (hil : i ≠ l := by decide) (hjl : j ≠ l := by decide)
    (hx : X.env.scope.names.lookup x = some .local := by rfl) (hy : X.env.scope.names.lookup y = some .local := by rfl) (hz : X.env.scope.names.lookup z = some .local := by rfl)
    (hw : swappedStores [.Tuple [.Name x px, .Name y py, .Name z pz] kt pt] (.Tuple [a, b, c] k2 pt2) X.env = pure (some [x, y, z]) := by rfl)
    (hs : swapsWithSole [.Tuple [.Name x px, .Name y py, .Name z pz] kt pt] (.Tuple [a, b, c] k2 pt2) pos.line X.env = pure false := by rfl)
    (h1 : starEach [a, b, c] X.env = (false, eval a X.env) :: starEach [b, c] X.env := by rfl) (h2 : starEach [b, c] X.env = (false, eval b X.env) :: starEach [c] X.env := by rfl) (h3 : starEach [c] X.env = (false, eval c X.env) :: starEach [] X.env := by rfl) :
    SS X W (.Assign [.Tuple [.Name x px, .Name y py, .Name z pz] kt pt] (.Tuple [a, b, c] k2 pt2) pos) (sPar3 i j l m n k) :=
  let ⟨_, pa, qa⟩ := sa_cons ha (sa_cons hb (sa_cons hcc sa_nil h3) h2) h1
  ⟨_, ps_par3 hc hN hi hj hl hij hil hjl hx hy hz pa hw hs, fun ρ env S σ H D R er h => by
    refine qa ρ env S σ H _ R er ?_
    unfold sPar3 at h
    split at h
    · rename_i v w z S1 e
      rw [e]
      intro ρ1 vs H1 g1 R1 e1 r1
      obtain ⟨v', w', z', rfl, r1, r2, r3⟩ := vrs3 r1
      exact ⟨v', w', z', rfl, h ρ1 _ H1 g1 R1 e1 ((((er.mono e1 g1).set r1 i).set r2 j).set r3 l)⟩
    · rename_i e; rw [e]; exact fun ρ' C d H' g R' e' hc xr => h ρ' σ C d H' g R' e' (er.mono e' g) hc xr
    · exact h.elim⟩
end
end MP

set_option maxRecDepth 100000
/-! enumerate over zip of two lists: the pair of zip may still be out, or may have gone -/
namespace PySem
open Sem (wp)
abbrev ZipAt (h : Heap) (z TI TO : Addr) (f0 : Value) (b1 : Bool) : Prop :=
  h.get? z = some { cls := .type "zip", dict := none, data := .fields #[f0, .bool b1, .bool false, .ref TI, .ref TO], slots := #[] }
section
variable {prog : Program} {w : World} {A : Around} {E : Value → Shared → Prop} {s : Shared}
theorem zipFree {z TI TO : Addr} {f0 : Value} {b1 : Bool} {Q : Bool → Shared → Prop} (hz : ZipAt s.heap z TI TO f0 b1) (h0 : f0 = .none ∨ ∃ T : Addr, f0 = rawInt T ∧ s.heap.get? T = none) (h : Q true s) :
    wpAny (model prog w) A (Builtin.SmallTypes.ownedTupleIsFree (.ref z)) Q E s := by
  unfold Builtin.SmallTypes.ownedTupleIsFree
  refine wpAny_bind (wpAny_field hz rfl (x := f0) rfl ?_)
  rcases h0 with rfl | ⟨T, rfl, hT⟩
  · exact wpAny_pure h
  · show wpAny _ _ (loadIfAlive ((T : Int).toNat) >>= _) _ _ _
    rw [Int.toNat_natCast]
    refine wpAny_bind (show wpAny _ _ (loadIfAlive T) _ _ s from ?_)
    have k : ∀ R : Option Obj → Shared → Prop, R none s → wpAny (model prog w) A (loadIfAlive T) R E s := fun R r => by
      have r' : R (s.heap.get? T) s := by rw [hT]; exact r
      exact fun _ _ _ => r'
    refine k _ ?_
    simp only [Option.isNone_none, if_true]
    exact wpAny_pure h
theorem zip_item_free {z TI TO i1 i2 l1 l2 : Addr} {f0 : Value} {b1 : Bool} {k1 k2 : Nat} {xs ys : Array Value} {x y a b : Value} {Q : Value → Shared → Prop} (D : ZipApart z TI TO i1 i2 l1 l2)
    (hz : ZipAt s.heap z TI TO f0 b1) (h0 : f0 = .none ∨ ∃ T : Addr, f0 = rawInt T ∧ s.heap.get? T = none) (hTI : IsPair s.heap TI (.ref i1) (.ref i2)) (hTO : IsPair s.heap TO a b)
    (h1 : s.heap.IsListIter i1 l1 k1) (h2 : s.heap.IsListIter i2 l2 k2) (hl1 : s.heap.IsList l1 xs) (hl2 : s.heap.IsList l2 ys) (hx : xs[k1]? = some x) (hy : ys[k2]? = some y)
    (hQ : ∀ h', ZipAt h' z TI TO (rawInt s.heap.objs.size) false → IsPair h' TO x y → h'.IsListIter i1 l1 (k1 + 1) → h'.IsListIter i2 l2 (k2 + 1) → IsPair h' s.heap.objs.size x y → h'.objs.size = s.heap.objs.size + 1 →
      (∀ c o, c ≠ z → c ≠ TO → c ≠ i1 → c ≠ i2 → s.heap.get? c = some o → h'.get? c = some o) → Q (.ref s.heap.objs.size) { s with heap := h' }) :
    wpAny (model prog w) A (Builtin.«zip.__next__» ⟨[.ref z], []⟩) (fun fin s' => ∃ v, fin = .done (.ret v) ∧ Q v s') E s := by
  show wpAny _ _ (field (.ref z) 2 >>= _) _ _ _
  refine wpAny_bind (wpAny_field hz rfl (x := .bool false) rfl ?_)
  show wpAny _ _ (field (.ref z) 3 >>= _) _ _ _
  refine wpAny_bind (wpAny_field hz rfl (x := .ref TI) rfl ?_)
  refine wpAny_bind (wpAny_seqItems hTI rfl ?_)
  show wpAny _ _ (Builtin.SmallTypes.ownedTupleIsFree (.ref z) >>= _) _ _ _
  refine wpAny_bind (zipFree hz h0 ?_)
  simp only [if_true]
  refine wpAny_bind (wpAny_rule ?_)
  refine wpAny_bind (wpAny_field hz rfl (x := .ref TO) rfl ?_)
  refine wpAny_bind (wpAny_setField_rec hz (by simp) fun g1 z1 s1 => ?_)
  replace z1 : ZipAt g1 z TI TO .ellipsis b1 := z1
  refine wpAny_bind ?_
  simp only [List.zipIdx_cons, List.zipIdx_nil, List.forIn_cons, List.forIn_nil]
  refine wpAny_bind (wpAny_bind (wpAny_onRaise ?_))
  show wpAny _ _ (Builtin.SmallTypes.nextOf (.ref i1) >>= _) _ _ _
  refine wpAny_bind (wpAny_nextOf_list_item (h1.extBut s1.extBut D.i1z) (hl1.extBut s1.extBut D.l1z) hx fun g2 j1 s2 => wpAny_pure ?_)
  have o2 : IsPair g2 TO a b := s2.extBut _ _ D.TOi1 (s1.extBut _ _ D.TOz hTO)
  refine wpAny_bind (wpAny_seqItems o2 rfl ?_)
  refine wpAny_bind (wpAny_updateSeq_pair o2 fun g3 o3 s3 => ?_)
  replace o3 : IsPair g3 TO x b := o3
  refine wpAny_bind (wpAny_letGo (wpAny_pure ?_))
  refine wpAny_bind (wpAny_bind (wpAny_onRaise ?_))
  show wpAny _ _ (Builtin.SmallTypes.nextOf (.ref i2) >>= _) _ _ _
  refine wpAny_bind (wpAny_nextOf_list_item (((h2.extBut s1.extBut D.i2z).extBut s2.extBut D.i12.symm).extBut s3.extBut D.TOi2.symm)
    (((hl2.extBut s1.extBut D.l2z).extBut s2.extBut D.l2i1).extBut s3.extBut D.l2TO) hy fun g4 j2 s4 => wpAny_pure ?_)
  have o4 : IsPair g4 TO x b := s4.extBut _ _ D.TOi2 o3
  refine wpAny_bind (wpAny_seqItems o4 rfl ?_)
  refine wpAny_bind (wpAny_updateSeq_pair o4 fun g5 o5 s5 => ?_)
  replace o5 : IsPair g5 TO x y := o5
  refine wpAny_bind (wpAny_letGo (wpAny_pure (wpAny_pure ?_)))
  refine wpAny_bind (wpAny_seqItems o5 rfl ?_)
  refine wpAny_bind (wpAny_newTuple ?_)
  have hsz : g5.objs.size = s.heap.objs.size := by rw [s5.1, s4.1, s3.1, s2.1, s1.1]
  have z5 : ZipAt g5 z TI TO .ellipsis b1 := s5.extBut _ _ D.TOz.symm (s4.extBut _ _ D.i2z.symm (s3.extBut _ _ D.TOz.symm (s2.extBut _ _ D.i1z.symm z1)))
  have k5 : ∀ c o, c ≠ z → c ≠ TO → c ≠ i1 → c ≠ i2 → s.heap.get? c = some o → g5.get? c = some o := fun c o c1 c2 c3 c4 e =>
    s5.extBut _ _ c2 (s4.extBut _ _ c4 (s3.extBut _ _ c2 (s2.extBut _ _ c3 (s1.extBut _ _ c1 e))))
  have j15 : g5.IsListIter i1 l1 (k1 + 1) := ((j1.extBut s3.extBut D.TOi1.symm).extBut s4.extBut D.i12).extBut s5.extBut D.TOi1.symm
  have j25 : g5.IsListIter i2 l2 (k2 + 1) := j2.extBut s5.extBut D.TOi2.symm
  have zlt : z < g5.objs.size := Heap.lt_size z5
  show wpAny _ _ (Builtin.SmallTypes.ownedTupleHandOut (.ref z) (.ref g5.objs.size) >>= _) _ _ _
  refine wpAny_bind ?_
  unfold Builtin.SmallTypes.ownedTupleHandOut
  have z6 : ZipAt (g5.push { cls := .type "tuple", data := .seq #[x, y] }) z TI TO .ellipsis b1 := Heap.get?_push_of_some _ z5
  refine wpAny_bind (wpAny_setField_rec z6 (by simp) fun g7 z7 s7 => ?_)
  replace z7 : ZipAt g7 z TI TO (rawInt g5.objs.size) b1 := z7
  refine wpAny_setField_rec z7 (by simp) fun g8 z8 s8 => ?_
  replace z8 : ZipAt g8 z TI TO (rawInt g5.objs.size) false := z8
  have up : ∀ c o, c ≠ z → g5.get? c = some o → g8.get? c = some o := fun c o c1 e => s8.extBut _ _ c1 (s7.extBut _ _ c1 (Heap.get?_push_of_some _ e))
  have t8 : IsPair g8 g5.objs.size x y := s8.extBut _ _ (Nat.ne_of_gt zlt) (s7.extBut _ _ (Nat.ne_of_gt zlt) (Heap.get?_push_size _ rfl))
  have n8 : g8.objs.size = g5.objs.size + 1 := by rw [s8.1, s7.1, Heap.size_push]
  rw [hsz] at z8 t8 n8
  refine wpAny_pure ⟨_, rfl, ?_⟩
  show Q (.ref g5.objs.size) _
  rw [hsz]
  exact hQ g8 z8 (up _ _ D.TOz o5) (j15.at fun o e => up _ o D.i1z e) (j25.at fun o e => up _ o D.i2z e) t8 n8 fun c o c1 c2 c3 c4 e => up c o c1 (k5 c o c1 c2 c3 c4 e)
theorem zip_end_free {z TI TO i1 i2 l1 l2 : Addr} {f0 : Value} {b1 : Bool} {k1 k2 : Nat} {xs ys : Array Value} {a b : Value} {Q : Fin → Shared → Prop} (hh : A.handled = none) (D : ZipApart z TI TO i1 i2 l1 l2)
    (hz : ZipAt s.heap z TI TO f0 b1) (h0 : f0 = .none ∨ ∃ T : Addr, f0 = rawInt T ∧ s.heap.get? T = none) (hTI : IsPair s.heap TI (.ref i1) (.ref i2)) (hTO : IsPair s.heap TO a b)
    (h1 : s.heap.IsListIter i1 l1 k1) (h2 : s.heap.IsListIter i2 l2 k2) (hl1 : s.heap.IsList l1 xs) (hl2 : s.heap.IsList l2 ys) (hend : xs[k1]? = none ∨ ys[k2]? = none)
    (hE : ∀ h' e, (∀ c o, c ≠ z → c ≠ TO → c ≠ i1 → c ≠ i2 → s.heap.get? c = some o → h'.get? c = some o) → (∃ o, h'.get? e = some o ∧ o.cls = .type "StopIteration") → E (.ref e) { s with heap := h' }) :
    wpAny (model prog w) A (Builtin.«zip.__next__» ⟨[.ref z], []⟩) Q E s := by
  show wpAny _ _ (field (.ref z) 2 >>= _) _ _ _
  refine wpAny_bind (wpAny_field hz rfl (x := .bool false) rfl ?_)
  show wpAny _ _ (field (.ref z) 3 >>= _) _ _ _
  refine wpAny_bind (wpAny_field hz rfl (x := .ref TI) rfl ?_)
  refine wpAny_bind (wpAny_seqItems hTI rfl ?_)
  show wpAny _ _ (Builtin.SmallTypes.ownedTupleIsFree (.ref z) >>= _) _ _ _
  refine wpAny_bind (zipFree hz h0 ?_)
  simp only [if_true]
  refine wpAny_bind (wpAny_rule ?_)
  refine wpAny_bind (wpAny_field hz rfl (x := .ref TO) rfl ?_)
  refine wpAny_bind (wpAny_setField_rec hz (by simp) fun g1 z1 s1 => ?_)
  replace z1 : ZipAt g1 z TI TO .ellipsis b1 := z1
  refine wpAny_bind ?_
  simp only [List.zipIdx_cons, List.zipIdx_nil, List.forIn_cons, List.forIn_nil]
  refine wpAny_bind (wpAny_bind (wpAny_onRaise ?_))
  show wpAny _ _ (Builtin.SmallTypes.nextOf (.ref i1) >>= _) _ _ _
  cases hx : xs[k1]? with
  | none =>
    refine wpAny_bind (wpAny_nextOf_list_end hh (h1.extBut s1.extBut D.i1z) (hl1.extBut s1.extBut D.l1z) hx fun g2 e s2 he => ?_)
    obtain ⟨oe, hoe, hce⟩ := he
    have z2 : ZipAt g2 z TI TO .ellipsis b1 := s2 _ _ D.i1z.symm z1
    have ez : e ≠ z := fun q => by subst q; rw [z2] at hoe; cases hoe; simp at hce
    refine wpAny_setField_rec z2 (by simp) fun g3 _ s3 => hE g3 e (fun c o c1 _ c3 _ q => s3.extBut _ _ c1 (s2 _ _ c3 (s1.extBut _ _ c1 q))) ⟨oe, s3.extBut _ _ ez hoe, hce⟩
  | some x =>
    have hy : ys[k2]? = none := by rcases hend with h | h; rw [hx] at h; cases h; exact h
    refine wpAny_bind (wpAny_nextOf_list_item (h1.extBut s1.extBut D.i1z) (hl1.extBut s1.extBut D.l1z) hx fun g2 j1 s2 => wpAny_pure ?_)
    have o2 : IsPair g2 TO a b := s2.extBut _ _ D.TOi1 (s1.extBut _ _ D.TOz hTO)
    refine wpAny_bind (wpAny_seqItems o2 rfl ?_)
    refine wpAny_bind (wpAny_updateSeq_pair o2 fun g3 o3 s3 => ?_)
    refine wpAny_bind (wpAny_letGo (wpAny_pure ?_))
    refine wpAny_bind (wpAny_bind (wpAny_onRaise ?_))
    show wpAny _ _ (Builtin.SmallTypes.nextOf (.ref i2) >>= _) _ _ _
    refine wpAny_bind (wpAny_nextOf_list_end hh (((h2.extBut s1.extBut D.i2z).extBut s2.extBut D.i12.symm).extBut s3.extBut D.TOi2.symm)
      (((hl2.extBut s1.extBut D.l2z).extBut s2.extBut D.l2i1).extBut s3.extBut D.l2TO) hy fun g4 e s4 he => ?_)
    obtain ⟨oe, hoe, hce⟩ := he
    have z4 : ZipAt g4 z TI TO .ellipsis b1 := s4 _ _ D.i2z.symm (s3.extBut _ _ D.TOz.symm (s2.extBut _ _ D.i1z.symm z1))
    have ez : e ≠ z := fun q => by subst q; rw [z4] at hoe; cases hoe; simp at hce
    refine wpAny_setField_rec z4 (by simp) fun g5 _ s5 => hE g5 e (fun c o c1 c2 c3 c4 q => s5.extBut _ _ c1 (s4 _ _ c4 (s3.extBut _ _ c2 (s2.extBut _ _ c3 (s1.extBut _ _ c1 q))))) ⟨oe, s5.extBut _ _ ez hoe, hce⟩
/-- how zip stands at the turn k -/
def ZSt (h : Heap) (z TI TO i1 i2 l1 l2 : Addr) (k : Nat) : Prop := ∃ f0 b1 a b, ZipAt h z TI TO f0 b1 ∧ (f0 = .none ∨ ∃ T : Addr, f0 = rawInt T) ∧ IsPair h TI (.ref i1) (.ref i2) ∧ IsPair h TO a b ∧ h.IsListIter i1 l1 k ∧ h.IsListIter i2 l2 k
theorem ZSt.keep {h h' : Heap} {z TI TO i1 i2 l1 l2 : Addr} {k : Nat} (st : ZSt h z TI TO i1 i2 l1 l2 k) (kp : ∀ b, b = z ∨ b = TI ∨ b = TO ∨ b = i1 ∨ b = i2 → ∀ o, h.get? b = some o → h'.get? b = some o) : ZSt h' z TI TO i1 i2 l1 l2 k := by
  obtain ⟨f0, b1, a, b, hz, h0, hTI, hTO, h1, h2⟩ := st
  exact ⟨f0, b1, a, b, kp z (by simp) _ hz, h0, kp TI (by simp) _ hTI, kp TO (by simp) _ hTO, h1.at fun o q => kp i1 (by simp) o q, h2.at fun o q => kp i2 (by simp) o q⟩
theorem zip_nextOf_item {z TI TO i1 i2 l1 l2 : Addr} {k : Nat} {xs ys : Array Value} {x y : Value} {Q : Value → Shared → Prop} (D : ZipApart z TI TO i1 i2 l1 l2) (st : ZSt s.heap z TI TO i1 i2 l1 l2 k)
    (hl1 : s.heap.IsList l1 xs) (hl2 : s.heap.IsList l2 ys) (hx : xs[k]? = some x) (hy : ys[k]? = some y)
    (hQ : ∀ h', ZSt h' z TI TO i1 i2 l1 l2 (k + 1) → IsPair h' s.heap.objs.size x y → h'.objs.size = s.heap.objs.size + 1 →
      (∀ c o, c ≠ z → c ≠ TO → c ≠ i1 → c ≠ i2 → s.heap.get? c = some o → h'.get? c = some o) → Q (.ref s.heap.objs.size) { s with heap := h' }) :
    wpAny (model prog w) A (Builtin.SmallTypes.nextOf (.ref z)) Q E s := by
  obtain ⟨f0, b1, a, b, hz, h0, hTI, hTO, h1, h2⟩ := st
  have hT : s.TypeIs (.ref z) "zip" := ⟨_, hz, rfl⟩
  unfold Builtin.SmallTypes.nextOf
  refine wpAny_bind (wpAny_callSpecial?_slot (name := Str.ofString "__next__") hT F.slot_zip_next (wpAny_call_entry F.slot_zip_next hT F.entry_zip_next ?_ (F.args_zip_next_1 _)))
  have fin : (∃ T : Addr, ∃ oT, f0 = rawInt T ∧ s.heap.get? T = some oT) ∨ (f0 = .none ∨ ∃ T : Addr, f0 = rawInt T ∧ s.heap.get? T = none) := by
    rcases h0 with h0 | ⟨T, h0⟩
    · exact .inr (.inl h0)
    · cases e : s.heap.get? T with
      | none => exact .inr (.inr ⟨T, h0, e⟩)
      | some o => exact .inl ⟨T, o, h0, e⟩
  rcases fin with ⟨T, oT, rfl, eT⟩ | h0
  · refine zip_next_item_held D hz eT hTI h1 h2 hl1 hl2 hx hy fun h' q1 q2 q3 q4 q5 q6 => wpAny_pure ?_
    exact hQ h' ⟨_, _, a, b, q1, .inr ⟨T, rfl⟩, q6 _ _ D.TIz D.TIi1 D.TIi2 hTI, q6 _ _ D.TOz D.TOi1 D.TOi2 hTO, q2, q3⟩ q4 q5 fun c o c1 _ c3 c4 e => q6 c o c1 c3 c4 e
  · refine zip_item_free D hz h0 hTI hTO h1 h2 hl1 hl2 hx hy fun h' q1 q2 q3 q4 q5 q6 q7 => wpAny_pure ?_
    exact hQ h' ⟨_, _, _, _, q1, .inr ⟨_, rfl⟩, q7 _ _ D.TIz D.TITO D.TIi1 D.TIi2 hTI, q2, q3, q4⟩ q5 q6 q7
theorem zip_nextOf_end {z TI TO i1 i2 l1 l2 : Addr} {k : Nat} {xs ys : Array Value} {Q : Value → Shared → Prop} (hh : A.handled = none) (D : ZipApart z TI TO i1 i2 l1 l2) (st : ZSt s.heap z TI TO i1 i2 l1 l2 k)
    (hl1 : s.heap.IsList l1 xs) (hl2 : s.heap.IsList l2 ys) (hend : xs[k]? = none ∨ ys[k]? = none)
    (hE : ∀ h' e, (∀ c o, c ≠ z → c ≠ TO → c ≠ i1 → c ≠ i2 → s.heap.get? c = some o → h'.get? c = some o) → (∃ o, h'.get? e = some o ∧ o.cls = .type "StopIteration") → E (.ref e) { s with heap := h' }) :
    wpAny (model prog w) A (Builtin.SmallTypes.nextOf (.ref z)) Q E s := by
  obtain ⟨f0, b1, a, b, hz, h0, hTI, hTO, h1, h2⟩ := st
  have hT : s.TypeIs (.ref z) "zip" := ⟨_, hz, rfl⟩
  unfold Builtin.SmallTypes.nextOf
  refine wpAny_bind (wpAny_callSpecial?_slot (name := Str.ofString "__next__") hT F.slot_zip_next (wpAny_call_entry F.slot_zip_next hT F.entry_zip_next ?_ (F.args_zip_next_1 _)))
  have fin : (∃ T : Addr, ∃ oT, f0 = rawInt T ∧ s.heap.get? T = some oT) ∨ (f0 = .none ∨ ∃ T : Addr, f0 = rawInt T ∧ s.heap.get? T = none) := by
    rcases h0 with h0 | ⟨T, h0⟩
    · exact .inr (.inl h0)
    · cases e : s.heap.get? T with
      | none => exact .inr (.inr ⟨T, h0, e⟩)
      | some o => exact .inl ⟨T, o, h0, e⟩
  rcases fin with ⟨T, oT, rfl, eT⟩ | h0
  · exact zip_next_end_held hh D hz eT hTI h1 h2 hl1 hl2 hend fun h' e q he => hE h' e (fun c o c1 _ c3 c4 z => q c o c1 c3 c4 z) he
  · exact zip_end_free hh D hz h0 hTI hTO h1 h2 hl1 hl2 hend hE
/-- enumerate over such a zip -/
theorem ezip_next_item {e z TI TO i1 i2 l1 l2 : Addr} {k : Nat} {xs ys : Array Value} {x y old : Value} {Q : Value → Shared → Prop} (D : ZipApart z TI TO i1 i2 l1 l2)
    (he : IsEnum s.heap e z ((k : Nat) : Int) old) (st : ZSt s.heap z TI TO i1 i2 l1 l2 k) (hne : e ≠ z ∧ e ≠ TI ∧ e ≠ TO ∧ e ≠ i1 ∧ e ≠ i2)
    (hl1 : s.heap.IsList l1 xs) (hl2 : s.heap.IsList l2 ys) (hx : xs[k]? = some x) (hy : ys[k]? = some y)
    (hQ : ∀ h', IsEnumOut h' e z ((k : Int) + 1) (.ref s.heap.objs.size) (s.heap.objs.size + 1) → ZSt h' z TI TO i1 i2 l1 l2 (k + 1) → IsPair h' s.heap.objs.size x y →
      IsPair h' (s.heap.objs.size + 1) (.int k s.toks) (.ref s.heap.objs.size) →
      (∀ c o, c ≠ e → c ≠ z → c ≠ TO → c ≠ i1 → c ≠ i2 → s.heap.get? c = some o → h'.get? c = some o) → Q (.ref (s.heap.objs.size + 1)) { s with heap := h', toks := s.toks + 1 }) :
    wpAny (model prog w) A (Builtin.«enumerate.__next__» ⟨[.ref e], []⟩) (fun fin s' => ∃ v, fin = .done (.ret v) ∧ Q v s') E s := by
  obtain ⟨hp, g, d, tk, os⟩ := s
  obtain ⟨n1, n2, n3, n4, n5⟩ := hne
  have hel : e < hp.objs.size := Heap.lt_size he
  have hel' : hp.objs.size + 1 ≠ e := Nat.ne_of_gt (Nat.lt_succ_of_lt hel)
  show wpAny _ _ (field (.ref e) 2 >>= _) _ _ _
  refine wpAny_bind (wpAny_field he rfl (x := .ref z) rfl ?_)
  refine wpAny_bind (zip_nextOf_item D st hl1 hl2 hx hy fun g1 st1 p1 sz1 k1 => ?_)
  replace sz1 : g1.objs.size = hp.objs.size + 1 := sz1
  replace p1 : IsPair g1 hp.objs.size x y := p1
  have e1 : IsEnum g1 e z k old := k1 e _ n1 n3 n4 n5 he
  show wpAny _ _ (field (.ref e) 3 >>= _) _ _ ⟨g1, g, d, tk, os⟩
  refine wpAny_bind (wpAny_field e1 rfl (x := rawInt k) rfl ?_)
  show wpAny _ _ (field (.ref e) 4 >>= _) _ _ ⟨g1, g, d, tk, os⟩
  refine wpAny_bind (wpAny_field e1 rfl (x := .none) rfl ?_)
  show wpAny _ _ (mkInt k >>= _) _ _ ⟨g1, g, d, tk, os⟩
  refine wpAny_bind (wpAny_mkInt ?_)
  show wpAny _ _ (setField (.ref e) 3 (rawInt ((k : Int) + 1)) >>= _) _ _ ⟨g1, g, d, tk + 1, os⟩
  refine wpAny_bind (wpAny_setField_rec e1 (by simp) fun g2 e2 s2 => ?_)
  replace s2 : Heap.SameBut e g1 g2 := s2
  replace e2 : IsEnum g2 e z ((k : Int) + 1) old := e2
  show wpAny _ _ (setField (.ref e) 4 .none >>= _) _ _ ⟨g2, g, d, tk + 1, os⟩
  refine wpAny_bind (wpAny_setField_rec e2 (by simp) fun g3 e3 s3 => ?_)
  replace s3 : Heap.SameBut e g2 g3 := s3
  replace e3 : IsEnum g3 e z ((k : Int) + 1) old := e3
  show wpAny _ _ (newTuple [.int k tk, .ref hp.objs.size] >>= _) _ _ ⟨g3, g, d, tk + 1, os⟩
  refine wpAny_bind (wpAny_newTuple ?_)
  have e4 : IsEnum (g3.push { cls := .type "tuple", data := .seq #[.int k tk, .ref hp.objs.size] }) e z ((k : Int) + 1) old := Heap.get?_push_of_some _ e3
  have z3 : g3.objs.size = hp.objs.size + 1 := by rw [s3.1, s2.1, sz1]
  have t4 : IsPair (g3.push { cls := .type "tuple", data := .seq #[.int k tk, .ref hp.objs.size] }) (hp.objs.size + 1) (.int k tk) (.ref hp.objs.size) := by rw [← z3]; exact Heap.get?_push_size _ rfl
  have up4 : ∀ c o, c ≠ e → g1.get? c = some o → (g3.push { cls := .type "tuple", data := .seq #[.int k tk, .ref hp.objs.size] }).get? c = some o := fun c o c1 q => Heap.get?_push_of_some _ (s3.extBut _ _ c1 (s2.extBut _ _ c1 q))
  show wpAny _ _ (Builtin.SmallTypes.ownedTupleIsFree (.ref e) >>= _) _ _ ⟨g3.push { cls := .type "tuple", data := .seq #[.int k tk, .ref hp.objs.size] }, g, d, tk + 1, os⟩
  generalize g3.push { cls := .type "tuple", data := .seq #[.int k tk, .ref hp.objs.size] } = g4 at e4 t4 up4 ⊢
  rw [z3]
  refine wpAny_bind ?_
  unfold Builtin.SmallTypes.ownedTupleIsFree
  refine wpAny_bind (wpAny_field e4 rfl (x := .none) rfl (wpAny_pure ?_))
  simp only [if_true]
  refine wpAny_bind (wpAny_rule ?_)
  refine wpAny_bind (wpAny_field e4 rfl (x := old) rfl ?_)
  refine wpAny_bind (wpAny_setField_rec e4 (by simp) fun g5 e5 s5 => ?_)
  replace s5 : Heap.SameBut e g4 g5 := s5
  replace e5 : IsEnum g5 e z ((k : Int) + 1) (.ref hp.objs.size) := e5
  show wpAny _ _ (Builtin.SmallTypes.ownedTupleHandOut (.ref e) (.ref (hp.objs.size + 1)) >>= _) _ _ ⟨g5, g, d, tk + 1, os⟩
  refine wpAny_bind ?_
  unfold Builtin.SmallTypes.ownedTupleHandOut
  refine wpAny_bind (wpAny_setField_rec e5 (by simp) fun g6 e6 s6 => ?_)
  replace s6 : Heap.SameBut e g5 g6 := s6
  replace e6 : IsEnumOut g6 e z ((k : Int) + 1) (.ref hp.objs.size) (hp.objs.size + 1) := e6
  refine wpAny_setField_rec e6 (by simp) fun g7 e7 s7 => ?_
  replace s7 : Heap.SameBut e g6 g7 := s7
  replace e7 : IsEnumOut g7 e z ((k : Int) + 1) (.ref hp.objs.size) (hp.objs.size + 1) := e7
  have up7 : ∀ c o, c ≠ e → g1.get? c = some o → g7.get? c = some o := fun c o c1 q => s7.extBut _ _ c1 (s6.extBut _ _ c1 (s5.extBut _ _ c1 (up4 c o c1 q)))
  refine wpAny_bind (wpAny_letGo (wpAny_pure ⟨_, rfl, hQ g7 e7 ?_ (up7 _ _ (Nat.ne_of_gt hel) p1) ?_ fun c o c1 c2 c3 c4 c5 q => up7 c o c1 (k1 c o c2 c3 c4 c5 q)⟩))
  · refine st1.keep fun b hb o q => up7 b o (fun w => ?_) q
    subst w
    rcases hb with r | r | r | r | r
    · exact n1 r
    · exact n2 r
    · exact n3 r
    · exact n4 r
    · exact n5 r
  · exact s7.extBut _ _ hel' (s6.extBut _ _ hel' (s5.extBut _ _ hel' t4))
theorem ezip_pyNext_item {e z TI TO i1 i2 l1 l2 : Addr} {k : Nat} {xs ys : Array Value} {x y old : Value} {Q : Option Value → Shared → Prop} (D : ZipApart z TI TO i1 i2 l1 l2)
    (he : IsEnum s.heap e z ((k : Nat) : Int) old) (st : ZSt s.heap z TI TO i1 i2 l1 l2 k) (hne : e ≠ z ∧ e ≠ TI ∧ e ≠ TO ∧ e ≠ i1 ∧ e ≠ i2)
    (hl1 : s.heap.IsList l1 xs) (hl2 : s.heap.IsList l2 ys) (hx : xs[k]? = some x) (hy : ys[k]? = some y)
    (hQ : ∀ h', IsEnumOut h' e z ((k : Int) + 1) (.ref s.heap.objs.size) (s.heap.objs.size + 1) → ZSt h' z TI TO i1 i2 l1 l2 (k + 1) → IsPair h' s.heap.objs.size x y →
      IsPair h' (s.heap.objs.size + 1) (.int k s.toks) (.ref s.heap.objs.size) →
      (∀ c o, c ≠ e → c ≠ z → c ≠ TO → c ≠ i1 → c ≠ i2 → s.heap.get? c = some o → h'.get? c = some o) → Q (some (.ref (s.heap.objs.size + 1))) { s with heap := h', toks := s.toks + 1 }) :
    wpAny (model prog w) A (pyNext (.ref e)) Q E s := by
  have hT : s.TypeIs (.ref e) "enumerate" := ⟨_, he, rfl⟩
  unfold pyNext
  exact wpAny_bind (wpAny_attempt (wpAny_callSpecial?_slot (name := Str.ofString "__next__") hT F.slot_enumerate_next
    (wpAny_call_entry F.slot_enumerate_next hT F.entry_enumerate_next
      (ezip_next_item D he st hne hl1 hl2 hx hy fun h' a b c d k => wpAny_pure (hQ h' a b c d k)) (F.args_enumerate_next_1 _))))
theorem ezip_pyNext_end {e z TI TO i1 i2 l1 l2 : Addr} {k : Nat} {i : Int} {xs ys : Array Value} {old : Value} {Q : Option Value → Shared → Prop} (hh : A.handled = none) (D : ZipApart z TI TO i1 i2 l1 l2)
    (he : IsEnum s.heap e z i old) (st : ZSt s.heap z TI TO i1 i2 l1 l2 k)
    (hl1 : s.heap.IsList l1 xs) (hl2 : s.heap.IsList l2 ys) (hend : xs[k]? = none ∨ ys[k]? = none)
    (hQ : ∀ h', (∀ c o, c ≠ z → c ≠ TO → c ≠ i1 → c ≠ i2 → s.heap.get? c = some o → h'.get? c = some o) → Q none { s with heap := h' }) :
    wpAny (model prog w) A (pyNext (.ref e)) Q E s := by
  have hT : s.TypeIs (.ref e) "enumerate" := ⟨_, he, rfl⟩
  unfold pyNext
  refine wpAny_bind (wpAny_attempt (wpAny_callSpecial?_slot (name := Str.ofString "__next__") hT F.slot_enumerate_next
    (wpAny_call_entry F.slot_enumerate_next hT F.entry_enumerate_next ?_ (F.args_enumerate_next_1 _))))
  show wpAny _ _ (field (.ref e) 2 >>= _) _ _ _
  refine wpAny_bind (wpAny_field he rfl (x := .ref z) rfl ?_)
  refine wpAny_bind (zip_nextOf_end hh D st hl1 hl2 hend fun h' x he' hx' => ?_)
  obtain ⟨o, ho, hc⟩ := hx'
  refine wpAny_bind (wpAny_isInstance (T := "StopIteration") (b := true) ⟨o, ho, hc⟩ isSubtype_stop ?_)
  exact wpAny_pure (hQ _ he')
/-- enumerate of a zip object: the iterator of a zip is itself -/
theorem meets_enumerate_newZ (z TI TO : Addr) (f0 : Value) :
    Meets (Builtin.«enumerate.__new__» ⟨[.type "enumerate", .ref z], []⟩) (fun _ R s => IsZip s.heap z TI TO f0 ∧
      R (.ok (.ret (.ref s.heap.objs.size))) { s with heap := s.heap.push { cls := .type "enumerate", data := .fields #[.none, .bool false, .ref z, rawInt 0, .none, .none] } }) :=
  .of_wp fun prog w A R s h => by
    obtain ⟨hp, g, d, tk, os⟩ := s; obtain ⟨hl, h⟩ := h
    have hsub := sub_enumerate
    have hL : IsZip (Shared.heap ⟨hp, g, d, tk, os⟩) z TI TO f0 := hl
    wp_walk using AutoSeq1.wpAny_loadPart' hl
    refine wpAny_stack_any fun st => wpAny_pure ?_
    split
    · rename_i c _ _ _ _ _
      cases (c == Value.type "enumerate")
      · wp_walk using wpAny_pyIter_zip hL
        exact ⟨_, rfl, h⟩
      · wp_walk using wpAny_pyIter_zip hL
        exact ⟨_, rfl, h⟩
    · wp_walk using wpAny_pyIter_zip hL
      exact ⟨_, rfl, h⟩
theorem call_enumerate_zip {z TI TO : Addr} {f0 : Value} {Q : Value → Shared → Prop} (hL : IsZip s.heap z TI TO f0)
    (h : ∀ h', IsEnum h' s.heap.objs.size z 0 .none → (∀ b o, s.heap.get? b = some o → h'.get? b = some o) → Q (.ref s.heap.objs.size) { s with heap := h' }) :
    wpAny (model prog w) A (call (.type "enumerate") [.ref z]) Q E s := by
  refine callType_new F.called_enumerate (by decide) (F.typeCall_enumerate_1 _) (F.newCall_enumerate_1 _) (fun obj => F.args_object_init_2 obj _) F.entry_enumerate_new
    (meets_enumerate_newZ z TI TO f0) ⟨hL, ?_⟩
  have he : IsEnum (s.heap.push { cls := .type "enumerate", data := .fields #[.none, .bool false, .ref z, rawInt 0, .none, .none] }) s.heap.objs.size z 0 .none := Heap.get?_push_size _ rfl
  exact ⟨⟨_, he, rfl⟩, h _ he fun b o x => Heap.get?_push_of_some _ x⟩
end
end PySem

set_option maxRecDepth 100000
namespace MP
open PySem PySem.Spec PyProof.Rows L2
/-- enumerate over zip of the lists at a and b: new pairs in new pairs -/
def Itez (K : PySem.W.Frag) (a b : Addr) : It :=
  ⟨fun i H => ∃ (xs ys : List V) (x y : V), SqL K H a xs ∧ SqL K H b ys ∧ xs[i]? = some x ∧ ys[i]? = some y,
    fun i H v H' => ∃ T U x y, v = .ref U ∧ H T = none ∧ upd H T (.tup [x, y]) U = none ∧ H' = upd (upd H T (.tup [x, y])) U (.tup [.int (i : Nat), .ref T]) ∧ (∀ xs, SqL K H a xs → xs[i]? = some x) ∧ ∀ ys, SqL K H b ys → ys[i]? = some y,
    fun i H => ∃ xs ys : List V, SqL K H a xs ∧ SqL K H b ys ∧ (xs.length ≤ i ∨ ys.length ≤ i)⟩
theorem turn_ez {P : Program} {w : World} {K : PySem.W.Frag} {elts : List Expr} {kk : Nat} {tpos : Pos} {a b e z TI TO i1 i2 : Addr} (D : ZipApart z TI TO i1 i2 a b) (hne : e ≠ z ∧ e ≠ TI ∧ e ≠ TO ∧ e ≠ i1 ∧ e ≠ i2) :
    Turn P w K (.Tuple elts kk tpos) (Itez K a b) [e, z, TI, TO, i1, i2] e (fun i h => (∃ old, IsEnum h e z ((i : Nat) : Int) old) ∧ ZSt h z TI TO i1 i2 a b i) where
  mem := by simp
  obj := fun i h st c hc => by
    obtain ⟨⟨old, he⟩, f0, b1, x, y, hz, h0, hTI, hTO, ⟨o1, e1, _, d1⟩, ⟨o2, e2, _, d2⟩⟩ := st
    have e' : c = e ∨ c = z ∨ c = TI ∨ c = TO ∨ c = i1 ∨ c = i2 := by simpa using hc
    rcases e' with q | q | q | q | q | q
    · rw [q]; exact ⟨_, he, fun v q => nomatch q⟩
    · rw [q]; exact ⟨_, hz, fun v q => nomatch q⟩
    · rw [q]; exact ⟨_, hTI, fun v q => nomatch q⟩
    · rw [q]; exact ⟨_, hTO, fun v q => nomatch q⟩
    · rw [q]; exact ⟨o1, e1, fun v q => by rw [d1] at q; cases q⟩
    · rw [q]; exact ⟨o2, e2, fun v q => by rw [d2] at q; cases q⟩
  keep := fun i h h' st k => by
    obtain ⟨⟨old, he⟩, st⟩ := st
    exact ⟨⟨old, k e (by simp) _ he⟩, st.keep fun c hc o q => k c (by rcases hc with r | r | r | r | r <;> simp [r]) o q⟩
  item := by
    intro X hP hw hK hc i pins s σ H E I hf st hg
    subst hP hw hK
    obtain ⟨⟨old, he⟩, st⟩ := st
    obtain ⟨xs, ys, x, y, hqx, hqy, hx, hy⟩ := hg
    obtain ⟨its, rv, p, _⟩ := I.list hqx
    obtain ⟨its2, rv2, p2, _⟩ := I.list hqy
    obtain ⟨u, hu, ru⟩ := rv.get hx
    obtain ⟨u2, hu2, ru2⟩ := rv2.get hy
    have hel : e < s.heap.objs.size := Heap.lt_size he
    refine ezip_pyNext_item D he st hne p.isList p2.isList (x := u) (y := u2) (by simpa using hu) (by simpa using hu2) fun h' he' st' hT hU hk => ?_
    refine ⟨_, rfl, wpAny_letOwnedTupleGo_enum (s := { s with heap := h', toks := s.toks + 1 }) he' fun h'' he'' sb => ?_⟩
    have hT2 : h''.get? s.heap.objs.size = some { cls := .type "tuple", data := .seq #[u, u2] } := (sb.2 _ (Nat.ne_of_gt hel)).trans hT
    have hU2 : h''.get? (s.heap.objs.size + 1) = some { cls := .type "tuple", data := .seq #[.int i s.toks, .ref s.heap.objs.size] } := (sb.2 _ (Nat.ne_of_gt (Nat.lt_succ_of_lt hel))).trans hU
    have hmid : (s.heap.push { cls := .type "tuple", data := .seq #[u, u2] }).get? s.heap.objs.size = some { cls := .type "tuple", data := .seq #[u, u2] } := Heap.get?_push_size _ rfl
    have new1 : ObjOk X.prog X.w (upd H s.heap.objs.size (.tup [x, y])) (s.heap.push { cls := .type "tuple", data := .seq #[u, u2] }) s.heap.objs.size (.tup [x, y]) :=
      ⟨by show 2 ≤ sizeLine; decide, [u, u2], .cons ru (.cons ru2 .nil), ⟨_, hmid, rfl, _, rfl⟩⟩
    have I1 : Inv X pins σ (upd H s.heap.objs.size (.tup [x, y])) { s with heap := s.heap.push { cls := .type "tuple", data := .seq #[u, u2] }, toks := s.toks } :=
      I.turnedNew (t' := s.toks) (ch := []) (fun c o _ q => Heap.get?_push_of_some _ q) (fun c hc => nomatch hc) (Nat.le_refl _) new1
    have hszm : (s.heap.push { cls := .type "tuple", data := .seq #[u, u2] }).objs.size = s.heap.objs.size + 1 := Heap.size_push ..
    have new2 : ObjOk X.prog X.w (upd (upd H s.heap.objs.size (.tup [x, y])) (s.heap.objs.size + 1) (.tup [.int (i : Nat), .ref s.heap.objs.size])) h'' (s.heap.objs.size + 1) (.tup [.int (i : Nat), .ref s.heap.objs.size]) :=
      ⟨by show 2 ≤ sizeLine; decide, [.int i s.toks, .ref s.heap.objs.size], .cons ⟨_, rfl⟩ (.cons rfl .nil), ⟨_, hU2, rfl, _, rfl⟩⟩
    have hlt : ∀ c ∈ [e, z, TI, TO, i1, i2], c < s.heap.objs.size := fun c hcm => by
      obtain ⟨f0, b1, x', y', hz, h0, hTI, hTO, h1, h2⟩ := st
      have e' : c = e ∨ c = z ∨ c = TI ∨ c = TO ∨ c = i1 ∨ c = i2 := by simpa using hcm
      rcases e' with q | q | q | q | q | q
      · rw [q]; exact hel
      · rw [q]; exact Heap.lt_size hz
      · rw [q]; exact Heap.lt_size hTI
      · rw [q]; exact Heap.lt_size hTO
      · rw [q]; obtain ⟨_, e1, _⟩ := h1; exact Heap.lt_size e1
      · rw [q]; obtain ⟨_, e2, _⟩ := h2; exact Heap.lt_size e2
    have hf2 : ∀ c ∈ [e, z, TI, TO, i1, i2], FpOk X pins (upd H s.heap.objs.size (.tup [x, y])) c := fun c hcm => by
      refine ⟨?_, (hf c hcm).2⟩
      rw [upd_ne (Nat.ne_of_lt (hlt c hcm))]
      exact (hf c hcm).1
    have I2 : Inv X pins σ (upd (upd H s.heap.objs.size (.tup [x, y])) (s.heap.objs.size + 1) (.tup [.int (i : Nat), .ref s.heap.objs.size])) { s with heap := h'', toks := s.toks + 1 } :=
      I1.turnedNew (h' := h'') (t' := s.toks + 1) (ch := [e, z, TI, TO, i1, i2]) (fun c o hb q => by
        rcases Heap.get?_push_cases q with ⟨hcT, ho⟩ | q'
        · subst hcT; subst ho; exact hT2
        · exact (sb.2 c (fun q' => hb (by simp [q']))).trans (hk c o (fun q' => hb (by simp [q'])) (fun q' => hb (by simp [q'])) (fun q' => hb (by simp [q'])) (fun q' => hb (by simp [q'])) (fun q' => hb (by simp [q'])) q')) hf2 (by rw [hszm]; exact Nat.le_refl _) new2
    refine ⟨.ref (s.heap.objs.size + 1), _, I2, rfl, ⟨_, _, x, y, rfl, I.hok.fresh (Nat.le_refl _), I1.hok.fresh (by rw [hszm]; exact Nat.le_refl _), rfl, fun l hl => by rw [I.list_inj hl hqx]; exact hx, fun l hl => by rw [I.list_inj hl hqy]; exact hy⟩, ⟨⟨.ref s.heap.objs.size, ?_⟩, ?_⟩, fun c hcm => ?_⟩
    · have e1 : ((i + 1 : Nat) : Int) = (i : Int) + 1 := by omega
      rw [e1]; exact he''
    · refine st'.keep fun c hc o q => (sb.2 c (fun q' => ?_)).trans q
      obtain ⟨n1, n2, n3, n4, n5⟩ := hne
      subst q'
      rcases hc with r | r | r | r | r
      · exact n1 r
      · exact n2 r
      · exact n3 r
      · exact n4 r
      · exact n5 r
    · rw [upd_ne (Nat.ne_of_lt (Nat.lt_succ_of_lt (hlt c hcm))), upd_ne (Nat.ne_of_lt (hlt c hcm))]
      exact (hf c hcm).1
  done := by
    intro X hP hw hK hc i pins s σ H E I hf st hg
    subst hP hw hK
    obtain ⟨⟨old, he⟩, st⟩ := st
    obtain ⟨xs, ys, hqx, hqy, hend⟩ := hg
    obtain ⟨its, rv, p, _⟩ := I.list hqx
    obtain ⟨its2, rv2, p2, _⟩ := I.list hqy
    have l1 := rv.length
    have l2 := rv2.length
    have hend' : its.toArray[i]? = none ∨ its2.toArray[i]? = none := by
      rcases hend with q | q
      · exact .inl (by simp; omega)
      · exact .inr (by simp; omega)
    exact ezip_pyNext_end (I.ok.hd hc) D he st p.isList p2.isList hend' fun h' hk => ⟨rfl, I.turnedL (t' := s.toks) (ch := [e, z, TI, TO, i1, i2]) (fun c o hb q =>
      hk c o (fun q' => hb (by simp [q'])) (fun q' => hb (by simp [q'])) (fun q' => hb (by simp [q'])) (fun q' => hb (by simp [q'])) q) hf⟩
  self := fun A i s Q E st h => let ⟨⟨_, he⟩, _⟩ := st; wpAny_pyIter_enum he h
def iEz (K : PySem.W.Frag) (ta : TA) : TI := fun σ H R => ta σ H fun vs H1 => ∃ a b xs ys, vs = [.ref a, .ref b] ∧ SqL K H1 a xs ∧ SqL K H1 b ys ∧ R (Itez K a b) H1
theorem pi_ez {X : Cx} {e e2 : Expr} {ta : TA} {p p2 pos pos2 tpos : Pos} {elts : List Expr} {kk : Nat} (hg : Gl X "enumerate") (hm : X.mg "enumerate" = none) (hg2 : Gl X "zip") (hm2 : X.mg "zip" = none) (ha : PA X [e, e2] ta)
    (na : starEach [.Call (.Name "zip" p2) [e, e2] [] pos2] X.env = (false, eval (.Call (.Name "zip" p2) [e, e2] [] pos2) X.env) :: starEach [] X.env := by rfl)
    (hs : starEach [e, e2] X.env = (false, eval e X.env) :: starEach [e2] X.env := by rfl) (hpl : (backTo pos2 (starEach [e2] X.env)).any (·.1) = false := by rfl) :
    PI X (.Tuple elts kk tpos) (.Call (.Name "enumerate" p) [.Call (.Name "zip" p2) [e, e2] [] pos2] [] pos) (iEz X.K ta) := by
  refine ⟨fun pins s σ H R I h => ?_⟩
  refine Call_ (ld_blt I hg hm boot_enumerate ?_)
  refine PyProof.Rows.callWith_type1 (PyProof.Rows.args_cons ?_ na) na rfl
  refine Call_ (ld_blt I hg2 hm2 PyProof.Rows.boot_zip (PyProof.Rows.callWith_type1 (thn (ha.run pos2 pins s σ H _ I h) fun us s1 ⟨vs, H1, I1, r1, q1⟩ => ?_) hs hpl))
  obtain ⟨a, b, xs, ys, ex, hqx, hqy, q⟩ := q1
  subst ex
  cases r1 with
  | cons r rr =>
    cases rr with
    | cons r' rr =>
      cases rr
      cases r
      cases r'
      obtain ⟨its, rv, p1, _⟩ := I1.list hqx
      obtain ⟨its2, rv2, p2, _⟩ := I1.list hqy
      refine call_zip_2 p1.isList p2.isList fun h' hz hTI hTO h1 h2 hsz hk => ?_
      refine PyProof.Rows.args_nil ?_
      have I2 : Inv X pins σ H1 { s1 with heap := h' } := I1.kept (t' := s1.toks) hk
      refine call_enumerate_zip (s := { s1 with heap := h' }) hz fun h'' he hk2 => wpAny_pyIter_enum he ?_
      have I3 : Inv X pins σ H1 { s1 with heap := h'' } := I2.kept (t' := s1.toks) hk2
      have hsz' : (Shared.heap { s1 with heap := h' }).objs.size = s1.heap.objs.size + 5 := hsz
      rw [hsz'] at he ⊢
      have fresh6 : ∀ c, c ∈ [s1.heap.objs.size + 5, s1.heap.objs.size + 4, s1.heap.objs.size + 2, s1.heap.objs.size + 3, s1.heap.objs.size, s1.heap.objs.size + 1] → FpOk X pins H1 c := fun c hcm => by
        have hle : s1.heap.objs.size ≤ c := by
          have e' : c = s1.heap.objs.size + 5 ∨ c = s1.heap.objs.size + 4 ∨ c = s1.heap.objs.size + 2 ∨ c = s1.heap.objs.size + 3 ∨ c = s1.heap.objs.size ∨ c = s1.heap.objs.size + 1 := by simpa using hcm
          rcases e' with z | z | z | z | z | z
          · rw [z]; exact Nat.le_add_right _ _
          · rw [z]; exact Nat.le_add_right _ _
          · rw [z]; exact Nat.le_add_right _ _
          · rw [z]; exact Nat.le_add_right _ _
          · rw [z]; exact Nat.le_refl _
          · rw [z]; exact Nat.le_add_right _ _
        exact I1.fpOk hle (I1.hok.fresh hle)
      refine ⟨s1.heap.objs.size + 5, _, _, _, H1, rfl, I3, turn_ez (PySem.W.ktu_apart s1.heap.objs.size a b p1.lt p2.lt) ?_, ⟨⟨.none, he⟩, .none, false, .none, .none, hk2 _ _ hz, .inl rfl, hk2 _ _ hTI, hk2 _ _ hTO, h1.at fun o q => hk2 _ o q, h2.at fun o q => hk2 _ o q⟩, fresh6, q⟩
      refine ⟨?_, ?_, ?_, ?_, ?_⟩
      · exact Nat.ne_of_gt (Nat.add_lt_add_left (by decide) _)
      · exact Nat.ne_of_gt (Nat.add_lt_add_left (by decide) _)
      · exact Nat.ne_of_gt (Nat.add_lt_add_left (by decide) _)
      · exact Nat.ne_of_gt (Nat.lt_add_of_pos_right (by decide))
      · exact Nat.ne_of_gt (Nat.add_lt_add_left (by decide) _)
theorem jr_ez {X : Cx} {ρ0 : List Addr} {H0 : Hp} {nn mm : Nat} {aa bb : Addr} (e : ρ0[nn]? = some aa) (e' : ρ0[mm]? = some bb) : JR X ρ0 H0 (.ezL nn mm) (Itez X.K aa bb) := by
  intro ρ S H i g ex R
  simp only [nxt]
  cases q : rdL S nn with
  | none => exact ⟨(fun z => by cases z), (fun v z => by cases z)⟩
  | some xs =>
    cases q' : rdL S mm with
    | none => exact ⟨(fun z => by cases z), (fun v z => by cases z)⟩
    | some ys =>
      obtain ⟨vs, h1, h2⟩ := rdL_ok R (g _ _ e) q
      obtain ⟨ws, h3, h4⟩ := rdL_ok R (g _ _ e') q'
      simp only []
      cases q2 : xs[i]? with
      | none => exact ⟨fun _ => ⟨vs, ws, h1, h3, .inl (vrs_none h2 q2)⟩, (fun v z => by cases z)⟩
      | some v =>
        cases q3 : ys[i]? with
        | none => exact ⟨fun _ => ⟨vs, ws, h1, h3, .inr (vrs_none h4 q3)⟩, (fun v z => by cases z)⟩
        | some w =>
          obtain ⟨v', e1, r1⟩ := h2.get q2
          obtain ⟨w', e2, r2⟩ := h4.get q3
          refine ⟨(fun z => by cases z), fun u z => ?_⟩
          cases z
          refine ⟨⟨vs, ws, v', w', h1, h3, e1, e2⟩, fun x H' y => ?_⟩
          obtain ⟨T, U, x, y, rfl, hT, hU, rfl, y1, y2⟩ := y
          have z1 := y1 vs h1
          rw [e1] at z1; cases z1
          have z2 := y2 ws h3
          rw [e2] at z2; cases z2
          obtain ⟨R1, x1, r3⟩ := pair_ok R hT r1 r2
          obtain ⟨R2, x2, r4⟩ := pair_ok R1 hU (.int i) r3
          exact ⟨R2, x1.trans x2, r4⟩
def ezOf (S : Ms) : List PV → Option Src
  | [.loc n, .loc m] => match rdL S n, rdL S m with | some _, some _ => some (.ezL n m) | _, _ => none
  | _ => none
section
variable {X : Cx} {W : WX} {a b : Expr} {pos : Pos} {ml : ML}
theorem si_ez {p p2 pos2 tpos : Pos} {elts : List Expr} {kk : Nat} (hm : X.mg "enumerate" = none) (hm2 : X.mg "zip" = none) (ha : SA X W [a, b] ml) (hg : Gl X "enumerate" := by rfl) (hg2 : Gl X "zip" := by rfl)
    (na : starEach [.Call (.Name "zip" p2) [a, b] [] pos2] X.env = (false, eval (.Call (.Name "zip" p2) [a, b] [] pos2) X.env) :: starEach [] X.env := by rfl)
    (hs : starEach [a, b] X.env = (false, eval a X.env) :: starEach [b] X.env := by rfl) (hpl : (backTo pos2 (starEach [b] X.env)).any (·.1) = false := by rfl) :
    SI X W (.Tuple elts kk tpos) (.Call (.Name "enumerate" p) [.Call (.Name "zip" p2) [a, b] [] pos2] [] pos) (iSt ezOf ml) :=
  let ⟨ta, pa, qa⟩ := ha
  ⟨_, pi_ez hg hm hg2 hm2 pa na hs hpl, fun ρ env S σ H R R0 er h => by
    refine iSt_ok qa ρ env S σ H R0 er h fun vs vs' s ρ' S' H' g R' e' r q hJ => ?_
    unfold ezOf at q
    split at q
    · split at q
      · rename_i q1 q2
        cases q
        obtain ⟨w, z, rfl, rw, rz⟩ := vrs2 r
        cases rw with
        | loc e1 => cases rz with
          | loc e2 =>
            obtain ⟨vs, h1, _⟩ := rdL_ok R' e1 q1
            obtain ⟨ws, h2, _⟩ := rdL_ok R' e2 q2
            exact ⟨_, _, _, _, rfl, h1, h2, hJ _ (jr_ez e1 e2)⟩
      · cases q
    · cases q⟩
end
end MP

set_option maxRecDepth 100000
namespace MP
open PySem PySem.Spec PyProof.Rows L2
/-! ### defs that ask for a stack without open reprs -/
/-- a def's promise where nothing is being shown -/
structure FnG (P : Program) (w : World) (K : PySem.W.Frag) (mg : Str → Option Value) (base : Heap) (k : Nat) (f : Addr) (fd : FuncData) (ps : List Str) (sp : Sp) : Prop where
  len : ∀ vs H Q E, sp vs H Q E → vs.length = ps.length
  run : ∀ (A : Around) (outer : List Env) (s : Shared) (H : Hp) (args : Args) (us : List Value) (vs : List V) (Q : VK) (E : XK), A.guards = some [] → Room k A → Env0 P w K mg base A outer s H → BindsTo s fd args (ps.zip us) → Vals vs us → sp vs H Q E →
    codeAny (model P w) A (.call (.ref f) args) (CR (L2.CX P w) outer P w H s Q E) s
theorem FnG.imp {P : Program} {w : World} {K : PySem.W.Frag} {mg : Str → Option Value} {base : Heap} {k : Nat} {f : Addr} {fd : FuncData} {ps : List Str} {sp sp' : Sp} (F : FnG P w K mg base k f fd ps sp) (h : ∀ vs H Q E, sp' vs H Q E → sp vs H Q E) : FnG P w K mg base k f fd ps sp' :=
  ⟨fun vs H Q E q => F.len vs H Q E (h _ _ _ _ q), fun A outer s H args us vs Q E g hr he hb hv hs => F.run A outer s H args us vs Q E g hr he hb hv (h _ _ _ _ hs)⟩
theorem fn_okG {P : Program} {w : World} {K : PySem.W.Frag} {mg : Str → Option Value} {base : Heap} {x qual : Str} {sst : Stmt} {f : Addr} {fd : FuncData} {N ps : List Str} {lv nl : Nat} {mm : MS} (F : Fun K x qual sst f fd) (Sc : FnScope N ps (defScope sst)) (hl : N.length = ps.length + nl)
    (hbody : ∀ (cdv : Value) (A : Around) (outer : List Env) (s : Shared) (H : Hp) (E : XK), A.guards = some [] → Room lv (A.deeper (envOfC qual (defScope sst) s.heap.objs.size f cdv)) →
      SSs (cxOf (L2.CX P w) P w K mg base N qual (defScope sst) f cdv A outer s H E) (fun c d _ H => E c d H) (defBody sst) mm) : FnG P w K mg base (lv + 1) f fd ps (spF K mg ps.length (mFn nl mm)) := by
  obtain ⟨oc, od, kV, doc, pm, an, cdv, ct, osl, rfl, lk, hcd⟩ := F.ex
  have len : ∀ vs H Q E, spF K mg ps.length (mFn nl mm) vs H Q E → vs.length = ps.length := fun vs H Q E h => h.1
  refine ⟨len, fun A outer s H args us vs Q E gd hr e0 hb r hsp => ?_⟩
  have hvl := len _ _ _ _ hsp
  have KX : K.In s.heap := e0.mod.kin.keeps fun b o e => (e0.bs b o e).1
  have nolim : s.heap.NoLimit := e0.mod.nolimit.keeps fun b o e => (e0.bs b o e).1
  have kinds : ∀ y ∈ ps.zip us, (defScope sst).names.lookup y.1 = some .local ∨ ((defScope sst).names.lookup y.1 = some .cell ∧ ((cellsFrom (s.heap.objs.size + 1) (defScope sst).names []).lookup y.1).isSome = true) := fun ⟨n, v⟩ hy =>
    (Sc.par n (List.of_mem_zip hy).1).imp id fun q => ⟨q, PySem.W.cellsFrom_some _ _ _ (.inl q)⟩
  refine codeAny_call_function hr.depth (KX _ _ lk) rfl Sc.co Sc.gen rfl (PySem.W.codeRec_of KX hcd) (hb _ _ _ _ ?_)
  refine wpAny_newFunctionEnv_cells Sc.kind kinds fun env he s1 x => ?_
  subst he
  refine ⟨nolim.keeps x.toInCall.keep, codeAny_func ?_⟩
  obtain ⟨hv, ρ, S, args', R, r', hp⟩ := hsp
  obtain ⟨t, pt, qt⟩ := hbody cdv A outer s H E gd (hr.deeper _)
  have hq : t { nx := fun _ H' => Q .non H', rt := Q } (start N vs) H := by
    refine qt ρ (args'.map some ++ List.replicate nl none) S _ H _ R (start_er r' (by rw [hl, hv])) ?_
    unfold mFn at hp
    cases e : mm (args'.map some ++ List.replicate nl none) S with
    | nx env1 S1 => simp only [e] at hp; exact fun ρ1 σ1 H1 g1 R1 e1 er1 => hp ρ1 _ H1 g1 R1 e1 .non
    | rt v S1 => simp only [e] at hp; exact fun ρ1 v1 H1 g1 R1 e1 r1 => hp ρ1 v1 H1 g1 R1 e1 r1
    | exc env1 xx S1 => simp only [e] at hp; exact fun ρ1 σ1 C d H1 g1 R1 e1 er1 hc xr => hp ρ1 C d H1 g1 R1 e1 hc xr
    | bk env1 S1 => simp only [e] at hp; exact hp.elim
    | ct env1 S1 => simp only [e] at hp; exact hp.elim
    | fail => simp only [e] at hp; exact hp.elim
  have I0 : Inv (cxOf (L2.CX P w) P w K mg base N qual (defScope sst) f cdv A outer s H E) [] (start N vs) H s1 := inv_start Sc hr.hd e0 hvl r x
  refine wpAny_mono (pt.run [] s1 (start N vs) H _ I0 hq) (fun fl s' hs => ?_) fun e s' hs => hs
  have done : ∀ {σ' : L2.St} {H' : Hp} {v : V} {u : Value}, Inv (cxOf (L2.CX P w) P w K mg base N qual (defScope sst) f cdv A outer s H E) [] σ' H' s' → RelV v u → Q v H' → CE outer P w H s Q u s' :=
    fun {σ' H' v u} J rv q => ⟨v, H', J.os, J.bare, J.base, J.hok, rv, q⟩
  cases fl with
  | ret u => obtain ⟨v, σ', H', J, rv, q⟩ := hs; exact done J rv q
  | next => obtain ⟨σ', H', J, q⟩ := hs; exact done (v := V.non) (u := Value.none) J rfl q
  | brk => obtain ⟨_, _, _, q⟩ := hs; exact q.elim
  | cont => obtain ⟨_, _, _, q⟩ := hs; exact q.elim
section
variable {X : Cx} {W : WX} {a e : Expr} {es : List Expr} {pos : Pos} {m : ME} {ml : ML}
theorem s_callG {x : Str} {pp : Pos} {f : Addr} {fd : FuncData} {ps : List Str} {lv np : Nat} {G : List PV → Ms → Out PV} (gd : X.A.guards = some []) (F : FnG X.prog X.w X.K X.mg X.base lv f fd ps (spF X.K X.mg np G)) (hnp : ps.length = np) (hr : Room lv X.A)
    (hm : X.mg x = some (.ref f)) (hk : PySem.W.keepIn X.K (.ref f) = true) (hb : Binds X.K fd ps []) (tk : Takes X W) (ha : SA X W (e :: es) ml) (hargs : (e :: es).length = np := by rfl) (hg : Gl X x := by rfl)
    (hdb : (x == ("__debug__" : Str)) = false := by decide) (he : starEach (e :: es) X.env = (false, eval e X.env) :: starEach es X.env := by rfl) (hpl : (backTo pos (starEach es X.env)).any (·.1) = false := by rfl) :
    SE X W (.Call (.Name x pp) (e :: es) [] pos) (mL ml (cl np G)) := by
  obtain ⟨t, pa, qa⟩ := ha
  have pe : PE X (.Call (.Name x pp) (e :: es) [] pos) (tCallSD (spF X.K X.mg np G) [] (WE W) t) := by
    refine ⟨fun pins s σ H Q I h => ?_⟩
    refine wpAny_Call_Name_kw (ld_glob I hg hm ?_ hdb)
    refine PySem.W.callWith_K (h₀ := X.base) I.ok.mod.kin hk (thn (pa.run pos pins s σ H _ I h) fun us s1 ⟨vs, H1, I1, r, q⟩ => ⟨I1.kIn, ?_⟩) he hpl
    have q : spF X.K X.mg np G (vs ++ []) H1 Q (WE W σ) := q
    rw [List.append_nil] at q
    have hlen : us.length = ps.length := by rw [← r.length]; exact F.len _ _ _ _ q
    have hb' : BindsTo s1 fd ⟨us, []⟩ (ps.zip us) := by
      have := hb s1 us I1.kIn (by rw [List.append_nil]; exact hlen)
      rwa [List.append_nil] at this
    refine wpAny_call (codeAny_mono (F.run X.A X.stack s1 H1 ⟨us, []⟩ us vs Q (WE W σ) gd hr I1.env0 hb' r q) fun r s' hq => ?_)
    cases r with
    | error ex => exact passAt tk σ pins H1 s1 ex s' I1 hq
    | ok fl =>
      cases fl with
      | ret u => exact I1.after hq
      | next => exact hq.elim
      | brk => exact hq.elim
      | cont => exact hq.elim
  exact ⟨_, pe, fun ρ env S σ H Q R er h =>
    args_ok (r := fun vs H1 Q => spF X.K X.mg np G (vs ++ []) H1 Q (WE W σ)) qa ρ env S σ H Q (fun ρ' S' H' x x' g e R' r h' => by
      unfold cl at h'
      split at h'
      · rename_i hl
        rw [List.append_nil]
        refine ⟨by rw [r.length]; exact hl, ρ', S', x, R', r, ?_⟩
        cases q : G x S' with
        | fail => rw [q] at h'; exact h'.elim
        | ret v S1 => rw [q] at h'; exact h'
        | exc xx S1 => rw [q] at h'; exact h'
      · exact h'.elim) R er h⟩
/-! ### repr of what reads as data -/
def rReprD (K : PySem.W.Frag) : List V → Hp → VK → Prop := fun xs H Q => ∃ p d, xs = [V.ref p] ∧ Dp K H (V.ref p) d ∧ SeqAt.shaped d = true ∧ d.showable = true ∧ d.shown.length ≤ sizeLine ∧ Q (.str d.shown) H
theorem call_reprD (gd : X.A.guards = some []) (hu : X.A.units + 65 < cLine) : CallR X (.builtin "repr") (rReprD X.K) := by
  intro pins s σ H xs us Q I r h
  obtain ⟨p, d, rfl, hd, hsh, hsw, hsz, q⟩ := h
  obtain ⟨u, rfl, ru⟩ := vals1 r
  obtain ⟨as, hr⟩ := hd.reads I d _ _ ru
  cases ru
  have hdep := SeqAt.depth_of_shaped hsh
  refine repr_of_reads' hr hsw (PyData.noDict_hsm (PyData.hasDict_of_canLay d (SeqAt.canLay_of_shaped hsh))) gd (by omega) (fun b o z => z) (fun h' u tk hk => ?_) hsz
  exact ⟨.str d.shown, H, I.kept (t' := tk) hk, ⟨_, rfl⟩, q⟩
def isSeq : PV → Bool
  | .tup _ => true
  | .loc _ => true
  | .rol _ => true
  | _ => false
def oRepr : List PV → Ms → Out PV
  | [x], S => (match isSeq x, toD S 12 x with
    | true, some d => if SeqAt.shaped d && d.showable && decide (d.shown.length ≤ lim) then .ret (.str d.shown) S else .fail
    | _, _ => .fail)
  | _, _ => .fail
theorem o_repr : OL X W oRepr (rReprD X.K) := by
  intro ρ S H σ Q x x' R r h
  unfold oRepr at h
  split at h
  · rename_i xx
    split at h
    · rename_i d hq e
      split at h
      · rename_i hc
        simp only [Bool.and_eq_true, decide_eq_true_eq] at hc
        obtain ⟨v, rfl, rv⟩ := vrs1 r
        have dp := toD_ok R 12 xx v d rv e
        have hp : ∃ p, v = V.ref p := by
          cases rv with
          | tup _ _ => exact ⟨_, rfl⟩
          | loc _ => exact ⟨_, rfl⟩
          | rol _ _ => exact ⟨_, rfl⟩
          | non => cases hq
          | bl _ => cases hq
          | int _ => cases hq
          | str _ => cases hq
        obtain ⟨p, rfl⟩ := hp
        exact ⟨p, d, rfl, dp, hc.1.1, hc.1.2, lim_le hc.2, Post.now R (.str _) h⟩
      · exact h.elim
    · exact h.elim
  · exact h.elim
end
/-! ### the law's call, from a promise that asks for such a stack -/
theorem law_callG {P : Program} {w : World} {K : PySem.W.Frag} {mg mb : Str → Option Value} {k : Nat} {fa a : Addr} {fd : FuncData} {x : Str} {sp : Sp} {s1 : Shared} {vs : List Value} {ns : List Int}
    (KX : K.In s1.heap) (hns : s1.heap.Ns mainGlobals mg) (hb : s1.heap.Ns builtinsNs mb) (hbb : ∀ x : Str, x ≠ "__name__" → mb x = bootBuiltins x) (hlim : s1.heap.NoLimit) (hg : s1.gens = #[])
    (ha : s1.heap.get? a = some { cls := .type "list", data := .seq vs.toArray }) (hi : IntsAre vs ns) (hl : ns.length ≤ sizeLine) (hr : Room k callerA)
    (F : ∀ base : Heap, K.In base → base.Ns mainGlobals mg → FnG P w K mg base k fa fd [x] sp) (hbind : ∀ (s : Shared) (u : Value), BindsTo s fd ⟨[u], []⟩ [(x, u)])
    (hsp : ∀ H : Hp, Only H → SqL K H a (ns.map V.int) → sp [.ref a] H (fun v _ => v = .bl true) fun _ _ _ => False)
    (hCX : ∀ H e s', L2.CX P w [] H s1 (fun _ _ _ => False) e s' → False) :
    codeAny (model P w) callerA (.call (.ref fa) ⟨[.ref a], []⟩) (fun r s' => r = .ok (.ret (.bool true)) ∧ OldK s1.heap s'.heap ∧ s'.os = s1.os ∧ AllBare s'.gens) s1 := by
  have rv := vals_ints hi
  have lenV := hi.length
  have core : ∀ H : Hp, Only H → SqL K H a (ns.map V.int) → HOk P w H s1.heap → (∀ b, H b ≠ none → b = a) → (H a ≠ none → K.lookup a = none) →
      codeAny (model P w) callerA (.call (.ref fa) ⟨[.ref a], []⟩) (fun r s' => r = .ok (.ret (.bool true)) ∧ OldK s1.heap s'.heap ∧ s'.os = s1.os ∧ AllBare s'.gens) s1 := by
    intro H hO hS hok hA hK
    have only_a : ∀ {b : Addr}, b ≠ a → H b = none := fun {b} n => Classical.byContradiction fun z => n (hA b z)
    have under : ∀ {b : Addr} {o : Obj}, s1.heap.get? b = some o → H b = none → (hidT s1.heap H).get? b = some o := fun e n => hidT_get e n
    have dicts : ∀ {b : Addr} {o : Obj} {es : Array DictEntry} {ep : Nat}, s1.heap.get? b = some o → o.data = .dict es ep → H b = none := fun {b o es ep} e d =>
      only_a fun e' => by
        subst e'
        rw [ha] at e; cases e
        exact nomatch (show Data.seq vs.toArray _ = Data.dict es ep from d)
    have nsK : ∀ {b : Addr} {m : Str → Option Value}, s1.heap.Ns b m → (hidT s1.heap H).Ns b m := fun {b m} ⟨o, es, ep, e, d, r⟩ => ⟨o, es, ep, under e (dicts e d), d, r⟩
    have inK : K.In (hidT s1.heap H) := fun b o e => under (KX b o e) (Classical.byContradiction fun z => by
      obtain rfl := hA b z
      rw [hK z] at e; cases e)
    obtain ⟨mc, c1, c2⟩ := hlim
    have e0 : Env0 P w K mg (hidT s1.heap H) callerA [] s1 H := ⟨rfl, ⟨inK, nsK hns, ⟨mb, nsK hb, hbb⟩, ⟨mc, nsK c1, c2⟩⟩, fun b o e => of_hidT e, Nat.le_of_eq (hidT_size _ _), trivial, fun b hb => absurd (show b ∈ ([] : List Addr) from hb) (by simp), hok, .of_eq hg⟩
    refine codeAny_mono ((F _ inK (nsK hns)).run callerA [] s1 H ⟨[.ref a], []⟩ [.ref a] [.ref a] _ _ rfl hr e0 (hbind s1 (.ref a)) (.cons rfl .nil) (hsp H hO hS)) fun r s' h => ?_
    cases r with
    | error e => exact (hCX H e s' h).elim
    | ok fl => cases fl with
      | next => exact h.elim
      | brk => exact h.elim
      | cont => exact h.elim
      | ret u =>
        obtain ⟨v, H', os, bare, un, hok', r', q⟩ := h
        obtain rfl : v = .bl true := q
        obtain rfl : u = Value.bool true := r'
        refine ⟨rfl, OldK.of_keep fun b o e => ?_, os, bare⟩
        cases q : H b with
        | none => exact un.keep b o e q (fun z => absurd (show b ∈ ([] : List Addr) from z) (by simp)) (by simp)
        | some u =>
          rcases hO b with z | ⟨ob, xs, z⟩
          · rw [q] at z; cases z
          · obtain ⟨e1, _⟩ := hok b _ z
            obtain ⟨e2, _⟩ := hok' b _ (un.frzs b ob _ z)
            rw [e] at e1; cases e1
            exact e2
  cases hk : K.lookup a with
  | some o =>
    have e := KX a o hk
    rw [ha] at e; cases e
    exact core (fun _ => none) (fun _ => .inl rfl) (.inr ⟨_, vs.toArray, _, hk, rfl, rfl, rfl, by rw [List.size_toArray, lenV]; exact hl, by simpa using rv⟩) (fun b u z => nomatch (show (none : Option HO) = some u from z)) (fun b z => absurd rfl z) fun z => absurd rfl z
  | none =>
    have here : (fun b => if b = a then some (HO.frz { cls := .type "list", data := .seq vs.toArray } (.lst (ns.map V.int))) else none : Hp) a = _ := if_pos rfl
    refine core (fun b => if b = a then some (.frz { cls := .type "list", data := .seq vs.toArray } (.lst (ns.map V.int))) else none) (fun b => ?_) (.inl (.inr ⟨_, here⟩)) (fun b u z => ?_) (fun b z => Classical.byContradiction fun n => z (if_neg n)) fun _ => hk
    · by_cases hb : b = a
      · exact .inr ⟨_, _, if_pos hb⟩
      · exact .inl (if_neg hb)
    · by_cases hb : b = a
      · cases (if_pos hb).symm.trans z
        subst hb
        exact ⟨ha, by rw [List.length_map]; exact hl, vs, _, rv, ha⟩
      · cases (if_neg hb).symm.trans z
theorem walk_G {l : PySem.W.OpenLaw} {n k : Nat} {q : Program} {loose : List Str} {XP : (Str → Option Value) → Heap → Prop} {YP : World → Heap → Prop} {d : DefRec} {K : Params → PySem.W.Frag} {sp : World → Sp} {x : Str}
    (hn : l.most = some n) (hn2 : n ≤ sizeLine) (hdf : d.params.defaults = []) (hr : Room k callerA) (hY : ∀ (w : World) (h : Heap), YP w h → (K w.params).In h)
    (F : ∀ (w : World) (mg : Str → Option Value) (fa : Addr) (h : Heap), (K w.params).In h → h.Ns mainGlobals mg → mg d.name = some (.ref fa) →
      ∃ fd : FuncData, (∀ (s : Shared) (u : Value), BindsTo s fd ⟨[u], []⟩ [(x, u)]) ∧ ∀ base : Heap, (K w.params).In base → base.Ns mainGlobals mg → FnG l.prog w (K w.params) mg base k fa fd [x] (sp w))
    (hsp : ∀ (w : World) (H : Hp) (a : Addr) (ns : List Int), ns.length ≤ n → Only H → SqL (K w.params) H a (ns.map V.int) → sp w [.ref a] H (fun v _ => v = .bl true) fun _ _ _ => False) :
    PySem.W.WalkO q loose XP YP l.row.toRowW d [] (fun f vs => PySem.call f vs) := by
  refine Att.attach_call hn hdf fun w s0 s1 mg mb fa o pm cd doc a vs ns G Y ho hd hcd hmg hobj hints hlen hg => ?_
  have KX := hY w _ Y
  obtain ⟨fd, hb, hF⟩ := F w mg fa _ KX G.T.g hmg
  exact law_callG KX G.T.g G.T.b G.T.builtins G.T.nolimit hg hobj hints (Nat.le_trans hlen hn2) hr hF hb (fun H hO hS => hsp w H a ns hlen hO hS) fun H e s' => cx_end H s1 e s'
end MP

set_option maxRecDepth 100000
namespace MP
open PySem PySem.Spec PyProof.Rows L2

/-! ### what a mirror's run ends in -/
def Ret {α : Type} (o : Out α) (Q : α → Ms → Prop) : Prop := match o with | .ret v S => Q v S | _ => False
theorem Ret.mono {α : Type} {o : Out α} {Q Q' : α → Ms → Prop} (h : Ret o Q) (k : ∀ v S, Q v S → Q' v S) : Ret o Q' := by
  cases o with
  | ret v S => exact k v S h
  | exc x S => exact h
  | fail => exact h
theorem Ret.of {α : Type} {o : Out α} {v : α} {S : Ms} (h : o = .ret v S) {Q : α → Ms → Prop} (q : Q v S) : Ret o Q := by rw [h]; exact q
theorem ret_ret {α : Type} {v : α} {S : Ms} {Q : α → Ms → Prop} : Ret (.ret v S) Q = Q v S := id rfl
theorem ret_fail {α : Type} {Q : α → Ms → Prop} : Ret (.fail : Out α) Q = False := id rfl
theorem ret_exc {α : Type} {x : Ex} {S : Ms} {Q : α → Ms → Prop} : Ret (.exc x S : Out α) Q = False := id rfl
theorem ret_bind {α β : Type} {o : Out α} {f : α → Ms → Out β} {Q : β → Ms → Prop} : Ret (o.bind f) Q = Ret o fun v S => Ret (f v S) Q := by cases o <;> rfl
/-- how a statement ends -/
structure Qs where
  nx : Env' → Ms → Prop
  rt : PV → Ms → Prop
  bk : Env' → Ms → Prop := fun _ _ => False
  ct : Env' → Ms → Prop := fun _ _ => False
def RetS (o : SO) (Q : Qs) : Prop := match o with | .nx e S => Q.nx e S | .rt v S => Q.rt v S | .bk e S => Q.bk e S | .ct e S => Q.ct e S | _ => False
theorem RetS.mono {o : SO} {Q Q' : Qs} (h : RetS o Q) (k1 : ∀ e S, Q.nx e S → Q'.nx e S) (k2 : ∀ v S, Q.rt v S → Q'.rt v S) (k3 : ∀ e S, Q.bk e S → Q'.bk e S) (k4 : ∀ e S, Q.ct e S → Q'.ct e S) : RetS o Q' := by
  cases o with
  | nx e S => exact k1 e S h
  | rt v S => exact k2 v S h
  | bk e S => exact k3 e S h
  | ct e S => exact k4 e S h
  | exc _ _ _ => exact h
  | fail => exact h
theorem rets_nx {e : Env'} {S : Ms} {Q : Qs} : RetS (.nx e S) Q = Q.nx e S := id rfl
theorem rets_rt {v : PV} {S : Ms} {Q : Qs} : RetS (.rt v S) Q = Q.rt v S := id rfl
theorem rets_bk {e : Env'} {S : Ms} {Q : Qs} : RetS (.bk e S) Q = Q.bk e S := id rfl
theorem rets_ct {e : Env'} {S : Ms} {Q : Qs} : RetS (.ct e S) Q = Q.ct e S := id rfl
section
variable {env : Env'} {S : Ms} {m n k : ME} {ml mk : ML} {t u : MB} {p q : MS} {f g : PV → PV → Ms → Out PV} {Q : PV → Ms → Prop} {QB : Bool → Ms → Prop} {QL : List PV → Ms → Prop} {D : Qs}
theorem r_m2 : Ret (m2 m n f env S) Q = Ret (m env S) fun x S1 => Ret (n env S1) fun y S2 => Ret (f x y S2) Q := by unfold m2; simp only [ret_bind]
theorem r_m1 {f : PV → Ms → Out PV} : Ret (m1 m f env S) Q = Ret (m env S) fun x S1 => Ret (f x S1) Q := by unfold m1; simp only [ret_bind]
theorem r_var {i : Nat} {v : PV} (h : env[i]? = some (some v)) : Ret (mVar i env S) Q = Q v S := by unfold mVar; rw [h]; rfl
theorem r_v0 {x : PV} {e : Env'} : Ret (mVar 0 (some x :: e) S) Q = Q x S := id rfl
theorem r_vs {i : Nat} {x : Option PV} {e : Env'} : Ret (mVar (i + 1) (x :: e) S) Q = Ret (mVar i e S) Q := id rfl
theorem r_C {v : PV} : Ret (mC v env S) Q = Q v S := id rfl
theorem r_L {f : List PV → Ms → Out PV} : Ret (mL ml f env S) Q = Ret (ml env S) fun xs S1 => Ret (f xs S1) Q := by unfold mL; simp only [ret_bind]
theorem r_nil : Ret (mNil env S) QL = QL [] S := id rfl
theorem r_cons : Ret (mCons m ml env S) QL = Ret (m env S) fun x S1 => Ret (ml env S1) fun xs S2 => QL (x :: xs) S2 := by
  unfold mCons
  cases m env S with
  | ret x S1 => simp only [ret_ret]; cases ml env S1 <;> rfl
  | exc x S => rfl
  | fail => rfl
theorem r_B : Ret (mB m env S) QB = Ret (m env S) fun x S1 => Ret (asB x S1) QB := by show Ret (outB asB m env S) QB = _; unfold outB; cases m env S <;> rfl
theorem r_T : Ret (mT m env S) QB = Ret (m env S) fun x S1 => Ret (truth x S1) QB := by show Ret (outB truth m env S) QB = _; unfold outB; cases m env S <;> rfl
theorem r_asB {b : Bool} : Ret (asB (.bl b) S) QB = QB b S := id rfl
theorem r_chain : Ret (mChain m n k f g env S) Q = Ret (m env S) fun x S1 => Ret (n env S1) fun y S2 => Ret (f x y S2) fun z S3 => Ret (asB z S3) fun b S4 => if b = true then Ret (k env S4) fun w S5 => Ret (g y w S5) Q else Q (.bl false) S4 := by
  unfold mChain
  simp only [ret_bind]
  congr 1; funext x S1; congr 1; funext y S2; congr 1; funext z S3
  cases z with
  | bl b => cases b with
    | true => simp only [asB, ret_ret, ret_bind, if_true]
    | false => simp only [asB, ret_ret]; rfl
  | _ => rfl
theorem r_bAnd : Ret (bAnd t u env S) QB = Ret (t env S) fun b S1 => if b = true then Ret (u env S1) QB else QB false S1 := by
  unfold bAnd
  cases t env S with
  | ret b S1 => cases b <;> rfl
  | exc _ _ => rfl
  | fail => rfl
theorem r_bOr : Ret (bOr t u env S) QB = Ret (t env S) fun b S1 => if b = true then QB true S1 else Ret (u env S1) QB := by
  unfold bOr
  cases t env S with
  | ret b S1 => cases b <;> rfl
  | exc _ _ => rfl
  | fail => rfl
theorem r_bNot : Ret (bNot t env S) QB = Ret (t env S) fun b S1 => QB (!b) S1 := by unfold bNot; cases t env S <;> rfl
theorem r_mAnd : Ret (mAnd m n env S) Q = Ret (m env S) fun x S1 => Ret (asB x S1) fun b S2 => if b = true then Ret (n env S2) Q else Q (.bl false) S2 := by
  unfold mAnd
  cases m env S with
  | ret x S1 => cases x with
    | bl b => cases b <;> rfl
    | _ => rfl
  | exc _ _ => rfl
  | fail => rfl
theorem r_mOr : Ret (mOr m n env S) Q = Ret (m env S) fun x S1 => Ret (asB x S1) fun b S2 => if b = true then Q (.bl true) S2 else Ret (n env S2) Q := by
  unfold mOr
  cases m env S with
  | ret x S1 => cases x with
    | bl b => cases b <;> rfl
    | _ => rfl
  | exc _ _ => rfl
  | fail => rfl
theorem r_mNot : Ret (mNot m env S) Q = Ret (m env S) fun x S1 => Ret (asB x S1) fun b S2 => Q (.bl (!b)) S2 := by
  unfold mNot
  cases m env S with
  | ret x S1 => cases x with
    | bl b => cases b <;> rfl
    | _ => rfl
  | exc _ _ => rfl
  | fail => rfl
theorem r_mIf : Ret (mIf t m n env S) Q = Ret (t env S) fun b S1 => if b = true then Ret (m env S1) Q else Ret (n env S1) Q := by
  unfold mIf
  cases t env S with
  | ret b S1 => cases b <;> rfl
  | exc _ _ => rfl
  | fail => rfl
theorem r_cut : Ret (mCut m n k env S) Q = Ret (m env S) fun x S1 => Ret (n env S1) fun y S2 => ∃ lo, partI y = some lo ∧ Ret (k env S2) fun z S3 => ∃ hi, partI z = some hi ∧ Ret (oCut x lo hi S3) Q := by
  unfold mCut
  simp only [ret_bind]
  congr 1; funext x S1; congr 1; funext y S2
  cases h : partI y with
  | none => simp [ret_fail]
  | some lo =>
    simp only [ret_bind, Option.some.injEq, exists_eq_left', eq_iff_iff]
    apply Iff.of_eq
    congr 1; funext z S3
    cases h : partI z with
    | none => simp [ret_fail]
    | some hi => simp
theorem r_onlyI : Ret (onlyI m env S) Q = Ret (m env S) fun x S1 => ∃ i, x = .int i ∧ Q (.int i) S1 := by
  unfold onlyI
  cases m env S with
  | ret x S1 => cases x <;> simp [Ret]
  | exc _ _ => rfl
  | fail => rfl
theorem r_meth {f : PV → List PV → Ms → Out PV} : Ret (mMeth m ml f env S) Q = Ret (m env S) fun x S1 => (lstOf S1 x).isSome = true ∧ Ret (ml env S1) fun xs S2 => Ret (f x xs S2) Q := by
  unfold mMeth
  simp only [ret_bind]
  congr 1; funext x S1
  by_cases h : (lstOf S1 x).isSome = true
  · rw [if_pos h]; simp only [ret_bind, h, true_and]
  · rw [if_neg h]; simp [ret_fail, h]
theorem r_callK {nn kk : Nat} {is : List Nat} {G : List PV → Ms → Out PV} : Ret (mCallK ml mk nn kk is G env S) Q = Ret (ml env S) fun vs S1 => Ret (mk env S1) fun zs S2 => vs.length = nn ∧ zs.length = kk ∧ Ret (G (gOf .non is vs zs) S2) Q := by
  unfold mCallK
  simp only [ret_bind]
  congr 1; funext vs S1; congr 1; funext zs S2
  by_cases h : vs.length = nn ∧ zs.length = kk
  · rw [if_pos h]; simp [h.1, h.2]
  · rw [if_neg h]; simp only [ret_fail]; exact propext ⟨False.elim, fun z => h ⟨z.1, z.2.1⟩⟩
theorem r_ite {c : Prop} [Decidable c] {a b : Out PV} : Ret (if c then a else b) Q = if c then Ret a Q else Ret b Q := by split <;> rfl
/-! statements -/
theorem q_next : RetS (sNext env S) D = D.nx env S := id rfl
theorem q_seq : RetS (sSeq p q env S) D = RetS (p env S) { D with nx := fun e S1 => RetS (q e S1) D } := by unfold sSeq; cases p env S <;> rfl
theorem q_of {f : PV → Env' → Ms → SO} : RetS (sOf m f env S) D = Ret (m env S) fun v S1 => RetS (f v env S1) D := by unfold sOf; cases m env S <;> rfl
theorem q_retN : RetS (sRetN env S) D = D.rt .non S := id rfl
theorem q_if : RetS (sIf t p q env S) D = Ret (t env S) fun b S1 => if b = true then RetS (p env S1) D else RetS (q env S1) D := by
  unfold sIf
  cases t env S with
  | ret b S1 => cases b <;> rfl
  | exc _ _ => rfl
  | fail => rfl
theorem q_toSO {o : Option Env'} : RetS (toSO o S) D = ∃ e, o = some e ∧ D.nx e S := by cases o <;> simp [toSO, RetS]
theorem q_par {i j : Nat} : RetS (sPar i j m n env S) D = Ret (m env S) fun v S1 => Ret (n env S1) fun w S2 => D.nx ((env.set i (some v)).set j (some w)) S2 := by
  unfold sPar
  have e : mCons m (mCons n mNil) env S = (m env S).bind fun v S1 => (n env S1).bind fun w S2 => .ret [v, w] S2 := by
    unfold mCons mNil Out.bind
    cases m env S with
    | ret v S1 => dsimp only; cases n env S1 <;> rfl
    | exc _ _ => rfl
    | fail => rfl
  rw [e]
  cases m env S with
  | ret v S1 => simp only [Out.bind, ret_ret]; cases n env S1 <;> rfl
  | exc _ _ => rfl
  | fail => rfl
theorem q_par3 {i j l : Nat} : RetS (sPar3 i j l m n k env S) D = Ret (m env S) fun v S1 => Ret (n env S1) fun w S2 => Ret (k env S2) fun z S3 => D.nx (((env.set i (some v)).set j (some w)).set l (some z)) S3 := by
  unfold sPar3
  have e : mCons m (mCons n (mCons k mNil)) env S = (m env S).bind fun v S1 => (n env S1).bind fun w S2 => (k env S2).bind fun z S3 => .ret [v, w, z] S3 := by
    unfold mCons mNil Out.bind
    cases m env S with
    | ret v S1 => dsimp only; cases n env S1 with
      | ret w S2 => dsimp only; cases k env S2 <;> rfl
      | exc _ _ => rfl
      | fail => rfl
    | exc _ _ => rfl
    | fail => rfl
  rw [e]
  cases m env S with
  | ret v S1 => simp only [Out.bind, ret_ret]; cases n env S1 with
    | ret w S2 => simp only [ret_ret]; cases k env S2 <;> rfl
    | exc _ _ => rfl
    | fail => rfl
  | exc _ _ => rfl
  | fail => rfl
theorem q_aug {i : Nat} {x : PV} (h : env[i]? = some (some x)) : RetS (sAug i f m env S) D = Ret (m env S) fun y S1 => Ret (f x y S1) fun v S2 => D.nx (env.set i (some v)) S2 := by
  unfold sAug
  rw [h]
  cases m env S with
  | ret v S1 => simp only [Out.bind, ret_ret]; cases f x v S1 <;> rfl
  | exc _ _ => rfl
  | fail => rfl
theorem q_put : RetS (sPut m n k env S) D = Ret (k env S) fun v S1 => Ret (m env S1) fun o S2 => Ret (n env S2) fun i S3 => ∃ S4, oPut o i v S3 = some S4 ∧ D.nx env S4 := by
  unfold sPut
  cases k env S with
  | ret v S1 => simp only [ret_ret]; cases m env S1 with
    | ret o S2 => simp only [ret_ret]; cases n env S2 with
      | ret i S3 => simp only [ret_ret]; cases h : oPut o i v S3 <;> simp [RetS]
      | exc _ _ => rfl
      | fail => rfl
    | exc _ _ => rfl
    | fail => rfl
  | exc _ _ => rfl
  | fail => rfl
theorem r_fn {nl : Nat} {body : MS} {args : List PV} : Ret (mFn nl body args S) Q = RetS (body (args.map some ++ List.replicate nl none) S) { nx := fun _ S1 => Q .non S1, rt := Q } := by
  unfold mFn
  cases body (args.map some ++ List.replicate nl none) S <;> rfl
/-! ### stores -/
/-- all objects but those at ms are as they were -/
def Fr (ms : List Nat) (S S' : Ms) : Prop := S.length ≤ S'.length ∧ ∀ n, n < S.length → n ∉ ms → S'[n]? = S[n]?
theorem Fr.refl (ms : List Nat) (S : Ms) : Fr ms S S := ⟨Nat.le_refl _, fun _ _ _ => rfl⟩
theorem Fr.trans {ms : List Nat} {S S1 S2 : Ms} (a : Fr ms S S1) (b : Fr ms S1 S2) : Fr ms S S2 :=
  ⟨Nat.le_trans a.1 b.1, fun n h1 h2 => (b.2 n (Nat.lt_of_lt_of_le h1 a.1) h2).trans (a.2 n h1 h2)⟩
theorem Fr.app (ms : List Nat) (S t : Ms) : Fr ms S (S ++ t) := ⟨by rw [List.length_append]; omega, fun n h _ => List.getElem?_append_left h⟩
theorem Fr.set {ms : List Nat} (S : Ms) {n : Nat} (o : Ob) (h : n ∈ ms ∨ S.length ≤ n) : Fr ms S (S.set n o) :=
  ⟨by rw [List.length_set]; exact Nat.le_refl _, fun k h1 h2 => List.getElem?_set_ne (fun z => by subst z; rcases h with h | h; exact h2 h; omega)⟩
theorem Fr.mono {ms ms' : List Nat} {S S' : Ms} (a : Fr ms S S') (h : ∀ n ∈ ms, n ∈ ms') : Fr ms' S S' := ⟨a.1, fun n h1 h2 => a.2 n h1 fun z => h2 (h n z)⟩
/-- what was new in between does not matter -/
theorem Fr.drop {ms : List Nat} {n : Nat} {S S1 S2 : Ms} (a : Fr ms S S1) (b : Fr (n :: ms) S1 S2) (h : S.length ≤ n) : Fr ms S S2 :=
  ⟨Nat.le_trans a.1 b.1, fun k h1 h2 => (b.2 k (Nat.lt_of_lt_of_le h1 a.1) (fun z => by rcases List.mem_cons.mp z with z | z; omega; exact h2 z)).trans (a.2 k h1 h2)⟩
theorem Fr.get {ms : List Nat} {S S' : Ms} (a : Fr ms S S') {n : Nat} {o : Ob} (h : S[n]? = some o) (hn : n ∉ ms) : S'[n]? = some o := by
  rw [a.2 n (List.getElem?_eq_some_iff.mp h).1 hn]; exact h
theorem lt_of_get {S : Ms} {n : Nat} {o : Ob} (h : S[n]? = some o) : n < S.length := (List.getElem?_eq_some_iff.mp h).1
theorem get_new (S : Ms) (o : Ob) : (S ++ [o])[S.length]? = some o := by simp
theorem get_set {S : Ms} {n : Nat} {o o' : Ob} (h : S[n]? = some o) : (S.set n o')[n]? = some o' := List.getElem?_set_self (lt_of_get h)
end
end MP

set_option maxRecDepth 100000
namespace MP
open PySem PySem.Spec PyProof.Rows L2
theorem r_cl0 {G : List PV → Ms → Out PV} {S : Ms} {Q : PV → Ms → Prop} : Ret (cl 0 G [] S) Q = Ret (G [] S) Q := id rfl
theorem r_cl1 {G : List PV → Ms → Out PV} {S : Ms} {Q : PV → Ms → Prop} {a : PV} : Ret (cl 1 G [a] S) Q = Ret (G [a] S) Q := id rfl
theorem r_cl2 {G : List PV → Ms → Out PV} {S : Ms} {Q : PV → Ms → Prop} {a b : PV} : Ret (cl 2 G [a, b] S) Q = Ret (G [a, b] S) Q := id rfl
theorem r_cl3 {G : List PV → Ms → Out PV} {S : Ms} {Q : PV → Ms → Prop} {a b c : PV} : Ret (cl 3 G [a, b, c] S) Q = Ret (G [a, b, c] S) Q := id rfl
theorem r_cl4 {G : List PV → Ms → Out PV} {S : Ms} {Q : PV → Ms → Prop} {a b c d : PV} : Ret (cl 4 G [a, b, c, d] S) Q = Ret (G [a, b, c, d] S) Q := id rfl
section
variable {S : Ms} {Q : PV → Ms → Prop} {n : Nat} {xs : List PV}
theorem isDict_lst (h : S[n]? = some (.lst xs)) : isDict S (.loc n) = false := by simp [isDict, h]
theorem r_subL {i : Int} {v : PV} (h : S[n]? = some (.lst xs)) (e : atI xs i = some v) : Ret (oSub1 (.loc n) (.int i) S) Q = Q v S := by
  simp [oSub1, oSel, isDict_lst h, oIdx, itemsOf, h, e, Ret]
theorem r_subT {i : Int} {v : PV} (e : atI xs i = some v) : Ret (oSub1 (.tup xs) (.int i) S) Q = Q v S := by
  simp [oSub1, oSel, isDict, oIdx, itemsOf, e, Ret]
theorem r_subR {i : Int} {v : PV} (e : atI xs i = some v) : Ret (oSub1 (.rol xs) (.int i) S) Q = Q v S := by
  simp [oSub1, oSel, isDict, oIdx, itemsOf, e, Ret]
theorem r_add {i j : Int} : Ret (oAdd (.int i) (.int j) S) Q = Q (.int (i + j)) S := id rfl
theorem r_addI {i j : Int} : Ret (oAddI (.int i) (.int j) S) Q = Q (.int (i + j)) S := id rfl
theorem r_sub {i j : Int} : Ret (oSub (.int i) (.int j) S) Q = Q (.int (i - j)) S := id rfl
theorem r_neg {i : Int} : Ret (oNeg (.int i) S) Q = Q (.int (-i)) S := id rfl
theorem r_cmp {p : Int → Int → Bool} {i j : Int} : Ret (oCmp p (.int i) (.int j) S) Q = Q (.bl (p i j)) S := id rfl
theorem r_mul {i j : Int} (h : CMul i j ∨ CMulW i j) : Ret (oMul (.int i) (.int j) S) Q = Q (.int (i * j)) S := by simp [oMul, h, Ret]
theorem r_mod {i j : Int} (h : 0 < j) : Ret (oMod (.int i) (.int j) S) Q = Q (.int (i % j)) S := by
  simp [oMod, show j ≠ 0 by omega, Ret, Int.fmod_eq_emod_of_nonneg i (Int.le_of_lt h)]
theorem r_div {i j : Int} (h : 0 < j) (h2 : j < 1073741824) : Ret (oDiv (.int i) (.int j) S) Q = Q (.int (i / j)) S := by
  have e : CDivN i j := ⟨by omega, by omega⟩
  simp [oDiv, e, Ret, Int.fdiv_eq_ediv_of_nonneg i (Int.le_of_lt h)]
theorem r_pow {i : Int} {k : Nat} (h : CPow i k) : Ret (oPow (.int i) (.int k) S) Q = Q (.int (i ^ k)) S := by simp [oPow, h, Ret]
theorem eq_int {i j : Int} : eqD S (.int i) (.int j) = some (i == j) := by
  have e : ∀ k : Int, SeqAt.shaped (.int k) = true := fun k => by simp [SeqAt.shaped, PyData.canLay0, PyData.depth]
  simp [eqD, toD, e, PyData.eqv]
theorem r_eqI {i j : Int} : Ret (oEq (.int i) (.int j) S) Q = Q (.bl (i == j)) S := by simp [oEq, eq_int, Ret]
theorem r_neI {i j : Int} : Ret (oNe (.int i) (.int j) S) Q = Q (.bl (!(i == j))) S := by simp [oNe, eq_int, Ret]
theorem at_nat {α : Type} {xs : List α} {k : Nat} {v : α} (h : xs[k]? = some v) : atI xs (k : Int) = some v := L2.atI_nat h
theorem at_int {α : Type} {xs : List α} {i : Int} {v : α} (h0 : 0 ≤ i) (h : xs[i.toNat]? = some v) : atI xs i = some v := by
  have e : i = (i.toNat : Int) := by omega
  rw [e]; exact at_nat h
theorem r_put {i : Int} {v : PV} (h : S[n]? = some (.lst xs)) (h0 : 0 ≤ i) (h1 : i.toNat < xs.length) : oPut (.loc n) (.int i) v S = some (S.set n (.lst (xs.set i.toNat v))) := by
  have e : ixN xs.length i = some i.toNat := by unfold ixN; rw [if_pos h0, if_pos (by omega)]
  simp [oPut, h, e]
end

/-! ### the source of draws -/
/-- a box with its three numbers; c: how many draws were made -/
structure Box (b : Nat) (S : Ms) (c : Int) : Prop where
  ex : ∃ x y : Int, S[b]? = some (.lst [.int x, .int y, .int c]) ∧ 0 ≤ x ∧ 0 ≤ y ∧ y < 4611686018427387904
  nn : 0 ≤ c
theorem Box.lt {b : Nat} {S : Ms} {c : Int} (h : Box b S c) : b < S.length := let ⟨_, _, e, _⟩ := h.ex; lt_of_get e
theorem Box.fr {b : Nat} {S S' : Ms} {c : Int} (h : Box b S c) {ms : List Nat} (f : Fr ms S S') (hb : b ∉ ms) : Box b S' c :=
  ⟨let ⟨x, y, e, r⟩ := h.ex; ⟨x, y, f.get e hb, r⟩, h.nn⟩
/-- a draw of one number below n: at most k more draws are counted -/
def Drew (b : Nat) (S : Ms) (c : Int) (k : Int) (S' : Ms) : Prop := Fr [b] S S' ∧ ∃ c', c ≤ c' ∧ c' ≤ c + k ∧ Box b S' c'
theorem Drew.refl {b : Nat} {S : Ms} {c : Int} (h : Box b S c) : Drew b S c 0 S := ⟨.refl _ _, c, by omega, by omega, h⟩

def Mtake (c1 c2 : Int) : Nat → List PV → Ms → Out PV
  | 0 => fun _ _ => .fail
  | d + 1 => mFn 2 (sSeq (sIf (mB (m2 (mSub (mVar 0) (mC (.int 0))) (mC (.int 0)) oGt))
  (sSeq (sSet 2 (m2 (mSub (mVar 0) (mC (.int 0))) (mVar 1) oMod))
  (sSeq (sPut (mVar 0) (mC (.int 0)) (m2 (mSub (mVar 0) (mC (.int 0))) (mVar 1) oDiv))
  (sRet (mVar 2))))
  sNext)
  (sSeq (sIf (mB (m2 (mVar 1) (m2 (mC (.int 10)) (mC (.int 7)) oPow) oGt))
  (sRet (m2 (m2 (mL (mCons (mVar 0) (mCons (m2 (mC (.int 10)) (mC (.int 7)) oPow) mNil)) (cl 2 (Mtake c1 c2 d))) (m2 (m2 (mC (.int 10)) (mC (.int 7)) oPow) (mL (mCons (mVar 0) (mCons (m2 (m2 (m2 (mVar 1) (mC (.int 1)) oSub) (m2 (mC (.int 10)) (mC (.int 7)) oPow) oDiv) (mC (.int 1)) oAdd) mNil)) (cl 2 (Mtake c1 c2 d))) oMul) oAdd) (mVar 1) oMod))
  sNext)
  (sSeq (sPut (mVar 0) (mC (.int 2)) (m2 (mSub (mVar 0) (mC (.int 2))) (mC (.int 1)) oAdd))
  (sSeq (sSet 3 (m2 (m2 (m2 (mSub (mVar 0) (mC (.int 1))) (m2 (mC (.int c1)) (mSub (mVar 0) (mC (.int 2))) oMul) oAdd) (mC (.int 5)) oPow) (mC (.int 2147483647)) oMod))
  (sRet (m2 (m2 (m2 (m2 (m2 (mVar 3) (m2 (m2 (mVar 3) (mC (.int c2)) oMod) (mC (.int 7)) oAdd) oMul) (m2 (mSub (mVar 0) (mC (.int 2))) (mC (.int 7919)) oMul) oAdd) (mC (.int 2147483629)) oMod) (mC (.int 64)) oDiv) (mVar 1) oMod))))))
theorem r_pow10 {S : Ms} {Q : PV → Ms → Prop} : Ret (oPow (.int 10) (.int 7) S) Q = Q (.int 10000000) S := by
  have h := r_pow (S := S) (Q := Q) (i := 10) (k := 7) (by refine ⟨?_, ?_, ?_⟩ <;> decide)
  rw [show ((10 : Int) ^ 7) = 10000000 by decide] at h
  exact h
theorem r_pow5 {S : Ms} {Q : PV → Ms → Prop} {i : Int} (h : 0 ≤ i ∧ i < 2 ^ 64) : Ret (oPow (.int i) (.int 5) S) Q = Q (.int (i ^ 5)) S :=
  r_pow (S := S) (Q := Q) (i := i) (k := 5) ⟨by decide, by decide, by omega⟩
theorem r_set2 {x y z w : PV} : [x, y, z].set (2 : Int).toNat w = [x, y, w] := id rfl
theorem CMul.sm {i j : Int} (h : 0 ≤ i) (h2 : i < 2 ^ 64) : CMul i j ∨ CMulW i j := .inl (.inl ⟨by omega, h2⟩)
theorem CMul.sr {i j : Int} (h : 0 ≤ j) (h2 : j < 2 ^ 64) : CMul i j ∨ CMulW i j := .inl (.inr ⟨by omega, h2⟩)
theorem take_ok {c1 c2 : Int} (h1 : 0 ≤ c1 ∧ c1 < 1000000) (h2 : 0 < c2 ∧ c2 < 1000000) (d : Nat) {b : Nat} {S : Ms} {c n : Int} (hb : Box b S c) (hc : c < 1099511627776) (h0 : 1 ≤ n) (hn : n ≤ 10000000) :
    Ret (Mtake c1 c2 (d + 1) [.loc b, .int n] S) fun v S' => ∃ i : Int, v = .int i ∧ 0 ≤ i ∧ i < n ∧ Drew b S c 1 S' := by
  obtain ⟨⟨x, y, e, hx, hy, hy2⟩, hc0⟩ := hb
  have eb0 : ∀ (Q : PV → Ms → Prop), Ret (oSub1 (.loc b) (.int 0) S) Q = Q (.int x) S := fun Q => r_subL e (id rfl)
  have eb1 : ∀ (Q : PV → Ms → Prop), Ret (oSub1 (.loc b) (.int 1) S) Q = Q (.int y) S := fun Q => r_subL e (id rfl)
  have eb2 : ∀ (Q : PV → Ms → Prop), Ret (oSub1 (.loc b) (.int 2) S) Q = Q (.int c) S := fun Q => r_subL e (id rfl)
  unfold Mtake
  rw [r_fn]
  simp only [List.map, List.replicate, List.cons_append, List.nil_append, q_seq, q_if, r_B, r_m2, r_v0, r_vs, r_C, eb0, r_cmp, r_asB]
  by_cases hx0 : 0 < x
  · rw [if_pos (by simpa using hx0)]
    simp only [q_seq, q_of, q_toSO, gNm, Option.some.injEq, exists_eq_left', q_put, List.set, r_m2, r_v0, r_vs, r_C, eb0, r_mod (show (0 : Int) < n by omega), r_div (show (0 : Int) < n by omega) (by omega : n < 1073741824)]
    refine ⟨_, r_put e (by decide) (by simp), x % n, rfl, Int.emod_nonneg _ (by omega), Int.emod_lt_of_pos _ (by omega), ?_⟩
    refine ⟨.set _ _ (.inl (by simp)), c, by omega, by omega, ⟨x / n, y, get_set e, Int.ediv_nonneg hx (by omega), hy, hy2⟩, hc0⟩
  · rw [if_neg (by simpa using hx0)]
    have ex : x = 0 := by omega
    subst ex
    simp only [q_next, q_if, r_B, r_m2, r_v0, r_vs, r_C, r_pow10, r_cmp, r_asB]
    rw [if_neg (by simp; omega)]
    simp only [q_next, q_seq, q_of, q_toSO, gNm, Option.some.injEq, exists_eq_left', q_put, List.set, r_m2, r_v0, r_vs, r_C, eb2, r_add]
    refine ⟨_, r_put e (by decide) (by simp), ?_⟩
    simp only [r_set2]
    have e' : (S.set b (.lst [.int 0, .int y, .int (c + 1)]))[b]? = some (.lst [.int 0, .int y, .int (c + 1)]) := get_set e
    have fb1 : ∀ (Q : PV → Ms → Prop), Ret (oSub1 (.loc b) (.int 1) (S.set b (.lst [.int 0, .int y, .int (c + 1)]))) Q = Q (.int y) (S.set b (.lst [.int 0, .int y, .int (c + 1)])) := fun Q => r_subL e' (id rfl)
    have fb2 : ∀ (Q : PV → Ms → Prop), Ret (oSub1 (.loc b) (.int 2) (S.set b (.lst [.int 0, .int y, .int (c + 1)]))) Q = Q (.int (c + 1)) (S.set b (.lst [.int 0, .int y, .int (c + 1)])) := fun Q => r_subL e' (id rfl)
    have m1 : 0 ≤ c1 * (c + 1) := Int.mul_nonneg h1.1 (by omega)
    have m2 : c1 * (c + 1) ≤ 1000000 * (c + 1) := Int.mul_le_mul_of_nonneg_right (by omega) (by omega)
    simp only [fb1, fb2, r_mul (CMul.sm h1.1 (by omega)), r_add, r_pow5 (i := y + c1 * (c + 1)) (by omega), r_mod (show (0 : Int) < 2147483647 by omega), r_mod h2.1]
    have q0 := Int.emod_nonneg ((y + c1 * (c + 1)) ^ 5) (show (2147483647 : Int) ≠ 0 by omega)
    have q1 := Int.emod_lt_of_pos ((y + c1 * (c + 1)) ^ 5) (show (0 : Int) < 2147483647 by omega)
    rw [r_mul (.inl (.inl (by omega)))]
    simp only [fb2, r_mul (CMul.sr (show (0 : Int) ≤ 7919 by omega) (by omega)), rets_rt, r_add, r_mod (show (0 : Int) < 2147483629 by omega), r_div (show (0 : Int) < 64 by omega) (by omega : (64 : Int) < 1073741824), r_mod (show (0 : Int) < n by omega)]
    refine ⟨_, rfl, Int.emod_nonneg _ (by omega), Int.emod_lt_of_pos _ (by omega), ?_⟩
    exact ⟨.set _ _ (.inl (by simp)), c + 1, by omega, by omega, ⟨0, y, e', by omega, hy, hy2⟩, by omega⟩
end MP

set_option maxRecDepth 100000
namespace MP
open PySem PySem.Spec PyProof.Rows L2
/-! ### loops -/
def nxO : Option PV → Nx | some v => .yld v | none => .stop
section
variable {env : Env'} {S : Ms} {m n k : ME} {ml mk : ML} {t u : MB} {p q : MS} {mi : MI} {src : Src} {g : MG} {Q : PV → Ms → Prop} {QI : Src → Ms → Prop} {D : Qs} {vl : List Nat}
theorem q_for : RetS (sFor mi g p env S) D = Ret (mi env S) fun src S1 => RetS (loopM src g p fuel 0 env S1) D := by unfold sFor; cases mi env S <;> rfl
theorem i_of : Ret (iOf m env S) QI = Ret (m env S) fun v S1 => ∃ s, srcOf S1 v = some s ∧ QI s S1 := by
  unfold iOf
  cases m env S with
  | ret v S1 => simp only [ret_ret]; cases h : srcOf S1 v <;> simp [Ret]
  | exc _ _ => rfl
  | fail => rfl
theorem i_rg {f : List PV → Option Src} : Ret (iRg f ml env S) QI = Ret (ml env S) fun vs S1 => ∃ s, f vs = some s ∧ QI s S1 := by
  unfold iRg
  cases ml env S with
  | ret v S1 => simp only [ret_ret]; cases h : f v <;> simp [Ret]
  | exc _ _ => rfl
  | fail => rfl
theorem i_st {f : Ms → List PV → Option Src} : Ret (iSt f ml env S) QI = Ret (ml env S) fun vs S1 => ∃ s, f S1 vs = some s ∧ QI s S1 := by
  unfold iSt
  cases ml env S with
  | ret v S1 => simp only [ret_ret]; cases h : f S1 v <;> simp [Ret]
  | exc _ _ => rfl
  | fail => rfl
theorem loop_ok (vs : List PV) (I : Nat → Env' → Ms → Prop) (hn : ∀ i e S, I i e S → nxt S i src = nxO vs[i]?)
    (hs : ∀ i v e S, vs[i]? = some v → I i e S → ∃ e1, g v e = some e1 ∧ RetS (p e1 S) { nx := I (i + 1), ct := I (i + 1), bk := D.nx, rt := D.rt })
    (hd : ∀ e S, I vs.length e S → D.nx e S) : ∀ (f i : Nat) (env : Env') (S : Ms), i ≤ vs.length → vs.length < i + f → I i env S → RetS (loopM src g p f i env S) D
  | 0, i, env, S, h1, h2, _ => absurd h2 (by omega)
  | f + 1, i, env, S, h1, h2, hI => by
    unfold loopM
    rw [hn i env S hI]
    cases e : vs[i]? with
    | none =>
      have : i = vs.length := by have := List.getElem?_eq_none_iff.mp e; omega
      subst this
      exact hd env S hI
    | some v =>
      simp only [nxO]
      obtain ⟨e1, g1, b1⟩ := hs i v env S e hI
      have hlt := (List.getElem?_eq_some_iff.mp e).1
      simp only [g1]
      cases hb : p e1 S with
      | nx e2 S2 => rw [hb] at b1; exact loop_ok vs I hn hs hd f (i + 1) e2 S2 (by omega) (by omega) b1
      | ct e2 S2 => rw [hb] at b1; exact loop_ok vs I hn hs hd f (i + 1) e2 S2 (by omega) (by omega) b1
      | bk e2 S2 => rw [hb] at b1; exact b1
      | rt v S2 => rw [hb] at b1; exact b1
      | exc _ _ _ => rw [hb] at b1; exact b1
      | fail => rw [hb] at b1; exact b1
theorem q_loop (vs : List PV) (I : Nat → Env' → Ms → Prop) (hl : vs.length < fuel) (h0 : I 0 env S) (hn : ∀ i e S, I i e S → nxt S i src = nxO vs[i]?)
    (hs : ∀ i v e S, vs[i]? = some v → I i e S → ∃ e1, g v e = some e1 ∧ RetS (p e1 S) { nx := I (i + 1), ct := I (i + 1), bk := D.nx, rt := D.rt })
    (hd : ∀ e S, I vs.length e S → D.nx e S) : RetS (loopM src g p fuel 0 env S) D := loop_ok vs I hn hs hd fuel 0 env S (Nat.zero_le _) (by omega) h0
theorem while_ok (I : Nat → Env' → Ms → Prop)
    (hs : ∀ k e S, I k e S → Ret (t e S) fun b S1 => if b = true then RetS (p e S1) { nx := fun e S => ∃ k', k' < k ∧ I k' e S, ct := fun e S => ∃ k', k' < k ∧ I k' e S, bk := D.nx, rt := D.rt } else D.nx e S1) :
    ∀ (f k : Nat) (env : Env') (S : Ms), k < f → I k env S → RetS (whileM t p f env S) D
  | 0, k, env, S, h, _ => absurd h (by omega)
  | f + 1, k, env, S, h, hI => by
    unfold whileM
    have h1 := hs k env S hI
    cases ht : t env S with
    | ret b S1 =>
      rw [ht] at h1
      cases b with
      | true =>
        replace h1 : RetS (p env S1) _ := h1
        simp only []
        cases hb : p env S1 with
        | nx e2 S2 => rw [hb] at h1; obtain ⟨k', l, j⟩ := h1; exact while_ok I hs f k' e2 S2 (by omega) j
        | ct e2 S2 => rw [hb] at h1; obtain ⟨k', l, j⟩ := h1; exact while_ok I hs f k' e2 S2 (by omega) j
        | bk e2 S2 => rw [hb] at h1; exact h1
        | rt v S2 => rw [hb] at h1; exact h1
        | exc _ _ _ => rw [hb] at h1; exact h1
        | fail => rw [hb] at h1; exact h1
      | false => exact h1
    | exc _ _ => rw [ht] at h1; exact h1
    | fail => rw [ht] at h1; exact h1
theorem q_while (I : Nat → Env' → Ms → Prop) (k : Nat) (hk : k < fuel) (h0 : I k env S)
    (hs : ∀ k e S, I k e S → Ret (t e S) fun b S1 => if b = true then RetS (p e S1) { nx := fun e S => ∃ k', k' < k ∧ I k' e S, ct := fun e S => ∃ k', k' < k ∧ I k' e S, bk := D.nx, rt := D.rt } else D.nx e S1) :
    RetS (sWhile t p env S) D := while_ok I hs fuel k env S hk h0
theorem r_mLc : Ret (mLc mi g t m vl env S) Q = Ret (mi env S) fun src S1 => Ret (lcM src g t m vl S1.length env fuel 0 (S1 ++ [.lst []])) Q := by unfold mLc; cases mi env S <;> rfl
theorem lc_okM {l : Nat} (vs : List PV) (hv : vs.length ≤ lim) (I : Nat → List PV → Ms → Prop) (hn : ∀ i acc S, I i acc S → nxt S i src = nxO vs[i]? ∧ S[l]? = some (.lst acc))
    (hs : ∀ i v acc S, vs[i]? = some v → I i acc S → S[l]? = some (.lst acc) → ∃ e1, g v (wipeE env vl) = some e1 ∧ Ret (t e1 S) fun b S1 => if b = true then Ret (m e1 S1) fun y S2 => S2[l]? = some (.lst acc) ∧ I (i + 1) (acc ++ [y]) (S2.set l (.lst (acc ++ [y]))) else I (i + 1) acc S1)
    (hd : ∀ acc S, I vs.length acc S → Q (.loc l) S) : ∀ (f i : Nat) (acc : List PV) (S : Ms), i ≤ vs.length → vs.length < i + f → acc.length ≤ i → I i acc S → Ret (lcM src g t m vl l env f i S) Q
  | 0, i, acc, S, h1, h2, _, _ => absurd h2 (by omega)
  | f + 1, i, acc, S, h1, h2, h3, hI => by
    unfold lcM
    obtain ⟨n1, n2⟩ := hn i acc S hI
    rw [n1]
    cases e : vs[i]? with
    | none =>
      have : i = vs.length := by have := List.getElem?_eq_none_iff.mp e; omega
      subst this
      exact hd acc S hI
    | some v =>
      simp only [nxO]
      obtain ⟨e1, g1, b1⟩ := hs i v acc S e hI n2
      have hlt := (List.getElem?_eq_some_iff.mp e).1
      simp only [g1]
      cases ht : t e1 S with
      | ret b S1 =>
        rw [ht] at b1
        cases b with
        | true =>
          replace b1 : Ret (m e1 S1) _ := b1
          simp only []
          cases hm : m e1 S1 with
          | ret y S2 =>
            rw [hm] at b1
            obtain ⟨c1, c2⟩ := b1
            simp only [c1]
            rw [if_pos (by omega)]
            exact lc_okM vs hv I hn hs hd f (i + 1) _ _ (by omega) (by omega) (by rw [List.length_append]; simp; omega) c2
          | exc _ _ => rw [hm] at b1; exact b1
          | fail => rw [hm] at b1; exact b1
        | false =>
          exact lc_okM vs hv I hn hs hd f (i + 1) _ _ (by omega) (by omega) (by omega) b1
      | exc _ _ => rw [ht] at b1; exact b1
      | fail => rw [ht] at b1; exact b1
theorem r_lc {l : Nat} (vs : List PV) (hv : vs.length ≤ lim) (I : Nat → List PV → Ms → Prop) (h0 : I 0 [] S) (hn : ∀ i acc S, I i acc S → nxt S i src = nxO vs[i]? ∧ S[l]? = some (.lst acc))
    (hs : ∀ i v acc S, vs[i]? = some v → I i acc S → S[l]? = some (.lst acc) → ∃ e1, g v (wipeE env vl) = some e1 ∧ Ret (t e1 S) fun b S1 => if b = true then Ret (m e1 S1) fun y S2 => S2[l]? = some (.lst acc) ∧ I (i + 1) (acc ++ [y]) (S2.set l (.lst (acc ++ [y]))) else I (i + 1) acc S1)
    (hd : ∀ acc S, I vs.length acc S → Q (.loc l) S) : Ret (lcM src g t m vl l env fuel 0 S) Q :=
  lc_okM vs hv I hn hs hd fuel 0 [] S (Nat.zero_le _) (by rw [Nat.zero_add]; exact Nat.lt_of_le_of_lt hv (by decide)) (Nat.zero_le _) h0
theorem r_bYes {e : Env'} {QB : Bool → Ms → Prop} : Ret (bYes e S) QB = QB true S := id rfl
end
/-! ### sequences -/
/-- v stands for the sequence xs -/
def Sq (S : Ms) (v : PV) (xs : List PV) : Prop := itemsOf S v = some xs
/-- v is none of the objects ms -/
def Off (v : PV) (ms : List Nat) : Prop := ∀ n ∈ ms, v ≠ .loc n
theorem Sq.tup {S : Ms} {xs : List PV} : Sq S (.tup xs) xs := rfl
theorem Sq.rol {S : Ms} {xs : List PV} : Sq S (.rol xs) xs := rfl
theorem Sq.loc {S : Ms} {n : Nat} {xs : List PV} (h : S[n]? = some (.lst xs)) : Sq S (.loc n) xs := by simp [Sq, itemsOf, h]
theorem Sq.at {S : Ms} {n : Nat} {xs : List PV} (h : Sq S (.loc n) xs) : S[n]? = some (.lst xs) := by
  simp only [Sq, itemsOf] at h
  split at h
  · rename_i q; cases h; exact q
  · cases h
theorem Sq.fr {S S' : Ms} {v : PV} {xs : List PV} {ms : List Nat} (h : Sq S v xs) (f : Fr ms S S') (o : Off v ms) : Sq S' v xs := by
  cases v with
  | loc n => exact .loc (f.get h.at fun z => o n z rfl)
  | tup ys => exact h
  | rol ys => exact h
  | non => cases h
  | bl b => cases h
  | int i => cases h
  | str s => cases h
theorem Sq.lt {S : Ms} {n : Nat} {xs : List PV} (h : Sq S (.loc n) xs) : n < S.length := lt_of_get h.at
theorem Off.nil {v : PV} : Off v [] := fun _ h => nomatch h
theorem Off.tup {xs : List PV} {ms : List Nat} : Off (.tup xs) ms := fun _ _ h => nomatch h
theorem Off.rol {xs : List PV} {ms : List Nat} : Off (.rol xs) ms := fun _ _ h => nomatch h
theorem Off.loc {n : Nat} {ms : List Nat} (h : n ∉ ms) : Off (.loc n) ms := fun k hk e => h (by cases e; exact hk)
/-- a value that stood before is not a new one -/
theorem Off.old {S : Ms} {v : PV} {xs : List PV} (h : Sq S v xs) {n : Nat} (hn : S.length ≤ n) : Off v [n] := fun k hk e => by
  rw [List.mem_singleton] at hk; subst hk; subst e; have := h.lt; omega
theorem Off.cons {v : PV} {n : Nat} {ms : List Nat} (a : Off v [n]) (b : Off v ms) : Off v (n :: ms) := fun k hk e => by
  rcases List.mem_cons.mp hk with z | z
  · exact a k (by rw [z]; simp) e
  · exact b k z e
theorem src_sq {S : Ms} {v : PV} {xs : List PV} (h : Sq S v xs) : ∃ s, srcOf S v = some s ∧ ∀ S' i, Sq S' v xs → nxt S' i s = nxO xs[i]? := by
  cases v with
  | tup ys => cases h; exact ⟨_, rfl, fun S' i _ => by simp only [nxt]; cases xs[i]? <;> rfl⟩
  | rol ys => cases h; exact ⟨_, rfl, fun S' i _ => by simp only [nxt]; cases xs[i]? <;> rfl⟩
  | loc n =>
    have e : rdL S n = some xs := by simp [rdL, h.at]
    exact ⟨.lst n, by simp [srcOf, e], fun S' i h' => by
      have e : rdL S' n = some xs := by simp [rdL, h'.at]
      simp only [nxt, e]; cases xs[i]? <;> rfl⟩
  | non => cases h
  | bl b => cases h
  | int i => cases h
  | str s => cases h
theorem enm_sq {S : Ms} {n : Nat} {xs : List PV} (h : S[n]? = some (.lst xs)) : enmOf S [.loc n] = some (.enm n) := by simp [enmOf, rdL, h]
theorem enm_nx {S : Ms} {n : Nat} {xs : List PV} (h : S[n]? = some (.lst xs)) (i : Nat) : nxt S i (.enm n) = nxO (xs[i]?.map fun v => .tup [.int i, v]) := by
  simp only [nxt, rdL, h]; cases xs[i]? <;> rfl
theorem rng1_ok {j : Int} (h : 0 ≤ j ∧ j < 2 ^ 62) : rng1 [.int j] = some (.rng 0 j.toNat) := by
  simp only [rng1]
  rw [if_pos (by simp [big62]; omega)]
theorem rng_nx {S : Ms} {n i : Nat} : nxt S i (.rng 0 n) = nxO ((List.range n)[i]?.map fun (k : Nat) => PV.int k) := by
  simp only [nxt]
  by_cases h : i < n
  · rw [if_pos h, List.getElem?_range h]; simp [nxO]
  · rw [if_neg h, List.getElem?_eq_none (by simp; omega)]; rfl
section
variable {S : Ms} {Q : PV → Ms → Prop} {n m : Nat} {xs ys : List PV} {v w : PV}
theorem r_len (h : Sq S v xs) : Ret (oLen [v] S) Q = Q (.int xs.length) S := by
  cases v with
  | tup ys => cases h; rfl
  | rol ys => cases h; rfl
  | loc n => simp only [oLen, h.at]; rfl
  | non => cases h
  | bl b => cases h
  | int i => cases h
  | str s => cases h
theorem r_sub1 {i : Int} (h : Sq S v xs) (e : atI xs i = some w) : Ret (oSub1 v (.int i) S) Q = Q w S := by
  cases v with
  | tup ys => cases h; exact r_subT e
  | rol ys => cases h; exact r_subR e
  | loc n => exact r_subL h.at e
  | non => cases h
  | bl b => cases h
  | int i => cases h
  | str s => cases h
theorem r_listOf (h : Sq S v xs) : Ret (oListOf [v] S) Q = Q (.loc S.length) (S ++ [.lst xs]) := by
  cases v with
  | tup ys => cases h; rfl
  | rol ys => cases h; rfl
  | loc n => simp only [oListOf, h.at]; rfl
  | non => cases h
  | bl b => cases h
  | int i => cases h
  | str s => cases h
theorem r_tupOf (h : Sq S v xs) : Ret (oTupOf [v] S) Q = Q (.tup xs) S := by
  have e : itemsOf S v = some xs := h
  simp only [oTupOf, e]; rfl
theorem r_list (h : xs.length ≤ lim) : Ret (oList xs S) Q = Q (.loc S.length) (S ++ [.lst xs]) := by simp [oList, h, Ret]
theorem r_tup (h : xs.length ≤ lim) : Ret (oTup xs S) Q = Q (.tup xs) S := by simp [oTup, h, Ret]
theorem r_append (h : S[n]? = some (.lst xs)) (hl : xs.length < lim) : Ret (oAppend (.loc n) [v] S) Q = Q .non (S.set n (.lst (xs ++ [v]))) := by simp [oAppend, h, hl, Ret]
theorem r_addT (h : xs.length + ys.length ≤ lim) : Ret (oAdd (.tup xs) (.tup ys) S) Q = Q (.tup (xs ++ ys)) S := by simp [oAdd, h, Ret]
theorem r_addL (h1 : S[n]? = some (.lst xs)) (h2 : S[m]? = some (.lst ys)) (h : xs.length + ys.length ≤ lim) : Ret (oAdd (.loc n) (.loc m) S) Q = Q (.loc S.length) (S ++ [.lst (xs ++ ys)]) := by simp [oAdd, h1, h2, h, Ret]
theorem r_popAt {i : Int} {k : Nat} (h : S[n]? = some (.lst xs)) (hi : i = (k : Int)) (hk : k < xs.length) (hl : xs.length < 4611686018427387904) : Ret (oPop (.loc n) [.int i] S) Q = Q xs[k] (S.set n (.lst (xs.eraseIdx k))) := by
  subst hi
  have e : seqIndex? (k : Int) xs.length = some k := by simp [seqIndex?]; omega
  simp only [oPop, h]
  rw [if_pos (by omega), e]
  simp [hk, Ret]
end
end MP

set_option maxRecDepth 100000
namespace MP
open PySem PySem.Spec PyProof.Rows L2
/-! ### values that read as data -/
inductive Rd (S : Ms) : Nat → PV → PyData → Prop
  | non {k : Nat} : Rd S k .non .none
  | bl {k : Nat} (b : Bool) : Rd S k (.bl b) (.bool b)
  | int {k : Nat} (i : Int) : Rd S k (.int i) (.int i)
  | str {k : Nat} (s : Str) (h : PyData.canLay0 (.str s) = true) : Rd S k (.str s) (.str s)
  | tup {k : Nat} {xs : List PV} {ds : List PyData} (hb : ds.length ≤ 10000000) (hl : xs.length = ds.length) (h : ∀ (i : Nat) x d, xs[i]? = some x → ds[i]? = some d → Rd S k x d) : Rd S (k + 1) (.tup xs) (.tuple ds)
  | lst {k n : Nat} {xs : List PV} {ds : List PyData} (e : S[n]? = some (.lst xs)) (hb : ds.length ≤ 10000000) (hl : xs.length = ds.length) (h : ∀ (i : Nat) x d, xs[i]? = some x → ds[i]? = some d → Rd S k x d) : Rd S (k + 1) (.loc n) (.list ds)
theorem toDs_of {S : Ms} {k : Nat} : ∀ {xs : List PV} {ds : List PyData}, xs.length = ds.length → (∀ (i : Nat) x d, xs[i]? = some x → ds[i]? = some d → toD S k x = some d) → toDs S k xs = some ds
  | [], [], _, _ => by unfold toDs; rfl
  | x :: xs, d :: ds, hl, h => by
    unfold toDs
    rw [h 0 x d rfl rfl, toDs_of (by simpa using hl) fun i x d h1 h2 => h (i + 1) x d h1 h2]
  | [], _ :: _, hl, _ => by cases hl
  | _ :: _, [], hl, _ => by cases hl
theorem Rd.toD {S : Ms} {k : Nat} {x : PV} {d : PyData} (h : Rd S k x d) : MP.toD S k x = some d := by
  induction h with
  | non => unfold MP.toD; rfl
  | bl b => unfold MP.toD; rfl
  | int i => unfold MP.toD; rfl
  | str s _ => unfold MP.toD; rfl
  | tup hb hl h ih => unfold MP.toD; rw [toDs_of hl ih]; rfl
  | lst e hb hl h ih => unfold MP.toD; simp only [e]; rw [toDs_of hl ih]; rfl
theorem lay_of : ∀ {ds : List PyData}, (∀ (i : Nat) (d : PyData), ds[i]? = some d → d.canLay0 = true) → PyData.canLayAll0 ds = true
  | [], _ => rfl
  | d :: ds, h => by unfold PyData.canLayAll0; rw [h 0 d rfl, lay_of fun i d e => h (i + 1) d e]; rfl
theorem dep_of {k : Nat} : ∀ {ds : List PyData}, (∀ (i : Nat) (d : PyData), ds[i]? = some d → d.depth ≤ k) → PyData.depthAll ds ≤ k
  | [], _ => Nat.zero_le _
  | d :: ds, h => by unfold PyData.depthAll; exact Nat.max_le.mpr ⟨h 0 d rfl, dep_of fun i d e => h (i + 1) d e⟩
theorem get_both {xs : List PV} {ds : List PyData} (hl : xs.length = ds.length) {i : Nat} {d : PyData} (h : ds[i]? = some d) : ∃ x, xs[i]? = some x := by
  have := (List.getElem?_eq_some_iff.mp h).1
  exact ⟨xs[i], List.getElem?_eq_getElem (by omega)⟩
theorem Rd.lay {S : Ms} {k : Nat} {x : PV} {d : PyData} (h : Rd S k x d) : d.canLay0 = true := by
  induction h with
  | non => rfl
  | bl b => rfl
  | int i => rfl
  | str s h => exact h
  | tup hb hl h ih => unfold PyData.canLay0; exact lay_of fun i d e => let ⟨x, hx⟩ := get_both hl e; ih i x d hx e
  | lst _ hb hl h ih => unfold PyData.canLay0; exact lay_of fun i d e => let ⟨x, hx⟩ := get_both hl e; ih i x d hx e
theorem Rd.dep {S : Ms} {k : Nat} {x : PV} {d : PyData} (h : Rd S k x d) : d.depth ≤ k := by
  induction h with
  | non => exact Nat.zero_le _
  | bl b => exact Nat.zero_le _
  | int i => exact Nat.zero_le _
  | str s h => exact Nat.zero_le _
  | tup hb hl h ih => unfold PyData.depth; exact Nat.succ_le_succ (dep_of fun i d e => let ⟨x, hx⟩ := get_both hl e; ih i x d hx e)
  | lst _ hb hl h ih => unfold PyData.depth; exact Nat.succ_le_succ (dep_of fun i d e => let ⟨x, hx⟩ := get_both hl e; ih i x d hx e)
theorem Rd.up {S : Ms} {k : Nat} {x : PV} {d : PyData} (h : Rd S k x d) : ∀ {m : Nat}, k ≤ m → Rd S m x d := by
  induction h with
  | non => intro m _; exact .non
  | bl b => intro m _; exact .bl b
  | int i => intro m _; exact .int i
  | str s h => intro m _; exact .str s h
  | tup hb hl h ih => intro m hm; cases m with
    | zero => omega
    | succ m => exact .tup hb hl fun i x d h1 h2 => ih i x d h1 h2 (by omega)
  | lst e hb hl h ih => intro m hm; cases m with
    | zero => omega
    | succ m => exact .lst e hb hl fun i x d h1 h2 => ih i x d h1 h2 (by omega)
theorem eq_rd {S : Ms} {x y : PV} {d e : PyData} (h1 : Rd S 12 x d) (h2 : Rd S 12 y e) : eqD S x y = some (PyData.eqv d e) := by
  have s1 : SeqAt.shaped d = true := by unfold SeqAt.shaped; rw [h1.lay]; simp; have := h1.dep; omega
  have s2 : SeqAt.shaped e = true := by unfold SeqAt.shaped; rw [h2.lay]; simp; have := h2.dep; omega
  simp only [eqD, h1.toD, h2.toD, s1, s2, Bool.and_self, if_true]
theorem r_eq {S : Ms} {x y : PV} {d e : PyData} {Q : PV → Ms → Prop} (h1 : Rd S 12 x d) (h2 : Rd S 12 y e) : Ret (oEq x y S) Q = Q (.bl (PyData.eqv d e)) S := by
  simp [oEq, eq_rd h1 h2, Ret]
theorem r_ne {S : Ms} {x y : PV} {d e : PyData} {Q : PV → Ms → Prop} (h1 : Rd S 12 x d) (h2 : Rd S 12 y e) : Ret (oNe x y S) Q = Q (.bl (!PyData.eqv d e)) S := by
  simp [oNe, eq_rd h1 h2, Ret]
/-! equal data -/
mutual
/-- neither truth values nor dicts within -/
def noB : PyData → Bool
  | .bool _ => false
  | .dict _ => false
  | .list xs => noBs xs
  | .tuple xs => noBs xs
  | _ => true
def noBs : List PyData → Bool
  | [] => true
  | x :: xs => noB x && noBs xs
end
theorem str_eqv {x y : Str} : (x == y) = true ↔ x = y := by simp
mutual
theorem eqv_iff : ∀ (d e : PyData), noB d = true → noB e = true → (PyData.eqv d e = true ↔ d = e)
  | .none, e, _, h2 => by cases e <;> simp_all [PyData.eqv, noB]
  | .bool _, _, h, _ => by cases h
  | .dict _, _, h, _ => by cases h
  | .int i, e, _, h2 => by cases e <;> simp_all [PyData.eqv, noB]
  | .str s, e, _, h2 => by cases e <;> simp_all [PyData.eqv, noB]
  | .list xs, e, h1, h2 => by
    cases e with
    | list ys => rw [PyData.eqv, eqvs_iff xs ys (by simpa [noB] using h1) (by simpa [noB] using h2)]; simp
    | _ => simp [PyData.eqv]
  | .tuple xs, e, h1, h2 => by
    cases e with
    | tuple ys => rw [PyData.eqv, eqvs_iff xs ys (by simpa [noB] using h1) (by simpa [noB] using h2)]; simp
    | _ => simp [PyData.eqv]
theorem eqvs_iff : ∀ (xs ys : List PyData), noBs xs = true → noBs ys = true → (PyData.eqvAll xs ys = true ↔ xs = ys)
  | [], ys, _, _ => by cases ys <;> simp [PyData.eqvAll]
  | x :: xs, [], _, _ => by simp [PyData.eqvAll]
  | x :: xs, y :: ys, h1, h2 => by
    simp only [noBs, Bool.and_eq_true] at h1 h2
    simp only [PyData.eqvAll, Bool.and_eq_true, eqv_iff x y h1.1 h2.1, eqvs_iff xs ys h1.2 h2.2, List.cons.injEq]
end
theorem eqv_dec {d e : PyData} {p : Prop} [Decidable p] (h1 : noB d = true) (h2 : noB e = true) (h : d = e ↔ p) : PyData.eqv d e = decide p := by
  by_cases hp : p
  · rw [decide_eq_true hp, eqv_iff d e h1 h2]; exact h.mpr hp
  · rw [decide_eq_false hp]
    cases hq : PyData.eqv d e with
    | false => rfl
    | true => exact absurd (h.mp ((eqv_iff d e h1 h2).mp hq)) hp
/-! ### lists of whole numbers that are not negative -/
abbrev iv (n : Nat) : PV := .int n
abbrev dv (n : Nat) : PyData := .int n
abbrev ivs (ns : List Nat) : List PV := ns.map iv
abbrev dvs (ns : List Nat) : List PyData := ns.map dv
theorem noBs_dvs : ∀ ns, noBs (dvs ns) = true
  | [] => rfl
  | n :: ns => by simp only [dvs, List.map_cons, noBs, noB, Bool.true_and]; exact noBs_dvs ns
theorem dvs_inj {ns ms : List Nat} : dvs ns = dvs ms ↔ ns = ms := by
  constructor
  · intro h
    exact List.map_inj_right (f := dv) (fun a b e => by simp only [dv, PyData.int.injEq] at e; omega) |>.mp h
  · intro h; rw [h]
theorem rd_pt {S : Ms} {k : Nat} {α : Type} {l : List α} {f : α → PV} {g : α → PyData} (h : ∀ a ∈ l, Rd S k (f a) (g a)) : (l.map f).length = (l.map g).length ∧ ∀ (i : Nat) x d, (l.map f)[i]? = some x → (l.map g)[i]? = some d → Rd S k x d := by
  refine ⟨by simp, fun i x d h1 h2 => ?_⟩
  rw [List.getElem?_map] at h1 h2
  cases e : l[i]? with
  | none => rw [e] at h1; cases h1
  | some a => rw [e] at h1 h2; cases h1; cases h2; exact h a (List.mem_of_getElem? e)
theorem Rd.tupM {S : Ms} {k : Nat} {α : Type} {l : List α} {f : α → PV} {g : α → PyData} (hb : l.length ≤ 10000000) (h : ∀ a ∈ l, Rd S k (f a) (g a)) : Rd S (k + 1) (.tup (l.map f)) (.tuple (l.map g)) := .tup (by simpa using hb) (rd_pt h).1 (rd_pt h).2
theorem Rd.lstM {S : Ms} {k n : Nat} {α : Type} {l : List α} {f : α → PV} {g : α → PyData} (e : S[n]? = some (.lst (l.map f))) (hb : l.length ≤ 10000000) (h : ∀ a ∈ l, Rd S k (f a) (g a)) : Rd S (k + 1) (.loc n) (.list (l.map g)) := .lst e (by simpa using hb) (rd_pt h).1 (rd_pt h).2
theorem Rd.itup {S : Ms} {k : Nat} (ns : List Nat) (hb : ns.length ≤ 10000000) : Rd S (k + 1) (.tup (ivs ns)) (.tuple (dvs ns)) := .tupM hb fun a _ => .int _
theorem Rd.ilst {S : Ms} {k n : Nat} {ns : List Nat} (e : S[n]? = some (.lst (ivs ns))) (hb : ns.length ≤ 10000000) : Rd S (k + 1) (.loc n) (.list (dvs ns)) := .lstM e hb fun a _ => .int _
theorem eqv_itup (ns ms : List Nat) : PyData.eqv (.tuple (dvs ns)) (.tuple (dvs ms)) = decide (ns = ms) :=
  eqv_dec (by simp [noB, noBs_dvs]) (by simp [noB, noBs_dvs]) (by simp only [PyData.tuple.injEq]; exact dvs_inj)
theorem eqv_ilst (ns ms : List Nat) : PyData.eqv (.list (dvs ns)) (.list (dvs ms)) = decide (ns = ms) :=
  eqv_dec (by simp [noB, noBs_dvs]) (by simp [noB, noBs_dvs]) (by simp only [PyData.list.injEq]; exact dvs_inj)
theorem ivs_get {ns : List Nat} {i : Nat} : (ivs ns)[i]? = ns[i]?.map iv := List.getElem?_map ..
end MP

set_option maxRecDepth 100000
namespace MP
open PySem PySem.Spec PyProof.Rows L2
theorem sq_ivs_at {ns : List Nat} {i : Nat} (h : i < ns.length) : atI (ivs ns) ((i : Nat) : Int) = some (iv ns[i]) := at_nat (by rw [ivs_get, List.getElem?_eq_getElem h]; rfl)
theorem r_range1 {n : Nat} {S : Ms} {Q : PV → Ms → Prop} (h : n ≤ 10000000) : Ret (oListRg1 (.int (n : Nat)) S) Q = Q (.loc S.length) (S ++ [.lst (ivs (List.range n))]) := by
  have e : rgP 0 (n : Nat) = ivs (List.range n) := by
    unfold rgP; simp
  have h1 : RgOk 0 (n : Nat) := by unfold RgOk; omega
  have h2 : (rgP 0 (n : Nat)).length ≤ lim := by rw [e]; simp; exact Nat.le_trans h (by decide)
  simp only [oListRg1]
  rw [if_pos ⟨h1, h2⟩, e]; rfl
/-- a source of numbers below a bound -/
def TakeOk (T : List PV → Ms → Out PV) : Prop := ∀ (b : Nat) (S : Ms) (c : Int) (n : Nat), Box b S c → c < 1099511627776 → 1 ≤ n → n ≤ 10000000 →
  Ret (T [.loc b, .int (n : Nat)] S) fun v S' => ∃ i : Nat, v = iv i ∧ i < n ∧ Drew b S c 1 S'
theorem take_Ok {c1 c2 : Int} (h1 : 0 ≤ c1 ∧ c1 < 1000000) (h2 : 0 < c2 ∧ c2 < 1000000) (d : Nat) : TakeOk (Mtake c1 c2 (d + 1)) := fun b S c n hb hc h0 hn =>
  (take_ok h1 h2 d hb hc (by omega) (by omega)).mono fun v S' ⟨i, e, i0, i1, r⟩ => ⟨i.toNat, by rw [e]; show _ = PV.int _; congr 1; omega, by omega, r⟩
theorem Drew.fr {b : Nat} {S1 S2 : Ms} {c k : Int} (h : Drew b S1 c k S2) : Fr [b] S1 S2 := h.1
theorem Fr.setN {ms : List Nat} {S S1 : Ms} (a : Fr ms S S1) {n : Nat} {o : Ob} (h : n ∈ ms ∨ S.length ≤ n) : Fr ms S (S1.set n o) :=
  ⟨by rw [List.length_set]; exact a.1, fun k h1 h2 => by rw [List.getElem?_set_ne (fun z => by subst z; rcases h with h | h; exact h2 h; omega)]; exact a.2 k h1 h2⟩
theorem eraseIdx_mapM {α β : Type} (f : α → β) : ∀ (l : List α) (i : Nat), (l.map f).eraseIdx i = (l.eraseIdx i).map f
  | [], _ => rfl
  | x :: xs, 0 => rfl
  | x :: xs, i + 1 => by simp only [List.map_cons, List.eraseIdx_cons_succ, eraseIdx_mapM f xs i]
theorem perm_eraseIdx {α : Type} : ∀ (l : List α) (i : Nat) (h : i < l.length), (l[i] :: l.eraseIdx i).Perm l
  | x :: xs, 0, _ => .refl _
  | x :: xs, i + 1, h => by
    simp only [List.getElem_cons_succ, List.eraseIdx_cons_succ]
    exact (List.Perm.swap _ _ _).trans ((perm_eraseIdx xs i (by simpa using h)).cons _)
/-- a new list -/
def NewL (S : Ms) (v : PV) (xs : List PV) (S' : Ms) : Prop := ∃ n, v = .loc n ∧ S.length ≤ n ∧ S'[n]? = some (.lst xs)
variable {T : List PV → Ms → Out PV}
def Mof (T : List PV → Ms → Out PV) : List PV → Ms → Out PV := mFn 0 (sRet (mSub (mVar 1) (mL (mCons (mVar 0) (mCons (mL (mCons (mVar 1) mNil) oLen) mNil)) (cl 2 T))))
theorem of_ok (hT : TakeOk T) {b : Nat} {S : Ms} {c : Int} {v : PV} {xs : List PV} (hb : Box b S c) (hc : c < 1099511627776) (hv : Sq S v xs) (ho : Off v [b]) (h0 : 1 ≤ xs.length) (hn : xs.length ≤ 10000000) :
    Ret (Mof T [.loc b, v] S) fun w S' => ∃ i : Nat, xs[i]? = some w ∧ Drew b S c 1 S' := by
  unfold Mof
  simp only [r_fn, List.map, List.replicate, List.cons_append, List.nil_append, q_seq, q_if, q_next, q_of, q_toSO, gNm, Option.some.injEq, exists_eq_left', q_put, List.set, r_m2, r_m1, r_v0, r_vs, r_C, r_L, r_cons, r_nil, r_cl1, r_cl2, r_cl3, rets_rt, rets_nx, r_B, r_T, r_asB, r_cmp, r_add, r_sub, q_for, i_of, i_rg, i_st, q_par, r_mIf, r_bYes, r_mLc, r_len hv]
  refine (hT b S c _ hb hc h0 hn).mono fun u S1 ⟨i, hu, hi, hd⟩ => ?_
  subst hu
  have e : xs[i]? = some xs[i] := List.getElem?_eq_getElem hi
  rw [r_sub1 (hv.fr hd.fr ho) (at_nat e)]
  exact ⟨i, e, hd⟩
def Mstrewn (T : List PV → Ms → Out PV) : List PV → Ms → Out PV := mFn 2 (sSeq (sPar 2 3 (mL (mCons (mVar 1) mNil) oListOf) (mL mNil oList))
  (sSeq (sWhile (mB (m2 (mVar 2) (mL mNil oList) oNe))
  (sDrop (mMeth (mVar 3) (mCons (mMeth (mVar 2) (mCons (mL (mCons (mVar 0) (mCons (mL (mCons (mVar 2) mNil) oLen) mNil)) (cl 2 T)) mNil) oPop) mNil) oAppend)))
  (sRet (mVar 3))))
theorem r_neNil {S : Ms} {n m : Nat} {ns : List Nat} {Q : PV → Ms → Prop} (hb : ns.length ≤ 10000000) (h1 : S[n]? = some (.lst (ivs ns))) (h2 : S[m]? = some (.lst [])) : Ret (oNe (.loc n) (.loc m) S) Q = Q (.bl (!decide (ns = []))) S := by
  rw [r_ne (Rd.ilst h1 hb) (Rd.ilst (ns := []) h2 (by simp)), eqv_ilst]
theorem Fr.len {ms : List Nat} {S S' : Ms} (h : Fr ms S S') : S.length ≤ S'.length := h.1
theorem strewn_ok (hT : TakeOk T) {b : Nat} {S : Ms} {c : Int} {v : PV} {ns : List Nat} (hb : Box b S c) (hc : c + ns.length < 1099511627776) (hv : Sq S v (ivs ns)) (hn : ns.length ≤ 10000000) :
    Ret (Mstrewn T [.loc b, v] S) fun w S' => ∃ ms : List Nat, NewL S w (ivs ms) S' ∧ ms.Perm ns ∧ Drew b S c ns.length S' := by
  unfold Mstrewn
  simp only [r_fn, List.map, List.replicate, List.cons_append, List.nil_append, q_seq, q_if, q_next, q_of, q_toSO, gNm, Option.some.injEq, exists_eq_left', q_put, List.set, r_m2, r_m1, r_v0, r_vs, r_C, r_L, r_cons, r_nil, r_cl1, r_cl2, r_cl3, rets_rt, rets_nx, r_B, r_T, r_asB, r_cmp, r_add, r_sub, q_for, i_of, i_rg, i_st, q_par, r_mIf, r_bYes, r_mLc, r_listOf hv, r_list (xs := []) (by decide)]
  have hbl := hb.lt
  have hS1 : (S ++ [Ob.lst (ivs ns)]).length = S.length + 1 := by simp
  refine q_while (I := fun k e S' => ∃ (left got : List Nat) (c' : Int), k = left.length ∧ e = [some (.loc b), some v, some (.loc S.length), some (.loc (S.length + 1))] ∧ S'[S.length]? = some (.lst (ivs left)) ∧ S'[S.length + 1]? = some (.lst (ivs got)) ∧ (left ++ got).Perm ns ∧ c ≤ c' ∧ c' + left.length ≤ c + ns.length ∧ Box b S' c' ∧ Fr [b] S S') ns.length (by have : fuel = 1099511627776 := rfl; omega) ?_ ?_
  · refine ⟨ns, [], c, rfl, by rw [hS1], ?_, ?_, by simp, by omega, by omega, ?_, (Fr.app _ _ _).trans (.app _ _ _)⟩
    · rw [List.getElem?_append_left (by omega)]; simp
    · rw [← hS1]; simp
    · exact hb.fr ((Fr.app [] _ _).trans (.app _ _ _)) (by simp)
  · rintro k e S' ⟨left, got, c', rfl, rfl, h1, h2, hp, hc1, hc2, hb', hf⟩
    have hpl := hp.length_eq
    rw [List.length_append] at hpl
    have hl' := lt_of_get h2
    simp only [r_fn, List.map, List.replicate, List.cons_append, List.nil_append, q_seq, q_if, q_next, q_of, q_toSO, gNm, Option.some.injEq, exists_eq_left', q_put, List.set, r_m2, r_m1, r_v0, r_vs, r_C, r_L, r_cons, r_nil, r_cl1, r_cl2, r_cl3, rets_rt, rets_nx, r_B, r_T, r_asB, r_cmp, r_add, r_sub, q_for, i_of, i_rg, i_st, q_par, r_mIf, r_bYes, r_mLc, r_list (xs := []) (by decide)]
    rw [r_neNil (ns := left) (by omega) (by rw [List.getElem?_append_left (by omega)]; exact h1) (get_new _ _)]
    have hf2 : Fr [b] S (S' ++ [Ob.lst []]) := hf.trans (.app _ _ _)
    by_cases hz : left = []
    · subst hz
      simp only [r_asB, decide_true, Bool.not_true, Bool.false_eq_true, if_false, r_fn, List.map, List.replicate, List.cons_append, List.nil_append, q_seq, q_if, q_next, q_of, q_toSO, gNm, Option.some.injEq, exists_eq_left', q_put, List.set, r_m2, r_m1, r_v0, r_vs, r_C, r_L, r_cons, r_nil, r_cl1, r_cl2, r_cl3, rets_rt, rets_nx, r_B, r_T, r_asB, r_cmp, r_add, r_sub, q_for, i_of, i_rg, i_st, q_par, r_mIf, r_bYes, r_mLc]
      refine ⟨got, ⟨S.length + 1, rfl, by omega, ?_⟩, by simpa using hp, hf2, c', hc1, by simpa using hc2, hb'.fr (.app [] _ _) (by simp)⟩
      rw [List.getElem?_append_left (by omega)]; exact h2
    · simp only [r_asB, hz, decide_false, Bool.not_false, if_true, r_fn, List.map, List.replicate, List.cons_append, List.nil_append, q_seq, q_if, q_next, q_of, q_toSO, gNm, Option.some.injEq, exists_eq_left', q_put, List.set, r_m2, r_m1, r_v0, r_vs, r_C, r_L, r_cons, r_nil, r_cl1, r_cl2, r_cl3, rets_rt, rets_nx, r_B, r_T, r_asB, r_cmp, r_add, r_sub, q_for, i_of, i_rg, i_st, q_par, r_mIf, r_bYes, r_mLc, r_meth]
      have g1 : (S' ++ [Ob.lst []])[S.length]? = some (.lst (ivs left)) := by rw [List.getElem?_append_left (by omega)]; exact h1
      have g2 : (S' ++ [Ob.lst []])[S.length + 1]? = some (.lst (ivs got)) := by rw [List.getElem?_append_left (by omega)]; exact h2
      have hpos : 0 < left.length := List.length_pos_iff.mpr hz
      refine ⟨by simp [lstOf, g2], by simp [lstOf, g1], ?_⟩
      rw [r_len (Sq.loc g1)]
      simp only [List.length_map]
      refine (hT b _ c' left.length (hb'.fr (.app [] _ _) (by simp)) (by omega) (by omega) (by omega)).mono fun u S1 ⟨i, hu, hi, hd⟩ => ?_
      subst hu
      obtain ⟨hfr, c2, q1, q2, hb2⟩ := hd
      have k1 := hfr.get g1 (by simp; omega)
      have k2 := hfr.get g2 (by simp; omega)
      rw [r_popAt k1 rfl (by simpa using hi) (by simp; omega)]
      have k2' : (S1.set S.length (.lst ((ivs left).eraseIdx i)))[S.length + 1]? = some (.lst (ivs got)) := by rw [List.getElem?_set_ne (by omega)]; exact k2
      rw [r_append k2' (by simp; exact Nat.lt_of_le_of_lt (show got.length ≤ 10000000 by omega) (by decide))]
      refine ⟨left.length - 1, by omega, left.eraseIdx i, got ++ [left[i]], c2, ?_, trivial, ?_, ?_, ?_, by omega, ?_, ?_, ?_⟩
      · rw [List.length_eraseIdx_of_lt hi]
      · rw [List.getElem?_set_ne (by omega), get_set k1]; simp [ivs, eraseIdx_mapM]
      · rw [get_set k2']; simp
      · have p1 : (left.eraseIdx i ++ (got ++ [left[i]])).Perm (left[i] :: (left.eraseIdx i ++ got)) := by
          rw [← List.append_assoc]; exact List.perm_append_singleton _ _
        have p2 : (left[i] :: left.eraseIdx i).Perm left := perm_eraseIdx left i hi
        exact (p1.trans (p2.append_right got)).trans hp
      · rw [List.length_eraseIdx_of_lt hi]; omega
      · exact (hb2.fr (.set (ms := [S.length]) _ _ (.inl (by simp))) (by simp; omega)).fr (.set (ms := [S.length + 1]) _ _ (.inl (by simp))) (by simp; omega)
      · exact ((hf2.trans hfr).setN (.inr (by omega))).setN (.inr (by omega))
end MP

set_option maxRecDepth 100000
namespace MP
open PySem PySem.Spec PyProof.Rows L2
variable {T : List PV → Ms → Out PV}
def Mpart (T : List PV → Ms → Out PV) : List PV → Ms → Out PV := mFn 4 (sSeq (sSet 2 (mL (mCons (mVar 0) (mCons (mC (.int 5)) mNil)) (cl 2 T)))
  (sSeq (sPar 3 4 (mSub (mL (mCons (mC (.int 0)) (mCons (mC (.int 1)) (mCons (mVar 1) (mCons (m2 (mC (.int 1)) (mL (mCons (mVar 0) (mCons (mVar 1) mNil)) (cl 2 T)) oAdd) (mCons (mC (.int 1)) mNil))))) oList) (mVar 2)) (mL mNil oList))
  (sSeq (sFor (iRg rng1 (mCons (mVar 1) mNil)) (gNm 5)
  (sIf (mB (m2 (mVar 2) (mC (.int 0)) oEq))
  (sDrop (mMeth (mVar 4) (mCons (mL (mCons (mVar 0) (mCons (mVar 1) mNil)) (cl 2 T)) mNil) oAppend))
  (sIf (mB (m2 (mVar 5) (mVar 3) oLt))
  (sDrop (mMeth (mVar 4) (mCons (m2 (m2 (mVar 5) (mC (.int 1)) oAdd) (mVar 3) oMod) mNil) oAppend))
  (sDrop (mMeth (mVar 4) (mCons (mIf (mB (m2 (mVar 2) (mC (.int 4)) oEq)) (m2 (mVar 5) (mC (.int 1)) oSub) (mL (mCons (mVar 0) (mCons (mVar 5) mNil)) (cl 2 T))) mNil) oAppend)))))
  (sRet (mVar 4)))))
theorem lim_of {n : Nat} (h : n ≤ 10000000) : n < lim := Nat.lt_of_le_of_lt h (by decide)
theorem fuel_of {n : Nat} (h : n ≤ 10000000) : n < fuel := Nat.lt_of_le_of_lt h (by decide)
theorem iv_add (a b : Nat) : PV.int ((a : Int) + (b : Int)) = iv (a + b) := by show PV.int _ = PV.int _; congr 1
theorem iv_add1 (b : Nat) : PV.int (1 + (b : Int)) = iv (1 + b) := iv_add 1 b
theorem iv_addr (b : Nat) : PV.int ((b : Int) + 1) = iv (b + 1) := iv_add b 1
theorem iv_mod (a b : Nat) : PV.int (((a : Nat) : Int) % ((b : Nat) : Int)) = iv (a % b) := by show PV.int _ = PV.int _; congr 1
theorem iv_sub1 {a : Nat} (h : 1 ≤ a) : PV.int ((a : Int) - 1) = iv (a - 1) := by show PV.int _ = PV.int _; congr 1; omega
theorem r_eqN {a : Nat} {j : Int} {S : Ms} {Q : PV → Ms → Prop} : Ret (oEq (.int (a : Nat)) (.int j) S) Q = Q (.bl ((a : Int) == j)) S := r_eqI
theorem ringed_ok {n t i : Nat} (ht : t < n) (hi : i < 5) : ∃ r : Nat, [PV.int 0, .int 1, .int (n : Nat), .int (1 + (t : Nat)), .int 1][i]? = some (iv r) ∧ r ≤ n ∧ (i ≠ 0 → 1 ≤ r) := by
  match i, hi with
  | 0, _ => exact ⟨0, rfl, by omega, by omega⟩
  | 1, _ => exact ⟨1, rfl, by omega, by omega⟩
  | 2, _ => exact ⟨n, rfl, by omega, by omega⟩
  | 3, _ => exact ⟨1 + t, by show some (PV.int (1 + (t : Int))) = _; rw [iv_add1], by omega, by omega⟩
  | 4, _ => exact ⟨1, rfl, by omega, by omega⟩
theorem loc_some {S : Ms} {n : Nat} {xs : List PV} (h : S[n]? = some (.lst xs)) : (lstOf S (.loc n)).isSome = true := by simp [lstOf, h]
theorem all_snoc {P : Nat → Prop} {ns : List Nat} {k : Nat} (h : ∀ x ∈ ns, P x) (hk : P k) : ∀ x ∈ ns ++ [k], P x := fun x hx => by
  rcases List.mem_append.mp hx with z | z
  · exact h x z
  · rw [List.mem_singleton] at z; rw [z]; exact hk
theorem part_ok (hT : TakeOk T) {b : Nat} {S : Ms} {c : Int} {n : Nat} (hb : Box b S c) (hc : c + n + 2 < 1099511627776) (h0 : 1 ≤ n) (hn : n ≤ 1000000) :
    Ret (Mpart T [.loc b, .int (n : Nat)] S) fun w S' => ∃ ms : List Nat, NewL S w (ivs ms) S' ∧ ms.length = n ∧ (∀ x ∈ ms, x < n) ∧ Drew b S c (n + 2) S' := by
  unfold Mpart
  simp only [r_fn, List.map, List.replicate, List.cons_append, List.nil_append, q_seq, q_if, q_next, q_of, q_toSO, gNm, Option.some.injEq, exists_eq_left', q_put, List.set, r_m2, r_m1, r_v0, r_vs, r_C, r_L, r_cons, r_nil, r_cl1, r_cl2, r_cl3, rets_rt, rets_nx, r_B, r_T, r_asB, r_cmp, r_add, r_sub, q_for, i_of, i_rg, i_st, q_par, r_mIf, r_bYes, r_mLc]
  refine (hT b S c 5 hb (by omega) (by omega) (by omega)).mono fun u S1 ⟨i, hu, hi, hd⟩ => ?_
  subst hu
  obtain ⟨hf1, c1, q1, q2, hb1⟩ := hd
  refine (hT b S1 c1 n hb1 (by omega) (by omega) (by omega)).mono fun u S2 ⟨t, hu, ht, hd⟩ => ?_
  subst hu
  obtain ⟨hf2, c2, q3, q4, hb2⟩ := hd
  obtain ⟨r, hr, hr1, hr2⟩ := ringed_ok ht hi
  simp only [r_add]
  rw [r_list (by show 5 ≤ lim; decide), r_sub1 (Sq.loc (get_new _ _)) (at_nat hr), r_list (by decide)]
  have l0 : (S2 ++ [Ob.lst [PV.int 0, .int 1, .int (n : Nat), .int (1 + (t : Nat)), .int 1]]).length = S2.length + 1 := by simp
  have hf3 := ((hf1.trans hf2).trans (Fr.app [b] S2 [Ob.lst [PV.int 0, .int 1, .int (n : Nat), .int (1 + (t : Nat)), .int 1]]))
  have hb3 := hb2.fr (Fr.app [] S2 [Ob.lst [PV.int 0, .int 1, .int (n : Nat), .int (1 + (t : Nat)), .int 1]]) (by simp)
  generalize (S2 ++ [Ob.lst [PV.int 0, .int 1, .int (n : Nat), .int (1 + (t : Nat)), .int 1]]) = S3 at l0 hf3 hb3 ⊢
  have hl3 := hf3.len
  refine ⟨_, rng1_ok (by omega), ?_⟩
  have hbl := hb3.lt
  have hbl0 := hb.lt
  refine q_loop (vs := (List.range n).map iv) (I := fun k e S' => ∃ (ns : List Nat) (c' : Int) (x5 : Option PV), e = [some (.loc b), some (iv n), some (iv i), some (iv r), some (.loc S3.length), x5] ∧ S'[S3.length]? = some (.lst (ivs ns)) ∧ ns.length = k ∧ (∀ x ∈ ns, x < n) ∧ c ≤ c' ∧ c' ≤ c + k + 2 ∧ Box b S' c' ∧ Fr [b] S S') (by simp; exact fuel_of (by omega)) ?_ ?_ ?_ ?_
  · exact ⟨[], c2, none, rfl, get_new _ _, rfl, by simp, by omega, by omega, hb3.fr (.app [] _ _) (by simp), hf3.trans (.app _ _ _)⟩
  · intro k e S' _
    rw [Int.toNat_natCast, rng_nx, List.getElem?_map]
  · rintro k v e S' hv ⟨ns, c', x5, rfl, h1, h2, h3, h4, h5, h6, h7⟩
    rw [List.getElem?_map] at hv
    have hk : k < n := by
      by_cases hk : k < n
      · exact hk
      · rw [List.getElem?_eq_none (by simp; omega)] at hv; cases hv
    rw [List.getElem?_range hk] at hv
    cases hv
    refine ⟨_, rfl, ?_⟩
    have hlt := lt_of_get h1
    have put : ∀ (S4 : Ms) (x : Nat) (c4 : Int), x < n → S4[S3.length]? = some (.lst (ivs ns)) → c ≤ c4 → c4 ≤ c' + 1 → Box b S4 c4 → Fr [b] S S4 →
        Ret (oAppend (.loc S3.length) [iv x] S4) fun _ S5 => ∃ (ns : List Nat) (c' : Int) (x5' : Option PV), [some (PV.loc b), some (iv n), some (iv i), some (iv r), some (.loc S3.length), some (iv k)] = [some (PV.loc b), some (iv n), some (iv i), some (iv r), some (.loc S3.length), x5'] ∧ S5[S3.length]? = some (.lst (ivs ns)) ∧ ns.length = k + 1 ∧ (∀ x ∈ ns, x < n) ∧ c ≤ c' ∧ c' ≤ c + (k + 1 : Nat) + 2 ∧ Box b S5 c' ∧ Fr [b] S S5 := by
      intro S4 x c4 hx g1 g2 g3 g4 g5
      rw [r_append g1 (by simp; exact lim_of (by omega))]
      exact ⟨ns ++ [x], c4, _, rfl, by rw [get_set g1]; simp, by simp [h2], all_snoc h3 hx, g2, by omega, g4.fr (.set (ms := [S3.length]) _ _ (.inl (by simp))) (by simp; omega), g5.setN (.inr (by omega))⟩
    simp only [r_fn, List.map, List.replicate, List.cons_append, List.nil_append, q_seq, q_if, q_next, q_of, q_toSO, gNm, Option.some.injEq, exists_eq_left', q_put, List.set, r_m2, r_m1, r_v0, r_vs, r_C, r_L, r_cons, r_nil, r_cl1, r_cl2, r_cl3, rets_rt, rets_nx, r_B, r_T, r_asB, r_cmp, r_add, r_sub, q_for, i_of, i_rg, i_st, q_par, r_mIf, r_bYes, r_mLc, r_eqN, loc_some h1, r_meth, true_and]
    by_cases hi0 : i = 0
    · subst hi0
      rw [if_pos (by simp)]
      refine (hT b S' c' n h6 (by omega) (by omega) (by omega)).mono fun u S4 ⟨x, hu, hx, hd⟩ => ?_
      subst hu
      obtain ⟨hf4, c4, g1, g2, hb4⟩ := hd
      exact put S4 x c4 hx (hf4.get h1 (by simp; omega)) (by omega) (by omega) hb4 (h7.trans hf4)
    · rw [if_neg (by simp; omega)]
      have hr0 := hr2 hi0
      by_cases hkr : k < r
      · rw [if_pos (by simpa [oLt] using hkr)]
        rw [iv_addr, r_mod (by omega), iv_mod]
        exact put S' _ c' (Nat.lt_of_lt_of_le (Nat.mod_lt _ hr0) hr1) h1 (by omega) (by omega) h6 h7
      · rw [if_neg (by simpa [oLt] using hkr)]
        by_cases hi4 : i = 4
        · subst hi4
          rw [if_pos (by simp), iv_sub1 (by omega)]
          exact put S' _ c' (by omega) h1 (by omega) (by omega) h6 h7
        · rw [if_neg (by simp; omega)]
          refine (hT b S' c' k h6 (by omega) (by omega) (by omega)).mono fun u S4 ⟨x, hu, hx, hd⟩ => ?_
          subst hu
          obtain ⟨hf4, c4, g1, g2, hb4⟩ := hd
          exact put S4 x c4 (by omega) (hf4.get h1 (by simp; omega)) (by omega) (by omega) hb4 (h7.trans hf4)
  · rintro e S' ⟨ns, c', x5, rfl, h1, h2, h3, h4, h5, h6, h7⟩
    simp only [r_fn, List.map, List.replicate, List.cons_append, List.nil_append, q_seq, q_if, q_next, q_of, q_toSO, gNm, Option.some.injEq, exists_eq_left', q_put, List.set, r_m2, r_m1, r_v0, r_vs, r_C, r_L, r_cons, r_nil, r_cl1, r_cl2, r_cl3, rets_rt, rets_nx, r_B, r_T, r_asB, r_cmp, r_add, r_sub, q_for, i_of, i_rg, i_st, q_par, r_mIf, r_bYes, r_mLc]
    simp only [List.length_map, List.length_range] at h2 h5
    exact ⟨ns, ⟨_, rfl, by omega, h1⟩, h2, h3, h7, c', by omega, by omega, h6⟩
end MP

set_option maxRecDepth 100000
namespace MP
open PySem PySem.Spec PyProof.Rows L2
variable {T : List PV → Ms → Out PV}
theorem r_lcPure {src : Src} {g : MG} {m : ME} {vl : List Nat} {l : Nat} {env : Env'} {S : Ms} {Q : PV → Ms → Prop} (vs ys : List PV) (hl : vs.length ≤ lim) (hy : ys.length = vs.length) (hS : S[l]? = some (.lst []))
    (hn : ∀ (S' : Ms) (i : Nat), Fr [l] S S' → nxt S' i src = nxO vs[i]?)
    (hm : ∀ (i : Nat) (v y : PV) (S' : Ms), Fr [l] S S' → vs[i]? = some v → ys[i]? = some y → ∃ e1, g v (wipeE env vl) = some e1 ∧ ∀ Q : PV → Ms → Prop, Ret (m e1 S') Q = Q y S')
    (hd : ∀ S', Fr [l] S S' → S'[l]? = some (.lst ys) → Q (.loc l) S') : Ret (lcM src g bYes m vl l env fuel 0 S) Q := by
  refine r_lc vs hl (fun i acc S' => Fr [l] S S' ∧ S'[l]? = some (.lst acc) ∧ acc = ys.take i) ⟨.refl _ _, hS, rfl⟩ (fun i acc S' h => ⟨hn S' i h.1, h.2.1⟩) ?_ ?_
  · rintro i v acc S' hv ⟨h1, h2, rfl⟩ _
    have hi := (List.getElem?_eq_some_iff.mp hv).1
    have hyi : ys[i]? = some ys[i] := List.getElem?_eq_getElem (by omega)
    obtain ⟨e1, g1, q1⟩ := hm i v _ S' h1 hv hyi
    refine ⟨e1, g1, ?_⟩
    rw [r_bYes, if_pos rfl, q1]
    refine ⟨h2, h1.trans (.set _ _ (.inl (by simp))), get_set h2, ?_⟩
    rw [List.take_add_one, hyi]; rfl
  · rintro acc S' ⟨h1, h2, rfl⟩
    exact hd S' h1 (by rw [h2, ← hy, List.take_length])
def Mmixed (T : List PV → Ms → Out PV) : List PV → Ms → Out PV := mFn 4 (sSeq (sPar 2 3 (mL (mCons (mVar 0) (mCons (m1 (mL (mCons (mVar 1) mNil) oLen) oListRg1) mNil)) (cl 2 (Mstrewn T))) (m2 (mL (mCons (mC (.int 0)) mNil) oList) (mL (mCons (mVar 1) mNil) oLen) oMul))
  (sSeq (sFor (iSt enmOf (mCons (mVar 1) mNil)) (gTp 2 (gCn (gNm 4) (gCn (gNm 5) gNl)))
  (sPut (mVar 3) (mSub (mVar 2) (mVar 4)) (mSub (mVar 2) (mVar 5))))
  (sRet (mL (mCons (mVar 3) mNil) oTupOf))))
theorem r_mulL {S : Ms} {n k : Nat} {x : PV} {Q : PV → Ms → Prop} (h : S[n]? = some (.lst [x])) (hk : k ≤ 10000000) : Ret (oMul (.loc n) (.int (k : Nat)) S) Q = Q (.loc S.length) (S ++ [.lst (List.replicate k x)]) := by
  simp only [oMul, h]
  rw [if_pos ⟨by omega, by omega, by rw [Int.toNat_natCast]; simp; exact Nat.le_of_lt (lim_of hk)⟩]
  have e : (List.replicate k [x]).flatten = List.replicate k x := by
    induction k with
    | zero => rfl
    | succ k ih => rw [List.replicate_succ, List.flatten_cons, ih (by omega)]; rfl
  rw [Int.toNat_natCast, e]; rfl
theorem g_two {i j : Nat} {a b : PV} {e : Env'} : gTp 2 (gCn (gNm i) (gCn (gNm j) gNl)) (.tup [a, b]) e = some ((e.set i (some a)).set j (some b)) := by
  simp [gTp, gCn, gNm, gNl]
theorem q_asg {i : Nat} {g : MG} {m : ME} {env : Env'} {S : Ms} {D : Qs} : RetS (sAsg g m env S) D = Ret (m env S) fun v S1 => ∃ e, g v env = some e ∧ D.nx e S1 := by
  unfold sAsg; rw [q_of]; congr 1; funext v S1; exact q_toSO
theorem perm_range {ns : List Nat} {n : Nat} (h : ns.Perm (List.range n)) : ns.length = n ∧ ∀ x ∈ ns, x < n :=
  ⟨by rw [h.length_eq]; simp, fun x hx => by have := h.mem_iff.mp hx; simpa using this⟩
theorem all_set {P : Nat → Prop} {ns : List Nat} {i k : Nat} (h : ∀ x ∈ ns, P x) (hk : P k) : ∀ x ∈ ns.set i k, P x := fun x hx => by
  rcases List.mem_or_eq_of_mem_set hx with z | z
  · exact h x z
  · rw [z]; exact hk
theorem ivs_set {ns : List Nat} {i k : Nat} : (ivs ns).set i (iv k) = ivs (ns.set i k) := by simp [ivs]
theorem mixed_ok (hT : TakeOk T) {b m : Nat} {S : Ms} {c : Int} {ns : List Nat} (hb : Box b S c) (hc : c + ns.length < 1099511627776) (hv : S[m]? = some (.lst (ivs ns))) (hm : m ≠ b) (hn : ns.length ≤ 1000000) (ha : ∀ x ∈ ns, x < ns.length) :
    Ret (Mmixed T [.loc b, .loc m] S) fun w S' => ∃ ms : List Nat, w = .tup (ivs ms) ∧ ms.length = ns.length ∧ (∀ x ∈ ms, x < ns.length) ∧ Drew b S c ns.length S' := by
  unfold Mmixed
  simp only [r_fn, List.map, List.replicate, List.cons_append, List.nil_append, q_seq, q_if, q_next, q_of, q_toSO, gNm, Option.some.injEq, exists_eq_left', q_put, List.set, r_m2, r_m1, r_v0, r_vs, r_C, r_L, r_cons, r_nil, r_cl1, r_cl2, r_cl3, rets_rt, rets_nx, r_B, r_T, r_asB, r_cmp, r_add, r_sub, q_for, i_of, i_rg, i_st, q_par, r_mIf, r_bYes, r_mLc, r_len (Sq.loc hv), List.length_map]
  rw [r_range1 (by omega)]
  have hbl := hb.lt
  have hml := lt_of_get hv
  refine (strewn_ok hT (ns := List.range ns.length) (hb.fr (.app [] _ _) (by simp)) (by simpa using hc) (Sq.loc (get_new _ _)) (by simp; omega)).mono fun u S1 ⟨tg, ⟨t, hu, ht, htg⟩, hp, hd⟩ => ?_
  subst hu
  obtain ⟨p1, p2⟩ := perm_range hp
  obtain ⟨hf1, c1, q1, q2, hb1⟩ := hd
  simp only [List.length_append, List.length_singleton, List.length_range] at ht q2
  have hf1' := (Fr.app [b] S [Ob.lst (ivs (List.range ns.length))]).trans hf1
  have hv1 := hf1'.get hv (by simp [hm])
  have hl1 := hf1'.len
  have htl := lt_of_get htg
  rw [r_list (by decide)]
  have hv2 : (S1 ++ [Ob.lst [PV.int 0]])[m]? = some (.lst (ivs ns)) := by rw [List.getElem?_append_left (by omega)]; exact hv1
  rw [r_len (Sq.loc hv2), List.length_map, r_mulL (get_new _ _) (by omega)]
  have hf2 := (hf1'.trans (Fr.app [b] S1 [Ob.lst [PV.int 0]])).trans (Fr.app [b] _ [Ob.lst (List.replicate ns.length (PV.int 0))])
  have hb2 := (hb1.fr (Fr.app [] S1 [Ob.lst [PV.int 0]]) (by simp)).fr (Fr.app [] _ [Ob.lst (List.replicate ns.length (PV.int 0))]) (by simp)
  have e3 : (S1 ++ [Ob.lst [PV.int 0]]).length = S1.length + 1 := by simp
  have hh := get_new (S1 ++ [Ob.lst [PV.int 0]]) (Ob.lst (List.replicate ns.length (PV.int 0)))
  have htg2 : (S1 ++ [Ob.lst [PV.int 0]] ++ [Ob.lst (List.replicate ns.length (PV.int 0))])[t]? = some (.lst (ivs tg)) := by
    rw [List.getElem?_append_left (by simp; omega), List.getElem?_append_left (by omega)]; exact htg
  rw [e3] at hh ⊢
  have hv3 := hf2.get hv (by simp [hm])
  generalize (S1 ++ [Ob.lst [PV.int 0]] ++ [Ob.lst (List.replicate ns.length (PV.int 0))]) = S2 at *
  refine ⟨_, enm_sq hv3, ?_⟩
  refine q_loop (vs := (List.range ns.length).map fun (i : Nat) => .tup [.int i, iv (ns.getD i 0)]) (I := fun k e S' => ∃ (hs : List Nat) (x4 x5 : Option PV), e = [some (.loc b), some (.loc m), some (.loc t), some (.loc (S1.length + 1)), x4, x5] ∧ S'[S1.length + 1]? = some (.lst (ivs hs)) ∧ hs.length = ns.length ∧ (∀ x ∈ hs, x < ns.length) ∧ Fr [S1.length + 1] S2 S') (by simp; exact fuel_of (by omega)) ?_ ?_ ?_ ?_
  · refine ⟨List.replicate ns.length 0, none, none, rfl, ?_, by simp, ?_, .refl _ _⟩
    · rw [hh]; simp [ivs, List.map_replicate]
    · intro x hx
      have := List.mem_replicate.mp hx
      omega
  · rintro k e S' ⟨hs, x4, x5, rfl, h1, h2, h3, h4⟩
    rw [enm_nx (h4.get hv3 (by simp; omega)), ivs_get, List.getElem?_map]
    by_cases hk : k < ns.length
    · rw [List.getElem?_range hk, List.getElem?_eq_getElem hk]
      simp [List.getD_eq_getElem?_getD, List.getElem?_eq_getElem hk]
    · rw [List.getElem?_eq_none (by omega), List.getElem?_eq_none (by simp; omega)]; rfl
  · rintro k v e S' hv ⟨hs, x4, x5, rfl, h1, h2, h3, h4⟩
    rw [List.getElem?_map] at hv
    have hk : k < ns.length := by
      by_cases hk : k < ns.length
      · exact hk
      · rw [List.getElem?_eq_none (by simp; omega)] at hv; cases hv
    rw [List.getElem?_range hk] at hv
    cases hv
    refine ⟨_, g_two, ?_⟩
    have hx : ns.getD k 0 < ns.length := by
      rw [List.getD_eq_getElem?_getD, List.getElem?_eq_getElem hk]; exact ha _ (List.getElem_mem hk)
    have ht' := h4.get htg2 (by simp; omega)
    have y1 := p2 _ (List.getElem_mem (show k < tg.length by omega))
    have y2 := p2 _ (List.getElem_mem (show ns.getD k 0 < tg.length by omega))
    simp only [r_fn, List.map, List.replicate, List.cons_append, List.nil_append, q_seq, q_if, q_next, q_of, q_toSO, gNm, Option.some.injEq, exists_eq_left', q_put, List.set, r_m2, r_m1, r_v0, r_vs, r_C, r_L, r_cons, r_nil, r_cl1, r_cl2, r_cl3, rets_rt, rets_nx, r_B, r_T, r_asB, r_cmp, r_add, r_sub, q_for, i_of, i_rg, i_st, q_par, r_mIf, r_bYes, r_mLc]
    rw [r_sub1 (Sq.loc ht') (sq_ivs_at (by omega)), r_sub1 (Sq.loc ht') (sq_ivs_at (by omega))]
    exact ⟨_, r_put h1 (by omega) (by simp; omega), hs.set tg[k] tg[ns.getD k 0], _, _, rfl, by rw [get_set h1, Int.toNat_natCast, ivs_set], by simp [h2], all_set h3 y2, h4.setN (.inl (by simp))⟩
  · rintro e S' ⟨hs, x4, x5, rfl, h1, h2, h3, h4⟩
    simp only [r_fn, List.map, List.replicate, List.cons_append, List.nil_append, q_seq, q_if, q_next, q_of, q_toSO, gNm, Option.some.injEq, exists_eq_left', q_put, List.set, r_m2, r_m1, r_v0, r_vs, r_C, r_L, r_cons, r_nil, r_cl1, r_cl2, r_cl3, rets_rt, rets_nx, r_B, r_T, r_asB, r_cmp, r_add, r_sub, q_for, i_of, i_rg, i_st, q_par, r_mIf, r_bYes, r_mLc]
    rw [r_tupOf (Sq.loc h1)]
    exact ⟨hs, rfl, h2, h3, hf2.drop (n := S1.length + 1) (h4.mono (by simp)) (by omega), c1, q1, q2, hb2.fr h4 (by simp; omega)⟩
end MP

set_option maxRecDepth 100000
namespace MP
open PySem PySem.Spec PyProof.Rows L2
variable {T : List PV → Ms → Out PV}
def Mdrawn (T : List PV → Ms → Out PV) : List PV → Ms → Out PV := mFn 5 (sSeq (sAsg (gTp 2 (gCn (gNm 2) (gCn (gNm 3) gNl))) (mL (mCons (m2 (mC (.int 1)) (mL (mCons (mVar 0) (mCons (mVar 1) mNil)) (cl 2 T)) oAdd) (mCons (mL mNil oList) mNil)) oTup))
  (sSeq (sWhile (mB (m2 (mL (mCons (mVar 3) mNil) oLen) (mVar 2) oLt))
  (sSeq (sSet 4 (m2 (mVar 2) (mL (mCons (mVar 3) mNil) oLen) oSub))
  (sSeq (sSet 5 (mL (mCons (mVar 0) (mCons (mL (mCons (mVar 0) (mCons (mL (mCons (mVar 4) (mCons (mVar 4) (mCons (m2 (mC (.int 1)) (mL (mCons (mVar 0) (mCons (mVar 4) mNil)) (cl 2 T)) oAdd) mNil))) oList) mNil)) (cl 2 (Mof T))) mNil)) (cl 2 (Mpart T))))
  (sSet 3 (m2 (mVar 3) (mLc (iOf (mVar 5)) (gNm 6) bYes (m2 (mL (mCons (mVar 3) mNil) oLen) (mVar 6) oAdd) [6]) oAdd)))))
  (sRet (mL (mCons (mVar 0) (mCons (mVar 3) mNil)) (cl 2 (Mmixed T))))))
/-- a state of people: tuples of pointers -/
def Sta (ns : List Nat) : Prop := ∀ x ∈ ns, x < ns.length
theorem iv_sub {a b : Nat} (h : b ≤ a) : PV.int ((a : Int) - (b : Int)) = iv (a - b) := by show PV.int _ = PV.int _; congr 1; omega
theorem drawn_ok (hT : TakeOk T) {b : Nat} {S : Ms} {c : Int} {most : Nat} (hb : Box b S c) (hc : c + 6 * most + 1 < 1099511627776) (h0 : 1 ≤ most) (hn : most ≤ 1000000) :
    Ret (Mdrawn T [.loc b, .int (most : Nat)] S) fun w S' => ∃ ms : List Nat, w = .tup (ivs ms) ∧ 1 ≤ ms.length ∧ ms.length ≤ most ∧ Sta ms ∧ Drew b S c (6 * most + 1) S' := by
  unfold Mdrawn
  simp only [r_fn, List.map, List.replicate, List.cons_append, List.nil_append, q_seq, q_if, q_next, q_of, q_toSO, gNm, Option.some.injEq, exists_eq_left', q_put, List.set, r_m2, r_m1, r_v0, r_vs, r_C, r_L, r_cons, r_nil, r_cl1, r_cl2, r_cl3, rets_rt, rets_nx, r_B, r_T, r_asB, r_cmp, r_add, r_sub, q_for, i_of, i_rg, i_st, q_par, r_mIf, r_bYes, r_mLc, q_asg]
  refine (hT b S c most hb (by omega) h0 (by omega)).mono fun u S1 ⟨t, hu, ht, hd⟩ => ?_
  subst hu
  obtain ⟨hf1, c1, q1, q2, hb1⟩ := hd
  have hbl := hb.lt
  have hl1 := hf1.len
  simp only [r_add]
  rw [r_list (by decide), r_tup (by show 2 ≤ lim; decide), iv_add1]
  refine ⟨_, g_two, ?_⟩
  simp only [List.set]
  refine q_while (I := fun k e S' => ∃ (ns : List Nat) (f : Nat) (x4 x5 x6 : Option PV) (c' : Int), k = 1 + t - ns.length ∧ e = [some (.loc b), some (iv most), some (iv (1 + t)), some (.loc f), x4, x5, x6] ∧ S'[f]? = some (.lst (ivs ns)) ∧ S.length ≤ f ∧ Sta ns ∧ ns.length ≤ 1 + t ∧ c ≤ c' ∧ c' ≤ c + 1 + 5 * ns.length ∧ Box b S' c' ∧ Fr [b] S S') (1 + t) (fuel_of (by omega)) ?_ ?_
  · exact ⟨[], S1.length, none, none, none, c1, rfl, rfl, get_new _ _, hl1, (by intro x hx; cases hx), by simp, q1, by simp; omega, hb1.fr (.app [] _ _) (by simp), hf1.trans (.app _ _ _)⟩
  · rintro k e S' ⟨ns, f, x4, x5, x6, c', rfl, rfl, h1, h2, h3, h4, h5, h6, h7, h8⟩
    have hfl := lt_of_get h1
    have hbl' := h7.lt
    simp only [r_fn, List.map, List.replicate, List.cons_append, List.nil_append, q_seq, q_if, q_next, q_of, q_toSO, gNm, Option.some.injEq, exists_eq_left', q_put, List.set, r_m2, r_m1, r_v0, r_vs, r_C, r_L, r_cons, r_nil, r_cl1, r_cl2, r_cl3, rets_rt, rets_nx, r_B, r_T, r_asB, r_cmp, r_add, r_sub, q_for, i_of, i_rg, i_st, q_par, r_mIf, r_bYes, r_mLc, r_len (Sq.loc h1), List.length_map]
    by_cases hlt : ns.length < 1 + t
    · rw [if_pos (by simp [oLt]; omega), iv_sub (by omega)]
      have hleft : 1 ≤ 1 + t - ns.length := by omega
      generalize hL : 1 + t - ns.length = left at hleft ⊢
      refine (hT b S' c' left h7 (by omega) hleft (by omega)).mono fun u S2 ⟨r, hu, hr, hd⟩ => ?_
      subst hu
      obtain ⟨hf2, c2, q3, q4, hb2⟩ := hd
      have hl2 := hf2.len
      simp only [r_add]
      rw [iv_add1, r_list (by show 3 ≤ lim; decide)]
      refine (of_ok hT (xs := [iv left, iv left, iv (1 + r)]) (hb2.fr (.app [] _ _) (by simp)) (by omega) (Sq.loc (get_new _ _)) (Off.loc (by simp; omega)) (by show 1 ≤ 3; omega) (by show 3 ≤ _; omega)).mono fun u S3 ⟨i, hu, hd⟩ => ?_
      have hm : ∃ m : Nat, u = iv m ∧ 1 ≤ m ∧ m ≤ left := by
        match i, hu with
        | 0, hu => cases hu; exact ⟨left, rfl, hleft, by omega⟩
        | 1, hu => cases hu; exact ⟨left, rfl, hleft, by omega⟩
        | 2, hu => cases hu; exact ⟨1 + r, rfl, by omega, by omega⟩
      obtain ⟨m, rfl, hm1, hm2⟩ := hm
      obtain ⟨hf3, c3, q5, q6, hb3⟩ := hd
      refine (part_ok hT hb3 (by omega) hm1 (by omega)).mono fun u S4 ⟨ps, ⟨g, hu, hg, hps⟩, hp1, hp2, hd⟩ => ?_
      subst hu
      obtain ⟨hf4, c4, q7, q8, hb4⟩ := hd
      have hfr := ((hf2.trans (Fr.app [b] S2 [Ob.lst [iv left, iv left, iv (1 + r)]])).trans hf3).trans hf4
      have h14 : S4[f]? = some (.lst (ivs ns)) := by
        refine hfr.get h1 ?_
        simp only [List.mem_singleton]
        intro z; subst z; omega
      obtain ⟨s, hs1, hs2⟩ := src_sq (Sq.loc hps)
      have hl4 := hfr.len
      have hgl := lt_of_get hps
      have hfb : f ≠ b := by omega
      refine ⟨s, hs1, ?_⟩
      refine r_lcPure (vs := ivs ps) (ys := ivs (ps.map (ns.length + ·))) (by simp; exact Nat.le_of_lt (lim_of (by omega))) (by simp) (get_new _ _) ?_ ?_ ?_
      · intro S' i hf
        refine hs2 S' i ((Sq.loc ?_))
        exact hf.get (by rw [List.getElem?_append_left hgl]; exact hps) (by simp; omega)
      · intro i v y S' hf hv hy
        rw [ivs_get] at hv hy
        rw [List.getElem?_map] at hy
        cases hq : ps[i]? with
        | none => rw [hq] at hv; cases hv
        | some p =>
          rw [hq] at hv hy
          cases hv; cases hy
          refine ⟨_, rfl, fun Q => ?_⟩
          have g1 : S'[f]? = some (.lst (ivs ns)) := hf.get (by rw [List.getElem?_append_left (by omega)]; exact h14) (by simp; omega)
          simp only [wipeE, r_fn, List.map, List.replicate, List.cons_append, List.nil_append, q_seq, q_if, q_next, q_of, q_toSO, gNm, Option.some.injEq, exists_eq_left', q_put, List.set, r_m2, r_m1, r_v0, r_vs, r_C, r_L, r_cons, r_nil, r_cl1, r_cl2, r_cl3, rets_rt, rets_nx, r_B, r_T, r_asB, r_cmp, r_add, r_sub, q_for, i_of, i_rg, i_st, q_par, r_mIf, r_bYes, r_mLc, r_len (Sq.loc g1), List.length_map, iv_add]
      · intro S5 hf5 hn5
        have g1 : S5[f]? = some (.lst (ivs ns)) := hf5.get (by rw [List.getElem?_append_left (by omega)]; exact h14) (by simp; omega)
        rw [r_addL g1 hn5 (by simp; exact Nat.le_of_lt (lim_of (by omega)))]
        have hl5 := hf5.len
        simp only [List.length_append, List.length_singleton] at hl5
        have hF5 : Fr [b] S' S5 := (hfr.trans (Fr.app [b] S4 [Ob.lst []])).drop (n := S4.length) (hf5.mono (by simp)) (by omega)
        refine ⟨1 + t - (ns ++ ps.map (ns.length + ·)).length, by simp; omega, ns ++ ps.map (ns.length + ·), S5.length, _, _, _, c4, rfl, rfl, ?_, by omega, ?_, by simp; omega, by omega, by simp; omega, ?_, ?_⟩
        · rw [get_new]; simp [ivs]
        · intro x hx
          rw [List.length_append, List.length_map, hp1]
          rcases List.mem_append.mp hx with z | z
          · have := h3 x z; omega
          · obtain ⟨y, hy, rfl⟩ := List.mem_map.mp z
            have := hp2 y hy; omega
        · exact ((hb4.fr (.app [] S4 _) (by simp)).fr hf5 (by simp; omega)).fr (.app [] S5 _) (by simp)
        · exact (h8.trans hF5).trans (.app _ _ _)
    · rw [if_neg (by simp [oLt]; omega)]
      have hfb : f ≠ b := by omega
      have e : ns.length = 1 + t := by omega
      refine (mixed_ok hT h7 (by omega) h1 hfb (by omega) h3).mono fun u S2 ⟨ms, hu, hm1, hm2, hd⟩ => ?_
      subst hu
      obtain ⟨hf2, c2, q3, q4, hb2⟩ := hd
      exact ⟨ms, rfl, by omega, by omega, (by intro x hx; rw [hm1]; exact hm2 x hx), h8.trans hf2, c2, by omega, by omega, hb2⟩
end MP

set_option maxRecDepth 100000
namespace MP
open PySem PySem.Spec PyProof.Rows L2
/-! ### slices -/
theorem cut_to (xs : List PV) (k : Nat) : cutP xs none (some (k : Int)) = xs.take k := by
  unfold cutP
  rw [HT.sIx_none, HT.sIx_nat, Nat.sub_zero, List.drop_zero, Nat.min_def]
  split
  · rfl
  · rw [List.take_of_length_le (Nat.le_refl _), List.take_of_length_le (by omega)]
theorem cut_from (xs : List PV) (k : Nat) : cutP xs (some (k : Int)) none = xs.drop k := by
  unfold cutP
  rw [HT.sIx_none, HT.sIx_nat, Nat.min_def]
  split
  · rw [List.take_of_length_le (by simp)]
  · rw [List.take_of_length_le (by simp), List.drop_of_length_le (Nat.le_refl _), List.drop_of_length_le (by omega)]
theorem cut_mid (xs : List PV) (a b : Nat) : cutP xs (some (a : Int)) (some (b : Int)) = (xs.take b).drop a := by
  unfold cutP
  rw [HT.sIx_nat, HT.sIx_nat, List.drop_take]
  by_cases h1 : a ≤ xs.length
  · rw [Nat.min_eq_left h1]
    by_cases h2 : b ≤ xs.length
    · rw [Nat.min_eq_left h2]
    · rw [Nat.min_eq_right (by omega), List.take_of_length_le (by simp), List.take_of_length_le (by simp; omega)]
  · rw [Nat.min_eq_right (show xs.length ≤ a by omega), List.drop_of_length_le (Nat.le_refl _), List.drop_of_length_le (show xs.length ≤ a by omega)]; simp
section
variable {S : Ms} {Q : PV → Ms → Prop} {xs : List PV} {lo hi : Option Int}
theorem r_cutT : Ret (oCut (.tup xs) lo hi S) Q = Q (.tup (cutP xs lo hi)) S := id rfl
theorem r_cutR : Ret (oCut (.rol xs) lo hi S) Q = Q (.loc S.length) (S ++ [.lst (cutP xs lo hi)]) := id rfl
theorem r_cutL {n : Nat} (h : S[n]? = some (.lst xs)) : Ret (oCut (.loc n) lo hi S) Q = Q (.loc S.length) (S ++ [.lst (cutP xs lo hi)]) := by simp [oCut, h, Ret]
end
theorem partI_int {i : Int} : partI (.int i) = some (some i) := rfl
theorem partI_non : partI .non = some none := rfl
/-! ### whole numbers -/
abbrev zvs (zs : List Int) : List PV := zs.map PV.int
theorem zvs_get {zs : List Int} {i : Nat} : (zvs zs)[i]? = zs[i]?.map PV.int := List.getElem?_map ..
theorem noBs_z : ∀ zs : List Int, noBs (zs.map PyData.int) = true
  | [] => rfl
  | n :: ns => by simp only [List.map_cons, noBs, noB, Bool.true_and]; exact noBs_z ns
theorem Rd.zlst {S : Ms} {k n : Nat} {ns : List Int} (e : S[n]? = some (.lst (zvs ns))) (hb : ns.length ≤ 10000000) : Rd S (k + 1) (.loc n) (.list (ns.map PyData.int)) := .lstM e hb fun a _ => .int _
theorem r_neNilZ {S : Ms} {n m : Nat} {ns : List Int} {Q : PV → Ms → Prop} (hb : ns.length ≤ 10000000) (h1 : S[n]? = some (.lst (zvs ns))) (h2 : S[m]? = some (.lst [])) : Ret (oNe (.loc n) (.loc m) S) Q = Q (.bl (!decide (ns = []))) S := by
  rw [r_ne (Rd.zlst h1 hb) (Rd.zlst (ns := []) h2 (by simp)), eqv_dec (p := ns = []) (by simp [noB, noBs_z]) (by simp [noB, noBs]) (by simp)]
def Mbox : List PV → Ms → Out PV := mFn 1 (sSeq (sSet 2 (mIf (mB (m2 (mVar 1) (mL (mCons (mVar 0) mNil) oLen) oLt)) (mSub (mVar 0) (mVar 1)) (mC (.int 0))))
  (sRet (mL (mCons (m2 (mL (mCons (mVar 2) mNil) oAbs) (mL (mCons (m2 (mL (mCons (mVar 2) mNil) oAbs) (m2 (mC (.int 10)) (mC (.int 18)) oPow) oGe) mNil) oInt) oMul) (mCons (m2 (m2 (m2 (mVar 2) (mC (.int 2305843009213693951)) oMod) (m2 (mC (.int 7919)) (mVar 1) oMul) oAdd) (mC (.int 23)) oAdd) (mCons (mC (.int 0)) mNil))) oList)))
theorem r_pow18 {S : Ms} {Q : PV → Ms → Prop} : Ret (oPow (.int 10) (.int 18) S) Q = Q (.int 1000000000000000000) S := by
  have h := r_pow (S := S) (Q := Q) (i := 10) (k := 18) (by refine ⟨?_, ?_, ?_⟩ <;> decide)
  rw [show ((10 : Int) ^ 18) = 1000000000000000000 by decide] at h
  exact h
theorem r_abs {i : Int} {S : Ms} {Q : PV → Ms → Prop} : Ret (oAbs [.int i] S) Q = Q (.int (if i < 0 then -i else i)) S := id rfl
theorem r_intB {b : Bool} {S : Ms} {Q : PV → Ms → Prop} : Ret (oInt [.bl b] S) Q = Q (.int (if b then 1 else 0)) S := id rfl
theorem box_ok {S : Ms} {v : PV} {zs : List Int} {k : Nat} (hv : Sq S v (zvs zs)) (hk : k < 1000) :
    Ret (Mbox [v, .int (k : Nat)] S) fun w S' => ∃ b, w = .loc b ∧ S.length ≤ b ∧ Box b S' 0 ∧ Fr [] S S' := by
  have main : ∀ z : Int, Ret (oAbs [.int z] S) fun x S1 => Ret (oAbs [.int z] S1) fun x1 S1 => Ret (oPow (.int 10) (.int 18) S1) fun y S2 => Ret (oGe x1 y S2) fun x1 S1 => Ret (oInt [x1] S1) fun y S2 => Ret (oMul x y S2) fun x S1 =>
      Ret (oMod (.int z) (.int 2305843009213693951) S1) fun x1 S1 => Ret (oMul (.int 7919) (.int (k : Nat)) S1) fun y S2 => Ret (oAdd x1 y S2) fun x1 S1 => Ret (oAdd x1 (.int 23) S1) fun x2 S1 => Ret (oList [x, x2, .int 0] S1) fun w S' => ∃ b, w = .loc b ∧ S.length ≤ b ∧ Box b S' 0 ∧ Fr [] S S' := by
    intro z
    simp only [r_abs, r_pow18, r_cmp, r_intB]
    have hz : 0 ≤ (if z < 0 then -z else z) := by split <;> omega
    generalize (if z < 0 then -z else z) = a at hz ⊢
    have hd : 0 ≤ (if decide ((1000000000000000000 : Int) ≤ a) = true then (1 : Int) else 0) ∧ (if decide ((1000000000000000000 : Int) ≤ a) = true then (1 : Int) else 0) ≤ 1 := by split <;> omega
    generalize (if decide ((1000000000000000000 : Int) ≤ a) = true then (1 : Int) else 0) = d at hd ⊢
    rw [r_mul (CMul.sr hd.1 (by omega)), r_mod (by omega), r_mul (CMul.sm (by omega) (by omega)), r_add, r_add, r_list (by show 3 ≤ lim; decide)]
    have q0 := Int.emod_nonneg z (show (2305843009213693951 : Int) ≠ 0 by omega)
    have q1 := Int.emod_lt_of_pos z (show (0 : Int) < 2305843009213693951 by omega)
    exact ⟨_, rfl, Nat.le_refl _, ⟨⟨_, _, get_new _ _, Int.mul_nonneg hz hd.1, by omega, by omega⟩, by omega⟩, .app _ _ _⟩
  unfold Mbox
  simp only [r_fn, List.map, List.replicate, List.cons_append, List.nil_append, q_seq, q_if, q_next, q_of, q_toSO, gNm, Option.some.injEq, exists_eq_left', q_put, List.set, r_m2, r_m1, r_v0, r_vs, r_C, r_L, r_cons, r_nil, r_cl1, r_cl2, r_cl3, rets_rt, rets_nx, r_B, r_T, r_asB, r_cmp, r_add, r_sub, q_for, i_of, i_rg, i_st, q_par, r_mIf, r_bYes, r_mLc, r_len hv, List.length_map]
  by_cases h : k < zs.length
  · rw [if_pos (by simpa [oLt] using h)]
    rw [r_sub1 hv (at_nat (by rw [zvs_get, List.getElem?_eq_getElem h]; rfl))]
    exact main _
  · rw [if_neg (by simpa [oLt] using h)]
    exact main 0
def Mcells : List PV → Ms → Out PV := mFn 3 (sSeq (sSet 2 (mL (mCons (mCut (mVar 0) (mC .non) (onlyI (mVar 1))) mNil) oListOf))
  (sSeq (sFor (iSt enmOf (mCons (mCut (mVar 0) (onlyI (mVar 1)) (onlyI (mC (.int 63)))) mNil)) (gTp 2 (gCn (gNm 3) (gCn (gNm 4) gNl)))
  (sPut (mVar 2) (m2 (mVar 3) (mVar 1) oMod) (m2 (mSub (mVar 2) (m2 (mVar 3) (mVar 1) oMod)) (m2 (mVar 4) (m2 (mVar 3) (mC (.int 2)) oAdd) oMul) oAdd)))
  (sRet (mIf (mB (m2 (mVar 2) (mL mNil oList) oNe)) (mVar 2) (mL (mCons (mC (.int 0)) mNil) oList)))))
theorem cells_ok {S : Ms} {zs : List Int} {most : Nat} (h1 : 1 ≤ most) (h2 : most ≤ 63) :
    Ret (Mcells [.rol (zvs zs), .int (most : Nat)] S) fun w S' => ∃ ys : List Int, NewL S w (zvs ys) S' ∧ 1 ≤ ys.length ∧ ys.length ≤ most ∧ Fr [] S S' := by
  unfold Mcells
  have e1 : ∀ k : Nat, (zvs zs).take k = zvs (zs.take k) := fun k => by simp [zvs]
  have e63 : (63 : Int) = ((63 : Nat) : Int) := rfl
  simp only [r_fn, List.map, List.replicate, List.cons_append, List.nil_append, q_seq, q_if, q_next, q_of, q_toSO, gNm, Option.some.injEq, exists_eq_left', q_put, List.set, r_m2, r_m1, r_v0, r_vs, r_C, r_L, r_cons, r_nil, r_cl1, r_cl2, r_cl3, rets_rt, rets_nx, r_B, r_T, r_asB, r_cmp, r_add, r_sub, q_for, i_of, i_rg, i_st, q_par, r_mIf, r_bYes, r_mLc, r_cut, r_onlyI, PV.int.injEq, exists_eq_left', partI_int, partI_non, r_cutR, cut_to, e1]
  rw [r_listOf (Sq.loc (get_new _ _)), e63, cut_mid, e1]
  have e2 : (zvs (zs.take 63)).drop most = zvs ((zs.take 63).drop most) := by simp [zvs]
  rw [e2]
  have l1 : (S ++ [Ob.lst (zvs (zs.take most))]).length = S.length + 1 := by simp
  have hf := (Fr.app [] S [Ob.lst (zvs (zs.take most))]).trans (Fr.app [] _ [Ob.lst (zvs (zs.take most))])
  have g1 := get_new (S ++ [Ob.lst (zvs (zs.take most))]) (Ob.lst (zvs (zs.take most)))
  rw [l1] at g1 ⊢
  generalize hS1 : S ++ [Ob.lst (zvs (zs.take most))] ++ [Ob.lst (zvs (zs.take most))] = S1 at *
  have l2 : S1.length = S.length + 2 := by rw [← hS1]; simp
  have g2 := get_new S1 (Ob.lst (zvs ((zs.take 63).drop most)))
  have hf2 := hf.trans (Fr.app [] S1 [Ob.lst (zvs ((zs.take 63).drop most))])
  have g3 : (S1 ++ [Ob.lst (zvs ((zs.take 63).drop most))])[S.length + 1]? = some (.lst (zvs (zs.take most))) := by rw [List.getElem?_append_left (by omega)]; exact g1
  have hrl : ((zs.take 63).drop most).length ≤ 63 := by simp; omega
  have hrm : 0 < ((zs.take 63).drop most).length → (zs.take most).length = most := by simp; omega
  have hml : (zs.take most).length ≤ most := by simp; omega
  have hm0 : zs ≠ [] → 1 ≤ (zs.take most).length := by
    intro z; have := List.length_pos_iff.mpr z; simp; omega
  generalize (zs.take 63).drop most = rs at *
  refine ⟨_, enm_sq g2, ?_⟩
  refine q_loop (vs := (List.range rs.length).map fun (i : Nat) => .tup [.int i, .int (rs.getD i 0)]) (I := fun k e S' => ∃ (ys : List Int) (x4 x5 : Option PV), e = [some (.rol (zvs zs)), some (.int (most : Nat)), some (.loc (S.length + 1)), x4, x5] ∧ S'[S.length + 1]? = some (.lst (zvs ys)) ∧ ys.length = (zs.take most).length ∧ Fr [S.length + 1] (S1 ++ [Ob.lst (zvs rs)]) S') (by simp; exact fuel_of (by omega)) ?_ ?_ ?_ ?_
  · exact ⟨zs.take most, none, none, rfl, g3, rfl, .refl _ _⟩
  · rintro k e S' ⟨ys, x4, x5, rfl, h1, h2, h4⟩
    rw [enm_nx (h4.get g2 (by simp; omega)), zvs_get, List.getElem?_map]
    by_cases hk : k < rs.length
    · rw [List.getElem?_range hk, List.getElem?_eq_getElem hk]
      simp [List.getD_eq_getElem?_getD, List.getElem?_eq_getElem hk]
    · rw [List.getElem?_eq_none (by omega), List.getElem?_eq_none (by simp; omega)]; rfl
  · rintro k v e S' hv ⟨ys, x4, x5, rfl, h1', h2', h4⟩
    rw [List.getElem?_map] at hv
    have hk : k < rs.length := by
      by_cases hk : k < rs.length
      · exact hk
      · rw [List.getElem?_eq_none (by simp; omega)] at hv; cases hv
    rw [List.getElem?_range hk] at hv
    cases hv
    refine ⟨_, g_two, ?_⟩
    have hlen := hrm (by omega)
    have hki : k % most < ys.length := by rw [h2', hlen]; exact Nat.mod_lt _ (by omega)
    simp only [r_fn, List.map, List.replicate, List.cons_append, List.nil_append, q_seq, q_if, q_next, q_of, q_toSO, gNm, Option.some.injEq, exists_eq_left', q_put, List.set, r_m2, r_m1, r_v0, r_vs, r_C, r_L, r_cons, r_nil, r_cl1, r_cl2, r_cl3, rets_rt, rets_nx, r_B, r_T, r_asB, r_cmp, r_add, r_sub, q_for, i_of, i_rg, i_st, q_par, r_mIf, r_bYes, r_mLc]
    rw [r_mod (by omega), iv_mod, r_sub1 (w := .int ys[k % most]) (Sq.loc h1') (at_nat (by rw [zvs_get, List.getElem?_eq_getElem hki]; rfl)), r_mul (.inl (.inr (by omega))), r_add, r_mod (by omega), iv_mod]
    refine ⟨_, r_put h1' (by omega) (by rw [Int.toNat_natCast, List.length_map]; exact hki), ys.set (k % most) (ys[k % most] + rs.getD k 0 * ((k : Int) + 2)), _, _, rfl, ?_, by simp [h2'], h4.setN (.inl (by simp))⟩
    rw [get_set h1', Int.toNat_natCast]; simp [zvs]
  · rintro e S' ⟨ys, x4, x5, rfl, h1', h2', h4⟩
    simp only [r_fn, List.map, List.replicate, List.cons_append, List.nil_append, q_seq, q_if, q_next, q_of, q_toSO, gNm, Option.some.injEq, exists_eq_left', q_put, List.set, r_m2, r_m1, r_v0, r_vs, r_C, r_L, r_cons, r_nil, r_cl1, r_cl2, r_cl3, rets_rt, rets_nx, r_B, r_T, r_asB, r_cmp, r_add, r_sub, q_for, i_of, i_rg, i_st, q_par, r_mIf, r_bYes, r_mLc]
    rw [r_list (by decide), r_neNilZ (ns := ys) (by omega) (by rw [List.getElem?_append_left (lt_of_get h1')]; exact h1') (get_new _ _)]
    simp only [r_asB]
    have hF := (hf2.drop (n := S.length + 1) (h4.mono (by simp)) (by omega)).trans (Fr.app [] S' [Ob.lst []])
    by_cases hy : ys = []
    · rw [if_neg (by simp [hy]), r_list (by decide)]
      exact ⟨[0], ⟨_, rfl, hF.len, get_new _ _⟩, Nat.le_refl _, h1, hF.trans (.app _ _ _)⟩
    · rw [if_pos (by simp [hy])]
      refine ⟨ys, ⟨_, rfl, by omega, by rw [List.getElem?_append_left (lt_of_get h1')]; exact h1'⟩, ?_, by omega, hF⟩
      exact List.length_pos_iff.mpr hy
end MP

set_option maxRecDepth 100000
namespace MP
open PySem PySem.Spec PyProof.Rows L2
def Msame : Nat → List PV → Ms → Out PV
  | 0 => fun _ _ => .fail
  | d + 1 => mFn 2 (sSeq (sIf (mT (m1 (mVar 1) (oIsi ["list", "tuple"])))
  (sSeq (sIf (bOr (mB (m2 (m1 (mVar 0) (oIsi ["list"])) (m1 (mVar 1) (oIsi ["list"])) oNe)) (mB (m2 (m1 (mVar 0) (oIsi ["tuple"])) (m1 (mVar 1) (oIsi ["tuple"])) oNe)))
  (sRet (mC (.bl false)))
  sNext)
  (sRet (mAnd (m2 (mL (mCons (mVar 0) mNil) oLen) (mL (mCons (mVar 1) mNil) oLen) oEq) (mL (mCons (mLc (iSt zipOf (mCons (mVar 0) (mCons (mVar 1) mNil))) (gTp 2 (gCn (gNm 2) (gCn (gNm 3) gNl))) bYes (mL (mCons (mVar 2) (mCons (mVar 3) mNil)) (cl 2 (Msame d))) [2, 3]) mNil) oAll))))
  sNext)
  (sSeq (sIf (bOr (mB (m2 (mVar 1) (mC .non) oIsN)) (mT (m1 (mVar 1) (oIsi ["str", "bool"]))))
  (sRet (mAnd (m2 (mVar 0) (mVar 1) oEq) (mAnd (m2 (m1 (mVar 0) (oIsi ["bool"])) (m1 (mVar 1) (oIsi ["bool"])) oEq) (m2 (m2 (mVar 0) (mC .non) oIsN) (m2 (mVar 1) (mC .non) oIsN) oEq))))
  sNext)
  (sRet (mAnd (m1 (mVar 0) (oIsi ["int"])) (mAnd (mNot (m1 (mVar 0) (oIsi ["bool"]))) (m2 (mVar 0) (mVar 1) oEq))))))
theorem r_isi {S : Ms} {x : PV} {T : String} {Ts : List String} {Q : PV → Ms → Prop} (h : tyName S x = some T) : Ret (oIsi Ts x S) Q = Q (.bl (Ts.any fun U => isiB T U)) S := by simp [oIsi, h, Ret]
theorem tyName_lst {S : Ms} {n : Nat} {xs : List PV} (h : S[n]? = some (.lst xs)) : tyName S (.loc n) = some "list" := by simp [tyName, h]
theorem r_truthB {b : Bool} {S : Ms} {QB : Bool → Ms → Prop} : Ret (truth (.bl b) S) QB = QB b S := id rfl
/-- what a list comprehension that yields only True brings -/
theorem bls_rep : ∀ n : Nat, blsP (List.replicate n (.bl true)) = some (List.replicate n true)
  | 0 => rfl
  | n + 1 => by rw [List.replicate_succ]; simp only [blsP, bls_rep n]; rfl
theorem r_all {S : Ms} {n k : Nat} {Q : PV → Ms → Prop} (h : S[n]? = some (.lst (List.replicate k (.bl true)))) : Ret (oAll [.loc n] S) Q = Q (.bl true) S := by
  simp [oAll, lstOf, h, bls_rep, Ret]
theorem zip_nx : ∀ {vs ws : List PV} {i : Nat}, (match vs[i]?, ws[i]? with | some v, some w => Nx.yld (.tup [v, w]) | _, _ => .stop) = nxO (((List.zip vs ws).map fun p => PV.tup [p.1, p.2])[i]?)
  | [], ws, i => rfl
  | v :: vs, [], i => by simp only [List.zip_nil_right, List.map_nil, List.getElem?_nil]; cases (v :: vs)[i]? <;> rfl
  | v :: vs, w :: ws, 0 => rfl
  | v :: vs, w :: ws, i + 1 => by
    simp only [List.getElem?_cons_succ, List.zip_cons_cons, List.map_cons]
    exact zip_nx
theorem zipT_src {S : Ms} {xs ys : List PV} : ∃ s, zipOf S [.tup xs, .tup ys] = some s ∧ ∀ S' i, nxt S' i s = nxO (((List.zip xs ys).map fun p => PV.tup [p.1, p.2])[i]?) :=
  ⟨_, rfl, fun S' i => by simp only [nxt]; exact zip_nx⟩
theorem zipL_src {S : Ms} {n m : Nat} {xs ys : List PV} (h1 : S[n]? = some (.lst xs)) (h2 : S[m]? = some (.lst ys)) : ∃ s, zipOf S [.loc n, .loc m] = some s ∧ ∀ S' i, S'[n]? = some (.lst xs) → S'[m]? = some (.lst ys) → nxt S' i s = nxO (((List.zip xs ys).map fun p => PV.tup [p.1, p.2])[i]?) :=
  ⟨.zipL n m, by simp [zipOf, rdL, h1, h2], fun S' i g1 g2 => by simp only [nxt, rdL, g1, g2]; exact zip_nx⟩
theorem Rd.fr0 {S S' : Ms} {k : Nat} {x : PV} {d : PyData} (h : Rd S k x d) (f : Fr [] S S') : Rd S' k x d := by
  induction h with
  | non => exact .non
  | bl b => exact .bl b
  | int i => exact .int i
  | str s h => exact .str s h
  | tup hb hl h ih => exact .tup hb hl ih
  | lst e hb hl h ih => exact .lst (f.get e (by simp)) hb hl ih
/-- the part of same over the items of two sequences -/
theorem same_items {d k : Nat} {env : Env'} {S : Ms} {src : Src} {xs ys : List PV} {ds : List PyData} {Q : PV → Ms → Prop}
    (ih : ∀ (x y : PV) (e : PyData) (S : Ms), Rd S k x e → Rd S k y e → Ret (Msame d [x, y] S) fun v S' => v = .bl true ∧ Fr [] S S') (hen : ∃ a b, env = [a, b, none, none])
    (hl1 : xs.length = ds.length) (hl2 : ys.length = ds.length) (hb : ds.length ≤ 10000000)
    (h1 : ∀ (i : Nat) x d, xs[i]? = some x → ds[i]? = some d → Rd S k x d) (h2 : ∀ (i : Nat) x d, ys[i]? = some x → ds[i]? = some d → Rd S k x d)
    (hs : ∀ (S' : Ms) (i : Nat), Fr [] S S' → nxt S' i src = nxO (((List.zip xs ys).map fun p => PV.tup [p.1, p.2])[i]?))
    (hd : ∀ l S', Fr [] S S' → S'[l]? = some (.lst (List.replicate ds.length (.bl true))) → Q (.loc l) S') :
    Ret (lcM src (gTp 2 (gCn (gNm 2) (gCn (gNm 3) gNl))) bYes (mL (mCons (mVar 2) (mCons (mVar 3) mNil)) (cl 2 (Msame d))) [2, 3] S.length env fuel 0 (S ++ [.lst []])) Q := by
  have hzl : (List.zip xs ys).length = ds.length := by rw [List.length_zip]; omega
  obtain ⟨a, b, rfl⟩ := hen
  refine r_lc ((List.zip xs ys).map fun p => PV.tup [p.1, p.2]) (by rw [List.length_map, hzl]; exact Nat.le_of_lt (lim_of hb)) (fun i acc S' => Fr [] S S' ∧ S'[S.length]? = some (.lst acc) ∧ acc = List.replicate i (.bl true)) ⟨.app _ _ _, get_new _ _, rfl⟩ (fun i acc S' h => ⟨hs S' i h.1, h.2.1⟩) ?_ ?_
  · rintro i v acc S' hv ⟨f1, f2, rfl⟩ _
    have hi : i < ds.length := by
      have := (List.getElem?_eq_some_iff.mp hv).1
      rw [List.length_map, hzl] at this; exact this
    have ex : xs[i]? = some xs[i] := List.getElem?_eq_getElem (by omega)
    have ey : ys[i]? = some ys[i] := List.getElem?_eq_getElem (by omega)
    have ed : ds[i]? = some ds[i] := List.getElem?_eq_getElem hi
    have e : v = .tup [xs[i], ys[i]] := by
      rw [List.getElem?_map, List.getElem?_eq_getElem (by omega)] at hv
      simp only [List.getElem_zip, Option.map_some, Option.some.injEq] at hv
      exact hv.symm
    subst e
    refine ⟨_, g_two, ?_⟩
    rw [r_bYes, if_pos rfl]
    simp only [wipeE, r_fn, List.map, List.replicate, List.cons_append, List.nil_append, q_seq, q_if, q_next, q_of, q_toSO, gNm, Option.some.injEq, exists_eq_left', q_put, List.set, r_m2, r_m1, r_v0, r_vs, r_C, r_L, r_cons, r_nil, r_cl1, r_cl2, r_cl3, rets_rt, rets_nx, r_B, r_T, r_asB, r_cmp, r_add, r_sub, q_for, i_of, i_rg, i_st, q_par, r_mIf, r_bYes, r_mLc]
    refine (ih _ _ _ S' ((h1 i _ _ ex ed).fr0 f1) ((h2 i _ _ ey ed).fr0 f1)).mono fun u S2 ⟨hu, hf⟩ => ?_
    subst hu
    have f3 := hf.get f2 (by simp)
    exact ⟨f3, (f1.trans hf).setN (.inr (Nat.le_refl _)), get_set f3, (List.replicate_succ' ..).symm⟩
  · rintro acc S' ⟨f1, f2, rfl⟩
    rw [List.length_map, hzl] at f2
    exact hd _ S' f1 f2
theorem int_eq (n : Nat) : ((n : Int) == (n : Int)) = true := by simp
theorem r_isN {x : PV} {S : Ms} {Q : PV → Ms → Prop} : Ret (oIsN x .non S) Q = Q (.bl (isNon x)) S := id rfl
theorem bb (b : Bool) : (b == b) = true := by simp
theorem ii (i : Int) : (i == i) = true := by simp
theorem same_ok : ∀ (k : Nat) (x y : PV) (d : PyData) (S : Ms), k ≤ 11 → Rd S k x d → Rd S k y d → Ret (Msame (k + 1) [x, y] S) fun v S' => v = .bl true ∧ Fr [] S S'
  | k, _, _, _, S, hk, .non, h2 => by
    cases h2
    unfold Msame
    simp only [r_fn, List.map, List.replicate, List.cons_append, List.nil_append, q_seq, q_if, q_next, q_of, q_toSO, gNm, Option.some.injEq, exists_eq_left', q_put, List.set, r_m2, r_m1, r_v0, r_vs, r_C, r_L, r_cons, r_nil, r_cl1, r_cl2, r_cl3, rets_rt, rets_nx, r_B, r_T, r_asB, r_cmp, r_add, r_sub, q_for, i_of, i_rg, i_st, q_par, r_mIf, r_bYes, r_mLc, r_bOr, r_bAnd, r_bNot, r_mAnd, r_mOr, r_mNot, r_truthB, r_isN, r_isi (T := "NoneType") (x := .non) rfl]
    rw [if_neg (by decide)]
    rw [if_pos (show isNon PV.non = true from rfl), if_pos trivial, r_eq (d := .none) (e := .none) .non .non]
    simp only [r_fn, List.map, List.replicate, List.cons_append, List.nil_append, q_seq, q_if, q_next, q_of, q_toSO, gNm, Option.some.injEq, exists_eq_left', q_put, List.set, r_m2, r_m1, r_v0, r_vs, r_C, r_L, r_cons, r_nil, r_cl1, r_cl2, r_cl3, rets_rt, rets_nx, r_B, r_T, r_asB, r_cmp, r_add, r_sub, q_for, i_of, i_rg, i_st, q_par, r_mIf, r_bYes, r_mLc, r_bOr, r_bAnd, r_bNot, r_mAnd, r_mOr, r_mNot, r_truthB, r_isN, r_eq (Rd.bl _) (Rd.bl _), PyData.eqv, bb, if_true, true_and]
    exact .refl _ _
  | k, _, _, _, S, hk, .bl b, h2 => by
    cases h2
    unfold Msame
    simp only [r_fn, List.map, List.replicate, List.cons_append, List.nil_append, q_seq, q_if, q_next, q_of, q_toSO, gNm, Option.some.injEq, exists_eq_left', q_put, List.set, r_m2, r_m1, r_v0, r_vs, r_C, r_L, r_cons, r_nil, r_cl1, r_cl2, r_cl3, rets_rt, rets_nx, r_B, r_T, r_asB, r_cmp, r_add, r_sub, q_for, i_of, i_rg, i_st, q_par, r_mIf, r_bYes, r_mLc, r_bOr, r_bAnd, r_bNot, r_mAnd, r_mOr, r_mNot, r_truthB, r_isN, r_isi (T := "bool") (x := .bl _) rfl]
    rw [if_neg (by decide), if_neg (by simp [isNon]), if_pos (by decide), r_eq (.bl _) (.bl _)]
    simp only [r_fn, List.map, List.replicate, List.cons_append, List.nil_append, q_seq, q_if, q_next, q_of, q_toSO, gNm, Option.some.injEq, exists_eq_left', q_put, List.set, r_m2, r_m1, r_v0, r_vs, r_C, r_L, r_cons, r_nil, r_cl1, r_cl2, r_cl3, rets_rt, rets_nx, r_B, r_T, r_asB, r_cmp, r_add, r_sub, q_for, i_of, i_rg, i_st, q_par, r_mIf, r_bYes, r_mLc, r_bOr, r_bAnd, r_bNot, r_mAnd, r_mOr, r_mNot, r_truthB, r_isN, r_eq (Rd.bl _) (Rd.bl _), PyData.eqv, bb, if_true, true_and]
    exact .refl _ _
  | k, _, _, _, S, hk, .int i, h2 => by
    cases h2
    unfold Msame
    simp only [r_fn, List.map, List.replicate, List.cons_append, List.nil_append, q_seq, q_if, q_next, q_of, q_toSO, gNm, Option.some.injEq, exists_eq_left', q_put, List.set, r_m2, r_m1, r_v0, r_vs, r_C, r_L, r_cons, r_nil, r_cl1, r_cl2, r_cl3, rets_rt, rets_nx, r_B, r_T, r_asB, r_cmp, r_add, r_sub, q_for, i_of, i_rg, i_st, q_par, r_mIf, r_bYes, r_mLc, r_bOr, r_bAnd, r_bNot, r_mAnd, r_mOr, r_mNot, r_truthB, r_isN, r_isi (T := "int") (x := .int _) rfl]
    rw [if_neg (by decide), if_neg (by simp [isNon]), if_neg (by decide), if_pos (by decide), if_pos (by decide), r_eqI]
    exact ⟨by rw [ii], .refl _ _⟩
  | k, _, _, _, S, hk, .str s hs, h2 => by
    cases h2
    unfold Msame
    simp only [r_fn, List.map, List.replicate, List.cons_append, List.nil_append, q_seq, q_if, q_next, q_of, q_toSO, gNm, Option.some.injEq, exists_eq_left', q_put, List.set, r_m2, r_m1, r_v0, r_vs, r_C, r_L, r_cons, r_nil, r_cl1, r_cl2, r_cl3, rets_rt, rets_nx, r_B, r_T, r_asB, r_cmp, r_add, r_sub, q_for, i_of, i_rg, i_st, q_par, r_mIf, r_bYes, r_mLc, r_bOr, r_bAnd, r_bNot, r_mAnd, r_mOr, r_mNot, r_truthB, r_isN, r_isi (T := "str") (x := .str _) rfl]
    rw [if_neg (by decide), if_neg (by simp [isNon]), if_pos (by decide), r_eq (.str _ hs) (.str _ hs)]
    simp only [r_fn, List.map, List.replicate, List.cons_append, List.nil_append, q_seq, q_if, q_next, q_of, q_toSO, gNm, Option.some.injEq, exists_eq_left', q_put, List.set, r_m2, r_m1, r_v0, r_vs, r_C, r_L, r_cons, r_nil, r_cl1, r_cl2, r_cl3, rets_rt, rets_nx, r_B, r_T, r_asB, r_cmp, r_add, r_sub, q_for, i_of, i_rg, i_st, q_par, r_mIf, r_bYes, r_mLc, r_bOr, r_bAnd, r_bNot, r_mAnd, r_mOr, r_mNot, r_truthB, r_isN, r_eq (Rd.bl _) (Rd.bl _), PyData.eqv, bb, if_true, true_and]
    rw [if_pos (by simp)]
    exact .refl _ _
  | k + 1, _, _, _, S, hk, .tup (xs := xs) (ds := ds) hb hl h, h2 => by
    cases h2 with
    | tup hb' hl' h' =>
      rename_i ys
      unfold Msame
      simp only [r_fn, List.map, List.replicate, List.cons_append, List.nil_append, q_seq, q_if, q_next, q_of, q_toSO, gNm, Option.some.injEq, exists_eq_left', q_put, List.set, r_m2, r_m1, r_v0, r_vs, r_C, r_L, r_cons, r_nil, r_cl1, r_cl2, r_cl3, rets_rt, rets_nx, r_B, r_T, r_asB, r_cmp, r_add, r_sub, q_for, i_of, i_rg, i_st, q_par, r_mIf, r_bYes, r_mLc, r_bOr, r_bAnd, r_bNot, r_mAnd, r_mOr, r_mNot, r_truthB, r_isN, r_isi (T := "tuple") (x := .tup _) rfl, r_ne (Rd.bl _) (Rd.bl _), PyData.eqv, bb, Bool.not_true, Bool.false_eq_true, if_false]
      rw [if_pos (by decide), r_len Sq.tup, r_len Sq.tup, r_eqI, hl, hl']
      simp only [r_fn, List.map, List.replicate, List.cons_append, List.nil_append, q_seq, q_if, q_next, q_of, q_toSO, gNm, Option.some.injEq, exists_eq_left', q_put, List.set, r_m2, r_m1, r_v0, r_vs, r_C, r_L, r_cons, r_nil, r_cl1, r_cl2, r_cl3, rets_rt, rets_nx, r_B, r_T, r_asB, r_cmp, r_add, r_sub, q_for, i_of, i_rg, i_st, q_par, r_mIf, r_bYes, r_mLc, r_bOr, r_bAnd, r_bNot, r_mAnd, r_mOr, r_mNot, r_truthB, r_isN, ii, if_true]
      obtain ⟨s, hs1, hs2⟩ := zipT_src (S := S) (xs := xs) (ys := ys)
      refine ⟨s, hs1, same_items (fun x y e S' => same_ok k x y e S' (by omega)) ⟨_, _, rfl⟩ hl hl' hb h h' (fun S' i _ => hs2 S' i) fun l S' f1 f2 => ?_⟩
      rw [r_all f2]
      exact ⟨rfl, f1⟩
  | k + 1, _, _, _, S, hk, .lst (n := n) (xs := xs) (ds := ds) e hb hl h, h2 => by
    cases h2 with
    | lst e' hb' hl' h' =>
      rename_i m ys
      unfold Msame
      simp only [r_fn, List.map, List.replicate, List.cons_append, List.nil_append, q_seq, q_if, q_next, q_of, q_toSO, gNm, Option.some.injEq, exists_eq_left', q_put, List.set, r_m2, r_m1, r_v0, r_vs, r_C, r_L, r_cons, r_nil, r_cl1, r_cl2, r_cl3, rets_rt, rets_nx, r_B, r_T, r_asB, r_cmp, r_add, r_sub, q_for, i_of, i_rg, i_st, q_par, r_mIf, r_bYes, r_mLc, r_bOr, r_bAnd, r_bNot, r_mAnd, r_mOr, r_mNot, r_truthB, r_isN, r_isi (tyName_lst e), r_isi (tyName_lst e'), r_ne (Rd.bl _) (Rd.bl _), PyData.eqv, bb, Bool.not_true, Bool.false_eq_true, if_false]
      rw [if_pos (by decide), r_len (Sq.loc e), r_len (Sq.loc e'), r_eqI, hl, hl']
      simp only [r_fn, List.map, List.replicate, List.cons_append, List.nil_append, q_seq, q_if, q_next, q_of, q_toSO, gNm, Option.some.injEq, exists_eq_left', q_put, List.set, r_m2, r_m1, r_v0, r_vs, r_C, r_L, r_cons, r_nil, r_cl1, r_cl2, r_cl3, rets_rt, rets_nx, r_B, r_T, r_asB, r_cmp, r_add, r_sub, q_for, i_of, i_rg, i_st, q_par, r_mIf, r_bYes, r_mLc, r_bOr, r_bAnd, r_bNot, r_mAnd, r_mOr, r_mNot, r_truthB, r_isN, ii, if_true]
      obtain ⟨s, hs1, hs2⟩ := zipL_src e e'
      refine ⟨s, hs1, same_items (fun x y e S' => same_ok k x y e S' (by omega)) ⟨_, _, rfl⟩ hl hl' hb h h' (fun S' i f => hs2 S' i (f.get e (by simp)) (f.get e' (by simp))) fun l S' f1 f2 => ?_⟩
      rw [r_all f2]
      exact ⟨rfl, f1⟩
end MP

set_option maxRecDepth 100000
namespace MP
open PySem PySem.Spec PyProof.Rows L2
/-! ### what calls do -/
def step (ps : List Nat) (w : Nat) : List Nat := ps.set w (ps.getD (ps.getD w 0) 0)
def run (ps : List Nat) (ws : List Nat) : List Nat := ws.foldl step ps
/-- the states along a word -/
def alng (ps : List Nat) : List Nat → List (List Nat)
  | [] => [ps]
  | w :: ws => ps :: alng (step ps w) ws
def idl (k : Nat) (ps : List Nat) : List Nat → List Nat
  | [] => []
  | w :: ws => (if step ps w = ps then [k] else []) ++ idl (k + 1) (step ps w) ws
def rst (ps : List Nat) : List Nat → List Nat
  | [] => []
  | w :: ws => (if step ps w = ps then [] else [w]) ++ rst (step ps w) ws
theorem step_len {ps : List Nat} {w : Nat} : (step ps w).length = ps.length := by simp [step]
theorem getD_lt {ps : List Nat} (h : Sta ps) {w : Nat} (hw : w < ps.length) : ps.getD w 0 < ps.length := by
  rw [List.getD_eq_getElem?_getD, List.getElem?_eq_getElem hw]; exact h _ (List.getElem_mem hw)
theorem step_sta {ps : List Nat} {w : Nat} (h : Sta ps) (hw : w < ps.length) : Sta (step ps w) := by
  intro x hx
  rw [step_len]
  exact all_set (P := fun x => x < ps.length) h (getD_lt h (getD_lt h hw)) x hx
theorem run_len {ws : List Nat} : ∀ {ps : List Nat}, (run ps ws).length = ps.length := by
  induction ws with
  | nil => intro ps; rfl
  | cons w ws ih => intro ps; show (run (step ps w) ws).length = _; rw [ih, step_len]
theorem run_sta {ws : List Nat} : ∀ {ps : List Nat}, Sta ps → (∀ w ∈ ws, w < ps.length) → Sta (run ps ws) := by
  induction ws with
  | nil => intro ps h _; exact h
  | cons w ws ih => intro ps h hw; exact ih (step_sta h (hw w (by simp))) fun x hx => by rw [step_len]; exact hw x (by simp [hx])
theorem run_snoc {ps a : List Nat} {w : Nat} : run ps (a ++ [w]) = step (run ps a) w := by simp [run]
theorem run_take {ps ws : List Nat} {i : Nat} (h : i < ws.length) : run ps (ws.take (i + 1)) = step (run ps (ws.take i)) ws[i] := by
  rw [List.take_add_one, List.getElem?_eq_getElem h]; exact run_snoc
theorem alng_len {ws : List Nat} : ∀ {ps : List Nat}, (alng ps ws).length = ws.length + 1 := by
  induction ws with
  | nil => intro ps; rfl
  | cons w ws ih => intro ps; simp [alng, ih]
theorem alng_get {ws : List Nat} : ∀ {ps : List Nat} {i : Nat}, i ≤ ws.length → (alng ps ws)[i]? = some (run ps (ws.take i)) := by
  induction ws with
  | nil => intro ps i h; have : i = 0 := by simpa using h
           subst this; rfl
  | cons w ws ih =>
    intro ps i h
    cases i with
    | zero => rfl
    | succ i => simp only [alng, List.getElem?_cons_succ, List.take_succ_cons]; rw [ih (by simpa using h)]; rfl
theorem alng_snoc {a : List Nat} {w : Nat} : ∀ {ps : List Nat}, alng ps (a ++ [w]) = alng ps a ++ [run ps (a ++ [w])] := by
  induction a with
  | nil => intro ps; rfl
  | cons x a ih => intro ps; simp only [List.cons_append, alng, ih]; rfl
theorem idl_snoc {a : List Nat} {w : Nat} : ∀ {k : Nat} {ps : List Nat}, idl k ps (a ++ [w]) = idl k ps a ++ (if step (run ps a) w = run ps a then [k + a.length] else []) := by
  induction a with
  | nil => intro k ps; by_cases h : step ps w = ps <;> simp [idl, run, h]
  | cons x a ih =>
    intro k ps
    simp only [List.cons_append, idl, ih, List.append_assoc, List.length_cons]
    have e : k + 1 + a.length = k + (a.length + 1) := by omega
    rw [e]; rfl
theorem rst_snoc {a : List Nat} {w : Nat} : ∀ {ps : List Nat}, rst ps (a ++ [w]) = rst ps a ++ (if step (run ps a) w = run ps a then [] else [w]) := by
  induction a with
  | nil => intro ps; by_cases h : step ps w = ps <;> simp [rst, run, h]
  | cons x a ih =>
    intro ps
    simp only [List.cons_append, rst, ih, List.append_assoc]
    rfl
theorem idl_ge {ws : List Nat} : ∀ {k : Nat} {ps : List Nat}, ∀ x ∈ idl k ps ws, k ≤ x ∧ x < k + ws.length := by
  induction ws with
  | nil => intro k ps x h; cases h
  | cons w ws ih =>
    intro k ps x h
    simp only [idl, List.mem_append] at h
    rcases h with h | h
    · split at h
      · rw [List.mem_singleton] at h; subst h; simp
      · cases h
    · have := ih x h; simp; omega
theorem mem_idl {ws : List Nat} : ∀ {k : Nat} {ps : List Nat} {i : Nat} (h : i < ws.length), (k + i ∈ idl k ps ws) ↔ step (run ps (ws.take i)) ws[i] = run ps (ws.take i) := by
  induction ws with
  | nil => intro k ps i h; exact absurd h (by simp)
  | cons w ws ih =>
    intro k ps i h
    simp only [idl, List.mem_append]
    cases i with
    | zero =>
      simp only [Nat.add_zero, List.take_zero, List.getElem_cons_zero]
      show _ ↔ step ps w = ps
      constructor
      · rintro (z | z)
        · split at z
          · assumption
          · cases z
        · have := idl_ge k z; omega
      · intro z; left; rw [if_pos z]; simp
    | succ i =>
      have e : k + (i + 1) = k + 1 + i := by omega
      have hi : i < ws.length := by simpa using h
      simp only [List.take_succ_cons, List.getElem_cons_succ]
      show _ ↔ step (run (step ps w) (ws.take i)) ws[i] = run (step ps w) (ws.take i)
      rw [← ih (k := k + 1) hi, e]
      constructor
      · rintro (z | z)
        · split at z
          · rw [List.mem_singleton] at z; omega
          · cases z
        · exact z
      · intro z; exact .inr z
theorem run_rst {ws : List Nat} : ∀ {ps : List Nat}, run ps (rst ps ws) = run ps ws := by
  induction ws with
  | nil => intro ps; rfl
  | cons w ws ih =>
    intro ps
    by_cases h : step ps w = ps
    · simp only [rst, h, if_true, List.nil_append]
      rw [ih]
      show run ps ws = run (step ps w) ws
      rw [h]
    · simp only [rst, h, if_false]
      show run (step ps w) (rst (step ps w) ws) = run (step ps w) ws
      exact ih
theorem idl_rst {ws : List Nat} : ∀ {k : Nat} {ps : List Nat}, idl k ps (rst ps ws) = [] := by
  induction ws with
  | nil => intro k ps; rfl
  | cons w ws ih =>
    intro k ps
    by_cases h : step ps w = ps
    · simp only [rst, h, if_true, List.nil_append]; exact ih
    · simp only [rst, h, if_false, List.singleton_append, idl, List.nil_append]; exact ih
theorem rst_mem {ws : List Nat} : ∀ {ps : List Nat}, ∀ x ∈ rst ps ws, x ∈ ws := by
  induction ws with
  | nil => intro ps x h; exact h
  | cons w ws ih =>
    intro ps x h
    simp only [rst, List.mem_append] at h
    rcases h with h | h
    · split at h
      · cases h
      · rw [List.mem_singleton] at h; simp [h]
    · exact List.mem_cons_of_mem _ (ih x h)
theorem rst_len {ws : List Nat} : ∀ {ps : List Nat}, (rst ps ws).length ≤ ws.length := by
  induction ws with
  | nil => intro ps; exact Nat.le_refl _
  | cons w ws ih =>
    intro ps
    simp only [rst, List.length_append, List.length_cons]
    have := ih (ps := step ps w)
    split <;> simp <;> omega
/-- a call is idle where the person points at a root -/
theorem idle_iff {ps : List Nat} {w : Nat} (hw : w < ps.length) : step ps w = ps ↔ ps.getD (ps.getD w 0) 0 = ps.getD w 0 := by
  unfold step
  have e : ps.getD w 0 = ps[w] := by rw [List.getD_eq_getElem?_getD, List.getElem?_eq_getElem hw]; rfl
  rw [e]
  constructor
  · intro h
    have h2 : (ps.set w (ps.getD ps[w] 0))[w]? = ps[w]? := by rw [h]
    rw [List.getElem?_set_self hw, List.getElem?_eq_getElem hw] at h2
    exact Option.some.inj h2
  · intro h
    rw [h]
    exact List.set_getElem_self hw
/-! ### the package -/
def P_look_person : List PV → Ms → Out PV := mFn 0 (sIf (bNot (mB (mChain (mC (.int 0)) (mVar 1) (mL (mCons (mVar 0) mNil) oLen) oLe oLt)))
  sFail
  sNext)
def P_look_people : List PV → Ms → Out PV := mFn 1 (sFor (iOf (mVar 1)) (gNm 2)
  (sDrop (mL (mCons (mVar 0) (mCons (mVar 2) mNil)) (cl 2 P_look_person))))
def P_with_pointer : List PV → Ms → Out PV := mFn 0 (sRet (m2 (m2 (mL (mCons (mCut (mVar 0) (mC .non) (onlyI (mVar 1))) mNil) oTupOf) (mL (mCons (mVar 2) mNil) oTup) oAdd) (mL (mCons (mCut (mVar 0) (onlyI (m2 (mVar 1) (mC (.int 1)) oAdd)) (mC .non)) mNil) oTupOf) oAdd))
def P_after_call : List PV → Ms → Out PV := mFn 0 (sRet (mL (mCons (mVar 0) (mCons (mVar 1) (mCons (mSub (mVar 0) (mSub (mVar 0) (mVar 1))) mNil))) (cl 3 P_with_pointer)))
def P_states_along : List PV → Ms → Out PV := mFn 2 (sSeq (sDrop (mL (mCons (mVar 0) (mCons (mVar 1) mNil)) (cl 2 P_look_people)))
  (sSeq (sSet 2 (mL (mCons (mL (mCons (mVar 0) mNil) oTupOf) mNil) oList))
  (sSeq (sFor (iOf (mVar 1)) (gNm 3)
  (sDrop (mMeth (mVar 2) (mCons (mL (mCons (mSub (mVar 2) (m1 (mC (.int 1)) oNeg)) (mCons (mVar 3) mNil)) (cl 2 P_after_call)) mNil) oAppend)))
  (sRet (mVar 2)))))
def P_called_all : List PV → Ms → Out PV := mFn 2 (sSeq (sDrop (mL (mCons (mVar 0) (mCons (mVar 1) mNil)) (cl 2 P_look_people)))
  (sSeq (sSet 2 (mL (mCons (mVar 0) mNil) oListOf))
  (sSeq (sFor (iOf (mVar 1)) (gNm 3)
  (sPut (mVar 2) (mVar 3) (mSub (mVar 2) (mSub (mVar 2) (mVar 3)))))
  (sRet (mL (mCons (mVar 2) mNil) oTupOf)))))
def P_idle_calls : List PV → Ms → Out PV := mFn 4 (sSeq (sSet 2 (mL (mCons (mVar 0) (mCons (mVar 1) mNil)) (cl 2 P_states_along)))
  (sRet (mLc (iSt ezOf (mCons (mVar 2) (mCons (mCut (mVar 2) (onlyI (mC (.int 1))) (mC .non)) mNil))) (gTp 2 (gCn (gNm 3) (gCn (gTp 2 (gCn (gNm 4) (gCn (gNm 5) gNl))) gNl))) (mB (m2 (mVar 4) (mVar 5) oEq)) (mVar 3) [3, 4, 5])))
theorem look_person_ok {S : Ms} {st : PV} {ps : List Nat} {w : Nat} (h : Sq S st (ivs ps)) (hw : w < ps.length) : Ret (P_look_person [st, .int (w : Nat)] S) fun v S' => v = .non ∧ S' = S := by
  unfold P_look_person
  simp only [r_fn, List.map, List.replicate, List.cons_append, List.nil_append, q_seq, q_if, q_next, q_of, q_toSO, gNm, Option.some.injEq, exists_eq_left', q_put, List.set, r_m2, r_m1, r_v0, r_vs, r_C, r_L, r_cons, r_nil, r_cl1, r_cl2, r_cl3, rets_rt, rets_nx, r_B, r_T, r_asB, r_cmp, r_add, r_sub, q_for, i_of, i_rg, i_st, q_par, r_mIf, r_bYes, r_mLc, r_bOr, r_bAnd, r_bNot, r_mAnd, r_mOr, r_mNot, r_truthB, r_isN, r_chain, r_len h, List.length_map]
  rw [if_pos (by simp), if_neg (by simp; omega)]
  refine ⟨?_, ?_⟩ <;> trivial
theorem iv_get {ws : List Nat} {k : Nat} {v : PV} (h : (ivs ws)[k]? = some v) : ∃ hk : k < ws.length, v = iv ws[k] := by
  rw [ivs_get] at h
  cases e : ws[k]? with
  | none => rw [e] at h; cases h
  | some w =>
    obtain ⟨hk, e2⟩ := List.getElem?_eq_some_iff.mp e
    rw [e] at h; cases h
    exact ⟨hk, by rw [e2]⟩
theorem look_people_ok {S : Ms} {st wd : PV} {ps ws : List Nat} (h : Sq S st (ivs ps)) (hd : Sq S wd (ivs ws)) (hw : ∀ w ∈ ws, w < ps.length) (hl : ws.length ≤ 10000000) :
    Ret (P_look_people [st, wd] S) fun v S' => v = .non ∧ S' = S := by
  unfold P_look_people
  simp only [r_fn, List.map, List.replicate, List.cons_append, List.nil_append, q_seq, q_if, q_next, q_of, q_toSO, gNm, Option.some.injEq, exists_eq_left', q_put, List.set, r_m2, r_m1, r_v0, r_vs, r_C, r_L, r_cons, r_nil, r_cl1, r_cl2, r_cl3, rets_rt, rets_nx, r_B, r_T, r_asB, r_cmp, r_add, r_sub, q_for, i_of, i_rg, i_st, q_par, r_mIf, r_bYes, r_mLc, r_bOr, r_bAnd, r_bNot, r_mAnd, r_mOr, r_mNot, r_truthB, r_isN]
  obtain ⟨s, h1, h2⟩ := src_sq hd
  refine ⟨s, h1, ?_⟩
  refine q_loop (vs := ivs ws) (I := fun k e S' => S' = S ∧ ∃ x, e = [some st, some wd, x]) (by simp; exact fuel_of hl) ⟨rfl, _, rfl⟩ ?_ ?_ ?_
  · rintro i e S' ⟨rfl, _⟩
    exact h2 S' i hd
  · rintro k v e S' hv ⟨rfl, x, rfl⟩
    obtain ⟨hk, rfl⟩ := iv_get hv
    refine ⟨_, rfl, ?_⟩
    simp only [r_fn, List.map, List.replicate, List.cons_append, List.nil_append, q_seq, q_if, q_next, q_of, q_toSO, gNm, Option.some.injEq, exists_eq_left', q_put, List.set, r_m2, r_m1, r_v0, r_vs, r_C, r_L, r_cons, r_nil, r_cl1, r_cl2, r_cl3, rets_rt, rets_nx, r_B, r_T, r_asB, r_cmp, r_add, r_sub, q_for, i_of, i_rg, i_st, q_par, r_mIf, r_bYes, r_mLc, r_bOr, r_bAnd, r_bNot, r_mAnd, r_mOr, r_mNot, r_truthB, r_isN]
    refine (look_person_ok h (hw _ (List.getElem_mem hk))).mono fun u S1 ⟨_, hS⟩ => ?_
    exact ⟨hS, _, rfl⟩
  · rintro e S' ⟨rfl, _⟩
    refine ⟨?_, ?_⟩ <;> trivial
theorem ivs_take {ns : List Nat} {k : Nat} : (ivs ns).take k = ivs (ns.take k) := by simp [ivs]
theorem ivs_drop {ns : List Nat} {k : Nat} : (ivs ns).drop k = ivs (ns.drop k) := by simp [ivs]
theorem with_pointer_ok {S : Ms} {ps : List Nat} {w t : Nat} (hw : w < ps.length) (hl : ps.length ≤ 10000000) : Ret (P_with_pointer [.tup (ivs ps), .int (w : Nat), .int (t : Nat)] S) fun v S' => v = .tup (ivs (ps.set w t)) ∧ S' = S := by
  unfold P_with_pointer
  simp only [r_fn, List.map, List.replicate, List.cons_append, List.nil_append, q_seq, q_if, q_next, q_of, q_toSO, gNm, Option.some.injEq, exists_eq_left', q_put, List.set, r_m2, r_m1, r_v0, r_vs, r_C, r_L, r_cons, r_nil, r_cl1, r_cl2, r_cl3, rets_rt, rets_nx, r_B, r_T, r_asB, r_cmp, r_add, r_sub, q_for, i_of, i_rg, i_st, q_par, r_mIf, r_bYes, r_mLc, r_bOr, r_bAnd, r_bNot, r_mAnd, r_mOr, r_mNot, r_truthB, r_isN, r_cut, r_onlyI, PV.int.injEq, exists_eq_left', partI_int, partI_non, r_cutT, cut_to, iv_addr, cut_from, r_tupOf Sq.tup, ivs_take, ivs_drop]
  have l1 := lim_of hl
  rw [r_tup (by show 1 ≤ lim; decide), r_addT (by simp; omega), r_addT (by simp; omega)]
  refine ⟨?_, rfl⟩
  rw [List.set_eq_take_append_cons_drop, if_pos hw]
  simp [ivs]
theorem sq_at {ps : List Nat} {w : Nat} (hw : w < ps.length) : atI (ivs ps) ((w : Nat) : Int) = some (iv (ps.getD w 0)) := by
  rw [sq_ivs_at hw, List.getD_eq_getElem?_getD, List.getElem?_eq_getElem hw]; rfl
theorem after_call_ok {S : Ms} {ps : List Nat} {w : Nat} (hs : Sta ps) (hw : w < ps.length) (hl : ps.length ≤ 10000000) : Ret (P_after_call [.tup (ivs ps), .int (w : Nat)] S) fun v S' => v = .tup (ivs (step ps w)) ∧ S' = S := by
  unfold P_after_call
  simp only [r_fn, List.map, List.replicate, List.cons_append, List.nil_append, q_seq, q_if, q_next, q_of, q_toSO, gNm, Option.some.injEq, exists_eq_left', q_put, List.set, r_m2, r_m1, r_v0, r_vs, r_C, r_L, r_cons, r_nil, r_cl1, r_cl2, r_cl3, rets_rt, rets_nx, r_B, r_T, r_asB, r_cmp, r_add, r_sub, q_for, i_of, i_rg, i_st, q_par, r_mIf, r_bYes, r_mLc, r_bOr, r_bAnd, r_bNot, r_mAnd, r_mOr, r_mNot, r_truthB, r_isN]
  rw [r_sub1 Sq.tup (sq_at hw), r_sub1 Sq.tup (sq_at (getD_lt hs hw))]
  exact with_pointer_ok hw hl
abbrev tpv (p : List Nat) : PV := .tup (ivs p)
theorem at_last {xs : List PV} {v : PV} (h : xs[xs.length - 1]? = some v) (h0 : 0 < xs.length) : atI xs (-1) = some v := by
  unfold atI ixN
  rw [if_neg (by omega), if_pos (by omega)]
  have e : ((-1 : Int) + (xs.length : Int)).toNat = xs.length - 1 := by omega
  simp only [Option.bind_some, e, h]
theorem states_along_ok {S : Ms} {st wd : PV} {ps ws : List Nat} (h : Sq S st (ivs ps)) (hd : Sq S wd (ivs ws)) (hs : Sta ps) (hw : ∀ w ∈ ws, w < ps.length) (hp : ps.length ≤ 1000000) (hl : ws.length ≤ 1000000) :
    Ret (P_states_along [st, wd] S) fun v S' => NewL S v ((alng ps ws).map tpv) S' ∧ Fr [] S S' := by
  unfold P_states_along
  simp only [r_fn, List.map, List.replicate, List.cons_append, List.nil_append, q_seq, q_if, q_next, q_of, q_toSO, gNm, Option.some.injEq, exists_eq_left', q_put, List.set, r_m2, r_m1, r_v0, r_vs, r_C, r_L, r_cons, r_nil, r_cl1, r_cl2, r_cl3, rets_rt, rets_nx, r_B, r_T, r_asB, r_cmp, r_add, r_sub, q_for, i_of, i_rg, i_st, q_par, r_mIf, r_bYes, r_mLc, r_tupOf h]
  refine (look_people_ok h hd hw (by omega)).mono fun u S1 ⟨_, hS⟩ => ?_
  subst hS
  rw [r_tupOf h, r_list (by show 1 ≤ lim; decide)]
  have hd1 : Sq (S1 ++ [Ob.lst [tpv ps]]) wd (ivs ws) := hd.fr (Fr.app [] _ _) Off.nil
  obtain ⟨s, h1, h2⟩ := src_sq hd1
  refine ⟨s, h1, ?_⟩
  have hoff : Off wd [S1.length] := Off.old hd (Nat.le_refl _)
  refine q_loop (vs := ivs ws) (I := fun k e S' => ∃ x, e = [some st, some wd, some (.loc S1.length), x] ∧ S'[S1.length]? = some (.lst ((alng ps (ws.take k)).map tpv)) ∧ Fr [S1.length] (S1 ++ [Ob.lst [tpv ps]]) S') (by simp; exact fuel_of (by omega)) ⟨_, rfl, get_new _ _, .refl _ _⟩ ?_ ?_ ?_
  · rintro i e S' ⟨x, rfl, g1, g2⟩
    exact h2 S' i (hd1.fr g2 hoff)
  · rintro k v e S' hv ⟨x, rfl, g1, g2⟩
    obtain ⟨hk, rfl⟩ := iv_get hv
    refine ⟨_, rfl, ?_⟩
    have hlast : ((alng ps (ws.take k)).map tpv)[((alng ps (ws.take k)).map tpv).length - 1]? = some (tpv (run ps (ws.take k))) := by
      have e1 : ((alng ps (ws.take k)).map tpv).length = k + 1 := by rw [List.length_map, alng_len, List.length_take]; omega
      rw [e1, Nat.add_sub_cancel, List.getElem?_map, alng_get (by rw [List.length_take]; omega)]
      simp [List.take_take]
    have hrl : (run ps (ws.take k)).length = ps.length := run_len
    simp only [r_fn, List.map, List.replicate, List.cons_append, List.nil_append, q_seq, q_if, q_next, q_of, q_toSO, gNm, Option.some.injEq, exists_eq_left', q_put, List.set, r_m2, r_m1, r_v0, r_vs, r_C, r_L, r_cons, r_nil, r_cl1, r_cl2, r_cl3, rets_rt, rets_nx, r_B, r_T, r_asB, r_cmp, r_add, r_sub, q_for, i_of, i_rg, i_st, q_par, r_mIf, r_bYes, r_mLc, r_meth, loc_some g1, true_and, r_neg]
    rw [r_sub1 (Sq.loc g1) (at_last hlast (by rw [List.length_map, alng_len]; omega))]
    refine (after_call_ok (run_sta hs fun w hw' => hw w (List.mem_of_mem_take hw')) (by rw [hrl]; exact hw _ (List.getElem_mem hk)) (by omega)).mono fun u S2 ⟨hu, hS⟩ => ?_
    subst hu; subst hS
    rw [r_append g1 (by rw [List.length_map, alng_len, List.length_take]; exact lim_of (by omega))]
    refine ⟨_, rfl, ?_, g2.setN (.inl (by simp))⟩
    rw [get_set g1, List.take_add_one, List.getElem?_eq_getElem hk]
    simp only [Option.toList_some]
    rw [alng_snoc, run_snoc]; simp
  · rintro e S' ⟨x, rfl, g1, g2⟩
    simp only [r_fn, List.map, List.replicate, List.cons_append, List.nil_append, q_seq, q_if, q_next, q_of, q_toSO, gNm, Option.some.injEq, exists_eq_left', q_put, List.set, r_m2, r_m1, r_v0, r_vs, r_C, r_L, r_cons, r_nil, r_cl1, r_cl2, r_cl3, rets_rt, rets_nx, r_B, r_T, r_asB, r_cmp, r_add, r_sub, q_for, i_of, i_rg, i_st, q_par, r_mIf, r_bYes, r_mLc]
    rw [List.length_map, List.take_length] at g1
    exact ⟨⟨_, rfl, Nat.le_refl _, g1⟩, (Fr.app [] S1 _).drop (n := S1.length) g2 (Nat.le_refl _)⟩
theorem called_loop {S : Ms} {env : Env'} {body : MS} {n : Nat} {wd : PV} {ps ws : List Nat} {src : Src} {D : Qs} {f : Option PV → Env'} {i : Nat} (h0 : S[n]? = some (.lst (ivs ps))) (hd : Sq S wd (ivs ws)) (ho : Off wd [n]) (hs : Sta ps) (hw : ∀ w ∈ ws, w < ps.length) (hl : ws.length ≤ 1000000)
    (he : env = f none) (hg : ∀ x v, gNm i v (f x) = some (f (some v)))
    (hsrc : ∀ S' i, Sq S' wd (ivs ws) → nxt S' i src = nxO (ivs ws)[i]?)
    (hb : ∀ (w : Nat) (p : List Nat) (S' : Ms) (D : Qs), S'[n]? = some (.lst (ivs p)) → Sta p → w < p.length → D.nx (f (some (iv w))) (S'.set n (.lst (ivs (step p w)))) → RetS (body (f (some (iv w))) S') D)
    (hD : ∀ x S', S'[n]? = some (.lst (ivs (run ps ws))) → Fr [n] S S' → D.nx (f x) S') : RetS (loopM src (gNm i) body fuel 0 env S) D := by
  subst he
  refine q_loop (vs := ivs ws) (I := fun k e S' => ∃ x, e = f x ∧ S'[n]? = some (.lst (ivs (run ps (ws.take k)))) ∧ Fr [n] S S') (by simp; exact fuel_of (by omega)) ⟨none, rfl, h0, .refl _ _⟩ ?_ ?_ ?_
  · rintro i e S' ⟨x, rfl, g1, g2⟩
    exact hsrc S' i (hd.fr g2 ho)
  · rintro k v e S' hv ⟨x, rfl, g1, g2⟩
    obtain ⟨hk, rfl⟩ := iv_get hv
    refine ⟨_, hg _ _, hb _ _ _ _ g1 (run_sta hs fun w hw' => hw w (List.mem_of_mem_take hw')) (by rw [run_len]; exact hw _ (List.getElem_mem hk)) ?_⟩
    exact ⟨_, rfl, by rw [get_set g1, run_take hk], g2.setN (.inl (by simp))⟩
  · rintro e S' ⟨x, rfl, g1, g2⟩
    rw [List.length_map, List.take_length] at g1
    exact hD x S' g1 g2
theorem put_step {S : Ms} {n w : Nat} {p : List Nat} {m a : ME} {env : Env'} {D : Qs} (g : S[n]? = some (.lst (ivs p))) (hs : Sta p) (hw : w < p.length)
    (hm : ∀ Q : PV → Ms → Prop, Ret (m env S) Q = Q (.loc n) S) (ha : ∀ Q : PV → Ms → Prop, Ret (a env S) Q = Q (iv w) S) (h : D.nx env (S.set n (.lst (ivs (step p w))))) : RetS (sPut m a (mSub m (mSub m a)) env S) D := by
  simp only [q_put, r_m2, hm, ha]
  rw [r_sub1 (Sq.loc g) (sq_at hw), r_sub1 (Sq.loc g) (sq_at (getD_lt hs hw)), hm]
  simp only [ha]
  refine ⟨_, r_put g (by omega) (by rw [Int.toNat_natCast, List.length_map]; exact hw), ?_⟩
  rw [Int.toNat_natCast, ivs_set]
  exact h
theorem called_all_ok {S : Ms} {st wd : PV} {ps ws : List Nat} (h : Sq S st (ivs ps)) (hd : Sq S wd (ivs ws)) (hs : Sta ps) (hw : ∀ w ∈ ws, w < ps.length) (hl : ws.length ≤ 1000000) :
    Ret (P_called_all [st, wd] S) fun v S' => v = tpv (run ps ws) ∧ Fr [] S S' := by
  unfold P_called_all
  simp only [r_fn, List.map, List.replicate, List.cons_append, List.nil_append, q_seq, q_if, q_next, q_of, q_toSO, gNm, Option.some.injEq, exists_eq_left', q_put, List.set, r_m2, r_m1, r_v0, r_vs, r_C, r_L, r_cons, r_nil, r_cl1, r_cl2, r_cl3, rets_rt, rets_nx, r_B, r_T, r_asB, r_cmp, r_add, r_sub, q_for, i_of, i_rg, i_st, q_par, r_mIf, r_bYes, r_mLc]
  refine (look_people_ok h hd hw (by omega)).mono fun u S1 ⟨_, hS⟩ => ?_
  subst hS
  rw [r_listOf h]
  have hd1 : Sq (S1 ++ [Ob.lst (ivs ps)]) wd (ivs ws) := hd.fr (Fr.app [] _ _) Off.nil
  obtain ⟨s, h1, h2⟩ := src_sq hd1
  refine ⟨s, h1, ?_⟩
  refine called_loop (n := S1.length) (f := fun x => [some st, some wd, some (.loc S1.length), x]) (get_new _ _) hd1 (Off.old hd (Nat.le_refl _)) hs hw hl rfl (fun _ _ => rfl) h2 (fun w p S' D g hs' hw' hD => put_step g hs' hw' (fun Q => by simp only [r_fn, List.map, List.replicate, List.cons_append, List.nil_append, q_seq, q_if, q_next, q_of, q_toSO, gNm, Option.some.injEq, exists_eq_left', q_put, List.set, r_m2, r_m1, r_v0, r_vs, r_C, r_L, r_cons, r_nil, r_cl1, r_cl2, r_cl3, rets_rt, rets_nx, r_B, r_T, r_asB, r_cmp, r_add, r_sub, q_for, i_of, i_rg, i_st, q_par, r_mIf, r_bYes, r_mLc]) (fun Q => by simp only [r_fn, List.map, List.replicate, List.cons_append, List.nil_append, q_seq, q_if, q_next, q_of, q_toSO, gNm, Option.some.injEq, exists_eq_left', q_put, List.set, r_m2, r_m1, r_v0, r_vs, r_C, r_L, r_cons, r_nil, r_cl1, r_cl2, r_cl3, rets_rt, rets_nx, r_B, r_T, r_asB, r_cmp, r_add, r_sub, q_for, i_of, i_rg, i_st, q_par, r_mIf, r_bYes, r_mLc]) hD) fun x S' g1 g2 => ?_
  simp only [r_fn, List.map, List.replicate, List.cons_append, List.nil_append, q_seq, q_if, q_next, q_of, q_toSO, gNm, Option.some.injEq, exists_eq_left', q_put, List.set, r_m2, r_m1, r_v0, r_vs, r_C, r_L, r_cons, r_nil, r_cl1, r_cl2, r_cl3, rets_rt, rets_nx, r_B, r_T, r_asB, r_cmp, r_add, r_sub, q_for, i_of, i_rg, i_st, q_par, r_mIf, r_bYes, r_mLc]
  rw [r_tupOf (Sq.loc g1)]
  exact ⟨rfl, (Fr.app [] S1 _).drop (n := S1.length) g2 (Nat.le_refl _)⟩
end MP

set_option maxRecDepth 100000
namespace MP
open PySem PySem.Spec PyProof.Rows L2
theorem g_three {i j k : Nat} {a b c : PV} {e : Env'} : gTp 2 (gCn (gNm i) (gCn (gTp 2 (gCn (gNm j) (gCn (gNm k) gNl))) gNl)) (.tup [a, .tup [b, c]]) e = some (((e.set i (some a)).set j (some b)).set k (some c)) := by
  simp [gTp, gCn, gNm, gNl]
theorem range_get {α : Type} {n i : Nat} {f : Nat → α} {v : α} (h : ((List.range n).map f)[i]? = some v) : i < n ∧ v = f i := by
  rw [List.getElem?_map] at h
  by_cases hk : i < n
  · rw [List.getElem?_range hk] at h; cases h; exact ⟨hk, rfl⟩
  · rw [List.getElem?_eq_none (by simp; omega)] at h; cases h
theorem range_at {α : Type} {n i : Nat} {f : Nat → α} : ((List.range n).map f)[i]? = if i < n then some (f i) else none := by
  rw [List.getElem?_map]
  by_cases hk : i < n
  · rw [List.getElem?_range hk, if_pos hk]; rfl
  · rw [List.getElem?_eq_none (by simp; omega), if_neg hk]; rfl
theorem ez_of {S : Ms} {n m : Nat} {xs ys : List PV} (h1 : S[n]? = some (.lst xs)) (h2 : S[m]? = some (.lst ys)) : ezOf S [.loc n, .loc m] = some (.ezL n m) := by simp [ezOf, rdL, h1, h2]
theorem idle_calls_ok {S : Ms} {st wd : PV} {ps ws : List Nat} (h : Sq S st (ivs ps)) (hd : Sq S wd (ivs ws)) (hs : Sta ps) (hw : ∀ w ∈ ws, w < ps.length) (hp : ps.length ≤ 1000000) (hl : ws.length ≤ 1000000) :
    Ret (P_idle_calls [st, wd] S) fun v S' => NewL S v (ivs (idl 0 ps ws)) S' ∧ Fr [] S S' := by
  unfold P_idle_calls
  simp only [r_fn, List.map, List.replicate, List.cons_append, List.nil_append, q_seq, q_if, q_next, q_of, q_toSO, gNm, Option.some.injEq, exists_eq_left', q_put, List.set, r_m2, r_m1, r_v0, r_vs, r_C, r_L, r_cons, r_nil, r_cl1, r_cl2, r_cl3, rets_rt, rets_nx, r_B, r_T, r_asB, r_cmp, r_add, r_sub, q_for, i_of, i_rg, i_st, q_par, r_mIf, r_bYes, r_mLc]
  refine (states_along_ok h hd hs hw hp hl).mono fun u S1 ⟨⟨a, hu, ha, haS⟩, hf1⟩ => ?_
  subst hu
  simp only [r_cut, r_onlyI, r_fn, List.map, List.replicate, List.cons_append, List.nil_append, q_seq, q_if, q_next, q_of, q_toSO, gNm, Option.some.injEq, exists_eq_left', q_put, List.set, r_m2, r_m1, r_v0, r_vs, r_C, r_L, r_cons, r_nil, r_cl1, r_cl2, r_cl3, rets_rt, rets_nx, r_B, r_T, r_asB, r_cmp, r_add, r_sub, q_for, i_of, i_rg, i_st, q_par, r_mIf, r_bYes, r_mLc, PV.int.injEq, exists_eq_left', partI_int, partI_non, r_cutL haS]
  have e1 : cutP ((alng ps ws).map tpv) (some (1 : Int)) none = ((alng ps ws).map tpv).drop 1 := cut_from _ 1
  rw [e1]
  have hal := lt_of_get haS
  have ga : (S1 ++ [Ob.lst (((alng ps ws).map tpv).drop 1)])[a]? = some (.lst ((alng ps ws).map tpv)) := by rw [List.getElem?_append_left hal]; exact haS
  have gb := get_new S1 (Ob.lst (((alng ps ws).map tpv).drop 1))
  have hz : ezOf (S1 ++ [Ob.lst (((alng ps ws).map tpv).drop 1)]) [.loc a, .loc S1.length] = some (.ezL a S1.length) := ez_of ga gb
  refine ⟨_, hz, ?_⟩
  have hf2 := hf1.trans (Fr.app [] S1 [Ob.lst (((alng ps ws).map tpv).drop 1)])
  have l2 : (S1 ++ [Ob.lst (((alng ps ws).map tpv).drop 1)]).length = S1.length + 1 := by simp
  generalize hS2 : S1 ++ [Ob.lst (((alng ps ws).map tpv).drop 1)] = S2 at *
  have hrl : ∀ i, (run ps (ws.take i)).length = ps.length := fun i => run_len
  refine r_lc ((List.range ws.length).map fun (i : Nat) => .tup [.int i, .tup [tpv (run ps (ws.take i)), tpv (run ps (ws.take (i + 1)))]]) (by rw [List.length_map, List.length_range]; exact Nat.le_of_lt (lim_of (by omega))) (fun i acc S' => Fr [S2.length] (S2 ++ [Ob.lst []]) S' ∧ S'[S2.length]? = some (.lst acc) ∧ acc = ivs (idl 0 ps (ws.take i))) ⟨.refl _ _, get_new _ _, rfl⟩ ?_ ?_ ?_
  · rintro i acc S' ⟨f1, f2, rfl⟩
    refine ⟨?_, f2⟩
    have g1 : S'[a]? = some (.lst ((alng ps ws).map tpv)) := f1.get (by rw [List.getElem?_append_left (by omega)]; exact ga) (by simp; omega)
    have g2 : S'[S1.length]? = some (.lst (((alng ps ws).map tpv).drop 1)) := f1.get (by rw [List.getElem?_append_left (by omega)]; exact gb) (by simp; omega)
    simp only [nxt, rdL, g1, g2]
    rw [range_at, List.getElem?_map, List.getElem?_drop, List.getElem?_map, Nat.add_comm 1 i]
    by_cases hi : i < ws.length
    · rw [if_pos hi, alng_get (by omega), alng_get (by omega)]; rfl
    · rw [if_neg hi, List.getElem?_eq_none (i := i + 1) (by rw [alng_len]; omega)]
      cases ((alng ps ws)[i]?) <;> rfl
  · rintro i v acc S' hv ⟨f1, f2, rfl⟩ _
    obtain ⟨hi, rfl⟩ := range_get hv
    refine ⟨_, g_three, ?_⟩
    simp only [wipeE, r_fn, List.map, List.replicate, List.cons_append, List.nil_append, q_seq, q_if, q_next, q_of, q_toSO, gNm, Option.some.injEq, exists_eq_left', q_put, List.set, r_m2, r_m1, r_v0, r_vs, r_C, r_L, r_cons, r_nil, r_cl1, r_cl2, r_cl3, rets_rt, rets_nx, r_B, r_T, r_asB, r_cmp, r_add, r_sub, q_for, i_of, i_rg, i_st, q_par, r_mIf, r_bYes, r_mLc]
    rw [r_eq (Rd.itup _ (by rw [hrl]; omega)) (Rd.itup _ (by rw [hrl]; omega)), eqv_itup]
    simp only [r_fn, List.map, List.replicate, List.cons_append, List.nil_append, q_seq, q_if, q_next, q_of, q_toSO, gNm, Option.some.injEq, exists_eq_left', q_put, List.set, r_m2, r_m1, r_v0, r_vs, r_C, r_L, r_cons, r_nil, r_cl1, r_cl2, r_cl3, rets_rt, rets_nx, r_B, r_T, r_asB, r_cmp, r_add, r_sub, q_for, i_of, i_rg, i_st, q_par, r_mIf, r_bYes, r_mLc]
    rw [run_take hi]
    have e2 : ws.take (i + 1) = ws.take i ++ [ws[i]] := by rw [List.take_add_one, List.getElem?_eq_getElem hi]; rfl
    rw [e2, idl_snoc]
    have e3 : (ws.take i).length = i := by rw [List.length_take]; omega
    by_cases hq : run ps (ws.take i) = step (run ps (ws.take i)) ws[i]
    · rw [if_pos (by simpa using hq), if_pos hq.symm, e3, Nat.zero_add]
      exact ⟨f2, f1.setN (.inl (by simp)), by rw [get_set f2], by simp [ivs]⟩
    · rw [if_neg (by simpa using hq), if_neg (fun z => hq z.symm), List.append_nil]
      exact ⟨f1, f2, rfl⟩
  · rintro acc S' ⟨f1, f2, rfl⟩
    rw [List.length_map, List.length_range, List.take_length] at f2
    have := hf1.len
    exact ⟨⟨_, rfl, by omega, f2⟩, (hf2.trans (Fr.app [] S2 _)).drop (n := S2.length) (f1.mono (by simp)) (by omega)⟩
/-! ### the law's own -/
variable {T : List PV → Ms → Out PV}
def Mshouted : List PV → Ms → Out PV := mFn 2 (sSeq (sSet 2 (mL (mCons (mVar 0) mNil) oListOf))
  (sSeq (sFor (iOf (mVar 1)) (gNm 3)
  (sPut (mVar 2) (mVar 3) (mSub (mVar 2) (mSub (mVar 2) (mVar 3)))))
  (sRet (mL (mCons (mVar 2) mNil) oTupOf))))
theorem shouted_ok {S : Ms} {st wd : PV} {ps ws : List Nat} (h : Sq S st (ivs ps)) (hd : Sq S wd (ivs ws)) (hs : Sta ps) (hw : ∀ w ∈ ws, w < ps.length) (hl : ws.length ≤ 1000000) :
    Ret (Mshouted [st, wd] S) fun v S' => v = tpv (run ps ws) ∧ Fr [] S S' := by
  unfold Mshouted
  simp only [r_fn, List.map, List.replicate, List.cons_append, List.nil_append, q_seq, q_if, q_next, q_of, q_toSO, gNm, Option.some.injEq, exists_eq_left', q_put, List.set, r_m2, r_m1, r_v0, r_vs, r_C, r_L, r_cons, r_nil, r_cl1, r_cl2, r_cl3, rets_rt, rets_nx, r_B, r_T, r_asB, r_cmp, r_add, r_sub, q_for, i_of, i_rg, i_st, q_par, r_mIf, r_bYes, r_mLc]
  rw [r_listOf h]
  have hd1 : Sq (S ++ [Ob.lst (ivs ps)]) wd (ivs ws) := hd.fr (Fr.app [] _ _) Off.nil
  obtain ⟨s, h1, h2⟩ := src_sq hd1
  refine ⟨s, h1, ?_⟩
  refine called_loop (n := S.length) (f := fun x => [some st, some wd, some (.loc S.length), x]) (get_new _ _) hd1 (Off.old hd (Nat.le_refl _)) hs hw hl rfl (fun _ _ => rfl) h2 (fun w p S' D g hs' hw' hD => put_step g hs' hw' (fun Q => by simp only [r_fn, List.map, List.replicate, List.cons_append, List.nil_append, q_seq, q_if, q_next, q_of, q_toSO, gNm, Option.some.injEq, exists_eq_left', q_put, List.set, r_m2, r_m1, r_v0, r_vs, r_C, r_L, r_cons, r_nil, r_cl1, r_cl2, r_cl3, rets_rt, rets_nx, r_B, r_T, r_asB, r_cmp, r_add, r_sub, q_for, i_of, i_rg, i_st, q_par, r_mIf, r_bYes, r_mLc]) (fun Q => by simp only [r_fn, List.map, List.replicate, List.cons_append, List.nil_append, q_seq, q_if, q_next, q_of, q_toSO, gNm, Option.some.injEq, exists_eq_left', q_put, List.set, r_m2, r_m1, r_v0, r_vs, r_C, r_L, r_cons, r_nil, r_cl1, r_cl2, r_cl3, rets_rt, rets_nx, r_B, r_T, r_asB, r_cmp, r_add, r_sub, q_for, i_of, i_rg, i_st, q_par, r_mIf, r_bYes, r_mLc]) hD) fun x S' g1 g2 => ?_
  simp only [r_fn, List.map, List.replicate, List.cons_append, List.nil_append, q_seq, q_if, q_next, q_of, q_toSO, gNm, Option.some.injEq, exists_eq_left', q_put, List.set, r_m2, r_m1, r_v0, r_vs, r_C, r_L, r_cons, r_nil, r_cl1, r_cl2, r_cl3, rets_rt, rets_nx, r_B, r_T, r_asB, r_cmp, r_add, r_sub, q_for, i_of, i_rg, i_st, q_par, r_mIf, r_bYes, r_mLc]
  rw [r_tupOf (Sq.loc g1)]
  exact ⟨rfl, (Fr.app [] S _).drop (n := S.length) g2 (Nat.le_refl _)⟩
def Mcries (T : List PV → Ms → Out PV) : List PV → Ms → Out PV := mFn 1 (sRet (mLc (iRg rng1 (mCons (mL (mCons (mVar 0) (mCons (m2 (mVar 2) (mC (.int 1)) oAdd) mNil)) (cl 2 T)) mNil)) (gNm 3) bYes (mL (mCons (mVar 0) (mCons (mVar 1) mNil)) (cl 2 T)) [3]))
theorem cries_ok (hT : TakeOk T) {b : Nat} {S : Ms} {c : Int} {n most : Nat} (hb : Box b S c) (hc : c + most + 2 < 1099511627776) (h0 : 1 ≤ n) (hn : n ≤ 1000000) (hm : most ≤ 1000000) :
    Ret (Mcries T [.loc b, .int (n : Nat), .int (most : Nat)] S) fun v S' => ∃ ws : List Nat, NewL S v (ivs ws) S' ∧ ws.length ≤ most ∧ (∀ w ∈ ws, w < n) ∧ Drew b S c (most + 1) S' := by
  unfold Mcries
  simp only [r_fn, List.map, List.replicate, List.cons_append, List.nil_append, q_seq, q_if, q_next, q_of, q_toSO, gNm, Option.some.injEq, exists_eq_left', q_put, List.set, r_m2, r_m1, r_v0, r_vs, r_C, r_L, r_cons, r_nil, r_cl1, r_cl2, r_cl3, rets_rt, rets_nx, r_B, r_T, r_asB, r_cmp, r_add, r_sub, q_for, i_of, i_rg, i_st, q_par, r_mIf, r_bYes, r_mLc, iv_addr]
  refine (hT b S c (most + 1) hb (by omega) (by omega) (by omega)).mono fun u S1 ⟨t, hu, ht, hd⟩ => ?_
  subst hu
  obtain ⟨hf1, c1, q1, q2, hb1⟩ := hd
  have hbl := hb1.lt
  refine ⟨_, rng1_ok (by omega), ?_⟩
  rw [Int.toNat_natCast]
  refine r_lc ((List.range t).map iv) (by rw [List.length_map, List.length_range]; exact Nat.le_of_lt (lim_of (by omega))) (fun i acc S' => ∃ (ws : List Nat) (c' : Int), acc = ivs ws ∧ ws.length = i ∧ (∀ w ∈ ws, w < n) ∧ S'[S1.length]? = some (.lst acc) ∧ c ≤ c' ∧ c' ≤ c + i + 1 ∧ Box b S' c' ∧ Fr [b] S S') ⟨[], c1, rfl, rfl, by simp, get_new _ _, q1, by omega, hb1.fr (.app [] _ _) (by simp), hf1.trans (.app _ _ _)⟩ ?_ ?_ ?_
  · rintro i acc S' ⟨ws, c', rfl, g1, g2, g3, g4, g5, g6, g7⟩
    exact ⟨by rw [rng_nx, List.getElem?_map], g3⟩
  · rintro i v acc S' hv ⟨ws, c', rfl, g1, g2, g3, g4, g5, g6, g7⟩ _
    obtain ⟨hi, rfl⟩ := range_get hv
    refine ⟨_, rfl, ?_⟩
    simp only [wipeE, r_fn, List.map, List.replicate, List.cons_append, List.nil_append, q_seq, q_if, q_next, q_of, q_toSO, gNm, Option.some.injEq, exists_eq_left', q_put, List.set, r_m2, r_m1, r_v0, r_vs, r_C, r_L, r_cons, r_nil, r_cl1, r_cl2, r_cl3, rets_rt, rets_nx, r_B, r_T, r_asB, r_cmp, r_add, r_sub, q_for, i_of, i_rg, i_st, q_par, r_mIf, r_bYes, r_mLc, if_true]
    refine (hT b S' c' n g6 (by omega) h0 (by omega)).mono fun u S2 ⟨x, hu, hx, hd⟩ => ?_
    subst hu
    obtain ⟨f2, c2, r1, r2, hb2⟩ := hd
    have g3' := f2.get g3 (by simp; omega)
    exact ⟨g3', ws ++ [x], c2, by simp [ivs], by simp [g1], all_snoc g2 hx, get_set g3', by omega, by omega, hb2.fr (.set (ms := [S1.length]) _ _ (.inl (by simp))) (by simp; omega), (g7.trans f2).setN (.inr hf1.len)⟩
  · rintro acc S' ⟨ws, c', rfl, g1, g2, g3, g4, g5, g6, g7⟩
    simp only [List.length_map, List.length_range] at g1 g5
    exact ⟨ws, ⟨_, rfl, hf1.len, g3⟩, by omega, g2, g7, c', g4, by omega, g6⟩
end MP

set_option maxRecDepth 100000
namespace MP
open PySem PySem.Spec PyProof.Rows L2
/-! ### repr of sequences of small numbers -/
theorem wt_all : ∀ {ns : List Nat}, (∀ x ∈ ns, x < 1000000000000) → PyData.weightAll (dvs ns) ≤ 41 * ns.length ∧ PyData.intsShortAll 13 (dvs ns) = true ∧ PyData.showableAll (dvs ns) = true
  | [], _ => ⟨Nat.zero_le _, rfl, rfl⟩
  | n :: ns, h => by
    obtain ⟨h1, h2, h3⟩ := wt_all (ns := ns) fun x hx => h x (by simp [hx])
    have hn := h n (by simp)
    have hlog : ((n : Int).natAbs).log2 < 40 := by
      rw [Int.natAbs_natCast]
      by_cases z : n = 0
      · subst z; decide
      · exact (Nat.log2_lt z).mpr (by omega)
    refine ⟨?_, ?_, ?_⟩
    · show PyData.weight (dv n) + 1 + PyData.weightAll (dvs ns) ≤ _
      have hw : PyData.weight (dv n) ≤ 40 := by
        simp only [dv, PyData.weight]
        split <;> omega
      simp only [List.length_cons]; omega
    · show (PyData.intsShort 13 (dv n) && PyData.intsShortAll 13 (dvs ns)) = true
      rw [h2, Bool.and_true]
      simp only [dv, PyData.intsShort]
      refine decide_eq_true ?_
      show (Str.ofString (toString (n : Int))).length ≤ 13
      rw [PySem.ofString_length]
      exact int_text_length_le10 (k := 12) (by decide) (by rw [Int.natAbs_natCast]; omega)
    · show (PyData.showable (dv n) && PyData.showableAll (dvs ns)) = true
      rw [h3, Bool.and_true]
      exact decide_eq_true (by omega)
theorem Fr.get0 {S S' : Ms} {v : PV} {xs : List PV} (h : Sq S v xs) (f : Fr [] S S') : Sq S' v xs := h.fr f Off.nil
theorem cut_sq {S : Ms} {v : PV} {xs : List PV} {lo hi : Option Int} (h : Sq S v xs) : Ret (oCut v lo hi S) fun w S' => Sq S' w (cutP xs lo hi) ∧ Fr [] S S' := by
  cases v with
  | tup ys => cases h; exact ⟨rfl, .refl _ _⟩
  | rol ys => cases h; exact ⟨Sq.loc (get_new _ _), .app _ _ _⟩
  | loc n => rw [r_cutL h.at]; exact ⟨Sq.loc (get_new _ _), .app _ _ _⟩
  | non => cases h
  | bl b => cases h
  | int i => cases h
  | str s => cases h
theorem with_pointer_okS {S : Ms} {st : PV} {ps : List Nat} {w t : Nat} (h : Sq S st (ivs ps)) (hw : w < ps.length) (hl : ps.length ≤ 10000000) : Ret (P_with_pointer [st, .int (w : Nat), .int (t : Nat)] S) fun v S' => v = .tup (ivs (ps.set w t)) ∧ Fr [] S S' := by
  unfold P_with_pointer
  simp only [r_fn, List.map, List.replicate, List.cons_append, List.nil_append, q_seq, q_if, q_next, q_of, q_toSO, gNm, Option.some.injEq, exists_eq_left', q_put, List.set, r_m2, r_m1, r_v0, r_vs, r_C, r_L, r_cons, r_nil, r_cl1, r_cl2, r_cl3, rets_rt, rets_nx, r_B, r_T, r_asB, r_cmp, r_add, r_sub, q_for, i_of, i_rg, i_st, q_par, r_mIf, r_bYes, r_mLc, r_bOr, r_bAnd, r_bNot, r_mAnd, r_mOr, r_mNot, r_truthB, r_isN, r_cut, r_onlyI, PV.int.injEq, exists_eq_left', partI_int, partI_non]
  refine (cut_sq h).mono fun u S1 ⟨hu, f1⟩ => ?_
  rw [cut_to, ivs_take] at hu
  have l1 := lim_of hl
  rw [r_tupOf hu, r_tup (by show 1 ≤ lim; decide), r_addT (by simp; omega)]
  refine (cut_sq (h.fr f1 Off.nil)).mono fun u S2 ⟨hu2, f2⟩ => ?_
  rw [show ((w : Int) + 1) = ((w + 1 : Nat) : Int) from rfl, cut_from, ivs_drop] at hu2
  rw [r_tupOf hu2, r_addT (by simp; omega)]
  refine ⟨?_, f1.trans f2⟩
  rw [List.set_eq_take_append_cons_drop, if_pos hw]
  simp [ivs]
theorem after_call_okS {S : Ms} {st : PV} {ps : List Nat} {w : Nat} (h : Sq S st (ivs ps)) (hs : Sta ps) (hw : w < ps.length) (hl : ps.length ≤ 10000000) : Ret (P_after_call [st, .int (w : Nat)] S) fun v S' => v = .tup (ivs (step ps w)) ∧ Fr [] S S' := by
  unfold P_after_call
  simp only [r_fn, List.map, List.replicate, List.cons_append, List.nil_append, q_seq, q_if, q_next, q_of, q_toSO, gNm, Option.some.injEq, exists_eq_left', q_put, List.set, r_m2, r_m1, r_v0, r_vs, r_C, r_L, r_cons, r_nil, r_cl1, r_cl2, r_cl3, rets_rt, rets_nx, r_B, r_T, r_asB, r_cmp, r_add, r_sub, q_for, i_of, i_rg, i_st, q_par, r_mIf, r_bYes, r_mLc, r_bOr, r_bAnd, r_bNot, r_mAnd, r_mOr, r_mNot, r_truthB, r_isN]
  rw [r_sub1 h (sq_at hw), r_sub1 h (sq_at (getD_lt hs hw))]
  exact with_pointer_okS h hw hl
def P_called : List PV → Ms → Out PV := mFn 0 (sSeq (sDrop (mL (mCons (mVar 0) (mCons (mVar 1) mNil)) (cl 2 P_look_person)))
  (sRet (mL (mCons (mVar 0) (mCons (mVar 1) mNil)) (cl 2 P_after_call))))
theorem called_ok {S : Ms} {st : PV} {ps : List Nat} {w : Nat} (h : Sq S st (ivs ps)) (hs : Sta ps) (hw : w < ps.length) (hl : ps.length ≤ 10000000) : Ret (P_called [st, .int (w : Nat)] S) fun v S' => v = .tup (ivs (step ps w)) ∧ Fr [] S S' := by
  unfold P_called
  simp only [r_fn, List.map, List.replicate, List.cons_append, List.nil_append, q_seq, q_if, q_next, q_of, q_toSO, gNm, Option.some.injEq, exists_eq_left', q_put, List.set, r_m2, r_m1, r_v0, r_vs, r_C, r_L, r_cons, r_nil, r_cl1, r_cl2, r_cl3, rets_rt, rets_nx, r_B, r_T, r_asB, r_cmp, r_add, r_sub, q_for, i_of, i_rg, i_st, q_par, r_mIf, r_bYes, r_mLc, r_bOr, r_bAnd, r_bNot, r_mAnd, r_mOr, r_mNot, r_truthB, r_isN]
  refine (look_person_ok h hw).mono fun u S1 ⟨_, hS⟩ => ?_
  subst hS
  exact after_call_okS h hs hw hl
theorem Sq.isSeq {S : Ms} {v : PV} {xs : List PV} (h : Sq S v xs) : isSeq v = true := by cases v <;> first | rfl | cases h
theorem r_reprD {S : Ms} {v : PV} {d : PyData} {Q : PV → Ms → Prop} (hq : isSeq v = true) (h : Rd S 12 v d) (hw : PyData.weight d ≤ 1048576) (hs : PyData.intsShort 13 d = true) (hsh : d.showable = true) : Ret (oRepr [v] S) Q = Q (.str d.shown) S := by
  have s1 : SeqAt.shaped d = true := by unfold SeqAt.shaped; rw [h.lay]; simp; have := h.dep; omega
  have hl : d.layable0 = true := by
    unfold PyData.layable0
    rw [h.lay]
    simp only [Bool.true_and, Bool.and_eq_true, decide_eq_true_eq]
    exact ⟨by have := h.dep; omega, by omega⟩
  have hlen : d.shown.length ≤ lim := Nat.le_trans (shown_le13 hl hs) (by decide)
  simp only [oRepr, hq, h.toD]
  rw [if_pos (by simp [s1, hsh, hlen])]
  rfl
theorem r_reprT {S : Ms} {ns : List Nat} {Q : PV → Ms → Prop} (hb : ns.length ≤ 10000) (h : ∀ x ∈ ns, x < 1000000000000) : Ret (oRepr [.tup (ivs ns)] S) Q = Q (.str (PyData.shown (.tuple (dvs ns)))) S := by
  obtain ⟨h1, h2, h3⟩ := wt_all h
  exact r_reprD rfl (Rd.itup ns (by omega)) (by show PyData.weightAll (dvs ns) ≤ _; omega) h2 h3
theorem r_reprL {S : Ms} {n : Nat} {ns : List Nat} {Q : PV → Ms → Prop} (e : S[n]? = some (.lst (ivs ns))) (hb : ns.length ≤ 10000) (h : ∀ x ∈ ns, x < 1000000000000) : Ret (oRepr [.loc n] S) Q = Q (.str (PyData.shown (.list (dvs ns)))) S := by
  obtain ⟨h1, h2, h3⟩ := wt_all h
  exact r_reprD rfl (Rd.ilst e (by omega)) (by show PyData.weightAll (dvs ns) ≤ _; omega) h2 h3
/-! texts that are plain -/
theorem ok_app {a b : Str} (ha : PyData.strOk a = true) (hb : PyData.strOk b = true) : PyData.strOk (a ++ b) = true := by
  show (a.cps ++ b.cps).all _ = true
  rw [Array.all_append]; exact Bool.and_eq_true_iff.mpr ⟨ha, hb⟩
theorem ok_of (s : String) : PyData.strOk (Str.ofString s) = true := by
  rw [Str.ofString_eq_toList]
  unfold PyData.strOk
  simp only [List.all_toArray]
  rw [List.all_eq_true]
  intro x hx
  obtain ⟨c, _, rfl⟩ := List.mem_map.mp hx
  have := c.valid
  simp only [decide_eq_true_eq]
  rcases this with h | h
  · exact Nat.lt_trans h (by decide)
  · exact h.2
theorem ok_join {sep : Str} (hs : PyData.strOk sep = true) : ∀ {xs : List Str}, (∀ x ∈ xs, PyData.strOk x = true) → PyData.strOk (Str.join sep xs) = true
  | [], _ => by simp [Str.join, Str.empty, PyData.strOk]
  | [x], h => h x (by simp)
  | x :: y :: r, h => by
    show PyData.strOk (x ++ sep ++ Str.join sep (y :: r)) = true
    exact ok_app (ok_app (h x (by simp)) hs) (ok_join hs fun z hz => h z (by simp [hz]))
theorem shown_dvs : ∀ (ns : List Nat), ∀ x ∈ PyData.shownAll (dvs ns), PyData.strOk x = true
  | [], x, h => by cases h
  | n :: ns, x, h => by
    have h : x ∈ PyData.shown (dv n) :: PyData.shownAll (dvs ns) := h
    rcases List.mem_cons.mp h with z | z
    · rw [z]; exact ok_of _
    · exact shown_dvs ns x z
theorem ok_textFrom : ∀ {xs : List Str} {k : Nat} {acc : Str}, PyData.strOk acc = true → (∀ x ∈ xs, PyData.strOk x = true) → PyData.strOk (textFrom k acc xs) = true
  | [], k, acc, ha, _ => ha
  | x :: r, k, acc, ha, h => by
    show PyData.strOk (textFrom (k + 1) (acc ++ (if k > 0 then ", " else "" : String) ++ x) r) = true
    exact ok_textFrom (ok_app (ok_app ha (ok_of _)) (h x (by simp))) fun z hz => h z (by simp [hz])
theorem okT (ns : List Nat) : PyData.canLay0 (.str (PyData.shown (.tuple (dvs ns)))) = true := by
  show PyData.strOk (tupleText (PyData.shownAll (dvs ns))) = true
  exact ok_app (ok_app (ok_of _) (ok_join (ok_of _) (shown_dvs ns))) (ok_of _)
theorem okL (ns : List Nat) : PyData.canLay0 (.str (PyData.shown (.list (dvs ns)))) = true := by
  show PyData.strOk (listText (PyData.shownAll (dvs ns))) = true
  exact ok_app (ok_textFrom (ok_of _) (shown_dvs ns)) (ok_of _)
theorem r_eqS {S : Ms} {s t : Str} {Q : PV → Ms → Prop} (h1 : PyData.canLay0 (.str s) = true) (h2 : PyData.canLay0 (.str t) = true) : Ret (oEq (.str s) (.str t) S) Q = Q (.bl (s == t)) S := by
  rw [r_eq (.str s h1) (.str t h2)]; simp only [PyData.eqv]
theorem r_neS {S : Ms} {s t : Str} {Q : PV → Ms → Prop} (h1 : PyData.canLay0 (.str s) = true) (h2 : PyData.canLay0 (.str t) = true) : Ret (oNe (.str s) (.str t) S) Q = Q (.bl (!(s == t))) S := by
  rw [r_ne (.str s h1) (.str t h2)]; simp only [PyData.eqv]
end MP

set_option maxRecDepth 100000
namespace MP
open PySem PySem.Spec PyProof.Rows L2
theorem r_reverse {S : Ms} {n : Nat} {xs : List PV} {Q : PV → Ms → Prop} (h : S[n]? = some (.lst xs)) : Ret (oReverse (.loc n) [] S) Q = Q .non (S.set n (.lst xs.reverse)) := by simp [oReverse, h, Ret]
theorem flatPs_ivs : ∀ ns : List Nat, flatPs (ivs ns) = some (ns.map fun (n : Nat) => V.int n)
  | [] => rfl
  | n :: ns => by
    show flatPs (PV.int n :: ivs ns) = _
    unfold flatPs
    rw [flatPs_ivs ns]; rfl
theorem r_notIn {S : Ms} {n i : Nat} {ns : List Nat} {Q : PV → Ms → Prop} (h : S[n]? = some (.lst (ivs ns))) : Ret (oNotIn (.int (i : Nat)) (.loc n) S) Q = Q (.bl (!decide (i ∈ ns))) S := by
  have e : inSeq S (.int (i : Nat)) (.loc n) = some (decide (i ∈ ns)) := by
    have e1 : itemsOf S (.loc n) = some (ivs ns) := Sq.loc h
    simp only [inSeq, e1, flatP, flatPs_ivs]
    congr 1
    rw [Bool.eq_iff_iff]
    simp [inV, eqV]
    exact ⟨fun ⟨x, hx, e⟩ => by have : x = i := by omega
                                rw [← this]; exact hx, fun hx => ⟨i, hx, rfl⟩⟩
  have e2 : isDict S (.loc n) = false := isDict_lst h
  simp only [oNotIn, oSel, e2, oNotInS, e]
  rfl
theorem nat_beq {a b : Nat} : (((a : Int) == (b : Int)) = true) ↔ a = b := by rw [beq_iff_eq]; omega
theorem g_tup3 {i j k : Nat} {a b c : PV} {e : Env'} : gTp 3 (gCn (gNm i) (gCn (gNm j) (gCn (gNm k) gNl))) (.tup [a, b, c]) e = some (((e.set i (some a)).set j (some b)).set k (some c)) := by
  simp [gTp, gCn, gNm, gNl]
theorem idl_len : ∀ (ws : List Nat) (k : Nat) (ps : List Nat), (idl k ps ws).length ≤ ws.length := by
  intro ws
  induction ws with
  | nil => intro k ps; exact Nat.le_refl _
  | cons w ws ih => intro k ps; simp only [idl, List.length_append, List.length_cons]; have := ih (k + 1) (step ps w); split <;> simp <;> omega
theorem enm_range {S : Ms} {n : Nat} {ws : List Nat} (h : S[n]? = some (.lst (ivs ws))) (i : Nat) : nxt S i (.enm n) = nxO (((List.range ws.length).map fun (i : Nat) => PV.tup [.int i, iv (ws.getD i 0)])[i]?) := by
  rw [enm_nx h, ivs_get, range_at]
  by_cases hk : i < ws.length
  · rw [if_pos hk, List.getElem?_eq_getElem hk]
    simp [List.getD_eq_getElem?_getD, List.getElem?_eq_getElem hk]
  · rw [if_neg hk, List.getElem?_eq_none (by omega)]; rfl
theorem getD_at {ws : List Nat} {i : Nat} (h : i < ws.length) : ws.getD i 0 = ws[i] := by
  rw [List.getD_eq_getElem?_getD, List.getElem?_eq_getElem h]; rfl
theorem rd2 {S : Ms} {k n : Nat} {x y : PV} {d e : PyData} (h : S[n]? = some (.lst [x, y])) (h1 : Rd S k x d) (h2 : Rd S k y e) : Rd S (k + 1) (.loc n) (.list [d, e]) :=
  .lst h (by simp) rfl fun i a b p q => by
    match i, p, q with
    | 0, p, q => cases p; cases q; exact h1
    | 1, p, q => cases p; cases q; exact h2
end MP

set_option maxRecDepth 100000
namespace MP
open PySem PySem.Spec PyProof.Rows L2
/-- a box is drawn from; all is right -/
def RightB (R : List PV → Ms → Out PV) (m : Int) : Prop := ∀ (b : Nat) (S : Ms) (c : Int), Box b S c → c + m < 1099511627776 → Ret (R [.loc b] S) fun v S' => v = .bl true ∧ Drew b S c m S'
theorem RightB.mono {R : List PV → Ms → Out PV} {m m' : Int} (h : RightB R m) (hm : m ≤ m') : RightB R m' := fun b S c hb hc =>
  (h b S c hb (by omega)).mono fun v S' ⟨e, f, c', h1, h2, h3⟩ => ⟨e, f, c', h1, by omega, h3⟩
def Mlaw3 (R : List PV → Ms → Out PV) : List PV → Ms → Out PV := mFn 4 (sSeq (sSet 1 (mL (mCons (mVar 0) (mCons (mC (.int 3)) mNil)) (cl 2 Mcells)))
  (sSeq (sFor (iRg rng1 (mCons (mL (mCons (mVar 1) mNil) oLen) mNil)) (gNm 2)
  (sSeq (sSet 3 (mL (mCons (mVar 1) (mCons (mVar 2) mNil)) (cl 2 Mbox)))
  (sIf (bNot (mT (mL (mCons (mLc (iRg rng1 (mCons (mC (.int 3)) mNil)) (gNm 4) bYes (mL (mCons (mVar 3) mNil) (cl 1 R)) [4]) mNil) oAll)))
  (sRet (mC (.bl false)))
  sNext)))
  (sRet (mC (.bl true)))))
theorem law3_ok {R : List PV → Ms → Out PV} (hR : RightB R 1000000) (zs : List Int) : Ret (Mlaw3 R [.rol (zs.map PV.int)] []) fun v _ => v = .bl true := by
  unfold Mlaw3
  simp only [r_fn, List.map, List.replicate, List.cons_append, List.nil_append, q_seq, q_if, q_next, q_of, q_toSO, gNm, Option.some.injEq, exists_eq_left', q_put, List.set, r_m2, r_m1, r_v0, r_vs, r_C, r_L, r_cons, r_nil, r_cl1, r_cl2, r_cl3, rets_rt, rets_nx, r_B, r_T, r_asB, r_cmp, r_add, r_sub, q_for, i_of, i_rg, i_st, q_par, r_mIf, r_bYes, r_mLc, r_bOr, r_bAnd, r_bNot, r_mAnd, r_mOr, r_mNot, r_truthB, r_isN]
  refine (cells_ok (S := []) (zs := zs) (most := 3) (by omega) (by omega)).mono fun u S1 ⟨ys, ⟨l1, hu, _, g1⟩, hy1, hy2, f1⟩ => ?_
  subst hu
  rw [r_len (Sq.loc g1), List.length_map]
  refine ⟨_, rng1_ok (by omega), ?_⟩
  rw [Int.toNat_natCast]
  refine q_loop (vs := (List.range ys.length).map iv) (I := fun k e S' => ∃ x2 x3 x4, e = [some (.rol (zs.map PV.int)), some (.loc l1), x2, x3, x4] ∧ S'[l1]? = some (.lst (zvs ys))) (by rw [List.length_map, List.length_range]; exact fuel_of (by omega)) ⟨_, _, _, rfl, g1⟩ ?_ ?_ ?_
  · rintro i e S' _
    rw [rng_nx, List.getElem?_map]
  · rintro k v e S' hv ⟨x2, x3, x4, rfl, y1⟩
    obtain ⟨hk, rfl⟩ := range_get hv
    refine ⟨_, rfl, ?_⟩
    have h3 : rng1 [.int 3] = some (.rng 0 3) := rng1_ok (by omega)
    simp only [r_fn, List.map, List.replicate, List.cons_append, List.nil_append, q_seq, q_if, q_next, q_of, q_toSO, gNm, Option.some.injEq, exists_eq_left', q_put, List.set, r_m2, r_m1, r_v0, r_vs, r_C, r_L, r_cons, r_nil, r_cl1, r_cl2, r_cl3, rets_rt, rets_nx, r_B, r_T, r_asB, r_cmp, r_add, r_sub, q_for, i_of, i_rg, i_st, q_par, r_mIf, r_bYes, r_mLc, r_bOr, r_bAnd, r_bNot, r_mAnd, r_mOr, r_mNot, r_truthB, r_isN]
    refine (box_ok (Sq.loc y1) (by omega)).mono fun u S2 ⟨b, hu, hbl, hb, f2⟩ => ?_
    subst hu
    have y1b := f2.get y1 (by simp)
    have l1lt := lt_of_get y1
    have hblt := hb.lt
    refine ⟨_, h3, ?_⟩
    refine r_lc ((List.range 3).map iv) (by decide) (fun i acc S' => ∃ c' : Int, Box b S' c' ∧ 0 ≤ c' ∧ c' ≤ 1000000 * i ∧ S'[S2.length]? = some (.lst acc) ∧ acc = List.replicate i (.bl true) ∧ S'[l1]? = some (.lst (zvs ys)) ∧ S2.length ≤ S'.length) ⟨0, hb.fr (.app [] _ _) (by simp), by omega, by omega, get_new _ _, rfl, by rw [List.getElem?_append_left (by omega)]; exact y1b, by simp⟩ ?_ ?_ ?_
    · rintro i acc S' ⟨c', z1, z2, z3, z4, z5, z6⟩
      exact ⟨by rw [rng_nx, List.getElem?_map], z4⟩
    · rintro i v acc S' hv ⟨c', z1, z2, z3, z4, rfl, z6, z7⟩ _
      obtain ⟨hi, rfl⟩ := range_get hv
      refine ⟨_, rfl, ?_⟩
      simp only [wipeE, r_fn, List.map, List.replicate, List.cons_append, List.nil_append, q_seq, q_if, q_next, q_of, q_toSO, gNm, Option.some.injEq, exists_eq_left', q_put, List.set, r_m2, r_m1, r_v0, r_vs, r_C, r_L, r_cons, r_nil, r_cl1, r_cl2, r_cl3, rets_rt, rets_nx, r_B, r_T, r_asB, r_cmp, r_add, r_sub, q_for, i_of, i_rg, i_st, q_par, r_mIf, r_bYes, r_mLc, r_bOr, r_bAnd, r_bNot, r_mAnd, r_mOr, r_mNot, r_truthB, r_isN, if_true]
      refine (hR b S' c' z1 (by omega)).mono fun u S3 ⟨hu, f3, c3, w1, w2, w3⟩ => ?_
      subst hu
      have z4' := f3.get z4 (by simp; omega)
      have z6' := f3.get z6 (by simp; omega)
      exact ⟨z4', c3, w3.fr (.set (ms := [S2.length]) _ _ (.inl (by simp))) (by simp; omega), by omega, by omega, get_set z4', (List.replicate_succ' ..).symm, by rw [List.getElem?_set_ne (by omega)]; exact z6', by rw [List.length_set]; have := f3.len; omega⟩
    · rintro acc S' ⟨c', z1, z2, z3, z4, rfl, z6, z7⟩
      rw [r_all z4]
      simp only [r_fn, List.map, List.replicate, List.cons_append, List.nil_append, q_seq, q_if, q_next, q_of, q_toSO, gNm, Option.some.injEq, exists_eq_left', q_put, List.set, r_m2, r_m1, r_v0, r_vs, r_C, r_L, r_cons, r_nil, r_cl1, r_cl2, r_cl3, rets_rt, rets_nx, r_B, r_T, r_asB, r_cmp, r_add, r_sub, q_for, i_of, i_rg, i_st, q_par, r_mIf, r_bYes, r_mLc, r_bOr, r_bAnd, r_bNot, r_mAnd, r_mOr, r_mNot, r_truthB, r_isN, Bool.not_true, Bool.false_eq_true, if_false]
      exact ⟨_, _, _, rfl, z6⟩
  · rintro e S' ⟨x2, x3, x4, rfl, y1⟩
    trivial
theorem true_of3 {o : Out PV} (h : Ret o fun v _ => v = .bl true) : ∃ S', o = .ret (.bl true) S' := by
  cases o with
  | ret v S => exact ⟨S, by rw [show v = _ from h]⟩
  | exc _ _ => exact h.elim
  | fail => exact h.elim
end MP

set_option maxRecDepth 100000
namespace MP
open PySem PySem.Spec PyProof.Rows L2
/-! ### ways: who is met from w by following the pointers -/
abbrev nx (ps : List Nat) (w : Nat) : Nat := ps.getD w 0
def it (ps : List Nat) (w : Nat) : Nat → Nat
  | 0 => w
  | k + 1 => nx ps (it ps w k)
def met (ps : List Nat) (w L : Nat) : List Nat := (List.range L).map fun k => it ps w (k + 1)
section
variable {ps : List Nat} {w : Nat}
theorem it_add (a k : Nat) : it ps w (a + k) = it ps (it ps w a) k := by
  induction k with
  | zero => rfl
  | succ k ih => show nx ps (it ps w (a + k)) = nx ps _; rw [ih]
theorem it_lt (hs : Sta ps) (hw : w < ps.length) : ∀ k, it ps w k < ps.length
  | 0 => hw
  | k + 1 => getD_lt hs (it_lt hs hw k)
theorem met_succ {L : Nat} : met ps w (L + 1) = met ps w L ++ [it ps w (L + 1)] := by simp [met, List.range_succ]
theorem met_len {L : Nat} : (met ps w L).length = L := by simp [met]
theorem met_get {L i : Nat} (h : i < L) : (met ps w L)[i]? = some (it ps w (i + 1)) := by
  unfold met; rw [range_at, if_pos h]
theorem mem_met {L x : Nat} : x ∈ met ps w L ↔ ∃ i, i < L ∧ it ps w (i + 1) = x := by
  simp [met]
theorem met_nodup {L : Nat} (h : ∀ k, k < L → it ps w (k + 1) ∉ met ps w k) : (met ps w L).Nodup := by
  induction L with
  | zero => simp [met]
  | succ L ih =>
    rw [met_succ, List.nodup_append]
    refine ⟨ih fun k hk => h k (by omega), by simp, ?_⟩
    intro a ha b hb e
    rw [List.mem_singleton] at hb
    subst hb; subst e
    exact h L (by omega) ha
theorem nodup_le : ∀ {n : Nat} {l : List Nat}, l.Nodup → (∀ x ∈ l, x < n) → l.length ≤ n
  | 0, [], _, _ => Nat.le_refl _
  | 0, x :: _, _, h => absurd (h x (by simp)) (by omega)
  | n + 1, l, hd, h => by
    have h1 : (l.filter (· ≠ n)).length ≤ n := nodup_le (hd.sublist List.filter_sublist) fun x hx => by
      have hx' := List.mem_filter.mp hx
      have := h x hx'.1
      have h2 : x ≠ n := by simpa using hx'.2
      omega
    have h2 : l.length ≤ (l.filter (· ≠ n)).length + 1 := by
      have key : ∀ l : List Nat, l.Nodup → l.length ≤ (l.filter (· ≠ n)).length + 1 := by
        intro l
        induction l with
        | nil => intro _; simp
        | cons x l ih =>
          intro hd
          have hd' := List.nodup_cons.mp hd
          by_cases e : x = n
          · have : l.filter (· ≠ n) = l := List.filter_eq_self.mpr fun y hy => by
              simp only [ne_eq, decide_not, Bool.not_eq_true', decide_eq_false_iff_not]
              intro z; subst z; subst e; exact hd'.1 hy
            rw [List.filter_cons_of_neg (by simp [e]), this]; simp
          · rw [List.filter_cons_of_pos (by simpa using e)]
            have := ih hd'.2
            simp only [List.length_cons]; omega
      exact key l hd
    omega
theorem least {P : Nat → Prop} : ∀ n, P n → ∃ L, L ≤ n ∧ P L ∧ ∀ k, k < L → ¬ P k := by
  intro n
  induction n using Nat.strongRecOn with
  | _ n ih =>
    intro h
    by_cases z : ∃ k, k < n ∧ P k
    · obtain ⟨k, hk, pk⟩ := z
      obtain ⟨L, h1, h2, h3⟩ := ih k hk pk
      exact ⟨L, by omega, h2, h3⟩
    · exact ⟨n, Nat.le_refl _, h, fun k hk pk => z ⟨k, hk, pk⟩⟩
theorem way_ex (hs : Sta ps) (hw : w < ps.length) : ∃ L, L ≤ ps.length ∧ it ps w (L + 1) ∈ met ps w L ∧ ∀ k, k < L → it ps w (k + 1) ∉ met ps w k := by
  by_cases h : ∃ L, L ≤ ps.length ∧ it ps w (L + 1) ∈ met ps w L
  · obtain ⟨n, hn, hm⟩ := h
    obtain ⟨L, h1, h2, h3⟩ := least (P := fun L => it ps w (L + 1) ∈ met ps w L) n hm
    exact ⟨L, by omega, h2, h3⟩
  · have nd : (met ps w (ps.length + 1)).Nodup := met_nodup fun k hk hm => h ⟨k, by omega, hm⟩
    have := nodup_le nd fun x hx => by
      obtain ⟨i, _, rfl⟩ := mem_met.mp hx
      exact it_lt hs hw _
    rw [met_len] at this
    omega
end
/-- how many are met -/
noncomputable def wl (ps : List Nat) (w : Nat) : Nat := open Classical in if h : Sta ps ∧ w < ps.length then Classical.choose (way_ex h.1 h.2) else 0
noncomputable def wayL (ps : List Nat) (w : Nat) : List Nat := met ps w (wl ps w)
section
variable {ps : List Nat} {w : Nat}
theorem wl_spec (hs : Sta ps) (hw : w < ps.length) : wl ps w ≤ ps.length ∧ it ps w (wl ps w + 1) ∈ met ps w (wl ps w) ∧ ∀ k, k < wl ps w → it ps w (k + 1) ∉ met ps w k := by
  have e : wl ps w = Classical.choose (way_ex hs hw) := by unfold wl; rw [dif_pos ⟨hs, hw⟩]
  rw [e]; exact Classical.choose_spec (way_ex hs hw)
theorem wl_pos (hs : Sta ps) (hw : w < ps.length) : 1 ≤ wl ps w := by
  have h := (wl_spec hs hw).2.1
  cases e : wl ps w with
  | zero => rw [e] at h; simp [met] at h
  | succ k => omega
/-- a step of the loop that finds a way -/
theorem way_stop (hs : Sta ps) (hw : w < ps.length) {k : Nat} (hk : k ≤ wl ps w) : it ps w (k + 1) ∈ met ps w k ↔ k = wl ps w := by
  obtain ⟨_, h2, h3⟩ := wl_spec hs hw
  constructor
  · intro h
    by_cases z : k < wl ps w
    · exact absurd h (h3 k z)
    · omega
  · rintro rfl; exact h2
/-- where the ring begins -/
theorem ring_at (hs : Sta ps) (hw : w < ps.length) : ∃ b, b < wl ps w ∧ it ps w (b + 1) = it ps w (wl ps w + 1) := mem_met.mp (wl_spec hs hw).2.1
theorem it_turn {b L : Nat} (h : it ps w (b + 1) = it ps w (L + 1)) (hb : b < L) : ∀ m, it ps w (b + 1 + m) = it ps w (b + 1 + m % (L - b)) := by
  intro m
  induction m using Nat.strongRecOn with
  | _ m ih =>
    by_cases z : m < L - b
    · rw [Nat.mod_eq_of_lt z]
    · have e1 : b + 1 + m = L + 1 + (m - (L - b)) := by omega
      have e2 : it ps w (b + 1 + m) = it ps w (b + 1 + (m - (L - b))) := by
        rw [e1, it_add, ← h, ← it_add]
      rw [e2, ih (m - (L - b)) (by omega)]
      congr 2
      exact (Nat.mod_eq_sub_mod (by omega)).symm
/-- many steps, by division -/
theorem it_far {b L far : Nat} (h : it ps w (b + 1) = it ps w (L + 1)) (hb : b < L) (hf : L < far) : it ps w far = it ps w (b + (far - 1 - b) % (L - b) + 1) := by
  have e : far = b + 1 + (far - 1 - b) := by omega
  rw [e, it_turn h hb]
  congr 1
  have e2 : b + 1 + (far - 1 - b) - 1 - b = far - 1 - b := by omega
  rw [e2]; omega
end
end MP

set_option maxRecDepth 100000
namespace MP
open PySem PySem.Spec PyProof.Rows L2
/-! ### a dict with numbers as keys, True as values -/
abbrev kvT (ns : List Nat) : List (Key × PV) := ns.map fun (n : Nat) => ((.inl (n : Int) : Key), PV.bl true)
theorem valT {ns : List Nat} {i : Nat} : (valP (kvT ns) (.inl (i : Int))).isSome = decide (i ∈ ns) := by
  unfold valP
  rw [Option.isSome_map, Bool.eq_iff_iff, List.find?_isSome]
  constructor
  · rintro ⟨kv, hkv, e⟩
    obtain ⟨x, hx, rfl⟩ := List.mem_map.mp hkv
    have e2 := Sum.inl.inj (of_decide_eq_true e)
    have e3 : x = i := by omega
    exact decide_eq_true (e3 ▸ hx)
  · intro h
    exact ⟨_, List.mem_map.mpr ⟨i, of_decide_eq_true h, rfl⟩, decide_eq_true rfl⟩
theorem r_dnotin {S : Ms} {n i : Nat} {ns : List Nat} {Q : PV → Ms → Prop} (h : S[n]? = some (.dK (kvT ns))) : Ret (oNotIn (.int (i : Nat)) (.loc n) S) Q = Q (.bl (!decide (i ∈ ns))) S := by
  have e2 : isDict S (.loc n) = true := by simp only [isDict, h]
  have e3 : dGet S (.loc n) (.int (i : Nat)) = some (valP (kvT ns) (.inl (i : Int))) := by simp only [dGet, h, keyP, Option.map_some]
  simp only [oNotIn, oSel, e2, if_true, oDNotIn, e3, valT]
  rfl
theorem r_dput {S : Ms} {n i : Nat} {ns : List Nat} (h : S[n]? = some (.dK (kvT ns))) (hi : i ∉ ns) (hl : ns.length ≤ 10000000) : oPut (.loc n) (.int (i : Nat)) (.bl true) S = some (S.set n (.dK (kvT (ns ++ [i])))) := by
  have e : putP (kvT ns) (.inl (i : Int)) (.bl true) = kvT (ns ++ [i]) := by
    have hn : ((kvT ns).any fun kv => decide (kv.1 = .inl (i : Int))) = false := by
      rw [List.any_eq_false]
      intro kv hkv
      obtain ⟨x, hx, rfl⟩ := List.mem_map.mp hkv
      simp only [decide_eq_true_eq]
      intro z
      have : x = i := by
        have := Sum.inl.inj z
        omega
      exact hi (this ▸ hx)
    unfold putP
    rw [if_neg (by rw [hn]; exact Bool.false_ne_true)]
    simp [kvT]
  simp only [oPut, h, keyP, Option.map_some, e]
  rw [if_pos (by rw [List.length_map]; exact lim_of hl)]
theorem r_dlist {S : Ms} {n : Nat} {ns : List Nat} {Q : PV → Ms → Prop} (h : S[n]? = some (.dK (kvT ns))) : Ret (oListOf [.loc n] S) Q = Q (.loc S.length) (S ++ [.lst (ivs ns)]) := by
  have e : (kvT ns).map (fun kv => kP kv.1) = ivs ns := by simp [kvT, kP]
  simp only [oListOf, h, e]; rfl
theorem r_newK {env : Env'} {S : Ms} {Q : PV → Ms → Prop} : Ret (mNewK env S) Q = Q (.loc S.length) (S ++ [.dK []]) := id rfl
def P_way_of : List PV → Ms → Out PV := mFn 2 (sSeq (sPar 2 3 mNewK (mSub (mVar 0) (mVar 1)))
  (sSeq (sWhile (mB (m2 (mVar 3) (mVar 2) oNotIn))
  (sSeq (sPut (mVar 2) (mVar 3) (mC (.bl true)))
  (sSet 3 (mSub (mVar 0) (mVar 3)))))
  (sRet (mL (mCons (mVar 2) mNil) oListOf))))
theorem way_of_ok {S : Ms} {st : PV} {ps : List Nat} {w : Nat} (h : Sq S st (ivs ps)) (hs : Sta ps) (hw : w < ps.length) (hp : ps.length ≤ 1000000) :
    Ret (P_way_of [st, .int (w : Nat)] S) fun v S' => NewL S v (ivs (wayL ps w)) S' ∧ Fr [] S S' := by
  unfold P_way_of
  obtain ⟨w1, w2, w3⟩ := wl_spec hs hw
  simp only [r_fn, List.map, List.replicate, List.cons_append, List.nil_append, q_seq, q_if, q_next, q_of, q_toSO, gNm, Option.some.injEq, exists_eq_left', q_put, List.set, r_m2, r_m1, r_v0, r_vs, r_C, r_L, r_cons, r_nil, r_cl1, r_cl2, r_cl3, rets_rt, rets_nx, r_B, r_T, r_asB, r_cmp, r_add, r_sub, q_for, i_of, i_rg, i_st, q_par, r_mIf, r_bYes, r_mLc, r_bOr, r_bAnd, r_bNot, r_mAnd, r_mOr, r_mNot, r_truthB, r_isN, r_newK]
  have h0 : Sq (S ++ [Ob.dK []]) st (ivs ps) := h.fr (Fr.app [] _ _) Off.nil
  have hoff : Off st [S.length] := Off.old h (Nat.le_refl _)
  rw [r_sub1 h0 (sq_at hw)]
  refine q_while (I := fun f e S' => ∃ k, f = wl ps w - k ∧ k ≤ wl ps w ∧ e = [some st, some (iv w), some (.loc S.length), some (iv (it ps w (k + 1)))] ∧ S'[S.length]? = some (.dK (kvT (met ps w k))) ∧ Fr [S.length] (S ++ [Ob.dK []]) S') (wl ps w) (fuel_of (by omega)) ⟨0, rfl, Nat.zero_le _, rfl, get_new _ _, .refl _ _⟩ ?_
  rintro f e S' ⟨k, rfl, hk, rfl, g1, g2⟩
  simp only [r_fn, List.map, List.replicate, List.cons_append, List.nil_append, q_seq, q_if, q_next, q_of, q_toSO, gNm, Option.some.injEq, exists_eq_left', q_put, List.set, r_m2, r_m1, r_v0, r_vs, r_C, r_L, r_cons, r_nil, r_cl1, r_cl2, r_cl3, rets_rt, rets_nx, r_B, r_T, r_asB, r_cmp, r_add, r_sub, q_for, i_of, i_rg, i_st, q_par, r_mIf, r_bYes, r_mLc, r_bOr, r_bAnd, r_bNot, r_mAnd, r_mOr, r_mNot, r_truthB, r_isN, r_dnotin g1]
  have hst := h0.fr g2 hoff
  by_cases hz : it ps w (k + 1) ∈ met ps w k
  · rw [if_neg (by simp [hz])]
    have e := (way_stop hs hw hk).mp hz
    rw [r_dlist g1]
    rw [e] at g1
    have hl := g2.len
    rw [List.length_append] at hl
    refine ⟨⟨_, rfl, by simp at hl; omega, ?_⟩, ?_⟩
    · rw [get_new]; subst e; rfl
    · exact ((Fr.app [] S _).drop (n := S.length) g2 (Nat.le_refl _)).trans (.app _ _ _)
  · rw [if_pos (by simp [hz])]
    refine ⟨_, r_dput g1 hz (by rw [met_len]; omega), ?_⟩
    have hst2 : Sq (S'.set S.length (.dK (kvT (met ps w k ++ [it ps w (k + 1)])))) st (ivs ps) := hst.fr (.set (ms := [S.length]) _ _ (.inl (by simp))) hoff
    rw [r_sub1 hst2 (sq_at (it_lt hs hw (k + 1)))]
    have hlt : k < wl ps w := by
      by_cases e : k = wl ps w
      · exact absurd ((way_stop hs hw hk).mpr e) hz
      · omega
    exact ⟨wl ps w - (k + 1), by omega, k + 1, rfl, hlt, rfl, by rw [get_set g1, met_succ], g2.setN (.inl (by simp))⟩
def P_way : List PV → Ms → Out PV := mFn 0 (sSeq (sDrop (mL (mCons (mVar 0) (mCons (mVar 1) mNil)) (cl 2 P_look_person)))
  (sRet (mL (mCons (mVar 0) (mCons (mVar 1) mNil)) (cl 2 P_way_of))))
theorem way_ok {S : Ms} {st : PV} {ps : List Nat} {w : Nat} (h : Sq S st (ivs ps)) (hs : Sta ps) (hw : w < ps.length) (hp : ps.length ≤ 1000000) :
    Ret (P_way [st, .int (w : Nat)] S) fun v S' => NewL S v (ivs (wayL ps w)) S' ∧ Fr [] S S' := by
  unfold P_way
  simp only [r_fn, List.map, List.replicate, List.cons_append, List.nil_append, q_seq, q_if, q_next, q_of, q_toSO, gNm, Option.some.injEq, exists_eq_left', q_put, List.set, r_m2, r_m1, r_v0, r_vs, r_C, r_L, r_cons, r_nil, r_cl1, r_cl2, r_cl3, rets_rt, rets_nx, r_B, r_T, r_asB, r_cmp, r_add, r_sub, q_for, i_of, i_rg, i_st, q_par, r_mIf, r_bYes, r_mLc, r_bOr, r_bAnd, r_bNot, r_mAnd, r_mOr, r_mNot, r_truthB, r_isN]
  refine (look_person_ok h hw).mono fun u S1 ⟨_, hS⟩ => ?_
  subst hS
  exact way_of_ok h hs hw hp
def Mmet : List PV → Ms → Out PV := mFn 1 (sSeq (sSet 2 (mL mNil oList))
  (sSeq (sWhile (mB (m2 (mSub (mVar 0) (mVar 1)) (mVar 2) oNotIn))
  (sSeq (sSet 1 (mSub (mVar 0) (mVar 1)))
  (sDrop (mMeth (mVar 2) (mCons (mVar 1) mNil) oAppend))))
  (sRet (mVar 2))))
theorem met_ok {S : Ms} {st : PV} {ps : List Nat} {w : Nat} (h : Sq S st (ivs ps)) (hs : Sta ps) (hw : w < ps.length) (hp : ps.length ≤ 1000000) :
    Ret (Mmet [st, .int (w : Nat)] S) fun v S' => NewL S v (ivs (wayL ps w)) S' ∧ Fr [] S S' := by
  unfold Mmet
  obtain ⟨w1, w2, w3⟩ := wl_spec hs hw
  simp only [r_fn, List.map, List.replicate, List.cons_append, List.nil_append, q_seq, q_if, q_next, q_of, q_toSO, gNm, Option.some.injEq, exists_eq_left', q_put, List.set, r_m2, r_m1, r_v0, r_vs, r_C, r_L, r_cons, r_nil, r_cl1, r_cl2, r_cl3, rets_rt, rets_nx, r_B, r_T, r_asB, r_cmp, r_add, r_sub, q_for, i_of, i_rg, i_st, q_par, r_mIf, r_bYes, r_mLc, r_bOr, r_bAnd, r_bNot, r_mAnd, r_mOr, r_mNot, r_truthB, r_isN]
  rw [r_list (by decide)]
  have h0 : Sq (S ++ [Ob.lst []]) st (ivs ps) := h.fr (Fr.app [] _ _) Off.nil
  have hoff : Off st [S.length] := Off.old h (Nat.le_refl _)
  refine q_while (I := fun f e S' => ∃ k, f = wl ps w - k ∧ k ≤ wl ps w ∧ e = [some st, some (iv (it ps w k)), some (.loc S.length)] ∧ S'[S.length]? = some (.lst (ivs (met ps w k))) ∧ Fr [S.length] (S ++ [Ob.lst []]) S') (wl ps w) (fuel_of (by omega)) ⟨0, rfl, Nat.zero_le _, rfl, get_new _ _, .refl _ _⟩ ?_
  rintro f e S' ⟨k, rfl, hk, rfl, g1, g2⟩
  have hst := h0.fr g2 hoff
  simp only [r_fn, List.map, List.replicate, List.cons_append, List.nil_append, q_seq, q_if, q_next, q_of, q_toSO, gNm, Option.some.injEq, exists_eq_left', q_put, List.set, r_m2, r_m1, r_v0, r_vs, r_C, r_L, r_cons, r_nil, r_cl1, r_cl2, r_cl3, rets_rt, rets_nx, r_B, r_T, r_asB, r_cmp, r_add, r_sub, q_for, i_of, i_rg, i_st, q_par, r_mIf, r_bYes, r_mLc, r_bOr, r_bAnd, r_bNot, r_mAnd, r_mOr, r_mNot, r_truthB, r_isN, r_meth]
  rw [r_sub1 hst (sq_at (it_lt hs hw k)), show ps.getD (it ps w k) 0 = it ps w (k + 1) from rfl, r_notIn g1]
  simp only [r_fn, List.map, List.replicate, List.cons_append, List.nil_append, q_seq, q_if, q_next, q_of, q_toSO, gNm, Option.some.injEq, exists_eq_left', q_put, List.set, r_m2, r_m1, r_v0, r_vs, r_C, r_L, r_cons, r_nil, r_cl1, r_cl2, r_cl3, rets_rt, rets_nx, r_B, r_T, r_asB, r_cmp, r_add, r_sub, q_for, i_of, i_rg, i_st, q_par, r_mIf, r_bYes, r_mLc, r_bOr, r_bAnd, r_bNot, r_mAnd, r_mOr, r_mNot, r_truthB, r_isN]
  by_cases hz : it ps w (k + 1) ∈ met ps w k
  · rw [if_neg (by simp [hz])]
    have e := (way_stop hs hw hk).mp hz
    refine ⟨⟨_, rfl, Nat.le_refl _, ?_⟩, (Fr.app [] S _).drop (n := S.length) g2 (Nat.le_refl _)⟩
    rw [g1, e]; rfl
  · rw [if_pos (by simp [hz])]
    rw [r_sub1 hst (sq_at (it_lt hs hw k))]
    have hlt : k < wl ps w := by
      by_cases e : k = wl ps w
      · exact absurd ((way_stop hs hw hk).mpr e) hz
      · omega
    refine ⟨loc_some g1, ?_⟩
    rw [r_append g1 (by rw [List.length_map, met_len]; exact lim_of (by omega))]
    exact ⟨wl ps w - (k + 1), by omega, k + 1, rfl, hlt, rfl, by rw [get_set g1, met_succ]; simp [ivs]; rfl, g2.setN (.inl (by simp))⟩
end MP

set_option maxRecDepth 100000
namespace MP
open PySem PySem.Spec PyProof.Rows L2
/-! ### draws below great numbers -/
theorem r_divW {S : Ms} {Q : PV → Ms → Prop} {i j : Int} (h : 0 < j) (h2 : j < 2 ^ 60) : Ret (oDiv (.int i) (.int j) S) Q = Q (.int (i / j)) S := by
  by_cases hn : CDivN i j
  · simp [oDiv, hn, Ret, Int.fdiv_eq_ediv_of_nonneg i (Int.le_of_lt h)]
  · have hw : CDivW i j := wide_div (b := 60) h (by omega) (by omega) (by omega)
    simp [oDiv, hn, hw, Ret]
def TakeBig (T : List PV → Ms → Out PV) : Prop := ∀ (b : Nat) (S : Ms) (c : Int) (n : Nat), Box b S c → c + 2 < 1099511627776 → 1 ≤ n → n ≤ 10000000000000 →
  Ret (T [.loc b, .int (n : Nat)] S) fun v S' => ∃ i : Nat, v = iv i ∧ i < n ∧ Drew b S c 2 S'
theorem Drew.up {b : Nat} {S S' : Ms} {c k k' : Int} (h : Drew b S c k S') (hk : k ≤ k') : Drew b S c k' S' := ⟨h.1, let ⟨c', h1, h2, h3⟩ := h.2; ⟨c', h1, by omega, h3⟩⟩
theorem take_Big {c1 c2 : Int} (h1 : 0 ≤ c1 ∧ c1 < 1000000) (h2 : 0 < c2 ∧ c2 < 1000000) (d : Nat) : TakeBig (Mtake c1 c2 (d + 2)) := by
  intro b S c n hb hc h0 hn
  by_cases hs : n ≤ 10000000
  · exact (take_Ok h1 h2 (d + 1) b S c n hb (by omega) h0 hs).mono fun v S' ⟨i, e, hi, hd⟩ => ⟨i, e, hi, hd.up (by omega)⟩
  · obtain ⟨⟨x, y, e, hx, hy, hy2⟩, hc0⟩ := hb
    have hb : Box b S c := ⟨⟨x, y, e, hx, hy, hy2⟩, hc0⟩
    have eb0 : ∀ (Q : PV → Ms → Prop), Ret (oSub1 (.loc b) (.int 0) S) Q = Q (.int x) S := fun Q => r_subL e (id rfl)
    unfold Mtake
    rw [r_fn]
    simp only [List.map, List.replicate, List.cons_append, List.nil_append, q_seq, q_if, r_B, r_m2, r_v0, r_vs, r_C, eb0, r_cmp, r_asB]
    by_cases hx0 : 0 < x
    · rw [if_pos (by simpa using hx0)]
      simp only [q_seq, q_of, q_toSO, gNm, Option.some.injEq, exists_eq_left', q_put, List.set, r_m2, r_v0, r_vs, r_C, eb0, r_mod (show (0 : Int) < (n : Int) by omega), r_divW (show (0 : Int) < (n : Int) by omega) (by omega : (n : Int) < 2 ^ 60)]
      refine ⟨_, r_put e (by decide) (by simp), (x % n).toNat, ?_, ?_, ?_⟩
      · have := Int.emod_nonneg x (show (n : Int) ≠ 0 by omega)
        show _ = PV.int _
        congr 1; omega
      · have := Int.emod_nonneg x (show (n : Int) ≠ 0 by omega)
        have := Int.emod_lt_of_pos x (show (0 : Int) < (n : Int) by omega)
        omega
      · exact ⟨.set _ _ (.inl (by simp)), c, by omega, by omega, ⟨x / n, y, get_set e, Int.ediv_nonneg hx (by omega), hy, hy2⟩, hc0⟩
    · rw [if_neg (by simpa using hx0)]
      simp only [q_next, q_if, r_B, r_m2, r_v0, r_vs, r_C, r_pow10, r_cmp, r_asB]
      rw [if_pos (by simp; omega)]
      simp only [r_fn, List.map, List.replicate, List.cons_append, List.nil_append, q_seq, q_if, q_next, q_of, q_toSO, gNm, Option.some.injEq, exists_eq_left', q_put, List.set, r_m2, r_m1, r_v0, r_vs, r_C, r_L, r_cons, r_nil, r_cl1, r_cl2, r_cl3, rets_rt, rets_nx, r_B, r_T, r_asB, r_cmp, r_add, r_sub, q_for, i_of, i_rg, i_st, q_par, r_mIf, r_bYes, r_mLc, r_pow10]
      refine (take_Ok h1 h2 d b S c 10000000 hb (by omega) (by omega) (by omega)).mono fun u S1 ⟨i, hu, hi, hd⟩ => ?_
      subst hu
      obtain ⟨f1, d1, q1, q2, hb1⟩ := hd
      rw [r_div (by omega) (by omega)]
      simp only [r_add]
      have e1 : ((n : Int) - 1) / 10000000 + 1 = (((n - 1) / 10000000 + 1 : Nat) : Int) := by omega
      rw [e1]
      refine (take_Ok h1 h2 d b S1 d1 ((n - 1) / 10000000 + 1) hb1 (by omega) (by omega) (by omega)).mono fun u S2 ⟨j, hu, hj, hd⟩ => ?_
      subst hu
      obtain ⟨f2, d2, q3, q4, hb2⟩ := hd
      rw [r_mul (CMul.sm (by omega) (by omega))]
      simp only [r_add]
      rw [r_mod (by omega)]
      have e2 : ((i : Int) + 10000000 * (j : Int)) % (n : Int) = (((i + 10000000 * j) % n : Nat) : Int) := by rw [Int.natCast_emod]; rfl
      rw [e2]
      exact ⟨_, rfl, Nat.mod_lt _ (by omega), f1.trans f2, d2, by omega, by omega, hb2⟩
/-! ### many steps -/
theorem findIdx_at {p : V → Bool} : ∀ {l : List V} {b : Nat}, (∀ v, l[b]? = some v → p v = true) → b < l.length → (∀ j, j < b → ∀ v, l[j]? = some v → p v = false) → l.findIdx? p = some b
  | [], b, _, h, _ => absurd h (by simp)
  | x :: l, 0, h, _, _ => by rw [List.findIdx?_cons, h x rfl]; rfl
  | x :: l, b + 1, h, hb, hn => by
    rw [List.findIdx?_cons, hn 0 (by omega) x rfl, findIdx_at (l := l) (b := b) (fun v hv => h v hv) (by simpa using hb) fun j hj v hv => hn (j + 1) (by omega) v hv]
    rfl
theorem r_index {S : Ms} {n b x : Nat} {ns : List Nat} {Q : PV → Ms → Prop} (h : S[n]? = some (.lst (ivs ns))) (hb : ns[b]? = some x) (hn : ∀ j, j < b → ns[j]? ≠ some x) : Ret (oIndex (.loc n) [.int (x : Nat)] S) Q = Q (.int (b : Nat)) S := by
  have e1 : lstOf S (.loc n) = some (ivs ns) := by simp [lstOf, h]
  have hbl := (List.getElem?_eq_some_iff.mp hb).1
  have e2 : (ns.map fun (n : Nat) => V.int n).findIdx? (fun z => eqV z (.int (x : Nat))) = some b := by
    refine findIdx_at (fun v hv => ?_) (by simpa using hbl) fun j hj v hv => ?_
    · rw [List.getElem?_map, hb] at hv
      cases hv
      simp [eqV]
    · rw [List.getElem?_map] at hv
      cases e : ns[j]? with
      | none => rw [e] at hv; cases hv
      | some z =>
        rw [e] at hv; cases hv
        have : z ≠ x := fun q => hn j hj (by rw [e, q])
        simp [eqV]; omega
  simp only [oIndex, e1, Option.bind_some, flatPs_ivs, flatP, e2]
  rfl
section
variable {ps : List Nat} {w : Nat}
theorem way_get (hi : i < wl ps w) : (wayL ps w)[i]? = some (it ps w (i + 1)) := met_get hi
theorem way_len : (wayL ps w).length = wl ps w := met_len
theorem ring_first (hs : Sta ps) (hw : w < ps.length) : ∃ b, b < wl ps w ∧ it ps w (b + 1) = it ps w (wl ps w + 1) ∧ ∀ j, j < b → (wayL ps w)[j]? ≠ some (it ps w (wl ps w + 1)) := by
  obtain ⟨b, hb, e⟩ := ring_at hs hw
  refine ⟨b, hb, e, fun j hj z => ?_⟩
  rw [way_get (by omega)] at z
  have h3 := (wl_spec hs hw).2.2 b hb
  apply h3
  rw [e]
  exact mem_met.mpr ⟨j, hj, Option.some.inj z⟩
theorem sq_way {S : Ms} {n i : Nat} {Q : PV → Ms → Prop} (h : S[n]? = some (.lst (ivs (wayL ps w)))) (hi : i < wl ps w) : Ret (oSub1 (.loc n) (.int (i : Nat)) S) Q = Q (iv (it ps w (i + 1))) S :=
  r_sub1 (Sq.loc h) (at_nat (by rw [ivs_get, way_get hi]; rfl))
theorem way_last {S : Ms} {n : Nat} {Q : PV → Ms → Prop} (hs : Sta ps) (hw : w < ps.length) (h : S[n]? = some (.lst (ivs (wayL ps w)))) : Ret (oSub1 (.loc n) (.int (-1)) S) Q = Q (iv (it ps w (wl ps w))) S := by
  have h1 := wl_pos hs hw
  refine r_sub1 (Sq.loc h) (at_last ?_ (by rw [List.length_map, way_len]; omega))
  rw [List.length_map, way_len, ivs_get, way_get (by omega)]
  have e : wl ps w - 1 + 1 = wl ps w := by omega
  rw [e]; rfl
def P_person_after : List PV → Ms → Out PV := mFn 2 (sSeq (sDrop (mL (mCons (mVar 0) (mCons (mVar 1) mNil)) (cl 2 P_look_person)))
  (sSeq (sIf (mB (m2 (mVar 2) (mC (.int 0)) oEq))
  (sRet (mVar 1))
  sNext)
  (sSeq (sSet 3 (mL (mCons (mVar 0) (mCons (mVar 1) mNil)) (cl 2 P_way_of)))
  (sSeq (sSet 4 (mMeth (mVar 3) (mCons (mSub (mVar 0) (mSub (mVar 3) (m1 (mC (.int 1)) oNeg))) mNil) oIndex))
  (sSeq (sIf (mB (m2 (mVar 2) (mL (mCons (mVar 3) mNil) oLen) oLe))
  (sRet (mSub (mVar 3) (m2 (mVar 2) (mC (.int 1)) oSub)))
  sNext)
  (sRet (mSub (mVar 3) (m2 (mVar 4) (m2 (m2 (m2 (mVar 2) (mC (.int 1)) oSub) (mVar 4) oSub) (m2 (mL (mCons (mVar 3) mNil) oLen) (mVar 4) oSub) oMod) oAdd))))))))
theorem person_after_ok {S : Ms} {st : PV} {far : Nat} (h : Sq S st (ivs ps)) (hs : Sta ps) (hw : w < ps.length) (hp : ps.length ≤ 1000000) :
    Ret (P_person_after [st, .int (w : Nat), .int (far : Nat)] S) fun v S' => v = iv (it ps w far) ∧ Fr [] S S' := by
  unfold P_person_after
  simp only [r_fn, List.map, List.replicate, List.cons_append, List.nil_append, q_seq, q_if, q_next, q_of, q_toSO, gNm, Option.some.injEq, exists_eq_left', q_put, List.set, r_m2, r_m1, r_v0, r_vs, r_C, r_L, r_cons, r_nil, r_cl1, r_cl2, r_cl3, rets_rt, rets_nx, r_B, r_T, r_asB, r_cmp, r_add, r_sub, q_for, i_of, i_rg, i_st, q_par, r_mIf, r_bYes, r_mLc, r_bOr, r_bAnd, r_bNot, r_mAnd, r_mOr, r_mNot, r_truthB, r_isN, r_meth, r_neg]
  refine (look_person_ok h hw).mono fun u S1 ⟨_, hS⟩ => ?_
  subst hS
  rw [r_eqN]
  simp only [r_asB]
  by_cases h0 : far = 0
  · rw [if_pos (by subst h0; rfl)]
    subst h0
    exact ⟨rfl, .refl _ _⟩
  · rw [if_neg (by rw [beq_iff_eq]; omega)]
    refine (way_of_ok h hs hw hp).mono fun u S2 ⟨⟨m, hu, hm, gm⟩, f2⟩ => ?_
    subst hu
    have h2 := h.fr f2 Off.nil
    obtain ⟨b, hb, eb, hbn⟩ := ring_first hs hw
    refine ⟨loc_some gm, ?_⟩
    rw [way_last hs hw gm, r_sub1 h2 (sq_at (it_lt hs hw _)), show ps.getD (it ps w (wl ps w)) 0 = it ps w (wl ps w + 1) from rfl,
      r_index gm (by rw [way_get hb, eb]) hbn, r_len (Sq.loc gm), List.length_map, way_len]
    simp only [r_cmp, r_asB]
    by_cases hf : far ≤ wl ps w
    · rw [if_pos (by simpa using hf), iv_sub1 (by omega), sq_way gm (by omega)]
      have e : far - 1 + 1 = far := by omega
      rw [e]
      exact ⟨rfl, f2⟩
    · rw [if_neg (by simpa using hf)]
      simp only [r_sub]
      rw [r_len (Sq.loc gm), List.length_map, way_len]
      simp only [r_sub]
      have e1 : (far : Int) - 1 - (b : Int) = ((far - 1 - b : Nat) : Int) := by omega
      have e2 : (wl ps w : Int) - (b : Int) = ((wl ps w - b : Nat) : Int) := by omega
      rw [e1, e2, r_mod (by omega), iv_mod]
      simp only [r_add]
      rw [iv_add, sq_way gm (by have := Nat.mod_lt (far - 1 - b) (show 0 < wl ps w - b by omega); omega), ← it_far eb hb (by omega)]
      exact ⟨rfl, f2⟩
end
end MP

set_option maxRecDepth 100000
namespace MP
open PySem PySem.Spec PyProof.Rows L2
variable {T : List PV → Ms → Out PV}
def Mafter : List PV → Ms → Out PV := mFn 2 (sSeq (sSet 3 (mL (mCons (mVar 0) (mCons (mVar 1) mNil)) (cl 2 Mmet)))
  (sSeq (sIf (mB (m2 (mVar 2) (mC (.int 0)) oEq))
  (sRet (mVar 1))
  sNext)
  (sSeq (sIf (mB (m2 (mVar 2) (mL (mCons (mVar 3) mNil) oLen) oLe))
  (sRet (mSub (mVar 3) (m2 (mVar 2) (mC (.int 1)) oSub)))
  sNext)
  (sSeq (sSet 4 (mCut (mVar 3) (onlyI (mMeth (mVar 3) (mCons (mSub (mVar 0) (mSub (mVar 3) (m1 (mC (.int 1)) oNeg))) mNil) oIndex)) (mC .non)))
  (sRet (mSub (mVar 4) (m2 (m2 (m2 (mVar 2) (mC (.int 1)) oSub) (m2 (mL (mCons (mVar 3) mNil) oLen) (mL (mCons (mVar 4) mNil) oLen) oSub) oSub) (mL (mCons (mVar 4) mNil) oLen) oMod)))))))
def C01 : MS := (sSeq (sIf (bNot (mT (mL (mCons (mL (mCons (mVar 1) (mCons (mVar 4) (mCons (mVar 8) mNil))) (cl 3 P_person_after)) (mCons (mVar 7) mNil)) (cl 2 (Msame 6)))))
  (sRet (mC (.bl false)))
  sNext)
  (sSet 7 (mSub (mVar 1) (mVar 7))))
def D01 (T : List PV → Ms → Out PV) : MS := (sSeq (sSet 8 (m2 (mL (mCons (mVar 0) (mCons (mL (mCons (mVar 0) (mCons (mL (mCons (mC (.int 100)) (mCons (m2 (mC (.int 10)) (mC (.int 6)) oPow) (mCons (m2 (mC (.int 10)) (mC (.int 12)) oPow) mNil))) oList) mNil)) (cl 2 (Mof T))) mNil)) (cl 2 T)) (mC (.int 1)) oAdd))
  (sSeq (sSet 6 (mL (mCons (mL (mCons (mVar 1) (mCons (mVar 4) (mCons (mVar 8) mNil))) (cl 3 P_person_after)) (mCons (mCallK mNil (mCons (mVar 8) (mCons (mVar 4) (mCons (mL (mCons (mVar 1) mNil) oListOf) mNil))) 0 3 [2, 1, 0] P_person_after) mNil)) oList))
  (sIf (bNot (mT (mL (mCons (mVar 6) (mCons (m2 (mL (mCons (mL (mCons (mVar 1) (mCons (mVar 4) (mCons (mVar 8) mNil))) (cl 3 Mafter)) mNil) oList) (mC (.int 2)) oMul) mNil)) (cl 2 (Msame 6)))))
  (sRet (mC (.bl false)))
  sNext)))
def B01 (T : List PV → Ms → Out PV) : MS := (sSeq (sSet 5 (mL (mCons (mVar 1) (mCons (mVar 4) mNil)) (cl 2 Mmet)))
  (sSeq (sSet 6 (mL (mCons (mL (mCons (mVar 1) (mCons (mVar 4) mNil)) (cl 2 P_way)) (mCons (mCallK mNil (mCons (mVar 4) (mCons (mL (mCons (mVar 1) mNil) oListOf) mNil)) 0 2 [1, 0] P_way) mNil)) oList))
  (sSeq (sIf (bNot (mT (mL (mCons (mVar 6) (mCons (mL (mCons (mVar 5) (mCons (mVar 5) mNil)) oList) mNil)) (cl 2 (Msame 6)))))
  (sRet (mC (.bl false)))
  sNext)
  (sSeq (sDrop (mMeth (mSub (mVar 6) (mC (.int 0))) (mCons (mC (.str ("more" : Str))) mNil) oAppend))
  (sSeq (sDrop (mMeth (mSub (mVar 6) (mC (.int 1))) mNil oReverse))
  (sSeq (sIf (bNot (mT (mL (mCons (mL (mCons (mVar 1) (mCons (mVar 4) mNil)) (cl 2 P_way)) (mCons (mVar 5) mNil)) (cl 2 (Msame 6)))))
  (sRet (mC (.bl false)))
  sNext)
  (sSeq (sSet 7 (mVar 4))
  (sSeq (sFor (iRg rng1 (mCons (m2 (m2 (mC (.int 3)) (mVar 3) oMul) (mC (.int 1)) oAdd) mNil)) (gNm 8)
  C01)
  (sFor (iRg rng1 (mCons (mC (.int 3)) mNil)) (gNm 9)
  (D01 T))))))))))
def Mright01 (T : List PV → Ms → Out PV) : List PV → Ms → Out PV := mFn 9 (sSeq (sSet 1 (mL (mCons (mVar 0) (mCons (mC (.int 20)) mNil)) (cl 2 (Mdrawn T))))
  (sSeq (sPar 2 3 (mL (mCons (mVar 1) mNil) oRepr) (mL (mCons (mVar 1) mNil) oLen))
  (sSeq (sFor (iOf (mCut (mL (mCons (mVar 0) (mCons (m1 (mVar 3) oListRg1) mNil)) (cl 2 (Mstrewn T))) (mC .non) (onlyI (mC (.int 6))))) (gNm 4)
  (B01 T))
  (sRet (m2 (mL (mCons (mVar 1) mNil) oRepr) (mVar 2) oEq)))))
theorem after_ok {S : Ms} {st : PV} {ps : List Nat} {w far : Nat} (h : Sq S st (ivs ps)) (hs : Sta ps) (hw : w < ps.length) (hp : ps.length ≤ 1000000) :
    Ret (Mafter [st, .int (w : Nat), .int (far : Nat)] S) fun v S' => v = iv (it ps w far) ∧ Fr [] S S' := by
  unfold Mafter
  simp only [r_fn, List.map, List.replicate, List.cons_append, List.nil_append, q_seq, q_if, q_next, q_of, q_toSO, gNm, Option.some.injEq, exists_eq_left', q_put, List.set, r_m2, r_m1, r_v0, r_vs, r_C, r_L, r_cons, r_nil, r_cl1, r_cl2, r_cl3, rets_rt, rets_nx, r_B, r_T, r_asB, r_cmp, r_add, r_sub, q_for, i_of, i_rg, i_st, q_par, r_mIf, r_bYes, r_mLc, r_bOr, r_bAnd, r_bNot, r_mAnd, r_mOr, r_mNot, r_truthB, r_isN, r_meth, r_neg, r_cut, r_onlyI]
  refine (met_ok h hs hw hp).mono fun u S2 ⟨⟨m, hu, hm, gm⟩, f2⟩ => ?_
  subst hu
  rw [r_eqN]
  simp only [r_asB]
  by_cases h0 : far = 0
  · rw [if_pos (by subst h0; rfl)]
    subst h0
    exact ⟨rfl, f2⟩
  · rw [if_neg (by rw [beq_iff_eq]; omega), r_len (Sq.loc gm), List.length_map, way_len]
    simp only [r_cmp, r_asB]
    have h2 := h.fr f2 Off.nil
    obtain ⟨b, hb, eb, hbn⟩ := ring_first hs hw
    by_cases hf : far ≤ wl ps w
    · rw [if_pos (by simpa using hf), iv_sub1 (by omega), sq_way gm (by omega)]
      have e : far - 1 + 1 = far := by omega
      rw [e]
      exact ⟨rfl, f2⟩
    · rw [if_neg (by simpa using hf)]
      refine ⟨loc_some gm, ?_⟩
      rw [way_last hs hw gm, r_sub1 h2 (sq_at (it_lt hs hw _)), show ps.getD (it ps w (wl ps w)) 0 = it ps w (wl ps w + 1) from rfl,
        r_index gm (by rw [way_get hb, eb]) hbn]
      refine ⟨_, rfl, _, partI_int, _, partI_non, ?_⟩
      rw [r_cutL gm, cut_from, ivs_drop]
      have gm2 : (S2 ++ [Ob.lst (ivs ((wayL ps w).drop b))])[m]? = some (.lst (ivs (wayL ps w))) := by rw [List.getElem?_append_left (lt_of_get gm)]; exact gm
      have gl := get_new S2 (Ob.lst (ivs ((wayL ps w).drop b)))
      have hdl : ((wayL ps w).drop b).length = wl ps w - b := by rw [List.length_drop, way_len]
      rw [r_len (Sq.loc gm2), List.length_map, way_len, r_len (Sq.loc gl), List.length_map, hdl]
      simp only [r_sub]
      rw [r_len (Sq.loc gl), List.length_map, hdl]
      have e1 : (far : Int) - 1 - ((wl ps w : Int) - ((wl ps w - b : Nat) : Int)) = ((far - 1 - b : Nat) : Int) := by omega
      rw [e1, r_mod (by omega), iv_mod]
      have hlt := Nat.mod_lt (far - 1 - b) (show 0 < wl ps w - b by omega)
      rw [r_sub1 (w := iv (it ps w (b + (far - 1 - b) % (wl ps w - b) + 1))) (Sq.loc gl) (at_nat (by
        rw [ivs_get, List.getElem?_drop, way_get (by omega)]; rfl)), ← it_far eb hb (by omega)]
      exact ⟨rfl, f2.trans (.app _ _ _)⟩
theorem C01_ok {b : Nat} {ps : List Nat} {w far : Nat} {x2 x3 x5 x6 x9 : Option PV} {S : Ms} {D : Qs} (hs : Sta ps) (hw : w < ps.length) (hp : ps.length ≤ 20)
    (hD : ∀ S', Fr [] S S' → D.nx [some (.loc b), some (tpv ps), x2, x3, some (iv w), x5, x6, some (iv (it ps w (far + 1))), some (iv far), x9] S') :
    RetS (C01 [some (.loc b), some (tpv ps), x2, x3, some (iv w), x5, x6, some (iv (it ps w far)), some (iv far), x9] S) D := by
  unfold C01
  have sqp : ∀ S : Ms, Sq S (tpv ps) (ivs ps) := fun _ => rfl
  simp only [r_fn, List.map, List.replicate, List.cons_append, List.nil_append, q_seq, q_if, q_next, q_of, q_toSO, gNm, Option.some.injEq, exists_eq_left', q_put, List.set, r_m2, r_m1, r_v0, r_vs, r_C, r_L, r_cons, r_nil, r_cl1, r_cl2, r_cl3, rets_rt, rets_nx, r_B, r_T, r_asB, r_cmp, r_add, r_sub, q_for, i_of, i_rg, i_st, q_par, r_mIf, r_bYes, r_mLc, r_bOr, r_bAnd, r_bNot, r_mAnd, r_mOr, r_mNot, r_truthB, r_isN]
  refine (person_after_ok (sqp _) hs hw (by omega)).mono fun u S1 ⟨hu, f1⟩ => ?_
  subst hu
  refine (same_ok 5 _ _ _ S1 (by omega) (.int _) (.int _)).mono fun u S2 ⟨hu, f2⟩ => ?_
  subst hu
  simp only [r_fn, List.map, List.replicate, List.cons_append, List.nil_append, q_seq, q_if, q_next, q_of, q_toSO, gNm, Option.some.injEq, exists_eq_left', q_put, List.set, r_m2, r_m1, r_v0, r_vs, r_C, r_L, r_cons, r_nil, r_cl1, r_cl2, r_cl3, rets_rt, rets_nx, r_B, r_T, r_asB, r_cmp, r_add, r_sub, q_for, i_of, i_rg, i_st, q_par, r_mIf, r_bYes, r_mLc, r_bOr, r_bAnd, r_bNot, r_mAnd, r_mOr, r_mNot, r_truthB, r_isN, Bool.not_true, Bool.false_eq_true, if_false]
  rw [r_sub1 (sqp _) (sq_at (it_lt hs hw far))]
  exact hD S2 (f1.trans f2)
theorem r_pow6 {S : Ms} {Q : PV → Ms → Prop} : Ret (oPow (.int 10) (.int 6) S) Q = Q (.int 1000000) S := by
  have h := r_pow (S := S) (Q := Q) (i := 10) (k := 6) (by refine ⟨?_, ?_, ?_⟩ <;> decide)
  rw [show ((10 : Int) ^ 6) = 1000000 by decide] at h
  exact h
theorem r_pow12 {S : Ms} {Q : PV → Ms → Prop} : Ret (oPow (.int 10) (.int 12) S) Q = Q (.int 1000000000000) S := by
  have h := r_pow (S := S) (Q := Q) (i := 10) (k := 12) (by refine ⟨?_, ?_, ?_⟩ <;> decide)
  rw [show ((10 : Int) ^ 12) = 1000000000000 by decide] at h
  exact h
theorem D01_ok (hT : TakeOk T) (hB : TakeBig T) {b : Nat} {ps : List Nat} {w : Nat} {x2 x3 x5 x6 x7 x8 x9 : Option PV} {S : Ms} {c : Int} {D : Qs} (hb : Box b S c) (hc : c + 10 < 1099511627776) (hs : Sta ps) (hw : w < ps.length) (hp : ps.length ≤ 20)
    (hD : ∀ S' c' x6 x8, Box b S' c' → c ≤ c' → c' ≤ c + 3 → Fr [b] S S' → D.nx [some (.loc b), some (tpv ps), x2, x3, some (iv w), x5, x6, x7, x8, x9] S') :
    RetS (D01 T [some (.loc b), some (tpv ps), x2, x3, some (iv w), x5, x6, x7, x8, x9] S) D := by
  unfold D01
  have sqp : ∀ S : Ms, Sq S (tpv ps) (ivs ps) := fun _ => rfl
  have hbl := hb.lt
  simp only [r_fn, List.map, List.replicate, List.cons_append, List.nil_append, q_seq, q_if, q_next, q_of, q_toSO, gNm, Option.some.injEq, exists_eq_left', q_put, List.set, r_m2, r_m1, r_v0, r_vs, r_C, r_L, r_cons, r_nil, r_cl1, r_cl2, r_cl3, rets_rt, rets_nx, r_B, r_T, r_asB, r_cmp, r_add, r_sub, q_for, i_of, i_rg, i_st, q_par, r_mIf, r_bYes, r_mLc, r_bOr, r_bAnd, r_bNot, r_mAnd, r_mOr, r_mNot, r_truthB, r_isN, r_pow6, r_pow12, r_callK]
  rw [r_list (by show 3 ≤ lim; decide)]
  refine (of_ok hT (xs := [iv 100, iv 1000000, iv 1000000000000]) (hb.fr (.app [] _ _) (by simp)) (by omega) (Sq.loc (get_new _ _)) (Off.loc (by simp; omega)) (by show 1 ≤ 3; omega) (by show 3 ≤ _; omega)).mono fun u S0 ⟨i, hu, hd⟩ => ?_
  have hm : ∃ m : Nat, u = iv m ∧ 1 ≤ m ∧ m ≤ 1000000000000 := by
    match i, hu with
    | 0, hu => cases hu; exact ⟨100, rfl, by omega, by omega⟩
    | 1, hu => cases hu; exact ⟨1000000, rfl, by omega, by omega⟩
    | 2, hu => cases hu; exact ⟨1000000000000, rfl, by omega, by omega⟩
  obtain ⟨m, rfl, hm1, hm2⟩ := hm
  obtain ⟨f0, c0, q1, q2, hb0⟩ := hd
  refine (hB b S0 c0 m hb0 (by omega) hm1 (by omega)).mono fun u S1 ⟨far, hu, hfar, hd⟩ => ?_
  subst hu
  obtain ⟨f1, c1, q3, q4, hb1⟩ := hd
  have hF := ((Fr.app [b] S [Ob.lst [iv 100, iv 1000000, iv 1000000000000]]).trans f0).trans f1
  simp only [r_add]
  rw [iv_addr]
  refine (person_after_ok (sqp _) hs hw (by omega)).mono fun u S2 ⟨hu, f2⟩ => ?_
  subst hu
  rw [r_listOf (sqp _)]
  refine ⟨rfl, rfl, ?_⟩
  show Ret (P_person_after [.loc S2.length, .int (w : Nat), .int ((far + 1 : Nat) : Int)] _) _
  refine (person_after_ok (Sq.loc (get_new _ _)) hs hw (by omega)).mono fun u S3 ⟨hu, f3⟩ => ?_
  subst hu
  rw [r_list (by show 2 ≤ lim; decide)]
  have g1 := get_new S3 (Ob.lst [iv (it ps w (far + 1)), iv (it ps w (far + 1))])
  have f4 := (f2.trans ((Fr.app [] S2 [Ob.lst (ivs ps)]).trans f3)).trans (Fr.app [] S3 [Ob.lst [iv (it ps w (far + 1)), iv (it ps w (far + 1))]])
  generalize (S3 ++ [Ob.lst [iv (it ps w (far + 1)), iv (it ps w (far + 1))]]) = S4 at *
  refine (after_ok (sqp _) hs hw (by omega)).mono fun u S5 ⟨hu, f5⟩ => ?_
  subst hu
  have g1b := f5.get g1 (by simp)
  rw [r_list (by show 1 ≤ lim; decide)]
  have g2 := get_new S5 (Ob.lst [iv (it ps w (far + 1))])
  have e2 : (S5 ++ [Ob.lst [iv (it ps w (far + 1))]]).length = S5.length + 1 := by simp
  have hm2' : Ret (oMul (.loc S5.length) (.int ((2 : Nat) : Int)) (S5 ++ [Ob.lst [iv (it ps w (far + 1))]])) = fun Q => Q (.loc (S5.length + 1)) (S5 ++ [Ob.lst [iv (it ps w (far + 1))]] ++ [Ob.lst [iv (it ps w (far + 1)), iv (it ps w (far + 1))]]) := by
    funext Q
    rw [r_mulL g2 (by omega), e2]; rfl
  have hm3 : ∀ Q : PV → Ms → Prop, Ret (oMul (.loc S5.length) (.int 2) (S5 ++ [Ob.lst [iv (it ps w (far + 1))]])) Q = Q (.loc (S5.length + 1)) (S5 ++ [Ob.lst [iv (it ps w (far + 1))]] ++ [Ob.lst [iv (it ps w (far + 1)), iv (it ps w (far + 1))]]) := fun Q => congrFun hm2' Q
  rw [hm3]
  have f6 := (Fr.app [] S5 [Ob.lst [iv (it ps w (far + 1))]]).trans (Fr.app [] _ [Ob.lst [iv (it ps w (far + 1)), iv (it ps w (far + 1))]])
  have g3 := get_new (S5 ++ [Ob.lst [iv (it ps w (far + 1))]]) (Ob.lst [iv (it ps w (far + 1)), iv (it ps w (far + 1))])
  rw [e2] at g3
  have g1c := f6.get g1b (by simp)
  refine (same_ok 5 _ _ _ _ (by omega) (rd2 g1c (.int _) (.int _)) (rd2 g3 (.int _) (.int _))).mono fun u S6 ⟨hu, f7⟩ => ?_
  subst hu
  simp only [r_fn, List.map, List.replicate, List.cons_append, List.nil_append, q_seq, q_if, q_next, q_of, q_toSO, gNm, Option.some.injEq, exists_eq_left', q_put, List.set, r_m2, r_m1, r_v0, r_vs, r_C, r_L, r_cons, r_nil, r_cl1, r_cl2, r_cl3, rets_rt, rets_nx, r_B, r_T, r_asB, r_cmp, r_add, r_sub, q_for, i_of, i_rg, i_st, q_par, r_mIf, r_bYes, r_mLc, r_bOr, r_bAnd, r_bNot, r_mAnd, r_mOr, r_mNot, r_truthB, r_isN, Bool.not_true, Bool.false_eq_true, if_false]
  have fz := ((f4.trans f5).trans f6).trans f7
  exact hD S6 c1 _ _ (hb1.fr fz (by simp)) (by omega) (by omega) (hF.trans (fz.mono (by simp)))
theorem B01_ok (hT : TakeOk T) (hB : TakeBig T) {b : Nat} {ps : List Nat} {w : Nat} {x2 x5 x6 x7 x8 x9 : Option PV} {S : Ms} {c : Int} {D : Qs} (hb : Box b S c) (hc : c + 100 < 1099511627776) (hs : Sta ps) (hw : w < ps.length) (hp : ps.length ≤ 20)
    (hD : ∀ S' c' x5 x6 x7 x8 x9, Box b S' c' → c ≤ c' → c' ≤ c + 9 → Fr [b] S S' → D.nx [some (.loc b), some (tpv ps), x2, some (iv ps.length), some (iv w), x5, x6, x7, x8, x9] S') :
    RetS (B01 T [some (.loc b), some (tpv ps), x2, some (iv ps.length), some (iv w), x5, x6, x7, x8, x9] S) D := by
  unfold B01
  have sqp : ∀ S : Ms, Sq S (tpv ps) (ivs ps) := fun _ => rfl
  have hwl : (wayL ps w).length ≤ 20 := by rw [way_len]; have := (wl_spec hs hw).1; omega
  simp only [r_fn, List.map, List.replicate, List.cons_append, List.nil_append, q_seq, q_if, q_next, q_of, q_toSO, gNm, Option.some.injEq, exists_eq_left', q_put, List.set, r_m2, r_m1, r_v0, r_vs, r_C, r_L, r_cons, r_nil, r_cl1, r_cl2, r_cl3, rets_rt, rets_nx, r_B, r_T, r_asB, r_cmp, r_add, r_sub, q_for, i_of, i_rg, i_st, q_par, r_mIf, r_bYes, r_mLc, r_bOr, r_bAnd, r_bNot, r_mAnd, r_mOr, r_mNot, r_truthB, r_isN, r_meth, r_callK]
  refine (met_ok (sqp _) hs hw (by omega)).mono fun u S1 ⟨⟨l5, hu, hl5, g5⟩, f1⟩ => ?_
  subst hu
  have hl5' := lt_of_get g5
  refine (way_ok (sqp _) hs hw (by omega)).mono fun u S2 ⟨⟨l6, hu, hl6, g6⟩, f2⟩ => ?_
  subst hu
  have hl6' := lt_of_get g6
  rw [r_listOf (sqp _)]
  refine ⟨rfl, rfl, ?_⟩
  show Ret (P_way [.loc S2.length, .int (w : Nat)] _) _
  refine (way_ok (Sq.loc (get_new _ _)) hs hw (by omega)).mono fun u S3 ⟨⟨l7, hu, hl7, g7⟩, f3⟩ => ?_
  subst hu
  simp only [List.length_append, List.length_singleton] at hl7
  have hl7' := lt_of_get g7
  have f3' := (Fr.app [] S2 [Ob.lst (ivs ps)]).trans f3
  have g6b := f3'.get g6 (by simp)
  have g5b := (f2.trans f3').get g5 (by simp)
  rw [r_list (by show 2 ≤ lim; decide), r_list (by show 2 ≤ lim; decide)]
  have ff := ((Fr.app [] S3 [Ob.lst [.loc l6, .loc l7]]).trans (Fr.app [] _ [Ob.lst [.loc l5, .loc l5]]))
  have e5 : (S3 ++ [Ob.lst [.loc l6, .loc l7]]).length = S3.length + 1 := by simp
  have gh : (S3 ++ [Ob.lst [.loc l6, .loc l7]] ++ [Ob.lst [.loc l5, .loc l5]])[S3.length]? = some (.lst [.loc l6, .loc l7]) := by rw [List.getElem?_append_left (by omega)]; exact get_new _ _
  have gd := get_new (S3 ++ [Ob.lst [.loc l6, .loc l7]]) (Ob.lst [.loc l5, .loc l5])
  rw [e5] at gd ⊢
  have f4 := (f2.trans f3').trans ff
  generalize (S3 ++ [Ob.lst [.loc l6, .loc l7]] ++ [Ob.lst [.loc l5, .loc l5]]) = S4 at *
  have g6c := ff.get g6b (by simp)
  have g7c := ff.get g7 (by simp)
  have g5c := ff.get g5b (by simp)
  refine (same_ok 5 _ _ _ S4 (by omega) (rd2 gh (Rd.ilst g6c (by omega)) (Rd.ilst g7c (by omega))) (rd2 gd (Rd.ilst g5c (by omega)) (Rd.ilst g5c (by omega)))).mono fun u S5 ⟨hu, f5⟩ => ?_
  subst hu
  simp only [r_fn, List.map, List.replicate, List.cons_append, List.nil_append, q_seq, q_if, q_next, q_of, q_toSO, gNm, Option.some.injEq, exists_eq_left', q_put, List.set, r_m2, r_m1, r_v0, r_vs, r_C, r_L, r_cons, r_nil, r_cl1, r_cl2, r_cl3, rets_rt, rets_nx, r_B, r_T, r_asB, r_cmp, r_add, r_sub, q_for, i_of, i_rg, i_st, q_par, r_mIf, r_bYes, r_mLc, r_bOr, r_bAnd, r_bNot, r_mAnd, r_mOr, r_mNot, r_truthB, r_isN, Bool.not_true, Bool.false_eq_true, if_false]
  have ghd := f5.get gh (by simp)
  have g6d := f5.get g6c (by simp)
  have g7d := f5.get g7c (by simp)
  rw [r_sub1 (w := .loc l6) (Sq.loc ghd) rfl]
  refine ⟨loc_some g6d, ?_⟩
  rw [r_append g6d (by rw [List.length_map]; exact lim_of (by omega))]
  have ghe : (S5.set l6 (.lst (ivs (wayL ps w) ++ [.str "more"])))[S3.length]? = some (.lst [.loc l6, .loc l7]) := by rw [List.getElem?_set_ne (by omega)]; exact ghd
  have g7e : (S5.set l6 (.lst (ivs (wayL ps w) ++ [.str "more"])))[l7]? = some (.lst (ivs (wayL ps w))) := by rw [List.getElem?_set_ne (by omega)]; exact g7d
  rw [r_sub1 (w := .loc l7) (Sq.loc ghe) rfl]
  refine ⟨loc_some g7e, ?_⟩
  rw [r_reverse g7e]
  have f6 : Fr [] S1 ((S5.set l6 (.lst (ivs (wayL ps w) ++ [.str "more"]))).set l7 (.lst (ivs (wayL ps w)).reverse)) := ((f4.trans f5).setN (.inr (by omega))).setN (.inr (by omega))
  generalize ((S5.set l6 (.lst (ivs (wayL ps w) ++ [.str "more"]))).set l7 (.lst (ivs (wayL ps w)).reverse)) = S6 at *
  have g5d := f6.get g5 (by simp)
  refine (way_ok (sqp _) hs hw (by omega)).mono fun u S7 ⟨⟨l8, hu, hl8, g8⟩, f7⟩ => ?_
  subst hu
  have g5e := f7.get g5d (by simp)
  refine (same_ok 5 _ _ _ S7 (by omega) (Rd.ilst g8 (by omega)) (Rd.ilst g5e (by omega))).mono fun u S8 ⟨hu, f8⟩ => ?_
  subst hu
  simp only [r_fn, List.map, List.replicate, List.cons_append, List.nil_append, q_seq, q_if, q_next, q_of, q_toSO, gNm, Option.some.injEq, exists_eq_left', q_put, List.set, r_m2, r_m1, r_v0, r_vs, r_C, r_L, r_cons, r_nil, r_cl1, r_cl2, r_cl3, rets_rt, rets_nx, r_B, r_T, r_asB, r_cmp, r_add, r_sub, q_for, i_of, i_rg, i_st, q_par, r_mIf, r_bYes, r_mLc, r_bOr, r_bAnd, r_bNot, r_mAnd, r_mOr, r_mNot, r_truthB, r_isN, Bool.not_true, Bool.false_eq_true, if_false]
  have fz := ((f1.trans f6).trans f7).trans f8
  rw [r_mul (CMul.sm (by omega) (by omega))]
  simp only [r_add]
  refine ⟨_, rng1_ok (by omega), ?_⟩
  have e9 : (3 * (ps.length : Int) + 1).toNat = 3 * ps.length + 1 := by omega
  rw [e9]
  refine q_loop (vs := (List.range (3 * ps.length + 1)).map iv) (I := fun k e S' => ∃ x8, e = [some (.loc b), some (tpv ps), x2, some (iv ps.length), some (iv w), some (.loc l5), some (.loc S3.length), some (iv (it ps w k)), x8, x9] ∧ Fr [] S8 S') (by rw [List.length_map, List.length_range]; exact fuel_of (by omega)) ⟨_, rfl, .refl _ _⟩ ?_ ?_ ?_
  · rintro i e S' _
    rw [rng_nx, List.getElem?_map]
  · rintro k v e S' hv ⟨x8, rfl, g⟩
    obtain ⟨hk, rfl⟩ := range_get hv
    exact ⟨_, rfl, C01_ok hs hw hp fun S'' f => ⟨_, rfl, g.trans f⟩⟩
  · rintro e S9 ⟨x8, rfl, g⟩
    have h3 : rng1 [.int 3] = some (.rng 0 3) := rng1_ok (by omega)
    refine ⟨_, h3, ?_⟩
    have fy := fz.trans g
    refine q_loop (vs := (List.range 3).map iv) (I := fun k e S' => ∃ c' x6 x8 x9, e = [some (.loc b), some (tpv ps), x2, some (iv ps.length), some (iv w), some (.loc l5), x6, some (iv (it ps w (List.map iv (List.range (3 * ps.length + 1))).length)), x8, x9] ∧ Box b S' c' ∧ c ≤ c' ∧ c' ≤ c + 3 * k ∧ Fr [b] S S') (by decide) ⟨c, _, _, _, rfl, hb.fr fy (by simp), by omega, by omega, fy.mono (by simp)⟩ ?_ ?_ ?_
    · rintro i e S' _
      rw [rng_nx, List.getElem?_map]
    · rintro k v e S' hv ⟨c', x6, x8, x9, rfl, y1, y2, y3, y4⟩
      obtain ⟨hk, rfl⟩ := range_get hv
      exact ⟨_, rfl, D01_ok hT hB y1 (by omega) hs hw hp fun S'' c'' x6 x8 z1 z2 z3 z4 => ⟨c'', _, _, _, rfl, z1, by omega, by omega, y4.trans z4⟩⟩
    · rintro e S' ⟨c', x6, x8, x9, rfl, y1, y2, y3, y4⟩
      rw [List.length_map, List.length_range] at y3
      exact hD S' c' _ _ _ _ _ y1 y2 (by omega) y4
theorem right01_ok (hT : TakeOk T) (hB : TakeBig T) : RightB (Mright01 T) 2000 := by
  intro b S c hb hc
  unfold Mright01
  simp only [r_fn, List.map, List.replicate, List.cons_append, List.nil_append, q_seq, q_if, q_next, q_of, q_toSO, gNm, Option.some.injEq, exists_eq_left', q_put, List.set, r_m2, r_m1, r_v0, r_vs, r_C, r_L, r_cons, r_nil, r_cl1, r_cl2, r_cl3, rets_rt, rets_nx, r_B, r_T, r_asB, r_cmp, r_add, r_sub, q_for, i_of, i_rg, i_st, q_par, r_mIf, r_bYes, r_mLc, r_cut, r_onlyI, PV.int.injEq, exists_eq_left', partI_int, partI_non]
  refine (drawn_ok hT (most := 20) hb (by omega) (by omega) (by omega)).mono fun u S1 ⟨ps, hu, hp1, hp2, hps, hd⟩ => ?_
  subst hu
  obtain ⟨f1, c1, q1, q2, hb1⟩ := hd
  have sqp : ∀ S : Ms, Sq S (tpv ps) (ivs ps) := fun _ => rfl
  have hsm : ∀ x ∈ ps, x < 1000000000000 := fun x hx => by have := hps x hx; omega
  rw [r_reprT (by omega) hsm, r_len (sqp _), List.length_map, r_range1 (by omega)]
  refine (strewn_ok hT (ns := List.range ps.length) (hb1.fr (.app [] _ _) (by simp)) (by rw [List.length_range]; omega) (Sq.loc (get_new _ _)) (by rw [List.length_range]; omega)).mono fun u S2 ⟨tg, ⟨t, hu, ht, htg⟩, hpm, hd⟩ => ?_
  subst hu
  obtain ⟨p1, p2⟩ := perm_range hpm
  obtain ⟨f2, c2, q3, q4, hb2⟩ := hd
  rw [List.length_range] at q4
  have e6 : (6 : Int) = ((6 : Nat) : Int) := rfl
  rw [r_cutL htg, e6, cut_to, ivs_take]
  have gw := get_new S2 (Ob.lst (ivs (tg.take 6)))
  have f3 := (((f1.trans (Fr.app [b] S1 _)).trans f2).trans (Fr.app [b] S2 [Ob.lst (ivs (tg.take 6))]))
  have hb3 := hb2.fr (Fr.app [] S2 [Ob.lst (ivs (tg.take 6))]) (by simp)
  have hlb := hb2.lt
  have htk : ∀ x ∈ tg.take 6, x < ps.length := fun x hx => p2 x (List.mem_of_mem_take hx)
  have htl : (tg.take 6).length ≤ 6 := by rw [List.length_take]; omega
  generalize tg.take 6 = ws at *
  obtain ⟨s, h1, h2⟩ := src_sq (Sq.loc gw)
  refine ⟨s, h1, ?_⟩
  refine q_loop (vs := ivs ws) (I := fun k e S' => ∃ c' x4 x5 x6 x7 x8 x9, e = [some (.loc b), some (tpv ps), some (.str (PyData.shown (.tuple (dvs ps)))), some (iv ps.length), x4, x5, x6, x7, x8, x9] ∧ Box b S' c' ∧ c ≤ c' ∧ c' ≤ c + 141 + 9 * k ∧ Fr [b] (S2 ++ [Ob.lst (ivs ws)]) S') (by rw [List.length_map]; exact fuel_of (by omega)) ⟨c2, _, _, _, _, _, _, rfl, hb3, by omega, by omega, .refl _ _⟩ ?_ ?_ ?_
  · rintro i e S' ⟨c', x4, x5, x6, x7, x8, x9, rfl, y1, y2, y3, y4⟩
    exact h2 S' i (Sq.loc (y4.get gw (by simp; omega)))
  · rintro k v e S' hv ⟨c', x4, x5, x6, x7, x8, x9, rfl, y1, y2, y3, y4⟩
    obtain ⟨hk, rfl⟩ := iv_get hv
    refine ⟨_, rfl, ?_⟩
    exact B01_ok hT hB y1 (by omega) hps (htk _ (List.getElem_mem hk)) hp2 fun S'' c'' x5 x6 x7 x8 x9 z1 z2 z3 z4 => ⟨c'', _, _, _, _, _, _, rfl, z1, by omega, by omega, y4.trans z4⟩
  · rintro e S' ⟨c', x4, x5, x6, x7, x8, x9, rfl, y1, y2, y3, y4⟩
    rw [List.length_map] at y3
    simp only [r_fn, List.map, List.replicate, List.cons_append, List.nil_append, q_seq, q_if, q_next, q_of, q_toSO, gNm, Option.some.injEq, exists_eq_left', q_put, List.set, r_m2, r_m1, r_v0, r_vs, r_C, r_L, r_cons, r_nil, r_cl1, r_cl2, r_cl3, rets_rt, rets_nx, r_B, r_T, r_asB, r_cmp, r_add, r_sub, q_for, i_of, i_rg, i_st, q_par, r_mIf, r_bYes, r_mLc]
    rw [r_reprT (by omega) hsm, r_eqS (okT ps) (okT ps)]
    exact ⟨by simp, f3.trans y4, c', y2, by omega, y1⟩
end MP

namespace Z
open PySem PySem.Spec PyProof.Rows L2 MP
set_option maxRecDepth 100000
/-! ### the text -/
def topS (i : Nat) : Stmt := PySem.Challenge.pw_lookpast_k01_ways_and_steps.main.body.getD i (.Pass ⟨0, 0, 0, 0⟩)
abbrev st_look_person : Stmt := topS 3
abbrev N_look_person : List Str := ["state", "person"]
theorem sc_look_person : FnScope N_look_person ["state", "person"] (defScope st_look_person) := ⟨rfl, rfl, rfl, by decide +kernel, rfl, by decide +kernel, by decide +kernel⟩
abbrev st_way_of : Stmt := topS 4
abbrev N_way_of : List Str := ["state", "person", "met", "here"]
theorem sc_way_of : FnScope N_way_of ["state", "person"] (defScope st_way_of) := ⟨rfl, rfl, rfl, by decide +kernel, rfl, by decide +kernel, by decide +kernel⟩
abbrev st_way : Stmt := topS 5
abbrev N_way : List Str := ["state", "person"]
theorem sc_way : FnScope N_way ["state", "person"] (defScope st_way) := ⟨rfl, rfl, rfl, by decide +kernel, rfl, by decide +kernel, by decide +kernel⟩
abbrev st_person_after : Stmt := topS 6
abbrev N_person_after : List Str := ["state", "person", "steps", "met", "begin"]
theorem sc_person_after : FnScope N_person_after ["state", "person", "steps"] (defScope st_person_after) := ⟨rfl, rfl, rfl, by decide +kernel, rfl, by decide +kernel, by decide +kernel⟩
abbrev st_law_box : Stmt := topS 8
abbrev N_law_box : List Str := ["_law_script", "_law_k", "_law_cell"]
theorem sc_law_box : FnScope N_law_box ["_law_script", "_law_k"] (defScope st_law_box) := ⟨rfl, rfl, rfl, by decide +kernel, rfl, by decide +kernel, by decide +kernel⟩
abbrev st_law_take : Stmt := topS 9
abbrev N_law_take : List Str := ["_law_box_here", "_law_span", "_law_found", "_law_once"]
theorem sc_law_take : FnScope N_law_take ["_law_box_here", "_law_span"] (defScope st_law_take) := ⟨rfl, rfl, rfl, by decide +kernel, rfl, by decide +kernel, by decide +kernel⟩
abbrev st_law_cells : Stmt := topS 10
abbrev N_law_cells : List Str := ["_law_script", "_law_most", "_law_cells_here", "_law_k", "_law_cell"]
theorem sc_law_cells : FnScope N_law_cells ["_law_script", "_law_most"] (defScope st_law_cells) := ⟨rfl, rfl, rfl, by decide +kernel, rfl, by decide +kernel, by decide +kernel⟩
abbrev st_law_of : Stmt := topS 11
abbrev N_law_of : List Str := ["_law_box_here", "_law_some"]
theorem sc_law_of : FnScope N_law_of ["_law_box_here", "_law_some"] (defScope st_law_of) := ⟨rfl, rfl, rfl, by decide +kernel, rfl, by decide +kernel, by decide +kernel⟩
abbrev st_law_strewn : Stmt := topS 12
abbrev N_law_strewn : List Str := ["_law_box_here", "_law_some", "_law_left", "_law_found"]
theorem sc_law_strewn : FnScope N_law_strewn ["_law_box_here", "_law_some"] (defScope st_law_strewn) := ⟨rfl, rfl, rfl, by decide +kernel, rfl, by decide +kernel, by decide +kernel⟩
abbrev st_law_same : Stmt := topS 13
abbrev N_law_same : List Str := ["_law_found", "_law_due", "_law_one", "_law_two"]
theorem sc_law_same : FnScope N_law_same ["_law_found", "_law_due"] (defScope st_law_same) := ⟨rfl, rfl, rfl, by decide +kernel, rfl, by decide +kernel, by decide +kernel⟩
abbrev st_law_part : Stmt := topS 14
abbrev N_law_part : List Str := ["_law_box_here", "_law_size", "_law_sort", "_law_ringed", "_law_found", "_law_who"]
theorem sc_law_part : FnScope N_law_part ["_law_box_here", "_law_size"] (defScope st_law_part) := ⟨rfl, rfl, rfl, by decide +kernel, rfl, by decide +kernel, by decide +kernel⟩
abbrev st_law_mixed : Stmt := topS 15
abbrev N_law_mixed : List Str := ["_law_box_here", "_law_found", "_law_tags", "_law_here", "_law_who", "_law_aim"]
theorem sc_law_mixed : FnScope N_law_mixed ["_law_box_here", "_law_found"] (defScope st_law_mixed) := ⟨rfl, rfl, rfl, by decide +kernel, rfl, by decide +kernel, by decide +kernel⟩
abbrev st_law_drawn : Stmt := topS 16
abbrev N_law_drawn : List Str := ["_law_box_here", "_law_most", "_law_size", "_law_found", "_law_left", "_law_some", "_law_aim"]
theorem sc_law_drawn : FnScope N_law_drawn ["_law_box_here", "_law_most"] (defScope st_law_drawn) := ⟨rfl, rfl, rfl, by decide +kernel, rfl, by decide +kernel, by decide +kernel⟩
abbrev st_law_met : Stmt := topS 17
abbrev N_law_met : List Str := ["_law_here", "_law_who", "_law_found"]
theorem sc_law_met : FnScope N_law_met ["_law_here", "_law_who"] (defScope st_law_met) := ⟨rfl, rfl, rfl, by decide +kernel, rfl, by decide +kernel, by decide +kernel⟩
abbrev st_law_after : Stmt := topS 18
abbrev N_law_after : List Str := ["_law_here", "_law_who", "_law_far", "_law_found", "_law_lap"]
theorem sc_law_after : FnScope N_law_after ["_law_here", "_law_who", "_law_far"] (defScope st_law_after) := ⟨rfl, rfl, rfl, by decide +kernel, rfl, by decide +kernel, by decide +kernel⟩
abbrev st_law_right : Stmt := topS 19
abbrev N_law_right : List Str := ["_law_box_here", "_law_here", "_law_kept", "_law_size", "_law_who", "_law_due", "_law_heard", "_law_at", "_law_far", "_law_turn"]
theorem sc_law_right : FnScope N_law_right ["_law_box_here"] (defScope st_law_right) := ⟨rfl, rfl, rfl, by decide +kernel, rfl, by decide +kernel, by decide +kernel⟩
abbrev st_law : Stmt := topS 20
abbrev N_law : List Str := ["_law_script", "_law_cells_here", "_law_k", "_law_box_here", "_law_turn"]
theorem sc_law : FnScope N_law ["_law_script"] (defScope st_law) := ⟨rfl, rfl, rfl, by decide +kernel, rfl, by decide +kernel, by decide +kernel⟩
/-! ### what the top has left -/
structure Tx (K : PySem.W.Frag) (mg : Str → Option Value) where
  f_look_person : Addr
  d_look_person : FuncData
  F_look_person : Fun K "look_person" "look_person" st_look_person f_look_person d_look_person
  g_look_person : mg "look_person" = some (.ref f_look_person)
  f_way_of : Addr
  d_way_of : FuncData
  F_way_of : Fun K "way_of" "way_of" st_way_of f_way_of d_way_of
  g_way_of : mg "way_of" = some (.ref f_way_of)
  f_way : Addr
  d_way : FuncData
  F_way : Fun K "way" "way" st_way f_way d_way
  g_way : mg "way" = some (.ref f_way)
  f_person_after : Addr
  d_person_after : FuncData
  F_person_after : Fun K "person_after" "person_after" st_person_after f_person_after d_person_after
  g_person_after : mg "person_after" = some (.ref f_person_after)
  f_law_box : Addr
  d_law_box : FuncData
  F_law_box : Fun K "_law_box" "_law_box" st_law_box f_law_box d_law_box
  g_law_box : mg "_law_box" = some (.ref f_law_box)
  f_law_take : Addr
  d_law_take : FuncData
  F_law_take : Fun K "_law_take" "_law_take" st_law_take f_law_take d_law_take
  g_law_take : mg "_law_take" = some (.ref f_law_take)
  f_law_cells : Addr
  d_law_cells : FuncData
  F_law_cells : Fun K "_law_cells" "_law_cells" st_law_cells f_law_cells d_law_cells
  g_law_cells : mg "_law_cells" = some (.ref f_law_cells)
  f_law_of : Addr
  d_law_of : FuncData
  F_law_of : Fun K "_law_of" "_law_of" st_law_of f_law_of d_law_of
  g_law_of : mg "_law_of" = some (.ref f_law_of)
  f_law_strewn : Addr
  d_law_strewn : FuncData
  F_law_strewn : Fun K "_law_strewn" "_law_strewn" st_law_strewn f_law_strewn d_law_strewn
  g_law_strewn : mg "_law_strewn" = some (.ref f_law_strewn)
  f_law_same : Addr
  d_law_same : FuncData
  F_law_same : Fun K "_law_same" "_law_same" st_law_same f_law_same d_law_same
  g_law_same : mg "_law_same" = some (.ref f_law_same)
  f_law_part : Addr
  d_law_part : FuncData
  F_law_part : Fun K "_law_part" "_law_part" st_law_part f_law_part d_law_part
  g_law_part : mg "_law_part" = some (.ref f_law_part)
  f_law_mixed : Addr
  d_law_mixed : FuncData
  F_law_mixed : Fun K "_law_mixed" "_law_mixed" st_law_mixed f_law_mixed d_law_mixed
  g_law_mixed : mg "_law_mixed" = some (.ref f_law_mixed)
  f_law_drawn : Addr
  d_law_drawn : FuncData
  F_law_drawn : Fun K "_law_drawn" "_law_drawn" st_law_drawn f_law_drawn d_law_drawn
  g_law_drawn : mg "_law_drawn" = some (.ref f_law_drawn)
  f_law_met : Addr
  d_law_met : FuncData
  F_law_met : Fun K "_law_met" "_law_met" st_law_met f_law_met d_law_met
  g_law_met : mg "_law_met" = some (.ref f_law_met)
  f_law_after : Addr
  d_law_after : FuncData
  F_law_after : Fun K "_law_after" "_law_after" st_law_after f_law_after d_law_after
  g_law_after : mg "_law_after" = some (.ref f_law_after)
  f_law_right : Addr
  d_law_right : FuncData
  F_law_right : Fun K "_law_right" "_law_right" st_law_right f_law_right d_law_right
  g_law_right : mg "_law_right" = some (.ref f_law_right)
  f_law : Addr
  d_law : FuncData
  F_law : Fun K "law" "law" st_law f_law d_law
  g_law : mg "law" = some (.ref f_law)
  n_abs : mg "abs" = none
  n_all : mg "all" = none
  n_bool : mg "bool" = none
  n_enumerate : mg "enumerate" = none
  n_int : mg "int" = none
  n_isinstance : mg "isinstance" = none
  n_len : mg "len" = none
  n_list : mg "list" = none
  n_range : mg "range" = none
  n_repr : mg "repr" = none
  n_str : mg "str" = none
  n_tuple : mg "tuple" = none
  n_zip : mg "zip" = none
/-! ### the mirrors -/
def M_look_person : List PV → Ms → Out PV := mFn 0 (sIf (bNot (mB (mChain (mC (.int 0)) (mVar 1) (mL (mCons (mVar 0) mNil) oLen) oLe oLt)))
  sFail
  sNext)
def M_way_of : List PV → Ms → Out PV := mFn 2 (sSeq (sPar 2 3 mNewK (mSub (mVar 0) (mVar 1)))
  (sSeq (sWhile (mB (m2 (mVar 3) (mVar 2) oNotIn))
  (sSeq (sPut (mVar 2) (mVar 3) (mC (.bl true)))
  (sSet 3 (mSub (mVar 0) (mVar 3)))))
  (sRet (mL (mCons (mVar 2) mNil) oListOf))))
def M_way : List PV → Ms → Out PV := mFn 0 (sSeq (sDrop (mL (mCons (mVar 0) (mCons (mVar 1) mNil)) (cl 2 M_look_person)))
  (sRet (mL (mCons (mVar 0) (mCons (mVar 1) mNil)) (cl 2 M_way_of))))
def M_person_after : List PV → Ms → Out PV := mFn 2 (sSeq (sDrop (mL (mCons (mVar 0) (mCons (mVar 1) mNil)) (cl 2 M_look_person)))
  (sSeq (sIf (mB (m2 (mVar 2) (mC (.int 0)) oEq))
  (sRet (mVar 1))
  sNext)
  (sSeq (sSet 3 (mL (mCons (mVar 0) (mCons (mVar 1) mNil)) (cl 2 M_way_of)))
  (sSeq (sSet 4 (mMeth (mVar 3) (mCons (mSub (mVar 0) (mSub (mVar 3) (m1 (mC (.int 1)) oNeg))) mNil) oIndex))
  (sSeq (sIf (mB (m2 (mVar 2) (mL (mCons (mVar 3) mNil) oLen) oLe))
  (sRet (mSub (mVar 3) (m2 (mVar 2) (mC (.int 1)) oSub)))
  sNext)
  (sRet (mSub (mVar 3) (m2 (mVar 4) (m2 (m2 (m2 (mVar 2) (mC (.int 1)) oSub) (mVar 4) oSub) (m2 (mL (mCons (mVar 3) mNil) oLen) (mVar 4) oSub) oMod) oAdd))))))))
def M_law_box : List PV → Ms → Out PV := mFn 1 (sSeq (sSet 2 (mIf (mB (m2 (mVar 1) (mL (mCons (mVar 0) mNil) oLen) oLt)) (mSub (mVar 0) (mVar 1)) (mC (.int 0))))
  (sRet (mL (mCons (m2 (mL (mCons (mVar 2) mNil) oAbs) (mL (mCons (m2 (mL (mCons (mVar 2) mNil) oAbs) (m2 (mC (.int 10)) (mC (.int 18)) oPow) oGe) mNil) oInt) oMul) (mCons (m2 (m2 (m2 (mVar 2) (mC (.int 2305843009213693951)) oMod) (m2 (mC (.int 7919)) (mVar 1) oMul) oAdd) (mC (.int 23)) oAdd) (mCons (mC (.int 0)) mNil))) oList)))
def M_law_take : Nat → List PV → Ms → Out PV
  | 0 => fun _ _ => .fail
  | d + 1 => mFn 2 (sSeq (sIf (mB (m2 (mSub (mVar 0) (mC (.int 0))) (mC (.int 0)) oGt))
  (sSeq (sSet 2 (m2 (mSub (mVar 0) (mC (.int 0))) (mVar 1) oMod))
  (sSeq (sPut (mVar 0) (mC (.int 0)) (m2 (mSub (mVar 0) (mC (.int 0))) (mVar 1) oDiv))
  (sRet (mVar 2))))
  sNext)
  (sSeq (sIf (mB (m2 (mVar 1) (m2 (mC (.int 10)) (mC (.int 7)) oPow) oGt))
  (sRet (m2 (m2 (mL (mCons (mVar 0) (mCons (m2 (mC (.int 10)) (mC (.int 7)) oPow) mNil)) (cl 2 (M_law_take d))) (m2 (m2 (mC (.int 10)) (mC (.int 7)) oPow) (mL (mCons (mVar 0) (mCons (m2 (m2 (m2 (mVar 1) (mC (.int 1)) oSub) (m2 (mC (.int 10)) (mC (.int 7)) oPow) oDiv) (mC (.int 1)) oAdd) mNil)) (cl 2 (M_law_take d))) oMul) oAdd) (mVar 1) oMod))
  sNext)
  (sSeq (sPut (mVar 0) (mC (.int 2)) (m2 (mSub (mVar 0) (mC (.int 2))) (mC (.int 1)) oAdd))
  (sSeq (sSet 3 (m2 (m2 (m2 (mSub (mVar 0) (mC (.int 1))) (m2 (mC (.int 39373)) (mSub (mVar 0) (mC (.int 2))) oMul) oAdd) (mC (.int 5)) oPow) (mC (.int 2147483647)) oMod))
  (sRet (m2 (m2 (m2 (m2 (m2 (mVar 3) (m2 (m2 (mVar 3) (mC (.int 40009)) oMod) (mC (.int 7)) oAdd) oMul) (m2 (mSub (mVar 0) (mC (.int 2))) (mC (.int 7919)) oMul) oAdd) (mC (.int 2147483629)) oMod) (mC (.int 64)) oDiv) (mVar 1) oMod))))))
def M_law_cells : List PV → Ms → Out PV := mFn 3 (sSeq (sSet 2 (mL (mCons (mCut (mVar 0) (mC .non) (onlyI (mVar 1))) mNil) oListOf))
  (sSeq (sFor (iSt enmOf (mCons (mCut (mVar 0) (onlyI (mVar 1)) (onlyI (mC (.int 63)))) mNil)) (gTp 2 (gCn (gNm 3) (gCn (gNm 4) gNl)))
  (sPut (mVar 2) (m2 (mVar 3) (mVar 1) oMod) (m2 (mSub (mVar 2) (m2 (mVar 3) (mVar 1) oMod)) (m2 (mVar 4) (m2 (mVar 3) (mC (.int 2)) oAdd) oMul) oAdd)))
  (sRet (mIf (mB (m2 (mVar 2) (mL mNil oList) oNe)) (mVar 2) (mL (mCons (mC (.int 0)) mNil) oList)))))
def M_law_of : List PV → Ms → Out PV := mFn 0 (sRet (mSub (mVar 1) (mL (mCons (mVar 0) (mCons (mL (mCons (mVar 1) mNil) oLen) mNil)) (cl 2 (M_law_take 4)))))
def M_law_strewn : List PV → Ms → Out PV := mFn 2 (sSeq (sPar 2 3 (mL (mCons (mVar 1) mNil) oListOf) (mL mNil oList))
  (sSeq (sWhile (mB (m2 (mVar 2) (mL mNil oList) oNe))
  (sDrop (mMeth (mVar 3) (mCons (mMeth (mVar 2) (mCons (mL (mCons (mVar 0) (mCons (mL (mCons (mVar 2) mNil) oLen) mNil)) (cl 2 (M_law_take 4))) mNil) oPop) mNil) oAppend)))
  (sRet (mVar 3))))
def M_law_same : Nat → List PV → Ms → Out PV
  | 0 => fun _ _ => .fail
  | d + 1 => mFn 2 (sSeq (sIf (mT (m1 (mVar 1) (oIsi ["list", "tuple"])))
  (sSeq (sIf (bOr (mB (m2 (m1 (mVar 0) (oIsi ["list"])) (m1 (mVar 1) (oIsi ["list"])) oNe)) (mB (m2 (m1 (mVar 0) (oIsi ["tuple"])) (m1 (mVar 1) (oIsi ["tuple"])) oNe)))
  (sRet (mC (.bl false)))
  sNext)
  (sRet (mAnd (m2 (mL (mCons (mVar 0) mNil) oLen) (mL (mCons (mVar 1) mNil) oLen) oEq) (mL (mCons (mLc (iSt zipOf (mCons (mVar 0) (mCons (mVar 1) mNil))) (gTp 2 (gCn (gNm 2) (gCn (gNm 3) gNl))) bYes (mL (mCons (mVar 2) (mCons (mVar 3) mNil)) (cl 2 (M_law_same d))) [2, 3]) mNil) oAll))))
  sNext)
  (sSeq (sIf (bOr (mB (m2 (mVar 1) (mC .non) oIsN)) (mT (m1 (mVar 1) (oIsi ["str", "bool"]))))
  (sRet (mAnd (m2 (mVar 0) (mVar 1) oEq) (mAnd (m2 (m1 (mVar 0) (oIsi ["bool"])) (m1 (mVar 1) (oIsi ["bool"])) oEq) (m2 (m2 (mVar 0) (mC .non) oIsN) (m2 (mVar 1) (mC .non) oIsN) oEq))))
  sNext)
  (sRet (mAnd (m1 (mVar 0) (oIsi ["int"])) (mAnd (mNot (m1 (mVar 0) (oIsi ["bool"]))) (m2 (mVar 0) (mVar 1) oEq))))))
def M_law_part : List PV → Ms → Out PV := mFn 4 (sSeq (sSet 2 (mL (mCons (mVar 0) (mCons (mC (.int 5)) mNil)) (cl 2 (M_law_take 4))))
  (sSeq (sPar 3 4 (mSub (mL (mCons (mC (.int 0)) (mCons (mC (.int 1)) (mCons (mVar 1) (mCons (m2 (mC (.int 1)) (mL (mCons (mVar 0) (mCons (mVar 1) mNil)) (cl 2 (M_law_take 4))) oAdd) (mCons (mC (.int 1)) mNil))))) oList) (mVar 2)) (mL mNil oList))
  (sSeq (sFor (iRg rng1 (mCons (mVar 1) mNil)) (gNm 5)
  (sIf (mB (m2 (mVar 2) (mC (.int 0)) oEq))
  (sDrop (mMeth (mVar 4) (mCons (mL (mCons (mVar 0) (mCons (mVar 1) mNil)) (cl 2 (M_law_take 4))) mNil) oAppend))
  (sIf (mB (m2 (mVar 5) (mVar 3) oLt))
  (sDrop (mMeth (mVar 4) (mCons (m2 (m2 (mVar 5) (mC (.int 1)) oAdd) (mVar 3) oMod) mNil) oAppend))
  (sDrop (mMeth (mVar 4) (mCons (mIf (mB (m2 (mVar 2) (mC (.int 4)) oEq)) (m2 (mVar 5) (mC (.int 1)) oSub) (mL (mCons (mVar 0) (mCons (mVar 5) mNil)) (cl 2 (M_law_take 4)))) mNil) oAppend)))))
  (sRet (mVar 4)))))
def M_law_mixed : List PV → Ms → Out PV := mFn 4 (sSeq (sPar 2 3 (mL (mCons (mVar 0) (mCons (m1 (mL (mCons (mVar 1) mNil) oLen) oListRg1) mNil)) (cl 2 M_law_strewn)) (m2 (mL (mCons (mC (.int 0)) mNil) oList) (mL (mCons (mVar 1) mNil) oLen) oMul))
  (sSeq (sFor (iSt enmOf (mCons (mVar 1) mNil)) (gTp 2 (gCn (gNm 4) (gCn (gNm 5) gNl)))
  (sPut (mVar 3) (mSub (mVar 2) (mVar 4)) (mSub (mVar 2) (mVar 5))))
  (sRet (mL (mCons (mVar 3) mNil) oTupOf))))
def M_law_drawn : List PV → Ms → Out PV := mFn 5 (sSeq (sAsg (gTp 2 (gCn (gNm 2) (gCn (gNm 3) gNl))) (mL (mCons (m2 (mC (.int 1)) (mL (mCons (mVar 0) (mCons (mVar 1) mNil)) (cl 2 (M_law_take 4))) oAdd) (mCons (mL mNil oList) mNil)) oTup))
  (sSeq (sWhile (mB (m2 (mL (mCons (mVar 3) mNil) oLen) (mVar 2) oLt))
  (sSeq (sSet 4 (m2 (mVar 2) (mL (mCons (mVar 3) mNil) oLen) oSub))
  (sSeq (sSet 5 (mL (mCons (mVar 0) (mCons (mL (mCons (mVar 0) (mCons (mL (mCons (mVar 4) (mCons (mVar 4) (mCons (m2 (mC (.int 1)) (mL (mCons (mVar 0) (mCons (mVar 4) mNil)) (cl 2 (M_law_take 4))) oAdd) mNil))) oList) mNil)) (cl 2 M_law_of)) mNil)) (cl 2 M_law_part)))
  (sSet 3 (m2 (mVar 3) (mLc (iOf (mVar 5)) (gNm 6) bYes (m2 (mL (mCons (mVar 3) mNil) oLen) (mVar 6) oAdd) [6]) oAdd)))))
  (sRet (mL (mCons (mVar 0) (mCons (mVar 3) mNil)) (cl 2 M_law_mixed)))))
def M_law_met : List PV → Ms → Out PV := mFn 1 (sSeq (sSet 2 (mL mNil oList))
  (sSeq (sWhile (mB (m2 (mSub (mVar 0) (mVar 1)) (mVar 2) oNotIn))
  (sSeq (sSet 1 (mSub (mVar 0) (mVar 1)))
  (sDrop (mMeth (mVar 2) (mCons (mVar 1) mNil) oAppend))))
  (sRet (mVar 2))))
def M_law_after : List PV → Ms → Out PV := mFn 2 (sSeq (sSet 3 (mL (mCons (mVar 0) (mCons (mVar 1) mNil)) (cl 2 M_law_met)))
  (sSeq (sIf (mB (m2 (mVar 2) (mC (.int 0)) oEq))
  (sRet (mVar 1))
  sNext)
  (sSeq (sIf (mB (m2 (mVar 2) (mL (mCons (mVar 3) mNil) oLen) oLe))
  (sRet (mSub (mVar 3) (m2 (mVar 2) (mC (.int 1)) oSub)))
  sNext)
  (sSeq (sSet 4 (mCut (mVar 3) (onlyI (mMeth (mVar 3) (mCons (mSub (mVar 0) (mSub (mVar 3) (m1 (mC (.int 1)) oNeg))) mNil) oIndex)) (mC .non)))
  (sRet (mSub (mVar 4) (m2 (m2 (m2 (mVar 2) (mC (.int 1)) oSub) (m2 (mL (mCons (mVar 3) mNil) oLen) (mL (mCons (mVar 4) mNil) oLen) oSub) oSub) (mL (mCons (mVar 4) mNil) oLen) oMod)))))))
def M_law_right : List PV → Ms → Out PV := mFn 9 (sSeq (sSet 1 (mL (mCons (mVar 0) (mCons (mC (.int 20)) mNil)) (cl 2 M_law_drawn)))
  (sSeq (sPar 2 3 (mL (mCons (mVar 1) mNil) oRepr) (mL (mCons (mVar 1) mNil) oLen))
  (sSeq (sFor (iOf (mCut (mL (mCons (mVar 0) (mCons (m1 (mVar 3) oListRg1) mNil)) (cl 2 M_law_strewn)) (mC .non) (onlyI (mC (.int 6))))) (gNm 4)
  (sSeq (sSet 5 (mL (mCons (mVar 1) (mCons (mVar 4) mNil)) (cl 2 M_law_met)))
  (sSeq (sSet 6 (mL (mCons (mL (mCons (mVar 1) (mCons (mVar 4) mNil)) (cl 2 M_way)) (mCons (mCallK mNil (mCons (mVar 4) (mCons (mL (mCons (mVar 1) mNil) oListOf) mNil)) 0 2 [1, 0] M_way) mNil)) oList))
  (sSeq (sIf (bNot (mT (mL (mCons (mVar 6) (mCons (mL (mCons (mVar 5) (mCons (mVar 5) mNil)) oList) mNil)) (cl 2 (M_law_same 6)))))
  (sRet (mC (.bl false)))
  sNext)
  (sSeq (sDrop (mMeth (mSub (mVar 6) (mC (.int 0))) (mCons (mC (.str ("more" : Str))) mNil) oAppend))
  (sSeq (sDrop (mMeth (mSub (mVar 6) (mC (.int 1))) mNil oReverse))
  (sSeq (sIf (bNot (mT (mL (mCons (mL (mCons (mVar 1) (mCons (mVar 4) mNil)) (cl 2 M_way)) (mCons (mVar 5) mNil)) (cl 2 (M_law_same 6)))))
  (sRet (mC (.bl false)))
  sNext)
  (sSeq (sSet 7 (mVar 4))
  (sSeq (sFor (iRg rng1 (mCons (m2 (m2 (mC (.int 3)) (mVar 3) oMul) (mC (.int 1)) oAdd) mNil)) (gNm 8)
  (sSeq (sIf (bNot (mT (mL (mCons (mL (mCons (mVar 1) (mCons (mVar 4) (mCons (mVar 8) mNil))) (cl 3 M_person_after)) (mCons (mVar 7) mNil)) (cl 2 (M_law_same 6)))))
  (sRet (mC (.bl false)))
  sNext)
  (sSet 7 (mSub (mVar 1) (mVar 7)))))
  (sFor (iRg rng1 (mCons (mC (.int 3)) mNil)) (gNm 9)
  (sSeq (sSet 8 (m2 (mL (mCons (mVar 0) (mCons (mL (mCons (mVar 0) (mCons (mL (mCons (mC (.int 100)) (mCons (m2 (mC (.int 10)) (mC (.int 6)) oPow) (mCons (m2 (mC (.int 10)) (mC (.int 12)) oPow) mNil))) oList) mNil)) (cl 2 M_law_of)) mNil)) (cl 2 (M_law_take 4))) (mC (.int 1)) oAdd))
  (sSeq (sSet 6 (mL (mCons (mL (mCons (mVar 1) (mCons (mVar 4) (mCons (mVar 8) mNil))) (cl 3 M_person_after)) (mCons (mCallK mNil (mCons (mVar 8) (mCons (mVar 4) (mCons (mL (mCons (mVar 1) mNil) oListOf) mNil))) 0 3 [2, 1, 0] M_person_after) mNil)) oList))
  (sIf (bNot (mT (mL (mCons (mVar 6) (mCons (m2 (mL (mCons (mL (mCons (mVar 1) (mCons (mVar 4) (mCons (mVar 8) mNil))) (cl 3 M_law_after)) mNil) oList) (mC (.int 2)) oMul) mNil)) (cl 2 (M_law_same 6)))))
  (sRet (mC (.bl false)))
  sNext)))))))))))))
  (sRet (m2 (mL (mCons (mVar 1) mNil) oRepr) (mVar 2) oEq)))))
def M_law : List PV → Ms → Out PV := mFn 4 (sSeq (sSet 1 (mL (mCons (mVar 0) (mCons (mC (.int 3)) mNil)) (cl 2 M_law_cells)))
  (sSeq (sFor (iRg rng1 (mCons (mL (mCons (mVar 1) mNil) oLen) mNil)) (gNm 2)
  (sSeq (sSet 3 (mL (mCons (mVar 1) (mCons (mVar 2) mNil)) (cl 2 M_law_box)))
  (sIf (bNot (mT (mL (mCons (mLc (iRg rng1 (mCons (mC (.int 3)) mNil)) (gNm 4) bYes (mL (mCons (mVar 3) mNil) (cl 1 M_law_right)) [4]) mNil) oAll)))
  (sRet (mC (.bl false)))
  sNext)))
  (sRet (mC (.bl true)))))
/-! ### the defs -/
section
variable {K : PySem.W.Frag} {mg : Str → Option Value}
theorem b_look_person (T : Tx K mg) : Binds K T.d_look_person ["state", "person"] [] := T.F_look_person.binds fun _ _ _ _ _ _ us hl => match us, hl with | [_, _], _ => rfl
theorem k_look_person {P : Program} {w : World} {base : Heap} (T : Tx K mg) : FnOk P w K mg base (L2.CX P w) 1 T.f_look_person T.d_look_person ["state", "person"] (spF K mg 2 M_look_person) :=
  fn_ok T.F_look_person sc_look_person rfl fun cdv A outer s H E hr =>
    (ss_one (ss_if (sb_not (sb_chain op_le op_lt o_cmp o_cmp s_int (s_var 1) (s_callB call_len4 o_len T.n_len (by decide +kernel) (sa_cons (s_var 0) sa_nil))))
    (ss_one ss_never)
    ss_nil))
theorem b_way_of (T : Tx K mg) : Binds K T.d_way_of ["state", "person"] [] := T.F_way_of.binds fun _ _ _ _ _ _ us hl => match us, hl with | [_, _], _ => rfl
theorem k_way_of {P : Program} {w : World} {base : Heap} (T : Tx K mg) : FnOk P w K mg base (L2.CX P w) 1 T.f_way_of T.d_way_of ["state", "person"] (spF K mg 2 M_way_of) :=
  fn_ok T.F_way_of sc_way_of rfl fun cdv A outer s H E hr =>
    (ss_cons (ss_par (i := 2) (j := 3) rfl sc_way_of.nd s_newK (s_sub (hu_of hr) (s_var 0) (s_var 1)))
    (ss_cons (ss_while (passes_of rfl) (sb_notin (hu65 hr) (s_var 3) (s_var 2))
    (ss_cons (ss_put (hu_of hr) (s_var 2) (s_var 3) s_bl)
    (ss_one (ss_set (i := 3) sc_way_of.nd (s_sub (hu_of hr) (s_var 0) (s_var 3))))))
    (ss_one (ss_ret (s_callTy (call_listOf rfl) o_listOf T.n_list (by decide +kernel) (sa_cons (s_var 2) sa_nil))))))
theorem b_way (T : Tx K mg) : Binds K T.d_way ["state", "person"] [] := T.F_way.binds fun _ _ _ _ _ _ us hl => match us, hl with | [_, _], _ => rfl
theorem k_way {P : Program} {w : World} {base : Heap} (T : Tx K mg) : FnOk P w K mg base (L2.CX P w) 2 T.f_way T.d_way ["state", "person"] (spF K mg 2 M_way) :=
  fn_ok T.F_way sc_way rfl fun cdv A outer s H E hr =>
    (ss_cons (ss_expr (s_call (k_look_person T) rfl (hr.mono (by first | decide | exact Nat.le_add_right_of_le (by decide) | omega)) T.g_look_person T.F_look_person.kp (b_look_person T) (takes_of rfl rfl rfl rfl) (sa_cons (s_var 0) (sa_cons (s_var 1) sa_nil))))
    (ss_one (ss_ret (s_call (k_way_of T) rfl (hr.mono (by first | decide | exact Nat.le_add_right_of_le (by decide) | omega)) T.g_way_of T.F_way_of.kp (b_way_of T) (takes_of rfl rfl rfl rfl) (sa_cons (s_var 0) (sa_cons (s_var 1) sa_nil))))))
theorem b_person_after (T : Tx K mg) : Binds K T.d_person_after ["state", "person", "steps"] [] := T.F_person_after.binds fun _ _ _ _ _ _ us hl => match us, hl with | [_, _, _], _ => rfl
theorem k_person_after {P : Program} {w : World} {base : Heap} (T : Tx K mg) : FnOk P w K mg base (L2.CX P w) 2 T.f_person_after T.d_person_after ["state", "person", "steps"] (spF K mg 3 M_person_after) :=
  fn_ok T.F_person_after sc_person_after rfl fun cdv A outer s H E hr =>
    (ss_cons (ss_expr (s_call (k_look_person T) rfl (hr.mono (by first | decide | exact Nat.le_add_right_of_le (by decide) | omega)) T.g_look_person T.F_look_person.kp (b_look_person T) (takes_of rfl rfl rfl rfl) (sa_cons (s_var 0) (sa_cons (s_var 1) sa_nil))))
    (ss_cons (ss_if (sb_cmp (op_eqD hr.units) o_eq (s_var 2) s_int)
    (ss_one (ss_ret (s_var 1)))
    ss_nil)
    (ss_cons (ss_set (i := 3) sc_person_after.nd (s_call (k_way_of T) rfl (hr.mono (by first | decide | exact Nat.le_add_right_of_le (by decide) | omega)) T.g_way_of T.F_way_of.kp (b_way_of T) (takes_of rfl rfl rfl rfl) (sa_cons (s_var 0) (sa_cons (s_var 1) sa_nil))))
    (ss_cons (ss_set (i := 4) sc_person_after.nd (s_bmL PySem.F.slot_list_index PySem.F.type_list_index mt_index o_index (s_var 3) (sa_cons (s_sub (hu_of hr) (s_var 0) (s_sub (hu_of hr) (s_var 3) (s_un un_neg o_neg s_int))) sa_nil)))
    (ss_cons (ss_if (sb_cmp op_le o_cmp (s_var 2) (s_callB call_len4 o_len T.n_len (by decide +kernel) (sa_cons (s_var 3) sa_nil)))
    (ss_one (ss_ret (s_sub (hu_of hr) (s_var 3) (s_op op_sub o_sub (s_var 2) s_int))))
    ss_nil)
    (ss_one (ss_ret (s_sub (hu_of hr) (s_var 3) (s_op op_add4 o_add (s_var 4) (s_op op_modN o_mod (s_op op_sub o_sub (s_op op_sub o_sub (s_var 2) s_int) (s_var 4)) (s_op op_sub o_sub (s_callB call_len4 o_len T.n_len (by decide +kernel) (sa_cons (s_var 3) sa_nil)) (s_var 4))))))))))))
theorem b_law_box (T : Tx K mg) : Binds K T.d_law_box ["_law_script", "_law_k"] [] := T.F_law_box.binds fun _ _ _ _ _ _ us hl => match us, hl with | [_, _], _ => rfl
theorem k_law_box {P : Program} {w : World} {base : Heap} (T : Tx K mg) : FnOk P w K mg base (L2.CX P w) 1 T.f_law_box T.d_law_box ["_law_script", "_law_k"] (spF K mg 2 M_law_box) :=
  fn_ok T.F_law_box sc_law_box rfl fun cdv A outer s H E hr =>
    (ss_cons (ss_set (i := 2) sc_law_box.nd (s_ifE (sb_cmp op_lt o_cmp (s_var 1) (s_callB call_len4 o_len T.n_len (by decide +kernel) (sa_cons (s_var 0) sa_nil))) (s_sub (hu_of hr) (s_var 0) (s_var 1)) s_int))
    (ss_one (ss_ret (s_list (sa_cons (s_op op_mul4 o_mul (s_callB call_abs o_abs T.n_abs (by decide +kernel) (sa_cons (s_var 2) sa_nil)) (s_callTy call_int1 o_int T.n_int (by decide +kernel) (sa_cons (s_cmp op_ge o_cmp (s_callB call_abs o_abs T.n_abs (by decide +kernel) (sa_cons (s_var 2) sa_nil)) (s_op op_pow o_pow s_int s_int)) sa_nil))) (sa_cons (s_op op_add4 o_add (s_op op_add4 o_add (s_op op_modN o_mod (s_var 2) s_int) (s_op op_mul4 o_mul s_int (s_var 1))) s_int) (sa_cons s_int sa_nil)))))))
theorem b_law_take (T : Tx K mg) : Binds K T.d_law_take ["_law_box_here", "_law_span"] [] := T.F_law_take.binds fun _ _ _ _ _ _ us hl => match us, hl with | [_, _], _ => rfl
theorem k_law_take {P : Program} {w : World} {base : Heap} (T : Tx K mg) : ∀ d, FnOk P w K mg base (L2.CX P w) (0 + d) T.f_law_take T.d_law_take ["_law_box_here", "_law_span"] (spF K mg 2 (M_law_take d))
  | 0 => fn_never
  | d + 1 =>
    have ih : FnOk P w K mg base (L2.CX P w) (0 + d) T.f_law_take T.d_law_take ["_law_box_here", "_law_span"] (spF K mg 2 (M_law_take d)) := k_law_take T d
    fn_ok T.F_law_take sc_law_take rfl fun cdv A outer s H E hr =>
    (ss_cons (ss_if (sb_cmp op_gt o_cmp (s_sub (hu_of hr) (s_var 0) s_int) s_int)
    (ss_cons (ss_set (i := 2) sc_law_take.nd (s_op op_modN o_mod (s_sub (hu_of hr) (s_var 0) s_int) (s_var 1)))
    (ss_cons (ss_put (hu_of hr) (s_var 0) s_int (s_op op_div4 o_div (s_sub (hu_of hr) (s_var 0) s_int) (s_var 1)))
    (ss_one (ss_ret (s_var 2)))))
    ss_nil)
    (ss_cons (ss_if (sb_cmp op_gt o_cmp (s_var 1) (s_op op_pow o_pow s_int s_int))
    (ss_one (ss_ret (s_op op_modN o_mod (s_op op_add4 o_add (s_call ih rfl hr T.g_law_take T.F_law_take.kp (b_law_take T) (takes_of rfl rfl rfl rfl) (sa_cons (s_var 0) (sa_cons (s_op op_pow o_pow s_int s_int) sa_nil))) (s_op op_mul4 o_mul (s_op op_pow o_pow s_int s_int) (s_call ih rfl hr T.g_law_take T.F_law_take.kp (b_law_take T) (takes_of rfl rfl rfl rfl) (sa_cons (s_var 0) (sa_cons (s_op op_add4 o_add (s_op op_div4 o_div (s_op op_sub o_sub (s_var 1) s_int) (s_op op_pow o_pow s_int s_int)) s_int) sa_nil))))) (s_var 1))))
    ss_nil)
    (ss_cons (ss_put (hu_of hr) (s_var 0) s_int (s_op op_add4 o_add (s_sub (hu_of hr) (s_var 0) s_int) s_int))
    (ss_cons (ss_set (i := 3) sc_law_take.nd (s_op op_modN o_mod (s_op op_pow o_pow (s_op op_add4 o_add (s_sub (hu_of hr) (s_var 0) s_int) (s_op op_mul4 o_mul s_int (s_sub (hu_of hr) (s_var 0) s_int))) s_int) s_int))
    (ss_one (ss_ret (s_op op_modN o_mod (s_op op_div4 o_div (s_op op_modN o_mod (s_op op_add4 o_add (s_op op_mul4 o_mul (s_var 3) (s_op op_add4 o_add (s_op op_modN o_mod (s_var 3) s_int) s_int)) (s_op op_mul4 o_mul (s_sub (hu_of hr) (s_var 0) s_int) s_int)) s_int) s_int) (s_var 1))))))))
theorem b_law_cells (T : Tx K mg) : Binds K T.d_law_cells ["_law_script", "_law_most"] [] := T.F_law_cells.binds fun _ _ _ _ _ _ us hl => match us, hl with | [_, _], _ => rfl
theorem k_law_cells {P : Program} {w : World} {base : Heap} (T : Tx K mg) : FnOk P w K mg base (L2.CX P w) 1 T.f_law_cells T.d_law_cells ["_law_script", "_law_most"] (spF K mg 2 M_law_cells) :=
  fn_ok T.F_law_cells sc_law_cells rfl fun cdv A outer s H E hr =>
    (ss_cons (ss_set (i := 2) sc_law_cells.nd (s_callTy (call_listOf rfl) o_listOf T.n_list (by decide +kernel) (sa_cons (s_slice (s_var 0) so_none (so_some (s_var 1))) sa_nil)))
    (ss_cons (ss_for (passes_of rfl) rfl (si_enum T.n_enumerate (sa_cons (s_slice (s_var 0) (so_some (s_var 1)) (so_some s_int)) sa_nil)) (sg_tup rfl (sgs_cons (sg_name (i := 3) sc_law_cells.nd) (sgs_cons (sg_name (i := 4) sc_law_cells.nd) sgs_nil)))
    (ss_one (ss_put (hu_of hr) (s_var 2) (s_op op_modN o_mod (s_var 3) (s_var 1)) (s_op op_add4 o_add (s_sub (hu_of hr) (s_var 2) (s_op op_modN o_mod (s_var 3) (s_var 1))) (s_op op_mul4 o_mul (s_var 4) (s_op op_add4 o_add (s_var 3) s_int))))))
    (ss_one (ss_ret (s_ifE (sb_cmp (op_neD hr.units) o_ne (s_var 2) (s_list sa_nil)) (s_var 2) (s_list (sa_cons s_int sa_nil)))))))
theorem b_law_of (T : Tx K mg) : Binds K T.d_law_of ["_law_box_here", "_law_some"] [] := T.F_law_of.binds fun _ _ _ _ _ _ us hl => match us, hl with | [_, _], _ => rfl
theorem k_law_of {P : Program} {w : World} {base : Heap} (T : Tx K mg) : FnOk P w K mg base (L2.CX P w) 5 T.f_law_of T.d_law_of ["_law_box_here", "_law_some"] (spF K mg 2 M_law_of) :=
  fn_ok T.F_law_of sc_law_of rfl fun cdv A outer s H E hr =>
    (ss_one (ss_ret (s_sub (hu_of hr) (s_var 1) (s_call (k_law_take T 4) rfl (hr.mono (by first | decide | exact Nat.le_add_right_of_le (by decide) | omega)) T.g_law_take T.F_law_take.kp (b_law_take T) (takes_of rfl rfl rfl rfl) (sa_cons (s_var 0) (sa_cons (s_callB call_len4 o_len T.n_len (by decide +kernel) (sa_cons (s_var 1) sa_nil)) sa_nil))))))
theorem b_law_strewn (T : Tx K mg) : Binds K T.d_law_strewn ["_law_box_here", "_law_some"] [] := T.F_law_strewn.binds fun _ _ _ _ _ _ us hl => match us, hl with | [_, _], _ => rfl
theorem k_law_strewn {P : Program} {w : World} {base : Heap} (T : Tx K mg) : FnOk P w K mg base (L2.CX P w) 5 T.f_law_strewn T.d_law_strewn ["_law_box_here", "_law_some"] (spF K mg 2 M_law_strewn) :=
  fn_ok T.F_law_strewn sc_law_strewn rfl fun cdv A outer s H E hr =>
    (ss_cons (ss_par (i := 2) (j := 3) rfl sc_law_strewn.nd (s_callTy (call_listOf rfl) o_listOf T.n_list (by decide +kernel) (sa_cons (s_var 1) sa_nil)) (s_list sa_nil))
    (ss_cons (ss_while (passes_of rfl) (sb_cmp (op_neD hr.units) o_ne (s_var 2) (s_list sa_nil))
    (ss_one (ss_expr (s_bmL PySem.F.slot_list_append PySem.F.type_list_append mt_append o_append (s_var 3) (sa_cons (s_bmL PySem.F.slot_list_pop PySem.F.type_list_pop mt_pop2 o_pop (s_var 2) (sa_cons (s_call (k_law_take T 4) rfl (hr.mono (by first | decide | exact Nat.le_add_right_of_le (by decide) | omega)) T.g_law_take T.F_law_take.kp (b_law_take T) (takes_of rfl rfl rfl rfl) (sa_cons (s_var 0) (sa_cons (s_callB call_len4 o_len T.n_len (by decide +kernel) (sa_cons (s_var 2) sa_nil)) sa_nil))) sa_nil)) sa_nil)))))
    (ss_one (ss_ret (s_var 3)))))
theorem b_law_same (T : Tx K mg) : Binds K T.d_law_same ["_law_found", "_law_due"] [] := T.F_law_same.binds fun _ _ _ _ _ _ us hl => match us, hl with | [_, _], _ => rfl
theorem k_law_same {P : Program} {w : World} {base : Heap} (T : Tx K mg) : ∀ d, FnOk P w K mg base (L2.CX P w) (0 + d) T.f_law_same T.d_law_same ["_law_found", "_law_due"] (spF K mg 2 (M_law_same d))
  | 0 => fn_never
  | d + 1 =>
    have ih : FnOk P w K mg base (L2.CX P w) (0 + d) T.f_law_same T.d_law_same ["_law_found", "_law_due"] (spF K mg 2 (M_law_same d)) := k_law_same T d
    fn_ok T.F_law_same sc_law_same rfl fun cdv A outer s H E hr =>
    (ss_cons (ss_if (sb_truth (s_isi2 ty_list ty_tuple (s_var 1) T.n_isinstance T.n_list (by decide +kernel) T.n_tuple (by decide +kernel)))
    (ss_cons (ss_if (sb_w (sw_or (sb_cmp (op_neD hr.units) o_ne (s_isi ty_list (s_var 0) T.n_isinstance T.n_list (by decide +kernel)) (s_isi ty_list (s_var 1) T.n_isinstance T.n_list (by decide +kernel))) (sw_or1 (sb_cmp (op_neD hr.units) o_ne (s_isi ty_tuple (s_var 0) T.n_isinstance T.n_tuple (by decide +kernel)) (s_isi ty_tuple (s_var 1) T.n_isinstance T.n_tuple (by decide +kernel))))))
    (ss_one (ss_ret s_bl))
    ss_nil)
    (ss_one (ss_ret (s_and (s_cmp (op_eqD hr.units) o_eq (s_callB call_len4 o_len T.n_len (by decide +kernel) (sa_cons (s_var 0) sa_nil)) (s_callB call_len4 o_len T.n_len (by decide +kernel) (sa_cons (s_var 1) sa_nil))) (s_one (s_callB (cr_all rfl) o_all T.n_all (by decide +kernel) (sa_cons (s_lc (own := [("_law_one", 2), ("_law_two", 3)]) rfl sc_law_same.nd (si_zip T.n_zip (sa_cons (s_var 0) (sa_cons (s_var 1) sa_nil))) (blkOk_by (own := [("_law_one", 2), ("_law_two", 3)]) (N := N_law_same) (sc := defScope st_law_same) (by decide +kernel)) (by decide) (fun _ _ _ _ _ => (sg_tup rfl (sgs_cons (sg_name (i := 2) sc_law_same.nd) (sgs_cons (sg_name (i := 3) sc_law_same.nd) sgs_nil)))) (fun _ _ _ _ _ => sif_nil) (fun _ _ _ _ _ => (s_call ih rfl hr T.g_law_same T.F_law_same.kp (b_law_same T) takes0 (sa_cons (s_var 2) (sa_cons (s_var 3) sa_nil))))) sa_nil)))))))
    ss_nil)
    (ss_cons (ss_if (sb_w (sw_or (sb_cmp op_isN o_isN (s_var 1) s_non) (sw_or1 (sb_truth (s_isi2 ty_str ty_bool (s_var 1) T.n_isinstance T.n_str (by decide +kernel) T.n_bool (by decide +kernel))))))
    (ss_one (ss_ret (s_and (s_cmp (op_eqD hr.units) o_eq (s_var 0) (s_var 1)) (s_and (s_cmp (op_eqD hr.units) o_eq (s_isi ty_bool (s_var 0) T.n_isinstance T.n_bool (by decide +kernel)) (s_isi ty_bool (s_var 1) T.n_isinstance T.n_bool (by decide +kernel))) (s_one (s_cmp (op_eqD hr.units) o_eq (s_cmp op_isN o_isN (s_var 0) s_non) (s_cmp op_isN o_isN (s_var 1) s_non)))))))
    ss_nil)
    (ss_one (ss_ret (s_and (s_isi ty_int (s_var 0) T.n_isinstance T.n_int (by decide +kernel)) (s_and (s_not (s_isi ty_bool (s_var 0) T.n_isinstance T.n_bool (by decide +kernel))) (s_one (s_cmp (op_eqD hr.units) o_eq (s_var 0) (s_var 1)))))))))
theorem b_law_part (T : Tx K mg) : Binds K T.d_law_part ["_law_box_here", "_law_size"] [] := T.F_law_part.binds fun _ _ _ _ _ _ us hl => match us, hl with | [_, _], _ => rfl
theorem k_law_part {P : Program} {w : World} {base : Heap} (T : Tx K mg) : FnOk P w K mg base (L2.CX P w) 5 T.f_law_part T.d_law_part ["_law_box_here", "_law_size"] (spF K mg 2 M_law_part) :=
  fn_ok T.F_law_part sc_law_part rfl fun cdv A outer s H E hr =>
    (ss_cons (ss_set (i := 2) sc_law_part.nd (s_call (k_law_take T 4) rfl (hr.mono (by first | decide | exact Nat.le_add_right_of_le (by decide) | omega)) T.g_law_take T.F_law_take.kp (b_law_take T) (takes_of rfl rfl rfl rfl) (sa_cons (s_var 0) (sa_cons s_int sa_nil))))
    (ss_cons (ss_par (i := 3) (j := 4) rfl sc_law_part.nd (s_sub (hu_of hr) (s_list (sa_cons s_int (sa_cons s_int (sa_cons (s_var 1) (sa_cons (s_op op_add4 o_add s_int (s_call (k_law_take T 4) rfl (hr.mono (by first | decide | exact Nat.le_add_right_of_le (by decide) | omega)) T.g_law_take T.F_law_take.kp (b_law_take T) (takes_of rfl rfl rfl rfl) (sa_cons (s_var 0) (sa_cons (s_var 1) sa_nil)))) (sa_cons s_int sa_nil)))))) (s_var 2)) (s_list sa_nil))
    (ss_cons (ss_for (passes_of rfl) rfl (si_range1 T.n_range (sa_cons (s_var 1) sa_nil)) (sg_name (i := 5) sc_law_part.nd)
    (ss_one (ss_if (sb_cmp (op_eqD hr.units) o_eq (s_var 2) s_int)
    (ss_one (ss_expr (s_bmL PySem.F.slot_list_append PySem.F.type_list_append mt_append o_append (s_var 4) (sa_cons (s_call (k_law_take T 4) rfl (hr.mono (by first | decide | exact Nat.le_add_right_of_le (by decide) | omega)) T.g_law_take T.F_law_take.kp (b_law_take T) (takes_of rfl rfl rfl rfl) (sa_cons (s_var 0) (sa_cons (s_var 1) sa_nil))) sa_nil))))
    (ss_one (ss_if (sb_cmp op_lt o_cmp (s_var 5) (s_var 3))
    (ss_one (ss_expr (s_bmL PySem.F.slot_list_append PySem.F.type_list_append mt_append o_append (s_var 4) (sa_cons (s_op op_modN o_mod (s_op op_add4 o_add (s_var 5) s_int) (s_var 3)) sa_nil))))
    (ss_one (ss_expr (s_bmL PySem.F.slot_list_append PySem.F.type_list_append mt_append o_append (s_var 4) (sa_cons (s_ifE (sb_cmp (op_eqD hr.units) o_eq (s_var 2) s_int) (s_op op_sub o_sub (s_var 5) s_int) (s_call (k_law_take T 4) rfl (hr.mono (by first | decide | exact Nat.le_add_right_of_le (by decide) | omega)) T.g_law_take T.F_law_take.kp (b_law_take T) (takes_of rfl rfl rfl rfl) (sa_cons (s_var 0) (sa_cons (s_var 5) sa_nil)))) sa_nil)))))))))
    (ss_one (ss_ret (s_var 4))))))
theorem b_law_mixed (T : Tx K mg) : Binds K T.d_law_mixed ["_law_box_here", "_law_found"] [] := T.F_law_mixed.binds fun _ _ _ _ _ _ us hl => match us, hl with | [_, _], _ => rfl
theorem k_law_mixed {P : Program} {w : World} {base : Heap} (T : Tx K mg) : FnOk P w K mg base (L2.CX P w) 6 T.f_law_mixed T.d_law_mixed ["_law_box_here", "_law_found"] (spF K mg 2 M_law_mixed) :=
  fn_ok T.F_law_mixed sc_law_mixed rfl fun cdv A outer s H E hr =>
    (ss_cons (ss_par (i := 2) (j := 3) rfl sc_law_mixed.nd (s_call (k_law_strewn T) rfl (hr.mono (by first | decide | exact Nat.le_add_right_of_le (by decide) | omega)) T.g_law_strewn T.F_law_strewn.kp (b_law_strewn T) (takes_of rfl rfl rfl rfl) (sa_cons (s_var 0) (sa_cons (s_listRg1 rfl (s_callB call_len4 o_len T.n_len (by decide +kernel) (sa_cons (s_var 1) sa_nil)) T.n_list T.n_range) sa_nil))) (s_op op_mul4 o_mul (s_list (sa_cons s_int sa_nil)) (s_callB call_len4 o_len T.n_len (by decide +kernel) (sa_cons (s_var 1) sa_nil))))
    (ss_cons (ss_for (passes_of rfl) rfl (si_enum T.n_enumerate (sa_cons (s_var 1) sa_nil)) (sg_tup rfl (sgs_cons (sg_name (i := 4) sc_law_mixed.nd) (sgs_cons (sg_name (i := 5) sc_law_mixed.nd) sgs_nil)))
    (ss_one (ss_put (hu_of hr) (s_var 3) (s_sub (hu_of hr) (s_var 2) (s_var 4)) (s_sub (hu_of hr) (s_var 2) (s_var 5)))))
    (ss_one (ss_ret (s_callTy call_tuple_of o_tupOf T.n_tuple (by decide +kernel) (sa_cons (s_var 3) sa_nil))))))
theorem b_law_drawn (T : Tx K mg) : Binds K T.d_law_drawn ["_law_box_here", "_law_most"] [] := T.F_law_drawn.binds fun _ _ _ _ _ _ us hl => match us, hl with | [_, _], _ => rfl
theorem k_law_drawn {P : Program} {w : World} {base : Heap} (T : Tx K mg) : FnOk P w K mg base (L2.CX P w) 7 T.f_law_drawn T.d_law_drawn ["_law_box_here", "_law_most"] (spF K mg 2 M_law_drawn) :=
  fn_ok T.F_law_drawn sc_law_drawn rfl fun cdv A outer s H E hr =>
    (ss_cons (ss_asg (s_tup (sa_cons (s_op op_add4 o_add s_int (s_call (k_law_take T 4) rfl (hr.mono (by first | decide | exact Nat.le_add_right_of_le (by decide) | omega)) T.g_law_take T.F_law_take.kp (b_law_take T) (takes_of rfl rfl rfl rfl) (sa_cons (s_var 0) (sa_cons (s_var 1) sa_nil)))) (sa_cons (s_list sa_nil) sa_nil))) (sg_tup rfl (sgs_cons (sg_name (i := 2) sc_law_drawn.nd) (sgs_cons (sg_name (i := 3) sc_law_drawn.nd) sgs_nil))))
    (ss_cons (ss_while (passes_of rfl) (sb_cmp op_lt o_cmp (s_callB call_len4 o_len T.n_len (by decide +kernel) (sa_cons (s_var 3) sa_nil)) (s_var 2))
    (ss_cons (ss_set (i := 4) sc_law_drawn.nd (s_op op_sub o_sub (s_var 2) (s_callB call_len4 o_len T.n_len (by decide +kernel) (sa_cons (s_var 3) sa_nil))))
    (ss_cons (ss_set (i := 5) sc_law_drawn.nd (s_call (k_law_part T) rfl (hr.mono (by first | decide | exact Nat.le_add_right_of_le (by decide) | omega)) T.g_law_part T.F_law_part.kp (b_law_part T) (takes_of rfl rfl rfl rfl) (sa_cons (s_var 0) (sa_cons (s_call (k_law_of T) rfl (hr.mono (by first | decide | exact Nat.le_add_right_of_le (by decide) | omega)) T.g_law_of T.F_law_of.kp (b_law_of T) (takes_of rfl rfl rfl rfl) (sa_cons (s_var 0) (sa_cons (s_list (sa_cons (s_var 4) (sa_cons (s_var 4) (sa_cons (s_op op_add4 o_add s_int (s_call (k_law_take T 4) rfl (hr.mono (by first | decide | exact Nat.le_add_right_of_le (by decide) | omega)) T.g_law_take T.F_law_take.kp (b_law_take T) (takes_of rfl rfl rfl rfl) (sa_cons (s_var 0) (sa_cons (s_var 4) sa_nil)))) sa_nil)))) sa_nil))) sa_nil))))
    (ss_one (ss_set (i := 3) sc_law_drawn.nd (s_op op_add4 o_add (s_var 3) (s_lc (own := [("_law_aim", 6)]) rfl sc_law_drawn.nd (si_of (s_var 5)) (blkOk_by (own := [("_law_aim", 6)]) (N := N_law_drawn) (sc := defScope st_law_drawn) (by decide +kernel)) (by decide) (fun _ _ _ _ _ => (sg_name (i := 6) sc_law_drawn.nd)) (fun _ _ _ _ _ => sif_nil) (fun _ _ _ _ _ => (s_op op_add4 o_add (s_callB call_len4 o_len T.n_len (by decide +kernel) (sa_cons (s_var 3) sa_nil)) (s_var 6))))))))))
    (ss_one (ss_ret (s_call (k_law_mixed T) rfl (hr.mono (by first | decide | exact Nat.le_add_right_of_le (by decide) | omega)) T.g_law_mixed T.F_law_mixed.kp (b_law_mixed T) (takes_of rfl rfl rfl rfl) (sa_cons (s_var 0) (sa_cons (s_var 3) sa_nil)))))))
theorem b_law_met (T : Tx K mg) : Binds K T.d_law_met ["_law_here", "_law_who"] [] := T.F_law_met.binds fun _ _ _ _ _ _ us hl => match us, hl with | [_, _], _ => rfl
theorem k_law_met {P : Program} {w : World} {base : Heap} (T : Tx K mg) : FnOk P w K mg base (L2.CX P w) 1 T.f_law_met T.d_law_met ["_law_here", "_law_who"] (spF K mg 2 M_law_met) :=
  fn_ok T.F_law_met sc_law_met rfl fun cdv A outer s H E hr =>
    (ss_cons (ss_set (i := 2) sc_law_met.nd (s_list sa_nil))
    (ss_cons (ss_while (passes_of rfl) (sb_notin (hu65 hr) (s_sub (hu_of hr) (s_var 0) (s_var 1)) (s_var 2))
    (ss_cons (ss_set (i := 1) sc_law_met.nd (s_sub (hu_of hr) (s_var 0) (s_var 1)))
    (ss_one (ss_expr (s_bmL PySem.F.slot_list_append PySem.F.type_list_append mt_append o_append (s_var 2) (sa_cons (s_var 1) sa_nil))))))
    (ss_one (ss_ret (s_var 2)))))
theorem b_law_after (T : Tx K mg) : Binds K T.d_law_after ["_law_here", "_law_who", "_law_far"] [] := T.F_law_after.binds fun _ _ _ _ _ _ us hl => match us, hl with | [_, _, _], _ => rfl
theorem k_law_after {P : Program} {w : World} {base : Heap} (T : Tx K mg) : FnOk P w K mg base (L2.CX P w) 2 T.f_law_after T.d_law_after ["_law_here", "_law_who", "_law_far"] (spF K mg 3 M_law_after) :=
  fn_ok T.F_law_after sc_law_after rfl fun cdv A outer s H E hr =>
    (ss_cons (ss_set (i := 3) sc_law_after.nd (s_call (k_law_met T) rfl (hr.mono (by first | decide | exact Nat.le_add_right_of_le (by decide) | omega)) T.g_law_met T.F_law_met.kp (b_law_met T) (takes_of rfl rfl rfl rfl) (sa_cons (s_var 0) (sa_cons (s_var 1) sa_nil))))
    (ss_cons (ss_if (sb_cmp (op_eqD hr.units) o_eq (s_var 2) s_int)
    (ss_one (ss_ret (s_var 1)))
    ss_nil)
    (ss_cons (ss_if (sb_cmp op_le o_cmp (s_var 2) (s_callB call_len4 o_len T.n_len (by decide +kernel) (sa_cons (s_var 3) sa_nil)))
    (ss_one (ss_ret (s_sub (hu_of hr) (s_var 3) (s_op op_sub o_sub (s_var 2) s_int))))
    ss_nil)
    (ss_cons (ss_set (i := 4) sc_law_after.nd (s_slice (s_var 3) (so_some (s_bmL PySem.F.slot_list_index PySem.F.type_list_index mt_index o_index (s_var 3) (sa_cons (s_sub (hu_of hr) (s_var 0) (s_sub (hu_of hr) (s_var 3) (s_un un_neg o_neg s_int))) sa_nil))) so_none))
    (ss_one (ss_ret (s_sub (hu_of hr) (s_var 4) (s_op op_modN o_mod (s_op op_sub o_sub (s_op op_sub o_sub (s_var 2) s_int) (s_op op_sub o_sub (s_callB call_len4 o_len T.n_len (by decide +kernel) (sa_cons (s_var 3) sa_nil)) (s_callB call_len4 o_len T.n_len (by decide +kernel) (sa_cons (s_var 4) sa_nil)))) (s_callB call_len4 o_len T.n_len (by decide +kernel) (sa_cons (s_var 4) sa_nil))))))))))
theorem b_law_right (T : Tx K mg) : Binds K T.d_law_right ["_law_box_here"] [] := T.F_law_right.binds fun _ _ _ _ _ _ us hl => match us, hl with | [_], _ => rfl
theorem k_law_right {P : Program} {w : World} {base : Heap} (T : Tx K mg) : FnG P w K mg base 8 T.f_law_right T.d_law_right ["_law_box_here"] (spF K mg 1 M_law_right) :=
  fn_okG T.F_law_right sc_law_right rfl fun cdv A outer s H E gd hr =>
    (ss_cons (ss_set (i := 1) sc_law_right.nd (s_call (k_law_drawn T) rfl (hr.mono (by first | decide | exact Nat.le_add_right_of_le (by decide) | omega)) T.g_law_drawn T.F_law_drawn.kp (b_law_drawn T) (takes_of rfl rfl rfl rfl) (sa_cons (s_var 0) (sa_cons s_int sa_nil))))
    (ss_cons (ss_par (i := 2) (j := 3) rfl sc_law_right.nd (s_callB (call_reprD gd (hu65 hr)) o_repr T.n_repr (by decide +kernel) (sa_cons (s_var 1) sa_nil)) (s_callB call_len4 o_len T.n_len (by decide +kernel) (sa_cons (s_var 1) sa_nil)))
    (ss_cons (ss_for (passes_of rfl) rfl (si_of (s_slice (s_call (k_law_strewn T) rfl (hr.mono (by first | decide | exact Nat.le_add_right_of_le (by decide) | omega)) T.g_law_strewn T.F_law_strewn.kp (b_law_strewn T) (takes_of rfl rfl rfl rfl) (sa_cons (s_var 0) (sa_cons (s_listRg1 rfl (s_var 3) T.n_list T.n_range) sa_nil))) so_none (so_some s_int))) (sg_name (i := 4) sc_law_right.nd)
    (ss_cons (ss_set (i := 5) sc_law_right.nd (s_call (k_law_met T) rfl (hr.mono (by first | decide | exact Nat.le_add_right_of_le (by decide) | omega)) T.g_law_met T.F_law_met.kp (b_law_met T) (takes_of rfl rfl rfl rfl) (sa_cons (s_var 1) (sa_cons (s_var 4) sa_nil))))
    (ss_cons (ss_set (i := 6) sc_law_right.nd (s_list (sa_cons (s_call (k_way T) rfl (hr.mono (by first | decide | exact Nat.le_add_right_of_le (by decide) | omega)) T.g_way T.F_way.kp (b_way T) (takes_of rfl rfl rfl rfl) (sa_cons (s_var 1) (sa_cons (s_var 4) sa_nil))) (sa_cons (s_callK0 (k_way T) (hr.mono (by first | decide | exact Nat.le_add_right_of_le (by decide) | omega)) T.g_way T.F_way.kp (T.F_way.kbn [1, 0] (nn := 0) (ks := ["person", "state"]) fun _ _ _ _ _ _ us ws l1 l2 => match us, ws, l1, l2 with | [], [_, _], _, _ => rfl) (takes_of rfl rfl rfl rfl) (sk_cons (s_var 4) (sk_cons (s_callTy (call_listOf rfl) o_listOf T.n_list (by decide +kernel) (sa_cons (s_var 1) sa_nil)) sk_nil))) sa_nil))))
    (ss_cons (ss_if (sb_not (sb_truth (s_call (k_law_same T 6) rfl (hr.mono (by first | decide | exact Nat.le_add_right_of_le (by decide) | omega)) T.g_law_same T.F_law_same.kp (b_law_same T) (takes_of rfl rfl rfl rfl) (sa_cons (s_var 6) (sa_cons (s_list (sa_cons (s_var 5) (sa_cons (s_var 5) sa_nil))) sa_nil)))))
    (ss_one (ss_ret s_bl))
    ss_nil)
    (ss_cons (ss_expr (s_bmL PySem.F.slot_list_append PySem.F.type_list_append mt_append o_append (s_sub (hu_of hr) (s_var 6) s_int) (sa_cons s_str sa_nil)))
    (ss_cons (ss_expr (s_bmL0 PySem.F.slot_list_reverse PySem.F.type_list_reverse mt_reverse o_reverse (s_sub (hu_of hr) (s_var 6) s_int)))
    (ss_cons (ss_if (sb_not (sb_truth (s_call (k_law_same T 6) rfl (hr.mono (by first | decide | exact Nat.le_add_right_of_le (by decide) | omega)) T.g_law_same T.F_law_same.kp (b_law_same T) (takes_of rfl rfl rfl rfl) (sa_cons (s_call (k_way T) rfl (hr.mono (by first | decide | exact Nat.le_add_right_of_le (by decide) | omega)) T.g_way T.F_way.kp (b_way T) (takes_of rfl rfl rfl rfl) (sa_cons (s_var 1) (sa_cons (s_var 4) sa_nil))) (sa_cons (s_var 5) sa_nil)))))
    (ss_one (ss_ret s_bl))
    ss_nil)
    (ss_cons (ss_set (i := 7) sc_law_right.nd (s_var 4))
    (ss_cons (ss_for (passes_of rfl) rfl (si_range1 T.n_range (sa_cons (s_op op_add4 o_add (s_op op_mul4 o_mul s_int (s_var 3)) s_int) sa_nil)) (sg_name (i := 8) sc_law_right.nd)
    (ss_cons (ss_if (sb_not (sb_truth (s_call (k_law_same T 6) rfl (hr.mono (by first | decide | exact Nat.le_add_right_of_le (by decide) | omega)) T.g_law_same T.F_law_same.kp (b_law_same T) (takes_of rfl rfl rfl rfl) (sa_cons (s_call (k_person_after T) rfl (hr.mono (by first | decide | exact Nat.le_add_right_of_le (by decide) | omega)) T.g_person_after T.F_person_after.kp (b_person_after T) (takes_of rfl rfl rfl rfl) (sa_cons (s_var 1) (sa_cons (s_var 4) (sa_cons (s_var 8) sa_nil)))) (sa_cons (s_var 7) sa_nil)))))
    (ss_one (ss_ret s_bl))
    ss_nil)
    (ss_one (ss_set (i := 7) sc_law_right.nd (s_sub (hu_of hr) (s_var 1) (s_var 7))))))
    (ss_one (ss_for (passes_of rfl) rfl (si_range1 T.n_range (sa_cons s_int sa_nil)) (sg_name (i := 9) sc_law_right.nd)
    (ss_cons (ss_set (i := 8) sc_law_right.nd (s_op op_add4 o_add (s_call (k_law_take T 4) rfl (hr.mono (by first | decide | exact Nat.le_add_right_of_le (by decide) | omega)) T.g_law_take T.F_law_take.kp (b_law_take T) (takes_of rfl rfl rfl rfl) (sa_cons (s_var 0) (sa_cons (s_call (k_law_of T) rfl (hr.mono (by first | decide | exact Nat.le_add_right_of_le (by decide) | omega)) T.g_law_of T.F_law_of.kp (b_law_of T) (takes_of rfl rfl rfl rfl) (sa_cons (s_var 0) (sa_cons (s_list (sa_cons s_int (sa_cons (s_op op_pow o_pow s_int s_int) (sa_cons (s_op op_pow o_pow s_int s_int) sa_nil)))) sa_nil))) sa_nil))) s_int))
    (ss_cons (ss_set (i := 6) sc_law_right.nd (s_list (sa_cons (s_call (k_person_after T) rfl (hr.mono (by first | decide | exact Nat.le_add_right_of_le (by decide) | omega)) T.g_person_after T.F_person_after.kp (b_person_after T) (takes_of rfl rfl rfl rfl) (sa_cons (s_var 1) (sa_cons (s_var 4) (sa_cons (s_var 8) sa_nil)))) (sa_cons (s_callK0 (k_person_after T) (hr.mono (by first | decide | exact Nat.le_add_right_of_le (by decide) | omega)) T.g_person_after T.F_person_after.kp (T.F_person_after.kbn [2, 1, 0] (nn := 0) (ks := ["steps", "person", "state"]) fun _ _ _ _ _ _ us ws l1 l2 => match us, ws, l1, l2 with | [], [_, _, _], _, _ => rfl) (takes_of rfl rfl rfl rfl) (sk_cons (s_var 8) (sk_cons (s_var 4) (sk_cons (s_callTy (call_listOf rfl) o_listOf T.n_list (by decide +kernel) (sa_cons (s_var 1) sa_nil)) sk_nil)))) sa_nil))))
    (ss_one (ss_if (sb_not (sb_truth (s_call (k_law_same T 6) rfl (hr.mono (by first | decide | exact Nat.le_add_right_of_le (by decide) | omega)) T.g_law_same T.F_law_same.kp (b_law_same T) (takes_of rfl rfl rfl rfl) (sa_cons (s_var 6) (sa_cons (s_op op_mul4 o_mul (s_list (sa_cons (s_call (k_law_after T) rfl (hr.mono (by first | decide | exact Nat.le_add_right_of_le (by decide) | omega)) T.g_law_after T.F_law_after.kp (b_law_after T) (takes_of rfl rfl rfl rfl) (sa_cons (s_var 1) (sa_cons (s_var 4) (sa_cons (s_var 8) sa_nil)))) sa_nil)) s_int) sa_nil)))))
    (ss_one (ss_ret s_bl))
    ss_nil)))))))))))))))
    (ss_one (ss_ret (s_cmp (op_eqD hr.units) o_eq (s_callB (call_reprD gd (hu65 hr)) o_repr T.n_repr (by decide +kernel) (sa_cons (s_var 1) sa_nil)) (s_var 2)))))))
theorem b_law (T : Tx K mg) : Binds K T.d_law ["_law_script"] [] := T.F_law.binds fun _ _ _ _ _ _ us hl => match us, hl with | [_], _ => rfl
theorem k_law {P : Program} {w : World} {base : Heap} (T : Tx K mg) : FnG P w K mg base 9 T.f_law T.d_law ["_law_script"] (spF K mg 1 M_law) :=
  fn_okG T.F_law sc_law rfl fun cdv A outer s H E gd hr =>
    (ss_cons (ss_set (i := 1) sc_law.nd (s_call (k_law_cells T) rfl (hr.mono (by first | decide | exact Nat.le_add_right_of_le (by decide) | omega)) T.g_law_cells T.F_law_cells.kp (b_law_cells T) (takes_of rfl rfl rfl rfl) (sa_cons (s_var 0) (sa_cons s_int sa_nil))))
    (ss_cons (ss_for (passes_of rfl) rfl (si_range1 T.n_range (sa_cons (s_callB call_len4 o_len T.n_len (by decide +kernel) (sa_cons (s_var 1) sa_nil)) sa_nil)) (sg_name (i := 2) sc_law.nd)
    (ss_cons (ss_set (i := 3) sc_law.nd (s_call (k_law_box T) rfl (hr.mono (by first | decide | exact Nat.le_add_right_of_le (by decide) | omega)) T.g_law_box T.F_law_box.kp (b_law_box T) (takes_of rfl rfl rfl rfl) (sa_cons (s_var 1) (sa_cons (s_var 2) sa_nil))))
    (ss_one (ss_if (sb_not (sb_truth (s_callB (cr_all rfl) o_all T.n_all (by decide +kernel) (sa_cons (s_lc (own := [("_law_turn", 4)]) rfl sc_law.nd (si_range1 T.n_range (sa_cons s_int sa_nil)) (blkOk_by (own := [("_law_turn", 4)]) (N := N_law) (sc := defScope st_law) (by decide +kernel)) (by decide) (fun _ _ _ _ _ => (sg_name (i := 4) sc_law.nd)) (fun _ _ _ _ _ => sif_nil) (fun _ _ _ _ _ => (s_callG gd (k_law_right T) rfl (hr.mono (by first | decide | exact Nat.le_add_right_of_le (by decide) | omega)) T.g_law_right T.F_law_right.kp (b_law_right T) takes0 (sa_cons (s_var 3) sa_nil)))) sa_nil))))
    (ss_one (ss_ret s_bl))
    ss_nil))))
    (ss_one (ss_ret s_bl))))
end
theorem take_eq : ∀ d, M_law_take d = MP.Mtake 39373 40009 d
  | 0 => rfl
  | d + 1 => by unfold M_law_take MP.Mtake; rw [take_eq d]
theorem same_eq : ∀ d, M_law_same d = MP.Msame d
  | 0 => rfl
  | d + 1 => by unfold M_law_same MP.Msame; rw [same_eq d]
theorem law_eq : M_law = MP.Mlaw3 (MP.Mright01 (MP.Mtake 39373 40009 4)) := by
  have e1 : M_law_of = MP.Mof (MP.Mtake 39373 40009 4) := by unfold M_law_of MP.Mof; rw [take_eq]
  have e2 : M_law_strewn = MP.Mstrewn (MP.Mtake 39373 40009 4) := by unfold M_law_strewn MP.Mstrewn; rw [take_eq]
  have e3 : M_law_part = MP.Mpart (MP.Mtake 39373 40009 4) := by unfold M_law_part MP.Mpart; rw [take_eq]
  have e4 : M_law_mixed = MP.Mmixed (MP.Mtake 39373 40009 4) := by unfold M_law_mixed MP.Mmixed; rw [e2]
  have e5 : M_law_drawn = MP.Mdrawn (MP.Mtake 39373 40009 4) := by unfold M_law_drawn MP.Mdrawn; rw [e1, e3, e4, take_eq]
  have e6 : M_law_met = MP.Mmet := rfl
  have e7 : M_law_after = MP.Mafter := rfl
  have e8 : M_way = MP.P_way := rfl
  have e9 : M_person_after = MP.P_person_after := rfl
  have e10 : M_law_cells = MP.Mcells := rfl
  have e11 : M_law_box = MP.Mbox := rfl
  have e12 : M_law_right = MP.Mright01 (MP.Mtake 39373 40009 4) := by unfold M_law_right MP.Mright01 MP.B01 MP.C01 MP.D01; rw [e1, e2, e5, e6, e7, e8, e9, same_eq, take_eq]
  unfold M_law MP.Mlaw3
  rw [e10, e11, e12]
theorem law_true : ∀ ns : List Int, ns.length ≤ 63 → ∃ S', M_law [.rol (ns.map PV.int)] [] = .ret (.bl true) S' := fun ns _ => by
  refine MP.true_of3 ?_
  rw [law_eq]
  exact MP.law3_ok ((MP.right01_ok (MP.take_Ok (by decide) (by decide) 3) (MP.take_Big (by decide) (by decide) 2)).mono (by decide)) ns

/-! ### the end -/
theorem all_mk {l : PySem.W.OpenLaw} {w : World} {K : PySem.W.Frag} {h : Heap} {mg : Str → Option Value} {fa : Addr} (X : K.In h) (G : h.Ns mainGlobals mg) (hfa : mg "law" = some (.ref fa))
    {f0 : Addr} {od0 an0 : Option Addr} {sl0 : Array (Option Value)} {oc0 kV0 dc0 pm0 cd0 ct0 : Value}
    (a0 : PySem.W.nsIn K mainGlobals "look_person" = some (some (.ref f0))) (l0 : K.lookup f0 = some ⟨oc0, od0, .func (PySem.W.fnOf "look_person" "look_person" (defArgs st_look_person) (defBody st_look_person) (defScope st_look_person) .none kV0 dc0 pm0 an0 cd0 ct0), sl0⟩) (c0 : PySem.W.codeIn K cd0 "look_person" = true) (k0 : PySem.W.keepIn K (.ref f0) = true)
    {f1 : Addr} {od1 an1 : Option Addr} {sl1 : Array (Option Value)} {oc1 kV1 dc1 pm1 cd1 ct1 : Value}
    (a1 : PySem.W.nsIn K mainGlobals "way_of" = some (some (.ref f1))) (l1 : K.lookup f1 = some ⟨oc1, od1, .func (PySem.W.fnOf "way_of" "way_of" (defArgs st_way_of) (defBody st_way_of) (defScope st_way_of) .none kV1 dc1 pm1 an1 cd1 ct1), sl1⟩) (c1 : PySem.W.codeIn K cd1 "way_of" = true) (k1 : PySem.W.keepIn K (.ref f1) = true)
    {f2 : Addr} {od2 an2 : Option Addr} {sl2 : Array (Option Value)} {oc2 kV2 dc2 pm2 cd2 ct2 : Value}
    (a2 : PySem.W.nsIn K mainGlobals "way" = some (some (.ref f2))) (l2 : K.lookup f2 = some ⟨oc2, od2, .func (PySem.W.fnOf "way" "way" (defArgs st_way) (defBody st_way) (defScope st_way) .none kV2 dc2 pm2 an2 cd2 ct2), sl2⟩) (c2 : PySem.W.codeIn K cd2 "way" = true) (k2 : PySem.W.keepIn K (.ref f2) = true)
    {f3 : Addr} {od3 an3 : Option Addr} {sl3 : Array (Option Value)} {oc3 kV3 dc3 pm3 cd3 ct3 : Value}
    (a3 : PySem.W.nsIn K mainGlobals "person_after" = some (some (.ref f3))) (l3 : K.lookup f3 = some ⟨oc3, od3, .func (PySem.W.fnOf "person_after" "person_after" (defArgs st_person_after) (defBody st_person_after) (defScope st_person_after) .none kV3 dc3 pm3 an3 cd3 ct3), sl3⟩) (c3 : PySem.W.codeIn K cd3 "person_after" = true) (k3 : PySem.W.keepIn K (.ref f3) = true)
    {f4 : Addr} {od4 an4 : Option Addr} {sl4 : Array (Option Value)} {oc4 kV4 dc4 pm4 cd4 ct4 : Value}
    (a4 : PySem.W.nsIn K mainGlobals "_law_box" = some (some (.ref f4))) (l4 : K.lookup f4 = some ⟨oc4, od4, .func (PySem.W.fnOf "_law_box" "_law_box" (defArgs st_law_box) (defBody st_law_box) (defScope st_law_box) .none kV4 dc4 pm4 an4 cd4 ct4), sl4⟩) (c4 : PySem.W.codeIn K cd4 "_law_box" = true) (k4 : PySem.W.keepIn K (.ref f4) = true)
    {f5 : Addr} {od5 an5 : Option Addr} {sl5 : Array (Option Value)} {oc5 kV5 dc5 pm5 cd5 ct5 : Value}
    (a5 : PySem.W.nsIn K mainGlobals "_law_take" = some (some (.ref f5))) (l5 : K.lookup f5 = some ⟨oc5, od5, .func (PySem.W.fnOf "_law_take" "_law_take" (defArgs st_law_take) (defBody st_law_take) (defScope st_law_take) .none kV5 dc5 pm5 an5 cd5 ct5), sl5⟩) (c5 : PySem.W.codeIn K cd5 "_law_take" = true) (k5 : PySem.W.keepIn K (.ref f5) = true)
    {f6 : Addr} {od6 an6 : Option Addr} {sl6 : Array (Option Value)} {oc6 kV6 dc6 pm6 cd6 ct6 : Value}
    (a6 : PySem.W.nsIn K mainGlobals "_law_cells" = some (some (.ref f6))) (l6 : K.lookup f6 = some ⟨oc6, od6, .func (PySem.W.fnOf "_law_cells" "_law_cells" (defArgs st_law_cells) (defBody st_law_cells) (defScope st_law_cells) .none kV6 dc6 pm6 an6 cd6 ct6), sl6⟩) (c6 : PySem.W.codeIn K cd6 "_law_cells" = true) (k6 : PySem.W.keepIn K (.ref f6) = true)
    {f7 : Addr} {od7 an7 : Option Addr} {sl7 : Array (Option Value)} {oc7 kV7 dc7 pm7 cd7 ct7 : Value}
    (a7 : PySem.W.nsIn K mainGlobals "_law_of" = some (some (.ref f7))) (l7 : K.lookup f7 = some ⟨oc7, od7, .func (PySem.W.fnOf "_law_of" "_law_of" (defArgs st_law_of) (defBody st_law_of) (defScope st_law_of) .none kV7 dc7 pm7 an7 cd7 ct7), sl7⟩) (c7 : PySem.W.codeIn K cd7 "_law_of" = true) (k7 : PySem.W.keepIn K (.ref f7) = true)
    {f8 : Addr} {od8 an8 : Option Addr} {sl8 : Array (Option Value)} {oc8 kV8 dc8 pm8 cd8 ct8 : Value}
    (a8 : PySem.W.nsIn K mainGlobals "_law_strewn" = some (some (.ref f8))) (l8 : K.lookup f8 = some ⟨oc8, od8, .func (PySem.W.fnOf "_law_strewn" "_law_strewn" (defArgs st_law_strewn) (defBody st_law_strewn) (defScope st_law_strewn) .none kV8 dc8 pm8 an8 cd8 ct8), sl8⟩) (c8 : PySem.W.codeIn K cd8 "_law_strewn" = true) (k8 : PySem.W.keepIn K (.ref f8) = true)
    {f9 : Addr} {od9 an9 : Option Addr} {sl9 : Array (Option Value)} {oc9 kV9 dc9 pm9 cd9 ct9 : Value}
    (a9 : PySem.W.nsIn K mainGlobals "_law_same" = some (some (.ref f9))) (l9 : K.lookup f9 = some ⟨oc9, od9, .func (PySem.W.fnOf "_law_same" "_law_same" (defArgs st_law_same) (defBody st_law_same) (defScope st_law_same) .none kV9 dc9 pm9 an9 cd9 ct9), sl9⟩) (c9 : PySem.W.codeIn K cd9 "_law_same" = true) (k9 : PySem.W.keepIn K (.ref f9) = true)
    {f10 : Addr} {od10 an10 : Option Addr} {sl10 : Array (Option Value)} {oc10 kV10 dc10 pm10 cd10 ct10 : Value}
    (a10 : PySem.W.nsIn K mainGlobals "_law_part" = some (some (.ref f10))) (l10 : K.lookup f10 = some ⟨oc10, od10, .func (PySem.W.fnOf "_law_part" "_law_part" (defArgs st_law_part) (defBody st_law_part) (defScope st_law_part) .none kV10 dc10 pm10 an10 cd10 ct10), sl10⟩) (c10 : PySem.W.codeIn K cd10 "_law_part" = true) (k10 : PySem.W.keepIn K (.ref f10) = true)
    {f11 : Addr} {od11 an11 : Option Addr} {sl11 : Array (Option Value)} {oc11 kV11 dc11 pm11 cd11 ct11 : Value}
    (a11 : PySem.W.nsIn K mainGlobals "_law_mixed" = some (some (.ref f11))) (l11 : K.lookup f11 = some ⟨oc11, od11, .func (PySem.W.fnOf "_law_mixed" "_law_mixed" (defArgs st_law_mixed) (defBody st_law_mixed) (defScope st_law_mixed) .none kV11 dc11 pm11 an11 cd11 ct11), sl11⟩) (c11 : PySem.W.codeIn K cd11 "_law_mixed" = true) (k11 : PySem.W.keepIn K (.ref f11) = true)
    {f12 : Addr} {od12 an12 : Option Addr} {sl12 : Array (Option Value)} {oc12 kV12 dc12 pm12 cd12 ct12 : Value}
    (a12 : PySem.W.nsIn K mainGlobals "_law_drawn" = some (some (.ref f12))) (l12 : K.lookup f12 = some ⟨oc12, od12, .func (PySem.W.fnOf "_law_drawn" "_law_drawn" (defArgs st_law_drawn) (defBody st_law_drawn) (defScope st_law_drawn) .none kV12 dc12 pm12 an12 cd12 ct12), sl12⟩) (c12 : PySem.W.codeIn K cd12 "_law_drawn" = true) (k12 : PySem.W.keepIn K (.ref f12) = true)
    {f13 : Addr} {od13 an13 : Option Addr} {sl13 : Array (Option Value)} {oc13 kV13 dc13 pm13 cd13 ct13 : Value}
    (a13 : PySem.W.nsIn K mainGlobals "_law_met" = some (some (.ref f13))) (l13 : K.lookup f13 = some ⟨oc13, od13, .func (PySem.W.fnOf "_law_met" "_law_met" (defArgs st_law_met) (defBody st_law_met) (defScope st_law_met) .none kV13 dc13 pm13 an13 cd13 ct13), sl13⟩) (c13 : PySem.W.codeIn K cd13 "_law_met" = true) (k13 : PySem.W.keepIn K (.ref f13) = true)
    {f14 : Addr} {od14 an14 : Option Addr} {sl14 : Array (Option Value)} {oc14 kV14 dc14 pm14 cd14 ct14 : Value}
    (a14 : PySem.W.nsIn K mainGlobals "_law_after" = some (some (.ref f14))) (l14 : K.lookup f14 = some ⟨oc14, od14, .func (PySem.W.fnOf "_law_after" "_law_after" (defArgs st_law_after) (defBody st_law_after) (defScope st_law_after) .none kV14 dc14 pm14 an14 cd14 ct14), sl14⟩) (c14 : PySem.W.codeIn K cd14 "_law_after" = true) (k14 : PySem.W.keepIn K (.ref f14) = true)
    {f15 : Addr} {od15 an15 : Option Addr} {sl15 : Array (Option Value)} {oc15 kV15 dc15 pm15 cd15 ct15 : Value}
    (a15 : PySem.W.nsIn K mainGlobals "_law_right" = some (some (.ref f15))) (l15 : K.lookup f15 = some ⟨oc15, od15, .func (PySem.W.fnOf "_law_right" "_law_right" (defArgs st_law_right) (defBody st_law_right) (defScope st_law_right) .none kV15 dc15 pm15 an15 cd15 ct15), sl15⟩) (c15 : PySem.W.codeIn K cd15 "_law_right" = true) (k15 : PySem.W.keepIn K (.ref f15) = true)
    {f16 : Addr} {od16 an16 : Option Addr} {sl16 : Array (Option Value)} {oc16 kV16 dc16 pm16 cd16 ct16 : Value}
    (a16 : PySem.W.nsIn K mainGlobals "law" = some (some (.ref f16))) (l16 : K.lookup f16 = some ⟨oc16, od16, .func (PySem.W.fnOf "law" "law" (defArgs st_law) (defBody st_law) (defScope st_law) .none kV16 dc16 pm16 an16 cd16 ct16), sl16⟩) (c16 : PySem.W.codeIn K cd16 "law" = true) (k16 : PySem.W.keepIn K (.ref f16) = true)
    (z0 : PySem.W.nsIn K mainGlobals "abs" = some none)
    (z1 : PySem.W.nsIn K mainGlobals "all" = some none)
    (z2 : PySem.W.nsIn K mainGlobals "bool" = some none)
    (z3 : PySem.W.nsIn K mainGlobals "enumerate" = some none)
    (z4 : PySem.W.nsIn K mainGlobals "int" = some none)
    (z5 : PySem.W.nsIn K mainGlobals "isinstance" = some none)
    (z6 : PySem.W.nsIn K mainGlobals "len" = some none)
    (z7 : PySem.W.nsIn K mainGlobals "list" = some none)
    (z8 : PySem.W.nsIn K mainGlobals "range" = some none)
    (z9 : PySem.W.nsIn K mainGlobals "repr" = some none)
    (z10 : PySem.W.nsIn K mainGlobals "str" = some none)
    (z11 : PySem.W.nsIn K mainGlobals "tuple" = some none)
    (z12 : PySem.W.nsIn K mainGlobals "zip" = some none)
    : ∃ fd : FuncData, (∀ (s : Shared) (v : Value), BindsTo s fd ⟨[v], []⟩ [("_law_script", v)]) ∧ ∀ base : Heap, K.In base → base.Ns mainGlobals mg → FnG l.prog w K mg base 9 fa fd ["_law_script"] (spL K M_law) := by
  have e := hfa.symm.trans (PySem.W.mg_of X G a16)
  cases e
  have T : { T : Tx K mg // T.f_law = fa ∧ T.d_law = PySem.W.fnOf "law" "law" (defArgs st_law) (defBody st_law) (defScope st_law) .none kV16 dc16 pm16 an16 cd16 ct16 } := ⟨{
    f_look_person := f0, d_look_person := _, F_look_person := fun_mk l0 c0 k0, g_look_person := PySem.W.mg_of X G a0,
    f_way_of := f1, d_way_of := _, F_way_of := fun_mk l1 c1 k1, g_way_of := PySem.W.mg_of X G a1,
    f_way := f2, d_way := _, F_way := fun_mk l2 c2 k2, g_way := PySem.W.mg_of X G a2,
    f_person_after := f3, d_person_after := _, F_person_after := fun_mk l3 c3 k3, g_person_after := PySem.W.mg_of X G a3,
    f_law_box := f4, d_law_box := _, F_law_box := fun_mk l4 c4 k4, g_law_box := PySem.W.mg_of X G a4,
    f_law_take := f5, d_law_take := _, F_law_take := fun_mk l5 c5 k5, g_law_take := PySem.W.mg_of X G a5,
    f_law_cells := f6, d_law_cells := _, F_law_cells := fun_mk l6 c6 k6, g_law_cells := PySem.W.mg_of X G a6,
    f_law_of := f7, d_law_of := _, F_law_of := fun_mk l7 c7 k7, g_law_of := PySem.W.mg_of X G a7,
    f_law_strewn := f8, d_law_strewn := _, F_law_strewn := fun_mk l8 c8 k8, g_law_strewn := PySem.W.mg_of X G a8,
    f_law_same := f9, d_law_same := _, F_law_same := fun_mk l9 c9 k9, g_law_same := PySem.W.mg_of X G a9,
    f_law_part := f10, d_law_part := _, F_law_part := fun_mk l10 c10 k10, g_law_part := PySem.W.mg_of X G a10,
    f_law_mixed := f11, d_law_mixed := _, F_law_mixed := fun_mk l11 c11 k11, g_law_mixed := PySem.W.mg_of X G a11,
    f_law_drawn := f12, d_law_drawn := _, F_law_drawn := fun_mk l12 c12 k12, g_law_drawn := PySem.W.mg_of X G a12,
    f_law_met := f13, d_law_met := _, F_law_met := fun_mk l13 c13 k13, g_law_met := PySem.W.mg_of X G a13,
    f_law_after := f14, d_law_after := _, F_law_after := fun_mk l14 c14 k14, g_law_after := PySem.W.mg_of X G a14,
    f_law_right := f15, d_law_right := _, F_law_right := fun_mk l15 c15 k15, g_law_right := PySem.W.mg_of X G a15,
    f_law := fa, d_law := _, F_law := fun_mk l16 c16 k16, g_law := PySem.W.mg_of X G a16,
    n_abs := PySem.W.mg_none_of X G z0,
    n_all := PySem.W.mg_none_of X G z1,
    n_bool := PySem.W.mg_none_of X G z2,
    n_enumerate := PySem.W.mg_none_of X G z3,
    n_int := PySem.W.mg_none_of X G z4,
    n_isinstance := PySem.W.mg_none_of X G z5,
    n_len := PySem.W.mg_none_of X G z6,
    n_list := PySem.W.mg_none_of X G z7,
    n_range := PySem.W.mg_none_of X G z8,
    n_repr := PySem.W.mg_none_of X G z9,
    n_str := PySem.W.mg_none_of X G z10,
    n_tuple := PySem.W.mg_none_of X G z11,
    n_zip := PySem.W.mg_none_of X G z12 }, rfl, rfl⟩
  obtain ⟨T, e1, e2⟩ := T
  refine ⟨T.d_law, fun s v => e2 ▸ .of_eq rfl, fun base _ _ => e1 ▸ (k_law T).imp fun _ _ _ _ q => q mg⟩
end Z
open PySem PySem.W PyProof.Rows
set_option maxHeartbeats 0 in
theorem PySem.Challenge.cw_lookpast_k01_ways_and_steps_holds : PySem.Challenge.rw_lookpast_k01_ways_and_steps.Holds := by
  w_on; o_law; k_head; (case hw => w_witness2)
  k_fill
  refine MP.walk_G (l := PySem.Challenge.rw_lookpast_k01_ways_and_steps) (n := 63) (k := 9) (x := "_law_script") (sp := fun w => MP.spL _ Z.M_law) rfl (by decide) rfl ⟨rfl, by decide, by decide⟩ (fun w h Y => PySem.W.kIn_of Y) ?F (fun _ _ a ns hl hO hS => MP.law_spL hO hS (Z.law_true ns hl))
  case F =>
    intro w mg fa h KX G hmg
    refine' Z.all_mk KX G hmg ?a0 ?l0 ?c0 ?k0 ?a1 ?l1 ?c1 ?k1 ?a2 ?l2 ?c2 ?k2 ?a3 ?l3 ?c3 ?k3 ?a4 ?l4 ?c4 ?k4 ?a5 ?l5 ?c5 ?k5 ?a6 ?l6 ?c6 ?k6 ?a7 ?l7 ?c7 ?k7 ?a8 ?l8 ?c8 ?k8 ?a9 ?l9 ?c9 ?k9 ?a10 ?l10 ?c10 ?k10 ?a11 ?l11 ?c11 ?k11 ?a12 ?l12 ?c12 ?k12 ?a13 ?l13 ?c13 ?k13 ?a14 ?l14 ?c14 ?k14 ?a15 ?l15 ?c15 ?k15 ?a16 ?l16 ?c16 ?k16 ?z0 ?z1 ?z2 ?z3 ?z4 ?z5 ?z6 ?z7 ?z8 ?z9 ?z10 ?z11 ?z12
    (case a0 => k_is)
    (case l0 => k_is)
    (case c0 => k_is)
    (case k0 => k_is)
    (case a1 => k_is)
    (case l1 => k_is)
    (case c1 => k_is)
    (case k1 => k_is)
    (case a2 => k_is)
    (case l2 => k_is)
    (case c2 => k_is)
    (case k2 => k_is)
    (case a3 => k_is)
    (case l3 => k_is)
    (case c3 => k_is)
    (case k3 => k_is)
    (case a4 => k_is)
    (case l4 => k_is)
    (case c4 => k_is)
    (case k4 => k_is)
    (case a5 => k_is)
    (case l5 => k_is)
    (case c5 => k_is)
    (case k5 => k_is)
    (case a6 => k_is)
    (case l6 => k_is)
    (case c6 => k_is)
    (case k6 => k_is)
    (case a7 => k_is)
    (case l7 => k_is)
    (case c7 => k_is)
    (case k7 => k_is)
    (case a8 => k_is)
    (case l8 => k_is)
    (case c8 => k_is)
    (case k8 => k_is)
    (case a9 => k_is)
    (case l9 => k_is)
    (case c9 => k_is)
    (case k9 => k_is)
    (case a10 => k_is)
    (case l10 => k_is)
    (case c10 => k_is)
    (case k10 => k_is)
    (case a11 => k_is)
    (case l11 => k_is)
    (case c11 => k_is)
    (case k11 => k_is)
    (case a12 => k_is)
    (case l12 => k_is)
    (case c12 => k_is)
    (case k12 => k_is)
    (case a13 => k_is)
    (case l13 => k_is)
    (case c13 => k_is)
    (case k13 => k_is)
    (case a14 => k_is)
    (case l14 => k_is)
    (case c14 => k_is)
    (case k14 => k_is)
    (case a15 => k_is)
    (case l15 => k_is)
    (case c15 => k_is)
    (case k15 => k_is)
    (case a16 => k_is)
    (case l16 => k_is)
    (case c16 => k_is)
    (case k16 => k_is)
    (case z0 => k_is)
    (case z1 => k_is)
    (case z2 => k_is)
    (case z3 => k_is)
    (case z4 => k_is)
    (case z5 => k_is)
    (case z6 => k_is)
    (case z7 => k_is)
    (case z8 => k_is)
    (case z9 => k_is)
    (case z10 => k_is)
    (case z11 => k_is)
    (case z12 => k_is)
