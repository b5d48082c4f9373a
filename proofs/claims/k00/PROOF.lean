import PyProof.Rows.All
import Wide.All
import OpenK.AllK
import Wide.FinOn
import HandS.ForMost
import HandS.ForExc
import HandS.TupAny
import HandS.IsInst
import HandS.Conv
import HandS.CallSlots
import HandS.SortInts
import HandS.Wide
import HandS.Deep
import HandS.TupMul
import HandS.Style
import HandS.TupLen
import HandS.WordsDict
import HandS.SetFor
import HandS.Remove
import HandS.More
import KE.DataMinMax
import HandS.Zip
import HandS.Defaults
import KE.KDictZip
import HandS.RaiseMore
import KE.SortData
import HandS.TupSets
import HandS.Strs
import PyProof.TupleOfSeq
import HandS.SetBool
import KE.OsSetLaws
import HandS.DictComp
import KE.GoesEnum
import KE.KDictWalk
import HandS.ExcInit
import HandS.TryOnly
import KE.KExcInit
import HandS.ExcIs
import HandS.ExcField
import PyProof.ExcBaseAll.LookupError
import PyProof.ExcBaseAll.RuntimeError
import PyProof.ExcBaseAll.OverflowError
import HandS.Flow
import PyProof.Rows.RegFStrParts
import PyProof.FitsInt
import PySem.Challenge.RW_lookpast_k00_states_or_not
set_option Elab.async false
set_option linter.all false
set_option maxRecDepth 100000
set_option maxRecDepth 100000
namespace MP
open PySem PySem.Spec PyProof.Rows L2

/-- a value of the mirror: tuples are data, lists and the like stand in a store -/
inductive PV where
  | non | bl (b : Bool) | int (i : Int) | str (s : Str) | tup (xs : List PV) | loc (n : Nat) | rol (xs : List PV)
instance : Inhabited PV := ⟨.non⟩

/-- an object of the store -/
inductive Ob where
  | lst (xs : List PV)
  | dK (kvs : List (Key × PV))
  | dT (kvs : List (List Key × PV))
  | ins (c : Str) (fs : List (Str × PV))
  | lk (o : Ob)
  | xo (u : HO)
  | dead
instance : Inhabited Ob := ⟨.lst []⟩

abbrev Ms := List Ob
abbrev Env' := List (Option PV)
structure Ex where
  cls : Str
  fs : List (Str × PV)
inductive Out (α : Type) where
  | ret (a : α) (S : Ms) | exc (x : Ex) (S : Ms) | fail
/-- how a statement ends -/
inductive SO where
  | nx (env : Env') (S : Ms) | rt (v : PV) (S : Ms) | bk (env : Env') (S : Ms) | ct (env : Env') (S : Ms) | exc (env : Env') (x : Ex) (S : Ms) | fail

def Out.bind {α β : Type} (o : Out α) (f : α → Ms → Out β) : Out β := match o with
  | .ret a S => f a S
  | .exc x S => .exc x S
  | .fail => .fail

/-! ### how a store lies in the heap -/
/-- a list that is never written (the script) -/
def RoL (K : PySem.W.Frag) (H : Hp) (a : Addr) (xs : List V) : Prop := (∃ o, H a = some (.frz o (.lst xs))) ∨
  ∃ (o : Obj) (its : Array Value) (n : Nat), K.lookup a = some o ∧ o.cls = .type "list" ∧ o.dict = none ∧ o.data = .seq its n ∧ its.size ≤ sizeLine ∧ Vals xs its.toList
theorem RoL.sq {K : PySem.W.Frag} {H : Hp} {a : Addr} {xs : List V} (h : RoL K H a xs) : SqL K H a xs := h.elim (fun ⟨o, h⟩ => .inl (.inr ⟨o, h⟩)) .inr
mutual
inductive VR (K : PySem.W.Frag) (H : Hp) (ρ : List Addr) : PV → V → Prop
  | non : VR K H ρ .non .non
  | bl (b : Bool) : VR K H ρ (.bl b) (.bl b)
  | int (i : Int) : VR K H ρ (.int i) (.int i)
  | str (s : Str) : VR K H ρ (.str s) (.str s)
  | loc {n : Nat} {a : Addr} : ρ[n]? = some a → VR K H ρ (.loc n) (.ref a)
  | tup {xs : List PV} {a : Addr} {vs : List V} : H a = some (.tup vs) → VRs K H ρ xs vs → VR K H ρ (.tup xs) (.ref a)
  | rol {xs : List PV} {a : Addr} {vs : List V} : RoL K H a vs → VRs K H ρ xs vs → VR K H ρ (.rol xs) (.ref a)
inductive VRs (K : PySem.W.Frag) (H : Hp) (ρ : List Addr) : List PV → List V → Prop
  | nil : VRs K H ρ [] []
  | cons {x : PV} {v : V} {xs : List PV} {vs : List V} : VR K H ρ x v → VRs K H ρ xs vs → VRs K H ρ (x :: xs) (v :: vs)
end
section
variable (K : PySem.W.Frag) (mg : Str → Option Value)
def KVR (H : Hp) (ρ : List Addr) {κ : Type} : List (κ × PV) → List (κ × V) → Prop := Paired fun p q => p.1 = q.1 ∧ VR K H ρ p.2 q.2
inductive OR (H : Hp) (ρ : List Addr) : Ob → HO → Prop
  | lst {xs : List PV} {vs : List V} : VRs K H ρ xs vs → OR H ρ (.lst xs) (.lst vs)
  | dK {xs : List (Key × PV)} {vs : List (Key × V)} : KVR K H ρ xs vs → OR H ρ (.dK xs) (.dK vs)
  | dT {xs : List (List Key × PV)} {vs : List (List Key × V)} : KVR K H ρ xs vs → OR H ρ (.dT xs) (.dT vs)
  | exn {c : Str} {C dd : Addr} {fs : List (Str × PV)} {gs : List (Str × V)} {oe od : Obj} {u : HO} : mg c = some (.ref C) → (oe.cls = .ref C ∧ oe.dict = some dd ∧ ∃ vs, oe.data = .fields vs) → H dd = some (.frz od (.xd gs)) → KVR K H ρ fs gs → OR H ρ (.ins c fs) (.frz oe u)
  | exn0 {c : Str} {C : Addr} {oe : Obj} {u : HO} : mg c = some (.ref C) → (oe.cls = .ref C ∧ oe.dict = none ∧ ∃ vs, oe.data = .fields vs) → OR H ρ (.ins c []) (.frz oe u)
  | lk {o : Ob} {u : HO} {oj : Obj} : OR H ρ o u → OR H ρ (.lk o) (.frz oj u)
  | xo {u : HO} : (∀ xs, u ≠ .tup xs) → OR H ρ (.xo u) u
  | dead {u : HO} : (∀ xs, u ≠ .tup xs) → OR H ρ .dead u
structure HR (ρ : List Addr) (S : Ms) (H : Hp) : Prop where
  len : ρ.length = S.length
  nd : ρ.Nodup
  at_ : ∀ (n : Nat) (o : Ob), S[n]? = some o → ∃ a ho, ρ[n]? = some a ∧ H a = some ho ∧ OR K mg H ρ o ho
end
/-- the tuples and what is locked stay -/
def Ext (H H' : Hp) : Prop := ∀ a, (∀ xs, H a = some (.tup xs) → H' a = some (.tup xs)) ∧ (∀ o u, H a = some (.frz o u) → H' a = some (.frz o u))
theorem Ext.refl (H : Hp) : Ext H H := fun _ => ⟨fun _ h => h, fun _ _ h => h⟩
theorem Ext.trans {H H1 H2 : Hp} (a : Ext H H1) (b : Ext H1 H2) : Ext H H2 := fun c => ⟨fun xs h => (b c).1 xs ((a c).1 xs h), fun o u h => (b c).2 o u ((a c).2 o u h)⟩
theorem Ext.roL {K : PySem.W.Frag} {H H' : Hp} (e : Ext H H') {a : Addr} {vs : List V} (h : RoL K H a vs) : RoL K H' a vs := h.elim (fun ⟨o, h⟩ => .inl ⟨o, (e a).2 _ _ h⟩) .inr
/-- the addresses grow -/
def Grow (ρ ρ' : List Addr) : Prop := ∀ (n : Nat) (a : Addr), ρ[n]? = some a → ρ'[n]? = some a
theorem Grow.refl (ρ : List Addr) : Grow ρ ρ := fun _ _ h => h
theorem Grow.trans {a b c : List Addr} (h : Grow a b) (h' : Grow b c) : Grow a c := fun n x e => h' n x (h n x e)
theorem Grow.snoc (ρ : List Addr) (p : Addr) : Grow ρ (ρ ++ [p]) := fun n a e => by
  rw [List.getElem?_append_left (by have := (List.getElem?_eq_some_iff.mp e).1; exact this)]; exact e
section
variable {K : PySem.W.Frag} {mg : Str → Option Value} {H H' : Hp} {ρ ρ' : List Addr}
mutual
theorem VR.mono (e : Ext H H') (g : Grow ρ ρ') : ∀ {x : PV} {v : V}, VR K H ρ x v → VR K H' ρ' x v
  | _, _, .non => .non
  | _, _, .bl b => .bl b
  | _, _, .int i => .int i
  | _, _, .str s => .str s
  | _, _, .loc h => .loc (g _ _ h)
  | _, _, .tup h hs => .tup ((e _).1 _ h) (VRs.mono e g hs)
  | _, _, .rol h hs => .rol (e.roL h) (VRs.mono e g hs)
theorem VRs.mono (e : Ext H H') (g : Grow ρ ρ') : ∀ {xs : List PV} {vs : List V}, VRs K H ρ xs vs → VRs K H' ρ' xs vs
  | _, _, .nil => .nil
  | _, _, .cons h t => .cons (VR.mono e g h) (VRs.mono e g t)
end
theorem KVR.mono {κ : Type} (e : Ext H H') (g : Grow ρ ρ') {xs : List (κ × PV)} {vs : List (κ × V)} (h : KVR K H ρ xs vs) : KVR K H' ρ' xs vs :=
  Paired.mapP h fun _ _ z => ⟨z.1, z.2.mono e g⟩
theorem OR.mono (e : Ext H H') (g : Grow ρ ρ') {o : Ob} {u : HO} (h : OR K mg H ρ o u) : OR K mg H' ρ' o u := by
  induction h with
  | lst h => exact .lst (h.mono e g)
  | dK h => exact .dK (h.mono e g)
  | dT h => exact .dT (h.mono e g)
  | exn c q d h => exact .exn c q ((e _).2 _ _ d) (h.mono e g)
  | exn0 c q => exact .exn0 c q
  | lk h ih => exact .lk ih
  | xo h => exact .xo h
  | dead h => exact .dead h
theorem VRs.length : ∀ {xs : List PV} {vs : List V}, VRs K H ρ xs vs → vs.length = xs.length
  | _, _, .nil => rfl
  | _, _, .cons _ t => by rw [List.length_cons, List.length_cons, VRs.length t]
theorem VRs.get : ∀ {xs : List PV} {vs : List V} {i : Nat} {x : PV}, VRs K H ρ xs vs → xs[i]? = some x → ∃ v, vs[i]? = some v ∧ VR K H ρ x v
  | _, _, _, _, .nil, e => by simp at e
  | _, _, 0, x, .cons (v := v) h _, e => ⟨v, rfl, by simp at e; subst e; exact h⟩
  | _, _, i + 1, x, .cons _ t, e => by
    obtain ⟨v, h1, h2⟩ := VRs.get (i := i) (x := x) t (by simpa using e)
    exact ⟨v, by simpa using h1, h2⟩
theorem VRs.append : ∀ {xs ys : List PV} {vs ws : List V}, VRs K H ρ xs vs → VRs K H ρ ys ws → VRs K H ρ (xs ++ ys) (vs ++ ws)
  | _, _, _, _, .nil, h => h
  | _, _, _, _, .cons h t, h' => .cons h (VRs.append t h')
theorem VRs.take : ∀ {xs : List PV} {vs : List V} (n : Nat), VRs K H ρ xs vs → VRs K H ρ (xs.take n) (vs.take n)
  | _, _, 0, _ => .nil
  | _, _, _ + 1, .nil => .nil
  | _, _, n + 1, .cons h t => .cons h (VRs.take n t)
theorem VRs.drop : ∀ {xs : List PV} {vs : List V} (n : Nat), VRs K H ρ xs vs → VRs K H ρ (xs.drop n) (vs.drop n)
  | _, _, 0, h => h
  | _, _, _ + 1, .nil => .nil
  | _, _, n + 1, .cons _ t => VRs.drop n t
theorem VRs.set {x : PV} {v : V} (r : VR K H ρ x v) : ∀ {xs : List PV} {vs : List V} (i : Nat), VRs K H ρ xs vs → VRs K H ρ (xs.set i x) (vs.set i v)
  | _, _, _, .nil => .nil
  | _, _, 0, .cons _ t => .cons r t
  | _, _, i + 1, .cons q t => .cons q (VRs.set r i t)
theorem VRs.reverse : ∀ {xs : List PV} {vs : List V}, VRs K H ρ xs vs → VRs K H ρ xs.reverse vs.reverse
  | _, _, .nil => .nil
  | _, _, .cons h t => by rw [List.reverse_cons, List.reverse_cons]; exact (VRs.reverse t).append (.cons h .nil)
theorem VRs.eraseIdx : ∀ {xs : List PV} {vs : List V} (i : Nat), VRs K H ρ xs vs → VRs K H ρ (xs.eraseIdx i) (vs.eraseIdx i)
  | _, _, _, .nil => .nil
  | _, _, 0, .cons _ t => t
  | _, _, i + 1, .cons h t => .cons h (VRs.eraseIdx i t)
theorem VRs.ints : ∀ (ns : List Int), VRs K H ρ (ns.map PV.int) (ns.map V.int)
  | [] => .nil
  | n :: r => .cons (.int n) (VRs.ints r)
theorem VRs.bls_inv : ∀ {ns : List Bool} {vs : List V}, VRs K H ρ (ns.map PV.bl) vs → vs = ns.map V.bl
  | [], _, h => by cases h; rfl
  | n :: r, _, h => by
    cases h with
    | cons h t => cases h; rw [VRs.bls_inv t]; rfl
/-- the locals -/
def ER (K : PySem.W.Frag) (H : Hp) (ρ : List Addr) : Env' → List (Option V) → Prop := Paired fun e s => ∀ x, e = some x → ∃ v, s = some v ∧ VR K H ρ x v
theorem ER.mono (e : Ext H H') (g : Grow ρ ρ') {env : Env'} {σ : List (Option V)} (h : ER K H ρ env σ) : ER K H' ρ' env σ :=
  Paired.mapP h fun _ _ z x ex => let ⟨v, h1, h2⟩ := z x ex; ⟨v, h1, h2.mono e g⟩
theorem ER.get : ∀ {env : Env'} {σ : List (Option V)} {i : Nat} {x : PV}, ER K H ρ env σ → env[i]? = some (some x) → ∃ v, σ[i]? = some (some v) ∧ VR K H ρ x v
  | _, _, _, _, .nil, e => by simp at e
  | _, _, 0, x, .cons h _, e => by
    simp at e; subst e
    obtain ⟨v, h1, h2⟩ := h x rfl
    subst h1; exact ⟨v, rfl, h2⟩
  | _, _, i + 1, x, .cons _ t, e => by
    obtain ⟨v, h1, h2⟩ := ER.get (i := i) (x := x) t (by simpa using e)
    exact ⟨v, by simpa using h1, h2⟩
theorem ER.set {x : PV} {v : V} (r : VR K H ρ x v) : ∀ {env : Env'} {σ : List (Option V)} (i : Nat), ER K H ρ env σ → ER K H ρ (env.set i (some x)) (σ.set i (some v))
  | _, _, _, .nil => .nil
  | _, _, 0, .cons _ t => .cons (fun y e => by cases e; exact ⟨v, rfl, r⟩) t
  | _, _, i + 1, .cons q t => .cons q (ER.set r i t)
theorem ER.setN : ∀ {env : Env'} {σ : List (Option V)} (i : Nat) (s : Option V), ER K H ρ env σ → ER K H ρ (env.set i none) (σ.set i s)
  | _, _, _, _, .nil => .nil
  | _, _, 0, _, .cons _ t => .cons (fun y e => by cases e) t
  | _, _, i + 1, s, .cons q t => .cons q (ER.setN i s t)
theorem ER.start : ∀ {xs : List PV} {vs : List V} (n : Nat), VRs K H ρ xs vs → ER K H ρ (xs.map some ++ List.replicate n none) (vs.map some ++ List.replicate n none)
  | _, _, 0, .nil => .nil
  | _, _, n + 1, .nil => by rw [List.replicate_succ, List.replicate_succ]; exact .cons (fun _ e => by cases e) (ER.start n .nil)
  | _, _, n, .cons h t => .cons (fun y e => by cases e; exact ⟨_, rfl, h⟩) (ER.start n t)
end
end MP

set_option maxRecDepth 100000
namespace MP
open PySem PySem.Spec PyProof.Rows L2
section
variable {K : PySem.W.Frag} {mg : Str → Option Value} {H H' : Hp} {ρ ρ' : List Addr} {S : Ms}

theorem nodup_inj {l : List Addr} (h : l.Nodup) {i j : Nat} (hi : i < l.length) (hj : j < l.length) (e : l[i] = l[j]) : i = j := by
  have h' := List.pairwise_iff_getElem.mp h
  rcases Nat.lt_trichotomy i j with q | q | q
  · exact absurd e (h' i j hi hj q)
  · exact q
  · exact absurd e.symm (h' j i hj hi q)
theorem Ext.new {p : Addr} {o : HO} (h : H p = none) : Ext H (upd H p o) := fun a =>
  ⟨fun xs e => by rw [upd_ne (ne_of_none e h)]; exact e, fun o u e => by rw [upd_ne (ne_of_none e h)]; exact e⟩
/-- what is neither a tuple nor locked -/
def Soft (u : HO) : Prop := (∀ xs, u ≠ .tup xs) ∧ ∀ o x, u ≠ .frz o x
theorem Ext.put {p : Addr} {o u : HO} (h : H p = some u) (s : Soft u) : Ext H (upd H p o) := fun a =>
  ⟨fun xs e => by rw [upd_ne (ne_of e h (fun z => s.1 xs z.symm))]; exact e, fun o x e => by rw [upd_ne (ne_of e h (fun z => s.2 o x z.symm))]; exact e⟩

theorem HR.fresh (R : HR K mg ρ S H) {p : Addr} (h : H p = none) : p ∉ ρ := fun hp => by
  obtain ⟨n, hn, e⟩ := List.getElem_of_mem hp
  have hs : n < S.length := by rw [← R.len]; exact hn
  obtain ⟨a, ho, h1, h2, _⟩ := R.at_ n S[n] (List.getElem?_eq_getElem hs)
  rw [List.getElem?_eq_getElem hn] at h1
  cases h1
  rw [e, h] at h2
  cases h2
theorem HR.get (R : HR K mg ρ S H) {n : Nat} {a : Addr} {o : Ob} (h : ρ[n]? = some a) (e : S[n]? = some o) : ∃ ho, H a = some ho ∧ OR K mg H ρ o ho := by
  obtain ⟨a', ho, h1, h2, h3⟩ := R.at_ n o e
  rw [h] at h1; cases h1
  exact ⟨ho, h2, h3⟩
/-- an untracked object (a tuple) more in the heap -/
theorem HR.mono (R : HR K mg ρ S H) (e : Ext H H') (k : ∀ (n : Nat) (a : Addr), ρ[n]? = some a → H' a = H a) : HR K mg ρ S H' :=
  ⟨R.len, R.nd, fun n o h => let ⟨a, ho, h1, h2, h3⟩ := R.at_ n o h; ⟨a, ho, h1, by rw [k n a h1]; exact h2, h3.mono e (.refl _)⟩⟩
theorem HR.newTup (R : HR K mg ρ S H) {p : Addr} {vs : List V} (h : H p = none) : HR K mg ρ S (upd H p (.tup vs)) :=
  R.mono (.new h) fun n a e => by
    rw [upd_ne]
    intro z
    subst z
    exact R.fresh h (List.mem_of_getElem? e)
/-- a new object of the store -/
theorem HR.new (R : HR K mg ρ S H) {p : Addr} {o : Ob} {u : HO} (h : H p = none) (r : OR K mg H ρ o u) : HR K mg (ρ ++ [p]) (S ++ [o]) (upd H p u) := by
  have nf := R.fresh h
  refine ⟨by rw [List.length_append, List.length_append, R.len]; rfl, List.nodup_append.mpr ⟨R.nd, by simp, fun a ha b hb => ?_⟩, fun n o' e => ?_⟩
  · simp at hb; subst hb; intro z; subst z; exact nf ha
  · by_cases hn : n < S.length
    · rw [List.getElem?_append_left hn] at e
      obtain ⟨a, ho, h1, h2, h3⟩ := R.at_ n o' e
      refine ⟨a, ho, Grow.snoc _ _ _ _ h1, ?_, h3.mono (.new h) (.snoc _ _)⟩
      rw [upd_ne (ne_of_none h2 h)]; exact h2
    · have e' : n = S.length := by
        have := (List.getElem?_eq_some_iff.mp e).1
        rw [List.length_append] at this
        simp at this
        omega
      subst e'
      simp at e
      subst e
      refine ⟨p, u, ?_, upd_same, r.mono (.new h) (.snoc _ _)⟩
      rw [← R.len]; simp
theorem VR.new {p : Addr} : VR K H' (ρ ++ [p]) (.loc ρ.length) (.ref p) := .loc (by simp)
/-- an object is changed -/
theorem HR.put (R : HR K mg ρ S H) {n : Nat} {a : Addr} {o : Ob} {u u' : HO} (hn : ρ[n]? = some a) (ha : H a = some u) (s : Soft u) (r : OR K mg H ρ o u') : HR K mg ρ (S.set n o) (upd H a u') := by
  have ex : Ext H (upd H a u') := .put ha s
  refine ⟨by rw [R.len, List.length_set], R.nd, fun m o' e => ?_⟩
  by_cases hm : n = m
  · subst hm
    have hl : n < S.length := by
      have := (List.getElem?_eq_some_iff.mp e).1
      rw [List.length_set] at this
      exact this
    rw [List.getElem?_set_self hl] at e
    cases e
    exact ⟨a, u', hn, upd_same, r.mono ex (.refl _)⟩
  · rw [List.getElem?_set_ne hm] at e
    obtain ⟨b, ho, h1, h2, h3⟩ := R.at_ m o' e
    refine ⟨b, ho, h1, ?_, h3.mono ex (.refl _)⟩
    rw [upd_ne]; exact h2
    intro z
    subst z
    have hmb := (List.getElem?_eq_some_iff.mp h1)
    have hnb := (List.getElem?_eq_some_iff.mp hn)
    obtain ⟨l1, q1⟩ := hmb
    obtain ⟨l2, q2⟩ := hnb
    exact hm (nodup_inj R.nd l2 l1 (q2.trans q1.symm))
end

/-! ### what is wanted behind an expression, behind a statement -/
section
variable (K : PySem.W.Frag) (mg : Str → Option Value)
/-- what lies in an exception's dict -/
def XR (H : Hp) (ρ : List Addr) (fs : List (Str × PV)) (d : Option Addr) : Prop := (∃ dd gs, d = some dd ∧ H dd = some (.xd gs) ∧ dd ∉ ρ ∧ KVR K H ρ fs gs) ∨ (d = none ∧ fs = [])
def Post (ρ : List Addr) (H : Hp) (σ : L2.St) (W : WX) (Q : VK) : Out PV → Prop
  | .ret v S' => ∀ ρ' v' H', Grow ρ ρ' → HR K mg ρ' S' H' → Ext H H' → VR K H' ρ' v v' → Q v' H'
  | .exc x S' => ∀ ρ' C d H', Grow ρ ρ' → HR K mg ρ' S' H' → Ext H H' → mg x.cls = some (.ref C) → XR K H' ρ' x.fs d → W (.ref C) d σ H'
  | .fail => False
def PostL (ρ : List Addr) (H : Hp) (σ : L2.St) (W : WX) (Q : List V → Hp → Prop) : Out (List PV) → Prop
  | .ret v S' => ∀ ρ' v' H', Grow ρ ρ' → HR K mg ρ' S' H' → Ext H H' → VRs K H' ρ' v v' → Q v' H'
  | .exc x S' => ∀ ρ' C d H', Grow ρ ρ' → HR K mg ρ' S' H' → Ext H H' → mg x.cls = some (.ref C) → XR K H' ρ' x.fs d → W (.ref C) d σ H'
  | .fail => False
def PostB (ρ : List Addr) (H : Hp) (σ : L2.St) (W : WX) (Q : Bool → Hp → Prop) : Out Bool → Prop
  | .ret v S' => ∀ ρ' H', Grow ρ ρ' → HR K mg ρ' S' H' → Ext H H' → Q v H'
  | .exc x S' => ∀ ρ' C d H', Grow ρ ρ' → HR K mg ρ' S' H' → Ext H H' → mg x.cls = some (.ref C) → XR K H' ρ' x.fs d → W (.ref C) d σ H'
  | .fail => False
def PostS (ρ : List Addr) (H : Hp) (W : WX) (D : Ends) : SO → Prop
  | .nx e S' => ∀ ρ' σ' H', Grow ρ ρ' → HR K mg ρ' S' H' → Ext H H' → ER K H' ρ' e σ' → D.nx σ' H'
  | .rt v S' => ∀ ρ' v' H', Grow ρ ρ' → HR K mg ρ' S' H' → Ext H H' → VR K H' ρ' v v' → D.rt v' H'
  | .bk e S' => ∀ ρ' σ' H', Grow ρ ρ' → HR K mg ρ' S' H' → Ext H H' → ER K H' ρ' e σ' → D.bk σ' H'
  | .ct e S' => ∀ ρ' σ' H', Grow ρ ρ' → HR K mg ρ' S' H' → Ext H H' → ER K H' ρ' e σ' → D.ct σ' H'
  | .exc e x S' => ∀ ρ' σ' C d H', Grow ρ ρ' → HR K mg ρ' S' H' → Ext H H' → ER K H' ρ' e σ' → mg x.cls = some (.ref C) → XR K H' ρ' x.fs d → W (.ref C) d σ' H'
  | .fail => False
end
section
variable {K : PySem.W.Frag} {mg : Str → Option Value} {H H' : Hp} {ρ ρ' : List Addr} {S : Ms} {σ : L2.St} {W : WX} {D : Ends}
theorem Post.mono {Q : VK} {o : Out PV} (g : Grow ρ ρ') (e : Ext H H') (h : Post K mg ρ H σ W Q o) : Post K mg ρ' H' σ W Q o := by
  cases o with
  | ret v S => exact fun r v' h' g' R e' => h r v' h' (g.trans g') R (e.trans e')
  | exc x S => exact fun r C d h' g' R e' => h r C d h' (g.trans g') R (e.trans e')
  | fail => exact h
theorem PostL.mono {Q : List V → Hp → Prop} {o : Out (List PV)} (g : Grow ρ ρ') (e : Ext H H') (h : PostL K mg ρ H σ W Q o) : PostL K mg ρ' H' σ W Q o := by
  cases o with
  | ret v S => exact fun r v' h' g' R e' => h r v' h' (g.trans g') R (e.trans e')
  | exc x S => exact fun r C d h' g' R e' => h r C d h' (g.trans g') R (e.trans e')
  | fail => exact h
theorem PostB.mono {Q : Bool → Hp → Prop} {o : Out Bool} (g : Grow ρ ρ') (e : Ext H H') (h : PostB K mg ρ H σ W Q o) : PostB K mg ρ' H' σ W Q o := by
  cases o with
  | ret v S => exact fun r h' g' R e' => h r h' (g.trans g') R (e.trans e')
  | exc x S => exact fun r C d h' g' R e' => h r C d h' (g.trans g') R (e.trans e')
  | fail => exact h
theorem PostS.mono {o : SO} (g : Grow ρ ρ') (e : Ext H H') (h : PostS K mg ρ H W D o) : PostS K mg ρ' H' W D o := by
  cases o with
  | nx en S => exact fun r s h' g' R e' => h r s h' (g.trans g') R (e.trans e')
  | rt v S => exact fun r v' h' g' R e' => h r v' h' (g.trans g') R (e.trans e')
  | bk en S => exact fun r s h' g' R e' => h r s h' (g.trans g') R (e.trans e')
  | ct en S => exact fun r s h' g' R e' => h r s h' (g.trans g') R (e.trans e')
  | exc en x S => exact fun r s C d h' g' R e' => h r s C d h' (g.trans g') R (e.trans e')
  | fail => exact h
end

/-! ### the judgements: a piece of syntax and its mirror -/
abbrev ME := Env' → Ms → Out PV
abbrev ML := Env' → Ms → Out (List PV)
abbrev MB := Env' → Ms → Out Bool
abbrev MS := Env' → Ms → SO
def SE (X : Cx) (W : WX) (e : Expr) (m : ME) : Prop := ∃ t, PE X e t ∧ ∀ ρ env S σ H Q, HR X.K X.mg ρ S H → ER X.K H ρ env σ → Post X.K X.mg ρ H σ W Q (m env S) → t σ H Q
def SA (X : Cx) (W : WX) (es : List Expr) (m : ML) : Prop := ∃ t, PA X es t ∧ ∀ ρ env S σ H Q, HR X.K X.mg ρ S H → ER X.K H ρ env σ → PostL X.K X.mg ρ H σ W Q (m env S) → t σ H Q
def SB (X : Cx) (W : WX) (e : Expr) (m : MB) : Prop := ∃ t, PT X e t ∧ ∀ ρ env S σ H Q, HR X.K X.mg ρ S H → ER X.K H ρ env σ → PostB X.K X.mg ρ H σ W Q (m env S) → t σ H Q
def SW (X : Cx) (W : WX) (e : Expr) (m : MB) : Prop := ∃ t, PW X e t ∧ ∀ ρ env S σ H Q, HR X.K X.mg ρ S H → ER X.K H ρ env σ → PostB X.K X.mg ρ H σ W Q (m env S) → t σ H Q
def SS (X : Cx) (W : WX) (st : Stmt) (m : MS) : Prop := ∃ t, PS X st t ∧ ∀ ρ env S σ H D, HR X.K X.mg ρ S H → ER X.K H ρ env σ → PostS X.K X.mg ρ H W D (m env S) → t D σ H
def SSs (X : Cx) (W : WX) (st : List Stmt) (m : MS) : Prop := ∃ t, PSs X st t ∧ ∀ ρ env S σ H D, HR X.K X.mg ρ S H → ER X.K H ρ env σ → PostS X.K X.mg ρ H W D (m env S) → t D σ H

/-! ### expressions -/
section
variable {X : Cx} {W : WX} {a b e : Expr} {es : List Expr} {pos : Pos} {m n : ME} {ml : ML}
def mVar (i : Nat) : ME := fun env S => match env[i]? with | some (some v) => .ret v S | _ => .fail
theorem s_var (i : Nat) {x : Str} (hN : X.N[i]? = some x := by rfl) (hv : Vis X.env.scope x := by first | exact Or.inl rfl | exact Or.inr (Or.inl rfl) | exact Or.inr (Or.inr rfl)) (hd : (x == ("__debug__" : Str)) = false := by decide)
    (hcd : (x == ("__classdict__" : Str)) = false := by decide) : SE X W (.Name x pos) (mVar i) := ⟨_, pe_var hN hv hd hcd, fun ρ env S σ H Q R er h => by
  unfold mVar at h
  split at h
  · rename_i v ev
    obtain ⟨v', h1, h2⟩ := er.get ev
    exact ⟨v', h1, h _ _ _ (.refl _) R (.refl _) h2⟩
  · exact h.elim⟩
def mC (v : PV) : ME := fun _ S => .ret v S
theorem s_int {i j} : SE X W (.Constant (.int i) j pos) (mC (.int i)) := ⟨_, pe_int, fun ρ env S σ H Q R er h => h _ _ _ (.refl _) R (.refl _) (.int i)⟩
theorem s_bl {i j} : SE X W (.Constant (.bool i) j pos) (mC (.bl i)) := ⟨_, pe_bl, fun ρ env S σ H Q R er h => h _ _ _ (.refl _) R (.refl _) (.bl i)⟩
theorem s_non {j} : SE X W (.Constant .none j pos) (mC .non) := ⟨_, pe_non, fun ρ env S σ H Q R er h => h _ _ _ (.refl _) R (.refl _) .non⟩
theorem s_str {i j} : SE X W (.Constant (.str i) j pos) (mC (.str i)) := ⟨_, pe_str, fun ρ env S σ H Q R er h => h _ _ _ (.refl _) R (.refl _) (.str i)⟩

/-- two values, an operation on them -/
def m2 (a b : ME) (f : PV → PV → Ms → Out PV) : ME := fun env S => (a env S).bind fun x S1 => (b env S1).bind fun y S2 => f x y S2
def m1 (a : ME) (f : PV → Ms → Out PV) : ME := fun env S => (a env S).bind fun x S1 => f x S1
/-- a rule by values serves the operation f -/
def O2 (X : Cx) (W : WX) (f : PV → PV → Ms → Out PV) (r : V → V → Hp → VK → Prop) : Prop :=
  ∀ ρ S H σ Q x y x' y', HR X.K X.mg ρ S H → VR X.K H ρ x x' → VR X.K H ρ y y' → Post X.K X.mg ρ H σ W Q (f x y S) → r x' y' H Q
def O1 (X : Cx) (W : WX) (f : PV → Ms → Out PV) (r : V → Hp → VK → Prop) : Prop :=
  ∀ ρ S H σ Q x x', HR X.K X.mg ρ S H → VR X.K H ρ x x' → Post X.K X.mg ρ H σ W Q (f x S) → r x' H Q
def OL (X : Cx) (W : WX) (f : List PV → Ms → Out PV) (r : List V → Hp → VK → Prop) : Prop :=
  ∀ ρ S H σ Q x x', HR X.K X.mg ρ S H → VRs X.K H ρ x x' → Post X.K X.mg ρ H σ W Q (f x S) → r x' H Q

theorem bin_ok {ta tb : TE} {r : V → V → Hp → VK → Prop} {f : PV → PV → Ms → Out PV}
    (ha : ∀ ρ env S σ H Q, HR X.K X.mg ρ S H → ER X.K H ρ env σ → Post X.K X.mg ρ H σ W Q (m env S) → ta σ H Q)
    (hb : ∀ ρ env S σ H Q, HR X.K X.mg ρ S H → ER X.K H ρ env σ → Post X.K X.mg ρ H σ W Q (n env S) → tb σ H Q) (hf : O2 X W f r)
    (ρ env S σ H Q) (R : HR X.K X.mg ρ S H) (er : ER X.K H ρ env σ) (h : Post X.K X.mg ρ H σ W Q (m2 m n f env S)) : tOp r ta tb σ H Q := by
  refine ha ρ env S σ H _ R er ?_
  unfold m2 at h
  cases e : m env S with
  | fail => rw [e] at h; exact h.elim
  | exc x S => rw [e] at h; exact h
  | ret x S1 =>
    rw [e] at h
    intro ρ1 x' H1 g1 R1 e1 r1
    refine hb ρ1 env S1 σ H1 _ R1 (er.mono e1 g1) ?_
    have h := Post.mono g1 e1 h
    simp only [Out.bind] at h
    cases e : n env S1 with
    | fail => rw [e] at h; exact h.elim
    | exc x S => rw [e] at h; exact h
    | ret y S2 =>
      rw [e] at h
      intro ρ2 y' H2 g2 R2 e2 r2
      exact hf ρ2 S2 H2 σ Q x y x' y' R2 (r1.mono e2 g2) r2 (Post.mono g2 e2 h)
theorem s_op {op : Operator} {f : PV → PV → Ms → Out PV} {r : V → V → Hp → VK → Prop} (ho : OpR X (binaryOp op) r) (hf : O2 X W f r) (ha : SE X W a m) (hb : SE X W b n) : SE X W (.BinOp a op b pos) (m2 m n f) :=
  let ⟨_, pa, qa⟩ := ha; let ⟨_, pb, qb⟩ := hb
  ⟨_, pe_op ho pa pb, bin_ok qa qb hf⟩
theorem un_ok {ta : TE} {r : V → Hp → VK → Prop} {f : PV → Ms → Out PV}
    (ha : ∀ ρ env S σ H Q, HR X.K X.mg ρ S H → ER X.K H ρ env σ → Post X.K X.mg ρ H σ W Q (m env S) → ta σ H Q) (hf : O1 X W f r)
    (ρ env S σ H Q) (R : HR X.K X.mg ρ S H) (er : ER X.K H ρ env σ) (h : Post X.K X.mg ρ H σ W Q (m1 m f env S)) : tUn r ta σ H Q := by
  refine ha ρ env S σ H _ R er ?_
  unfold m1 at h
  cases e : m env S with
  | fail => rw [e] at h; exact h.elim
  | exc x S => rw [e] at h; exact h
  | ret x S1 =>
    rw [e] at h
    intro ρ1 x' H1 g1 R1 e1 r1
    exact hf ρ1 S1 H1 σ Q x x' R1 r1 (Post.mono g1 e1 h)
theorem s_un {op : UnaryOp} {f : PV → Ms → Out PV} {r : V → Hp → VK → Prop} (ho : UnR X (unaryOp op) r) (hf : O1 X W f r) (ha : SE X W a m) : SE X W (.UnaryOp op a pos) (m1 m f) :=
  let ⟨_, pa, qa⟩ := ha
  ⟨_, pe_un ho pa, un_ok qa hf⟩
/-- comparisons by values -/
theorem s_cmp {op : CmpOp} {f : PV → PV → Ms → Out PV} {r : V → V → Hp → VK → Prop} (ho : OpR X (compareOp op) r) (hf : O2 X W f r) (ha : SE X W a m) (hb : SE X W b n) (h1 : behindInMarks op b = false := by first | exact nobehind _ (by decide) (by decide) | rfl) :
    SE X W (.Compare a [op] [b] pos) (m2 m n f) :=
  let ⟨_, pa, qa⟩ := ha; let ⟨_, pb, qb⟩ := hb
  ⟨_, pe_cmpR ho pa pb h1, bin_ok qa qb hf⟩
/-- argument lists -/
def mNil : ML := fun _ S => .ret [] S
def mCons (a : ME) (r : ML) : ML := fun env S => match a env S with
  | .ret x S1 => (match r env S1 with | .ret xs S2 => .ret (x :: xs) S2 | .exc x S => .exc x S | .fail => .fail)
  | .exc x S => .exc x S
  | .fail => .fail
theorem sa_nil : SA X W [] mNil := ⟨_, pa_nil, fun ρ env S σ H Q R er h => h _ _ _ (.refl _) R (.refl _) .nil⟩
theorem sa_cons (ha : SE X W e m) (hr : SA X W es ml) (hs : starEach (e :: es) X.env = (false, eval e X.env) :: starEach es X.env := by rfl) : SA X W (e :: es) (mCons m ml) :=
  let ⟨_, pa, qa⟩ := ha; let ⟨_, pb, qb⟩ := hr
  ⟨_, pa_cons pa pb hs, fun ρ env S σ H Q R er h => by
    refine qa ρ env S σ H _ R er ?_
    unfold mCons at h
    cases e : m env S with
    | fail => rw [e] at h; exact h.elim
    | exc x S => rw [e] at h; exact h
    | ret x S1 =>
      rw [e] at h
      intro ρ1 x' H1 g1 R1 e1 r1
      refine qb ρ1 env S1 σ H1 _ R1 (er.mono e1 g1) ?_
      have h := PostL.mono g1 e1 h
      cases e : ml env S1 with
      | fail => simp only [e] at h; exact h.elim
      | exc x S => simp only [e] at h; exact h
      | ret xs S2 =>
        simp only [e] at h
        intro ρ2 xs' H2 g2 R2 e2 r2
        exact h ρ2 _ H2 g2 R2 e2 (.cons (r1.mono e2 g2) r2)⟩
theorem args_ok {t : TA} {r : List V → Hp → VK → Prop} {f : List PV → Ms → Out PV}
    (ha : ∀ ρ env S σ H Q, HR X.K X.mg ρ S H → ER X.K H ρ env σ → PostL X.K X.mg ρ H σ W Q (ml env S) → t σ H Q) 
    (ρ env S σ H Q) (hf : ∀ ρ' S' H' x x', Grow ρ ρ' → Ext H H' → HR X.K X.mg ρ' S' H' → VRs X.K H' ρ' x x' → Post X.K X.mg ρ' H' σ W Q (f x S') → r x' H' Q) (R : HR X.K X.mg ρ S H) (er : ER X.K H ρ env σ) (h : Post X.K X.mg ρ H σ W Q ((ml env S).bind f)) : t σ H (fun x H1 => r x H1 Q) := by
  refine ha ρ env S σ H _ R er ?_
  cases e : ml env S with
  | fail => rw [e] at h; exact h.elim
  | exc x S => rw [e] at h; exact h
  | ret x S1 =>
    rw [e] at h
    intro ρ1 x' H1 g1 R1 e1 r1
    exact hf ρ1 S1 H1 x x' g1 e1 R1 r1 (Post.mono g1 e1 h)
def mL (l : ML) (f : List PV → Ms → Out PV) : ME := fun env S => (l env S).bind f
/-- a new list, a tuple -/
def lim : Nat := 16000000
theorem lim_le {n : Nat} (h : n ≤ lim) : n ≤ sizeLine := Nat.le_trans h (by decide)
def oList (xs : List PV) (S : Ms) : Out PV := if xs.length ≤ lim then .ret (.loc S.length) (S ++ [.lst xs]) else .fail
def oTup (xs : List PV) (S : Ms) : Out PV := if xs.length ≤ lim then .ret (.tup xs) S else .fail
theorem new_list {ρ H σ S Q} {xs : List PV} {vs : List V} (R : HR X.K X.mg ρ S H) (r : VRs X.K H ρ xs vs) (h : Post X.K X.mg ρ H σ W Q (.ret (.loc S.length) (S ++ [.lst xs]))) {p : Addr} (hp : H p = none) : Q (.ref p) (upd H p (.lst vs)) :=
  h (ρ ++ [p]) _ _ (.snoc _ _) (R.new hp (.lst r)) (.new hp) (by rw [← R.len]; exact .new)
theorem s_list (ha : SA X W es ml) : SE X W (.List es pos) (mL ml oList) :=
  let ⟨_, pa, qa⟩ := ha
  ⟨_, pe_lst pa, fun ρ env S σ H Q R er h => args_ok (r := fun xs H1 Q => xs.length ≤ sizeLine ∧ ∀ p, H1 p = none → Q (.ref p) (upd H1 p (.lst xs))) qa ρ env S σ H Q (fun ρ' S' H' x x' g e R' r h' => by
    unfold oList at h'
    split at h'
    · rename_i hl
      exact ⟨by rw [r.length]; exact lim_le hl, fun p hp => new_list R' r h' hp⟩
    · exact h'.elim) R er h⟩
theorem new_tup {ρ H σ S Q} {xs : List PV} {vs : List V} (R : HR X.K X.mg ρ S H) (r : VRs X.K H ρ xs vs) (h : Post X.K X.mg ρ H σ W Q (.ret (.tup xs) S)) {p : Addr} (hp : H p = none) : Q (.ref p) (upd H p (.tup vs)) :=
  h ρ _ _ (.refl _) (R.newTup hp) (.new hp) (.tup upd_same (r.mono (.new hp) (.refl _)))
theorem s_tup {k} (ha : SA X W es ml) : SE X W (.Tuple es k pos) (mL ml oTup) :=
  let ⟨_, pa, qa⟩ := ha
  ⟨_, pe_tup pa, fun ρ env S σ H Q R er h => args_ok (r := fun xs H1 Q => xs.length ≤ sizeLine ∧ ∀ p, H1 p = none → Q (.ref p) (upd H1 p (.tup xs))) qa ρ env S σ H Q (fun ρ' S' H' x x' g e R' r h' => by
    unfold oTup at h'
    split at h'
    · rename_i hl
      exact ⟨by rw [r.length]; exact lim_le hl, fun p hp => new_tup R' r h' hp⟩
    · exact h'.elim) R er h⟩
end
end MP

set_option maxRecDepth 100000
namespace MP
open PySem PySem.Spec PyProof.Rows L2

theorem or_or {X : Cx} {f : Value → Value → Sem Value} {r r' : R2} (h : OpR X f r) (h' : OpR X f r') : OpR X f (fun x y H Q => r x y H Q ∨ r' x y H Q) := fun pins s σ H x y v u Q I rx ry q =>
  q.elim (h pins s σ H x y v u Q I rx ry) (h' pins s σ H x y v u Q I rx ry)
theorem call_or {X : Cx} {f : Value} {r r' : List V → Hp → VK → Prop} (h : CallR X f r) (h' : CallR X f r') : CallR X f (fun x H Q => r x H Q ∨ r' x H Q) := fun pins s σ H x v Q I rx q =>
  q.elim (h pins s σ H x v Q I rx) (h' pins s σ H x v Q I rx)

section
variable {X : Cx} {W : WX}
/-- an answer without a new object -/
theorem Post.now {ρ H σ S Q} {v : PV} {v' : V} (R : HR X.K X.mg ρ S H) (r : VR X.K H ρ v v') (h : Post X.K X.mg ρ H σ W Q (.ret v S)) : Q v' H := h _ _ _ (.refl _) R (.refl _) r
/-- the list at a place -/
theorem HR.lst {ρ : List Addr} {S : Ms} {H : Hp} {n : Nat} {a : Addr} {xs : List (PV)} (R : HR X.K X.mg ρ S H) (h : ρ[n]? = some a) (e : S[n]? = some (.lst xs)) : ∃ vs, H a = some (.lst vs) ∧ VRs X.K H ρ xs vs := by
  obtain ⟨ho, h1, h2⟩ := R.get h e
  cases h2 with
  | lst r => exact ⟨_, h1, r⟩
theorem HR.dK {ρ : List Addr} {S : Ms} {H : Hp} {n : Nat} {a : Addr} {xs : List (Key × PV)} (R : HR X.K X.mg ρ S H) (h : ρ[n]? = some a) (e : S[n]? = some (.dK xs)) : ∃ vs, H a = some (.dK vs) ∧ KVR X.K H ρ xs vs := by
  obtain ⟨ho, h1, h2⟩ := R.get h e
  cases h2 with
  | dK r => exact ⟨_, h1, r⟩
theorem HR.dT {ρ : List Addr} {S : Ms} {H : Hp} {n : Nat} {a : Addr} {xs : List (List Key × PV)} (R : HR X.K X.mg ρ S H) (h : ρ[n]? = some a) (e : S[n]? = some (.dT xs)) : ∃ vs, H a = some (.dT vs) ∧ KVR X.K H ρ xs vs := by
  obtain ⟨ho, h1, h2⟩ := R.get h e
  cases h2 with
  | dT r => exact ⟨_, h1, r⟩
theorem soft_lst {vs : List V} : Soft (.lst vs) := ⟨(fun _ h => nomatch h), (fun _ _ h => nomatch h)⟩
theorem soft_dK {vs : List (Key × V)} : Soft (.dK vs) := ⟨(fun _ h => nomatch h), (fun _ _ h => nomatch h)⟩
theorem soft_dT {vs : List (List Key × V)} : Soft (.dT vs) := ⟨(fun _ h => nomatch h), (fun _ _ h => nomatch h)⟩
/-- the items of a list or tuple -/
def itemsOf (S : Ms) : PV → Option (List PV)
  | .tup xs => some xs
  | .rol xs => some xs
  | .loc n => match S[n]? with | some (.lst xs) => some xs | _ => none
  | _ => none
theorem items_ok {ρ S H x x' xs} (R : HR X.K X.mg ρ S H) (r : VR X.K H ρ x x') (h : itemsOf S x = some xs) :
    ∃ a vs, x' = .ref a ∧ VRs X.K H ρ xs vs ∧ ((SqL X.K H a vs ∧ ∀ ys, x ≠ .tup ys) ∨ (H a = some (.tup vs) ∧ x = .tup xs)) := by
  cases r with
  | tup hs ha => cases h; exact ⟨_, _, rfl, ha, .inr ⟨hs, rfl⟩⟩
  | rol hs ha => cases h; exact ⟨_, _, rfl, ha, .inl ⟨hs.sq, fun _ z => nomatch z⟩⟩
  | loc e =>
    simp only [itemsOf] at h
    split at h
    · rename_i q; cases h
      obtain ⟨vs, h1, h2⟩ := R.lst e q
      exact ⟨_, vs, rfl, h2, .inl ⟨.of h1, fun _ z => nomatch z⟩⟩
    · cases h
  | non => cases h
  | bl b => cases h
  | int i => cases h
  | str s => cases h

/-! ### arithmetic -/
def oAdd : PV → PV → Ms → Out PV
  | .int i, .int j, S => .ret (.int (i + j)) S
  | .tup xs, .tup ys, S => if xs.length + ys.length ≤ lim then .ret (.tup (xs ++ ys)) S else .fail
  | .loc n, .loc m, S => (match S[n]?, S[m]? with
    | some (.lst xs), some (.lst ys) => if xs.length + ys.length ≤ lim then .ret (.loc S.length) (S ++ [.lst (xs ++ ys)]) else .fail
    | _, _ => .fail)
  | .str a, .str b, S => if a.length + b.length ≤ lim then .ret (.str (a ++ b)) S else .fail
  | _, _, _ => .fail
def rAdd4 (K : PySem.W.Frag) : R2 := fun x y H Q => ((rI0 fun i j => V.int (i + j)) x y H Q ∨ rCatA K x y H Q) ∨ (rCat x y H Q ∨ ∃ i j, x = .str i ∧ y = .str j ∧ i.length + j.length ≤ sizeLine ∧ Q (.str (i ++ j)) H)
theorem op_add4 : OpR X (binaryOp .Add) (rAdd4 X.K) := or_or (or_or op_add op_catA) (or_or op_cat op_add_str)
theorem o_add : O2 X W oAdd (rAdd4 X.K) := by
  intro ρ S H σ Q x y x' y' R rx ry h
  unfold oAdd at h
  split at h
  · cases rx; cases ry; exact .inl (.inl ⟨_, _, rfl, rfl, Post.now R (.int _) h⟩)
  · cases rx with
    | tup hx ax => cases ry with
      | tup hy ay =>
        split at h
        · rename_i hl
          refine .inl (.inr ⟨_, _, _, _, rfl, rfl, .of hx, .of hy, by rw [ax.length, ay.length]; exact lim_le hl, fun e => ?_, fun _ e => ?_, fun _ _ p hp => new_tup R (ax.append ay) h hp⟩)
          · subst e; cases ax; exact Post.now R (.tup hy ay) h
          · subst e; cases ay; rw [List.append_nil] at h; exact Post.now R (.tup hx ax) h
        · exact h.elim
  · cases rx with
    | loc ex => cases ry with
      | loc ey =>
        split at h
        · rename_i q1 q2
          split at h
          · rename_i hl
            obtain ⟨vs, h1, h2⟩ := R.lst ex q1
            obtain ⟨ws, h3, h4⟩ := R.lst ey q2
            exact .inr (.inl ⟨_, _, _, _, rfl, rfl, h1, h3, by rw [h2.length, h4.length]; exact lim_le hl, fun p hp => new_list R (h2.append h4) h hp⟩)
          · exact h.elim
        · exact h.elim
  · cases rx; cases ry
    split at h
    · rename_i hl
      exact .inr (.inr ⟨_, _, rfl, rfl, lim_le hl, Post.now R (.str _) h⟩)
    · exact h.elim
  · exact h.elim
def oSub : PV → PV → Ms → Out PV
  | .int i, .int j, S => .ret (.int (i - j)) S
  | _, _, _ => .fail
theorem o_sub : O2 X W oSub (rI0 fun i j => V.int (i - j)) := by
  intro ρ S H σ Q x y x' y' R rx ry h
  unfold oSub at h
  split at h
  · cases rx; cases ry; exact ⟨_, _, rfl, rfl, Post.now R (.int _) h⟩
  · exact h.elim
instance (i j : Int) : Decidable (CMul i j) := by unfold CMul; infer_instance
instance (i j : Int) : Decidable (CMulW i j) := by unfold CMulW; infer_instance
instance (i j : Int) : Decidable (CDivN i j) := by unfold CDivN; infer_instance
instance (i j : Int) : Decidable (CDivW i j) := by unfold CDivW; infer_instance
instance (i j : Int) : Decidable (CPow i j) := by unfold CPow; infer_instance
def oMul : PV → PV → Ms → Out PV
  | .int i, .int j, S => if CMul i j ∨ CMulW i j then .ret (.int (i * j)) S else .fail
  | .loc n, .int k, S => (match S[n]? with
    | some (.lst xs) => if -(2 ^ 63) ≤ k ∧ k < 2 ^ 63 ∧ xs.length * k.toNat ≤ lim then .ret (.loc S.length) (S ++ [.lst (List.replicate k.toNat xs).flatten]) else .fail
    | _ => .fail)
  | .tup xs, .int k, S => if xs ≠ [] ∧ 2 ≤ k ∧ k ≤ 1000 ∧ xs.length ≤ 1000 then .ret (.tup (List.replicate k.toNat xs).flatten) S else .fail
  | _, _, _ => .fail
theorem vrs_rep {K H ρ} {xs : List PV} {vs : List V} (h : VRs K H ρ xs vs) : ∀ k : Nat, VRs K H ρ (List.replicate k xs).flatten (List.replicate k vs).flatten
  | 0 => .nil
  | k + 1 => by rw [List.replicate_succ, List.replicate_succ, List.flatten_cons, List.flatten_cons]; exact h.append (vrs_rep h k)
def rMul4 (K : PySem.W.Frag) : R2 := fun x y H Q => (rI CMul (fun i j => V.int (i * j)) x y H Q ∨ rI CMulW (fun i j => V.int (i * j)) x y H Q) ∨ (rRep x y H Q ∨ rRepT K x y H Q)
theorem op_mul4 : OpR X (binaryOp .Mult) (rMul4 X.K) := or_or (or_or op_mul op_mulW) (or_or op_rep op_repT)
theorem o_mul : O2 X W oMul (rMul4 X.K) := by
  intro ρ S H σ Q x y x' y' R rx ry h
  unfold oMul at h
  split at h
  · cases rx; cases ry
    split at h
    · rename_i hc
      rcases hc with hc | hc
      · exact .inl (.inl ⟨_, _, rfl, rfl, hc, Post.now R (.int _) h⟩)
      · exact .inl (.inr ⟨_, _, rfl, rfl, hc, Post.now R (.int _) h⟩)
    · exact h.elim
  · cases rx with
    | loc ex => cases ry; split at h
                · rename_i q
                  split at h
                  · rename_i hc
                    obtain ⟨vs, h1, h2⟩ := R.lst ex q
                    exact .inr (.inl ⟨_, _, _, rfl, rfl, h1, hc.1, hc.2.1, by rw [h2.length]; exact lim_le hc.2.2, fun p hp => new_list R (vrs_rep h2 _) h hp⟩)
                  · exact h.elim
                · exact h.elim
  · cases rx with
    | tup hx ax => cases ry; split at h
                   · rename_i hc
                     exact .inr (.inr ⟨_, _, _, rfl, rfl, .of hx, fun z => hc.1 (by subst z; cases ax; rfl), hc.2.1, hc.2.2.1, by rw [ax.length]; exact hc.2.2.2, fun p hp => new_tup R (vrs_rep ax _) h hp⟩)
                   · exact h.elim
  · exact h.elim
def oMod : PV → PV → Ms → Out PV
  | .int i, .int j, S => if j ≠ 0 then .ret (.int (i.fmod j)) S else .fail
  | _, _, _ => .fail
theorem o_mod : O2 X W oMod (rI (fun _ j => j ≠ 0) fun i j => V.int (i.fmod j)) := by
  intro ρ S H σ Q x y x' y' R rx ry h
  unfold oMod at h
  split at h
  · cases rx; cases ry
    split at h
    · rename_i hc; exact ⟨_, _, rfl, rfl, hc, Post.now R (.int _) h⟩
    · exact h.elim
  · exact h.elim
def oDiv : PV → PV → Ms → Out PV
  | .int i, .int j, S => if CDivN i j then .ret (.int (i.fdiv j)) S else if CDivW i j then .ret (.int (i / j)) S else .fail
  | _, _, _ => .fail
def rDiv4 : R2 := fun x y H Q => rI CDivN (fun i j => V.int (i.fdiv j)) x y H Q ∨ rI CDivW (fun i j => V.int (i / j)) x y H Q
theorem op_div4 : OpR X (binaryOp .FloorDiv) rDiv4 := or_or op_fdivN op_fdivW
theorem o_div : O2 X W oDiv rDiv4 := by
  intro ρ S H σ Q x y x' y' R rx ry h
  unfold oDiv at h
  split at h
  · cases rx; cases ry
    split at h
    · rename_i hc; exact .inl ⟨_, _, rfl, rfl, hc, Post.now R (.int _) h⟩
    · split at h
      · rename_i hc; exact .inr ⟨_, _, rfl, rfl, hc, Post.now R (.int _) h⟩
      · exact h.elim
  · exact h.elim
def oPow : PV → PV → Ms → Out PV
  | .int i, .int j, S => if CPow i j then .ret (.int (i ^ j.toNat)) S else .fail
  | _, _, _ => .fail
theorem o_pow : O2 X W oPow (rI CPow fun i j => V.int (i ^ j.toNat)) := by
  intro ρ S H σ Q x y x' y' R rx ry h
  unfold oPow at h
  split at h
  · cases rx; cases ry
    split at h
    · rename_i hc; exact ⟨_, _, rfl, rfl, hc, Post.now R (.int _) h⟩
    · exact h.elim
  · exact h.elim
def oNeg : PV → Ms → Out PV
  | .int i, S => .ret (.int (-i)) S
  | _, _ => .fail
theorem o_neg : O1 X W oNeg (rU fun i => V.int (-i)) := by
  intro ρ S H σ Q x x' R rx h
  unfold oNeg at h
  split at h
  · cases rx; exact ⟨_, rfl, Post.now R (.int _) h⟩
  · exact h.elim

/-! ### order -/
def oCmp (p : Int → Int → Bool) : PV → PV → Ms → Out PV
  | .int i, .int j, S => .ret (.bl (p i j)) S
  | _, _, _ => .fail
theorem o_cmp {p : Int → Int → Bool} : O2 X W (oCmp p) (rI0 fun i j => V.bl (p i j)) := by
  intro ρ S H σ Q x y x' y' R rx ry h
  unfold oCmp at h
  split at h
  · cases rx; cases ry; exact ⟨_, _, rfl, rfl, Post.now R (.bl _) h⟩
  · exact h.elim
abbrev oLt := oCmp fun i j => decide (i < j)
abbrev oLe := oCmp fun i j => decide (i ≤ j)
abbrev oGt := oCmp fun i j => decide (j < i)
abbrev oGe := oCmp fun i j => decide (j ≤ i)

/-! ### equality -/
mutual
def toD (S : Ms) : Nat → PV → Option PyData
  | _, .non => some .none
  | _, .bl b => some (.bool b)
  | _, .int i => some (.int i)
  | _, .str s => some (.str s)
  | 0, _ => none
  | k + 1, .tup xs => (toDs S k xs).map .tuple
  | k + 1, .rol xs => (toDs S k xs).map .list
  | k + 1, .loc n => match S[n]? with
    | some (.lst xs) => (toDs S k xs).map .list
    | _ => none
termination_by k x => (k, 0)
def toDs (S : Ms) : Nat → List PV → Option (List PyData)
  | _, [] => some []
  | k, x :: xs => match toD S k x, toDs S k xs with | some d, some ds => some (d :: ds) | _, _ => none
termination_by k xs => (k, xs.length + 1)
end
mutual
theorem toD_ok {ρ S H} (R : HR X.K X.mg ρ S H) : ∀ (k : Nat) (x : PV) (x' : V) (d : PyData), VR X.K H ρ x x' → toD S k x = some d → Dp X.K H x' d
  | k, .non, _, d, r, h => by cases r; unfold toD at h; cases h; exact .non
  | k, .bl b, _, d, r, h => by cases r; unfold toD at h; cases h; exact .bl b
  | k, .int b, _, d, r, h => by cases r; unfold toD at h; cases h; exact .int b
  | k, .str b, _, d, r, h => by cases r; unfold toD at h; cases h; exact .str b
  | 0, .tup xs, _, d, r, h => by unfold toD at h; cases h
  | 0, .loc n, _, d, r, h => by unfold toD at h; cases h
  | 0, .rol n, _, d, r, h => by unfold toD at h; cases h
  | k + 1, .tup xs, _, d, r, h => by
    unfold toD at h
    cases e : toDs S k xs with
    | none => rw [e] at h; cases h
    | some ds =>
      rw [e] at h; cases h
      cases r with
      | tup hx ax => exact .tup (.of hx) (toDs_ok R k xs _ ds ax e)
  | k + 1, .rol xs, _, d, r, h => by
    unfold toD at h
    cases e : toDs S k xs with
    | none => rw [e] at h; cases h
    | some ds =>
      rw [e] at h; cases h
      cases r with
      | rol hx ax => exact .lst hx.sq (toDs_ok R k xs _ ds ax e)
  | k + 1, .loc n, _, d, r, h => by
    unfold toD at h
    cases r with
    | loc en =>
      split at h
      · rename_i xs q
        cases e : toDs S k xs with
        | none => rw [e] at h; cases h
        | some ds =>
          rw [e] at h; cases h
          obtain ⟨vs, h1, h2⟩ := R.lst en q
          exact .lst (.of h1) (toDs_ok R k xs vs ds h2 e)
      · cases h
termination_by k x => (k, 0)
theorem toDs_ok {ρ S H} (R : HR X.K X.mg ρ S H) : ∀ (k : Nat) (xs : List PV) (vs : List V) (ds : List PyData), VRs X.K H ρ xs vs → toDs S k xs = some ds → DpAll X.K H vs ds
  | k, [], _, ds, r, h => by cases r; unfold toDs at h; cases h; exact .nil
  | k, x :: xs, _, ds, r, h => by
    cases r with
    | cons r t =>
      unfold toDs at h
      split at h
      · rename_i d ds' e1 e2
        cases h
        exact .cons (toD_ok R k x _ d r e1) (toDs_ok R k xs _ ds' t e2)
      · cases h
termination_by k xs => (k, xs.length + 1)
end
def eqD (S : Ms) (x y : PV) : Option Bool := match toD S 12 x, toD S 12 y with
  | some d, some e => if SeqAt.shaped d && SeqAt.shaped e then some (PyData.eqv d e) else none
  | _, _ => none
def oEq (x y : PV) (S : Ms) : Out PV := match eqD S x y with | some b => .ret (.bl b) S | none => .fail
def oNe (x y : PV) (S : Ms) : Out PV := match eqD S x y with | some b => .ret (.bl (!b)) S | none => .fail
theorem o_eq : O2 X W oEq (rEqD X.K) := by
  intro ρ S H σ Q x y x' y' R rx ry h
  unfold oEq eqD at h
  cases e1 : toD S 12 x with
  | none => simp only [e1] at h; exact h.elim
  | some d => cases e2 : toD S 12 y with
    | none => simp only [e1, e2] at h; exact h.elim
    | some e =>
      simp only [e1, e2] at h
      by_cases hs : (SeqAt.shaped d && SeqAt.shaped e) = true
      · simp only [hs, if_true] at h
        rw [Bool.and_eq_true] at hs
        exact ⟨d, e, toD_ok R 12 x x' d rx e1, toD_ok R 12 y y' e ry e2, hs.1, hs.2, Post.now R (.bl _) h⟩
      · simp only [hs] at h; exact h.elim
theorem o_ne : O2 X W oNe (rNeD X.K) := by
  intro ρ S H σ Q x y x' y' R rx ry h
  unfold oNe eqD at h
  cases e1 : toD S 12 x with
  | none => simp only [e1] at h; exact h.elim
  | some d => cases e2 : toD S 12 y with
    | none => simp only [e1, e2] at h; exact h.elim
    | some e =>
      simp only [e1, e2] at h
      by_cases hs : (SeqAt.shaped d && SeqAt.shaped e) = true
      · simp only [hs, if_true] at h
        rw [Bool.and_eq_true] at hs
        exact ⟨d, e, toD_ok R 12 x x' d rx e1, toD_ok R 12 y y' e ry e2, hs.1, hs.2, Post.now R (.bl _) h⟩
      · simp only [hs] at h; exact h.elim
/-- is None, is True -/
def isNon : PV → Bool
  | .non => true
  | _ => false
def oIsN : PV → PV → Ms → Out PV
  | x, .non, S => .ret (.bl (isNon x)) S
  | _, _, _ => .fail
theorem non_iff {K : PySem.W.Frag} {H : Hp} {ρ : List Addr} {x : PV} {x' : V} (r : VR K H ρ x x') : decide (x' = .non) = isNon x := by
  cases r <;> rfl
theorem o_isN : O2 X W oIsN (fun x y H Q => y = V.non ∧ Q (.bl (decide (x = .non))) H) := by
  intro ρ S H σ Q x y x' y' R rx ry h
  unfold oIsN at h
  split at h
  · cases ry; refine ⟨rfl, ?_⟩; rw [non_iff rx]; exact Post.now R (.bl _) h
  · exact h.elim
end
end MP

set_option maxRecDepth 100000
namespace MP
open PySem PySem.Spec PyProof.Rows L2
section
variable {X : Cx} {W : WX} {a b c e o : Expr} {es rest : List Expr} {pos : Pos} {m n k : ME} {ml : ML} {t u : MB}

/-! ### tests -/
def outB (f : PV → Ms → Out Bool) (m : ME) : MB := fun env S => match m env S with | .ret v S1 => f v S1 | .exc x S => .exc x S | .fail => .fail
def asB : PV → Ms → Out Bool
  | .bl b, S => .ret b S
  | _, _ => .fail
def truth : PV → Ms → Out Bool
  | .non, S => .ret false S
  | .bl b, S => .ret b S
  | .int i, S => .ret (i != 0) S
  | .str s, S => if s.length ≤ lim then .ret ((s.length : Int) != 0) S else .fail
  | .tup xs, S => .ret (!xs.isEmpty) S
  | .rol xs, S => .ret (!xs.isEmpty) S
  | .loc n, S => match S[n]? with
    | some (.lst xs) => .ret (!xs.isEmpty) S
    | some (.dK xs) => .ret (!xs.isEmpty) S
    | _ => .fail
abbrev mB (m : ME) : MB := outB asB m
abbrev mT (m : ME) : MB := outB truth m
theorem PostB.now {ρ H σ S Q} {v : Bool} (R : HR X.K X.mg ρ S H) (h : PostB X.K X.mg ρ H σ W Q (.ret v S)) : Q v H := h _ _ (.refl _) R (.refl _)
theorem test_ok {ta : TE} {f : PV → Ms → Out Bool} {r : V → Hp → (Bool → Hp → Prop) → Prop}
    (ha : ∀ ρ env S σ H Q, HR X.K X.mg ρ S H → ER X.K H ρ env σ → Post X.K X.mg ρ H σ W Q (m env S) → ta σ H Q)
    (hf : ∀ ρ S H σ (Q : Bool → Hp → Prop) x x', HR X.K X.mg ρ S H → VR X.K H ρ x x' → PostB X.K X.mg ρ H σ W Q (f x S) → r x' H Q)
    (ρ env S σ H) (Q : Bool → Hp → Prop) (R : HR X.K X.mg ρ S H) (er : ER X.K H ρ env σ) (h : PostB X.K X.mg ρ H σ W Q (outB f m env S)) : ta σ H (fun x H1 => r x H1 Q) := by
  refine ha ρ env S σ H _ R er ?_
  unfold outB at h
  cases e : m env S with
  | fail => simp only [e] at h; exact h.elim
  | exc x S => simp only [e] at h; exact h
  | ret x S1 =>
    simp only [e] at h
    intro ρ1 x' H1 g1 R1 e1 r1
    exact hf ρ1 S1 H1 σ Q x x' R1 r1 (PostB.mono g1 e1 h)
theorem asB_ok (ρ S H σ) (Q : Bool → Hp → Prop) (x : PV) (x' : V) (R : HR X.K X.mg ρ S H) (r : VR X.K H ρ x x') (h : PostB X.K X.mg ρ H σ W Q (asB x S)) : ∃ k, x' = .bl k ∧ Q k H := by
  unfold asB at h
  split at h
  · cases r; exact ⟨_, rfl, PostB.now R h⟩
  · exact h.elim
theorem empty_vrs {K : PySem.W.Frag} {H : Hp} {ρ : List Addr} {xs : List PV} {vs : List V} (h : VRs K H ρ xs vs) : (!vs.isEmpty) = !xs.isEmpty := by cases h <;> rfl
theorem empty_kvr {K : PySem.W.Frag} {H : Hp} {ρ : List Addr} {κ : Type} {xs : List (κ × PV)} {vs : List (κ × V)} (h : KVR K H ρ xs vs) : (!vs.isEmpty) = !xs.isEmpty := by cases h <;> rfl
theorem truth_ok (ρ S H σ) (Q : Bool → Hp → Prop) (x : PV) (x' : V) (R : HR X.K X.mg ρ S H) (r : VR X.K H ρ x x') (h : PostB X.K X.mg ρ H σ W Q (truth x S)) : ∃ k, TruV X.K x' H k ∧ Q k H := by
  cases r with
  | non => exact ⟨_, rfl, PostB.now R h⟩
  | bl b => exact ⟨_, rfl, PostB.now R h⟩
  | int b => exact ⟨_, rfl, PostB.now R h⟩
  | str s =>
    simp only [truth] at h
    split at h
    · rename_i hl; exact ⟨_, ⟨lim_le hl, rfl⟩, PostB.now R h⟩
    · exact h.elim
  | tup hx ax => exact ⟨_, .inr (.inl ⟨_, .of hx, rfl⟩), by rw [empty_vrs ax]; exact PostB.now R h⟩
  | rol hx ax => exact ⟨_, .inl ⟨_, hx.sq, rfl⟩, by rw [empty_vrs ax]; exact PostB.now R h⟩
  | loc en =>
    simp only [truth] at h
    split at h
    · rename_i q
      obtain ⟨vs, h1, h2⟩ := R.lst en q
      exact ⟨_, .inl ⟨_, .of h1, rfl⟩, by rw [empty_vrs h2]; exact PostB.now R h⟩
    · rename_i q
      obtain ⟨vs, h1, h2⟩ := R.dK en q
      exact ⟨_, .inr (.inr ⟨_, h1, rfl⟩), by rw [empty_kvr h2]; exact PostB.now R h⟩
    · exact h.elim
theorem sb_truth (h : SE X W e m) (he : ∀ whole, isTrue e X.env whole = (do let v ← whole; standAt e.pos; holding [v] (truthy v)) := by intro _; rfl) : SB X W e (mT m) :=
  let ⟨_, p, q⟩ := h
  ⟨_, pt_truth p he, fun ρ env S σ H Q R er h => test_ok q truth_ok ρ env S σ H Q R er h⟩
theorem sb_cmp {op : CmpOp} {f : PV → PV → Ms → Out PV} {r : V → V → Hp → VK → Prop} (ho : OpR X (compareOp op) r) (hf : O2 X W f r) (ha : SE X W a m) (hb : SE X W b n) (h1 : behindInMarks op b = false := by first | exact nobehind _ (by decide) (by decide) | rfl) :
    SB X W (.Compare a [op] [b] pos) (mB (m2 m n f)) :=
  let ⟨_, pa, qa⟩ := ha; let ⟨_, pb, qb⟩ := hb
  ⟨_, pt_cmpR ho pa pb h1, fun ρ env S σ H Q R er h => test_ok (bin_ok qa qb hf) asB_ok ρ env S σ H Q R er h⟩
/-- a < b < c -/
def mChain (a b c : ME) (f g : PV → PV → Ms → Out PV) : ME := fun env S => (a env S).bind fun x S1 => (b env S1).bind fun y S2 => (f x y S2).bind fun z S3 => match z with
  | .bl true => (c env S3).bind fun w S4 => g y w S4
  | .bl false => .ret (.bl false) S3
  | _ => .fail
theorem chain_ok {ta tb tc : TE} {f g : PV → PV → Ms → Out PV} {r r' : R2}
    (ha : ∀ ρ env S σ H Q, HR X.K X.mg ρ S H → ER X.K H ρ env σ → Post X.K X.mg ρ H σ W Q (m env S) → ta σ H Q)
    (hb : ∀ ρ env S σ H Q, HR X.K X.mg ρ S H → ER X.K H ρ env σ → Post X.K X.mg ρ H σ W Q (n env S) → tb σ H Q)
    (hc : ∀ ρ env S σ H Q, HR X.K X.mg ρ S H → ER X.K H ρ env σ → Post X.K X.mg ρ H σ W Q (k env S) → tc σ H Q) (hf : O2 X W f r) (hg : O2 X W g r')
    (ρ env S σ H Q) (R : HR X.K X.mg ρ S H) (er : ER X.K H ρ env σ) (h : Post X.K X.mg ρ H σ W Q (mChain m n k f g env S)) : tChain r r' ta tb tc σ H Q := by
  refine ha ρ env S σ H _ R er ?_
  unfold mChain at h
  cases e : m env S with
  | fail => rw [e] at h; exact h.elim
  | exc x S => rw [e] at h; exact h
  | ret x S1 =>
    rw [e] at h
    intro ρ1 x' H1 g1 R1 e1 r1
    have er1 := er.mono e1 g1
    refine hb ρ1 env S1 σ H1 _ R1 er1 ?_
    have h := Post.mono g1 e1 h
    simp only [Out.bind] at h
    cases e : n env S1 with
    | fail => rw [e] at h; exact h.elim
    | exc x S => rw [e] at h; exact h
    | ret y S2 =>
      rw [e] at h
      intro ρ2 y' H2 g2 R2 e2 r2
      have er2 := er1.mono e2 g2
      have h := Post.mono g2 e2 h
      simp only [] at h
      refine hf ρ2 S2 H2 σ _ x y x' y' R2 (r1.mono e2 g2) r2 ?_
      cases e : f x y S2 with
      | fail => rw [e] at h; exact h.elim
      | exc x S => rw [e] at h; exact h
      | ret z S3 =>
        rw [e] at h
        intro ρ3 z' H3 g3 R3 e3 r3
        have h := Post.mono g3 e3 h
        simp only [] at h
        split at h
        · cases r3
          refine ⟨true, rfl, ?_⟩
          rw [if_pos rfl]
          refine hc ρ3 env S3 σ H3 _ R3 (er2.mono e3 g3) ?_
          cases e : k env S3 with
          | fail => rw [e] at h; exact h.elim
          | exc x S => rw [e] at h; exact h
          | ret w S4 =>
            rw [e] at h
            intro ρ4 w' H4 g4 R4 e4 r4
            exact hg ρ4 S4 H4 σ Q y w y' w' R4 ((r2.mono e3 g3).mono e4 g4) r4 (Post.mono g4 e4 h)
        · cases r3
          refine ⟨false, rfl, ?_⟩
          rw [if_neg Bool.false_ne_true]
          exact Post.now R3 (.bl _) h
        · exact h.elim
theorem s_chain {op op' : CmpOp} {f g : PV → PV → Ms → Out PV} {r r' : R2} (ho : OpR X (compareOp op) r) (ho' : OpR X (compareOp op') r') (hf : O2 X W f r) (hg : O2 X W g r') (ha : SE X W a m) (hb : SE X W b n) (hc : SE X W c k)
    (hm : lastMarks [op, op'] [b, c] = false := by with_unfolding_all rfl) : SE X W (.Compare a [op, op'] [b, c] pos) (mChain m n k f g) :=
  let ⟨_, pa, qa⟩ := ha; let ⟨_, pb, qb⟩ := hb; let ⟨_, pc, qc⟩ := hc
  ⟨_, pe_chain ho ho' pa pb pc hm, chain_ok qa qb qc hf hg⟩
def bAnd (t u : MB) : MB := fun env S => match t env S with | .ret true S1 => u env S1 | .ret false S1 => .ret false S1 | .exc x S => .exc x S | .fail => .fail
def bOr (t u : MB) : MB := fun env S => match t env S with | .ret true S1 => .ret true S1 | .ret false S1 => u env S1 | .exc x S => .exc x S | .fail => .fail
def bNot (t : MB) : MB := fun env S => match t env S with | .ret b S1 => .ret (!b) S1 | .exc x S => .exc x S | .fail => .fail
theorem sw_and1 (h : SB X W a t) : SW X W (.BoolOp .And [a] pos) t := let ⟨_, p, q⟩ := h; ⟨_, pw_and1 p, q⟩
theorem sw_or1 (h : SB X W a t) : SW X W (.BoolOp .Or [a] pos) t := let ⟨_, p, q⟩ := h; ⟨_, pw_or1 p, q⟩
theorem sw_and (h : SB X W a t) (h' : SW X W (.BoolOp .And (b :: rest) pos) u) : SW X W (.BoolOp .And (a :: b :: rest) pos) (bAnd t u) :=
  let ⟨_, pa, qa⟩ := h; let ⟨_, pb, qb⟩ := h'
  ⟨_, pw_and pa pb, fun ρ env S σ H Q R er h => by
    refine qa ρ env S σ H _ R er ?_
    unfold bAnd at h
    split at h
    · rename_i S1 e
      rw [e]
      intro ρ1 H1 g1 R1 e1
      rw [if_pos rfl]
      exact qb ρ1 env S1 σ H1 _ R1 (er.mono e1 g1) (PostB.mono g1 e1 h)
    · rename_i S1 e
      rw [e]
      intro ρ1 H1 g1 R1 e1
      rw [if_neg Bool.false_ne_true]
      exact h ρ1 H1 g1 R1 e1
    · rename_i e; rw [e]; exact h
    · exact h.elim⟩
theorem sw_or (h : SB X W a t) (h' : SW X W (.BoolOp .Or (b :: rest) pos) u) : SW X W (.BoolOp .Or (a :: b :: rest) pos) (bOr t u) :=
  let ⟨_, pa, qa⟩ := h; let ⟨_, pb, qb⟩ := h'
  ⟨_, pw_or pa pb, fun ρ env S σ H Q R er h => by
    refine qa ρ env S σ H _ R er ?_
    unfold bOr at h
    split at h
    · rename_i S1 e
      rw [e]
      intro ρ1 H1 g1 R1 e1
      rw [if_pos rfl]
      exact h ρ1 H1 g1 R1 e1
    · rename_i S1 e
      rw [e]
      intro ρ1 H1 g1 R1 e1
      rw [if_neg Bool.false_ne_true]
      exact qb ρ1 env S1 σ H1 _ R1 (er.mono e1 g1) (PostB.mono g1 e1 h)
    · rename_i e; rw [e]; exact h
    · exact h.elim⟩
theorem sb_w (h : SW X W a t) : SB X W a t := let ⟨_, p, q⟩ := h; ⟨_, p.pt, q⟩
theorem sb_not (h : SB X W a t) : SB X W (.UnaryOp .Not a pos) (bNot t) :=
  let ⟨_, p, q⟩ := h
  ⟨_, pt_not p, fun ρ env S σ H Q R er h => by
    refine q ρ env S σ H _ R er ?_
    unfold bNot at h
    split at h
    · rename_i b S1 e
      rw [e]
      exact fun ρ1 H1 g1 R1 e1 => h ρ1 H1 g1 R1 e1
    · rename_i e; rw [e]; exact h
    · exact h.elim⟩
/-! ### truth values as values -/
def mAnd (a b : ME) : ME := fun env S => match a env S with | .ret (.bl true) S1 => b env S1 | .ret (.bl false) S1 => .ret (.bl false) S1 | .exc x S => .exc x S | _ => .fail
def mOr (a b : ME) : ME := fun env S => match a env S with | .ret (.bl true) S1 => .ret (.bl true) S1 | .ret (.bl false) S1 => b env S1 | .exc x S => .exc x S | _ => .fail
def mNot (a : ME) : ME := fun env S => match a env S with | .ret (.bl b) S1 => .ret (.bl (!b)) S1 | .exc x S => .exc x S | _ => .fail
theorem s_one {op} (h : SE X W a m) : SE X W (.BoolOp op [a] pos) m := let ⟨_, p, q⟩ := h; ⟨_, pe_one p, q⟩
theorem s_and (h : SE X W a m) (h' : SE X W (.BoolOp .And (b :: rest) pos) n) : SE X W (.BoolOp .And (a :: b :: rest) pos) (mAnd m n) :=
  let ⟨_, pa, qa⟩ := h; let ⟨_, pb, qb⟩ := h'
  ⟨_, pe_and pa pb, fun ρ env S σ H Q R er h => by
    refine qa ρ env S σ H _ R er ?_
    unfold mAnd at h
    split at h
    · rename_i S1 e
      rw [e]
      intro ρ1 x1 H1 g1 R1 e1 r1
      cases r1
      refine ⟨true, rfl, ?_⟩
      rw [if_pos rfl]
      exact qb ρ1 env S1 σ H1 _ R1 (er.mono e1 g1) (Post.mono g1 e1 h)
    · rename_i S1 e
      rw [e]
      intro ρ1 x1 H1 g1 R1 e1 r1
      cases r1
      refine ⟨false, rfl, ?_⟩
      rw [if_neg Bool.false_ne_true]
      exact h ρ1 _ H1 g1 R1 e1 (.bl _)
    · rename_i e; rw [e]; exact h
    · exact h.elim⟩
theorem s_not (h : SE X W a m) : SE X W (.UnaryOp .Not a pos) (mNot m) :=
  let ⟨_, p, q⟩ := h
  ⟨_, pe_not p, fun ρ env S σ H Q R er h => by
    refine q ρ env S σ H _ R er ?_
    unfold mNot at h
    split at h
    · rename_i b S1 e
      rw [e]
      intro ρ1 x1 H1 g1 R1 e1 r1
      cases r1
      exact ⟨b, rfl, h ρ1 _ H1 g1 R1 e1 (.bl _)⟩
    · rename_i e; rw [e]; exact h
    · exact h.elim⟩
def mIf (t : MB) (a b : ME) : ME := fun env S => match t env S with | .ret true S1 => a env S1 | .ret false S1 => b env S1 | .exc x S => .exc x S | .fail => .fail
theorem s_ifE (hc : SB X W c t) (ha : SE X W a m) (hb : SE X W b n) : SE X W (.IfExp c a b pos) (mIf t m n) :=
  let ⟨_, pc, qc⟩ := hc; let ⟨_, pa, qa⟩ := ha; let ⟨_, pb, qb⟩ := hb
  ⟨_, pe_ifExp pc pa pb, fun ρ env S σ H Q R er h => by
    refine qc ρ env S σ H _ R er ?_
    unfold mIf at h
    split at h
    · rename_i S1 e
      rw [e]
      intro ρ1 H1 g1 R1 e1
      rw [if_pos rfl]
      exact qa ρ1 env S1 σ H1 _ R1 (er.mono e1 g1) (Post.mono g1 e1 h)
    · rename_i S1 e
      rw [e]
      intro ρ1 H1 g1 R1 e1
      rw [if_neg Bool.false_ne_true]
      exact qb ρ1 env S1 σ H1 _ R1 (er.mono e1 g1) (Post.mono g1 e1 h)
    · rename_i e; rw [e]; exact h
    · exact h.elim⟩
/-- two rules for one expression, by the values -/
theorem pe_or2 {t1 t2 : TE} (h : PE X e t1) (h' : PE X e t2) : PE X e (fun σ H Q => t1 σ H Q ∨ t2 σ H Q) := ⟨fun pins s σ H Q I z => z.elim (h.run pins s σ H Q I) (h'.run pins s σ H Q I)⟩
def oSel (g : PV → PV → Ms → Bool) (f f' : PV → PV → Ms → Out PV) : PV → PV → Ms → Out PV := fun x y S => if g x y S then f x y S else f' x y S
theorem s_sel {f f' : PV → PV → Ms → Out PV} (g : PV → PV → Ms → Bool) (h : SE X W e (m2 m n f)) (h' : SE X W e (m2 m n f')) : SE X W e (m2 m n (oSel g f f')) :=
  let ⟨_, pa, qa⟩ := h; let ⟨_, pb, qb⟩ := h'
  ⟨_, pe_or2 pa pb, fun ρ env S σ H Q R er h => by
    have key : m2 m n (oSel g f f') env S = m2 m n f env S ∨ m2 m n (oSel g f f') env S = m2 m n f' env S := by
      unfold m2
      cases m env S with
      | fail => exact .inl rfl
      | exc x S => exact .inl rfl
      | ret x S1 =>
        simp only [Out.bind]
        cases n env S1 with
        | fail => exact .inl rfl
        | exc x S => exact .inl rfl
        | ret y S2 =>
          simp only [oSel]
          by_cases q : g x y S2 = true
          · exact .inl (if_pos q)
          · exact .inr (if_neg q)
    rcases key with key | key
    · rw [key] at h; exact .inl (qa ρ env S σ H Q R er h)
    · rw [key] at h; exact .inr (qb ρ env S σ H Q R er h)⟩
end
end MP

set_option maxRecDepth 100000
namespace MP
open PySem PySem.Spec PyProof.Rows L2
section
variable {X : Cx} {W : WX} {a b c e o : Expr} {es rest : List Expr} {pos : Pos} {m n k : ME} {ml : ML} {t u : MB}

/-! ### subscripts -/
theorem VRs.at_ {K : PySem.W.Frag} {H : Hp} {ρ : List Addr} {xs : List PV} {vs : List V} (h : VRs K H ρ xs vs) {i : Int} {x : PV} (e : atI xs i = some x) : ∃ v, atI vs i = some v ∧ VR K H ρ x v := by
  unfold atI at e ⊢
  rw [h.length]
  cases q : ixN xs.length i with
  | none => rw [q] at e; cases e
  | some j => rw [q] at e; exact h.get e
def oIdx : PV → PV → Ms → Out PV
  | .str z, .int i, S => if z.length ≤ lim then (match atI z.cps.toList i with | some c => .ret (.str ⟨#[c]⟩) S | none => .fail) else .fail
  | x, .int i, S => (match itemsOf S x with
    | some xs => (match atI xs i with | some v => .ret v S | none => .fail)
    | none => .fail)
  | _, _, _ => .fail
theorem o_idx : O2 X W oIdx (rIx X.K) := by
  intro ρ S H σ Q x y x' y' R rx ry h
  unfold oIdx at h
  split at h
  · cases rx; cases ry
    split at h
    · rename_i hl
      split at h
      · rename_i q; exact .inr (.inr ⟨_, _, _, rfl, rfl, lim_le hl, q, Post.now R (.str _) h⟩)
      · exact h.elim
    · exact h.elim
  · split at h
    · rename_i xs q
      split at h
      · rename_i v qv
        obtain ⟨a, vs, rfl, hv, hs⟩ := items_ok R rx q
        obtain ⟨v', e1, r1⟩ := hv.at_ qv
        cases ry
        rcases hs with ⟨hs, _⟩ | ⟨hs, _⟩
        · exact .inl ⟨_, _, _, _, rfl, rfl, hs, e1, Post.now R r1 h⟩
        · exact .inr (.inl ⟨_, _, _, _, rfl, rfl, .of hs, e1, Post.now R r1 h⟩)
      · exact h.elim
    · exact h.elim
  · exact h.elim

/-! ### dicts -/
def keyP : PV → Option Key
  | .int i => some (.inl i)
  | .str s => some (.inr s)
  | _ => none
def keysL : List PV → Option (List Key)
  | [] => some []
  | x :: xs => match keyP x, keysL xs with | some k, some ks => some (k :: ks) | _, _ => none
def keysP : PV → Option (List Key)
  | .tup xs => keysL xs
  | _ => none
def kP : Key → PV
  | .inl i => .int i
  | .inr s => .str s
section
variable {κ : Type} [DecidableEq κ]
def valP (kvs : List (κ × PV)) (k : κ) : Option PV := (kvs.find? fun kv => decide (kv.1 = k)).map (·.2)
def putP (kvs : List (κ × PV)) (k : κ) (v : PV) : List (κ × PV) :=
  if (kvs.any fun kv => decide (kv.1 = k)) = true then kvs.map (fun kv => if kv.1 = k then (kv.1, v) else kv) else kvs ++ [(k, v)]
end
theorem key_ok {K : PySem.W.Frag} {H : Hp} {ρ : List Addr} {x : PV} {x' : V} {k : Key} (r : VR K H ρ x x') (h : keyP x = some k) : x' = kV k := by
  cases r <;> simp [keyP] at h <;> subst h <;> rfl
theorem keysL_ok {K : PySem.W.Frag} {H : Hp} {ρ : List Addr} : ∀ {xs : List PV} {vs : List V} {ks : List Key}, VRs K H ρ xs vs → keysL xs = some ks → vs = ks.map kV
  | [], _, _, r, h => by cases r; cases h; rfl
  | x :: xs, _, _, r, h => by
    cases r with
    | cons r t =>
      unfold keysL at h
      split at h
      · rename_i k ks e1 e2
        cases h
        rw [key_ok r e1, keysL_ok t e2]; rfl
      · cases h
/-- the keys of a dict, as values -/
theorem kP_ok {K : PySem.W.Frag} {H : Hp} {ρ : List Addr} (k : Key) : VR K H ρ (kP k) (kV k) := by cases k <;> constructor
section
variable {κ : Type} [DecidableEq κ] {K : PySem.W.Frag} {H : Hp} {ρ : List Addr}
theorem val_ok {k : κ} : ∀ {xs : List (κ × PV)} {vs : List (κ × V)}, KVR K H ρ xs vs → (valP xs k = none ∧ valV vs k = none) ∨ ∃ v v', valP xs k = some v ∧ valV vs k = some v' ∧ VR K H ρ v v'
  | [], _, h => by cases h; exact .inl ⟨rfl, rfl⟩
  | (j, x) :: xs, _, h => by
    cases h with
    | cons h t =>
      rename_i q vs
      obtain ⟨j', v⟩ := q
      obtain ⟨e, r⟩ := h
      simp only at e r
      subst e
      by_cases hk : j = k
      · subst hk
        exact .inr ⟨x, v, by simp [valP], by simp [valV], r⟩
      · have ih := val_ok (k := k) t
        have e1 : valP ((j, x) :: xs) k = valP xs k := by simp [valP, hk]
        have e2 : valV ((j, v) :: vs) k = valV vs k := valV_neg (p := (j, v)) hk
        rw [e1, e2]; exact ih
theorem any_ok {k : κ} : ∀ {xs : List (κ × PV)} {vs : List (κ × V)}, KVR K H ρ xs vs → (xs.any fun kv => decide (kv.1 = k)) = (vs.any fun kv => decide (kv.1 = k))
  | [], _, h => by cases h; rfl
  | (j, x) :: xs, _, h => by
    cases h with
    | cons h t =>
      rename_i q vs
      obtain ⟨j', v⟩ := q
      obtain ⟨e, r⟩ := h
      simp only at e r
      subst e
      rw [List.any_cons, List.any_cons, any_ok t]
theorem map_ok {k : κ} {y : PV} {y' : V} (r : VR K H ρ y y') : ∀ {xs : List (κ × PV)} {vs : List (κ × V)}, KVR K H ρ xs vs → KVR K H ρ (xs.map (fun kv => if kv.1 = k then (kv.1, y) else kv)) (vs.map (fun kv => if kv.1 = k then (kv.1, y') else kv))
  | [], _, h => by cases h; exact .nil
  | (j, x) :: xs, _, h => by
    cases h with
    | cons h t =>
      rename_i q vs
      obtain ⟨j', v⟩ := q
      obtain ⟨e, r'⟩ := h
      simp only at e r'
      subst e
      rw [List.map_cons, List.map_cons]
      refine .cons ?_ (map_ok r t)
      by_cases hk : j = k
      · simp only [hk, if_true]; exact ⟨trivial, r⟩
      · simp only [hk, if_false]; exact ⟨trivial, r'⟩
theorem kvr_snoc {k : κ} {y : PV} {y' : V} (r : VR K H ρ y y') : ∀ {xs : List (κ × PV)} {vs : List (κ × V)}, KVR K H ρ xs vs → KVR K H ρ (xs ++ [(k, y)]) (vs ++ [(k, y')])
  | [], _, h => by cases h; exact .cons ⟨rfl, r⟩ .nil
  | _ :: xs, _, h => by cases h with | cons h t => exact .cons h (kvr_snoc r t)
theorem put_ok {k : κ} {y : PV} {y' : V} (r : VR K H ρ y y') {xs : List (κ × PV)} {vs : List (κ × V)} (h : KVR K H ρ xs vs) : KVR K H ρ (putP xs k y) (putK vs k y') := by
  unfold putP putK
  rw [any_ok h]
  by_cases q : (vs.any fun kv => decide (kv.1 = k)) = true
  · rw [if_pos q, if_pos q]; exact map_ok r h
  · rw [if_neg q, if_neg q]; exact kvr_snoc r h
theorem kvr_len {xs : List (κ × PV)} {vs : List (κ × V)} (h : KVR K H ρ xs vs) : vs.length = xs.length := (Paired.length h).symm
end
def isDict (S : Ms) : PV → Bool
  | .loc n => match S[n]? with | some (.dK _) => true | some (.dT _) => true | some (.lk _) => true | _ => false
  | _ => false
/-- what a dict holds at a key -/
def dGet (S : Ms) : PV → PV → Option (Option PV)
  | .loc n, k => match S[n]? with
    | some (.dK kvs) => (keyP k).map (valP kvs)
    | some (.lk (.dK kvs)) => (keyP k).map (valP kvs)
    | some (.dT kvs) => (keysP k).map (valP kvs)
    | some (.lk (.dT kvs)) => (keysP k).map (valP kvs)
    | _ => none
  | _, _ => none
theorem HR.lk {ρ : List Addr} {S : Ms} {H : Hp} {n : Nat} {a : Addr} {o : Ob} (R : HR X.K X.mg ρ S H) (h : ρ[n]? = some a) (e : S[n]? = some (.lk o)) : ∃ u oj, H a = some (.frz oj u) ∧ OR X.K X.mg H ρ o u := by
  obtain ⟨ho, h1, h2⟩ := R.get h e
  cases h2 with
  | lk r => exact ⟨_, _, h1, r⟩
theorem dget_ok {ρ : List Addr} {S : Ms} {H : Hp} {d k : PV} {d' k' : V} {r : Option PV} (R : HR X.K X.mg ρ S H) (rd : VR X.K H ρ d d') (rk : VR X.K H ρ k k') (h : dGet S d k = some r) :
    ∃ a r', d' = .ref a ∧ DGet H a k' r' ∧ ((r = none ∧ r' = none) ∨ ∃ v v', r = some v ∧ r' = some v' ∧ VR X.K H ρ v v') := by
  cases rd with
  | loc en =>
    simp only [dGet] at h
    have fK : ∀ {kvs : List (Key × PV)} {vs : List (Key × V)} {a : Addr}, Rd H a (.dK vs) → KVR X.K H ρ kvs vs → (keyP k).map (valP kvs) = some r → ∃ a' r', V.ref a = .ref a' ∧ DGet H a' k' r' ∧ ((r = none ∧ r' = none) ∨ ∃ v v', r = some v ∧ r' = some v' ∧ VR X.K H ρ v v') := by
      intro kvs vs a ha hk hv
      cases ek : keyP k with
      | none => rw [ek] at hv; cases hv
      | some kk =>
        rw [ek] at hv
        cases hv
        refine ⟨a, valV vs kk, rfl, .inl ⟨vs, kk, ha, key_ok rk ek, rfl⟩, ?_⟩
        rcases val_ok (k := kk) hk with ⟨h1, h2⟩ | ⟨v, v', h1, h2, h3⟩
        · exact .inl ⟨h1, h2⟩
        · exact .inr ⟨v, v', h1, h2, h3⟩
    have fT : ∀ {kvs : List (List Key × PV)} {vs : List (List Key × V)} {a : Addr}, Rd H a (.dT vs) → KVR X.K H ρ kvs vs → (keysP k).map (valP kvs) = some r → ∃ a' r', V.ref a = .ref a' ∧ DGet H a' k' r' ∧ ((r = none ∧ r' = none) ∨ ∃ v v', r = some v ∧ r' = some v' ∧ VR X.K H ρ v v') := by
      intro kvs vs a ha hk hv
      cases rk with
      | tup ht at_ =>
        simp only [keysP] at hv
        rename_i xs at' vt
        cases ek : keysL xs with
        | none => rw [ek] at hv; cases hv
        | some kk =>
          rw [ek] at hv
          cases hv
          have e1 := keysL_ok at_ ek
          subst e1
          refine ⟨a, valV vs kk, rfl, .inr ⟨vs, kk, _, ha, rfl, ht, rfl⟩, ?_⟩
          rcases val_ok (k := kk) hk with ⟨h1, h2⟩ | ⟨v, v', h1, h2, h3⟩
          · exact .inl ⟨h1, h2⟩
          · exact .inr ⟨v, v', h1, h2, h3⟩
      | non => cases hv
      | bl b => cases hv
      | int i => cases hv
      | str s => cases hv
      | loc e => cases hv
      | rol _ _ => cases hv
    split at h
    · rename_i kvs q
      obtain ⟨vs, h1, h2⟩ := R.dK en q
      exact fK (.of h1) h2 h
    · rename_i kvs q
      obtain ⟨u, oj, h1, h2⟩ := R.lk en q
      cases h2 with | dK h2 => exact fK (.inr ⟨_, h1⟩) h2 h
    · rename_i kvs q
      obtain ⟨vs, h1, h2⟩ := R.dT en q
      exact fT (.of h1) h2 h
    · rename_i kvs q
      obtain ⟨u, oj, h1, h2⟩ := R.lk en q
      cases h2 with | dT h2 => exact fT (.inr ⟨_, h1⟩) h2 h
    · cases h
  | non => cases h
  | bl b => cases h
  | int i => cases h
  | str s => cases h
  | tup _ _ => cases h
  | rol _ _ => cases h
def oDGet (d k : PV) (S : Ms) : Out PV := match dGet S d k with | some (some v) => .ret v S | _ => .fail
theorem o_dget : O2 X W oDGet (fun x y H Q => ∃ a v, x = .ref a ∧ DGet H a y (some v) ∧ Q v H) := by
  intro ρ S H σ Q x y x' y' R rx ry h
  unfold oDGet at h
  split at h
  · rename_i v q
    obtain ⟨a, r', rfl, g, hr⟩ := dget_ok R rx ry q
    rcases hr with ⟨h1, _⟩ | ⟨w, w', h1, h2, h3⟩
    · cases h1
    · cases h1; subst h2
      exact ⟨a, w', rfl, g, Post.now R h3 h⟩
  · exact h.elim
/-- x[i]: of a list, a tuple, a text, a dict -/
abbrev oSub1 : PV → PV → Ms → Out PV := oSel (fun x _ S => isDict S x) oDGet oIdx
abbrev mSub (m n : ME) : ME := m2 m n oSub1
theorem s_sub (hu : X.A.units + 1 < cLine) (ha : SE X W a m) (hb : SE X W b n) (hs : NoSl b := by exact fun _ _ => rfl) : SE X W (.Subscript a b pos) (mSub m n) :=
  let ⟨_, pa, qa⟩ := ha; let ⟨_, pb, qb⟩ := hb
  s_sel _ ⟨_, pe_dget hu pa pb hs, bin_ok qa qb o_dget⟩ ⟨_, pe_ix ix_seq pa pb hs, bin_ok qa qb o_idx⟩

/-! ### in, not in -/
end
end MP

set_option maxRecDepth 100000
namespace MP
open PySem PySem.Spec PyProof.Rows L2
section
variable {X : Cx} {W : WX} {a b c e o : Expr} {es rest : List Expr} {pos : Pos} {m n k : ME} {ml : ML} {t u : MB}

/-! ### slices -/
/-- a part of a slice: an int, or left out (None) -/
def SOp (X : Cx) (W : WX) (e : Option Expr) (m : ME) : Prop := ∃ t, PO X e t ∧ ∀ ρ env S σ H (Q : Option Int → Hp → Prop), HR X.K X.mg ρ S H → ER X.K H ρ env σ →
  (match m env S with
    | .ret (.int i) S' => ∀ ρ' H', Grow ρ ρ' → HR X.K X.mg ρ' S' H' → Ext H H' → Q (some i) H'
    | .ret .non S' => ∀ ρ' H', Grow ρ ρ' → HR X.K X.mg ρ' S' H' → Ext H H' → Q none H'
    | .exc x S' => ∀ ρ' C d H', Grow ρ ρ' → HR X.K X.mg ρ' S' H' → Ext H H' → X.mg x.cls = some (.ref C) → XR X.K H' ρ' x.fs d → W (.ref C) d σ H'
    | _ => False) → t σ H Q
theorem so_none : SOp X W none (mC .non) := ⟨_, po_none, fun ρ env S σ H Q R er h => h _ _ (.refl _) R (.refl _)⟩
def onlyI (m : ME) : ME := fun env S => match m env S with | .ret (.int i) S' => .ret (.int i) S' | .exc x S => .exc x S | _ => .fail
theorem so_some (h : SE X W e m) : SOp X W (some e) (onlyI m) :=
  let ⟨_, p, q⟩ := h
  ⟨_, po_some p, fun ρ env S σ H Q R er h => by
    refine q ρ env S σ H _ R er ?_
    unfold onlyI at h
    cases e : m env S with
    | fail => simp only [e] at h
    | exc x S => simp only [e] at h; exact h
    | ret x S1 =>
      simp only [e] at h
      cases x <;> simp only [] at h
      rename_i i
      intro ρ1 x1 H1 g1 R1 e1 r1
      cases r1
      exact ⟨i, rfl, h ρ1 H1 g1 R1 e1⟩⟩
def cutP (xs : List PV) (lo hi : Option Int) : List PV := (xs.drop (HT.sIx xs.length 0 lo)).take (HT.sIx xs.length xs.length hi - HT.sIx xs.length 0 lo)
theorem cut_ok {K : PySem.W.Frag} {H : Hp} {ρ : List Addr} {xs : List PV} {vs : List V} (h : VRs K H ρ xs vs) (lo hi : Option Int) : VRs K H ρ (cutP xs lo hi) (cutV vs lo hi) := by
  unfold cutP cutV
  rw [h.length]
  exact (h.drop _).take _
def partI : PV → Option (Option Int)
  | .int i => some (some i)
  | .non => some none
  | _ => none
def oCut (x : PV) (l u : Option Int) (S : Ms) : Out PV := match x with
  | .tup xs => .ret (.tup (cutP xs l u)) S
  | .rol xs => .ret (.loc S.length) (S ++ [.lst (cutP xs l u)])
  | .loc n => match S[n]? with
    | some (.lst xs) => .ret (.loc S.length) (S ++ [.lst (cutP xs l u)])
    | _ => .fail
  | _ => .fail
def mCut (a l u : ME) : ME := fun env S => (a env S).bind fun x S1 => (l env S1).bind fun y S2 => match partI y with
  | some lo => (u env S2).bind fun z S3 => (match partI z with | some hi => oCut x lo hi S3 | none => .fail)
  | none => .fail
theorem whole_cut (xs : List PV) (lo hi : Option Int) (h : HT.sIx xs.length 0 lo = 0 ∧ HT.sIx xs.length xs.length hi = xs.length) : cutP xs lo hi = xs := by
  unfold cutP
  rw [h.1, h.2]
  simp
theorem slice_at {ρ S H σ Q} {x : PV} {x' : V} {lo hi : Option Int} (R : HR X.K X.mg ρ S H) (r : VR X.K H ρ x x') (h : Post X.K X.mg ρ H σ W Q (oCut x lo hi S)) :
    rSlL X.K x' lo hi H Q ∨ rSlA X.K x' lo hi H Q := by
  cases r with
  | tup hx ax =>
    simp only [oCut] at h
    refine .inr ⟨_, _, rfl, .of hx, fun z => ?_, fun _ p hp => new_tup R (cut_ok ax _ _) h hp⟩
    rw [ax.length] at z
    rw [whole_cut _ _ _ z] at h
    exact Post.now R (.tup hx ax) h
  | rol hx ax => exact .inl ⟨_, _, rfl, hx.sq, fun p hp => new_list R (cut_ok ax _ _) h hp⟩
  | loc en =>
    simp only [oCut] at h
    split at h
    · rename_i q
      obtain ⟨vs, h1, h2⟩ := R.lst en q
      exact .inl ⟨_, _, rfl, .of h1, fun p hp => new_list R (cut_ok h2 _ _) h hp⟩
    · exact h.elim
  | non => exact h.elim
  | bl b => exact h.elim
  | int i => exact h.elim
  | str s => exact h.elim
theorem s_slice {lo hi : Option Expr} {p2 : Pos} (ha : SE X W a m) (hl : SOp X W lo n) (hh : SOp X W hi k) : SE X W (.Subscript a (.Slice lo hi none p2) pos) (mCut m n k) :=
  let ⟨_, pa, qa⟩ := ha; let ⟨_, pb, qb⟩ := hl; let ⟨_, pc, qc⟩ := hh
  ⟨_, pe_slice (SlR.or sl_list sl_tupA) pa pb pc, fun ρ env S σ H Q R er h => by
    refine qa ρ env S σ H _ R er ?_
    unfold mCut at h
    cases e : m env S with
    | fail => rw [e] at h; exact h.elim
    | exc x S => rw [e] at h; exact h
    | ret x S1 =>
      rw [e] at h
      intro ρ1 x' H1 g1 R1 e1 r1
      have er1 := er.mono e1 g1
      have h := Post.mono g1 e1 h
      simp only [Out.bind] at h
      refine qb ρ1 env S1 σ H1 _ R1 er1 ?_
      have part3 : ∀ (lo' : Option Int) (S2 : Ms) (ρ2 : List Addr) (H2 : Hp), Grow ρ1 ρ2 → HR X.K X.mg ρ2 S2 H2 → Ext H1 H2 →
          Post X.K X.mg ρ1 H1 σ W Q ((k env S2).bind fun z S3 => (match partI z with | some hi => oCut x lo' hi S3 | none => .fail)) → _ := fun lo' S2 ρ2 H2 g2 R2 e2 h3 => by
        have h3 := Post.mono g2 e2 h3
        refine qc ρ2 env S2 σ H2 (fun u H3 => rSlL X.K x' lo' u H3 Q ∨ rSlA X.K x' lo' u H3 Q) R2 (er1.mono e2 g2) ?_
        cases e : k env S2 with
        | fail => rw [e] at h3; exact h3.elim
        | exc x S => rw [e] at h3; exact h3
        | ret z S3 =>
          rw [e] at h3
          cases z with
          | int i => exact fun ρ3 H3 g3 R3 e3 => slice_at R3 ((r1.mono e2 g2).mono e3 g3) (Post.mono g3 e3 h3)
          | non => exact fun ρ3 H3 g3 R3 e3 => slice_at R3 ((r1.mono e2 g2).mono e3 g3) (Post.mono g3 e3 h3)
          | bl b => exact h3.elim
          | str b => exact h3.elim
          | tup b => exact h3.elim
          | loc b => exact h3.elim
          | rol b => exact h3.elim
      cases e : n env S1 with
      | fail => rw [e] at h; exact h.elim
      | exc x S => rw [e] at h; exact h
      | ret y S2 =>
        rw [e] at h
        cases y with
        | int i => exact fun ρ2 H2 g2 R2 e2 => part3 (some i) S2 ρ2 H2 g2 R2 e2 h
        | non => exact fun ρ2 H2 g2 R2 e2 => part3 none S2 ρ2 H2 g2 R2 e2 h
        | bl b => exact h.elim
        | str b => exact h.elim
        | tup b => exact h.elim
        | loc b => exact h.elim
        | rol b => exact h.elim⟩
end
end MP

set_option maxRecDepth 100000
namespace MP
open PySem PySem.Spec PyProof.Rows L2
section
variable {X : Cx} {W : WX} {a b c e o : Expr} {es rest : List Expr} {pos : Pos} {m n k : ME} {ml : ML} {t u : MB}

/-! ### calls of built-ins by name -/
theorem ol_ok {f : List PV → Ms → Out PV} {r : List V → Hp → VK → Prop} {t : TA} (hf : OL X W f r)
    (qa : ∀ ρ env S σ H Q, HR X.K X.mg ρ S H → ER X.K H ρ env σ → PostL X.K X.mg ρ H σ W Q (ml env S) → t σ H Q)
    (ρ env S σ H) (Q : VK) (R : HR X.K X.mg ρ S H) (er : ER X.K H ρ env σ) (h : Post X.K X.mg ρ H σ W Q (mL ml f env S)) : t σ H (fun xs H1 => r xs H1 Q) :=
  args_ok qa ρ env S σ H Q (fun ρ' S' H' x x' g e R' r h' => hf ρ' S' H' σ Q x x' R' r h') R er h
theorem s_callB {x : Str} {p : Pos} {id : String} {f : List PV → Ms → Out PV} {r : List V → Hp → VK → Prop} (hc : CallR X (.builtin id) r) (hf : OL X W f r) (hm : X.mg x = none) (hv : bootBuiltins x = some (.builtin id)) (ha : SA X W (e :: es) ml)
    (hg : Gl X x := by rfl) (hn : x ≠ "__name__" := by decide) (hdb : (x == ("__debug__" : Str)) = false := by decide)
    (he : starEach (e :: es) X.env = (false, eval e X.env) :: starEach es X.env := by rfl) (hpl : (backTo pos (starEach es X.env)).any (·.1) = false := by rfl) : SE X W (.Call (.Name x p) (e :: es) [] pos) (mL ml f) :=
  let ⟨_, pa, qa⟩ := ha
  ⟨_, pe_callB hc hg hm hv pa hn hdb he hpl, ol_ok hf qa⟩
theorem s_callTy {x : Str} {p : Pos} {T : String} {f : List PV → Ms → Out PV} {r : List V → Hp → VK → Prop} (hc : CallR X (.type T) r) (hf : OL X W f r) (hm : X.mg x = none) (hv : bootBuiltins x = some (.type T)) (ha : SA X W (e :: es) ml)
    (hg : Gl X x := by rfl) (hn : x ≠ "__name__" := by decide) (hdb : (x == ("__debug__" : Str)) = false := by decide)
    (he : starEach (e :: es) X.env = (false, eval e X.env) :: starEach es X.env := by rfl) (hpl : (backTo pos (starEach es X.env)).any (·.1) = false := by rfl) : SE X W (.Call (.Name x p) (e :: es) [] pos) (mL ml f) :=
  let ⟨_, pa, qa⟩ := ha
  ⟨_, pe_callTy hc hg hm hv pa hn hdb he hpl, ol_ok hf qa⟩
/-- len -/
def oLen : List PV → Ms → Out PV
  | [.str s], S => if s.length ≤ lim then .ret (.int s.length) S else .fail
  | [.tup xs], S => .ret (.int xs.length) S
  | [.rol xs], S => .ret (.int xs.length) S
  | [.loc n], S => (match S[n]? with
    | some (.lst xs) => .ret (.int xs.length) S
    | some (.dK xs) => .ret (.int xs.length) S
    | some (.dT xs) => .ret (.int xs.length) S
    | _ => .fail)
  | _, _ => .fail
theorem vrs1 {K : PySem.W.Frag} {H : Hp} {ρ : List Addr} {x : PV} {vs : List V} (h : VRs K H ρ [x] vs) : ∃ v, vs = [v] ∧ VR K H ρ x v := by
  cases h with | cons h t => cases t; exact ⟨_, rfl, h⟩
theorem vrs2 {K : PySem.W.Frag} {H : Hp} {ρ : List Addr} {x y : PV} {vs : List V} (h : VRs K H ρ [x, y] vs) : ∃ v w, vs = [v, w] ∧ VR K H ρ x v ∧ VR K H ρ y w := by
  cases h with | cons h t => cases t with | cons h' t => cases t; exact ⟨_, _, rfl, h, h'⟩
def rLen4 (K : PySem.W.Frag) : List V → Hp → VK → Prop := fun xs H Q => (∃ x n, xs = [x] ∧ LenV K x H n ∧ Q (.int n) H) ∨ (∃ a kvs, xs = [V.ref a] ∧ H a = some (.dK kvs) ∧ Q (.int kvs.length) H) ∨ rLenT xs H Q
theorem call_len4 : CallR X (.builtin "len") (rLen4 X.K) := call_or call_len (call_or call_lenD call_len_dT)
theorem o_len : OL X W oLen (rLen4 X.K) := by
  intro ρ S H σ Q x x' R r h
  unfold oLen at h
  split at h
  · obtain ⟨v, rfl, rv⟩ := vrs1 r
    cases rv
    split at h
    · rename_i hl; exact .inl ⟨_, _, rfl, ⟨lim_le hl, rfl⟩, Post.now R (.int _) h⟩
    · exact h.elim
  · obtain ⟨v, rfl, rv⟩ := vrs1 r
    cases rv with | tup hx ax => exact .inl ⟨_, _, rfl, .inr ⟨_, .of hx, rfl⟩, by rw [ax.length]; exact Post.now R (.int _) h⟩
  · obtain ⟨v, rfl, rv⟩ := vrs1 r
    cases rv with | rol hx ax => exact .inl ⟨_, _, rfl, .inl ⟨_, hx.sq, rfl⟩, by rw [ax.length]; exact Post.now R (.int _) h⟩
  · obtain ⟨v, rfl, rv⟩ := vrs1 r
    cases rv with
    | loc en =>
      split at h
      · rename_i q; obtain ⟨vs, h1, h2⟩ := R.lst en q
        exact .inl ⟨_, _, rfl, .inl ⟨_, .of h1, rfl⟩, by rw [h2.length]; exact Post.now R (.int _) h⟩
      · rename_i q; obtain ⟨vs, h1, h2⟩ := R.dK en q
        exact .inr (.inl ⟨_, _, rfl, h1, by rw [kvr_len h2]; exact Post.now R (.int _) h⟩)
      · rename_i q; obtain ⟨vs, h1, h2⟩ := R.dT en q
        exact .inr (.inr ⟨_, _, rfl, h1, by rw [kvr_len h2]; exact Post.now R (.int _) h⟩)
      · exact h.elim
  · exact h.elim
def oAbs : List PV → Ms → Out PV
  | [.int i], S => .ret (.int (if i < 0 then -i else i)) S
  | _, _ => .fail
theorem o_abs : OL X W oAbs (fun xs H Q => ∃ i, xs = [.int i] ∧ Q (.int (if i < 0 then -i else i)) H) := by
  intro ρ S H σ Q x x' R r h
  unfold oAbs at h
  split at h
  · obtain ⟨v, rfl, rv⟩ := vrs1 r; cases rv; exact ⟨_, rfl, Post.now R (.int _) h⟩
  · exact h.elim
def oInt : List PV → Ms → Out PV
  | [.int i], S => .ret (.int i) S
  | [.bl b], S => .ret (.int (if b then 1 else 0)) S
  | _, _ => .fail
theorem o_int : OL X W oInt (fun xs H Q => (∃ i, xs = [.int i] ∧ Q (.int i) H) ∨ ∃ k, xs = [.bl k] ∧ Q (.int (if k then 1 else 0)) H) := by
  intro ρ S H σ Q x x' R r h
  unfold oInt at h
  split at h
  · obtain ⟨v, rfl, rv⟩ := vrs1 r; cases rv; exact .inl ⟨_, rfl, Post.now R (.int _) h⟩
  · obtain ⟨v, rfl, rv⟩ := vrs1 r; cases rv; exact .inr ⟨_, rfl, Post.now R (.int _) h⟩
  · exact h.elim
def blsP : List PV → Option (List Bool)
  | [] => some []
  | .bl i :: xs => (blsP xs).map (i :: ·)
  | _ => none
theorem bls_ok : ∀ {xs : List PV} {ns : List Bool}, blsP xs = some ns → xs = ns.map PV.bl
  | [], _, h => by cases h; rfl
  | .bl i :: xs, _, h => by
    unfold blsP at h
    cases e : blsP xs with
    | none => rw [e] at h; cases h
    | some ns => rw [e] at h; cases h; rw [bls_ok e]; rfl
  | .non :: _, _, h => by cases h
  | .int _ :: _, _, h => by cases h
  | .str _ :: _, _, h => by cases h
  | .tup _ :: _, _, h => by cases h
  | .loc _ :: _, _, h => by cases h
  | .rol _ :: _, _, h => by cases h
/-- a list of the store -/
def lstOf (S : Ms) : PV → Option (List PV)
  | .rol xs => some xs
  | .loc n => match S[n]? with | some (.lst xs) => some xs | _ => none
  | _ => none
theorem lstOf_ok {ρ : List Addr} {S : Ms} {H : Hp} {x : PV} {x' : V} {xs : List PV} (R : HR X.K X.mg ρ S H) (r : VR X.K H ρ x x') (h : lstOf S x = some xs) : ∃ a vs, x' = .ref a ∧ VRs X.K H ρ xs vs ∧ SqL X.K H a vs := by
  cases r with
  | loc en =>
    simp only [lstOf] at h
    split at h
    · rename_i q; cases h; obtain ⟨vs, h1, h2⟩ := R.lst en q; exact ⟨_, vs, rfl, h2, .of h1⟩
    · cases h
  | non => cases h
  | bl b => cases h
  | int i => cases h
  | str s => cases h
  | tup _ _ => cases h
  | rol hx ax => cases h; exact ⟨_, _, rfl, ax, hx.sq⟩
def oAll : List PV → Ms → Out PV
  | [x], S => (match (lstOf S x).bind blsP with | some ns => .ret (.bl (ns.all id)) S | _ => .fail)
  | _, _ => .fail
theorem o_all : OL X W oAll (rAll X.K) := by
  intro ρ S H σ Q x x' R r h
  unfold oAll at h
  split at h
  · rename_i xx
    obtain ⟨v, rfl, rv⟩ := vrs1 r
    split at h
    · rename_i ns q
      cases e : lstOf S xx with
      | none => rw [e] at q; cases q
      | some xs =>
        rw [e] at q
        obtain ⟨a, vs, rfl, hv, hs⟩ := lstOf_ok R rv e
        have e := bls_ok (show blsP xs = _ from q)
        subst e
        have e2 := VRs.bls_inv hv
        subst e2
        exact ⟨_, _, rfl, hs, Post.now R (.bl _) h⟩
    · exact h.elim
  · exact h.elim
/-- list(x): of a list, a tuple, a dict's keys -/
def oListOf : List PV → Ms → Out PV
  | [.tup xs], S => .ret (.loc S.length) (S ++ [.lst xs])
  | [.rol xs], S => .ret (.loc S.length) (S ++ [.lst xs])
  | [.loc n], S => (match S[n]? with
    | some (.lst xs) => .ret (.loc S.length) (S ++ [.lst xs])
    | some (.dK kvs) => .ret (.loc S.length) (S ++ [.lst (kvs.map fun kv => kP kv.1)])
    | some (.dT kvs) => .ret (.loc S.length) (S ++ [.lst (kvs.map fun kv => .tup (kv.1.map kP))])
    | _ => .fail)
  | _, _ => .fail
def rListOf (K : PySem.W.Frag) : List V → Hp → VK → Prop := fun xs H Q => (∃ p ys, xs = [.ref p] ∧ (SqL K H p ys ∨ SqT K H p ys) ∧ ∀ l, H l = none → Q (.ref l) (upd H l (.lst ys))) ∨ rListD xs H Q ∨
  (∃ d kvs, xs = [V.ref d] ∧ Rd H d (.dT kvs) ∧ ∀ p bs, H p = none → IsKeys H kvs bs → Q (.ref p) (upd H p (.lst (bs.map V.ref))))
theorem call_listOf (hc : X.calm = true) : CallR X (.type "list") (rListOf X.K) := call_or call_list_of (call_or (call_list_dK hc) (call_list_dT hc))
theorem keysK_ok {K : PySem.W.Frag} {H : Hp} {ρ : List Addr} : ∀ {xs : List (Key × PV)} {vs : List (Key × V)}, KVR K H ρ xs vs → VRs K H ρ (xs.map fun kv => kP kv.1) (vs.map fun kv => kV kv.1)
  | [], _, h => by cases h; exact .nil
  | _ :: _, _, h => by cases h with | cons h t => exact .cons (by have e := h.1; show VR K H ρ (kP _) (kV _); rw [← e]; exact kP_ok _) (keysK_ok t)
theorem kPs_ok {K : PySem.W.Frag} {H : Hp} {ρ : List Addr} : ∀ ks : List Key, VRs K H ρ (ks.map kP) (ks.map kV)
  | [] => .nil
  | k :: r => .cons (kP_ok k) (kPs_ok r)
theorem keysT_ok {K : PySem.W.Frag} {H : Hp} {ρ : List Addr} : ∀ {xs : List (List Key × PV)} {vs : List (List Key × V)} {bs : List Addr}, KVR K H ρ xs vs → IsKeys H vs bs → VRs K H ρ (xs.map fun kv => PV.tup (kv.1.map kP)) (bs.map V.ref)
  | [], _, _, h, r => by cases h; cases r; exact .nil
  | _ :: _, _, _, h, r => by
    cases h with
    | cons h t => cases r with
      | cons r rt => exact .cons (.tup (by rw [r, ← h.1]) (kPs_ok _)) (keysT_ok t rt)
theorem o_listOf : OL X W oListOf (rListOf X.K) := by
  intro ρ S H σ Q x x' R r h
  unfold oListOf at h
  split at h
  · obtain ⟨v, rfl, rv⟩ := vrs1 r
    cases rv with | tup hx ax => exact .inl ⟨_, _, rfl, .inr (.of hx), fun p hp => new_list R ax h hp⟩
  · obtain ⟨v, rfl, rv⟩ := vrs1 r
    cases rv with | rol hx ax => exact .inl ⟨_, _, rfl, .inl hx.sq, fun p hp => new_list R ax h hp⟩
  · obtain ⟨v, rfl, rv⟩ := vrs1 r
    cases rv with
    | loc en =>
      split at h
      · rename_i q; obtain ⟨vs, h1, h2⟩ := R.lst en q
        exact .inl ⟨_, _, rfl, .inl (.of h1), fun p hp => new_list R h2 h hp⟩
      · rename_i q; obtain ⟨vs, h1, h2⟩ := R.dK en q
        exact .inr (.inl ⟨_, _, rfl, h1, fun p hp => new_list R (keysK_ok h2) h hp⟩)
      · rename_i q; obtain ⟨vs, h1, h2⟩ := R.dT en q
        exact .inr (.inr ⟨_, _, rfl, .of h1, fun p bs hp hb => new_list R (keysT_ok h2 hb) h hp⟩)
      · exact h.elim
  · exact h.elim
/-- tuple(x) -/
def oTupOf : List PV → Ms → Out PV
  | [x], S => (match itemsOf S x with | some xs => .ret (.tup xs) S | none => .fail)
  | _, _ => .fail
theorem o_tupOf : OL X W oTupOf (fun xs H Q => ∃ p ys, xs = [.ref p] ∧ ((SqL X.K H p ys ∧ ∀ l, H l = none → Q (.ref l) (upd H l (.tup ys))) ∨ (SqT X.K H p ys ∧ Q (.ref p) H))) := by
  intro ρ S H σ Q x x' R r h
  unfold oTupOf at h
  split at h
  · obtain ⟨v, rfl, rv⟩ := vrs1 r
    split at h
    · rename_i xs q
      obtain ⟨a, vs, rfl, hv, hs⟩ := items_ok R rv q
      rcases hs with ⟨hs, _⟩ | ⟨hs, rfl⟩
      · exact ⟨_, _, rfl, .inl ⟨hs, fun p hp => new_tup R hv h hp⟩⟩
      · exact ⟨_, _, rfl, .inr ⟨.of hs, Post.now R rv h⟩⟩
    · exact h.elim
  · exact h.elim
/-- sorted of ints -/
def sortI (ns : List Int) : List Int := ns.mergeSort (fun a b => decide (a ≤ b))
end
end MP

set_option maxRecDepth 100000
namespace MP
open PySem PySem.Spec PyProof.Rows L2
section
variable {X : Cx} {W : WX} {a b c e o : Expr} {es rest : List Expr} {pos : Pos} {m n k : ME} {ml : ML} {t u : MB} {st : Stmt} {sts : List Stmt} {p q : MS}

/-! ### statements -/
def sNext : MS := fun env S => .nx env S
def sSeq (p q : MS) : MS := fun env S => match p env S with | .nx env1 S1 => q env1 S1 | r => r
theorem ss_nil : SSs X W [] sNext := ⟨_, pss_nil, fun ρ env S σ H D R er h => h _ _ _ (.refl _) R (.refl _) er⟩
theorem ss_cons (h : SS X W st p) (h' : SSs X W sts q) : SSs X W (st :: sts) (sSeq p q) :=
  let ⟨_, pa, qa⟩ := h; let ⟨_, pb, qb⟩ := h'
  ⟨_, pss_cons pa pb, fun ρ env S σ H D R er h => by
    refine qa ρ env S σ H _ R er ?_
    unfold sSeq at h
    cases e : p env S with
    | nx env1 S1 => rw [e] at h; exact fun ρ1 σ1 H1 g1 R1 e1 er1 => qb ρ1 env1 S1 σ1 H1 D R1 er1 (PostS.mono g1 e1 h)
    | rt v S1 => rw [e] at h; exact h
    | bk env1 S1 => rw [e] at h; exact h
    | ct env1 S1 => rw [e] at h; exact h
    | exc env1 x S1 => rw [e] at h; exact h
    | fail => rw [e] at h; exact h⟩
theorem ss_one (h : SS X W st p) : SSs X W [st] p := let ⟨_, pa, qa⟩ := h; ⟨_, pss_one pa, qa⟩
/-- an expression, and a statement's end made of its value -/
def sOf (m : ME) (f : PV → Env' → Ms → SO) : MS := fun env S => match m env S with | .ret v S1 => f v env S1 | .exc x S1 => .exc env x S1 | .fail => .fail
theorem sOf_ok {ta : TE} {f : PV → Env' → Ms → SO} {kk : V → Hp → Prop} {D : Ends}
    (ha : ∀ ρ env S σ H Q, HR X.K X.mg ρ S H → ER X.K H ρ env σ → Post X.K X.mg ρ H σ W Q (m env S) → ta σ H Q)
    (ρ env S σ H) (R : HR X.K X.mg ρ S H) (er : ER X.K H ρ env σ)
    (hf : ∀ ρ' S' H' x x', Grow ρ ρ' → HR X.K X.mg ρ' S' H' → Ext H H' → ER X.K H' ρ' env σ → VR X.K H' ρ' x x' → PostS X.K X.mg ρ' H' W D (f x env S') → kk x' H')
    (h : PostS X.K X.mg ρ H W D (sOf m f env S)) : ta σ H kk := by
  refine ha ρ env S σ H _ R er ?_
  unfold sOf at h
  cases e : m env S with
  | fail => simp only [e] at h; exact h.elim
  | exc x S => simp only [e] at h; exact fun ρ' C d H' g R' e' hc xr => h ρ' σ C d H' g R' e' (er.mono e' g) hc xr
  | ret x S1 =>
    simp only [e] at h
    exact fun ρ1 x' H1 g1 R1 e1 r1 => hf ρ1 S1 H1 x x' g1 R1 e1 (er.mono e1 g1) r1 (PostS.mono g1 e1 h)
abbrev sDrop (m : ME) : MS := sOf m fun _ env S => .nx env S
theorem ss_expr (h : SE X W e m) (hs : swapsWith e none pos.line X.env = pure false := by rfl) : SS X W (.Expr e pos) (sDrop m) :=
  let ⟨_, pa, qa⟩ := h
  ⟨_, ps_expr pa hs, fun ρ env S σ H D R er h => sOf_ok (D := D) (f := fun _ env S => .nx env S) qa ρ env S σ H R er (fun ρ' S' H' x x' g R' e' er' r h => h _ _ _ (.refl _) R' (.refl _) er') h⟩
abbrev sRet (m : ME) : MS := sOf m fun v _ S => .rt v S
theorem ss_ret (h : SE X W e m) : SS X W (.Return (some e) pos) (sRet m) :=
  let ⟨_, pa, qa⟩ := h
  ⟨_, ps_ret pa, fun ρ env S σ H D R er h => sOf_ok (D := D) (f := fun v _ S => .rt v S) qa ρ env S σ H R er (fun ρ' S' H' x x' g R' e' er' r h => h _ _ _ (.refl _) R' (.refl _) r) h⟩
def sIf (t : MB) (p q : MS) : MS := fun env S => match t env S with | .ret true S1 => p env S1 | .ret false S1 => q env S1 | .exc x S1 => .exc env x S1 | .fail => .fail
theorem ss_if {sa sb : List Stmt} (hc : SB X W c t) (ha : SSs X W sa p) (hb : SSs X W sb q) : SS X W (.If c sa sb pos) (sIf t p q) :=
  let ⟨_, pc, qc⟩ := hc; let ⟨_, pa, qa⟩ := ha; let ⟨_, pb, qb⟩ := hb
  ⟨_, ps_if pc pa pb, fun ρ env S σ H D R er h => by
    refine qc ρ env S σ H _ R er ?_
    unfold sIf at h
    split at h
    · rename_i S1 e
      rw [e]
      intro ρ1 H1 g1 R1 e1
      rw [if_pos rfl]
      exact qa ρ1 env S1 σ H1 D R1 (er.mono e1 g1) (PostS.mono g1 e1 h)
    · rename_i S1 e
      rw [e]
      intro ρ1 H1 g1 R1 e1
      rw [if_neg Bool.false_ne_true]
      exact qb ρ1 env S1 σ H1 D R1 (er.mono e1 g1) (PostS.mono g1 e1 h)
    · rename_i e; rw [e]; exact fun ρ' C d H' g R' e' hc xr => h ρ' σ C d H' g R' e' (er.mono e' g) hc xr
    · exact h.elim⟩

/-! ### targets: what they make of the locals; sl: the slots that may change -/
abbrev MG := PV → Env' → Option Env'
theorem wipe_set {σ : L2.St} {i : Nat} {s : Option V} : ∀ {vs : List Nat}, i ∈ vs → wipe (σ.set i s) vs = wipe σ vs
  | v :: vs, h => by
    show (wipe (σ.set i s) vs).set v none = (wipe σ vs).set v none
    by_cases hv : i ∈ vs
    · rw [wipe_set hv]
    · have e : i = v := by rcases List.mem_cons.mp h with h | h; exact h; exact absurd h hv
      subst e
      have g : ∀ (vs : List Nat), i ∉ vs → wipe (σ.set i s) vs = (wipe σ vs).set i s := by
        intro vs
        induction vs with
        | nil => intro _; rfl
        | cons w ws ih =>
          intro hn
          show (wipe (σ.set i s) ws).set w none = ((wipe σ ws).set w none).set i s
          rw [ih (fun z => hn (List.mem_cons_of_mem _ z))]
          rw [List.set_comm]
          intro z; subst z; exact hn List.mem_cons_self
      rw [g vs hv, List.set_set]
def SG (X : Cx) (tg : Expr) (g : MG) (sl : List Nat) : Prop := ∃ t, PG X tg t ∧ ∀ ρ env S σ H v v' env' (Q : L2.St → Hp → Prop), HR X.K X.mg ρ S H → ER X.K H ρ env σ → VR X.K H ρ v v' → g v env = some env' →
  (∀ σ', ER X.K H ρ env' σ' → (∀ vs, (∀ i ∈ sl, i ∈ vs) → wipe σ' vs = wipe σ vs) → Q σ' H) → t v' σ H Q
def SGs (X : Cx) (tgs : List Expr) (g : List PV → Env' → Option Env') (sl : List Nat) : Prop := ∃ t, PGs X tgs t ∧ ∀ ρ env S σ H vs vs' env' (Q : L2.St → Hp → Prop), HR X.K X.mg ρ S H → ER X.K H ρ env σ → VRs X.K H ρ vs vs' → g vs env = some env' →
  (∀ σ', ER X.K H ρ env' σ' → (∀ ws, (∀ i ∈ sl, i ∈ ws) → wipe σ' ws = wipe σ ws) → Q σ' H) → t vs' σ H Q
def gNm (i : Nat) : MG := fun v env => some (env.set i (some v))
theorem sg_name {i : Nat} {x : Str} (hN : X.N.Nodup) (hi : X.N[i]? = some x := by rfl) (hx : Loc X.env.scope x := by first | exact .inl rfl | exact .inr rfl) (hf : X.fn x = true ∨ X.env.scope.names.lookup x = some .local := by first | exact .inl rfl | exact .inr rfl | assumption) : SG X (.Name x pos) (gNm i) [i] :=
  ⟨_, pg_name hN hi hx hf, fun ρ env S σ H v v' env' Q R er r e h => by
    cases e
    exact h _ (er.set r i) fun vs hv => wipe_set (hv i List.mem_cons_self)⟩
def gNl : List PV → Env' → Option Env'
  | [], env => some env
  | _, _ => none
def gCn (g : MG) (gs : List PV → Env' → Option Env') : List PV → Env' → Option Env'
  | v :: vs, env => (g v env).bind fun env1 => gs vs env1
  | [], _ => none
theorem sgs_nil : SGs X [] gNl [] := ⟨_, pgs_nil, fun ρ env S σ H vs vs' env' Q R er r e h => by
  cases r with
  | nil => cases e; exact ⟨rfl, h σ er fun _ _ => rfl⟩
  | cons _ _ => cases e⟩
theorem sgs_cons {g : MG} {gs : List PV → Env' → Option Env'} {sl sl' : List Nat} (h1 : SG X e g sl) (h2 : SGs X es gs sl') (hs : (assignEach (e :: es) X.env).map (·.2) = assign e X.env :: (assignEach es X.env).map (·.2) := by rfl) : SGs X (e :: es) (gCn g gs) (sl ++ sl') :=
  let ⟨_, pa, qa⟩ := h1; let ⟨_, pb, qb⟩ := h2
  ⟨_, pgs_cons pa pb hs, fun ρ env S σ H vs vs' env' Q R er r e h => by
    cases r with
    | nil => cases e
    | cons r t =>
      rename_i x v xs vs
      simp only [gCn] at e
      cases e1 : g x env with
      | none => rw [e1] at e; cases e
      | some env1 =>
        rw [e1] at e
        refine ⟨_, _, rfl, qa ρ env S σ H x v env1 _ R er r e1 fun σ1 er1 w1 => ?_⟩
        refine qb ρ env1 S σ1 H xs vs env' _ R er1 t e fun σ2 er2 w2 => ?_
        exact h σ2 er2 fun ws hw => by rw [w2 ws fun i hi => hw i (List.mem_append_right _ hi), w1 ws fun i hi => hw i (List.mem_append_left _ hi)]⟩
def gTp (n : Nat) (gs : List PV → Env' → Option Env') : MG := fun v env => match v with | .tup xs => if xs.length = n then gs xs env else none | _ => none
theorem sg_tup {k n : Nat} {gs : List PV → Env' → Option Env'} {sl : List Nat} (hc : X.calm = true) (h : SGs X es gs sl)
    (hn : (assignEach es X.env).length = n := by rfl) (hst : (assignEach es X.env).findIdx? (·.1) = none := by rfl) : SG X (.Tuple es k pos) (gTp n gs) sl :=
  let ⟨_, pa, qa⟩ := h
  ⟨_, pg_tup hc pa hn hst, fun ρ env S σ H v v' env' Q R er r e h => by
    cases r with
    | tup hx ax =>
      simp only [gTp] at e
      split at e
      · rename_i hl
        exact ⟨_, _, rfl, .of hx, by rw [ax.length]; exact hl, qa ρ env S σ H _ _ env' Q R er ax e h⟩
      · cases e
    | non => cases e
    | bl b => cases e
    | int b => cases e
    | str b => cases e
    | loc b => cases e
    | rol _ _ => cases e⟩
def toSO : Option Env' → Ms → SO
  | some env, S => .nx env S
  | none, _ => .fail
abbrev sAsg (g : MG) (m : ME) : MS := sOf m fun v env S => toSO (g v env) S
theorem ss_asg {tg : Expr} {g : MG} {sl : List Nat} (he : SE X W e m) (hg : SG X tg g sl) (hs : swapsWithSole [tg] e pos.line X.env = pure false := by rfl) (hw : swappedStores [tg] e X.env = pure none := by rfl)
    (h1 : (assignEach [tg] X.env).map (·.2) = [assign tg X.env] := by rfl) : SS X W (.Assign [tg] e pos) (sAsg g m) :=
  let ⟨_, pa, qa⟩ := he; let ⟨_, pg, qg⟩ := hg
  ⟨_, ps_asg pa pg hs hw h1, fun ρ env S σ H D R er h => sOf_ok (D := D) qa ρ env S σ H R er (fun ρ' S' H' x x' gg R' e' er' r h => by
    cases q : g x env with
    | none => simp only [q, toSO] at h; exact h.elim
    | some env1 =>
      simp only [q, toSO] at h
      exact qg ρ' env S' σ H' x x' env1 _ R' er' r q fun σ' er'' _ => h _ _ _ (.refl _) R' (.refl _) er'') h⟩
/-- x = e -/
abbrev sSet (i : Nat) (m : ME) : MS := sAsg (gNm i) m
theorem ss_set {i : Nat} {x : Str} {pos' : Pos} (hN : X.N.Nodup) (he : SE X W e m) (hi : X.N[i]? = some x := by rfl) (hx : Loc X.env.scope x := by first | exact .inl rfl | exact .inr rfl) (hs : swapsWith e (some (.Name x pos')) pos.line X.env = pure false := by rfl)
    (hf : X.fn x = true ∨ X.env.scope.names.lookup x = some .local := by first | exact .inl rfl | exact .inr rfl | assumption) : SS X W (.Assign [.Name x pos'] e pos) (sSet i m) :=
  let ⟨_, pa, qa⟩ := he
  ⟨_, ps_set hN hi hx pa hs hf, fun ρ env S σ H D R er h => sOf_ok (D := D) (f := fun v env S => toSO (gNm i v env) S) qa ρ env S σ H R er (fun ρ' S' H' x x' gg R' e' er' r h => h _ _ _ (.refl _) R' (.refl _) (er'.set r i)) h⟩
/-- x, y = a, b -/
def sPar (i j : Nat) (a b : ME) : MS := fun env S => match mCons a (mCons b mNil) env S with
  | .ret [v, w] S1 => .nx ((env.set i (some v)).set j (some w)) S1
  | .exc x S1 => .exc env x S1
  | _ => .fail
theorem ss_par {i j : Nat} {x y : Str} {px py pt : Pos} {kt k2 pt2} (hc : X.calm = true) (hN : X.N.Nodup) (ha : SE X W a m) (hb : SE X W b n) (hi : X.N[i]? = some x := by rfl) (hj : X.N[j]? = some y := by rfl) (hij : i ≠ j := by decide)
    (hx : X.env.scope.names.lookup x = some .local := by rfl) (hy : X.env.scope.names.lookup y = some .local := by rfl)
    (hw : swappedStores [.Tuple [.Name x px, .Name y py] kt pt] (.Tuple [a, b] k2 pt2) X.env = pure (some [x, y]) := by rfl)
    (hs : swapsWithSole [.Tuple [.Name x px, .Name y py] kt pt] (.Tuple [a, b] k2 pt2) pos.line X.env = pure false := by rfl)
    (h1 : starEach [a, b] X.env = (false, eval a X.env) :: starEach [b] X.env := by rfl) (h2 : starEach [b] X.env = (false, eval b X.env) :: starEach [] X.env := by rfl) :
    SS X W (.Assign [.Tuple [.Name x px, .Name y py] kt pt] (.Tuple [a, b] k2 pt2) pos) (sPar i j m n) :=
  let ⟨_, pa, qa⟩ := sa_cons ha (sa_cons hb sa_nil h2) h1
  ⟨_, ps_par hc hN hi hj hij hx hy pa hw hs, fun ρ env S σ H D R er h => by
    refine qa ρ env S σ H _ R er ?_
    unfold sPar at h
    split at h
    · rename_i v w S1 e
      rw [e]
      intro ρ1 vs H1 g1 R1 e1 r1
      obtain ⟨v', w', rfl, r1, r2⟩ := vrs2 r1
      exact ⟨v', w', rfl, h ρ1 _ H1 g1 R1 e1 (((er.mono e1 g1).set r1 i).set r2 j)⟩
    · rename_i e; rw [e]; exact fun ρ' C d H' g R' e' hc xr => h ρ' σ C d H' g R' e' (er.mono e' g) hc xr
    · exact h.elim⟩
/-- o[i] = e: of a list, of a dict -/
def oPut (o i v : PV) (S : Ms) : Option Ms := match o with
  | .loc n => (match S[n]? with
    | some (.lst xs) => (match i with | .int k => (ixN xs.length k).map fun j => S.set n (.lst (xs.set j v)) | _ => none)
    | some (.dK kvs) => if kvs.length < lim then (keyP i).map fun k => S.set n (.dK (putP kvs k v)) else none
    | some (.dT kvs) => if kvs.length < lim then (keysP i).map fun k => S.set n (.dT (putP kvs k v)) else none
    | _ => none)
  | _ => none
def sPut (m n k : ME) : MS := fun env S => match k env S with
  | .ret v S1 => (match m env S1 with
    | .ret o S2 => (match n env S2 with
      | .ret i S3 => (match oPut o i v S3 with | some S4 => .nx env S4 | none => .fail)
      | .exc x S' => .exc env x S'
      | .fail => .fail)
    | .exc x S' => .exc env x S'
    | .fail => .fail)
  | .exc x S' => .exc env x S'
  | .fail => .fail
theorem ps_or2 {t1 t2 : TS} (h : PS X st t1) (h' : PS X st t2) : PS X st (fun D σ H => t1 D σ H ∨ t2 D σ H) := ⟨fun pins s σ H D I z => z.elim (h.run pins s σ H D I) (h'.run pins s σ H D I)⟩
def isLst (S : Ms) : PV → Bool
  | .loc n => match S[n]? with | some (.lst _) => true | _ => false
  | _ => false
theorem ss_put {pos' : Pos} (hu : X.A.units + 1 < cLine) (ha : SE X W a m) (hb : SE X W b n) (hc : SE X W c k)
    (hs : swapsWithSole [.Subscript a b pos'] c pos.line X.env = pure false := by rfl) (hw : swappedStores [.Subscript a b pos'] c X.env = pure none := by rfl)
    (h1 : (assignEach [.Subscript a b pos'] X.env).map (·.2) = [assign (.Subscript a b pos') X.env] := by rfl)
    (hsu : ∀ v, assign (.Subscript a b pos') X.env v = (do
      let ov ← holding [v] (eval a X.env)
      let iv ← holding [v, ov] (eval b X.env)
      standAt pos'
      holding [v, ov, iv] (setItem ov iv v)
      release [v, ov, iv] []) := by intro _; rfl)
    (hsw : swapsWith c (some (.Subscript a b pos')) pos.line X.env = pure false := by rfl) : SS X W (.Assign [.Subscript a b pos'] c pos) (sPut m n k) :=
  let ⟨ta, pa, qa⟩ := ha; let ⟨tb, pb, qb⟩ := hb; let ⟨tc, pc, qc⟩ := hc
  ⟨_, ps_or2 (ps_asg pc (pg_sub pa pb set_list hsu) hs hw h1) (ps_dput hu pa pb pc hsw), fun ρ env S σ H D R er h => by
    have gen : ∀ (kk : V → V → V → Hp → Prop), (∀ ρ' S' H' o i v o' i' v', HR X.K X.mg ρ' S' H' → Grow ρ ρ' → Ext H H' → ER X.K H' ρ' env σ → VR X.K H' ρ' o o' → VR X.K H' ρ' i i' → VR X.K H' ρ' v v' →
        (∃ S1 S2, k env S = .ret v S1 ∧ m env S1 = .ret o S2 ∧ n env S2 = .ret i S') →
        PostS X.K X.mg ρ' H' W D (match oPut o i v S' with | some S4 => SO.nx env S4 | none => .fail) → kk v' o' i' H') → tc σ H (fun v H1 => ta σ H1 fun o H2 => tb σ H2 fun i H3 => kk v o i H3) := fun kk hk => by
      refine qc ρ env S σ H _ R er ?_
      unfold sPut at h
      cases e : k env S with
      | fail => simp only [e] at h; exact h.elim
      | exc x S => simp only [e] at h; exact fun ρ' C d H' g R' e' hc xr => h ρ' σ C d H' g R' e' (er.mono e' g) hc xr
      | ret v S1 =>
        simp only [e] at h
        intro ρ1 v' H1 g1 R1 e1 r1
        have h := PostS.mono g1 e1 h
        have er1 := er.mono e1 g1
        refine qa ρ1 env S1 σ H1 _ R1 er1 ?_
        cases ee : m env S1 with
        | fail => simp only [ee] at h; exact h.elim
        | exc x S => simp only [ee] at h; exact fun ρ' C d H' g R' e' hc xr => h ρ' σ C d H' g R' e' (er1.mono e' g) hc xr
        | ret o S2 =>
          simp only [ee] at h
          intro ρ2 o' H2 g2 R2 e2 r2
          have h := PostS.mono g2 e2 h
          have er2 := er1.mono e2 g2
          refine qb ρ2 env S2 σ H2 _ R2 er2 ?_
          cases eee : n env S2 with
          | fail => simp only [eee] at h; exact h.elim
          | exc x S => simp only [eee] at h; exact fun ρ' C d H' g R' e' hc xr => h ρ' σ C d H' g R' e' (er2.mono e' g) hc xr
          | ret i S3 =>
            simp only [eee] at h
            intro ρ3 i' H3 g3 R3 e3 r3
            exact hk ρ3 S3 H3 o i v o' i' v' R3 ((g1.trans g2).trans g3) ((e1.trans e2).trans e3) (er2.mono e3 g3) (r2.mono e3 g3) r3 ((r1.mono e2 g2).mono e3 g3) ⟨S1, S2, e, ee, eee⟩ (PostS.mono g3 e3 h)
    by_cases hl : ∃ v S1 o S2 i S3, k env S = .ret v S1 ∧ m env S1 = .ret o S2 ∧ n env S2 = .ret i S3 ∧ isLst S3 o = true
    · obtain ⟨v0, S1, o0, S2, i0, S3, q1, q2, q3, q4⟩ := hl
      refine .inl (gen (fun v o i H' => rSetL o i v H' fun H3 => D.nx σ H3) fun ρ' S' H' o i v o' i' v' R' g e er' ro ri rv ⟨T1, T2, z1, z2, z3⟩ hp => ?_)
      rw [q1] at z1; cases z1
      rw [q2] at z2; cases z2
      rw [q3] at z3; cases z3
      cases ro with
      | loc en =>
        simp only [isLst] at q4
        simp only [oPut] at hp
        split at hp
        · rename_i S4 q
          split at q
          · rename_i xs qq
            obtain ⟨vs, h1, h2⟩ := R'.lst en qq
            split at q
            · rename_i kk _
              cases ri
              cases ej : ixN xs.length kk with
              | none => rw [ej] at q; cases q
              | some j =>
                rw [ej] at q; cases q
                exact ⟨_, vs, kk, j, rfl, rfl, h1, by rw [h2.length]; exact ej, hp _ _ _ (.refl _) (R'.put en h1 soft_lst (.lst (h2.set rv j))) (.put h1 soft_lst) (er'.mono (.put h1 soft_lst) (.refl _))⟩
            · cases q
          · rename_i qq; rw [qq] at q4; cases q4
          · rename_i qq; rw [qq] at q4; cases q4
          · cases q
        · exact hp.elim
      | non => cases q4
      | bl b => cases q4
      | int b => cases q4
      | str b => cases q4
      | tup _ _ => cases q4
      | rol _ _ => cases q4
    · refine .inr (gen (fun v o i H' => ∃ a H4, o = .ref a ∧ DPut H' a i v H4 ∧ D.nx σ H4) fun ρ' S' H' o i v o' i' v' R' g e er' ro ri rv ⟨T1, T2, z1, z2, z3⟩ hp => ?_)
      cases ro with
      | loc en =>
        simp only [oPut] at hp
        split at hp
        · rename_i S4 q
          split at q
          · rename_i xs qq
            exact absurd ⟨v, T1, _, T2, i, S', z1, z2, z3, by simp only [isLst, qq]⟩ hl
          · rename_i kvs qq
            obtain ⟨vs, h1, h2⟩ := R'.dK en qq
            split at q
            · rename_i hlim
              cases ek : keyP i with
              | none => rw [ek] at q; cases q
              | some kk =>
                rw [ek] at q; cases q
                refine ⟨_, _, rfl, .inl ⟨vs, kk, h1, key_ok ri ek, by rw [kvr_len h2]; exact Nat.lt_of_lt_of_le hlim (by decide), rfl⟩, ?_⟩
                exact hp _ _ _ (.refl _) (R'.put en h1 soft_dK (.dK (put_ok rv h2))) (.put h1 soft_dK) (er'.mono (.put h1 soft_dK) (.refl _))
            · cases q
          · rename_i kvs qq
            obtain ⟨vs, h1, h2⟩ := R'.dT en qq
            split at q
            · rename_i hlim
              cases ri with
              | tup ht at_ =>
                simp only [keysP] at q
                cases ek : keysL _ with
                | none => rw [ek] at q; cases q
                | some kk =>
                  rw [ek] at q; cases q
                  have e1 := keysL_ok at_ ek
                  subst e1
                  refine ⟨_, _, rfl, .inr ⟨vs, kk, _, h1, rfl, ht, by rw [kvr_len h2]; exact Nat.lt_of_lt_of_le hlim (by decide), rfl⟩, ?_⟩
                  exact hp _ _ _ (.refl _) (R'.put en h1 soft_dT (.dT (put_ok rv h2))) (.put h1 soft_dT) (er'.mono (.put h1 soft_dT) (.refl _))
              | non => cases q
              | bl b => cases q
              | int b => cases q
              | str b => cases q
              | loc b => cases q
              | rol _ _ => cases q
            · cases q
          · cases q
        · exact hp.elim
      | non => exact hp.elim
      | bl b => exact hp.elim
      | int b => exact hp.elim
      | str b => exact hp.elim
      | tup _ _ => exact hp.elim
      | rol _ _ => exact hp.elim⟩
end
end MP

set_option maxRecDepth 100000
namespace MP
open PySem PySem.Spec PyProof.Rows L2

/-! ### what is walked -/
inductive Src where
  | lst (n : Nat) | fix (xs : List PV) | tup (xs : List PV) | rng (lo : Int) (n : Nat) | zipL (n m : Nat) | zipT (xs ys : List PV) | enm (n : Nat) | rngC (lo c : Int) (n : Nat) | chr (x : Str) | rev (n : Nat) (k : Nat) | ezL (n m : Nat) | zipM (xs : List PV) (m : Nat)
inductive Nx where
  | stop | yld (v : PV) | bad
def rdL (S : Ms) (n : Nat) : Option (List PV) := match S[n]? with | some (.lst xs) => some xs | _ => none
def nxt (S : Ms) (i : Nat) : Src → Nx
  | .lst n => match rdL S n with
    | some xs => (match xs[i]? with | some v => .yld v | none => .stop)
    | none => .bad
  | .tup xs => (match xs[i]? with | some v => .yld v | none => .stop)
  | .fix xs => (match xs[i]? with | some v => .yld v | none => .stop)
  | .rng lo n => if i < n then .yld (.int (lo + i)) else .stop
  | .rngC lo c n => if i < n then .yld (.int (lo + i * c)) else .stop
  | .zipL n m => match rdL S n, rdL S m with
    | some xs, some ys => (match xs[i]?, ys[i]? with | some v, some w => .yld (.tup [v, w]) | _, _ => .stop)
    | _, _ => .bad
  | .zipT xs ys => (match xs[i]?, ys[i]? with | some v, some w => .yld (.tup [v, w]) | _, _ => .stop)
  | .zipM xs m => match rdL S m with
    | some ys => (match xs[i]?, ys[i]? with | some v, some w => .yld (.tup [v, w]) | _, _ => .stop)
    | none => .bad
  | .enm n => match rdL S n with
    | some xs => (match xs[i]? with | some v => .yld (.tup [.int i, v]) | none => .stop)
    | none => .bad
  | .chr x => (match x.cps[i]? with | some c => .yld (.str ⟨#[c]⟩) | none => .stop)
  | .ezL n m => match rdL S n, rdL S m with
    | some xs, some ys => (match xs[i]?, ys[i]? with | some v, some w => .yld (.tup [.int i, .tup [v, w]]) | _, _ => .stop)
    | _, _ => .bad
  | .rev n k => match rdL S n with
    | some xs => if i < k then (match xs[k - 1 - i]? with | some v => .yld v | none => .bad) else .stop
    | none => .bad
section
variable {X : Cx} {W : WX} {a b c e o tg : Expr} {es rest : List Expr} {pos : Pos} {m n k : ME} {ml : ML} {t u : MB} {st : Stmt} {sts : List Stmt} {p q : MS}
/-- an iterator of the layer serves a source -/
def JR (X : Cx) (ρ0 : List Addr) (H0 : Hp) (src : Src) (J : It) : Prop := ∀ ρ S H i, Grow ρ0 ρ → Ext H0 H → HR X.K X.mg ρ S H →
  (nxt S i src = .stop → J.stop i H) ∧ ∀ v, nxt S i src = .yld v → J.go i H ∧ ∀ x H', J.yld i H x H' → HR X.K X.mg ρ S H' ∧ Ext H H' ∧ VR X.K H' ρ v x
abbrev MI := Env' → Ms → Out Src
def PostI (X : Cx) (ρ : List Addr) (H : Hp) (σ : L2.St) (W : WX) (R : It → Hp → Prop) : Out Src → Prop
  | .ret src S' => ∀ ρ' H' J, Grow ρ ρ' → HR X.K X.mg ρ' S' H' → Ext H H' → JR X ρ' H' src J → R J H'
  | .exc x S' => ∀ ρ' C d H', Grow ρ ρ' → HR X.K X.mg ρ' S' H' → Ext H H' → X.mg x.cls = some (.ref C) → XR X.K H' ρ' x.fs d → W (.ref C) d σ H'
  | .fail => False
def SI (X : Cx) (W : WX) (tg it : Expr) (m : MI) : Prop := ∃ t, PI X tg it t ∧ ∀ ρ env S σ H R, HR X.K X.mg ρ S H → ER X.K H ρ env σ → PostI X ρ H σ W R (m env S) → t σ H R
theorem rdL_ok {ρ : List Addr} {S : Ms} {H : Hp} {nn : Nat} {aa : Addr} {xs : List PV} (R : HR X.K X.mg ρ S H) (e : ρ[nn]? = some aa) (h : rdL S nn = some xs) : ∃ vs, SqL X.K H aa vs ∧ VRs X.K H ρ xs vs := by
  unfold rdL at h
  split at h
  · rename_i qq; cases h; obtain ⟨vs, h1, h2⟩ := R.lst e qq; exact ⟨vs, .of h1, h2⟩
  · cases h
theorem vrs_none {K : PySem.W.Frag} {H : Hp} {ρ : List Addr} {xs : List PV} {vs : List V} {i : Nat} (h : VRs K H ρ xs vs) (e : xs[i]? = none) : vs.length ≤ i := by
  rw [h.length]; exact List.getElem?_eq_none_iff.mp e
theorem jr_lst {ρ0 : List Addr} {H0 : Hp} {nn : Nat} {aa : Addr} (e : ρ0[nn]? = some aa) : JR X ρ0 H0 (.lst nn) (Itl X.K aa) := by
  intro ρ S H i g ex R
  simp only [nxt]
  cases q : rdL S nn with
  | none => exact ⟨(fun z => by cases z), (fun v z => by cases z)⟩
  | some xs =>
    obtain ⟨vs, h1, h2⟩ := rdL_ok R (g _ _ e) q
    simp only []
    cases q2 : xs[i]? with
    | none => exact ⟨fun _ => ⟨vs, h1, vrs_none h2 q2⟩, (fun v z => by cases z)⟩
    | some v =>
      obtain ⟨v', e1, r1⟩ := h2.get q2
      refine ⟨(fun z => by cases z), fun w z => ?_⟩
      cases z
      refine ⟨⟨vs, v', h1, e1⟩, fun x H' y => ?_⟩
      obtain ⟨rfl, y⟩ := y
      have := y vs h1
      rw [e1] at this; cases this
      exact ⟨R, .refl _, r1⟩
theorem jr_tup {ρ0 : List Addr} {H0 : Hp} {xs : List PV} {vs : List V} {aa : Addr} (e : H0 aa = some (.tup vs)) (r : VRs X.K H0 ρ0 xs vs) : JR X ρ0 H0 (.tup xs) (Itt X.K aa) := by
  intro ρ S H i g ex R
  have h1 : SqT X.K H aa vs := .of ((ex aa).1 _ e)
  have h2 := r.mono ex g
  simp only [nxt]
  cases q2 : xs[i]? with
  | none => exact ⟨fun _ => ⟨vs, h1, vrs_none h2 q2⟩, (fun v z => by cases z)⟩
  | some v =>
    obtain ⟨v', e1, r1⟩ := h2.get q2
    refine ⟨(fun z => by cases z), fun w z => ?_⟩
    cases z
    refine ⟨⟨vs, v', h1, e1⟩, fun x H' y => ?_⟩
    obtain ⟨rfl, y⟩ := y
    have := y vs h1
    rw [e1] at this; cases this
    exact ⟨R, .refl _, r1⟩
theorem jr_fix {ρ0 : List Addr} {H0 : Hp} {xs : List PV} {vs : List V} {aa : Addr} (e : RoL X.K H0 aa vs) (r : VRs X.K H0 ρ0 xs vs) : JR X ρ0 H0 (.fix xs) (Itl X.K aa) := by
  intro ρ S H i g ex R
  have h1 : SqL X.K H aa vs := (ex.roL e).sq
  have h2 := r.mono ex g
  simp only [nxt]
  cases q2 : xs[i]? with
  | none => exact ⟨fun _ => ⟨vs, h1, vrs_none h2 q2⟩, (fun v z => by cases z)⟩
  | some v =>
    obtain ⟨v', e1, r1⟩ := h2.get q2
    refine ⟨(fun z => by cases z), fun w z => ?_⟩
    cases z
    refine ⟨⟨vs, v', h1, e1⟩, fun x H' y => ?_⟩
    obtain ⟨rfl, y⟩ := y
    have := y vs h1
    rw [e1] at this; cases this
    exact ⟨R, .refl _, r1⟩
theorem jr_rng {ρ0 : List Addr} {H0 : Hp} {lo : Int} {nn : Nat} : JR X ρ0 H0 (.rng lo nn) (Itr lo nn) := by
  intro ρ S H i g ex R
  simp only [nxt]
  by_cases h : i < nn
  · rw [if_pos h]
    refine ⟨(fun z => by cases z), fun w z => ?_⟩
    cases z
    refine ⟨h, fun x H' y => ?_⟩
    obtain ⟨rfl, rfl⟩ := y
    exact ⟨R, .refl _, .int _⟩
  · rw [if_neg h]
    exact ⟨fun _ => Nat.le_of_not_lt h, (fun v z => by cases z)⟩
theorem jr_chr {ρ0 : List Addr} {H0 : Hp} {x : Str} : JR X ρ0 H0 (.chr x) (Its x) := by
  intro ρ S H i g ex R
  simp only [nxt]
  cases q : x.cps[i]? with
  | none => exact ⟨fun _ => by
      show x.cps.size ≤ i
      exact Array.getElem?_eq_none_iff.mp q, (fun v z => by cases z)⟩
  | some c =>
    refine ⟨(fun z => by cases z), fun w z => ?_⟩
    cases z
    refine ⟨(Array.getElem?_eq_some_iff.mp q).1, fun y H' z => ?_⟩
    obtain ⟨rfl, c', e, rfl⟩ := z
    rw [q] at e; cases e
    exact ⟨R, .refl _, .str _⟩
theorem pair_ok {ρ : List Addr} {S : Ms} {H : Hp} {T : Addr} {v w : PV} {v' w' : V} (R : HR X.K X.mg ρ S H) (hT : H T = none) (r1 : VR X.K H ρ v v') (r2 : VR X.K H ρ w w') :
    HR X.K X.mg ρ S (upd H T (.tup [v', w'])) ∧ Ext H (upd H T (.tup [v', w'])) ∧ VR X.K (upd H T (.tup [v', w'])) ρ (.tup [v, w]) (.ref T) :=
  ⟨R.newTup hT, .new hT, .tup upd_same (.cons (r1.mono (.new hT) (.refl _)) (.cons (r2.mono (.new hT) (.refl _)) .nil))⟩
theorem jr_zipL {ρ0 : List Addr} {H0 : Hp} {nn mm : Nat} {aa bb : Addr} (e : ρ0[nn]? = some aa) (e' : ρ0[mm]? = some bb) : JR X ρ0 H0 (.zipL nn mm) (Itz X.K aa bb) := by
  intro ρ S H i g ex R
  simp only [nxt]
  cases q : rdL S nn with
  | none => exact ⟨(fun z => by cases z), (fun v z => by cases z)⟩
  | some xs =>
    cases q' : rdL S mm with
    | none => exact ⟨(fun z => by cases z), (fun v z => by cases z)⟩
    | some ys =>
      obtain ⟨vs, h1, h2⟩ := rdL_ok R (g _ _ e) q
      obtain ⟨ws, h3, h4⟩ := rdL_ok R (g _ _ e') q'
      simp only []
      cases q2 : xs[i]? with
      | none => exact ⟨fun _ => ⟨vs, ws, h1, h3, .inl (vrs_none h2 q2)⟩, (fun v z => by cases z)⟩
      | some v =>
        cases q3 : ys[i]? with
        | none => exact ⟨fun _ => ⟨vs, ws, h1, h3, .inr (vrs_none h4 q3)⟩, (fun v z => by cases z)⟩
        | some w =>
          obtain ⟨v', e1, r1⟩ := h2.get q2
          obtain ⟨w', e2, r2⟩ := h4.get q3
          refine ⟨(fun z => by cases z), fun u z => ?_⟩
          cases z
          refine ⟨⟨vs, ws, v', w', h1, h3, e1, e2⟩, fun x H' y => ?_⟩
          obtain ⟨T, x, y, rfl, hT, rfl, y1, y2⟩ := y
          have z1 := y1 vs h1
          rw [e1] at z1; cases z1
          have z2 := y2 ws h3
          rw [e2] at z2; cases z2
          exact pair_ok R hT r1 r2
theorem jr_zipT {ρ0 : List Addr} {H0 : Hp} {xs ys : List PV} {vs ws : List V} {aa bb : Addr} (e : H0 aa = some (.tup vs)) (r : VRs X.K H0 ρ0 xs vs) (e' : H0 bb = some (.tup ws)) (r' : VRs X.K H0 ρ0 ys ws) : JR X ρ0 H0 (.zipT xs ys) (RZ.ItzT X.K aa bb) := by
  intro ρ S H i g ex R
  have h1 : SqT X.K H aa vs := .of ((ex aa).1 _ e)
  have h2 := r.mono ex g
  have h3 : SqT X.K H bb ws := .of ((ex bb).1 _ e')
  have h4 := r'.mono ex g
  simp only [nxt]
  cases q2 : xs[i]? with
  | none => exact ⟨fun _ => ⟨vs, ws, h1, h3, .inl (vrs_none h2 q2)⟩, (fun v z => by cases z)⟩
  | some v =>
    cases q3 : ys[i]? with
    | none => exact ⟨fun _ => ⟨vs, ws, h1, h3, .inr (vrs_none h4 q3)⟩, (fun v z => by cases z)⟩
    | some w =>
      obtain ⟨v', e1, r1⟩ := h2.get q2
      obtain ⟨w', e2, r2⟩ := h4.get q3
      refine ⟨(fun z => by cases z), fun u z => ?_⟩
      cases z
      refine ⟨⟨vs, ws, v', w', h1, h3, e1, e2⟩, fun x H' y => ?_⟩
      obtain ⟨T, x, y, rfl, hT, rfl, y1, y2⟩ := y
      have z1 := y1 vs h1
      rw [e1] at z1; cases z1
      have z2 := y2 ws h3
      rw [e2] at z2; cases z2
      exact pair_ok R hT r1 r2
theorem jr_enm {ρ0 : List Addr} {H0 : Hp} {nn : Nat} {aa : Addr} (e : ρ0[nn]? = some aa) : JR X ρ0 H0 (.enm nn) (Ite X.K aa) := by
  intro ρ S H i g ex R
  simp only [nxt]
  cases q : rdL S nn with
  | none => exact ⟨(fun z => by cases z), (fun v z => by cases z)⟩
  | some xs =>
    obtain ⟨vs, h1, h2⟩ := rdL_ok R (g _ _ e) q
    simp only []
    cases q2 : xs[i]? with
    | none => exact ⟨fun _ => ⟨vs, h1, vrs_none h2 q2⟩, (fun v z => by cases z)⟩
    | some v =>
      obtain ⟨v', e1, r1⟩ := h2.get q2
      refine ⟨(fun z => by cases z), fun w z => ?_⟩
      cases z
      refine ⟨⟨vs, v', h1, e1⟩, fun x H' y => ?_⟩
      obtain ⟨T, x, rfl, hT, rfl, y⟩ := y
      have := y vs h1
      rw [e1] at this; cases this
      exact pair_ok R hT (.int _) r1
/-! ### the sources of a for -/
def srcOf (S : Ms) : PV → Option Src
  | .tup xs => some (.tup xs)
  | .rol xs => some (.fix xs)
  | .str x => some (.chr x)
  | .loc n => (rdL S n).map fun _ => .lst n
  | _ => none
def iOf (m : ME) : MI := fun env S => match m env S with | .ret v S1 => (match srcOf S1 v with | some s => .ret s S1 | none => .fail) | .exc x S1 => .exc x S1 | .fail => .fail
theorem pi_or {t1 t2 : TI} (h : PI X tg e t1) (h' : PI X tg e t2) : PI X tg e (fun σ H R => t1 σ H R ∨ t2 σ H R) := ⟨fun pins s σ H R I z => z.elim (h.run pins s σ H R I) (h'.run pins s σ H R I)⟩
theorem si_of (h : SE X W e m) : SI X W tg e (iOf m) :=
  let ⟨ta, pa, qa⟩ := h
  ⟨_, pi_or (pi_list pa) (pi_or (pi_tup pa) (pi_str pa)), fun ρ env S σ H R R0 er h => by
    unfold iOf at h
    cases e : m env S with
    | fail => simp only [e] at h; exact h.elim
    | exc x S1 => simp only [e] at h; exact .inl (qa ρ env S σ H _ R0 er (by rw [e]; exact h))
    | ret v S1 =>
      simp only [e] at h
      cases v with
      | tup xs =>
        simp only [srcOf] at h
        refine .inr (.inl (qa ρ env S σ H _ R0 er ?_))
        rw [e]
        intro ρ1 x' H1 g1 R1 e1 r1
        cases r1 with
        | tup hx ax => exact ⟨_, rfl, ⟨_, .of hx⟩, h ρ1 H1 _ g1 R1 e1 (jr_tup hx ax)⟩
      | str x =>
        simp only [srcOf] at h
        refine .inr (.inr (qa ρ env S σ H _ R0 er ?_))
        rw [e]
        intro ρ1 x' H1 g1 R1 e1 r1
        cases r1
        exact ⟨_, rfl, h ρ1 H1 _ g1 R1 e1 jr_chr⟩
      | loc n =>
        simp only [srcOf] at h
        cases q : rdL S1 n with
        | none => rw [q] at h; exact h.elim
        | some xs =>
          rw [q] at h
          refine .inl (qa ρ env S σ H _ R0 er ?_)
          rw [e]
          intro ρ1 x' H1 g1 R1 e1 r1
          cases r1 with
          | loc en =>
            obtain ⟨vs, h1, h2⟩ := rdL_ok R1 en q
            exact ⟨_, rfl, ⟨_, h1⟩, h ρ1 H1 _ g1 R1 e1 (jr_lst en)⟩
      | rol xs =>
        simp only [srcOf] at h
        refine .inl (qa ρ env S σ H _ R0 er ?_)
        rw [e]
        intro ρ1 x' H1 g1 R1 e1 r1
        cases r1 with
        | rol hx ax => exact ⟨_, rfl, ⟨_, hx.sq⟩, h ρ1 H1 _ g1 R1 e1 (jr_fix hx ax)⟩
      | non => exact h.elim
      | bl b => exact h.elim
      | int i => exact h.elim⟩
def big62 (i : Int) : Bool := decide (-(2 ^ 62) ≤ i ∧ i < 2 ^ 62)
def rng1 : List PV → Option Src
  | [.int j] => if big62 j then some (.rng 0 j.toNat) else none
  | _ => none
def iRg (f : List PV → Option Src) (l : ML) : MI := fun env S => match l env S with | .ret vs S1 => (match f vs with | some s => .ret s S1 | none => .fail) | .exc x S1 => .exc x S1 | .fail => .fail
theorem iRg_ok {f : List PV → Option Src} {ta : TA} {kk : List V → Hp → Prop} {R : It → Hp → Prop}
    (qa : ∀ ρ env S σ H Q, HR X.K X.mg ρ S H → ER X.K H ρ env σ → PostL X.K X.mg ρ H σ W Q (ml env S) → ta σ H Q)
    (ρ env S σ H) (R0 : HR X.K X.mg ρ S H) (er : ER X.K H ρ env σ) (h : PostI X ρ H σ W R (iRg f ml env S))
    (hk : ∀ vs vs' s ρ' S' H', Grow ρ ρ' → HR X.K X.mg ρ' S' H' → Ext H H' → VRs X.K H' ρ' vs vs' → f vs = some s → (∀ J, JR X ρ' H' s J → R J H') → kk vs' H') : ta σ H kk := by
  unfold iRg at h
  refine qa ρ env S σ H _ R0 er ?_
  cases e : ml env S with
  | fail => simp only [e] at h; exact h.elim
  | exc x S1 => simp only [e] at h; exact h
  | ret v S1 =>
    simp only [e] at h
    cases q : f v with
    | none => simp only [q] at h; exact h.elim
    | some s => simp only [q] at h; exact fun ρ1 v' H1 g1 R1 e1 r1 => hk v v' s ρ1 S1 H1 g1 R1 e1 r1 q fun J j => h ρ1 H1 J g1 R1 e1 j
theorem big_ok {i : Int} (h : big62 i = true) : -(2 ^ 62) ≤ i ∧ i < 2 ^ 62 := of_decide_eq_true h
theorem si_range1 {p : Pos} (hm : X.mg "range" = none) (ha : SA X W [a] ml) (hg : Gl X "range" := by rfl) (hs : starEach [a] X.env = [(false, eval a X.env)] := by rfl) : SI X W tg (.Call (.Name "range" p) [a] [] pos) (iRg rng1 ml) :=
  let ⟨ta, pa, qa⟩ := ha
  ⟨_, pi_range1 hg hm pa hs, fun ρ env S σ H R R0 er h => by
    refine iRg_ok qa ρ env S σ H R0 er h fun vs vs' s ρ' S' H' g R' e' r q hJ => ?_
    unfold rng1 at q
    split at q
    · split at q
      · rename_i hb
        cases q
        obtain ⟨w, rfl, rw⟩ := vrs1 r
        cases rw
        exact ⟨_, rfl, (big_ok hb).1, (big_ok hb).2, hJ _ jr_rng⟩
      · cases q
    · cases q⟩
theorem vrs3 {K : PySem.W.Frag} {H : Hp} {ρ : List Addr} {x y z : PV} {vs : List V} (h : VRs K H ρ [x, y, z] vs) : ∃ u v w, vs = [u, v, w] ∧ VR K H ρ x u ∧ VR K H ρ y v ∧ VR K H ρ z w := by
  cases h with | cons h t => obtain ⟨v, w, rfl, a, b⟩ := vrs2 t; exact ⟨_, _, _, rfl, h, a, b⟩
/-- zip, enumerate, reversed -/
def zipOf (S : Ms) : List PV → Option Src
  | [.tup xs, .tup ys] => some (.zipT xs ys)
  | [.loc n, .loc m] => match rdL S n, rdL S m with | some _, some _ => some (.zipL n m) | _, _ => none
  | _ => none
def enmOf (S : Ms) : List PV → Option Src
  | [.loc n] => (rdL S n).map fun _ => .enm n
  | _ => none
def iSt (f : Ms → List PV → Option Src) (l : ML) : MI := fun env S => match l env S with | .ret vs S1 => (match f S1 vs with | some s => .ret s S1 | none => .fail) | .exc x S1 => .exc x S1 | .fail => .fail
theorem iSt_ok {f : Ms → List PV → Option Src} {ta : TA} {kk : List V → Hp → Prop} {R : It → Hp → Prop}
    (qa : ∀ ρ env S σ H Q, HR X.K X.mg ρ S H → ER X.K H ρ env σ → PostL X.K X.mg ρ H σ W Q (ml env S) → ta σ H Q)
    (ρ env S σ H) (R0 : HR X.K X.mg ρ S H) (er : ER X.K H ρ env σ) (h : PostI X ρ H σ W R (iSt f ml env S))
    (hk : ∀ vs vs' s ρ' S' H', Grow ρ ρ' → HR X.K X.mg ρ' S' H' → Ext H H' → VRs X.K H' ρ' vs vs' → f S' vs = some s → (∀ J, JR X ρ' H' s J → R J H') → kk vs' H') : ta σ H kk := by
  unfold iSt at h
  refine qa ρ env S σ H _ R0 er ?_
  cases e : ml env S with
  | fail => simp only [e] at h; exact h.elim
  | exc x S1 => simp only [e] at h; exact h
  | ret v S1 =>
    simp only [e] at h
    cases q : f S1 v with
    | none => simp only [q] at h; exact h.elim
    | some s => simp only [q] at h; exact fun ρ1 v' H1 g1 R1 e1 r1 => hk v v' s ρ1 S1 H1 g1 R1 e1 r1 q fun J j => h ρ1 H1 J g1 R1 e1 j
theorem si_zip {p tpos : Pos} {elts : List Expr} {kk : Nat} (hm : X.mg "zip" = none) (ha : SA X W [a, b] ml) (hg : Gl X "zip" := by rfl)
    (hs : starEach [a, b] X.env = (false, eval a X.env) :: starEach [b] X.env := by rfl) (hpl : (backTo pos (starEach [b] X.env)).any (·.1) = false := by rfl) : SI X W (.Tuple elts kk tpos) (.Call (.Name "zip" p) [a, b] [] pos) (iSt zipOf ml) :=
  let ⟨ta, pa, qa⟩ := ha
  ⟨_, RZ.pi_zipA hg hm pa hs hpl, fun ρ env S σ H R R0 er h => by
    refine iSt_ok qa ρ env S σ H R0 er h fun vs vs' s ρ' S' H' g R' e' r q hJ => ?_
    unfold zipOf at q
    split at q
    · cases q
      obtain ⟨w, z, rfl, rw, rz⟩ := vrs2 r
      cases rw with
      | tup hx ax => cases rz with
        | tup hy ay => exact ⟨_, _, _, _, rfl, .inr ⟨.of hx, .of hy, hJ _ (jr_zipT hx ax hy ay)⟩⟩
    · split at q
      · rename_i q1 q2
        cases q
        obtain ⟨w, z, rfl, rw, rz⟩ := vrs2 r
        cases rw with
        | loc e1 => cases rz with
          | loc e2 =>
            obtain ⟨vs, h1, _⟩ := rdL_ok R' e1 q1
            obtain ⟨ws, h2, _⟩ := rdL_ok R' e2 q2
            exact ⟨_, _, _, _, rfl, .inl ⟨h1, h2, hJ _ (jr_zipL e1 e2)⟩⟩
      · cases q
    · cases q⟩
theorem si_enum {p tpos : Pos} {elts : List Expr} {kk : Nat} (hm : X.mg "enumerate" = none) (ha : SA X W [a] ml) (hg : Gl X "enumerate" := by rfl)
    (hs : starEach [a] X.env = [(false, eval a X.env)] := by rfl) : SI X W (.Tuple elts kk tpos) (.Call (.Name "enumerate" p) [a] [] pos) (iSt enmOf ml) :=
  let ⟨ta, pa, qa⟩ := ha
  ⟨_, pi_enum hg hm pa hs, fun ρ env S σ H R R0 er h => by
    refine iSt_ok qa ρ env S σ H R0 er h fun vs vs' s ρ' S' H' g R' e' r q hJ => ?_
    unfold enmOf at q
    split at q
    · rename_i nn
      cases q1 : rdL S' nn with
      | none => rw [q1] at q; cases q
      | some xs =>
        rw [q1] at q; cases q
        obtain ⟨w, rfl, rw⟩ := vrs1 r
        cases rw with
        | loc e1 =>
          obtain ⟨vs, h1, _⟩ := rdL_ok R' e1 q1
          exact ⟨_, _, rfl, h1, hJ _ (jr_enm e1)⟩
    · cases q⟩
/-! ### for -/
def fuel : Nat := 1099511627776
def loopM (src : Src) (g : MG) (body : MS) : Nat → Nat → Env' → Ms → SO
  | 0, _, _, _ => .fail
  | f + 1, i, env, S => match nxt S i src with
    | .stop => .nx env S
    | .bad => .fail
    | .yld v => (match g v env with
      | none => .fail
      | some env1 => (match body env1 S with
        | .nx env2 S2 => loopM src g body f (i + 1) env2 S2
        | .ct env2 S2 => loopM src g body f (i + 1) env2 S2
        | .bk env2 S2 => .nx env2 S2
        | .rt v S2 => .rt v S2
        | .exc env2 x S2 => .exc env2 x S2
        | .fail => .fail))
def sFor (mi : MI) (g : MG) (body : MS) : MS := fun env S => match mi env S with | .ret src S1 => loopM src g body fuel 0 env S1 | .exc x S1 => .exc env x S1 | .fail => .fail
theorem ss_for {iter : Expr} {body : List Stmt} {mi : MI} {g : MG} {sl : List Nat} (hp : PassesOwn (model X.prog X.w) X.A X.env X.xe) (hc : X.calm = true) (hi : SI X W tg iter mi) (hg : SG X tg g sl) (hb : SSs X W body p)
    (hs : ∀ x, foldedSetIterable iter X.env x = pure x := by intro _; rfl) : SS X W (.For tg iter body [] pos) (sFor mi g p) :=
  let ⟨ti, pi, qi⟩ := hi; let ⟨tg', pg, qg⟩ := hg; let ⟨tb, pb, qb⟩ := hb
  ⟨_, ps_for hp hc pi pg pb hs, fun ρ env S σ H D R er h => by
    refine qi ρ env S σ H _ R er ?_
    unfold sFor at h
    cases e : mi env S with
    | fail => simp only [e] at h; exact h.elim
    | exc x S1 => simp only [e] at h; exact fun ρ' C d H' g R' e' hc xr => h ρ' σ C d H' g R' e' (er.mono e' g) hc xr
    | ret src S1 =>
      simp only [e] at h
      intro ρ1 H1 J g1 R1 e1 hJ
      have h := PostS.mono g1 e1 h
      refine ⟨fun i f σ H => ∃ ρ2 env2 S2, Grow ρ1 ρ2 ∧ Ext H1 H ∧ HR X.K X.mg ρ2 S2 H ∧ ER X.K H ρ2 env2 σ ∧ PostS X.K X.mg ρ1 H1 W D (loopM src g p f i env2 S2), ⟨fuel, ρ1, env, S1, .refl _, .refl _, R1, er.mono e1 g1, h⟩, ?_⟩
      rintro i f σ2 H2 ⟨ρ2, env2, S2, g2, e2, R2, er2, h2⟩
      obtain ⟨j1, j2⟩ := hJ ρ2 S2 H2 i g2 e2 R2
      cases f with
      | zero => exact h2.elim
      | succ f =>
        unfold loopM at h2
        cases q : nxt S2 i src with
        | bad => simp only [q] at h2; exact h2.elim
        | stop => simp only [q] at h2; exact .inl ⟨j1 q, h2 ρ2 σ2 H2 g2 R2 e2 er2⟩
        | yld v =>
          simp only [q] at h2
          obtain ⟨jg, jy⟩ := j2 v q
          refine .inr ⟨jg, fun σ' H' => ∃ ρ2 env2 S2, Grow ρ1 ρ2 ∧ Ext H1 H' ∧ HR X.K X.mg ρ2 S2 H' ∧ ER X.K H' ρ2 env2 σ' ∧ PostS X.K X.mg ρ1 H1 W D (loopM src g p f (i + 1) env2 S2), fun σ' H' hN => ⟨f, Nat.lt_succ_self _, hN⟩, fun x H3 hy => ?_⟩
          obtain ⟨R3, e3, r3⟩ := jy x H3 hy
          cases q3 : g v env2 with
          | none => simp only [q3] at h2; exact h2.elim
          | some env3 =>
            simp only [q3] at h2
            refine qg ρ2 env2 S2 σ2 H3 v x env3 _ R3 (er2.mono e3 (.refl _)) r3 q3 fun σ3 er3 _ => ?_
            refine qb ρ2 env3 S2 σ3 H3 _ R3 er3 ?_
            cases q4 : p env3 S2 with
            | nx env4 S4 => simp only [q4] at h2; exact fun ρ4 σ4 H4 g4 R4 e4 er4 => ⟨ρ4, env4, S4, g2.trans g4, (e2.trans e3).trans e4, R4, er4, h2⟩
            | ct env4 S4 => simp only [q4] at h2; exact fun ρ4 σ4 H4 g4 R4 e4 er4 => ⟨ρ4, env4, S4, g2.trans g4, (e2.trans e3).trans e4, R4, er4, h2⟩
            | bk env4 S4 => simp only [q4] at h2; exact fun ρ4 σ4 H4 g4 R4 e4 er4 => h2 ρ4 σ4 H4 (g2.trans g4) R4 ((e2.trans e3).trans e4) er4
            | rt v S4 => simp only [q4] at h2; exact fun ρ4 v4 H4 g4 R4 e4 er4 => h2 ρ4 v4 H4 (g2.trans g4) R4 ((e2.trans e3).trans e4) er4
            | exc env4 x S4 => simp only [q4] at h2; exact fun ρ4 σ4 C d H4 g4 R4 e4 er4 => h2 ρ4 σ4 C d H4 (g2.trans g4) R4 ((e2.trans e3).trans e4) er4
            | fail => simp only [q4] at h2; exact h2.elim⟩
/-! ### while -/
def whileM (c : MB) (body : MS) : Nat → Env' → Ms → SO
  | 0, _, _ => .fail
  | f + 1, env, S => match c env S with
    | .ret true S1 => (match body env S1 with
      | .nx env2 S2 => whileM c body f env2 S2
      | .ct env2 S2 => whileM c body f env2 S2
      | .bk env2 S2 => .nx env2 S2
      | .rt v S2 => .rt v S2
      | .exc env2 x S2 => .exc env2 x S2
      | .fail => .fail)
    | .ret false S1 => .nx env S1
    | .exc x S1 => .exc env x S1
    | .fail => .fail
def sWhile (c : MB) (body : MS) : MS := whileM c body fuel
theorem ss_while {body : List Stmt} (hp : PassesOwn (model X.prog X.w) X.A X.env X.xe) (hc : SB X W c t) (hb : SSs X W body p) : SS X W (.While c body [] pos) (sWhile t p) :=
  let ⟨tc, pc, qc⟩ := hc; let ⟨tb, pb, qb⟩ := hb
  ⟨_, ps_while hp pc pb, fun ρ1 env S1 σ H1 D R1 er h => by
    refine ⟨fun f σ H => ∃ ρ2 env2 S2, Grow ρ1 ρ2 ∧ Ext H1 H ∧ HR X.K X.mg ρ2 S2 H ∧ ER X.K H ρ2 env2 σ ∧ PostS X.K X.mg ρ1 H1 W D (whileM t p f env2 S2), ⟨fuel, ρ1, env, S1, .refl _, .refl _, R1, er, h⟩, ?_⟩
    rintro f σ2 H2 ⟨ρ2, env2, S2, g2, e2, R2, er2, h2⟩
    cases f with
    | zero => exact h2.elim
    | succ f =>
      unfold whileM at h2
      refine qc ρ2 env2 S2 σ2 H2 _ R2 er2 ?_
      cases q : t env2 S2 with
      | fail => simp only [q] at h2; exact h2.elim
      | exc x S3 => simp only [q] at h2; exact fun ρ3 C d H3 g3 R3 e3 hc xr => h2 ρ3 σ2 C d H3 (g2.trans g3) R3 (e2.trans e3) (er2.mono e3 g3) hc xr
      | ret b S3 =>
        intro ρ3 H3 g3 R3 e3
        have er3 := er2.mono e3 g3
        cases b with
        | false => simp only [q] at h2; rw [if_neg Bool.false_ne_true]; exact h2 ρ3 σ2 H3 (g2.trans g3) R3 (e2.trans e3) er3
        | true =>
          simp only [q] at h2
          rw [if_pos rfl]
          refine ⟨fun σ' H' => ∃ ρ2 env2 S2, Grow ρ1 ρ2 ∧ Ext H1 H' ∧ HR X.K X.mg ρ2 S2 H' ∧ ER X.K H' ρ2 env2 σ' ∧ PostS X.K X.mg ρ1 H1 W D (whileM t p f env2 S2), fun σ' H' hN => ⟨f, Nat.lt_succ_self _, hN⟩, ?_⟩
          refine qb ρ3 env2 S3 σ2 H3 _ R3 er3 ?_
          have g' := g2.trans g3
          have e' := e2.trans e3
          cases q4 : p env2 S3 with
          | nx env4 S4 => simp only [q4] at h2; exact fun ρ4 σ4 H4 g4 R4 e4 er4 => ⟨ρ4, env4, S4, g'.trans g4, e'.trans e4, R4, er4, h2⟩
          | ct env4 S4 => simp only [q4] at h2; exact fun ρ4 σ4 H4 g4 R4 e4 er4 => ⟨ρ4, env4, S4, g'.trans g4, e'.trans e4, R4, er4, h2⟩
          | bk env4 S4 => simp only [q4] at h2; exact fun ρ4 σ4 H4 g4 R4 e4 er4 => h2 ρ4 σ4 H4 (g'.trans g4) R4 (e'.trans e4) er4
          | rt v S4 => simp only [q4] at h2; exact fun ρ4 v4 H4 g4 R4 e4 er4 => h2 ρ4 v4 H4 (g'.trans g4) R4 (e'.trans e4) er4
          | exc env4 x S4 => simp only [q4] at h2; exact fun ρ4 σ4 C d H4 g4 R4 e4 er4 => h2 ρ4 σ4 C d H4 (g'.trans g4) R4 (e'.trans e4) er4
          | fail => simp only [q4] at h2; exact h2.elim⟩
end
end MP

set_option maxRecDepth 100000
namespace MP
open PySem PySem.Spec PyProof.Rows L2
section
variable {X : Cx} {W : WX} {a b c e o tg : Expr} {es rest : List Expr} {pos : Pos} {m n k : ME} {ml : ML} {t u : MB} {st : Stmt} {sts : List Stmt} {p q : MS}

/-! ### one reading for every context: what the mirror says -/
def tE (K : PySem.W.Frag) (mg : Str → Option Value) (W : WX) (m : ME) : TE := fun σ H Q => ∃ ρ env S, HR K mg ρ S H ∧ ER K H ρ env σ ∧ Post K mg ρ H σ W Q (m env S)
def tBo (K : PySem.W.Frag) (mg : Str → Option Value) (W : WX) (m : MB) : TT := fun σ H Q => ∃ ρ env S, HR K mg ρ S H ∧ ER K H ρ env σ ∧ PostB K mg ρ H σ W Q (m env S)
def tGt (K : PySem.W.Frag) (mg : Str → Option Value) (g : MG) (sl : List Nat) : TG := fun v' σ H Q => ∃ ρ env S v env', HR K mg ρ S H ∧ ER K H ρ env σ ∧ VR K H ρ v v' ∧ g v env = some env' ∧
  ∀ σ', ER K H ρ env' σ' → (∀ vs, (∀ i ∈ sl, i ∈ vs) → wipe σ' vs = wipe σ vs) → Q σ' H
theorem SE.pe (h : SE X W e m) : PE X e (tE X.K X.mg W m) := let ⟨_, p, q⟩ := h; ⟨fun pins s σ H Q I ⟨ρ, env, S, R, er, z⟩ => p.run pins s σ H Q I (q ρ env S σ H Q R er z)⟩
def SIf (X : Cx) (W : WX) (ifs : List Expr) (t : MB) : Prop := PTs X ifs (tBo X.K X.mg W t)
def bYes : MB := fun _ S => .ret true S
theorem sif_nil : SIf X W [] bYes := ⟨fun pins s σ H Q I ⟨ρ, env, S, R, er, z⟩ => pts_nil.run pins s σ H Q I (z ρ H (.refl _) R (.refl _))⟩
theorem SG.pg {g : MG} {sl : List Nat} (h : SG X tg g sl) : PG X tg (tGt X.K X.mg g sl) := let ⟨_, p, q⟩ := h; ⟨fun pins s σ H v u Q I r ⟨ρ, env, S, v0, env', R, er, rv, e, z⟩ => p.run pins s σ H v u Q I r (q ρ env S σ H v0 v env' Q R er rv e z)⟩

/-! ### list comprehensions -/
abbrev W0 : WX := fun _ _ _ _ => False
def wipeE (env : Env') : List Nat → Env'
  | [] => env
  | v :: vs => (wipeE env vs).set v none
theorem ER.wipe {K : PySem.W.Frag} {H : Hp} {ρ : List Addr} {env : Env'} {σ : L2.St} (h : ER K H ρ env σ) : ∀ vs, ER K H ρ (wipeE env vs) (wipe σ vs)
  | [] => h
  | v :: vs => (ER.wipe h vs).setN v none
theorem wipe_wipe {σ : L2.St} {vs : List Nat} : ∀ us : List Nat, (∀ i ∈ us, i ∈ vs) → wipe (wipe σ us) vs = wipe σ vs
  | [], _ => rfl
  | u :: us, h => by
    show wipe ((wipe σ us).set u none) vs = _
    rw [wipe_set (h u List.mem_cons_self), wipe_wipe us fun i hi => h i (List.mem_cons_of_mem _ hi)]
def lcM (src : Src) (g : MG) (tt : MB) (m : ME) (vs : List Nat) (l : Nat) (env : Env') : Nat → Nat → Ms → Out PV
  | 0, _, _ => .fail
  | f + 1, i, S => match nxt S i src with
    | .stop => .ret (.loc l) S
    | .bad => .fail
    | .yld v => (match g v (wipeE env vs) with
      | none => .fail
      | some env1 => (match tt env1 S with
        | .ret false S1 => lcM src g tt m vs l env f (i + 1) S1
        | .ret true S1 => (match m env1 S1 with
          | .ret y S2 => (match S2[l]? with
            | some (.lst acc) => if acc.length < lim then lcM src g tt m vs l env f (i + 1) (S2.set l (.lst (acc ++ [y]))) else .fail
            | _ => .fail)
          | _ => .fail)
        | _ => .fail))
def mLc (mi : MI) (g : MG) (tt : MB) (m : ME) (vs : List Nat) : ME := fun env S => match mi env S with
  | .ret src S1 => lcM src g tt m vs S1.length env fuel 0 (S1 ++ [.lst []])
  | .exc x S1 => .exc x S1
  | .fail => .fail
theorem lc_ok {ti : TI} {mi : MI} {g : MG} {sl vs : List Nat} (hsl : ∀ i ∈ sl, i ∈ vs)
    (qi : ∀ ρ env S σ H R, HR X.K X.mg ρ S H → ER X.K H ρ env σ → PostI X ρ H σ W R (mi env S) → ti σ H R)
    (ρ env S σ H) (Q : VK) (R : HR X.K X.mg ρ S H) (er : ER X.K H ρ env σ) (h : Post X.K X.mg ρ H σ W Q (mLc mi g t m vs env S)) :
    tLc ti (tGt X.K X.mg g sl) (tBo X.K X.mg W0 t) (tE X.K X.mg W0 m) vs σ H Q := by
  refine qi ρ env S σ H _ R er ?_
  unfold mLc at h
  cases e : mi env S with
  | fail => simp only [e] at h; exact h.elim
  | exc x S1 => simp only [e] at h; exact h
  | ret src S1 =>
    simp only [e] at h
    intro ρ1 H1 J g1 R1 e1 hJ D hD
    have h := Post.mono g1 e1 h
    have er1 := er.mono e1 g1
    have gD : Grow ρ1 (ρ1 ++ [D]) := .snoc _ _
    have eD : Ext H1 (upd H1 D (.lst [])) := .new hD
    have lD : (ρ1 ++ [D])[S1.length]? = some D := by rw [← R1.len]; simp
    refine ⟨fun i f H => ∃ ρ2 S2, Grow (ρ1 ++ [D]) ρ2 ∧ Ext (upd H1 D (.lst [])) H ∧ HR X.K X.mg ρ2 S2 H ∧ Post X.K X.mg ρ1 H1 σ W Q (lcM src g t m vs S1.length env f i S2),
      ⟨fuel, ρ1 ++ [D], _, .refl _, .refl _, R1.new hD (.lst .nil), h⟩, ?_⟩
    rintro i f H2 ⟨ρ2, S2, g2, e2, R2, h2⟩
    have g12 := gD.trans g2
    have e12 := eD.trans e2
    obtain ⟨j1, j2⟩ := hJ ρ2 S2 H2 i g12 e12 R2
    cases f with
    | zero => exact h2.elim
    | succ f =>
      unfold lcM at h2
      cases q : nxt S2 i src with
      | bad => simp only [q] at h2; exact h2.elim
      | stop => simp only [q] at h2; exact .inl ⟨j1 q, h2 ρ2 _ H2 g12 R2 e12 (.loc (g2 _ _ lD))⟩
      | yld v =>
        simp only [q] at h2
        obtain ⟨jg, jy⟩ := j2 v q
        refine .inr ⟨jg, fun H' => ∃ ρ2 S2, Grow (ρ1 ++ [D]) ρ2 ∧ Ext (upd H1 D (.lst [])) H' ∧ HR X.K X.mg ρ2 S2 H' ∧ Post X.K X.mg ρ1 H1 σ W Q (lcM src g t m vs S1.length env f (i + 1) S2), fun H' hN => ⟨f, Nat.lt_succ_self _, hN⟩, fun x H3 hy => ?_⟩
        obtain ⟨R3, e3, r3⟩ := jy x H3 hy
        cases q3 : g v (wipeE env vs) with
        | none => simp only [q3] at h2; exact h2.elim
        | some env3 =>
          simp only [q3] at h2
          refine ⟨ρ2, wipeE env vs, S2, v, env3, R3, ((er1.mono e12 g12).mono e3 (.refl _)).wipe vs, r3, q3, fun σ3 er3 w3 => ⟨?_, ρ2, env3, S2, R3, er3, ?_⟩⟩
          · rw [w3 vs hsl, wipe_wipe vs fun _ h => h]
          · cases q4 : t env3 S2 with
            | fail => simp only [q4] at h2; exact h2.elim
            | exc x S3 => simp only [q4] at h2; exact h2.elim
            | ret bb S3 =>
              intro ρ4 H4 g4 R4 e4
              cases bb with
              | false =>
                simp only [q4] at h2
                rw [if_neg Bool.false_ne_true]
                exact ⟨ρ4, S3, g2.trans g4, (e2.trans e3).trans e4, R4, h2⟩
              | true =>
                simp only [q4] at h2
                rw [if_pos rfl]
                refine ⟨ρ4, env3, S3, R4, er3.mono e4 g4, ?_⟩
                cases q5 : m env3 S3 with
                | fail => simp only [q5] at h2; exact h2.elim
                | exc x S3 => simp only [q5] at h2; exact h2.elim
                | ret y S4 =>
                  simp only [q5] at h2
                  intro ρ5 y' H5 g5 R5 e5 r5
                  split at h2
                  · rename_i acc qa
                    split at h2
                    · rename_i hlim
                      have lD5 : ρ5[S1.length]? = some D := g5 _ _ (g4 _ _ (g2 _ _ lD))
                      obtain ⟨acc', a1, a2⟩ := R5.lst lD5 qa
                      refine ⟨acc', a1, by rw [a2.length]; exact Nat.lt_of_lt_of_le hlim (by decide), ρ5, _, (g2.trans g4).trans g5, (((e2.trans e3).trans e4).trans e5).trans (.put a1 soft_lst), R5.put lD5 a1 soft_lst (.lst (a2.append (.cons r5 .nil))), h2⟩
                    · exact h2.elim
                  · exact h2.elim
theorem s_lc {iter : Expr} {ifs : List Expr} {scope : Scope} {own : List (Str × Nat)} {mi : MI} {g : MG} {sl : List Nat} (hc : X.calm = true) (hN : X.N.Nodup) (hi : SI X W tg iter mi) (ok : BlkOk X.N X.env.scope scope own) (hsl : ∀ i ∈ sl, i ∈ own.map (·.2))
    (hg : ∀ (s : Shared) (H : Hp) (C : Addr) (cl : List (Str × Addr)) (fp : List Addr), SG (X.blk s H scope (compEnvC scope cl C X.env) fp) tg g sl) (ht : ∀ (s : Shared) (H : Hp) (C : Addr) (cl : List (Str × Addr)) (fp : List Addr), SIf (X.blk s H scope (compEnvC scope cl C X.env) fp) W0 ifs t)
    (he : ∀ (s : Shared) (H : Hp) (C : Addr) (cl : List (Str × Addr)) (fp : List Addr), SE (X.blk s H scope (compEnvC scope cl C X.env) fp) W0 e m) (hs : ∀ x, foldedSetIterable iter X.env x = pure x := by intro _; rfl) :
    SE X W (.ListComp e [⟨tg, iter, ifs, 0⟩] scope pos) (mLc mi g t m (own.map (·.2))) :=
  let ⟨_, pi, qi⟩ := hi
  ⟨_, pe_lc (tt := tBo X.K X.mg W0 t) hc hN pi ok (fun s H C cl fp => (hg s H C cl fp).pg) (fun s H C cl fp => ht s H C cl fp) (fun s H C cl fp => (he s H C cl fp).pe) hs, lc_ok hsl qi⟩
/-! ### defs and their calls -/
def mFn (nl : Nat) (body : MS) : List PV → Ms → Out PV := fun args S => match body (args.map some ++ List.replicate nl none) S with
  | .nx _ S1 => .ret .non S1
  | .rt v S1 => .ret v S1
  | .exc _ x S1 => .exc x S1
  | _ => .fail
def spF (K : PySem.W.Frag) (mg : Str → Option Value) (np : Nat) (F : List PV → Ms → Out PV) : Sp := fun vs H Q E => vs.length = np ∧ ∃ ρ S args, HR K mg ρ S H ∧ VRs K H ρ args vs ∧ Post K mg ρ H [] (fun c d _ H => E c d H) Q (F args S)
/-- the mirror of a call of a def with so many parameters -/
def cl (np : Nat) (G : List PV → Ms → Out PV) : List PV → Ms → Out PV := fun vs S => if vs.length = np then G vs S else .fail
theorem s_call {x : Str} {pp : Pos} {f : Addr} {fd : FuncData} {ps : List Str} {lv np : Nat} {G : List PV → Ms → Out PV} (F : FnOk X.prog X.w X.K X.mg X.base (L2.CX X.prog X.w) lv f fd ps (spF X.K X.mg np G)) (hnp : ps.length = np) (hr : Room lv X.A)
    (hm : X.mg x = some (.ref f)) (hk : PySem.W.keepIn X.K (.ref f) = true) (hb : Binds X.K fd ps []) (tk : Takes X W) (ha : SA X W (e :: es) ml) (hargs : (e :: es).length = np := by rfl) (hg : Gl X x := by rfl)
    (hdb : (x == ("__debug__" : Str)) = false := by decide) (he : starEach (e :: es) X.env = (false, eval e X.env) :: starEach es X.env := by rfl) (hpl : (backTo pos (starEach es X.env)).any (·.1) = false := by rfl) :
    SE X W (.Call (.Name x pp) (e :: es) [] pos) (mL ml (cl np G)) :=
  let ⟨_, pa, qa⟩ := ha
  ⟨_, pe_callSD (E := WE W) (dvs := []) F hr hg hm hk hb .nil (fun σ => passAt tk σ) pa hdb he hpl, fun ρ env S σ H Q R er h =>
    args_ok (r := fun vs H1 Q => spF X.K X.mg np G (vs ++ []) H1 Q (WE W σ)) qa ρ env S σ H Q (fun ρ' S' H' x x' g e R' r h' => by
      unfold cl at h'
      split at h'
      · rename_i hl
        rw [List.append_nil]
        refine ⟨by rw [r.length]; exact hl, ρ', S', x, R', r, ?_⟩
        cases q : G x S' with
        | fail => rw [q] at h'; exact h'.elim
        | ret v S1 => rw [q] at h'; exact h'
        | exc xx S1 => rw [q] at h'; exact h'
      · exact h'.elim) R er h⟩
theorem start_er {K : PySem.W.Frag} {H : Hp} {ρ : List Addr} {N : List Str} {nl : Nat} {args : List PV} {vs : List V} (r : VRs K H ρ args vs) (hl : N.length = vs.length + nl) : ER K H ρ (args.map some ++ List.replicate nl none) (L2.start N vs) := by
  unfold L2.start
  have e : N.length - vs.length = nl := by omega
  rw [e]
  exact ER.start nl r
theorem fn_ok {P : Program} {w : World} {K : PySem.W.Frag} {mg : Str → Option Value} {base : Heap} {x qual : Str} {sst : Stmt} {f : Addr} {fd : FuncData} {N ps : List Str} {lv nl : Nat} {mm : MS} (F : Fun K x qual sst f fd) (Sc : FnScope N ps (defScope sst)) (hl : N.length = ps.length + nl)
    (hbody : ∀ (cdv : Value) (A : Around) (outer : List Env) (s : Shared) (H : Hp) (E : XK), Room lv (A.deeper (envOfC qual (defScope sst) s.heap.objs.size f cdv)) →
      SSs (cxOf (L2.CX P w) P w K mg base N qual (defScope sst) f cdv A outer s H E) (fun c d _ H => E c d H) (defBody sst) mm) : FnOk P w K mg base (L2.CX P w) (lv + 1) f fd ps (spF K mg ps.length (mFn nl mm)) :=
  F.okX Sc (fun vs H Q E h => h.1) fun cdv A outer s H vs Q E hr h => by
    obtain ⟨hv, ρ, S, args, R, r, hp⟩ := h
    obtain ⟨t, pt, qt⟩ := hbody cdv A outer s H E hr
    refine ⟨t, pt, qt ρ (args.map some ++ List.replicate nl none) S _ H _ R (start_er r (by rw [hl, hv])) ?_⟩
    unfold mFn at hp
    cases e : mm (args.map some ++ List.replicate nl none) S with
    | nx env1 S1 => simp only [e] at hp; exact fun ρ1 σ1 H1 g1 R1 e1 er1 => hp ρ1 _ H1 g1 R1 e1 .non
    | rt v S1 => simp only [e] at hp; exact fun ρ1 v1 H1 g1 R1 e1 r1 => hp ρ1 v1 H1 g1 R1 e1 r1
    | exc env1 xx S1 => simp only [e] at hp; exact fun ρ1 σ1 C d H1 g1 R1 e1 er1 hc xr => hp ρ1 C d H1 g1 R1 e1 hc xr
    | bk env1 S1 => simp only [e] at hp; exact hp.elim
    | ct env1 S1 => simp only [e] at hp; exact hp.elim
    | fail => simp only [e] at hp; exact hp.elim
theorem fn_never {P : Program} {w : World} {K : PySem.W.Frag} {mg : Str → Option Value} {base : Heap} {f : Addr} {fd : FuncData} {ps : List Str} {lv : Nat} : FnOk P w K mg base (L2.CX P w) lv f fd ps (spF K mg ps.length (fun _ _ => .fail)) :=
  ⟨fun vs H Q E h => h.1, fun A outer s H args us vs Q E hr he hb r h => by obtain ⟨_, _, _, _, _, _, z⟩ := h; exact z.elim⟩
end
end MP

set_option maxRecDepth 100000
namespace MP
open PySem PySem.Spec PyProof.Rows L2
section
variable {X : Cx} {W : WX} {a b c e o tg : Expr} {es rest : List Expr} {pos : Pos} {m n k : ME} {ml mk : ML} {t u : MB} {st : Stmt} {sts : List Stmt} {p q : MS} {kws : List Keyword}

/-! ### calls with keywords -/
def SK (X : Cx) (W : WX) (kws : List Keyword) (m : ML) : Prop := ∃ t, PK X kws t ∧ ∀ ρ env S σ H Q, HR X.K X.mg ρ S H → ER X.K H ρ env σ → PostL X.K X.mg ρ H σ W Q (m env S) → t σ H Q
theorem sk_nil : SK X W [] mNil := ⟨_, pk_nil, fun ρ env S σ H Q R er h => h _ _ _ (.refl _) R (.refl _) .nil⟩
theorem sk_cons {nm : Option Str} {kpos : Pos} (ha : SE X W e m) (hr : SK X W kws ml) : SK X W (⟨nm, e, kpos⟩ :: kws) (mCons m ml) :=
  let ⟨_, pa, qa⟩ := ha; let ⟨_, pb, qb⟩ := hr
  ⟨_, pk_cons pa pb, fun ρ env S σ H Q R er h => by
    refine qa ρ env S σ H _ R er ?_
    unfold mCons at h
    cases e : m env S with
    | fail => rw [e] at h; exact h.elim
    | exc x S => rw [e] at h; exact h
    | ret x S1 =>
      rw [e] at h
      intro ρ1 x' H1 g1 R1 e1 r1
      refine qb ρ1 env S1 σ H1 _ R1 (er.mono e1 g1) ?_
      have h := PostL.mono g1 e1 h
      cases e : ml env S1 with
      | fail => simp only [e] at h; exact h.elim
      | exc x S => simp only [e] at h; exact h
      | ret xs S2 =>
        simp only [e] at h
        intro ρ2 xs' H2 g2 R2 e2 r2
        exact h ρ2 _ H2 g2 R2 e2 (.cons (r1.mono e2 g2) r2)⟩
def gOf {α : Type} (d : α) (is : List Nat) (us ws : List α) : List α := is.map fun i => (us ++ ws).getD i d
theorem vals_getD : ∀ {vs : List V} {us : List Value} (i : Nat), Vals vs us → RelV (vs.getD i .non) (us.getD i .none)
  | [], [], _, .nil => by simp; rfl
  | _ :: _, _ :: _, 0, .cons r _ => by simpa using r
  | _ :: _, _ :: _, i + 1, .cons _ t => by simpa using vals_getD i t
theorem vals_gOf {vs zs : List V} {us ws : List Value} (h1 : Vals vs us) (h2 : Vals zs ws) : ∀ is : List Nat, Vals (gOf .non is vs zs) (gOf .none is us ws)
  | [] => .nil
  | i :: is => .cons (vals_getD i (h1.append h2)) (vals_gOf h1 h2 is)
theorem vrs_getD {K : PySem.W.Frag} {H : Hp} {ρ : List Addr} : ∀ {xs : List PV} {vs : List V} (i : Nat), VRs K H ρ xs vs → VR K H ρ (xs.getD i .non) (vs.getD i .non)
  | [], _, _, .nil => by simp; exact .non
  | _ :: _, _, 0, .cons r _ => by simpa using r
  | _ :: _, _, i + 1, .cons _ t => by simpa using vrs_getD i t
theorem vrs_gOf {K : PySem.W.Frag} {H : Hp} {ρ : List Addr} {xs ys : List PV} {vs zs : List V} (h1 : VRs K H ρ xs vs) (h2 : VRs K H ρ ys zs) : ∀ is : List Nat, VRs K H ρ (gOf .non is xs ys) (gOf .non is vs zs)
  | [] => .nil
  | i :: is => .cons (vrs_getD i (h1.append h2)) (vrs_gOf h1 h2 is)
theorem kbn_mk {K : PySem.W.Frag} {fd : FuncData} {ps : List Str} {nn : Nat} {ks : List Str} (is : List Nat)
    (h : ∀ (us ws : List Value), us.length = nn → ws.length = ks.length → bindArgs fd ⟨us, ks.zip ws⟩ = pure (ps.zip (gOf .none is us ws))) : KBn K fd ps nn ks (gOf .none is) (gOf .non is) :=
  ⟨fun s us ws _ l1 l2 => .of_eq (h us ws l1 l2), fun r1 r2 => vals_gOf r1 r2 is⟩
def tCallKS (n m : Nat) (sp : Sp) (gV : List V → List V → List V) (E : L2.St → XK) (t tk : TA) : TE := fun σ H Q => t σ H fun vs H1 => tk σ H1 fun zs H2 => vs.length = n ∧ zs.length = m ∧ sp (gV vs zs) H2 Q (E σ)
theorem run_fnNS {CX : CXT} {lv nn : Nat} {f : Addr} {fd : FuncData} {ps ks : List Str} {sp : Sp} {E : L2.St → XK} {g : List Value → List Value → List Value} {gV : List V → List V → List V} {pins : List (Addr × Obj)} {σ : L2.St} {H : Hp} {s : Shared} {Q : VK} {us ws : List Value} {vs zs : List V} (F : FnOk X.prog X.w X.K X.mg X.base CX lv f fd ps sp) (hr : Room lv X.A) (hb : KBn X.K fd ps nn ks g gV) (hx : PassesAt CX X σ (E σ))
    (I : Inv X pins σ H s) (r : Vals vs us) (rz : Vals zs ws) (l1 : vs.length = nn) (l2 : zs.length = ks.length) (h : sp (gV vs zs) H Q (E σ)) : wpAny (model X.prog X.w) X.A (call (.ref f) us (ks.zip ws)) (EP X pins σ Q) X.xe s := by
  have r2 := hb.rel r rz
  refine wpAny_call (codeAny_mono (F.run X.A X.stack s H ⟨us, ks.zip ws⟩ (g us ws) (gV vs zs) Q (E σ) hr I.env0 (hb.to s us ws I.kIn (r.length.symm.trans l1) (rz.length.symm.trans l2)) r2 h) fun r s' hq => ?_)
  cases r with
  | error e => exact hx pins H s e s' I hq
  | ok fl =>
    cases fl with
    | ret u => exact I.after hq
    | next => exact False.elim hq
    | brk => exact False.elim hq
    | cont => exact False.elim hq
theorem pe_callKS0 {CX : CXT} {lv : Nat} {f : Addr} {fd : FuncData} {ps ks : List Str} {sp : Sp} {E : L2.St → XK} {g : List Value → List Value → List Value} {gV : List V → List V → List V} {x : Str} {pp : Pos} {tk : TA} (F : FnOk X.prog X.w X.K X.mg X.base CX lv f fd ps sp) (hr : Room lv X.A) (hg : Gl X x) (hm : X.mg x = some (.ref f)) (hk : PySem.W.keepIn X.K (.ref f) = true) (hb : KBn X.K fd ps 0 ks g gV) (hx : ∀ σ, PassesAt CX X σ (E σ))
    (hkw : PK X kws tk) (hall : (backToKw pos (keywordEach kws X.env)).all (·.1.isSome) = true) (hks : (backToKw pos (keywordEach kws X.env)).filterMap (·.1) = ks)
    (hdb : (x == ("__debug__" : Str)) = false)
    (hpl : ((backTo pos (starEach [] X.env)).any (·.1) || (backToKw pos (keywordEach kws X.env)).any (·.1.isNone)) = false) :
    PE X (.Call (.Name x pp) [] kws pos) (tCallKS 0 ks.length sp gV E tNil tk) := by
  refine ⟨fun pins s σ H Q I h => ?_⟩
  refine wpAny_Call_Name_kw (ld_glob I hg hm ?_ hdb)
  refine PySem.W.callWith_KW0 (h₀ := X.base) I.ok.mod.kin hk hall (thn (hkw.run pos pins s σ H _ I h) fun ws s2 ⟨zs, H2, I2, rz, l1, l2, q2⟩ => ⟨I2.kIn, ?_⟩) hpl
  rw [hks]
  exact run_fnNS (us := []) (vs := []) F hr hb (hx σ) I2 .nil rz l1 l2 q2
def mCallK (ml mk : ML) (nn kk : Nat) (is : List Nat) (G : List PV → Ms → Out PV) : ME := fun env S => (ml env S).bind fun vs S1 => (mk env S1).bind fun zs S2 => if vs.length = nn ∧ zs.length = kk then G (gOf .non is vs zs) S2 else .fail
theorem callK_ok {nn kk np : Nat} {is : List Nat} {G : List PV → Ms → Out PV} {ta tk : TA} (hnp : is.length = np)
    (qa : ∀ ρ env S σ H Q, HR X.K X.mg ρ S H → ER X.K H ρ env σ → PostL X.K X.mg ρ H σ W Q (ml env S) → ta σ H Q)
    (qb : ∀ ρ env S σ H Q, HR X.K X.mg ρ S H → ER X.K H ρ env σ → PostL X.K X.mg ρ H σ W Q (mk env S) → tk σ H Q)
    (ρ env S σ H) (Q : VK) (R : HR X.K X.mg ρ S H) (er : ER X.K H ρ env σ) (h : Post X.K X.mg ρ H σ W Q (mCallK ml mk nn kk is G env S)) : tCallKS nn kk (spF X.K X.mg np G) (gOf .non is) (WE W) ta tk σ H Q := by
  refine qa ρ env S σ H _ R er ?_
  unfold mCallK at h
  cases e : ml env S with
  | fail => rw [e] at h; exact h.elim
  | exc x S => rw [e] at h; exact h
  | ret vs S1 =>
    rw [e] at h
    intro ρ1 vs' H1 g1 R1 e1 r1
    have h := Post.mono g1 e1 h
    simp only [Out.bind] at h
    refine qb ρ1 env S1 σ H1 _ R1 (er.mono e1 g1) ?_
    cases e : mk env S1 with
    | fail => rw [e] at h; exact h.elim
    | exc x S => rw [e] at h; exact h
    | ret zs S2 =>
      rw [e] at h
      intro ρ2 zs' H2 g2 R2 e2 r2
      have h := Post.mono g2 e2 h
      simp only [] at h
      split at h
      · rename_i hl
        refine ⟨by rw [r1.length]; exact hl.1, by rw [r2.length]; exact hl.2, ?_, ρ2, S2, _, R2, vrs_gOf (r1.mono e2 g2) r2 is, ?_⟩
        · unfold gOf; rw [List.length_map]; exact hnp
        · cases q : G (gOf .non is vs zs) S2 with
          | fail => rw [q] at h; exact h.elim
          | ret v S1 => rw [q] at h; exact h
          | exc xx S1 => rw [q] at h; exact h
      · exact h.elim
theorem s_callK0 {x : Str} {pp : Pos} {f : Addr} {fd : FuncData} {ps ks : List Str} {lv np kk : Nat} {is : List Nat} {G : List PV → Ms → Out PV} (F : FnOk X.prog X.w X.K X.mg X.base (L2.CX X.prog X.w) lv f fd ps (spF X.K X.mg np G)) (hr : Room lv X.A)
    (hm : X.mg x = some (.ref f)) (hk : PySem.W.keepIn X.K (.ref f) = true) (hb : KBn X.K fd ps 0 ks (gOf .none is) (gOf .non is)) (tk : Takes X W) (hkw : SK X W kws mk) (hkk : ks.length = kk := by rfl) (hnp : is.length = np := by rfl) (hg : Gl X x := by rfl)
    (hall : (backToKw pos (keywordEach kws X.env)).all (·.1.isSome) = true := by rfl) (hks : (backToKw pos (keywordEach kws X.env)).filterMap (·.1) = ks := by rfl)
    (hdb : (x == ("__debug__" : Str)) = false := by decide)
    (hpl : ((backTo pos (starEach [] X.env)).any (·.1) || (backToKw pos (keywordEach kws X.env)).any (·.1.isNone)) = false := by rfl) :
    SE X W (.Call (.Name x pp) [] kws pos) (mCallK mNil mk 0 kk is G) := by
  subst hkk
  exact (
  let ⟨_, pb, qb⟩ := hkw
  ⟨_, pe_callKS0 (E := WE W) F hr hg hm hk hb (fun σ => passAt tk σ) pb hall hks hdb hpl, callK_ok (ta := tNil) hnp (fun ρ env S σ H Q R er h => h _ _ _ (.refl _) R (.refl _) .nil) qb⟩)

/-! ### methods of lists -/
def mMeth (m : ME) (ml : ML) (f : PV → List PV → Ms → Out PV) : ME := fun env S => (m env S).bind fun x S1 => if (lstOf S1 x).isSome then (ml env S1).bind fun xs S2 => f x xs S2 else .fail
def OM (X : Cx) (W : WX) (f : PV → List PV → Ms → Out PV) (r : V → List V → Hp → VK → Prop) : Prop :=
  ∀ ρ S H σ Q x x' xs xs', HR X.K X.mg ρ S H → VR X.K H ρ x x' → VRs X.K H ρ xs xs' → Post X.K X.mg ρ H σ W Q (f x xs S) → r x' xs' H Q
theorem tyL_ok {ρ : List Addr} {S : Ms} {H : Hp} {x : PV} {x' : V} (R : HR X.K X.mg ρ S H) (r : VR X.K H ρ x x') (h : (lstOf S x).isSome = true) : tyV X.K "list" x' H := by
  cases e : lstOf S x with
  | none => rw [e] at h; cases h
  | some xs =>
    obtain ⟨a, vs, rfl, _, hs⟩ := lstOf_ok R r e
    exact .inl ⟨rfl, vs, hs⟩
theorem s_bmL {name : Str} {id : String} {apos cpos : Pos} {f : PV → List PV → Ms → Out PV} {r : V → List V → Hp → VK → Prop} (slot : Slot "list" name id) (hty : typeOf (.builtin id) = pure (.type "method_descriptor")) (hm : MtR X id r) (hf : OM X W f r) (ho : SE X W o m) (ha : SA X W (e :: es) ml)
    (hbase : attributeBase o name X.env (eval o X.env) = eval o X.env := by rfl)
    (hfew : ((backTo cpos (starEach (e :: es) X.env)).all (fun x => !x.1) && (backToKw cpos (keywordEach [] X.env)).all (fun x => x.1.isSome)
      && decide ((e :: es).length + ([] : List Keyword).length + (if ([] : List Keyword).isEmpty then 0 else 1) < 30)) = true := by rfl)
    (hline : (apos.endLine == cpos.line) = true := by rfl) (hs : starEach (e :: es) X.env = (false, eval e X.env) :: starEach es X.env := by rfl) (hplain : (backTo cpos (starEach es X.env)).any (·.1) = false := by rfl) :
    SE X W (.Call (.Attribute o name apos) (e :: es) [] cpos) (mMeth m ml f) :=
  let ⟨_, pa, qa⟩ := ho; let ⟨_, pb, qb⟩ := ha
  ⟨_, pe_bm PySem.F.plainAttrs_list slot hty hm pa pb hbase hfew hline hs hplain, fun ρ env S σ H Q R er h => by
    refine qa ρ env S σ H _ R er ?_
    unfold mMeth at h
    cases e : m env S with
    | fail => rw [e] at h; exact h.elim
    | exc x S => rw [e] at h; exact h
    | ret x S1 =>
      rw [e] at h
      intro ρ1 x' H1 g1 R1 e1 r1
      have h := Post.mono g1 e1 h
      simp only [Out.bind] at h
      split at h
      · rename_i hl
        refine ⟨tyL_ok R1 r1 hl, ?_⟩
        exact args_ok qb ρ1 env S1 σ H1 Q (fun ρ' S' H' xs xs' g e R' r h' => hf ρ' S' H' σ Q x x' xs xs' R' (r1.mono e g) r h') R1 (er.mono e1 g1) h
      · exact h.elim⟩
def oAppend : PV → List PV → Ms → Out PV
  | .loc n, [y], S => (match S[n]? with | some (.lst xs) => if xs.length < lim then .ret .non (S.set n (.lst (xs ++ [y]))) else .fail | _ => .fail)
  | _, _, _ => .fail
theorem Post.put {ρ : List Addr} {H : Hp} {σ : L2.St} {S : Ms} {Q : VK} {nn : Nat} {aa : Addr} {v : PV} {v' : V} {xs : List PV} {vs ws : List V} (R : HR X.K X.mg ρ S H) (en : ρ[nn]? = some aa) (h1 : H aa = some (.lst vs)) (r : VRs X.K H ρ xs ws) (rv : VR X.K H ρ v v')
    (h : Post X.K X.mg ρ H σ W Q (.ret v (S.set nn (.lst xs)))) : Q v' (upd H aa (.lst ws)) :=
  h ρ v' _ (.refl _) (R.put en h1 soft_lst (.lst r)) (.put h1 soft_lst) (rv.mono (.put h1 soft_lst) (.refl _))
theorem o_append : OM X W oAppend rAppend := by
  intro ρ S H σ Q x x' xs xs' R rx rxs h
  unfold oAppend at h
  split at h
  · obtain ⟨v, rfl, rv⟩ := vrs1 rxs
    cases rx with
    | loc en =>
      split at h
      · rename_i q
        split at h
        · rename_i hl
          obtain ⟨vs, h1, h2⟩ := R.lst en q
          exact ⟨_, vs, v, rfl, rfl, h1, by rw [h2.length]; exact Nat.lt_of_lt_of_le hl (by decide), Post.put R en h1 (h2.append (.cons rv .nil)) .non h⟩
        · exact h.elim
      · exact h.elim
  · exact h.elim
def oPop : PV → List PV → Ms → Out PV
  | .loc n, [], S => (match S[n]? with | some (.lst xs) => (match xs[xs.length - 1]? with | some y => .ret y (S.set n (.lst xs.dropLast)) | none => .fail) | _ => .fail)
  | .loc n, [.int i], S => (match S[n]? with
    | some (.lst xs) => if -(2 ^ 63) ≤ i ∧ i < 2 ^ 63 then (match seqIndex? i xs.length with
      | some k => (match xs[k]? with | some y => .ret y (S.set n (.lst (xs.eraseIdx k))) | none => .fail)
      | none => .fail) else .fail
    | _ => .fail)
  | _, _, _ => .fail
def rPop2 : V → List V → Hp → VK → Prop := fun x xs H Q => rPop x xs H Q ∨ rPopAt x xs H Q
theorem mt_pop2 : MtR X "list.pop" rPop2 := MtR.or mt_pop mt_popAt
theorem vrs_dropLast {K : PySem.W.Frag} {H : Hp} {ρ : List Addr} {xs : List PV} {vs : List V} (h : VRs K H ρ xs vs) : VRs K H ρ xs.dropLast vs.dropLast := by
  rw [List.dropLast_eq_take, List.dropLast_eq_take, h.length]; exact h.take _
theorem o_pop : OM X W oPop rPop2 := by
  intro ρ S H σ Q x x' xs xs' R rx rxs h
  unfold oPop at h
  split at h
  · cases rxs
    cases rx with
    | loc en =>
      split at h
      · rename_i q
        split at h
        · rename_i y qy
          obtain ⟨vs, h1, h2⟩ := R.lst en q
          obtain ⟨y', e1, r1⟩ := h2.get qy
          exact .inl ⟨_, vs, y', rfl, rfl, h1, by rw [h2.length]; exact e1, Post.put R en h1 (vrs_dropLast h2) r1 h⟩
        · exact h.elim
      · exact h.elim
  · obtain ⟨v, rfl, rv⟩ := vrs1 rxs
    cases rv
    cases rx with
    | loc en =>
      split at h
      · rename_i q
        split at h
        · rename_i hb
          split at h
          · rename_i kk qk
            split at h
            · rename_i y qy
              obtain ⟨vs, h1, h2⟩ := R.lst en q
              obtain ⟨y', e1, r1⟩ := h2.get qy
              exact .inr ⟨_, vs, _, kk, y', rfl, rfl, h1, hb.1, hb.2, by rw [h2.length]; exact qk, e1, Post.put R en h1 (h2.eraseIdx kk) r1 h⟩
            · exact h.elim
          · exact h.elim
        · exact h.elim
      · exact h.elim
  · exact h.elim
end
end MP

set_option maxRecDepth 100000
namespace MP
open PySem PySem.Spec PyProof.Rows L2
section
variable {X : Cx} {W : WX} {a b c e o tg : Expr} {es rest : List Expr} {pos : Pos} {m n k : ME} {ml mk : ML} {t u : MB} {st : Stmt} {sts : List Stmt} {p q : MS} {kws : List Keyword}

/-! ### isinstance against built-in classes -/
def tyName (S : Ms) : PV → Option String
  | .non => some "NoneType"
  | .bl _ => some "bool"
  | .int _ => some "int"
  | .str _ => some "str"
  | .tup _ => some "tuple"
  | .rol _ => some "list"
  | .loc n => match S[n]? with | some (.lst _) => some "list" | some (.dK _) => some "dict" | some (.dT _) => some "dict" | _ => none
/-- is an object of the first class one of the second? -/
def isiB (a b : String) : Bool := a == b || (a == "bool" && b == "int")
theorem kit_int : ∀ a ∈ ["NoneType", "bool", "int", "str", "tuple", "list", "dict"], kitB a "int" = some (isiB a "int") := by decide +kernel
theorem kit_bool : ∀ a ∈ ["NoneType", "bool", "int", "str", "tuple", "list", "dict"], kitB a "bool" = some (isiB a "bool") := by decide +kernel
theorem kit_str : ∀ a ∈ ["NoneType", "bool", "int", "str", "tuple", "list", "dict"], kitB a "str" = some (isiB a "str") := by decide +kernel
theorem kit_tuple : ∀ a ∈ ["NoneType", "bool", "int", "str", "tuple", "list", "dict"], kitB a "tuple" = some (isiB a "tuple") := by decide +kernel
theorem kit_list : ∀ a ∈ ["NoneType", "bool", "int", "str", "tuple", "list", "dict"], kitB a "list" = some (isiB a "list") := by decide +kernel
/-- a class that isinstance may ask for, as the program names it -/
structure TyN (T : String) : Prop where
  kit : ∀ a ∈ ["NoneType", "bool", "int", "str", "tuple", "list", "dict"], kitB a T = some (isiB a T)
theorem ty_int : TyN "int" := ⟨kit_int⟩
theorem ty_bool : TyN "bool" := ⟨kit_bool⟩
theorem ty_str : TyN "str" := ⟨kit_str⟩
theorem ty_tuple : TyN "tuple" := ⟨kit_tuple⟩
theorem ty_list : TyN "list" := ⟨kit_list⟩
theorem tyx_ok {ρ : List Addr} {S : Ms} {H : Hp} {x : PV} {x' : V} {T : String} (R : HR X.K X.mg ρ S H) (r : VR X.K H ρ x x') (h : tyName S x = some T) :
    TyX X.K H x' (.type T) ∧ T ∈ ["NoneType", "bool", "int", "str", "tuple", "list", "dict"] := by
  cases r with
  | non => cases h; exact ⟨.base .non, by decide⟩
  | bl b => cases h; exact ⟨.base (.bl b), by decide⟩
  | int b => cases h; exact ⟨.base (.int b), by decide⟩
  | str b => cases h; exact ⟨.base (.str b), by decide⟩
  | tup hx ax => cases h; exact ⟨.base (.tup hx), by decide⟩
  | rol hx ax =>
    cases h
    refine ⟨?_, by decide⟩
    rcases hx with ⟨o, hx⟩ | ⟨o, its, nn, h1, h2, _⟩
    · exact .base (.frz hx)
    · exact .kList h1 h2
  | loc en =>
    simp only [tyName] at h
    split at h
    · rename_i q; cases h; obtain ⟨vs, h1, _⟩ := R.lst en q; exact ⟨.base (.lst h1), by decide⟩
    · rename_i q; cases h; obtain ⟨vs, h1, _⟩ := R.dK en q; exact ⟨.base (.dK h1), by decide⟩
    · rename_i q; cases h; obtain ⟨vs, h1, _⟩ := R.dT en q; exact ⟨.base (.dT h1), by decide⟩
    · cases h
def oIsi (Ts : List String) (x : PV) (S : Ms) : Out PV := match tyName S x with | some T => .ret (.bl (Ts.any fun U => isiB T U)) S | none => .fail
theorem s_isi {T : String} {pp p2 : Pos} {x2 : Str} (ht : TyN T) (ha : SE X W a m) (hm : X.mg "isinstance" = none) (hm2 : X.mg x2 = none) (hb : bootBuiltins x2 = some (.type T)) (hg : Gl X "isinstance" := by rfl) (hg2 : Gl X x2 := by rfl) (hn2 : x2 ≠ "__name__" := by decide) (hd2 : (x2 == ("__debug__" : Str)) = false := by decide)
    (he : starEach [a, .Name x2 p2] X.env = (false, eval a X.env) :: starEach [.Name x2 p2] X.env := by rfl) (he2 : starEach [.Name x2 p2] X.env = (false, eval (.Name x2 p2) X.env) :: starEach [] X.env := by rfl) (hpl : (backTo pos (starEach [.Name x2 p2] X.env)).any (·.1) = false := by rfl) :
    SE X W (.Call (.Name "isinstance" pp) [a, .Name x2 p2] [] pos) (m1 m (oIsi [T])) :=
  let ⟨ta, pa, qa⟩ := ha
  ⟨_, pe_callB call_isi hg hm (by decide +kernel) (pa_cons pa (pa_cons (pe_bltn (v := .ty T) hg2 hm2 hb rfl hn2 hd2) pa_nil he2) he) (by decide) (by decide) he hpl, fun ρ env S σ H Q R er h => by
    refine qa ρ env S σ H _ R er ?_
    unfold m1 at h
    cases e : m env S with
    | fail => rw [e] at h; exact h.elim
    | exc x S => rw [e] at h; exact h
    | ret x S1 =>
      rw [e] at h
      intro ρ1 x' H1 g1 R1 e1 r1
      have h := Post.mono g1 e1 h
      simp only [Out.bind, oIsi] at h
      cases q : tyName S1 x with
      | none => simp only [q] at h; exact h.elim
      | some U =>
        simp only [q] at h
        obtain ⟨h1, h2⟩ := tyx_ok R1 r1 q
        refine ⟨x', .ty T, .type U, .type T, isiB U T, rfl, .ty T, h1, kit_ty (ht.kit U h2), ?_⟩
        have e3 : ([T].any fun V => isiB U V) = isiB U T := by simp
        rw [e3] at h
        exact Post.now R1 (.bl _) h⟩
theorem s_isi2 {T T' : String} {pp p2 p3 tp : Pos} {kk} {x2 x3 : Str} (ht : TyN T) (ht' : TyN T') (ha : SE X W a m) (hm : X.mg "isinstance" = none) (hm2 : X.mg x2 = none) (hb : bootBuiltins x2 = some (.type T)) (hm3 : X.mg x3 = none) (hb3 : bootBuiltins x3 = some (.type T')) (hg : Gl X "isinstance" := by rfl) (hg2 : Gl X x2 := by rfl) (hg3 : Gl X x3 := by rfl) (hn2 : x2 ≠ "__name__" := by decide) (hd2 : (x2 == ("__debug__" : Str)) = false := by decide) (hn3 : x3 ≠ "__name__" := by decide) (hd3 : (x3 == ("__debug__" : Str)) = false := by decide)
    (he : starEach [a, .Tuple [.Name x2 p2, .Name x3 p3] kk tp] X.env = (false, eval a X.env) :: starEach [.Tuple [.Name x2 p2, .Name x3 p3] kk tp] X.env := by rfl) (he2 : starEach [.Tuple [.Name x2 p2, .Name x3 p3] kk tp] X.env = (false, eval (.Tuple [.Name x2 p2, .Name x3 p3] kk tp) X.env) :: starEach [] X.env := by rfl)
    (he3 : starEach [.Name x2 p2, .Name x3 p3] X.env = (false, eval (.Name x2 p2) X.env) :: starEach [.Name x3 p3] X.env := by rfl) (he4 : starEach [.Name x3 p3] X.env = (false, eval (.Name x3 p3) X.env) :: starEach [] X.env := by rfl)
    (hpl : (backTo pos (starEach [.Tuple [.Name x2 p2, .Name x3 p3] kk tp] X.env)).any (·.1) = false := by rfl) :
    SE X W (.Call (.Name "isinstance" pp) [a, .Tuple [.Name x2 p2, .Name x3 p3] kk tp] [] pos) (m1 m (oIsi [T, T'])) :=
  let ⟨ta, pa, qa⟩ := ha
  ⟨_, pe_callB call_isiT hg hm (by decide +kernel) (pa_cons pa (pa_cons (pe_tup (pa_cons (pe_bltn (v := .ty T) hg2 hm2 hb rfl hn2 hd2) (pa_cons (pe_bltn (v := .ty T') hg3 hm3 hb3 rfl hn3 hd3) pa_nil he4) he3)) pa_nil he2) he) (by decide) (by decide) he hpl, fun ρ env S σ H Q R er h => by
    refine qa ρ env S σ H _ R er ?_
    unfold m1 at h
    cases e : m env S with
    | fail => rw [e] at h; exact h.elim
    | exc x S => rw [e] at h; exact h
    | ret x S1 =>
      rw [e] at h
      intro ρ1 x' H1 g1 R1 e1 r1
      have h := Post.mono g1 e1 h
      simp only [Out.bind, oIsi] at h
      cases q : tyName S1 x with
      | none => simp only [q] at h; exact h.elim
      | some U =>
        simp only [q] at h
        refine ⟨by show 2 ≤ sizeLine; decide, fun tp htp => ?_⟩
        have R2 := R1.newTup (vs := [V.ty T, V.ty T']) htp
        have r2 := r1.mono (.new htp (o := .tup [V.ty T, V.ty T'])) (.refl _)
        obtain ⟨h1, h2⟩ := tyx_ok R2 r2 q
        have e3 : ([T, T'].any fun V => isiB U V) = (isiB U T || isiB U T') := by simp
        rw [e3] at h
        refine ⟨x', tp, [.ty T, .ty T'], .type U, [.type T, .type T'], isiB U T || isiB U T', rfl, upd_same, .cons (.ty T) (.cons (.ty T') .nil), h1, ?_, ?_⟩
        · exact kitAny_cons (kit_ty (ht.kit U h2)) (fun z => kitAny_cons (kit_ty (ht'.kit U h2)) (fun z' => by rw [z, z']; exact kitAny_nil) (fun z' => by rw [z']; simp)) (fun z => by rw [z]; rfl)
        · exact h _ _ _ (.refl _) R2 (.new htp) (.bl _)⟩

/-! ### list(range(..)), tuple(range(..)) -/
def rgP (a b : Int) : List PV := (List.range (b - a).toNat).map fun i => PV.int (a + (i : Nat))
theorem rg_ok {K : PySem.W.Frag} {H : Hp} {ρ : List Addr} (a b : Int) : VRs K H ρ (rgP a b) (rgV a b) := by
  unfold rgP rgV
  induction (List.range (b - a).toNat) with
  | nil => exact .nil
  | cons i r ih => exact .cons (.int _) ih
instance (a b : Int) : Decidable (RgOk a b) := by unfold RgOk; infer_instance
def oListRg1 : PV → Ms → Out PV
  | .int nn, S => if RgOk 0 nn ∧ (rgP 0 nn).length ≤ lim then .ret (.loc S.length) (S ++ [.lst (rgP 0 nn)]) else .fail
  | _, _ => .fail
def oTupRg1 : PV → Ms → Out PV
  | .int nn, S => if RgOk 0 nn ∧ (rgP 0 nn).length ≤ lim then .ret (.tup (rgP 0 nn)) S else .fail
  | _, _ => .fail
theorem s_listRg1 {pp p2 p3 : Pos} (hc : X.calm = true) (ha : SE X W a m) (hm : X.mg "list" = none) (hm2 : X.mg "range" = none) (hg : Gl X "list" := by rfl) (hg2 : Gl X "range" := by rfl)
    (na : starEach [.Call (.Name "range" p2) [a] [] p3] X.env = (false, eval (.Call (.Name "range" p2) [a] [] p3) X.env) :: starEach [] X.env := by rfl) (na2 : starEach [a] X.env = (false, eval a X.env) :: starEach [] X.env := by rfl) :
    SE X W (.Call (.Name "list" pp) [.Call (.Name "range" p2) [a] [] p3] [] pos) (m1 m oListRg1) :=
  let ⟨ta, pa, qa⟩ := ha
  ⟨_, pe_listRg hc hg hm (prg_1 hg2 hm2 pa na2) na, fun ρ env S σ H Q R er h => by
    refine un_ok (r := fun x H1 Q => ∃ nn, x = .int nn ∧ RgOk 0 nn ∧ ∀ q, H1 q = none → Q (.ref q) (upd H1 q (.lst (rgV 0 nn)))) qa (fun ρ S H σ Q x x' R r h => ?_) ρ env S σ H Q R er h
    unfold oListRg1 at h
    split at h
    · cases r
      split at h
      · rename_i hh; exact ⟨_, rfl, hh.1, fun q hq => new_list R (rg_ok _ _) h hq⟩
      · exact h.elim
    · exact h.elim⟩
theorem s_tupRg1 {pp p2 p3 : Pos} (hc : X.calm = true) (ha : SE X W a m) (hm : X.mg "tuple" = none) (hm2 : X.mg "range" = none) (hg : Gl X "tuple" := by rfl) (hg2 : Gl X "range" := by rfl)
    (na : starEach [.Call (.Name "range" p2) [a] [] p3] X.env = (false, eval (.Call (.Name "range" p2) [a] [] p3) X.env) :: starEach [] X.env := by rfl) (na2 : starEach [a] X.env = (false, eval a X.env) :: starEach [] X.env := by rfl) :
    SE X W (.Call (.Name "tuple" pp) [.Call (.Name "range" p2) [a] [] p3] [] pos) (m1 m oTupRg1) :=
  let ⟨ta, pa, qa⟩ := ha
  ⟨_, pe_tupRg hc hg hm (prg_1 hg2 hm2 pa na2) na, fun ρ env S σ H Q R er h => by
    refine un_ok (r := fun x H1 Q => ∃ nn, x = .int nn ∧ RgOk 0 nn ∧ ∀ q, H1 q = none → Q (.ref q) (upd H1 q (.tup (rgV 0 nn)))) qa (fun ρ S H σ Q x x' R r h => ?_) ρ env S σ H Q R er h
    unfold oTupRg1 at h
    split at h
    · cases r
      split at h
      · rename_i hh; exact ⟨_, rfl, hh.1, fun q hq => new_tup R (rg_ok _ _) h hq⟩
      · exact h.elim
    · exact h.elim⟩

/-! ### index, remove, count -/
/-! ### new dicts, d.get -/
end

/-! ### the law -/
theorem law_sp {K : PySem.W.Frag} {H : Hp} {aa : Addr} {ns : List Int} {G : List PV → Ms → Out PV} {mg : Str → Option Value} (hO : Only H) (hS : SqL K H aa (ns.map V.int)) (h : ∃ S', G [.rol (ns.map PV.int)] [] = .ret (.bl true) S') :
    spF K mg 1 G [.ref aa] H (fun v _ => v = .bl true) fun _ _ _ => False := by
  obtain ⟨S', h⟩ := h
  refine ⟨rfl, [], [], [.rol (ns.map PV.int)], ⟨rfl, List.nodup_nil, fun nn o e => by simp at e⟩, .cons (.rol ?_ (VRs.ints ns)) .nil, ?_⟩
  · rcases hS with (hS | ⟨o, hS⟩) | hS
    · rcases hO aa with z | ⟨o, xs, z⟩
      · rw [z] at hS; cases hS
      · rw [z] at hS; cases hS
    · exact .inl ⟨o, hS⟩
    · exact .inr hS
  · rw [h]
    intro ρ' v' H' _ _ _ r
    cases r; rfl
def spL (K : PySem.W.Frag) (G : List PV → Ms → Out PV) : Sp := fun vs H Q E => ∀ mg, spF K mg 1 G vs H Q E
theorem law_spL {K : PySem.W.Frag} {H : Hp} {aa : Addr} {ns : List Int} {G : List PV → Ms → Out PV} (hO : Only H) (hS : SqL K H aa (ns.map V.int)) (h : ∃ S', G [.rol (ns.map PV.int)] [] = .ret (.bl true) S') :
    spL K G [.ref aa] H (fun v _ => v = .bl true) fun _ _ _ => False := fun _ => law_sp hO hS h
theorem cx_end {P : Program} {w : World} (H : Hp) (s : Shared) (e : Value) (s' : Shared) (h : L2.CX P w [] H s (fun _ _ _ => False) e s') : False := by
  obtain ⟨_, _, _, _, _, _, _, _, _, _, _, _, z⟩ := h
  exact z
end MP

set_option maxRecDepth 100000
namespace MP
open PySem PySem.Spec PyProof.Rows L2
theorem hu65 {A : Around} {k : Nat} (hr : Room k A) : A.units + 65 < cLine := by have := hr.un; omega
theorem _root_.L2.Fun.kbn {K : PySem.W.Frag} {x qual : Str} {st : Stmt} {f : Addr} {fd : FuncData} {ps : List Str} {nn : Nat} (is : List Nat) {ks : List Str} (F : Fun K x qual st f fd)
    (h : ∀ (kV doc pm : Value) (an : Option Addr) (cdv ct : Value) (us ws : List Value), us.length = nn → ws.length = ks.length → bindArgs (PySem.W.fnOf x qual (defArgs st) (defBody st) (defScope st) .none kV doc pm an cdv ct) ⟨us, ks.zip ws⟩ = pure (ps.zip (gOf .none is us ws))) :
    KBn K fd ps nn ks (gOf .none is) (gOf .non is) := by
  obtain ⟨oc, od, kV, doc, pm, an, cdv, ct, osl, rfl, lk, hcd⟩ := F.ex
  exact kbn_mk is (h kV doc pm an cdv ct)
section
variable {X : Cx} {W : WX} {a b c e o tg : Expr} {es rest : List Expr} {pos : Pos} {m n k : ME} {ml mk : ML} {t u : MB} {st : Stmt} {sts : List Stmt} {p q : MS} {kws : List Keyword}
end
end MP

set_option maxRecDepth 100000
/-! enumerate over zip of two lists: the pair of zip may still be out, or may have gone -/
namespace PySem
open Sem (wp)
abbrev ZipAt (h : Heap) (z TI TO : Addr) (f0 : Value) (b1 : Bool) : Prop :=
  h.get? z = some { cls := .type "zip", dict := none, data := .fields #[f0, .bool b1, .bool false, .ref TI, .ref TO], slots := #[] }
section
variable {prog : Program} {w : World} {A : Around} {E : Value → Shared → Prop} {s : Shared}
/-- how zip stands at the turn k -/
def ZSt (h : Heap) (z TI TO i1 i2 l1 l2 : Addr) (k : Nat) : Prop := ∃ f0 b1 a b, ZipAt h z TI TO f0 b1 ∧ (f0 = .none ∨ ∃ T : Addr, f0 = rawInt T) ∧ IsPair h TI (.ref i1) (.ref i2) ∧ IsPair h TO a b ∧ h.IsListIter i1 l1 k ∧ h.IsListIter i2 l2 k
theorem ZSt.keep {h h' : Heap} {z TI TO i1 i2 l1 l2 : Addr} {k : Nat} (st : ZSt h z TI TO i1 i2 l1 l2 k) (kp : ∀ b, b = z ∨ b = TI ∨ b = TO ∨ b = i1 ∨ b = i2 → ∀ o, h.get? b = some o → h'.get? b = some o) : ZSt h' z TI TO i1 i2 l1 l2 k := by
  obtain ⟨f0, b1, a, b, hz, h0, hTI, hTO, h1, h2⟩ := st
  exact ⟨f0, b1, a, b, kp z (by simp) _ hz, h0, kp TI (by simp) _ hTI, kp TO (by simp) _ hTO, h1.at fun o q => kp i1 (by simp) o q, h2.at fun o q => kp i2 (by simp) o q⟩
end
end PySem

set_option maxRecDepth 100000
namespace MP
open PySem PySem.Spec PyProof.Rows L2
section
variable {X : Cx} {W : WX} {a b : Expr} {pos : Pos} {ml : ML}
end
end MP

set_option maxRecDepth 100000
namespace MP
open PySem PySem.Spec PyProof.Rows L2
/-! ### defs that ask for a stack without open reprs -/
/-- a def's promise where nothing is being shown -/
structure FnG (P : Program) (w : World) (K : PySem.W.Frag) (mg : Str → Option Value) (base : Heap) (k : Nat) (f : Addr) (fd : FuncData) (ps : List Str) (sp : Sp) : Prop where
  len : ∀ vs H Q E, sp vs H Q E → vs.length = ps.length
  run : ∀ (A : Around) (outer : List Env) (s : Shared) (H : Hp) (args : Args) (us : List Value) (vs : List V) (Q : VK) (E : XK), A.guards = some [] → Room k A → Env0 P w K mg base A outer s H → BindsTo s fd args (ps.zip us) → Vals vs us → sp vs H Q E →
    codeAny (model P w) A (.call (.ref f) args) (CR (L2.CX P w) outer P w H s Q E) s
theorem FnG.imp {P : Program} {w : World} {K : PySem.W.Frag} {mg : Str → Option Value} {base : Heap} {k : Nat} {f : Addr} {fd : FuncData} {ps : List Str} {sp sp' : Sp} (F : FnG P w K mg base k f fd ps sp) (h : ∀ vs H Q E, sp' vs H Q E → sp vs H Q E) : FnG P w K mg base k f fd ps sp' :=
  ⟨fun vs H Q E q => F.len vs H Q E (h _ _ _ _ q), fun A outer s H args us vs Q E g hr he hb hv hs => F.run A outer s H args us vs Q E g hr he hb hv (h _ _ _ _ hs)⟩
theorem fn_okG {P : Program} {w : World} {K : PySem.W.Frag} {mg : Str → Option Value} {base : Heap} {x qual : Str} {sst : Stmt} {f : Addr} {fd : FuncData} {N ps : List Str} {lv nl : Nat} {mm : MS} (F : Fun K x qual sst f fd) (Sc : FnScope N ps (defScope sst)) (hl : N.length = ps.length + nl)
    (hbody : ∀ (cdv : Value) (A : Around) (outer : List Env) (s : Shared) (H : Hp) (E : XK), A.guards = some [] → Room lv (A.deeper (envOfC qual (defScope sst) s.heap.objs.size f cdv)) →
      SSs (cxOf (L2.CX P w) P w K mg base N qual (defScope sst) f cdv A outer s H E) (fun c d _ H => E c d H) (defBody sst) mm) : FnG P w K mg base (lv + 1) f fd ps (spF K mg ps.length (mFn nl mm)) := by
  obtain ⟨oc, od, kV, doc, pm, an, cdv, ct, osl, rfl, lk, hcd⟩ := F.ex
  have len : ∀ vs H Q E, spF K mg ps.length (mFn nl mm) vs H Q E → vs.length = ps.length := fun vs H Q E h => h.1
  refine ⟨len, fun A outer s H args us vs Q E gd hr e0 hb r hsp => ?_⟩
  have hvl := len _ _ _ _ hsp
  have KX : K.In s.heap := e0.mod.kin.keeps fun b o e => (e0.bs b o e).1
  have nolim : s.heap.NoLimit := e0.mod.nolimit.keeps fun b o e => (e0.bs b o e).1
  have kinds : ∀ y ∈ ps.zip us, (defScope sst).names.lookup y.1 = some .local ∨ ((defScope sst).names.lookup y.1 = some .cell ∧ ((cellsFrom (s.heap.objs.size + 1) (defScope sst).names []).lookup y.1).isSome = true) := fun ⟨n, v⟩ hy =>
    (Sc.par n (List.of_mem_zip hy).1).imp id fun q => ⟨q, PySem.W.cellsFrom_some _ _ _ (.inl q)⟩
  refine codeAny_call_function hr.depth (KX _ _ lk) rfl Sc.co Sc.gen rfl (PySem.W.codeRec_of KX hcd) (hb _ _ _ _ ?_)
  refine wpAny_newFunctionEnv_cells Sc.kind kinds fun env he s1 x => ?_
  subst he
  refine ⟨nolim.keeps x.toInCall.keep, codeAny_func ?_⟩
  obtain ⟨hv, ρ, S, args', R, r', hp⟩ := hsp
  obtain ⟨t, pt, qt⟩ := hbody cdv A outer s H E gd (hr.deeper _)
  have hq : t { nx := fun _ H' => Q .non H', rt := Q } (start N vs) H := by
    refine qt ρ (args'.map some ++ List.replicate nl none) S _ H _ R (start_er r' (by rw [hl, hv])) ?_
    unfold mFn at hp
    cases e : mm (args'.map some ++ List.replicate nl none) S with
    | nx env1 S1 => simp only [e] at hp; exact fun ρ1 σ1 H1 g1 R1 e1 er1 => hp ρ1 _ H1 g1 R1 e1 .non
    | rt v S1 => simp only [e] at hp; exact fun ρ1 v1 H1 g1 R1 e1 r1 => hp ρ1 v1 H1 g1 R1 e1 r1
    | exc env1 xx S1 => simp only [e] at hp; exact fun ρ1 σ1 C d H1 g1 R1 e1 er1 hc xr => hp ρ1 C d H1 g1 R1 e1 hc xr
    | bk env1 S1 => simp only [e] at hp; exact hp.elim
    | ct env1 S1 => simp only [e] at hp; exact hp.elim
    | fail => simp only [e] at hp; exact hp.elim
  have I0 : Inv (cxOf (L2.CX P w) P w K mg base N qual (defScope sst) f cdv A outer s H E) [] (start N vs) H s1 := inv_start Sc hr.hd e0 hvl r x
  refine wpAny_mono (pt.run [] s1 (start N vs) H _ I0 hq) (fun fl s' hs => ?_) fun e s' hs => hs
  have done : ∀ {σ' : L2.St} {H' : Hp} {v : V} {u : Value}, Inv (cxOf (L2.CX P w) P w K mg base N qual (defScope sst) f cdv A outer s H E) [] σ' H' s' → RelV v u → Q v H' → CE outer P w H s Q u s' :=
    fun {σ' H' v u} J rv q => ⟨v, H', J.os, J.bare, J.base, J.hok, rv, q⟩
  cases fl with
  | ret u => obtain ⟨v, σ', H', J, rv, q⟩ := hs; exact done J rv q
  | next => obtain ⟨σ', H', J, q⟩ := hs; exact done (v := V.non) (u := Value.none) J rfl q
  | brk => obtain ⟨_, _, _, q⟩ := hs; exact q.elim
  | cont => obtain ⟨_, _, _, q⟩ := hs; exact q.elim
section
variable {X : Cx} {W : WX} {a e : Expr} {es : List Expr} {pos : Pos} {m : ME} {ml : ML}
theorem s_callG {x : Str} {pp : Pos} {f : Addr} {fd : FuncData} {ps : List Str} {lv np : Nat} {G : List PV → Ms → Out PV} (gd : X.A.guards = some []) (F : FnG X.prog X.w X.K X.mg X.base lv f fd ps (spF X.K X.mg np G)) (hnp : ps.length = np) (hr : Room lv X.A)
    (hm : X.mg x = some (.ref f)) (hk : PySem.W.keepIn X.K (.ref f) = true) (hb : Binds X.K fd ps []) (tk : Takes X W) (ha : SA X W (e :: es) ml) (hargs : (e :: es).length = np := by rfl) (hg : Gl X x := by rfl)
    (hdb : (x == ("__debug__" : Str)) = false := by decide) (he : starEach (e :: es) X.env = (false, eval e X.env) :: starEach es X.env := by rfl) (hpl : (backTo pos (starEach es X.env)).any (·.1) = false := by rfl) :
    SE X W (.Call (.Name x pp) (e :: es) [] pos) (mL ml (cl np G)) := by
  obtain ⟨t, pa, qa⟩ := ha
  have pe : PE X (.Call (.Name x pp) (e :: es) [] pos) (tCallSD (spF X.K X.mg np G) [] (WE W) t) := by
    refine ⟨fun pins s σ H Q I h => ?_⟩
    refine wpAny_Call_Name_kw (ld_glob I hg hm ?_ hdb)
    refine PySem.W.callWith_K (h₀ := X.base) I.ok.mod.kin hk (thn (pa.run pos pins s σ H _ I h) fun us s1 ⟨vs, H1, I1, r, q⟩ => ⟨I1.kIn, ?_⟩) he hpl
    have q : spF X.K X.mg np G (vs ++ []) H1 Q (WE W σ) := q
    rw [List.append_nil] at q
    have hlen : us.length = ps.length := by rw [← r.length]; exact F.len _ _ _ _ q
    have hb' : BindsTo s1 fd ⟨us, []⟩ (ps.zip us) := by
      have := hb s1 us I1.kIn (by rw [List.append_nil]; exact hlen)
      rwa [List.append_nil] at this
    refine wpAny_call (codeAny_mono (F.run X.A X.stack s1 H1 ⟨us, []⟩ us vs Q (WE W σ) gd hr I1.env0 hb' r q) fun r s' hq => ?_)
    cases r with
    | error ex => exact passAt tk σ pins H1 s1 ex s' I1 hq
    | ok fl =>
      cases fl with
      | ret u => exact I1.after hq
      | next => exact hq.elim
      | brk => exact hq.elim
      | cont => exact hq.elim
  exact ⟨_, pe, fun ρ env S σ H Q R er h =>
    args_ok (r := fun vs H1 Q => spF X.K X.mg np G (vs ++ []) H1 Q (WE W σ)) qa ρ env S σ H Q (fun ρ' S' H' x x' g e R' r h' => by
      unfold cl at h'
      split at h'
      · rename_i hl
        rw [List.append_nil]
        refine ⟨by rw [r.length]; exact hl, ρ', S', x, R', r, ?_⟩
        cases q : G x S' with
        | fail => rw [q] at h'; exact h'.elim
        | ret v S1 => rw [q] at h'; exact h'
        | exc xx S1 => rw [q] at h'; exact h'
      · exact h'.elim) R er h⟩
/-! ### repr of what reads as data -/
def rReprD (K : PySem.W.Frag) : List V → Hp → VK → Prop := fun xs H Q => ∃ p d, xs = [V.ref p] ∧ Dp K H (V.ref p) d ∧ SeqAt.shaped d = true ∧ d.showable = true ∧ d.shown.length ≤ sizeLine ∧ Q (.str d.shown) H
theorem call_reprD (gd : X.A.guards = some []) (hu : X.A.units + 65 < cLine) : CallR X (.builtin "repr") (rReprD X.K) := by
  intro pins s σ H xs us Q I r h
  obtain ⟨p, d, rfl, hd, hsh, hsw, hsz, q⟩ := h
  obtain ⟨u, rfl, ru⟩ := vals1 r
  obtain ⟨as, hr⟩ := hd.reads I d _ _ ru
  cases ru
  have hdep := SeqAt.depth_of_shaped hsh
  refine repr_of_reads' hr hsw (PyData.noDict_hsm (PyData.hasDict_of_canLay d (SeqAt.canLay_of_shaped hsh))) gd (by omega) (fun b o z => z) (fun h' u tk hk => ?_) hsz
  exact ⟨.str d.shown, H, I.kept (t' := tk) hk, ⟨_, rfl⟩, q⟩
def isSeq : PV → Bool
  | .tup _ => true
  | .loc _ => true
  | .rol _ => true
  | _ => false
def oRepr : List PV → Ms → Out PV
  | [x], S => (match isSeq x, toD S 12 x with
    | true, some d => if SeqAt.shaped d && d.showable && decide (d.shown.length ≤ lim) then .ret (.str d.shown) S else .fail
    | _, _ => .fail)
  | _, _ => .fail
theorem o_repr : OL X W oRepr (rReprD X.K) := by
  intro ρ S H σ Q x x' R r h
  unfold oRepr at h
  split at h
  · rename_i xx
    split at h
    · rename_i d hq e
      split at h
      · rename_i hc
        simp only [Bool.and_eq_true, decide_eq_true_eq] at hc
        obtain ⟨v, rfl, rv⟩ := vrs1 r
        have dp := toD_ok R 12 xx v d rv e
        have hp : ∃ p, v = V.ref p := by
          cases rv with
          | tup _ _ => exact ⟨_, rfl⟩
          | loc _ => exact ⟨_, rfl⟩
          | rol _ _ => exact ⟨_, rfl⟩
          | non => cases hq
          | bl _ => cases hq
          | int _ => cases hq
          | str _ => cases hq
        obtain ⟨p, rfl⟩ := hp
        exact ⟨p, d, rfl, dp, hc.1.1, hc.1.2, lim_le hc.2, Post.now R (.str _) h⟩
      · exact h.elim
    · exact h.elim
  · exact h.elim
end
/-! ### the law's call, from a promise that asks for such a stack -/
theorem law_callG {P : Program} {w : World} {K : PySem.W.Frag} {mg mb : Str → Option Value} {k : Nat} {fa a : Addr} {fd : FuncData} {x : Str} {sp : Sp} {s1 : Shared} {vs : List Value} {ns : List Int}
    (KX : K.In s1.heap) (hns : s1.heap.Ns mainGlobals mg) (hb : s1.heap.Ns builtinsNs mb) (hbb : ∀ x : Str, x ≠ "__name__" → mb x = bootBuiltins x) (hlim : s1.heap.NoLimit) (hg : s1.gens = #[])
    (ha : s1.heap.get? a = some { cls := .type "list", data := .seq vs.toArray }) (hi : IntsAre vs ns) (hl : ns.length ≤ sizeLine) (hr : Room k callerA)
    (F : ∀ base : Heap, K.In base → base.Ns mainGlobals mg → FnG P w K mg base k fa fd [x] sp) (hbind : ∀ (s : Shared) (u : Value), BindsTo s fd ⟨[u], []⟩ [(x, u)])
    (hsp : ∀ H : Hp, Only H → SqL K H a (ns.map V.int) → sp [.ref a] H (fun v _ => v = .bl true) fun _ _ _ => False)
    (hCX : ∀ H e s', L2.CX P w [] H s1 (fun _ _ _ => False) e s' → False) :
    codeAny (model P w) callerA (.call (.ref fa) ⟨[.ref a], []⟩) (fun r s' => r = .ok (.ret (.bool true)) ∧ OldK s1.heap s'.heap ∧ s'.os = s1.os ∧ AllBare s'.gens) s1 := by
  have rv := vals_ints hi
  have lenV := hi.length
  have core : ∀ H : Hp, Only H → SqL K H a (ns.map V.int) → HOk P w H s1.heap → (∀ b, H b ≠ none → b = a) → (H a ≠ none → K.lookup a = none) →
      codeAny (model P w) callerA (.call (.ref fa) ⟨[.ref a], []⟩) (fun r s' => r = .ok (.ret (.bool true)) ∧ OldK s1.heap s'.heap ∧ s'.os = s1.os ∧ AllBare s'.gens) s1 := by
    intro H hO hS hok hA hK
    have only_a : ∀ {b : Addr}, b ≠ a → H b = none := fun {b} n => Classical.byContradiction fun z => n (hA b z)
    have under : ∀ {b : Addr} {o : Obj}, s1.heap.get? b = some o → H b = none → (hidT s1.heap H).get? b = some o := fun e n => hidT_get e n
    have dicts : ∀ {b : Addr} {o : Obj} {es : Array DictEntry} {ep : Nat}, s1.heap.get? b = some o → o.data = .dict es ep → H b = none := fun {b o es ep} e d =>
      only_a fun e' => by
        subst e'
        rw [ha] at e; cases e
        exact nomatch (show Data.seq vs.toArray _ = Data.dict es ep from d)
    have nsK : ∀ {b : Addr} {m : Str → Option Value}, s1.heap.Ns b m → (hidT s1.heap H).Ns b m := fun {b m} ⟨o, es, ep, e, d, r⟩ => ⟨o, es, ep, under e (dicts e d), d, r⟩
    have inK : K.In (hidT s1.heap H) := fun b o e => under (KX b o e) (Classical.byContradiction fun z => by
      obtain rfl := hA b z
      rw [hK z] at e; cases e)
    obtain ⟨mc, c1, c2⟩ := hlim
    have e0 : Env0 P w K mg (hidT s1.heap H) callerA [] s1 H := ⟨rfl, ⟨inK, nsK hns, ⟨mb, nsK hb, hbb⟩, ⟨mc, nsK c1, c2⟩⟩, fun b o e => of_hidT e, Nat.le_of_eq (hidT_size _ _), trivial, fun b hb => absurd (show b ∈ ([] : List Addr) from hb) (by simp), hok, .of_eq hg⟩
    refine codeAny_mono ((F _ inK (nsK hns)).run callerA [] s1 H ⟨[.ref a], []⟩ [.ref a] [.ref a] _ _ rfl hr e0 (hbind s1 (.ref a)) (.cons rfl .nil) (hsp H hO hS)) fun r s' h => ?_
    cases r with
    | error e => exact (hCX H e s' h).elim
    | ok fl => cases fl with
      | next => exact h.elim
      | brk => exact h.elim
      | cont => exact h.elim
      | ret u =>
        obtain ⟨v, H', os, bare, un, hok', r', q⟩ := h
        obtain rfl : v = .bl true := q
        obtain rfl : u = Value.bool true := r'
        refine ⟨rfl, OldK.of_keep fun b o e => ?_, os, bare⟩
        cases q : H b with
        | none => exact un.keep b o e q (fun z => absurd (show b ∈ ([] : List Addr) from z) (by simp)) (by simp)
        | some u =>
          rcases hO b with z | ⟨ob, xs, z⟩
          · rw [q] at z; cases z
          · obtain ⟨e1, _⟩ := hok b _ z
            obtain ⟨e2, _⟩ := hok' b _ (un.frzs b ob _ z)
            rw [e] at e1; cases e1
            exact e2
  cases hk : K.lookup a with
  | some o =>
    have e := KX a o hk
    rw [ha] at e; cases e
    exact core (fun _ => none) (fun _ => .inl rfl) (.inr ⟨_, vs.toArray, _, hk, rfl, rfl, rfl, by rw [List.size_toArray, lenV]; exact hl, by simpa using rv⟩) (fun b u z => nomatch (show (none : Option HO) = some u from z)) (fun b z => absurd rfl z) fun z => absurd rfl z
  | none =>
    have here : (fun b => if b = a then some (HO.frz { cls := .type "list", data := .seq vs.toArray } (.lst (ns.map V.int))) else none : Hp) a = _ := if_pos rfl
    refine core (fun b => if b = a then some (.frz { cls := .type "list", data := .seq vs.toArray } (.lst (ns.map V.int))) else none) (fun b => ?_) (.inl (.inr ⟨_, here⟩)) (fun b u z => ?_) (fun b z => Classical.byContradiction fun n => z (if_neg n)) fun _ => hk
    · by_cases hb : b = a
      · exact .inr ⟨_, _, if_pos hb⟩
      · exact .inl (if_neg hb)
    · by_cases hb : b = a
      · cases (if_pos hb).symm.trans z
        subst hb
        exact ⟨ha, by rw [List.length_map]; exact hl, vs, _, rv, ha⟩
      · cases (if_neg hb).symm.trans z
theorem walk_G {l : PySem.W.OpenLaw} {n k : Nat} {q : Program} {loose : List Str} {XP : (Str → Option Value) → Heap → Prop} {YP : World → Heap → Prop} {d : DefRec} {K : Params → PySem.W.Frag} {sp : World → Sp} {x : Str}
    (hn : l.most = some n) (hn2 : n ≤ sizeLine) (hdf : d.params.defaults = []) (hr : Room k callerA) (hY : ∀ (w : World) (h : Heap), YP w h → (K w.params).In h)
    (F : ∀ (w : World) (mg : Str → Option Value) (fa : Addr) (h : Heap), (K w.params).In h → h.Ns mainGlobals mg → mg d.name = some (.ref fa) →
      ∃ fd : FuncData, (∀ (s : Shared) (u : Value), BindsTo s fd ⟨[u], []⟩ [(x, u)]) ∧ ∀ base : Heap, (K w.params).In base → base.Ns mainGlobals mg → FnG l.prog w (K w.params) mg base k fa fd [x] (sp w))
    (hsp : ∀ (w : World) (H : Hp) (a : Addr) (ns : List Int), ns.length ≤ n → Only H → SqL (K w.params) H a (ns.map V.int) → sp w [.ref a] H (fun v _ => v = .bl true) fun _ _ _ => False) :
    PySem.W.WalkO q loose XP YP l.row.toRowW d [] (fun f vs => PySem.call f vs) := by
  refine Att.attach_call hn hdf fun w s0 s1 mg mb fa o pm cd doc a vs ns G Y ho hd hcd hmg hobj hints hlen hg => ?_
  have KX := hY w _ Y
  obtain ⟨fd, hb, hF⟩ := F w mg fa _ KX G.T.g hmg
  exact law_callG KX G.T.g G.T.b G.T.builtins G.T.nolimit hg hobj hints (Nat.le_trans hlen hn2) hr hF hb (fun H hO hS => hsp w H a ns hlen hO hS) fun H e s' => cx_end H s1 e s'
end MP

set_option maxRecDepth 100000
namespace MP
open PySem PySem.Spec PyProof.Rows L2
open PySem.W (EachIs AllAlike Sortable dataLe alike)
/-! ### sorted(x): what is collected, sorted as data -/
mutual
theorem reads_lt {h : Heap} : ∀ {v : Value} {d : PyData} {as : List Addr}, PySem.W.alike d d = true → Reads h v d as → ∀ b ∈ as, b < h.objs.size
  | _, .none, _, _, r, b, hb => by cases r; cases hb
  | _, .bool _, _, _, r, b, hb => by cases r; cases hb
  | _, .int _, _, _, r, b, hb => by cases r; cases hb
  | _, .str _, _, _, r, b, hb => by cases r; cases hb
  | _, .list xs, _, ha, r, b, hb => by
    cases r with
    | list h1 h2 h3 h4 =>
      rcases List.mem_cons.mp hb with z | z
      · rw [z]; exact Heap.lt_size h1
      · exact readsAll_lt (by simpa [PySem.W.alike] using ha) h4 b z
  | _, .tuple xs, _, ha, r, b, hb => by
    cases r with
    | tuple h1 h2 h3 h4 => exact readsAll_lt (by simpa [PySem.W.alike] using ha) h4 b hb
  | _, .dict _, _, ha, _, _, _ => absurd ha (by simp [PySem.W.alike])
theorem readsAll_lt {h : Heap} : ∀ {vs : List Value} {ds : List PyData} {as : List Addr}, PySem.W.alikeAll ds ds = true → ReadsAll h vs ds as → ∀ b ∈ as, b < h.objs.size
  | _, [], _, _, r, b, hb => by cases r; cases hb
  | _, d :: ds, _, ha, r, b, hb => by
    cases r with
    | cons h1 h2 =>
      have q := PySem.W.alike_all_cons ha
      rcases List.mem_append.mp hb with z | z
      · exact reads_lt q.1 h1 b z
      · exact readsAll_lt q.2 h2 b z
end
section
variable {prog : Program} {w : World} {A : Around} {E : Value → Shared → Prop} {s : Shared} {β : Type} {enc : β → PyData} {R : Value → β → Prop} {u : Value}
end
end MP

set_option maxRecDepth 100000
namespace MP
open PySem PySem.Spec PyProof.Rows L2 PpSet
/-! ### {e for x in it if ..}: over any kind of set that set.add serves -/
section
variable {X : Cx}
end
end MP

set_option maxRecDepth 100000
namespace MP
open PySem PySem.Spec PyProof.Rows L2
open PySem.W (EachIs AllAlike Sortable dataLe alike)
section
variable {X : Cx}
end
end MP

set_option maxRecDepth 100000
namespace MP
open PySem PySem.Spec PyProof.Rows L2
section
variable {P : Program} {w : World} {A : Around} {E : Value → Shared → Prop} {s : Shared}
end
end MP

set_option maxRecDepth 100000
namespace MP
open PySem PySem.Spec PyProof.Rows L2
open PySem.W (EachIs AllAlike Sortable dataLe alike keyToks keyToksAll)
/-! ### the order of lists of ints -/
def llt : List Int → List Int → Bool
  | [], [] => false
  | [], _ :: _ => true
  | _ :: _, [] => false
  | x :: xs, y :: ys => decide (x < y) || (decide (x = y) && llt xs ys)
def lle (a b : List Int) : Bool := !llt b a
/-- lists of ints in ascending order -/
def sortL (ks : List (List Int)) : List (List Int) := ks.mergeSort lle
/-! ### each once -/
def dd {α : Type} [DecidableEq α] : List α → List α
  | [] => []
  | x :: xs => x :: (dd xs).filter fun y => decide (y ≠ x)
section
variable {α : Type} [DecidableEq α]
end
/-! ### sorted(set(x)), len(set(x)), sorted({..}) -/
abbrev tupP (k : List Int) : PV := .tup (k.map PV.int)
section
variable {X : Cx} {W : WX} {K : PySem.W.Frag} {mg : Str → Option Value} {H H' : Hp} {ρ ρ' : List Addr} {S : Ms}
variable {a e : Expr} {m : ME} {p1 p2 p3 p4 : Pos}
end
end MP

set_option maxRecDepth 100000
namespace MP
open PySem PySem.Spec PyProof.Rows L2
section
variable {X : Cx} {W : WX} {H H' : Hp} {ρ ρ' : List Addr} {S : Ms} {a e : Expr} {m : ME} {p1 p2 p3 p4 pos : Pos}
def rLenT (K : PySem.W.Frag) (P : Program) (w : World) : List V → Hp → VK → Prop := fun xs H Q => ∃ (a : Addr) (L : List (Addr × List Int)), xs = [V.ref a] ∧ H a = some (SetTO P w a L) ∧ (∀ p ∈ L, SqT K H p.1 (p.2.map V.int)) ∧ ((L.map (·.2)).Nodup → Q (.int L.length) H)
/-! ### sorted({e for x in it if ..}) -/
end
theorem lt_of_getS {S : Ms} {n : Nat} {o : Ob} (h : S[n]? = some o) : n < S.length := (List.getElem?_eq_some_iff.mp h).1
/-! what new objects were made is forgotten -/
section
variable {K : PySem.W.Frag} {mg : Str → Option Value} {H H1 : Hp} {ρ ρ1 : List Addr}
mutual
theorem VR.cut (g : Grow ρ1 ρ) : ∀ {x : PV} {v v1 : V}, VR K H ρ x v → VR K H1 ρ1 x v1 → VR K H ρ1 x v
  | _, _, _, .non, _ => .non
  | _, _, _, .bl b, _ => .bl b
  | _, _, _, .int b, _ => .int b
  | _, _, _, .str b, _ => .str b
  | _, _, _, .loc h, .loc h1 => .loc (by rw [g _ _ h1] at h; rw [← h]; exact h1)
  | _, _, _, .tup a h, .tup _ h1 => .tup a (VRs.cut g h h1)
  | _, _, _, .rol a h, .rol _ h1 => .rol a (VRs.cut g h h1)
theorem VRs.cut (g : Grow ρ1 ρ) : ∀ {x : List PV} {v v1 : List V}, VRs K H ρ x v → VRs K H1 ρ1 x v1 → VRs K H ρ1 x v
  | _, _, _, .nil, _ => .nil
  | _, _, _, .cons h t, .cons h1 t1 => .cons (VR.cut g h h1) (VRs.cut g t t1)
end
theorem KVR.cut {κ : Type} (g : Grow ρ1 ρ) : ∀ {xs : List (κ × PV)} {ys zs : List (κ × V)}, KVR K H ρ xs ys → KVR K H1 ρ1 xs zs → KVR K H ρ1 xs ys
  | _, _, _, .nil, _ => .nil
  | _, _, _, .cons h t, .cons h1 t1 => .cons ⟨h.1, h.2.cut g h1.2⟩ (KVR.cut g t t1)
theorem OR.cut (g : Grow ρ1 ρ) {o : Ob} {u u1 : HO} (h : OR K mg H ρ o u) (h1 : OR K mg H1 ρ1 o u1) : OR K mg H ρ1 o u := by
  induction h generalizing u1 with
  | lst h => cases h1 with | lst h1 => exact .lst (h.cut g h1)
  | dK h => cases h1 with | dK h1 => exact .dK (h.cut g h1)
  | dT h => cases h1 with | dT h1 => exact .dT (h.cut g h1)
  | exn c q d h => cases h1 with
    | exn _ _ _ h1 => exact .exn c q d (h.cut g h1)
    | exn0 _ _ => cases h with | nil => exact .exn c q d .nil
  | exn0 c q => exact .exn0 c q
  | lk h ih => cases h1 with | lk h1 => exact .lk (ih h1)
  | xo h => exact .xo h
  | dead h => exact .dead h
theorem HR.cut {S1 S : Ms} (R1 : HR K mg ρ1 S1 H1) (R : HR K mg ρ S H) (g : Grow ρ1 ρ) (hS : ∀ n, n < S1.length → S[n]? = S1[n]?) : HR K mg ρ1 S1 H :=
  ⟨R1.len, R1.nd, fun n o e => by
    obtain ⟨a, ho, h1, h2, h3⟩ := R1.at_ n o e
    obtain ⟨a', ho', q1, q2, q3⟩ := R.at_ n o (by rw [hS n (lt_of_getS e)]; exact e)
    have : a' = a := by have := g n a h1; rw [q1] at this; exact Option.some.inj this
    subst this
    exact ⟨a', ho', h1, q2, q3.cut g h3⟩⟩
end
section
variable {X : Cx} {W : WX} {H H' : Hp} {ρ ρ' : List Addr} {S : Ms} {a e : Expr} {m : ME} {t : MB} {p1 p2 p3 p4 pos : Pos}
/-- the kind of a set: how the object at D stands for the items so far -/
structure SetKd (X : Cx) (xs : List PV) (ob : Addr → HO) (radd : V → List V → Hp → VK → Prop) where
  st : Addr → Hp → List PV → HO → Prop
  st0 : ∀ D H, st D H [] (ob D)
  soft : ∀ {D H acc u}, st D H acc u → Soft u
  mono : ∀ {D H H' acc u}, Ext H H' → st D H acc u → st D H' acc u
  add : ∀ {D H ρ acc y y' u} {Nx : Hp → Prop}, st D H acc u → (∃ rest, xs = (acc ++ [y]) ++ rest) → VR X.K H ρ y y' → H D = some u → (∀ u', st D H (acc ++ [y]) u' → Nx (upd H D u')) → radd (.ref D) [y'] H (fun _ H5 => Nx H5)
end
end MP

set_option maxRecDepth 100000
namespace MP
open PySem PySem.Spec PyProof.Rows L2
section
variable {X : Cx} {W : WX} {H H' : Hp} {ρ ρ' : List Addr} {S : Ms} {e : Expr} {m : ME} {t : MB} {tg : Expr} {p1 p2 p3 p4 pos : Pos}
end
end MP

set_option maxRecDepth 100000
namespace MP
open PySem PySem.Spec PyProof.Rows L2
section
variable {X : Cx} {W : WX} {H H' : Hp} {ρ ρ' : List Addr} {S : Ms} {kx e : Expr} {mk m : ME} {t : MB} {tg : Expr} {pos : Pos}
/-! ### {k: e for x in it if ..}, the keys ints or texts -/
end
end MP

set_option maxRecDepth 100000
namespace PySem
open Sem (wp)
section
variable {prog : Program} {w : World} {A : Around} {E : Value → Shared → Prop} {s : Shared}
end
end PySem
namespace MP
open PySem PySem.Spec PyProof.Rows L2
/-! ### enumerate(a tuple) -/
section
variable {X : Cx} {W : WX} {H H' : Hp} {ρ ρ' : List Addr} {S : Ms} {x : Str} {a : Expr} {ml : ML} {pos : Pos}
/-! ### x *= y, both of any size -/
/-! ### constants of a module -/
end
end MP

set_option maxRecDepth 100000
namespace MP
open PySem PySem.Spec PyProof.Rows L2
open PySem.W (EachIs AllAlike Sortable dataLe alike)
/-! ### the values of a locked dict with tuple keys -/
section
variable {X : Cx} {pins : List (Addr × Obj)} {σ : L2.St} {H : Hp} {s : Shared} {d : Addr} {o : Obj}
end
section
variable {P : Program} {w : World} {K : PySem.W.Frag} {tg : Expr} {d : Addr} {o : Obj} {es : Array DictEntry} {ep : Nat}
end
section
variable {X : Cx} {tg e : Expr} {td : TE} {apos cpos : Pos}
end
end MP

set_option maxRecDepth 100000
namespace MP
open PySem PySem.Spec PyProof.Rows L2
open PySem.W (EachIs AllAlike Sortable dataLe alike)
/-! ### an object that is locked, and unlocked -/
/-- tuples and locked lists stay -/
def ExtW (H H' : Hp) : Prop := ∀ a, (∀ xs, H a = some (.tup xs) → H' a = some (.tup xs)) ∧ (∀ o xs, H a = some (.frz o (.lst xs)) → H' a = some (.frz o (.lst xs))) ∧ (∀ o gs, H a = some (.frz o (.xd gs)) → H' a = some (.frz o (.xd gs)))
section
variable {K : PySem.W.Frag} {mg : Str → Option Value} {H H' : Hp} {ρ ρ' : List Addr}
mutual
theorem VR.monoW (e : ExtW H H') : ∀ {x : PV} {v : V}, VR K H ρ x v → VR K H' ρ x v
  | _, _, .non => .non
  | _, _, .bl b => .bl b
  | _, _, .int i => .int i
  | _, _, .str s => .str s
  | _, _, .loc h => .loc h
  | _, _, .tup h hs => .tup ((e _).1 _ h) (VRs.monoW e hs)
  | _, _, .rol h hs => .rol (h.elim (fun ⟨o, h⟩ => .inl ⟨o, (e _).2.1 _ _ h⟩) .inr) (VRs.monoW e hs)
theorem VRs.monoW (e : ExtW H H') : ∀ {xs : List PV} {vs : List V}, VRs K H ρ xs vs → VRs K H' ρ xs vs
  | _, _, .nil => .nil
  | _, _, .cons h t => .cons (VR.monoW e h) (VRs.monoW e t)
end
theorem KVR.monoW {κ : Type} (e : ExtW H H') {xs : List (κ × PV)} {vs : List (κ × V)} (h : KVR K H ρ xs vs) : KVR K H' ρ xs vs :=
  Paired.mapP h fun _ _ z => ⟨z.1, z.2.monoW e⟩
theorem OR.monoW (e : ExtW H H') {o : Ob} {u : HO} (h : OR K mg H ρ o u) : OR K mg H' ρ o u := by
  induction h with
  | lst h => exact .lst (h.monoW e)
  | dK h => exact .dK (h.monoW e)
  | dT h => exact .dT (h.monoW e)
  | exn c q d h => exact .exn c q ((e _).2.2 _ _ d) (h.monoW e)
  | exn0 c q => exact .exn0 c q
  | lk h ih => exact .lk ih
  | xo h => exact .xo h
  | dead h => exact .dead h
end
section
variable {X : Cx} {W : WX} {e tg : Expr} {m : ME} {H : Hp} {ρ : List Addr} {S : Ms}
end
end MP

set_option maxRecDepth 100000
namespace MP
open PySem PySem.Spec PyProof.Rows L2
open PySem.W (EachIs AllAlike Sortable dataLe alike)
/-! ### sorted(a list of tuples of ints) -/
section
variable {X : Cx}
end
section
variable {X : Cx} {W : WX} {H : Hp} {ρ : List Addr} {S : Ms}
end
/-! ### d.get(k, x) -/
section
variable {X : Cx} {W : WX} {o a b : Expr} {m n k : ME} {apos cpos : Pos}
end
end MP

set_option maxRecDepth 100000
namespace MP
open PySem PySem.Spec PyProof.Rows L2
section
variable {X : Cx} {W : WX} {a b : Expr} {m n : ME} {pos : Pos}
/-! ### xs[::-1] -/
end
end MP

set_option maxRecDepth 100000
/-! own exceptions over any builtin base (HandS.ExcInit has them over ValueError) -/
namespace PySem
namespace HandSPX
open PySem.W PySem.Calls PyProof.Rows
open Builtin Builtin.ObjectAttr
/-- a row of bases on which an attribute may be laid -/
structure MroOk (l : List Value) : Prop where
  ne : l.isEmpty = false
  ob : l.contains (.type "object") = true
  pass : ∀ self, refuseLoop self "__setattr__" l = pure ()
theorem MroOk.ref {C : Addr} {l : List Value} (h : MroOk l) : MroOk (.ref C :: l) :=
  ⟨rfl, by rw [List.contains_cons, h.ob]; simp, fun self => by rw [refuseLoop_ref]; exact h.pass self⟩
section
variable {prog : Program} {w : World} {hp : Heap} {g : Array GenState} {d : Drawn} {t : Nat} {os : OsState} {A : Around} {E : Value → Shared → Prop} {R : Result → Shared → Prop}
end
end HandSPX
end PySem
namespace L2
open PySem PySem.Spec PyProof.Rows
/-- what the written part says of an exception class over the base B -/
structure OexG (B newId : String) (bmB : List Value) (K : PySem.W.Frag) (C : Addr) : Prop where
  cls : ∃ nm q N bs bm sn sub ab col dd k0 k1 k2 k3 k5, K.lookup C = some (excClassObj nm q C N bs bm true sn sub ab col dd k0 k1 k2 k3 k5 newId) ∧ PySem.HandSPX.MroOk bm ∧ ∀ Y : String, bm.contains (.type Y) = bmB.contains (.type Y)
  sa : PySem.W.findIn K (.ref C) "__setattr__" = some (some (.builtin "object.__setattr__"))
  exC : PySem.W.subIn K (.ref C) (.type "BaseException") = some true
  tyC : PySem.W.typeIn K (.ref C) = some (.type "type")
  kC : PySem.W.keepIn K (.ref C) = true
section
variable {X : Cx} {pins : List (Addr × Obj)} {σ : L2.St} {H : Hp} {s : Shared} {a C dx : Addr} {f : Str} {y : V} {u : Value} {fs : List (Str × V)} {Q : Unit → Shared → Prop} {E : Value → Shared → Prop} {A : Around} {B newId : String} {bmB : List Value}
end
end L2
namespace L2
open PySem PySem.Spec PyProof.Rows
section
variable {X : Cx} {o e : Expr} {es : List Expr} {to te : TE} {ta : TA} {f : Str} {p p' p1 p2 pos : Pos} {B newId initId : String} {bmB : List Value} {x : Str}
end
end L2
namespace L2
open PySem PySem.Spec PyProof.Rows
/-! C(e, ..), C's own __init__ keeping sp -/
section
variable {X : Cx} {e : Expr} {es : List Expr} {ta : TA} {p pos : Pos} {B newId initId : String} {bmB : List Value}
end
end L2


set_option maxRecDepth 100000
/-! exceptions that are caught and kept as values -/
namespace PySem.W
open PySem PySem.Spec PySem.Calls PyProof.Rows
section
variable {prog : Program} {w : World} {A : Around} {E : Value → Shared → Prop} {s : Shared} {K : Frag} {x D : Addr} {ox : Obj} {od : Option Obj}
end
end PySem.W
namespace L2
open PySem PySem.Spec PyProof.Rows
/-- a caught exception stands at a, its class at C, its fields gs: only read from now on -/
def CaughtAt (H : Hp) (a C : Addr) (gs : List (Str × V)) : Prop := (∃ (oe od : Obj) (dd : Addr) (u : HO), H a = some (.frz oe u) ∧ (oe.cls = .ref C ∧ oe.dict = some dd ∧ ∃ vs, oe.data = .fields vs) ∧ H dd = some (.frz od (.xd gs))) ∨
  (∃ (oe : Obj) (u : HO), H a = some (.frz oe u) ∧ (oe.cls = .ref C ∧ oe.dict = none ∧ ∃ vs, oe.data = .fields vs) ∧ gs = [])
section
variable {X : Cx} {pins : List (Addr × Obj)} {σ : St} {H : Hp} {s : Shared} {a C : Addr} {gs : List (Str × V)}
theorem CaughtAt.look (c : CaughtAt H a C gs) (I : Inv X pins σ H s) (ne : gs ≠ []) : ∃ (oe od : Obj) (mA : Str → Option Value), PySem.W.InstAt s.heap a oe C (some od) ∧ (∀ f, PySem.W.lookIn f od = some (mA f)) ∧ ∀ f, RelO (gs.lookup f) (mA f) := by
  obtain ⟨oe, od, dd, u, ha, ⟨h1, h2, vs, h3⟩, hd⟩ := c.resolve_right (fun ⟨_, _, _, _, z⟩ => ne z)
  have e1 : s.heap.get? a = some oe := (I.hok a _ ha).1
  obtain ⟨_, mA, hns, hr⟩ : ObjOk X.prog X.w H s.heap dd (.frz od (.xd gs)) := I.hok dd _ hd
  obtain ⟨oc, ho, hl⟩ := lookIn_ns hns
  exact ⟨oe, oc, mA, ⟨e1, h1, by unfold PySem.W.notCls; rw [h3] <;> rfl, by rw [h2]; exact ho⟩, hl, hr⟩
/-- from here on it is only read -/
theorem Inv.caught {oe od : Obj} {vs : Array Value} {dd : Addr} (I : Inv X pins σ H s) (ha : s.heap.get? a = some oe) (hv : oe.data = .fields vs) (hd : H dd = some (.xd gs)) (hod : s.heap.get? dd = some od) (na : H a = none) (nL : a ≠ X.env.locals) (n0 : X.s_0.heap.get? a = none) (np : ∀ p ∈ X.pn ++ pins, p.1 ≠ a) :
    Inv X pins σ (upd (upd H dd (.frz od (.xd gs))) a (.frz oe (.own a))) s := by
  have nd : dd ≠ a := fun z => by rw [z, na] at hd; cases hd
  have ne0 : ∀ {b : Addr} {o : Obj}, X.s_0.heap.get? b = some o → b ≠ a := fun e z => by rw [z, n0] at e; cases e
  have nN : ∀ {b : Addr}, H b = none → b ≠ dd := fun e z => by rw [z, hd] at e; cases e
  have nS : ∀ {b : Addr} {u : HO}, H b = some u → b ≠ a := fun e z => by rw [z, na] at e; cases e
  have old : ∀ {b : Addr}, b ≠ a → b ≠ dd → upd (upd H dd (.frz od (.xd gs))) a (.frz oe (.own a)) b = H b := fun h1 h2 => by rw [upd_ne h1, upd_ne h2]
  have keepU : ∀ {b : Addr} {u : HO}, H b = some u → (∀ g, u ≠ .xd g) → upd (upd H dd (.frz od (.xd gs))) a (.frz oe (.own a)) b = some u := fun {b u} e h1 => by
    rw [old (nS e) (fun z => by rw [z, hd] at e; cases e; exact h1 _ rfl)]; exact e
  refine ⟨I.ok, I.os, I.bare, ⟨I.base.keep, I.base.slot, fun b o e n hx => ?_, I.base.there, fun b xs e => keepU (I.base.tups b xs e) (fun _ z => nomatch z), fun b o u e => keepU (I.base.frzs b o u e) (fun _ z => nomatch z), fun b ps e => ?_⟩, I.loc, I.cell, ?_, fun x c e => ?_, fun p hp => ?_, fun b u e => ?_, I.len⟩
  · have h1 := I.base.free b o e n hx
    rw [old (ne0 e) (nN h1)]; exact h1
  · obtain ⟨m, h1⟩ := I.base.tbls b ps e
    exact ⟨m, keepU h1 (fun _ z => nomatch z)⟩
  · rw [old (Ne.symm nL) (nN I.free)]; exact I.free
  · have h1 := I.freeC x c e
    have h2 : c ≠ a := fun z => by
      obtain ⟨v, o, ho, hc⟩ := I.cell x c e
      rw [z, ha] at ho; cases ho
      rw [hv] at hc; cases hc
    rw [old h2 (nN h1)]; exact h1
  · obtain ⟨h1, h2, h3⟩ := I.pin p hp
    exact ⟨h1, by rw [old (np p hp) (nN h2)]; exact h2, h3⟩
  · have own : ∀ {c x : Addr}, H c = some (.own x) → upd (upd H dd (.frz od (.xd gs))) a (.frz oe (.own a)) c = some (.own x) := fun h => keepU h (fun _ z => nomatch z)
    have tup : ∀ {c : Addr} {xs : List V}, H c = some (.tup xs) → upd (upd H dd (.frz od (.xd gs))) a (.frz oe (.own a)) c = some (.tup xs) := fun h => keepU h (fun _ z => nomatch z)
    by_cases hb : b = a
    · subst hb
      rw [upd_same] at e; cases e
      exact ⟨ha, ⟨oe, ha⟩⟩
    · by_cases hb2 : b = dd
      · subst hb2
        rw [upd_ne hb, upd_same] at e; cases e
        exact ⟨hod, (I.hok b _ hd).stay (fun _ _ _ z => z) (fun _ h => own h) (fun _ _ h => tup h)⟩
      · rw [old hb hb2] at e
        exact (I.hok b u e).stay (fun _ _ _ z => z) (fun _ h => own h) (fun _ _ h => tup h)
/-! ### the class test of an except clause -/
end
end L2
namespace L2
open PySem PySem.Spec PyProof.Rows
section
variable {X : Cx}
end
end L2

set_option maxRecDepth 100000
namespace L2
open PySem PySem.Spec PyProof.Rows
section
variable {X : Cx} {n c : Str} {i j : Nat} {body : List Stmt} {ct : Expr} {cts : List Value} {p1 p2 p3 pos pos' : Pos} {tb : WX → TS} {Wout : WX}
end
end L2

set_option maxRecDepth 100000
namespace MP
open PySem PySem.Spec PyProof.Rows L2
section
variable {K : PySem.W.Frag} {mg : Str → Option Value} {X : Cx} {W : WX} {a e : Expr} {m : ME} {H : Hp} {ρ : List Addr} {S : Ms} {pos : Pos}
/-! ### fields, isinstance -/
theorem HR.exn (R : HR K mg ρ S H) {n : Nat} {ad : Addr} {c : Str} {fs : List (Str × PV)} (h : ρ[n]? = some ad) (e : S[n]? = some (.ins c fs)) : ∃ C gs, mg c = some (.ref C) ∧ CaughtAt H ad C gs ∧ KVR K H ρ fs gs := by
  obtain ⟨ho, h1, h2⟩ := R.get h e
  cases h2 with
  | exn hc q hd hk => exact ⟨_, _, hc, .inl ⟨_, _, _, _, h1, q, hd⟩, hk⟩
  | exn0 hc q => exact ⟨_, _, hc, .inr ⟨_, _, h1, q, rfl⟩, .nil⟩
theorem KVR.look {f : Str} {v : PV} : ∀ {fs : List (Str × PV)} {gs : List (Str × V)}, KVR K H ρ fs gs → fs.lookup f = some v → ∃ v', gs.lookup f = some v' ∧ VR K H ρ v v'
  | _, _, .nil, h => by cases h
  | _, _, .cons (a := (k, x)) (b := (k', y)) r t, h => by
    obtain ⟨e, r⟩ := r
    dsimp only at e r
    subst e
    rw [List.lookup_cons] at h ⊢
    split at h
    · cases h; exact ⟨_, rfl, r⟩
    · exact KVR.look t h
/-- the class that an isinstance asks for -/
structure ClsA (X : Cx) (x2 : Str) (c2 : V) (u : Value) : Prop where
  pe : ∀ p2 : Pos, PE X (.Name x2 p2) (tC c2)
  cv : ClsV c2 u
end
/-! ### x or y, by truth -/
section
variable {X : Cx} {W : WX} {a b : Expr} {rest : List Expr} {m n : ME} {pos : Pos}
end
/-! ### try -/
section
variable {X : Cx} {W : WX} {n c : Str} {i j : Nat} {body : List Stmt} {mb : MS} {ct : Expr} {cts : List Value} {kn : List (Str × Bool)} {p1 p2 p3 pos pos' : Pos}
end
/-! ### raise C(e) -/
/-- what the top has left of an error class with one field -/
structure ErrC (K : PySem.W.Frag) (mg : Str → Option Value) (c f : Str) (B newId initId : String) (bmB : List Value) (qual : Str) (st : Stmt) where
  C : Addr
  fI : Addr
  dI : FuncData
  g : mg c = some (.ref C)
  o : OexG B newId bmB K C
  x : ExcC K C
  nf : PySem.W.findIn K (.ref C) f = some none
  iC : PySem.W.findIn K (.ref C) "__init__" = some (some (.ref fI))
  tI : PySem.W.typeIn K (.ref fI) = some (.type "function")
  F : Fun K "__init__" qual st fI dI
  bi : PySem.W.findCls K (.type B) (.type "type") "__init__" = some (.val (.builtin initId))
section
variable {P : Program} {w : World} {K : PySem.W.Frag} {mg : Str → Option Value} {base : Heap}
end
section
variable {X : Cx} {W : WX} {e : Expr} {m : ME} {pp pos pos2 : Pos}
end
end MP

set_option maxRecDepth 100000
namespace MP
open PySem PySem.Spec PyProof.Rows L2
/-! ### facts of error classes -/
section
variable {K : PySem.W.Frag} {mg : Str → Option Value}
/-- a class that an except clause may name -/
structure ErrB (K : PySem.W.Frag) (C : Addr) : Prop where
  x : ExcC K C
  ty : PySem.W.typeIn K (.ref C) = some (.type "type")
  ss : PySem.W.subIn K (.ref C) (.ref C) = some true
theorem ErrB.kit {C : Addr} {t : Value} {b : Bool} (T : ErrB K C) (h : PySem.W.subIn K t (.ref C) = some b) : PySem.W.kitOne K t (.ref C) = some b := by
  unfold PySem.W.kitOne
  split
  · rename_i e
    have e := eq_of_beq e
    rw [e, T.ss] at h
    exact h
  · obtain ⟨cd, hc, _⟩ := PySem.W.any_some T.x.hd
    show (if ((PySem.W.clsIn K C).isSome && PySem.W.typeIn K (.ref C) == some (.type "type")) = true then PySem.W.subIn K t (.ref C) else none) = some b
    rw [hc, T.ty, if_pos (by rfl)]
    exact h
end
section
variable {K : PySem.W.Frag} {mg : Str → Option Value} {h : Heap}
end
end MP

set_option maxRecDepth 100000
namespace L2
open PySem PySem.Spec PyProof.Rows
section
variable {X : Cx}
/-! ### isinstance(x, (c1, c2, ..)), x a caught exception, or nothing -/
end
end L2
namespace MP
open PySem PySem.Spec PyProof.Rows L2
section
variable {X : Cx} {W : WX} {a : Expr} {pos : Pos} {m : ME}
def tClss : List V → TA
  | [] => tNil
  | c :: cs => tCons (tC c) (tClss cs)
inductive ClsN (X : Cx) : List Expr → List V → List Value → Prop
  | nil : ClsN X [] [] []
  | cons {x2 : Str} {c : V} {u : Value} {p2 : Pos} {es : List Expr} {cs : List V} {us : List Value} (h : ClsA X x2 c u) (t : ClsN X es cs us) (hs : starEach (.Name x2 p2 :: es) X.env = (false, eval (.Name x2 p2) X.env) :: starEach es X.env := by rfl) : ClsN X (.Name x2 p2 :: es) (c :: cs) (u :: us)
theorem ClsN.pa {es : List Expr} {cs : List V} {us : List Value} (h : ClsN X es cs us) : PA X es (tClss cs) := by
  induction h with
  | nil => exact pa_nil
  | cons h t hs ih => exact pa_cons (h.pe _) ih hs
theorem ClsN.cv {es : List Expr} {cs : List V} {us : List Value} (h : ClsN X es cs us) : Paired ClsV cs us := by
  induction h with
  | nil => exact .nil
  | cons h t hs ih => exact .cons h.cv ih
end
end MP

set_option maxRecDepth 100000
namespace MP
open PySem PySem.Spec PyProof.Rows L2
open PySem.W (EachIs AllAlike Sortable dataLe alike)
/-! ### sorted(a tuple of ints) -/
section
variable {prog : Program} {w : World} {A : Around} {E : Value → Shared → Prop} {s : Shared}
end
section
variable {X : Cx}
end
section
variable {X : Cx} {W : WX}
end
end MP

set_option maxRecDepth 100000
namespace L2
open PySem PySem.Spec PyProof.Rows
section
variable {X : Cx} {CX : CXT} {E : L2.St → XK} {pos : Pos} {e fe : Expr} {es : List Expr} {t : TA} {tf : TE}
/-! ### a call whose callee is an expression with the value of one of some defs -/
end
end L2
namespace MP
open PySem PySem.Spec PyProof.Rows L2
section
variable {X : Cx} {W : WX} {a b e idx : Expr} {es fe : List Expr} {pos sp : Pos} {ml : ML}
/-! ### an int that is read without a trace -/
/-! ### [f, g, ..][i](a, ..) -/
def FnI (X : Cx) (np : Nat) (f : Addr) (G : List PV → Ms → Out PV) : Prop := ∃ lv fd ps, FnOk X.prog X.w X.K X.mg X.base (L2.CX X.prog X.w) lv f fd ps (spF X.K X.mg np G) ∧ ps.length = np ∧ Room lv X.A ∧ PySem.W.keepIn X.K (.ref f) = true ∧ Binds X.K fd ps []
inductive FnIs (X : Cx) (np : Nat) : List Expr → List Addr → List (List PV → Ms → Out PV) → Prop
  | nil : FnIs X np [] [] []
  | cons {x : Str} {f : Addr} {G : List PV → Ms → Out PV} {p : Pos} {es : List Expr} {fs : List Addr} {Gs : List (List PV → Ms → Out PV)} (h : FnI X np f G) (hm : X.mg x = some (.ref f)) (t : FnIs X np es fs Gs) (hg : Gl X x := by rfl) (hd : (x == ("__debug__" : Str)) = false := by decide)
    (hs : starEach (.Name x p :: es) X.env = (false, eval (.Name x p) X.env) :: starEach es X.env := by rfl) : FnIs X np (.Name x p :: es) (f :: fs) (G :: Gs)
theorem FnIs.pa {np : Nat} {es : List Expr} {fs : List Addr} {Gs : List (List PV → Ms → Out PV)} (h : FnIs X np es fs Gs) : PA X es (tClss (fs.map V.ref)) := by
  induction h with
  | nil => exact pa_nil
  | cons h hm t hg hd hs ih => exact pa_cons (pe_glob hg hm rfl hd) ih hs
theorem FnIs.get {np : Nat} {es : List Expr} {fs : List Addr} {Gs : List (List PV → Ms → Out PV)} (h : FnIs X np es fs Gs) : ∀ {i : Nat} {G : List PV → Ms → Out PV}, Gs[i]? = some G → ∃ f, fs[i]? = some f ∧ FnI X np f G := by
  induction h with
  | nil => intro i G h; simp at h
  | @cons x f G0 p es fs Gs h hm t hg hd hs ih =>
    intro i G q
    cases i with
    | zero => cases q; exact ⟨f, rfl, h⟩
    | succ i => exact ih q
theorem FnIs.each {np : Nat} {es : List Expr} {fs : List Addr} {Gs : List (List PV → Ms → Out PV)} (h : FnIs X np es fs Gs) : fs.length = Gs.length := by
  induction h with
  | nil => rfl
  | cons h hm t hg hd hs ih => simp [ih]
end
end MP

set_option maxRecDepth 100000
namespace L2
open PySem PySem.Spec PyProof.Rows
/-! ### an except clause over a tuple of any number of classes -/
section
variable {M : Model} {A : Around} {E : Value → Shared → Prop}
end
section
variable {M : Model} {K : PySem.W.Frag}
/-- the classes of the clause, by name -/
inductive NameCls (X : Cx) : List Expr → List Value → Prop
  | nil : NameCls X [] []
  | cons {x : Str} {c : Value} {p : Pos} {es : List Expr} {cs : List Value} (g : Gl X x) (m : X.mg x = some c) (t : NameCls X es cs) (d : (x == ("__debug__" : Str)) = false := by decide) (h : starEach (.Name x p :: es) X.env = (false, eval (.Name x p) X.env) :: starEach es X.env := by rfl) : NameCls X (.Name x p :: es) (c :: cs)
theorem NameCls.items {X : Cx} {a : Addr} {pn pins : List (Addr × Obj)} {σ : L2.St} {H : Hp} {s : Shared} {E : Value → Shared → Prop} {tp : Pos} (I : Inv (X.suite a pn) pins σ H s) {es : List Expr} {cs : List Value} (h : NameCls X es cs) : ∀ {Q : List Value → Shared → Prop}, Q cs s → wpAny (model X.prog X.w) (X.A.mark (some (.ref a))) (spliced (backTo tp (starEach es X.env))) Q E s := by
  induction h with
  | nil => intro Q q; exact wpAny_items_nil q
  | cons g m t d h ih => intro Q q; exact wpAny_items_cons (ld_glob (X := X.suite a pn) I g m (ih (Q := fun vs s2 => Q (_ :: vs) s2) q) d) h
end
end L2
namespace L2
open PySem PySem.Spec PyProof.Rows
end L2

set_option maxRecDepth 100000
namespace MP
open PySem PySem.Spec PyProof.Rows L2
/-! ### zip(a tuple, a list) -/
end MP

set_option maxRecDepth 100000
set_option maxHeartbeats 4000000
namespace L2
open PySem PySem.Spec PyProof.Rows
/-! ### a tuple, once: the tuple itself -/
theorem tuple_mul1 (l : Addr) (items : Array Value) (n : Nat) (dd : Option Addr) (sl : Array (Option Value)) (u : Tok) :
    Meets (Builtin.«tuple.__mul__» ⟨[.ref l, .int 1 u], []⟩) (fun _ R s => s.heap.get? l = some { cls := .type "tuple", dict := dd, data := .seq items n, slots := sl } ∧ R (.ok (.ret (Value.ref l))) s) :=
  .of_wp fun prog w A R s h => by
    obtain ⟨hp, g, d, tk, os⟩ := s
    obtain ⟨hl, h⟩ := h
    have f1 := AutoSeq1.idx_int
    have c1 : (items.isEmpty || (1 : Int) == 1) = true := by simp
    wp_walk using wpAny_loadPart' hl
    repeat (first
      | (refine wpAny_ite_true (decide_eq_true (by rw [c1])) ?_; wp_walk using wpAny_loadPart' hl)
      | (refine wpAny_ite_true c1 ?_; wp_walk using wpAny_loadPart' hl))
    exact ⟨_, rfl, h⟩
def rRep1 (K : PySem.W.Frag) : R2 := fun x y H Q => ∃ l xs, x = .ref l ∧ y = .int 1 ∧ SqT K H l xs ∧ Q (.ref l) H
section
variable {X : Cx}
theorem op_rep1 : OpR X (binaryOp .Mult) (rRep1 X.K) := by
  intro pins s σ H x y v u Q I rx ry h
  obtain ⟨l, xs, rfl, rfl, hT, q⟩ := h
  cases rx
  obtain ⟨t, rfl⟩ := ry
  obtain ⟨its, r, ⟨⟨cls, dd, data, sl⟩, ho, hc, n, hd⟩, hs⟩ := I.tuple hT
  simp only at hc hd
  subst hc hd
  exact wpAny_binaryOp_repeat_ref (T := "tuple") (U := "int") (by decide) ⟨_, ho, rfl⟩ (fun s' => typeIs_int s' 1 t) noFill_tuple_mul F.fills_int_mul F.slot_int_rmul repeat_tuple F.slot_int_index.lookup
    (call_meets F.slot_int_rmul (typeIs_int s 1 t) F.entry_int_rmul (F.args_int_rmul_2 _ _) (int_rmul_tuple 1 t l its.toArray n dd sl)
      ⟨ho, rfl, ⟨_, ho, rfl⟩, call_meets F.slot_tuple_mul ⟨_, ho, rfl⟩ F.entry_tuple_mul (F.args_tuple_mul_2 _ _) (tuple_mul1 l its.toArray n dd sl t) ⟨ho, ⟨.ref l, H, I, rfl, q⟩⟩⟩)
end
end L2
namespace MP
open PySem PySem.Spec PyProof.Rows L2
section
variable {X : Cx} {W : WX}
def oMul5 (x y : PV) (S : Ms) : Out PV := match x, y with
  | .tup xs, .int 1 => .ret (.tup xs) S
  | x, y => oMul x y S
def rMul5 (K : PySem.W.Frag) : R2 := fun x y H Q => rMul4 K x y H Q ∨ rRep1 K x y H Q
theorem op_mul5 : OpR X (binaryOp .Mult) (rMul5 X.K) := or_or op_mul4 op_rep1
theorem o_mul5 : O2 X W oMul5 (rMul5 X.K) := by
  intro ρ S H σ Q x y x' y' R rx ry h
  unfold oMul5 at h
  split at h
  · cases rx with
    | tup hx ax => cases ry; exact .inr ⟨_, _, rfl, rfl, .of hx, Post.now R (.tup hx ax) h⟩
  · exact .inl (o_mul ρ S H σ Q _ _ _ _ R rx ry h)
end
end MP

set_option maxRecDepth 100000
namespace MP
open PySem PySem.Spec PyProof.Rows L2
section
variable {X : Cx} {W : WX} {a b : Expr} {ml : ML} {pos : Pos}
end
end MP

set_option maxRecDepth 100000
namespace MP
open PySem PySem.Spec PyProof.Rows L2
/-! ### {tuple: e for x in it if ..} -/
section
variable {X : Cx}
end
section
variable {X : Cx} {W : WX} {H H' : Hp} {ρ ρ' : List Addr} {S : Ms} {kx e : Expr} {mk m : ME} {t : MB} {tg : Expr} {pos : Pos}
end
end MP

set_option maxRecDepth 100000
namespace MP
open PySem PySem.Spec PyProof.Rows L2
/-! ### divmod of two ints: a new tuple -/
section
variable {X : Cx} {W : WX}
end
end MP

set_option maxRecDepth 100000
set_option maxHeartbeats 4000000
namespace L2
open PySem PySem.Spec PyProof.Rows
/-! ### a tuple, no time at all: a new empty tuple -/
theorem tuple_mul0 (l : Addr) (items : Array Value) (n : Nat) (dd : Option Addr) (sl : Array (Option Value)) (u : Tok) (hi : items.isEmpty = false) :
    Meets (Builtin.«tuple.__mul__» ⟨[.ref l, .int 0 u], []⟩) (fun _ R s => s.heap.get? l = some { cls := .type "tuple", dict := dd, data := .seq items n, slots := sl } ∧
      R (.ok (.ret (Value.ref s.heap.objs.size))) { s with heap := s.heap.push { cls := Value.type "tuple", data := Data.seq #[] }, toks := s.toks }) :=
  .of_wp fun prog w A R s h => by
    obtain ⟨hp, g, d, tk, os⟩ := s
    obtain ⟨hl, h⟩ := h
    have f1 := AutoSeq1.idx_int
    have c0 : (decide ((0 : Int) < -(2 ^ 63)) || decide ((0 : Int) ≥ 2 ^ 63)) = false := by decide
    have c1 : (items.isEmpty || (0 : Int) == 1) = false := by rw [hi]; decide
    have c2 : (decide ((0 : Int) ≤ 0) || items.isEmpty) = true := by rw [hi]; decide
    wp_walk using wpAny_loadPart' hl
    repeat (first
      | (refine wpAny_ite_false (decide_eq_false (by rw [c0]; exact Bool.false_ne_true)) ?_; wp_walk using wpAny_loadPart' hl)
      | (refine wpAny_ite_false (decide_eq_false (by rw [c1]; exact Bool.false_ne_true)) ?_; wp_walk using wpAny_loadPart' hl)
      | (refine wpAny_ite_true (decide_eq_true (by rw [c2])) ?_; wp_walk using wpAny_loadPart' hl)
      | (refine wpAny_ite_true c2 ?_; wp_walk using wpAny_loadPart' hl))
    exact ⟨_, rfl, h⟩
def rRep0 (K : PySem.W.Frag) : R2 := fun x y H Q => ∃ l xs, x = .ref l ∧ y = .int 0 ∧ SqT K H l xs ∧ xs ≠ [] ∧ ∀ p, H p = none → Q (.ref p) (upd H p (.tup []))
section
variable {X : Cx}
theorem op_rep0 : OpR X (binaryOp .Mult) (rRep0 X.K) := by
  intro pins s σ H x y v u Q I rx ry h
  obtain ⟨l, xs, rfl, rfl, hT, hne, q⟩ := h
  cases rx
  obtain ⟨t, rfl⟩ := ry
  obtain ⟨its, r, ⟨⟨cls, dd, data, sl⟩, ho, hc, n, hd⟩, hs⟩ := I.tuple hT
  simp only at hc hd
  subst hc hd
  have hle : its.length = xs.length := r.length.symm
  have hi : its.toArray.isEmpty = false := by
    cases its with
    | nil => exact absurd (List.eq_nil_of_length_eq_zero hle.symm) hne
    | cons a b => rfl
  refine wpAny_binaryOp_repeat_ref (T := "tuple") (U := "int") (by decide) ⟨_, ho, rfl⟩ (fun s' => typeIs_int s' 0 t) noFill_tuple_mul F.fills_int_mul F.slot_int_rmul repeat_tuple F.slot_int_index.lookup
    (call_meets F.slot_int_rmul (typeIs_int s 0 t) F.entry_int_rmul (F.args_int_rmul_2 _ _) (int_rmul_tuple 0 t l its.toArray n dd sl)
      ⟨ho, rfl, ⟨_, ho, rfl⟩, call_meets F.slot_tuple_mul ⟨_, ho, rfl⟩ F.entry_tuple_mul (F.args_tuple_mul_2 _ _) (tuple_mul0 l its.toArray n dd sl t hi) ⟨ho, ?_⟩⟩)
  refine ⟨.ref s.heap.objs.size, _, I.laid (t' := s.toks) (o := .tup []) (fun b ob q => Heap.get?_push_of_some _ q) (Nat.le_refl _) ?_, rfl, q _ (I.hok.fresh (Nat.le_refl _))⟩
  exact ⟨by rw [sizeLine_eq]; decide, [], .nil, IsTup.new _ _⟩
end
end L2
namespace MP
open PySem PySem.Spec PyProof.Rows L2
section
variable {X : Cx} {W : WX}
def oMul6 (x y : PV) (S : Ms) : Out PV := match x, y with
  | .tup (a :: xs), .int 0 => .ret (.tup []) S
  | x, y => oMul5 x y S
def rMul6 (K : PySem.W.Frag) : R2 := fun x y H Q => rMul5 K x y H Q ∨ rRep0 K x y H Q
theorem op_mul6 : OpR X (binaryOp .Mult) (rMul6 X.K) := or_or op_mul5 op_rep0
theorem o_mul6 : O2 X W oMul6 (rMul6 X.K) := by
  intro ρ S H σ Q x y x' y' R rx ry h
  unfold oMul6 at h
  split at h
  · cases rx with
    | tup hx ax =>
      cases ry
      refine .inr ⟨_, _, rfl, rfl, .of hx, ?_, fun p hp => new_tup R .nil h hp⟩
      cases ax
      exact List.cons_ne_nil _ _
  · exact .inl (o_mul5 ρ S H σ Q _ _ _ _ R rx ry h)
end
end MP

set_option maxRecDepth 100000
namespace L2
open PySem PySem.Spec PyProof.Rows
/-! ### own exceptions with no field: C's own __init__(self) does nothing but B.__init__(self) -/
section
variable {X : Cx} {B newId initId : String} {bmB : List Value}
end
end L2
namespace MP
open PySem PySem.Spec PyProof.Rows L2
/-- what the top has left of an error class with no field -/
structure ErrN (K : PySem.W.Frag) (mg : Str → Option Value) (c : Str) (B newId initId : String) (bmB : List Value) (qual : Str) (st : Stmt) where
  C : Addr
  fI : Addr
  dI : FuncData
  g : mg c = some (.ref C)
  o : OexG B newId bmB K C
  x : ExcC K C
  iC : PySem.W.findIn K (.ref C) "__init__" = some (some (.ref fI))
  tI : PySem.W.typeIn K (.ref fI) = some (.type "function")
  F : Fun K "__init__" qual st fI dI
  bi : PySem.W.findCls K (.type B) (.type "type") "__init__" = some (.val (.builtin initId))
section
variable {P : Program} {w : World} {K : PySem.W.Frag} {mg : Str → Option Value} {base : Heap}
end
section
variable {X : Cx} {W : WX} {pp pos pos2 : Pos}
end
end MP

set_option maxRecDepth 100000
namespace MP
open PySem PySem.Spec PyProof.Rows L2
/-! ### range with any step -/
theorem rs_toNat (a b c : Int) : Builtin.Range.rangeSize a b c = ((Builtin.Range.rangeSize a b c).toNat : Int) := by
  have hpos : 0 ≤ Builtin.Range.rangeSize a b c := by
    unfold Builtin.Range.rangeSize
    split <;> split <;> first | omega | (have := Int.ediv_nonneg (a := b - a - 1) (b := c) (by omega) (by omega); omega) | (have := Int.ediv_nonneg (a := a - b - 1) (b := -c) (by omega) (by omega); omega)
  omega
section
variable {X : Cx} {W : WX} {a b c tg : Expr} {ml : ML} {pos : Pos}
end
end MP

set_option maxRecDepth 100000
namespace L2
open PySem PySem.Spec PyProof.Rows
/-! ### tuple(range(i, j, c)) -/
def rgV3 (a c : Int) (n : Nat) : List V := (List.range n).map fun i => V.int (a + (i : Nat) * c)
theorem vals_rg3 {a c : Int} {n : Nat} {acc : Array Value} (h : ItemsOf (fun i v => ∃ t, v = .int (a + i * c) t) acc n) : Vals (rgV3 a c n) acc.toList := by
  have e : acc.toList.length = n := by rw [Array.length_toList]; exact h.1
  unfold rgV3
  rw [← e]
  refine vals_of_get acc.toList _ fun j u hj => ?_
  obtain ⟨t, rfl⟩ := h.2 j u (by rw [← hj, Array.getElem?_toList])
  exact ⟨t, rfl⟩
def rTupRg3 : List V → Hp → VK → Prop := fun vs H Q => ∃ (i j c : Int) (n : Nat), vs = [.int i, .int j, .int c] ∧ RgC i j c n ∧ n ≤ 2 ^ 24 ∧ ∀ q, H q = none → Q (.ref q) (upd H q (.tup (rgV3 i c n)))
section
variable {X : Cx} {a b c : Expr} {ta : TA}
theorem pe_tupRg3 {p p2 p3 pos : Pos} (hc : X.calm = true) (hg : Gl X "tuple") (hm : X.mg "tuple" = none) (hg2 : Gl X "range") (hm2 : X.mg "range" = none) (ha : PA X [a, b, c] ta)
    (na : starEach [.Call (.Name "range" p2) [a, b, c] [] p3] X.env = (false, eval (.Call (.Name "range" p2) [a, b, c] [] p3) X.env) :: starEach [] X.env)
    (hs : starEach [a, b, c] X.env = (false, eval a X.env) :: starEach [b, c] X.env) (hpl : (backTo p3 (starEach [b, c] X.env)).any (·.1) = false) :
    PE X (.Call (.Name "tuple" p) [.Call (.Name "range" p2) [a, b, c] [] p3] [] pos) (fun σ H Q => ta σ H fun vs H1 => rTupRg3 vs H1 Q) := by
  refine ⟨fun pins s σ H Q I h => ?_⟩
  refine Call_ (ld_blt I hg hm boot_tuple (PyProof.Rows.callWith_type1 (args_cons (Call_ (ld_blt I hg2 hm2 boot_range (PyProof.Rows.callWith_type1 (thn (ha.run p3 pins s σ H _ I h) fun us s1 ⟨vs, H1, I1, r1, q1⟩ => ?_) hs hpl))) na) na))
  obtain ⟨i, j, k, n, e, ⟨c0, c1, c2, c3⟩, hn, q⟩ := q1
  subst e
  cases r1 with
  | cons r rr =>
    cases rr with
    | cons r' rr =>
      cases rr with
      | cons r'' rr =>
        cases rr
        obtain ⟨t, rfl⟩ := r
        obtain ⟨t', rfl⟩ := r'
        obtain ⟨t'', rfl⟩ := r''
        refine call_range_3 c0 ?_ (.inl (PyProof.noPylong_small c1))
        refine args_nil ?_
        have I2 : Inv X pins σ H1 { s1 with heap := s1.heap.push { cls := .type "range", data := .fields #[.int i t, .int j t', .int k t''] } } := I1.kept (t' := s1.toks) fun b o e => Heap.get?_push_of_some _ e
        refine call_tuple_range (n := n) (I2.ok.hd hc) (IsRange.new ..) c2 c3 hn fun h' tk acc hk hi => ?_
        have I3 : Inv X pins σ H1 { s1 with heap := h', toks := tk } := I2.kept hk
        refine ⟨.ref h'.objs.size, upd H1 h'.objs.size (.tup (rgV3 i k n)), I3.laid (t' := tk) (fun c o e => Heap.get?_push_of_some _ e) (Nat.le_refl _) (show ObjOk X.prog X.w _ _ _ (.tup (rgV3 i k n)) from ⟨?_, acc.toList, vals_rg3 hi, ?_⟩), rfl, q _ (I3.hok.fresh (Nat.le_refl _))⟩
        · unfold rgV3; rw [List.length_map, List.length_range, sizeLine_eq]; omega
        · rw [Array.toArray_toList]; exact IsTup.new _ _
/-! ### repr of anything that reads as data -/
def scT : V → Str → Prop
  | .non, t => t = "None"
  | .bl b, t => t = PyData.shown (.bool b)
  | .int i, t => i.natAbs.log2 < 1920 ∧ t = toString i
  | .str y, t => (reprText y).length ≤ sizeLine ∧ t = reprText y
  | _, _ => False
end
end L2
namespace MP
open PySem PySem.Spec PyProof.Rows L2
def rReprA (K : PySem.W.Frag) : List V → Hp → VK → Prop := fun xs H Q => rReprD K xs H Q ∨ ∃ x t, xs = [x] ∧ scT x t ∧ Q (.str t) H
section
variable {X : Cx} {W : WX} {a b c : Expr} {ml : ML} {pos : Pos}
theorem call_reprA (gd : X.A.guards = some []) (hu : X.A.units + 65 < cLine) : CallR X (.builtin "repr") (rReprA X.K) := by
  intro pins s σ H xs us Q I r h
  rcases h with h | ⟨x, t, rfl, hs, q⟩
  · exact call_reprD gd hu pins s σ H xs us Q I r h
  · obtain ⟨u, rfl, ru⟩ := vals1 r
    cases x with
    | non =>
      cases (show u = Value.none from ru)
      have e : t = "None" := hs
      subst e
      exact PySem.P.repr_of_none ⟨.str _, H, I.tok _, ⟨_, rfl⟩, q⟩
    | bl b =>
      cases (show u = Value.bool b from ru)
      have e : t = PyData.shown (.bool b) := hs
      subst e
      exact PySem.P.repr_of_bool ⟨.str (PyData.shown (.bool b)), H, I.tok _, ⟨s.toks, by cases b <;> rfl⟩, q⟩
    | int i =>
      obtain ⟨tk, rfl⟩ := ru
      obtain ⟨h1, e⟩ := hs
      subst e
      exact PySem.P.repr_of_int h1 ⟨.str _, H, I.tok _, ⟨_, rfl⟩, q⟩
    | str y =>
      obtain ⟨tk, rfl⟩ := ru
      obtain ⟨h1, e⟩ := hs
      subst e
      exact PySem.P.repr_of_str ⟨.str _, H, I.tok _, ⟨_, rfl⟩, q⟩ h1
    | _ => exact False.elim hs
def oReprA : List PV → Ms → Out PV
  | [x], S => (match toD S 12 x with
    | some d => if SeqAt.shaped d && d.showable && decide (d.shown.length ≤ lim) then .ret (.str d.shown) S else .fail
    | _ => .fail)
  | _, _ => .fail
theorem o_reprA : OL X W oReprA (rReprA X.K) := by
  intro ρ S H σ Q x x' R r h
  unfold oReprA at h
  split at h
  · rename_i xx
    split at h
    · rename_i d e
      split at h
      · rename_i hc
        have hc' := hc
        simp only [Bool.and_eq_true, decide_eq_true_eq] at hc
        obtain ⟨v, rfl, rv⟩ := vrs1 r
        cases rv with
        | non => unfold toD at e; cases e; exact .inr ⟨_, _, rfl, rfl, Post.now R (.str _) h⟩
        | bl b => unfold toD at e; cases e; exact .inr ⟨_, _, rfl, rfl, Post.now R (.str _) h⟩
        | int i => unfold toD at e; cases e; exact .inr ⟨_, _, rfl, ⟨of_decide_eq_true hc.1.2, rfl⟩, Post.now R (.str _) h⟩
        | str y => unfold toD at e; cases e; exact .inr ⟨_, _, rfl, ⟨lim_le hc.2, rfl⟩, Post.now R (.str _) h⟩
        | tup h1 h2 => exact .inl (o_repr (X := X) (W := W) ρ S H σ Q _ _ R (.cons (.tup h1 h2) .nil) (by simp only [oRepr, isSeq, e]; rw [if_pos hc']; exact h))
        | loc h1 => exact .inl (o_repr (X := X) (W := W) ρ S H σ Q _ _ R (.cons (.loc h1) .nil) (by simp only [oRepr, isSeq, e]; rw [if_pos hc']; exact h))
        | rol h1 h2 => exact .inl (o_repr (X := X) (W := W) ρ S H σ Q _ _ R (.cons (.rol h1 h2) .nil) (by simp only [oRepr, isSeq, e]; rw [if_pos hc']; exact h))
      · exact h.elim
    · exact h.elim
  · exact h.elim
/-! ### str of an int -/
def rStrI : List V → Hp → VK → Prop := fun xs H Q => ∃ i, xs = [.int i] ∧ i.natAbs.log2 < 1920 ∧ Q (.str (toString i)) H
def oStrI : List PV → Ms → Out PV
  | [.int i], S => if i.natAbs.log2 < 1920 then .ret (.str (toString i)) S else .fail
  | _, _ => .fail
theorem o_strI : OL X W oStrI rStrI := by
  intro ρ S H σ Q x x' R r h
  unfold oStrI at h
  split at h
  · split at h
    · rename_i i hi
      obtain ⟨v, rfl, rv⟩ := vrs1 r
      cases rv
      exact ⟨_, rfl, hi, Post.now R (.str _) h⟩
    · exact h.elim
  · exact h.elim
/-! ### tuple(range(i, j, c)) -/
def rgP3 (a c : Int) (n : Nat) : List PV := (List.range n).map fun i => PV.int (a + (i : Nat) * c)
theorem rg3_ok {K : PySem.W.Frag} {H : Hp} {ρ : List Addr} (a c : Int) (n : Nat) : VRs K H ρ (rgP3 a c n) (rgV3 a c n) := by
  unfold rgP3 rgV3
  induction (List.range n) with
  | nil => exact .nil
  | cons i r ih => exact .cons (.int _) ih
def oTupRg3 : List PV → Ms → Out PV
  | [.int i, .int j, .int c], S => if c ≠ 0 ∧ c.natAbs < 1073741824 ∧ Builtin.Range.small i j c = true ∧ (Builtin.Range.rangeSize i j c).toNat ≤ 1000000 then .ret (.tup (rgP3 i c (Builtin.Range.rangeSize i j c).toNat)) S else .fail
  | _, _ => .fail
theorem o_tupRg3 : OL X W oTupRg3 rTupRg3 := by
  intro ρ S H σ Q x x' R r h
  unfold oTupRg3 at h
  split at h
  · split at h
    · rename_i hb
      obtain ⟨w, z, y, rfl, rw, rz, ry⟩ := vrs3 r
      cases rw; cases rz; cases ry
      exact ⟨_, _, _, _, rfl, ⟨hb.1, hb.2.1, hb.2.2.1, rs_toNat _ _ _⟩, Nat.le_trans hb.2.2.2 (by decide), fun q hq => new_tup R (rg3_ok _ _ _) h hq⟩
    · exact h.elim
  · exact h.elim
theorem s_tupRg3 {pp p2 p3 : Pos} (hc : X.calm = true) (ha : SA X W [a, b, c] ml) (hm : X.mg "tuple" = none) (hm2 : X.mg "range" = none) (hg : Gl X "tuple" := by rfl) (hg2 : Gl X "range" := by rfl)
    (na : starEach [.Call (.Name "range" p2) [a, b, c] [] p3] X.env = (false, eval (.Call (.Name "range" p2) [a, b, c] [] p3) X.env) :: starEach [] X.env := by rfl) (hs : starEach [a, b, c] X.env = (false, eval a X.env) :: starEach [b, c] X.env := by rfl) (hpl : (backTo p3 (starEach [b, c] X.env)).any (·.1) = false := by rfl) :
    SE X W (.Call (.Name "tuple" pp) [.Call (.Name "range" p2) [a, b, c] [] p3] [] pos) (mL ml oTupRg3) :=
  let ⟨_, pa, qa⟩ := ha
  ⟨_, pe_tupRg3 hc hg hm hg2 hm2 pa na hs hpl, ol_ok o_tupRg3 qa⟩
end
end MP

set_option maxRecDepth 100000
namespace MP
open PySem PySem.Spec PyProof.Rows L2

/-! ### what a mirror's run ends in -/
def Ret {α : Type} (o : Out α) (Q : α → Ms → Prop) : Prop := match o with | .ret v S => Q v S | _ => False
theorem Ret.mono {α : Type} {o : Out α} {Q Q' : α → Ms → Prop} (h : Ret o Q) (k : ∀ v S, Q v S → Q' v S) : Ret o Q' := by
  cases o with
  | ret v S => exact k v S h
  | exc x S => exact h
  | fail => exact h
theorem Ret.of {α : Type} {o : Out α} {v : α} {S : Ms} (h : o = .ret v S) {Q : α → Ms → Prop} (q : Q v S) : Ret o Q := by rw [h]; exact q
theorem ret_ret {α : Type} {v : α} {S : Ms} {Q : α → Ms → Prop} : Ret (.ret v S) Q = Q v S := id rfl
theorem ret_fail {α : Type} {Q : α → Ms → Prop} : Ret (.fail : Out α) Q = False := id rfl
theorem ret_bind {α β : Type} {o : Out α} {f : α → Ms → Out β} {Q : β → Ms → Prop} : Ret (o.bind f) Q = Ret o fun v S => Ret (f v S) Q := by cases o <;> rfl
/-- how a statement ends -/
structure Qs where
  nx : Env' → Ms → Prop
  rt : PV → Ms → Prop
  bk : Env' → Ms → Prop := fun _ _ => False
  ct : Env' → Ms → Prop := fun _ _ => False
def RetS (o : SO) (Q : Qs) : Prop := match o with | .nx e S => Q.nx e S | .rt v S => Q.rt v S | .bk e S => Q.bk e S | .ct e S => Q.ct e S | _ => False
theorem RetS.mono {o : SO} {Q Q' : Qs} (h : RetS o Q) (k1 : ∀ e S, Q.nx e S → Q'.nx e S) (k2 : ∀ v S, Q.rt v S → Q'.rt v S) (k3 : ∀ e S, Q.bk e S → Q'.bk e S) (k4 : ∀ e S, Q.ct e S → Q'.ct e S) : RetS o Q' := by
  cases o with
  | nx e S => exact k1 e S h
  | rt v S => exact k2 v S h
  | bk e S => exact k3 e S h
  | ct e S => exact k4 e S h
  | exc _ _ _ => exact h
  | fail => exact h
theorem rets_nx {e : Env'} {S : Ms} {Q : Qs} : RetS (.nx e S) Q = Q.nx e S := id rfl
theorem rets_rt {v : PV} {S : Ms} {Q : Qs} : RetS (.rt v S) Q = Q.rt v S := id rfl
section
variable {env : Env'} {S : Ms} {m n k : ME} {ml mk : ML} {t u : MB} {p q : MS} {f g : PV → PV → Ms → Out PV} {Q : PV → Ms → Prop} {QB : Bool → Ms → Prop} {QL : List PV → Ms → Prop} {D : Qs}
theorem r_m2 : Ret (m2 m n f env S) Q = Ret (m env S) fun x S1 => Ret (n env S1) fun y S2 => Ret (f x y S2) Q := by unfold m2; simp only [ret_bind]
theorem r_m1 {f : PV → Ms → Out PV} : Ret (m1 m f env S) Q = Ret (m env S) fun x S1 => Ret (f x S1) Q := by unfold m1; simp only [ret_bind]
theorem r_v0 {x : PV} {e : Env'} : Ret (mVar 0 (some x :: e) S) Q = Q x S := id rfl
theorem r_vs {i : Nat} {x : Option PV} {e : Env'} : Ret (mVar (i + 1) (x :: e) S) Q = Ret (mVar i e S) Q := id rfl
theorem r_C {v : PV} : Ret (mC v env S) Q = Q v S := id rfl
theorem r_L {f : List PV → Ms → Out PV} : Ret (mL ml f env S) Q = Ret (ml env S) fun xs S1 => Ret (f xs S1) Q := by unfold mL; simp only [ret_bind]
theorem r_nil : Ret (mNil env S) QL = QL [] S := id rfl
theorem r_cons : Ret (mCons m ml env S) QL = Ret (m env S) fun x S1 => Ret (ml env S1) fun xs S2 => QL (x :: xs) S2 := by
  unfold mCons
  cases m env S with
  | ret x S1 => simp only [ret_ret]; cases ml env S1 <;> rfl
  | exc x S => rfl
  | fail => rfl
theorem r_B : Ret (mB m env S) QB = Ret (m env S) fun x S1 => Ret (asB x S1) QB := by show Ret (outB asB m env S) QB = _; unfold outB; cases m env S <;> rfl
theorem r_T : Ret (mT m env S) QB = Ret (m env S) fun x S1 => Ret (truth x S1) QB := by show Ret (outB truth m env S) QB = _; unfold outB; cases m env S <;> rfl
theorem r_asB {b : Bool} : Ret (asB (.bl b) S) QB = QB b S := id rfl
theorem r_bAnd : Ret (bAnd t u env S) QB = Ret (t env S) fun b S1 => if b = true then Ret (u env S1) QB else QB false S1 := by
  unfold bAnd
  cases t env S with
  | ret b S1 => cases b <;> rfl
  | exc _ _ => rfl
  | fail => rfl
theorem r_bOr : Ret (bOr t u env S) QB = Ret (t env S) fun b S1 => if b = true then QB true S1 else Ret (u env S1) QB := by
  unfold bOr
  cases t env S with
  | ret b S1 => cases b <;> rfl
  | exc _ _ => rfl
  | fail => rfl
theorem r_bNot : Ret (bNot t env S) QB = Ret (t env S) fun b S1 => QB (!b) S1 := by unfold bNot; cases t env S <;> rfl
theorem r_mAnd : Ret (mAnd m n env S) Q = Ret (m env S) fun x S1 => Ret (asB x S1) fun b S2 => if b = true then Ret (n env S2) Q else Q (.bl false) S2 := by
  unfold mAnd
  cases m env S with
  | ret x S1 => cases x with
    | bl b => cases b <;> rfl
    | _ => rfl
  | exc _ _ => rfl
  | fail => rfl
theorem r_mOr : Ret (mOr m n env S) Q = Ret (m env S) fun x S1 => Ret (asB x S1) fun b S2 => if b = true then Q (.bl true) S2 else Ret (n env S2) Q := by
  unfold mOr
  cases m env S with
  | ret x S1 => cases x with
    | bl b => cases b <;> rfl
    | _ => rfl
  | exc _ _ => rfl
  | fail => rfl
theorem r_mNot : Ret (mNot m env S) Q = Ret (m env S) fun x S1 => Ret (asB x S1) fun b S2 => Q (.bl (!b)) S2 := by
  unfold mNot
  cases m env S with
  | ret x S1 => cases x with
    | bl b => cases b <;> rfl
    | _ => rfl
  | exc _ _ => rfl
  | fail => rfl
theorem r_mIf : Ret (mIf t m n env S) Q = Ret (t env S) fun b S1 => if b = true then Ret (m env S1) Q else Ret (n env S1) Q := by
  unfold mIf
  cases t env S with
  | ret b S1 => cases b <;> rfl
  | exc _ _ => rfl
  | fail => rfl
theorem r_cut : Ret (mCut m n k env S) Q = Ret (m env S) fun x S1 => Ret (n env S1) fun y S2 => ∃ lo, partI y = some lo ∧ Ret (k env S2) fun z S3 => ∃ hi, partI z = some hi ∧ Ret (oCut x lo hi S3) Q := by
  unfold mCut
  simp only [ret_bind]
  congr 1; funext x S1; congr 1; funext y S2
  cases h : partI y with
  | none => simp [ret_fail]
  | some lo =>
    simp only [ret_bind, Option.some.injEq, exists_eq_left', eq_iff_iff]
    apply Iff.of_eq
    congr 1; funext z S3
    cases h : partI z with
    | none => simp [ret_fail]
    | some hi => simp
theorem r_onlyI : Ret (onlyI m env S) Q = Ret (m env S) fun x S1 => ∃ i, x = .int i ∧ Q (.int i) S1 := by
  unfold onlyI
  cases m env S with
  | ret x S1 => cases x <;> simp [Ret]
  | exc _ _ => rfl
  | fail => rfl
/-! statements -/
theorem q_next : RetS (sNext env S) D = D.nx env S := id rfl
theorem q_seq : RetS (sSeq p q env S) D = RetS (p env S) { D with nx := fun e S1 => RetS (q e S1) D } := by unfold sSeq; cases p env S <;> rfl
theorem q_of {f : PV → Env' → Ms → SO} : RetS (sOf m f env S) D = Ret (m env S) fun v S1 => RetS (f v env S1) D := by unfold sOf; cases m env S <;> rfl
theorem q_if : RetS (sIf t p q env S) D = Ret (t env S) fun b S1 => if b = true then RetS (p env S1) D else RetS (q env S1) D := by
  unfold sIf
  cases t env S with
  | ret b S1 => cases b <;> rfl
  | exc _ _ => rfl
  | fail => rfl
theorem q_toSO {o : Option Env'} : RetS (toSO o S) D = ∃ e, o = some e ∧ D.nx e S := by cases o <;> simp [toSO, RetS]
theorem q_par {i j : Nat} : RetS (sPar i j m n env S) D = Ret (m env S) fun v S1 => Ret (n env S1) fun w S2 => D.nx ((env.set i (some v)).set j (some w)) S2 := by
  unfold sPar
  have e : mCons m (mCons n mNil) env S = (m env S).bind fun v S1 => (n env S1).bind fun w S2 => .ret [v, w] S2 := by
    unfold mCons mNil Out.bind
    cases m env S with
    | ret v S1 => dsimp only; cases n env S1 <;> rfl
    | exc _ _ => rfl
    | fail => rfl
  rw [e]
  cases m env S with
  | ret v S1 => simp only [Out.bind, ret_ret]; cases n env S1 <;> rfl
  | exc _ _ => rfl
  | fail => rfl
theorem q_put : RetS (sPut m n k env S) D = Ret (k env S) fun v S1 => Ret (m env S1) fun o S2 => Ret (n env S2) fun i S3 => ∃ S4, oPut o i v S3 = some S4 ∧ D.nx env S4 := by
  unfold sPut
  cases k env S with
  | ret v S1 => simp only [ret_ret]; cases m env S1 with
    | ret o S2 => simp only [ret_ret]; cases n env S2 with
      | ret i S3 => simp only [ret_ret]; cases h : oPut o i v S3 <;> simp [RetS]
      | exc _ _ => rfl
      | fail => rfl
    | exc _ _ => rfl
    | fail => rfl
  | exc _ _ => rfl
  | fail => rfl
theorem r_fn {nl : Nat} {body : MS} {args : List PV} : Ret (mFn nl body args S) Q = RetS (body (args.map some ++ List.replicate nl none) S) { nx := fun _ S1 => Q .non S1, rt := Q } := by
  unfold mFn
  cases body (args.map some ++ List.replicate nl none) S <;> rfl
/-! ### stores -/
/-- all objects but those at ms are as they were -/
def Fr (ms : List Nat) (S S' : Ms) : Prop := S.length ≤ S'.length ∧ ∀ n, n < S.length → n ∉ ms → S'[n]? = S[n]?
theorem Fr.refl (ms : List Nat) (S : Ms) : Fr ms S S := ⟨Nat.le_refl _, fun _ _ _ => rfl⟩
theorem Fr.trans {ms : List Nat} {S S1 S2 : Ms} (a : Fr ms S S1) (b : Fr ms S1 S2) : Fr ms S S2 :=
  ⟨Nat.le_trans a.1 b.1, fun n h1 h2 => (b.2 n (Nat.lt_of_lt_of_le h1 a.1) h2).trans (a.2 n h1 h2)⟩
theorem Fr.app (ms : List Nat) (S t : Ms) : Fr ms S (S ++ t) := ⟨by rw [List.length_append]; omega, fun n h _ => List.getElem?_append_left h⟩
theorem Fr.set {ms : List Nat} (S : Ms) {n : Nat} (o : Ob) (h : n ∈ ms ∨ S.length ≤ n) : Fr ms S (S.set n o) :=
  ⟨by rw [List.length_set]; exact Nat.le_refl _, fun k h1 h2 => List.getElem?_set_ne (fun z => by subst z; rcases h with h | h; exact h2 h; omega)⟩
theorem Fr.mono {ms ms' : List Nat} {S S' : Ms} (a : Fr ms S S') (h : ∀ n ∈ ms, n ∈ ms') : Fr ms' S S' := ⟨a.1, fun n h1 h2 => a.2 n h1 fun z => h2 (h n z)⟩
/-- what was new in between does not matter -/
theorem Fr.drop {ms : List Nat} {n : Nat} {S S1 S2 : Ms} (a : Fr ms S S1) (b : Fr (n :: ms) S1 S2) (h : S.length ≤ n) : Fr ms S S2 :=
  ⟨Nat.le_trans a.1 b.1, fun k h1 h2 => (b.2 k (Nat.lt_of_lt_of_le h1 a.1) (fun z => by rcases List.mem_cons.mp z with z | z; omega; exact h2 z)).trans (a.2 k h1 h2)⟩
theorem Fr.get {ms : List Nat} {S S' : Ms} (a : Fr ms S S') {n : Nat} {o : Ob} (h : S[n]? = some o) (hn : n ∉ ms) : S'[n]? = some o := by
  rw [a.2 n (List.getElem?_eq_some_iff.mp h).1 hn]; exact h
theorem lt_of_get {S : Ms} {n : Nat} {o : Ob} (h : S[n]? = some o) : n < S.length := (List.getElem?_eq_some_iff.mp h).1
theorem get_new (S : Ms) (o : Ob) : (S ++ [o])[S.length]? = some o := by simp
theorem get_set {S : Ms} {n : Nat} {o o' : Ob} (h : S[n]? = some o) : (S.set n o')[n]? = some o' := List.getElem?_set_self (lt_of_get h)
end
end MP

set_option maxRecDepth 100000
namespace MP
open PySem PySem.Spec PyProof.Rows L2
theorem r_cl1 {G : List PV → Ms → Out PV} {S : Ms} {Q : PV → Ms → Prop} {a : PV} : Ret (cl 1 G [a] S) Q = Ret (G [a] S) Q := id rfl
theorem r_cl2 {G : List PV → Ms → Out PV} {S : Ms} {Q : PV → Ms → Prop} {a b : PV} : Ret (cl 2 G [a, b] S) Q = Ret (G [a, b] S) Q := id rfl
theorem r_cl3 {G : List PV → Ms → Out PV} {S : Ms} {Q : PV → Ms → Prop} {a b c : PV} : Ret (cl 3 G [a, b, c] S) Q = Ret (G [a, b, c] S) Q := id rfl
section
variable {S : Ms} {Q : PV → Ms → Prop} {n : Nat} {xs : List PV}
theorem isDict_lst (h : S[n]? = some (.lst xs)) : isDict S (.loc n) = false := by simp [isDict, h]
theorem r_subL {i : Int} {v : PV} (h : S[n]? = some (.lst xs)) (e : atI xs i = some v) : Ret (oSub1 (.loc n) (.int i) S) Q = Q v S := by
  simp [oSub1, oSel, isDict_lst h, oIdx, itemsOf, h, e, Ret]
theorem r_subT {i : Int} {v : PV} (e : atI xs i = some v) : Ret (oSub1 (.tup xs) (.int i) S) Q = Q v S := by
  simp [oSub1, oSel, isDict, oIdx, itemsOf, e, Ret]
theorem r_subR {i : Int} {v : PV} (e : atI xs i = some v) : Ret (oSub1 (.rol xs) (.int i) S) Q = Q v S := by
  simp [oSub1, oSel, isDict, oIdx, itemsOf, e, Ret]
theorem r_add {i j : Int} : Ret (oAdd (.int i) (.int j) S) Q = Q (.int (i + j)) S := id rfl
theorem r_sub {i j : Int} : Ret (oSub (.int i) (.int j) S) Q = Q (.int (i - j)) S := id rfl
theorem r_cmp {p : Int → Int → Bool} {i j : Int} : Ret (oCmp p (.int i) (.int j) S) Q = Q (.bl (p i j)) S := id rfl
theorem r_mul {i j : Int} (h : CMul i j ∨ CMulW i j) : Ret (oMul (.int i) (.int j) S) Q = Q (.int (i * j)) S := by simp [oMul, h, Ret]
theorem r_mod {i j : Int} (h : 0 < j) : Ret (oMod (.int i) (.int j) S) Q = Q (.int (i % j)) S := by
  simp [oMod, show j ≠ 0 by omega, Ret, Int.fmod_eq_emod_of_nonneg i (Int.le_of_lt h)]
theorem r_pow {i : Int} {k : Nat} (h : CPow i k) : Ret (oPow (.int i) (.int k) S) Q = Q (.int (i ^ k)) S := by simp [oPow, h, Ret]
theorem at_nat {α : Type} {xs : List α} {k : Nat} {v : α} (h : xs[k]? = some v) : atI xs (k : Int) = some v := L2.atI_nat h
theorem r_put {i : Int} {v : PV} (h : S[n]? = some (.lst xs)) (h0 : 0 ≤ i) (h1 : i.toNat < xs.length) : oPut (.loc n) (.int i) v S = some (S.set n (.lst (xs.set i.toNat v))) := by
  have e : ixN xs.length i = some i.toNat := by unfold ixN; rw [if_pos h0, if_pos (by omega)]
  simp [oPut, h, e]
end

/-! ### the source of draws -/
/-- a box with its three numbers; c: how many draws were made -/
structure Box (b : Nat) (S : Ms) (c : Int) : Prop where
  ex : ∃ x y : Int, S[b]? = some (.lst [.int x, .int y, .int c]) ∧ 0 ≤ x ∧ 0 ≤ y ∧ y < 4611686018427387904
  nn : 0 ≤ c
theorem Box.lt {b : Nat} {S : Ms} {c : Int} (h : Box b S c) : b < S.length := let ⟨_, _, e, _⟩ := h.ex; lt_of_get e
theorem Box.fr {b : Nat} {S S' : Ms} {c : Int} (h : Box b S c) {ms : List Nat} (f : Fr ms S S') (hb : b ∉ ms) : Box b S' c :=
  ⟨let ⟨x, y, e, r⟩ := h.ex; ⟨x, y, f.get e hb, r⟩, h.nn⟩
/-- a draw of one number below n: at most k more draws are counted -/
def Drew (b : Nat) (S : Ms) (c : Int) (k : Int) (S' : Ms) : Prop := Fr [b] S S' ∧ ∃ c', c ≤ c' ∧ c' ≤ c + k ∧ Box b S' c'
theorem Drew.refl {b : Nat} {S : Ms} {c : Int} (h : Box b S c) : Drew b S c 0 S := ⟨.refl _ _, c, by omega, by omega, h⟩

theorem CMul.sm {i j : Int} (h : 0 ≤ i) (h2 : i < 2 ^ 64) : CMul i j ∨ CMulW i j := .inl (.inl ⟨by omega, h2⟩)
theorem CMul.sr {i j : Int} (h : 0 ≤ j) (h2 : j < 2 ^ 64) : CMul i j ∨ CMulW i j := .inl (.inr ⟨by omega, h2⟩)
end MP

set_option maxRecDepth 100000
namespace MP
open PySem PySem.Spec PyProof.Rows L2
/-! ### loops -/
def nxO : Option PV → Nx | some v => .yld v | none => .stop
section
variable {env : Env'} {S : Ms} {m n k : ME} {ml mk : ML} {t u : MB} {p q : MS} {mi : MI} {src : Src} {g : MG} {Q : PV → Ms → Prop} {QI : Src → Ms → Prop} {D : Qs} {vl : List Nat}
theorem q_for : RetS (sFor mi g p env S) D = Ret (mi env S) fun src S1 => RetS (loopM src g p fuel 0 env S1) D := by unfold sFor; cases mi env S <;> rfl
theorem i_of : Ret (iOf m env S) QI = Ret (m env S) fun v S1 => ∃ s, srcOf S1 v = some s ∧ QI s S1 := by
  unfold iOf
  cases m env S with
  | ret v S1 => simp only [ret_ret]; cases h : srcOf S1 v <;> simp [Ret]
  | exc _ _ => rfl
  | fail => rfl
theorem i_rg {f : List PV → Option Src} : Ret (iRg f ml env S) QI = Ret (ml env S) fun vs S1 => ∃ s, f vs = some s ∧ QI s S1 := by
  unfold iRg
  cases ml env S with
  | ret v S1 => simp only [ret_ret]; cases h : f v <;> simp [Ret]
  | exc _ _ => rfl
  | fail => rfl
theorem i_st {f : Ms → List PV → Option Src} : Ret (iSt f ml env S) QI = Ret (ml env S) fun vs S1 => ∃ s, f S1 vs = some s ∧ QI s S1 := by
  unfold iSt
  cases ml env S with
  | ret v S1 => simp only [ret_ret]; cases h : f S1 v <;> simp [Ret]
  | exc _ _ => rfl
  | fail => rfl
theorem loop_ok (vs : List PV) (I : Nat → Env' → Ms → Prop) (hn : ∀ i e S, I i e S → nxt S i src = nxO vs[i]?)
    (hs : ∀ i v e S, vs[i]? = some v → I i e S → ∃ e1, g v e = some e1 ∧ RetS (p e1 S) { nx := I (i + 1), ct := I (i + 1), bk := D.nx, rt := D.rt })
    (hd : ∀ e S, I vs.length e S → D.nx e S) : ∀ (f i : Nat) (env : Env') (S : Ms), i ≤ vs.length → vs.length < i + f → I i env S → RetS (loopM src g p f i env S) D
  | 0, i, env, S, h1, h2, _ => absurd h2 (by omega)
  | f + 1, i, env, S, h1, h2, hI => by
    unfold loopM
    rw [hn i env S hI]
    cases e : vs[i]? with
    | none =>
      have : i = vs.length := by have := List.getElem?_eq_none_iff.mp e; omega
      subst this
      exact hd env S hI
    | some v =>
      simp only [nxO]
      obtain ⟨e1, g1, b1⟩ := hs i v env S e hI
      have hlt := (List.getElem?_eq_some_iff.mp e).1
      simp only [g1]
      cases hb : p e1 S with
      | nx e2 S2 => rw [hb] at b1; exact loop_ok vs I hn hs hd f (i + 1) e2 S2 (by omega) (by omega) b1
      | ct e2 S2 => rw [hb] at b1; exact loop_ok vs I hn hs hd f (i + 1) e2 S2 (by omega) (by omega) b1
      | bk e2 S2 => rw [hb] at b1; exact b1
      | rt v S2 => rw [hb] at b1; exact b1
      | exc _ _ _ => rw [hb] at b1; exact b1
      | fail => rw [hb] at b1; exact b1
theorem q_loop (vs : List PV) (I : Nat → Env' → Ms → Prop) (hl : vs.length < fuel) (h0 : I 0 env S) (hn : ∀ i e S, I i e S → nxt S i src = nxO vs[i]?)
    (hs : ∀ i v e S, vs[i]? = some v → I i e S → ∃ e1, g v e = some e1 ∧ RetS (p e1 S) { nx := I (i + 1), ct := I (i + 1), bk := D.nx, rt := D.rt })
    (hd : ∀ e S, I vs.length e S → D.nx e S) : RetS (loopM src g p fuel 0 env S) D := loop_ok vs I hn hs hd fuel 0 env S (Nat.zero_le _) (by omega) h0
theorem r_mLc : Ret (mLc mi g t m vl env S) Q = Ret (mi env S) fun src S1 => Ret (lcM src g t m vl S1.length env fuel 0 (S1 ++ [.lst []])) Q := by unfold mLc; cases mi env S <;> rfl
theorem lc_okM {l : Nat} (vs : List PV) (hv : vs.length ≤ lim) (I : Nat → List PV → Ms → Prop) (hn : ∀ i acc S, I i acc S → nxt S i src = nxO vs[i]? ∧ S[l]? = some (.lst acc))
    (hs : ∀ i v acc S, vs[i]? = some v → I i acc S → S[l]? = some (.lst acc) → ∃ e1, g v (wipeE env vl) = some e1 ∧ Ret (t e1 S) fun b S1 => if b = true then Ret (m e1 S1) fun y S2 => S2[l]? = some (.lst acc) ∧ I (i + 1) (acc ++ [y]) (S2.set l (.lst (acc ++ [y]))) else I (i + 1) acc S1)
    (hd : ∀ acc S, I vs.length acc S → Q (.loc l) S) : ∀ (f i : Nat) (acc : List PV) (S : Ms), i ≤ vs.length → vs.length < i + f → acc.length ≤ i → I i acc S → Ret (lcM src g t m vl l env f i S) Q
  | 0, i, acc, S, h1, h2, _, _ => absurd h2 (by omega)
  | f + 1, i, acc, S, h1, h2, h3, hI => by
    unfold lcM
    obtain ⟨n1, n2⟩ := hn i acc S hI
    rw [n1]
    cases e : vs[i]? with
    | none =>
      have : i = vs.length := by have := List.getElem?_eq_none_iff.mp e; omega
      subst this
      exact hd acc S hI
    | some v =>
      simp only [nxO]
      obtain ⟨e1, g1, b1⟩ := hs i v acc S e hI n2
      have hlt := (List.getElem?_eq_some_iff.mp e).1
      simp only [g1]
      cases ht : t e1 S with
      | ret b S1 =>
        rw [ht] at b1
        cases b with
        | true =>
          replace b1 : Ret (m e1 S1) _ := b1
          simp only []
          cases hm : m e1 S1 with
          | ret y S2 =>
            rw [hm] at b1
            obtain ⟨c1, c2⟩ := b1
            simp only [c1]
            rw [if_pos (by omega)]
            exact lc_okM vs hv I hn hs hd f (i + 1) _ _ (by omega) (by omega) (by rw [List.length_append]; simp; omega) c2
          | exc _ _ => rw [hm] at b1; exact b1
          | fail => rw [hm] at b1; exact b1
        | false =>
          exact lc_okM vs hv I hn hs hd f (i + 1) _ _ (by omega) (by omega) (by omega) b1
      | exc _ _ => rw [ht] at b1; exact b1
      | fail => rw [ht] at b1; exact b1
theorem r_lc {l : Nat} (vs : List PV) (hv : vs.length ≤ lim) (I : Nat → List PV → Ms → Prop) (h0 : I 0 [] S) (hn : ∀ i acc S, I i acc S → nxt S i src = nxO vs[i]? ∧ S[l]? = some (.lst acc))
    (hs : ∀ i v acc S, vs[i]? = some v → I i acc S → S[l]? = some (.lst acc) → ∃ e1, g v (wipeE env vl) = some e1 ∧ Ret (t e1 S) fun b S1 => if b = true then Ret (m e1 S1) fun y S2 => S2[l]? = some (.lst acc) ∧ I (i + 1) (acc ++ [y]) (S2.set l (.lst (acc ++ [y]))) else I (i + 1) acc S1)
    (hd : ∀ acc S, I vs.length acc S → Q (.loc l) S) : Ret (lcM src g t m vl l env fuel 0 S) Q :=
  lc_okM vs hv I hn hs hd fuel 0 [] S (Nat.zero_le _) (by rw [Nat.zero_add]; exact Nat.lt_of_le_of_lt hv (by decide)) (Nat.zero_le _) h0
theorem r_bYes {e : Env'} {QB : Bool → Ms → Prop} : Ret (bYes e S) QB = QB true S := id rfl
end
/-! ### sequences -/
/-- v stands for the sequence xs -/
def Sq (S : Ms) (v : PV) (xs : List PV) : Prop := itemsOf S v = some xs
/-- v is none of the objects ms -/
def Off (v : PV) (ms : List Nat) : Prop := ∀ n ∈ ms, v ≠ .loc n
theorem Sq.tup {S : Ms} {xs : List PV} : Sq S (.tup xs) xs := rfl
theorem Sq.rol {S : Ms} {xs : List PV} : Sq S (.rol xs) xs := rfl
theorem Sq.loc {S : Ms} {n : Nat} {xs : List PV} (h : S[n]? = some (.lst xs)) : Sq S (.loc n) xs := by simp [Sq, itemsOf, h]
theorem Sq.at {S : Ms} {n : Nat} {xs : List PV} (h : Sq S (.loc n) xs) : S[n]? = some (.lst xs) := by
  simp only [Sq, itemsOf] at h
  split at h
  · rename_i q; cases h; exact q
  · cases h
theorem Sq.fr {S S' : Ms} {v : PV} {xs : List PV} {ms : List Nat} (h : Sq S v xs) (f : Fr ms S S') (o : Off v ms) : Sq S' v xs := by
  cases v with
  | loc n => exact .loc (f.get h.at fun z => o n z rfl)
  | tup ys => exact h
  | rol ys => exact h
  | non => cases h
  | bl b => cases h
  | int i => cases h
  | str s => cases h
theorem Sq.lt {S : Ms} {n : Nat} {xs : List PV} (h : Sq S (.loc n) xs) : n < S.length := lt_of_get h.at
theorem Off.nil {v : PV} : Off v [] := fun _ h => nomatch h
theorem Off.tup {xs : List PV} {ms : List Nat} : Off (.tup xs) ms := fun _ _ h => nomatch h
theorem Off.rol {xs : List PV} {ms : List Nat} : Off (.rol xs) ms := fun _ _ h => nomatch h
theorem Off.loc {n : Nat} {ms : List Nat} (h : n ∉ ms) : Off (.loc n) ms := fun k hk e => h (by cases e; exact hk)
/-- a value that stood before is not a new one -/
theorem Off.old {S : Ms} {v : PV} {xs : List PV} (h : Sq S v xs) {n : Nat} (hn : S.length ≤ n) : Off v [n] := fun k hk e => by
  rw [List.mem_singleton] at hk; subst hk; subst e; have := h.lt; omega
theorem Off.cons {v : PV} {n : Nat} {ms : List Nat} (a : Off v [n]) (b : Off v ms) : Off v (n :: ms) := fun k hk e => by
  rcases List.mem_cons.mp hk with z | z
  · exact a k (by rw [z]; simp) e
  · exact b k z e
theorem enm_sq {S : Ms} {n : Nat} {xs : List PV} (h : S[n]? = some (.lst xs)) : enmOf S [.loc n] = some (.enm n) := by simp [enmOf, rdL, h]
theorem enm_nx {S : Ms} {n : Nat} {xs : List PV} (h : S[n]? = some (.lst xs)) (i : Nat) : nxt S i (.enm n) = nxO (xs[i]?.map fun v => .tup [.int i, v]) := by
  simp only [nxt, rdL, h]; cases xs[i]? <;> rfl
theorem rng1_ok {j : Int} (h : 0 ≤ j ∧ j < 2 ^ 62) : rng1 [.int j] = some (.rng 0 j.toNat) := by
  simp only [rng1]
  rw [if_pos (by simp [big62]; omega)]
theorem rng_nx {S : Ms} {n i : Nat} : nxt S i (.rng 0 n) = nxO ((List.range n)[i]?.map fun (k : Nat) => PV.int k) := by
  simp only [nxt]
  by_cases h : i < n
  · rw [if_pos h, List.getElem?_range h]; simp [nxO]
  · rw [if_neg h, List.getElem?_eq_none (by simp; omega)]; rfl
section
variable {S : Ms} {Q : PV → Ms → Prop} {n m : Nat} {xs ys : List PV} {v w : PV}
theorem r_len (h : Sq S v xs) : Ret (oLen [v] S) Q = Q (.int xs.length) S := by
  cases v with
  | tup ys => cases h; rfl
  | rol ys => cases h; rfl
  | loc n => simp only [oLen, h.at]; rfl
  | non => cases h
  | bl b => cases h
  | int i => cases h
  | str s => cases h
theorem r_sub1 {i : Int} (h : Sq S v xs) (e : atI xs i = some w) : Ret (oSub1 v (.int i) S) Q = Q w S := by
  cases v with
  | tup ys => cases h; exact r_subT e
  | rol ys => cases h; exact r_subR e
  | loc n => exact r_subL h.at e
  | non => cases h
  | bl b => cases h
  | int i => cases h
  | str s => cases h
theorem r_listOf (h : Sq S v xs) : Ret (oListOf [v] S) Q = Q (.loc S.length) (S ++ [.lst xs]) := by
  cases v with
  | tup ys => cases h; rfl
  | rol ys => cases h; rfl
  | loc n => simp only [oListOf, h.at]; rfl
  | non => cases h
  | bl b => cases h
  | int i => cases h
  | str s => cases h
theorem r_list (h : xs.length ≤ lim) : Ret (oList xs S) Q = Q (.loc S.length) (S ++ [.lst xs]) := by simp [oList, h, Ret]
end
end MP

set_option maxRecDepth 100000
namespace MP
open PySem PySem.Spec PyProof.Rows L2
/-! ### values that read as data -/
inductive Rd (S : Ms) : Nat → PV → PyData → Prop
  | non {k : Nat} : Rd S k .non .none
  | bl {k : Nat} (b : Bool) : Rd S k (.bl b) (.bool b)
  | int {k : Nat} (i : Int) : Rd S k (.int i) (.int i)
  | str {k : Nat} (s : Str) (h : PyData.canLay0 (.str s) = true) : Rd S k (.str s) (.str s)
  | tup {k : Nat} {xs : List PV} {ds : List PyData} (hb : ds.length ≤ 10000000) (hl : xs.length = ds.length) (h : ∀ (i : Nat) x d, xs[i]? = some x → ds[i]? = some d → Rd S k x d) : Rd S (k + 1) (.tup xs) (.tuple ds)
  | lst {k n : Nat} {xs : List PV} {ds : List PyData} (e : S[n]? = some (.lst xs)) (hb : ds.length ≤ 10000000) (hl : xs.length = ds.length) (h : ∀ (i : Nat) x d, xs[i]? = some x → ds[i]? = some d → Rd S k x d) : Rd S (k + 1) (.loc n) (.list ds)
theorem toDs_of {S : Ms} {k : Nat} : ∀ {xs : List PV} {ds : List PyData}, xs.length = ds.length → (∀ (i : Nat) x d, xs[i]? = some x → ds[i]? = some d → toD S k x = some d) → toDs S k xs = some ds
  | [], [], _, _ => by unfold toDs; rfl
  | x :: xs, d :: ds, hl, h => by
    unfold toDs
    rw [h 0 x d rfl rfl, toDs_of (by simpa using hl) fun i x d h1 h2 => h (i + 1) x d h1 h2]
  | [], _ :: _, hl, _ => by cases hl
  | _ :: _, [], hl, _ => by cases hl
theorem Rd.toD {S : Ms} {k : Nat} {x : PV} {d : PyData} (h : Rd S k x d) : MP.toD S k x = some d := by
  induction h with
  | non => unfold MP.toD; rfl
  | bl b => unfold MP.toD; rfl
  | int i => unfold MP.toD; rfl
  | str s _ => unfold MP.toD; rfl
  | tup hb hl h ih => unfold MP.toD; rw [toDs_of hl ih]; rfl
  | lst e hb hl h ih => unfold MP.toD; simp only [e]; rw [toDs_of hl ih]; rfl
theorem lay_of : ∀ {ds : List PyData}, (∀ (i : Nat) (d : PyData), ds[i]? = some d → d.canLay0 = true) → PyData.canLayAll0 ds = true
  | [], _ => rfl
  | d :: ds, h => by unfold PyData.canLayAll0; rw [h 0 d rfl, lay_of fun i d e => h (i + 1) d e]; rfl
theorem dep_of {k : Nat} : ∀ {ds : List PyData}, (∀ (i : Nat) (d : PyData), ds[i]? = some d → d.depth ≤ k) → PyData.depthAll ds ≤ k
  | [], _ => Nat.zero_le _
  | d :: ds, h => by unfold PyData.depthAll; exact Nat.max_le.mpr ⟨h 0 d rfl, dep_of fun i d e => h (i + 1) d e⟩
theorem get_both {xs : List PV} {ds : List PyData} (hl : xs.length = ds.length) {i : Nat} {d : PyData} (h : ds[i]? = some d) : ∃ x, xs[i]? = some x := by
  have := (List.getElem?_eq_some_iff.mp h).1
  exact ⟨xs[i], List.getElem?_eq_getElem (by omega)⟩
theorem Rd.lay {S : Ms} {k : Nat} {x : PV} {d : PyData} (h : Rd S k x d) : d.canLay0 = true := by
  induction h with
  | non => rfl
  | bl b => rfl
  | int i => rfl
  | str s h => exact h
  | tup hb hl h ih => unfold PyData.canLay0; exact lay_of fun i d e => let ⟨x, hx⟩ := get_both hl e; ih i x d hx e
  | lst _ hb hl h ih => unfold PyData.canLay0; exact lay_of fun i d e => let ⟨x, hx⟩ := get_both hl e; ih i x d hx e
theorem Rd.dep {S : Ms} {k : Nat} {x : PV} {d : PyData} (h : Rd S k x d) : d.depth ≤ k := by
  induction h with
  | non => exact Nat.zero_le _
  | bl b => exact Nat.zero_le _
  | int i => exact Nat.zero_le _
  | str s h => exact Nat.zero_le _
  | tup hb hl h ih => unfold PyData.depth; exact Nat.succ_le_succ (dep_of fun i d e => let ⟨x, hx⟩ := get_both hl e; ih i x d hx e)
  | lst _ hb hl h ih => unfold PyData.depth; exact Nat.succ_le_succ (dep_of fun i d e => let ⟨x, hx⟩ := get_both hl e; ih i x d hx e)
theorem Rd.up {S : Ms} {k : Nat} {x : PV} {d : PyData} (h : Rd S k x d) : ∀ {m : Nat}, k ≤ m → Rd S m x d := by
  induction h with
  | non => intro m _; exact .non
  | bl b => intro m _; exact .bl b
  | int i => intro m _; exact .int i
  | str s h => intro m _; exact .str s h
  | tup hb hl h ih => intro m hm; cases m with
    | zero => omega
    | succ m => exact .tup hb hl fun i x d h1 h2 => ih i x d h1 h2 (by omega)
  | lst e hb hl h ih => intro m hm; cases m with
    | zero => omega
    | succ m => exact .lst e hb hl fun i x d h1 h2 => ih i x d h1 h2 (by omega)
theorem eq_rd {S : Ms} {x y : PV} {d e : PyData} (h1 : Rd S 12 x d) (h2 : Rd S 12 y e) : eqD S x y = some (PyData.eqv d e) := by
  have s1 : SeqAt.shaped d = true := by unfold SeqAt.shaped; rw [h1.lay]; simp; have := h1.dep; omega
  have s2 : SeqAt.shaped e = true := by unfold SeqAt.shaped; rw [h2.lay]; simp; have := h2.dep; omega
  simp only [eqD, h1.toD, h2.toD, s1, s2, Bool.and_self, if_true]
theorem r_ne {S : Ms} {x y : PV} {d e : PyData} {Q : PV → Ms → Prop} (h1 : Rd S 12 x d) (h2 : Rd S 12 y e) : Ret (oNe x y S) Q = Q (.bl (!PyData.eqv d e)) S := by
  simp [oNe, eq_rd h1 h2, Ret]
/-! equal data -/
mutual
/-- neither truth values nor dicts within -/
def noB : PyData → Bool
  | .bool _ => false
  | .dict _ => false
  | .list xs => noBs xs
  | .tuple xs => noBs xs
  | _ => true
def noBs : List PyData → Bool
  | [] => true
  | x :: xs => noB x && noBs xs
end
mutual
theorem eqv_iff : ∀ (d e : PyData), noB d = true → noB e = true → (PyData.eqv d e = true ↔ d = e)
  | .none, e, _, h2 => by cases e <;> simp_all [PyData.eqv, noB]
  | .bool _, _, h, _ => by cases h
  | .dict _, _, h, _ => by cases h
  | .int i, e, _, h2 => by cases e <;> simp_all [PyData.eqv, noB]
  | .str s, e, _, h2 => by cases e <;> simp_all [PyData.eqv, noB]
  | .list xs, e, h1, h2 => by
    cases e with
    | list ys => rw [PyData.eqv, eqvs_iff xs ys (by simpa [noB] using h1) (by simpa [noB] using h2)]; simp
    | _ => simp [PyData.eqv]
  | .tuple xs, e, h1, h2 => by
    cases e with
    | tuple ys => rw [PyData.eqv, eqvs_iff xs ys (by simpa [noB] using h1) (by simpa [noB] using h2)]; simp
    | _ => simp [PyData.eqv]
theorem eqvs_iff : ∀ (xs ys : List PyData), noBs xs = true → noBs ys = true → (PyData.eqvAll xs ys = true ↔ xs = ys)
  | [], ys, _, _ => by cases ys <;> simp [PyData.eqvAll]
  | x :: xs, [], _, _ => by simp [PyData.eqvAll]
  | x :: xs, y :: ys, h1, h2 => by
    simp only [noBs, Bool.and_eq_true] at h1 h2
    simp only [PyData.eqvAll, Bool.and_eq_true, eqv_iff x y h1.1 h2.1, eqvs_iff xs ys h1.2 h2.2, List.cons.injEq]
end
theorem eqv_dec {d e : PyData} {p : Prop} [Decidable p] (h1 : noB d = true) (h2 : noB e = true) (h : d = e ↔ p) : PyData.eqv d e = decide p := by
  by_cases hp : p
  · rw [decide_eq_true hp, eqv_iff d e h1 h2]; exact h.mpr hp
  · rw [decide_eq_false hp]
    cases hq : PyData.eqv d e with
    | false => rfl
    | true => exact absurd (h.mp ((eqv_iff d e h1 h2).mp hq)) hp
/-! ### lists of whole numbers that are not negative -/
abbrev iv (n : Nat) : PV := .int n
abbrev dv (n : Nat) : PyData := .int n
abbrev ivs (ns : List Nat) : List PV := ns.map iv
abbrev dvs (ns : List Nat) : List PyData := ns.map dv
theorem noBs_dvs : ∀ ns, noBs (dvs ns) = true
  | [] => rfl
  | n :: ns => by simp only [dvs, List.map_cons, noBs, noB, Bool.true_and]; exact noBs_dvs ns
theorem dvs_inj {ns ms : List Nat} : dvs ns = dvs ms ↔ ns = ms := by
  constructor
  · intro h
    exact List.map_inj_right (f := dv) (fun a b e => by simp only [dv, PyData.int.injEq] at e; omega) |>.mp h
  · intro h; rw [h]
theorem rd_pt {S : Ms} {k : Nat} {α : Type} {l : List α} {f : α → PV} {g : α → PyData} (h : ∀ a ∈ l, Rd S k (f a) (g a)) : (l.map f).length = (l.map g).length ∧ ∀ (i : Nat) x d, (l.map f)[i]? = some x → (l.map g)[i]? = some d → Rd S k x d := by
  refine ⟨by simp, fun i x d h1 h2 => ?_⟩
  rw [List.getElem?_map] at h1 h2
  cases e : l[i]? with
  | none => rw [e] at h1; cases h1
  | some a => rw [e] at h1 h2; cases h1; cases h2; exact h a (List.mem_of_getElem? e)
theorem Rd.lstM {S : Ms} {k n : Nat} {α : Type} {l : List α} {f : α → PV} {g : α → PyData} (e : S[n]? = some (.lst (l.map f))) (hb : l.length ≤ 10000000) (h : ∀ a ∈ l, Rd S k (f a) (g a)) : Rd S (k + 1) (.loc n) (.list (l.map g)) := .lst e (by simpa using hb) (rd_pt h).1 (rd_pt h).2
theorem Rd.ilst {S : Ms} {k n : Nat} {ns : List Nat} (e : S[n]? = some (.lst (ivs ns))) (hb : ns.length ≤ 10000000) : Rd S (k + 1) (.loc n) (.list (dvs ns)) := .lstM e hb fun a _ => .int _
theorem eqv_ilst (ns ms : List Nat) : PyData.eqv (.list (dvs ns)) (.list (dvs ms)) = decide (ns = ms) :=
  eqv_dec (by simp [noB, noBs_dvs]) (by simp [noB, noBs_dvs]) (by simp only [PyData.list.injEq]; exact dvs_inj)
end MP

set_option maxRecDepth 100000
namespace MP
open PySem PySem.Spec PyProof.Rows L2
/-! ### values as pure data: lists and dicts are values, too -/
inductive D where
  | non | bl (b : Bool) | int (i : Int) | str (s : Str) | tup (xs : List D) | lst (xs : List D)
  | dK (kvs : List (Key × D)) | dT (kvs : List (List Key × D)) | obj (c : Str) (fs : List (Str × D))
instance : Inhabited D := ⟨.non⟩
abbrev DE := List (Option D)
section
variable (S : Ms)
mutual
/-- v stands for the data d and leads to none of the places X -/
inductive Rp : List Nat → PV → D → Prop
  | non {X} : Rp X .non .non
  | bl {X} (b : Bool) : Rp X (.bl b) (.bl b)
  | int {X} (i : Int) : Rp X (.int i) (.int i)
  | str {X} (s : Str) : Rp X (.str s) (.str s)
  | tup {X xs ds} : Rps X xs ds → Rp X (.tup xs) (.tup ds)
  | loc {X n o d} : n ∉ X → S[n]? = some o → Cont X o d → Rp X (.loc n) d
inductive Rps : List Nat → List PV → List D → Prop
  | nil {X} : Rps X [] []
  | cons {X x d xs ds} : Rp X x d → Rps X xs ds → Rps X (x :: xs) (d :: ds)
inductive Cont : List Nat → Ob → D → Prop
  | lst {X xs ds} : Rps X xs ds → Cont X (.lst xs) (.lst ds)
  | dK {X ks xs ds} : Rps X xs ds → Cont X (.dK (List.zip ks xs)) (.dK (List.zip ks ds))
  | dT {X ks xs ds} : Rps X xs ds → Cont X (.dT (List.zip ks xs)) (.dT (List.zip ks ds))
  | obj {X c ks xs ds} : Rps X xs ds → Cont X (.ins c (List.zip ks xs)) (.obj c (List.zip ks ds))
end
end
mutual
theorem Rp.mono {S S' : Ms} {X X' : List Nat} (h1 : ∀ n, n ∉ X → n < S.length → n ∉ X' ∧ S'[n]? = S[n]?) : ∀ {v : PV} {d : D}, Rp S X v d → Rp S' X' v d
  | _, _, .non => .non
  | _, _, .bl b => .bl b
  | _, _, .int i => .int i
  | _, _, .str s => .str s
  | _, _, .tup h => .tup (Rps.mono h1 h)
  | _, _, .loc hn e c => .loc (h1 _ hn (lt_of_get e)).1 (by rw [(h1 _ hn (lt_of_get e)).2]; exact e) (Cont.mono h1 c)
theorem Rps.mono {S S' : Ms} {X X' : List Nat} (h1 : ∀ n, n ∉ X → n < S.length → n ∉ X' ∧ S'[n]? = S[n]?) : ∀ {v : List PV} {d : List D}, Rps S X v d → Rps S' X' v d
  | _, _, .nil => .nil
  | _, _, .cons h t => .cons (Rp.mono h1 h) (Rps.mono h1 t)
theorem Cont.mono {S S' : Ms} {X X' : List Nat} (h1 : ∀ n, n ∉ X → n < S.length → n ∉ X' ∧ S'[n]? = S[n]?) : ∀ {v : Ob} {d : D}, Cont S X v d → Cont S' X' v d
  | _, _, .lst h => .lst (Rps.mono h1 h)
  | _, _, .dK h => .dK (Rps.mono h1 h)
  | _, _, .dT h => .dT (Rps.mono h1 h)
  | _, _, .obj h => .obj (Rps.mono h1 h)
end
section
variable {S S' : Ms} {X X' : List Nat} {v : PV} {d : D} {vs : List PV} {ds : List D}
/-- what lies outside of X stays while only X and what is new changes -/
theorem mono_of {M : List Nat} (f : Fr M S S') (hM : ∀ n ∈ M, n ∈ X ∨ S.length ≤ n) (hX : ∀ n ∈ X', n ∈ X ∨ S.length ≤ n) : ∀ n, n ∉ X → n < S.length → n ∉ X' ∧ S'[n]? = S[n]? := fun n hn hl =>
  ⟨fun z => (hX n z).elim hn (by omega), f.2 n hl fun z => (hM n z).elim hn (by omega)⟩
theorem Rp.fr {M : List Nat} (h : Rp S X v d) (f : Fr M S S') (hM : ∀ n ∈ M, n ∈ X ∨ S.length ≤ n) (hX : ∀ n ∈ X', n ∈ X ∨ S.length ≤ n) : Rp S' X' v d := h.mono (mono_of f hM hX)
theorem Rps.fr {M : List Nat} (h : Rps S X vs ds) (f : Fr M S S') (hM : ∀ n ∈ M, n ∈ X ∨ S.length ≤ n) (hX : ∀ n ∈ X', n ∈ X ∨ S.length ≤ n) : Rps S' X' vs ds := h.mono (mono_of f hM hX)
theorem Cont.fr {M : List Nat} {o : Ob} (h : Cont S X o d) (f : Fr M S S') (hM : ∀ n ∈ M, n ∈ X ∨ S.length ≤ n) (hX : ∀ n ∈ X', n ∈ X ∨ S.length ≤ n) : Cont S' X' o d := h.mono (mono_of f hM hX)
theorem Rp.lt {n : Nat} (h : Rp S X (.loc n) d) : n < S.length := by cases h; exact lt_of_get (by assumption)
theorem Rp.sub (h : Rp S X v d) (hX : ∀ n ∈ X', n ∈ X ∨ S.length ≤ n) : Rp S X' v d := h.fr (Fr.refl [] S) (fun _ h => nomatch h) hX
theorem Rps.sub (h : Rps S X vs ds) (hX : ∀ n ∈ X', n ∈ X ∨ S.length ≤ n) : Rps S X' vs ds := h.fr (Fr.refl [] S) (fun _ h => nomatch h) hX
theorem Cont.sub {o : Ob} (h : Cont S X o d) (hX : ∀ n ∈ X', n ∈ X ∨ S.length ≤ n) : Cont S X' o d := h.fr (Fr.refl [] S) (fun _ h => nomatch h) hX
theorem Rps.length : ∀ {vs : List PV} {ds : List D}, Rps S X vs ds → vs.length = ds.length
  | _, _, .nil => rfl
  | _, _, .cons _ t => by rw [List.length_cons, List.length_cons, Rps.length t]
theorem Rps.append : ∀ {vs : List PV} {ds : List D} {vs' : List PV} {ds' : List D}, Rps S X vs ds → Rps S X vs' ds' → Rps S X (vs ++ vs') (ds ++ ds')
  | _, _, _, _, .nil, h => h
  | _, _, _, _, .cons h t, h' => .cons h (Rps.append t h')
theorem Rps.get : ∀ {vs : List PV} {ds : List D} {i : Nat} {d : D}, Rps S X vs ds → ds[i]? = some d → ∃ v, vs[i]? = some v ∧ Rp S X v d
  | _, _, _, _, .nil, e => by simp at e
  | _, _, 0, d, .cons (x := v) h _, e => ⟨v, rfl, by simp at e; subst e; exact h⟩
  | _, _, i + 1, d, .cons _ t, e => by
    obtain ⟨v, h1, h2⟩ := Rps.get (i := i) (d := d) t (by simpa using e)
    exact ⟨v, by simpa using h1, h2⟩
theorem Rps.take : ∀ {vs : List PV} {ds : List D} (n : Nat), Rps S X vs ds → Rps S X (vs.take n) (ds.take n)
  | _, _, 0, _ => .nil
  | _, _, _ + 1, .nil => .nil
  | _, _, n + 1, .cons h t => .cons h (Rps.take n t)
theorem Rps.drop : ∀ {vs : List PV} {ds : List D} (n : Nat), Rps S X vs ds → Rps S X (vs.drop n) (ds.drop n)
  | _, _, 0, h => h
  | _, _, _ + 1, .nil => .nil
  | _, _, n + 1, .cons _ t => Rps.drop n t
theorem Rps.set (r : Rp S X v d) : ∀ {vs : List PV} {ds : List D} (i : Nat), Rps S X vs ds → Rps S X (vs.set i v) (ds.set i d)
  | _, _, _, .nil => .nil
  | _, _, 0, .cons _ t => .cons r t
  | _, _, i + 1, .cons q t => .cons q (Rps.set r i t)
theorem Rps.reverse : ∀ {vs : List PV} {ds : List D}, Rps S X vs ds → Rps S X vs.reverse ds.reverse
  | _, _, .nil => .nil
  | _, _, .cons h t => by rw [List.reverse_cons, List.reverse_cons]; exact (Rps.reverse t).append (.cons h .nil)
theorem Rps.eraseIdx : ∀ {vs : List PV} {ds : List D} (i : Nat), Rps S X vs ds → Rps S X (vs.eraseIdx i) (ds.eraseIdx i)
  | _, _, _, .nil => .nil
  | _, _, 0, .cons _ t => t
  | _, _, i + 1, .cons h t => .cons h (Rps.eraseIdx i t)
theorem Rps.snoc (h : Rps S X vs ds) (r : Rp S X v d) : Rps S X (vs ++ [v]) (ds ++ [d]) := h.append (.cons r .nil)
theorem Rps.rep : ∀ {vs : List PV} {ds : List D} (n : Nat), Rps S X vs ds → Rps S X (List.replicate n vs).flatten (List.replicate n ds).flatten
  | _, _, 0, _ => .nil
  | _, _, n + 1, h => by rw [List.replicate_succ, List.replicate_succ, List.flatten_cons, List.flatten_cons]; exact h.append (Rps.rep n h)
theorem Rps.flat {α : Type} {f : α → PV} {g : α → D} (hf : ∀ a, Rp S X (f a) (g a)) : ∀ l : List α, Rps S X (l.map f) (l.map g)
  | [] => .nil
  | a :: l => .cons (hf a) (Rps.flat hf l)
theorem Rps.ints (ns : List Int) : Rps S X (ns.map PV.int) (ns.map D.int) := .flat (fun i => .int i) ns
/-- data by pieces -/
theorem Rp.inv_int {i : Int} (h : Rp S X v (.int i)) : v = .int i := by
  cases h with
  | int => rfl
  | loc _ _ c => cases c
theorem Rp.inv_bl {i : Bool} (h : Rp S X v (.bl i)) : v = .bl i := by
  cases h with
  | bl => rfl
  | loc _ _ c => cases c
theorem Rp.inv_str {i : Str} (h : Rp S X v (.str i)) : v = .str i := by
  cases h with
  | str => rfl
  | loc _ _ c => cases c
theorem Rp.inv_non (h : Rp S X v .non) : v = .non := by
  cases h with
  | non => rfl
  | loc _ _ c => cases c
theorem Rp.inv_tup (h : Rp S X v (.tup ds)) : ∃ xs, v = .tup xs ∧ Rps S X xs ds := by
  cases h with
  | tup h => exact ⟨_, rfl, h⟩
  | loc _ _ c => cases c
theorem Rps.inv_ints : ∀ {vs : List PV} {ns : List Int}, Rps S X vs (ns.map D.int) → vs = ns.map PV.int
  | _, [], h => by cases h; rfl
  | _, n :: ns, h => by cases h with | cons h t => rw [h.inv_int, Rps.inv_ints t]; rfl
end
/-- a place can be read as data: a value, or the place of an owned object -/
inductive Rd' (S : Ms) (X : List Nat) : PV → D → Prop
  | vl {v d} : (∀ n, v ≠ .loc n) → Rp S X v d → Rd' S X v d
  | at_ {n o d} : S[n]? = some o → Cont S X o d → Rd' S X (.loc n) d
section
variable {S S' : Ms} {X X' : List Nat} {v : PV} {d : D} {vs : List PV} {ds : List D}
theorem Rp.rd (h : Rp S X v d) : Rd' S X v d := by
  cases h with
  | loc _ e c => exact .at_ e c
  | non => exact .vl (fun _ h => nomatch h) .non
  | bl b => exact .vl (fun _ h => nomatch h) (.bl b)
  | int b => exact .vl (fun _ h => nomatch h) (.int b)
  | str b => exact .vl (fun _ h => nomatch h) (.str b)
  | tup h => exact .vl (fun _ h => nomatch h) (.tup h)
theorem Rd'.sub (h : Rd' S X v d) (hX : ∀ n ∈ X', n ∈ X ∨ S.length ≤ n) : Rd' S X' v d := by
  cases h with
  | vl h r => exact .vl h (r.sub hX)
  | at_ e c => exact .at_ e (c.sub hX)
theorem Rd'.inv_int {i : Int} (h : Rd' S X v (.int i)) : v = .int i := by
  cases h with
  | vl _ h => exact h.inv_int
  | at_ _ c => cases c
theorem Rd'.inv_bl {i : Bool} (h : Rd' S X v (.bl i)) : v = .bl i := by
  cases h with
  | vl _ h => exact h.inv_bl
  | at_ _ c => cases c
theorem Rd'.inv_str {i : Str} (h : Rd' S X v (.str i)) : v = .str i := by
  cases h with
  | vl _ h => exact h.inv_str
  | at_ _ c => cases c
theorem Rd'.inv_non (h : Rd' S X v .non) : v = .non := by
  cases h with
  | vl _ h => exact h.inv_non
  | at_ _ c => cases c
theorem Rd'.inv_tup (h : Rd' S X v (.tup ds)) : ∃ xs, v = .tup xs ∧ Rps S X xs ds := by
  cases h with
  | vl _ h => exact h.inv_tup
  | at_ _ c => cases c
theorem Rd'.inv_lst (h : Rd' S X v (.lst ds)) : ∃ n xs, v = .loc n ∧ S[n]? = some (.lst xs) ∧ Rps S X xs ds := by
  cases h with
  | vl k h =>
    cases h with
    | loc _ e c => exact absurd rfl (k _)
  | at_ e c => cases c with | lst h => exact ⟨_, _, rfl, e, h⟩
end
/-- what is in d, if d has items -/
def itemsD : D → Option (List D)
  | .tup xs => some xs
  | .lst xs => some xs
  | _ => none
theorem items_rd {S : Ms} {X : List Nat} {v : PV} {d : D} {ds : List D} (h : Rd' S X v d) (e : itemsD d = some ds) : ∃ xs, itemsOf S v = some xs ∧ Rps S X xs ds := by
  cases d with
  | tup xs => cases e; obtain ⟨ys, rfl, h2⟩ := h.inv_tup; exact ⟨_, rfl, h2⟩
  | lst xs => cases e; obtain ⟨n, ys, rfl, e2, h2⟩ := h.inv_lst; exact ⟨ys, by simp [itemsOf, e2], h2⟩
  | _ => cases e
end MP

set_option maxRecDepth 100000
namespace MP
open PySem PySem.Spec PyProof.Rows L2
/-! ### slots: plain values, lists of one's own, what the caller lends -/
inductive Sh where | val | root | io
deriving DecidableEq
instance : Inhabited Sh := ⟨.val⟩
inductive SlotR (S : Ms) (X : List Nat) : Sh → Option PV → Option D → List Nat → Prop
  | empty {sh v} : SlotR S X sh v none []
  | val {v d} : Rp S X v d → SlotR S X .val (some v) (some d) []
  | flat {v d} : (∀ n, v ≠ .loc n) → Rp S X v d → SlotR S X .root (some v) (some d) []
  | root {sh n o d} : sh ≠ .val → S[n]? = some o → Cont S X o d → SlotR S X sh (some (.loc n)) (some d) [n]
structure EnvR (Y : List Nat) (sh : List Sh) (env : Env') (S : Ms) (e : DE) (fps : List (List Nat)) : Prop where
  l1 : env.length = e.length
  l2 : fps.length = e.length
  slot : ∀ i, SlotR S (Y ++ fps.flatten) (sh.getD i .val) (env.getD i none) (e.getD i none) (fps.getD i [])
  nd : fps.flatten.Nodup
  bd : ∀ y ∈ Y, y < S.length
  dj : ∀ i, sh.getD i .val ≠ .io → ∀ x ∈ fps.getD i [], x ∉ Y
def newL (S S' : Ms) : List Nat := List.range' S.length (S'.length - S.length)
theorem mem_newL {S S' : Ms} {n : Nat} : n ∈ newL S S' ↔ S.length ≤ n ∧ n < S'.length := by
  unfold newL; rw [List.mem_range']; constructor
  · rintro ⟨i, h, rfl⟩; omega
  · rintro ⟨h1, h2⟩; exact ⟨n - S.length, by omega, by omega⟩
def sel (mu : List Nat) (fps : List (List Nat)) : List Nat := (mu.map fun i => fps.getD i []).flatten
theorem mem_sel {mu : List Nat} {fps : List (List Nat)} {x : Nat} : x ∈ sel mu fps ↔ ∃ i ∈ mu, x ∈ fps.getD i [] := by
  unfold sel; rw [List.mem_flatten]; constructor
  · rintro ⟨l, hl, hx⟩; obtain ⟨i, hi, rfl⟩ := List.mem_map.mp hl; exact ⟨i, hi, hx⟩
  · rintro ⟨i, hi, hx⟩; exact ⟨_, List.mem_map.mpr ⟨i, hi, rfl⟩, hx⟩
theorem fp_in {fps : List (List Nat)} {i x : Nat} (h : x ∈ fps.getD i []) : x ∈ fps.flatten := by
  rw [List.getD_eq_getElem?_getD] at h
  cases e : fps[i]? with
  | none => rw [e] at h; cases h
  | some l => rw [e] at h; exact List.mem_flatten.mpr ⟨l, List.mem_of_getElem? e, h⟩
theorem fp_out {fps : List (List Nat)} {x : Nat} (h : x ∈ fps.flatten) : ∃ i, x ∈ fps.getD i [] := by
  obtain ⟨l, hl, hx⟩ := List.mem_flatten.mp h
  obtain ⟨i, hi, rfl⟩ := List.getElem_of_mem hl
  exact ⟨i, by rw [List.getD_eq_getElem?_getD, List.getElem?_eq_getElem hi]; exact hx⟩
theorem sel_in {mu : List Nat} {fps : List (List Nat)} {x : Nat} (h : x ∈ sel mu fps) : x ∈ fps.flatten := let ⟨_, _, h⟩ := mem_sel.mp h; fp_in h
/-- two slots share no place -/
theorem fp_disj {fps : List (List Nat)} (nd : fps.flatten.Nodup) {i j x : Nat} (hi : x ∈ fps.getD i []) (hj : x ∈ fps.getD j []) : i = j := by
  rw [List.getD_eq_getElem?_getD] at hi hj
  cases ei : fps[i]? with
  | none => rw [ei] at hi; cases hi
  | some l =>
    cases ej : fps[j]? with
    | none => rw [ej] at hj; cases hj
    | some k =>
      rw [ei] at hi; rw [ej] at hj
      obtain ⟨h1, rfl⟩ := List.getElem?_eq_some_iff.mp ei
      obtain ⟨h2, rfl⟩ := List.getElem?_eq_some_iff.mp ej
      have := (List.pairwise_flatten.mp nd).2
      have p := List.pairwise_iff_getElem.mp this
      rcases Nat.lt_trichotomy i j with q | q | q
      · exact absurd rfl (p i j h1 h2 q _ hi _ hj)
      · exact q
      · exact absurd rfl (p j i h2 h1 q _ hj _ hi)
theorem SlotR.mono {S S' : Ms} {X X' : List Nat} {sh : Sh} {v : Option PV} {d : Option D} {f : List Nat} (h : SlotR S X sh v d f) (h1 : ∀ n, n ∉ X → n < S.length → n ∉ X' ∧ S'[n]? = S[n]?) (h2 : ∀ n ∈ f, S'[n]? = S[n]?) : SlotR S' X' sh v d f := by
  cases h with
  | empty => exact .empty
  | val r => exact .val (r.mono h1)
  | flat k r => exact .flat k (r.mono h1)
  | root k e c => exact .root k (by rw [h2 _ (by simp)]; exact e) (c.mono h1)
theorem SlotR.lt {S : Ms} {X : List Nat} {sh : Sh} {v : Option PV} {d : Option D} {f : List Nat} (h : SlotR S X sh v d f) : ∀ n ∈ f, n < S.length := by
  cases h with
  | root k e c => intro n hn; rw [List.mem_singleton] at hn; subst hn; exact lt_of_get e
  | _ => intro n hn; cases hn
section
variable {Y Y' : List Nat} {sh : List Sh} {env : Env'} {S S' : Ms} {e e' : DE} {fps : List (List Nat)}
theorem EnvR.flt (E : EnvR Y sh env S e fps) : ∀ n ∈ fps.flatten, n < S.length := fun n hn => let ⟨i, hi⟩ := fp_out hn; (E.slot i).lt n hi
theorem EnvR.xlt (E : EnvR Y sh env S e fps) : ∀ n ∈ Y ++ fps.flatten, n < S.length := fun n hn => (List.mem_append.mp hn).elim (E.bd n) (E.flt n)
theorem EnvR.sub (E : EnvR Y sh env S e fps) (h : ∀ y ∈ Y', y ∈ Y) : EnvR Y' sh env S e fps :=
  ⟨E.l1, E.l2, fun i => (E.slot i).mono (fun n hn hl => ⟨fun z => hn ((List.mem_append.mp z).elim (fun z => List.mem_append_left _ (h n z)) (List.mem_append_right _)), rfl⟩) fun _ _ => rfl, E.nd, fun y hy => E.bd y (h y hy), fun i hi x hx z => E.dj i hi x hx (h x z)⟩
/-- nothing of what stood is changed -/
theorem EnvR.quiet (E : EnvR Y sh env S e fps) (f : Fr [] S S') : EnvR (Y ++ newL S S') sh env S' e fps :=
  ⟨E.l1, E.l2, fun i => (E.slot i).mono (fun n hn hl => ⟨fun z => by
      rcases List.mem_append.mp z with z | z
      · rcases List.mem_append.mp z with z | z
        · exact hn (List.mem_append_left _ z)
        · have := (mem_newL.mp z).1; omega
      · exact hn (List.mem_append_right _ z), f.2 n hl (by simp)⟩) fun n hn => f.2 n ((E.slot i).lt n hn) (by simp), E.nd, fun y hy => by
    rcases List.mem_append.mp hy with z | z
    · exact Nat.lt_of_lt_of_le (E.bd y z) f.1
    · exact (mem_newL.mp z).2, fun i hi x hx z => (List.mem_append.mp z).elim (E.dj i hi x hx) fun z => by have := (E.slot i).lt x hx; have := (mem_newL.mp z).1; omega⟩
theorem EnvR.app (E : EnvR Y sh env S e fps) {t : Ms} : EnvR (Y ++ newL S (S ++ t)) sh env (S ++ t) e fps := E.quiet (.app _ _ _)
theorem newL_self : newL S S = [] := by simp [newL]
theorem EnvR.same (E : EnvR Y sh env S e fps) : EnvR (Y ++ newL S S) sh env S e fps := E.sub fun y hy => by rw [newL_self, List.append_nil] at hy; exact hy
theorem EnvR.back (E : EnvR (Y ++ Y') sh env S e fps) : EnvR Y sh env S e fps := E.sub fun y hy => List.mem_append_left _ hy
end
/-! ### what comes of an expression -/
structure QX where
  cls : Str
  fs : List (Str × D)
inductive LO (α : Type) where
  | ret (a : α) (e : DE) | exc (x : QX) (e : DE) | fail
def LO.bind {α β : Type} (o : LO α) (f : α → DE → LO β) : LO β := match o with
  | .ret a e => f a e
  | .exc x e => .exc x e
  | .fail => .fail
inductive Kd where | new | val | rd (l : List Nat)
def NewR (S S' : Ms) (X : List Nat) (v : PV) (d : D) : Prop := Rp S' X v d ∧ ∀ n, v = .loc n → S.length ≤ n ∧ ∃ o, S'[n]? = some o ∧ Cont S' (n :: X) o d
def VK (k : Kd) (S S' : Ms) (X : List Nat) (fps : List (List Nat)) (v : PV) (d : D) : Prop := match k with
  | .new => NewR S S' X v d
  | .val => Rp S' X v d
  | .rd l => Rp S' X v d ∨ ∃ i ∈ l, ∃ n o, v = .loc n ∧ fps.getD i [] = [n] ∧ S'[n]? = some o ∧ Cont S' X o d
def XRp (S : Ms) (X : List Nat) (x : Ex) (q : QX) : Prop := x.cls = q.cls ∧ ∃ ks vs ds, x.fs = List.zip ks vs ∧ q.fs = List.zip ks ds ∧ Rps S X vs ds
structure Stp (Y : List Nat) (sh : List Sh) (mu : List Nat) (env : Env') (S : Ms) (e' : DE) (fps : List (List Nat)) (S' : Ms) : Prop where
  fr : Fr (sel mu fps) S S'
  er : EnvR (Y ++ newL S S') sh env S' e' fps
/-- m does what q says; mu: the lent slots that may be written; X: what the value must not lead to -/
def LPost {α β : Type} (V : Ms → Ms → List Nat → List (List Nat) → α → β → Prop) (X Y : List Nat) (sh : List Sh) (mu : List Nat) (env : Env') (S : Ms) (fps : List (List Nat)) (o : Out α) : LO β → Prop
  | .ret d e' => ∃ v S', o = .ret v S' ∧ Stp Y sh mu env S e' fps S' ∧ V S S' X fps v d
  | .exc q e' => ∃ x S', o = .exc x S' ∧ Stp Y sh mu env S e' fps S' ∧ XRp S' X x q
  | .fail => True
abbrev QE := DE → LO D
abbrev QL := DE → LO (List D)
abbrev QB := DE → LO Bool
def LE (sh : List Sh) (mu : List Nat) (k : Kd) (m : ME) (q : QE) : Prop := ∀ Y env S e fps, EnvR Y sh env S e fps → LPost (VK k) (Y ++ fps.flatten) Y sh mu env S fps (m env S) (q e)
def LB (sh : List Sh) (mu : List Nat) (t : MB) (q : QB) : Prop := ∀ Y env S e fps, EnvR Y sh env S e fps → LPost (fun _ _ _ _ b c => b = c) (Y ++ fps.flatten) Y sh mu env S fps (t env S) (q e)
inductive VKs (k : Kd) (S S' : Ms) (X : List Nat) (fps : List (List Nat)) : List PV → List D → Prop
  | nil : VKs k S S' X fps [] []
  | cons {v d vs ds} : VK k S S' X fps v d → VKs k S S' X fps vs ds → VKs k S S' X fps (v :: vs) (d :: ds)
def LL (sh : List Sh) (mu : List Nat) (k : Kd) (m : ML) (q : QL) : Prop := ∀ Y env S e fps, EnvR Y sh env S e fps → LPost (VKs k) (Y ++ fps.flatten) Y sh mu env S fps (m env S) (q e)
section
variable {Y Y' X X' : List Nat} {sh : List Sh} {mu mu' : List Nat} {env : Env'} {S S' S1 S2 : Ms} {e e' e1 e2 : DE} {fps : List (List Nat)} {v : PV} {d : D} {k : Kd}
theorem VK.up (h : VK k S S' X fps v d) : (k = .new ∨ k = .val) → Rp S' X v d := by
  rintro (rfl | rfl)
  · exact h.1
  · exact h
theorem NewR.val (h : NewR S S' X v d) : Rp S' X v d := h.1
theorem NewR.flat (h : Rp S' X v d) (k : ∀ n, v ≠ .loc n) : NewR S S' X v d := ⟨h, fun n e => absurd e (k n)⟩
theorem NewR.int (i : Int) : NewR S S' X (.int i) (.int i) := .flat (.int i) fun _ h => nomatch h
theorem NewR.bl (i : Bool) : NewR S S' X (.bl i) (.bl i) := .flat (.bl i) fun _ h => nomatch h
theorem NewR.str (i : Str) : NewR S S' X (.str i) (.str i) := .flat (.str i) fun _ h => nomatch h
theorem NewR.tup {vs : List PV} {ds : List D} (h : Rps S' X vs ds) : NewR S S' X (.tup vs) (.tup ds) := .flat (.tup h) fun _ h => nomatch h
/-- a new object -/
theorem NewR.app {o : Ob} (h : Cont S X o d) (hX : ∀ n ∈ X, n < S.length) : NewR S (S ++ [o]) X (.loc S.length) d := by
  have c : Cont (S ++ [o]) (S.length :: X) o d := h.fr (.app [] _ _) (fun _ h => nomatch h) fun n hn => (List.mem_cons.mp hn).elim (fun z => .inr (by omega)) .inl
  refine ⟨.loc (fun z => by have := hX _ z; omega) (get_new _ _) (c.sub fun n hn => .inl (List.mem_cons_of_mem _ hn)), fun n e => ?_⟩
  cases e
  exact ⟨Nat.le_refl _, o, get_new _ _, c⟩
theorem VK.more {l l' : List Nat} (h : VK (.rd l) S S' X fps v d) (hl : ∀ i ∈ l, i ∈ l') : VK (.rd l') S S' X fps v d :=
  h.elim .inl fun ⟨i, hi, r⟩ => .inr ⟨i, hl i hi, r⟩
theorem VK.rd (h : VK (.rd l) S S' X fps v d) : Rd' S' X v d := by
  rcases h with h | ⟨i, hi, n, o, rfl, _, e, c⟩
  · exact h.rd
  · exact .at_ e c
/-- a value is kept while what comes later writes only slots other than those it is read from -/
theorem VK.keep {l : List Nat} (h : VK (.rd l) S S1 X fps v d) (f : Fr (sel mu fps) S1 S2) (nd : fps.flatten.Nodup) (hX : ∀ n ∈ fps.flatten, n ∈ X) (hl : ∀ i ∈ l, i ∉ mu) : VK (.rd l) S S2 X fps v d := by
  rcases h with h | ⟨i, hi, n, o, rfl, ef, en, c⟩
  · exact .inl (h.fr f (fun n hn => .inl (hX n (sel_in hn))) fun n hn => .inl hn)
  · refine .inr ⟨i, hi, n, o, rfl, ef, ?_, c.fr f (fun n hn => .inl (hX n (sel_in hn))) fun n hn => .inl hn⟩
    rw [f.2 n (lt_of_get en) fun z => ?_]; exact en
    obtain ⟨j, hj, hx⟩ := mem_sel.mp z
    have := fp_disj nd (i := i) (j := j) (x := n) (by rw [ef]; simp) hx
    subst this; exact hl i hi hj
theorem VK.weaken (h : VK k S S' X fps v d) (hX : ∀ n ∈ X', n ∈ X) : VK k S S' X' fps v d := by
  cases k with
  | new => exact ⟨h.1.sub fun n hn => .inl (hX n hn), fun n e => let ⟨a, o, b, c⟩ := h.2 n e; ⟨a, o, b, c.sub fun m hm => (List.mem_cons.mp hm).elim (fun z => .inl (by rw [z]; simp)) fun z => .inl (List.mem_cons_of_mem _ (hX m z))⟩⟩
  | val => exact Rp.sub h fun n hn => .inl (hX n hn)
  | rd l => exact h.elim (fun h => .inl (h.sub fun n hn => .inl (hX n hn))) fun ⟨i, hi, n, o, a, b, c, dd⟩ => .inr ⟨i, hi, n, o, a, b, c, dd.sub fun n hn => .inl (hX n hn)⟩
theorem VK.from (h : VK k S1 S' X fps v d) (hl : S.length ≤ S1.length) : VK k S S' X fps v d := by
  cases k with
  | new => exact ⟨h.1, fun n e => let ⟨a, o, b, c⟩ := h.2 n e; ⟨by omega, o, b, c⟩⟩
  | val => exact h
  | rd l => exact h
theorem VKs.weaken : ∀ {vs : List PV} {ds : List D}, VKs k S S' X fps vs ds → (∀ n ∈ X', n ∈ X) → VKs k S S' X' fps vs ds
  | _, _, .nil, _ => .nil
  | _, _, .cons h t, hX => .cons (h.weaken hX) (VKs.weaken t hX)
theorem XRp.weaken {x : Ex} {q : QX} (h : XRp S X x q) (hX : ∀ n ∈ X', n ∈ X) : XRp S X' x q := let ⟨a, ks, vs, ds, b, c, r⟩ := h; ⟨a, ks, vs, ds, b, c, r.sub fun n hn => .inl (hX n hn)⟩
theorem sel_app {fps : List (List Nat)} {x : Nat} : x ∈ sel (mu ++ mu') fps ↔ x ∈ sel mu fps ∨ x ∈ sel mu' fps := by
  simp only [mem_sel, List.mem_append, or_and_right, exists_or]
theorem Stp.refl (E : EnvR Y sh env S e fps) : Stp Y sh mu env S e fps S := ⟨.refl _ _, E.same⟩
theorem Stp.quiet (E : EnvR Y sh env S e fps) (f : Fr [] S S') : Stp Y sh mu env S e fps S' := ⟨f.mono (by simp), E.quiet f⟩
theorem Stp.trans (a : Stp Y sh mu env S e1 fps S1) (b : Stp (Y ++ newL S S1) sh mu' env S1 e2 fps S2) : Stp Y sh (mu ++ mu') env S e2 fps S2 :=
  ⟨(a.fr.mono fun n h => sel_app.mpr (.inl h)).trans (b.fr.mono fun n h => sel_app.mpr (.inr h)), b.er.sub fun y hy => by
    rcases List.mem_append.mp hy with z | z
    · exact List.mem_append_left _ (List.mem_append_left _ z)
    · have z := mem_newL.mp z
      by_cases q : y < S1.length
      · exact List.mem_append_left _ (List.mem_append_right _ (mem_newL.mpr ⟨z.1, q⟩))
      · exact List.mem_append_right _ (mem_newL.mpr ⟨by omega, z.2⟩)⟩
theorem Stp.mono (a : Stp Y sh mu env S e1 fps S1) (h : ∀ i ∈ mu, i ∈ mu') : Stp Y sh mu' env S e1 fps S1 :=
  ⟨a.fr.mono fun n hn => let ⟨i, hi, hx⟩ := mem_sel.mp hn; mem_sel.mpr ⟨i, h i hi, hx⟩, a.er⟩
/-- two steps, one after the other -/
theorem LPost.seq {α β γ δ : Type} {V : Ms → Ms → List Nat → List (List Nat) → α → β → Prop} {V' : Ms → Ms → List Nat → List (List Nat) → γ → δ → Prop} {o : Out α} {q : LO β} {f : α → Ms → Out γ} {g : β → DE → LO δ}
    (h : LPost V X Y sh mu env S fps o q) (hV : ∀ S S1 S2 v d, S.length ≤ S1.length → V' S1 S2 X fps v d → V' S S2 X fps v d)
    (k : ∀ v d S1 e1, Stp Y sh mu env S e1 fps S1 → V S S1 X fps v d → LPost V' X (Y ++ newL S S1) sh mu' env S1 fps (f v S1) (g d e1)) :
    LPost V' X Y sh (mu ++ mu') env S fps (o.bind f) (q.bind g) := by
  cases q with
  | fail => trivial
  | exc x e1 =>
    obtain ⟨x', S1, rfl, st, r⟩ := h
    exact ⟨x', S1, rfl, st.mono fun i hi => List.mem_append_left _ hi, r⟩
  | ret d e1 =>
    obtain ⟨v, S1, rfl, st, r⟩ := h
    have h2 := k v d S1 e1 st r
    show LPost V' X Y sh (mu ++ mu') env S fps (f v S1) (g d e1)
    cases hq : g d e1 with
    | fail => trivial
    | exc x e2 =>
      rw [hq] at h2
      obtain ⟨x', S2, h3, st2, r2⟩ := h2
      exact ⟨x', S2, h3, st.trans st2, r2⟩
    | ret d2 e2 =>
      rw [hq] at h2
      obtain ⟨v2, S2, h3, st2, r2⟩ := h2
      exact ⟨v2, S2, h3, st.trans st2, hV _ _ _ _ _ st.fr.1 r2⟩
theorem VKhV : ∀ (S S1 S2 : Ms) (v : PV) (d : D), S.length ≤ S1.length → VK k S1 S2 X fps v d → VK k S S2 X fps v d :=
  fun _ _ _ _ _ h1 h => h.from h1
theorem VKs.from : ∀ {vs : List PV} {ds : List D}, VKs k S1 S' X fps vs ds → S.length ≤ S1.length → VKs k S S' X fps vs ds
  | _, _, .nil, _ => .nil
  | _, _, .cons h t, hl => .cons (h.from hl) (VKs.from t hl)
theorem VKshV : ∀ (S S1 S2 : Ms) (v : List PV) (d : List D), S.length ≤ S1.length → VKs k S1 S2 X fps v d → VKs k S S2 X fps v d :=
  fun _ _ _ _ _ h1 h => h.from h1
theorem LPost.muUp {α β : Type} {V : Ms → Ms → List Nat → List (List Nat) → α → β → Prop} {o : Out α} {q : LO β} (h : LPost V X Y sh mu env S fps o q) (hm : ∀ i ∈ mu, i ∈ mu') : LPost V X Y sh mu' env S fps o q := by
  cases q with
  | fail => trivial
  | exc x e1 => obtain ⟨x', S1, a, b, c⟩ := h; exact ⟨x', S1, a, b.mono hm, c⟩
  | ret x e1 => obtain ⟨x', S1, a, b, c⟩ := h; exact ⟨x', S1, a, b.mono hm, c⟩
theorem LPost.imp {α β : Type} {V V' : Ms → Ms → List Nat → List (List Nat) → α → β → Prop} {o : Out α} {q : LO β} (h : LPost V X Y sh mu env S fps o q) (hV : ∀ S' v d, V S S' X fps v d → V' S S' X fps v d) : LPost V' X Y sh mu env S fps o q := by
  cases q with
  | fail => trivial
  | exc x e1 => exact h
  | ret x e1 => obtain ⟨x', S1, a, b, c⟩ := h; exact ⟨x', S1, a, b, hV _ _ _ c⟩
theorem LPost.sub {α β : Type} {V : Ms → Ms → List Nat → List (List Nat) → α → β → Prop} {o : Out α} {q : LO β} (h : LPost V X Y sh mu env S fps o q) (hX : ∀ n ∈ X', n ∈ X) (hV : ∀ S' v d, V S S' X fps v d → V S S' X' fps v d) : LPost V X' Y sh mu env S fps o q := by
  cases q with
  | fail => trivial
  | exc x e1 => obtain ⟨x', S1, a, b, c⟩ := h; exact ⟨x', S1, a, b, c.weaken hX⟩
  | ret x e1 => obtain ⟨x', S1, a, b, c⟩ := h; exact ⟨x', S1, a, b, hV _ _ _ c⟩
/-- a part in its place behind another -/
theorem in_more {S1 : Ms} : ∀ n ∈ Y ++ fps.flatten, n ∈ (Y ++ newL S S1) ++ fps.flatten := fun n hn => (List.mem_append.mp hn).elim (fun z => List.mem_append_left _ (List.mem_append_left _ z)) (List.mem_append_right _)
theorem LE.at_ {m : ME} {q : QE} (h : LE sh mu k m q) (E : EnvR (Y ++ newL S S1) sh env S1 e fps) : LPost (VK k) (Y ++ fps.flatten) (Y ++ newL S S1) sh mu env S1 fps (m env S1) (q e) :=
  (h _ env S1 e fps E).sub in_more fun S' v d r => r.weaken in_more
theorem LB.at_ {m : MB} {q : QB} (h : LB sh mu m q) (E : EnvR (Y ++ newL S S1) sh env S1 e fps) : LPost (fun _ _ _ _ b c => b = c) (Y ++ fps.flatten) (Y ++ newL S S1) sh mu env S1 fps (m env S1) (q e) :=
  (h _ env S1 e fps E).sub in_more fun S' v d r => r
theorem LL.at_ {m : ML} {q : QL} (h : LL sh mu k m q) (E : EnvR (Y ++ newL S S1) sh env S1 e fps) : LPost (VKs k) (Y ++ fps.flatten) (Y ++ newL S S1) sh mu env S1 fps (m env S1) (q e) :=
  (h _ env S1 e fps E).sub in_more fun S' v d r => r.weaken in_more
theorem fl_in : ∀ n ∈ fps.flatten, n ∈ Y ++ fps.flatten := fun n h => List.mem_append_right _ h
theorem Stp.xlt (st : Stp Y sh mu env S e fps S1) : ∀ n ∈ Y ++ fps.flatten, n < S1.length := fun n hn => st.er.xlt n (in_more n hn)
end
end MP

set_option maxRecDepth 100000
namespace MP
open PySem PySem.Spec PyProof.Rows L2
section
variable {Y X : List Nat} {sh : List Sh} {mu mu' mu2 : List Nat} {env : Env'} {S S' : Ms} {e : DE} {fps : List (List Nat)} {k k' : Kd} {m n c : ME} {p q r : QE} {t u : MB} {b b' : QB} {ml : ML} {ql : QL}
def opt {α : Type} (o : Option α) (e : DE) : LO α := match o with | some d => .ret d e | none => .fail
/-! kinds -/
theorem le_val (h : LE sh mu .new m q) : LE sh mu .val m q := fun Y env S e fps E => (h Y env S e fps E).imp fun _ _ _ r => r.1
theorem le_rdN (h : LE sh mu .new m q) : LE sh mu (.rd []) m q := fun Y env S e fps E => (h Y env S e fps E).imp fun _ _ _ r => .inl r.1
theorem le_rdV (h : LE sh mu .val m q) : LE sh mu (.rd []) m q := fun Y env S e fps E => (h Y env S e fps E).imp fun _ _ _ r => .inl r
/-! constants, variables -/
def qC (d : D) : QE := fun e => .ret d e
def qVar (i : Nat) : QE := fun e => match e.getD i none with | some d => .ret d e | none => .fail
theorem LPost.now {α β : Type} {V : Ms → Ms → List Nat → List (List Nat) → α → β → Prop} {v : α} {d : β} (E : EnvR Y sh env S e fps) (h : V S S X fps v d) : LPost V X Y sh mu env S fps (.ret v S) (.ret d e) := ⟨v, S, rfl, .refl E, h⟩
theorem le_non : LE sh [] .new (mC .non) (qC .non) := fun Y env S e fps E => .now E (.flat .non fun _ h => nomatch h)
theorem le_bl (i : Bool) : LE sh [] .new (mC (.bl i)) (qC (.bl i)) := fun Y env S e fps E => .now E (.bl i)
theorem le_int (i : Int) : LE sh [] .new (mC (.int i)) (qC (.int i)) := fun Y env S e fps E => .now E (.int i)
theorem le_str (i : Str) : LE sh [] .new (mC (.str i)) (qC (.str i)) := fun Y env S e fps E => .now E (.str i)
theorem var_get {i : Nat} {v : PV} (h : env.getD i none = some v) : env[i]? = some (some v) := by
  rw [List.getD_eq_getElem?_getD] at h
  cases e : env[i]? with
  | none => rw [e] at h; cases h
  | some x => rw [e] at h; simp at h; rw [h]
theorem mVar_get {i : Nat} {v : PV} (h : env.getD i none = some v) : mVar i env S = .ret v S := by unfold mVar; rw [var_get h]
theorem le_var (i : Nat) (hs : sh.getD i .val = .val := by rfl) : LE sh [] .val (mVar i) (qVar i) := fun Y env S e fps E => by
  unfold qVar
  cases ed : e.getD i none with
  | none => trivial
  | some d =>
    have h := E.slot i
    rw [ed, hs] at h
    generalize he : env.getD i none = v at h
    generalize fps.getD i [] = f at h
    cases h with
    | val r => rw [mVar_get he]; exact .now E r
    | root k _ _ => exact absurd rfl k
theorem le_varR (i : Nat) : LE sh [] (.rd [i]) (mVar i) (qVar i) := fun Y env S e fps E => by
  unfold qVar
  cases ed : e.getD i none with
  | none => trivial
  | some d =>
    have h := E.slot i
    rw [ed] at h
    generalize he : env.getD i none = v at h
    generalize hf : fps.getD i [] = f at h
    generalize sh.getD i .val = s at h
    cases h with
    | val r => rw [mVar_get he]; exact .now E (.inl r)
    | flat _ r => rw [mVar_get he]; exact .now E (.inl r)
    | root _ r c => rw [mVar_get he]; exact .now E (.inr ⟨i, by simp, _, _, rfl, hf, r, c⟩)
/-! operations -/
inductive Rk where | new | val
def Rk.kd : Rk → Kd | .new => .new | .val => .val
def OK (k : Rk) (S S' : Ms) (X : List Nat) (v : PV) (d : D) : Prop := match k with | .new => NewR S S' X v d | .val => Rp S' X v d
/-- an operation on data that f does, new objects apart -/
def Does (k : Rk) (S : Ms) (X : List Nat) (o : Out PV) (g : Option D) : Prop := ∀ d, g = some d → ∃ v S', o = .ret v S' ∧ Fr [] S S' ∧ OK k S S' X v d
def O1R (k : Rk) (f : PV → Ms → Out PV) (g : D → Option D) : Prop := ∀ S X x dx, (∀ n ∈ X, n < S.length) → Rd' S X x dx → Does k S X (f x S) (g dx)
def O2R (k : Rk) (f : PV → PV → Ms → Out PV) (g : D → D → Option D) : Prop := ∀ S X x y dx dy, (∀ n ∈ X, n < S.length) → Rd' S X x dx → Rd' S X y dy → Does k S X (f x y S) (g dx dy)
inductive Rds (S : Ms) (X : List Nat) : List PV → List D → Prop
  | nil : Rds S X [] []
  | cons {v d vs ds} : Rd' S X v d → Rds S X vs ds → Rds S X (v :: vs) (d :: ds)
def OLR (k : Rk) (f : List PV → Ms → Out PV) (g : List D → Option D) : Prop := ∀ S X xs ds, (∀ n ∈ X, n < S.length) → Rds S X xs ds → Does k S X (f xs S) (g ds)
theorem OK.vk {k : Rk} {v : PV} {d : D} (h : OK k S S' X v d) : VK k.kd S S' X fps v d := by cases k <;> exact h
theorem Does.post {k : Rk} {o : Out PV} {g : Option D} (E : EnvR Y sh env S e fps) (h : Does k S X o g) : LPost (VK k.kd) X Y sh mu env S fps o (opt g e) := by
  cases hg : g with
  | none => trivial
  | some d => obtain ⟨v, S', h1, h2, h3⟩ := h d hg; exact ⟨v, S', h1, .quiet E h2, h3.vk⟩
theorem LPost.nil' {α β : Type} {V : Ms → Ms → List Nat → List (List Nat) → α → β → Prop} {o : Out α} {q : LO β} (h : LPost V X Y sh (mu ++ []) env S fps o q) : LPost V X Y sh mu env S fps o q := h.muUp (by simp)
def q1 (a : QE) (g : D → Option D) : QE := fun e => (a e).bind fun x e1 => opt (g x) e1
def q2 (a b : QE) (g : D → D → Option D) : QE := fun e => (a e).bind fun x e1 => (b e1).bind fun y e2 => opt (g x y) e2
theorem le_1 {l : List Nat} {f : PV → Ms → Out PV} {g : D → Option D} {kk : Rk} (hf : O1R kk f g) (ha : LE sh mu (.rd l) m p) : LE sh mu kk.kd (m1 m f) (q1 p g) := fun Y env S e fps E =>
  LPost.nil' (LPost.seq (ha Y env S e fps E) VKhV fun v d S1 e1 st r => Does.post st.er (hf S1 _ v d st.xlt r.rd))
theorem le_2 {l l' : List Nat} {f : PV → PV → Ms → Out PV} {g : D → D → Option D} {kk : Rk} (hf : O2R kk f g) (ha : LE sh mu (.rd l) m p) (hb : LE sh mu' (.rd l') n q) (hl : ∀ i ∈ l, i ∉ mu' := by decide) : LE sh (mu ++ mu') kk.kd (m2 m n f) (q2 p q g) := fun Y env S e fps E =>
  LPost.seq (ha Y env S e fps E) VKhV fun v d S1 e1 st r => LPost.nil' (LPost.seq (hb.at_ st.er) VKhV fun w d2 S2 e2 st2 r2 =>
    Does.post st2.er (hf S2 _ v w d d2 (fun n hn => st2.xlt n (in_more n hn)) (r.keep st2.fr E.nd fl_in hl).rd r2.rd))
/-! lists of arguments -/
def qNil : QL := fun e => .ret [] e
def qCons (a : QE) (r : QL) : QL := fun e => (a e).bind fun x e1 => (r e1).bind fun xs e2 => .ret (x :: xs) e2
theorem ll_nil {k : Kd} : LL sh [] k mNil qNil := fun Y env S e fps E => .now E .nil
theorem mCons_eq : mCons m ml env S = (m env S).bind fun x S1 => (ml env S1).bind fun xs S2 => .ret (x :: xs) S2 := by
  unfold mCons Out.bind
  cases m env S with
  | ret x S1 => dsimp only; cases ml env S1 <;> rfl
  | _ => rfl
theorem VKs.reR {l : List Nat} {S1 : Ms} : ∀ {vs : List PV} {ds : List D}, VKs (.rd l) S S' X fps vs ds → VKs (.rd l) S1 S' X fps vs ds
  | _, _, .nil => .nil
  | _, _, .cons h t => .cons h (VKs.reR t)
theorem VKs.reV {S1 : Ms} : ∀ {vs : List PV} {ds : List D}, VKs .val S S' X fps vs ds → VKs .val S1 S' X fps vs ds
  | _, _, .nil => .nil
  | _, _, .cons h t => .cons h (VKs.reV t)
theorem VKs.keep {l : List Nat} {S1 S2 : Ms} (nd : fps.flatten.Nodup) (hX : ∀ n ∈ fps.flatten, n ∈ X) (hl : ∀ i ∈ l, i ∉ mu) (f : Fr (sel mu fps) S1 S2) : ∀ {vs : List PV} {ds : List D}, VKs (.rd l) S S1 X fps vs ds → VKs (.rd l) S S2 X fps vs ds
  | _, _, .nil => .nil
  | _, _, .cons h t => .cons (h.keep f nd hX hl) (VKs.keep nd hX hl f t)
theorem VKs.more {l l' : List Nat} (hl : ∀ i ∈ l, i ∈ l') : ∀ {vs : List PV} {ds : List D}, VKs (.rd l) S S' X fps vs ds → VKs (.rd l') S S' X fps vs ds
  | _, _, .nil => .nil
  | _, _, .cons h t => .cons (h.more hl) (VKs.more hl t)
theorem VKs.rds {l : List Nat} : ∀ {vs : List PV} {ds : List D}, VKs (.rd l) S S' X fps vs ds → Rds S' X vs ds
  | _, _, .nil => .nil
  | _, _, .cons h t => .cons h.rd (VKs.rds t)
theorem ll_cons {l l' : List Nat} (ha : LE sh mu (.rd l) m p) (hb : LL sh mu' (.rd l') ml ql) (hl : ∀ i ∈ l, i ∉ mu' := by decide) : LL sh (mu ++ mu') (.rd (l ++ l')) (mCons m ml) (qCons p ql) := fun Y env S e fps E => by
  rw [mCons_eq]
  exact LPost.seq (ha Y env S e fps E) VKshV fun v d S1 e1 st r => LPost.nil' (LPost.seq (hb.at_ st.er) VKshV fun w d2 S2 e2 st2 r2 =>
    .now st2.er (.cons ((r.keep st2.fr E.nd fl_in hl).more fun i hi => List.mem_append_left _ hi) ((VKs.reR r2).more fun i hi => List.mem_append_right _ hi)))
def qL (l : QL) (g : List D → Option D) : QE := fun e => (l e).bind fun xs e1 => opt (g xs) e1
theorem le_L {l : List Nat} {f : List PV → Ms → Out PV} {g : List D → Option D} {kk : Rk} (hf : OLR kk f g) (ha : LL sh mu (.rd l) ml ql) : LE sh mu kk.kd (mL ml f) (qL ql g) := fun Y env S e fps E =>
  LPost.nil' (LPost.seq (ha Y env S e fps E) VKhV fun v d S1 e1 st r => Does.post st.er (hf S1 _ v d st.xlt r.rds))
/-! displays: what goes in must be a value -/
theorem ll_consV {k : Kd} (hk : k = .new ∨ k = .val) (ha : LE sh mu k m p) (hb : LL sh mu' .val ml ql) : LL sh (mu ++ mu') .val (mCons m ml) (qCons p ql) := fun Y env S e fps E => by
  rw [mCons_eq]
  exact LPost.seq (ha Y env S e fps E) VKshV fun v d S1 e1 st r => LPost.nil' (LPost.seq (hb.at_ st.er) VKshV fun w d2 S2 e2 st2 r2 =>
    .now st2.er (.cons ((r.up hk).fr st2.fr (fun n hn => .inl (fl_in n (sel_in hn))) fun n hn => .inl hn) (VKs.reV r2)))
theorem VKs.rps : ∀ {vs : List PV} {ds : List D}, VKs .val S S' X fps vs ds → Rps S' X vs ds
  | _, _, .nil => .nil
  | _, _, .cons h t => .cons h (VKs.rps t)
def gList (ds : List D) : Option D := if ds.length ≤ lim then some (.lst ds) else none
def gTup (ds : List D) : Option D := if ds.length ≤ lim then some (.tup ds) else none
theorem le_list (ha : LL sh mu .val ml ql) : LE sh mu .new (mL ml oList) (qL ql gList) := fun Y env S e fps E =>
  LPost.nil' (LPost.seq (ha Y env S e fps E) VKhV fun v d S1 e1 st r => Does.post (k := .new) st.er (by
    intro d' hd
    unfold gList at hd
    split at hd
    · cases hd
      refine ⟨_, _, by unfold oList; rw [if_pos (by rw [r.rps.length]; assumption)], .app _ _ _, NewR.app (.lst r.rps) st.xlt⟩
    · cases hd))
theorem le_tup (ha : LL sh mu .val ml ql) : LE sh mu .new (mL ml oTup) (qL ql gTup) := fun Y env S e fps E =>
  LPost.nil' (LPost.seq (ha Y env S e fps E) VKhV fun v d S1 e1 st r => Does.post (k := .new) st.er (by
    intro d' hd
    unfold gTup at hd
    split at hd
    · cases hd
      refine ⟨_, _, by unfold oTup; rw [if_pos (by rw [r.rps.length]; assumption)], .refl _ _, NewR.tup r.rps⟩
    · cases hd))
/-! tests -/
def qB (a : QE) : QB := fun e => (a e).bind fun x e1 => match x with | .bl b => .ret b e1 | _ => .fail
def truthD : D → Option Bool
  | .non => some false
  | .bl b => some b
  | .int i => some (i != 0)
  | .str s => if s.length ≤ lim then some ((s.length : Int) != 0) else none
  | .tup xs => some (!xs.isEmpty)
  | .lst xs => some (!xs.isEmpty)
  | _ => none
def qT (a : QE) : QB := fun e => (a e).bind fun x e1 => opt (truthD x) e1
theorem outB_eq {f : PV → Ms → Out Bool} : outB f m env S = (m env S).bind f := by unfold outB Out.bind; cases m env S <;> rfl
theorem lb_B {l : List Nat} (ha : LE sh mu (.rd l) m p) : LB sh mu (mB m) (qB p) := fun Y env S e fps E => by
  show LPost _ _ _ _ _ _ _ _ (outB asB m env S) _
  rw [outB_eq]
  refine LPost.nil' (LPost.seq (ha Y env S e fps E) (fun _ _ _ _ _ _ h => h) fun v d S1 e1 st r => ?_)
  cases d with
  | bl b => rw [r.rd.inv_bl]; exact .now st.er rfl
  | _ => trivial
theorem lb_T {l : List Nat} (ha : LE sh mu (.rd l) m p) : LB sh mu (mT m) (qT p) := fun Y env S e fps E => by
  show LPost _ _ _ _ _ _ _ _ (outB truth m env S) _
  rw [outB_eq]
  refine LPost.nil' (LPost.seq (ha Y env S e fps E) (fun _ _ _ _ _ _ h => h) fun v d S1 e1 st r => ?_)
  have r := r.rd
  cases hd : truthD d with
  | none => trivial
  | some b =>
    suffices h : truth v S1 = .ret b S1 by rw [h]; exact .now st.er rfl
    cases d with
    | non => cases hd; rw [r.inv_non]; rfl
    | bl b => cases hd; rw [r.inv_bl]; rfl
    | int b => cases hd; rw [r.inv_int]; rfl
    | str s =>
      simp only [truthD] at hd
      split at hd
      · cases hd; rw [r.inv_str]; simp only [truth]; rw [if_pos (by assumption)]
      · cases hd
    | tup xs => cases hd; obtain ⟨ys, rfl, h⟩ := r.inv_tup; simp only [truth]; cases h <;> rfl
    | lst xs => cases hd; obtain ⟨n, ys, rfl, en, h⟩ := r.inv_lst; simp only [truth, en]; cases h <;> rfl
    | _ => cases hd
def qYes : QB := fun e => .ret true e
theorem lb_yes : LB sh [] bYes qYes := fun Y env S e fps E => .now E rfl
def qbAnd (a b : QB) : QB := fun e => (a e).bind fun x e1 => match x with | true => b e1 | false => .ret false e1
def qbOr (a b : QB) : QB := fun e => (a e).bind fun x e1 => match x with | true => .ret true e1 | false => b e1
def qbNot (a : QB) : QB := fun e => (a e).bind fun x e1 => .ret (!x) e1
theorem bAnd_eq : bAnd t u env S = (t env S).bind fun x S1 => match x with | true => u env S1 | false => .ret false S1 := by unfold bAnd Out.bind; cases t env S with | ret b _ => cases b <;> rfl | _ => rfl
theorem bOr_eq : bOr t u env S = (t env S).bind fun x S1 => match x with | true => .ret true S1 | false => u env S1 := by unfold bOr Out.bind; cases t env S with | ret b _ => cases b <;> rfl | _ => rfl
theorem bNot_eq : bNot t env S = (t env S).bind fun x S1 => .ret (!x) S1 := by unfold bNot Out.bind; cases t env S <;> rfl
theorem lb_and (ha : LB sh mu t b) (hb : LB sh mu' u b') : LB sh (mu ++ mu') (bAnd t u) (qbAnd b b') := fun Y env S e fps E => by
  rw [bAnd_eq]
  refine LPost.seq (ha Y env S e fps E) (fun _ _ _ _ _ _ h => h) fun v d S1 e1 st r => ?_
  cases r
  cases v with
  | true => exact hb.at_ st.er
  | false => exact .now st.er rfl
theorem lb_or (ha : LB sh mu t b) (hb : LB sh mu' u b') : LB sh (mu ++ mu') (bOr t u) (qbOr b b') := fun Y env S e fps E => by
  rw [bOr_eq]
  refine LPost.seq (ha Y env S e fps E) (fun _ _ _ _ _ _ h => h) fun v d S1 e1 st r => ?_
  cases r
  cases v with
  | false => exact hb.at_ st.er
  | true => exact .now st.er rfl
theorem lb_not (ha : LB sh mu t b) : LB sh mu (bNot t) (qbNot b) := fun Y env S e fps E => by
  rw [bNot_eq]
  refine LPost.nil' (LPost.seq (ha Y env S e fps E) (fun _ _ _ _ _ _ h => h) fun v d S1 e1 st r => ?_)
  cases r
  exact .now st.er rfl
/-! truth values as values -/
def qAnd (a b : QE) : QE := fun e => (a e).bind fun x e1 => match x with | .bl true => b e1 | .bl false => .ret (.bl false) e1 | _ => .fail
def qOr (a b : QE) : QE := fun e => (a e).bind fun x e1 => match x with | .bl true => .ret (.bl true) e1 | .bl false => b e1 | _ => .fail
def qNot (a : QE) : QE := fun e => (a e).bind fun x e1 => match x with | .bl b => .ret (.bl (!b)) e1 | _ => .fail
theorem mAnd_eq : mAnd m n env S = (m env S).bind fun x S1 => match x with | .bl true => n env S1 | .bl false => .ret (.bl false) S1 | _ => .fail := by unfold mAnd Out.bind; cases m env S with
  | ret b _ => (cases b with
    | bl b => cases b <;> rfl
    | _ => rfl)
  | _ => rfl
theorem mNot_eq : mNot m env S = (m env S).bind fun x S1 => match x with | .bl b => .ret (.bl (!b)) S1 | _ => .fail := by unfold mNot Out.bind; cases m env S with | ret b _ => cases b <;> rfl | _ => rfl
theorem le_and {l : List Nat} (ha : LE sh mu (.rd l) m p) (hb : LE sh mu' k n q) (hk : k = .new ∨ k = .val ∨ k = .rd [] := by first | exact Or.inl rfl | exact Or.inr (Or.inl rfl) | exact Or.inr (Or.inr rfl)) : LE sh (mu ++ mu') k (mAnd m n) (qAnd p q) := fun Y env S e fps E => by
  rw [mAnd_eq]
  refine LPost.seq (ha Y env S e fps E) VKhV fun v d S1 e1 st r => ?_
  cases d with
  | bl c =>
    rw [r.rd.inv_bl]
    cases c with
    | true => exact hb.at_ st.er
    | false => exact .now st.er (by rcases hk with rfl | rfl | rfl; exact .bl _; exact .bl _; exact .inl (.bl _))
  | _ => trivial
theorem le_not {l : List Nat} (ha : LE sh mu (.rd l) m p) : LE sh mu .new (mNot m) (qNot p) := fun Y env S e fps E => by
  rw [mNot_eq]
  refine LPost.nil' (LPost.seq (ha Y env S e fps E) VKhV fun v d S1 e1 st r => ?_)
  cases d with
  | bl c => rw [r.rd.inv_bl]; exact .now st.er (.bl _)
  | _ => trivial
def qIf (t : QB) (a b : QE) : QE := fun e => (t e).bind fun x e1 => match x with | true => a e1 | false => b e1
theorem mIf_eq : mIf t m n env S = (t env S).bind fun x S1 => match x with | true => m env S1 | false => n env S1 := by unfold mIf Out.bind; cases t env S with | ret b _ => cases b <;> rfl | _ => rfl
theorem le_if (ht : LB sh mu t b) (ha : LE sh mu' k m p) (hb : LE sh mu2 k n q) : LE sh (mu ++ (mu' ++ mu2)) k (mIf t m n) (qIf b p q) := fun Y env S e fps E => by
  rw [mIf_eq]
  refine LPost.seq (ht Y env S e fps E) VKhV fun v d S1 e1 st r => ?_
  cases r
  cases v with
  | true => exact (ha.at_ st.er).muUp fun i hi => List.mem_append_left _ hi
  | false => exact (hb.at_ st.er).muUp fun i hi => List.mem_append_right _ hi
def qChain (a b c : QE) (f g : D → D → Option D) : QE := fun e => (a e).bind fun x e1 => (b e1).bind fun y e2 => (opt (f x y) e2).bind fun z e3 => match z with
  | .bl true => (c e3).bind fun w e4 => opt (g y w) e4
  | .bl false => .ret (.bl false) e3
  | _ => .fail
theorem le_chain {f g : PV → PV → Ms → Out PV} {f' g' : D → D → Option D} (hf : O2R .new f f') (hg : O2R .new g g') (ha : LE sh mu (.rd []) m p) (hb : LE sh mu' (.rd []) n q) (hc : LE sh mu2 (.rd []) c r) : LE sh (mu ++ (mu' ++ mu2)) .new (mChain m n c f g) (qChain p q r f' g') := fun Y env S e fps E => by
  unfold mChain qChain
  refine LPost.seq (ha Y env S e fps E) VKhV fun v d S1 e1 st r1 => LPost.seq (hb.at_ st.er) VKhV fun w d2 S2 e2 st2 r2 => ?_
  have r1 := r1.keep st2.fr E.nd fl_in (by simp)
  refine LPost.seq (mu := []) (Does.post st2.er (hf S2 _ v w d d2 (fun n hn => st2.xlt n (in_more n hn)) r1.rd r2.rd)) VKhV fun z d3 S3 e3 st3 r3 => ?_
  cases d3 with
  | bl t =>
    rw [(VK.up r3 (.inl rfl)).inv_bl]
    cases t with
    | false => exact .now st3.er (.bl _)
    | true =>
      refine LPost.nil' (LPost.seq (((hc _ env S3 e3 fps st3.er).sub (X' := Y ++ fps.flatten) (fun n hn => in_more n (in_more n (in_more n hn))) fun S' v d r => r.weaken fun n hn => in_more n (in_more n (in_more n hn)))) VKhV fun u d4 S4 e4 st4 r4 => ?_)
      refine Does.post st4.er (hg S4 _ w u d2 d4 (fun n hn => st4.xlt n (in_more n (in_more n (in_more n hn)))) ?_ r4.rd)
      exact ((r2.keep st3.fr E.nd fl_in (by simp)).keep st4.fr E.nd fl_in (by simp)).rd
  | _ => trivial
end
end MP

set_option maxRecDepth 100000
namespace MP
open PySem PySem.Spec PyProof.Rows L2
section
variable {Y X : List Nat} {S S' : Ms} {v w : PV} {d d' : D} {vs : List PV} {ds : List D}
/-! ### data as the model's data -/
mutual
def toPy : Nat → D → Option PyData
  | _, .non => some .none
  | _, .bl b => some (.bool b)
  | _, .int i => some (.int i)
  | _, .str s => some (.str s)
  | 0, _ => none
  | k + 1, .tup xs => (toPys k xs).map .tuple
  | k + 1, .lst xs => (toPys k xs).map .list
  | _, _ => none
def toPys : Nat → List D → Option (List PyData)
  | _, [] => some []
  | k, x :: xs => match toPy k x, toPys k xs with | some d, some ds => some (d :: ds) | _, _ => none
end
theorem toDs_cons {k : Nat} {x : PV} {xs : List PV} : toDs S k (x :: xs) = match toD S k x, toDs S k xs with | some d, some ds => some (d :: ds) | _, _ => none := by rw [toDs] <;> rfl
theorem toDs_rp {k : Nat} (ih : ∀ {v d p}, Rd' S X v d → toPy k d = some p → toD S k v = some p) : ∀ {vs : List PV} {ds : List D} {ps : List PyData}, Rps S X vs ds → toPys k ds = some ps → toDs S k vs = some ps
  | _, _, ps, .nil, h => by unfold toPys at h; cases h; unfold toDs; rfl
  | _, _, ps, .cons (x := x) (d := d) (xs := xs) (ds := ds) r t, h => by
    rw [toPys] at h
    cases e1 : toPy k d with
    | none => rw [e1] at h; cases h
    | some p =>
      cases e2 : toPys k ds with
      | none => rw [e1, e2] at h; cases h
      | some ps' =>
        rw [e1, e2] at h; cases h
        rw [toDs_cons, ih r.rd e1, toDs_rp ih t e2]
theorem toD_rd : ∀ {k : Nat} {v : PV} {d : D} {p : PyData}, Rd' S X v d → toPy k d = some p → toD S k v = some p := by
  intro k
  induction k with
  | zero =>
    intro v d p r h
    cases d with
    | non => rw [r.inv_non]; simp only [toPy] at h; cases h; unfold toD; rfl
    | bl b => rw [r.inv_bl]; simp only [toPy] at h; cases h; unfold toD; rfl
    | int b => rw [r.inv_int]; simp only [toPy] at h; cases h; unfold toD; rfl
    | str b => rw [r.inv_str]; simp only [toPy] at h; cases h; unfold toD; rfl
    | _ => simp [toPy] at h
  | succ k ih =>
    intro v d p r h
    cases d with
    | non => rw [r.inv_non]; simp only [toPy] at h; cases h; unfold toD; rfl
    | bl b => rw [r.inv_bl]; simp only [toPy] at h; cases h; unfold toD; rfl
    | int b => rw [r.inv_int]; simp only [toPy] at h; cases h; unfold toD; rfl
    | str b => rw [r.inv_str]; simp only [toPy] at h; cases h; unfold toD; rfl
    | tup xs =>
      obtain ⟨ys, rfl, hs⟩ := r.inv_tup
      rw [toPy] at h
      cases e : toPys k xs with
      | none => rw [e] at h; cases h
      | some ps => rw [e] at h; cases h; unfold toD; rw [toDs_rp ih hs e]; rfl
    | lst xs =>
      obtain ⟨n, ys, rfl, en, hs⟩ := r.inv_lst
      rw [toPy] at h
      cases e : toPys k xs with
      | none => rw [e] at h; cases h
      | some ps => rw [e] at h; cases h; unfold toD; simp only [en]; rw [toDs_rp ih hs e]; rfl
    | _ => simp [toPy] at h
def gEqB (x y : D) : Option Bool := match toPy 12 x, toPy 12 y with
  | some d, some e => if SeqAt.shaped d && SeqAt.shaped e then some (PyData.eqv d e) else none
  | _, _ => none
theorem eqD_rd {x y : PV} {dx dy : D} {b : Bool} (h1 : Rd' S X x dx) (h2 : Rd' S X y dy) (h : gEqB dx dy = some b) : eqD S x y = some b := by
  unfold gEqB at h
  split at h
  · rename_i p q e1 e2
    unfold eqD
    rw [toD_rd h1 e1, toD_rd h2 e2]
    exact h
  · cases h
def gEq (x y : D) : Option D := (gEqB x y).map D.bl
def gNe (x y : D) : Option D := (gEqB x y).map fun b => D.bl (!b)
theorem Does.ret {k : Rk} {o : Out PV} (h : o = .ret v S) (r : OK k S S X v d) {g : Option D} (hg : g = some d) : Does k S X o g := fun d' e => by
  rw [hg] at e; cases e; exact ⟨v, S, h, .refl _ _, r⟩
theorem Does.none {k : Rk} {o : Out PV} : Does k S X o Option.none := fun _ h => nomatch h
theorem OK.vl {k : Rk} (h : Rp S' X v d) (hn : ∀ n, v ≠ .loc n) : OK k S S' X v d := by cases k; exact .flat h hn; exact h
theorem og_eq : O2R .new oEq gEq := by
  intro S X x y dx dy hX h1 h2
  unfold gEq
  cases e : gEqB dx dy with
  | none => exact .none
  | some b => exact Does.ret (k := .new) (v := .bl b) (d := .bl b) (by unfold oEq; rw [eqD_rd h1 h2 e]) (NewR.bl _) rfl
theorem og_ne : O2R .new oNe gNe := by
  intro S X x y dx dy hX h1 h2
  unfold gNe
  cases e : gEqB dx dy with
  | none => exact .none
  | some b => exact Does.ret (k := .new) (v := .bl (!b)) (d := .bl (!b)) (by unfold oNe; rw [eqD_rd h1 h2 e]) (NewR.bl _) rfl
/-! ### arithmetic -/
def gAdd : D → D → Option D
  | .int i, .int j => some (.int (i + j))
  | .tup xs, .tup ys => if xs.length + ys.length ≤ lim then some (.tup (xs ++ ys)) else none
  | .lst xs, .lst ys => if xs.length + ys.length ≤ lim then some (.lst (xs ++ ys)) else none
  | .str a, .str b => if a.length + b.length ≤ lim then some (.str (a ++ b)) else none
  | _, _ => none
theorem og_add : O2R .new oAdd gAdd := by
  intro S X x y dx dy hX h1 h2 d hd
  unfold gAdd at hd
  split at hd
  · cases hd; rw [h1.inv_int, h2.inv_int]; exact ⟨_, _, rfl, .refl _ _, .int _⟩
  · split at hd
    · cases hd
      obtain ⟨xs, rfl, r1⟩ := h1.inv_tup
      obtain ⟨ys, rfl, r2⟩ := h2.inv_tup
      exact ⟨_, _, by simp only [oAdd]; rw [if_pos (by rw [r1.length, r2.length]; assumption)], .refl _ _, .tup (r1.append r2)⟩
    · cases hd
  · split at hd
    · cases hd
      obtain ⟨n, xs, rfl, e1, r1⟩ := h1.inv_lst
      obtain ⟨m, ys, rfl, e2, r2⟩ := h2.inv_lst
      exact ⟨_, _, by simp only [oAdd, e1, e2]; rw [if_pos (by rw [r1.length, r2.length]; assumption)], .app _ _ _, .app (.lst (r1.append r2)) hX⟩
    · cases hd
  · split at hd
    · cases hd; rw [h1.inv_str, h2.inv_str]; exact ⟨_, _, by simp only [oAdd]; rw [if_pos (by assumption)], .refl _ _, .str _⟩
    · cases hd
  · cases hd
def gAddI : D → D → Option D
  | .int i, .int j => some (.int (i + j))
  | _, _ => none
def gSub : D → D → Option D
  | .int i, .int j => some (.int (i - j))
  | _, _ => none
theorem og_sub : O2R .new oSub gSub := by
  intro S X x y dx dy hX h1 h2 d hd
  unfold gSub at hd
  split at hd
  · cases hd; rw [h1.inv_int, h2.inv_int]; exact ⟨_, _, rfl, .refl _ _, .int _⟩
  · cases hd
open Classical in
noncomputable def gMul : D → D → Option D
  | .int i, .int j => if CMul i j ∨ CMulW i j then some (.int (i * j)) else none
  | .lst xs, .int k => if -(2 ^ 63) ≤ k ∧ k < 2 ^ 63 ∧ xs.length * k.toNat ≤ lim then some (.lst (List.replicate k.toNat xs).flatten) else none
  | .tup xs, .int k => if xs ≠ [] ∧ 2 ≤ k ∧ k ≤ 1000 ∧ xs.length ≤ 1000 then some (.tup (List.replicate k.toNat xs).flatten) else none
  | _, _ => none
theorem Rps.ne (h : Rps S X vs ds) (hd : ds ≠ []) : vs ≠ [] := by rintro rfl; cases h; exact hd rfl
theorem og_mul : O2R .new oMul gMul := by
  intro S X x y dx dy hX h1 h2 d hd
  unfold gMul at hd
  split at hd
  · split at hd
    · cases hd; rw [h1.inv_int, h2.inv_int]; exact ⟨_, _, by simp only [oMul]; rw [if_pos (by assumption)], .refl _ _, .int _⟩
    · cases hd
  · split at hd
    · rename_i q
      cases hd; rw [h2.inv_int]
      obtain ⟨n, xs, rfl, e1, r1⟩ := h1.inv_lst
      exact ⟨_, _, by simp only [oMul, e1]; rw [if_pos ⟨q.1, q.2.1, by rw [r1.length]; exact q.2.2⟩], .app _ _ _, .app (.lst (r1.rep _)) hX⟩
    · cases hd
  · split at hd
    · rename_i q
      cases hd; rw [h2.inv_int]
      obtain ⟨xs, rfl, r1⟩ := h1.inv_tup
      exact ⟨_, _, by simp only [oMul]; rw [if_pos ⟨r1.ne q.1, q.2.1, q.2.2.1, by rw [r1.length]; exact q.2.2.2⟩], .refl _ _, .tup (r1.rep _)⟩
    · cases hd
  · cases hd
def gMod : D → D → Option D
  | .int i, .int j => if j ≠ 0 then some (.int (i.fmod j)) else none
  | _, _ => none
theorem og_mod : O2R .new oMod gMod := by
  intro S X x y dx dy hX h1 h2 d hd
  unfold gMod at hd
  split at hd
  · split at hd
    · cases hd; rw [h1.inv_int, h2.inv_int]; exact ⟨_, _, by simp only [oMod]; rw [if_pos (by assumption)], .refl _ _, .int _⟩
    · cases hd
  · cases hd
open Classical in
noncomputable def gDiv : D → D → Option D
  | .int i, .int j => if CDivN i j then some (.int (i.fdiv j)) else if CDivW i j then some (.int (i / j)) else none
  | _, _ => none
theorem og_div : O2R .new oDiv gDiv := by
  intro S X x y dx dy hX h1 h2 d hd
  unfold gDiv at hd
  split at hd
  · split at hd
    · cases hd; rw [h1.inv_int, h2.inv_int]; exact ⟨_, _, by simp only [oDiv]; rw [if_pos (by assumption)], .refl _ _, .int _⟩
    · split at hd
      · cases hd; rw [h1.inv_int, h2.inv_int]; exact ⟨_, _, by simp only [oDiv]; rw [if_neg (by assumption), if_pos (by assumption)], .refl _ _, .int _⟩
      · cases hd
  · cases hd
open Classical in
noncomputable def gPow : D → D → Option D
  | .int i, .int j => if CPow i j then some (.int (i ^ j.toNat)) else none
  | _, _ => none
theorem og_pow : O2R .new oPow gPow := by
  intro S X x y dx dy hX h1 h2 d hd
  unfold gPow at hd
  split at hd
  · split at hd
    · cases hd; rw [h1.inv_int, h2.inv_int]; exact ⟨_, _, by simp only [oPow]; rw [if_pos (by assumption)], .refl _ _, .int _⟩
    · cases hd
  · cases hd
def gNeg : D → Option D
  | .int i => some (.int (-i))
  | _ => none
theorem og_neg : O1R .new oNeg gNeg := by
  intro S X x dx hX h1 d hd
  unfold gNeg at hd
  split at hd
  · cases hd; rw [h1.inv_int]; exact ⟨_, _, rfl, .refl _ _, .int _⟩
  · cases hd
def gCmp (p : Int → Int → Bool) : D → D → Option D
  | .int i, .int j => some (.bl (p i j))
  | _, _ => none
theorem og_cmp {p : Int → Int → Bool} : O2R .new (oCmp p) (gCmp p) := by
  intro S X x y dx dy hX h1 h2 d hd
  unfold gCmp at hd
  split at hd
  · cases hd; rw [h1.inv_int, h2.inv_int]; exact ⟨_, _, rfl, .refl _ _, .bl _⟩
  · cases hd
abbrev gLt := gCmp fun i j => decide (i < j)
abbrev gLe := gCmp fun i j => decide (i ≤ j)
abbrev gGt := gCmp fun i j => decide (j < i)
def nonD : D → Bool
  | .non => true
  | _ => false
theorem isNon_rd (h : Rd' S X v d) : isNon v = nonD d := by
  cases h with
  | vl k h => cases h with
    | loc _ _ _ => exact absurd rfl (k _)
    | _ => rfl
  | at_ _ c => cases c <;> rfl
def gIsN : D → D → Option D
  | x, .non => some (.bl (nonD x))
  | _, _ => none
theorem og_isN : O2R .new oIsN gIsN := by
  intro S X x y dx dy hX h1 h2 d hd
  unfold gIsN at hd
  split at hd
  · cases hd; rw [h2.inv_non]; exact ⟨_, _, rfl, .refl _ _, by rw [isNon_rd h1]; exact .bl _⟩
  · cases hd
/-! ### subscripts -/
def gIdx : D → D → Option D
  | .str z, .int i => if z.length ≤ lim then (atI z.cps.toList i).map fun c => .str ⟨#[c]⟩ else none
  | .tup xs, .int i => atI xs i
  | .lst xs, .int i => atI xs i
  | _, _ => none
theorem atI_rp {i : Int} (h : Rps S X vs ds) (e : atI ds i = some d) : ∃ v, atI vs i = some v ∧ Rp S X v d := by
  unfold atI at e ⊢
  rw [h.length]
  cases ej : ixN ds.length i with
  | none => rw [ej] at e; cases e
  | some j => rw [ej] at e; exact h.get e
def isDictD : D → Bool
  | .dK _ => true
  | .dT _ => true
  | _ => false
theorem isDict_seq (h : Rd' S X v d) : isDict S v = isDictD d := by
  cases h with
  | vl k h => cases h with
    | loc _ _ _ => exact absurd rfl (k _)
    | _ => rfl
  | at_ e c => cases c <;> simp [isDict, isDictD, e]
theorem OK.of {k : Rk} (h : Rp S X v d) (hk : k = .val) : OK k S S X v d := by subst hk; exact h
theorem og_idx {S X x y dx dy} (h1 : Rd' S X x dx) (h2 : Rd' S X y dy) : Does .val S X (oIdx x y S) (gIdx dx dy) := by
  intro d hd
  unfold gIdx at hd
  split at hd
  · split at hd
    · rw [h1.inv_str, h2.inv_int]
      rename_i q
      rw [Option.map_eq_some_iff] at hd
      obtain ⟨c, e, rfl⟩ := hd
      exact ⟨.str ⟨#[c]⟩, S, by simp only [oIdx]; rw [if_pos q, e], .refl _ _, .str _⟩
    · cases hd
  · obtain ⟨xs, rfl, r⟩ := h1.inv_tup
    obtain ⟨v, e, rv⟩ := atI_rp r hd
    rw [h2.inv_int]
    exact ⟨v, S, by simp only [oIdx, itemsOf, e], .refl _ _, rv⟩
  · obtain ⟨n, xs, rfl, en, r⟩ := h1.inv_lst
    obtain ⟨v, e, rv⟩ := atI_rp r hd
    rw [h2.inv_int]
    exact ⟨v, S, by simp only [oIdx, itemsOf, en, e], .refl _ _, rv⟩
  · cases hd
/-! ### dicts -/
def keyD : D → Option Key
  | .int i => some (.inl i)
  | .str s => some (.inr s)
  | _ => none
def keysLD : List D → Option (List Key)
  | [] => some []
  | x :: xs => match keyD x, keysLD xs with | some k, some ks => some (k :: ks) | _, _ => none
def keysD : D → Option (List Key)
  | .tup xs => keysLD xs
  | _ => none
def kD : Key → D
  | .inl i => .int i
  | .inr s => .str s
theorem keyP_rd (h : Rd' S X v d) : keyP v = keyD d := by
  cases h with
  | vl k h => cases h with
    | loc _ _ _ => exact absurd rfl (k _)
    | _ => rfl
  | at_ _ c => cases c <;> rfl
theorem keysL_rd : ∀ {vs : List PV} {ds : List D}, Rps S X vs ds → keysL vs = keysLD ds
  | _, _, .nil => rfl
  | _, _, .cons (d := d) (ds := ds) h t => by simp only [keysL, keysLD, keyP_rd h.rd, keysL_rd t] <;> cases keyD d <;> cases keysLD ds <;> rfl
theorem keysP_rd (h : Rd' S X v d) : keysP v = keysD d := by
  cases h with
  | vl k h => cases h with
    | loc _ _ _ => exact absurd rfl (k _)
    | tup h => exact keysL_rd h
    | _ => rfl
  | at_ _ c => cases c <;> rfl
theorem kP_rp (k : Key) : Rp S X (kP k) (kD k) := by cases k; exact .int _; exact .str _
section
variable {κ : Type} [DecidableEq κ]
def valG (kvs : List (κ × D)) (k : κ) : Option D := (kvs.find? fun kv => decide (kv.1 = k)).map (·.2)
def putG (kvs : List (κ × D)) (k : κ) (v : D) : List (κ × D) :=
  if (kvs.any fun kv => decide (kv.1 = k)) = true then kvs.map (fun kv => if kv.1 = k then (kv.1, v) else kv) else kvs ++ [(k, v)]
end
def KRp (S : Ms) (X : List Nat) {κ : Type} : List (κ × PV) → List (κ × D) → Prop := Paired fun p q => p.1 = q.1 ∧ Rp S X p.2 q.2
theorem kr_of_zip {κ : Type} : ∀ {ks : List κ} {vs : List PV} {ds : List D}, Rps S X vs ds → KRp S X (List.zip ks vs) (List.zip ks ds)
  | [], _, _, _ => by simp only [List.zip_nil_left]; exact .nil
  | k :: ks, _, _, .nil => by simp only [List.zip_nil_right]; exact .nil
  | k :: ks, _, _, .cons h t => .cons ⟨rfl, h⟩ (kr_of_zip t)
theorem zip_of_kr {κ : Type} : ∀ {xs : List (κ × PV)} {ys : List (κ × D)}, KRp S X xs ys → ∃ ks vs ds, xs = List.zip ks vs ∧ ys = List.zip ks ds ∧ Rps S X vs ds
  | _, _, .nil => ⟨[], [], [], rfl, rfl, .nil⟩
  | (k, v) :: xs, (k', d) :: ys, .cons h t => by
    obtain ⟨ks, vs, ds, rfl, rfl, r⟩ := zip_of_kr t
    obtain ⟨e, r'⟩ := h
    cases (show k = k' from e)
    exact ⟨k :: ks, v :: vs, d :: ds, rfl, rfl, .cons r' r⟩
theorem Cont.inv_dK {o : Ob} {kds : List (Key × D)} (h : Cont S X o (.dK kds)) : ∃ kvs, o = .dK kvs ∧ KRp S X kvs kds := by
  generalize e : D.dK kds = d at h
  cases h <;> cases e
  exact ⟨_, rfl, kr_of_zip (by assumption)⟩
theorem Cont.inv_dT {o : Ob} {kds : List (List Key × D)} (h : Cont S X o (.dT kds)) : ∃ kvs, o = .dT kvs ∧ KRp S X kvs kds := by
  generalize e : D.dT kds = d at h
  cases h <;> cases e
  exact ⟨_, rfl, kr_of_zip (by assumption)⟩
theorem Cont.inv_lst {o : Ob} (h : Cont S X o (.lst ds)) : ∃ vs, o = .lst vs ∧ Rps S X vs ds := by cases h; exact ⟨_, rfl, by assumption⟩
theorem Cont.mk_dK {kvs : List (Key × PV)} {kds : List (Key × D)} (h : KRp S X kvs kds) : Cont S X (.dK kvs) (.dK kds) := by
  obtain ⟨ks, vs, ds, rfl, rfl, r⟩ := zip_of_kr h; exact .dK r
theorem Cont.mk_dT {kvs : List (List Key × PV)} {kds : List (List Key × D)} (h : KRp S X kvs kds) : Cont S X (.dT kvs) (.dT kds) := by
  obtain ⟨ks, vs, ds, rfl, rfl, r⟩ := zip_of_kr h; exact .dT r
theorem Rd'.inv_at {kds : D} (h : Rd' S X v d) (hd : (∃ k, d = .dK k) ∨ (∃ k, d = .dT k) ∨ (∃ k, d = .lst k) ∨ ∃ c k, d = .obj c k) : ∃ n o, v = .loc n ∧ S[n]? = some o ∧ Cont S X o d := by
  cases h with
  | at_ e c => exact ⟨_, _, rfl, e, c⟩
  | vl k h => cases h with
    | loc _ _ _ => exact absurd rfl (k _)
    | _ => rcases hd with ⟨_, h⟩ | ⟨_, h⟩ | ⟨_, h⟩ | ⟨_, _, h⟩ <;> cases h
theorem Rd'.inv_dK {kds : List (Key × D)} (h : Rd' S X v (.dK kds)) : ∃ n kvs, v = .loc n ∧ S[n]? = some (.dK kvs) ∧ KRp S X kvs kds := by
  obtain ⟨n, o, rfl, e, c⟩ := h.inv_at (kds := .non) (.inl ⟨_, rfl⟩)
  obtain ⟨kvs, rfl, r⟩ := c.inv_dK
  exact ⟨n, kvs, rfl, e, r⟩
theorem Rd'.inv_dT {kds : List (List Key × D)} (h : Rd' S X v (.dT kds)) : ∃ n kvs, v = .loc n ∧ S[n]? = some (.dT kvs) ∧ KRp S X kvs kds := by
  obtain ⟨n, o, rfl, e, c⟩ := h.inv_at (kds := .non) (.inr (.inl ⟨_, rfl⟩))
  obtain ⟨kvs, rfl, r⟩ := c.inv_dT
  exact ⟨n, kvs, rfl, e, r⟩
section
variable {κ : Type} [DecidableEq κ]
theorem val_rp {k : κ} : ∀ {xs : List (κ × PV)} {ys : List (κ × D)}, KRp S X xs ys → (valP xs k = none ∧ valG ys k = none) ∨ ∃ v d, valP xs k = some v ∧ valG ys k = some d ∧ Rp S X v d
  | _, _, .nil => .inl ⟨rfl, rfl⟩
  | (a, v) :: xs, (b, d) :: ys, .cons h t => by
    obtain ⟨e, r⟩ := h
    cases (show a = b from e)
    by_cases z : a = k
    · exact .inr ⟨v, d, by simp [valP, z], by simp [valG, z], r⟩
    · rcases val_rp (k := k) t with ⟨h1, h2⟩ | ⟨v', d', h1, h2, h3⟩
      · exact .inl ⟨by simpa [valP, z] using h1, by simpa [valG, z] using h2⟩
      · exact .inr ⟨v', d', by simpa [valP, z] using h1, by simpa [valG, z] using h2, h3⟩
theorem any_rp {k : κ} : ∀ {xs : List (κ × PV)} {ys : List (κ × D)}, KRp S X xs ys → (xs.any fun kv => decide (kv.1 = k)) = (ys.any fun kv => decide (kv.1 = k))
  | _, _, .nil => rfl
  | (a, v) :: xs, (b, d) :: ys, .cons h t => by
    cases (show a = b from h.1)
    simp only [List.any_cons, any_rp (k := k) t]
theorem map_rp {k : κ} (r : Rp S X v d) : ∀ {xs : List (κ × PV)} {ys : List (κ × D)}, KRp S X xs ys → KRp S X (xs.map (fun kv => if kv.1 = k then (kv.1, v) else kv)) (ys.map (fun kv => if kv.1 = k then (kv.1, d) else kv))
  | _, _, .nil => .nil
  | (a, w) :: xs, (b, c) :: ys, .cons h t => by
    cases (show a = b from h.1)
    refine .cons ?_ (map_rp r t)
    by_cases z : a = k
    · simp only [z, if_true]; exact ⟨trivial, r⟩
    · simp only [z, if_false]; exact ⟨trivial, h.2⟩
theorem kr_snoc {k : κ} (r : Rp S X v d) : ∀ {xs : List (κ × PV)} {ys : List (κ × D)}, KRp S X xs ys → KRp S X (xs ++ [(k, v)]) (ys ++ [(k, d)])
  | _, _, .nil => .cons ⟨rfl, r⟩ .nil
  | _, _, .cons h t => .cons h (kr_snoc r t)
theorem put_rp {k : κ} (r : Rp S X v d) {xs : List (κ × PV)} {ys : List (κ × D)} (h : KRp S X xs ys) : KRp S X (putP xs k v) (putG ys k d) := by
  unfold putP putG
  rw [any_rp h]
  split
  · exact map_rp r h
  · exact kr_snoc r h
omit [DecidableEq κ] in
theorem kr_len : ∀ {xs : List (κ × PV)} {ys : List (κ × D)}, KRp S X xs ys → xs.length = ys.length
  | _, _, .nil => rfl
  | _, _, .cons _ t => by rw [List.length_cons, List.length_cons, kr_len t]
end
def getD2 : D → D → Option (Option D)
  | .dK kvs, k => (keyD k).map (valG kvs)
  | .dT kvs, k => (keysD k).map (valG kvs)
  | _, _ => none
theorem dGet_rd {x k : PV} {dx dk : D} {r : Option D} (h1 : Rd' S X x dx) (h2 : Rd' S X k dk) (h : getD2 dx dk = some r) : (r = none ∧ dGet S x k = some none) ∨ ∃ v d, r = some d ∧ dGet S x k = some (some v) ∧ Rp S X v d := by
  unfold getD2 at h
  split at h
  · obtain ⟨n, kvs, rfl, e, c⟩ := h1.inv_dK
    rw [Option.map_eq_some_iff] at h
    obtain ⟨kk, e2, rfl⟩ := h
    rw [← keyP_rd h2] at e2
    rcases val_rp (k := kk) c with ⟨a, b⟩ | ⟨v, d, a, b, r⟩
    · exact .inl ⟨b, by simp only [dGet, e, e2, Option.map_some, a]⟩
    · exact .inr ⟨v, d, b, by simp only [dGet, e, e2, Option.map_some, a], r⟩
  · obtain ⟨n, kvs, rfl, e, c⟩ := h1.inv_dT
    rw [Option.map_eq_some_iff] at h
    obtain ⟨kk, e2, rfl⟩ := h
    rw [← keysP_rd h2] at e2
    rcases val_rp (k := kk) c with ⟨a, b⟩ | ⟨v, d, a, b, r⟩
    · exact .inl ⟨b, by simp only [dGet, e, e2, Option.map_some, a]⟩
    · exact .inr ⟨v, d, b, by simp only [dGet, e, e2, Option.map_some, a], r⟩
  · cases h
/-- x[i], of a sequence or of a dict -/
def gSub1 (x i : D) : Option D := match x with
  | .dK kvs => (getD2 (.dK kvs) i).bind id
  | .dT kvs => (getD2 (.dT kvs) i).bind id
  | x => gIdx x i
theorem og_sub1 : O2R .val oSub1 gSub1 := by
  intro S X x y dx dy hX h1 h2
  have hd := isDict_seq h1
  have kd : ∀ f f' : PV → PV → Ms → Out PV, oSel (fun x _ S => isDict S x) f f' x y S = if isDictD dx = true then f x y S else f' x y S := fun f f' => by unfold oSel; rw [← hd]
  show Does .val S X (oSel (fun x _ S => isDict S x) oDGet oIdx x y S) _
  rw [kd]
  have dict : isDictD dx = true → gSub1 dx dy = (getD2 dx dy).bind id → Does .val S X (if isDictD dx = true then oDGet x y S else oIdx x y S) (gSub1 dx dy) := by
    intro hd e d hq
    rw [e] at hq
    cases eg : getD2 dx dy with
    | none => rw [eg] at hq; cases hq
    | some r =>
      rw [eg] at hq
      rcases dGet_rd h1 h2 eg with ⟨rfl, _⟩ | ⟨v, d', rfl, eq, rv⟩
      · cases hq
      · cases hq; exact ⟨v, S, by rw [if_pos hd]; simp only [oDGet, eq], .refl _ _, rv⟩
  cases dx with
  | dK kvs => exact dict rfl rfl
  | dT kvs => exact dict rfl rfl
  | _ => (rw [if_neg (show ¬ isDictD _ = true by simp [isDictD])]; exact og_idx h1 h2)
/-! ### in -/
end
end MP

set_option maxRecDepth 100000
namespace MP
open PySem PySem.Spec PyProof.Rows L2
section
variable {Y X : List Nat} {S S' : Ms} {v w : PV} {d d' : D} {vs : List PV} {ds : List D} {k : Rk}
theorem rds1 (h : Rds S X vs [d]) : ∃ v, vs = [v] ∧ Rd' S X v d := by cases h with | cons h t => cases t; exact ⟨_, rfl, h⟩
theorem rds2 {d2 : D} (h : Rds S X vs [d, d2]) : ∃ v w, vs = [v, w] ∧ Rd' S X v d ∧ Rd' S X w d2 := by cases h with | cons h t => obtain ⟨w, rfl, hw⟩ := rds1 t; exact ⟨_, _, rfl, h, hw⟩
theorem rds_nil (h : Rds S X vs []) : vs = [] := by cases h; rfl
/-! ### functions of the language -/
def gLen : List D → Option D
  | [.str s] => if s.length ≤ lim then some (.int s.length) else none
  | [.tup xs] => some (.int xs.length)
  | [.lst xs] => some (.int xs.length)
  | [.dK xs] => some (.int xs.length)
  | [.dT xs] => some (.int xs.length)
  | _ => none
theorem og_len : OLR .new oLen gLen := by
  intro S X xs ds hX h d hd
  unfold gLen at hd
  split at hd
  · obtain ⟨v, rfl, r⟩ := rds1 h
    split at hd
    · cases hd; rw [r.inv_str]; exact ⟨_, S, by simp only [oLen]; rw [if_pos (by assumption)], .refl _ _, .int _⟩
    · cases hd
  · obtain ⟨v, rfl, r⟩ := rds1 h
    cases hd; obtain ⟨ys, rfl, r3⟩ := r.inv_tup; exact ⟨.int ys.length, S, by simp only [oLen], .refl _ _, by rw [r3.length]; exact NewR.int _⟩
  · obtain ⟨v, rfl, r⟩ := rds1 h
    cases hd; obtain ⟨n, ys, rfl, e, r3⟩ := r.inv_lst; exact ⟨.int ys.length, S, by simp only [oLen, e], .refl _ _, by rw [r3.length]; exact NewR.int _⟩
  · obtain ⟨v, rfl, r⟩ := rds1 h
    cases hd; obtain ⟨n, ys, rfl, e, r3⟩ := r.inv_dK; exact ⟨.int ys.length, S, by simp only [oLen, e], .refl _ _, by rw [kr_len r3]; exact NewR.int _⟩
  · obtain ⟨v, rfl, r⟩ := rds1 h
    cases hd; obtain ⟨n, ys, rfl, e, r3⟩ := r.inv_dT; exact ⟨.int ys.length, S, by simp only [oLen, e], .refl _ _, by rw [kr_len r3]; exact NewR.int _⟩
  · cases hd
def intsD : List D → Option (List Int)
  | [] => some []
  | .int i :: xs => (intsD xs).map (i :: ·)
  | _ => none
def blsD : List D → Option (List Bool)
  | [] => some []
  | .bl i :: xs => (blsD xs).map (i :: ·)
  | _ => none
theorem bls_rp : ∀ {vs : List PV} {ds : List D} {ns : List Bool}, Rps S X vs ds → blsD ds = some ns → blsP vs = some ns
  | _, _, _, .nil, h => h
  | _, _, _, .cons (d := d) r t, h => by
    cases d with
    | bl i =>
      rw [r.rd.inv_bl]
      simp only [blsD, Option.map_eq_some_iff] at h
      obtain ⟨ms, e, rfl⟩ := h
      simp only [blsP, bls_rp t e, Option.map_some]
    | _ => cases h
def lstD : D → Option (List D)
  | .lst xs => some xs
  | _ => none
theorem lst_rd (r : Rd' S X v d) (h : lstD d = some ds) : ∃ xs, lstOf S v = some xs ∧ Rps S X xs ds := by
  cases d with
  | lst xs => cases h; obtain ⟨n, ys, rfl, e, r3⟩ := r.inv_lst; exact ⟨ys, by simp only [lstOf, e], r3⟩
  | _ => cases h
theorem lst_bls {ns : List Bool} (r : Rd' S X v d) (h : (lstD d).bind blsD = some ns) : (lstOf S v).bind blsP = some ns := by
  cases e : lstD d with
  | none => rw [e] at h; cases h
  | some ds => rw [e] at h; obtain ⟨xs, e2, r2⟩ := lst_rd r e; rw [e2]; exact bls_rp r2 h
def gAll : List D → Option D
  | [.lst xs] => (blsD xs).map fun ns => .bl (ns.all id)
  | _ => none
theorem og_all : OLR .new oAll gAll := by
  intro S X xs ds hX h d hd
  unfold gAll at hd
  split at hd
  · obtain ⟨v, rfl, r⟩ := rds1 h
    rw [Option.map_eq_some_iff] at hd
    obtain ⟨ns, e, rfl⟩ := hd
    have q := lst_bls r (show (lstD (.lst _)).bind blsD = _ from e)
    exact ⟨_, S, by simp only [oAll, q], .refl _ _, .bl _⟩
  · cases hd
def gListOf : List D → Option D
  | [.tup xs] => some (.lst xs)
  | [.lst xs] => some (.lst xs)
  | [.dK xs] => some (.lst (xs.map fun kv => kD kv.1))
  | [.dT xs] => some (.lst (xs.map fun kv => .tup (kv.1.map kD)))
  | _ => none
theorem kr_keys {κ : Type} {f : κ → PV} {g : κ → D} (hf : ∀ a, Rp S X (f a) (g a)) : ∀ {xs : List (κ × PV)} {ys : List (κ × D)}, KRp S X xs ys → Rps S X (xs.map fun kv => f kv.1) (ys.map fun kv => g kv.1)
  | _, _, .nil => .nil
  | (a, _) :: _, (b, _) :: _, .cons h t => by cases (show a = b from h.1); exact .cons (hf a) (kr_keys hf t)
theorem og_listOf : OLR .new oListOf gListOf := by
  intro S X xs ds hX h d hd
  unfold gListOf at hd
  split at hd
  · obtain ⟨v, rfl, r⟩ := rds1 h; cases hd; obtain ⟨ys, rfl, r3⟩ := r.inv_tup; exact ⟨_, _, rfl, .app _ _ _, NewR.app (.lst r3) hX⟩
  · obtain ⟨v, rfl, r⟩ := rds1 h; cases hd; obtain ⟨n, ys, rfl, e, r3⟩ := r.inv_lst; exact ⟨_, _, by simp only [oListOf, e], .app _ _ _, NewR.app (.lst r3) hX⟩
  · obtain ⟨v, rfl, r⟩ := rds1 h; cases hd; obtain ⟨n, ys, rfl, e, r3⟩ := r.inv_dK; exact ⟨_, _, by simp only [oListOf, e], .app _ _ _, NewR.app (.lst (kr_keys kP_rp r3)) hX⟩
  · obtain ⟨v, rfl, r⟩ := rds1 h; cases hd; obtain ⟨n, ys, rfl, e, r3⟩ := r.inv_dT; exact ⟨_, _, by simp only [oListOf, e], .app _ _ _, NewR.app (.lst (kr_keys (f := fun k => .tup (k.map kP)) (fun a => .tup (.flat kP_rp a)) r3)) hX⟩
  · cases hd
def gTupOf : List D → Option D
  | [x] => (itemsD x).map D.tup
  | _ => none
theorem og_tupOf : OLR .new oTupOf gTupOf := by
  intro S X xs ds hX h d hd
  unfold gTupOf at hd
  split at hd
  · obtain ⟨v, rfl, r⟩ := rds1 h
    rw [Option.map_eq_some_iff] at hd
    obtain ⟨ns, e, rfl⟩ := hd
    obtain ⟨ys, e2, r2⟩ := items_rd r e
    exact ⟨_, S, by simp only [oTupOf, e2], .refl _ _, .tup r2⟩
  · cases hd
def tyD : D → Option String
  | .non => some "NoneType"
  | .bl _ => some "bool"
  | .int _ => some "int"
  | .str _ => some "str"
  | .tup _ => some "tuple"
  | .lst _ => some "list"
  | .dK _ => some "dict"
  | .dT _ => some "dict"
  | _ => none
theorem ty_rd {t : String} (r : Rd' S X v d) (h : tyD d = some t) : tyName S v = some t := by
  cases d with
  | non => cases h; rw [r.inv_non]; rfl
  | bl b => cases h; rw [r.inv_bl]; rfl
  | int b => cases h; rw [r.inv_int]; rfl
  | str b => cases h; rw [r.inv_str]; rfl
  | tup b => cases h; obtain ⟨_, rfl, _⟩ := r.inv_tup; rfl
  | lst b => cases h; obtain ⟨_, _, rfl, e, _⟩ := r.inv_lst; simp only [tyName, e]
  | dK b => cases h; obtain ⟨_, _, rfl, e, _⟩ := r.inv_dK; simp only [tyName, e]
  | dT b => cases h; obtain ⟨_, _, rfl, e, _⟩ := r.inv_dT; simp only [tyName, e]
  | obj c f => cases h
def gIsi (Ts : List String) (x : D) : Option D := (tyD x).map fun T => .bl (Ts.any fun U => isiB T U)
theorem og_isi {Ts : List String} : O1R .new (oIsi Ts) (gIsi Ts) := by
  intro S X x dx hX h1 d hd
  unfold gIsi at hd
  rw [Option.map_eq_some_iff] at hd
  obtain ⟨t, e, rfl⟩ := hd
  exact ⟨_, S, by simp only [oIsi, ty_rd h1 e], .refl _ _, .bl _⟩
open Classical in
noncomputable def gListRg1 : D → Option D
  | .int nn => if RgOk 0 nn ∧ (rgP 0 nn).length ≤ lim then some (.lst ((List.range (nn - 0).toNat).map fun i => D.int (0 + (i : Nat)))) else none
  | _ => none
theorem og_listRg1 : O1R .new oListRg1 gListRg1 := by
  intro S X x dx hX h1 d hd
  unfold gListRg1 at hd
  split at hd
  · split at hd
    · cases hd; rw [h1.inv_int]; exact ⟨_, _, by simp only [oListRg1]; rw [if_pos (by assumption)]; rfl, .app _ _ _, NewR.app (.lst (.flat (fun i => .int _) _)) hX⟩
    · cases hd
  · cases hd
open Classical in
noncomputable def gTupRg1 : D → Option D
  | .int nn => if RgOk 0 nn ∧ (rgP 0 nn).length ≤ lim then some (.tup ((List.range (nn - 0).toNat).map fun i => D.int (0 + (i : Nat)))) else none
  | _ => none
theorem og_tupRg1 : O1R .new oTupRg1 gTupRg1 := by
  intro S X x dx hX h1 d hd
  unfold gTupRg1 at hd
  split at hd
  · split at hd
    · cases hd; rw [h1.inv_int]; exact ⟨_, _, by simp only [oTupRg1]; rw [if_pos (by assumption)]; rfl, .refl _ _, .tup (.flat (fun i => .int _) _)⟩
    · cases hd
  · cases hd
/-! ### slices -/
def partD : D → Option (Option Int)
  | .int i => some (some i)
  | .non => some none
  | _ => none
def cutD (xs : List D) (lo hi : Option Int) : List D := (xs.drop (HT.sIx xs.length 0 lo)).take (HT.sIx xs.length xs.length hi - HT.sIx xs.length 0 lo)
theorem cut_rp {lo hi : Option Int} (h : Rps S X vs ds) : Rps S X (cutP vs lo hi) (cutD ds lo hi) := by
  unfold cutP cutD; rw [h.length]; exact (h.drop _).take _
def gCut (x : D) (l u : Option Int) : Option D := match x with
  | .tup xs => some (.tup (cutD xs l u))
  | .lst xs => some (.lst (cutD xs l u))
  | _ => none
theorem og_cut {l u : Option Int} (hX : ∀ n ∈ X, n < S.length) (r : Rd' S X v d) : Does .new S X (oCut v l u S) (gCut d l u) := by
  intro d' hd
  unfold gCut at hd
  split at hd
  · cases hd; obtain ⟨ys, rfl, r3⟩ := r.inv_tup; exact ⟨_, S, rfl, .refl _ _, .tup (cut_rp r3)⟩
  · cases hd; obtain ⟨n, ys, rfl, e, r3⟩ := r.inv_lst; exact ⟨_, _, by simp only [oCut, e], .app _ _ _, NewR.app (.lst (cut_rp r3)) hX⟩
  · cases hd
/-! ### methods that only read -/
end
section
variable {Y X : List Nat} {sh : List Sh} {mu mu' mu2 : List Nat} {env : Env'} {S S' : Ms} {e : DE} {fps : List (List Nat)} {m n c : ME} {p q r : QE} {t u : MB} {b b' : QB} {ml : ML} {ql : QL}
def qOnly (a : QE) : QE := fun e => (a e).bind fun x e1 => match x with | .int i => .ret (.int i) e1 | _ => .fail
theorem onlyI_eq : onlyI m env S = (m env S).bind fun x S1 => match x with | .int i => .ret (.int i) S1 | _ => .fail := by
  unfold onlyI Out.bind
  cases m env S with
  | ret v _ => cases v <;> rfl
  | _ => rfl
theorem le_only {l : List Nat} (ha : LE sh mu (.rd l) m p) : LE sh mu .new (onlyI m) (qOnly p) := fun Y env S e fps E => by
  rw [onlyI_eq]
  refine LPost.nil' (LPost.seq (ha Y env S e fps E) VKhV fun v d S1 e1 st r => ?_)
  cases d with
  | int i => rw [r.rd.inv_int]; exact .now st.er (.int _)
  | _ => trivial
def qCut (a l u : QE) : QE := fun e => (a e).bind fun x e1 => (l e1).bind fun y e2 => match partD y with
  | some lo => (u e2).bind fun z e3 => (match partD z with | some hi => opt (gCut x lo hi) e3 | none => .fail)
  | none => .fail
theorem part_rd {S : Ms} {X : List Nat} {v : PV} {d : D} {r : Option Int} (h : Rd' S X v d) (e : partD d = some r) : partI v = some r := by
  cases d with
  | int i => rw [h.inv_int]; exact e
  | non => rw [h.inv_non]; exact e
  | _ => cases e
theorem le_cut {l : List Nat} (ha : LE sh mu (.rd l) m p) (hl : LE sh mu' .new n q) (hu : LE sh mu2 .new c r) (h1 : ∀ i ∈ l, i ∉ mu' := by decide) (h2 : ∀ i ∈ l, i ∉ mu2 := by decide) : LE sh (mu ++ (mu' ++ mu2)) .new (mCut m n c) (qCut p q r) := fun Y env S e fps E => by
  unfold mCut qCut
  refine LPost.seq (ha Y env S e fps E) VKhV fun v d S1 e1 st r1 => LPost.seq (hl.at_ st.er) VKhV fun w d2 S2 e2 st2 r2 => ?_
  have k1 := r1.keep st2.fr E.nd fl_in h1
  have hu' := (hu _ env S2 e2 fps st2.er).sub (X' := Y ++ fps.flatten) (fun n hn => in_more n (in_more n hn)) fun S' v d r => VK.weaken (k := .new) r fun n hn => in_more n (in_more n hn)
  have p2 : ∀ r, partD d2 = some r → partI w = some r := fun r hr => part_rd r2.1.rd hr
  cases e2q : partD d2 with
  | none => trivial
  | some lo =>
    rw [p2 lo e2q]
    refine LPost.nil' (LPost.seq hu' VKhV fun z d3 S3 e3 st3 r3 => ?_)
    cases e3q : partD d3 with
    | none => trivial
    | some hi =>
      rw [part_rd (VK.up r3 (.inl rfl)).rd e3q]
      exact Does.post st3.er (og_cut (fun n hn => st3.xlt n (in_more n (in_more n hn))) (k1.keep st3.fr E.nd fl_in h2).rd)
end
end MP

set_option maxRecDepth 100000
namespace MP
open PySem PySem.Spec PyProof.Rows L2
theorem getD_set_eq {α : Type} {l : List α} {i : Nat} {a z : α} (h : i < l.length) : (l.set i a).getD i z = a := by simp [List.getD_eq_getElem?_getD, h]
theorem getD_set_ne {α : Type} {l : List α} {i j : Nat} {a z : α} (h : i ≠ j) : (l.set i a).getD j z = l.getD j z := by simp [List.getD_eq_getElem?_getD, List.getElem?_set_ne h]
theorem getD_lt' {α : Type} {l : List α} {i : Nat} {z : α} (h : l.getD i z ≠ z) : i < l.length := by
  rw [List.getD_eq_getElem?_getD] at h
  cases e : l[i]? with
  | none => rw [e] at h; exact absurd rfl h
  | some x => exact (List.getElem?_eq_some_iff.mp e).1
/-! ### data without lists in it -/
mutual
def noLst : D → Bool
  | .tup xs => noLsts xs
  | .lst _ => false
  | .dK _ => false
  | .dT _ => false
  | .obj _ _ => false
  | _ => true
def noLsts : List D → Bool
  | [] => true
  | x :: xs => noLst x && noLsts xs
end
def nlc : D → Bool
  | .lst xs => noLsts xs
  | .dK kvs => noLsts (kvs.map (·.2))
  | .dT kvs => noLsts (kvs.map (·.2))
  | .obj _ fs => noLsts (fs.map (·.2))
  | d => noLst d
mutual
theorem Rp.nl {S : Ms} {X X' : List Nat} : ∀ {v : PV} {d : D}, Rp S X v d → noLst d = true → Rp S X' v d
  | _, _, .non, _ => .non
  | _, _, .bl b, _ => .bl b
  | _, _, .int i, _ => .int i
  | _, _, .str s, _ => .str s
  | _, _, .tup h, e => .tup (Rps.nl h (by simpa [noLst] using e))
  | _, _, .loc hn en c, e => by cases c <;> simp [noLst] at e
theorem Rps.nl {S : Ms} {X X' : List Nat} : ∀ {v : List PV} {d : List D}, Rps S X v d → noLsts d = true → Rps S X' v d
  | _, _, .nil, _ => .nil
  | _, _, .cons h t, e => by simp only [noLsts, Bool.and_eq_true] at e; exact .cons (Rp.nl h e.1) (Rps.nl t e.2)
end
section
variable {Y X X' : List Nat} {sh : List Sh} {mu mu' mu2 : List Nat} {env env' : Env'} {S S' S1 S2 : Ms} {e e' e1 : DE} {fps fps' : List (List Nat)} {m n c : ME} {p q r : QE} {t u : MB} {b b' : QB} {ml mk : ML} {ql qk : QL} {v : PV} {d : D} {k : Kd}
theorem KRp.nl {κ : Type} : ∀ {xs : List (κ × PV)} {ys : List (κ × D)}, KRp S X xs ys → noLsts (ys.map (·.2)) = true → KRp S X' xs ys
  | _, _, .nil, _ => .nil
  | _, _, .cons h t, e => by simp only [List.map_cons, noLsts, Bool.and_eq_true] at e; exact .cons ⟨h.1, h.2.nl e.1⟩ (KRp.nl t e.2)
theorem Cont.inv_obj {o : Ob} {cc : Str} {kds : List (Str × D)} (h : Cont S X o (.obj cc kds)) : ∃ kvs, o = .ins cc kvs ∧ KRp S X kvs kds := by
  generalize e : D.obj cc kds = d at h
  cases h <;> cases e
  exact ⟨_, rfl, kr_of_zip (by assumption)⟩
theorem Cont.mk_obj {cc : Str} {kvs : List (Str × PV)} {kds : List (Str × D)} (h : KRp S X kvs kds) : Cont S X (.ins cc kvs) (.obj cc kds) := by
  obtain ⟨ks, vs, ds, rfl, rfl, r⟩ := zip_of_kr h; exact .obj r
theorem Cont.nl {o : Ob} (h : Cont S X o d) (e : nlc d = true) : Cont S X' o d := by
  cases d with
  | lst xs => obtain ⟨vs, rfl, r⟩ := h.inv_lst; exact .lst (r.nl e)
  | dK xs => obtain ⟨vs, rfl, r⟩ := h.inv_dK; exact .mk_dK (r.nl e)
  | dT xs => obtain ⟨vs, rfl, r⟩ := h.inv_dT; exact .mk_dT (r.nl e)
  | obj cc xs => obtain ⟨vs, rfl, r⟩ := h.inv_obj; exact .mk_obj (r.nl e)
  | _ => cases h
/-! ### what a function promises -/
inductive FO where | ret (d b : D) | exc (x : QX) (b : D) | fail
def RF (fr : Bool) (S S' : Ms) (X : List Nat) (v : PV) (d : D) : Prop := Rp S' X v d ∧ (fr = true → ∀ n, v = .loc n → S.length ≤ n ∧ ∃ o, S'[n]? = some o ∧ Cont S' (n :: X) o d)
def FQ (np : Nat) (fr : Bool) (f : List PV → Ms → Out PV) (q : List D → FO) : Prop := ∀ S X args ds, args.length = np → (∀ n ∈ X, n < S.length) → Rps S X args ds → match q ds with
  | .ret d _ => ∃ v S', f args S = .ret v S' ∧ Fr [] S S' ∧ RF fr S S' X v d
  | .exc x _ => ∃ x' S', f args S = .exc x' S' ∧ Fr [] S S' ∧ XRp S' X x' x
  | .fail => True
def FL (np : Nat) (fr : Bool) (f : List PV → Ms → Out PV) (q : List D → FO) : Prop := ∀ S X n o d0 args ds, args.length + 1 = np → (∀ n ∈ X, n < S.length) → n ∈ X → S[n]? = some o → Cont S X o d0 → Rps S X args ds → match q (d0 :: ds) with
  | .ret d b => ∃ v S' o', f (.loc n :: args) S = .ret v S' ∧ Fr [n] S S' ∧ S'[n]? = some o' ∧ (∃ X0, Cont S' X0 o' b) ∧ nlc b = true ∧ RF fr S S' X v d
  | .exc x b => ∃ x' S' o', f (.loc n :: args) S = .exc x' S' ∧ Fr [n] S S' ∧ S'[n]? = some o' ∧ (∃ X0, Cont S' X0 o' b) ∧ nlc b = true ∧ XRp S' X x' x
  | .fail => True
def okD (chk fr : Bool) (d : D) : Bool := match chk with | false => true | true => (match fr with | true => nlc d | false => noLst d)
def okX (chk : Bool) (x : QX) : Bool := match chk with | false => true | true => noLsts (x.fs.map (·.2))
def frK : Bool → Kd | true => .new | false => .val
def qRes (chk fr : Bool) (o : FO) (g : D → DE) : LO D := match o with
  | .ret d b => if okD chk fr d = true then .ret d (g b) else .fail
  | .exc x b => if okX chk x = true then .exc x (g b) else .fail
  | .fail => .fail
def qCall (np : Nat) (chk fr : Bool) (l : QL) (G : List D → FO) : QE := fun e => (l e).bind fun ds e1 => if ds.length = np then qRes chk fr (G ds) (fun _ => e1) else .fail
/-- the places read are left out -/
def lessX (X : List Nat) (l : List Nat) : List Nat := X.filter fun n => decide (n ∉ l)
theorem mem_less {X l : List Nat} {n : Nat} : n ∈ lessX X l ↔ n ∈ X ∧ n ∉ l := by unfold lessX; rw [List.mem_filter]; simp
theorem rps_less {l : List Nat} : ∀ {vs : List PV} {ds : List D}, VKs (.rd l) S S1 X fps vs ds → Rps S1 (lessX X (sel l fps)) vs ds
  | _, _, .nil => .nil
  | _, _, .cons h t => .cons (h.elim (fun h => h.sub fun n hn => .inl (mem_less.mp hn).1) fun ⟨i, hi, n, o, e1, e2, e3, e4⟩ => e1 ▸ .loc (fun z => (mem_less.mp z).2 (mem_sel.mpr ⟨i, hi, by rw [e2]; simp⟩)) e3 (e4.sub fun n hn => .inl (mem_less.mp hn).1)) (rps_less t)
theorem RF.back {fr chk : Bool} {l : List Nat} (h : RF fr S1 S2 (lessX X (sel l fps)) v d) (hX : ∀ n ∈ X, n < S1.length) (hl : chk = true ∨ l = []) (ho : okD chk fr d = true) : VK (frK fr) S1 S2 X fps v d := by
  have base : l = [] → VK (frK fr) S1 S2 X fps v d := fun e => by
    subst e
    have hx : ∀ n ∈ X, n ∈ lessX X (sel [] fps) := fun n hn => mem_less.mpr ⟨hn, by simp [sel]⟩
    cases fr with
    | false => exact h.1.sub fun n hn => .inl (hx n hn)
    | true => exact VK.weaken (k := .new) ⟨h.1, h.2 rfl⟩ hx
  cases chk with
  | false => exact base (hl.resolve_left (by decide))
  | true =>
    cases fr with
    | false => exact h.1.nl ho
    | true =>
      have ho : nlc d = true := ho
      by_cases hv : ∃ n, v = .loc n
      · obtain ⟨n, rfl⟩ := hv
        obtain ⟨h1, o, h2, h3⟩ := h.2 rfl n rfl
        refine ⟨.loc (fun z => by have := hX n z; omega) h2 (h3.nl ho), fun k hk => ?_⟩
        cases hk
        exact ⟨h1, o, h2, h3.nl ho⟩
      · refine NewR.flat ?_ fun n e => hv ⟨n, e⟩
        have h1 := h.1
        cases h1 with
        | loc _ _ _ => exact absurd ⟨_, rfl⟩ hv
        | tup hh => exact Rp.nl (.tup hh) ho
        | non => exact .non
        | bl b => exact .bl b
        | int b => exact .int b
        | str b => exact .str b
theorem Rps.nlz {κ : Type} {X X' : List Nat} : ∀ {ks : List κ} {vs : List PV} {ds : List D}, Rps S X vs ds → noLsts ((List.zip ks ds).map (·.2)) = true → ∃ vs' ds', List.zip ks vs = List.zip ks vs' ∧ List.zip ks ds = List.zip ks ds' ∧ Rps S X' vs' ds'
  | [], vs, ds, _, _ => ⟨[], [], by simp, by simp, .nil⟩
  | k :: ks, _, _, .nil, _ => ⟨[], [], rfl, rfl, .nil⟩
  | k :: ks, _, _, .cons h t, e => by
    simp only [List.zip_cons_cons, List.map_cons, noLsts, Bool.and_eq_true] at e
    obtain ⟨vs', ds', e1, e2, r⟩ := Rps.nlz (ks := ks) t e.2
    exact ⟨_ :: vs', _ :: ds', by simp only [List.zip_cons_cons, e1], by simp only [List.zip_cons_cons, e2], .cons (h.nl e.1) r⟩
theorem XRp.back {chk : Bool} {l : List Nat} {x : Ex} {qx : QX} (h : XRp S2 (lessX X (sel l fps)) x qx) (hl : chk = true ∨ l = []) (ho : okX chk qx = true) : XRp S2 X x qx := by
  cases chk with
  | false =>
    have e := hl.resolve_left (by decide)
    subst e
    exact h.weaken fun n hn => mem_less.mpr ⟨hn, by simp [sel]⟩
  | true =>
    obtain ⟨a, ks, vs, ds, b, c, r⟩ := h
    have ho : noLsts (qx.fs.map (·.2)) = true := ho
    rw [c] at ho
    obtain ⟨vs', ds', e1, e2, r'⟩ := Rps.nlz (X' := X) r ho
    exact ⟨a, ks, vs', ds', b.trans e1, c.trans e2, r'⟩
theorem vks_len : ∀ {vs : List PV} {ds : List D}, VKs k S S' X fps vs ds → vs.length = ds.length
  | _, _, .nil => rfl
  | _, _, .cons _ t => by rw [List.length_cons, List.length_cons, vks_len t]
theorem le_call {np : Nat} {fr chk : Bool} {l : List Nat} {f : List PV → Ms → Out PV} {G : List D → FO} (hf : FQ np fr f G) (ha : LL sh mu (.rd l) ml ql) (hl : chk = true ∨ l = [] := by first | exact .inl rfl | exact .inr rfl) :
    LE sh mu (frK fr) (mL ml (cl np f)) (qCall np chk fr ql G) := fun Y env S e fps E =>
  LPost.nil' (LPost.seq (ha Y env S e fps E) VKhV fun vs ds S1 e1 st r => by
    by_cases hn : ds.length = np
    · rw [if_pos hn]
      have hn' : vs.length = np := by rw [vks_len r]; exact hn
      unfold cl
      rw [if_pos hn']
      have h := hf S1 (lessX (Y ++ fps.flatten) (sel l fps)) vs ds hn' (fun n hn => st.xlt n (mem_less.mp hn).1) (rps_less r)
      unfold qRes
      cases hg : G ds with
      | fail => trivial
      | ret d b =>
        rw [hg] at h
        obtain ⟨v, S2, h1, h2, h3⟩ := h
        by_cases ho : okD chk fr d = true
        · dsimp only; rw [if_pos ho]; exact ⟨v, S2, h1, .quiet st.er h2, h3.back st.xlt hl ho⟩
        · dsimp only; rw [if_neg ho]; trivial
      | exc x b =>
        rw [hg] at h
        obtain ⟨v, S2, h1, h2, h3⟩ := h
        by_cases ho : okX chk x = true
        · dsimp only; rw [if_pos ho]; exact ⟨v, S2, h1, .quiet st.er h2, h3.back hl ho⟩
        · dsimp only; rw [if_neg ho]; trivial
    · rw [if_neg hn]; trivial)
/-- an owned object gets new contents -/
theorem EnvR.write {i n0 : Nat} {o' : Ob} {d' : D} (E : EnvR Y sh env S e fps) (hi : sh.getD i .val ≠ .val) (hv : env.getD i none = some (.loc n0)) (hf : fps.getD i [] = [n0]) (f : Fr [n0] S S') (hs : S'[n0]? = some o') (cc : Cont S' ((Y ++ newL S S') ++ fps.flatten) o' d') :
    EnvR (Y ++ newL S S') sh env S' (e.set i (some d')) fps := by
  have hlt : i < e.length := by rw [← E.l2]; exact getD_lt' (z := []) (by rw [hf]; simp)
  have hin : n0 ∈ fps.flatten := fp_in (i := i) (by rw [hf]; simp)
  refine ⟨by rw [List.length_set]; exact E.l1, by rw [List.length_set]; exact E.l2, fun j => ?_, E.nd, fun y hy => ?_, fun j hj x hx z => ?_⟩
  · by_cases hij : i = j
    · subst hij
      rw [getD_set_eq hlt, hv, hf]
      exact .root hi hs cc
    · rw [getD_set_ne hij]
      refine (E.slot j).mono (fun m hm hl => ⟨fun z => ?_, f.2 m hl fun z => ?_⟩) fun m hm => f.2 m ((E.slot j).lt m hm) fun z => ?_
      · rcases List.mem_append.mp z with z | z
        · rcases List.mem_append.mp z with z | z
          · exact hm (List.mem_append_left _ z)
          · have := (mem_newL.mp z).1; omega
        · exact hm (List.mem_append_right _ z)
      · rw [List.mem_singleton] at z; subst z; exact hm (List.mem_append_right _ hin)
      · rw [List.mem_singleton] at z; subst z
        exact hij (fp_disj E.nd (by rw [hf]; simp) hm)
  · rcases List.mem_append.mp hy with z | z
    · exact Nat.lt_of_lt_of_le (E.bd y z) f.1
    · exact (mem_newL.mp z).2
  · rcases List.mem_append.mp z with z | z
    · exact E.dj j hj x hx z
    · have := (E.slot j).lt x hx; have := (mem_newL.mp z).1; omega
/-- what an owned slot holds -/
def objD : D → Bool
  | .lst _ => true
  | .dK _ => true
  | .dT _ => true
  | .obj _ _ => true
  | _ => false
theorem EnvR.own {i : Nat} (E : EnvR Y sh env S e fps) (hi : sh.getD i .val ≠ .val) (he : e.getD i none = some d) (ho : objD d = true) : ∃ n o, env.getD i none = some (.loc n) ∧ fps.getD i [] = [n] ∧ S[n]? = some o ∧ Cont S (Y ++ fps.flatten) o d := by
  have h := E.slot i
  rw [he] at h
  generalize env.getD i none = v at *
  generalize fps.getD i [] = f at *
  generalize hs : sh.getD i .val = s at h hi
  cases h with
  | val _ => exact absurd rfl hi
  | flat k r => cases r with
    | loc _ _ _ => exact absurd rfl (k _)
    | _ => cases ho
  | root _ a c => exact ⟨_, _, rfl, rfl, a, c⟩
theorem EnvR.has {i : Nat} (E : EnvR Y sh env S e fps) (he : e.getD i none = some d) : ∃ v, env.getD i none = some v := by
  have h := E.slot i
  rw [he] at h
  generalize env.getD i none = v at *
  generalize sh.getD i .val = s at h
  generalize fps.getD i [] = f at h
  cases h <;> exact ⟨_, rfl⟩
def qCallB (np : Nat) (chk fr : Bool) (i : Nat) (l : QL) (G : List D → FO) : QE := fun e => match e.getD i none with
  | none => .fail
  | some _ => (l e).bind fun ds e1 => match e1.getD i none with
    | none => .fail
    | some b => if objD b = true ∧ ds.length + 1 = np then qRes chk fr (G (b :: ds)) (fun b' => e1.set i (some b')) else .fail
theorem le_callB {np : Nat} {fr chk : Bool} {l : List Nat} {i : Nat} {f : List PV → Ms → Out PV} {G : List D → FO} (hf : FL np fr f G) (ha : LL sh mu (.rd l) ml ql) (hi : sh.getD i .val ≠ .val := by decide) (hil : i ∉ l := by decide) (hl : chk = true ∨ l = [] := by first | exact .inl rfl | exact .inr rfl) :
    LE sh (mu ++ [i]) (frK fr) (mL (mCons (mVar i) ml) (cl np f)) (qCallB np chk fr i ql G) := fun Y env S e fps E => by
  unfold qCallB
  cases he : e.getD i none with
  | none => trivial
  | some d0 =>
    obtain ⟨v0, hv0⟩ := E.has he
    have e0 : mL (mCons (mVar i) ml) (cl np f) env S = (ml env S).bind fun vs S1 => cl np f (v0 :: vs) S1 := by
      unfold mL; rw [mCons_eq, mVar_get hv0]; show ((ml env S).bind _).bind _ = _
      unfold Out.bind; cases ml env S <;> rfl
    rw [e0]
    refine LPost.seq (ha Y env S e fps E) VKhV fun vs ds S1 e1 st r => ?_
    cases he1 : e1.getD i none with
    | none => trivial
    | some b =>
      dsimp only
      by_cases hq : objD b = true ∧ ds.length + 1 = np
      · rw [if_pos hq]
        obtain ⟨n0, o, hv, hfp, hs, hc⟩ := st.er.own hi he1 hq.1
        rw [hv0] at hv; cases hv
        have hn' : (PV.loc n0 :: vs).length = np := by rw [List.length_cons, vks_len r]; exact hq.2
        unfold cl
        rw [if_pos hn']
        have hin : n0 ∈ fps.flatten := fp_in (i := i) (by rw [hfp]; simp)
        have hnl : n0 ∉ sel l fps := fun z => by
          obtain ⟨j, hj, hx⟩ := mem_sel.mp z
          have := fp_disj E.nd (i := i) (j := j) (by rw [hfp]; simp) hx
          subst this; exact hil hj
        have h := hf S1 (lessX (Y ++ fps.flatten) (sel l fps)) n0 o b vs ds (by simpa using hn') (fun n hn => st.xlt n (mem_less.mp hn).1) (mem_less.mpr ⟨List.mem_append_right _ hin, hnl⟩) hs (hc.sub fun n hn => .inl (in_more n (mem_less.mp hn).1)) (rps_less r)
        have wr : ∀ {S2 : Ms} {o' : Ob} {b' : D} {X0 : List Nat}, Fr [n0] S1 S2 → S2[n0]? = some o' → Cont S2 X0 o' b' → nlc b' = true → Stp (Y ++ newL S S1) sh [i] env S1 (e1.set i (some b')) fps S2 := fun f1 h1 h2 h3 =>
          ⟨f1.mono fun n hn => by rw [List.mem_singleton] at hn; subst hn; exact mem_sel.mpr ⟨i, by simp, by rw [hfp]; simp⟩, st.er.write hi hv0 hfp f1 h1 (h2.nl h3)⟩
        unfold qRes
        cases hg : G (b :: ds) with
        | fail => trivial
        | ret d b' =>
          rw [hg] at h
          obtain ⟨v, S2, o', h1, h2, h3, ⟨X0, h4⟩, h5, h6⟩ := h
          by_cases ho : okD chk fr d = true
          · dsimp only; rw [if_pos ho]; exact ⟨v, S2, h1, wr h2 h3 h4 h5, h6.back st.xlt hl ho⟩
          · dsimp only; rw [if_neg ho]; trivial
        | exc x b' =>
          rw [hg] at h
          obtain ⟨v, S2, o', h1, h2, h3, ⟨X0, h4⟩, h5, h6⟩ := h
          by_cases ho : okX chk x = true
          · dsimp only; rw [if_pos ho]; exact ⟨v, S2, h1, wr h2 h3 h4 h5, h6.back hl ho⟩
          · dsimp only; rw [if_neg ho]; trivial
      · rw [if_neg hq]; trivial
end
end MP

set_option maxRecDepth 100000
namespace MP
open PySem PySem.Spec PyProof.Rows L2
section
variable {Y X X' : List Nat} {sh : List Sh} {mu mu' mu2 : List Nat} {env env' : Env'} {S S' S1 S2 : Ms} {e e' e1 : DE} {fps fps' : List (List Nat)} {m n c : ME} {p q r : QE} {t u : MB} {b b' : QB} {ml mk : ML} {ql qk : QL} {v : PV} {d : D} {k : Kd}
/-! ### calls by keywords -/
theorem rps_getD (h : Rps S X vs ds) (i : Nat) : Rp S X (vs.getD i .non) (ds.getD i .non) := by
  rw [List.getD_eq_getElem?_getD, List.getD_eq_getElem?_getD]
  cases e : ds[i]? with
  | none =>
    have : vs[i]? = none := by rw [List.getElem?_eq_none_iff] at e ⊢; rw [h.length]; exact e
    rw [this]; exact .non
  | some d => obtain ⟨v, e2, r⟩ := h.get e; rw [e2]; exact r
theorem rps_gOf (h : Rps S X vs ds) (h' : Rps S X vs' ds') (is : List Nat) : Rps S X (gOf .non is vs vs') (gOf .non is ds ds') := by
  unfold gOf
  induction is with
  | nil => exact .nil
  | cons i is ih => exact .cons (rps_getD (h.append h') i) ih
def qCallK (nn kk : Nat) (is : List Nat) (chk fr : Bool) (l lk : QL) (G : List D → FO) : QE := fun e => (l e).bind fun ds e1 => (lk e1).bind fun zs e2 => if ds.length = nn ∧ zs.length = kk then qRes chk fr (G (gOf .non is ds zs)) (fun _ => e2) else .fail
theorem le_callK {np nn kk : Nat} {is : List Nat} {fr chk : Bool} {l l' : List Nat} {f : List PV → Ms → Out PV} {G : List D → FO} (hf : FQ np fr f G) (ha : LL sh mu (.rd l) ml ql) (hk : LL sh mu' (.rd l') mk qk) (his : is.length = np := by rfl) (hll : ∀ i ∈ l, i ∉ mu' := by decide) (hl : chk = true ∨ l ++ l' = [] := by first | exact .inl rfl | exact .inr rfl) :
    LE sh (mu ++ mu') (frK fr) (mCallK ml mk nn kk is f) (qCallK nn kk is chk fr ql qk G) := fun Y env S e fps E => by
  unfold mCallK qCallK
  refine LPost.seq (ha Y env S e fps E) VKhV fun vs ds S1 e1 st r => LPost.nil' (LPost.seq (hk.at_ st.er) VKhV fun zs es S2 e2 st2 r2 => ?_)
  have r1 := VKs.more (l' := l ++ l') (fun i hi => List.mem_append_left _ hi) (VKs.keep E.nd fl_in hll st2.fr r)
  have r2 := VKs.more (l' := l ++ l') (fun i hi => List.mem_append_right _ hi) r2
  by_cases hn : ds.length = nn ∧ es.length = kk
  · rw [if_pos hn, if_pos ⟨by rw [vks_len r]; exact hn.1, by rw [vks_len r2]; exact hn.2⟩]
    have hx : ∀ n ∈ Y ++ fps.flatten, n < S2.length := fun n hn => st2.xlt n (in_more n hn)
    have h := hf S2 (lessX (Y ++ fps.flatten) (sel (l ++ l') fps)) (gOf .non is vs zs) (gOf .non is ds es) (by unfold gOf; rw [List.length_map]; exact his) (fun n hn => hx n (mem_less.mp hn).1) (rps_gOf (rps_less r1) (rps_less r2) is)
    unfold qRes
    cases hg : G (gOf .non is ds es) with
    | fail => trivial
    | ret d b =>
      rw [hg] at h
      obtain ⟨v, S3, h1, h2, h3⟩ := h
      by_cases ho : okD chk fr d = true
      · dsimp only; rw [if_pos ho]; exact ⟨v, S3, h1, .quiet st2.er h2, h3.back hx hl ho⟩
      · dsimp only; rw [if_neg ho]; trivial
    | exc x b =>
      rw [hg] at h
      obtain ⟨v, S3, h1, h2, h3⟩ := h
      by_cases ho : okX chk x = true
      · dsimp only; rw [if_pos ho]; exact ⟨v, S3, h1, .quiet st2.er h2, h3.back hl ho⟩
      · dsimp only; rw [if_neg ho]; trivial
  · rw [if_neg hn]; trivial
/-! ### methods that read; get -/
def qMeth (a : QE) (l : QL) (g : D → List D → Option D) : QE := fun e => (a e).bind fun x e1 => if (lstD x).isSome = true then (l e1).bind fun xs e2 => opt (g x xs) e2 else .fail
def qNewK : QE := fun e => .ret (.dK []) e
def qNewT : QE := fun e => .ret (.dT []) e
/-! ### x.pop(..): what it takes from an owned list -/
def gPop : D → List D → Option (D × D)
  | .lst xs, [] => (match xs[xs.length - 1]? with | some y => some (y, .lst xs.dropLast) | none => none)
  | .lst xs, [.int i] => if -(2 ^ 63) ≤ i ∧ i < 2 ^ 63 then (match seqIndex? i xs.length with
      | some k => (match xs[k]? with | some y => some (y, .lst (xs.eraseIdx k)) | none => none)
      | none => none) else none
  | _, _ => none
theorem Rps.dropLast (h : Rps S X vs ds) : Rps S X vs.dropLast ds.dropLast := by
  rw [List.dropLast_eq_take, List.dropLast_eq_take, h.length]; exact h.take _
theorem pop_rp {n0 : Nat} {o : Ob} {xs : List PV} {d d1 d2 : D} (hs : S[n0]? = some o) (hc : Cont S X o d) (hx : Rds S X xs ds) (h : gPop d ds = some (d1, d2)) : ∃ v o', oPop (.loc n0) xs S = .ret v (S.set n0 o') ∧ Rp S X v d1 ∧ Cont S X o' d2 := by
  unfold gPop at h
  split at h
  · split at h
    · rename_i y e; cases h
      obtain ⟨vs, rfl, r⟩ := hc.inv_lst
      obtain ⟨v, e2, rv⟩ := r.get e
      rw [rds_nil hx]
      exact ⟨v, _, by simp only [oPop, hs, r.length, e2], rv, .lst r.dropLast⟩
    · cases h
  · split at h
    · rename_i q
      split at h
      · rename_i kk ek
        split at h
        · rename_i y e; cases h
          obtain ⟨vs, rfl, r⟩ := hc.inv_lst
          obtain ⟨v, e2, rv⟩ := r.get e
          obtain ⟨w, rfl, rw'⟩ := rds1 hx
          rw [rw'.inv_int]
          exact ⟨v, _, by simp only [oPop, hs, r.length, ek, e2]; rw [if_pos q], rv, .lst (r.eraseIdx _)⟩
        · cases h
      · cases h
    · cases h
  · cases h
/-- a method of an owned list that writes it: what comes, and what is left -/
def WR (f : PV → List PV → Ms → Out PV) (g : D → List D → Option (D × D)) : Prop := ∀ (S : Ms) (X : List Nat) (n0 : Nat) (o : Ob) (xs : List PV) (ds : List D) (d d1 d2 : D), S[n0]? = some o → Cont S X o d → Rps S X xs ds → g d ds = some (d1, d2) → (∃ vs, o = .lst vs) ∧ ∃ v o', f (.loc n0) xs S = .ret v (S.set n0 o') ∧ Rp S X v d1 ∧ Cont S X o' d2
theorem Rps.rds' : ∀ {vs : List PV} {ds : List D}, Rps S X vs ds → Rds S X vs ds
  | _, _, .nil => .nil
  | _, _, .cons h t => .cons h.rd (Rps.rds' t)
theorem wr_pop : WR oPop gPop := fun S X n0 o xs ds d d1 d2 hs hc hx h => by
  refine ⟨?_, pop_rp hs hc hx.rds' h⟩
  cases d with
  | lst ys => obtain ⟨vs, rfl, _⟩ := hc.inv_lst; exact ⟨_, rfl⟩
  | _ => simp [gPop] at h
def gAppend : D → List D → Option (D × D)
  | .lst xs, [y] => if xs.length < lim then some (.non, .lst (xs ++ [y])) else none
  | _, _ => none
theorem wr_append : WR oAppend gAppend := fun S X n0 o xs ds d d1 d2 hs hc hx h => by
  unfold gAppend at h
  split at h
  · split at h
    · cases h
      obtain ⟨vs, rfl, r⟩ := hc.inv_lst
      cases hx with
      | cons hy t =>
        cases t
        exact ⟨⟨_, rfl⟩, _, _, by simp only [oAppend, hs]; rw [if_pos (by rw [r.length]; assumption)], .non, .lst (r.snoc hy)⟩
    · cases h
  · cases h
def qW (i : Nat) (l : QL) (g : D → List D → Option (D × D)) : QE := fun e => match e.getD i none with
  | none => .fail
  | some (.lst _) => (l e).bind fun ds e1 => match e1.getD i none with
    | none => .fail
    | some d => (match g d ds with
      | some (y, d') => if noLsts ds = true then .ret y (e1.set i (some d')) else .fail
      | none => .fail)
  | some _ => .fail
theorem fr_set {S : Ms} {n : Nat} {o : Ob} : Fr [n] S (S.set n o) := Fr.set _ _ (.inl (by simp))
theorem newL_set {S : Ms} {n : Nat} {o : Ob} : newL S (S.set n o) = [] := by unfold newL; rw [List.length_set, Nat.sub_self]; rfl
theorem mono_set {S : Ms} {n : Nat} {o : Ob} {X : List Nat} (h : n ∈ X) : ∀ m, m ∉ X → m < S.length → m ∉ X ∧ (S.set n o)[m]? = S[m]? := fun m hm hl => ⟨hm, fr_set.2 m hl (by rw [List.mem_singleton]; rintro rfl; exact hm h)⟩
theorem le_w {i : Nat} {f : PV → List PV → Ms → Out PV} {g : D → List D → Option (D × D)} (hf : WR f g) (ha : LL sh mu .val ml ql) (hi : sh.getD i .val ≠ .val := by decide) : LE sh (mu ++ [i]) .val (mMeth (mVar i) ml f) (qW i ql g) := fun Y env S e fps E => by
  unfold qW
  cases he : e.getD i none with
  | none => trivial
  | some d0 =>
    cases d0 with
    | lst ys0 =>
      obtain ⟨n0, o0, hv0, hf0, hs0, hc0⟩ := E.own hi he rfl
      obtain ⟨vs0, rfl, _⟩ := hc0.inv_lst
      have e0 : mMeth (mVar i) ml f env S = (ml env S).bind fun xs S2 => f (.loc n0) xs S2 := by
        unfold mMeth; rw [mVar_get hv0]; show (if _ then _ else _) = _
        rw [if_pos (by simp [lstOf, hs0])]
      rw [e0]
      refine LPost.seq (ha Y env S e fps E) VKhV fun vs ds S1 e1 st r => ?_
      cases he1 : e1.getD i none with
      | none => trivial
      | some d =>
        dsimp only
        cases hg : g d ds with
        | none => trivial
        | some pr =>
          obtain ⟨y, d'⟩ := pr
          dsimp only
          by_cases hnl : noLsts ds = true
          · rw [if_pos hnl]
            have hin : n0 ∈ fps.flatten := fp_in (i := i) (by rw [hf0]; simp)
            have h := st.er.slot i
            rw [he1, hv0, hf0] at h
            have hR : ∃ o, S1[n0]? = some o ∧ Cont S1 ((Y ++ newL S S1) ++ fps.flatten) o d := by
              generalize sh.getD i .val = s at h
              cases h with
              | root _ a c => exact ⟨_, a, c⟩
            obtain ⟨o, hs, hc⟩ := hR
            obtain ⟨_, v, o', h1, h2, h3⟩ := hf S1 ((Y ++ newL S S1) ++ fps.flatten) n0 o vs ds d y d' hs hc (r.rps.nl hnl) hg
            have hX : n0 ∈ (Y ++ newL S S1) ++ fps.flatten := List.mem_append_right _ hin
            refine ⟨v, _, h1, ⟨fr_set.mono fun n hn => by rw [List.mem_singleton] at hn; subst hn; exact mem_sel.mpr ⟨i, by simp, by rw [hf0]; simp⟩, ?_⟩, (h2.mono (mono_set hX)).sub fun n hn => .inl (in_more n hn)⟩
            refine st.er.write hi hv0 hf0 fr_set (List.getElem?_set_self (lt_of_get hs)) ?_
            rw [newL_set, List.append_nil]
            exact h3.mono (mono_set hX)
          · rw [if_neg hnl]; trivial
    | _ => trivial
end
end MP

set_option maxRecDepth 100000
namespace MP
open PySem PySem.Spec PyProof.Rows L2
/-! ### how a statement ends -/
inductive QS where | nx (e : DE) | rt (d : D) (e : DE) | bk (e : DE) | ct (e : DE) | exc (x : QX) (e : DE) | fail
abbrev QT := DE → QS
structure StpS (Y : List Nat) (sh : List Sh) (mu : List Nat) (env : Env') (S : Ms) (fps : List (List Nat)) (env' : Env') (S' : Ms) (e' : DE) (fps' : List (List Nat)) : Prop where
  fr : Fr (sel mu fps) S S'
  er : EnvR Y sh env' S' e' fps'
  pv : ∀ i x, x ∈ fps'.getD i [] → x ∈ fps.getD i [] ∨ S.length ≤ x
  io : ∀ i, sh.getD i .val = .io → env'.getD i none = env.getD i none
def RtR (fr : Bool) (sh : List Sh) (S S' : Ms) (Y : List Nat) (fps' : List (List Nat)) (v : PV) (d : D) : Prop := Rp S' Y v d ∧ (fr = true → ∀ n, v = .loc n → (S.length ≤ n ∨ ∃ i, sh.getD i .val ≠ .io ∧ n ∈ fps'.getD i []) ∧ ∃ o, S'[n]? = some o ∧ Cont S' (n :: Y) o d)
def SPost (fr : Bool) (Y : List Nat) (sh : List Sh) (mu : List Nat) (env : Env') (S : Ms) (fps : List (List Nat)) (o : SO) : QS → Prop
  | .nx e' => ∃ env' S' fps', o = .nx env' S' ∧ StpS Y sh mu env S fps env' S' e' fps'
  | .rt d e' => ∃ v env' S' fps', o = .rt v S' ∧ StpS Y sh mu env S fps env' S' e' fps' ∧ RtR fr sh S S' Y fps' v d
  | .bk e' => ∃ env' S' fps', o = .bk env' S' ∧ StpS Y sh mu env S fps env' S' e' fps'
  | .ct e' => ∃ env' S' fps', o = .ct env' S' ∧ StpS Y sh mu env S fps env' S' e' fps'
  | .exc x e' => ∃ x' env' S' fps', o = .exc env' x' S' ∧ StpS Y sh mu env S fps env' S' e' fps' ∧ XRp S' Y x' x
  | .fail => True
def LS (sh : List Sh) (mu : List Nat) (fr : Bool) (m : MS) (q : QT) : Prop := ∀ Y env S e fps, EnvR Y sh env S e fps → SPost fr Y sh mu env S fps (m env S) (q e)
section
variable {Y X X' : List Nat} {sh : List Sh} {mu mu' mu2 : List Nat} {env env' env1 env2 : Env'} {S S' S1 S2 : Ms} {e e' e1 e2 : DE} {fps fps' fps1 fps2 : List (List Nat)} {m n c : ME} {p q r : QE} {t u : MB} {b b' : QB} {ml mk : ML} {ql qk : QL} {v : PV} {d : D} {k : Kd} {fr : Bool} {sm sn : MS} {sp sq : QT}
theorem StpS.refl (E : EnvR Y sh env S e fps) : StpS Y sh mu env S fps env S e fps := ⟨.refl _ _, E, fun _ _ h => .inl h, fun _ _ => rfl⟩
theorem StpS.trans (a : StpS Y sh mu env S fps env1 S1 e1 fps1) (b : StpS Y sh mu' env1 S1 fps1 env2 S2 e2 fps2) : StpS Y sh (mu ++ mu') env S fps env2 S2 e2 fps2 := by
  refine ⟨⟨Nat.le_trans a.fr.1 b.fr.1, fun n hn hs => ?_⟩, b.er, fun i x hx => ?_, fun i hi => (b.io i hi).trans (a.io i hi)⟩
  · rw [b.fr.2 n (Nat.lt_of_lt_of_le hn a.fr.1) fun z => ?_, a.fr.2 n hn fun z => hs (sel_app.mpr (.inl z))]
    obtain ⟨i, hi, hx⟩ := mem_sel.mp z
    rcases a.pv i n hx with h | h
    · exact hs (sel_app.mpr (.inr (mem_sel.mpr ⟨i, hi, h⟩)))
    · omega
  · rcases b.pv i x hx with h | h
    · exact a.pv i x h
    · exact .inr (Nat.le_trans a.fr.1 h)
theorem StpS.muUp (a : StpS Y sh mu env S fps env1 S1 e1 fps1) (h : ∀ i ∈ mu, i ∈ mu') : StpS Y sh mu' env S fps env1 S1 e1 fps1 :=
  ⟨a.fr.mono fun n hn => let ⟨i, hi, hx⟩ := mem_sel.mp hn; mem_sel.mpr ⟨i, h i hi, hx⟩, a.er, a.pv, a.io⟩
theorem Stp.toS (a : Stp Y sh mu env S e1 fps S1) : StpS Y sh mu env S fps env S1 e1 fps := ⟨a.fr, a.er.back, fun _ _ h => .inl h, fun _ _ => rfl⟩
theorem RtR.from (h : RtR fr sh S1 S' Y fps' v d) (hl : S.length ≤ S1.length) : RtR fr sh S S' Y fps' v d := ⟨h.1, fun hf n e => let ⟨a, o⟩ := h.2 hf n e; ⟨a.imp (fun a => Nat.le_trans hl a) id, o⟩⟩
theorem SPost.muUp {o : SO} {w : QS} (h : SPost fr Y sh mu env S fps o w) (hm : ∀ i ∈ mu, i ∈ mu') : SPost fr Y sh mu' env S fps o w := by
  cases w with
  | nx e => obtain ⟨a, b, c, d, f⟩ := h; exact ⟨a, b, c, d, f.muUp hm⟩
  | rt d e => obtain ⟨a, b, c, d, f, g, i⟩ := h; exact ⟨a, b, c, d, f, g.muUp hm, i⟩
  | bk e => obtain ⟨a, b, c, d, f⟩ := h; exact ⟨a, b, c, d, f.muUp hm⟩
  | ct e => obtain ⟨a, b, c, d, f⟩ := h; exact ⟨a, b, c, d, f.muUp hm⟩
  | exc x e => obtain ⟨a, b, c, d, f, g, i⟩ := h; exact ⟨a, b, c, d, f, g.muUp hm, i⟩
  | fail => trivial
/-- a part that comes behind a step -/
theorem SPost.behind {o : SO} {w : QS} (st : StpS Y sh mu env S fps env1 S1 e1 fps1) (h : SPost fr Y sh mu' env1 S1 fps1 o w) : SPost fr Y sh (mu ++ mu') env S fps o w := by
  cases w with
  | nx e => obtain ⟨a, b, c, d, f⟩ := h; exact ⟨a, b, c, d, st.trans f⟩
  | rt d e => obtain ⟨a, b, c, d, f, g, i⟩ := h; exact ⟨a, b, c, d, f, st.trans g, i.from st.fr.1⟩
  | bk e => obtain ⟨a, b, c, d, f⟩ := h; exact ⟨a, b, c, d, st.trans f⟩
  | ct e => obtain ⟨a, b, c, d, f⟩ := h; exact ⟨a, b, c, d, st.trans f⟩
  | exc x e => obtain ⟨a, b, c, d, f, g, i⟩ := h; exact ⟨a, b, c, d, f, st.trans g, i⟩
  | fail => trivial
def qNext : QT := fun e => .nx e
def qBreak : QT := fun e => .bk e
def qCont : QT := fun e => .ct e
theorem ls_next : LS sh [] fr sNext qNext := fun Y env S e fps E => ⟨_, _, _, rfl, .refl E⟩
def qSeq (p q : QT) : QT := fun e => match p e with | .nx e1 => q e1 | w => w
theorem ls_seq (ha : LS sh mu fr sm sp) (hb : LS sh mu' fr sn sq) : LS sh (mu ++ mu') fr (sSeq sm sn) (qSeq sp sq) := fun Y env S e fps E => by
  have h := ha Y env S e fps E
  unfold sSeq qSeq
  have up : ∀ {o : SO} {w : QS}, SPost fr Y sh mu env S fps o w → SPost fr Y sh (mu ++ mu') env S fps o w := fun h => h.muUp fun i hi => List.mem_append_left _ hi
  cases hp : sp e with
  | nx e1 =>
    rw [hp] at h
    obtain ⟨env1, S1, fps1, h1, st⟩ := h
    rw [h1]
    exact (hb Y env1 S1 e1 fps1 st.er).behind st
  | rt d e1 => rw [hp] at h; have h := up h; obtain ⟨a, b, c, d, f, g⟩ := h; rw [f]; exact ⟨a, b, c, d, rfl, g⟩
  | bk e1 => rw [hp] at h; have h := up h; obtain ⟨a, b, c, f, g⟩ := h; rw [f]; exact ⟨a, b, c, rfl, g⟩
  | ct e1 => rw [hp] at h; have h := up h; obtain ⟨a, b, c, f, g⟩ := h; rw [f]; exact ⟨a, b, c, rfl, g⟩
  | exc x e1 => rw [hp] at h; have h := up h; obtain ⟨a, b, c, d, f, g⟩ := h; rw [f]; exact ⟨a, b, c, d, rfl, g⟩
  | fail => trivial
/-- an expression, and what a statement makes of it -/
def qOf (a : QE) (f : D → DE → QS) : QT := fun e => match a e with | .ret d e1 => f d e1 | .exc x e1 => .exc x e1 | .fail => .fail
theorem ls_of {f : PV → Env' → Ms → SO} {g : D → DE → QS} (ha : LE sh mu k m p) (hf : ∀ Y env S e fps v d S1 e1, Stp Y sh mu env S e1 fps S1 → VK k S S1 (Y ++ fps.flatten) fps v d → EnvR Y sh env S e fps → SPost fr Y sh mu env S fps (f v env S1) (g d e1)) : LS sh mu fr (sOf m f) (qOf p g) := fun Y env S e fps E => by
  have h := ha Y env S e fps E
  unfold sOf qOf
  cases hp : p e with
  | fail => trivial
  | exc x e1 => rw [hp] at h; obtain ⟨x', S1, h1, st, r⟩ := h; rw [h1]; exact ⟨x', env, S1, fps, rfl, st.toS, r.weaken fun n hn => List.mem_append_left _ hn⟩
  | ret d e1 => rw [hp] at h; obtain ⟨v, S1, h1, st, r⟩ := h; rw [h1]; exact hf Y env S e fps v d S1 e1 st r E
abbrev qDrop (a : QE) : QT := qOf a fun _ e => .nx e
abbrev qRet (a : QE) : QT := qOf a fun d e => .rt d e
def rkOk (fr : Bool) : Kd → Bool
  | .new => true
  | .val => !fr
  | .rd _ => false
theorem ls_ret (ha : LE sh mu k m p) (hk : rkOk fr k = true := by rfl) : LS sh mu fr (sRet m) (qRet p) := ls_of (f := fun v _ S => .rt v S) ha fun Y env S e fps v d S1 e1 st r E => by
  refine ⟨v, env, S1, fps, rfl, st.toS, ?_⟩
  cases k with
  | new => exact ⟨r.1.sub fun n hn => .inl (List.mem_append_left _ hn), fun _ n e => let ⟨a, o, b, c⟩ := r.2 n e; ⟨.inl a, o, b, c.sub fun n hn => .inl ((List.mem_cons.mp hn).elim (fun z => z ▸ List.mem_cons_self) fun z => List.mem_cons_of_mem _ (List.mem_append_left _ z))⟩⟩
  | val =>
    refine ⟨Rp.sub r fun n hn => .inl (List.mem_append_left _ hn), fun hf => ?_⟩
    subst hf; cases hk
  | rd l => cases hk
/-- return x, x one's own -/
theorem ls_retVar (i : Nat) (hi : sh.getD i .val = .root := by rfl) : LS sh [] fr (sRet (mVar i)) (qRet (qVar i)) := fun Y env S e fps E => by
  unfold sRet qRet sOf qOf qVar
  cases he : e.getD i none with
  | none => trivial
  | some d =>
    have h := E.slot i
    rw [he, hi] at h
    generalize hv : env.getD i none = v at h
    generalize hf : fps.getD i [] = f at h
    cases h with
    | flat kk r =>
      rw [mVar_get hv]
      exact ⟨_, env, S, fps, rfl, .refl E, r.sub fun n hn => .inl (List.mem_append_left _ hn), fun _ n e => absurd e (kk n)⟩
    | @root _ n o _ _ en c =>
      rw [mVar_get hv]
      have hy : n ∉ Y := E.dj i (by rw [hi]; decide) n (by rw [hf]; simp)
      have hin : n ∈ fps.flatten := fp_in (i := i) (by rw [hf]; simp)
      refine ⟨_, env, S, fps, rfl, .refl E, .loc hy en (c.sub fun n hn => .inl (List.mem_append_left _ hn)), fun _ k ek => ?_⟩
      cases ek
      exact ⟨.inr ⟨i, by rw [hi]; decide, by rw [hf]; simp⟩, o, en, c.sub fun k hk => .inl ((List.mem_cons.mp hk).elim (fun z => z ▸ List.mem_append_right _ hin) (List.mem_append_left _))⟩
def qRetN : QT := fun e => .rt .non e
def qIfS (t : QB) (p q : QT) : QT := fun e => match t e with | .ret true e1 => p e1 | .ret false e1 => q e1 | .exc x e1 => .exc x e1 | .fail => .fail
theorem ls_if (ht : LB sh mu t b) (ha : LS sh mu' fr sm sp) (hb : LS sh mu2 fr sn sq) : LS sh (mu ++ (mu' ++ mu2)) fr (sIf t sm sn) (qIfS b sp sq) := fun Y env S e fps E => by
  have h := ht Y env S e fps E
  unfold sIf qIfS
  cases hb' : b e with
  | fail => trivial
  | exc x e1 => rw [hb'] at h; obtain ⟨x', S1, h1, st, r⟩ := h; rw [h1]; exact ⟨x', env, S1, fps, rfl, st.toS.muUp fun i hi => List.mem_append_left _ hi, r.weaken fun n hn => List.mem_append_left _ hn⟩
  | ret z e1 =>
    rw [hb'] at h; obtain ⟨v, S1, h1, st, r⟩ := h
    have r : v = z := r
    subst r
    rw [h1]
    cases v with
    | true => exact ((ha Y env S1 e1 fps st.er.back).muUp fun i hi => List.mem_append_left _ hi).behind st.toS
    | false => exact ((hb Y env S1 e1 fps st.er.back).muUp fun i hi => List.mem_append_right _ hi).behind st.toS
/-! ### storing -/
theorem SlotR.nil_val (h : SlotR S X .val v' d' f) : f = [] := by
  cases h with
  | empty => rfl
  | val _ => rfl
  | root k _ _ => exact absurd rfl k
theorem EnvR.setV {i : Nat} (E : EnvR Y sh env S e fps) (hi : sh.getD i .val = .val) (r : Rp S (Y ++ fps.flatten) v d) : EnvR Y sh (env.set i (some v)) S (e.set i (some d)) fps := by
  refine ⟨by rw [List.length_set, List.length_set]; exact E.l1, by rw [List.length_set]; exact E.l2, fun j => ?_, E.nd, E.bd, E.dj⟩
  by_cases hij : i = j
  · subst hij
    have hf : fps.getD i [] = [] := by have h := E.slot i; rw [hi] at h; exact h.nil_val
    rw [hi, hf]
    by_cases hl : i < e.length
    · rw [getD_set_eq hl, getD_set_eq (by rw [E.l1]; exact hl)]; exact .val r
    · have : (e.set i (some d)).getD i none = none := by rw [List.getD_eq_getElem?_getD, List.getElem?_eq_none (by rw [List.length_set]; omega)]; rfl
      rw [this]; exact .empty
  · rw [getD_set_ne hij, getD_set_ne hij]; exact E.slot j
abbrev qSet (i : Nat) (a : QE) : QT := qOf a fun d e => .nx (e.set i (some d))
theorem ls_set (i : Nat) (ha : LE sh mu k m p) (hi : sh.getD i .val = .val := by rfl) (hk : k = .new ∨ k = .val := by first | exact Or.inl rfl | exact Or.inr rfl) : LS sh mu fr (sSet i m) (qSet i p) := ls_of (f := fun v env S => toSO (gNm i v env) S) ha fun Y env S e fps v d S1 e1 st r E =>
  ⟨_, _, _, rfl, st.fr, st.er.back.setV hi (r.up hk), fun _ _ h => .inl h, fun j hj => getD_set_ne (by rintro rfl; rw [hi] at hj; cases hj)⟩
/-- the root of a value -/
def rootOf : PV → List Nat
  | .loc n => [n]
  | _ => []
theorem flat_set_sub {fps : List (List Nat)} {i x : Nat} {f : List Nat} (h : x ∈ (fps.set i f).flatten) : x ∈ fps.flatten ∨ x ∈ f := by
  obtain ⟨l, hl, hx⟩ := List.mem_flatten.mp h
  rcases List.mem_or_eq_of_mem_set hl with h | h
  · exact .inl (List.mem_flatten.mpr ⟨l, h, hx⟩)
  · exact .inr (h ▸ hx)
theorem nodup_set {fps : List (List Nat)} (nd : fps.flatten.Nodup) {i : Nat} {f : List Nat} (hf : f.Nodup) (hd : ∀ x ∈ f, x ∉ fps.flatten) : (fps.set i f).flatten.Nodup := by
  have h := List.pairwise_flatten.mp nd
  refine List.pairwise_flatten.mpr ⟨fun l hl => ?_, List.pairwise_iff_getElem.mpr fun a b ha hb hab x hx y hy => ?_⟩
  · rcases List.mem_or_eq_of_mem_set hl with z | z
    · exact h.1 l z
    · rw [z]; exact hf
  · rw [List.length_set] at ha hb
    have p := List.pairwise_iff_getElem.mp h.2 a b ha hb hab
    rw [List.getElem_set] at hx hy
    by_cases h1 : i = a
    · rw [if_pos h1] at hx
      rw [if_neg (by omega)] at hy
      rintro rfl
      exact hd x hx (List.mem_flatten.mpr ⟨_, List.getElem_mem hb, hy⟩)
    · rw [if_neg h1] at hx
      by_cases h2 : i = b
      · rw [if_pos h2] at hy
        rintro rfl
        exact hd x hy (List.mem_flatten.mpr ⟨_, List.getElem_mem ha, hx⟩)
      · rw [if_neg h2] at hy
        exact p x hx y hy
/-- a new object is stored in a slot of one's own -/
theorem EnvR.setR {i : Nat} {e0 : DE} (E0 : EnvR Y sh env S e0 fps) (E : EnvR (Y ++ newL S S1) sh env S1 e fps) (hi : sh.getD i .val = .root) (hl : i < e.length) (r : NewR S S1 (Y ++ fps.flatten) v d) : EnvR Y sh (env.set i (some v)) S1 (e.set i (some d)) (fps.set i (rootOf v)) := by
  have nw : ∀ x ∈ rootOf v, S.length ≤ x ∧ x < S1.length := fun x hx => by
    cases v with
    | loc n => simp only [rootOf, List.mem_singleton] at hx; subst hx; exact ⟨(r.2 x rfl).1, r.1.lt⟩
    | _ => cases hx
  have nf : ∀ x ∈ rootOf v, x ∉ fps.flatten := fun x hx z => by have := E0.flt x z; have := (nw x hx).1; omega
  have nY : ∀ x ∈ rootOf v, x ∉ Y := fun x hx z => by have := E0.bd x z; have := (nw x hx).1; omega
  have fl : i < fps.length := by rw [E.l2]; exact hl
  refine ⟨by rw [List.length_set, List.length_set]; exact E.l1, by rw [List.length_set, List.length_set]; exact E.l2, fun j => ?_, nodup_set E.nd (by cases v <;> simp [rootOf]) nf, fun y hy => E.bd y (List.mem_append_left _ hy), fun j hj x hx z => ?_⟩
  · by_cases hij : i = j
    · subst hij
      rw [getD_set_eq hl, getD_set_eq (by rw [E.l1]; exact hl), getD_set_eq fl, hi]
      have sub : ∀ n ∈ Y ++ (fps.set i (rootOf v)).flatten, n ∈ Y ++ fps.flatten ∨ n ∈ rootOf v := fun n hn => by
        rcases List.mem_append.mp hn with z | z
        · exact .inl (List.mem_append_left _ z)
        · exact (flat_set_sub z).imp (List.mem_append_right _) id
      cases v with
      | loc n =>
        obtain ⟨_, o, h1, h2⟩ := r.2 n rfl
        exact .root (by decide) h1 (h2.sub fun k hk => .inl ((sub k hk).elim (List.mem_cons_of_mem _) fun z => by simp only [rootOf, List.mem_singleton] at z; subst z; exact List.mem_cons_self))
      | _ => exact .flat (fun _ h => nomatch h) (r.1.sub fun k hk => .inl ((sub k hk).elim id fun z => nomatch z))
    · rw [getD_set_ne hij, getD_set_ne hij, getD_set_ne hij]
      refine (E.slot j).mono (fun k hk _ => ⟨fun z => hk ?_, rfl⟩) fun _ _ => rfl
      rcases List.mem_append.mp z with z | z
      · exact List.mem_append_left _ (List.mem_append_left _ z)
      · rcases flat_set_sub z with z | z
        · exact List.mem_append_right _ z
        · exact List.mem_append_left _ (List.mem_append_right _ (mem_newL.mpr (nw k z)))
  · by_cases hij : i = j
    · subst hij; rw [getD_set_eq fl] at hx; exact nY x hx z
    · rw [getD_set_ne hij] at hx; exact E.dj j hj x hx (List.mem_append_left _ z)
theorem pv_set {i : Nat} {f : List Nat} (hf : ∀ x ∈ f, S.length ≤ x) : ∀ j x, x ∈ (fps.set i f).getD j [] → x ∈ fps.getD j [] ∨ S.length ≤ x := fun j x hx => by
  by_cases hij : i = j
  · subst hij
    by_cases hl : i < fps.length
    · rw [getD_set_eq hl] at hx; exact .inr (hf x hx)
    · rw [List.getD_eq_getElem?_getD, List.getElem?_eq_none (by rw [List.length_set]; omega)] at hx; cases hx
  · rw [getD_set_ne hij] at hx; exact .inl hx
theorem root_new (r : NewR S S1 X v d) : ∀ x ∈ rootOf v, S.length ≤ x := fun x hx => by
  cases v with
  | loc n => simp only [rootOf, List.mem_singleton] at hx; subst hx; exact (r.2 x rfl).1
  | _ => cases hx
abbrev qSetR (i : Nat) (a : QE) : QT := qOf a fun d e => if i < e.length then .nx (e.set i (some d)) else .fail
theorem ls_setR (i : Nat) (ha : LE sh mu .new m p) (hi : sh.getD i .val = .root := by rfl) : LS sh mu fr (sSet i m) (qSetR i p) := ls_of (f := fun v env S => toSO (gNm i v env) S) ha fun Y env S e fps v d S1 e1 st r E => by
  by_cases hl : i < e1.length
  · rw [if_pos hl]
    exact ⟨_, _, _, rfl, st.fr, EnvR.setR E st.er hi hl r, pv_set (root_new r), fun j hj => getD_set_ne (by rintro rfl; rw [hi] at hj; cases hj)⟩
  · rw [if_neg hl]; trivial
/-- a statement that writes an owned list by a method -/
def qWS (i : Nat) (l : QL) (g : D → List D → Option (D × D)) : QT := fun e => match e.getD i none with
  | none => .fail
  | some (.lst _) => (match l e with
    | .ret ds e1 => (match e1.getD i none with
      | none => .fail
      | some d => (match g d ds with
        | some (_, d') => .nx (e1.set i (some d'))
        | none => .fail))
    | .exc x e1 => .exc x e1
    | .fail => .fail)
  | some _ => .fail
theorem EnvR.writeS {i n0 : Nat} {o' : Ob} {d' : D} (E : EnvR Y sh env S e fps) (hi : sh.getD i .val ≠ .val) (hv : env.getD i none = some (.loc n0)) (hf : fps.getD i [] = [n0]) (hs : n0 < S.length) (cc : Cont S (Y ++ fps.flatten) o' d') :
    EnvR Y sh env (S.set n0 o') (e.set i (some d')) fps := by
  have hin : n0 ∈ fps.flatten := fp_in (i := i) (by rw [hf]; simp)
  have h := E.write (o' := o') (d' := d') hi hv hf fr_set (List.getElem?_set_self hs) (by rw [newL_set, List.append_nil]; exact cc.mono (mono_set (List.mem_append_right _ hin)))
  exact h.back
theorem ls_w {i : Nat} {f : PV → List PV → Ms → Out PV} {g : D → List D → Option (D × D)} (hf : WR f g) (ha : LL sh mu .val ml ql) (hi : sh.getD i .val ≠ .val := by decide) : LS sh (mu ++ [i]) fr (sDrop (mMeth (mVar i) ml f)) (qWS i ql g) := fun Y env S e fps E => by
  unfold qWS
  cases he : e.getD i none with
  | none => trivial
  | some d0 =>
    cases d0 with
    | lst ys0 =>
      obtain ⟨n0, o0, hv0, hf0, hs0, hc0⟩ := E.own hi he rfl
      obtain ⟨vs0, rfl, _⟩ := hc0.inv_lst
      have e0 : mMeth (mVar i) ml f env S = (ml env S).bind fun xs S2 => f (.loc n0) xs S2 := by
        unfold mMeth; rw [mVar_get hv0]; show (if _ then _ else _) = _
        rw [if_pos (by simp [lstOf, hs0])]
      unfold sDrop sOf
      rw [e0]
      have h := ha Y env S e fps E
      dsimp only
      cases hl : ql e with
      | fail => trivial
      | exc x e1 => rw [hl] at h; obtain ⟨x', S1, h1, st, r⟩ := h; rw [h1]; exact ⟨x', env, S1, fps, rfl, st.toS.muUp fun i hi => List.mem_append_left _ hi, r.weaken fun n hn => List.mem_append_left _ hn⟩
      | ret ds e1 =>
        rw [hl] at h; obtain ⟨vs, S1, h1, st, r⟩ := h
        rw [h1]
        dsimp only
        cases he1 : e1.getD i none with
        | none => trivial
        | some d =>
          dsimp only
          cases hg : g d ds with
          | none => trivial
          | some pr =>
            obtain ⟨y, d'⟩ := pr
            have E1 := st.er.back
            have h := E1.slot i
            rw [he1, hv0, hf0] at h
            have hR : ∃ o, S1[n0]? = some o ∧ Cont S1 (Y ++ fps.flatten) o d := by
              generalize sh.getD i .val = s at h
              cases h with
              | root _ a c => exact ⟨_, a, c⟩
            obtain ⟨o, hs, hc⟩ := hR
            obtain ⟨_, v, o', h2, h3, h4⟩ := hf S1 (Y ++ fps.flatten) n0 o vs ds d y d' hs hc r.rps hg
            show SPost _ _ _ _ _ _ _ (match (Out.bind (.ret vs S1) fun xs S2 => f (.loc n0) xs S2) with | .ret v S1 => _ | .exc x S1 => _ | .fail => _) _
            simp only [Out.bind]
            rw [h2]
            refine ⟨_, _, fps, rfl, ⟨by rw [List.length_set]; exact st.fr.1, fun k hk hs2 => ?_⟩, E1.writeS hi hv0 hf0 (lt_of_get hs) h4, fun _ _ h => .inl h, fun _ _ => rfl⟩
            have kn : k ≠ n0 := fun z => hs2 (sel_app.mpr (.inr (mem_sel.mpr ⟨i, by simp, by rw [hf0, z]; simp⟩)))
            rw [List.getElem?_set_ne (Ne.symm kn)]
            exact st.fr.2 k hk fun z => hs2 (sel_app.mpr (.inl z))
    | _ => trivial
end
end MP

set_option maxRecDepth 100000
namespace MP
open PySem PySem.Spec PyProof.Rows L2
section
variable {Y Z X X' : List Nat} {sh : List Sh} {mu mu' mu2 : List Nat} {env env' env1 env2 : Env'} {S S' S1 S2 : Ms} {e e' e1 e2 : DE} {fps fps' fps1 fps2 : List (List Nat)} {m n c : ME} {p q r : QE} {t u : MB} {b b' : QB} {ml mk : ML} {ql qk : QL} {v : PV} {d : D} {k : Kd} {fr : Bool} {sm sn : MS} {sp sq : QT}
/-! ### x[i] = e, x one's own -/
def putD : D → D → D → Option D
  | .lst xs, .int k, v => (ixN xs.length k).map fun j => .lst (xs.set j v)
  | .dK kvs, k, v => if kvs.length < lim then (keyD k).map fun k => .dK (putG kvs k v) else none
  | .dT kvs, k, v => if kvs.length < lim then (keysD k).map fun k => .dT (putG kvs k v) else none
  | _, _, _ => none
theorem oPut_rp {n0 : Nat} {o : Ob} {x k dv d' : D} {kv vv : PV} (hs : S[n0]? = some o) (hc : Cont S X o x) (hk : Rd' S X' kv k) (hv : Rp S X vv dv) (h : putD x k dv = some d') : ∃ o', oPut (.loc n0) kv vv S = some (S.set n0 o') ∧ Cont S X o' d' := by
  unfold putD at h
  split at h
  · rw [Option.map_eq_some_iff] at h
    obtain ⟨j, ej, rfl⟩ := h
    obtain ⟨vs, rfl, r⟩ := hc.inv_lst
    rw [hk.inv_int]
    exact ⟨_, by simp only [oPut, hs, r.length, ej, Option.map_some], .lst (r.set hv j)⟩
  · split at h
    · rw [Option.map_eq_some_iff] at h
      obtain ⟨kk, ek, rfl⟩ := h
      obtain ⟨vs, rfl, r⟩ := hc.inv_dK
      exact ⟨_, by simp only [oPut, hs, keyP_rd hk, ek, Option.map_some]; rw [if_pos (by rw [kr_len r]; assumption)], .mk_dK (put_rp hv r)⟩
    · cases h
  · split at h
    · rw [Option.map_eq_some_iff] at h
      obtain ⟨kk, ek, rfl⟩ := h
      obtain ⟨vs, rfl, r⟩ := hc.inv_dT
      exact ⟨_, by simp only [oPut, hs, keysP_rd hk, ek, Option.map_some]; rw [if_pos (by rw [kr_len r]; assumption)], .mk_dT (put_rp hv r)⟩
    · cases h
  · cases h
def qPut (i : Nat) (a v : QE) : QT := fun e => match v e with
  | .ret dv e1 => (match e1.getD i none with
    | none => .fail
    | some _ => (match a e1 with
      | .ret k e2 => (match e2.getD i none with
        | none => .fail
        | some x => if objD x = true then (match putD x k dv with | some d' => .nx (e2.set i (some d')) | none => .fail) else .fail)
      | .exc x e2 => .exc x e2
      | .fail => .fail))
  | .exc x e1 => .exc x e1
  | .fail => .fail
theorem ls_put {i : Nat} {l : List Nat} (ha : LE sh mu' (.rd l) n p) (hv : LE sh mu k c q) (hi : sh.getD i .val ≠ .val := by decide) (hk : k = .new ∨ k = .val := by first | exact Or.inl rfl | exact Or.inr rfl) : LS sh (mu ++ (mu' ++ [i])) fr (sPut (mVar i) n c) (qPut i p q) := fun Y env S e fps E => by
  have h := hv Y env S e fps E
  unfold sPut qPut
  cases hq : q e with
  | fail => trivial
  | exc x e1 => rw [hq] at h; obtain ⟨x', S1, h1, st, r⟩ := h; rw [h1]; exact ⟨x', env, S1, fps, rfl, st.toS.muUp fun i hi => List.mem_append_left _ hi, r.weaken fun n hn => List.mem_append_left _ hn⟩
  | ret dv e1 =>
    rw [hq] at h; obtain ⟨vv, S1, h1, st, r⟩ := h; rw [h1]
    dsimp only
    cases he1 : e1.getD i none with
    | none => trivial
    | some x0 =>
      dsimp only
      obtain ⟨w0, hw0⟩ := st.er.has he1
      rw [mVar_get hw0]
      dsimp only
      have h2 := ha.at_ st.er
      cases hp : p e1 with
      | fail => trivial
      | exc x e2 =>
        rw [hp] at h2; obtain ⟨x', S2, h3, st2, r2⟩ := h2; rw [h3]
        have tt := st.trans st2
        exact ⟨x', env, S2, fps, rfl, tt.toS.muUp fun j hj => (List.mem_append.mp hj).elim (List.mem_append_left _) fun z => List.mem_append_right _ (List.mem_append_left _ z), r2.weaken fun n hn => List.mem_append_left _ hn⟩
      | ret kk e2 =>
        rw [hp] at h2; obtain ⟨kv, S2, h3, st2, r2⟩ := h2; rw [h3]
        dsimp only
        have tt := st.trans st2
        cases he2 : e2.getD i none with
        | none => trivial
        | some x =>
          dsimp only
          by_cases ho : objD x = true
          · rw [if_pos ho]
            cases hd : putD x kk dv with
            | none => trivial
            | some d' =>
              have E2 := tt.er.back
              obtain ⟨n0, o, hn, hf, hs, hc⟩ := E2.own hi he2 ho
              rw [hw0] at hn; cases hn
              have rv : Rp S2 (Y ++ fps.flatten) vv dv := (r.up hk).fr st2.fr (fun n hn => .inl (fl_in n (sel_in hn))) fun n hn => .inl hn
              obtain ⟨o', ho', hc'⟩ := oPut_rp hs hc r2.rd rv hd
              rw [ho']
              refine ⟨_, _, fps, rfl, ⟨by rw [List.length_set]; exact tt.fr.1, fun j hj hs2 => ?_⟩, E2.writeS hi hw0 hf (lt_of_get hs) hc', fun _ _ h => .inl h, fun _ _ => rfl⟩
              have kn : j ≠ n0 := fun z => hs2 (mem_sel.mpr ⟨i, by simp, by rw [hf, z]; simp⟩)
              rw [List.getElem?_set_ne (Ne.symm kn)]
              exact tt.fr.2 j hj fun z => hs2 (by
                rcases sel_app.mp z with z | z
                · exact sel_app.mpr (.inl z)
                · exact sel_app.mpr (.inr (sel_app.mpr (.inl z))))
          · rw [if_neg ho]; trivial
/-! ### x, y = a, b -/
/-- values one after another: none leads to what a later one made, new ones to nothing that an earlier one made -/
def ParV (fps : List (List Nat)) (S2 : Ms) : List Nat → Ms → List Sh → List PV → List D → Prop
  | _, _, [], [], [] => True
  | Y, S, s :: ss, v :: vs, d :: ds => ∃ S1 : Ms, S.length ≤ S1.length ∧ S1.length ≤ S2.length ∧ (∀ n, Rp S2 [] v d → v = .loc n → n < S1.length) ∧ Rp S2 (Y ++ (newL S1 S2 ++ fps.flatten)) v d ∧
      (s = .root → ∀ n, v = .loc n → S.length ≤ n ∧ ∃ o, S2[n]? = some o ∧ Cont S2 (n :: (Y ++ (newL S1 S2 ++ fps.flatten))) o d) ∧ s ≠ .io ∧ ParV fps S2 (Y ++ newL S S1) S1 ss vs ds
  | _, _, _, _, _ => False
def LLp (sh : List Sh) (mu : List Nat) (ss : List Sh) (m : ML) (q : QL) : Prop := ∀ Y env S e fps, EnvR Y sh env S e fps → LPost (fun S S' _ _ vs ds => ParV fps S' Y S ss vs ds) (Y ++ fps.flatten) Y sh mu env S fps (m env S) (q e)
theorem lp_nil : LLp sh [] [] mNil qNil := fun Y env S e fps E => .now E (by simp [ParV])
def shK : Sh → Kd → Prop
  | .val, .new => True
  | .val, .val => True
  | .root, .new => True
  | _, _ => False
theorem newL_sub {S S1 S2 : Ms} (h : S.length ≤ S1.length) : ∀ n ∈ newL S1 S2, n ∈ newL S S2 := fun n hn => by have := mem_newL.mp hn; exact mem_newL.mpr (by omega)
theorem lp_cons {s : Sh} {ss : List Sh} (ha : LE sh mu k m p) (hb : LLp sh mu' ss ml ql) (hk : shK s k := by trivial) : LLp sh (mu ++ mu') (s :: ss) (mCons m ml) (qCons p ql) := fun Y env S e fps E => by
  rw [mCons_eq]
  unfold qCons
  have h := ha Y env S e fps E
  cases hp : p e with
  | fail => trivial
  | exc x e1 => rw [hp] at h; obtain ⟨x', S1, h1, st, r⟩ := h; rw [h1]; exact ⟨x', S1, rfl, st.mono fun i hi => List.mem_append_left _ hi, r⟩
  | ret d e1 =>
    rw [hp] at h; obtain ⟨v, S1, h1, st, r⟩ := h
    rw [h1]
    show LPost _ _ Y sh _ env S fps ((ml env S1).bind _) ((ql e1).bind _)
    have h2 := hb (Y ++ newL S S1) env S1 e1 fps st.er
    cases hq : ql e1 with
    | fail => trivial
    | exc x e2 =>
      rw [hq] at h2; obtain ⟨x', S2, h3, st2, r2⟩ := h2; rw [h3]
      exact ⟨x', S2, rfl, st.trans st2, r2.weaken in_more⟩
    | ret ds e2 =>
      rw [hq] at h2; obtain ⟨vs, S2, h3, st2, r2⟩ := h2; rw [h3]
      refine ⟨_, S2, rfl, st.trans st2, S1, st.fr.1, st2.fr.1, ?_, ?_, ?_, ?_, r2⟩
      · rintro n _ rfl
        have : Rp S1 (Y ++ fps.flatten) (.loc n) d := r.up (by cases s <;> cases k <;> first | exact .inl rfl | exact .inr rfl | exact hk.elim)
        exact this.lt
      · have : Rp S1 (Y ++ fps.flatten) v d := r.up (by cases s <;> cases k <;> first | exact .inl rfl | exact .inr rfl | exact hk.elim)
        exact this.fr st2.fr (fun n hn => .inl (fl_in n (sel_in hn))) fun n hn => by
          rcases List.mem_append.mp hn with z | z
          · exact .inl (List.mem_append_left _ z)
          · rcases List.mem_append.mp z with z | z
            · exact .inr (mem_newL.mp z).1
            · exact .inl (List.mem_append_right _ z)
      · rintro rfl n rfl
        cases k with
        | new =>
          obtain ⟨a, o, b, c⟩ := r.2 n rfl
          have hlt := lt_of_get b
          have hns : n ∉ sel mu' fps := fun z => by have := E.flt n (sel_in z); omega
          refine ⟨a, o, by rw [st2.fr.2 n hlt hns]; exact b, c.fr st2.fr (fun k hk => .inl (List.mem_cons_of_mem _ (fl_in k (sel_in hk)))) fun k hk => ?_⟩
          rcases List.mem_cons.mp hk with z | z
          · exact .inl (z ▸ List.mem_cons_self)
          · rcases List.mem_append.mp z with z | z
            · exact .inl (List.mem_cons_of_mem _ (List.mem_append_left _ z))
            · rcases List.mem_append.mp z with z | z
              · exact .inr (mem_newL.mp z).1
              · exact .inl (List.mem_cons_of_mem _ (List.mem_append_right _ z))
        | val => exact hk.elim
        | rd l => exact hk.elim
      · cases s <;> first | decide | (cases k <;> exact hk.elim)
def setAll {α : Type} : List Nat → List α → List (Option α) → List (Option α)
  | i :: is, v :: vs, env => setAll is vs (env.set i (some v))
  | _, _, env => env
def fpAll (sh : List Sh) : List Nat → List PV → List (List Nat) → List (List Nat)
  | i :: is, v :: vs, fps => fpAll sh is vs (match sh.getD i .val with | .root => fps.set i (rootOf v) | _ => fps)
  | _, _, fps => fps
/-- a new object is stored in a slot of one's own -/
theorem EnvR.store {i : Nat} (E : EnvR Z sh env S e fps) (hY : ∀ y ∈ Y, y ∈ Z) (hi : sh.getD i .val = .root) (hl : i < e.length) (hz : ∀ x ∈ rootOf v, x ∈ Z ∧ x ∉ Y ∧ x ∉ fps.flatten) (r : Rp S (Y ++ fps.flatten) v d) (hc : ∀ n, v = .loc n → ∃ o, S[n]? = some o ∧ Cont S (n :: (Y ++ fps.flatten)) o d) :
    EnvR Y sh (env.set i (some v)) S (e.set i (some d)) (fps.set i (rootOf v)) := by
  have fl : i < fps.length := by rw [E.l2]; exact hl
  refine ⟨by rw [List.length_set, List.length_set]; exact E.l1, by rw [List.length_set, List.length_set]; exact E.l2, fun j => ?_, nodup_set E.nd (by cases v <;> simp [rootOf]) (fun x hx => (hz x hx).2.2), fun y hy => E.bd y (hY y hy), fun j hj x hx z => ?_⟩
  · by_cases hij : i = j
    · subst hij
      rw [getD_set_eq hl, getD_set_eq (by rw [E.l1]; exact hl), getD_set_eq fl, hi]
      have sub : ∀ n ∈ Y ++ (fps.set i (rootOf v)).flatten, n ∈ Y ++ fps.flatten ∨ n ∈ rootOf v := fun n hn => by
        rcases List.mem_append.mp hn with z | z
        · exact .inl (List.mem_append_left _ z)
        · exact (flat_set_sub z).imp (List.mem_append_right _) id
      cases v with
      | loc n =>
        obtain ⟨o, h1, h2⟩ := hc n rfl
        exact .root (by decide) h1 (h2.sub fun k hk => .inl ((sub k hk).elim (List.mem_cons_of_mem _) fun z => by simp only [rootOf, List.mem_singleton] at z; subst z; exact List.mem_cons_self))
      | _ => exact .flat (fun _ h => nomatch h) (r.sub fun k hk => .inl ((sub k hk).elim id fun z => nomatch z))
    · rw [getD_set_ne hij, getD_set_ne hij, getD_set_ne hij]
      refine (E.slot j).mono (fun k hk _ => ⟨fun z => hk ?_, rfl⟩) fun _ _ => rfl
      rcases List.mem_append.mp z with z | z
      · exact List.mem_append_left _ (hY k z)
      · rcases flat_set_sub z with z | z
        · exact List.mem_append_right _ z
        · exact List.mem_append_left _ (hz k z).1
  · by_cases hij : i = j
    · subst hij; rw [getD_set_eq fl] at hx; exact (hz x hx).2.1 z
    · rw [getD_set_ne hij] at hx; exact E.dj j hj x hx (hY x z)
/-- all are stored -/
theorem par_store {S0 : Ms} {Y : List Nat} {fps0 : List (List Nat)} (b0 : ∀ n ∈ Y ++ fps0.flatten, n < S0.length) : ∀ (is : List Nat) (ss : List Sh) (vs : List PV) (ds : List D) (env : Env') (e : DE) (fps : List (List Nat)) (S : Ms), S0.length ≤ S.length → S.length ≤ S2.length →
    ParV fps0 S2 (Y ++ newL S0 S) S ss vs ds → is.map (fun i => sh.getD i .val) = ss → (∀ i ∈ is, i < e.length) → (∀ x ∈ fps.flatten, x ∈ fps0.flatten ∨ x ∈ newL S0 S) → EnvR (Y ++ newL S S2) sh env S2 e fps →
    EnvR Y sh (setAll is vs env) S2 (setAll is ds e) (fpAll sh is vs fps) ∧ (∀ j x, x ∈ (fpAll sh is vs fps).getD j [] → x ∈ fps.getD j [] ∨ S0.length ≤ x) ∧ ∀ j, sh.getD j .val = .io → (setAll is vs env).getD j none = env.getD j none
  | [], ss, vs, ds, env, e, fps, S, h0, h1, hp, hs, hl, hf, E => by
    simp only [List.map_nil] at hs; subst hs
    match vs, ds, hp with
    | [], [], _ => exact ⟨E.back, fun _ _ h => .inl h, fun _ _ => rfl⟩
  | i :: is, ss, vs, ds, env, e, fps, S, h0, h1, hp, hs, hl, hf, E => by
    simp only [List.map_cons] at hs; subst hs
    match vs, ds, hp with
    | v :: vs, d :: ds, hp =>
      obtain ⟨S1, a1, a2, a3, a4, a5, a6, a7⟩ := hp
      have hil := hl i (by simp)
      -- the places that this value does not lead to
      have sub : ∀ n ∈ (Y ++ newL S1 S2) ++ fps.flatten, n ∈ (Y ++ newL S0 S) ++ (newL S1 S2 ++ fps0.flatten) := fun n hn => by
        rcases List.mem_append.mp hn with z | z
        · rcases List.mem_append.mp z with z | z
          · exact List.mem_append_left _ (List.mem_append_left _ z)
          · exact List.mem_append_right _ (List.mem_append_left _ z)
        · rcases hf n z with z | z
          · exact List.mem_append_right _ (List.mem_append_right _ z)
          · exact List.mem_append_left _ (List.mem_append_right _ z)
      have hYZ : ∀ y ∈ Y ++ newL S1 S2, y ∈ Y ++ newL S S2 := fun y hy => (List.mem_append.mp hy).elim (List.mem_append_left _) fun z => List.mem_append_right _ (newL_sub a1 y z)
      have rv : Rp S2 ((Y ++ newL S1 S2) ++ fps.flatten) v d := a4.sub fun n hn => .inl (sub n hn)
      have a7' : ParV fps0 S2 (Y ++ newL S0 S1) S1 (is.map fun i => sh.getD i .val) vs ds := by
        have e : ∀ (ss : List Sh) (vs : List PV) (ds : List D) (Y Y' : List Nat) (S : Ms), (∀ n ∈ Y', n ∈ Y) → ParV fps0 S2 Y S ss vs ds → ParV fps0 S2 Y' S ss vs ds := by
          intro ss
          induction ss with
          | nil => intro vs ds Y Y' S h hp; match vs, ds, hp with | [], [], _ => simp [ParV]
          | cons s ss ih =>
            intro vs ds Y Y' S h hp
            match vs, ds, hp with
            | v :: vs, d :: ds, ⟨S1, b1, b2, b3, b4, b5, b6, b7⟩ =>
              exact ⟨S1, b1, b2, b3, b4.sub fun n hn => .inl ((List.mem_append.mp hn).elim (fun z => List.mem_append_left _ (h n z)) (List.mem_append_right _)), fun hs n hn => let ⟨c1, o, c2, c3⟩ := b5 hs n hn; ⟨c1, o, c2, c3.sub fun k hk => .inl ((List.mem_cons.mp hk).elim (fun z => z ▸ List.mem_cons_self) fun z => List.mem_cons_of_mem _ ((List.mem_append.mp z).elim (fun z => List.mem_append_left _ (h k z)) (List.mem_append_right _)))⟩, b6, ih vs ds _ _ S1 (fun n hn => (List.mem_append.mp hn).elim (fun z => List.mem_append_left _ (h n z)) (List.mem_append_right _)) b7⟩
        refine e _ _ _ _ _ _ (fun n hn => ?_) a7
        rcases List.mem_append.mp hn with z | z
        · exact List.mem_append_left _ (List.mem_append_left _ z)
        · have := mem_newL.mp z
          by_cases q : n < S.length
          · exact List.mem_append_left _ (List.mem_append_right _ (mem_newL.mpr ⟨this.1, q⟩))
          · exact List.mem_append_right _ (mem_newL.mpr ⟨by omega, this.2⟩)
      cases hsh : sh.getD i .val with
      | io => exact absurd hsh a6
      | val =>
        have E1 : EnvR (Y ++ newL S1 S2) sh (env.set i (some v)) S2 (e.set i (some d)) fps := (E.sub hYZ).setV hsh rv
        obtain ⟨r1, r2, r3⟩ := par_store b0 is _ vs ds (env.set i (some v)) (e.set i (some d)) fps S1 (Nat.le_trans h0 a1) a2 a7' rfl (fun j hj => by rw [List.length_set]; exact hl j (List.mem_cons_of_mem _ hj)) (fun x hx => (hf x hx).imp id fun z => by have := mem_newL.mp z; exact mem_newL.mpr (by omega)) E1
        have ef : fpAll sh (i :: is) (v :: vs) fps = fpAll sh is vs fps := by show fpAll sh is vs (match sh.getD i .val with | .root => fps.set i (rootOf v) | _ => fps) = _; rw [hsh]
        rw [ef]
        exact ⟨r1, r2, fun j hj => (r3 j hj).trans (getD_set_ne (by rintro rfl; rw [hsh] at hj; cases hj))⟩
      | root =>
        have nw : ∀ x ∈ rootOf v, S.length ≤ x ∧ x < S1.length := fun x hx => by
          cases v with
          | loc n => simp only [rootOf, List.mem_singleton] at hx; subst hx; exact ⟨(a5 hsh x rfl).1, a3 x (a4.sub fun _ h => nomatch h) rfl⟩
          | _ => cases hx
        have E1 : EnvR (Y ++ newL S1 S2) sh (env.set i (some v)) S2 (e.set i (some d)) (fps.set i (rootOf v)) := by
          refine E.store hYZ hsh hil (fun x hx => ⟨List.mem_append_right _ (mem_newL.mpr ⟨(nw x hx).1, by have := (nw x hx).2; omega⟩), fun z => ?_, fun z => ?_⟩) rv fun n hn => let ⟨_, o, c2, c3⟩ := a5 hsh n hn; ⟨o, c2, c3.sub fun k hk => .inl ((List.mem_cons.mp hk).elim (fun z => z ▸ List.mem_cons_self) fun z => List.mem_cons_of_mem _ (sub k z))⟩
          · have q := nw x hx
            rcases List.mem_append.mp z with z | z
            · have := b0 x (List.mem_append_left _ z); omega
            · have := mem_newL.mp z; omega
          · have q := nw x hx
            rcases hf x z with z | z
            · have := b0 x (List.mem_append_right _ z); omega
            · have := mem_newL.mp z; omega
        obtain ⟨r1, r2, r3⟩ := par_store b0 is _ vs ds (env.set i (some v)) (e.set i (some d)) (fps.set i (rootOf v)) S1 (Nat.le_trans h0 a1) a2 a7' rfl (fun j hj => by rw [List.length_set]; exact hl j (List.mem_cons_of_mem _ hj)) (fun x hx => by
          rcases flat_set_sub hx with z | z
          · exact (hf x z).imp id fun z => by have := mem_newL.mp z; exact mem_newL.mpr (by omega)
          · have := nw x z; exact .inr (mem_newL.mpr (by omega))) E1
        have ef : fpAll sh (i :: is) (v :: vs) fps = fpAll sh is vs (fps.set i (rootOf v)) := by show fpAll sh is vs (match sh.getD i .val with | .root => fps.set i (rootOf v) | _ => fps) = _; rw [hsh]
        rw [ef]
        refine ⟨r1, fun j x hx => ?_, fun j hj => (r3 j hj).trans (getD_set_ne (by rintro rfl; rw [hsh] at hj; cases hj))⟩
        rcases r2 j x hx with z | z
        · exact pv_set (S := S0) (fun x hx => by have := nw x hx; omega) j x z
        · exact .inr z
def qPar (is : List Nat) (l : QL) : QT := fun e => match l e with
  | .ret ds e1 => if is.all (fun i => decide (i < e1.length)) = true then .nx (setAll is ds e1) else .fail
  | .exc x e1 => .exc x e1
  | .fail => .fail
theorem parv_len {S2 : Ms} : ∀ {ss : List Sh} {vs : List PV} {ds : List D} {Y : List Nat} {S : Ms}, ParV fps S2 Y S ss vs ds → vs.length = ss.length
  | [], [], [], _, _, _ => rfl
  | s :: ss, v :: vs, d :: ds, _, _, ⟨_, _, _, _, _, _, _, h⟩ => by rw [List.length_cons, List.length_cons, parv_len h]
  | [], _ :: _, _, _, _, h => by cases h
  | [], [], _ :: _, _, _, h => by cases h
  | _ :: _, [], _, _, _, h => by cases h
  | _ :: _, _ :: _, [], _, _, h => by cases h
theorem ls_pars {is : List Nat} {ss : List Sh} {M : MS} (ha : LLp sh mu ss ml ql) (hs : is.map (fun i => sh.getD i .val) = ss) (hM : ∀ env S, (∀ vs S1, ml env S = .ret vs S1 → vs.length = ss.length → M env S = .nx (setAll is vs env) S1) ∧ ∀ x S1, ml env S = .exc x S1 → M env S = .exc env x S1) : LS sh mu fr M (qPar is ql) := fun Y env S e fps E => by
  have h := ha Y env S e fps E
  unfold qPar
  cases hq : ql e with
  | fail => trivial
  | exc x e1 => rw [hq] at h; obtain ⟨x', S1, h1, st, r⟩ := h; rw [(hM env S).2 x' S1 h1]; exact ⟨x', env, S1, fps, rfl, st.toS, r.weaken fun n hn => List.mem_append_left _ hn⟩
  | ret ds e1 =>
    rw [hq] at h; obtain ⟨vs, S1, h1, st, r⟩ := h
    dsimp only
    by_cases hl : is.all (fun i => decide (i < e1.length)) = true
    · rw [if_pos hl, (hM env S).1 vs S1 h1 (parv_len r)]
      have hl' : ∀ i ∈ is, i < e1.length := fun i hi => by simpa using List.all_eq_true.mp hl i hi
      obtain ⟨r1, r2, r3⟩ := par_store (S2 := S1) (sh := sh) (Y := Y) (S0 := S) (fps0 := fps) E.xlt is ss vs ds env e1 fps S (Nat.le_refl _) st.fr.1 (by rw [newL_self, List.append_nil]; exact r) hs hl' (fun x hx => .inl hx) st.er
      exact ⟨_, _, _, rfl, st.fr, r1, r2, r3⟩
    · rw [if_neg hl]; trivial
theorem ls_par {i j : Nat} {ss : List Sh} (ha : LLp sh mu ss (mCons m (mCons n mNil)) ql) (hs : [i, j].map (fun i => sh.getD i .val) = ss := by rfl) : LS sh mu fr (sPar i j m n) (qPar [i, j] ql) := ls_pars ha hs fun env S => ⟨fun vs S1 h hl => by
    unfold sPar; rw [h]
    rw [← hs] at hl
    match vs, hl with
    | [v, w], _ => rfl, fun x S1 h => by unfold sPar; rw [h]⟩
end
end MP

set_option maxRecDepth 100000
namespace MP
open PySem PySem.Spec PyProof.Rows L2
section
variable {Y Z X X' : List Nat} {sh : List Sh} {mu mu' mu2 : List Nat} {env env' env1 env2 : Env'} {S S' S1 S2 : Ms} {e e' e1 e2 : DE} {fps fps' fps1 fps2 : List (List Nat)} {m n c : ME} {p q r : QE} {t u : MB} {b b' : QB} {ml mk : ML} {ql qk : QL} {v : PV} {d : D} {k : Kd} {fr : Bool} {sm sn : MS} {sp sq : QT} {vs : List PV} {ds : List D} {sl sl' : List Nat}
/-! ### targets -/
abbrev QG := D → DE → Option DE
def LG (sh : List Sh) (g : MG) (q : QG) (sl : List Nat) : Prop := ∀ Y env S e fps v d e1, EnvR Y sh env S e fps → Rp S (Y ++ fps.flatten) v d → q d e = some e1 → ∃ env1, g v env = some env1 ∧ EnvR Y sh env1 S e1 fps ∧ (∀ vs, (∀ i ∈ sl, i ∈ vs) → wipeE env1 vs = wipeE env vs) ∧ ∀ i, sh.getD i .val = .io → env1.getD i none = env.getD i none
def LGs (sh : List Sh) (g : List PV → Env' → Option Env') (q : List D → DE → Option DE) (sl : List Nat) : Prop := ∀ Y env S e fps v d e1, EnvR Y sh env S e fps → Rps S (Y ++ fps.flatten) v d → q d e = some e1 → ∃ env1, g v env = some env1 ∧ EnvR Y sh env1 S e1 fps ∧ (∀ vs, (∀ i ∈ sl, i ∈ vs) → wipeE env1 vs = wipeE env vs) ∧ ∀ i, sh.getD i .val = .io → env1.getD i none = env.getD i none
def qNm (i : Nat) : QG := fun d e => some (e.set i (some d))
theorem wipeE_set {i : Nat} {s : Option PV} : ∀ {vs : List Nat}, i ∈ vs → wipeE (env.set i s) vs = wipeE env vs
  | w :: ws, h => by
    show (wipeE (env.set i s) ws).set w none = (wipeE env ws).set w none
    by_cases hv : i ∈ ws
    · rw [wipeE_set hv]
    · have e : i = w := by rcases List.mem_cons.mp h with h | h; exact h; exact absurd h hv
      subst e
      have g : ∀ (ws : List Nat), i ∉ ws → wipeE (env.set i s) ws = (wipeE env ws).set i s := by
        intro ws
        induction ws with
        | nil => intro _; rfl
        | cons z zs ih =>
          intro hn
          show (wipeE (env.set i s) zs).set z none = ((wipeE env zs).set z none).set i s
          rw [ih (fun y => hn (List.mem_cons_of_mem _ y)), List.set_comm]
          intro y; subst y; exact hn List.mem_cons_self
      rw [g ws hv, List.set_set]
theorem lg_name (i : Nat) (hi : sh.getD i .val = .val := by rfl) : LG sh (gNm i) (qNm i) [i] := fun Y env S e fps v d e1 E r h => by
  cases h
  exact ⟨_, rfl, E.setV hi r, fun vs h => wipeE_set (h i (by simp)), fun j hj => getD_set_ne (by rintro rfl; rw [hi] at hj; cases hj)⟩
def qNl : List D → DE → Option DE
  | [], e => some e
  | _, _ => none
def qCn (g : QG) (gs : List D → DE → Option DE) : List D → DE → Option DE
  | d :: ds, e => (g d e).bind fun e1 => gs ds e1
  | [], _ => none
theorem lgs_nil : LGs sh gNl qNl [] := fun Y env S e fps v d e1 E r h => by
  cases r with
  | nil => cases h; exact ⟨_, rfl, E, fun _ _ => rfl, fun _ _ => rfl⟩
  | cons _ _ => cases h
theorem lgs_cons {g : MG} {gq : QG} {gs : List PV → Env' → Option Env'} {gqs : List D → DE → Option DE} (h1 : LG sh g gq sl) (h2 : LGs sh gs gqs sl') : LGs sh (gCn g gs) (qCn gq gqs) (sl ++ sl') := fun Y env S e fps v d e1 E r h => by
  cases r with
  | nil => cases h
  | cons r t =>
    simp only [qCn] at h
    rw [Option.bind_eq_some_iff] at h
    obtain ⟨e2, ha, hb⟩ := h
    obtain ⟨env1, a1, a2, a3, a4⟩ := h1 Y env S e fps _ _ e2 E r ha
    obtain ⟨env2, b1, b2, b3, b4⟩ := h2 Y env1 S e2 fps _ _ e1 a2 t hb
    exact ⟨env2, by simp only [gCn, a1, Option.bind_some, b1], b2, fun vs hv => (b3 vs fun i hi => hv i (List.mem_append_right _ hi)).trans (a3 vs fun i hi => hv i (List.mem_append_left _ hi)), fun i hi => (b4 i hi).trans (a4 i hi)⟩
def qTp (n : Nat) (gs : List D → DE → Option DE) : QG := fun d e => match d with | .tup xs => if xs.length = n then gs xs e else none | _ => none
theorem lg_tup {n : Nat} {gs : List PV → Env' → Option Env'} {gqs : List D → DE → Option DE} (h : LGs sh gs gqs sl) : LG sh (gTp n gs) (qTp n gqs) sl := fun Y env S e fps v d e1 E r hq => by
  unfold qTp at hq
  split at hq
  · split at hq
    · obtain ⟨xs, rfl, rs⟩ := r.inv_tup
      obtain ⟨env1, a⟩ := h Y env S e fps _ _ e1 E rs hq
      exact ⟨env1, by simp only [gTp]; rw [if_pos (by rw [rs.length]; assumption)]; exact a.1, a.2⟩
    · cases hq
  · cases hq
abbrev qAsg (g : QG) (a : QE) : QT := qOf a fun d e => match g d e with | some e1 => .nx e1 | none => .fail
theorem ls_asg {g : MG} {gq : QG} (ha : LE sh mu k m p) (hg : LG sh g gq sl) (hk : k = .new ∨ k = .val := by first | exact Or.inl rfl | exact Or.inr rfl) : LS sh mu fr (sAsg g m) (qAsg gq p) := ls_of (f := fun v env S => toSO (g v env) S) ha fun Y env S e fps v d S1 e1 st r E => by
  cases hq : gq d e1 with
  | none => trivial
  | some e2 =>
    obtain ⟨env1, a1, a2, _, a3⟩ := hg Y env S1 e1 fps v d e2 st.er.back (r.up hk) hq
    rw [a1]
    exact ⟨_, _, _, rfl, st.fr, a2, fun _ _ h => .inl h, a3⟩
/-! ### what is walked -/
def SrcR (ls : List Nat) (S' : Ms) (X : List Nat) (fps : List (List Nat)) (src : Src) (ds : List D) : Prop := ∃ (L : List Nat) (vs : List PV), (∀ n ∈ L, n ∉ X ∨ ∃ i ∈ ls, n ∈ fps.getD i []) ∧ (∀ n ∈ L, n < S'.length) ∧ (∀ S'' : Ms, (∀ n ∈ L, S''[n]? = S'[n]?) → ∀ i, nxt S'' i src = nxO vs[i]?) ∧ Rps S' X vs ds
abbrev QI := DE → LO (List D)
def LI (sh : List Sh) (mu ls : List Nat) (m : MI) (q : QI) : Prop := ∀ Y env S e fps, EnvR Y sh env S e fps → LPost (fun _ S' X fps src ds => SrcR ls S' X fps src ds) (Y ++ fps.flatten) Y sh mu env S fps (m env S) (q e)
def qiOf (a : QE) : QI := fun e => (a e).bind fun d e1 => opt (itemsD d) e1
theorem srcOK (st : EnvR Z sh env S1 e1 fps) {src : Src} {o : Out Src} (h : o = .ret src S1) (r : SrcR sl S1 X fps src ds) : LPost (fun _ S' X fps src ds => SrcR sl S' X fps src ds) X Z sh mu env S1 fps o (.ret ds e1) := by rw [h]; exact ⟨src, S1, rfl, .refl st, r⟩
theorem nxt_list {xs : List PV} {n0 i : Nat} {o : Src} (h : S[n0]? = some (.lst xs)) : nxt S i (.lst n0) = nxO xs[i]? := by
  simp only [nxt, rdL, h]; cases xs[i]? <;> rfl
theorem li_of {l : List Nat} (ha : LE sh mu (.rd l) m p) : LI sh mu l (iOf m) (qiOf p) := fun Y env S e fps E => by
  have e0 : iOf m env S = (m env S).bind fun v S1 => match srcOf S1 v with | some s => .ret s S1 | none => .fail := by unfold iOf Out.bind; cases m env S <;> rfl
  rw [e0]
  refine LPost.nil' (LPost.seq (ha Y env S e fps E) (fun _ _ _ _ _ _ h => h) fun v d S1 e1 st r => ?_)
  cases hi : itemsD d with
  | none => trivial
  | some ds =>
    cases d with
    | tup xs =>
      cases hi
      obtain ⟨ys, rfl, rs⟩ := r.rd.inv_tup
      exact srcOK st.er rfl ⟨[], ys, (fun _ h => nomatch h), (fun _ h => nomatch h), fun S'' _ i => by simp only [nxt]; cases ys[i]? <;> rfl, rs⟩
    | lst xs =>
      cases hi
      have own : ∀ n ys, v = .loc n → S1[n]? = some (.lst ys) → Rps S1 (Y ++ fps.flatten) ys ds → (n ∉ (Y ++ fps.flatten) ∨ ∃ i ∈ l, n ∈ fps.getD i []) → LPost (fun _ S' X fps src ds => SrcR l S' X fps src ds) (Y ++ fps.flatten) (Y ++ newL S S1) sh [] env S1 fps (match srcOf S1 v with | some s => .ret s S1 | none => .fail) (.ret ds e1) := by
        rintro n ys rfl en rs hn
        refine srcOK st.er (src := .lst n) (by simp only [srcOf, rdL, en, Option.map_some]) ⟨[n], ys, fun k hk => ?_, fun k hk => ?_, fun S'' hS i => ?_, rs⟩
        · rw [List.mem_singleton] at hk; subst hk; exact hn
        · rw [List.mem_singleton] at hk; subst hk; exact lt_of_get en
        · exact nxt_list (o := .lst n) (by rw [hS n (by simp)]; exact en)
      rcases r with r | ⟨i, hi, n, o, rfl, ef, en, cc⟩
      · cases r with
        | loc hn en cc => obtain ⟨ys, rfl, rs⟩ := cc.inv_lst; exact own _ ys rfl en rs (.inl hn)
      · obtain ⟨ys, rfl, rs⟩ := cc.inv_lst
        exact own n ys rfl en rs (.inr ⟨i, hi, by rw [ef]; simp⟩)
    | _ => cases hi
def nats (lo : Int) (n : Nat) : List D := (List.range n).map fun k => D.int (lo + (k : Nat))
def qrng1 : List D → Option (List D)
  | [.int j] => if big62 j then some (nats 0 j.toNat) else none
  | _ => none
def qiRg (f : List D → Option (List D)) (l : QL) : QI := fun e => (l e).bind fun ds e1 => opt (f ds) e1
def RgR (f : List PV → Option Src) (g : List D → Option (List D)) : Prop := ∀ (S : Ms) (X : List Nat) (vs : List PV) (ds rs : List D), Rds S X vs ds → g ds = some rs → ∃ src ws, f vs = some src ∧ (∀ S'' i, nxt S'' i src = nxO ws[i]?) ∧ ∀ S X, Rps S X ws rs
theorem range_nx {n i : Nat} {f : Nat → PV} : (if i < n then Nx.yld (f i) else .stop) = nxO ((List.range n).map f)[i]? := by
  rw [List.getElem?_map]
  by_cases h : i < n
  · rw [if_pos h, List.getElem?_range h]; rfl
  · rw [if_neg h, List.getElem?_eq_none (by simp; omega)]; rfl
theorem rg1 : RgR rng1 qrng1 := fun S X vs ds rs r h => by
  unfold qrng1 at h
  split at h
  · split at h
    · rename_i j hb
      cases h
      obtain ⟨v, rfl, r1⟩ := rds1 r
      rw [r1.inv_int]
      exact ⟨_, (List.range j.toNat).map fun (k : Nat) => PV.int (0 + (k : Nat)), by simp only [rng1]; rw [if_pos hb], fun S'' i => by simp only [nxt]; exact range_nx (f := fun k => PV.int (0 + (k : Nat))), fun S X => .flat (fun k => .int _) _⟩
    · cases h
  · cases h
theorem li_rg {l : List Nat} {f : List PV → Option Src} {g : List D → Option (List D)} (hf : RgR f g) (ha : LL sh mu (.rd l) ml ql) : LI sh mu [] (iRg f ml) (qiRg g ql) := fun Y env S e fps E => by
  have e0 : iRg f ml env S = (ml env S).bind fun vs S1 => match f vs with | some s => .ret s S1 | none => .fail := by unfold iRg Out.bind; cases ml env S <;> rfl
  rw [e0]
  refine LPost.nil' (LPost.seq (ha Y env S e fps E) (fun _ _ _ _ _ _ h => h) fun vs ds S1 e1 st r => ?_)
  cases hi : g ds with
  | none => trivial
  | some rs =>
    obtain ⟨src, ws, h1, h2, h3⟩ := hf S1 _ vs ds rs r.rds hi
    exact srcOK st.er (by rw [h1]) ⟨[], ws, (fun _ h => nomatch h), (fun _ h => nomatch h), (fun S'' _ i => h2 S'' i), h3 _ _⟩
/-- sources that read lists: by the values of the lists -/
def qiSt (f : List D → Option (List D)) (l : QL) : QI := fun e => (l e).bind fun ds e1 => opt (f ds) e1
def zipD (xs ys : List D) : List D := (List.zip xs ys).map fun p => .tup [p.1, p.2]
def enmD (xs : List D) : List D := (List.range xs.length).zip xs |>.map fun p => .tup [.int (p.1 : Nat), p.2]
def qzip : List D → Option (List D)
  | [.tup xs, .tup ys] => some (zipD xs ys)
  | [.lst xs, .lst ys] => some (zipD xs ys)
  | _ => none
def qenm : List D → Option (List D)
  | [.lst xs] => some (enmD xs)
  | _ => none
/-- the places of the lists read -/
def rootsOf (vs : List PV) : List Nat := (vs.map rootOf).flatten
def StR (f : Ms → List PV → Option Src) (g : List D → Option (List D)) : Prop := ∀ (S : Ms) (X : List Nat) (vs : List PV) (ds rs : List D), Rds S X vs ds → g ds = some rs → ∃ src ws, f S vs = some src ∧ (∀ S'' : Ms, (∀ n ∈ rootsOf vs, S''[n]? = S[n]?) → ∀ i, nxt S'' i src = nxO ws[i]?) ∧ Rps S X ws rs
theorem rps_zip : ∀ {xs ys : List PV} {ds es : List D}, Rps S X xs ds → Rps S X ys es → Rps S X ((List.zip xs ys).map fun p => .tup [p.1, p.2]) (zipD ds es)
  | _, _, _, _, .nil, _ => by simp [zipD]; exact .nil
  | _, _, _, _, .cons _ _, .nil => by simp [zipD]; exact .nil
  | _, _, _, _, .cons h t, .cons h' t' => .cons (.tup (.cons h (.cons h' .nil))) (rps_zip t t')
theorem zip_at {α β : Type} {xs : List α} {ys : List β} {i : Nat} : (List.zip xs ys)[i]? = match xs[i]?, ys[i]? with | some a, some b => some (a, b) | _, _ => none := by
  rw [List.zip_eq_zipWith, List.getElem?_zipWith]; cases xs[i]? <;> cases ys[i]? <;> rfl
theorem zip_nxQ {xs ys : List PV} {i : Nat} : (match xs[i]?, ys[i]? with | some v, some w => Nx.yld (.tup [v, w]) | _, _ => .stop) = nxO (((List.zip xs ys).map fun p => PV.tup [p.1, p.2])[i]?) := by
  rw [List.getElem?_map, zip_at]; cases xs[i]? <;> cases ys[i]? <;> rfl
theorem st_zip : StR zipOf qzip := fun S X vs ds rs r h => by
  unfold qzip at h
  split at h
  · cases h
    obtain ⟨v, w, rfl, r1, r2⟩ := rds2 r
    obtain ⟨xs, rfl, q1⟩ := r1.inv_tup
    obtain ⟨ys, rfl, q2⟩ := r2.inv_tup
    exact ⟨_, _, rfl, fun S'' _ i => by simp only [nxt]; exact zip_nxQ, rps_zip q1 q2⟩
  · cases h
    obtain ⟨v, w, rfl, r1, r2⟩ := rds2 r
    obtain ⟨n1, xs, rfl, e1, q1⟩ := r1.inv_lst
    obtain ⟨n2, ys, rfl, e2, q2⟩ := r2.inv_lst
    refine ⟨.zipL n1 n2, _, by simp only [zipOf, rdL, e1, e2], fun S'' hS i => ?_, rps_zip q1 q2⟩
    have h1 : S''[n1]? = some (.lst xs) := by rw [hS n1 (by simp [rootsOf, rootOf])]; exact e1
    have h2 : S''[n2]? = some (.lst ys) := by rw [hS n2 (by simp [rootsOf, rootOf])]; exact e2
    simp only [nxt, rdL, h1, h2]; exact zip_nxQ
  · cases h
theorem rps_enm {xs : List PV} {ds : List D} (h : Rps S X xs ds) : Rps S X ((List.range xs.length).zip xs |>.map fun p => .tup [.int (p.1 : Nat), p.2]) (enmD ds) := by
  have g : ∀ {xs : List PV} {ds : List D} (l : List Nat), Rps S X xs ds → Rps S X ((l.zip xs).map fun p => .tup [.int (p.1 : Nat), p.2]) ((l.zip ds).map fun p => .tup [.int (p.1 : Nat), p.2]) := by
    intro xs ds l h
    induction l generalizing xs ds with
    | nil => simp; exact .nil
    | cons a l ih =>
      cases h with
      | nil => simp; exact .nil
      | cons h t => exact .cons (.tup (.cons (.int _) (.cons h .nil))) (ih t)
  unfold enmD
  rw [← h.length]; exact g _ h
theorem enm_at {xs : List PV} {i : Nat} : (match xs[i]? with | some v => Nx.yld (.tup [.int i, v]) | none => .stop) = nxO ((((List.range xs.length).zip xs).map fun p => PV.tup [.int (p.1 : Nat), p.2])[i]?) := by
  rw [List.getElem?_map, zip_at]
  cases e : xs[i]? with
  | none => cases (List.range xs.length)[i]? <;> rfl
  | some v =>
    have hl := (List.getElem?_eq_some_iff.mp e).1
    rw [List.getElem?_range hl]; rfl
theorem st_enm : StR enmOf qenm := fun S X vs ds rs r h => by
  unfold qenm at h
  split at h
  · cases h
    obtain ⟨v, rfl, r1⟩ := rds1 r
    obtain ⟨n1, xs, rfl, e1, q1⟩ := r1.inv_lst
    refine ⟨.enm n1, _, by simp only [enmOf, rdL, e1, Option.map_some], fun S'' hS i => ?_, rps_enm q1⟩
    have h1 : S''[n1]? = some (.lst xs) := by rw [hS n1 (by simp [rootsOf, rootOf])]; exact e1
    simp only [nxt, rdL, h1]; exact enm_at
  · cases h
theorem vks_roots {l : List Nat} : ∀ {vs : List PV} {ds : List D}, VKs (.rd l) S S' X fps vs ds → (∀ n ∈ rootsOf vs, n ∉ X ∨ ∃ i ∈ l, n ∈ fps.getD i []) ∧ ∀ n ∈ rootsOf vs, n < S'.length
  | _, _, .nil => ⟨fun _ h => (by simp [rootsOf] at h), fun _ h => (by simp [rootsOf] at h)⟩
  | _, _, .cons (v := v) (vs := ws) h t => by
    obtain ⟨h1, h2⟩ := vks_roots t
    have e : ∀ n, n ∈ rootsOf (v :: ws) ↔ n ∈ rootOf v ∨ n ∈ rootsOf ws := fun n => by simp only [rootsOf, List.map_cons, List.flatten_cons, List.mem_append]
    have hv : ∀ n ∈ rootOf v, (n ∉ X ∨ ∃ i ∈ l, n ∈ fps.getD i []) ∧ n < S'.length := fun n hn => by
      cases v with
      | loc k =>
        simp only [rootOf, List.mem_singleton] at hn; subst hn
        rcases h with h | ⟨i, hi, k, o, e1, e2, e3, e4⟩
        · cases h with | loc hk en cc => exact ⟨.inl hk, lt_of_get en⟩
        · cases e1; exact ⟨.inr ⟨i, hi, by rw [e2]; simp⟩, lt_of_get e3⟩
      | _ => cases hn
    exact ⟨fun n hn => ((e n).mp hn).elim (fun z => (hv n z).1) (h1 n), fun n hn => ((e n).mp hn).elim (fun z => (hv n z).2) (h2 n)⟩
theorem li_st {l : List Nat} {f : Ms → List PV → Option Src} {g : List D → Option (List D)} (hf : StR f g) (ha : LL sh mu (.rd l) ml ql) : LI sh mu l (iSt f ml) (qiSt g ql) := fun Y env S e fps E => by
  have e0 : iSt f ml env S = (ml env S).bind fun vs S1 => match f S1 vs with | some s => .ret s S1 | none => .fail := by unfold iSt Out.bind; cases ml env S <;> rfl
  rw [e0]
  refine LPost.nil' (LPost.seq (ha Y env S e fps E) (fun _ _ _ _ _ _ h => h) fun vs ds S1 e1 st r => ?_)
  cases hi : g ds with
  | none => trivial
  | some rs =>
    obtain ⟨src, ws, h1, h2, h3⟩ := hf S1 _ vs ds rs r.rds hi
    obtain ⟨k1, k2⟩ := vks_roots r
    exact srcOK st.er (by rw [h1]) ⟨rootsOf vs, ws, k1, k2, h2, h3⟩
/-! ### loops -/
def forQ (g : QG) (body : QT) : List D → DE → QS
  | [], e => .nx e
  | d :: ds, e => match g d e with
    | none => .fail
    | some e1 => (match body e1 with
      | .nx e2 => forQ g body ds e2
      | .ct e2 => forQ g body ds e2
      | .bk e2 => .nx e2
      | w => w)
def qFor (qi : QI) (g : QG) (body : QT) : QT := fun e => match qi e with
  | .ret ds e1 => if ds.length ≤ lim then forQ g body ds e1 else .fail
  | .exc x e1 => .exc x e1
  | .fail => .fail
/-- the loop's inner part -/
theorem forQ_ok {src : Src} {g : MG} {gq : QG} {body : MS} {bq : QT} {L : List Nat} {vs : List PV} {S0 : Ms} {fps0 : List (List Nat)} (hg : LG sh g gq sl) (hb : LS sh mu fr body bq) (hL : ∀ n ∈ L, n < S0.length) (hLm : ∀ n ∈ L, n ∉ sel mu fps0)
    (hn : ∀ S'' : Ms, (∀ n ∈ L, S''[n]? = S0[n]?) → ∀ i, nxt S'' i src = nxO vs[i]?) : ∀ (ds : List D) (f i : Nat) (env : Env') (S : Ms) (e : DE) (fps : List (List Nat)), ds.length < f → i + ds.length = vs.length → EnvR Y sh env S e fps → (∀ n ∈ L, S[n]? = S0[n]?) → S0.length ≤ S.length → (∀ i x, x ∈ fps.getD i [] → x ∈ fps0.getD i [] ∨ S0.length ≤ x) → Rps S (Y ++ fps.flatten) (vs.drop i) ds →
      SPost fr Y sh mu env S fps (loopM src g body f i env S) (forQ gq bq ds e)
  | ds, 0, i, env, S, e, fps, hf, _, _, _, _, _, _ => absurd hf (by omega)
  | [], f + 1, i, env, S, e, fps, hf, hi, E, hS, hS0, hp, hr => by
    unfold loopM
    rw [hn S hS i, List.getElem?_eq_none (by rw [← hi]; exact Nat.le_refl _)]
    show SPost fr Y sh mu env S fps (.nx env S) (.nx e)
    exact ⟨env, S, fps, rfl, StpS.muUp (mu := []) (StpS.refl E) (by simp)⟩
  | d :: ds, f + 1, i, env, S, e, fps, hf, hi, E, hS, hS0, hp, hr => by
    have hil : i < vs.length := by rw [List.length_cons] at hi; omega
    rw [List.drop_eq_getElem_cons hil] at hr
    cases hr with
    | cons rv rt =>
      unfold loopM forQ
      rw [hn S hS i, List.getElem?_eq_getElem hil]
      dsimp only [nxO]
      cases hq : gq d e with
      | none => trivial
      | some e1 =>
        obtain ⟨env1, a1, a2, _, a3⟩ := hg Y env S e fps _ d e1 E rv hq
        rw [a1]
        dsimp only
        have h := hb Y env1 S e1 fps a2
        have s0 : StpS Y sh [] env S fps env1 S e1 fps := ⟨.refl _ _, a2, fun _ _ h => .inl h, a3⟩
        have mm : ∀ {o w}, SPost fr Y sh ([] ++ mu) env S fps o w → SPost fr Y sh mu env S fps o w := fun h => h.muUp (by simp)
        -- go on
        have go : ∀ {env2 : Env'} {S2 : Ms} {e2 : DE} {fps2 : List (List Nat)}, StpS Y sh mu env1 S fps env2 S2 e2 fps2 → SPost fr Y sh mu env S fps (loopM src g body f (i + 1) env2 S2) (forQ gq bq ds e2) := fun {env2 S2 e2 fps2} st => by
          have st' := s0.trans st
          have hL2 : ∀ n ∈ L, S2[n]? = S0[n]? := fun n hn => by
            rw [st.fr.2 n (Nat.lt_of_lt_of_le (hL n hn) hS0) fun z => ?_]; exact hS n hn
            obtain ⟨j, hj, hx⟩ := mem_sel.mp z
            rcases hp j n hx with y | y
            · exact hLm n hn (mem_sel.mpr ⟨j, hj, y⟩)
            · have := hL n hn; omega
          have hp2 : ∀ i x, x ∈ fps2.getD i [] → x ∈ fps0.getD i [] ∨ S0.length ≤ x := fun j x hx => (st.pv j x hx).elim (hp j x) fun y => .inr (Nat.le_trans hS0 y)
          have rt2 : Rps S2 (Y ++ fps2.flatten) (vs.drop (i + 1)) ds := rt.fr st.fr (fun n hn => .inl (List.mem_append_right _ (sel_in hn))) fun n hn => by
            rcases List.mem_append.mp hn with y | y
            · exact .inl (List.mem_append_left _ y)
            · obtain ⟨j, hj⟩ := fp_out y
              exact (st.pv j n hj).imp (fun w => List.mem_append_right _ (fp_in w)) id
          have hh := forQ_ok hg hb hL hLm hn ds f (i + 1) env2 S2 e2 fps2 (by rw [List.length_cons] at hf; omega) (by rw [List.length_cons] at hi; omega) st.er hL2 (Nat.le_trans hS0 st.fr.1) hp2 rt2
          exact (hh.behind st').muUp (by simp)
        cases hw : bq e1 with
        | nx e2 => rw [hw] at h; obtain ⟨env2, S2, fps2, h1, st⟩ := h; rw [h1]; exact go st
        | ct e2 => rw [hw] at h; obtain ⟨env2, S2, fps2, h1, st⟩ := h; rw [h1]; exact go st
        | bk e2 => rw [hw] at h; obtain ⟨env2, S2, fps2, h1, st⟩ := h; rw [h1]; exact ⟨_, _, _, rfl, (s0.trans st).muUp (by simp)⟩
        | rt d2 e2 => rw [hw] at h; obtain ⟨v2, env2, S2, fps2, h1, st, rr⟩ := h; rw [h1]; exact ⟨_, _, _, _, rfl, (s0.trans st).muUp (by simp), rr⟩
        | exc x e2 => rw [hw] at h; obtain ⟨v2, env2, S2, fps2, h1, st, rr⟩ := h; rw [h1]; exact ⟨_, _, _, _, rfl, (s0.trans st).muUp (by simp), rr⟩
        | fail => trivial
theorem ls_for {ls : List Nat} {mi : MI} {qi : QI} {g : MG} {gq : QG} {body : MS} {bq : QT} (hi : LI sh mu ls mi qi) (hg : LG sh g gq sl) (hb : LS sh mu' fr body bq) (hm : ∀ i ∈ ls, i ∉ mu' := by decide) : LS sh (mu ++ mu') fr (sFor mi g body) (qFor qi gq bq) := fun Y env S e fps E => by
  have h := hi Y env S e fps E
  unfold sFor qFor
  cases hq : qi e with
  | fail => trivial
  | exc x e1 => rw [hq] at h; obtain ⟨x', S1, h1, st, r⟩ := h; rw [h1]; exact ⟨x', env, S1, fps, rfl, st.toS.muUp fun i hi => List.mem_append_left _ hi, r.weaken fun n hn => List.mem_append_left _ hn⟩
  | ret ds e1 =>
    rw [hq] at h; obtain ⟨src, S1, h1, st, L, vs, k1, k2, k3, k4⟩ := h; rw [h1]
    dsimp only
    by_cases hl : ds.length ≤ lim
    · rw [if_pos hl]
      refine SPost.behind st.toS (forQ_ok (L := L) (S0 := S1) (fps0 := fps) hg hb k2 (fun n hn z => ?_) k3 ds fuel 0 env S1 e1 fps (Nat.lt_of_le_of_lt hl (by decide)) (by rw [Nat.zero_add]; exact k4.length.symm) st.er.back (fun _ _ => rfl) (Nat.le_refl _) (fun _ _ h => .inl h) (by rw [List.drop_zero]; exact k4))
      obtain ⟨j, hj, hx⟩ := mem_sel.mp z
      rcases k1 n hn with y | ⟨i, hi, y⟩
      · exact y (List.mem_append_right _ (fp_in hx))
      · have := fp_disj E.nd y hx
        subst this; exact hm i hi hj
    · rw [if_neg hl]; trivial
def whileQ (t : QB) (body : QT) : Nat → DE → QS
  | 0, _ => .fail
  | f + 1, e => match t e with
    | .ret true e1 => (match body e1 with
      | .nx e2 => whileQ t body f e2
      | .ct e2 => whileQ t body f e2
      | .bk e2 => .nx e2
      | w => w)
    | .ret false e1 => .nx e1
    | .exc x e1 => .exc x e1
    | .fail => .fail
def qWhile (t : QB) (body : QT) : QT := whileQ t body fuel
theorem whileQ_ok {body : MS} {bq : QT} (ht : LB sh mu t b) (hb : LS sh mu' fr body bq) : ∀ (f : Nat) (env : Env') (S : Ms) (e : DE) (fps : List (List Nat)), EnvR Y sh env S e fps → SPost fr Y sh (mu ++ mu') env S fps (whileM t body f env S) (whileQ b bq f e)
  | 0, env, S, e, fps, E => trivial
  | f + 1, env, S, e, fps, E => by
    have h := ht Y env S e fps E
    unfold whileM whileQ
    cases hb' : b e with
    | fail => trivial
    | exc x e1 => rw [hb'] at h; obtain ⟨x', S1, h1, st, r⟩ := h; rw [h1]; exact ⟨x', env, S1, fps, rfl, st.toS.muUp fun i hi => List.mem_append_left _ hi, r.weaken fun n hn => List.mem_append_left _ hn⟩
    | ret z e1 =>
      rw [hb'] at h; obtain ⟨v, S1, h1, st, r⟩ := h
      have r : v = z := r
      subst r
      rw [h1]
      cases v with
      | false => exact ⟨_, _, _, rfl, st.toS.muUp fun i hi => List.mem_append_left _ hi⟩
      | true =>
        dsimp only
        have h := hb Y env S1 e1 fps st.er.back
        have go : ∀ {env2 : Env'} {S2 : Ms} {e2 : DE} {fps2 : List (List Nat)}, StpS Y sh mu' env S1 fps env2 S2 e2 fps2 → SPost fr Y sh (mu ++ mu') env S fps (whileM t body f env2 S2) (whileQ b bq f e2) := fun {env2 S2 e2 fps2} s2 =>
          ((whileQ_ok ht hb f env2 S2 e2 fps2 s2.er).behind (st.toS.trans s2)).muUp fun i hi => (List.mem_append.mp hi).elim id id
        cases hw : bq e1 with
        | nx e2 => rw [hw] at h; obtain ⟨env2, S2, fps2, h1, s2⟩ := h; rw [h1]; exact go s2
        | ct e2 => rw [hw] at h; obtain ⟨env2, S2, fps2, h1, s2⟩ := h; rw [h1]; exact go s2
        | bk e2 => rw [hw] at h; obtain ⟨env2, S2, fps2, h1, s2⟩ := h; rw [h1]; exact ⟨_, _, _, rfl, st.toS.trans s2⟩
        | rt d2 e2 => rw [hw] at h; obtain ⟨v2, env2, S2, fps2, h1, s2, rr⟩ := h; rw [h1]; exact ⟨_, _, _, _, rfl, st.toS.trans s2, rr.from st.fr.1⟩
        | exc x e2 => rw [hw] at h; obtain ⟨v2, env2, S2, fps2, h1, s2, rr⟩ := h; rw [h1]; exact ⟨_, _, _, _, rfl, st.toS.trans s2, rr⟩
        | fail => trivial
theorem ls_while {body : MS} {bq : QT} (ht : LB sh mu t b) (hb : LS sh mu' fr body bq) : LS sh (mu ++ mu') fr (sWhile t body) (qWhile b bq) := fun Y env S e fps E => whileQ_ok ht hb fuel env S e fps E
end
end MP

set_option maxRecDepth 100000
namespace MP
open PySem PySem.Spec PyProof.Rows L2
section
variable {Y Z X X' : List Nat} {sh : List Sh} {mu mu' mu2 : List Nat} {env env' env1 env2 : Env'} {S S' S1 S2 : Ms} {e e' e1 e2 : DE} {fps fps' fps1 fps2 : List (List Nat)} {m n c : ME} {p q r : QE} {t u : MB} {b b' : QB} {ml mk : ML} {ql qk : QL} {v : PV} {d : D} {k : Kd} {fr : Bool} {sm sn : MS} {sp sq : QT} {vs : List PV} {ds : List D} {sl sl' ws : List Nat}
/-! ### comprehensions -/
def wipeD (e : DE) : List Nat → DE
  | [] => e
  | v :: vs => (wipeD e vs).set v none
theorem EnvR.unset {i : Nat} (E : EnvR Y sh env S e fps) (hi : sh.getD i .val = .val) : EnvR Y sh (env.set i none) S (e.set i none) fps := by
  refine ⟨by rw [List.length_set, List.length_set]; exact E.l1, by rw [List.length_set]; exact E.l2, fun j => ?_, E.nd, E.bd, E.dj⟩
  by_cases hij : i = j
  · subst hij
    have hf : fps.getD i [] = [] := by have h := E.slot i; rw [hi] at h; exact h.nil_val
    rw [hf]
    have : (e.set i none).getD i none = none := by
      by_cases hl : i < e.length
      · exact getD_set_eq hl
      · rw [List.getD_eq_getElem?_getD, List.getElem?_eq_none (by rw [List.length_set]; omega)]; rfl
    rw [this]; exact .empty
  · rw [getD_set_ne hij, getD_set_ne hij]; exact E.slot j
theorem EnvR.wipe : ∀ {ws : List Nat}, (∀ i ∈ ws, sh.getD i .val = .val) → EnvR Y sh env S e fps → EnvR Y sh (wipeE env ws) S (wipeD e ws) fps
  | [], _, E => E
  | w :: ws, h, E => (EnvR.wipe (fun i hi => h i (List.mem_cons_of_mem _ hi)) E).unset (h w (by simp))
def lcQ0 (g : QG) (t : QB) (m : QE) (e0 : DE) : List D → Option (List D)
  | [] => some []
  | d :: ds => match g d e0 with
    | none => none
    | some e1 => (match t e1 with
      | .ret false _ => lcQ0 g t m e0 ds
      | .ret true e2 => (match m e2 with
        | .ret x _ => (lcQ0 g t m e0 ds).map (x :: ·)
        | _ => none)
      | _ => none)
def qLc0 (qi : QI) (g : QG) (t : QB) (m : QE) (ws : List Nat) : QE := fun e => match qi e with
  | .ret ds e1 => if ds.length ≤ lim then (match lcQ0 g t m (wipeD e1 ws) ds with | some xs => .ret (.lst xs) e1 | none => .fail) else .fail
  | .exc x e1 => .exc x e1
  | .fail => .fail
theorem fr_setl {S1 S : Ms} {l : Nat} {o : Ob} (f : Fr [] S1 S) (hl : S1.length ≤ l) : Fr [] S1 (S.set l o) := ⟨by rw [List.length_set]; exact f.1, fun n hn _ => by rw [List.getElem?_set_ne (by omega)]; exact f.2 n hn (by simp)⟩
theorem lcQ0_ok {src : Src} {g : MG} {gq : QG} {tt : MB} {tq : QB} {mm : ME} {mq : QE} {L : List Nat} {vs : List PV} {S1 : Ms} {l : Nat} (hk : k = .new ∨ k = .val) (hg : LG sh g gq sl) (ht : LB sh [] tt tq) (hm : LE sh [] k mm mq) (hL : ∀ n ∈ L, n < S1.length) (hl : l = S1.length) (hv : vs.length ≤ lim)
    (hn : ∀ S'' : Ms, (∀ n ∈ L, S''[n]? = S1[n]?) → ∀ i, nxt S'' i src = nxO vs[i]?) (hws : ∀ i ∈ ws, sh.getD i .val = .val) (E : EnvR Y sh env S1 e fps) : ∀ (ds : List D) (xs : List D) (f i : Nat) (S : Ms) (acc : List PV) (dacc : List D), ds.length < f → i + ds.length = vs.length → acc.length ≤ i → Fr [] S1 S → S[l]? = some (.lst acc) →
      Rps S ((Y ++ [l]) ++ fps.flatten) acc dacc → Rps S ((Y ++ [l]) ++ fps.flatten) (vs.drop i) ds → lcQ0 gq tq mq (wipeD e ws) ds = some xs → ∃ S' acc', lcM src g tt mm ws l env f i S = .ret (.loc l) S' ∧ Fr [] S1 S' ∧ S'[l]? = some (.lst acc') ∧ Rps S' ((Y ++ [l]) ++ fps.flatten) acc' (dacc ++ xs)
  | ds, xs, 0, i, S, acc, dacc, hf, _, _, _, _, _, _, _ => absurd hf (by omega)
  | [], xs, f + 1, i, S, acc, dacc, hf, hi, ha, hF, hSl, hr, hd, hq => by
    cases hq
    unfold lcM
    rw [hn S (fun n hn => hF.2 n (hL n hn) (by simp)) i, List.getElem?_eq_none (by rw [← hi]; exact Nat.le_refl _)]
    rw [List.append_nil]
    exact ⟨S, acc, rfl, hF, hSl, hr⟩
  | d :: ds, xs, f + 1, i, S, acc, dacc, hf, hi, ha, hF, hSl, hr, hd, hq => by
    have hil : i < vs.length := by rw [List.length_cons] at hi; omega
    rw [List.drop_eq_getElem_cons hil] at hd
    cases hd with
    | cons rv rt =>
      unfold lcM
      rw [hn S (fun n hn => hF.2 n (hL n hn) (by simp)) i, List.getElem?_eq_getElem hil]
      dsimp only [nxO]
      unfold lcQ0 at hq
      have hlS : l < S.length := lt_of_get hSl
      have E0 : EnvR (Y ++ [l]) sh env S e fps := (E.quiet hF).sub fun y hy => by
        rcases List.mem_append.mp hy with z | z
        · exact List.mem_append_left _ z
        · rw [List.mem_singleton] at z; subst z; exact List.mem_append_right _ (mem_newL.mpr ⟨by omega, hlS⟩)
      cases hg1 : gq d (wipeD e ws) with
      | none => rw [hg1] at hq; cases hq
      | some e1 =>
        rw [hg1] at hq
        dsimp only at hq
        obtain ⟨env1, a1, a2, _, _⟩ := hg _ _ S _ fps _ d e1 (E0.wipe hws) rv hg1
        rw [a1]
        dsimp only
        have h := ht _ env1 S e1 fps a2
        cases ht1 : tq e1 with
        | fail => rw [ht1] at hq; cases hq
        | exc x e2 => rw [ht1] at hq; cases hq
        | ret bb e2 =>
          rw [ht1] at h hq
          obtain ⟨v2, S2, h1, st, r⟩ := h
          have r : v2 = bb := r
          subst r
          rw [h1]
          have f2 : Fr [] S S2 := st.fr.mono (by simp [sel])
          have keep : ∀ {S3 : Ms} {vs : List PV} {ds : List D}, Fr [] S S3 → Rps S ((Y ++ [l]) ++ fps.flatten) vs ds → Rps S3 ((Y ++ [l]) ++ fps.flatten) vs ds := fun f h => h.fr f (fun _ h => nomatch h) fun n hn => .inl hn
          cases v2 with
          | false =>
            dsimp only at hq ⊢
            exact lcQ0_ok hk hg ht hm hL hl hv hn hws E ds xs f (i + 1) S2 acc dacc (by rw [List.length_cons] at hf; omega) (by rw [List.length_cons] at hi; omega) (by omega) (hF.trans f2) (by rw [f2.2 l hlS (by simp)]; exact hSl) (keep f2 hr) (keep f2 rt) hq
          | true =>
            dsimp only at hq ⊢
            have h := hm _ env1 S2 e2 fps st.er
            cases hm1 : mq e2 with
            | fail => rw [hm1] at hq; cases hq
            | exc x e3 => rw [hm1] at hq; cases hq
            | ret y e3 =>
              rw [hm1] at h hq
              obtain ⟨yv, S3, h1, st3, r3⟩ := h
              rw [h1]
              dsimp only at hq ⊢
              rw [Option.map_eq_some_iff] at hq
              obtain ⟨xs', hq, rfl⟩ := hq
              have f3 : Fr [] S S3 := f2.trans (st3.fr.mono (by simp [sel]))
              have hl3 : S3[l]? = some (.lst acc) := by rw [f3.2 l hlS (by simp)]; exact hSl
              rw [hl3]
              dsimp only
              rw [if_pos (by omega)]
              have inX : l ∈ (Y ++ [l]) ++ fps.flatten := List.mem_append_left _ (List.mem_append_right _ (by simp))
              have ry : Rp S3 ((Y ++ [l]) ++ fps.flatten) yv y := (r3.up hk).sub fun n hn => .inl (in_more n hn)
              have up : ∀ {vs : List PV} {ds : List D}, Rps S3 ((Y ++ [l]) ++ fps.flatten) vs ds → Rps (S3.set l (.lst (acc ++ [yv]))) ((Y ++ [l]) ++ fps.flatten) vs ds := fun h => h.mono (mono_set inX)
              obtain ⟨S', acc', q1, q2, q3, q4⟩ := lcQ0_ok hk hg ht hm hL hl hv hn hws E ds xs' f (i + 1) (S3.set l (.lst (acc ++ [yv]))) (acc ++ [yv]) (dacc ++ [y]) (by rw [List.length_cons] at hf; omega) (by rw [List.length_cons] at hi; omega) (by rw [List.length_append]; simp; omega) (fr_setl (hF.trans f3) (by omega)) (List.getElem?_set_self (lt_of_get hl3)) (up ((keep f3 hr).snoc ry)) (up (keep f3 rt)) hq
              exact ⟨S', acc', q1, q2, q3, by rw [List.append_assoc dacc] at q4; exact q4⟩
theorem le_lc0 {ls : List Nat} {mi : MI} {qi : QI} {g : MG} {gq : QG} {tt : MB} {tq : QB} {mm : ME} {mq : QE} (hi : LI sh mu ls mi qi) (hg : LG sh g gq sl) (ht : LB sh mu' tt tq) (hm : LE sh mu2 k mm mq) (hk : k = .new ∨ k = .val := by first | exact Or.inl rfl | exact Or.inr rfl) (hws : ∀ i ∈ ws, sh.getD i .val = .val := by decide) (hm1 : mu' = [] := by rfl) (hm2 : mu2 = [] := by rfl) :
    LE sh mu .new (mLc mi g tt mm ws) (qLc0 qi gq tq mq ws) := fun Y env S e fps E => by
  subst hm1 hm2
  have h := hi Y env S e fps E
  unfold mLc qLc0
  cases hq : qi e with
  | fail => trivial
  | exc x e1 => rw [hq] at h; obtain ⟨x', S1, h1, st, r⟩ := h; rw [h1]; exact ⟨x', S1, rfl, st, r⟩
  | ret ds e1 =>
    rw [hq] at h; obtain ⟨src, S1, h1, st, L, vs, k1, k2, k3, k4⟩ := h; rw [h1]
    dsimp only
    by_cases hl : ds.length ≤ lim
    · rw [if_pos hl]
      cases hx : lcQ0 gq tq mq (wipeD e1 ws) ds with
      | none => trivial
      | some xs =>
        have f0 : Fr [] S1 (S1 ++ [Ob.lst []]) := .app _ _ _
        obtain ⟨S', acc', q1, q2, q3, q4⟩ := lcQ0_ok (Y := Y) (S1 := S1) (l := S1.length) (L := L) hk hg ht hm k2 rfl (by rw [k4.length]; exact hl) k3 hws st.er.back ds xs fuel 0 (S1 ++ [.lst []]) [] [] (Nat.lt_of_le_of_lt hl (by decide)) (by rw [Nat.zero_add]; exact k4.length.symm) (Nat.le_refl _) f0 (get_new _ _) .nil
          (by rw [List.drop_zero]; exact k4.fr f0 (fun _ h => nomatch h) fun n hn => by
                rcases List.mem_append.mp hn with z | z
                · rcases List.mem_append.mp z with z | z
                  · exact .inl (List.mem_append_left _ z)
                  · rw [List.mem_singleton] at z; exact .inr (by omega)
                · exact .inl (List.mem_append_right _ z)) hx
        rw [q1]
        rw [List.nil_append] at q4
        have stq := st.trans (Stp.quiet (mu := []) st.er q2)
        rw [List.append_nil] at stq
        have cc : ∀ X', (∀ n ∈ X', n ∈ (Y ++ [S1.length]) ++ fps.flatten) → Cont S' X' (.lst acc') (.lst xs) := fun X' h => .lst (q4.sub fun n hn => .inl (h n hn))
        refine ⟨.loc S1.length, S', rfl, stq, .loc (fun z => by have := E.xlt _ z; have := st.fr.1; omega) q3 (cc _ fun n hn => ?_), fun n en => ?_⟩
        · rcases List.mem_append.mp hn with z | z
          · exact List.mem_append_left _ (List.mem_append_left _ z)
          · exact List.mem_append_right _ z
        · cases en
          refine ⟨st.fr.1, _, q3, cc _ fun n hn => ?_⟩
          rcases List.mem_cons.mp hn with z | z
          · exact List.mem_append_left _ (List.mem_append_right _ (by simp [z]))
          · rcases List.mem_append.mp z with z | z
            · exact List.mem_append_left _ (List.mem_append_left _ z)
            · exact List.mem_append_right _ z
    · rw [if_neg hl]; trivial
/-! ### functions -/
theorem fq_never {np : Nat} : FQ np fr (fun _ _ => .fail) (fun _ => .fail) := fun _ _ _ _ _ _ _ => trivial
theorem fl_never {np : Nat} : FL np fr (fun _ _ => .fail) (fun _ => .fail) := fun _ _ _ _ _ _ _ _ _ _ _ _ _ => trivial
def qFn (nl : Nat) (body : QT) : List D → FO := fun ds => match body (ds.map some ++ List.replicate nl none) with
  | .nx _ => .ret .non .non
  | .rt d _ => .ret d .non
  | .exc x _ => .exc x .non
  | _ => .fail
theorem rep_getD {α : Type} {n i : Nat} {a : α} : (List.replicate n a).getD i a = a := by
  rw [List.getD_eq_getElem?_getD, List.getElem?_replicate]; split <;> rfl
theorem nils_flat {n : Nat} : (List.replicate n ([] : List Nat)).flatten = [] := by induction n with | zero => rfl | succ n ih => simp [List.replicate_succ]
theorem sel_nils {n : Nat} : sel mu (List.replicate n ([] : List Nat)) = [] := by
  unfold sel
  induction mu with
  | nil => rfl
  | cons a l ih => rw [List.map_cons, rep_getD, List.flatten_cons, ih]; rfl
theorem start_slot {args : List PV} {ds : List D} {nl : Nat} (r : Rps S X args ds) : ∀ i, (∀ j, j < args.length → sh.getD j .val = .val) → SlotR S X (sh.getD i .val) ((args.map some ++ List.replicate nl none).getD i none) ((ds.map some ++ List.replicate nl none).getD i none) [] := fun i hs => by
  by_cases hi : i < args.length
  · have hi2 : i < ds.length := by rw [← r.length]; exact hi
    rw [hs i hi, List.getD_eq_getElem?_getD, List.getD_eq_getElem?_getD, List.getElem?_append_left (by simpa using hi), List.getElem?_append_left (by simpa using hi2), List.getElem?_map, List.getElem?_map]
    obtain ⟨v, h1, h2⟩ := r.get (List.getElem?_eq_getElem hi2)
    rw [h1, List.getElem?_eq_getElem hi2]
    exact .val h2
  · have hi2 : ¬ i < ds.length := by rw [← r.length]; exact hi
    have : (ds.map some ++ List.replicate nl none).getD i none = none := by
      rw [List.getD_eq_getElem?_getD, List.getElem?_append_right (by simpa using hi2), List.getElem?_replicate]; split <;> rfl
    rw [this]; exact .empty
theorem fq_fn {np nl : Nat} {body : MS} {bq : QT} (hb : LS sh mu fr body bq) (hs : ∀ j, j < np → sh.getD j .val = .val := by decide) : FQ np fr (mFn nl body) (qFn nl bq) := fun S X args ds hl hX r => by
  have hle : ds.length = args.length := r.length.symm
  have E : EnvR X sh (args.map some ++ List.replicate nl none) S (ds.map some ++ List.replicate nl none) (List.replicate (ds.length + nl) []) := by
    refine ⟨by simp [hle], by simp, fun i => ?_, by rw [nils_flat]; exact List.nodup_nil, hX, fun i _ x hx => by rw [rep_getD] at hx; cases hx⟩
    rw [nils_flat, List.append_nil, rep_getD]
    exact start_slot r i fun j hj => hs j (by rw [← hl]; exact hj)
  have h := hb X _ S _ _ E
  unfold mFn qFn
  have fr0 : ∀ {env' S' e' fps'}, StpS X sh mu (args.map some ++ List.replicate nl none) S (List.replicate (ds.length + nl) []) env' S' e' fps' → Fr [] S S' := fun st => st.fr.mono (by rw [sel_nils]; simp)
  cases hq : bq (ds.map some ++ List.replicate nl none) with
  | nx e1 => rw [hq] at h; obtain ⟨env1, S1, fps1, h1, st⟩ := h; rw [h1]; exact ⟨_, S1, rfl, fr0 st, .non, fun _ n e => nomatch e⟩
  | rt d e1 =>
    rw [hq] at h; obtain ⟨v, env1, S1, fps1, h1, st, r1, r2⟩ := h; rw [h1]
    refine ⟨v, S1, rfl, fr0 st, r1, fun hf n e => ?_⟩
    obtain ⟨a, o, bb, cc⟩ := r2 hf n e
    refine ⟨?_, o, bb, cc⟩
    rcases a with a | ⟨i, _, hx⟩
    · exact a
    · rcases st.pv i n hx with z | z
      · rw [rep_getD] at z; cases z
      · exact z
  | exc x e1 => rw [hq] at h; obtain ⟨x', env1, S1, fps1, h1, st, r1⟩ := h; rw [h1]; exact ⟨x', S1, rfl, fr0 st, r1⟩
  | bk e1 => trivial
  | ct e1 => trivial
  | fail => trivial
def lentD (e : DE) : Option D := match e.getD 0 none with | some b => if nlc b = true then some b else none | none => none
def qFnB (nl : Nat) (body : QT) : List D → FO := fun ds => match body (ds.map some ++ List.replicate nl none) with
  | .nx e => (match lentD e with | some b => .ret .non b | none => .fail)
  | .rt d e => (match lentD e with | some b => .ret d b | none => .fail)
  | .exc x e => (match lentD e with | some b => .exc x b | none => .fail)
  | _ => .fail
theorem fl_fn {np nl : Nat} {body : MS} {bq : QT} (hb : LS sh mu fr body bq) (hs0 : sh.getD 0 .val = .io := by rfl) (hs : ∀ j, j < np → j = 0 ∨ sh.getD j .val = .val := by decide) : FL np fr (mFn nl body) (qFnB nl bq) := fun S X n0 o0 d0 args ds hl hX hnX hS hc r => by
  have hle : ds.length = args.length := r.length.symm
  have ff : ([n0] :: List.replicate (ds.length + nl) ([] : List Nat)).flatten = [n0] := by rw [List.flatten_cons, nils_flat]; rfl
  have E : EnvR X sh ((PV.loc n0 :: args).map some ++ List.replicate nl none) S ((d0 :: ds).map some ++ List.replicate nl none) ([n0] :: List.replicate (ds.length + nl) []) := by
    refine ⟨by simp [hle], by simp, fun i => ?_, by rw [ff]; simp, hX, fun i hi x hx => ?_⟩
    · rw [ff]
      have sub : ∀ n ∈ X ++ [n0], n ∈ X ∨ S.length ≤ n := fun n hn => by
        rcases List.mem_append.mp hn with z | z
        · exact .inl z
        · rw [List.mem_singleton] at z; subst z; exact .inl hnX
      cases i with
      | zero => rw [hs0]; exact .root (by decide) hS (hc.sub sub)
      | succ i =>
        have e1 : ([n0] :: List.replicate (ds.length + nl) ([] : List Nat)).getD (i + 1) [] = [] := by show (List.replicate (ds.length + nl) ([] : List Nat)).getD i [] = []; exact rep_getD
        rw [e1]
        have h := start_slot (nl := nl) (sh := sh.tail) (r.sub sub) i fun j hj => by
          have := (hs (j + 1) (by rw [← hl]; omega)).resolve_left (by omega)
          cases sh with
          | nil => rfl
          | cons a l => exact this
        have e2 : sh.getD (i + 1) .val = sh.tail.getD i .val := by cases sh <;> rfl
        rw [e2]; exact h
    · cases i with
      | zero => exact absurd hs0 hi
      | succ i => have : x ∈ (List.replicate (ds.length + nl) ([] : List Nat)).getD i [] := hx; rw [rep_getD] at this; cases this
  have h := hb X _ S _ _ E
  unfold mFn qFnB
  have fr0 : ∀ {env' S' e' fps'}, StpS X sh mu ((PV.loc n0 :: args).map some ++ List.replicate nl none) S ([n0] :: List.replicate (ds.length + nl) []) env' S' e' fps' → Fr [n0] S S' := fun st => st.fr.mono fun n hn => by
    have := sel_in hn; rw [ff] at this; exact this
  have end_ : ∀ {env' S' e' fps' b}, StpS X sh mu ((PV.loc n0 :: args).map some ++ List.replicate nl none) S ([n0] :: List.replicate (ds.length + nl) []) env' S' e' fps' → lentD e' = some b → ∃ o', S'[n0]? = some o' ∧ (∃ X0, Cont S' X0 o' b) ∧ nlc b = true := fun {env' S' e' fps' b} st hb => by
    unfold lentD at hb
    split at hb
    · rename_i b' eb
      split at hb
      · cases hb
        rename_i hn
        have he := st.io 0 hs0
        have h := st.er.slot 0
        rw [eb, he, hs0] at h
        have e0 : ((PV.loc n0 :: args).map some ++ List.replicate nl none).getD 0 none = some (.loc n0) := rfl
        rw [e0] at h
        generalize fps'.getD 0 [] = f at h
        cases h with
        | root _ a c => exact ⟨_, a, ⟨_, c⟩, hn⟩
      · cases hb
    · cases hb
  cases hq : bq ((d0 :: ds).map some ++ List.replicate nl none) with
  | nx e1 =>
    rw [hq] at h; obtain ⟨env1, S1, fps1, h1, st⟩ := h; rw [h1]
    dsimp only
    cases hb' : lentD e1 with
    | none => trivial
    | some b => obtain ⟨o', z1, z2, z3⟩ := end_ st hb'; exact ⟨_, S1, o', rfl, fr0 st, z1, z2, z3, .non, fun _ n e => nomatch e⟩
  | rt d e1 =>
    rw [hq] at h; obtain ⟨v, env1, S1, fps1, h1, st, r1, r2⟩ := h; rw [h1]
    dsimp only
    cases hb' : lentD e1 with
    | none => trivial
    | some b =>
      obtain ⟨o', z1, z2, z3⟩ := end_ st hb'
      refine ⟨v, S1, o', rfl, fr0 st, z1, z2, z3, r1, fun hf n e => ?_⟩
      obtain ⟨a, o, bb, cc⟩ := r2 hf n e
      refine ⟨?_, o, bb, cc⟩
      rcases a with a | ⟨i, hi, hx⟩
      · exact a
      · rcases st.pv i n hx with z | z
        · cases i with
          | zero => exact absurd hs0 hi
          | succ i => have : n ∈ (List.replicate (ds.length + nl) ([] : List Nat)).getD i [] := z; rw [rep_getD] at this; cases this
        · exact z
  | exc x e1 =>
    rw [hq] at h; obtain ⟨x', env1, S1, fps1, h1, st, r1⟩ := h; rw [h1]
    dsimp only
    cases hb' : lentD e1 with
    | none => trivial
    | some b => obtain ⟨o', z1, z2, z3⟩ := end_ st hb'; exact ⟨x', S1, o', rfl, fr0 st, z1, z2, z3, r1⟩
  | bk e1 => trivial
  | ct e1 => trivial
  | fail => trivial
end
end MP

set_option maxRecDepth 100000
namespace MP
open PySem PySem.Spec PyProof.Rows L2
section
variable {Y Z X X' : List Nat} {sh : List Sh} {mu mu' mu2 : List Nat} {env env' env1 env2 : Env'} {S S' S1 S2 : Ms} {e e' e1 e2 : DE} {fps fps' fps1 fps2 : List (List Nat)} {m n c : ME} {p q r : QE} {t u : MB} {b b' : QB} {ml mk : ML} {ql qk : QL} {v : PV} {d : D} {k : Kd} {fr : Bool} {sm sn : MS} {sp sq : QT} {vs : List PV} {ds : List D} {sl sl' ws : List Nat}
/-! ### comprehensions that write lent things (draws) -/
def restE (e e0 : DE) : List Nat → DE
  | [] => e
  | v :: vs => (restE e e0 vs).set v (e0.getD v none)
def lcQ (g : QG) (t : QB) (m : QE) (ws : List Nat) : List D → DE → LO (List D)
  | [], e => .ret [] e
  | d :: ds, e => match g d (wipeD e ws) with
    | none => .fail
    | some e1 => (match t e1 with
      | .ret false e2 => lcQ g t m ws ds e2
      | .ret true e2 => (match m e2 with
        | .ret x e3 => (match lcQ g t m ws ds e3 with | .ret xs e4 => .ret (x :: xs) e4 | _ => .fail)
        | _ => .fail)
      | _ => .fail)
def qLc (qi : QI) (g : QG) (t : QB) (m : QE) (ws : List Nat) : QE := fun e => match qi e with
  | .ret ds e1 => if ds.length ≤ lim ∧ noLsts ds = true then (match lcQ g t m ws ds e1 with | .ret xs e2 => .ret (.lst xs) (restE e2 e1 ws) | _ => .fail) else .fail
  | .exc x e1 => .exc x e1
  | .fail => .fail
theorem EnvR.setl {l : Nat} {o : Ob} (E : EnvR Y sh env S e fps) (hl : l ∈ Y) (hf : l ∉ fps.flatten) : EnvR Y sh env (S.set l o) e fps :=
  ⟨E.l1, E.l2, fun i => (E.slot i).mono (mono_set (List.mem_append_left _ hl)) fun n hn => by rw [List.getElem?_set_ne]; rintro rfl; exact hf (fp_in hn), E.nd, fun y hy => by rw [List.length_set]; exact E.bd y hy, E.dj⟩
theorem newL_mono {S S1 S2 : Ms} (h : S1.length = S2.length) : newL S S1 = newL S S2 := by unfold newL; rw [h]
theorem lcQ_ok {src : Src} {g : MG} {gq : QG} {tt : MB} {tq : QB} {mm : ME} {mq : QE} {L : List Nat} {vs : List PV} {S0 S1 : Ms} {l : Nat} (hk : k = .new ∨ k = .val) (hg : LG sh g gq sl) (ht : LB sh mu tt tq) (hm : LE sh mu' k mm mq) (hsl : ∀ i ∈ sl, i ∈ ws) (hL : ∀ n ∈ L, n < S1.length) (hLm : ∀ n ∈ L, n ∉ sel (mu ++ mu') fps) (hl : l = S1.length) (h01 : S0.length ≤ S1.length) (hfl : ∀ n ∈ fps.flatten, n < S0.length) (hv : vs.length ≤ lim)
    (hn : ∀ S'' : Ms, (∀ n ∈ L, S''[n]? = S1[n]?) → ∀ i, nxt S'' i src = nxO vs[i]?) (hws : ∀ i ∈ ws, sh.getD i .val = .val) : ∀ (ds : List D) (xs : List D) (e' : DE) (f i : Nat) (S : Ms) (e : DE) (acc : List PV) (dacc : List D), ds.length < f → i + ds.length = vs.length → acc.length ≤ i → EnvR (Y ++ newL S0 S) sh (wipeE env ws) S (wipeD e ws) fps → Fr (sel (mu ++ mu') fps) S1 S → S[l]? = some (.lst acc) →
      Rps S ((Y ++ [l]) ++ fps.flatten) acc dacc → noLsts ds = true → Rps S [] (vs.drop i) ds → lcQ gq tq mq ws ds e = .ret xs e' → ∃ S' acc', lcM src g tt mm ws l env f i S = .ret (.loc l) S' ∧ Fr (sel (mu ++ mu') fps) S1 S' ∧ S'[l]? = some (.lst acc') ∧ Rps S' ((Y ++ [l]) ++ fps.flatten) acc' (dacc ++ xs) ∧ EnvR (Y ++ newL S0 S') sh (wipeE env ws) S' (wipeD e' ws) fps
  | ds, xs, e', 0, i, S, e, acc, dacc, hf, _, _, _, _, _, _, _, _, _ => absurd hf (by omega)
  | [], xs, e', f + 1, i, S, e, acc, dacc, hf, hi, ha, E, hF, hSl, hr, hnl, hd, hq => by
    cases hq
    unfold lcM
    rw [hn S (fun n hn => hF.2 n (hL n hn) (hLm n hn)) i, List.getElem?_eq_none (by rw [← hi]; exact Nat.le_refl _)]
    rw [List.append_nil]
    exact ⟨S, acc, rfl, hF, hSl, hr, E⟩
  | d :: ds, xs, e', f + 1, i, S, e, acc, dacc, hf, hi, ha, E, hF, hSl, hr, hnl, hd, hq => by
    have hil : i < vs.length := by rw [List.length_cons] at hi; omega
    simp only [noLsts, Bool.and_eq_true] at hnl
    rw [List.drop_eq_getElem_cons hil] at hd
    cases hd with
    | cons rv rt =>
      unfold lcM
      rw [hn S (fun n hn => hF.2 n (hL n hn) (hLm n hn)) i, List.getElem?_eq_getElem hil]
      dsimp only [nxO]
      unfold lcQ at hq
      have hlS : l < S.length := lt_of_get hSl
      have lf : l ∉ fps.flatten := fun z => by have := hfl l z; omega
      have inS : ∀ {S' : Ms}, S.length ≤ S'.length → l ∈ newL S0 S' := fun h => mem_newL.mpr ⟨by omega, by omega⟩
      cases hg1 : gq d (wipeD e ws) with
      | none => rw [hg1] at hq; cases hq
      | some e1 =>
        rw [hg1] at hq
        dsimp only at hq
        obtain ⟨env1, a1, a2, a3, _⟩ := hg _ _ S _ fps _ d e1 E (rv.nl hnl.1) hg1
        rw [a1]
        dsimp only
        have ew : wipeE env1 ws = wipeE env ws := by
          rw [a3 ws hsl]
          have dd : ∀ (ws zs : List Nat), (∀ i ∈ zs, i ∈ ws) → wipeE (wipeE env ws) zs = wipeE env ws := by
            intro ws zs
            induction zs with
            | nil => intro _; rfl
            | cons z zs ih =>
              intro h
              show (wipeE (wipeE env ws) zs).set z none = wipeE env ws
              rw [ih fun i hi => h i (List.mem_cons_of_mem _ hi)]
              have : (wipeE env ws).set z none = wipeE env ws := by
                have hz := h z (by simp)
                clear ih h
                induction ws with
                | nil => cases hz
                | cons w ws ih =>
                  show ((wipeE env ws).set w none).set z none = (wipeE env ws).set w none
                  by_cases e : z = w
                  · subst e; rw [List.set_set]
                  · have hz' : z ∈ ws := (List.mem_cons.mp hz).resolve_left e
                    rw [List.set_comm _ _ (by omega), ih hz']
              exact this
          exact dd ws ws fun _ h => h
        have more : ∀ {Sx : Ms}, S.length ≤ Sx.length → ∀ y ∈ Y ++ newL S0 Sx, y ∈ (Y ++ newL S0 S) ++ newL S Sx := fun hx y hy => by
          rcases List.mem_append.mp hy with z | z
          · exact List.mem_append_left _ (List.mem_append_left _ z)
          · have := mem_newL.mp z
            by_cases q : y < S.length
            · exact List.mem_append_left _ (List.mem_append_right _ (mem_newL.mpr ⟨this.1, q⟩))
            · exact List.mem_append_right _ (mem_newL.mpr ⟨by omega, this.2⟩)
        have h := ht _ env1 S e1 fps a2
        cases ht1 : tq e1 with
        | fail => rw [ht1] at hq; cases hq
        | exc x e2 => rw [ht1] at hq; cases hq
        | ret bb e2 =>
          rw [ht1] at h hq
          obtain ⟨v2, S2, h1, st, r⟩ := h
          have r : v2 = bb := r
          subst r
          rw [h1]
          have F2 : Fr (sel (mu ++ mu') fps) S S2 := st.fr.mono fun n hn => sel_app.mpr (.inl hn)
          have lsel : ∀ {mm : List Nat}, l ∉ sel mm fps := fun z => lf (sel_in z)
          have keep : ∀ {S3 : Ms} {vs : List PV} {ds : List D}, Fr (sel (mu ++ mu') fps) S S3 → Rps S ((Y ++ [l]) ++ fps.flatten) vs ds → Rps S3 ((Y ++ [l]) ++ fps.flatten) vs ds := fun f h => h.fr f (fun n hn => .inl (List.mem_append_right _ (sel_in hn))) fun n hn => .inl hn
          cases v2 with
          | false =>
            dsimp only at hq ⊢
            have E2 : EnvR (Y ++ newL S0 S2) sh (wipeE env ws) S2 (wipeD e2 ws) fps := by rw [← ew]; exact (st.er.sub (more st.fr.1)).wipe hws
            exact lcQ_ok hk hg ht hm hsl hL hLm hl h01 hfl hv hn hws ds xs e' f (i + 1) S2 e2 acc dacc (by rw [List.length_cons] at hf; omega) (by rw [List.length_cons] at hi; omega) (by omega) E2 (hF.trans F2) (by rw [st.fr.2 l hlS lsel]; exact hSl) (keep F2 hr) hnl.2 (rt.nl hnl.2 |>.mono (X := fps.flatten) fun n hn hl => ⟨by simp, F2.2 n hl fun z => hn (sel_in z)⟩) hq
          | true =>
            dsimp only at hq ⊢
            have h := hm _ env1 S2 e2 fps st.er
            cases hm1 : mq e2 with
            | fail => rw [hm1] at hq; cases hq
            | exc x e3 => rw [hm1] at hq; cases hq
            | ret y e3 =>
              rw [hm1] at h hq
              obtain ⟨yv, S3, h1, st3, r3⟩ := h
              rw [h1]
              dsimp only at hq ⊢
              cases hr4 : lcQ gq tq mq ws ds e3 with
              | fail => rw [hr4] at hq; cases hq
              | exc x e4 => rw [hr4] at hq; cases hq
              | ret xs' e4 =>
                rw [hr4] at hq
                cases hq
                have tt3 := st.trans st3
                have F3 : Fr (sel (mu ++ mu') fps) S S3 := tt3.fr
                have hl3 : S3[l]? = some (.lst acc) := by rw [F3.2 l hlS lsel]; exact hSl
                rw [hl3]
                dsimp only
                rw [if_pos (by omega)]
                have inX : l ∈ (Y ++ [l]) ++ fps.flatten := List.mem_append_left _ (List.mem_append_right _ (by simp))
                have ry : Rp S3 ((Y ++ [l]) ++ fps.flatten) yv y := (r3.up hk).sub fun n hn => .inl (by
                  rcases List.mem_append.mp hn with z | z
                  · rcases List.mem_append.mp z with z | z
                    · exact List.mem_append_left _ (List.mem_append_left _ (List.mem_append_left _ z))
                    · rw [List.mem_singleton] at z; subst z; exact List.mem_append_left _ (List.mem_append_left _ (List.mem_append_right _ (inS (Nat.le_refl _))))
                  · exact List.mem_append_right _ z)
                have up : ∀ {vs : List PV} {ds : List D}, Rps S3 ((Y ++ [l]) ++ fps.flatten) vs ds → Rps (S3.set l (.lst (acc ++ [yv]))) ((Y ++ [l]) ++ fps.flatten) vs ds := fun h => h.mono (mono_set inX)
                have E3 : EnvR (Y ++ newL S0 S3) sh (wipeE env ws) S3 (wipeD e3 ws) fps := by rw [← ew]; exact (tt3.er.sub (more tt3.fr.1)).wipe hws
                have E4 : EnvR (Y ++ newL S0 (S3.set l (.lst (acc ++ [yv])))) sh (wipeE env ws) (S3.set l (.lst (acc ++ [yv]))) (wipeD e3 ws) fps := by
                  rw [newL_mono (S2 := S3) (List.length_set ..)]
                  exact E3.setl (List.mem_append_right _ (inS F3.1)) lf
                have F4 : Fr (sel (mu ++ mu') fps) S1 (S3.set l (.lst (acc ++ [yv]))) := by
                  have := hF.trans F3
                  exact ⟨by rw [List.length_set]; exact this.1, fun n hn hs => by rw [List.getElem?_set_ne (by omega)]; exact this.2 n hn hs⟩
                obtain ⟨S', acc', q1, q2, q3, q4, q5⟩ := lcQ_ok hk hg ht hm hsl hL hLm hl h01 hfl hv hn hws ds xs' e' f (i + 1) (S3.set l (.lst (acc ++ [yv]))) e3 (acc ++ [yv]) (dacc ++ [y]) (by rw [List.length_cons] at hf; omega) (by rw [List.length_cons] at hi; omega) (by rw [List.length_append]; simp; omega) E4 F4 (List.getElem?_set_self (lt_of_get hl3)) (up ((keep F3 hr).snoc ry)) hnl.2 (rt.nl (X' := (Y ++ [l]) ++ fps.flatten) hnl.2 |> keep F3 |> up |>.nl hnl.2) hr4
                exact ⟨S', acc', q1, q2, q3, by rw [List.append_assoc dacc] at q4; exact q4, q5⟩
theorem wipeE_out {i : Nat} : ∀ {ws : List Nat}, i ∉ ws → (wipeE env ws).getD i none = env.getD i none
  | [], _ => rfl
  | w :: ws, h => by
    show ((wipeE env ws).set w none).getD i none = _
    rw [getD_set_ne (fun z => h (by simp [z])), wipeE_out fun z => h (List.mem_cons_of_mem _ z)]
theorem wipeD_out {i : Nat} : ∀ {ws : List Nat}, i ∉ ws → (wipeD e ws).getD i none = e.getD i none
  | [], _ => rfl
  | w :: ws, h => by
    show ((wipeD e ws).set w none).getD i none = _
    rw [getD_set_ne (fun z => h (by simp [z])), wipeD_out fun z => h (List.mem_cons_of_mem _ z)]
theorem restE_out {e0 : DE} {i : Nat} : ∀ {ws : List Nat}, i ∉ ws → (restE e e0 ws).getD i none = e.getD i none
  | [], _ => rfl
  | w :: ws, h => by
    show ((restE e e0 ws).set w _).getD i none = _
    rw [getD_set_ne (fun z => h (by simp [z])), restE_out fun z => h (List.mem_cons_of_mem _ z)]
theorem len_wipeD : ∀ {ws : List Nat}, (wipeD e ws).length = e.length
  | [] => rfl
  | w :: ws => by show ((wipeD e ws).set w none).length = _; rw [List.length_set, len_wipeD]
theorem len_wipeE : ∀ {ws : List Nat}, (wipeE env ws).length = env.length
  | [] => rfl
  | w :: ws => by show ((wipeE env ws).set w none).length = _; rw [List.length_set, len_wipeE]
theorem len_restE {e0 : DE} : ∀ {ws : List Nat}, (restE e e0 ws).length = e.length
  | [] => rfl
  | w :: ws => by show ((restE e e0 ws).set w _).length = _; rw [List.length_set, len_restE]
theorem restE_in {e0 : DE} {i : Nat} : ∀ {ws : List Nat}, i ∈ ws → i < e.length → (restE e e0 ws).getD i none = e0.getD i none
  | w :: ws, h, hl => by
    show ((restE e e0 ws).set w (e0.getD w none)).getD i none = _
    by_cases z : w = i
    · subst z; rw [getD_set_eq (by rw [len_restE]; exact hl)]
    · rw [getD_set_ne z]; exact restE_in ((List.mem_cons.mp h).resolve_left (Ne.symm z)) hl
theorem le_lc {ls : List Nat} {mi : MI} {qi : QI} {g : MG} {gq : QG} {tt : MB} {tq : QB} {mm : ME} {mq : QE} (hi : LI sh mu ls mi qi) (hg : LG sh g gq sl) (ht : LB sh mu' tt tq) (hm : LE sh mu2 k mm mq) (hk : k = .new ∨ k = .val := by first | exact Or.inl rfl | exact Or.inr rfl) (hws : ∀ i ∈ ws, sh.getD i .val = .val := by decide) (hsl : ∀ i ∈ sl, i ∈ ws := by decide) (hls : ∀ i ∈ ls, i ∉ mu' ++ mu2 := by decide) :
    LE sh (mu ++ (mu' ++ mu2)) .new (mLc mi g tt mm ws) (qLc qi gq tq mq ws) := fun Y env S e fps E => by
  have h := hi Y env S e fps E
  unfold mLc qLc
  cases hq : qi e with
  | fail => trivial
  | exc x e1 => rw [hq] at h; obtain ⟨x', S1, h1, st, r⟩ := h; rw [h1]; exact ⟨x', S1, rfl, st.mono fun i hi => List.mem_append_left _ hi, r⟩
  | ret ds e1 =>
    rw [hq] at h; obtain ⟨src, S1, h1, st, L, vs, k1, k2, k3, k4⟩ := h; rw [h1]
    dsimp only
    by_cases hl : ds.length ≤ lim ∧ noLsts ds = true
    · rw [if_pos hl]
      cases hx : lcQ gq tq mq ws ds e1 with
      | fail => trivial
      | exc x e2 => trivial
      | ret xs e2 =>
        have f0 : Fr [] S1 (S1 ++ [Ob.lst []]) := .app _ _ _
        have E1 : EnvR (Y ++ newL S (S1 ++ [Ob.lst []])) sh env (S1 ++ [Ob.lst []]) e1 fps := (st.er.quiet f0).sub fun y hy => by
          rcases List.mem_append.mp hy with z | z
          · exact List.mem_append_left _ (List.mem_append_left _ z)
          · have := mem_newL.mp z
            by_cases q : y < S1.length
            · exact List.mem_append_left _ (List.mem_append_right _ (mem_newL.mpr ⟨this.1, q⟩))
            · exact List.mem_append_right _ (mem_newL.mpr ⟨by omega, this.2⟩)
        have hLm : ∀ n ∈ L, n ∉ sel (mu' ++ mu2) fps := fun n hn z => by
          obtain ⟨j, hj, hx⟩ := mem_sel.mp z
          rcases k1 n hn with y | ⟨i, hi, y⟩
          · exact y (List.mem_append_right _ (fp_in hx))
          · have := fp_disj E.nd y hx
            subst this; exact hls i hi hj
        obtain ⟨S', acc', q1, q2, q3, q4, q5⟩ := lcQ_ok (Y := Y) (env := env) (S0 := S) (S1 := S1) (l := S1.length) (L := L) hk hg ht hm hsl k2 hLm rfl st.fr.1 E.flt (by rw [k4.length]; exact hl.1) k3 hws ds xs e2 fuel 0 (S1 ++ [.lst []]) e1 [] [] (Nat.lt_of_le_of_lt hl.1 (by decide)) (by rw [Nat.zero_add]; exact k4.length.symm) (Nat.le_refl _) (E1.wipe hws) (f0.mono (by simp)) (get_new _ _) .nil hl.2
          (by rw [List.drop_zero]; exact (k4.fr (X' := Y ++ fps.flatten) f0 (fun _ h => nomatch h) fun n hn => .inl hn).nl hl.2) hx
        rw [q1]
        rw [List.nil_append] at q4
        have cc : ∀ X', (∀ n ∈ X', n ∈ (Y ++ [S1.length]) ++ fps.flatten) → Cont S' X' (.lst acc') (.lst xs) := fun X' h => .lst (q4.sub fun n hn => .inl (h n hn))
        have f1 : Fr (sel (mu ++ (mu' ++ mu2)) fps) S S' := (st.fr.mono fun n hn => sel_app.mpr (.inl hn)).trans (q2.mono fun n hn => sel_app.mpr (.inr hn))
        have len : e2.length = e1.length := by have a := q5.l1; have b := st.er.l1; rw [len_wipeE, len_wipeD] at a; omega
        have Ef : EnvR (Y ++ newL S S') sh env S' (restE e2 e1 ws) fps := by
          refine ⟨by rw [len_restE, len]; exact st.er.l1, by rw [len_restE, len]; exact st.er.l2, fun i => ?_, E.nd, q5.bd, q5.dj⟩
          by_cases hiw : i ∈ ws
          · by_cases hil : i < e2.length
            · rw [restE_in hiw hil]
              have h := st.er.slot i
              rw [hws i hiw] at h ⊢
              have hfp : fps.getD i [] = [] := h.nil_val
              refine h.mono (fun n hn hnl => ⟨fun z => hn ?_, q2.2 n hnl fun z => hn (List.mem_append_right _ (sel_in z))⟩) fun n hn => by rw [hfp] at hn; cases hn
              rcases List.mem_append.mp z with z | z
              · rcases List.mem_append.mp z with z | z
                · exact List.mem_append_left _ (List.mem_append_left _ z)
                · exact List.mem_append_left _ (List.mem_append_right _ (mem_newL.mpr ⟨(mem_newL.mp z).1, hnl⟩))
              · exact List.mem_append_right _ z
            · have : (restE e2 e1 ws).getD i none = none := by rw [List.getD_eq_getElem?_getD, List.getElem?_eq_none (by rw [len_restE]; omega)]; rfl
              have hfp : fps.getD i [] = [] := by have h := st.er.slot i; rw [hws i hiw] at h; exact h.nil_val
              rw [this, hfp]; exact .empty
          · rw [restE_out hiw]
            have h := q5.slot i
            rw [wipeE_out hiw, wipeD_out hiw] at h
            exact h
        refine ⟨.loc S1.length, S', rfl, ⟨f1, Ef⟩, .loc (fun z => by have := E.xlt _ z; have := st.fr.1; omega) q3 (cc _ fun n hn => ?_), fun n en => ?_⟩
        · rcases List.mem_append.mp hn with z | z
          · exact List.mem_append_left _ (List.mem_append_left _ z)
          · exact List.mem_append_right _ z
        · cases en
          refine ⟨st.fr.1, _, q3, cc _ fun n hn => ?_⟩
          rcases List.mem_cons.mp hn with z | z
          · exact List.mem_append_left _ (List.mem_append_right _ (by simp [z]))
          · rcases List.mem_append.mp z with z | z
            · exact List.mem_append_left _ (List.mem_append_left _ z)
            · exact List.mem_append_right _ z
    · rw [if_neg hl]; trivial
end
end MP

set_option maxRecDepth 100000
namespace MP
open PySem PySem.Spec PyProof.Rows L2
def tsD : List D → Option (List (List Int))
  | [] => some []
  | .tup xs :: r => match intsD xs, tsD r with | some k, some ks => some (k :: ks) | _, _ => none
  | _ => none
abbrev tupD (k : List Int) : D := .tup (k.map D.int)
def sortSet (xs : List D) : Option (List D) := match intsD xs with
  | some ns => if ns.length < 60 then some ((sortI (dd ns)).map D.int) else none
  | none => (match tsD xs with
    | some ks => if ks.length < 60 ∧ ∀ k ∈ ks, k ≠ [] then some ((sortL (dd ks)).map tupD) else none
    | none => none)
section
variable {Y X X' : List Nat} {sh : List Sh} {mu mu' mu2 : List Nat} {env env' env1 env2 : Env'} {S S' S1 S2 : Ms} {e e' e1 e2 : DE} {fps fps' : List (List Nat)} {m n c : ME} {v : PV} {d : D} {k : Kd} {vs : List PV} {ds : List D} {sl sl' ws : List Nat}
theorem Rps.tups (ks : List (List Int)) : Rps S X (ks.map tupP) (ks.map tupD) := .flat (fun k => .tup (.ints k)) ks
/-- sorted({e for x in it if ..}) -/
def qSSc (qi : QI) (g : QG) (t : QB) (m : QE) (ws : List Nat) : QE := fun e => match qi e with
  | .ret ds e1 => if ds.length ≤ lim then (match (lcQ0 g t m (wipeD e1 ws) ds).bind sortSet with | some xs => .ret (.lst xs) e1 | none => .fail) else .fail
  | .exc x e1 => .exc x e1
  | .fail => .fail
end
end MP

set_option maxRecDepth 100000
namespace MP
open PySem PySem.Spec PyProof.Rows L2
/-! ### what a pure run ends in -/
def Wo0 {α : Type} (o : Option α) (Q : α → Prop) : Prop := match o with | some a => Q a | none => False
def Wq0 {α : Type} (o : LO α) (Q : α → DE → Prop) : Prop := match o with | .ret a e => Q a e | _ => False
def Wf0 (o : FO) (Q : D → D → Prop) : Prop := match o with | .ret d b => Q d b | _ => False
structure Qe where
  nx : DE → Prop
  rt : D → DE → Prop
  bk : DE → Prop := fun _ => False
  ct : DE → Prop := fun _ => False
def Ws0 (o : QS) (Q : Qe) : Prop := match o with | .nx e => Q.nx e | .rt d e => Q.rt d e | .bk e => Q.bk e | .ct e => Q.ct e | _ => False
theorem Wo0.mono {α : Type} {o : Option α} {Q Q' : α → Prop} (h : Wo0 o Q) (k : ∀ a, Q a → Q' a) : Wo0 o Q' := by cases o with | none => exact h | some a => exact k a h
theorem Wq0.mono {α : Type} {o : LO α} {Q Q' : α → DE → Prop} (h : Wq0 o Q) (k : ∀ a e, Q a e → Q' a e) : Wq0 o Q' := by cases o with | ret a e => exact k a e h | exc _ _ => exact h | fail => exact h
theorem Wf0.mono {o : FO} {Q Q' : D → D → Prop} (h : Wf0 o Q) (k : ∀ a b, Q a b → Q' a b) : Wf0 o Q' := by cases o with | ret a e => exact k a e h | exc _ _ => exact h | fail => exact h
theorem Ws0.mono {o : QS} {Q Q' : Qe} (h : Ws0 o Q) (k1 : ∀ e, Q.nx e → Q'.nx e) (k2 : ∀ d e, Q.rt d e → Q'.rt d e) (k3 : ∀ e, Q.bk e → Q'.bk e) (k4 : ∀ e, Q.ct e → Q'.ct e) : Ws0 o Q' := by
  cases o with
  | nx e => exact k1 e h
  | rt d e => exact k2 d e h
  | bk e => exact k3 e h
  | ct e => exact k4 e h
  | exc _ _ => exact h
  | fail => exact h
theorem wo_some_z {α : Type} {a : α} {Q : α → Prop} : Wo0 (some a) Q = Q a := id rfl
theorem Wo0.of {α : Type} {o : Option α} {a : α} {Q : α → Prop} (h : o = some a) (q : Q a) : Wo0 o Q := by rw [h]; exact q
theorem Wf0.of {o : FO} {d b : D} {Q : D → D → Prop} (h : o = .ret d b) (q : Q d b) : Wf0 o Q := by rw [h]; exact q
theorem wq_ret_z {α : Type} {a : α} {e : DE} {Q : α → DE → Prop} : Wq0 (.ret a e) Q = Q a e := id rfl
theorem wq_bind_z {α β : Type} {o : LO α} {f : α → DE → LO β} {Q : β → DE → Prop} : Wq0 (o.bind f) Q = Wq0 o fun a e => Wq0 (f a e) Q := by cases o <;> rfl
theorem wq_opt_z {α : Type} {o : Option α} {e : DE} {Q : α → DE → Prop} : Wq0 (opt o e) Q = Wo0 o fun a => Q a e := by cases o <;> rfl
theorem wq_fail_z {α : Type} {Q : α → DE → Prop} : Wq0 (.fail : LO α) Q = False := id rfl
theorem gd0 {x : Option D} {e : DE} : List.getD (x :: e) 0 none = x := id rfl
theorem gdS {x : Option D} {e : DE} {i : Nat} : List.getD (x :: e) (i + 1) none = List.getD e i none := id rfl
theorem ls0 {x y : Option D} {e : DE} : List.set (x :: e) 0 y = y :: e := id rfl
theorem lsS {x y : Option D} {e : DE} {i : Nat} : List.set (x :: e) (i + 1) y = x :: List.set e i y := id rfl
section
variable {e : DE} {i : Nat} {a b c : QE} {t u : QB} {l lk : QL} {p q : QT} {Q : D → DE → Prop} {QB' : Bool → DE → Prop} {QL' : List D → DE → Prop} {T : Qe}
theorem w_var_z : Wq0 (qVar i e) Q = Wo0 (e.getD i none) fun d => Q d e := by unfold qVar; cases e.getD i none <;> rfl
theorem w_C_z {d : D} : Wq0 (qC d e) Q = Q d e := id rfl
theorem w_1_z {g : D → Option D} : Wq0 (q1 a g e) Q = Wq0 (a e) fun x e1 => Wo0 (g x) fun y => Q y e1 := by unfold q1; simp only [wq_bind_z, wq_opt_z]
theorem w_2_z {g : D → D → Option D} : Wq0 (q2 a b g e) Q = Wq0 (a e) fun x e1 => Wq0 (b e1) fun y e2 => Wo0 (g x y) fun z => Q z e2 := by unfold q2; simp only [wq_bind_z, wq_opt_z]
theorem w_nil_z : Wq0 (qNil e) QL' = QL' [] e := id rfl
theorem w_cons_z : Wq0 (qCons a l e) QL' = Wq0 (a e) fun x e1 => Wq0 (l e1) fun xs e2 => QL' (x :: xs) e2 := by unfold qCons; simp only [wq_bind_z, wq_ret_z]
theorem w_L_z {g : List D → Option D} : Wq0 (qL l g e) Q = Wq0 (l e) fun xs e1 => Wo0 (g xs) fun z => Q z e1 := by unfold qL; simp only [wq_bind_z, wq_opt_z]
def asBl : D → Option Bool | .bl b => some b | _ => none
theorem asBl_bl {b : Bool} : asBl (.bl b) = some b := id rfl
theorem w_B_z : Wq0 (qB a e) QB' = Wq0 (a e) fun x e1 => Wo0 (asBl x) fun b => QB' b e1 := by
  unfold qB; simp only [wq_bind_z]; congr 1; funext x e1; cases x <;> rfl
theorem w_T_z : Wq0 (qT a e) QB' = Wq0 (a e) fun x e1 => Wo0 (truthD x) fun b => QB' b e1 := by unfold qT; simp only [wq_bind_z, wq_opt_z]
theorem w_yes_z : Wq0 (qYes e) QB' = QB' true e := id rfl
theorem w_bAnd_z : Wq0 (qbAnd t u e) QB' = Wq0 (t e) fun b e1 => if b = true then Wq0 (u e1) QB' else QB' false e1 := by
  unfold qbAnd; simp only [wq_bind_z]; congr 1; funext x e1; cases x <;> rfl
theorem w_bOr_z : Wq0 (qbOr t u e) QB' = Wq0 (t e) fun b e1 => if b = true then QB' true e1 else Wq0 (u e1) QB' := by
  unfold qbOr; simp only [wq_bind_z]; congr 1; funext x e1; cases x <;> rfl
theorem w_bNot_z : Wq0 (qbNot t e) QB' = Wq0 (t e) fun b e1 => QB' (!b) e1 := by unfold qbNot; simp only [wq_bind_z, wq_ret_z]
theorem w_And_z : Wq0 (qAnd a b e) Q = Wq0 (a e) fun x e1 => Wo0 (asBl x) fun y => if y = true then Wq0 (b e1) Q else Q (.bl false) e1 := by
  unfold qAnd; simp only [wq_bind_z]; congr 1; funext x e1
  cases x with
  | bl y => cases y <;> rfl
  | _ => rfl
theorem w_Or_z : Wq0 (qOr a b e) Q = Wq0 (a e) fun x e1 => Wo0 (asBl x) fun y => if y = true then Q (.bl true) e1 else Wq0 (b e1) Q := by
  unfold qOr; simp only [wq_bind_z]; congr 1; funext x e1
  cases x with
  | bl y => cases y <;> rfl
  | _ => rfl
theorem w_Not_z : Wq0 (qNot a e) Q = Wq0 (a e) fun x e1 => Wo0 (asBl x) fun y => Q (.bl (!y)) e1 := by
  unfold qNot; simp only [wq_bind_z]; congr 1; funext x e1; cases x <;> rfl
theorem w_If_z : Wq0 (qIf t a b e) Q = Wq0 (t e) fun x e1 => if x = true then Wq0 (a e1) Q else Wq0 (b e1) Q := by
  unfold qIf; simp only [wq_bind_z]; congr 1; funext x e1; cases x <;> rfl
theorem w_chain_z {f g : D → D → Option D} : Wq0 (qChain a b c f g e) Q = Wq0 (a e) fun x e1 => Wq0 (b e1) fun y e2 => Wo0 (f x y) fun z => Wo0 (asBl z) fun w => if w = true then Wq0 (c e2) fun v e3 => Wo0 (g y v) fun r => Q r e3 else Q (.bl false) e2 := by
  unfold qChain; simp only [wq_bind_z, wq_opt_z]; congr 1; funext x e1; congr 1; funext y e2; congr 1; funext z
  cases z with
  | bl w => cases w with
    | true => simp only [wq_bind_z, wq_opt_z]; rfl
    | false => rfl
  | _ => rfl
theorem w_only_z : Wq0 (qOnly a e) Q = Wq0 (a e) fun x e1 => ∃ i, x = .int i ∧ Q (.int i) e1 := by
  unfold qOnly; simp only [wq_bind_z]; congr 1; funext x e1; cases x <;> simp [Wq0]
theorem w_cut_z {l u : QE} : Wq0 (qCut a l u e) Q = Wq0 (a e) fun x e1 => Wq0 (l e1) fun y e2 => Wo0 (partD y) fun lo => Wq0 (u e2) fun z e3 => Wo0 (partD z) fun hi => Wo0 (gCut x lo hi) fun r => Q r e3 := by
  unfold qCut; simp only [wq_bind_z]; congr 1; funext x e1; congr 1; funext y e2
  cases partD y with
  | none => rfl
  | some lo => simp only [wq_bind_z, wo_some_z]; congr 1; funext z e3; cases partD z with
    | none => rfl
    | some hi => simp only [wq_opt_z, wo_some_z]
theorem w_meth_z {g : D → List D → Option D} : Wq0 (qMeth a l g e) Q = Wq0 (a e) fun x e1 => (lstD x).isSome = true ∧ Wq0 (l e1) fun xs e2 => Wo0 (g x xs) fun z => Q z e2 := by
  unfold qMeth; simp only [wq_bind_z]; congr 1; funext x e1
  split
  · rename_i h; simp only [wq_bind_z, wq_opt_z, h, true_and]
  · rename_i h; simp [wq_fail_z, h]
theorem w_newK_z : Wq0 (qNewK e) Q = Q (.dK []) e := id rfl
theorem w_newT_z : Wq0 (qNewT e) Q = Q (.dT []) e := id rfl
theorem w_call_z {np : Nat} {chk fr : Bool} {G : List D → FO} : Wq0 (qCall np chk fr l G e) Q = Wq0 (l e) fun ds e1 => ds.length = np ∧ Wf0 (G ds) fun d _ => okD chk fr d = true ∧ Q d e1 := by
  unfold qCall; simp only [wq_bind_z]; congr 1; funext x e1
  split
  · rename_i h
    simp only [h, true_and]
    cases G x with
    | ret d b => simp only [qRes, Wf0]; split <;> simp_all [Wq0]
    | exc y b => simp only [qRes, Wf0]; split <;> rfl
    | fail => rfl
  · rename_i h; simp [wq_fail_z, h]
theorem w_callB_z {np : Nat} {chk fr : Bool} {G : List D → FO} : Wq0 (qCallB np chk fr i l G e) Q = Wo0 (e.getD i none) fun _ => Wq0 (l e) fun ds e1 => Wo0 (e1.getD i none) fun b => objD b = true ∧ ds.length + 1 = np ∧ Wf0 (G (b :: ds)) fun d b' => okD chk fr d = true ∧ Q d (e1.set i (some b')) := by
  unfold qCallB
  cases e.getD i none with
  | none => rfl
  | some d0 =>
    simp only [wq_bind_z, wo_some_z]; congr 1; funext x e1
    cases e1.getD i none with
    | none => rfl
    | some b =>
      simp only [wo_some_z]
      split
      · rename_i h
        simp only [h.1, h.2, true_and]
        cases G (b :: x) with
        | ret d b => simp only [qRes, Wf0]; split <;> simp_all [Wq0]
        | exc y b => simp only [qRes, Wf0]; split <;> rfl
        | fail => rfl
      · rename_i h
        simp only [wq_fail_z]
        exact propext ⟨False.elim, fun z => h ⟨z.1, z.2.1⟩⟩
theorem w_callK_z {nn kk : Nat} {is : List Nat} {chk fr : Bool} {G : List D → FO} : Wq0 (qCallK nn kk is chk fr l lk G e) Q = Wq0 (l e) fun ds e1 => Wq0 (lk e1) fun zs e2 => ds.length = nn ∧ zs.length = kk ∧ Wf0 (G (gOf .non is ds zs)) fun d _ => okD chk fr d = true ∧ Q d e2 := by
  unfold qCallK; simp only [wq_bind_z]; congr 1; funext x e1; congr 1; funext z e2
  split
  · rename_i h
    simp only [h.1, h.2, true_and]
    cases G (gOf .non is x z) with
    | ret d b => simp only [qRes, Wf0]; split <;> simp_all [Wq0]
    | exc y b => simp only [qRes, Wf0]; split <;> rfl
    | fail => rfl
  · rename_i h
    simp only [wq_fail_z]
    exact propext ⟨False.elim, fun z => h ⟨z.1, z.2.1⟩⟩
def isLs : D → Bool | .lst _ => true | _ => false
theorem w_w_z {g : D → List D → Option (D × D)} : Wq0 (qW i l g e) Q = Wo0 (e.getD i none) fun d0 => isLs d0 = true ∧ Wq0 (l e) fun ds e1 => Wo0 (e1.getD i none) fun d => Wo0 (g d ds) fun r => noLsts ds = true ∧ Q r.1 (e1.set i (some r.2)) := by
  unfold qW
  cases e.getD i none with
  | none => rfl
  | some d0 =>
    cases d0 with
    | lst xs =>
      simp only [wq_bind_z, wo_some_z, isLs, true_and]; congr 1; funext x e1
      cases e1.getD i none with
      | none => rfl
      | some d =>
        simp only [wo_some_z]
        cases g d x with
        | none => rfl
        | some r => obtain ⟨y, d'⟩ := r; simp only [wo_some_z]; split <;> simp_all [Wq0]
    | _ => simp [Wq0, Wo0, isLs]
/-! statements -/
theorem t_next_z : Ws0 (qNext e) T = T.nx e := id rfl
theorem t_break_z : Ws0 (qBreak e) T = T.bk e := id rfl
theorem t_cont_z : Ws0 (qCont e) T = T.ct e := id rfl
theorem t_seq_z : Ws0 (qSeq p q e) T = Ws0 (p e) { T with nx := fun e1 => Ws0 (q e1) T } := by unfold qSeq; cases p e <;> rfl
theorem t_of_z {f : D → DE → QS} : Ws0 (qOf a f e) T = Wq0 (a e) fun d e1 => Ws0 (f d e1) T := by unfold qOf; cases a e <;> rfl
theorem ws_nx_z : Ws0 (.nx e) T = T.nx e := id rfl
theorem ws_rt_z {d : D} : Ws0 (.rt d e) T = T.rt d e := id rfl
theorem t_ret_z : Ws0 (qRet a e) T = Wq0 (a e) T.rt := by
  show Ws0 (qOf a (fun d e => .rt d e) e) T = _; rw [t_of_z]; rfl
theorem t_retN_z : Ws0 (qRetN e) T = T.rt .non e := id rfl
theorem t_set_z : Ws0 (qSet i a e) T = Wq0 (a e) fun d e1 => T.nx (e1.set i (some d)) := by
  show Ws0 (qOf a (fun d e => .nx (e.set i (some d))) e) T = _; rw [t_of_z]; rfl
theorem t_if_z : Ws0 (qIfS t p q e) T = Wq0 (t e) fun b e1 => if b = true then Ws0 (p e1) T else Ws0 (q e1) T := by
  unfold qIfS
  cases t e with
  | ret b e1 => cases b <;> rfl
  | exc _ _ => rfl
  | fail => rfl
theorem t_WS_z {g : D → List D → Option (D × D)} : Ws0 (qWS i l g e) T = Wo0 (e.getD i none) fun d0 => isLs d0 = true ∧ Wq0 (l e) fun ds e1 => Wo0 (e1.getD i none) fun d => Wo0 (g d ds) fun r => T.nx (e1.set i (some r.2)) := by
  unfold qWS
  cases e.getD i none with
  | none => rfl
  | some d0 =>
    cases d0 with
    | lst xs =>
      simp only [wo_some_z, isLs, true_and]
      cases l e with
      | ret ds e1 =>
        simp only [wq_ret_z]
        cases e1.getD i none with
        | none => rfl
        | some d =>
          simp only [wo_some_z]
          cases g d ds with
          | none => rfl
          | some r => obtain ⟨y, d'⟩ := r; rfl
      | exc _ _ => rfl
      | fail => rfl
    | _ => simp [Ws0, Wo0, isLs]
theorem t_put_z : Ws0 (qPut i a b e) T = Wq0 (b e) fun v e1 => Wo0 (e1.getD i none) fun _ => Wq0 (a e1) fun k e2 => Wo0 (e2.getD i none) fun x => objD x = true ∧ Wo0 (putD x k v) fun d' => T.nx (e2.set i (some d')) := by
  unfold qPut
  cases b e with
  | ret v e1 =>
    simp only [wq_ret_z]
    cases e1.getD i none with
    | none => rfl
    | some _ =>
      simp only [wo_some_z]
      cases a e1 with
      | ret k e2 =>
        simp only [wq_ret_z]
        cases e2.getD i none with
        | none => rfl
        | some x =>
          simp only [wo_some_z]
          split
          · rename_i h; simp only [h, true_and]; cases putD x k v <;> rfl
          · rename_i h; simp [Ws0, h]
      | exc _ _ => rfl
      | fail => rfl
  | exc _ _ => rfl
  | fail => rfl
theorem t_par_z {is : List Nat} : Ws0 (qPar is l e) T = Wq0 (l e) fun ds e1 => is.all (fun i => decide (i < e1.length)) = true ∧ T.nx (setAll is ds e1) := by
  unfold qPar
  cases l e with
  | ret ds e1 =>
    simp only [wq_ret_z]
    split
    · rename_i h; simp only [h, true_and]; rfl
    · rename_i h; simp only [h]; simp [Ws0]
  | exc _ _ => rfl
  | fail => rfl
theorem t_for_z {qi : QI} {g : QG} : Ws0 (qFor qi g p e) T = Wq0 (qi e) fun ds e1 => ds.length ≤ lim ∧ Ws0 (forQ g p ds e1) T := by
  unfold qFor
  cases qi e with
  | ret ds e1 =>
    simp only [wq_ret_z]
    split
    · rename_i h; simp only [h, true_and]
    · rename_i h; simp [Ws0, h]
  | exc _ _ => rfl
  | fail => rfl
theorem t_asg_z {g : QG} : Ws0 (qAsg g a e) T = Wq0 (a e) fun d e1 => Wo0 (g d e1) T.nx := by
  unfold qAsg
  rw [t_of_z]
  congr 1; funext d e1
  cases g d e1 <;> rfl
theorem t_setR_z : Ws0 (qSetR i a e) T = Wq0 (a e) fun d e1 => i < e1.length ∧ T.nx (e1.set i (some d)) := by
  show Ws0 (qOf a _ e) T = _
  rw [t_of_z]
  congr 1; funext d e1
  by_cases h : i < e1.length
  · simp [h, Ws0]
  · simp [h, Ws0]
theorem t_drop_z : Ws0 (qDrop a e) T = Wq0 (a e) fun _ e1 => T.nx e1 := by
  show Ws0 (qOf a (fun _ e => .nx e) e) T = _; rw [t_of_z]; rfl
theorem wi_of_z : Wq0 (qiOf a e) QL' = Wq0 (a e) fun d e1 => Wo0 (itemsD d) fun xs => QL' xs e1 := by unfold qiOf; simp only [wq_bind_z, wq_opt_z]
theorem wi_rg_z {f : List D → Option (List D)} : Wq0 (qiRg f l e) QL' = Wq0 (l e) fun ds e1 => Wo0 (f ds) fun xs => QL' xs e1 := by unfold qiRg; simp only [wq_bind_z, wq_opt_z]
theorem wi_st_z {f : List D → Option (List D)} : Wq0 (qiSt f l e) QL' = Wq0 (l e) fun ds e1 => Wo0 (f ds) fun xs => QL' xs e1 := by unfold qiSt; simp only [wq_bind_z, wq_opt_z]
theorem w_lc0_z {qi : QI} {g : QG} {ws : List Nat} : Wq0 (qLc0 qi g t a ws e) Q = Wq0 (qi e) fun ds e1 => ds.length ≤ lim ∧ Wo0 (lcQ0 g t a (wipeD e1 ws) ds) fun xs => Q (.lst xs) e1 := by
  unfold qLc0
  cases qi e with
  | ret ds e1 =>
    simp only [wq_ret_z]
    split
    · rename_i h; simp only [h, true_and]; cases lcQ0 g t a (wipeD e1 ws) ds <;> rfl
    · rename_i h; simp [Wq0, h]
  | exc _ _ => rfl
  | fail => rfl
theorem w_ssc_z {qi : QI} {g : QG} {ws : List Nat} : Wq0 (qSSc qi g t a ws e) Q = Wq0 (qi e) fun ds e1 => ds.length ≤ lim ∧ Wo0 (lcQ0 g t a (wipeD e1 ws) ds) fun xs => Wo0 (sortSet xs) fun ys => Q (.lst ys) e1 := by
  unfold qSSc
  cases qi e with
  | ret ds e1 =>
    simp only [wq_ret_z]
    split
    · rename_i h; simp only [h, true_and]
      cases lcQ0 g t a (wipeD e1 ws) ds with
      | none => rfl
      | some xs => simp only [Option.bind_some, wo_some_z]; cases sortSet xs <;> rfl
    · rename_i h; simp [Wq0, h]
  | exc _ _ => rfl
  | fail => rfl
theorem w_lc_z {qi : QI} {g : QG} {ws : List Nat} : Wq0 (qLc qi g t a ws e) Q = Wq0 (qi e) fun ds e1 => ds.length ≤ lim ∧ noLsts ds = true ∧ Wq0 (lcQ g t a ws ds e1) fun xs e2 => Q (.lst xs) (restE e2 e1 ws) := by
  unfold qLc
  cases qi e with
  | ret ds e1 =>
    simp only [wq_ret_z]
    split
    · rename_i h; simp only [h, true_and]; cases lcQ g t a ws ds e1 <;> rfl
    · rename_i h; simp only [wq_fail_z]; exact propext ⟨False.elim, fun z => h ⟨z.1, z.2.1⟩⟩
  | exc _ _ => rfl
  | fail => rfl
theorem w_fn_z {nl : Nat} {ds : List D} {QF : D → D → Prop} : Wf0 (qFn nl p ds) QF = Ws0 (p (ds.map some ++ List.replicate nl none)) { nx := fun _ => QF .non .non, rt := fun d _ => QF d .non } := by
  unfold qFn; cases p (ds.map some ++ List.replicate nl none) <;> rfl
theorem w_fnB_z {nl : Nat} {ds : List D} {QF : D → D → Prop} : Wf0 (qFnB nl p ds) QF = Ws0 (p (ds.map some ++ List.replicate nl none)) { nx := fun e => Wo0 (lentD e) fun b => QF .non b, rt := fun d e => Wo0 (lentD e) fun b => QF d b } := by
  unfold qFnB
  cases p (ds.map some ++ List.replicate nl none) with
  | nx e => simp only [Ws0]; cases lentD e <;> rfl
  | rt d e => simp only [Ws0]; cases lentD e <;> rfl
  | exc d e => simp only [Ws0]; cases lentD e <;> rfl
  | _ => rfl
theorem w_lent_z {b : D} {e : DE} {Q : D → Prop} : Wo0 (lentD (some b :: e)) Q = (nlc b = true ∧ Q b) := by
  unfold lentD
  simp only [gd0]
  split <;> simp_all [Wo0]
/-! targets -/
theorem wg_nm_z {d : D} {Q : DE → Prop} : Wo0 (qNm i d e) Q = Q (e.set i (some d)) := id rfl
theorem wg_two_z {j : Nat} {a b : D} {Q : DE → Prop} : Wo0 (qTp 2 (qCn (qNm i) (qCn (qNm j) qNl)) (.tup [a, b]) e) Q = Q ((e.set i (some a)).set j (some b)) := by
  simp [qTp, qCn, qNm, qNl, Wo0]
theorem wg_three_z {j k : Nat} {a b c : D} {Q : DE → Prop} : Wo0 (qTp 3 (qCn (qNm i) (qCn (qNm j) (qCn (qNm k) qNl))) (.tup [a, b, c]) e) Q = Q (((e.set i (some a)).set j (some b)).set k (some c)) := by
  simp [qTp, qCn, qNm, qNl, Wo0]
/-! ### loops -/
theorem t_while_z {I : Nat → DE → Prop} (k0 : Nat) (hk : k0 < fuel) (h0 : I k0 e)
    (step : ∀ k e, I k e → Wq0 (t e) fun b e1 => if b = true then Ws0 (p e1) { nx := fun e2 => ∃ k', k' < k ∧ I k' e2, rt := T.rt, bk := T.nx, ct := fun e2 => ∃ k', k' < k ∧ I k' e2 } else T.nx e1) : Ws0 (qWhile t p e) T := by
  have go : ∀ (f k : Nat) (e : DE), k < f → I k e → Ws0 (whileQ t p f e) T := by
    intro f
    induction f with
    | zero => intro k e h; exact absurd h (by omega)
    | succ f ih =>
      intro k e hf hI
      have h := step k e hI
      unfold whileQ
      cases ht : t e with
      | fail => rw [ht] at h; exact h.elim
      | exc x e1 => rw [ht] at h; exact h.elim
      | ret b e1 =>
        rw [ht] at h
        cases b with
        | false => exact h
        | true =>
          replace h : Ws0 (p e1) _ := h
          dsimp only
          cases hp : p e1 with
          | nx e2 => rw [hp] at h; obtain ⟨k', h1, h2⟩ := h; exact ih k' e2 (by omega) h2
          | ct e2 => rw [hp] at h; obtain ⟨k', h1, h2⟩ := h; exact ih k' e2 (by omega) h2
          | bk e2 => rw [hp] at h; exact h
          | rt d e2 => rw [hp] at h; exact h
          | exc x e2 => rw [hp] at h; exact h.elim
          | fail => rw [hp] at h; exact h.elim
  exact go fuel k0 e hk h0
theorem t_forL_z {α : Type} {g : QG} {φ : α → D} {l : List α} (I : List α → DE → Prop) (h0 : I [] e)
    (step : ∀ pre x post e, l = pre ++ x :: post → I pre e → Wo0 (g (φ x) e) fun e1 => Ws0 (p e1) { nx := I (pre ++ [x]), rt := T.rt, bk := T.nx, ct := I (pre ++ [x]) }) (hend : ∀ e, I l e → T.nx e) : Ws0 (forQ g p (l.map φ) e) T := by
  have go : ∀ (post pre : List α) (e : DE), l = pre ++ post → I pre e → Ws0 (forQ g p (post.map φ) e) T := by
    intro post
    induction post with
    | nil => intro pre e hl hI; rw [List.append_nil] at hl; subst hl; exact hend e hI
    | cons x post ih =>
      intro pre e hl hI
      have h := step pre x post e hl hI
      rw [List.map_cons]
      unfold forQ
      cases hg : g (φ x) e with
      | none => rw [hg] at h; exact h.elim
      | some e1 =>
        rw [hg] at h
        replace h : Ws0 (p e1) _ := h
        dsimp only
        have hl' : l = (pre ++ [x]) ++ post := by rw [hl, List.append_assoc]; rfl
        cases hp : p e1 with
        | nx e2 => rw [hp] at h; exact ih (pre ++ [x]) e2 hl' h
        | ct e2 => rw [hp] at h; exact ih (pre ++ [x]) e2 hl' h
        | bk e2 => rw [hp] at h; exact h
        | rt d e2 => rw [hp] at h; exact h
        | exc x e2 => rw [hp] at h; exact h.elim
        | fail => rw [hp] at h; exact h.elim
  exact go l [] e rfl h0
theorem w_lcM_z {α : Type} {g : QG} {φ : α → D} {l : List α} {f : α → D} {Q : List D → Prop} (h : ∀ x ∈ l, Wo0 (g (φ x) e) fun e1 => Wq0 (a e1) fun y _ => y = f x) (q : Q (l.map f)) : Wo0 (lcQ0 g qYes a e (l.map φ)) Q := by
  have go : lcQ0 g qYes a e (l.map φ) = some (l.map f) := by
    clear q
    induction l with
    | nil => rfl
    | cons x l ih =>
      have hx := h x (by simp)
      rw [List.map_cons]
      unfold lcQ0
      cases hg : g (φ x) e with
      | none => rw [hg] at hx; exact hx.elim
      | some e1 =>
        rw [hg] at hx
        replace hx : Wq0 (a e1) _ := hx
        simp only [qYes]
        cases ha : a e1 with
        | ret y e2 => rw [ha] at hx; dsimp only; rw [ih fun z hz => h z (by simp [hz])]; have hx : y = f x := hx; rw [hx]; rfl
        | exc _ _ => rw [ha] at hx; exact hx.elim
        | fail => rw [ha] at hx; exact hx.elim
  rw [go]; exact q
/-- loud comprehension: state invariants -/
theorem w_lcL_z {α : Type} {g : QG} {φ : α → D} {l : List α} {ws : List Nat} {Q : List D → DE → Prop} (I : List α → List D → DE → Prop) (h0 : I [] [] e)
    (step : ∀ pre x post acc e, l = pre ++ x :: post → I pre acc e → Wo0 (g (φ x) (wipeD e ws)) fun e1 => Wq0 (a e1) fun y e2 => I (pre ++ [x]) (acc ++ [y]) e2) (hend : ∀ acc e, I l acc e → Q acc e) : Wq0 (lcQ g qYes a ws (l.map φ) e) Q := by
  have go : ∀ (post pre : List α) (acc : List D) (e : DE), l = pre ++ post → I pre acc e → Wq0 (lcQ g qYes a ws (post.map φ) e) fun xs e2 => Q (acc ++ xs) e2 := by
    intro post
    induction post with
    | nil => intro pre acc e hl hI; rw [List.append_nil] at hl; subst hl; show Q (acc ++ []) e; rw [List.append_nil]; exact hend acc e hI
    | cons x post ih =>
      intro pre acc e hl hI
      have h := step pre x post acc e hl hI
      rw [List.map_cons]
      unfold lcQ
      cases hg : g (φ x) (wipeD e ws) with
      | none => rw [hg] at h; exact h.elim
      | some e1 =>
        rw [hg] at h
        replace h : Wq0 (a e1) _ := h
        simp only [qYes]
        cases ha : a e1 with
        | exc _ _ => rw [ha] at h; exact h.elim
        | fail => rw [ha] at h; exact h.elim
        | ret y e2 =>
          rw [ha] at h
          dsimp only
          have h2 := ih (pre ++ [x]) (acc ++ [y]) e2 (by rw [hl, List.append_assoc]; rfl) h
          cases hq : lcQ g qYes a ws (post.map φ) e2 with
          | exc _ _ => rw [hq] at h2; exact h2.elim
          | fail => rw [hq] at h2; exact h2.elim
          | ret xs e3 => rw [hq] at h2; replace h2 : Q (acc ++ [y] ++ xs) e3 := h2; show Q (acc ++ (y :: xs)) e3; rw [List.append_assoc] at h2; exact h2
  have := go l [] [] e rfl h0
  simpa using this
end
end MP

set_option maxRecDepth 100000
namespace MP
open PySem PySem.Spec PyProof.Rows L2
/-! the ends as structures: nothing runs a program to look at them -/
structure Wo {α : Type} (o : Option α) (Q : α → Prop) : Prop where
  mk :: (out : Wo0 o Q)
structure Wq {α : Type} (o : LO α) (Q : α → DE → Prop) : Prop where
  mk :: (out : Wq0 o Q)
structure Wf (o : FO) (Q : D → D → Prop) : Prop where
  mk :: (out : Wf0 o Q)
structure Ws (o : QS) (Q : Qe) : Prop where
  mk :: (out : Ws0 o Q)
theorem wo_eq {α : Type} {o : Option α} {Q : α → Prop} : Wo o Q = Wo0 o Q := propext ⟨Wo.out, Wo.mk⟩
theorem wq_eq {α : Type} {o : LO α} {Q : α → DE → Prop} : Wq o Q = Wq0 o Q := propext ⟨Wq.out, Wq.mk⟩
theorem wf_eq {o : FO} {Q : D → D → Prop} : Wf o Q = Wf0 o Q := propext ⟨Wf.out, Wf.mk⟩
theorem ws_eq {o : QS} {Q : Qe} : Ws o Q = Ws0 o Q := propext ⟨Ws.out, Ws.mk⟩
theorem Wo.mono {α : Type} {o : Option α} {Q Q' : α → Prop} (h : Wo o Q) (k : ∀ a, Q a → Q' a) : Wo o Q' := by
  simp only [wo_eq, wq_eq, wf_eq, ws_eq] at *
  exact Wo0.mono h k
theorem Wq.mono {α : Type} {o : LO α} {Q Q' : α → DE → Prop} (h : Wq o Q) (k : ∀ a e, Q a e → Q' a e) : Wq o Q' := by
  simp only [wo_eq, wq_eq, wf_eq, ws_eq] at *
  exact Wq0.mono h k
theorem Wf.mono {o : FO} {Q Q' : D → D → Prop} (h : Wf o Q) (k : ∀ a b, Q a b → Q' a b) : Wf o Q' := by
  simp only [wo_eq, wq_eq, wf_eq, ws_eq] at *
  exact Wf0.mono h k
theorem Ws.mono {o : QS} {Q Q' : Qe} (h : Ws o Q) (k1 : ∀ e, Q.nx e → Q'.nx e) (k2 : ∀ d e, Q.rt d e → Q'.rt d e) (k3 : ∀ e, Q.bk e → Q'.bk e) (k4 : ∀ e, Q.ct e → Q'.ct e) : Ws o Q' := by
  simp only [wo_eq, wq_eq, wf_eq, ws_eq] at *
  exact Ws0.mono h k1 k2 k3 k4
theorem wo_some {α : Type} {a : α} {Q : α → Prop} : Wo (some a) Q = Q a := by simp only [wo_eq, wq_eq, wf_eq, ws_eq]; exact wo_some_z
theorem Wo.of {α : Type} {o : Option α} {a : α} {Q : α → Prop} (h : o = some a) (q : Q a) : Wo o Q := by
  simp only [wo_eq, wq_eq, wf_eq, ws_eq] at *
  exact Wo0.of h q
theorem Wf.of {o : FO} {d b : D} {Q : D → D → Prop} (h : o = .ret d b) (q : Q d b) : Wf o Q := by
  simp only [wo_eq, wq_eq, wf_eq, ws_eq] at *
  exact Wf0.of h q
theorem wq_ret {α : Type} {a : α} {e : DE} {Q : α → DE → Prop} : Wq (.ret a e) Q = Q a e := by simp only [wo_eq, wq_eq, wf_eq, ws_eq]; exact wq_ret_z
section
variable {e : DE} {i : Nat} {a b c : QE} {t u : QB} {l lk : QL} {p q : QT} {Q : D → DE → Prop} {QB' : Bool → DE → Prop} {QL' : List D → DE → Prop} {T : Qe}
theorem w_var : Wq (qVar i e) Q = Wo (e.getD i none) fun d => Q d e := by simp only [wo_eq, wq_eq, wf_eq, ws_eq]; exact w_var_z
theorem w_C {d : D} : Wq (qC d e) Q = Q d e := by simp only [wo_eq, wq_eq, wf_eq, ws_eq]; exact w_C_z
theorem w_1 {g : D → Option D} : Wq (q1 a g e) Q = Wq (a e) fun x e1 => Wo (g x) fun y => Q y e1 := by simp only [wo_eq, wq_eq, wf_eq, ws_eq]; exact w_1_z
theorem w_2 {g : D → D → Option D} : Wq (q2 a b g e) Q = Wq (a e) fun x e1 => Wq (b e1) fun y e2 => Wo (g x y) fun z => Q z e2 := by simp only [wo_eq, wq_eq, wf_eq, ws_eq]; exact w_2_z
theorem w_nil : Wq (qNil e) QL' = QL' [] e := by simp only [wo_eq, wq_eq, wf_eq, ws_eq]; exact w_nil_z
theorem w_cons : Wq (qCons a l e) QL' = Wq (a e) fun x e1 => Wq (l e1) fun xs e2 => QL' (x :: xs) e2 := by simp only [wo_eq, wq_eq, wf_eq, ws_eq]; exact w_cons_z
theorem w_L {g : List D → Option D} : Wq (qL l g e) Q = Wq (l e) fun xs e1 => Wo (g xs) fun z => Q z e1 := by simp only [wo_eq, wq_eq, wf_eq, ws_eq]; exact w_L_z
theorem w_B : Wq (qB a e) QB' = Wq (a e) fun x e1 => Wo (asBl x) fun b => QB' b e1 := by simp only [wo_eq, wq_eq, wf_eq, ws_eq]; exact w_B_z
theorem w_T : Wq (qT a e) QB' = Wq (a e) fun x e1 => Wo (truthD x) fun b => QB' b e1 := by simp only [wo_eq, wq_eq, wf_eq, ws_eq]; exact w_T_z
theorem w_yes : Wq (qYes e) QB' = QB' true e := by simp only [wo_eq, wq_eq, wf_eq, ws_eq]; exact w_yes_z
theorem w_bAnd : Wq (qbAnd t u e) QB' = Wq (t e) fun b e1 => if b = true then Wq (u e1) QB' else QB' false e1 := by simp only [wo_eq, wq_eq, wf_eq, ws_eq]; exact w_bAnd_z
theorem w_bOr : Wq (qbOr t u e) QB' = Wq (t e) fun b e1 => if b = true then QB' true e1 else Wq (u e1) QB' := by simp only [wo_eq, wq_eq, wf_eq, ws_eq]; exact w_bOr_z
theorem w_bNot : Wq (qbNot t e) QB' = Wq (t e) fun b e1 => QB' (!b) e1 := by simp only [wo_eq, wq_eq, wf_eq, ws_eq]; exact w_bNot_z
theorem w_And : Wq (qAnd a b e) Q = Wq (a e) fun x e1 => Wo (asBl x) fun y => if y = true then Wq (b e1) Q else Q (.bl false) e1 := by simp only [wo_eq, wq_eq, wf_eq, ws_eq]; exact w_And_z
theorem w_Or : Wq (qOr a b e) Q = Wq (a e) fun x e1 => Wo (asBl x) fun y => if y = true then Q (.bl true) e1 else Wq (b e1) Q := by simp only [wo_eq, wq_eq, wf_eq, ws_eq]; exact w_Or_z
theorem w_Not : Wq (qNot a e) Q = Wq (a e) fun x e1 => Wo (asBl x) fun y => Q (.bl (!y)) e1 := by simp only [wo_eq, wq_eq, wf_eq, ws_eq]; exact w_Not_z
theorem w_If : Wq (qIf t a b e) Q = Wq (t e) fun x e1 => if x = true then Wq (a e1) Q else Wq (b e1) Q := by simp only [wo_eq, wq_eq, wf_eq, ws_eq]; exact w_If_z
theorem w_chain {f g : D → D → Option D} : Wq (qChain a b c f g e) Q = Wq (a e) fun x e1 => Wq (b e1) fun y e2 => Wo (f x y) fun z => Wo (asBl z) fun w => if w = true then Wq (c e2) fun v e3 => Wo (g y v) fun r => Q r e3 else Q (.bl false) e2 := by simp only [wo_eq, wq_eq, wf_eq, ws_eq]; exact w_chain_z
theorem w_only : Wq (qOnly a e) Q = Wq (a e) fun x e1 => ∃ i, x = .int i ∧ Q (.int i) e1 := by simp only [wo_eq, wq_eq, wf_eq, ws_eq]; exact w_only_z
theorem w_cut {l u : QE} : Wq (qCut a l u e) Q = Wq (a e) fun x e1 => Wq (l e1) fun y e2 => Wo (partD y) fun lo => Wq (u e2) fun z e3 => Wo (partD z) fun hi => Wo (gCut x lo hi) fun r => Q r e3 := by simp only [wo_eq, wq_eq, wf_eq, ws_eq]; exact w_cut_z
theorem w_meth {g : D → List D → Option D} : Wq (qMeth a l g e) Q = Wq (a e) fun x e1 => (lstD x).isSome = true ∧ Wq (l e1) fun xs e2 => Wo (g x xs) fun z => Q z e2 := by simp only [wo_eq, wq_eq, wf_eq, ws_eq]; exact w_meth_z
theorem w_newK : Wq (qNewK e) Q = Q (.dK []) e := by simp only [wo_eq, wq_eq, wf_eq, ws_eq]; exact w_newK_z
theorem w_newT : Wq (qNewT e) Q = Q (.dT []) e := by simp only [wo_eq, wq_eq, wf_eq, ws_eq]; exact w_newT_z
theorem w_call {np : Nat} {chk fr : Bool} {G : List D → FO} : Wq (qCall np chk fr l G e) Q = Wq (l e) fun ds e1 => ds.length = np ∧ Wf (G ds) fun d _ => okD chk fr d = true ∧ Q d e1 := by simp only [wo_eq, wq_eq, wf_eq, ws_eq]; exact w_call_z
theorem w_callB {np : Nat} {chk fr : Bool} {G : List D → FO} : Wq (qCallB np chk fr i l G e) Q = Wo (e.getD i none) fun _ => Wq (l e) fun ds e1 => Wo (e1.getD i none) fun b => objD b = true ∧ ds.length + 1 = np ∧ Wf (G (b :: ds)) fun d b' => okD chk fr d = true ∧ Q d (e1.set i (some b')) := by simp only [wo_eq, wq_eq, wf_eq, ws_eq]; exact w_callB_z
theorem w_callK {nn kk : Nat} {is : List Nat} {chk fr : Bool} {G : List D → FO} : Wq (qCallK nn kk is chk fr l lk G e) Q = Wq (l e) fun ds e1 => Wq (lk e1) fun zs e2 => ds.length = nn ∧ zs.length = kk ∧ Wf (G (gOf .non is ds zs)) fun d _ => okD chk fr d = true ∧ Q d e2 := by simp only [wo_eq, wq_eq, wf_eq, ws_eq]; exact w_callK_z
theorem w_w {g : D → List D → Option (D × D)} : Wq (qW i l g e) Q = Wo (e.getD i none) fun d0 => isLs d0 = true ∧ Wq (l e) fun ds e1 => Wo (e1.getD i none) fun d => Wo (g d ds) fun r => noLsts ds = true ∧ Q r.1 (e1.set i (some r.2)) := by simp only [wo_eq, wq_eq, wf_eq, ws_eq]; exact w_w_z
/-! statements -/
theorem t_next : Ws (qNext e) T = T.nx e := by simp only [wo_eq, wq_eq, wf_eq, ws_eq]; exact t_next_z
theorem t_break : Ws (qBreak e) T = T.bk e := by simp only [wo_eq, wq_eq, wf_eq, ws_eq]; exact t_break_z
theorem t_cont : Ws (qCont e) T = T.ct e := by simp only [wo_eq, wq_eq, wf_eq, ws_eq]; exact t_cont_z
theorem t_seq : Ws (qSeq p q e) T = Ws (p e) { T with nx := fun e1 => Ws (q e1) T } := by simp only [wo_eq, wq_eq, wf_eq, ws_eq]; exact t_seq_z
theorem ws_nx : Ws (.nx e) T = T.nx e := by simp only [wo_eq, wq_eq, wf_eq, ws_eq]; exact ws_nx_z
theorem ws_rt {d : D} : Ws (.rt d e) T = T.rt d e := by simp only [wo_eq, wq_eq, wf_eq, ws_eq]; exact ws_rt_z
theorem t_ret : Ws (qRet a e) T = Wq (a e) T.rt := by simp only [wo_eq, wq_eq, wf_eq, ws_eq]; exact t_ret_z
theorem t_retN : Ws (qRetN e) T = T.rt .non e := by simp only [wo_eq, wq_eq, wf_eq, ws_eq]; exact t_retN_z
theorem t_set : Ws (qSet i a e) T = Wq (a e) fun d e1 => T.nx (e1.set i (some d)) := by simp only [wo_eq, wq_eq, wf_eq, ws_eq]; exact t_set_z
theorem t_if : Ws (qIfS t p q e) T = Wq (t e) fun b e1 => if b = true then Ws (p e1) T else Ws (q e1) T := by simp only [wo_eq, wq_eq, wf_eq, ws_eq]; exact t_if_z
theorem t_WS {g : D → List D → Option (D × D)} : Ws (qWS i l g e) T = Wo (e.getD i none) fun d0 => isLs d0 = true ∧ Wq (l e) fun ds e1 => Wo (e1.getD i none) fun d => Wo (g d ds) fun r => T.nx (e1.set i (some r.2)) := by simp only [wo_eq, wq_eq, wf_eq, ws_eq]; exact t_WS_z
theorem t_put : Ws (qPut i a b e) T = Wq (b e) fun v e1 => Wo (e1.getD i none) fun _ => Wq (a e1) fun k e2 => Wo (e2.getD i none) fun x => objD x = true ∧ Wo (putD x k v) fun d' => T.nx (e2.set i (some d')) := by simp only [wo_eq, wq_eq, wf_eq, ws_eq]; exact t_put_z
theorem t_par {is : List Nat} : Ws (qPar is l e) T = Wq (l e) fun ds e1 => is.all (fun i => decide (i < e1.length)) = true ∧ T.nx (setAll is ds e1) := by simp only [wo_eq, wq_eq, wf_eq, ws_eq]; exact t_par_z
theorem t_for {qi : QI} {g : QG} : Ws (qFor qi g p e) T = Wq (qi e) fun ds e1 => ds.length ≤ lim ∧ Ws (forQ g p ds e1) T := by simp only [wo_eq, wq_eq, wf_eq, ws_eq]; exact t_for_z
theorem t_asg {g : QG} : Ws (qAsg g a e) T = Wq (a e) fun d e1 => Wo (g d e1) T.nx := by simp only [wo_eq, wq_eq, wf_eq, ws_eq]; exact t_asg_z
theorem t_setR : Ws (qSetR i a e) T = Wq (a e) fun d e1 => i < e1.length ∧ T.nx (e1.set i (some d)) := by simp only [wo_eq, wq_eq, wf_eq, ws_eq]; exact t_setR_z
theorem t_drop : Ws (qDrop a e) T = Wq (a e) fun _ e1 => T.nx e1 := by simp only [wo_eq, wq_eq, wf_eq, ws_eq]; exact t_drop_z
theorem wi_of : Wq (qiOf a e) QL' = Wq (a e) fun d e1 => Wo (itemsD d) fun xs => QL' xs e1 := by simp only [wo_eq, wq_eq, wf_eq, ws_eq]; exact wi_of_z
theorem wi_rg {f : List D → Option (List D)} : Wq (qiRg f l e) QL' = Wq (l e) fun ds e1 => Wo (f ds) fun xs => QL' xs e1 := by simp only [wo_eq, wq_eq, wf_eq, ws_eq]; exact wi_rg_z
theorem wi_st {f : List D → Option (List D)} : Wq (qiSt f l e) QL' = Wq (l e) fun ds e1 => Wo (f ds) fun xs => QL' xs e1 := by simp only [wo_eq, wq_eq, wf_eq, ws_eq]; exact wi_st_z
theorem w_lc0 {qi : QI} {g : QG} {ws : List Nat} : Wq (qLc0 qi g t a ws e) Q = Wq (qi e) fun ds e1 => ds.length ≤ lim ∧ Wo (lcQ0 g t a (wipeD e1 ws) ds) fun xs => Q (.lst xs) e1 := by simp only [wo_eq, wq_eq, wf_eq, ws_eq]; exact w_lc0_z
theorem w_ssc {qi : QI} {g : QG} {ws : List Nat} : Wq (qSSc qi g t a ws e) Q = Wq (qi e) fun ds e1 => ds.length ≤ lim ∧ Wo (lcQ0 g t a (wipeD e1 ws) ds) fun xs => Wo (sortSet xs) fun ys => Q (.lst ys) e1 := by simp only [wo_eq, wq_eq, wf_eq, ws_eq]; exact w_ssc_z
theorem w_lc {qi : QI} {g : QG} {ws : List Nat} : Wq (qLc qi g t a ws e) Q = Wq (qi e) fun ds e1 => ds.length ≤ lim ∧ noLsts ds = true ∧ Wq (lcQ g t a ws ds e1) fun xs e2 => Q (.lst xs) (restE e2 e1 ws) := by simp only [wo_eq, wq_eq, wf_eq, ws_eq]; exact w_lc_z
theorem w_fn {nl : Nat} {ds : List D} {QF : D → D → Prop} : Wf (qFn nl p ds) QF = Ws (p (ds.map some ++ List.replicate nl none)) { nx := fun _ => QF .non .non, rt := fun d _ => QF d .non } := by simp only [wo_eq, wq_eq, wf_eq, ws_eq]; exact w_fn_z
theorem w_fnB {nl : Nat} {ds : List D} {QF : D → D → Prop} : Wf (qFnB nl p ds) QF = Ws (p (ds.map some ++ List.replicate nl none)) { nx := fun e => Wo (lentD e) fun b => QF .non b, rt := fun d e => Wo (lentD e) fun b => QF d b } := by simp only [wo_eq, wq_eq, wf_eq, ws_eq]; exact w_fnB_z
theorem w_lent {b : D} {e : DE} {Q : D → Prop} : Wo (lentD (some b :: e)) Q = (nlc b = true ∧ Q b) := by simp only [wo_eq, wq_eq, wf_eq, ws_eq]; exact w_lent_z
/-! targets -/
theorem wg_nm {d : D} {Q : DE → Prop} : Wo (qNm i d e) Q = Q (e.set i (some d)) := by simp only [wo_eq, wq_eq, wf_eq, ws_eq]; exact wg_nm_z
theorem wg_two {j : Nat} {a b : D} {Q : DE → Prop} : Wo (qTp 2 (qCn (qNm i) (qCn (qNm j) qNl)) (.tup [a, b]) e) Q = Q ((e.set i (some a)).set j (some b)) := by simp only [wo_eq, wq_eq, wf_eq, ws_eq]; exact wg_two_z
theorem wg_three {j k : Nat} {a b c : D} {Q : DE → Prop} : Wo (qTp 3 (qCn (qNm i) (qCn (qNm j) (qCn (qNm k) qNl))) (.tup [a, b, c]) e) Q = Q (((e.set i (some a)).set j (some b)).set k (some c)) := by simp only [wo_eq, wq_eq, wf_eq, ws_eq]; exact wg_three_z
/-! ### loops -/
theorem t_while {I : Nat → DE → Prop} (k0 : Nat) (hk : k0 < fuel) (h0 : I k0 e)
    (step : ∀ k e, I k e → Wq (t e) fun b e1 => if b = true then Ws (p e1) { nx := fun e2 => ∃ k', k' < k ∧ I k' e2, rt := T.rt, bk := T.nx, ct := fun e2 => ∃ k', k' < k ∧ I k' e2 } else T.nx e1) : Ws (qWhile t p e) T := by
  simp only [wo_eq, wq_eq, wf_eq, ws_eq] at *
  exact t_while_z k0 hk h0 step
theorem t_forL {α : Type} {g : QG} {φ : α → D} {l : List α} (I : List α → DE → Prop) (h0 : I [] e)
    (step : ∀ pre x post e, l = pre ++ x :: post → I pre e → Wo (g (φ x) e) fun e1 => Ws (p e1) { nx := I (pre ++ [x]), rt := T.rt, bk := T.nx, ct := I (pre ++ [x]) }) (hend : ∀ e, I l e → T.nx e) : Ws (forQ g p (l.map φ) e) T := by
  simp only [wo_eq, wq_eq, wf_eq, ws_eq] at *
  exact t_forL_z I h0 step hend
theorem w_lcM {α : Type} {g : QG} {φ : α → D} {l : List α} {f : α → D} {Q : List D → Prop} (h : ∀ x ∈ l, Wo (g (φ x) e) fun e1 => Wq (a e1) fun y _ => y = f x) (q : Q (l.map f)) : Wo (lcQ0 g qYes a e (l.map φ)) Q := by
  simp only [wo_eq, wq_eq, wf_eq, ws_eq] at *
  exact w_lcM_z h q
/-- loud comprehension: state invariants -/
theorem w_lcL {α : Type} {g : QG} {φ : α → D} {l : List α} {ws : List Nat} {Q : List D → DE → Prop} (I : List α → List D → DE → Prop) (h0 : I [] [] e)
    (step : ∀ pre x post acc e, l = pre ++ x :: post → I pre acc e → Wo (g (φ x) (wipeD e ws)) fun e1 => Wq (a e1) fun y e2 => I (pre ++ [x]) (acc ++ [y]) e2) (hend : ∀ acc e, I l acc e → Q acc e) : Wq (lcQ g qYes a ws (l.map φ) e) Q := by
  simp only [wo_eq, wq_eq, wf_eq, ws_eq] at *
  exact w_lcL_z I h0 step hend
end
end MP

set_option maxRecDepth 100000
namespace MP
open PySem PySem.Spec PyProof.Rows L2
theorem ob_l {xs : List D} : objD (.lst xs) = true := id rfl
theorem isLs_l {xs : List D} : isLs (.lst xs) = true := id rfl
/-! ### numbers -/
theorem d_add {i j : Int} : gAdd (.int i) (.int j) = some (.int (i + j)) := id rfl
theorem d_addI {i j : Int} : gAddI (.int i) (.int j) = some (.int (i + j)) := id rfl
theorem d_sub {i j : Int} : gSub (.int i) (.int j) = some (.int (i - j)) := id rfl
theorem d_neg {i : Int} : gNeg (.int i) = some (.int (-i)) := id rfl
theorem d_cmp {p : Int → Int → Bool} {i j : Int} : gCmp p (.int i) (.int j) = some (.bl (p i j)) := id rfl
theorem d_mul {i j : Int} (h : CMul i j ∨ CMulW i j) : gMul (.int i) (.int j) = some (.int (i * j)) := by simp only [gMul]; rw [if_pos h]
theorem d_mod {i j : Int} (h : 0 < j) : gMod (.int i) (.int j) = some (.int (i % j)) := by
  simp only [gMod]; rw [if_pos (by omega), Int.fmod_eq_emod_of_nonneg i (Int.le_of_lt h)]
theorem d_div {i j : Int} (h : 0 < j) (h2 : j < 1073741824) : gDiv (.int i) (.int j) = some (.int (i / j)) := by
  have e : CDivN i j := ⟨by omega, by omega⟩
  simp only [gDiv]; rw [if_pos e, Int.fdiv_eq_ediv_of_nonneg i (Int.le_of_lt h)]
theorem d_pow {i : Int} {k : Nat} (h : CPow i k) : gPow (.int i) (.int k) = some (.int (i ^ k)) := by simp only [gPow]; rw [if_pos h]; rfl
theorem d_pow10 : gPow (.int 10) (.int 7) = some (.int 10000000) := by
  have h := d_pow (i := 10) (k := 7) (by refine ⟨?_, ?_, ?_⟩ <;> decide)
  rw [show ((10 : Int) ^ 7) = 10000000 by decide] at h
  exact h
theorem d_pow5 {i : Int} (h : 0 ≤ i ∧ i < 2 ^ 64) : gPow (.int i) (.int 5) = some (.int (i ^ 5)) := d_pow (i := i) (k := 5) ⟨by decide, by decide, by omega⟩
/-! ### lists of numbers -/
abbrev dn (n : Nat) : D := .int (n : Int)
abbrev dns (ns : List Nat) : List D := ns.map dn
def SqD (v : D) (xs : List D) : Prop := v = .tup xs ∨ v = .lst xs
theorem SqD.t {xs : List D} : SqD (.tup xs) xs := .inl rfl
theorem SqD.l {xs : List D} : SqD (.lst xs) xs := .inr rfl
theorem d_len {v : D} {xs : List D} (h : SqD v xs) : gLen [v] = some (.int xs.length) := by rcases h with rfl | rfl <;> rfl
theorem d_lenT {xs : List D} : gLen [.tup xs] = some (.int xs.length) := id rfl
theorem d_lenL {xs : List D} : gLen [.lst xs] = some (.int xs.length) := id rfl
theorem d_at {v d : D} {xs : List D} {i : Int} (h : SqD v xs) (e : atI xs i = some d) : gSub1 v (.int i) = some d := by rcases h with rfl | rfl <;> exact e
theorem at_dns {ns : List Nat} {i : Nat} (h : i < ns.length) : atI (dns ns) ((i : Nat) : Int) = some (dn ns[i]) := at_nat (by rw [List.getElem?_map, List.getElem?_eq_getElem h]; rfl)
theorem at_dnsD {ns : List Nat} {i : Nat} (h : i < ns.length) : atI (dns ns) ((i : Nat) : Int) = some (dn (ns.getD i 0)) := by rw [at_dns h, List.getD_eq_getElem?_getD, List.getElem?_eq_getElem h]; rfl
theorem d_subN {v : D} {ns : List Nat} {i : Nat} (h : SqD v (dns ns)) (hi : i < ns.length) : gSub1 v (.int (i : Nat)) = some (dn (ns.getD i 0)) := d_at h (at_dnsD hi)
theorem dns_len {ns : List Nat} : (dns ns).length = ns.length := List.length_map ..
theorem d_list {v : D} {xs : List D} (h : SqD v xs) : gListOf [v] = some (.lst xs) := by rcases h with rfl | rfl <;> rfl
theorem d_tup {v : D} {xs : List D} (h : SqD v xs) : gTupOf [v] = some (.tup xs) := by rcases h with rfl | rfl <;> rfl
theorem d_mkL {xs : List D} (h : xs.length ≤ lim) : gList xs = some (.lst xs) := by unfold gList; rw [if_pos h]
theorem d_mkT {xs : List D} (h : xs.length ≤ lim) : gTup xs = some (.tup xs) := by unfold gTup; rw [if_pos h]
theorem mk0 : gList [] = some (.lst []) := d_mkL (by decide)
theorem mk1 {a : D} : gList [a] = some (.lst [a]) := d_mkL (show 1 ≤ lim by decide)
theorem mk2 {a b : D} : gList [a, b] = some (.lst [a, b]) := d_mkL (show 2 ≤ lim by decide)
theorem mk3 {a b c : D} : gList [a, b, c] = some (.lst [a, b, c]) := d_mkL (show 3 ≤ lim by decide)
theorem mk4 {a b c d : D} : gList [a, b, c, d] = some (.lst [a, b, c, d]) := d_mkL (show 4 ≤ lim by decide)
theorem mk5 {a b c d e : D} : gList [a, b, c, d, e] = some (.lst [a, b, c, d, e]) := d_mkL (show 5 ≤ lim by decide)
theorem mt0 : gTup [] = some (.tup []) := d_mkT (by decide)
theorem mt1 {a : D} : gTup [a] = some (.tup [a]) := d_mkT (show 1 ≤ lim by decide)
theorem mt2 {a b : D} : gTup [a, b] = some (.tup [a, b]) := d_mkT (show 2 ≤ lim by decide)
theorem mt3 {a b c : D} : gTup [a, b, c] = some (.tup [a, b, c]) := d_mkT (show 3 ≤ lim by decide)
theorem mt4 {a b c d : D} : gTup [a, b, c, d] = some (.tup [a, b, c, d]) := d_mkT (show 4 ≤ lim by decide)
theorem d_app {xs : List D} {y : D} (h : xs.length < lim) : gAppend (.lst xs) [y] = some (.non, .lst (xs ++ [y])) := by simp only [gAppend]; rw [if_pos h]
theorem d_addL {xs ys : List D} (h : xs.length + ys.length ≤ lim) : gAdd (.lst xs) (.lst ys) = some (.lst (xs ++ ys)) := by simp only [gAdd]; rw [if_pos h]
theorem d_addT {xs ys : List D} (h : xs.length + ys.length ≤ lim) : gAdd (.tup xs) (.tup ys) = some (.tup (xs ++ ys)) := by simp only [gAdd]; rw [if_pos h]
theorem d_putL {xs : List D} {k : Nat} {v : D} (h : k < xs.length) : putD (.lst xs) (.int (k : Nat)) v = some (.lst (xs.set k v)) := by
  have e : ixN xs.length (k : Int) = some k := by unfold ixN; rw [if_pos (by omega), if_pos (by omega)]; rfl
  simp only [putD, e, Option.map_some]
theorem limle {n : Nat} (h : n ≤ 10000000) : n ≤ lim := Nat.le_trans h (by decide)
theorem limlt {n : Nat} (h : n ≤ 10000000) : n < lim := Nat.lt_of_le_of_lt h (by decide)
theorem fuelle {n : Nat} (h : n ≤ 10000000) : n < fuel := Nat.lt_of_le_of_lt h (by decide)
theorem nats_dns (n : Nat) : nats 0 n = dns (List.range n) := by unfold nats; simp
theorem d_rng1 {n : Nat} (h : n ≤ 10000000) : qrng1 [.int (n : Nat)] = some (dns (List.range n)) := by
  have : big62 (n : Int) = true := by simp [big62]; omega
  simp only [qrng1, this, if_true]
  rw [Int.toNat_natCast, nats_dns]
theorem d_listRg {n : Nat} (h : n ≤ 10000000) : gListRg1 (.int (n : Nat)) = some (.lst (dns (List.range n))) := by
  have h1 : RgOk 0 (n : Nat) := by unfold RgOk; omega
  have h2 : (rgP 0 (n : Nat)).length ≤ lim := by unfold rgP; simp; exact limle h
  simp only [gListRg1]
  rw [if_pos ⟨h1, h2⟩]
  simp
/-! ### equality -/
theorem sh_int {k : Int} : SeqAt.shaped (.int k) = true := by simp [SeqAt.shaped, PyData.canLay0, PyData.depth]
theorem sh_bl {b : Bool} : SeqAt.shaped (.bool b) = true := by simp [SeqAt.shaped, PyData.canLay0, PyData.depth]
theorem d_eqI {i j : Int} : gEq (.int i) (.int j) = some (.bl (i == j)) := by simp [gEq, gEqB, toPy, sh_int, PyData.eqv]
theorem d_eqB {i j : Bool} : gEq (.bl i) (.bl j) = some (.bl (i == j)) := by cases i <;> cases j <;> simp [gEq, gEqB, toPy, sh_bl, PyData.eqv]
theorem d_neB {i j : Bool} : gNe (.bl i) (.bl j) = some (.bl (!(i == j))) := by cases i <;> cases j <;> simp [gNe, gEqB, toPy, sh_bl, PyData.eqv]
/-! ### the source of draws -/
structure BoxD (b : D) (c : Int) : Prop where
  ex : ∃ x y : Int, b = .lst [.int x, .int y, .int c] ∧ 0 ≤ x ∧ 0 ≤ y ∧ y < 4611686018427387904
  nn : 0 ≤ c
theorem BoxD.obj {b : D} {c : Int} (h : BoxD b c) : objD b = true := by obtain ⟨_, _, rfl, _⟩ := h.ex; rfl
theorem BoxD.nlc {b : D} {c : Int} (h : BoxD b c) : nlc b = true := by obtain ⟨_, _, rfl, _⟩ := h.ex; rfl
/-- at most k draws more -/
def More (c k : Int) (b' : D) : Prop := ∃ c', c ≤ c' ∧ c' ≤ c + k ∧ BoxD b' c'
noncomputable def Qtake (c1 c2 : Int) : Nat → List D → FO
  | 0 => fun _ => .fail
  | d + 1 => qFnB 2 (qSeq (qIfS (qB (q2 (q2 (qVar 0) (qC (.int 0)) gSub1) (qC (.int 0)) gGt))
  (qSeq (qSet 2 (q2 (q2 (qVar 0) (qC (.int 0)) gSub1) (qVar 1) gMod))
  (qSeq (qPut 0 (qC (.int 0)) (q2 (q2 (qVar 0) (qC (.int 0)) gSub1) (qVar 1) gDiv))
  (qRet (qVar 2))))
  qNext)
  (qSeq (qIfS (qB (q2 (qVar 1) (q2 (qC (.int 10)) (qC (.int 7)) gPow) gGt))
  (qRet (q2 (q2 (qCallB 2 false false 0 (qCons (q2 (qC (.int 10)) (qC (.int 7)) gPow) qNil) (Qtake c1 c2 d)) (q2 (q2 (qC (.int 10)) (qC (.int 7)) gPow) (qCallB 2 false false 0 (qCons (q2 (q2 (q2 (qVar 1) (qC (.int 1)) gSub) (q2 (qC (.int 10)) (qC (.int 7)) gPow) gDiv) (qC (.int 1)) gAdd) qNil) (Qtake c1 c2 d)) gMul) gAdd) (qVar 1) gMod))
  qNext)
  (qSeq (qPut 0 (qC (.int 2)) (q2 (q2 (qVar 0) (qC (.int 2)) gSub1) (qC (.int 1)) gAdd))
  (qSeq (qSet 3 (q2 (q2 (q2 (q2 (qVar 0) (qC (.int 1)) gSub1) (q2 (qC (.int c1)) (q2 (qVar 0) (qC (.int 2)) gSub1) gMul) gAdd) (qC (.int 5)) gPow) (qC (.int 2147483647)) gMod))
  (qRet (q2 (q2 (q2 (q2 (q2 (qVar 3) (q2 (q2 (qVar 3) (qC (.int c2)) gMod) (qC (.int 7)) gAdd) gMul) (q2 (q2 (qVar 0) (qC (.int 2)) gSub1) (qC (.int 7919)) gMul) gAdd) (qC (.int 2147483629)) gMod) (qC (.int 64)) gDiv) (qVar 1) gMod))))))
theorem b_0 {x y z : D} : gSub1 (.lst [x, y, z]) (.int 0) = some x := id rfl
theorem b_1 {x y z : D} : gSub1 (.lst [x, y, z]) (.int 1) = some y := id rfl
theorem b_2 {x y z : D} : gSub1 (.lst [x, y, z]) (.int 2) = some z := id rfl
theorem p_0 {x y z v : D} : putD (.lst [x, y, z]) (.int 0) v = some (.lst [v, y, z]) := id rfl
theorem p_2 {x y z v : D} : putD (.lst [x, y, z]) (.int 2) v = some (.lst [x, y, v]) := id rfl
theorem gGt_int {i j : Int} : gGt (.int i) (.int j) = some (.bl (decide (j < i))) := id rfl
theorem nlc_box {x y z : Int} : nlc (.lst [.int x, .int y, .int z]) = true := id rfl
theorem CMul.sm' {i j : Int} (h : 0 ≤ i) (h2 : i < 2 ^ 64) : CMul i j ∨ CMulW i j := .inl (.inl ⟨by omega, h2⟩)
def TakeQ (T : List D → FO) : Prop := ∀ (b : D) (c : Int) (n : Nat), BoxD b c → c < 1099511627776 → 1 ≤ n → n ≤ 10000000 →
  Wf (T [b, .int (n : Nat)]) fun d b' => ∃ i : Nat, d = dn i ∧ i < n ∧ More c 1 b'
theorem qtake_ok {c1 c2 : Int} (h1 : 0 ≤ c1 ∧ c1 < 1000000) (h2 : 0 < c2 ∧ c2 < 1000000) (d : Nat) : TakeQ (Qtake c1 c2 (d + 1)) := by
  intro b c n hb hc h0 hn
  obtain ⟨⟨x, y, rfl, hx, hy, hy2⟩, hc0⟩ := hb
  have en : (0 : Int) < (n : Nat) := by omega
  unfold Qtake
  simp only [w_fn, w_fnB, List.map_cons, List.map_nil, List.replicate, List.cons_append, List.nil_append, t_seq, t_if, t_next, t_break, t_cont, t_ret, t_retN, t_set, t_WS, t_put, t_par, t_for, t_asg, t_setR, t_drop, wg_two, wg_three, wg_nm, ws_nx, ws_rt, wi_of, wi_rg, wi_st, w_lc0, w_ssc, w_lc, w_lent, w_var, w_C, w_1, w_2, w_nil, w_cons, w_L, w_B, w_T, w_yes, w_bAnd, w_bOr, w_bNot, w_And, w_Or, w_Not, w_If, w_chain, w_only, w_cut, w_meth, w_newK, w_newT, w_call, w_callB, w_callK, w_w, wo_some, wq_ret, gd0, gdS, ls0, lsS, asBl_bl, isLs_l, ob_l, setAll, true_and, and_true, d_add, d_addI, d_sub, d_cmp, d_neg, mk0, mk1, mk2, mk3, mk4, mk5, mt0, mt1, mt2, mt3, mt4, b_0, b_1, b_2, gGt_int, d_pow10]
  by_cases hx0 : 0 < x
  · rw [if_pos (by simpa using hx0)]
    simp only [w_fn, w_fnB, List.map_cons, List.map_nil, List.replicate, List.cons_append, List.nil_append, t_seq, t_if, t_next, t_break, t_cont, t_ret, t_retN, t_set, t_WS, t_put, t_par, t_for, t_asg, t_setR, t_drop, wg_two, wg_three, wg_nm, ws_nx, ws_rt, wi_of, wi_rg, wi_st, w_lc0, w_ssc, w_lc, w_lent, w_var, w_C, w_1, w_2, w_nil, w_cons, w_L, w_B, w_T, w_yes, w_bAnd, w_bOr, w_bNot, w_And, w_Or, w_Not, w_If, w_chain, w_only, w_cut, w_meth, w_newK, w_newT, w_call, w_callB, w_callK, w_w, wo_some, wq_ret, gd0, gdS, ls0, lsS, asBl_bl, isLs_l, ob_l, setAll, true_and, and_true, d_add, d_addI, d_sub, d_cmp, d_neg, mk0, mk1, mk2, mk3, mk4, mk5, mt0, mt1, mt2, mt3, mt4, d_mod en, d_div en (by omega), b_0, p_0, nlc_box]
    have q0 := Int.emod_nonneg x (show (n : Int) ≠ 0 by omega)
    have q1 := Int.emod_lt_of_pos x en
    exact ⟨(x % n).toNat, by show D.int _ = D.int _; congr 1; omega, by omega, c, by omega, by omega, ⟨_, _, rfl, Int.ediv_nonneg hx (by omega), hy, hy2⟩, hc0⟩
  · rw [if_neg (by simpa using hx0)]
    have ex : x = 0 := by omega
    subst ex
    rw [if_neg (by simp; omega)]
    have m1 : 0 ≤ c1 * (c + 1) := Int.mul_nonneg h1.1 (by omega)
    have m2 : c1 * (c + 1) ≤ 1000000 * (c + 1) := Int.mul_le_mul_of_nonneg_right (by omega) (by omega)
    have q0 := Int.emod_nonneg ((y + c1 * (c + 1)) ^ 5) (show (2147483647 : Int) ≠ 0 by omega)
    have q1 := Int.emod_lt_of_pos ((y + c1 * (c + 1)) ^ 5) (show (0 : Int) < 2147483647 by omega)
    simp only [w_fn, w_fnB, List.map_cons, List.map_nil, List.replicate, List.cons_append, List.nil_append, t_seq, t_if, t_next, t_break, t_cont, t_ret, t_retN, t_set, t_WS, t_put, t_par, t_for, t_asg, t_setR, t_drop, wg_two, wg_three, wg_nm, ws_nx, ws_rt, wi_of, wi_rg, wi_st, w_lc0, w_ssc, w_lc, w_lent, w_var, w_C, w_1, w_2, w_nil, w_cons, w_L, w_B, w_T, w_yes, w_bAnd, w_bOr, w_bNot, w_And, w_Or, w_Not, w_If, w_chain, w_only, w_cut, w_meth, w_newK, w_newT, w_call, w_callB, w_callK, w_w, wo_some, wq_ret, gd0, gdS, ls0, lsS, asBl_bl, isLs_l, ob_l, setAll, true_and, and_true, d_add, d_addI, d_sub, d_cmp, d_neg, mk0, mk1, mk2, mk3, mk4, mk5, mt0, mt1, mt2, mt3, mt4, b_0, b_1, b_2, p_2, d_mul (CMul.sm' h1.1 (show c1 < 2 ^ 64 by omega)), d_pow5 (i := y + c1 * (c + 1)) (by omega), d_mod (show (0 : Int) < 2147483647 by omega), d_mod h2.1, nlc_box]
    rw [d_mul (CMul.sm' q0 (by omega))]
    simp only [w_fn, w_fnB, List.map_cons, List.map_nil, List.replicate, List.cons_append, List.nil_append, t_seq, t_if, t_next, t_break, t_cont, t_ret, t_retN, t_set, t_WS, t_put, t_par, t_for, t_asg, t_setR, t_drop, wg_two, wg_three, wg_nm, ws_nx, ws_rt, wi_of, wi_rg, wi_st, w_lc0, w_ssc, w_lc, w_lent, w_var, w_C, w_1, w_2, w_nil, w_cons, w_L, w_B, w_T, w_yes, w_bAnd, w_bOr, w_bNot, w_And, w_Or, w_Not, w_If, w_chain, w_only, w_cut, w_meth, w_newK, w_newT, w_call, w_callB, w_callK, w_w, wo_some, wq_ret, gd0, gdS, ls0, lsS, asBl_bl, isLs_l, ob_l, setAll, true_and, and_true, d_add, d_addI, d_sub, d_cmp, d_neg, mk0, mk1, mk2, mk3, mk4, mk5, mt0, mt1, mt2, mt3, mt4, d_mul (CMul.sr (show (0 : Int) ≤ 7919 by omega) (by omega)), d_mod (show (0 : Int) < 2147483629 by omega), d_div (show (0 : Int) < 64 by omega) (by omega : (64 : Int) < 1073741824), d_mod en, nlc_box]
    generalize (_ : Int) / 64 = z
    have r0 := Int.emod_nonneg z (show (n : Int) ≠ 0 by omega)
    have r1 := Int.emod_lt_of_pos z en
    exact ⟨(z % n).toNat, by show D.int _ = D.int _; congr 1; omega, by omega, c + 1, by omega, by omega, ⟨0, y, rfl, by omega, hy, hy2⟩, by omega⟩
end MP

set_option maxRecDepth 100000
namespace MP
open PySem PySem.Spec PyProof.Rows L2
theorem Drew.fr {b : Nat} {S1 S2 : Ms} {c k : Int} (h : Drew b S1 c k S2) : Fr [b] S1 S2 := h.1
theorem Fr.setN {ms : List Nat} {S S1 : Ms} (a : Fr ms S S1) {n : Nat} {o : Ob} (h : n ∈ ms ∨ S.length ≤ n) : Fr ms S (S1.set n o) :=
  ⟨by rw [List.length_set]; exact a.1, fun k h1 h2 => by rw [List.getElem?_set_ne (fun z => by subst z; rcases h with h | h; exact h2 h; omega)]; exact a.2 k h1 h2⟩
theorem eraseIdx_mapM {α β : Type} (f : α → β) : ∀ (l : List α) (i : Nat), (l.map f).eraseIdx i = (l.eraseIdx i).map f
  | [], _ => rfl
  | x :: xs, 0 => rfl
  | x :: xs, i + 1 => by simp only [List.map_cons, List.eraseIdx_cons_succ, eraseIdx_mapM f xs i]
theorem perm_eraseIdx {α : Type} : ∀ (l : List α) (i : Nat) (h : i < l.length), (l[i] :: l.eraseIdx i).Perm l
  | x :: xs, 0, _ => .refl _
  | x :: xs, i + 1, h => by
    simp only [List.getElem_cons_succ, List.eraseIdx_cons_succ]
    exact (List.Perm.swap _ _ _).trans ((perm_eraseIdx xs i (by simpa using h)).cons _)
/-- a new list -/
def NewL (S : Ms) (v : PV) (xs : List PV) (S' : Ms) : Prop := ∃ n, v = .loc n ∧ S.length ≤ n ∧ S'[n]? = some (.lst xs)
variable {T : List PV → Ms → Out PV}
theorem Fr.len {ms : List Nat} {S S' : Ms} (h : Fr ms S S') : S.length ≤ S'.length := h.1
end MP

set_option maxRecDepth 100000
namespace MP
open PySem PySem.Spec PyProof.Rows L2
variable {T : List PV → Ms → Out PV}
theorem lim_of {n : Nat} (h : n ≤ 10000000) : n < lim := Nat.lt_of_le_of_lt h (by decide)
theorem fuel_of {n : Nat} (h : n ≤ 10000000) : n < fuel := Nat.lt_of_le_of_lt h (by decide)
theorem iv_mod (a b : Nat) : PV.int (((a : Nat) : Int) % ((b : Nat) : Int)) = iv (a % b) := by show PV.int _ = PV.int _; congr 1
theorem all_snoc {P : Nat → Prop} {ns : List Nat} {k : Nat} (h : ∀ x ∈ ns, P x) (hk : P k) : ∀ x ∈ ns ++ [k], P x := fun x hx => by
  rcases List.mem_append.mp hx with z | z
  · exact h x z
  · rw [List.mem_singleton] at z; rw [z]; exact hk
end MP

set_option maxRecDepth 100000
namespace MP
open PySem PySem.Spec PyProof.Rows L2
variable {T : List PV → Ms → Out PV}
theorem g_two {i j : Nat} {a b : PV} {e : Env'} : gTp 2 (gCn (gNm i) (gCn (gNm j) gNl)) (.tup [a, b]) e = some ((e.set i (some a)).set j (some b)) := by
  simp [gTp, gCn, gNm, gNl]
theorem perm_range {ns : List Nat} {n : Nat} (h : ns.Perm (List.range n)) : ns.length = n ∧ ∀ x ∈ ns, x < n :=
  ⟨by rw [h.length_eq]; simp, fun x hx => by have := h.mem_iff.mp hx; simpa using this⟩
theorem all_set {P : Nat → Prop} {ns : List Nat} {i k : Nat} (h : ∀ x ∈ ns, P x) (hk : P k) : ∀ x ∈ ns.set i k, P x := fun x hx => by
  rcases List.mem_or_eq_of_mem_set hx with z | z
  · exact h x z
  · rw [z]; exact hk
end MP

set_option maxRecDepth 100000
namespace MP
open PySem PySem.Spec PyProof.Rows L2
variable {T : List PV → Ms → Out PV}
/-- a state of people: tuples of pointers -/
def Sta (ns : List Nat) : Prop := ∀ x ∈ ns, x < ns.length
end MP

set_option maxRecDepth 100000
namespace MP
open PySem PySem.Spec PyProof.Rows L2
variable {T : List D → FO}
theorem okd0 {fr : Bool} {d : D} : okD false fr d = true := id rfl
theorem nl_nat {n : Nat} : noLsts [dn n] = true := id rfl
noncomputable def Qof (T : List D → FO) : List D → FO := qFnB 0 (qRet (q2 (qVar 1) (qCallB 2 false false 0 (qCons (qL (qCons (qVar 1) qNil) gLen) qNil) T) gSub1))
theorem qof_ok (hT : TakeQ T) {b v : D} {c : Int} {xs : List D} (hb : BoxD b c) (hc : c < 1099511627776) (hv : SqD v xs) (h0 : 1 ≤ xs.length) (hn : xs.length ≤ 10000000) :
    Wf (Qof T [b, v]) fun d b' => ∃ i : Nat, xs[i]? = some d ∧ More c 1 b' := by
  unfold Qof
  simp only [w_fn, w_fnB, List.map_cons, List.map_nil, List.replicate, List.cons_append, List.nil_append, t_seq, t_if, t_next, t_break, t_cont, t_ret, t_retN, t_set, t_WS, t_put, t_par, t_for, t_asg, t_setR, t_drop, wg_two, wg_three, wg_nm, ws_nx, ws_rt, wi_of, wi_rg, wi_st, w_lc0, w_ssc, w_lc, w_lent, w_var, w_C, w_1, w_2, w_nil, w_cons, w_L, w_B, w_T, w_yes, w_bAnd, w_bOr, w_bNot, w_And, w_Or, w_Not, w_If, w_chain, w_only, w_cut, w_meth, w_newK, w_newT, w_call, w_callB, w_callK, w_w, wo_some, wq_ret, gd0, gdS, ls0, lsS, asBl_bl, isLs_l, ob_l, setAll, true_and, and_true, d_add, d_addI, d_sub, d_cmp, d_neg, mk0, mk1, mk2, mk3, mk4, mk5, mt0, mt1, mt2, mt3, mt4, d_len hv, hb.obj, List.length_singleton, okd0]
  refine (hT b c _ hb hc h0 hn).mono fun d b' ⟨i, hd, hi, c', h1, h2, h3⟩ => ?_
  subst hd
  have e : xs[i]? = some xs[i] := List.getElem?_eq_getElem hi
  simp only [d_at hv (at_nat e), w_fn, w_fnB, List.map_cons, List.map_nil, List.replicate, List.cons_append, List.nil_append, t_seq, t_if, t_next, t_break, t_cont, t_ret, t_retN, t_set, t_WS, t_put, t_par, t_for, t_asg, t_setR, t_drop, wg_two, wg_three, wg_nm, ws_nx, ws_rt, wi_of, wi_rg, wi_st, w_lc0, w_ssc, w_lc, w_lent, w_var, w_C, w_1, w_2, w_nil, w_cons, w_L, w_B, w_T, w_yes, w_bAnd, w_bOr, w_bNot, w_And, w_Or, w_Not, w_If, w_chain, w_only, w_cut, w_meth, w_newK, w_newT, w_call, w_callB, w_callK, w_w, wo_some, wq_ret, gd0, gdS, ls0, lsS, asBl_bl, isLs_l, ob_l, setAll, true_and, and_true, d_add, d_addI, d_sub, d_cmp, d_neg, mk0, mk1, mk2, mk3, mk4, mk5, mt0, mt1, mt2, mt3, mt4, h3.nlc]
  exact ⟨i, e, c', h1, h2, h3⟩
noncomputable def Qstrewn (T : List D → FO) : List D → FO := qFnB 2 (qSeq (qPar [2, 3] (qCons (qL (qCons (qVar 1) qNil) gListOf) (qCons (qL qNil gList) qNil)))
  (qSeq (qWhile (qB (q2 (qVar 2) (qL qNil gList) gNe))
  (qWS 3 (qCons (qW 2 (qCons (qCallB 2 false false 0 (qCons (qL (qCons (qVar 2) qNil) gLen) qNil) T) qNil) gPop) qNil) gAppend))
  (qRet (qVar 3))))
theorem toPys_dns (k : Nat) : ∀ ns : List Nat, toPys k (dns ns) = some (dvs ns)
  | [] => by unfold toPys; rfl
  | n :: ns => by
    show toPys k (dn n :: dns ns) = _
    rw [toPys, toPys_dns k ns]
    cases k <;> simp [toPy, dvs, dv]
theorem toPy_dns (k : Nat) (ns : List Nat) : toPy (k + 1) (.lst (dns ns)) = some (.list (dvs ns)) := by rw [toPy, toPys_dns]; rfl
theorem sh_dnsL {ns : List Nat} (h : ns.length ≤ 10000000) : SeqAt.shaped (.list (dvs ns)) = true := by
  have r : Rd [Ob.lst (ivs ns)] 12 (.loc 0) (.list (dvs ns)) := Rd.ilst rfl h
  unfold SeqAt.shaped; rw [r.lay]; simp; have := r.dep; omega
theorem d_eqLs {ns ms : List Nat} (h : ns.length ≤ 10000000) (h2 : ms.length ≤ 10000000) : gEqB (.lst (dns ns)) (.lst (dns ms)) = some (decide (ns = ms)) := by
  unfold gEqB
  rw [toPy_dns, toPy_dns]
  simp only [sh_dnsL h, sh_dnsL h2, Bool.and_self, if_true]
  rw [eqv_ilst]
theorem d_neNil {ns : List Nat} (h : ns.length ≤ 10000000) : gNe (.lst (dns ns)) (.lst []) = some (.bl (!decide (ns = []))) := by
  unfold gNe
  rw [show (D.lst []) = .lst (dns []) from rfl, d_eqLs h (by simp)]; rfl
theorem d_popAt {ns : List Nat} {i : Nat} (h : i < ns.length) (h2 : ns.length ≤ 10000000) : gPop (.lst (dns ns)) [.int (i : Nat)] = some (dn (ns.getD i 0), .lst (dns (ns.eraseIdx i))) := by
  have e : seqIndex? (i : Int) (dns ns).length = some i := by
    rw [dns_len]
    unfold seqIndex?
    simp; omega
  have e2 : (dns ns)[i]? = some (dn (ns.getD i 0)) := by rw [List.getElem?_map, List.getD_eq_getElem?_getD, List.getElem?_eq_getElem h]; rfl
  simp only [gPop]
  rw [if_pos (by omega), e]
  dsimp only
  rw [e2]
  dsimp only
  rw [eraseIdx_mapM]
theorem dns_snoc (ns : List Nat) (n : Nat) : dns ns ++ [dn n] = dns (ns ++ [n]) := by simp
theorem qstrewn_ok (hT : TakeQ T) {b v : D} {c : Int} {ns : List Nat} (hb : BoxD b c) (hc : c + ns.length < 1099511627776) (hv : SqD v (dns ns)) (hn : ns.length ≤ 1000000) :
    Wf (Qstrewn T [b, v]) fun d b' => ∃ ms : List Nat, d = .lst (dns ms) ∧ ms.Perm ns ∧ More c ns.length b' := by
  unfold Qstrewn
  simp only [w_fn, w_fnB, List.map_cons, List.map_nil, List.replicate, List.cons_append, List.nil_append, t_seq, t_if, t_next, t_break, t_cont, t_ret, t_retN, t_set, t_WS, t_put, t_par, t_for, t_asg, t_setR, t_drop, wg_two, wg_three, wg_nm, ws_nx, ws_rt, wi_of, wi_rg, wi_st, w_lc0, w_ssc, w_lc, w_lent, w_var, w_C, w_1, w_2, w_nil, w_cons, w_L, w_B, w_T, w_yes, w_bAnd, w_bOr, w_bNot, w_And, w_Or, w_Not, w_If, w_chain, w_only, w_cut, w_meth, w_newK, w_newT, w_call, w_callB, w_callK, w_w, wo_some, wq_ret, gd0, gdS, ls0, lsS, asBl_bl, isLs_l, ob_l, setAll, true_and, and_true, d_add, d_addI, d_sub, d_cmp, d_neg, mk0, mk1, mk2, mk3, mk4, mk5, mt0, mt1, mt2, mt3, mt4, d_list hv, mk0]
  refine ⟨rfl, ?_⟩
  refine t_while (I := fun k e => ∃ (b' : D) (left got : List Nat) (c' : Int), k = left.length ∧ e = [some b', some v, some (.lst (dns left)), some (.lst (dns got))] ∧ (left ++ got).Perm ns ∧ c ≤ c' ∧ c' + left.length ≤ c + ns.length ∧ BoxD b' c') ns.length (fuelle (by omega)) ⟨b, ns, [], c, rfl, rfl, by simp, by omega, by omega, hb⟩ ?_
  rintro k e ⟨b', left, got, c', rfl, rfl, hp, h1, h2, hb'⟩
  have hpl := hp.length_eq
  rw [List.length_append] at hpl
  simp only [w_fn, w_fnB, List.map_cons, List.map_nil, List.replicate, List.cons_append, List.nil_append, t_seq, t_if, t_next, t_break, t_cont, t_ret, t_retN, t_set, t_WS, t_put, t_par, t_for, t_asg, t_setR, t_drop, wg_two, wg_three, wg_nm, ws_nx, ws_rt, wi_of, wi_rg, wi_st, w_lc0, w_ssc, w_lc, w_lent, w_var, w_C, w_1, w_2, w_nil, w_cons, w_L, w_B, w_T, w_yes, w_bAnd, w_bOr, w_bNot, w_And, w_Or, w_Not, w_If, w_chain, w_only, w_cut, w_meth, w_newK, w_newT, w_call, w_callB, w_callK, w_w, wo_some, wq_ret, gd0, gdS, ls0, lsS, asBl_bl, isLs_l, ob_l, setAll, true_and, and_true, d_add, d_addI, d_sub, d_cmp, d_neg, mk0, mk1, mk2, mk3, mk4, mk5, mt0, mt1, mt2, mt3, mt4, d_neNil (show left.length ≤ 10000000 by omega)]
  by_cases hz : left = []
  · subst hz
    simp only [decide_true, Bool.not_true, Bool.false_eq_true, if_false, w_fn, w_fnB, List.map_cons, List.map_nil, List.replicate, List.cons_append, List.nil_append, t_seq, t_if, t_next, t_break, t_cont, t_ret, t_retN, t_set, t_WS, t_put, t_par, t_for, t_asg, t_setR, t_drop, wg_two, wg_three, wg_nm, ws_nx, ws_rt, wi_of, wi_rg, wi_st, w_lc0, w_ssc, w_lc, w_lent, w_var, w_C, w_1, w_2, w_nil, w_cons, w_L, w_B, w_T, w_yes, w_bAnd, w_bOr, w_bNot, w_And, w_Or, w_Not, w_If, w_chain, w_only, w_cut, w_meth, w_newK, w_newT, w_call, w_callB, w_callK, w_w, wo_some, wq_ret, gd0, gdS, ls0, lsS, asBl_bl, isLs_l, ob_l, setAll, true_and, and_true, d_add, d_addI, d_sub, d_cmp, d_neg, mk0, mk1, mk2, mk3, mk4, mk5, mt0, mt1, mt2, mt3, mt4, hb'.nlc]
    exact ⟨got, rfl, by simpa using hp, c', h1, by simpa using h2, hb'⟩
  · simp only [hz, decide_false, Bool.not_false, if_true, w_fn, w_fnB, List.map_cons, List.map_nil, List.replicate, List.cons_append, List.nil_append, t_seq, t_if, t_next, t_break, t_cont, t_ret, t_retN, t_set, t_WS, t_put, t_par, t_for, t_asg, t_setR, t_drop, wg_two, wg_three, wg_nm, ws_nx, ws_rt, wi_of, wi_rg, wi_st, w_lc0, w_ssc, w_lc, w_lent, w_var, w_C, w_1, w_2, w_nil, w_cons, w_L, w_B, w_T, w_yes, w_bAnd, w_bOr, w_bNot, w_And, w_Or, w_Not, w_If, w_chain, w_only, w_cut, w_meth, w_newK, w_newT, w_call, w_callB, w_callK, w_w, wo_some, wq_ret, gd0, gdS, ls0, lsS, asBl_bl, isLs_l, ob_l, setAll, true_and, and_true, d_add, d_addI, d_sub, d_cmp, d_neg, mk0, mk1, mk2, mk3, mk4, mk5, mt0, mt1, mt2, mt3, mt4, hb'.obj, d_lenL, dns_len, List.length_singleton, okd0]
    have hpos : 0 < left.length := List.length_pos_iff.mpr hz
    refine (hT b' c' left.length hb' (by omega) (by omega) (by omega)).mono fun u b2 ⟨i, hu, hi, c2, q1, q2, hb2⟩ => ?_
    subst hu
    simp only [d_popAt hi (show left.length ≤ 10000000 by omega), w_fn, w_fnB, List.map_cons, List.map_nil, List.replicate, List.cons_append, List.nil_append, t_seq, t_if, t_next, t_break, t_cont, t_ret, t_retN, t_set, t_WS, t_put, t_par, t_for, t_asg, t_setR, t_drop, wg_two, wg_three, wg_nm, ws_nx, ws_rt, wi_of, wi_rg, wi_st, w_lc0, w_ssc, w_lc, w_lent, w_var, w_C, w_1, w_2, w_nil, w_cons, w_L, w_B, w_T, w_yes, w_bAnd, w_bOr, w_bNot, w_And, w_Or, w_Not, w_If, w_chain, w_only, w_cut, w_meth, w_newK, w_newT, w_call, w_callB, w_callK, w_w, wo_some, wq_ret, gd0, gdS, ls0, lsS, asBl_bl, isLs_l, ob_l, setAll, true_and, and_true, d_add, d_addI, d_sub, d_cmp, d_neg, mk0, mk1, mk2, mk3, mk4, mk5, mt0, mt1, mt2, mt3, mt4, nl_nat]
    simp only [d_app (show (dns got).length < lim by rw [dns_len]; exact limlt (by omega)), w_fn, w_fnB, List.map_cons, List.map_nil, List.replicate, List.cons_append, List.nil_append, t_seq, t_if, t_next, t_break, t_cont, t_ret, t_retN, t_set, t_WS, t_put, t_par, t_for, t_asg, t_setR, t_drop, wg_two, wg_three, wg_nm, ws_nx, ws_rt, wi_of, wi_rg, wi_st, w_lc0, w_ssc, w_lc, w_lent, w_var, w_C, w_1, w_2, w_nil, w_cons, w_L, w_B, w_T, w_yes, w_bAnd, w_bOr, w_bNot, w_And, w_Or, w_Not, w_If, w_chain, w_only, w_cut, w_meth, w_newK, w_newT, w_call, w_callB, w_callK, w_w, wo_some, wq_ret, gd0, gdS, ls0, lsS, asBl_bl, isLs_l, ob_l, setAll, true_and, and_true, d_add, d_addI, d_sub, d_cmp, d_neg, mk0, mk1, mk2, mk3, mk4, mk5, mt0, mt1, mt2, mt3, mt4, dns_snoc]
    refine ⟨left.length - 1, by omega, b2, left.eraseIdx i, got ++ [left.getD i 0], c2, by rw [List.length_eraseIdx_of_lt hi], rfl, ?_, by omega, by rw [List.length_eraseIdx_of_lt hi]; omega, hb2⟩
    have e : left.getD i 0 = left[i] := by rw [List.getD_eq_getElem?_getD, List.getElem?_eq_getElem hi]; rfl
    rw [e]
    have p1 : (left.eraseIdx i ++ (got ++ [left[i]])).Perm (left[i] :: (left.eraseIdx i ++ got)) := by
      rw [← List.append_assoc]; exact List.perm_append_singleton _ _
    have p2 : (left[i] :: left.eraseIdx i).Perm left := perm_eraseIdx left i hi
    exact (p1.trans (p2.append_right got)).trans hp
noncomputable def Qpart (T : List D → FO) : List D → FO := qFnB 4 (qSeq (qSet 2 (qCallB 2 false false 0 (qCons (qC (.int 5)) qNil) T))
  (qSeq (qPar [3, 4] (qCons (q2 (qL (qCons (qC (.int 0)) (qCons (qC (.int 1)) (qCons (qVar 1) (qCons (q2 (qC (.int 1)) (qCallB 2 false false 0 (qCons (qVar 1) qNil) T) gAdd) (qCons (qC (.int 1)) qNil))))) gList) (qVar 2) gSub1) (qCons (qL qNil gList) qNil)))
  (qSeq (qFor (qiRg qrng1 (qCons (qVar 1) qNil)) (qNm 5)
  (qIfS (qB (q2 (qVar 2) (qC (.int 0)) gEq))
  (qWS 4 (qCons (qCallB 2 false false 0 (qCons (qVar 1) qNil) T) qNil) gAppend)
  (qIfS (qB (q2 (qVar 5) (qVar 3) gLt))
  (qWS 4 (qCons (q2 (q2 (qVar 5) (qC (.int 1)) gAdd) (qVar 3) gMod) qNil) gAppend)
  (qWS 4 (qCons (qIf (qB (q2 (qVar 2) (qC (.int 4)) gEq)) (q2 (qVar 5) (qC (.int 1)) gSub) (qCallB 2 false false 0 (qCons (qVar 5) qNil) T)) qNil) gAppend))))
  (qRet (qVar 4)))))
theorem dn_add (a b : Nat) : D.int ((a : Int) + (b : Int)) = dn (a + b) := by show D.int _ = D.int _; congr 1
theorem dn_add1 (b : Nat) : D.int (1 + (b : Int)) = dn (1 + b) := dn_add 1 b
theorem dn_addr (b : Nat) : D.int ((b : Int) + 1) = dn (b + 1) := dn_add b 1
theorem dn_mod (a b : Nat) : D.int (((a : Nat) : Int) % ((b : Nat) : Int)) = dn (a % b) := by show D.int _ = D.int _; congr 1
theorem dn_sub1 {a : Nat} (h : 1 ≤ a) : D.int ((a : Int) - 1) = dn (a - 1) := by show D.int _ = D.int _; congr 1; omega
theorem dn_sub {a b : Nat} (h : b ≤ a) : D.int ((a : Int) - (b : Int)) = dn (a - b) := by show D.int _ = D.int _; congr 1; omega
theorem range_split {n k : Nat} {pre post : List Nat} (h : List.range n = pre ++ k :: post) : k < n ∧ pre.length = k := by
  have h1 : (List.range n)[pre.length]? = some k := by rw [h]; simp
  have hl : pre.length < n := by
    have := congrArg List.length h
    simp at this; omega
  rw [List.getElem?_range hl] at h1
  cases h1
  exact ⟨hl, rfl⟩
theorem dringed {n t i : Nat} (ht : t < n) (hi : i < 5) : ∃ r : Nat, atI [D.int 0, .int 1, .int (n : Nat), .int (1 + (t : Nat)), .int 1] (i : Nat) = some (dn r) ∧ r ≤ n ∧ (i ≠ 0 → 1 ≤ r) := by
  match i, hi with
  | 0, _ => exact ⟨0, rfl, by omega, by omega⟩
  | 1, _ => exact ⟨1, rfl, by omega, by omega⟩
  | 2, _ => exact ⟨n, rfl, by omega, by omega⟩
  | 3, _ => exact ⟨1 + t, by show some (D.int (1 + (t : Int))) = _; rw [dn_add1], by omega, by omega⟩
  | 4, _ => exact ⟨1, rfl, by omega, by omega⟩
theorem gLt_int {i j : Int} : gLt (.int i) (.int j) = some (.bl (decide (i < j))) := id rfl
theorem gLe_int {i j : Int} : gLe (.int i) (.int j) = some (.bl (decide (i ≤ j))) := id rfl
theorem qpart_ok (hT : TakeQ T) {b : D} {c : Int} {n : Nat} (hb : BoxD b c) (hc : c + n + 2 < 1099511627776) (h0 : 1 ≤ n) (hn : n ≤ 1000000) :
    Wf (Qpart T [b, .int (n : Nat)]) fun d b' => ∃ ms : List Nat, d = .lst (dns ms) ∧ ms.length = n ∧ (∀ x ∈ ms, x < n) ∧ More c (n + 2) b' := by
  unfold Qpart
  simp only [w_fn, w_fnB, List.map_cons, List.map_nil, List.replicate, List.cons_append, List.nil_append, t_seq, t_if, t_next, t_break, t_cont, t_ret, t_retN, t_set, t_WS, t_put, t_par, t_for, t_asg, t_setR, t_drop, wg_two, wg_three, wg_nm, ws_nx, ws_rt, wi_of, wi_rg, wi_st, w_lc0, w_ssc, w_lc, w_lent, w_var, w_C, w_1, w_2, w_nil, w_cons, w_L, w_B, w_T, w_yes, w_bAnd, w_bOr, w_bNot, w_And, w_Or, w_Not, w_If, w_chain, w_only, w_cut, w_meth, w_newK, w_newT, w_call, w_callB, w_callK, w_w, wo_some, wq_ret, gd0, gdS, ls0, lsS, asBl_bl, isLs_l, ob_l, setAll, true_and, and_true, d_add, d_addI, d_sub, d_cmp, d_neg, mk0, mk1, mk2, mk3, mk4, mk5, mt0, mt1, mt2, mt3, mt4, hb.obj, List.length_singleton, okd0]
  refine (hT b c 5 hb (by omega) (by omega) (by omega)).mono fun u b1 ⟨i, hu, hi, c1, q1, q2, hb1⟩ => ?_
  subst hu
  simp only [w_fn, w_fnB, List.map_cons, List.map_nil, List.replicate, List.cons_append, List.nil_append, t_seq, t_if, t_next, t_break, t_cont, t_ret, t_retN, t_set, t_WS, t_put, t_par, t_for, t_asg, t_setR, t_drop, wg_two, wg_three, wg_nm, ws_nx, ws_rt, wi_of, wi_rg, wi_st, w_lc0, w_ssc, w_lc, w_lent, w_var, w_C, w_1, w_2, w_nil, w_cons, w_L, w_B, w_T, w_yes, w_bAnd, w_bOr, w_bNot, w_And, w_Or, w_Not, w_If, w_chain, w_only, w_cut, w_meth, w_newK, w_newT, w_call, w_callB, w_callK, w_w, wo_some, wq_ret, gd0, gdS, ls0, lsS, asBl_bl, isLs_l, ob_l, setAll, true_and, and_true, d_add, d_addI, d_sub, d_cmp, d_neg, mk0, mk1, mk2, mk3, mk4, mk5, mt0, mt1, mt2, mt3, mt4, hb1.obj, List.length_singleton, okd0]
  refine (hT b1 c1 n hb1 (by omega) (by omega) (by omega)).mono fun u b2 ⟨t, hu, ht, c2, q3, q4, hb2⟩ => ?_
  subst hu
  obtain ⟨r, hr, hr1, hr2⟩ := dringed ht hi
  simp only [w_fn, w_fnB, List.map_cons, List.map_nil, List.replicate, List.cons_append, List.nil_append, t_seq, t_if, t_next, t_break, t_cont, t_ret, t_retN, t_set, t_WS, t_put, t_par, t_for, t_asg, t_setR, t_drop, wg_two, wg_three, wg_nm, ws_nx, ws_rt, wi_of, wi_rg, wi_st, w_lc0, w_ssc, w_lc, w_lent, w_var, w_C, w_1, w_2, w_nil, w_cons, w_L, w_B, w_T, w_yes, w_bAnd, w_bOr, w_bNot, w_And, w_Or, w_Not, w_If, w_chain, w_only, w_cut, w_meth, w_newK, w_newT, w_call, w_callB, w_callK, w_w, wo_some, wq_ret, gd0, gdS, ls0, lsS, asBl_bl, isLs_l, ob_l, setAll, true_and, and_true, d_add, d_addI, d_sub, d_cmp, d_neg, mk0, mk1, mk2, mk3, mk4, mk5, mt0, mt1, mt2, mt3, mt4, d_at SqD.l hr]
  refine ⟨rfl, ?_⟩
  simp only [w_fn, w_fnB, List.map_cons, List.map_nil, List.replicate, List.cons_append, List.nil_append, t_seq, t_if, t_next, t_break, t_cont, t_ret, t_retN, t_set, t_WS, t_put, t_par, t_for, t_asg, t_setR, t_drop, wg_two, wg_three, wg_nm, ws_nx, ws_rt, wi_of, wi_rg, wi_st, w_lc0, w_ssc, w_lc, w_lent, w_var, w_C, w_1, w_2, w_nil, w_cons, w_L, w_B, w_T, w_yes, w_bAnd, w_bOr, w_bNot, w_And, w_Or, w_Not, w_If, w_chain, w_only, w_cut, w_meth, w_newK, w_newT, w_call, w_callB, w_callK, w_w, wo_some, wq_ret, gd0, gdS, ls0, lsS, asBl_bl, isLs_l, ob_l, setAll, true_and, and_true, d_add, d_addI, d_sub, d_cmp, d_neg, mk0, mk1, mk2, mk3, mk4, mk5, mt0, mt1, mt2, mt3, mt4, d_rng1 (show n ≤ 10000000 by omega), dns_len, List.length_range]
  refine ⟨limle (by omega), t_forL (φ := dn) (I := fun pre e => ∃ (b' : D) (ns : List Nat) (c' : Int) (x5 : Option D), e = [some b', some (dn n), some (dn i), some (dn r), some (.lst (dns ns)), x5] ∧ ns.length = pre.length ∧ (∀ x ∈ ns, x < n) ∧ c ≤ c' ∧ c' ≤ c + pre.length + 2 ∧ BoxD b' c') ⟨b2, [], c2, none, rfl, rfl, by simp, by omega, by simp; omega, hb2⟩ ?_ ?_⟩
  · rintro pre k post e hl ⟨b', ns, c', x5, rfl, h2, h3, h4, h5, h6⟩
    obtain ⟨hk, hpl⟩ := range_split hl
    have put : ∀ (b4 : D) (x : Nat) (c4 : Int), x < n → c ≤ c4 → c4 ≤ c' + 1 → BoxD b4 c4 →
        ∃ (b' : D) (ns' : List Nat) (c' : Int) (x5' : Option D), [some b4, some (dn n), some (dn i), some (dn r), some (.lst (dns (ns ++ [x]))), some (dn k)] = [some b', some (dn n), some (dn i), some (dn r), some (.lst (dns ns')), x5'] ∧ ns'.length = (pre ++ [k]).length ∧ (∀ x ∈ ns', x < n) ∧ c ≤ c' ∧ c' ≤ c + (pre ++ [k]).length + 2 ∧ BoxD b' c' := by
      intro b4 x c4 hx g2 g3 g4
      exact ⟨b4, ns ++ [x], c4, _, rfl, by simp [h2], all_snoc h3 hx, g2, by simp; omega, g4⟩
    have happ : ∀ x : Nat, gAppend (.lst (dns ns)) [dn x] = some (.non, .lst (dns (ns ++ [x]))) := fun x => by rw [d_app (by rw [dns_len]; exact limlt (by omega)), dns_snoc]
    simp only [w_fn, w_fnB, List.map_cons, List.map_nil, List.replicate, List.cons_append, List.nil_append, t_seq, t_if, t_next, t_break, t_cont, t_ret, t_retN, t_set, t_WS, t_put, t_par, t_for, t_asg, t_setR, t_drop, wg_two, wg_three, wg_nm, ws_nx, ws_rt, wi_of, wi_rg, wi_st, w_lc0, w_ssc, w_lc, w_lent, w_var, w_C, w_1, w_2, w_nil, w_cons, w_L, w_B, w_T, w_yes, w_bAnd, w_bOr, w_bNot, w_And, w_Or, w_Not, w_If, w_chain, w_only, w_cut, w_meth, w_newK, w_newT, w_call, w_callB, w_callK, w_w, wo_some, wq_ret, gd0, gdS, ls0, lsS, asBl_bl, isLs_l, ob_l, setAll, true_and, and_true, d_add, d_addI, d_sub, d_cmp, d_neg, mk0, mk1, mk2, mk3, mk4, mk5, mt0, mt1, mt2, mt3, mt4, d_eqI, gLt_int, h6.obj, List.length_singleton, okd0]
    by_cases hi0 : i = 0
    · subst hi0
      rw [if_pos (by simp)]
      refine (hT b' c' n h6 (by omega) (by omega) (by omega)).mono fun u b4 ⟨x, hu, hx, c4, g1, g2, hb4⟩ => ?_
      subst hu
      simp only [w_fn, w_fnB, List.map_cons, List.map_nil, List.replicate, List.cons_append, List.nil_append, t_seq, t_if, t_next, t_break, t_cont, t_ret, t_retN, t_set, t_WS, t_put, t_par, t_for, t_asg, t_setR, t_drop, wg_two, wg_three, wg_nm, ws_nx, ws_rt, wi_of, wi_rg, wi_st, w_lc0, w_ssc, w_lc, w_lent, w_var, w_C, w_1, w_2, w_nil, w_cons, w_L, w_B, w_T, w_yes, w_bAnd, w_bOr, w_bNot, w_And, w_Or, w_Not, w_If, w_chain, w_only, w_cut, w_meth, w_newK, w_newT, w_call, w_callB, w_callK, w_w, wo_some, wq_ret, gd0, gdS, ls0, lsS, asBl_bl, isLs_l, ob_l, setAll, true_and, and_true, d_add, d_addI, d_sub, d_cmp, d_neg, mk0, mk1, mk2, mk3, mk4, mk5, mt0, mt1, mt2, mt3, mt4, happ]
      exact put b4 x c4 hx (by omega) (by omega) hb4
    · rw [if_neg (by simp; omega)]
      have hr0 := hr2 hi0
      by_cases hkr : k < r
      · rw [if_pos (by simpa using hkr)]
        simp only [w_fn, w_fnB, List.map_cons, List.map_nil, List.replicate, List.cons_append, List.nil_append, t_seq, t_if, t_next, t_break, t_cont, t_ret, t_retN, t_set, t_WS, t_put, t_par, t_for, t_asg, t_setR, t_drop, wg_two, wg_three, wg_nm, ws_nx, ws_rt, wi_of, wi_rg, wi_st, w_lc0, w_ssc, w_lc, w_lent, w_var, w_C, w_1, w_2, w_nil, w_cons, w_L, w_B, w_T, w_yes, w_bAnd, w_bOr, w_bNot, w_And, w_Or, w_Not, w_If, w_chain, w_only, w_cut, w_meth, w_newK, w_newT, w_call, w_callB, w_callK, w_w, wo_some, wq_ret, gd0, gdS, ls0, lsS, asBl_bl, isLs_l, ob_l, setAll, true_and, and_true, d_add, d_addI, d_sub, d_cmp, d_neg, mk0, mk1, mk2, mk3, mk4, mk5, mt0, mt1, mt2, mt3, mt4, dn_addr, d_mod (show (0 : Int) < (r : Nat) by omega), dn_mod]
        simp only [happ, w_fn, w_fnB, List.map_cons, List.map_nil, List.replicate, List.cons_append, List.nil_append, t_seq, t_if, t_next, t_break, t_cont, t_ret, t_retN, t_set, t_WS, t_put, t_par, t_for, t_asg, t_setR, t_drop, wg_two, wg_three, wg_nm, ws_nx, ws_rt, wi_of, wi_rg, wi_st, w_lc0, w_ssc, w_lc, w_lent, w_var, w_C, w_1, w_2, w_nil, w_cons, w_L, w_B, w_T, w_yes, w_bAnd, w_bOr, w_bNot, w_And, w_Or, w_Not, w_If, w_chain, w_only, w_cut, w_meth, w_newK, w_newT, w_call, w_callB, w_callK, w_w, wo_some, wq_ret, gd0, gdS, ls0, lsS, asBl_bl, isLs_l, ob_l, setAll, true_and, and_true, d_add, d_addI, d_sub, d_cmp, d_neg, mk0, mk1, mk2, mk3, mk4, mk5, mt0, mt1, mt2, mt3, mt4]
        exact put b' _ c' (Nat.lt_of_lt_of_le (Nat.mod_lt _ hr0) hr1) (by omega) (by omega) h6
      · rw [if_neg (by simpa using hkr)]
        by_cases hi4 : i = 4
        · subst hi4
          rw [if_pos (by simp), dn_sub1 (by omega)]
          simp only [happ, w_fn, w_fnB, List.map_cons, List.map_nil, List.replicate, List.cons_append, List.nil_append, t_seq, t_if, t_next, t_break, t_cont, t_ret, t_retN, t_set, t_WS, t_put, t_par, t_for, t_asg, t_setR, t_drop, wg_two, wg_three, wg_nm, ws_nx, ws_rt, wi_of, wi_rg, wi_st, w_lc0, w_ssc, w_lc, w_lent, w_var, w_C, w_1, w_2, w_nil, w_cons, w_L, w_B, w_T, w_yes, w_bAnd, w_bOr, w_bNot, w_And, w_Or, w_Not, w_If, w_chain, w_only, w_cut, w_meth, w_newK, w_newT, w_call, w_callB, w_callK, w_w, wo_some, wq_ret, gd0, gdS, ls0, lsS, asBl_bl, isLs_l, ob_l, setAll, true_and, and_true, d_add, d_addI, d_sub, d_cmp, d_neg, mk0, mk1, mk2, mk3, mk4, mk5, mt0, mt1, mt2, mt3, mt4]
          exact put b' _ c' (by omega) (by omega) (by omega) h6
        · rw [if_neg (by simp; omega)]
          refine (hT b' c' k h6 (by omega) (by omega) (by omega)).mono fun u b4 ⟨x, hu, hx, c4, g1, g2, hb4⟩ => ?_
          subst hu
          simp only [happ, w_fn, w_fnB, List.map_cons, List.map_nil, List.replicate, List.cons_append, List.nil_append, t_seq, t_if, t_next, t_break, t_cont, t_ret, t_retN, t_set, t_WS, t_put, t_par, t_for, t_asg, t_setR, t_drop, wg_two, wg_three, wg_nm, ws_nx, ws_rt, wi_of, wi_rg, wi_st, w_lc0, w_ssc, w_lc, w_lent, w_var, w_C, w_1, w_2, w_nil, w_cons, w_L, w_B, w_T, w_yes, w_bAnd, w_bOr, w_bNot, w_And, w_Or, w_Not, w_If, w_chain, w_only, w_cut, w_meth, w_newK, w_newT, w_call, w_callB, w_callK, w_w, wo_some, wq_ret, gd0, gdS, ls0, lsS, asBl_bl, isLs_l, ob_l, setAll, true_and, and_true, d_add, d_addI, d_sub, d_cmp, d_neg, mk0, mk1, mk2, mk3, mk4, mk5, mt0, mt1, mt2, mt3, mt4]
          exact put b4 x c4 (by omega) (by omega) (by omega) hb4
  · rintro e ⟨b', ns, c', x5, rfl, h2, h3, h4, h5, h6⟩
    simp only [w_fn, w_fnB, List.map_cons, List.map_nil, List.replicate, List.cons_append, List.nil_append, t_seq, t_if, t_next, t_break, t_cont, t_ret, t_retN, t_set, t_WS, t_put, t_par, t_for, t_asg, t_setR, t_drop, wg_two, wg_three, wg_nm, ws_nx, ws_rt, wi_of, wi_rg, wi_st, w_lc0, w_ssc, w_lc, w_lent, w_var, w_C, w_1, w_2, w_nil, w_cons, w_L, w_B, w_T, w_yes, w_bAnd, w_bOr, w_bNot, w_And, w_Or, w_Not, w_If, w_chain, w_only, w_cut, w_meth, w_newK, w_newT, w_call, w_callB, w_callK, w_w, wo_some, wq_ret, gd0, gdS, ls0, lsS, asBl_bl, isLs_l, ob_l, setAll, true_and, and_true, d_add, d_addI, d_sub, d_cmp, d_neg, mk0, mk1, mk2, mk3, mk4, mk5, mt0, mt1, mt2, mt3, mt4, h6.nlc]
    simp only [List.length_range] at h2 h5
    exact ⟨ns, rfl, h2, h3, c', by omega, by omega, h6⟩
end MP

set_option maxRecDepth 100000
namespace MP
open PySem PySem.Spec PyProof.Rows L2
variable {T : List D → FO}
theorem enm_dns (ns : List Nat) : enmD (dns ns) = ((List.range ns.length).zip ns).map fun p => .tup [dn p.1, dn p.2] := by
  unfold enmD
  rw [dns_len]
  show List.map _ ((List.range ns.length).zip (ns.map dn)) = _
  rw [List.zip_map_right, List.map_map]; rfl
theorem zip_split {ns : List Nat} {pre post : List (Nat × Nat)} {x : Nat × Nat} (h : (List.range ns.length).zip ns = pre ++ x :: post) : x.1 = pre.length ∧ x.1 < ns.length ∧ ns.getD x.1 0 = x.2 := by
  have h1 : ((List.range ns.length).zip ns)[pre.length]? = some x := by rw [h]; simp
  rw [List.getElem?_zip_eq_some] at h1
  obtain ⟨a, b⟩ := h1
  have hl : pre.length < ns.length := (List.getElem?_eq_some_iff.mp b).1
  rw [List.getElem?_range hl] at a
  cases x with
  | mk u v =>
    cases a
    exact ⟨rfl, hl, by rw [List.getD_eq_getElem?_getD, b]; rfl⟩
theorem d_mulL {k : Nat} {x : D} (hk : k ≤ 10000000) : gMul (.lst [x]) (.int (k : Nat)) = some (.lst (List.replicate k x)) := by
  simp only [gMul]
  rw [if_pos ⟨by omega, by omega, by rw [Int.toNat_natCast]; simp; exact limle hk⟩]
  have e : (List.replicate k [x]).flatten = List.replicate k x := by
    induction k with
    | zero => rfl
    | succ k ih => rw [List.replicate_succ, List.flatten_cons, ih (by omega)]; rfl
  rw [Int.toNat_natCast, e]
noncomputable def Qmixed (T : List D → FO) : List D → FO := qFnB 4 (qSeq (qPar [2, 3] (qCons (qCallB 2 false true 0 (qCons (q1 (qL (qCons (qVar 1) qNil) gLen) gListRg1) qNil) (Qstrewn T)) (qCons (q2 (qL (qCons (qC (.int 0)) qNil) gList) (qL (qCons (qVar 1) qNil) gLen) gMul) qNil)))
  (qSeq (qFor (qiSt qenm (qCons (qVar 1) qNil)) (qTp 2 (qCn (qNm 4) (qCn (qNm 5) qNl)))
  (qPut 3 (q2 (qVar 2) (qVar 4) gSub1) (q2 (qVar 2) (qVar 5) gSub1)))
  (qRet (qL (qCons (qVar 3) qNil) gTupOf))))
theorem qmixed_ok (hT : TakeQ T) {b : D} {c : Int} {ns : List Nat} (hb : BoxD b c) (hc : c + ns.length < 1099511627776) (hn : ns.length ≤ 1000000) (ha : ∀ x ∈ ns, x < ns.length) :
    Wf (Qmixed T [b, .lst (dns ns)]) fun d b' => ∃ ms : List Nat, d = .tup (dns ms) ∧ ms.length = ns.length ∧ (∀ x ∈ ms, x < ns.length) ∧ More c ns.length b' := by
  unfold Qmixed
  simp only [w_fn, w_fnB, List.map_cons, List.map_nil, List.replicate, List.cons_append, List.nil_append, t_seq, t_if, t_next, t_break, t_cont, t_ret, t_retN, t_set, t_WS, t_put, t_par, t_for, t_asg, t_setR, t_drop, wg_two, wg_three, wg_nm, ws_nx, ws_rt, wi_of, wi_rg, wi_st, w_lc0, w_ssc, w_lc, w_lent, w_var, w_C, w_1, w_2, w_nil, w_cons, w_L, w_B, w_T, w_yes, w_bAnd, w_bOr, w_bNot, w_And, w_Or, w_Not, w_If, w_chain, w_only, w_cut, w_meth, w_newK, w_newT, w_call, w_callB, w_callK, w_w, wo_some, wq_ret, gd0, gdS, ls0, lsS, asBl_bl, isLs_l, ob_l, setAll, true_and, and_true, d_add, d_addI, d_sub, d_cmp, d_neg, mk0, mk1, mk2, mk3, mk4, mk5, mt0, mt1, mt2, mt3, mt4, hb.obj, d_lenL, dns_len, d_listRg (show ns.length ≤ 10000000 by omega), d_mulL (show ns.length ≤ 10000000 by omega), List.length_singleton, okd0]
  have key := qstrewn_ok (ns := List.range ns.length) hT hb (by simpa using hc) (SqD.l) (by simpa using hn)
  refine key.mono ?_
  clear key
  rintro u b1 ⟨tg, hu, hp, c1, q1, q2, hb1⟩
  subst hu
  obtain ⟨p1, p2⟩ := perm_range hp
  rw [List.length_range] at q2
  refine ⟨rfl, ?_⟩
  simp only [qenm, enm_dns, w_fn, w_fnB, List.map_cons, List.map_nil, List.replicate, List.cons_append, List.nil_append, t_seq, t_if, t_next, t_break, t_cont, t_ret, t_retN, t_set, t_WS, t_put, t_par, t_for, t_asg, t_setR, t_drop, wg_two, wg_three, wg_nm, ws_nx, ws_rt, wi_of, wi_rg, wi_st, w_lc0, w_ssc, w_lc, w_lent, w_var, w_C, w_1, w_2, w_nil, w_cons, w_L, w_B, w_T, w_yes, w_bAnd, w_bOr, w_bNot, w_And, w_Or, w_Not, w_If, w_chain, w_only, w_cut, w_meth, w_newK, w_newT, w_call, w_callB, w_callK, w_w, wo_some, wq_ret, gd0, gdS, ls0, lsS, asBl_bl, isLs_l, ob_l, setAll, true_and, and_true, d_add, d_addI, d_sub, d_cmp, d_neg, mk0, mk1, mk2, mk3, mk4, mk5, mt0, mt1, mt2, mt3, mt4]
  have hzl : ((List.range ns.length).zip ns).length = ns.length := by simp
  refine ⟨by rw [List.length_map, hzl]; exact limle (by omega), t_forL (I := fun pre e => ∃ (hs : List Nat) (x4 x5 : Option D), e = [some b1, some (.lst (dns ns)), some (.lst (dns tg)), some (.lst (dns hs)), x4, x5] ∧ hs.length = ns.length ∧ (∀ x ∈ hs, x < ns.length)) ⟨List.replicate ns.length 0, none, none, by simp [dns, List.map_replicate], by simp, fun x hx => by have := List.mem_replicate.mp hx; omega⟩ ?_ ?_⟩
  · rintro pre x post e hl ⟨hs, x4, x5, rfl, h2, h3⟩
    obtain ⟨e1, e2, e3⟩ := zip_split hl
    have hx2 : x.2 < ns.length := by
      rw [← e3, List.getD_eq_getElem?_getD, List.getElem?_eq_getElem e2]; exact ha _ (List.getElem_mem e2)
    have m1 : tg.getD x.1 0 < hs.length := by
      rw [List.getD_eq_getElem?_getD, List.getElem?_eq_getElem (by omega), h2]; exact p2 _ (List.getElem_mem _)
    have m2 : tg.getD x.2 0 < ns.length := by
      rw [List.getD_eq_getElem?_getD, List.getElem?_eq_getElem (by omega)]; exact p2 _ (List.getElem_mem _)
    simp only [w_fn, w_fnB, List.map_cons, List.map_nil, List.replicate, List.cons_append, List.nil_append, t_seq, t_if, t_next, t_break, t_cont, t_ret, t_retN, t_set, t_WS, t_put, t_par, t_for, t_asg, t_setR, t_drop, wg_two, wg_three, wg_nm, ws_nx, ws_rt, wi_of, wi_rg, wi_st, w_lc0, w_ssc, w_lc, w_lent, w_var, w_C, w_1, w_2, w_nil, w_cons, w_L, w_B, w_T, w_yes, w_bAnd, w_bOr, w_bNot, w_And, w_Or, w_Not, w_If, w_chain, w_only, w_cut, w_meth, w_newK, w_newT, w_call, w_callB, w_callK, w_w, wo_some, wq_ret, gd0, gdS, ls0, lsS, asBl_bl, isLs_l, ob_l, setAll, true_and, and_true, d_add, d_addI, d_sub, d_cmp, d_neg, mk0, mk1, mk2, mk3, mk4, mk5, mt0, mt1, mt2, mt3, mt4, d_subN (SqD.l (xs := dns tg)) (show x.1 < tg.length by omega), d_subN (SqD.l (xs := dns tg)) (show x.2 < tg.length by omega), d_putL (xs := dns hs) (show _ < (dns hs).length by rw [dns_len]; exact m1)]
    exact ⟨hs.set (tg.getD x.1 0) (tg.getD x.2 0), some (dn x.1), some (dn x.2), by simp [dns], by simp [h2], all_set h3 m2⟩
  · rintro e ⟨hs, x4, x5, rfl, h2, h3⟩
    simp only [w_fn, w_fnB, List.map_cons, List.map_nil, List.replicate, List.cons_append, List.nil_append, t_seq, t_if, t_next, t_break, t_cont, t_ret, t_retN, t_set, t_WS, t_put, t_par, t_for, t_asg, t_setR, t_drop, wg_two, wg_three, wg_nm, ws_nx, ws_rt, wi_of, wi_rg, wi_st, w_lc0, w_ssc, w_lc, w_lent, w_var, w_C, w_1, w_2, w_nil, w_cons, w_L, w_B, w_T, w_yes, w_bAnd, w_bOr, w_bNot, w_And, w_Or, w_Not, w_If, w_chain, w_only, w_cut, w_meth, w_newK, w_newT, w_call, w_callB, w_callK, w_w, wo_some, wq_ret, gd0, gdS, ls0, lsS, asBl_bl, isLs_l, ob_l, setAll, true_and, and_true, d_add, d_addI, d_sub, d_cmp, d_neg, mk0, mk1, mk2, mk3, mk4, mk5, mt0, mt1, mt2, mt3, mt4, d_tup (SqD.l (xs := dns hs)), hb1.nlc]
    exact ⟨hs, rfl, h2, h3, c1, q1, q2, hb1⟩
noncomputable def Qdrawn (T : List D → FO) : List D → FO := qFnB 5 (qSeq (qAsg (qTp 2 (qCn (qNm 2) (qCn (qNm 3) qNl))) (qL (qCons (q2 (qC (.int 1)) (qCallB 2 false false 0 (qCons (qVar 1) qNil) T) gAdd) (qCons (qL qNil gList) qNil)) gTup))
  (qSeq (qWhile (qB (q2 (qL (qCons (qVar 3) qNil) gLen) (qVar 2) gLt))
  (qSeq (qSet 4 (q2 (qVar 2) (qL (qCons (qVar 3) qNil) gLen) gSub))
  (qSeq (qSet 5 (qCallB 2 false true 0 (qCons (qCallB 2 false false 0 (qCons (qL (qCons (qVar 4) (qCons (qVar 4) (qCons (q2 (qC (.int 1)) (qCallB 2 false false 0 (qCons (qVar 4) qNil) T) gAdd) qNil))) gList) qNil) (Qof T)) qNil) (Qpart T)))
  (qSet 3 (q2 (qVar 3) (qLc0 (qiOf (qVar 5)) (qNm 6) qYes (q2 (qL (qCons (qVar 3) qNil) gLen) (qVar 6) gAdd) [6]) gAdd)))))
  (qRet (qCallB 2 false true 0 (qCons (qVar 3) qNil) (Qmixed T)))))
theorem items_l {xs : List D} : itemsD (.lst xs) = some xs := id rfl
theorem items_t {xs : List D} : itemsD (.tup xs) = some xs := id rfl
theorem wipe1 {e : DE} {i : Nat} : wipeD e [i] = e.set i none := id rfl
theorem qdrawn_ok (hT : TakeQ T) {b : D} {c : Int} {most : Nat} (hb : BoxD b c) (hc : c + 6 * most + 1 < 1099511627776) (h0 : 1 ≤ most) (hn : most ≤ 1000000) :
    Wf (Qdrawn T [b, .int (most : Nat)]) fun d b' => ∃ ms : List Nat, d = .tup (dns ms) ∧ 1 ≤ ms.length ∧ ms.length ≤ most ∧ Sta ms ∧ More c (6 * most + 1) b' := by
  unfold Qdrawn
  simp only [w_fn, w_fnB, List.map_cons, List.map_nil, List.replicate, List.cons_append, List.nil_append, t_seq, t_if, t_next, t_break, t_cont, t_ret, t_retN, t_set, t_WS, t_put, t_par, t_for, t_asg, t_setR, t_drop, wg_two, wg_three, wg_nm, ws_nx, ws_rt, wi_of, wi_rg, wi_st, w_lc0, w_ssc, w_lc, w_lent, w_var, w_C, w_1, w_2, w_nil, w_cons, w_L, w_B, w_T, w_yes, w_bAnd, w_bOr, w_bNot, w_And, w_Or, w_Not, w_If, w_chain, w_only, w_cut, w_meth, w_newK, w_newT, w_call, w_callB, w_callK, w_w, wo_some, wq_ret, gd0, gdS, ls0, lsS, asBl_bl, isLs_l, ob_l, setAll, true_and, and_true, d_add, d_addI, d_sub, d_cmp, d_neg, mk0, mk1, mk2, mk3, mk4, mk5, mt0, mt1, mt2, mt3, mt4, hb.obj, List.length_singleton, okd0]
  refine (hT b c most hb (by omega) h0 (by omega)).mono fun u b1 ⟨t, hu, ht, c1, q1, q2, hb1⟩ => ?_
  subst hu
  simp only [w_fn, w_fnB, List.map_cons, List.map_nil, List.replicate, List.cons_append, List.nil_append, t_seq, t_if, t_next, t_break, t_cont, t_ret, t_retN, t_set, t_WS, t_put, t_par, t_for, t_asg, t_setR, t_drop, wg_two, wg_three, wg_nm, ws_nx, ws_rt, wi_of, wi_rg, wi_st, w_lc0, w_ssc, w_lc, w_lent, w_var, w_C, w_1, w_2, w_nil, w_cons, w_L, w_B, w_T, w_yes, w_bAnd, w_bOr, w_bNot, w_And, w_Or, w_Not, w_If, w_chain, w_only, w_cut, w_meth, w_newK, w_newT, w_call, w_callB, w_callK, w_w, wo_some, wq_ret, gd0, gdS, ls0, lsS, asBl_bl, isLs_l, ob_l, setAll, true_and, and_true, d_add, d_addI, d_sub, d_cmp, d_neg, mk0, mk1, mk2, mk3, mk4, mk5, mt0, mt1, mt2, mt3, mt4, dn_add1]

  refine t_while (I := fun k e => ∃ (b' : D) (ns : List Nat) (x4 x5 x6 : Option D) (c' : Int), k = 1 + t - ns.length ∧ e = [some b', some (dn most), some (dn (1 + t)), some (.lst (dns ns)), x4, x5, x6] ∧ Sta ns ∧ ns.length ≤ 1 + t ∧ c ≤ c' ∧ c' ≤ c + 1 + 5 * ns.length ∧ BoxD b' c') (1 + t) (fuelle (by omega)) ⟨b1, [], none, none, none, c1, rfl, rfl, (by intro x hx; cases hx), by simp, q1, by simp; omega, hb1⟩ ?_
  rintro k e ⟨b', ns, x4, x5, x6, c', rfl, rfl, h3, h4, h5, h6, h7⟩
  simp only [w_fn, w_fnB, List.map_cons, List.map_nil, List.replicate, List.cons_append, List.nil_append, t_seq, t_if, t_next, t_break, t_cont, t_ret, t_retN, t_set, t_WS, t_put, t_par, t_for, t_asg, t_setR, t_drop, wg_two, wg_three, wg_nm, ws_nx, ws_rt, wi_of, wi_rg, wi_st, w_lc0, w_ssc, w_lc, w_lent, w_var, w_C, w_1, w_2, w_nil, w_cons, w_L, w_B, w_T, w_yes, w_bAnd, w_bOr, w_bNot, w_And, w_Or, w_Not, w_If, w_chain, w_only, w_cut, w_meth, w_newK, w_newT, w_call, w_callB, w_callK, w_w, wo_some, wq_ret, gd0, gdS, ls0, lsS, asBl_bl, isLs_l, ob_l, setAll, true_and, and_true, d_add, d_addI, d_sub, d_cmp, d_neg, mk0, mk1, mk2, mk3, mk4, mk5, mt0, mt1, mt2, mt3, mt4, d_lenL, dns_len, gLt_int]
  by_cases hlt : ns.length < 1 + t
  · rw [if_pos (by simp; omega), dn_sub (by omega)]
    have hleft : 1 ≤ 1 + t - ns.length := by omega
    generalize hL : 1 + t - ns.length = left at hleft ⊢
    simp only [w_fn, w_fnB, List.map_cons, List.map_nil, List.replicate, List.cons_append, List.nil_append, t_seq, t_if, t_next, t_break, t_cont, t_ret, t_retN, t_set, t_WS, t_put, t_par, t_for, t_asg, t_setR, t_drop, wg_two, wg_three, wg_nm, ws_nx, ws_rt, wi_of, wi_rg, wi_st, w_lc0, w_ssc, w_lc, w_lent, w_var, w_C, w_1, w_2, w_nil, w_cons, w_L, w_B, w_T, w_yes, w_bAnd, w_bOr, w_bNot, w_And, w_Or, w_Not, w_If, w_chain, w_only, w_cut, w_meth, w_newK, w_newT, w_call, w_callB, w_callK, w_w, wo_some, wq_ret, gd0, gdS, ls0, lsS, asBl_bl, isLs_l, ob_l, setAll, true_and, and_true, d_add, d_addI, d_sub, d_cmp, d_neg, mk0, mk1, mk2, mk3, mk4, mk5, mt0, mt1, mt2, mt3, mt4, h7.obj, List.length_singleton, okd0]
    refine (hT b' c' left h7 (by omega) hleft (by omega)).mono fun u b2 ⟨r, hu, hr, c2, q3, q4, hb2⟩ => ?_
    subst hu
    simp only [w_fn, w_fnB, List.map_cons, List.map_nil, List.replicate, List.cons_append, List.nil_append, t_seq, t_if, t_next, t_break, t_cont, t_ret, t_retN, t_set, t_WS, t_put, t_par, t_for, t_asg, t_setR, t_drop, wg_two, wg_three, wg_nm, ws_nx, ws_rt, wi_of, wi_rg, wi_st, w_lc0, w_ssc, w_lc, w_lent, w_var, w_C, w_1, w_2, w_nil, w_cons, w_L, w_B, w_T, w_yes, w_bAnd, w_bOr, w_bNot, w_And, w_Or, w_Not, w_If, w_chain, w_only, w_cut, w_meth, w_newK, w_newT, w_call, w_callB, w_callK, w_w, wo_some, wq_ret, gd0, gdS, ls0, lsS, asBl_bl, isLs_l, ob_l, setAll, true_and, and_true, d_add, d_addI, d_sub, d_cmp, d_neg, mk0, mk1, mk2, mk3, mk4, mk5, mt0, mt1, mt2, mt3, mt4, dn_add1, hb2.obj]
    refine (qof_ok hT (xs := [dn left, dn left, dn (1 + r)]) hb2 (by omega) SqD.l (by show 1 ≤ 3; omega) (by show 3 ≤ _; omega)).mono fun u b3 ⟨i, hu, c3, q5, q6, hb3⟩ => ?_
    have hm : ∃ m : Nat, u = dn m ∧ 1 ≤ m ∧ m ≤ left := by
      match i, hu with
      | 0, hu => cases hu; exact ⟨left, rfl, hleft, by omega⟩
      | 1, hu => cases hu; exact ⟨left, rfl, hleft, by omega⟩
      | 2, hu => cases hu; exact ⟨1 + r, rfl, by omega, by omega⟩
    obtain ⟨m, rfl, hm1, hm2⟩ := hm
    simp only [w_fn, w_fnB, List.map_cons, List.map_nil, List.replicate, List.cons_append, List.nil_append, t_seq, t_if, t_next, t_break, t_cont, t_ret, t_retN, t_set, t_WS, t_put, t_par, t_for, t_asg, t_setR, t_drop, wg_two, wg_three, wg_nm, ws_nx, ws_rt, wi_of, wi_rg, wi_st, w_lc0, w_ssc, w_lc, w_lent, w_var, w_C, w_1, w_2, w_nil, w_cons, w_L, w_B, w_T, w_yes, w_bAnd, w_bOr, w_bNot, w_And, w_Or, w_Not, w_If, w_chain, w_only, w_cut, w_meth, w_newK, w_newT, w_call, w_callB, w_callK, w_w, wo_some, wq_ret, gd0, gdS, ls0, lsS, asBl_bl, isLs_l, ob_l, setAll, true_and, and_true, d_add, d_addI, d_sub, d_cmp, d_neg, mk0, mk1, mk2, mk3, mk4, mk5, mt0, mt1, mt2, mt3, mt4, hb3.obj]
    refine (qpart_ok hT hb3 (by omega) hm1 (by omega)).mono fun u b4 ⟨ps, hu, hp1, hp2, c4, q7, q8, hb4⟩ => ?_
    subst hu
    simp only [w_fn, w_fnB, List.map_cons, List.map_nil, List.replicate, List.cons_append, List.nil_append, t_seq, t_if, t_next, t_break, t_cont, t_ret, t_retN, t_set, t_WS, t_put, t_par, t_for, t_asg, t_setR, t_drop, wg_two, wg_three, wg_nm, ws_nx, ws_rt, wi_of, wi_rg, wi_st, w_lc0, w_ssc, w_lc, w_lent, w_var, w_C, w_1, w_2, w_nil, w_cons, w_L, w_B, w_T, w_yes, w_bAnd, w_bOr, w_bNot, w_And, w_Or, w_Not, w_If, w_chain, w_only, w_cut, w_meth, w_newK, w_newT, w_call, w_callB, w_callK, w_w, wo_some, wq_ret, gd0, gdS, ls0, lsS, asBl_bl, isLs_l, ob_l, setAll, true_and, and_true, d_add, d_addI, d_sub, d_cmp, d_neg, mk0, mk1, mk2, mk3, mk4, mk5, mt0, mt1, mt2, mt3, mt4, items_l, dns_len]
    refine ⟨limle (by omega), w_lcM (φ := dn) (f := fun x => dn (ns.length + x)) (fun x hx => ?_) ?_⟩
    · simp only [wipe1, w_fn, w_fnB, List.map_cons, List.map_nil, List.replicate, List.cons_append, List.nil_append, t_seq, t_if, t_next, t_break, t_cont, t_ret, t_retN, t_set, t_WS, t_put, t_par, t_for, t_asg, t_setR, t_drop, wg_two, wg_three, wg_nm, ws_nx, ws_rt, wi_of, wi_rg, wi_st, w_lc0, w_ssc, w_lc, w_lent, w_var, w_C, w_1, w_2, w_nil, w_cons, w_L, w_B, w_T, w_yes, w_bAnd, w_bOr, w_bNot, w_And, w_Or, w_Not, w_If, w_chain, w_only, w_cut, w_meth, w_newK, w_newT, w_call, w_callB, w_callK, w_w, wo_some, wq_ret, gd0, gdS, ls0, lsS, asBl_bl, isLs_l, ob_l, setAll, true_and, and_true, d_add, d_addI, d_sub, d_cmp, d_neg, mk0, mk1, mk2, mk3, mk4, mk5, mt0, mt1, mt2, mt3, mt4, d_lenL, dns_len, dn_add]
    · have e1 : (ps.map fun x => dn (ns.length + x)) = dns (ps.map (ns.length + ·)) := by simp [dns]
      rw [e1, d_addL (by rw [dns_len, dns_len]; simp; exact limle (by omega))]
      simp only [w_fn, w_fnB, List.map_cons, List.map_nil, List.replicate, List.cons_append, List.nil_append, t_seq, t_if, t_next, t_break, t_cont, t_ret, t_retN, t_set, t_WS, t_put, t_par, t_for, t_asg, t_setR, t_drop, wg_two, wg_three, wg_nm, ws_nx, ws_rt, wi_of, wi_rg, wi_st, w_lc0, w_ssc, w_lc, w_lent, w_var, w_C, w_1, w_2, w_nil, w_cons, w_L, w_B, w_T, w_yes, w_bAnd, w_bOr, w_bNot, w_And, w_Or, w_Not, w_If, w_chain, w_only, w_cut, w_meth, w_newK, w_newT, w_call, w_callB, w_callK, w_w, wo_some, wq_ret, gd0, gdS, ls0, lsS, asBl_bl, isLs_l, ob_l, setAll, true_and, and_true, d_add, d_addI, d_sub, d_cmp, d_neg, mk0, mk1, mk2, mk3, mk4, mk5, mt0, mt1, mt2, mt3, mt4]
      refine ⟨1 + t - (ns ++ ps.map (ns.length + ·)).length, by simp; omega, b4, ns ++ ps.map (ns.length + ·), _, _, _, c4, rfl, by rw [← List.map_append], ?_, by simp; omega, by omega, by simp; omega, hb4⟩
      intro x hx
      rw [List.length_append, List.length_map, hp1]
      rcases List.mem_append.mp hx with z | z
      · have := h3 x z; omega
      · obtain ⟨y, hy, rfl⟩ := List.mem_map.mp z
        have := hp2 y hy; omega
  · rw [if_neg (by simp; omega)]
    have e : ns.length = 1 + t := by omega
    simp only [w_fn, w_fnB, List.map_cons, List.map_nil, List.replicate, List.cons_append, List.nil_append, t_seq, t_if, t_next, t_break, t_cont, t_ret, t_retN, t_set, t_WS, t_put, t_par, t_for, t_asg, t_setR, t_drop, wg_two, wg_three, wg_nm, ws_nx, ws_rt, wi_of, wi_rg, wi_st, w_lc0, w_ssc, w_lc, w_lent, w_var, w_C, w_1, w_2, w_nil, w_cons, w_L, w_B, w_T, w_yes, w_bAnd, w_bOr, w_bNot, w_And, w_Or, w_Not, w_If, w_chain, w_only, w_cut, w_meth, w_newK, w_newT, w_call, w_callB, w_callK, w_w, wo_some, wq_ret, gd0, gdS, ls0, lsS, asBl_bl, isLs_l, ob_l, setAll, true_and, and_true, d_add, d_addI, d_sub, d_cmp, d_neg, mk0, mk1, mk2, mk3, mk4, mk5, mt0, mt1, mt2, mt3, mt4, h7.obj, List.length_singleton, okd0]
    have z1 : c' + ns.length < 1099511627776 := by omega
    have z2 : ns.length ≤ 1000000 := by omega
    have z3 : ∀ x ∈ ns, x < ns.length := h3
    have key := qmixed_ok (T := T) (b := b') (c := c') (ns := ns) hT h7 z1 z2 z3
    refine key.mono ?_
    clear key
    rintro u b2 ⟨ms, hu, hm1, hm2, c2, q3, q4, hb2⟩
    subst hu
    simp only [w_fn, w_fnB, List.map_cons, List.map_nil, List.replicate, List.cons_append, List.nil_append, t_seq, t_if, t_next, t_break, t_cont, t_ret, t_retN, t_set, t_WS, t_put, t_par, t_for, t_asg, t_setR, t_drop, wg_two, wg_three, wg_nm, ws_nx, ws_rt, wi_of, wi_rg, wi_st, w_lc0, w_ssc, w_lc, w_lent, w_var, w_C, w_1, w_2, w_nil, w_cons, w_L, w_B, w_T, w_yes, w_bAnd, w_bOr, w_bNot, w_And, w_Or, w_Not, w_If, w_chain, w_only, w_cut, w_meth, w_newK, w_newT, w_call, w_callB, w_callK, w_w, wo_some, wq_ret, gd0, gdS, ls0, lsS, asBl_bl, isLs_l, ob_l, setAll, true_and, and_true, d_add, d_addI, d_sub, d_cmp, d_neg, mk0, mk1, mk2, mk3, mk4, mk5, mt0, mt1, mt2, mt3, mt4, hb2.nlc]
    exact ⟨ms, rfl, by omega, by omega, (by intro x hx; rw [hm1]; exact hm2 x hx), c2, by omega, by omega, hb2⟩
end MP

set_option maxRecDepth 100000
namespace MP
open PySem PySem.Spec PyProof.Rows L2
/-! ### what is alike -/
mutual
def goodD : Nat → D → Bool
  | _, .non => true
  | _, .bl _ => true
  | _, .int _ => true
  | _, .str s => PyData.canLay0 (.str s)
  | k + 1, .tup xs => decide (xs.length ≤ 10000000) && goodDs k xs
  | k + 1, .lst xs => decide (xs.length ≤ 10000000) && goodDs k xs
  | _, _ => false
def goodDs : Nat → List D → Bool
  | _, [] => true
  | k, x :: xs => goodD k x && goodDs k xs
end
theorem goodDs_iff {k : Nat} : ∀ {xs : List D}, goodDs k xs = true ↔ ∀ x ∈ xs, goodD k x = true
  | [] => by simp [goodDs]
  | x :: xs => by rw [goodDs, Bool.and_eq_true, goodDs_iff (xs := xs)]; simp
theorem isi_bl {Ts : List String} {x : D} {t : String} (h : tyD x = some t) : gIsi Ts x = some (.bl (Ts.any fun U => isiB t U)) := by unfold gIsi; rw [h]; rfl
noncomputable def Qsame : Nat → List D → FO
  | 0 => fun _ => .fail
  | d + 1 => qFn 2 (qSeq (qIfS (qT (q1 (qVar 1) (gIsi ["list", "tuple"])))
  (qSeq (qIfS (qbOr (qB (q2 (q1 (qVar 0) (gIsi ["list"])) (q1 (qVar 1) (gIsi ["list"])) gNe)) (qB (q2 (q1 (qVar 0) (gIsi ["tuple"])) (q1 (qVar 1) (gIsi ["tuple"])) gNe)))
  (qRet (qC (.bl false)))
  qNext)
  (qRet (qAnd (q2 (qL (qCons (qVar 0) qNil) gLen) (qL (qCons (qVar 1) qNil) gLen) gEq) (qL (qCons (qLc0 (qiSt qzip (qCons (qVar 0) (qCons (qVar 1) qNil))) (qTp 2 (qCn (qNm 2) (qCn (qNm 3) qNl))) qYes (qCall 2 false true (qCons (qVar 2) (qCons (qVar 3) qNil)) (Qsame d)) [2, 3]) qNil) gAll))))
  qNext)
  (qSeq (qIfS (qbOr (qB (q2 (qVar 1) (qC .non) gIsN)) (qT (q1 (qVar 1) (gIsi ["str", "bool"]))))
  (qRet (qAnd (q2 (qVar 0) (qVar 1) gEq) (qAnd (q2 (q1 (qVar 0) (gIsi ["bool"])) (q1 (qVar 1) (gIsi ["bool"])) gEq) (q2 (q2 (qVar 0) (qC .non) gIsN) (q2 (qVar 1) (qC .non) gIsN) gEq))))
  qNext)
  (qRet (qAnd (q1 (qVar 0) (gIsi ["int"])) (qAnd (qNot (q1 (qVar 0) (gIsi ["bool"]))) (q2 (qVar 0) (qVar 1) gEq))))))
theorem tr_bl {b : Bool} : truthD (.bl b) = some b := id rfl
theorem zip_same (xs : List D) : zipD xs xs = xs.map fun x => .tup [x, x] := by
  unfold zipD
  induction xs with
  | nil => rfl
  | cons x xs ih => simp only [List.zip_cons_cons, List.map_cons, ih]
theorem all_rep (xs : List D) : gAll [.lst (xs.map fun _ => D.bl true)] = some (.bl true) := by
  have : blsD (xs.map fun _ => D.bl true) = some (xs.map fun _ => true) := by
    induction xs with
    | nil => rfl
    | cons x xs ih => simp only [List.map_cons, blsD, ih, Option.map_some]
  simp only [gAll, this, Option.map_some]
  congr 2
  simp
theorem i_lt {x : D} {t : String} (h : tyD x = some t) (h2 : (["list", "tuple"].any fun U => isiB t U) = false := by decide) : gIsi ["list", "tuple"] x = some (.bl false) := by rw [isi_bl h, h2]
theorem i_sb {x : D} {t : String} {b : Bool} (h : tyD x = some t) (h2 : (["str", "bool"].any fun U => isiB t U) = b := by decide) : gIsi ["str", "bool"] x = some (.bl b) := by rw [isi_bl h, h2]
theorem i_one {x : D} {T t : String} {b : Bool} (h : tyD x = some t) (h2 : ([T].any fun U => isiB t U) = b := by decide) : gIsi [T] x = some (.bl b) := by rw [isi_bl h, h2]
theorem i_ltT {x : D} {t : String} (h : tyD x = some t) (h2 : (["list", "tuple"].any fun U => isiB t U) = true := by decide) : gIsi ["list", "tuple"] x = some (.bl true) := by rw [isi_bl h, h2]
theorem isN_of {x : D} : gIsN x .non = some (.bl (nonD x)) := by cases x <;> rfl
theorem d_eqS {s : Str} (h : PyData.canLay0 (.str s) = true) : gEq (.str s) (.str s) = some (.bl true) := by
  have r : Rd [] 12 (.str s) (.str s) := .str s h
  have sh : SeqAt.shaped (.str s) = true := by unfold SeqAt.shaped; rw [r.lay]; simp; have := r.dep; omega
  simp [gEq, gEqB, toPy, sh, PyData.eqv]
theorem bools {a : Bool} : (a == a) = true := by cases a <;> rfl
theorem intsEq {a : Int} : (a == a) = true := by simp
theorem qsame_flat {k : Nat} {d : D} {t : String} (ht : tyD d = some t) (hm : t = "NoneType" ∨ t = "bool" ∨ t = "int" ∨ t = "str") (h : goodD k d = true) (m : Nat) : Wf (Qsame (m + 1) [d, d]) fun r _ => r = .bl true := by
  unfold Qsame
  cases d with
  | int i => cases ht; simp only [w_fn, w_fnB, List.map_cons, List.map_nil, List.replicate, List.cons_append, List.nil_append, t_seq, t_if, t_next, t_break, t_cont, t_ret, t_retN, t_set, t_WS, t_put, t_par, t_for, t_asg, t_setR, t_drop, wg_two, wg_three, wg_nm, ws_nx, ws_rt, wi_of, wi_rg, wi_st, w_lc0, w_ssc, w_lc, w_lent, w_var, w_C, w_1, w_2, w_nil, w_cons, w_L, w_B, w_T, w_yes, w_bAnd, w_bOr, w_bNot, w_And, w_Or, w_Not, w_If, w_chain, w_only, w_cut, w_meth, w_newK, w_newT, w_call, w_callB, w_callK, w_w, wo_some, wq_ret, gd0, gdS, ls0, lsS, asBl_bl, isLs_l, ob_l, setAll, true_and, and_true, d_add, d_addI, d_sub, d_cmp, d_neg, mk0, mk1, mk2, mk3, mk4, mk5, mt0, mt1, mt2, mt3, mt4, i_lt (x := .int i) rfl, tr_bl, Bool.false_eq_true, if_false, isN_of, nonD, i_sb (x := .int i) (b := false) rfl, i_one (x := .int i) (T := "int") (b := true) rfl, i_one (x := .int i) (T := "bool") (b := false) rfl, if_true, Bool.not_false, d_eqI, intsEq]
  | bl i => cases ht; simp only [w_fn, w_fnB, List.map_cons, List.map_nil, List.replicate, List.cons_append, List.nil_append, t_seq, t_if, t_next, t_break, t_cont, t_ret, t_retN, t_set, t_WS, t_put, t_par, t_for, t_asg, t_setR, t_drop, wg_two, wg_three, wg_nm, ws_nx, ws_rt, wi_of, wi_rg, wi_st, w_lc0, w_ssc, w_lc, w_lent, w_var, w_C, w_1, w_2, w_nil, w_cons, w_L, w_B, w_T, w_yes, w_bAnd, w_bOr, w_bNot, w_And, w_Or, w_Not, w_If, w_chain, w_only, w_cut, w_meth, w_newK, w_newT, w_call, w_callB, w_callK, w_w, wo_some, wq_ret, gd0, gdS, ls0, lsS, asBl_bl, isLs_l, ob_l, setAll, true_and, and_true, d_add, d_addI, d_sub, d_cmp, d_neg, mk0, mk1, mk2, mk3, mk4, mk5, mt0, mt1, mt2, mt3, mt4, i_lt (x := .bl i) rfl, tr_bl, Bool.false_eq_true, if_false, isN_of, nonD, i_sb (x := .bl i) (b := true) rfl, i_one (x := .bl i) (T := "bool") (b := true) rfl, if_true, d_eqB, bools]
  | non =>
    cases ht
    have e : gEq .non .non = some (.bl true) := by simp [gEq, gEqB, toPy, SeqAt.shaped, PyData.canLay0, PyData.depth, PyData.eqv]
    simp only [w_fn, w_fnB, List.map_cons, List.map_nil, List.replicate, List.cons_append, List.nil_append, t_seq, t_if, t_next, t_break, t_cont, t_ret, t_retN, t_set, t_WS, t_put, t_par, t_for, t_asg, t_setR, t_drop, wg_two, wg_three, wg_nm, ws_nx, ws_rt, wi_of, wi_rg, wi_st, w_lc0, w_ssc, w_lc, w_lent, w_var, w_C, w_1, w_2, w_nil, w_cons, w_L, w_B, w_T, w_yes, w_bAnd, w_bOr, w_bNot, w_And, w_Or, w_Not, w_If, w_chain, w_only, w_cut, w_meth, w_newK, w_newT, w_call, w_callB, w_callK, w_w, wo_some, wq_ret, gd0, gdS, ls0, lsS, asBl_bl, isLs_l, ob_l, setAll, true_and, and_true, d_add, d_addI, d_sub, d_cmp, d_neg, mk0, mk1, mk2, mk3, mk4, mk5, mt0, mt1, mt2, mt3, mt4, i_lt (x := .non) rfl, tr_bl, Bool.false_eq_true, if_false, isN_of, nonD, i_one (x := .non) (T := "bool") (b := false) rfl, if_true, d_eqB, bools, e]
  | str s =>
    cases ht
    have h : PyData.canLay0 (.str s) = true := by cases k <;> exact h
    simp only [w_fn, w_fnB, List.map_cons, List.map_nil, List.replicate, List.cons_append, List.nil_append, t_seq, t_if, t_next, t_break, t_cont, t_ret, t_retN, t_set, t_WS, t_put, t_par, t_for, t_asg, t_setR, t_drop, wg_two, wg_three, wg_nm, ws_nx, ws_rt, wi_of, wi_rg, wi_st, w_lc0, w_ssc, w_lc, w_lent, w_var, w_C, w_1, w_2, w_nil, w_cons, w_L, w_B, w_T, w_yes, w_bAnd, w_bOr, w_bNot, w_And, w_Or, w_Not, w_If, w_chain, w_only, w_cut, w_meth, w_newK, w_newT, w_call, w_callB, w_callK, w_w, wo_some, wq_ret, gd0, gdS, ls0, lsS, asBl_bl, isLs_l, ob_l, setAll, true_and, and_true, d_add, d_addI, d_sub, d_cmp, d_neg, mk0, mk1, mk2, mk3, mk4, mk5, mt0, mt1, mt2, mt3, mt4, i_lt (x := .str s) rfl, tr_bl, Bool.false_eq_true, if_false, isN_of, nonD, i_sb (x := .str s) (b := true) rfl, i_one (x := .str s) (T := "bool") (b := false) rfl, if_true, d_eqB, bools, d_eqS h]
  | tup xs => cases ht; simp at hm
  | lst xs => cases ht; simp at hm
  | dK xs => cases ht; simp at hm
  | dT xs => cases ht; simp at hm
  | obj c fs => cases ht
theorem qsame_seq {m : Nat} {d : D} {xs : List D} (hd : d = .tup xs ∨ d = .lst xs) (hl : xs.length ≤ 10000000) (ih : ∀ x ∈ xs, Wf (Qsame m [x, x]) fun r _ => r = .bl true) : Wf (Qsame (m + 1) [d, d]) fun r _ => r = .bl true := by
  have core : Wo (zipD xs xs |> some) fun ys => ys.length ≤ lim ∧ Wo (lcQ0 (qTp 2 (qCn (qNm 2) (qCn (qNm 3) qNl))) qYes (qCall 2 false true (qCons (qVar 2) (qCons (qVar 3) qNil)) (Qsame m)) (wipeD [some d, some d, none, none] [2, 3]) ys) fun zs => Wo (gAll [.lst zs]) fun z => z = .bl true := by
    rw [zip_same, wo_some]
    refine ⟨by rw [List.length_map]; exact limle hl, w_lcM (φ := fun x => D.tup [x, x]) (f := fun _ => D.bl true) (fun x hx => ?_) (by rw [all_rep]; exact ⟨rfl⟩)⟩
    simp only [wipeD, w_fn, w_fnB, List.map_cons, List.map_nil, List.replicate, List.cons_append, List.nil_append, t_seq, t_if, t_next, t_break, t_cont, t_ret, t_retN, t_set, t_WS, t_put, t_par, t_for, t_asg, t_setR, t_drop, wg_two, wg_three, wg_nm, ws_nx, ws_rt, wi_of, wi_rg, wi_st, w_lc0, w_ssc, w_lc, w_lent, w_var, w_C, w_1, w_2, w_nil, w_cons, w_L, w_B, w_T, w_yes, w_bAnd, w_bOr, w_bNot, w_And, w_Or, w_Not, w_If, w_chain, w_only, w_cut, w_meth, w_newK, w_newT, w_call, w_callB, w_callK, w_w, wo_some, wq_ret, gd0, gdS, ls0, lsS, asBl_bl, isLs_l, ob_l, setAll, true_and, and_true, d_add, d_addI, d_sub, d_cmp, d_neg, mk0, mk1, mk2, mk3, mk4, mk5, mt0, mt1, mt2, mt3, mt4, List.length_cons, List.length_nil, Nat.zero_add, Nat.reduceAdd, okd0]
    exact ih x hx
  unfold Qsame
  rcases hd with rfl | rfl
  · simp only [w_fn, w_fnB, List.map_cons, List.map_nil, List.replicate, List.cons_append, List.nil_append, t_seq, t_if, t_next, t_break, t_cont, t_ret, t_retN, t_set, t_WS, t_put, t_par, t_for, t_asg, t_setR, t_drop, wg_two, wg_three, wg_nm, ws_nx, ws_rt, wi_of, wi_rg, wi_st, w_lc0, w_ssc, w_lc, w_lent, w_var, w_C, w_1, w_2, w_nil, w_cons, w_L, w_B, w_T, w_yes, w_bAnd, w_bOr, w_bNot, w_And, w_Or, w_Not, w_If, w_chain, w_only, w_cut, w_meth, w_newK, w_newT, w_call, w_callB, w_callK, w_w, wo_some, wq_ret, gd0, gdS, ls0, lsS, asBl_bl, isLs_l, ob_l, setAll, true_and, and_true, d_add, d_addI, d_sub, d_cmp, d_neg, mk0, mk1, mk2, mk3, mk4, mk5, mt0, mt1, mt2, mt3, mt4, i_ltT (x := .tup xs) rfl, tr_bl, if_true, i_one (x := .tup xs) (T := "list") (b := false) rfl, i_one (x := .tup xs) (T := "tuple") (b := true) rfl, d_neB, bools, Bool.not_true, Bool.false_eq_true, if_false, d_lenT, d_eqI, intsEq, qzip]
    rw [wo_some] at core
    exact core
  · simp only [w_fn, w_fnB, List.map_cons, List.map_nil, List.replicate, List.cons_append, List.nil_append, t_seq, t_if, t_next, t_break, t_cont, t_ret, t_retN, t_set, t_WS, t_put, t_par, t_for, t_asg, t_setR, t_drop, wg_two, wg_three, wg_nm, ws_nx, ws_rt, wi_of, wi_rg, wi_st, w_lc0, w_ssc, w_lc, w_lent, w_var, w_C, w_1, w_2, w_nil, w_cons, w_L, w_B, w_T, w_yes, w_bAnd, w_bOr, w_bNot, w_And, w_Or, w_Not, w_If, w_chain, w_only, w_cut, w_meth, w_newK, w_newT, w_call, w_callB, w_callK, w_w, wo_some, wq_ret, gd0, gdS, ls0, lsS, asBl_bl, isLs_l, ob_l, setAll, true_and, and_true, d_add, d_addI, d_sub, d_cmp, d_neg, mk0, mk1, mk2, mk3, mk4, mk5, mt0, mt1, mt2, mt3, mt4, i_ltT (x := .lst xs) rfl, tr_bl, if_true, i_one (x := .lst xs) (T := "list") (b := true) rfl, i_one (x := .lst xs) (T := "tuple") (b := false) rfl, d_neB, bools, Bool.not_true, Bool.false_eq_true, if_false, d_lenL, d_eqI, intsEq, qzip]
    rw [wo_some] at core
    exact core
theorem qsame_ok : ∀ (k : Nat) (d : D), goodD k d = true → Wf (Qsame (k + 1) [d, d]) fun r _ => r = .bl true := by
  intro k
  induction k with
  | zero =>
    intro d h
    cases d with
    | non => exact qsame_flat rfl (.inl rfl) h 0
    | bl b => exact qsame_flat rfl (.inr (.inl rfl)) h 0
    | int b => exact qsame_flat rfl (.inr (.inr (.inl rfl))) h 0
    | str b => exact qsame_flat rfl (.inr (.inr (.inr rfl))) h 0
    | _ => cases h
  | succ k ih =>
    intro d h
    cases d with
    | non => exact qsame_flat rfl (.inl rfl) h _
    | bl b => exact qsame_flat rfl (.inr (.inl rfl)) h _
    | int b => exact qsame_flat rfl (.inr (.inr (.inl rfl))) h _
    | str b => exact qsame_flat rfl (.inr (.inr (.inr rfl))) h _
    | tup xs =>
      simp only [goodD, Bool.and_eq_true, decide_eq_true_eq] at h
      exact qsame_seq (.inl rfl) h.1 fun x hx => ih x (goodDs_iff.mp h.2 x hx)
    | lst xs =>
      simp only [goodD, Bool.and_eq_true, decide_eq_true_eq] at h
      exact qsame_seq (.inr rfl) h.1 fun x hx => ih x (goodDs_iff.mp h.2 x hx)
    | _ => cases h
end MP

set_option maxRecDepth 100000
namespace MP
open PySem PySem.Spec PyProof.Rows L2
/-! ### slices -/
theorem cut_to (xs : List PV) (k : Nat) : cutP xs none (some (k : Int)) = xs.take k := by
  unfold cutP
  rw [HT.sIx_none, HT.sIx_nat, Nat.sub_zero, List.drop_zero, Nat.min_def]
  split
  · rfl
  · rw [List.take_of_length_le (Nat.le_refl _), List.take_of_length_le (by omega)]
theorem cut_mid (xs : List PV) (a b : Nat) : cutP xs (some (a : Int)) (some (b : Int)) = (xs.take b).drop a := by
  unfold cutP
  rw [HT.sIx_nat, HT.sIx_nat, List.drop_take]
  by_cases h1 : a ≤ xs.length
  · rw [Nat.min_eq_left h1]
    by_cases h2 : b ≤ xs.length
    · rw [Nat.min_eq_left h2]
    · rw [Nat.min_eq_right (by omega), List.take_of_length_le (by simp), List.take_of_length_le (by simp; omega)]
  · rw [Nat.min_eq_right (show xs.length ≤ a by omega), List.drop_of_length_le (Nat.le_refl _), List.drop_of_length_le (show xs.length ≤ a by omega)]; simp
section
variable {S : Ms} {Q : PV → Ms → Prop} {xs : List PV} {lo hi : Option Int}
theorem r_cutR : Ret (oCut (.rol xs) lo hi S) Q = Q (.loc S.length) (S ++ [.lst (cutP xs lo hi)]) := id rfl
end
theorem partI_int {i : Int} : partI (.int i) = some (some i) := rfl
theorem partI_non : partI .non = some none := rfl
/-! ### whole numbers -/
abbrev zvs (zs : List Int) : List PV := zs.map PV.int
theorem zvs_get {zs : List Int} {i : Nat} : (zvs zs)[i]? = zs[i]?.map PV.int := List.getElem?_map ..
theorem noBs_z : ∀ zs : List Int, noBs (zs.map PyData.int) = true
  | [] => rfl
  | n :: ns => by simp only [List.map_cons, noBs, noB, Bool.true_and]; exact noBs_z ns
theorem Rd.zlst {S : Ms} {k n : Nat} {ns : List Int} (e : S[n]? = some (.lst (zvs ns))) (hb : ns.length ≤ 10000000) : Rd S (k + 1) (.loc n) (.list (ns.map PyData.int)) := .lstM e hb fun a _ => .int _
theorem r_neNilZ {S : Ms} {n m : Nat} {ns : List Int} {Q : PV → Ms → Prop} (hb : ns.length ≤ 10000000) (h1 : S[n]? = some (.lst (zvs ns))) (h2 : S[m]? = some (.lst [])) : Ret (oNe (.loc n) (.loc m) S) Q = Q (.bl (!decide (ns = []))) S := by
  rw [r_ne (Rd.zlst h1 hb) (Rd.zlst (ns := []) h2 (by simp)), eqv_dec (p := ns = []) (by simp [noB, noBs_z]) (by simp [noB, noBs]) (by simp)]
def Mbox : List PV → Ms → Out PV := mFn 1 (sSeq (sSet 2 (mIf (mB (m2 (mVar 1) (mL (mCons (mVar 0) mNil) oLen) oLt)) (mSub (mVar 0) (mVar 1)) (mC (.int 0))))
  (sRet (mL (mCons (m2 (mL (mCons (mVar 2) mNil) oAbs) (mL (mCons (m2 (mL (mCons (mVar 2) mNil) oAbs) (m2 (mC (.int 10)) (mC (.int 18)) oPow) oGe) mNil) oInt) oMul) (mCons (m2 (m2 (m2 (mVar 2) (mC (.int 2305843009213693951)) oMod) (m2 (mC (.int 7919)) (mVar 1) oMul) oAdd) (mC (.int 23)) oAdd) (mCons (mC (.int 0)) mNil))) oList)))
theorem r_pow18 {S : Ms} {Q : PV → Ms → Prop} : Ret (oPow (.int 10) (.int 18) S) Q = Q (.int 1000000000000000000) S := by
  have h := r_pow (S := S) (Q := Q) (i := 10) (k := 18) (by refine ⟨?_, ?_, ?_⟩ <;> decide)
  rw [show ((10 : Int) ^ 18) = 1000000000000000000 by decide] at h
  exact h
theorem r_abs {i : Int} {S : Ms} {Q : PV → Ms → Prop} : Ret (oAbs [.int i] S) Q = Q (.int (if i < 0 then -i else i)) S := id rfl
theorem r_intB {b : Bool} {S : Ms} {Q : PV → Ms → Prop} : Ret (oInt [.bl b] S) Q = Q (.int (if b then 1 else 0)) S := id rfl
theorem box_ok {S : Ms} {v : PV} {zs : List Int} {k : Nat} (hv : Sq S v (zvs zs)) (hk : k < 1000) :
    Ret (Mbox [v, .int (k : Nat)] S) fun w S' => ∃ b, w = .loc b ∧ S.length ≤ b ∧ Box b S' 0 ∧ Fr [] S S' := by
  have main : ∀ z : Int, Ret (oAbs [.int z] S) fun x S1 => Ret (oAbs [.int z] S1) fun x1 S1 => Ret (oPow (.int 10) (.int 18) S1) fun y S2 => Ret (oGe x1 y S2) fun x1 S1 => Ret (oInt [x1] S1) fun y S2 => Ret (oMul x y S2) fun x S1 =>
      Ret (oMod (.int z) (.int 2305843009213693951) S1) fun x1 S1 => Ret (oMul (.int 7919) (.int (k : Nat)) S1) fun y S2 => Ret (oAdd x1 y S2) fun x1 S1 => Ret (oAdd x1 (.int 23) S1) fun x2 S1 => Ret (oList [x, x2, .int 0] S1) fun w S' => ∃ b, w = .loc b ∧ S.length ≤ b ∧ Box b S' 0 ∧ Fr [] S S' := by
    intro z
    simp only [r_abs, r_pow18, r_cmp, r_intB]
    have hz : 0 ≤ (if z < 0 then -z else z) := by split <;> omega
    generalize (if z < 0 then -z else z) = a at hz ⊢
    have hd : 0 ≤ (if decide ((1000000000000000000 : Int) ≤ a) = true then (1 : Int) else 0) ∧ (if decide ((1000000000000000000 : Int) ≤ a) = true then (1 : Int) else 0) ≤ 1 := by split <;> omega
    generalize (if decide ((1000000000000000000 : Int) ≤ a) = true then (1 : Int) else 0) = d at hd ⊢
    rw [r_mul (CMul.sr hd.1 (by omega)), r_mod (by omega), r_mul (CMul.sm (by omega) (by omega)), r_add, r_add, r_list (by show 3 ≤ lim; decide)]
    have q0 := Int.emod_nonneg z (show (2305843009213693951 : Int) ≠ 0 by omega)
    have q1 := Int.emod_lt_of_pos z (show (0 : Int) < 2305843009213693951 by omega)
    exact ⟨_, rfl, Nat.le_refl _, ⟨⟨_, _, get_new _ _, Int.mul_nonneg hz hd.1, by omega, by omega⟩, by omega⟩, .app _ _ _⟩
  unfold Mbox
  simp only [r_fn, List.map, List.replicate, List.cons_append, List.nil_append, q_seq, q_if, q_next, q_of, q_toSO, gNm, Option.some.injEq, exists_eq_left', q_put, List.set, r_m2, r_m1, r_v0, r_vs, r_C, r_L, r_cons, r_nil, r_cl1, r_cl2, r_cl3, rets_rt, rets_nx, r_B, r_T, r_asB, r_cmp, r_add, r_sub, q_for, i_of, i_rg, i_st, q_par, r_mIf, r_bYes, r_mLc, r_len hv, List.length_map]
  by_cases h : k < zs.length
  · rw [if_pos (by simpa [oLt] using h)]
    rw [r_sub1 hv (at_nat (by rw [zvs_get, List.getElem?_eq_getElem h]; rfl))]
    exact main _
  · rw [if_neg (by simpa [oLt] using h)]
    exact main 0
def Mcells : List PV → Ms → Out PV := mFn 3 (sSeq (sSet 2 (mL (mCons (mCut (mVar 0) (mC .non) (onlyI (mVar 1))) mNil) oListOf))
  (sSeq (sFor (iSt enmOf (mCons (mCut (mVar 0) (onlyI (mVar 1)) (onlyI (mC (.int 63)))) mNil)) (gTp 2 (gCn (gNm 3) (gCn (gNm 4) gNl)))
  (sPut (mVar 2) (m2 (mVar 3) (mVar 1) oMod) (m2 (mSub (mVar 2) (m2 (mVar 3) (mVar 1) oMod)) (m2 (mVar 4) (m2 (mVar 3) (mC (.int 2)) oAdd) oMul) oAdd)))
  (sRet (mIf (mB (m2 (mVar 2) (mL mNil oList) oNe)) (mVar 2) (mL (mCons (mC (.int 0)) mNil) oList)))))
theorem cells_ok {S : Ms} {zs : List Int} {most : Nat} (h1 : 1 ≤ most) (h2 : most ≤ 63) :
    Ret (Mcells [.rol (zvs zs), .int (most : Nat)] S) fun w S' => ∃ ys : List Int, NewL S w (zvs ys) S' ∧ 1 ≤ ys.length ∧ ys.length ≤ most ∧ Fr [] S S' := by
  unfold Mcells
  have e1 : ∀ k : Nat, (zvs zs).take k = zvs (zs.take k) := fun k => by simp [zvs]
  have e63 : (63 : Int) = ((63 : Nat) : Int) := rfl
  simp only [r_fn, List.map, List.replicate, List.cons_append, List.nil_append, q_seq, q_if, q_next, q_of, q_toSO, gNm, Option.some.injEq, exists_eq_left', q_put, List.set, r_m2, r_m1, r_v0, r_vs, r_C, r_L, r_cons, r_nil, r_cl1, r_cl2, r_cl3, rets_rt, rets_nx, r_B, r_T, r_asB, r_cmp, r_add, r_sub, q_for, i_of, i_rg, i_st, q_par, r_mIf, r_bYes, r_mLc, r_cut, r_onlyI, PV.int.injEq, exists_eq_left', partI_int, partI_non, r_cutR, cut_to, e1]
  rw [r_listOf (Sq.loc (get_new _ _)), e63, cut_mid, e1]
  have e2 : (zvs (zs.take 63)).drop most = zvs ((zs.take 63).drop most) := by simp [zvs]
  rw [e2]
  have l1 : (S ++ [Ob.lst (zvs (zs.take most))]).length = S.length + 1 := by simp
  have hf := (Fr.app [] S [Ob.lst (zvs (zs.take most))]).trans (Fr.app [] _ [Ob.lst (zvs (zs.take most))])
  have g1 := get_new (S ++ [Ob.lst (zvs (zs.take most))]) (Ob.lst (zvs (zs.take most)))
  rw [l1] at g1 ⊢
  generalize hS1 : S ++ [Ob.lst (zvs (zs.take most))] ++ [Ob.lst (zvs (zs.take most))] = S1 at *
  have l2 : S1.length = S.length + 2 := by rw [← hS1]; simp
  have g2 := get_new S1 (Ob.lst (zvs ((zs.take 63).drop most)))
  have hf2 := hf.trans (Fr.app [] S1 [Ob.lst (zvs ((zs.take 63).drop most))])
  have g3 : (S1 ++ [Ob.lst (zvs ((zs.take 63).drop most))])[S.length + 1]? = some (.lst (zvs (zs.take most))) := by rw [List.getElem?_append_left (by omega)]; exact g1
  have hrl : ((zs.take 63).drop most).length ≤ 63 := by simp; omega
  have hrm : 0 < ((zs.take 63).drop most).length → (zs.take most).length = most := by simp; omega
  have hml : (zs.take most).length ≤ most := by simp; omega
  have hm0 : zs ≠ [] → 1 ≤ (zs.take most).length := by
    intro z; have := List.length_pos_iff.mpr z; simp; omega
  generalize (zs.take 63).drop most = rs at *
  refine ⟨_, enm_sq g2, ?_⟩
  refine q_loop (vs := (List.range rs.length).map fun (i : Nat) => .tup [.int i, .int (rs.getD i 0)]) (I := fun k e S' => ∃ (ys : List Int) (x4 x5 : Option PV), e = [some (.rol (zvs zs)), some (.int (most : Nat)), some (.loc (S.length + 1)), x4, x5] ∧ S'[S.length + 1]? = some (.lst (zvs ys)) ∧ ys.length = (zs.take most).length ∧ Fr [S.length + 1] (S1 ++ [Ob.lst (zvs rs)]) S') (by simp; exact fuel_of (by omega)) ?_ ?_ ?_ ?_
  · exact ⟨zs.take most, none, none, rfl, g3, rfl, .refl _ _⟩
  · rintro k e S' ⟨ys, x4, x5, rfl, h1, h2, h4⟩
    rw [enm_nx (h4.get g2 (by simp; omega)), zvs_get, List.getElem?_map]
    by_cases hk : k < rs.length
    · rw [List.getElem?_range hk, List.getElem?_eq_getElem hk]
      simp [List.getD_eq_getElem?_getD, List.getElem?_eq_getElem hk]
    · rw [List.getElem?_eq_none (by omega), List.getElem?_eq_none (by simp; omega)]; rfl
  · rintro k v e S' hv ⟨ys, x4, x5, rfl, h1', h2', h4⟩
    rw [List.getElem?_map] at hv
    have hk : k < rs.length := by
      by_cases hk : k < rs.length
      · exact hk
      · rw [List.getElem?_eq_none (by simp; omega)] at hv; cases hv
    rw [List.getElem?_range hk] at hv
    cases hv
    refine ⟨_, g_two, ?_⟩
    have hlen := hrm (by omega)
    have hki : k % most < ys.length := by rw [h2', hlen]; exact Nat.mod_lt _ (by omega)
    simp only [r_fn, List.map, List.replicate, List.cons_append, List.nil_append, q_seq, q_if, q_next, q_of, q_toSO, gNm, Option.some.injEq, exists_eq_left', q_put, List.set, r_m2, r_m1, r_v0, r_vs, r_C, r_L, r_cons, r_nil, r_cl1, r_cl2, r_cl3, rets_rt, rets_nx, r_B, r_T, r_asB, r_cmp, r_add, r_sub, q_for, i_of, i_rg, i_st, q_par, r_mIf, r_bYes, r_mLc]
    rw [r_mod (by omega), iv_mod, r_sub1 (w := .int ys[k % most]) (Sq.loc h1') (at_nat (by rw [zvs_get, List.getElem?_eq_getElem hki]; rfl)), r_mul (.inl (.inr (by omega))), r_add, r_mod (by omega), iv_mod]
    refine ⟨_, r_put h1' (by omega) (by rw [Int.toNat_natCast, List.length_map]; exact hki), ys.set (k % most) (ys[k % most] + rs.getD k 0 * ((k : Int) + 2)), _, _, rfl, ?_, by simp [h2'], h4.setN (.inl (by simp))⟩
    rw [get_set h1', Int.toNat_natCast]; simp [zvs]
  · rintro e S' ⟨ys, x4, x5, rfl, h1', h2', h4⟩
    simp only [r_fn, List.map, List.replicate, List.cons_append, List.nil_append, q_seq, q_if, q_next, q_of, q_toSO, gNm, Option.some.injEq, exists_eq_left', q_put, List.set, r_m2, r_m1, r_v0, r_vs, r_C, r_L, r_cons, r_nil, r_cl1, r_cl2, r_cl3, rets_rt, rets_nx, r_B, r_T, r_asB, r_cmp, r_add, r_sub, q_for, i_of, i_rg, i_st, q_par, r_mIf, r_bYes, r_mLc]
    rw [r_list (by decide), r_neNilZ (ns := ys) (by omega) (by rw [List.getElem?_append_left (lt_of_get h1')]; exact h1') (get_new _ _)]
    simp only [r_asB]
    have hF := (hf2.drop (n := S.length + 1) (h4.mono (by simp)) (by omega)).trans (Fr.app [] S' [Ob.lst []])
    by_cases hy : ys = []
    · rw [if_neg (by simp [hy]), r_list (by decide)]
      exact ⟨[0], ⟨_, rfl, hF.len, get_new _ _⟩, Nat.le_refl _, h1, hF.trans (.app _ _ _)⟩
    · rw [if_pos (by simp [hy])]
      refine ⟨ys, ⟨_, rfl, by omega, by rw [List.getElem?_append_left (lt_of_get h1')]; exact h1'⟩, ?_, by omega, hF⟩
      exact List.length_pos_iff.mpr hy
end MP

set_option maxRecDepth 100000
namespace MP
open PySem PySem.Spec PyProof.Rows L2
theorem r_truthB {b : Bool} {S : Ms} {QB : Bool → Ms → Prop} : Ret (truth (.bl b) S) QB = QB b S := id rfl
/-- what a list comprehension that yields only True brings -/
theorem bls_rep : ∀ n : Nat, blsP (List.replicate n (.bl true)) = some (List.replicate n true)
  | 0 => rfl
  | n + 1 => by rw [List.replicate_succ]; simp only [blsP, bls_rep n]; rfl
theorem r_all {S : Ms} {n k : Nat} {Q : PV → Ms → Prop} (h : S[n]? = some (.lst (List.replicate k (.bl true)))) : Ret (oAll [.loc n] S) Q = Q (.bl true) S := by
  simp [oAll, lstOf, h, bls_rep, Ret]
theorem Rd.fr0 {S S' : Ms} {k : Nat} {x : PV} {d : PyData} (h : Rd S k x d) (f : Fr [] S S') : Rd S' k x d := by
  induction h with
  | non => exact .non
  | bl b => exact .bl b
  | int i => exact .int i
  | str s h => exact .str s h
  | tup hb hl h ih => exact .tup hb hl ih
  | lst e hb hl h ih => exact .lst (f.get e (by simp)) hb hl ih
theorem r_isN {x : PV} {S : Ms} {Q : PV → Ms → Prop} : Ret (oIsN x .non S) Q = Q (.bl (isNon x)) S := id rfl
theorem bb (b : Bool) : (b == b) = true := by simp
end MP

set_option maxRecDepth 100000
namespace MP
open PySem PySem.Spec PyProof.Rows L2
/-! ### what calls do -/
def step (ps : List Nat) (w : Nat) : List Nat := ps.set w (ps.getD (ps.getD w 0) 0)
def run (ps : List Nat) (ws : List Nat) : List Nat := ws.foldl step ps
/-! ### the package -/
end MP

set_option maxRecDepth 100000
namespace MP
open PySem PySem.Spec PyProof.Rows L2
theorem range_get {α : Type} {n i : Nat} {f : Nat → α} {v : α} (h : ((List.range n).map f)[i]? = some v) : i < n ∧ v = f i := by
  rw [List.getElem?_map] at h
  by_cases hk : i < n
  · rw [List.getElem?_range hk] at h; cases h; exact ⟨hk, rfl⟩
  · rw [List.getElem?_eq_none (by simp; omega)] at h; cases h
/-! ### the law's own -/
variable {T : List PV → Ms → Out PV}
end MP

set_option maxRecDepth 100000
namespace MP
open PySem PySem.Spec PyProof.Rows L2
end MP

set_option maxRecDepth 100000
namespace MP
open PySem PySem.Spec PyProof.Rows L2
/-- a box is drawn from; all is right -/
def RightB (R : List PV → Ms → Out PV) (m : Int) : Prop := ∀ (b : Nat) (S : Ms) (c : Int), Box b S c → c + m < 1099511627776 → Ret (R [.loc b] S) fun v S' => v = .bl true ∧ Drew b S c m S'
theorem RightB.mono {R : List PV → Ms → Out PV} {m m' : Int} (h : RightB R m) (hm : m ≤ m') : RightB R m' := fun b S c hb hc =>
  (h b S c hb (by omega)).mono fun v S' ⟨e, f, c', h1, h2, h3⟩ => ⟨e, f, c', h1, by omega, h3⟩
theorem true_of3 {o : Out PV} (h : Ret o fun v _ => v = .bl true) : ∃ S', o = .ret (.bl true) S' := by
  cases o with
  | ret v S => exact ⟨S, by rw [show v = _ from h]⟩
  | exc _ _ => exact h.elim
  | fail => exact h.elim
end MP

set_option maxRecDepth 100000
namespace MP
open PySem PySem.Spec PyProof.Rows L2
/-! ### repr of sequences of small numbers -/
theorem Sq.isSeq {S : Ms} {v : PV} {xs : List PV} (h : Sq S v xs) : isSeq v = true := by cases v <;> first | rfl | cases h
/-! texts that are plain -/
theorem ok_app {a b : Str} (ha : PyData.strOk a = true) (hb : PyData.strOk b = true) : PyData.strOk (a ++ b) = true := by
  show (a.cps ++ b.cps).all _ = true
  rw [Array.all_append]; exact Bool.and_eq_true_iff.mpr ⟨ha, hb⟩
theorem ok_of (s : String) : PyData.strOk (Str.ofString s) = true := by
  rw [Str.ofString_eq_toList]
  unfold PyData.strOk
  simp only [List.all_toArray]
  rw [List.all_eq_true]
  intro x hx
  obtain ⟨c, _, rfl⟩ := List.mem_map.mp hx
  have := c.valid
  simp only [decide_eq_true_eq]
  rcases this with h | h
  · exact Nat.lt_trans h (by decide)
  · exact h.2
theorem ok_join {sep : Str} (hs : PyData.strOk sep = true) : ∀ {xs : List Str}, (∀ x ∈ xs, PyData.strOk x = true) → PyData.strOk (Str.join sep xs) = true
  | [], _ => by simp [Str.join, Str.empty, PyData.strOk]
  | [x], h => h x (by simp)
  | x :: y :: r, h => by
    show PyData.strOk (x ++ sep ++ Str.join sep (y :: r)) = true
    exact ok_app (ok_app (h x (by simp)) hs) (ok_join hs fun z hz => h z (by simp [hz]))
theorem ok_textFrom : ∀ {xs : List Str} {k : Nat} {acc : Str}, PyData.strOk acc = true → (∀ x ∈ xs, PyData.strOk x = true) → PyData.strOk (textFrom k acc xs) = true
  | [], k, acc, ha, _ => ha
  | x :: r, k, acc, ha, h => by
    show PyData.strOk (textFrom (k + 1) (acc ++ (if k > 0 then ", " else "" : String) ++ x) r) = true
    exact ok_textFrom (ok_app (ok_app ha (ok_of _)) (h x (by simp))) fun z hz => h z (by simp [hz])
end MP

set_option maxRecDepth 100000
namespace MP
open PySem PySem.Spec PyProof.Rows L2
/-! ### ways: who is met from w by following the pointers -/
abbrev nx (ps : List Nat) (w : Nat) : Nat := ps.getD w 0
def it (ps : List Nat) (w : Nat) : Nat → Nat
  | 0 => w
  | k + 1 => nx ps (it ps w k)
def met (ps : List Nat) (w L : Nat) : List Nat := (List.range L).map fun k => it ps w (k + 1)
section
variable {ps : List Nat} {w : Nat}
theorem it_add (a k : Nat) : it ps w (a + k) = it ps (it ps w a) k := by
  induction k with
  | zero => rfl
  | succ k ih => show nx ps (it ps w (a + k)) = nx ps _; rw [ih]
theorem least {P : Nat → Prop} : ∀ n, P n → ∃ L, L ≤ n ∧ P L ∧ ∀ k, k < L → ¬ P k := by
  intro n
  induction n using Nat.strongRecOn with
  | _ n ih =>
    intro h
    by_cases z : ∃ k, k < n ∧ P k
    · obtain ⟨k, hk, pk⟩ := z
      obtain ⟨L, h1, h2, h3⟩ := ih k hk pk
      exact ⟨L, by omega, h2, h3⟩
    · exact ⟨n, Nat.le_refl _, h, fun k hk pk => z ⟨k, hk, pk⟩⟩
end
section
variable {ps : List Nat} {w : Nat}
end
end MP

set_option maxRecDepth 100000
namespace MP
open PySem PySem.Spec PyProof.Rows L2
/-! ### the least number of a list -/
/-! ### rings -/
section
variable {ps : List Nat} {w r m p : Nat}
/-- r comes back to itself after p steps and not before -/
structure Per (ps : List Nat) (r p : Nat) : Prop where
  pos : 1 ≤ p
  back : it ps r p = r
  first : ∀ k, 1 ≤ k → k < p → it ps r k ≠ r
theorem Per.turn (h : Per ps r p) (a : Nat) : it ps r (a + p) = it ps r a := by rw [Nat.add_comm, it_add, h.back]
theorem Per.many (h : Per ps r p) (a : Nat) : ∀ t, it ps r (a + p * t) = it ps r a
  | 0 => rfl
  | t + 1 => by rw [Nat.mul_succ, ← Nat.add_assoc, h.turn, h.many a t]
theorem Per.it (h : Per ps r p) (j : Nat) : Per ps (MP.it ps r j) p := by
  refine ⟨h.pos, by rw [← it_add, h.turn], fun k k1 k2 z => ?_⟩
  rw [← it_add] at z
  have z2 : MP.it ps r (j + k + (p - 1) * j) = MP.it ps r (j + (p - 1) * j) := by rw [it_add, z, ← it_add]
  have e1 : j + (p - 1) * j = 0 + p * j := by
    have : p * j = (p - 1) * j + j := by rw [← Nat.succ_mul]; congr 1; have := h.pos; omega
    omega
  have e2 : j + k + (p - 1) * j = k + p * j := by omega
  rw [e2, e1, h.many, h.many] at z2
  exact h.first k k1 k2 z2
theorem Per.apart (h : Per ps r p) {i k : Nat} (hik : i < k) (hk : k < i + p) : MP.it ps r i ≠ MP.it ps r k := fun z => by
  refine (h.it i).first (k - i) (by omega) (by omega) ?_
  rw [← it_add, z]; congr 1; omega
end
end MP

set_option maxRecDepth 100000
namespace MP
open PySem PySem.Spec PyProof.Rows L2
variable {ps : List Nat} {w r m p : Nat} {v : D}
/-! ### the law's ways and rings -/
theorem dcut_from (xs : List D) (k : Nat) (h : k ≤ xs.length) : cutD xs (some (k : Int)) none = xs.drop k := by
  unfold cutD
  rw [HT.sIx_none, HT.sIx_nat, Nat.min_eq_left h, List.take_of_length_le (by simp)]
theorem dcut_to (xs : List D) (k : Nat) (h : k ≤ xs.length) : cutD xs none (some (k : Int)) = xs.take k := by
  unfold cutD
  rw [HT.sIx_none, HT.sIx_nat, Nat.min_eq_left h]; rfl
theorem part_i {i : Int} : partD (.int i) = some (some i) := id rfl
theorem part_n : partD .non = some none := id rfl
theorem cut_l {xs : List D} {lo hi : Option Int} : gCut (.lst xs) lo hi = some (.lst (cutD xs lo hi)) := id rfl
end MP

set_option maxRecDepth 100000
namespace MP
open PySem PySem.Spec PyProof.Rows L2
variable {ps : List Nat} {w r m p : Nat} {v : D}
theorem Per.mod (h : Per ps r p) (a : Nat) : MP.it ps r a = MP.it ps r (a % p) := by
  have := h.many (a % p) (a / p)
  rw [Nat.mod_add_div] at this
  exact this
/-! ### dicts of people -/
def kvs (ns : List Nat) : List (Key × D) := ns.map fun (n : Nat) => (Sum.inl (n : Int), D.bl true)
/-! ### the program's -/
end MP

set_option maxRecDepth 100000
namespace MP
open PySem PySem.Spec PyProof.Rows L2
variable {ps : List Nat} {w r m p : Nat} {v : D}
/-! ### sorted sets -/
/-! ### rings of a state -/
end MP

set_option maxRecDepth 100000
namespace MP
open PySem PySem.Spec PyProof.Rows L2
section
variable {Y Z X X' : List Nat} {sh : List Sh} {mu mu' mu2 : List Nat} {env env' env1 env2 : Env'} {S S' S1 S2 : Ms} {e e' e1 e2 : DE} {fps fps' fps1 fps2 : List (List Nat)} {fr : Bool} {v : PV} {d : D}
/-! ### x = [new list, new list]; if t: p; x[0].append(s); x[1].reverse(); r: what stood in x is not known any more -/
end
end MP

set_option maxRecDepth 100000
namespace MP
open PySem PySem.Spec PyProof.Rows L2
variable {ps : List Nat} {w r m p : Nat} {v : D} {T : List D → FO}
/-! ### what a ring is like -/
end MP

set_option maxRecDepth 100000
namespace MP
open PySem PySem.Spec PyProof.Rows L2
variable {ps : List Nat} {w r m p : Nat} {v : D} {T : List D → FO}
theorem gOf1 {a : D} : gOf D.non [0] ([] : List D) [a] = [a] := rfl
end MP

set_option maxRecDepth 100000
namespace MP
open PySem PySem.Spec PyProof.Rows L2
theorem rightB_of {f : List PV → Ms → Out PV} {q : List D → FO} {fr : Bool} (hf : FL 1 fr f q) {m : Int} (h : ∀ b c, BoxD b c → c + m < 1099511627776 → Wf (q [b]) fun d b' => d = .bl true ∧ More c m b') : RightB f m := by
  intro b S c hb hc
  obtain ⟨⟨x, y, e, hx, hy, hy2⟩, hc0⟩ := hb
  have hbd : BoxD (.lst [.int x, .int y, .int c]) c := ⟨⟨x, y, rfl, hx, hy, hy2⟩, hc0⟩
  have w := h _ c hbd hc
  have k := hf S [b] b _ (.lst [.int x, .int y, .int c]) [] [] rfl (fun n hn => by rw [List.mem_singleton] at hn; subst hn; exact lt_of_get e) (by simp) e (.lst (Rps.ints [x, y, c])) .nil
  cases hq : q [D.lst [.int x, .int y, .int c]] with
  | fail => rw [hq] at w; simp only [wf_eq] at w; exact w.elim
  | exc _ _ => rw [hq] at w; simp only [wf_eq] at w; exact w.elim
  | ret d b' =>
    rw [hq] at w k
    simp only [wf_eq] at w
    obtain ⟨rfl, c', h1, h2, h3⟩ := w
    obtain ⟨v, S', o', a1, a2, a3, ⟨X0, a4⟩, _, a5⟩ := k
    rw [a1]
    obtain ⟨⟨x', y', rfl, g1, g2, g3⟩, g4⟩ := h3
    have ho : o' = .lst [.int x', .int y', .int c'] := by
      cases a4 with
      | lst r => rw [Rps.inv_ints (ns := [x', y', c']) r]; rfl
    exact ⟨a5.1.inv_bl, a2, c', h1, h2, ⟨x', y', by rw [a3, ho], g1, g2, g3⟩, g4⟩
/-- all boxes, t draws of each -/
def MlawT (most t : Int) (R : List PV → Ms → Out PV) : List PV → Ms → Out PV := mFn 4 (sSeq (sSet 1 (mL (mCons (mVar 0) (mCons (mC (.int most)) mNil)) (cl 2 Mcells)))
  (sSeq (sFor (iRg rng1 (mCons (mL (mCons (mVar 1) mNil) oLen) mNil)) (gNm 2)
  (sSeq (sSet 3 (mL (mCons (mVar 1) (mCons (mVar 2) mNil)) (cl 2 Mbox)))
  (sIf (bNot (mT (mL (mCons (mLc (iRg rng1 (mCons (mC (.int t)) mNil)) (gNm 4) bYes (mL (mCons (mVar 3) mNil) (cl 1 R)) [4]) mNil) oAll)))
  (sRet (mC (.bl false)))
  sNext)))
  (sRet (mC (.bl true)))))
theorem lawT_ok {R : List PV → Ms → Out PV} {most t : Nat} (h1 : 1 ≤ most) (h63 : most ≤ 63) (ht : t ≤ 1000) (hR : RightB R 1000000) (zs : List Int) : Ret (MlawT most t R [.rol (zs.map PV.int)] []) fun v _ => v = .bl true := by
  unfold MlawT
  simp only [r_fn, List.map, List.replicate, List.cons_append, List.nil_append, q_seq, q_if, q_next, q_of, q_toSO, gNm, Option.some.injEq, exists_eq_left', q_put, List.set, r_m2, r_m1, r_v0, r_vs, r_C, r_L, r_cons, r_nil, r_cl1, r_cl2, r_cl3, rets_rt, rets_nx, r_B, r_T, r_asB, r_cmp, r_add, r_sub, q_for, i_of, i_rg, i_st, q_par, r_mIf, r_bYes, r_mLc, r_bOr, r_bAnd, r_bNot, r_mAnd, r_mOr, r_mNot, r_truthB, r_isN]
  refine (cells_ok (S := []) (zs := zs) (most := most) h1 h63).mono fun u S1 ⟨ys, ⟨l1, hu, _, g1⟩, hy1, hy2, f1⟩ => ?_
  subst hu
  rw [r_len (Sq.loc g1), List.length_map]
  refine ⟨_, rng1_ok (by omega), ?_⟩
  rw [Int.toNat_natCast]
  refine q_loop (vs := (List.range ys.length).map iv) (I := fun k e S' => ∃ x2 x3 x4, e = [some (.rol (zs.map PV.int)), some (.loc l1), x2, x3, x4] ∧ S'[l1]? = some (.lst (zvs ys))) (by rw [List.length_map, List.length_range]; exact fuel_of (by omega)) ⟨_, _, _, rfl, g1⟩ ?_ ?_ ?_
  · rintro i e S' _
    rw [rng_nx, List.getElem?_map]
  · rintro k v e S' hv ⟨x2, x3, x4, rfl, y1⟩
    obtain ⟨hk, rfl⟩ := range_get hv
    refine ⟨_, rfl, ?_⟩
    have h3 : rng1 [.int (t : Nat)] = some (.rng 0 (t : Int).toNat) := rng1_ok (by omega)
    rw [Int.toNat_natCast] at h3
    simp only [r_fn, List.map, List.replicate, List.cons_append, List.nil_append, q_seq, q_if, q_next, q_of, q_toSO, gNm, Option.some.injEq, exists_eq_left', q_put, List.set, r_m2, r_m1, r_v0, r_vs, r_C, r_L, r_cons, r_nil, r_cl1, r_cl2, r_cl3, rets_rt, rets_nx, r_B, r_T, r_asB, r_cmp, r_add, r_sub, q_for, i_of, i_rg, i_st, q_par, r_mIf, r_bYes, r_mLc, r_bOr, r_bAnd, r_bNot, r_mAnd, r_mOr, r_mNot, r_truthB, r_isN]
    refine (box_ok (Sq.loc y1) (by omega)).mono fun u S2 ⟨b, hu, hbl, hb, f2⟩ => ?_
    subst hu
    have y1b := f2.get y1 (by simp)
    have l1lt := lt_of_get y1
    have hblt := hb.lt
    refine ⟨_, h3, ?_⟩
    refine r_lc ((List.range t).map iv) (by rw [List.length_map, List.length_range]; exact Nat.le_of_lt (lim_of (by omega))) (fun i acc S' => ∃ c' : Int, Box b S' c' ∧ 0 ≤ c' ∧ c' ≤ 1000000 * i ∧ S'[S2.length]? = some (.lst acc) ∧ acc = List.replicate i (.bl true) ∧ S'[l1]? = some (.lst (zvs ys)) ∧ S2.length ≤ S'.length) ⟨0, hb.fr (.app [] _ _) (by simp), by omega, by omega, get_new _ _, rfl, by rw [List.getElem?_append_left (by omega)]; exact y1b, by simp⟩ ?_ ?_ ?_
    · rintro i acc S' ⟨c', z1, z2, z3, z4, z5, z6⟩
      exact ⟨by rw [rng_nx, List.getElem?_map], z4⟩
    · rintro i v acc S' hv ⟨c', z1, z2, z3, z4, rfl, z6, z7⟩ _
      obtain ⟨hi, rfl⟩ := range_get hv
      refine ⟨_, rfl, ?_⟩
      simp only [wipeE, r_fn, List.map, List.replicate, List.cons_append, List.nil_append, q_seq, q_if, q_next, q_of, q_toSO, gNm, Option.some.injEq, exists_eq_left', q_put, List.set, r_m2, r_m1, r_v0, r_vs, r_C, r_L, r_cons, r_nil, r_cl1, r_cl2, r_cl3, rets_rt, rets_nx, r_B, r_T, r_asB, r_cmp, r_add, r_sub, q_for, i_of, i_rg, i_st, q_par, r_mIf, r_bYes, r_mLc, r_bOr, r_bAnd, r_bNot, r_mAnd, r_mOr, r_mNot, r_truthB, r_isN, if_true]
      refine (hR b S' c' z1 (by omega)).mono fun u S3 ⟨hu, f3, c3, w1, w2, w3⟩ => ?_
      subst hu
      have z4' := f3.get z4 (by simp; omega)
      have z6' := f3.get z6 (by simp; omega)
      exact ⟨z4', c3, w3.fr (.set (ms := [S2.length]) _ _ (.inl (by simp))) (by simp; omega), by omega, by omega, get_set z4', (List.replicate_succ' ..).symm, by rw [List.getElem?_set_ne (by omega)]; exact z6', by rw [List.length_set]; have := f3.len; omega⟩
    · rintro acc S' ⟨c', z1, z2, z3, z4, rfl, z6, z7⟩
      rw [r_all z4]
      simp only [r_fn, List.map, List.replicate, List.cons_append, List.nil_append, q_seq, q_if, q_next, q_of, q_toSO, gNm, Option.some.injEq, exists_eq_left', q_put, List.set, r_m2, r_m1, r_v0, r_vs, r_C, r_L, r_cons, r_nil, r_cl1, r_cl2, r_cl3, rets_rt, rets_nx, r_B, r_T, r_asB, r_cmp, r_add, r_sub, q_for, i_of, i_rg, i_st, q_par, r_mIf, r_bYes, r_mLc, r_bOr, r_bAnd, r_bNot, r_mAnd, r_mOr, r_mNot, r_truthB, r_isN, Bool.not_true, Bool.false_eq_true, if_false]
      exact ⟨_, _, _, rfl, z6⟩
  · rintro e S' ⟨x2, x3, x4, rfl, y1⟩
    trivial
end MP

set_option maxRecDepth 100000
namespace MP
open PySem PySem.Spec PyProof.Rows L2
/-! ### enumerate of a list or a tuple -/
end MP

set_option maxRecDepth 100000
namespace MP
open PySem PySem.Spec PyProof.Rows L2
variable {ps : List Nat} {w r m p : Nat} {v : D} {T : List D → FO}
/-! ### products -/
/-! ### on a ring or not -/
end MP

set_option maxRecDepth 100000
namespace MP
open PySem PySem.Spec PyProof.Rows L2
section
variable {Y Z X X' : List Nat} {sh : List Sh} {mu mu' mu2 : List Nat} {env env' env1 env2 : Env'} {S S' S1 S2 : Ms} {e e' e1 e2 : DE} {fps fps' fps1 fps2 : List (List Nat)} {fr : Bool} {v : PV} {d : D} {k kk : Kd} {m n c : ME} {p q r : QE} {sl ws : List Nat}
/-! ### sorted of a list of ints or of tuples of ints -/
/-! ### d.get(k, x) -/
/-! ### a, b = .. where the names are no plain locals -/
/-! ### the values of a dict -/
end
end MP

set_option maxRecDepth 100000
namespace MP
open PySem PySem.Spec PyProof.Rows L2
section
variable {Y Z X X' : List Nat} {sh : List Sh} {mu mu' mu2 mu3 : List Nat} {env env' env1 env2 : Env'} {S S' S1 S2 : Ms} {e e' e1 e2 : DE} {fps fps' fps1 fps2 : List (List Nat)} {fr : Bool} {v : PV} {d : D} {k kk : Kd} {m n c : ME} {p q r : QE} {sl ws : List Nat}
/-! ### {k: e for x in it if ..} -/
end
end MP

set_option maxRecDepth 100000
namespace MP
open PySem PySem.Spec PyProof.Rows L2
variable {ps : List Nat} {w r m p : Nat} {v : D} {T : List D → FO}
/-! ### new rules -/
/-! ### a dict of people at once -/
/-! ### heights -/
end MP

set_option maxRecDepth 100000
namespace MP
open PySem PySem.Spec PyProof.Rows L2
variable {ps : List Nat} {w r m p : Nat} {v : D} {T : List D → FO}
/-! ### lists of tuples in order -/
/-! ### components -/
/-! ### facts about components -/
end MP

set_option maxRecDepth 100000
namespace MP
open PySem PySem.Spec PyProof.Rows L2
variable {ps : List Nat} {w r m p : Nat} {v : D} {T : List D → FO}
/-! ### codes -/
/-! ### how many -/
end MP

set_option maxRecDepth 100000
namespace MP
open PySem PySem.Spec PyProof.Rows L2
variable {ps : List Nat} {w r m p : Nat} {v : D} {T : List D → FO}
/-! ### what is alike, the second way -/
/-! ### the second family's states -/
end MP

set_option maxRecDepth 100000
namespace MP
open PySem PySem.Spec PyProof.Rows L2
variable {ps : List Nat} {w r m p : Nat} {v : D} {T : List D → FO}
/-! ### the second family's walks and ends -/
/-! ### at rest -/
theorem d_allB {α : Type} (f : α → Bool) (L : List α) : gAll [.lst (L.map fun x => .bl (f x))] = some (.bl (L.all f)) := by
  have : blsD (L.map fun x => D.bl (f x)) = some (L.map f) := by
    induction L with
    | nil => rfl
    | cons x xs ih => simp only [List.map_cons, blsD, ih, Option.map_some]
  simp only [gAll, this, Option.map_some]
  congr 2
  rw [List.all_map]; rfl
end MP

set_option maxRecDepth 100000
namespace MP
open PySem PySem.Spec PyProof.Rows L2
variable {ps : List Nat} {w x y r m p : Nat} {v : D} {T : List D → FO}
/-! ### many steps at once -/
/-! ### is_state -/
noncomputable def P_Qis_int : List D → FO := qFn 0 (qRet (qAnd (q1 (qVar 0) (gIsi ["int"])) (qNot (q1 (qVar 0) (gIsi ["bool"])))))
noncomputable def P_Qis_person : List D → FO := qFn 0 (qRet (qAnd (qCall 1 false true (qCons (qVar 0) qNil) P_Qis_int) (qChain (qC (.int 0)) (qVar 0) (qVar 1) gLe gLt)))
noncomputable def P_Qis_state : List D → FO := qFn 1 (qRet (qAnd (q1 (qVar 0) (gIsi ["tuple"])) (qAnd (q2 (qL (qCons (qVar 0) qNil) gLen) (qC (.int 0)) gGt) (qL (qCons (qLc0 (qiOf (qVar 0)) (qNm 1) qYes (qCall 2 false true (qCons (qVar 1) (qCons (qL (qCons (qVar 0) qNil) gLen) qNil)) P_Qis_person) [1]) qNil) gAll))))
/-! ### draws of any size -/
end MP

set_option maxRecDepth 100000
namespace MP
open PySem PySem.Spec PyProof.Rows L2
end MP

set_option maxRecDepth 100000
namespace MP
open PySem PySem.Spec PyProof.Rows L2
/-! ### errors as values -/
theorem KRp.look {S : Ms} {X : List Nat} {f : Str} {d : D} : ∀ {kvs : List (Str × PV)} {kds : List (Str × D)}, KRp S X kvs kds → kds.lookup f = some d → ∃ v, kvs.lookup f = some v ∧ Rp S X v d
  | _, _, .nil, h => by cases h
  | _, _, .cons (a := (k, x)) (b := (k', y)) r t, h => by
    obtain ⟨e, r⟩ := r
    dsimp only at e r
    subst e
    rw [List.lookup_cons] at h ⊢
    split at h
    · cases h; exact ⟨_, rfl, r⟩
    · exact KRp.look t h
section
variable {Y X X' : List Nat} {sh : List Sh} {mu mu' mu2 : List Nat} {env env' : Env'} {S S' S1 S2 : Ms} {e e' e1 : DE} {fps fps' : List (List Nat)} {m n : ME} {p q : QE} {v : PV} {d : D} {k : Kd} {fr : Bool} {sm : MS} {sp : QT}
/-! ### raise, try -/
end
end MP

set_option maxRecDepth 100000
namespace MP
open PySem PySem.Spec PyProof.Rows L2
/-! ### return a if t else b, where a or b is an own list -/
theorem sRet_if {t : MB} {m n : ME} : sRet (mIf t m n) = sIf t (sRet m) (sRet n) := by
  funext env S
  unfold sRet mIf sIf sOf
  dsimp only
  generalize t env S = o
  cases o with
  | ret b S1 => cases b <;> rfl
  | exc x S1 => rfl
  | fail => rfl
section
variable {sh : List Sh} {mu mu' mu2 : List Nat} {fr : Bool} {t : MB} {b : QB} {m n : ME} {sp sq : QT}
theorem ls_retIf (ht : LB sh mu t b) (ha : LS sh mu' fr (sRet m) sp) (hb : LS sh mu2 fr (sRet n) sq) : LS sh (mu ++ (mu' ++ mu2)) fr (sRet (mIf t m n)) (qIfS b sp sq) := by
  rw [sRet_if]; exact ls_if ht ha hb
end
end MP

set_option maxRecDepth 100000
namespace MP
open PySem PySem.Spec PyProof.Rows L2
def gReprA : List D → Option D
  | [x] => (toPy 12 x).bind fun d => if SeqAt.shaped d && d.showable && decide (d.shown.length ≤ lim) then some (.str d.shown) else none
  | _ => none
theorem og_reprA : OLR .new oReprA gReprA := by
  intro S X xs ds hX h d hd
  unfold gReprA at hd
  split at hd
  · obtain ⟨v, rfl, r⟩ := rds1 h
    rw [Option.bind_eq_some_iff] at hd
    obtain ⟨p, e2, hd⟩ := hd
    split at hd
    · cases hd
      exact ⟨_, S, by simp only [oReprA, toD_rd r e2]; rw [if_pos (by assumption)], .refl _ _, .str _⟩
    · cases hd
  · cases hd
def gStrI : List D → Option D
  | [.int i] => if i.natAbs.log2 < 1920 then some (.str (toString i)) else none
  | _ => none
theorem og_strI : OLR .new oStrI gStrI := by
  intro S X xs ds hX h d hd
  unfold gStrI at hd
  split at hd
  · obtain ⟨v, rfl, r⟩ := rds1 h
    split at hd
    · rename_i hi
      cases hd
      rw [r.inv_int]
      exact ⟨_, S, by simp only [oStrI]; rw [if_pos hi], .refl _ _, .str _⟩
    · cases hd
  · cases hd
def gTupRg3 : List D → Option D
  | [.int i, .int j, .int c] => if c ≠ 0 ∧ c.natAbs < 1073741824 ∧ Builtin.Range.small i j c = true ∧ (Builtin.Range.rangeSize i j c).toNat ≤ 1000000 then some (.tup ((List.range (Builtin.Range.rangeSize i j c).toNat).map fun k => D.int (i + (k : Nat) * c))) else none
  | _ => none
theorem rps_map {S : Ms} {X : List Nat} {f : Nat → PV} {g : Nat → D} (h : ∀ k, Rp S X (f k) (g k)) : ∀ l : List Nat, Rps S X (l.map f) (l.map g)
  | [] => .nil
  | k :: l => .cons (h k) (rps_map h l)
theorem og_tupRg3 : OLR .new oTupRg3 gTupRg3 := by
  intro S X xs ds hX h d hd
  unfold gTupRg3 at hd
  split at hd
  · split at hd
    · rename_i hb
      cases hd
      cases h with
      | cons r1 t =>
        obtain ⟨v, w, rfl, r2, r3⟩ := rds2 t
        rw [r1.inv_int, r2.inv_int, r3.inv_int]
        exact ⟨_, S, by simp only [oTupRg3]; rw [if_pos hb]; rfl, .refl _ _, NewR.tup (rps_map (fun k => .int _) _)⟩
    · cases hd
  · cases hd
end MP

set_option maxRecDepth 100000
namespace MP
open PySem PySem.Spec PyProof.Rows L2
/-! ### sorted(a tuple of ints) -/
end MP

set_option maxRecDepth 100000
namespace MP
open PySem PySem.Spec PyProof.Rows L2
/-! ### zip of a tuple and a list; a tuple, once -/
noncomputable def gMul5 (x y : D) : Option D := match x, y with
  | .tup xs, .int 1 => some (.tup xs)
  | x, y => gMul x y
theorem og_mul5 : O2R .new oMul5 gMul5 := by
  intro S X x y dx dy hX h1 h2 d hd
  unfold gMul5 at hd
  split at hd
  · cases hd
    obtain ⟨xs, rfl, q1⟩ := h1.inv_tup
    rw [h2.inv_int]
    exact ⟨_, _, rfl, .refl _ _, .tup q1⟩
  · obtain ⟨v, S', e, f, o⟩ := og_mul S X x y dx dy hX h1 h2 d hd
    refine ⟨v, S', ?_, f, o⟩
    unfold oMul5
    split
    · exfalso; simp [oMul] at e
    · exact e
end MP

set_option maxRecDepth 100000
namespace MP
open PySem PySem.Spec PyProof.Rows L2
/-! ### divmod -/
end MP

set_option maxRecDepth 100000
namespace MP
open PySem PySem.Spec PyProof.Rows L2
/-! ### a tuple, k times, k also 0 or 1 -/
noncomputable def gMul6 (x y : D) : Option D := match x, y with
  | .tup (a :: xs), .int 0 => some (.tup [])
  | x, y => gMul5 x y
theorem og_mul6 : O2R .new oMul6 gMul6 := by
  intro S X x y dx dy hX h1 h2 d hd
  unfold gMul6 at hd
  split at hd
  · cases hd
    obtain ⟨xs, rfl, q1⟩ := h1.inv_tup
    rw [h2.inv_int]
    cases q1 with
    | cons r t => exact ⟨_, _, rfl, .refl _ _, .tup .nil⟩
  · obtain ⟨v, S', e, f, o⟩ := og_mul5 S X x y dx dy hX h1 h2 d hd
    refine ⟨v, S', ?_, f, o⟩
    unfold oMul6
    split
    · exfalso; simp [oMul5, oMul] at e
    · exact e
end MP

set_option maxRecDepth 100000
namespace MP
open PySem PySem.Spec PyProof.Rows L2
variable {ps : List Nat} {w r m n p : Nat} {v d : D} {T : List D → FO}
/-! ### texts of representations -/
theorem rc_ok {q c : Nat} (h : c < 0x110000) : ∀ y ∈ Builtin.Str.reprChar q c, y < 0x110000 := by
  have hx : ∀ k y : Nat, y ∈ List.replicate k 48 ++ (Nat.toDigits 16 c).map Char.toNat → y < 0x110000 := fun k y hy => by
    rcases List.mem_append.mp hy with hy | hy
    · have := (List.mem_replicate.mp hy).2; omega
    · obtain ⟨z, _, rfl⟩ := List.mem_map.mp hy
      have hv := z.valid
      unfold Char.toNat
      rcases hv with hv | hv <;> omega
  intro y hy
  unfold Builtin.Str.reprChar at hy
  dsimp only at hy
  repeat' split at hy
  all_goals first
    | (simp only [List.mem_cons, List.not_mem_nil, or_false] at hy; omega)
    | (rcases List.mem_append.mp hy with hy | hy
       · simp only [List.mem_cons, List.not_mem_nil, or_false] at hy; omega
       · exact hx _ y hy)
theorem rt_fold {q : Nat} : ∀ (l : List Nat) (acc : Array Nat), (∀ c ∈ l, c < 0x110000) → (∀ y ∈ acc.toList, y < 0x110000) → ∀ y ∈ (l.foldl (fun out c => out ++ (Builtin.Str.reprChar q c).toArray) acc).toList, y < 0x110000
  | [], acc, _, h => h
  | c :: l, acc, hl, h => rt_fold l _ (fun x hx => hl x (List.mem_cons_of_mem _ hx)) fun y hy => by
    rw [Array.toList_append] at hy
    rcases List.mem_append.mp hy with hy | hy
    · exact h y hy
    · exact rc_ok (hl c (by simp)) y hy
theorem sOk_iff {x : Str} : PyData.strOk x = true ↔ ∀ y ∈ x.cps.toList, y < 0x110000 := by
  unfold PyData.strOk
  rw [← Array.all_toList, List.all_eq_true]
  simp
theorem ok_rt {x : Str} (h : PyData.strOk x = true) : PyData.strOk (reprText x) = true := by
  rw [sOk_iff] at h ⊢
  have hq : reprQuote x < 0x110000 := by unfold reprQuote; split <;> decide
  unfold reprText
  intro y hy
  rw [Array.toList_push, List.mem_append, List.mem_singleton, ← Array.foldl_toList] at hy
  rcases hy with hy | rfl
  · exact rt_fold _ _ h (fun y hy => by simp at hy; rw [hy]; exact hq) y hy
  · exact hq
/-! ### values of a few kinds -/
mutual
def okV (B : Nat) : Nat → D → Bool
  | _, .non => true
  | _, .bl _ => true
  | _, .int i => decide (i.natAbs < B)
  | _, .str s => PyData.strOk s
  | n + 1, .tup xs => okVs B n xs
  | n + 1, .lst xs => okVs B n xs
  | _, _ => false
def okVs (B : Nat) : Nat → List D → Bool
  | _, [] => true
  | n, x :: xs => okV B n x && okVs B n xs
end
theorem okVs_iff {B : Nat} : ∀ {xs : List D}, okVs B n xs = true ↔ ∀ x ∈ xs, okV B n x = true
  | [] => by simp [okVs]
  | x :: xs => by rw [okVs, Bool.and_eq_true, okVs_iff (xs := xs)]; simp
theorem okV_mono {B B' : Nat} (hB : B ≤ B') : ∀ (n n' : Nat) (d : D), n ≤ n' → okV B n d = true → okV B' n' d = true
  | n, n', .non, _, _ => by cases n' <;> rfl
  | n, n', .bl _, _, _ => by cases n' <;> rfl
  | n, n', .int i, _, h => by
    have h : decide (i.natAbs < B) = true := by cases n <;> exact h
    have : decide (i.natAbs < B') = true := by rw [decide_eq_true_eq] at h ⊢; omega
    cases n' <;> exact this
  | n, n', .str s, _, h => by
    have h : PyData.strOk s = true := by cases n <;> exact h
    cases n' <;> exact h
  | n + 1, n' + 1, .tup xs, hn, h => okVs_iff.mpr fun x hx => okV_mono hB n n' x (by omega) (okVs_iff.mp h x hx)
  | n + 1, n' + 1, .lst xs, hn, h => okVs_iff.mpr fun x hx => okV_mono hB n n' x (by omega) (okVs_iff.mp h x hx)
  | 0, _, .tup xs, _, h => by cases h
  | 0, _, .lst xs, _, h => by cases h
  | n + 1, 0, .tup xs, hn, _ => absurd hn (by omega)
  | n + 1, 0, .lst xs, hn, _ => absurd hn (by omega)
  | n, _, .dK _, _, h => by cases n <;> cases h
  | n, _, .dT _, _, h => by cases n <;> cases h
  | n, _, .obj _ _, _, h => by cases n <;> cases h
mutual
def wtD : D → Nat
  | .tup xs => wtDs xs
  | .lst xs => wtDs xs
  | .str s => s.cps.size
  | .int _ => 200
  | _ => 0
def wtDs : List D → Nat
  | [] => 0
  | x :: xs => wtD x + 1 + wtDs xs
end
theorem wtDs_app : ∀ {xs ys : List D}, wtDs (xs ++ ys) = wtDs xs + wtDs ys
  | [], ys => by simp [wtDs]
  | x :: xs, ys => by rw [List.cons_append, wtDs, wtDs, wtDs_app (xs := xs)]; omega
theorem wtDs_len : ∀ xs : List D, xs.length ≤ wtDs xs
  | [] => Nat.zero_le _
  | x :: xs => by have := wtDs_len xs; rw [wtDs, List.length_cons]; omega
/-- what is known of a value's data -/
structure PyOk (p : PyData) (n W : Nat) : Prop where
  lay : p.canLay0 = true
  dep : p.depth ≤ n
  wt : p.weight ≤ W
  sh : p.showable = true
  short : p.leavesShort 60 = true
  str : PyData.strOk p.shown = true
structure PysOk (ps : List PyData) (n W : Nat) : Prop where
  lay : PyData.canLayAll0 ps = true
  dep : PyData.depthAll ps ≤ n
  wt : PyData.weightAll ps ≤ W
  sh : PyData.showableAll ps = true
  short : PyData.leavesShortAll 60 ps = true
  str : ∀ z ∈ PyData.shownAll ps, PyData.strOk z = true
theorem int_ok {B : Nat} {i : Int} (hB : B ≤ 10 ^ 40) (h : i.natAbs < B) : PyOk (.int i) 0 200 := by
  have e40 : (10 : Nat) ^ 40 < 2 ^ 140 := by decide
  have h2 : i.natAbs < 2 ^ 140 := by omega
  have hlog : i.natAbs ≠ 0 → i.natAbs.log2 < 140 := fun z => (Nat.log2_lt z).mpr h2
  have hl : i.natAbs.log2 < 140 := by
    by_cases z : i.natAbs = 0
    · rw [z]; decide
    · exact hlog z
  refine ⟨rfl, Nat.le_refl _, ?_, decide_eq_true (by omega), ?_, ok_of _⟩
  · show (if i == 0 then 0 else i.natAbs.log2 + 1) ≤ 200
    split <;> omega
  · have e := int_text_length_le10 (a := i) (k := 40) (by decide) (by omega)
    show decide ((PyData.shown (.int i)).length ≤ 60) = true
    refine decide_eq_true ?_
    show (Str.ofString (toString i)).length ≤ 60
    rw [PySem.ofString_length]; omega
theorem py_ok {B : Nat} (hB : B ≤ 10 ^ 40) : ∀ (n : Nat) (d : D), okV B n d = true → ∀ k, n ≤ k → ∃ p, toPy k d = some p ∧ PyOk p n (wtD d) := by
  intro n
  induction n with
  | zero =>
    intro d h k _
    cases d with
    | non => exact ⟨.none, by cases k <;> rfl, rfl, Nat.le_refl _, Nat.zero_le _, rfl, rfl, by decide +kernel⟩
    | bl b => exact ⟨.bool b, by cases k <;> rfl, rfl, Nat.le_refl _, Nat.zero_le _, rfl, rfl, by cases b <;> decide +kernel⟩
    | int i => exact ⟨.int i, by cases k <;> rfl, int_ok hB (of_decide_eq_true h)⟩
    | str s =>
      have h : PyData.strOk s = true := h
      refine ⟨.str s, by cases k <;> rfl, h, Nat.le_refl _, Nat.le_refl _, rfl, ?_, ok_rt h⟩
      exact PyData.leavesShort_of_canLay0 60 (.str s) h rfl
    | _ => cases h
  | succ n ih =>
    have all : ∀ (xs : List D), okVs B n xs = true → ∀ k, n ≤ k → ∃ ps, toPys k xs = some ps ∧ PysOk ps n (wtDs xs) := by
      intro xs
      induction xs with
      | nil => intro _ k _; exact ⟨[], by unfold toPys; rfl, rfl, Nat.zero_le _, Nat.zero_le _, rfl, rfl, fun z hz => by cases hz⟩
      | cons x xs ihx =>
        intro h k hk
        rw [okVs, Bool.and_eq_true] at h
        obtain ⟨p, e1, p1, p2, p3, p4, p5, p6⟩ := ih x h.1 k hk
        obtain ⟨ps, e2, q1, q2, q3, q4, q5, q6⟩ := ihx h.2 k hk
        refine ⟨p :: ps, by rw [toPys, e1, e2], ?_, ?_, ?_, ?_, ?_, ?_⟩
        · show (p.canLay0 && PyData.canLayAll0 ps) = true
          rw [p1, q1]; rfl
        · show max p.depth (PyData.depthAll ps) ≤ n
          omega
        · show p.weight + 1 + PyData.weightAll ps ≤ wtDs (x :: xs)
          rw [wtDs]; omega
        · show (p.showable && PyData.showableAll ps) = true
          rw [p4, q4]; rfl
        · show (p.leavesShort 60 && PyData.leavesShortAll 60 ps) = true
          rw [p5, q5]; rfl
        · intro z hz
          have hz : z ∈ PyData.shown p :: PyData.shownAll ps := hz
          rcases List.mem_cons.mp hz with rfl | hz
          · exact p6
          · exact q6 z hz
    intro d h k hk
    cases d with
    | non => exact ⟨.none, by cases k <;> rfl, rfl, Nat.zero_le _, Nat.zero_le _, rfl, rfl, by decide +kernel⟩
    | bl b => exact ⟨.bool b, by cases k <;> rfl, rfl, Nat.zero_le _, Nat.zero_le _, rfl, rfl, by cases b <;> decide +kernel⟩
    | int i =>
      obtain ⟨p1, p2, p3, p4, p5, p6⟩ := int_ok hB (of_decide_eq_true h)
      exact ⟨.int i, by cases k <;> rfl, p1, Nat.le_trans p2 (Nat.zero_le _), p3, p4, p5, p6⟩
    | str s =>
      have h : PyData.strOk s = true := h
      refine ⟨.str s, by cases k <;> rfl, h, Nat.zero_le _, Nat.le_refl _, rfl, ?_, ok_rt h⟩
      exact PyData.leavesShort_of_canLay0 60 (.str s) h rfl
    | tup xs =>
      obtain ⟨k, rfl⟩ : ∃ j, k = j + 1 := ⟨k - 1, by omega⟩
      obtain ⟨ps, e, q1, q2, q3, q4, q5, q6⟩ := all xs h k (by omega)
      refine ⟨.tuple ps, by rw [toPy, e]; rfl, q1, ?_, q3, q4, q5, ?_⟩
      · show PyData.depthAll ps + 1 ≤ n + 1
        omega
      · show PyData.strOk (tupleText (PyData.shownAll ps)) = true
        exact ok_app (ok_app (ok_of _) (ok_join (ok_of _) q6)) (ok_of _)
    | lst xs =>
      obtain ⟨k, rfl⟩ : ∃ j, k = j + 1 := ⟨k - 1, by omega⟩
      obtain ⟨ps, e, q1, q2, q3, q4, q5, q6⟩ := all xs h k (by omega)
      refine ⟨.list ps, by rw [toPy, e]; rfl, q1, ?_, q3, q4, q5, ?_⟩
      · show PyData.depthAll ps + 1 ≤ n + 1
        omega
      · show PyData.strOk (listText (PyData.shownAll ps)) = true
        exact ok_app (ok_textFrom (ok_of _) q6) (ok_of _)
    | _ => cases h
theorem reprA_ok {B : Nat} (hB : B ≤ 10 ^ 40) {d : D} {n : Nat} (h : okV B n d = true) (hn : n ≤ 12) (hw : wtD d ≤ 100000) : ∃ s : Str, gReprA [d] = some (.str s) ∧ PyData.canLay0 (.str s) = true := by
  obtain ⟨p, e, p1, p2, p3, p4, p5, p6⟩ := py_ok hB n d h 12 hn
  have hl := PyData.shown_le 60 (by decide) p p5
  have hm : (60 + 2) * p.weight ≤ 62 * 100000 := Nat.mul_le_mul (by decide) (by omega)
  have hlim : p.shown.length ≤ lim := by unfold lim; omega
  have hsh : SeqAt.shaped p = true := by unfold SeqAt.shaped; rw [p1]; simp; omega
  refine ⟨p.shown, ?_, p6⟩
  simp only [gReprA, e, Option.bind_some, hsh, p4]
  rw [if_pos (by simpa using hlim)]
theorem d_neS {s : Str} (h : PyData.canLay0 (.str s) = true) : gNe (.str s) (.str s) = some (.bl false) := by
  have e := d_eqS h
  unfold gEq at e
  unfold gNe
  cases hb : gEqB (.str s) (.str s) with
  | none => rw [hb] at e; cases e
  | some b => rw [hb] at e; cases e; rfl
/-! ### what a state is -/
def stI (n : Nat) : D → Bool
  | .int i => decide (0 ≤ i) && decide (i < (n : Int))
  | _ => false
def stB : D → Bool
  | .tup xs => decide (0 < xs.length) && xs.all (stI xs.length)
  | _ => false
section
variable {B : Nat} {x : D}
def isI : D → Bool
  | .int _ => true
  | _ => false
def isBl : D → Bool
  | .bl _ => true
  | _ => false
def isT : D → Bool
  | .tup _ => true
  | _ => false
def isL : D → Bool
  | .lst _ => true
  | _ => false
theorem gi_int (h : okV B n x = true) : gIsi ["int"] x = some (.bl (isI x || isBl x)) := by
  cases x with
  | non => exact i_one (T := "int") (b := false) rfl
  | bl b => exact i_one (T := "int") (b := true) rfl
  | int b => exact i_one (T := "int") (b := true) rfl
  | str b => exact i_one (T := "int") (b := false) rfl
  | tup b => exact i_one (T := "int") (b := false) rfl
  | lst b => exact i_one (T := "int") (b := false) rfl
  | _ => cases n <;> cases h
theorem gi_bool (h : okV B n x = true) : gIsi ["bool"] x = some (.bl (isBl x)) := by
  cases x with
  | non => exact i_one (T := "bool") (b := false) rfl
  | bl b => exact i_one (T := "bool") (b := true) rfl
  | int b => exact i_one (T := "bool") (b := false) rfl
  | str b => exact i_one (T := "bool") (b := false) rfl
  | tup b => exact i_one (T := "bool") (b := false) rfl
  | lst b => exact i_one (T := "bool") (b := false) rfl
  | _ => cases n <;> cases h
theorem gi_tup (h : okV B n x = true) : gIsi ["tuple"] x = some (.bl (isT x)) := by
  cases x with
  | non => exact i_one (T := "tuple") (b := false) rfl
  | bl b => exact i_one (T := "tuple") (b := false) rfl
  | int b => exact i_one (T := "tuple") (b := false) rfl
  | str b => exact i_one (T := "tuple") (b := false) rfl
  | tup b => exact i_one (T := "tuple") (b := true) rfl
  | lst b => exact i_one (T := "tuple") (b := false) rfl
  | _ => cases n <;> cases h
theorem gi_lst (h : okV B n x = true) : gIsi ["list"] x = some (.bl (isL x)) := by
  cases x with
  | non => exact i_one (T := "list") (b := false) rfl
  | bl b => exact i_one (T := "list") (b := false) rfl
  | int b => exact i_one (T := "list") (b := false) rfl
  | str b => exact i_one (T := "list") (b := false) rfl
  | tup b => exact i_one (T := "list") (b := false) rfl
  | lst b => exact i_one (T := "list") (b := true) rfl
  | _ => cases n <;> cases h
theorem gi_seq (h : okV B n x = true) : gIsi ["list", "tuple"] x = some (.bl (isL x || isT x)) := by
  have e : ∀ {t : String} {b : Bool}, tyD x = some t → (["list", "tuple"].any fun U => isiB t U) = b → gIsi ["list", "tuple"] x = some (.bl b) := fun h1 h2 => by rw [isi_bl h1, h2]
  cases x with
  | non => exact e (b := false) rfl (by decide)
  | bl b => exact e (b := false) rfl (by decide)
  | int b => exact e (b := false) rfl (by decide)
  | str b => exact e (b := false) rfl (by decide)
  | tup b => exact e (b := true) rfl (by decide)
  | lst b => exact e (b := true) rfl (by decide)
  | _ => cases n <;> cases h
theorem pperson_any {m : Nat} (h : okV B n x = true) : Wf (P_Qis_person [x, .int (m : Nat)]) fun d _ => d = .bl (stI m x) := by
  unfold P_Qis_person P_Qis_int
  cases x with
  | int i =>
    simp only [w_fn, w_fnB, List.map_cons, List.map_nil, List.replicate, List.cons_append, List.nil_append, t_seq, t_if, t_next, t_break, t_cont, t_ret, t_retN, t_set, t_WS, t_put, t_par, t_for, t_asg, t_setR, t_drop, wg_two, wg_three, wg_nm, ws_nx, ws_rt, wi_of, wi_rg, wi_st, w_lc0, w_ssc, w_lc, w_lent, w_var, w_C, w_1, w_2, w_nil, w_cons, w_L, w_B, w_T, w_yes, w_bAnd, w_bOr, w_bNot, w_And, w_Or, w_Not, w_If, w_chain, w_only, w_cut, w_meth, w_newK, w_newT, w_call, w_callB, w_callK, w_w, wo_some, wq_ret, gd0, gdS, ls0, lsS, asBl_bl, isLs_l, ob_l, setAll, true_and, and_true, d_add, d_addI, d_sub, d_cmp, d_neg, mk0, mk1, mk2, mk3, mk4, mk5, mt0, mt1, mt2, mt3, mt4, List.length_singleton, okd0, gi_int h, gi_bool h, isI, isBl, tr_bl, Bool.or_false, Bool.not_false, if_true, gLe_int, gLt_int, stI]
    by_cases h0 : 0 ≤ i
    · rw [if_pos (by simpa using h0), decide_eq_true h0, Bool.true_and]
    · rw [if_neg (by simpa using h0), decide_eq_false h0, Bool.false_and]
  | bl i => simp only [w_fn, w_fnB, List.map_cons, List.map_nil, List.replicate, List.cons_append, List.nil_append, t_seq, t_if, t_next, t_break, t_cont, t_ret, t_retN, t_set, t_WS, t_put, t_par, t_for, t_asg, t_setR, t_drop, wg_two, wg_three, wg_nm, ws_nx, ws_rt, wi_of, wi_rg, wi_st, w_lc0, w_ssc, w_lc, w_lent, w_var, w_C, w_1, w_2, w_nil, w_cons, w_L, w_B, w_T, w_yes, w_bAnd, w_bOr, w_bNot, w_And, w_Or, w_Not, w_If, w_chain, w_only, w_cut, w_meth, w_newK, w_newT, w_call, w_callB, w_callK, w_w, wo_some, wq_ret, gd0, gdS, ls0, lsS, asBl_bl, isLs_l, ob_l, setAll, true_and, and_true, d_add, d_addI, d_sub, d_cmp, d_neg, mk0, mk1, mk2, mk3, mk4, mk5, mt0, mt1, mt2, mt3, mt4, List.length_singleton, okd0, gi_int h, gi_bool h, isI, isBl, tr_bl, Bool.false_or, Bool.not_true, if_true, Bool.false_eq_true, if_false, stI]
  | non => simp only [w_fn, w_fnB, List.map_cons, List.map_nil, List.replicate, List.cons_append, List.nil_append, t_seq, t_if, t_next, t_break, t_cont, t_ret, t_retN, t_set, t_WS, t_put, t_par, t_for, t_asg, t_setR, t_drop, wg_two, wg_three, wg_nm, ws_nx, ws_rt, wi_of, wi_rg, wi_st, w_lc0, w_ssc, w_lc, w_lent, w_var, w_C, w_1, w_2, w_nil, w_cons, w_L, w_B, w_T, w_yes, w_bAnd, w_bOr, w_bNot, w_And, w_Or, w_Not, w_If, w_chain, w_only, w_cut, w_meth, w_newK, w_newT, w_call, w_callB, w_callK, w_w, wo_some, wq_ret, gd0, gdS, ls0, lsS, asBl_bl, isLs_l, ob_l, setAll, true_and, and_true, d_add, d_addI, d_sub, d_cmp, d_neg, mk0, mk1, mk2, mk3, mk4, mk5, mt0, mt1, mt2, mt3, mt4, List.length_singleton, okd0, gi_int h, gi_bool h, isI, isBl, tr_bl, Bool.false_or, Bool.not_true, if_true, Bool.false_eq_true, if_false, stI]
  | str i => simp only [w_fn, w_fnB, List.map_cons, List.map_nil, List.replicate, List.cons_append, List.nil_append, t_seq, t_if, t_next, t_break, t_cont, t_ret, t_retN, t_set, t_WS, t_put, t_par, t_for, t_asg, t_setR, t_drop, wg_two, wg_three, wg_nm, ws_nx, ws_rt, wi_of, wi_rg, wi_st, w_lc0, w_ssc, w_lc, w_lent, w_var, w_C, w_1, w_2, w_nil, w_cons, w_L, w_B, w_T, w_yes, w_bAnd, w_bOr, w_bNot, w_And, w_Or, w_Not, w_If, w_chain, w_only, w_cut, w_meth, w_newK, w_newT, w_call, w_callB, w_callK, w_w, wo_some, wq_ret, gd0, gdS, ls0, lsS, asBl_bl, isLs_l, ob_l, setAll, true_and, and_true, d_add, d_addI, d_sub, d_cmp, d_neg, mk0, mk1, mk2, mk3, mk4, mk5, mt0, mt1, mt2, mt3, mt4, List.length_singleton, okd0, gi_int h, gi_bool h, isI, isBl, tr_bl, Bool.false_or, Bool.not_true, if_true, Bool.false_eq_true, if_false, stI]
  | tup i => simp only [w_fn, w_fnB, List.map_cons, List.map_nil, List.replicate, List.cons_append, List.nil_append, t_seq, t_if, t_next, t_break, t_cont, t_ret, t_retN, t_set, t_WS, t_put, t_par, t_for, t_asg, t_setR, t_drop, wg_two, wg_three, wg_nm, ws_nx, ws_rt, wi_of, wi_rg, wi_st, w_lc0, w_ssc, w_lc, w_lent, w_var, w_C, w_1, w_2, w_nil, w_cons, w_L, w_B, w_T, w_yes, w_bAnd, w_bOr, w_bNot, w_And, w_Or, w_Not, w_If, w_chain, w_only, w_cut, w_meth, w_newK, w_newT, w_call, w_callB, w_callK, w_w, wo_some, wq_ret, gd0, gdS, ls0, lsS, asBl_bl, isLs_l, ob_l, setAll, true_and, and_true, d_add, d_addI, d_sub, d_cmp, d_neg, mk0, mk1, mk2, mk3, mk4, mk5, mt0, mt1, mt2, mt3, mt4, List.length_singleton, okd0, gi_int h, gi_bool h, isI, isBl, tr_bl, Bool.false_or, Bool.not_true, if_true, Bool.false_eq_true, if_false, stI]
  | lst i => simp only [w_fn, w_fnB, List.map_cons, List.map_nil, List.replicate, List.cons_append, List.nil_append, t_seq, t_if, t_next, t_break, t_cont, t_ret, t_retN, t_set, t_WS, t_put, t_par, t_for, t_asg, t_setR, t_drop, wg_two, wg_three, wg_nm, ws_nx, ws_rt, wi_of, wi_rg, wi_st, w_lc0, w_ssc, w_lc, w_lent, w_var, w_C, w_1, w_2, w_nil, w_cons, w_L, w_B, w_T, w_yes, w_bAnd, w_bOr, w_bNot, w_And, w_Or, w_Not, w_If, w_chain, w_only, w_cut, w_meth, w_newK, w_newT, w_call, w_callB, w_callK, w_w, wo_some, wq_ret, gd0, gdS, ls0, lsS, asBl_bl, isLs_l, ob_l, setAll, true_and, and_true, d_add, d_addI, d_sub, d_cmp, d_neg, mk0, mk1, mk2, mk3, mk4, mk5, mt0, mt1, mt2, mt3, mt4, List.length_singleton, okd0, gi_int h, gi_bool h, isI, isBl, tr_bl, Bool.false_or, Bool.not_true, if_true, Bool.false_eq_true, if_false, stI]
  | _ => cases n <;> cases h
theorem pstate_any (h : okV B n d = true) (hw : wtD d ≤ 1000000) : Wf (P_Qis_state [d]) fun r _ => r = .bl (stB d) := by
  unfold P_Qis_state
  simp only [w_fn, w_fnB, List.map_cons, List.map_nil, List.replicate, List.cons_append, List.nil_append, t_seq, t_if, t_next, t_break, t_cont, t_ret, t_retN, t_set, t_WS, t_put, t_par, t_for, t_asg, t_setR, t_drop, wg_two, wg_three, wg_nm, ws_nx, ws_rt, wi_of, wi_rg, wi_st, w_lc0, w_ssc, w_lc, w_lent, w_var, w_C, w_1, w_2, w_nil, w_cons, w_L, w_B, w_T, w_yes, w_bAnd, w_bOr, w_bNot, w_And, w_Or, w_Not, w_If, w_chain, w_only, w_cut, w_meth, w_newK, w_newT, w_call, w_callB, w_callK, w_w, wo_some, wq_ret, gd0, gdS, ls0, lsS, asBl_bl, isLs_l, ob_l, setAll, true_and, and_true, d_add, d_addI, d_sub, d_cmp, d_neg, mk0, mk1, mk2, mk3, mk4, mk5, mt0, mt1, mt2, mt3, mt4, gi_tup h]
  cases d with
  | tup xs =>
    obtain ⟨n, rfl⟩ : ∃ j, n = j + 1 := by cases n with | zero => cases h | succ j => exact ⟨j, rfl⟩
    have hx := okVs_iff.mp (show okVs B n xs = true from h)
    have hl : xs.length ≤ 1000000 := Nat.le_trans (wtDs_len xs) hw
    simp only [isT, if_true, w_fn, w_fnB, List.map_cons, List.map_nil, List.replicate, List.cons_append, List.nil_append, t_seq, t_if, t_next, t_break, t_cont, t_ret, t_retN, t_set, t_WS, t_put, t_par, t_for, t_asg, t_setR, t_drop, wg_two, wg_three, wg_nm, ws_nx, ws_rt, wi_of, wi_rg, wi_st, w_lc0, w_ssc, w_lc, w_lent, w_var, w_C, w_1, w_2, w_nil, w_cons, w_L, w_B, w_T, w_yes, w_bAnd, w_bOr, w_bNot, w_And, w_Or, w_Not, w_If, w_chain, w_only, w_cut, w_meth, w_newK, w_newT, w_call, w_callB, w_callK, w_w, wo_some, wq_ret, gd0, gdS, ls0, lsS, asBl_bl, isLs_l, ob_l, setAll, true_and, and_true, d_add, d_addI, d_sub, d_cmp, d_neg, mk0, mk1, mk2, mk3, mk4, mk5, mt0, mt1, mt2, mt3, mt4, d_lenT, gGt_int, items_t, stB]
    by_cases h0 : 0 < xs.length
    · rw [if_pos (by simpa using h0), decide_eq_true h0, Bool.true_and]
      refine ⟨limle (by omega), ?_⟩
      rw [show xs = xs.map id by simp]
      refine w_lcM (φ := id) (f := fun x => .bl (stI xs.length x)) (fun x hx' => ?_) ?_
      · simp only [wipe1, w_fn, w_fnB, List.map_cons, List.map_nil, List.replicate, List.cons_append, List.nil_append, t_seq, t_if, t_next, t_break, t_cont, t_ret, t_retN, t_set, t_WS, t_put, t_par, t_for, t_asg, t_setR, t_drop, wg_two, wg_three, wg_nm, ws_nx, ws_rt, wi_of, wi_rg, wi_st, w_lc0, w_ssc, w_lc, w_lent, w_var, w_C, w_1, w_2, w_nil, w_cons, w_L, w_B, w_T, w_yes, w_bAnd, w_bOr, w_bNot, w_And, w_Or, w_Not, w_If, w_chain, w_only, w_cut, w_meth, w_newK, w_newT, w_call, w_callB, w_callK, w_w, wo_some, wq_ret, gd0, gdS, ls0, lsS, asBl_bl, isLs_l, ob_l, setAll, true_and, and_true, d_add, d_addI, d_sub, d_cmp, d_neg, mk0, mk1, mk2, mk3, mk4, mk5, mt0, mt1, mt2, mt3, mt4, d_lenT, List.map_id, id, List.length_cons, List.length_nil, Nat.zero_add, Nat.reduceAdd, okd0]
        exact (pperson_any (hx x hx')).mono fun _ _ h => h
      · simp only [w_fn, w_fnB, List.map_cons, List.map_nil, List.replicate, List.cons_append, List.nil_append, t_seq, t_if, t_next, t_break, t_cont, t_ret, t_retN, t_set, t_WS, t_put, t_par, t_for, t_asg, t_setR, t_drop, wg_two, wg_three, wg_nm, ws_nx, ws_rt, wi_of, wi_rg, wi_st, w_lc0, w_ssc, w_lc, w_lent, w_var, w_C, w_1, w_2, w_nil, w_cons, w_L, w_B, w_T, w_yes, w_bAnd, w_bOr, w_bNot, w_And, w_Or, w_Not, w_If, w_chain, w_only, w_cut, w_meth, w_newK, w_newT, w_call, w_callB, w_callK, w_w, wo_some, wq_ret, gd0, gdS, ls0, lsS, asBl_bl, isLs_l, ob_l, setAll, true_and, and_true, d_add, d_addI, d_sub, d_cmp, d_neg, mk0, mk1, mk2, mk3, mk4, mk5, mt0, mt1, mt2, mt3, mt4, d_allB (stI xs.length), List.map_id]
    · rw [if_neg (by simpa using h0), decide_eq_false h0, Bool.false_and]
  | non => simp only [isT, Bool.false_eq_true, if_false, stB]
  | bl b => simp only [isT, Bool.false_eq_true, if_false, stB]
  | int b => simp only [isT, Bool.false_eq_true, if_false, stB]
  | str b => simp only [isT, Bool.false_eq_true, if_false, stB]
  | lst b => simp only [isT, Bool.false_eq_true, if_false, stB]
  | _ => cases n <;> cases h
noncomputable def Qdue00 : List D → FO := qFn 1 (qSeq (qIfS (qbOr (qbNot (qT (q1 (qVar 0) (gIsi ["tuple"])))) (qB (q2 (qL (qCons (qVar 0) qNil) gLen) (qC (.int 0)) gEq)))
  (qRet (qC (.bl false)))
  qNext)
  (qSeq (qIfS (qbNot (qT (qL (qCons (qLc0 (qiOf (qVar 0)) (qNm 1) qYes (qAnd (q1 (qVar 1) (gIsi ["int"])) (qNot (q1 (qVar 1) (gIsi ["bool"])))) [1]) qNil) gAll)))
  (qRet (qC (.bl false)))
  qNext)
  (qRet (qL (qCons (qLc0 (qiOf (qVar 0)) (qNm 1) qYes (qChain (qC (.int 0)) (qVar 1) (qL (qCons (qVar 0) qNil) gLen) gLe gLt) [1]) qNil) gAll))))
theorem qdue_any (h : okV B n d = true) (hw : wtD d ≤ 1000000) : Wf (Qdue00 [d]) fun r _ => r = .bl (stB d) := by
  unfold Qdue00
  simp only [w_fn, w_fnB, List.map_cons, List.map_nil, List.replicate, List.cons_append, List.nil_append, t_seq, t_if, t_next, t_break, t_cont, t_ret, t_retN, t_set, t_WS, t_put, t_par, t_for, t_asg, t_setR, t_drop, wg_two, wg_three, wg_nm, ws_nx, ws_rt, wi_of, wi_rg, wi_st, w_lc0, w_ssc, w_lc, w_lent, w_var, w_C, w_1, w_2, w_nil, w_cons, w_L, w_B, w_T, w_yes, w_bAnd, w_bOr, w_bNot, w_And, w_Or, w_Not, w_If, w_chain, w_only, w_cut, w_meth, w_newK, w_newT, w_call, w_callB, w_callK, w_w, wo_some, wq_ret, gd0, gdS, ls0, lsS, asBl_bl, isLs_l, ob_l, setAll, true_and, and_true, d_add, d_addI, d_sub, d_cmp, d_neg, mk0, mk1, mk2, mk3, mk4, mk5, mt0, mt1, mt2, mt3, mt4, gi_tup h, tr_bl]
  cases d with
  | tup xs =>
    obtain ⟨n, rfl⟩ : ∃ j, n = j + 1 := by cases n with | zero => cases h | succ j => exact ⟨j, rfl⟩
    have hx := okVs_iff.mp (show okVs B n xs = true from h)
    have hl : xs.length ≤ 1000000 := Nat.le_trans (wtDs_len xs) hw
    simp only [isT, Bool.not_true, Bool.false_eq_true, if_false, w_fn, w_fnB, List.map_cons, List.map_nil, List.replicate, List.cons_append, List.nil_append, t_seq, t_if, t_next, t_break, t_cont, t_ret, t_retN, t_set, t_WS, t_put, t_par, t_for, t_asg, t_setR, t_drop, wg_two, wg_three, wg_nm, ws_nx, ws_rt, wi_of, wi_rg, wi_st, w_lc0, w_ssc, w_lc, w_lent, w_var, w_C, w_1, w_2, w_nil, w_cons, w_L, w_B, w_T, w_yes, w_bAnd, w_bOr, w_bNot, w_And, w_Or, w_Not, w_If, w_chain, w_only, w_cut, w_meth, w_newK, w_newT, w_call, w_callB, w_callK, w_w, wo_some, wq_ret, gd0, gdS, ls0, lsS, asBl_bl, isLs_l, ob_l, setAll, true_and, and_true, d_add, d_addI, d_sub, d_cmp, d_neg, mk0, mk1, mk2, mk3, mk4, mk5, mt0, mt1, mt2, mt3, mt4, d_lenT, d_eqI, items_t, stB]
    by_cases h0 : xs.length = 0
    · rw [if_pos (by simp [h0])]
      rw [decide_eq_false (by omega), Bool.false_and]
    · rw [if_neg (by simpa using h0), decide_eq_true (by omega), Bool.true_and]
      rw [show xs = xs.map id by simp]
      refine ⟨limle (by rw [List.length_map]; omega), w_lcM (φ := id) (f := fun x => .bl (isI x)) (fun x hx' => ?_) ?_⟩
      · have hx' := hx x hx'
        simp only [wipe1, w_fn, w_fnB, List.map_cons, List.map_nil, List.replicate, List.cons_append, List.nil_append, t_seq, t_if, t_next, t_break, t_cont, t_ret, t_retN, t_set, t_WS, t_put, t_par, t_for, t_asg, t_setR, t_drop, wg_two, wg_three, wg_nm, ws_nx, ws_rt, wi_of, wi_rg, wi_st, w_lc0, w_ssc, w_lc, w_lent, w_var, w_C, w_1, w_2, w_nil, w_cons, w_L, w_B, w_T, w_yes, w_bAnd, w_bOr, w_bNot, w_And, w_Or, w_Not, w_If, w_chain, w_only, w_cut, w_meth, w_newK, w_newT, w_call, w_callB, w_callK, w_w, wo_some, wq_ret, gd0, gdS, ls0, lsS, asBl_bl, isLs_l, ob_l, setAll, true_and, and_true, d_add, d_addI, d_sub, d_cmp, d_neg, mk0, mk1, mk2, mk3, mk4, mk5, mt0, mt1, mt2, mt3, mt4, id, gi_int hx', gi_bool hx']
        cases x <;> rfl
      · simp only [w_fn, w_fnB, List.map_cons, List.map_nil, List.replicate, List.cons_append, List.nil_append, t_seq, t_if, t_next, t_break, t_cont, t_ret, t_retN, t_set, t_WS, t_put, t_par, t_for, t_asg, t_setR, t_drop, wg_two, wg_three, wg_nm, ws_nx, ws_rt, wi_of, wi_rg, wi_st, w_lc0, w_ssc, w_lc, w_lent, w_var, w_C, w_1, w_2, w_nil, w_cons, w_L, w_B, w_T, w_yes, w_bAnd, w_bOr, w_bNot, w_And, w_Or, w_Not, w_If, w_chain, w_only, w_cut, w_meth, w_newK, w_newT, w_call, w_callB, w_callK, w_w, wo_some, wq_ret, gd0, gdS, ls0, lsS, asBl_bl, isLs_l, ob_l, setAll, true_and, and_true, d_add, d_addI, d_sub, d_cmp, d_neg, mk0, mk1, mk2, mk3, mk4, mk5, mt0, mt1, mt2, mt3, mt4, d_allB isI, tr_bl, List.map_id]
        cases ha : xs.all isI with
        | false =>
          simp only [Bool.not_false, if_true]
          congr 1
          rw [eq_comm, Bool.eq_false_iff]
          intro z
          rw [List.all_eq_true] at z
          have : xs.all isI = true := List.all_eq_true.mpr fun x hx => by
            have := z x hx
            cases x <;> first | rfl | cases this
          rw [this] at ha; cases ha
        | true =>
          have hi := List.all_eq_true.mp ha
          simp only [Bool.not_true, Bool.false_eq_true, if_false, items_t]
          refine ⟨limle (by omega), ?_⟩
          rw [show xs = xs.map id by simp]
          refine w_lcM (φ := id) (f := fun x => .bl (stI xs.length x)) (fun x hx' => ?_) ?_
          · have hi' := hi x hx'
            cases x with
            | int i =>
              simp only [wipe1, w_fn, w_fnB, List.map_cons, List.map_nil, List.replicate, List.cons_append, List.nil_append, t_seq, t_if, t_next, t_break, t_cont, t_ret, t_retN, t_set, t_WS, t_put, t_par, t_for, t_asg, t_setR, t_drop, wg_two, wg_three, wg_nm, ws_nx, ws_rt, wi_of, wi_rg, wi_st, w_lc0, w_ssc, w_lc, w_lent, w_var, w_C, w_1, w_2, w_nil, w_cons, w_L, w_B, w_T, w_yes, w_bAnd, w_bOr, w_bNot, w_And, w_Or, w_Not, w_If, w_chain, w_only, w_cut, w_meth, w_newK, w_newT, w_call, w_callB, w_callK, w_w, wo_some, wq_ret, gd0, gdS, ls0, lsS, asBl_bl, isLs_l, ob_l, setAll, true_and, and_true, d_add, d_addI, d_sub, d_cmp, d_neg, mk0, mk1, mk2, mk3, mk4, mk5, mt0, mt1, mt2, mt3, mt4, id, List.map_id, d_lenT, gLe_int, gLt_int, stI]
              by_cases h0 : 0 ≤ i
              · rw [if_pos (by simpa using h0), decide_eq_true h0, Bool.true_and]
              · rw [if_neg (by simpa using h0), decide_eq_false h0, Bool.false_and]
            | _ => cases hi'
          · simp only [w_fn, w_fnB, List.map_cons, List.map_nil, List.replicate, List.cons_append, List.nil_append, t_seq, t_if, t_next, t_break, t_cont, t_ret, t_retN, t_set, t_WS, t_put, t_par, t_for, t_asg, t_setR, t_drop, wg_two, wg_three, wg_nm, ws_nx, ws_rt, wi_of, wi_rg, wi_st, w_lc0, w_ssc, w_lc, w_lent, w_var, w_C, w_1, w_2, w_nil, w_cons, w_L, w_B, w_T, w_yes, w_bAnd, w_bOr, w_bNot, w_And, w_Or, w_Not, w_If, w_chain, w_only, w_cut, w_meth, w_newK, w_newT, w_call, w_callB, w_callK, w_w, wo_some, wq_ret, gd0, gdS, ls0, lsS, asBl_bl, isLs_l, ob_l, setAll, true_and, and_true, d_add, d_addI, d_sub, d_cmp, d_neg, mk0, mk1, mk2, mk3, mk4, mk5, mt0, mt1, mt2, mt3, mt4, d_allB (stI xs.length), List.map_id]
  | non => simp only [isT, Bool.not_false, if_true, stB]
  | bl b => simp only [isT, Bool.not_false, if_true, stB]
  | int b => simp only [isT, Bool.not_false, if_true, stB]
  | str b => simp only [isT, Bool.not_false, if_true, stB]
  | lst b => simp only [isT, Bool.not_false, if_true, stB]
  | _ => cases n <;> cases h
/-! ### odd values -/
def odd1 : List D := [.non, .bl true, .bl false, .int 0, .int 1, .int (-1), .int 1000000000000000000000000000000, .str "", .str "0", .str "(0,)", .tup [], .lst [], .tup [.int 0], .lst [.int 0], .tup [.bl true], .tup [.bl false], .tup [.int 1], .tup [.non]]
def odd2 : List D := [.tup [.int 0, .int 0, .int 3], .tup [.int 0, .str "1"], .tup [.tup [.int 0]], .tup [.tup []], .tup [.lst []], .tup [.int 0, .tup [.int 1]], .lst [.lst [.int 0], .lst [.int 1]], .tup [.int (-1), .int 0], .tup [.int 2, .int 1], .tup [.int 0, .int 1, .int 2]]
theorem odd_good : ∀ x ∈ odd1 ++ odd2, okV (10 ^ 31) 2 x = true ∧ wtD x ≤ 1000 := by
  have h : (odd1 ++ odd2).all (fun x => okV (10 ^ 31) 2 x && decide (wtD x ≤ 1000)) = true := by decide +kernel
  intro x hx
  have := List.all_eq_true.mp h x hx
  rw [Bool.and_eq_true, decide_eq_true_eq] at this
  exact this
end
noncomputable def Qodd (T : List D → FO) : List D → FO := qFnB 1 (qSeq (qSet 1 (qL (qCons (qC .non) (qCons (qC (.bl true)) (qCons (qC (.bl false)) (qCons (qC (.int 0)) (qCons (qC (.int 1)) (qCons (q1 (qC (.int 1)) gNeg) (qCons (q2 (qC (.int 10)) (qC (.int 30)) gPow) (qCons (qC (.str ("" : Str))) (qCons (qC (.str ("0" : Str))) (qCons (qC (.str ("(0,)" : Str))) (qCons (qL qNil gTup) (qCons (qL qNil gList) (qCons (qL (qCons (qC (.int 0)) qNil) gTup) (qCons (qL (qCons (qC (.int 0)) qNil) gList) (qCons (qL (qCons (qC (.bl true)) qNil) gTup) (qCons (qL (qCons (qC (.bl false)) qNil) gTup) (qCons (qL (qCons (qC (.int 1)) qNil) gTup) (qCons (qL (qCons (qC .non) qNil) gTup) qNil)))))))))))))))))) gList))
  (qSeq (qSet 1 (q2 (qVar 1) (qL (qCons (qL (qCons (qC (.int 0)) (qCons (qC (.int 0)) (qCons (qC (.int 3)) qNil))) gTup) (qCons (qL (qCons (qC (.int 0)) (qCons (qC (.str ("1" : Str))) qNil)) gTup) (qCons (qL (qCons (qL (qCons (qC (.int 0)) qNil) gTup) qNil) gTup) (qCons (qL (qCons (qL qNil gTup) qNil) gTup) (qCons (qL (qCons (qL qNil gList) qNil) gTup) (qCons (qL (qCons (qC (.int 0)) (qCons (qL (qCons (qC (.int 1)) qNil) gTup) qNil)) gTup) (qCons (qL (qCons (qL (qCons (qC (.int 0)) qNil) gList) (qCons (qL (qCons (qC (.int 1)) qNil) gList) qNil)) gList) (qCons (qL (qCons (q1 (qC (.int 1)) gNeg) (qCons (qC (.int 0)) qNil)) gTup) (qCons (qL (qCons (qC (.int 2)) (qCons (qC (.int 1)) qNil)) gTup) (qCons (qL (qCons (qC (.int 0)) (qCons (qC (.int 1)) (qCons (qC (.int 2)) qNil))) gTup) qNil)))))))))) gList) gAdd))
  (qRet (qCallB 2 false false 0 (qCons (qVar 1) qNil) (Qof T)))))
theorem qodd_ok (hT : TakeQ T) {b : D} {c : Int} (hb : BoxD b c) (hc : c + 1 < 1099511627776) : Wf (Qodd T [b]) fun d b' => okV (10 ^ 31) 2 d = true ∧ wtD d ≤ 1000 ∧ More c 1 b' := by
  unfold Qodd
  have hp : gPow (.int 10) (.int 30) = some (.int 1000000000000000000000000000000) := by
    have := d_pow (i := 10) (k := 30) ⟨by decide, by decide, by decide⟩
    rw [show ((30 : Nat) : Int) = 30 from rfl] at this
    rw [this]; rfl
  have h1 : gList [.non, .bl true, .bl false, .int 0, .int 1, .int (-1), .int 1000000000000000000000000000000, .str "", .str "0", .str "(0,)", .tup [], .lst [], .tup [.int 0], .lst [.int 0], .tup [.bl true], .tup [.bl false], .tup [.int 1], .tup [.non]] = some (.lst odd1) := d_mkL (limle (by decide))
  have h2 : gList [.tup [.int 0, .int 0, .int 3], .tup [.int 0, .str "1"], .tup [.tup [.int 0]], .tup [.tup []], .tup [.lst []], .tup [.int 0, .tup [.int 1]], .lst [.lst [.int 0], .lst [.int 1]], .tup [.int (-1), .int 0], .tup [.int 2, .int 1], .tup [.int 0, .int 1, .int 2]] = some (.lst odd2) := d_mkL (limle (by decide))
  have h3 : gAdd (.lst odd1) (.lst odd2) = some (.lst (odd1 ++ odd2)) := d_addL (limle (by decide))
  simp only [w_fn, w_fnB, List.map_cons, List.map_nil, List.replicate, List.cons_append, List.nil_append, t_seq, t_if, t_next, t_break, t_cont, t_ret, t_retN, t_set, t_WS, t_put, t_par, t_for, t_asg, t_setR, t_drop, wg_two, wg_three, wg_nm, ws_nx, ws_rt, wi_of, wi_rg, wi_st, w_lc0, w_ssc, w_lc, w_lent, w_var, w_C, w_1, w_2, w_nil, w_cons, w_L, w_B, w_T, w_yes, w_bAnd, w_bOr, w_bNot, w_And, w_Or, w_Not, w_If, w_chain, w_only, w_cut, w_meth, w_newK, w_newT, w_call, w_callB, w_callK, w_w, wo_some, wq_ret, gd0, gdS, ls0, lsS, asBl_bl, isLs_l, ob_l, setAll, true_and, and_true, d_add, d_addI, d_sub, d_cmp, d_neg, mk0, mk1, mk2, mk3, mk4, mk5, mt0, mt1, mt2, mt3, mt4, hp, h1, h2, h3, hb.obj, List.length_singleton, okd0]
  refine (qof_ok hT (xs := odd1 ++ odd2) hb (by omega) SqD.l (by decide) (by decide)).mono fun u b1 hh => ?_
  obtain ⟨i, hi, c1, q1, q2, hb1⟩ := hh
  obtain ⟨g1, g2⟩ := odd_good u (List.mem_of_getElem? hi)
  exact ⟨hb1.nlc, g1, g2, c1, q1, q2, hb1⟩
/-! ### values bent -/
theorem wtDs_take {xs : List D} (k : Nat) : wtDs (xs.take k) + wtDs (xs.drop k) = wtDs xs := by rw [← wtDs_app, List.take_append_drop]
theorem wtDs_set : ∀ {xs : List D} {k : Nat} {x y : D}, xs[k]? = some x → wtDs (xs.set k y) + wtD x = wtDs xs + wtD y
  | [], k, x, y, h => by simp at h
  | z :: xs, 0, x, y, h => by
    cases h
    rw [List.set_cons_zero, wtDs, wtDs]; omega
  | z :: xs, k + 1, x, y, h => by
    rw [List.getElem?_cons_succ] at h
    have := wtDs_set (y := y) h
    rw [List.set_cons_succ, wtDs, wtDs]; omega
theorem wtDs_mem : ∀ {xs : List D} {x : D}, x ∈ xs → wtD x ≤ wtDs xs
  | z :: xs, x, h => by
    rw [wtDs]
    rcases List.mem_cons.mp h with rfl | h
    · omega
    · have := wtDs_mem h; omega
theorem d_strI {i : Int} (h : i.natAbs < 10 ^ 40) : gStrI [.int i] = some (.str (toString i)) := by
  have e40 : (10 : Nat) ^ 40 < 2 ^ 140 := by decide
  have hl : i.natAbs.log2 < 1920 := by
    by_cases z : i.natAbs = 0
    · rw [z]; decide
    · have := (Nat.log2_lt z).mpr (show i.natAbs < 2 ^ 140 by omega)
      omega
  simp only [gStrI]; rw [if_pos hl]
noncomputable def Qbent (T : List D → FO) : Nat → List D → FO
  | 0 => fun _ => .fail
  | d + 1 => qFnB 3 (qSeq (qSet 2 (qCallB 2 false false 0 (qCons (qC (.int 8)) qNil) T))
  (qSeq (qIfS (qbAnd (qT (q1 (qVar 1) (gIsi ["int"]))) (qbAnd (qbNot (qT (q1 (qVar 1) (gIsi ["bool"])))) (qB (q2 (qVar 2) (qC (.int 5)) gLt))))
  (qRet (q2 (qL (qCons (q2 (qVar 1) (qC (.int 1)) gAdd) (qCons (q2 (qVar 1) (qC (.int 1)) gSub) (qCons (q2 (qC (.int 0)) (qVar 1) gSub) (qCons (q2 (qVar 1) (qC (.int 1)) gEq) (qCons (qL (qCons (qVar 1) qNil) gStrI) qNil))))) gList) (qVar 2) gSub1))
  qNext)
  (qSeq (qIfS (qbOr (qbNot (qT (q1 (qVar 1) (gIsi ["list", "tuple"])))) (qbOr (qB (q2 (qL (qCons (qVar 1) qNil) gLen) (qC (.int 0)) gEq)) (qB (q2 (qVar 2) (qC (.int 0)) gEq))))
  (qRet (qCallB 1 false false 0 qNil (Qodd T)))
  qNext)
  (qSeq (qPar [3, 4] (qCons (qL (qCons (qVar 1) qNil) gListOf) (qCons (qCallB 2 false false 0 (qCons (qL (qCons (qVar 1) qNil) gLen) qNil) T) qNil)))
  (qSeq (qIfS (qB (q2 (qVar 2) (qC (.int 1)) gEq))
  (qIfS (qT (q1 (qVar 1) (gIsi ["list"])))
  (qRet (qL (qCons (qVar 3) qNil) gTupOf))
  (qRet (qVar 3)))
  qNext)
  (qSeq (qIfS (qB (q2 (qVar 2) (qC (.int 2)) gEq))
  (qSetR 3 (q2 (qCut (qVar 3) (qC .non) (qOnly (qVar 4))) (qCut (qVar 3) (qOnly (q2 (qVar 4) (qC (.int 1)) gAdd)) (qC .non)) gAdd))
  (qIfS (qB (q2 (qVar 2) (qC (.int 3)) gEq))
  (qSetR 3 (q2 (qCut (qVar 3) (qC .non) (qOnly (q2 (qVar 4) (qC (.int 1)) gAdd))) (qCut (qVar 3) (qOnly (qVar 4)) (qC .non)) gAdd))
  (qPut 3 (qVar 4) (qCallB 2 false false 0 (qCons (q2 (qVar 3) (qVar 4) gSub1) qNil) ((Qbent T) d)))))
  (qIfS (qT (q1 (qVar 1) (gIsi ["tuple"])))
  (qRet (qL (qCons (qVar 3) qNil) gTupOf))
  (qRet (qVar 3)))))))))
theorem bent_odd (hT : TakeQ T) {b : D} {c : Int} {B : Nat} (hB : 10 ^ 31 ≤ B) (hb : BoxD b c) (hc : c + 1 < 1099511627776) (n W : Nat) (k : Int) (hk : 1 ≤ k) (hn : 2 ≤ n) (hW : 1000 ≤ W) : Wf (Qodd T [b]) fun d b' => okV B n d = true ∧ wtD d ≤ W ∧ More c k b' :=
  (qodd_ok hT hb hc).mono fun d b' ⟨h1, h2, c', q1, q2, q3⟩ => ⟨okV_mono hB 2 n d hn h1, by omega, c', q1, by omega, q3⟩
theorem bent_sc (hT : TakeQ T) {b : D} {c : Int} {B n m : Nat} {d : D} (hB : 10 ^ 31 ≤ B) (hB2 : B ≤ 10 ^ 39) (h : okV B n d = true) (hs : isL d = false) (ht : isT d = false) (hw : wtD d ≤ 10000) (hb : BoxD b c) (hc : c + 100 < 1099511627776) :
    Wf (Qbent T (m + 1) [b, d]) fun d' b' => okV (B + 1) (n + 2) d' = true ∧ wtD d' ≤ 2 * wtD d + 1000 ∧ More c 3 b' := by
  unfold Qbent
  simp only [w_fn, w_fnB, List.map_cons, List.map_nil, List.replicate, List.cons_append, List.nil_append, t_seq, t_if, t_next, t_break, t_cont, t_ret, t_retN, t_set, t_WS, t_put, t_par, t_for, t_asg, t_setR, t_drop, wg_two, wg_three, wg_nm, ws_nx, ws_rt, wi_of, wi_rg, wi_st, w_lc0, w_ssc, w_lc, w_lent, w_var, w_C, w_1, w_2, w_nil, w_cons, w_L, w_B, w_T, w_yes, w_bAnd, w_bOr, w_bNot, w_And, w_Or, w_Not, w_If, w_chain, w_only, w_cut, w_meth, w_newK, w_newT, w_call, w_callB, w_callK, w_w, wo_some, wq_ret, gd0, gdS, ls0, lsS, asBl_bl, isLs_l, ob_l, setAll, true_and, and_true, d_add, d_addI, d_sub, d_cmp, d_neg, mk0, mk1, mk2, mk3, mk4, mk5, mt0, mt1, mt2, mt3, mt4, hb.obj, List.length_singleton, okd0]
  refine (hT b c 8 hb (by omega) (by omega) (by omega)).mono fun u b1 ⟨s, hu, hs8, c1, q1, q2, hb1⟩ => ?_
  subst hu
  try simp only [w_fn, w_fnB, List.map_cons, List.map_nil, List.replicate, List.cons_append, List.nil_append, t_seq, t_if, t_next, t_break, t_cont, t_ret, t_retN, t_set, t_WS, t_put, t_par, t_for, t_asg, t_setR, t_drop, wg_two, wg_three, wg_nm, ws_nx, ws_rt, wi_of, wi_rg, wi_st, w_lc0, w_ssc, w_lc, w_lent, w_var, w_C, w_1, w_2, w_nil, w_cons, w_L, w_B, w_T, w_yes, w_bAnd, w_bOr, w_bNot, w_And, w_Or, w_Not, w_If, w_chain, w_only, w_cut, w_meth, w_newK, w_newT, w_call, w_callB, w_callK, w_w, wo_some, wq_ret, gd0, gdS, ls0, lsS, asBl_bl, isLs_l, ob_l, setAll, true_and, and_true, d_add, d_addI, d_sub, d_cmp, d_neg, mk0, mk1, mk2, mk3, mk4, mk5, mt0, mt1, mt2, mt3, mt4, gi_int h, gi_bool h, gi_seq h, hs, ht, Bool.or_self, tr_bl, gLt_int, hb1.obj, List.length_nil, Nat.zero_add, okd0]
  have hodd : Wf (Qodd T [b1]) fun d_1 b' => nlc b' = true ∧ okV (B + 1) (n + 2) d_1 = true ∧ wtD d_1 ≤ 2 * wtD d + 1000 ∧ More c 3 b' :=
    (bent_odd hT (B := B + 1) (by omega) hb1 (by omega) (n + 2) 1000 1 (by omega) (by omega) (by omega)).mono fun d b' ⟨h1, h2, c', g1, g2, g3⟩ => ⟨g3.nlc, h1, by omega, c', by omega, by omega, g3⟩
  have low : ∀ {i : Int}, i.natAbs < B + 1 → okV (B + 1) (n + 2) (.int i) = true := fun h => by
    show decide _ = true
    exact decide_eq_true h
  have mor : More c 3 b1 := ⟨c1, q1, by omega, hb1⟩
  cases d with
  | int i =>
    have hi : i.natAbs < B := by cases n <;> exact of_decide_eq_true h
    simp only [isI, isBl, Bool.or_false, Bool.not_false, if_true]
    by_cases h5 : s < 5
    · rw [if_pos (by simp; omega)]
      have hst := d_strI (i := i) (by omega)
      have hwI : ∀ j : Int, wtD (.int j) ≤ 2 * wtD (.int i) + 1000 := fun j => (show 200 ≤ 2 * 200 + 1000 by omega)
      have hwS : wtD (.str (toString i)) ≤ 2 * wtD (.int i) + 1000 := by
        have e := int_text_length_le10 (a := i) (k := 40) (by decide) (by omega)
        have : (Str.ofString (toString i)).length ≤ 41 := by rw [PySem.ofString_length]; exact e
        show (Str.ofString (toString i)).length ≤ 2 * 200 + 1000
        omega
      simp only [w_fn, w_fnB, List.map_cons, List.map_nil, List.replicate, List.cons_append, List.nil_append, t_seq, t_if, t_next, t_break, t_cont, t_ret, t_retN, t_set, t_WS, t_put, t_par, t_for, t_asg, t_setR, t_drop, wg_two, wg_three, wg_nm, ws_nx, ws_rt, wi_of, wi_rg, wi_st, w_lc0, w_ssc, w_lc, w_lent, w_var, w_C, w_1, w_2, w_nil, w_cons, w_L, w_B, w_T, w_yes, w_bAnd, w_bOr, w_bNot, w_And, w_Or, w_Not, w_If, w_chain, w_only, w_cut, w_meth, w_newK, w_newT, w_call, w_callB, w_callK, w_w, wo_some, wq_ret, gd0, gdS, ls0, lsS, asBl_bl, isLs_l, ob_l, setAll, true_and, and_true, d_add, d_addI, d_sub, d_cmp, d_neg, mk0, mk1, mk2, mk3, mk4, mk5, mt0, mt1, mt2, mt3, mt4, d_eqI, hst]
      have key : ∃ z, gSub1 (.lst [.int (i + 1), .int (i - 1), .int (0 - i), .bl (i == 1), .str (toString i)]) (dn s) = some z ∧ okV (B + 1) (n + 2) z = true ∧ wtD z ≤ 2 * wtD (.int i) + 1000 := by
        have h5' : s = 0 ∨ s = 1 ∨ s = 2 ∨ s = 3 ∨ s = 4 := by omega
        rcases h5' with rfl | rfl | rfl | rfl | rfl
        · exact ⟨.int (i + 1), id rfl, low (by omega), hwI _⟩
        · exact ⟨.int (i - 1), id rfl, low (by omega), hwI _⟩
        · exact ⟨.int (0 - i), id rfl, low (by omega), hwI _⟩
        · exact ⟨.bl (i == 1), id rfl, rfl, Nat.zero_le _⟩
        · exact ⟨.str (toString i), id rfl, ok_of _, hwS⟩
      obtain ⟨z, e1, e2, e3⟩ := key
      rw [e1, wo_some]
      exact ⟨hb1.nlc, e2, e3, mor⟩
    · rw [if_neg (by simp; omega)]
      exact hodd
  | non => simp only [isI, isBl, Bool.or_self, Bool.false_eq_true, if_false, Bool.not_false, if_true]; exact hodd
  | bl v => simp only [isI, isBl, Bool.false_or, Bool.not_true, Bool.false_eq_true, if_false, Bool.not_false, if_true]; exact hodd
  | str v => simp only [isI, isBl, Bool.or_self, Bool.false_eq_true, if_false, Bool.not_false, if_true]; exact hodd
  | tup v => cases ht
  | lst v => cases hs
  | _ => cases n <;> cases h
theorem bent_ok (hT : TakeQ T) {B : Nat} (hB : 10 ^ 31 ≤ B) (hB2 : B ≤ 10 ^ 39) : ∀ (n m : Nat) (d : D) (b : D) (c : Int), n ≤ m → okV B n d = true → wtD d ≤ 10000 → BoxD b c → c + 3 * n + 100 < 1099511627776 →
    Wf (Qbent T (m + 1) [b, d]) fun d' b' => okV (B + 1) (n + 2) d' = true ∧ wtD d' ≤ 2 * wtD d + 1000 ∧ More c (3 * (n + 1)) b' := by
  have sc : ∀ (n m : Nat) (d : D) (b : D) (c : Int), okV B n d = true → isL d = false → isT d = false → wtD d ≤ 10000 → BoxD b c → c + 3 * n + 100 < 1099511627776 →
      Wf (Qbent T (m + 1) [b, d]) fun d' b' => okV (B + 1) (n + 2) d' = true ∧ wtD d' ≤ 2 * wtD d + 1000 ∧ More c (3 * (n + 1)) b' := fun n m d b c h hs ht hw hb hc =>
    (bent_sc hT hB hB2 h hs ht hw hb (by omega)).mono fun d' b' ⟨h1, h2, c', g1, g2, g3⟩ => ⟨h1, h2, c', g1, by omega, g3⟩
  intro n
  induction n with
  | zero =>
    intro m d b c _ h hw hb hc
    exact sc 0 m d b c h (by cases d <;> first | rfl | cases h) (by cases d <;> first | rfl | cases h) hw hb hc
  | succ n ih =>
    have main : ∀ (m : Nat) (d : D) (xs : List D) (b : D) (c : Int), n + 1 ≤ m → SqD d xs → okV B (n + 1) d = true → okVs B n xs = true → wtD d = wtDs xs → wtD d ≤ 10000 → BoxD b c → c + 3 * (n + 1 : Nat) + 100 < 1099511627776 →
        Wf (Qbent T (m + 1) [b, d]) fun d' b' => okV (B + 1) (n + 1 + 2) d' = true ∧ wtD d' ≤ 2 * wtD d + 1000 ∧ More c (3 * ((n + 1 : Nat) + 1)) b' := by
      intro m d xs b c hm hv h hx hwx hw hb hc
      have hxl : xs.length ≤ 10000 := Nat.le_trans (wtDs_len xs) (by omega)
      have hI : isI d = false := by rcases hv with rfl | rfl <;> rfl
      have hBl : isBl d = false := by rcases hv with rfl | rfl <;> rfl
      have hLT : (isL d || isT d) = true := by rcases hv with rfl | rfl <;> rfl
      unfold Qbent
      simp only [w_fn, w_fnB, List.map_cons, List.map_nil, List.replicate, List.cons_append, List.nil_append, t_seq, t_if, t_next, t_break, t_cont, t_ret, t_retN, t_set, t_WS, t_put, t_par, t_for, t_asg, t_setR, t_drop, wg_two, wg_three, wg_nm, ws_nx, ws_rt, wi_of, wi_rg, wi_st, w_lc0, w_ssc, w_lc, w_lent, w_var, w_C, w_1, w_2, w_nil, w_cons, w_L, w_B, w_T, w_yes, w_bAnd, w_bOr, w_bNot, w_And, w_Or, w_Not, w_If, w_chain, w_only, w_cut, w_meth, w_newK, w_newT, w_call, w_callB, w_callK, w_w, wo_some, wq_ret, gd0, gdS, ls0, lsS, asBl_bl, isLs_l, ob_l, setAll, true_and, and_true, d_add, d_addI, d_sub, d_cmp, d_neg, mk0, mk1, mk2, mk3, mk4, mk5, mt0, mt1, mt2, mt3, mt4, hb.obj, List.length_singleton, okd0]
      refine (hT b c 8 hb (by omega) (by omega) (by omega)).mono fun u b1 ⟨s, hu, hs8, c1, q1, q2, hb1⟩ => ?_
      subst hu
      try simp only [w_fn, w_fnB, List.map_cons, List.map_nil, List.replicate, List.cons_append, List.nil_append, t_seq, t_if, t_next, t_break, t_cont, t_ret, t_retN, t_set, t_WS, t_put, t_par, t_for, t_asg, t_setR, t_drop, wg_two, wg_three, wg_nm, ws_nx, ws_rt, wi_of, wi_rg, wi_st, w_lc0, w_ssc, w_lc, w_lent, w_var, w_C, w_1, w_2, w_nil, w_cons, w_L, w_B, w_T, w_yes, w_bAnd, w_bOr, w_bNot, w_And, w_Or, w_Not, w_If, w_chain, w_only, w_cut, w_meth, w_newK, w_newT, w_call, w_callB, w_callK, w_w, wo_some, wq_ret, gd0, gdS, ls0, lsS, asBl_bl, isLs_l, ob_l, setAll, true_and, and_true, d_add, d_addI, d_sub, d_cmp, d_neg, mk0, mk1, mk2, mk3, mk4, mk5, mt0, mt1, mt2, mt3, mt4, gi_int h, gi_bool h, gi_seq h, hI, hBl, hLT, d_len hv, d_eqI, Bool.or_self, tr_bl, gLt_int, hb1.obj, List.length_nil, Nat.zero_add, okd0, Bool.not_true, Bool.false_eq_true, if_false]
      have hodd : Wf (Qodd T [b1]) fun d_1 b' => nlc b' = true ∧ okV (B + 1) (n + 1 + 2) d_1 = true ∧ wtD d_1 ≤ 2 * wtD d + 1000 ∧ More c (3 * ((n + 1 : Nat) + 1)) b' :=
        (bent_odd hT (B := B + 1) (by omega) hb1 (by omega) (n + 1 + 2) 1000 1 (by omega) (by omega) (by omega)).mono fun d b' ⟨h1, h2, c', g1, g2, g3⟩ => ⟨g3.nlc, h1, by omega, c', by omega, by omega, g3⟩
      by_cases h0 : xs.length = 0
      · rw [if_pos (by simp [h0])]
        exact hodd
      · rw [if_neg (by simpa using h0)]
        by_cases hs0 : s = 0
        · subst hs0
          rw [if_pos (by simp)]
          exact hodd
        · rw [if_neg (by simpa using hs0)]
          try simp only [w_fn, w_fnB, List.map_cons, List.map_nil, List.replicate, List.cons_append, List.nil_append, t_seq, t_if, t_next, t_break, t_cont, t_ret, t_retN, t_set, t_WS, t_put, t_par, t_for, t_asg, t_setR, t_drop, wg_two, wg_three, wg_nm, ws_nx, ws_rt, wi_of, wi_rg, wi_st, w_lc0, w_ssc, w_lc, w_lent, w_var, w_C, w_1, w_2, w_nil, w_cons, w_L, w_B, w_T, w_yes, w_bAnd, w_bOr, w_bNot, w_And, w_Or, w_Not, w_If, w_chain, w_only, w_cut, w_meth, w_newK, w_newT, w_call, w_callB, w_callK, w_w, wo_some, wq_ret, gd0, gdS, ls0, lsS, asBl_bl, isLs_l, ob_l, setAll, true_and, and_true, d_add, d_addI, d_sub, d_cmp, d_neg, mk0, mk1, mk2, mk3, mk4, mk5, mt0, mt1, mt2, mt3, mt4, d_list hv, d_len hv, hb1.obj, List.length_singleton, okd0]
          refine (hT b1 c1 xs.length hb1 (by omega) (by omega) (by omega)).mono fun u b2 ⟨a, hu, ha, c2, q3, q4, hb2⟩ => ?_
          subst hu
          have hxB : okVs (B + 1) (n + 2) xs = true := okVs_iff.mpr fun x hx' => okV_mono (by omega) n (n + 2) x (by omega) (okVs_iff.mp hx x hx')
          have both : ∀ (t : Bool) (ys : List D) (b' : D) (c' : Int), okVs (B + 1) (n + 2) ys = true → wtDs ys ≤ 2 * wtDs xs + 1000 → BoxD b' c' → c ≤ c' → c' ≤ c + 3 * ((n + 1 : Nat) + 1) →
              (if t = true then Wo (gTupOf [.lst ys]) fun z => nlc b' = true ∧ okV (B + 1) (n + 1 + 2) z = true ∧ wtD z ≤ 2 * wtD d + 1000 ∧ More c (3 * ((n + 1 : Nat) + 1)) b'
                else nlc b' = true ∧ okV (B + 1) (n + 1 + 2) (.lst ys) = true ∧ wtD (.lst ys) ≤ 2 * wtD d + 1000 ∧ More c (3 * ((n + 1 : Nat) + 1)) b') := fun t ys b' c' h1 h2 h3 h4 h5 => by
            rw [d_tup SqD.l, wo_some, hwx]
            cases t with
            | true => rw [if_pos rfl]; exact ⟨h3.nlc, h1, h2, c', h4, h5, h3⟩
            | false => rw [if_neg (by simp)]; exact ⟨h3.nlc, h1, h2, c', h4, h5, h3⟩
          have e1 : ((a : Nat) : Int) + 1 = ((a + 1 : Nat) : Int) := by omega
          have ht1 := wtDs_take (xs := xs) a
          have ht2 := wtDs_take (xs := xs) (a + 1)
          refine ⟨rfl, ?_⟩
          rw [gi_tup h, gi_lst h]
          try simp only [wo_some, tr_bl]
          by_cases s1 : s = 1
          · subst s1
            rw [if_pos (by simp)]
            exact both (isL d) xs b2 c2 hxB (by omega) hb2 (by omega) (by omega)
          · rw [if_neg (by simp; omega)]
            by_cases s2 : s = 2
            · subst s2
              rw [if_pos (by simp)]
              have hadd : gAdd (.lst (xs.take a)) (.lst (xs.drop (a + 1))) = some (.lst (xs.take a ++ xs.drop (a + 1))) := d_addL (by rw [List.length_take, List.length_drop]; exact limle (by omega))
              simp only [w_fn, w_fnB, List.map_cons, List.map_nil, List.replicate, List.cons_append, List.nil_append, t_seq, t_if, t_next, t_break, t_cont, t_ret, t_retN, t_set, t_WS, t_put, t_par, t_for, t_asg, t_setR, t_drop, wg_two, wg_three, wg_nm, ws_nx, ws_rt, wi_of, wi_rg, wi_st, w_lc0, w_ssc, w_lc, w_lent, w_var, w_C, w_1, w_2, w_nil, w_cons, w_L, w_B, w_T, w_yes, w_bAnd, w_bOr, w_bNot, w_And, w_Or, w_Not, w_If, w_chain, w_only, w_cut, w_meth, w_newK, w_newT, w_call, w_callB, w_callK, w_w, wo_some, wq_ret, gd0, gdS, ls0, lsS, asBl_bl, isLs_l, ob_l, setAll, true_and, and_true, d_add, d_addI, d_sub, d_cmp, d_neg, mk0, mk1, mk2, mk3, mk4, mk5, mt0, mt1, mt2, mt3, mt4, D.int.injEq, exists_eq_left', part_i, part_n, cut_l, e1, dcut_to xs a (by omega), dcut_from xs (a + 1) (by omega), hadd]
              refine ⟨by simp, both (isT d) _ b2 c2 (okVs_iff.mpr fun y hy => okVs_iff.mp hxB y ?_) ?_ hb2 (by omega) (by omega)⟩
              · rcases List.mem_append.mp hy with hy | hy
                · exact List.mem_of_mem_take hy
                · exact List.mem_of_mem_drop hy
              · rw [wtDs_app]
                omega
            · rw [if_neg (by simp; omega)]
              by_cases s3 : s = 3
              · subst s3
                rw [if_pos (by simp)]
                have hadd : gAdd (.lst (xs.take (a + 1))) (.lst (xs.drop a)) = some (.lst (xs.take (a + 1) ++ xs.drop a)) := d_addL (by rw [List.length_take, List.length_drop]; exact limle (by omega))
                simp only [w_fn, w_fnB, List.map_cons, List.map_nil, List.replicate, List.cons_append, List.nil_append, t_seq, t_if, t_next, t_break, t_cont, t_ret, t_retN, t_set, t_WS, t_put, t_par, t_for, t_asg, t_setR, t_drop, wg_two, wg_three, wg_nm, ws_nx, ws_rt, wi_of, wi_rg, wi_st, w_lc0, w_ssc, w_lc, w_lent, w_var, w_C, w_1, w_2, w_nil, w_cons, w_L, w_B, w_T, w_yes, w_bAnd, w_bOr, w_bNot, w_And, w_Or, w_Not, w_If, w_chain, w_only, w_cut, w_meth, w_newK, w_newT, w_call, w_callB, w_callK, w_w, wo_some, wq_ret, gd0, gdS, ls0, lsS, asBl_bl, isLs_l, ob_l, setAll, true_and, and_true, d_add, d_addI, d_sub, d_cmp, d_neg, mk0, mk1, mk2, mk3, mk4, mk5, mt0, mt1, mt2, mt3, mt4, D.int.injEq, exists_eq_left', part_i, part_n, cut_l, e1, dcut_to xs (a + 1) (by omega), dcut_from xs a (by omega), hadd]
                refine ⟨by simp, both (isT d) _ b2 c2 (okVs_iff.mpr fun y hy => okVs_iff.mp hxB y ?_) ?_ hb2 (by omega) (by omega)⟩
                · rcases List.mem_append.mp hy with hy | hy
                  · exact List.mem_of_mem_take hy
                  · exact List.mem_of_mem_drop hy
                · rw [wtDs_app]
                  omega
              · rw [if_neg (by simp; omega)]
                have hxa : xs[a]? = some xs[a] := List.getElem?_eq_getElem ha
                have hmem : xs[a] ∈ xs := List.getElem_mem ha
                have hwa := wtDs_mem hmem
                have hsub : gSub1 (.lst xs) (dn a) = some xs[a] := d_at SqD.l (at_nat hxa)
                obtain ⟨m, rfl⟩ : ∃ j, m = j + 1 := ⟨m - 1, by omega⟩
                try simp only [w_fn, w_fnB, List.map_cons, List.map_nil, List.replicate, List.cons_append, List.nil_append, t_seq, t_if, t_next, t_break, t_cont, t_ret, t_retN, t_set, t_WS, t_put, t_par, t_for, t_asg, t_setR, t_drop, wg_two, wg_three, wg_nm, ws_nx, ws_rt, wi_of, wi_rg, wi_st, w_lc0, w_ssc, w_lc, w_lent, w_var, w_C, w_1, w_2, w_nil, w_cons, w_L, w_B, w_T, w_yes, w_bAnd, w_bOr, w_bNot, w_And, w_Or, w_Not, w_If, w_chain, w_only, w_cut, w_meth, w_newK, w_newT, w_call, w_callB, w_callK, w_w, wo_some, wq_ret, gd0, gdS, ls0, lsS, asBl_bl, isLs_l, ob_l, setAll, true_and, and_true, d_add, d_addI, d_sub, d_cmp, d_neg, mk0, mk1, mk2, mk3, mk4, mk5, mt0, mt1, mt2, mt3, mt4, hsub, hb2.obj]
                refine (ih m xs[a] b2 c2 (by omega) (okVs_iff.mp hx _ hmem) (by omega) hb2 (by omega)).mono fun y b3 ⟨y1, y2, c3, y3, y4, hb3⟩ => ?_
                have hput : putD (.lst xs) (dn a) y = some (.lst (xs.set a y)) := d_putL ha
                have hst := wtDs_set (y := y) hxa
                rw [hput, wo_some]
                refine both (isT d) _ b3 c3 (okVs_iff.mpr fun z hz => ?_) (by omega) hb3 (by omega) (by omega)
                rcases List.mem_or_eq_of_mem_set hz with hz | rfl
                · exact okVs_iff.mp hxB z hz
                · exact y1
    intro m d b c hm h hw hb hc
    cases d with
    | tup xs => exact main m _ xs b c hm SqD.t h h rfl hw hb hc
    | lst xs => exact main m _ xs b c hm SqD.l h h rfl hw hb hc
    | non => exact sc (n + 1) m _ b c h rfl rfl hw hb hc
    | bl v => exact sc (n + 1) m _ b c h rfl rfl hw hb hc
    | int v => exact sc (n + 1) m _ b c h rfl rfl hw hb hc
    | str v => exact sc (n + 1) m _ b c h rfl rfl hw hb hc
    | _ => cases h
/-! ### the law -/
def GoodV (d : D) : Prop := ∃ n, n ≤ 9 ∧ okV (10 ^ 31 + 9) n d = true ∧ wtD d ≤ 50000
theorem ok_dns {B n : Nat} {l : List Nat} (h : ∀ x ∈ l, x < B) : okVs B n (dns l) = true := okVs_iff.mpr fun y hy => by
  obtain ⟨x, hx, rfl⟩ := List.mem_map.mp hy
  have : decide ((x : Int).natAbs < B) = true := decide_eq_true (by have := h x hx; omega)
  cases n <;> exact this
theorem wt_dns : ∀ l : List Nat, wtDs (dns l) = 201 * l.length
  | [] => rfl
  | x :: l => by
    show 200 + 1 + wtDs (dns l) = _
    rw [wt_dns l, List.length_cons]; omega
theorem nlDz (ns : List Nat) : noLsts (dns ns) = true := by
  induction ns with
  | nil => rfl
  | cons n ns ih => exact ih
theorem rest1z {e1 e2 : DE} {i : Nat} : restE e2 e1 [i] = e2.set i (e1.getD i none) := id rfl
theorem d_tupRz {n : Nat} (h : n ≤ 10000000) : gTupRg1 (.int (n : Nat)) = some (.tup (dns (List.range n))) := by
  have h1 : RgOk 0 (n : Nat) := by unfold RgOk; omega
  have h2 : (rgP 0 (n : Nat)).length ≤ lim := by unfold rgP; simp; exact limle h
  simp only [gTupRg1]
  rw [if_pos ⟨h1, h2⟩]
  simp
def z2D : D := .tup (((List.range 60).map fun k => D.int (59 + (k : Nat) * (-1))) ++ [.int 61])
theorem z2_good : GoodV z2D := ⟨1, by omega, by decide +kernel, by decide +kernel⟩
theorem rg3_59 : gTupRg3 [.int 59, .int (-1), .int (-1)] = some (.tup ((List.range 60).map fun k => D.int (59 + (k : Nat) * (-1)))) := by
  simp only [gTupRg3]
  rw [if_pos (by decide +kernel)]
  have : (Builtin.Range.rangeSize 59 (-1) (-1)).toNat = 60 := by decide +kernel
  rw [this]
theorem mul41 : gMul6 (.tup [.int 0]) (.int 41) = some (.tup (dns (List.replicate 41 0))) := by
  unfold gMul6 gMul5
  simp only [gMul]
  rw [if_pos ⟨by simp, by omega, by omega, by simp⟩]
  rfl
theorem good_nats {l : List Nat} (h : ∀ x ∈ l, x < 1000) (hl : l.length ≤ 100) : GoodV (.tup (dns l)) ∧ GoodV (.lst (dns l)) := by
  have h1 : okVs (10 ^ 31 + 9) 0 (dns l) = true := ok_dns fun x hx => by have := h x hx; omega
  have h2 : wtDs (dns l) ≤ 50000 := by rw [wt_dns]; omega
  exact ⟨⟨1, by omega, h1, h2⟩, ⟨1, by omega, h1, h2⟩⟩
noncomputable def Qright00 (T : List D → FO) : List D → FO := qFnB 7 (qSeq (qSet 1 (qCallB 2 false true 0 (qCons (qC (.int 12)) qNil) (Qdrawn T)))
  (qSeq (qSetR 2 (qL (qCons (qVar 1) (qCons (qL (qCons (qVar 1) qNil) gListOf) (qCons (q2 (qL (qCons (qC (.int 0)) qNil) gTup) (qC (.int 41)) gMul6) (qCons (q1 (qC (.int 60)) gTupRg1) (qCons (q2 (qL (qCons (qC (.int 59)) (qCons (q1 (qC (.int 1)) gNeg) (qCons (q1 (qC (.int 1)) gNeg) qNil))) gTupRg3) (qL (qCons (qC (.int 61)) qNil) gTup) gAdd) qNil))))) gList))
  (qSeq (qSetR 2 (q2 (qVar 2) (qLc (qiRg qrng1 (qCons (qC (.int 6)) qNil)) (qNm 3) qYes (qCallB 1 false false 0 qNil (Qodd T)) [3]) gAdd))
  (qSeq (qFor (qiRg qrng1 (qCons (qC (.int 12)) qNil)) (qNm 3)
  (qSeq (qSet 4 (qCallB 2 false false 0 (qCons (qVar 1) qNil) ((Qbent T) 6)))
  (qWS 2 (qCons (qIf (qB (q2 (qCallB 2 false false 0 (qCons (qC (.int 3)) qNil) T) (qC (.int 0)) gEq)) (qCallB 2 false false 0 (qCons (qVar 4) qNil) ((Qbent T) 6)) (qVar 4)) qNil) gAppend)))
  (qSeq (qFor (qiOf (qVar 2)) (qNm 5)
  (qSeq (qPar [6, 7] (qCons (qL (qCons (qVar 5) qNil) gReprA) (qCons (qCall 1 false true (qCons (qVar 5) qNil) Qdue00) qNil)))
  (qIfS (qbOr (qbNot (qT (qCall 2 false true (qCons (qL (qCons (qCall 1 false true (qCons (qVar 5) qNil) P_Qis_state) (qCons (qCallK 0 1 [0] false true qNil (qCons (qVar 5) qNil) P_Qis_state) qNil)) gList) (qCons (qL (qCons (qVar 7) (qCons (qVar 7) qNil)) gList) qNil)) (Qsame 6)))) (qB (q2 (qL (qCons (qVar 5) qNil) gReprA) (qVar 6) gNe)))
  (qRet (qC (.bl false)))
  qNext)))
  (qRet (qC (.bl true))))))))

theorem right00_ok (hT : TakeQ T) {b : D} {c : Int} (hb : BoxD b c) (hc : c + 1000 < 1099511627776) : Wf (Qright00 T [b]) fun d b' => d = .bl true ∧ More c 1000 b' := by
  unfold Qright00
  simp only [w_fn, w_fnB, List.map_cons, List.map_nil, List.replicate, List.cons_append, List.nil_append, t_seq, t_if, t_next, t_break, t_cont, t_ret, t_retN, t_set, t_WS, t_put, t_par, t_for, t_asg, t_setR, t_drop, wg_two, wg_three, wg_nm, ws_nx, ws_rt, wi_of, wi_rg, wi_st, w_lc0, w_ssc, w_lc, w_lent, w_var, w_C, w_1, w_2, w_nil, w_cons, w_L, w_B, w_T, w_yes, w_bAnd, w_bOr, w_bNot, w_And, w_Or, w_Not, w_If, w_chain, w_only, w_cut, w_meth, w_newK, w_newT, w_call, w_callB, w_callK, w_w, wo_some, wq_ret, gd0, gdS, ls0, lsS, asBl_bl, isLs_l, ob_l, setAll, true_and, and_true, d_add, d_addI, d_sub, d_cmp, d_neg, mk0, mk1, mk2, mk3, mk4, mk5, mt0, mt1, mt2, mt3, mt4, hb.obj, List.length_singleton, okd0]
  refine (qdrawn_ok (most := 12) hT hb (by omega) (by omega) (by omega)).mono fun u b1 hh => ?_
  obtain ⟨ps, rfl, p1, p2, hs, c1, q1, q2, hb1⟩ := hh
  have hok : okD true true (.tup (dns ps)) = true := nlDz ps
  try simp only [w_fn, w_fnB, List.map_cons, List.map_nil, List.replicate, List.cons_append, List.nil_append, t_seq, t_if, t_next, t_break, t_cont, t_ret, t_retN, t_set, t_WS, t_put, t_par, t_for, t_asg, t_setR, t_drop, wg_two, wg_three, wg_nm, ws_nx, ws_rt, wi_of, wi_rg, wi_st, w_lc0, w_ssc, w_lc, w_lent, w_var, w_C, w_1, w_2, w_nil, w_cons, w_L, w_B, w_T, w_yes, w_bAnd, w_bOr, w_bNot, w_And, w_Or, w_Not, w_If, w_chain, w_only, w_cut, w_meth, w_newK, w_newT, w_call, w_callB, w_callK, w_w, wo_some, wq_ret, gd0, gdS, ls0, lsS, asBl_bl, isLs_l, ob_l, setAll, true_and, and_true, d_add, d_addI, d_sub, d_cmp, d_neg, mk0, mk1, mk2, mk3, mk4, mk5, mt0, mt1, mt2, mt3, mt4, hok, List.length_singleton, okd0]
  have h60 : gTupRg1 (.int 60) = some (.tup (dns (List.range 60))) := d_tupRz (n := 60) (by omega)
  have hz2 : gAdd (.tup ((List.range 60).map fun k => D.int (59 + (k : Nat) * (-1)))) (.tup [.int 61]) = some z2D := d_addT (limle (by simp))
  have hlst : gListOf [.tup (dns ps)] = some (.lst (dns ps)) := id rfl
  have h6 : qrng1 [.int 6] = some (dns (List.range 6)) := d_rng1 (n := 6) (by omega)
  have h12 : qrng1 [.int 12] = some (dns (List.range 12)) := d_rng1 (n := 12) (by omega)
  have hps := good_nats (l := ps) (fun x hx => by have := hs x hx; omega) (by omega)
  have g0 : ∀ x ∈ [D.tup (dns ps), .lst (dns ps), .tup (dns (List.replicate 41 0)), .tup (dns (List.range 60)), z2D], GoodV x := fun x hx => by
    simp only [List.mem_cons, List.not_mem_nil, or_false] at hx
    rcases hx with rfl | rfl | rfl | rfl | rfl
    · exact hps.1
    · exact hps.2
    · exact (good_nats (fun x hx => by have := (List.mem_replicate.mp hx).2; omega) (by simp)).1
    · exact (good_nats (fun x hx => by have := List.mem_range.mp hx; omega) (by simp)).1
    · exact z2_good
  simp only [hlst, h60, mul41, rg3_59, hz2, h6, h12, wo_some, List.length_map, List.length_range]
  generalize hL0 : [D.tup (dns ps), .lst (dns ps), .tup (dns (List.replicate 41 0)), .tup (dns (List.range 60)), z2D] = L0 at g0 ⊢
  have hL0l : L0.length = 5 := by rw [← hL0]; rfl
  refine ⟨by simp, limle (by omega), nlDz _, w_lcL (φ := dn) (I := fun pre acc e => ∃ (b' : D) (c' : Int) (x3 : Option D), e = [some b', some (.tup (dns ps)), some (.lst L0), x3, none, none, none, none] ∧ acc.length = pre.length ∧ (∀ x ∈ acc, GoodV x) ∧ c1 ≤ c' ∧ c' ≤ c1 + pre.length ∧ BoxD b' c') ⟨b1, c1, none, rfl, rfl, (by intro x hx; cases hx), by omega, by simp, hb1⟩ ?_ ?_⟩
  · rintro pre x post acc e hsp ⟨b', c', x3, rfl, f1, f2, f3, f4, hb'⟩
    have hpl : pre.length < 6 := by have := congrArg List.length hsp; simp at this; omega
    try simp only [wipe1, w_fn, w_fnB, List.map_cons, List.map_nil, List.replicate, List.cons_append, List.nil_append, t_seq, t_if, t_next, t_break, t_cont, t_ret, t_retN, t_set, t_WS, t_put, t_par, t_for, t_asg, t_setR, t_drop, wg_two, wg_three, wg_nm, ws_nx, ws_rt, wi_of, wi_rg, wi_st, w_lc0, w_ssc, w_lc, w_lent, w_var, w_C, w_1, w_2, w_nil, w_cons, w_L, w_B, w_T, w_yes, w_bAnd, w_bOr, w_bNot, w_And, w_Or, w_Not, w_If, w_chain, w_only, w_cut, w_meth, w_newK, w_newT, w_call, w_callB, w_callK, w_w, wo_some, wq_ret, gd0, gdS, ls0, lsS, asBl_bl, isLs_l, ob_l, setAll, true_and, and_true, d_add, d_addI, d_sub, d_cmp, d_neg, mk0, mk1, mk2, mk3, mk4, mk5, mt0, mt1, mt2, mt3, mt4, hb'.obj, List.length_nil, Nat.zero_add, okd0]
    refine (qodd_ok hT hb' (by omega)).mono fun u b2 ⟨o1, o2, c2, o3, o4, hb2⟩ => ?_
    try simp only [w_fn, w_fnB, List.map_cons, List.map_nil, List.replicate, List.cons_append, List.nil_append, t_seq, t_if, t_next, t_break, t_cont, t_ret, t_retN, t_set, t_WS, t_put, t_par, t_for, t_asg, t_setR, t_drop, wg_two, wg_three, wg_nm, ws_nx, ws_rt, wi_of, wi_rg, wi_st, w_lc0, w_ssc, w_lc, w_lent, w_var, w_C, w_1, w_2, w_nil, w_cons, w_L, w_B, w_T, w_yes, w_bAnd, w_bOr, w_bNot, w_And, w_Or, w_Not, w_If, w_chain, w_only, w_cut, w_meth, w_newK, w_newT, w_call, w_callB, w_callK, w_w, wo_some, wq_ret, gd0, gdS, ls0, lsS, asBl_bl, isLs_l, ob_l, setAll, true_and, and_true, d_add, d_addI, d_sub, d_cmp, d_neg, mk0, mk1, mk2, mk3, mk4, mk5, mt0, mt1, mt2, mt3, mt4]
    refine ⟨b2, c2, _, rfl, by simp [f1], fun y hy => ?_, by omega, by simp; omega, hb2⟩
    rcases List.mem_append.mp hy with hy | hy
    · exact f2 y hy
    · rw [List.mem_singleton.mp hy]
      exact ⟨2, by omega, okV_mono (by omega) 2 2 u (by omega) o1, by omega⟩
  rintro acc e ⟨b', c', x3, rfl, f1, f2, f3, f4, hb'⟩
  rw [List.length_range] at f1 f4
  have hadd : gAdd (.lst L0) (.lst acc) = some (.lst (L0 ++ acc)) := d_addL (limle (by omega))
  try simp only [rest1z, w_fn, w_fnB, List.map_cons, List.map_nil, List.replicate, List.cons_append, List.nil_append, t_seq, t_if, t_next, t_break, t_cont, t_ret, t_retN, t_set, t_WS, t_put, t_par, t_for, t_asg, t_setR, t_drop, wg_two, wg_three, wg_nm, ws_nx, ws_rt, wi_of, wi_rg, wi_st, w_lc0, w_ssc, w_lc, w_lent, w_var, w_C, w_1, w_2, w_nil, w_cons, w_L, w_B, w_T, w_yes, w_bAnd, w_bOr, w_bNot, w_And, w_Or, w_Not, w_If, w_chain, w_only, w_cut, w_meth, w_newK, w_newT, w_call, w_callB, w_callK, w_w, wo_some, wq_ret, gd0, gdS, ls0, lsS, asBl_bl, isLs_l, ob_l, setAll, true_and, and_true, d_add, d_addI, d_sub, d_cmp, d_neg, mk0, mk1, mk2, mk3, mk4, mk5, mt0, mt1, mt2, mt3, mt4, hadd]
  refine ⟨by simp, limle (by omega), t_forL (φ := dn) (I := fun pre e => ∃ (b' : D) (c' : Int) (vs : List D) (x3 x4 : Option D), e = [some b', some (.tup (dns ps)), some (.lst vs), x3, x4, none, none, none] ∧ vs.length = 11 + pre.length ∧ (∀ x ∈ vs, GoodV x) ∧ c1 ≤ c' ∧ c' ≤ c1 + 6 + 19 * pre.length ∧ BoxD b' c') ⟨b', c', L0 ++ acc, none, none, rfl, by simp; omega, ?_, by omega, by simp; omega, hb'⟩ ?_ ?_⟩
  · intro x hx
    rcases List.mem_append.mp hx with hx | hx
    · exact g0 x hx
    · exact f2 x hx
  · rintro pre x post e hsp ⟨b', c', vs, y3, y4, rfl, v1, v2, v3, v4, hb'⟩
    have hpl : pre.length < 12 := by have := congrArg List.length hsp; simp at this; omega
    try simp only [w_fn, w_fnB, List.map_cons, List.map_nil, List.replicate, List.cons_append, List.nil_append, t_seq, t_if, t_next, t_break, t_cont, t_ret, t_retN, t_set, t_WS, t_put, t_par, t_for, t_asg, t_setR, t_drop, wg_two, wg_three, wg_nm, ws_nx, ws_rt, wi_of, wi_rg, wi_st, w_lc0, w_ssc, w_lc, w_lent, w_var, w_C, w_1, w_2, w_nil, w_cons, w_L, w_B, w_T, w_yes, w_bAnd, w_bOr, w_bNot, w_And, w_Or, w_Not, w_If, w_chain, w_only, w_cut, w_meth, w_newK, w_newT, w_call, w_callB, w_callK, w_w, wo_some, wq_ret, gd0, gdS, ls0, lsS, asBl_bl, isLs_l, ob_l, setAll, true_and, and_true, d_add, d_addI, d_sub, d_cmp, d_neg, mk0, mk1, mk2, mk3, mk4, mk5, mt0, mt1, mt2, mt3, mt4, hb'.obj, List.length_singleton, okd0]
    have hps1 : okV (10 ^ 31) 1 (.tup (dns ps)) = true := ok_dns (n := 0) fun x hx => by have := hs x hx; omega
    have hpsw : wtD (.tup (dns ps)) ≤ 2412 := by show wtDs (dns ps) ≤ _; rw [wt_dns]; omega
    refine (bent_ok hT (B := 10 ^ 31) (by omega) (by omega) 1 5 (.tup (dns ps)) b' c' (by omega) hps1 (by omega) hb' (by omega)).mono fun u b2 ⟨u1, u2, c2, u3, u4, hb2⟩ => ?_
    try simp only [w_fn, w_fnB, List.map_cons, List.map_nil, List.replicate, List.cons_append, List.nil_append, t_seq, t_if, t_next, t_break, t_cont, t_ret, t_retN, t_set, t_WS, t_put, t_par, t_for, t_asg, t_setR, t_drop, wg_two, wg_three, wg_nm, ws_nx, ws_rt, wi_of, wi_rg, wi_st, w_lc0, w_ssc, w_lc, w_lent, w_var, w_C, w_1, w_2, w_nil, w_cons, w_L, w_B, w_T, w_yes, w_bAnd, w_bOr, w_bNot, w_And, w_Or, w_Not, w_If, w_chain, w_only, w_cut, w_meth, w_newK, w_newT, w_call, w_callB, w_callK, w_w, wo_some, wq_ret, gd0, gdS, ls0, lsS, asBl_bl, isLs_l, ob_l, setAll, true_and, and_true, d_add, d_addI, d_sub, d_cmp, d_neg, mk0, mk1, mk2, mk3, mk4, mk5, mt0, mt1, mt2, mt3, mt4, hb2.obj, List.length_singleton, okd0]
    refine (hT b2 c2 3 hb2 (by omega) (by omega) (by omega)).mono fun t b3 ⟨k, hk, hk3, c3, k1, k2, hb3⟩ => ?_
    subst hk
    have happ : ∀ z : D, gAppend (.lst vs) [z] = some (.non, .lst (vs ++ [z])) := fun z => d_app (limlt (by omega))
    have fin : ∀ (z : D) (b4 : D) (c4 : Int), GoodV z → BoxD b4 c4 → c' ≤ c4 → c4 ≤ c' + 19 → ∃ (b' : D) (c' : Int) (vs' : List D) (x3 x4 : Option D), [some b4, some (.tup (dns ps)), some (.lst (vs ++ [z])), some (dn x), some u, none, none, none] = [some b', some (.tup (dns ps)), some (.lst vs'), x3, x4, none, none, none] ∧ vs'.length = 11 + (pre ++ [x]).length ∧ (∀ x ∈ vs', GoodV x) ∧ c1 ≤ c' ∧ c' ≤ c1 + 6 + 19 * (pre ++ [x]).length ∧ BoxD b' c' := fun z b4 c4 hz hb4 h1 h2 =>
      ⟨b4, c4, vs ++ [z], _, _, rfl, by simp; omega, fun y hy => by
        rcases List.mem_append.mp hy with hy | hy
        · exact v2 y hy
        · rw [List.mem_singleton.mp hy]; exact hz, by omega, by simp; omega, hb4⟩
    try simp only [w_fn, w_fnB, List.map_cons, List.map_nil, List.replicate, List.cons_append, List.nil_append, t_seq, t_if, t_next, t_break, t_cont, t_ret, t_retN, t_set, t_WS, t_put, t_par, t_for, t_asg, t_setR, t_drop, wg_two, wg_three, wg_nm, ws_nx, ws_rt, wi_of, wi_rg, wi_st, w_lc0, w_ssc, w_lc, w_lent, w_var, w_C, w_1, w_2, w_nil, w_cons, w_L, w_B, w_T, w_yes, w_bAnd, w_bOr, w_bNot, w_And, w_Or, w_Not, w_If, w_chain, w_only, w_cut, w_meth, w_newK, w_newT, w_call, w_callB, w_callK, w_w, wo_some, wq_ret, gd0, gdS, ls0, lsS, asBl_bl, isLs_l, ob_l, setAll, true_and, and_true, d_add, d_addI, d_sub, d_cmp, d_neg, mk0, mk1, mk2, mk3, mk4, mk5, mt0, mt1, mt2, mt3, mt4, d_eqI, hb3.obj, List.length_singleton, okd0]
    by_cases hk0 : k = 0
    · subst hk0
      rw [if_pos (by simp)]
      refine (bent_ok hT (B := 10 ^ 31 + 1) (by omega) (by omega) 3 5 u b3 c3 (by omega) u1 (by omega) hb3 (by omega)).mono fun z b4 ⟨z1, z2, c4, z3, z4, hb4⟩ => ?_
      try simp only [w_fn, w_fnB, List.map_cons, List.map_nil, List.replicate, List.cons_append, List.nil_append, t_seq, t_if, t_next, t_break, t_cont, t_ret, t_retN, t_set, t_WS, t_put, t_par, t_for, t_asg, t_setR, t_drop, wg_two, wg_three, wg_nm, ws_nx, ws_rt, wi_of, wi_rg, wi_st, w_lc0, w_ssc, w_lc, w_lent, w_var, w_C, w_1, w_2, w_nil, w_cons, w_L, w_B, w_T, w_yes, w_bAnd, w_bOr, w_bNot, w_And, w_Or, w_Not, w_If, w_chain, w_only, w_cut, w_meth, w_newK, w_newT, w_call, w_callB, w_callK, w_w, wo_some, wq_ret, gd0, gdS, ls0, lsS, asBl_bl, isLs_l, ob_l, setAll, true_and, and_true, d_add, d_addI, d_sub, d_cmp, d_neg, mk0, mk1, mk2, mk3, mk4, mk5, mt0, mt1, mt2, mt3, mt4, happ]
      exact fin z b4 c4 ⟨5, by omega, okV_mono (by omega) 5 5 z (by omega) z1, by omega⟩ hb4 (by omega) (by omega)
    · rw [if_neg (by simpa using hk0)]
      try simp only [w_fn, w_fnB, List.map_cons, List.map_nil, List.replicate, List.cons_append, List.nil_append, t_seq, t_if, t_next, t_break, t_cont, t_ret, t_retN, t_set, t_WS, t_put, t_par, t_for, t_asg, t_setR, t_drop, wg_two, wg_three, wg_nm, ws_nx, ws_rt, wi_of, wi_rg, wi_st, w_lc0, w_ssc, w_lc, w_lent, w_var, w_C, w_1, w_2, w_nil, w_cons, w_L, w_B, w_T, w_yes, w_bAnd, w_bOr, w_bNot, w_And, w_Or, w_Not, w_If, w_chain, w_only, w_cut, w_meth, w_newK, w_newT, w_call, w_callB, w_callK, w_w, wo_some, wq_ret, gd0, gdS, ls0, lsS, asBl_bl, isLs_l, ob_l, setAll, true_and, and_true, d_add, d_addI, d_sub, d_cmp, d_neg, mk0, mk1, mk2, mk3, mk4, mk5, mt0, mt1, mt2, mt3, mt4, happ]
      exact fin u b3 c3 ⟨3, by omega, okV_mono (by omega) 3 3 u (by omega) u1, by omega⟩ hb3 (by omega) (by omega)
  rintro e ⟨b', c', vs, y3, y4, rfl, v1, v2, v3, v4, hb'⟩
  rw [List.length_range] at v1 v4
  try simp only [w_fn, w_fnB, List.map_cons, List.map_nil, List.replicate, List.cons_append, List.nil_append, t_seq, t_if, t_next, t_break, t_cont, t_ret, t_retN, t_set, t_WS, t_put, t_par, t_for, t_asg, t_setR, t_drop, wg_two, wg_three, wg_nm, ws_nx, ws_rt, wi_of, wi_rg, wi_st, w_lc0, w_ssc, w_lc, w_lent, w_var, w_C, w_1, w_2, w_nil, w_cons, w_L, w_B, w_T, w_yes, w_bAnd, w_bOr, w_bNot, w_And, w_Or, w_Not, w_If, w_chain, w_only, w_cut, w_meth, w_newK, w_newT, w_call, w_callB, w_callK, w_w, wo_some, wq_ret, gd0, gdS, ls0, lsS, asBl_bl, isLs_l, ob_l, setAll, true_and, and_true, d_add, d_addI, d_sub, d_cmp, d_neg, mk0, mk1, mk2, mk3, mk4, mk5, mt0, mt1, mt2, mt3, mt4, items_l]
  rw [show vs = vs.map id by simp]
  refine ⟨by rw [List.length_map]; exact limle (by omega), t_forL (φ := id) (l := vs) (I := fun _ e => ∃ x5 x6 x7, e = [some b', some (.tup (dns ps)), some (.lst (vs.map id)), y3, y4, x5, x6, x7]) ⟨none, none, none, rfl⟩ ?_ ?_⟩
  · rintro pre d post e hsp ⟨x5, x6, x7, rfl⟩
    obtain ⟨n, hn, hd, hw⟩ := v2 d (by rw [hsp]; simp)
    obtain ⟨t, ht, htl⟩ := reprA_ok (B := 10 ^ 31 + 9) (by omega) hd (by omega) (by omega)
    try simp only [w_fn, w_fnB, List.map_cons, List.map_nil, List.replicate, List.cons_append, List.nil_append, t_seq, t_if, t_next, t_break, t_cont, t_ret, t_retN, t_set, t_WS, t_put, t_par, t_for, t_asg, t_setR, t_drop, wg_two, wg_three, wg_nm, ws_nx, ws_rt, wi_of, wi_rg, wi_st, w_lc0, w_ssc, w_lc, w_lent, w_var, w_C, w_1, w_2, w_nil, w_cons, w_L, w_B, w_T, w_yes, w_bAnd, w_bOr, w_bNot, w_And, w_Or, w_Not, w_If, w_chain, w_only, w_cut, w_meth, w_newK, w_newT, w_call, w_callB, w_callK, w_w, wo_some, wq_ret, gd0, gdS, ls0, lsS, asBl_bl, isLs_l, ob_l, setAll, true_and, and_true, d_add, d_addI, d_sub, d_cmp, d_neg, mk0, mk1, mk2, mk3, mk4, mk5, mt0, mt1, mt2, mt3, mt4, id, ht, List.length_singleton, okd0]
    refine (qdue_any hd (by omega)).mono fun _ _ h => ?_
    subst h
    try simp only [w_fn, w_fnB, List.map_cons, List.map_nil, List.replicate, List.cons_append, List.nil_append, t_seq, t_if, t_next, t_break, t_cont, t_ret, t_retN, t_set, t_WS, t_put, t_par, t_for, t_asg, t_setR, t_drop, wg_two, wg_three, wg_nm, ws_nx, ws_rt, wi_of, wi_rg, wi_st, w_lc0, w_ssc, w_lc, w_lent, w_var, w_C, w_1, w_2, w_nil, w_cons, w_L, w_B, w_T, w_yes, w_bAnd, w_bOr, w_bNot, w_And, w_Or, w_Not, w_If, w_chain, w_only, w_cut, w_meth, w_newK, w_newT, w_call, w_callB, w_callK, w_w, wo_some, wq_ret, gd0, gdS, ls0, lsS, asBl_bl, isLs_l, ob_l, setAll, true_and, and_true, d_add, d_addI, d_sub, d_cmp, d_neg, mk0, mk1, mk2, mk3, mk4, mk5, mt0, mt1, mt2, mt3, mt4, id, ht, gOf1, List.length_singleton, okd0]
    refine ⟨rfl, ?_⟩
    refine (pstate_any hd (by omega)).mono fun _ _ h => ?_
    subst h
    refine ⟨rfl, ?_⟩
    refine (pstate_any hd (by omega)).mono fun _ _ h => ?_
    subst h
    refine ⟨rfl, ?_⟩
    refine (qsame_ok 5 _ (by simp [goodD, goodDs])).mono fun _ _ h => ?_
    subst h
    try simp only [tr_bl, w_fn, w_fnB, List.map_cons, List.map_nil, List.replicate, List.cons_append, List.nil_append, t_seq, t_if, t_next, t_break, t_cont, t_ret, t_retN, t_set, t_WS, t_put, t_par, t_for, t_asg, t_setR, t_drop, wg_two, wg_three, wg_nm, ws_nx, ws_rt, wi_of, wi_rg, wi_st, w_lc0, w_ssc, w_lc, w_lent, w_var, w_C, w_1, w_2, w_nil, w_cons, w_L, w_B, w_T, w_yes, w_bAnd, w_bOr, w_bNot, w_And, w_Or, w_Not, w_If, w_chain, w_only, w_cut, w_meth, w_newK, w_newT, w_call, w_callB, w_callK, w_w, wo_some, wq_ret, gd0, gdS, ls0, lsS, asBl_bl, isLs_l, ob_l, setAll, true_and, and_true, d_add, d_addI, d_sub, d_cmp, d_neg, mk0, mk1, mk2, mk3, mk4, mk5, mt0, mt1, mt2, mt3, mt4, d_neS htl, Bool.not_true, Bool.false_eq_true, if_false]
    exact ⟨_, _, _, rfl⟩
  rintro e ⟨x5, x6, x7, rfl⟩
  try simp only [w_fn, w_fnB, List.map_cons, List.map_nil, List.replicate, List.cons_append, List.nil_append, t_seq, t_if, t_next, t_break, t_cont, t_ret, t_retN, t_set, t_WS, t_put, t_par, t_for, t_asg, t_setR, t_drop, wg_two, wg_three, wg_nm, ws_nx, ws_rt, wi_of, wi_rg, wi_st, w_lc0, w_ssc, w_lc, w_lent, w_var, w_C, w_1, w_2, w_nil, w_cons, w_L, w_B, w_T, w_yes, w_bAnd, w_bOr, w_bNot, w_And, w_Or, w_Not, w_If, w_chain, w_only, w_cut, w_meth, w_newK, w_newT, w_call, w_callB, w_callK, w_w, wo_some, wq_ret, gd0, gdS, ls0, lsS, asBl_bl, isLs_l, ob_l, setAll, true_and, and_true, d_add, d_addI, d_sub, d_cmp, d_neg, mk0, mk1, mk2, mk3, mk4, mk5, mt0, mt1, mt2, mt3, mt4, hb'.nlc]
  exact ⟨c', by omega, by omega, hb'⟩
end MP


-- KEEP FROM HERE
namespace Z
open PySem PySem.Spec PyProof.Rows L2 MP
set_option maxRecDepth 100000
/-! ### the text -/
def topS (i : Nat) : Stmt := PySem.Challenge.pw_lookpast_k00_states_or_not.main.body.getD i (.Pass ⟨0, 0, 0, 0⟩)
abbrev st_is_integer : Stmt := topS 1
abbrev N_is_integer : List Str := ["value"]
theorem sc_is_integer : FnScope N_is_integer ["value"] (defScope st_is_integer) := ⟨rfl, rfl, rfl, by decide +kernel, rfl, by decide +kernel, by decide +kernel⟩
abbrev st_is_person : Stmt := topS 2
abbrev N_is_person : List Str := ["value", "size"]
theorem sc_is_person : FnScope N_is_person ["value", "size"] (defScope st_is_person) := ⟨rfl, rfl, rfl, by decide +kernel, rfl, by decide +kernel, by decide +kernel⟩
abbrev st_is_state : Stmt := topS 3
abbrev N_is_state : List Str := ["value", "item"]
theorem sc_is_state : FnScope N_is_state ["value"] (defScope st_is_state) := ⟨rfl, rfl, rfl, by decide +kernel, rfl, by decide +kernel, by decide +kernel⟩
abbrev st_law_box : Stmt := topS 5
abbrev N_law_box : List Str := ["_law_script", "_law_k", "_law_cell"]
theorem sc_law_box : FnScope N_law_box ["_law_script", "_law_k"] (defScope st_law_box) := ⟨rfl, rfl, rfl, by decide +kernel, rfl, by decide +kernel, by decide +kernel⟩
abbrev st_law_take : Stmt := topS 6
abbrev N_law_take : List Str := ["_law_box_here", "_law_span", "_law_found", "_law_once"]
theorem sc_law_take : FnScope N_law_take ["_law_box_here", "_law_span"] (defScope st_law_take) := ⟨rfl, rfl, rfl, by decide +kernel, rfl, by decide +kernel, by decide +kernel⟩
abbrev st_law_cells : Stmt := topS 7
abbrev N_law_cells : List Str := ["_law_script", "_law_most", "_law_cells_here", "_law_k", "_law_cell"]
theorem sc_law_cells : FnScope N_law_cells ["_law_script", "_law_most"] (defScope st_law_cells) := ⟨rfl, rfl, rfl, by decide +kernel, rfl, by decide +kernel, by decide +kernel⟩
abbrev st_law_of : Stmt := topS 8
abbrev N_law_of : List Str := ["_law_box_here", "_law_some"]
theorem sc_law_of : FnScope N_law_of ["_law_box_here", "_law_some"] (defScope st_law_of) := ⟨rfl, rfl, rfl, by decide +kernel, rfl, by decide +kernel, by decide +kernel⟩
abbrev st_law_strewn : Stmt := topS 9
abbrev N_law_strewn : List Str := ["_law_box_here", "_law_some", "_law_left", "_law_found"]
theorem sc_law_strewn : FnScope N_law_strewn ["_law_box_here", "_law_some"] (defScope st_law_strewn) := ⟨rfl, rfl, rfl, by decide +kernel, rfl, by decide +kernel, by decide +kernel⟩
abbrev st_law_same : Stmt := topS 10
abbrev N_law_same : List Str := ["_law_found", "_law_due", "_law_one", "_law_two"]
theorem sc_law_same : FnScope N_law_same ["_law_found", "_law_due"] (defScope st_law_same) := ⟨rfl, rfl, rfl, by decide +kernel, rfl, by decide +kernel, by decide +kernel⟩
abbrev st_law_part : Stmt := topS 11
abbrev N_law_part : List Str := ["_law_box_here", "_law_size", "_law_sort", "_law_ringed", "_law_found", "_law_who"]
theorem sc_law_part : FnScope N_law_part ["_law_box_here", "_law_size"] (defScope st_law_part) := ⟨rfl, rfl, rfl, by decide +kernel, rfl, by decide +kernel, by decide +kernel⟩
abbrev st_law_mixed : Stmt := topS 12
abbrev N_law_mixed : List Str := ["_law_box_here", "_law_found", "_law_tags", "_law_here", "_law_who", "_law_aim"]
theorem sc_law_mixed : FnScope N_law_mixed ["_law_box_here", "_law_found"] (defScope st_law_mixed) := ⟨rfl, rfl, rfl, by decide +kernel, rfl, by decide +kernel, by decide +kernel⟩
abbrev st_law_drawn : Stmt := topS 13
abbrev N_law_drawn : List Str := ["_law_box_here", "_law_most", "_law_size", "_law_found", "_law_left", "_law_some", "_law_aim"]
theorem sc_law_drawn : FnScope N_law_drawn ["_law_box_here", "_law_most"] (defScope st_law_drawn) := ⟨rfl, rfl, rfl, by decide +kernel, rfl, by decide +kernel, by decide +kernel⟩
abbrev st_law_odd : Stmt := topS 14
abbrev N_law_odd : List Str := ["_law_box_here", "_law_some"]
theorem sc_law_odd : FnScope N_law_odd ["_law_box_here"] (defScope st_law_odd) := ⟨rfl, rfl, rfl, by decide +kernel, rfl, by decide +kernel, by decide +kernel⟩
abbrev st_law_bent : Stmt := topS 15
abbrev N_law_bent : List Str := ["_law_box_here", "_law_matter", "_law_sort", "_law_some", "_law_at"]
theorem sc_law_bent : FnScope N_law_bent ["_law_box_here", "_law_matter"] (defScope st_law_bent) := ⟨rfl, rfl, rfl, by decide +kernel, rfl, by decide +kernel, by decide +kernel⟩
abbrev st_law_is_due : Stmt := topS 16
abbrev N_law_is_due : List Str := ["_law_matter", "_law_aim"]
theorem sc_law_is_due : FnScope N_law_is_due ["_law_matter"] (defScope st_law_is_due) := ⟨rfl, rfl, rfl, by decide +kernel, rfl, by decide +kernel, by decide +kernel⟩
abbrev st_law_right : Stmt := topS 17
abbrev N_law_right : List Str := ["_law_box_here", "_law_here", "_law_some", "_law_turn", "_law_bent_here", "_law_matter", "_law_kept", "_law_due"]
theorem sc_law_right : FnScope N_law_right ["_law_box_here"] (defScope st_law_right) := ⟨rfl, rfl, rfl, by decide +kernel, rfl, by decide +kernel, by decide +kernel⟩
abbrev st_law : Stmt := topS 18
abbrev N_law : List Str := ["_law_script", "_law_cells_here", "_law_k", "_law_box_here", "_law_turn"]
theorem sc_law : FnScope N_law ["_law_script"] (defScope st_law) := ⟨rfl, rfl, rfl, by decide +kernel, rfl, by decide +kernel, by decide +kernel⟩
/-! ### what the top has left -/
structure Tx (K : PySem.W.Frag) (mg : Str → Option Value) where
  f_is_integer : Addr
  d_is_integer : FuncData
  F_is_integer : Fun K "is_integer" "is_integer" st_is_integer f_is_integer d_is_integer
  g_is_integer : mg "is_integer" = some (.ref f_is_integer)
  f_is_person : Addr
  d_is_person : FuncData
  F_is_person : Fun K "is_person" "is_person" st_is_person f_is_person d_is_person
  g_is_person : mg "is_person" = some (.ref f_is_person)
  f_is_state : Addr
  d_is_state : FuncData
  F_is_state : Fun K "is_state" "is_state" st_is_state f_is_state d_is_state
  g_is_state : mg "is_state" = some (.ref f_is_state)
  f_law_box : Addr
  d_law_box : FuncData
  F_law_box : Fun K "_law_box" "_law_box" st_law_box f_law_box d_law_box
  g_law_box : mg "_law_box" = some (.ref f_law_box)
  f_law_take : Addr
  d_law_take : FuncData
  F_law_take : Fun K "_law_take" "_law_take" st_law_take f_law_take d_law_take
  g_law_take : mg "_law_take" = some (.ref f_law_take)
  f_law_cells : Addr
  d_law_cells : FuncData
  F_law_cells : Fun K "_law_cells" "_law_cells" st_law_cells f_law_cells d_law_cells
  g_law_cells : mg "_law_cells" = some (.ref f_law_cells)
  f_law_of : Addr
  d_law_of : FuncData
  F_law_of : Fun K "_law_of" "_law_of" st_law_of f_law_of d_law_of
  g_law_of : mg "_law_of" = some (.ref f_law_of)
  f_law_strewn : Addr
  d_law_strewn : FuncData
  F_law_strewn : Fun K "_law_strewn" "_law_strewn" st_law_strewn f_law_strewn d_law_strewn
  g_law_strewn : mg "_law_strewn" = some (.ref f_law_strewn)
  f_law_same : Addr
  d_law_same : FuncData
  F_law_same : Fun K "_law_same" "_law_same" st_law_same f_law_same d_law_same
  g_law_same : mg "_law_same" = some (.ref f_law_same)
  f_law_part : Addr
  d_law_part : FuncData
  F_law_part : Fun K "_law_part" "_law_part" st_law_part f_law_part d_law_part
  g_law_part : mg "_law_part" = some (.ref f_law_part)
  f_law_mixed : Addr
  d_law_mixed : FuncData
  F_law_mixed : Fun K "_law_mixed" "_law_mixed" st_law_mixed f_law_mixed d_law_mixed
  g_law_mixed : mg "_law_mixed" = some (.ref f_law_mixed)
  f_law_drawn : Addr
  d_law_drawn : FuncData
  F_law_drawn : Fun K "_law_drawn" "_law_drawn" st_law_drawn f_law_drawn d_law_drawn
  g_law_drawn : mg "_law_drawn" = some (.ref f_law_drawn)
  f_law_odd : Addr
  d_law_odd : FuncData
  F_law_odd : Fun K "_law_odd" "_law_odd" st_law_odd f_law_odd d_law_odd
  g_law_odd : mg "_law_odd" = some (.ref f_law_odd)
  f_law_bent : Addr
  d_law_bent : FuncData
  F_law_bent : Fun K "_law_bent" "_law_bent" st_law_bent f_law_bent d_law_bent
  g_law_bent : mg "_law_bent" = some (.ref f_law_bent)
  f_law_is_due : Addr
  d_law_is_due : FuncData
  F_law_is_due : Fun K "_law_is_due" "_law_is_due" st_law_is_due f_law_is_due d_law_is_due
  g_law_is_due : mg "_law_is_due" = some (.ref f_law_is_due)
  f_law_right : Addr
  d_law_right : FuncData
  F_law_right : Fun K "_law_right" "_law_right" st_law_right f_law_right d_law_right
  g_law_right : mg "_law_right" = some (.ref f_law_right)
  f_law : Addr
  d_law : FuncData
  F_law : Fun K "law" "law" st_law f_law d_law
  g_law : mg "law" = some (.ref f_law)
  n_abs : mg "abs" = none
  n_all : mg "all" = none
  n_bool : mg "bool" = none
  n_enumerate : mg "enumerate" = none
  n_int : mg "int" = none
  n_isinstance : mg "isinstance" = none
  n_len : mg "len" = none
  n_list : mg "list" = none
  n_range : mg "range" = none
  n_repr : mg "repr" = none
  n_str : mg "str" = none
  n_tuple : mg "tuple" = none
  n_zip : mg "zip" = none
/-! ### the mirrors -/
noncomputable def M_is_integer : List PV → Ms → Out PV := mFn 0 (sRet (mAnd (m1 (mVar 0) (oIsi ["int"])) (mNot (m1 (mVar 0) (oIsi ["bool"])))))
noncomputable def M_is_person : List PV → Ms → Out PV := mFn 0 (sRet (mAnd (mL (mCons (mVar 0) mNil) (cl 1 M_is_integer)) (mChain (mC (.int 0)) (mVar 0) (mVar 1) oLe oLt)))
noncomputable def M_is_state : List PV → Ms → Out PV := mFn 1 (sRet (mAnd (m1 (mVar 0) (oIsi ["tuple"])) (mAnd (m2 (mL (mCons (mVar 0) mNil) oLen) (mC (.int 0)) oGt) (mL (mCons (mLc (iOf (mVar 0)) (gNm 1) bYes (mL (mCons (mVar 1) (mCons (mL (mCons (mVar 0) mNil) oLen) mNil)) (cl 2 M_is_person)) [1]) mNil) oAll))))
noncomputable def M_law_box : List PV → Ms → Out PV := mFn 1 (sSeq (sSet 2 (mIf (mB (m2 (mVar 1) (mL (mCons (mVar 0) mNil) oLen) oLt)) (mSub (mVar 0) (mVar 1)) (mC (.int 0))))
  (sRet (mL (mCons (m2 (mL (mCons (mVar 2) mNil) oAbs) (mL (mCons (m2 (mL (mCons (mVar 2) mNil) oAbs) (m2 (mC (.int 10)) (mC (.int 18)) oPow) oGe) mNil) oInt) oMul) (mCons (m2 (m2 (m2 (mVar 2) (mC (.int 2305843009213693951)) oMod) (m2 (mC (.int 7919)) (mVar 1) oMul) oAdd) (mC (.int 23)) oAdd) (mCons (mC (.int 0)) mNil))) oList)))
noncomputable def M_law_take : Nat → List PV → Ms → Out PV
  | 0 => fun _ _ => .fail
  | d + 1 => mFn 2 (sSeq (sIf (mB (m2 (mSub (mVar 0) (mC (.int 0))) (mC (.int 0)) oGt))
  (sSeq (sSet 2 (m2 (mSub (mVar 0) (mC (.int 0))) (mVar 1) oMod))
  (sSeq (sPut (mVar 0) (mC (.int 0)) (m2 (mSub (mVar 0) (mC (.int 0))) (mVar 1) oDiv))
  (sRet (mVar 2))))
  sNext)
  (sSeq (sIf (mB (m2 (mVar 1) (m2 (mC (.int 10)) (mC (.int 7)) oPow) oGt))
  (sRet (m2 (m2 (mL (mCons (mVar 0) (mCons (m2 (mC (.int 10)) (mC (.int 7)) oPow) mNil)) (cl 2 (M_law_take d))) (m2 (m2 (mC (.int 10)) (mC (.int 7)) oPow) (mL (mCons (mVar 0) (mCons (m2 (m2 (m2 (mVar 1) (mC (.int 1)) oSub) (m2 (mC (.int 10)) (mC (.int 7)) oPow) oDiv) (mC (.int 1)) oAdd) mNil)) (cl 2 (M_law_take d))) oMul) oAdd) (mVar 1) oMod))
  sNext)
  (sSeq (sPut (mVar 0) (mC (.int 2)) (m2 (mSub (mVar 0) (mC (.int 2))) (mC (.int 1)) oAdd))
  (sSeq (sSet 3 (m2 (m2 (m2 (mSub (mVar 0) (mC (.int 1))) (m2 (mC (.int 39373)) (mSub (mVar 0) (mC (.int 2))) oMul) oAdd) (mC (.int 5)) oPow) (mC (.int 2147483647)) oMod))
  (sRet (m2 (m2 (m2 (m2 (m2 (mVar 3) (m2 (m2 (mVar 3) (mC (.int 40009)) oMod) (mC (.int 7)) oAdd) oMul) (m2 (mSub (mVar 0) (mC (.int 2))) (mC (.int 7919)) oMul) oAdd) (mC (.int 2147483629)) oMod) (mC (.int 64)) oDiv) (mVar 1) oMod))))))
noncomputable def M_law_cells : List PV → Ms → Out PV := mFn 3 (sSeq (sSet 2 (mL (mCons (mCut (mVar 0) (mC .non) (onlyI (mVar 1))) mNil) oListOf))
  (sSeq (sFor (iSt enmOf (mCons (mCut (mVar 0) (onlyI (mVar 1)) (onlyI (mC (.int 63)))) mNil)) (gTp 2 (gCn (gNm 3) (gCn (gNm 4) gNl)))
  (sPut (mVar 2) (m2 (mVar 3) (mVar 1) oMod) (m2 (mSub (mVar 2) (m2 (mVar 3) (mVar 1) oMod)) (m2 (mVar 4) (m2 (mVar 3) (mC (.int 2)) oAdd) oMul) oAdd)))
  (sRet (mIf (mB (m2 (mVar 2) (mL mNil oList) oNe)) (mVar 2) (mL (mCons (mC (.int 0)) mNil) oList)))))
noncomputable def M_law_of : List PV → Ms → Out PV := mFn 0 (sRet (mSub (mVar 1) (mL (mCons (mVar 0) (mCons (mL (mCons (mVar 1) mNil) oLen) mNil)) (cl 2 (M_law_take 4)))))
noncomputable def M_law_strewn : List PV → Ms → Out PV := mFn 2 (sSeq (sPar 2 3 (mL (mCons (mVar 1) mNil) oListOf) (mL mNil oList))
  (sSeq (sWhile (mB (m2 (mVar 2) (mL mNil oList) oNe))
  (sDrop (mMeth (mVar 3) (mCons (mMeth (mVar 2) (mCons (mL (mCons (mVar 0) (mCons (mL (mCons (mVar 2) mNil) oLen) mNil)) (cl 2 (M_law_take 4))) mNil) oPop) mNil) oAppend)))
  (sRet (mVar 3))))
noncomputable def M_law_same : Nat → List PV → Ms → Out PV
  | 0 => fun _ _ => .fail
  | d + 1 => mFn 2 (sSeq (sIf (mT (m1 (mVar 1) (oIsi ["list", "tuple"])))
  (sSeq (sIf (bOr (mB (m2 (m1 (mVar 0) (oIsi ["list"])) (m1 (mVar 1) (oIsi ["list"])) oNe)) (mB (m2 (m1 (mVar 0) (oIsi ["tuple"])) (m1 (mVar 1) (oIsi ["tuple"])) oNe)))
  (sRet (mC (.bl false)))
  sNext)
  (sRet (mAnd (m2 (mL (mCons (mVar 0) mNil) oLen) (mL (mCons (mVar 1) mNil) oLen) oEq) (mL (mCons (mLc (iSt zipOf (mCons (mVar 0) (mCons (mVar 1) mNil))) (gTp 2 (gCn (gNm 2) (gCn (gNm 3) gNl))) bYes (mL (mCons (mVar 2) (mCons (mVar 3) mNil)) (cl 2 (M_law_same d))) [2, 3]) mNil) oAll))))
  sNext)
  (sSeq (sIf (bOr (mB (m2 (mVar 1) (mC .non) oIsN)) (mT (m1 (mVar 1) (oIsi ["str", "bool"]))))
  (sRet (mAnd (m2 (mVar 0) (mVar 1) oEq) (mAnd (m2 (m1 (mVar 0) (oIsi ["bool"])) (m1 (mVar 1) (oIsi ["bool"])) oEq) (m2 (m2 (mVar 0) (mC .non) oIsN) (m2 (mVar 1) (mC .non) oIsN) oEq))))
  sNext)
  (sRet (mAnd (m1 (mVar 0) (oIsi ["int"])) (mAnd (mNot (m1 (mVar 0) (oIsi ["bool"]))) (m2 (mVar 0) (mVar 1) oEq))))))
noncomputable def M_law_part : List PV → Ms → Out PV := mFn 4 (sSeq (sSet 2 (mL (mCons (mVar 0) (mCons (mC (.int 5)) mNil)) (cl 2 (M_law_take 4))))
  (sSeq (sPar 3 4 (mSub (mL (mCons (mC (.int 0)) (mCons (mC (.int 1)) (mCons (mVar 1) (mCons (m2 (mC (.int 1)) (mL (mCons (mVar 0) (mCons (mVar 1) mNil)) (cl 2 (M_law_take 4))) oAdd) (mCons (mC (.int 1)) mNil))))) oList) (mVar 2)) (mL mNil oList))
  (sSeq (sFor (iRg rng1 (mCons (mVar 1) mNil)) (gNm 5)
  (sIf (mB (m2 (mVar 2) (mC (.int 0)) oEq))
  (sDrop (mMeth (mVar 4) (mCons (mL (mCons (mVar 0) (mCons (mVar 1) mNil)) (cl 2 (M_law_take 4))) mNil) oAppend))
  (sIf (mB (m2 (mVar 5) (mVar 3) oLt))
  (sDrop (mMeth (mVar 4) (mCons (m2 (m2 (mVar 5) (mC (.int 1)) oAdd) (mVar 3) oMod) mNil) oAppend))
  (sDrop (mMeth (mVar 4) (mCons (mIf (mB (m2 (mVar 2) (mC (.int 4)) oEq)) (m2 (mVar 5) (mC (.int 1)) oSub) (mL (mCons (mVar 0) (mCons (mVar 5) mNil)) (cl 2 (M_law_take 4)))) mNil) oAppend)))))
  (sRet (mVar 4)))))
noncomputable def M_law_mixed : List PV → Ms → Out PV := mFn 4 (sSeq (sPar 2 3 (mL (mCons (mVar 0) (mCons (m1 (mL (mCons (mVar 1) mNil) oLen) oListRg1) mNil)) (cl 2 M_law_strewn)) (m2 (mL (mCons (mC (.int 0)) mNil) oList) (mL (mCons (mVar 1) mNil) oLen) oMul))
  (sSeq (sFor (iSt enmOf (mCons (mVar 1) mNil)) (gTp 2 (gCn (gNm 4) (gCn (gNm 5) gNl)))
  (sPut (mVar 3) (mSub (mVar 2) (mVar 4)) (mSub (mVar 2) (mVar 5))))
  (sRet (mL (mCons (mVar 3) mNil) oTupOf))))
noncomputable def M_law_drawn : List PV → Ms → Out PV := mFn 5 (sSeq (sAsg (gTp 2 (gCn (gNm 2) (gCn (gNm 3) gNl))) (mL (mCons (m2 (mC (.int 1)) (mL (mCons (mVar 0) (mCons (mVar 1) mNil)) (cl 2 (M_law_take 4))) oAdd) (mCons (mL mNil oList) mNil)) oTup))
  (sSeq (sWhile (mB (m2 (mL (mCons (mVar 3) mNil) oLen) (mVar 2) oLt))
  (sSeq (sSet 4 (m2 (mVar 2) (mL (mCons (mVar 3) mNil) oLen) oSub))
  (sSeq (sSet 5 (mL (mCons (mVar 0) (mCons (mL (mCons (mVar 0) (mCons (mL (mCons (mVar 4) (mCons (mVar 4) (mCons (m2 (mC (.int 1)) (mL (mCons (mVar 0) (mCons (mVar 4) mNil)) (cl 2 (M_law_take 4))) oAdd) mNil))) oList) mNil)) (cl 2 M_law_of)) mNil)) (cl 2 M_law_part)))
  (sSet 3 (m2 (mVar 3) (mLc (iOf (mVar 5)) (gNm 6) bYes (m2 (mL (mCons (mVar 3) mNil) oLen) (mVar 6) oAdd) [6]) oAdd)))))
  (sRet (mL (mCons (mVar 0) (mCons (mVar 3) mNil)) (cl 2 M_law_mixed)))))
noncomputable def M_law_odd : List PV → Ms → Out PV := mFn 1 (sSeq (sSet 1 (mL (mCons (mC .non) (mCons (mC (.bl true)) (mCons (mC (.bl false)) (mCons (mC (.int 0)) (mCons (mC (.int 1)) (mCons (m1 (mC (.int 1)) oNeg) (mCons (m2 (mC (.int 10)) (mC (.int 30)) oPow) (mCons (mC (.str ("" : Str))) (mCons (mC (.str ("0" : Str))) (mCons (mC (.str ("(0,)" : Str))) (mCons (mL mNil oTup) (mCons (mL mNil oList) (mCons (mL (mCons (mC (.int 0)) mNil) oTup) (mCons (mL (mCons (mC (.int 0)) mNil) oList) (mCons (mL (mCons (mC (.bl true)) mNil) oTup) (mCons (mL (mCons (mC (.bl false)) mNil) oTup) (mCons (mL (mCons (mC (.int 1)) mNil) oTup) (mCons (mL (mCons (mC .non) mNil) oTup) mNil)))))))))))))))))) oList))
  (sSeq (sSet 1 (m2 (mVar 1) (mL (mCons (mL (mCons (mC (.int 0)) (mCons (mC (.int 0)) (mCons (mC (.int 3)) mNil))) oTup) (mCons (mL (mCons (mC (.int 0)) (mCons (mC (.str ("1" : Str))) mNil)) oTup) (mCons (mL (mCons (mL (mCons (mC (.int 0)) mNil) oTup) mNil) oTup) (mCons (mL (mCons (mL mNil oTup) mNil) oTup) (mCons (mL (mCons (mL mNil oList) mNil) oTup) (mCons (mL (mCons (mC (.int 0)) (mCons (mL (mCons (mC (.int 1)) mNil) oTup) mNil)) oTup) (mCons (mL (mCons (mL (mCons (mC (.int 0)) mNil) oList) (mCons (mL (mCons (mC (.int 1)) mNil) oList) mNil)) oList) (mCons (mL (mCons (m1 (mC (.int 1)) oNeg) (mCons (mC (.int 0)) mNil)) oTup) (mCons (mL (mCons (mC (.int 2)) (mCons (mC (.int 1)) mNil)) oTup) (mCons (mL (mCons (mC (.int 0)) (mCons (mC (.int 1)) (mCons (mC (.int 2)) mNil))) oTup) mNil)))))))))) oList) oAdd))
  (sRet (mL (mCons (mVar 0) (mCons (mVar 1) mNil)) (cl 2 M_law_of)))))
noncomputable def M_law_bent : Nat → List PV → Ms → Out PV
  | 0 => fun _ _ => .fail
  | d + 1 => mFn 3 (sSeq (sSet 2 (mL (mCons (mVar 0) (mCons (mC (.int 8)) mNil)) (cl 2 (M_law_take 4))))
  (sSeq (sIf (bAnd (mT (m1 (mVar 1) (oIsi ["int"]))) (bAnd (bNot (mT (m1 (mVar 1) (oIsi ["bool"])))) (mB (m2 (mVar 2) (mC (.int 5)) oLt))))
  (sRet (mSub (mL (mCons (m2 (mVar 1) (mC (.int 1)) oAdd) (mCons (m2 (mVar 1) (mC (.int 1)) oSub) (mCons (m2 (mC (.int 0)) (mVar 1) oSub) (mCons (m2 (mVar 1) (mC (.int 1)) oEq) (mCons (mL (mCons (mVar 1) mNil) oStrI) mNil))))) oList) (mVar 2)))
  sNext)
  (sSeq (sIf (bOr (bNot (mT (m1 (mVar 1) (oIsi ["list", "tuple"])))) (bOr (mB (m2 (mL (mCons (mVar 1) mNil) oLen) (mC (.int 0)) oEq)) (mB (m2 (mVar 2) (mC (.int 0)) oEq))))
  (sRet (mL (mCons (mVar 0) mNil) (cl 1 M_law_odd)))
  sNext)
  (sSeq (sPar 3 4 (mL (mCons (mVar 1) mNil) oListOf) (mL (mCons (mVar 0) (mCons (mL (mCons (mVar 1) mNil) oLen) mNil)) (cl 2 (M_law_take 4))))
  (sSeq (sIf (mB (m2 (mVar 2) (mC (.int 1)) oEq))
  (sRet (mIf (mT (m1 (mVar 1) (oIsi ["list"]))) (mL (mCons (mVar 3) mNil) oTupOf) (mVar 3)))
  sNext)
  (sSeq (sIf (mB (m2 (mVar 2) (mC (.int 2)) oEq))
  (sSet 3 (m2 (mCut (mVar 3) (mC .non) (onlyI (mVar 4))) (mCut (mVar 3) (onlyI (m2 (mVar 4) (mC (.int 1)) oAdd)) (mC .non)) oAdd))
  (sIf (mB (m2 (mVar 2) (mC (.int 3)) oEq))
  (sSet 3 (m2 (mCut (mVar 3) (mC .non) (onlyI (m2 (mVar 4) (mC (.int 1)) oAdd))) (mCut (mVar 3) (onlyI (mVar 4)) (mC .non)) oAdd))
  (sPut (mVar 3) (mVar 4) (mL (mCons (mVar 0) (mCons (mSub (mVar 3) (mVar 4)) mNil)) (cl 2 (M_law_bent d))))))
  (sRet (mIf (mT (m1 (mVar 1) (oIsi ["tuple"]))) (mL (mCons (mVar 3) mNil) oTupOf) (mVar 3)))))))))
noncomputable def M_law_is_due : List PV → Ms → Out PV := mFn 1 (sSeq (sIf (bOr (bNot (mT (m1 (mVar 0) (oIsi ["tuple"])))) (mB (m2 (mL (mCons (mVar 0) mNil) oLen) (mC (.int 0)) oEq)))
  (sRet (mC (.bl false)))
  sNext)
  (sSeq (sIf (bNot (mT (mL (mCons (mLc (iOf (mVar 0)) (gNm 1) bYes (mAnd (m1 (mVar 1) (oIsi ["int"])) (mNot (m1 (mVar 1) (oIsi ["bool"])))) [1]) mNil) oAll)))
  (sRet (mC (.bl false)))
  sNext)
  (sRet (mL (mCons (mLc (iOf (mVar 0)) (gNm 1) bYes (mChain (mC (.int 0)) (mVar 1) (mL (mCons (mVar 0) mNil) oLen) oLe oLt) [1]) mNil) oAll))))
noncomputable def M_law_right : List PV → Ms → Out PV := mFn 7 (sSeq (sSet 1 (mL (mCons (mVar 0) (mCons (mC (.int 12)) mNil)) (cl 2 M_law_drawn)))
  (sSeq (sSet 2 (mL (mCons (mVar 1) (mCons (mL (mCons (mVar 1) mNil) oListOf) (mCons (m2 (mL (mCons (mC (.int 0)) mNil) oTup) (mC (.int 41)) oMul6) (mCons (m1 (mC (.int 60)) oTupRg1) (mCons (m2 (mL (mCons (mC (.int 59)) (mCons (m1 (mC (.int 1)) oNeg) (mCons (m1 (mC (.int 1)) oNeg) mNil))) oTupRg3) (mL (mCons (mC (.int 61)) mNil) oTup) oAdd) mNil))))) oList))
  (sSeq (sSet 2 (m2 (mVar 2) (mLc (iRg rng1 (mCons (mC (.int 6)) mNil)) (gNm 3) bYes (mL (mCons (mVar 0) mNil) (cl 1 M_law_odd)) [3]) oAdd))
  (sSeq (sFor (iRg rng1 (mCons (mC (.int 12)) mNil)) (gNm 3)
  (sSeq (sSet 4 (mL (mCons (mVar 0) (mCons (mVar 1) mNil)) (cl 2 (M_law_bent 6))))
  (sDrop (mMeth (mVar 2) (mCons (mIf (mB (m2 (mL (mCons (mVar 0) (mCons (mC (.int 3)) mNil)) (cl 2 (M_law_take 4))) (mC (.int 0)) oEq)) (mL (mCons (mVar 0) (mCons (mVar 4) mNil)) (cl 2 (M_law_bent 6))) (mVar 4)) mNil) oAppend))))
  (sSeq (sFor (iOf (mVar 2)) (gNm 5)
  (sSeq (sPar 6 7 (mL (mCons (mVar 5) mNil) oReprA) (mL (mCons (mVar 5) mNil) (cl 1 M_law_is_due)))
  (sIf (bOr (bNot (mT (mL (mCons (mL (mCons (mL (mCons (mVar 5) mNil) (cl 1 M_is_state)) (mCons (mCallK mNil (mCons (mVar 5) mNil) 0 1 [0] M_is_state) mNil)) oList) (mCons (mL (mCons (mVar 7) (mCons (mVar 7) mNil)) oList) mNil)) (cl 2 (M_law_same 6))))) (mB (m2 (mL (mCons (mVar 5) mNil) oReprA) (mVar 6) oNe)))
  (sRet (mC (.bl false)))
  sNext)))
  (sRet (mC (.bl true))))))))
noncomputable def M_law : List PV → Ms → Out PV := mFn 4 (sSeq (sSet 1 (mL (mCons (mVar 0) (mCons (mC (.int 3)) mNil)) (cl 2 M_law_cells)))
  (sSeq (sFor (iRg rng1 (mCons (mL (mCons (mVar 1) mNil) oLen) mNil)) (gNm 2)
  (sSeq (sSet 3 (mL (mCons (mVar 1) (mCons (mVar 2) mNil)) (cl 2 M_law_box)))
  (sIf (bNot (mT (mL (mCons (mLc (iRg rng1 (mCons (mC (.int 3)) mNil)) (gNm 4) bYes (mL (mCons (mVar 3) mNil) (cl 1 M_law_right)) [4]) mNil) oAll)))
  (sRet (mC (.bl false)))
  sNext)))
  (sRet (mC (.bl true)))))
/-! ### the defs -/
section
variable {K : PySem.W.Frag} {mg : Str → Option Value}
theorem b_is_integer (T : Tx K mg) : Binds K T.d_is_integer ["value"] [] := T.F_is_integer.binds fun _ _ _ _ _ _ us hl => match us, hl with | [_], _ => rfl
theorem k_is_integer {P : Program} {w : World} {base : Heap} (T : Tx K mg) : FnOk P w K mg base (L2.CX P w) 1 T.f_is_integer T.d_is_integer ["value"] (spF K mg 1 M_is_integer) :=
  fn_ok T.F_is_integer sc_is_integer rfl fun cdv A outer s H E hr =>
    (ss_one (ss_ret (s_and (s_isi ty_int (s_var 0) T.n_isinstance T.n_int (by decide +kernel)) (s_one (s_not (s_isi ty_bool (s_var 0) T.n_isinstance T.n_bool (by decide +kernel)))))))
theorem b_is_person (T : Tx K mg) : Binds K T.d_is_person ["value", "size"] [] := T.F_is_person.binds fun _ _ _ _ _ _ us hl => match us, hl with | [_, _], _ => rfl
theorem k_is_person {P : Program} {w : World} {base : Heap} (T : Tx K mg) : FnOk P w K mg base (L2.CX P w) 2 T.f_is_person T.d_is_person ["value", "size"] (spF K mg 2 M_is_person) :=
  fn_ok T.F_is_person sc_is_person rfl fun cdv A outer s H E hr =>
    (ss_one (ss_ret (s_and (s_call (k_is_integer T) rfl (hr.mono (by first | decide | exact Nat.le_add_right_of_le (by decide) | omega)) T.g_is_integer T.F_is_integer.kp (b_is_integer T) (takes_of rfl rfl rfl rfl) (sa_cons (s_var 0) sa_nil)) (s_one (s_chain op_le op_lt o_cmp o_cmp s_int (s_var 0) (s_var 1))))))
theorem b_is_state (T : Tx K mg) : Binds K T.d_is_state ["value"] [] := T.F_is_state.binds fun _ _ _ _ _ _ us hl => match us, hl with | [_], _ => rfl
theorem k_is_state {P : Program} {w : World} {base : Heap} (T : Tx K mg) : FnOk P w K mg base (L2.CX P w) 3 T.f_is_state T.d_is_state ["value"] (spF K mg 1 M_is_state) :=
  fn_ok T.F_is_state sc_is_state rfl fun cdv A outer s H E hr =>
    (ss_one (ss_ret (s_and (s_isi ty_tuple (s_var 0) T.n_isinstance T.n_tuple (by decide +kernel)) (s_and (s_cmp op_gt o_cmp (s_callB call_len4 o_len T.n_len (by decide +kernel) (sa_cons (s_var 0) sa_nil)) s_int) (s_one (s_callB (cr_all rfl) o_all T.n_all (by decide +kernel) (sa_cons (s_lc (own := [("item", 1)]) rfl sc_is_state.nd (si_of (s_var 0)) (blkOk_by (own := [("item", 1)]) (N := N_is_state) (sc := defScope st_is_state) (by decide +kernel)) (by decide) (fun _ _ _ _ _ => (sg_name (i := 1) sc_is_state.nd)) (fun _ _ _ _ _ => sif_nil) (fun _ _ _ _ _ => (s_call (k_is_person T) rfl (hr.mono (by first | decide | exact Nat.le_add_right_of_le (by decide) | omega)) T.g_is_person T.F_is_person.kp (b_is_person T) takes0 (sa_cons (s_var 1) (sa_cons (s_callB call_len4 o_len T.n_len (by decide +kernel) (sa_cons (s_var 0) sa_nil)) sa_nil))))) sa_nil)))))))
theorem b_law_box (T : Tx K mg) : Binds K T.d_law_box ["_law_script", "_law_k"] [] := T.F_law_box.binds fun _ _ _ _ _ _ us hl => match us, hl with | [_, _], _ => rfl
theorem k_law_box {P : Program} {w : World} {base : Heap} (T : Tx K mg) : FnOk P w K mg base (L2.CX P w) 1 T.f_law_box T.d_law_box ["_law_script", "_law_k"] (spF K mg 2 M_law_box) :=
  fn_ok T.F_law_box sc_law_box rfl fun cdv A outer s H E hr =>
    (ss_cons (ss_set (i := 2) sc_law_box.nd (s_ifE (sb_cmp op_lt o_cmp (s_var 1) (s_callB call_len4 o_len T.n_len (by decide +kernel) (sa_cons (s_var 0) sa_nil))) (s_sub (hu_of hr) (s_var 0) (s_var 1)) s_int))
    (ss_one (ss_ret (s_list (sa_cons (s_op op_mul4 o_mul (s_callB call_abs o_abs T.n_abs (by decide +kernel) (sa_cons (s_var 2) sa_nil)) (s_callTy call_int1 o_int T.n_int (by decide +kernel) (sa_cons (s_cmp op_ge o_cmp (s_callB call_abs o_abs T.n_abs (by decide +kernel) (sa_cons (s_var 2) sa_nil)) (s_op op_pow o_pow s_int s_int)) sa_nil))) (sa_cons (s_op op_add4 o_add (s_op op_add4 o_add (s_op op_modN o_mod (s_var 2) s_int) (s_op op_mul4 o_mul s_int (s_var 1))) s_int) (sa_cons s_int sa_nil)))))))
theorem b_law_take (T : Tx K mg) : Binds K T.d_law_take ["_law_box_here", "_law_span"] [] := T.F_law_take.binds fun _ _ _ _ _ _ us hl => match us, hl with | [_, _], _ => rfl
theorem k_law_take {P : Program} {w : World} {base : Heap} (T : Tx K mg) : ∀ d, FnOk P w K mg base (L2.CX P w) (0 + d) T.f_law_take T.d_law_take ["_law_box_here", "_law_span"] (spF K mg 2 (M_law_take d))
  | 0 => fn_never
  | d + 1 =>
    have ih : FnOk P w K mg base (L2.CX P w) (0 + d) T.f_law_take T.d_law_take ["_law_box_here", "_law_span"] (spF K mg 2 (M_law_take d)) := k_law_take T d
    fn_ok T.F_law_take sc_law_take rfl fun cdv A outer s H E hr =>
    (ss_cons (ss_if (sb_cmp op_gt o_cmp (s_sub (hu_of hr) (s_var 0) s_int) s_int)
    (ss_cons (ss_set (i := 2) sc_law_take.nd (s_op op_modN o_mod (s_sub (hu_of hr) (s_var 0) s_int) (s_var 1)))
    (ss_cons (ss_put (hu_of hr) (s_var 0) s_int (s_op op_div4 o_div (s_sub (hu_of hr) (s_var 0) s_int) (s_var 1)))
    (ss_one (ss_ret (s_var 2)))))
    ss_nil)
    (ss_cons (ss_if (sb_cmp op_gt o_cmp (s_var 1) (s_op op_pow o_pow s_int s_int))
    (ss_one (ss_ret (s_op op_modN o_mod (s_op op_add4 o_add (s_call ih rfl hr T.g_law_take T.F_law_take.kp (b_law_take T) (takes_of rfl rfl rfl rfl) (sa_cons (s_var 0) (sa_cons (s_op op_pow o_pow s_int s_int) sa_nil))) (s_op op_mul4 o_mul (s_op op_pow o_pow s_int s_int) (s_call ih rfl hr T.g_law_take T.F_law_take.kp (b_law_take T) (takes_of rfl rfl rfl rfl) (sa_cons (s_var 0) (sa_cons (s_op op_add4 o_add (s_op op_div4 o_div (s_op op_sub o_sub (s_var 1) s_int) (s_op op_pow o_pow s_int s_int)) s_int) sa_nil))))) (s_var 1))))
    ss_nil)
    (ss_cons (ss_put (hu_of hr) (s_var 0) s_int (s_op op_add4 o_add (s_sub (hu_of hr) (s_var 0) s_int) s_int))
    (ss_cons (ss_set (i := 3) sc_law_take.nd (s_op op_modN o_mod (s_op op_pow o_pow (s_op op_add4 o_add (s_sub (hu_of hr) (s_var 0) s_int) (s_op op_mul4 o_mul s_int (s_sub (hu_of hr) (s_var 0) s_int))) s_int) s_int))
    (ss_one (ss_ret (s_op op_modN o_mod (s_op op_div4 o_div (s_op op_modN o_mod (s_op op_add4 o_add (s_op op_mul4 o_mul (s_var 3) (s_op op_add4 o_add (s_op op_modN o_mod (s_var 3) s_int) s_int)) (s_op op_mul4 o_mul (s_sub (hu_of hr) (s_var 0) s_int) s_int)) s_int) s_int) (s_var 1))))))))
theorem b_law_cells (T : Tx K mg) : Binds K T.d_law_cells ["_law_script", "_law_most"] [] := T.F_law_cells.binds fun _ _ _ _ _ _ us hl => match us, hl with | [_, _], _ => rfl
theorem k_law_cells {P : Program} {w : World} {base : Heap} (T : Tx K mg) : FnOk P w K mg base (L2.CX P w) 1 T.f_law_cells T.d_law_cells ["_law_script", "_law_most"] (spF K mg 2 M_law_cells) :=
  fn_ok T.F_law_cells sc_law_cells rfl fun cdv A outer s H E hr =>
    (ss_cons (ss_set (i := 2) sc_law_cells.nd (s_callTy (call_listOf rfl) o_listOf T.n_list (by decide +kernel) (sa_cons (s_slice (s_var 0) so_none (so_some (s_var 1))) sa_nil)))
    (ss_cons (ss_for (passes_of rfl) rfl (si_enum T.n_enumerate (sa_cons (s_slice (s_var 0) (so_some (s_var 1)) (so_some s_int)) sa_nil)) (sg_tup rfl (sgs_cons (sg_name (i := 3) sc_law_cells.nd) (sgs_cons (sg_name (i := 4) sc_law_cells.nd) sgs_nil)))
    (ss_one (ss_put (hu_of hr) (s_var 2) (s_op op_modN o_mod (s_var 3) (s_var 1)) (s_op op_add4 o_add (s_sub (hu_of hr) (s_var 2) (s_op op_modN o_mod (s_var 3) (s_var 1))) (s_op op_mul4 o_mul (s_var 4) (s_op op_add4 o_add (s_var 3) s_int))))))
    (ss_one (ss_ret (s_ifE (sb_cmp (op_neD hr.units) o_ne (s_var 2) (s_list sa_nil)) (s_var 2) (s_list (sa_cons s_int sa_nil)))))))
theorem b_law_of (T : Tx K mg) : Binds K T.d_law_of ["_law_box_here", "_law_some"] [] := T.F_law_of.binds fun _ _ _ _ _ _ us hl => match us, hl with | [_, _], _ => rfl
theorem k_law_of {P : Program} {w : World} {base : Heap} (T : Tx K mg) : FnOk P w K mg base (L2.CX P w) 5 T.f_law_of T.d_law_of ["_law_box_here", "_law_some"] (spF K mg 2 M_law_of) :=
  fn_ok T.F_law_of sc_law_of rfl fun cdv A outer s H E hr =>
    (ss_one (ss_ret (s_sub (hu_of hr) (s_var 1) (s_call (k_law_take T 4) rfl (hr.mono (by first | decide | exact Nat.le_add_right_of_le (by decide) | omega)) T.g_law_take T.F_law_take.kp (b_law_take T) (takes_of rfl rfl rfl rfl) (sa_cons (s_var 0) (sa_cons (s_callB call_len4 o_len T.n_len (by decide +kernel) (sa_cons (s_var 1) sa_nil)) sa_nil))))))
theorem b_law_strewn (T : Tx K mg) : Binds K T.d_law_strewn ["_law_box_here", "_law_some"] [] := T.F_law_strewn.binds fun _ _ _ _ _ _ us hl => match us, hl with | [_, _], _ => rfl
theorem k_law_strewn {P : Program} {w : World} {base : Heap} (T : Tx K mg) : FnOk P w K mg base (L2.CX P w) 5 T.f_law_strewn T.d_law_strewn ["_law_box_here", "_law_some"] (spF K mg 2 M_law_strewn) :=
  fn_ok T.F_law_strewn sc_law_strewn rfl fun cdv A outer s H E hr =>
    (ss_cons (ss_par (i := 2) (j := 3) rfl sc_law_strewn.nd (s_callTy (call_listOf rfl) o_listOf T.n_list (by decide +kernel) (sa_cons (s_var 1) sa_nil)) (s_list sa_nil))
    (ss_cons (ss_while (passes_of rfl) (sb_cmp (op_neD hr.units) o_ne (s_var 2) (s_list sa_nil))
    (ss_one (ss_expr (s_bmL PySem.F.slot_list_append PySem.F.type_list_append mt_append o_append (s_var 3) (sa_cons (s_bmL PySem.F.slot_list_pop PySem.F.type_list_pop mt_pop2 o_pop (s_var 2) (sa_cons (s_call (k_law_take T 4) rfl (hr.mono (by first | decide | exact Nat.le_add_right_of_le (by decide) | omega)) T.g_law_take T.F_law_take.kp (b_law_take T) (takes_of rfl rfl rfl rfl) (sa_cons (s_var 0) (sa_cons (s_callB call_len4 o_len T.n_len (by decide +kernel) (sa_cons (s_var 2) sa_nil)) sa_nil))) sa_nil)) sa_nil)))))
    (ss_one (ss_ret (s_var 3)))))
theorem b_law_same (T : Tx K mg) : Binds K T.d_law_same ["_law_found", "_law_due"] [] := T.F_law_same.binds fun _ _ _ _ _ _ us hl => match us, hl with | [_, _], _ => rfl
theorem k_law_same {P : Program} {w : World} {base : Heap} (T : Tx K mg) : ∀ d, FnOk P w K mg base (L2.CX P w) (0 + d) T.f_law_same T.d_law_same ["_law_found", "_law_due"] (spF K mg 2 (M_law_same d))
  | 0 => fn_never
  | d + 1 =>
    have ih : FnOk P w K mg base (L2.CX P w) (0 + d) T.f_law_same T.d_law_same ["_law_found", "_law_due"] (spF K mg 2 (M_law_same d)) := k_law_same T d
    fn_ok T.F_law_same sc_law_same rfl fun cdv A outer s H E hr =>
    (ss_cons (ss_if (sb_truth (s_isi2 ty_list ty_tuple (s_var 1) T.n_isinstance T.n_list (by decide +kernel) T.n_tuple (by decide +kernel)))
    (ss_cons (ss_if (sb_w (sw_or (sb_cmp (op_neD hr.units) o_ne (s_isi ty_list (s_var 0) T.n_isinstance T.n_list (by decide +kernel)) (s_isi ty_list (s_var 1) T.n_isinstance T.n_list (by decide +kernel))) (sw_or1 (sb_cmp (op_neD hr.units) o_ne (s_isi ty_tuple (s_var 0) T.n_isinstance T.n_tuple (by decide +kernel)) (s_isi ty_tuple (s_var 1) T.n_isinstance T.n_tuple (by decide +kernel))))))
    (ss_one (ss_ret s_bl))
    ss_nil)
    (ss_one (ss_ret (s_and (s_cmp (op_eqD hr.units) o_eq (s_callB call_len4 o_len T.n_len (by decide +kernel) (sa_cons (s_var 0) sa_nil)) (s_callB call_len4 o_len T.n_len (by decide +kernel) (sa_cons (s_var 1) sa_nil))) (s_one (s_callB (cr_all rfl) o_all T.n_all (by decide +kernel) (sa_cons (s_lc (own := [("_law_one", 2), ("_law_two", 3)]) rfl sc_law_same.nd (si_zip T.n_zip (sa_cons (s_var 0) (sa_cons (s_var 1) sa_nil))) (blkOk_by (own := [("_law_one", 2), ("_law_two", 3)]) (N := N_law_same) (sc := defScope st_law_same) (by decide +kernel)) (by decide) (fun _ _ _ _ _ => (sg_tup rfl (sgs_cons (sg_name (i := 2) sc_law_same.nd) (sgs_cons (sg_name (i := 3) sc_law_same.nd) sgs_nil)))) (fun _ _ _ _ _ => sif_nil) (fun _ _ _ _ _ => (s_call ih rfl hr T.g_law_same T.F_law_same.kp (b_law_same T) takes0 (sa_cons (s_var 2) (sa_cons (s_var 3) sa_nil))))) sa_nil)))))))
    ss_nil)
    (ss_cons (ss_if (sb_w (sw_or (sb_cmp op_isN o_isN (s_var 1) s_non) (sw_or1 (sb_truth (s_isi2 ty_str ty_bool (s_var 1) T.n_isinstance T.n_str (by decide +kernel) T.n_bool (by decide +kernel))))))
    (ss_one (ss_ret (s_and (s_cmp (op_eqD hr.units) o_eq (s_var 0) (s_var 1)) (s_and (s_cmp (op_eqD hr.units) o_eq (s_isi ty_bool (s_var 0) T.n_isinstance T.n_bool (by decide +kernel)) (s_isi ty_bool (s_var 1) T.n_isinstance T.n_bool (by decide +kernel))) (s_one (s_cmp (op_eqD hr.units) o_eq (s_cmp op_isN o_isN (s_var 0) s_non) (s_cmp op_isN o_isN (s_var 1) s_non)))))))
    ss_nil)
    (ss_one (ss_ret (s_and (s_isi ty_int (s_var 0) T.n_isinstance T.n_int (by decide +kernel)) (s_and (s_not (s_isi ty_bool (s_var 0) T.n_isinstance T.n_bool (by decide +kernel))) (s_one (s_cmp (op_eqD hr.units) o_eq (s_var 0) (s_var 1)))))))))
theorem b_law_part (T : Tx K mg) : Binds K T.d_law_part ["_law_box_here", "_law_size"] [] := T.F_law_part.binds fun _ _ _ _ _ _ us hl => match us, hl with | [_, _], _ => rfl
theorem k_law_part {P : Program} {w : World} {base : Heap} (T : Tx K mg) : FnOk P w K mg base (L2.CX P w) 5 T.f_law_part T.d_law_part ["_law_box_here", "_law_size"] (spF K mg 2 M_law_part) :=
  fn_ok T.F_law_part sc_law_part rfl fun cdv A outer s H E hr =>
    (ss_cons (ss_set (i := 2) sc_law_part.nd (s_call (k_law_take T 4) rfl (hr.mono (by first | decide | exact Nat.le_add_right_of_le (by decide) | omega)) T.g_law_take T.F_law_take.kp (b_law_take T) (takes_of rfl rfl rfl rfl) (sa_cons (s_var 0) (sa_cons s_int sa_nil))))
    (ss_cons (ss_par (i := 3) (j := 4) rfl sc_law_part.nd (s_sub (hu_of hr) (s_list (sa_cons s_int (sa_cons s_int (sa_cons (s_var 1) (sa_cons (s_op op_add4 o_add s_int (s_call (k_law_take T 4) rfl (hr.mono (by first | decide | exact Nat.le_add_right_of_le (by decide) | omega)) T.g_law_take T.F_law_take.kp (b_law_take T) (takes_of rfl rfl rfl rfl) (sa_cons (s_var 0) (sa_cons (s_var 1) sa_nil)))) (sa_cons s_int sa_nil)))))) (s_var 2)) (s_list sa_nil))
    (ss_cons (ss_for (passes_of rfl) rfl (si_range1 T.n_range (sa_cons (s_var 1) sa_nil)) (sg_name (i := 5) sc_law_part.nd)
    (ss_one (ss_if (sb_cmp (op_eqD hr.units) o_eq (s_var 2) s_int)
    (ss_one (ss_expr (s_bmL PySem.F.slot_list_append PySem.F.type_list_append mt_append o_append (s_var 4) (sa_cons (s_call (k_law_take T 4) rfl (hr.mono (by first | decide | exact Nat.le_add_right_of_le (by decide) | omega)) T.g_law_take T.F_law_take.kp (b_law_take T) (takes_of rfl rfl rfl rfl) (sa_cons (s_var 0) (sa_cons (s_var 1) sa_nil))) sa_nil))))
    (ss_one (ss_if (sb_cmp op_lt o_cmp (s_var 5) (s_var 3))
    (ss_one (ss_expr (s_bmL PySem.F.slot_list_append PySem.F.type_list_append mt_append o_append (s_var 4) (sa_cons (s_op op_modN o_mod (s_op op_add4 o_add (s_var 5) s_int) (s_var 3)) sa_nil))))
    (ss_one (ss_expr (s_bmL PySem.F.slot_list_append PySem.F.type_list_append mt_append o_append (s_var 4) (sa_cons (s_ifE (sb_cmp (op_eqD hr.units) o_eq (s_var 2) s_int) (s_op op_sub o_sub (s_var 5) s_int) (s_call (k_law_take T 4) rfl (hr.mono (by first | decide | exact Nat.le_add_right_of_le (by decide) | omega)) T.g_law_take T.F_law_take.kp (b_law_take T) (takes_of rfl rfl rfl rfl) (sa_cons (s_var 0) (sa_cons (s_var 5) sa_nil)))) sa_nil)))))))))
    (ss_one (ss_ret (s_var 4))))))
theorem b_law_mixed (T : Tx K mg) : Binds K T.d_law_mixed ["_law_box_here", "_law_found"] [] := T.F_law_mixed.binds fun _ _ _ _ _ _ us hl => match us, hl with | [_, _], _ => rfl
theorem k_law_mixed {P : Program} {w : World} {base : Heap} (T : Tx K mg) : FnOk P w K mg base (L2.CX P w) 6 T.f_law_mixed T.d_law_mixed ["_law_box_here", "_law_found"] (spF K mg 2 M_law_mixed) :=
  fn_ok T.F_law_mixed sc_law_mixed rfl fun cdv A outer s H E hr =>
    (ss_cons (ss_par (i := 2) (j := 3) rfl sc_law_mixed.nd (s_call (k_law_strewn T) rfl (hr.mono (by first | decide | exact Nat.le_add_right_of_le (by decide) | omega)) T.g_law_strewn T.F_law_strewn.kp (b_law_strewn T) (takes_of rfl rfl rfl rfl) (sa_cons (s_var 0) (sa_cons (s_listRg1 rfl (s_callB call_len4 o_len T.n_len (by decide +kernel) (sa_cons (s_var 1) sa_nil)) T.n_list T.n_range) sa_nil))) (s_op op_mul4 o_mul (s_list (sa_cons s_int sa_nil)) (s_callB call_len4 o_len T.n_len (by decide +kernel) (sa_cons (s_var 1) sa_nil))))
    (ss_cons (ss_for (passes_of rfl) rfl (si_enum T.n_enumerate (sa_cons (s_var 1) sa_nil)) (sg_tup rfl (sgs_cons (sg_name (i := 4) sc_law_mixed.nd) (sgs_cons (sg_name (i := 5) sc_law_mixed.nd) sgs_nil)))
    (ss_one (ss_put (hu_of hr) (s_var 3) (s_sub (hu_of hr) (s_var 2) (s_var 4)) (s_sub (hu_of hr) (s_var 2) (s_var 5)))))
    (ss_one (ss_ret (s_callTy call_tuple_of o_tupOf T.n_tuple (by decide +kernel) (sa_cons (s_var 3) sa_nil))))))
theorem b_law_drawn (T : Tx K mg) : Binds K T.d_law_drawn ["_law_box_here", "_law_most"] [] := T.F_law_drawn.binds fun _ _ _ _ _ _ us hl => match us, hl with | [_, _], _ => rfl
theorem k_law_drawn {P : Program} {w : World} {base : Heap} (T : Tx K mg) : FnOk P w K mg base (L2.CX P w) 7 T.f_law_drawn T.d_law_drawn ["_law_box_here", "_law_most"] (spF K mg 2 M_law_drawn) :=
  fn_ok T.F_law_drawn sc_law_drawn rfl fun cdv A outer s H E hr =>
    (ss_cons (ss_asg (s_tup (sa_cons (s_op op_add4 o_add s_int (s_call (k_law_take T 4) rfl (hr.mono (by first | decide | exact Nat.le_add_right_of_le (by decide) | omega)) T.g_law_take T.F_law_take.kp (b_law_take T) (takes_of rfl rfl rfl rfl) (sa_cons (s_var 0) (sa_cons (s_var 1) sa_nil)))) (sa_cons (s_list sa_nil) sa_nil))) (sg_tup rfl (sgs_cons (sg_name (i := 2) sc_law_drawn.nd) (sgs_cons (sg_name (i := 3) sc_law_drawn.nd) sgs_nil))))
    (ss_cons (ss_while (passes_of rfl) (sb_cmp op_lt o_cmp (s_callB call_len4 o_len T.n_len (by decide +kernel) (sa_cons (s_var 3) sa_nil)) (s_var 2))
    (ss_cons (ss_set (i := 4) sc_law_drawn.nd (s_op op_sub o_sub (s_var 2) (s_callB call_len4 o_len T.n_len (by decide +kernel) (sa_cons (s_var 3) sa_nil))))
    (ss_cons (ss_set (i := 5) sc_law_drawn.nd (s_call (k_law_part T) rfl (hr.mono (by first | decide | exact Nat.le_add_right_of_le (by decide) | omega)) T.g_law_part T.F_law_part.kp (b_law_part T) (takes_of rfl rfl rfl rfl) (sa_cons (s_var 0) (sa_cons (s_call (k_law_of T) rfl (hr.mono (by first | decide | exact Nat.le_add_right_of_le (by decide) | omega)) T.g_law_of T.F_law_of.kp (b_law_of T) (takes_of rfl rfl rfl rfl) (sa_cons (s_var 0) (sa_cons (s_list (sa_cons (s_var 4) (sa_cons (s_var 4) (sa_cons (s_op op_add4 o_add s_int (s_call (k_law_take T 4) rfl (hr.mono (by first | decide | exact Nat.le_add_right_of_le (by decide) | omega)) T.g_law_take T.F_law_take.kp (b_law_take T) (takes_of rfl rfl rfl rfl) (sa_cons (s_var 0) (sa_cons (s_var 4) sa_nil)))) sa_nil)))) sa_nil))) sa_nil))))
    (ss_one (ss_set (i := 3) sc_law_drawn.nd (s_op op_add4 o_add (s_var 3) (s_lc (own := [("_law_aim", 6)]) rfl sc_law_drawn.nd (si_of (s_var 5)) (blkOk_by (own := [("_law_aim", 6)]) (N := N_law_drawn) (sc := defScope st_law_drawn) (by decide +kernel)) (by decide) (fun _ _ _ _ _ => (sg_name (i := 6) sc_law_drawn.nd)) (fun _ _ _ _ _ => sif_nil) (fun _ _ _ _ _ => (s_op op_add4 o_add (s_callB call_len4 o_len T.n_len (by decide +kernel) (sa_cons (s_var 3) sa_nil)) (s_var 6))))))))))
    (ss_one (ss_ret (s_call (k_law_mixed T) rfl (hr.mono (by first | decide | exact Nat.le_add_right_of_le (by decide) | omega)) T.g_law_mixed T.F_law_mixed.kp (b_law_mixed T) (takes_of rfl rfl rfl rfl) (sa_cons (s_var 0) (sa_cons (s_var 3) sa_nil)))))))
theorem b_law_odd (T : Tx K mg) : Binds K T.d_law_odd ["_law_box_here"] [] := T.F_law_odd.binds fun _ _ _ _ _ _ us hl => match us, hl with | [_], _ => rfl
theorem k_law_odd {P : Program} {w : World} {base : Heap} (T : Tx K mg) : FnOk P w K mg base (L2.CX P w) 6 T.f_law_odd T.d_law_odd ["_law_box_here"] (spF K mg 1 M_law_odd) :=
  fn_ok T.F_law_odd sc_law_odd rfl fun cdv A outer s H E hr =>
    (ss_cons (ss_set (i := 1) sc_law_odd.nd (s_list (sa_cons s_non (sa_cons s_bl (sa_cons s_bl (sa_cons s_int (sa_cons s_int (sa_cons (s_un un_neg o_neg s_int) (sa_cons (s_op op_pow o_pow s_int s_int) (sa_cons s_str (sa_cons s_str (sa_cons s_str (sa_cons (s_tup sa_nil) (sa_cons (s_list sa_nil) (sa_cons (s_tup (sa_cons s_int sa_nil)) (sa_cons (s_list (sa_cons s_int sa_nil)) (sa_cons (s_tup (sa_cons s_bl sa_nil)) (sa_cons (s_tup (sa_cons s_bl sa_nil)) (sa_cons (s_tup (sa_cons s_int sa_nil)) (sa_cons (s_tup (sa_cons s_non sa_nil)) sa_nil))))))))))))))))))))
    (ss_cons (ss_set (i := 1) sc_law_odd.nd (s_op op_add4 o_add (s_var 1) (s_list (sa_cons (s_tup (sa_cons s_int (sa_cons s_int (sa_cons s_int sa_nil)))) (sa_cons (s_tup (sa_cons s_int (sa_cons s_str sa_nil))) (sa_cons (s_tup (sa_cons (s_tup (sa_cons s_int sa_nil)) sa_nil)) (sa_cons (s_tup (sa_cons (s_tup sa_nil) sa_nil)) (sa_cons (s_tup (sa_cons (s_list sa_nil) sa_nil)) (sa_cons (s_tup (sa_cons s_int (sa_cons (s_tup (sa_cons s_int sa_nil)) sa_nil))) (sa_cons (s_list (sa_cons (s_list (sa_cons s_int sa_nil)) (sa_cons (s_list (sa_cons s_int sa_nil)) sa_nil))) (sa_cons (s_tup (sa_cons (s_un un_neg o_neg s_int) (sa_cons s_int sa_nil))) (sa_cons (s_tup (sa_cons s_int (sa_cons s_int sa_nil))) (sa_cons (s_tup (sa_cons s_int (sa_cons s_int (sa_cons s_int sa_nil)))) sa_nil)))))))))))))
    (ss_one (ss_ret (s_call (k_law_of T) rfl (hr.mono (by first | decide | exact Nat.le_add_right_of_le (by decide) | omega)) T.g_law_of T.F_law_of.kp (b_law_of T) (takes_of rfl rfl rfl rfl) (sa_cons (s_var 0) (sa_cons (s_var 1) sa_nil)))))))
theorem b_law_bent (T : Tx K mg) : Binds K T.d_law_bent ["_law_box_here", "_law_matter"] [] := T.F_law_bent.binds fun _ _ _ _ _ _ us hl => match us, hl with | [_, _], _ => rfl
theorem k_law_bent {P : Program} {w : World} {base : Heap} (T : Tx K mg) : ∀ d, FnOk P w K mg base (L2.CX P w) (6 + d) T.f_law_bent T.d_law_bent ["_law_box_here", "_law_matter"] (spF K mg 2 (M_law_bent d))
  | 0 => fn_never
  | d + 1 =>
    have ih : FnOk P w K mg base (L2.CX P w) (6 + d) T.f_law_bent T.d_law_bent ["_law_box_here", "_law_matter"] (spF K mg 2 (M_law_bent d)) := k_law_bent T d
    fn_ok T.F_law_bent sc_law_bent rfl fun cdv A outer s H E hr =>
    (ss_cons (ss_set (i := 2) sc_law_bent.nd (s_call (k_law_take T 4) rfl (hr.mono (by first | decide | exact Nat.le_add_right_of_le (by decide) | omega)) T.g_law_take T.F_law_take.kp (b_law_take T) (takes_of rfl rfl rfl rfl) (sa_cons (s_var 0) (sa_cons s_int sa_nil))))
    (ss_cons (ss_if (sb_w (sw_and (sb_truth (s_isi ty_int (s_var 1) T.n_isinstance T.n_int (by decide +kernel))) (sw_and (sb_not (sb_truth (s_isi ty_bool (s_var 1) T.n_isinstance T.n_bool (by decide +kernel)))) (sw_and1 (sb_cmp op_lt o_cmp (s_var 2) s_int)))))
    (ss_one (ss_ret (s_sub (hu_of hr) (s_list (sa_cons (s_op op_add4 o_add (s_var 1) s_int) (sa_cons (s_op op_sub o_sub (s_var 1) s_int) (sa_cons (s_op op_sub o_sub s_int (s_var 1)) (sa_cons (s_cmp (op_eqD hr.units) o_eq (s_var 1) s_int) (sa_cons (s_callTy call_str_int o_strI T.n_str (by decide +kernel) (sa_cons (s_var 1) sa_nil)) sa_nil)))))) (s_var 2))))
    ss_nil)
    (ss_cons (ss_if (sb_w (sw_or (sb_not (sb_truth (s_isi2 ty_list ty_tuple (s_var 1) T.n_isinstance T.n_list (by decide +kernel) T.n_tuple (by decide +kernel)))) (sw_or (sb_cmp (op_eqD hr.units) o_eq (s_callB call_len4 o_len T.n_len (by decide +kernel) (sa_cons (s_var 1) sa_nil)) s_int) (sw_or1 (sb_cmp (op_eqD hr.units) o_eq (s_var 2) s_int)))))
    (ss_one (ss_ret (s_call (k_law_odd T) rfl (hr.mono (by first | decide | exact Nat.le_add_right_of_le (by decide) | omega)) T.g_law_odd T.F_law_odd.kp (b_law_odd T) (takes_of rfl rfl rfl rfl) (sa_cons (s_var 0) sa_nil))))
    ss_nil)
    (ss_cons (ss_par (i := 3) (j := 4) rfl sc_law_bent.nd (s_callTy (call_listOf rfl) o_listOf T.n_list (by decide +kernel) (sa_cons (s_var 1) sa_nil)) (s_call (k_law_take T 4) rfl (hr.mono (by first | decide | exact Nat.le_add_right_of_le (by decide) | omega)) T.g_law_take T.F_law_take.kp (b_law_take T) (takes_of rfl rfl rfl rfl) (sa_cons (s_var 0) (sa_cons (s_callB call_len4 o_len T.n_len (by decide +kernel) (sa_cons (s_var 1) sa_nil)) sa_nil))))
    (ss_cons (ss_if (sb_cmp (op_eqD hr.units) o_eq (s_var 2) s_int)
    (ss_one (ss_ret (s_ifE (sb_truth (s_isi ty_list (s_var 1) T.n_isinstance T.n_list (by decide +kernel))) (s_callTy call_tuple_of o_tupOf T.n_tuple (by decide +kernel) (sa_cons (s_var 3) sa_nil)) (s_var 3))))
    ss_nil)
    (ss_cons (ss_if (sb_cmp (op_eqD hr.units) o_eq (s_var 2) s_int)
    (ss_one (ss_set (i := 3) sc_law_bent.nd (s_op op_add4 o_add (s_slice (s_var 3) so_none (so_some (s_var 4))) (s_slice (s_var 3) (so_some (s_op op_add4 o_add (s_var 4) s_int)) so_none))))
    (ss_one (ss_if (sb_cmp (op_eqD hr.units) o_eq (s_var 2) s_int)
    (ss_one (ss_set (i := 3) sc_law_bent.nd (s_op op_add4 o_add (s_slice (s_var 3) so_none (so_some (s_op op_add4 o_add (s_var 4) s_int))) (s_slice (s_var 3) (so_some (s_var 4)) so_none))))
    (ss_one (ss_put (hu_of hr) (s_var 3) (s_var 4) (s_call ih rfl hr T.g_law_bent T.F_law_bent.kp (b_law_bent T) (takes_of rfl rfl rfl rfl) (sa_cons (s_var 0) (sa_cons (s_sub (hu_of hr) (s_var 3) (s_var 4)) sa_nil))))))))
    (ss_one (ss_ret (s_ifE (sb_truth (s_isi ty_tuple (s_var 1) T.n_isinstance T.n_tuple (by decide +kernel))) (s_callTy call_tuple_of o_tupOf T.n_tuple (by decide +kernel) (sa_cons (s_var 3) sa_nil)) (s_var 3))))))))))
theorem b_law_is_due (T : Tx K mg) : Binds K T.d_law_is_due ["_law_matter"] [] := T.F_law_is_due.binds fun _ _ _ _ _ _ us hl => match us, hl with | [_], _ => rfl
theorem k_law_is_due {P : Program} {w : World} {base : Heap} (T : Tx K mg) : FnOk P w K mg base (L2.CX P w) 1 T.f_law_is_due T.d_law_is_due ["_law_matter"] (spF K mg 1 M_law_is_due) :=
  fn_ok T.F_law_is_due sc_law_is_due rfl fun cdv A outer s H E hr =>
    (ss_cons (ss_if (sb_w (sw_or (sb_not (sb_truth (s_isi ty_tuple (s_var 0) T.n_isinstance T.n_tuple (by decide +kernel)))) (sw_or1 (sb_cmp (op_eqD hr.units) o_eq (s_callB call_len4 o_len T.n_len (by decide +kernel) (sa_cons (s_var 0) sa_nil)) s_int))))
    (ss_one (ss_ret s_bl))
    ss_nil)
    (ss_cons (ss_if (sb_not (sb_truth (s_callB (cr_all rfl) o_all T.n_all (by decide +kernel) (sa_cons (s_lc (own := [("_law_aim", 1)]) rfl sc_law_is_due.nd (si_of (s_var 0)) (blkOk_by (own := [("_law_aim", 1)]) (N := N_law_is_due) (sc := defScope st_law_is_due) (by decide +kernel)) (by decide) (fun _ _ _ _ _ => (sg_name (i := 1) sc_law_is_due.nd)) (fun _ _ _ _ _ => sif_nil) (fun _ _ _ _ _ => (s_and (s_isi ty_int (s_var 1) T.n_isinstance T.n_int (by decide +kernel)) (s_one (s_not (s_isi ty_bool (s_var 1) T.n_isinstance T.n_bool (by decide +kernel))))))) sa_nil))))
    (ss_one (ss_ret s_bl))
    ss_nil)
    (ss_one (ss_ret (s_callB (cr_all rfl) o_all T.n_all (by decide +kernel) (sa_cons (s_lc (own := [("_law_aim", 1)]) rfl sc_law_is_due.nd (si_of (s_var 0)) (blkOk_by (own := [("_law_aim", 1)]) (N := N_law_is_due) (sc := defScope st_law_is_due) (by decide +kernel)) (by decide) (fun _ _ _ _ _ => (sg_name (i := 1) sc_law_is_due.nd)) (fun _ _ _ _ _ => sif_nil) (fun _ _ _ _ _ => (s_chain op_le op_lt o_cmp o_cmp s_int (s_var 1) (s_callB call_len4 o_len T.n_len (by decide +kernel) (sa_cons (s_var 0) sa_nil))))) sa_nil))))))
theorem b_law_right (T : Tx K mg) : Binds K T.d_law_right ["_law_box_here"] [] := T.F_law_right.binds fun _ _ _ _ _ _ us hl => match us, hl with | [_], _ => rfl
theorem k_law_right {P : Program} {w : World} {base : Heap} (T : Tx K mg) : FnG P w K mg base 13 T.f_law_right T.d_law_right ["_law_box_here"] (spF K mg 1 M_law_right) :=
  fn_okG T.F_law_right sc_law_right rfl fun cdv A outer s H E gd hr =>
    (ss_cons (ss_set (i := 1) sc_law_right.nd (s_call (k_law_drawn T) rfl (hr.mono (by first | decide | exact Nat.le_add_right_of_le (by decide) | omega)) T.g_law_drawn T.F_law_drawn.kp (b_law_drawn T) (takes_of rfl rfl rfl rfl) (sa_cons (s_var 0) (sa_cons s_int sa_nil))))
    (ss_cons (ss_set (i := 2) sc_law_right.nd (s_list (sa_cons (s_var 1) (sa_cons (s_callTy (call_listOf rfl) o_listOf T.n_list (by decide +kernel) (sa_cons (s_var 1) sa_nil)) (sa_cons (s_op op_mul6 o_mul6 (s_tup (sa_cons s_int sa_nil)) s_int) (sa_cons (s_tupRg1 rfl s_int T.n_tuple T.n_range) (sa_cons (s_op op_add4 o_add (s_tupRg3 rfl (sa_cons s_int (sa_cons (s_un un_neg o_neg s_int) (sa_cons (s_un un_neg o_neg s_int) sa_nil))) T.n_tuple T.n_range) (s_tup (sa_cons s_int sa_nil))) sa_nil)))))))
    (ss_cons (ss_set (i := 2) sc_law_right.nd (s_op op_add4 o_add (s_var 2) (s_lc (own := [("_law_turn", 3)]) rfl sc_law_right.nd (si_range1 T.n_range (sa_cons s_int sa_nil)) (blkOk_by (own := [("_law_turn", 3)]) (N := N_law_right) (sc := defScope st_law_right) (by decide +kernel)) (by decide) (fun _ _ _ _ _ => (sg_name (i := 3) sc_law_right.nd)) (fun _ _ _ _ _ => sif_nil) (fun _ _ _ _ _ => (s_call (k_law_odd T) rfl (hr.mono (by first | decide | exact Nat.le_add_right_of_le (by decide) | omega)) T.g_law_odd T.F_law_odd.kp (b_law_odd T) takes0 (sa_cons (s_var 0) sa_nil))))))
    (ss_cons (ss_for (passes_of rfl) rfl (si_range1 T.n_range (sa_cons s_int sa_nil)) (sg_name (i := 3) sc_law_right.nd)
    (ss_cons (ss_set (i := 4) sc_law_right.nd (s_call (k_law_bent T 6) rfl (hr.mono (by first | decide | exact Nat.le_add_right_of_le (by decide) | omega)) T.g_law_bent T.F_law_bent.kp (b_law_bent T) (takes_of rfl rfl rfl rfl) (sa_cons (s_var 0) (sa_cons (s_var 1) sa_nil))))
    (ss_one (ss_expr (s_bmL PySem.F.slot_list_append PySem.F.type_list_append mt_append o_append (s_var 2) (sa_cons (s_ifE (sb_cmp (op_eqD hr.units) o_eq (s_call (k_law_take T 4) rfl (hr.mono (by first | decide | exact Nat.le_add_right_of_le (by decide) | omega)) T.g_law_take T.F_law_take.kp (b_law_take T) (takes_of rfl rfl rfl rfl) (sa_cons (s_var 0) (sa_cons s_int sa_nil))) s_int) (s_call (k_law_bent T 6) rfl (hr.mono (by first | decide | exact Nat.le_add_right_of_le (by decide) | omega)) T.g_law_bent T.F_law_bent.kp (b_law_bent T) (takes_of rfl rfl rfl rfl) (sa_cons (s_var 0) (sa_cons (s_var 4) sa_nil))) (s_var 4)) sa_nil))))))
    (ss_cons (ss_for (passes_of rfl) rfl (si_of (s_var 2)) (sg_name (i := 5) sc_law_right.nd)
    (ss_cons (ss_par (i := 6) (j := 7) rfl sc_law_right.nd (s_callB (call_reprA gd (hu65 hr)) o_reprA T.n_repr (by decide +kernel) (sa_cons (s_var 5) sa_nil)) (s_call (k_law_is_due T) rfl (hr.mono (by first | decide | exact Nat.le_add_right_of_le (by decide) | omega)) T.g_law_is_due T.F_law_is_due.kp (b_law_is_due T) (takes_of rfl rfl rfl rfl) (sa_cons (s_var 5) sa_nil)))
    (ss_one (ss_if (sb_w (sw_or (sb_not (sb_truth (s_call (k_law_same T 6) rfl (hr.mono (by first | decide | exact Nat.le_add_right_of_le (by decide) | omega)) T.g_law_same T.F_law_same.kp (b_law_same T) (takes_of rfl rfl rfl rfl) (sa_cons (s_list (sa_cons (s_call (k_is_state T) rfl (hr.mono (by first | decide | exact Nat.le_add_right_of_le (by decide) | omega)) T.g_is_state T.F_is_state.kp (b_is_state T) (takes_of rfl rfl rfl rfl) (sa_cons (s_var 5) sa_nil)) (sa_cons (s_callK0 (k_is_state T) (hr.mono (by first | decide | exact Nat.le_add_right_of_le (by decide) | omega)) T.g_is_state T.F_is_state.kp (T.F_is_state.kbn [0] (nn := 0) (ks := ["value"]) fun _ _ _ _ _ _ us ws l1 l2 => match us, ws, l1, l2 with | [], [_], _, _ => rfl) (takes_of rfl rfl rfl rfl) (sk_cons (s_var 5) sk_nil)) sa_nil))) (sa_cons (s_list (sa_cons (s_var 7) (sa_cons (s_var 7) sa_nil))) sa_nil))))) (sw_or1 (sb_cmp (op_neD hr.units) o_ne (s_callB (call_reprA gd (hu65 hr)) o_reprA T.n_repr (by decide +kernel) (sa_cons (s_var 5) sa_nil)) (s_var 6)))))
    (ss_one (ss_ret s_bl))
    ss_nil))))
    (ss_one (ss_ret s_bl)))))))
theorem b_law (T : Tx K mg) : Binds K T.d_law ["_law_script"] [] := T.F_law.binds fun _ _ _ _ _ _ us hl => match us, hl with | [_], _ => rfl
theorem k_law {P : Program} {w : World} {base : Heap} (T : Tx K mg) : FnG P w K mg base 14 T.f_law T.d_law ["_law_script"] (spF K mg 1 M_law) :=
  fn_okG T.F_law sc_law rfl fun cdv A outer s H E gd hr =>
    (ss_cons (ss_set (i := 1) sc_law.nd (s_call (k_law_cells T) rfl (hr.mono (by first | decide | exact Nat.le_add_right_of_le (by decide) | omega)) T.g_law_cells T.F_law_cells.kp (b_law_cells T) (takes_of rfl rfl rfl rfl) (sa_cons (s_var 0) (sa_cons s_int sa_nil))))
    (ss_cons (ss_for (passes_of rfl) rfl (si_range1 T.n_range (sa_cons (s_callB call_len4 o_len T.n_len (by decide +kernel) (sa_cons (s_var 1) sa_nil)) sa_nil)) (sg_name (i := 2) sc_law.nd)
    (ss_cons (ss_set (i := 3) sc_law.nd (s_call (k_law_box T) rfl (hr.mono (by first | decide | exact Nat.le_add_right_of_le (by decide) | omega)) T.g_law_box T.F_law_box.kp (b_law_box T) (takes_of rfl rfl rfl rfl) (sa_cons (s_var 1) (sa_cons (s_var 2) sa_nil))))
    (ss_one (ss_if (sb_not (sb_truth (s_callB (cr_all rfl) o_all T.n_all (by decide +kernel) (sa_cons (s_lc (own := [("_law_turn", 4)]) rfl sc_law.nd (si_range1 T.n_range (sa_cons s_int sa_nil)) (blkOk_by (own := [("_law_turn", 4)]) (N := N_law) (sc := defScope st_law) (by decide +kernel)) (by decide) (fun _ _ _ _ _ => (sg_name (i := 4) sc_law.nd)) (fun _ _ _ _ _ => sif_nil) (fun _ _ _ _ _ => (s_callG gd (k_law_right T) rfl (hr.mono (by first | decide | exact Nat.le_add_right_of_le (by decide) | omega)) T.g_law_right T.F_law_right.kp (b_law_right T) takes0 (sa_cons (s_var 3) sa_nil)))) sa_nil))))
    (ss_one (ss_ret s_bl))
    ss_nil))))
    (ss_one (ss_ret s_bl))))
end
/-! ### the pure readings -/
noncomputable def q_is_integer : List D → FO := qFn 0 (qRet (qAnd (q1 (qVar 0) (gIsi ["int"])) (qNot (q1 (qVar 0) (gIsi ["bool"])))))
noncomputable def q_is_person : List D → FO := qFn 0 (qRet (qAnd (qCall 1 false true (qCons (qVar 0) qNil) q_is_integer) (qChain (qC (.int 0)) (qVar 0) (qVar 1) gLe gLt)))
noncomputable def q_is_state : List D → FO := qFn 1 (qRet (qAnd (q1 (qVar 0) (gIsi ["tuple"])) (qAnd (q2 (qL (qCons (qVar 0) qNil) gLen) (qC (.int 0)) gGt) (qL (qCons (qLc0 (qiOf (qVar 0)) (qNm 1) qYes (qCall 2 false true (qCons (qVar 1) (qCons (qL (qCons (qVar 0) qNil) gLen) qNil)) q_is_person) [1]) qNil) gAll))))
noncomputable def q_law_take : Nat → List D → FO
  | 0 => fun _ => .fail
  | d + 1 => qFnB 2 (qSeq (qIfS (qB (q2 (q2 (qVar 0) (qC (.int 0)) gSub1) (qC (.int 0)) gGt))
  (qSeq (qSet 2 (q2 (q2 (qVar 0) (qC (.int 0)) gSub1) (qVar 1) gMod))
  (qSeq (qPut 0 (qC (.int 0)) (q2 (q2 (qVar 0) (qC (.int 0)) gSub1) (qVar 1) gDiv))
  (qRet (qVar 2))))
  qNext)
  (qSeq (qIfS (qB (q2 (qVar 1) (q2 (qC (.int 10)) (qC (.int 7)) gPow) gGt))
  (qRet (q2 (q2 (qCallB 2 false false 0 (qCons (q2 (qC (.int 10)) (qC (.int 7)) gPow) qNil) (q_law_take d)) (q2 (q2 (qC (.int 10)) (qC (.int 7)) gPow) (qCallB 2 false false 0 (qCons (q2 (q2 (q2 (qVar 1) (qC (.int 1)) gSub) (q2 (qC (.int 10)) (qC (.int 7)) gPow) gDiv) (qC (.int 1)) gAdd) qNil) (q_law_take d)) gMul) gAdd) (qVar 1) gMod))
  qNext)
  (qSeq (qPut 0 (qC (.int 2)) (q2 (q2 (qVar 0) (qC (.int 2)) gSub1) (qC (.int 1)) gAdd))
  (qSeq (qSet 3 (q2 (q2 (q2 (q2 (qVar 0) (qC (.int 1)) gSub1) (q2 (qC (.int 39373)) (q2 (qVar 0) (qC (.int 2)) gSub1) gMul) gAdd) (qC (.int 5)) gPow) (qC (.int 2147483647)) gMod))
  (qRet (q2 (q2 (q2 (q2 (q2 (qVar 3) (q2 (q2 (qVar 3) (qC (.int 40009)) gMod) (qC (.int 7)) gAdd) gMul) (q2 (q2 (qVar 0) (qC (.int 2)) gSub1) (qC (.int 7919)) gMul) gAdd) (qC (.int 2147483629)) gMod) (qC (.int 64)) gDiv) (qVar 1) gMod))))))
noncomputable def q_law_of : List D → FO := qFnB 0 (qRet (q2 (qVar 1) (qCallB 2 false false 0 (qCons (qL (qCons (qVar 1) qNil) gLen) qNil) (q_law_take 4)) gSub1))
noncomputable def q_law_strewn : List D → FO := qFnB 2 (qSeq (qPar [2, 3] (qCons (qL (qCons (qVar 1) qNil) gListOf) (qCons (qL qNil gList) qNil)))
  (qSeq (qWhile (qB (q2 (qVar 2) (qL qNil gList) gNe))
  (qWS 3 (qCons (qW 2 (qCons (qCallB 2 false false 0 (qCons (qL (qCons (qVar 2) qNil) gLen) qNil) (q_law_take 4)) qNil) gPop) qNil) gAppend))
  (qRet (qVar 3))))
noncomputable def q_law_same : Nat → List D → FO
  | 0 => fun _ => .fail
  | d + 1 => qFn 2 (qSeq (qIfS (qT (q1 (qVar 1) (gIsi ["list", "tuple"])))
  (qSeq (qIfS (qbOr (qB (q2 (q1 (qVar 0) (gIsi ["list"])) (q1 (qVar 1) (gIsi ["list"])) gNe)) (qB (q2 (q1 (qVar 0) (gIsi ["tuple"])) (q1 (qVar 1) (gIsi ["tuple"])) gNe)))
  (qRet (qC (.bl false)))
  qNext)
  (qRet (qAnd (q2 (qL (qCons (qVar 0) qNil) gLen) (qL (qCons (qVar 1) qNil) gLen) gEq) (qL (qCons (qLc0 (qiSt qzip (qCons (qVar 0) (qCons (qVar 1) qNil))) (qTp 2 (qCn (qNm 2) (qCn (qNm 3) qNl))) qYes (qCall 2 false true (qCons (qVar 2) (qCons (qVar 3) qNil)) (q_law_same d)) [2, 3]) qNil) gAll))))
  qNext)
  (qSeq (qIfS (qbOr (qB (q2 (qVar 1) (qC .non) gIsN)) (qT (q1 (qVar 1) (gIsi ["str", "bool"]))))
  (qRet (qAnd (q2 (qVar 0) (qVar 1) gEq) (qAnd (q2 (q1 (qVar 0) (gIsi ["bool"])) (q1 (qVar 1) (gIsi ["bool"])) gEq) (q2 (q2 (qVar 0) (qC .non) gIsN) (q2 (qVar 1) (qC .non) gIsN) gEq))))
  qNext)
  (qRet (qAnd (q1 (qVar 0) (gIsi ["int"])) (qAnd (qNot (q1 (qVar 0) (gIsi ["bool"]))) (q2 (qVar 0) (qVar 1) gEq))))))
noncomputable def q_law_part : List D → FO := qFnB 4 (qSeq (qSet 2 (qCallB 2 false false 0 (qCons (qC (.int 5)) qNil) (q_law_take 4)))
  (qSeq (qPar [3, 4] (qCons (q2 (qL (qCons (qC (.int 0)) (qCons (qC (.int 1)) (qCons (qVar 1) (qCons (q2 (qC (.int 1)) (qCallB 2 false false 0 (qCons (qVar 1) qNil) (q_law_take 4)) gAdd) (qCons (qC (.int 1)) qNil))))) gList) (qVar 2) gSub1) (qCons (qL qNil gList) qNil)))
  (qSeq (qFor (qiRg qrng1 (qCons (qVar 1) qNil)) (qNm 5)
  (qIfS (qB (q2 (qVar 2) (qC (.int 0)) gEq))
  (qWS 4 (qCons (qCallB 2 false false 0 (qCons (qVar 1) qNil) (q_law_take 4)) qNil) gAppend)
  (qIfS (qB (q2 (qVar 5) (qVar 3) gLt))
  (qWS 4 (qCons (q2 (q2 (qVar 5) (qC (.int 1)) gAdd) (qVar 3) gMod) qNil) gAppend)
  (qWS 4 (qCons (qIf (qB (q2 (qVar 2) (qC (.int 4)) gEq)) (q2 (qVar 5) (qC (.int 1)) gSub) (qCallB 2 false false 0 (qCons (qVar 5) qNil) (q_law_take 4))) qNil) gAppend))))
  (qRet (qVar 4)))))
noncomputable def q_law_mixed : List D → FO := qFnB 4 (qSeq (qPar [2, 3] (qCons (qCallB 2 false true 0 (qCons (q1 (qL (qCons (qVar 1) qNil) gLen) gListRg1) qNil) q_law_strewn) (qCons (q2 (qL (qCons (qC (.int 0)) qNil) gList) (qL (qCons (qVar 1) qNil) gLen) gMul) qNil)))
  (qSeq (qFor (qiSt qenm (qCons (qVar 1) qNil)) (qTp 2 (qCn (qNm 4) (qCn (qNm 5) qNl)))
  (qPut 3 (q2 (qVar 2) (qVar 4) gSub1) (q2 (qVar 2) (qVar 5) gSub1)))
  (qRet (qL (qCons (qVar 3) qNil) gTupOf))))
noncomputable def q_law_drawn : List D → FO := qFnB 5 (qSeq (qAsg (qTp 2 (qCn (qNm 2) (qCn (qNm 3) qNl))) (qL (qCons (q2 (qC (.int 1)) (qCallB 2 false false 0 (qCons (qVar 1) qNil) (q_law_take 4)) gAdd) (qCons (qL qNil gList) qNil)) gTup))
  (qSeq (qWhile (qB (q2 (qL (qCons (qVar 3) qNil) gLen) (qVar 2) gLt))
  (qSeq (qSet 4 (q2 (qVar 2) (qL (qCons (qVar 3) qNil) gLen) gSub))
  (qSeq (qSet 5 (qCallB 2 false true 0 (qCons (qCallB 2 false false 0 (qCons (qL (qCons (qVar 4) (qCons (qVar 4) (qCons (q2 (qC (.int 1)) (qCallB 2 false false 0 (qCons (qVar 4) qNil) (q_law_take 4)) gAdd) qNil))) gList) qNil) q_law_of) qNil) q_law_part))
  (qSet 3 (q2 (qVar 3) (qLc0 (qiOf (qVar 5)) (qNm 6) qYes (q2 (qL (qCons (qVar 3) qNil) gLen) (qVar 6) gAdd) [6]) gAdd)))))
  (qRet (qCallB 2 false true 0 (qCons (qVar 3) qNil) q_law_mixed))))
noncomputable def q_law_odd : List D → FO := qFnB 1 (qSeq (qSet 1 (qL (qCons (qC .non) (qCons (qC (.bl true)) (qCons (qC (.bl false)) (qCons (qC (.int 0)) (qCons (qC (.int 1)) (qCons (q1 (qC (.int 1)) gNeg) (qCons (q2 (qC (.int 10)) (qC (.int 30)) gPow) (qCons (qC (.str ("" : Str))) (qCons (qC (.str ("0" : Str))) (qCons (qC (.str ("(0,)" : Str))) (qCons (qL qNil gTup) (qCons (qL qNil gList) (qCons (qL (qCons (qC (.int 0)) qNil) gTup) (qCons (qL (qCons (qC (.int 0)) qNil) gList) (qCons (qL (qCons (qC (.bl true)) qNil) gTup) (qCons (qL (qCons (qC (.bl false)) qNil) gTup) (qCons (qL (qCons (qC (.int 1)) qNil) gTup) (qCons (qL (qCons (qC .non) qNil) gTup) qNil)))))))))))))))))) gList))
  (qSeq (qSet 1 (q2 (qVar 1) (qL (qCons (qL (qCons (qC (.int 0)) (qCons (qC (.int 0)) (qCons (qC (.int 3)) qNil))) gTup) (qCons (qL (qCons (qC (.int 0)) (qCons (qC (.str ("1" : Str))) qNil)) gTup) (qCons (qL (qCons (qL (qCons (qC (.int 0)) qNil) gTup) qNil) gTup) (qCons (qL (qCons (qL qNil gTup) qNil) gTup) (qCons (qL (qCons (qL qNil gList) qNil) gTup) (qCons (qL (qCons (qC (.int 0)) (qCons (qL (qCons (qC (.int 1)) qNil) gTup) qNil)) gTup) (qCons (qL (qCons (qL (qCons (qC (.int 0)) qNil) gList) (qCons (qL (qCons (qC (.int 1)) qNil) gList) qNil)) gList) (qCons (qL (qCons (q1 (qC (.int 1)) gNeg) (qCons (qC (.int 0)) qNil)) gTup) (qCons (qL (qCons (qC (.int 2)) (qCons (qC (.int 1)) qNil)) gTup) (qCons (qL (qCons (qC (.int 0)) (qCons (qC (.int 1)) (qCons (qC (.int 2)) qNil))) gTup) qNil)))))))))) gList) gAdd))
  (qRet (qCallB 2 false false 0 (qCons (qVar 1) qNil) q_law_of))))
noncomputable def q_law_bent : Nat → List D → FO
  | 0 => fun _ => .fail
  | d + 1 => qFnB 3 (qSeq (qSet 2 (qCallB 2 false false 0 (qCons (qC (.int 8)) qNil) (q_law_take 4)))
  (qSeq (qIfS (qbAnd (qT (q1 (qVar 1) (gIsi ["int"]))) (qbAnd (qbNot (qT (q1 (qVar 1) (gIsi ["bool"])))) (qB (q2 (qVar 2) (qC (.int 5)) gLt))))
  (qRet (q2 (qL (qCons (q2 (qVar 1) (qC (.int 1)) gAdd) (qCons (q2 (qVar 1) (qC (.int 1)) gSub) (qCons (q2 (qC (.int 0)) (qVar 1) gSub) (qCons (q2 (qVar 1) (qC (.int 1)) gEq) (qCons (qL (qCons (qVar 1) qNil) gStrI) qNil))))) gList) (qVar 2) gSub1))
  qNext)
  (qSeq (qIfS (qbOr (qbNot (qT (q1 (qVar 1) (gIsi ["list", "tuple"])))) (qbOr (qB (q2 (qL (qCons (qVar 1) qNil) gLen) (qC (.int 0)) gEq)) (qB (q2 (qVar 2) (qC (.int 0)) gEq))))
  (qRet (qCallB 1 false false 0 qNil q_law_odd))
  qNext)
  (qSeq (qPar [3, 4] (qCons (qL (qCons (qVar 1) qNil) gListOf) (qCons (qCallB 2 false false 0 (qCons (qL (qCons (qVar 1) qNil) gLen) qNil) (q_law_take 4)) qNil)))
  (qSeq (qIfS (qB (q2 (qVar 2) (qC (.int 1)) gEq))
  (qIfS (qT (q1 (qVar 1) (gIsi ["list"])))
  (qRet (qL (qCons (qVar 3) qNil) gTupOf))
  (qRet (qVar 3)))
  qNext)
  (qSeq (qIfS (qB (q2 (qVar 2) (qC (.int 2)) gEq))
  (qSetR 3 (q2 (qCut (qVar 3) (qC .non) (qOnly (qVar 4))) (qCut (qVar 3) (qOnly (q2 (qVar 4) (qC (.int 1)) gAdd)) (qC .non)) gAdd))
  (qIfS (qB (q2 (qVar 2) (qC (.int 3)) gEq))
  (qSetR 3 (q2 (qCut (qVar 3) (qC .non) (qOnly (q2 (qVar 4) (qC (.int 1)) gAdd))) (qCut (qVar 3) (qOnly (qVar 4)) (qC .non)) gAdd))
  (qPut 3 (qVar 4) (qCallB 2 false false 0 (qCons (q2 (qVar 3) (qVar 4) gSub1) qNil) (q_law_bent d)))))
  (qIfS (qT (q1 (qVar 1) (gIsi ["tuple"])))
  (qRet (qL (qCons (qVar 3) qNil) gTupOf))
  (qRet (qVar 3)))))))))
noncomputable def q_law_is_due : List D → FO := qFn 1 (qSeq (qIfS (qbOr (qbNot (qT (q1 (qVar 0) (gIsi ["tuple"])))) (qB (q2 (qL (qCons (qVar 0) qNil) gLen) (qC (.int 0)) gEq)))
  (qRet (qC (.bl false)))
  qNext)
  (qSeq (qIfS (qbNot (qT (qL (qCons (qLc0 (qiOf (qVar 0)) (qNm 1) qYes (qAnd (q1 (qVar 1) (gIsi ["int"])) (qNot (q1 (qVar 1) (gIsi ["bool"])))) [1]) qNil) gAll)))
  (qRet (qC (.bl false)))
  qNext)
  (qRet (qL (qCons (qLc0 (qiOf (qVar 0)) (qNm 1) qYes (qChain (qC (.int 0)) (qVar 1) (qL (qCons (qVar 0) qNil) gLen) gLe gLt) [1]) qNil) gAll))))
noncomputable def q_law_right : List D → FO := qFnB 7 (qSeq (qSet 1 (qCallB 2 false true 0 (qCons (qC (.int 12)) qNil) q_law_drawn))
  (qSeq (qSetR 2 (qL (qCons (qVar 1) (qCons (qL (qCons (qVar 1) qNil) gListOf) (qCons (q2 (qL (qCons (qC (.int 0)) qNil) gTup) (qC (.int 41)) gMul6) (qCons (q1 (qC (.int 60)) gTupRg1) (qCons (q2 (qL (qCons (qC (.int 59)) (qCons (q1 (qC (.int 1)) gNeg) (qCons (q1 (qC (.int 1)) gNeg) qNil))) gTupRg3) (qL (qCons (qC (.int 61)) qNil) gTup) gAdd) qNil))))) gList))
  (qSeq (qSetR 2 (q2 (qVar 2) (qLc (qiRg qrng1 (qCons (qC (.int 6)) qNil)) (qNm 3) qYes (qCallB 1 false false 0 qNil q_law_odd) [3]) gAdd))
  (qSeq (qFor (qiRg qrng1 (qCons (qC (.int 12)) qNil)) (qNm 3)
  (qSeq (qSet 4 (qCallB 2 false false 0 (qCons (qVar 1) qNil) (q_law_bent 6)))
  (qWS 2 (qCons (qIf (qB (q2 (qCallB 2 false false 0 (qCons (qC (.int 3)) qNil) (q_law_take 4)) (qC (.int 0)) gEq)) (qCallB 2 false false 0 (qCons (qVar 4) qNil) (q_law_bent 6)) (qVar 4)) qNil) gAppend)))
  (qSeq (qFor (qiOf (qVar 2)) (qNm 5)
  (qSeq (qPar [6, 7] (qCons (qL (qCons (qVar 5) qNil) gReprA) (qCons (qCall 1 false true (qCons (qVar 5) qNil) q_law_is_due) qNil)))
  (qIfS (qbOr (qbNot (qT (qCall 2 false true (qCons (qL (qCons (qCall 1 false true (qCons (qVar 5) qNil) q_is_state) (qCons (qCallK 0 1 [0] false true qNil (qCons (qVar 5) qNil) q_is_state) qNil)) gList) (qCons (qL (qCons (qVar 7) (qCons (qVar 7) qNil)) gList) qNil)) (q_law_same 6)))) (qB (q2 (qL (qCons (qVar 5) qNil) gReprA) (qVar 6) gNe)))
  (qRet (qC (.bl false)))
  qNext)))
  (qRet (qC (.bl true))))))))
theorem s_is_integer : FQ 1 true M_is_integer q_is_integer := fq_fn (sh := [.val])
    (ls_ret (le_and (le_rdN (le_1 og_isi (le_rdV (le_var 0)))) (le_not (le_rdN (le_1 og_isi (le_rdV (le_var 0)))))))
theorem s_is_person : FQ 2 true M_is_person q_is_person := fq_fn (sh := [.val, .val])
    (ls_ret (le_and (le_rdN (le_call (chk := false) s_is_integer (ll_cons (le_rdV (le_var 0)) (ll_nil (k := .rd []))))) (le_chain og_cmp og_cmp (le_rdN (le_int 0)) (le_rdV (le_var 0)) (le_rdV (le_var 1)))))
theorem s_is_state : FQ 1 true M_is_state q_is_state := fq_fn (sh := [.val, .val])
    (ls_ret (le_and (le_rdN (le_1 og_isi (le_rdV (le_var 0)))) (le_and (le_rdN (le_2 og_cmp (le_rdN (le_L og_len (ll_cons (le_rdV (le_var 0)) (ll_nil (k := .rd []))))) (le_rdN (le_int 0)))) (le_L og_all (ll_cons (le_rdN (le_lc0 (ws := [1]) (li_of (le_rdV (le_var 0))) (lg_name 1) lb_yes (le_call (chk := false) s_is_person (ll_cons (le_rdV (le_var 1)) (ll_cons (le_rdN (le_L og_len (ll_cons (le_rdV (le_var 0)) (ll_nil (k := .rd []))))) (ll_nil (k := .rd []))))))) (ll_nil (k := .rd [])))))))
theorem s_law_take : ∀ d, FL 2 false (M_law_take d) (q_law_take d)
  | 0 => fl_never
  | d + 1 =>
    have ih : FL 2 false (M_law_take d) (q_law_take d) := s_law_take d
    fl_fn (sh := [.io, .val, .val, .val])
    (ls_seq (ls_if (lb_B (le_rdN (le_2 og_cmp (le_rdV (le_2 og_sub1 (le_varR 0) (le_rdN (le_int 0)))) (le_rdN (le_int 0)))))
    (ls_seq (ls_set 2 (le_2 og_mod (le_rdV (le_2 og_sub1 (le_varR 0) (le_rdN (le_int 0)))) (le_rdV (le_var 1))))
    (ls_seq (ls_put (i := 0) (le_rdN (le_int 0)) (le_2 og_div (le_rdV (le_2 og_sub1 (le_varR 0) (le_rdN (le_int 0)))) (le_rdV (le_var 1))))
    (ls_ret (le_var 2))))
    ls_next)
    (ls_seq (ls_if (lb_B (le_rdN (le_2 og_cmp (le_rdV (le_var 1)) (le_rdN (le_2 og_pow (le_rdN (le_int 10)) (le_rdN (le_int 7)))))))
    (ls_ret (le_2 og_mod (le_rdN (le_2 og_add (le_rdV (le_callB (i := 0) (chk := false) ih (ll_cons (le_rdN (le_2 og_pow (le_rdN (le_int 10)) (le_rdN (le_int 7)))) (ll_nil (k := .rd []))))) (le_rdN (le_2 og_mul (le_rdN (le_2 og_pow (le_rdN (le_int 10)) (le_rdN (le_int 7)))) (le_rdV (le_callB (i := 0) (chk := false) ih (ll_cons (le_rdN (le_2 og_add (le_rdN (le_2 og_div (le_rdN (le_2 og_sub (le_rdV (le_var 1)) (le_rdN (le_int 1)))) (le_rdN (le_2 og_pow (le_rdN (le_int 10)) (le_rdN (le_int 7)))))) (le_rdN (le_int 1)))) (ll_nil (k := .rd []))))))))) (le_rdV (le_var 1))))
    ls_next)
    (ls_seq (ls_put (i := 0) (le_rdN (le_int 2)) (le_2 og_add (le_rdV (le_2 og_sub1 (le_varR 0) (le_rdN (le_int 2)))) (le_rdN (le_int 1))))
    (ls_seq (ls_set 3 (le_2 og_mod (le_rdN (le_2 og_pow (le_rdN (le_2 og_add (le_rdV (le_2 og_sub1 (le_varR 0) (le_rdN (le_int 1)))) (le_rdN (le_2 og_mul (le_rdN (le_int 39373)) (le_rdV (le_2 og_sub1 (le_varR 0) (le_rdN (le_int 2)))))))) (le_rdN (le_int 5)))) (le_rdN (le_int 2147483647))))
    (ls_ret (le_2 og_mod (le_rdN (le_2 og_div (le_rdN (le_2 og_mod (le_rdN (le_2 og_add (le_rdN (le_2 og_mul (le_rdV (le_var 3)) (le_rdN (le_2 og_add (le_rdN (le_2 og_mod (le_rdV (le_var 3)) (le_rdN (le_int 40009)))) (le_rdN (le_int 7)))))) (le_rdN (le_2 og_mul (le_rdV (le_2 og_sub1 (le_varR 0) (le_rdN (le_int 2)))) (le_rdN (le_int 7919)))))) (le_rdN (le_int 2147483629)))) (le_rdN (le_int 64)))) (le_rdV (le_var 1))))))))
theorem s_law_of : FL 2 false M_law_of q_law_of := fl_fn (sh := [.io, .val])
    (ls_ret (le_2 og_sub1 (le_rdV (le_var 1)) (le_rdV (le_callB (i := 0) (chk := false) (s_law_take 4) (ll_cons (le_rdN (le_L og_len (ll_cons (le_rdV (le_var 1)) (ll_nil (k := .rd []))))) (ll_nil (k := .rd [])))))))
theorem s_law_strewn : FL 2 true M_law_strewn q_law_strewn := fl_fn (sh := [.io, .val, .root, .root])
    (ls_seq (ls_par (ss := [.root, .root]) (lp_cons (le_L og_listOf (ll_cons (le_rdV (le_var 1)) (ll_nil (k := .rd [])))) (lp_cons (le_list (ll_nil (k := .val))) lp_nil)))
    (ls_seq (ls_while (lb_B (le_rdN (le_2 og_ne (le_varR 2) (le_rdN (le_list (ll_nil (k := .val)))))))
    (ls_w (i := 3) wr_append (ll_consV (.inr rfl) (le_w (i := 2) wr_pop (ll_consV (.inr rfl) (le_callB (i := 0) (chk := false) (s_law_take 4) (ll_cons (le_rdN (le_L og_len (ll_cons (le_varR 2) (ll_nil (k := .rd []))))) (ll_nil (k := .rd [])))) (ll_nil (k := .val)))) (ll_nil (k := .val)))))
    (ls_retVar 3)))
theorem s_law_same : ∀ d, FQ 2 true (M_law_same d) (q_law_same d)
  | 0 => fq_never
  | d + 1 =>
    have ih : FQ 2 true (M_law_same d) (q_law_same d) := s_law_same d
    fq_fn (sh := [.val, .val, .val, .val])
    (ls_seq (ls_if (lb_T (le_rdN (le_1 og_isi (le_rdV (le_var 1)))))
    (ls_seq (ls_if (lb_or (lb_B (le_rdN (le_2 og_ne (le_rdN (le_1 og_isi (le_rdV (le_var 0)))) (le_rdN (le_1 og_isi (le_rdV (le_var 1))))))) (lb_B (le_rdN (le_2 og_ne (le_rdN (le_1 og_isi (le_rdV (le_var 0)))) (le_rdN (le_1 og_isi (le_rdV (le_var 1))))))))
    (ls_ret (le_bl false))
    ls_next)
    (ls_ret (le_and (le_rdN (le_2 og_eq (le_rdN (le_L og_len (ll_cons (le_rdV (le_var 0)) (ll_nil (k := .rd []))))) (le_rdN (le_L og_len (ll_cons (le_rdV (le_var 1)) (ll_nil (k := .rd []))))))) (le_L og_all (ll_cons (le_rdN (le_lc0 (ws := [2, 3]) (li_st st_zip (ll_cons (le_rdV (le_var 0)) (ll_cons (le_rdV (le_var 1)) (ll_nil (k := .rd []))))) (lg_tup (lgs_cons (lg_name 2) (lgs_cons (lg_name 3) lgs_nil))) lb_yes (le_call (chk := false) ih (ll_cons (le_rdV (le_var 2)) (ll_cons (le_rdV (le_var 3)) (ll_nil (k := .rd []))))))) (ll_nil (k := .rd [])))))))
    ls_next)
    (ls_seq (ls_if (lb_or (lb_B (le_rdN (le_2 og_isN (le_rdV (le_var 1)) (le_rdN le_non)))) (lb_T (le_rdN (le_1 og_isi (le_rdV (le_var 1))))))
    (ls_ret (le_and (le_rdN (le_2 og_eq (le_rdV (le_var 0)) (le_rdV (le_var 1)))) (le_and (le_rdN (le_2 og_eq (le_rdN (le_1 og_isi (le_rdV (le_var 0)))) (le_rdN (le_1 og_isi (le_rdV (le_var 1)))))) (le_2 og_eq (le_rdN (le_2 og_isN (le_rdV (le_var 0)) (le_rdN le_non))) (le_rdN (le_2 og_isN (le_rdV (le_var 1)) (le_rdN le_non)))))))
    ls_next)
    (ls_ret (le_and (le_rdN (le_1 og_isi (le_rdV (le_var 0)))) (le_and (le_rdN (le_not (le_rdN (le_1 og_isi (le_rdV (le_var 0)))))) (le_2 og_eq (le_rdV (le_var 0)) (le_rdV (le_var 1))))))))
theorem s_law_part : FL 2 true M_law_part q_law_part := fl_fn (sh := [.io, .val, .val, .val, .root, .val])
    (ls_seq (ls_set 2 (le_callB (i := 0) (chk := false) (s_law_take 4) (ll_cons (le_rdN (le_int 5)) (ll_nil (k := .rd [])))))
    (ls_seq (ls_par (ss := [.val, .root]) (lp_cons (le_2 og_sub1 (le_rdN (le_list (ll_consV (.inl rfl) (le_int 0) (ll_consV (.inl rfl) (le_int 1) (ll_consV (.inr rfl) (le_var 1) (ll_consV (.inl rfl) (le_2 og_add (le_rdN (le_int 1)) (le_rdV (le_callB (i := 0) (chk := false) (s_law_take 4) (ll_cons (le_rdV (le_var 1)) (ll_nil (k := .rd [])))))) (ll_consV (.inl rfl) (le_int 1) (ll_nil (k := .val))))))))) (le_rdV (le_var 2))) (lp_cons (le_list (ll_nil (k := .val))) lp_nil)))
    (ls_seq (ls_for (li_rg rg1 (ll_cons (le_rdV (le_var 1)) (ll_nil (k := .rd [])))) (lg_name 5)
    (ls_if (lb_B (le_rdN (le_2 og_eq (le_rdV (le_var 2)) (le_rdN (le_int 0)))))
    (ls_w (i := 4) wr_append (ll_consV (.inr rfl) (le_callB (i := 0) (chk := false) (s_law_take 4) (ll_cons (le_rdV (le_var 1)) (ll_nil (k := .rd [])))) (ll_nil (k := .val))))
    (ls_if (lb_B (le_rdN (le_2 og_cmp (le_rdV (le_var 5)) (le_rdV (le_var 3)))))
    (ls_w (i := 4) wr_append (ll_consV (.inl rfl) (le_2 og_mod (le_rdN (le_2 og_add (le_rdV (le_var 5)) (le_rdN (le_int 1)))) (le_rdV (le_var 3))) (ll_nil (k := .val))))
    (ls_w (i := 4) wr_append (ll_consV (.inr rfl) (le_if (lb_B (le_rdN (le_2 og_eq (le_rdV (le_var 2)) (le_rdN (le_int 4))))) (le_val (le_2 og_sub (le_rdV (le_var 5)) (le_rdN (le_int 1)))) (le_callB (i := 0) (chk := false) (s_law_take 4) (ll_cons (le_rdV (le_var 5)) (ll_nil (k := .rd []))))) (ll_nil (k := .val)))))))
    (ls_retVar 4))))
theorem s_law_mixed : FL 2 true M_law_mixed q_law_mixed := fl_fn (sh := [.io, .val, .val, .root, .val, .val])
    (ls_seq (ls_par (ss := [.val, .root]) (lp_cons (le_callB (i := 0) (chk := false) s_law_strewn (ll_cons (le_rdN (le_1 og_listRg1 (le_rdN (le_L og_len (ll_cons (le_rdV (le_var 1)) (ll_nil (k := .rd []))))))) (ll_nil (k := .rd [])))) (lp_cons (le_2 og_mul (le_rdN (le_list (ll_consV (.inl rfl) (le_int 0) (ll_nil (k := .val))))) (le_rdN (le_L og_len (ll_cons (le_rdV (le_var 1)) (ll_nil (k := .rd [])))))) lp_nil)))
    (ls_seq (ls_for (li_st st_enm (ll_cons (le_rdV (le_var 1)) (ll_nil (k := .rd [])))) (lg_tup (lgs_cons (lg_name 4) (lgs_cons (lg_name 5) lgs_nil)))
    (ls_put (i := 3) (le_rdV (le_2 og_sub1 (le_rdV (le_var 2)) (le_rdV (le_var 4)))) (le_2 og_sub1 (le_rdV (le_var 2)) (le_rdV (le_var 5)))))
    (ls_ret (le_L og_tupOf (ll_cons (le_varR 3) (ll_nil (k := .rd [])))))))
theorem s_law_drawn : FL 2 true M_law_drawn q_law_drawn := fl_fn (sh := [.io, .val, .val, .val, .val, .val, .val])
    (ls_seq (ls_asg (le_tup (ll_consV (.inl rfl) (le_2 og_add (le_rdN (le_int 1)) (le_rdV (le_callB (i := 0) (chk := false) (s_law_take 4) (ll_cons (le_rdV (le_var 1)) (ll_nil (k := .rd [])))))) (ll_consV (.inl rfl) (le_list (ll_nil (k := .val))) (ll_nil (k := .val))))) (lg_tup (lgs_cons (lg_name 2) (lgs_cons (lg_name 3) lgs_nil))))
    (ls_seq (ls_while (lb_B (le_rdN (le_2 og_cmp (le_rdN (le_L og_len (ll_cons (le_rdV (le_var 3)) (ll_nil (k := .rd []))))) (le_rdV (le_var 2)))))
    (ls_seq (ls_set 4 (le_2 og_sub (le_rdV (le_var 2)) (le_rdN (le_L og_len (ll_cons (le_rdV (le_var 3)) (ll_nil (k := .rd [])))))))
    (ls_seq (ls_set 5 (le_callB (i := 0) (chk := false) s_law_part (ll_cons (le_rdV (le_callB (i := 0) (chk := false) s_law_of (ll_cons (le_rdN (le_list (ll_consV (.inr rfl) (le_var 4) (ll_consV (.inr rfl) (le_var 4) (ll_consV (.inl rfl) (le_2 og_add (le_rdN (le_int 1)) (le_rdV (le_callB (i := 0) (chk := false) (s_law_take 4) (ll_cons (le_rdV (le_var 4)) (ll_nil (k := .rd [])))))) (ll_nil (k := .val))))))) (ll_nil (k := .rd []))))) (ll_nil (k := .rd [])))))
    (ls_set 3 (le_2 og_add (le_rdV (le_var 3)) (le_rdN (le_lc0 (ws := [6]) (li_of (le_rdV (le_var 5))) (lg_name 6) lb_yes (le_2 og_add (le_rdN (le_L og_len (ll_cons (le_rdV (le_var 3)) (ll_nil (k := .rd []))))) (le_rdV (le_var 6))))))))))
    (ls_ret (le_callB (i := 0) (chk := false) s_law_mixed (ll_cons (le_rdV (le_var 3)) (ll_nil (k := .rd [])))))))
theorem s_law_odd : FL 1 false M_law_odd q_law_odd := fl_fn (sh := [.io, .val])
    (ls_seq (ls_set 1 (le_list (ll_consV (.inl rfl) le_non (ll_consV (.inl rfl) (le_bl true) (ll_consV (.inl rfl) (le_bl false) (ll_consV (.inl rfl) (le_int 0) (ll_consV (.inl rfl) (le_int 1) (ll_consV (.inl rfl) (le_1 og_neg (le_rdN (le_int 1))) (ll_consV (.inl rfl) (le_2 og_pow (le_rdN (le_int 10)) (le_rdN (le_int 30))) (ll_consV (.inl rfl) (le_str ("" : Str)) (ll_consV (.inl rfl) (le_str ("0" : Str)) (ll_consV (.inl rfl) (le_str ("(0,)" : Str)) (ll_consV (.inl rfl) (le_tup (ll_nil (k := .val))) (ll_consV (.inl rfl) (le_list (ll_nil (k := .val))) (ll_consV (.inl rfl) (le_tup (ll_consV (.inl rfl) (le_int 0) (ll_nil (k := .val)))) (ll_consV (.inl rfl) (le_list (ll_consV (.inl rfl) (le_int 0) (ll_nil (k := .val)))) (ll_consV (.inl rfl) (le_tup (ll_consV (.inl rfl) (le_bl true) (ll_nil (k := .val)))) (ll_consV (.inl rfl) (le_tup (ll_consV (.inl rfl) (le_bl false) (ll_nil (k := .val)))) (ll_consV (.inl rfl) (le_tup (ll_consV (.inl rfl) (le_int 1) (ll_nil (k := .val)))) (ll_consV (.inl rfl) (le_tup (ll_consV (.inl rfl) le_non (ll_nil (k := .val)))) (ll_nil (k := .val))))))))))))))))))))))
    (ls_seq (ls_set 1 (le_2 og_add (le_rdV (le_var 1)) (le_rdN (le_list (ll_consV (.inl rfl) (le_tup (ll_consV (.inl rfl) (le_int 0) (ll_consV (.inl rfl) (le_int 0) (ll_consV (.inl rfl) (le_int 3) (ll_nil (k := .val)))))) (ll_consV (.inl rfl) (le_tup (ll_consV (.inl rfl) (le_int 0) (ll_consV (.inl rfl) (le_str ("1" : Str)) (ll_nil (k := .val))))) (ll_consV (.inl rfl) (le_tup (ll_consV (.inl rfl) (le_tup (ll_consV (.inl rfl) (le_int 0) (ll_nil (k := .val)))) (ll_nil (k := .val)))) (ll_consV (.inl rfl) (le_tup (ll_consV (.inl rfl) (le_tup (ll_nil (k := .val))) (ll_nil (k := .val)))) (ll_consV (.inl rfl) (le_tup (ll_consV (.inl rfl) (le_list (ll_nil (k := .val))) (ll_nil (k := .val)))) (ll_consV (.inl rfl) (le_tup (ll_consV (.inl rfl) (le_int 0) (ll_consV (.inl rfl) (le_tup (ll_consV (.inl rfl) (le_int 1) (ll_nil (k := .val)))) (ll_nil (k := .val))))) (ll_consV (.inl rfl) (le_list (ll_consV (.inl rfl) (le_list (ll_consV (.inl rfl) (le_int 0) (ll_nil (k := .val)))) (ll_consV (.inl rfl) (le_list (ll_consV (.inl rfl) (le_int 1) (ll_nil (k := .val)))) (ll_nil (k := .val))))) (ll_consV (.inl rfl) (le_tup (ll_consV (.inl rfl) (le_1 og_neg (le_rdN (le_int 1))) (ll_consV (.inl rfl) (le_int 0) (ll_nil (k := .val))))) (ll_consV (.inl rfl) (le_tup (ll_consV (.inl rfl) (le_int 2) (ll_consV (.inl rfl) (le_int 1) (ll_nil (k := .val))))) (ll_consV (.inl rfl) (le_tup (ll_consV (.inl rfl) (le_int 0) (ll_consV (.inl rfl) (le_int 1) (ll_consV (.inl rfl) (le_int 2) (ll_nil (k := .val)))))) (ll_nil (k := .val))))))))))))))))
    (ls_ret (le_callB (i := 0) (chk := false) s_law_of (ll_cons (le_rdV (le_var 1)) (ll_nil (k := .rd [])))))))
theorem s_law_bent : ∀ d, FL 2 false (M_law_bent d) (q_law_bent d)
  | 0 => fl_never
  | d + 1 =>
    have ih : FL 2 false (M_law_bent d) (q_law_bent d) := s_law_bent d
    fl_fn (sh := [.io, .val, .val, .root, .val])
    (ls_seq (ls_set 2 (le_callB (i := 0) (chk := false) (s_law_take 4) (ll_cons (le_rdN (le_int 8)) (ll_nil (k := .rd [])))))
    (ls_seq (ls_if (lb_and (lb_T (le_rdN (le_1 og_isi (le_rdV (le_var 1))))) (lb_and (lb_not (lb_T (le_rdN (le_1 og_isi (le_rdV (le_var 1)))))) (lb_B (le_rdN (le_2 og_cmp (le_rdV (le_var 2)) (le_rdN (le_int 5)))))))
    (ls_ret (le_2 og_sub1 (le_rdN (le_list (ll_consV (.inl rfl) (le_2 og_add (le_rdV (le_var 1)) (le_rdN (le_int 1))) (ll_consV (.inl rfl) (le_2 og_sub (le_rdV (le_var 1)) (le_rdN (le_int 1))) (ll_consV (.inl rfl) (le_2 og_sub (le_rdN (le_int 0)) (le_rdV (le_var 1))) (ll_consV (.inl rfl) (le_2 og_eq (le_rdV (le_var 1)) (le_rdN (le_int 1))) (ll_consV (.inl rfl) (le_L og_strI (ll_cons (le_rdV (le_var 1)) (ll_nil (k := .rd [])))) (ll_nil (k := .val))))))))) (le_rdV (le_var 2))))
    ls_next)
    (ls_seq (ls_if (lb_or (lb_not (lb_T (le_rdN (le_1 og_isi (le_rdV (le_var 1)))))) (lb_or (lb_B (le_rdN (le_2 og_eq (le_rdN (le_L og_len (ll_cons (le_rdV (le_var 1)) (ll_nil (k := .rd []))))) (le_rdN (le_int 0))))) (lb_B (le_rdN (le_2 og_eq (le_rdV (le_var 2)) (le_rdN (le_int 0)))))))
    (ls_ret (le_callB (i := 0) (chk := false) s_law_odd (ll_nil (k := .rd []))))
    ls_next)
    (ls_seq (ls_par (ss := [.root, .val]) (lp_cons (le_L og_listOf (ll_cons (le_rdV (le_var 1)) (ll_nil (k := .rd [])))) (lp_cons (le_callB (i := 0) (chk := false) (s_law_take 4) (ll_cons (le_rdN (le_L og_len (ll_cons (le_rdV (le_var 1)) (ll_nil (k := .rd []))))) (ll_nil (k := .rd [])))) lp_nil)))
    (ls_seq (ls_if (lb_B (le_rdN (le_2 og_eq (le_rdV (le_var 2)) (le_rdN (le_int 1)))))
    (ls_retIf (lb_T (le_rdN (le_1 og_isi (le_rdV (le_var 1)))))
    (ls_ret (le_L og_tupOf (ll_cons (le_varR 3) (ll_nil (k := .rd [])))))
    (ls_retVar 3))
    ls_next)
    (ls_seq (ls_if (lb_B (le_rdN (le_2 og_eq (le_rdV (le_var 2)) (le_rdN (le_int 2)))))
    (ls_setR 3 (le_2 og_add (le_rdN (le_cut (le_varR 3) le_non (le_only (le_rdV (le_var 4))))) (le_rdN (le_cut (le_varR 3) (le_only (le_rdN (le_2 og_add (le_rdV (le_var 4)) (le_rdN (le_int 1))))) le_non))))
    (ls_if (lb_B (le_rdN (le_2 og_eq (le_rdV (le_var 2)) (le_rdN (le_int 3)))))
    (ls_setR 3 (le_2 og_add (le_rdN (le_cut (le_varR 3) le_non (le_only (le_rdN (le_2 og_add (le_rdV (le_var 4)) (le_rdN (le_int 1))))))) (le_rdN (le_cut (le_varR 3) (le_only (le_rdV (le_var 4))) le_non))))
    (ls_put (i := 3) (le_rdV (le_var 4)) (le_callB (i := 0) (chk := false) ih (ll_cons (le_rdV (le_2 og_sub1 (le_varR 3) (le_rdV (le_var 4)))) (ll_nil (k := .rd [])))))))
    (ls_retIf (lb_T (le_rdN (le_1 og_isi (le_rdV (le_var 1)))))
    (ls_ret (le_L og_tupOf (ll_cons (le_varR 3) (ll_nil (k := .rd [])))))
    (ls_retVar 3))))))))
theorem s_law_is_due : FQ 1 true M_law_is_due q_law_is_due := fq_fn (sh := [.val, .val])
    (ls_seq (ls_if (lb_or (lb_not (lb_T (le_rdN (le_1 og_isi (le_rdV (le_var 0)))))) (lb_B (le_rdN (le_2 og_eq (le_rdN (le_L og_len (ll_cons (le_rdV (le_var 0)) (ll_nil (k := .rd []))))) (le_rdN (le_int 0))))))
    (ls_ret (le_bl false))
    ls_next)
    (ls_seq (ls_if (lb_not (lb_T (le_rdN (le_L og_all (ll_cons (le_rdN (le_lc0 (ws := [1]) (li_of (le_rdV (le_var 0))) (lg_name 1) lb_yes (le_and (le_rdN (le_1 og_isi (le_rdV (le_var 1)))) (le_not (le_rdN (le_1 og_isi (le_rdV (le_var 1)))))))) (ll_nil (k := .rd [])))))))
    (ls_ret (le_bl false))
    ls_next)
    (ls_ret (le_L og_all (ll_cons (le_rdN (le_lc0 (ws := [1]) (li_of (le_rdV (le_var 0))) (lg_name 1) lb_yes (le_chain og_cmp og_cmp (le_rdN (le_int 0)) (le_rdV (le_var 1)) (le_rdN (le_L og_len (ll_cons (le_rdV (le_var 0)) (ll_nil (k := .rd [])))))))) (ll_nil (k := .rd [])))))))
theorem s_law_right : FL 1 true M_law_right q_law_right := fl_fn (sh := [.io, .val, .root, .val, .val, .val, .val, .val])
    (ls_seq (ls_set 1 (le_callB (i := 0) (chk := false) s_law_drawn (ll_cons (le_rdN (le_int 12)) (ll_nil (k := .rd [])))))
    (ls_seq (ls_setR 2 (le_list (ll_consV (.inr rfl) (le_var 1) (ll_consV (.inl rfl) (le_L og_listOf (ll_cons (le_rdV (le_var 1)) (ll_nil (k := .rd [])))) (ll_consV (.inl rfl) (le_2 og_mul6 (le_rdN (le_tup (ll_consV (.inl rfl) (le_int 0) (ll_nil (k := .val))))) (le_rdN (le_int 41))) (ll_consV (.inl rfl) (le_1 og_tupRg1 (le_rdN (le_int 60))) (ll_consV (.inl rfl) (le_2 og_add (le_rdN (le_L og_tupRg3 (ll_cons (le_rdN (le_int 59)) (ll_cons (le_rdN (le_1 og_neg (le_rdN (le_int 1)))) (ll_cons (le_rdN (le_1 og_neg (le_rdN (le_int 1)))) (ll_nil (k := .rd []))))))) (le_rdN (le_tup (ll_consV (.inl rfl) (le_int 61) (ll_nil (k := .val)))))) (ll_nil (k := .val)))))))))
    (ls_seq (ls_setR 2 (le_2 og_add (le_varR 2) (le_rdN (le_lc (ws := [3]) (li_rg rg1 (ll_cons (le_rdN (le_int 6)) (ll_nil (k := .rd [])))) (lg_name 3) lb_yes (le_callB (i := 0) (chk := false) s_law_odd (ll_nil (k := .rd [])))))))
    (ls_seq (ls_for (li_rg rg1 (ll_cons (le_rdN (le_int 12)) (ll_nil (k := .rd [])))) (lg_name 3)
    (ls_seq (ls_set 4 (le_callB (i := 0) (chk := false) (s_law_bent 6) (ll_cons (le_rdV (le_var 1)) (ll_nil (k := .rd [])))))
    (ls_w (i := 2) wr_append (ll_consV (.inr rfl) (le_if (lb_B (le_rdN (le_2 og_eq (le_rdV (le_callB (i := 0) (chk := false) (s_law_take 4) (ll_cons (le_rdN (le_int 3)) (ll_nil (k := .rd []))))) (le_rdN (le_int 0))))) (le_callB (i := 0) (chk := false) (s_law_bent 6) (ll_cons (le_rdV (le_var 4)) (ll_nil (k := .rd [])))) (le_var 4)) (ll_nil (k := .val))))))
    (ls_seq (ls_for (li_of (le_varR 2)) (lg_name 5)
    (ls_seq (ls_par (ss := [.val, .val]) (lp_cons (le_L og_reprA (ll_cons (le_rdV (le_var 5)) (ll_nil (k := .rd [])))) (lp_cons (le_call (chk := false) s_law_is_due (ll_cons (le_rdV (le_var 5)) (ll_nil (k := .rd [])))) lp_nil)))
    (ls_if (lb_or (lb_not (lb_T (le_rdN (le_call (chk := false) (s_law_same 6) (ll_cons (le_rdN (le_list (ll_consV (.inl rfl) (le_call (chk := false) s_is_state (ll_cons (le_rdV (le_var 5)) (ll_nil (k := .rd [])))) (ll_consV (.inl rfl) (le_callK (nn := 0) (kk := 1) (is := [0]) (chk := false) s_is_state (ll_nil (k := .rd [])) (ll_cons (le_rdV (le_var 5)) (ll_nil (k := .rd [])))) (ll_nil (k := .val)))))) (ll_cons (le_rdN (le_list (ll_consV (.inr rfl) (le_var 7) (ll_consV (.inr rfl) (le_var 7) (ll_nil (k := .val)))))) (ll_nil (k := .rd [])))))))) (lb_B (le_rdN (le_2 og_ne (le_rdN (le_L og_reprA (ll_cons (le_rdV (le_var 5)) (ll_nil (k := .rd []))))) (le_rdV (le_var 6))))))
    (ls_ret (le_bl false))
    ls_next)))
    (ls_ret (le_bl true)))))))

theorem take_eq : ∀ d, q_law_take d = MP.Qtake 39373 40009 d
  | 0 => rfl
  | d + 1 => by unfold q_law_take MP.Qtake; rw [take_eq d]
theorem same_eq : ∀ d, q_law_same d = MP.Qsame d
  | 0 => rfl
  | d + 1 => by unfold q_law_same MP.Qsame; rw [same_eq d]
theorem bent_eq : ∀ d, q_law_bent d = MP.Qbent (MP.Qtake 39373 40009 4) d
  | 0 => rfl
  | d + 1 => by
    have e1 : q_law_of = MP.Qof (MP.Qtake 39373 40009 4) := by unfold q_law_of MP.Qof; rw [take_eq]
    have e2 : q_law_odd = MP.Qodd (MP.Qtake 39373 40009 4) := by unfold q_law_odd MP.Qodd; rw [e1]
    unfold q_law_bent MP.Qbent
    rw [bent_eq d, e2, take_eq]
theorem right_eq : q_law_right = MP.Qright00 (MP.Qtake 39373 40009 4) := by
  have e1 : q_law_of = MP.Qof (MP.Qtake 39373 40009 4) := by unfold q_law_of MP.Qof; rw [take_eq]
  have e2 : q_law_odd = MP.Qodd (MP.Qtake 39373 40009 4) := by unfold q_law_odd MP.Qodd; rw [e1]
  have e3 : q_law_strewn = MP.Qstrewn (MP.Qtake 39373 40009 4) := by unfold q_law_strewn MP.Qstrewn; rw [take_eq]
  have e4 : q_law_part = MP.Qpart (MP.Qtake 39373 40009 4) := by unfold q_law_part MP.Qpart; rw [take_eq]
  have e5 : q_law_mixed = MP.Qmixed (MP.Qtake 39373 40009 4) := by unfold q_law_mixed MP.Qmixed; rw [e3]
  have e6 : q_law_drawn = MP.Qdrawn (MP.Qtake 39373 40009 4) := by unfold q_law_drawn MP.Qdrawn; rw [e1, e4, e5, take_eq]
  have f1 : q_is_integer = MP.P_Qis_int := rfl
  have f2 : q_is_person = MP.P_Qis_person := by unfold q_is_person MP.P_Qis_person; rw [f1]
  have f3 : q_is_state = MP.P_Qis_state := by unfold q_is_state MP.P_Qis_state; rw [f2]
  have f4 : q_law_is_due = MP.Qdue00 := rfl
  unfold q_law_right MP.Qright00
  rw [e2, e6, f3, f4, same_eq, take_eq, bent_eq]
theorem law_eq : M_law = MP.MlawT (3 : Nat) (3 : Nat) M_law_right := by
  have e10 : M_law_cells = MP.Mcells := rfl
  have e11 : M_law_box = MP.Mbox := rfl
  unfold M_law MP.MlawT
  rw [e10, e11]
  rfl
theorem law_true : ∀ ns : List Int, ns.length ≤ 63 → ∃ S', M_law [.rol (ns.map PV.int)] [] = .ret (.bl true) S' := fun ns _ => by
  refine MP.true_of3 ?_
  rw [law_eq]
  have hR : MP.RightB M_law_right 1000 := MP.rightB_of s_law_right fun b c hb hc => by
    rw [right_eq]
    exact MP.right00_ok (MP.qtake_ok (by decide) (by decide) 3) hb hc
  exact MP.lawT_ok (most := 3) (t := 3) (by decide) (by decide) (by decide) (hR.mono (by decide)) ns

/-! ### the end -/
theorem all_mk {l : PySem.W.OpenLaw} {w : World} {K : PySem.W.Frag} {h : Heap} {mg : Str → Option Value} {fa : Addr} (X : K.In h) (G : h.Ns mainGlobals mg) (hfa : mg "law" = some (.ref fa))
    {f0 : Addr} {od0 an0 : Option Addr} {sl0 : Array (Option Value)} {oc0 kV0 dc0 pm0 cd0 ct0 : Value}
    (a0 : PySem.W.nsIn K mainGlobals "is_integer" = some (some (.ref f0))) (l0 : K.lookup f0 = some ⟨oc0, od0, .func (PySem.W.fnOf "is_integer" "is_integer" (defArgs st_is_integer) (defBody st_is_integer) (defScope st_is_integer) .none kV0 dc0 pm0 an0 cd0 ct0), sl0⟩) (c0 : PySem.W.codeIn K cd0 "is_integer" = true) (k0 : PySem.W.keepIn K (.ref f0) = true)
    {f1 : Addr} {od1 an1 : Option Addr} {sl1 : Array (Option Value)} {oc1 kV1 dc1 pm1 cd1 ct1 : Value}
    (a1 : PySem.W.nsIn K mainGlobals "is_person" = some (some (.ref f1))) (l1 : K.lookup f1 = some ⟨oc1, od1, .func (PySem.W.fnOf "is_person" "is_person" (defArgs st_is_person) (defBody st_is_person) (defScope st_is_person) .none kV1 dc1 pm1 an1 cd1 ct1), sl1⟩) (c1 : PySem.W.codeIn K cd1 "is_person" = true) (k1 : PySem.W.keepIn K (.ref f1) = true)
    {f2 : Addr} {od2 an2 : Option Addr} {sl2 : Array (Option Value)} {oc2 kV2 dc2 pm2 cd2 ct2 : Value}
    (a2 : PySem.W.nsIn K mainGlobals "is_state" = some (some (.ref f2))) (l2 : K.lookup f2 = some ⟨oc2, od2, .func (PySem.W.fnOf "is_state" "is_state" (defArgs st_is_state) (defBody st_is_state) (defScope st_is_state) .none kV2 dc2 pm2 an2 cd2 ct2), sl2⟩) (c2 : PySem.W.codeIn K cd2 "is_state" = true) (k2 : PySem.W.keepIn K (.ref f2) = true)
    {f3 : Addr} {od3 an3 : Option Addr} {sl3 : Array (Option Value)} {oc3 kV3 dc3 pm3 cd3 ct3 : Value}
    (a3 : PySem.W.nsIn K mainGlobals "_law_box" = some (some (.ref f3))) (l3 : K.lookup f3 = some ⟨oc3, od3, .func (PySem.W.fnOf "_law_box" "_law_box" (defArgs st_law_box) (defBody st_law_box) (defScope st_law_box) .none kV3 dc3 pm3 an3 cd3 ct3), sl3⟩) (c3 : PySem.W.codeIn K cd3 "_law_box" = true) (k3 : PySem.W.keepIn K (.ref f3) = true)
    {f4 : Addr} {od4 an4 : Option Addr} {sl4 : Array (Option Value)} {oc4 kV4 dc4 pm4 cd4 ct4 : Value}
    (a4 : PySem.W.nsIn K mainGlobals "_law_take" = some (some (.ref f4))) (l4 : K.lookup f4 = some ⟨oc4, od4, .func (PySem.W.fnOf "_law_take" "_law_take" (defArgs st_law_take) (defBody st_law_take) (defScope st_law_take) .none kV4 dc4 pm4 an4 cd4 ct4), sl4⟩) (c4 : PySem.W.codeIn K cd4 "_law_take" = true) (k4 : PySem.W.keepIn K (.ref f4) = true)
    {f5 : Addr} {od5 an5 : Option Addr} {sl5 : Array (Option Value)} {oc5 kV5 dc5 pm5 cd5 ct5 : Value}
    (a5 : PySem.W.nsIn K mainGlobals "_law_cells" = some (some (.ref f5))) (l5 : K.lookup f5 = some ⟨oc5, od5, .func (PySem.W.fnOf "_law_cells" "_law_cells" (defArgs st_law_cells) (defBody st_law_cells) (defScope st_law_cells) .none kV5 dc5 pm5 an5 cd5 ct5), sl5⟩) (c5 : PySem.W.codeIn K cd5 "_law_cells" = true) (k5 : PySem.W.keepIn K (.ref f5) = true)
    {f6 : Addr} {od6 an6 : Option Addr} {sl6 : Array (Option Value)} {oc6 kV6 dc6 pm6 cd6 ct6 : Value}
    (a6 : PySem.W.nsIn K mainGlobals "_law_of" = some (some (.ref f6))) (l6 : K.lookup f6 = some ⟨oc6, od6, .func (PySem.W.fnOf "_law_of" "_law_of" (defArgs st_law_of) (defBody st_law_of) (defScope st_law_of) .none kV6 dc6 pm6 an6 cd6 ct6), sl6⟩) (c6 : PySem.W.codeIn K cd6 "_law_of" = true) (k6 : PySem.W.keepIn K (.ref f6) = true)
    {f7 : Addr} {od7 an7 : Option Addr} {sl7 : Array (Option Value)} {oc7 kV7 dc7 pm7 cd7 ct7 : Value}
    (a7 : PySem.W.nsIn K mainGlobals "_law_strewn" = some (some (.ref f7))) (l7 : K.lookup f7 = some ⟨oc7, od7, .func (PySem.W.fnOf "_law_strewn" "_law_strewn" (defArgs st_law_strewn) (defBody st_law_strewn) (defScope st_law_strewn) .none kV7 dc7 pm7 an7 cd7 ct7), sl7⟩) (c7 : PySem.W.codeIn K cd7 "_law_strewn" = true) (k7 : PySem.W.keepIn K (.ref f7) = true)
    {f8 : Addr} {od8 an8 : Option Addr} {sl8 : Array (Option Value)} {oc8 kV8 dc8 pm8 cd8 ct8 : Value}
    (a8 : PySem.W.nsIn K mainGlobals "_law_same" = some (some (.ref f8))) (l8 : K.lookup f8 = some ⟨oc8, od8, .func (PySem.W.fnOf "_law_same" "_law_same" (defArgs st_law_same) (defBody st_law_same) (defScope st_law_same) .none kV8 dc8 pm8 an8 cd8 ct8), sl8⟩) (c8 : PySem.W.codeIn K cd8 "_law_same" = true) (k8 : PySem.W.keepIn K (.ref f8) = true)
    {f9 : Addr} {od9 an9 : Option Addr} {sl9 : Array (Option Value)} {oc9 kV9 dc9 pm9 cd9 ct9 : Value}
    (a9 : PySem.W.nsIn K mainGlobals "_law_part" = some (some (.ref f9))) (l9 : K.lookup f9 = some ⟨oc9, od9, .func (PySem.W.fnOf "_law_part" "_law_part" (defArgs st_law_part) (defBody st_law_part) (defScope st_law_part) .none kV9 dc9 pm9 an9 cd9 ct9), sl9⟩) (c9 : PySem.W.codeIn K cd9 "_law_part" = true) (k9 : PySem.W.keepIn K (.ref f9) = true)
    {f10 : Addr} {od10 an10 : Option Addr} {sl10 : Array (Option Value)} {oc10 kV10 dc10 pm10 cd10 ct10 : Value}
    (a10 : PySem.W.nsIn K mainGlobals "_law_mixed" = some (some (.ref f10))) (l10 : K.lookup f10 = some ⟨oc10, od10, .func (PySem.W.fnOf "_law_mixed" "_law_mixed" (defArgs st_law_mixed) (defBody st_law_mixed) (defScope st_law_mixed) .none kV10 dc10 pm10 an10 cd10 ct10), sl10⟩) (c10 : PySem.W.codeIn K cd10 "_law_mixed" = true) (k10 : PySem.W.keepIn K (.ref f10) = true)
    {f11 : Addr} {od11 an11 : Option Addr} {sl11 : Array (Option Value)} {oc11 kV11 dc11 pm11 cd11 ct11 : Value}
    (a11 : PySem.W.nsIn K mainGlobals "_law_drawn" = some (some (.ref f11))) (l11 : K.lookup f11 = some ⟨oc11, od11, .func (PySem.W.fnOf "_law_drawn" "_law_drawn" (defArgs st_law_drawn) (defBody st_law_drawn) (defScope st_law_drawn) .none kV11 dc11 pm11 an11 cd11 ct11), sl11⟩) (c11 : PySem.W.codeIn K cd11 "_law_drawn" = true) (k11 : PySem.W.keepIn K (.ref f11) = true)
    {f12 : Addr} {od12 an12 : Option Addr} {sl12 : Array (Option Value)} {oc12 kV12 dc12 pm12 cd12 ct12 : Value}
    (a12 : PySem.W.nsIn K mainGlobals "_law_odd" = some (some (.ref f12))) (l12 : K.lookup f12 = some ⟨oc12, od12, .func (PySem.W.fnOf "_law_odd" "_law_odd" (defArgs st_law_odd) (defBody st_law_odd) (defScope st_law_odd) .none kV12 dc12 pm12 an12 cd12 ct12), sl12⟩) (c12 : PySem.W.codeIn K cd12 "_law_odd" = true) (k12 : PySem.W.keepIn K (.ref f12) = true)
    {f13 : Addr} {od13 an13 : Option Addr} {sl13 : Array (Option Value)} {oc13 kV13 dc13 pm13 cd13 ct13 : Value}
    (a13 : PySem.W.nsIn K mainGlobals "_law_bent" = some (some (.ref f13))) (l13 : K.lookup f13 = some ⟨oc13, od13, .func (PySem.W.fnOf "_law_bent" "_law_bent" (defArgs st_law_bent) (defBody st_law_bent) (defScope st_law_bent) .none kV13 dc13 pm13 an13 cd13 ct13), sl13⟩) (c13 : PySem.W.codeIn K cd13 "_law_bent" = true) (k13 : PySem.W.keepIn K (.ref f13) = true)
    {f14 : Addr} {od14 an14 : Option Addr} {sl14 : Array (Option Value)} {oc14 kV14 dc14 pm14 cd14 ct14 : Value}
    (a14 : PySem.W.nsIn K mainGlobals "_law_is_due" = some (some (.ref f14))) (l14 : K.lookup f14 = some ⟨oc14, od14, .func (PySem.W.fnOf "_law_is_due" "_law_is_due" (defArgs st_law_is_due) (defBody st_law_is_due) (defScope st_law_is_due) .none kV14 dc14 pm14 an14 cd14 ct14), sl14⟩) (c14 : PySem.W.codeIn K cd14 "_law_is_due" = true) (k14 : PySem.W.keepIn K (.ref f14) = true)
    {f15 : Addr} {od15 an15 : Option Addr} {sl15 : Array (Option Value)} {oc15 kV15 dc15 pm15 cd15 ct15 : Value}
    (a15 : PySem.W.nsIn K mainGlobals "_law_right" = some (some (.ref f15))) (l15 : K.lookup f15 = some ⟨oc15, od15, .func (PySem.W.fnOf "_law_right" "_law_right" (defArgs st_law_right) (defBody st_law_right) (defScope st_law_right) .none kV15 dc15 pm15 an15 cd15 ct15), sl15⟩) (c15 : PySem.W.codeIn K cd15 "_law_right" = true) (k15 : PySem.W.keepIn K (.ref f15) = true)
    {f16 : Addr} {od16 an16 : Option Addr} {sl16 : Array (Option Value)} {oc16 kV16 dc16 pm16 cd16 ct16 : Value}
    (a16 : PySem.W.nsIn K mainGlobals "law" = some (some (.ref f16))) (l16 : K.lookup f16 = some ⟨oc16, od16, .func (PySem.W.fnOf "law" "law" (defArgs st_law) (defBody st_law) (defScope st_law) .none kV16 dc16 pm16 an16 cd16 ct16), sl16⟩) (c16 : PySem.W.codeIn K cd16 "law" = true) (k16 : PySem.W.keepIn K (.ref f16) = true)
    (z0 : PySem.W.nsIn K mainGlobals "abs" = some none)
    (z1 : PySem.W.nsIn K mainGlobals "all" = some none)
    (z2 : PySem.W.nsIn K mainGlobals "bool" = some none)
    (z3 : PySem.W.nsIn K mainGlobals "enumerate" = some none)
    (z4 : PySem.W.nsIn K mainGlobals "int" = some none)
    (z5 : PySem.W.nsIn K mainGlobals "isinstance" = some none)
    (z6 : PySem.W.nsIn K mainGlobals "len" = some none)
    (z7 : PySem.W.nsIn K mainGlobals "list" = some none)
    (z8 : PySem.W.nsIn K mainGlobals "range" = some none)
    (z9 : PySem.W.nsIn K mainGlobals "repr" = some none)
    (z10 : PySem.W.nsIn K mainGlobals "str" = some none)
    (z11 : PySem.W.nsIn K mainGlobals "tuple" = some none)
    (z12 : PySem.W.nsIn K mainGlobals "zip" = some none)
    : ∃ fd : FuncData, (∀ (s : Shared) (v : Value), BindsTo s fd ⟨[v], []⟩ [("_law_script", v)]) ∧ ∀ base : Heap, K.In base → base.Ns mainGlobals mg → FnG l.prog w K mg base 14 fa fd ["_law_script"] (spL K M_law) := by
  have e := hfa.symm.trans (PySem.W.mg_of X G a16)
  cases e
  have T : { T : Tx K mg // T.f_law = fa ∧ T.d_law = PySem.W.fnOf "law" "law" (defArgs st_law) (defBody st_law) (defScope st_law) .none kV16 dc16 pm16 an16 cd16 ct16 } := ⟨{
    f_is_integer := f0, d_is_integer := _, F_is_integer := fun_mk l0 c0 k0, g_is_integer := PySem.W.mg_of X G a0,
    f_is_person := f1, d_is_person := _, F_is_person := fun_mk l1 c1 k1, g_is_person := PySem.W.mg_of X G a1,
    f_is_state := f2, d_is_state := _, F_is_state := fun_mk l2 c2 k2, g_is_state := PySem.W.mg_of X G a2,
    f_law_box := f3, d_law_box := _, F_law_box := fun_mk l3 c3 k3, g_law_box := PySem.W.mg_of X G a3,
    f_law_take := f4, d_law_take := _, F_law_take := fun_mk l4 c4 k4, g_law_take := PySem.W.mg_of X G a4,
    f_law_cells := f5, d_law_cells := _, F_law_cells := fun_mk l5 c5 k5, g_law_cells := PySem.W.mg_of X G a5,
    f_law_of := f6, d_law_of := _, F_law_of := fun_mk l6 c6 k6, g_law_of := PySem.W.mg_of X G a6,
    f_law_strewn := f7, d_law_strewn := _, F_law_strewn := fun_mk l7 c7 k7, g_law_strewn := PySem.W.mg_of X G a7,
    f_law_same := f8, d_law_same := _, F_law_same := fun_mk l8 c8 k8, g_law_same := PySem.W.mg_of X G a8,
    f_law_part := f9, d_law_part := _, F_law_part := fun_mk l9 c9 k9, g_law_part := PySem.W.mg_of X G a9,
    f_law_mixed := f10, d_law_mixed := _, F_law_mixed := fun_mk l10 c10 k10, g_law_mixed := PySem.W.mg_of X G a10,
    f_law_drawn := f11, d_law_drawn := _, F_law_drawn := fun_mk l11 c11 k11, g_law_drawn := PySem.W.mg_of X G a11,
    f_law_odd := f12, d_law_odd := _, F_law_odd := fun_mk l12 c12 k12, g_law_odd := PySem.W.mg_of X G a12,
    f_law_bent := f13, d_law_bent := _, F_law_bent := fun_mk l13 c13 k13, g_law_bent := PySem.W.mg_of X G a13,
    f_law_is_due := f14, d_law_is_due := _, F_law_is_due := fun_mk l14 c14 k14, g_law_is_due := PySem.W.mg_of X G a14,
    f_law_right := f15, d_law_right := _, F_law_right := fun_mk l15 c15 k15, g_law_right := PySem.W.mg_of X G a15,
    f_law := fa, d_law := _, F_law := fun_mk l16 c16 k16, g_law := PySem.W.mg_of X G a16,
    n_abs := PySem.W.mg_none_of X G z0,
    n_all := PySem.W.mg_none_of X G z1,
    n_bool := PySem.W.mg_none_of X G z2,
    n_enumerate := PySem.W.mg_none_of X G z3,
    n_int := PySem.W.mg_none_of X G z4,
    n_isinstance := PySem.W.mg_none_of X G z5,
    n_len := PySem.W.mg_none_of X G z6,
    n_list := PySem.W.mg_none_of X G z7,
    n_range := PySem.W.mg_none_of X G z8,
    n_repr := PySem.W.mg_none_of X G z9,
    n_str := PySem.W.mg_none_of X G z10,
    n_tuple := PySem.W.mg_none_of X G z11,
    n_zip := PySem.W.mg_none_of X G z12 }, rfl, rfl⟩
  obtain ⟨T, e1, e2⟩ := T
  refine ⟨T.d_law, fun s v => e2 ▸ .of_eq rfl, fun base _ _ => e1 ▸ (k_law T).imp fun _ _ _ _ q => q mg⟩
end Z
open PySem PySem.W PyProof.Rows
set_option maxHeartbeats 0 in
theorem PySem.Challenge.cw_lookpast_k00_states_or_not_holds : PySem.Challenge.rw_lookpast_k00_states_or_not.Holds := by
  w_on; o_law; k_head; (case hw => w_witness2)
  k_fill
  refine MP.walk_G (l := PySem.Challenge.rw_lookpast_k00_states_or_not) (n := 63) (k := 14) (x := "_law_script") (sp := fun w => MP.spL _ Z.M_law) rfl (by decide) rfl ⟨rfl, by decide, by decide⟩ (fun w h Y => PySem.W.kIn_of Y) ?F (fun _ _ a ns hl hO hS => MP.law_spL hO hS (Z.law_true ns hl))
  case F =>
    intro w mg fa h KX G hmg
    refine' Z.all_mk KX G hmg ?a0 ?l0 ?c0 ?k0 ?a1 ?l1 ?c1 ?k1 ?a2 ?l2 ?c2 ?k2 ?a3 ?l3 ?c3 ?k3 ?a4 ?l4 ?c4 ?k4 ?a5 ?l5 ?c5 ?k5 ?a6 ?l6 ?c6 ?k6 ?a7 ?l7 ?c7 ?k7 ?a8 ?l8 ?c8 ?k8 ?a9 ?l9 ?c9 ?k9 ?a10 ?l10 ?c10 ?k10 ?a11 ?l11 ?c11 ?k11 ?a12 ?l12 ?c12 ?k12 ?a13 ?l13 ?c13 ?k13 ?a14 ?l14 ?c14 ?k14 ?a15 ?l15 ?c15 ?k15 ?a16 ?l16 ?c16 ?k16 ?z0 ?z1 ?z2 ?z3 ?z4 ?z5 ?z6 ?z7 ?z8 ?z9 ?z10 ?z11 ?z12
    (case a0 => k_is)
    (case l0 => k_is)
    (case c0 => k_is)
    (case k0 => k_is)
    (case a1 => k_is)
    (case l1 => k_is)
    (case c1 => k_is)
    (case k1 => k_is)
    (case a2 => k_is)
    (case l2 => k_is)
    (case c2 => k_is)
    (case k2 => k_is)
    (case a3 => k_is)
    (case l3 => k_is)
    (case c3 => k_is)
    (case k3 => k_is)
    (case a4 => k_is)
    (case l4 => k_is)
    (case c4 => k_is)
    (case k4 => k_is)
    (case a5 => k_is)
    (case l5 => k_is)
    (case c5 => k_is)
    (case k5 => k_is)
    (case a6 => k_is)
    (case l6 => k_is)
    (case c6 => k_is)
    (case k6 => k_is)
    (case a7 => k_is)
    (case l7 => k_is)
    (case c7 => k_is)
    (case k7 => k_is)
    (case a8 => k_is)
    (case l8 => k_is)
    (case c8 => k_is)
    (case k8 => k_is)
    (case a9 => k_is)
    (case l9 => k_is)
    (case c9 => k_is)
    (case k9 => k_is)
    (case a10 => k_is)
    (case l10 => k_is)
    (case c10 => k_is)
    (case k10 => k_is)
    (case a11 => k_is)
    (case l11 => k_is)
    (case c11 => k_is)
    (case k11 => k_is)
    (case a12 => k_is)
    (case l12 => k_is)
    (case c12 => k_is)
    (case k12 => k_is)
    (case a13 => k_is)
    (case l13 => k_is)
    (case c13 => k_is)
    (case k13 => k_is)
    (case a14 => k_is)
    (case l14 => k_is)
    (case c14 => k_is)
    (case k14 => k_is)
    (case a15 => k_is)
    (case l15 => k_is)
    (case c15 => k_is)
    (case k15 => k_is)
    (case a16 => k_is)
    (case l16 => k_is)
    (case c16 => k_is)
    (case k16 => k_is)
    (case z0 => k_is)
    (case z1 => k_is)
    (case z2 => k_is)
    (case z3 => k_is)
    (case z4 => k_is)
    (case z5 => k_is)
    (case z6 => k_is)
    (case z7 => k_is)
    (case z8 => k_is)
    (case z9 => k_is)
    (case z10 => k_is)
    (case z11 => k_is)
    (case z12 => k_is)
