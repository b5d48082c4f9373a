import PyProof.Rows.All
import Wide.All
import OpenK.AllK
import Wide.FinOn
import HandS.ForMost
import HandS.ForExc
import HandS.TupAny
import HandS.IsInst
import HandS.Conv
import HandS.CallSlots
import HandS.SortInts
import HandS.Wide
import HandS.Deep
import HandS.TupMul
import HandS.Style
import HandS.TupLen
import HandS.WordsDict
import HandS.SetFor
import HandS.Remove
import HandS.More
import KE.DataMinMax
import HandS.Zip
import HandS.Defaults
import KE.KDictZip
import HandS.RaiseMore
import KE.SortData
import HandS.TupSets
import HandS.Strs
import PyProof.TupleOfSeq
import HandS.SetBool
import KE.OsSetLaws
import HandS.DictComp
import KE.GoesEnum
import KE.KDictWalk
import HandS.ExcInit
import HandS.TryOnly
import KE.KExcInit
import HandS.ExcIs
import HandS.ExcField
import PyProof.ExcBaseAll.LookupError
import PyProof.ExcBaseAll.RuntimeError
import PyProof.ExcBaseAll.OverflowError
import HandS.Flow
import PyProof.DictDisplay
import PyProof.Rows.RegFStrParts
import PyProof.FitsInt
import PySem.Challenge.RW_lookpast_k39_whole_kin_by_search_both_wa
set_option Elab.async false
set_option linter.all false
set_option maxRecDepth 100000
set_option maxRecDepth 100000
namespace MP
open PySem PySem.Spec PyProof.Rows L2

/-- a value of the mirror: tuples are data, lists and the like stand in a store -/
inductive PV where
  | non | bl (b : Bool) | int (i : Int) | str (s : Str) | tup (xs : List PV) | loc (n : Nat) | rol (xs : List PV)
instance : Inhabited PV := ⟨.non⟩

/-- an object of the store -/
inductive Ob where
  | lst (xs : List PV)
  | dK (kvs : List (Key × PV))
  | dT (kvs : List (List Key × PV))
  | ins (c : Str) (fs : List (Str × PV))
  | lk (o : Ob)
  | xo (u : HO)
  | dead
  | ftp (ns : List Int)
instance : Inhabited Ob := ⟨.lst []⟩

abbrev Ms := List Ob
abbrev Env' := List (Option PV)
structure Ex where
  cls : Str
  fs : List (Str × PV)
inductive Out (α : Type) where
  | ret (a : α) (S : Ms) | exc (x : Ex) (S : Ms) | fail
/-- how a statement ends -/
inductive SO where
  | nx (env : Env') (S : Ms) | rt (v : PV) (S : Ms) | bk (env : Env') (S : Ms) | ct (env : Env') (S : Ms) | exc (env : Env') (x : Ex) (S : Ms) | fail

def Out.bind {α β : Type} (o : Out α) (f : α → Ms → Out β) : Out β := match o with
  | .ret a S => f a S
  | .exc x S => .exc x S
  | .fail => .fail

/-! ### how a store lies in the heap -/
/-- a list that is never written (the script) -/
def RoL (K : PySem.W.Frag) (H : Hp) (a : Addr) (xs : List V) : Prop := (∃ o, H a = some (.frz o (.lst xs))) ∨
  ∃ (o : Obj) (its : Array Value) (n : Nat), K.lookup a = some o ∧ o.cls = .type "list" ∧ o.dict = none ∧ o.data = .seq its n ∧ its.size ≤ sizeLine ∧ Vals xs its.toList
theorem RoL.sq {K : PySem.W.Frag} {H : Hp} {a : Addr} {xs : List V} (h : RoL K H a xs) : SqL K H a xs := h.elim (fun ⟨o, h⟩ => .inl (.inr ⟨o, h⟩)) .inr
mutual
inductive VR (K : PySem.W.Frag) (H : Hp) (ρ : List Addr) : PV → V → Prop
  | non : VR K H ρ .non .non
  | bl (b : Bool) : VR K H ρ (.bl b) (.bl b)
  | int (i : Int) : VR K H ρ (.int i) (.int i)
  | str (s : Str) : VR K H ρ (.str s) (.str s)
  | loc {n : Nat} {a : Addr} : ρ[n]? = some a → VR K H ρ (.loc n) (.ref a)
  | tup {xs : List PV} {a : Addr} {vs : List V} : H a = some (.tup vs) → VRs K H ρ xs vs → VR K H ρ (.tup xs) (.ref a)
  | rol {xs : List PV} {a : Addr} {vs : List V} : RoL K H a vs → VRs K H ρ xs vs → VR K H ρ (.rol xs) (.ref a)
inductive VRs (K : PySem.W.Frag) (H : Hp) (ρ : List Addr) : List PV → List V → Prop
  | nil : VRs K H ρ [] []
  | cons {x : PV} {v : V} {xs : List PV} {vs : List V} : VR K H ρ x v → VRs K H ρ xs vs → VRs K H ρ (x :: xs) (v :: vs)
end
section
variable (K : PySem.W.Frag) (mg : Str → Option Value)
def KVR (H : Hp) (ρ : List Addr) {κ : Type} : List (κ × PV) → List (κ × V) → Prop := Paired fun p q => p.1 = q.1 ∧ VR K H ρ p.2 q.2
inductive OR (H : Hp) (ρ : List Addr) : Ob → HO → Prop
  | lst {xs : List PV} {vs : List V} : VRs K H ρ xs vs → OR H ρ (.lst xs) (.lst vs)
  | dK {xs : List (Key × PV)} {vs : List (Key × V)} : KVR K H ρ xs vs → OR H ρ (.dK xs) (.dK vs)
  | dT {xs : List (List Key × PV)} {vs : List (List Key × V)} : KVR K H ρ xs vs → OR H ρ (.dT xs) (.dT vs)
  | exn {c : Str} {C dd : Addr} {fs : List (Str × PV)} {gs : List (Str × V)} {oe od : Obj} {u : HO} : mg c = some (.ref C) → (oe.cls = .ref C ∧ oe.dict = some dd ∧ ∃ vs, oe.data = .fields vs) → H dd = some (.frz od (.xd gs)) → KVR K H ρ fs gs → OR H ρ (.ins c fs) (.frz oe u)
  | exn0 {c : Str} {C : Addr} {oe : Obj} {u : HO} : mg c = some (.ref C) → (oe.cls = .ref C ∧ oe.dict = none ∧ ∃ vs, oe.data = .fields vs) → OR H ρ (.ins c []) (.frz oe u)
  | lk {o : Ob} {u : HO} {oj : Obj} : OR H ρ o u → OR H ρ (.lk o) (.frz oj u)
  | ftp {ns : List Int} {oj : Obj} : oj.dict = none → OR H ρ (.ftp ns) (.frz oj (.tup (ns.map V.int)))
  | xo {u : HO} : (∀ xs, u ≠ .tup xs) → OR H ρ (.xo u) u
  | dead {u : HO} : (∀ xs, u ≠ .tup xs) → OR H ρ .dead u
structure HR (ρ : List Addr) (S : Ms) (H : Hp) : Prop where
  len : ρ.length = S.length
  nd : ρ.Nodup
  at_ : ∀ (n : Nat) (o : Ob), S[n]? = some o → ∃ a ho, ρ[n]? = some a ∧ H a = some ho ∧ OR K mg H ρ o ho
end
/-- the tuples and what is locked stay -/
def Ext (H H' : Hp) : Prop := ∀ a, (∀ xs, H a = some (.tup xs) → H' a = some (.tup xs)) ∧ (∀ o u, H a = some (.frz o u) → H' a = some (.frz o u))
theorem Ext.refl (H : Hp) : Ext H H := fun _ => ⟨fun _ h => h, fun _ _ h => h⟩
theorem Ext.trans {H H1 H2 : Hp} (a : Ext H H1) (b : Ext H1 H2) : Ext H H2 := fun c => ⟨fun xs h => (b c).1 xs ((a c).1 xs h), fun o u h => (b c).2 o u ((a c).2 o u h)⟩
theorem Ext.roL {K : PySem.W.Frag} {H H' : Hp} (e : Ext H H') {a : Addr} {vs : List V} (h : RoL K H a vs) : RoL K H' a vs := h.elim (fun ⟨o, h⟩ => .inl ⟨o, (e a).2 _ _ h⟩) .inr
/-- the addresses grow -/
def Grow (ρ ρ' : List Addr) : Prop := ∀ (n : Nat) (a : Addr), ρ[n]? = some a → ρ'[n]? = some a
theorem Grow.refl (ρ : List Addr) : Grow ρ ρ := fun _ _ h => h
theorem Grow.trans {a b c : List Addr} (h : Grow a b) (h' : Grow b c) : Grow a c := fun n x e => h' n x (h n x e)
theorem Grow.snoc (ρ : List Addr) (p : Addr) : Grow ρ (ρ ++ [p]) := fun n a e => by
  rw [List.getElem?_append_left (by have := (List.getElem?_eq_some_iff.mp e).1; exact this)]; exact e
section
variable {K : PySem.W.Frag} {mg : Str → Option Value} {H H' : Hp} {ρ ρ' : List Addr}
mutual
theorem VR.mono (e : Ext H H') (g : Grow ρ ρ') : ∀ {x : PV} {v : V}, VR K H ρ x v → VR K H' ρ' x v
  | _, _, .non => .non
  | _, _, .bl b => .bl b
  | _, _, .int i => .int i
  | _, _, .str s => .str s
  | _, _, .loc h => .loc (g _ _ h)
  | _, _, .tup h hs => .tup ((e _).1 _ h) (VRs.mono e g hs)
  | _, _, .rol h hs => .rol (e.roL h) (VRs.mono e g hs)
theorem VRs.mono (e : Ext H H') (g : Grow ρ ρ') : ∀ {xs : List PV} {vs : List V}, VRs K H ρ xs vs → VRs K H' ρ' xs vs
  | _, _, .nil => .nil
  | _, _, .cons h t => .cons (VR.mono e g h) (VRs.mono e g t)
end
theorem KVR.mono {κ : Type} (e : Ext H H') (g : Grow ρ ρ') {xs : List (κ × PV)} {vs : List (κ × V)} (h : KVR K H ρ xs vs) : KVR K H' ρ' xs vs :=
  Paired.mapP h fun _ _ z => ⟨z.1, z.2.mono e g⟩
theorem OR.mono (e : Ext H H') (g : Grow ρ ρ') {o : Ob} {u : HO} (h : OR K mg H ρ o u) : OR K mg H' ρ' o u := by
  induction h with
  | lst h => exact .lst (h.mono e g)
  | dK h => exact .dK (h.mono e g)
  | dT h => exact .dT (h.mono e g)
  | exn c q d h => exact .exn c q ((e _).2 _ _ d) (h.mono e g)
  | exn0 c q => exact .exn0 c q
  | lk h ih => exact .lk ih
  | ftp h => exact .ftp h
  | xo h => exact .xo h
  | dead h => exact .dead h
theorem VRs.length : ∀ {xs : List PV} {vs : List V}, VRs K H ρ xs vs → vs.length = xs.length
  | _, _, .nil => rfl
  | _, _, .cons _ t => by rw [List.length_cons, List.length_cons, VRs.length t]
theorem VRs.get : ∀ {xs : List PV} {vs : List V} {i : Nat} {x : PV}, VRs K H ρ xs vs → xs[i]? = some x → ∃ v, vs[i]? = some v ∧ VR K H ρ x v
  | _, _, _, _, .nil, e => by simp at e
  | _, _, 0, x, .cons (v := v) h _, e => ⟨v, rfl, by simp at e; subst e; exact h⟩
  | _, _, i + 1, x, .cons _ t, e => by
    obtain ⟨v, h1, h2⟩ := VRs.get (i := i) (x := x) t (by simpa using e)
    exact ⟨v, by simpa using h1, h2⟩
theorem VRs.append : ∀ {xs ys : List PV} {vs ws : List V}, VRs K H ρ xs vs → VRs K H ρ ys ws → VRs K H ρ (xs ++ ys) (vs ++ ws)
  | _, _, _, _, .nil, h => h
  | _, _, _, _, .cons h t, h' => .cons h (VRs.append t h')
theorem VRs.take : ∀ {xs : List PV} {vs : List V} (n : Nat), VRs K H ρ xs vs → VRs K H ρ (xs.take n) (vs.take n)
  | _, _, 0, _ => .nil
  | _, _, _ + 1, .nil => .nil
  | _, _, n + 1, .cons h t => .cons h (VRs.take n t)
theorem VRs.drop : ∀ {xs : List PV} {vs : List V} (n : Nat), VRs K H ρ xs vs → VRs K H ρ (xs.drop n) (vs.drop n)
  | _, _, 0, h => h
  | _, _, _ + 1, .nil => .nil
  | _, _, n + 1, .cons _ t => VRs.drop n t
theorem VRs.set {x : PV} {v : V} (r : VR K H ρ x v) : ∀ {xs : List PV} {vs : List V} (i : Nat), VRs K H ρ xs vs → VRs K H ρ (xs.set i x) (vs.set i v)
  | _, _, _, .nil => .nil
  | _, _, 0, .cons _ t => .cons r t
  | _, _, i + 1, .cons q t => .cons q (VRs.set r i t)
theorem VRs.reverse : ∀ {xs : List PV} {vs : List V}, VRs K H ρ xs vs → VRs K H ρ xs.reverse vs.reverse
  | _, _, .nil => .nil
  | _, _, .cons h t => by rw [List.reverse_cons, List.reverse_cons]; exact (VRs.reverse t).append (.cons h .nil)
theorem VRs.eraseIdx : ∀ {xs : List PV} {vs : List V} (i : Nat), VRs K H ρ xs vs → VRs K H ρ (xs.eraseIdx i) (vs.eraseIdx i)
  | _, _, _, .nil => .nil
  | _, _, 0, .cons _ t => t
  | _, _, i + 1, .cons h t => .cons h (VRs.eraseIdx i t)
theorem VRs.ints : ∀ (ns : List Int), VRs K H ρ (ns.map PV.int) (ns.map V.int)
  | [] => .nil
  | n :: r => .cons (.int n) (VRs.ints r)
theorem VRs.ints_inv : ∀ {ns : List Int} {vs : List V}, VRs K H ρ (ns.map PV.int) vs → vs = ns.map V.int
  | [], _, h => by cases h; rfl
  | n :: r, _, h => by
    cases h with
    | cons h t => cases h; rw [VRs.ints_inv t]; rfl
theorem VRs.bls_inv : ∀ {ns : List Bool} {vs : List V}, VRs K H ρ (ns.map PV.bl) vs → vs = ns.map V.bl
  | [], _, h => by cases h; rfl
  | n :: r, _, h => by
    cases h with
    | cons h t => cases h; rw [VRs.bls_inv t]; rfl
/-- the locals -/
def ER (K : PySem.W.Frag) (H : Hp) (ρ : List Addr) : Env' → List (Option V) → Prop := Paired fun e s => ∀ x, e = some x → ∃ v, s = some v ∧ VR K H ρ x v
theorem ER.mono (e : Ext H H') (g : Grow ρ ρ') {env : Env'} {σ : List (Option V)} (h : ER K H ρ env σ) : ER K H' ρ' env σ :=
  Paired.mapP h fun _ _ z x ex => let ⟨v, h1, h2⟩ := z x ex; ⟨v, h1, h2.mono e g⟩
theorem ER.get : ∀ {env : Env'} {σ : List (Option V)} {i : Nat} {x : PV}, ER K H ρ env σ → env[i]? = some (some x) → ∃ v, σ[i]? = some (some v) ∧ VR K H ρ x v
  | _, _, _, _, .nil, e => by simp at e
  | _, _, 0, x, .cons h _, e => by
    simp at e; subst e
    obtain ⟨v, h1, h2⟩ := h x rfl
    subst h1; exact ⟨v, rfl, h2⟩
  | _, _, i + 1, x, .cons _ t, e => by
    obtain ⟨v, h1, h2⟩ := ER.get (i := i) (x := x) t (by simpa using e)
    exact ⟨v, by simpa using h1, h2⟩
theorem ER.set {x : PV} {v : V} (r : VR K H ρ x v) : ∀ {env : Env'} {σ : List (Option V)} (i : Nat), ER K H ρ env σ → ER K H ρ (env.set i (some x)) (σ.set i (some v))
  | _, _, _, .nil => .nil
  | _, _, 0, .cons _ t => .cons (fun y e => by cases e; exact ⟨v, rfl, r⟩) t
  | _, _, i + 1, .cons q t => .cons q (ER.set r i t)
theorem ER.setN : ∀ {env : Env'} {σ : List (Option V)} (i : Nat) (s : Option V), ER K H ρ env σ → ER K H ρ (env.set i none) (σ.set i s)
  | _, _, _, _, .nil => .nil
  | _, _, 0, _, .cons _ t => .cons (fun y e => by cases e) t
  | _, _, i + 1, s, .cons q t => .cons q (ER.setN i s t)
theorem ER.start : ∀ {xs : List PV} {vs : List V} (n : Nat), VRs K H ρ xs vs → ER K H ρ (xs.map some ++ List.replicate n none) (vs.map some ++ List.replicate n none)
  | _, _, 0, .nil => .nil
  | _, _, n + 1, .nil => by rw [List.replicate_succ, List.replicate_succ]; exact .cons (fun _ e => by cases e) (ER.start n .nil)
  | _, _, n, .cons h t => .cons (fun y e => by cases e; exact ⟨_, rfl, h⟩) (ER.start n t)
end
end MP

set_option maxRecDepth 100000
namespace MP
open PySem PySem.Spec PyProof.Rows L2
section
variable {K : PySem.W.Frag} {mg : Str → Option Value} {H H' : Hp} {ρ ρ' : List Addr} {S : Ms}

theorem nodup_inj {l : List Addr} (h : l.Nodup) {i j : Nat} (hi : i < l.length) (hj : j < l.length) (e : l[i] = l[j]) : i = j := by
  have h' := List.pairwise_iff_getElem.mp h
  rcases Nat.lt_trichotomy i j with q | q | q
  · exact absurd e (h' i j hi hj q)
  · exact q
  · exact absurd e.symm (h' j i hj hi q)
theorem Ext.new {p : Addr} {o : HO} (h : H p = none) : Ext H (upd H p o) := fun a =>
  ⟨fun xs e => by rw [upd_ne (ne_of_none e h)]; exact e, fun o u e => by rw [upd_ne (ne_of_none e h)]; exact e⟩
/-- what is neither a tuple nor locked -/
def Soft (u : HO) : Prop := (∀ xs, u ≠ .tup xs) ∧ ∀ o x, u ≠ .frz o x
theorem Ext.put {p : Addr} {o u : HO} (h : H p = some u) (s : Soft u) : Ext H (upd H p o) := fun a =>
  ⟨fun xs e => by rw [upd_ne (ne_of e h (fun z => s.1 xs z.symm))]; exact e, fun o x e => by rw [upd_ne (ne_of e h (fun z => s.2 o x z.symm))]; exact e⟩

theorem HR.fresh (R : HR K mg ρ S H) {p : Addr} (h : H p = none) : p ∉ ρ := fun hp => by
  obtain ⟨n, hn, e⟩ := List.getElem_of_mem hp
  have hs : n < S.length := by rw [← R.len]; exact hn
  obtain ⟨a, ho, h1, h2, _⟩ := R.at_ n S[n] (List.getElem?_eq_getElem hs)
  rw [List.getElem?_eq_getElem hn] at h1
  cases h1
  rw [e, h] at h2
  cases h2
theorem HR.get (R : HR K mg ρ S H) {n : Nat} {a : Addr} {o : Ob} (h : ρ[n]? = some a) (e : S[n]? = some o) : ∃ ho, H a = some ho ∧ OR K mg H ρ o ho := by
  obtain ⟨a', ho, h1, h2, h3⟩ := R.at_ n o e
  rw [h] at h1; cases h1
  exact ⟨ho, h2, h3⟩
/-- an untracked object (a tuple) more in the heap -/
theorem HR.mono (R : HR K mg ρ S H) (e : Ext H H') (k : ∀ (n : Nat) (a : Addr), ρ[n]? = some a → H' a = H a) : HR K mg ρ S H' :=
  ⟨R.len, R.nd, fun n o h => let ⟨a, ho, h1, h2, h3⟩ := R.at_ n o h; ⟨a, ho, h1, by rw [k n a h1]; exact h2, h3.mono e (.refl _)⟩⟩
theorem HR.newTup (R : HR K mg ρ S H) {p : Addr} {vs : List V} (h : H p = none) : HR K mg ρ S (upd H p (.tup vs)) :=
  R.mono (.new h) fun n a e => by
    rw [upd_ne]
    intro z
    subst z
    exact R.fresh h (List.mem_of_getElem? e)
/-- a new object of the store -/
theorem HR.new (R : HR K mg ρ S H) {p : Addr} {o : Ob} {u : HO} (h : H p = none) (r : OR K mg H ρ o u) : HR K mg (ρ ++ [p]) (S ++ [o]) (upd H p u) := by
  have nf := R.fresh h
  refine ⟨by rw [List.length_append, List.length_append, R.len]; rfl, List.nodup_append.mpr ⟨R.nd, by simp, fun a ha b hb => ?_⟩, fun n o' e => ?_⟩
  · simp at hb; subst hb; intro z; subst z; exact nf ha
  · by_cases hn : n < S.length
    · rw [List.getElem?_append_left hn] at e
      obtain ⟨a, ho, h1, h2, h3⟩ := R.at_ n o' e
      refine ⟨a, ho, Grow.snoc _ _ _ _ h1, ?_, h3.mono (.new h) (.snoc _ _)⟩
      rw [upd_ne (ne_of_none h2 h)]; exact h2
    · have e' : n = S.length := by
        have := (List.getElem?_eq_some_iff.mp e).1
        rw [List.length_append] at this
        simp at this
        omega
      subst e'
      simp at e
      subst e
      refine ⟨p, u, ?_, upd_same, r.mono (.new h) (.snoc _ _)⟩
      rw [← R.len]; simp
theorem VR.new {p : Addr} : VR K H' (ρ ++ [p]) (.loc ρ.length) (.ref p) := .loc (by simp)
/-- an object is changed -/
theorem HR.put (R : HR K mg ρ S H) {n : Nat} {a : Addr} {o : Ob} {u u' : HO} (hn : ρ[n]? = some a) (ha : H a = some u) (s : Soft u) (r : OR K mg H ρ o u') : HR K mg ρ (S.set n o) (upd H a u') := by
  have ex : Ext H (upd H a u') := .put ha s
  refine ⟨by rw [R.len, List.length_set], R.nd, fun m o' e => ?_⟩
  by_cases hm : n = m
  · subst hm
    have hl : n < S.length := by
      have := (List.getElem?_eq_some_iff.mp e).1
      rw [List.length_set] at this
      exact this
    rw [List.getElem?_set_self hl] at e
    cases e
    exact ⟨a, u', hn, upd_same, r.mono ex (.refl _)⟩
  · rw [List.getElem?_set_ne hm] at e
    obtain ⟨b, ho, h1, h2, h3⟩ := R.at_ m o' e
    refine ⟨b, ho, h1, ?_, h3.mono ex (.refl _)⟩
    rw [upd_ne]; exact h2
    intro z
    subst z
    have hmb := (List.getElem?_eq_some_iff.mp h1)
    have hnb := (List.getElem?_eq_some_iff.mp hn)
    obtain ⟨l1, q1⟩ := hmb
    obtain ⟨l2, q2⟩ := hnb
    exact hm (nodup_inj R.nd l2 l1 (q2.trans q1.symm))
end

/-! ### what is wanted behind an expression, behind a statement -/
section
variable (K : PySem.W.Frag) (mg : Str → Option Value)
/-- what lies in an exception's dict -/
def XR (H : Hp) (ρ : List Addr) (fs : List (Str × PV)) (d : Option Addr) : Prop := (∃ dd gs, d = some dd ∧ H dd = some (.xd gs) ∧ dd ∉ ρ ∧ KVR K H ρ fs gs) ∨ (d = none ∧ fs = [])
def Post (ρ : List Addr) (H : Hp) (σ : L2.St) (W : WX) (Q : VK) : Out PV → Prop
  | .ret v S' => ∀ ρ' v' H', Grow ρ ρ' → HR K mg ρ' S' H' → Ext H H' → VR K H' ρ' v v' → Q v' H'
  | .exc x S' => ∀ ρ' C d H', Grow ρ ρ' → HR K mg ρ' S' H' → Ext H H' → mg x.cls = some (.ref C) → XR K H' ρ' x.fs d → W (.ref C) d σ H'
  | .fail => False
def PostL (ρ : List Addr) (H : Hp) (σ : L2.St) (W : WX) (Q : List V → Hp → Prop) : Out (List PV) → Prop
  | .ret v S' => ∀ ρ' v' H', Grow ρ ρ' → HR K mg ρ' S' H' → Ext H H' → VRs K H' ρ' v v' → Q v' H'
  | .exc x S' => ∀ ρ' C d H', Grow ρ ρ' → HR K mg ρ' S' H' → Ext H H' → mg x.cls = some (.ref C) → XR K H' ρ' x.fs d → W (.ref C) d σ H'
  | .fail => False
def PostB (ρ : List Addr) (H : Hp) (σ : L2.St) (W : WX) (Q : Bool → Hp → Prop) : Out Bool → Prop
  | .ret v S' => ∀ ρ' H', Grow ρ ρ' → HR K mg ρ' S' H' → Ext H H' → Q v H'
  | .exc x S' => ∀ ρ' C d H', Grow ρ ρ' → HR K mg ρ' S' H' → Ext H H' → mg x.cls = some (.ref C) → XR K H' ρ' x.fs d → W (.ref C) d σ H'
  | .fail => False
def PostS (ρ : List Addr) (H : Hp) (W : WX) (D : Ends) : SO → Prop
  | .nx e S' => ∀ ρ' σ' H', Grow ρ ρ' → HR K mg ρ' S' H' → Ext H H' → ER K H' ρ' e σ' → D.nx σ' H'
  | .rt v S' => ∀ ρ' v' H', Grow ρ ρ' → HR K mg ρ' S' H' → Ext H H' → VR K H' ρ' v v' → D.rt v' H'
  | .bk e S' => ∀ ρ' σ' H', Grow ρ ρ' → HR K mg ρ' S' H' → Ext H H' → ER K H' ρ' e σ' → D.bk σ' H'
  | .ct e S' => ∀ ρ' σ' H', Grow ρ ρ' → HR K mg ρ' S' H' → Ext H H' → ER K H' ρ' e σ' → D.ct σ' H'
  | .exc e x S' => ∀ ρ' σ' C d H', Grow ρ ρ' → HR K mg ρ' S' H' → Ext H H' → ER K H' ρ' e σ' → mg x.cls = some (.ref C) → XR K H' ρ' x.fs d → W (.ref C) d σ' H'
  | .fail => False
end
section
variable {K : PySem.W.Frag} {mg : Str → Option Value} {H H' : Hp} {ρ ρ' : List Addr} {S : Ms} {σ : L2.St} {W : WX} {D : Ends}
theorem Post.mono {Q : VK} {o : Out PV} (g : Grow ρ ρ') (e : Ext H H') (h : Post K mg ρ H σ W Q o) : Post K mg ρ' H' σ W Q o := by
  cases o with
  | ret v S => exact fun r v' h' g' R e' => h r v' h' (g.trans g') R (e.trans e')
  | exc x S => exact fun r C d h' g' R e' => h r C d h' (g.trans g') R (e.trans e')
  | fail => exact h
theorem PostL.mono {Q : List V → Hp → Prop} {o : Out (List PV)} (g : Grow ρ ρ') (e : Ext H H') (h : PostL K mg ρ H σ W Q o) : PostL K mg ρ' H' σ W Q o := by
  cases o with
  | ret v S => exact fun r v' h' g' R e' => h r v' h' (g.trans g') R (e.trans e')
  | exc x S => exact fun r C d h' g' R e' => h r C d h' (g.trans g') R (e.trans e')
  | fail => exact h
theorem PostB.mono {Q : Bool → Hp → Prop} {o : Out Bool} (g : Grow ρ ρ') (e : Ext H H') (h : PostB K mg ρ H σ W Q o) : PostB K mg ρ' H' σ W Q o := by
  cases o with
  | ret v S => exact fun r h' g' R e' => h r h' (g.trans g') R (e.trans e')
  | exc x S => exact fun r C d h' g' R e' => h r C d h' (g.trans g') R (e.trans e')
  | fail => exact h
theorem PostS.mono {o : SO} (g : Grow ρ ρ') (e : Ext H H') (h : PostS K mg ρ H W D o) : PostS K mg ρ' H' W D o := by
  cases o with
  | nx en S => exact fun r s h' g' R e' => h r s h' (g.trans g') R (e.trans e')
  | rt v S => exact fun r v' h' g' R e' => h r v' h' (g.trans g') R (e.trans e')
  | bk en S => exact fun r s h' g' R e' => h r s h' (g.trans g') R (e.trans e')
  | ct en S => exact fun r s h' g' R e' => h r s h' (g.trans g') R (e.trans e')
  | exc en x S => exact fun r s C d h' g' R e' => h r s C d h' (g.trans g') R (e.trans e')
  | fail => exact h
end

/-! ### the judgements: a piece of syntax and its mirror -/
abbrev ME := Env' → Ms → Out PV
abbrev ML := Env' → Ms → Out (List PV)
abbrev MB := Env' → Ms → Out Bool
abbrev MS := Env' → Ms → SO
def SE (X : Cx) (W : WX) (e : Expr) (m : ME) : Prop := ∃ t, PE X e t ∧ ∀ ρ env S σ H Q, HR X.K X.mg ρ S H → ER X.K H ρ env σ → Post X.K X.mg ρ H σ W Q (m env S) → t σ H Q
def SA (X : Cx) (W : WX) (es : List Expr) (m : ML) : Prop := ∃ t, PA X es t ∧ ∀ ρ env S σ H Q, HR X.K X.mg ρ S H → ER X.K H ρ env σ → PostL X.K X.mg ρ H σ W Q (m env S) → t σ H Q
def SB (X : Cx) (W : WX) (e : Expr) (m : MB) : Prop := ∃ t, PT X e t ∧ ∀ ρ env S σ H Q, HR X.K X.mg ρ S H → ER X.K H ρ env σ → PostB X.K X.mg ρ H σ W Q (m env S) → t σ H Q
def SW (X : Cx) (W : WX) (e : Expr) (m : MB) : Prop := ∃ t, PW X e t ∧ ∀ ρ env S σ H Q, HR X.K X.mg ρ S H → ER X.K H ρ env σ → PostB X.K X.mg ρ H σ W Q (m env S) → t σ H Q
def SS (X : Cx) (W : WX) (st : Stmt) (m : MS) : Prop := ∃ t, PS X st t ∧ ∀ ρ env S σ H D, HR X.K X.mg ρ S H → ER X.K H ρ env σ → PostS X.K X.mg ρ H W D (m env S) → t D σ H
def SSs (X : Cx) (W : WX) (st : List Stmt) (m : MS) : Prop := ∃ t, PSs X st t ∧ ∀ ρ env S σ H D, HR X.K X.mg ρ S H → ER X.K H ρ env σ → PostS X.K X.mg ρ H W D (m env S) → t D σ H

/-! ### expressions -/
section
variable {X : Cx} {W : WX} {a b e : Expr} {es : List Expr} {pos : Pos} {m n : ME} {ml : ML}
def mVar (i : Nat) : ME := fun env S => match env[i]? with | some (some v) => .ret v S | _ => .fail
theorem s_var (i : Nat) {x : Str} (hN : X.N[i]? = some x := by rfl) (hv : Vis X.env.scope x := by first | exact Or.inl rfl | exact Or.inr (Or.inl rfl) | exact Or.inr (Or.inr rfl)) (hd : (x == ("__debug__" : Str)) = false := by decide)
    (hcd : (x == ("__classdict__" : Str)) = false := by decide) : SE X W (.Name x pos) (mVar i) := ⟨_, pe_var hN hv hd hcd, fun ρ env S σ H Q R er h => by
  unfold mVar at h
  split at h
  · rename_i v ev
    obtain ⟨v', h1, h2⟩ := er.get ev
    exact ⟨v', h1, h _ _ _ (.refl _) R (.refl _) h2⟩
  · exact h.elim⟩
def mC (v : PV) : ME := fun _ S => .ret v S
theorem s_int {i j} : SE X W (.Constant (.int i) j pos) (mC (.int i)) := ⟨_, pe_int, fun ρ env S σ H Q R er h => h _ _ _ (.refl _) R (.refl _) (.int i)⟩
theorem s_bl {i j} : SE X W (.Constant (.bool i) j pos) (mC (.bl i)) := ⟨_, pe_bl, fun ρ env S σ H Q R er h => h _ _ _ (.refl _) R (.refl _) (.bl i)⟩
/-- two values, an operation on them -/
def m2 (a b : ME) (f : PV → PV → Ms → Out PV) : ME := fun env S => (a env S).bind fun x S1 => (b env S1).bind fun y S2 => f x y S2
def m1 (a : ME) (f : PV → Ms → Out PV) : ME := fun env S => (a env S).bind fun x S1 => f x S1
/-- a rule by values serves the operation f -/
def O2 (X : Cx) (W : WX) (f : PV → PV → Ms → Out PV) (r : V → V → Hp → VK → Prop) : Prop :=
  ∀ ρ S H σ Q x y x' y', HR X.K X.mg ρ S H → VR X.K H ρ x x' → VR X.K H ρ y y' → Post X.K X.mg ρ H σ W Q (f x y S) → r x' y' H Q
def O1 (X : Cx) (W : WX) (f : PV → Ms → Out PV) (r : V → Hp → VK → Prop) : Prop :=
  ∀ ρ S H σ Q x x', HR X.K X.mg ρ S H → VR X.K H ρ x x' → Post X.K X.mg ρ H σ W Q (f x S) → r x' H Q
def OL (X : Cx) (W : WX) (f : List PV → Ms → Out PV) (r : List V → Hp → VK → Prop) : Prop :=
  ∀ ρ S H σ Q x x', HR X.K X.mg ρ S H → VRs X.K H ρ x x' → Post X.K X.mg ρ H σ W Q (f x S) → r x' H Q

theorem bin_ok {ta tb : TE} {r : V → V → Hp → VK → Prop} {f : PV → PV → Ms → Out PV}
    (ha : ∀ ρ env S σ H Q, HR X.K X.mg ρ S H → ER X.K H ρ env σ → Post X.K X.mg ρ H σ W Q (m env S) → ta σ H Q)
    (hb : ∀ ρ env S σ H Q, HR X.K X.mg ρ S H → ER X.K H ρ env σ → Post X.K X.mg ρ H σ W Q (n env S) → tb σ H Q) (hf : O2 X W f r)
    (ρ env S σ H Q) (R : HR X.K X.mg ρ S H) (er : ER X.K H ρ env σ) (h : Post X.K X.mg ρ H σ W Q (m2 m n f env S)) : tOp r ta tb σ H Q := by
  refine ha ρ env S σ H _ R er ?_
  unfold m2 at h
  cases e : m env S with
  | fail => rw [e] at h; exact h.elim
  | exc x S => rw [e] at h; exact h
  | ret x S1 =>
    rw [e] at h
    intro ρ1 x' H1 g1 R1 e1 r1
    refine hb ρ1 env S1 σ H1 _ R1 (er.mono e1 g1) ?_
    have h := Post.mono g1 e1 h
    simp only [Out.bind] at h
    cases e : n env S1 with
    | fail => rw [e] at h; exact h.elim
    | exc x S => rw [e] at h; exact h
    | ret y S2 =>
      rw [e] at h
      intro ρ2 y' H2 g2 R2 e2 r2
      exact hf ρ2 S2 H2 σ Q x y x' y' R2 (r1.mono e2 g2) r2 (Post.mono g2 e2 h)
theorem s_op {op : Operator} {f : PV → PV → Ms → Out PV} {r : V → V → Hp → VK → Prop} (ho : OpR X (binaryOp op) r) (hf : O2 X W f r) (ha : SE X W a m) (hb : SE X W b n) : SE X W (.BinOp a op b pos) (m2 m n f) :=
  let ⟨_, pa, qa⟩ := ha; let ⟨_, pb, qb⟩ := hb
  ⟨_, pe_op ho pa pb, bin_ok qa qb hf⟩
theorem un_ok {ta : TE} {r : V → Hp → VK → Prop} {f : PV → Ms → Out PV}
    (ha : ∀ ρ env S σ H Q, HR X.K X.mg ρ S H → ER X.K H ρ env σ → Post X.K X.mg ρ H σ W Q (m env S) → ta σ H Q) (hf : O1 X W f r)
    (ρ env S σ H Q) (R : HR X.K X.mg ρ S H) (er : ER X.K H ρ env σ) (h : Post X.K X.mg ρ H σ W Q (m1 m f env S)) : tUn r ta σ H Q := by
  refine ha ρ env S σ H _ R er ?_
  unfold m1 at h
  cases e : m env S with
  | fail => rw [e] at h; exact h.elim
  | exc x S => rw [e] at h; exact h
  | ret x S1 =>
    rw [e] at h
    intro ρ1 x' H1 g1 R1 e1 r1
    exact hf ρ1 S1 H1 σ Q x x' R1 r1 (Post.mono g1 e1 h)
theorem s_un {op : UnaryOp} {f : PV → Ms → Out PV} {r : V → Hp → VK → Prop} (ho : UnR X (unaryOp op) r) (hf : O1 X W f r) (ha : SE X W a m) : SE X W (.UnaryOp op a pos) (m1 m f) :=
  let ⟨_, pa, qa⟩ := ha
  ⟨_, pe_un ho pa, un_ok qa hf⟩
/-- comparisons by values -/
theorem s_cmp {op : CmpOp} {f : PV → PV → Ms → Out PV} {r : V → V → Hp → VK → Prop} (ho : OpR X (compareOp op) r) (hf : O2 X W f r) (ha : SE X W a m) (hb : SE X W b n) (h1 : behindInMarks op b = false := by first | exact nobehind _ (by decide) (by decide) | rfl) :
    SE X W (.Compare a [op] [b] pos) (m2 m n f) :=
  let ⟨_, pa, qa⟩ := ha; let ⟨_, pb, qb⟩ := hb
  ⟨_, pe_cmpR ho pa pb h1, bin_ok qa qb hf⟩
/-- argument lists -/
def mNil : ML := fun _ S => .ret [] S
def mCons (a : ME) (r : ML) : ML := fun env S => match a env S with
  | .ret x S1 => (match r env S1 with | .ret xs S2 => .ret (x :: xs) S2 | .exc x S => .exc x S | .fail => .fail)
  | .exc x S => .exc x S
  | .fail => .fail
theorem sa_nil : SA X W [] mNil := ⟨_, pa_nil, fun ρ env S σ H Q R er h => h _ _ _ (.refl _) R (.refl _) .nil⟩
theorem sa_cons (ha : SE X W e m) (hr : SA X W es ml) (hs : starEach (e :: es) X.env = (false, eval e X.env) :: starEach es X.env := by rfl) : SA X W (e :: es) (mCons m ml) :=
  let ⟨_, pa, qa⟩ := ha; let ⟨_, pb, qb⟩ := hr
  ⟨_, pa_cons pa pb hs, fun ρ env S σ H Q R er h => by
    refine qa ρ env S σ H _ R er ?_
    unfold mCons at h
    cases e : m env S with
    | fail => rw [e] at h; exact h.elim
    | exc x S => rw [e] at h; exact h
    | ret x S1 =>
      rw [e] at h
      intro ρ1 x' H1 g1 R1 e1 r1
      refine qb ρ1 env S1 σ H1 _ R1 (er.mono e1 g1) ?_
      have h := PostL.mono g1 e1 h
      cases e : ml env S1 with
      | fail => simp only [e] at h; exact h.elim
      | exc x S => simp only [e] at h; exact h
      | ret xs S2 =>
        simp only [e] at h
        intro ρ2 xs' H2 g2 R2 e2 r2
        exact h ρ2 _ H2 g2 R2 e2 (.cons (r1.mono e2 g2) r2)⟩
theorem args_ok {t : TA} {r : List V → Hp → VK → Prop} {f : List PV → Ms → Out PV}
    (ha : ∀ ρ env S σ H Q, HR X.K X.mg ρ S H → ER X.K H ρ env σ → PostL X.K X.mg ρ H σ W Q (ml env S) → t σ H Q) 
    (ρ env S σ H Q) (hf : ∀ ρ' S' H' x x', Grow ρ ρ' → Ext H H' → HR X.K X.mg ρ' S' H' → VRs X.K H' ρ' x x' → Post X.K X.mg ρ' H' σ W Q (f x S') → r x' H' Q) (R : HR X.K X.mg ρ S H) (er : ER X.K H ρ env σ) (h : Post X.K X.mg ρ H σ W Q ((ml env S).bind f)) : t σ H (fun x H1 => r x H1 Q) := by
  refine ha ρ env S σ H _ R er ?_
  cases e : ml env S with
  | fail => rw [e] at h; exact h.elim
  | exc x S => rw [e] at h; exact h
  | ret x S1 =>
    rw [e] at h
    intro ρ1 x' H1 g1 R1 e1 r1
    exact hf ρ1 S1 H1 x x' g1 e1 R1 r1 (Post.mono g1 e1 h)
def mL (l : ML) (f : List PV → Ms → Out PV) : ME := fun env S => (l env S).bind f
/-- a new list, a tuple -/
def lim : Nat := 16000000
theorem lim_le {n : Nat} (h : n ≤ lim) : n ≤ sizeLine := Nat.le_trans h (by decide)
def oList (xs : List PV) (S : Ms) : Out PV := if xs.length ≤ lim then .ret (.loc S.length) (S ++ [.lst xs]) else .fail
def oTup (xs : List PV) (S : Ms) : Out PV := if xs.length ≤ lim then .ret (.tup xs) S else .fail
theorem new_list {ρ H σ S Q} {xs : List PV} {vs : List V} (R : HR X.K X.mg ρ S H) (r : VRs X.K H ρ xs vs) (h : Post X.K X.mg ρ H σ W Q (.ret (.loc S.length) (S ++ [.lst xs]))) {p : Addr} (hp : H p = none) : Q (.ref p) (upd H p (.lst vs)) :=
  h (ρ ++ [p]) _ _ (.snoc _ _) (R.new hp (.lst r)) (.new hp) (by rw [← R.len]; exact .new)
theorem s_list (ha : SA X W es ml) : SE X W (.List es pos) (mL ml oList) :=
  let ⟨_, pa, qa⟩ := ha
  ⟨_, pe_lst pa, fun ρ env S σ H Q R er h => args_ok (r := fun xs H1 Q => xs.length ≤ sizeLine ∧ ∀ p, H1 p = none → Q (.ref p) (upd H1 p (.lst xs))) qa ρ env S σ H Q (fun ρ' S' H' x x' g e R' r h' => by
    unfold oList at h'
    split at h'
    · rename_i hl
      exact ⟨by rw [r.length]; exact lim_le hl, fun p hp => new_list R' r h' hp⟩
    · exact h'.elim) R er h⟩
theorem new_tup {ρ H σ S Q} {xs : List PV} {vs : List V} (R : HR X.K X.mg ρ S H) (r : VRs X.K H ρ xs vs) (h : Post X.K X.mg ρ H σ W Q (.ret (.tup xs) S)) {p : Addr} (hp : H p = none) : Q (.ref p) (upd H p (.tup vs)) :=
  h ρ _ _ (.refl _) (R.newTup hp) (.new hp) (.tup upd_same (r.mono (.new hp) (.refl _)))
theorem s_tup {k} (ha : SA X W es ml) : SE X W (.Tuple es k pos) (mL ml oTup) :=
  let ⟨_, pa, qa⟩ := ha
  ⟨_, pe_tup pa, fun ρ env S σ H Q R er h => args_ok (r := fun xs H1 Q => xs.length ≤ sizeLine ∧ ∀ p, H1 p = none → Q (.ref p) (upd H1 p (.tup xs))) qa ρ env S σ H Q (fun ρ' S' H' x x' g e R' r h' => by
    unfold oTup at h'
    split at h'
    · rename_i hl
      exact ⟨by rw [r.length]; exact lim_le hl, fun p hp => new_tup R' r h' hp⟩
    · exact h'.elim) R er h⟩
end
end MP

set_option maxRecDepth 100000
namespace MP
open PySem PySem.Spec PyProof.Rows L2

theorem or_or {X : Cx} {f : Value → Value → Sem Value} {r r' : R2} (h : OpR X f r) (h' : OpR X f r') : OpR X f (fun x y H Q => r x y H Q ∨ r' x y H Q) := fun pins s σ H x y v u Q I rx ry q =>
  q.elim (h pins s σ H x y v u Q I rx ry) (h' pins s σ H x y v u Q I rx ry)
theorem call_or {X : Cx} {f : Value} {r r' : List V → Hp → VK → Prop} (h : CallR X f r) (h' : CallR X f r') : CallR X f (fun x H Q => r x H Q ∨ r' x H Q) := fun pins s σ H x v Q I rx q =>
  q.elim (h pins s σ H x v Q I rx) (h' pins s σ H x v Q I rx)

section
variable {X : Cx} {W : WX}
/-- an answer without a new object -/
theorem Post.now {ρ H σ S Q} {v : PV} {v' : V} (R : HR X.K X.mg ρ S H) (r : VR X.K H ρ v v') (h : Post X.K X.mg ρ H σ W Q (.ret v S)) : Q v' H := h _ _ _ (.refl _) R (.refl _) r
/-- the list at a place -/
theorem HR.lst {ρ : List Addr} {S : Ms} {H : Hp} {n : Nat} {a : Addr} {xs : List (PV)} (R : HR X.K X.mg ρ S H) (h : ρ[n]? = some a) (e : S[n]? = some (.lst xs)) : ∃ vs, H a = some (.lst vs) ∧ VRs X.K H ρ xs vs := by
  obtain ⟨ho, h1, h2⟩ := R.get h e
  cases h2 with
  | lst r => exact ⟨_, h1, r⟩
theorem HR.dK {ρ : List Addr} {S : Ms} {H : Hp} {n : Nat} {a : Addr} {xs : List (Key × PV)} (R : HR X.K X.mg ρ S H) (h : ρ[n]? = some a) (e : S[n]? = some (.dK xs)) : ∃ vs, H a = some (.dK vs) ∧ KVR X.K H ρ xs vs := by
  obtain ⟨ho, h1, h2⟩ := R.get h e
  cases h2 with
  | dK r => exact ⟨_, h1, r⟩
theorem HR.dT {ρ : List Addr} {S : Ms} {H : Hp} {n : Nat} {a : Addr} {xs : List (List Key × PV)} (R : HR X.K X.mg ρ S H) (h : ρ[n]? = some a) (e : S[n]? = some (.dT xs)) : ∃ vs, H a = some (.dT vs) ∧ KVR X.K H ρ xs vs := by
  obtain ⟨ho, h1, h2⟩ := R.get h e
  cases h2 with
  | dT r => exact ⟨_, h1, r⟩
theorem soft_lst {vs : List V} : Soft (.lst vs) := ⟨(fun _ h => nomatch h), (fun _ _ h => nomatch h)⟩
theorem soft_dK {vs : List (Key × V)} : Soft (.dK vs) := ⟨(fun _ h => nomatch h), (fun _ _ h => nomatch h)⟩
theorem soft_dT {vs : List (List Key × V)} : Soft (.dT vs) := ⟨(fun _ h => nomatch h), (fun _ _ h => nomatch h)⟩
/-- the items of a list or tuple -/
def itemsOf (S : Ms) : PV → Option (List PV)
  | .tup xs => some xs
  | .rol xs => some xs
  | .loc n => match S[n]? with | some (.lst xs) => some xs | _ => none
  | _ => none
theorem items_ok {ρ S H x x' xs} (R : HR X.K X.mg ρ S H) (r : VR X.K H ρ x x') (h : itemsOf S x = some xs) :
    ∃ a vs, x' = .ref a ∧ VRs X.K H ρ xs vs ∧ ((SqL X.K H a vs ∧ ∀ ys, x ≠ .tup ys) ∨ (H a = some (.tup vs) ∧ x = .tup xs)) := by
  cases r with
  | tup hs ha => cases h; exact ⟨_, _, rfl, ha, .inr ⟨hs, rfl⟩⟩
  | rol hs ha => cases h; exact ⟨_, _, rfl, ha, .inl ⟨hs.sq, fun _ z => nomatch z⟩⟩
  | loc e =>
    simp only [itemsOf] at h
    split at h
    · rename_i q; cases h
      obtain ⟨vs, h1, h2⟩ := R.lst e q
      exact ⟨_, vs, rfl, h2, .inl ⟨.of h1, fun _ z => nomatch z⟩⟩
    · cases h
  | non => cases h
  | bl b => cases h
  | int i => cases h
  | str s => cases h

/-! ### arithmetic -/
def oAdd : PV → PV → Ms → Out PV
  | .int i, .int j, S => .ret (.int (i + j)) S
  | .tup xs, .tup ys, S => if xs.length + ys.length ≤ lim then .ret (.tup (xs ++ ys)) S else .fail
  | .loc n, .loc m, S => (match S[n]?, S[m]? with
    | some (.lst xs), some (.lst ys) => if xs.length + ys.length ≤ lim then .ret (.loc S.length) (S ++ [.lst (xs ++ ys)]) else .fail
    | _, _ => .fail)
  | .str a, .str b, S => if a.length + b.length ≤ lim then .ret (.str (a ++ b)) S else .fail
  | _, _, _ => .fail
def rAdd4 (K : PySem.W.Frag) : R2 := fun x y H Q => ((rI0 fun i j => V.int (i + j)) x y H Q ∨ rCatA K x y H Q) ∨ (rCat x y H Q ∨ ∃ i j, x = .str i ∧ y = .str j ∧ i.length + j.length ≤ sizeLine ∧ Q (.str (i ++ j)) H)
theorem op_add4 : OpR X (binaryOp .Add) (rAdd4 X.K) := or_or (or_or op_add op_catA) (or_or op_cat op_add_str)
theorem o_add : O2 X W oAdd (rAdd4 X.K) := by
  intro ρ S H σ Q x y x' y' R rx ry h
  unfold oAdd at h
  split at h
  · cases rx; cases ry; exact .inl (.inl ⟨_, _, rfl, rfl, Post.now R (.int _) h⟩)
  · cases rx with
    | tup hx ax => cases ry with
      | tup hy ay =>
        split at h
        · rename_i hl
          refine .inl (.inr ⟨_, _, _, _, rfl, rfl, .of hx, .of hy, by rw [ax.length, ay.length]; exact lim_le hl, fun e => ?_, fun _ e => ?_, fun _ _ p hp => new_tup R (ax.append ay) h hp⟩)
          · subst e; cases ax; exact Post.now R (.tup hy ay) h
          · subst e; cases ay; rw [List.append_nil] at h; exact Post.now R (.tup hx ax) h
        · exact h.elim
  · cases rx with
    | loc ex => cases ry with
      | loc ey =>
        split at h
        · rename_i q1 q2
          split at h
          · rename_i hl
            obtain ⟨vs, h1, h2⟩ := R.lst ex q1
            obtain ⟨ws, h3, h4⟩ := R.lst ey q2
            exact .inr (.inl ⟨_, _, _, _, rfl, rfl, h1, h3, by rw [h2.length, h4.length]; exact lim_le hl, fun p hp => new_list R (h2.append h4) h hp⟩)
          · exact h.elim
        · exact h.elim
  · cases rx; cases ry
    split at h
    · rename_i hl
      exact .inr (.inr ⟨_, _, rfl, rfl, lim_le hl, Post.now R (.str _) h⟩)
    · exact h.elim
  · exact h.elim
def oSub : PV → PV → Ms → Out PV
  | .int i, .int j, S => .ret (.int (i - j)) S
  | _, _, _ => .fail
theorem o_sub : O2 X W oSub (rI0 fun i j => V.int (i - j)) := by
  intro ρ S H σ Q x y x' y' R rx ry h
  unfold oSub at h
  split at h
  · cases rx; cases ry; exact ⟨_, _, rfl, rfl, Post.now R (.int _) h⟩
  · exact h.elim
instance (i j : Int) : Decidable (CMul i j) := by unfold CMul; infer_instance
instance (i j : Int) : Decidable (CMulW i j) := by unfold CMulW; infer_instance
instance (i j : Int) : Decidable (CDivN i j) := by unfold CDivN; infer_instance
instance (i j : Int) : Decidable (CDivW i j) := by unfold CDivW; infer_instance
instance (i j : Int) : Decidable (CPow i j) := by unfold CPow; infer_instance
def oMul : PV → PV → Ms → Out PV
  | .int i, .int j, S => if CMul i j ∨ CMulW i j then .ret (.int (i * j)) S else .fail
  | .loc n, .int k, S => (match S[n]? with
    | some (.lst xs) => if -(2 ^ 63) ≤ k ∧ k < 2 ^ 63 ∧ xs.length * k.toNat ≤ lim then .ret (.loc S.length) (S ++ [.lst (List.replicate k.toNat xs).flatten]) else .fail
    | _ => .fail)
  | .tup xs, .int k, S => if xs ≠ [] ∧ 2 ≤ k ∧ k ≤ 1000 ∧ xs.length ≤ 1000 then .ret (.tup (List.replicate k.toNat xs).flatten) S else .fail
  | _, _, _ => .fail
theorem vrs_rep {K H ρ} {xs : List PV} {vs : List V} (h : VRs K H ρ xs vs) : ∀ k : Nat, VRs K H ρ (List.replicate k xs).flatten (List.replicate k vs).flatten
  | 0 => .nil
  | k + 1 => by rw [List.replicate_succ, List.replicate_succ, List.flatten_cons, List.flatten_cons]; exact h.append (vrs_rep h k)
def rMul4 (K : PySem.W.Frag) : R2 := fun x y H Q => (rI CMul (fun i j => V.int (i * j)) x y H Q ∨ rI CMulW (fun i j => V.int (i * j)) x y H Q) ∨ (rRep x y H Q ∨ rRepT K x y H Q)
theorem op_mul4 : OpR X (binaryOp .Mult) (rMul4 X.K) := or_or (or_or op_mul op_mulW) (or_or op_rep op_repT)
theorem o_mul : O2 X W oMul (rMul4 X.K) := by
  intro ρ S H σ Q x y x' y' R rx ry h
  unfold oMul at h
  split at h
  · cases rx; cases ry
    split at h
    · rename_i hc
      rcases hc with hc | hc
      · exact .inl (.inl ⟨_, _, rfl, rfl, hc, Post.now R (.int _) h⟩)
      · exact .inl (.inr ⟨_, _, rfl, rfl, hc, Post.now R (.int _) h⟩)
    · exact h.elim
  · cases rx with
    | loc ex => cases ry; split at h
                · rename_i q
                  split at h
                  · rename_i hc
                    obtain ⟨vs, h1, h2⟩ := R.lst ex q
                    exact .inr (.inl ⟨_, _, _, rfl, rfl, h1, hc.1, hc.2.1, by rw [h2.length]; exact lim_le hc.2.2, fun p hp => new_list R (vrs_rep h2 _) h hp⟩)
                  · exact h.elim
                · exact h.elim
  · cases rx with
    | tup hx ax => cases ry; split at h
                   · rename_i hc
                     exact .inr (.inr ⟨_, _, _, rfl, rfl, .of hx, fun z => hc.1 (by subst z; cases ax; rfl), hc.2.1, hc.2.2.1, by rw [ax.length]; exact hc.2.2.2, fun p hp => new_tup R (vrs_rep ax _) h hp⟩)
                   · exact h.elim
  · exact h.elim
def oMod : PV → PV → Ms → Out PV
  | .int i, .int j, S => if j ≠ 0 then .ret (.int (i.fmod j)) S else .fail
  | _, _, _ => .fail
theorem o_mod : O2 X W oMod (rI (fun _ j => j ≠ 0) fun i j => V.int (i.fmod j)) := by
  intro ρ S H σ Q x y x' y' R rx ry h
  unfold oMod at h
  split at h
  · cases rx; cases ry
    split at h
    · rename_i hc; exact ⟨_, _, rfl, rfl, hc, Post.now R (.int _) h⟩
    · exact h.elim
  · exact h.elim
def oDiv : PV → PV → Ms → Out PV
  | .int i, .int j, S => if CDivN i j then .ret (.int (i.fdiv j)) S else if CDivW i j then .ret (.int (i / j)) S else .fail
  | _, _, _ => .fail
def rDiv4 : R2 := fun x y H Q => rI CDivN (fun i j => V.int (i.fdiv j)) x y H Q ∨ rI CDivW (fun i j => V.int (i / j)) x y H Q
theorem op_div4 : OpR X (binaryOp .FloorDiv) rDiv4 := or_or op_fdivN op_fdivW
theorem o_div : O2 X W oDiv rDiv4 := by
  intro ρ S H σ Q x y x' y' R rx ry h
  unfold oDiv at h
  split at h
  · cases rx; cases ry
    split at h
    · rename_i hc; exact .inl ⟨_, _, rfl, rfl, hc, Post.now R (.int _) h⟩
    · split at h
      · rename_i hc; exact .inr ⟨_, _, rfl, rfl, hc, Post.now R (.int _) h⟩
      · exact h.elim
  · exact h.elim
def oPow : PV → PV → Ms → Out PV
  | .int i, .int j, S => if CPow i j then .ret (.int (i ^ j.toNat)) S else .fail
  | _, _, _ => .fail
theorem o_pow : O2 X W oPow (rI CPow fun i j => V.int (i ^ j.toNat)) := by
  intro ρ S H σ Q x y x' y' R rx ry h
  unfold oPow at h
  split at h
  · cases rx; cases ry
    split at h
    · rename_i hc; exact ⟨_, _, rfl, rfl, hc, Post.now R (.int _) h⟩
    · exact h.elim
  · exact h.elim
def oNeg : PV → Ms → Out PV
  | .int i, S => .ret (.int (-i)) S
  | _, _ => .fail
theorem o_neg : O1 X W oNeg (rU fun i => V.int (-i)) := by
  intro ρ S H σ Q x x' R rx h
  unfold oNeg at h
  split at h
  · cases rx; exact ⟨_, rfl, Post.now R (.int _) h⟩
  · exact h.elim

/-! ### order -/
def oCmp (p : Int → Int → Bool) : PV → PV → Ms → Out PV
  | .int i, .int j, S => .ret (.bl (p i j)) S
  | _, _, _ => .fail
theorem o_cmp {p : Int → Int → Bool} : O2 X W (oCmp p) (rI0 fun i j => V.bl (p i j)) := by
  intro ρ S H σ Q x y x' y' R rx ry h
  unfold oCmp at h
  split at h
  · cases rx; cases ry; exact ⟨_, _, rfl, rfl, Post.now R (.bl _) h⟩
  · exact h.elim
abbrev oLt := oCmp fun i j => decide (i < j)
abbrev oLe := oCmp fun i j => decide (i ≤ j)
abbrev oGt := oCmp fun i j => decide (j < i)
abbrev oGe := oCmp fun i j => decide (j ≤ i)

/-! ### equality -/
mutual
def toD (S : Ms) : Nat → PV → Option PyData
  | _, .non => some .none
  | _, .bl b => some (.bool b)
  | _, .int i => some (.int i)
  | _, .str s => some (.str s)
  | 0, _ => none
  | k + 1, .tup xs => (toDs S k xs).map .tuple
  | k + 1, .rol xs => (toDs S k xs).map .list
  | k + 1, .loc n => match S[n]? with
    | some (.lst xs) => (toDs S k xs).map .list
    | _ => none
termination_by k x => (k, 0)
def toDs (S : Ms) : Nat → List PV → Option (List PyData)
  | _, [] => some []
  | k, x :: xs => match toD S k x, toDs S k xs with | some d, some ds => some (d :: ds) | _, _ => none
termination_by k xs => (k, xs.length + 1)
end
mutual
theorem toD_ok {ρ S H} (R : HR X.K X.mg ρ S H) : ∀ (k : Nat) (x : PV) (x' : V) (d : PyData), VR X.K H ρ x x' → toD S k x = some d → Dp X.K H x' d
  | k, .non, _, d, r, h => by cases r; unfold toD at h; cases h; exact .non
  | k, .bl b, _, d, r, h => by cases r; unfold toD at h; cases h; exact .bl b
  | k, .int b, _, d, r, h => by cases r; unfold toD at h; cases h; exact .int b
  | k, .str b, _, d, r, h => by cases r; unfold toD at h; cases h; exact .str b
  | 0, .tup xs, _, d, r, h => by unfold toD at h; cases h
  | 0, .loc n, _, d, r, h => by unfold toD at h; cases h
  | 0, .rol n, _, d, r, h => by unfold toD at h; cases h
  | k + 1, .tup xs, _, d, r, h => by
    unfold toD at h
    cases e : toDs S k xs with
    | none => rw [e] at h; cases h
    | some ds =>
      rw [e] at h; cases h
      cases r with
      | tup hx ax => exact .tup (.of hx) (toDs_ok R k xs _ ds ax e)
  | k + 1, .rol xs, _, d, r, h => by
    unfold toD at h
    cases e : toDs S k xs with
    | none => rw [e] at h; cases h
    | some ds =>
      rw [e] at h; cases h
      cases r with
      | rol hx ax => exact .lst hx.sq (toDs_ok R k xs _ ds ax e)
  | k + 1, .loc n, _, d, r, h => by
    unfold toD at h
    cases r with
    | loc en =>
      split at h
      · rename_i xs q
        cases e : toDs S k xs with
        | none => rw [e] at h; cases h
        | some ds =>
          rw [e] at h; cases h
          obtain ⟨vs, h1, h2⟩ := R.lst en q
          exact .lst (.of h1) (toDs_ok R k xs vs ds h2 e)
      · cases h
termination_by k x => (k, 0)
theorem toDs_ok {ρ S H} (R : HR X.K X.mg ρ S H) : ∀ (k : Nat) (xs : List PV) (vs : List V) (ds : List PyData), VRs X.K H ρ xs vs → toDs S k xs = some ds → DpAll X.K H vs ds
  | k, [], _, ds, r, h => by cases r; unfold toDs at h; cases h; exact .nil
  | k, x :: xs, _, ds, r, h => by
    cases r with
    | cons r t =>
      unfold toDs at h
      split at h
      · rename_i d ds' e1 e2
        cases h
        exact .cons (toD_ok R k x _ d r e1) (toDs_ok R k xs _ ds' t e2)
      · cases h
termination_by k xs => (k, xs.length + 1)
end
def eqD (S : Ms) (x y : PV) : Option Bool := match toD S 12 x, toD S 12 y with
  | some d, some e => if SeqAt.shaped d && SeqAt.shaped e then some (PyData.eqv d e) else none
  | _, _ => none
def oEq (x y : PV) (S : Ms) : Out PV := match eqD S x y with | some b => .ret (.bl b) S | none => .fail
def oNe (x y : PV) (S : Ms) : Out PV := match eqD S x y with | some b => .ret (.bl (!b)) S | none => .fail
theorem o_eq : O2 X W oEq (rEqD X.K) := by
  intro ρ S H σ Q x y x' y' R rx ry h
  unfold oEq eqD at h
  cases e1 : toD S 12 x with
  | none => simp only [e1] at h; exact h.elim
  | some d => cases e2 : toD S 12 y with
    | none => simp only [e1, e2] at h; exact h.elim
    | some e =>
      simp only [e1, e2] at h
      by_cases hs : (SeqAt.shaped d && SeqAt.shaped e) = true
      · simp only [hs, if_true] at h
        rw [Bool.and_eq_true] at hs
        exact ⟨d, e, toD_ok R 12 x x' d rx e1, toD_ok R 12 y y' e ry e2, hs.1, hs.2, Post.now R (.bl _) h⟩
      · simp only [hs] at h; exact h.elim
theorem o_ne : O2 X W oNe (rNeD X.K) := by
  intro ρ S H σ Q x y x' y' R rx ry h
  unfold oNe eqD at h
  cases e1 : toD S 12 x with
  | none => simp only [e1] at h; exact h.elim
  | some d => cases e2 : toD S 12 y with
    | none => simp only [e1, e2] at h; exact h.elim
    | some e =>
      simp only [e1, e2] at h
      by_cases hs : (SeqAt.shaped d && SeqAt.shaped e) = true
      · simp only [hs, if_true] at h
        rw [Bool.and_eq_true] at hs
        exact ⟨d, e, toD_ok R 12 x x' d rx e1, toD_ok R 12 y y' e ry e2, hs.1, hs.2, Post.now R (.bl _) h⟩
      · simp only [hs] at h; exact h.elim
/-- is None, is True -/
def isNon : PV → Bool
  | .non => true
  | _ => false
def oIsN : PV → PV → Ms → Out PV
  | x, .non, S => .ret (.bl (isNon x)) S
  | _, _, _ => .fail
end
end MP

set_option maxRecDepth 100000
namespace MP
open PySem PySem.Spec PyProof.Rows L2
section
variable {X : Cx} {W : WX} {a b c e o : Expr} {es rest : List Expr} {pos : Pos} {m n k : ME} {ml : ML} {t u : MB}

/-! ### tests -/
def outB (f : PV → Ms → Out Bool) (m : ME) : MB := fun env S => match m env S with | .ret v S1 => f v S1 | .exc x S => .exc x S | .fail => .fail
def asB : PV → Ms → Out Bool
  | .bl b, S => .ret b S
  | _, _ => .fail
def truth : PV → Ms → Out Bool
  | .non, S => .ret false S
  | .bl b, S => .ret b S
  | .int i, S => .ret (i != 0) S
  | .str s, S => if s.length ≤ lim then .ret ((s.length : Int) != 0) S else .fail
  | .tup xs, S => .ret (!xs.isEmpty) S
  | .rol xs, S => .ret (!xs.isEmpty) S
  | .loc n, S => match S[n]? with
    | some (.lst xs) => .ret (!xs.isEmpty) S
    | some (.dK xs) => .ret (!xs.isEmpty) S
    | _ => .fail
abbrev mB (m : ME) : MB := outB asB m
abbrev mT (m : ME) : MB := outB truth m
theorem PostB.now {ρ H σ S Q} {v : Bool} (R : HR X.K X.mg ρ S H) (h : PostB X.K X.mg ρ H σ W Q (.ret v S)) : Q v H := h _ _ (.refl _) R (.refl _)
theorem test_ok {ta : TE} {f : PV → Ms → Out Bool} {r : V → Hp → (Bool → Hp → Prop) → Prop}
    (ha : ∀ ρ env S σ H Q, HR X.K X.mg ρ S H → ER X.K H ρ env σ → Post X.K X.mg ρ H σ W Q (m env S) → ta σ H Q)
    (hf : ∀ ρ S H σ (Q : Bool → Hp → Prop) x x', HR X.K X.mg ρ S H → VR X.K H ρ x x' → PostB X.K X.mg ρ H σ W Q (f x S) → r x' H Q)
    (ρ env S σ H) (Q : Bool → Hp → Prop) (R : HR X.K X.mg ρ S H) (er : ER X.K H ρ env σ) (h : PostB X.K X.mg ρ H σ W Q (outB f m env S)) : ta σ H (fun x H1 => r x H1 Q) := by
  refine ha ρ env S σ H _ R er ?_
  unfold outB at h
  cases e : m env S with
  | fail => simp only [e] at h; exact h.elim
  | exc x S => simp only [e] at h; exact h
  | ret x S1 =>
    simp only [e] at h
    intro ρ1 x' H1 g1 R1 e1 r1
    exact hf ρ1 S1 H1 σ Q x x' R1 r1 (PostB.mono g1 e1 h)
theorem asB_ok (ρ S H σ) (Q : Bool → Hp → Prop) (x : PV) (x' : V) (R : HR X.K X.mg ρ S H) (r : VR X.K H ρ x x') (h : PostB X.K X.mg ρ H σ W Q (asB x S)) : ∃ k, x' = .bl k ∧ Q k H := by
  unfold asB at h
  split at h
  · cases r; exact ⟨_, rfl, PostB.now R h⟩
  · exact h.elim
theorem empty_vrs {K : PySem.W.Frag} {H : Hp} {ρ : List Addr} {xs : List PV} {vs : List V} (h : VRs K H ρ xs vs) : (!vs.isEmpty) = !xs.isEmpty := by cases h <;> rfl
theorem empty_kvr {K : PySem.W.Frag} {H : Hp} {ρ : List Addr} {κ : Type} {xs : List (κ × PV)} {vs : List (κ × V)} (h : KVR K H ρ xs vs) : (!vs.isEmpty) = !xs.isEmpty := by cases h <;> rfl
theorem truth_ok (ρ S H σ) (Q : Bool → Hp → Prop) (x : PV) (x' : V) (R : HR X.K X.mg ρ S H) (r : VR X.K H ρ x x') (h : PostB X.K X.mg ρ H σ W Q (truth x S)) : ∃ k, TruV X.K x' H k ∧ Q k H := by
  cases r with
  | non => exact ⟨_, rfl, PostB.now R h⟩
  | bl b => exact ⟨_, rfl, PostB.now R h⟩
  | int b => exact ⟨_, rfl, PostB.now R h⟩
  | str s =>
    simp only [truth] at h
    split at h
    · rename_i hl; exact ⟨_, ⟨lim_le hl, rfl⟩, PostB.now R h⟩
    · exact h.elim
  | tup hx ax => exact ⟨_, .inr (.inl ⟨_, .of hx, rfl⟩), by rw [empty_vrs ax]; exact PostB.now R h⟩
  | rol hx ax => exact ⟨_, .inl ⟨_, hx.sq, rfl⟩, by rw [empty_vrs ax]; exact PostB.now R h⟩
  | loc en =>
    simp only [truth] at h
    split at h
    · rename_i q
      obtain ⟨vs, h1, h2⟩ := R.lst en q
      exact ⟨_, .inl ⟨_, .of h1, rfl⟩, by rw [empty_vrs h2]; exact PostB.now R h⟩
    · rename_i q
      obtain ⟨vs, h1, h2⟩ := R.dK en q
      exact ⟨_, .inr (.inr ⟨_, h1, rfl⟩), by rw [empty_kvr h2]; exact PostB.now R h⟩
    · exact h.elim
theorem sb_truth (h : SE X W e m) (he : ∀ whole, isTrue e X.env whole = (do let v ← whole; standAt e.pos; holding [v] (truthy v)) := by intro _; rfl) : SB X W e (mT m) :=
  let ⟨_, p, q⟩ := h
  ⟨_, pt_truth p he, fun ρ env S σ H Q R er h => test_ok q truth_ok ρ env S σ H Q R er h⟩
theorem sb_cmp {op : CmpOp} {f : PV → PV → Ms → Out PV} {r : V → V → Hp → VK → Prop} (ho : OpR X (compareOp op) r) (hf : O2 X W f r) (ha : SE X W a m) (hb : SE X W b n) (h1 : behindInMarks op b = false := by first | exact nobehind _ (by decide) (by decide) | rfl) :
    SB X W (.Compare a [op] [b] pos) (mB (m2 m n f)) :=
  let ⟨_, pa, qa⟩ := ha; let ⟨_, pb, qb⟩ := hb
  ⟨_, pt_cmpR ho pa pb h1, fun ρ env S σ H Q R er h => test_ok (bin_ok qa qb hf) asB_ok ρ env S σ H Q R er h⟩
/-- a < b < c -/
def mChain (a b c : ME) (f g : PV → PV → Ms → Out PV) : ME := fun env S => (a env S).bind fun x S1 => (b env S1).bind fun y S2 => (f x y S2).bind fun z S3 => match z with
  | .bl true => (c env S3).bind fun w S4 => g y w S4
  | .bl false => .ret (.bl false) S3
  | _ => .fail
theorem chain_ok {ta tb tc : TE} {f g : PV → PV → Ms → Out PV} {r r' : R2}
    (ha : ∀ ρ env S σ H Q, HR X.K X.mg ρ S H → ER X.K H ρ env σ → Post X.K X.mg ρ H σ W Q (m env S) → ta σ H Q)
    (hb : ∀ ρ env S σ H Q, HR X.K X.mg ρ S H → ER X.K H ρ env σ → Post X.K X.mg ρ H σ W Q (n env S) → tb σ H Q)
    (hc : ∀ ρ env S σ H Q, HR X.K X.mg ρ S H → ER X.K H ρ env σ → Post X.K X.mg ρ H σ W Q (k env S) → tc σ H Q) (hf : O2 X W f r) (hg : O2 X W g r')
    (ρ env S σ H Q) (R : HR X.K X.mg ρ S H) (er : ER X.K H ρ env σ) (h : Post X.K X.mg ρ H σ W Q (mChain m n k f g env S)) : tChain r r' ta tb tc σ H Q := by
  refine ha ρ env S σ H _ R er ?_
  unfold mChain at h
  cases e : m env S with
  | fail => rw [e] at h; exact h.elim
  | exc x S => rw [e] at h; exact h
  | ret x S1 =>
    rw [e] at h
    intro ρ1 x' H1 g1 R1 e1 r1
    have er1 := er.mono e1 g1
    refine hb ρ1 env S1 σ H1 _ R1 er1 ?_
    have h := Post.mono g1 e1 h
    simp only [Out.bind] at h
    cases e : n env S1 with
    | fail => rw [e] at h; exact h.elim
    | exc x S => rw [e] at h; exact h
    | ret y S2 =>
      rw [e] at h
      intro ρ2 y' H2 g2 R2 e2 r2
      have er2 := er1.mono e2 g2
      have h := Post.mono g2 e2 h
      simp only [] at h
      refine hf ρ2 S2 H2 σ _ x y x' y' R2 (r1.mono e2 g2) r2 ?_
      cases e : f x y S2 with
      | fail => rw [e] at h; exact h.elim
      | exc x S => rw [e] at h; exact h
      | ret z S3 =>
        rw [e] at h
        intro ρ3 z' H3 g3 R3 e3 r3
        have h := Post.mono g3 e3 h
        simp only [] at h
        split at h
        · cases r3
          refine ⟨true, rfl, ?_⟩
          rw [if_pos rfl]
          refine hc ρ3 env S3 σ H3 _ R3 (er2.mono e3 g3) ?_
          cases e : k env S3 with
          | fail => rw [e] at h; exact h.elim
          | exc x S => rw [e] at h; exact h
          | ret w S4 =>
            rw [e] at h
            intro ρ4 w' H4 g4 R4 e4 r4
            exact hg ρ4 S4 H4 σ Q y w y' w' R4 ((r2.mono e3 g3).mono e4 g4) r4 (Post.mono g4 e4 h)
        · cases r3
          refine ⟨false, rfl, ?_⟩
          rw [if_neg Bool.false_ne_true]
          exact Post.now R3 (.bl _) h
        · exact h.elim
theorem sb_chain {op op' : CmpOp} {f g : PV → PV → Ms → Out PV} {r r' : R2} (ho : OpR X (compareOp op) r) (ho' : OpR X (compareOp op') r') (hf : O2 X W f r) (hg : O2 X W g r') (ha : SE X W a m) (hb : SE X W b n) (hc : SE X W c k)
    (hm : lastMarks [op, op'] [b, c] = false := by with_unfolding_all rfl) : SB X W (.Compare a [op, op'] [b, c] pos) (mB (mChain m n k f g)) :=
  let ⟨_, pa, qa⟩ := ha; let ⟨_, pb, qb⟩ := hb; let ⟨_, pc, qc⟩ := hc
  ⟨_, pt_chain ho ho' pa pb pc hm, fun ρ env S σ H Q R er h => test_ok (chain_ok qa qb qc hf hg) asB_ok ρ env S σ H Q R er h⟩
def bAnd (t u : MB) : MB := fun env S => match t env S with | .ret true S1 => u env S1 | .ret false S1 => .ret false S1 | .exc x S => .exc x S | .fail => .fail
def bOr (t u : MB) : MB := fun env S => match t env S with | .ret true S1 => .ret true S1 | .ret false S1 => u env S1 | .exc x S => .exc x S | .fail => .fail
def bNot (t : MB) : MB := fun env S => match t env S with | .ret b S1 => .ret (!b) S1 | .exc x S => .exc x S | .fail => .fail
theorem sw_or1 (h : SB X W a t) : SW X W (.BoolOp .Or [a] pos) t := let ⟨_, p, q⟩ := h; ⟨_, pw_or1 p, q⟩
theorem sw_or (h : SB X W a t) (h' : SW X W (.BoolOp .Or (b :: rest) pos) u) : SW X W (.BoolOp .Or (a :: b :: rest) pos) (bOr t u) :=
  let ⟨_, pa, qa⟩ := h; let ⟨_, pb, qb⟩ := h'
  ⟨_, pw_or pa pb, fun ρ env S σ H Q R er h => by
    refine qa ρ env S σ H _ R er ?_
    unfold bOr at h
    split at h
    · rename_i S1 e
      rw [e]
      intro ρ1 H1 g1 R1 e1
      rw [if_pos rfl]
      exact h ρ1 H1 g1 R1 e1
    · rename_i S1 e
      rw [e]
      intro ρ1 H1 g1 R1 e1
      rw [if_neg Bool.false_ne_true]
      exact qb ρ1 env S1 σ H1 _ R1 (er.mono e1 g1) (PostB.mono g1 e1 h)
    · rename_i e; rw [e]; exact h
    · exact h.elim⟩
theorem sb_w (h : SW X W a t) : SB X W a t := let ⟨_, p, q⟩ := h; ⟨_, p.pt, q⟩
theorem sb_not (h : SB X W a t) : SB X W (.UnaryOp .Not a pos) (bNot t) :=
  let ⟨_, p, q⟩ := h
  ⟨_, pt_not p, fun ρ env S σ H Q R er h => by
    refine q ρ env S σ H _ R er ?_
    unfold bNot at h
    split at h
    · rename_i b S1 e
      rw [e]
      exact fun ρ1 H1 g1 R1 e1 => h ρ1 H1 g1 R1 e1
    · rename_i e; rw [e]; exact h
    · exact h.elim⟩
/-! ### truth values as values -/
def mAnd (a b : ME) : ME := fun env S => match a env S with | .ret (.bl true) S1 => b env S1 | .ret (.bl false) S1 => .ret (.bl false) S1 | .exc x S => .exc x S | _ => .fail
def mOr (a b : ME) : ME := fun env S => match a env S with | .ret (.bl true) S1 => .ret (.bl true) S1 | .ret (.bl false) S1 => b env S1 | .exc x S => .exc x S | _ => .fail
def mNot (a : ME) : ME := fun env S => match a env S with | .ret (.bl b) S1 => .ret (.bl (!b)) S1 | .exc x S => .exc x S | _ => .fail
theorem s_one {op} (h : SE X W a m) : SE X W (.BoolOp op [a] pos) m := let ⟨_, p, q⟩ := h; ⟨_, pe_one p, q⟩
theorem s_and (h : SE X W a m) (h' : SE X W (.BoolOp .And (b :: rest) pos) n) : SE X W (.BoolOp .And (a :: b :: rest) pos) (mAnd m n) :=
  let ⟨_, pa, qa⟩ := h; let ⟨_, pb, qb⟩ := h'
  ⟨_, pe_and pa pb, fun ρ env S σ H Q R er h => by
    refine qa ρ env S σ H _ R er ?_
    unfold mAnd at h
    split at h
    · rename_i S1 e
      rw [e]
      intro ρ1 x1 H1 g1 R1 e1 r1
      cases r1
      refine ⟨true, rfl, ?_⟩
      rw [if_pos rfl]
      exact qb ρ1 env S1 σ H1 _ R1 (er.mono e1 g1) (Post.mono g1 e1 h)
    · rename_i S1 e
      rw [e]
      intro ρ1 x1 H1 g1 R1 e1 r1
      cases r1
      refine ⟨false, rfl, ?_⟩
      rw [if_neg Bool.false_ne_true]
      exact h ρ1 _ H1 g1 R1 e1 (.bl _)
    · rename_i e; rw [e]; exact h
    · exact h.elim⟩
def mIf (t : MB) (a b : ME) : ME := fun env S => match t env S with | .ret true S1 => a env S1 | .ret false S1 => b env S1 | .exc x S => .exc x S | .fail => .fail
theorem s_ifE (hc : SB X W c t) (ha : SE X W a m) (hb : SE X W b n) : SE X W (.IfExp c a b pos) (mIf t m n) :=
  let ⟨_, pc, qc⟩ := hc; let ⟨_, pa, qa⟩ := ha; let ⟨_, pb, qb⟩ := hb
  ⟨_, pe_ifExp pc pa pb, fun ρ env S σ H Q R er h => by
    refine qc ρ env S σ H _ R er ?_
    unfold mIf at h
    split at h
    · rename_i S1 e
      rw [e]
      intro ρ1 H1 g1 R1 e1
      rw [if_pos rfl]
      exact qa ρ1 env S1 σ H1 _ R1 (er.mono e1 g1) (Post.mono g1 e1 h)
    · rename_i S1 e
      rw [e]
      intro ρ1 H1 g1 R1 e1
      rw [if_neg Bool.false_ne_true]
      exact qb ρ1 env S1 σ H1 _ R1 (er.mono e1 g1) (Post.mono g1 e1 h)
    · rename_i e; rw [e]; exact h
    · exact h.elim⟩
/-- two rules for one expression, by the values -/
theorem pe_or2 {t1 t2 : TE} (h : PE X e t1) (h' : PE X e t2) : PE X e (fun σ H Q => t1 σ H Q ∨ t2 σ H Q) := ⟨fun pins s σ H Q I z => z.elim (h.run pins s σ H Q I) (h'.run pins s σ H Q I)⟩
def oSel (g : PV → PV → Ms → Bool) (f f' : PV → PV → Ms → Out PV) : PV → PV → Ms → Out PV := fun x y S => if g x y S then f x y S else f' x y S
theorem s_sel {f f' : PV → PV → Ms → Out PV} (g : PV → PV → Ms → Bool) (h : SE X W e (m2 m n f)) (h' : SE X W e (m2 m n f')) : SE X W e (m2 m n (oSel g f f')) :=
  let ⟨_, pa, qa⟩ := h; let ⟨_, pb, qb⟩ := h'
  ⟨_, pe_or2 pa pb, fun ρ env S σ H Q R er h => by
    have key : m2 m n (oSel g f f') env S = m2 m n f env S ∨ m2 m n (oSel g f f') env S = m2 m n f' env S := by
      unfold m2
      cases m env S with
      | fail => exact .inl rfl
      | exc x S => exact .inl rfl
      | ret x S1 =>
        simp only [Out.bind]
        cases n env S1 with
        | fail => exact .inl rfl
        | exc x S => exact .inl rfl
        | ret y S2 =>
          simp only [oSel]
          by_cases q : g x y S2 = true
          · exact .inl (if_pos q)
          · exact .inr (if_neg q)
    rcases key with key | key
    · rw [key] at h; exact .inl (qa ρ env S σ H Q R er h)
    · rw [key] at h; exact .inr (qb ρ env S σ H Q R er h)⟩
theorem pt_or2 {t1 t2 : TT} (h : PT X e t1) (h' : PT X e t2) : PT X e (fun σ H Q => t1 σ H Q ∨ t2 σ H Q) := ⟨fun pins s σ H Q I z => z.elim (h.run pins s σ H Q I) (h'.run pins s σ H Q I)⟩
theorem sb_sel {f f' : PV → PV → Ms → Out PV} (g : PV → PV → Ms → Bool) (h : SB X W e (mB (m2 m n f))) (h' : SB X W e (mB (m2 m n f'))) : SB X W e (mB (m2 m n (oSel g f f'))) :=
  let ⟨_, pa, qa⟩ := h; let ⟨_, pb, qb⟩ := h'
  ⟨_, pt_or2 pa pb, fun ρ env S σ H Q R er h => by
    have key : m2 m n (oSel g f f') env S = m2 m n f env S ∨ m2 m n (oSel g f f') env S = m2 m n f' env S := by
      unfold m2
      cases m env S with
      | fail => exact .inl rfl
      | exc x S => exact .inl rfl
      | ret x S1 =>
        simp only [Out.bind]
        cases n env S1 with
        | fail => exact .inl rfl
        | exc x S => exact .inl rfl
        | ret y S2 =>
          simp only [oSel]
          by_cases q : g x y S2 = true
          · exact .inl (if_pos q)
          · exact .inr (if_neg q)
    have h1 : ∀ w, m2 m n (oSel g f f') env S = m2 m n w env S → mB (m2 m n (oSel g f f')) env S = mB (m2 m n w) env S := fun w z => by
      show (match m2 m n (oSel g f f') env S with | .ret v S1 => asB v S1 | .exc x S => .exc x S | .fail => .fail) = _
      rw [z]; rfl
    rcases key with key | key
    · rw [h1 _ key] at h; exact .inl (qa ρ env S σ H Q R er h)
    · rw [h1 _ key] at h; exact .inr (qb ρ env S σ H Q R er h)⟩
end
end MP

set_option maxRecDepth 100000
namespace MP
open PySem PySem.Spec PyProof.Rows L2
section
variable {X : Cx} {W : WX} {a b c e o : Expr} {es rest : List Expr} {pos : Pos} {m n k : ME} {ml : ML} {t u : MB}

/-! ### subscripts -/
theorem VRs.at_ {K : PySem.W.Frag} {H : Hp} {ρ : List Addr} {xs : List PV} {vs : List V} (h : VRs K H ρ xs vs) {i : Int} {x : PV} (e : atI xs i = some x) : ∃ v, atI vs i = some v ∧ VR K H ρ x v := by
  unfold atI at e ⊢
  rw [h.length]
  cases q : ixN xs.length i with
  | none => rw [q] at e; cases e
  | some j => rw [q] at e; exact h.get e
def oIdx : PV → PV → Ms → Out PV
  | .str z, .int i, S => if z.length ≤ lim then (match atI z.cps.toList i with | some c => .ret (.str ⟨#[c]⟩) S | none => .fail) else .fail
  | x, .int i, S => (match itemsOf S x with
    | some xs => (match atI xs i with | some v => .ret v S | none => .fail)
    | none => .fail)
  | _, _, _ => .fail
theorem o_idx : O2 X W oIdx (rIx X.K) := by
  intro ρ S H σ Q x y x' y' R rx ry h
  unfold oIdx at h
  split at h
  · cases rx; cases ry
    split at h
    · rename_i hl
      split at h
      · rename_i q; exact .inr (.inr ⟨_, _, _, rfl, rfl, lim_le hl, q, Post.now R (.str _) h⟩)
      · exact h.elim
    · exact h.elim
  · split at h
    · rename_i xs q
      split at h
      · rename_i v qv
        obtain ⟨a, vs, rfl, hv, hs⟩ := items_ok R rx q
        obtain ⟨v', e1, r1⟩ := hv.at_ qv
        cases ry
        rcases hs with ⟨hs, _⟩ | ⟨hs, _⟩
        · exact .inl ⟨_, _, _, _, rfl, rfl, hs, e1, Post.now R r1 h⟩
        · exact .inr (.inl ⟨_, _, _, _, rfl, rfl, .of hs, e1, Post.now R r1 h⟩)
      · exact h.elim
    · exact h.elim
  · exact h.elim

/-! ### dicts -/
def keyP : PV → Option Key
  | .int i => some (.inl i)
  | .str s => some (.inr s)
  | _ => none
def keysL : List PV → Option (List Key)
  | [] => some []
  | x :: xs => match keyP x, keysL xs with | some k, some ks => some (k :: ks) | _, _ => none
def keysP : PV → Option (List Key)
  | .tup xs => keysL xs
  | _ => none
def kP : Key → PV
  | .inl i => .int i
  | .inr s => .str s
section
variable {κ : Type} [DecidableEq κ]
def valP (kvs : List (κ × PV)) (k : κ) : Option PV := (kvs.find? fun kv => decide (kv.1 = k)).map (·.2)
def putP (kvs : List (κ × PV)) (k : κ) (v : PV) : List (κ × PV) :=
  if (kvs.any fun kv => decide (kv.1 = k)) = true then kvs.map (fun kv => if kv.1 = k then (kv.1, v) else kv) else kvs ++ [(k, v)]
end
theorem key_ok {K : PySem.W.Frag} {H : Hp} {ρ : List Addr} {x : PV} {x' : V} {k : Key} (r : VR K H ρ x x') (h : keyP x = some k) : x' = kV k := by
  cases r <;> simp [keyP] at h <;> subst h <;> rfl
theorem keysL_ok {K : PySem.W.Frag} {H : Hp} {ρ : List Addr} : ∀ {xs : List PV} {vs : List V} {ks : List Key}, VRs K H ρ xs vs → keysL xs = some ks → vs = ks.map kV
  | [], _, _, r, h => by cases r; cases h; rfl
  | x :: xs, _, _, r, h => by
    cases r with
    | cons r t =>
      unfold keysL at h
      split at h
      · rename_i k ks e1 e2
        cases h
        rw [key_ok r e1, keysL_ok t e2]; rfl
      · cases h
/-- the keys of a dict, as values -/
theorem kP_ok {K : PySem.W.Frag} {H : Hp} {ρ : List Addr} (k : Key) : VR K H ρ (kP k) (kV k) := by cases k <;> constructor
section
variable {κ : Type} [DecidableEq κ] {K : PySem.W.Frag} {H : Hp} {ρ : List Addr}
theorem val_ok {k : κ} : ∀ {xs : List (κ × PV)} {vs : List (κ × V)}, KVR K H ρ xs vs → (valP xs k = none ∧ valV vs k = none) ∨ ∃ v v', valP xs k = some v ∧ valV vs k = some v' ∧ VR K H ρ v v'
  | [], _, h => by cases h; exact .inl ⟨rfl, rfl⟩
  | (j, x) :: xs, _, h => by
    cases h with
    | cons h t =>
      rename_i q vs
      obtain ⟨j', v⟩ := q
      obtain ⟨e, r⟩ := h
      simp only at e r
      subst e
      by_cases hk : j = k
      · subst hk
        exact .inr ⟨x, v, by simp [valP], by simp [valV], r⟩
      · have ih := val_ok (k := k) t
        have e1 : valP ((j, x) :: xs) k = valP xs k := by simp [valP, hk]
        have e2 : valV ((j, v) :: vs) k = valV vs k := valV_neg (p := (j, v)) hk
        rw [e1, e2]; exact ih
theorem any_ok {k : κ} : ∀ {xs : List (κ × PV)} {vs : List (κ × V)}, KVR K H ρ xs vs → (xs.any fun kv => decide (kv.1 = k)) = (vs.any fun kv => decide (kv.1 = k))
  | [], _, h => by cases h; rfl
  | (j, x) :: xs, _, h => by
    cases h with
    | cons h t =>
      rename_i q vs
      obtain ⟨j', v⟩ := q
      obtain ⟨e, r⟩ := h
      simp only at e r
      subst e
      rw [List.any_cons, List.any_cons, any_ok t]
theorem map_ok {k : κ} {y : PV} {y' : V} (r : VR K H ρ y y') : ∀ {xs : List (κ × PV)} {vs : List (κ × V)}, KVR K H ρ xs vs → KVR K H ρ (xs.map (fun kv => if kv.1 = k then (kv.1, y) else kv)) (vs.map (fun kv => if kv.1 = k then (kv.1, y') else kv))
  | [], _, h => by cases h; exact .nil
  | (j, x) :: xs, _, h => by
    cases h with
    | cons h t =>
      rename_i q vs
      obtain ⟨j', v⟩ := q
      obtain ⟨e, r'⟩ := h
      simp only at e r'
      subst e
      rw [List.map_cons, List.map_cons]
      refine .cons ?_ (map_ok r t)
      by_cases hk : j = k
      · simp only [hk, if_true]; exact ⟨trivial, r⟩
      · simp only [hk, if_false]; exact ⟨trivial, r'⟩
theorem kvr_snoc {k : κ} {y : PV} {y' : V} (r : VR K H ρ y y') : ∀ {xs : List (κ × PV)} {vs : List (κ × V)}, KVR K H ρ xs vs → KVR K H ρ (xs ++ [(k, y)]) (vs ++ [(k, y')])
  | [], _, h => by cases h; exact .cons ⟨rfl, r⟩ .nil
  | _ :: xs, _, h => by cases h with | cons h t => exact .cons h (kvr_snoc r t)
theorem put_ok {k : κ} {y : PV} {y' : V} (r : VR K H ρ y y') {xs : List (κ × PV)} {vs : List (κ × V)} (h : KVR K H ρ xs vs) : KVR K H ρ (putP xs k y) (putK vs k y') := by
  unfold putP putK
  rw [any_ok h]
  by_cases q : (vs.any fun kv => decide (kv.1 = k)) = true
  · rw [if_pos q, if_pos q]; exact map_ok r h
  · rw [if_neg q, if_neg q]; exact kvr_snoc r h
theorem kvr_len {xs : List (κ × PV)} {vs : List (κ × V)} (h : KVR K H ρ xs vs) : vs.length = xs.length := (Paired.length h).symm
end
def isDict (S : Ms) : PV → Bool
  | .loc n => match S[n]? with | some (.dK _) => true | some (.dT _) => true | some (.lk _) => true | _ => false
  | _ => false
/-- what a dict holds at a key -/
def dGet (S : Ms) : PV → PV → Option (Option PV)
  | .loc n, k => match S[n]? with
    | some (.dK kvs) => (keyP k).map (valP kvs)
    | some (.lk (.dK kvs)) => (keyP k).map (valP kvs)
    | some (.dT kvs) => (keysP k).map (valP kvs)
    | some (.lk (.dT kvs)) => (keysP k).map (valP kvs)
    | _ => none
  | _, _ => none
theorem HR.lk {ρ : List Addr} {S : Ms} {H : Hp} {n : Nat} {a : Addr} {o : Ob} (R : HR X.K X.mg ρ S H) (h : ρ[n]? = some a) (e : S[n]? = some (.lk o)) : ∃ u oj, H a = some (.frz oj u) ∧ OR X.K X.mg H ρ o u := by
  obtain ⟨ho, h1, h2⟩ := R.get h e
  cases h2 with
  | lk r => exact ⟨_, _, h1, r⟩
theorem dget_ok {ρ : List Addr} {S : Ms} {H : Hp} {d k : PV} {d' k' : V} {r : Option PV} (R : HR X.K X.mg ρ S H) (rd : VR X.K H ρ d d') (rk : VR X.K H ρ k k') (h : dGet S d k = some r) :
    ∃ a r', d' = .ref a ∧ DGet H a k' r' ∧ ((r = none ∧ r' = none) ∨ ∃ v v', r = some v ∧ r' = some v' ∧ VR X.K H ρ v v') := by
  cases rd with
  | loc en =>
    simp only [dGet] at h
    have fK : ∀ {kvs : List (Key × PV)} {vs : List (Key × V)} {a : Addr}, Rd H a (.dK vs) → KVR X.K H ρ kvs vs → (keyP k).map (valP kvs) = some r → ∃ a' r', V.ref a = .ref a' ∧ DGet H a' k' r' ∧ ((r = none ∧ r' = none) ∨ ∃ v v', r = some v ∧ r' = some v' ∧ VR X.K H ρ v v') := by
      intro kvs vs a ha hk hv
      cases ek : keyP k with
      | none => rw [ek] at hv; cases hv
      | some kk =>
        rw [ek] at hv
        cases hv
        refine ⟨a, valV vs kk, rfl, .inl ⟨vs, kk, ha, key_ok rk ek, rfl⟩, ?_⟩
        rcases val_ok (k := kk) hk with ⟨h1, h2⟩ | ⟨v, v', h1, h2, h3⟩
        · exact .inl ⟨h1, h2⟩
        · exact .inr ⟨v, v', h1, h2, h3⟩
    have fT : ∀ {kvs : List (List Key × PV)} {vs : List (List Key × V)} {a : Addr}, Rd H a (.dT vs) → KVR X.K H ρ kvs vs → (keysP k).map (valP kvs) = some r → ∃ a' r', V.ref a = .ref a' ∧ DGet H a' k' r' ∧ ((r = none ∧ r' = none) ∨ ∃ v v', r = some v ∧ r' = some v' ∧ VR X.K H ρ v v') := by
      intro kvs vs a ha hk hv
      cases rk with
      | tup ht at_ =>
        simp only [keysP] at hv
        rename_i xs at' vt
        cases ek : keysL xs with
        | none => rw [ek] at hv; cases hv
        | some kk =>
          rw [ek] at hv
          cases hv
          have e1 := keysL_ok at_ ek
          subst e1
          refine ⟨a, valV vs kk, rfl, .inr ⟨vs, kk, _, ha, rfl, ht, rfl⟩, ?_⟩
          rcases val_ok (k := kk) hk with ⟨h1, h2⟩ | ⟨v, v', h1, h2, h3⟩
          · exact .inl ⟨h1, h2⟩
          · exact .inr ⟨v, v', h1, h2, h3⟩
      | non => cases hv
      | bl b => cases hv
      | int i => cases hv
      | str s => cases hv
      | loc e => cases hv
      | rol _ _ => cases hv
    split at h
    · rename_i kvs q
      obtain ⟨vs, h1, h2⟩ := R.dK en q
      exact fK (.of h1) h2 h
    · rename_i kvs q
      obtain ⟨u, oj, h1, h2⟩ := R.lk en q
      cases h2 with | dK h2 => exact fK (.inr ⟨_, h1⟩) h2 h
    · rename_i kvs q
      obtain ⟨vs, h1, h2⟩ := R.dT en q
      exact fT (.of h1) h2 h
    · rename_i kvs q
      obtain ⟨u, oj, h1, h2⟩ := R.lk en q
      cases h2 with | dT h2 => exact fT (.inr ⟨_, h1⟩) h2 h
    · cases h
  | non => cases h
  | bl b => cases h
  | int i => cases h
  | str s => cases h
  | tup _ _ => cases h
  | rol _ _ => cases h
def oDGet (d k : PV) (S : Ms) : Out PV := match dGet S d k with | some (some v) => .ret v S | _ => .fail
theorem o_dget : O2 X W oDGet (fun x y H Q => ∃ a v, x = .ref a ∧ DGet H a y (some v) ∧ Q v H) := by
  intro ρ S H σ Q x y x' y' R rx ry h
  unfold oDGet at h
  split at h
  · rename_i v q
    obtain ⟨a, r', rfl, g, hr⟩ := dget_ok R rx ry q
    rcases hr with ⟨h1, _⟩ | ⟨w, w', h1, h2, h3⟩
    · cases h1
    · cases h1; subst h2
      exact ⟨a, w', rfl, g, Post.now R h3 h⟩
  · exact h.elim
/-- x[i]: of a list, a tuple, a text, a dict -/
abbrev oSub1 : PV → PV → Ms → Out PV := oSel (fun x _ S => isDict S x) oDGet oIdx
abbrev mSub (m n : ME) : ME := m2 m n oSub1
theorem s_sub (hu : X.A.units + 1 < cLine) (ha : SE X W a m) (hb : SE X W b n) (hs : NoSl b := by exact fun _ _ => rfl) : SE X W (.Subscript a b pos) (mSub m n) :=
  let ⟨_, pa, qa⟩ := ha; let ⟨_, pb, qb⟩ := hb
  s_sel _ ⟨_, pe_dget hu pa pb hs, bin_ok qa qb o_dget⟩ ⟨_, pe_ix ix_seq pa pb hs, bin_ok qa qb o_idx⟩

/-! ### in, not in -/
def flatP : PV → Option V
  | .non => some .non
  | .bl b => some (.bl b)
  | .int i => some (.int i)
  | .str s => some (.str s)
  | _ => none
def flatPs : List PV → Option (List V)
  | [] => some []
  | x :: xs => match flatP x, flatPs xs with | some v, some vs => some (v :: vs) | _, _ => none
theorem flat_ok {K : PySem.W.Frag} {H : Hp} {ρ : List Addr} {x : PV} {x' v : V} (r : VR K H ρ x x') (h : flatP x = some v) : x' = v ∧ flatV x' = true := by
  cases r <;> simp [flatP] at h <;> subst h <;> exact ⟨rfl, rfl⟩
theorem flats_ok {K : PySem.W.Frag} {H : Hp} {ρ : List Addr} : ∀ {xs : List PV} {vs ws : List V}, VRs K H ρ xs vs → flatPs xs = some ws → vs = ws ∧ vs.all flatV = true
  | [], _, _, r, h => by cases r; cases h; exact ⟨rfl, rfl⟩
  | x :: xs, _, _, r, h => by
    cases r with
    | cons r t =>
      unfold flatPs at h
      split at h
      · rename_i v vs e1 e2
        cases h
        obtain ⟨h1, h2⟩ := flat_ok r e1
        obtain ⟨h3, h4⟩ := flats_ok t e2
        subst h1; subst h3
        exact ⟨rfl, by rw [List.all_cons, h2, h4]; rfl⟩
      · cases h
/-- whether x is in what stands at y (a list, a tuple, a text) -/
def inSeq (S : Ms) (x y : PV) : Option Bool := match itemsOf S y with
  | some xs => (match flatP x, flatPs xs with
    | some v, some vs => some (inV v vs)
    | _, _ => (match y, toD S 12 x, toDs S 11 xs with
      | .loc _, some d, some ds => if SeqAt.shaped d && SeqAt.shaped (.list ds) then some (ds.any fun z => PyData.eqv z d) else none
      | _, _, _ => none))
  | none => none
def oInS (x y : PV) (S : Ms) : Out PV := match inSeq S x y with | some b => .ret (.bl b) S | none => .fail
def oNotInS (x y : PV) (S : Ms) : Out PV := match inSeq S x y with | some b => .ret (.bl (!b)) S | none => .fail
theorem inSeq_ok {ρ : List Addr} {S : Ms} {H : Hp} {x y : PV} {x' y' : V} {r : Bool} (R : HR X.K X.mg ρ S H) (rx : VR X.K H ρ x x') (ry : VR X.K H ρ y y') (h : inSeq S x y = some r) :
    (∃ p xs, y' = .ref p ∧ (SqL X.K H p xs ∨ SqT X.K H p xs) ∧ flatV x' = true ∧ xs.all flatV = true ∧ inV x' xs = r) ∨
    ∃ d ds, Dp X.K H x' d ∧ Dp X.K H y' (.list ds) ∧ SeqAt.shaped d = true ∧ SeqAt.shaped (.list ds) = true ∧ (ds.any fun z => PyData.eqv z d) = r := by
  unfold inSeq at h
  split at h
  · rename_i xs q
    obtain ⟨a, vs, rfl, hv, hs⟩ := items_ok R ry q
    split at h
    · rename_i v ws e1 e2
      cases h
      obtain ⟨h1, h2⟩ := flat_ok rx e1
      obtain ⟨h3, h4⟩ := flats_ok hv e2
      refine .inl ⟨a, vs, rfl, ?_, h2, h4, by rw [h1, h3]⟩
      rcases hs with ⟨hs, _⟩ | ⟨hs, _⟩
      · exact .inl hs
      · exact .inr (.of hs)
    · split at h
      · rename_i d ds e1 e2
        by_cases hsh : (SeqAt.shaped d && SeqAt.shaped (.list ds)) = true
        · rw [if_pos hsh] at h
          cases h
          rw [Bool.and_eq_true] at hsh
          rcases hs with ⟨hs, _⟩ | ⟨_, hz⟩
          · exact .inr ⟨d, ds, toD_ok R 12 x x' d rx e1, .lst hs (toDs_ok R 11 xs vs ds hv e2), hsh.1, hsh.2, rfl⟩
          · cases hz
        · rw [if_neg hsh] at h; cases h
      · cases h
  · cases h
def rInA (K : PySem.W.Frag) : R2 := fun x y H Q => rIn K false x y H Q ∨ rInD K x y H Q
def rNotInA (K : PySem.W.Frag) : R2 := fun x y H Q => rIn K true x y H Q ∨ rNotInD K x y H Q
theorem op_inA (hu : X.A.units + 65 < cLine) : OpR X (compareOp .In) (rInA X.K) := or_or op_in_seq (op_inD hu)
theorem op_notInA (hu : X.A.units + 65 < cLine) : OpR X (compareOp .NotIn) (rNotInA X.K) := or_or op_notIn_seq (op_notInD hu)
theorem o_inS : O2 X W oInS (rInA X.K) := by
  intro ρ S H σ Q x y x' y' R rx ry h
  unfold oInS at h
  split at h
  · rename_i r q
    rcases inSeq_ok R rx ry q with ⟨p, xs, rfl, hs, f1, f2, e⟩ | ⟨d, ds, h1, h2, h3, h4, e⟩
    · exact .inl ⟨p, xs, rfl, hs, f1, f2, by rw [e]; exact Post.now R (.bl _) h⟩
    · exact .inr ⟨d, ds, h1, h2, h3, h4, by rw [e]; exact Post.now R (.bl _) h⟩
  · exact h.elim
theorem o_notInS : O2 X W oNotInS (rNotInA X.K) := by
  intro ρ S H σ Q x y x' y' R rx ry h
  unfold oNotInS at h
  split at h
  · rename_i r q
    rcases inSeq_ok R rx ry q with ⟨p, xs, rfl, hs, f1, f2, e⟩ | ⟨d, ds, h1, h2, h3, h4, e⟩
    · exact .inl ⟨p, xs, rfl, hs, f1, f2, by rw [e]; exact Post.now R (.bl _) h⟩
    · exact .inr ⟨d, ds, h1, h2, h3, h4, by rw [e]; exact Post.now R (.bl _) h⟩
  · exact h.elim
def oDIn (k d : PV) (S : Ms) : Out PV := match dGet S d k with | some r => .ret (.bl r.isSome) S | none => .fail
def oDNotIn (k d : PV) (S : Ms) : Out PV := match dGet S d k with | some r => .ret (.bl (!r.isSome)) S | none => .fail
theorem o_din : O2 X W oDIn (fun y x H Q => ∃ a o, x = .ref a ∧ DGet H a y o ∧ Q (.bl o.isSome) H) := by
  intro ρ S H σ Q x y x' y' R rx ry h
  unfold oDIn at h
  split at h
  · rename_i v q
    obtain ⟨a, r', rfl, g, hr⟩ := dget_ok R ry rx q
    refine ⟨a, r', rfl, g, ?_⟩
    rcases hr with ⟨h1, h2⟩ | ⟨w, w', h1, h2, h3⟩
    · subst h1; subst h2; exact Post.now R (.bl _) h
    · subst h1; subst h2; exact Post.now R (.bl _) h
  · exact h.elim
theorem o_dnotin : O2 X W oDNotIn (fun y x H Q => ∃ a o, x = .ref a ∧ DGet H a y o ∧ Q (.bl (!o.isSome)) H) := by
  intro ρ S H σ Q x y x' y' R rx ry h
  unfold oDNotIn at h
  split at h
  · rename_i v q
    obtain ⟨a, r', rfl, g, hr⟩ := dget_ok R ry rx q
    refine ⟨a, r', rfl, g, ?_⟩
    rcases hr with ⟨h1, h2⟩ | ⟨w, w', h1, h2, h3⟩
    · subst h1; subst h2; exact Post.now R (.bl _) h
    · subst h1; subst h2; exact Post.now R (.bl _) h
  · exact h.elim
abbrev oIn : PV → PV → Ms → Out PV := oSel (fun _ y S => isDict S y) oDIn oInS
abbrev oNotIn : PV → PV → Ms → Out PV := oSel (fun _ y S => isDict S y) oDNotIn oNotInS
theorem s_in (hu : X.A.units + 65 < cLine) (ha : SE X W a m) (hb : SE X W b n) (h1 : behindInMarks .In b = false := by first | exact nobehind _ (by decide) (by decide) | rfl) : SE X W (.Compare a [.In] [b] pos) (m2 m n oIn) :=
  let ⟨_, pa, qa⟩ := ha; let ⟨_, pb, qb⟩ := hb
  s_sel _ ⟨_, pe_cmp (pc_din (by omega) pa pb) h1, bin_ok qa qb o_din⟩ (s_cmp (op_inA hu) o_inS ⟨_, pa, qa⟩ ⟨_, pb, qb⟩ h1)
theorem s_notin (hu : X.A.units + 65 < cLine) (ha : SE X W a m) (hb : SE X W b n) (h1 : behindInMarks .NotIn b = false := by first | exact nobehind _ (by decide) (by decide) | rfl) : SE X W (.Compare a [.NotIn] [b] pos) (m2 m n oNotIn) :=
  let ⟨_, pa, qa⟩ := ha; let ⟨_, pb, qb⟩ := hb
  s_sel _ ⟨_, pe_cmp (pc_dnotin (by omega) pa pb) h1, bin_ok qa qb o_dnotin⟩ (s_cmp (op_notInA hu) o_notInS ⟨_, pa, qa⟩ ⟨_, pb, qb⟩ h1)
theorem sb_in (hu : X.A.units + 65 < cLine) (ha : SE X W a m) (hb : SE X W b n) (h1 : behindInMarks .In b = false := by first | exact nobehind _ (by decide) (by decide) | rfl) : SB X W (.Compare a [.In] [b] pos) (mB (m2 m n oIn)) :=
  let ⟨_, pa, qa⟩ := ha; let ⟨_, pb, qb⟩ := hb
  sb_sel _ ⟨_, pt_cmp (pc_din (by omega) pa pb) h1, fun ρ env S σ H Q R er h => test_ok (bin_ok qa qb o_din) asB_ok ρ env S σ H Q R er h⟩ (sb_cmp (op_inA hu) o_inS ⟨_, pa, qa⟩ ⟨_, pb, qb⟩ h1)
theorem sb_notin (hu : X.A.units + 65 < cLine) (ha : SE X W a m) (hb : SE X W b n) (h1 : behindInMarks .NotIn b = false := by first | exact nobehind _ (by decide) (by decide) | rfl) : SB X W (.Compare a [.NotIn] [b] pos) (mB (m2 m n oNotIn)) :=
  let ⟨_, pa, qa⟩ := ha; let ⟨_, pb, qb⟩ := hb
  sb_sel _ ⟨_, pt_cmp (pc_dnotin (by omega) pa pb) h1, fun ρ env S σ H Q R er h => test_ok (bin_ok qa qb o_dnotin) asB_ok ρ env S σ H Q R er h⟩ (sb_cmp (op_notInA hu) o_notInS ⟨_, pa, qa⟩ ⟨_, pb, qb⟩ h1)
end
end MP

set_option maxRecDepth 100000
namespace MP
open PySem PySem.Spec PyProof.Rows L2
section
variable {X : Cx} {W : WX} {a b c e o : Expr} {es rest : List Expr} {pos : Pos} {m n k : ME} {ml : ML} {t u : MB}

/-! ### slices -/
/-- a part of a slice: an int, or left out (None) -/
def SOp (X : Cx) (W : WX) (e : Option Expr) (m : ME) : Prop := ∃ t, PO X e t ∧ ∀ ρ env S σ H (Q : Option Int → Hp → Prop), HR X.K X.mg ρ S H → ER X.K H ρ env σ →
  (match m env S with
    | .ret (.int i) S' => ∀ ρ' H', Grow ρ ρ' → HR X.K X.mg ρ' S' H' → Ext H H' → Q (some i) H'
    | .ret .non S' => ∀ ρ' H', Grow ρ ρ' → HR X.K X.mg ρ' S' H' → Ext H H' → Q none H'
    | .exc x S' => ∀ ρ' C d H', Grow ρ ρ' → HR X.K X.mg ρ' S' H' → Ext H H' → X.mg x.cls = some (.ref C) → XR X.K H' ρ' x.fs d → W (.ref C) d σ H'
    | _ => False) → t σ H Q
theorem so_none : SOp X W none (mC .non) := ⟨_, po_none, fun ρ env S σ H Q R er h => h _ _ (.refl _) R (.refl _)⟩
def onlyI (m : ME) : ME := fun env S => match m env S with | .ret (.int i) S' => .ret (.int i) S' | .exc x S => .exc x S | _ => .fail
theorem so_some (h : SE X W e m) : SOp X W (some e) (onlyI m) :=
  let ⟨_, p, q⟩ := h
  ⟨_, po_some p, fun ρ env S σ H Q R er h => by
    refine q ρ env S σ H _ R er ?_
    unfold onlyI at h
    cases e : m env S with
    | fail => simp only [e] at h
    | exc x S => simp only [e] at h; exact h
    | ret x S1 =>
      simp only [e] at h
      cases x <;> simp only [] at h
      rename_i i
      intro ρ1 x1 H1 g1 R1 e1 r1
      cases r1
      exact ⟨i, rfl, h ρ1 H1 g1 R1 e1⟩⟩
def cutP (xs : List PV) (lo hi : Option Int) : List PV := (xs.drop (HT.sIx xs.length 0 lo)).take (HT.sIx xs.length xs.length hi - HT.sIx xs.length 0 lo)
theorem cut_ok {K : PySem.W.Frag} {H : Hp} {ρ : List Addr} {xs : List PV} {vs : List V} (h : VRs K H ρ xs vs) (lo hi : Option Int) : VRs K H ρ (cutP xs lo hi) (cutV vs lo hi) := by
  unfold cutP cutV
  rw [h.length]
  exact (h.drop _).take _
def partI : PV → Option (Option Int)
  | .int i => some (some i)
  | .non => some none
  | _ => none
def oCut (x : PV) (l u : Option Int) (S : Ms) : Out PV := match x with
  | .tup xs => .ret (.tup (cutP xs l u)) S
  | .rol xs => .ret (.loc S.length) (S ++ [.lst (cutP xs l u)])
  | .loc n => match S[n]? with
    | some (.lst xs) => .ret (.loc S.length) (S ++ [.lst (cutP xs l u)])
    | _ => .fail
  | _ => .fail
def mCut (a l u : ME) : ME := fun env S => (a env S).bind fun x S1 => (l env S1).bind fun y S2 => match partI y with
  | some lo => (u env S2).bind fun z S3 => (match partI z with | some hi => oCut x lo hi S3 | none => .fail)
  | none => .fail
theorem whole_cut (xs : List PV) (lo hi : Option Int) (h : HT.sIx xs.length 0 lo = 0 ∧ HT.sIx xs.length xs.length hi = xs.length) : cutP xs lo hi = xs := by
  unfold cutP
  rw [h.1, h.2]
  simp
theorem slice_at {ρ S H σ Q} {x : PV} {x' : V} {lo hi : Option Int} (R : HR X.K X.mg ρ S H) (r : VR X.K H ρ x x') (h : Post X.K X.mg ρ H σ W Q (oCut x lo hi S)) :
    rSlL X.K x' lo hi H Q ∨ rSlA X.K x' lo hi H Q := by
  cases r with
  | tup hx ax =>
    simp only [oCut] at h
    refine .inr ⟨_, _, rfl, .of hx, fun z => ?_, fun _ p hp => new_tup R (cut_ok ax _ _) h hp⟩
    rw [ax.length] at z
    rw [whole_cut _ _ _ z] at h
    exact Post.now R (.tup hx ax) h
  | rol hx ax => exact .inl ⟨_, _, rfl, hx.sq, fun p hp => new_list R (cut_ok ax _ _) h hp⟩
  | loc en =>
    simp only [oCut] at h
    split at h
    · rename_i q
      obtain ⟨vs, h1, h2⟩ := R.lst en q
      exact .inl ⟨_, _, rfl, .of h1, fun p hp => new_list R (cut_ok h2 _ _) h hp⟩
    · exact h.elim
  | non => exact h.elim
  | bl b => exact h.elim
  | int i => exact h.elim
  | str s => exact h.elim
theorem s_slice {lo hi : Option Expr} {p2 : Pos} (ha : SE X W a m) (hl : SOp X W lo n) (hh : SOp X W hi k) : SE X W (.Subscript a (.Slice lo hi none p2) pos) (mCut m n k) :=
  let ⟨_, pa, qa⟩ := ha; let ⟨_, pb, qb⟩ := hl; let ⟨_, pc, qc⟩ := hh
  ⟨_, pe_slice (SlR.or sl_list sl_tupA) pa pb pc, fun ρ env S σ H Q R er h => by
    refine qa ρ env S σ H _ R er ?_
    unfold mCut at h
    cases e : m env S with
    | fail => rw [e] at h; exact h.elim
    | exc x S => rw [e] at h; exact h
    | ret x S1 =>
      rw [e] at h
      intro ρ1 x' H1 g1 R1 e1 r1
      have er1 := er.mono e1 g1
      have h := Post.mono g1 e1 h
      simp only [Out.bind] at h
      refine qb ρ1 env S1 σ H1 _ R1 er1 ?_
      have part3 : ∀ (lo' : Option Int) (S2 : Ms) (ρ2 : List Addr) (H2 : Hp), Grow ρ1 ρ2 → HR X.K X.mg ρ2 S2 H2 → Ext H1 H2 →
          Post X.K X.mg ρ1 H1 σ W Q ((k env S2).bind fun z S3 => (match partI z with | some hi => oCut x lo' hi S3 | none => .fail)) → _ := fun lo' S2 ρ2 H2 g2 R2 e2 h3 => by
        have h3 := Post.mono g2 e2 h3
        refine qc ρ2 env S2 σ H2 (fun u H3 => rSlL X.K x' lo' u H3 Q ∨ rSlA X.K x' lo' u H3 Q) R2 (er1.mono e2 g2) ?_
        cases e : k env S2 with
        | fail => rw [e] at h3; exact h3.elim
        | exc x S => rw [e] at h3; exact h3
        | ret z S3 =>
          rw [e] at h3
          cases z with
          | int i => exact fun ρ3 H3 g3 R3 e3 => slice_at R3 ((r1.mono e2 g2).mono e3 g3) (Post.mono g3 e3 h3)
          | non => exact fun ρ3 H3 g3 R3 e3 => slice_at R3 ((r1.mono e2 g2).mono e3 g3) (Post.mono g3 e3 h3)
          | bl b => exact h3.elim
          | str b => exact h3.elim
          | tup b => exact h3.elim
          | loc b => exact h3.elim
          | rol b => exact h3.elim
      cases e : n env S1 with
      | fail => rw [e] at h; exact h.elim
      | exc x S => rw [e] at h; exact h
      | ret y S2 =>
        rw [e] at h
        cases y with
        | int i => exact fun ρ2 H2 g2 R2 e2 => part3 (some i) S2 ρ2 H2 g2 R2 e2 h
        | non => exact fun ρ2 H2 g2 R2 e2 => part3 none S2 ρ2 H2 g2 R2 e2 h
        | bl b => exact h.elim
        | str b => exact h.elim
        | tup b => exact h.elim
        | loc b => exact h.elim
        | rol b => exact h.elim⟩
end
end MP

set_option maxRecDepth 100000
namespace MP
open PySem PySem.Spec PyProof.Rows L2
section
variable {X : Cx} {W : WX} {a b c e o : Expr} {es rest : List Expr} {pos : Pos} {m n k : ME} {ml : ML} {t u : MB}

/-! ### calls of built-ins by name -/
theorem ol_ok {f : List PV → Ms → Out PV} {r : List V → Hp → VK → Prop} {t : TA} (hf : OL X W f r)
    (qa : ∀ ρ env S σ H Q, HR X.K X.mg ρ S H → ER X.K H ρ env σ → PostL X.K X.mg ρ H σ W Q (ml env S) → t σ H Q)
    (ρ env S σ H) (Q : VK) (R : HR X.K X.mg ρ S H) (er : ER X.K H ρ env σ) (h : Post X.K X.mg ρ H σ W Q (mL ml f env S)) : t σ H (fun xs H1 => r xs H1 Q) :=
  args_ok qa ρ env S σ H Q (fun ρ' S' H' x x' g e R' r h' => hf ρ' S' H' σ Q x x' R' r h') R er h
theorem s_callB {x : Str} {p : Pos} {id : String} {f : List PV → Ms → Out PV} {r : List V → Hp → VK → Prop} (hc : CallR X (.builtin id) r) (hf : OL X W f r) (hm : X.mg x = none) (hv : bootBuiltins x = some (.builtin id)) (ha : SA X W (e :: es) ml)
    (hg : Gl X x := by rfl) (hn : x ≠ "__name__" := by decide) (hdb : (x == ("__debug__" : Str)) = false := by decide)
    (he : starEach (e :: es) X.env = (false, eval e X.env) :: starEach es X.env := by rfl) (hpl : (backTo pos (starEach es X.env)).any (·.1) = false := by rfl) : SE X W (.Call (.Name x p) (e :: es) [] pos) (mL ml f) :=
  let ⟨_, pa, qa⟩ := ha
  ⟨_, pe_callB hc hg hm hv pa hn hdb he hpl, ol_ok hf qa⟩
theorem s_callTy {x : Str} {p : Pos} {T : String} {f : List PV → Ms → Out PV} {r : List V → Hp → VK → Prop} (hc : CallR X (.type T) r) (hf : OL X W f r) (hm : X.mg x = none) (hv : bootBuiltins x = some (.type T)) (ha : SA X W (e :: es) ml)
    (hg : Gl X x := by rfl) (hn : x ≠ "__name__" := by decide) (hdb : (x == ("__debug__" : Str)) = false := by decide)
    (he : starEach (e :: es) X.env = (false, eval e X.env) :: starEach es X.env := by rfl) (hpl : (backTo pos (starEach es X.env)).any (·.1) = false := by rfl) : SE X W (.Call (.Name x p) (e :: es) [] pos) (mL ml f) :=
  let ⟨_, pa, qa⟩ := ha
  ⟨_, pe_callTy hc hg hm hv pa hn hdb he hpl, ol_ok hf qa⟩
/-- len -/
def oLen : List PV → Ms → Out PV
  | [.str s], S => if s.length ≤ lim then .ret (.int s.length) S else .fail
  | [.tup xs], S => .ret (.int xs.length) S
  | [.rol xs], S => .ret (.int xs.length) S
  | [.loc n], S => (match S[n]? with
    | some (.lst xs) => .ret (.int xs.length) S
    | some (.dK xs) => .ret (.int xs.length) S
    | some (.dT xs) => .ret (.int xs.length) S
    | _ => .fail)
  | _, _ => .fail
theorem vrs1 {K : PySem.W.Frag} {H : Hp} {ρ : List Addr} {x : PV} {vs : List V} (h : VRs K H ρ [x] vs) : ∃ v, vs = [v] ∧ VR K H ρ x v := by
  cases h with | cons h t => cases t; exact ⟨_, rfl, h⟩
theorem vrs2 {K : PySem.W.Frag} {H : Hp} {ρ : List Addr} {x y : PV} {vs : List V} (h : VRs K H ρ [x, y] vs) : ∃ v w, vs = [v, w] ∧ VR K H ρ x v ∧ VR K H ρ y w := by
  cases h with | cons h t => cases t with | cons h' t => cases t; exact ⟨_, _, rfl, h, h'⟩
def rLen4 (K : PySem.W.Frag) : List V → Hp → VK → Prop := fun xs H Q => (∃ x n, xs = [x] ∧ LenV K x H n ∧ Q (.int n) H) ∨ (∃ a kvs, xs = [V.ref a] ∧ H a = some (.dK kvs) ∧ Q (.int kvs.length) H) ∨ rLenT xs H Q
theorem call_len4 : CallR X (.builtin "len") (rLen4 X.K) := call_or call_len (call_or call_lenD call_len_dT)
theorem o_len : OL X W oLen (rLen4 X.K) := by
  intro ρ S H σ Q x x' R r h
  unfold oLen at h
  split at h
  · obtain ⟨v, rfl, rv⟩ := vrs1 r
    cases rv
    split at h
    · rename_i hl; exact .inl ⟨_, _, rfl, ⟨lim_le hl, rfl⟩, Post.now R (.int _) h⟩
    · exact h.elim
  · obtain ⟨v, rfl, rv⟩ := vrs1 r
    cases rv with | tup hx ax => exact .inl ⟨_, _, rfl, .inr ⟨_, .of hx, rfl⟩, by rw [ax.length]; exact Post.now R (.int _) h⟩
  · obtain ⟨v, rfl, rv⟩ := vrs1 r
    cases rv with | rol hx ax => exact .inl ⟨_, _, rfl, .inl ⟨_, hx.sq, rfl⟩, by rw [ax.length]; exact Post.now R (.int _) h⟩
  · obtain ⟨v, rfl, rv⟩ := vrs1 r
    cases rv with
    | loc en =>
      split at h
      · rename_i q; obtain ⟨vs, h1, h2⟩ := R.lst en q
        exact .inl ⟨_, _, rfl, .inl ⟨_, .of h1, rfl⟩, by rw [h2.length]; exact Post.now R (.int _) h⟩
      · rename_i q; obtain ⟨vs, h1, h2⟩ := R.dK en q
        exact .inr (.inl ⟨_, _, rfl, h1, by rw [kvr_len h2]; exact Post.now R (.int _) h⟩)
      · rename_i q; obtain ⟨vs, h1, h2⟩ := R.dT en q
        exact .inr (.inr ⟨_, _, rfl, h1, by rw [kvr_len h2]; exact Post.now R (.int _) h⟩)
      · exact h.elim
  · exact h.elim
def oAbs : List PV → Ms → Out PV
  | [.int i], S => .ret (.int (if i < 0 then -i else i)) S
  | _, _ => .fail
theorem o_abs : OL X W oAbs (fun xs H Q => ∃ i, xs = [.int i] ∧ Q (.int (if i < 0 then -i else i)) H) := by
  intro ρ S H σ Q x x' R r h
  unfold oAbs at h
  split at h
  · obtain ⟨v, rfl, rv⟩ := vrs1 r; cases rv; exact ⟨_, rfl, Post.now R (.int _) h⟩
  · exact h.elim
def oInt : List PV → Ms → Out PV
  | [.int i], S => .ret (.int i) S
  | [.bl b], S => .ret (.int (if b then 1 else 0)) S
  | _, _ => .fail
theorem o_int : OL X W oInt (fun xs H Q => (∃ i, xs = [.int i] ∧ Q (.int i) H) ∨ ∃ k, xs = [.bl k] ∧ Q (.int (if k then 1 else 0)) H) := by
  intro ρ S H σ Q x x' R r h
  unfold oInt at h
  split at h
  · obtain ⟨v, rfl, rv⟩ := vrs1 r; cases rv; exact .inl ⟨_, rfl, Post.now R (.int _) h⟩
  · obtain ⟨v, rfl, rv⟩ := vrs1 r; cases rv; exact .inr ⟨_, rfl, Post.now R (.int _) h⟩
  · exact h.elim
def intsP : List PV → Option (List Int)
  | [] => some []
  | .int i :: xs => (intsP xs).map (i :: ·)
  | _ => none
theorem ints_ok : ∀ {xs : List PV} {ns : List Int}, intsP xs = some ns → xs = ns.map PV.int
  | [], _, h => by cases h; rfl
  | .int i :: xs, _, h => by
    unfold intsP at h
    cases e : intsP xs with
    | none => rw [e] at h; cases h
    | some ns => rw [e] at h; cases h; rw [ints_ok e]; rfl
  | .non :: _, _, h => by cases h
  | .bl _ :: _, _, h => by cases h
  | .str _ :: _, _, h => by cases h
  | .tup _ :: _, _, h => by cases h
  | .loc _ :: _, _, h => by cases h
  | .rol _ :: _, _, h => by cases h
theorem intsP_map : ∀ ns : List Int, intsP (ns.map PV.int) = some ns
  | [] => rfl
  | n :: r => by show (intsP (r.map PV.int)).map (n :: ·) = _; rw [intsP_map r]; rfl
def blsP : List PV → Option (List Bool)
  | [] => some []
  | .bl i :: xs => (blsP xs).map (i :: ·)
  | _ => none
theorem bls_ok : ∀ {xs : List PV} {ns : List Bool}, blsP xs = some ns → xs = ns.map PV.bl
  | [], _, h => by cases h; rfl
  | .bl i :: xs, _, h => by
    unfold blsP at h
    cases e : blsP xs with
    | none => rw [e] at h; cases h
    | some ns => rw [e] at h; cases h; rw [bls_ok e]; rfl
  | .non :: _, _, h => by cases h
  | .int _ :: _, _, h => by cases h
  | .str _ :: _, _, h => by cases h
  | .tup _ :: _, _, h => by cases h
  | .loc _ :: _, _, h => by cases h
  | .rol _ :: _, _, h => by cases h
/-- a list of the store -/
def lstOf (S : Ms) : PV → Option (List PV)
  | .rol xs => some xs
  | .loc n => match S[n]? with | some (.lst xs) => some xs | _ => none
  | _ => none
theorem lstOf_ok {ρ : List Addr} {S : Ms} {H : Hp} {x : PV} {x' : V} {xs : List PV} (R : HR X.K X.mg ρ S H) (r : VR X.K H ρ x x') (h : lstOf S x = some xs) : ∃ a vs, x' = .ref a ∧ VRs X.K H ρ xs vs ∧ SqL X.K H a vs := by
  cases r with
  | loc en =>
    simp only [lstOf] at h
    split at h
    · rename_i q; cases h; obtain ⟨vs, h1, h2⟩ := R.lst en q; exact ⟨_, vs, rfl, h2, .of h1⟩
    · cases h
  | non => cases h
  | bl b => cases h
  | int i => cases h
  | str s => cases h
  | tup _ _ => cases h
  | rol hx ax => cases h; exact ⟨_, _, rfl, ax, hx.sq⟩
def minL (x : Int) (xs : List Int) : Int := xs.foldl min x
theorem minL_spec : ∀ (xs : List Int) (x : Int), minL x xs ∈ x :: xs ∧ ∀ y ∈ x :: xs, minL x xs ≤ y
  | [], x => ⟨List.mem_cons_self, fun y hy => by simp at hy; subst hy; exact Int.le_refl _⟩
  | z :: xs, x => by
    have ih := minL_spec xs (min x z)
    have e : minL x (z :: xs) = minL (min x z) xs := rfl
    rw [e]
    constructor
    · rcases List.mem_cons.mp ih.1 with h | h
      · rw [h]; rcases Int.le_total x z with q | q
        · rw [Int.min_eq_left q]; exact List.mem_cons_self
        · rw [Int.min_eq_right q]; simp
      · simp [h]
    · intro y hy
      have hm := ih.2 (min x z) List.mem_cons_self
      rcases List.mem_cons.mp hy with h | h
      · subst h; omega
      · rcases List.mem_cons.mp h with h | h
        · subst h; omega
        · exact ih.2 y (List.mem_cons_of_mem _ h)
/-- min of a tuple of ints -/
def rMinTI : List V → Hp → VK → Prop := fun vs H Q => ∃ (a : Addr) (x : Int) (ns : List Int), vs = [V.ref a] ∧ H a = some (.tup ((x :: ns).map V.int)) ∧ Q (.int (minL x ns)) H
theorem dpInts {K : PySem.W.Frag} {H : Hp} : ∀ ns : List Int, DpAll K H (ns.map V.int) (ns.map PyData.int)
  | [] => .nil
  | n :: r => .cons (.int n) (dpInts r)
theorem depth_ints : ∀ ns : List Int, PyData.depthAll (ns.map PyData.int) = 0
  | [] => rfl
  | n :: r => by show max (PyData.depth (.int n)) (PyData.depthAll (r.map PyData.int)) = 0; rw [depth_ints r]; rfl
theorem cr_minT (hc : X.calm = true) (hu : X.A.units + 64 < cLine) : CallR X (.builtin "min") rMinTI := by
  intro pins s σ H vs us Q I r h
  obtain ⟨a, x, ns, rfl, hs, q⟩ := h
  obtain ⟨its, rv, ht, _⟩ := I.tuple (a := a) (.of hs)
  rw [Vals.ref1 r]
  obtain ⟨as, hr⟩ := Dp.readsAll I ((x :: ns).map PyData.int) _ its (dpInts (x :: ns)) rv
  refine PySem.W.min_tuple_data (I.ok.hd hc) (vs := its.toArray) (x := .int x) (xs := ns.map PyData.int) (as := as) ht hr ⟨fun y hy z hz => ?_, fun y hy => ?_⟩ ?_ fun i v h' tk bs hv rd hk => ?_
  · obtain ⟨j, _, rfl⟩ := List.mem_map.mp (show y ∈ (x :: ns).map PyData.int from hy)
    obtain ⟨l, _, rfl⟩ := List.mem_map.mp (show z ∈ (x :: ns).map PyData.int from hz)
    unfold PySem.W.alike; rfl
  · obtain ⟨j, _, rfl⟩ := List.mem_map.mp (show y ∈ (x :: ns).map PyData.int from hy)
    intro z; cases z
  · show X.A.units + 1 + PyData.depthAll ((x :: ns).map PyData.int) < cLine
    rw [depth_ints]; omega
  · rw [PySem.W.minD_ints] at rd
    cases rd with
    | int _ t => exact ⟨.int _, H, I.kept hk, ⟨t, rfl⟩, q⟩
def oMin : List PV → Ms → Out PV
  | [.int i, .int j], S => .ret (.int (if j < i then j else i)) S
  | [.tup xs], S => (match intsP xs with | some (x :: ns) => .ret (.int (minL x ns)) S | _ => .fail)
  | [.loc n], S => (match (lstOf S (.loc n)).bind intsP with | some (x :: ns) => .ret (.int (minL x ns)) S | _ => .fail)
  | _, _ => .fail
def rMin4 (K : PySem.W.Frag) : List V → Hp → VK → Prop := fun xs H Q => (∃ i j, xs = [.int i, .int j] ∧ Q (.int (if j < i then j else i)) H) ∨ rMinTI xs H Q ∨ rMin K xs H Q
theorem call_min4 (hc : X.calm = true) (hu : X.A.units + 64 < cLine) : CallR X (.builtin "min") (rMin4 X.K) := call_or (call_min2 hc) (call_or (cr_minT hc hu) (cr_min hc))
theorem o_min : OL X W oMin (rMin4 X.K) := by
  intro ρ S H σ Q x x' R r h
  unfold oMin at h
  split at h
  · obtain ⟨v, w, rfl, r1, r2⟩ := vrs2 r; cases r1; cases r2; exact .inl ⟨_, _, rfl, Post.now R (.int _) h⟩
  · obtain ⟨v, rfl, rv⟩ := vrs1 r
    split at h
    · rename_i q
      have e := ints_ok q
      subst e
      cases rv with
      | tup hx ax =>
        have e2 := VRs.ints_inv ax
        subst e2
        exact .inr (.inl ⟨_, _, _, rfl, hx, Post.now R (.int _) h⟩)
    · exact h.elim
  · rename_i xx
    obtain ⟨v, rfl, rv⟩ := vrs1 r
    split at h
    · rename_i x ns q
      cases e : lstOf S (.loc xx) with
      | none => rw [e] at q; cases q
      | some xs =>
        rw [e] at q
        obtain ⟨a, vs, rfl, hv, hs⟩ := lstOf_ok R rv e
        have e := ints_ok (show intsP xs = _ from q)
        subst e
        have e2 := VRs.ints_inv hv
        subst e2
        refine .inr (.inr ⟨_, _, rfl, hs, Nat.succ_pos _, fun mm h1 h2 => ?_⟩)
        have sp := minL_spec ns x
        have e3 : mm = minL x ns := Int.le_antisymm (h2 _ sp.1) (sp.2 _ h1)
        rw [e3]; exact Post.now R (.int _) h
    · exact h.elim
  · exact h.elim
def oAll : List PV → Ms → Out PV
  | [x], S => (match (lstOf S x).bind blsP with | some ns => .ret (.bl (ns.all id)) S | _ => .fail)
  | _, _ => .fail
theorem o_all : OL X W oAll (rAll X.K) := by
  intro ρ S H σ Q x x' R r h
  unfold oAll at h
  split at h
  · rename_i xx
    obtain ⟨v, rfl, rv⟩ := vrs1 r
    split at h
    · rename_i ns q
      cases e : lstOf S xx with
      | none => rw [e] at q; cases q
      | some xs =>
        rw [e] at q
        obtain ⟨a, vs, rfl, hv, hs⟩ := lstOf_ok R rv e
        have e := bls_ok (show blsP xs = _ from q)
        subst e
        have e2 := VRs.bls_inv hv
        subst e2
        exact ⟨_, _, rfl, hs, Post.now R (.bl _) h⟩
    · exact h.elim
  · exact h.elim
/-- list(x): of a list, a tuple, a dict's keys -/
def oListOf : List PV → Ms → Out PV
  | [.tup xs], S => .ret (.loc S.length) (S ++ [.lst xs])
  | [.rol xs], S => .ret (.loc S.length) (S ++ [.lst xs])
  | [.loc n], S => (match S[n]? with
    | some (.lst xs) => .ret (.loc S.length) (S ++ [.lst xs])
    | some (.dK kvs) => .ret (.loc S.length) (S ++ [.lst (kvs.map fun kv => kP kv.1)])
    | some (.dT kvs) => .ret (.loc S.length) (S ++ [.lst (kvs.map fun kv => .tup (kv.1.map kP))])
    | _ => .fail)
  | _, _ => .fail
def rListOf (K : PySem.W.Frag) : List V → Hp → VK → Prop := fun xs H Q => (∃ p ys, xs = [.ref p] ∧ (SqL K H p ys ∨ SqT K H p ys) ∧ ∀ l, H l = none → Q (.ref l) (upd H l (.lst ys))) ∨ rListD xs H Q ∨
  (∃ d kvs, xs = [V.ref d] ∧ Rd H d (.dT kvs) ∧ ∀ p bs, H p = none → IsKeys H kvs bs → Q (.ref p) (upd H p (.lst (bs.map V.ref))))
theorem call_listOf (hc : X.calm = true) : CallR X (.type "list") (rListOf X.K) := call_or call_list_of (call_or (call_list_dK hc) (call_list_dT hc))
theorem keysK_ok {K : PySem.W.Frag} {H : Hp} {ρ : List Addr} : ∀ {xs : List (Key × PV)} {vs : List (Key × V)}, KVR K H ρ xs vs → VRs K H ρ (xs.map fun kv => kP kv.1) (vs.map fun kv => kV kv.1)
  | [], _, h => by cases h; exact .nil
  | _ :: _, _, h => by cases h with | cons h t => exact .cons (by have e := h.1; show VR K H ρ (kP _) (kV _); rw [← e]; exact kP_ok _) (keysK_ok t)
theorem kPs_ok {K : PySem.W.Frag} {H : Hp} {ρ : List Addr} : ∀ ks : List Key, VRs K H ρ (ks.map kP) (ks.map kV)
  | [] => .nil
  | k :: r => .cons (kP_ok k) (kPs_ok r)
theorem keysT_ok {K : PySem.W.Frag} {H : Hp} {ρ : List Addr} : ∀ {xs : List (List Key × PV)} {vs : List (List Key × V)} {bs : List Addr}, KVR K H ρ xs vs → IsKeys H vs bs → VRs K H ρ (xs.map fun kv => PV.tup (kv.1.map kP)) (bs.map V.ref)
  | [], _, _, h, r => by cases h; cases r; exact .nil
  | _ :: _, _, _, h, r => by
    cases h with
    | cons h t => cases r with
      | cons r rt => exact .cons (.tup (by rw [r, ← h.1]) (kPs_ok _)) (keysT_ok t rt)
theorem o_listOf : OL X W oListOf (rListOf X.K) := by
  intro ρ S H σ Q x x' R r h
  unfold oListOf at h
  split at h
  · obtain ⟨v, rfl, rv⟩ := vrs1 r
    cases rv with | tup hx ax => exact .inl ⟨_, _, rfl, .inr (.of hx), fun p hp => new_list R ax h hp⟩
  · obtain ⟨v, rfl, rv⟩ := vrs1 r
    cases rv with | rol hx ax => exact .inl ⟨_, _, rfl, .inl hx.sq, fun p hp => new_list R ax h hp⟩
  · obtain ⟨v, rfl, rv⟩ := vrs1 r
    cases rv with
    | loc en =>
      split at h
      · rename_i q; obtain ⟨vs, h1, h2⟩ := R.lst en q
        exact .inl ⟨_, _, rfl, .inl (.of h1), fun p hp => new_list R h2 h hp⟩
      · rename_i q; obtain ⟨vs, h1, h2⟩ := R.dK en q
        exact .inr (.inl ⟨_, _, rfl, h1, fun p hp => new_list R (keysK_ok h2) h hp⟩)
      · rename_i q; obtain ⟨vs, h1, h2⟩ := R.dT en q
        exact .inr (.inr ⟨_, _, rfl, .of h1, fun p bs hp hb => new_list R (keysT_ok h2 hb) h hp⟩)
      · exact h.elim
  · exact h.elim
/-- tuple(x) -/
def oTupOf : List PV → Ms → Out PV
  | [x], S => (match itemsOf S x with | some xs => .ret (.tup xs) S | none => .fail)
  | _, _ => .fail
theorem o_tupOf : OL X W oTupOf (fun xs H Q => ∃ p ys, xs = [.ref p] ∧ ((SqL X.K H p ys ∧ ∀ l, H l = none → Q (.ref l) (upd H l (.tup ys))) ∨ (SqT X.K H p ys ∧ Q (.ref p) H))) := by
  intro ρ S H σ Q x x' R r h
  unfold oTupOf at h
  split at h
  · obtain ⟨v, rfl, rv⟩ := vrs1 r
    split at h
    · rename_i xs q
      obtain ⟨a, vs, rfl, hv, hs⟩ := items_ok R rv q
      rcases hs with ⟨hs, _⟩ | ⟨hs, rfl⟩
      · exact ⟨_, _, rfl, .inl ⟨hs, fun p hp => new_tup R hv h hp⟩⟩
      · exact ⟨_, _, rfl, .inr ⟨.of hs, Post.now R rv h⟩⟩
    · exact h.elim
  · exact h.elim
/-- sorted of ints -/
def sortI (ns : List Int) : List Int := ns.mergeSort (fun a b => decide (a ≤ b))
theorem sorted_uniq : ∀ {l m : List Int}, l.Perm m → l.Pairwise (· ≤ ·) → m.Pairwise (· ≤ ·) → l = m
  | [], m, p, _, _ => (List.Perm.eq_nil p.symm).symm
  | x :: l, [], p, _, _ => absurd p.length_eq (by simp)
  | x :: l, y :: m, p, hl, hm => by
    have h1 := List.pairwise_cons.mp hl
    have h2 := List.pairwise_cons.mp hm
    have e : x = y := by
      have hx : x ∈ y :: m := p.subset List.mem_cons_self
      have hy : y ∈ x :: l := p.symm.subset List.mem_cons_self
      rcases List.mem_cons.mp hx with e | hx
      · exact e
      · rcases List.mem_cons.mp hy with e | hy
        · exact e.symm
        · exact Int.le_antisymm (h1.1 y hy) (h2.1 x hx)
    subst e
    rw [sorted_uniq (List.perm_cons x |>.mp p) h1.2 h2.2]
theorem sortI_perm (ns : List Int) : (sortI ns).Perm ns := List.mergeSort_perm _ _
theorem sortI_sorted (ns : List Int) : (sortI ns).Pairwise (· ≤ ·) := by
  have h := List.pairwise_mergeSort (le := fun (a b : Int) => decide (a ≤ b)) (by intro a b c; simp; omega) (by intro a b; simp; omega) ns
  exact h.imp (by intro a b h; simpa using h)
end
end MP

set_option maxRecDepth 100000
namespace MP
open PySem PySem.Spec PyProof.Rows L2
section
variable {X : Cx} {W : WX} {a b c e o : Expr} {es rest : List Expr} {pos : Pos} {m n k : ME} {ml : ML} {t u : MB} {st : Stmt} {sts : List Stmt} {p q : MS}

/-! ### statements -/
def sNext : MS := fun env S => .nx env S
def sSeq (p q : MS) : MS := fun env S => match p env S with | .nx env1 S1 => q env1 S1 | r => r
theorem ss_nil : SSs X W [] sNext := ⟨_, pss_nil, fun ρ env S σ H D R er h => h _ _ _ (.refl _) R (.refl _) er⟩
theorem ss_cons (h : SS X W st p) (h' : SSs X W sts q) : SSs X W (st :: sts) (sSeq p q) :=
  let ⟨_, pa, qa⟩ := h; let ⟨_, pb, qb⟩ := h'
  ⟨_, pss_cons pa pb, fun ρ env S σ H D R er h => by
    refine qa ρ env S σ H _ R er ?_
    unfold sSeq at h
    cases e : p env S with
    | nx env1 S1 => rw [e] at h; exact fun ρ1 σ1 H1 g1 R1 e1 er1 => qb ρ1 env1 S1 σ1 H1 D R1 er1 (PostS.mono g1 e1 h)
    | rt v S1 => rw [e] at h; exact h
    | bk env1 S1 => rw [e] at h; exact h
    | ct env1 S1 => rw [e] at h; exact h
    | exc env1 x S1 => rw [e] at h; exact h
    | fail => rw [e] at h; exact h⟩
theorem ss_one (h : SS X W st p) : SSs X W [st] p := let ⟨_, pa, qa⟩ := h; ⟨_, pss_one pa, qa⟩
/-- an expression, and a statement's end made of its value -/
def sOf (m : ME) (f : PV → Env' → Ms → SO) : MS := fun env S => match m env S with | .ret v S1 => f v env S1 | .exc x S1 => .exc env x S1 | .fail => .fail
theorem sOf_ok {ta : TE} {f : PV → Env' → Ms → SO} {kk : V → Hp → Prop} {D : Ends}
    (ha : ∀ ρ env S σ H Q, HR X.K X.mg ρ S H → ER X.K H ρ env σ → Post X.K X.mg ρ H σ W Q (m env S) → ta σ H Q)
    (ρ env S σ H) (R : HR X.K X.mg ρ S H) (er : ER X.K H ρ env σ)
    (hf : ∀ ρ' S' H' x x', Grow ρ ρ' → HR X.K X.mg ρ' S' H' → Ext H H' → ER X.K H' ρ' env σ → VR X.K H' ρ' x x' → PostS X.K X.mg ρ' H' W D (f x env S') → kk x' H')
    (h : PostS X.K X.mg ρ H W D (sOf m f env S)) : ta σ H kk := by
  refine ha ρ env S σ H _ R er ?_
  unfold sOf at h
  cases e : m env S with
  | fail => simp only [e] at h; exact h.elim
  | exc x S => simp only [e] at h; exact fun ρ' C d H' g R' e' hc xr => h ρ' σ C d H' g R' e' (er.mono e' g) hc xr
  | ret x S1 =>
    simp only [e] at h
    exact fun ρ1 x' H1 g1 R1 e1 r1 => hf ρ1 S1 H1 x x' g1 R1 e1 (er.mono e1 g1) r1 (PostS.mono g1 e1 h)
abbrev sDrop (m : ME) : MS := sOf m fun _ env S => .nx env S
theorem ss_expr (h : SE X W e m) (hs : swapsWith e none pos.line X.env = pure false := by rfl) : SS X W (.Expr e pos) (sDrop m) :=
  let ⟨_, pa, qa⟩ := h
  ⟨_, ps_expr pa hs, fun ρ env S σ H D R er h => sOf_ok (D := D) (f := fun _ env S => .nx env S) qa ρ env S σ H R er (fun ρ' S' H' x x' g R' e' er' r h => h _ _ _ (.refl _) R' (.refl _) er') h⟩
abbrev sRet (m : ME) : MS := sOf m fun v _ S => .rt v S
theorem ss_ret (h : SE X W e m) : SS X W (.Return (some e) pos) (sRet m) :=
  let ⟨_, pa, qa⟩ := h
  ⟨_, ps_ret pa, fun ρ env S σ H D R er h => sOf_ok (D := D) (f := fun v _ S => .rt v S) qa ρ env S σ H R er (fun ρ' S' H' x x' g R' e' er' r h => h _ _ _ (.refl _) R' (.refl _) r) h⟩
def sIf (t : MB) (p q : MS) : MS := fun env S => match t env S with | .ret true S1 => p env S1 | .ret false S1 => q env S1 | .exc x S1 => .exc env x S1 | .fail => .fail
theorem ss_if {sa sb : List Stmt} (hc : SB X W c t) (ha : SSs X W sa p) (hb : SSs X W sb q) : SS X W (.If c sa sb pos) (sIf t p q) :=
  let ⟨_, pc, qc⟩ := hc; let ⟨_, pa, qa⟩ := ha; let ⟨_, pb, qb⟩ := hb
  ⟨_, ps_if pc pa pb, fun ρ env S σ H D R er h => by
    refine qc ρ env S σ H _ R er ?_
    unfold sIf at h
    split at h
    · rename_i S1 e
      rw [e]
      intro ρ1 H1 g1 R1 e1
      rw [if_pos rfl]
      exact qa ρ1 env S1 σ H1 D R1 (er.mono e1 g1) (PostS.mono g1 e1 h)
    · rename_i S1 e
      rw [e]
      intro ρ1 H1 g1 R1 e1
      rw [if_neg Bool.false_ne_true]
      exact qb ρ1 env S1 σ H1 D R1 (er.mono e1 g1) (PostS.mono g1 e1 h)
    · rename_i e; rw [e]; exact fun ρ' C d H' g R' e' hc xr => h ρ' σ C d H' g R' e' (er.mono e' g) hc xr
    · exact h.elim⟩

/-! ### targets: what they make of the locals; sl: the slots that may change -/
abbrev MG := PV → Env' → Option Env'
theorem wipe_set {σ : L2.St} {i : Nat} {s : Option V} : ∀ {vs : List Nat}, i ∈ vs → wipe (σ.set i s) vs = wipe σ vs
  | v :: vs, h => by
    show (wipe (σ.set i s) vs).set v none = (wipe σ vs).set v none
    by_cases hv : i ∈ vs
    · rw [wipe_set hv]
    · have e : i = v := by rcases List.mem_cons.mp h with h | h; exact h; exact absurd h hv
      subst e
      have g : ∀ (vs : List Nat), i ∉ vs → wipe (σ.set i s) vs = (wipe σ vs).set i s := by
        intro vs
        induction vs with
        | nil => intro _; rfl
        | cons w ws ih =>
          intro hn
          show (wipe (σ.set i s) ws).set w none = ((wipe σ ws).set w none).set i s
          rw [ih (fun z => hn (List.mem_cons_of_mem _ z))]
          rw [List.set_comm]
          intro z; subst z; exact hn List.mem_cons_self
      rw [g vs hv, List.set_set]
def SG (X : Cx) (tg : Expr) (g : MG) (sl : List Nat) : Prop := ∃ t, PG X tg t ∧ ∀ ρ env S σ H v v' env' (Q : L2.St → Hp → Prop), HR X.K X.mg ρ S H → ER X.K H ρ env σ → VR X.K H ρ v v' → g v env = some env' →
  (∀ σ', ER X.K H ρ env' σ' → (∀ vs, (∀ i ∈ sl, i ∈ vs) → wipe σ' vs = wipe σ vs) → Q σ' H) → t v' σ H Q
def SGs (X : Cx) (tgs : List Expr) (g : List PV → Env' → Option Env') (sl : List Nat) : Prop := ∃ t, PGs X tgs t ∧ ∀ ρ env S σ H vs vs' env' (Q : L2.St → Hp → Prop), HR X.K X.mg ρ S H → ER X.K H ρ env σ → VRs X.K H ρ vs vs' → g vs env = some env' →
  (∀ σ', ER X.K H ρ env' σ' → (∀ ws, (∀ i ∈ sl, i ∈ ws) → wipe σ' ws = wipe σ ws) → Q σ' H) → t vs' σ H Q
def gNm (i : Nat) : MG := fun v env => some (env.set i (some v))
theorem sg_name {i : Nat} {x : Str} (hN : X.N.Nodup) (hi : X.N[i]? = some x := by rfl) (hx : Loc X.env.scope x := by first | exact .inl rfl | exact .inr rfl) (hf : X.fn x = true ∨ X.env.scope.names.lookup x = some .local := by first | exact .inl rfl | exact .inr rfl | assumption) : SG X (.Name x pos) (gNm i) [i] :=
  ⟨_, pg_name hN hi hx hf, fun ρ env S σ H v v' env' Q R er r e h => by
    cases e
    exact h _ (er.set r i) fun vs hv => wipe_set (hv i List.mem_cons_self)⟩
def gNl : List PV → Env' → Option Env'
  | [], env => some env
  | _, _ => none
def gCn (g : MG) (gs : List PV → Env' → Option Env') : List PV → Env' → Option Env'
  | v :: vs, env => (g v env).bind fun env1 => gs vs env1
  | [], _ => none
theorem sgs_nil : SGs X [] gNl [] := ⟨_, pgs_nil, fun ρ env S σ H vs vs' env' Q R er r e h => by
  cases r with
  | nil => cases e; exact ⟨rfl, h σ er fun _ _ => rfl⟩
  | cons _ _ => cases e⟩
theorem sgs_cons {g : MG} {gs : List PV → Env' → Option Env'} {sl sl' : List Nat} (h1 : SG X e g sl) (h2 : SGs X es gs sl') (hs : (assignEach (e :: es) X.env).map (·.2) = assign e X.env :: (assignEach es X.env).map (·.2) := by rfl) : SGs X (e :: es) (gCn g gs) (sl ++ sl') :=
  let ⟨_, pa, qa⟩ := h1; let ⟨_, pb, qb⟩ := h2
  ⟨_, pgs_cons pa pb hs, fun ρ env S σ H vs vs' env' Q R er r e h => by
    cases r with
    | nil => cases e
    | cons r t =>
      rename_i x v xs vs
      simp only [gCn] at e
      cases e1 : g x env with
      | none => rw [e1] at e; cases e
      | some env1 =>
        rw [e1] at e
        refine ⟨_, _, rfl, qa ρ env S σ H x v env1 _ R er r e1 fun σ1 er1 w1 => ?_⟩
        refine qb ρ env1 S σ1 H xs vs env' _ R er1 t e fun σ2 er2 w2 => ?_
        exact h σ2 er2 fun ws hw => by rw [w2 ws fun i hi => hw i (List.mem_append_right _ hi), w1 ws fun i hi => hw i (List.mem_append_left _ hi)]⟩
def gTp (n : Nat) (gs : List PV → Env' → Option Env') : MG := fun v env => match v with | .tup xs => if xs.length = n then gs xs env else none | _ => none
theorem sg_tup {k n : Nat} {gs : List PV → Env' → Option Env'} {sl : List Nat} (hc : X.calm = true) (h : SGs X es gs sl)
    (hn : (assignEach es X.env).length = n := by rfl) (hst : (assignEach es X.env).findIdx? (·.1) = none := by rfl) : SG X (.Tuple es k pos) (gTp n gs) sl :=
  let ⟨_, pa, qa⟩ := h
  ⟨_, pg_tup hc pa hn hst, fun ρ env S σ H v v' env' Q R er r e h => by
    cases r with
    | tup hx ax =>
      simp only [gTp] at e
      split at e
      · rename_i hl
        exact ⟨_, _, rfl, .of hx, by rw [ax.length]; exact hl, qa ρ env S σ H _ _ env' Q R er ax e h⟩
      · cases e
    | non => cases e
    | bl b => cases e
    | int b => cases e
    | str b => cases e
    | loc b => cases e
    | rol _ _ => cases e⟩
def toSO : Option Env' → Ms → SO
  | some env, S => .nx env S
  | none, _ => .fail
abbrev sAsg (g : MG) (m : ME) : MS := sOf m fun v env S => toSO (g v env) S
theorem ss_asg {tg : Expr} {g : MG} {sl : List Nat} (he : SE X W e m) (hg : SG X tg g sl) (hs : swapsWithSole [tg] e pos.line X.env = pure false := by rfl) (hw : swappedStores [tg] e X.env = pure none := by rfl)
    (h1 : (assignEach [tg] X.env).map (·.2) = [assign tg X.env] := by rfl) : SS X W (.Assign [tg] e pos) (sAsg g m) :=
  let ⟨_, pa, qa⟩ := he; let ⟨_, pg, qg⟩ := hg
  ⟨_, ps_asg pa pg hs hw h1, fun ρ env S σ H D R er h => sOf_ok (D := D) qa ρ env S σ H R er (fun ρ' S' H' x x' gg R' e' er' r h => by
    cases q : g x env with
    | none => simp only [q, toSO] at h; exact h.elim
    | some env1 =>
      simp only [q, toSO] at h
      exact qg ρ' env S' σ H' x x' env1 _ R' er' r q fun σ' er'' _ => h _ _ _ (.refl _) R' (.refl _) er'') h⟩
/-- x = e -/
abbrev sSet (i : Nat) (m : ME) : MS := sAsg (gNm i) m
theorem ss_set {i : Nat} {x : Str} {pos' : Pos} (hN : X.N.Nodup) (he : SE X W e m) (hi : X.N[i]? = some x := by rfl) (hx : Loc X.env.scope x := by first | exact .inl rfl | exact .inr rfl) (hs : swapsWith e (some (.Name x pos')) pos.line X.env = pure false := by rfl)
    (hf : X.fn x = true ∨ X.env.scope.names.lookup x = some .local := by first | exact .inl rfl | exact .inr rfl | assumption) : SS X W (.Assign [.Name x pos'] e pos) (sSet i m) :=
  let ⟨_, pa, qa⟩ := he
  ⟨_, ps_set hN hi hx pa hs hf, fun ρ env S σ H D R er h => sOf_ok (D := D) (f := fun v env S => toSO (gNm i v env) S) qa ρ env S σ H R er (fun ρ' S' H' x x' gg R' e' er' r h => h _ _ _ (.refl _) R' (.refl _) (er'.set r i)) h⟩
/-- x, y = a, b -/
def sPar (i j : Nat) (a b : ME) : MS := fun env S => match mCons a (mCons b mNil) env S with
  | .ret [v, w] S1 => .nx ((env.set i (some v)).set j (some w)) S1
  | .exc x S1 => .exc env x S1
  | _ => .fail
theorem ss_par {i j : Nat} {x y : Str} {px py pt : Pos} {kt k2 pt2} (hc : X.calm = true) (hN : X.N.Nodup) (ha : SE X W a m) (hb : SE X W b n) (hi : X.N[i]? = some x := by rfl) (hj : X.N[j]? = some y := by rfl) (hij : i ≠ j := by decide)
    (hx : X.env.scope.names.lookup x = some .local := by rfl) (hy : X.env.scope.names.lookup y = some .local := by rfl)
    (hw : swappedStores [.Tuple [.Name x px, .Name y py] kt pt] (.Tuple [a, b] k2 pt2) X.env = pure (some [x, y]) := by rfl)
    (hs : swapsWithSole [.Tuple [.Name x px, .Name y py] kt pt] (.Tuple [a, b] k2 pt2) pos.line X.env = pure false := by rfl)
    (h1 : starEach [a, b] X.env = (false, eval a X.env) :: starEach [b] X.env := by rfl) (h2 : starEach [b] X.env = (false, eval b X.env) :: starEach [] X.env := by rfl) :
    SS X W (.Assign [.Tuple [.Name x px, .Name y py] kt pt] (.Tuple [a, b] k2 pt2) pos) (sPar i j m n) :=
  let ⟨_, pa, qa⟩ := sa_cons ha (sa_cons hb sa_nil h2) h1
  ⟨_, ps_par hc hN hi hj hij hx hy pa hw hs, fun ρ env S σ H D R er h => by
    refine qa ρ env S σ H _ R er ?_
    unfold sPar at h
    split at h
    · rename_i v w S1 e
      rw [e]
      intro ρ1 vs H1 g1 R1 e1 r1
      obtain ⟨v', w', rfl, r1, r2⟩ := vrs2 r1
      exact ⟨v', w', rfl, h ρ1 _ H1 g1 R1 e1 (((er.mono e1 g1).set r1 i).set r2 j)⟩
    · rename_i e; rw [e]; exact fun ρ' C d H' g R' e' hc xr => h ρ' σ C d H' g R' e' (er.mono e' g) hc xr
    · exact h.elim⟩
/-- x op= e -/
def sAug (i : Nat) (f : PV → PV → Ms → Out PV) (m : ME) : MS := fun env S => match env[i]? with
  | some (some x) => (match (m env S).bind (fun y S1 => f x y S1) with | .ret v S1 => .nx (env.set i (some v)) S1 | .exc x S1 => .exc env x S1 | .fail => .fail)
  | _ => .fail
theorem ss_aug {i : Nat} {x : Str} {op : Operator} {pos' : Pos} {f : PV → PV → Ms → Out PV} {r : V → V → Hp → VK → Prop} (hN : X.N.Nodup) (ho : OpR X (inplaceOp op) r) (hf : O2 X W f r) (he : SE X W e m) (hi : X.N[i]? = some x := by rfl) (hx : Loc X.env.scope x := by first | exact .inl rfl | exact .inr rfl)
    (hfn : X.fn x = true ∨ X.env.scope.names.lookup x = some .local := by first | exact .inl rfl | exact .inr rfl | assumption) : SS X W (.AugAssign (.Name x pos') op e pos) (sAug i f m) :=
  let ⟨_, pa, qa⟩ := he
  ⟨_, ps_aug hN hi hx pa (ti := r) (fun pins s σ H x y v u Q I rx ry q => ho pins s σ H x y v u Q I rx ry q) hfn, fun ρ env S σ H D R er h => by
    unfold sAug at h
    split at h
    · rename_i x ex
      obtain ⟨x', h1, h2⟩ := er.get ex
      refine ⟨x', h1, ?_⟩
      refine qa ρ env S σ H _ R er ?_
      cases e : m env S with
      | fail => simp only [e, Out.bind] at h; exact h.elim
      | exc x S => simp only [e, Out.bind] at h; exact fun ρ' C d H' g R' e' hc xr => h ρ' σ C d H' g R' e' (er.mono e' g) hc xr
      | ret y S1 =>
        simp only [e, Out.bind] at h
        intro ρ1 y' H1 g1 R1 e1 r1
        have h := PostS.mono g1 e1 h
        refine hf ρ1 S1 H1 σ _ x y x' y' R1 (h2.mono e1 g1) r1 ?_
        cases e : f x y S1 with
        | fail => simp only [e] at h; exact h.elim
        | exc x S => simp only [e] at h; exact fun ρ' C d H' g R' e' hc xr => h ρ' σ C d H' g R' e' ((er.mono e1 g1).mono e' g) hc xr
        | ret z S2 =>
          simp only [e] at h
          exact fun ρ2 z' H2 g2 R2 e2 r2 => h ρ2 _ H2 g2 R2 e2 (((er.mono e1 g1).mono e2 g2).set r2 i)
    · exact h.elim⟩
/-- o[i] = e: of a list, of a dict -/
def oPut (o i v : PV) (S : Ms) : Option Ms := match o with
  | .loc n => (match S[n]? with
    | some (.lst xs) => (match i with | .int k => (ixN xs.length k).map fun j => S.set n (.lst (xs.set j v)) | _ => none)
    | some (.dK kvs) => if kvs.length < lim then (keyP i).map fun k => S.set n (.dK (putP kvs k v)) else none
    | some (.dT kvs) => if kvs.length < lim then (keysP i).map fun k => S.set n (.dT (putP kvs k v)) else none
    | _ => none)
  | _ => none
def sPut (m n k : ME) : MS := fun env S => match k env S with
  | .ret v S1 => (match m env S1 with
    | .ret o S2 => (match n env S2 with
      | .ret i S3 => (match oPut o i v S3 with | some S4 => .nx env S4 | none => .fail)
      | .exc x S' => .exc env x S'
      | .fail => .fail)
    | .exc x S' => .exc env x S'
    | .fail => .fail)
  | .exc x S' => .exc env x S'
  | .fail => .fail
theorem ps_or2 {t1 t2 : TS} (h : PS X st t1) (h' : PS X st t2) : PS X st (fun D σ H => t1 D σ H ∨ t2 D σ H) := ⟨fun pins s σ H D I z => z.elim (h.run pins s σ H D I) (h'.run pins s σ H D I)⟩
def isLst (S : Ms) : PV → Bool
  | .loc n => match S[n]? with | some (.lst _) => true | _ => false
  | _ => false
theorem ss_put {pos' : Pos} (hu : X.A.units + 1 < cLine) (ha : SE X W a m) (hb : SE X W b n) (hc : SE X W c k)
    (hs : swapsWithSole [.Subscript a b pos'] c pos.line X.env = pure false := by rfl) (hw : swappedStores [.Subscript a b pos'] c X.env = pure none := by rfl)
    (h1 : (assignEach [.Subscript a b pos'] X.env).map (·.2) = [assign (.Subscript a b pos') X.env] := by rfl)
    (hsu : ∀ v, assign (.Subscript a b pos') X.env v = (do
      let ov ← holding [v] (eval a X.env)
      let iv ← holding [v, ov] (eval b X.env)
      standAt pos'
      holding [v, ov, iv] (setItem ov iv v)
      release [v, ov, iv] []) := by intro _; rfl)
    (hsw : swapsWith c (some (.Subscript a b pos')) pos.line X.env = pure false := by rfl) : SS X W (.Assign [.Subscript a b pos'] c pos) (sPut m n k) :=
  let ⟨ta, pa, qa⟩ := ha; let ⟨tb, pb, qb⟩ := hb; let ⟨tc, pc, qc⟩ := hc
  ⟨_, ps_or2 (ps_asg pc (pg_sub pa pb set_list hsu) hs hw h1) (ps_dput hu pa pb pc hsw), fun ρ env S σ H D R er h => by
    have gen : ∀ (kk : V → V → V → Hp → Prop), (∀ ρ' S' H' o i v o' i' v', HR X.K X.mg ρ' S' H' → Grow ρ ρ' → Ext H H' → ER X.K H' ρ' env σ → VR X.K H' ρ' o o' → VR X.K H' ρ' i i' → VR X.K H' ρ' v v' →
        (∃ S1 S2, k env S = .ret v S1 ∧ m env S1 = .ret o S2 ∧ n env S2 = .ret i S') →
        PostS X.K X.mg ρ' H' W D (match oPut o i v S' with | some S4 => SO.nx env S4 | none => .fail) → kk v' o' i' H') → tc σ H (fun v H1 => ta σ H1 fun o H2 => tb σ H2 fun i H3 => kk v o i H3) := fun kk hk => by
      refine qc ρ env S σ H _ R er ?_
      unfold sPut at h
      cases e : k env S with
      | fail => simp only [e] at h; exact h.elim
      | exc x S => simp only [e] at h; exact fun ρ' C d H' g R' e' hc xr => h ρ' σ C d H' g R' e' (er.mono e' g) hc xr
      | ret v S1 =>
        simp only [e] at h
        intro ρ1 v' H1 g1 R1 e1 r1
        have h := PostS.mono g1 e1 h
        have er1 := er.mono e1 g1
        refine qa ρ1 env S1 σ H1 _ R1 er1 ?_
        cases ee : m env S1 with
        | fail => simp only [ee] at h; exact h.elim
        | exc x S => simp only [ee] at h; exact fun ρ' C d H' g R' e' hc xr => h ρ' σ C d H' g R' e' (er1.mono e' g) hc xr
        | ret o S2 =>
          simp only [ee] at h
          intro ρ2 o' H2 g2 R2 e2 r2
          have h := PostS.mono g2 e2 h
          have er2 := er1.mono e2 g2
          refine qb ρ2 env S2 σ H2 _ R2 er2 ?_
          cases eee : n env S2 with
          | fail => simp only [eee] at h; exact h.elim
          | exc x S => simp only [eee] at h; exact fun ρ' C d H' g R' e' hc xr => h ρ' σ C d H' g R' e' (er2.mono e' g) hc xr
          | ret i S3 =>
            simp only [eee] at h
            intro ρ3 i' H3 g3 R3 e3 r3
            exact hk ρ3 S3 H3 o i v o' i' v' R3 ((g1.trans g2).trans g3) ((e1.trans e2).trans e3) (er2.mono e3 g3) (r2.mono e3 g3) r3 ((r1.mono e2 g2).mono e3 g3) ⟨S1, S2, e, ee, eee⟩ (PostS.mono g3 e3 h)
    by_cases hl : ∃ v S1 o S2 i S3, k env S = .ret v S1 ∧ m env S1 = .ret o S2 ∧ n env S2 = .ret i S3 ∧ isLst S3 o = true
    · obtain ⟨v0, S1, o0, S2, i0, S3, q1, q2, q3, q4⟩ := hl
      refine .inl (gen (fun v o i H' => rSetL o i v H' fun H3 => D.nx σ H3) fun ρ' S' H' o i v o' i' v' R' g e er' ro ri rv ⟨T1, T2, z1, z2, z3⟩ hp => ?_)
      rw [q1] at z1; cases z1
      rw [q2] at z2; cases z2
      rw [q3] at z3; cases z3
      cases ro with
      | loc en =>
        simp only [isLst] at q4
        simp only [oPut] at hp
        split at hp
        · rename_i S4 q
          split at q
          · rename_i xs qq
            obtain ⟨vs, h1, h2⟩ := R'.lst en qq
            split at q
            · rename_i kk _
              cases ri
              cases ej : ixN xs.length kk with
              | none => rw [ej] at q; cases q
              | some j =>
                rw [ej] at q; cases q
                exact ⟨_, vs, kk, j, rfl, rfl, h1, by rw [h2.length]; exact ej, hp _ _ _ (.refl _) (R'.put en h1 soft_lst (.lst (h2.set rv j))) (.put h1 soft_lst) (er'.mono (.put h1 soft_lst) (.refl _))⟩
            · cases q
          · rename_i qq; rw [qq] at q4; cases q4
          · rename_i qq; rw [qq] at q4; cases q4
          · cases q
        · exact hp.elim
      | non => cases q4
      | bl b => cases q4
      | int b => cases q4
      | str b => cases q4
      | tup _ _ => cases q4
      | rol _ _ => cases q4
    · refine .inr (gen (fun v o i H' => ∃ a H4, o = .ref a ∧ DPut H' a i v H4 ∧ D.nx σ H4) fun ρ' S' H' o i v o' i' v' R' g e er' ro ri rv ⟨T1, T2, z1, z2, z3⟩ hp => ?_)
      cases ro with
      | loc en =>
        simp only [oPut] at hp
        split at hp
        · rename_i S4 q
          split at q
          · rename_i xs qq
            exact absurd ⟨v, T1, _, T2, i, S', z1, z2, z3, by simp only [isLst, qq]⟩ hl
          · rename_i kvs qq
            obtain ⟨vs, h1, h2⟩ := R'.dK en qq
            split at q
            · rename_i hlim
              cases ek : keyP i with
              | none => rw [ek] at q; cases q
              | some kk =>
                rw [ek] at q; cases q
                refine ⟨_, _, rfl, .inl ⟨vs, kk, h1, key_ok ri ek, by rw [kvr_len h2]; exact Nat.lt_of_lt_of_le hlim (by decide), rfl⟩, ?_⟩
                exact hp _ _ _ (.refl _) (R'.put en h1 soft_dK (.dK (put_ok rv h2))) (.put h1 soft_dK) (er'.mono (.put h1 soft_dK) (.refl _))
            · cases q
          · rename_i kvs qq
            obtain ⟨vs, h1, h2⟩ := R'.dT en qq
            split at q
            · rename_i hlim
              cases ri with
              | tup ht at_ =>
                simp only [keysP] at q
                cases ek : keysL _ with
                | none => rw [ek] at q; cases q
                | some kk =>
                  rw [ek] at q; cases q
                  have e1 := keysL_ok at_ ek
                  subst e1
                  refine ⟨_, _, rfl, .inr ⟨vs, kk, _, h1, rfl, ht, by rw [kvr_len h2]; exact Nat.lt_of_lt_of_le hlim (by decide), rfl⟩, ?_⟩
                  exact hp _ _ _ (.refl _) (R'.put en h1 soft_dT (.dT (put_ok rv h2))) (.put h1 soft_dT) (er'.mono (.put h1 soft_dT) (.refl _))
              | non => cases q
              | bl b => cases q
              | int b => cases q
              | str b => cases q
              | loc b => cases q
              | rol _ _ => cases q
            · cases q
          · cases q
        · exact hp.elim
      | non => exact hp.elim
      | bl b => exact hp.elim
      | int b => exact hp.elim
      | str b => exact hp.elim
      | tup _ _ => exact hp.elim
      | rol _ _ => exact hp.elim⟩
end
end MP

set_option maxRecDepth 100000
namespace MP
open PySem PySem.Spec PyProof.Rows L2

/-! ### what is walked -/
inductive Src where
  | lst (n : Nat) | fix (xs : List PV) | tup (xs : List PV) | rng (lo : Int) (n : Nat) | zipL (n m : Nat) | zipT (xs ys : List PV) | enm (n : Nat) | rngC (lo c : Int) (n : Nat) | chr (x : Str) | rev (n : Nat) (k : Nat) | ezL (n m : Nat) | zipM (xs : List PV) (m : Nat)
inductive Nx where
  | stop | yld (v : PV) | bad
def rdL (S : Ms) (n : Nat) : Option (List PV) := match S[n]? with | some (.lst xs) => some xs | _ => none
def nxt (S : Ms) (i : Nat) : Src → Nx
  | .lst n => match rdL S n with
    | some xs => (match xs[i]? with | some v => .yld v | none => .stop)
    | none => .bad
  | .tup xs => (match xs[i]? with | some v => .yld v | none => .stop)
  | .fix xs => (match xs[i]? with | some v => .yld v | none => .stop)
  | .rng lo n => if i < n then .yld (.int (lo + i)) else .stop
  | .rngC lo c n => if i < n then .yld (.int (lo + i * c)) else .stop
  | .zipL n m => match rdL S n, rdL S m with
    | some xs, some ys => (match xs[i]?, ys[i]? with | some v, some w => .yld (.tup [v, w]) | _, _ => .stop)
    | _, _ => .bad
  | .zipT xs ys => (match xs[i]?, ys[i]? with | some v, some w => .yld (.tup [v, w]) | _, _ => .stop)
  | .zipM xs m => match rdL S m with
    | some ys => (match xs[i]?, ys[i]? with | some v, some w => .yld (.tup [v, w]) | _, _ => .stop)
    | none => .bad
  | .enm n => match rdL S n with
    | some xs => (match xs[i]? with | some v => .yld (.tup [.int i, v]) | none => .stop)
    | none => .bad
  | .chr x => (match x.cps[i]? with | some c => .yld (.str ⟨#[c]⟩) | none => .stop)
  | .ezL n m => match rdL S n, rdL S m with
    | some xs, some ys => (match xs[i]?, ys[i]? with | some v, some w => .yld (.tup [.int i, .tup [v, w]]) | _, _ => .stop)
    | _, _ => .bad
  | .rev n k => match rdL S n with
    | some xs => if i < k then (match xs[k - 1 - i]? with | some v => .yld v | none => .bad) else .stop
    | none => .bad
section
variable {X : Cx} {W : WX} {a b c e o tg : Expr} {es rest : List Expr} {pos : Pos} {m n k : ME} {ml : ML} {t u : MB} {st : Stmt} {sts : List Stmt} {p q : MS}
/-- an iterator of the layer serves a source -/
def JR (X : Cx) (ρ0 : List Addr) (H0 : Hp) (src : Src) (J : It) : Prop := ∀ ρ S H i, Grow ρ0 ρ → Ext H0 H → HR X.K X.mg ρ S H →
  (nxt S i src = .stop → J.stop i H) ∧ ∀ v, nxt S i src = .yld v → J.go i H ∧ ∀ x H', J.yld i H x H' → HR X.K X.mg ρ S H' ∧ Ext H H' ∧ VR X.K H' ρ v x
abbrev MI := Env' → Ms → Out Src
def PostI (X : Cx) (ρ : List Addr) (H : Hp) (σ : L2.St) (W : WX) (R : It → Hp → Prop) : Out Src → Prop
  | .ret src S' => ∀ ρ' H' J, Grow ρ ρ' → HR X.K X.mg ρ' S' H' → Ext H H' → JR X ρ' H' src J → R J H'
  | .exc x S' => ∀ ρ' C d H', Grow ρ ρ' → HR X.K X.mg ρ' S' H' → Ext H H' → X.mg x.cls = some (.ref C) → XR X.K H' ρ' x.fs d → W (.ref C) d σ H'
  | .fail => False
def SI (X : Cx) (W : WX) (tg it : Expr) (m : MI) : Prop := ∃ t, PI X tg it t ∧ ∀ ρ env S σ H R, HR X.K X.mg ρ S H → ER X.K H ρ env σ → PostI X ρ H σ W R (m env S) → t σ H R
theorem rdL_ok {ρ : List Addr} {S : Ms} {H : Hp} {nn : Nat} {aa : Addr} {xs : List PV} (R : HR X.K X.mg ρ S H) (e : ρ[nn]? = some aa) (h : rdL S nn = some xs) : ∃ vs, SqL X.K H aa vs ∧ VRs X.K H ρ xs vs := by
  unfold rdL at h
  split at h
  · rename_i qq; cases h; obtain ⟨vs, h1, h2⟩ := R.lst e qq; exact ⟨vs, .of h1, h2⟩
  · cases h
theorem vrs_none {K : PySem.W.Frag} {H : Hp} {ρ : List Addr} {xs : List PV} {vs : List V} {i : Nat} (h : VRs K H ρ xs vs) (e : xs[i]? = none) : vs.length ≤ i := by
  rw [h.length]; exact List.getElem?_eq_none_iff.mp e
theorem jr_lst {ρ0 : List Addr} {H0 : Hp} {nn : Nat} {aa : Addr} (e : ρ0[nn]? = some aa) : JR X ρ0 H0 (.lst nn) (Itl X.K aa) := by
  intro ρ S H i g ex R
  simp only [nxt]
  cases q : rdL S nn with
  | none => exact ⟨(fun z => by cases z), (fun v z => by cases z)⟩
  | some xs =>
    obtain ⟨vs, h1, h2⟩ := rdL_ok R (g _ _ e) q
    simp only []
    cases q2 : xs[i]? with
    | none => exact ⟨fun _ => ⟨vs, h1, vrs_none h2 q2⟩, (fun v z => by cases z)⟩
    | some v =>
      obtain ⟨v', e1, r1⟩ := h2.get q2
      refine ⟨(fun z => by cases z), fun w z => ?_⟩
      cases z
      refine ⟨⟨vs, v', h1, e1⟩, fun x H' y => ?_⟩
      obtain ⟨rfl, y⟩ := y
      have := y vs h1
      rw [e1] at this; cases this
      exact ⟨R, .refl _, r1⟩
theorem jr_tup {ρ0 : List Addr} {H0 : Hp} {xs : List PV} {vs : List V} {aa : Addr} (e : H0 aa = some (.tup vs)) (r : VRs X.K H0 ρ0 xs vs) : JR X ρ0 H0 (.tup xs) (Itt X.K aa) := by
  intro ρ S H i g ex R
  have h1 : SqT X.K H aa vs := .of ((ex aa).1 _ e)
  have h2 := r.mono ex g
  simp only [nxt]
  cases q2 : xs[i]? with
  | none => exact ⟨fun _ => ⟨vs, h1, vrs_none h2 q2⟩, (fun v z => by cases z)⟩
  | some v =>
    obtain ⟨v', e1, r1⟩ := h2.get q2
    refine ⟨(fun z => by cases z), fun w z => ?_⟩
    cases z
    refine ⟨⟨vs, v', h1, e1⟩, fun x H' y => ?_⟩
    obtain ⟨rfl, y⟩ := y
    have := y vs h1
    rw [e1] at this; cases this
    exact ⟨R, .refl _, r1⟩
theorem jr_fix {ρ0 : List Addr} {H0 : Hp} {xs : List PV} {vs : List V} {aa : Addr} (e : RoL X.K H0 aa vs) (r : VRs X.K H0 ρ0 xs vs) : JR X ρ0 H0 (.fix xs) (Itl X.K aa) := by
  intro ρ S H i g ex R
  have h1 : SqL X.K H aa vs := (ex.roL e).sq
  have h2 := r.mono ex g
  simp only [nxt]
  cases q2 : xs[i]? with
  | none => exact ⟨fun _ => ⟨vs, h1, vrs_none h2 q2⟩, (fun v z => by cases z)⟩
  | some v =>
    obtain ⟨v', e1, r1⟩ := h2.get q2
    refine ⟨(fun z => by cases z), fun w z => ?_⟩
    cases z
    refine ⟨⟨vs, v', h1, e1⟩, fun x H' y => ?_⟩
    obtain ⟨rfl, y⟩ := y
    have := y vs h1
    rw [e1] at this; cases this
    exact ⟨R, .refl _, r1⟩
theorem jr_rng {ρ0 : List Addr} {H0 : Hp} {lo : Int} {nn : Nat} : JR X ρ0 H0 (.rng lo nn) (Itr lo nn) := by
  intro ρ S H i g ex R
  simp only [nxt]
  by_cases h : i < nn
  · rw [if_pos h]
    refine ⟨(fun z => by cases z), fun w z => ?_⟩
    cases z
    refine ⟨h, fun x H' y => ?_⟩
    obtain ⟨rfl, rfl⟩ := y
    exact ⟨R, .refl _, .int _⟩
  · rw [if_neg h]
    exact ⟨fun _ => Nat.le_of_not_lt h, (fun v z => by cases z)⟩
theorem jr_chr {ρ0 : List Addr} {H0 : Hp} {x : Str} : JR X ρ0 H0 (.chr x) (Its x) := by
  intro ρ S H i g ex R
  simp only [nxt]
  cases q : x.cps[i]? with
  | none => exact ⟨fun _ => by
      show x.cps.size ≤ i
      exact Array.getElem?_eq_none_iff.mp q, (fun v z => by cases z)⟩
  | some c =>
    refine ⟨(fun z => by cases z), fun w z => ?_⟩
    cases z
    refine ⟨(Array.getElem?_eq_some_iff.mp q).1, fun y H' z => ?_⟩
    obtain ⟨rfl, c', e, rfl⟩ := z
    rw [q] at e; cases e
    exact ⟨R, .refl _, .str _⟩
theorem pair_ok {ρ : List Addr} {S : Ms} {H : Hp} {T : Addr} {v w : PV} {v' w' : V} (R : HR X.K X.mg ρ S H) (hT : H T = none) (r1 : VR X.K H ρ v v') (r2 : VR X.K H ρ w w') :
    HR X.K X.mg ρ S (upd H T (.tup [v', w'])) ∧ Ext H (upd H T (.tup [v', w'])) ∧ VR X.K (upd H T (.tup [v', w'])) ρ (.tup [v, w]) (.ref T) :=
  ⟨R.newTup hT, .new hT, .tup upd_same (.cons (r1.mono (.new hT) (.refl _)) (.cons (r2.mono (.new hT) (.refl _)) .nil))⟩
theorem jr_zipL {ρ0 : List Addr} {H0 : Hp} {nn mm : Nat} {aa bb : Addr} (e : ρ0[nn]? = some aa) (e' : ρ0[mm]? = some bb) : JR X ρ0 H0 (.zipL nn mm) (Itz X.K aa bb) := by
  intro ρ S H i g ex R
  simp only [nxt]
  cases q : rdL S nn with
  | none => exact ⟨(fun z => by cases z), (fun v z => by cases z)⟩
  | some xs =>
    cases q' : rdL S mm with
    | none => exact ⟨(fun z => by cases z), (fun v z => by cases z)⟩
    | some ys =>
      obtain ⟨vs, h1, h2⟩ := rdL_ok R (g _ _ e) q
      obtain ⟨ws, h3, h4⟩ := rdL_ok R (g _ _ e') q'
      simp only []
      cases q2 : xs[i]? with
      | none => exact ⟨fun _ => ⟨vs, ws, h1, h3, .inl (vrs_none h2 q2)⟩, (fun v z => by cases z)⟩
      | some v =>
        cases q3 : ys[i]? with
        | none => exact ⟨fun _ => ⟨vs, ws, h1, h3, .inr (vrs_none h4 q3)⟩, (fun v z => by cases z)⟩
        | some w =>
          obtain ⟨v', e1, r1⟩ := h2.get q2
          obtain ⟨w', e2, r2⟩ := h4.get q3
          refine ⟨(fun z => by cases z), fun u z => ?_⟩
          cases z
          refine ⟨⟨vs, ws, v', w', h1, h3, e1, e2⟩, fun x H' y => ?_⟩
          obtain ⟨T, x, y, rfl, hT, rfl, y1, y2⟩ := y
          have z1 := y1 vs h1
          rw [e1] at z1; cases z1
          have z2 := y2 ws h3
          rw [e2] at z2; cases z2
          exact pair_ok R hT r1 r2
theorem jr_zipT {ρ0 : List Addr} {H0 : Hp} {xs ys : List PV} {vs ws : List V} {aa bb : Addr} (e : H0 aa = some (.tup vs)) (r : VRs X.K H0 ρ0 xs vs) (e' : H0 bb = some (.tup ws)) (r' : VRs X.K H0 ρ0 ys ws) : JR X ρ0 H0 (.zipT xs ys) (RZ.ItzT X.K aa bb) := by
  intro ρ S H i g ex R
  have h1 : SqT X.K H aa vs := .of ((ex aa).1 _ e)
  have h2 := r.mono ex g
  have h3 : SqT X.K H bb ws := .of ((ex bb).1 _ e')
  have h4 := r'.mono ex g
  simp only [nxt]
  cases q2 : xs[i]? with
  | none => exact ⟨fun _ => ⟨vs, ws, h1, h3, .inl (vrs_none h2 q2)⟩, (fun v z => by cases z)⟩
  | some v =>
    cases q3 : ys[i]? with
    | none => exact ⟨fun _ => ⟨vs, ws, h1, h3, .inr (vrs_none h4 q3)⟩, (fun v z => by cases z)⟩
    | some w =>
      obtain ⟨v', e1, r1⟩ := h2.get q2
      obtain ⟨w', e2, r2⟩ := h4.get q3
      refine ⟨(fun z => by cases z), fun u z => ?_⟩
      cases z
      refine ⟨⟨vs, ws, v', w', h1, h3, e1, e2⟩, fun x H' y => ?_⟩
      obtain ⟨T, x, y, rfl, hT, rfl, y1, y2⟩ := y
      have z1 := y1 vs h1
      rw [e1] at z1; cases z1
      have z2 := y2 ws h3
      rw [e2] at z2; cases z2
      exact pair_ok R hT r1 r2
theorem jr_enm {ρ0 : List Addr} {H0 : Hp} {nn : Nat} {aa : Addr} (e : ρ0[nn]? = some aa) : JR X ρ0 H0 (.enm nn) (Ite X.K aa) := by
  intro ρ S H i g ex R
  simp only [nxt]
  cases q : rdL S nn with
  | none => exact ⟨(fun z => by cases z), (fun v z => by cases z)⟩
  | some xs =>
    obtain ⟨vs, h1, h2⟩ := rdL_ok R (g _ _ e) q
    simp only []
    cases q2 : xs[i]? with
    | none => exact ⟨fun _ => ⟨vs, h1, vrs_none h2 q2⟩, (fun v z => by cases z)⟩
    | some v =>
      obtain ⟨v', e1, r1⟩ := h2.get q2
      refine ⟨(fun z => by cases z), fun w z => ?_⟩
      cases z
      refine ⟨⟨vs, v', h1, e1⟩, fun x H' y => ?_⟩
      obtain ⟨T, x, rfl, hT, rfl, y⟩ := y
      have := y vs h1
      rw [e1] at this; cases this
      exact pair_ok R hT (.int _) r1
/-! ### the sources of a for -/
def srcOf (S : Ms) : PV → Option Src
  | .tup xs => some (.tup xs)
  | .rol xs => some (.fix xs)
  | .str x => some (.chr x)
  | .loc n => (rdL S n).map fun _ => .lst n
  | _ => none
def iOf (m : ME) : MI := fun env S => match m env S with | .ret v S1 => (match srcOf S1 v with | some s => .ret s S1 | none => .fail) | .exc x S1 => .exc x S1 | .fail => .fail
theorem pi_or {t1 t2 : TI} (h : PI X tg e t1) (h' : PI X tg e t2) : PI X tg e (fun σ H R => t1 σ H R ∨ t2 σ H R) := ⟨fun pins s σ H R I z => z.elim (h.run pins s σ H R I) (h'.run pins s σ H R I)⟩
theorem si_of (h : SE X W e m) : SI X W tg e (iOf m) :=
  let ⟨ta, pa, qa⟩ := h
  ⟨_, pi_or (pi_list pa) (pi_or (pi_tup pa) (pi_str pa)), fun ρ env S σ H R R0 er h => by
    unfold iOf at h
    cases e : m env S with
    | fail => simp only [e] at h; exact h.elim
    | exc x S1 => simp only [e] at h; exact .inl (qa ρ env S σ H _ R0 er (by rw [e]; exact h))
    | ret v S1 =>
      simp only [e] at h
      cases v with
      | tup xs =>
        simp only [srcOf] at h
        refine .inr (.inl (qa ρ env S σ H _ R0 er ?_))
        rw [e]
        intro ρ1 x' H1 g1 R1 e1 r1
        cases r1 with
        | tup hx ax => exact ⟨_, rfl, ⟨_, .of hx⟩, h ρ1 H1 _ g1 R1 e1 (jr_tup hx ax)⟩
      | str x =>
        simp only [srcOf] at h
        refine .inr (.inr (qa ρ env S σ H _ R0 er ?_))
        rw [e]
        intro ρ1 x' H1 g1 R1 e1 r1
        cases r1
        exact ⟨_, rfl, h ρ1 H1 _ g1 R1 e1 jr_chr⟩
      | loc n =>
        simp only [srcOf] at h
        cases q : rdL S1 n with
        | none => rw [q] at h; exact h.elim
        | some xs =>
          rw [q] at h
          refine .inl (qa ρ env S σ H _ R0 er ?_)
          rw [e]
          intro ρ1 x' H1 g1 R1 e1 r1
          cases r1 with
          | loc en =>
            obtain ⟨vs, h1, h2⟩ := rdL_ok R1 en q
            exact ⟨_, rfl, ⟨_, h1⟩, h ρ1 H1 _ g1 R1 e1 (jr_lst en)⟩
      | rol xs =>
        simp only [srcOf] at h
        refine .inl (qa ρ env S σ H _ R0 er ?_)
        rw [e]
        intro ρ1 x' H1 g1 R1 e1 r1
        cases r1 with
        | rol hx ax => exact ⟨_, rfl, ⟨_, hx.sq⟩, h ρ1 H1 _ g1 R1 e1 (jr_fix hx ax)⟩
      | non => exact h.elim
      | bl b => exact h.elim
      | int i => exact h.elim⟩
def big62 (i : Int) : Bool := decide (-(2 ^ 62) ≤ i ∧ i < 2 ^ 62)
def rng1 : List PV → Option Src
  | [.int j] => if big62 j then some (.rng 0 j.toNat) else none
  | _ => none
def iRg (f : List PV → Option Src) (l : ML) : MI := fun env S => match l env S with | .ret vs S1 => (match f vs with | some s => .ret s S1 | none => .fail) | .exc x S1 => .exc x S1 | .fail => .fail
theorem iRg_ok {f : List PV → Option Src} {ta : TA} {kk : List V → Hp → Prop} {R : It → Hp → Prop}
    (qa : ∀ ρ env S σ H Q, HR X.K X.mg ρ S H → ER X.K H ρ env σ → PostL X.K X.mg ρ H σ W Q (ml env S) → ta σ H Q)
    (ρ env S σ H) (R0 : HR X.K X.mg ρ S H) (er : ER X.K H ρ env σ) (h : PostI X ρ H σ W R (iRg f ml env S))
    (hk : ∀ vs vs' s ρ' S' H', Grow ρ ρ' → HR X.K X.mg ρ' S' H' → Ext H H' → VRs X.K H' ρ' vs vs' → f vs = some s → (∀ J, JR X ρ' H' s J → R J H') → kk vs' H') : ta σ H kk := by
  unfold iRg at h
  refine qa ρ env S σ H _ R0 er ?_
  cases e : ml env S with
  | fail => simp only [e] at h; exact h.elim
  | exc x S1 => simp only [e] at h; exact h
  | ret v S1 =>
    simp only [e] at h
    cases q : f v with
    | none => simp only [q] at h; exact h.elim
    | some s => simp only [q] at h; exact fun ρ1 v' H1 g1 R1 e1 r1 => hk v v' s ρ1 S1 H1 g1 R1 e1 r1 q fun J j => h ρ1 H1 J g1 R1 e1 j
theorem big_ok {i : Int} (h : big62 i = true) : -(2 ^ 62) ≤ i ∧ i < 2 ^ 62 := of_decide_eq_true h
theorem si_range1 {p : Pos} (hm : X.mg "range" = none) (ha : SA X W [a] ml) (hg : Gl X "range" := by rfl) (hs : starEach [a] X.env = [(false, eval a X.env)] := by rfl) : SI X W tg (.Call (.Name "range" p) [a] [] pos) (iRg rng1 ml) :=
  let ⟨ta, pa, qa⟩ := ha
  ⟨_, pi_range1 hg hm pa hs, fun ρ env S σ H R R0 er h => by
    refine iRg_ok qa ρ env S σ H R0 er h fun vs vs' s ρ' S' H' g R' e' r q hJ => ?_
    unfold rng1 at q
    split at q
    · split at q
      · rename_i hb
        cases q
        obtain ⟨w, rfl, rw⟩ := vrs1 r
        cases rw
        exact ⟨_, rfl, (big_ok hb).1, (big_ok hb).2, hJ _ jr_rng⟩
      · cases q
    · cases q⟩
theorem vrs3 {K : PySem.W.Frag} {H : Hp} {ρ : List Addr} {x y z : PV} {vs : List V} (h : VRs K H ρ [x, y, z] vs) : ∃ u v w, vs = [u, v, w] ∧ VR K H ρ x u ∧ VR K H ρ y v ∧ VR K H ρ z w := by
  cases h with | cons h t => obtain ⟨v, w, rfl, a, b⟩ := vrs2 t; exact ⟨_, _, _, rfl, h, a, b⟩
/-- zip, enumerate, reversed -/
def zipOf (S : Ms) : List PV → Option Src
  | [.tup xs, .tup ys] => some (.zipT xs ys)
  | [.loc n, .loc m] => match rdL S n, rdL S m with | some _, some _ => some (.zipL n m) | _, _ => none
  | _ => none
def enmOf (S : Ms) : List PV → Option Src
  | [.loc n] => (rdL S n).map fun _ => .enm n
  | _ => none
def iSt (f : Ms → List PV → Option Src) (l : ML) : MI := fun env S => match l env S with | .ret vs S1 => (match f S1 vs with | some s => .ret s S1 | none => .fail) | .exc x S1 => .exc x S1 | .fail => .fail
theorem iSt_ok {f : Ms → List PV → Option Src} {ta : TA} {kk : List V → Hp → Prop} {R : It → Hp → Prop}
    (qa : ∀ ρ env S σ H Q, HR X.K X.mg ρ S H → ER X.K H ρ env σ → PostL X.K X.mg ρ H σ W Q (ml env S) → ta σ H Q)
    (ρ env S σ H) (R0 : HR X.K X.mg ρ S H) (er : ER X.K H ρ env σ) (h : PostI X ρ H σ W R (iSt f ml env S))
    (hk : ∀ vs vs' s ρ' S' H', Grow ρ ρ' → HR X.K X.mg ρ' S' H' → Ext H H' → VRs X.K H' ρ' vs vs' → f S' vs = some s → (∀ J, JR X ρ' H' s J → R J H') → kk vs' H') : ta σ H kk := by
  unfold iSt at h
  refine qa ρ env S σ H _ R0 er ?_
  cases e : ml env S with
  | fail => simp only [e] at h; exact h.elim
  | exc x S1 => simp only [e] at h; exact h
  | ret v S1 =>
    simp only [e] at h
    cases q : f S1 v with
    | none => simp only [q] at h; exact h.elim
    | some s => simp only [q] at h; exact fun ρ1 v' H1 g1 R1 e1 r1 => hk v v' s ρ1 S1 H1 g1 R1 e1 r1 q fun J j => h ρ1 H1 J g1 R1 e1 j
theorem si_zip {p tpos : Pos} {elts : List Expr} {kk : Nat} (hm : X.mg "zip" = none) (ha : SA X W [a, b] ml) (hg : Gl X "zip" := by rfl)
    (hs : starEach [a, b] X.env = (false, eval a X.env) :: starEach [b] X.env := by rfl) (hpl : (backTo pos (starEach [b] X.env)).any (·.1) = false := by rfl) : SI X W (.Tuple elts kk tpos) (.Call (.Name "zip" p) [a, b] [] pos) (iSt zipOf ml) :=
  let ⟨ta, pa, qa⟩ := ha
  ⟨_, RZ.pi_zipA hg hm pa hs hpl, fun ρ env S σ H R R0 er h => by
    refine iSt_ok qa ρ env S σ H R0 er h fun vs vs' s ρ' S' H' g R' e' r q hJ => ?_
    unfold zipOf at q
    split at q
    · cases q
      obtain ⟨w, z, rfl, rw, rz⟩ := vrs2 r
      cases rw with
      | tup hx ax => cases rz with
        | tup hy ay => exact ⟨_, _, _, _, rfl, .inr ⟨.of hx, .of hy, hJ _ (jr_zipT hx ax hy ay)⟩⟩
    · split at q
      · rename_i q1 q2
        cases q
        obtain ⟨w, z, rfl, rw, rz⟩ := vrs2 r
        cases rw with
        | loc e1 => cases rz with
          | loc e2 =>
            obtain ⟨vs, h1, _⟩ := rdL_ok R' e1 q1
            obtain ⟨ws, h2, _⟩ := rdL_ok R' e2 q2
            exact ⟨_, _, _, _, rfl, .inl ⟨h1, h2, hJ _ (jr_zipL e1 e2)⟩⟩
      · cases q
    · cases q⟩
theorem si_enum {p tpos : Pos} {elts : List Expr} {kk : Nat} (hm : X.mg "enumerate" = none) (ha : SA X W [a] ml) (hg : Gl X "enumerate" := by rfl)
    (hs : starEach [a] X.env = [(false, eval a X.env)] := by rfl) : SI X W (.Tuple elts kk tpos) (.Call (.Name "enumerate" p) [a] [] pos) (iSt enmOf ml) :=
  let ⟨ta, pa, qa⟩ := ha
  ⟨_, pi_enum hg hm pa hs, fun ρ env S σ H R R0 er h => by
    refine iSt_ok qa ρ env S σ H R0 er h fun vs vs' s ρ' S' H' g R' e' r q hJ => ?_
    unfold enmOf at q
    split at q
    · rename_i nn
      cases q1 : rdL S' nn with
      | none => rw [q1] at q; cases q
      | some xs =>
        rw [q1] at q; cases q
        obtain ⟨w, rfl, rw⟩ := vrs1 r
        cases rw with
        | loc e1 =>
          obtain ⟨vs, h1, _⟩ := rdL_ok R' e1 q1
          exact ⟨_, _, rfl, h1, hJ _ (jr_enm e1)⟩
    · cases q⟩
/-! ### for -/
def fuel : Nat := 1099511627776
def loopM (src : Src) (g : MG) (body : MS) : Nat → Nat → Env' → Ms → SO
  | 0, _, _, _ => .fail
  | f + 1, i, env, S => match nxt S i src with
    | .stop => .nx env S
    | .bad => .fail
    | .yld v => (match g v env with
      | none => .fail
      | some env1 => (match body env1 S with
        | .nx env2 S2 => loopM src g body f (i + 1) env2 S2
        | .ct env2 S2 => loopM src g body f (i + 1) env2 S2
        | .bk env2 S2 => .nx env2 S2
        | .rt v S2 => .rt v S2
        | .exc env2 x S2 => .exc env2 x S2
        | .fail => .fail))
def sFor (mi : MI) (g : MG) (body : MS) : MS := fun env S => match mi env S with | .ret src S1 => loopM src g body fuel 0 env S1 | .exc x S1 => .exc env x S1 | .fail => .fail
theorem ss_for {iter : Expr} {body : List Stmt} {mi : MI} {g : MG} {sl : List Nat} (hp : PassesOwn (model X.prog X.w) X.A X.env X.xe) (hc : X.calm = true) (hi : SI X W tg iter mi) (hg : SG X tg g sl) (hb : SSs X W body p)
    (hs : ∀ x, foldedSetIterable iter X.env x = pure x := by intro _; rfl) : SS X W (.For tg iter body [] pos) (sFor mi g p) :=
  let ⟨ti, pi, qi⟩ := hi; let ⟨tg', pg, qg⟩ := hg; let ⟨tb, pb, qb⟩ := hb
  ⟨_, ps_for hp hc pi pg pb hs, fun ρ env S σ H D R er h => by
    refine qi ρ env S σ H _ R er ?_
    unfold sFor at h
    cases e : mi env S with
    | fail => simp only [e] at h; exact h.elim
    | exc x S1 => simp only [e] at h; exact fun ρ' C d H' g R' e' hc xr => h ρ' σ C d H' g R' e' (er.mono e' g) hc xr
    | ret src S1 =>
      simp only [e] at h
      intro ρ1 H1 J g1 R1 e1 hJ
      have h := PostS.mono g1 e1 h
      refine ⟨fun i f σ H => ∃ ρ2 env2 S2, Grow ρ1 ρ2 ∧ Ext H1 H ∧ HR X.K X.mg ρ2 S2 H ∧ ER X.K H ρ2 env2 σ ∧ PostS X.K X.mg ρ1 H1 W D (loopM src g p f i env2 S2), ⟨fuel, ρ1, env, S1, .refl _, .refl _, R1, er.mono e1 g1, h⟩, ?_⟩
      rintro i f σ2 H2 ⟨ρ2, env2, S2, g2, e2, R2, er2, h2⟩
      obtain ⟨j1, j2⟩ := hJ ρ2 S2 H2 i g2 e2 R2
      cases f with
      | zero => exact h2.elim
      | succ f =>
        unfold loopM at h2
        cases q : nxt S2 i src with
        | bad => simp only [q] at h2; exact h2.elim
        | stop => simp only [q] at h2; exact .inl ⟨j1 q, h2 ρ2 σ2 H2 g2 R2 e2 er2⟩
        | yld v =>
          simp only [q] at h2
          obtain ⟨jg, jy⟩ := j2 v q
          refine .inr ⟨jg, fun σ' H' => ∃ ρ2 env2 S2, Grow ρ1 ρ2 ∧ Ext H1 H' ∧ HR X.K X.mg ρ2 S2 H' ∧ ER X.K H' ρ2 env2 σ' ∧ PostS X.K X.mg ρ1 H1 W D (loopM src g p f (i + 1) env2 S2), fun σ' H' hN => ⟨f, Nat.lt_succ_self _, hN⟩, fun x H3 hy => ?_⟩
          obtain ⟨R3, e3, r3⟩ := jy x H3 hy
          cases q3 : g v env2 with
          | none => simp only [q3] at h2; exact h2.elim
          | some env3 =>
            simp only [q3] at h2
            refine qg ρ2 env2 S2 σ2 H3 v x env3 _ R3 (er2.mono e3 (.refl _)) r3 q3 fun σ3 er3 _ => ?_
            refine qb ρ2 env3 S2 σ3 H3 _ R3 er3 ?_
            cases q4 : p env3 S2 with
            | nx env4 S4 => simp only [q4] at h2; exact fun ρ4 σ4 H4 g4 R4 e4 er4 => ⟨ρ4, env4, S4, g2.trans g4, (e2.trans e3).trans e4, R4, er4, h2⟩
            | ct env4 S4 => simp only [q4] at h2; exact fun ρ4 σ4 H4 g4 R4 e4 er4 => ⟨ρ4, env4, S4, g2.trans g4, (e2.trans e3).trans e4, R4, er4, h2⟩
            | bk env4 S4 => simp only [q4] at h2; exact fun ρ4 σ4 H4 g4 R4 e4 er4 => h2 ρ4 σ4 H4 (g2.trans g4) R4 ((e2.trans e3).trans e4) er4
            | rt v S4 => simp only [q4] at h2; exact fun ρ4 v4 H4 g4 R4 e4 er4 => h2 ρ4 v4 H4 (g2.trans g4) R4 ((e2.trans e3).trans e4) er4
            | exc env4 x S4 => simp only [q4] at h2; exact fun ρ4 σ4 C d H4 g4 R4 e4 er4 => h2 ρ4 σ4 C d H4 (g2.trans g4) R4 ((e2.trans e3).trans e4) er4
            | fail => simp only [q4] at h2; exact h2.elim⟩
/-! ### while -/
def whileM (c : MB) (body : MS) : Nat → Env' → Ms → SO
  | 0, _, _ => .fail
  | f + 1, env, S => match c env S with
    | .ret true S1 => (match body env S1 with
      | .nx env2 S2 => whileM c body f env2 S2
      | .ct env2 S2 => whileM c body f env2 S2
      | .bk env2 S2 => .nx env2 S2
      | .rt v S2 => .rt v S2
      | .exc env2 x S2 => .exc env2 x S2
      | .fail => .fail)
    | .ret false S1 => .nx env S1
    | .exc x S1 => .exc env x S1
    | .fail => .fail
def sWhile (c : MB) (body : MS) : MS := whileM c body fuel
theorem ss_while {body : List Stmt} (hp : PassesOwn (model X.prog X.w) X.A X.env X.xe) (hc : SB X W c t) (hb : SSs X W body p) : SS X W (.While c body [] pos) (sWhile t p) :=
  let ⟨tc, pc, qc⟩ := hc; let ⟨tb, pb, qb⟩ := hb
  ⟨_, ps_while hp pc pb, fun ρ1 env S1 σ H1 D R1 er h => by
    refine ⟨fun f σ H => ∃ ρ2 env2 S2, Grow ρ1 ρ2 ∧ Ext H1 H ∧ HR X.K X.mg ρ2 S2 H ∧ ER X.K H ρ2 env2 σ ∧ PostS X.K X.mg ρ1 H1 W D (whileM t p f env2 S2), ⟨fuel, ρ1, env, S1, .refl _, .refl _, R1, er, h⟩, ?_⟩
    rintro f σ2 H2 ⟨ρ2, env2, S2, g2, e2, R2, er2, h2⟩
    cases f with
    | zero => exact h2.elim
    | succ f =>
      unfold whileM at h2
      refine qc ρ2 env2 S2 σ2 H2 _ R2 er2 ?_
      cases q : t env2 S2 with
      | fail => simp only [q] at h2; exact h2.elim
      | exc x S3 => simp only [q] at h2; exact fun ρ3 C d H3 g3 R3 e3 hc xr => h2 ρ3 σ2 C d H3 (g2.trans g3) R3 (e2.trans e3) (er2.mono e3 g3) hc xr
      | ret b S3 =>
        intro ρ3 H3 g3 R3 e3
        have er3 := er2.mono e3 g3
        cases b with
        | false => simp only [q] at h2; rw [if_neg Bool.false_ne_true]; exact h2 ρ3 σ2 H3 (g2.trans g3) R3 (e2.trans e3) er3
        | true =>
          simp only [q] at h2
          rw [if_pos rfl]
          refine ⟨fun σ' H' => ∃ ρ2 env2 S2, Grow ρ1 ρ2 ∧ Ext H1 H' ∧ HR X.K X.mg ρ2 S2 H' ∧ ER X.K H' ρ2 env2 σ' ∧ PostS X.K X.mg ρ1 H1 W D (whileM t p f env2 S2), fun σ' H' hN => ⟨f, Nat.lt_succ_self _, hN⟩, ?_⟩
          refine qb ρ3 env2 S3 σ2 H3 _ R3 er3 ?_
          have g' := g2.trans g3
          have e' := e2.trans e3
          cases q4 : p env2 S3 with
          | nx env4 S4 => simp only [q4] at h2; exact fun ρ4 σ4 H4 g4 R4 e4 er4 => ⟨ρ4, env4, S4, g'.trans g4, e'.trans e4, R4, er4, h2⟩
          | ct env4 S4 => simp only [q4] at h2; exact fun ρ4 σ4 H4 g4 R4 e4 er4 => ⟨ρ4, env4, S4, g'.trans g4, e'.trans e4, R4, er4, h2⟩
          | bk env4 S4 => simp only [q4] at h2; exact fun ρ4 σ4 H4 g4 R4 e4 er4 => h2 ρ4 σ4 H4 (g'.trans g4) R4 (e'.trans e4) er4
          | rt v S4 => simp only [q4] at h2; exact fun ρ4 v4 H4 g4 R4 e4 er4 => h2 ρ4 v4 H4 (g'.trans g4) R4 (e'.trans e4) er4
          | exc env4 x S4 => simp only [q4] at h2; exact fun ρ4 σ4 C d H4 g4 R4 e4 er4 => h2 ρ4 σ4 C d H4 (g'.trans g4) R4 (e'.trans e4) er4
          | fail => simp only [q4] at h2; exact h2.elim⟩
end
end MP

set_option maxRecDepth 100000
namespace MP
open PySem PySem.Spec PyProof.Rows L2
section
variable {X : Cx} {W : WX} {a b c e o tg : Expr} {es rest : List Expr} {pos : Pos} {m n k : ME} {ml : ML} {t u : MB} {st : Stmt} {sts : List Stmt} {p q : MS}

/-! ### one reading for every context: what the mirror says -/
def tE (K : PySem.W.Frag) (mg : Str → Option Value) (W : WX) (m : ME) : TE := fun σ H Q => ∃ ρ env S, HR K mg ρ S H ∧ ER K H ρ env σ ∧ Post K mg ρ H σ W Q (m env S)
def tBo (K : PySem.W.Frag) (mg : Str → Option Value) (W : WX) (m : MB) : TT := fun σ H Q => ∃ ρ env S, HR K mg ρ S H ∧ ER K H ρ env σ ∧ PostB K mg ρ H σ W Q (m env S)
def tGt (K : PySem.W.Frag) (mg : Str → Option Value) (g : MG) (sl : List Nat) : TG := fun v' σ H Q => ∃ ρ env S v env', HR K mg ρ S H ∧ ER K H ρ env σ ∧ VR K H ρ v v' ∧ g v env = some env' ∧
  ∀ σ', ER K H ρ env' σ' → (∀ vs, (∀ i ∈ sl, i ∈ vs) → wipe σ' vs = wipe σ vs) → Q σ' H
theorem SE.pe (h : SE X W e m) : PE X e (tE X.K X.mg W m) := let ⟨_, p, q⟩ := h; ⟨fun pins s σ H Q I ⟨ρ, env, S, R, er, z⟩ => p.run pins s σ H Q I (q ρ env S σ H Q R er z)⟩
def SIf (X : Cx) (W : WX) (ifs : List Expr) (t : MB) : Prop := PTs X ifs (tBo X.K X.mg W t)
def bYes : MB := fun _ S => .ret true S
theorem sif_nil : SIf X W [] bYes := ⟨fun pins s σ H Q I ⟨ρ, env, S, R, er, z⟩ => pts_nil.run pins s σ H Q I (z ρ H (.refl _) R (.refl _))⟩
theorem SG.pg {g : MG} {sl : List Nat} (h : SG X tg g sl) : PG X tg (tGt X.K X.mg g sl) := let ⟨_, p, q⟩ := h; ⟨fun pins s σ H v u Q I r ⟨ρ, env, S, v0, env', R, er, rv, e, z⟩ => p.run pins s σ H v u Q I r (q ρ env S σ H v0 v env' Q R er rv e z)⟩

/-! ### list comprehensions -/
abbrev W0 : WX := fun _ _ _ _ => False
def wipeE (env : Env') : List Nat → Env'
  | [] => env
  | v :: vs => (wipeE env vs).set v none
theorem ER.wipe {K : PySem.W.Frag} {H : Hp} {ρ : List Addr} {env : Env'} {σ : L2.St} (h : ER K H ρ env σ) : ∀ vs, ER K H ρ (wipeE env vs) (wipe σ vs)
  | [] => h
  | v :: vs => (ER.wipe h vs).setN v none
theorem wipe_wipe {σ : L2.St} {vs : List Nat} : ∀ us : List Nat, (∀ i ∈ us, i ∈ vs) → wipe (wipe σ us) vs = wipe σ vs
  | [], _ => rfl
  | u :: us, h => by
    show wipe ((wipe σ us).set u none) vs = _
    rw [wipe_set (h u List.mem_cons_self), wipe_wipe us fun i hi => h i (List.mem_cons_of_mem _ hi)]
def lcM (src : Src) (g : MG) (tt : MB) (m : ME) (vs : List Nat) (l : Nat) (env : Env') : Nat → Nat → Ms → Out PV
  | 0, _, _ => .fail
  | f + 1, i, S => match nxt S i src with
    | .stop => .ret (.loc l) S
    | .bad => .fail
    | .yld v => (match g v (wipeE env vs) with
      | none => .fail
      | some env1 => (match tt env1 S with
        | .ret false S1 => lcM src g tt m vs l env f (i + 1) S1
        | .ret true S1 => (match m env1 S1 with
          | .ret y S2 => (match S2[l]? with
            | some (.lst acc) => if acc.length < lim then lcM src g tt m vs l env f (i + 1) (S2.set l (.lst (acc ++ [y]))) else .fail
            | _ => .fail)
          | _ => .fail)
        | _ => .fail))
def mLc (mi : MI) (g : MG) (tt : MB) (m : ME) (vs : List Nat) : ME := fun env S => match mi env S with
  | .ret src S1 => lcM src g tt m vs S1.length env fuel 0 (S1 ++ [.lst []])
  | .exc x S1 => .exc x S1
  | .fail => .fail
theorem lc_ok {ti : TI} {mi : MI} {g : MG} {sl vs : List Nat} (hsl : ∀ i ∈ sl, i ∈ vs)
    (qi : ∀ ρ env S σ H R, HR X.K X.mg ρ S H → ER X.K H ρ env σ → PostI X ρ H σ W R (mi env S) → ti σ H R)
    (ρ env S σ H) (Q : VK) (R : HR X.K X.mg ρ S H) (er : ER X.K H ρ env σ) (h : Post X.K X.mg ρ H σ W Q (mLc mi g t m vs env S)) :
    tLc ti (tGt X.K X.mg g sl) (tBo X.K X.mg W0 t) (tE X.K X.mg W0 m) vs σ H Q := by
  refine qi ρ env S σ H _ R er ?_
  unfold mLc at h
  cases e : mi env S with
  | fail => simp only [e] at h; exact h.elim
  | exc x S1 => simp only [e] at h; exact h
  | ret src S1 =>
    simp only [e] at h
    intro ρ1 H1 J g1 R1 e1 hJ D hD
    have h := Post.mono g1 e1 h
    have er1 := er.mono e1 g1
    have gD : Grow ρ1 (ρ1 ++ [D]) := .snoc _ _
    have eD : Ext H1 (upd H1 D (.lst [])) := .new hD
    have lD : (ρ1 ++ [D])[S1.length]? = some D := by rw [← R1.len]; simp
    refine ⟨fun i f H => ∃ ρ2 S2, Grow (ρ1 ++ [D]) ρ2 ∧ Ext (upd H1 D (.lst [])) H ∧ HR X.K X.mg ρ2 S2 H ∧ Post X.K X.mg ρ1 H1 σ W Q (lcM src g t m vs S1.length env f i S2),
      ⟨fuel, ρ1 ++ [D], _, .refl _, .refl _, R1.new hD (.lst .nil), h⟩, ?_⟩
    rintro i f H2 ⟨ρ2, S2, g2, e2, R2, h2⟩
    have g12 := gD.trans g2
    have e12 := eD.trans e2
    obtain ⟨j1, j2⟩ := hJ ρ2 S2 H2 i g12 e12 R2
    cases f with
    | zero => exact h2.elim
    | succ f =>
      unfold lcM at h2
      cases q : nxt S2 i src with
      | bad => simp only [q] at h2; exact h2.elim
      | stop => simp only [q] at h2; exact .inl ⟨j1 q, h2 ρ2 _ H2 g12 R2 e12 (.loc (g2 _ _ lD))⟩
      | yld v =>
        simp only [q] at h2
        obtain ⟨jg, jy⟩ := j2 v q
        refine .inr ⟨jg, fun H' => ∃ ρ2 S2, Grow (ρ1 ++ [D]) ρ2 ∧ Ext (upd H1 D (.lst [])) H' ∧ HR X.K X.mg ρ2 S2 H' ∧ Post X.K X.mg ρ1 H1 σ W Q (lcM src g t m vs S1.length env f (i + 1) S2), fun H' hN => ⟨f, Nat.lt_succ_self _, hN⟩, fun x H3 hy => ?_⟩
        obtain ⟨R3, e3, r3⟩ := jy x H3 hy
        cases q3 : g v (wipeE env vs) with
        | none => simp only [q3] at h2; exact h2.elim
        | some env3 =>
          simp only [q3] at h2
          refine ⟨ρ2, wipeE env vs, S2, v, env3, R3, ((er1.mono e12 g12).mono e3 (.refl _)).wipe vs, r3, q3, fun σ3 er3 w3 => ⟨?_, ρ2, env3, S2, R3, er3, ?_⟩⟩
          · rw [w3 vs hsl, wipe_wipe vs fun _ h => h]
          · cases q4 : t env3 S2 with
            | fail => simp only [q4] at h2; exact h2.elim
            | exc x S3 => simp only [q4] at h2; exact h2.elim
            | ret bb S3 =>
              intro ρ4 H4 g4 R4 e4
              cases bb with
              | false =>
                simp only [q4] at h2
                rw [if_neg Bool.false_ne_true]
                exact ⟨ρ4, S3, g2.trans g4, (e2.trans e3).trans e4, R4, h2⟩
              | true =>
                simp only [q4] at h2
                rw [if_pos rfl]
                refine ⟨ρ4, env3, S3, R4, er3.mono e4 g4, ?_⟩
                cases q5 : m env3 S3 with
                | fail => simp only [q5] at h2; exact h2.elim
                | exc x S3 => simp only [q5] at h2; exact h2.elim
                | ret y S4 =>
                  simp only [q5] at h2
                  intro ρ5 y' H5 g5 R5 e5 r5
                  split at h2
                  · rename_i acc qa
                    split at h2
                    · rename_i hlim
                      have lD5 : ρ5[S1.length]? = some D := g5 _ _ (g4 _ _ (g2 _ _ lD))
                      obtain ⟨acc', a1, a2⟩ := R5.lst lD5 qa
                      refine ⟨acc', a1, by rw [a2.length]; exact Nat.lt_of_lt_of_le hlim (by decide), ρ5, _, (g2.trans g4).trans g5, (((e2.trans e3).trans e4).trans e5).trans (.put a1 soft_lst), R5.put lD5 a1 soft_lst (.lst (a2.append (.cons r5 .nil))), h2⟩
                    · exact h2.elim
                  · exact h2.elim
theorem s_lc {iter : Expr} {ifs : List Expr} {scope : Scope} {own : List (Str × Nat)} {mi : MI} {g : MG} {sl : List Nat} (hc : X.calm = true) (hN : X.N.Nodup) (hi : SI X W tg iter mi) (ok : BlkOk X.N X.env.scope scope own) (hsl : ∀ i ∈ sl, i ∈ own.map (·.2))
    (hg : ∀ (s : Shared) (H : Hp) (C : Addr) (cl : List (Str × Addr)) (fp : List Addr), SG (X.blk s H scope (compEnvC scope cl C X.env) fp) tg g sl) (ht : ∀ (s : Shared) (H : Hp) (C : Addr) (cl : List (Str × Addr)) (fp : List Addr), SIf (X.blk s H scope (compEnvC scope cl C X.env) fp) W0 ifs t)
    (he : ∀ (s : Shared) (H : Hp) (C : Addr) (cl : List (Str × Addr)) (fp : List Addr), SE (X.blk s H scope (compEnvC scope cl C X.env) fp) W0 e m) (hs : ∀ x, foldedSetIterable iter X.env x = pure x := by intro _; rfl) :
    SE X W (.ListComp e [⟨tg, iter, ifs, 0⟩] scope pos) (mLc mi g t m (own.map (·.2))) :=
  let ⟨_, pi, qi⟩ := hi
  ⟨_, pe_lc (tt := tBo X.K X.mg W0 t) hc hN pi ok (fun s H C cl fp => (hg s H C cl fp).pg) (fun s H C cl fp => ht s H C cl fp) (fun s H C cl fp => (he s H C cl fp).pe) hs, lc_ok hsl qi⟩
/-! ### defs and their calls -/
def mFn (nl : Nat) (body : MS) : List PV → Ms → Out PV := fun args S => match body (args.map some ++ List.replicate nl none) S with
  | .nx _ S1 => .ret .non S1
  | .rt v S1 => .ret v S1
  | .exc _ x S1 => .exc x S1
  | _ => .fail
def spF (K : PySem.W.Frag) (mg : Str → Option Value) (np : Nat) (F : List PV → Ms → Out PV) : Sp := fun vs H Q E => vs.length = np ∧ ∃ ρ S args, HR K mg ρ S H ∧ VRs K H ρ args vs ∧ Post K mg ρ H [] (fun c d _ H => E c d H) Q (F args S)
/-- the mirror of a call of a def with so many parameters -/
def cl (np : Nat) (G : List PV → Ms → Out PV) : List PV → Ms → Out PV := fun vs S => if vs.length = np then G vs S else .fail
theorem s_call {x : Str} {pp : Pos} {f : Addr} {fd : FuncData} {ps : List Str} {lv np : Nat} {G : List PV → Ms → Out PV} (F : FnOk X.prog X.w X.K X.mg X.base (L2.CX X.prog X.w) lv f fd ps (spF X.K X.mg np G)) (hnp : ps.length = np) (hr : Room lv X.A)
    (hm : X.mg x = some (.ref f)) (hk : PySem.W.keepIn X.K (.ref f) = true) (hb : Binds X.K fd ps []) (tk : Takes X W) (ha : SA X W (e :: es) ml) (hargs : (e :: es).length = np := by rfl) (hg : Gl X x := by rfl)
    (hdb : (x == ("__debug__" : Str)) = false := by decide) (he : starEach (e :: es) X.env = (false, eval e X.env) :: starEach es X.env := by rfl) (hpl : (backTo pos (starEach es X.env)).any (·.1) = false := by rfl) :
    SE X W (.Call (.Name x pp) (e :: es) [] pos) (mL ml (cl np G)) :=
  let ⟨_, pa, qa⟩ := ha
  ⟨_, pe_callSD (E := WE W) (dvs := []) F hr hg hm hk hb .nil (fun σ => passAt tk σ) pa hdb he hpl, fun ρ env S σ H Q R er h =>
    args_ok (r := fun vs H1 Q => spF X.K X.mg np G (vs ++ []) H1 Q (WE W σ)) qa ρ env S σ H Q (fun ρ' S' H' x x' g e R' r h' => by
      unfold cl at h'
      split at h'
      · rename_i hl
        rw [List.append_nil]
        refine ⟨by rw [r.length]; exact hl, ρ', S', x, R', r, ?_⟩
        cases q : G x S' with
        | fail => rw [q] at h'; exact h'.elim
        | ret v S1 => rw [q] at h'; exact h'
        | exc xx S1 => rw [q] at h'; exact h'
      · exact h'.elim) R er h⟩
theorem start_er {K : PySem.W.Frag} {H : Hp} {ρ : List Addr} {N : List Str} {nl : Nat} {args : List PV} {vs : List V} (r : VRs K H ρ args vs) (hl : N.length = vs.length + nl) : ER K H ρ (args.map some ++ List.replicate nl none) (L2.start N vs) := by
  unfold L2.start
  have e : N.length - vs.length = nl := by omega
  rw [e]
  exact ER.start nl r
theorem fn_ok {P : Program} {w : World} {K : PySem.W.Frag} {mg : Str → Option Value} {base : Heap} {x qual : Str} {sst : Stmt} {f : Addr} {fd : FuncData} {N ps : List Str} {lv nl : Nat} {mm : MS} (F : Fun K x qual sst f fd) (Sc : FnScope N ps (defScope sst)) (hl : N.length = ps.length + nl)
    (hbody : ∀ (cdv : Value) (A : Around) (outer : List Env) (s : Shared) (H : Hp) (E : XK), Room lv (A.deeper (envOfC qual (defScope sst) s.heap.objs.size f cdv)) →
      SSs (cxOf (L2.CX P w) P w K mg base N qual (defScope sst) f cdv A outer s H E) (fun c d _ H => E c d H) (defBody sst) mm) : FnOk P w K mg base (L2.CX P w) (lv + 1) f fd ps (spF K mg ps.length (mFn nl mm)) :=
  F.okX Sc (fun vs H Q E h => h.1) fun cdv A outer s H vs Q E hr h => by
    obtain ⟨hv, ρ, S, args, R, r, hp⟩ := h
    obtain ⟨t, pt, qt⟩ := hbody cdv A outer s H E hr
    refine ⟨t, pt, qt ρ (args.map some ++ List.replicate nl none) S _ H _ R (start_er r (by rw [hl, hv])) ?_⟩
    unfold mFn at hp
    cases e : mm (args.map some ++ List.replicate nl none) S with
    | nx env1 S1 => simp only [e] at hp; exact fun ρ1 σ1 H1 g1 R1 e1 er1 => hp ρ1 _ H1 g1 R1 e1 .non
    | rt v S1 => simp only [e] at hp; exact fun ρ1 v1 H1 g1 R1 e1 r1 => hp ρ1 v1 H1 g1 R1 e1 r1
    | exc env1 xx S1 => simp only [e] at hp; exact fun ρ1 σ1 C d H1 g1 R1 e1 er1 hc xr => hp ρ1 C d H1 g1 R1 e1 hc xr
    | bk env1 S1 => simp only [e] at hp; exact hp.elim
    | ct env1 S1 => simp only [e] at hp; exact hp.elim
    | fail => simp only [e] at hp; exact hp.elim
theorem fn_never {P : Program} {w : World} {K : PySem.W.Frag} {mg : Str → Option Value} {base : Heap} {f : Addr} {fd : FuncData} {ps : List Str} {lv : Nat} : FnOk P w K mg base (L2.CX P w) lv f fd ps (spF K mg ps.length (fun _ _ => .fail)) :=
  ⟨fun vs H Q E h => h.1, fun A outer s H args us vs Q E hr he hb r h => by obtain ⟨_, _, _, _, _, _, z⟩ := h; exact z.elim⟩
end
end MP

set_option maxRecDepth 100000
namespace MP
open PySem PySem.Spec PyProof.Rows L2
section
variable {X : Cx} {W : WX} {a b c e o tg : Expr} {es rest : List Expr} {pos : Pos} {m n k : ME} {ml mk : ML} {t u : MB} {st : Stmt} {sts : List Stmt} {p q : MS} {kws : List Keyword}

/-! ### calls with keywords -/
def gOf {α : Type} (d : α) (is : List Nat) (us ws : List α) : List α := is.map fun i => (us ++ ws).getD i d
/-! ### methods of lists -/
def mMeth (m : ME) (ml : ML) (f : PV → List PV → Ms → Out PV) : ME := fun env S => (m env S).bind fun x S1 => if (lstOf S1 x).isSome then (ml env S1).bind fun xs S2 => f x xs S2 else .fail
def OM (X : Cx) (W : WX) (f : PV → List PV → Ms → Out PV) (r : V → List V → Hp → VK → Prop) : Prop :=
  ∀ ρ S H σ Q x x' xs xs', HR X.K X.mg ρ S H → VR X.K H ρ x x' → VRs X.K H ρ xs xs' → Post X.K X.mg ρ H σ W Q (f x xs S) → r x' xs' H Q
theorem tyL_ok {ρ : List Addr} {S : Ms} {H : Hp} {x : PV} {x' : V} (R : HR X.K X.mg ρ S H) (r : VR X.K H ρ x x') (h : (lstOf S x).isSome = true) : tyV X.K "list" x' H := by
  cases e : lstOf S x with
  | none => rw [e] at h; cases h
  | some xs =>
    obtain ⟨a, vs, rfl, _, hs⟩ := lstOf_ok R r e
    exact .inl ⟨rfl, vs, hs⟩
theorem s_bmL {name : Str} {id : String} {apos cpos : Pos} {f : PV → List PV → Ms → Out PV} {r : V → List V → Hp → VK → Prop} (slot : Slot "list" name id) (hty : typeOf (.builtin id) = pure (.type "method_descriptor")) (hm : MtR X id r) (hf : OM X W f r) (ho : SE X W o m) (ha : SA X W (e :: es) ml)
    (hbase : attributeBase o name X.env (eval o X.env) = eval o X.env := by rfl)
    (hfew : ((backTo cpos (starEach (e :: es) X.env)).all (fun x => !x.1) && (backToKw cpos (keywordEach [] X.env)).all (fun x => x.1.isSome)
      && decide ((e :: es).length + ([] : List Keyword).length + (if ([] : List Keyword).isEmpty then 0 else 1) < 30)) = true := by rfl)
    (hline : (apos.endLine == cpos.line) = true := by rfl) (hs : starEach (e :: es) X.env = (false, eval e X.env) :: starEach es X.env := by rfl) (hplain : (backTo cpos (starEach es X.env)).any (·.1) = false := by rfl) :
    SE X W (.Call (.Attribute o name apos) (e :: es) [] cpos) (mMeth m ml f) :=
  let ⟨_, pa, qa⟩ := ho; let ⟨_, pb, qb⟩ := ha
  ⟨_, pe_bm PySem.F.plainAttrs_list slot hty hm pa pb hbase hfew hline hs hplain, fun ρ env S σ H Q R er h => by
    refine qa ρ env S σ H _ R er ?_
    unfold mMeth at h
    cases e : m env S with
    | fail => rw [e] at h; exact h.elim
    | exc x S => rw [e] at h; exact h
    | ret x S1 =>
      rw [e] at h
      intro ρ1 x' H1 g1 R1 e1 r1
      have h := Post.mono g1 e1 h
      simp only [Out.bind] at h
      split at h
      · rename_i hl
        refine ⟨tyL_ok R1 r1 hl, ?_⟩
        exact args_ok qb ρ1 env S1 σ H1 Q (fun ρ' S' H' xs xs' g e R' r h' => hf ρ' S' H' σ Q x x' xs xs' R' (r1.mono e g) r h') R1 (er.mono e1 g1) h
      · exact h.elim⟩
def oAppend : PV → List PV → Ms → Out PV
  | .loc n, [y], S => (match S[n]? with | some (.lst xs) => if xs.length < lim then .ret .non (S.set n (.lst (xs ++ [y]))) else .fail | _ => .fail)
  | _, _, _ => .fail
theorem Post.put {ρ : List Addr} {H : Hp} {σ : L2.St} {S : Ms} {Q : VK} {nn : Nat} {aa : Addr} {v : PV} {v' : V} {xs : List PV} {vs ws : List V} (R : HR X.K X.mg ρ S H) (en : ρ[nn]? = some aa) (h1 : H aa = some (.lst vs)) (r : VRs X.K H ρ xs ws) (rv : VR X.K H ρ v v')
    (h : Post X.K X.mg ρ H σ W Q (.ret v (S.set nn (.lst xs)))) : Q v' (upd H aa (.lst ws)) :=
  h ρ v' _ (.refl _) (R.put en h1 soft_lst (.lst r)) (.put h1 soft_lst) (rv.mono (.put h1 soft_lst) (.refl _))
theorem o_append : OM X W oAppend rAppend := by
  intro ρ S H σ Q x x' xs xs' R rx rxs h
  unfold oAppend at h
  split at h
  · obtain ⟨v, rfl, rv⟩ := vrs1 rxs
    cases rx with
    | loc en =>
      split at h
      · rename_i q
        split at h
        · rename_i hl
          obtain ⟨vs, h1, h2⟩ := R.lst en q
          exact ⟨_, vs, v, rfl, rfl, h1, by rw [h2.length]; exact Nat.lt_of_lt_of_le hl (by decide), Post.put R en h1 (h2.append (.cons rv .nil)) .non h⟩
        · exact h.elim
      · exact h.elim
  · exact h.elim
def oPop : PV → List PV → Ms → Out PV
  | .loc n, [], S => (match S[n]? with | some (.lst xs) => (match xs[xs.length - 1]? with | some y => .ret y (S.set n (.lst xs.dropLast)) | none => .fail) | _ => .fail)
  | .loc n, [.int i], S => (match S[n]? with
    | some (.lst xs) => if -(2 ^ 63) ≤ i ∧ i < 2 ^ 63 then (match seqIndex? i xs.length with
      | some k => (match xs[k]? with | some y => .ret y (S.set n (.lst (xs.eraseIdx k))) | none => .fail)
      | none => .fail) else .fail
    | _ => .fail)
  | _, _, _ => .fail
def rPop2 : V → List V → Hp → VK → Prop := fun x xs H Q => rPop x xs H Q ∨ rPopAt x xs H Q
theorem mt_pop2 : MtR X "list.pop" rPop2 := MtR.or mt_pop mt_popAt
theorem vrs_dropLast {K : PySem.W.Frag} {H : Hp} {ρ : List Addr} {xs : List PV} {vs : List V} (h : VRs K H ρ xs vs) : VRs K H ρ xs.dropLast vs.dropLast := by
  rw [List.dropLast_eq_take, List.dropLast_eq_take, h.length]; exact h.take _
theorem o_pop : OM X W oPop rPop2 := by
  intro ρ S H σ Q x x' xs xs' R rx rxs h
  unfold oPop at h
  split at h
  · cases rxs
    cases rx with
    | loc en =>
      split at h
      · rename_i q
        split at h
        · rename_i y qy
          obtain ⟨vs, h1, h2⟩ := R.lst en q
          obtain ⟨y', e1, r1⟩ := h2.get qy
          exact .inl ⟨_, vs, y', rfl, rfl, h1, by rw [h2.length]; exact e1, Post.put R en h1 (vrs_dropLast h2) r1 h⟩
        · exact h.elim
      · exact h.elim
  · obtain ⟨v, rfl, rv⟩ := vrs1 rxs
    cases rv
    cases rx with
    | loc en =>
      split at h
      · rename_i q
        split at h
        · rename_i hb
          split at h
          · rename_i kk qk
            split at h
            · rename_i y qy
              obtain ⟨vs, h1, h2⟩ := R.lst en q
              obtain ⟨y', e1, r1⟩ := h2.get qy
              exact .inr ⟨_, vs, _, kk, y', rfl, rfl, h1, hb.1, hb.2, by rw [h2.length]; exact qk, e1, Post.put R en h1 (h2.eraseIdx kk) r1 h⟩
            · exact h.elim
          · exact h.elim
        · exact h.elim
      · exact h.elim
  · exact h.elim
end
end MP

set_option maxRecDepth 100000
namespace MP
open PySem PySem.Spec PyProof.Rows L2
section
variable {X : Cx} {W : WX} {a b c e o tg : Expr} {es rest : List Expr} {pos : Pos} {m n k : ME} {ml mk : ML} {t u : MB} {st : Stmt} {sts : List Stmt} {p q : MS} {kws : List Keyword}

/-! ### isinstance against built-in classes -/
/-- is an object of the first class one of the second? -/
def isiB (a b : String) : Bool := a == b || (a == "bool" && b == "int")
/-- a class that isinstance may ask for, as the program names it -/
structure TyN (T : String) : Prop where
  kit : ∀ a ∈ ["NoneType", "bool", "int", "str", "tuple", "list", "dict"], kitB a T = some (isiB a T)
/-! ### list(range(..)), tuple(range(..)) -/
def rgP (a b : Int) : List PV := (List.range (b - a).toNat).map fun i => PV.int (a + (i : Nat))
theorem rg_ok {K : PySem.W.Frag} {H : Hp} {ρ : List Addr} (a b : Int) : VRs K H ρ (rgP a b) (rgV a b) := by
  unfold rgP rgV
  induction (List.range (b - a).toNat) with
  | nil => exact .nil
  | cons i r ih => exact .cons (.int _) ih
instance (a b : Int) : Decidable (RgOk a b) := by unfold RgOk; infer_instance
def oListRg1 : PV → Ms → Out PV
  | .int nn, S => if RgOk 0 nn ∧ (rgP 0 nn).length ≤ lim then .ret (.loc S.length) (S ++ [.lst (rgP 0 nn)]) else .fail
  | _, _ => .fail
theorem s_listRg1 {pp p2 p3 : Pos} (hc : X.calm = true) (ha : SE X W a m) (hm : X.mg "list" = none) (hm2 : X.mg "range" = none) (hg : Gl X "list" := by rfl) (hg2 : Gl X "range" := by rfl)
    (na : starEach [.Call (.Name "range" p2) [a] [] p3] X.env = (false, eval (.Call (.Name "range" p2) [a] [] p3) X.env) :: starEach [] X.env := by rfl) (na2 : starEach [a] X.env = (false, eval a X.env) :: starEach [] X.env := by rfl) :
    SE X W (.Call (.Name "list" pp) [.Call (.Name "range" p2) [a] [] p3] [] pos) (m1 m oListRg1) :=
  let ⟨ta, pa, qa⟩ := ha
  ⟨_, pe_listRg hc hg hm (prg_1 hg2 hm2 pa na2) na, fun ρ env S σ H Q R er h => by
    refine un_ok (r := fun x H1 Q => ∃ nn, x = .int nn ∧ RgOk 0 nn ∧ ∀ q, H1 q = none → Q (.ref q) (upd H1 q (.lst (rgV 0 nn)))) qa (fun ρ S H σ Q x x' R r h => ?_) ρ env S σ H Q R er h
    unfold oListRg1 at h
    split at h
    · cases r
      split at h
      · rename_i hh; exact ⟨_, rfl, hh.1, fun q hq => new_list R (rg_ok _ _) h hq⟩
      · exact h.elim
    · exact h.elim⟩
/-! ### index, remove, count -/
/-! ### new dicts, d.get -/
def mNewK : ME := fun _ S => .ret (.loc S.length) (S ++ [.dK []])
theorem s_newK : SE X W (.Dict [] [] pos) mNewK := ⟨_, pe_dnewK, fun ρ env S σ H Q R er h p hp => h (ρ ++ [p]) _ _ (.snoc _ _) (R.new hp (.dK .nil)) (.new hp) (by rw [← R.len]; exact .new)⟩
end

/-! ### the law -/
theorem law_sp {K : PySem.W.Frag} {H : Hp} {aa : Addr} {ns : List Int} {G : List PV → Ms → Out PV} {mg : Str → Option Value} (hO : Only H) (hS : SqL K H aa (ns.map V.int)) (h : ∃ S', G [.rol (ns.map PV.int)] [] = .ret (.bl true) S') :
    spF K mg 1 G [.ref aa] H (fun v _ => v = .bl true) fun _ _ _ => False := by
  obtain ⟨S', h⟩ := h
  refine ⟨rfl, [], [], [.rol (ns.map PV.int)], ⟨rfl, List.nodup_nil, fun nn o e => by simp at e⟩, .cons (.rol ?_ (VRs.ints ns)) .nil, ?_⟩
  · rcases hS with (hS | ⟨o, hS⟩) | hS
    · rcases hO aa with z | ⟨o, xs, z⟩
      · rw [z] at hS; cases hS
      · rw [z] at hS; cases hS
    · exact .inl ⟨o, hS⟩
    · exact .inr hS
  · rw [h]
    intro ρ' v' H' _ _ _ r
    cases r; rfl
def spL (K : PySem.W.Frag) (G : List PV → Ms → Out PV) : Sp := fun vs H Q E => ∀ mg, spF K mg 1 G vs H Q E
theorem law_spL {K : PySem.W.Frag} {H : Hp} {aa : Addr} {ns : List Int} {G : List PV → Ms → Out PV} (hO : Only H) (hS : SqL K H aa (ns.map V.int)) (h : ∃ S', G [.rol (ns.map PV.int)] [] = .ret (.bl true) S') :
    spL K G [.ref aa] H (fun v _ => v = .bl true) fun _ _ _ => False := fun _ => law_sp hO hS h
theorem cx_end {P : Program} {w : World} (H : Hp) (s : Shared) (e : Value) (s' : Shared) (h : L2.CX P w [] H s (fun _ _ _ => False) e s') : False := by
  obtain ⟨_, _, _, _, _, _, _, _, _, _, _, _, z⟩ := h
  exact z
end MP

set_option maxRecDepth 100000
namespace MP
open PySem PySem.Spec PyProof.Rows L2
theorem hu65 {A : Around} {k : Nat} (hr : Room k A) : A.units + 65 < cLine := by have := hr.un; omega
section
variable {X : Cx} {W : WX} {a b c e o tg : Expr} {es rest : List Expr} {pos : Pos} {m n k : ME} {ml mk : ML} {t u : MB} {st : Stmt} {sts : List Stmt} {p q : MS} {kws : List Keyword}
def sPar3 (i j l : Nat) (a b c : ME) : MS := fun env S => match mCons a (mCons b (mCons c mNil)) env S with
  | .ret [v, w, z] S1 => .nx (((env.set i (some v)).set j (some w)).set l (some z)) S1
  | .exc x S1 => .exc env x S1
  | _ => .fail
theorem ss_par3 {i j l : Nat} {x y z : Str} {px py pz pt : Pos} {kt k2 pt2} (hc : X.calm = true) (hN : X.N.Nodup) (ha : SE X W a m) (hb : SE X W b n) (hcc : SE X W c k) (hi : X.N[i]? = some x := by rfl) (hj : X.N[j]? = some y := by rfl) (hl : X.N[l]? = some z := by rfl)
    (hij : i ≠ j := by decide) (hil : i ≠ l := by decide) (hjl : j ≠ l := by decide)
    (hx : X.env.scope.names.lookup x = some .local := by rfl) (hy : X.env.scope.names.lookup y = some .local := by rfl) (hz : X.env.scope.names.lookup z = some .local := by rfl)
    (hw : swappedStores [.Tuple [.Name x px, .Name y py, .Name z pz] kt pt] (.Tuple [a, b, c] k2 pt2) X.env = pure (some [x, y, z]) := by rfl)
    (hs : swapsWithSole [.Tuple [.Name x px, .Name y py, .Name z pz] kt pt] (.Tuple [a, b, c] k2 pt2) pos.line X.env = pure false := by rfl)
    (h1 : starEach [a, b, c] X.env = (false, eval a X.env) :: starEach [b, c] X.env := by rfl) (h2 : starEach [b, c] X.env = (false, eval b X.env) :: starEach [c] X.env := by rfl) (h3 : starEach [c] X.env = (false, eval c X.env) :: starEach [] X.env := by rfl) :
    SS X W (.Assign [.Tuple [.Name x px, .Name y py, .Name z pz] kt pt] (.Tuple [a, b, c] k2 pt2) pos) (sPar3 i j l m n k) :=
  let ⟨_, pa, qa⟩ := sa_cons ha (sa_cons hb (sa_cons hcc sa_nil h3) h2) h1
  ⟨_, ps_par3 hc hN hi hj hl hij hil hjl hx hy hz pa hw hs, fun ρ env S σ H D R er h => by
    refine qa ρ env S σ H _ R er ?_
    unfold sPar3 at h
    split at h
    · rename_i v w z S1 e
      rw [e]
      intro ρ1 vs H1 g1 R1 e1 r1
      obtain ⟨v', w', z', rfl, r1, r2, r3⟩ := vrs3 r1
      exact ⟨v', w', z', rfl, h ρ1 _ H1 g1 R1 e1 ((((er.mono e1 g1).set r1 i).set r2 j).set r3 l)⟩
    · rename_i e; rw [e]; exact fun ρ' C d H' g R' e' hc xr => h ρ' σ C d H' g R' e' (er.mono e' g) hc xr
    · exact h.elim⟩
end
end MP

set_option maxRecDepth 100000
/-! enumerate over zip of two lists: the pair of zip may still be out, or may have gone -/
namespace PySem
open Sem (wp)
abbrev ZipAt (h : Heap) (z TI TO : Addr) (f0 : Value) (b1 : Bool) : Prop :=
  h.get? z = some { cls := .type "zip", dict := none, data := .fields #[f0, .bool b1, .bool false, .ref TI, .ref TO], slots := #[] }
section
variable {prog : Program} {w : World} {A : Around} {E : Value → Shared → Prop} {s : Shared}
/-- how zip stands at the turn k -/
def ZSt (h : Heap) (z TI TO i1 i2 l1 l2 : Addr) (k : Nat) : Prop := ∃ f0 b1 a b, ZipAt h z TI TO f0 b1 ∧ (f0 = .none ∨ ∃ T : Addr, f0 = rawInt T) ∧ IsPair h TI (.ref i1) (.ref i2) ∧ IsPair h TO a b ∧ h.IsListIter i1 l1 k ∧ h.IsListIter i2 l2 k
theorem ZSt.keep {h h' : Heap} {z TI TO i1 i2 l1 l2 : Addr} {k : Nat} (st : ZSt h z TI TO i1 i2 l1 l2 k) (kp : ∀ b, b = z ∨ b = TI ∨ b = TO ∨ b = i1 ∨ b = i2 → ∀ o, h.get? b = some o → h'.get? b = some o) : ZSt h' z TI TO i1 i2 l1 l2 k := by
  obtain ⟨f0, b1, a, b, hz, h0, hTI, hTO, h1, h2⟩ := st
  exact ⟨f0, b1, a, b, kp z (by simp) _ hz, h0, kp TI (by simp) _ hTI, kp TO (by simp) _ hTO, h1.at fun o q => kp i1 (by simp) o q, h2.at fun o q => kp i2 (by simp) o q⟩
end
end PySem

set_option maxRecDepth 100000
namespace MP
open PySem PySem.Spec PyProof.Rows L2
section
variable {X : Cx} {W : WX} {a b : Expr} {pos : Pos} {ml : ML}
end
end MP

set_option maxRecDepth 100000
namespace MP
open PySem PySem.Spec PyProof.Rows L2
/-! ### defs that ask for a stack without open reprs -/
/-- a def's promise where nothing is being shown -/
structure FnG (P : Program) (w : World) (K : PySem.W.Frag) (mg : Str → Option Value) (base : Heap) (k : Nat) (f : Addr) (fd : FuncData) (ps : List Str) (sp : Sp) : Prop where
  len : ∀ vs H Q E, sp vs H Q E → vs.length = ps.length
  run : ∀ (A : Around) (outer : List Env) (s : Shared) (H : Hp) (args : Args) (us : List Value) (vs : List V) (Q : VK) (E : XK), A.guards = some [] → Room k A → Env0 P w K mg base A outer s H → BindsTo s fd args (ps.zip us) → Vals vs us → sp vs H Q E →
    codeAny (model P w) A (.call (.ref f) args) (CR (L2.CX P w) outer P w H s Q E) s
theorem FnG.imp {P : Program} {w : World} {K : PySem.W.Frag} {mg : Str → Option Value} {base : Heap} {k : Nat} {f : Addr} {fd : FuncData} {ps : List Str} {sp sp' : Sp} (F : FnG P w K mg base k f fd ps sp) (h : ∀ vs H Q E, sp' vs H Q E → sp vs H Q E) : FnG P w K mg base k f fd ps sp' :=
  ⟨fun vs H Q E q => F.len vs H Q E (h _ _ _ _ q), fun A outer s H args us vs Q E g hr he hb hv hs => F.run A outer s H args us vs Q E g hr he hb hv (h _ _ _ _ hs)⟩
section
variable {X : Cx} {W : WX} {a e : Expr} {es : List Expr} {pos : Pos} {m : ME} {ml : ML}
/-! ### repr of what reads as data -/
end
/-! ### the law's call, from a promise that asks for such a stack -/
end MP

set_option maxRecDepth 100000
namespace MP
open PySem PySem.Spec PyProof.Rows L2
open PySem.W (EachIs AllAlike Sortable dataLe alike)
/-! ### sorted(x): what is collected, sorted as data -/
mutual
theorem reads_lt {h : Heap} : ∀ {v : Value} {d : PyData} {as : List Addr}, PySem.W.alike d d = true → Reads h v d as → ∀ b ∈ as, b < h.objs.size
  | _, .none, _, _, r, b, hb => by cases r; cases hb
  | _, .bool _, _, _, r, b, hb => by cases r; cases hb
  | _, .int _, _, _, r, b, hb => by cases r; cases hb
  | _, .str _, _, _, r, b, hb => by cases r; cases hb
  | _, .list xs, _, ha, r, b, hb => by
    cases r with
    | list h1 h2 h3 h4 =>
      rcases List.mem_cons.mp hb with z | z
      · rw [z]; exact Heap.lt_size h1
      · exact readsAll_lt (by simpa [PySem.W.alike] using ha) h4 b z
  | _, .tuple xs, _, ha, r, b, hb => by
    cases r with
    | tuple h1 h2 h3 h4 => exact readsAll_lt (by simpa [PySem.W.alike] using ha) h4 b hb
  | _, .dict _, _, ha, _, _, _ => absurd ha (by simp [PySem.W.alike])
theorem readsAll_lt {h : Heap} : ∀ {vs : List Value} {ds : List PyData} {as : List Addr}, PySem.W.alikeAll ds ds = true → ReadsAll h vs ds as → ∀ b ∈ as, b < h.objs.size
  | _, [], _, _, r, b, hb => by cases r; cases hb
  | _, d :: ds, _, ha, r, b, hb => by
    cases r with
    | cons h1 h2 =>
      have q := PySem.W.alike_all_cons ha
      rcases List.mem_append.mp hb with z | z
      · exact reads_lt q.1 h1 b z
      · exact readsAll_lt q.2 h2 b z
end
section
variable {prog : Program} {w : World} {A : Around} {E : Value → Shared → Prop} {s : Shared} {β : Type} {enc : β → PyData} {R : Value → β → Prop} {u : Value}
theorem sorted_core {Q : Value → Shared → Prop} (hc : wpAny (model prog w) A.in1 (collect u) (fun vs s1 => ∃ bs : List β, EachIs R vs bs ∧ EachIs (fun v b => ∃ as, Reads s1.heap v (enc b) as) vs bs ∧ AllAlike (bs.map enc) ∧ Sortable (bs.map enc) ∧ bs.length ≤ sizeLine ∧ (∀ b ∈ bs, A.units + 60 + (enc b).depth < cLine) ∧
      ∀ (h2 : Heap) (p : Addr) (out : List Value) (c : Nat), (∀ b o, s1.heap.get? b = some o → h2.get? b = some o) → s1.heap.objs.size ≤ p → h2.get? p = some (seqObj "list" out.toArray c) → out.length = bs.length → EachIs R out (bs.mergeSort (dataLe false enc)) → Q (.ref p) { s1 with heap := h2 }) E s) :
    wpAny (model prog w) A (call (.builtin "sorted") [u]) Q E s := by
  refine Calls.call_function_entry kind_sorted plain_sorted entry_sorted (args_sorted1 _) ?_
  unfold Builtin.«sorted»
  refine wpAny_bind (m := checkCount "sorted" 1 1 _) (wpAny_pure ?_)
  refine wpAny_bind (wpAny_mono hc (fun vs s1 hh => ?_) fun _ _ e => e)
  obtain ⟨bs, e1, e2, al, so, hl, hu, fin⟩ := hh
  have hvl : vs.length ≤ sizeLine := by rw [e1.length]; exact hl
  refine wpAny_bind (wpAny_newList ?_ hvl)
  have hoL : (s1.heap.push (seqObj "list" vs.toArray 0)).get? s1.heap.objs.size = some (seqObj "list" vs.toArray 0) := Heap.get?_push_size _ rfl
  have hun : A.in1.in1.units ≤ A.units + 2 := by simp [Around.in1]
  have er : EachIs (fun v b => ∃ as, Reads (s1.heap.push (seqObj "list" vs.toArray 0)) v (enc b) as ∧ s1.heap.objs.size ∉ as) vs bs :=
    (PySem.W.each_mem e2).mono fun v b ⟨⟨as, r⟩, hb⟩ => ⟨as, PyProof.Rows.Reads.keeps (fun _ _ q => Heap.get?_push_of_some _ q) r, fun z => by
      have hm : enc b ∈ bs.map enc := List.mem_map.mpr ⟨b, hb, rfl⟩
      have := reads_lt (al _ hm _ hm) r _ z
      exact absurd this (Nat.lt_irrefl _)⟩
  refine wpAny_bind (wpAny_holding (PySem.W.list_sort_data (s := { s1 with heap := s1.heap.push (seqObj "list" vs.toArray 0) }) hoL e1 er al so hl (fun b hb => ?_) fun out hout eo => ?_))
  · have := hu b hb
    simp only [Around.in1] at hun ⊢
    omega
  · obtain ⟨c, hcc⟩ := sortedHeap_at (vs := vs) (out := out.toArray) hoL
    refine wpAny_pure ⟨_, rfl, fin _ s1.heap.objs.size out c (fun b o q => ?_) (Nat.le_refl _) hcc hout eo⟩
    have hlt := Heap.lt_size q
    rw [sortedHeap_old (Nat.ne_of_lt hlt) (Heap.lt_size (Heap.get?_push_of_some _ q))]
    exact Heap.get?_push_of_some _ q
end
end MP

set_option maxRecDepth 100000
namespace MP
open PySem PySem.Spec PyProof.Rows L2 PpSet
/-! ### {e for x in it if ..}: over any kind of set that set.add serves -/
/-- the object that an empty set makes -/
abbrev set0 (w : World) : Obj := { cls := .type "set", dict := none, data := .set #[] 0 (.fresh 0 0 (!w.params.followText "set-order")) }
def tScG (ob : Addr → HO) (radd : V → List V → Hp → VK → Prop) (wi : TI) (g : TG) (tt : TT) (te : TE) (vs : List Nat) : TE := fun σ H Q => wi σ H fun J H1 => ∀ D, H1 D = none → ∃ Z : Nat → Nat → Hp → Prop, (∃ m, Z 0 m (upd H1 D (ob D))) ∧ ∀ i m H, Z i m H →
  (J.stop i H ∧ Q (.ref D) H) ∨ (J.go i H ∧ ∃ Nx : Hp → Prop, (∀ H', Nx H' → ∃ m', m' < m ∧ Z (i + 1) m' H') ∧ ∀ x H', J.yld i H x H' → g x (wipe σ vs) H' fun σ2 H2 => wipe σ2 vs = wipe σ vs ∧ tt σ2 H2 fun b H3 =>
    if b = true then te σ2 H3 fun y H4 => radd (.ref D) [y] H4 (fun _ H5 => Nx H5) else Nx H3)
section
variable {X : Cx}
theorem scG_core {pins : List (Addr × Obj)} {sA : Shared} {σ : L2.St} {H : Hp} {Q : VK} {elt tg iter : Expr} {ifs : List Expr} {scope : Scope} {own : List (Str × Nat)} {pos pos' : Pos} {wi : TI} {g : TG} {tt : TT} {te : TE} {use : Option (Value → Sem Unit)} {Qf : Value → Shared → Prop} {ob : Addr → HO} {radd : V → List V → Hp → VK → Prop}
    (hc : X.calm = true) (hN : X.N.Nodup) (IA : Inv X pins σ H sA) (hi : PI X tg iter wi) (ok : BlkOk X.N X.env.scope scope own)
    (h0 : ∀ (H : Hp) (h : Heap), ObjOk X.prog X.w H (h.push (set0 X.w)) h.objs.size (ob h.objs.size))
    (hadd : ∀ (s : Shared) (H : Hp) (C : Addr) (cl : List (Str × Addr)) (fp : List Addr), MtR (X.blk s H scope (compEnvC scope cl C X.env) fp) "set.add" radd)
    (hg : ∀ (s : Shared) (H : Hp) (C : Addr) (cl : List (Str × Addr)) (fp : List Addr), PG (X.blk s H scope (compEnvC scope cl C X.env) fp) tg g) (ht : ∀ (s : Shared) (H : Hp) (C : Addr) (cl : List (Str × Addr)) (fp : List Addr), PTs (X.blk s H scope (compEnvC scope cl C X.env) fp) ifs tt)
    (he : ∀ (s : Shared) (H : Hp) (C : Addr) (cl : List (Str × Addr)) (fp : List Addr), PE (X.blk s H scope (compEnvC scope cl C X.env) fp) elt te) (hs : ∀ x, foldedSetIterable iter X.env x = pure x)
    (hw : tScG ob radd wi g tt te (own.map (·.2)) σ H Q)
    (hEnd : ∀ D C t m HH, Inv X pins σ HH t → Q (.ref D) HH → t.heap.Ns C m → FpOk X pins HH C → compPost (model X.prog X.w) X.A X.xe use Qf (.ref D) C (.ok .next) t) :
    wpAny (model X.prog X.w) X.A (comprehension (.SetComp elt [⟨tg, iter, ifs, 0⟩] scope pos) scope X.env pos' (newSet (.type "set")) false (eval iter X.env) use) Qf X.xe sA := by
  have freeOk : ∀ y ∈ scope.names, y.2 = .free → ∃ c, X.env.cells.lookup y.1 = some c := by
    intro y hy e
    cases ok.free y hy e with
    | inl k => exact IA.ok.has _ (.inl k)
    | inr k => exact IA.ok.has _ (.inr k)
  refine wpAny_comprehension_free (use := use) rfl hs (closure_ok freeOk) ok.kind (fun y hy e => by rw [ok.uniq y hy, e])
    (thn (hi.run pins sA σ H _ IA hw) fun xv sB hx => thn hx fun itv sC hC => ?_)
  obtain ⟨it, fp, tn, J, HC, rfl, IC, T, stC, fC, q⟩ := hC
  refine newSet_ok (newEnv_comp ?_)
  generalize hD : sC.heap.objs.size = D
  have nD : HC D = none := IC.hok.fresh (Nat.le_of_eq hD)
  obtain ⟨Z, ⟨m0, z0⟩, turn⟩ := q D nD
  generalize hsD : ({ sC with heap := sC.heap.push (set0 X.w) } : Shared) = sD
  have ID : Inv X pins σ (upd HC D (ob D)) sD := by
    subst hsD
    refine IC.laid (t' := sC.toks) (fun b o e => Heap.get?_push_of_some _ e) (Nat.le_of_eq hD) ?_
    subst hD
    exact h0 _ sC.heap
  have hpD : sD.heap = sC.heap.push (set0 X.w) := by subst hsD; rfl
  have szI : ∀ b ∈ fp, b < sC.heap.objs.size := by
    intro b hb
    obtain ⟨o, e, _⟩ := T.obj _ _ stC b hb
    exact Heap.lt_size e
  have fD : ∀ b ∈ fp, FpOk X pins (upd HC D (ob D)) b ∧ b < sD.heap.objs.size := by
    intro b hb
    have hlt := szI b hb
    refine ⟨⟨?_, (fC b hb).2⟩, by rw [hpD, Heap.size_push]; exact Nat.lt_succ_of_lt hlt⟩
    rw [upd_ne (by subst hD; exact Nat.ne_of_lt hlt)]
    exact (fC b hb).1
  have stD : tn 0 sD.heap := T.keep _ _ _ stC fun b _ o e => by rw [hpD]; exact Heap.get?_push_of_some _ e
  have IE := block_start ID ok hN fD
  show codeAny _ _ (.compStart (.SetComp elt [⟨tg, iter, ifs, 0⟩] scope pos) 0 (.ref it) (.ref D) (compEnvC scope (cellsFrom (sD.heap.objs.size + 1) scope.names (cloFrom X.env.cells scope.names [])) sD.heap.objs.size X.env)) (compPost (model X.prog X.w) X.A X.xe use Qf (.ref D) sD.heap.objs.size) { sD with heap := pushCells (sD.heap.push { cls := .type "dict", data := .dict #[] }) scope.names }
  generalize hcl : cellsFrom (sD.heap.objs.size + 1) scope.names (cloFrom X.env.cells scope.names []) = cl at IE ⊢
  have pg := hg sD (upd HC D (ob D)) sD.heap.objs.size cl fp
  have pt := ht sD (upd HC D (ob D)) sD.heap.objs.size cl fp
  have pe := he sD (upd HC D (ob D)) sD.heap.objs.size cl fp
  have pa := hadd sD (upd HC D (ob D)) sD.heap.objs.size cl fp
  have nfp : ∀ b ∈ fp, (upd HC D (ob D)) b = none := fun b hb => (fD b hb).1.1
  generalize hce : compEnvC scope cl sD.heap.objs.size X.env = ce at IE pg pt pe pa ⊢
  have cL : ce.locals = sD.heap.objs.size := by subst hce; rfl
  generalize hHD : upd HC D (ob D) = HD at ID IE pg pt pe pa z0 nfp fD
  generalize hsE : ({ sD with heap := pushCells (sD.heap.push { cls := .type "dict", data := .dict #[] }) scope.names } : Shared) = sE at IE ⊢
  have stE : tn 0 sE.heap := T.keep _ _ _ stD fun b _ o e => by subst hsE; exact pushCells_keeps _ _ _ _ (Heap.get?_push_of_some _ e)
  have stat : ∀ {τ : L2.St} {HH : Hp} {t : Shared}, Inv (X.blk sD HD scope ce fp) [] τ HH t → (∀ b ∈ fp, HH b = none) → ∀ b ∈ fp, FpOk (X.blk sD HD scope ce fp) [] HH b := by
    intro τ HH t I' hn b hb
    exact ⟨hn b hb, (I'.ok.exf b hb).1, I'.ok.exfs b hb, .inl hb, fun x c e => (I'.ok.exf b hb).2 x c e, fun p hp => absurd (show p ∈ ([] : List (Addr × Obj)) ++ [] from hp) (by simp)⟩
  have loop : codeAny (model X.prog X.w) X.A (.compLoop (.SetComp elt [⟨tg, iter, ifs, 0⟩] scope pos) 0 (.ref it) (.ref D) ce) (compPost (model X.prog X.w) X.A X.xe use Qf (.ref D) sD.heap.objs.size) sE := by
    refine compLoopS_any (fun n t => ∃ i HH, Inv (X.blk sD HD scope ce fp) [] (wipe σ (own.map (·.2))) HH t ∧ tn i t.heap ∧ (∀ b ∈ fp, HH b = none) ∧ Z i n HH) ?_ m0 ⟨0, HD, IE, stE, nfp, z0⟩
    rintro n sF ⟨i, HF, IF, stF, nF, zF⟩
    cases turn i n HF zF with
    | inl ss =>
      have td := T.done (X.blk sD HD scope ce fp) rfl rfl rfl hc i [] sF _ HF (fun _ _ => False) IF (stat IF nF) stF ss.1
      refine thnF td fun r sG ⟨hr, IG⟩ => ?_
      subst hr
      have IX : Inv X pins σ HF sG := ID.call' (ch := fp) IG.os IG.base IG.hok IG.bare fun b hb => ⟨(fD b hb).1.2.2.2.1, (fD b hb).1.2.1, (fD b hb).1.2.2.2.2.1, (fD b hb).1.2.2.2.2.2⟩
      have nC : HF sD.heap.objs.size = none := by
        have z : HF ce.locals = none := IG.free
        rwa [cL] at z
      obtain ⟨m, hn, _⟩ := IG.loc
      have hn : sG.heap.Ns ce.locals m := hn
      rw [cL] at hn
      exact hEnd D sD.heap.objs.size sG m HF IX ss.2 hn (ID.fpOk (Nat.le_refl _) nC)
    | inr gg =>
      obtain ⟨go, Nx, hNx, step⟩ := gg
      have ti := T.item (X.blk sD HD scope ce fp) rfl rfl rfl hc i [] sF _ HF (fun _ _ => False) IF (stat IF nF) stF go
      refine thnF ti fun r sG ⟨u, hr, hG⟩ => ?_
      subst hr
      refine thnF hG fun _ sH ⟨x, HH, IH, rH, yH, stH, nH⟩ => ?_
      have IP := IH.pinned (stat IH nH) (T.obj _ _ stH)
      refine thnF (pg.run _ sH _ HH x u _ IP rH (step x HH yH)) fun _ sI ⟨σI, HI, II, wI, qI⟩ => ?_
      refine thnF (pt.run _ sI σI HI _ II qI) fun b sJ ⟨HJ, IJ, qJ⟩ => ?_
      have fin : ∀ {t : Shared} {H' : Hp}, Inv (X.blk sD HD scope ce fp) ([] ++ pinsAt fp sH.heap) σI H' t → Nx H' → ∃ m, m < n ∧ ∃ i H', Inv (X.blk sD HD scope ce fp) [] (wipe σ (own.map (·.2))) H' t ∧ tn i t.heap ∧ (∀ b ∈ fp, H' b = none) ∧ Z i m H' := by
        intro t H' I' nx
        obtain ⟨m', hm, z'⟩ := hNx H' nx
        have pin' : ∀ b ∈ fp, ∀ o, sH.heap.get? b = some o → t.heap.get? b = some o ∧ H' b = none := by
          intro b hb o e
          have z := I'.pin (b, o) (List.mem_append_right _ (List.mem_append_right _ (mem_pinsAt hb e)))
          exact ⟨z.1, z.2.1⟩
        have hl : (wipe σ (own.map (·.2))).length = σI.length := by rw [← wI, wipe_length]
        refine ⟨m', hm, i + 1, H', (I'.unpinned (pins := [])).weak hl (fun j v e => by rw [← wI] at e; exact (wipe_some e).1), T.keep _ _ _ stH fun b hb o e => (pin' b hb o e).1, fun b hb => ?_, z'⟩
        obtain ⟨o, e, _⟩ := T.obj _ _ stH b hb
        exact (pin' b hb o e).2
      cases b with
      | false =>
        simp only [Bool.false_eq_true, if_false] at qJ ⊢
        exact fin IJ qJ
      | true =>
        simp only [if_true] at qJ ⊢
        refine thnF (pe.run _ sJ σI HJ _ IJ qJ) fun z sK ⟨yv, HK, IK, rK, nx⟩ => ?_
        refine thnF (pa _ sK σI HK (.ref D) [yv] (.ref D) [z] _ IK rfl (.cons rK .nil) nx) fun z2 sL ⟨y2, HL, IL, _, q2⟩ => ?_
        exact fin IL q2
  exact codeAny_compStart_set loop (T.self X.A 0 _ _ _ stE loop)
theorem pe_scG {elt tg iter : Expr} {ifs : List Expr} {scope : Scope} {own : List (Str × Nat)} {pos : Pos} {wi : TI} {g : TG} {tt : TT} {te : TE} {ob : Addr → HO} {radd : V → List V → Hp → VK → Prop} (hc : X.calm = true) (hN : X.N.Nodup) (hi : PI X tg iter wi) (ok : BlkOk X.N X.env.scope scope own)
    (h0 : ∀ (H : Hp) (h : Heap), ObjOk X.prog X.w H (h.push (set0 X.w)) h.objs.size (ob h.objs.size))
    (hadd : ∀ (s : Shared) (H : Hp) (C : Addr) (cl : List (Str × Addr)) (fp : List Addr), MtR (X.blk s H scope (compEnvC scope cl C X.env) fp) "set.add" radd)
    (hg : ∀ (s : Shared) (H : Hp) (C : Addr) (cl : List (Str × Addr)) (fp : List Addr), PG (X.blk s H scope (compEnvC scope cl C X.env) fp) tg g) (ht : ∀ (s : Shared) (H : Hp) (C : Addr) (cl : List (Str × Addr)) (fp : List Addr), PTs (X.blk s H scope (compEnvC scope cl C X.env) fp) ifs tt)
    (he : ∀ (s : Shared) (H : Hp) (C : Addr) (cl : List (Str × Addr)) (fp : List Addr), PE (X.blk s H scope (compEnvC scope cl C X.env) fp) elt te) (hs : ∀ x, foldedSetIterable iter X.env x = pure x := by intro _; rfl) :
    PE X (.SetComp elt [⟨tg, iter, ifs, 0⟩] scope pos) (tScG ob radd wi g tt te (own.map (·.2))) := by
  constructor
  intro pins s σ H Q I h
  rw [eval_SetComp]
  refine scG_core hc hN I hi ok h0 hadd hg ht he hs h fun D C t m HH IX q hn f => ⟨m, hn, fun h'' sb => ?_⟩
  obtain ⟨f0, f1, _, f3, f4, f5⟩ := f
  exact ⟨.ref D, HH, IX.turned (t' := t.toks) (fun b o hb e => (sb.2 b hb).trans e) f0 f1 f3 f4 f5, rfl, q⟩
end
end MP

set_option maxRecDepth 100000
namespace MP
open PySem PySem.Spec PyProof.Rows L2
open PySem.W (EachIs AllAlike Sortable dataLe alike)
section
variable {X : Cx}
/-- found.add(t), t a tuple of ints, found a set of such -/
def rSAddT (K : PySem.W.Frag) (P : Program) (w : World) : V → List V → Hp → VK → Prop := fun x xs H Q => ∃ (a t : Addr) (k : List Int) (L : List (Addr × List Int)), x = V.ref a ∧ xs = [V.ref t] ∧ SqT K H t (k.map V.int) ∧ H a = some (SetTO P w a L) ∧ (∀ p ∈ L, SqT K H p.1 (p.2.map V.int)) ∧ L.length + 1 < 64 ∧
  ∀ L', (k ∈ L.map (·.2) → L' = L) → (k ∉ L.map (·.2) → L'.Perm ((t, k) :: L)) → Q .non (upd H a (SetTO P w a L'))
theorem mt_saddT (hu : X.A.units + 64 < cLine) : MtR X "set.add" (rSAddT X.K X.prog X.w) := by
  intro pins s σ H x xs v us Q I rx rxs h
  obtain ⟨a, t, k, L, rfl, rfl, ht, ha, hL, few, q⟩ := h
  cases rx
  cases rxs with
  | cons ry rt =>
    cases rt
    cases ry
    have R0 : SetT0 X.prog X.w s.heap a L := (I.hok a _ ha).1
    obtain ⟨es, ep, tb, R⟩ := R0.full fun p hp => I.isT (hL p hp)
    have hx : IsT X.prog X.w s.heap k t := I.isT ht
    obtain ⟨o, ho, hex, hd⟩ := R.ob
    have hty : s.TypeIs (.ref a) "set" := ⟨o, ho, hex.1⟩
    refine wpAny_call_entry F.slot_set_add hty F.entry_set_add ?_ (F.args_set_add_2 _ _)
    unfold Builtin.«set.add» Builtin.Frozenset.oneOther
    simp only [List.isEmpty_nil, bind_assoc]
    unfold Builtin.Frozenset.addrOf setAdd
    refine wpAny_bind (wpAny_pure ?_)
    try dsimp only
    refine wpAny_bind (wpAny_pure ?_)
    try dsimp only
    refine wpAny_bind (wpAny_holding (wpAny_bind (wpAny_pyHash_tuple (by simp [Around.in1]; omega) hx ?_)))
    refine add_at (s := { s with toks := s.toks + (k.length + 1) }) R hx (by simp [Around.in1]; omega) few fun b h' L' es' ep' t' hsb hS c1 c2 => ?_
    show wpAny _ _ (ret Value.none) _ _ _
    refine wpAny_pure ⟨_, rfl, ?_⟩
    have he : ∃ u, h'.get? a = some u := by
      obtain ⟨o2, ho2, _⟩ := hS.ob
      exact ⟨o2, ho2⟩
    exact ⟨.non, upd H a (SetTO X.prog X.w a L'), I.write (e := a) (t' := s.toks + (k.length + 1)) (by rw [ha]; trivial) (.inl rfl) (fun b u hb hu => (hsb.2 b hb).trans hu) he (setTO_new hS.t0), rfl, q L' c1 c2⟩
theorem setT_new (H : Hp) (h : Heap) : ObjOk X.prog X.w H (h.push (set0 X.w)) h.objs.size (SetTO X.prog X.w h.objs.size []) := setTO_new (setTR_fresh (Heap.get?_push_size _ rfl)).t0
theorem setI_new (H : Hp) (h : Heap) : ObjOk X.prog X.w H (h.push (set0 X.w)) h.objs.size (SetO X.w h.objs.size (fun _ => false) 0) := setO_new (setR_fresh X.w)
/-- the data of a tuple of ints -/
def tD (k : List Int) : PyData := .tuple (k.map .int)
def sortT (L : List (Addr × List Int)) : List (Addr × List Int) := L.mergeSort (dataLe false fun p => tD p.2)
theorem all_alike {α : Type} {l : List α} {f : α → List Int} : AllAlike (l.map fun p => tD (f p)) := by
  intro d hd d' hd'
  obtain ⟨p, _, rfl⟩ := List.mem_map.mp hd
  obtain ⟨p', _, rfl⟩ := List.mem_map.mp hd'
  simp [tD, PySem.W.alike, PySem.W.alike_ints]
theorem tD_depth (k : List Int) : (tD k).depth = 1 := by simp [tD, PyData.depth, PySem.W.depth_ints]
theorem isT_reads {P : Program} {w : World} {h : Heap} {k : List Int} {b : Addr} (x : IsT P w h k b) : ∃ as, Reads h (.ref b) (tD k) as := by
  obtain ⟨o, its, n, ho, hc, hd, hi⟩ := x
  have g : ∀ {vs : List Value} {k : List Int}, IntsAre vs k → ReadsAll h vs (k.map PyData.int) [] := by
    intro vs k hv
    induction hv with
    | nil => exact .nil
    | cons n t _ ih => exact .cons (.int n t) ih
  exact ⟨[], .tuple ho hc hd (g (ints_of_items hi))⟩
def rSortSetT (K : PySem.W.Frag) (P : Program) (w : World) : List V → Hp → VK → Prop := fun vs H Q => ∃ (a : Addr) (L : List (Addr × List Int)), vs = [V.ref a] ∧ H a = some (SetTO P w a L) ∧ (∀ p ∈ L, SqT K H p.1 (p.2.map V.int)) ∧ (∀ p ∈ L, p.2 ≠ []) ∧
  ∀ (L' : List (Addr × List Int)) (p : Addr), L'.Perm L → (L.map (·.2)).Nodup → H p = none → Q (.ref p) (upd H p (.lst ((sortT L').map fun q => V.ref q.1)))
theorem cr_sortSetT (hc : X.calm = true) (hu : X.A.units + 80 < cLine) : CallR X (.builtin "sorted") (rSortSetT X.K X.prog X.w) := by
  intro pins s σ H vs us Q I r h
  obtain ⟨a, L, rfl, ha, hk, hne, q⟩ := h
  have R0 : SetT0 X.prog X.w s.heap a L := (I.hok a _ ha).1
  obtain ⟨es, ep, t, R⟩ := R0.full fun p hp => I.isT (hk p hp)
  rw [Vals.ref1 r]
  obtain ⟨o, ho, hex, hd⟩ := R.ob
  have hsz := R.size
  have few := R.few
  refine sorted_core (β := Addr × List Int) (enc := fun p => tD p.2) (R := fun v p => v = Value.ref p.1) ?_
  refine collect_set (A := X.A.in1) (by simp [Around.in1]; exact I.ok.hd hc) ⟨o, ho, hex.1, hd⟩ R.fits (by unfold scanBound; omega) R.tab.ris R.led fun s1 out k1 hz g1 o1 pm => ?_
  have hes : es.toList.map (·.2) = L.map fun p => Value.ref p.1 := by
    rw [R.rows]; unfold rowsOf; rw [List.map_map]; rfl
  rw [hes] at pm
  -- some order of the rows
  have back : ∀ (vs : List Value) (L : List (Addr × List Int)), vs.Perm (L.map fun p => Value.ref p.1) → ∃ L1 : List (Addr × List Int), L1.Perm L ∧ vs = L1.map fun p => Value.ref p.1 := by
    intro vs
    induction vs with
    | nil => intro L p; have := p.length_eq; simp at this; exact ⟨[], by rw [List.eq_nil_of_length_eq_zero this.symm], rfl⟩
    | cons v vs ih =>
      intro L p
      have hv : v ∈ L.map fun p => Value.ref p.1 := p.subset List.mem_cons_self
      obtain ⟨x, hx, rfl⟩ := List.mem_map.mp hv
      obtain ⟨A1, A2, rfl⟩ := List.append_of_mem hx
      have p2 : (Value.ref x.1 :: vs).Perm (Value.ref x.1 :: (A1 ++ A2).map fun p => Value.ref p.1) := by
        refine p.trans ?_
        rw [List.map_append, List.map_cons, List.map_append]
        exact List.perm_middle
      obtain ⟨L1, h1, rfl⟩ := ih (A1 ++ A2) ((List.perm_cons _).mp p2)
      exact ⟨x :: L1, (h1.cons x).trans List.perm_middle.symm, rfl⟩
  obtain ⟨L1, pL, rfl⟩ := back out L pm
  have tk : ∀ p ∈ L1, IsT X.prog X.w s1.heap p.2 p.1 := fun p hp => isT_keep (R.tup p (pL.subset hp)) fun b u e => k1 b u e
  have each : ∀ {RR : Value → Addr × List Int → Prop} {l : List (Addr × List Int)}, (∀ p ∈ l, RR (.ref p.1) p) → EachIs RR (l.map fun p => Value.ref p.1) l := by
    intro RR l
    induction l with
    | nil => intro _; exact .nil
    | cons x l ih => intro h; exact .cons (h x (by simp)) (ih fun p hp => h p (List.mem_cons_of_mem _ hp))
  refine ⟨L1, each fun _ _ => rfl, each fun p hp => isT_reads (tk p hp), all_alike, .inl fun d hd => ?_, by rw [pL.length_eq, sizeLine_eq]; omega, fun p _ => by rw [tD_depth]; omega, fun h2 p out c k2 hp2 hat hl eo => ?_⟩
  · obtain ⟨p, hp, rfl⟩ := List.mem_map.mp hd
    have := hne p (pL.subset hp)
    cases e : p.2 with
    | nil => exact absurd e this
    | cons y ys => exact ⟨.int y, ys.map .int, by simp [tD]⟩
  · have hs1 : s1 = { s with heap := s1.heap, gens := s1.gens, drawn := s1.drawn, toks := s1.toks } := by
      cases s1; cases s; cases o1; rfl
    have hout : out = (sortT L1).map fun p => Value.ref p.1 := by
      have g : ∀ {vs : List Value} {l : List (Addr × List Int)}, EachIs (fun v p => v = Value.ref p.1) vs l → vs = l.map fun p => Value.ref p.1 := by
        intro vs l e
        induction e with
        | nil => rfl
        | cons h _ ih => rw [h, ih]; rfl
      exact g eo
    subst hout
    have hn : H p = none := I.hok.fresh (Nat.le_trans hz hp2)
    have hlen : ((sortT L1).map fun q => V.ref q.1).length ≤ sizeLine := by rw [List.length_map, sizeLine_eq]; rw [List.length_map] at hl; have := pL.length_eq; omega
    have keep : ∀ b u, s.heap.get? b = some u → h2.get? b = some u := fun b u e => k2 b u (k1 b u e)
    have J : Inv X pins σ (upd H p (.lst ((sortT L1).map fun q => V.ref q.1))) { s with heap := h2, gens := s1.gens, drawn := s1.drawn, toks := s1.toks } :=
      I.call (ch := []) (Un.laid keep (Nat.le_trans hz hp2) hn) (I.hok.laid keep (Nat.le_trans hz hp2) ⟨hlen, _, c, vals_of_refs (sortT L1), hat⟩) (by rw [g1]; exact I.bare) (fun _ z => nomatch z)
    rw [hs1]
    exact ⟨.ref p, _, J, rfl, q L1 p pL R.nd hn⟩
end
end MP

set_option maxRecDepth 100000
namespace MP
open PySem PySem.Spec PyProof.Rows L2
section
variable {P : Program} {w : World} {A : Around} {E : Value → Shared → Prop} {s : Shared}
end
end MP

set_option maxRecDepth 100000
namespace MP
open PySem PySem.Spec PyProof.Rows L2
open PySem.W (EachIs AllAlike Sortable dataLe alike keyToks keyToksAll)
/-! ### the order of lists of ints -/
def llt : List Int → List Int → Bool
  | [], [] => false
  | [], _ :: _ => true
  | _ :: _, [] => false
  | x :: xs, y :: ys => decide (x < y) || (decide (x = y) && llt xs ys)
theorem toks_ints : ∀ (xs ys : List Int), PyProof.Rows.lexLt itemOrd (keyToksAll (xs.map .int)) (keyToksAll (ys.map .int)) = llt xs ys
  | [], [] => by simp [keyToksAll, llt, PyProof.Rows.lexLt, itemOrd, itemLt]
  | [], y :: ys => by simp [keyToksAll, llt, PyProof.Rows.lexLt, itemOrd, itemLt]
  | x :: xs, [] => by simp [keyToksAll, llt, PyProof.Rows.lexLt, itemOrd, itemLt]
  | x :: xs, y :: ys => by
    have ih := toks_ints xs ys
    simp only [List.map_cons, keyToksAll, keyToks, List.cons_append, List.nil_append]
    rw [PyProof.Rows.lex_self, PyProof.Rows.lex_cons, ih]
    show (itemLt (.inl x) (.inl y) || (!itemLt (.inl y) (.inl x) && llt xs ys)) = _
    simp only [itemLt, llt]
    by_cases h1 : x < y
    · simp [h1]
    · by_cases h2 : y < x
      · simp [h1, h2]; omega
      · have : x = y := by omega
        simp [this]
theorem tD_le (a b : List Int) : (PyProof.Rows.lexLt itemOrd (keyToks (tD b)) (keyToks (tD a))) = llt b a := by
  have e := toks_ints b a
  rw [← PySem.W.dataLt_tuple] at e
  exact e
theorem dataLe_tD {α : Type} (f : α → List Int) : dataLe false (fun p => tD (f p)) = fun a b => !llt (f b) (f a) := by
  funext a b
  rw [← tD_le]
  rfl
theorem llt_irrefl : ∀ a, llt a a = false
  | [] => rfl
  | x :: xs => by simp [llt, llt_irrefl xs]
theorem llt_trans : ∀ a b c, llt a b = true → llt b c = true → llt a c = true
  | [], [], c, h, _ => by simp [llt] at h
  | [], _ :: _, [], _, h => by simp [llt] at h
  | [], _ :: _, _ :: _, _, _ => rfl
  | _ :: _, [], _, h, _ => by simp [llt] at h
  | x :: a, y :: b, [], _, h => by simp [llt] at h
  | x :: a, y :: b, z :: c, h1, h2 => by
    simp only [llt, Bool.or_eq_true, Bool.and_eq_true, decide_eq_true_eq] at h1 h2 ⊢
    rcases h1 with h1 | ⟨rfl, h1⟩ <;> rcases h2 with h2 | ⟨rfl, h2⟩
    · left; omega
    · left; exact h1
    · left; exact h2
    · right; exact ⟨rfl, llt_trans a b c h1 h2⟩
theorem llt_total : ∀ a b, llt a b = false → llt b a = false → a = b
  | [], [], _, _ => rfl
  | [], _ :: _, h, _ => by simp [llt] at h
  | _ :: _, [], _, h => by simp [llt] at h
  | x :: a, y :: b, h1, h2 => by
    simp only [llt, Bool.or_eq_false_iff, Bool.and_eq_false_iff, decide_eq_false_iff_not] at h1 h2
    have e : x = y := by omega
    subst e
    rw [llt_total a b (h1.2.resolve_left (by simp)) (h2.2.resolve_left (by simp))]
def lle (a b : List Int) : Bool := !llt b a
theorem lle_trans (a b c : List Int) (h1 : lle a b = true) (h2 : lle b c = true) : lle a c = true := by
  simp only [lle, Bool.not_eq_true'] at *
  cases h : llt c a with
  | false => rfl
  | true =>
    by_cases e : llt b c = true
    · have := llt_trans b c a e h; rw [this] at h1; cases h1
    · have e : llt b c = false := by simpa using e
      have := llt_total b c e h2
      subst this
      rw [h] at h1; cases h1
theorem lle_total (a b : List Int) : (lle a b || lle b a) = true := by
  simp only [lle]
  cases h : llt b a with
  | false => rfl
  | true =>
    cases h2 : llt a b with
    | false => rfl
    | true => have := llt_trans _ _ _ h h2; rw [llt_irrefl] at this; cases this
theorem lle_antisymm {a b : List Int} (h1 : lle a b = true) (h2 : lle b a = true) : a = b := by
  simp only [lle, Bool.not_eq_true'] at *
  exact llt_total a b h2 h1
/-- lists of ints in ascending order -/
def sortL (ks : List (List Int)) : List (List Int) := ks.mergeSort lle
theorem sortL_perm (ks : List (List Int)) : (sortL ks).Perm ks := List.mergeSort_perm _ _
theorem sortL_sorted (ks : List (List Int)) : (sortL ks).Pairwise fun a b => lle a b = true := List.pairwise_mergeSort lle_trans lle_total ks
theorem sortL_uniq : ∀ {l m : List (List Int)}, l.Perm m → l.Pairwise (fun a b => lle a b = true) → m.Pairwise (fun a b => lle a b = true) → l = m
  | [], m, p, _, _ => (List.Perm.eq_nil p.symm).symm
  | x :: l, [], p, _, _ => absurd p.length_eq (by simp)
  | x :: l, y :: m, p, hl, hm => by
    have h1 := List.pairwise_cons.mp hl
    have h2 := List.pairwise_cons.mp hm
    have e : x = y := by
      rcases List.mem_cons.mp (p.subset List.mem_cons_self) with e | hx
      · exact e
      · rcases List.mem_cons.mp (p.symm.subset List.mem_cons_self) with e | hy
        · exact e.symm
        · exact lle_antisymm (h1.1 y hy) (h2.1 x hx)
    subst e
    rw [sortL_uniq (List.perm_cons x |>.mp p) h1.2 h2.2]
theorem sortL_eq {l m : List (List Int)} (p : l.Perm m) : sortL l = sortL m := sortL_uniq ((sortL_perm l).trans (p.trans (sortL_perm m).symm)) (sortL_sorted l) (sortL_sorted m)
theorem sortT_snd (L : List (Addr × List Int)) : (sortT L).map (·.2) = sortL (L.map (·.2)) := by
  unfold sortT sortL
  rw [dataLe_tD]
  exact PySem.W.sort_maps (s := lle) (fun p : Addr × List Int => p.2) fun _ _ _ _ => rfl
/-! ### each once -/
def dd {α : Type} [DecidableEq α] : List α → List α
  | [] => []
  | x :: xs => x :: (dd xs).filter fun y => decide (y ≠ x)
section
variable {α : Type} [DecidableEq α]
theorem mem_dd {x : α} : ∀ {l : List α}, x ∈ dd l ↔ x ∈ l
  | [] => Iff.rfl
  | y :: l => by
    simp only [dd, List.mem_cons, List.mem_filter, mem_dd (l := l), decide_eq_true_eq]
    constructor
    · rintro (h | h)
      · exact .inl h
      · exact .inr h.1
    · rintro (h | h)
      · exact .inl h
      · by_cases e : x = y
        · exact .inl e
        · exact .inr ⟨h, e⟩
theorem nodup_dd : ∀ (l : List α), (dd l).Nodup
  | [] => List.nodup_nil
  | y :: l => by
    simp only [dd, List.nodup_cons]
    exact ⟨fun h => by simpa using (List.mem_filter.mp h).2, (nodup_dd l).sublist List.filter_sublist⟩
theorem dd_len : ∀ (l : List α), (dd l).length ≤ l.length
  | [] => Nat.le_refl _
  | y :: l => by
    simp only [dd, List.length_cons]
    have := List.length_filter_le (fun z => decide (z ≠ y)) (dd l)
    have := dd_len l
    omega
theorem perm_of_mem {l m : List α} (h1 : l.Nodup) (h2 : m.Nodup) (h : ∀ x, x ∈ l ↔ x ∈ m) : l.Perm m := (List.perm_ext_iff_of_nodup h1 h2).mpr h
end
/-! ### sorted(set(x)), len(set(x)), sorted({..}) -/
def tsP : List PV → Option (List (List Int))
  | [] => some []
  | .tup xs :: r => match intsP xs, tsP r with | some k, some ks => some (k :: ks) | _, _ => none
  | _ => none
abbrev tupP (k : List Int) : PV := .tup (k.map PV.int)
def oSSl (xs : List PV) (S : Ms) : Out PV := match intsP xs with
  | some ns => if ns.length < 60 then .ret (.loc S.length) (S ++ [.lst ((sortI (dd ns)).map PV.int)]) else .fail
  | none => (match tsP xs with
    | some ks => if ks.length < 60 ∧ ∀ k ∈ ks, k ≠ [] then .ret (.loc S.length) (S ++ [.lst ((sortL (dd ks)).map tupP)]) else .fail
    | none => .fail)
theorem ts_ok {xs : List PV} {ks : List (List Int)} (h : tsP xs = some ks) : xs = ks.map tupP := by
  induction xs generalizing ks with
  | nil => cases h; rfl
  | cons x xs ih =>
    cases x with
    | tup ys =>
      simp only [tsP] at h
      split at h
      · rename_i k ks' e1 e2
        cases h
        rw [ih e2, ints_ok e1]; rfl
      · cases h
    | _ => cases h
section
variable {X : Cx} {W : WX} {K : PySem.W.Frag} {mg : Str → Option Value} {H H' : Hp} {ρ ρ' : List Addr} {S : Ms}
theorem soft_ext {f : Heap → Prop} : Soft (.ext f) := ⟨(fun _ h => by cases h), (fun _ _ h => by cases h)⟩
theorem vrs_refs : ∀ {ps : List (Addr × List Int)}, (∀ p ∈ ps, H p.1 = some (.tup (p.2.map V.int))) → VRs K H ρ (ps.map fun p => tupP p.2) (ps.map fun p => V.ref p.1)
  | [], _ => .nil
  | p :: ps, h => .cons (.tup (h p (by simp)) (.ints _)) (vrs_refs fun q hq => h q (List.mem_cons_of_mem _ hq))
/-- sorted of a set of ints: all that the walk wants -/
theorem sortI_out {σ : L2.St} {Q : VK} {ns : List Int} {a : Addr} {c : Nat} (R : HR X.K X.mg ρ S H) (ha : H a = some (SetO X.w a (fun j => decide (j ∈ ns)) c)) (hc : c < 64)
    (h : Post X.K X.mg ρ H σ W Q (.ret (.loc S.length) (S ++ [.lst ((sortI (dd ns)).map PV.int)]))) : rSortedSet X.w [.ref a] H Q := by
  refine ⟨a, _, c, rfl, ha, hc, fun ms p hp hm hl hn => ?_⟩
  have e : ms = sortI (dd ns) := by
    refine sorted_uniq ?_ (hp.imp fun h => Int.le_of_lt h) (sortI_sorted _)
    refine (perm_of_mem (hp.imp fun h => by omega) (nodup_dd ns) fun x => ?_).trans (sortI_perm _).symm
    rw [hm, mem_dd, decide_eq_true_eq]
  subst e
  exact new_list R (VRs.ints _) h hn
/-- sorted of a set of tuples -/
theorem sortT_out {σ : L2.St} {Q : VK} {ks : List (List Int)} {a : Addr} {L : List (Addr × List Int)} (R : HR X.K X.mg ρ S H) (ha : H a = some (SetTO X.prog X.w a L)) (hL : ∀ p ∈ L, H p.1 = some (.tup (p.2.map V.int))) (hm : ∀ k, k ∈ L.map (·.2) ↔ k ∈ ks) (hne : ∀ k ∈ ks, k ≠ [])
    (h : Post X.K X.mg ρ H σ W Q (.ret (.loc S.length) (S ++ [.lst ((sortL (dd ks)).map tupP)]))) : rSortSetT X.K X.prog X.w [.ref a] H Q := by
  refine ⟨a, L, rfl, ha, fun p hp => .of (hL p hp), fun p hp => hne _ ((hm _).mp (List.mem_map.mpr ⟨p, hp, rfl⟩)), fun L' p pm nd hn => ?_⟩
  have e : (sortT L').map (·.2) = sortL (dd ks) := by
    rw [sortT_snd]
    refine sortL_eq (perm_of_mem ((pm.map (·.2)).nodup_iff.mpr nd) (nodup_dd ks) fun k => ?_)
    rw [mem_dd, ← hm, (pm.map (·.2)).mem_iff]
  have hs : ∀ p ∈ sortT L', H p.1 = some (.tup (p.2.map V.int)) := fun p hp => hL p (pm.subset ((List.mergeSort_perm _ _).subset hp))
  have r : VRs X.K H ρ ((sortL (dd ks)).map tupP) ((sortT L').map fun q => V.ref q.1) := by
    rw [← e, List.map_map]; exact vrs_refs hs
  exact new_list R r h hn
variable {a e : Expr} {m : ME} {p1 p2 p3 p4 : Pos}
end
end MP

set_option maxRecDepth 100000
namespace MP
open PySem PySem.Spec PyProof.Rows L2
section
variable {X : Cx} {W : WX} {H H' : Hp} {ρ ρ' : List Addr} {S : Ms} {a e : Expr} {m : ME} {p1 p2 p3 p4 pos : Pos}
def rLenT (K : PySem.W.Frag) (P : Program) (w : World) : List V → Hp → VK → Prop := fun xs H Q => ∃ (a : Addr) (L : List (Addr × List Int)), xs = [V.ref a] ∧ H a = some (SetTO P w a L) ∧ (∀ p ∈ L, SqT K H p.1 (p.2.map V.int)) ∧ ((L.map (·.2)).Nodup → Q (.int L.length) H)
/-! ### sorted({e for x in it if ..}) -/
open Classical in
/-- the turns: u i is the unseen object after i items -/
noncomputable def scM (u : Nat → HO) (src : Src) (g : MG) (tt : MB) (m : ME) (vs : List Nat) (l : Nat) (env : Env') : Nat → Nat → List PV → Ms → Out (List PV)
  | 0, _, _, _ => .fail
  | f + 1, i, acc, S => match nxt S i src with
    | .stop => .ret acc S
    | .bad => .fail
    | .yld v => (match g v (wipeE env vs) with
      | none => .fail
      | some env1 => (match tt env1 S with
        | .ret false S1 => if S1[l]? = some (.xo (u acc.length)) then scM u src g tt m vs l env f (i + 1) acc S1 else .fail
        | .ret true S1 => (match m env1 S1 with
          | .ret y S2 => if S2[l]? = some (.xo (u acc.length)) then scM u src g tt m vs l env f (i + 1) (acc ++ [y]) (S2.set l (.xo (u (acc.length + 1)))) else .fail
          | _ => .fail)
        | _ => .fail))
open Classical in
/-- the items, whatever the unseen object is; nothing that stood is written -/
noncomputable def mSSc (mi : MI) (g : MG) (tt : MB) (m : ME) (vs : List Nat) : ME := fun env S => match mi env S with
  | .ret src S1 => if h : ∃ xs : List PV, ∀ u : Nat → HO, ∃ Sx : Ms, scM u src g tt m vs S1.length env fuel 0 [] (S1 ++ [.xo (u 0)]) = .ret xs Sx ∧ ∀ n, n < S1.length → Sx[n]? = S1[n]? then oSSl h.choose S1 else .fail
  | .exc x S1 => .exc x S1
  | .fail => .fail
end
theorem lt_of_getS {S : Ms} {n : Nat} {o : Ob} (h : S[n]? = some o) : n < S.length := (List.getElem?_eq_some_iff.mp h).1
theorem get_newS (S : Ms) (o : Ob) : (S ++ [o])[S.length]? = some o := by simp
/-! what new objects were made is forgotten -/
section
variable {K : PySem.W.Frag} {mg : Str → Option Value} {H H1 : Hp} {ρ ρ1 : List Addr}
mutual
theorem VR.cut (g : Grow ρ1 ρ) : ∀ {x : PV} {v v1 : V}, VR K H ρ x v → VR K H1 ρ1 x v1 → VR K H ρ1 x v
  | _, _, _, .non, _ => .non
  | _, _, _, .bl b, _ => .bl b
  | _, _, _, .int b, _ => .int b
  | _, _, _, .str b, _ => .str b
  | _, _, _, .loc h, .loc h1 => .loc (by rw [g _ _ h1] at h; rw [← h]; exact h1)
  | _, _, _, .tup a h, .tup _ h1 => .tup a (VRs.cut g h h1)
  | _, _, _, .rol a h, .rol _ h1 => .rol a (VRs.cut g h h1)
theorem VRs.cut (g : Grow ρ1 ρ) : ∀ {x : List PV} {v v1 : List V}, VRs K H ρ x v → VRs K H1 ρ1 x v1 → VRs K H ρ1 x v
  | _, _, _, .nil, _ => .nil
  | _, _, _, .cons h t, .cons h1 t1 => .cons (VR.cut g h h1) (VRs.cut g t t1)
end
theorem KVR.cut {κ : Type} (g : Grow ρ1 ρ) : ∀ {xs : List (κ × PV)} {ys zs : List (κ × V)}, KVR K H ρ xs ys → KVR K H1 ρ1 xs zs → KVR K H ρ1 xs ys
  | _, _, _, .nil, _ => .nil
  | _, _, _, .cons h t, .cons h1 t1 => .cons ⟨h.1, h.2.cut g h1.2⟩ (KVR.cut g t t1)
theorem OR.cut (g : Grow ρ1 ρ) {o : Ob} {u u1 : HO} (h : OR K mg H ρ o u) (h1 : OR K mg H1 ρ1 o u1) : OR K mg H ρ1 o u := by
  induction h generalizing u1 with
  | lst h => cases h1 with | lst h1 => exact .lst (h.cut g h1)
  | dK h => cases h1 with | dK h1 => exact .dK (h.cut g h1)
  | dT h => cases h1 with | dT h1 => exact .dT (h.cut g h1)
  | exn c q d h => cases h1 with
    | exn _ _ _ h1 => exact .exn c q d (h.cut g h1)
    | exn0 _ _ => cases h with | nil => exact .exn c q d .nil
  | exn0 c q => exact .exn0 c q
  | lk h ih => cases h1 with | lk h1 => exact .lk (ih h1)
  | ftp h => exact .ftp h
  | xo h => exact .xo h
  | dead h => exact .dead h
theorem HR.cut {S1 S : Ms} (R1 : HR K mg ρ1 S1 H1) (R : HR K mg ρ S H) (g : Grow ρ1 ρ) (hS : ∀ n, n < S1.length → S[n]? = S1[n]?) : HR K mg ρ1 S1 H :=
  ⟨R1.len, R1.nd, fun n o e => by
    obtain ⟨a, ho, h1, h2, h3⟩ := R1.at_ n o e
    obtain ⟨a', ho', q1, q2, q3⟩ := R.at_ n o (by rw [hS n (lt_of_getS e)]; exact e)
    have : a' = a := by have := g n a h1; rw [q1] at this; exact Option.some.inj this
    subst this
    exact ⟨a', ho', h1, q2, q3.cut g h3⟩⟩
end
section
variable {X : Cx} {W : WX} {H H' : Hp} {ρ ρ' : List Addr} {S : Ms} {a e : Expr} {m : ME} {t : MB} {p1 p2 p3 p4 pos : Pos}
/-- the kind of a set: how the object at D stands for the items so far -/
structure SetKd (X : Cx) (xs : List PV) (ob : Addr → HO) (radd : V → List V → Hp → VK → Prop) where
  st : Addr → Hp → List PV → HO → Prop
  st0 : ∀ D H, st D H [] (ob D)
  soft : ∀ {D H acc u}, st D H acc u → Soft u
  mono : ∀ {D H H' acc u}, Ext H H' → st D H acc u → st D H' acc u
  add : ∀ {D H ρ acc y y' u} {Nx : Hp → Prop}, st D H acc u → (∃ rest, xs = (acc ++ [y]) ++ rest) → VR X.K H ρ y y' → H D = some u → (∀ u', st D H (acc ++ [y]) u' → Nx (upd H D u')) → radd (.ref D) [y'] H (fun _ H5 => Nx H5)
theorem sc_ok {ti : TI} {mi : MI} {g : MG} {sl vs : List Nat} {xs : List PV} {ob : Addr → HO} {radd : V → List V → Hp → VK → Prop} (kd : SetKd X xs ob radd) (hsl : ∀ i ∈ sl, i ∈ vs)
    {src : Src} {S1 : Ms} {H1 : Hp} {ρ1 : List Addr} {env : Env'} {σ : L2.St} {J : It} (R1 : HR X.K X.mg ρ1 S1 H1) (er1 : ER X.K H1 ρ1 env σ) (hJ : JR X ρ1 H1 src J)
    (hrun : ∀ u : Nat → HO, ∃ Sx : Ms, scM u src g t m vs S1.length env fuel 0 [] (S1 ++ [.xo (u 0)]) = .ret xs Sx ∧ ∀ n, n < S1.length → Sx[n]? = S1[n]?) {D : Addr} (hD : H1 D = none) {QD : Hp → Prop}
    (hQ : ∀ H u, Ext H1 H → HR X.K X.mg ρ1 S1 H → H D = some u → kd.st D H xs u → QD H) :
    ∃ Z : Nat → Nat → Hp → Prop, (∃ m, Z 0 m (upd H1 D (ob D))) ∧ ∀ i m' H, Z i m' H →
      (J.stop i H ∧ QD H) ∨ (J.go i H ∧ ∃ Nx : Hp → Prop, (∀ H', Nx H' → ∃ m'', m'' < m' ∧ Z (i + 1) m'' H') ∧ ∀ x H', J.yld i H x H' → tGt X.K X.mg g sl x (wipe σ vs) H' fun σ2 H2 => wipe σ2 vs = wipe σ vs ∧ tBo X.K X.mg W0 t σ2 H2 fun b H3 =>
        if b = true then tE X.K X.mg W0 m σ2 H3 fun y H4 => radd (.ref D) [y] H4 (fun _ H5 => Nx H5) else Nx H3) := by
  have gD : Grow ρ1 (ρ1 ++ [D]) := .snoc _ _
  have eD : Ext H1 (upd H1 D (ob D)) := .new hD
  have lD : (ρ1 ++ [D])[S1.length]? = some D := by rw [← R1.len]; simp
  have s0 := kd.st0 D (upd H1 D (ob D))
  -- how it stands after i turns
  let Z : Nat → Nat → Hp → Prop := fun i f H => ∃ (ρ2 : List Addr) (S2 : Ms) (acc : List PV) (hist : Nat → HO), Grow (ρ1 ++ [D]) ρ2 ∧ Ext H1 H ∧ HR X.K X.mg ρ2 S2 H ∧ kd.st D H acc (hist acc.length) ∧ (∃ rest, xs = acc ++ rest) ∧ S2[S1.length]? = some (.xo (hist acc.length)) ∧
    ∀ u : Nat → HO, (∀ j, j ≤ acc.length → u j = hist j) → ∃ Sx : Ms, scM u src g t m vs S1.length env f i acc S2 = .ret xs Sx ∧ ∀ n, n < S1.length → Sx[n]? = S1[n]?
  have at_ : ∀ {ρ2 : List Addr} {S2 : Ms} {H2 : Hp} {u : HO}, Grow (ρ1 ++ [D]) ρ2 → HR X.K X.mg ρ2 S2 H2 → S2[S1.length]? = some (.xo u) → H2 D = some u := fun g2 R2 e => by
    obtain ⟨ho, h1, h2⟩ := R2.get (g2 _ _ lD) e
    cases h2
    exact h1
  have accx : ∀ (f i : Nat) (acc : List PV) (S2 Sx : Ms) (u : Nat → HO), scM u src g t m vs S1.length env f i acc S2 = .ret xs Sx → ∃ rest, xs = acc ++ rest := by
    intro f
    induction f with
    | zero => intro i acc S2 Sx u h; cases h
    | succ f ih =>
      intro i acc S2 Sx u h
      unfold scM at h
      split at h
      · cases h; exact ⟨[], by simp⟩
      · cases h
      · split at h
        · cases h
        · split at h
          · split at h
            · exact ih _ _ _ _ _ h
            · cases h
          · split at h
            · split at h
              · obtain ⟨rest, e⟩ := ih _ _ _ _ _ h
                exact ⟨_ :: rest, by rw [e, List.append_assoc]; rfl⟩
              · cases h
            · cases h
          · cases h
  refine ⟨Z, ⟨fuel, ρ1 ++ [D], S1 ++ [.xo (ob D)], [], fun _ => ob D, .refl _, eD, R1.new hD (.xo (kd.soft s0).1), s0, ⟨xs, rfl⟩, get_newS _ _, fun u hu => ?_⟩, ?_⟩
  · have := hrun u
    rw [hu 0 (Nat.le_refl _)] at this
    exact this
  · rintro i f H2 ⟨ρ2, S2, acc, hist, g2, e2, R2, k2, x2, l2, run2⟩
    have g12 := gD.trans g2
    obtain ⟨j1, j2⟩ := hJ ρ2 S2 H2 i g12 e2 R2
    obtain ⟨Sx0, r0, n0⟩ := run2 hist fun _ _ => rfl
    cases f with
    | zero => cases r0
    | succ f =>
      have r0' := r0
      unfold scM at r0
      cases q : nxt S2 i src with
      | bad => simp only [q] at r0; cases r0
      | stop =>
        simp only [q] at r0
        cases r0
        exact .inl ⟨j1 q, hQ H2 _ e2 (R1.cut R2 g12 n0) (at_ g2 R2 l2) k2⟩
      | yld v =>
        simp only [q] at r0
        obtain ⟨jg, jy⟩ := j2 v q
        refine .inr ⟨jg, fun H' => Z (i + 1) f H', fun H' hN => ⟨f, Nat.lt_succ_self _, hN⟩, fun x H3 hy => ?_⟩
        obtain ⟨R3, e3, r3⟩ := jy x H3 hy
        cases q3 : g v (wipeE env vs) with
        | none => simp only [q3] at r0; cases r0
        | some env3 =>
          simp only [q3] at r0
          refine ⟨ρ2, wipeE env vs, S2, v, env3, R3, ((er1.mono e2 g12).mono e3 (.refl _)).wipe vs, r3, q3, fun σ3 er3 w3 => ⟨?_, ρ2, env3, S2, R3, er3, ?_⟩⟩
          · rw [w3 vs hsl, wipe_wipe vs fun _ h => h]
          · cases q4 : t env3 S2 with
            | fail => simp only [q4] at r0; cases r0
            | exc x S3 => simp only [q4] at r0; cases r0
            | ret bb S3 =>
              intro ρ4 H4 g4 R4 e4
              cases bb with
              | false =>
                rw [if_neg Bool.false_ne_true]
                simp only [q4] at r0
                split at r0
                · rename_i hl4
                  refine ⟨ρ4, S3, acc, hist, g2.trans g4, (e2.trans e3).trans e4, R4, kd.mono (e3.trans e4) k2, x2, hl4, fun u hu => ?_⟩
                  obtain ⟨Sx, q1, q2⟩ := run2 u hu
                  have hu0 := hu acc.length (Nat.le_refl _)
                  unfold scM at q1
                  simp only [q, q3, q4] at q1
                  rw [hu0, if_pos hl4] at q1
                  exact ⟨Sx, q1, q2⟩
                · cases r0
              | true =>
                rw [if_pos rfl]
                simp only [q4] at r0
                refine ⟨ρ4, env3, S3, R4, er3.mono e4 g4, ?_⟩
                cases q5 : m env3 S3 with
                | fail => simp only [q5] at r0; cases r0
                | exc x S3 => simp only [q5] at r0; cases r0
                | ret y S4 =>
                  simp only [q5] at r0
                  intro ρ5 y' H5 g5 R5 e5 r5
                  split at r0
                  · rename_i hl5
                    have hD5 := at_ ((g2.trans g4).trans g5) R5 hl5
                    have e15 := ((e2.trans e3).trans e4).trans e5
                    have k5 := kd.mono ((e3.trans e4).trans e5) k2
                    obtain ⟨rest, ex⟩ := accx _ _ _ _ _ _ r0
                    refine kd.add k5 ⟨rest, ex⟩ r5 hD5 fun u' ku' => ?_
                    have e6 : Ext H5 (upd H5 D u') := .put hD5 (kd.soft k5)
                    refine ⟨ρ5, S4.set S1.length (.xo u'), acc ++ [y], fun j => if j ≤ acc.length then hist j else u', (g2.trans g4).trans g5, e15.trans e6, R5.put (((g2.trans g4).trans g5) _ _ lD) hD5 (kd.soft k5) (.xo (kd.soft ku').1), ?_, ⟨rest, ex⟩, ?_, fun u hu => ?_⟩
                    · have : ¬ (acc ++ [y]).length ≤ acc.length := by simp
                      show kd.st D _ (acc ++ [y]) (if (acc ++ [y]).length ≤ acc.length then hist (acc ++ [y]).length else u')
                      rw [if_neg this]; exact kd.mono e6 ku'
                    · have : ¬ (acc ++ [y]).length ≤ acc.length := by simp
                      show _ = some (Ob.xo (if (acc ++ [y]).length ≤ acc.length then hist (acc ++ [y]).length else u'))
                      rw [List.getElem?_set_self (lt_of_getS hl5), if_neg this]
                    · have hl : (acc ++ [y]).length = acc.length + 1 := by simp
                      rw [hl] at hu
                      have hu0 : ∀ j, j ≤ acc.length → u j = hist j := fun j hj => by
                        have q9 := hu j (by omega)
                        dsimp only at q9
                        rw [q9, if_pos hj]
                      have hu1 : u (acc.length + 1) = u' := by
                        have q9 := hu (acc.length + 1) (Nat.le_refl _)
                        dsimp only at q9
                        rw [q9, if_neg (by omega)]
                      obtain ⟨Sx, q1, q2⟩ := run2 u hu0
                      replace hu0 := hu0 acc.length (Nat.le_refl _)
                      unfold scM at q1
                      simp only [q, q3, q4, q5] at q1
                      rw [hu0, if_pos hl5, hu1] at q1
                      exact ⟨Sx, q1, q2⟩
                  · cases r0
end
end MP

set_option maxRecDepth 100000
namespace MP
open PySem PySem.Spec PyProof.Rows L2
section
variable {X : Cx} {W : WX} {H H' : Hp} {ρ ρ' : List Addr} {S : Ms} {e : Expr} {m : ME} {t : MB} {tg : Expr} {p1 p2 p3 p4 pos : Pos}
theorem map_split {α β : Type} {f : α → β} {ns : List α} {acc rest : List β} {y : β} (h : ns.map f = (acc ++ [y]) ++ rest) : ∃ n1 k n2, ns = n1 ++ k :: n2 ∧ acc = n1.map f ∧ y = f k := by
  rw [List.append_assoc] at h
  obtain ⟨n1, n2, e, h1, h2⟩ := List.map_eq_append_iff.mp h
  cases n2 with
  | nil => simp at h2
  | cons k n2 =>
    simp only [List.map_cons, List.singleton_append, List.cons.injEq] at h2
    exact ⟨n1, k, n2, e, h1.symm, h2.1.symm⟩
/-- a set of ints -/
def kdI {ns : List Int} (few : ns.length < 60) : SetKd X (ns.map PV.int) (fun D => SetO X.w D (fun _ => false) 0) (rSAdd X.w) where
  st D H acc u := ∃ (ms : List Int) (c : Nat), acc = ms.map PV.int ∧ u = SetO X.w D (fun j => decide (j ∈ ms)) c ∧ c ≤ ms.length
  st0 D H := ⟨[], 0, rfl, by simp, Nat.le_refl _⟩
  soft h := by obtain ⟨_, _, _, rfl, _⟩ := h; exact soft_ext
  mono _ h := h
  add := by
    rintro D H ρ acc y y' u Nx ⟨ms, c, rfl, rfl, hc⟩ ⟨rest, ex⟩ r hD nx
    obtain ⟨n1, k, n2, rfl, e1, rfl⟩ := map_split ex
    cases r
    simp only [List.length_append, List.length_cons] at few
    have hl : ms.length = n1.length := by have := congrArg List.length e1; simpa using this
    refine ⟨D, k, _, c, rfl, rfl, hD, by unfold scanBound; omega, nx _ ⟨ms ++ [k], if decide (k ∈ ms) = true then c else c + 1, by simp, ?_, ?_⟩⟩
    · congr 1
      funext j
      simp only [List.mem_append, List.mem_singleton, Bool.decide_or]
    · rw [List.length_append]; simp only [List.length_cons, List.length_nil]; split <;> omega
theorem ext_tup {p : Addr × List Int} (x : Ext H H') (h : H p.1 = some (.tup (p.2.map V.int))) : H' p.1 = some (.tup (p.2.map V.int)) := (x p.1).1 _ h
/-- a set of tuples of ints -/
def kdT {ks : List (List Int)} (few : ks.length < 60) : SetKd X (ks.map tupP) (fun D => SetTO X.prog X.w D []) (rSAddT X.K X.prog X.w) where
  st D H acc u := ∃ (ms : List (List Int)) (L : List (Addr × List Int)), acc = ms.map tupP ∧ u = SetTO X.prog X.w D L ∧ (∀ p ∈ L, H p.1 = some (.tup (p.2.map V.int))) ∧ (∀ k, k ∈ L.map (·.2) ↔ k ∈ ms) ∧ L.length ≤ ms.length
  st0 D H := ⟨[], [], rfl, rfl, (fun _ h => nomatch h), (fun k => Iff.rfl), Nat.le_refl _⟩
  soft h := by obtain ⟨_, _, _, rfl, _⟩ := h; exact soft_ext
  mono x h := by obtain ⟨ms, L, h1, h2, h3, h4⟩ := h; exact ⟨ms, L, h1, h2, fun p hp => ext_tup x (h3 p hp), h4⟩
  add := by
    rintro D H ρ acc y y' u Nx ⟨ms, L, rfl, rfl, hL, hm, hc⟩ ⟨rest, ex⟩ r hD nx
    obtain ⟨n1, k, n2, rfl, e1, rfl⟩ := map_split ex
    have hl : ms.length = n1.length := by have := congrArg List.length e1; simpa using this
    simp only [List.length_append, List.length_cons] at few
    cases r with
    | tup ha hv =>
      rename_i a ws
      have := VRs.ints_inv hv
      subst this
      refine ⟨D, a, k, L, rfl, rfl, .of ha, hD, fun p hp => .of (hL p hp), by omega, fun L' h1 h2 => nx _ ⟨ms ++ [k], L', by simp, rfl, ?_⟩⟩
      by_cases hk : k ∈ L.map (·.2)
      · have := h1 hk
        subst this
        refine ⟨fun p hp => hL p hp, fun j => ?_, by rw [List.length_append]; omega⟩
        rw [hm, List.mem_append, List.mem_singleton]
        constructor
        · exact .inl
        · rintro (h | rfl)
          · exact h
          · exact (hm _).mp hk
      · have pm := h2 hk
        refine ⟨fun p hp => ?_, fun j => ?_, by rw [pm.length_eq, List.length_append, List.length_cons, List.length_singleton]; omega⟩
        · rcases List.mem_cons.mp (pm.subset hp) with rfl | hp
          · exact ha
          · exact hL p hp
        · rw [(pm.map (·.2)).mem_iff, List.map_cons, List.mem_cons, hm, List.mem_append, List.mem_singleton, or_comm]
/-- sorted({e for x in it if ..}) -/
theorem s_ssc {iter : Expr} {ifs : List Expr} {scope : Scope} {own : List (Str × Nat)} {mi : MI} {g : MG} {sl : List Nat} (hc : X.calm = true) (hu : X.A.units + 80 < cLine) (hN : X.N.Nodup) (hi : SI X W tg iter mi) (ok : BlkOk X.N X.env.scope scope own) (hsl : ∀ i ∈ sl, i ∈ own.map (·.2))
    (hg : ∀ (s : Shared) (H : Hp) (C : Addr) (cl : List (Str × Addr)) (fp : List Addr), SG (X.blk s H scope (compEnvC scope cl C X.env) fp) tg g sl) (ht : ∀ (s : Shared) (H : Hp) (C : Addr) (cl : List (Str × Addr)) (fp : List Addr), SIf (X.blk s H scope (compEnvC scope cl C X.env) fp) W0 ifs t)
    (he : ∀ (s : Shared) (H : Hp) (C : Addr) (cl : List (Str × Addr)) (fp : List Addr), SE (X.blk s H scope (compEnvC scope cl C X.env) fp) W0 e m) (hm : X.mg "sorted" = none) (hgl : Gl X "sorted" := by rfl)
    (nb : starEach [Expr.SetComp e [⟨tg, iter, ifs, 0⟩] scope pos] X.env = (false, eval (Expr.SetComp e [⟨tg, iter, ifs, 0⟩] scope pos) X.env) :: starEach [] X.env := by rfl)
    (hs : ∀ x, foldedSetIterable iter X.env x = pure x := by intro _; rfl) :
    SE X W (.Call (.Name "sorted" p1) [.SetComp e [⟨tg, iter, ifs, 0⟩] scope pos] [] p4) (mSSc mi g t m (own.map (·.2))) := by
  obtain ⟨ti, pi, qi⟩ := hi
  have hub : ∀ (s : Shared) (H : Hp) (C : Addr) (cl : List (Str × Addr)) (fp : List Addr), (X.blk s H scope (compEnvC scope cl C X.env) fp).A.units + 64 < cLine := fun s H C cl fp => by
    have : (X.blk s H scope (compEnvC scope cl C X.env) fp).A.units = X.A.units := rfl
    omega
  have pI := pe_callB (pos := p4) (p := p1) (cr_sortedSet hc) hgl hm (by decide +kernel) (pa_cons (pe_scG (X := X) (pos := pos) (ob := fun D => SetO X.w D (fun _ => false) 0) (radd := rSAdd X.w) (tt := tBo X.K X.mg W0 t) (te := tE X.K X.mg W0 m) (g := tGt X.K X.mg g sl) hc hN pi ok setI_new (fun s H C cl fp => mt_sadd) (fun s H C cl fp => (hg s H C cl fp).pg) (fun s H C cl fp => ht s H C cl fp) (fun s H C cl fp => (he s H C cl fp).pe) hs) pa_nil nb) (by decide) (by decide) nb rfl
  have pT := pe_callB (pos := p4) (p := p1) (cr_sortSetT hc hu) hgl hm (by decide +kernel) (pa_cons (pe_scG (X := X) (pos := pos) (ob := fun D => SetTO X.prog X.w D []) (radd := rSAddT X.K X.prog X.w) (tt := tBo X.K X.mg W0 t) (te := tE X.K X.mg W0 m) (g := tGt X.K X.mg g sl) hc hN pi ok setT_new (fun s H C cl fp => mt_saddT (hub s H C cl fp)) (fun s H C cl fp => (hg s H C cl fp).pg) (fun s H C cl fp => ht s H C cl fp) (fun s H C cl fp => (he s H C cl fp).pe) hs) pa_nil nb) (by decide) (by decide) nb rfl
  refine ⟨_, pe_or2 pI pT, fun ρ env S σ H Q R er h => ?_⟩
  unfold mSSc at h
  cases hx : mi env S with
  | fail => simp only [hx] at h; exact h.elim
  | exc x S1 => simp only [hx] at h; exact .inl (qi ρ env S σ H _ R er (by rw [hx]; exact h))
  | ret src S1 =>
    simp only [hx] at h
    split at h
    · rename_i hex
      have hrun := hex.choose_spec
      generalize hex.choose = xs at hrun h
      unfold oSSl at h
      split at h
      · rename_i ns e
        have e := ints_ok e
        subst e
        split at h
        · rename_i few
          refine .inl (qi ρ env S σ H _ R er ?_)
          rw [hx]
          intro ρ1 H1 J g1 R1 e1 hJ D hD
          refine sc_ok (ti := ti) (mi := mi) (kdI few) hsl R1 (er.mono e1 g1) hJ hrun hD fun H2 u x2 R2 hu2 k2 => ?_
          obtain ⟨ms, c, em, rfl, hcl⟩ := k2
          have : ns = ms := by have := congrArg intsP em; rw [intsP_map, intsP_map] at this; exact Option.some.inj this
          subst this
          exact sortI_out R2 hu2 (by omega) (Post.mono g1 (e1.trans x2) h)
        · exact h.elim
      · split at h
        · rename_i ks e
          split at h
          · rename_i few
            have e := ts_ok e
            subst e
            refine .inr (qi ρ env S σ H _ R er ?_)
            rw [hx]
            intro ρ1 H1 J g1 R1 e1 hJ D hD
            refine sc_ok (ti := ti) (mi := mi) (kdT (by simpa using few.1)) hsl R1 (er.mono e1 g1) hJ hrun hD fun H2 u x2 R2 hu2 k2 => ?_
            obtain ⟨ms, L, em, rfl, hL, hm, hcl⟩ := k2
            have : ks = ms := by
              have inj : ∀ {a b : List (List Int)}, a.map tupP = b.map tupP → a = b := by
                intro a b h
                induction a generalizing b with
                | nil => cases b with | nil => rfl | cons => cases h
                | cons x a ih => cases b with
                  | nil => cases h
                  | cons y b =>
                    simp only [List.map_cons, List.cons.injEq, tupP, PV.tup.injEq] at h
                    have := congrArg intsP h.1
                    rw [intsP_map, intsP_map] at this
                    rw [Option.some.inj this, ih h.2]
              exact inj em
            subst this
            exact sortT_out R2 hu2 hL hm few.2 (Post.mono g1 (e1.trans x2) h)
          · exact h.elim
        · exact h.elim
    · exact h.elim
end
theorem hu80 {A : Around} {k : Nat} (hr : Room k A) : A.units + 80 < cLine := by have := hr.un; omega
end MP

set_option maxRecDepth 100000
namespace MP
open PySem PySem.Spec PyProof.Rows L2
section
variable {X : Cx} {W : WX} {H H' : Hp} {ρ ρ' : List Addr} {S : Ms} {kx e : Expr} {mk m : ME} {t : MB} {tg : Expr} {pos : Pos}
/-! ### {k: e for x in it if ..}, the keys ints or texts -/
end
end MP

set_option maxRecDepth 100000
namespace PySem
open Sem (wp)
set_option maxHeartbeats 1000000 in
theorem meets_enum1B {v : Value} {o : Obj} {H : Heap → Prop} (B : Begins v o H) :
    Meets (Builtin.«enumerate.__new__» ⟨[.type "enumerate", v], []⟩) (fun _ R s => H s.heap ∧
      R (.ok (.ret (.ref (s.heap.push o).objs.size))) { s with heap := (s.heap.push o).push { cls := .type "enumerate", data := .fields #[.none, .bool false, .ref s.heap.objs.size, rawInt 0, .none, .none] } }) :=
  .of_wp fun prog w A R s h => by
    obtain ⟨hp, g, d, tk, os⟩ := s; obtain ⟨h1, h⟩ := h
    have hsub := sub_enumerate
    have q1 : ∀ {A' : Around} {E : Value → Shared → Prop} {Q : Value → Shared → Prop}, Q (.ref hp.objs.size) ⟨hp.push o, g, d, tk, os⟩ → wpAny (model prog w) A' (pyIter v) Q E ⟨hp, g, d, tk, os⟩ :=
      fun q => B.iter prog w _ _ ⟨hp, g, d, tk, os⟩ _ h1 q
    wp_walk using q1
    refine wpAny_stack_any fun st => wpAny_pure ?_
    split
    · rename_i c _ _ _ _ _
      cases (c == Value.type "enumerate")
      · wp_walk using q1
        exact ⟨_, rfl, h⟩
      · wp_walk using q1
        exact ⟨_, rfl, h⟩
    · wp_walk using q1
      exact ⟨_, rfl, h⟩
section
variable {prog : Program} {w : World} {A : Around} {E : Value → Shared → Prop} {s : Shared}
theorem enum1_begins {v : Value} {o : Obj} {H : Heap → Prop} {Q : Value → Shared → Prop} (B : Begins v o H) (h1 : H s.heap)
    (h : ∀ h', IsEnum h' (s.heap.objs.size + 1) s.heap.objs.size 0 .none → h'.get? s.heap.objs.size = some o → h'.objs.size = s.heap.objs.size + 2 →
      (∀ b o, s.heap.get? b = some o → h'.get? b = some o) → Q (.ref (s.heap.objs.size + 1)) { s with heap := h' }) :
    wpAny (model prog w) A (call (.type "enumerate") [v]) Q E s := by
  refine callType_new F.called_enumerate (by decide) (F.typeCall_enumerate_1 _) (F.newCall_enumerate_1 _) (fun obj => F.args_object_init_2 obj _) F.entry_enumerate_new
    (meets_enum1B B) ⟨h1, ?_⟩
  have hz : (s.heap.push o).objs.size = s.heap.objs.size + 1 := Heap.size_push ..
  show _ ∧ _
  rw [hz]
  have he : IsEnum ((s.heap.push o).push { cls := .type "enumerate", data := .fields #[.none, .bool false, .ref s.heap.objs.size, rawInt 0, .none, .none] }) (s.heap.objs.size + 1) s.heap.objs.size 0 .none := by
    have := Heap.get?_push_size (s.heap.push o) (o := { cls := .type "enumerate", data := .fields #[.none, .bool false, .ref s.heap.objs.size, rawInt 0, .none, .none] }) rfl
    rw [hz] at this; exact this
  refine ⟨⟨_, he, rfl⟩, h _ he (Heap.get?_push_of_some _ (Heap.get?_push_size _ B.free)) (by rw [Heap.size_push, hz]) fun b o x => Heap.get?_push_of_some _ (Heap.get?_push_of_some _ x)⟩
end
end PySem
namespace MP
open PySem PySem.Spec PyProof.Rows L2
/-! ### enumerate(a tuple) -/
def IteT (K : PySem.W.Frag) (a : Addr) : It :=
  ⟨fun i H => ∃ (xs : List V) (x : V), SqT K H a xs ∧ xs[i]? = some x, fun i H v H' => ∃ T x, v = .ref T ∧ H T = none ∧ H' = upd H T (.tup [.int (i : Nat), x]) ∧ ∀ xs, SqT K H a xs → xs[i]? = some x, fun i H => ∃ xs : List V, SqT K H a xs ∧ xs.length ≤ i⟩
theorem turn_enumT {P : Program} {w : World} {K : PySem.W.Frag} {elts : List Expr} {kk : Nat} {tpos : Pos} (a e it : Addr) :
    Turn P w K (.Tuple elts kk tpos) (IteT K a) [e, it] e (fun i h => (∃ old, IsEnum h e it ((i : Nat) : Int) old) ∧ h.IsTupleIter it a i ∧ e ≠ it ∧ e ≠ a ∧ a ≠ it) where
  mem := by simp
  obj := fun i h st b hb => by
    obtain ⟨⟨old, he⟩, ⟨o, ho, hc, hd⟩, _⟩ := st
    have e' : b = e ∨ b = it := by simpa using hb
    rcases e' with z | z
    · rw [z]; exact ⟨_, he, fun v q => nomatch q⟩
    · rw [z]; exact ⟨o, ho, fun v q => by rw [hd] at q; cases q⟩
  keep := fun i h h' st k => let ⟨⟨old, he⟩, hi, hne⟩ := st; ⟨⟨old, k e (by simp) _ he⟩, hi.at fun o q => k it (by simp) o q, hne⟩
  item := by
    intro X hP hw hK hc i pins s σ H E I hf st hg
    subst hP hw hK
    obtain ⟨⟨old, he⟩, hit, hne, hea, hai⟩ := st
    obtain ⟨xs, x, hq, hx⟩ := hg
    obtain ⟨its, rv, p, hz⟩ := I.tuple hq
    obtain ⟨u, hu, ru⟩ := rv.get hx
    have hel : e < s.heap.objs.size := Heap.lt_size he
    have hil : it < s.heap.objs.size := by obtain ⟨_, q, _⟩ := hit; exact Heap.lt_size q
    have hlt : i < its.toArray.size := by
      have := (List.getElem?_eq_some_iff.mp hu).1
      simpa using this
    have hnf : e ∉ [it, a] := by simp [hne, hea]
    refine wpAny_pyNext_enum_itemD (Draws.tuple (prog := X.prog) (w := X.w) (A := X.A.in1) (I.ok.hd hc) it a hai its.toArray) he ⟨hit, p⟩ hlt hne hnf fun x' h' tk hP ho hst' hT hsz hk => ?_
    obtain ⟨hit', ht'⟩ := hst'
    obtain rfl : x' = u := by
      have hu' : its.toArray[i]? = some u := by simpa using hu
      have hP' : its.toArray[i]? = some x' := hP
      rw [hu'] at hP'; cases hP'; rfl
    refine ⟨_, rfl, wpAny_letOwnedTupleGo_enum (s := { s with heap := h', toks := tk + 1 }) ho fun h'' he' sb => ?_⟩
    have hT2 : h''.get? s.heap.objs.size = some { cls := .type "tuple", data := .seq #[.int i tk, x'] } := (sb.2 _ (Nat.ne_of_gt hel)).trans hT
    have new : ObjOk X.prog X.w (upd H s.heap.objs.size (.tup [.int (i : Nat), x])) h'' s.heap.objs.size (.tup [.int (i : Nat), x]) :=
      ⟨by show 2 ≤ sizeLine; decide, [.int i tk, x'], .cons ⟨_, rfl⟩ (.cons ru .nil), ⟨_, hT2, rfl, _, rfl⟩⟩
    have I1 : Inv X pins σ (upd H s.heap.objs.size (.tup [.int (i : Nat), x])) { s with heap := h'', toks := tk + 1 } :=
      I.turnedNew (t' := tk + 1) (ch := [e, it]) (fun b ob hb q => (sb.2 b (fun z => hb (by simp [z]))).trans (hk b ob (fun z => hb (by simp [z])) (fun z => hb (by simp [z])) q)) hf (Nat.le_refl _) new
    refine ⟨.ref s.heap.objs.size, _, I1, rfl, ⟨_, x, rfl, I.hok.fresh (Nat.le_refl _), rfl, fun ys hy => by rw [I.tuple_inj hy hq]; exact hx⟩, ⟨⟨x', ?_⟩, hit'.at fun o q => (sb.2 it (Ne.symm hne)).trans q, hne, hea, hai⟩, fun b hb => ?_⟩
    · have e1 : ((i + 1 : Nat) : Int) = (i : Int) + 1 := by omega
      rw [e1]; exact he'
    · have hb' : b < s.heap.objs.size := by
        have e' : b = e ∨ b = it := by simpa using hb
        rcases e' with z | z
        · rw [z]; exact hel
        · rw [z]; exact hil
      rw [upd_ne (Nat.ne_of_lt hb')]
      exact (hf b hb).1
  done := by
    intro X hP hw hK hc i pins s σ H E I hf st hg
    subst hP hw hK
    obtain ⟨⟨old, he⟩, hit, hne, hea, hai⟩ := st
    obtain ⟨xs, hq, hx⟩ := hg
    obtain ⟨its, rv, p, hz⟩ := I.tuple hq
    obtain ⟨f0, f1, f2, f3, f4, f5⟩ := hf it (by simp)
    have hl := rv.length
    have hT : s.TypeIs (.ref e) "enumerate" := ⟨_, he, rfl⟩
    unfold pyNext
    refine wpAny_bind (wpAny_attempt (wpAny_callSpecial?_slot (name := Str.ofString "__next__") hT F.slot_enumerate_next
      (wpAny_call_entry F.slot_enumerate_next hT F.entry_enumerate_next ?_ (F.args_enumerate_next_1 _))))
    show wpAny _ _ (field (.ref e) 2 >>= _) _ _ _
    refine wpAny_bind (wpAny_field he rfl (x := .ref it) rfl ?_)
    refine wpAny_bind (wpAny_nextOf_tuple_end (I.ok.hd hc) hit p (by simp; omega) fun h' x he' hx' => ?_)
    obtain ⟨o, ho, hc'⟩ := hx'
    refine wpAny_bind (wpAny_isInstance (T := "StopIteration") (b := true) ⟨o, ho, hc'⟩ isSubtype_stop ?_)
    exact wpAny_pure ⟨rfl, I.turned (t' := s.toks) (fun b o hb q => he' b o hb q) f0 f1 f3 f4 f5⟩
  self := fun A i s Q E st h => let ⟨⟨_, he⟩, _⟩ := st; wpAny_pyIter_enum he h
def iEnumA (K : PySem.W.Frag) (ta : TA) : TI := fun σ H R => ta σ H fun vs H1 => ∃ a xs, vs = [.ref a] ∧ ((SqL K H1 a xs ∧ R (Ite K a) H1) ∨ (SqT K H1 a xs ∧ R (IteT K a) H1))
theorem pi_enumA {X : Cx} {e : Expr} {ta : TA} {p pos tpos : Pos} {elts : List Expr} {kk : Nat} (hg : Gl X "enumerate") (hm : X.mg "enumerate" = none) (ha : PA X [e] ta) (hs : starEach [e] X.env = [(false, eval e X.env)] := by rfl) :
    PI X (.Tuple elts kk tpos) (.Call (.Name "enumerate" p) [e] [] pos) (iEnumA X.K ta) := by
  refine ⟨fun pins s σ H R I h => ?_⟩
  refine Call_ (ld_blt I hg hm boot_enumerate (PyProof.Rows.callWith_type1 (thn (ha.run pos pins s σ H _ I h) fun us s1 ⟨vs, H1, I1, r1, q1⟩ => ?_) hs rfl))
  obtain ⟨a, xs, ex, q1⟩ := q1
  subst ex
  cases r1 with
  | cons r rr =>
    cases rr
    cases r
    have fresh2 : ∀ b ∈ [s1.heap.objs.size + 1, s1.heap.objs.size], FpOk X pins H1 b := fun b hb => by
      have e' : b = s1.heap.objs.size + 1 ∨ b = s1.heap.objs.size := by simpa using hb
      have hle : s1.heap.objs.size ≤ b := by
        rcases e' with z | z
        · rw [z]; exact Nat.le_add_right _ _
        · rw [z]; exact Nat.le_refl _
      exact I1.fpOk hle (I1.hok.fresh hle)
    rcases q1 with ⟨hq, q⟩ | ⟨hq, q⟩
    · obtain ⟨its, rv, p', hz⟩ := I1.list hq
      refine call_enumerate_list p'.isList fun h' he hit hsz hk => wpAny_pyIter_enum he ?_
      have I2 : Inv X pins σ H1 { s1 with heap := h' } := I1.kept (t' := s1.toks) hk
      exact ⟨s1.heap.objs.size + 1, [s1.heap.objs.size + 1, s1.heap.objs.size], _, _, H1, rfl, I2, turn_enum a (s1.heap.objs.size + 1) s1.heap.objs.size, ⟨⟨.none, he⟩, hit, Nat.succ_ne_self _⟩, fresh2, q⟩
    · obtain ⟨its, rv, p', hz⟩ := I1.tuple hq
      have ha : a < s1.heap.objs.size := by obtain ⟨o, ho, _⟩ := id p'; exact Heap.lt_size ho
      refine enum1_begins (begins_tuple a its.toArray) p' fun h' he hit hsz hk => wpAny_pyIter_enum he ?_
      have I2 : Inv X pins σ H1 { s1 with heap := h' } := I1.kept (t' := s1.toks) hk
      exact ⟨s1.heap.objs.size + 1, [s1.heap.objs.size + 1, s1.heap.objs.size], _, _, H1, rfl, I2, turn_enumT a (s1.heap.objs.size + 1) s1.heap.objs.size, ⟨⟨.none, he⟩, ⟨_, hit, rfl, rfl⟩, Nat.succ_ne_self _, Nat.ne_of_gt (Nat.lt_succ_of_lt ha), Nat.ne_of_lt ha⟩, fresh2, q⟩
section
variable {X : Cx} {W : WX} {H H' : Hp} {ρ ρ' : List Addr} {S : Ms} {x : Str} {a : Expr} {ml : ML} {pos : Pos}
/-- enumerate of a tuple is zip with the numbers -/
def enmOfA (S : Ms) : List PV → Option Src
  | [.loc n] => (rdL S n).map fun _ => .enm n
  | [.tup xs] => some (.zipT ((List.range xs.length).map fun i : Nat => .int i) xs)
  | _ => none
theorem jr_enmT {ρ0 : List Addr} {H0 : Hp} {xs : List PV} {vs : List V} {aa : Addr} (e : H0 aa = some (.tup vs)) (r : VRs X.K H0 ρ0 xs vs) : JR X ρ0 H0 (.zipT ((List.range xs.length).map fun i : Nat => .int i) xs) (IteT X.K aa) := by
  intro ρ S H i g ex R
  have h1 : SqT X.K H aa vs := .of ((ex aa).1 _ e)
  have h2 := r.mono ex g
  simp only [nxt, List.getElem?_map]
  cases q2 : xs[i]? with
  | none =>
    rw [List.getElem?_eq_none (by simpa using List.getElem?_eq_none_iff.mp q2)]
    exact ⟨fun _ => ⟨vs, h1, vrs_none h2 q2⟩, (fun v z => by cases z)⟩
  | some v =>
    obtain ⟨v', e1, r1⟩ := h2.get q2
    rw [List.getElem?_range (List.getElem?_eq_some_iff.mp q2).1]
    refine ⟨(fun z => by cases z), fun w z => ?_⟩
    cases z
    refine ⟨⟨vs, v', h1, e1⟩, fun x H' y => ?_⟩
    obtain ⟨T, x, rfl, hT, rfl, y⟩ := y
    have := y vs h1
    rw [e1] at this; cases this
    exact pair_ok R hT (.int _) r1
theorem si_enumA {p tpos : Pos} {elts : List Expr} {kk : Nat} (hm : X.mg "enumerate" = none) (ha : SA X W [a] ml) (hg : Gl X "enumerate" := by rfl)
    (hs : starEach [a] X.env = [(false, eval a X.env)] := by rfl) : SI X W (.Tuple elts kk tpos) (.Call (.Name "enumerate" p) [a] [] pos) (iSt enmOfA ml) :=
  let ⟨ta, pa, qa⟩ := ha
  ⟨_, pi_enumA hg hm pa hs, fun ρ env S σ H R R0 er h => by
    refine iSt_ok qa ρ env S σ H R0 er h fun vs vs' s ρ' S' H' g R' e' r q hJ => ?_
    unfold enmOfA at q
    split at q
    · rename_i nn
      cases q1 : rdL S' nn with
      | none => rw [q1] at q; cases q
      | some xs =>
        rw [q1] at q; cases q
        obtain ⟨w, rfl, rw⟩ := vrs1 r
        cases rw with
        | loc e1 =>
          obtain ⟨vs, h1, _⟩ := rdL_ok R' e1 q1
          exact ⟨_, _, rfl, .inl ⟨h1, hJ _ (jr_enm e1)⟩⟩
    · cases q
      obtain ⟨w, rfl, rw⟩ := vrs1 r
      cases rw with
      | tup hx ax => exact ⟨_, _, rfl, .inr ⟨.of hx, hJ _ (jr_enmT hx ax)⟩⟩
    · cases q⟩
/-! ### x *= y, both of any size -/
theorem iop_mulJ : OpR X (inplaceOp .Mult) (fun x y H Q => rI CMul (fun i j => V.int (i * j)) x y H Q ∨ rI CMulW (fun i j => V.int (i * j)) x y H Q) := or_or iop_mul (opI fun _ _ _ _ _ _ _ hc q => imul_int q hc.ok)
def oMulJ : PV → PV → Ms → Out PV
  | .int i, .int j, S => if CMul i j ∨ CMulW i j then .ret (.int (i * j)) S else .fail
  | _, _, _ => .fail
theorem o_mulJ : O2 X W oMulJ (fun x y H Q => rI CMul (fun i j => V.int (i * j)) x y H Q ∨ rI CMulW (fun i j => V.int (i * j)) x y H Q) := by
  intro ρ S H σ Q x y x' y' R rx ry h
  unfold oMulJ at h
  split at h
  · cases rx; cases ry
    split at h
    · rename_i hc
      rcases hc with hc | hc
      · exact .inl ⟨_, _, rfl, rfl, hc, Post.now R (.int _) h⟩
      · exact .inr ⟨_, _, rfl, rfl, hc, Post.now R (.int _) h⟩
    · exact h.elim
  · exact h.elim
/-! ### constants of a module -/
end
end MP

set_option maxRecDepth 100000
namespace MP
open PySem PySem.Spec PyProof.Rows L2
open PySem.W (EachIs AllAlike Sortable dataLe alike)
/-! ### the values of a locked dict with tuple keys -/
section
variable {X : Cx} {pins : List (Addr × Obj)} {σ : L2.St} {H : Hp} {s : Shared} {d : Addr} {o : Obj}
end
section
variable {P : Program} {w : World} {K : PySem.W.Frag} {tg : Expr} {d : Addr} {o : Obj} {es : Array DictEntry} {ep : Nat}
end
section
variable {X : Cx} {tg e : Expr} {td : TE} {apos cpos : Pos}
end
end MP

set_option maxRecDepth 100000
namespace MP
open PySem PySem.Spec PyProof.Rows L2
open PySem.W (EachIs AllAlike Sortable dataLe alike)
/-! ### an object that is locked, and unlocked -/
/-- tuples and locked lists stay -/
def ExtW (H H' : Hp) : Prop := ∀ a, (∀ xs, H a = some (.tup xs) → H' a = some (.tup xs)) ∧ (∀ o xs, H a = some (.frz o (.lst xs)) → H' a = some (.frz o (.lst xs))) ∧ (∀ o gs, H a = some (.frz o (.xd gs)) → H' a = some (.frz o (.xd gs)))
section
variable {K : PySem.W.Frag} {mg : Str → Option Value} {H H' : Hp} {ρ ρ' : List Addr}
mutual
theorem VR.monoW (e : ExtW H H') : ∀ {x : PV} {v : V}, VR K H ρ x v → VR K H' ρ x v
  | _, _, .non => .non
  | _, _, .bl b => .bl b
  | _, _, .int i => .int i
  | _, _, .str s => .str s
  | _, _, .loc h => .loc h
  | _, _, .tup h hs => .tup ((e _).1 _ h) (VRs.monoW e hs)
  | _, _, .rol h hs => .rol (h.elim (fun ⟨o, h⟩ => .inl ⟨o, (e _).2.1 _ _ h⟩) .inr) (VRs.monoW e hs)
theorem VRs.monoW (e : ExtW H H') : ∀ {xs : List PV} {vs : List V}, VRs K H ρ xs vs → VRs K H' ρ xs vs
  | _, _, .nil => .nil
  | _, _, .cons h t => .cons (VR.monoW e h) (VRs.monoW e t)
end
theorem KVR.monoW {κ : Type} (e : ExtW H H') {xs : List (κ × PV)} {vs : List (κ × V)} (h : KVR K H ρ xs vs) : KVR K H' ρ xs vs :=
  Paired.mapP h fun _ _ z => ⟨z.1, z.2.monoW e⟩
theorem OR.monoW (e : ExtW H H') {o : Ob} {u : HO} (h : OR K mg H ρ o u) : OR K mg H' ρ o u := by
  induction h with
  | lst h => exact .lst (h.monoW e)
  | dK h => exact .dK (h.monoW e)
  | dT h => exact .dT (h.monoW e)
  | exn c q d h => exact .exn c q ((e _).2.2 _ _ d) (h.monoW e)
  | exn0 c q => exact .exn0 c q
  | lk h ih => exact .lk ih
  | ftp h => exact .ftp h
  | xo h => exact .xo h
  | dead h => exact .dead h
end
section
variable {X : Cx} {W : WX} {e tg : Expr} {m : ME} {H : Hp} {ρ : List Addr} {S : Ms}
end
end MP

set_option maxRecDepth 100000
namespace MP
open PySem PySem.Spec PyProof.Rows L2
open PySem.W (EachIs AllAlike Sortable dataLe alike)
/-! ### sorted(a list of tuples of ints) -/
section
variable {X : Cx}
end
section
variable {X : Cx} {W : WX} {H : Hp} {ρ : List Addr} {S : Ms}
end
/-! ### d.get(k, x) -/
section
variable {X : Cx} {W : WX} {o a b : Expr} {m n k : ME} {apos cpos : Pos}
end
end MP

set_option maxRecDepth 100000
namespace MP
open PySem PySem.Spec PyProof.Rows L2
section
variable {X : Cx} {W : WX} {a b : Expr} {m n : ME} {pos : Pos}
/-! ### xs[::-1] -/
def oRevL : PV → Ms → Out PV := fun x S => match lstOf S x with | some xs => .ret (.loc S.length) (S ++ [.lst xs.reverse]) | none => .fail
theorem s_revL {k : Nat} {p1 p2 p3 : Pos} (ha : SE X W a m) : SE X W (.Subscript a (.Slice none none (some (.UnaryOp .USub (.Constant (.int 1) k p1) p2)) p3) pos) (m1 m oRevL) :=
  let ⟨ta, pa, qa⟩ := ha
  ⟨_, pe_revL pa, fun ρ env S σ H Q R er h => by
    refine un_ok (r := fun x H1 Q => ∃ a xs, x = .ref a ∧ SqL X.K H1 a xs ∧ ∀ p, H1 p = none → Q (.ref p) (upd H1 p (.lst xs.reverse))) qa (fun ρ S H σ Q x x' R r h => ?_) ρ env S σ H Q R er h
    unfold oRevL at h
    split at h
    · rename_i xs e
      obtain ⟨a, vs, rfl, hv, hs⟩ := lstOf_ok R r e
      exact ⟨a, vs, rfl, hs, fun p hp => new_list R hv.reverse h hp⟩
    · exact h.elim⟩
end
end MP

set_option maxRecDepth 100000
/-! own exceptions over any builtin base (HandS.ExcInit has them over ValueError) -/
namespace PySem
namespace HandSPX
open PySem.W PySem.Calls PyProof.Rows
open Builtin Builtin.ObjectAttr
/-- a row of bases on which an attribute may be laid -/
structure MroOk (l : List Value) : Prop where
  ne : l.isEmpty = false
  ob : l.contains (.type "object") = true
  pass : ∀ self, refuseLoop self "__setattr__" l = pure ()
theorem MroOk.ref {C : Addr} {l : List Value} (h : MroOk l) : MroOk (.ref C :: l) :=
  ⟨rfl, by rw [List.contains_cons, h.ob]; simp, fun self => by rw [refuseLoop_ref]; exact h.pass self⟩
section
variable {prog : Program} {w : World} {hp : Heap} {g : Array GenState} {d : Drawn} {t : Nat} {os : OsState} {A : Around} {E : Value → Shared → Prop} {R : Result → Shared → Prop}
theorem osa_firstG {K : W.Frag} {name : Str} {tk : Tok} {v : Value} {x C : Addr} {fv : Array Value} {cd : ClassData}
    (X : K.In hp) (hx : hp.get? x = some { cls := .ref C, data := .fields fv }) (hcd : W.clsIn K C = some cd) (hm : MroOk cd.mro) (hh : cd.hasDict = true) (ha : W.findIn K (.ref C) name = some none)
    (hq : ∀ h' tk' dx, (∀ b o, b ≠ x → hp.get? b = some o → h'.get? b = some o) → hp.objs.size ≤ dx → dx ≠ x → h'.get? x = some { cls := .ref C, dict := some dx, data := .fields fv } →
      h'.Ns1 dx (fun y => if y = name then some v else none) → R (.ok (.ret .none)) ⟨h', g, d, tk', os⟩) :
    codeAny (model prog w) A (.call (.builtin "object.__setattr__") ⟨[.ref x, .str name tk, v], []⟩) R ⟨hp, g, d, t, os⟩ := by
  have I : W.InstAt hp x { cls := .ref C, data := .fields fv } C none := ⟨hx, rfl, rfl, trivial⟩
  have SF := F.store_object
  have hxs : x ≠ hp.objs.size := Nat.ne_of_lt (Heap.lt_size hx)
  have sub : W.Looks (model prog w) hp (isInstance (.ref x) (.type "object")) true := I.type.andThen (W.looks_mroIn X (by unfold W.mroIn; rw [hcd, Option.bind_some, if_neg (by rw [hm.ne]; decide), hm.ob]))
  refine codeAny_call_builtin SF.slot.plain SF.entry (@W.check_slot (model prog w) _ _ ⟨hp, g, d, t, os⟩ "object.__setattr__" "object" "__setattr__" (.ref x) [.str name tk, v] [] _ SF.kind SF.split sub (SF.args (.ref x) (.str name tk) v) ?_)
  have hmr : W.Looks (model prog w) hp (mroOf (.ref C)) cd.mro := (W.looks_clsIn X hcd).andThen .now
  have L3 : W.Looks (model prog w) hp (storeTaker? none) none := .now
  have hcls : W.Looks (model prog w) hp (classData C) cd := W.looks_clsIn X hcd
  rw [W.osa_eq, refuse_eq]
  refine wpAny_bind (wpAny_bind (I.type.at (wpAny_bind (hmr.at ?_))))
  rw [hm.pass]
  refine wpAny_pure (wpAny_bind (I.type.at (wpAny_bind ((W.looks_findIn X ha).at (wpAny_bind (L3.at ?_))))))
  show wpAny _ _ (storeInOwnDict (.ref x) (.ref C) (.str name tk) name v false) _ _ _
  obtain ⟨nm, bs, mro, ns, qn, hd, sn, sb, ab, col, del⟩ := cd
  dsimp only at hh
  subst hh
  unfold storeInOwnDict ownDictForStores
  repeat (first | with_reducible refine store_in_new ?_ ?_ | with_reducible refine wpAny_loadPart_at hx ?_ | with_reducible refine hcls.at ?_ | wp_step)
  · exact ⟨_, #[], _, (Heap.get?_update_ne _ _ _ _ hxs.symm).trans (Heap.get?_push_at rfl rfl), rfl, fun e he => absurd he (by simp), fun _ => rfl⟩
  · intro h' tk' hn' hs
    have hx1 : (hp.push { cls := .type "dict", data := .dict #[] }).get? x = some { cls := .ref C, data := .fields fv } := Heap.get?_push_of_some _ hx
    refine hq h' tk' hp.objs.size (fun b o hb ho => ?_) (Nat.le_refl _) hxs.symm ?_ hn'
    · exact (hs.2 b (Nat.ne_of_lt (Heap.lt_size ho))).trans ((Heap.get?_update_ne _ _ _ _ hb).trans (Heap.get?_push_of_some _ ho))
    · exact (hs.2 x hxs).trans (Heap.get?_update_self _ hx1 rfl)
end
end HandSPX
end PySem
namespace L2
open PySem PySem.Spec PyProof.Rows
/-- what the written part says of an exception class over the base B -/
structure OexG (B newId : String) (bmB : List Value) (K : PySem.W.Frag) (C : Addr) : Prop where
  cls : ∃ nm q N bs bm sn sub ab col dd k0 k1 k2 k3 k5, K.lookup C = some (excClassObj nm q C N bs bm true sn sub ab col dd k0 k1 k2 k3 k5 newId) ∧ PySem.HandSPX.MroOk bm ∧ ∀ Y : String, bm.contains (.type Y) = bmB.contains (.type Y)
  sa : PySem.W.findIn K (.ref C) "__setattr__" = some (some (.builtin "object.__setattr__"))
  exC : PySem.W.subIn K (.ref C) (.type "BaseException") = some true
  tyC : PySem.W.typeIn K (.ref C) = some (.type "type")
  kC : PySem.W.keepIn K (.ref C) = true
section
variable {X : Cx} {pins : List (Addr × Obj)} {σ : L2.St} {H : Hp} {s : Shared} {a C dx : Addr} {f : Str} {y : V} {u : Value} {fs : List (Str × V)} {Q : Unit → Shared → Prop} {E : Value → Shared → Prop} {A : Around} {B newId : String} {bmB : List Value}
theorem ost_newG (T : OexG B newId bmB X.K C) (I : Inv X pins σ H s) (e : H a = some (exo a C none)) (hno : PySem.W.findIn X.K (.ref C) f = some none) (ry : RelV y u)
    (h : ∀ dx s', H dx = none → dx ≠ a → Inv X pins σ (upd (upd H dx (exd dx [(f, y)])) a (exo a C (some dx))) s' → Q () s') : wpAny (model X.prog X.w) A (setAttr (.ref a) f u) Q E s := by
  obtain ⟨nm, q, N, bs, bm, sn, sub, ab, col, dd, k0, k1, k2, k3, k5, hC, hbm, _⟩ := T.cls
  have hcl : PySem.W.clsIn X.K C = some { name := nm, bases := bs, mro := .ref C :: bm, ns := N, qualname := q, hasDict := true, slotNames := sn, subclasses := sub, abstract := ab, collection := col, hasDel := false } := by unfold PySem.W.clsIn; rw [hC] <;> rfl
  obtain ⟨t1, ho⟩ := exo_at I.hok e
  obtain ⟨hp, g, d, t, os⟩ := s
  refine PySem.W.set_plain I.kIn (ox := { cls := .ref C, dict := none, data := .fields #[.ref t1, .none, .none, .none, .bool false, .none] }) (od := none) ⟨ho, rfl, rfl, trivial⟩ T.sa ?_
  refine PySem.HandSPX.osa_firstG I.kIn ho hcl hbm.ref rfl hno (fun h' tk' dx k dn dne hx hn => ?_)
  have hnd : H dx = none := I.hok.fresh dn
  have nd : ∀ {b : Addr} {o : Obj}, hp.get? b = some o → b ≠ dx := fun {b o} q => Nat.ne_of_lt (Nat.lt_of_lt_of_le (Heap.lt_size q) dn)
  have na : ∀ {b : Addr}, H b = none → b ≠ a := fun {b} n z => by rw [z, e] at n; cases n
  have un : Un X.fs [] H (upd (upd H dx (exd dx [(f, y)])) a (exo a C (some dx))) hp h' := {
    keep := fun b o q n _ _ => k b o (na n) q
    slot := fun b o q n _ _ => ⟨o.slots, k b o (na n) q⟩
    free := fun b o q n _ => by rw [upd_ne (na n), upd_ne (nd q)]; exact n
    there := fun b o q _ => (Classical.em (b = a)).elim (fun hb => ⟨_, hb ▸ hx⟩) fun hb => ⟨o, k b o hb q⟩
    tups := fun b xs q => by rw [upd_ne (at_ne e q exo_tup), upd_ne (ne_of_none q hnd)]; exact q
    frzs := fun b o v q => by rw [upd_ne (at_ne e q exo_frz), upd_ne (ne_of_none q hnd)]; exact q
    tbls := fun b ps q => ⟨#[], by rw [upd_ne (at_ne e q exo_tbl), upd_ne (ne_of_none q hnd), q]; simp⟩ }
  refine h dx _ hnd dne (I.un (t' := tk') un fun b o q => ?_)
  by_cases hb : b = a
  · subst hb
    rw [upd_same] at q; cases q
    exact exo_ok hx
  · rw [upd_ne hb] at q
    by_cases hd : b = dx
    · subst hd
      rw [upd_same] at q; cases q
      exact exd_ok hn (relO_put (fs := []) ry fun g => True.intro)
    · rw [upd_ne hd] at q
      refine (I.hok b o q).stay (fun c v hc z => k c v (hc.elim (fun hc => hc ▸ hb) fun hc => at_ne e hc exo_own) z) (fun c hc => ?_) fun c xs hc => ?_
      · rw [upd_ne (at_ne e hc exo_own), upd_ne (ne_of_none hc hnd)]; exact hc
      · rw [upd_ne (at_ne e hc exo_tup), upd_ne (ne_of_none hc hnd)]; exact hc
theorem oinitG {initId : String} {us : List Value} {Q : Value → Shared → Prop} (F : ExcBaseFacts B newId initId bmB) (T : OexG B newId bmB X.K C) (I : Inv X pins σ H s) (e : H a = some (exo a C none)) (hl : us.length ≤ sizeLine) (h : ∀ s', Inv X pins σ H s' → Q .none s') :
    wpAny (model X.prog X.w) A (call (.builtin initId) (.ref a :: us)) Q E s := by
  obtain ⟨nm, q, N, bs, bm, sn, sub, ab, col, dd, k0, k1, k2, k3, k5, hC, hbm, hct⟩ := T.cls
  obtain ⟨t1, ho⟩ := exo_at I.hok e
  obtain ⟨hp, g, d, t, os⟩ := s
  refine wpAny_call (PySem.HandSPX.init_base F hct (I.kIn _ _ hC) ho hl fun h' t2 k hx => ?_)
  have J := I.write (t' := t) (x := a) (e := a) (o := exo a C none) (by rw [e]; exact True.intro) (.inl rfl) k ⟨_, hx⟩ (exo_ok hx)
  have eu : upd H a (exo a C none) = H := funext fun b => if hb : b = a then by rw [hb, upd_same, e] else upd_ne hb
  rw [eu] at J
  exact h _ J
end
end L2
namespace L2
open PySem PySem.Spec PyProof.Rows
/-- B.__init__(self, ..) -/
def tBi (B newId : String) (bmB : List Value) (K : PySem.W.Frag) (ta : TA) : TE := fun σ H Q => ta σ H fun vs H1 => ∃ (a C : Addr) (ws : List V), vs = .ref a :: ws ∧ ws.length ≤ 1000 ∧ OexG B newId bmB K C ∧ H1 a = some (exo a C none) ∧ Q .non H1
/-- self.f = e, the first one -/
def tOsG (B newId : String) (bmB : List Value) (K : PySem.W.Frag) (f : Str) (to te : TE) : TS := fun D σ H => te σ H fun y H1 => to σ H1 fun x H2 => ∃ a C : Addr, x = .ref a ∧ OexG B newId bmB K C ∧ PySem.W.findIn K (.ref C) f = some none ∧
  H2 a = some (exo a C none) ∧ ∀ dx, H2 dx = none → dx ≠ a → D.nx σ (upd (upd H2 dx (exd dx [(f, y)])) a (exo a C (some dx)))
section
variable {X : Cx} {o e : Expr} {es : List Expr} {to te : TE} {ta : TA} {f : Str} {p p' p1 p2 pos : Pos} {B newId initId : String} {bmB : List Value} {x : Str}
theorem pe_binit {pl : Sem Bool} (F : ExcBaseFacts B newId initId bmB) (hg : Gl X x) (hm : X.mg x = none) (hB : bootBuiltins x = some (.type B)) (hT : typeOf (.type B) = pure (.type "type")) (vV : PySem.W.findCls X.K (.type B) (.type "type") "__init__" = some (.val (.builtin initId)))
    (hS : Manifest.isStub B = false) (hH : PySem.W.handedIn (Value.builtin initId) = true) (hb1 : x ≠ "__name__") (hb2 : (x == ("__debug__" : Str)) = false) (ha : PA X (e :: es) ta)
    (hc : eval (.Call (.Attribute (.Name x p1) "__init__" p2) (e :: es) [] pos) X.env = (do
      let ov ← eval (.Name x p1) X.env
      standAt p2.atName
      let (f, first) ← holding [ov] (getMethod ov "__init__" pl)
      callWith pos f first (backTo pos (starEach (e :: es) X.env)) (backToKw pos (keywordEach [] X.env))) := by rfl)
    (he : starEach (e :: es) X.env = (false, eval e X.env) :: starEach es X.env := by rfl) (hpl : (backTo pos (starEach es X.env)).any (·.1) = false := by rfl) :
    PE X (.Call (.Attribute (.Name x p1) "__init__" p2) (e :: es) [] pos) (tBi B newId bmB X.K ta) := by
  refine ⟨fun pins s σ H Q I h => ?_⟩
  refine PySem.W.methodCall_KW (ld_blt I hg hm hB ?_ hb1 hb2) hc
  obtain ⟨m, fr⟩ := I.fr
  refine PySem.W.method_type fr I.ok.mod.kin hT hS vV hH ?_
  show wpAny _ _ (callWith pos (Value.builtin initId) [] (backTo pos (starEach (e :: es) X.env)) []) _ _ _
  refine PyProof.Rows.callWith_method1 (thn (ha.run pos pins _ σ H _ (I.tok _) h) fun us s1 ⟨vs, H1, I1, r1, a, C, ws, ev, hl, T, ea, q⟩ => ?_) he hpl
  subst ev
  cases r1 with
  | @cons _ u0 _ ur ra rw' =>
    obtain rfl : u0 = Value.ref a := ra
    have hlen : ur.length ≤ sizeLine := by
      rw [← Paired.length rw', sizeLine_eq]
      omega
    exact oinitG F T I1 ea hlen fun s' J => ⟨.non, H1, J, rfl, q⟩
theorem ps_osG (ho : PE X o to) (he : PE X e te) (hs : swapsWith e (some (.Attribute o f p')) pos.line X.env = pure false := by rfl) : PS X (.Assign [.Attribute o f p'] e pos) (tOsG B newId bmB X.K f to te) := by
  refine ⟨fun pins s σ H D I h => ?_⟩
  refine plainObj_wpAny_Assign_Attribute (thn (he.run pins s σ H _ I h) fun v s1 ⟨y, H1, I1, r1, q1⟩ => thn (ho.run pins s1 σ H1 _ I1 q1) fun u s2 ⟨x, H2, I2, r2, a, C, ex, T, hno, ea, q⟩ => ?_) hs
  subst ex
  obtain rfl : u = Value.ref a := r2
  exact ost_newG T I2 ea hno r1 fun dx s' n ne J => ⟨σ, _, J, q dx n ne⟩
end
end L2
namespace L2
open PySem PySem.Spec PyProof.Rows
/-! C(e, ..), C's own __init__ keeping sp -/
section
variable {X : Cx} {e : Expr} {es : List Expr} {ta : TA} {p pos : Pos} {B newId initId : String} {bmB : List Value}
theorem pmk_G {CX : CXT} {x : Str} {C fI : Addr} {k : Nat} {fd : FuncData} {ps : List Str} {sp : Sp} (F : ExcBaseFacts B newId initId bmB) (T : OexG B newId bmB X.K C) (iC : PySem.W.findIn X.K (.ref C) "__init__" = some (some (.ref fI))) (tI : PySem.W.typeIn X.K (.ref fI) = some (.type "function"))
    (F1 : FnOk X.prog X.w X.K X.mg X.base CX k fI fd ps sp) (hr : Room (k + 1) X.A) (hb : Binds X.K fd ps []) (hx : Passes CX X (fun _ _ _ => False)) (hg : Gl X x) (hm : X.mg x = some (.ref C)) (ha : PA X (e :: es) ta)
    (hdb : (x == ("__debug__" : Str)) = false := by decide) (he : starEach (e :: es) X.env = (false, eval e X.env) :: starEach es X.env := by rfl) (hpl : (backTo pos (starEach es X.env)).any (·.1) = false := by rfl) :
    PMk X (.Call (.Name x p) (e :: es) [] pos) (tMkO C sp [] ta) := by
  intro pins s σ H Q I h
  obtain ⟨nm, q, N, bs, bm, sn, sub, ab, col, dd, k0, k1, k2, k3, k5, hC, hbm, hct⟩ := T.cls
  refine wpAny_Call_Name_kw (ld_glob I hg hm ?_ hdb)
  refine PySem.W.callWith_K (h₀ := X.base) I.ok.mod.kin T.kC (thn (ha.run pos pins s σ H _ I h) fun us s1 ⟨vs, H1, I1, r1, hz, q1⟩ => ⟨I1.kIn, ?_⟩) he hpl
  show wpAny _ _ (call (.ref C) us) _ _ _
  obtain ⟨hp, g, dr, tk, os⟩ := s1
  have hsz : hp.objs.size ≤ hp.objs.size + 1 := Nat.le_succ _
  have hq := q1 (hp.objs.size + 1) (I1.hok.fresh hsz)
  rw [List.append_nil] at hq
  have grow : ∀ b o, hp.get? b = some o → ((hp.push (PySem.W.kdv_tup us)).push (PySem.HandSPX.excO C hp.objs.size)).get? b = some o := fun b o e => Heap.get?_push_of_some _ (Heap.get?_push_of_some _ e)
  have here : ((hp.push (PySem.W.kdv_tup us)).push (PySem.HandSPX.excO C hp.objs.size)).get? (hp.objs.size + 1) = some (PySem.HandSPX.excO C hp.objs.size) := by heap_get
  have I2 : Inv X pins σ (upd H1 (hp.objs.size + 1) (exo (hp.objs.size + 1) C none)) ⟨(hp.push (PySem.W.kdv_tup us)).push (PySem.HandSPX.excO C hp.objs.size), g, dr, tk, os⟩ :=
    I1.laid (t' := tk) (a := hp.objs.size + 1) (o := exo (hp.objs.size + 1) C none) (h' := (hp.push (PySem.W.kdv_tup us)).push (PySem.HandSPX.excO C hp.objs.size)) grow hsz (exo_ok here)
  have r2 : Vals (V.ref (hp.objs.size + 1) :: vs) (Value.ref (hp.objs.size + 1) :: us) := .cons rfl r1
  have hl : (Value.ref (hp.objs.size + 1) :: us ++ []).length = ps.length := by
    rw [List.append_nil, ← r2.length]; exact F1.len _ _ _ _ hq
  have hus : us.length ≤ sizeLine := by
    rw [← Paired.length r1, sizeLine_eq]
    omega
  have hbind := hb ⟨(hp.push (PySem.W.kdv_tup us)).push (PySem.HandSPX.excO C hp.objs.size), g, dr, tk, os⟩ (Value.ref (hp.objs.size + 1) :: us) I2.kIn hl
  rw [List.append_nil] at hbind
  refine wpAny_call (PySem.HandSPX.call_own F hct (I1.kIn _ _ hC) (PySem.W.looks_findIn I1.kIn iC) (fun self => PySem.W.bind_fn I1.kIn self tI) hus
    (codeAny_mono (F1.run _ X.stack _ _ ⟨Value.ref (hp.objs.size + 1) :: us, []⟩ (Value.ref (hp.objs.size + 1) :: us) _ _ (fun _ _ _ => False) (hr.make C us []) (I2.env0.make C us []) hbind r2 hq) fun r s' hq' => ?_))
  cases r with
  | error er => exact hx pins σ _ _ er s' I2 hq'
  | ok fl => cases fl with
    | ret u =>
      obtain ⟨v, H2, os2, bare2, un2, hok2, rv, ev, d, fs, ea, ed, hd1, q2⟩ := hq'
      subst ev
      obtain ⟨h2, g2, d2, t2, os'⟩ := s'
      exact ⟨rv, mk_end (raises_own T.exC T.tyC) I1 hsz grow un2 hok2 os2 bare2 ea ed hd1 q2⟩
    | next => exact False.elim hq'
    | brk => exact False.elim hq'
    | cont => exact False.elim hq'
end
end L2


set_option maxRecDepth 100000
/-! exceptions that are caught and kept as values -/
namespace PySem.W
open PySem PySem.Spec PySem.Calls PyProof.Rows
section
variable {prog : Program} {w : World} {A : Around} {E : Value → Shared → Prop} {s : Shared} {K : Frag} {x D : Addr} {ox : Obj} {od : Option Obj}
end
end PySem.W
namespace L2
open PySem PySem.Spec PyProof.Rows
/-- a caught exception stands at a, its class at C, its fields gs: only read from now on -/
def CaughtAt (H : Hp) (a C : Addr) (gs : List (Str × V)) : Prop := (∃ (oe od : Obj) (dd : Addr) (u : HO), H a = some (.frz oe u) ∧ (oe.cls = .ref C ∧ oe.dict = some dd ∧ ∃ vs, oe.data = .fields vs) ∧ H dd = some (.frz od (.xd gs))) ∨
  (∃ (oe : Obj) (u : HO), H a = some (.frz oe u) ∧ (oe.cls = .ref C ∧ oe.dict = none ∧ ∃ vs, oe.data = .fields vs) ∧ gs = [])
section
variable {X : Cx} {pins : List (Addr × Obj)} {σ : St} {H : Hp} {s : Shared} {a C : Addr} {gs : List (Str × V)}
theorem CaughtAt.look (c : CaughtAt H a C gs) (I : Inv X pins σ H s) (ne : gs ≠ []) : ∃ (oe od : Obj) (mA : Str → Option Value), PySem.W.InstAt s.heap a oe C (some od) ∧ (∀ f, PySem.W.lookIn f od = some (mA f)) ∧ ∀ f, RelO (gs.lookup f) (mA f) := by
  obtain ⟨oe, od, dd, u, ha, ⟨h1, h2, vs, h3⟩, hd⟩ := c.resolve_right (fun ⟨_, _, _, _, z⟩ => ne z)
  have e1 : s.heap.get? a = some oe := (I.hok a _ ha).1
  obtain ⟨_, mA, hns, hr⟩ : ObjOk X.prog X.w H s.heap dd (.frz od (.xd gs)) := I.hok dd _ hd
  obtain ⟨oc, ho, hl⟩ := lookIn_ns hns
  exact ⟨oe, oc, mA, ⟨e1, h1, by unfold PySem.W.notCls; rw [h3] <;> rfl, by rw [h2]; exact ho⟩, hl, hr⟩
/-- from here on it is only read -/
theorem Inv.caught {oe od : Obj} {vs : Array Value} {dd : Addr} (I : Inv X pins σ H s) (ha : s.heap.get? a = some oe) (hv : oe.data = .fields vs) (hd : H dd = some (.xd gs)) (hod : s.heap.get? dd = some od) (na : H a = none) (nL : a ≠ X.env.locals) (n0 : X.s_0.heap.get? a = none) (np : ∀ p ∈ X.pn ++ pins, p.1 ≠ a) :
    Inv X pins σ (upd (upd H dd (.frz od (.xd gs))) a (.frz oe (.own a))) s := by
  have nd : dd ≠ a := fun z => by rw [z, na] at hd; cases hd
  have ne0 : ∀ {b : Addr} {o : Obj}, X.s_0.heap.get? b = some o → b ≠ a := fun e z => by rw [z, n0] at e; cases e
  have nN : ∀ {b : Addr}, H b = none → b ≠ dd := fun e z => by rw [z, hd] at e; cases e
  have nS : ∀ {b : Addr} {u : HO}, H b = some u → b ≠ a := fun e z => by rw [z, na] at e; cases e
  have old : ∀ {b : Addr}, b ≠ a → b ≠ dd → upd (upd H dd (.frz od (.xd gs))) a (.frz oe (.own a)) b = H b := fun h1 h2 => by rw [upd_ne h1, upd_ne h2]
  have keepU : ∀ {b : Addr} {u : HO}, H b = some u → (∀ g, u ≠ .xd g) → upd (upd H dd (.frz od (.xd gs))) a (.frz oe (.own a)) b = some u := fun {b u} e h1 => by
    rw [old (nS e) (fun z => by rw [z, hd] at e; cases e; exact h1 _ rfl)]; exact e
  refine ⟨I.ok, I.os, I.bare, ⟨I.base.keep, I.base.slot, fun b o e n hx => ?_, I.base.there, fun b xs e => keepU (I.base.tups b xs e) (fun _ z => nomatch z), fun b o u e => keepU (I.base.frzs b o u e) (fun _ z => nomatch z), fun b ps e => ?_⟩, I.loc, I.cell, ?_, fun x c e => ?_, fun p hp => ?_, fun b u e => ?_, I.len⟩
  · have h1 := I.base.free b o e n hx
    rw [old (ne0 e) (nN h1)]; exact h1
  · obtain ⟨m, h1⟩ := I.base.tbls b ps e
    exact ⟨m, keepU h1 (fun _ z => nomatch z)⟩
  · rw [old (Ne.symm nL) (nN I.free)]; exact I.free
  · have h1 := I.freeC x c e
    have h2 : c ≠ a := fun z => by
      obtain ⟨v, o, ho, hc⟩ := I.cell x c e
      rw [z, ha] at ho; cases ho
      rw [hv] at hc; cases hc
    rw [old h2 (nN h1)]; exact h1
  · obtain ⟨h1, h2, h3⟩ := I.pin p hp
    exact ⟨h1, by rw [old (np p hp) (nN h2)]; exact h2, h3⟩
  · have own : ∀ {c x : Addr}, H c = some (.own x) → upd (upd H dd (.frz od (.xd gs))) a (.frz oe (.own a)) c = some (.own x) := fun h => keepU h (fun _ z => nomatch z)
    have tup : ∀ {c : Addr} {xs : List V}, H c = some (.tup xs) → upd (upd H dd (.frz od (.xd gs))) a (.frz oe (.own a)) c = some (.tup xs) := fun h => keepU h (fun _ z => nomatch z)
    by_cases hb : b = a
    · subst hb
      rw [upd_same] at e; cases e
      exact ⟨ha, ⟨oe, ha⟩⟩
    · by_cases hb2 : b = dd
      · subst hb2
        rw [upd_ne hb, upd_same] at e; cases e
        exact ⟨hod, (I.hok b _ hd).stay (fun _ _ _ z => z) (fun _ h => own h) (fun _ _ h => tup h)⟩
      · rw [old hb hb2] at e
        exact (I.hok b u e).stay (fun _ _ _ z => z) (fun _ h => own h) (fun _ _ h => tup h)
/-! ### the class test of an except clause -/
end
end L2
namespace L2
open PySem PySem.Spec PyProof.Rows
section
variable {X : Cx}
end
end L2

set_option maxRecDepth 100000
namespace L2
open PySem PySem.Spec PyProof.Rows
section
variable {X : Cx} {n c : Str} {i j : Nat} {body : List Stmt} {ct : Expr} {cts : List Value} {p1 p2 p3 pos pos' : Pos} {tb : WX → TS} {Wout : WX}
end
end L2

set_option maxRecDepth 100000
namespace MP
open PySem PySem.Spec PyProof.Rows L2
section
variable {K : PySem.W.Frag} {mg : Str → Option Value} {X : Cx} {W : WX} {a e : Expr} {m : ME} {H : Hp} {ρ : List Addr} {S : Ms} {pos : Pos}
/-! ### fields, isinstance -/
theorem HR.exn (R : HR K mg ρ S H) {n : Nat} {ad : Addr} {c : Str} {fs : List (Str × PV)} (h : ρ[n]? = some ad) (e : S[n]? = some (.ins c fs)) : ∃ C gs, mg c = some (.ref C) ∧ CaughtAt H ad C gs ∧ KVR K H ρ fs gs := by
  obtain ⟨ho, h1, h2⟩ := R.get h e
  cases h2 with
  | exn hc q hd hk => exact ⟨_, _, hc, .inl ⟨_, _, _, _, h1, q, hd⟩, hk⟩
  | exn0 hc q => exact ⟨_, _, hc, .inr ⟨_, _, h1, q, rfl⟩, .nil⟩
theorem KVR.look {f : Str} {v : PV} : ∀ {fs : List (Str × PV)} {gs : List (Str × V)}, KVR K H ρ fs gs → fs.lookup f = some v → ∃ v', gs.lookup f = some v' ∧ VR K H ρ v v'
  | _, _, .nil, h => by cases h
  | _, _, .cons (a := (k, x)) (b := (k', y)) r t, h => by
    obtain ⟨e, r⟩ := r
    dsimp only at e r
    subst e
    rw [List.lookup_cons] at h ⊢
    split at h
    · cases h; exact ⟨_, rfl, r⟩
    · exact KVR.look t h
/-- the class that an isinstance asks for -/
structure ClsA (X : Cx) (x2 : Str) (c2 : V) (u : Value) : Prop where
  pe : ∀ p2 : Pos, PE X (.Name x2 p2) (tC c2)
  cv : ClsV c2 u
end
/-! ### x or y, by truth -/
section
variable {X : Cx} {W : WX} {a b : Expr} {rest : List Expr} {m n : ME} {pos : Pos}
end
/-! ### try -/
section
variable {X : Cx} {W : WX} {n c : Str} {i j : Nat} {body : List Stmt} {mb : MS} {ct : Expr} {cts : List Value} {kn : List (Str × Bool)} {p1 p2 p3 pos pos' : Pos}
end
/-! ### raise C(e) -/
/-- what C's own __init__ does: B.__init__(self, x); self.f = x -/
def spI (B newId : String) (bmB : List Value) (K : PySem.W.Frag) (f : Str) : Sp := fun vs H Q E => ∃ (a C : Addr) (v : V), vs = [.ref a, v] ∧ OexG B newId bmB K C ∧ PySem.W.findIn K (.ref C) f = some none ∧ H a = some (exo a C none) ∧
  ∀ dx, H dx = none → dx ≠ a → Q .non (upd (upd H dx (exd dx [(f, v)])) a (exo a C (some dx)))
/-- what the top has left of an error class with one field -/
structure ErrC (K : PySem.W.Frag) (mg : Str → Option Value) (c f : Str) (B newId initId : String) (bmB : List Value) (qual : Str) (st : Stmt) where
  C : Addr
  fI : Addr
  dI : FuncData
  g : mg c = some (.ref C)
  o : OexG B newId bmB K C
  x : ExcC K C
  nf : PySem.W.findIn K (.ref C) f = some none
  iC : PySem.W.findIn K (.ref C) "__init__" = some (some (.ref fI))
  tI : PySem.W.typeIn K (.ref fI) = some (.type "function")
  F : Fun K "__init__" qual st fI dI
  bi : PySem.W.findCls K (.type B) (.type "type") "__init__" = some (.val (.builtin initId))
section
variable {P : Program} {w : World} {K : PySem.W.Frag} {mg : Str → Option Value} {base : Heap}
theorem init_ok {qual f p : Str} {st : Stmt} {fI : Addr} {dI : FuncData} {B newId : String} {bmB : List Value} (F : Fun K "__init__" qual st fI dI) (Sc : FnScope ["self", p] ["self", p] (defScope st))
    (hp : ∀ (cdv : Value) (A : Around) (outer : List Env) (s : Shared) (H : Hp) (E : XK), PSs (cxOf (L2.CX P w) P w K mg base ["self", p] qual (defScope st) fI cdv A outer s H E) (defBody st) (tSeq (tDrop (tBi B newId bmB K (tCons (tVar 0) (tCons (tVar 1) tNil)))) (tOsG B newId bmB K f (tVar 0) (tVar 1)))) :
    FnOk P w K mg base (L2.CX P w) 1 fI dI ["self", p] (spI B newId bmB K f) :=
  F.okX Sc (fun vs H Q E ⟨a, C, v, e, _⟩ => by rw [e]; rfl) fun cdv A outer s H vs Q E hr ⟨a, C, v, ev, T, nf, ha, q⟩ => by
    subst ev
    exact ⟨_, hp cdv A outer s H E, _, rfl, v, rfl, a, C, [v], rfl, (show 1 ≤ 1000 from by decide), T, ha, v, rfl, _, rfl, a, C, rfl, T, nf, ha, q⟩
end
def sRaise (c f : Str) (m : ME) : MS := fun env S => match m env S with
  | .ret v S1 => .exc env ⟨c, [(f, v)]⟩ S1
  | .exc x S1 => .exc env x S1
  | .fail => .fail
section
variable {X : Cx} {W : WX} {e : Expr} {m : ME} {pp pos pos2 : Pos}
theorem ss_raise {c f p qual : Str} {B newId initId : String} {bmB : List Value} {st : Stmt} {k : Nat} (hc : X.calm = true) (T : ErrC X.K X.mg c f B newId initId bmB qual st) (Fb : ExcBaseFacts B newId initId bmB)
    (F1 : FnOk X.prog X.w X.K X.mg X.base (L2.CX X.prog X.w) k T.fI T.dI ["self", p] (spI B newId bmB X.K f)) (hbn : Binds X.K T.dI ["self", p] []) (hr : Room (k + 1) X.A) (tk : Takes X W) (he : SE X W e m) (hg : Gl X c := by rfl) (hdb : (c == ("__debug__" : Str)) = false := by decide)
    (hst : starEach [e] X.env = (false, eval e X.env) :: starEach [] X.env := by rfl) (hpl : (backTo pos (starEach [] X.env)).any (·.1) = false := by rfl) :
    SS X W (.Raise (some (.Call (.Name c pp) [e] [] pos)) none pos2) (sRaise c f m) :=
  let ⟨_, pa, qa⟩ := he
  ⟨_, ps_raise hc tk (pmk_G Fb T.o T.iC T.tI F1 hr hbn (fun _ _ _ _ _ _ _ ⟨_, _, _, _, _, _, _, _, _, _, _, _, z⟩ => z.elim) hg T.g (pa_cons pa pa_nil hst) hdb hst hpl), fun ρ env S σ H D R er h => by
    refine qa ρ env S σ H _ R er ?_
    unfold sRaise at h
    cases e : m env S with
    | fail => rw [e] at h; exact h.elim
    | exc x S1 =>
      rw [e] at h
      exact fun ρ' C d H' g R' ex' hmc xr => h ρ' σ C d H' g R' ex' (er.mono ex' g) hmc xr
    | ret v S1 =>
      rw [e] at h
      intro ρ1 v' H1 g1 R1 e1 r1
      refine ⟨(show 1 ≤ 1000 from by decide), fun a ha => ⟨a, T.C, v', by simp, T.o, T.nf, upd_same, fun dx hdx hne => ?_⟩⟩
      have hd1 : H1 dx = none := by rw [upd_ne hne] at hdx; exact hdx
      refine ⟨rfl, dx, [(f, v')], upd_same, by rw [upd_ne hne, upd_same], hd1, ?_⟩
      have eH : upd (del (upd (upd (upd H1 a (exo a T.C none)) dx (exd dx [(f, v')])) a (exo a T.C (some dx))) a) dx (.xd [(f, v')]) = upd H1 dx (.xd [(f, v')]) := by
        funext b
        by_cases hb : b = dx
        · subst hb; rw [upd_same, upd_same]
        · rw [upd_ne hb, upd_ne hb]
          by_cases hba : b = a
          · subst hba; rw [del_same, ha]
          · rw [del_ne hba, upd_ne hba, upd_ne hb, upd_ne hba]
      rw [eH]
      have ex : Ext H1 (upd H1 dx (.xd [(f, v')])) := .new hd1
      have R2 : HR X.K X.mg ρ1 S1 (upd H1 dx (.xd [(f, v')])) := R1.mono ex fun n b hn => by
        rw [upd_ne]
        intro z; subst z
        exact R1.fresh hd1 (List.mem_of_getElem? hn)
      exact h ρ1 σ T.C (some dx) _ g1 R2 (e1.trans ex) (er.mono (e1.trans ex) g1) T.g (.inl ⟨dx, _, rfl, upd_same, R1.fresh hd1, .cons ⟨rfl, r1.mono ex (.refl _)⟩ .nil⟩)⟩
end
end MP

set_option maxRecDepth 100000
namespace MP
open PySem PySem.Spec PyProof.Rows L2
/-! ### facts of error classes -/
section
variable {K : PySem.W.Frag} {mg : Str → Option Value}
/-- a class that an except clause may name -/
structure ErrB (K : PySem.W.Frag) (C : Addr) : Prop where
  x : ExcC K C
  ty : PySem.W.typeIn K (.ref C) = some (.type "type")
  ss : PySem.W.subIn K (.ref C) (.ref C) = some true
theorem ErrB.kit {C : Addr} {t : Value} {b : Bool} (T : ErrB K C) (h : PySem.W.subIn K t (.ref C) = some b) : PySem.W.kitOne K t (.ref C) = some b := by
  unfold PySem.W.kitOne
  split
  · rename_i e
    have e := eq_of_beq e
    rw [e, T.ss] at h
    exact h
  · obtain ⟨cd, hc, _⟩ := PySem.W.any_some T.x.hd
    show (if ((PySem.W.clsIn K C).isSome && PySem.W.typeIn K (.ref C) == some (.type "type")) = true then PySem.W.subIn K t (.ref C) else none) = some b
    rw [hc, T.ty, if_pos (by rfl)]
    exact h
end
abbrev bmLookupError : List Value := [.type "LookupError", .type "Exception", .type "BaseException", .type "object"]
abbrev bmValueError : List Value := [.type "ValueError", .type "Exception", .type "BaseException", .type "object"]
theorem mro_LookupError : PySem.HandSPX.MroOk bmLookupError := ⟨rfl, by decide +kernel, fun self => PySem.F.store_LookupError.passes self⟩
theorem mro_ValueError : PySem.HandSPX.MroOk bmValueError := ⟨rfl, by decide +kernel, fun self => PySem.F.store_ValueError.passes self⟩
/-- the k-th statement of a class -/
def clsB (s : Stmt) (k : Nat) : Stmt := match s with
  | .ClassDef _ _ _ b _ _ _ _ _ _ _ => b.getD k (.Pass ⟨0, 0, 0, 0⟩)
  | _ => s
section
variable {K : PySem.W.Frag} {mg : Str → Option Value} {h : Heap}
theorem errB_mk {C : Addr} (hg : PySem.W.findIn K (.ref C) "__getattribute__" = some (some (.builtin "BaseException.__getattribute__"))) (hk : PySem.W.findIn K (.ref C) "__getattr__" = some none) (hs : PySem.W.subIn K (.ref C) (.type "BaseException") = some true) (hd : PySem.W.hasDictIn K C = true)
    (ha : PySem.W.findIn K (.ref C) "__class__" = some (some (.builtin "object.__class__"))) (hn : PySem.W.specialIn K (.builtin "object.__class__") "__get__" = some (some (.builtin "getset_descriptor.__get__"))) (ht : PySem.W.takesIn K (.builtin "object.__class__") = some true) (hm : PySem.W.mroIn K C (.type "object") = some true)
    (ty : PySem.W.typeIn K (.ref C) = some (.type "type")) (ss : PySem.W.subIn K (.ref C) (.ref C) = some true) : ErrB K C := ⟨⟨hg, hk, hs, hd, ha, hn, ht, hm⟩, ty, ss⟩
theorem oexG_mk {B newId : String} {bm : List Value} (M : PySem.HandSPX.MroOk bm) {C : Addr} {nm q : Str} {N : Addr} {bs : List Value} {sn : List Str} {sub : List Value} {ab : Bool} {col : Option Bool} {dd : Option Addr} {m0 m1 m2 m3 m5 : Option Value}
    (xL : K.lookup C = some (excClassObj nm q C N bs bm true sn sub ab col dd m0 m1 m2 m3 m5 newId)) (sa : PySem.W.findIn K (.ref C) "__setattr__" = some (some (.builtin "object.__setattr__"))) (kC : PySem.W.keepIn K (.ref C) = true) (T : ErrB K C) : OexG B newId bm K C :=
  ⟨⟨nm, q, N, bs, bm, sn, sub, ab, col, dd, m0, m1, m2, m3, m5, xL, M, fun _ => rfl⟩, sa, T.x.hs, T.ty, kC⟩
end
end MP

set_option maxRecDepth 100000
namespace L2
open PySem PySem.Spec PyProof.Rows
section
variable {X : Cx}
/-! ### isinstance(x, (c1, c2, ..)), x a caught exception, or nothing -/
end
end L2
namespace MP
open PySem PySem.Spec PyProof.Rows L2
section
variable {X : Cx} {W : WX} {a : Expr} {pos : Pos} {m : ME}
def tClss : List V → TA
  | [] => tNil
  | c :: cs => tCons (tC c) (tClss cs)
inductive ClsN (X : Cx) : List Expr → List V → List Value → Prop
  | nil : ClsN X [] [] []
  | cons {x2 : Str} {c : V} {u : Value} {p2 : Pos} {es : List Expr} {cs : List V} {us : List Value} (h : ClsA X x2 c u) (t : ClsN X es cs us) (hs : starEach (.Name x2 p2 :: es) X.env = (false, eval (.Name x2 p2) X.env) :: starEach es X.env := by rfl) : ClsN X (.Name x2 p2 :: es) (c :: cs) (u :: us)
theorem ClsN.pa {es : List Expr} {cs : List V} {us : List Value} (h : ClsN X es cs us) : PA X es (tClss cs) := by
  induction h with
  | nil => exact pa_nil
  | cons h t hs ih => exact pa_cons (h.pe _) ih hs
theorem ClsN.cv {es : List Expr} {cs : List V} {us : List Value} (h : ClsN X es cs us) : Paired ClsV cs us := by
  induction h with
  | nil => exact .nil
  | cons h t hs ih => exact .cons h.cv ih
end
end MP

set_option maxRecDepth 100000
namespace MP
open PySem PySem.Spec PyProof.Rows L2
open PySem.W (EachIs AllAlike Sortable dataLe alike)
/-! ### sorted(a tuple of ints) -/
def rSortTI (K : PySem.W.Frag) : List V → Hp → VK → Prop := fun vs H Q => ∃ (a : Addr) (ns : List Int), vs = [V.ref a] ∧ SqT K H a (ns.map V.int) ∧ ns.length ≤ 1000000 ∧
  ∀ (ns' : List Int) (p : Addr), ns'.Perm ns → ns'.Pairwise (· ≤ ·) → H p = none → Q (.ref p) (upd H p (.lst (ns'.map V.int)))
theorem each_ints {RR : Value → Int → Prop} : ∀ {vs : List Value} {ns : List Int}, IntsAre vs ns → (∀ n t, RR (.int n t) n) → EachIs RR vs ns
  | _, _, .nil, _ => .nil
  | _, _, .cons n t r, h => .cons (h n t) (each_ints r h)
theorem ints_each : ∀ {vs : List Value} {ns : List Int}, EachIs (fun v i => ∃ t, v = Value.int i t) vs ns → IntsAre vs ns
  | _, _, .nil => .nil
  | _, _, .cons h r => by
    obtain ⟨t, rfl⟩ := h
    exact .cons _ t (ints_each r)
section
variable {prog : Program} {w : World} {A : Around} {E : Value → Shared → Prop} {s : Shared}
/-- a tuple's items, read into a new list: by the kit's rule for the extension -/
theorem collect_tup {l : Addr} {vs : List Value} {o : Obj} {n : Nat} {Q : List Value → Shared → Prop} (ho : s.heap.get? l = some o) (hc : o.cls = .type "tuple") (hd : o.data = .seq vs.toArray n) (hz : vs.length ≤ sizeLine)
    (h : Q vs { s with heap := (s.heap.push (seqObj "list" #[] 0)).update s.heap.objs.size (Obj.mapSeq (· ++ vs.toArray)) }) : wpAny (model prog w) A (collect (.ref l)) Q E s := by
  have hS : (s.heap.push (seqObj "list" #[] 0)).get? s.heap.objs.size = some { cls := .type "list", data := .seq #[] 0 } := Heap.get?_push_size _ rfl
  have hb : wpAny (model prog w) A (do
      let o ← load s.heap.objs.size
      match o.data with
      | .seq xs _ => pure xs.toList
      | _ => unsupported "internal:collect") Q E { s with heap := (s.heap.push (seqObj "list" #[] 0)).update s.heap.objs.size (Obj.mapSeq (· ++ vs.toArray)) } := by
    refine wpAny_bind (wpAny_load (Heap.get?_update_self _ hS rfl) (wpAny_pure ?_))
    have e : ((#[] : Array Value) ++ vs.toArray).toList = vs := by simp
    show Q ((#[] : Array Value) ++ vs.toArray).toList _
    rw [e]; exact h
  unfold collect
  refine wpAny_bind (wpAny_runValue (codeAny_builtin entry_proto_collect' (wpAny_bind (wpAny_newList (wpAny_pure ⟨Code.quiet_builtin _ (by decide +kernel), codeAny_builtin entry_list_iadd' ?_⟩)))))
  rw [Around.under_plainId F.plain_list_iadd _]
  generalize hg : (s.heap.push (seqObj "list" #[] 0)).update s.heap.objs.size (Obj.mapSeq (· ++ vs.toArray)) = g at hb
  have hx := wpAny_extend_seq (prog := prog) (w := w) (A := A) (R := fun r s' => r = Except.ok (Flow.ret (Value.ref s.heap.objs.size)) ∧ s' = { s with heap := g }) (s := { s with heap := s.heap.push (seqObj "list" #[] 0) }) s.heap.objs.size l (Value.ref s.heap.objs.size) 0 (.inr rfl) hS (Heap.get?_push_of_some _ ho) hc hd ⟨rfl, by rw [← hg]⟩ (by simpa using hz)
  refine wpAny_mono hx (fun fin s' q => ?_) fun e s' q => (nomatch q.1)
  cases fin with
  | done f => obtain ⟨e, rfl⟩ := q; cases e; exact hb
  | again c => exact ⟨q.1, codeAny_mono q.2 fun r s2 z => by obtain ⟨rfl, rfl⟩ := z; exact hb⟩
end
section
variable {X : Cx}
theorem cr_sortTI (hu : X.A.units + 80 < cLine) : CallR X (.builtin "sorted") (rSortTI X.K) := by
  intro pins s σ H vs us Q I r h
  obtain ⟨a, ns, rfl, hs, hlen, q⟩ := h
  rw [Vals.ref1 r]
  obtain ⟨its, rv, ⟨o, ho, hc, n, hd⟩, hz⟩ := I.tuple hs
  have hi := rv.ints
  have hl2 : its.length = ns.length := by have := rv.length; rw [List.length_map] at this; exact this.symm
  refine sorted_core (β := Int) (enc := fun i => .int i) (R := fun v i => ∃ t, v = Value.int i t) ?_
  refine collect_tup ho hc hd (by rw [hl2, sizeLine_eq]; omega) ?_
  have k1 : ∀ b u, s.heap.get? b = some u → ((s.heap.push (seqObj "list" #[] 0)).update s.heap.objs.size (Obj.mapSeq (· ++ its.toArray))).get? b = some u := fun b u e =>
    (Heap.get?_update_ne _ _ _ _ (Nat.ne_of_lt (Heap.lt_size e))).trans (Heap.get?_push_of_some _ e)
  have hz1 : s.heap.objs.size ≤ ((s.heap.push (seqObj "list" #[] 0)).update s.heap.objs.size (Obj.mapSeq (· ++ its.toArray))).objs.size := by
    rw [Heap.size_update, Heap.size_push]; exact Nat.le_succ _
  generalize ((s.heap.push (seqObj "list" #[] 0)).update s.heap.objs.size (Obj.mapSeq (· ++ its.toArray))) = g1 at k1 hz1 ⊢
  refine ⟨ns, each_ints hi fun n t => ⟨t, rfl⟩, each_ints hi fun n t => ⟨[], .int n t⟩, fun d hd d' hd' => ?_, .inr fun d hd => ?_, by rw [sizeLine_eq]; omega, fun i _ => by show X.A.units + 60 + 0 < cLine; omega, fun h2 p out c k2 hp2 hat hl eo => ?_⟩
  · obtain ⟨i, _, rfl⟩ := List.mem_map.mp hd
    obtain ⟨j, _, rfl⟩ := List.mem_map.mp hd'
    rfl
  · obtain ⟨i, _, rfl⟩ := List.mem_map.mp hd
    exact ⟨fun z => (by cases z), fun xs z => (by cases z)⟩
  · have ei := ints_each eo
    have hsz : s.heap.objs.size ≤ p := Nat.le_trans hz1 hp2
    have hp := List.mergeSort_perm ns (dataLe false fun i => PyData.int i)
    have hsrt : (ns.mergeSort (dataLe false fun i => PyData.int i)).Pairwise (· ≤ ·) := by
      rw [PySem.W.dataLe_int]
      exact (List.pairwise_mergeSort (le := fun a b : Int => decide (a ≤ b)) (fun a b c h1 h2 => by simp at *; omega) (fun a b => by simp; omega) ns).imp fun h => by simpa using h
    have hn : H p = none := I.hok.fresh hsz
    have hlen2 : ((ns.mergeSort (dataLe false fun i => PyData.int i)).map V.int).length ≤ sizeLine := by rw [List.length_map, hp.length_eq, sizeLine_eq]; omega
    have keep : ∀ b u, s.heap.get? b = some u → h2.get? b = some u := fun b u e => k2 b u (k1 b u e)
    have J : Inv X pins σ (upd H p (.lst ((ns.mergeSort (dataLe false fun i => PyData.int i)).map V.int))) { s with heap := h2 } :=
      I.call (ch := []) (Un.laid keep hsz hn) (I.hok.laid keep hsz ⟨hlen2, _, c, vals_of_ints ei, hat⟩) I.bare (fun _ z => nomatch z)
    exact ⟨.ref p, _, J, rfl, q _ p hp hsrt hn⟩
end
def oSortT : List PV → Ms → Out PV
  | [.tup xs], S => (match intsP xs with
    | some ns => if ns.length ≤ 1000000 then .ret (.loc S.length) (S ++ [.lst ((sortI ns).map PV.int)]) else .fail
    | none => .fail)
  | _, _ => .fail
section
variable {X : Cx} {W : WX}
theorem o_sortT : OL X W oSortT (rSortTI X.K) := by
  intro ρ S H σ Q x x' R r h
  unfold oSortT at h
  split at h
  · rename_i xx xs
    obtain ⟨v, rfl, rv⟩ := vrs1 r
    split at h
    · rename_i ns q
      split at h
      · rename_i hl
        have e := ints_ok q
        subst e
        cases rv with
        | tup hx ax =>
          have := VRs.ints_inv ax
          subst this
          refine ⟨_, ns, rfl, ?_, hl, fun ns' p hp hle hn => ?_⟩
          · first | exact hx | exact .inl hx | exact SqT.of hx
          · have e2 : ns' = sortI ns := sorted_uniq (hp.trans (sortI_perm _).symm) hle (sortI_sorted _)
            subst e2
            exact new_list R (VRs.ints _) h hn
      · exact h.elim
    · exact h.elim
  · exact h.elim
end
end MP

set_option maxRecDepth 100000
namespace PySem
open Sem (wp)
section
variable {prog : Program} {w : World} {A : Around} {E : Value → Shared → Prop} {s : Shared}
end
end PySem
namespace MP
open PySem PySem.Spec PyProof.Rows L2
/-! ### dict(enumerate(a list or a tuple)) -/
section
variable {X : Cx} {W : WX} {a : Expr} {ml : ML} {p1 p2 pos2 pos : Pos}
end
end MP

set_option maxRecDepth 100000
namespace MP
open PySem PySem.Spec PyProof.Rows L2
open PySem.W (EachIs AllAlike Sortable dataLe alike)
/-! ### sorted(a dict): its keys -/
def intK : Key → Option Int
  | .inl i => some i
  | .inr _ => none
def intKs : List Key → Option (List Int)
  | [] => some []
  | k :: r => match intK k, intKs r with | some i, some is => some (i :: is) | _, _ => none
theorem intKs_ok : ∀ {ks : List Key} {ns : List Int}, intKs ks = some ns → ks = ns.map Sum.inl
  | [], ns, h => by cases h; rfl
  | k :: r, ns, h => by
    unfold intKs at h
    cases k with
    | inr z => simp [intK] at h
    | inl i =>
      cases e : intKs r with
      | none => rw [e] at h; simp [intK] at h
      | some is =>
        rw [e] at h
        simp only [intK, Option.some.injEq] at h
        subst h
        rw [intKs_ok e]; rfl
def intKss : List (List Key) → Option (List (List Int))
  | [] => some []
  | k :: r => match intKs k, intKss r with | some i, some is => some (i :: is) | _, _ => none
theorem intKss_ok : ∀ {ks : List (List Key)} {ns : List (List Int)}, intKss ks = some ns → ks = ns.map fun k => k.map Sum.inl
  | [], ns, h => by cases h; rfl
  | k :: r, ns, h => by
    unfold intKss at h
    cases e1 : intKs k with
    | none => rw [e1] at h; simp at h
    | some i =>
      cases e : intKss r with
      | none => rw [e] at h; rw [e1] at h; simp at h
      | some is =>
        rw [e, e1] at h
        simp only [Option.some.injEq] at h
        subst h
        rw [intKss_ok e, intKs_ok e1]; rfl
def rSortDK : List V → Hp → VK → Prop := fun xs H Q => ∃ (a : Addr) (kvs : List (Key × V)) (ks : List Int), xs = [.ref a] ∧ Rd H a (.dK kvs) ∧ kvs.map (·.1) = ks.map Sum.inl ∧ ks.length < 64 ∧
    ∀ (ys : List Int) (p : Addr), ys.Perm ks → ys.Pairwise (· ≤ ·) → H p = none → Q (.ref p) (upd H p (.lst (ys.map V.int)))
def rSortDT : List V → Hp → VK → Prop := fun xs H Q => ∃ (a : Addr) (kvs : List (List Key × V)) (ks : List (List Int)), xs = [.ref a] ∧ Rd H a (.dT kvs) ∧ kvs.map (·.1) = ks.map (fun k => k.map Sum.inl) ∧ (∀ k ∈ ks, k ≠ []) ∧ ks.length ≤ 1000000 ∧
    ∀ (L : List (Addr × List Int)) (p : Addr), L.map (·.2) = ks → (∀ q ∈ L, H q.1 = some (.tup (q.2.map V.int))) → H p = none → Q (.ref p) (upd H p (.lst ((sortT L).map fun q => V.ref q.1)))
/-- the addresses of the keys -/
theorem keys_L {H : Hp} : ∀ {kvs : List (List Key × V)} {bs : List Addr} {ks : List (List Int)}, IsKeys H kvs bs → kvs.map (·.1) = ks.map (fun k => k.map Sum.inl) →
    ∃ L : List (Addr × List Int), L.map (·.1) = bs ∧ L.map (·.2) = ks ∧ ∀ q ∈ L, H q.1 = some (.tup (q.2.map V.int))
  | _, _, ks, .nil, h => ⟨[], rfl, (by cases ks <;> first | rfl | cases h), fun _ h => nomatch h⟩
  | _, _, ks, .cons (a := kv) (b := b) h t, e => by
    cases ks with
    | nil => cases e
    | cons k ks =>
      rw [List.map_cons, List.map_cons] at e
      obtain ⟨e1, e2⟩ := List.cons.inj e
      obtain ⟨L, l1, l2, l3⟩ := keys_L t e2
      refine ⟨(b, k) :: L, by rw [List.map_cons, l1], by rw [List.map_cons, l2], fun q hq => ?_⟩
      rcases List.mem_cons.mp hq with rfl | hq
      · have h : H b = some (.tup (kv.1.map kV)) := h
        rw [h, e1, List.map_map]
        rfl
      · exact l3 q hq
section
variable {X : Cx}
theorem cr_sortDT (hc : X.calm = true) (hu : X.A.units + 80 < cLine) : CallR X (.builtin "sorted") rSortDT := by
  intro pins s σ H vs us Q I r h
  obtain ⟨d, kvs, ks, rfl, hd, hks, hne, hlen, q⟩ := h
  obtain ⟨u, rfl, rx⟩ := r.one
  cases rx
  obtain ⟨z, hs, xs, pr, o, es, ep, ho, hx, hdt, he, hn⟩ := (show ObjOk X.prog X.w H s.heap d (.dT kvs) from hd.ok I.hok)
  have l1 : es.size = xs.length := size_of_entries he
  have l2 : kvs.length = xs.length := Paired.length pr
  obtain ⟨L, e1, e2, hL⟩ := keys_L (isKeys_of pr) hks
  have l3 : L.length = ks.length := by rw [← e2, List.length_map]
  have l4 : L.length = xs.length := by have := congrArg List.length e1; rw [List.length_map, List.length_map] at this; exact this
  have each : ∀ {RR : Value → Addr × List Int → Prop} {l : List (Addr × List Int)}, (∀ p ∈ l, RR (.ref p.1) p) → EachIs RR (l.map fun p => Value.ref p.1) l := by
    intro RR l
    induction l with
    | nil => intro _; exact .nil
    | cons x l ih => intro h; exact .cons (h x (by simp)) (ih fun p hp => h p (List.mem_cons_of_mem _ hp))
  refine sorted_core (β := Addr × List Int) (enc := fun p => tD p.2) (R := fun v p => v = Value.ref p.1) ?_
  refine PySem.W.kdu_collect (A := X.A.in1) (kdl_raw hs hx hdt) (I.ok.hd hc) ho (by rw [l1, ← l4, l3, sizeLine_eq]; omega) fun g1 tk0 acc k1 it => ?_
  have ea : acc.toList = L.map fun p => Value.ref p.1 := by
    have : acc.toList = xs.map fun x => Value.ref x.2.1 := by
      have hl : acc.toList.length = xs.length := by rw [Array.length_toList, it.1]; exact l1
      apply List.ext_getElem?
      intro j
      rw [List.getElem?_map]
      cases hj : acc.toList[j]? with
      | none =>
        have h1 := List.getElem?_eq_none_iff.mp hj
        rw [List.getElem?_eq_none (by omega)]
        all_goals rfl
      | some v =>
        obtain ⟨en, hen, hv⟩ := it.2 j v (by rw [← Array.getElem?_toList]; exact hj)
        have qe := entry_at he j
        rw [hen] at qe
        cases hb : xs[j]? with
        | none =>
          rw [hb] at qe
          exact nomatch (show some en = none from qe)
        | some b =>
          rw [hb] at qe
          have e2 : en = entryOfKey (tupleKind (mixKind X.prog X.w)) b := Option.some.inj qe
          rw [hv, e2]
          all_goals rfl
    rw [this]
    have e3 : (xs.map fun x => Value.ref x.2.1) = (L.map (·.1)).map Value.ref := by rw [e1, List.map_map]; rfl
    rw [e3, List.map_map]; rfl
  have tk : ∀ p ∈ L, IsT X.prog X.w g1 p.2 p.1 := fun p hp => isT_keep (I.isT (SqT.of (hL p hp))) fun b u e => k1 b u e
  have I1 : Inv X pins σ H { s with heap := g1, toks := tk0 } := I.kept (t' := tk0) k1
  rw [ea]
  refine ⟨L, each fun _ _ => rfl, each fun p hp => isT_reads (tk p hp), all_alike, .inl fun d hd => ?_, by rw [sizeLine_eq]; omega, fun p _ => by rw [tD_depth]; omega, fun h2 p out c k2 hp2 hat hl eo => ?_⟩
  · obtain ⟨p, hp, rfl⟩ := List.mem_map.mp hd
    have := hne p.2 (by rw [← e2]; exact List.mem_map.mpr ⟨p, hp, rfl⟩)
    cases e : p.2 with
    | nil => exact absurd e this
    | cons y ys => exact ⟨.int y, ys.map .int, by simp [tD]⟩
  · have hout : out = (sortT L).map fun p => Value.ref p.1 := by
      have g : ∀ {vs : List Value} {l : List (Addr × List Int)}, EachIs (fun v p => v = Value.ref p.1) vs l → vs = l.map fun p => Value.ref p.1 := by
        intro vs l e
        induction e with
        | nil => rfl
        | cons h _ ih => rw [h, ih]; rfl
      exact g eo
    subst hout
    have hn : H p = none := I1.hok.fresh hp2
    have hlen2 : ((sortT L).map fun q => V.ref q.1).length ≤ sizeLine := by rw [List.length_map, sizeLine_eq]; rw [List.length_map] at hl; omega
    have J : Inv X pins σ (upd H p (.lst ((sortT L).map fun q => V.ref q.1))) { s with heap := h2, toks := tk0 } :=
      L2.Inv.call (s := { s with heap := g1, toks := tk0 }) I1 (ch := []) (Un.laid k2 hp2 hn) (I1.hok.laid k2 hp2 ⟨hlen2, _, c, vals_of_refs (sortT L), hat⟩) I1.bare (fun _ z => nomatch z)
    exact ⟨.ref p, _, J, rfl, q L p e2 hL hn⟩
end
def oSortedB : List PV → Ms → Out PV
  | [x], S => (match x with
    | .loc n => (match S[n]? with
      | some (.dK kvs) => (match intKs (kvs.map (·.1)) with
        | some ns => if ns.length < 64 then .ret (.loc S.length) (S ++ [.lst ((sortI ns).map PV.int)]) else .fail
        | none => .fail)
      | some (.dT kvs) => (match intKss (kvs.map (·.1)) with
        | some ks => if ks.length ≤ 1000000 ∧ ∀ k ∈ ks, k ≠ [] then .ret (.loc S.length) (S ++ [.lst ((sortL ks).map tupP)]) else .fail
        | none => .fail)
      | _ => .fail)
    | _ => .fail)
  | _, _ => .fail
section
variable {X : Cx} {W : WX} {H : Hp} {ρ : List Addr} {S : Ms}
theorem kvr_keys {κ : Type} {K : PySem.W.Frag} {xs : List (κ × PV)} {vs : List (κ × V)} (h : KVR K H ρ xs vs) : vs.map (·.1) = xs.map (·.1) := by
  unfold KVR at h
  induction h with
  | nil => rfl
  | cons h t ih => rw [List.map_cons, List.map_cons, ih, h.1]
theorem cr_sortedB (hc : X.calm = true) (hu : X.A.units + 80 < cLine) : CallR X (.builtin "sorted") (fun vs H Q => rSortDK vs H Q ∨ rSortDT vs H Q) := call_or (call_sortedDI hc) (cr_sortDT hc hu)
theorem o_sortedB : OL X W oSortedB (fun vs H Q => rSortDK vs H Q ∨ rSortDT vs H Q) := by
  intro ρ S H σ Q x x' R r h
  unfold oSortedB at h
  split at h
  · rename_i xx
    obtain ⟨v, rfl, rv⟩ := vrs1 r
    split at h
    · rename_i n
      cases rv with
      | loc en =>
        rename_i a
        split at h
        · rename_i kvs eo
          obtain ⟨vs, h1, h2⟩ := R.dK en eo
          split at h
          · rename_i ns q
            split at h
            · rename_i hq
              refine .inl ⟨a, vs, ns, rfl, .of h1, by rw [kvr_keys h2, intKs_ok q], hq, fun ys p hp hle hn => ?_⟩
              have e2 : ys = sortI ns := sorted_uniq (hp.trans (sortI_perm _).symm) hle (sortI_sorted _)
              subst e2
              exact new_list R (VRs.ints _) h hn
            · exact h.elim
          · exact h.elim
        · rename_i kvs eo
          obtain ⟨vs, h1, h2⟩ := R.dT en eo
          split at h
          · rename_i ks q
            split at h
            · rename_i hq
              refine .inr ⟨a, vs, ks, rfl, .of h1, by rw [kvr_keys h2, intKss_ok q], hq.2, hq.1, fun L p e2 hL hn => ?_⟩
              have hs2 : ∀ p ∈ sortT L, H p.1 = some (.tup (p.2.map V.int)) := fun p hpp => hL p ((List.mergeSort_perm _ _).subset hpp)
              have r2 : VRs X.K H ρ ((sortL ks).map tupP) ((sortT L).map fun q => V.ref q.1) := by
                rw [← e2, ← sortT_snd, List.map_map]; exact vrs_refs hs2
              exact new_list R r2 h hn
            · exact h.elim
          · exact h.elim
        · exact h.elim
    · exact h.elim
  · exact h.elim
end
/-! ### a loop over a dict: the dict is locked -/
theorem ER.monoW {K : PySem.W.Frag} {H H' : Hp} {ρ : List Addr} (e : ExtW H H') {env : Env'} {σ : List (Option V)} (h : ER K H ρ env σ) : ER K H' ρ env σ :=
  Paired.mapP h fun _ _ z x ex => let ⟨v, h1, h2⟩ := z x ex; ⟨v, h1, h2.monoW e⟩
section
variable {X : Cx} {W : WX} {st : Stmt} {tg : Expr} {m : MS}
end
end MP

set_option maxRecDepth 100000
namespace MP
open PySem PySem.Spec PyProof.Rows L2
/-! ### t.index(x) of a tuple of ints -/
section
variable {X : Cx}
end
/-! ### a tuple whose object is known: it has methods -/
section
variable {X : Cx}
end
section
variable {X : Cx} {W : WX} {o e : Expr} {m : ME} {ml : ML} {apos cpos : Pos}
theorem HR.ftp {ρ : List Addr} {S : Ms} {H : Hp} {n : Nat} {a : Addr} {ns : List Int} (R : HR X.K X.mg ρ S H) (h : ρ[n]? = some a) (e : S[n]? = some (.ftp ns)) : ∃ oj, H a = some (.frz oj (.tup (ns.map V.int))) ∧ oj.dict = none := by
  obtain ⟨ho, h1, h2⟩ := R.get h e
  cases h2 with
  | ftp r => exact ⟨_, h1, r⟩
end
end MP

set_option maxRecDepth 100000
namespace L2
open PySem PySem.Spec PyProof.Rows
section
variable {X : Cx} {CX : CXT} {E : L2.St → XK} {pos : Pos} {e fe : Expr} {es : List Expr} {t : TA} {tf : TE}
/-! ### a call whose callee is an expression with the value of one of some defs -/
end
end L2
namespace MP
open PySem PySem.Spec PyProof.Rows L2
section
variable {X : Cx} {W : WX} {a b e idx : Expr} {es fe : List Expr} {pos sp : Pos} {ml : ML}
/-! ### an int that is read without a trace -/
/-! ### [f, g, ..][i](a, ..) -/
def FnI (X : Cx) (np : Nat) (f : Addr) (G : List PV → Ms → Out PV) : Prop := ∃ lv fd ps, FnOk X.prog X.w X.K X.mg X.base (L2.CX X.prog X.w) lv f fd ps (spF X.K X.mg np G) ∧ ps.length = np ∧ Room lv X.A ∧ PySem.W.keepIn X.K (.ref f) = true ∧ Binds X.K fd ps []
inductive FnIs (X : Cx) (np : Nat) : List Expr → List Addr → List (List PV → Ms → Out PV) → Prop
  | nil : FnIs X np [] [] []
  | cons {x : Str} {f : Addr} {G : List PV → Ms → Out PV} {p : Pos} {es : List Expr} {fs : List Addr} {Gs : List (List PV → Ms → Out PV)} (h : FnI X np f G) (hm : X.mg x = some (.ref f)) (t : FnIs X np es fs Gs) (hg : Gl X x := by rfl) (hd : (x == ("__debug__" : Str)) = false := by decide)
    (hs : starEach (.Name x p :: es) X.env = (false, eval (.Name x p) X.env) :: starEach es X.env := by rfl) : FnIs X np (.Name x p :: es) (f :: fs) (G :: Gs)
theorem FnIs.pa {np : Nat} {es : List Expr} {fs : List Addr} {Gs : List (List PV → Ms → Out PV)} (h : FnIs X np es fs Gs) : PA X es (tClss (fs.map V.ref)) := by
  induction h with
  | nil => exact pa_nil
  | cons h hm t hg hd hs ih => exact pa_cons (pe_glob hg hm rfl hd) ih hs
theorem FnIs.get {np : Nat} {es : List Expr} {fs : List Addr} {Gs : List (List PV → Ms → Out PV)} (h : FnIs X np es fs Gs) : ∀ {i : Nat} {G : List PV → Ms → Out PV}, Gs[i]? = some G → ∃ f, fs[i]? = some f ∧ FnI X np f G := by
  induction h with
  | nil => intro i G h; simp at h
  | @cons x f G0 p es fs Gs h hm t hg hd hs ih =>
    intro i G q
    cases i with
    | zero => cases q; exact ⟨f, rfl, h⟩
    | succ i => exact ih q
theorem FnIs.each {np : Nat} {es : List Expr} {fs : List Addr} {Gs : List (List PV → Ms → Out PV)} (h : FnIs X np es fs Gs) : fs.length = Gs.length := by
  induction h with
  | nil => rfl
  | cons h hm t hg hd hs ih => simp [ih]
end
end MP

set_option maxRecDepth 100000
namespace L2
open PySem PySem.Spec PyProof.Rows
/-! ### an except clause over a tuple of any number of classes -/
section
variable {M : Model} {A : Around} {E : Value → Shared → Prop}
end
section
variable {M : Model} {K : PySem.W.Frag}
/-- the classes of the clause, by name -/
inductive NameCls (X : Cx) : List Expr → List Value → Prop
  | nil : NameCls X [] []
  | cons {x : Str} {c : Value} {p : Pos} {es : List Expr} {cs : List Value} (g : Gl X x) (m : X.mg x = some c) (t : NameCls X es cs) (d : (x == ("__debug__" : Str)) = false := by decide) (h : starEach (.Name x p :: es) X.env = (false, eval (.Name x p) X.env) :: starEach es X.env := by rfl) : NameCls X (.Name x p :: es) (c :: cs)
theorem NameCls.items {X : Cx} {a : Addr} {pn pins : List (Addr × Obj)} {σ : L2.St} {H : Hp} {s : Shared} {E : Value → Shared → Prop} {tp : Pos} (I : Inv (X.suite a pn) pins σ H s) {es : List Expr} {cs : List Value} (h : NameCls X es cs) : ∀ {Q : List Value → Shared → Prop}, Q cs s → wpAny (model X.prog X.w) (X.A.mark (some (.ref a))) (spliced (backTo tp (starEach es X.env))) Q E s := by
  induction h with
  | nil => intro Q q; exact wpAny_items_nil q
  | cons g m t d h ih => intro Q q; exact wpAny_items_cons (ld_glob (X := X.suite a pn) I g m (ih (Q := fun vs s2 => Q (_ :: vs) s2) q) d) h
end
end L2
namespace L2
open PySem PySem.Spec PyProof.Rows
end L2

set_option maxRecDepth 100000
namespace MP
open PySem PySem.Spec PyProof.Rows L2
/-! ### zip(a tuple, a list) -/
def ItzM (K : PySem.W.Frag) (a b : Addr) : It :=
  ⟨fun i H => ∃ (xs ys : List V) (x y : V), SqT K H a xs ∧ SqL K H b ys ∧ xs[i]? = some x ∧ ys[i]? = some y,
    fun i H v H' => ∃ T x y, v = .ref T ∧ H T = none ∧ H' = upd H T (.tup [x, y]) ∧ (∀ xs, SqT K H a xs → xs[i]? = some x) ∧ ∀ ys, SqL K H b ys → ys[i]? = some y,
    fun i H => ∃ xs ys : List V, SqT K H a xs ∧ SqL K H b ys ∧ (xs.length ≤ i ∨ ys.length ≤ i)⟩
theorem drawsT_end {prog : Program} {w : World} {A : Around} (hh : A.handled = none) (it l : Addr) (items : Array Value) {n : Nat} (hn : items[n]? = none) :
    Draws prog w A it [it, l] n (fun _ _ => True) (fun i h => i = n ∧ h.IsTupleIter it l n ∧ h.IsTuple l items) where
  live := fun _ _ st => let ⟨o, ho, _⟩ := st.2.1; ⟨o, ho⟩
  frame := fun _ _ _ st hk => ⟨st.1, st.2.1.at fun o e => hk it (by simp) o e, st.2.2.at fun o e => hk l (by simp) o e⟩
  item := fun i s Q E hi st hQ => absurd st.1 (Nat.ne_of_lt hi)
  done := fun s Q E st hE => wpAny_nextOf_tuple_end hh st.2.1 st.2.2 hn hE
theorem drawsL_end {prog : Program} {w : World} {A : Around} (hh : A.handled = none) (it l : Addr) (items : Array Value) {n : Nat} (hn : items[n]? = none) :
    Draws prog w A it [it, l] n (fun _ _ => True) (fun i h => i = n ∧ h.IsListIter it l n ∧ h.IsList l items) where
  live := fun _ _ st => let ⟨o, ho, _⟩ := st.2.1; ⟨o, ho⟩
  frame := fun _ _ _ st hk => ⟨st.1, st.2.1.at fun o e => hk it (by simp) o e, st.2.2.at fun o e => hk l (by simp) o e⟩
  item := fun i s Q E hi st hQ => absurd st.1 (Nat.ne_of_lt hi)
  done := fun s Q E st hE => wpAny_nextOf_list_end hh st.2.1 st.2.2 hn hE
theorem turn_zipM {P : Program} {w : World} {K : PySem.W.Frag} {elts : List Expr} {kk : Nat} {tpos : Pos} {a b z TI TO i1 i2 : Addr} (D : ZipSep2 z TI TO i1 i2 [i1, a] [i2, b]) (hai : a ≠ i1) (hbi : b ≠ i2) :
    Turn P w K (.Tuple elts kk tpos) (ItzM K a b) [z, TI, TO, i1, i2] z (fun i h => IsZip h z TI TO .none ∧ IsTupOf2 h TI (.ref i1) (.ref i2) ∧ (∃ x y, IsTupOf2 h TO x y) ∧ h.IsTupleIter i1 a i ∧ h.IsListIter i2 b i) where
  mem := by simp
  obj := fun i h st c hc => by
    obtain ⟨hz, hTI, ⟨x, y, hTO⟩, ⟨o1, e1, _, d1⟩, ⟨o2, e2, _, d2⟩⟩ := st
    have e' : c = z ∨ c = TI ∨ c = TO ∨ c = i1 ∨ c = i2 := by simpa using hc
    rcases e' with q | q | q | q | q
    · rw [q]; exact ⟨_, hz, fun v q => nomatch q⟩
    · rw [q]; exact ⟨_, hTI, fun v q => nomatch q⟩
    · rw [q]; exact ⟨_, hTO, fun v q => nomatch q⟩
    · rw [q]; exact ⟨o1, e1, fun v q => by rw [d1] at q; cases q⟩
    · rw [q]; exact ⟨o2, e2, fun v q => by rw [d2] at q; cases q⟩
  keep := fun i h h' st k => let ⟨hz, hTI, ⟨x, y, hTO⟩, h1, h2⟩ := st; ⟨k z (by simp) _ hz, k TI (by simp) _ hTI, ⟨x, y, k TO (by simp) _ hTO⟩, h1.at fun o q => k i1 (by simp) o q, h2.at fun o q => k i2 (by simp) o q⟩
  item := by
    intro X hP hw hK hc i pins s σ H E I hf st hg
    subst hP hw hK
    obtain ⟨hz, hTI, ⟨x0, y0, hTO⟩, h1, h2⟩ := st
    obtain ⟨xs, ys, x, y, hqx, hqy, hx, hy⟩ := hg
    obtain ⟨its, rv, p, _⟩ := I.tuple hqx
    obtain ⟨its2, rv2, p2, _⟩ := I.list hqy
    obtain ⟨u, hu, ru⟩ := rv.get hx
    obtain ⟨u2, hu2, ru2⟩ := rv2.get hy
    have hzl : z < s.heap.objs.size := Heap.lt_size hz
    have hlt1 : i < its.toArray.size := by simpa using (List.getElem?_eq_some_iff.mp hu).1
    have hlt2 : i < its2.toArray.size := by simpa using (List.getElem?_eq_some_iff.mp hu2).1
    refine wpAny_pyNext_zipD2_item D (Draws.tuple (prog := X.prog) (w := X.w) (A := X.A.in1) (I.ok.hd hc) i1 a hai its.toArray) (Draws.list (prog := X.prog) (w := X.w) (A := X.A.in1) (I.ok.hd hc) i2 b hbi its2.toArray) hz hTI hTO ⟨h1, p⟩ ⟨h2, p2.isList⟩ hlt1 hlt2 fun x1 x2 h' tk hP1 hP2 z' TO' s1' s2' hT hsz hk => ?_
    obtain rfl : x1 = u := by
      have hu' : its.toArray[i]? = some u := by simpa using hu
      have hP' : its.toArray[i]? = some x1 := hP1
      rw [hu'] at hP'; cases hP'; rfl
    obtain rfl : x2 = u2 := by
      have hu' : its2.toArray[i]? = some u2 := by simpa using hu2
      have hP' : its2.toArray[i]? = some x2 := hP2
      rw [hu'] at hP'; cases hP'; rfl
    refine ⟨_, rfl, wpAny_letOwnedTupleGo_zip (s := { s with heap := h', toks := tk }) z' fun h'' z'' sb => ?_⟩
    have hT2 : h''.get? s.heap.objs.size = some { cls := .type "tuple", data := .seq #[x1, x2] } := (sb.2 _ (Nat.ne_of_gt hzl)).trans hT
    have new : ObjOk X.prog X.w (upd H s.heap.objs.size (.tup [x, y])) h'' s.heap.objs.size (.tup [x, y]) :=
      ⟨by show 2 ≤ sizeLine; decide, [x1, x2], .cons ru (.cons ru2 .nil), ⟨_, hT2, rfl, _, rfl⟩⟩
    have I1 : Inv X pins σ (upd H s.heap.objs.size (.tup [x, y])) { s with heap := h'', toks := tk } :=
      I.turnedNew (t' := tk) (ch := [z, TI, TO, i1, i2]) (fun c o hb q => (sb.2 c (fun q' => hb (by simp [q']))).trans (hk c o (fun q' => hb (by simp [q'])) (fun q' => hb (by simp [q'])) (fun q' => hb (by simp [q'])) (fun q' => hb (by simp [q'])) q)) hf (Nat.le_refl _) new
    refine ⟨.ref s.heap.objs.size, _, I1, rfl, ⟨_, x, y, rfl, I.hok.fresh (Nat.le_refl _), rfl, fun l hl => by rw [I.tuple_inj hl hqx]; exact hx, fun l hl => by rw [I.list_inj hl hqy]; exact hy⟩, ⟨z'', ?_, ⟨x1, x2, ?_⟩, ?_, ?_⟩, fun c hcm => ?_⟩
    · exact (sb.2 _ D.TIz).trans (hk _ _ D.TIz D.TITO D.TIi1 D.TIi2 hTI)
    · exact (sb.2 _ D.TOz).trans TO'
    · exact s1'.1.at fun o q => (sb.2 _ (Ne.symm D.zi1)).trans q
    · exact s2'.1.at fun o q => (sb.2 _ (Ne.symm D.zi2)).trans q
    · have hlt : c < s.heap.objs.size := by
        have e' : c = z ∨ c = TI ∨ c = TO ∨ c = i1 ∨ c = i2 := by simpa using hcm
        rcases e' with q | q | q | q | q
        · rw [q]; exact hzl
        · rw [q]; exact Heap.lt_size hTI
        · rw [q]; exact Heap.lt_size hTO
        · rw [q]; obtain ⟨_, e1, _⟩ := h1; exact Heap.lt_size e1
        · rw [q]; obtain ⟨_, e2, _⟩ := h2; exact Heap.lt_size e2
      rw [upd_ne (Nat.ne_of_lt hlt)]
      exact (hf c hcm).1
  done := by
    intro X hP hw hK hc i pins s σ H E I hf st hg
    subst hP hw hK
    obtain ⟨hz, hTI, ⟨x0, y0, hTO⟩, h1, h2⟩ := st
    obtain ⟨xs, ys, hqx, hqy, hend⟩ := hg
    obtain ⟨its, rv, p, _⟩ := I.tuple hqx
    obtain ⟨its2, rv2, p2, _⟩ := I.list hqy
    have l1 := rv.length
    have l2 := rv2.length
    have fin : ∀ (h' : Heap) (tk : Nat), (∀ c o, c ≠ z → c ≠ TO → c ≠ i1 → c ≠ i2 → s.heap.get? c = some o → h'.get? c = some o) → Inv X pins σ H { s with heap := h', toks := tk } := fun h' tk hk =>
      I.turnedL (t' := tk) (ch := [z, TI, TO, i1, i2]) (fun c o hb q => hk c o (fun q' => hb (by simp [q'])) (fun q' => hb (by simp [q'])) (fun q' => hb (by simp [q'])) (fun q' => hb (by simp [q'])) q) hf
    have D1n := Draws.tuple (prog := X.prog) (w := X.w) (A := X.A.in1) (I.ok.hd hc) i1 a hai its.toArray
    have D2n := Draws.list (prog := X.prog) (w := X.w) (A := X.A.in1) (I.ok.hd hc) i2 b hbi its2.toArray
    by_cases c1 : its.length ≤ i
    · have D1 := drawsT_end (prog := X.prog) (w := X.w) (A := X.A.in1) (I.ok.hd hc) i1 a its.toArray (n := i) (by simp; omega)
      by_cases c2 : its2.length ≤ i
      · have D2 := drawsL_end (prog := X.prog) (w := X.w) (A := X.A.in1) (I.ok.hd hc) i2 b its2.toArray (n := i) (by simp; omega)
        exact wpAny_pyNext_zipD2_end (i := i) D D1 D2 hz hTI hTO ⟨rfl, h1, p⟩ ⟨rfl, h2, p2.isList⟩ (Nat.le_refl _) (Nat.le_refl _) (.inl rfl) fun h' tk hk => ⟨rfl, fin h' tk hk⟩
      · exact wpAny_pyNext_zipD2_end (i := i) D D1 D2n hz hTI hTO ⟨rfl, h1, p⟩ ⟨h2, p2.isList⟩ (Nat.le_refl _) (by simp; omega) (.inl rfl) fun h' tk hk => ⟨rfl, fin h' tk hk⟩
    · have c2 : its2.length ≤ i := by omega
      have D2 := drawsL_end (prog := X.prog) (w := X.w) (A := X.A.in1) (I.ok.hd hc) i2 b its2.toArray (n := i) (by simp; omega)
      exact wpAny_pyNext_zipD2_end (i := i) D D1n D2 hz hTI hTO ⟨h1, p⟩ ⟨rfl, h2, p2.isList⟩ (by simp; omega) (Nat.le_refl _) (.inr rfl) fun h' tk hk => ⟨rfl, fin h' tk hk⟩
  self := fun A i s Q E st h => wpAny_pyIter_zip st.1 h
def iZipM (K : PySem.W.Frag) (ta : TA) : TI := fun σ H R => ta σ H fun vs H1 => ∃ a b xs ys, vs = [.ref a, .ref b] ∧ SqT K H1 a xs ∧ SqL K H1 b ys ∧ R (ItzM K a b) H1
theorem pi_zipM {X : Cx} {e e2 : Expr} {ta : TA} {p pos tpos : Pos} {elts : List Expr} {kk : Nat} (hg : Gl X "zip") (hm : X.mg "zip" = none) (ha : PA X [e, e2] ta)
    (hs : starEach [e, e2] X.env = (false, eval e X.env) :: starEach [e2] X.env := by rfl) (hpl : (backTo pos (starEach [e2] X.env)).any (·.1) = false := by rfl) :
    PI X (.Tuple elts kk tpos) (.Call (.Name "zip" p) [e, e2] [] pos) (iZipM X.K ta) := by
  refine ⟨fun pins s σ H R I h => ?_⟩
  refine Call_ (ld_blt I hg hm PyProof.Rows.boot_zip (PyProof.Rows.callWith_type1 (thn (ha.run pos pins s σ H _ I h) fun us s1 ⟨vs, H1, I1, r1, q1⟩ => ?_) hs hpl))
  obtain ⟨a, b, xs, ys, ex, hqx, hqy, q⟩ := q1
  subst ex
  cases r1 with
  | cons r rr =>
    cases rr with
    | cons r' rr =>
      cases rr
      cases r
      cases r'
      have fresh5 : ∀ c, c ∈ [s1.heap.objs.size + 4, s1.heap.objs.size + 2, s1.heap.objs.size + 3, s1.heap.objs.size, s1.heap.objs.size + 1] → FpOk X pins H1 c := fun c hcm => by
        have hle : s1.heap.objs.size ≤ c := by
          simp only [List.mem_cons, List.not_mem_nil, or_false] at hcm
          rcases hcm with z | z | z | z | z <;> rw [z] <;> first | exact Nat.le_add_right _ _ | exact Nat.le_refl _
        exact I1.fpOk hle (I1.hok.fresh hle)
      obtain ⟨its, rv, p1, _⟩ := I1.tuple hqx
      obtain ⟨its2, rv2, p2, _⟩ := I1.list hqy
      have la : a < s1.heap.objs.size := by obtain ⟨o, ho, _⟩ := id p1; exact Heap.lt_size ho
      have lb : b < s1.heap.objs.size := p2.lt
      refine zip_begins2 (begins_tuple a its.toArray) (begins_list b its2.toArray) p1 p2.isList fun h' hz hTI hTO g1 g2 hsz hk => wpAny_pyIter_zip hz ?_
      have I2 : Inv X pins σ H1 { s1 with heap := h' } := I1.kept (t' := s1.toks) hk
      exact ⟨s1.heap.objs.size + 4, [s1.heap.objs.size + 4, s1.heap.objs.size + 2, s1.heap.objs.size + 3, s1.heap.objs.size, s1.heap.objs.size + 1], _, _, H1, rfl, I2, turn_zipM (zip_sep2 (fp1 := [a]) (fp2 := [b]) (fun c hc => by rw [List.mem_singleton] at hc; rw [hc]; exact la) (fun c hc => by rw [List.mem_singleton] at hc; rw [hc]; exact lb)) (Nat.ne_of_lt la) (Nat.ne_of_lt (Nat.lt_succ_of_lt lb)), ⟨hz, hTI, ⟨_, _, hTO⟩, ⟨_, g1, rfl, rfl⟩, ⟨_, g2, rfl, rfl⟩⟩, fresh5, q⟩
end MP

set_option maxRecDepth 100000
set_option maxHeartbeats 4000000
namespace L2
open PySem PySem.Spec PyProof.Rows
/-! ### a tuple, once: the tuple itself -/
section
variable {X : Cx}
end
end L2
namespace MP
open PySem PySem.Spec PyProof.Rows L2
section
variable {X : Cx} {W : WX}
end
end MP

set_option maxRecDepth 100000
namespace MP
open PySem PySem.Spec PyProof.Rows L2
section
variable {X : Cx} {W : WX} {a b : Expr} {ml : ML} {pos : Pos}
theorem jr_zipM {ρ0 : List Addr} {H0 : Hp} {xs : List PV} {vs : List V} {mm : Nat} {aa bb : Addr} (e : H0 aa = some (.tup vs)) (r : VRs X.K H0 ρ0 xs vs) (e' : ρ0[mm]? = some bb) : JR X ρ0 H0 (.zipM xs mm) (ItzM X.K aa bb) := by
  intro ρ S H i g ex R
  have h1 : SqT X.K H aa vs := .of ((ex aa).1 _ e)
  have h2 := r.mono ex g
  simp only [nxt]
  cases q' : rdL S mm with
  | none => exact ⟨(fun z => by cases z), (fun v z => by cases z)⟩
  | some ys =>
    obtain ⟨ws, h3, h4⟩ := rdL_ok R (g _ _ e') q'
    simp only []
    cases q2 : xs[i]? with
    | none => exact ⟨fun _ => ⟨vs, ws, h1, h3, .inl (vrs_none h2 q2)⟩, (fun v z => by cases z)⟩
    | some v =>
      cases q3 : ys[i]? with
      | none => exact ⟨fun _ => ⟨vs, ws, h1, h3, .inr (vrs_none h4 q3)⟩, (fun v z => by cases z)⟩
      | some w =>
        obtain ⟨v', e1, r1⟩ := h2.get q2
        obtain ⟨w', e2, r2⟩ := h4.get q3
        refine ⟨(fun z => by cases z), fun u z => ?_⟩
        cases z
        refine ⟨⟨vs, ws, v', w', h1, h3, e1, e2⟩, fun x H' y => ?_⟩
        obtain ⟨T, x, y, rfl, hT, rfl, y1, y2⟩ := y
        have z1 := y1 vs h1
        rw [e1] at z1; cases z1
        have z2 := y2 ws h3
        rw [e2] at z2; cases z2
        exact pair_ok R hT r1 r2
def zipOfX (S : Ms) : List PV → Option Src
  | [.tup xs, .loc m] => (rdL S m).map fun _ => .zipM xs m
  | _ => none
theorem si_zipX {p tpos : Pos} {elts : List Expr} {kk : Nat} (hm : X.mg "zip" = none) (ha : SA X W [a, b] ml) (hg : Gl X "zip" := by rfl)
    (hs : starEach [a, b] X.env = (false, eval a X.env) :: starEach [b] X.env := by rfl) (hpl : (backTo pos (starEach [b] X.env)).any (·.1) = false := by rfl) : SI X W (.Tuple elts kk tpos) (.Call (.Name "zip" p) [a, b] [] pos) (iSt zipOfX ml) :=
  let ⟨ta, pa, qa⟩ := ha
  ⟨_, pi_zipM hg hm pa hs hpl, fun ρ env S σ H R R0 er h => by
    refine iSt_ok qa ρ env S σ H R0 er h fun vs vs' s ρ' S' H' g R' e' r q hJ => ?_
    unfold zipOfX at q
    split at q
    · rename_i xs m
      cases q2 : rdL S' m with
      | none => rw [q2] at q; cases q
      | some ys =>
        rw [q2] at q; cases q
        obtain ⟨w, z, rfl, rw, rz⟩ := vrs2 r
        cases rw with
        | tup hx ax => cases rz with
          | loc e2 =>
            obtain ⟨ws, h2, _⟩ := rdL_ok R' e2 q2
            exact ⟨_, _, _, _, rfl, .of hx, h2, hJ _ (jr_zipM hx ax e2)⟩
    · cases q⟩
/-- zip of two lists, two tuples, or a tuple and a list -/
def zipOfM (S : Ms) (vs : List PV) : Option Src := match zipOf S vs with
  | some s => some s
  | none => zipOfX S vs
theorem si_zipM {p tpos : Pos} {elts : List Expr} {kk : Nat} (hm : X.mg "zip" = none) (ha : SA X W [a, b] ml) (hg : Gl X "zip" := by rfl)
    (hs : starEach [a, b] X.env = (false, eval a X.env) :: starEach [b] X.env := by rfl) (hpl : (backTo pos (starEach [b] X.env)).any (·.1) = false := by rfl) : SI X W (.Tuple elts kk tpos) (.Call (.Name "zip" p) [a, b] [] pos) (iSt zipOfM ml) :=
  let ⟨t1, p1, q1⟩ := si_zip (elts := elts) (kk := kk) (tpos := tpos) (p := p) (pos := pos) hm ha hg hs hpl
  let ⟨t2, p2, q2⟩ := si_zipX (elts := elts) (kk := kk) (tpos := tpos) (p := p) (pos := pos) hm ha hg hs hpl
  ⟨fun σ H R => t1 σ H R ∨ t2 σ H R, ⟨fun pins s σ H R I h => h.elim (p1.run pins s σ H R I) (p2.run pins s σ H R I)⟩, fun ρ env S σ H R R0 er h => by
    unfold iSt at h
    cases e : ml env S with
    | fail => simp only [e] at h; exact h.elim
    | exc x S1 =>
      simp only [e] at h
      refine .inl (q1 ρ env S σ H R R0 er ?_)
      unfold iSt
      simp only [e]; exact h
    | ret vs S1 =>
      simp only [e] at h
      unfold zipOfM at h
      cases ez : zipOf S1 vs with
      | some s =>
        simp only [ez] at h
        refine .inl (q1 ρ env S σ H R R0 er ?_)
        unfold iSt
        simp only [e, ez]; exact h
      | none =>
        simp only [ez] at h
        refine .inr (q2 ρ env S σ H R R0 er ?_)
        unfold iSt
        simp only [e]; exact h⟩
end
end MP

set_option maxRecDepth 100000
namespace MP
open PySem PySem.Spec PyProof.Rows L2
/-! ### {tuple: e for x in it if ..} -/
theorem d_dictSetTm {X : Cx} {pins : List (Addr × Obj)} {σ : L2.St} {H : Hp} {s : Shared} {E : Value → Shared → Prop} {D b : Addr} {kvs : List (List Key × V)} {k : List Key} {v : V} {r : Value} {Q : Unit → Shared → Prop} (hu : X.A.units + 1 < cLine) (I : Inv X pins σ H s) (hD : H D = some (.dT kvs)) (hz0 : kvs.length < sizeLine)
    (eb : H b = some (.tup (k.map kV))) (rv : RelV v r) (h : ∀ s', Inv X pins σ (upd H D (.dT (putK kvs k v))) s' → Q () s') : wpAny (model X.prog X.w) X.A (dictSet D (.ref b) r) Q E s := by
  obtain ⟨z, hd, xs, rel, dd⟩ := dt_of I.hok hD
  have hz : xs.length ≤ sizeLine := by rw [← Paired.length rel]; exact z
  have hl : (putK kvs k v).length ≤ sizeLine := by have := length_putK kvs k v; omega
  refine wpAny_dictSet_heap (hsz := hz) (show X.A.units < cLine by omega) (key_of I.hok eb) dd fun h' dd' hs => h _ ?_
  obtain ⟨q, es, ep, hq, h2, h3, h4, _, h5⟩ := dd'
  refine d_write I (by rw [hD]; exact True.intro) hs ⟨q, hq⟩ ⟨hl, hd, _, (rel.put k eb rv).keeps fun c ys ec => ?_, q, es, ep, hq, h2, h3, h4, h5⟩
  rw [upd_ne (ne_of ec hD (fun z => nomatch z))]
  exact ec
section
variable {X : Cx}
end
section
variable {X : Cx} {W : WX} {H H' : Hp} {ρ ρ' : List Addr} {S : Ms} {kx e : Expr} {mk m : ME} {t : MB} {tg : Expr} {pos : Pos}
def dcTM (src : Src) (g : MG) (tt : MB) (mk m : ME) (vs : List Nat) (l : Nat) (env : Env') : Nat → Nat → Ms → Out PV
  | 0, _, _ => .fail
  | f + 1, i, S => match nxt S i src with
    | .stop => .ret (.loc l) S
    | .bad => .fail
    | .yld v => (match g v (wipeE env vs) with
      | none => .fail
      | some env1 => (match tt env1 S with
        | .ret false S1 => dcTM src g tt mk m vs l env f (i + 1) S1
        | .ret true S1 => (match mk env1 S1 with
          | .ret x S2 => (match m env1 S2 with
            | .ret y S3 => (match S3[l]?, keysP x with
              | some (.dT kvs), some k => if kvs.length < lim then dcTM src g tt mk m vs l env f (i + 1) (S3.set l (.dT (putP kvs k y))) else .fail
              | _, _ => .fail)
            | _ => .fail)
          | _ => .fail)
        | _ => .fail))
def mDcT (mi : MI) (g : MG) (tt : MB) (mk m : ME) (vs : List Nat) : ME := fun env S => match mi env S with
  | .ret src S1 => dcTM src g tt mk m vs S1.length env fuel 0 (S1 ++ [.dT []])
  | .exc x S1 => .exc x S1
  | .fail => .fail
end
end MP

set_option maxRecDepth 100000
namespace MP
open PySem PySem.Spec PyProof.Rows L2
/-! ### name = {k: e for x in it if ..}, the name a plain local -/
section
variable {X : Cx} {W : WX} {kx e tg : Expr} {pos : Pos} {mk m : ME} {t : MB}
end
end MP

set_option maxRecDepth 100000
namespace MP
open PySem PySem.Spec PyProof.Rows L2
/-! ### {tuple: e}, one key -/
def tDict1T (tk tv : TE) : TE := fun σ H Q => ∀ D, H D = none → tk σ (upd H D (.dT [])) fun x H1 => tv σ H1 fun y H2 => ∃ kvs k b, x = .ref b ∧ H2 b = some (.tup (k.map kV)) ∧ H2 D = some (.dT kvs) ∧ kvs.length < sizeLine ∧ Q (.ref D) (upd H2 D (.dT (putK kvs k y)))
section
variable {X : Cx} {W : WX} {kx vx : Expr} {pos : Pos} {mk m : ME}
theorem subDict_one {prog : Program} {w : World} {A : Around} {E : Value → Shared → Prop} {s : Shared} {k v : Sem Value} {Q : Addr → Shared → Prop}
    (h : wpAny (model prog w) A k (fun kv s1 => wpAny (model prog w) A v (fun vv s2 => wpAny (model prog w) A (dictSet s.heap.objs.size kv vv) (fun _ s3 => Q s.heap.objs.size s3) E s2) E s1) E { s with heap := s.heap.push { cls := .type "dict", data := .dict #[] } }) :
    wpAny (model prog w) A (subDict [(k, v)]) Q E s := by
  unfold subDict
  refine wpAny_bind (wpAny_alloc ?_)
  refine wpAny_bind (wpAny_holding ?_)
  rw [if_pos (show [(k, v)].length ≤ 15 by simp)]
  refine wpAny_bind (evalPairs_cons (wpAny_mono h (fun kv s1 h1 => wpAny_mono h1 (fun vv s2 h2 => evalPairs_nil ?_) fun _ _ e => e) fun _ _ e => e))
  refine wpAny_holding ?_
  rw [List.forIn_cons]
  refine wpAny_bind (wpAny_bind (wpAny_bind (wpAny_mono h2 (fun _ s3 h3 => wpAny_pure ?_) fun _ _ e => e)))
  dsimp only
  rw [List.forIn_nil]
  exact wpAny_pure (wpAny_pure (wpAny_pure h3))
theorem dd_one (k v : Sem Value) : dictDisplay (([(k, v)] : List (Sem Value × Sem Value)).map fun p => (some p.1, p.2)) = (do let d ← subDict [(k, v)]; pure (.ref d)) := dictDisplay_pairs [(k, v)] (by simp) (by simp)
theorem dict_one {prog : Program} {w : World} {A : Around} {E : Value → Shared → Prop} {s : Shared} {env : Env} {Q : Value → Shared → Prop}
    (h : wpAny (model prog w) A (subDict [(eval kx env, (do let x ← eval vx env; standAt pos; pure x))]) (fun d s' => Q (.ref d) s') E s) : wpAny (model prog w) A (eval (.Dict [some kx] [vx] pos) env) Q E s := by
  have hshape : (evalEachOpt [some kx] env).zip ((evalEach [vx] env).map fun v => (do let x ← v; standAt pos; pure x : Sem Value)) = ([(eval kx env, (do let x ← eval vx env; standAt pos; pure x : Sem Value))] : List (Sem Value × Sem Value)).map fun p => (some p.1, p.2) := rfl
  rw [arm_eval_Dict, hshape, dd_one]
  exact wpAny_bind (wpAny_standAt (wpAny_bind (wpAny_mono h (fun d s' q => wpAny_pure q) fun _ _ e => e)))
theorem laid_dict {pins : List (Addr × Obj)} {σ : L2.St} {H : Hp} {s : Shared} (I : Inv X pins σ H s) : Inv X pins σ (upd H s.heap.objs.size (.dT [])) ({ s with heap := s.heap.push { cls := .type "dict", data := .dict #[] } } : Shared) :=
  I.laid (t' := s.toks) (fun b o e => Heap.get?_push_of_some _ e) (Nat.le_refl _) (dt_empty s.heap I.big)
theorem pe_dict1T {tk tv : TE} (hu : X.A.units + 1 < cLine) (hk : PE X kx tk) (he : PE X vx tv) : PE X (.Dict [some kx] [vx] pos) (tDict1T tk tv) := by
  constructor
  intro pins s σ H Q I h
  refine dict_one (subDict_one ?_)
  have ID := laid_dict I
  have hh := h s.heap.objs.size (I.hok.fresh (Nat.le_refl _))
  generalize s.heap.objs.size = D at *
  refine thn (hk.run pins _ σ _ _ ID hh) fun xv s1 hx => ?_
  obtain ⟨x, H1, I1, r1, q1⟩ := hx
  refine wpAny_bind (thn (he.run pins s1 σ H1 _ I1 q1) fun yv s2 hy => ?_)
  obtain ⟨y, H2, I2, r2, kvs, k, b, rfl, hb, hd, hz, q⟩ := hy
  refine wpAny_bind (wpAny_standAt (wpAny_pure ?_))
  cases (show xv = Value.ref b from r1)
  exact d_dictSetTm hu I2 hd hz hb r2 fun s3 I3 => ⟨.ref D, _, I3, rfl, q⟩
def gSkip : MG := fun _ env => some env
def iOne : MI := iRg rng1 (mCons (mC (.int 1)) mNil)
def mDict1T (mk m : ME) : ME := mDcT iOne gSkip bYes mk m []
theorem s_dict1T (hu : X.A.units + 1 < cLine) (hk : SE X W kx mk) (he : SE X W vx m) : SE X W (.Dict [some kx] [vx] pos) (mDict1T mk m) := by
  obtain ⟨tk, pk, qk⟩ := hk
  obtain ⟨tv, pv, qv⟩ := he
  refine ⟨tDict1T tk tv, pe_dict1T hu pk pv, fun ρ env S σ H Q R er h D hD => ?_⟩
  unfold mDict1T mDcT at h
  have e1 : iOne env S = .ret (.rng 0 1) S := rfl
  simp only [e1] at h
  obtain ⟨f, hf⟩ : ∃ f, fuel = f + 2 := ⟨fuel - 2, by decide⟩
  rw [hf] at h
  have gD : Grow ρ (ρ ++ [D]) := .snoc _ _
  have eD : Ext H (upd H D (.dT [])) := .new hD
  have lD : (ρ ++ [D])[S.length]? = some D := by rw [← R.len]; simp
  unfold dcTM at h
  have n0 : nxt (S ++ [Ob.dT []]) 0 (.rng 0 1) = .yld (.int 0) := rfl
  have w0 : wipeE env [] = env := rfl
  simp only [n0, w0, gSkip, bYes] at h
  refine qk (ρ ++ [D]) env _ σ _ _ (R.new hD (.dT .nil)) (er.mono eD gD) ?_
  cases q5 : mk env (S ++ [Ob.dT []]) with
  | fail => simp only [q5] at h; exact h.elim
  | exc x S3 => simp only [q5] at h; exact h.elim
  | ret y S4 =>
    simp only [q5] at h
    intro ρ5 y' H5 g5 R5 e5 r5
    refine qv ρ5 env S4 σ H5 _ R5 ((er.mono eD gD).mono e5 g5) ?_
    cases q6 : m env S4 with
    | fail => simp only [q6] at h; exact h.elim
    | exc x S3 => simp only [q6] at h; exact h.elim
    | ret z S5 =>
      simp only [q6] at h
      intro ρ6 z' H6 g6 R6 e6 r6
      split at h
      · rename_i kvs k qa qk'
        split at h
        · rename_i hlim
          have lD6 : ρ6[S.length]? = some D := g6 _ _ (g5 _ _ lD)
          obtain ⟨acc', a1, a2⟩ := R6.dT lD6 qa
          have ri := r5.mono e6 g6
          cases ri with
          | tup ht at_ =>
            simp only [keysP] at qk'
            have e1 := keysL_ok at_ qk'
            subst e1
            refine ⟨acc', k, _, rfl, ht, a1, by rw [← a2.length]; exact Nat.lt_of_lt_of_le hlim (by decide), ?_⟩
            unfold dcTM at h
            have n1 : ∀ S' : Ms, nxt S' (0 + 1) (.rng 0 1) = .stop := fun _ => rfl
            simp only [n1] at h
            exact h ρ6 _ _ ((gD.trans g5).trans g6) (R6.put lD6 a1 soft_dT (.dT (put_ok r6 a2))) (((eD.trans e5).trans e6).trans (.put a1 soft_dT)) (.loc lD6)
          | non => cases qk'
          | bl b => cases qk'
          | int b => cases qk'
          | str b => cases qk'
          | loc b => cases qk'
          | rol _ _ => cases qk'
        · exact h.elim
      · exact h.elim
end
end MP

set_option maxRecDepth 100000
namespace MP
open PySem PySem.Spec PyProof.Rows L2
/-! ### divmod of two ints: a new tuple -/
def rDivmod : List V → Hp → VK → Prop := fun xs H Q => ∃ i j, xs = [.int i, .int j] ∧ CDiv i j ∧ ∀ p, H p = none → Q (.ref p) (upd H p (.tup [.int (i / j), .int (i % j)]))
def oDivmod : List PV → Ms → Out PV
  | [.int i, .int j], S => if 0 < j then (if j < 1073741824 then .ret (.tup [.int (i / j), .int (i % j)]) S else .fail) else .fail
  | _, _ => .fail
section
variable {X : Cx} {W : WX}
theorem o_divmod : OL X W oDivmod rDivmod := by
  intro ρ S H σ Q x x' R r h
  unfold oDivmod at h
  split at h
  · rename_i xx i j
    obtain ⟨v, w, rfl, rv, rw⟩ := vrs2 r
    cases rv; cases rw
    split at h
    · rename_i h1
      split at h
      · rename_i h2
        exact ⟨i, j, rfl, ⟨h1, h2⟩, fun p hp => new_tup R (.cons (.int _) (.cons (.int _) .nil)) h hp⟩
      · exact h.elim
    · exact h.elim
  · exact h.elim
end
end MP

set_option maxRecDepth 100000
set_option maxHeartbeats 4000000
namespace L2
open PySem PySem.Spec PyProof.Rows
/-! ### a tuple, no time at all: a new empty tuple -/
section
variable {X : Cx}
end
end L2
namespace MP
open PySem PySem.Spec PyProof.Rows L2
section
variable {X : Cx} {W : WX}
end
end MP

set_option maxRecDepth 100000
namespace MP
open PySem PySem.Spec PyProof.Rows L2

/-! ### what a mirror's run ends in -/
def Ret {α : Type} (o : Out α) (Q : α → Ms → Prop) : Prop := match o with | .ret v S => Q v S | _ => False
theorem Ret.mono {α : Type} {o : Out α} {Q Q' : α → Ms → Prop} (h : Ret o Q) (k : ∀ v S, Q v S → Q' v S) : Ret o Q' := by
  cases o with
  | ret v S => exact k v S h
  | exc x S => exact h
  | fail => exact h
theorem Ret.of {α : Type} {o : Out α} {v : α} {S : Ms} (h : o = .ret v S) {Q : α → Ms → Prop} (q : Q v S) : Ret o Q := by rw [h]; exact q
theorem ret_ret {α : Type} {v : α} {S : Ms} {Q : α → Ms → Prop} : Ret (.ret v S) Q = Q v S := id rfl
theorem ret_bind {α β : Type} {o : Out α} {f : α → Ms → Out β} {Q : β → Ms → Prop} : Ret (o.bind f) Q = Ret o fun v S => Ret (f v S) Q := by cases o <;> rfl
/-- how a statement ends -/
structure Qs where
  nx : Env' → Ms → Prop
  rt : PV → Ms → Prop
  bk : Env' → Ms → Prop := fun _ _ => False
  ct : Env' → Ms → Prop := fun _ _ => False
def RetS (o : SO) (Q : Qs) : Prop := match o with | .nx e S => Q.nx e S | .rt v S => Q.rt v S | .bk e S => Q.bk e S | .ct e S => Q.ct e S | _ => False
theorem RetS.mono {o : SO} {Q Q' : Qs} (h : RetS o Q) (k1 : ∀ e S, Q.nx e S → Q'.nx e S) (k2 : ∀ v S, Q.rt v S → Q'.rt v S) (k3 : ∀ e S, Q.bk e S → Q'.bk e S) (k4 : ∀ e S, Q.ct e S → Q'.ct e S) : RetS o Q' := by
  cases o with
  | nx e S => exact k1 e S h
  | rt v S => exact k2 v S h
  | bk e S => exact k3 e S h
  | ct e S => exact k4 e S h
  | exc _ _ _ => exact h
  | fail => exact h
theorem rets_nx {e : Env'} {S : Ms} {Q : Qs} : RetS (.nx e S) Q = Q.nx e S := id rfl
theorem rets_rt {v : PV} {S : Ms} {Q : Qs} : RetS (.rt v S) Q = Q.rt v S := id rfl
section
variable {env : Env'} {S : Ms} {m n k : ME} {ml mk : ML} {t u : MB} {p q : MS} {f g : PV → PV → Ms → Out PV} {Q : PV → Ms → Prop} {QB : Bool → Ms → Prop} {QL : List PV → Ms → Prop} {D : Qs}
theorem r_m2 : Ret (m2 m n f env S) Q = Ret (m env S) fun x S1 => Ret (n env S1) fun y S2 => Ret (f x y S2) Q := by unfold m2; simp only [ret_bind]
theorem r_m1 {f : PV → Ms → Out PV} : Ret (m1 m f env S) Q = Ret (m env S) fun x S1 => Ret (f x S1) Q := by unfold m1; simp only [ret_bind]
theorem r_v0 {x : PV} {e : Env'} : Ret (mVar 0 (some x :: e) S) Q = Q x S := id rfl
theorem r_vs {i : Nat} {x : Option PV} {e : Env'} : Ret (mVar (i + 1) (x :: e) S) Q = Ret (mVar i e S) Q := id rfl
theorem r_C {v : PV} : Ret (mC v env S) Q = Q v S := id rfl
theorem r_L {f : List PV → Ms → Out PV} : Ret (mL ml f env S) Q = Ret (ml env S) fun xs S1 => Ret (f xs S1) Q := by unfold mL; simp only [ret_bind]
theorem r_nil : Ret (mNil env S) QL = QL [] S := id rfl
theorem r_cons : Ret (mCons m ml env S) QL = Ret (m env S) fun x S1 => Ret (ml env S1) fun xs S2 => QL (x :: xs) S2 := by
  unfold mCons
  cases m env S with
  | ret x S1 => simp only [ret_ret]; cases ml env S1 <;> rfl
  | exc x S => rfl
  | fail => rfl
theorem r_B : Ret (mB m env S) QB = Ret (m env S) fun x S1 => Ret (asB x S1) QB := by show Ret (outB asB m env S) QB = _; unfold outB; cases m env S <;> rfl
theorem r_T : Ret (mT m env S) QB = Ret (m env S) fun x S1 => Ret (truth x S1) QB := by show Ret (outB truth m env S) QB = _; unfold outB; cases m env S <;> rfl
theorem r_asB {b : Bool} : Ret (asB (.bl b) S) QB = QB b S := id rfl
theorem r_bAnd : Ret (bAnd t u env S) QB = Ret (t env S) fun b S1 => if b = true then Ret (u env S1) QB else QB false S1 := by
  unfold bAnd
  cases t env S with
  | ret b S1 => cases b <;> rfl
  | exc _ _ => rfl
  | fail => rfl
theorem r_bOr : Ret (bOr t u env S) QB = Ret (t env S) fun b S1 => if b = true then QB true S1 else Ret (u env S1) QB := by
  unfold bOr
  cases t env S with
  | ret b S1 => cases b <;> rfl
  | exc _ _ => rfl
  | fail => rfl
theorem r_bNot : Ret (bNot t env S) QB = Ret (t env S) fun b S1 => QB (!b) S1 := by unfold bNot; cases t env S <;> rfl
theorem r_mAnd : Ret (mAnd m n env S) Q = Ret (m env S) fun x S1 => Ret (asB x S1) fun b S2 => if b = true then Ret (n env S2) Q else Q (.bl false) S2 := by
  unfold mAnd
  cases m env S with
  | ret x S1 => cases x with
    | bl b => cases b <;> rfl
    | _ => rfl
  | exc _ _ => rfl
  | fail => rfl
theorem r_mOr : Ret (mOr m n env S) Q = Ret (m env S) fun x S1 => Ret (asB x S1) fun b S2 => if b = true then Q (.bl true) S2 else Ret (n env S2) Q := by
  unfold mOr
  cases m env S with
  | ret x S1 => cases x with
    | bl b => cases b <;> rfl
    | _ => rfl
  | exc _ _ => rfl
  | fail => rfl
theorem r_mNot : Ret (mNot m env S) Q = Ret (m env S) fun x S1 => Ret (asB x S1) fun b S2 => Q (.bl (!b)) S2 := by
  unfold mNot
  cases m env S with
  | ret x S1 => cases x with
    | bl b => cases b <;> rfl
    | _ => rfl
  | exc _ _ => rfl
  | fail => rfl
theorem r_mIf : Ret (mIf t m n env S) Q = Ret (t env S) fun b S1 => if b = true then Ret (m env S1) Q else Ret (n env S1) Q := by
  unfold mIf
  cases t env S with
  | ret b S1 => cases b <;> rfl
  | exc _ _ => rfl
  | fail => rfl
/-! statements -/
theorem q_next : RetS (sNext env S) D = D.nx env S := id rfl
theorem q_seq : RetS (sSeq p q env S) D = RetS (p env S) { D with nx := fun e S1 => RetS (q e S1) D } := by unfold sSeq; cases p env S <;> rfl
theorem q_of {f : PV → Env' → Ms → SO} : RetS (sOf m f env S) D = Ret (m env S) fun v S1 => RetS (f v env S1) D := by unfold sOf; cases m env S <;> rfl
theorem q_if : RetS (sIf t p q env S) D = Ret (t env S) fun b S1 => if b = true then RetS (p env S1) D else RetS (q env S1) D := by
  unfold sIf
  cases t env S with
  | ret b S1 => cases b <;> rfl
  | exc _ _ => rfl
  | fail => rfl
theorem q_toSO {o : Option Env'} : RetS (toSO o S) D = ∃ e, o = some e ∧ D.nx e S := by cases o <;> simp [toSO, RetS]
theorem q_par {i j : Nat} : RetS (sPar i j m n env S) D = Ret (m env S) fun v S1 => Ret (n env S1) fun w S2 => D.nx ((env.set i (some v)).set j (some w)) S2 := by
  unfold sPar
  have e : mCons m (mCons n mNil) env S = (m env S).bind fun v S1 => (n env S1).bind fun w S2 => .ret [v, w] S2 := by
    unfold mCons mNil Out.bind
    cases m env S with
    | ret v S1 => dsimp only; cases n env S1 <;> rfl
    | exc _ _ => rfl
    | fail => rfl
  rw [e]
  cases m env S with
  | ret v S1 => simp only [Out.bind, ret_ret]; cases n env S1 <;> rfl
  | exc _ _ => rfl
  | fail => rfl
theorem q_put : RetS (sPut m n k env S) D = Ret (k env S) fun v S1 => Ret (m env S1) fun o S2 => Ret (n env S2) fun i S3 => ∃ S4, oPut o i v S3 = some S4 ∧ D.nx env S4 := by
  unfold sPut
  cases k env S with
  | ret v S1 => simp only [ret_ret]; cases m env S1 with
    | ret o S2 => simp only [ret_ret]; cases n env S2 with
      | ret i S3 => simp only [ret_ret]; cases h : oPut o i v S3 <;> simp [RetS]
      | exc _ _ => rfl
      | fail => rfl
    | exc _ _ => rfl
    | fail => rfl
  | exc _ _ => rfl
  | fail => rfl
theorem r_fn {nl : Nat} {body : MS} {args : List PV} : Ret (mFn nl body args S) Q = RetS (body (args.map some ++ List.replicate nl none) S) { nx := fun _ S1 => Q .non S1, rt := Q } := by
  unfold mFn
  cases body (args.map some ++ List.replicate nl none) S <;> rfl
/-! ### stores -/
/-- all objects but those at ms are as they were -/
def Fr (ms : List Nat) (S S' : Ms) : Prop := S.length ≤ S'.length ∧ ∀ n, n < S.length → n ∉ ms → S'[n]? = S[n]?
theorem Fr.refl (ms : List Nat) (S : Ms) : Fr ms S S := ⟨Nat.le_refl _, fun _ _ _ => rfl⟩
theorem Fr.trans {ms : List Nat} {S S1 S2 : Ms} (a : Fr ms S S1) (b : Fr ms S1 S2) : Fr ms S S2 :=
  ⟨Nat.le_trans a.1 b.1, fun n h1 h2 => (b.2 n (Nat.lt_of_lt_of_le h1 a.1) h2).trans (a.2 n h1 h2)⟩
theorem Fr.app (ms : List Nat) (S t : Ms) : Fr ms S (S ++ t) := ⟨by rw [List.length_append]; omega, fun n h _ => List.getElem?_append_left h⟩
theorem Fr.set {ms : List Nat} (S : Ms) {n : Nat} (o : Ob) (h : n ∈ ms ∨ S.length ≤ n) : Fr ms S (S.set n o) :=
  ⟨by rw [List.length_set]; exact Nat.le_refl _, fun k h1 h2 => List.getElem?_set_ne (fun z => by subst z; rcases h with h | h; exact h2 h; omega)⟩
theorem Fr.mono {ms ms' : List Nat} {S S' : Ms} (a : Fr ms S S') (h : ∀ n ∈ ms, n ∈ ms') : Fr ms' S S' := ⟨a.1, fun n h1 h2 => a.2 n h1 fun z => h2 (h n z)⟩
/-- what was new in between does not matter -/
theorem Fr.drop {ms : List Nat} {n : Nat} {S S1 S2 : Ms} (a : Fr ms S S1) (b : Fr (n :: ms) S1 S2) (h : S.length ≤ n) : Fr ms S S2 :=
  ⟨Nat.le_trans a.1 b.1, fun k h1 h2 => (b.2 k (Nat.lt_of_lt_of_le h1 a.1) (fun z => by rcases List.mem_cons.mp z with z | z; omega; exact h2 z)).trans (a.2 k h1 h2)⟩
theorem Fr.get {ms : List Nat} {S S' : Ms} (a : Fr ms S S') {n : Nat} {o : Ob} (h : S[n]? = some o) (hn : n ∉ ms) : S'[n]? = some o := by
  rw [a.2 n (List.getElem?_eq_some_iff.mp h).1 hn]; exact h
theorem lt_of_get {S : Ms} {n : Nat} {o : Ob} (h : S[n]? = some o) : n < S.length := (List.getElem?_eq_some_iff.mp h).1
theorem get_new (S : Ms) (o : Ob) : (S ++ [o])[S.length]? = some o := by simp
theorem get_set {S : Ms} {n : Nat} {o o' : Ob} (h : S[n]? = some o) : (S.set n o')[n]? = some o' := List.getElem?_set_self (lt_of_get h)
end
end MP

set_option maxRecDepth 100000
namespace MP
open PySem PySem.Spec PyProof.Rows L2
theorem r_cl1 {G : List PV → Ms → Out PV} {S : Ms} {Q : PV → Ms → Prop} {a : PV} : Ret (cl 1 G [a] S) Q = Ret (G [a] S) Q := id rfl
theorem r_cl2 {G : List PV → Ms → Out PV} {S : Ms} {Q : PV → Ms → Prop} {a b : PV} : Ret (cl 2 G [a, b] S) Q = Ret (G [a, b] S) Q := id rfl
theorem r_cl3 {G : List PV → Ms → Out PV} {S : Ms} {Q : PV → Ms → Prop} {a b c : PV} : Ret (cl 3 G [a, b, c] S) Q = Ret (G [a, b, c] S) Q := id rfl
section
variable {S : Ms} {Q : PV → Ms → Prop} {n : Nat} {xs : List PV}
theorem isDict_lst (h : S[n]? = some (.lst xs)) : isDict S (.loc n) = false := by simp [isDict, h]
theorem r_subL {i : Int} {v : PV} (h : S[n]? = some (.lst xs)) (e : atI xs i = some v) : Ret (oSub1 (.loc n) (.int i) S) Q = Q v S := by
  simp [oSub1, oSel, isDict_lst h, oIdx, itemsOf, h, e, Ret]
theorem r_subT {i : Int} {v : PV} (e : atI xs i = some v) : Ret (oSub1 (.tup xs) (.int i) S) Q = Q v S := by
  simp [oSub1, oSel, isDict, oIdx, itemsOf, e, Ret]
theorem r_subR {i : Int} {v : PV} (e : atI xs i = some v) : Ret (oSub1 (.rol xs) (.int i) S) Q = Q v S := by
  simp [oSub1, oSel, isDict, oIdx, itemsOf, e, Ret]
theorem r_add {i j : Int} : Ret (oAdd (.int i) (.int j) S) Q = Q (.int (i + j)) S := id rfl
theorem r_sub {i j : Int} : Ret (oSub (.int i) (.int j) S) Q = Q (.int (i - j)) S := id rfl
theorem r_cmp {p : Int → Int → Bool} {i j : Int} : Ret (oCmp p (.int i) (.int j) S) Q = Q (.bl (p i j)) S := id rfl
theorem r_mul {i j : Int} (h : CMul i j ∨ CMulW i j) : Ret (oMul (.int i) (.int j) S) Q = Q (.int (i * j)) S := by simp [oMul, h, Ret]
theorem r_mod {i j : Int} (h : 0 < j) : Ret (oMod (.int i) (.int j) S) Q = Q (.int (i % j)) S := by
  simp [oMod, show j ≠ 0 by omega, Ret, Int.fmod_eq_emod_of_nonneg i (Int.le_of_lt h)]
theorem r_pow {i : Int} {k : Nat} (h : CPow i k) : Ret (oPow (.int i) (.int k) S) Q = Q (.int (i ^ k)) S := by simp [oPow, h, Ret]
theorem at_nat {α : Type} {xs : List α} {k : Nat} {v : α} (h : xs[k]? = some v) : atI xs (k : Int) = some v := L2.atI_nat h
end

/-! ### the source of draws -/
/-- a box with its three numbers; c: how many draws were made -/
structure Box (b : Nat) (S : Ms) (c : Int) : Prop where
  ex : ∃ x y : Int, S[b]? = some (.lst [.int x, .int y, .int c]) ∧ 0 ≤ x ∧ 0 ≤ y ∧ y < 4611686018427387904
  nn : 0 ≤ c
theorem Box.lt {b : Nat} {S : Ms} {c : Int} (h : Box b S c) : b < S.length := let ⟨_, _, e, _⟩ := h.ex; lt_of_get e
theorem Box.fr {b : Nat} {S S' : Ms} {c : Int} (h : Box b S c) {ms : List Nat} (f : Fr ms S S') (hb : b ∉ ms) : Box b S' c :=
  ⟨let ⟨x, y, e, r⟩ := h.ex; ⟨x, y, f.get e hb, r⟩, h.nn⟩
/-- a draw of one number below n: at most k more draws are counted -/
def Drew (b : Nat) (S : Ms) (c : Int) (k : Int) (S' : Ms) : Prop := Fr [b] S S' ∧ ∃ c', c ≤ c' ∧ c' ≤ c + k ∧ Box b S' c'
theorem Drew.refl {b : Nat} {S : Ms} {c : Int} (h : Box b S c) : Drew b S c 0 S := ⟨.refl _ _, c, by omega, by omega, h⟩

theorem CMul.sm {i j : Int} (h : 0 ≤ i) (h2 : i < 2 ^ 64) : CMul i j ∨ CMulW i j := .inl (.inl ⟨by omega, h2⟩)
theorem CMul.sr {i j : Int} (h : 0 ≤ j) (h2 : j < 2 ^ 64) : CMul i j ∨ CMulW i j := .inl (.inr ⟨by omega, h2⟩)
end MP

set_option maxRecDepth 100000
namespace MP
open PySem PySem.Spec PyProof.Rows L2
/-! ### loops -/
def nxO : Option PV → Nx | some v => .yld v | none => .stop
section
variable {env : Env'} {S : Ms} {m n k : ME} {ml mk : ML} {t u : MB} {p q : MS} {mi : MI} {src : Src} {g : MG} {Q : PV → Ms → Prop} {QI : Src → Ms → Prop} {D : Qs} {vl : List Nat}
theorem q_for : RetS (sFor mi g p env S) D = Ret (mi env S) fun src S1 => RetS (loopM src g p fuel 0 env S1) D := by unfold sFor; cases mi env S <;> rfl
theorem i_of : Ret (iOf m env S) QI = Ret (m env S) fun v S1 => ∃ s, srcOf S1 v = some s ∧ QI s S1 := by
  unfold iOf
  cases m env S with
  | ret v S1 => simp only [ret_ret]; cases h : srcOf S1 v <;> simp [Ret]
  | exc _ _ => rfl
  | fail => rfl
theorem i_rg {f : List PV → Option Src} : Ret (iRg f ml env S) QI = Ret (ml env S) fun vs S1 => ∃ s, f vs = some s ∧ QI s S1 := by
  unfold iRg
  cases ml env S with
  | ret v S1 => simp only [ret_ret]; cases h : f v <;> simp [Ret]
  | exc _ _ => rfl
  | fail => rfl
theorem i_st {f : Ms → List PV → Option Src} : Ret (iSt f ml env S) QI = Ret (ml env S) fun vs S1 => ∃ s, f S1 vs = some s ∧ QI s S1 := by
  unfold iSt
  cases ml env S with
  | ret v S1 => simp only [ret_ret]; cases h : f S1 v <;> simp [Ret]
  | exc _ _ => rfl
  | fail => rfl
theorem r_mLc : Ret (mLc mi g t m vl env S) Q = Ret (mi env S) fun src S1 => Ret (lcM src g t m vl S1.length env fuel 0 (S1 ++ [.lst []])) Q := by unfold mLc; cases mi env S <;> rfl
theorem lc_okM {l : Nat} (vs : List PV) (hv : vs.length ≤ lim) (I : Nat → List PV → Ms → Prop) (hn : ∀ i acc S, I i acc S → nxt S i src = nxO vs[i]? ∧ S[l]? = some (.lst acc))
    (hs : ∀ i v acc S, vs[i]? = some v → I i acc S → S[l]? = some (.lst acc) → ∃ e1, g v (wipeE env vl) = some e1 ∧ Ret (t e1 S) fun b S1 => if b = true then Ret (m e1 S1) fun y S2 => S2[l]? = some (.lst acc) ∧ I (i + 1) (acc ++ [y]) (S2.set l (.lst (acc ++ [y]))) else I (i + 1) acc S1)
    (hd : ∀ acc S, I vs.length acc S → Q (.loc l) S) : ∀ (f i : Nat) (acc : List PV) (S : Ms), i ≤ vs.length → vs.length < i + f → acc.length ≤ i → I i acc S → Ret (lcM src g t m vl l env f i S) Q
  | 0, i, acc, S, h1, h2, _, _ => absurd h2 (by omega)
  | f + 1, i, acc, S, h1, h2, h3, hI => by
    unfold lcM
    obtain ⟨n1, n2⟩ := hn i acc S hI
    rw [n1]
    cases e : vs[i]? with
    | none =>
      have : i = vs.length := by have := List.getElem?_eq_none_iff.mp e; omega
      subst this
      exact hd acc S hI
    | some v =>
      simp only [nxO]
      obtain ⟨e1, g1, b1⟩ := hs i v acc S e hI n2
      have hlt := (List.getElem?_eq_some_iff.mp e).1
      simp only [g1]
      cases ht : t e1 S with
      | ret b S1 =>
        rw [ht] at b1
        cases b with
        | true =>
          replace b1 : Ret (m e1 S1) _ := b1
          simp only []
          cases hm : m e1 S1 with
          | ret y S2 =>
            rw [hm] at b1
            obtain ⟨c1, c2⟩ := b1
            simp only [c1]
            rw [if_pos (by omega)]
            exact lc_okM vs hv I hn hs hd f (i + 1) _ _ (by omega) (by omega) (by rw [List.length_append]; simp; omega) c2
          | exc _ _ => rw [hm] at b1; exact b1
          | fail => rw [hm] at b1; exact b1
        | false =>
          exact lc_okM vs hv I hn hs hd f (i + 1) _ _ (by omega) (by omega) (by omega) b1
      | exc _ _ => rw [ht] at b1; exact b1
      | fail => rw [ht] at b1; exact b1
theorem r_lc {l : Nat} (vs : List PV) (hv : vs.length ≤ lim) (I : Nat → List PV → Ms → Prop) (h0 : I 0 [] S) (hn : ∀ i acc S, I i acc S → nxt S i src = nxO vs[i]? ∧ S[l]? = some (.lst acc))
    (hs : ∀ i v acc S, vs[i]? = some v → I i acc S → S[l]? = some (.lst acc) → ∃ e1, g v (wipeE env vl) = some e1 ∧ Ret (t e1 S) fun b S1 => if b = true then Ret (m e1 S1) fun y S2 => S2[l]? = some (.lst acc) ∧ I (i + 1) (acc ++ [y]) (S2.set l (.lst (acc ++ [y]))) else I (i + 1) acc S1)
    (hd : ∀ acc S, I vs.length acc S → Q (.loc l) S) : Ret (lcM src g t m vl l env fuel 0 S) Q :=
  lc_okM vs hv I hn hs hd fuel 0 [] S (Nat.zero_le _) (by rw [Nat.zero_add]; exact Nat.lt_of_le_of_lt hv (by decide)) (Nat.zero_le _) h0
theorem r_bYes {e : Env'} {QB : Bool → Ms → Prop} : Ret (bYes e S) QB = QB true S := id rfl
end
/-! ### sequences -/
/-- v stands for the sequence xs -/
def Sq (S : Ms) (v : PV) (xs : List PV) : Prop := itemsOf S v = some xs
/-- v is none of the objects ms -/
def Off (v : PV) (ms : List Nat) : Prop := ∀ n ∈ ms, v ≠ .loc n
theorem Sq.tup {S : Ms} {xs : List PV} : Sq S (.tup xs) xs := rfl
theorem Sq.rol {S : Ms} {xs : List PV} : Sq S (.rol xs) xs := rfl
theorem Sq.loc {S : Ms} {n : Nat} {xs : List PV} (h : S[n]? = some (.lst xs)) : Sq S (.loc n) xs := by simp [Sq, itemsOf, h]
theorem Sq.at {S : Ms} {n : Nat} {xs : List PV} (h : Sq S (.loc n) xs) : S[n]? = some (.lst xs) := by
  simp only [Sq, itemsOf] at h
  split at h
  · rename_i q; cases h; exact q
  · cases h
theorem Sq.fr {S S' : Ms} {v : PV} {xs : List PV} {ms : List Nat} (h : Sq S v xs) (f : Fr ms S S') (o : Off v ms) : Sq S' v xs := by
  cases v with
  | loc n => exact .loc (f.get h.at fun z => o n z rfl)
  | tup ys => exact h
  | rol ys => exact h
  | non => cases h
  | bl b => cases h
  | int i => cases h
  | str s => cases h
theorem Sq.lt {S : Ms} {n : Nat} {xs : List PV} (h : Sq S (.loc n) xs) : n < S.length := lt_of_get h.at
theorem Off.nil {v : PV} : Off v [] := fun _ h => nomatch h
theorem Off.tup {xs : List PV} {ms : List Nat} : Off (.tup xs) ms := fun _ _ h => nomatch h
theorem Off.rol {xs : List PV} {ms : List Nat} : Off (.rol xs) ms := fun _ _ h => nomatch h
theorem Off.loc {n : Nat} {ms : List Nat} (h : n ∉ ms) : Off (.loc n) ms := fun k hk e => h (by cases e; exact hk)
/-- a value that stood before is not a new one -/
theorem Off.old {S : Ms} {v : PV} {xs : List PV} (h : Sq S v xs) {n : Nat} (hn : S.length ≤ n) : Off v [n] := fun k hk e => by
  rw [List.mem_singleton] at hk; subst hk; subst e; have := h.lt; omega
theorem Off.cons {v : PV} {n : Nat} {ms : List Nat} (a : Off v [n]) (b : Off v ms) : Off v (n :: ms) := fun k hk e => by
  rcases List.mem_cons.mp hk with z | z
  · exact a k (by rw [z]; simp) e
  · exact b k z e
theorem rng1_ok {j : Int} (h : 0 ≤ j ∧ j < 2 ^ 62) : rng1 [.int j] = some (.rng 0 j.toNat) := by
  simp only [rng1]
  rw [if_pos (by simp [big62]; omega)]
theorem rng_nx {S : Ms} {n i : Nat} : nxt S i (.rng 0 n) = nxO ((List.range n)[i]?.map fun (k : Nat) => PV.int k) := by
  simp only [nxt]
  by_cases h : i < n
  · rw [if_pos h, List.getElem?_range h]; simp [nxO]
  · rw [if_neg h, List.getElem?_eq_none (by simp; omega)]; rfl
section
variable {S : Ms} {Q : PV → Ms → Prop} {n m : Nat} {xs ys : List PV} {v w : PV}
theorem r_len (h : Sq S v xs) : Ret (oLen [v] S) Q = Q (.int xs.length) S := by
  cases v with
  | tup ys => cases h; rfl
  | rol ys => cases h; rfl
  | loc n => simp only [oLen, h.at]; rfl
  | non => cases h
  | bl b => cases h
  | int i => cases h
  | str s => cases h
theorem r_sub1 {i : Int} (h : Sq S v xs) (e : atI xs i = some w) : Ret (oSub1 v (.int i) S) Q = Q w S := by
  cases v with
  | tup ys => cases h; exact r_subT e
  | rol ys => cases h; exact r_subR e
  | loc n => exact r_subL h.at e
  | non => cases h
  | bl b => cases h
  | int i => cases h
  | str s => cases h
theorem r_list (h : xs.length ≤ lim) : Ret (oList xs S) Q = Q (.loc S.length) (S ++ [.lst xs]) := by simp [oList, h, Ret]
end
end MP

set_option maxRecDepth 100000
namespace MP
open PySem PySem.Spec PyProof.Rows L2
/-! ### values that read as data -/
inductive Rd (S : Ms) : Nat → PV → PyData → Prop
  | non {k : Nat} : Rd S k .non .none
  | bl {k : Nat} (b : Bool) : Rd S k (.bl b) (.bool b)
  | int {k : Nat} (i : Int) : Rd S k (.int i) (.int i)
  | str {k : Nat} (s : Str) (h : PyData.canLay0 (.str s) = true) : Rd S k (.str s) (.str s)
  | tup {k : Nat} {xs : List PV} {ds : List PyData} (hb : ds.length ≤ 10000000) (hl : xs.length = ds.length) (h : ∀ (i : Nat) x d, xs[i]? = some x → ds[i]? = some d → Rd S k x d) : Rd S (k + 1) (.tup xs) (.tuple ds)
  | lst {k n : Nat} {xs : List PV} {ds : List PyData} (e : S[n]? = some (.lst xs)) (hb : ds.length ≤ 10000000) (hl : xs.length = ds.length) (h : ∀ (i : Nat) x d, xs[i]? = some x → ds[i]? = some d → Rd S k x d) : Rd S (k + 1) (.loc n) (.list ds)
theorem toDs_of {S : Ms} {k : Nat} : ∀ {xs : List PV} {ds : List PyData}, xs.length = ds.length → (∀ (i : Nat) x d, xs[i]? = some x → ds[i]? = some d → toD S k x = some d) → toDs S k xs = some ds
  | [], [], _, _ => by unfold toDs; rfl
  | x :: xs, d :: ds, hl, h => by
    unfold toDs
    rw [h 0 x d rfl rfl, toDs_of (by simpa using hl) fun i x d h1 h2 => h (i + 1) x d h1 h2]
  | [], _ :: _, hl, _ => by cases hl
  | _ :: _, [], hl, _ => by cases hl
theorem Rd.toD {S : Ms} {k : Nat} {x : PV} {d : PyData} (h : Rd S k x d) : MP.toD S k x = some d := by
  induction h with
  | non => unfold MP.toD; rfl
  | bl b => unfold MP.toD; rfl
  | int i => unfold MP.toD; rfl
  | str s _ => unfold MP.toD; rfl
  | tup hb hl h ih => unfold MP.toD; rw [toDs_of hl ih]; rfl
  | lst e hb hl h ih => unfold MP.toD; simp only [e]; rw [toDs_of hl ih]; rfl
theorem lay_of : ∀ {ds : List PyData}, (∀ (i : Nat) (d : PyData), ds[i]? = some d → d.canLay0 = true) → PyData.canLayAll0 ds = true
  | [], _ => rfl
  | d :: ds, h => by unfold PyData.canLayAll0; rw [h 0 d rfl, lay_of fun i d e => h (i + 1) d e]; rfl
theorem dep_of {k : Nat} : ∀ {ds : List PyData}, (∀ (i : Nat) (d : PyData), ds[i]? = some d → d.depth ≤ k) → PyData.depthAll ds ≤ k
  | [], _ => Nat.zero_le _
  | d :: ds, h => by unfold PyData.depthAll; exact Nat.max_le.mpr ⟨h 0 d rfl, dep_of fun i d e => h (i + 1) d e⟩
theorem get_both {xs : List PV} {ds : List PyData} (hl : xs.length = ds.length) {i : Nat} {d : PyData} (h : ds[i]? = some d) : ∃ x, xs[i]? = some x := by
  have := (List.getElem?_eq_some_iff.mp h).1
  exact ⟨xs[i], List.getElem?_eq_getElem (by omega)⟩
theorem Rd.lay {S : Ms} {k : Nat} {x : PV} {d : PyData} (h : Rd S k x d) : d.canLay0 = true := by
  induction h with
  | non => rfl
  | bl b => rfl
  | int i => rfl
  | str s h => exact h
  | tup hb hl h ih => unfold PyData.canLay0; exact lay_of fun i d e => let ⟨x, hx⟩ := get_both hl e; ih i x d hx e
  | lst _ hb hl h ih => unfold PyData.canLay0; exact lay_of fun i d e => let ⟨x, hx⟩ := get_both hl e; ih i x d hx e
theorem Rd.dep {S : Ms} {k : Nat} {x : PV} {d : PyData} (h : Rd S k x d) : d.depth ≤ k := by
  induction h with
  | non => exact Nat.zero_le _
  | bl b => exact Nat.zero_le _
  | int i => exact Nat.zero_le _
  | str s h => exact Nat.zero_le _
  | tup hb hl h ih => unfold PyData.depth; exact Nat.succ_le_succ (dep_of fun i d e => let ⟨x, hx⟩ := get_both hl e; ih i x d hx e)
  | lst _ hb hl h ih => unfold PyData.depth; exact Nat.succ_le_succ (dep_of fun i d e => let ⟨x, hx⟩ := get_both hl e; ih i x d hx e)
theorem Rd.up {S : Ms} {k : Nat} {x : PV} {d : PyData} (h : Rd S k x d) : ∀ {m : Nat}, k ≤ m → Rd S m x d := by
  induction h with
  | non => intro m _; exact .non
  | bl b => intro m _; exact .bl b
  | int i => intro m _; exact .int i
  | str s h => intro m _; exact .str s h
  | tup hb hl h ih => intro m hm; cases m with
    | zero => omega
    | succ m => exact .tup hb hl fun i x d h1 h2 => ih i x d h1 h2 (by omega)
  | lst e hb hl h ih => intro m hm; cases m with
    | zero => omega
    | succ m => exact .lst e hb hl fun i x d h1 h2 => ih i x d h1 h2 (by omega)
/-! equal data -/
mutual
/-- neither truth values nor dicts within -/
def noB : PyData → Bool
  | .bool _ => false
  | .dict _ => false
  | .list xs => noBs xs
  | .tuple xs => noBs xs
  | _ => true
def noBs : List PyData → Bool
  | [] => true
  | x :: xs => noB x && noBs xs
end
mutual
theorem eqv_iff : ∀ (d e : PyData), noB d = true → noB e = true → (PyData.eqv d e = true ↔ d = e)
  | .none, e, _, h2 => by cases e <;> simp_all [PyData.eqv, noB]
  | .bool _, _, h, _ => by cases h
  | .dict _, _, h, _ => by cases h
  | .int i, e, _, h2 => by cases e <;> simp_all [PyData.eqv, noB]
  | .str s, e, _, h2 => by cases e <;> simp_all [PyData.eqv, noB]
  | .list xs, e, h1, h2 => by
    cases e with
    | list ys => rw [PyData.eqv, eqvs_iff xs ys (by simpa [noB] using h1) (by simpa [noB] using h2)]; simp
    | _ => simp [PyData.eqv]
  | .tuple xs, e, h1, h2 => by
    cases e with
    | tuple ys => rw [PyData.eqv, eqvs_iff xs ys (by simpa [noB] using h1) (by simpa [noB] using h2)]; simp
    | _ => simp [PyData.eqv]
theorem eqvs_iff : ∀ (xs ys : List PyData), noBs xs = true → noBs ys = true → (PyData.eqvAll xs ys = true ↔ xs = ys)
  | [], ys, _, _ => by cases ys <;> simp [PyData.eqvAll]
  | x :: xs, [], _, _ => by simp [PyData.eqvAll]
  | x :: xs, y :: ys, h1, h2 => by
    simp only [noBs, Bool.and_eq_true] at h1 h2
    simp only [PyData.eqvAll, Bool.and_eq_true, eqv_iff x y h1.1 h2.1, eqvs_iff xs ys h1.2 h2.2, List.cons.injEq]
end
theorem eqv_dec {d e : PyData} {p : Prop} [Decidable p] (h1 : noB d = true) (h2 : noB e = true) (h : d = e ↔ p) : PyData.eqv d e = decide p := by
  by_cases hp : p
  · rw [decide_eq_true hp, eqv_iff d e h1 h2]; exact h.mpr hp
  · rw [decide_eq_false hp]
    cases hq : PyData.eqv d e with
    | false => rfl
    | true => exact absurd (h.mp ((eqv_iff d e h1 h2).mp hq)) hp
/-! ### lists of whole numbers that are not negative -/
abbrev iv (n : Nat) : PV := .int n
abbrev dv (n : Nat) : PyData := .int n
abbrev ivs (ns : List Nat) : List PV := ns.map iv
abbrev dvs (ns : List Nat) : List PyData := ns.map dv
theorem noBs_dvs : ∀ ns, noBs (dvs ns) = true
  | [] => rfl
  | n :: ns => by simp only [dvs, List.map_cons, noBs, noB, Bool.true_and]; exact noBs_dvs ns
theorem dvs_inj {ns ms : List Nat} : dvs ns = dvs ms ↔ ns = ms := by
  constructor
  · intro h
    exact List.map_inj_right (f := dv) (fun a b e => by simp only [dv, PyData.int.injEq] at e; omega) |>.mp h
  · intro h; rw [h]
theorem rd_pt {S : Ms} {k : Nat} {α : Type} {l : List α} {f : α → PV} {g : α → PyData} (h : ∀ a ∈ l, Rd S k (f a) (g a)) : (l.map f).length = (l.map g).length ∧ ∀ (i : Nat) x d, (l.map f)[i]? = some x → (l.map g)[i]? = some d → Rd S k x d := by
  refine ⟨by simp, fun i x d h1 h2 => ?_⟩
  rw [List.getElem?_map] at h1 h2
  cases e : l[i]? with
  | none => rw [e] at h1; cases h1
  | some a => rw [e] at h1 h2; cases h1; cases h2; exact h a (List.mem_of_getElem? e)
theorem Rd.tupM {S : Ms} {k : Nat} {α : Type} {l : List α} {f : α → PV} {g : α → PyData} (hb : l.length ≤ 10000000) (h : ∀ a ∈ l, Rd S k (f a) (g a)) : Rd S (k + 1) (.tup (l.map f)) (.tuple (l.map g)) := .tup (by simpa using hb) (rd_pt h).1 (rd_pt h).2
theorem Rd.lstM {S : Ms} {k n : Nat} {α : Type} {l : List α} {f : α → PV} {g : α → PyData} (e : S[n]? = some (.lst (l.map f))) (hb : l.length ≤ 10000000) (h : ∀ a ∈ l, Rd S k (f a) (g a)) : Rd S (k + 1) (.loc n) (.list (l.map g)) := .lst e (by simpa using hb) (rd_pt h).1 (rd_pt h).2
theorem Rd.itup {S : Ms} {k : Nat} (ns : List Nat) (hb : ns.length ≤ 10000000) : Rd S (k + 1) (.tup (ivs ns)) (.tuple (dvs ns)) := .tupM hb fun a _ => .int _
theorem eqv_itup (ns ms : List Nat) : PyData.eqv (.tuple (dvs ns)) (.tuple (dvs ms)) = decide (ns = ms) :=
  eqv_dec (by simp [noB, noBs_dvs]) (by simp [noB, noBs_dvs]) (by simp only [PyData.tuple.injEq]; exact dvs_inj)
end MP

set_option maxRecDepth 100000
namespace MP
open PySem PySem.Spec PyProof.Rows L2
/-! ### values as pure data: lists and dicts are values, too -/
inductive D where
  | non | bl (b : Bool) | int (i : Int) | str (s : Str) | tup (xs : List D) | lst (xs : List D)
  | dK (kvs : List (Key × D)) | dT (kvs : List (List Key × D)) | obj (c : Str) (fs : List (Str × D)) | lkK (kvs : List (Key × D)) | ftp (ns : List Int)
instance : Inhabited D := ⟨.non⟩
abbrev DE := List (Option D)
section
variable (S : Ms)
mutual
/-- v stands for the data d and leads to none of the places X -/
inductive Rp : List Nat → PV → D → Prop
  | non {X} : Rp X .non .non
  | bl {X} (b : Bool) : Rp X (.bl b) (.bl b)
  | int {X} (i : Int) : Rp X (.int i) (.int i)
  | str {X} (s : Str) : Rp X (.str s) (.str s)
  | tup {X xs ds} : Rps X xs ds → Rp X (.tup xs) (.tup ds)
  | loc {X n o d} : n ∉ X → S[n]? = some o → Cont X o d → Rp X (.loc n) d
inductive Rps : List Nat → List PV → List D → Prop
  | nil {X} : Rps X [] []
  | cons {X x d xs ds} : Rp X x d → Rps X xs ds → Rps X (x :: xs) (d :: ds)
inductive Cont : List Nat → Ob → D → Prop
  | lst {X xs ds} : Rps X xs ds → Cont X (.lst xs) (.lst ds)
  | dK {X ks xs ds} : Rps X xs ds → Cont X (.dK (List.zip ks xs)) (.dK (List.zip ks ds))
  | dT {X ks xs ds} : Rps X xs ds → Cont X (.dT (List.zip ks xs)) (.dT (List.zip ks ds))
  | obj {X c ks xs ds} : Rps X xs ds → Cont X (.ins c (List.zip ks xs)) (.obj c (List.zip ks ds))
  | lkK {X ks xs ds} : Rps X xs ds → Cont X (.lk (.dK (List.zip ks xs))) (.lkK (List.zip ks ds))
  | ftp {X ns} : Cont X (.ftp ns) (.ftp ns)
end
end
mutual
theorem Rp.mono {S S' : Ms} {X X' : List Nat} (h1 : ∀ n, n ∉ X → n < S.length → n ∉ X' ∧ S'[n]? = S[n]?) : ∀ {v : PV} {d : D}, Rp S X v d → Rp S' X' v d
  | _, _, .non => .non
  | _, _, .bl b => .bl b
  | _, _, .int i => .int i
  | _, _, .str s => .str s
  | _, _, .tup h => .tup (Rps.mono h1 h)
  | _, _, .loc hn e c => .loc (h1 _ hn (lt_of_get e)).1 (by rw [(h1 _ hn (lt_of_get e)).2]; exact e) (Cont.mono h1 c)
theorem Rps.mono {S S' : Ms} {X X' : List Nat} (h1 : ∀ n, n ∉ X → n < S.length → n ∉ X' ∧ S'[n]? = S[n]?) : ∀ {v : List PV} {d : List D}, Rps S X v d → Rps S' X' v d
  | _, _, .nil => .nil
  | _, _, .cons h t => .cons (Rp.mono h1 h) (Rps.mono h1 t)
theorem Cont.mono {S S' : Ms} {X X' : List Nat} (h1 : ∀ n, n ∉ X → n < S.length → n ∉ X' ∧ S'[n]? = S[n]?) : ∀ {v : Ob} {d : D}, Cont S X v d → Cont S' X' v d
  | _, _, .lst h => .lst (Rps.mono h1 h)
  | _, _, .dK h => .dK (Rps.mono h1 h)
  | _, _, .dT h => .dT (Rps.mono h1 h)
  | _, _, .obj h => .obj (Rps.mono h1 h)
  | _, _, .lkK h => .lkK (Rps.mono h1 h)
  | _, _, .ftp => .ftp
end
section
variable {S S' : Ms} {X X' : List Nat} {v : PV} {d : D} {vs : List PV} {ds : List D}
/-- what lies outside of X stays while only X and what is new changes -/
theorem mono_of {M : List Nat} (f : Fr M S S') (hM : ∀ n ∈ M, n ∈ X ∨ S.length ≤ n) (hX : ∀ n ∈ X', n ∈ X ∨ S.length ≤ n) : ∀ n, n ∉ X → n < S.length → n ∉ X' ∧ S'[n]? = S[n]? := fun n hn hl =>
  ⟨fun z => (hX n z).elim hn (by omega), f.2 n hl fun z => (hM n z).elim hn (by omega)⟩
theorem Rp.fr {M : List Nat} (h : Rp S X v d) (f : Fr M S S') (hM : ∀ n ∈ M, n ∈ X ∨ S.length ≤ n) (hX : ∀ n ∈ X', n ∈ X ∨ S.length ≤ n) : Rp S' X' v d := h.mono (mono_of f hM hX)
theorem Rps.fr {M : List Nat} (h : Rps S X vs ds) (f : Fr M S S') (hM : ∀ n ∈ M, n ∈ X ∨ S.length ≤ n) (hX : ∀ n ∈ X', n ∈ X ∨ S.length ≤ n) : Rps S' X' vs ds := h.mono (mono_of f hM hX)
theorem Cont.fr {M : List Nat} {o : Ob} (h : Cont S X o d) (f : Fr M S S') (hM : ∀ n ∈ M, n ∈ X ∨ S.length ≤ n) (hX : ∀ n ∈ X', n ∈ X ∨ S.length ≤ n) : Cont S' X' o d := h.mono (mono_of f hM hX)
theorem Rp.lt {n : Nat} (h : Rp S X (.loc n) d) : n < S.length := by cases h; exact lt_of_get (by assumption)
theorem Rp.sub (h : Rp S X v d) (hX : ∀ n ∈ X', n ∈ X ∨ S.length ≤ n) : Rp S X' v d := h.fr (Fr.refl [] S) (fun _ h => nomatch h) hX
theorem Rps.sub (h : Rps S X vs ds) (hX : ∀ n ∈ X', n ∈ X ∨ S.length ≤ n) : Rps S X' vs ds := h.fr (Fr.refl [] S) (fun _ h => nomatch h) hX
theorem Cont.sub {o : Ob} (h : Cont S X o d) (hX : ∀ n ∈ X', n ∈ X ∨ S.length ≤ n) : Cont S X' o d := h.fr (Fr.refl [] S) (fun _ h => nomatch h) hX
theorem Rps.length : ∀ {vs : List PV} {ds : List D}, Rps S X vs ds → vs.length = ds.length
  | _, _, .nil => rfl
  | _, _, .cons _ t => by rw [List.length_cons, List.length_cons, Rps.length t]
theorem Rps.append : ∀ {vs : List PV} {ds : List D} {vs' : List PV} {ds' : List D}, Rps S X vs ds → Rps S X vs' ds' → Rps S X (vs ++ vs') (ds ++ ds')
  | _, _, _, _, .nil, h => h
  | _, _, _, _, .cons h t, h' => .cons h (Rps.append t h')
theorem Rps.get : ∀ {vs : List PV} {ds : List D} {i : Nat} {d : D}, Rps S X vs ds → ds[i]? = some d → ∃ v, vs[i]? = some v ∧ Rp S X v d
  | _, _, _, _, .nil, e => by simp at e
  | _, _, 0, d, .cons (x := v) h _, e => ⟨v, rfl, by simp at e; subst e; exact h⟩
  | _, _, i + 1, d, .cons _ t, e => by
    obtain ⟨v, h1, h2⟩ := Rps.get (i := i) (d := d) t (by simpa using e)
    exact ⟨v, by simpa using h1, h2⟩
theorem Rps.take : ∀ {vs : List PV} {ds : List D} (n : Nat), Rps S X vs ds → Rps S X (vs.take n) (ds.take n)
  | _, _, 0, _ => .nil
  | _, _, _ + 1, .nil => .nil
  | _, _, n + 1, .cons h t => .cons h (Rps.take n t)
theorem Rps.drop : ∀ {vs : List PV} {ds : List D} (n : Nat), Rps S X vs ds → Rps S X (vs.drop n) (ds.drop n)
  | _, _, 0, h => h
  | _, _, _ + 1, .nil => .nil
  | _, _, n + 1, .cons _ t => Rps.drop n t
theorem Rps.set (r : Rp S X v d) : ∀ {vs : List PV} {ds : List D} (i : Nat), Rps S X vs ds → Rps S X (vs.set i v) (ds.set i d)
  | _, _, _, .nil => .nil
  | _, _, 0, .cons _ t => .cons r t
  | _, _, i + 1, .cons q t => .cons q (Rps.set r i t)
theorem Rps.reverse : ∀ {vs : List PV} {ds : List D}, Rps S X vs ds → Rps S X vs.reverse ds.reverse
  | _, _, .nil => .nil
  | _, _, .cons h t => by rw [List.reverse_cons, List.reverse_cons]; exact (Rps.reverse t).append (.cons h .nil)
theorem Rps.eraseIdx : ∀ {vs : List PV} {ds : List D} (i : Nat), Rps S X vs ds → Rps S X (vs.eraseIdx i) (ds.eraseIdx i)
  | _, _, _, .nil => .nil
  | _, _, 0, .cons _ t => t
  | _, _, i + 1, .cons h t => .cons h (Rps.eraseIdx i t)
theorem Rps.snoc (h : Rps S X vs ds) (r : Rp S X v d) : Rps S X (vs ++ [v]) (ds ++ [d]) := h.append (.cons r .nil)
theorem Rps.rep : ∀ {vs : List PV} {ds : List D} (n : Nat), Rps S X vs ds → Rps S X (List.replicate n vs).flatten (List.replicate n ds).flatten
  | _, _, 0, _ => .nil
  | _, _, n + 1, h => by rw [List.replicate_succ, List.replicate_succ, List.flatten_cons, List.flatten_cons]; exact h.append (Rps.rep n h)
theorem Rps.flat {α : Type} {f : α → PV} {g : α → D} (hf : ∀ a, Rp S X (f a) (g a)) : ∀ l : List α, Rps S X (l.map f) (l.map g)
  | [] => .nil
  | a :: l => .cons (hf a) (Rps.flat hf l)
theorem Rps.ints (ns : List Int) : Rps S X (ns.map PV.int) (ns.map D.int) := .flat (fun i => .int i) ns
/-- data by pieces -/
theorem Rp.inv_int {i : Int} (h : Rp S X v (.int i)) : v = .int i := by
  cases h with
  | int => rfl
  | loc _ _ c => cases c
theorem Rp.inv_bl {i : Bool} (h : Rp S X v (.bl i)) : v = .bl i := by
  cases h with
  | bl => rfl
  | loc _ _ c => cases c
theorem Rp.inv_str {i : Str} (h : Rp S X v (.str i)) : v = .str i := by
  cases h with
  | str => rfl
  | loc _ _ c => cases c
theorem Rp.inv_non (h : Rp S X v .non) : v = .non := by
  cases h with
  | non => rfl
  | loc _ _ c => cases c
theorem Rp.inv_tup (h : Rp S X v (.tup ds)) : ∃ xs, v = .tup xs ∧ Rps S X xs ds := by
  cases h with
  | tup h => exact ⟨_, rfl, h⟩
  | loc _ _ c => cases c
theorem Rps.inv_ints : ∀ {vs : List PV} {ns : List Int}, Rps S X vs (ns.map D.int) → vs = ns.map PV.int
  | _, [], h => by cases h; rfl
  | _, n :: ns, h => by cases h with | cons h t => rw [h.inv_int, Rps.inv_ints t]; rfl
end
/-- a place can be read as data: a value, or the place of an owned object -/
inductive Rd' (S : Ms) (X : List Nat) : PV → D → Prop
  | vl {v d} : (∀ n, v ≠ .loc n) → Rp S X v d → Rd' S X v d
  | at_ {n o d} : S[n]? = some o → Cont S X o d → Rd' S X (.loc n) d
section
variable {S S' : Ms} {X X' : List Nat} {v : PV} {d : D} {vs : List PV} {ds : List D}
theorem Rp.rd (h : Rp S X v d) : Rd' S X v d := by
  cases h with
  | loc _ e c => exact .at_ e c
  | non => exact .vl (fun _ h => nomatch h) .non
  | bl b => exact .vl (fun _ h => nomatch h) (.bl b)
  | int b => exact .vl (fun _ h => nomatch h) (.int b)
  | str b => exact .vl (fun _ h => nomatch h) (.str b)
  | tup h => exact .vl (fun _ h => nomatch h) (.tup h)
theorem Rd'.sub (h : Rd' S X v d) (hX : ∀ n ∈ X', n ∈ X ∨ S.length ≤ n) : Rd' S X' v d := by
  cases h with
  | vl h r => exact .vl h (r.sub hX)
  | at_ e c => exact .at_ e (c.sub hX)
theorem Rd'.inv_int {i : Int} (h : Rd' S X v (.int i)) : v = .int i := by
  cases h with
  | vl _ h => exact h.inv_int
  | at_ _ c => cases c
theorem Rd'.inv_bl {i : Bool} (h : Rd' S X v (.bl i)) : v = .bl i := by
  cases h with
  | vl _ h => exact h.inv_bl
  | at_ _ c => cases c
theorem Rd'.inv_str {i : Str} (h : Rd' S X v (.str i)) : v = .str i := by
  cases h with
  | vl _ h => exact h.inv_str
  | at_ _ c => cases c
theorem Rd'.inv_non (h : Rd' S X v .non) : v = .non := by
  cases h with
  | vl _ h => exact h.inv_non
  | at_ _ c => cases c
theorem Rd'.inv_tup (h : Rd' S X v (.tup ds)) : ∃ xs, v = .tup xs ∧ Rps S X xs ds := by
  cases h with
  | vl _ h => exact h.inv_tup
  | at_ _ c => cases c
theorem Rd'.inv_lst (h : Rd' S X v (.lst ds)) : ∃ n xs, v = .loc n ∧ S[n]? = some (.lst xs) ∧ Rps S X xs ds := by
  cases h with
  | vl k h =>
    cases h with
    | loc _ e c => exact absurd rfl (k _)
  | at_ e c => cases c with | lst h => exact ⟨_, _, rfl, e, h⟩
end
/-- what is in d, if d has items -/
def itemsD : D → Option (List D)
  | .tup xs => some xs
  | .lst xs => some xs
  | _ => none
theorem items_rd {S : Ms} {X : List Nat} {v : PV} {d : D} {ds : List D} (h : Rd' S X v d) (e : itemsD d = some ds) : ∃ xs, itemsOf S v = some xs ∧ Rps S X xs ds := by
  cases d with
  | tup xs => cases e; obtain ⟨ys, rfl, h2⟩ := h.inv_tup; exact ⟨_, rfl, h2⟩
  | lst xs => cases e; obtain ⟨n, ys, rfl, e2, h2⟩ := h.inv_lst; exact ⟨ys, by simp [itemsOf, e2], h2⟩
  | _ => cases e
end MP

set_option maxRecDepth 100000
namespace MP
open PySem PySem.Spec PyProof.Rows L2
/-! ### slots: plain values, lists of one's own, what the caller lends -/
inductive Sh where | val | root | io
deriving DecidableEq
instance : Inhabited Sh := ⟨.val⟩
inductive SlotR (S : Ms) (X : List Nat) : Sh → Option PV → Option D → List Nat → Prop
  | empty {sh v} : SlotR S X sh v none []
  | val {v d} : Rp S X v d → SlotR S X .val (some v) (some d) []
  | flat {v d} : (∀ n, v ≠ .loc n) → Rp S X v d → SlotR S X .root (some v) (some d) []
  | root {sh n o d} : sh ≠ .val → S[n]? = some o → Cont S X o d → SlotR S X sh (some (.loc n)) (some d) [n]
structure EnvR (Y : List Nat) (sh : List Sh) (env : Env') (S : Ms) (e : DE) (fps : List (List Nat)) : Prop where
  l1 : env.length = e.length
  l2 : fps.length = e.length
  slot : ∀ i, SlotR S (Y ++ fps.flatten) (sh.getD i .val) (env.getD i none) (e.getD i none) (fps.getD i [])
  nd : fps.flatten.Nodup
  bd : ∀ y ∈ Y, y < S.length
  dj : ∀ i, sh.getD i .val ≠ .io → ∀ x ∈ fps.getD i [], x ∉ Y
def newL (S S' : Ms) : List Nat := List.range' S.length (S'.length - S.length)
theorem mem_newL {S S' : Ms} {n : Nat} : n ∈ newL S S' ↔ S.length ≤ n ∧ n < S'.length := by
  unfold newL; rw [List.mem_range']; constructor
  · rintro ⟨i, h, rfl⟩; omega
  · rintro ⟨h1, h2⟩; exact ⟨n - S.length, by omega, by omega⟩
def sel (mu : List Nat) (fps : List (List Nat)) : List Nat := (mu.map fun i => fps.getD i []).flatten
theorem mem_sel {mu : List Nat} {fps : List (List Nat)} {x : Nat} : x ∈ sel mu fps ↔ ∃ i ∈ mu, x ∈ fps.getD i [] := by
  unfold sel; rw [List.mem_flatten]; constructor
  · rintro ⟨l, hl, hx⟩; obtain ⟨i, hi, rfl⟩ := List.mem_map.mp hl; exact ⟨i, hi, hx⟩
  · rintro ⟨i, hi, hx⟩; exact ⟨_, List.mem_map.mpr ⟨i, hi, rfl⟩, hx⟩
theorem fp_in {fps : List (List Nat)} {i x : Nat} (h : x ∈ fps.getD i []) : x ∈ fps.flatten := by
  rw [List.getD_eq_getElem?_getD] at h
  cases e : fps[i]? with
  | none => rw [e] at h; cases h
  | some l => rw [e] at h; exact List.mem_flatten.mpr ⟨l, List.mem_of_getElem? e, h⟩
theorem fp_out {fps : List (List Nat)} {x : Nat} (h : x ∈ fps.flatten) : ∃ i, x ∈ fps.getD i [] := by
  obtain ⟨l, hl, hx⟩ := List.mem_flatten.mp h
  obtain ⟨i, hi, rfl⟩ := List.getElem_of_mem hl
  exact ⟨i, by rw [List.getD_eq_getElem?_getD, List.getElem?_eq_getElem hi]; exact hx⟩
theorem sel_in {mu : List Nat} {fps : List (List Nat)} {x : Nat} (h : x ∈ sel mu fps) : x ∈ fps.flatten := let ⟨_, _, h⟩ := mem_sel.mp h; fp_in h
/-- two slots share no place -/
theorem fp_disj {fps : List (List Nat)} (nd : fps.flatten.Nodup) {i j x : Nat} (hi : x ∈ fps.getD i []) (hj : x ∈ fps.getD j []) : i = j := by
  rw [List.getD_eq_getElem?_getD] at hi hj
  cases ei : fps[i]? with
  | none => rw [ei] at hi; cases hi
  | some l =>
    cases ej : fps[j]? with
    | none => rw [ej] at hj; cases hj
    | some k =>
      rw [ei] at hi; rw [ej] at hj
      obtain ⟨h1, rfl⟩ := List.getElem?_eq_some_iff.mp ei
      obtain ⟨h2, rfl⟩ := List.getElem?_eq_some_iff.mp ej
      have := (List.pairwise_flatten.mp nd).2
      have p := List.pairwise_iff_getElem.mp this
      rcases Nat.lt_trichotomy i j with q | q | q
      · exact absurd rfl (p i j h1 h2 q _ hi _ hj)
      · exact q
      · exact absurd rfl (p j i h2 h1 q _ hj _ hi)
theorem SlotR.mono {S S' : Ms} {X X' : List Nat} {sh : Sh} {v : Option PV} {d : Option D} {f : List Nat} (h : SlotR S X sh v d f) (h1 : ∀ n, n ∉ X → n < S.length → n ∉ X' ∧ S'[n]? = S[n]?) (h2 : ∀ n ∈ f, S'[n]? = S[n]?) : SlotR S' X' sh v d f := by
  cases h with
  | empty => exact .empty
  | val r => exact .val (r.mono h1)
  | flat k r => exact .flat k (r.mono h1)
  | root k e c => exact .root k (by rw [h2 _ (by simp)]; exact e) (c.mono h1)
theorem SlotR.lt {S : Ms} {X : List Nat} {sh : Sh} {v : Option PV} {d : Option D} {f : List Nat} (h : SlotR S X sh v d f) : ∀ n ∈ f, n < S.length := by
  cases h with
  | root k e c => intro n hn; rw [List.mem_singleton] at hn; subst hn; exact lt_of_get e
  | _ => intro n hn; cases hn
section
variable {Y Y' : List Nat} {sh : List Sh} {env : Env'} {S S' : Ms} {e e' : DE} {fps : List (List Nat)}
theorem EnvR.flt (E : EnvR Y sh env S e fps) : ∀ n ∈ fps.flatten, n < S.length := fun n hn => let ⟨i, hi⟩ := fp_out hn; (E.slot i).lt n hi
theorem EnvR.xlt (E : EnvR Y sh env S e fps) : ∀ n ∈ Y ++ fps.flatten, n < S.length := fun n hn => (List.mem_append.mp hn).elim (E.bd n) (E.flt n)
theorem EnvR.sub (E : EnvR Y sh env S e fps) (h : ∀ y ∈ Y', y ∈ Y) : EnvR Y' sh env S e fps :=
  ⟨E.l1, E.l2, fun i => (E.slot i).mono (fun n hn hl => ⟨fun z => hn ((List.mem_append.mp z).elim (fun z => List.mem_append_left _ (h n z)) (List.mem_append_right _)), rfl⟩) fun _ _ => rfl, E.nd, fun y hy => E.bd y (h y hy), fun i hi x hx z => E.dj i hi x hx (h x z)⟩
/-- nothing of what stood is changed -/
theorem EnvR.quiet (E : EnvR Y sh env S e fps) (f : Fr [] S S') : EnvR (Y ++ newL S S') sh env S' e fps :=
  ⟨E.l1, E.l2, fun i => (E.slot i).mono (fun n hn hl => ⟨fun z => by
      rcases List.mem_append.mp z with z | z
      · rcases List.mem_append.mp z with z | z
        · exact hn (List.mem_append_left _ z)
        · have := (mem_newL.mp z).1; omega
      · exact hn (List.mem_append_right _ z), f.2 n hl (by simp)⟩) fun n hn => f.2 n ((E.slot i).lt n hn) (by simp), E.nd, fun y hy => by
    rcases List.mem_append.mp hy with z | z
    · exact Nat.lt_of_lt_of_le (E.bd y z) f.1
    · exact (mem_newL.mp z).2, fun i hi x hx z => (List.mem_append.mp z).elim (E.dj i hi x hx) fun z => by have := (E.slot i).lt x hx; have := (mem_newL.mp z).1; omega⟩
theorem EnvR.app (E : EnvR Y sh env S e fps) {t : Ms} : EnvR (Y ++ newL S (S ++ t)) sh env (S ++ t) e fps := E.quiet (.app _ _ _)
theorem newL_self : newL S S = [] := by simp [newL]
theorem EnvR.same (E : EnvR Y sh env S e fps) : EnvR (Y ++ newL S S) sh env S e fps := E.sub fun y hy => by rw [newL_self, List.append_nil] at hy; exact hy
theorem EnvR.back (E : EnvR (Y ++ Y') sh env S e fps) : EnvR Y sh env S e fps := E.sub fun y hy => List.mem_append_left _ hy
end
/-! ### what comes of an expression -/
structure QX where
  cls : Str
  fs : List (Str × D)
inductive LO (α : Type) where
  | ret (a : α) (e : DE) | exc (x : QX) (e : DE) | fail
def LO.bind {α β : Type} (o : LO α) (f : α → DE → LO β) : LO β := match o with
  | .ret a e => f a e
  | .exc x e => .exc x e
  | .fail => .fail
inductive Kd where | new | val | rd (l : List Nat)
def NewR (S S' : Ms) (X : List Nat) (v : PV) (d : D) : Prop := Rp S' X v d ∧ ∀ n, v = .loc n → S.length ≤ n ∧ ∃ o, S'[n]? = some o ∧ Cont S' (n :: X) o d
def VK (k : Kd) (S S' : Ms) (X : List Nat) (fps : List (List Nat)) (v : PV) (d : D) : Prop := match k with
  | .new => NewR S S' X v d
  | .val => Rp S' X v d
  | .rd l => Rp S' X v d ∨ ∃ i ∈ l, ∃ n o, v = .loc n ∧ fps.getD i [] = [n] ∧ S'[n]? = some o ∧ Cont S' X o d
def XRp (S : Ms) (X : List Nat) (x : Ex) (q : QX) : Prop := x.cls = q.cls ∧ ∃ ks vs ds, x.fs = List.zip ks vs ∧ q.fs = List.zip ks ds ∧ Rps S X vs ds
structure Stp (Y : List Nat) (sh : List Sh) (mu : List Nat) (env : Env') (S : Ms) (e' : DE) (fps : List (List Nat)) (S' : Ms) : Prop where
  fr : Fr (sel mu fps) S S'
  er : EnvR (Y ++ newL S S') sh env S' e' fps
/-- m does what q says; mu: the lent slots that may be written; X: what the value must not lead to -/
def LPost {α β : Type} (V : Ms → Ms → List Nat → List (List Nat) → α → β → Prop) (X Y : List Nat) (sh : List Sh) (mu : List Nat) (env : Env') (S : Ms) (fps : List (List Nat)) (o : Out α) : LO β → Prop
  | .ret d e' => ∃ v S', o = .ret v S' ∧ Stp Y sh mu env S e' fps S' ∧ V S S' X fps v d
  | .exc q e' => ∃ x S', o = .exc x S' ∧ Stp Y sh mu env S e' fps S' ∧ XRp S' X x q
  | .fail => True
abbrev QE := DE → LO D
abbrev QL := DE → LO (List D)
abbrev QB := DE → LO Bool
def LE (sh : List Sh) (mu : List Nat) (k : Kd) (m : ME) (q : QE) : Prop := ∀ Y env S e fps, EnvR Y sh env S e fps → LPost (VK k) (Y ++ fps.flatten) Y sh mu env S fps (m env S) (q e)
def LB (sh : List Sh) (mu : List Nat) (t : MB) (q : QB) : Prop := ∀ Y env S e fps, EnvR Y sh env S e fps → LPost (fun _ _ _ _ b c => b = c) (Y ++ fps.flatten) Y sh mu env S fps (t env S) (q e)
inductive VKs (k : Kd) (S S' : Ms) (X : List Nat) (fps : List (List Nat)) : List PV → List D → Prop
  | nil : VKs k S S' X fps [] []
  | cons {v d vs ds} : VK k S S' X fps v d → VKs k S S' X fps vs ds → VKs k S S' X fps (v :: vs) (d :: ds)
def LL (sh : List Sh) (mu : List Nat) (k : Kd) (m : ML) (q : QL) : Prop := ∀ Y env S e fps, EnvR Y sh env S e fps → LPost (VKs k) (Y ++ fps.flatten) Y sh mu env S fps (m env S) (q e)
section
variable {Y Y' X X' : List Nat} {sh : List Sh} {mu mu' : List Nat} {env : Env'} {S S' S1 S2 : Ms} {e e' e1 e2 : DE} {fps : List (List Nat)} {v : PV} {d : D} {k : Kd}
theorem VK.up (h : VK k S S' X fps v d) : (k = .new ∨ k = .val) → Rp S' X v d := by
  rintro (rfl | rfl)
  · exact h.1
  · exact h
theorem NewR.val (h : NewR S S' X v d) : Rp S' X v d := h.1
theorem NewR.flat (h : Rp S' X v d) (k : ∀ n, v ≠ .loc n) : NewR S S' X v d := ⟨h, fun n e => absurd e (k n)⟩
theorem NewR.int (i : Int) : NewR S S' X (.int i) (.int i) := .flat (.int i) fun _ h => nomatch h
theorem NewR.bl (i : Bool) : NewR S S' X (.bl i) (.bl i) := .flat (.bl i) fun _ h => nomatch h
theorem NewR.str (i : Str) : NewR S S' X (.str i) (.str i) := .flat (.str i) fun _ h => nomatch h
theorem NewR.tup {vs : List PV} {ds : List D} (h : Rps S' X vs ds) : NewR S S' X (.tup vs) (.tup ds) := .flat (.tup h) fun _ h => nomatch h
/-- a new object -/
theorem NewR.app {o : Ob} (h : Cont S X o d) (hX : ∀ n ∈ X, n < S.length) : NewR S (S ++ [o]) X (.loc S.length) d := by
  have c : Cont (S ++ [o]) (S.length :: X) o d := h.fr (.app [] _ _) (fun _ h => nomatch h) fun n hn => (List.mem_cons.mp hn).elim (fun z => .inr (by omega)) .inl
  refine ⟨.loc (fun z => by have := hX _ z; omega) (get_new _ _) (c.sub fun n hn => .inl (List.mem_cons_of_mem _ hn)), fun n e => ?_⟩
  cases e
  exact ⟨Nat.le_refl _, o, get_new _ _, c⟩
theorem VK.more {l l' : List Nat} (h : VK (.rd l) S S' X fps v d) (hl : ∀ i ∈ l, i ∈ l') : VK (.rd l') S S' X fps v d :=
  h.elim .inl fun ⟨i, hi, r⟩ => .inr ⟨i, hl i hi, r⟩
theorem VK.rd (h : VK (.rd l) S S' X fps v d) : Rd' S' X v d := by
  rcases h with h | ⟨i, hi, n, o, rfl, _, e, c⟩
  · exact h.rd
  · exact .at_ e c
/-- a value is kept while what comes later writes only slots other than those it is read from -/
theorem VK.keep {l : List Nat} (h : VK (.rd l) S S1 X fps v d) (f : Fr (sel mu fps) S1 S2) (nd : fps.flatten.Nodup) (hX : ∀ n ∈ fps.flatten, n ∈ X) (hl : ∀ i ∈ l, i ∉ mu) : VK (.rd l) S S2 X fps v d := by
  rcases h with h | ⟨i, hi, n, o, rfl, ef, en, c⟩
  · exact .inl (h.fr f (fun n hn => .inl (hX n (sel_in hn))) fun n hn => .inl hn)
  · refine .inr ⟨i, hi, n, o, rfl, ef, ?_, c.fr f (fun n hn => .inl (hX n (sel_in hn))) fun n hn => .inl hn⟩
    rw [f.2 n (lt_of_get en) fun z => ?_]; exact en
    obtain ⟨j, hj, hx⟩ := mem_sel.mp z
    have := fp_disj nd (i := i) (j := j) (x := n) (by rw [ef]; simp) hx
    subst this; exact hl i hi hj
theorem VK.weaken (h : VK k S S' X fps v d) (hX : ∀ n ∈ X', n ∈ X) : VK k S S' X' fps v d := by
  cases k with
  | new => exact ⟨h.1.sub fun n hn => .inl (hX n hn), fun n e => let ⟨a, o, b, c⟩ := h.2 n e; ⟨a, o, b, c.sub fun m hm => (List.mem_cons.mp hm).elim (fun z => .inl (by rw [z]; simp)) fun z => .inl (List.mem_cons_of_mem _ (hX m z))⟩⟩
  | val => exact Rp.sub h fun n hn => .inl (hX n hn)
  | rd l => exact h.elim (fun h => .inl (h.sub fun n hn => .inl (hX n hn))) fun ⟨i, hi, n, o, a, b, c, dd⟩ => .inr ⟨i, hi, n, o, a, b, c, dd.sub fun n hn => .inl (hX n hn)⟩
theorem VK.from (h : VK k S1 S' X fps v d) (hl : S.length ≤ S1.length) : VK k S S' X fps v d := by
  cases k with
  | new => exact ⟨h.1, fun n e => let ⟨a, o, b, c⟩ := h.2 n e; ⟨by omega, o, b, c⟩⟩
  | val => exact h
  | rd l => exact h
theorem VKs.weaken : ∀ {vs : List PV} {ds : List D}, VKs k S S' X fps vs ds → (∀ n ∈ X', n ∈ X) → VKs k S S' X' fps vs ds
  | _, _, .nil, _ => .nil
  | _, _, .cons h t, hX => .cons (h.weaken hX) (VKs.weaken t hX)
theorem XRp.weaken {x : Ex} {q : QX} (h : XRp S X x q) (hX : ∀ n ∈ X', n ∈ X) : XRp S X' x q := let ⟨a, ks, vs, ds, b, c, r⟩ := h; ⟨a, ks, vs, ds, b, c, r.sub fun n hn => .inl (hX n hn)⟩
theorem sel_app {fps : List (List Nat)} {x : Nat} : x ∈ sel (mu ++ mu') fps ↔ x ∈ sel mu fps ∨ x ∈ sel mu' fps := by
  simp only [mem_sel, List.mem_append, or_and_right, exists_or]
theorem Stp.refl (E : EnvR Y sh env S e fps) : Stp Y sh mu env S e fps S := ⟨.refl _ _, E.same⟩
theorem Stp.quiet (E : EnvR Y sh env S e fps) (f : Fr [] S S') : Stp Y sh mu env S e fps S' := ⟨f.mono (by simp), E.quiet f⟩
theorem Stp.trans (a : Stp Y sh mu env S e1 fps S1) (b : Stp (Y ++ newL S S1) sh mu' env S1 e2 fps S2) : Stp Y sh (mu ++ mu') env S e2 fps S2 :=
  ⟨(a.fr.mono fun n h => sel_app.mpr (.inl h)).trans (b.fr.mono fun n h => sel_app.mpr (.inr h)), b.er.sub fun y hy => by
    rcases List.mem_append.mp hy with z | z
    · exact List.mem_append_left _ (List.mem_append_left _ z)
    · have z := mem_newL.mp z
      by_cases q : y < S1.length
      · exact List.mem_append_left _ (List.mem_append_right _ (mem_newL.mpr ⟨z.1, q⟩))
      · exact List.mem_append_right _ (mem_newL.mpr ⟨by omega, z.2⟩)⟩
theorem Stp.mono (a : Stp Y sh mu env S e1 fps S1) (h : ∀ i ∈ mu, i ∈ mu') : Stp Y sh mu' env S e1 fps S1 :=
  ⟨a.fr.mono fun n hn => let ⟨i, hi, hx⟩ := mem_sel.mp hn; mem_sel.mpr ⟨i, h i hi, hx⟩, a.er⟩
/-- two steps, one after the other -/
theorem LPost.seq {α β γ δ : Type} {V : Ms → Ms → List Nat → List (List Nat) → α → β → Prop} {V' : Ms → Ms → List Nat → List (List Nat) → γ → δ → Prop} {o : Out α} {q : LO β} {f : α → Ms → Out γ} {g : β → DE → LO δ}
    (h : LPost V X Y sh mu env S fps o q) (hV : ∀ S S1 S2 v d, S.length ≤ S1.length → V' S1 S2 X fps v d → V' S S2 X fps v d)
    (k : ∀ v d S1 e1, Stp Y sh mu env S e1 fps S1 → V S S1 X fps v d → LPost V' X (Y ++ newL S S1) sh mu' env S1 fps (f v S1) (g d e1)) :
    LPost V' X Y sh (mu ++ mu') env S fps (o.bind f) (q.bind g) := by
  cases q with
  | fail => trivial
  | exc x e1 =>
    obtain ⟨x', S1, rfl, st, r⟩ := h
    exact ⟨x', S1, rfl, st.mono fun i hi => List.mem_append_left _ hi, r⟩
  | ret d e1 =>
    obtain ⟨v, S1, rfl, st, r⟩ := h
    have h2 := k v d S1 e1 st r
    show LPost V' X Y sh (mu ++ mu') env S fps (f v S1) (g d e1)
    cases hq : g d e1 with
    | fail => trivial
    | exc x e2 =>
      rw [hq] at h2
      obtain ⟨x', S2, h3, st2, r2⟩ := h2
      exact ⟨x', S2, h3, st.trans st2, r2⟩
    | ret d2 e2 =>
      rw [hq] at h2
      obtain ⟨v2, S2, h3, st2, r2⟩ := h2
      exact ⟨v2, S2, h3, st.trans st2, hV _ _ _ _ _ st.fr.1 r2⟩
theorem VKhV : ∀ (S S1 S2 : Ms) (v : PV) (d : D), S.length ≤ S1.length → VK k S1 S2 X fps v d → VK k S S2 X fps v d :=
  fun _ _ _ _ _ h1 h => h.from h1
theorem VKs.from : ∀ {vs : List PV} {ds : List D}, VKs k S1 S' X fps vs ds → S.length ≤ S1.length → VKs k S S' X fps vs ds
  | _, _, .nil, _ => .nil
  | _, _, .cons h t, hl => .cons (h.from hl) (VKs.from t hl)
theorem VKshV : ∀ (S S1 S2 : Ms) (v : List PV) (d : List D), S.length ≤ S1.length → VKs k S1 S2 X fps v d → VKs k S S2 X fps v d :=
  fun _ _ _ _ _ h1 h => h.from h1
theorem LPost.muUp {α β : Type} {V : Ms → Ms → List Nat → List (List Nat) → α → β → Prop} {o : Out α} {q : LO β} (h : LPost V X Y sh mu env S fps o q) (hm : ∀ i ∈ mu, i ∈ mu') : LPost V X Y sh mu' env S fps o q := by
  cases q with
  | fail => trivial
  | exc x e1 => obtain ⟨x', S1, a, b, c⟩ := h; exact ⟨x', S1, a, b.mono hm, c⟩
  | ret x e1 => obtain ⟨x', S1, a, b, c⟩ := h; exact ⟨x', S1, a, b.mono hm, c⟩
theorem LPost.imp {α β : Type} {V V' : Ms → Ms → List Nat → List (List Nat) → α → β → Prop} {o : Out α} {q : LO β} (h : LPost V X Y sh mu env S fps o q) (hV : ∀ S' v d, V S S' X fps v d → V' S S' X fps v d) : LPost V' X Y sh mu env S fps o q := by
  cases q with
  | fail => trivial
  | exc x e1 => exact h
  | ret x e1 => obtain ⟨x', S1, a, b, c⟩ := h; exact ⟨x', S1, a, b, hV _ _ _ c⟩
theorem LPost.sub {α β : Type} {V : Ms → Ms → List Nat → List (List Nat) → α → β → Prop} {o : Out α} {q : LO β} (h : LPost V X Y sh mu env S fps o q) (hX : ∀ n ∈ X', n ∈ X) (hV : ∀ S' v d, V S S' X fps v d → V S S' X' fps v d) : LPost V X' Y sh mu env S fps o q := by
  cases q with
  | fail => trivial
  | exc x e1 => obtain ⟨x', S1, a, b, c⟩ := h; exact ⟨x', S1, a, b, c.weaken hX⟩
  | ret x e1 => obtain ⟨x', S1, a, b, c⟩ := h; exact ⟨x', S1, a, b, hV _ _ _ c⟩
/-- a part in its place behind another -/
theorem in_more {S1 : Ms} : ∀ n ∈ Y ++ fps.flatten, n ∈ (Y ++ newL S S1) ++ fps.flatten := fun n hn => (List.mem_append.mp hn).elim (fun z => List.mem_append_left _ (List.mem_append_left _ z)) (List.mem_append_right _)
theorem LE.at_ {m : ME} {q : QE} (h : LE sh mu k m q) (E : EnvR (Y ++ newL S S1) sh env S1 e fps) : LPost (VK k) (Y ++ fps.flatten) (Y ++ newL S S1) sh mu env S1 fps (m env S1) (q e) :=
  (h _ env S1 e fps E).sub in_more fun S' v d r => r.weaken in_more
theorem LB.at_ {m : MB} {q : QB} (h : LB sh mu m q) (E : EnvR (Y ++ newL S S1) sh env S1 e fps) : LPost (fun _ _ _ _ b c => b = c) (Y ++ fps.flatten) (Y ++ newL S S1) sh mu env S1 fps (m env S1) (q e) :=
  (h _ env S1 e fps E).sub in_more fun S' v d r => r
theorem LL.at_ {m : ML} {q : QL} (h : LL sh mu k m q) (E : EnvR (Y ++ newL S S1) sh env S1 e fps) : LPost (VKs k) (Y ++ fps.flatten) (Y ++ newL S S1) sh mu env S1 fps (m env S1) (q e) :=
  (h _ env S1 e fps E).sub in_more fun S' v d r => r.weaken in_more
theorem fl_in : ∀ n ∈ fps.flatten, n ∈ Y ++ fps.flatten := fun n h => List.mem_append_right _ h
theorem Stp.xlt (st : Stp Y sh mu env S e fps S1) : ∀ n ∈ Y ++ fps.flatten, n < S1.length := fun n hn => st.er.xlt n (in_more n hn)
end
end MP

set_option maxRecDepth 100000
namespace MP
open PySem PySem.Spec PyProof.Rows L2
section
variable {Y X : List Nat} {sh : List Sh} {mu mu' mu2 : List Nat} {env : Env'} {S S' : Ms} {e : DE} {fps : List (List Nat)} {k k' : Kd} {m n c : ME} {p q r : QE} {t u : MB} {b b' : QB} {ml : ML} {ql : QL}
def opt {α : Type} (o : Option α) (e : DE) : LO α := match o with | some d => .ret d e | none => .fail
/-! kinds -/
theorem le_rdN (h : LE sh mu .new m q) : LE sh mu (.rd []) m q := fun Y env S e fps E => (h Y env S e fps E).imp fun _ _ _ r => .inl r.1
theorem le_rdV (h : LE sh mu .val m q) : LE sh mu (.rd []) m q := fun Y env S e fps E => (h Y env S e fps E).imp fun _ _ _ r => .inl r
/-! constants, variables -/
def qC (d : D) : QE := fun e => .ret d e
def qVar (i : Nat) : QE := fun e => match e.getD i none with | some d => .ret d e | none => .fail
theorem LPost.now {α β : Type} {V : Ms → Ms → List Nat → List (List Nat) → α → β → Prop} {v : α} {d : β} (E : EnvR Y sh env S e fps) (h : V S S X fps v d) : LPost V X Y sh mu env S fps (.ret v S) (.ret d e) := ⟨v, S, rfl, .refl E, h⟩
theorem le_non : LE sh [] .new (mC .non) (qC .non) := fun Y env S e fps E => .now E (.flat .non fun _ h => nomatch h)
theorem le_bl (i : Bool) : LE sh [] .new (mC (.bl i)) (qC (.bl i)) := fun Y env S e fps E => .now E (.bl i)
theorem le_int (i : Int) : LE sh [] .new (mC (.int i)) (qC (.int i)) := fun Y env S e fps E => .now E (.int i)
theorem var_get {i : Nat} {v : PV} (h : env.getD i none = some v) : env[i]? = some (some v) := by
  rw [List.getD_eq_getElem?_getD] at h
  cases e : env[i]? with
  | none => rw [e] at h; cases h
  | some x => rw [e] at h; simp at h; rw [h]
theorem mVar_get {i : Nat} {v : PV} (h : env.getD i none = some v) : mVar i env S = .ret v S := by unfold mVar; rw [var_get h]
theorem le_var (i : Nat) (hs : sh.getD i .val = .val := by rfl) : LE sh [] .val (mVar i) (qVar i) := fun Y env S e fps E => by
  unfold qVar
  cases ed : e.getD i none with
  | none => trivial
  | some d =>
    have h := E.slot i
    rw [ed, hs] at h
    generalize he : env.getD i none = v at h
    generalize fps.getD i [] = f at h
    cases h with
    | val r => rw [mVar_get he]; exact .now E r
    | root k _ _ => exact absurd rfl k
theorem le_varR (i : Nat) : LE sh [] (.rd [i]) (mVar i) (qVar i) := fun Y env S e fps E => by
  unfold qVar
  cases ed : e.getD i none with
  | none => trivial
  | some d =>
    have h := E.slot i
    rw [ed] at h
    generalize he : env.getD i none = v at h
    generalize hf : fps.getD i [] = f at h
    generalize sh.getD i .val = s at h
    cases h with
    | val r => rw [mVar_get he]; exact .now E (.inl r)
    | flat _ r => rw [mVar_get he]; exact .now E (.inl r)
    | root _ r c => rw [mVar_get he]; exact .now E (.inr ⟨i, by simp, _, _, rfl, hf, r, c⟩)
/-! operations -/
inductive Rk where | new | val
def Rk.kd : Rk → Kd | .new => .new | .val => .val
def OK (k : Rk) (S S' : Ms) (X : List Nat) (v : PV) (d : D) : Prop := match k with | .new => NewR S S' X v d | .val => Rp S' X v d
/-- an operation on data that f does, new objects apart -/
def Does (k : Rk) (S : Ms) (X : List Nat) (o : Out PV) (g : Option D) : Prop := ∀ d, g = some d → ∃ v S', o = .ret v S' ∧ Fr [] S S' ∧ OK k S S' X v d
def O1R (k : Rk) (f : PV → Ms → Out PV) (g : D → Option D) : Prop := ∀ S X x dx, (∀ n ∈ X, n < S.length) → Rd' S X x dx → Does k S X (f x S) (g dx)
def O2R (k : Rk) (f : PV → PV → Ms → Out PV) (g : D → D → Option D) : Prop := ∀ S X x y dx dy, (∀ n ∈ X, n < S.length) → Rd' S X x dx → Rd' S X y dy → Does k S X (f x y S) (g dx dy)
inductive Rds (S : Ms) (X : List Nat) : List PV → List D → Prop
  | nil : Rds S X [] []
  | cons {v d vs ds} : Rd' S X v d → Rds S X vs ds → Rds S X (v :: vs) (d :: ds)
def OLR (k : Rk) (f : List PV → Ms → Out PV) (g : List D → Option D) : Prop := ∀ S X xs ds, (∀ n ∈ X, n < S.length) → Rds S X xs ds → Does k S X (f xs S) (g ds)
theorem OK.vk {k : Rk} {v : PV} {d : D} (h : OK k S S' X v d) : VK k.kd S S' X fps v d := by cases k <;> exact h
theorem Does.post {k : Rk} {o : Out PV} {g : Option D} (E : EnvR Y sh env S e fps) (h : Does k S X o g) : LPost (VK k.kd) X Y sh mu env S fps o (opt g e) := by
  cases hg : g with
  | none => trivial
  | some d => obtain ⟨v, S', h1, h2, h3⟩ := h d hg; exact ⟨v, S', h1, .quiet E h2, h3.vk⟩
theorem LPost.nil' {α β : Type} {V : Ms → Ms → List Nat → List (List Nat) → α → β → Prop} {o : Out α} {q : LO β} (h : LPost V X Y sh (mu ++ []) env S fps o q) : LPost V X Y sh mu env S fps o q := h.muUp (by simp)
def q1 (a : QE) (g : D → Option D) : QE := fun e => (a e).bind fun x e1 => opt (g x) e1
def q2 (a b : QE) (g : D → D → Option D) : QE := fun e => (a e).bind fun x e1 => (b e1).bind fun y e2 => opt (g x y) e2
theorem le_1 {l : List Nat} {f : PV → Ms → Out PV} {g : D → Option D} {kk : Rk} (hf : O1R kk f g) (ha : LE sh mu (.rd l) m p) : LE sh mu kk.kd (m1 m f) (q1 p g) := fun Y env S e fps E =>
  LPost.nil' (LPost.seq (ha Y env S e fps E) VKhV fun v d S1 e1 st r => Does.post st.er (hf S1 _ v d st.xlt r.rd))
theorem le_2 {l l' : List Nat} {f : PV → PV → Ms → Out PV} {g : D → D → Option D} {kk : Rk} (hf : O2R kk f g) (ha : LE sh mu (.rd l) m p) (hb : LE sh mu' (.rd l') n q) (hl : ∀ i ∈ l, i ∉ mu' := by decide) : LE sh (mu ++ mu') kk.kd (m2 m n f) (q2 p q g) := fun Y env S e fps E =>
  LPost.seq (ha Y env S e fps E) VKhV fun v d S1 e1 st r => LPost.nil' (LPost.seq (hb.at_ st.er) VKhV fun w d2 S2 e2 st2 r2 =>
    Does.post st2.er (hf S2 _ v w d d2 (fun n hn => st2.xlt n (in_more n hn)) (r.keep st2.fr E.nd fl_in hl).rd r2.rd))
/-! lists of arguments -/
def qNil : QL := fun e => .ret [] e
def qCons (a : QE) (r : QL) : QL := fun e => (a e).bind fun x e1 => (r e1).bind fun xs e2 => .ret (x :: xs) e2
theorem ll_nil {k : Kd} : LL sh [] k mNil qNil := fun Y env S e fps E => .now E .nil
theorem mCons_eq : mCons m ml env S = (m env S).bind fun x S1 => (ml env S1).bind fun xs S2 => .ret (x :: xs) S2 := by
  unfold mCons Out.bind
  cases m env S with
  | ret x S1 => dsimp only; cases ml env S1 <;> rfl
  | _ => rfl
theorem VKs.reR {l : List Nat} {S1 : Ms} : ∀ {vs : List PV} {ds : List D}, VKs (.rd l) S S' X fps vs ds → VKs (.rd l) S1 S' X fps vs ds
  | _, _, .nil => .nil
  | _, _, .cons h t => .cons h (VKs.reR t)
theorem VKs.reV {S1 : Ms} : ∀ {vs : List PV} {ds : List D}, VKs .val S S' X fps vs ds → VKs .val S1 S' X fps vs ds
  | _, _, .nil => .nil
  | _, _, .cons h t => .cons h (VKs.reV t)
theorem VKs.keep {l : List Nat} {S1 S2 : Ms} (nd : fps.flatten.Nodup) (hX : ∀ n ∈ fps.flatten, n ∈ X) (hl : ∀ i ∈ l, i ∉ mu) (f : Fr (sel mu fps) S1 S2) : ∀ {vs : List PV} {ds : List D}, VKs (.rd l) S S1 X fps vs ds → VKs (.rd l) S S2 X fps vs ds
  | _, _, .nil => .nil
  | _, _, .cons h t => .cons (h.keep f nd hX hl) (VKs.keep nd hX hl f t)
theorem VKs.more {l l' : List Nat} (hl : ∀ i ∈ l, i ∈ l') : ∀ {vs : List PV} {ds : List D}, VKs (.rd l) S S' X fps vs ds → VKs (.rd l') S S' X fps vs ds
  | _, _, .nil => .nil
  | _, _, .cons h t => .cons (h.more hl) (VKs.more hl t)
theorem VKs.rds {l : List Nat} : ∀ {vs : List PV} {ds : List D}, VKs (.rd l) S S' X fps vs ds → Rds S' X vs ds
  | _, _, .nil => .nil
  | _, _, .cons h t => .cons h.rd (VKs.rds t)
theorem ll_cons {l l' : List Nat} (ha : LE sh mu (.rd l) m p) (hb : LL sh mu' (.rd l') ml ql) (hl : ∀ i ∈ l, i ∉ mu' := by decide) : LL sh (mu ++ mu') (.rd (l ++ l')) (mCons m ml) (qCons p ql) := fun Y env S e fps E => by
  rw [mCons_eq]
  exact LPost.seq (ha Y env S e fps E) VKshV fun v d S1 e1 st r => LPost.nil' (LPost.seq (hb.at_ st.er) VKshV fun w d2 S2 e2 st2 r2 =>
    .now st2.er (.cons ((r.keep st2.fr E.nd fl_in hl).more fun i hi => List.mem_append_left _ hi) ((VKs.reR r2).more fun i hi => List.mem_append_right _ hi)))
def qL (l : QL) (g : List D → Option D) : QE := fun e => (l e).bind fun xs e1 => opt (g xs) e1
theorem le_L {l : List Nat} {f : List PV → Ms → Out PV} {g : List D → Option D} {kk : Rk} (hf : OLR kk f g) (ha : LL sh mu (.rd l) ml ql) : LE sh mu kk.kd (mL ml f) (qL ql g) := fun Y env S e fps E =>
  LPost.nil' (LPost.seq (ha Y env S e fps E) VKhV fun v d S1 e1 st r => Does.post st.er (hf S1 _ v d st.xlt r.rds))
/-! displays: what goes in must be a value -/
theorem ll_consV {k : Kd} (hk : k = .new ∨ k = .val) (ha : LE sh mu k m p) (hb : LL sh mu' .val ml ql) : LL sh (mu ++ mu') .val (mCons m ml) (qCons p ql) := fun Y env S e fps E => by
  rw [mCons_eq]
  exact LPost.seq (ha Y env S e fps E) VKshV fun v d S1 e1 st r => LPost.nil' (LPost.seq (hb.at_ st.er) VKshV fun w d2 S2 e2 st2 r2 =>
    .now st2.er (.cons ((r.up hk).fr st2.fr (fun n hn => .inl (fl_in n (sel_in hn))) fun n hn => .inl hn) (VKs.reV r2)))
theorem VKs.rps : ∀ {vs : List PV} {ds : List D}, VKs .val S S' X fps vs ds → Rps S' X vs ds
  | _, _, .nil => .nil
  | _, _, .cons h t => .cons h (VKs.rps t)
def gList (ds : List D) : Option D := if ds.length ≤ lim then some (.lst ds) else none
def gTup (ds : List D) : Option D := if ds.length ≤ lim then some (.tup ds) else none
theorem le_list (ha : LL sh mu .val ml ql) : LE sh mu .new (mL ml oList) (qL ql gList) := fun Y env S e fps E =>
  LPost.nil' (LPost.seq (ha Y env S e fps E) VKhV fun v d S1 e1 st r => Does.post (k := .new) st.er (by
    intro d' hd
    unfold gList at hd
    split at hd
    · cases hd
      refine ⟨_, _, by unfold oList; rw [if_pos (by rw [r.rps.length]; assumption)], .app _ _ _, NewR.app (.lst r.rps) st.xlt⟩
    · cases hd))
theorem le_tup (ha : LL sh mu .val ml ql) : LE sh mu .new (mL ml oTup) (qL ql gTup) := fun Y env S e fps E =>
  LPost.nil' (LPost.seq (ha Y env S e fps E) VKhV fun v d S1 e1 st r => Does.post (k := .new) st.er (by
    intro d' hd
    unfold gTup at hd
    split at hd
    · cases hd
      refine ⟨_, _, by unfold oTup; rw [if_pos (by rw [r.rps.length]; assumption)], .refl _ _, NewR.tup r.rps⟩
    · cases hd))
/-! tests -/
def qB (a : QE) : QB := fun e => (a e).bind fun x e1 => match x with | .bl b => .ret b e1 | _ => .fail
def truthD : D → Option Bool
  | .non => some false
  | .bl b => some b
  | .int i => some (i != 0)
  | .str s => if s.length ≤ lim then some ((s.length : Int) != 0) else none
  | .tup xs => some (!xs.isEmpty)
  | .lst xs => some (!xs.isEmpty)
  | _ => none
def qT (a : QE) : QB := fun e => (a e).bind fun x e1 => opt (truthD x) e1
theorem outB_eq {f : PV → Ms → Out Bool} : outB f m env S = (m env S).bind f := by unfold outB Out.bind; cases m env S <;> rfl
theorem lb_B {l : List Nat} (ha : LE sh mu (.rd l) m p) : LB sh mu (mB m) (qB p) := fun Y env S e fps E => by
  show LPost _ _ _ _ _ _ _ _ (outB asB m env S) _
  rw [outB_eq]
  refine LPost.nil' (LPost.seq (ha Y env S e fps E) (fun _ _ _ _ _ _ h => h) fun v d S1 e1 st r => ?_)
  cases d with
  | bl b => rw [r.rd.inv_bl]; exact .now st.er rfl
  | _ => trivial
theorem lb_T {l : List Nat} (ha : LE sh mu (.rd l) m p) : LB sh mu (mT m) (qT p) := fun Y env S e fps E => by
  show LPost _ _ _ _ _ _ _ _ (outB truth m env S) _
  rw [outB_eq]
  refine LPost.nil' (LPost.seq (ha Y env S e fps E) (fun _ _ _ _ _ _ h => h) fun v d S1 e1 st r => ?_)
  have r := r.rd
  cases hd : truthD d with
  | none => trivial
  | some b =>
    suffices h : truth v S1 = .ret b S1 by rw [h]; exact .now st.er rfl
    cases d with
    | non => cases hd; rw [r.inv_non]; rfl
    | bl b => cases hd; rw [r.inv_bl]; rfl
    | int b => cases hd; rw [r.inv_int]; rfl
    | str s =>
      simp only [truthD] at hd
      split at hd
      · cases hd; rw [r.inv_str]; simp only [truth]; rw [if_pos (by assumption)]
      · cases hd
    | tup xs => cases hd; obtain ⟨ys, rfl, h⟩ := r.inv_tup; simp only [truth]; cases h <;> rfl
    | lst xs => cases hd; obtain ⟨n, ys, rfl, en, h⟩ := r.inv_lst; simp only [truth, en]; cases h <;> rfl
    | _ => cases hd
def qYes : QB := fun e => .ret true e
theorem lb_yes : LB sh [] bYes qYes := fun Y env S e fps E => .now E rfl
def qbAnd (a b : QB) : QB := fun e => (a e).bind fun x e1 => match x with | true => b e1 | false => .ret false e1
def qbOr (a b : QB) : QB := fun e => (a e).bind fun x e1 => match x with | true => .ret true e1 | false => b e1
def qbNot (a : QB) : QB := fun e => (a e).bind fun x e1 => .ret (!x) e1
theorem bOr_eq : bOr t u env S = (t env S).bind fun x S1 => match x with | true => .ret true S1 | false => u env S1 := by unfold bOr Out.bind; cases t env S with | ret b _ => cases b <;> rfl | _ => rfl
theorem bNot_eq : bNot t env S = (t env S).bind fun x S1 => .ret (!x) S1 := by unfold bNot Out.bind; cases t env S <;> rfl
theorem lb_or (ha : LB sh mu t b) (hb : LB sh mu' u b') : LB sh (mu ++ mu') (bOr t u) (qbOr b b') := fun Y env S e fps E => by
  rw [bOr_eq]
  refine LPost.seq (ha Y env S e fps E) (fun _ _ _ _ _ _ h => h) fun v d S1 e1 st r => ?_
  cases r
  cases v with
  | false => exact hb.at_ st.er
  | true => exact .now st.er rfl
theorem lb_not (ha : LB sh mu t b) : LB sh mu (bNot t) (qbNot b) := fun Y env S e fps E => by
  rw [bNot_eq]
  refine LPost.nil' (LPost.seq (ha Y env S e fps E) (fun _ _ _ _ _ _ h => h) fun v d S1 e1 st r => ?_)
  cases r
  exact .now st.er rfl
/-! truth values as values -/
def qAnd (a b : QE) : QE := fun e => (a e).bind fun x e1 => match x with | .bl true => b e1 | .bl false => .ret (.bl false) e1 | _ => .fail
def qOr (a b : QE) : QE := fun e => (a e).bind fun x e1 => match x with | .bl true => .ret (.bl true) e1 | .bl false => b e1 | _ => .fail
def qNot (a : QE) : QE := fun e => (a e).bind fun x e1 => match x with | .bl b => .ret (.bl (!b)) e1 | _ => .fail
theorem mAnd_eq : mAnd m n env S = (m env S).bind fun x S1 => match x with | .bl true => n env S1 | .bl false => .ret (.bl false) S1 | _ => .fail := by unfold mAnd Out.bind; cases m env S with
  | ret b _ => (cases b with
    | bl b => cases b <;> rfl
    | _ => rfl)
  | _ => rfl
theorem le_and {l : List Nat} (ha : LE sh mu (.rd l) m p) (hb : LE sh mu' k n q) (hk : k = .new ∨ k = .val ∨ k = .rd [] := by first | exact Or.inl rfl | exact Or.inr (Or.inl rfl) | exact Or.inr (Or.inr rfl)) : LE sh (mu ++ mu') k (mAnd m n) (qAnd p q) := fun Y env S e fps E => by
  rw [mAnd_eq]
  refine LPost.seq (ha Y env S e fps E) VKhV fun v d S1 e1 st r => ?_
  cases d with
  | bl c =>
    rw [r.rd.inv_bl]
    cases c with
    | true => exact hb.at_ st.er
    | false => exact .now st.er (by rcases hk with rfl | rfl | rfl; exact .bl _; exact .bl _; exact .inl (.bl _))
  | _ => trivial
def qIf (t : QB) (a b : QE) : QE := fun e => (t e).bind fun x e1 => match x with | true => a e1 | false => b e1
theorem mIf_eq : mIf t m n env S = (t env S).bind fun x S1 => match x with | true => m env S1 | false => n env S1 := by unfold mIf Out.bind; cases t env S with | ret b _ => cases b <;> rfl | _ => rfl
theorem le_if (ht : LB sh mu t b) (ha : LE sh mu' k m p) (hb : LE sh mu2 k n q) : LE sh (mu ++ (mu' ++ mu2)) k (mIf t m n) (qIf b p q) := fun Y env S e fps E => by
  rw [mIf_eq]
  refine LPost.seq (ht Y env S e fps E) VKhV fun v d S1 e1 st r => ?_
  cases r
  cases v with
  | true => exact (ha.at_ st.er).muUp fun i hi => List.mem_append_left _ hi
  | false => exact (hb.at_ st.er).muUp fun i hi => List.mem_append_right _ hi
def qChain (a b c : QE) (f g : D → D → Option D) : QE := fun e => (a e).bind fun x e1 => (b e1).bind fun y e2 => (opt (f x y) e2).bind fun z e3 => match z with
  | .bl true => (c e3).bind fun w e4 => opt (g y w) e4
  | .bl false => .ret (.bl false) e3
  | _ => .fail
theorem le_chain {f g : PV → PV → Ms → Out PV} {f' g' : D → D → Option D} (hf : O2R .new f f') (hg : O2R .new g g') (ha : LE sh mu (.rd []) m p) (hb : LE sh mu' (.rd []) n q) (hc : LE sh mu2 (.rd []) c r) : LE sh (mu ++ (mu' ++ mu2)) .new (mChain m n c f g) (qChain p q r f' g') := fun Y env S e fps E => by
  unfold mChain qChain
  refine LPost.seq (ha Y env S e fps E) VKhV fun v d S1 e1 st r1 => LPost.seq (hb.at_ st.er) VKhV fun w d2 S2 e2 st2 r2 => ?_
  have r1 := r1.keep st2.fr E.nd fl_in (by simp)
  refine LPost.seq (mu := []) (Does.post st2.er (hf S2 _ v w d d2 (fun n hn => st2.xlt n (in_more n hn)) r1.rd r2.rd)) VKhV fun z d3 S3 e3 st3 r3 => ?_
  cases d3 with
  | bl t =>
    rw [(VK.up r3 (.inl rfl)).inv_bl]
    cases t with
    | false => exact .now st3.er (.bl _)
    | true =>
      refine LPost.nil' (LPost.seq (((hc _ env S3 e3 fps st3.er).sub (X' := Y ++ fps.flatten) (fun n hn => in_more n (in_more n (in_more n hn))) fun S' v d r => r.weaken fun n hn => in_more n (in_more n (in_more n hn)))) VKhV fun u d4 S4 e4 st4 r4 => ?_)
      refine Does.post st4.er (hg S4 _ w u d2 d4 (fun n hn => st4.xlt n (in_more n (in_more n (in_more n hn)))) ?_ r4.rd)
      exact ((r2.keep st3.fr E.nd fl_in (by simp)).keep st4.fr E.nd fl_in (by simp)).rd
  | _ => trivial
end
end MP

set_option maxRecDepth 100000
namespace MP
open PySem PySem.Spec PyProof.Rows L2
section
variable {Y X : List Nat} {S S' : Ms} {v w : PV} {d d' : D} {vs : List PV} {ds : List D}
/-! ### data as the model's data -/
mutual
def toPy : Nat → D → Option PyData
  | _, .non => some .none
  | _, .bl b => some (.bool b)
  | _, .int i => some (.int i)
  | _, .str s => some (.str s)
  | 0, _ => none
  | k + 1, .tup xs => (toPys k xs).map .tuple
  | k + 1, .lst xs => (toPys k xs).map .list
  | _, _ => none
def toPys : Nat → List D → Option (List PyData)
  | _, [] => some []
  | k, x :: xs => match toPy k x, toPys k xs with | some d, some ds => some (d :: ds) | _, _ => none
end
theorem toDs_cons {k : Nat} {x : PV} {xs : List PV} : toDs S k (x :: xs) = match toD S k x, toDs S k xs with | some d, some ds => some (d :: ds) | _, _ => none := by rw [toDs] <;> rfl
theorem toDs_rp {k : Nat} (ih : ∀ {v d p}, Rd' S X v d → toPy k d = some p → toD S k v = some p) : ∀ {vs : List PV} {ds : List D} {ps : List PyData}, Rps S X vs ds → toPys k ds = some ps → toDs S k vs = some ps
  | _, _, ps, .nil, h => by unfold toPys at h; cases h; unfold toDs; rfl
  | _, _, ps, .cons (x := x) (d := d) (xs := xs) (ds := ds) r t, h => by
    rw [toPys] at h
    cases e1 : toPy k d with
    | none => rw [e1] at h; cases h
    | some p =>
      cases e2 : toPys k ds with
      | none => rw [e1, e2] at h; cases h
      | some ps' =>
        rw [e1, e2] at h; cases h
        rw [toDs_cons, ih r.rd e1, toDs_rp ih t e2]
theorem toD_rd : ∀ {k : Nat} {v : PV} {d : D} {p : PyData}, Rd' S X v d → toPy k d = some p → toD S k v = some p := by
  intro k
  induction k with
  | zero =>
    intro v d p r h
    cases d with
    | non => rw [r.inv_non]; simp only [toPy] at h; cases h; unfold toD; rfl
    | bl b => rw [r.inv_bl]; simp only [toPy] at h; cases h; unfold toD; rfl
    | int b => rw [r.inv_int]; simp only [toPy] at h; cases h; unfold toD; rfl
    | str b => rw [r.inv_str]; simp only [toPy] at h; cases h; unfold toD; rfl
    | _ => simp [toPy] at h
  | succ k ih =>
    intro v d p r h
    cases d with
    | non => rw [r.inv_non]; simp only [toPy] at h; cases h; unfold toD; rfl
    | bl b => rw [r.inv_bl]; simp only [toPy] at h; cases h; unfold toD; rfl
    | int b => rw [r.inv_int]; simp only [toPy] at h; cases h; unfold toD; rfl
    | str b => rw [r.inv_str]; simp only [toPy] at h; cases h; unfold toD; rfl
    | tup xs =>
      obtain ⟨ys, rfl, hs⟩ := r.inv_tup
      rw [toPy] at h
      cases e : toPys k xs with
      | none => rw [e] at h; cases h
      | some ps => rw [e] at h; cases h; unfold toD; rw [toDs_rp ih hs e]; rfl
    | lst xs =>
      obtain ⟨n, ys, rfl, en, hs⟩ := r.inv_lst
      rw [toPy] at h
      cases e : toPys k xs with
      | none => rw [e] at h; cases h
      | some ps => rw [e] at h; cases h; unfold toD; simp only [en]; rw [toDs_rp ih hs e]; rfl
    | _ => simp [toPy] at h
def gEqB (x y : D) : Option Bool := match toPy 12 x, toPy 12 y with
  | some d, some e => if SeqAt.shaped d && SeqAt.shaped e then some (PyData.eqv d e) else none
  | _, _ => none
theorem eqD_rd {x y : PV} {dx dy : D} {b : Bool} (h1 : Rd' S X x dx) (h2 : Rd' S X y dy) (h : gEqB dx dy = some b) : eqD S x y = some b := by
  unfold gEqB at h
  split at h
  · rename_i p q e1 e2
    unfold eqD
    rw [toD_rd h1 e1, toD_rd h2 e2]
    exact h
  · cases h
def gEq (x y : D) : Option D := (gEqB x y).map D.bl
def gNe (x y : D) : Option D := (gEqB x y).map fun b => D.bl (!b)
theorem Does.ret {k : Rk} {o : Out PV} (h : o = .ret v S) (r : OK k S S X v d) {g : Option D} (hg : g = some d) : Does k S X o g := fun d' e => by
  rw [hg] at e; cases e; exact ⟨v, S, h, .refl _ _, r⟩
theorem Does.none {k : Rk} {o : Out PV} : Does k S X o Option.none := fun _ h => nomatch h
theorem OK.vl {k : Rk} (h : Rp S' X v d) (hn : ∀ n, v ≠ .loc n) : OK k S S' X v d := by cases k; exact .flat h hn; exact h
theorem og_eq : O2R .new oEq gEq := by
  intro S X x y dx dy hX h1 h2
  unfold gEq
  cases e : gEqB dx dy with
  | none => exact .none
  | some b => exact Does.ret (k := .new) (v := .bl b) (d := .bl b) (by unfold oEq; rw [eqD_rd h1 h2 e]) (NewR.bl _) rfl
theorem og_ne : O2R .new oNe gNe := by
  intro S X x y dx dy hX h1 h2
  unfold gNe
  cases e : gEqB dx dy with
  | none => exact .none
  | some b => exact Does.ret (k := .new) (v := .bl (!b)) (d := .bl (!b)) (by unfold oNe; rw [eqD_rd h1 h2 e]) (NewR.bl _) rfl
/-! ### arithmetic -/
def gAdd : D → D → Option D
  | .int i, .int j => some (.int (i + j))
  | .tup xs, .tup ys => if xs.length + ys.length ≤ lim then some (.tup (xs ++ ys)) else none
  | .lst xs, .lst ys => if xs.length + ys.length ≤ lim then some (.lst (xs ++ ys)) else none
  | .str a, .str b => if a.length + b.length ≤ lim then some (.str (a ++ b)) else none
  | _, _ => none
theorem og_add : O2R .new oAdd gAdd := by
  intro S X x y dx dy hX h1 h2 d hd
  unfold gAdd at hd
  split at hd
  · cases hd; rw [h1.inv_int, h2.inv_int]; exact ⟨_, _, rfl, .refl _ _, .int _⟩
  · split at hd
    · cases hd
      obtain ⟨xs, rfl, r1⟩ := h1.inv_tup
      obtain ⟨ys, rfl, r2⟩ := h2.inv_tup
      exact ⟨_, _, by simp only [oAdd]; rw [if_pos (by rw [r1.length, r2.length]; assumption)], .refl _ _, .tup (r1.append r2)⟩
    · cases hd
  · split at hd
    · cases hd
      obtain ⟨n, xs, rfl, e1, r1⟩ := h1.inv_lst
      obtain ⟨m, ys, rfl, e2, r2⟩ := h2.inv_lst
      exact ⟨_, _, by simp only [oAdd, e1, e2]; rw [if_pos (by rw [r1.length, r2.length]; assumption)], .app _ _ _, .app (.lst (r1.append r2)) hX⟩
    · cases hd
  · split at hd
    · cases hd; rw [h1.inv_str, h2.inv_str]; exact ⟨_, _, by simp only [oAdd]; rw [if_pos (by assumption)], .refl _ _, .str _⟩
    · cases hd
  · cases hd
def gAddI : D → D → Option D
  | .int i, .int j => some (.int (i + j))
  | _, _ => none
def gSub : D → D → Option D
  | .int i, .int j => some (.int (i - j))
  | _, _ => none
theorem og_sub : O2R .new oSub gSub := by
  intro S X x y dx dy hX h1 h2 d hd
  unfold gSub at hd
  split at hd
  · cases hd; rw [h1.inv_int, h2.inv_int]; exact ⟨_, _, rfl, .refl _ _, .int _⟩
  · cases hd
open Classical in
noncomputable def gMul : D → D → Option D
  | .int i, .int j => if CMul i j ∨ CMulW i j then some (.int (i * j)) else none
  | .lst xs, .int k => if -(2 ^ 63) ≤ k ∧ k < 2 ^ 63 ∧ xs.length * k.toNat ≤ lim then some (.lst (List.replicate k.toNat xs).flatten) else none
  | .tup xs, .int k => if xs ≠ [] ∧ 2 ≤ k ∧ k ≤ 1000 ∧ xs.length ≤ 1000 then some (.tup (List.replicate k.toNat xs).flatten) else none
  | _, _ => none
theorem Rps.ne (h : Rps S X vs ds) (hd : ds ≠ []) : vs ≠ [] := by rintro rfl; cases h; exact hd rfl
theorem og_mul : O2R .new oMul gMul := by
  intro S X x y dx dy hX h1 h2 d hd
  unfold gMul at hd
  split at hd
  · split at hd
    · cases hd; rw [h1.inv_int, h2.inv_int]; exact ⟨_, _, by simp only [oMul]; rw [if_pos (by assumption)], .refl _ _, .int _⟩
    · cases hd
  · split at hd
    · rename_i q
      cases hd; rw [h2.inv_int]
      obtain ⟨n, xs, rfl, e1, r1⟩ := h1.inv_lst
      exact ⟨_, _, by simp only [oMul, e1]; rw [if_pos ⟨q.1, q.2.1, by rw [r1.length]; exact q.2.2⟩], .app _ _ _, .app (.lst (r1.rep _)) hX⟩
    · cases hd
  · split at hd
    · rename_i q
      cases hd; rw [h2.inv_int]
      obtain ⟨xs, rfl, r1⟩ := h1.inv_tup
      exact ⟨_, _, by simp only [oMul]; rw [if_pos ⟨r1.ne q.1, q.2.1, q.2.2.1, by rw [r1.length]; exact q.2.2.2⟩], .refl _ _, .tup (r1.rep _)⟩
    · cases hd
  · cases hd
def gMod : D → D → Option D
  | .int i, .int j => if j ≠ 0 then some (.int (i.fmod j)) else none
  | _, _ => none
theorem og_mod : O2R .new oMod gMod := by
  intro S X x y dx dy hX h1 h2 d hd
  unfold gMod at hd
  split at hd
  · split at hd
    · cases hd; rw [h1.inv_int, h2.inv_int]; exact ⟨_, _, by simp only [oMod]; rw [if_pos (by assumption)], .refl _ _, .int _⟩
    · cases hd
  · cases hd
open Classical in
noncomputable def gDiv : D → D → Option D
  | .int i, .int j => if CDivN i j then some (.int (i.fdiv j)) else if CDivW i j then some (.int (i / j)) else none
  | _, _ => none
theorem og_div : O2R .new oDiv gDiv := by
  intro S X x y dx dy hX h1 h2 d hd
  unfold gDiv at hd
  split at hd
  · split at hd
    · cases hd; rw [h1.inv_int, h2.inv_int]; exact ⟨_, _, by simp only [oDiv]; rw [if_pos (by assumption)], .refl _ _, .int _⟩
    · split at hd
      · cases hd; rw [h1.inv_int, h2.inv_int]; exact ⟨_, _, by simp only [oDiv]; rw [if_neg (by assumption), if_pos (by assumption)], .refl _ _, .int _⟩
      · cases hd
  · cases hd
open Classical in
noncomputable def gPow : D → D → Option D
  | .int i, .int j => if CPow i j then some (.int (i ^ j.toNat)) else none
  | _, _ => none
theorem og_pow : O2R .new oPow gPow := by
  intro S X x y dx dy hX h1 h2 d hd
  unfold gPow at hd
  split at hd
  · split at hd
    · cases hd; rw [h1.inv_int, h2.inv_int]; exact ⟨_, _, by simp only [oPow]; rw [if_pos (by assumption)], .refl _ _, .int _⟩
    · cases hd
  · cases hd
def gNeg : D → Option D
  | .int i => some (.int (-i))
  | _ => none
theorem og_neg : O1R .new oNeg gNeg := by
  intro S X x dx hX h1 d hd
  unfold gNeg at hd
  split at hd
  · cases hd; rw [h1.inv_int]; exact ⟨_, _, rfl, .refl _ _, .int _⟩
  · cases hd
def gCmp (p : Int → Int → Bool) : D → D → Option D
  | .int i, .int j => some (.bl (p i j))
  | _, _ => none
theorem og_cmp {p : Int → Int → Bool} : O2R .new (oCmp p) (gCmp p) := by
  intro S X x y dx dy hX h1 h2 d hd
  unfold gCmp at hd
  split at hd
  · cases hd; rw [h1.inv_int, h2.inv_int]; exact ⟨_, _, rfl, .refl _ _, .bl _⟩
  · cases hd
abbrev gLt := gCmp fun i j => decide (i < j)
abbrev gLe := gCmp fun i j => decide (i ≤ j)
abbrev gGt := gCmp fun i j => decide (j < i)
/-! ### subscripts -/
def gIdx : D → D → Option D
  | .str z, .int i => if z.length ≤ lim then (atI z.cps.toList i).map fun c => .str ⟨#[c]⟩ else none
  | .tup xs, .int i => atI xs i
  | .lst xs, .int i => atI xs i
  | _, _ => none
theorem atI_rp {i : Int} (h : Rps S X vs ds) (e : atI ds i = some d) : ∃ v, atI vs i = some v ∧ Rp S X v d := by
  unfold atI at e ⊢
  rw [h.length]
  cases ej : ixN ds.length i with
  | none => rw [ej] at e; cases e
  | some j => rw [ej] at e; exact h.get e
def isDictD : D → Bool
  | .dK _ => true
  | .dT _ => true
  | _ => false
def isDictL : D → Bool
  | .lkK _ => true
  | d => isDictD d
theorem isDict_seq (h : Rd' S X v d) : isDict S v = isDictL d := by
  cases h with
  | vl k h => cases h with
    | loc _ _ _ => exact absurd rfl (k _)
    | _ => rfl
  | at_ e c => cases c <;> simp [isDict, isDictL, isDictD, e]
theorem OK.of {k : Rk} (h : Rp S X v d) (hk : k = .val) : OK k S S X v d := by subst hk; exact h
theorem og_idx {S X x y dx dy} (h1 : Rd' S X x dx) (h2 : Rd' S X y dy) : Does .val S X (oIdx x y S) (gIdx dx dy) := by
  intro d hd
  unfold gIdx at hd
  split at hd
  · split at hd
    · rw [h1.inv_str, h2.inv_int]
      rename_i q
      rw [Option.map_eq_some_iff] at hd
      obtain ⟨c, e, rfl⟩ := hd
      exact ⟨.str ⟨#[c]⟩, S, by simp only [oIdx]; rw [if_pos q, e], .refl _ _, .str _⟩
    · cases hd
  · obtain ⟨xs, rfl, r⟩ := h1.inv_tup
    obtain ⟨v, e, rv⟩ := atI_rp r hd
    rw [h2.inv_int]
    exact ⟨v, S, by simp only [oIdx, itemsOf, e], .refl _ _, rv⟩
  · obtain ⟨n, xs, rfl, en, r⟩ := h1.inv_lst
    obtain ⟨v, e, rv⟩ := atI_rp r hd
    rw [h2.inv_int]
    exact ⟨v, S, by simp only [oIdx, itemsOf, en, e], .refl _ _, rv⟩
  · cases hd
/-! ### dicts -/
def keyD : D → Option Key
  | .int i => some (.inl i)
  | .str s => some (.inr s)
  | _ => none
def keysLD : List D → Option (List Key)
  | [] => some []
  | x :: xs => match keyD x, keysLD xs with | some k, some ks => some (k :: ks) | _, _ => none
def keysD : D → Option (List Key)
  | .tup xs => keysLD xs
  | _ => none
def kD : Key → D
  | .inl i => .int i
  | .inr s => .str s
theorem keyP_rd (h : Rd' S X v d) : keyP v = keyD d := by
  cases h with
  | vl k h => cases h with
    | loc _ _ _ => exact absurd rfl (k _)
    | _ => rfl
  | at_ _ c => cases c <;> rfl
theorem keysL_rd : ∀ {vs : List PV} {ds : List D}, Rps S X vs ds → keysL vs = keysLD ds
  | _, _, .nil => rfl
  | _, _, .cons (d := d) (ds := ds) h t => by simp only [keysL, keysLD, keyP_rd h.rd, keysL_rd t] <;> cases keyD d <;> cases keysLD ds <;> rfl
theorem keysP_rd (h : Rd' S X v d) : keysP v = keysD d := by
  cases h with
  | vl k h => cases h with
    | loc _ _ _ => exact absurd rfl (k _)
    | tup h => exact keysL_rd h
    | _ => rfl
  | at_ _ c => cases c <;> rfl
theorem kP_rp (k : Key) : Rp S X (kP k) (kD k) := by cases k; exact .int _; exact .str _
section
variable {κ : Type} [DecidableEq κ]
def valG (kvs : List (κ × D)) (k : κ) : Option D := (kvs.find? fun kv => decide (kv.1 = k)).map (·.2)
def putG (kvs : List (κ × D)) (k : κ) (v : D) : List (κ × D) :=
  if (kvs.any fun kv => decide (kv.1 = k)) = true then kvs.map (fun kv => if kv.1 = k then (kv.1, v) else kv) else kvs ++ [(k, v)]
end
def KRp (S : Ms) (X : List Nat) {κ : Type} : List (κ × PV) → List (κ × D) → Prop := Paired fun p q => p.1 = q.1 ∧ Rp S X p.2 q.2
theorem kr_of_zip {κ : Type} : ∀ {ks : List κ} {vs : List PV} {ds : List D}, Rps S X vs ds → KRp S X (List.zip ks vs) (List.zip ks ds)
  | [], _, _, _ => by simp only [List.zip_nil_left]; exact .nil
  | k :: ks, _, _, .nil => by simp only [List.zip_nil_right]; exact .nil
  | k :: ks, _, _, .cons h t => .cons ⟨rfl, h⟩ (kr_of_zip t)
theorem zip_of_kr {κ : Type} : ∀ {xs : List (κ × PV)} {ys : List (κ × D)}, KRp S X xs ys → ∃ ks vs ds, xs = List.zip ks vs ∧ ys = List.zip ks ds ∧ Rps S X vs ds
  | _, _, .nil => ⟨[], [], [], rfl, rfl, .nil⟩
  | (k, v) :: xs, (k', d) :: ys, .cons h t => by
    obtain ⟨ks, vs, ds, rfl, rfl, r⟩ := zip_of_kr t
    obtain ⟨e, r'⟩ := h
    cases (show k = k' from e)
    exact ⟨k :: ks, v :: vs, d :: ds, rfl, rfl, .cons r' r⟩
theorem Cont.inv_dK {o : Ob} {kds : List (Key × D)} (h : Cont S X o (.dK kds)) : ∃ kvs, o = .dK kvs ∧ KRp S X kvs kds := by
  generalize e : D.dK kds = d at h
  cases h <;> cases e
  exact ⟨_, rfl, kr_of_zip (by assumption)⟩
theorem Cont.inv_lkK {o : Ob} {kds : List (Key × D)} (h : Cont S X o (.lkK kds)) : ∃ kvs, o = .lk (.dK kvs) ∧ KRp S X kvs kds := by
  generalize e : D.lkK kds = d at h
  cases h <;> cases e
  exact ⟨_, rfl, kr_of_zip (by assumption)⟩
theorem Cont.inv_dT {o : Ob} {kds : List (List Key × D)} (h : Cont S X o (.dT kds)) : ∃ kvs, o = .dT kvs ∧ KRp S X kvs kds := by
  generalize e : D.dT kds = d at h
  cases h <;> cases e
  exact ⟨_, rfl, kr_of_zip (by assumption)⟩
theorem Cont.inv_lst {o : Ob} (h : Cont S X o (.lst ds)) : ∃ vs, o = .lst vs ∧ Rps S X vs ds := by cases h; exact ⟨_, rfl, by assumption⟩
theorem Cont.mk_dK {kvs : List (Key × PV)} {kds : List (Key × D)} (h : KRp S X kvs kds) : Cont S X (.dK kvs) (.dK kds) := by
  obtain ⟨ks, vs, ds, rfl, rfl, r⟩ := zip_of_kr h; exact .dK r
theorem Cont.mk_lkK {kvs : List (Key × PV)} {kds : List (Key × D)} (h : KRp S X kvs kds) : Cont S X (.lk (.dK kvs)) (.lkK kds) := by
  obtain ⟨ks, vs, ds, rfl, rfl, r⟩ := zip_of_kr h; exact .lkK r
theorem Cont.mk_dT {kvs : List (List Key × PV)} {kds : List (List Key × D)} (h : KRp S X kvs kds) : Cont S X (.dT kvs) (.dT kds) := by
  obtain ⟨ks, vs, ds, rfl, rfl, r⟩ := zip_of_kr h; exact .dT r
theorem Rd'.inv_at {kds : D} (h : Rd' S X v d) (hd : (∃ k, d = .dK k) ∨ (∃ k, d = .dT k) ∨ (∃ k, d = .lst k) ∨ ∃ c k, d = .obj c k) : ∃ n o, v = .loc n ∧ S[n]? = some o ∧ Cont S X o d := by
  cases h with
  | at_ e c => exact ⟨_, _, rfl, e, c⟩
  | vl k h => cases h with
    | loc _ _ _ => exact absurd rfl (k _)
    | _ => rcases hd with ⟨_, h⟩ | ⟨_, h⟩ | ⟨_, h⟩ | ⟨_, _, h⟩ <;> cases h
theorem Rd'.inv_dK {kds : List (Key × D)} (h : Rd' S X v (.dK kds)) : ∃ n kvs, v = .loc n ∧ S[n]? = some (.dK kvs) ∧ KRp S X kvs kds := by
  obtain ⟨n, o, rfl, e, c⟩ := h.inv_at (kds := .non) (.inl ⟨_, rfl⟩)
  obtain ⟨kvs, rfl, r⟩ := c.inv_dK
  exact ⟨n, kvs, rfl, e, r⟩
theorem Rd'.inv_lkK {kds : List (Key × D)} (h : Rd' S X v (.lkK kds)) : ∃ n kvs, v = .loc n ∧ S[n]? = some (.lk (.dK kvs)) ∧ KRp S X kvs kds := by
  cases h with
  | at_ e c => obtain ⟨kvs, rfl, r⟩ := c.inv_lkK; exact ⟨_, kvs, rfl, e, r⟩
  | vl k h => cases h with
    | loc _ _ _ => exact absurd rfl (k _)
theorem Rd'.inv_dT {kds : List (List Key × D)} (h : Rd' S X v (.dT kds)) : ∃ n kvs, v = .loc n ∧ S[n]? = some (.dT kvs) ∧ KRp S X kvs kds := by
  obtain ⟨n, o, rfl, e, c⟩ := h.inv_at (kds := .non) (.inr (.inl ⟨_, rfl⟩))
  obtain ⟨kvs, rfl, r⟩ := c.inv_dT
  exact ⟨n, kvs, rfl, e, r⟩
section
variable {κ : Type} [DecidableEq κ]
theorem val_rp {k : κ} : ∀ {xs : List (κ × PV)} {ys : List (κ × D)}, KRp S X xs ys → (valP xs k = none ∧ valG ys k = none) ∨ ∃ v d, valP xs k = some v ∧ valG ys k = some d ∧ Rp S X v d
  | _, _, .nil => .inl ⟨rfl, rfl⟩
  | (a, v) :: xs, (b, d) :: ys, .cons h t => by
    obtain ⟨e, r⟩ := h
    cases (show a = b from e)
    by_cases z : a = k
    · exact .inr ⟨v, d, by simp [valP, z], by simp [valG, z], r⟩
    · rcases val_rp (k := k) t with ⟨h1, h2⟩ | ⟨v', d', h1, h2, h3⟩
      · exact .inl ⟨by simpa [valP, z] using h1, by simpa [valG, z] using h2⟩
      · exact .inr ⟨v', d', by simpa [valP, z] using h1, by simpa [valG, z] using h2, h3⟩
theorem any_rp {k : κ} : ∀ {xs : List (κ × PV)} {ys : List (κ × D)}, KRp S X xs ys → (xs.any fun kv => decide (kv.1 = k)) = (ys.any fun kv => decide (kv.1 = k))
  | _, _, .nil => rfl
  | (a, v) :: xs, (b, d) :: ys, .cons h t => by
    cases (show a = b from h.1)
    simp only [List.any_cons, any_rp (k := k) t]
theorem map_rp {k : κ} (r : Rp S X v d) : ∀ {xs : List (κ × PV)} {ys : List (κ × D)}, KRp S X xs ys → KRp S X (xs.map (fun kv => if kv.1 = k then (kv.1, v) else kv)) (ys.map (fun kv => if kv.1 = k then (kv.1, d) else kv))
  | _, _, .nil => .nil
  | (a, w) :: xs, (b, c) :: ys, .cons h t => by
    cases (show a = b from h.1)
    refine .cons ?_ (map_rp r t)
    by_cases z : a = k
    · simp only [z, if_true]; exact ⟨trivial, r⟩
    · simp only [z, if_false]; exact ⟨trivial, h.2⟩
theorem kr_snoc {k : κ} (r : Rp S X v d) : ∀ {xs : List (κ × PV)} {ys : List (κ × D)}, KRp S X xs ys → KRp S X (xs ++ [(k, v)]) (ys ++ [(k, d)])
  | _, _, .nil => .cons ⟨rfl, r⟩ .nil
  | _, _, .cons h t => .cons h (kr_snoc r t)
theorem put_rp {k : κ} (r : Rp S X v d) {xs : List (κ × PV)} {ys : List (κ × D)} (h : KRp S X xs ys) : KRp S X (putP xs k v) (putG ys k d) := by
  unfold putP putG
  rw [any_rp h]
  split
  · exact map_rp r h
  · exact kr_snoc r h
omit [DecidableEq κ] in
theorem kr_len : ∀ {xs : List (κ × PV)} {ys : List (κ × D)}, KRp S X xs ys → xs.length = ys.length
  | _, _, .nil => rfl
  | _, _, .cons _ t => by rw [List.length_cons, List.length_cons, kr_len t]
end
def getD2 : D → D → Option (Option D)
  | .dK kvs, k => (keyD k).map (valG kvs)
  | .dT kvs, k => (keysD k).map (valG kvs)
  | .lkK kvs, k => (keyD k).map (valG kvs)
  | _, _ => none
theorem dGet_rd {x k : PV} {dx dk : D} {r : Option D} (h1 : Rd' S X x dx) (h2 : Rd' S X k dk) (h : getD2 dx dk = some r) : (r = none ∧ dGet S x k = some none) ∨ ∃ v d, r = some d ∧ dGet S x k = some (some v) ∧ Rp S X v d := by
  unfold getD2 at h
  split at h
  · obtain ⟨n, kvs, rfl, e, c⟩ := h1.inv_dK
    rw [Option.map_eq_some_iff] at h
    obtain ⟨kk, e2, rfl⟩ := h
    rw [← keyP_rd h2] at e2
    rcases val_rp (k := kk) c with ⟨a, b⟩ | ⟨v, d, a, b, r⟩
    · exact .inl ⟨b, by simp only [dGet, e, e2, Option.map_some, a]⟩
    · exact .inr ⟨v, d, b, by simp only [dGet, e, e2, Option.map_some, a], r⟩
  · obtain ⟨n, kvs, rfl, e, c⟩ := h1.inv_dT
    rw [Option.map_eq_some_iff] at h
    obtain ⟨kk, e2, rfl⟩ := h
    rw [← keysP_rd h2] at e2
    rcases val_rp (k := kk) c with ⟨a, b⟩ | ⟨v, d, a, b, r⟩
    · exact .inl ⟨b, by simp only [dGet, e, e2, Option.map_some, a]⟩
    · exact .inr ⟨v, d, b, by simp only [dGet, e, e2, Option.map_some, a], r⟩
  · obtain ⟨n, kvs, rfl, e, c⟩ := h1.inv_lkK
    rw [Option.map_eq_some_iff] at h
    obtain ⟨kk, e2, rfl⟩ := h
    rw [← keyP_rd h2] at e2
    rcases val_rp (k := kk) c with ⟨a, b⟩ | ⟨v, d, a, b, r⟩
    · exact .inl ⟨b, by simp only [dGet, e, e2, Option.map_some, a]⟩
    · exact .inr ⟨v, d, b, by simp only [dGet, e, e2, Option.map_some, a], r⟩
  · cases h
/-- x[i], of a sequence or of a dict -/
def gSub1 (x i : D) : Option D := match x with
  | .dK kvs => (getD2 (.dK kvs) i).bind id
  | .dT kvs => (getD2 (.dT kvs) i).bind id
  | .lkK kvs => (getD2 (.lkK kvs) i).bind id
  | x => gIdx x i
theorem og_sub1 : O2R .val oSub1 gSub1 := by
  intro S X x y dx dy hX h1 h2
  have hd := isDict_seq h1
  have kd : ∀ f f' : PV → PV → Ms → Out PV, oSel (fun x _ S => isDict S x) f f' x y S = if isDictL dx = true then f x y S else f' x y S := fun f f' => by unfold oSel; rw [← hd]
  show Does .val S X (oSel (fun x _ S => isDict S x) oDGet oIdx x y S) _
  rw [kd]
  have dict : isDictL dx = true → gSub1 dx dy = (getD2 dx dy).bind id → Does .val S X (if isDictL dx = true then oDGet x y S else oIdx x y S) (gSub1 dx dy) := by
    intro hd e d hq
    rw [e] at hq
    cases eg : getD2 dx dy with
    | none => rw [eg] at hq; cases hq
    | some r =>
      rw [eg] at hq
      rcases dGet_rd h1 h2 eg with ⟨rfl, _⟩ | ⟨v, d', rfl, eq, rv⟩
      · cases hq
      · cases hq; exact ⟨v, S, by rw [if_pos hd]; simp only [oDGet, eq], .refl _ _, rv⟩
  cases dx with
  | dK kvs => exact dict rfl rfl
  | dT kvs => exact dict rfl rfl
  | lkK kvs => exact dict rfl rfl
  | _ => (rw [if_neg (show ¬ isDictL _ = true by simp [isDictL, isDictD])]; exact og_idx h1 h2)
/-! ### in -/
def flatD : D → Option V
  | .non => some .non
  | .bl b => some (.bl b)
  | .int i => some (.int i)
  | .str s => some (.str s)
  | _ => none
def flatDs : List D → Option (List V)
  | [] => some []
  | x :: xs => match flatD x, flatDs xs with | some v, some vs => some (v :: vs) | _, _ => none
theorem flatP_rd (h : Rd' S X v d) : flatP v = flatD d := by
  cases h with
  | vl k h => cases h with
    | loc _ _ _ => exact absurd rfl (k _)
    | _ => rfl
  | at_ _ c => cases c <;> rfl
theorem flatPs_rd : ∀ {vs : List PV} {ds : List D}, Rps S X vs ds → flatPs vs = flatDs ds
  | _, _, .nil => rfl
  | _, _, .cons (d := d) (ds := ds) h t => by simp only [flatPs, flatDs, flatP_rd h.rd, flatPs_rd t] <;> cases flatD d <;> cases flatDs ds <;> rfl
def gInS (x y : D) : Option Bool := match itemsD y with
  | some xs => (match flatD x, flatDs xs with
    | some v, some vs => some (inV v vs)
    | _, _ => (match y, toPy 12 x, toPys 11 xs with
      | .lst _, some d, some ds => if SeqAt.shaped d && SeqAt.shaped (.list ds) then some (ds.any fun z => PyData.eqv z d) else none
      | _, _, _ => none))
  | none => none
theorem inSeq_rd {x y : PV} {dx dy : D} {b : Bool} (h1 : Rd' S X x dx) (h2 : Rd' S X y dy) (h : gInS dx dy = some b) : inSeq S x y = some b := by
  unfold gInS at h
  cases ei : itemsD dy with
  | none => rw [ei] at h; cases h
  | some ds =>
    rw [ei] at h
    obtain ⟨xs, e, r⟩ := items_rd h2 ei
    unfold inSeq
    rw [e]
    dsimp only at h ⊢
    rw [flatP_rd h1, flatPs_rd r]
    cases e1 : flatD dx with
    | some v =>
      cases e2 : flatDs ds with
      | some vs => rw [e1, e2] at h; exact h
      | none =>
        rw [e1, e2] at h
        dsimp only at h ⊢
        split at h
        · rename_i p ps e3 e4
          obtain ⟨n, ys, rfl, en, rr⟩ := h2.inv_lst
          rw [toD_rd h1 e3, toDs_rp (fun r => toD_rd r) r e4]
          exact h
        · cases h
    | none =>
      rw [e1] at h
      dsimp only at h ⊢
      split at h
      · rename_i p ps e3 e4
        obtain ⟨n, ys, rfl, en, rr⟩ := h2.inv_lst
        rw [toD_rd h1 e3, toDs_rp (fun r => toD_rd r) r e4]
        exact h
      · cases h
def gInB (x y : D) : Option Bool := match y with
  | .dK kvs => (getD2 (.dK kvs) x).map Option.isSome
  | .dT kvs => (getD2 (.dT kvs) x).map Option.isSome
  | .lkK kvs => (getD2 (.lkK kvs) x).map Option.isSome
  | y => gInS x y
def gIn (x y : D) : Option D := (gInB x y).map D.bl
def gNotIn (x y : D) : Option D := (gInB x y).map fun b => D.bl (!b)
theorem in_dict {x y : PV} {dx dy : D} {b : Bool} (h1 : Rd' S X x dx) (h2 : Rd' S X y dy) (h : (getD2 dy dx).map Option.isSome = some b) : ∃ r, dGet S y x = some r ∧ r.isSome = b := by
  rw [Option.map_eq_some_iff] at h
  obtain ⟨r, e, rfl⟩ := h
  rcases dGet_rd h2 h1 e with ⟨rfl, q⟩ | ⟨v, d, rfl, q, _⟩
  · exact ⟨_, q, rfl⟩
  · exact ⟨_, q, rfl⟩
theorem in_all {x y : PV} {dx dy : D} {b : Bool} (h1 : Rd' S X x dx) (h2 : Rd' S X y dy) (h : gInB dx dy = some b) : oIn x y S = .ret (.bl b) S ∧ oNotIn x y S = .ret (.bl (!b)) S := by
  have hd := isDict_seq h2
  have kd : ∀ f f' : PV → PV → Ms → Out PV, oSel (fun _ y S => isDict S y) f f' x y S = if isDictL dy = true then f x y S else f' x y S := fun f f' => by unfold oSel; rw [← hd]
  show oSel _ _ _ _ _ _ = _ ∧ oSel _ _ _ _ _ _ = _
  rw [kd, kd]
  cases dy with
  | dK kvs => obtain ⟨r, e, rfl⟩ := in_dict h1 h2 h; simp only [isDictL, isDictD, if_true]; simp only [oDIn, oDNotIn, e]; exact ⟨trivial, trivial⟩
  | dT kvs => obtain ⟨r, e, rfl⟩ := in_dict h1 h2 h; simp only [isDictL, isDictD, if_true]; simp only [oDIn, oDNotIn, e]; exact ⟨trivial, trivial⟩
  | lkK kvs => obtain ⟨r, e, rfl⟩ := in_dict h1 h2 h; simp only [isDictL, isDictD, if_true]; simp only [oDIn, oDNotIn, e]; exact ⟨trivial, trivial⟩
  | _ => (have e := inSeq_rd h1 h2 h; rw [if_neg (show ¬ isDictL _ = true by simp [isDictL, isDictD]), if_neg (show ¬ isDictL _ = true by simp [isDictL, isDictD])]; simp only [oInS, oNotInS, e]; exact ⟨trivial, trivial⟩)
theorem og_in : O2R .new oIn gIn := by
  intro S X x y dx dy hX h1 h2 d hd
  unfold gIn at hd
  rw [Option.map_eq_some_iff] at hd
  obtain ⟨b, e, rfl⟩ := hd
  exact ⟨_, S, (in_all h1 h2 e).1, .refl _ _, .bl _⟩
theorem og_notin : O2R .new oNotIn gNotIn := by
  intro S X x y dx dy hX h1 h2 d hd
  unfold gNotIn at hd
  rw [Option.map_eq_some_iff] at hd
  obtain ⟨b, e, rfl⟩ := hd
  exact ⟨_, S, (in_all h1 h2 e).2, .refl _ _, .bl _⟩
end
end MP

set_option maxRecDepth 100000
namespace MP
open PySem PySem.Spec PyProof.Rows L2
section
variable {Y X : List Nat} {S S' : Ms} {v w : PV} {d d' : D} {vs : List PV} {ds : List D} {k : Rk}
theorem rds1 (h : Rds S X vs [d]) : ∃ v, vs = [v] ∧ Rd' S X v d := by cases h with | cons h t => cases t; exact ⟨_, rfl, h⟩
theorem rds2 {d2 : D} (h : Rds S X vs [d, d2]) : ∃ v w, vs = [v, w] ∧ Rd' S X v d ∧ Rd' S X w d2 := by cases h with | cons h t => obtain ⟨w, rfl, hw⟩ := rds1 t; exact ⟨_, _, rfl, h, hw⟩
theorem rds_nil (h : Rds S X vs []) : vs = [] := by cases h; rfl
/-! ### functions of the language -/
def gLen : List D → Option D
  | [.str s] => if s.length ≤ lim then some (.int s.length) else none
  | [.tup xs] => some (.int xs.length)
  | [.lst xs] => some (.int xs.length)
  | [.dK xs] => some (.int xs.length)
  | [.dT xs] => some (.int xs.length)
  | _ => none
theorem og_len : OLR .new oLen gLen := by
  intro S X xs ds hX h d hd
  unfold gLen at hd
  split at hd
  · obtain ⟨v, rfl, r⟩ := rds1 h
    split at hd
    · cases hd; rw [r.inv_str]; exact ⟨_, S, by simp only [oLen]; rw [if_pos (by assumption)], .refl _ _, .int _⟩
    · cases hd
  · obtain ⟨v, rfl, r⟩ := rds1 h
    cases hd; obtain ⟨ys, rfl, r3⟩ := r.inv_tup; exact ⟨.int ys.length, S, by simp only [oLen], .refl _ _, by rw [r3.length]; exact NewR.int _⟩
  · obtain ⟨v, rfl, r⟩ := rds1 h
    cases hd; obtain ⟨n, ys, rfl, e, r3⟩ := r.inv_lst; exact ⟨.int ys.length, S, by simp only [oLen, e], .refl _ _, by rw [r3.length]; exact NewR.int _⟩
  · obtain ⟨v, rfl, r⟩ := rds1 h
    cases hd; obtain ⟨n, ys, rfl, e, r3⟩ := r.inv_dK; exact ⟨.int ys.length, S, by simp only [oLen, e], .refl _ _, by rw [kr_len r3]; exact NewR.int _⟩
  · obtain ⟨v, rfl, r⟩ := rds1 h
    cases hd; obtain ⟨n, ys, rfl, e, r3⟩ := r.inv_dT; exact ⟨.int ys.length, S, by simp only [oLen, e], .refl _ _, by rw [kr_len r3]; exact NewR.int _⟩
  · cases hd
def intsD : List D → Option (List Int)
  | [] => some []
  | .int i :: xs => (intsD xs).map (i :: ·)
  | _ => none
def blsD : List D → Option (List Bool)
  | [] => some []
  | .bl i :: xs => (blsD xs).map (i :: ·)
  | _ => none
theorem ints_rp : ∀ {vs : List PV} {ds : List D} {ns : List Int}, Rps S X vs ds → intsD ds = some ns → intsP vs = some ns
  | _, _, _, .nil, h => h
  | _, _, _, .cons (d := d) r t, h => by
    cases d with
    | int i =>
      rw [r.rd.inv_int]
      simp only [intsD, Option.map_eq_some_iff] at h
      obtain ⟨ms, e, rfl⟩ := h
      simp only [intsP, ints_rp t e, Option.map_some]
    | _ => cases h
theorem bls_rp : ∀ {vs : List PV} {ds : List D} {ns : List Bool}, Rps S X vs ds → blsD ds = some ns → blsP vs = some ns
  | _, _, _, .nil, h => h
  | _, _, _, .cons (d := d) r t, h => by
    cases d with
    | bl i =>
      rw [r.rd.inv_bl]
      simp only [blsD, Option.map_eq_some_iff] at h
      obtain ⟨ms, e, rfl⟩ := h
      simp only [blsP, bls_rp t e, Option.map_some]
    | _ => cases h
def lstD : D → Option (List D)
  | .lst xs => some xs
  | _ => none
theorem lst_rd (r : Rd' S X v d) (h : lstD d = some ds) : ∃ xs, lstOf S v = some xs ∧ Rps S X xs ds := by
  cases d with
  | lst xs => cases h; obtain ⟨n, ys, rfl, e, r3⟩ := r.inv_lst; exact ⟨ys, by simp only [lstOf, e], r3⟩
  | _ => cases h
theorem lst_ints {ns : List Int} (r : Rd' S X v d) (h : (lstD d).bind intsD = some ns) : (lstOf S v).bind intsP = some ns := by
  cases e : lstD d with
  | none => rw [e] at h; cases h
  | some ds => rw [e] at h; obtain ⟨xs, e2, r2⟩ := lst_rd r e; rw [e2]; exact ints_rp r2 h
theorem lst_bls {ns : List Bool} (r : Rd' S X v d) (h : (lstD d).bind blsD = some ns) : (lstOf S v).bind blsP = some ns := by
  cases e : lstD d with
  | none => rw [e] at h; cases h
  | some ds => rw [e] at h; obtain ⟨xs, e2, r2⟩ := lst_rd r e; rw [e2]; exact bls_rp r2 h
def gMin : List D → Option D
  | [.int i, .int j] => some (.int (if j < i then j else i))
  | [.tup xs] => (match intsD xs with | some (x :: ns) => some (.int (minL x ns)) | _ => none)
  | [.lst xs] => (match intsD xs with | some (x :: ns) => some (.int (minL x ns)) | _ => none)
  | _ => none
theorem og_min : OLR .new oMin gMin := by
  intro S X xs ds hX h d hd
  unfold gMin at hd
  split at hd
  · obtain ⟨v, w, rfl, r, r2⟩ := rds2 h; cases hd; rw [r.inv_int, r2.inv_int]; exact ⟨_, S, rfl, .refl _ _, .int _⟩
  · obtain ⟨v, rfl, r⟩ := rds1 h
    split at hd
    · rename_i e; cases hd; obtain ⟨ys, rfl, r3⟩ := r.inv_tup; exact ⟨_, S, by simp only [oMin, ints_rp r3 e], .refl _ _, .int _⟩
    · cases hd
  · obtain ⟨v, rfl, r⟩ := rds1 h
    split at hd
    · rename_i e; cases hd
      have q := lst_ints r (show (lstD (.lst _)).bind intsD = _ from e)
      obtain ⟨n, ys, rfl, en, r3⟩ := r.inv_lst; exact ⟨_, S, by simp only [oMin, q], .refl _ _, .int _⟩
    · cases hd
  · cases hd
def gAll : List D → Option D
  | [.lst xs] => (blsD xs).map fun ns => .bl (ns.all id)
  | _ => none
theorem og_all : OLR .new oAll gAll := by
  intro S X xs ds hX h d hd
  unfold gAll at hd
  split at hd
  · obtain ⟨v, rfl, r⟩ := rds1 h
    rw [Option.map_eq_some_iff] at hd
    obtain ⟨ns, e, rfl⟩ := hd
    have q := lst_bls r (show (lstD (.lst _)).bind blsD = _ from e)
    exact ⟨_, S, by simp only [oAll, q], .refl _ _, .bl _⟩
  · cases hd
def gListOf : List D → Option D
  | [.tup xs] => some (.lst xs)
  | [.lst xs] => some (.lst xs)
  | [.dK xs] => some (.lst (xs.map fun kv => kD kv.1))
  | [.dT xs] => some (.lst (xs.map fun kv => .tup (kv.1.map kD)))
  | _ => none
theorem kr_keys {κ : Type} {f : κ → PV} {g : κ → D} (hf : ∀ a, Rp S X (f a) (g a)) : ∀ {xs : List (κ × PV)} {ys : List (κ × D)}, KRp S X xs ys → Rps S X (xs.map fun kv => f kv.1) (ys.map fun kv => g kv.1)
  | _, _, .nil => .nil
  | (a, _) :: _, (b, _) :: _, .cons h t => by cases (show a = b from h.1); exact .cons (hf a) (kr_keys hf t)
theorem og_listOf : OLR .new oListOf gListOf := by
  intro S X xs ds hX h d hd
  unfold gListOf at hd
  split at hd
  · obtain ⟨v, rfl, r⟩ := rds1 h; cases hd; obtain ⟨ys, rfl, r3⟩ := r.inv_tup; exact ⟨_, _, rfl, .app _ _ _, NewR.app (.lst r3) hX⟩
  · obtain ⟨v, rfl, r⟩ := rds1 h; cases hd; obtain ⟨n, ys, rfl, e, r3⟩ := r.inv_lst; exact ⟨_, _, by simp only [oListOf, e], .app _ _ _, NewR.app (.lst r3) hX⟩
  · obtain ⟨v, rfl, r⟩ := rds1 h; cases hd; obtain ⟨n, ys, rfl, e, r3⟩ := r.inv_dK; exact ⟨_, _, by simp only [oListOf, e], .app _ _ _, NewR.app (.lst (kr_keys kP_rp r3)) hX⟩
  · obtain ⟨v, rfl, r⟩ := rds1 h; cases hd; obtain ⟨n, ys, rfl, e, r3⟩ := r.inv_dT; exact ⟨_, _, by simp only [oListOf, e], .app _ _ _, NewR.app (.lst (kr_keys (f := fun k => .tup (k.map kP)) (fun a => .tup (.flat kP_rp a)) r3)) hX⟩
  · cases hd
def gTupOf : List D → Option D
  | [x] => (itemsD x).map D.tup
  | _ => none
theorem og_tupOf : OLR .new oTupOf gTupOf := by
  intro S X xs ds hX h d hd
  unfold gTupOf at hd
  split at hd
  · obtain ⟨v, rfl, r⟩ := rds1 h
    rw [Option.map_eq_some_iff] at hd
    obtain ⟨ns, e, rfl⟩ := hd
    obtain ⟨ys, e2, r2⟩ := items_rd r e
    exact ⟨_, S, by simp only [oTupOf, e2], .refl _ _, .tup r2⟩
  · cases hd
open Classical in
noncomputable def gListRg1 : D → Option D
  | .int nn => if RgOk 0 nn ∧ (rgP 0 nn).length ≤ lim then some (.lst ((List.range (nn - 0).toNat).map fun i => D.int (0 + (i : Nat)))) else none
  | _ => none
theorem og_listRg1 : O1R .new oListRg1 gListRg1 := by
  intro S X x dx hX h1 d hd
  unfold gListRg1 at hd
  split at hd
  · split at hd
    · cases hd; rw [h1.inv_int]; exact ⟨_, _, by simp only [oListRg1]; rw [if_pos (by assumption)]; rfl, .app _ _ _, NewR.app (.lst (.flat (fun i => .int _) _)) hX⟩
    · cases hd
  · cases hd
/-! ### slices -/
def partD : D → Option (Option Int)
  | .int i => some (some i)
  | .non => some none
  | _ => none
def cutD (xs : List D) (lo hi : Option Int) : List D := (xs.drop (HT.sIx xs.length 0 lo)).take (HT.sIx xs.length xs.length hi - HT.sIx xs.length 0 lo)
theorem cut_rp {lo hi : Option Int} (h : Rps S X vs ds) : Rps S X (cutP vs lo hi) (cutD ds lo hi) := by
  unfold cutP cutD; rw [h.length]; exact (h.drop _).take _
def gCut (x : D) (l u : Option Int) : Option D := match x with
  | .tup xs => some (.tup (cutD xs l u))
  | .lst xs => some (.lst (cutD xs l u))
  | _ => none
theorem og_cut {l u : Option Int} (hX : ∀ n ∈ X, n < S.length) (r : Rd' S X v d) : Does .new S X (oCut v l u S) (gCut d l u) := by
  intro d' hd
  unfold gCut at hd
  split at hd
  · cases hd; obtain ⟨ys, rfl, r3⟩ := r.inv_tup; exact ⟨_, S, rfl, .refl _ _, .tup (cut_rp r3)⟩
  · cases hd; obtain ⟨n, ys, rfl, e, r3⟩ := r.inv_lst; exact ⟨_, _, by simp only [oCut, e], .app _ _ _, NewR.app (.lst (cut_rp r3)) hX⟩
  · cases hd
/-! ### methods that only read -/
end
section
variable {Y X : List Nat} {sh : List Sh} {mu mu' mu2 : List Nat} {env : Env'} {S S' : Ms} {e : DE} {fps : List (List Nat)} {m n c : ME} {p q r : QE} {t u : MB} {b b' : QB} {ml : ML} {ql : QL}
def qOnly (a : QE) : QE := fun e => (a e).bind fun x e1 => match x with | .int i => .ret (.int i) e1 | _ => .fail
theorem onlyI_eq : onlyI m env S = (m env S).bind fun x S1 => match x with | .int i => .ret (.int i) S1 | _ => .fail := by
  unfold onlyI Out.bind
  cases m env S with
  | ret v _ => cases v <;> rfl
  | _ => rfl
theorem le_only {l : List Nat} (ha : LE sh mu (.rd l) m p) : LE sh mu .new (onlyI m) (qOnly p) := fun Y env S e fps E => by
  rw [onlyI_eq]
  refine LPost.nil' (LPost.seq (ha Y env S e fps E) VKhV fun v d S1 e1 st r => ?_)
  cases d with
  | int i => rw [r.rd.inv_int]; exact .now st.er (.int _)
  | _ => trivial
def qCut (a l u : QE) : QE := fun e => (a e).bind fun x e1 => (l e1).bind fun y e2 => match partD y with
  | some lo => (u e2).bind fun z e3 => (match partD z with | some hi => opt (gCut x lo hi) e3 | none => .fail)
  | none => .fail
theorem part_rd {S : Ms} {X : List Nat} {v : PV} {d : D} {r : Option Int} (h : Rd' S X v d) (e : partD d = some r) : partI v = some r := by
  cases d with
  | int i => rw [h.inv_int]; exact e
  | non => rw [h.inv_non]; exact e
  | _ => cases e
theorem le_cut {l : List Nat} (ha : LE sh mu (.rd l) m p) (hl : LE sh mu' .new n q) (hu : LE sh mu2 .new c r) (h1 : ∀ i ∈ l, i ∉ mu' := by decide) (h2 : ∀ i ∈ l, i ∉ mu2 := by decide) : LE sh (mu ++ (mu' ++ mu2)) .new (mCut m n c) (qCut p q r) := fun Y env S e fps E => by
  unfold mCut qCut
  refine LPost.seq (ha Y env S e fps E) VKhV fun v d S1 e1 st r1 => LPost.seq (hl.at_ st.er) VKhV fun w d2 S2 e2 st2 r2 => ?_
  have k1 := r1.keep st2.fr E.nd fl_in h1
  have hu' := (hu _ env S2 e2 fps st2.er).sub (X' := Y ++ fps.flatten) (fun n hn => in_more n (in_more n hn)) fun S' v d r => VK.weaken (k := .new) r fun n hn => in_more n (in_more n hn)
  have p2 : ∀ r, partD d2 = some r → partI w = some r := fun r hr => part_rd r2.1.rd hr
  cases e2q : partD d2 with
  | none => trivial
  | some lo =>
    rw [p2 lo e2q]
    refine LPost.nil' (LPost.seq hu' VKhV fun z d3 S3 e3 st3 r3 => ?_)
    cases e3q : partD d3 with
    | none => trivial
    | some hi =>
      rw [part_rd (VK.up r3 (.inl rfl)).rd e3q]
      exact Does.post st3.er (og_cut (fun n hn => st3.xlt n (in_more n (in_more n hn))) (k1.keep st3.fr E.nd fl_in h2).rd)
end
end MP

set_option maxRecDepth 100000
namespace MP
open PySem PySem.Spec PyProof.Rows L2
theorem getD_set_eq {α : Type} {l : List α} {i : Nat} {a z : α} (h : i < l.length) : (l.set i a).getD i z = a := by simp [List.getD_eq_getElem?_getD, h]
theorem getD_set_ne {α : Type} {l : List α} {i j : Nat} {a z : α} (h : i ≠ j) : (l.set i a).getD j z = l.getD j z := by simp [List.getD_eq_getElem?_getD, List.getElem?_set_ne h]
theorem getD_lt' {α : Type} {l : List α} {i : Nat} {z : α} (h : l.getD i z ≠ z) : i < l.length := by
  rw [List.getD_eq_getElem?_getD] at h
  cases e : l[i]? with
  | none => rw [e] at h; exact absurd rfl h
  | some x => exact (List.getElem?_eq_some_iff.mp e).1
/-! ### data without lists in it -/
mutual
def noLst : D → Bool
  | .tup xs => noLsts xs
  | .lst _ => false
  | .dK _ => false
  | .dT _ => false
  | .obj _ _ => false
  | .lkK _ => false
  | .ftp _ => false
  | _ => true
def noLsts : List D → Bool
  | [] => true
  | x :: xs => noLst x && noLsts xs
end
def nlc : D → Bool
  | .lst xs => noLsts xs
  | .dK kvs => noLsts (kvs.map (·.2))
  | .dT kvs => noLsts (kvs.map (·.2))
  | .obj _ fs => noLsts (fs.map (·.2))
  | .lkK kvs => noLsts (kvs.map (·.2))
  | .ftp _ => true
  | d => noLst d
mutual
theorem Rp.nl {S : Ms} {X X' : List Nat} : ∀ {v : PV} {d : D}, Rp S X v d → noLst d = true → Rp S X' v d
  | _, _, .non, _ => .non
  | _, _, .bl b, _ => .bl b
  | _, _, .int i, _ => .int i
  | _, _, .str s, _ => .str s
  | _, _, .tup h, e => .tup (Rps.nl h (by simpa [noLst] using e))
  | _, _, .loc hn en c, e => by cases c <;> simp [noLst] at e
theorem Rps.nl {S : Ms} {X X' : List Nat} : ∀ {v : List PV} {d : List D}, Rps S X v d → noLsts d = true → Rps S X' v d
  | _, _, .nil, _ => .nil
  | _, _, .cons h t, e => by simp only [noLsts, Bool.and_eq_true] at e; exact .cons (Rp.nl h e.1) (Rps.nl t e.2)
end
section
variable {Y X X' : List Nat} {sh : List Sh} {mu mu' mu2 : List Nat} {env env' : Env'} {S S' S1 S2 : Ms} {e e' e1 : DE} {fps fps' : List (List Nat)} {m n c : ME} {p q r : QE} {t u : MB} {b b' : QB} {ml mk : ML} {ql qk : QL} {v : PV} {d : D} {k : Kd}
theorem KRp.nl {κ : Type} : ∀ {xs : List (κ × PV)} {ys : List (κ × D)}, KRp S X xs ys → noLsts (ys.map (·.2)) = true → KRp S X' xs ys
  | _, _, .nil, _ => .nil
  | _, _, .cons h t, e => by simp only [List.map_cons, noLsts, Bool.and_eq_true] at e; exact .cons ⟨h.1, h.2.nl e.1⟩ (KRp.nl t e.2)
theorem Cont.inv_obj {o : Ob} {cc : Str} {kds : List (Str × D)} (h : Cont S X o (.obj cc kds)) : ∃ kvs, o = .ins cc kvs ∧ KRp S X kvs kds := by
  generalize e : D.obj cc kds = d at h
  cases h <;> cases e
  exact ⟨_, rfl, kr_of_zip (by assumption)⟩
theorem Cont.mk_obj {cc : Str} {kvs : List (Str × PV)} {kds : List (Str × D)} (h : KRp S X kvs kds) : Cont S X (.ins cc kvs) (.obj cc kds) := by
  obtain ⟨ks, vs, ds, rfl, rfl, r⟩ := zip_of_kr h; exact .obj r
theorem Cont.nl {o : Ob} (h : Cont S X o d) (e : nlc d = true) : Cont S X' o d := by
  cases d with
  | lst xs => obtain ⟨vs, rfl, r⟩ := h.inv_lst; exact .lst (r.nl e)
  | dK xs => obtain ⟨vs, rfl, r⟩ := h.inv_dK; exact .mk_dK (r.nl e)
  | dT xs => obtain ⟨vs, rfl, r⟩ := h.inv_dT; exact .mk_dT (r.nl e)
  | obj cc xs => obtain ⟨vs, rfl, r⟩ := h.inv_obj; exact .mk_obj (r.nl e)
  | lkK xs => obtain ⟨vs, rfl, r⟩ := h.inv_lkK; exact .mk_lkK (r.nl e)
  | ftp ns => cases h; exact .ftp
  | _ => cases h
/-! ### what a function promises -/
inductive FO where | ret (d b : D) | exc (x : QX) (b : D) | fail
def RF (fr : Bool) (S S' : Ms) (X : List Nat) (v : PV) (d : D) : Prop := Rp S' X v d ∧ (fr = true → ∀ n, v = .loc n → S.length ≤ n ∧ ∃ o, S'[n]? = some o ∧ Cont S' (n :: X) o d)
def FQ (np : Nat) (fr : Bool) (f : List PV → Ms → Out PV) (q : List D → FO) : Prop := ∀ S X args ds, args.length = np → (∀ n ∈ X, n < S.length) → Rps S X args ds → match q ds with
  | .ret d _ => ∃ v S', f args S = .ret v S' ∧ Fr [] S S' ∧ RF fr S S' X v d
  | .exc x _ => ∃ x' S', f args S = .exc x' S' ∧ Fr [] S S' ∧ XRp S' X x' x
  | .fail => True
def FL (np : Nat) (fr : Bool) (f : List PV → Ms → Out PV) (q : List D → FO) : Prop := ∀ S X n o d0 args ds, args.length + 1 = np → (∀ n ∈ X, n < S.length) → n ∈ X → S[n]? = some o → Cont S X o d0 → Rps S X args ds → match q (d0 :: ds) with
  | .ret d b => ∃ v S' o', f (.loc n :: args) S = .ret v S' ∧ Fr [n] S S' ∧ S'[n]? = some o' ∧ (∃ X0, Cont S' X0 o' b) ∧ nlc b = true ∧ RF fr S S' X v d
  | .exc x b => ∃ x' S' o', f (.loc n :: args) S = .exc x' S' ∧ Fr [n] S S' ∧ S'[n]? = some o' ∧ (∃ X0, Cont S' X0 o' b) ∧ nlc b = true ∧ XRp S' X x' x
  | .fail => True
def okD (chk fr : Bool) (d : D) : Bool := match chk with | false => true | true => (match fr with | true => nlc d | false => noLst d)
def okX (chk : Bool) (x : QX) : Bool := match chk with | false => true | true => noLsts (x.fs.map (·.2))
def frK : Bool → Kd | true => .new | false => .val
def qRes (chk fr : Bool) (o : FO) (g : D → DE) : LO D := match o with
  | .ret d b => if okD chk fr d = true then .ret d (g b) else .fail
  | .exc x b => if okX chk x = true then .exc x (g b) else .fail
  | .fail => .fail
def qCall (np : Nat) (chk fr : Bool) (l : QL) (G : List D → FO) : QE := fun e => (l e).bind fun ds e1 => if ds.length = np then qRes chk fr (G ds) (fun _ => e1) else .fail
/-- the places read are left out -/
def lessX (X : List Nat) (l : List Nat) : List Nat := X.filter fun n => decide (n ∉ l)
theorem mem_less {X l : List Nat} {n : Nat} : n ∈ lessX X l ↔ n ∈ X ∧ n ∉ l := by unfold lessX; rw [List.mem_filter]; simp
theorem rps_less {l : List Nat} : ∀ {vs : List PV} {ds : List D}, VKs (.rd l) S S1 X fps vs ds → Rps S1 (lessX X (sel l fps)) vs ds
  | _, _, .nil => .nil
  | _, _, .cons h t => .cons (h.elim (fun h => h.sub fun n hn => .inl (mem_less.mp hn).1) fun ⟨i, hi, n, o, e1, e2, e3, e4⟩ => e1 ▸ .loc (fun z => (mem_less.mp z).2 (mem_sel.mpr ⟨i, hi, by rw [e2]; simp⟩)) e3 (e4.sub fun n hn => .inl (mem_less.mp hn).1)) (rps_less t)
theorem RF.back {fr chk : Bool} {l : List Nat} (h : RF fr S1 S2 (lessX X (sel l fps)) v d) (hX : ∀ n ∈ X, n < S1.length) (hl : chk = true ∨ l = []) (ho : okD chk fr d = true) : VK (frK fr) S1 S2 X fps v d := by
  have base : l = [] → VK (frK fr) S1 S2 X fps v d := fun e => by
    subst e
    have hx : ∀ n ∈ X, n ∈ lessX X (sel [] fps) := fun n hn => mem_less.mpr ⟨hn, by simp [sel]⟩
    cases fr with
    | false => exact h.1.sub fun n hn => .inl (hx n hn)
    | true => exact VK.weaken (k := .new) ⟨h.1, h.2 rfl⟩ hx
  cases chk with
  | false => exact base (hl.resolve_left (by decide))
  | true =>
    cases fr with
    | false => exact h.1.nl ho
    | true =>
      have ho : nlc d = true := ho
      by_cases hv : ∃ n, v = .loc n
      · obtain ⟨n, rfl⟩ := hv
        obtain ⟨h1, o, h2, h3⟩ := h.2 rfl n rfl
        refine ⟨.loc (fun z => by have := hX n z; omega) h2 (h3.nl ho), fun k hk => ?_⟩
        cases hk
        exact ⟨h1, o, h2, h3.nl ho⟩
      · refine NewR.flat ?_ fun n e => hv ⟨n, e⟩
        have h1 := h.1
        cases h1 with
        | loc _ _ _ => exact absurd ⟨_, rfl⟩ hv
        | tup hh => exact Rp.nl (.tup hh) ho
        | non => exact .non
        | bl b => exact .bl b
        | int b => exact .int b
        | str b => exact .str b
theorem Rps.nlz {κ : Type} {X X' : List Nat} : ∀ {ks : List κ} {vs : List PV} {ds : List D}, Rps S X vs ds → noLsts ((List.zip ks ds).map (·.2)) = true → ∃ vs' ds', List.zip ks vs = List.zip ks vs' ∧ List.zip ks ds = List.zip ks ds' ∧ Rps S X' vs' ds'
  | [], vs, ds, _, _ => ⟨[], [], by simp, by simp, .nil⟩
  | k :: ks, _, _, .nil, _ => ⟨[], [], rfl, rfl, .nil⟩
  | k :: ks, _, _, .cons h t, e => by
    simp only [List.zip_cons_cons, List.map_cons, noLsts, Bool.and_eq_true] at e
    obtain ⟨vs', ds', e1, e2, r⟩ := Rps.nlz (ks := ks) t e.2
    exact ⟨_ :: vs', _ :: ds', by simp only [List.zip_cons_cons, e1], by simp only [List.zip_cons_cons, e2], .cons (h.nl e.1) r⟩
theorem XRp.back {chk : Bool} {l : List Nat} {x : Ex} {qx : QX} (h : XRp S2 (lessX X (sel l fps)) x qx) (hl : chk = true ∨ l = []) (ho : okX chk qx = true) : XRp S2 X x qx := by
  cases chk with
  | false =>
    have e := hl.resolve_left (by decide)
    subst e
    exact h.weaken fun n hn => mem_less.mpr ⟨hn, by simp [sel]⟩
  | true =>
    obtain ⟨a, ks, vs, ds, b, c, r⟩ := h
    have ho : noLsts (qx.fs.map (·.2)) = true := ho
    rw [c] at ho
    obtain ⟨vs', ds', e1, e2, r'⟩ := Rps.nlz (X' := X) r ho
    exact ⟨a, ks, vs', ds', b.trans e1, c.trans e2, r'⟩
theorem vks_len : ∀ {vs : List PV} {ds : List D}, VKs k S S' X fps vs ds → vs.length = ds.length
  | _, _, .nil => rfl
  | _, _, .cons _ t => by rw [List.length_cons, List.length_cons, vks_len t]
theorem le_call {np : Nat} {fr chk : Bool} {l : List Nat} {f : List PV → Ms → Out PV} {G : List D → FO} (hf : FQ np fr f G) (ha : LL sh mu (.rd l) ml ql) (hl : chk = true ∨ l = [] := by first | exact .inl rfl | exact .inr rfl) :
    LE sh mu (frK fr) (mL ml (cl np f)) (qCall np chk fr ql G) := fun Y env S e fps E =>
  LPost.nil' (LPost.seq (ha Y env S e fps E) VKhV fun vs ds S1 e1 st r => by
    by_cases hn : ds.length = np
    · rw [if_pos hn]
      have hn' : vs.length = np := by rw [vks_len r]; exact hn
      unfold cl
      rw [if_pos hn']
      have h := hf S1 (lessX (Y ++ fps.flatten) (sel l fps)) vs ds hn' (fun n hn => st.xlt n (mem_less.mp hn).1) (rps_less r)
      unfold qRes
      cases hg : G ds with
      | fail => trivial
      | ret d b =>
        rw [hg] at h
        obtain ⟨v, S2, h1, h2, h3⟩ := h
        by_cases ho : okD chk fr d = true
        · dsimp only; rw [if_pos ho]; exact ⟨v, S2, h1, .quiet st.er h2, h3.back st.xlt hl ho⟩
        · dsimp only; rw [if_neg ho]; trivial
      | exc x b =>
        rw [hg] at h
        obtain ⟨v, S2, h1, h2, h3⟩ := h
        by_cases ho : okX chk x = true
        · dsimp only; rw [if_pos ho]; exact ⟨v, S2, h1, .quiet st.er h2, h3.back hl ho⟩
        · dsimp only; rw [if_neg ho]; trivial
    · rw [if_neg hn]; trivial)
/-- an owned object gets new contents -/
theorem EnvR.write {i n0 : Nat} {o' : Ob} {d' : D} (E : EnvR Y sh env S e fps) (hi : sh.getD i .val ≠ .val) (hv : env.getD i none = some (.loc n0)) (hf : fps.getD i [] = [n0]) (f : Fr [n0] S S') (hs : S'[n0]? = some o') (cc : Cont S' ((Y ++ newL S S') ++ fps.flatten) o' d') :
    EnvR (Y ++ newL S S') sh env S' (e.set i (some d')) fps := by
  have hlt : i < e.length := by rw [← E.l2]; exact getD_lt' (z := []) (by rw [hf]; simp)
  have hin : n0 ∈ fps.flatten := fp_in (i := i) (by rw [hf]; simp)
  refine ⟨by rw [List.length_set]; exact E.l1, by rw [List.length_set]; exact E.l2, fun j => ?_, E.nd, fun y hy => ?_, fun j hj x hx z => ?_⟩
  · by_cases hij : i = j
    · subst hij
      rw [getD_set_eq hlt, hv, hf]
      exact .root hi hs cc
    · rw [getD_set_ne hij]
      refine (E.slot j).mono (fun m hm hl => ⟨fun z => ?_, f.2 m hl fun z => ?_⟩) fun m hm => f.2 m ((E.slot j).lt m hm) fun z => ?_
      · rcases List.mem_append.mp z with z | z
        · rcases List.mem_append.mp z with z | z
          · exact hm (List.mem_append_left _ z)
          · have := (mem_newL.mp z).1; omega
        · exact hm (List.mem_append_right _ z)
      · rw [List.mem_singleton] at z; subst z; exact hm (List.mem_append_right _ hin)
      · rw [List.mem_singleton] at z; subst z
        exact hij (fp_disj E.nd (by rw [hf]; simp) hm)
  · rcases List.mem_append.mp hy with z | z
    · exact Nat.lt_of_lt_of_le (E.bd y z) f.1
    · exact (mem_newL.mp z).2
  · rcases List.mem_append.mp z with z | z
    · exact E.dj j hj x hx z
    · have := (E.slot j).lt x hx; have := (mem_newL.mp z).1; omega
/-- what an owned slot holds -/
def objD : D → Bool
  | .lst _ => true
  | .dK _ => true
  | .dT _ => true
  | .obj _ _ => true
  | _ => false
theorem EnvR.own {i : Nat} (E : EnvR Y sh env S e fps) (hi : sh.getD i .val ≠ .val) (he : e.getD i none = some d) (ho : objD d = true) : ∃ n o, env.getD i none = some (.loc n) ∧ fps.getD i [] = [n] ∧ S[n]? = some o ∧ Cont S (Y ++ fps.flatten) o d := by
  have h := E.slot i
  rw [he] at h
  generalize env.getD i none = v at *
  generalize fps.getD i [] = f at *
  generalize hs : sh.getD i .val = s at h hi
  cases h with
  | val _ => exact absurd rfl hi
  | flat k r => cases r with
    | loc _ _ _ => exact absurd rfl (k _)
    | _ => cases ho
  | root _ a c => exact ⟨_, _, rfl, rfl, a, c⟩
theorem EnvR.has {i : Nat} (E : EnvR Y sh env S e fps) (he : e.getD i none = some d) : ∃ v, env.getD i none = some v := by
  have h := E.slot i
  rw [he] at h
  generalize env.getD i none = v at *
  generalize sh.getD i .val = s at h
  generalize fps.getD i [] = f at h
  cases h <;> exact ⟨_, rfl⟩
def qCallB (np : Nat) (chk fr : Bool) (i : Nat) (l : QL) (G : List D → FO) : QE := fun e => match e.getD i none with
  | none => .fail
  | some _ => (l e).bind fun ds e1 => match e1.getD i none with
    | none => .fail
    | some b => if objD b = true ∧ ds.length + 1 = np then qRes chk fr (G (b :: ds)) (fun b' => e1.set i (some b')) else .fail
theorem le_callB {np : Nat} {fr chk : Bool} {l : List Nat} {i : Nat} {f : List PV → Ms → Out PV} {G : List D → FO} (hf : FL np fr f G) (ha : LL sh mu (.rd l) ml ql) (hi : sh.getD i .val ≠ .val := by decide) (hil : i ∉ l := by decide) (hl : chk = true ∨ l = [] := by first | exact .inl rfl | exact .inr rfl) :
    LE sh (mu ++ [i]) (frK fr) (mL (mCons (mVar i) ml) (cl np f)) (qCallB np chk fr i ql G) := fun Y env S e fps E => by
  unfold qCallB
  cases he : e.getD i none with
  | none => trivial
  | some d0 =>
    obtain ⟨v0, hv0⟩ := E.has he
    have e0 : mL (mCons (mVar i) ml) (cl np f) env S = (ml env S).bind fun vs S1 => cl np f (v0 :: vs) S1 := by
      unfold mL; rw [mCons_eq, mVar_get hv0]; show ((ml env S).bind _).bind _ = _
      unfold Out.bind; cases ml env S <;> rfl
    rw [e0]
    refine LPost.seq (ha Y env S e fps E) VKhV fun vs ds S1 e1 st r => ?_
    cases he1 : e1.getD i none with
    | none => trivial
    | some b =>
      dsimp only
      by_cases hq : objD b = true ∧ ds.length + 1 = np
      · rw [if_pos hq]
        obtain ⟨n0, o, hv, hfp, hs, hc⟩ := st.er.own hi he1 hq.1
        rw [hv0] at hv; cases hv
        have hn' : (PV.loc n0 :: vs).length = np := by rw [List.length_cons, vks_len r]; exact hq.2
        unfold cl
        rw [if_pos hn']
        have hin : n0 ∈ fps.flatten := fp_in (i := i) (by rw [hfp]; simp)
        have hnl : n0 ∉ sel l fps := fun z => by
          obtain ⟨j, hj, hx⟩ := mem_sel.mp z
          have := fp_disj E.nd (i := i) (j := j) (by rw [hfp]; simp) hx
          subst this; exact hil hj
        have h := hf S1 (lessX (Y ++ fps.flatten) (sel l fps)) n0 o b vs ds (by simpa using hn') (fun n hn => st.xlt n (mem_less.mp hn).1) (mem_less.mpr ⟨List.mem_append_right _ hin, hnl⟩) hs (hc.sub fun n hn => .inl (in_more n (mem_less.mp hn).1)) (rps_less r)
        have wr : ∀ {S2 : Ms} {o' : Ob} {b' : D} {X0 : List Nat}, Fr [n0] S1 S2 → S2[n0]? = some o' → Cont S2 X0 o' b' → nlc b' = true → Stp (Y ++ newL S S1) sh [i] env S1 (e1.set i (some b')) fps S2 := fun f1 h1 h2 h3 =>
          ⟨f1.mono fun n hn => by rw [List.mem_singleton] at hn; subst hn; exact mem_sel.mpr ⟨i, by simp, by rw [hfp]; simp⟩, st.er.write hi hv0 hfp f1 h1 (h2.nl h3)⟩
        unfold qRes
        cases hg : G (b :: ds) with
        | fail => trivial
        | ret d b' =>
          rw [hg] at h
          obtain ⟨v, S2, o', h1, h2, h3, ⟨X0, h4⟩, h5, h6⟩ := h
          by_cases ho : okD chk fr d = true
          · dsimp only; rw [if_pos ho]; exact ⟨v, S2, h1, wr h2 h3 h4 h5, h6.back st.xlt hl ho⟩
          · dsimp only; rw [if_neg ho]; trivial
        | exc x b' =>
          rw [hg] at h
          obtain ⟨v, S2, o', h1, h2, h3, ⟨X0, h4⟩, h5, h6⟩ := h
          by_cases ho : okX chk x = true
          · dsimp only; rw [if_pos ho]; exact ⟨v, S2, h1, wr h2 h3 h4 h5, h6.back hl ho⟩
          · dsimp only; rw [if_neg ho]; trivial
      · rw [if_neg hq]; trivial
end
end MP

set_option maxRecDepth 100000
namespace MP
open PySem PySem.Spec PyProof.Rows L2
section
variable {Y X X' : List Nat} {sh : List Sh} {mu mu' mu2 : List Nat} {env env' : Env'} {S S' S1 S2 : Ms} {e e' e1 : DE} {fps fps' : List (List Nat)} {m n c : ME} {p q r : QE} {t u : MB} {b b' : QB} {ml mk : ML} {ql qk : QL} {v : PV} {d : D} {k : Kd}
/-! ### calls by keywords -/
def qCallK (nn kk : Nat) (is : List Nat) (chk fr : Bool) (l lk : QL) (G : List D → FO) : QE := fun e => (l e).bind fun ds e1 => (lk e1).bind fun zs e2 => if ds.length = nn ∧ zs.length = kk then qRes chk fr (G (gOf .non is ds zs)) (fun _ => e2) else .fail
/-! ### methods that read; get -/
def qMeth (a : QE) (l : QL) (g : D → List D → Option D) : QE := fun e => (a e).bind fun x e1 => if (lstD x).isSome = true then (l e1).bind fun xs e2 => opt (g x xs) e2 else .fail
def qNewK : QE := fun e => .ret (.dK []) e
def qNewT : QE := fun e => .ret (.dT []) e
theorem le_newK : LE sh [] .new mNewK qNewK := fun Y env S e fps E => ⟨_, _, rfl, .quiet E (.app _ _ _), NewR.app (.mk_dK .nil) E.xlt⟩
/-! ### x.pop(..): what it takes from an owned list -/
def gPop : D → List D → Option (D × D)
  | .lst xs, [] => (match xs[xs.length - 1]? with | some y => some (y, .lst xs.dropLast) | none => none)
  | .lst xs, [.int i] => if -(2 ^ 63) ≤ i ∧ i < 2 ^ 63 then (match seqIndex? i xs.length with
      | some k => (match xs[k]? with | some y => some (y, .lst (xs.eraseIdx k)) | none => none)
      | none => none) else none
  | _, _ => none
theorem Rps.dropLast (h : Rps S X vs ds) : Rps S X vs.dropLast ds.dropLast := by
  rw [List.dropLast_eq_take, List.dropLast_eq_take, h.length]; exact h.take _
theorem pop_rp {n0 : Nat} {o : Ob} {xs : List PV} {d d1 d2 : D} (hs : S[n0]? = some o) (hc : Cont S X o d) (hx : Rds S X xs ds) (h : gPop d ds = some (d1, d2)) : ∃ v o', oPop (.loc n0) xs S = .ret v (S.set n0 o') ∧ Rp S X v d1 ∧ Cont S X o' d2 := by
  unfold gPop at h
  split at h
  · split at h
    · rename_i y e; cases h
      obtain ⟨vs, rfl, r⟩ := hc.inv_lst
      obtain ⟨v, e2, rv⟩ := r.get e
      rw [rds_nil hx]
      exact ⟨v, _, by simp only [oPop, hs, r.length, e2], rv, .lst r.dropLast⟩
    · cases h
  · split at h
    · rename_i q
      split at h
      · rename_i kk ek
        split at h
        · rename_i y e; cases h
          obtain ⟨vs, rfl, r⟩ := hc.inv_lst
          obtain ⟨v, e2, rv⟩ := r.get e
          obtain ⟨w, rfl, rw'⟩ := rds1 hx
          rw [rw'.inv_int]
          exact ⟨v, _, by simp only [oPop, hs, r.length, ek, e2]; rw [if_pos q], rv, .lst (r.eraseIdx _)⟩
        · cases h
      · cases h
    · cases h
  · cases h
/-- a method of an owned list that writes it: what comes, and what is left -/
def WR (f : PV → List PV → Ms → Out PV) (g : D → List D → Option (D × D)) : Prop := ∀ (S : Ms) (X : List Nat) (n0 : Nat) (o : Ob) (xs : List PV) (ds : List D) (d d1 d2 : D), S[n0]? = some o → Cont S X o d → Rps S X xs ds → g d ds = some (d1, d2) → (∃ vs, o = .lst vs) ∧ ∃ v o', f (.loc n0) xs S = .ret v (S.set n0 o') ∧ Rp S X v d1 ∧ Cont S X o' d2
theorem Rps.rds' : ∀ {vs : List PV} {ds : List D}, Rps S X vs ds → Rds S X vs ds
  | _, _, .nil => .nil
  | _, _, .cons h t => .cons h.rd (Rps.rds' t)
theorem wr_pop : WR oPop gPop := fun S X n0 o xs ds d d1 d2 hs hc hx h => by
  refine ⟨?_, pop_rp hs hc hx.rds' h⟩
  cases d with
  | lst ys => obtain ⟨vs, rfl, _⟩ := hc.inv_lst; exact ⟨_, rfl⟩
  | _ => simp [gPop] at h
def gAppend : D → List D → Option (D × D)
  | .lst xs, [y] => if xs.length < lim then some (.non, .lst (xs ++ [y])) else none
  | _, _ => none
theorem wr_append : WR oAppend gAppend := fun S X n0 o xs ds d d1 d2 hs hc hx h => by
  unfold gAppend at h
  split at h
  · split at h
    · cases h
      obtain ⟨vs, rfl, r⟩ := hc.inv_lst
      cases hx with
      | cons hy t =>
        cases t
        exact ⟨⟨_, rfl⟩, _, _, by simp only [oAppend, hs]; rw [if_pos (by rw [r.length]; assumption)], .non, .lst (r.snoc hy)⟩
    · cases h
  · cases h
def qW (i : Nat) (l : QL) (g : D → List D → Option (D × D)) : QE := fun e => match e.getD i none with
  | none => .fail
  | some (.lst _) => (l e).bind fun ds e1 => match e1.getD i none with
    | none => .fail
    | some d => (match g d ds with
      | some (y, d') => if noLsts ds = true then .ret y (e1.set i (some d')) else .fail
      | none => .fail)
  | some _ => .fail
theorem fr_set {S : Ms} {n : Nat} {o : Ob} : Fr [n] S (S.set n o) := Fr.set _ _ (.inl (by simp))
theorem newL_set {S : Ms} {n : Nat} {o : Ob} : newL S (S.set n o) = [] := by unfold newL; rw [List.length_set, Nat.sub_self]; rfl
theorem mono_set {S : Ms} {n : Nat} {o : Ob} {X : List Nat} (h : n ∈ X) : ∀ m, m ∉ X → m < S.length → m ∉ X ∧ (S.set n o)[m]? = S[m]? := fun m hm hl => ⟨hm, fr_set.2 m hl (by rw [List.mem_singleton]; rintro rfl; exact hm h)⟩
theorem le_w {i : Nat} {f : PV → List PV → Ms → Out PV} {g : D → List D → Option (D × D)} (hf : WR f g) (ha : LL sh mu .val ml ql) (hi : sh.getD i .val ≠ .val := by decide) : LE sh (mu ++ [i]) .val (mMeth (mVar i) ml f) (qW i ql g) := fun Y env S e fps E => by
  unfold qW
  cases he : e.getD i none with
  | none => trivial
  | some d0 =>
    cases d0 with
    | lst ys0 =>
      obtain ⟨n0, o0, hv0, hf0, hs0, hc0⟩ := E.own hi he rfl
      obtain ⟨vs0, rfl, _⟩ := hc0.inv_lst
      have e0 : mMeth (mVar i) ml f env S = (ml env S).bind fun xs S2 => f (.loc n0) xs S2 := by
        unfold mMeth; rw [mVar_get hv0]; show (if _ then _ else _) = _
        rw [if_pos (by simp [lstOf, hs0])]
      rw [e0]
      refine LPost.seq (ha Y env S e fps E) VKhV fun vs ds S1 e1 st r => ?_
      cases he1 : e1.getD i none with
      | none => trivial
      | some d =>
        dsimp only
        cases hg : g d ds with
        | none => trivial
        | some pr =>
          obtain ⟨y, d'⟩ := pr
          dsimp only
          by_cases hnl : noLsts ds = true
          · rw [if_pos hnl]
            have hin : n0 ∈ fps.flatten := fp_in (i := i) (by rw [hf0]; simp)
            have h := st.er.slot i
            rw [he1, hv0, hf0] at h
            have hR : ∃ o, S1[n0]? = some o ∧ Cont S1 ((Y ++ newL S S1) ++ fps.flatten) o d := by
              generalize sh.getD i .val = s at h
              cases h with
              | root _ a c => exact ⟨_, a, c⟩
            obtain ⟨o, hs, hc⟩ := hR
            obtain ⟨_, v, o', h1, h2, h3⟩ := hf S1 ((Y ++ newL S S1) ++ fps.flatten) n0 o vs ds d y d' hs hc (r.rps.nl hnl) hg
            have hX : n0 ∈ (Y ++ newL S S1) ++ fps.flatten := List.mem_append_right _ hin
            refine ⟨v, _, h1, ⟨fr_set.mono fun n hn => by rw [List.mem_singleton] at hn; subst hn; exact mem_sel.mpr ⟨i, by simp, by rw [hf0]; simp⟩, ?_⟩, (h2.mono (mono_set hX)).sub fun n hn => .inl (in_more n hn)⟩
            refine st.er.write hi hv0 hf0 fr_set (List.getElem?_set_self (lt_of_get hs)) ?_
            rw [newL_set, List.append_nil]
            exact h3.mono (mono_set hX)
          · rw [if_neg hnl]; trivial
    | _ => trivial
end
end MP

set_option maxRecDepth 100000
namespace MP
open PySem PySem.Spec PyProof.Rows L2
/-! ### how a statement ends -/
inductive QS where | nx (e : DE) | rt (d : D) (e : DE) | bk (e : DE) | ct (e : DE) | exc (x : QX) (e : DE) | fail
abbrev QT := DE → QS
structure StpS (Y : List Nat) (sh : List Sh) (mu : List Nat) (env : Env') (S : Ms) (fps : List (List Nat)) (env' : Env') (S' : Ms) (e' : DE) (fps' : List (List Nat)) : Prop where
  fr : Fr (sel mu fps) S S'
  er : EnvR Y sh env' S' e' fps'
  pv : ∀ i x, x ∈ fps'.getD i [] → x ∈ fps.getD i [] ∨ S.length ≤ x
  io : ∀ i, sh.getD i .val = .io → env'.getD i none = env.getD i none
def RtR (fr : Bool) (sh : List Sh) (S S' : Ms) (Y : List Nat) (fps' : List (List Nat)) (v : PV) (d : D) : Prop := Rp S' Y v d ∧ (fr = true → ∀ n, v = .loc n → (S.length ≤ n ∨ ∃ i, sh.getD i .val ≠ .io ∧ n ∈ fps'.getD i []) ∧ ∃ o, S'[n]? = some o ∧ Cont S' (n :: Y) o d)
def SPost (fr : Bool) (Y : List Nat) (sh : List Sh) (mu : List Nat) (env : Env') (S : Ms) (fps : List (List Nat)) (o : SO) : QS → Prop
  | .nx e' => ∃ env' S' fps', o = .nx env' S' ∧ StpS Y sh mu env S fps env' S' e' fps'
  | .rt d e' => ∃ v env' S' fps', o = .rt v S' ∧ StpS Y sh mu env S fps env' S' e' fps' ∧ RtR fr sh S S' Y fps' v d
  | .bk e' => ∃ env' S' fps', o = .bk env' S' ∧ StpS Y sh mu env S fps env' S' e' fps'
  | .ct e' => ∃ env' S' fps', o = .ct env' S' ∧ StpS Y sh mu env S fps env' S' e' fps'
  | .exc x e' => ∃ x' env' S' fps', o = .exc env' x' S' ∧ StpS Y sh mu env S fps env' S' e' fps' ∧ XRp S' Y x' x
  | .fail => True
def LS (sh : List Sh) (mu : List Nat) (fr : Bool) (m : MS) (q : QT) : Prop := ∀ Y env S e fps, EnvR Y sh env S e fps → SPost fr Y sh mu env S fps (m env S) (q e)
section
variable {Y X X' : List Nat} {sh : List Sh} {mu mu' mu2 : List Nat} {env env' env1 env2 : Env'} {S S' S1 S2 : Ms} {e e' e1 e2 : DE} {fps fps' fps1 fps2 : List (List Nat)} {m n c : ME} {p q r : QE} {t u : MB} {b b' : QB} {ml mk : ML} {ql qk : QL} {v : PV} {d : D} {k : Kd} {fr : Bool} {sm sn : MS} {sp sq : QT}
theorem StpS.refl (E : EnvR Y sh env S e fps) : StpS Y sh mu env S fps env S e fps := ⟨.refl _ _, E, fun _ _ h => .inl h, fun _ _ => rfl⟩
theorem StpS.trans (a : StpS Y sh mu env S fps env1 S1 e1 fps1) (b : StpS Y sh mu' env1 S1 fps1 env2 S2 e2 fps2) : StpS Y sh (mu ++ mu') env S fps env2 S2 e2 fps2 := by
  refine ⟨⟨Nat.le_trans a.fr.1 b.fr.1, fun n hn hs => ?_⟩, b.er, fun i x hx => ?_, fun i hi => (b.io i hi).trans (a.io i hi)⟩
  · rw [b.fr.2 n (Nat.lt_of_lt_of_le hn a.fr.1) fun z => ?_, a.fr.2 n hn fun z => hs (sel_app.mpr (.inl z))]
    obtain ⟨i, hi, hx⟩ := mem_sel.mp z
    rcases a.pv i n hx with h | h
    · exact hs (sel_app.mpr (.inr (mem_sel.mpr ⟨i, hi, h⟩)))
    · omega
  · rcases b.pv i x hx with h | h
    · exact a.pv i x h
    · exact .inr (Nat.le_trans a.fr.1 h)
theorem StpS.muUp (a : StpS Y sh mu env S fps env1 S1 e1 fps1) (h : ∀ i ∈ mu, i ∈ mu') : StpS Y sh mu' env S fps env1 S1 e1 fps1 :=
  ⟨a.fr.mono fun n hn => let ⟨i, hi, hx⟩ := mem_sel.mp hn; mem_sel.mpr ⟨i, h i hi, hx⟩, a.er, a.pv, a.io⟩
theorem Stp.toS (a : Stp Y sh mu env S e1 fps S1) : StpS Y sh mu env S fps env S1 e1 fps := ⟨a.fr, a.er.back, fun _ _ h => .inl h, fun _ _ => rfl⟩
theorem RtR.from (h : RtR fr sh S1 S' Y fps' v d) (hl : S.length ≤ S1.length) : RtR fr sh S S' Y fps' v d := ⟨h.1, fun hf n e => let ⟨a, o⟩ := h.2 hf n e; ⟨a.imp (fun a => Nat.le_trans hl a) id, o⟩⟩
theorem SPost.muUp {o : SO} {w : QS} (h : SPost fr Y sh mu env S fps o w) (hm : ∀ i ∈ mu, i ∈ mu') : SPost fr Y sh mu' env S fps o w := by
  cases w with
  | nx e => obtain ⟨a, b, c, d, f⟩ := h; exact ⟨a, b, c, d, f.muUp hm⟩
  | rt d e => obtain ⟨a, b, c, d, f, g, i⟩ := h; exact ⟨a, b, c, d, f, g.muUp hm, i⟩
  | bk e => obtain ⟨a, b, c, d, f⟩ := h; exact ⟨a, b, c, d, f.muUp hm⟩
  | ct e => obtain ⟨a, b, c, d, f⟩ := h; exact ⟨a, b, c, d, f.muUp hm⟩
  | exc x e => obtain ⟨a, b, c, d, f, g, i⟩ := h; exact ⟨a, b, c, d, f, g.muUp hm, i⟩
  | fail => trivial
/-- a part that comes behind a step -/
theorem SPost.behind {o : SO} {w : QS} (st : StpS Y sh mu env S fps env1 S1 e1 fps1) (h : SPost fr Y sh mu' env1 S1 fps1 o w) : SPost fr Y sh (mu ++ mu') env S fps o w := by
  cases w with
  | nx e => obtain ⟨a, b, c, d, f⟩ := h; exact ⟨a, b, c, d, st.trans f⟩
  | rt d e => obtain ⟨a, b, c, d, f, g, i⟩ := h; exact ⟨a, b, c, d, f, st.trans g, i.from st.fr.1⟩
  | bk e => obtain ⟨a, b, c, d, f⟩ := h; exact ⟨a, b, c, d, st.trans f⟩
  | ct e => obtain ⟨a, b, c, d, f⟩ := h; exact ⟨a, b, c, d, st.trans f⟩
  | exc x e => obtain ⟨a, b, c, d, f, g, i⟩ := h; exact ⟨a, b, c, d, f, st.trans g, i⟩
  | fail => trivial
def qNext : QT := fun e => .nx e
def qBreak : QT := fun e => .bk e
def qCont : QT := fun e => .ct e
theorem ls_next : LS sh [] fr sNext qNext := fun Y env S e fps E => ⟨_, _, _, rfl, .refl E⟩
def qSeq (p q : QT) : QT := fun e => match p e with | .nx e1 => q e1 | w => w
theorem ls_seq (ha : LS sh mu fr sm sp) (hb : LS sh mu' fr sn sq) : LS sh (mu ++ mu') fr (sSeq sm sn) (qSeq sp sq) := fun Y env S e fps E => by
  have h := ha Y env S e fps E
  unfold sSeq qSeq
  have up : ∀ {o : SO} {w : QS}, SPost fr Y sh mu env S fps o w → SPost fr Y sh (mu ++ mu') env S fps o w := fun h => h.muUp fun i hi => List.mem_append_left _ hi
  cases hp : sp e with
  | nx e1 =>
    rw [hp] at h
    obtain ⟨env1, S1, fps1, h1, st⟩ := h
    rw [h1]
    exact (hb Y env1 S1 e1 fps1 st.er).behind st
  | rt d e1 => rw [hp] at h; have h := up h; obtain ⟨a, b, c, d, f, g⟩ := h; rw [f]; exact ⟨a, b, c, d, rfl, g⟩
  | bk e1 => rw [hp] at h; have h := up h; obtain ⟨a, b, c, f, g⟩ := h; rw [f]; exact ⟨a, b, c, rfl, g⟩
  | ct e1 => rw [hp] at h; have h := up h; obtain ⟨a, b, c, f, g⟩ := h; rw [f]; exact ⟨a, b, c, rfl, g⟩
  | exc x e1 => rw [hp] at h; have h := up h; obtain ⟨a, b, c, d, f, g⟩ := h; rw [f]; exact ⟨a, b, c, d, rfl, g⟩
  | fail => trivial
/-- an expression, and what a statement makes of it -/
def qOf (a : QE) (f : D → DE → QS) : QT := fun e => match a e with | .ret d e1 => f d e1 | .exc x e1 => .exc x e1 | .fail => .fail
theorem ls_of {f : PV → Env' → Ms → SO} {g : D → DE → QS} (ha : LE sh mu k m p) (hf : ∀ Y env S e fps v d S1 e1, Stp Y sh mu env S e1 fps S1 → VK k S S1 (Y ++ fps.flatten) fps v d → EnvR Y sh env S e fps → SPost fr Y sh mu env S fps (f v env S1) (g d e1)) : LS sh mu fr (sOf m f) (qOf p g) := fun Y env S e fps E => by
  have h := ha Y env S e fps E
  unfold sOf qOf
  cases hp : p e with
  | fail => trivial
  | exc x e1 => rw [hp] at h; obtain ⟨x', S1, h1, st, r⟩ := h; rw [h1]; exact ⟨x', env, S1, fps, rfl, st.toS, r.weaken fun n hn => List.mem_append_left _ hn⟩
  | ret d e1 => rw [hp] at h; obtain ⟨v, S1, h1, st, r⟩ := h; rw [h1]; exact hf Y env S e fps v d S1 e1 st r E
abbrev qDrop (a : QE) : QT := qOf a fun _ e => .nx e
theorem ls_drop (ha : LE sh mu k m p) : LS sh mu fr (sDrop m) (qDrop p) := ls_of (f := fun _ env S => .nx env S) ha fun Y env S e fps v d S1 e1 st r E => ⟨_, _, _, rfl, st.toS⟩
abbrev qRet (a : QE) : QT := qOf a fun d e => .rt d e
def rkOk (fr : Bool) : Kd → Bool
  | .new => true
  | .val => !fr
  | .rd _ => false
theorem ls_ret (ha : LE sh mu k m p) (hk : rkOk fr k = true := by rfl) : LS sh mu fr (sRet m) (qRet p) := ls_of (f := fun v _ S => .rt v S) ha fun Y env S e fps v d S1 e1 st r E => by
  refine ⟨v, env, S1, fps, rfl, st.toS, ?_⟩
  cases k with
  | new => exact ⟨r.1.sub fun n hn => .inl (List.mem_append_left _ hn), fun _ n e => let ⟨a, o, b, c⟩ := r.2 n e; ⟨.inl a, o, b, c.sub fun n hn => .inl ((List.mem_cons.mp hn).elim (fun z => z ▸ List.mem_cons_self) fun z => List.mem_cons_of_mem _ (List.mem_append_left _ z))⟩⟩
  | val =>
    refine ⟨Rp.sub r fun n hn => .inl (List.mem_append_left _ hn), fun hf => ?_⟩
    subst hf; cases hk
  | rd l => cases hk
/-- return x, x one's own -/
theorem ls_retVar (i : Nat) (hi : sh.getD i .val = .root := by rfl) : LS sh [] fr (sRet (mVar i)) (qRet (qVar i)) := fun Y env S e fps E => by
  unfold sRet qRet sOf qOf qVar
  cases he : e.getD i none with
  | none => trivial
  | some d =>
    have h := E.slot i
    rw [he, hi] at h
    generalize hv : env.getD i none = v at h
    generalize hf : fps.getD i [] = f at h
    cases h with
    | flat kk r =>
      rw [mVar_get hv]
      exact ⟨_, env, S, fps, rfl, .refl E, r.sub fun n hn => .inl (List.mem_append_left _ hn), fun _ n e => absurd e (kk n)⟩
    | @root _ n o _ _ en c =>
      rw [mVar_get hv]
      have hy : n ∉ Y := E.dj i (by rw [hi]; decide) n (by rw [hf]; simp)
      have hin : n ∈ fps.flatten := fp_in (i := i) (by rw [hf]; simp)
      refine ⟨_, env, S, fps, rfl, .refl E, .loc hy en (c.sub fun n hn => .inl (List.mem_append_left _ hn)), fun _ k ek => ?_⟩
      cases ek
      exact ⟨.inr ⟨i, by rw [hi]; decide, by rw [hf]; simp⟩, o, en, c.sub fun k hk => .inl ((List.mem_cons.mp hk).elim (fun z => z ▸ List.mem_append_right _ hin) (List.mem_append_left _))⟩
def qRetN : QT := fun e => .rt .non e
def qIfS (t : QB) (p q : QT) : QT := fun e => match t e with | .ret true e1 => p e1 | .ret false e1 => q e1 | .exc x e1 => .exc x e1 | .fail => .fail
theorem ls_if (ht : LB sh mu t b) (ha : LS sh mu' fr sm sp) (hb : LS sh mu2 fr sn sq) : LS sh (mu ++ (mu' ++ mu2)) fr (sIf t sm sn) (qIfS b sp sq) := fun Y env S e fps E => by
  have h := ht Y env S e fps E
  unfold sIf qIfS
  cases hb' : b e with
  | fail => trivial
  | exc x e1 => rw [hb'] at h; obtain ⟨x', S1, h1, st, r⟩ := h; rw [h1]; exact ⟨x', env, S1, fps, rfl, st.toS.muUp fun i hi => List.mem_append_left _ hi, r.weaken fun n hn => List.mem_append_left _ hn⟩
  | ret z e1 =>
    rw [hb'] at h; obtain ⟨v, S1, h1, st, r⟩ := h
    have r : v = z := r
    subst r
    rw [h1]
    cases v with
    | true => exact ((ha Y env S1 e1 fps st.er.back).muUp fun i hi => List.mem_append_left _ hi).behind st.toS
    | false => exact ((hb Y env S1 e1 fps st.er.back).muUp fun i hi => List.mem_append_right _ hi).behind st.toS
/-! ### storing -/
theorem SlotR.nil_val (h : SlotR S X .val v' d' f) : f = [] := by
  cases h with
  | empty => rfl
  | val _ => rfl
  | root k _ _ => exact absurd rfl k
theorem EnvR.setV {i : Nat} (E : EnvR Y sh env S e fps) (hi : sh.getD i .val = .val) (r : Rp S (Y ++ fps.flatten) v d) : EnvR Y sh (env.set i (some v)) S (e.set i (some d)) fps := by
  refine ⟨by rw [List.length_set, List.length_set]; exact E.l1, by rw [List.length_set]; exact E.l2, fun j => ?_, E.nd, E.bd, E.dj⟩
  by_cases hij : i = j
  · subst hij
    have hf : fps.getD i [] = [] := by have h := E.slot i; rw [hi] at h; exact h.nil_val
    rw [hi, hf]
    by_cases hl : i < e.length
    · rw [getD_set_eq hl, getD_set_eq (by rw [E.l1]; exact hl)]; exact .val r
    · have : (e.set i (some d)).getD i none = none := by rw [List.getD_eq_getElem?_getD, List.getElem?_eq_none (by rw [List.length_set]; omega)]; rfl
      rw [this]; exact .empty
  · rw [getD_set_ne hij, getD_set_ne hij]; exact E.slot j
abbrev qSet (i : Nat) (a : QE) : QT := qOf a fun d e => .nx (e.set i (some d))
theorem ls_set (i : Nat) (ha : LE sh mu k m p) (hi : sh.getD i .val = .val := by rfl) (hk : k = .new ∨ k = .val := by first | exact Or.inl rfl | exact Or.inr rfl) : LS sh mu fr (sSet i m) (qSet i p) := ls_of (f := fun v env S => toSO (gNm i v env) S) ha fun Y env S e fps v d S1 e1 st r E =>
  ⟨_, _, _, rfl, st.fr, st.er.back.setV hi (r.up hk), fun _ _ h => .inl h, fun j hj => getD_set_ne (by rintro rfl; rw [hi] at hj; cases hj)⟩
/-- the root of a value -/
def rootOf : PV → List Nat
  | .loc n => [n]
  | _ => []
theorem flat_set_sub {fps : List (List Nat)} {i x : Nat} {f : List Nat} (h : x ∈ (fps.set i f).flatten) : x ∈ fps.flatten ∨ x ∈ f := by
  obtain ⟨l, hl, hx⟩ := List.mem_flatten.mp h
  rcases List.mem_or_eq_of_mem_set hl with h | h
  · exact .inl (List.mem_flatten.mpr ⟨l, h, hx⟩)
  · exact .inr (h ▸ hx)
theorem nodup_set {fps : List (List Nat)} (nd : fps.flatten.Nodup) {i : Nat} {f : List Nat} (hf : f.Nodup) (hd : ∀ x ∈ f, x ∉ fps.flatten) : (fps.set i f).flatten.Nodup := by
  have h := List.pairwise_flatten.mp nd
  refine List.pairwise_flatten.mpr ⟨fun l hl => ?_, List.pairwise_iff_getElem.mpr fun a b ha hb hab x hx y hy => ?_⟩
  · rcases List.mem_or_eq_of_mem_set hl with z | z
    · exact h.1 l z
    · rw [z]; exact hf
  · rw [List.length_set] at ha hb
    have p := List.pairwise_iff_getElem.mp h.2 a b ha hb hab
    rw [List.getElem_set] at hx hy
    by_cases h1 : i = a
    · rw [if_pos h1] at hx
      rw [if_neg (by omega)] at hy
      rintro rfl
      exact hd x hx (List.mem_flatten.mpr ⟨_, List.getElem_mem hb, hy⟩)
    · rw [if_neg h1] at hx
      by_cases h2 : i = b
      · rw [if_pos h2] at hy
        rintro rfl
        exact hd x hy (List.mem_flatten.mpr ⟨_, List.getElem_mem ha, hx⟩)
      · rw [if_neg h2] at hy
        exact p x hx y hy
/-- a new object is stored in a slot of one's own -/
theorem EnvR.setR {i : Nat} {e0 : DE} (E0 : EnvR Y sh env S e0 fps) (E : EnvR (Y ++ newL S S1) sh env S1 e fps) (hi : sh.getD i .val = .root) (hl : i < e.length) (r : NewR S S1 (Y ++ fps.flatten) v d) : EnvR Y sh (env.set i (some v)) S1 (e.set i (some d)) (fps.set i (rootOf v)) := by
  have nw : ∀ x ∈ rootOf v, S.length ≤ x ∧ x < S1.length := fun x hx => by
    cases v with
    | loc n => simp only [rootOf, List.mem_singleton] at hx; subst hx; exact ⟨(r.2 x rfl).1, r.1.lt⟩
    | _ => cases hx
  have nf : ∀ x ∈ rootOf v, x ∉ fps.flatten := fun x hx z => by have := E0.flt x z; have := (nw x hx).1; omega
  have nY : ∀ x ∈ rootOf v, x ∉ Y := fun x hx z => by have := E0.bd x z; have := (nw x hx).1; omega
  have fl : i < fps.length := by rw [E.l2]; exact hl
  refine ⟨by rw [List.length_set, List.length_set]; exact E.l1, by rw [List.length_set, List.length_set]; exact E.l2, fun j => ?_, nodup_set E.nd (by cases v <;> simp [rootOf]) nf, fun y hy => E.bd y (List.mem_append_left _ hy), fun j hj x hx z => ?_⟩
  · by_cases hij : i = j
    · subst hij
      rw [getD_set_eq hl, getD_set_eq (by rw [E.l1]; exact hl), getD_set_eq fl, hi]
      have sub : ∀ n ∈ Y ++ (fps.set i (rootOf v)).flatten, n ∈ Y ++ fps.flatten ∨ n ∈ rootOf v := fun n hn => by
        rcases List.mem_append.mp hn with z | z
        · exact .inl (List.mem_append_left _ z)
        · exact (flat_set_sub z).imp (List.mem_append_right _) id
      cases v with
      | loc n =>
        obtain ⟨_, o, h1, h2⟩ := r.2 n rfl
        exact .root (by decide) h1 (h2.sub fun k hk => .inl ((sub k hk).elim (List.mem_cons_of_mem _) fun z => by simp only [rootOf, List.mem_singleton] at z; subst z; exact List.mem_cons_self))
      | _ => exact .flat (fun _ h => nomatch h) (r.1.sub fun k hk => .inl ((sub k hk).elim id fun z => nomatch z))
    · rw [getD_set_ne hij, getD_set_ne hij, getD_set_ne hij]
      refine (E.slot j).mono (fun k hk _ => ⟨fun z => hk ?_, rfl⟩) fun _ _ => rfl
      rcases List.mem_append.mp z with z | z
      · exact List.mem_append_left _ (List.mem_append_left _ z)
      · rcases flat_set_sub z with z | z
        · exact List.mem_append_right _ z
        · exact List.mem_append_left _ (List.mem_append_right _ (mem_newL.mpr (nw k z)))
  · by_cases hij : i = j
    · subst hij; rw [getD_set_eq fl] at hx; exact nY x hx z
    · rw [getD_set_ne hij] at hx; exact E.dj j hj x hx (List.mem_append_left _ z)
theorem pv_set {i : Nat} {f : List Nat} (hf : ∀ x ∈ f, S.length ≤ x) : ∀ j x, x ∈ (fps.set i f).getD j [] → x ∈ fps.getD j [] ∨ S.length ≤ x := fun j x hx => by
  by_cases hij : i = j
  · subst hij
    by_cases hl : i < fps.length
    · rw [getD_set_eq hl] at hx; exact .inr (hf x hx)
    · rw [List.getD_eq_getElem?_getD, List.getElem?_eq_none (by rw [List.length_set]; omega)] at hx; cases hx
  · rw [getD_set_ne hij] at hx; exact .inl hx
theorem root_new (r : NewR S S1 X v d) : ∀ x ∈ rootOf v, S.length ≤ x := fun x hx => by
  cases v with
  | loc n => simp only [rootOf, List.mem_singleton] at hx; subst hx; exact (r.2 x rfl).1
  | _ => cases hx
abbrev qSetR (i : Nat) (a : QE) : QT := qOf a fun d e => if i < e.length then .nx (e.set i (some d)) else .fail
theorem ls_setR (i : Nat) (ha : LE sh mu .new m p) (hi : sh.getD i .val = .root := by rfl) : LS sh mu fr (sSet i m) (qSetR i p) := ls_of (f := fun v env S => toSO (gNm i v env) S) ha fun Y env S e fps v d S1 e1 st r E => by
  by_cases hl : i < e1.length
  · rw [if_pos hl]
    exact ⟨_, _, _, rfl, st.fr, EnvR.setR E st.er hi hl r, pv_set (root_new r), fun j hj => getD_set_ne (by rintro rfl; rw [hi] at hj; cases hj)⟩
  · rw [if_neg hl]; trivial
/-- x op= e, x a plain value -/
def qAug (i : Nat) (g : D → D → Option D) (a : QE) : QT := fun e => match e.getD i none with
  | none => .fail
  | some x => qOf a (fun y e1 => match g x y with | some d => .nx (e1.set i (some d)) | none => .fail) e
theorem ls_aug (i : Nat) {f : PV → PV → Ms → Out PV} {g : D → D → Option D} (hf : O2R .new f g) (ha : LE sh mu k m p) (hi : sh.getD i .val = .val := by rfl) (hk : k = .new ∨ k = .val := by first | exact Or.inl rfl | exact Or.inr rfl) : LS sh mu fr (sAug i f m) (qAug i g p) := fun Y env S e fps E => by
  unfold qAug
  cases he : e.getD i none with
  | none => trivial
  | some x =>
    have hs := E.slot i
    rw [he, hi] at hs
    generalize hv : env.getD i none = v at hs
    generalize hfp : fps.getD i [] = ff at hs
    have hval : ∃ w, v = some w ∧ Rp S (Y ++ fps.flatten) w x := by
      cases hs with
      | val r => exact ⟨_, rfl, r⟩
      | root kk _ _ => exact absurd rfl kk
    obtain ⟨w, rfl, rw0⟩ := hval
    have h := ha Y env S e fps E
    unfold sAug qOf
    rw [var_get hv]
    dsimp only
    cases hp : p e with
    | fail => trivial
    | exc z e1 => rw [hp] at h; obtain ⟨x', S1, h1, st, r⟩ := h; rw [h1]; exact ⟨x', env, S1, fps, rfl, st.toS, r.weaken fun n hn => List.mem_append_left _ hn⟩
    | ret y e1 =>
      rw [hp] at h; obtain ⟨y', S1, h1, st, r⟩ := h
      rw [h1]
      dsimp only
      cases hg : g x y with
      | none => trivial
      | some d =>
        have rx : Rp S1 (Y ++ fps.flatten) w x := rw0.fr st.fr (fun n hn => .inl (fl_in n (sel_in hn))) fun n hn => .inl hn
        obtain ⟨z, S2, h2, f2, r2⟩ := hf S1 (Y ++ fps.flatten) w y' x y st.xlt rx.rd (r.up hk).rd d hg
        have r2 : Rp S2 (Y ++ fps.flatten) z d := r2.1
        show SPost fr Y sh mu env S fps (match (f w y' S1) with | .ret v S1 => .nx (env.set i (some v)) S1 | .exc x S1 => .exc env x S1 | .fail => .fail) _
        rw [h2]
        have st2 := (Stp.toS st).trans (Stp.toS (Stp.quiet (mu := []) st.er.back f2))
        rw [List.append_nil] at st2
        exact ⟨_, _, _, rfl, st2.fr, st2.er.setV hi r2, st2.pv, fun j hj => getD_set_ne (by rintro rfl; rw [hi] at hj; cases hj)⟩
/-- a statement that writes an owned list by a method -/
def qWS (i : Nat) (l : QL) (g : D → List D → Option (D × D)) : QT := fun e => match e.getD i none with
  | none => .fail
  | some (.lst _) => (match l e with
    | .ret ds e1 => (match e1.getD i none with
      | none => .fail
      | some d => (match g d ds with
        | some (_, d') => .nx (e1.set i (some d'))
        | none => .fail))
    | .exc x e1 => .exc x e1
    | .fail => .fail)
  | some _ => .fail
theorem EnvR.writeS {i n0 : Nat} {o' : Ob} {d' : D} (E : EnvR Y sh env S e fps) (hi : sh.getD i .val ≠ .val) (hv : env.getD i none = some (.loc n0)) (hf : fps.getD i [] = [n0]) (hs : n0 < S.length) (cc : Cont S (Y ++ fps.flatten) o' d') :
    EnvR Y sh env (S.set n0 o') (e.set i (some d')) fps := by
  have hin : n0 ∈ fps.flatten := fp_in (i := i) (by rw [hf]; simp)
  have h := E.write (o' := o') (d' := d') hi hv hf fr_set (List.getElem?_set_self hs) (by rw [newL_set, List.append_nil]; exact cc.mono (mono_set (List.mem_append_right _ hin)))
  exact h.back
theorem ls_w {i : Nat} {f : PV → List PV → Ms → Out PV} {g : D → List D → Option (D × D)} (hf : WR f g) (ha : LL sh mu .val ml ql) (hi : sh.getD i .val ≠ .val := by decide) : LS sh (mu ++ [i]) fr (sDrop (mMeth (mVar i) ml f)) (qWS i ql g) := fun Y env S e fps E => by
  unfold qWS
  cases he : e.getD i none with
  | none => trivial
  | some d0 =>
    cases d0 with
    | lst ys0 =>
      obtain ⟨n0, o0, hv0, hf0, hs0, hc0⟩ := E.own hi he rfl
      obtain ⟨vs0, rfl, _⟩ := hc0.inv_lst
      have e0 : mMeth (mVar i) ml f env S = (ml env S).bind fun xs S2 => f (.loc n0) xs S2 := by
        unfold mMeth; rw [mVar_get hv0]; show (if _ then _ else _) = _
        rw [if_pos (by simp [lstOf, hs0])]
      unfold sDrop sOf
      rw [e0]
      have h := ha Y env S e fps E
      dsimp only
      cases hl : ql e with
      | fail => trivial
      | exc x e1 => rw [hl] at h; obtain ⟨x', S1, h1, st, r⟩ := h; rw [h1]; exact ⟨x', env, S1, fps, rfl, st.toS.muUp fun i hi => List.mem_append_left _ hi, r.weaken fun n hn => List.mem_append_left _ hn⟩
      | ret ds e1 =>
        rw [hl] at h; obtain ⟨vs, S1, h1, st, r⟩ := h
        rw [h1]
        dsimp only
        cases he1 : e1.getD i none with
        | none => trivial
        | some d =>
          dsimp only
          cases hg : g d ds with
          | none => trivial
          | some pr =>
            obtain ⟨y, d'⟩ := pr
            have E1 := st.er.back
            have h := E1.slot i
            rw [he1, hv0, hf0] at h
            have hR : ∃ o, S1[n0]? = some o ∧ Cont S1 (Y ++ fps.flatten) o d := by
              generalize sh.getD i .val = s at h
              cases h with
              | root _ a c => exact ⟨_, a, c⟩
            obtain ⟨o, hs, hc⟩ := hR
            obtain ⟨_, v, o', h2, h3, h4⟩ := hf S1 (Y ++ fps.flatten) n0 o vs ds d y d' hs hc r.rps hg
            show SPost _ _ _ _ _ _ _ (match (Out.bind (.ret vs S1) fun xs S2 => f (.loc n0) xs S2) with | .ret v S1 => _ | .exc x S1 => _ | .fail => _) _
            simp only [Out.bind]
            rw [h2]
            refine ⟨_, _, fps, rfl, ⟨by rw [List.length_set]; exact st.fr.1, fun k hk hs2 => ?_⟩, E1.writeS hi hv0 hf0 (lt_of_get hs) h4, fun _ _ h => .inl h, fun _ _ => rfl⟩
            have kn : k ≠ n0 := fun z => hs2 (sel_app.mpr (.inr (mem_sel.mpr ⟨i, by simp, by rw [hf0, z]; simp⟩)))
            rw [List.getElem?_set_ne (Ne.symm kn)]
            exact st.fr.2 k hk fun z => hs2 (sel_app.mpr (.inl z))
    | _ => trivial
end
end MP

set_option maxRecDepth 100000
namespace MP
open PySem PySem.Spec PyProof.Rows L2
section
variable {Y Z X X' : List Nat} {sh : List Sh} {mu mu' mu2 : List Nat} {env env' env1 env2 : Env'} {S S' S1 S2 : Ms} {e e' e1 e2 : DE} {fps fps' fps1 fps2 : List (List Nat)} {m n c : ME} {p q r : QE} {t u : MB} {b b' : QB} {ml mk : ML} {ql qk : QL} {v : PV} {d : D} {k : Kd} {fr : Bool} {sm sn : MS} {sp sq : QT}
/-! ### x[i] = e, x one's own -/
def putD : D → D → D → Option D
  | .lst xs, .int k, v => (ixN xs.length k).map fun j => .lst (xs.set j v)
  | .dK kvs, k, v => if kvs.length < lim then (keyD k).map fun k => .dK (putG kvs k v) else none
  | .dT kvs, k, v => if kvs.length < lim then (keysD k).map fun k => .dT (putG kvs k v) else none
  | _, _, _ => none
theorem oPut_rp {n0 : Nat} {o : Ob} {x k dv d' : D} {kv vv : PV} (hs : S[n0]? = some o) (hc : Cont S X o x) (hk : Rd' S X' kv k) (hv : Rp S X vv dv) (h : putD x k dv = some d') : ∃ o', oPut (.loc n0) kv vv S = some (S.set n0 o') ∧ Cont S X o' d' := by
  unfold putD at h
  split at h
  · rw [Option.map_eq_some_iff] at h
    obtain ⟨j, ej, rfl⟩ := h
    obtain ⟨vs, rfl, r⟩ := hc.inv_lst
    rw [hk.inv_int]
    exact ⟨_, by simp only [oPut, hs, r.length, ej, Option.map_some], .lst (r.set hv j)⟩
  · split at h
    · rw [Option.map_eq_some_iff] at h
      obtain ⟨kk, ek, rfl⟩ := h
      obtain ⟨vs, rfl, r⟩ := hc.inv_dK
      exact ⟨_, by simp only [oPut, hs, keyP_rd hk, ek, Option.map_some]; rw [if_pos (by rw [kr_len r]; assumption)], .mk_dK (put_rp hv r)⟩
    · cases h
  · split at h
    · rw [Option.map_eq_some_iff] at h
      obtain ⟨kk, ek, rfl⟩ := h
      obtain ⟨vs, rfl, r⟩ := hc.inv_dT
      exact ⟨_, by simp only [oPut, hs, keysP_rd hk, ek, Option.map_some]; rw [if_pos (by rw [kr_len r]; assumption)], .mk_dT (put_rp hv r)⟩
    · cases h
  · cases h
def qPut (i : Nat) (a v : QE) : QT := fun e => match v e with
  | .ret dv e1 => (match e1.getD i none with
    | none => .fail
    | some _ => (match a e1 with
      | .ret k e2 => (match e2.getD i none with
        | none => .fail
        | some x => if objD x = true then (match putD x k dv with | some d' => .nx (e2.set i (some d')) | none => .fail) else .fail)
      | .exc x e2 => .exc x e2
      | .fail => .fail))
  | .exc x e1 => .exc x e1
  | .fail => .fail
theorem ls_put {i : Nat} {l : List Nat} (ha : LE sh mu' (.rd l) n p) (hv : LE sh mu k c q) (hi : sh.getD i .val ≠ .val := by decide) (hk : k = .new ∨ k = .val := by first | exact Or.inl rfl | exact Or.inr rfl) : LS sh (mu ++ (mu' ++ [i])) fr (sPut (mVar i) n c) (qPut i p q) := fun Y env S e fps E => by
  have h := hv Y env S e fps E
  unfold sPut qPut
  cases hq : q e with
  | fail => trivial
  | exc x e1 => rw [hq] at h; obtain ⟨x', S1, h1, st, r⟩ := h; rw [h1]; exact ⟨x', env, S1, fps, rfl, st.toS.muUp fun i hi => List.mem_append_left _ hi, r.weaken fun n hn => List.mem_append_left _ hn⟩
  | ret dv e1 =>
    rw [hq] at h; obtain ⟨vv, S1, h1, st, r⟩ := h; rw [h1]
    dsimp only
    cases he1 : e1.getD i none with
    | none => trivial
    | some x0 =>
      dsimp only
      obtain ⟨w0, hw0⟩ := st.er.has he1
      rw [mVar_get hw0]
      dsimp only
      have h2 := ha.at_ st.er
      cases hp : p e1 with
      | fail => trivial
      | exc x e2 =>
        rw [hp] at h2; obtain ⟨x', S2, h3, st2, r2⟩ := h2; rw [h3]
        have tt := st.trans st2
        exact ⟨x', env, S2, fps, rfl, tt.toS.muUp fun j hj => (List.mem_append.mp hj).elim (List.mem_append_left _) fun z => List.mem_append_right _ (List.mem_append_left _ z), r2.weaken fun n hn => List.mem_append_left _ hn⟩
      | ret kk e2 =>
        rw [hp] at h2; obtain ⟨kv, S2, h3, st2, r2⟩ := h2; rw [h3]
        dsimp only
        have tt := st.trans st2
        cases he2 : e2.getD i none with
        | none => trivial
        | some x =>
          dsimp only
          by_cases ho : objD x = true
          · rw [if_pos ho]
            cases hd : putD x kk dv with
            | none => trivial
            | some d' =>
              have E2 := tt.er.back
              obtain ⟨n0, o, hn, hf, hs, hc⟩ := E2.own hi he2 ho
              rw [hw0] at hn; cases hn
              have rv : Rp S2 (Y ++ fps.flatten) vv dv := (r.up hk).fr st2.fr (fun n hn => .inl (fl_in n (sel_in hn))) fun n hn => .inl hn
              obtain ⟨o', ho', hc'⟩ := oPut_rp hs hc r2.rd rv hd
              rw [ho']
              refine ⟨_, _, fps, rfl, ⟨by rw [List.length_set]; exact tt.fr.1, fun j hj hs2 => ?_⟩, E2.writeS hi hw0 hf (lt_of_get hs) hc', fun _ _ h => .inl h, fun _ _ => rfl⟩
              have kn : j ≠ n0 := fun z => hs2 (mem_sel.mpr ⟨i, by simp, by rw [hf, z]; simp⟩)
              rw [List.getElem?_set_ne (Ne.symm kn)]
              exact tt.fr.2 j hj fun z => hs2 (by
                rcases sel_app.mp z with z | z
                · exact sel_app.mpr (.inl z)
                · exact sel_app.mpr (.inr (sel_app.mpr (.inl z))))
          · rw [if_neg ho]; trivial
/-! ### x, y = a, b -/
/-- values one after another: none leads to what a later one made, new ones to nothing that an earlier one made -/
def ParV (fps : List (List Nat)) (S2 : Ms) : List Nat → Ms → List Sh → List PV → List D → Prop
  | _, _, [], [], [] => True
  | Y, S, s :: ss, v :: vs, d :: ds => ∃ S1 : Ms, S.length ≤ S1.length ∧ S1.length ≤ S2.length ∧ (∀ n, Rp S2 [] v d → v = .loc n → n < S1.length) ∧ Rp S2 (Y ++ (newL S1 S2 ++ fps.flatten)) v d ∧
      (s = .root → ∀ n, v = .loc n → S.length ≤ n ∧ ∃ o, S2[n]? = some o ∧ Cont S2 (n :: (Y ++ (newL S1 S2 ++ fps.flatten))) o d) ∧ s ≠ .io ∧ ParV fps S2 (Y ++ newL S S1) S1 ss vs ds
  | _, _, _, _, _ => False
def LLp (sh : List Sh) (mu : List Nat) (ss : List Sh) (m : ML) (q : QL) : Prop := ∀ Y env S e fps, EnvR Y sh env S e fps → LPost (fun S S' _ _ vs ds => ParV fps S' Y S ss vs ds) (Y ++ fps.flatten) Y sh mu env S fps (m env S) (q e)
theorem lp_nil : LLp sh [] [] mNil qNil := fun Y env S e fps E => .now E (by simp [ParV])
def shK : Sh → Kd → Prop
  | .val, .new => True
  | .val, .val => True
  | .root, .new => True
  | _, _ => False
theorem newL_sub {S S1 S2 : Ms} (h : S.length ≤ S1.length) : ∀ n ∈ newL S1 S2, n ∈ newL S S2 := fun n hn => by have := mem_newL.mp hn; exact mem_newL.mpr (by omega)
theorem lp_cons {s : Sh} {ss : List Sh} (ha : LE sh mu k m p) (hb : LLp sh mu' ss ml ql) (hk : shK s k := by trivial) : LLp sh (mu ++ mu') (s :: ss) (mCons m ml) (qCons p ql) := fun Y env S e fps E => by
  rw [mCons_eq]
  unfold qCons
  have h := ha Y env S e fps E
  cases hp : p e with
  | fail => trivial
  | exc x e1 => rw [hp] at h; obtain ⟨x', S1, h1, st, r⟩ := h; rw [h1]; exact ⟨x', S1, rfl, st.mono fun i hi => List.mem_append_left _ hi, r⟩
  | ret d e1 =>
    rw [hp] at h; obtain ⟨v, S1, h1, st, r⟩ := h
    rw [h1]
    show LPost _ _ Y sh _ env S fps ((ml env S1).bind _) ((ql e1).bind _)
    have h2 := hb (Y ++ newL S S1) env S1 e1 fps st.er
    cases hq : ql e1 with
    | fail => trivial
    | exc x e2 =>
      rw [hq] at h2; obtain ⟨x', S2, h3, st2, r2⟩ := h2; rw [h3]
      exact ⟨x', S2, rfl, st.trans st2, r2.weaken in_more⟩
    | ret ds e2 =>
      rw [hq] at h2; obtain ⟨vs, S2, h3, st2, r2⟩ := h2; rw [h3]
      refine ⟨_, S2, rfl, st.trans st2, S1, st.fr.1, st2.fr.1, ?_, ?_, ?_, ?_, r2⟩
      · rintro n _ rfl
        have : Rp S1 (Y ++ fps.flatten) (.loc n) d := r.up (by cases s <;> cases k <;> first | exact .inl rfl | exact .inr rfl | exact hk.elim)
        exact this.lt
      · have : Rp S1 (Y ++ fps.flatten) v d := r.up (by cases s <;> cases k <;> first | exact .inl rfl | exact .inr rfl | exact hk.elim)
        exact this.fr st2.fr (fun n hn => .inl (fl_in n (sel_in hn))) fun n hn => by
          rcases List.mem_append.mp hn with z | z
          · exact .inl (List.mem_append_left _ z)
          · rcases List.mem_append.mp z with z | z
            · exact .inr (mem_newL.mp z).1
            · exact .inl (List.mem_append_right _ z)
      · rintro rfl n rfl
        cases k with
        | new =>
          obtain ⟨a, o, b, c⟩ := r.2 n rfl
          have hlt := lt_of_get b
          have hns : n ∉ sel mu' fps := fun z => by have := E.flt n (sel_in z); omega
          refine ⟨a, o, by rw [st2.fr.2 n hlt hns]; exact b, c.fr st2.fr (fun k hk => .inl (List.mem_cons_of_mem _ (fl_in k (sel_in hk)))) fun k hk => ?_⟩
          rcases List.mem_cons.mp hk with z | z
          · exact .inl (z ▸ List.mem_cons_self)
          · rcases List.mem_append.mp z with z | z
            · exact .inl (List.mem_cons_of_mem _ (List.mem_append_left _ z))
            · rcases List.mem_append.mp z with z | z
              · exact .inr (mem_newL.mp z).1
              · exact .inl (List.mem_cons_of_mem _ (List.mem_append_right _ z))
        | val => exact hk.elim
        | rd l => exact hk.elim
      · cases s <;> first | decide | (cases k <;> exact hk.elim)
def setAll {α : Type} : List Nat → List α → List (Option α) → List (Option α)
  | i :: is, v :: vs, env => setAll is vs (env.set i (some v))
  | _, _, env => env
def fpAll (sh : List Sh) : List Nat → List PV → List (List Nat) → List (List Nat)
  | i :: is, v :: vs, fps => fpAll sh is vs (match sh.getD i .val with | .root => fps.set i (rootOf v) | _ => fps)
  | _, _, fps => fps
/-- a new object is stored in a slot of one's own -/
theorem EnvR.store {i : Nat} (E : EnvR Z sh env S e fps) (hY : ∀ y ∈ Y, y ∈ Z) (hi : sh.getD i .val = .root) (hl : i < e.length) (hz : ∀ x ∈ rootOf v, x ∈ Z ∧ x ∉ Y ∧ x ∉ fps.flatten) (r : Rp S (Y ++ fps.flatten) v d) (hc : ∀ n, v = .loc n → ∃ o, S[n]? = some o ∧ Cont S (n :: (Y ++ fps.flatten)) o d) :
    EnvR Y sh (env.set i (some v)) S (e.set i (some d)) (fps.set i (rootOf v)) := by
  have fl : i < fps.length := by rw [E.l2]; exact hl
  refine ⟨by rw [List.length_set, List.length_set]; exact E.l1, by rw [List.length_set, List.length_set]; exact E.l2, fun j => ?_, nodup_set E.nd (by cases v <;> simp [rootOf]) (fun x hx => (hz x hx).2.2), fun y hy => E.bd y (hY y hy), fun j hj x hx z => ?_⟩
  · by_cases hij : i = j
    · subst hij
      rw [getD_set_eq hl, getD_set_eq (by rw [E.l1]; exact hl), getD_set_eq fl, hi]
      have sub : ∀ n ∈ Y ++ (fps.set i (rootOf v)).flatten, n ∈ Y ++ fps.flatten ∨ n ∈ rootOf v := fun n hn => by
        rcases List.mem_append.mp hn with z | z
        · exact .inl (List.mem_append_left _ z)
        · exact (flat_set_sub z).imp (List.mem_append_right _) id
      cases v with
      | loc n =>
        obtain ⟨o, h1, h2⟩ := hc n rfl
        exact .root (by decide) h1 (h2.sub fun k hk => .inl ((sub k hk).elim (List.mem_cons_of_mem _) fun z => by simp only [rootOf, List.mem_singleton] at z; subst z; exact List.mem_cons_self))
      | _ => exact .flat (fun _ h => nomatch h) (r.sub fun k hk => .inl ((sub k hk).elim id fun z => nomatch z))
    · rw [getD_set_ne hij, getD_set_ne hij, getD_set_ne hij]
      refine (E.slot j).mono (fun k hk _ => ⟨fun z => hk ?_, rfl⟩) fun _ _ => rfl
      rcases List.mem_append.mp z with z | z
      · exact List.mem_append_left _ (hY k z)
      · rcases flat_set_sub z with z | z
        · exact List.mem_append_right _ z
        · exact List.mem_append_left _ (hz k z).1
  · by_cases hij : i = j
    · subst hij; rw [getD_set_eq fl] at hx; exact (hz x hx).2.1 z
    · rw [getD_set_ne hij] at hx; exact E.dj j hj x hx (hY x z)
/-- all are stored -/
theorem par_store {S0 : Ms} {Y : List Nat} {fps0 : List (List Nat)} (b0 : ∀ n ∈ Y ++ fps0.flatten, n < S0.length) : ∀ (is : List Nat) (ss : List Sh) (vs : List PV) (ds : List D) (env : Env') (e : DE) (fps : List (List Nat)) (S : Ms), S0.length ≤ S.length → S.length ≤ S2.length →
    ParV fps0 S2 (Y ++ newL S0 S) S ss vs ds → is.map (fun i => sh.getD i .val) = ss → (∀ i ∈ is, i < e.length) → (∀ x ∈ fps.flatten, x ∈ fps0.flatten ∨ x ∈ newL S0 S) → EnvR (Y ++ newL S S2) sh env S2 e fps →
    EnvR Y sh (setAll is vs env) S2 (setAll is ds e) (fpAll sh is vs fps) ∧ (∀ j x, x ∈ (fpAll sh is vs fps).getD j [] → x ∈ fps.getD j [] ∨ S0.length ≤ x) ∧ ∀ j, sh.getD j .val = .io → (setAll is vs env).getD j none = env.getD j none
  | [], ss, vs, ds, env, e, fps, S, h0, h1, hp, hs, hl, hf, E => by
    simp only [List.map_nil] at hs; subst hs
    match vs, ds, hp with
    | [], [], _ => exact ⟨E.back, fun _ _ h => .inl h, fun _ _ => rfl⟩
  | i :: is, ss, vs, ds, env, e, fps, S, h0, h1, hp, hs, hl, hf, E => by
    simp only [List.map_cons] at hs; subst hs
    match vs, ds, hp with
    | v :: vs, d :: ds, hp =>
      obtain ⟨S1, a1, a2, a3, a4, a5, a6, a7⟩ := hp
      have hil := hl i (by simp)
      -- the places that this value does not lead to
      have sub : ∀ n ∈ (Y ++ newL S1 S2) ++ fps.flatten, n ∈ (Y ++ newL S0 S) ++ (newL S1 S2 ++ fps0.flatten) := fun n hn => by
        rcases List.mem_append.mp hn with z | z
        · rcases List.mem_append.mp z with z | z
          · exact List.mem_append_left _ (List.mem_append_left _ z)
          · exact List.mem_append_right _ (List.mem_append_left _ z)
        · rcases hf n z with z | z
          · exact List.mem_append_right _ (List.mem_append_right _ z)
          · exact List.mem_append_left _ (List.mem_append_right _ z)
      have hYZ : ∀ y ∈ Y ++ newL S1 S2, y ∈ Y ++ newL S S2 := fun y hy => (List.mem_append.mp hy).elim (List.mem_append_left _) fun z => List.mem_append_right _ (newL_sub a1 y z)
      have rv : Rp S2 ((Y ++ newL S1 S2) ++ fps.flatten) v d := a4.sub fun n hn => .inl (sub n hn)
      have a7' : ParV fps0 S2 (Y ++ newL S0 S1) S1 (is.map fun i => sh.getD i .val) vs ds := by
        have e : ∀ (ss : List Sh) (vs : List PV) (ds : List D) (Y Y' : List Nat) (S : Ms), (∀ n ∈ Y', n ∈ Y) → ParV fps0 S2 Y S ss vs ds → ParV fps0 S2 Y' S ss vs ds := by
          intro ss
          induction ss with
          | nil => intro vs ds Y Y' S h hp; match vs, ds, hp with | [], [], _ => simp [ParV]
          | cons s ss ih =>
            intro vs ds Y Y' S h hp
            match vs, ds, hp with
            | v :: vs, d :: ds, ⟨S1, b1, b2, b3, b4, b5, b6, b7⟩ =>
              exact ⟨S1, b1, b2, b3, b4.sub fun n hn => .inl ((List.mem_append.mp hn).elim (fun z => List.mem_append_left _ (h n z)) (List.mem_append_right _)), fun hs n hn => let ⟨c1, o, c2, c3⟩ := b5 hs n hn; ⟨c1, o, c2, c3.sub fun k hk => .inl ((List.mem_cons.mp hk).elim (fun z => z ▸ List.mem_cons_self) fun z => List.mem_cons_of_mem _ ((List.mem_append.mp z).elim (fun z => List.mem_append_left _ (h k z)) (List.mem_append_right _)))⟩, b6, ih vs ds _ _ S1 (fun n hn => (List.mem_append.mp hn).elim (fun z => List.mem_append_left _ (h n z)) (List.mem_append_right _)) b7⟩
        refine e _ _ _ _ _ _ (fun n hn => ?_) a7
        rcases List.mem_append.mp hn with z | z
        · exact List.mem_append_left _ (List.mem_append_left _ z)
        · have := mem_newL.mp z
          by_cases q : n < S.length
          · exact List.mem_append_left _ (List.mem_append_right _ (mem_newL.mpr ⟨this.1, q⟩))
          · exact List.mem_append_right _ (mem_newL.mpr ⟨by omega, this.2⟩)
      cases hsh : sh.getD i .val with
      | io => exact absurd hsh a6
      | val =>
        have E1 : EnvR (Y ++ newL S1 S2) sh (env.set i (some v)) S2 (e.set i (some d)) fps := (E.sub hYZ).setV hsh rv
        obtain ⟨r1, r2, r3⟩ := par_store b0 is _ vs ds (env.set i (some v)) (e.set i (some d)) fps S1 (Nat.le_trans h0 a1) a2 a7' rfl (fun j hj => by rw [List.length_set]; exact hl j (List.mem_cons_of_mem _ hj)) (fun x hx => (hf x hx).imp id fun z => by have := mem_newL.mp z; exact mem_newL.mpr (by omega)) E1
        have ef : fpAll sh (i :: is) (v :: vs) fps = fpAll sh is vs fps := by show fpAll sh is vs (match sh.getD i .val with | .root => fps.set i (rootOf v) | _ => fps) = _; rw [hsh]
        rw [ef]
        exact ⟨r1, r2, fun j hj => (r3 j hj).trans (getD_set_ne (by rintro rfl; rw [hsh] at hj; cases hj))⟩
      | root =>
        have nw : ∀ x ∈ rootOf v, S.length ≤ x ∧ x < S1.length := fun x hx => by
          cases v with
          | loc n => simp only [rootOf, List.mem_singleton] at hx; subst hx; exact ⟨(a5 hsh x rfl).1, a3 x (a4.sub fun _ h => nomatch h) rfl⟩
          | _ => cases hx
        have E1 : EnvR (Y ++ newL S1 S2) sh (env.set i (some v)) S2 (e.set i (some d)) (fps.set i (rootOf v)) := by
          refine E.store hYZ hsh hil (fun x hx => ⟨List.mem_append_right _ (mem_newL.mpr ⟨(nw x hx).1, by have := (nw x hx).2; omega⟩), fun z => ?_, fun z => ?_⟩) rv fun n hn => let ⟨_, o, c2, c3⟩ := a5 hsh n hn; ⟨o, c2, c3.sub fun k hk => .inl ((List.mem_cons.mp hk).elim (fun z => z ▸ List.mem_cons_self) fun z => List.mem_cons_of_mem _ (sub k z))⟩
          · have q := nw x hx
            rcases List.mem_append.mp z with z | z
            · have := b0 x (List.mem_append_left _ z); omega
            · have := mem_newL.mp z; omega
          · have q := nw x hx
            rcases hf x z with z | z
            · have := b0 x (List.mem_append_right _ z); omega
            · have := mem_newL.mp z; omega
        obtain ⟨r1, r2, r3⟩ := par_store b0 is _ vs ds (env.set i (some v)) (e.set i (some d)) (fps.set i (rootOf v)) S1 (Nat.le_trans h0 a1) a2 a7' rfl (fun j hj => by rw [List.length_set]; exact hl j (List.mem_cons_of_mem _ hj)) (fun x hx => by
          rcases flat_set_sub hx with z | z
          · exact (hf x z).imp id fun z => by have := mem_newL.mp z; exact mem_newL.mpr (by omega)
          · have := nw x z; exact .inr (mem_newL.mpr (by omega))) E1
        have ef : fpAll sh (i :: is) (v :: vs) fps = fpAll sh is vs (fps.set i (rootOf v)) := by show fpAll sh is vs (match sh.getD i .val with | .root => fps.set i (rootOf v) | _ => fps) = _; rw [hsh]
        rw [ef]
        refine ⟨r1, fun j x hx => ?_, fun j hj => (r3 j hj).trans (getD_set_ne (by rintro rfl; rw [hsh] at hj; cases hj))⟩
        rcases r2 j x hx with z | z
        · exact pv_set (S := S0) (fun x hx => by have := nw x hx; omega) j x z
        · exact .inr z
def qPar (is : List Nat) (l : QL) : QT := fun e => match l e with
  | .ret ds e1 => if is.all (fun i => decide (i < e1.length)) = true then .nx (setAll is ds e1) else .fail
  | .exc x e1 => .exc x e1
  | .fail => .fail
theorem parv_len {S2 : Ms} : ∀ {ss : List Sh} {vs : List PV} {ds : List D} {Y : List Nat} {S : Ms}, ParV fps S2 Y S ss vs ds → vs.length = ss.length
  | [], [], [], _, _, _ => rfl
  | s :: ss, v :: vs, d :: ds, _, _, ⟨_, _, _, _, _, _, _, h⟩ => by rw [List.length_cons, List.length_cons, parv_len h]
  | [], _ :: _, _, _, _, h => by cases h
  | [], [], _ :: _, _, _, h => by cases h
  | _ :: _, [], _, _, _, h => by cases h
  | _ :: _, _ :: _, [], _, _, h => by cases h
theorem ls_pars {is : List Nat} {ss : List Sh} {M : MS} (ha : LLp sh mu ss ml ql) (hs : is.map (fun i => sh.getD i .val) = ss) (hM : ∀ env S, (∀ vs S1, ml env S = .ret vs S1 → vs.length = ss.length → M env S = .nx (setAll is vs env) S1) ∧ ∀ x S1, ml env S = .exc x S1 → M env S = .exc env x S1) : LS sh mu fr M (qPar is ql) := fun Y env S e fps E => by
  have h := ha Y env S e fps E
  unfold qPar
  cases hq : ql e with
  | fail => trivial
  | exc x e1 => rw [hq] at h; obtain ⟨x', S1, h1, st, r⟩ := h; rw [(hM env S).2 x' S1 h1]; exact ⟨x', env, S1, fps, rfl, st.toS, r.weaken fun n hn => List.mem_append_left _ hn⟩
  | ret ds e1 =>
    rw [hq] at h; obtain ⟨vs, S1, h1, st, r⟩ := h
    dsimp only
    by_cases hl : is.all (fun i => decide (i < e1.length)) = true
    · rw [if_pos hl, (hM env S).1 vs S1 h1 (parv_len r)]
      have hl' : ∀ i ∈ is, i < e1.length := fun i hi => by simpa using List.all_eq_true.mp hl i hi
      obtain ⟨r1, r2, r3⟩ := par_store (S2 := S1) (sh := sh) (Y := Y) (S0 := S) (fps0 := fps) E.xlt is ss vs ds env e1 fps S (Nat.le_refl _) st.fr.1 (by rw [newL_self, List.append_nil]; exact r) hs hl' (fun x hx => .inl hx) st.er
      exact ⟨_, _, _, rfl, st.fr, r1, r2, r3⟩
    · rw [if_neg hl]; trivial
theorem ls_par {i j : Nat} {ss : List Sh} (ha : LLp sh mu ss (mCons m (mCons n mNil)) ql) (hs : [i, j].map (fun i => sh.getD i .val) = ss := by rfl) : LS sh mu fr (sPar i j m n) (qPar [i, j] ql) := ls_pars ha hs fun env S => ⟨fun vs S1 h hl => by
    unfold sPar; rw [h]
    rw [← hs] at hl
    match vs, hl with
    | [v, w], _ => rfl, fun x S1 h => by unfold sPar; rw [h]⟩
theorem ls_par3 {i j l : Nat} {ss : List Sh} (ha : LLp sh mu ss (mCons m (mCons n (mCons c mNil))) ql) (hs : [i, j, l].map (fun i => sh.getD i .val) = ss := by rfl) : LS sh mu fr (sPar3 i j l m n c) (qPar [i, j, l] ql) := ls_pars ha hs fun env S => ⟨fun vs S1 h hl => by
    unfold sPar3; rw [h]
    rw [← hs] at hl
    match vs, hl with
    | [v, w, z], _ => rfl, fun x S1 h => by unfold sPar3; rw [h]⟩
end
end MP

set_option maxRecDepth 100000
namespace MP
open PySem PySem.Spec PyProof.Rows L2
section
variable {Y Z X X' : List Nat} {sh : List Sh} {mu mu' mu2 : List Nat} {env env' env1 env2 : Env'} {S S' S1 S2 : Ms} {e e' e1 e2 : DE} {fps fps' fps1 fps2 : List (List Nat)} {m n c : ME} {p q r : QE} {t u : MB} {b b' : QB} {ml mk : ML} {ql qk : QL} {v : PV} {d : D} {k : Kd} {fr : Bool} {sm sn : MS} {sp sq : QT} {vs : List PV} {ds : List D} {sl sl' : List Nat}
/-! ### targets -/
abbrev QG := D → DE → Option DE
def LG (sh : List Sh) (g : MG) (q : QG) (sl : List Nat) : Prop := ∀ Y env S e fps v d e1, EnvR Y sh env S e fps → Rp S (Y ++ fps.flatten) v d → q d e = some e1 → ∃ env1, g v env = some env1 ∧ EnvR Y sh env1 S e1 fps ∧ (∀ vs, (∀ i ∈ sl, i ∈ vs) → wipeE env1 vs = wipeE env vs) ∧ ∀ i, sh.getD i .val = .io → env1.getD i none = env.getD i none
def LGs (sh : List Sh) (g : List PV → Env' → Option Env') (q : List D → DE → Option DE) (sl : List Nat) : Prop := ∀ Y env S e fps v d e1, EnvR Y sh env S e fps → Rps S (Y ++ fps.flatten) v d → q d e = some e1 → ∃ env1, g v env = some env1 ∧ EnvR Y sh env1 S e1 fps ∧ (∀ vs, (∀ i ∈ sl, i ∈ vs) → wipeE env1 vs = wipeE env vs) ∧ ∀ i, sh.getD i .val = .io → env1.getD i none = env.getD i none
def qNm (i : Nat) : QG := fun d e => some (e.set i (some d))
theorem wipeE_set {i : Nat} {s : Option PV} : ∀ {vs : List Nat}, i ∈ vs → wipeE (env.set i s) vs = wipeE env vs
  | w :: ws, h => by
    show (wipeE (env.set i s) ws).set w none = (wipeE env ws).set w none
    by_cases hv : i ∈ ws
    · rw [wipeE_set hv]
    · have e : i = w := by rcases List.mem_cons.mp h with h | h; exact h; exact absurd h hv
      subst e
      have g : ∀ (ws : List Nat), i ∉ ws → wipeE (env.set i s) ws = (wipeE env ws).set i s := by
        intro ws
        induction ws with
        | nil => intro _; rfl
        | cons z zs ih =>
          intro hn
          show (wipeE (env.set i s) zs).set z none = ((wipeE env zs).set z none).set i s
          rw [ih (fun y => hn (List.mem_cons_of_mem _ y)), List.set_comm]
          intro y; subst y; exact hn List.mem_cons_self
      rw [g ws hv, List.set_set]
theorem lg_name (i : Nat) (hi : sh.getD i .val = .val := by rfl) : LG sh (gNm i) (qNm i) [i] := fun Y env S e fps v d e1 E r h => by
  cases h
  exact ⟨_, rfl, E.setV hi r, fun vs h => wipeE_set (h i (by simp)), fun j hj => getD_set_ne (by rintro rfl; rw [hi] at hj; cases hj)⟩
def qNl : List D → DE → Option DE
  | [], e => some e
  | _, _ => none
def qCn (g : QG) (gs : List D → DE → Option DE) : List D → DE → Option DE
  | d :: ds, e => (g d e).bind fun e1 => gs ds e1
  | [], _ => none
theorem lgs_nil : LGs sh gNl qNl [] := fun Y env S e fps v d e1 E r h => by
  cases r with
  | nil => cases h; exact ⟨_, rfl, E, fun _ _ => rfl, fun _ _ => rfl⟩
  | cons _ _ => cases h
theorem lgs_cons {g : MG} {gq : QG} {gs : List PV → Env' → Option Env'} {gqs : List D → DE → Option DE} (h1 : LG sh g gq sl) (h2 : LGs sh gs gqs sl') : LGs sh (gCn g gs) (qCn gq gqs) (sl ++ sl') := fun Y env S e fps v d e1 E r h => by
  cases r with
  | nil => cases h
  | cons r t =>
    simp only [qCn] at h
    rw [Option.bind_eq_some_iff] at h
    obtain ⟨e2, ha, hb⟩ := h
    obtain ⟨env1, a1, a2, a3, a4⟩ := h1 Y env S e fps _ _ e2 E r ha
    obtain ⟨env2, b1, b2, b3, b4⟩ := h2 Y env1 S e2 fps _ _ e1 a2 t hb
    exact ⟨env2, by simp only [gCn, a1, Option.bind_some, b1], b2, fun vs hv => (b3 vs fun i hi => hv i (List.mem_append_right _ hi)).trans (a3 vs fun i hi => hv i (List.mem_append_left _ hi)), fun i hi => (b4 i hi).trans (a4 i hi)⟩
def qTp (n : Nat) (gs : List D → DE → Option DE) : QG := fun d e => match d with | .tup xs => if xs.length = n then gs xs e else none | _ => none
theorem lg_tup {n : Nat} {gs : List PV → Env' → Option Env'} {gqs : List D → DE → Option DE} (h : LGs sh gs gqs sl) : LG sh (gTp n gs) (qTp n gqs) sl := fun Y env S e fps v d e1 E r hq => by
  unfold qTp at hq
  split at hq
  · split at hq
    · obtain ⟨xs, rfl, rs⟩ := r.inv_tup
      obtain ⟨env1, a⟩ := h Y env S e fps _ _ e1 E rs hq
      exact ⟨env1, by simp only [gTp]; rw [if_pos (by rw [rs.length]; assumption)]; exact a.1, a.2⟩
    · cases hq
  · cases hq
abbrev qAsg (g : QG) (a : QE) : QT := qOf a fun d e => match g d e with | some e1 => .nx e1 | none => .fail
theorem ls_asg {g : MG} {gq : QG} (ha : LE sh mu k m p) (hg : LG sh g gq sl) (hk : k = .new ∨ k = .val := by first | exact Or.inl rfl | exact Or.inr rfl) : LS sh mu fr (sAsg g m) (qAsg gq p) := ls_of (f := fun v env S => toSO (g v env) S) ha fun Y env S e fps v d S1 e1 st r E => by
  cases hq : gq d e1 with
  | none => trivial
  | some e2 =>
    obtain ⟨env1, a1, a2, _, a3⟩ := hg Y env S1 e1 fps v d e2 st.er.back (r.up hk) hq
    rw [a1]
    exact ⟨_, _, _, rfl, st.fr, a2, fun _ _ h => .inl h, a3⟩
/-! ### what is walked -/
def SrcR (ls : List Nat) (S' : Ms) (X : List Nat) (fps : List (List Nat)) (src : Src) (ds : List D) : Prop := ∃ (L : List Nat) (vs : List PV), (∀ n ∈ L, n ∉ X ∨ ∃ i ∈ ls, n ∈ fps.getD i []) ∧ (∀ n ∈ L, n < S'.length) ∧ (∀ S'' : Ms, (∀ n ∈ L, S''[n]? = S'[n]?) → ∀ i, nxt S'' i src = nxO vs[i]?) ∧ Rps S' X vs ds
abbrev QI := DE → LO (List D)
def LI (sh : List Sh) (mu ls : List Nat) (m : MI) (q : QI) : Prop := ∀ Y env S e fps, EnvR Y sh env S e fps → LPost (fun _ S' X fps src ds => SrcR ls S' X fps src ds) (Y ++ fps.flatten) Y sh mu env S fps (m env S) (q e)
def qiOf (a : QE) : QI := fun e => (a e).bind fun d e1 => opt (itemsD d) e1
theorem srcOK (st : EnvR Z sh env S1 e1 fps) {src : Src} {o : Out Src} (h : o = .ret src S1) (r : SrcR sl S1 X fps src ds) : LPost (fun _ S' X fps src ds => SrcR sl S' X fps src ds) X Z sh mu env S1 fps o (.ret ds e1) := by rw [h]; exact ⟨src, S1, rfl, .refl st, r⟩
theorem nxt_list {xs : List PV} {n0 i : Nat} {o : Src} (h : S[n0]? = some (.lst xs)) : nxt S i (.lst n0) = nxO xs[i]? := by
  simp only [nxt, rdL, h]; cases xs[i]? <;> rfl
theorem li_of {l : List Nat} (ha : LE sh mu (.rd l) m p) : LI sh mu l (iOf m) (qiOf p) := fun Y env S e fps E => by
  have e0 : iOf m env S = (m env S).bind fun v S1 => match srcOf S1 v with | some s => .ret s S1 | none => .fail := by unfold iOf Out.bind; cases m env S <;> rfl
  rw [e0]
  refine LPost.nil' (LPost.seq (ha Y env S e fps E) (fun _ _ _ _ _ _ h => h) fun v d S1 e1 st r => ?_)
  cases hi : itemsD d with
  | none => trivial
  | some ds =>
    cases d with
    | tup xs =>
      cases hi
      obtain ⟨ys, rfl, rs⟩ := r.rd.inv_tup
      exact srcOK st.er rfl ⟨[], ys, (fun _ h => nomatch h), (fun _ h => nomatch h), fun S'' _ i => by simp only [nxt]; cases ys[i]? <;> rfl, rs⟩
    | lst xs =>
      cases hi
      have own : ∀ n ys, v = .loc n → S1[n]? = some (.lst ys) → Rps S1 (Y ++ fps.flatten) ys ds → (n ∉ (Y ++ fps.flatten) ∨ ∃ i ∈ l, n ∈ fps.getD i []) → LPost (fun _ S' X fps src ds => SrcR l S' X fps src ds) (Y ++ fps.flatten) (Y ++ newL S S1) sh [] env S1 fps (match srcOf S1 v with | some s => .ret s S1 | none => .fail) (.ret ds e1) := by
        rintro n ys rfl en rs hn
        refine srcOK st.er (src := .lst n) (by simp only [srcOf, rdL, en, Option.map_some]) ⟨[n], ys, fun k hk => ?_, fun k hk => ?_, fun S'' hS i => ?_, rs⟩
        · rw [List.mem_singleton] at hk; subst hk; exact hn
        · rw [List.mem_singleton] at hk; subst hk; exact lt_of_get en
        · exact nxt_list (o := .lst n) (by rw [hS n (by simp)]; exact en)
      rcases r with r | ⟨i, hi, n, o, rfl, ef, en, cc⟩
      · cases r with
        | loc hn en cc => obtain ⟨ys, rfl, rs⟩ := cc.inv_lst; exact own _ ys rfl en rs (.inl hn)
      · obtain ⟨ys, rfl, rs⟩ := cc.inv_lst
        exact own n ys rfl en rs (.inr ⟨i, hi, by rw [ef]; simp⟩)
    | _ => cases hi
def nats (lo : Int) (n : Nat) : List D := (List.range n).map fun k => D.int (lo + (k : Nat))
def qrng1 : List D → Option (List D)
  | [.int j] => if big62 j then some (nats 0 j.toNat) else none
  | _ => none
def qiRg (f : List D → Option (List D)) (l : QL) : QI := fun e => (l e).bind fun ds e1 => opt (f ds) e1
def RgR (f : List PV → Option Src) (g : List D → Option (List D)) : Prop := ∀ (S : Ms) (X : List Nat) (vs : List PV) (ds rs : List D), Rds S X vs ds → g ds = some rs → ∃ src ws, f vs = some src ∧ (∀ S'' i, nxt S'' i src = nxO ws[i]?) ∧ ∀ S X, Rps S X ws rs
theorem range_nx {n i : Nat} {f : Nat → PV} : (if i < n then Nx.yld (f i) else .stop) = nxO ((List.range n).map f)[i]? := by
  rw [List.getElem?_map]
  by_cases h : i < n
  · rw [if_pos h, List.getElem?_range h]; rfl
  · rw [if_neg h, List.getElem?_eq_none (by simp; omega)]; rfl
theorem rg1 : RgR rng1 qrng1 := fun S X vs ds rs r h => by
  unfold qrng1 at h
  split at h
  · split at h
    · rename_i j hb
      cases h
      obtain ⟨v, rfl, r1⟩ := rds1 r
      rw [r1.inv_int]
      exact ⟨_, (List.range j.toNat).map fun (k : Nat) => PV.int (0 + (k : Nat)), by simp only [rng1]; rw [if_pos hb], fun S'' i => by simp only [nxt]; exact range_nx (f := fun k => PV.int (0 + (k : Nat))), fun S X => .flat (fun k => .int _) _⟩
    · cases h
  · cases h
theorem li_rg {l : List Nat} {f : List PV → Option Src} {g : List D → Option (List D)} (hf : RgR f g) (ha : LL sh mu (.rd l) ml ql) : LI sh mu [] (iRg f ml) (qiRg g ql) := fun Y env S e fps E => by
  have e0 : iRg f ml env S = (ml env S).bind fun vs S1 => match f vs with | some s => .ret s S1 | none => .fail := by unfold iRg Out.bind; cases ml env S <;> rfl
  rw [e0]
  refine LPost.nil' (LPost.seq (ha Y env S e fps E) (fun _ _ _ _ _ _ h => h) fun vs ds S1 e1 st r => ?_)
  cases hi : g ds with
  | none => trivial
  | some rs =>
    obtain ⟨src, ws, h1, h2, h3⟩ := hf S1 _ vs ds rs r.rds hi
    exact srcOK st.er (by rw [h1]) ⟨[], ws, (fun _ h => nomatch h), (fun _ h => nomatch h), (fun S'' _ i => h2 S'' i), h3 _ _⟩
/-- sources that read lists: by the values of the lists -/
def qiSt (f : List D → Option (List D)) (l : QL) : QI := fun e => (l e).bind fun ds e1 => opt (f ds) e1
def zipD (xs ys : List D) : List D := (List.zip xs ys).map fun p => .tup [p.1, p.2]
def enmD (xs : List D) : List D := (List.range xs.length).zip xs |>.map fun p => .tup [.int (p.1 : Nat), p.2]
def qzip : List D → Option (List D)
  | [.tup xs, .tup ys] => some (zipD xs ys)
  | [.lst xs, .lst ys] => some (zipD xs ys)
  | _ => none
def qenm : List D → Option (List D)
  | [.lst xs] => some (enmD xs)
  | _ => none
/-- the places of the lists read -/
def rootsOf (vs : List PV) : List Nat := (vs.map rootOf).flatten
def StR (f : Ms → List PV → Option Src) (g : List D → Option (List D)) : Prop := ∀ (S : Ms) (X : List Nat) (vs : List PV) (ds rs : List D), Rds S X vs ds → g ds = some rs → ∃ src ws, f S vs = some src ∧ (∀ S'' : Ms, (∀ n ∈ rootsOf vs, S''[n]? = S[n]?) → ∀ i, nxt S'' i src = nxO ws[i]?) ∧ Rps S X ws rs
theorem rps_zip : ∀ {xs ys : List PV} {ds es : List D}, Rps S X xs ds → Rps S X ys es → Rps S X ((List.zip xs ys).map fun p => .tup [p.1, p.2]) (zipD ds es)
  | _, _, _, _, .nil, _ => by simp [zipD]; exact .nil
  | _, _, _, _, .cons _ _, .nil => by simp [zipD]; exact .nil
  | _, _, _, _, .cons h t, .cons h' t' => .cons (.tup (.cons h (.cons h' .nil))) (rps_zip t t')
theorem zip_at {α β : Type} {xs : List α} {ys : List β} {i : Nat} : (List.zip xs ys)[i]? = match xs[i]?, ys[i]? with | some a, some b => some (a, b) | _, _ => none := by
  rw [List.zip_eq_zipWith, List.getElem?_zipWith]; cases xs[i]? <;> cases ys[i]? <;> rfl
theorem zip_nxQ {xs ys : List PV} {i : Nat} : (match xs[i]?, ys[i]? with | some v, some w => Nx.yld (.tup [v, w]) | _, _ => .stop) = nxO (((List.zip xs ys).map fun p => PV.tup [p.1, p.2])[i]?) := by
  rw [List.getElem?_map, zip_at]; cases xs[i]? <;> cases ys[i]? <;> rfl
theorem st_zip : StR zipOf qzip := fun S X vs ds rs r h => by
  unfold qzip at h
  split at h
  · cases h
    obtain ⟨v, w, rfl, r1, r2⟩ := rds2 r
    obtain ⟨xs, rfl, q1⟩ := r1.inv_tup
    obtain ⟨ys, rfl, q2⟩ := r2.inv_tup
    exact ⟨_, _, rfl, fun S'' _ i => by simp only [nxt]; exact zip_nxQ, rps_zip q1 q2⟩
  · cases h
    obtain ⟨v, w, rfl, r1, r2⟩ := rds2 r
    obtain ⟨n1, xs, rfl, e1, q1⟩ := r1.inv_lst
    obtain ⟨n2, ys, rfl, e2, q2⟩ := r2.inv_lst
    refine ⟨.zipL n1 n2, _, by simp only [zipOf, rdL, e1, e2], fun S'' hS i => ?_, rps_zip q1 q2⟩
    have h1 : S''[n1]? = some (.lst xs) := by rw [hS n1 (by simp [rootsOf, rootOf])]; exact e1
    have h2 : S''[n2]? = some (.lst ys) := by rw [hS n2 (by simp [rootsOf, rootOf])]; exact e2
    simp only [nxt, rdL, h1, h2]; exact zip_nxQ
  · cases h
theorem rps_enm {xs : List PV} {ds : List D} (h : Rps S X xs ds) : Rps S X ((List.range xs.length).zip xs |>.map fun p => .tup [.int (p.1 : Nat), p.2]) (enmD ds) := by
  have g : ∀ {xs : List PV} {ds : List D} (l : List Nat), Rps S X xs ds → Rps S X ((l.zip xs).map fun p => .tup [.int (p.1 : Nat), p.2]) ((l.zip ds).map fun p => .tup [.int (p.1 : Nat), p.2]) := by
    intro xs ds l h
    induction l generalizing xs ds with
    | nil => simp; exact .nil
    | cons a l ih =>
      cases h with
      | nil => simp; exact .nil
      | cons h t => exact .cons (.tup (.cons (.int _) (.cons h .nil))) (ih t)
  unfold enmD
  rw [← h.length]; exact g _ h
theorem enm_at {xs : List PV} {i : Nat} : (match xs[i]? with | some v => Nx.yld (.tup [.int i, v]) | none => .stop) = nxO ((((List.range xs.length).zip xs).map fun p => PV.tup [.int (p.1 : Nat), p.2])[i]?) := by
  rw [List.getElem?_map, zip_at]
  cases e : xs[i]? with
  | none => cases (List.range xs.length)[i]? <;> rfl
  | some v =>
    have hl := (List.getElem?_eq_some_iff.mp e).1
    rw [List.getElem?_range hl]; rfl
theorem st_enm : StR enmOf qenm := fun S X vs ds rs r h => by
  unfold qenm at h
  split at h
  · cases h
    obtain ⟨v, rfl, r1⟩ := rds1 r
    obtain ⟨n1, xs, rfl, e1, q1⟩ := r1.inv_lst
    refine ⟨.enm n1, _, by simp only [enmOf, rdL, e1, Option.map_some], fun S'' hS i => ?_, rps_enm q1⟩
    have h1 : S''[n1]? = some (.lst xs) := by rw [hS n1 (by simp [rootsOf, rootOf])]; exact e1
    simp only [nxt, rdL, h1]; exact enm_at
  · cases h
theorem vks_roots {l : List Nat} : ∀ {vs : List PV} {ds : List D}, VKs (.rd l) S S' X fps vs ds → (∀ n ∈ rootsOf vs, n ∉ X ∨ ∃ i ∈ l, n ∈ fps.getD i []) ∧ ∀ n ∈ rootsOf vs, n < S'.length
  | _, _, .nil => ⟨fun _ h => (by simp [rootsOf] at h), fun _ h => (by simp [rootsOf] at h)⟩
  | _, _, .cons (v := v) (vs := ws) h t => by
    obtain ⟨h1, h2⟩ := vks_roots t
    have e : ∀ n, n ∈ rootsOf (v :: ws) ↔ n ∈ rootOf v ∨ n ∈ rootsOf ws := fun n => by simp only [rootsOf, List.map_cons, List.flatten_cons, List.mem_append]
    have hv : ∀ n ∈ rootOf v, (n ∉ X ∨ ∃ i ∈ l, n ∈ fps.getD i []) ∧ n < S'.length := fun n hn => by
      cases v with
      | loc k =>
        simp only [rootOf, List.mem_singleton] at hn; subst hn
        rcases h with h | ⟨i, hi, k, o, e1, e2, e3, e4⟩
        · cases h with | loc hk en cc => exact ⟨.inl hk, lt_of_get en⟩
        · cases e1; exact ⟨.inr ⟨i, hi, by rw [e2]; simp⟩, lt_of_get e3⟩
      | _ => cases hn
    exact ⟨fun n hn => ((e n).mp hn).elim (fun z => (hv n z).1) (h1 n), fun n hn => ((e n).mp hn).elim (fun z => (hv n z).2) (h2 n)⟩
theorem li_st {l : List Nat} {f : Ms → List PV → Option Src} {g : List D → Option (List D)} (hf : StR f g) (ha : LL sh mu (.rd l) ml ql) : LI sh mu l (iSt f ml) (qiSt g ql) := fun Y env S e fps E => by
  have e0 : iSt f ml env S = (ml env S).bind fun vs S1 => match f S1 vs with | some s => .ret s S1 | none => .fail := by unfold iSt Out.bind; cases ml env S <;> rfl
  rw [e0]
  refine LPost.nil' (LPost.seq (ha Y env S e fps E) (fun _ _ _ _ _ _ h => h) fun vs ds S1 e1 st r => ?_)
  cases hi : g ds with
  | none => trivial
  | some rs =>
    obtain ⟨src, ws, h1, h2, h3⟩ := hf S1 _ vs ds rs r.rds hi
    obtain ⟨k1, k2⟩ := vks_roots r
    exact srcOK st.er (by rw [h1]) ⟨rootsOf vs, ws, k1, k2, h2, h3⟩
/-! ### loops -/
def forQ (g : QG) (body : QT) : List D → DE → QS
  | [], e => .nx e
  | d :: ds, e => match g d e with
    | none => .fail
    | some e1 => (match body e1 with
      | .nx e2 => forQ g body ds e2
      | .ct e2 => forQ g body ds e2
      | .bk e2 => .nx e2
      | w => w)
def qFor (qi : QI) (g : QG) (body : QT) : QT := fun e => match qi e with
  | .ret ds e1 => if ds.length ≤ lim then forQ g body ds e1 else .fail
  | .exc x e1 => .exc x e1
  | .fail => .fail
/-- the loop's inner part -/
theorem forQ_ok {src : Src} {g : MG} {gq : QG} {body : MS} {bq : QT} {L : List Nat} {vs : List PV} {S0 : Ms} {fps0 : List (List Nat)} (hg : LG sh g gq sl) (hb : LS sh mu fr body bq) (hL : ∀ n ∈ L, n < S0.length) (hLm : ∀ n ∈ L, n ∉ sel mu fps0)
    (hn : ∀ S'' : Ms, (∀ n ∈ L, S''[n]? = S0[n]?) → ∀ i, nxt S'' i src = nxO vs[i]?) : ∀ (ds : List D) (f i : Nat) (env : Env') (S : Ms) (e : DE) (fps : List (List Nat)), ds.length < f → i + ds.length = vs.length → EnvR Y sh env S e fps → (∀ n ∈ L, S[n]? = S0[n]?) → S0.length ≤ S.length → (∀ i x, x ∈ fps.getD i [] → x ∈ fps0.getD i [] ∨ S0.length ≤ x) → Rps S (Y ++ fps.flatten) (vs.drop i) ds →
      SPost fr Y sh mu env S fps (loopM src g body f i env S) (forQ gq bq ds e)
  | ds, 0, i, env, S, e, fps, hf, _, _, _, _, _, _ => absurd hf (by omega)
  | [], f + 1, i, env, S, e, fps, hf, hi, E, hS, hS0, hp, hr => by
    unfold loopM
    rw [hn S hS i, List.getElem?_eq_none (by rw [← hi]; exact Nat.le_refl _)]
    show SPost fr Y sh mu env S fps (.nx env S) (.nx e)
    exact ⟨env, S, fps, rfl, StpS.muUp (mu := []) (StpS.refl E) (by simp)⟩
  | d :: ds, f + 1, i, env, S, e, fps, hf, hi, E, hS, hS0, hp, hr => by
    have hil : i < vs.length := by rw [List.length_cons] at hi; omega
    rw [List.drop_eq_getElem_cons hil] at hr
    cases hr with
    | cons rv rt =>
      unfold loopM forQ
      rw [hn S hS i, List.getElem?_eq_getElem hil]
      dsimp only [nxO]
      cases hq : gq d e with
      | none => trivial
      | some e1 =>
        obtain ⟨env1, a1, a2, _, a3⟩ := hg Y env S e fps _ d e1 E rv hq
        rw [a1]
        dsimp only
        have h := hb Y env1 S e1 fps a2
        have s0 : StpS Y sh [] env S fps env1 S e1 fps := ⟨.refl _ _, a2, fun _ _ h => .inl h, a3⟩
        have mm : ∀ {o w}, SPost fr Y sh ([] ++ mu) env S fps o w → SPost fr Y sh mu env S fps o w := fun h => h.muUp (by simp)
        -- go on
        have go : ∀ {env2 : Env'} {S2 : Ms} {e2 : DE} {fps2 : List (List Nat)}, StpS Y sh mu env1 S fps env2 S2 e2 fps2 → SPost fr Y sh mu env S fps (loopM src g body f (i + 1) env2 S2) (forQ gq bq ds e2) := fun {env2 S2 e2 fps2} st => by
          have st' := s0.trans st
          have hL2 : ∀ n ∈ L, S2[n]? = S0[n]? := fun n hn => by
            rw [st.fr.2 n (Nat.lt_of_lt_of_le (hL n hn) hS0) fun z => ?_]; exact hS n hn
            obtain ⟨j, hj, hx⟩ := mem_sel.mp z
            rcases hp j n hx with y | y
            · exact hLm n hn (mem_sel.mpr ⟨j, hj, y⟩)
            · have := hL n hn; omega
          have hp2 : ∀ i x, x ∈ fps2.getD i [] → x ∈ fps0.getD i [] ∨ S0.length ≤ x := fun j x hx => (st.pv j x hx).elim (hp j x) fun y => .inr (Nat.le_trans hS0 y)
          have rt2 : Rps S2 (Y ++ fps2.flatten) (vs.drop (i + 1)) ds := rt.fr st.fr (fun n hn => .inl (List.mem_append_right _ (sel_in hn))) fun n hn => by
            rcases List.mem_append.mp hn with y | y
            · exact .inl (List.mem_append_left _ y)
            · obtain ⟨j, hj⟩ := fp_out y
              exact (st.pv j n hj).imp (fun w => List.mem_append_right _ (fp_in w)) id
          have hh := forQ_ok hg hb hL hLm hn ds f (i + 1) env2 S2 e2 fps2 (by rw [List.length_cons] at hf; omega) (by rw [List.length_cons] at hi; omega) st.er hL2 (Nat.le_trans hS0 st.fr.1) hp2 rt2
          exact (hh.behind st').muUp (by simp)
        cases hw : bq e1 with
        | nx e2 => rw [hw] at h; obtain ⟨env2, S2, fps2, h1, st⟩ := h; rw [h1]; exact go st
        | ct e2 => rw [hw] at h; obtain ⟨env2, S2, fps2, h1, st⟩ := h; rw [h1]; exact go st
        | bk e2 => rw [hw] at h; obtain ⟨env2, S2, fps2, h1, st⟩ := h; rw [h1]; exact ⟨_, _, _, rfl, (s0.trans st).muUp (by simp)⟩
        | rt d2 e2 => rw [hw] at h; obtain ⟨v2, env2, S2, fps2, h1, st, rr⟩ := h; rw [h1]; exact ⟨_, _, _, _, rfl, (s0.trans st).muUp (by simp), rr⟩
        | exc x e2 => rw [hw] at h; obtain ⟨v2, env2, S2, fps2, h1, st, rr⟩ := h; rw [h1]; exact ⟨_, _, _, _, rfl, (s0.trans st).muUp (by simp), rr⟩
        | fail => trivial
theorem ls_for {ls : List Nat} {mi : MI} {qi : QI} {g : MG} {gq : QG} {body : MS} {bq : QT} (hi : LI sh mu ls mi qi) (hg : LG sh g gq sl) (hb : LS sh mu' fr body bq) (hm : ∀ i ∈ ls, i ∉ mu' := by decide) : LS sh (mu ++ mu') fr (sFor mi g body) (qFor qi gq bq) := fun Y env S e fps E => by
  have h := hi Y env S e fps E
  unfold sFor qFor
  cases hq : qi e with
  | fail => trivial
  | exc x e1 => rw [hq] at h; obtain ⟨x', S1, h1, st, r⟩ := h; rw [h1]; exact ⟨x', env, S1, fps, rfl, st.toS.muUp fun i hi => List.mem_append_left _ hi, r.weaken fun n hn => List.mem_append_left _ hn⟩
  | ret ds e1 =>
    rw [hq] at h; obtain ⟨src, S1, h1, st, L, vs, k1, k2, k3, k4⟩ := h; rw [h1]
    dsimp only
    by_cases hl : ds.length ≤ lim
    · rw [if_pos hl]
      refine SPost.behind st.toS (forQ_ok (L := L) (S0 := S1) (fps0 := fps) hg hb k2 (fun n hn z => ?_) k3 ds fuel 0 env S1 e1 fps (Nat.lt_of_le_of_lt hl (by decide)) (by rw [Nat.zero_add]; exact k4.length.symm) st.er.back (fun _ _ => rfl) (Nat.le_refl _) (fun _ _ h => .inl h) (by rw [List.drop_zero]; exact k4))
      obtain ⟨j, hj, hx⟩ := mem_sel.mp z
      rcases k1 n hn with y | ⟨i, hi, y⟩
      · exact y (List.mem_append_right _ (fp_in hx))
      · have := fp_disj E.nd y hx
        subst this; exact hm i hi hj
    · rw [if_neg hl]; trivial
def whileQ (t : QB) (body : QT) : Nat → DE → QS
  | 0, _ => .fail
  | f + 1, e => match t e with
    | .ret true e1 => (match body e1 with
      | .nx e2 => whileQ t body f e2
      | .ct e2 => whileQ t body f e2
      | .bk e2 => .nx e2
      | w => w)
    | .ret false e1 => .nx e1
    | .exc x e1 => .exc x e1
    | .fail => .fail
def qWhile (t : QB) (body : QT) : QT := whileQ t body fuel
theorem whileQ_ok {body : MS} {bq : QT} (ht : LB sh mu t b) (hb : LS sh mu' fr body bq) : ∀ (f : Nat) (env : Env') (S : Ms) (e : DE) (fps : List (List Nat)), EnvR Y sh env S e fps → SPost fr Y sh (mu ++ mu') env S fps (whileM t body f env S) (whileQ b bq f e)
  | 0, env, S, e, fps, E => trivial
  | f + 1, env, S, e, fps, E => by
    have h := ht Y env S e fps E
    unfold whileM whileQ
    cases hb' : b e with
    | fail => trivial
    | exc x e1 => rw [hb'] at h; obtain ⟨x', S1, h1, st, r⟩ := h; rw [h1]; exact ⟨x', env, S1, fps, rfl, st.toS.muUp fun i hi => List.mem_append_left _ hi, r.weaken fun n hn => List.mem_append_left _ hn⟩
    | ret z e1 =>
      rw [hb'] at h; obtain ⟨v, S1, h1, st, r⟩ := h
      have r : v = z := r
      subst r
      rw [h1]
      cases v with
      | false => exact ⟨_, _, _, rfl, st.toS.muUp fun i hi => List.mem_append_left _ hi⟩
      | true =>
        dsimp only
        have h := hb Y env S1 e1 fps st.er.back
        have go : ∀ {env2 : Env'} {S2 : Ms} {e2 : DE} {fps2 : List (List Nat)}, StpS Y sh mu' env S1 fps env2 S2 e2 fps2 → SPost fr Y sh (mu ++ mu') env S fps (whileM t body f env2 S2) (whileQ b bq f e2) := fun {env2 S2 e2 fps2} s2 =>
          ((whileQ_ok ht hb f env2 S2 e2 fps2 s2.er).behind (st.toS.trans s2)).muUp fun i hi => (List.mem_append.mp hi).elim id id
        cases hw : bq e1 with
        | nx e2 => rw [hw] at h; obtain ⟨env2, S2, fps2, h1, s2⟩ := h; rw [h1]; exact go s2
        | ct e2 => rw [hw] at h; obtain ⟨env2, S2, fps2, h1, s2⟩ := h; rw [h1]; exact go s2
        | bk e2 => rw [hw] at h; obtain ⟨env2, S2, fps2, h1, s2⟩ := h; rw [h1]; exact ⟨_, _, _, rfl, st.toS.trans s2⟩
        | rt d2 e2 => rw [hw] at h; obtain ⟨v2, env2, S2, fps2, h1, s2, rr⟩ := h; rw [h1]; exact ⟨_, _, _, _, rfl, st.toS.trans s2, rr.from st.fr.1⟩
        | exc x e2 => rw [hw] at h; obtain ⟨v2, env2, S2, fps2, h1, s2, rr⟩ := h; rw [h1]; exact ⟨_, _, _, _, rfl, st.toS.trans s2, rr⟩
        | fail => trivial
theorem ls_while {body : MS} {bq : QT} (ht : LB sh mu t b) (hb : LS sh mu' fr body bq) : LS sh (mu ++ mu') fr (sWhile t body) (qWhile b bq) := fun Y env S e fps E => whileQ_ok ht hb fuel env S e fps E
end
end MP

set_option maxRecDepth 100000
namespace MP
open PySem PySem.Spec PyProof.Rows L2
section
variable {Y Z X X' : List Nat} {sh : List Sh} {mu mu' mu2 : List Nat} {env env' env1 env2 : Env'} {S S' S1 S2 : Ms} {e e' e1 e2 : DE} {fps fps' fps1 fps2 : List (List Nat)} {m n c : ME} {p q r : QE} {t u : MB} {b b' : QB} {ml mk : ML} {ql qk : QL} {v : PV} {d : D} {k : Kd} {fr : Bool} {sm sn : MS} {sp sq : QT} {vs : List PV} {ds : List D} {sl sl' ws : List Nat}
/-! ### comprehensions -/
def wipeD (e : DE) : List Nat → DE
  | [] => e
  | v :: vs => (wipeD e vs).set v none
theorem EnvR.unset {i : Nat} (E : EnvR Y sh env S e fps) (hi : sh.getD i .val = .val) : EnvR Y sh (env.set i none) S (e.set i none) fps := by
  refine ⟨by rw [List.length_set, List.length_set]; exact E.l1, by rw [List.length_set]; exact E.l2, fun j => ?_, E.nd, E.bd, E.dj⟩
  by_cases hij : i = j
  · subst hij
    have hf : fps.getD i [] = [] := by have h := E.slot i; rw [hi] at h; exact h.nil_val
    rw [hf]
    have : (e.set i none).getD i none = none := by
      by_cases hl : i < e.length
      · exact getD_set_eq hl
      · rw [List.getD_eq_getElem?_getD, List.getElem?_eq_none (by rw [List.length_set]; omega)]; rfl
    rw [this]; exact .empty
  · rw [getD_set_ne hij, getD_set_ne hij]; exact E.slot j
theorem EnvR.wipe : ∀ {ws : List Nat}, (∀ i ∈ ws, sh.getD i .val = .val) → EnvR Y sh env S e fps → EnvR Y sh (wipeE env ws) S (wipeD e ws) fps
  | [], _, E => E
  | w :: ws, h, E => (EnvR.wipe (fun i hi => h i (List.mem_cons_of_mem _ hi)) E).unset (h w (by simp))
def lcQ0 (g : QG) (t : QB) (m : QE) (e0 : DE) : List D → Option (List D)
  | [] => some []
  | d :: ds => match g d e0 with
    | none => none
    | some e1 => (match t e1 with
      | .ret false _ => lcQ0 g t m e0 ds
      | .ret true e2 => (match m e2 with
        | .ret x _ => (lcQ0 g t m e0 ds).map (x :: ·)
        | _ => none)
      | _ => none)
def qLc0 (qi : QI) (g : QG) (t : QB) (m : QE) (ws : List Nat) : QE := fun e => match qi e with
  | .ret ds e1 => if ds.length ≤ lim then (match lcQ0 g t m (wipeD e1 ws) ds with | some xs => .ret (.lst xs) e1 | none => .fail) else .fail
  | .exc x e1 => .exc x e1
  | .fail => .fail
theorem fr_setl {S1 S : Ms} {l : Nat} {o : Ob} (f : Fr [] S1 S) (hl : S1.length ≤ l) : Fr [] S1 (S.set l o) := ⟨by rw [List.length_set]; exact f.1, fun n hn _ => by rw [List.getElem?_set_ne (by omega)]; exact f.2 n hn (by simp)⟩
theorem lcQ0_ok {src : Src} {g : MG} {gq : QG} {tt : MB} {tq : QB} {mm : ME} {mq : QE} {L : List Nat} {vs : List PV} {S1 : Ms} {l : Nat} (hk : k = .new ∨ k = .val) (hg : LG sh g gq sl) (ht : LB sh [] tt tq) (hm : LE sh [] k mm mq) (hL : ∀ n ∈ L, n < S1.length) (hl : l = S1.length) (hv : vs.length ≤ lim)
    (hn : ∀ S'' : Ms, (∀ n ∈ L, S''[n]? = S1[n]?) → ∀ i, nxt S'' i src = nxO vs[i]?) (hws : ∀ i ∈ ws, sh.getD i .val = .val) (E : EnvR Y sh env S1 e fps) : ∀ (ds : List D) (xs : List D) (f i : Nat) (S : Ms) (acc : List PV) (dacc : List D), ds.length < f → i + ds.length = vs.length → acc.length ≤ i → Fr [] S1 S → S[l]? = some (.lst acc) →
      Rps S ((Y ++ [l]) ++ fps.flatten) acc dacc → Rps S ((Y ++ [l]) ++ fps.flatten) (vs.drop i) ds → lcQ0 gq tq mq (wipeD e ws) ds = some xs → ∃ S' acc', lcM src g tt mm ws l env f i S = .ret (.loc l) S' ∧ Fr [] S1 S' ∧ S'[l]? = some (.lst acc') ∧ Rps S' ((Y ++ [l]) ++ fps.flatten) acc' (dacc ++ xs)
  | ds, xs, 0, i, S, acc, dacc, hf, _, _, _, _, _, _, _ => absurd hf (by omega)
  | [], xs, f + 1, i, S, acc, dacc, hf, hi, ha, hF, hSl, hr, hd, hq => by
    cases hq
    unfold lcM
    rw [hn S (fun n hn => hF.2 n (hL n hn) (by simp)) i, List.getElem?_eq_none (by rw [← hi]; exact Nat.le_refl _)]
    rw [List.append_nil]
    exact ⟨S, acc, rfl, hF, hSl, hr⟩
  | d :: ds, xs, f + 1, i, S, acc, dacc, hf, hi, ha, hF, hSl, hr, hd, hq => by
    have hil : i < vs.length := by rw [List.length_cons] at hi; omega
    rw [List.drop_eq_getElem_cons hil] at hd
    cases hd with
    | cons rv rt =>
      unfold lcM
      rw [hn S (fun n hn => hF.2 n (hL n hn) (by simp)) i, List.getElem?_eq_getElem hil]
      dsimp only [nxO]
      unfold lcQ0 at hq
      have hlS : l < S.length := lt_of_get hSl
      have E0 : EnvR (Y ++ [l]) sh env S e fps := (E.quiet hF).sub fun y hy => by
        rcases List.mem_append.mp hy with z | z
        · exact List.mem_append_left _ z
        · rw [List.mem_singleton] at z; subst z; exact List.mem_append_right _ (mem_newL.mpr ⟨by omega, hlS⟩)
      cases hg1 : gq d (wipeD e ws) with
      | none => rw [hg1] at hq; cases hq
      | some e1 =>
        rw [hg1] at hq
        dsimp only at hq
        obtain ⟨env1, a1, a2, _, _⟩ := hg _ _ S _ fps _ d e1 (E0.wipe hws) rv hg1
        rw [a1]
        dsimp only
        have h := ht _ env1 S e1 fps a2
        cases ht1 : tq e1 with
        | fail => rw [ht1] at hq; cases hq
        | exc x e2 => rw [ht1] at hq; cases hq
        | ret bb e2 =>
          rw [ht1] at h hq
          obtain ⟨v2, S2, h1, st, r⟩ := h
          have r : v2 = bb := r
          subst r
          rw [h1]
          have f2 : Fr [] S S2 := st.fr.mono (by simp [sel])
          have keep : ∀ {S3 : Ms} {vs : List PV} {ds : List D}, Fr [] S S3 → Rps S ((Y ++ [l]) ++ fps.flatten) vs ds → Rps S3 ((Y ++ [l]) ++ fps.flatten) vs ds := fun f h => h.fr f (fun _ h => nomatch h) fun n hn => .inl hn
          cases v2 with
          | false =>
            dsimp only at hq ⊢
            exact lcQ0_ok hk hg ht hm hL hl hv hn hws E ds xs f (i + 1) S2 acc dacc (by rw [List.length_cons] at hf; omega) (by rw [List.length_cons] at hi; omega) (by omega) (hF.trans f2) (by rw [f2.2 l hlS (by simp)]; exact hSl) (keep f2 hr) (keep f2 rt) hq
          | true =>
            dsimp only at hq ⊢
            have h := hm _ env1 S2 e2 fps st.er
            cases hm1 : mq e2 with
            | fail => rw [hm1] at hq; cases hq
            | exc x e3 => rw [hm1] at hq; cases hq
            | ret y e3 =>
              rw [hm1] at h hq
              obtain ⟨yv, S3, h1, st3, r3⟩ := h
              rw [h1]
              dsimp only at hq ⊢
              rw [Option.map_eq_some_iff] at hq
              obtain ⟨xs', hq, rfl⟩ := hq
              have f3 : Fr [] S S3 := f2.trans (st3.fr.mono (by simp [sel]))
              have hl3 : S3[l]? = some (.lst acc) := by rw [f3.2 l hlS (by simp)]; exact hSl
              rw [hl3]
              dsimp only
              rw [if_pos (by omega)]
              have inX : l ∈ (Y ++ [l]) ++ fps.flatten := List.mem_append_left _ (List.mem_append_right _ (by simp))
              have ry : Rp S3 ((Y ++ [l]) ++ fps.flatten) yv y := (r3.up hk).sub fun n hn => .inl (in_more n hn)
              have up : ∀ {vs : List PV} {ds : List D}, Rps S3 ((Y ++ [l]) ++ fps.flatten) vs ds → Rps (S3.set l (.lst (acc ++ [yv]))) ((Y ++ [l]) ++ fps.flatten) vs ds := fun h => h.mono (mono_set inX)
              obtain ⟨S', acc', q1, q2, q3, q4⟩ := lcQ0_ok hk hg ht hm hL hl hv hn hws E ds xs' f (i + 1) (S3.set l (.lst (acc ++ [yv]))) (acc ++ [yv]) (dacc ++ [y]) (by rw [List.length_cons] at hf; omega) (by rw [List.length_cons] at hi; omega) (by rw [List.length_append]; simp; omega) (fr_setl (hF.trans f3) (by omega)) (List.getElem?_set_self (lt_of_get hl3)) (up ((keep f3 hr).snoc ry)) (up (keep f3 rt)) hq
              exact ⟨S', acc', q1, q2, q3, by rw [List.append_assoc dacc] at q4; exact q4⟩
theorem le_lc0 {ls : List Nat} {mi : MI} {qi : QI} {g : MG} {gq : QG} {tt : MB} {tq : QB} {mm : ME} {mq : QE} (hi : LI sh mu ls mi qi) (hg : LG sh g gq sl) (ht : LB sh mu' tt tq) (hm : LE sh mu2 k mm mq) (hk : k = .new ∨ k = .val := by first | exact Or.inl rfl | exact Or.inr rfl) (hws : ∀ i ∈ ws, sh.getD i .val = .val := by decide) (hm1 : mu' = [] := by rfl) (hm2 : mu2 = [] := by rfl) :
    LE sh mu .new (mLc mi g tt mm ws) (qLc0 qi gq tq mq ws) := fun Y env S e fps E => by
  subst hm1 hm2
  have h := hi Y env S e fps E
  unfold mLc qLc0
  cases hq : qi e with
  | fail => trivial
  | exc x e1 => rw [hq] at h; obtain ⟨x', S1, h1, st, r⟩ := h; rw [h1]; exact ⟨x', S1, rfl, st, r⟩
  | ret ds e1 =>
    rw [hq] at h; obtain ⟨src, S1, h1, st, L, vs, k1, k2, k3, k4⟩ := h; rw [h1]
    dsimp only
    by_cases hl : ds.length ≤ lim
    · rw [if_pos hl]
      cases hx : lcQ0 gq tq mq (wipeD e1 ws) ds with
      | none => trivial
      | some xs =>
        have f0 : Fr [] S1 (S1 ++ [Ob.lst []]) := .app _ _ _
        obtain ⟨S', acc', q1, q2, q3, q4⟩ := lcQ0_ok (Y := Y) (S1 := S1) (l := S1.length) (L := L) hk hg ht hm k2 rfl (by rw [k4.length]; exact hl) k3 hws st.er.back ds xs fuel 0 (S1 ++ [.lst []]) [] [] (Nat.lt_of_le_of_lt hl (by decide)) (by rw [Nat.zero_add]; exact k4.length.symm) (Nat.le_refl _) f0 (get_new _ _) .nil
          (by rw [List.drop_zero]; exact k4.fr f0 (fun _ h => nomatch h) fun n hn => by
                rcases List.mem_append.mp hn with z | z
                · rcases List.mem_append.mp z with z | z
                  · exact .inl (List.mem_append_left _ z)
                  · rw [List.mem_singleton] at z; exact .inr (by omega)
                · exact .inl (List.mem_append_right _ z)) hx
        rw [q1]
        rw [List.nil_append] at q4
        have stq := st.trans (Stp.quiet (mu := []) st.er q2)
        rw [List.append_nil] at stq
        have cc : ∀ X', (∀ n ∈ X', n ∈ (Y ++ [S1.length]) ++ fps.flatten) → Cont S' X' (.lst acc') (.lst xs) := fun X' h => .lst (q4.sub fun n hn => .inl (h n hn))
        refine ⟨.loc S1.length, S', rfl, stq, .loc (fun z => by have := E.xlt _ z; have := st.fr.1; omega) q3 (cc _ fun n hn => ?_), fun n en => ?_⟩
        · rcases List.mem_append.mp hn with z | z
          · exact List.mem_append_left _ (List.mem_append_left _ z)
          · exact List.mem_append_right _ z
        · cases en
          refine ⟨st.fr.1, _, q3, cc _ fun n hn => ?_⟩
          rcases List.mem_cons.mp hn with z | z
          · exact List.mem_append_left _ (List.mem_append_right _ (by simp [z]))
          · rcases List.mem_append.mp z with z | z
            · exact List.mem_append_left _ (List.mem_append_left _ z)
            · exact List.mem_append_right _ z
    · rw [if_neg hl]; trivial
/-! ### functions -/
theorem fl_never {np : Nat} : FL np fr (fun _ _ => .fail) (fun _ => .fail) := fun _ _ _ _ _ _ _ _ _ _ _ _ _ => trivial
def qFn (nl : Nat) (body : QT) : List D → FO := fun ds => match body (ds.map some ++ List.replicate nl none) with
  | .nx _ => .ret .non .non
  | .rt d _ => .ret d .non
  | .exc x _ => .exc x .non
  | _ => .fail
theorem rep_getD {α : Type} {n i : Nat} {a : α} : (List.replicate n a).getD i a = a := by
  rw [List.getD_eq_getElem?_getD, List.getElem?_replicate]; split <;> rfl
theorem nils_flat {n : Nat} : (List.replicate n ([] : List Nat)).flatten = [] := by induction n with | zero => rfl | succ n ih => simp [List.replicate_succ]
theorem sel_nils {n : Nat} : sel mu (List.replicate n ([] : List Nat)) = [] := by
  unfold sel
  induction mu with
  | nil => rfl
  | cons a l ih => rw [List.map_cons, rep_getD, List.flatten_cons, ih]; rfl
theorem start_slot {args : List PV} {ds : List D} {nl : Nat} (r : Rps S X args ds) : ∀ i, (∀ j, j < args.length → sh.getD j .val = .val) → SlotR S X (sh.getD i .val) ((args.map some ++ List.replicate nl none).getD i none) ((ds.map some ++ List.replicate nl none).getD i none) [] := fun i hs => by
  by_cases hi : i < args.length
  · have hi2 : i < ds.length := by rw [← r.length]; exact hi
    rw [hs i hi, List.getD_eq_getElem?_getD, List.getD_eq_getElem?_getD, List.getElem?_append_left (by simpa using hi), List.getElem?_append_left (by simpa using hi2), List.getElem?_map, List.getElem?_map]
    obtain ⟨v, h1, h2⟩ := r.get (List.getElem?_eq_getElem hi2)
    rw [h1, List.getElem?_eq_getElem hi2]
    exact .val h2
  · have hi2 : ¬ i < ds.length := by rw [← r.length]; exact hi
    have : (ds.map some ++ List.replicate nl none).getD i none = none := by
      rw [List.getD_eq_getElem?_getD, List.getElem?_append_right (by simpa using hi2), List.getElem?_replicate]; split <;> rfl
    rw [this]; exact .empty
theorem fq_fn {np nl : Nat} {body : MS} {bq : QT} (hb : LS sh mu fr body bq) (hs : ∀ j, j < np → sh.getD j .val = .val := by decide) : FQ np fr (mFn nl body) (qFn nl bq) := fun S X args ds hl hX r => by
  have hle : ds.length = args.length := r.length.symm
  have E : EnvR X sh (args.map some ++ List.replicate nl none) S (ds.map some ++ List.replicate nl none) (List.replicate (ds.length + nl) []) := by
    refine ⟨by simp [hle], by simp, fun i => ?_, by rw [nils_flat]; exact List.nodup_nil, hX, fun i _ x hx => by rw [rep_getD] at hx; cases hx⟩
    rw [nils_flat, List.append_nil, rep_getD]
    exact start_slot r i fun j hj => hs j (by rw [← hl]; exact hj)
  have h := hb X _ S _ _ E
  unfold mFn qFn
  have fr0 : ∀ {env' S' e' fps'}, StpS X sh mu (args.map some ++ List.replicate nl none) S (List.replicate (ds.length + nl) []) env' S' e' fps' → Fr [] S S' := fun st => st.fr.mono (by rw [sel_nils]; simp)
  cases hq : bq (ds.map some ++ List.replicate nl none) with
  | nx e1 => rw [hq] at h; obtain ⟨env1, S1, fps1, h1, st⟩ := h; rw [h1]; exact ⟨_, S1, rfl, fr0 st, .non, fun _ n e => nomatch e⟩
  | rt d e1 =>
    rw [hq] at h; obtain ⟨v, env1, S1, fps1, h1, st, r1, r2⟩ := h; rw [h1]
    refine ⟨v, S1, rfl, fr0 st, r1, fun hf n e => ?_⟩
    obtain ⟨a, o, bb, cc⟩ := r2 hf n e
    refine ⟨?_, o, bb, cc⟩
    rcases a with a | ⟨i, _, hx⟩
    · exact a
    · rcases st.pv i n hx with z | z
      · rw [rep_getD] at z; cases z
      · exact z
  | exc x e1 => rw [hq] at h; obtain ⟨x', env1, S1, fps1, h1, st, r1⟩ := h; rw [h1]; exact ⟨x', S1, rfl, fr0 st, r1⟩
  | bk e1 => trivial
  | ct e1 => trivial
  | fail => trivial
def lentD (e : DE) : Option D := match e.getD 0 none with | some b => if nlc b = true then some b else none | none => none
def qFnB (nl : Nat) (body : QT) : List D → FO := fun ds => match body (ds.map some ++ List.replicate nl none) with
  | .nx e => (match lentD e with | some b => .ret .non b | none => .fail)
  | .rt d e => (match lentD e with | some b => .ret d b | none => .fail)
  | .exc x e => (match lentD e with | some b => .exc x b | none => .fail)
  | _ => .fail
theorem fl_fn {np nl : Nat} {body : MS} {bq : QT} (hb : LS sh mu fr body bq) (hs0 : sh.getD 0 .val = .io := by rfl) (hs : ∀ j, j < np → j = 0 ∨ sh.getD j .val = .val := by decide) : FL np fr (mFn nl body) (qFnB nl bq) := fun S X n0 o0 d0 args ds hl hX hnX hS hc r => by
  have hle : ds.length = args.length := r.length.symm
  have ff : ([n0] :: List.replicate (ds.length + nl) ([] : List Nat)).flatten = [n0] := by rw [List.flatten_cons, nils_flat]; rfl
  have E : EnvR X sh ((PV.loc n0 :: args).map some ++ List.replicate nl none) S ((d0 :: ds).map some ++ List.replicate nl none) ([n0] :: List.replicate (ds.length + nl) []) := by
    refine ⟨by simp [hle], by simp, fun i => ?_, by rw [ff]; simp, hX, fun i hi x hx => ?_⟩
    · rw [ff]
      have sub : ∀ n ∈ X ++ [n0], n ∈ X ∨ S.length ≤ n := fun n hn => by
        rcases List.mem_append.mp hn with z | z
        · exact .inl z
        · rw [List.mem_singleton] at z; subst z; exact .inl hnX
      cases i with
      | zero => rw [hs0]; exact .root (by decide) hS (hc.sub sub)
      | succ i =>
        have e1 : ([n0] :: List.replicate (ds.length + nl) ([] : List Nat)).getD (i + 1) [] = [] := by show (List.replicate (ds.length + nl) ([] : List Nat)).getD i [] = []; exact rep_getD
        rw [e1]
        have h := start_slot (nl := nl) (sh := sh.tail) (r.sub sub) i fun j hj => by
          have := (hs (j + 1) (by rw [← hl]; omega)).resolve_left (by omega)
          cases sh with
          | nil => rfl
          | cons a l => exact this
        have e2 : sh.getD (i + 1) .val = sh.tail.getD i .val := by cases sh <;> rfl
        rw [e2]; exact h
    · cases i with
      | zero => exact absurd hs0 hi
      | succ i => have : x ∈ (List.replicate (ds.length + nl) ([] : List Nat)).getD i [] := hx; rw [rep_getD] at this; cases this
  have h := hb X _ S _ _ E
  unfold mFn qFnB
  have fr0 : ∀ {env' S' e' fps'}, StpS X sh mu ((PV.loc n0 :: args).map some ++ List.replicate nl none) S ([n0] :: List.replicate (ds.length + nl) []) env' S' e' fps' → Fr [n0] S S' := fun st => st.fr.mono fun n hn => by
    have := sel_in hn; rw [ff] at this; exact this
  have end_ : ∀ {env' S' e' fps' b}, StpS X sh mu ((PV.loc n0 :: args).map some ++ List.replicate nl none) S ([n0] :: List.replicate (ds.length + nl) []) env' S' e' fps' → lentD e' = some b → ∃ o', S'[n0]? = some o' ∧ (∃ X0, Cont S' X0 o' b) ∧ nlc b = true := fun {env' S' e' fps' b} st hb => by
    unfold lentD at hb
    split at hb
    · rename_i b' eb
      split at hb
      · cases hb
        rename_i hn
        have he := st.io 0 hs0
        have h := st.er.slot 0
        rw [eb, he, hs0] at h
        have e0 : ((PV.loc n0 :: args).map some ++ List.replicate nl none).getD 0 none = some (.loc n0) := rfl
        rw [e0] at h
        generalize fps'.getD 0 [] = f at h
        cases h with
        | root _ a c => exact ⟨_, a, ⟨_, c⟩, hn⟩
      · cases hb
    · cases hb
  cases hq : bq ((d0 :: ds).map some ++ List.replicate nl none) with
  | nx e1 =>
    rw [hq] at h; obtain ⟨env1, S1, fps1, h1, st⟩ := h; rw [h1]
    dsimp only
    cases hb' : lentD e1 with
    | none => trivial
    | some b => obtain ⟨o', z1, z2, z3⟩ := end_ st hb'; exact ⟨_, S1, o', rfl, fr0 st, z1, z2, z3, .non, fun _ n e => nomatch e⟩
  | rt d e1 =>
    rw [hq] at h; obtain ⟨v, env1, S1, fps1, h1, st, r1, r2⟩ := h; rw [h1]
    dsimp only
    cases hb' : lentD e1 with
    | none => trivial
    | some b =>
      obtain ⟨o', z1, z2, z3⟩ := end_ st hb'
      refine ⟨v, S1, o', rfl, fr0 st, z1, z2, z3, r1, fun hf n e => ?_⟩
      obtain ⟨a, o, bb, cc⟩ := r2 hf n e
      refine ⟨?_, o, bb, cc⟩
      rcases a with a | ⟨i, hi, hx⟩
      · exact a
      · rcases st.pv i n hx with z | z
        · cases i with
          | zero => exact absurd hs0 hi
          | succ i => have : n ∈ (List.replicate (ds.length + nl) ([] : List Nat)).getD i [] := z; rw [rep_getD] at this; cases this
        · exact z
  | exc x e1 =>
    rw [hq] at h; obtain ⟨x', env1, S1, fps1, h1, st, r1⟩ := h; rw [h1]
    dsimp only
    cases hb' : lentD e1 with
    | none => trivial
    | some b => obtain ⟨o', z1, z2, z3⟩ := end_ st hb'; exact ⟨x', S1, o', rfl, fr0 st, z1, z2, z3, r1⟩
  | bk e1 => trivial
  | ct e1 => trivial
  | fail => trivial
end
end MP

set_option maxRecDepth 100000
namespace MP
open PySem PySem.Spec PyProof.Rows L2
section
variable {Y Z X X' : List Nat} {sh : List Sh} {mu mu' mu2 : List Nat} {env env' env1 env2 : Env'} {S S' S1 S2 : Ms} {e e' e1 e2 : DE} {fps fps' fps1 fps2 : List (List Nat)} {m n c : ME} {p q r : QE} {t u : MB} {b b' : QB} {ml mk : ML} {ql qk : QL} {v : PV} {d : D} {k : Kd} {fr : Bool} {sm sn : MS} {sp sq : QT} {vs : List PV} {ds : List D} {sl sl' ws : List Nat}
/-! ### comprehensions that write lent things (draws) -/
def restE (e e0 : DE) : List Nat → DE
  | [] => e
  | v :: vs => (restE e e0 vs).set v (e0.getD v none)
def lcQ (g : QG) (t : QB) (m : QE) (ws : List Nat) : List D → DE → LO (List D)
  | [], e => .ret [] e
  | d :: ds, e => match g d (wipeD e ws) with
    | none => .fail
    | some e1 => (match t e1 with
      | .ret false e2 => lcQ g t m ws ds e2
      | .ret true e2 => (match m e2 with
        | .ret x e3 => (match lcQ g t m ws ds e3 with | .ret xs e4 => .ret (x :: xs) e4 | _ => .fail)
        | _ => .fail)
      | _ => .fail)
def qLc (qi : QI) (g : QG) (t : QB) (m : QE) (ws : List Nat) : QE := fun e => match qi e with
  | .ret ds e1 => if ds.length ≤ lim ∧ noLsts ds = true then (match lcQ g t m ws ds e1 with | .ret xs e2 => .ret (.lst xs) (restE e2 e1 ws) | _ => .fail) else .fail
  | .exc x e1 => .exc x e1
  | .fail => .fail
end
end MP

set_option maxRecDepth 100000
namespace MP
open PySem PySem.Spec PyProof.Rows L2
def tsD : List D → Option (List (List Int))
  | [] => some []
  | .tup xs :: r => match intsD xs, tsD r with | some k, some ks => some (k :: ks) | _, _ => none
  | _ => none
abbrev tupD (k : List Int) : D := .tup (k.map D.int)
def sortSet (xs : List D) : Option (List D) := match intsD xs with
  | some ns => if ns.length < 60 then some ((sortI (dd ns)).map D.int) else none
  | none => (match tsD xs with
    | some ks => if ks.length < 60 ∧ ∀ k ∈ ks, k ≠ [] then some ((sortL (dd ks)).map tupD) else none
    | none => none)
section
variable {Y X X' : List Nat} {sh : List Sh} {mu mu' mu2 : List Nat} {env env' env1 env2 : Env'} {S S' S1 S2 : Ms} {e e' e1 e2 : DE} {fps fps' : List (List Nat)} {m n c : ME} {v : PV} {d : D} {k : Kd} {vs : List PV} {ds : List D} {sl sl' ws : List Nat}
theorem ts_rp : ∀ {vs : List PV} {ds : List D} {ks : List (List Int)}, Rps S X vs ds → tsD ds = some ks → tsP vs = some ks
  | _, _, _, .nil, h => h
  | _, _, _, .cons (d := d) r t, h => by
    cases d with
    | tup xs =>
      obtain ⟨ys, rfl, r2⟩ := r.inv_tup
      simp only [tsD] at h
      split at h
      · rename_i k ks' e1 e2
        cases h
        simp only [tsP, ints_rp r2 e1, ts_rp t e2]
      · cases h
    | _ => cases h
theorem ts_no {vs : List PV} {ds : List D} {ks : List (List Int)} (r : Rps S X vs ds) (h : tsD ds = some ks) (hn : intsD ds = none) : intsP vs = none := by
  cases r with
  | nil => cases hn
  | cons r t =>
    rename_i d _ _
    cases d with
    | tup xs => obtain ⟨ys, rfl, _⟩ := r.inv_tup; rfl
    | _ => cases h
theorem Rps.tups (ks : List (List Int)) : Rps S X (ks.map tupP) (ks.map tupD) := .flat (fun k => .tup (.ints k)) ks
theorem oSSl_ok (r : Rps S X vs ds) (h : sortSet ds = some ds') (S1 : Ms) : ∃ ps, oSSl vs S1 = .ret (.loc S1.length) (S1 ++ [.lst ps]) ∧ ∀ S' X', Rps S' X' ps ds' := by
  unfold sortSet at h
  cases e : intsD ds with
  | some ns =>
    rw [e] at h
    dsimp only at h
    split at h
    · rename_i few
      cases h
      exact ⟨_, by unfold oSSl; rw [ints_rp r e]; dsimp only; rw [if_pos few], fun _ _ => .ints _⟩
    · cases h
  | none =>
    rw [e] at h
    dsimp only at h
    cases e2 : tsD ds with
    | none => rw [e2] at h; cases h
    | some ks =>
      rw [e2] at h
      dsimp only at h
      split at h
      · rename_i few
        cases h
        exact ⟨_, by unfold oSSl; rw [ts_no r e2 e]; dsimp only; rw [ts_rp r e2]; dsimp only; rw [if_pos few], fun _ _ => .tups _⟩
      · cases h
/-- sorted({e for x in it if ..}) -/
def qSSc (qi : QI) (g : QG) (t : QB) (m : QE) (ws : List Nat) : QE := fun e => match qi e with
  | .ret ds e1 => if ds.length ≤ lim then (match (lcQ0 g t m (wipeD e1 ws) ds).bind sortSet with | some xs => .ret (.lst xs) e1 | none => .fail) else .fail
  | .exc x e1 => .exc x e1
  | .fail => .fail
theorem scQ_ok {src : Src} {g : MG} {gq : QG} {tt : MB} {tq : QB} {mm : ME} {mq : QE} {L : List Nat} {vs : List PV} {S1 : Ms} {l : Nat} {u : Nat → HO} (hk : k = .new ∨ k = .val) (hg : LG sh g gq sl) (ht : LB sh [] tt tq) (hm : LE sh [] k mm mq) (hL : ∀ n ∈ L, n < S1.length) (hl : l = S1.length)
    (hn : ∀ S'' : Ms, (∀ n ∈ L, S''[n]? = S1[n]?) → ∀ i, nxt S'' i src = nxO vs[i]?) (hws : ∀ i ∈ ws, sh.getD i .val = .val) (E : EnvR Y sh env S1 e fps) : ∀ (ds : List D) (xs : List D) (f i : Nat) (S : Ms) (acc : List PV) (dacc : List D), ds.length < f → i + ds.length = vs.length → Fr [] S1 S → S[l]? = some (.xo (u acc.length)) →
      Rps S ((Y ++ [l]) ++ fps.flatten) acc dacc → Rps S ((Y ++ [l]) ++ fps.flatten) (vs.drop i) ds → lcQ0 gq tq mq (wipeD e ws) ds = some xs → ∃ S' acc', scM u src g tt mm ws l env f i acc S = .ret acc' S' ∧ Fr [] S1 S' ∧ Rps S' ((Y ++ [l]) ++ fps.flatten) acc' (dacc ++ xs)
  | ds, xs, 0, i, S, acc, dacc, hf, _, _, _, _, _, _ => absurd hf (by omega)
  | [], xs, f + 1, i, S, acc, dacc, hf, hi, hF, hSl, hr, hd, hq => by
    cases hq
    unfold scM
    rw [hn S (fun n hn => hF.2 n (hL n hn) (by simp)) i, List.getElem?_eq_none (by rw [← hi]; exact Nat.le_refl _)]
    rw [List.append_nil]
    exact ⟨S, acc, rfl, hF, hr⟩
  | d :: ds, xs, f + 1, i, S, acc, dacc, hf, hi, hF, hSl, hr, hd, hq => by
    have hil : i < vs.length := by rw [List.length_cons] at hi; omega
    rw [List.drop_eq_getElem_cons hil] at hd
    cases hd with
    | cons rv rt =>
      unfold scM
      rw [hn S (fun n hn => hF.2 n (hL n hn) (by simp)) i, List.getElem?_eq_getElem hil]
      dsimp only [nxO]
      unfold lcQ0 at hq
      have hlS : l < S.length := lt_of_get hSl
      have E0 : EnvR (Y ++ [l]) sh env S e fps := (E.quiet hF).sub fun y hy => by
        rcases List.mem_append.mp hy with z | z
        · exact List.mem_append_left _ z
        · rw [List.mem_singleton] at z; subst z; exact List.mem_append_right _ (mem_newL.mpr ⟨by omega, hlS⟩)
      cases hg1 : gq d (wipeD e ws) with
      | none => rw [hg1] at hq; cases hq
      | some e1 =>
        rw [hg1] at hq
        dsimp only at hq
        obtain ⟨env1, a1, a2, _, _⟩ := hg _ _ S _ fps _ d e1 (E0.wipe hws) rv hg1
        rw [a1]
        dsimp only
        have h := ht _ env1 S e1 fps a2
        cases ht1 : tq e1 with
        | fail => rw [ht1] at hq; cases hq
        | exc x e2 => rw [ht1] at hq; cases hq
        | ret bb e2 =>
          rw [ht1] at h hq
          obtain ⟨v2, S2, h1, st, r⟩ := h
          have r : v2 = bb := r
          subst r
          rw [h1]
          have f2 : Fr [] S S2 := st.fr.mono (by simp [sel])
          have keep : ∀ {S3 : Ms} {vs : List PV} {ds : List D}, Fr [] S S3 → Rps S ((Y ++ [l]) ++ fps.flatten) vs ds → Rps S3 ((Y ++ [l]) ++ fps.flatten) vs ds := fun f h => h.fr f (fun _ h => nomatch h) fun n hn => .inl hn
          cases v2 with
          | false =>
            dsimp only at hq ⊢
            have hl2 : S2[l]? = some (.xo (u acc.length)) := by rw [f2.2 l hlS (by simp)]; exact hSl
            rw [if_pos hl2]
            exact scQ_ok hk hg ht hm hL hl hn hws E ds xs f (i + 1) S2 acc dacc (by rw [List.length_cons] at hf; omega) (by rw [List.length_cons] at hi; omega) (hF.trans f2) hl2 (keep f2 hr) (keep f2 rt) hq
          | true =>
            dsimp only at hq ⊢
            have h := hm _ env1 S2 e2 fps st.er
            cases hm1 : mq e2 with
            | fail => rw [hm1] at hq; cases hq
            | exc x e3 => rw [hm1] at hq; cases hq
            | ret y e3 =>
              rw [hm1] at h hq
              obtain ⟨yv, S3, h1, st3, r3⟩ := h
              rw [h1]
              dsimp only at hq ⊢
              rw [Option.map_eq_some_iff] at hq
              obtain ⟨xs', hq, rfl⟩ := hq
              have f3 : Fr [] S S3 := f2.trans (st3.fr.mono (by simp [sel]))
              have hl3 : S3[l]? = some (.xo (u acc.length)) := by rw [f3.2 l hlS (by simp)]; exact hSl
              rw [if_pos hl3]
              have inX : l ∈ (Y ++ [l]) ++ fps.flatten := List.mem_append_left _ (List.mem_append_right _ (by simp))
              have ry : Rp S3 ((Y ++ [l]) ++ fps.flatten) yv y := (r3.up hk).sub fun n hn => .inl (in_more n hn)
              have up : ∀ {vs : List PV} {ds : List D}, Rps S3 ((Y ++ [l]) ++ fps.flatten) vs ds → Rps (S3.set l (.xo (u (acc.length + 1)))) ((Y ++ [l]) ++ fps.flatten) vs ds := fun h => h.mono (mono_set inX)
              have hla : (acc ++ [yv]).length = acc.length + 1 := by simp
              obtain ⟨S', acc', q1, q2, q4⟩ := scQ_ok (u := u) hk hg ht hm hL hl hn hws E ds xs' f (i + 1) (S3.set l (.xo (u (acc.length + 1)))) (acc ++ [yv]) (dacc ++ [y]) (by rw [List.length_cons] at hf; omega) (by rw [List.length_cons] at hi; omega) (fr_setl (hF.trans f3) (by omega)) (by rw [hla]; exact List.getElem?_set_self (lt_of_get hl3)) (up ((keep f3 hr).snoc ry)) (up (keep f3 rt)) hq
              exact ⟨S', acc', q1, q2, by rw [List.append_assoc dacc] at q4; exact q4⟩
theorem inj_ints {acc acc' : List PV} {xs ds' : List D} {S S' : Ms} (h : sortSet xs = some ds') (r : Rps S X acc xs) (r' : Rps S' X' acc' xs) : acc = acc' := by
  unfold sortSet at h
  cases e : intsD xs with
  | some ns => rw [ints_ok (ints_rp r e), ints_ok (ints_rp r' e)]
  | none =>
    rw [e] at h
    dsimp only at h
    cases e2 : tsD xs with
    | none => rw [e2] at h; cases h
    | some ks => rw [ts_ok (ts_rp r e2), ts_ok (ts_rp r' e2)]
theorem le_ssc0 {ls : List Nat} {mi : MI} {qi : QI} {g : MG} {gq : QG} {tt : MB} {tq : QB} {mm : ME} {mq : QE} (hi : LI sh mu ls mi qi) (hg : LG sh g gq sl) (ht : LB sh mu' tt tq) (hm : LE sh mu2 k mm mq) (hk : k = .new ∨ k = .val := by first | exact Or.inl rfl | exact Or.inr rfl) (hws : ∀ i ∈ ws, sh.getD i .val = .val := by decide) (hm1 : mu' = [] := by rfl) (hm2 : mu2 = [] := by rfl) :
    LE sh mu .new (mSSc mi g tt mm ws) (qSSc qi gq tq mq ws) := fun Y env S e fps E => by
  subst hm1 hm2
  have h := hi Y env S e fps E
  unfold mSSc qSSc
  cases hq : qi e with
  | fail => trivial
  | exc x e1 => rw [hq] at h; obtain ⟨x', S1, h1, st, r⟩ := h; rw [h1]; exact ⟨x', S1, rfl, st, r⟩
  | ret ds e1 =>
    rw [hq] at h; obtain ⟨src, S1, h1, st, L, vs, k1, k2, k3, k4⟩ := h; rw [h1]
    dsimp only
    by_cases hl : ds.length ≤ lim
    · rw [if_pos hl]
      cases hx : lcQ0 gq tq mq (wipeD e1 ws) ds with
      | none => trivial
      | some xs =>
        simp only [Option.bind_some]
        cases hs : sortSet xs with
        | none => trivial
        | some ds' =>
          dsimp only
          have all : ∀ u : Nat → HO, ∃ S' acc', scM u src g tt mm ws S1.length env fuel 0 [] (S1 ++ [.xo (u 0)]) = .ret acc' S' ∧ Fr [] S1 S' ∧ Rps S' ((Y ++ [S1.length]) ++ fps.flatten) acc' xs := fun u => by
            have f0 : Fr [] S1 (S1 ++ [Ob.xo (u 0)]) := .app _ _ _
            exact scQ_ok (Y := Y) (S1 := S1) (l := S1.length) (L := L) (u := u) hk hg ht hm k2 rfl k3 hws st.er.back ds xs fuel 0 (S1 ++ [.xo (u 0)]) [] [] (Nat.lt_of_le_of_lt hl (by decide)) (by rw [Nat.zero_add]; exact k4.length.symm) f0 (get_new _ _) .nil
              (by rw [List.drop_zero]; exact k4.fr f0 (fun _ h => nomatch h) fun n hn => by
                    rcases List.mem_append.mp hn with z | z
                    · rcases List.mem_append.mp z with z | z
                      · exact .inl (List.mem_append_left _ z)
                      · rw [List.mem_singleton] at z; exact .inr (by omega)
                    · exact .inl (List.mem_append_right _ z)) hx
          have hex : ∃ xs : List PV, ∀ u : Nat → HO, ∃ Sx : Ms, scM u src g tt mm ws S1.length env fuel 0 [] (S1 ++ [.xo (u 0)]) = .ret xs Sx ∧ ∀ n, n < S1.length → Sx[n]? = S1[n]? := by
            obtain ⟨S0, acc0, _, _, r0⟩ := all fun _ => .lst []
            refine ⟨acc0, fun u => ?_⟩
            obtain ⟨S', acc', q1, q2, q3⟩ := all u
            rw [inj_ints hs r0 q3]
            exact ⟨S', q1, fun n hn => q2.2 n hn (by simp)⟩
          rw [dif_pos hex]
          have hsp := hex.choose_spec
          generalize hex.choose = ys at hsp
          obtain ⟨S0, acc0, q1, q2, q3⟩ := all fun _ => .lst []
          obtain ⟨Sx, p1, _⟩ := hsp fun _ => .lst []
          rw [q1] at p1
          cases p1
          obtain ⟨ps, o1, o2⟩ := oSSl_ok q3 hs S1
          rw [o1]
          have stq := st.trans (Stp.quiet (mu := []) st.er (Fr.app [] S1 [Ob.lst ps]))
          rw [List.append_nil] at stq
          refine ⟨.loc S1.length, S1 ++ [.lst ps], rfl, stq, .loc (fun z => by have := E.xlt _ z; have := st.fr.1; omega) (get_new _ _) (.lst (o2 _ _)), fun n en => ?_⟩
          cases en
          exact ⟨st.fr.1, _, get_new _ _, .lst (o2 _ _)⟩
    · rw [if_neg hl]; trivial
end
end MP

set_option maxRecDepth 100000
namespace MP
open PySem PySem.Spec PyProof.Rows L2
/-! ### what a pure run ends in -/
def Wo0 {α : Type} (o : Option α) (Q : α → Prop) : Prop := match o with | some a => Q a | none => False
def Wq0 {α : Type} (o : LO α) (Q : α → DE → Prop) : Prop := match o with | .ret a e => Q a e | _ => False
def Wf0 (o : FO) (Q : D → D → Prop) : Prop := match o with | .ret d b => Q d b | _ => False
structure Qe where
  nx : DE → Prop
  rt : D → DE → Prop
  bk : DE → Prop := fun _ => False
  ct : DE → Prop := fun _ => False
def Ws0 (o : QS) (Q : Qe) : Prop := match o with | .nx e => Q.nx e | .rt d e => Q.rt d e | .bk e => Q.bk e | .ct e => Q.ct e | _ => False
theorem Wo0.mono {α : Type} {o : Option α} {Q Q' : α → Prop} (h : Wo0 o Q) (k : ∀ a, Q a → Q' a) : Wo0 o Q' := by cases o with | none => exact h | some a => exact k a h
theorem Wq0.mono {α : Type} {o : LO α} {Q Q' : α → DE → Prop} (h : Wq0 o Q) (k : ∀ a e, Q a e → Q' a e) : Wq0 o Q' := by cases o with | ret a e => exact k a e h | exc _ _ => exact h | fail => exact h
theorem Wf0.mono {o : FO} {Q Q' : D → D → Prop} (h : Wf0 o Q) (k : ∀ a b, Q a b → Q' a b) : Wf0 o Q' := by cases o with | ret a e => exact k a e h | exc _ _ => exact h | fail => exact h
theorem Ws0.mono {o : QS} {Q Q' : Qe} (h : Ws0 o Q) (k1 : ∀ e, Q.nx e → Q'.nx e) (k2 : ∀ d e, Q.rt d e → Q'.rt d e) (k3 : ∀ e, Q.bk e → Q'.bk e) (k4 : ∀ e, Q.ct e → Q'.ct e) : Ws0 o Q' := by
  cases o with
  | nx e => exact k1 e h
  | rt d e => exact k2 d e h
  | bk e => exact k3 e h
  | ct e => exact k4 e h
  | exc _ _ => exact h
  | fail => exact h
theorem wo_some_z {α : Type} {a : α} {Q : α → Prop} : Wo0 (some a) Q = Q a := id rfl
theorem wo_none_z {α : Type} {Q : α → Prop} : Wo0 (none : Option α) Q = False := id rfl
theorem Wo0.of {α : Type} {o : Option α} {a : α} {Q : α → Prop} (h : o = some a) (q : Q a) : Wo0 o Q := by rw [h]; exact q
theorem Wf0.of {o : FO} {d b : D} {Q : D → D → Prop} (h : o = .ret d b) (q : Q d b) : Wf0 o Q := by rw [h]; exact q
theorem wq_ret_z {α : Type} {a : α} {e : DE} {Q : α → DE → Prop} : Wq0 (.ret a e) Q = Q a e := id rfl
theorem wq_bind_z {α β : Type} {o : LO α} {f : α → DE → LO β} {Q : β → DE → Prop} : Wq0 (o.bind f) Q = Wq0 o fun a e => Wq0 (f a e) Q := by cases o <;> rfl
theorem wq_opt_z {α : Type} {o : Option α} {e : DE} {Q : α → DE → Prop} : Wq0 (opt o e) Q = Wo0 o fun a => Q a e := by cases o <;> rfl
theorem wq_fail_z {α : Type} {Q : α → DE → Prop} : Wq0 (.fail : LO α) Q = False := id rfl
theorem gd0 {x : Option D} {e : DE} : List.getD (x :: e) 0 none = x := id rfl
theorem gdS {x : Option D} {e : DE} {i : Nat} : List.getD (x :: e) (i + 1) none = List.getD e i none := id rfl
theorem ls0 {x y : Option D} {e : DE} : List.set (x :: e) 0 y = y :: e := id rfl
theorem lsS {x y : Option D} {e : DE} {i : Nat} : List.set (x :: e) (i + 1) y = x :: List.set e i y := id rfl
section
variable {e : DE} {i : Nat} {a b c : QE} {t u : QB} {l lk : QL} {p q : QT} {Q : D → DE → Prop} {QB' : Bool → DE → Prop} {QL' : List D → DE → Prop} {T : Qe}
theorem w_var_z : Wq0 (qVar i e) Q = Wo0 (e.getD i none) fun d => Q d e := by unfold qVar; cases e.getD i none <;> rfl
theorem w_C_z {d : D} : Wq0 (qC d e) Q = Q d e := id rfl
theorem w_1_z {g : D → Option D} : Wq0 (q1 a g e) Q = Wq0 (a e) fun x e1 => Wo0 (g x) fun y => Q y e1 := by unfold q1; simp only [wq_bind_z, wq_opt_z]
theorem w_2_z {g : D → D → Option D} : Wq0 (q2 a b g e) Q = Wq0 (a e) fun x e1 => Wq0 (b e1) fun y e2 => Wo0 (g x y) fun z => Q z e2 := by unfold q2; simp only [wq_bind_z, wq_opt_z]
theorem w_nil_z : Wq0 (qNil e) QL' = QL' [] e := id rfl
theorem w_cons_z : Wq0 (qCons a l e) QL' = Wq0 (a e) fun x e1 => Wq0 (l e1) fun xs e2 => QL' (x :: xs) e2 := by unfold qCons; simp only [wq_bind_z, wq_ret_z]
theorem w_L_z {g : List D → Option D} : Wq0 (qL l g e) Q = Wq0 (l e) fun xs e1 => Wo0 (g xs) fun z => Q z e1 := by unfold qL; simp only [wq_bind_z, wq_opt_z]
def asBl : D → Option Bool | .bl b => some b | _ => none
theorem asBl_bl {b : Bool} : asBl (.bl b) = some b := id rfl
theorem w_B_z : Wq0 (qB a e) QB' = Wq0 (a e) fun x e1 => Wo0 (asBl x) fun b => QB' b e1 := by
  unfold qB; simp only [wq_bind_z]; congr 1; funext x e1; cases x <;> rfl
theorem w_T_z : Wq0 (qT a e) QB' = Wq0 (a e) fun x e1 => Wo0 (truthD x) fun b => QB' b e1 := by unfold qT; simp only [wq_bind_z, wq_opt_z]
theorem w_yes_z : Wq0 (qYes e) QB' = QB' true e := id rfl
theorem w_bAnd_z : Wq0 (qbAnd t u e) QB' = Wq0 (t e) fun b e1 => if b = true then Wq0 (u e1) QB' else QB' false e1 := by
  unfold qbAnd; simp only [wq_bind_z]; congr 1; funext x e1; cases x <;> rfl
theorem w_bOr_z : Wq0 (qbOr t u e) QB' = Wq0 (t e) fun b e1 => if b = true then QB' true e1 else Wq0 (u e1) QB' := by
  unfold qbOr; simp only [wq_bind_z]; congr 1; funext x e1; cases x <;> rfl
theorem w_bNot_z : Wq0 (qbNot t e) QB' = Wq0 (t e) fun b e1 => QB' (!b) e1 := by unfold qbNot; simp only [wq_bind_z, wq_ret_z]
theorem w_And_z : Wq0 (qAnd a b e) Q = Wq0 (a e) fun x e1 => Wo0 (asBl x) fun y => if y = true then Wq0 (b e1) Q else Q (.bl false) e1 := by
  unfold qAnd; simp only [wq_bind_z]; congr 1; funext x e1
  cases x with
  | bl y => cases y <;> rfl
  | _ => rfl
theorem w_Or_z : Wq0 (qOr a b e) Q = Wq0 (a e) fun x e1 => Wo0 (asBl x) fun y => if y = true then Q (.bl true) e1 else Wq0 (b e1) Q := by
  unfold qOr; simp only [wq_bind_z]; congr 1; funext x e1
  cases x with
  | bl y => cases y <;> rfl
  | _ => rfl
theorem w_Not_z : Wq0 (qNot a e) Q = Wq0 (a e) fun x e1 => Wo0 (asBl x) fun y => Q (.bl (!y)) e1 := by
  unfold qNot; simp only [wq_bind_z]; congr 1; funext x e1; cases x <;> rfl
theorem w_If_z : Wq0 (qIf t a b e) Q = Wq0 (t e) fun x e1 => if x = true then Wq0 (a e1) Q else Wq0 (b e1) Q := by
  unfold qIf; simp only [wq_bind_z]; congr 1; funext x e1; cases x <;> rfl
theorem w_chain_z {f g : D → D → Option D} : Wq0 (qChain a b c f g e) Q = Wq0 (a e) fun x e1 => Wq0 (b e1) fun y e2 => Wo0 (f x y) fun z => Wo0 (asBl z) fun w => if w = true then Wq0 (c e2) fun v e3 => Wo0 (g y v) fun r => Q r e3 else Q (.bl false) e2 := by
  unfold qChain; simp only [wq_bind_z, wq_opt_z]; congr 1; funext x e1; congr 1; funext y e2; congr 1; funext z
  cases z with
  | bl w => cases w with
    | true => simp only [wq_bind_z, wq_opt_z]; rfl
    | false => rfl
  | _ => rfl
theorem w_only_z : Wq0 (qOnly a e) Q = Wq0 (a e) fun x e1 => ∃ i, x = .int i ∧ Q (.int i) e1 := by
  unfold qOnly; simp only [wq_bind_z]; congr 1; funext x e1; cases x <;> simp [Wq0]
theorem w_cut_z {l u : QE} : Wq0 (qCut a l u e) Q = Wq0 (a e) fun x e1 => Wq0 (l e1) fun y e2 => Wo0 (partD y) fun lo => Wq0 (u e2) fun z e3 => Wo0 (partD z) fun hi => Wo0 (gCut x lo hi) fun r => Q r e3 := by
  unfold qCut; simp only [wq_bind_z]; congr 1; funext x e1; congr 1; funext y e2
  cases partD y with
  | none => rfl
  | some lo => simp only [wq_bind_z, wo_some_z]; congr 1; funext z e3; cases partD z with
    | none => rfl
    | some hi => simp only [wq_opt_z, wo_some_z]
theorem w_meth_z {g : D → List D → Option D} : Wq0 (qMeth a l g e) Q = Wq0 (a e) fun x e1 => (lstD x).isSome = true ∧ Wq0 (l e1) fun xs e2 => Wo0 (g x xs) fun z => Q z e2 := by
  unfold qMeth; simp only [wq_bind_z]; congr 1; funext x e1
  split
  · rename_i h; simp only [wq_bind_z, wq_opt_z, h, true_and]
  · rename_i h; simp [wq_fail_z, h]
theorem w_newK_z : Wq0 (qNewK e) Q = Q (.dK []) e := id rfl
theorem w_newT_z : Wq0 (qNewT e) Q = Q (.dT []) e := id rfl
theorem w_call_z {np : Nat} {chk fr : Bool} {G : List D → FO} : Wq0 (qCall np chk fr l G e) Q = Wq0 (l e) fun ds e1 => ds.length = np ∧ Wf0 (G ds) fun d _ => okD chk fr d = true ∧ Q d e1 := by
  unfold qCall; simp only [wq_bind_z]; congr 1; funext x e1
  split
  · rename_i h
    simp only [h, true_and]
    cases G x with
    | ret d b => simp only [qRes, Wf0]; split <;> simp_all [Wq0]
    | exc y b => simp only [qRes, Wf0]; split <;> rfl
    | fail => rfl
  · rename_i h; simp [wq_fail_z, h]
theorem w_callB_z {np : Nat} {chk fr : Bool} {G : List D → FO} : Wq0 (qCallB np chk fr i l G e) Q = Wo0 (e.getD i none) fun _ => Wq0 (l e) fun ds e1 => Wo0 (e1.getD i none) fun b => objD b = true ∧ ds.length + 1 = np ∧ Wf0 (G (b :: ds)) fun d b' => okD chk fr d = true ∧ Q d (e1.set i (some b')) := by
  unfold qCallB
  cases e.getD i none with
  | none => rfl
  | some d0 =>
    simp only [wq_bind_z, wo_some_z]; congr 1; funext x e1
    cases e1.getD i none with
    | none => rfl
    | some b =>
      simp only [wo_some_z]
      split
      · rename_i h
        simp only [h.1, h.2, true_and]
        cases G (b :: x) with
        | ret d b => simp only [qRes, Wf0]; split <;> simp_all [Wq0]
        | exc y b => simp only [qRes, Wf0]; split <;> rfl
        | fail => rfl
      · rename_i h
        simp only [wq_fail_z]
        exact propext ⟨False.elim, fun z => h ⟨z.1, z.2.1⟩⟩
theorem w_callK_z {nn kk : Nat} {is : List Nat} {chk fr : Bool} {G : List D → FO} : Wq0 (qCallK nn kk is chk fr l lk G e) Q = Wq0 (l e) fun ds e1 => Wq0 (lk e1) fun zs e2 => ds.length = nn ∧ zs.length = kk ∧ Wf0 (G (gOf .non is ds zs)) fun d _ => okD chk fr d = true ∧ Q d e2 := by
  unfold qCallK; simp only [wq_bind_z]; congr 1; funext x e1; congr 1; funext z e2
  split
  · rename_i h
    simp only [h.1, h.2, true_and]
    cases G (gOf .non is x z) with
    | ret d b => simp only [qRes, Wf0]; split <;> simp_all [Wq0]
    | exc y b => simp only [qRes, Wf0]; split <;> rfl
    | fail => rfl
  · rename_i h
    simp only [wq_fail_z]
    exact propext ⟨False.elim, fun z => h ⟨z.1, z.2.1⟩⟩
def isLs : D → Bool | .lst _ => true | _ => false
theorem w_w_z {g : D → List D → Option (D × D)} : Wq0 (qW i l g e) Q = Wo0 (e.getD i none) fun d0 => isLs d0 = true ∧ Wq0 (l e) fun ds e1 => Wo0 (e1.getD i none) fun d => Wo0 (g d ds) fun r => noLsts ds = true ∧ Q r.1 (e1.set i (some r.2)) := by
  unfold qW
  cases e.getD i none with
  | none => rfl
  | some d0 =>
    cases d0 with
    | lst xs =>
      simp only [wq_bind_z, wo_some_z, isLs, true_and]; congr 1; funext x e1
      cases e1.getD i none with
      | none => rfl
      | some d =>
        simp only [wo_some_z]
        cases g d x with
        | none => rfl
        | some r => obtain ⟨y, d'⟩ := r; simp only [wo_some_z]; split <;> simp_all [Wq0]
    | _ => simp [Wq0, Wo0, isLs]
/-! statements -/
theorem t_next_z : Ws0 (qNext e) T = T.nx e := id rfl
theorem t_break_z : Ws0 (qBreak e) T = T.bk e := id rfl
theorem t_cont_z : Ws0 (qCont e) T = T.ct e := id rfl
theorem t_seq_z : Ws0 (qSeq p q e) T = Ws0 (p e) { T with nx := fun e1 => Ws0 (q e1) T } := by unfold qSeq; cases p e <;> rfl
theorem t_of_z {f : D → DE → QS} : Ws0 (qOf a f e) T = Wq0 (a e) fun d e1 => Ws0 (f d e1) T := by unfold qOf; cases a e <;> rfl
theorem ws_nx_z : Ws0 (.nx e) T = T.nx e := id rfl
theorem ws_rt_z {d : D} : Ws0 (.rt d e) T = T.rt d e := id rfl
theorem t_ret_z : Ws0 (qRet a e) T = Wq0 (a e) T.rt := by
  show Ws0 (qOf a (fun d e => .rt d e) e) T = _; rw [t_of_z]; rfl
theorem t_retN_z : Ws0 (qRetN e) T = T.rt .non e := id rfl
theorem t_set_z : Ws0 (qSet i a e) T = Wq0 (a e) fun d e1 => T.nx (e1.set i (some d)) := by
  show Ws0 (qOf a (fun d e => .nx (e.set i (some d))) e) T = _; rw [t_of_z]; rfl
theorem t_if_z : Ws0 (qIfS t p q e) T = Wq0 (t e) fun b e1 => if b = true then Ws0 (p e1) T else Ws0 (q e1) T := by
  unfold qIfS
  cases t e with
  | ret b e1 => cases b <;> rfl
  | exc _ _ => rfl
  | fail => rfl
theorem t_WS_z {g : D → List D → Option (D × D)} : Ws0 (qWS i l g e) T = Wo0 (e.getD i none) fun d0 => isLs d0 = true ∧ Wq0 (l e) fun ds e1 => Wo0 (e1.getD i none) fun d => Wo0 (g d ds) fun r => T.nx (e1.set i (some r.2)) := by
  unfold qWS
  cases e.getD i none with
  | none => rfl
  | some d0 =>
    cases d0 with
    | lst xs =>
      simp only [wo_some_z, isLs, true_and]
      cases l e with
      | ret ds e1 =>
        simp only [wq_ret_z]
        cases e1.getD i none with
        | none => rfl
        | some d =>
          simp only [wo_some_z]
          cases g d ds with
          | none => rfl
          | some r => obtain ⟨y, d'⟩ := r; rfl
      | exc _ _ => rfl
      | fail => rfl
    | _ => simp [Ws0, Wo0, isLs]
theorem t_put_z : Ws0 (qPut i a b e) T = Wq0 (b e) fun v e1 => Wo0 (e1.getD i none) fun _ => Wq0 (a e1) fun k e2 => Wo0 (e2.getD i none) fun x => objD x = true ∧ Wo0 (putD x k v) fun d' => T.nx (e2.set i (some d')) := by
  unfold qPut
  cases b e with
  | ret v e1 =>
    simp only [wq_ret_z]
    cases e1.getD i none with
    | none => rfl
    | some _ =>
      simp only [wo_some_z]
      cases a e1 with
      | ret k e2 =>
        simp only [wq_ret_z]
        cases e2.getD i none with
        | none => rfl
        | some x =>
          simp only [wo_some_z]
          split
          · rename_i h; simp only [h, true_and]; cases putD x k v <;> rfl
          · rename_i h; simp [Ws0, h]
      | exc _ _ => rfl
      | fail => rfl
  | exc _ _ => rfl
  | fail => rfl
theorem t_par_z {is : List Nat} : Ws0 (qPar is l e) T = Wq0 (l e) fun ds e1 => is.all (fun i => decide (i < e1.length)) = true ∧ T.nx (setAll is ds e1) := by
  unfold qPar
  cases l e with
  | ret ds e1 =>
    simp only [wq_ret_z]
    split
    · rename_i h; simp only [h, true_and]; rfl
    · rename_i h; simp only [h]; simp [Ws0]
  | exc _ _ => rfl
  | fail => rfl
theorem t_for_z {qi : QI} {g : QG} : Ws0 (qFor qi g p e) T = Wq0 (qi e) fun ds e1 => ds.length ≤ lim ∧ Ws0 (forQ g p ds e1) T := by
  unfold qFor
  cases qi e with
  | ret ds e1 =>
    simp only [wq_ret_z]
    split
    · rename_i h; simp only [h, true_and]
    · rename_i h; simp [Ws0, h]
  | exc _ _ => rfl
  | fail => rfl
theorem t_asg_z {g : QG} : Ws0 (qAsg g a e) T = Wq0 (a e) fun d e1 => Wo0 (g d e1) T.nx := by
  unfold qAsg
  rw [t_of_z]
  congr 1; funext d e1
  cases g d e1 <;> rfl
theorem t_setR_z : Ws0 (qSetR i a e) T = Wq0 (a e) fun d e1 => i < e1.length ∧ T.nx (e1.set i (some d)) := by
  show Ws0 (qOf a _ e) T = _
  rw [t_of_z]
  congr 1; funext d e1
  by_cases h : i < e1.length
  · simp [h, Ws0]
  · simp [h, Ws0]
theorem t_drop_z : Ws0 (qDrop a e) T = Wq0 (a e) fun _ e1 => T.nx e1 := by
  show Ws0 (qOf a (fun _ e => .nx e) e) T = _; rw [t_of_z]; rfl
theorem wi_of_z : Wq0 (qiOf a e) QL' = Wq0 (a e) fun d e1 => Wo0 (itemsD d) fun xs => QL' xs e1 := by unfold qiOf; simp only [wq_bind_z, wq_opt_z]
theorem wi_rg_z {f : List D → Option (List D)} : Wq0 (qiRg f l e) QL' = Wq0 (l e) fun ds e1 => Wo0 (f ds) fun xs => QL' xs e1 := by unfold qiRg; simp only [wq_bind_z, wq_opt_z]
theorem wi_st_z {f : List D → Option (List D)} : Wq0 (qiSt f l e) QL' = Wq0 (l e) fun ds e1 => Wo0 (f ds) fun xs => QL' xs e1 := by unfold qiSt; simp only [wq_bind_z, wq_opt_z]
theorem w_lc0_z {qi : QI} {g : QG} {ws : List Nat} : Wq0 (qLc0 qi g t a ws e) Q = Wq0 (qi e) fun ds e1 => ds.length ≤ lim ∧ Wo0 (lcQ0 g t a (wipeD e1 ws) ds) fun xs => Q (.lst xs) e1 := by
  unfold qLc0
  cases qi e with
  | ret ds e1 =>
    simp only [wq_ret_z]
    split
    · rename_i h; simp only [h, true_and]; cases lcQ0 g t a (wipeD e1 ws) ds <;> rfl
    · rename_i h; simp [Wq0, h]
  | exc _ _ => rfl
  | fail => rfl
theorem w_ssc_z {qi : QI} {g : QG} {ws : List Nat} : Wq0 (qSSc qi g t a ws e) Q = Wq0 (qi e) fun ds e1 => ds.length ≤ lim ∧ Wo0 (lcQ0 g t a (wipeD e1 ws) ds) fun xs => Wo0 (sortSet xs) fun ys => Q (.lst ys) e1 := by
  unfold qSSc
  cases qi e with
  | ret ds e1 =>
    simp only [wq_ret_z]
    split
    · rename_i h; simp only [h, true_and]
      cases lcQ0 g t a (wipeD e1 ws) ds with
      | none => rfl
      | some xs => simp only [Option.bind_some, wo_some_z]; cases sortSet xs <;> rfl
    · rename_i h; simp [Wq0, h]
  | exc _ _ => rfl
  | fail => rfl
theorem w_lc_z {qi : QI} {g : QG} {ws : List Nat} : Wq0 (qLc qi g t a ws e) Q = Wq0 (qi e) fun ds e1 => ds.length ≤ lim ∧ noLsts ds = true ∧ Wq0 (lcQ g t a ws ds e1) fun xs e2 => Q (.lst xs) (restE e2 e1 ws) := by
  unfold qLc
  cases qi e with
  | ret ds e1 =>
    simp only [wq_ret_z]
    split
    · rename_i h; simp only [h, true_and]; cases lcQ g t a ws ds e1 <;> rfl
    · rename_i h; simp only [wq_fail_z]; exact propext ⟨False.elim, fun z => h ⟨z.1, z.2.1⟩⟩
  | exc _ _ => rfl
  | fail => rfl
theorem w_fn_z {nl : Nat} {ds : List D} {QF : D → D → Prop} : Wf0 (qFn nl p ds) QF = Ws0 (p (ds.map some ++ List.replicate nl none)) { nx := fun _ => QF .non .non, rt := fun d _ => QF d .non } := by
  unfold qFn; cases p (ds.map some ++ List.replicate nl none) <;> rfl
theorem w_fnB_z {nl : Nat} {ds : List D} {QF : D → D → Prop} : Wf0 (qFnB nl p ds) QF = Ws0 (p (ds.map some ++ List.replicate nl none)) { nx := fun e => Wo0 (lentD e) fun b => QF .non b, rt := fun d e => Wo0 (lentD e) fun b => QF d b } := by
  unfold qFnB
  cases p (ds.map some ++ List.replicate nl none) with
  | nx e => simp only [Ws0]; cases lentD e <;> rfl
  | rt d e => simp only [Ws0]; cases lentD e <;> rfl
  | exc d e => simp only [Ws0]; cases lentD e <;> rfl
  | _ => rfl
theorem w_lent_z {b : D} {e : DE} {Q : D → Prop} : Wo0 (lentD (some b :: e)) Q = (nlc b = true ∧ Q b) := by
  unfold lentD
  simp only [gd0]
  split <;> simp_all [Wo0]
/-! targets -/
theorem wg_nm_z {d : D} {Q : DE → Prop} : Wo0 (qNm i d e) Q = Q (e.set i (some d)) := id rfl
theorem wg_two_z {j : Nat} {a b : D} {Q : DE → Prop} : Wo0 (qTp 2 (qCn (qNm i) (qCn (qNm j) qNl)) (.tup [a, b]) e) Q = Q ((e.set i (some a)).set j (some b)) := by
  simp [qTp, qCn, qNm, qNl, Wo0]
theorem wg_three_z {j k : Nat} {a b c : D} {Q : DE → Prop} : Wo0 (qTp 3 (qCn (qNm i) (qCn (qNm j) (qCn (qNm k) qNl))) (.tup [a, b, c]) e) Q = Q (((e.set i (some a)).set j (some b)).set k (some c)) := by
  simp [qTp, qCn, qNm, qNl, Wo0]
/-! ### loops -/
theorem t_while_z {I : Nat → DE → Prop} (k0 : Nat) (hk : k0 < fuel) (h0 : I k0 e)
    (step : ∀ k e, I k e → Wq0 (t e) fun b e1 => if b = true then Ws0 (p e1) { nx := fun e2 => ∃ k', k' < k ∧ I k' e2, rt := T.rt, bk := T.nx, ct := fun e2 => ∃ k', k' < k ∧ I k' e2 } else T.nx e1) : Ws0 (qWhile t p e) T := by
  have go : ∀ (f k : Nat) (e : DE), k < f → I k e → Ws0 (whileQ t p f e) T := by
    intro f
    induction f with
    | zero => intro k e h; exact absurd h (by omega)
    | succ f ih =>
      intro k e hf hI
      have h := step k e hI
      unfold whileQ
      cases ht : t e with
      | fail => rw [ht] at h; exact h.elim
      | exc x e1 => rw [ht] at h; exact h.elim
      | ret b e1 =>
        rw [ht] at h
        cases b with
        | false => exact h
        | true =>
          replace h : Ws0 (p e1) _ := h
          dsimp only
          cases hp : p e1 with
          | nx e2 => rw [hp] at h; obtain ⟨k', h1, h2⟩ := h; exact ih k' e2 (by omega) h2
          | ct e2 => rw [hp] at h; obtain ⟨k', h1, h2⟩ := h; exact ih k' e2 (by omega) h2
          | bk e2 => rw [hp] at h; exact h
          | rt d e2 => rw [hp] at h; exact h
          | exc x e2 => rw [hp] at h; exact h.elim
          | fail => rw [hp] at h; exact h.elim
  exact go fuel k0 e hk h0
theorem t_forL_z {α : Type} {g : QG} {φ : α → D} {l : List α} (I : List α → DE → Prop) (h0 : I [] e)
    (step : ∀ pre x post e, l = pre ++ x :: post → I pre e → Wo0 (g (φ x) e) fun e1 => Ws0 (p e1) { nx := I (pre ++ [x]), rt := T.rt, bk := T.nx, ct := I (pre ++ [x]) }) (hend : ∀ e, I l e → T.nx e) : Ws0 (forQ g p (l.map φ) e) T := by
  have go : ∀ (post pre : List α) (e : DE), l = pre ++ post → I pre e → Ws0 (forQ g p (post.map φ) e) T := by
    intro post
    induction post with
    | nil => intro pre e hl hI; rw [List.append_nil] at hl; subst hl; exact hend e hI
    | cons x post ih =>
      intro pre e hl hI
      have h := step pre x post e hl hI
      rw [List.map_cons]
      unfold forQ
      cases hg : g (φ x) e with
      | none => rw [hg] at h; exact h.elim
      | some e1 =>
        rw [hg] at h
        replace h : Ws0 (p e1) _ := h
        dsimp only
        have hl' : l = (pre ++ [x]) ++ post := by rw [hl, List.append_assoc]; rfl
        cases hp : p e1 with
        | nx e2 => rw [hp] at h; exact ih (pre ++ [x]) e2 hl' h
        | ct e2 => rw [hp] at h; exact ih (pre ++ [x]) e2 hl' h
        | bk e2 => rw [hp] at h; exact h
        | rt d e2 => rw [hp] at h; exact h
        | exc x e2 => rw [hp] at h; exact h.elim
        | fail => rw [hp] at h; exact h.elim
  exact go l [] e rfl h0
theorem w_lcM_z {α : Type} {g : QG} {φ : α → D} {l : List α} {f : α → D} {Q : List D → Prop} (h : ∀ x ∈ l, Wo0 (g (φ x) e) fun e1 => Wq0 (a e1) fun y _ => y = f x) (q : Q (l.map f)) : Wo0 (lcQ0 g qYes a e (l.map φ)) Q := by
  have go : lcQ0 g qYes a e (l.map φ) = some (l.map f) := by
    clear q
    induction l with
    | nil => rfl
    | cons x l ih =>
      have hx := h x (by simp)
      rw [List.map_cons]
      unfold lcQ0
      cases hg : g (φ x) e with
      | none => rw [hg] at hx; exact hx.elim
      | some e1 =>
        rw [hg] at hx
        replace hx : Wq0 (a e1) _ := hx
        simp only [qYes]
        cases ha : a e1 with
        | ret y e2 => rw [ha] at hx; dsimp only; rw [ih fun z hz => h z (by simp [hz])]; have hx : y = f x := hx; rw [hx]; rfl
        | exc _ _ => rw [ha] at hx; exact hx.elim
        | fail => rw [ha] at hx; exact hx.elim
  rw [go]; exact q
end
end MP

set_option maxRecDepth 100000
namespace MP
open PySem PySem.Spec PyProof.Rows L2
/-! the ends as structures: nothing runs a program to look at them -/
structure Wo {α : Type} (o : Option α) (Q : α → Prop) : Prop where
  mk :: (out : Wo0 o Q)
structure Wq {α : Type} (o : LO α) (Q : α → DE → Prop) : Prop where
  mk :: (out : Wq0 o Q)
structure Wf (o : FO) (Q : D → D → Prop) : Prop where
  mk :: (out : Wf0 o Q)
structure Ws (o : QS) (Q : Qe) : Prop where
  mk :: (out : Ws0 o Q)
theorem wo_eq {α : Type} {o : Option α} {Q : α → Prop} : Wo o Q = Wo0 o Q := propext ⟨Wo.out, Wo.mk⟩
theorem wq_eq {α : Type} {o : LO α} {Q : α → DE → Prop} : Wq o Q = Wq0 o Q := propext ⟨Wq.out, Wq.mk⟩
theorem wf_eq {o : FO} {Q : D → D → Prop} : Wf o Q = Wf0 o Q := propext ⟨Wf.out, Wf.mk⟩
theorem ws_eq {o : QS} {Q : Qe} : Ws o Q = Ws0 o Q := propext ⟨Ws.out, Ws.mk⟩
theorem Wo.mono {α : Type} {o : Option α} {Q Q' : α → Prop} (h : Wo o Q) (k : ∀ a, Q a → Q' a) : Wo o Q' := by
  simp only [wo_eq, wq_eq, wf_eq, ws_eq] at *
  exact Wo0.mono h k
theorem Wq.mono {α : Type} {o : LO α} {Q Q' : α → DE → Prop} (h : Wq o Q) (k : ∀ a e, Q a e → Q' a e) : Wq o Q' := by
  simp only [wo_eq, wq_eq, wf_eq, ws_eq] at *
  exact Wq0.mono h k
theorem Wf.mono {o : FO} {Q Q' : D → D → Prop} (h : Wf o Q) (k : ∀ a b, Q a b → Q' a b) : Wf o Q' := by
  simp only [wo_eq, wq_eq, wf_eq, ws_eq] at *
  exact Wf0.mono h k
theorem Ws.mono {o : QS} {Q Q' : Qe} (h : Ws o Q) (k1 : ∀ e, Q.nx e → Q'.nx e) (k2 : ∀ d e, Q.rt d e → Q'.rt d e) (k3 : ∀ e, Q.bk e → Q'.bk e) (k4 : ∀ e, Q.ct e → Q'.ct e) : Ws o Q' := by
  simp only [wo_eq, wq_eq, wf_eq, ws_eq] at *
  exact Ws0.mono h k1 k2 k3 k4
theorem wo_some {α : Type} {a : α} {Q : α → Prop} : Wo (some a) Q = Q a := by simp only [wo_eq, wq_eq, wf_eq, ws_eq]; exact wo_some_z
theorem wo_none {α : Type} {Q : α → Prop} : Wo (none : Option α) Q = False := by simp only [wo_eq, wq_eq, wf_eq, ws_eq]; exact wo_none_z
theorem Wo.of {α : Type} {o : Option α} {a : α} {Q : α → Prop} (h : o = some a) (q : Q a) : Wo o Q := by
  simp only [wo_eq, wq_eq, wf_eq, ws_eq] at *
  exact Wo0.of h q
theorem Wf.of {o : FO} {d b : D} {Q : D → D → Prop} (h : o = .ret d b) (q : Q d b) : Wf o Q := by
  simp only [wo_eq, wq_eq, wf_eq, ws_eq] at *
  exact Wf0.of h q
theorem wq_ret {α : Type} {a : α} {e : DE} {Q : α → DE → Prop} : Wq (.ret a e) Q = Q a e := by simp only [wo_eq, wq_eq, wf_eq, ws_eq]; exact wq_ret_z
section
variable {e : DE} {i : Nat} {a b c : QE} {t u : QB} {l lk : QL} {p q : QT} {Q : D → DE → Prop} {QB' : Bool → DE → Prop} {QL' : List D → DE → Prop} {T : Qe}
theorem w_var : Wq (qVar i e) Q = Wo (e.getD i none) fun d => Q d e := by simp only [wo_eq, wq_eq, wf_eq, ws_eq]; exact w_var_z
theorem w_C {d : D} : Wq (qC d e) Q = Q d e := by simp only [wo_eq, wq_eq, wf_eq, ws_eq]; exact w_C_z
theorem w_1 {g : D → Option D} : Wq (q1 a g e) Q = Wq (a e) fun x e1 => Wo (g x) fun y => Q y e1 := by simp only [wo_eq, wq_eq, wf_eq, ws_eq]; exact w_1_z
theorem w_2 {g : D → D → Option D} : Wq (q2 a b g e) Q = Wq (a e) fun x e1 => Wq (b e1) fun y e2 => Wo (g x y) fun z => Q z e2 := by simp only [wo_eq, wq_eq, wf_eq, ws_eq]; exact w_2_z
theorem w_nil : Wq (qNil e) QL' = QL' [] e := by simp only [wo_eq, wq_eq, wf_eq, ws_eq]; exact w_nil_z
theorem w_cons : Wq (qCons a l e) QL' = Wq (a e) fun x e1 => Wq (l e1) fun xs e2 => QL' (x :: xs) e2 := by simp only [wo_eq, wq_eq, wf_eq, ws_eq]; exact w_cons_z
theorem w_L {g : List D → Option D} : Wq (qL l g e) Q = Wq (l e) fun xs e1 => Wo (g xs) fun z => Q z e1 := by simp only [wo_eq, wq_eq, wf_eq, ws_eq]; exact w_L_z
theorem w_B : Wq (qB a e) QB' = Wq (a e) fun x e1 => Wo (asBl x) fun b => QB' b e1 := by simp only [wo_eq, wq_eq, wf_eq, ws_eq]; exact w_B_z
theorem w_T : Wq (qT a e) QB' = Wq (a e) fun x e1 => Wo (truthD x) fun b => QB' b e1 := by simp only [wo_eq, wq_eq, wf_eq, ws_eq]; exact w_T_z
theorem w_yes : Wq (qYes e) QB' = QB' true e := by simp only [wo_eq, wq_eq, wf_eq, ws_eq]; exact w_yes_z
theorem w_bAnd : Wq (qbAnd t u e) QB' = Wq (t e) fun b e1 => if b = true then Wq (u e1) QB' else QB' false e1 := by simp only [wo_eq, wq_eq, wf_eq, ws_eq]; exact w_bAnd_z
theorem w_bOr : Wq (qbOr t u e) QB' = Wq (t e) fun b e1 => if b = true then QB' true e1 else Wq (u e1) QB' := by simp only [wo_eq, wq_eq, wf_eq, ws_eq]; exact w_bOr_z
theorem w_bNot : Wq (qbNot t e) QB' = Wq (t e) fun b e1 => QB' (!b) e1 := by simp only [wo_eq, wq_eq, wf_eq, ws_eq]; exact w_bNot_z
theorem w_And : Wq (qAnd a b e) Q = Wq (a e) fun x e1 => Wo (asBl x) fun y => if y = true then Wq (b e1) Q else Q (.bl false) e1 := by simp only [wo_eq, wq_eq, wf_eq, ws_eq]; exact w_And_z
theorem w_Or : Wq (qOr a b e) Q = Wq (a e) fun x e1 => Wo (asBl x) fun y => if y = true then Q (.bl true) e1 else Wq (b e1) Q := by simp only [wo_eq, wq_eq, wf_eq, ws_eq]; exact w_Or_z
theorem w_Not : Wq (qNot a e) Q = Wq (a e) fun x e1 => Wo (asBl x) fun y => Q (.bl (!y)) e1 := by simp only [wo_eq, wq_eq, wf_eq, ws_eq]; exact w_Not_z
theorem w_If : Wq (qIf t a b e) Q = Wq (t e) fun x e1 => if x = true then Wq (a e1) Q else Wq (b e1) Q := by simp only [wo_eq, wq_eq, wf_eq, ws_eq]; exact w_If_z
theorem w_chain {f g : D → D → Option D} : Wq (qChain a b c f g e) Q = Wq (a e) fun x e1 => Wq (b e1) fun y e2 => Wo (f x y) fun z => Wo (asBl z) fun w => if w = true then Wq (c e2) fun v e3 => Wo (g y v) fun r => Q r e3 else Q (.bl false) e2 := by simp only [wo_eq, wq_eq, wf_eq, ws_eq]; exact w_chain_z
theorem w_only : Wq (qOnly a e) Q = Wq (a e) fun x e1 => ∃ i, x = .int i ∧ Q (.int i) e1 := by simp only [wo_eq, wq_eq, wf_eq, ws_eq]; exact w_only_z
theorem w_cut {l u : QE} : Wq (qCut a l u e) Q = Wq (a e) fun x e1 => Wq (l e1) fun y e2 => Wo (partD y) fun lo => Wq (u e2) fun z e3 => Wo (partD z) fun hi => Wo (gCut x lo hi) fun r => Q r e3 := by simp only [wo_eq, wq_eq, wf_eq, ws_eq]; exact w_cut_z
theorem w_meth {g : D → List D → Option D} : Wq (qMeth a l g e) Q = Wq (a e) fun x e1 => (lstD x).isSome = true ∧ Wq (l e1) fun xs e2 => Wo (g x xs) fun z => Q z e2 := by simp only [wo_eq, wq_eq, wf_eq, ws_eq]; exact w_meth_z
theorem w_newK : Wq (qNewK e) Q = Q (.dK []) e := by simp only [wo_eq, wq_eq, wf_eq, ws_eq]; exact w_newK_z
theorem w_newT : Wq (qNewT e) Q = Q (.dT []) e := by simp only [wo_eq, wq_eq, wf_eq, ws_eq]; exact w_newT_z
theorem w_call {np : Nat} {chk fr : Bool} {G : List D → FO} : Wq (qCall np chk fr l G e) Q = Wq (l e) fun ds e1 => ds.length = np ∧ Wf (G ds) fun d _ => okD chk fr d = true ∧ Q d e1 := by simp only [wo_eq, wq_eq, wf_eq, ws_eq]; exact w_call_z
theorem w_callB {np : Nat} {chk fr : Bool} {G : List D → FO} : Wq (qCallB np chk fr i l G e) Q = Wo (e.getD i none) fun _ => Wq (l e) fun ds e1 => Wo (e1.getD i none) fun b => objD b = true ∧ ds.length + 1 = np ∧ Wf (G (b :: ds)) fun d b' => okD chk fr d = true ∧ Q d (e1.set i (some b')) := by simp only [wo_eq, wq_eq, wf_eq, ws_eq]; exact w_callB_z
theorem w_callK {nn kk : Nat} {is : List Nat} {chk fr : Bool} {G : List D → FO} : Wq (qCallK nn kk is chk fr l lk G e) Q = Wq (l e) fun ds e1 => Wq (lk e1) fun zs e2 => ds.length = nn ∧ zs.length = kk ∧ Wf (G (gOf .non is ds zs)) fun d _ => okD chk fr d = true ∧ Q d e2 := by simp only [wo_eq, wq_eq, wf_eq, ws_eq]; exact w_callK_z
theorem w_w {g : D → List D → Option (D × D)} : Wq (qW i l g e) Q = Wo (e.getD i none) fun d0 => isLs d0 = true ∧ Wq (l e) fun ds e1 => Wo (e1.getD i none) fun d => Wo (g d ds) fun r => noLsts ds = true ∧ Q r.1 (e1.set i (some r.2)) := by simp only [wo_eq, wq_eq, wf_eq, ws_eq]; exact w_w_z
/-! statements -/
theorem t_next : Ws (qNext e) T = T.nx e := by simp only [wo_eq, wq_eq, wf_eq, ws_eq]; exact t_next_z
theorem t_break : Ws (qBreak e) T = T.bk e := by simp only [wo_eq, wq_eq, wf_eq, ws_eq]; exact t_break_z
theorem t_cont : Ws (qCont e) T = T.ct e := by simp only [wo_eq, wq_eq, wf_eq, ws_eq]; exact t_cont_z
theorem t_seq : Ws (qSeq p q e) T = Ws (p e) { T with nx := fun e1 => Ws (q e1) T } := by simp only [wo_eq, wq_eq, wf_eq, ws_eq]; exact t_seq_z
theorem t_of {f : D → DE → QS} : Ws (qOf a f e) T = Wq (a e) fun d e1 => Ws (f d e1) T := by simp only [wo_eq, wq_eq, wf_eq, ws_eq]; exact t_of_z
theorem ws_nx : Ws (.nx e) T = T.nx e := by simp only [wo_eq, wq_eq, wf_eq, ws_eq]; exact ws_nx_z
theorem ws_rt {d : D} : Ws (.rt d e) T = T.rt d e := by simp only [wo_eq, wq_eq, wf_eq, ws_eq]; exact ws_rt_z
theorem t_ret : Ws (qRet a e) T = Wq (a e) T.rt := by simp only [wo_eq, wq_eq, wf_eq, ws_eq]; exact t_ret_z
theorem t_retN : Ws (qRetN e) T = T.rt .non e := by simp only [wo_eq, wq_eq, wf_eq, ws_eq]; exact t_retN_z
theorem t_set : Ws (qSet i a e) T = Wq (a e) fun d e1 => T.nx (e1.set i (some d)) := by simp only [wo_eq, wq_eq, wf_eq, ws_eq]; exact t_set_z
theorem t_if : Ws (qIfS t p q e) T = Wq (t e) fun b e1 => if b = true then Ws (p e1) T else Ws (q e1) T := by simp only [wo_eq, wq_eq, wf_eq, ws_eq]; exact t_if_z
theorem t_WS {g : D → List D → Option (D × D)} : Ws (qWS i l g e) T = Wo (e.getD i none) fun d0 => isLs d0 = true ∧ Wq (l e) fun ds e1 => Wo (e1.getD i none) fun d => Wo (g d ds) fun r => T.nx (e1.set i (some r.2)) := by simp only [wo_eq, wq_eq, wf_eq, ws_eq]; exact t_WS_z
theorem t_put : Ws (qPut i a b e) T = Wq (b e) fun v e1 => Wo (e1.getD i none) fun _ => Wq (a e1) fun k e2 => Wo (e2.getD i none) fun x => objD x = true ∧ Wo (putD x k v) fun d' => T.nx (e2.set i (some d')) := by simp only [wo_eq, wq_eq, wf_eq, ws_eq]; exact t_put_z
theorem t_par {is : List Nat} : Ws (qPar is l e) T = Wq (l e) fun ds e1 => is.all (fun i => decide (i < e1.length)) = true ∧ T.nx (setAll is ds e1) := by simp only [wo_eq, wq_eq, wf_eq, ws_eq]; exact t_par_z
theorem t_for {qi : QI} {g : QG} : Ws (qFor qi g p e) T = Wq (qi e) fun ds e1 => ds.length ≤ lim ∧ Ws (forQ g p ds e1) T := by simp only [wo_eq, wq_eq, wf_eq, ws_eq]; exact t_for_z
theorem t_asg {g : QG} : Ws (qAsg g a e) T = Wq (a e) fun d e1 => Wo (g d e1) T.nx := by simp only [wo_eq, wq_eq, wf_eq, ws_eq]; exact t_asg_z
theorem t_setR : Ws (qSetR i a e) T = Wq (a e) fun d e1 => i < e1.length ∧ T.nx (e1.set i (some d)) := by simp only [wo_eq, wq_eq, wf_eq, ws_eq]; exact t_setR_z
theorem t_drop : Ws (qDrop a e) T = Wq (a e) fun _ e1 => T.nx e1 := by simp only [wo_eq, wq_eq, wf_eq, ws_eq]; exact t_drop_z
theorem wi_of : Wq (qiOf a e) QL' = Wq (a e) fun d e1 => Wo (itemsD d) fun xs => QL' xs e1 := by simp only [wo_eq, wq_eq, wf_eq, ws_eq]; exact wi_of_z
theorem wi_rg {f : List D → Option (List D)} : Wq (qiRg f l e) QL' = Wq (l e) fun ds e1 => Wo (f ds) fun xs => QL' xs e1 := by simp only [wo_eq, wq_eq, wf_eq, ws_eq]; exact wi_rg_z
theorem wi_st {f : List D → Option (List D)} : Wq (qiSt f l e) QL' = Wq (l e) fun ds e1 => Wo (f ds) fun xs => QL' xs e1 := by simp only [wo_eq, wq_eq, wf_eq, ws_eq]; exact wi_st_z
theorem w_lc0 {qi : QI} {g : QG} {ws : List Nat} : Wq (qLc0 qi g t a ws e) Q = Wq (qi e) fun ds e1 => ds.length ≤ lim ∧ Wo (lcQ0 g t a (wipeD e1 ws) ds) fun xs => Q (.lst xs) e1 := by simp only [wo_eq, wq_eq, wf_eq, ws_eq]; exact w_lc0_z
theorem w_ssc {qi : QI} {g : QG} {ws : List Nat} : Wq (qSSc qi g t a ws e) Q = Wq (qi e) fun ds e1 => ds.length ≤ lim ∧ Wo (lcQ0 g t a (wipeD e1 ws) ds) fun xs => Wo (sortSet xs) fun ys => Q (.lst ys) e1 := by simp only [wo_eq, wq_eq, wf_eq, ws_eq]; exact w_ssc_z
theorem w_lc {qi : QI} {g : QG} {ws : List Nat} : Wq (qLc qi g t a ws e) Q = Wq (qi e) fun ds e1 => ds.length ≤ lim ∧ noLsts ds = true ∧ Wq (lcQ g t a ws ds e1) fun xs e2 => Q (.lst xs) (restE e2 e1 ws) := by simp only [wo_eq, wq_eq, wf_eq, ws_eq]; exact w_lc_z
theorem w_fn {nl : Nat} {ds : List D} {QF : D → D → Prop} : Wf (qFn nl p ds) QF = Ws (p (ds.map some ++ List.replicate nl none)) { nx := fun _ => QF .non .non, rt := fun d _ => QF d .non } := by simp only [wo_eq, wq_eq, wf_eq, ws_eq]; exact w_fn_z
theorem w_fnB {nl : Nat} {ds : List D} {QF : D → D → Prop} : Wf (qFnB nl p ds) QF = Ws (p (ds.map some ++ List.replicate nl none)) { nx := fun e => Wo (lentD e) fun b => QF .non b, rt := fun d e => Wo (lentD e) fun b => QF d b } := by simp only [wo_eq, wq_eq, wf_eq, ws_eq]; exact w_fnB_z
theorem w_lent {b : D} {e : DE} {Q : D → Prop} : Wo (lentD (some b :: e)) Q = (nlc b = true ∧ Q b) := by simp only [wo_eq, wq_eq, wf_eq, ws_eq]; exact w_lent_z
/-! targets -/
theorem wg_nm {d : D} {Q : DE → Prop} : Wo (qNm i d e) Q = Q (e.set i (some d)) := by simp only [wo_eq, wq_eq, wf_eq, ws_eq]; exact wg_nm_z
theorem wg_two {j : Nat} {a b : D} {Q : DE → Prop} : Wo (qTp 2 (qCn (qNm i) (qCn (qNm j) qNl)) (.tup [a, b]) e) Q = Q ((e.set i (some a)).set j (some b)) := by simp only [wo_eq, wq_eq, wf_eq, ws_eq]; exact wg_two_z
theorem wg_three {j k : Nat} {a b c : D} {Q : DE → Prop} : Wo (qTp 3 (qCn (qNm i) (qCn (qNm j) (qCn (qNm k) qNl))) (.tup [a, b, c]) e) Q = Q (((e.set i (some a)).set j (some b)).set k (some c)) := by simp only [wo_eq, wq_eq, wf_eq, ws_eq]; exact wg_three_z
/-! ### loops -/
theorem t_while {I : Nat → DE → Prop} (k0 : Nat) (hk : k0 < fuel) (h0 : I k0 e)
    (step : ∀ k e, I k e → Wq (t e) fun b e1 => if b = true then Ws (p e1) { nx := fun e2 => ∃ k', k' < k ∧ I k' e2, rt := T.rt, bk := T.nx, ct := fun e2 => ∃ k', k' < k ∧ I k' e2 } else T.nx e1) : Ws (qWhile t p e) T := by
  simp only [wo_eq, wq_eq, wf_eq, ws_eq] at *
  exact t_while_z k0 hk h0 step
theorem t_forL {α : Type} {g : QG} {φ : α → D} {l : List α} (I : List α → DE → Prop) (h0 : I [] e)
    (step : ∀ pre x post e, l = pre ++ x :: post → I pre e → Wo (g (φ x) e) fun e1 => Ws (p e1) { nx := I (pre ++ [x]), rt := T.rt, bk := T.nx, ct := I (pre ++ [x]) }) (hend : ∀ e, I l e → T.nx e) : Ws (forQ g p (l.map φ) e) T := by
  simp only [wo_eq, wq_eq, wf_eq, ws_eq] at *
  exact t_forL_z I h0 step hend
theorem w_lcM {α : Type} {g : QG} {φ : α → D} {l : List α} {f : α → D} {Q : List D → Prop} (h : ∀ x ∈ l, Wo (g (φ x) e) fun e1 => Wq (a e1) fun y _ => y = f x) (q : Q (l.map f)) : Wo (lcQ0 g qYes a e (l.map φ)) Q := by
  simp only [wo_eq, wq_eq, wf_eq, ws_eq] at *
  exact w_lcM_z h q
end
end MP

set_option maxRecDepth 100000
namespace MP
open PySem PySem.Spec PyProof.Rows L2
theorem ob_l {xs : List D} : objD (.lst xs) = true := id rfl
theorem isLs_l {xs : List D} : isLs (.lst xs) = true := id rfl
/-! ### numbers -/
theorem d_add {i j : Int} : gAdd (.int i) (.int j) = some (.int (i + j)) := id rfl
theorem d_addI {i j : Int} : gAddI (.int i) (.int j) = some (.int (i + j)) := id rfl
theorem d_sub {i j : Int} : gSub (.int i) (.int j) = some (.int (i - j)) := id rfl
theorem d_neg {i : Int} : gNeg (.int i) = some (.int (-i)) := id rfl
theorem d_cmp {p : Int → Int → Bool} {i j : Int} : gCmp p (.int i) (.int j) = some (.bl (p i j)) := id rfl
theorem d_mul {i j : Int} (h : CMul i j ∨ CMulW i j) : gMul (.int i) (.int j) = some (.int (i * j)) := by simp only [gMul]; rw [if_pos h]
theorem d_mod {i j : Int} (h : 0 < j) : gMod (.int i) (.int j) = some (.int (i % j)) := by
  simp only [gMod]; rw [if_pos (by omega), Int.fmod_eq_emod_of_nonneg i (Int.le_of_lt h)]
theorem d_div {i j : Int} (h : 0 < j) (h2 : j < 1073741824) : gDiv (.int i) (.int j) = some (.int (i / j)) := by
  have e : CDivN i j := ⟨by omega, by omega⟩
  simp only [gDiv]; rw [if_pos e, Int.fdiv_eq_ediv_of_nonneg i (Int.le_of_lt h)]
theorem d_pow {i : Int} {k : Nat} (h : CPow i k) : gPow (.int i) (.int k) = some (.int (i ^ k)) := by simp only [gPow]; rw [if_pos h]; rfl
theorem d_pow10 : gPow (.int 10) (.int 7) = some (.int 10000000) := by
  have h := d_pow (i := 10) (k := 7) (by refine ⟨?_, ?_, ?_⟩ <;> decide)
  rw [show ((10 : Int) ^ 7) = 10000000 by decide] at h
  exact h
theorem d_pow5 {i : Int} (h : 0 ≤ i ∧ i < 2 ^ 64) : gPow (.int i) (.int 5) = some (.int (i ^ 5)) := d_pow (i := i) (k := 5) ⟨by decide, by decide, by omega⟩
/-! ### lists of numbers -/
abbrev dn (n : Nat) : D := .int (n : Int)
abbrev dns (ns : List Nat) : List D := ns.map dn
abbrev dzs (ns : List Int) : List D := ns.map D.int
def SqD (v : D) (xs : List D) : Prop := v = .tup xs ∨ v = .lst xs
theorem SqD.t {xs : List D} : SqD (.tup xs) xs := .inl rfl
theorem SqD.l {xs : List D} : SqD (.lst xs) xs := .inr rfl
theorem d_len {v : D} {xs : List D} (h : SqD v xs) : gLen [v] = some (.int xs.length) := by rcases h with rfl | rfl <;> rfl
theorem d_lenT {xs : List D} : gLen [.tup xs] = some (.int xs.length) := id rfl
theorem d_lenL {xs : List D} : gLen [.lst xs] = some (.int xs.length) := id rfl
theorem d_at {v d : D} {xs : List D} {i : Int} (h : SqD v xs) (e : atI xs i = some d) : gSub1 v (.int i) = some d := by rcases h with rfl | rfl <;> exact e
theorem at_dns {ns : List Nat} {i : Nat} (h : i < ns.length) : atI (dns ns) ((i : Nat) : Int) = some (dn ns[i]) := at_nat (by rw [List.getElem?_map, List.getElem?_eq_getElem h]; rfl)
theorem at_dnsD {ns : List Nat} {i : Nat} (h : i < ns.length) : atI (dns ns) ((i : Nat) : Int) = some (dn (ns.getD i 0)) := by rw [at_dns h, List.getD_eq_getElem?_getD, List.getElem?_eq_getElem h]; rfl
theorem d_subN {v : D} {ns : List Nat} {i : Nat} (h : SqD v (dns ns)) (hi : i < ns.length) : gSub1 v (.int (i : Nat)) = some (dn (ns.getD i 0)) := d_at h (at_dnsD hi)
theorem d_last {v : D} {ns : List Nat} (h : SqD v (dns ns)) (hi : ns ≠ []) : gSub1 v (.int (-1)) = some (dn (ns.getLast hi)) := by
  have hl := List.length_pos_iff.mpr hi
  refine d_at h ?_
  unfold atI
  have e : ixN (dns ns).length (-1) = some (ns.length - 1) := by
    rw [List.length_map]
    unfold ixN
    rw [if_neg (by omega), if_pos (by omega)]
    congr 1; omega
  rw [e]
  show (dns ns)[ns.length - 1]? = _
  rw [List.getElem?_map, List.getLast_eq_getElem, List.getElem?_eq_getElem (by omega)]; rfl
theorem dns_len {ns : List Nat} : (dns ns).length = ns.length := List.length_map ..
theorem d_list {v : D} {xs : List D} (h : SqD v xs) : gListOf [v] = some (.lst xs) := by rcases h with rfl | rfl <;> rfl
theorem d_tup {v : D} {xs : List D} (h : SqD v xs) : gTupOf [v] = some (.tup xs) := by rcases h with rfl | rfl <;> rfl
theorem d_mkL {xs : List D} (h : xs.length ≤ lim) : gList xs = some (.lst xs) := by unfold gList; rw [if_pos h]
theorem d_mkT {xs : List D} (h : xs.length ≤ lim) : gTup xs = some (.tup xs) := by unfold gTup; rw [if_pos h]
theorem mk0 : gList [] = some (.lst []) := d_mkL (by decide)
theorem mk1 {a : D} : gList [a] = some (.lst [a]) := d_mkL (show 1 ≤ lim by decide)
theorem mk2 {a b : D} : gList [a, b] = some (.lst [a, b]) := d_mkL (show 2 ≤ lim by decide)
theorem mk3 {a b c : D} : gList [a, b, c] = some (.lst [a, b, c]) := d_mkL (show 3 ≤ lim by decide)
theorem mk4 {a b c d : D} : gList [a, b, c, d] = some (.lst [a, b, c, d]) := d_mkL (show 4 ≤ lim by decide)
theorem mk5 {a b c d e : D} : gList [a, b, c, d, e] = some (.lst [a, b, c, d, e]) := d_mkL (show 5 ≤ lim by decide)
theorem mt0 : gTup [] = some (.tup []) := d_mkT (by decide)
theorem mt1 {a : D} : gTup [a] = some (.tup [a]) := d_mkT (show 1 ≤ lim by decide)
theorem mt2 {a b : D} : gTup [a, b] = some (.tup [a, b]) := d_mkT (show 2 ≤ lim by decide)
theorem mt3 {a b c : D} : gTup [a, b, c] = some (.tup [a, b, c]) := d_mkT (show 3 ≤ lim by decide)
theorem mt4 {a b c d : D} : gTup [a, b, c, d] = some (.tup [a, b, c, d]) := d_mkT (show 4 ≤ lim by decide)
theorem d_app {xs : List D} {y : D} (h : xs.length < lim) : gAppend (.lst xs) [y] = some (.non, .lst (xs ++ [y])) := by simp only [gAppend]; rw [if_pos h]
theorem d_addT {xs ys : List D} (h : xs.length + ys.length ≤ lim) : gAdd (.tup xs) (.tup ys) = some (.tup (xs ++ ys)) := by simp only [gAdd]; rw [if_pos h]
theorem d_putL {xs : List D} {k : Nat} {v : D} (h : k < xs.length) : putD (.lst xs) (.int (k : Nat)) v = some (.lst (xs.set k v)) := by
  have e : ixN xs.length (k : Int) = some k := by unfold ixN; rw [if_pos (by omega), if_pos (by omega)]; rfl
  simp only [putD, e, Option.map_some]
theorem intsD_dzs (ns : List Int) : intsD (dzs ns) = some ns := by
  induction ns with
  | nil => rfl
  | cons n ns ih => simp only [List.map_cons, intsD, ih, Option.map_some]
theorem dns_dzs (ns : List Nat) : dns ns = dzs (ns.map fun (n : Nat) => (n : Int)) := by show _ = List.map _ (List.map _ _); rw [List.map_map]; rfl
theorem intsD_dns (ns : List Nat) : intsD (dns ns) = some (ns.map fun (n : Nat) => (n : Int)) := by rw [dns_dzs, intsD_dzs]
theorem limle {n : Nat} (h : n ≤ 10000000) : n ≤ lim := Nat.le_trans h (by decide)
theorem limlt {n : Nat} (h : n ≤ 10000000) : n < lim := Nat.lt_of_le_of_lt h (by decide)
theorem fuelle {n : Nat} (h : n ≤ 10000000) : n < fuel := Nat.lt_of_le_of_lt h (by decide)
theorem nats_dns (n : Nat) : nats 0 n = dns (List.range n) := by unfold nats; simp
theorem d_rng1 {n : Nat} (h : n ≤ 10000000) : qrng1 [.int (n : Nat)] = some (dns (List.range n)) := by
  have : big62 (n : Int) = true := by simp [big62]; omega
  simp only [qrng1, this, if_true]
  rw [Int.toNat_natCast, nats_dns]
theorem d_listRg {n : Nat} (h : n ≤ 10000000) : gListRg1 (.int (n : Nat)) = some (.lst (dns (List.range n))) := by
  have h1 : RgOk 0 (n : Nat) := by unfold RgOk; omega
  have h2 : (rgP 0 (n : Nat)).length ≤ lim := by unfold rgP; simp; exact limle h
  simp only [gListRg1]
  rw [if_pos ⟨h1, h2⟩]
  simp
/-! ### equality -/
theorem sh_int {k : Int} : SeqAt.shaped (.int k) = true := by simp [SeqAt.shaped, PyData.canLay0, PyData.depth]
theorem sh_bl {b : Bool} : SeqAt.shaped (.bool b) = true := by simp [SeqAt.shaped, PyData.canLay0, PyData.depth]
theorem d_eqI {i j : Int} : gEq (.int i) (.int j) = some (.bl (i == j)) := by simp [gEq, gEqB, toPy, sh_int, PyData.eqv]
theorem d_neI {i j : Int} : gNe (.int i) (.int j) = some (.bl (!(i == j))) := by simp [gNe, gEqB, toPy, sh_int, PyData.eqv]
theorem d_eqB {i j : Bool} : gEq (.bl i) (.bl j) = some (.bl (i == j)) := by cases i <;> cases j <;> simp [gEq, gEqB, toPy, sh_bl, PyData.eqv]
theorem d_neB {i j : Bool} : gNe (.bl i) (.bl j) = some (.bl (!(i == j))) := by cases i <;> cases j <;> simp [gNe, gEqB, toPy, sh_bl, PyData.eqv]
theorem nat_eqI {a b : Nat} : ((a : Int) == (b : Int)) = decide (a = b) := by rw [Bool.eq_iff_iff, beq_iff_eq, decide_eq_true_eq]; omega
/-! ### the source of draws -/
structure BoxD (b : D) (c : Int) : Prop where
  ex : ∃ x y : Int, b = .lst [.int x, .int y, .int c] ∧ 0 ≤ x ∧ 0 ≤ y ∧ y < 4611686018427387904
  nn : 0 ≤ c
theorem BoxD.obj {b : D} {c : Int} (h : BoxD b c) : objD b = true := by obtain ⟨_, _, rfl, _⟩ := h.ex; rfl
theorem BoxD.nlc {b : D} {c : Int} (h : BoxD b c) : nlc b = true := by obtain ⟨_, _, rfl, _⟩ := h.ex; rfl
/-- at most k draws more -/
def More (c k : Int) (b' : D) : Prop := ∃ c', c ≤ c' ∧ c' ≤ c + k ∧ BoxD b' c'
noncomputable def Qtake (c1 c2 : Int) : Nat → List D → FO
  | 0 => fun _ => .fail
  | d + 1 => qFnB 2 (qSeq (qIfS (qB (q2 (q2 (qVar 0) (qC (.int 0)) gSub1) (qC (.int 0)) gGt))
  (qSeq (qSet 2 (q2 (q2 (qVar 0) (qC (.int 0)) gSub1) (qVar 1) gMod))
  (qSeq (qPut 0 (qC (.int 0)) (q2 (q2 (qVar 0) (qC (.int 0)) gSub1) (qVar 1) gDiv))
  (qRet (qVar 2))))
  qNext)
  (qSeq (qIfS (qB (q2 (qVar 1) (q2 (qC (.int 10)) (qC (.int 7)) gPow) gGt))
  (qRet (q2 (q2 (qCallB 2 false false 0 (qCons (q2 (qC (.int 10)) (qC (.int 7)) gPow) qNil) (Qtake c1 c2 d)) (q2 (q2 (qC (.int 10)) (qC (.int 7)) gPow) (qCallB 2 false false 0 (qCons (q2 (q2 (q2 (qVar 1) (qC (.int 1)) gSub) (q2 (qC (.int 10)) (qC (.int 7)) gPow) gDiv) (qC (.int 1)) gAdd) qNil) (Qtake c1 c2 d)) gMul) gAdd) (qVar 1) gMod))
  qNext)
  (qSeq (qPut 0 (qC (.int 2)) (q2 (q2 (qVar 0) (qC (.int 2)) gSub1) (qC (.int 1)) gAdd))
  (qSeq (qSet 3 (q2 (q2 (q2 (q2 (qVar 0) (qC (.int 1)) gSub1) (q2 (qC (.int c1)) (q2 (qVar 0) (qC (.int 2)) gSub1) gMul) gAdd) (qC (.int 5)) gPow) (qC (.int 2147483647)) gMod))
  (qRet (q2 (q2 (q2 (q2 (q2 (qVar 3) (q2 (q2 (qVar 3) (qC (.int c2)) gMod) (qC (.int 7)) gAdd) gMul) (q2 (q2 (qVar 0) (qC (.int 2)) gSub1) (qC (.int 7919)) gMul) gAdd) (qC (.int 2147483629)) gMod) (qC (.int 64)) gDiv) (qVar 1) gMod))))))
theorem b_0 {x y z : D} : gSub1 (.lst [x, y, z]) (.int 0) = some x := id rfl
theorem b_1 {x y z : D} : gSub1 (.lst [x, y, z]) (.int 1) = some y := id rfl
theorem b_2 {x y z : D} : gSub1 (.lst [x, y, z]) (.int 2) = some z := id rfl
theorem p_0 {x y z v : D} : putD (.lst [x, y, z]) (.int 0) v = some (.lst [v, y, z]) := id rfl
theorem p_2 {x y z v : D} : putD (.lst [x, y, z]) (.int 2) v = some (.lst [x, y, v]) := id rfl
theorem gGt_int {i j : Int} : gGt (.int i) (.int j) = some (.bl (decide (j < i))) := id rfl
theorem nlc_box {x y z : Int} : nlc (.lst [.int x, .int y, .int z]) = true := id rfl
theorem CMul.sm' {i j : Int} (h : 0 ≤ i) (h2 : i < 2 ^ 64) : CMul i j ∨ CMulW i j := .inl (.inl ⟨by omega, h2⟩)
def TakeQ (T : List D → FO) : Prop := ∀ (b : D) (c : Int) (n : Nat), BoxD b c → c < 1099511627776 → 1 ≤ n → n ≤ 10000000 →
  Wf (T [b, .int (n : Nat)]) fun d b' => ∃ i : Nat, d = dn i ∧ i < n ∧ More c 1 b'
theorem qtake_ok {c1 c2 : Int} (h1 : 0 ≤ c1 ∧ c1 < 1000000) (h2 : 0 < c2 ∧ c2 < 1000000) (d : Nat) : TakeQ (Qtake c1 c2 (d + 1)) := by
  intro b c n hb hc h0 hn
  obtain ⟨⟨x, y, rfl, hx, hy, hy2⟩, hc0⟩ := hb
  have en : (0 : Int) < (n : Nat) := by omega
  unfold Qtake
  simp only [w_fn, w_fnB, List.map_cons, List.map_nil, List.replicate, List.cons_append, List.nil_append, t_seq, t_if, t_next, t_break, t_cont, t_ret, t_retN, t_set, t_WS, t_put, t_par, t_for, t_asg, t_setR, t_drop, wg_two, wg_three, wg_nm, ws_nx, ws_rt, wi_of, wi_rg, wi_st, w_lc0, w_ssc, w_lc, w_lent, w_var, w_C, w_1, w_2, w_nil, w_cons, w_L, w_B, w_T, w_yes, w_bAnd, w_bOr, w_bNot, w_And, w_Or, w_Not, w_If, w_chain, w_only, w_cut, w_meth, w_newK, w_newT, w_call, w_callB, w_callK, w_w, wo_some, wq_ret, gd0, gdS, ls0, lsS, asBl_bl, isLs_l, ob_l, setAll, true_and, and_true, d_add, d_addI, d_sub, d_cmp, d_neg, mk0, mk1, mk2, mk3, mk4, mk5, mt0, mt1, mt2, mt3, mt4, b_0, b_1, b_2, gGt_int, d_pow10]
  by_cases hx0 : 0 < x
  · rw [if_pos (by simpa using hx0)]
    simp only [w_fn, w_fnB, List.map_cons, List.map_nil, List.replicate, List.cons_append, List.nil_append, t_seq, t_if, t_next, t_break, t_cont, t_ret, t_retN, t_set, t_WS, t_put, t_par, t_for, t_asg, t_setR, t_drop, wg_two, wg_three, wg_nm, ws_nx, ws_rt, wi_of, wi_rg, wi_st, w_lc0, w_ssc, w_lc, w_lent, w_var, w_C, w_1, w_2, w_nil, w_cons, w_L, w_B, w_T, w_yes, w_bAnd, w_bOr, w_bNot, w_And, w_Or, w_Not, w_If, w_chain, w_only, w_cut, w_meth, w_newK, w_newT, w_call, w_callB, w_callK, w_w, wo_some, wq_ret, gd0, gdS, ls0, lsS, asBl_bl, isLs_l, ob_l, setAll, true_and, and_true, d_add, d_addI, d_sub, d_cmp, d_neg, mk0, mk1, mk2, mk3, mk4, mk5, mt0, mt1, mt2, mt3, mt4, d_mod en, d_div en (by omega), b_0, p_0, nlc_box]
    have q0 := Int.emod_nonneg x (show (n : Int) ≠ 0 by omega)
    have q1 := Int.emod_lt_of_pos x en
    exact ⟨(x % n).toNat, by show D.int _ = D.int _; congr 1; omega, by omega, c, by omega, by omega, ⟨_, _, rfl, Int.ediv_nonneg hx (by omega), hy, hy2⟩, hc0⟩
  · rw [if_neg (by simpa using hx0)]
    have ex : x = 0 := by omega
    subst ex
    rw [if_neg (by simp; omega)]
    have m1 : 0 ≤ c1 * (c + 1) := Int.mul_nonneg h1.1 (by omega)
    have m2 : c1 * (c + 1) ≤ 1000000 * (c + 1) := Int.mul_le_mul_of_nonneg_right (by omega) (by omega)
    have q0 := Int.emod_nonneg ((y + c1 * (c + 1)) ^ 5) (show (2147483647 : Int) ≠ 0 by omega)
    have q1 := Int.emod_lt_of_pos ((y + c1 * (c + 1)) ^ 5) (show (0 : Int) < 2147483647 by omega)
    simp only [w_fn, w_fnB, List.map_cons, List.map_nil, List.replicate, List.cons_append, List.nil_append, t_seq, t_if, t_next, t_break, t_cont, t_ret, t_retN, t_set, t_WS, t_put, t_par, t_for, t_asg, t_setR, t_drop, wg_two, wg_three, wg_nm, ws_nx, ws_rt, wi_of, wi_rg, wi_st, w_lc0, w_ssc, w_lc, w_lent, w_var, w_C, w_1, w_2, w_nil, w_cons, w_L, w_B, w_T, w_yes, w_bAnd, w_bOr, w_bNot, w_And, w_Or, w_Not, w_If, w_chain, w_only, w_cut, w_meth, w_newK, w_newT, w_call, w_callB, w_callK, w_w, wo_some, wq_ret, gd0, gdS, ls0, lsS, asBl_bl, isLs_l, ob_l, setAll, true_and, and_true, d_add, d_addI, d_sub, d_cmp, d_neg, mk0, mk1, mk2, mk3, mk4, mk5, mt0, mt1, mt2, mt3, mt4, b_0, b_1, b_2, p_2, d_mul (CMul.sm' h1.1 (show c1 < 2 ^ 64 by omega)), d_pow5 (i := y + c1 * (c + 1)) (by omega), d_mod (show (0 : Int) < 2147483647 by omega), d_mod h2.1, nlc_box]
    rw [d_mul (CMul.sm' q0 (by omega))]
    simp only [w_fn, w_fnB, List.map_cons, List.map_nil, List.replicate, List.cons_append, List.nil_append, t_seq, t_if, t_next, t_break, t_cont, t_ret, t_retN, t_set, t_WS, t_put, t_par, t_for, t_asg, t_setR, t_drop, wg_two, wg_three, wg_nm, ws_nx, ws_rt, wi_of, wi_rg, wi_st, w_lc0, w_ssc, w_lc, w_lent, w_var, w_C, w_1, w_2, w_nil, w_cons, w_L, w_B, w_T, w_yes, w_bAnd, w_bOr, w_bNot, w_And, w_Or, w_Not, w_If, w_chain, w_only, w_cut, w_meth, w_newK, w_newT, w_call, w_callB, w_callK, w_w, wo_some, wq_ret, gd0, gdS, ls0, lsS, asBl_bl, isLs_l, ob_l, setAll, true_and, and_true, d_add, d_addI, d_sub, d_cmp, d_neg, mk0, mk1, mk2, mk3, mk4, mk5, mt0, mt1, mt2, mt3, mt4, d_mul (CMul.sr (show (0 : Int) ≤ 7919 by omega) (by omega)), d_mod (show (0 : Int) < 2147483629 by omega), d_div (show (0 : Int) < 64 by omega) (by omega : (64 : Int) < 1073741824), d_mod en, nlc_box]
    generalize (_ : Int) / 64 = z
    have r0 := Int.emod_nonneg z (show (n : Int) ≠ 0 by omega)
    have r1 := Int.emod_lt_of_pos z en
    exact ⟨(z % n).toNat, by show D.int _ = D.int _; congr 1; omega, by omega, c + 1, by omega, by omega, ⟨0, y, rfl, by omega, hy, hy2⟩, by omega⟩
end MP

set_option maxRecDepth 100000
namespace MP
open PySem PySem.Spec PyProof.Rows L2
theorem Drew.fr {b : Nat} {S1 S2 : Ms} {c k : Int} (h : Drew b S1 c k S2) : Fr [b] S1 S2 := h.1
theorem Fr.setN {ms : List Nat} {S S1 : Ms} (a : Fr ms S S1) {n : Nat} {o : Ob} (h : n ∈ ms ∨ S.length ≤ n) : Fr ms S (S1.set n o) :=
  ⟨by rw [List.length_set]; exact a.1, fun k h1 h2 => by rw [List.getElem?_set_ne (fun z => by subst z; rcases h with h | h; exact h2 h; omega)]; exact a.2 k h1 h2⟩
theorem eraseIdx_mapM {α β : Type} (f : α → β) : ∀ (l : List α) (i : Nat), (l.map f).eraseIdx i = (l.eraseIdx i).map f
  | [], _ => rfl
  | x :: xs, 0 => rfl
  | x :: xs, i + 1 => by simp only [List.map_cons, List.eraseIdx_cons_succ, eraseIdx_mapM f xs i]
theorem perm_eraseIdx {α : Type} : ∀ (l : List α) (i : Nat) (h : i < l.length), (l[i] :: l.eraseIdx i).Perm l
  | x :: xs, 0, _ => .refl _
  | x :: xs, i + 1, h => by
    simp only [List.getElem_cons_succ, List.eraseIdx_cons_succ]
    exact (List.Perm.swap _ _ _).trans ((perm_eraseIdx xs i (by simpa using h)).cons _)
variable {T : List PV → Ms → Out PV}
theorem Fr.len {ms : List Nat} {S S' : Ms} (h : Fr ms S S') : S.length ≤ S'.length := h.1
end MP

set_option maxRecDepth 100000
namespace MP
open PySem PySem.Spec PyProof.Rows L2
variable {T : List PV → Ms → Out PV}
theorem lim_of {n : Nat} (h : n ≤ 10000000) : n < lim := Nat.lt_of_le_of_lt h (by decide)
end MP

set_option maxRecDepth 100000
namespace MP
open PySem PySem.Spec PyProof.Rows L2
variable {T : List PV → Ms → Out PV}
theorem perm_range {ns : List Nat} {n : Nat} (h : ns.Perm (List.range n)) : ns.length = n ∧ ∀ x ∈ ns, x < n :=
  ⟨by rw [h.length_eq]; simp, fun x hx => by have := h.mem_iff.mp hx; simpa using this⟩
theorem all_set {P : Nat → Prop} {ns : List Nat} {i k : Nat} (h : ∀ x ∈ ns, P x) (hk : P k) : ∀ x ∈ ns.set i k, P x := fun x hx => by
  rcases List.mem_or_eq_of_mem_set hx with z | z
  · exact h x z
  · rw [z]; exact hk
end MP

set_option maxRecDepth 100000
namespace MP
open PySem PySem.Spec PyProof.Rows L2
variable {T : List PV → Ms → Out PV}
/-- a state of people: tuples of pointers -/
def Sta (ns : List Nat) : Prop := ∀ x ∈ ns, x < ns.length
end MP

set_option maxRecDepth 100000
namespace MP
open PySem PySem.Spec PyProof.Rows L2
variable {T : List D → FO}
theorem More.le {c k k' : Int} {b : D} (h : More c k b) (hk : k ≤ k') : More c k' b := let ⟨c', h1, h2, h3⟩ := h; ⟨c', h1, by omega, h3⟩
theorem okd0 {fr : Bool} {d : D} : okD false fr d = true := id rfl
theorem nl_nat {n : Nat} : noLsts [dn n] = true := id rfl
theorem toPys_dns (k : Nat) : ∀ ns : List Nat, toPys k (dns ns) = some (dvs ns)
  | [] => by unfold toPys; rfl
  | n :: ns => by
    show toPys k (dn n :: dns ns) = _
    rw [toPys, toPys_dns k ns]
    cases k <;> simp [toPy, dvs, dv]
theorem toPy_dnsT (k : Nat) (ns : List Nat) : toPy (k + 1) (.tup (dns ns)) = some (.tuple (dvs ns)) := by rw [toPy, toPys_dns]; rfl
theorem d_popAt {ns : List Nat} {i : Nat} (h : i < ns.length) (h2 : ns.length ≤ 10000000) : gPop (.lst (dns ns)) [.int (i : Nat)] = some (dn (ns.getD i 0), .lst (dns (ns.eraseIdx i))) := by
  have e : seqIndex? (i : Int) (dns ns).length = some i := by
    rw [dns_len]
    unfold seqIndex?
    simp; omega
  have e2 : (dns ns)[i]? = some (dn (ns.getD i 0)) := by rw [List.getElem?_map, List.getD_eq_getElem?_getD, List.getElem?_eq_getElem h]; rfl
  simp only [gPop]
  rw [if_pos (by omega), e]
  dsimp only
  rw [e2]
  dsimp only
  rw [eraseIdx_mapM]
theorem dns_snoc (ns : List Nat) (n : Nat) : dns ns ++ [dn n] = dns (ns ++ [n]) := by simp
theorem dn_add (a b : Nat) : D.int ((a : Int) + (b : Int)) = dn (a + b) := by show D.int _ = D.int _; congr 1
theorem dn_add1 (b : Nat) : D.int (1 + (b : Int)) = dn (1 + b) := dn_add 1 b
theorem dn_addr (b : Nat) : D.int ((b : Int) + 1) = dn (b + 1) := dn_add b 1
theorem dn_mod (a b : Nat) : D.int (((a : Nat) : Int) % ((b : Nat) : Int)) = dn (a % b) := by show D.int _ = D.int _; congr 1
theorem dn_sub1 {a : Nat} (h : 1 ≤ a) : D.int ((a : Int) - 1) = dn (a - 1) := by show D.int _ = D.int _; congr 1; omega
theorem range_split {n k : Nat} {pre post : List Nat} (h : List.range n = pre ++ k :: post) : k < n ∧ pre.length = k := by
  have h1 : (List.range n)[pre.length]? = some k := by rw [h]; simp
  have hl : pre.length < n := by
    have := congrArg List.length h
    simp at this; omega
  rw [List.getElem?_range hl] at h1
  cases h1
  exact ⟨hl, rfl⟩
theorem gLt_int {i j : Int} : gLt (.int i) (.int j) = some (.bl (decide (i < j))) := id rfl
theorem gLe_int {i j : Int} : gLe (.int i) (.int j) = some (.bl (decide (i ≤ j))) := id rfl
end MP

set_option maxRecDepth 100000
namespace MP
open PySem PySem.Spec PyProof.Rows L2
variable {T : List D → FO}
theorem enm_dns (ns : List Nat) : enmD (dns ns) = ((List.range ns.length).zip ns).map fun p => .tup [dn p.1, dn p.2] := by
  unfold enmD
  rw [dns_len]
  show List.map _ ((List.range ns.length).zip (ns.map dn)) = _
  rw [List.zip_map_right, List.map_map]; rfl
theorem zip_split {ns : List Nat} {pre post : List (Nat × Nat)} {x : Nat × Nat} (h : (List.range ns.length).zip ns = pre ++ x :: post) : x.1 = pre.length ∧ x.1 < ns.length ∧ ns.getD x.1 0 = x.2 := by
  have h1 : ((List.range ns.length).zip ns)[pre.length]? = some x := by rw [h]; simp
  rw [List.getElem?_zip_eq_some] at h1
  obtain ⟨a, b⟩ := h1
  have hl : pre.length < ns.length := (List.getElem?_eq_some_iff.mp b).1
  rw [List.getElem?_range hl] at a
  cases x with
  | mk u v =>
    cases a
    exact ⟨rfl, hl, by rw [List.getD_eq_getElem?_getD, b]; rfl⟩
theorem d_mulL {k : Nat} {x : D} (hk : k ≤ 10000000) : gMul (.lst [x]) (.int (k : Nat)) = some (.lst (List.replicate k x)) := by
  simp only [gMul]
  rw [if_pos ⟨by omega, by omega, by rw [Int.toNat_natCast]; simp; exact limle hk⟩]
  have e : (List.replicate k [x]).flatten = List.replicate k x := by
    induction k with
    | zero => rfl
    | succ k ih => rw [List.replicate_succ, List.flatten_cons, ih (by omega)]; rfl
  rw [Int.toNat_natCast, e]
theorem items_l {xs : List D} : itemsD (.lst xs) = some xs := id rfl
theorem wipe1 {e : DE} {i : Nat} : wipeD e [i] = e.set i none := id rfl
end MP

set_option maxRecDepth 100000
namespace MP
open PySem PySem.Spec PyProof.Rows L2
/-! ### what is alike -/
mutual
def goodD : Nat → D → Bool
  | _, .non => true
  | _, .bl _ => true
  | _, .int _ => true
  | _, .str s => PyData.canLay0 (.str s)
  | k + 1, .tup xs => decide (xs.length ≤ 10000000) && goodDs k xs
  | k + 1, .lst xs => decide (xs.length ≤ 10000000) && goodDs k xs
  | _, _ => false
def goodDs : Nat → List D → Bool
  | _, [] => true
  | k, x :: xs => goodD k x && goodDs k xs
end
theorem tr_bl {b : Bool} : truthD (.bl b) = some b := id rfl
theorem bools {a : Bool} : (a == a) = true := by cases a <;> rfl
end MP

set_option maxRecDepth 100000
namespace MP
open PySem PySem.Spec PyProof.Rows L2
/-! ### slices -/
section
variable {S : Ms} {Q : PV → Ms → Prop} {xs : List PV} {lo hi : Option Int}
end
/-! ### whole numbers -/
abbrev zvs (zs : List Int) : List PV := zs.map PV.int
theorem zvs_get {zs : List Int} {i : Nat} : (zvs zs)[i]? = zs[i]?.map PV.int := List.getElem?_map ..
theorem r_pow18 {S : Ms} {Q : PV → Ms → Prop} : Ret (oPow (.int 10) (.int 18) S) Q = Q (.int 1000000000000000000) S := by
  have h := r_pow (S := S) (Q := Q) (i := 10) (k := 18) (by refine ⟨?_, ?_, ?_⟩ <;> decide)
  rw [show ((10 : Int) ^ 18) = 1000000000000000000 by decide] at h
  exact h
theorem r_abs {i : Int} {S : Ms} {Q : PV → Ms → Prop} : Ret (oAbs [.int i] S) Q = Q (.int (if i < 0 then -i else i)) S := id rfl
theorem r_intB {b : Bool} {S : Ms} {Q : PV → Ms → Prop} : Ret (oInt [.bl b] S) Q = Q (.int (if b then 1 else 0)) S := id rfl
end MP

set_option maxRecDepth 100000
namespace MP
open PySem PySem.Spec PyProof.Rows L2
theorem r_truthB {b : Bool} {S : Ms} {QB : Bool → Ms → Prop} : Ret (truth (.bl b) S) QB = QB b S := id rfl
/-- what a list comprehension that yields only True brings -/
theorem bls_rep : ∀ n : Nat, blsP (List.replicate n (.bl true)) = some (List.replicate n true)
  | 0 => rfl
  | n + 1 => by rw [List.replicate_succ]; simp only [blsP, bls_rep n]; rfl
theorem r_all {S : Ms} {n k : Nat} {Q : PV → Ms → Prop} (h : S[n]? = some (.lst (List.replicate k (.bl true)))) : Ret (oAll [.loc n] S) Q = Q (.bl true) S := by
  simp [oAll, lstOf, h, bls_rep, Ret]
theorem Rd.fr0 {S S' : Ms} {k : Nat} {x : PV} {d : PyData} (h : Rd S k x d) (f : Fr [] S S') : Rd S' k x d := by
  induction h with
  | non => exact .non
  | bl b => exact .bl b
  | int i => exact .int i
  | str s h => exact .str s h
  | tup hb hl h ih => exact .tup hb hl ih
  | lst e hb hl h ih => exact .lst (f.get e (by simp)) hb hl ih
theorem r_isN {x : PV} {S : Ms} {Q : PV → Ms → Prop} : Ret (oIsN x .non S) Q = Q (.bl (isNon x)) S := id rfl
theorem bb (b : Bool) : (b == b) = true := by simp
end MP

set_option maxRecDepth 100000
namespace MP
open PySem PySem.Spec PyProof.Rows L2
/-! ### what calls do -/
def step (ps : List Nat) (w : Nat) : List Nat := ps.set w (ps.getD (ps.getD w 0) 0)
def run (ps : List Nat) (ws : List Nat) : List Nat := ws.foldl step ps
theorem getD_lt {ps : List Nat} (h : Sta ps) {w : Nat} (hw : w < ps.length) : ps.getD w 0 < ps.length := by
  rw [List.getD_eq_getElem?_getD, List.getElem?_eq_getElem hw]; exact h _ (List.getElem_mem hw)
/-! ### the package -/
end MP

set_option maxRecDepth 100000
namespace MP
open PySem PySem.Spec PyProof.Rows L2
theorem range_get {α : Type} {n i : Nat} {f : Nat → α} {v : α} (h : ((List.range n).map f)[i]? = some v) : i < n ∧ v = f i := by
  rw [List.getElem?_map] at h
  by_cases hk : i < n
  · rw [List.getElem?_range hk] at h; cases h; exact ⟨hk, rfl⟩
  · rw [List.getElem?_eq_none (by simp; omega)] at h; cases h
theorem range_at {α : Type} {n i : Nat} {f : Nat → α} : ((List.range n).map f)[i]? = if i < n then some (f i) else none := by
  rw [List.getElem?_map]
  by_cases hk : i < n
  · rw [List.getElem?_range hk, if_pos hk]; rfl
  · rw [List.getElem?_eq_none (by simp; omega), if_neg hk]; rfl
/-! ### the law's own -/
variable {T : List PV → Ms → Out PV}
end MP

set_option maxRecDepth 100000
namespace MP
open PySem PySem.Spec PyProof.Rows L2
end MP

set_option maxRecDepth 100000
namespace MP
open PySem PySem.Spec PyProof.Rows L2
/-- a box is drawn from; all is right -/
def RightB (R : List PV → Ms → Out PV) (m : Int) : Prop := ∀ (b : Nat) (S : Ms) (c : Int), Box b S c → c + m < 1099511627776 → Ret (R [.loc b] S) fun v S' => v = .bl true ∧ Drew b S c m S'
theorem RightB.mono {R : List PV → Ms → Out PV} {m m' : Int} (h : RightB R m) (hm : m ≤ m') : RightB R m' := fun b S c hb hc =>
  (h b S c hb (by omega)).mono fun v S' ⟨e, f, c', h1, h2, h3⟩ => ⟨e, f, c', h1, by omega, h3⟩
theorem true_of3 {o : Out PV} (h : Ret o fun v _ => v = .bl true) : ∃ S', o = .ret (.bl true) S' := by
  cases o with
  | ret v S => exact ⟨S, by rw [show v = _ from h]⟩
  | exc _ _ => exact h.elim
  | fail => exact h.elim
end MP

set_option maxRecDepth 100000
namespace MP
open PySem PySem.Spec PyProof.Rows L2
/-! ### repr of sequences of small numbers -/
/-! texts that are plain -/
end MP

set_option maxRecDepth 100000
namespace MP
open PySem PySem.Spec PyProof.Rows L2
/-! ### ways: who is met from w by following the pointers -/
abbrev nx (ps : List Nat) (w : Nat) : Nat := ps.getD w 0
def it (ps : List Nat) (w : Nat) : Nat → Nat
  | 0 => w
  | k + 1 => nx ps (it ps w k)
def met (ps : List Nat) (w L : Nat) : List Nat := (List.range L).map fun k => it ps w (k + 1)
section
variable {ps : List Nat} {w : Nat}
theorem it_add (a k : Nat) : it ps w (a + k) = it ps (it ps w a) k := by
  induction k with
  | zero => rfl
  | succ k ih => show nx ps (it ps w (a + k)) = nx ps _; rw [ih]
theorem it_lt (hs : Sta ps) (hw : w < ps.length) : ∀ k, it ps w k < ps.length
  | 0 => hw
  | k + 1 => getD_lt hs (it_lt hs hw k)
theorem met_succ {L : Nat} : met ps w (L + 1) = met ps w L ++ [it ps w (L + 1)] := by simp [met, List.range_succ]
theorem met_len {L : Nat} : (met ps w L).length = L := by simp [met]
theorem met_get {L i : Nat} (h : i < L) : (met ps w L)[i]? = some (it ps w (i + 1)) := by
  unfold met; rw [range_at, if_pos h]
theorem mem_met {L x : Nat} : x ∈ met ps w L ↔ ∃ i, i < L ∧ it ps w (i + 1) = x := by
  simp [met]
theorem met_nodup {L : Nat} (h : ∀ k, k < L → it ps w (k + 1) ∉ met ps w k) : (met ps w L).Nodup := by
  induction L with
  | zero => simp [met]
  | succ L ih =>
    rw [met_succ, List.nodup_append]
    refine ⟨ih fun k hk => h k (by omega), by simp, ?_⟩
    intro a ha b hb e
    rw [List.mem_singleton] at hb
    subst hb; subst e
    exact h L (by omega) ha
theorem nodup_le : ∀ {n : Nat} {l : List Nat}, l.Nodup → (∀ x ∈ l, x < n) → l.length ≤ n
  | 0, [], _, _ => Nat.le_refl _
  | 0, x :: _, _, h => absurd (h x (by simp)) (by omega)
  | n + 1, l, hd, h => by
    have h1 : (l.filter (· ≠ n)).length ≤ n := nodup_le (hd.sublist List.filter_sublist) fun x hx => by
      have hx' := List.mem_filter.mp hx
      have := h x hx'.1
      have h2 : x ≠ n := by simpa using hx'.2
      omega
    have h2 : l.length ≤ (l.filter (· ≠ n)).length + 1 := by
      have key : ∀ l : List Nat, l.Nodup → l.length ≤ (l.filter (· ≠ n)).length + 1 := by
        intro l
        induction l with
        | nil => intro _; simp
        | cons x l ih =>
          intro hd
          have hd' := List.nodup_cons.mp hd
          by_cases e : x = n
          · have : l.filter (· ≠ n) = l := List.filter_eq_self.mpr fun y hy => by
              simp only [ne_eq, decide_not, Bool.not_eq_true', decide_eq_false_iff_not]
              intro z; subst z; subst e; exact hd'.1 hy
            rw [List.filter_cons_of_neg (by simp [e]), this]; simp
          · rw [List.filter_cons_of_pos (by simpa using e)]
            have := ih hd'.2
            simp only [List.length_cons]; omega
      exact key l hd
    omega
theorem least {P : Nat → Prop} : ∀ n, P n → ∃ L, L ≤ n ∧ P L ∧ ∀ k, k < L → ¬ P k := by
  intro n
  induction n using Nat.strongRecOn with
  | _ n ih =>
    intro h
    by_cases z : ∃ k, k < n ∧ P k
    · obtain ⟨k, hk, pk⟩ := z
      obtain ⟨L, h1, h2, h3⟩ := ih k hk pk
      exact ⟨L, by omega, h2, h3⟩
    · exact ⟨n, Nat.le_refl _, h, fun k hk pk => z ⟨k, hk, pk⟩⟩
theorem way_ex (hs : Sta ps) (hw : w < ps.length) : ∃ L, L ≤ ps.length ∧ it ps w (L + 1) ∈ met ps w L ∧ ∀ k, k < L → it ps w (k + 1) ∉ met ps w k := by
  by_cases h : ∃ L, L ≤ ps.length ∧ it ps w (L + 1) ∈ met ps w L
  · obtain ⟨n, hn, hm⟩ := h
    obtain ⟨L, h1, h2, h3⟩ := least (P := fun L => it ps w (L + 1) ∈ met ps w L) n hm
    exact ⟨L, by omega, h2, h3⟩
  · have nd : (met ps w (ps.length + 1)).Nodup := met_nodup fun k hk hm => h ⟨k, by omega, hm⟩
    have := nodup_le nd fun x hx => by
      obtain ⟨i, _, rfl⟩ := mem_met.mp hx
      exact it_lt hs hw _
    rw [met_len] at this
    omega
end
/-- how many are met -/
noncomputable def wl (ps : List Nat) (w : Nat) : Nat := open Classical in if h : Sta ps ∧ w < ps.length then Classical.choose (way_ex h.1 h.2) else 0
noncomputable def wayL (ps : List Nat) (w : Nat) : List Nat := met ps w (wl ps w)
section
variable {ps : List Nat} {w : Nat}
theorem wl_spec (hs : Sta ps) (hw : w < ps.length) : wl ps w ≤ ps.length ∧ it ps w (wl ps w + 1) ∈ met ps w (wl ps w) ∧ ∀ k, k < wl ps w → it ps w (k + 1) ∉ met ps w k := by
  have e : wl ps w = Classical.choose (way_ex hs hw) := by unfold wl; rw [dif_pos ⟨hs, hw⟩]
  rw [e]; exact Classical.choose_spec (way_ex hs hw)
theorem wl_pos (hs : Sta ps) (hw : w < ps.length) : 1 ≤ wl ps w := by
  have h := (wl_spec hs hw).2.1
  cases e : wl ps w with
  | zero => rw [e] at h; simp [met] at h
  | succ k => omega
/-- a step of the loop that finds a way -/
theorem way_stop (hs : Sta ps) (hw : w < ps.length) {k : Nat} (hk : k ≤ wl ps w) : it ps w (k + 1) ∈ met ps w k ↔ k = wl ps w := by
  obtain ⟨_, h2, h3⟩ := wl_spec hs hw
  constructor
  · intro h
    by_cases z : k < wl ps w
    · exact absurd h (h3 k z)
    · omega
  · rintro rfl; exact h2
/-- where the ring begins -/
theorem ring_at (hs : Sta ps) (hw : w < ps.length) : ∃ b, b < wl ps w ∧ it ps w (b + 1) = it ps w (wl ps w + 1) := mem_met.mp (wl_spec hs hw).2.1
theorem it_turn {b L : Nat} (h : it ps w (b + 1) = it ps w (L + 1)) (hb : b < L) : ∀ m, it ps w (b + 1 + m) = it ps w (b + 1 + m % (L - b)) := by
  intro m
  induction m using Nat.strongRecOn with
  | _ m ih =>
    by_cases z : m < L - b
    · rw [Nat.mod_eq_of_lt z]
    · have e1 : b + 1 + m = L + 1 + (m - (L - b)) := by omega
      have e2 : it ps w (b + 1 + m) = it ps w (b + 1 + (m - (L - b))) := by
        rw [e1, it_add, ← h, ← it_add]
      rw [e2, ih (m - (L - b)) (by omega)]
      congr 2
      exact (Nat.mod_eq_sub_mod (by omega)).symm
end
end MP

set_option maxRecDepth 100000
namespace MP
open PySem PySem.Spec PyProof.Rows L2
/-! ### the least number of a list -/
theorem d_min {v : D} {l : List Nat} (hv : SqD v (dns l)) (hl : l ≠ []) : ∃ m, m ∈ l ∧ (∀ x ∈ l, m ≤ x) ∧ gMin [v] = some (dn m) := by
  cases l with
  | nil => exact absurd rfl hl
  | cons a l =>
    obtain ⟨h1', h23⟩ := minL_spec (l.map fun (n : Nat) => (n : Int)) a
    have h1 := List.mem_cons.mp h1'
    have h2 := h23 a (by simp)
    have h3 : ∀ y ∈ (l.map fun (n : Nat) => (n : Int)), _ := fun y hy => h23 y (List.mem_cons_of_mem _ hy)
    have e : gMin [v] = some (.int (minL a (l.map fun (n : Nat) => (n : Int)))) := by
      have ei : intsD (dns (a :: l)) = some ((a : Int) :: l.map fun (n : Nat) => (n : Int)) := intsD_dns (a :: l)
      rcases hv with rfl | rfl <;> (simp only [gMin]; rw [ei])
    have hm : ∃ m : Nat, m ∈ a :: l ∧ minL (a : Int) (l.map fun (n : Nat) => (n : Int)) = (m : Int) := by
      rcases h1 with h | h
      · exact ⟨a, by simp, h⟩
      · obtain ⟨m, hm, e⟩ := List.mem_map.mp h
        exact ⟨m, by simp [hm], e.symm⟩
    obtain ⟨m, hm, em⟩ := hm
    rw [em] at e h2 h3
    refine ⟨m, hm, fun x hx => ?_, e⟩
    rcases List.mem_cons.mp hx with rfl | hx
    · omega
    · have := h3 (x : Int) (List.mem_map.mpr ⟨x, hx, rfl⟩); omega
theorem flatDs_dns : ∀ ns : List Nat, flatDs (dns ns) = some (ns.map fun (n : Nat) => V.int n)
  | [] => rfl
  | n :: ns => by
    show flatDs (dn n :: dns ns) = _
    simp only [flatDs, flatD, flatDs_dns ns, List.map_cons]
theorem inV_dns {i : Nat} {ns : List Nat} : inV (V.int (i : Nat)) (ns.map fun (n : Nat) => V.int n) = decide (i ∈ ns) := by
  rw [Bool.eq_iff_iff]
  simp [inV, eqV]
  exact ⟨fun ⟨x, hx, e⟩ => by have : x = i := by omega
                              rw [← this]; exact hx, fun hx => ⟨i, hx, rfl⟩⟩
theorem d_inB {v : D} {i : Nat} {ns : List Nat} (h : SqD v (dns ns)) : gInB (.int (i : Nat)) v = some (decide (i ∈ ns)) := by
  rcases h with rfl | rfl <;> simp only [gInB, gInS, itemsD, flatD, flatDs_dns, inV_dns]
theorem d_notIn {v : D} {i : Nat} {ns : List Nat} (h : SqD v (dns ns)) : gNotIn (.int (i : Nat)) v = some (.bl (!decide (i ∈ ns))) := by unfold gNotIn; rw [d_inB h]; rfl
theorem d_in {v : D} {i : Nat} {ns : List Nat} (h : SqD v (dns ns)) : gIn (.int (i : Nat)) v = some (.bl (decide (i ∈ ns))) := by unfold gIn; rw [d_inB h]; rfl
/-! ### rings -/
section
variable {ps : List Nat} {w r m p : Nat}
/-- r comes back to itself after p steps and not before -/
structure Per (ps : List Nat) (r p : Nat) : Prop where
  pos : 1 ≤ p
  back : it ps r p = r
  first : ∀ k, 1 ≤ k → k < p → it ps r k ≠ r
noncomputable def lastW (ps : List Nat) (w : Nat) : Nat := it ps w (wl ps w)
theorem per_last (hs : Sta ps) (hw : w < ps.length) : ∃ p, Per ps (lastW ps w) p ∧ p ≤ ps.length := by
  obtain ⟨b, hb, e⟩ := MP.ring_at hs hw
  obtain ⟨h1, h2, h3⟩ := wl_spec hs hw
  have turn := it_turn e hb
  refine ⟨wl ps w - b, ⟨by omega, ?_, fun k k1 k2 z => ?_⟩, by omega⟩
  · unfold lastW
    rw [← it_add]
    have e1 : wl ps w + (wl ps w - b) = b + 1 + (2 * (wl ps w - b) - 1) := by omega
    rw [e1, turn]
    have e2 : (2 * (wl ps w - b) - 1) % (wl ps w - b) = wl ps w - b - 1 := by
      have : 2 * (wl ps w - b) - 1 = (wl ps w - b - 1) + (wl ps w - b) := by omega
      rw [this, Nat.add_mod_right, Nat.mod_eq_of_lt (by omega)]
    rw [e2]; congr 1; omega
  · unfold lastW at z
    rw [← it_add] at z
    have e1 : wl ps w + k = b + 1 + (wl ps w - b - 1 + k) := by omega
    have e2 : (wl ps w - b - 1 + k) % (wl ps w - b) = k - 1 := by
      have : wl ps w - b - 1 + k = (k - 1) + (wl ps w - b) := by omega
      rw [this, Nat.add_mod_right, Nat.mod_eq_of_lt (by omega)]
    rw [e1, turn, e2] at z
    have := h3 (wl ps w - 1) (by omega)
    rw [show wl ps w - 1 + 1 = wl ps w by omega] at this
    exact this (mem_met.mpr ⟨b + k - 1, by omega, by rw [show b + k - 1 + 1 = b + 1 + (k - 1) by omega]; exact z⟩)
theorem Per.turn (h : Per ps r p) (a : Nat) : it ps r (a + p) = it ps r a := by rw [Nat.add_comm, it_add, h.back]
theorem Per.many (h : Per ps r p) (a : Nat) : ∀ t, it ps r (a + p * t) = it ps r a
  | 0 => rfl
  | t + 1 => by rw [Nat.mul_succ, ← Nat.add_assoc, h.turn, h.many a t]
theorem Per.it (h : Per ps r p) (j : Nat) : Per ps (MP.it ps r j) p := by
  refine ⟨h.pos, by rw [← it_add, h.turn], fun k k1 k2 z => ?_⟩
  rw [← it_add] at z
  have z2 : MP.it ps r (j + k + (p - 1) * j) = MP.it ps r (j + (p - 1) * j) := by rw [it_add, z, ← it_add]
  have e1 : j + (p - 1) * j = 0 + p * j := by
    have : p * j = (p - 1) * j + j := by rw [← Nat.succ_mul]; congr 1; have := h.pos; omega
    omega
  have e2 : j + k + (p - 1) * j = k + p * j := by omega
  rw [e2, e1, h.many, h.many] at z2
  exact h.first k k1 k2 z2
theorem Per.uniq {q : Nat} (h : Per ps r p) (h' : Per ps r q) : p = q := by
  by_cases z : p < q
  · exact absurd h.back (h'.first p h.pos z)
  · by_cases z : q < p
    · exact absurd h'.back (h.first q h'.pos z)
    · omega
theorem Per.apart (h : Per ps r p) {i k : Nat} (hik : i < k) (hk : k < i + p) : MP.it ps r i ≠ MP.it ps r k := fun z => by
  refine (h.it i).first (k - i) (by omega) (by omega) ?_
  rw [← it_add, z]; congr 1; omega
theorem wl_per (hs : Sta ps) (hr : r < ps.length) (h : Per ps r p) : wl ps r = p := by
  obtain ⟨h1, h2, h3⟩ := wl_spec hs hr
  have out : ∀ k, k < p → MP.it ps r (k + 1) ∉ met ps r k := fun k hk z => by
    obtain ⟨i, hi, e⟩ := mem_met.mp z
    exact h.apart (i := i + 1) (k := k + 1) (by omega) (by omega) e
  by_cases z : wl ps r < p
  · exact absurd h2 (out _ z)
  · by_cases z : p < wl ps r
    · refine absurd (mem_met.mpr ⟨0, h.pos, ?_⟩) (h3 p z)
      rw [Nat.add_comm p 1, h.turn]
    · omega
/-- the ring from m on -/
def lapL (ps : List Nat) (m p : Nat) : List Nat := (List.range p).map (it ps m)
theorem lapL_len {m : Nat} : (lapL ps m p).length = p := by simp [lapL]
theorem mem_lap {x : Nat} : x ∈ lapL ps m p ↔ ∃ i, i < p ∧ it ps m i = x := by simp [lapL]
theorem mem_lap_met (h : Per ps r p) {x : Nat} : x ∈ met ps r p ↔ x ∈ lapL ps r p := by
  rw [mem_met, mem_lap]
  constructor
  · rintro ⟨i, hi, e⟩
    by_cases z : i + 1 < p
    · exact ⟨i + 1, z, e⟩
    · have : i + 1 = 0 + p := by omega
      rw [this, h.turn] at e
      exact ⟨0, h.pos, e⟩
  · rintro ⟨i, hi, e⟩
    cases i with
    | zero => refine ⟨p - 1, by have := h.pos; omega, ?_⟩; rw [show p - 1 + 1 = 0 + p by have := h.pos; omega, h.turn]; exact e
    | succ i => exact ⟨i, by omega, e⟩
def mn (l : List Nat) : Nat := l.min?.getD 0
theorem mn_eq {l : List Nat} (hm : m ∈ l) (hle : ∀ x ∈ l, m ≤ x) : mn l = m := by
  unfold mn
  rw [List.min?_eq_some_iff.mpr ⟨hm, hle⟩]; rfl
/-- the ring of w, from its least member on -/
noncomputable def ringL (ps : List Nat) (w : Nat) : List Nat := lapL ps (mn (met ps (lastW ps w) (wl ps (lastW ps w)))) (wl ps (lastW ps w))
theorem ringL_eq (hs : Sta ps) (hw : w < ps.length) (h : Per ps (lastW ps w) p) (hm : m ∈ met ps (lastW ps w) p) (hle : ∀ x ∈ met ps (lastW ps w) p, m ≤ x) : ringL ps w = lapL ps m p := by
  have e : wl ps (lastW ps w) = p := wl_per hs (it_lt hs hw _) h
  unfold ringL
  rw [e, mn_eq hm hle]
end
end MP

set_option maxRecDepth 100000
namespace MP
open PySem PySem.Spec PyProof.Rows L2
variable {ps : List Nat} {w r m p : Nat} {v : D}
/-! ### the law's ways and rings -/
theorem dcut_from (xs : List D) (k : Nat) (h : k ≤ xs.length) : cutD xs (some (k : Int)) none = xs.drop k := by
  unfold cutD
  rw [HT.sIx_none, HT.sIx_nat, Nat.min_eq_left h, List.take_of_length_le (by simp)]
theorem dcut_to (xs : List D) (k : Nat) (h : k ≤ xs.length) : cutD xs none (some (k : Int)) = xs.take k := by
  unfold cutD
  rw [HT.sIx_none, HT.sIx_nat, Nat.min_eq_left h]; rfl
theorem part_i {i : Int} : partD (.int i) = some (some i) := id rfl
theorem part_n : partD .non = some none := id rfl
theorem cut_t {xs : List D} {lo hi : Option Int} : gCut (.tup xs) lo hi = some (.tup (cutD xs lo hi)) := id rfl
theorem way_last (hs : Sta ps) (hw : w < ps.length) : ∃ h : wayL ps w ≠ [], (wayL ps w).getLast h = lastW ps w := by
  have h1 := wl_pos hs hw
  have ne : wayL ps w ≠ [] := fun z => by have := congrArg List.length z; rw [wayL, met_len] at this; simp at this; omega
  refine ⟨ne, ?_⟩
  rw [List.getLast_eq_getElem]
  have e : (wayL ps w).length - 1 = wl ps w - 1 := by rw [wayL, met_len]
  have g : (wayL ps w)[(wayL ps w).length - 1]? = some (it ps w (wl ps w)) := by
    rw [e, wayL, met_get (by omega), show wl ps w - 1 + 1 = wl ps w by omega]
  rw [List.getElem?_eq_some_iff] at g
  exact g.2
end MP

set_option maxRecDepth 100000
namespace MP
open PySem PySem.Spec PyProof.Rows L2
variable {ps : List Nat} {w r m p : Nat} {v : D}
theorem Per.mod (h : Per ps r p) (a : Nat) : MP.it ps r a = MP.it ps r (a % p) := by
  have := h.many (a % p) (a / p)
  rw [Nat.mod_add_div] at this
  exact this
theorem Per.home (h : Per ps r p) (j : Nat) : MP.it ps (MP.it ps r j) ((p - 1) * j) = r := by
  rw [← it_add]
  have e1 : j + (p - 1) * j = 0 + p * j := by
    have : p * j = (p - 1) * j + j := by rw [← Nat.succ_mul]; congr 1; have h0 := h.pos; omega
    omega
  rw [e1, h.many]; rfl
theorem lap_sub (h : Per ps r p) (j : Nat) {x : Nat} (hx : x ∈ lapL ps (it ps r j) p) : x ∈ lapL ps r p := by
  obtain ⟨i, hi, e⟩ := mem_lap.mp hx
  rw [← it_add, h.mod] at e
  exact mem_lap.mpr ⟨_, Nat.mod_lt _ h.pos, e⟩
theorem mem_lap_it (h : Per ps r p) (j : Nat) {x : Nat} : x ∈ lapL ps (it ps r j) p ↔ x ∈ lapL ps r p := by
  refine ⟨lap_sub h j, fun hx => lap_sub (h.it j) ((p - 1) * j) ?_⟩
  rw [h.home]; exact hx
theorem per_min (h : Per ps r p) : ∃ m, m ∈ met ps r p ∧ ∀ x ∈ met ps r p, m ≤ x := by
  have ne : met ps r p ≠ [] := fun z => by have := congrArg List.length z; rw [met_len] at this; have h0 := h.pos; simp at this; omega
  obtain ⟨m, h1, h2, _⟩ := d_min (SqD.l (xs := dns (met ps r p))) ne
  exact ⟨m, h1, h2⟩
theorem ringL_same (hs : Sta ps) {w' a b : Nat} (hw : w < ps.length) (hw' : w' < ps.length) (e : it ps w a = it ps w' b) : ringL ps w = ringL ps w' := by
  obtain ⟨p, hp, _⟩ := per_last hs hw
  obtain ⟨p', hp', _⟩ := per_last hs hw'
  have e2 : it ps (lastW ps w) (a + wl ps w') = it ps (lastW ps w') (b + wl ps w) := by
    unfold lastW
    rw [← it_add, ← it_add, show wl ps w + (a + wl ps w') = a + (wl ps w + wl ps w') by omega, it_add, e, ← it_add]
    congr 1; omega
  have pp : p = p' := (hp.it (a + wl ps w')).uniq (by rw [e2]; exact hp'.it _)
  subst pp
  have mem : ∀ x, x ∈ met ps (lastW ps w) p ↔ x ∈ met ps (lastW ps w') p := fun x => by
    rw [mem_lap_met hp, mem_lap_met hp', ← mem_lap_it hp (a + wl ps w'), e2, mem_lap_it hp']
  obtain ⟨m, h1, h2⟩ := per_min hp
  rw [ringL_eq hs hw hp h1 h2, ringL_eq hs hw' hp' ((mem m).mp h1) fun x hx => h2 x ((mem x).mpr hx)]
theorem ringL_it (hs : Sta ps) (hw : w < ps.length) (k : Nat) : ringL ps (it ps w k) = ringL ps w := ringL_same hs (it_lt hs hw k) hw (a := 0) (b := k) rfl
theorem ringL_ne (hs : Sta ps) (hw : w < ps.length) : 1 ≤ (ringL ps w).length ∧ (ringL ps w).length ≤ ps.length := by
  obtain ⟨p, hp, hpl⟩ := per_last hs hw
  obtain ⟨m, h1, h2⟩ := per_min hp
  rw [ringL_eq hs hw hp h1 h2, lapL_len]
  exact ⟨hp.pos, hpl⟩
/-! ### dicts of people -/
def kvs (ns : List Nat) : List (Key × D) := ns.map fun (n : Nat) => (Sum.inl (n : Int), D.bl true)
theorem kvs_len {ns : List Nat} : (kvs ns).length = ns.length := by simp [kvs]
theorem val_kvs {ns : List Nat} {x : Nat} : (valG (kvs ns) (Sum.inl (x : Int))).isSome = decide (x ∈ ns) := by
  unfold valG kvs
  rw [Option.isSome_map, Bool.eq_iff_iff, List.find?_isSome, decide_eq_true_eq]
  constructor
  · rintro ⟨kv, h1, h2⟩
    obtain ⟨n, hn, rfl⟩ := List.mem_map.mp h1
    have : n = x := by
      simp only [decide_eq_true_eq, Sum.inl.injEq] at h2
      omega
    rw [← this]; exact hn
  · intro h
    exact ⟨_, List.mem_map.mpr ⟨x, h, rfl⟩, by simp⟩
theorem d_notInK {ns : List Nat} {x : Nat} : gNotIn (.int (x : Nat)) (.dK (kvs ns)) = some (.bl (!decide (x ∈ ns))) := by
  simp only [gNotIn, gInB, getD2, keyD, Option.map_some, val_kvs]
theorem d_putK {ns : List Nat} {x : Nat} (h : x ∉ ns) (hl : ns.length ≤ 10000000) : putD (.dK (kvs ns)) (.int (x : Nat)) (.bl true) = some (.dK (kvs (ns ++ [x]))) := by
  simp only [putD, kvs_len]
  rw [if_pos (limlt hl)]
  have : ((kvs ns).any fun kv => decide (kv.1 = (Sum.inl (x : Int) : Key))) = false := by
    rw [List.any_eq_false]
    intro kv hk
    obtain ⟨n, hn, rfl⟩ := List.mem_map.mp hk
    simp only [decide_eq_true_eq, Sum.inl.injEq]
    intro z
    have : n = x := by omega
    subst this; exact h hn
  simp only [keyD, Option.map_some, putG, this, Bool.false_eq_true, if_false]
  simp [kvs]
theorem d_listK {ns : List Nat} : gListOf [.dK (kvs ns)] = some (.lst (dns ns)) := by
  simp only [gListOf, kvs, List.map_map]
  rfl
theorem ob_k {kv : List (Key × D)} : objD (.dK kv) = true := id rfl
/-! ### the program's -/
noncomputable def P_Qway : List D → FO := qFn 2 (qSeq (qPar [2, 3] (qCons qNewK (qCons (q2 (qVar 0) (qVar 1) gSub1) qNil)))
  (qSeq (qWhile (qB (q2 (qVar 3) (qVar 2) gNotIn))
  (qSeq (qPut 2 (qVar 3) (qC (.bl true)))
  (qSet 3 (q2 (qVar 0) (qVar 3) gSub1))))
  (qRet (qL (qCons (qVar 2) qNil) gListOf))))
theorem pway_ok (hs : Sta ps) (hw : w < ps.length) (hv : SqD v (dns ps)) (hl : ps.length ≤ 1000000) : Wf (P_Qway [v, .int (w : Nat)]) fun d _ => d = .lst (dns (wayL ps w)) := by
  have hwl := (wl_spec hs hw).1
  unfold P_Qway
  simp only [w_fn, w_fnB, List.map_cons, List.map_nil, List.replicate, List.cons_append, List.nil_append, t_seq, t_if, t_next, t_break, t_cont, t_ret, t_retN, t_set, t_WS, t_put, t_par, t_for, t_asg, t_setR, t_drop, wg_two, wg_three, wg_nm, ws_nx, ws_rt, wi_of, wi_rg, wi_st, w_lc0, w_ssc, w_lc, w_lent, w_var, w_C, w_1, w_2, w_nil, w_cons, w_L, w_B, w_T, w_yes, w_bAnd, w_bOr, w_bNot, w_And, w_Or, w_Not, w_If, w_chain, w_only, w_cut, w_meth, w_newK, w_newT, w_call, w_callB, w_callK, w_w, wo_some, wq_ret, gd0, gdS, ls0, lsS, asBl_bl, isLs_l, ob_l, setAll, true_and, and_true, d_add, d_addI, d_sub, d_cmp, d_neg, mk0, mk1, mk2, mk3, mk4, mk5, mt0, mt1, mt2, mt3, mt4, d_subN hv hw, List.length_cons, List.length_nil]
  refine ⟨rfl, ?_⟩
  refine t_while (I := fun k e => ∃ j, k = wl ps w - j ∧ j ≤ wl ps w ∧ e = [some v, some (dn w), some (.dK (kvs (met ps w j))), some (dn (it ps w (j + 1)))]) (wl ps w) (fuelle (by omega)) ⟨0, rfl, Nat.zero_le _, rfl⟩ ?_
  rintro k e ⟨j, rfl, hj, rfl⟩
  have hlt := it_lt hs hw (j + 1)
  simp only [w_fn, w_fnB, List.map_cons, List.map_nil, List.replicate, List.cons_append, List.nil_append, t_seq, t_if, t_next, t_break, t_cont, t_ret, t_retN, t_set, t_WS, t_put, t_par, t_for, t_asg, t_setR, t_drop, wg_two, wg_three, wg_nm, ws_nx, ws_rt, wi_of, wi_rg, wi_st, w_lc0, w_ssc, w_lc, w_lent, w_var, w_C, w_1, w_2, w_nil, w_cons, w_L, w_B, w_T, w_yes, w_bAnd, w_bOr, w_bNot, w_And, w_Or, w_Not, w_If, w_chain, w_only, w_cut, w_meth, w_newK, w_newT, w_call, w_callB, w_callK, w_w, wo_some, wq_ret, gd0, gdS, ls0, lsS, asBl_bl, isLs_l, ob_l, setAll, true_and, and_true, d_add, d_addI, d_sub, d_cmp, d_neg, mk0, mk1, mk2, mk3, mk4, mk5, mt0, mt1, mt2, mt3, mt4, d_notInK]
  by_cases h : it ps w (j + 1) ∈ met ps w j
  · rw [if_neg (by simpa using h), (way_stop hs hw hj).mp h]
    simp only [w_fn, w_fnB, List.map_cons, List.map_nil, List.replicate, List.cons_append, List.nil_append, t_seq, t_if, t_next, t_break, t_cont, t_ret, t_retN, t_set, t_WS, t_put, t_par, t_for, t_asg, t_setR, t_drop, wg_two, wg_three, wg_nm, ws_nx, ws_rt, wi_of, wi_rg, wi_st, w_lc0, w_ssc, w_lc, w_lent, w_var, w_C, w_1, w_2, w_nil, w_cons, w_L, w_B, w_T, w_yes, w_bAnd, w_bOr, w_bNot, w_And, w_Or, w_Not, w_If, w_chain, w_only, w_cut, w_meth, w_newK, w_newT, w_call, w_callB, w_callK, w_w, wo_some, wq_ret, gd0, gdS, ls0, lsS, asBl_bl, isLs_l, ob_l, setAll, true_and, and_true, d_add, d_addI, d_sub, d_cmp, d_neg, mk0, mk1, mk2, mk3, mk4, mk5, mt0, mt1, mt2, mt3, mt4, d_listK]; rfl
  · rw [if_pos (by simpa using h)]
    have hj' : j < wl ps w := by
      rcases Nat.lt_or_ge j (wl ps w) with z | z
      · exact z
      · exact absurd ((way_stop hs hw hj).mpr (by omega)) h
    simp only [w_fn, w_fnB, List.map_cons, List.map_nil, List.replicate, List.cons_append, List.nil_append, t_seq, t_if, t_next, t_break, t_cont, t_ret, t_retN, t_set, t_WS, t_put, t_par, t_for, t_asg, t_setR, t_drop, wg_two, wg_three, wg_nm, ws_nx, ws_rt, wi_of, wi_rg, wi_st, w_lc0, w_ssc, w_lc, w_lent, w_var, w_C, w_1, w_2, w_nil, w_cons, w_L, w_B, w_T, w_yes, w_bAnd, w_bOr, w_bNot, w_And, w_Or, w_Not, w_If, w_chain, w_only, w_cut, w_meth, w_newK, w_newT, w_call, w_callB, w_callK, w_w, wo_some, wq_ret, gd0, gdS, ls0, lsS, asBl_bl, isLs_l, ob_l, setAll, true_and, and_true, d_add, d_addI, d_sub, d_cmp, d_neg, mk0, mk1, mk2, mk3, mk4, mk5, mt0, mt1, mt2, mt3, mt4, ob_k, d_putK h (show (met ps w j).length ≤ 10000000 by rw [met_len]; omega), d_subN hv hlt]
    exact ⟨_, by omega, j + 1, rfl, by omega, by rw [met_succ]; rfl⟩
noncomputable def P_Qlap : List D → FO := qFn 2 (qSeq (qPar [2, 3] (qCons (qL (qCons (qVar 1) qNil) gList) (qCons (q2 (qVar 0) (qVar 1) gSub1) qNil)))
  (qSeq (qWhile (qB (q2 (qVar 3) (qVar 1) gNe))
  (qSeq (qWS 2 (qCons (qVar 3) qNil) gAppend)
  (qSet 3 (q2 (qVar 0) (qVar 3) gSub1))))
  (qRet (qL (qCons (qVar 2) qNil) gTupOf))))
theorem lapL_succ {k : Nat} : lapL ps m (k + 1) = lapL ps m k ++ [it ps m k] := by simp [lapL, List.range_succ]
theorem plap_ok (hs : Sta ps) (hm : m < ps.length) (h : Per ps m p) (hp : p ≤ 1000000) (hv : SqD v (dns ps)) : Wf (P_Qlap [v, .int (m : Nat)]) fun d _ => d = .tup (dns (lapL ps m p)) := by
  have h0 := h.pos
  unfold P_Qlap
  simp only [w_fn, w_fnB, List.map_cons, List.map_nil, List.replicate, List.cons_append, List.nil_append, t_seq, t_if, t_next, t_break, t_cont, t_ret, t_retN, t_set, t_WS, t_put, t_par, t_for, t_asg, t_setR, t_drop, wg_two, wg_three, wg_nm, ws_nx, ws_rt, wi_of, wi_rg, wi_st, w_lc0, w_ssc, w_lc, w_lent, w_var, w_C, w_1, w_2, w_nil, w_cons, w_L, w_B, w_T, w_yes, w_bAnd, w_bOr, w_bNot, w_And, w_Or, w_Not, w_If, w_chain, w_only, w_cut, w_meth, w_newK, w_newT, w_call, w_callB, w_callK, w_w, wo_some, wq_ret, gd0, gdS, ls0, lsS, asBl_bl, isLs_l, ob_l, setAll, true_and, and_true, d_add, d_addI, d_sub, d_cmp, d_neg, mk0, mk1, mk2, mk3, mk4, mk5, mt0, mt1, mt2, mt3, mt4, d_subN hv hm, List.length_cons, List.length_nil]
  refine ⟨rfl, ?_⟩
  refine t_while (I := fun k e => ∃ j, k = p - j ∧ 1 ≤ j ∧ j ≤ p ∧ e = [some v, some (dn m), some (.lst (dns (lapL ps m j))), some (dn (it ps m j))]) (p - 1) (fuelle (by omega)) ⟨1, rfl, by omega, by omega, rfl⟩ ?_
  rintro k e ⟨j, rfl, hj1, hj, rfl⟩
  have hlt := it_lt hs hm j
  simp only [w_fn, w_fnB, List.map_cons, List.map_nil, List.replicate, List.cons_append, List.nil_append, t_seq, t_if, t_next, t_break, t_cont, t_ret, t_retN, t_set, t_WS, t_put, t_par, t_for, t_asg, t_setR, t_drop, wg_two, wg_three, wg_nm, ws_nx, ws_rt, wi_of, wi_rg, wi_st, w_lc0, w_ssc, w_lc, w_lent, w_var, w_C, w_1, w_2, w_nil, w_cons, w_L, w_B, w_T, w_yes, w_bAnd, w_bOr, w_bNot, w_And, w_Or, w_Not, w_If, w_chain, w_only, w_cut, w_meth, w_newK, w_newT, w_call, w_callB, w_callK, w_w, wo_some, wq_ret, gd0, gdS, ls0, lsS, asBl_bl, isLs_l, ob_l, setAll, true_and, and_true, d_add, d_addI, d_sub, d_cmp, d_neg, mk0, mk1, mk2, mk3, mk4, mk5, mt0, mt1, mt2, mt3, mt4, d_neI, nat_eqI]
  by_cases z : it ps m j = m
  · rw [if_neg (by simpa using z)]
    have : j = p := by
      rcases Nat.lt_or_ge j p with q | q
      · exact absurd z (h.first j hj1 q)
      · omega
    subst this
    simp only [w_fn, w_fnB, List.map_cons, List.map_nil, List.replicate, List.cons_append, List.nil_append, t_seq, t_if, t_next, t_break, t_cont, t_ret, t_retN, t_set, t_WS, t_put, t_par, t_for, t_asg, t_setR, t_drop, wg_two, wg_three, wg_nm, ws_nx, ws_rt, wi_of, wi_rg, wi_st, w_lc0, w_ssc, w_lc, w_lent, w_var, w_C, w_1, w_2, w_nil, w_cons, w_L, w_B, w_T, w_yes, w_bAnd, w_bOr, w_bNot, w_And, w_Or, w_Not, w_If, w_chain, w_only, w_cut, w_meth, w_newK, w_newT, w_call, w_callB, w_callK, w_w, wo_some, wq_ret, gd0, gdS, ls0, lsS, asBl_bl, isLs_l, ob_l, setAll, true_and, and_true, d_add, d_addI, d_sub, d_cmp, d_neg, mk0, mk1, mk2, mk3, mk4, mk5, mt0, mt1, mt2, mt3, mt4, d_tup SqD.l]
  · rw [if_pos (by simpa using z)]
    have : j ≠ p := fun q => z (by rw [q]; exact h.back)
    simp only [w_fn, w_fnB, List.map_cons, List.map_nil, List.replicate, List.cons_append, List.nil_append, t_seq, t_if, t_next, t_break, t_cont, t_ret, t_retN, t_set, t_WS, t_put, t_par, t_for, t_asg, t_setR, t_drop, wg_two, wg_three, wg_nm, ws_nx, ws_rt, wi_of, wi_rg, wi_st, w_lc0, w_ssc, w_lc, w_lent, w_var, w_C, w_1, w_2, w_nil, w_cons, w_L, w_B, w_T, w_yes, w_bAnd, w_bOr, w_bNot, w_And, w_Or, w_Not, w_If, w_chain, w_only, w_cut, w_meth, w_newK, w_newT, w_call, w_callB, w_callK, w_w, wo_some, wq_ret, gd0, gdS, ls0, lsS, asBl_bl, isLs_l, ob_l, setAll, true_and, and_true, d_add, d_addI, d_sub, d_cmp, d_neg, mk0, mk1, mk2, mk3, mk4, mk5, mt0, mt1, mt2, mt3, mt4, d_app (show (dns (lapL ps m j)).length < lim by rw [dns_len, lapL_len]; exact limlt (by omega)), dns_snoc, d_subN hv hlt]
    exact ⟨_, by omega, j + 1, rfl, by omega, by omega, by rw [lapL_succ]; rfl⟩
noncomputable def P_Qring_at : List D → FO := qFn 0 (qRet (qCall 2 false true (qCons (qVar 0) (qCons (qL (qCons (qCall 2 false true (qCons (qVar 0) (qCons (q2 (qCall 2 false true (qCons (qVar 0) (qCons (qVar 1) qNil)) P_Qway) (q1 (qC (.int 1)) gNeg) gSub1) qNil)) P_Qlap) qNil) gMin) qNil)) P_Qlap))
theorem pring_at_ok (hs : Sta ps) (hw : w < ps.length) (hv : SqD v (dns ps)) (hl : ps.length ≤ 1000000) : Wf (P_Qring_at [v, .int (w : Nat)]) fun d _ => d = .tup (dns (ringL ps w)) := by
  obtain ⟨ne, hlast⟩ := way_last hs hw
  obtain ⟨p, hp, hpl⟩ := per_last hs hw
  have hr : lastW ps w < ps.length := it_lt hs hw _
  have nem : lapL ps (lastW ps w) p ≠ [] := fun z => by have := congrArg List.length z; rw [lapL_len] at this; have h0 := hp.pos; simp at this; omega
  obtain ⟨m, hm, hle, emin⟩ := d_min (SqD.t (xs := dns (lapL ps (lastW ps w) p))) nem
  obtain ⟨j, hj, ej⟩ := mem_lap.mp hm
  unfold P_Qring_at
  simp only [w_fn, w_fnB, List.map_cons, List.map_nil, List.replicate, List.cons_append, List.nil_append, t_seq, t_if, t_next, t_break, t_cont, t_ret, t_retN, t_set, t_WS, t_put, t_par, t_for, t_asg, t_setR, t_drop, wg_two, wg_three, wg_nm, ws_nx, ws_rt, wi_of, wi_rg, wi_st, w_lc0, w_ssc, w_lc, w_lent, w_var, w_C, w_1, w_2, w_nil, w_cons, w_L, w_B, w_T, w_yes, w_bAnd, w_bOr, w_bNot, w_And, w_Or, w_Not, w_If, w_chain, w_only, w_cut, w_meth, w_newK, w_newT, w_call, w_callB, w_callK, w_w, wo_some, wq_ret, gd0, gdS, ls0, lsS, asBl_bl, isLs_l, ob_l, setAll, true_and, and_true, d_add, d_addI, d_sub, d_cmp, d_neg, mk0, mk1, mk2, mk3, mk4, mk5, mt0, mt1, mt2, mt3, mt4, List.length_cons, List.length_nil, Nat.zero_add, Nat.reduceAdd, okd0]
  refine (pway_ok hs hw hv hl).mono fun u _ hu => ?_
  subst hu
  simp only [w_fn, w_fnB, List.map_cons, List.map_nil, List.replicate, List.cons_append, List.nil_append, t_seq, t_if, t_next, t_break, t_cont, t_ret, t_retN, t_set, t_WS, t_put, t_par, t_for, t_asg, t_setR, t_drop, wg_two, wg_three, wg_nm, ws_nx, ws_rt, wi_of, wi_rg, wi_st, w_lc0, w_ssc, w_lc, w_lent, w_var, w_C, w_1, w_2, w_nil, w_cons, w_L, w_B, w_T, w_yes, w_bAnd, w_bOr, w_bNot, w_And, w_Or, w_Not, w_If, w_chain, w_only, w_cut, w_meth, w_newK, w_newT, w_call, w_callB, w_callK, w_w, wo_some, wq_ret, gd0, gdS, ls0, lsS, asBl_bl, isLs_l, ob_l, setAll, true_and, and_true, d_add, d_addI, d_sub, d_cmp, d_neg, mk0, mk1, mk2, mk3, mk4, mk5, mt0, mt1, mt2, mt3, mt4, d_last (SqD.l (xs := dns (wayL ps w))) ne, hlast]
  refine (plap_ok hs hr hp (by omega) hv).mono fun u _ hu => ?_
  subst hu
  simp only [w_fn, w_fnB, List.map_cons, List.map_nil, List.replicate, List.cons_append, List.nil_append, t_seq, t_if, t_next, t_break, t_cont, t_ret, t_retN, t_set, t_WS, t_put, t_par, t_for, t_asg, t_setR, t_drop, wg_two, wg_three, wg_nm, ws_nx, ws_rt, wi_of, wi_rg, wi_st, w_lc0, w_ssc, w_lc, w_lent, w_var, w_C, w_1, w_2, w_nil, w_cons, w_L, w_B, w_T, w_yes, w_bAnd, w_bOr, w_bNot, w_And, w_Or, w_Not, w_If, w_chain, w_only, w_cut, w_meth, w_newK, w_newT, w_call, w_callB, w_callK, w_w, wo_some, wq_ret, gd0, gdS, ls0, lsS, asBl_bl, isLs_l, ob_l, setAll, true_and, and_true, d_add, d_addI, d_sub, d_cmp, d_neg, mk0, mk1, mk2, mk3, mk4, mk5, mt0, mt1, mt2, mt3, mt4, emin]
  have hpm : Per ps m p := by rw [← ej]; exact hp.it j
  refine (plap_ok hs (by rw [← ej]; exact it_lt hs hr j) hpm (by omega) hv).mono fun u _ hu => ?_
  rw [hu, ringL_eq hs hw hp ((mem_lap_met hp).mpr hm) fun x hx => hle x ((mem_lap_met hp).mp hx)]
end MP

set_option maxRecDepth 100000
namespace MP
open PySem PySem.Spec PyProof.Rows L2
variable {ps : List Nat} {w r m p : Nat} {v : D}
/-! ### sorted sets -/
abbrev zn (ns : List Nat) : List Int := ns.map fun (n : Nat) => (n : Int)
theorem zn_back (ns : List Nat) : (zn ns).map Int.toNat = ns := by
  rw [List.map_map]
  have : (Int.toNat ∘ fun (n : Nat) => (n : Int)) = id := by funext n; simp
  rw [this, List.map_id]
theorem sortI_nodup {l : List Int} (h : l.Nodup) : (sortI l).Nodup := (sortI_perm l).nodup_iff.mpr h
theorem zmem {x : Nat} {l : List Nat} : (x : Int) ∈ zn l ↔ x ∈ l := by
  rw [List.mem_map]
  exact ⟨fun ⟨a, ha, e⟩ => by have : a = x := by omega
                              rw [← this]; exact ha, fun h => ⟨x, h, rfl⟩⟩
theorem sortSet_nat (l : List Nat) (h : l.length < 60) : ∃ u : List Nat, sortSet (dns l) = some (dns u) ∧ u.Nodup ∧ ∀ x, x ∈ u ↔ x ∈ l := by
  have mem : ∀ x, x ∈ sortI (dd (zn l)) ↔ x ∈ zn l := fun x => by rw [(sortI_perm _).mem_iff, mem_dd]
  have nd : (sortI (dd (zn l))).Nodup := sortI_nodup (nodup_dd _)
  have e : ∃ u : List Nat, sortI (dd (zn l)) = zn u := by
    have : ∀ q : List Int, (∀ x ∈ q, ∃ n : Nat, x = n) → ∃ u : List Nat, q = zn u := by
      intro q
      induction q with
      | nil => intro _; exact ⟨[], rfl⟩
      | cons x q ih =>
        intro hq
        obtain ⟨n, rfl⟩ := hq x (by simp)
        obtain ⟨u, rfl⟩ := ih fun y hy => hq y (List.mem_cons_of_mem _ hy)
        exact ⟨n :: u, rfl⟩
    refine this _ fun x hx => ?_
    obtain ⟨n, _, e⟩ := List.mem_map.mp ((mem x).mp hx)
    exact ⟨n, e.symm⟩
  obtain ⟨u, eu⟩ := e
  refine ⟨u, ?_, ?_, fun x => ?_⟩
  · unfold sortSet
    rw [intsD_dns]
    dsimp only
    rw [if_pos (by simpa using h), eu, dns_dzs]
  · rw [eu] at nd
    exact List.Pairwise.of_map _ (fun a b hab e => hab (by rw [e])) nd
  · have := mem (x : Int)
    rw [eu] at this
    rwa [zmem, zmem] at this
abbrev tupN (k : List Nat) : D := .tup (dns k)
theorem tsD_tupN : ∀ A : List (List Nat), tsD (A.map tupN) = some (A.map zn)
  | [] => rfl
  | k :: A => by
    show tsD (.tup (dns k) :: A.map tupN) = _
    simp only [tsD, intsD_dns, tsD_tupN A, List.map_cons]
noncomputable def sortN (A : List (List Nat)) : List (List Nat) := (sortL (dd (A.map zn))).map fun k => k.map Int.toNat
theorem zn_inj {a b : List Nat} (h : zn a = zn b) : a = b := by rw [← zn_back a, ← zn_back b, h]
theorem sortN_zn (A : List (List Nat)) : (sortN A).map zn = sortL (dd (A.map zn)) := by
  unfold sortN
  rw [List.map_map]
  have : ∀ k ∈ sortL (dd (A.map zn)), (zn ∘ fun k => k.map Int.toNat) k = k := fun k hk => by
    rw [(sortL_perm _).mem_iff, mem_dd] at hk
    obtain ⟨a, _, rfl⟩ := List.mem_map.mp hk
    simp only [Function.comp, zn_back]
  exact (List.map_congr_left this).trans (List.map_id _)
theorem mem_sortN {A : List (List Nat)} {k : List Nat} : k ∈ sortN A ↔ k ∈ A := by
  have h1 : zn k ∈ (sortN A).map zn ↔ zn k ∈ A.map zn := by rw [sortN_zn, (sortL_perm _).mem_iff, mem_dd]
  have inj : ∀ B : List (List Nat), zn k ∈ B.map zn ↔ k ∈ B := fun B => by
    rw [List.mem_map]
    exact ⟨fun ⟨a, ha, e⟩ => by rw [← zn_inj e]; exact ha, fun h => ⟨k, h, rfl⟩⟩
  rwa [inj, inj] at h1
theorem sortN_congr {A B : List (List Nat)} (h : ∀ k, k ∈ A ↔ k ∈ B) : sortN A = sortN B := by
  unfold sortN
  rw [sortL_eq (perm_of_mem (nodup_dd (A.map zn)) (nodup_dd (B.map zn)) fun x => ?_)]
  rw [mem_dd, mem_dd, List.mem_map, List.mem_map]
  exact ⟨fun ⟨a, ha, e⟩ => ⟨a, (h a).mp ha, e⟩, fun ⟨a, ha, e⟩ => ⟨a, (h a).mpr ha, e⟩⟩
theorem sortN_len (A : List (List Nat)) : (sortN A).length ≤ A.length := by
  have h1 : (sortN A).length = (dd (A.map zn)).length := by unfold sortN; rw [List.length_map, (sortL_perm _).length_eq]
  have := dd_len (A.map zn)
  rw [List.length_map] at this
  omega
theorem sortSet_tup (A : List (List Nat)) (h : A.length < 60) (ne : ∀ k ∈ A, k ≠ []) : sortSet (A.map tupN) = some ((sortN A).map tupN) := by
  cases A with
  | nil =>
    have e : sortN [] = [] := List.eq_nil_iff_forall_not_mem.mpr fun k hk => by simpa using mem_sortN.mp hk
    rw [e]
    unfold sortSet
    simp [intsD, dd, sortI]
  | cons k A =>
    have hi : intsD ((k :: A).map tupN) = none := rfl
    unfold sortSet
    rw [hi]
    dsimp only
    rw [tsD_tupN]
    dsimp only
    have hne : ∀ z ∈ (k :: A).map zn, z ≠ [] := fun z hz q => by
      obtain ⟨a, ha, rfl⟩ := List.mem_map.mp hz
      exact ne a ha (List.map_eq_nil_iff.mp q)
    rw [if_pos ⟨by simpa using h, hne⟩, ← sortN_zn, List.map_map]
    refine congrArg some (List.map_congr_left fun a _ => ?_)
    show D.tup _ = D.tup (dns a)
    rw [dns_dzs]
/-! ### rings of a state -/
noncomputable def P_Qmembers : List D → FO := qFn 3 (qSeq (qSet 1 (q1 (qL (qCons (qVar 0) qNil) gLen) gListRg1))
  (qSeq (qFor (qiRg qrng1 (qCons (qL (qCons (qVar 0) qNil) gLen) qNil)) (qNm 2)
  (qSet 1 (qSSc (qiOf (qVar 1)) (qNm 3) qYes (q2 (qVar 0) (qVar 3) gSub1) [3])))
  (qRet (qVar 1))))
theorem pmembers_ok (hs : Sta ps) (hv : SqD v (dns ps)) (hl : ps.length < 60) : Wf (P_Qmembers [v]) fun d _ => ∃ u : List Nat, d = .lst (dns u) ∧ u.Nodup ∧ ∀ x, x ∈ u ↔ ∃ w, w < ps.length ∧ it ps w ps.length = x := by
  unfold P_Qmembers
  simp only [w_fn, w_fnB, List.map_cons, List.map_nil, List.replicate, List.cons_append, List.nil_append, t_seq, t_if, t_next, t_break, t_cont, t_ret, t_retN, t_set, t_WS, t_put, t_par, t_for, t_asg, t_setR, t_drop, wg_two, wg_three, wg_nm, ws_nx, ws_rt, wi_of, wi_rg, wi_st, w_lc0, w_ssc, w_lc, w_lent, w_var, w_C, w_1, w_2, w_nil, w_cons, w_L, w_B, w_T, w_yes, w_bAnd, w_bOr, w_bNot, w_And, w_Or, w_Not, w_If, w_chain, w_only, w_cut, w_meth, w_newK, w_newT, w_call, w_callB, w_callK, w_w, wo_some, wq_ret, gd0, gdS, ls0, lsS, asBl_bl, isLs_l, ob_l, setAll, true_and, and_true, d_add, d_addI, d_sub, d_cmp, d_neg, mk0, mk1, mk2, mk3, mk4, mk5, mt0, mt1, mt2, mt3, mt4, d_len hv, dns_len, d_listRg (show ps.length ≤ 10000000 by omega), d_rng1 (show ps.length ≤ 10000000 by omega), List.length_range]
  refine ⟨limle (by omega), t_forL (φ := dn) (I := fun pre e => ∃ (u : List Nat) (x2 x3 : Option D), e = [some v, some (.lst (dns u)), x2, x3] ∧ u.Nodup ∧ ∀ x, x ∈ u ↔ ∃ w, w < ps.length ∧ it ps w pre.length = x) ⟨List.range ps.length, none, none, rfl, List.nodup_range, fun x => by simp [it]⟩ ?_ ?_⟩
  · rintro pre k post e hk ⟨u, x2, x3, rfl, h1, h2⟩
    have hu : ∀ x ∈ u, x < ps.length := fun x hx => by
      obtain ⟨w, hw, rfl⟩ := (h2 x).mp hx
      exact it_lt hs hw _
    have hul := nodup_le h1 hu
    obtain ⟨u', e1, e2, e3⟩ := sortSet_nat (u.map fun x => ps.getD x 0) (by simpa using (by omega : u.length < 60))
    simp only [w_fn, w_fnB, List.map_cons, List.map_nil, List.replicate, List.cons_append, List.nil_append, t_seq, t_if, t_next, t_break, t_cont, t_ret, t_retN, t_set, t_WS, t_put, t_par, t_for, t_asg, t_setR, t_drop, wg_two, wg_three, wg_nm, ws_nx, ws_rt, wi_of, wi_rg, wi_st, w_lc0, w_ssc, w_lc, w_lent, w_var, w_C, w_1, w_2, w_nil, w_cons, w_L, w_B, w_T, w_yes, w_bAnd, w_bOr, w_bNot, w_And, w_Or, w_Not, w_If, w_chain, w_only, w_cut, w_meth, w_newK, w_newT, w_call, w_callB, w_callK, w_w, wo_some, wq_ret, gd0, gdS, ls0, lsS, asBl_bl, isLs_l, ob_l, setAll, true_and, and_true, d_add, d_addI, d_sub, d_cmp, d_neg, mk0, mk1, mk2, mk3, mk4, mk5, mt0, mt1, mt2, mt3, mt4, items_l, dns_len]
    refine ⟨limle (by omega), w_lcM (φ := dn) (f := fun x => dn (ps.getD x 0)) (fun x hx => ?_) ?_⟩
    · simp only [wipe1, w_fn, w_fnB, List.map_cons, List.map_nil, List.replicate, List.cons_append, List.nil_append, t_seq, t_if, t_next, t_break, t_cont, t_ret, t_retN, t_set, t_WS, t_put, t_par, t_for, t_asg, t_setR, t_drop, wg_two, wg_three, wg_nm, ws_nx, ws_rt, wi_of, wi_rg, wi_st, w_lc0, w_ssc, w_lc, w_lent, w_var, w_C, w_1, w_2, w_nil, w_cons, w_L, w_B, w_T, w_yes, w_bAnd, w_bOr, w_bNot, w_And, w_Or, w_Not, w_If, w_chain, w_only, w_cut, w_meth, w_newK, w_newT, w_call, w_callB, w_callK, w_w, wo_some, wq_ret, gd0, gdS, ls0, lsS, asBl_bl, isLs_l, ob_l, setAll, true_and, and_true, d_add, d_addI, d_sub, d_cmp, d_neg, mk0, mk1, mk2, mk3, mk4, mk5, mt0, mt1, mt2, mt3, mt4, d_subN hv (hu x hx)]
    · have e0 : (u.map fun x => dn (ps.getD x 0)) = dns (u.map fun x => ps.getD x 0) := by simp [dns]
      rw [e0, e1]
      simp only [w_fn, w_fnB, List.map_cons, List.map_nil, List.replicate, List.cons_append, List.nil_append, t_seq, t_if, t_next, t_break, t_cont, t_ret, t_retN, t_set, t_WS, t_put, t_par, t_for, t_asg, t_setR, t_drop, wg_two, wg_three, wg_nm, ws_nx, ws_rt, wi_of, wi_rg, wi_st, w_lc0, w_ssc, w_lc, w_lent, w_var, w_C, w_1, w_2, w_nil, w_cons, w_L, w_B, w_T, w_yes, w_bAnd, w_bOr, w_bNot, w_And, w_Or, w_Not, w_If, w_chain, w_only, w_cut, w_meth, w_newK, w_newT, w_call, w_callB, w_callK, w_w, wo_some, wq_ret, gd0, gdS, ls0, lsS, asBl_bl, isLs_l, ob_l, setAll, true_and, and_true, d_add, d_addI, d_sub, d_cmp, d_neg, mk0, mk1, mk2, mk3, mk4, mk5, mt0, mt1, mt2, mt3, mt4]
      refine ⟨u', _, _, rfl, e2, fun x => ?_⟩
      rw [e3, List.mem_map]
      constructor
      · rintro ⟨y, hy, rfl⟩
        obtain ⟨w, hw, rfl⟩ := (h2 y).mp hy
        exact ⟨w, hw, by simp [it, nx]⟩
      · rintro ⟨w, hw, rfl⟩
        exact ⟨it ps w pre.length, (h2 _).mpr ⟨w, hw, rfl⟩, by simp [it, nx]⟩
  · rintro e ⟨u, x2, x3, rfl, h1, h2⟩
    simp only [w_fn, w_fnB, List.map_cons, List.map_nil, List.replicate, List.cons_append, List.nil_append, t_seq, t_if, t_next, t_break, t_cont, t_ret, t_retN, t_set, t_WS, t_put, t_par, t_for, t_asg, t_setR, t_drop, wg_two, wg_three, wg_nm, ws_nx, ws_rt, wi_of, wi_rg, wi_st, w_lc0, w_ssc, w_lc, w_lent, w_var, w_C, w_1, w_2, w_nil, w_cons, w_L, w_B, w_T, w_yes, w_bAnd, w_bOr, w_bNot, w_And, w_Or, w_Not, w_If, w_chain, w_only, w_cut, w_meth, w_newK, w_newT, w_call, w_callB, w_callK, w_w, wo_some, wq_ret, gd0, gdS, ls0, lsS, asBl_bl, isLs_l, ob_l, setAll, true_and, and_true, d_add, d_addI, d_sub, d_cmp, d_neg, mk0, mk1, mk2, mk3, mk4, mk5, mt0, mt1, mt2, mt3, mt4]
    exact ⟨u, rfl, h1, fun x => by rw [h2, List.length_range]⟩
noncomputable def P_Qrings : List D → FO := qFn 1 (qRet (qSSc (qiOf (qCall 1 false false (qCons (qVar 0) qNil) P_Qmembers)) (qNm 1) qYes (qCall 2 false true (qCons (qVar 0) (qCons (qVar 1) qNil)) P_Qring_at) [1]))
/-- all rings -/
noncomputable def ringsL (ps : List Nat) : List (List Nat) := sortN ((List.range ps.length).map (ringL ps))
theorem ringL_ne' (hs : Sta ps) (hw : w < ps.length) : ringL ps w ≠ [] := fun z => by have := (ringL_ne hs hw).1; rw [z] at this; simp at this
theorem mem_ringsL {k : List Nat} : k ∈ ringsL ps ↔ ∃ w, w < ps.length ∧ ringL ps w = k := by
  unfold ringsL
  rw [mem_sortN, List.mem_map]
  exact ⟨fun ⟨w, hw, e⟩ => ⟨w, List.mem_range.mp hw, e⟩, fun ⟨w, hw, e⟩ => ⟨w, List.mem_range.mpr hw, e⟩⟩
theorem prings_ok (hs : Sta ps) (hv : SqD v (dns ps)) (hl : ps.length < 60) : Wf (P_Qrings [v]) fun d _ => d = .lst ((ringsL ps).map tupN) := by
  unfold P_Qrings
  simp only [w_fn, w_fnB, List.map_cons, List.map_nil, List.replicate, List.cons_append, List.nil_append, t_seq, t_if, t_next, t_break, t_cont, t_ret, t_retN, t_set, t_WS, t_put, t_par, t_for, t_asg, t_setR, t_drop, wg_two, wg_three, wg_nm, ws_nx, ws_rt, wi_of, wi_rg, wi_st, w_lc0, w_ssc, w_lc, w_lent, w_var, w_C, w_1, w_2, w_nil, w_cons, w_L, w_B, w_T, w_yes, w_bAnd, w_bOr, w_bNot, w_And, w_Or, w_Not, w_If, w_chain, w_only, w_cut, w_meth, w_newK, w_newT, w_call, w_callB, w_callK, w_w, wo_some, wq_ret, gd0, gdS, ls0, lsS, asBl_bl, isLs_l, ob_l, setAll, true_and, and_true, d_add, d_addI, d_sub, d_cmp, d_neg, mk0, mk1, mk2, mk3, mk4, mk5, mt0, mt1, mt2, mt3, mt4, List.length_singleton, okd0]
  refine (pmembers_ok hs hv hl).mono fun u _ hh => ?_
  obtain ⟨u, rfl, h1, h2⟩ := hh
  have hu : ∀ x ∈ u, x < ps.length := fun x hx => by
    obtain ⟨w, hw, rfl⟩ := (h2 x).mp hx
    exact it_lt hs hw _
  have hul := nodup_le h1 hu
  simp only [w_fn, w_fnB, List.map_cons, List.map_nil, List.replicate, List.cons_append, List.nil_append, t_seq, t_if, t_next, t_break, t_cont, t_ret, t_retN, t_set, t_WS, t_put, t_par, t_for, t_asg, t_setR, t_drop, wg_two, wg_three, wg_nm, ws_nx, ws_rt, wi_of, wi_rg, wi_st, w_lc0, w_ssc, w_lc, w_lent, w_var, w_C, w_1, w_2, w_nil, w_cons, w_L, w_B, w_T, w_yes, w_bAnd, w_bOr, w_bNot, w_And, w_Or, w_Not, w_If, w_chain, w_only, w_cut, w_meth, w_newK, w_newT, w_call, w_callB, w_callK, w_w, wo_some, wq_ret, gd0, gdS, ls0, lsS, asBl_bl, isLs_l, ob_l, setAll, true_and, and_true, d_add, d_addI, d_sub, d_cmp, d_neg, mk0, mk1, mk2, mk3, mk4, mk5, mt0, mt1, mt2, mt3, mt4, items_l, dns_len]
  refine ⟨limle (by omega), w_lcM (φ := dn) (f := fun x => tupN (ringL ps x)) (fun x hx => ?_) ?_⟩
  · simp only [wipe1, w_fn, w_fnB, List.map_cons, List.map_nil, List.replicate, List.cons_append, List.nil_append, t_seq, t_if, t_next, t_break, t_cont, t_ret, t_retN, t_set, t_WS, t_put, t_par, t_for, t_asg, t_setR, t_drop, wg_two, wg_three, wg_nm, ws_nx, ws_rt, wi_of, wi_rg, wi_st, w_lc0, w_ssc, w_lc, w_lent, w_var, w_C, w_1, w_2, w_nil, w_cons, w_L, w_B, w_T, w_yes, w_bAnd, w_bOr, w_bNot, w_And, w_Or, w_Not, w_If, w_chain, w_only, w_cut, w_meth, w_newK, w_newT, w_call, w_callB, w_callK, w_w, wo_some, wq_ret, gd0, gdS, ls0, lsS, asBl_bl, isLs_l, ob_l, setAll, true_and, and_true, d_add, d_addI, d_sub, d_cmp, d_neg, mk0, mk1, mk2, mk3, mk4, mk5, mt0, mt1, mt2, mt3, mt4, List.length_cons, List.length_nil, Nat.zero_add, Nat.reduceAdd, okd0]
    exact (pring_at_ok hs (hu x hx) hv (by omega)).mono fun _ _ h => h
  · have e0 : (u.map fun x => tupN (ringL ps x)) = (u.map (ringL ps)).map tupN := by simp
    rw [e0, sortSet_tup _ (by simpa using (by omega : u.length < 60)) fun k hk => by obtain ⟨x, hx, rfl⟩ := List.mem_map.mp hk; exact ringL_ne' hs (hu x hx)]
    simp only [w_fn, w_fnB, List.map_cons, List.map_nil, List.replicate, List.cons_append, List.nil_append, t_seq, t_if, t_next, t_break, t_cont, t_ret, t_retN, t_set, t_WS, t_put, t_par, t_for, t_asg, t_setR, t_drop, wg_two, wg_three, wg_nm, ws_nx, ws_rt, wi_of, wi_rg, wi_st, w_lc0, w_ssc, w_lc, w_lent, w_var, w_C, w_1, w_2, w_nil, w_cons, w_L, w_B, w_T, w_yes, w_bAnd, w_bOr, w_bNot, w_And, w_Or, w_Not, w_If, w_chain, w_only, w_cut, w_meth, w_newK, w_newT, w_call, w_callB, w_callK, w_w, wo_some, wq_ret, gd0, gdS, ls0, lsS, asBl_bl, isLs_l, ob_l, setAll, true_and, and_true, d_add, d_addI, d_sub, d_cmp, d_neg, mk0, mk1, mk2, mk3, mk4, mk5, mt0, mt1, mt2, mt3, mt4]
    unfold ringsL
    rw [sortN_congr fun k => ?_]
    rw [List.mem_map, List.mem_map]
    constructor
    · rintro ⟨x, hx, rfl⟩
      exact ⟨x, List.mem_range.mpr (hu x hx), rfl⟩
    · rintro ⟨x, hx, rfl⟩
      have hx := List.mem_range.mp hx
      exact ⟨it ps x ps.length, (h2 _).mpr ⟨x, hx, rfl⟩, ringL_it hs hx _⟩
end MP

set_option maxRecDepth 100000
namespace MP
open PySem PySem.Spec PyProof.Rows L2
section
variable {Y Z X X' : List Nat} {sh : List Sh} {mu mu' mu2 : List Nat} {env env' env1 env2 : Env'} {S S' S1 S2 : Ms} {e e' e1 e2 : DE} {fps fps' fps1 fps2 : List (List Nat)} {fr : Bool} {v : PV} {d : D}
/-! ### x = [new list, new list]; if t: p; x[0].append(s); x[1].reverse(); r: what stood in x is not known any more -/
end
end MP

set_option maxRecDepth 100000
namespace MP
open PySem PySem.Spec PyProof.Rows L2
variable {ps : List Nat} {w r m p : Nat} {v : D} {T : List D → FO}
/-! ### what a ring is like -/
theorem ring_facts (hs : Sta ps) {l : List Nat} (h : l ∈ ringsL ps) : ∃ m q, l = m :: q ∧ l.length ≤ ps.length ∧ (∀ x ∈ l, x < ps.length) ∧ (∀ x ∈ l, m ≤ x) ∧ l.map (fun x => ps.getD x 0) = l.drop 1 ++ l.take 1 := by
  obtain ⟨w, hw, rfl⟩ := mem_ringsL.mp h
  obtain ⟨p, hp, hpl⟩ := per_last hs hw
  obtain ⟨m, h1, h2⟩ := per_min hp
  have e := ringL_eq hs hw hp h1 h2
  obtain ⟨j, hj, ej⟩ := mem_lap.mp ((mem_lap_met hp).mp h1)
  have hpm : Per ps m p := by rw [← ej]; exact hp.it j
  have hr : lastW ps w < ps.length := it_lt hs hw _
  have hm : m < ps.length := by rw [← ej]; exact it_lt hs hr j
  obtain ⟨k, rfl⟩ : ∃ k, p = k + 1 := ⟨p - 1, by have := hp.pos; omega⟩
  have el : lapL ps m (k + 1) = m :: met ps m k := by
    unfold lapL met
    rw [List.range_succ_eq_map, List.map_cons, List.map_map]; rfl
  rw [e]
  refine ⟨m, met ps m k, el, by rw [lapL_len]; exact hpl, fun x hx => ?_, fun x hx => ?_, ?_⟩
  · obtain ⟨i, _, rfl⟩ := mem_lap.mp hx
    exact it_lt hs hm i
  · refine h2 x ((mem_lap_met hp).mpr ?_)
    rw [← ej] at hx
    exact lap_sub hp j hx
  · have e1 : (lapL ps m (k + 1)).map (fun x => ps.getD x 0) = met ps m (k + 1) := by
      unfold lapL met
      rw [List.map_map]; rfl
    rw [e1, el, met_succ, hpm.back]; rfl
theorem d_list_tup {L : List (List Nat)} (h : L.length ≤ 10000) (h2 : ∀ k ∈ L, k.length ≤ 10000) : toPy 12 (.lst (L.map tupN)) = some (.list (L.map fun k => .tuple (dvs k))) ∧ SeqAt.shaped (.list (L.map fun k => .tuple (dvs k))) = true ∧ toPys 11 (L.map tupN) = some (L.map fun k => .tuple (dvs k)) := by
  have e : toPys 11 (L.map tupN) = some (L.map fun k => .tuple (dvs k)) := by
    induction L with
    | nil => rfl
    | cons k L ih =>
      rw [List.map_cons, toPys, toPy_dnsT, ih (by simp at h; omega) fun k hk => h2 k (by simp [hk])]
      rfl
  have r : Rd [Ob.lst (L.map fun k => .tup (ivs k))] 12 (.loc 0) (.list (L.map fun k => .tuple (dvs k))) := .lstM rfl (by omega) fun k hk => Rd.itup k (by have := h2 k hk; omega)
  refine ⟨by rw [toPy, e]; rfl, ?_, e⟩
  unfold SeqAt.shaped; rw [r.lay]; simp; have := r.dep; omega
end MP

set_option maxRecDepth 100000
namespace MP
open PySem PySem.Spec PyProof.Rows L2
variable {ps : List Nat} {w r m p : Nat} {v : D} {T : List D → FO}
end MP

set_option maxRecDepth 100000
namespace MP
open PySem PySem.Spec PyProof.Rows L2
theorem rightB_of {f : List PV → Ms → Out PV} {q : List D → FO} {fr : Bool} (hf : FL 1 fr f q) {m : Int} (h : ∀ b c, BoxD b c → c + m < 1099511627776 → Wf (q [b]) fun d b' => d = .bl true ∧ More c m b') : RightB f m := by
  intro b S c hb hc
  obtain ⟨⟨x, y, e, hx, hy, hy2⟩, hc0⟩ := hb
  have hbd : BoxD (.lst [.int x, .int y, .int c]) c := ⟨⟨x, y, rfl, hx, hy, hy2⟩, hc0⟩
  have w := h _ c hbd hc
  have k := hf S [b] b _ (.lst [.int x, .int y, .int c]) [] [] rfl (fun n hn => by rw [List.mem_singleton] at hn; subst hn; exact lt_of_get e) (by simp) e (.lst (Rps.ints [x, y, c])) .nil
  cases hq : q [D.lst [.int x, .int y, .int c]] with
  | fail => rw [hq] at w; simp only [wf_eq] at w; exact w.elim
  | exc _ _ => rw [hq] at w; simp only [wf_eq] at w; exact w.elim
  | ret d b' =>
    rw [hq] at w k
    simp only [wf_eq] at w
    obtain ⟨rfl, c', h1, h2, h3⟩ := w
    obtain ⟨v, S', o', a1, a2, a3, ⟨X0, a4⟩, _, a5⟩ := k
    rw [a1]
    obtain ⟨⟨x', y', rfl, g1, g2, g3⟩, g4⟩ := h3
    have ho : o' = .lst [.int x', .int y', .int c'] := by
      cases a4 with
      | lst r => rw [Rps.inv_ints (ns := [x', y', c']) r]; rfl
    exact ⟨a5.1.inv_bl, a2, c', h1, h2, ⟨x', y', by rw [a3, ho], g1, g2, g3⟩, g4⟩
end MP

set_option maxRecDepth 100000
namespace MP
open PySem PySem.Spec PyProof.Rows L2
/-! ### enumerate of a list or a tuple -/
def qenmA : List D → Option (List D)
  | [.lst xs] => some (enmD xs)
  | [.tup xs] => some (enmD xs)
  | _ => none
theorem st_enmA : StR enmOfA qenmA := fun S X vs ds rs r h => by
  unfold qenmA at h
  split at h
  · cases h
    obtain ⟨v, rfl, r1⟩ := rds1 r
    obtain ⟨n1, xs, rfl, e1, q1⟩ := r1.inv_lst
    refine ⟨.enm n1, _, by simp only [enmOfA, rdL, e1, Option.map_some], fun S'' hS i => ?_, rps_enm q1⟩
    have h1 : S''[n1]? = some (.lst xs) := by rw [hS n1 (by simp [rootsOf, rootOf])]; exact e1
    simp only [nxt, rdL, h1]; exact enm_at
  · cases h
    obtain ⟨v, rfl, r1⟩ := rds1 r
    obtain ⟨xs, rfl, q1⟩ := r1.inv_tup
    refine ⟨_, _, rfl, fun S'' hS i => ?_, rps_enm q1⟩
    simp only [nxt]
    refine (zip_nxQ (xs := (List.range xs.length).map fun i : Nat => PV.int i) (ys := xs) (i := i)).trans ?_
    congr 1
    rw [List.zip_map_left, List.map_map]
    rfl
  · cases h
noncomputable def gMulJ : D → D → Option D
  | .int i, .int j => if CMul i j ∨ CMulW i j then some (.int (i * j)) else none
  | _, _ => none
theorem og_mulJ : O2R .new oMulJ gMulJ := by
  intro S X x y dx dy hX h1 h2 d hd
  unfold gMulJ at hd
  split at hd
  · split at hd
    · cases hd; rw [h1.inv_int, h2.inv_int]; exact ⟨_, _, by simp only [oMulJ]; rw [if_pos (by assumption)], .refl _ _, .int _⟩
    · cases hd
  · cases hd
end MP

set_option maxRecDepth 100000
namespace MP
open PySem PySem.Spec PyProof.Rows L2
variable {ps : List Nat} {w r m p : Nat} {v : D} {T : List D → FO}
theorem t_aug {i : Nat} {g : D → D → Option D} {a : QE} {e : DE} {Z : Qe} : Ws (qAug i g a e) Z = Wo (e.getD i none) fun x => Wq (a e) fun y e1 => Wo (g x y) fun d => Z.nx (e1.set i (some d)) := by
  unfold qAug
  cases e.getD i none with
  | none => simp only [wo_none, ws_eq]; rfl
  | some x =>
    simp only [wo_some]
    rw [t_of]
    congr 1; funext y e1
    cases g x y with
    | none => simp only [wo_none, ws_eq]; rfl
    | some d => rw [wo_some, ws_nx]
theorem wipe2 {e : DE} {i j : Nat} : wipeD e [i, j] = (e.set j none).set i none := id rfl
/-! ### products -/
theorem cmulw {a b x y : Nat} (ha : a < 2 ^ x) (hb : b < 2 ^ y) (h0 : 0 < x) (h1 : 0 < y) (h : x + y ≤ 1000000) : CMulW (a : Int) (b : Int) := wide_mul (by simpa using ha) (by simpa using hb) h0 h1 h
theorem d_mulJ {a b x y : Nat} (ha : a < 2 ^ x) (hb : b < 2 ^ y) (h0 : 0 < x) (h1 : 0 < y) (h : x + y ≤ 1000000) : gMulJ (.int (a : Nat)) (.int (b : Nat)) = some (dn (a * b)) := by
  simp only [gMulJ]; rw [if_pos (.inr (cmulw ha hb h0 h1 h))]; simp [dn]
theorem mul_lt2 {a b x y : Nat} (ha : a < 2 ^ x) (hb : b < 2 ^ y) : a * b < 2 ^ (x + y) := by
  rw [Nat.pow_add]; exact Nat.mul_lt_mul'' ha hb
theorem lt2_le {a x y : Nat} (ha : a < 2 ^ x) (h : x ≤ y) : a < 2 ^ y := Nat.lt_of_lt_of_le ha (Nat.pow_le_pow_right (by decide) h)
/-! ### on a ring or not -/
theorem ring_mem (hs : Sta ps) {x : Nat} (hx : x < ps.length) : (∃ w, w < ps.length ∧ it ps w ps.length = x) ↔ x ∈ wayL ps x := by
  constructor
  · rintro ⟨w, hw, rfl⟩
    obtain ⟨p, hp, hpl⟩ := per_last hs hw
    have h1 := (wl_spec hs hw).1
    have e : it ps w ps.length = it ps (lastW ps w) (ps.length - wl ps w) := by
      unfold lastW
      rw [← it_add]; congr 1; omega
    rw [e]
    have hp2 := hp.it (ps.length - wl ps w)
    have hr := it_lt hs (it_lt hs hw (wl ps w)) (ps.length - wl ps w)
    unfold wayL
    rw [show it ps (it ps w (wl ps w)) = it ps (lastW ps w) from rfl] at hr
    rw [wl_per hs hr hp2, mem_lap_met hp2]
    exact mem_lap.mpr ⟨0, hp2.pos, rfl⟩
  · intro h
    obtain ⟨j, hj, e⟩ := mem_met.mp h
    refine ⟨it ps x ((j + 1) * ps.length - ps.length), it_lt hs hx _, ?_⟩
    have hk : ∀ k, it ps x ((j + 1) * k) = x := fun k => by
      induction k with
      | zero => rfl
      | succ k ih => rw [Nat.mul_succ, it_add, ih]; exact e
    rw [← it_add, Nat.sub_add_cancel (Nat.le_mul_of_pos_left _ (by omega))]
    exact hk _
end MP

set_option maxRecDepth 100000
namespace MP
open PySem PySem.Spec PyProof.Rows L2
section
variable {Y Z X X' : List Nat} {sh : List Sh} {mu mu' mu2 : List Nat} {env env' env1 env2 : Env'} {S S' S1 S2 : Ms} {e e' e1 e2 : DE} {fps fps' fps1 fps2 : List (List Nat)} {fr : Bool} {v : PV} {d : D} {k kk : Kd} {m n c : ME} {p q r : QE} {sl ws : List Nat}
/-! ### sorted of a list of ints or of tuples of ints -/
/-! ### d.get(k, x) -/
/-! ### a, b = .. where the names are no plain locals -/
/-! ### the values of a dict -/
end
end MP

set_option maxRecDepth 100000
namespace MP
open PySem PySem.Spec PyProof.Rows L2
section
variable {Y Z X X' : List Nat} {sh : List Sh} {mu mu' mu2 mu3 : List Nat} {env env' env1 env2 : Env'} {S S' S1 S2 : Ms} {e e' e1 e2 : DE} {fps fps' fps1 fps2 : List (List Nat)} {fr : Bool} {v : PV} {d : D} {k kk : Kd} {m n c : ME} {p q r : QE} {sl ws : List Nat}
/-! ### {k: e for x in it if ..} -/
end
end MP

set_option maxRecDepth 100000
namespace MP
open PySem PySem.Spec PyProof.Rows L2
variable {ps : List Nat} {w r m p : Nat} {v : D} {T : List D → FO}
/-! ### new rules -/
/-! ### a dict of people at once -/
/-! ### heights -/
end MP

set_option maxRecDepth 100000
namespace MP
open PySem PySem.Spec PyProof.Rows L2
variable {ps : List Nat} {w r m p : Nat} {v : D} {T : List D → FO}
/-! ### lists of tuples in order -/
theorem nodup_sortN (A : List (List Nat)) : (sortN A).Nodup := by
  have h : ((sortN A).map zn).Nodup := by rw [sortN_zn, (sortL_perm _).nodup_iff]; exact nodup_dd _
  exact List.Pairwise.of_map _ (fun a b hab e => hab (by rw [e])) h
noncomputable def sortM (A : List (List Nat)) : List (List Nat) := (sortL (A.map zn)).map fun k => k.map Int.toNat
theorem sortM_zn (A : List (List Nat)) : (sortM A).map zn = sortL (A.map zn) := by
  unfold sortM
  rw [List.map_map]
  have : ∀ k ∈ sortL (A.map zn), (zn ∘ fun k => k.map Int.toNat) k = k := fun k hk => by
    rw [(sortL_perm _).mem_iff] at hk
    obtain ⟨a, _, rfl⟩ := List.mem_map.mp hk
    simp only [Function.comp, zn_back]
  exact (List.map_congr_left this).trans (List.map_id _)
theorem sortM_perm (A : List (List Nat)) : (sortM A).Perm A := by
  have h := (sortL_perm (A.map zn)).map fun k => k.map Int.toNat
  have e : (A.map zn).map (fun k => k.map Int.toNat) = A := by
    rw [List.map_map]
    have : ∀ k ∈ A, ((fun k => k.map Int.toNat) ∘ zn) k = k := fun k _ => zn_back k
    exact (List.map_congr_left this).trans (List.map_id _)
  rw [e] at h
  exact h
theorem sortM_congr {A B : List (List Nat)} (h : A.Perm B) : sortM A = sortM B := by unfold sortM; rw [sortL_eq (h.map zn)]
/-! ### components -/
def keysN (l : List Nat) : List Key := l.map fun (n : Nat) => Sum.inl (n : Int)
theorem keysN_inj {a b : List Nat} (h : keysN a = keysN b) : a = b := by
  have e : ∀ l : List Nat, (keysN l).map (fun (k : Key) => match k with | .inl i => i.toNat | .inr _ => 0) = l := fun l => by
    induction l with
    | nil => rfl
    | cons x l ih => exact congr (congrArg List.cons (Int.toNat_natCast x)) ih
  rw [← e a, ← e b, h]
theorem keysD_tup (l : List Nat) : keysD (tupN l) = some (keysN l) := by
  show keysLD (dns l) = _
  induction l with
  | nil => rfl
  | cons x l ih => show keysLD (dn x :: dns l) = _; simp only [keysLD, keyD, ih]; rfl
/-! ### facts about components -/
end MP

set_option maxRecDepth 100000
namespace MP
open PySem PySem.Spec PyProof.Rows L2
variable {ps : List Nat} {w r m p : Nat} {v : D} {T : List D → FO}
/-! ### codes -/
theorem enmA_ok {xs : List D} (h : SqD v xs) : qenmA [v] = some (enmD xs) := by rcases h with rfl | rfl <;> rfl
/-! ### how many -/
theorem rings_len (hs : Sta ps) : (ringsL ps).length ≤ ps.length := by
  have := sortN_len ((List.range ps.length).map (ringL ps))
  rw [List.length_map, List.length_range] at this
  exact this
end MP

set_option maxRecDepth 100000
namespace MP
open PySem PySem.Spec PyProof.Rows L2
variable {ps : List Nat} {w r m p : Nat} {v : D} {T : List D → FO}
/-! ### what is alike, the second way -/
theorem mk6 {a b c d e f : D} : gList [a, b, c, d, e, f] = some (.lst [a, b, c, d, e, f]) := d_mkL (show 6 ≤ lim by decide)
/-! ### the second family's states -/
noncomputable def QstrewnB (T : List D → FO) : List D → FO := qFnB 3 (qSeq (qPar [2, 3] (qCons (qL (qCons (qVar 1) qNil) gListOf) (qCons (qL qNil gList) qNil)))
  (qSeq (qFor (qiRg qrng1 (qCons (qL (qCons (qVar 2) qNil) gLen) qNil)) (qNm 4)
  (qWS 3 (qCons (qW 2 (qCons (qCallB 2 false false 0 (qCons (qL (qCons (qVar 2) qNil) gLen) qNil) T) qNil) gPop) qNil) gAppend))
  (qRet (qVar 3))))
theorem qstrewnB_ok (hT : TakeQ T) {b v : D} {c : Int} {ns : List Nat} (hb : BoxD b c) (hc : c + ns.length < 1099511627776) (hv : SqD v (dns ns)) (hn : ns.length ≤ 1000000) :
    Wf (QstrewnB T [b, v]) fun d b' => ∃ ms : List Nat, d = .lst (dns ms) ∧ ms.Perm ns ∧ More c ns.length b' := by
  unfold QstrewnB
  simp only [w_fn, w_fnB, List.map_cons, List.map_nil, List.replicate, List.cons_append, List.nil_append, t_seq, t_if, t_next, t_break, t_cont, t_ret, t_retN, t_set, t_WS, t_put, t_par, t_for, t_asg, t_setR, t_drop, wg_two, wg_three, wg_nm, ws_nx, ws_rt, wi_of, wi_rg, wi_st, w_lc0, w_ssc, w_lc, w_lent, w_var, w_C, w_1, w_2, w_nil, w_cons, w_L, w_B, w_T, w_yes, w_bAnd, w_bOr, w_bNot, w_And, w_Or, w_Not, w_If, w_chain, w_only, w_cut, w_meth, w_newK, w_newT, w_call, w_callB, w_callK, w_w, wo_some, wq_ret, gd0, gdS, ls0, lsS, asBl_bl, isLs_l, ob_l, setAll, true_and, and_true, d_add, d_addI, d_sub, d_cmp, d_neg, mk0, mk1, mk2, mk3, mk4, mk5, mt0, mt1, mt2, mt3, mt4, d_list hv, mk0, d_lenL, dns_len, d_rng1 (show ns.length ≤ 10000000 by omega), List.length_range]
  refine ⟨rfl, limle (by omega), ?_⟩
  refine t_forL (φ := dn) (I := fun pre e => ∃ (b' : D) (left got : List Nat) (c' : Int) (x4 : Option D), e = [some b', some v, some (.lst (dns left)), some (.lst (dns got)), x4] ∧ left.length + pre.length = ns.length ∧ (left ++ got).Perm ns ∧ c ≤ c' ∧ c' ≤ c + pre.length ∧ BoxD b' c') ⟨b, ns, [], c, none, rfl, by simp, by simp, by omega, by simp, hb⟩ ?_ ?_
  · rintro pre k post e hsp ⟨b', left, got, c', x4, rfl, hlen, hp, h1, h2, hb'⟩
    obtain ⟨hk, hpk⟩ := range_split hsp
    have hpl := hp.length_eq
    rw [List.length_append] at hpl
    have hpos : 0 < left.length := by omega
    simp only [w_fn, w_fnB, List.map_cons, List.map_nil, List.replicate, List.cons_append, List.nil_append, t_seq, t_if, t_next, t_break, t_cont, t_ret, t_retN, t_set, t_WS, t_put, t_par, t_for, t_asg, t_setR, t_drop, wg_two, wg_three, wg_nm, ws_nx, ws_rt, wi_of, wi_rg, wi_st, w_lc0, w_ssc, w_lc, w_lent, w_var, w_C, w_1, w_2, w_nil, w_cons, w_L, w_B, w_T, w_yes, w_bAnd, w_bOr, w_bNot, w_And, w_Or, w_Not, w_If, w_chain, w_only, w_cut, w_meth, w_newK, w_newT, w_call, w_callB, w_callK, w_w, wo_some, wq_ret, gd0, gdS, ls0, lsS, asBl_bl, isLs_l, ob_l, setAll, true_and, and_true, d_add, d_addI, d_sub, d_cmp, d_neg, mk0, mk1, mk2, mk3, mk4, mk5, mt0, mt1, mt2, mt3, mt4, hb'.obj, d_lenL, dns_len, List.length_singleton, okd0]
    refine (hT b' c' left.length hb' (by omega) (by omega) (by omega)).mono fun u b2 ⟨i, hu, hi, c2, q1, q2, hb2⟩ => ?_
    subst hu
    simp only [d_popAt hi (show left.length ≤ 10000000 by omega), w_fn, w_fnB, List.map_cons, List.map_nil, List.replicate, List.cons_append, List.nil_append, t_seq, t_if, t_next, t_break, t_cont, t_ret, t_retN, t_set, t_WS, t_put, t_par, t_for, t_asg, t_setR, t_drop, wg_two, wg_three, wg_nm, ws_nx, ws_rt, wi_of, wi_rg, wi_st, w_lc0, w_ssc, w_lc, w_lent, w_var, w_C, w_1, w_2, w_nil, w_cons, w_L, w_B, w_T, w_yes, w_bAnd, w_bOr, w_bNot, w_And, w_Or, w_Not, w_If, w_chain, w_only, w_cut, w_meth, w_newK, w_newT, w_call, w_callB, w_callK, w_w, wo_some, wq_ret, gd0, gdS, ls0, lsS, asBl_bl, isLs_l, ob_l, setAll, true_and, and_true, d_add, d_addI, d_sub, d_cmp, d_neg, mk0, mk1, mk2, mk3, mk4, mk5, mt0, mt1, mt2, mt3, mt4, nl_nat]
    simp only [d_app (show (dns got).length < lim by rw [dns_len]; exact limlt (by omega)), w_fn, w_fnB, List.map_cons, List.map_nil, List.replicate, List.cons_append, List.nil_append, t_seq, t_if, t_next, t_break, t_cont, t_ret, t_retN, t_set, t_WS, t_put, t_par, t_for, t_asg, t_setR, t_drop, wg_two, wg_three, wg_nm, ws_nx, ws_rt, wi_of, wi_rg, wi_st, w_lc0, w_ssc, w_lc, w_lent, w_var, w_C, w_1, w_2, w_nil, w_cons, w_L, w_B, w_T, w_yes, w_bAnd, w_bOr, w_bNot, w_And, w_Or, w_Not, w_If, w_chain, w_only, w_cut, w_meth, w_newK, w_newT, w_call, w_callB, w_callK, w_w, wo_some, wq_ret, gd0, gdS, ls0, lsS, asBl_bl, isLs_l, ob_l, setAll, true_and, and_true, d_add, d_addI, d_sub, d_cmp, d_neg, mk0, mk1, mk2, mk3, mk4, mk5, mt0, mt1, mt2, mt3, mt4, dns_snoc]
    refine ⟨b2, left.eraseIdx i, got ++ [left.getD i 0], c2, _, rfl, by rw [List.length_eraseIdx_of_lt hi, List.length_append, List.length_singleton]; omega, ?_, by omega, by rw [List.length_append, List.length_singleton]; omega, hb2⟩
    have e : left.getD i 0 = left[i] := by rw [List.getD_eq_getElem?_getD, List.getElem?_eq_getElem hi]; rfl
    rw [e]
    have p1 : (left.eraseIdx i ++ (got ++ [left[i]])).Perm (left[i] :: (left.eraseIdx i ++ got)) := by
      rw [← List.append_assoc]; exact List.perm_append_singleton _ _
    have p2 : (left[i] :: left.eraseIdx i).Perm left := perm_eraseIdx left i hi
    exact (p1.trans (p2.append_right got)).trans hp
  · rintro e ⟨b', left, got, c', x4, rfl, hlen, hp, h1, h2, hb'⟩
    rw [List.length_range] at hlen h2
    have hz : left = [] := List.length_eq_zero_iff.mp (by omega)
    subst hz
    simp only [w_fn, w_fnB, List.map_cons, List.map_nil, List.replicate, List.cons_append, List.nil_append, t_seq, t_if, t_next, t_break, t_cont, t_ret, t_retN, t_set, t_WS, t_put, t_par, t_for, t_asg, t_setR, t_drop, wg_two, wg_three, wg_nm, ws_nx, ws_rt, wi_of, wi_rg, wi_st, w_lc0, w_ssc, w_lc, w_lent, w_var, w_C, w_1, w_2, w_nil, w_cons, w_L, w_B, w_T, w_yes, w_bAnd, w_bOr, w_bNot, w_And, w_Or, w_Not, w_If, w_chain, w_only, w_cut, w_meth, w_newK, w_newT, w_call, w_callB, w_callK, w_w, wo_some, wq_ret, gd0, gdS, ls0, lsS, asBl_bl, isLs_l, ob_l, setAll, true_and, and_true, d_add, d_addI, d_sub, d_cmp, d_neg, mk0, mk1, mk2, mk3, mk4, mk5, mt0, mt1, mt2, mt3, mt4, hb'.nlc]
    exact ⟨got, rfl, by simpa using hp, c', h1, h2, hb'⟩
noncomputable def Qnet (T : List D → FO) : List D → FO := qFnB 5 (qSeq (qSet 3 (qCallB 2 false true 0 (qCons (q1 (qVar 1) gListRg1) qNil) (QstrewnB T)))
  (qSeq (qSet 4 (q2 (qL (qCons (qC (.int 0)) (qCons (qVar 1) (qCons (qC (.int 1)) (qCons (q2 (qC (.int 1)) (qCallB 2 false false 0 (qCons (qVar 1) qNil) T) gAdd) (qCons (qVar 1) (qCons (qC (.int 1)) qNil)))))) gList) (qVar 2) gSub1))
  (qSeq (qIfS (qB (q2 (qVar 2) (qC (.int 4)) gEq))
  (qRet (qL (qCons (qVar 3) qNil) gTupOf))
  qNext)
  (qSeq (qSetR 5 (q2 (qL (qCons (qC (.int 0)) qNil) gList) (qVar 1) gMul))
  (qSeq (qFor (qiSt qenm (qCons (qVar 3) qNil)) (qTp 2 (qCn (qNm 6) (qCn (qNm 7) qNl)))
  (qIfS (qB (q2 (qVar 2) (qC (.int 0)) gEq))
  (qPut 5 (qVar 7) (qCallB 2 false false 0 (qCons (qVar 1) qNil) T))
  (qIfS (qB (q2 (qVar 6) (qVar 4) gLt))
  (qPut 5 (qVar 7) (q2 (qVar 3) (q2 (q2 (qVar 6) (qC (.int 1)) gAdd) (qVar 4) gMod) gSub1))
  (qPut 5 (qVar 7) (qIf (qB (q2 (qVar 2) (qC (.int 5)) gEq)) (q2 (qVar 3) (q2 (qVar 6) (qC (.int 1)) gSub) gSub1) (q2 (qVar 3) (qCallB 2 false false 0 (qCons (qVar 6) qNil) T) gSub1))))))
  (qRet (qL (qCons (qVar 5) qNil) gTupOf)))))))
theorem dringedB {n t i : Nat} (ht : t < n) (hi : i < 6) : ∃ r : Nat, atI [D.int 0, .int (n : Nat), .int 1, .int (1 + (t : Nat)), .int (n : Nat), .int 1] (i : Nat) = some (dn r) ∧ r ≤ n ∧ (i ≠ 0 → 1 ≤ r) := by
  match i, hi with
  | 0, _ => exact ⟨0, rfl, by omega, by omega⟩
  | 1, _ => exact ⟨n, rfl, by omega, by omega⟩
  | 2, _ => exact ⟨1, rfl, by omega, by omega⟩
  | 3, _ => exact ⟨1 + t, by show some (D.int (1 + (t : Int))) = _; rw [dn_add1], by omega, by omega⟩
  | 4, _ => exact ⟨n, rfl, by omega, by omega⟩
  | 5, _ => exact ⟨1, rfl, by omega, by omega⟩
theorem getD_ltn {l : List Nat} {i n : Nat} (h : ∀ x ∈ l, x < n) (hi : i < l.length) : l.getD i 0 < n := by
  rw [List.getD_eq_getElem?_getD, List.getElem?_eq_getElem hi]; exact h _ (List.getElem_mem hi)
theorem qnet_ok (hT : TakeQ T) {b : D} {c : Int} {n i : Nat} (hb : BoxD b c) (hc : c + 2 * n + 2 < 1099511627776) (h0 : 1 ≤ n) (hn : n ≤ 1000000) (hi : i < 6) :
    Wf (Qnet T [b, .int (n : Nat), .int (i : Nat)]) fun d b' => ∃ ms : List Nat, d = .tup (dns ms) ∧ ms.length = n ∧ Sta ms ∧ More c (2 * n + 2) b' := by
  unfold Qnet
  simp only [w_fn, w_fnB, List.map_cons, List.map_nil, List.replicate, List.cons_append, List.nil_append, t_seq, t_if, t_next, t_break, t_cont, t_ret, t_retN, t_set, t_WS, t_put, t_par, t_for, t_asg, t_setR, t_drop, wg_two, wg_three, wg_nm, ws_nx, ws_rt, wi_of, wi_rg, wi_st, w_lc0, w_ssc, w_lc, w_lent, w_var, w_C, w_1, w_2, w_nil, w_cons, w_L, w_B, w_T, w_yes, w_bAnd, w_bOr, w_bNot, w_And, w_Or, w_Not, w_If, w_chain, w_only, w_cut, w_meth, w_newK, w_newT, w_call, w_callB, w_callK, w_w, wo_some, wq_ret, gd0, gdS, ls0, lsS, asBl_bl, isLs_l, ob_l, setAll, true_and, and_true, d_add, d_addI, d_sub, d_cmp, d_neg, mk0, mk1, mk2, mk3, mk4, mk5, mt0, mt1, mt2, mt3, mt4, hb.obj, d_listRg (show n ≤ 10000000 by omega), List.length_singleton, okd0]
  refine (qstrewnB_ok (ns := List.range n) hT hb (by simp; omega) (SqD.l) (by simpa using hn)).mono fun u b1 ⟨row, hu, hp, c1, q1, q2, hb1⟩ => ?_
  subst hu
  obtain ⟨p1, p2⟩ := perm_range hp
  rw [List.length_range] at q2
  simp only [w_fn, w_fnB, List.map_cons, List.map_nil, List.replicate, List.cons_append, List.nil_append, t_seq, t_if, t_next, t_break, t_cont, t_ret, t_retN, t_set, t_WS, t_put, t_par, t_for, t_asg, t_setR, t_drop, wg_two, wg_three, wg_nm, ws_nx, ws_rt, wi_of, wi_rg, wi_st, w_lc0, w_ssc, w_lc, w_lent, w_var, w_C, w_1, w_2, w_nil, w_cons, w_L, w_B, w_T, w_yes, w_bAnd, w_bOr, w_bNot, w_And, w_Or, w_Not, w_If, w_chain, w_only, w_cut, w_meth, w_newK, w_newT, w_call, w_callB, w_callK, w_w, wo_some, wq_ret, gd0, gdS, ls0, lsS, asBl_bl, isLs_l, ob_l, setAll, true_and, and_true, d_add, d_addI, d_sub, d_cmp, d_neg, mk0, mk1, mk2, mk3, mk4, mk5, mt0, mt1, mt2, mt3, mt4, hb1.obj, List.length_singleton, okd0]
  refine (hT b1 c1 n hb1 (by omega) (by omega) (by omega)).mono fun u b2 ⟨t, hu, ht, c2, q3, q4, hb2⟩ => ?_
  subst hu
  obtain ⟨r, hr, hr1, hr2⟩ := dringedB ht hi
  simp only [w_fn, w_fnB, List.map_cons, List.map_nil, List.replicate, List.cons_append, List.nil_append, t_seq, t_if, t_next, t_break, t_cont, t_ret, t_retN, t_set, t_WS, t_put, t_par, t_for, t_asg, t_setR, t_drop, wg_two, wg_three, wg_nm, ws_nx, ws_rt, wi_of, wi_rg, wi_st, w_lc0, w_ssc, w_lc, w_lent, w_var, w_C, w_1, w_2, w_nil, w_cons, w_L, w_B, w_T, w_yes, w_bAnd, w_bOr, w_bNot, w_And, w_Or, w_Not, w_If, w_chain, w_only, w_cut, w_meth, w_newK, w_newT, w_call, w_callB, w_callK, w_w, wo_some, wq_ret, gd0, gdS, ls0, lsS, asBl_bl, isLs_l, ob_l, setAll, true_and, and_true, d_add, d_addI, d_sub, d_cmp, d_neg, mk0, mk1, mk2, mk3, mk4, mk5, mt0, mt1, mt2, mt3, mt4, mk6, d_at SqD.l hr, d_eqI]
  by_cases hi4 : i = 4
  · subst hi4
    rw [if_pos (by simp)]
    simp only [w_fn, w_fnB, List.map_cons, List.map_nil, List.replicate, List.cons_append, List.nil_append, t_seq, t_if, t_next, t_break, t_cont, t_ret, t_retN, t_set, t_WS, t_put, t_par, t_for, t_asg, t_setR, t_drop, wg_two, wg_three, wg_nm, ws_nx, ws_rt, wi_of, wi_rg, wi_st, w_lc0, w_ssc, w_lc, w_lent, w_var, w_C, w_1, w_2, w_nil, w_cons, w_L, w_B, w_T, w_yes, w_bAnd, w_bOr, w_bNot, w_And, w_Or, w_Not, w_If, w_chain, w_only, w_cut, w_meth, w_newK, w_newT, w_call, w_callB, w_callK, w_w, wo_some, wq_ret, gd0, gdS, ls0, lsS, asBl_bl, isLs_l, ob_l, setAll, true_and, and_true, d_add, d_addI, d_sub, d_cmp, d_neg, mk0, mk1, mk2, mk3, mk4, mk5, mt0, mt1, mt2, mt3, mt4, d_tup (SqD.l), hb2.nlc]
    exact ⟨row, rfl, p1, fun x hx => by rw [p1]; exact p2 x hx, c2, by omega, by omega, hb2⟩
  · rw [if_neg (by simp; omega)]
    simp only [w_fn, w_fnB, List.map_cons, List.map_nil, List.replicate, List.cons_append, List.nil_append, t_seq, t_if, t_next, t_break, t_cont, t_ret, t_retN, t_set, t_WS, t_put, t_par, t_for, t_asg, t_setR, t_drop, wg_two, wg_three, wg_nm, ws_nx, ws_rt, wi_of, wi_rg, wi_st, w_lc0, w_ssc, w_lc, w_lent, w_var, w_C, w_1, w_2, w_nil, w_cons, w_L, w_B, w_T, w_yes, w_bAnd, w_bOr, w_bNot, w_And, w_Or, w_Not, w_If, w_chain, w_only, w_cut, w_meth, w_newK, w_newT, w_call, w_callB, w_callK, w_w, wo_some, wq_ret, gd0, gdS, ls0, lsS, asBl_bl, isLs_l, ob_l, setAll, true_and, and_true, d_add, d_addI, d_sub, d_cmp, d_neg, mk0, mk1, mk2, mk3, mk4, mk5, mt0, mt1, mt2, mt3, mt4, d_mulL (show n ≤ 10000000 by omega), qenm, enm_dns]
    have hzl : ((List.range row.length).zip row).length = row.length := by simp
    refine ⟨by simp, by rw [List.length_map, hzl]; exact limle (by omega), t_forL (I := fun pre e => ∃ (b' : D) (hs : List Nat) (c' : Int) (x6 x7 : Option D), e = [some b', some (dn n), some (dn i), some (.lst (dns row)), some (dn r), some (.lst (dns hs)), x6, x7] ∧ hs.length = n ∧ (∀ x ∈ hs, x < n) ∧ c ≤ c' ∧ c' ≤ c + n + 1 + pre.length ∧ BoxD b' c') ⟨b2, List.replicate n 0, c2, none, none, by simp [dns, List.map_replicate], by simp, fun x hx => by have := List.mem_replicate.mp hx; omega, by omega, by simp; omega, hb2⟩ ?_ ?_⟩
    · rintro pre x post e hl ⟨b', hs, c', x6, x7, rfl, h2, h3, h4, h5, h6⟩
      obtain ⟨e1, e2, e3⟩ := zip_split hl
      rw [p1] at e2
      have hx2 : x.2 < n := by rw [← e3]; exact getD_ltn p2 (by omega)
      have hpl : pre.length + 1 ≤ n := by have := congrArg List.length hl; simp at this; omega
      have put : ∀ (b4 : D) (y : Nat) (c4 : Int), y < n → c ≤ c4 → c4 ≤ c' + 1 → BoxD b4 c4 →
          ∃ (b' : D) (hs' : List Nat) (c' : Int) (x6' x7' : Option D), [some b4, some (dn n), some (dn i), some (.lst (dns row)), some (dn r), some (.lst ((dns hs).set x.2 (dn y))), some (dn x.1), some (dn x.2)] = [some b', some (dn n), some (dn i), some (.lst (dns row)), some (dn r), some (.lst (dns hs')), x6', x7'] ∧ hs'.length = n ∧ (∀ x ∈ hs', x < n) ∧ c ≤ c' ∧ c' ≤ c + n + 1 + (pre ++ [x]).length ∧ BoxD b' c' := by
        intro b4 y c4 hy g2 g3 g4
        exact ⟨b4, hs.set x.2 y, c4, some (dn x.1), some (dn x.2), by simp [dns], by simp [h2], all_set h3 hy, g2, by simp; omega, g4⟩
      have hput : ∀ y : Nat, putD (.lst (dns hs)) (.int (x.2 : Nat)) (dn y) = some (.lst ((dns hs).set x.2 (dn y))) := fun y => d_putL (by rw [dns_len]; omega)
      simp only [w_fn, w_fnB, List.map_cons, List.map_nil, List.replicate, List.cons_append, List.nil_append, t_seq, t_if, t_next, t_break, t_cont, t_ret, t_retN, t_set, t_WS, t_put, t_par, t_for, t_asg, t_setR, t_drop, wg_two, wg_three, wg_nm, ws_nx, ws_rt, wi_of, wi_rg, wi_st, w_lc0, w_ssc, w_lc, w_lent, w_var, w_C, w_1, w_2, w_nil, w_cons, w_L, w_B, w_T, w_yes, w_bAnd, w_bOr, w_bNot, w_And, w_Or, w_Not, w_If, w_chain, w_only, w_cut, w_meth, w_newK, w_newT, w_call, w_callB, w_callK, w_w, wo_some, wq_ret, gd0, gdS, ls0, lsS, asBl_bl, isLs_l, ob_l, setAll, true_and, and_true, d_add, d_addI, d_sub, d_cmp, d_neg, mk0, mk1, mk2, mk3, mk4, mk5, mt0, mt1, mt2, mt3, mt4, d_eqI, gLt_int, h6.obj, List.length_singleton, okd0]
      by_cases hi0 : i = 0
      · subst hi0
        rw [if_pos (by simp)]
        refine (hT b' c' n h6 (by omega) (by omega) (by omega)).mono fun u b4 ⟨y, hu, hy, c4, g1, g2, hb4⟩ => ?_
        subst hu
        simp only [w_fn, w_fnB, List.map_cons, List.map_nil, List.replicate, List.cons_append, List.nil_append, t_seq, t_if, t_next, t_break, t_cont, t_ret, t_retN, t_set, t_WS, t_put, t_par, t_for, t_asg, t_setR, t_drop, wg_two, wg_three, wg_nm, ws_nx, ws_rt, wi_of, wi_rg, wi_st, w_lc0, w_ssc, w_lc, w_lent, w_var, w_C, w_1, w_2, w_nil, w_cons, w_L, w_B, w_T, w_yes, w_bAnd, w_bOr, w_bNot, w_And, w_Or, w_Not, w_If, w_chain, w_only, w_cut, w_meth, w_newK, w_newT, w_call, w_callB, w_callK, w_w, wo_some, wq_ret, gd0, gdS, ls0, lsS, asBl_bl, isLs_l, ob_l, setAll, true_and, and_true, d_add, d_addI, d_sub, d_cmp, d_neg, mk0, mk1, mk2, mk3, mk4, mk5, mt0, mt1, mt2, mt3, mt4, hput]
        exact put b4 y c4 hy (by omega) (by omega) hb4
      · rw [if_neg (by simp; omega)]
        have hr0 := hr2 hi0
        by_cases hkr : x.1 < r
        · rw [if_pos (by simpa using hkr)]
          have hm : (x.1 + 1) % r < row.length := by rw [p1]; exact Nat.lt_of_lt_of_le (Nat.mod_lt _ hr0) hr1
          simp only [w_fn, w_fnB, List.map_cons, List.map_nil, List.replicate, List.cons_append, List.nil_append, t_seq, t_if, t_next, t_break, t_cont, t_ret, t_retN, t_set, t_WS, t_put, t_par, t_for, t_asg, t_setR, t_drop, wg_two, wg_three, wg_nm, ws_nx, ws_rt, wi_of, wi_rg, wi_st, w_lc0, w_ssc, w_lc, w_lent, w_var, w_C, w_1, w_2, w_nil, w_cons, w_L, w_B, w_T, w_yes, w_bAnd, w_bOr, w_bNot, w_And, w_Or, w_Not, w_If, w_chain, w_only, w_cut, w_meth, w_newK, w_newT, w_call, w_callB, w_callK, w_w, wo_some, wq_ret, gd0, gdS, ls0, lsS, asBl_bl, isLs_l, ob_l, setAll, true_and, and_true, d_add, d_addI, d_sub, d_cmp, d_neg, mk0, mk1, mk2, mk3, mk4, mk5, mt0, mt1, mt2, mt3, mt4, dn_addr, d_mod (show (0 : Int) < (r : Nat) by omega), dn_mod]
          simp only [d_subN (SqD.l (xs := dns row)) hm, w_fn, w_fnB, List.map_cons, List.map_nil, List.replicate, List.cons_append, List.nil_append, t_seq, t_if, t_next, t_break, t_cont, t_ret, t_retN, t_set, t_WS, t_put, t_par, t_for, t_asg, t_setR, t_drop, wg_two, wg_three, wg_nm, ws_nx, ws_rt, wi_of, wi_rg, wi_st, w_lc0, w_ssc, w_lc, w_lent, w_var, w_C, w_1, w_2, w_nil, w_cons, w_L, w_B, w_T, w_yes, w_bAnd, w_bOr, w_bNot, w_And, w_Or, w_Not, w_If, w_chain, w_only, w_cut, w_meth, w_newK, w_newT, w_call, w_callB, w_callK, w_w, wo_some, wq_ret, gd0, gdS, ls0, lsS, asBl_bl, isLs_l, ob_l, setAll, true_and, and_true, d_add, d_addI, d_sub, d_cmp, d_neg, mk0, mk1, mk2, mk3, mk4, mk5, mt0, mt1, mt2, mt3, mt4, hput]
          exact put b' _ c' (getD_ltn p2 hm) (by omega) (by omega) h6
        · rw [if_neg (by simpa using hkr)]
          by_cases hi5 : i = 5
          · subst hi5
            rw [if_pos (by simp), dn_sub1 (by omega)]
            have hm : x.1 - 1 < row.length := by omega
            simp only [d_subN (SqD.l (xs := dns row)) hm, w_fn, w_fnB, List.map_cons, List.map_nil, List.replicate, List.cons_append, List.nil_append, t_seq, t_if, t_next, t_break, t_cont, t_ret, t_retN, t_set, t_WS, t_put, t_par, t_for, t_asg, t_setR, t_drop, wg_two, wg_three, wg_nm, ws_nx, ws_rt, wi_of, wi_rg, wi_st, w_lc0, w_ssc, w_lc, w_lent, w_var, w_C, w_1, w_2, w_nil, w_cons, w_L, w_B, w_T, w_yes, w_bAnd, w_bOr, w_bNot, w_And, w_Or, w_Not, w_If, w_chain, w_only, w_cut, w_meth, w_newK, w_newT, w_call, w_callB, w_callK, w_w, wo_some, wq_ret, gd0, gdS, ls0, lsS, asBl_bl, isLs_l, ob_l, setAll, true_and, and_true, d_add, d_addI, d_sub, d_cmp, d_neg, mk0, mk1, mk2, mk3, mk4, mk5, mt0, mt1, mt2, mt3, mt4, hput]
            exact put b' _ c' (getD_ltn p2 hm) (by omega) (by omega) h6
          · rw [if_neg (by simp; omega)]
            refine (hT b' c' x.1 h6 (by omega) (by omega) (by omega)).mono fun u b4 ⟨y, hu, hy, c4, g1, g2, hb4⟩ => ?_
            subst hu
            have hm : y < row.length := by omega
            simp only [d_subN (SqD.l (xs := dns row)) hm, w_fn, w_fnB, List.map_cons, List.map_nil, List.replicate, List.cons_append, List.nil_append, t_seq, t_if, t_next, t_break, t_cont, t_ret, t_retN, t_set, t_WS, t_put, t_par, t_for, t_asg, t_setR, t_drop, wg_two, wg_three, wg_nm, ws_nx, ws_rt, wi_of, wi_rg, wi_st, w_lc0, w_ssc, w_lc, w_lent, w_var, w_C, w_1, w_2, w_nil, w_cons, w_L, w_B, w_T, w_yes, w_bAnd, w_bOr, w_bNot, w_And, w_Or, w_Not, w_If, w_chain, w_only, w_cut, w_meth, w_newK, w_newT, w_call, w_callB, w_callK, w_w, wo_some, wq_ret, gd0, gdS, ls0, lsS, asBl_bl, isLs_l, ob_l, setAll, true_and, and_true, d_add, d_addI, d_sub, d_cmp, d_neg, mk0, mk1, mk2, mk3, mk4, mk5, mt0, mt1, mt2, mt3, mt4, hput]
            exact put b4 _ c4 (getD_ltn p2 hm) (by omega) (by omega) hb4
    · rintro e ⟨b', hs, c', x6, x7, rfl, h2, h3, h4, h5, h6⟩
      simp only [w_fn, w_fnB, List.map_cons, List.map_nil, List.replicate, List.cons_append, List.nil_append, t_seq, t_if, t_next, t_break, t_cont, t_ret, t_retN, t_set, t_WS, t_put, t_par, t_for, t_asg, t_setR, t_drop, wg_two, wg_three, wg_nm, ws_nx, ws_rt, wi_of, wi_rg, wi_st, w_lc0, w_ssc, w_lc, w_lent, w_var, w_C, w_1, w_2, w_nil, w_cons, w_L, w_B, w_T, w_yes, w_bAnd, w_bOr, w_bNot, w_And, w_Or, w_Not, w_If, w_chain, w_only, w_cut, w_meth, w_newK, w_newT, w_call, w_callB, w_callK, w_w, wo_some, wq_ret, gd0, gdS, ls0, lsS, asBl_bl, isLs_l, ob_l, setAll, true_and, and_true, d_add, d_addI, d_sub, d_cmp, d_neg, mk0, mk1, mk2, mk3, mk4, mk5, mt0, mt1, mt2, mt3, mt4, h6.nlc, d_tup (SqD.l)]
      rw [hzl] at h5
      exact ⟨hs, rfl, h2, fun x hx => by rw [h2]; exact h3 x hx, c', by omega, by omega, h6⟩
noncomputable def Qany (T : List D → FO) : List D → FO := qFnB 0 (qRet (qCallB 3 false true 0 (qCons (q2 (qC (.int 1)) (qCallB 2 false false 0 (qCons (qVar 1) qNil) T) gAdd) (qCons (qCallB 2 false false 0 (qCons (qC (.int 6)) qNil) T) qNil)) (Qnet T)))
theorem qany_ok (hT : TakeQ T) {b : D} {c : Int} {most : Nat} (hb : BoxD b c) (hc : c + 2 * most + 4 < 1099511627776) (h0 : 1 ≤ most) (hn : most ≤ 1000000) :
    Wf (Qany T [b, .int (most : Nat)]) fun d b' => ∃ ms : List Nat, d = .tup (dns ms) ∧ 1 ≤ ms.length ∧ ms.length ≤ most ∧ Sta ms ∧ More c (2 * most + 4) b' := by
  unfold Qany
  simp only [w_fn, w_fnB, List.map_cons, List.map_nil, List.replicate, List.cons_append, List.nil_append, t_seq, t_if, t_next, t_break, t_cont, t_ret, t_retN, t_set, t_WS, t_put, t_par, t_for, t_asg, t_setR, t_drop, wg_two, wg_three, wg_nm, ws_nx, ws_rt, wi_of, wi_rg, wi_st, w_lc0, w_ssc, w_lc, w_lent, w_var, w_C, w_1, w_2, w_nil, w_cons, w_L, w_B, w_T, w_yes, w_bAnd, w_bOr, w_bNot, w_And, w_Or, w_Not, w_If, w_chain, w_only, w_cut, w_meth, w_newK, w_newT, w_call, w_callB, w_callK, w_w, wo_some, wq_ret, gd0, gdS, ls0, lsS, asBl_bl, isLs_l, ob_l, setAll, true_and, and_true, d_add, d_addI, d_sub, d_cmp, d_neg, mk0, mk1, mk2, mk3, mk4, mk5, mt0, mt1, mt2, mt3, mt4, hb.obj, List.length_singleton, okd0]
  refine (hT b c most hb (by omega) h0 (by omega)).mono fun u b1 ⟨t, hu, ht, c1, q1, q2, hb1⟩ => ?_
  subst hu
  simp only [w_fn, w_fnB, List.map_cons, List.map_nil, List.replicate, List.cons_append, List.nil_append, t_seq, t_if, t_next, t_break, t_cont, t_ret, t_retN, t_set, t_WS, t_put, t_par, t_for, t_asg, t_setR, t_drop, wg_two, wg_three, wg_nm, ws_nx, ws_rt, wi_of, wi_rg, wi_st, w_lc0, w_ssc, w_lc, w_lent, w_var, w_C, w_1, w_2, w_nil, w_cons, w_L, w_B, w_T, w_yes, w_bAnd, w_bOr, w_bNot, w_And, w_Or, w_Not, w_If, w_chain, w_only, w_cut, w_meth, w_newK, w_newT, w_call, w_callB, w_callK, w_w, wo_some, wq_ret, gd0, gdS, ls0, lsS, asBl_bl, isLs_l, ob_l, setAll, true_and, and_true, d_add, d_addI, d_sub, d_cmp, d_neg, mk0, mk1, mk2, mk3, mk4, mk5, mt0, mt1, mt2, mt3, mt4, dn_add1, hb1.obj, List.length_singleton, okd0]
  refine (hT b1 c1 6 hb1 (by omega) (by omega) (by omega)).mono fun u b2 ⟨i, hu, hi, c2, q3, q4, hb2⟩ => ?_
  subst hu
  simp only [w_fn, w_fnB, List.map_cons, List.map_nil, List.replicate, List.cons_append, List.nil_append, t_seq, t_if, t_next, t_break, t_cont, t_ret, t_retN, t_set, t_WS, t_put, t_par, t_for, t_asg, t_setR, t_drop, wg_two, wg_three, wg_nm, ws_nx, ws_rt, wi_of, wi_rg, wi_st, w_lc0, w_ssc, w_lc, w_lent, w_var, w_C, w_1, w_2, w_nil, w_cons, w_L, w_B, w_T, w_yes, w_bAnd, w_bOr, w_bNot, w_And, w_Or, w_Not, w_If, w_chain, w_only, w_cut, w_meth, w_newK, w_newT, w_call, w_callB, w_callK, w_w, wo_some, wq_ret, gd0, gdS, ls0, lsS, asBl_bl, isLs_l, ob_l, setAll, true_and, and_true, d_add, d_addI, d_sub, d_cmp, d_neg, mk0, mk1, mk2, mk3, mk4, mk5, mt0, mt1, mt2, mt3, mt4, hb2.obj, List.length_cons, List.length_nil, Nat.zero_add, Nat.reduceAdd, okd0]
  refine (qnet_ok hT hb2 (by omega) (by omega) (by omega) hi).mono fun u b3 ⟨ms, hu, p1, p2, c3, q5, q6, hb3⟩ => ?_
  subst hu
  simp only [w_fn, w_fnB, List.map_cons, List.map_nil, List.replicate, List.cons_append, List.nil_append, t_seq, t_if, t_next, t_break, t_cont, t_ret, t_retN, t_set, t_WS, t_put, t_par, t_for, t_asg, t_setR, t_drop, wg_two, wg_three, wg_nm, ws_nx, ws_rt, wi_of, wi_rg, wi_st, w_lc0, w_ssc, w_lc, w_lent, w_var, w_C, w_1, w_2, w_nil, w_cons, w_L, w_B, w_T, w_yes, w_bAnd, w_bOr, w_bNot, w_And, w_Or, w_Not, w_If, w_chain, w_only, w_cut, w_meth, w_newK, w_newT, w_call, w_callB, w_callK, w_w, wo_some, wq_ret, gd0, gdS, ls0, lsS, asBl_bl, isLs_l, ob_l, setAll, true_and, and_true, d_add, d_addI, d_sub, d_cmp, d_neg, mk0, mk1, mk2, mk3, mk4, mk5, mt0, mt1, mt2, mt3, mt4, hb3.nlc]
  exact ⟨ms, rfl, by omega, by omega, p2, c3, by omega, by omega, hb3⟩
end MP

set_option maxRecDepth 100000
namespace MP
open PySem PySem.Spec PyProof.Rows L2
variable {ps : List Nat} {w r m p : Nat} {v : D} {T : List D → FO}
/-! ### the second family's walks and ends -/
theorem ringL_per (hs : Sta ps) (hr : r < ps.length) (h : Per ps r p) (hm : m ∈ met ps r p) (hle : ∀ x ∈ met ps r p, m ≤ x) : ringL ps r = lapL ps m p := by
  have e : lastW ps r = r := by unfold lastW; rw [wl_per hs hr h]; exact h.back
  exact ringL_eq hs hr (by rw [e]; exact h) (by rw [e]; exact hm) (by rw [e]; exact hle)
noncomputable def endsL (ps : List Nat) : List (List Nat) := (List.range ps.length).map (ringL ps)
/-! ### at rest -/
theorem d_allB {α : Type} (f : α → Bool) (L : List α) : gAll [.lst (L.map fun x => .bl (f x))] = some (.bl (L.all f)) := by
  have : blsD (L.map fun x => D.bl (f x)) = some (L.map f) := by
    induction L with
    | nil => rfl
    | cons x xs ih => simp only [List.map_cons, blsD, ih, Option.map_some]
  simp only [gAll, this, Option.map_some]
  congr 2
  rw [List.all_map]; rfl
def prodL (a : Nat) (L : List (List Nat)) : Nat := L.foldl (fun a l => a * l.length) a
theorem prodL_snoc {a : Nat} {L : List (List Nat)} {l : List Nat} : prodL a (L ++ [l]) = prodL a L * l.length := by simp [prodL]
theorem prodL_b : ∀ L : List (List Nat), (∀ l ∈ L, l.length < 60) → prodL 1 L < 2 ^ (6 * L.length + 1) := by
  intro L
  generalize hn : L.length = n
  induction n generalizing L with
  | zero => intro _; rw [List.length_eq_zero_iff.mp hn]; decide
  | succ n ih =>
    intro h
    have hne : L ≠ [] := fun z => by rw [z] at hn; simp at hn
    rw [← List.dropLast_concat_getLast hne, prodL_snoc]
    have h1 := ih L.dropLast (by simp [hn]) fun l hl => h l ((List.dropLast_sublist L).subset hl)
    have h2 := h _ (List.getLast_mem hne)
    exact lt2_le (mul_lt2 h1 (show _ < 2 ^ 6 by omega)) (by omega)
theorem rings_short (hs : Sta ps) (hl : ps.length < 60) : ∀ l ∈ ringsL ps, l.length < 60 := fun l h => by
  obtain ⟨_, _, _, h2, _⟩ := ring_facts hs h
  omega
end MP

set_option maxRecDepth 100000
namespace MP
open PySem PySem.Spec PyProof.Rows L2
variable {ps : List Nat} {w x y r m p : Nat} {v : D} {T : List D → FO}
/-! ### what a call does to ways and rings -/
theorem way_all (hs : Sta ps) (hx : x < ps.length) (j : Nat) : it ps x (j + 1) ∈ wayL ps x := by
  obtain ⟨b, hb, e⟩ := MP.ring_at hs hx
  unfold wayL
  rw [mem_met]
  by_cases h : j < wl ps x
  · exact ⟨j, h, rfl⟩
  · have ht := it_turn e hb (j - b)
    rw [show b + 1 + (j - b) = j + 1 by omega] at ht
    have hm := Nat.mod_lt (j - b) (show 0 < wl ps x - b by omega)
    exact ⟨b + (j - b) % (wl ps x - b), by omega, by rw [ht]; congr 1; omega⟩
theorem ring_lap (hs : Sta ps) (hx : x < ps.length) : ∃ m p, ringL ps x = lapL ps m p ∧ Per ps m p ∧ (∃ k, it ps x k = m) ∧ (∀ y ∈ lapL ps m p, m ≤ y) ∧ p ≤ ps.length := by
  obtain ⟨p, hp, hpl⟩ := per_last hs hx
  obtain ⟨m, h1, h2⟩ := per_min hp
  obtain ⟨j, hj, ej⟩ := mem_lap.mp ((mem_lap_met hp).mp h1)
  have hpm : Per ps m p := by rw [← ej]; exact hp.it j
  refine ⟨m, p, ringL_eq hs hx hp h1 h2, hpm, ⟨wl ps x + j, by rw [it_add]; exact ej⟩, fun y hy => h2 y ?_, hpl⟩
  rw [← ej] at hy
  exact (mem_lap_met hp).mpr (lap_sub hp j hy)
theorem mem_ring (hs : Sta ps) (hx : x < ps.length) (h : y ∈ ringL ps x) : (∃ k, it ps x k = y) ∧ ∃ p, Per ps y p ∧ (ringL ps x).length = p := by
  obtain ⟨m, p, e, hp, ⟨k, ek⟩, _⟩ := ring_lap hs hx
  rw [e] at h
  obtain ⟨i, hi, ei⟩ := mem_lap.mp h
  exact ⟨⟨k + i, by rw [it_add, ek]; exact ei⟩, p, by rw [← ei]; exact hp.it i, by rw [e, lapL_len]⟩
theorem ring_of_mem (hs : Sta ps) (hx : x < ps.length) (h : y ∈ ringL ps x) : ringL ps y = ringL ps x := by
  obtain ⟨⟨k, e⟩, _⟩ := mem_ring hs hx h
  rw [← e, ringL_it hs hx]
theorem ring_self (hs : Sta ps) (hr : r < ps.length) (h : Per ps r p) : ∀ y, y ∈ ringL ps r ↔ y ∈ lapL ps r p := fun y => by
  obtain ⟨m, h1, h2⟩ := per_min h
  rw [ringL_per hs hr h h1 h2]
  obtain ⟨j, hj, ej⟩ := mem_lap.mp ((mem_lap_met h).mp h1)
  rw [← ej]
  exact mem_lap_it h j
section
variable (hs : Sta ps) (hw : w < ps.length) (hx : x < ps.length)
include hs hw hx
end
end MP

set_option maxRecDepth 100000
namespace MP
open PySem PySem.Spec PyProof.Rows L2
variable {ps : List Nat} {w x y r m p : Nat} {v : D} {T : List D → FO}
/-! ### all rings, all components after a call -/
theorem nodup_map_of {α β : Type} {f : α → β} : ∀ {l : List α}, (∀ a ∈ l, ∀ b ∈ l, f a = f b → a = b) → l.Nodup → (l.map f).Nodup
  | [], _, _ => by simp
  | a :: l, h, hn => by
    rw [List.nodup_cons] at hn
    rw [List.map_cons, List.nodup_cons]
    refine ⟨fun z => ?_, nodup_map_of (fun x hx y hy => h x (List.mem_cons_of_mem _ hx) y (List.mem_cons_of_mem _ hy)) hn.2⟩
    obtain ⟨b, hb, e⟩ := List.mem_map.mp z
    have := h b (List.mem_cons_of_mem _ hb) a (by simp) e
    subst this; exact hn.1 hb
section
variable (hs : Sta ps) (hw : w < ps.length)
include hs hw
end
/-! ### equality of lists of tuples -/
theorem noB_tups : ∀ L : List (List Nat), noBs (L.map fun k => PyData.tuple (dvs k)) = true
  | [] => by simp [noBs]
  | k :: L => by simp [noBs, noB, noBs_dvs, noB_tups L]
/-! ### the program's calls -/
theorem set_bent (hw : w < ps.length) {a : Nat} : ps.take w ++ [a] ++ ps.drop (w + 1) = ps.set w a := by
  rw [List.set_eq_take_append_cons_drop, if_pos hw]; simp
end MP

set_option maxRecDepth 100000
namespace MP
open PySem PySem.Spec PyProof.Rows L2
def gRevL : D → Option D
  | .lst xs => some (.lst xs.reverse)
  | _ => none
theorem og_revL : O1R .new oRevL gRevL := by
  intro S X x dx hX h1 d hd
  unfold gRevL at hd
  split at hd
  · cases hd
    obtain ⟨zs, e2, r2⟩ := lst_rd h1 (show lstD (.lst _) = some _ from rfl)
    exact ⟨_, _, by simp only [oRevL, e2], .app _ _ _, NewR.app (.lst r2.reverse) hX⟩
  · cases hd
end MP

set_option maxRecDepth 100000
namespace MP
open PySem PySem.Spec PyProof.Rows L2
/-! ### errors as values -/
theorem KRp.look {S : Ms} {X : List Nat} {f : Str} {d : D} : ∀ {kvs : List (Str × PV)} {kds : List (Str × D)}, KRp S X kvs kds → kds.lookup f = some d → ∃ v, kvs.lookup f = some v ∧ Rp S X v d
  | _, _, .nil, h => by cases h
  | _, _, .cons (a := (k, x)) (b := (k', y)) r t, h => by
    obtain ⟨e, r⟩ := r
    dsimp only at e r
    subst e
    rw [List.lookup_cons] at h ⊢
    split at h
    · cases h; exact ⟨_, rfl, r⟩
    · exact KRp.look t h
section
variable {Y X X' : List Nat} {sh : List Sh} {mu mu' mu2 : List Nat} {env env' : Env'} {S S' S1 S2 : Ms} {e e' e1 : DE} {fps fps' : List (List Nat)} {m n : ME} {p q : QE} {v : PV} {d : D} {k : Kd} {fr : Bool} {sm : MS} {sp : QT}
/-! ### raise, try -/
def qRaise (c f : Str) (a : QE) : QT := qOf a fun d e => .exc ⟨c, [(f, d)]⟩ e
theorem sRaise_eq {c f : Str} : sRaise c f m = sOf m fun v env S => .exc env ⟨c, [(f, v)]⟩ S := by
  funext env S
  unfold sRaise sOf
  cases m env S <;> rfl
theorem ls_raise {c f : Str} (ha : LE sh mu k m p) (hk : k = .new ∨ k = .val := by first | exact Or.inl rfl | exact Or.inr rfl) : LS sh mu fr (sRaise c f m) (qRaise c f p) := by
  rw [sRaise_eq]
  refine ls_of (f := fun v env S => .exc env ⟨c, [(f, v)]⟩ S) ha fun Y env S e fps v d S1 e1 st r E => ?_
  exact ⟨_, env, S1, fps, rfl, st.toS, rfl, [f], [v], [d], rfl, rfl, .cons ((r.up hk).sub fun n hn => .inl (List.mem_append_left _ hn)) .nil⟩
end
end MP

set_option maxRecDepth 100000
namespace MP
open PySem PySem.Spec PyProof.Rows L2
/-! ### dict(enumerate(..)) -/
/-! ### sorted(a dict) -/
def gSortedB : List D → Option D
  | [.dK kvs] => (match intKs (kvs.map (·.1)) with | some ns => if ns.length < 64 then some (.lst ((sortI ns).map D.int)) else none | none => none)
  | [.dT kvs] => (match intKss (kvs.map (·.1)) with | some ks => if ks.length ≤ 1000000 ∧ ∀ k ∈ ks, k ≠ [] then some (.lst ((sortL ks).map fun k => .tup (k.map D.int))) else none | none => none)
  | _ => none
theorem kr_fst {κ : Type} {S : Ms} {X : List Nat} : ∀ {xs : List (κ × PV)} {ys : List (κ × D)}, KRp S X xs ys → xs.map (·.1) = ys.map (·.1)
  | _, _, .nil => rfl
  | (a, v) :: xs, (b, d) :: ys, .cons h t => by
    rw [List.map_cons, List.map_cons, kr_fst t, show a = b from h.1]
theorem og_sortedB : OLR .new oSortedB gSortedB := by
  intro S X xs ds hX h d hd
  unfold gSortedB at hd
  split at hd
  · obtain ⟨v, rfl, r⟩ := rds1 h
    obtain ⟨n, ys, rfl, e, r3⟩ := r.inv_dK
    split at hd
    · rename_i ns e2
      rw [← kr_fst r3] at e2
      split at hd
      · rename_i hl
        cases hd
        exact ⟨_, _, by simp only [oSortedB, e]; rw [e2]; dsimp only; rw [if_pos hl], .app _ _ _, NewR.app (.lst (.ints _)) hX⟩
      · cases hd
    · cases hd
  · obtain ⟨v, rfl, r⟩ := rds1 h
    obtain ⟨n, ys, rfl, e, r3⟩ := r.inv_dT
    split at hd
    · rename_i ns e2
      rw [← kr_fst r3] at e2
      split at hd
      · rename_i hl
        cases hd
        exact ⟨_, _, by simp only [oSortedB, e]; rw [e2]; dsimp only; rw [if_pos hl], .app _ _ _, NewR.app (.lst (.flat (fun k => .tup (.ints k)) _)) hX⟩
      · cases hd
    · cases hd
  · cases hd
/-! ### a loop over a dict that is locked -/
mutual
theorem Rp.nlS {S S' : Ms} {X X' : List Nat} : ∀ {v : PV} {d : D}, Rp S X v d → noLst d = true → Rp S' X' v d
  | _, _, .non, _ => .non
  | _, _, .bl b, _ => .bl b
  | _, _, .int i, _ => .int i
  | _, _, .str s, _ => .str s
  | _, _, .tup h, e => .tup (Rps.nlS h (by simpa [noLst] using e))
  | _, _, .loc hn en c, e => by cases c <;> simp [noLst] at e
theorem Rps.nlS {S S' : Ms} {X X' : List Nat} : ∀ {v : List PV} {d : List D}, Rps S X v d → noLsts d = true → Rps S' X' v d
  | _, _, .nil, _ => .nil
  | _, _, .cons h t, e => by simp only [noLsts, Bool.and_eq_true] at e; exact .cons (Rp.nlS h e.1) (Rps.nlS t e.2)
end
theorem KRp.nlS {κ : Type} {S S' : Ms} {X X' : List Nat} : ∀ {xs : List (κ × PV)} {ys : List (κ × D)}, KRp S X xs ys → noLsts (ys.map (·.2)) = true → KRp S' X' xs ys
  | _, _, .nil, _ => .nil
  | _, _, .cons h t, e => by simp only [List.map_cons, noLsts, Bool.and_eq_true] at e; exact .cons ⟨h.1, h.2.nlS e.1⟩ (KRp.nlS t e.2)
theorem Cont.nlS {S S' : Ms} {X X' : List Nat} {d : D} {o : Ob} (h : Cont S X o d) (e : nlc d = true) : Cont S' X' o d := by
  cases d with
  | lst xs => obtain ⟨vs, rfl, r⟩ := h.inv_lst; exact .lst (r.nlS e)
  | dK xs => obtain ⟨vs, rfl, r⟩ := h.inv_dK; exact .mk_dK (r.nlS e)
  | dT xs => obtain ⟨vs, rfl, r⟩ := h.inv_dT; exact .mk_dT (r.nlS e)
  | obj cc xs => obtain ⟨vs, rfl, r⟩ := h.inv_obj; exact .mk_obj (r.nlS e)
  | lkK xs => obtain ⟨vs, rfl, r⟩ := h.inv_lkK; exact .mk_lkK (r.nlS e)
  | ftp ns => cases h; exact .ftp
  | _ => cases h
section
variable {sh : List Sh} {mu : List Nat} {fr : Bool} {m : MS} {q : QT}
end
end MP

set_option maxRecDepth 100000
namespace MP
open PySem PySem.Spec PyProof.Rows L2
/-! ### a tuple that has methods -/
section
variable {sh : List Sh} {mu mu' : List Nat} {m : ME} {ml : ML} {p : QE} {ql : QL}
end
end MP

set_option maxRecDepth 100000
namespace MP
open PySem PySem.Spec PyProof.Rows L2
section
variable {ps qs : List Nat} {x y m p q : Nat}
/-! ### what the rule says: pointers on the ways -/
theorem way_iff (hs : Sta ps) (hx : x < ps.length) : y ∈ wayL ps x ↔ ∃ j, it ps x (j + 1) = y :=
  ⟨fun h => let ⟨i, _, e⟩ := mem_met.mp h; ⟨i, e⟩, fun ⟨j, e⟩ => e ▸ way_all hs hx j⟩
def Onw (ps qs : List Nat) : Prop := ∀ i, i < ps.length → qs.getD i 0 ∈ wayL ps i
theorem it_onw (hs : Sta ps) (h : Onw ps qs) (hx : x < ps.length) : ∀ j, ∃ a, j ≤ a ∧ it qs x j = it ps x a
  | 0 => ⟨0, Nat.le_refl _, rfl⟩
  | j + 1 => by
    obtain ⟨a, ha, e⟩ := it_onw hs h hx j
    have hl : it ps x a < ps.length := it_lt hs hx a
    obtain ⟨b, eb⟩ := (way_iff hs hl).mp (h _ hl)
    refine ⟨a + (b + 1), by omega, ?_⟩
    show nx qs (it qs x j) = _
    rw [e, it_add]; exact eb.symm
theorem per_of_back {a : Nat} (ha : 1 ≤ a) (e : it ps m a = m) : ∃ p, Per ps m p := by
  obtain ⟨L, h1, h2, h3⟩ := least (P := fun k => 1 ≤ k ∧ it ps m k = m) a ⟨ha, e⟩
  exact ⟨L, ⟨h2.1, h2.2, fun k k1 k2 z => h3 k k2 ⟨k1, z⟩⟩⟩
/-! ### the obstacle -/
end
end MP

set_option maxRecDepth 100000
namespace MP
open PySem PySem.Spec PyProof.Rows L2
/-! the third family's source of draws and law -/
end MP

set_option maxRecDepth 100000
namespace MP
open PySem PySem.Spec PyProof.Rows L2
variable {ps : List Nat} {w x y r m p : Nat} {v : D} {T : List D → FO}
/-! ### the third family's draws -/
end MP

set_option maxRecDepth 100000
namespace MP
open PySem PySem.Spec PyProof.Rows L2
variable {ps : List Nat} {w x y r m p : Nat} {v : D} {T : List D → FO}
/-! ### what raises -/
theorem ret_bindL {α β : Type} {a : α} {e : DE} {f : α → DE → LO β} : (LO.ret a e).bind f = f a e := id rfl
theorem fn_exc {nl : Nat} {body : QT} {ds : List D} {e1 : DE} {x : QX} (h : body (ds.map some ++ List.replicate nl none) = .exc x e1) : qFn nl body ds = .exc x .non := by unfold qFn; rw [h]
theorem fn_nx {nl : Nat} {body : QT} {ds : List D} {e1 : DE} (h : body (ds.map some ++ List.replicate nl none) = .nx e1) : qFn nl body ds = .ret .non .non := by unfold qFn; rw [h]
theorem if_of {t : QB} {p q : QT} {e e1 : DE} {b : Bool} (h : t e = .ret b e1) : qIfS t p q e = if b = true then p e1 else q e1 := by unfold qIfS; rw [h]; cases b <;> rfl
theorem raise_of {c f : Str} {a : QE} {e e1 : DE} {d : D} (h : a e = .ret d e1) : qRaise c f a e = .exc ⟨c, [(f, d)]⟩ e1 := by unfold qRaise qOf; rw [h]
/-! ### a person bypassed -/
def bypT (ps : List Nat) (w : Nat) : List Nat := ps.map fun t => if t = w then ps.getD w 0 else t
def mvd (w t : Nat) : Nat := if w < t then t - 1 else t
def bypL (ps : List Nat) (w : Nat) : List Nat := ((bypT ps w).eraseIdx w).map (mvd w)
end MP

set_option maxRecDepth 100000
namespace MP
open PySem PySem.Spec PyProof.Rows L2
/-! the second family's box and law -/
def MboxB : List PV → Ms → Out PV := mFn 1 (sSeq (sSet 2 (mIf (mB (m2 (mVar 1) (mL (mCons (mVar 0) mNil) oLen) oLt)) (mSub (mVar 0) (mVar 1)) (mC (.int 0))))
  (sRet (mL (mCons (m2 (mL (mCons (mVar 2) mNil) oAbs) (mL (mCons (m2 (mL (mCons (mVar 2) mNil) oAbs) (m2 (mC (.int 10)) (mC (.int 18)) oPow) oGe) mNil) oInt) oMul) (mCons (m2 (m2 (m2 (mVar 2) (mC (.int 2147483629)) oMod) (m2 (mC (.int 7919)) (mVar 1) oMul) oAdd) (mC (.int 95)) oAdd) (mCons (mC (.int 0)) mNil))) oList)))
theorem boxB_ok {S : Ms} {v : PV} {zs : List Int} {k : Nat} (hv : Sq S v (zvs zs)) (hk : k < 1000) :
    Ret (MboxB [v, .int (k : Nat)] S) fun w S' => ∃ b, w = .loc b ∧ S.length ≤ b ∧ Box b S' 0 ∧ Fr [] S S' := by
  have main : ∀ z : Int, Ret (oAbs [.int z] S) fun x S1 => Ret (oAbs [.int z] S1) fun x1 S1 => Ret (oPow (.int 10) (.int 18) S1) fun y S2 => Ret (oGe x1 y S2) fun x1 S1 => Ret (oInt [x1] S1) fun y S2 => Ret (oMul x y S2) fun x S1 =>
      Ret (oMod (.int z) (.int 2147483629) S1) fun x1 S1 => Ret (oMul (.int 7919) (.int (k : Nat)) S1) fun y S2 => Ret (oAdd x1 y S2) fun x1 S1 => Ret (oAdd x1 (.int 95) S1) fun x2 S1 => Ret (oList [x, x2, .int 0] S1) fun w S' => ∃ b, w = .loc b ∧ S.length ≤ b ∧ Box b S' 0 ∧ Fr [] S S' := by
    intro z
    simp only [r_abs, r_pow18, r_cmp, r_intB]
    have hz : 0 ≤ (if z < 0 then -z else z) := by split <;> omega
    generalize (if z < 0 then -z else z) = a at hz ⊢
    have hd : 0 ≤ (if decide ((1000000000000000000 : Int) ≤ a) = true then (1 : Int) else 0) ∧ (if decide ((1000000000000000000 : Int) ≤ a) = true then (1 : Int) else 0) ≤ 1 := by split <;> omega
    generalize (if decide ((1000000000000000000 : Int) ≤ a) = true then (1 : Int) else 0) = d at hd ⊢
    rw [r_mul (CMul.sr hd.1 (by omega)), r_mod (by omega), r_mul (CMul.sm (by omega) (by omega)), r_add, r_add, r_list (by show 3 ≤ lim; decide)]
    have q0 := Int.emod_nonneg z (show (2147483629 : Int) ≠ 0 by omega)
    have q1 := Int.emod_lt_of_pos z (show (0 : Int) < 2147483629 by omega)
    exact ⟨_, rfl, Nat.le_refl _, ⟨⟨_, _, get_new _ _, Int.mul_nonneg hz hd.1, by omega, by omega⟩, by omega⟩, .app _ _ _⟩
  unfold MboxB
  simp only [r_fn, List.map, List.replicate, List.cons_append, List.nil_append, q_seq, q_if, q_next, q_of, q_toSO, gNm, Option.some.injEq, exists_eq_left', q_put, List.set, r_m2, r_m1, r_v0, r_vs, r_C, r_L, r_cons, r_nil, r_cl1, r_cl2, r_cl3, rets_rt, rets_nx, r_B, r_T, r_asB, r_cmp, r_add, r_sub, q_for, i_of, i_rg, i_st, q_par, r_mIf, r_bYes, r_mLc, r_len hv, List.length_map]
  by_cases h : k < zs.length
  · rw [if_pos (by simpa [oLt] using h)]
    rw [r_sub1 hv (at_nat (by rw [zvs_get, List.getElem?_eq_getElem h]; rfl))]
    exact main _
  · rw [if_neg (by simpa [oLt] using h)]
    exact main 0
def MlawB (most : Int) (R : List PV → Ms → Out PV) : List PV → Ms → Out PV := mFn 1 (sRet (mL (mCons (mLc (iRg rng1 (mCons (m2 (mC (.int 1)) (mL (mCons (mC (.int most)) (mCons (mL (mCons (mVar 0) mNil) oLen) mNil)) oMin) oAdd) mNil)) (gNm 1) bYes (mL (mCons (mL (mCons (mVar 0) (mCons (mVar 1) mNil)) (cl 2 MboxB)) mNil) (cl 1 R)) [1]) mNil) oAll))
theorem r_min2 {S : Ms} {i j : Int} {Q : PV → Ms → Prop} : Ret (oMin [.int i, .int j] S) Q = Q (.int (if j < i then j else i)) S := by simp [oMin, Ret]
theorem lawB_ok {R : List PV → Ms → Out PV} {most : Nat} (h63 : most ≤ 63) (hR : RightB R 1000000) (zs : List Int) : Ret (MlawB most R [.rol (zs.map PV.int)] []) fun v _ => v = .bl true := by
  have hsq : ∀ S : Ms, Sq S (.rol (zs.map PV.int)) (zvs zs) := fun _ => rfl
  unfold MlawB
  simp only [r_fn, List.map, List.replicate, List.cons_append, List.nil_append, q_seq, q_if, q_next, q_of, q_toSO, gNm, Option.some.injEq, exists_eq_left', q_put, List.set, r_m2, r_m1, r_v0, r_vs, r_C, r_L, r_cons, r_nil, r_cl1, r_cl2, r_cl3, rets_rt, rets_nx, r_B, r_T, r_asB, r_cmp, r_add, r_sub, q_for, i_of, i_rg, i_st, q_par, r_mIf, r_bYes, r_mLc, r_bOr, r_bAnd, r_bNot, r_mAnd, r_mOr, r_mNot, r_truthB, r_isN, r_len (hsq _), List.length_map, r_min2]
  obtain ⟨n, hn, hn2⟩ : ∃ n : Nat, (1 : Int) + (if (zs.length : Int) < (most : Int) then (zs.length : Int) else (most : Int)) = (n : Int) ∧ n ≤ 64 := ⟨1 + min zs.length most, by split <;> omega, by omega⟩
  rw [hn]
  have h3 : rng1 [.int (n : Nat)] = some (.rng 0 (n : Int).toNat) := rng1_ok (by omega)
  rw [Int.toNat_natCast] at h3
  refine ⟨_, h3, ?_⟩
  refine r_lc ((List.range n).map iv) (by rw [List.length_map, List.length_range]; exact Nat.le_of_lt (lim_of (by omega))) (fun i acc S' => S'[0]? = some (.lst acc) ∧ acc = List.replicate i (.bl true)) ⟨rfl, rfl⟩ ?_ ?_ ?_
  · rintro i acc S' ⟨z1, z2⟩
    exact ⟨by rw [rng_nx, List.getElem?_map], z1⟩
  · rintro i v acc S' hv ⟨z1, rfl⟩ _
    obtain ⟨hi, rfl⟩ := range_get hv
    refine ⟨_, rfl, ?_⟩
    simp only [wipeE, r_fn, List.map, List.replicate, List.cons_append, List.nil_append, q_seq, q_if, q_next, q_of, q_toSO, gNm, Option.some.injEq, exists_eq_left', q_put, List.set, r_m2, r_m1, r_v0, r_vs, r_C, r_L, r_cons, r_nil, r_cl1, r_cl2, r_cl3, rets_rt, rets_nx, r_B, r_T, r_asB, r_cmp, r_add, r_sub, q_for, i_of, i_rg, i_st, q_par, r_mIf, r_bYes, r_mLc, r_bOr, r_bAnd, r_bNot, r_mAnd, r_mOr, r_mNot, r_truthB, r_isN, if_true]
    refine (boxB_ok (zs := zs) (hsq S') (by omega)).mono fun u S2 ⟨b, hu, hbl, hb, f2⟩ => ?_
    subst hu
    have l0 := lt_of_get z1
    have z2 := f2.get z1 (by simp)
    refine (hR b S2 0 hb (by omega)).mono fun u S3 ⟨hu, f3, _⟩ => ?_
    subst hu
    have z3 := f3.get z2 (by simp; omega)
    exact ⟨z3, get_set z3, (List.replicate_succ' ..).symm⟩
  · rintro acc S' ⟨z1, rfl⟩
    exact r_all (S := S') z1 ▸ rfl
end MP

set_option maxRecDepth 100000
namespace MP
open PySem PySem.Spec PyProof.Rows L2
variable {ps : List Nat} {w r m p : Nat} {v : D} {T : List D → FO}
theorem bent1 {a : Nat} {qs : List Nat} (hw : w < qs.length) (hl : qs.length < 60) : gAdd (.tup (cutD (dns qs) none (some (w : Int)))) (.tup [dn a]) = some (.tup (dns (qs.take w ++ [a]))) := by
  rw [dcut_to _ _ (by rw [dns_len]; omega), d_addT (by rw [List.length_take, dns_len]; exact limle (by simp; omega))]
  simp [dns]
theorem bent2 {a : Nat} {qs : List Nat} (hw : w < qs.length) (hl : qs.length < 60) : gAdd (.tup (dns (qs.take w ++ [a]))) (.tup (cutD (dns qs) (some ((w : Int) + 1)) none)) = some (.tup (dns (qs.take w ++ [a] ++ qs.drop (w + 1)))) := by
  rw [show ((w : Int) + 1) = ((w + 1 : Nat) : Int) by omega, dcut_from _ _ (by rw [dns_len]; omega), d_addT (by rw [List.length_drop, dns_len, dns_len]; exact limle (by simp; omega))]
  simp [dns]
end MP

set_option maxRecDepth 100000
namespace MP
open PySem PySem.Spec PyProof.Rows L2
variable {ps : List Nat} {w r m p : Nat} {v : D} {T : List D → FO}
end MP

set_option maxRecDepth 100000
namespace MP
open PySem PySem.Spec PyProof.Rows L2
variable {ps : List Nat} {w x y r m p : Nat} {v : D} {T : List D → FO}
/-! ### many steps at once -/
/-! ### is_state -/
/-! ### draws of any size -/
end MP

set_option maxRecDepth 100000
namespace MP
open PySem PySem.Spec PyProof.Rows L2
section
variable {Y Z X X' : List Nat} {sh : List Sh} {mu mu' mu2 mu3 : List Nat} {env env' env1 env2 : Env'} {S S' S1 S2 : Ms} {e e' e1 e2 : DE} {fps fps' fps1 fps2 : List (List Nat)} {fr : Bool} {v : PV} {d : D} {k kk : Kd} {m n c : ME} {p q r : QE} {sl ws : List Nat}
/-! ### {k: e for x in it if ..} -/
def dcQT (g : QG) (t : QB) (mk m : QE) (e0 : DE) : List D → List (List Key × D) → Option (List (List Key × D))
  | [], acc => some acc
  | d :: ds, acc => match g d e0 with
    | none => none
    | some e1 => (match t e1 with
      | .ret false _ => dcQT g t mk m e0 ds acc
      | .ret true e2 => (match mk e2 with
        | .ret x e3 => (match m e3 with
          | .ret y _ => if acc.length < lim then (match keysD x with | some k => dcQT g t mk m e0 ds (putG acc k y) | none => none) else none
          | _ => none)
        | _ => none)
      | _ => none)
def qDcT (qi : QI) (g : QG) (t : QB) (mk m : QE) (ws : List Nat) : QE := fun e => match qi e with
  | .ret ds e1 => if ds.length ≤ lim then (match dcQT g t mk m (wipeD e1 ws) ds [] with | some kvs => .ret (.dT kvs) e1 | none => .fail) else .fail
  | .exc x e1 => .exc x e1
  | .fail => .fail
theorem dcQT_ok {src : Src} {g : MG} {gq : QG} {tt : MB} {tq : QB} {mk mm : ME} {kq mq : QE} {lk : List Nat} {L : List Nat} {vs : List PV} {S1 : Ms} {l : Nat} (hk : k = .new ∨ k = .val) (hg : LG sh g gq sl) (ht : LB sh [] tt tq) (hmk : LE sh [] (.rd lk) mk kq) (hm : LE sh [] k mm mq) (hL : ∀ n ∈ L, n < S1.length) (hl : l = S1.length) (hv : vs.length ≤ lim)
    (hn : ∀ S'' : Ms, (∀ n ∈ L, S''[n]? = S1[n]?) → ∀ i, nxt S'' i src = nxO vs[i]?) (hws : ∀ i ∈ ws, sh.getD i .val = .val) (E : EnvR Y sh env S1 e fps) : ∀ (ds : List D) (xs : List (List Key × D)) (f i : Nat) (S : Ms) (o : Ob) (dacc : List (List Key × D)), ds.length < f → i + ds.length = vs.length → Fr [] S1 S → S[l]? = some o →
      Cont S ((Y ++ [l]) ++ fps.flatten) o (.dT dacc) → Rps S ((Y ++ [l]) ++ fps.flatten) (vs.drop i) ds → dcQT gq tq kq mq (wipeD e ws) ds dacc = some xs → ∃ S' o', dcTM src g tt mk mm ws l env f i S = .ret (.loc l) S' ∧ Fr [] S1 S' ∧ S'[l]? = some o' ∧ Cont S' ((Y ++ [l]) ++ fps.flatten) o' (.dT xs)
  | ds, xs, 0, i, S, o, dacc, hf, _, _, _, _, _, _ => absurd hf (by omega)
  | [], xs, f + 1, i, S, o, dacc, hf, hi, hF, hSl, hr, hd, hq => by
    cases hq
    unfold dcTM
    rw [hn S (fun n hn => hF.2 n (hL n hn) (by simp)) i, List.getElem?_eq_none (by rw [← hi]; exact Nat.le_refl _)]
    exact ⟨S, o, rfl, hF, hSl, hr⟩
  | d :: ds, xs, f + 1, i, S, o, dacc, hf, hi, hF, hSl, hr, hd, hq => by
    have hil : i < vs.length := by rw [List.length_cons] at hi; omega
    rw [List.drop_eq_getElem_cons hil] at hd
    cases hd with
    | cons rv rt =>
      unfold dcTM
      rw [hn S (fun n hn => hF.2 n (hL n hn) (by simp)) i, List.getElem?_eq_getElem hil]
      dsimp only [nxO]
      unfold dcQT at hq
      have hlS : l < S.length := lt_of_get hSl
      have E0 : EnvR (Y ++ [l]) sh env S e fps := (E.quiet hF).sub fun y hy => by
        rcases List.mem_append.mp hy with z | z
        · exact List.mem_append_left _ z
        · rw [List.mem_singleton] at z; subst z; exact List.mem_append_right _ (mem_newL.mpr ⟨by omega, hlS⟩)
      cases hg1 : gq d (wipeD e ws) with
      | none => rw [hg1] at hq; cases hq
      | some e1 =>
        rw [hg1] at hq
        dsimp only at hq
        obtain ⟨env1, a1, a2, _, _⟩ := hg _ _ S _ fps _ d e1 (E0.wipe hws) rv hg1
        rw [a1]
        dsimp only
        have h := ht _ env1 S e1 fps a2
        cases ht1 : tq e1 with
        | fail => rw [ht1] at hq; cases hq
        | exc x e2 => rw [ht1] at hq; cases hq
        | ret bb e2 =>
          rw [ht1] at h hq
          obtain ⟨v2, S2, h1, st, r⟩ := h
          have r : v2 = bb := r
          subst r
          rw [h1]
          have f2 : Fr [] S S2 := st.fr.mono (by simp [sel])
          have keep : ∀ {S3 : Ms} {vs : List PV} {ds : List D}, Fr [] S S3 → Rps S ((Y ++ [l]) ++ fps.flatten) vs ds → Rps S3 ((Y ++ [l]) ++ fps.flatten) vs ds := fun f h => h.fr f (fun _ h => nomatch h) fun n hn => .inl hn
          have keepC : ∀ {S3 : Ms} {o : Ob} {dd : D}, Fr [] S S3 → Cont S ((Y ++ [l]) ++ fps.flatten) o dd → Cont S3 ((Y ++ [l]) ++ fps.flatten) o dd := fun f h => h.fr f (fun _ h => nomatch h) fun n hn => .inl hn
          cases v2 with
          | false =>
            dsimp only at hq ⊢
            exact dcQT_ok hk hg ht hmk hm hL hl hv hn hws E ds xs f (i + 1) S2 o dacc (by rw [List.length_cons] at hf; omega) (by rw [List.length_cons] at hi; omega) (hF.trans f2) (by rw [f2.2 l hlS (by simp)]; exact hSl) (keepC f2 hr) (keep f2 rt) hq
          | true =>
            dsimp only at hq ⊢
            have h := hmk _ env1 S2 e2 fps st.er
            cases hm0 : kq e2 with
            | fail => rw [hm0] at hq; cases hq
            | exc x e3 => rw [hm0] at hq; cases hq
            | ret x e3 =>
              rw [hm0] at h hq
              obtain ⟨xv, S3, h1, st3, r3⟩ := h
              rw [h1]
              dsimp only at hq ⊢
              have h := hm _ env1 S3 e3 fps st3.er
              cases hm1 : mq e3 with
              | fail => rw [hm1] at hq; cases hq
              | exc x e4 => rw [hm1] at hq; cases hq
              | ret y e4 =>
                rw [hm1] at h hq
                obtain ⟨yv, S4, h1, st4, r4⟩ := h
                rw [h1]
                dsimp only at hq ⊢
                split at hq
                · rename_i hlen
                  cases ek : keysD x with
                  | none => rw [ek] at hq; cases hq
                  | some kx =>
                    rw [ek] at hq
                    dsimp only at hq
                    have f34 : Fr [] S3 S4 := st4.fr.mono (by simp [sel])
                    have f4 : Fr [] S S4 := (f2.trans (st3.fr.mono (by simp [sel]))).trans f34
                    have hl4 : S4[l]? = some o := by rw [f4.2 l hlS (by simp)]; exact hSl
                    obtain ⟨kvs, rfl, rk⟩ := (keepC f4 hr).inv_dT
                    have rx : Rd' S4 _ xv x := (r3.keep st4.fr a2.nd fl_in (fun _ _ => by simp)).rd
                    rw [hl4, keysP_rd rx, ek]
                    dsimp only
                    rw [if_pos (by rw [kr_len rk]; exact hlen)]
                    have inX : l ∈ (Y ++ [l]) ++ fps.flatten := List.mem_append_left _ (List.mem_append_right _ (by simp))
                    have ry : Rp S4 ((Y ++ [l]) ++ fps.flatten) yv y := (r4.up hk).sub fun n hn => .inl (in_more n (in_more n hn))
                    have c4 : Cont S4 ((Y ++ [l]) ++ fps.flatten) (.dT (putP kvs kx yv)) (.dT (putG dacc kx y)) := .mk_dT (put_rp ry rk)
                    obtain ⟨S', o', q1, q2, q3, q4⟩ := dcQT_ok hk hg ht hmk hm hL hl hv hn hws E ds xs f (i + 1) (S4.set l (.dT (putP kvs kx yv))) _ (putG dacc kx y) (by rw [List.length_cons] at hf; omega) (by rw [List.length_cons] at hi; omega) (fr_setl (hF.trans f4) (by omega)) (List.getElem?_set_self (lt_of_get hl4)) (c4.mono (mono_set inX)) ((keep f4 rt).mono (mono_set inX)) hq
                    exact ⟨S', o', q1, q2, q3, q4⟩
                · cases hq
theorem le_dcT {ls lk : List Nat} {mi : MI} {qi : QI} {g : MG} {gq : QG} {tt : MB} {tq : QB} {mk mm : ME} {kq mq : QE} (hi : LI sh mu ls mi qi) (hg : LG sh g gq sl) (ht : LB sh mu' tt tq) (hmk : LE sh mu3 (.rd lk) mk kq) (hm : LE sh mu2 k mm mq) (hk : k = .new ∨ k = .val := by first | exact Or.inl rfl | exact Or.inr rfl) (hws : ∀ i ∈ ws, sh.getD i .val = .val := by decide) (hm1 : mu' = [] := by rfl) (hm2 : mu2 = [] := by rfl) (hm3 : mu3 = [] := by rfl) :
    LE sh mu .new (mDcT mi g tt mk mm ws) (qDcT qi gq tq kq mq ws) := fun Y env S e fps E => by
  subst hm1 hm2 hm3
  have h := hi Y env S e fps E
  unfold mDcT qDcT
  cases hq : qi e with
  | fail => trivial
  | exc x e1 => rw [hq] at h; obtain ⟨x', S1, h1, st, r⟩ := h; rw [h1]; exact ⟨x', S1, rfl, st, r⟩
  | ret ds e1 =>
    rw [hq] at h; obtain ⟨src, S1, h1, st, L, vs, k1, k2, k3, k4⟩ := h; rw [h1]
    dsimp only
    by_cases hl : ds.length ≤ lim
    · rw [if_pos hl]
      cases hx : dcQT gq tq kq mq (wipeD e1 ws) ds [] with
      | none => trivial
      | some xs =>
        have f0 : Fr [] S1 (S1 ++ [Ob.dT []]) := .app _ _ _
        obtain ⟨S', o', q1, q2, q3, q4⟩ := dcQT_ok (Y := Y) (S1 := S1) (l := S1.length) (L := L) hk hg ht hmk hm k2 rfl (by rw [k4.length]; exact hl) k3 hws st.er.back ds xs fuel 0 (S1 ++ [.dT []]) (.dT []) [] (Nat.lt_of_le_of_lt hl (by decide)) (by rw [Nat.zero_add]; exact k4.length.symm) f0 (get_new _ _) (.mk_dT .nil)
          (by rw [List.drop_zero]; exact k4.fr f0 (fun _ h => nomatch h) fun n hn => by
                rcases List.mem_append.mp hn with z | z
                · rcases List.mem_append.mp z with z | z
                  · exact .inl (List.mem_append_left _ z)
                  · rw [List.mem_singleton] at z; exact .inr (by omega)
                · exact .inl (List.mem_append_right _ z)) hx
        rw [q1]
        have stq := st.trans (Stp.quiet (mu := []) st.er q2)
        rw [List.append_nil] at stq
        have cc : ∀ X', (∀ n ∈ X', n ∈ (Y ++ [S1.length]) ++ fps.flatten) → Cont S' X' o' (.dT xs) := fun X' h => q4.sub fun n hn => .inl (h n hn)
        refine ⟨.loc S1.length, S', rfl, stq, .loc (fun z => by have := E.xlt _ z; have := st.fr.1; omega) q3 (cc _ fun n hn => ?_), fun n en => ?_⟩
        · rcases List.mem_append.mp hn with z | z
          · exact List.mem_append_left _ (List.mem_append_left _ z)
          · exact List.mem_append_right _ z
        · cases en
          refine ⟨st.fr.1, _, q3, cc _ fun n hn => ?_⟩
          rcases List.mem_cons.mp hn with z | z
          · exact List.mem_append_left _ (List.mem_append_right _ (by simp [z]))
          · rcases List.mem_append.mp z with z | z
            · exact List.mem_append_left _ (List.mem_append_left _ z)
            · exact List.mem_append_right _ z
    · rw [if_neg hl]; trivial
end
end MP

set_option maxRecDepth 100000
namespace MP
open PySem PySem.Spec PyProof.Rows L2
variable {ps qs rs ws : List Nat} {w x y r m p : Nat} {v u : D} {T : List D → FO}
/-! ### runs, opened -/
theorem d_inBT {L : List (List Nat)} {k : List Nat} (h : L.length ≤ 10000) (h2 : ∀ k ∈ L, k.length ≤ 10000) (hk : k.length ≤ 10000) : gInB (.tup (dns k)) (.lst (L.map tupN)) = some (decide (k ∈ L)) := by
  obtain ⟨e1, e2, e3⟩ := d_list_tup h h2
  have r : Rd [] 12 (.tup (ivs k)) (.tuple (dvs k)) := Rd.itup k (by omega)
  have sh : SeqAt.shaped (.tuple (dvs k)) = true := by unfold SeqAt.shaped; rw [r.lay]; simp; have := r.dep; omega
  have any : (L.map fun k => PyData.tuple (dvs k)).any (fun z => PyData.eqv z (.tuple (dvs k))) = decide (k ∈ L) := by
    rw [Bool.eq_iff_iff, List.any_eq_true, decide_eq_true_iff]
    constructor
    · rintro ⟨z, hz, e⟩
      obtain ⟨a, ha, rfl⟩ := List.mem_map.mp hz
      rw [eqv_itup] at e
      rwa [← of_decide_eq_true e]
    · intro hk
      exact ⟨_, List.mem_map.mpr ⟨k, hk, rfl⟩, by rw [eqv_itup]; simp⟩
  simp only [gInB, gInS, itemsD, flatD, toPy_dnsT, e3, sh, e2, Bool.and_self, if_true, any]
theorem d_inG {L : List (List Nat)} {k : List Nat} (h : L.length ≤ 10000) (h2 : ∀ k ∈ L, k.length ≤ 10000) (hk : k.length ≤ 10000) : gIn (.tup (dns k)) (.lst (L.map tupN)) = some (.bl (decide (k ∈ L))) := by unfold gIn; rw [d_inBT h h2 hk]; rfl
/-! ### one root of each ring -/
structure Good (ps rs : List Nat) : Prop where
  on : ∀ r ∈ rs, r < ps.length ∧ r ∈ ringL ps r
  nd : (rs.map (ringL ps)).Nodup
  all : ∀ x, x < ps.length → ringL ps x ∈ rs.map (ringL ps)
theorem Good.perm (g : Good ps rs) : (rs.map (ringL ps)).Perm (ringsL ps) := perm_of_mem g.nd (nodup_sortN _) fun l => by
  rw [mem_ringsL, List.mem_map]
  constructor
  · rintro ⟨r, hr, rfl⟩; exact ⟨r, (g.on r hr).1, rfl⟩
  · rintro ⟨x, hx, rfl⟩; exact List.mem_map.mp (g.all x hx)
theorem Good.len (g : Good ps rs) (hs : Sta ps) : rs.length ≤ ps.length := by
  have := g.perm.length_eq
  rw [List.length_map] at this
  have := rings_len hs
  omega
/-! ### who is to be called -/
/-! ### a root that is none -/
/-! ### one call -/
section
variable (hs : Sta ps) (hw : w < ps.length)
include hs hw
/-! #### the product of the rings' lengths -/
end
end MP

set_option maxRecDepth 100000
namespace MP
open PySem PySem.Spec PyProof.Rows L2
variable {ps qs : List Nat} {w r m p : Nat} {v : D} {T : List D → FO}
/-! ### the law's own reading -/
end MP

set_option maxRecDepth 100000
namespace MP
open PySem PySem.Spec PyProof.Rows L2
section
variable {Y Z X X' : List Nat} {sh : List Sh} {mu mu' mu2 : List Nat} {env env' env1 env2 : Env'} {S S' S1 S2 : Ms} {e e' e1 e2 : DE} {fps fps' fps1 fps2 : List (List Nat)} {fr : Bool} {v : PV} {d : D}
/-! ### the same without the reverse -/
end
end MP

set_option maxRecDepth 100000
namespace MP
open PySem PySem.Spec PyProof.Rows L2
variable {ps qs fs k : List Nat} {w x y r m p : Nat} {v u : D} {T : List D → FO}
/-! ### another size -/
noncomputable def P_QlookS : List D → FO := qFn 0 (qIfS (qB (q2 (qL (qCons (qVar 0) qNil) gLen) (qL (qCons (qVar 1) qNil) gLen) gNe))
  (qRaise "OtherSize" "size" (qL (qCons (qVar 1) qNil) gLen))
  qNext)
theorem lookS {xs ys : List D} (hv : SqD v xs) (hu : SqD u ys) : P_QlookS [v, u] = if xs.length = ys.length then .ret .non .non else .exc ⟨"OtherSize", [("size", .int (ys.length : Nat))]⟩ .non := by
  unfold P_QlookS
  have h : qB (MP.q2 (qL (qCons (qVar 0) qNil) gLen) (qL (qCons (qVar 1) qNil) gLen) gNe) [some v, some u] = .ret (!decide (xs.length = ys.length)) [some v, some u] := by
    unfold qB MP.q2 qL qCons qNil qVar
    simp only [ret_bindL, List.getD_cons_zero, List.getD_cons_succ, d_len hv, d_len hu, opt, d_neI, nat_eqI]
  have h2 : (qL (qCons (qVar 1) qNil) gLen) [some v, some u] = .ret (.int (ys.length : Nat)) [some v, some u] := by
    unfold qL qCons qNil qVar
    simp only [ret_bindL, List.getD_cons_zero, List.getD_cons_succ, d_len hu, opt]
  have hh := if_of (p := qRaise "OtherSize" "size" (qL (qCons (qVar 1) qNil) gLen)) (q := qNext) h
  by_cases q : xs.length = ys.length
  · rw [if_pos q]
    refine fn_nx (e1 := [some v, some u]) ?_
    show qIfS _ _ _ [some v, some u] = _
    rw [hh, decide_eq_true q]; rfl
  · rw [if_neg q]
    refine fn_exc (e1 := [some v, some u]) ?_
    show qIfS _ _ _ [some v, some u] = _
    rw [hh, decide_eq_false q]
    exact raise_of h2
/-! ### calls from a list -/
/-! ### callers -/
end MP

set_option maxRecDepth 100000
namespace MP
open PySem PySem.Spec PyProof.Rows L2
variable {ps qs : List Nat} {w r m p : Nat} {v u : D} {T : List D → FO}
/-! ### the tuple whose index is asked -/
/-! ### a cycle from another member -/
/-! ### the locked loop -/
theorem intKs_N (l : List Nat) : intKs (keysN l) = some (zn l) := by
  induction l with
  | nil => rfl
  | cons a l ih =>
    show intKs (Sum.inl (a : Int) :: keysN l) = _
    simp only [intKs, intK, ih]; rfl
theorem intKss_N (L : List (List Nat)) : intKss (L.map keysN) = some (L.map zn) := by
  induction L with
  | nil => rfl
  | cons a L ih => simp only [List.map_cons, intKss, intKs_N, ih]
/-! ### the obstacle, as the program finds it -/
end MP

set_option maxRecDepth 100000
namespace MP
open PySem PySem.Spec PyProof.Rows L2
section
variable {ps qs : List Nat} {x y m p q : Nat} {l : List Nat}
/-! ### a future by the rule has no obstacle -/
def RingF (l qs : List Nat) : Prop := ∃ kept : List Nat, kept.Sublist l ∧ kept ≠ [] ∧ (∀ i, i < kept.length → qs.getD (kept.getD i 0) 0 = kept.getD ((i + 1) % kept.length) 0) ∧
  ∃ od : List Nat, (∀ x ∈ l, x ∈ kept ∨ x ∈ od) ∧ (∀ x ∈ od, x ∈ l) ∧ ∀ i, i < od.length → qs.getD (od.getD i 0) 0 ∈ kept ++ od.take i
structure FutR (ps qs : List Nat) : Prop where
  len : qs.length = ps.length
  off : ∀ x, x < ps.length → x ∉ ringL ps x → qs.getD x 0 ∈ wayL ps x
  ring : ∀ l ∈ ringsL ps, RingF l qs
theorem ring_way (hs : Sta ps) (hx : x < ps.length) (h : x ∈ ringL ps x) (hy : y ∈ ringL ps x) : y ∈ wayL ps x := by
  obtain ⟨⟨k, ek⟩, _⟩ := mem_ring hs hx hy
  obtain ⟨_, p, hp, _⟩ := mem_ring hs hx h
  have h0 := hp.pos
  rw [way_iff hs hx]
  refine ⟨p - 1 + k, ?_⟩
  rw [show p - 1 + k + 1 = p + k by omega, it_add, hp.back]; exact ek
theorem getD_mem {l : List Nat} {i : Nat} (h : i < l.length) : l.getD i 0 ∈ l := by
  rw [List.getD_eq_getElem?_getD, List.getElem?_eq_getElem h]; exact List.getElem_mem h
theorem mem_getD {l : List Nat} {x : Nat} (h : x ∈ l) : ∃ i, i < l.length ∧ l.getD i 0 = x := by
  obtain ⟨i, hi, e⟩ := List.getElem_of_mem h
  exact ⟨i, hi, by rw [List.getD_eq_getElem?_getD, List.getElem?_eq_getElem hi]; exact e⟩
theorem RingF.stay (h : RingF l qs) (hx : x ∈ l) : qs.getD x 0 ∈ l := by
  obtain ⟨kept, k1, k2, k3, od, o1, o2, o3⟩ := h
  rcases o1 x hx with hk | ho
  · obtain ⟨i, hi, rfl⟩ := mem_getD hk
    rw [k3 i hi]
    exact k1.subset (getD_mem (Nat.mod_lt _ (by omega)))
  · obtain ⟨i, hi, rfl⟩ := mem_getD ho
    rcases List.mem_append.mp (o3 i hi) with z | z
    · exact k1.subset z
    · exact o2 _ (List.mem_of_mem_take z)
end
end MP

set_option maxRecDepth 100000
namespace MP
open PySem PySem.Spec PyProof.Rows L2
section
variable {ps qs rs : List Nat} {x y m p q : Nat}
theorem it_hd (ps : List Nat) (x : Nat) : ∀ k, it ps x (k + 1) = it ps (nx ps x) k
  | 0 => rfl
  | k + 1 => by show nx ps (it ps x (k + 1)) = nx ps (it ps (nx ps x) k); rw [it_hd ps x k]
/-- on a ring of the pointers -/
def GR (qs : List Nat) (x : Nat) : Prop := ∃ k, it qs x (k + 1) = x
theorem GR.nx (h : GR qs x) : GR qs (MP.nx qs x) := by
  obtain ⟨k, e⟩ := h
  refine ⟨k, ?_⟩
  rw [← it_hd]
  show MP.nx qs (MP.it qs x (k + 1)) = _
  rw [e]
theorem GR.it (h : GR qs x) : ∀ j, GR qs (MP.it qs x j)
  | 0 => h
  | j + 1 => (GR.it h j).nx
/-- y is met from x, and nobody of P before -/
def Fst (P : Nat → Prop) (ps : List Nat) (x y : Nat) : Prop := ∃ c, it ps x (c + 1) = y ∧ ∀ k, k < c → ¬P (it ps x (k + 1))
theorem Fst.cat {P : Nat → Prop} {x y z : Nat} (h1 : Fst P ps x y) (hy : ¬P y) (h2 : Fst P ps y z) : Fst P ps x z := by
  obtain ⟨c, e, h⟩ := h1
  obtain ⟨d, e2, h'⟩ := h2
  refine ⟨c + 1 + d, ?_, fun k hk => ?_⟩
  · rw [show c + 1 + d + 1 = (c + 1) + (d + 1) by omega, it_add, e, e2]
  · by_cases q : k < c
    · exact h k q
    · by_cases q2 : k = c
      · rw [q2, e]; exact hy
      · obtain ⟨j, rfl⟩ : ∃ j, k = c + 1 + j := ⟨k - (c + 1), by omega⟩
        rw [show c + 1 + j + 1 = (c + 1) + (j + 1) by omega, it_add, e]
        exact h' j (by omega)
theorem Fst.mono {P Q : Nat → Prop} (h : Fst P ps x y) (hPQ : ∀ k, Q (it ps x (k + 1)) → P (it ps x (k + 1))) : Fst Q ps x y := by
  obtain ⟨c, e, h⟩ := h
  exact ⟨c, e, fun k hk z => h k hk (hPQ _ z)⟩
/-- what leading is, by the ways and the first members of the rings that are met -/
structure Lead (ps qs : List Nat) : Prop where
  len : qs.length = ps.length
  onw : ∀ x, x < ps.length → ∃ c, it ps x (c + 1) = nx qs x
  fst : ∀ x, x < ps.length → GR qs x → Fst (GR qs) ps x (nx qs x)
theorem Lead.on (hs : Sta ps) (h : Lead ps qs) : Onw ps qs := fun i hi => (way_iff hs hi).mpr (h.onw i hi)
theorem onw_sta (hs : Sta ps) (hl : qs.length = ps.length) (h : Onw ps qs) : Sta qs := fun y hy => by
  obtain ⟨i, hi, rfl⟩ := mem_getD hy
  rw [hl] at hi ⊢
  obtain ⟨j, e⟩ := (way_iff hs hi).mp (h i hi)
  rw [← e]; exact it_lt hs hi _
theorem Lead.sta (hs : Sta ps) (h : Lead ps qs) : Sta qs := onw_sta hs h.len (h.on hs)
theorem lead_self (ps : List Nat) : Lead ps ps := ⟨rfl, fun x _ => ⟨0, rfl⟩, fun x _ _ => ⟨0, rfl, fun k hk => absurd hk (Nat.not_lt_zero _)⟩⟩
theorem onw_ring (hs : Sta ps) (h : Onw ps qs) (hx : x < ps.length) (hg : GR qs x) : GR ps x := by
  obtain ⟨k, e⟩ := hg
  obtain ⟨a, ha, e2⟩ := it_onw hs h hx (k + 1)
  refine ⟨a - 1, ?_⟩
  rw [show a - 1 + 1 = a by omega, ← e2, e]
theorem Lead.ring (hs : Sta ps) (h : Lead ps qs) (hx : x < ps.length) (hg : GR qs x) : GR ps x := onw_ring hs (h.on hs) hx hg
theorem Lead.many (hs : Sta ps) (h : Lead ps qs) (hx : x < ps.length) : ∀ j, ∃ c, it ps x (c + 1) = it qs x (j + 1)
  | 0 => h.onw x hx
  | j + 1 => by
    obtain ⟨c, e⟩ := Lead.many hs h hx j
    have hl : it qs x (j + 1) < ps.length := e ▸ it_lt hs hx _
    obtain ⟨d, e2⟩ := h.onw _ hl
    refine ⟨c + 1 + d, ?_⟩
    rw [show c + 1 + d + 1 = (c + 1) + (d + 1) by omega, it_add, e, e2]; rfl
theorem Lead.trans (hs : Sta ps) (h1 : Lead ps qs) (h2 : Lead qs rs) : Lead ps rs := by
  have hq := h1.sta hs
  refine ⟨by rw [h2.len, h1.len], fun x hx => ?_, fun x hx hg => ?_⟩
  · obtain ⟨c, e⟩ := h2.onw x (by rw [h1.len]; exact hx)
    rw [← e]
    exact h1.many hs hx c
  · have hxq : x < qs.length := by rw [h1.len]; exact hx
    obtain ⟨c, e, hc⟩ := h2.fst x hxq hg
    have hgq : GR qs x := h2.ring hq hxq hg
    have key : ∀ c, (∀ k, k < c → ¬GR rs (it qs x (k + 1))) → Fst (GR rs) ps x (it qs x (c + 1)) := fun c => by
      have step : ∀ i, Fst (GR rs) ps (it qs x i) (it qs x (i + 1)) := fun i => by
        have hl : it qs x i < ps.length := by rw [← h1.len]; exact it_lt hq hxq i
        refine (h1.fst _ hl (hgq.it i)).mono fun k hk => h2.ring hq ?_ hk
        rw [h1.len]; exact it_lt hs hl _
      induction c with
      | zero => exact fun _ => step 0
      | succ c ih => exact fun hc => (ih fun k hk => hc k (by omega)).cat (hc c (by omega)) (step (c + 1))
    rw [← e]
    exact key c hc
/-! ### one call leads -/
theorem nx_set {w a : Nat} (hx : x < ps.length) : nx (ps.set w a) x = if x = w then a else nx ps x := by
  show (ps.set w a).getD x 0 = _
  rw [List.getD_eq_getElem?_getD, List.getElem?_set]
  by_cases h : w = x
  · rw [if_pos h, if_pos h.symm, if_pos (h ▸ hx)]; rfl
  · rw [if_neg h, if_neg (Ne.symm h)]; rfl
theorem lead_call (hs : Sta ps) {w : Nat} (hw : w < ps.length) : Lead ps (ps.set w (nx ps (nx ps w))) := by
  have hl : (ps.set w (nx ps (nx ps w))).length = ps.length := List.length_set
  have on : ∀ x, x < ps.length → ∃ c, it ps x (c + 1) = nx (ps.set w (nx ps (nx ps w))) x := fun x hx => by
    rw [nx_set hx]
    by_cases h : x = w
    · rw [if_pos h, h]; exact ⟨1, rfl⟩
    · rw [if_neg h]; exact ⟨0, rfl⟩
  have hO : Onw ps (ps.set w (nx ps (nx ps w))) := fun i hi => (way_iff hs hi).mpr (on i hi)
  refine ⟨hl, on, fun x hx hg => ?_⟩
  rw [nx_set hx]
  by_cases h : x = w
  · rw [if_pos h]; subst h
    by_cases h2 : nx ps (nx ps x) = nx ps x
    · exact ⟨0, h2.symm, fun k hk => absurd hk (Nat.not_lt_zero _)⟩
    · refine ⟨1, rfl, fun k hk z => ?_⟩
      obtain rfl : k = 0 := by omega
      have z : GR (ps.set x (nx ps (nx ps x))) (nx ps x) := z
      obtain ⟨k, e⟩ := z
      have hy : nx ps x < ps.length := getD_lt hs hx
      have hsq := onw_sta hs hl hO
      -- the one before
      have hv : it (ps.set x (nx ps (nx ps x))) (nx ps x) k < ps.length := by have := it_lt hsq (hl ▸ hy) k; rw [hl] at this; exact this
      have e1 : nx (ps.set x (nx ps (nx ps x))) (it (ps.set x (nx ps (nx ps x))) (nx ps x) k) = nx ps x := e
      rw [nx_set hv] at e1
      by_cases h3 : it (ps.set x (nx ps (nx ps x))) (nx ps x) k = x
      · rw [if_pos h3] at e1; exact h2 e1
      · rw [if_neg h3] at e1
        have hvg : GR ps (it (ps.set x (nx ps (nx ps x))) (nx ps x) k) := onw_ring hs hO hv (GR.it ⟨k, e⟩ k)
        obtain ⟨i1, f1⟩ := onw_ring hs hO hx hg
        obtain ⟨i2, f2⟩ := hvg
        refine h3 ?_
        -- both come back after (i1+1)*(i2+1) steps
        generalize it (ps.set x (nx ps (nx ps x))) (nx ps x) k = v at *
        have bk : ∀ (a i : Nat), it ps a (i + 1) = a → ∀ t, it ps a ((i + 1) * t) = a := fun a i h t => by
          induction t with
          | zero => rfl
          | succ t ih => rw [Nat.mul_succ, it_add, ih]; exact h
        have g1 := bk x i1 f1 (i2 + 1)
        have g2 := bk v i2 f2 (i1 + 1)
        rw [show (i1 + 1) * (i2 + 1) = (i1 + 1) * i2 + i1 + 1 by rw [Nat.mul_succ]; omega, it_hd] at g1
        rw [show (i2 + 1) * (i1 + 1) = (i1 + 1) * i2 + i1 + 1 by rw [Nat.mul_comm, Nat.mul_succ]; omega, it_hd, e1] at g2
        rw [← g1, ← g2]
  · rw [if_neg h]; exact ⟨0, rfl, fun k hk => absurd hk (Nat.not_lt_zero _)⟩
end
end MP

set_option maxRecDepth 100000
namespace MP
open PySem PySem.Spec PyProof.Rows L2
section
variable {ps qs rs : List Nat} {x y m p q : Nat}
theorem Per.gr (h : Per ps m p) : GR ps m := ⟨p - 1, by rw [show p - 1 + 1 = p by have := h.pos; omega]; exact h.back⟩
theorem GR.per (h : GR ps m) : ∃ p, Per ps m p := by obtain ⟨k, e⟩ := h; exact per_of_back (a := k + 1) (by omega) e
end
end MP

set_option maxRecDepth 100000
namespace MP
open PySem PySem.Spec PyProof.Rows L2
section
variable {ps qs rs h hs h1 w L : List Nat} {x y m p q n f : Nat}
/-! ### going round somebody -/
theorem by_pass {P : Nat → Prop} (ha : ∀ x ∈ L, nx hs x ∈ L) (hf : f ∈ L) (hff : nx hs f ≠ f) (hd : ∀ x ∈ L, x ≠ f → nx h1 x = if nx hs x = f then nx hs f else nx hs x) :
    ∀ c x y, x ∈ L → x ≠ f → y ≠ f → it hs x (c + 1) = y → (∀ k, k < c → ¬P (it hs x (k + 1))) → ∃ c', c' ≤ c ∧ it h1 x (c' + 1) = y ∧ ∀ k, k < c' → ¬P (it h1 x (k + 1)) := fun c => by
  induction c using Nat.strongRecOn with
  | _ c ih =>
    intro x y hx hxf hyf e hP
    have hn := hd x hx hxf
    by_cases q : nx hs x = f
    · rw [if_pos q] at hn
      match c, e, hP, ih with
      | 0, e, _, _ => exact absurd (e.symm.trans q) hyf
      | 1, e, hP, _ =>
        refine ⟨0, by omega, ?_, fun k hk => absurd hk (Nat.not_lt_zero _)⟩
        show nx h1 x = y
        rw [hn, ← e]; show nx hs f = nx hs (nx hs x); rw [q]
      | k + 2, e, hP, ih =>
        have sh : ∀ j, it hs (nx hs f) (j + 1) = it hs x (j + 3) := fun j => by
          rw [show j + 3 = (j + 1) + 1 + 1 by omega, it_hd hs x, it_hd hs (nx hs x), q]
        obtain ⟨c', l1, l2, l3⟩ := ih k (by omega) (nx hs f) y (ha f hf) hff hyf ((sh k).trans e) fun j hj => by rw [sh j]; exact hP (j + 2) (by omega)
        refine ⟨c' + 1, by omega, ?_, fun j hj => ?_⟩
        · rw [it_hd, hn]; exact l2
        · rw [it_hd, hn]
          cases j with
          | zero =>
            have := hP 1 (by omega)
            have e2 : it hs x 2 = nx hs f := by show nx hs (nx hs x) = _; rw [q]
            rw [show (1 : Nat) + 1 = 2 from rfl, e2] at this; exact this
          | succ j => exact l3 j (by omega)
    · rw [if_neg q] at hn
      cases c with
      | zero => exact ⟨0, by omega, by show nx h1 x = y; rw [hn]; exact e, fun k hk => absurd hk (Nat.not_lt_zero _)⟩
      | succ c =>
        have sh : ∀ j, it hs (nx hs x) (j + 1) = it hs x (j + 2) := fun j => (it_hd hs x (j + 1)).symm
        obtain ⟨c', l1, l2, l3⟩ := ih c (by omega) (nx hs x) y (ha x hx) q hyf ((sh c).trans e) fun j hj => by rw [sh j]; exact hP (j + 1) (by omega)
        refine ⟨c' + 1, by omega, by rw [it_hd, hn]; exact l2, fun j hj => ?_⟩
        rw [it_hd, hn]
        cases j with
        | zero => exact hP 0 (by omega)
        | succ j => exact l3 j (by omega)
/-! ### calls, one after another -/
def callsOf (w h : List Nat) : List Nat := w.foldl (fun h x => h.set x (nx h (nx h x))) h
theorem calls_app (w u h : List Nat) : callsOf (w ++ u) h = callsOf u (callsOf w h) := List.foldl_append
theorem calls_one (x : Nat) (h : List Nat) : callsOf [x] h = h.set x (nx h (nx h x)) := rfl
theorem calls_len : ∀ (w h : List Nat), (callsOf w h).length = h.length
  | [], _ => rfl
  | x :: w, h => by show (callsOf w (h.set x (nx h (nx h x)))).length = _; rw [calls_len w, List.length_set]
theorem nx_ext (hl : h.length = qs.length) (e : ∀ x, x < h.length → nx h x = nx qs x) : h = qs := by
  apply List.ext_getElem hl
  intro i h1 h2
  have := e i h1
  show h[i] = qs[i]
  have e1 : nx h i = h[i] := by show h.getD i 0 = _; rw [List.getD_eq_getElem?_getD, List.getElem?_eq_getElem h1]; rfl
  have e2 : nx qs i = qs[i] := by show qs.getD i 0 = _; rw [List.getD_eq_getElem?_getD, List.getElem?_eq_getElem h2]; rfl
  rw [← e1, ← e2, this]
/-- everybody of some people who points at f comes to point where f points -/
def hOn (h : List Nat) (f : Nat) (l : List Nat) : List Nat := (List.range h.length).map fun x => if x ∈ l ∧ nx h x = f then nx h f else nx h x
theorem hOn_len (l : List Nat) : (hOn h f l).length = h.length := by simp [hOn]
theorem hOn_nx (l : List Nat) (hx : x < h.length) : nx (hOn h f l) x = if x ∈ l ∧ nx h x = f then nx h f else nx h x := by
  show (hOn h f l).getD x 0 = _
  unfold hOn
  rw [List.getD_eq_getElem?_getD, List.getElem?_map, List.getElem?_range hx]; rfl
theorem hOn_nil : hOn h f [] = h := nx_ext (hOn_len []) fun x hx => by rw [hOn_len] at hx; rw [hOn_nx [] hx, if_neg (by simp)]
theorem hOn_yes {l : List Nat} (hx : x < h.length) (e : nx h x = f) : hOn h f (l ++ [x]) = (hOn h f l).set x (nx h f) := nx_ext (by rw [List.length_set, hOn_len, hOn_len]) fun y hy => by
  rw [hOn_len] at hy
  rw [hOn_nx _ hy, nx_set (by rw [hOn_len]; exact hy), hOn_nx _ hy]
  by_cases q : y = x
  · subst q; rw [if_pos ⟨by simp, e⟩, if_pos rfl]
  · rw [if_neg q]
    by_cases q2 : y ∈ l ∧ nx h y = f
    · rw [if_pos q2, if_pos ⟨by simp [q2.1], q2.2⟩]
    · rw [if_neg q2, if_neg]
      rintro ⟨z1, z2⟩
      rcases List.mem_append.mp z1 with z | z
      · exact q2 ⟨z, z2⟩
      · exact q (by simpa using z)
theorem hOn_no {l : List Nat} (e : nx h x ≠ f) : hOn h f (l ++ [x]) = hOn h f l := nx_ext (by rw [hOn_len, hOn_len]) fun y hy => by
  rw [hOn_len] at hy
  rw [hOn_nx _ hy, hOn_nx _ hy]
  by_cases q2 : y ∈ l ∧ nx h y = f
  · rw [if_pos q2, if_pos ⟨by simp [q2.1], q2.2⟩]
  · rw [if_neg q2, if_neg]
    rintro ⟨z1, z2⟩
    rcases List.mem_append.mp z1 with z | z
    · exact q2 ⟨z, z2⟩
    · rw [List.mem_singleton] at z; subst z; exact e z2
def atF (h : List Nat) (f : Nat) (l : List Nat) : List Nat := l.filter fun x => decide (nx h x = f)
theorem atF_yes {l : List Nat} (e : nx h x = f) : atF h f (x :: l) = x :: atF h f l := List.filter_cons_of_pos (by simpa using e)
theorem atF_no {l : List Nat} (e : nx h x ≠ f) : atF h f (x :: l) = atF h f l := List.filter_cons_of_neg (by simpa using e)
theorem calls_on (hf : f < h.length) (hff : nx h f ≠ f) : ∀ l pre : List Nat, (pre ++ l).Nodup → (∀ x ∈ l, x < h.length) → callsOf (atF h f l) (hOn h f pre) = hOn h f (pre ++ l)
  | [], pre, _, _ => by rw [List.append_nil]; rfl
  | x :: l, pre, hn, hl => by
    have hx : x < h.length := hl x (by simp)
    have hxl : x ∉ pre := fun z => (List.nodup_append.mp hn).2.2 x z x (by simp) rfl
    have e1 : pre ++ x :: l = (pre ++ [x]) ++ l := by simp
    rw [e1] at hn ⊢
    by_cases e : nx h x = f
    · rw [atF_yes e, ← calls_on hf hff l (pre ++ [x]) hn fun y hy => hl y (by simp [hy]), hOn_yes hx e]
      show callsOf (atF h f l) ((hOn h f pre).set x (nx (hOn h f pre) (nx (hOn h f pre) x))) = _
      rw [hOn_nx pre hx, if_neg (fun z => hxl z.1), e, hOn_nx pre hf, if_neg (fun z => hff z.2)]
    · rw [atF_no e, ← calls_on hf hff l (pre ++ [x]) hn fun y hy => hl y (by simp [hy]), hOn_no e]
theorem set_self (hf : f < h.length) : h.set f (nx h f) = h := nx_ext List.length_set fun x hx => by
  rw [List.length_set] at hx
  rw [nx_set hx]
  by_cases q : x = f
  · rw [if_pos q, q]
  · rw [if_neg q]
theorem calls_rep (hf : f < h.length) : ∀ t, (∀ k, k < t → it h f (k + 1) ≠ f) → (∀ k, it h f k < h.length) → callsOf (List.replicate t f) h = h.set f (it h f (t + 1))
  | 0, _, _ => (set_self hf).symm
  | t + 1, hk, hl => by
    rw [List.replicate_succ', calls_app, calls_rep hf t (fun k q => hk k (by omega)) hl, calls_one, List.set_set, nx_set hf, if_pos rfl, nx_set (hl _), if_neg (hk t (by omega))]
    rfl
/-! ### the word -/
noncomputable def freeP (qs L : List Nat) : Option Nat := L.find? fun p => !decide (p ∈ L.map (nx qs))
theorem freeP_some (h : freeP qs L = some f) : f ∈ L ∧ ∀ x ∈ L, nx qs x ≠ f := by
  have h1 := List.find?_some h
  have h2 := List.mem_of_find?_eq_some h
  simp only [Bool.not_eq_true', decide_eq_false_iff_not, List.mem_map, not_exists, not_and] at h1
  exact ⟨h2, h1⟩
theorem freeP_none (h : freeP qs L = none) : ∀ f ∈ L, ∃ x ∈ L, nx qs x = f := fun f hf => by
  have := List.find?_eq_none.mp h f hf
  simpa using this
open Classical in
noncomputable def stp (h qs : List Nat) (f : Nat) : Nat := if z : ∃ i, it h f (i + 1) = nx qs f ∧ ∀ k, k < i → it h f (k + 1) ≠ nx qs f then z.choose else 0
theorem stp_spec (z : ∃ i, it h f (i + 1) = nx qs f) : it h f (stp h qs f + 1) = nx qs f ∧ ∀ k, k < stp h qs f → it h f (k + 1) ≠ nx qs f := by
  obtain ⟨i, e⟩ := z
  obtain ⟨L, _, h2, h3⟩ := least (P := fun i => it h f (i + 1) = nx qs f) i e
  have z : ∃ i, it h f (i + 1) = nx qs f ∧ ∀ k, k < i → it h f (k + 1) ≠ nx qs f := ⟨L, h2, h3⟩
  unfold stp
  rw [dif_pos z]
  exact z.choose_spec
noncomputable def rnd (qs : List Nat) : Nat → List Nat → List Nat → List Nat → List Nat
  | 0, w, _, _ => w
  | k + 1, w, h, L => match freeP qs L with
    | none => w
    | some f => rnd qs k (w ++ atF h f L ++ List.replicate (stp (hOn h f L) qs f) f) ((hOn h f L).set f (nx qs f)) (L.erase f)
noncomputable def wordOf (ps qs : List Nat) : List Nat := rnd qs (ps.length + 1) [] ps (List.range ps.length)
structure Wrd (ps qs w h L : List Nat) : Prop where
  hl : h.length = ps.length
  ql : qs.length = ps.length
  st : Sta h
  sq : Sta qs
  run : callsOf w ps = h
  wl : ∀ x ∈ w, x < ps.length
  len : w.length + 2 * ps.length * L.length ≤ 2 * ps.length * ps.length
  nd : L.Nodup
  lt : ∀ x ∈ L, x < ps.length
  a : ∀ x ∈ L, nx h x ∈ L
  b : ∀ x ∈ L, nx qs x ∈ L
  d : ∀ x ∈ L, ∃ c, it h x (c + 1) = nx qs x
  e : ∀ x ∈ L, GR qs x → Fst (GR qs) h x (nx qs x)
  o : ∀ x, x < ps.length → x ∉ L → nx h x = nx qs x
theorem Wrd.start (hs : Sta ps) (hL : Lead ps qs) : Wrd ps qs [] ps (List.range ps.length) where
  hl := rfl
  ql := hL.len
  st := hs
  sq := hL.sta hs
  run := rfl
  wl := fun x hx => nomatch hx
  len := by simp
  nd := List.nodup_range
  lt := fun x hx => List.mem_range.mp hx
  a := fun x hx => List.mem_range.mpr (getD_lt hs (List.mem_range.mp hx))
  b := fun x hx => List.mem_range.mpr (by have := getD_lt (hL.sta hs) (w := x) (by rw [hL.len]; exact List.mem_range.mp hx); rw [hL.len] at this; exact this)
  d := fun x hx => hL.onw x (List.mem_range.mp hx)
  e := fun x hx => hL.fst x (List.mem_range.mp hx)
  o := fun x hx z => absurd (List.mem_range.mpr hx) z
/-- what a round does -/
structure Rnd (ps qs h L : List Nat) (f : Nat) : Prop where
  hf : f ∈ L
  fr : ∀ x ∈ L, nx qs x ≠ f
  ff : nx h f ≠ f
  on : ∀ x, x < ps.length → nx (hOn h f L) x = if x ∈ L ∧ nx h x = f then nx h f else nx h x
  st : Sta (hOn h f L)
  av : ∀ k, it (hOn h f L) f (k + 1) ≠ f ∧ it (hOn h f L) f (k + 1) ∈ L
  go : it (hOn h f L) f (stp (hOn h f L) qs f + 1) = nx qs f ∧ ∀ k, k < stp (hOn h f L) qs f → it (hOn h f L) f (k + 1) ≠ nx qs f
  most : stp (hOn h f L) qs f ≤ ps.length
theorem Wrd.round (W : Wrd ps qs w h L) (hf : freeP qs L = some f) : Rnd ps qs h L f := by
  obtain ⟨h1, h2⟩ := freeP_some hf
  have hfl := W.lt f h1
  have ff : nx h f ≠ f := fun z => by
    obtain ⟨c, e⟩ := W.d f h1
    have : ∀ k, it h f k = f := fun k => by
      induction k with
      | zero => rfl
      | succ k ih => show nx h (it h f k) = f; rw [ih, z]
    rw [this] at e
    exact h2 f h1 e.symm
  have on : ∀ x, x < ps.length → nx (hOn h f L) x = if x ∈ L ∧ nx h x = f then nx h f else nx h x := fun x hx => hOn_nx L (by rw [W.hl]; exact hx)
  have ln : (hOn h f L).length = ps.length := by rw [hOn_len, W.hl]
  have st : Sta (hOn h f L) := fun y hy => by
    obtain ⟨i, hi, rfl⟩ := mem_getD hy
    rw [ln] at hi ⊢
    show nx (hOn h f L) i < _
    rw [on i hi, ← W.hl]
    split
    · exact getD_lt W.st (by rw [W.hl]; exact hfl)
    · exact getD_lt W.st (by rw [W.hl]; exact hi)
  have onL : ∀ x ∈ L, nx (hOn h f L) x = if nx h x = f then nx h f else nx h x := fun x hx => by
    rw [on x (W.lt x hx)]
    by_cases q : nx h x = f
    · rw [if_pos ⟨hx, q⟩, if_pos q]
    · rw [if_neg (fun z => q z.2), if_neg q]
  have stay : ∀ x ∈ L, nx (hOn h f L) x ≠ f ∧ nx (hOn h f L) x ∈ L := fun x hx => by
    rw [onL x hx]
    split
    · exact ⟨ff, W.a f h1⟩
    · exact ⟨‹_›, W.a x hx⟩
  have av : ∀ k, it (hOn h f L) f (k + 1) ≠ f ∧ it (hOn h f L) f (k + 1) ∈ L := fun k => by
    induction k with
    | zero => exact stay f h1
    | succ k ih => exact stay _ ih.2
  have ex : ∃ i, it (hOn h f L) f (i + 1) = nx qs f := by
    obtain ⟨c, e⟩ := W.d f h1
    have e0 : nx (hOn h f L) f = nx h f := by rw [onL f h1, if_neg ff]
    cases c with
    | zero => exact ⟨0, by show nx (hOn h f L) f = _; rw [e0]; exact e⟩
    | succ c =>
      rw [it_hd] at e
      obtain ⟨c', _, l2, _⟩ := by_pass (P := fun _ => False) (h1 := hOn h f L) W.a h1 ff (fun x hx _ => onL x hx) c (nx h f) (nx qs f) (W.a f h1) ff (h2 f h1) e (fun _ _ z => z)
      exact ⟨c' + 1, by rw [it_hd, e0]; exact l2⟩
  have go := stp_spec ex
  refine ⟨h1, h2, ff, on, st, av, go, ?_⟩
  have hw := (way_iff st (x := f) (by rw [ln]; exact hfl)).mpr ex
  obtain ⟨i, hi, ei⟩ := mem_met.mp hw
  have h3 := (wl_spec st (w := f) (by rw [ln]; exact hfl)).1
  rw [ln] at h3
  rcases Nat.lt_or_ge i (stp (hOn h f L) qs f) with z | z
  · exact absurd ei (go.2 i z)
  · omega
theorem Wrd.next (W : Wrd ps qs w h L) (hf : freeP qs L = some f) : Wrd ps qs (w ++ atF h f L ++ List.replicate (stp (hOn h f L) qs f) f) ((hOn h f L).set f (nx qs f)) (L.erase f) := by
  have R := W.round hf
  have hfl := W.lt f R.hf
  have ln : (hOn h f L).length = ps.length := by rw [hOn_len, W.hl]
  have mem : ∀ x, x ∈ L.erase f ↔ x ≠ f ∧ x ∈ L := fun x => W.nd.mem_erase_iff
  have hdf : ∀ x, x < ps.length → nx ((hOn h f L).set f (nx qs f)) x = if x = f then nx qs f else nx (hOn h f L) x := fun x hx => nx_set (by rw [ln]; exact hx)
  have hd : ∀ x ∈ L, x ≠ f → nx ((hOn h f L).set f (nx qs f)) x = if nx h x = f then nx h f else nx h x := fun x hx hxf => by
    rw [hdf x (W.lt x hx), if_neg hxf, R.on x (W.lt x hx)]
    by_cases q : nx h x = f
    · rw [if_pos ⟨hx, q⟩, if_pos q]
    · rw [if_neg (fun z => q z.2), if_neg q]
  have bp := fun (P : Nat → Prop) => by_pass (P := P) (h1 := (hOn h f L).set f (nx qs f)) W.a R.hf R.ff hd
  have le : L.length = (L.erase f).length + 1 := by
    have := List.length_erase_of_mem R.hf
    have h0 : 0 < L.length := List.length_pos_of_mem R.hf
    omega
  refine ⟨by rw [List.length_set, ln], W.ql, fun y hy => ?_, W.sq, ?_, fun x hx => ?_, ?_, W.nd.erase f, fun x hx => W.lt x ((mem x).mp hx).2, fun x hx => ?_, fun x hx => ?_, fun x hx => ?_, fun x hx hg => ?_, fun x hx hn => ?_⟩
  · rw [List.length_set]
    rcases List.mem_or_eq_of_mem_set hy with z | z
    · exact R.st y z
    · rw [z, ln]; exact W.lt _ (W.b f R.hf)
  · have h1 : callsOf (w ++ atF h f L) ps = hOn h f L := by
      rw [calls_app, W.run]
      have := calls_on (h := h) (by rw [W.hl]; exact hfl) R.ff L [] (by simpa using W.nd) fun x hx => by rw [W.hl]; exact W.lt x hx
      rw [hOn_nil] at this
      exact this
    rw [calls_app, h1, calls_rep (by rw [ln]; exact hfl) _ (fun k _ => (R.av k).1) (fun k => it_lt R.st (by rw [ln]; exact hfl) k), R.go.1]
  · rcases List.mem_append.mp hx with z | z
    · rcases List.mem_append.mp z with z | z
      · exact W.wl x z
      · exact W.lt x (List.mem_filter.mp z).1
    · rw [(List.mem_replicate.mp z).2]; exact hfl
  · have h1 : (atF h f L).length ≤ L.length := List.length_filter_le _ _
    have h2 : L.length ≤ ps.length := nodup_le W.nd W.lt
    have h3 := R.most
    have h4 := W.len
    rw [List.length_append, List.length_append, List.length_replicate]
    rw [le, Nat.mul_succ] at h4
    omega
  · rw [mem] at hx ⊢
    rw [hd x hx.2 hx.1]
    split
    · exact ⟨R.ff, W.a f R.hf⟩
    · exact ⟨‹_›, W.a x hx.2⟩
  · rw [mem] at hx ⊢
    exact ⟨R.fr x hx.2, W.b x hx.2⟩
  · rw [mem] at hx
    obtain ⟨c, e⟩ := W.d x hx.2
    obtain ⟨c', _, l2, _⟩ := bp (fun _ => False) c x _ hx.2 hx.1 (R.fr x hx.2) e (fun _ _ z => z)
    exact ⟨c', l2⟩
  · rw [mem] at hx
    obtain ⟨c, e, hP⟩ := W.e x hx.2 hg
    obtain ⟨c', _, l2, l3⟩ := bp (GR qs) c x _ hx.2 hx.1 (R.fr x hx.2) e hP
    exact ⟨c', l2, l3⟩
  · rw [hdf x hx]
    by_cases q : x = f
    · rw [if_pos q, q]
    · rw [if_neg q]
      have hxL : x ∉ L := fun z => hn ((mem x).mpr ⟨q, z⟩)
      rw [R.on x hx, if_neg (fun z => hxL z.1)]
      exact W.o x hx hxL
theorem Wrd.stop (W : Wrd ps qs w h L) (hf : freeP qs L = none) : h = qs := by
  have pre := freeP_none hf
  -- everybody left is on a ring of the goal
  have ex : ∀ k, ∀ x ∈ L, ∃ v ∈ L, it qs v k = x := fun k => by
    induction k with
    | zero => exact fun x hx => ⟨x, hx, rfl⟩
    | succ k ih =>
      intro x hx
      obtain ⟨v, hv, e⟩ := pre x hx
      obtain ⟨u, hu, e2⟩ := ih v hv
      exact ⟨u, hu, by show nx qs (it qs u k) = x; rw [e2]; exact e⟩
  have gr : ∀ x ∈ L, GR qs x := fun x hx => by
    obtain ⟨v, hv, e⟩ := ex qs.length x hx
    have h1 := (ring_mem W.sq (by rw [W.ql]; exact W.lt x hx)).mp ⟨v, by rw [W.ql]; exact W.lt v hv, e⟩
    exact (way_iff W.sq (by rw [W.ql]; exact W.lt x hx)).mp h1
  refine nx_ext (by rw [W.hl, W.ql]) fun x hx => ?_
  rw [W.hl] at hx
  by_cases q : x ∈ L
  · obtain ⟨c, e, hP⟩ := W.e x q (gr x q)
    cases c with
    | zero => exact e
    | succ c => exact absurd (gr _ (W.a x q)) (hP 0 (by omega))
  · exact W.o x hx q
theorem Wrd.word (W : Wrd ps qs w h L) : ∀ k, L.length ≤ k → callsOf (rnd qs k w h L) ps = qs ∧ (∀ x ∈ rnd qs k w h L, x < ps.length) ∧ (rnd qs k w h L).length ≤ 2 * ps.length * ps.length := fun k => by
  induction k generalizing w h L with
  | zero =>
    intro hk
    have : L = [] := List.length_eq_zero_iff.mp (by omega)
    subst this
    show callsOf w ps = qs ∧ _ ∧ w.length ≤ _
    refine ⟨?_, W.wl, by have := W.len; simpa using this⟩
    rw [W.run]
    exact W.stop rfl
  | succ k ih =>
    intro hk
    unfold rnd
    cases e : freeP qs L with
    | none =>
      refine ⟨?_, W.wl, by dsimp only; have := W.len; omega⟩
      show callsOf w ps = qs
      rw [W.run]
      exact W.stop e
    | some f =>
      have R := W.round e
      refine ih (W.next e) ?_
      have := List.length_erase_of_mem R.hf
      omega
theorem word_ok (hs : Sta ps) (hL : Lead ps qs) : callsOf (wordOf ps qs) ps = qs ∧ (∀ x ∈ wordOf ps qs, x < ps.length) ∧ (wordOf ps qs).length ≤ 2 * ps.length * ps.length := (Wrd.start hs hL).word _ (by simp)
end
end MP

set_option maxRecDepth 100000
namespace MP
open PySem PySem.Spec PyProof.Rows L2
section
variable {ps qs rs L P Q : List Nat} {x y z m p q n f w : Nat} {R : Nat → Prop}
/-! ### somebody left out -/
structure Mv (ps : List Nat) (w : Nat) : Prop where
  hs : Sta ps
  hw : w < ps.length
  hr : nx ps w ≠ w
theorem bypT_len : (bypT ps w).length = ps.length := by simp [bypT]
theorem bypT_nx (hx : x < ps.length) : nx (bypT ps w) x = if nx ps x = w then nx ps w else nx ps x := by
  show (bypT ps w).getD x 0 = if ps.getD x 0 = w then ps.getD w 0 else ps.getD x 0
  unfold bypT
  rw [List.getD_eq_getElem?_getD, List.getElem?_map, List.getElem?_eq_getElem hx, List.getD_eq_getElem?_getD (l := ps) (i := x), List.getElem?_eq_getElem hx]
  rfl
theorem Mv.av (M : Mv ps w) (hx : x < ps.length) : nx (bypT ps w) x ≠ w ∧ nx (bypT ps w) x < ps.length := by
  rw [bypT_nx hx]
  split
  · exact ⟨M.hr, getD_lt M.hs M.hw⟩
  · exact ⟨‹_›, getD_lt M.hs hx⟩
theorem Mv.sta (M : Mv ps w) : Sta (bypT ps w) := fun y hy => by
  obtain ⟨i, hi, rfl⟩ := mem_getD hy
  rw [bypT_len] at hi ⊢
  exact (M.av hi).2
theorem Mv.avs (M : Mv ps w) (hx : x < ps.length) : ∀ k, it (bypT ps w) x (k + 1) ≠ w ∧ it (bypT ps w) x (k + 1) < ps.length := fun k => by
  induction k with
  | zero => exact M.av hx
  | succ k ih => exact M.av ih.2
theorem Mv.pass (M : Mv ps w) {P : Nat → Prop} {c : Nat} (hx : x < ps.length) (hxw : x ≠ w) (hyw : y ≠ w) (e : it ps x (c + 1) = y) (hP : ∀ k, k < c → ¬P (it ps x (k + 1))) : Fst P (bypT ps w) x y := by
  obtain ⟨c', _, h1, h2⟩ := by_pass (L := List.range ps.length) (h1 := bypT ps w) (P := P) (fun x hx => List.mem_range.mpr (getD_lt M.hs (List.mem_range.mp hx))) (List.mem_range.mpr M.hw) M.hr
    (fun x hx _ => bypT_nx (List.mem_range.mp hx)) c x y (List.mem_range.mpr hx) hxw hyw e hP
  exact ⟨c', h1, h2⟩
theorem Mv.onw (M : Mv ps w) (hx : x < ps.length) : ∃ c, it ps x (c + 1) = nx (bypT ps w) x := by
  rw [bypT_nx hx]
  by_cases q : nx ps x = w
  · exact ⟨1, by rw [if_pos q]; show nx ps (nx ps x) = _; rw [q]⟩
  · exact ⟨0, by rw [if_neg q]; rfl⟩
theorem Mv.gr (M : Mv ps w) (hx : x < ps.length) (hxw : x ≠ w) : GR (bypT ps w) x ↔ GR ps x := by
  constructor
  · exact fun h => onw_ring M.hs (fun i hi => (way_iff M.hs hi).mpr (M.onw hi)) hx h
  · rintro ⟨k, e⟩
    obtain ⟨c, h1, _⟩ := M.pass (P := fun _ => False) hx hxw hxw e (fun _ _ z => z)
    exact ⟨c, h1⟩
/-! lower numbers -/
def upw (w y : Nat) : Nat := if y < w then y else y + 1
theorem upw_lt (h : y < n - 1) (hw : w < n) : upw w y < n := by unfold upw; split <;> omega
theorem upw_mvd (h : x ≠ w) : upw w (mvd w x) = x := by unfold mvd upw; split <;> split <;> omega
theorem mvd_lt (h : x < n) (hx : x ≠ w) (hw : w < n) : mvd w x < n - 1 := by unfold mvd; split <;> omega
theorem bypL_nx (hw : w < ps.length) (hy : y < ps.length - 1) : nx (bypL ps w) y = mvd w (nx (bypT ps w) (upw w y)) := by
  have hu := upw_lt hy hw
  show (bypL ps w).getD y 0 = mvd w ((bypT ps w).getD (upw w y) 0)
  unfold bypL
  have e : ((bypT ps w).eraseIdx w)[y]? = (bypT ps w)[upw w y]? := by
    rw [List.getElem?_eraseIdx]
    unfold upw
    split <;> rfl
  rw [List.getD_eq_getElem?_getD, List.getElem?_map, e, List.getD_eq_getElem?_getD, List.getElem?_eq_getElem (by rw [bypT_len]; exact hu)]
  rfl
theorem Mv.it (M : Mv ps w) (hy : y < ps.length - 1) : ∀ k, upw w (it (bypL ps w) y k) = it (bypT ps w) (upw w y) k ∧ it (bypL ps w) y k < ps.length - 1 := fun k => by
  induction k with
  | zero => exact ⟨rfl, hy⟩
  | succ k ih =>
    have h1 := M.avs (upw_lt hy M.hw) k
    have e : MP.it (bypL ps w) y (k + 1) = mvd w (MP.it (bypT ps w) (upw w y) (k + 1)) := by
      show nx (bypL ps w) (MP.it (bypL ps w) y k) = mvd w (nx (bypT ps w) (MP.it (bypT ps w) (upw w y) k))
      rw [bypL_nx M.hw ih.2, ih.1]
    rw [e]
    exact ⟨upw_mvd h1.1, mvd_lt h1.2 h1.1 M.hw⟩
/-! ### ways without somebody -/
end
end MP

set_option maxRecDepth 100000
namespace MP
open PySem PySem.Spec PyProof.Rows L2
variable {ps qs : List Nat} {w r m p : Nat} {v u : D} {T : List D → FO}
theorem RingF.congr {l th th' : List Nat} (h : RingF l th) (e : ∀ x ∈ l, th'.getD x 0 = th.getD x 0) : RingF l th' := by
  obtain ⟨kept, k1, k2, k3, od, o1, o2, o3⟩ := h
  refine ⟨kept, k1, k2, fun i hi => ?_, od, o1, o2, fun i hi => ?_⟩
  · rw [e _ (k1.subset (getD_mem hi))]; exact k3 i hi
  · rw [e _ (o2 _ (getD_mem hi))]; exact o3 i hi
end MP

set_option maxRecDepth 100000
namespace MP
open PySem PySem.Spec PyProof.Rows L2
variable {ps qs ws : List Nat} {w r m p : Nat} {v u : D} {T : List D → FO}
end MP

set_option maxRecDepth 100000
namespace MP
open PySem PySem.Spec PyProof.Rows L2
variable {ps qs ws : List Nat} {w r m p : Nat} {v u : D} {T : List D → FO}
end MP

set_option maxRecDepth 100000
namespace MP
open PySem PySem.Spec PyProof.Rows L2
variable {ps qs ws L h : List Nat} {w r m p f x y : Nat} {v u : D} {T : List D → FO}
/-! ### the free person -/
/-! ### the word -/
end MP

set_option maxRecDepth 100000
namespace MP
open PySem PySem.Spec PyProof.Rows L2
variable {ps qs ws : List Nat} {w r m p : Nat} {v u : D} {T : List D → FO}
/-! ### what the law asks of a pair -/
end MP

set_option maxRecDepth 100000
namespace MP
open PySem PySem.Spec PyProof.Rows L2
variable {ps qs ws L h : List Nat} {w r m p f x y : Nat} {v u : D} {T : List D → FO}
end MP

set_option maxRecDepth 100000
namespace MP
open PySem PySem.Spec PyProof.Rows L2
variable {ps : List Nat} {w x y r m p : Nat} {v : D} {T : List D → FO}
end MP

set_option maxRecDepth 100000
namespace MP
open PySem PySem.Spec PyProof.Rows L2
variable {ps : List Nat} {w r m p : Nat} {v : D} {T : List D → FO}
end MP

set_option maxRecDepth 100000
namespace MP
open PySem PySem.Spec PyProof.Rows L2
section
variable {ps qs rs L P Q : List Nat} {x y z m p q n f w : Nat} {R : Nat → Prop}
theorem gr_ringL (hs : Sta ps) (hx : x < ps.length) : x ∈ ringL ps x ↔ GR ps x := by
  constructor
  · intro h
    obtain ⟨_, p, hp, _⟩ := mem_ring hs hx h
    exact hp.gr
  · intro h
    obtain ⟨p, hp⟩ := h.per
    exact (ring_self hs hx hp x).mpr (mem_lap.mpr ⟨0, hp.pos, rfl⟩)
/-! ### products -/
section
variable {α : Type} {g h : α → Nat}
end
/-! ### a call -/
section
variable (hs : Sta ps) (hw : w < ps.length)
include hs hw
end
end
end MP

set_option maxRecDepth 100000
namespace MP
open PySem PySem.Spec PyProof.Rows L2
variable {ps : List Nat} {w x y r m p : Nat} {v : D} {T : List D → FO}
/-! ### what is known by its characteristic -/
/-! ### the ring -/
section
variable {L : Nat} (hL : 2 ≤ L)
include hL
end
/-! ### the line -/
section
variable {L : Nat} (hL : 2 ≤ L)
include hL
end
/-! ### the line into a ring of two -/
section
variable {L : Nat} (hL : 2 ≤ L)
include hL
end
/-! ### roots -/
section
variable {L : Nat}
theorem sortM_sorted {A : List (List Nat)} (h : (A.map zn).Pairwise fun a b => lle a b = true) : sortM A = A := by
  unfold sortM
  rw [sortL_uniq (sortL_perm _) (sortL_sorted _) h, List.map_map]
  exact (List.map_congr_left fun k _ => zn_back k).trans (List.map_id _)
end
end MP

set_option maxRecDepth 100000
namespace MP
open PySem PySem.Spec PyProof.Rows L2
variable {ps : List Nat} {w x y r m p : Nat} {v : D} {T : List D → FO}
/-! ### small facts -/
variable {L : Nat}
end MP

set_option maxRecDepth 100000
namespace MP
open PySem PySem.Spec PyProof.Rows L2
variable {ps ws : List Nat} {w x y r m p : Nat} {v : D} {T : List D → FO} {L : Nat}
/-! ### words of calls -/
/-! ### idle calls -/
end MP

set_option maxRecDepth 100000
namespace MP
open PySem PySem.Spec PyProof.Rows L2
variable {ps qs ws L h : List Nat} {w r m p f x y : Nat} {v u : D} {T : List D → FO}
end MP

set_option maxRecDepth 100000
namespace MP
open PySem PySem.Spec PyProof.Rows L2
/-! ### a, b, c = .. where a name is an owned list -/
section
variable {sh : List Sh} {mu : List Nat} {m n c : ME} {fr : Bool}
end
end MP

set_option maxRecDepth 100000
namespace MP
open PySem PySem.Spec PyProof.Rows L2
section
variable {sh : List Sh} {mu mu2 mu3 : List Nat} {k : Kd} {mk mm : ME} {kq mq : QE}
def qSkip : QG := fun _ e => some e
theorem lg_skip : LG sh gSkip qSkip [] := fun Y env S e fps v d e1 E r h => by
  cases h
  exact ⟨_, rfl, E, fun vs _ => rfl, fun i _ => rfl⟩
def qiOne : QI := qiRg qrng1 (qCons (qC (.int 1)) qNil)
def qDict1T (p q : QE) : QE := qDcT qiOne qSkip qYes p q []
theorem le_dict1T {lk : List Nat} (hmk : LE sh mu3 (.rd lk) mk kq) (hm : LE sh mu2 k mm mq) (hk : k = .new ∨ k = .val := by first | exact Or.inl rfl | exact Or.inr rfl) (hm2 : mu2 = [] := by rfl) (hm3 : mu3 = [] := by rfl) : LE sh [] .new (mDict1T mk mm) (qDict1T kq mq) :=
  le_dcT (ls := []) (mu' := []) (li_rg rg1 (ll_cons (le_rdN (le_int 1)) (ll_nil (k := .rd [])))) lg_skip lb_yes hmk hm hk (fun i hi => nomatch hi) rfl hm2 hm3
theorem dict1T_eq {p q : QE} {e : DE} : qDict1T p q e = match dcQT qSkip qYes p q (wipeD e []) [.int 0] [] with | some kvs => .ret (.dT kvs) e | none => .fail := by
  unfold qDict1T qDcT
  have e1 : qiOne e = .ret [.int 0] e := rfl
  rw [e1]
  dsimp only
  rw [if_pos (by decide)] <;> (cases dcQT qSkip qYes p q (wipeD e []) [.int 0] [] <;> rfl)
end
end MP

set_option maxRecDepth 100000
namespace MP
open PySem PySem.Spec PyProof.Rows L2
section
variable {Y Z X X' : List Nat} {sh : List Sh} {mu mu' : List Nat} {env env' env1 : Env'} {S S' S1 : Ms} {e e' e1 : DE} {fps fps' : List (List Nat)} {fr : Bool} {v : PV} {d : D} {m : MS} {q : QT}
/-! ### a list of one's own is forgotten; a loop's name that was one -/
theorem EnvR.forgetS {i : Nat} (E : EnvR Y sh env S e fps) : EnvR Y sh env S (e.set i none) (fps.set i []) := by
  refine ⟨by rw [List.length_set]; exact E.l1, by rw [List.length_set, List.length_set]; exact E.l2, fun j => ?_, nodup_set E.nd List.nodup_nil (fun _ h => nomatch h), E.bd, fun j hj x hx z => ?_⟩
  · by_cases hij : i = j
    · subst hij
      have h1 : (e.set i none).getD i none = none := by
        by_cases hl : i < e.length
        · rw [getD_set_eq hl]
        · rw [List.getD_eq_getElem?_getD, List.getElem?_eq_none (by rw [List.length_set]; omega)]; rfl
      have h2 : (fps.set i []).getD i [] = [] := by
        by_cases hl : i < fps.length
        · rw [getD_set_eq hl]
        · rw [List.getD_eq_getElem?_getD, List.getElem?_eq_none (by rw [List.length_set]; omega)]; rfl
      rw [h1, h2]; exact .empty
    · rw [getD_set_ne hij, getD_set_ne hij]
      refine (E.slot j).mono (fun k hk _ => ⟨fun z => hk ?_, rfl⟩) fun _ _ => rfl
      rcases List.mem_append.mp z with z | z
      · exact List.mem_append_left _ z
      · rcases flat_set_sub z with z | z
        · exact List.mem_append_right _ z
        · cases z
  · by_cases hij : i = j
    · subst hij
      have h2 : (fps.set i []).getD i [] = [] := by
        by_cases hl : i < fps.length
        · rw [getD_set_eq hl]
        · rw [List.getD_eq_getElem?_getD, List.getElem?_eq_none (by rw [List.length_set]; omega)]; rfl
      rw [h2] at hx; cases hx
    · rw [getD_set_ne hij] at hx; exact E.dj j hj x hx z
end
end MP

set_option maxRecDepth 100000
namespace MP
open PySem PySem.Spec PyProof.Rows L2
section
variable {Y Z X X' : List Nat} {sh : List Sh} {mu mu' : List Nat} {env env' env1 : Env'} {S S' S1 : Ms} {e e' e1 : DE} {fps fps' : List (List Nat)} {fr : Bool} {v : PV} {d : D} {m : MS} {q : QT}
/-! ### x = y where y is a list of one's own that is not used afterwards -/
theorem not_rest : ∀ {fps : List (List Nat)} {i n : Nat}, fps.flatten.Nodup → n ∈ fps.getD i [] → n ∉ (fps.set i []).flatten
  | [], _, _, _, h => by simp at h
  | f :: fps, 0, n, nd, h => by
    rw [List.flatten_cons, List.nodup_append] at nd
    have h : n ∈ f := h
    show n ∉ [] ++ fps.flatten
    rw [List.nil_append]
    exact fun z => nd.2.2 n h n z rfl
  | f :: fps, i + 1, n, nd, h => by
    rw [List.flatten_cons, List.nodup_append] at nd
    have h : n ∈ fps.getD i [] := h
    show n ∉ f ++ (fps.set i []).flatten
    intro z
    rcases List.mem_append.mp z with z | z
    · exact nd.2.2 n z n (fp_in (i := i) h) rfl
    · exact not_rest nd.2.1 h z
def qGive (j i : Nat) : QT := fun e => match e.getD i none with
  | none => .fail
  | some d => .nx ((e.set i none).set j (some d))
theorem ls_give (j i : Nat) (hi : sh.getD i .val = .root := by rfl) (hj : sh.getD j .val = .val := by rfl) : LS sh [] fr (sSet j (mVar i)) (qGive j i) := fun Y env S e fps E => by
  unfold qGive
  cases he : e.getD i none with
  | none => trivial
  | some d =>
    have h := E.slot i
    rw [he, hi] at h
    generalize hv : env.getD i none = v at h
    generalize hf : fps.getD i [] = f at h
    have sub : ∀ n ∈ Y ++ (fps.set i []).flatten, n ∈ Y ++ fps.flatten := fun n hn => by
      rcases List.mem_append.mp hn with z | z
      · exact List.mem_append_left _ z
      · rcases flat_set_sub z with z | z
        · exact List.mem_append_right _ z
        · cases z
    have key : ∃ w, v = some w ∧ Rp S (Y ++ (fps.set i []).flatten) w d := by
      cases h with
      | flat kk r => exact ⟨_, rfl, r.sub fun n hn => .inl (sub n hn)⟩
      | @root _ n o _ _ en c =>
        refine ⟨_, rfl, .loc (fun z => ?_) en (c.sub fun n hn => .inl (sub n hn))⟩
        rcases List.mem_append.mp z with z | z
        · exact E.dj i (by rw [hi]; decide) n (by rw [hf]; simp) z
        · exact not_rest E.nd (by rw [hf]; simp) z
    obtain ⟨w, rfl, r⟩ := key
    have hr : sSet j (mVar i) env S = .nx (env.set j (some w)) S := by
      unfold sSet sAsg sOf
      rw [mVar_get hv]
      rfl
    refine ⟨_, S, _, hr, ⟨.refl _ _, E.forgetS.setV hj r, fun k x hx => ?_, fun k hk => getD_set_ne (by rintro rfl; rw [hj] at hk; cases hk)⟩⟩
    by_cases hik : i = k
    · subst hik
      by_cases hl : i < fps.length
      · rw [getD_set_eq hl] at hx; cases hx
      · rw [List.getD_eq_getElem?_getD, List.getElem?_eq_none (by rw [List.length_set]; omega)] at hx; cases hx
    · rw [getD_set_ne hik] at hx; exact .inl hx
end
end MP

set_option maxRecDepth 100000
namespace MP
open PySem PySem.Spec PyProof.Rows L2
variable {ps qs ws l h : List Nat} {w r m n p f x y : Nat} {v u : D} {T : List D → FO} {F : List (List Nat × Nat)}
/-! ### lists of states -/
theorem gNeT_nil {L : List (List Nat)} (h : L.length ≤ 10000) (h2 : ∀ k ∈ L, k.length ≤ 10000) : gNe (.lst (L.map tupN)) (.lst []) = some (.bl (!decide (L = []))) := by
  obtain ⟨e1, e2, e3⟩ := d_list_tup h h2
  have f1 : toPy 12 (.lst []) = some (.list []) := by rw [toPy, toPys]; rfl
  have f2 : SeqAt.shaped (.list []) = true := by decide +kernel
  unfold gNe gEqB
  rw [e1, f1]
  simp only [e2, f2, Bool.and_self, if_true]
  cases L with
  | nil => rfl
  | cons k L => rfl
theorem lead_callsG : ∀ {ws ps : List Nat}, Sta ps → (∀ w ∈ ws, w < ps.length) → Lead ps (callsOf ws ps)
  | [], ps, _, _ => lead_self ps
  | w :: ws, ps, hs, hw => by
    have h1 : Lead ps (ps.set w (nx ps (nx ps w))) := lead_call hs (hw w (by simp))
    exact h1.trans hs (lead_callsG (h1.sta hs) fun x hx => by rw [List.length_set]; exact hw x (by simp [hx]))
/-! ### a dict of states with numbers -/
def kvF (F : List (List Nat × Nat)) : List (List Key × D) := F.map fun p => (keysN p.1, dn p.2)
abbrev ksF (F : List (List Nat × Nat)) : List (List Nat) := F.map (·.1)
theorem valF : valG (kvF F) (keysN l) = (F.find? fun p => decide (p.1 = l)).map fun p => dn p.2 := by
  induction F with
  | nil => rfl
  | cons p F ih =>
    unfold valG kvF at ih ⊢
    rw [List.map_cons, List.find?_cons, List.find?_cons]
    by_cases q : p.1 = l
    · have e1 : decide (keysN p.1 = keysN l) = true := decide_eq_true (by rw [q])
      simp only [e1, decide_eq_true q]
      rfl
    · have e1 : decide (keysN p.1 = keysN l) = false := decide_eq_false fun z => q (keysN_inj z)
      simp only [e1, decide_eq_false q]
      exact ih
theorem hasF : (valG (kvF F) (keysN l)).isSome = decide (l ∈ ksF F) := by
  rw [valF, Option.isSome_map, Bool.eq_iff_iff, List.find?_isSome, decide_eq_true_eq, List.mem_map]
  constructor
  · rintro ⟨p, h1, h2⟩; exact ⟨p, h1, of_decide_eq_true h2⟩
  · rintro ⟨p, h1, h2⟩; exact ⟨p, h1, decide_eq_true h2⟩
theorem d_inF : gIn (tupN l) (.dT (kvF F)) = some (.bl (decide (l ∈ ksF F))) := by
  simp only [gIn, gInB, getD2, keysD_tup, Option.map_some, hasF]
theorem d_notInF : gNotIn (tupN l) (.dT (kvF F)) = some (.bl (!decide (l ∈ ksF F))) := by
  simp only [gNotIn, gInB, getD2, keysD_tup, Option.map_some, hasF]
theorem d_putF {c : Nat} (h : l ∉ ksF F) (hl : F.length ≤ 1000000) : putD (.dT (kvF F)) (tupN l) (dn c) = some (.dT (kvF (F ++ [(l, c)]))) := by
  have hlim : (kvF F).length < lim := by unfold kvF; rw [List.length_map]; exact limlt (by omega)
  have hany : ¬ ((kvF F).any fun kv => decide (kv.1 = keysN l)) = true := by
    rw [List.any_eq_true]
    rintro ⟨kv, h1, h2⟩
    obtain ⟨p, hp, rfl⟩ := List.mem_map.mp h1
    have := keysN_inj (of_decide_eq_true h2)
    exact h (List.mem_map.mpr ⟨p, hp, this⟩)
  simp only [putD, hlim, if_true, keysD_tup, Option.map_some, putG]
  rw [if_neg hany]
  unfold kvF
  rw [List.map_append]; rfl
theorem sorted_F (h0 : ∀ k ∈ ksF F, k ≠ []) (hl : F.length ≤ 1000000) : gSortedB [.dT (kvF F)] = some (.lst ((sortM (ksF F)).map tupN)) := by
  have e1 : (kvF F).map (·.1) = (ksF F).map keysN := by unfold kvF ksF; rw [List.map_map, List.map_map]; rfl
  simp only [gSortedB, e1, intKss_N]
  rw [if_pos]
  · rw [← sortM_zn, List.map_map]
    refine congrArg some (congrArg D.lst (List.map_congr_left fun a _ => ?_))
    show D.tup _ = D.tup (dns a)
    rw [dns_dzs]
  · refine ⟨by rw [List.length_map, List.length_map]; exact hl, fun z hz q => ?_⟩
    obtain ⟨a, ha, rfl⟩ := List.mem_map.mp hz
    exact h0 a ha (List.map_eq_nil_iff.mp q)
/-! ### how many states there are -/
def cdN (n : Nat) : List Nat → Nat
  | [] => 0
  | x :: l => x + n * cdN n l
theorem cd_lt : ∀ {l : List Nat}, (∀ x ∈ l, x < n) → cdN n l < n ^ l.length
  | [], _ => by show 0 < n ^ 0; simp
  | x :: l, h => by
    have h1 := cd_lt (l := l) fun y hy => h y (by simp [hy])
    have hx := h x (by simp)
    rw [List.length_cons, Nat.pow_succ]
    show x + n * cdN n l < _
    have h2 : n * (cdN n l + 1) ≤ n * n ^ l.length := Nat.mul_le_mul_left _ h1
    rw [Nat.mul_succ] at h2
    rw [Nat.mul_comm (n ^ l.length) n]
    omega
theorem cd_inj : ∀ {l k : List Nat}, l.length = k.length → (∀ x ∈ l, x < n) → (∀ x ∈ k, x < n) → cdN n l = cdN n k → l = k
  | [], [], _, _, _, _ => rfl
  | x :: l, y :: k, hl, h1, h2, e => by
    have hx := h1 x (by simp)
    have hy := h2 y (by simp)
    have e : x + n * cdN n l = y + n * cdN n k := e
    have em := congrArg (· % n) e
    simp only [Nat.add_mul_mod_self_left, Nat.mod_eq_of_lt hx, Nat.mod_eq_of_lt hy] at em
    subst em
    have e3 : n * cdN n l = n * cdN n k := by omega
    have e4 := Nat.eq_of_mul_eq_mul_left (by omega) e3
    rw [cd_inj (by simpa using hl) (fun z hz => h1 z (by simp [hz])) (fun z hz => h2 z (by simp [hz])) e4]
theorem many_states {K : List (List Nat)} (nd : K.Nodup) (h : ∀ k ∈ K, k.length = n ∧ Sta k) : K.length ≤ n ^ n := by
  have h1 : ∀ k ∈ K, ∀ x ∈ k, x < n := fun k hk x hx => by rw [← (h k hk).1]; exact (h k hk).2 x hx
  have := nodup_le (l := K.map (cdN n)) (n := n ^ n) (nodup_map_of (fun a ha b hb e => cd_inj (by rw [(h a ha).1, (h b hb).1]) (h1 a ha) (h1 b hb) e) nd) fun z hz => by
    obtain ⟨k, hk, rfl⟩ := List.mem_map.mp hz
    have := cd_lt (h1 k hk)
    rw [(h k hk).1] at this
    exact this
  rw [List.length_map] at this
  exact this
/-! ### what calls lead to -/
def Reach (ps l : List Nat) : Prop := ∃ ws : List Nat, (∀ w ∈ ws, w < ps.length) ∧ callsOf ws ps = l
theorem Reach.self (ps : List Nat) : Reach ps ps := ⟨[], (fun _ h => nomatch h), rfl⟩
theorem Reach.next (h : Reach ps l) (hw : w < ps.length) : Reach ps (callsOf [w] l) := by
  obtain ⟨ws, h1, e⟩ := h
  refine ⟨ws ++ [w], fun x hx => ?_, by rw [calls_app, e]⟩
  rcases List.mem_append.mp hx with z | z
  · exact h1 x z
  · rw [List.mem_singleton] at z; rw [z]; exact hw
theorem Reach.sta (hs : Sta ps) (h : Reach ps l) : l.length = ps.length ∧ Sta l := by
  obtain ⟨ws, h1, e⟩ := h
  rw [← e]
  exact ⟨calls_len _ _, (lead_callsG hs h1).sta hs⟩
theorem reach_lead (hs : Sta ps) : Reach ps l ↔ Lead ps l := by
  constructor
  · rintro ⟨ws, h1, rfl⟩; exact lead_callsG hs h1
  · intro h
    obtain ⟨h1, h2, _⟩ := word_ok hs h
    exact ⟨_, h2, h1⟩
theorem reach_all {K : List (List Nat)} (h0 : ps ∈ K) (hc : ∀ k ∈ K, ∀ w, w < ps.length → callsOf [w] k ∈ K) : ∀ l, Reach ps l → l ∈ K := by
  rintro l ⟨ws, h1, rfl⟩
  have key : ∀ (ws k : List Nat), (∀ w ∈ ws, w < ps.length) → k ∈ K → callsOf ws k ∈ K := fun ws => by
    induction ws with
    | nil => exact fun k _ hk => hk
    | cons w ws ih => exact fun k hw hk => ih _ (fun x hx => hw x (by simp [hx])) (hc k hk w (hw w (by simp)))
  exact key ws ps h1 h0
theorem w_dict1Z {t : List Nat} {e : DE} {Q : D → DE → Prop} : Wq (qDict1T (qVar 0) (qC (.int 0)) (some (tupN t) :: e)) Q = Q (.dT (kvF [(t, 0)])) (some (tupN t) :: e) := by
  rw [dict1T_eq]
  have e1 : dcQT qSkip qYes (qVar 0) (qC (.int 0)) (wipeD (some (tupN t) :: e) []) [.int 0] [] = some (kvF [(t, 0)]) := by
    simp only [dcQT, qSkip, qYes, wipeD, qVar, qC, gd0, keysD_tup]
    rw [if_pos (by decide)]
    rfl
  rw [e1]
  exact wq_ret
theorem t_give {i j : Nat} {e : DE} {R : Qe} : Ws (qGive j i e) R = Wo (e.getD i none) fun d => R.nx ((e.set i none).set j (some d)) := by
  unfold qGive
  cases e.getD i none with
  | none => rw [wo_none, ws_eq]; rfl
  | some d => simp only [wo_some, ws_nx]
structure GrowT (ps : List Nat) (F F' : List (List Nat × Nat)) (M : List (List Nat)) : Prop where
  nd : (ksF F').Nodup
  rch : ∀ l ∈ ksF F', Reach ps l
  sub : ∀ l ∈ ksF F, l ∈ ksF F'
  mem : ∀ l ∈ ksF F', l ∈ ksF F ∨ l ∈ M
  msub : ∀ l ∈ M, l ∈ ksF F'
  len : F'.length = F.length + M.length
theorem ksF_app {F : List (List Nat × Nat)} {l : List Nat} {c : Nat} : ksF (F ++ [(l, c)]) = ksF F ++ [l] := by unfold ksF; rw [List.map_append]; rfl
theorem GrowT.add {F F' : List (List Nat × Nat)} {M : List (List Nat)} (G : GrowT ps F F' M) (h : l ∉ ksF F') (hr : Reach ps l) (c : Nat) : GrowT ps F (F' ++ [(l, c)]) (M ++ [l]) where
  nd := by
    rw [ksF_app, List.nodup_append]
    exact ⟨G.nd, by simp, fun a ha b hb z => by rw [List.mem_singleton] at hb; subst hb; subst z; exact h ha⟩
  rch := fun k hk => by
    rw [ksF_app] at hk
    rcases List.mem_append.mp hk with z | z
    · exact G.rch k z
    · rw [List.mem_singleton] at z; rw [z]; exact hr
  sub := fun k hk => by rw [ksF_app]; exact List.mem_append_left _ (G.sub k hk)
  mem := fun k hk => by
    rw [ksF_app] at hk
    rcases List.mem_append.mp hk with z | z
    · exact (G.mem k z).elim .inl fun q => .inr (List.mem_append_left _ q)
    · exact .inr (List.mem_append_right _ z)
  msub := fun k hk => by
    rw [ksF_app]
    rcases List.mem_append.mp hk with z | z
    · exact List.mem_append_left _ (G.msub k z)
    · exact List.mem_append_right _ z
  len := by rw [List.length_append, List.length_append, G.len]; rfl
theorem grow_le (hs : Sta ps) {F : List (List Nat × Nat)} (nd : (ksF F).Nodup) (h : ∀ l ∈ ksF F, Reach ps l) : F.length ≤ ps.length ^ ps.length := by
  have := many_states (n := ps.length) nd fun k hk => (h k hk).sta hs
  unfold ksF at this
  rwa [List.length_map] at this
theorem pow5 {n : Nat} (h : n ≤ 5) : n ^ n ≤ 3125 := by
  have : n = 0 ∨ n = 1 ∨ n = 2 ∨ n = 3 ∨ n = 4 ∨ n = 5 := by omega
  rcases this with rfl | rfl | rfl | rfl | rfl | rfl <;> decide
end MP

set_option maxRecDepth 100000
namespace MP
open PySem PySem.Spec PyProof.Rows L2
variable {ps qs ws l h : List Nat} {w r m n p f x y : Nat} {v u : D} {T : List D → FO} {F : List (List Nat × Nat)}
end MP

set_option maxRecDepth 100000
namespace MP
open PySem PySem.Spec PyProof.Rows L2
/-! ### sorted(a tuple of ints) -/
def gSortT : List D → Option D
  | [.tup xs] => (match intsD xs with | some ns => if ns.length ≤ 1000000 then some (.lst ((sortI ns).map D.int)) else none | _ => none)
  | _ => none
theorem og_sortT : OLR .new oSortT gSortT := by
  intro S X xs ds hX h d hd
  unfold gSortT at hd
  split at hd
  · rename_i ys
    obtain ⟨v, rfl, r⟩ := rds1 h
    obtain ⟨zs, rfl, r2⟩ := r.inv_tup
    cases e : intsD ys with
    | some ns =>
      rw [e] at hd
      dsimp only at hd
      split at hd
      · rename_i hl
        cases hd
        exact ⟨_, _, by simp only [oSortT]; rw [ints_rp r2 e]; dsimp only; rw [if_pos hl], .app _ _ _, NewR.app (.lst (.ints _)) hX⟩
      · cases hd
    | none => rw [e] at hd; cases hd
  · cases hd
end MP

set_option maxRecDepth 100000
namespace MP
open PySem PySem.Spec PyProof.Rows L2
/-! ### zip of a tuple and a list; a tuple, once -/
def qzipM : List D → Option (List D)
  | [.tup xs, .tup ys] => some (zipD xs ys)
  | [.lst xs, .lst ys] => some (zipD xs ys)
  | [.tup xs, .lst ys] => some (zipD xs ys)
  | _ => none
theorem st_zipM : StR zipOfM qzipM := fun S X vs ds rs r h => by
  have old : ∀ {ds}, Rds S X vs ds → qzip ds = some rs → ∃ src ws, zipOfM S vs = some src ∧ (∀ S'' : Ms, (∀ n ∈ rootsOf vs, S''[n]? = S[n]?) → ∀ i, nxt S'' i src = nxO ws[i]?) ∧ Rps S X ws rs := fun r h => by
    obtain ⟨src, ws, h1, h2, h3⟩ := st_zip S X vs _ rs r h
    exact ⟨src, ws, by unfold zipOfM; rw [h1], h2, h3⟩
  unfold qzipM at h
  split at h
  · cases h; exact old r rfl
  · cases h; exact old r rfl
  · cases h
    obtain ⟨v, w, rfl, r1, r2⟩ := rds2 r
    obtain ⟨xs, rfl, q1⟩ := r1.inv_tup
    obtain ⟨n2, ys, rfl, e2, q2⟩ := r2.inv_lst
    refine ⟨.zipM xs n2, _, by simp only [zipOfM, zipOf, zipOfX, rdL, e2, Option.map_some], fun S'' hS i => ?_, rps_zip q1 q2⟩
    have h2 : S''[n2]? = some (.lst ys) := by rw [hS n2 (by simp [rootsOf, rootOf])]; exact e2
    simp only [nxt, rdL, h2]; exact zip_nxQ
  · cases h
end MP

set_option maxRecDepth 100000
namespace MP
open PySem PySem.Spec PyProof.Rows L2
section
variable {Y Z X X' : List Nat} {sh : List Sh} {mu mu' mu2 : List Nat} {env env' env1 env2 : Env'} {S S' S1 S2 : Ms} {e e' e1 e2 : DE} {fps fps' fps1 fps2 : List (List Nat)} {fr : Bool} {v : PV} {d : D}
/-! ### [f(box, x) for x in it], the items may be lists -/
end
end MP

set_option maxRecDepth 100000
namespace MP
open PySem PySem.Spec PyProof.Rows L2
variable {ps qs fs k : List Nat} {w x y r m p : Nat} {v u : D} {T : List D → FO}
/-! ### a ring, sorted -/
noncomputable def srtN (l : List Nat) : List Nat := (sortI (zn l)).map Int.toNat
theorem srt_back {l : List Nat} : zn (srtN l) = sortI (zn l) := by
  unfold srtN
  rw [zn, List.map_map]
  refine (List.map_congr_left fun z hz => ?_).trans (List.map_id _)
  obtain ⟨n, _, e⟩ := List.mem_map.mp ((sortI_perm _).mem_iff.mp hz)
  show ((z.toNat : Nat) : Int) = z
  rw [← e]; rfl
theorem srt_mem {l : List Nat} : x ∈ srtN l ↔ x ∈ l := by
  rw [← zmem, srt_back, (sortI_perm _).mem_iff, zmem]
theorem srt_len {l : List Nat} : (srtN l).length = l.length := by
  unfold srtN
  rw [List.length_map, (sortI_perm _).length_eq, List.length_map]
theorem d_sortT {l : List Nat} (h : l.length ≤ 1000000) : gSortT [.tup (dns l)] = some (.lst (dns (srtN l))) := by
  simp only [gSortT, intsD_dns]
  rw [if_pos (by rw [List.length_map]; exact h)]
  have := srt_back (l := l)
  rw [zn, zn] at this
  rw [dns_dzs, this]
/-! ### what is loose, and what it may point at -/
noncomputable def loB (ps : List Nat) (w : Nat) : Bool := decide (w ∉ ringL ps w) && decide (ps.getD w 0 ∈ ringL ps w)
noncomputable def chA (ps : List Nat) (w : Nat) : List Nat := if loB ps w = true then srtN (ringL ps w) else [ps.getD w 0]
noncomputable def chL (ps : List Nat) : List (List Nat) := (List.range ps.length).map (chA ps)
theorem chL_len : (chL ps).length = ps.length := by simp [chL]
noncomputable def inB (ps qs : List Nat) : Bool := (qs.zip (chL ps)).all fun p => decide (p.1 ∈ p.2)
theorem inB_iff (hl : qs.length = ps.length) : inB ps qs = true ↔ ∀ w, w < ps.length → qs.getD w 0 ∈ chA ps w := by
  unfold inB
  rw [List.all_eq_true]
  constructor
  · intro h w hw
    have hz : (qs.getD w 0, chA ps w) ∈ qs.zip (chL ps) := by
      refine List.mem_of_getElem? (i := w) ?_
      rw [List.getElem?_zip_eq_some]
      refine ⟨?_, ?_⟩
      · rw [List.getD_eq_getElem?_getD, List.getElem?_eq_getElem (by omega)]; rfl
      · unfold chL; rw [List.getElem?_map, List.getElem?_range hw]; rfl
    exact of_decide_eq_true (h _ hz)
  · rintro h ⟨t, c⟩ hz
    obtain ⟨i, hi⟩ := List.mem_iff_getElem?.mp hz
    rw [List.getElem?_zip_eq_some] at hi
    obtain ⟨h1, h2⟩ := hi
    have hi : i < ps.length := by have := (List.getElem?_eq_some_iff.mp h1).1; omega
    unfold chL at h2
    rw [List.getElem?_map, List.getElem?_range hi] at h2
    have e2 : chA ps i = c := Option.some.inj h2
    have e1 : qs.getD i 0 = t := by rw [List.getD_eq_getElem?_getD, h1]; rfl
    refine decide_eq_true ?_
    rw [← e1, ← e2]
    exact h i hi
theorem lo_off (h : w ∈ ringL ps w) : loB ps w = false := by unfold loB; rw [decide_eq_false (fun z => z h)]; rfl
theorem ring_agree (hs : Sta ps) (hq : Sta qs) (hl : qs.length = ps.length) (hx : x < ps.length) (h : x ∈ ringL ps x) (ha : ∀ y ∈ ringL ps x, qs.getD y 0 = ps.getD y 0) : ringL qs x = ringL ps x := by
  obtain ⟨_, p, hp, _⟩ := mem_ring hs hx h
  have hself := ring_self hs hx hp
  have hit : ∀ k, it qs x k = it ps x k := by
    intro k
    induction k with
    | zero => rfl
    | succ k ih =>
      show nx qs (it qs x k) = nx ps (it ps x k)
      rw [ih]
      exact ha _ ((hself _).mpr (mem_lap.mpr ⟨k % p, Nat.mod_lt _ hp.pos, (hp.mod k).symm⟩))
  have hq' : Per qs x p := ⟨hp.pos, by rw [hit]; exact hp.back, fun k h1 h2 => by rw [hit]; exact hp.first k h1 h2⟩
  have hmet : met qs x p = met ps x p := List.map_congr_left fun k _ => hit _
  obtain ⟨m, g1, g2⟩ := per_min hp
  rw [ringL_per hs hx hp g1 g2, ringL_per hq (by omega) hq' (by rw [hmet]; exact g1) (by rw [hmet]; exact g2)]
  obtain ⟨i, _, ei⟩ := mem_met.mp g1
  unfold lapL
  refine List.map_congr_left fun k _ => ?_
  rw [← ei]
  calc it qs (it ps x (i + 1)) k = it qs (it qs x (i + 1)) k := by rw [hit]
    _ = it qs x (i + 1 + k) := (it_add (i + 1) k).symm
    _ = it ps x (i + 1 + k) := hit _
    _ = it ps (it ps x (i + 1)) k := it_add (i + 1) k
theorem self_ring (hs : Sta ps) (hx : x < ps.length) (h : y ∈ ringL ps x) : y < ps.length ∧ y ∈ ringL ps y := by
  obtain ⟨⟨k, e⟩, _⟩ := mem_ring hs hx h
  refine ⟨by rw [← e]; exact it_lt hs hx k, ?_⟩
  rw [ring_of_mem hs hx h]; exact h
theorem last_ring (hs : Sta ps) (hw : w < ps.length) : lastW ps w ∈ ringL ps w := by
  have hr : lastW ps w < ps.length := it_lt hs hw _
  obtain ⟨q, hq, _⟩ := per_last hs hw
  have e2 : ringL ps (lastW ps w) = ringL ps w := ringL_it hs hw _
  rw [← e2, ring_self hs hr hq]
  unfold lapL
  exact List.mem_map.mpr ⟨0, List.mem_range.mpr hq.pos, rfl⟩
section
variable (hs : Sta ps) (hq : Sta qs) (hl : qs.length = ps.length) (hk : ∀ w, w < ps.length → qs.getD w 0 ∈ chA ps w)
include hs hq hl hk
theorem kin_ring (hw : w < ps.length) : ringL qs w = ringL ps w := by
  have base : ∀ x, x < ps.length → x ∈ ringL ps x → ringL qs x = ringL ps x := fun x hx h =>
    ring_agree hs hq hl hx h fun y hy => by
      obtain ⟨h1, h2⟩ := self_ring hs hx hy
      have := hk y h1
      unfold chA at this
      rw [if_neg (by rw [lo_off h2]; simp)] at this
      exact List.mem_singleton.mp this
  have main : ∀ k x, x < ps.length → it ps x k ∈ ringL ps x → ringL qs x = ringL ps x := by
    intro k
    induction k with
    | zero => intro x hx h; exact base x hx h
    | succ k ih =>
      intro x hx h
      by_cases hx1 : x ∈ ringL ps x
      · exact base x hx hx1
      · have hn := hk x hx
        have hstep : ringL qs x = ringL qs (qs.getD x 0) := (ringL_it hq (by omega) 1).symm
        have hpx : ps.getD x 0 < ps.length := it_lt hs hx 1
        have hring : ringL ps (ps.getD x 0) = ringL ps x := ringL_it hs hx 1
        unfold chA at hn
        by_cases ht : ps.getD x 0 ∈ ringL ps x
        · rw [if_pos (by unfold loB; rw [decide_eq_true hx1, decide_eq_true ht]; rfl), srt_mem] at hn
          obtain ⟨h1, h2⟩ := self_ring hs hx hn
          rw [hstep, base _ h1 h2, ring_of_mem hs hx hn]
        · rw [if_neg (by unfold loB; rw [decide_eq_false ht, Bool.and_false]; simp)] at hn
          have hn := List.mem_singleton.mp hn
          rw [hstep, hn, ih _ hpx (by rw [hring]; have e : it ps (ps.getD x 0) k = it ps x (k + 1) := by rw [show k + 1 = 1 + k by omega, it_add]; rfl
                                      rw [e]; exact h), hring]
  exact main (wl ps w) w hw (last_ring hs hw)
theorem kin_lo (hw : w < ps.length) : loB qs w = loB ps w := by
  have hr := kin_ring hs hq hl hk hw
  have hn := hk w hw
  unfold loB
  rw [hr]
  by_cases hx1 : w ∈ ringL ps w
  · rw [decide_eq_false (fun z => z hx1)]; rfl
  · congr 1
    unfold chA at hn
    by_cases ht : ps.getD w 0 ∈ ringL ps w
    · rw [if_pos (by unfold loB; rw [decide_eq_true hx1, decide_eq_true ht]; rfl), srt_mem] at hn
      rw [decide_eq_true hn, decide_eq_true ht]
    · rw [if_neg (by unfold loB; rw [decide_eq_false ht, Bool.and_false]; simp)] at hn
      rw [List.mem_singleton.mp hn]
theorem kin_ends : endsL ps = endsL qs := by
  unfold endsL
  rw [hl]
  exact List.map_congr_left fun w hw => (kin_ring hs hq hl hk (List.mem_range.mp hw)).symm
theorem kin_rings : ringsL ps = ringsL qs := by
  have := kin_ends hs hq hl hk
  unfold endsL at this
  unfold ringsL
  rw [this]
end
theorem chA_len (hs : Sta ps) (hw : w < ps.length) : 1 ≤ (chA ps w).length ∧ (chA ps w).length ≤ ps.length := by
  unfold chA
  split
  · rw [srt_len]; exact ringL_ne hs hw
  · simp; omega
theorem chA_lt (hs : Sta ps) (hw : w < ps.length) (hx : x ∈ chA ps w) : x < ps.length := by
  unfold chA at hx
  split at hx
  · exact (self_ring hs hw (srt_mem.mp hx)).1
  · rw [List.mem_singleton.mp hx]; exact it_lt hs hw 1
theorem chL_short (hs : Sta ps) (hl : ps.length < 60) : ∀ l ∈ chL ps, l.length < 60 := fun l h => by
  unfold chL at h
  obtain ⟨w, hw, rfl⟩ := List.mem_map.mp h
  have := (chA_len hs (List.mem_range.mp hw)).2
  omega
/-! ### equal lists of tuples -/
theorem tups_inj : ∀ {A B : List (List Nat)}, (A.map fun k => PyData.tuple (dvs k)) = (B.map fun k => PyData.tuple (dvs k)) → A = B
  | [], [], _ => rfl
  | [], _ :: _, h => by simp at h
  | _ :: _, [], h => by simp at h
  | a :: A, b :: B, h => by
    simp only [List.map_cons, List.cons.injEq, PyData.tuple.injEq] at h
    rw [dvs_inj.mp h.1, tups_inj h.2]
theorem d_eqG {A B : List (List Nat)} (hA : A.length ≤ 10000) (hA2 : ∀ k ∈ A, k.length ≤ 10000) (hB : B.length ≤ 10000) (hB2 : ∀ k ∈ B, k.length ≤ 10000) : gEqB (.lst (A.map tupN)) (.lst (B.map tupN)) = some (decide (A = B)) := by
  obtain ⟨e1, e2, e3⟩ := d_list_tup hA hA2
  obtain ⟨f1, f2, f3⟩ := d_list_tup hB hB2
  unfold gEqB
  rw [e1, f1]
  simp only [e2, f2, Bool.and_self, if_true]
  have hi := eqv_iff (.list (A.map fun k => .tuple (dvs k))) (.list (B.map fun k => .tuple (dvs k))) (by simp [noB, noB_tups]) (by simp [noB, noB_tups])
  congr 1
  by_cases h : A = B
  · rw [decide_eq_true h]
    exact hi.mpr (by rw [h])
  · rw [decide_eq_false h]
    refine Bool.eq_false_iff.mpr fun z => h (tups_inj ?_)
    have := hi.mp z
    injection this
theorem mem_self_iff (hs : Sta ps) (hx : x < ps.length) : (∃ w, w < ps.length ∧ it ps w ps.length = x) ↔ x ∈ ringL ps x := by
  constructor
  · rintro ⟨w, hw, rfl⟩
    obtain ⟨q, hq, _⟩ := per_last hs hw
    have h1 := (wl_spec hs hw).1
    have e : it ps w ps.length = it ps (lastW ps w) (ps.length - wl ps w) := by
      unfold lastW
      rw [← it_add]; congr 1; omega
    have hp : Per ps (it ps w ps.length) q := by rw [e]; exact hq.it _
    rw [ring_self hs hx hp]
    unfold lapL
    exact List.mem_map.mpr ⟨0, List.mem_range.mpr hp.pos, rfl⟩
  · intro h
    obtain ⟨_, q, hq, _⟩ := mem_ring hs hx h
    refine ⟨it ps x ((q - 1) * ps.length), it_lt hs hx _, ?_⟩
    rw [← it_add]
    have e : (q - 1) * ps.length + ps.length = 0 + q * ps.length := by
      obtain ⟨t, rfl⟩ : ∃ t, q = t + 1 := ⟨q - 1, by have := hq.pos; omega⟩
      rw [Nat.add_sub_cancel, Nat.succ_mul]; omega
    rw [e, hq.many]; rfl
abbrev lstN (k : List Nat) : D := .lst (dns k)
noncomputable def P_Qchoices : List D → FO := qFn 5 (qSeq (qPar [1, 2] (qCons (qCall 1 false false (qCons (qVar 0) qNil) P_Qmembers) (qCons (qL qNil gList) qNil)))
  (qSeq (qFor (qiSt qenmA (qCons (qVar 0) qNil)) (qTp 2 (qCn (qNm 3) (qCn (qNm 4) qNl)))
  (qSeq (qSet 5 (qAnd (q2 (qVar 3) (qVar 1) gNotIn) (q2 (qVar 4) (qVar 1) gIn)))
  (qWS 2 (qCons (qIf (qT (qVar 5)) (qL (qCons (qCall 2 false true (qCons (qVar 0) (qCons (qVar 4) qNil)) P_Qring_at) qNil) gSortT) (qL (qCons (qVar 4) qNil) gList)) qNil) gAppend)))
  (qRet (qVar 2))))
theorem pchoices_ok (hs : Sta ps) (hv : SqD v (dns ps)) (hl : ps.length < 60) : Wf (P_Qchoices [v]) fun d _ => d = .lst ((chL ps).map lstN) := by
  unfold P_Qchoices
  simp only [w_fn, w_fnB, List.map_cons, List.map_nil, List.replicate, List.cons_append, List.nil_append, t_seq, t_if, t_next, t_break, t_cont, t_ret, t_retN, t_set, t_WS, t_put, t_par, t_for, t_asg, t_setR, t_drop, wg_two, wg_three, wg_nm, ws_nx, ws_rt, wi_of, wi_rg, wi_st, w_lc0, w_ssc, w_lc, w_lent, w_var, w_C, w_1, w_2, w_nil, w_cons, w_L, w_B, w_T, w_yes, w_bAnd, w_bOr, w_bNot, w_And, w_Or, w_Not, w_If, w_chain, w_only, w_cut, w_meth, w_newK, w_newT, w_call, w_callB, w_callK, w_w, wo_some, wq_ret, gd0, gdS, ls0, lsS, asBl_bl, isLs_l, ob_l, setAll, true_and, and_true, d_add, d_addI, d_sub, d_cmp, d_neg, mk0, mk1, mk2, mk3, mk4, mk5, mt0, mt1, mt2, mt3, mt4, List.length_singleton, okd0]
  refine (pmembers_ok hs hv hl).mono fun u _ hh => ?_
  obtain ⟨u, rfl, h1, h2⟩ := hh
  have hzl : ((List.range ps.length).zip ps).length = ps.length := by simp
  simp only [w_fn, w_fnB, List.map_cons, List.map_nil, List.replicate, List.cons_append, List.nil_append, t_seq, t_if, t_next, t_break, t_cont, t_ret, t_retN, t_set, t_WS, t_put, t_par, t_for, t_asg, t_setR, t_drop, wg_two, wg_three, wg_nm, ws_nx, ws_rt, wi_of, wi_rg, wi_st, w_lc0, w_ssc, w_lc, w_lent, w_var, w_C, w_1, w_2, w_nil, w_cons, w_L, w_B, w_T, w_yes, w_bAnd, w_bOr, w_bNot, w_And, w_Or, w_Not, w_If, w_chain, w_only, w_cut, w_meth, w_newK, w_newT, w_call, w_callB, w_callK, w_w, wo_some, wq_ret, gd0, gdS, ls0, lsS, asBl_bl, isLs_l, ob_l, setAll, true_and, and_true, d_add, d_addI, d_sub, d_cmp, d_neg, mk0, mk1, mk2, mk3, mk4, mk5, mt0, mt1, mt2, mt3, mt4, enmA_ok hv, enm_dns, List.length_map, hzl]
  refine ⟨by simp, limle (by omega), t_forL (I := fun pre e => ∃ (x3 x4 x5 : Option D), e = [some v, some (.lst (dns u)), some (.lst ((List.range pre.length).map fun w => lstN (chA ps w))), x3, x4, x5]) ⟨_, _, _, rfl⟩ ?_ ?_⟩
  · rintro pre x post e hsp ⟨x3, x4, x5, rfl⟩
    obtain ⟨z1, z2, z3⟩ := zip_split hsp
    have hpl : pre.length < ps.length := by rw [← z1]; exact z2
    have hpx : x.2 < ps.length := by rw [← z3]; exact it_lt hs z2 1
    have hring : ringL ps x.2 = ringL ps x.1 := by rw [← z3]; exact ringL_it hs z2 1
    have hm : x.1 ∈ u ↔ x.1 ∈ ringL ps x.1 := (h2 _).trans (mem_self_iff hs z2)
    have hm2 : x.2 ∈ u ↔ x.2 ∈ ringL ps x.1 := by rw [← hring]; exact (h2 _).trans (mem_self_iff hs hpx)
    have happ : ∀ c : List Nat, c = chA ps x.1 → gAppend (.lst ((List.range pre.length).map fun w => lstN (chA ps w))) [lstN c] = some (.non, .lst ((List.range (pre ++ [x]).length).map fun w => lstN (chA ps w))) := fun c hc => by
      rw [d_app (limlt (by rw [List.length_map, List.length_range]; omega)), List.length_append, List.length_singleton, List.range_succ, List.map_append, hc, z1]; rfl
    simp only [w_fn, w_fnB, List.map_cons, List.map_nil, List.replicate, List.cons_append, List.nil_append, t_seq, t_if, t_next, t_break, t_cont, t_ret, t_retN, t_set, t_WS, t_put, t_par, t_for, t_asg, t_setR, t_drop, wg_two, wg_three, wg_nm, ws_nx, ws_rt, wi_of, wi_rg, wi_st, w_lc0, w_ssc, w_lc, w_lent, w_var, w_C, w_1, w_2, w_nil, w_cons, w_L, w_B, w_T, w_yes, w_bAnd, w_bOr, w_bNot, w_And, w_Or, w_Not, w_If, w_chain, w_only, w_cut, w_meth, w_newK, w_newT, w_call, w_callB, w_callK, w_w, wo_some, wq_ret, gd0, gdS, ls0, lsS, asBl_bl, isLs_l, ob_l, setAll, true_and, and_true, d_add, d_addI, d_sub, d_cmp, d_neg, mk0, mk1, mk2, mk3, mk4, mk5, mt0, mt1, mt2, mt3, mt4, d_notIn (SqD.l (xs := dns u)), d_in (SqD.l (xs := dns u)), tr_bl, List.length_cons, List.length_nil, Nat.zero_add, Nat.reduceAdd, okd0]
    by_cases ha : x.1 ∈ u
    · rw [if_neg (by simp [ha])]
      simp only [Bool.false_eq_true, if_false]
      try simp only [w_fn, w_fnB, List.map_cons, List.map_nil, List.replicate, List.cons_append, List.nil_append, t_seq, t_if, t_next, t_break, t_cont, t_ret, t_retN, t_set, t_WS, t_put, t_par, t_for, t_asg, t_setR, t_drop, wg_two, wg_three, wg_nm, ws_nx, ws_rt, wi_of, wi_rg, wi_st, w_lc0, w_ssc, w_lc, w_lent, w_var, w_C, w_1, w_2, w_nil, w_cons, w_L, w_B, w_T, w_yes, w_bAnd, w_bOr, w_bNot, w_And, w_Or, w_Not, w_If, w_chain, w_only, w_cut, w_meth, w_newK, w_newT, w_call, w_callB, w_callK, w_w, wo_some, wq_ret, gd0, gdS, ls0, lsS, asBl_bl, isLs_l, ob_l, setAll, true_and, and_true, d_add, d_addI, d_sub, d_cmp, d_neg, mk0, mk1, mk2, mk3, mk4, mk5, mt0, mt1, mt2, mt3, mt4]
      have hc : [x.2] = chA ps x.1 := by unfold chA; rw [lo_off (hm.mp ha), if_neg (by simp), z3]
      have hap : gAppend (.lst ((List.range pre.length).map fun w => lstN (chA ps w))) [.lst [dn x.2]] = _ := happ [x.2] hc
      simp only [hap, w_fn, w_fnB, List.map_cons, List.map_nil, List.replicate, List.cons_append, List.nil_append, t_seq, t_if, t_next, t_break, t_cont, t_ret, t_retN, t_set, t_WS, t_put, t_par, t_for, t_asg, t_setR, t_drop, wg_two, wg_three, wg_nm, ws_nx, ws_rt, wi_of, wi_rg, wi_st, w_lc0, w_ssc, w_lc, w_lent, w_var, w_C, w_1, w_2, w_nil, w_cons, w_L, w_B, w_T, w_yes, w_bAnd, w_bOr, w_bNot, w_And, w_Or, w_Not, w_If, w_chain, w_only, w_cut, w_meth, w_newK, w_newT, w_call, w_callB, w_callK, w_w, wo_some, wq_ret, gd0, gdS, ls0, lsS, asBl_bl, isLs_l, ob_l, setAll, true_and, and_true, d_add, d_addI, d_sub, d_cmp, d_neg, mk0, mk1, mk2, mk3, mk4, mk5, mt0, mt1, mt2, mt3, mt4]
      exact ⟨_, _, _, rfl⟩
    · rw [if_pos (by simp [ha])]
      by_cases hb : x.2 ∈ u
      · rw [if_pos (by simpa using hb)]
        refine (pring_at_ok hs hpx hv (by omega)).mono fun _ _ hu => ?_
        subst hu
        have hd := d_sortT (l := ringL ps x.2) (by have := (ringL_ne hs hpx).2; omega)
        have hc : srtN (ringL ps x.2) = chA ps x.1 := by
          unfold chA loB
          rw [z3, decide_eq_true (show ¬ x.1 ∈ ringL ps x.1 from fun z => ha (hm.mpr z)), decide_eq_true (hm2.mp hb), Bool.and_self, if_pos rfl, hring]
        simp only [w_fn, w_fnB, List.map_cons, List.map_nil, List.replicate, List.cons_append, List.nil_append, t_seq, t_if, t_next, t_break, t_cont, t_ret, t_retN, t_set, t_WS, t_put, t_par, t_for, t_asg, t_setR, t_drop, wg_two, wg_three, wg_nm, ws_nx, ws_rt, wi_of, wi_rg, wi_st, w_lc0, w_ssc, w_lc, w_lent, w_var, w_C, w_1, w_2, w_nil, w_cons, w_L, w_B, w_T, w_yes, w_bAnd, w_bOr, w_bNot, w_And, w_Or, w_Not, w_If, w_chain, w_only, w_cut, w_meth, w_newK, w_newT, w_call, w_callB, w_callK, w_w, wo_some, wq_ret, gd0, gdS, ls0, lsS, asBl_bl, isLs_l, ob_l, setAll, true_and, and_true, d_add, d_addI, d_sub, d_cmp, d_neg, mk0, mk1, mk2, mk3, mk4, mk5, mt0, mt1, mt2, mt3, mt4, hd, happ _ hc]
        exact ⟨_, _, _, rfl⟩
      · rw [if_neg (by simpa using hb)]
        have hc : [x.2] = chA ps x.1 := by
          unfold chA loB
          rw [z3, decide_eq_false (fun z => hb (hm2.mpr z)), Bool.and_false, if_neg (by simp)]
        have hap : gAppend (.lst ((List.range pre.length).map fun w => lstN (chA ps w))) [.lst [dn x.2]] = _ := happ [x.2] hc
        simp only [hap, w_fn, w_fnB, List.map_cons, List.map_nil, List.replicate, List.cons_append, List.nil_append, t_seq, t_if, t_next, t_break, t_cont, t_ret, t_retN, t_set, t_WS, t_put, t_par, t_for, t_asg, t_setR, t_drop, wg_two, wg_three, wg_nm, ws_nx, ws_rt, wi_of, wi_rg, wi_st, w_lc0, w_ssc, w_lc, w_lent, w_var, w_C, w_1, w_2, w_nil, w_cons, w_L, w_B, w_T, w_yes, w_bAnd, w_bOr, w_bNot, w_And, w_Or, w_Not, w_If, w_chain, w_only, w_cut, w_meth, w_newK, w_newT, w_call, w_callB, w_callK, w_w, wo_some, wq_ret, gd0, gdS, ls0, lsS, asBl_bl, isLs_l, ob_l, setAll, true_and, and_true, d_add, d_addI, d_sub, d_cmp, d_neg, mk0, mk1, mk2, mk3, mk4, mk5, mt0, mt1, mt2, mt3, mt4]
        exact ⟨_, _, _, rfl⟩
  · rintro e ⟨x3, x4, x5, rfl⟩
    rw [hzl]
    simp only [w_fn, w_fnB, List.map_cons, List.map_nil, List.replicate, List.cons_append, List.nil_append, t_seq, t_if, t_next, t_break, t_cont, t_ret, t_retN, t_set, t_WS, t_put, t_par, t_for, t_asg, t_setR, t_drop, wg_two, wg_three, wg_nm, ws_nx, ws_rt, wi_of, wi_rg, wi_st, w_lc0, w_ssc, w_lc, w_lent, w_var, w_C, w_1, w_2, w_nil, w_cons, w_L, w_B, w_T, w_yes, w_bAnd, w_bOr, w_bNot, w_And, w_Or, w_Not, w_If, w_chain, w_only, w_cut, w_meth, w_newK, w_newT, w_call, w_callB, w_callK, w_w, wo_some, wq_ret, gd0, gdS, ls0, lsS, asBl_bl, isLs_l, ob_l, setAll, true_and, and_true, d_add, d_addI, d_sub, d_cmp, d_neg, mk0, mk1, mk2, mk3, mk4, mk5, mt0, mt1, mt2, mt3, mt4]
    unfold chL; rw [List.map_map]; rfl
theorem choice_zip {L : List Nat} : zipD (dns L) ((chL ps).map lstN) = (L.zip (chL ps)).map fun p => .tup [dn p.1, lstN p.2] := by
  unfold zipD dns
  rw [List.zip_map, List.map_map]; rfl
theorem d_choice (hu : SqD u (dns qs)) : qzipM [u, .lst ((chL ps).map lstN)] = some ((qs.zip (chL ps)).map fun p => .tup [dn p.1, lstN p.2]) := by
  rcases hu with rfl | rfl <;> exact congrArg some choice_zip
/-! ### kin -/
noncomputable def P_Qare_kin : List D → FO := qFn 2 (qSeq (qDrop (qCall 2 false true (qCons (qVar 0) (qCons (qVar 1) qNil)) P_QlookS))
  (qSeq (qIfS (qB (q2 (qCall 1 false true (qCons (qVar 0) qNil) P_Qrings) (qCall 1 false true (qCons (qVar 1) qNil) P_Qrings) gNe))
  (qRet (qC (.bl false)))
  qNext)
  (qRet (qL (qCons (qLc0 (qiSt qzipM (qCons (qVar 1) (qCons (qCall 1 false true (qCons (qVar 0) qNil) P_Qchoices) qNil))) (qTp 2 (qCn (qNm 2) (qCn (qNm 3) qNl))) qYes (q2 (qVar 2) (qVar 3) gIn) [2, 3]) qNil) gAll))))
theorem pkin_ok (hs : Sta ps) (hq : Sta qs) (hv : SqD v (dns ps)) (hu : SqD u (dns qs)) (hl : ps.length < 60) (e : qs.length = ps.length) : Wf (P_Qare_kin [v, u]) fun d _ => d = .bl (inB ps qs) := by
  unfold P_Qare_kin
  have hx := lookS hv hu
  rw [dns_len, dns_len, if_pos e.symm] at hx
  simp only [w_fn, w_fnB, List.map_cons, List.map_nil, List.replicate, List.cons_append, List.nil_append, t_seq, t_if, t_next, t_break, t_cont, t_ret, t_retN, t_set, t_WS, t_put, t_par, t_for, t_asg, t_setR, t_drop, wg_two, wg_three, wg_nm, ws_nx, ws_rt, wi_of, wi_rg, wi_st, w_lc0, w_ssc, w_lc, w_lent, w_var, w_C, w_1, w_2, w_nil, w_cons, w_L, w_B, w_T, w_yes, w_bAnd, w_bOr, w_bNot, w_And, w_Or, w_Not, w_If, w_chain, w_only, w_cut, w_meth, w_newK, w_newT, w_call, w_callB, w_callK, w_w, wo_some, wq_ret, gd0, gdS, ls0, lsS, asBl_bl, isLs_l, ob_l, setAll, true_and, and_true, d_add, d_addI, d_sub, d_cmp, d_neg, mk0, mk1, mk2, mk3, mk4, mk5, mt0, mt1, mt2, mt3, mt4, List.length_cons, List.length_nil, Nat.zero_add, Nat.reduceAdd, okd0]
  refine Wf.of hx ?_
  have hok : okD true true (.non : D) = true := rfl
  try simp only [w_fn, w_fnB, List.map_cons, List.map_nil, List.replicate, List.cons_append, List.nil_append, t_seq, t_if, t_next, t_break, t_cont, t_ret, t_retN, t_set, t_WS, t_put, t_par, t_for, t_asg, t_setR, t_drop, wg_two, wg_three, wg_nm, ws_nx, ws_rt, wi_of, wi_rg, wi_st, w_lc0, w_ssc, w_lc, w_lent, w_var, w_C, w_1, w_2, w_nil, w_cons, w_L, w_B, w_T, w_yes, w_bAnd, w_bOr, w_bNot, w_And, w_Or, w_Not, w_If, w_chain, w_only, w_cut, w_meth, w_newK, w_newT, w_call, w_callB, w_callK, w_w, wo_some, wq_ret, gd0, gdS, ls0, lsS, asBl_bl, isLs_l, ob_l, setAll, true_and, and_true, d_add, d_addI, d_sub, d_cmp, d_neg, mk0, mk1, mk2, mk3, mk4, mk5, mt0, mt1, mt2, mt3, mt4, hok, List.length_cons, List.length_nil, Nat.zero_add, Nat.reduceAdd, okd0]
  refine (prings_ok hs hv hl).mono fun _ _ h1 => ?_
  subst h1
  try simp only [w_fn, w_fnB, List.map_cons, List.map_nil, List.replicate, List.cons_append, List.nil_append, t_seq, t_if, t_next, t_break, t_cont, t_ret, t_retN, t_set, t_WS, t_put, t_par, t_for, t_asg, t_setR, t_drop, wg_two, wg_three, wg_nm, ws_nx, ws_rt, wi_of, wi_rg, wi_st, w_lc0, w_ssc, w_lc, w_lent, w_var, w_C, w_1, w_2, w_nil, w_cons, w_L, w_B, w_T, w_yes, w_bAnd, w_bOr, w_bNot, w_And, w_Or, w_Not, w_If, w_chain, w_only, w_cut, w_meth, w_newK, w_newT, w_call, w_callB, w_callK, w_w, wo_some, wq_ret, gd0, gdS, ls0, lsS, asBl_bl, isLs_l, ob_l, setAll, true_and, and_true, d_add, d_addI, d_sub, d_cmp, d_neg, mk0, mk1, mk2, mk3, mk4, mk5, mt0, mt1, mt2, mt3, mt4, List.length_cons, List.length_nil, Nat.zero_add, Nat.reduceAdd, okd0]
  refine (prings_ok hq hu (by omega)).mono fun _ _ h1 => ?_
  subst h1
  have hrl : ∀ {qs : List Nat}, Sta qs → qs.length < 60 → ∀ k ∈ ringsL qs, k.length ≤ 10000 := fun hq h k hk => by have := rings_short hq h k hk; omega
  have hne : gNe (.lst ((ringsL ps).map tupN)) (.lst ((ringsL qs).map tupN)) = some (.bl (!decide (ringsL ps = ringsL qs))) := by
    unfold gNe
    rw [d_eqG (by have := rings_len hs; omega) (hrl hs hl) (by have := rings_len hq; omega) (hrl hq (by omega))]; rfl
  simp only [w_fn, w_fnB, List.map_cons, List.map_nil, List.replicate, List.cons_append, List.nil_append, t_seq, t_if, t_next, t_break, t_cont, t_ret, t_retN, t_set, t_WS, t_put, t_par, t_for, t_asg, t_setR, t_drop, wg_two, wg_three, wg_nm, ws_nx, ws_rt, wi_of, wi_rg, wi_st, w_lc0, w_ssc, w_lc, w_lent, w_var, w_C, w_1, w_2, w_nil, w_cons, w_L, w_B, w_T, w_yes, w_bAnd, w_bOr, w_bNot, w_And, w_Or, w_Not, w_If, w_chain, w_only, w_cut, w_meth, w_newK, w_newT, w_call, w_callB, w_callK, w_w, wo_some, wq_ret, gd0, gdS, ls0, lsS, asBl_bl, isLs_l, ob_l, setAll, true_and, and_true, d_add, d_addI, d_sub, d_cmp, d_neg, mk0, mk1, mk2, mk3, mk4, mk5, mt0, mt1, mt2, mt3, mt4, hne]
  by_cases hr : ringsL ps = ringsL qs
  · rw [if_neg (by simp [hr])]
    try simp only [w_fn, w_fnB, List.map_cons, List.map_nil, List.replicate, List.cons_append, List.nil_append, t_seq, t_if, t_next, t_break, t_cont, t_ret, t_retN, t_set, t_WS, t_put, t_par, t_for, t_asg, t_setR, t_drop, wg_two, wg_three, wg_nm, ws_nx, ws_rt, wi_of, wi_rg, wi_st, w_lc0, w_ssc, w_lc, w_lent, w_var, w_C, w_1, w_2, w_nil, w_cons, w_L, w_B, w_T, w_yes, w_bAnd, w_bOr, w_bNot, w_And, w_Or, w_Not, w_If, w_chain, w_only, w_cut, w_meth, w_newK, w_newT, w_call, w_callB, w_callK, w_w, wo_some, wq_ret, gd0, gdS, ls0, lsS, asBl_bl, isLs_l, ob_l, setAll, true_and, and_true, d_add, d_addI, d_sub, d_cmp, d_neg, mk0, mk1, mk2, mk3, mk4, mk5, mt0, mt1, mt2, mt3, mt4, List.length_cons, List.length_nil, Nat.zero_add, Nat.reduceAdd, okd0]
    refine (pchoices_ok hs hv hl).mono fun _ _ h1 => ?_
    subst h1
    simp only [w_fn, w_fnB, List.map_cons, List.map_nil, List.replicate, List.cons_append, List.nil_append, t_seq, t_if, t_next, t_break, t_cont, t_ret, t_retN, t_set, t_WS, t_put, t_par, t_for, t_asg, t_setR, t_drop, wg_two, wg_three, wg_nm, ws_nx, ws_rt, wi_of, wi_rg, wi_st, w_lc0, w_ssc, w_lc, w_lent, w_var, w_C, w_1, w_2, w_nil, w_cons, w_L, w_B, w_T, w_yes, w_bAnd, w_bOr, w_bNot, w_And, w_Or, w_Not, w_If, w_chain, w_only, w_cut, w_meth, w_newK, w_newT, w_call, w_callB, w_callK, w_w, wo_some, wq_ret, gd0, gdS, ls0, lsS, asBl_bl, isLs_l, ob_l, setAll, true_and, and_true, d_add, d_addI, d_sub, d_cmp, d_neg, mk0, mk1, mk2, mk3, mk4, mk5, mt0, mt1, mt2, mt3, mt4, d_choice hu, List.length_map, List.length_zip, chL_len]
    refine ⟨limle (by omega), w_lcM (φ := fun p : Nat × List Nat => .tup [dn p.1, lstN p.2]) (f := fun p => .bl (decide (p.1 ∈ p.2))) (fun p hp => ?_) ?_⟩
    · simp only [wipe2, w_fn, w_fnB, List.map_cons, List.map_nil, List.replicate, List.cons_append, List.nil_append, t_seq, t_if, t_next, t_break, t_cont, t_ret, t_retN, t_set, t_WS, t_put, t_par, t_for, t_asg, t_setR, t_drop, wg_two, wg_three, wg_nm, ws_nx, ws_rt, wi_of, wi_rg, wi_st, w_lc0, w_ssc, w_lc, w_lent, w_var, w_C, w_1, w_2, w_nil, w_cons, w_L, w_B, w_T, w_yes, w_bAnd, w_bOr, w_bNot, w_And, w_Or, w_Not, w_If, w_chain, w_only, w_cut, w_meth, w_newK, w_newT, w_call, w_callB, w_callK, w_w, wo_some, wq_ret, gd0, gdS, ls0, lsS, asBl_bl, isLs_l, ob_l, setAll, true_and, and_true, d_add, d_addI, d_sub, d_cmp, d_neg, mk0, mk1, mk2, mk3, mk4, mk5, mt0, mt1, mt2, mt3, mt4, d_in (SqD.l (xs := dns p.2))]
    · simp only [w_fn, w_fnB, List.map_cons, List.map_nil, List.replicate, List.cons_append, List.nil_append, t_seq, t_if, t_next, t_break, t_cont, t_ret, t_retN, t_set, t_WS, t_put, t_par, t_for, t_asg, t_setR, t_drop, wg_two, wg_three, wg_nm, ws_nx, ws_rt, wi_of, wi_rg, wi_st, w_lc0, w_ssc, w_lc, w_lent, w_var, w_C, w_1, w_2, w_nil, w_cons, w_L, w_B, w_T, w_yes, w_bAnd, w_bOr, w_bNot, w_And, w_Or, w_Not, w_If, w_chain, w_only, w_cut, w_meth, w_newK, w_newT, w_call, w_callB, w_callK, w_w, wo_some, wq_ret, gd0, gdS, ls0, lsS, asBl_bl, isLs_l, ob_l, setAll, true_and, and_true, d_add, d_addI, d_sub, d_cmp, d_neg, mk0, mk1, mk2, mk3, mk4, mk5, mt0, mt1, mt2, mt3, mt4, d_allB (fun p : Nat × List Nat => decide (p.1 ∈ p.2))]
      rfl
  · rw [if_pos (by simp [hr])]
    try simp only [w_fn, w_fnB, List.map_cons, List.map_nil, List.replicate, List.cons_append, List.nil_append, t_seq, t_if, t_next, t_break, t_cont, t_ret, t_retN, t_set, t_WS, t_put, t_par, t_for, t_asg, t_setR, t_drop, wg_two, wg_three, wg_nm, ws_nx, ws_rt, wi_of, wi_rg, wi_st, w_lc0, w_ssc, w_lc, w_lent, w_var, w_C, w_1, w_2, w_nil, w_cons, w_L, w_B, w_T, w_yes, w_bAnd, w_bOr, w_bNot, w_And, w_Or, w_Not, w_If, w_chain, w_only, w_cut, w_meth, w_newK, w_newT, w_call, w_callB, w_callK, w_w, wo_some, wq_ret, gd0, gdS, ls0, lsS, asBl_bl, isLs_l, ob_l, setAll, true_and, and_true, d_add, d_addI, d_sub, d_cmp, d_neg, mk0, mk1, mk2, mk3, mk4, mk5, mt0, mt1, mt2, mt3, mt4]
    have : inB ps qs = false := by
      refine Bool.eq_false_iff.mpr fun z => hr ?_
      exact kin_rings hs hq e ((inB_iff e).mp z)
    rw [this]
noncomputable def P_Qkin_many : List D → FO := qFn 2 (qSeq (qSet 1 (qC (.int 1)))
  (qSeq (qFor (qiOf (qCall 1 false true (qCons (qVar 0) qNil) P_Qchoices)) (qNm 2)
  (qAug 1 gMulJ (qL (qCons (qVar 2) qNil) gLen)))
  (qRet (qVar 1))))
theorem pmany_ok (hs : Sta ps) (hv : SqD v (dns ps)) (hl : ps.length < 60) : Wf (P_Qkin_many [v]) fun d _ => d = dn (prodL 1 (chL ps)) := by
  have hsh := chL_short hs hl
  unfold P_Qkin_many
  simp only [w_fn, w_fnB, List.map_cons, List.map_nil, List.replicate, List.cons_append, List.nil_append, t_seq, t_if, t_next, t_break, t_cont, t_ret, t_retN, t_set, t_WS, t_put, t_par, t_for, t_asg, t_setR, t_drop, wg_two, wg_three, wg_nm, ws_nx, ws_rt, wi_of, wi_rg, wi_st, w_lc0, w_ssc, w_lc, w_lent, w_var, w_C, w_1, w_2, w_nil, w_cons, w_L, w_B, w_T, w_yes, w_bAnd, w_bOr, w_bNot, w_And, w_Or, w_Not, w_If, w_chain, w_only, w_cut, w_meth, w_newK, w_newT, w_call, w_callB, w_callK, w_w, wo_some, wq_ret, gd0, gdS, ls0, lsS, asBl_bl, isLs_l, ob_l, setAll, true_and, and_true, d_add, d_addI, d_sub, d_cmp, d_neg, mk0, mk1, mk2, mk3, mk4, mk5, mt0, mt1, mt2, mt3, mt4, List.length_singleton, okd0]
  refine (pchoices_ok hs hv hl).mono fun u2 _ hu => ?_
  subst hu
  simp only [w_fn, w_fnB, List.map_cons, List.map_nil, List.replicate, List.cons_append, List.nil_append, t_seq, t_if, t_next, t_break, t_cont, t_ret, t_retN, t_set, t_WS, t_put, t_par, t_for, t_asg, t_setR, t_drop, wg_two, wg_three, wg_nm, ws_nx, ws_rt, wi_of, wi_rg, wi_st, w_lc0, w_ssc, w_lc, w_lent, w_var, w_C, w_1, w_2, w_nil, w_cons, w_L, w_B, w_T, w_yes, w_bAnd, w_bOr, w_bNot, w_And, w_Or, w_Not, w_If, w_chain, w_only, w_cut, w_meth, w_newK, w_newT, w_call, w_callB, w_callK, w_w, wo_some, wq_ret, gd0, gdS, ls0, lsS, asBl_bl, isLs_l, ob_l, setAll, true_and, and_true, d_add, d_addI, d_sub, d_cmp, d_neg, mk0, mk1, mk2, mk3, mk4, mk5, mt0, mt1, mt2, mt3, mt4, items_l, List.length_map]
  refine ⟨limle (by rw [chL_len]; omega), t_forL (φ := lstN) (I := fun pre e => ∃ x2, e = [some v, some (dn (prodL 1 pre)), x2]) ⟨none, rfl⟩ ?_ ?_⟩
  · rintro pre l post e hsp ⟨x2, rfl⟩
    have hlm : l.length < 60 := hsh l (by rw [hsp]; simp)
    have hpl : pre.length ≤ 60 := by have := congrArg List.length hsp; rw [chL_len] at this; simp at this; omega
    have hb := prodL_b pre fun y hy => hsh y (by rw [hsp]; simp [hy])
    simp only [w_fn, w_fnB, List.map_cons, List.map_nil, List.replicate, List.cons_append, List.nil_append, t_seq, t_if, t_next, t_break, t_cont, t_ret, t_retN, t_set, t_WS, t_put, t_par, t_for, t_asg, t_setR, t_drop, wg_two, wg_three, wg_nm, ws_nx, ws_rt, wi_of, wi_rg, wi_st, w_lc0, w_ssc, w_lc, w_lent, w_var, w_C, w_1, w_2, w_nil, w_cons, w_L, w_B, w_T, w_yes, w_bAnd, w_bOr, w_bNot, w_And, w_Or, w_Not, w_If, w_chain, w_only, w_cut, w_meth, w_newK, w_newT, w_call, w_callB, w_callK, w_w, wo_some, wq_ret, gd0, gdS, ls0, lsS, asBl_bl, isLs_l, ob_l, setAll, true_and, and_true, d_add, d_addI, d_sub, d_cmp, d_neg, mk0, mk1, mk2, mk3, mk4, mk5, mt0, mt1, mt2, mt3, mt4, t_aug, d_lenL, dns_len, d_mulJ hb (show l.length < 2 ^ 6 by omega) (by omega) (by decide) (by omega)]
    exact ⟨_, by rw [prodL_snoc]⟩
  · rintro e ⟨x2, rfl⟩
    simp only [w_fn, w_fnB, List.map_cons, List.map_nil, List.replicate, List.cons_append, List.nil_append, t_seq, t_if, t_next, t_break, t_cont, t_ret, t_retN, t_set, t_WS, t_put, t_par, t_for, t_asg, t_setR, t_drop, wg_two, wg_three, wg_nm, ws_nx, ws_rt, wi_of, wi_rg, wi_st, w_lc0, w_ssc, w_lc, w_lent, w_var, w_C, w_1, w_2, w_nil, w_cons, w_L, w_B, w_T, w_yes, w_bAnd, w_bOr, w_bNot, w_And, w_Or, w_Not, w_If, w_chain, w_only, w_cut, w_meth, w_newK, w_newT, w_call, w_callB, w_callK, w_w, wo_some, wq_ret, gd0, gdS, ls0, lsS, asBl_bl, isLs_l, ob_l, setAll, true_and, and_true, d_add, d_addI, d_sub, d_cmp, d_neg, mk0, mk1, mk2, mk3, mk4, mk5, mt0, mt1, mt2, mt3, mt4]
/-! ### draws from lists -/
/-! ### other states -/
noncomputable def Qlooked : List D → FO := qFn 0 (qRet (q2 (q2 (qCut (qVar 0) (qC .non) (qOnly (qVar 1))) (qL (qCons (q2 (qVar 0) (q2 (qVar 0) (qVar 1) gSub1) gSub1) qNil) gTup) gAdd) (qCut (qVar 0) (qOnly (q2 (qVar 1) (qC (.int 1)) gAdd)) (qC .non)) gAdd))
theorem qlooked_ok (hs : Sta ps) (hw : w < ps.length) (hl : ps.length < 60) : Wf (Qlooked [.tup (dns ps), .int (w : Nat)]) fun d _ => d = .tup (dns (step ps w)) := by
  unfold Qlooked
  simp only [w_fn, w_fnB, List.map_cons, List.map_nil, List.replicate, List.cons_append, List.nil_append, t_seq, t_if, t_next, t_break, t_cont, t_ret, t_retN, t_set, t_WS, t_put, t_par, t_for, t_asg, t_setR, t_drop, wg_two, wg_three, wg_nm, ws_nx, ws_rt, wi_of, wi_rg, wi_st, w_lc0, w_ssc, w_lc, w_lent, w_var, w_C, w_1, w_2, w_nil, w_cons, w_L, w_B, w_T, w_yes, w_bAnd, w_bOr, w_bNot, w_And, w_Or, w_Not, w_If, w_chain, w_only, w_cut, w_meth, w_newK, w_newT, w_call, w_callB, w_callK, w_w, wo_some, wq_ret, gd0, gdS, ls0, lsS, asBl_bl, isLs_l, ob_l, setAll, true_and, and_true, d_add, d_addI, d_sub, d_cmp, d_neg, mk0, mk1, mk2, mk3, mk4, mk5, mt0, mt1, mt2, mt3, mt4, D.int.injEq, exists_eq_left', part_i, part_n, cut_t, d_subN (SqD.t (xs := dns ps)) hw, d_subN (SqD.t (xs := dns ps)) (show ps.getD w 0 < ps.length from it_lt hs hw 1), bent1 hw hl, bent2 hw hl, set_bent hw]
  rfl
/-! ### numbers of kin; what is refused -/
theorem kin_symm (hs : Sta ps) (hq : Sta qs) (hl : qs.length = ps.length) (h : inB ps qs = true) : inB qs ps = true := by
  have hk := (inB_iff hl).mp h
  refine (inB_iff hl.symm).mpr fun w hw => ?_
  have hw' : w < ps.length := by omega
  have h1 := hk w hw'
  unfold chA
  rw [kin_lo hs hq hl hk hw', kin_ring hs hq hl hk hw']
  unfold chA at h1
  by_cases hlo : loB ps w = true
  · rw [if_pos hlo, srt_mem]
    unfold loB at hlo
    rw [Bool.and_eq_true] at hlo
    exact of_decide_eq_true hlo.2
  · rw [if_neg hlo] at h1 ⊢
    rw [List.mem_singleton.mp h1]; simp
theorem kin_comm (hs : Sta ps) (hq : Sta qs) (hl : qs.length = ps.length) : inB qs ps = inB ps qs := by
  rw [Bool.eq_iff_iff]
  exact ⟨kin_symm hq hs hl.symm, kin_symm hs hq hl⟩
end MP

set_option maxRecDepth 100000
namespace MP
open PySem PySem.Spec PyProof.Rows L2
/-! ### divmod -/
def gDivmod : List D → Option D
  | [.int i, .int j] => if 0 < j then (if j < 1073741824 then some (.tup [.int (i / j), .int (i % j)]) else none) else none
  | _ => none
theorem og_divmod : OLR .new oDivmod gDivmod := by
  intro S X xs ds hX h d hd
  unfold gDivmod at hd
  split at hd
  · rename_i i j
    obtain ⟨v, w, rfl, r1, r2⟩ := rds2 h
    rw [r1.inv_int, r2.inv_int]
    split at hd
    · rename_i h1
      split at hd
      · rename_i h2
        cases hd
        exact ⟨_, S, by simp only [oDivmod]; rw [if_pos h1, if_pos h2], .refl _ _, NewR.tup (.cons (.int _) (.cons (.int _) .nil))⟩
      · cases hd
    · cases hd
  · cases hd
end MP

set_option maxRecDepth 100000
namespace MP
open PySem PySem.Spec PyProof.Rows L2
/-! ### a tuple, k times, k also 0 or 1 -/
end MP

set_option maxRecDepth 100000
namespace MP
open PySem PySem.Spec PyProof.Rows L2
variable {ps qs : List Nat} {L cs : List (List Nat)} {w x y r m p n a t : Nat} {v u : D} {T : List D → FO}
/-! ### numbers of choices -/
def prF : List (List Nat) → Nat
  | [] => 1
  | c :: cs => c.length * prF cs
def atK : List (List Nat) → Nat → List Nat
  | [], _ => []
  | c :: cs, n => c.getD (n / prF cs) 0 :: atK cs (n % prF cs)
def ixF : List Nat → Nat → Nat
  | [], _ => 0
  | y :: l, t => if y = t then 0 else ixF l t + 1
def noF (a : Nat) (Z : List (Nat × List Nat)) : Nat := Z.foldl (fun a p => a * p.2.length + ixF p.2 p.1) a
theorem prodL_prF : ∀ (L : List (List Nat)) (a : Nat), prodL a L = a * prF L
  | [], a => by simp [prodL, prF]
  | c :: cs, a => by
    show prodL (a * c.length) cs = _
    rw [prodL_prF cs, prF, Nat.mul_assoc]
theorem atF_len : ∀ (L : List (List Nat)) (n : Nat), (atK L n).length = L.length
  | [], _ => rfl
  | c :: cs, n => by rw [atK, List.length_cons, List.length_cons, atF_len cs]
theorem getD_memK {l : List Nat} (h : n < l.length) : l.getD n 0 ∈ l := by
  rw [List.getD_eq_getElem?_getD, List.getElem?_eq_getElem h, Option.getD_some]; exact List.getElem_mem h
theorem div_lt_of {a b n : Nat} (h : n < a * b) : n / b < a := Nat.div_lt_of_lt_mul (by rw [Nat.mul_comm]; exact h)
theorem pos_of_lt {a b n : Nat} (h : n < a * b) : 0 < b := Nat.pos_of_ne_zero fun z => by rw [z, Nat.mul_zero] at h; omega
theorem atF_mem : ∀ {L : List (List Nat)} {n : Nat}, n < prF L → ∀ p ∈ (atK L n).zip L, p.1 ∈ p.2
  | [], n, _, p, hp => by simp [atK] at hp
  | c :: cs, n, hn, p, hp => by
    rw [prF] at hn
    rw [atK, List.zip_cons_cons, List.mem_cons] at hp
    rcases hp with rfl | hp
    · exact getD_memK (div_lt_of hn)
    · exact atF_mem (Nat.mod_lt _ (pos_of_lt hn)) p hp
theorem ixF_at : ∀ (l : List Nat) (i : Nat), l.Nodup → i < l.length → ixF l (l.getD i 0) = i
  | [], _, _, h => absurd h (by simp)
  | y :: l, 0, _, _ => by simp [ixF]
  | y :: l, i + 1, hd, hi => by
    have h1 := List.nodup_cons.mp hd
    have hi' : i < l.length := by simpa using hi
    have hm : l.getD i 0 ∈ l := getD_memK hi'
    rw [List.getD_cons_succ, ixF, if_neg (fun z => h1.1 (by rw [z]; exact hm)), ixF_at l i h1.2 hi']
theorem ixF_spec : ∀ {l : List Nat} {t : Nat}, t ∈ l → l[ixF l t]? = some t ∧ ∀ j, j < ixF l t → l[j]? ≠ some t
  | [], t, h => by cases h
  | y :: l, t, h => by
    by_cases e : y = t
    · rw [ixF, if_pos e, e]
      exact ⟨rfl, fun j hj => absurd hj (Nat.not_lt_zero _)⟩
    · obtain ⟨h1, h2⟩ := ixF_spec (l := l) (t := t) (by
        rcases List.mem_cons.mp h with z | z
        · exact absurd z.symm e
        · exact z)
      rw [ixF, if_neg e]
      refine ⟨by rw [List.getElem?_cons_succ]; exact h1, fun j hj => ?_⟩
      cases j with
      | zero => rw [List.getElem?_cons_zero]; exact fun z => e (Option.some.inj z)
      | succ j => rw [List.getElem?_cons_succ]; exact h2 j (by omega)
theorem noF_at : ∀ (L : List (List Nat)) (n a : Nat), (∀ c ∈ L, c.Nodup) → n < prF L → noF a ((atK L n).zip L) = a * prF L + n
  | [], n, a, _, hn => by
    have : n = 0 := by have : n < 1 := hn; omega
    subst this; simp [noF, atK, prF]
  | c :: cs, n, a, h, hn => by
    rw [prF] at hn
    have hp := pos_of_lt hn
    have hd := div_lt_of hn
    have e : noF a ((atK (c :: cs) n).zip (c :: cs)) = noF (a * c.length + ixF c (c.getD (n / prF cs) 0)) ((atK cs (n % prF cs)).zip cs) := rfl
    rw [e, ixF_at c _ (h c (by simp)) hd, noF_at cs _ _ (fun x hx => h x (List.mem_cons_of_mem _ hx)) (Nat.mod_lt _ hp), prF]
    have h1 := Nat.div_add_mod n (prF cs)
    rw [Nat.add_mul, Nat.mul_assoc, Nat.mul_comm (n / prF cs)]; omega
theorem atF_step (c : List Nat) (cs : List (List Nat)) (n : Nat) : atK (c :: cs) (n % prF (c :: cs)) = c.getD (n / prF cs % c.length) 0 :: atK cs (n % prF cs) ∧ n / prF cs / c.length = n / prF (c :: cs) := by
  refine ⟨?_, ?_⟩
  · rw [atK, prF, Nat.mod_mul_left_div_self, Nat.mod_mod_of_dvd n (Nat.dvd_mul_left _ _)]
  · rw [prF, Nat.div_div_eq_div_mul, Nat.mul_comm]
/-! ### the choices of kin -/
theorem in_zip {L : List (List Nat)} (h : ∀ p ∈ qs.zip L, p.1 ∈ p.2) : (qs.zip L).all (fun p => decide (p.1 ∈ p.2)) = true := List.all_eq_true.mpr fun p hp => decide_eq_true (h p hp)
theorem ringL_nd (hs : Sta ps) (hw : w < ps.length) : (ringL ps w).Nodup := by
  obtain ⟨m, p, e, hp, _⟩ := ring_lap hs hw
  rw [e]
  unfold lapL
  refine nodup_map_of (fun a ha b hb z => ?_) List.nodup_range
  have ha := List.mem_range.mp ha
  have hb := List.mem_range.mp hb
  by_cases h1 : a < b
  · exact absurd z (hp.apart h1 (by omega))
  · by_cases h2 : b < a
    · exact absurd z.symm (hp.apart h2 (by omega))
    · omega
theorem chL_nd (hs : Sta ps) : ∀ c ∈ chL ps, c.Nodup := fun c hc => by
  unfold chL at hc
  obtain ⟨w, hw, rfl⟩ := List.mem_map.mp hc
  unfold chA
  split
  · have h1 : (zn (srtN (ringL ps w))).Nodup := by
      rw [srt_back]
      exact sortI_nodup (nodup_map_of (fun a _ b _ e => by have e : (a : Int) = b := e; omega) (ringL_nd hs (List.mem_range.mp hw)))
    exact List.Pairwise.of_map _ (fun a b hab e => hab (by rw [e])) h1
  · simp
theorem chL_one (hs : Sta ps) : ∀ c ∈ chL ps, 1 ≤ c.length := fun c hc => by
  unfold chL at hc
  obtain ⟨w, hw, rfl⟩ := List.mem_map.mp hc
  exact (chA_len hs (List.mem_range.mp hw)).1
theorem at_kin (hn : n < prF (chL ps)) : inB ps (atK (chL ps) n) = true := in_zip (atF_mem hn)
theorem at_len : (atK (chL ps) n).length = ps.length := by rw [atF_len, chL_len]
theorem at_sta (hs : Sta ps) (hn : n < prF (chL ps)) : Sta (atK (chL ps) n) := fun x hx => by
  have hk := (inB_iff at_len).mp (at_kin hn)
  obtain ⟨i, hi, e⟩ := List.mem_iff_getElem.mp hx
  rw [at_len] at hi ⊢
  have := chA_lt hs hi (hk i hi)
  rw [List.getD_eq_getElem?_getD, List.getElem?_eq_getElem (by rw [at_len]; exact hi), Option.getD_some, e] at this
  exact this
theorem d_revN {l : List Nat} : gRevL (.lst (dns l)) = some (.lst (dns l.reverse)) := by simp only [gRevL, List.map_reverse]
/-! ### kin_number, kin_at -/
theorem d_divmod {a b : Nat} (h : 1 ≤ b) (h2 : b < 1000000) : gDivmod [.int (a : Nat), .int (b : Nat)] = some (.tup [dn (a / b), dn (a % b)]) := by
  simp only [gDivmod]
  rw [if_pos (by omega), if_pos (by omega)]
  congr 4 <;> rfl
noncomputable def P_Qkin_at : List D → FO := qFn 4 (qSeq (qIfS (qbNot (qB (qChain (qC (.int 0)) (qVar 1) (qCall 1 false false (qCons (qVar 0) qNil) P_Qkin_many) gLe gLt)))
  (qRaise "NoNumber" "number" (qVar 1))
  qNext)
  (qSeq (qPar [2, 3] (qCons (qVar 1) (qCons (qL qNil gList) qNil)))
  (qSeq (qFor (qiOf (q1 (qCall 1 false true (qCons (qVar 0) qNil) P_Qchoices) gRevL)) (qNm 4)
  (qSeq (qAsg (qTp 2 (qCn (qNm 2) (qCn (qNm 5) qNl))) (qL (qCons (qVar 2) (qCons (qL (qCons (qVar 4) qNil) gLen) qNil)) gDivmod))
  (qWS 3 (qCons (q2 (qVar 4) (qVar 5) gSub1) qNil) gAppend)))
  (qRet (qL (qCons (q1 (qVar 3) gRevL) qNil) gTupOf)))))
theorem pkin_at_ok (hs : Sta ps) (hv : SqD v (dns ps)) (hl : ps.length < 60) (hn : n < prF (chL ps)) : Wf (P_Qkin_at [v, .int (n : Nat)]) fun d _ => d = .tup (dns (atK (chL ps) n)) := by
  have hsh := chL_short hs hl
  have hon := chL_one hs
  unfold P_Qkin_at
  simp only [w_fn, w_fnB, List.map_cons, List.map_nil, List.replicate, List.cons_append, List.nil_append, t_seq, t_if, t_next, t_break, t_cont, t_ret, t_retN, t_set, t_WS, t_put, t_par, t_for, t_asg, t_setR, t_drop, wg_two, wg_three, wg_nm, ws_nx, ws_rt, wi_of, wi_rg, wi_st, w_lc0, w_ssc, w_lc, w_lent, w_var, w_C, w_1, w_2, w_nil, w_cons, w_L, w_B, w_T, w_yes, w_bAnd, w_bOr, w_bNot, w_And, w_Or, w_Not, w_If, w_chain, w_only, w_cut, w_meth, w_newK, w_newT, w_call, w_callB, w_callK, w_w, wo_some, wq_ret, gd0, gdS, ls0, lsS, asBl_bl, isLs_l, ob_l, setAll, true_and, and_true, d_add, d_addI, d_sub, d_cmp, d_neg, mk0, mk1, mk2, mk3, mk4, mk5, mt0, mt1, mt2, mt3, mt4, List.length_singleton, okd0]
  refine (pmany_ok hs hv hl).mono fun _ _ h => ?_
  subst h
  rw [prodL_prF, Nat.one_mul]
  try simp only [w_fn, w_fnB, List.map_cons, List.map_nil, List.replicate, List.cons_append, List.nil_append, t_seq, t_if, t_next, t_break, t_cont, t_ret, t_retN, t_set, t_WS, t_put, t_par, t_for, t_asg, t_setR, t_drop, wg_two, wg_three, wg_nm, ws_nx, ws_rt, wi_of, wi_rg, wi_st, w_lc0, w_ssc, w_lc, w_lent, w_var, w_C, w_1, w_2, w_nil, w_cons, w_L, w_B, w_T, w_yes, w_bAnd, w_bOr, w_bNot, w_And, w_Or, w_Not, w_If, w_chain, w_only, w_cut, w_meth, w_newK, w_newT, w_call, w_callB, w_callK, w_w, wo_some, wq_ret, gd0, gdS, ls0, lsS, asBl_bl, isLs_l, ob_l, setAll, true_and, and_true, d_add, d_addI, d_sub, d_cmp, d_neg, mk0, mk1, mk2, mk3, mk4, mk5, mt0, mt1, mt2, mt3, mt4, gLe_int, gLt_int]
  rw [if_neg (by simp; omega)]
  refine ⟨rfl, ?_⟩
  refine (pchoices_ok hs hv hl).mono fun _ _ h => ?_
  subst h
  have hrv : gRevL (.lst ((chL ps).map lstN)) = some (.lst ((chL ps).reverse.map lstN)) := by simp only [gRevL, List.map_reverse]
  simp only [hrv, w_fn, w_fnB, List.map_cons, List.map_nil, List.replicate, List.cons_append, List.nil_append, t_seq, t_if, t_next, t_break, t_cont, t_ret, t_retN, t_set, t_WS, t_put, t_par, t_for, t_asg, t_setR, t_drop, wg_two, wg_three, wg_nm, ws_nx, ws_rt, wi_of, wi_rg, wi_st, w_lc0, w_ssc, w_lc, w_lent, w_var, w_C, w_1, w_2, w_nil, w_cons, w_L, w_B, w_T, w_yes, w_bAnd, w_bOr, w_bNot, w_And, w_Or, w_Not, w_If, w_chain, w_only, w_cut, w_meth, w_newK, w_newT, w_call, w_callB, w_callK, w_w, wo_some, wq_ret, gd0, gdS, ls0, lsS, asBl_bl, isLs_l, ob_l, setAll, true_and, and_true, d_add, d_addI, d_sub, d_cmp, d_neg, mk0, mk1, mk2, mk3, mk4, mk5, mt0, mt1, mt2, mt3, mt4, items_l, List.length_map, List.length_reverse, chL_len]
  refine ⟨limle (by omega), t_forL (φ := lstN) (I := fun pre e => ∃ x4 x5, e = [some v, some (.int (n : Nat)), some (dn (n / prF pre.reverse)), some (.lst (dns (atK pre.reverse (n % prF pre.reverse)).reverse)), x4, x5]) ⟨none, none, by simp [prF, atK]⟩ ?_ ?_⟩
  · rintro pre l post e hsp ⟨x4, x5, rfl⟩
    have hc : l ∈ chL ps := List.mem_reverse.mp (by rw [hsp]; simp)
    have hc1 := hon l hc
    have hc2 := hsh l hc
    have hpl : pre.length ≤ 60 := by have := congrArg List.length hsp; rw [List.length_reverse, chL_len] at this; simp at this; omega
    obtain ⟨s1, s2⟩ := atF_step l pre.reverse n
    have hdm := d_divmod (a := n / prF pre.reverse) hc1 (by omega)
    have hsub : gSub1 (lstN l) (.int (n / prF pre.reverse % l.length : Nat)) = some (dn (l.getD (n / prF pre.reverse % l.length) 0)) := d_subN SqD.l (Nat.mod_lt _ hc1)
    have happ := d_app (xs := dns (atK pre.reverse (n % prF pre.reverse)).reverse) (y := dn (l.getD (n / prF pre.reverse % l.length) 0)) (limlt (by rw [dns_len, List.length_reverse, atF_len, List.length_reverse]; omega))
    simp only [w_fn, w_fnB, List.map_cons, List.map_nil, List.replicate, List.cons_append, List.nil_append, t_seq, t_if, t_next, t_break, t_cont, t_ret, t_retN, t_set, t_WS, t_put, t_par, t_for, t_asg, t_setR, t_drop, wg_two, wg_three, wg_nm, ws_nx, ws_rt, wi_of, wi_rg, wi_st, w_lc0, w_ssc, w_lc, w_lent, w_var, w_C, w_1, w_2, w_nil, w_cons, w_L, w_B, w_T, w_yes, w_bAnd, w_bOr, w_bNot, w_And, w_Or, w_Not, w_If, w_chain, w_only, w_cut, w_meth, w_newK, w_newT, w_call, w_callB, w_callK, w_w, wo_some, wq_ret, gd0, gdS, ls0, lsS, asBl_bl, isLs_l, ob_l, setAll, true_and, and_true, d_add, d_addI, d_sub, d_cmp, d_neg, mk0, mk1, mk2, mk3, mk4, mk5, mt0, mt1, mt2, mt3, mt4, d_lenL, dns_len, hdm, hsub, happ]
    refine ⟨some (lstN l), some (dn (n / prF pre.reverse % l.length)), ?_⟩
    rw [List.reverse_append, List.reverse_singleton, List.singleton_append, s1, s2, List.reverse_cons]
    simp [dns]
  · rintro e ⟨x4, x5, rfl⟩
    have e0 : n % prF (chL ps) = n := Nat.mod_eq_of_lt hn
    simp only [w_fn, w_fnB, List.map_cons, List.map_nil, List.replicate, List.cons_append, List.nil_append, t_seq, t_if, t_next, t_break, t_cont, t_ret, t_retN, t_set, t_WS, t_put, t_par, t_for, t_asg, t_setR, t_drop, wg_two, wg_three, wg_nm, ws_nx, ws_rt, wi_of, wi_rg, wi_st, w_lc0, w_ssc, w_lc, w_lent, w_var, w_C, w_1, w_2, w_nil, w_cons, w_L, w_B, w_T, w_yes, w_bAnd, w_bOr, w_bNot, w_And, w_Or, w_Not, w_If, w_chain, w_only, w_cut, w_meth, w_newK, w_newT, w_call, w_callB, w_callK, w_w, wo_some, wq_ret, gd0, gdS, ls0, lsS, asBl_bl, isLs_l, ob_l, setAll, true_and, and_true, d_add, d_addI, d_sub, d_cmp, d_neg, mk0, mk1, mk2, mk3, mk4, mk5, mt0, mt1, mt2, mt3, mt4, List.reverse_reverse, d_revN, d_tup (SqD.l), e0]
/-! ### numbers in order -/
theorem llt_at : ∀ (L : List (List Nat)) (n m : Nat), (∀ c ∈ L, c.Pairwise (· < ·)) → n ≤ m → m < prF L → llt (zn (atK L m)) (zn (atK L n)) = false
  | [], _, _, _, _, _ => rfl
  | c :: cs, n, m, h, hnm, hm => by
    rw [prF] at hm
    have hp := pos_of_lt hm
    have dm := div_lt_of hm
    have dn : n / prF cs ≤ m / prF cs := Nat.div_le_div_right hnm
    have hc := h c (by simp)
    rw [atK, atK]
    show (decide (((c.getD (m / prF cs) 0 : Nat) : Int) < ((c.getD (n / prF cs) 0 : Nat) : Int)) || (decide (((c.getD (m / prF cs) 0 : Nat) : Int) = ((c.getD (n / prF cs) 0 : Nat) : Int)) && llt (zn (atK cs (m % prF cs))) (zn (atK cs (n % prF cs))))) = false
    by_cases he : n / prF cs = m / prF cs
    · have hr : n % prF cs ≤ m % prF cs := by
        have a1 := Nat.div_add_mod n (prF cs)
        have a2 := Nat.div_add_mod m (prF cs)
        rw [he] at a1
        omega
      rw [he, llt_at cs _ _ (fun x hx => h x (List.mem_cons_of_mem _ hx)) hr (Nat.mod_lt _ hp)]
      simp
    · have hlt : c.getD (n / prF cs) 0 < c.getD (m / prF cs) 0 := by
        have := List.pairwise_iff_getElem.mp hc (n / prF cs) (m / prF cs) (by omega) dm (by omega)
        rw [List.getD_eq_getElem?_getD, List.getD_eq_getElem?_getD, List.getElem?_eq_getElem (by omega), List.getElem?_eq_getElem dm]
        exact this
      rw [decide_eq_false (by omega), decide_eq_false (by omega)]; rfl
theorem srt_asc (hs : Sta ps) (hw : w < ps.length) : (srtN (ringL ps w)).Pairwise (· < ·) := by
  have h1 := srt_back (l := ringL ps w)
  have h2 : (zn (srtN (ringL ps w))).Pairwise (· ≤ ·) := by rw [h1]; exact sortI_sorted _
  have h3 : (zn (srtN (ringL ps w))).Nodup := by
    rw [h1]
    exact sortI_nodup (nodup_map_of (fun a _ b _ e => by have e : (a : Int) = b := e; omega) (ringL_nd hs hw))
  rw [List.pairwise_map] at h2
  have h4 : (srtN (ringL ps w)).Nodup := List.Pairwise.of_map _ (fun a b hab e => hab (by rw [e])) h3
  exact (h2.and h4).imp fun ⟨a, b⟩ => by omega
theorem chL_asc (hs : Sta ps) : ∀ c ∈ chL ps, c.Pairwise (· < ·) := fun c hc => by
  unfold chL at hc
  obtain ⟨w, hw, rfl⟩ := List.mem_map.mp hc
  unfold chA
  split
  · exact srt_asc hs (List.mem_range.mp hw)
  · simp
theorem sorted_at (hs : Sta ps) {ss : List Nat} (ha : ss.Pairwise (· < ·)) (hb : ∀ s ∈ ss, s < prF (chL ps)) : sortM (ss.map (atK (chL ps))) = ss.map (atK (chL ps)) := by
  have h : sortL ((ss.map (atK (chL ps))).map zn) = (ss.map (atK (chL ps))).map zn := by
    refine sortL_uniq (sortL_perm _) (sortL_sorted _) ?_
    rw [List.pairwise_map, List.pairwise_map]
    refine ha.imp_of_mem fun {a b} hx hy hab => ?_
    show (!llt (zn (atK (chL ps) b)) (zn (atK (chL ps) a))) = true
    rw [llt_at _ _ _ (chL_asc hs) (Nat.le_of_lt hab) (hb b hy)]; rfl
  unfold sortM
  rw [h, List.map_map]
  have : ∀ k ∈ ss.map (atK (chL ps)), ((fun k => k.map Int.toNat) ∘ zn) k = k := fun k _ => zn_back k
  exact (List.map_congr_left this).trans (List.map_id _)
end MP

set_option maxRecDepth 100000
namespace MP
open PySem PySem.Spec PyProof.Rows L2
variable {ps qs : List Nat} {L cs : List (List Nat)} {w x y r m p n a t : Nat} {v u : D} {T : List D → FO}
/-! ### all kin, in order -/
def allF (L : List (List Nat)) : List (List Nat) := (List.range (prF L)).map (atK L)
theorem allF_len : (allF L).length = prF L := by simp [allF]
theorem allF_klen : ∀ k ∈ allF L, k.length = L.length := fun k hk => by
  obtain ⟨i, _, rfl⟩ := List.mem_map.mp hk
  exact atF_len L i
theorem no_spec : ∀ (L : List (List Nat)) (xs : List Nat), xs.length = L.length → (∀ p ∈ xs.zip L, p.1 ∈ p.2) → ∃ n, n < prF L ∧ atK L n = xs
  | [], xs, hl, _ => ⟨0, by decide, by rw [List.eq_nil_of_length_eq_zero hl]; rfl⟩
  | c :: cs, [], hl, _ => by simp at hl
  | c :: cs, t :: xs, hl, h => by
    obtain ⟨n, h1, h2⟩ := no_spec cs xs (by simpa using hl) fun p hp => h p (by rw [List.zip_cons_cons]; exact List.mem_cons_of_mem _ hp)
    have ht : t ∈ c := h (t, c) (by rw [List.zip_cons_cons]; exact List.mem_cons_self)
    obtain ⟨g1, _⟩ := ixF_spec ht
    have hi := (List.getElem?_eq_some_iff.mp g1).1
    have hp : 0 < prF cs := by omega
    refine ⟨ixF c t * prF cs + n, ?_, ?_⟩
    · rw [prF]
      have := Nat.mul_le_mul_right (prF cs) (show ixF c t + 1 ≤ c.length by omega)
      rw [Nat.succ_mul] at this
      omega
    · have e1 : (ixF c t * prF cs + n) / prF cs = ixF c t := by rw [Nat.mul_comm, Nat.mul_add_div hp, Nat.div_eq_of_lt h1, Nat.add_zero]
      have e2 : (ixF c t * prF cs + n) % prF cs = n := by rw [Nat.mul_comm, Nat.mul_add_mod, Nat.mod_eq_of_lt h1]
      rw [atK, e1, e2, h2, List.getD_eq_getElem?_getD, g1]; rfl
theorem mem_all (hl : qs.length = ps.length) : qs ∈ allF (chL ps) ↔ inB ps qs = true := by
  constructor
  · intro h
    obtain ⟨i, hi, rfl⟩ := List.mem_map.mp h
    exact at_kin (List.mem_range.mp hi)
  · intro h
    obtain ⟨n, h1, h2⟩ := no_spec (chL ps) qs (by rw [chL_len]; exact hl) fun p hp => by
      unfold inB at h
      exact of_decide_eq_true (List.all_eq_true.mp h p hp)
    exact List.mem_map.mpr ⟨n, List.mem_range.mpr h1, h2⟩
/-! ### how many there are at most -/
theorem prF_le {B : Nat} : ∀ W : List Nat, (∀ w ∈ W, (loB ps w = true → (chA ps w).length ≤ B)) → prF (W.map (chA ps)) ≤ B ^ (W.filter (loB ps)).length
  | [], _ => by simp [prF]
  | w :: W, h => by
    have ih := prF_le W fun x hx => h x (List.mem_cons_of_mem _ hx)
    rw [List.map_cons, prF, List.filter_cons]
    by_cases hl : loB ps w = true
    · rw [if_pos hl, List.length_cons, Nat.pow_succ, Nat.mul_comm]
      exact Nat.mul_le_mul ih (h w (by simp) hl)
    · rw [if_neg hl]
      have : (chA ps w).length = 1 := by unfold chA; rw [if_neg hl]; rfl
      rw [this, Nat.one_mul]; exact ih
theorem prF_256 (hs : Sta ps) (hl : ps.length ≤ 8) : prF (chL ps) ≤ 256 := by
  obtain ⟨l, el⟩ : ∃ l, l = ((List.range ps.length).filter (loB ps)).length := ⟨_, rfl⟩
  have hB : ∀ w ∈ List.range ps.length, loB ps w = true → (chA ps w).length ≤ ps.length - l := fun w hw hlo => by
    have hw := List.mem_range.mp hw
    have h1 : (chA ps w).length ≤ (ringL ps w).length := by
      unfold chA
      rw [if_pos hlo, srt_len]; exact Nat.le_refl _
    have h2 : (ringL ps w ++ (List.range ps.length).filter (loB ps)).length ≤ ps.length := nodup_le (by
      rw [List.nodup_append]
      refine ⟨ringL_nd hs hw, List.nodup_range.filter _, fun a ha b hb z => ?_⟩
      have hb := (List.mem_filter.mp hb).2
      rw [← z, lo_off (self_ring hs hw ha).2] at hb
      cases hb) fun x hx => by
        rcases List.mem_append.mp hx with hx | hx
        · exact (self_ring hs hw hx).1
        · exact List.mem_range.mp (List.mem_filter.mp hx).1
    rw [List.length_append, ← el] at h2
    omega
  have h3 := prF_le (ps := ps) (B := ps.length - l) (List.range ps.length) hB
  rw [← el] at h3
  have h4 : l ≤ 8 := by
    have := List.length_filter_le (loB ps) (List.range ps.length)
    rw [List.length_range] at this
    omega
  have h5 : (ps.length - l) ^ l ≤ (8 - l) ^ l := Nat.pow_le_pow_left (by omega) _
  have h6 : ∀ l, l < 9 → (8 - l) ^ l ≤ 256 := by decide
  have := h6 l (by omega)
  unfold chL
  omega
/-! ### drawn rows -/
end MP

set_option maxRecDepth 100000
namespace MP
open PySem PySem.Spec PyProof.Rows L2
variable {ps qs rs ws l h k : List Nat} {w r m n p f x y : Nat} {v u : D} {T : List D → FO} {A : List (List Nat)}
/-! ### kin states lead to each other, and no others do -/
theorem chA_off (h : loB ps x = false) : chA ps x = [ps.getD x 0] := by unfold chA; rw [h]; rfl
theorem kin_at_off (hl : qs.length = ps.length) (h : inB ps qs = true) (hx : x < ps.length) (ho : loB ps x = false) : nx qs x = nx ps x := by
  have := (inB_iff hl).mp h x hx
  rw [chA_off ho, List.mem_singleton] at this
  exact this
theorem kin_at_lo (hl : qs.length = ps.length) (h : inB ps qs = true) (hx : x < ps.length) (ho : loB ps x = true) : nx qs x ∈ ringL ps x := by
  have := (inB_iff hl).mp h x hx
  unfold chA at this
  rw [if_pos ho] at this
  exact srt_mem.mp this
theorem ring_on_way (hs : Sta ps) (hx : x < ps.length) (hy : y ∈ ringL ps x) : y ∈ wayL ps x := by
  have hw : lastW ps x < ps.length := (self_ring hs hx (last_ring hs hx)).1
  have hr : ringL ps (lastW ps x) = ringL ps x := ringL_it hs hx _
  have h1 : y ∈ wayL ps (lastW ps x) := ring_way hs hw (by rw [hr]; exact last_ring hs hx) (by rw [hr]; exact hy)
  obtain ⟨i, e2⟩ := (way_iff hs hw).mp h1
  exact (way_iff hs hx).mpr ⟨wl ps x + i, by rw [show wl ps x + i + 1 = wl ps x + (i + 1) by omega, it_add]; exact e2⟩
theorem kin_lead (hs : Sta ps) (hq : Sta qs) (hl : qs.length = ps.length) (h : inB ps qs = true) : Lead ps qs := by
  refine ⟨hl, fun x hx => ?_, fun x hx hg => ?_⟩
  · cases ho : loB ps x with
    | false => exact ⟨0, (kin_at_off hl h hx ho).symm⟩
    | true => exact (way_iff hs hx).mp (ring_on_way hs hx (kin_at_lo hl h hx ho))
  · have hr := kin_ring hs hq hl ((inB_iff hl).mp h) hx
    have h1 : x ∈ ringL qs x := (gr_ringL hq (hl ▸ hx)).mpr hg
    rw [hr] at h1
    rw [kin_at_off hl h hx (lo_off h1)]
    exact ⟨0, rfl, fun k hk => absurd hk (Nat.not_lt_zero _)⟩
theorem lead_kin (hs : Sta ps) (h1 : Lead ps qs) (h2 : Lead qs ps) : inB ps qs = true := by
  have hq := h1.sta hs
  have hl := h1.len
  have gr : ∀ x, x < ps.length → (GR qs x ↔ GR ps x) := fun x hx => ⟨h1.ring hs hx, h2.ring hq (by omega)⟩
  refine (inB_iff hl).mpr fun x hx => ?_
  have hxq : x < qs.length := by omega
  by_cases gx : GR ps x
  · -- on a ring: the first member met is the next one
    obtain ⟨c, e, hno⟩ := h1.fst x hx ((gr x hx).mpr gx)
    have hc : c = 0 := by
      by_cases q : c = 0
      · exact q
      · exact absurd ((gr _ (it_lt hs hx 1)).mpr (gx.it 1)) (hno 0 (by omega))
    subst hc
    have e : nx ps x = nx qs x := e
    rw [chA_off (lo_off ((gr_ringL hs hx).mpr gx))]
    exact List.mem_singleton.mpr e.symm
  · by_cases gn : GR ps (nx ps x)
    · have hlo : loB ps x = true := by
        have e1 : decide (x ∉ ringL ps x) = true := decide_eq_true fun z => gx ((gr_ringL hs hx).mp z)
        have e2 : decide (ps.getD x 0 ∈ ringL ps x) = true := decide_eq_true (by
          have h := (gr_ringL hs (it_lt hs hx 1)).mpr gn
          rw [ringL_it hs hx 1] at h
          exact h)
        unfold loB
        rw [e1, e2]; rfl
      unfold chA
      rw [if_pos hlo]
      refine srt_mem.mpr ?_
      obtain ⟨c, e⟩ := h1.onw x hx
      have hn := getD_lt hs hx
      have g1 : GR ps (it ps x (c + 1)) := by rw [it_hd]; exact gn.it c
      have hy := it_lt hs hx (c + 1)
      have := (gr_ringL hs hy).mpr g1
      rw [ringL_it hs hx (c + 1), e] at this
      exact this
    · have hlo : loB ps x = false := by
        unfold loB
        rw [Bool.and_eq_false_iff]
        right
        rw [decide_eq_false_iff_not]
        intro z
        have h : it ps x 1 ∈ ringL ps (it ps x 1) := by rw [ringL_it hs hx 1]; exact z
        exact gn ((gr_ringL hs (it_lt hs hx 1)).mp h)
      rw [chA_off hlo, List.mem_singleton]
      obtain ⟨c, e⟩ := h1.onw x hx
      obtain ⟨d, e2⟩ := h2.onw x hxq
      by_cases hc : c = 0
      · subst hc; exact e.symm
      · -- the pointer in ps would be met from beyond itself
        exfalso
        by_cases hd : d = 0
        · subst hd
          have e2 : nx qs x = nx ps x := e2
          apply gn
          refine ⟨c - 1, ?_⟩
          rw [show c - 1 + 1 = c by omega, ← it_hd, e, e2]
        · apply gn
          have hy : nx qs x < ps.length := by rw [← e]; exact it_lt hs hx _
          obtain ⟨j, e3⟩ := h1.many hs hy (d - 1)
          rw [show d - 1 + 1 = d by omega, ← it_hd, e2] at e3
          refine ⟨c + j, ?_⟩
          have : it ps (nx ps x) (c + j + 1) = it ps (it ps (nx ps x) c) (j + 1) := by rw [← it_add]; congr 1
          rw [this, ← it_hd, e, ← e3]
theorem kin_iff (hs : Sta ps) (h : Lead ps qs) : inB ps qs = true ↔ Lead qs ps := by

  have hq := h.sta hs
  exact ⟨fun z => kin_lead hq hs h.len.symm (kin_symm hs hq h.len z), fun z => lead_kin hs h z⟩
/-! ### the search -/
noncomputable def Qfut39 : List D → FO := qFn 7 (qSeq (qPar [1, 2, 3] (qCons (qDict1T (qVar 0) (qC (.int 0))) (qCons (qL (qCons (qVar 0) qNil) gList) (qCons (qC (.int 0)) qNil))))
  (qSeq (qWhile (qB (q2 (qVar 2) (qL qNil gList) gNe))
  (qSeq (qPar [4, 3] (qCons (qL qNil gList) (qCons (q2 (qVar 3) (qC (.int 1)) gAdd) qNil)))
  (qSeq (qFor (qiOf (qVar 2)) (qNm 5)
  (qFor (qiRg qrng1 (qCons (qL (qCons (qVar 5) qNil) gLen) qNil)) (qNm 6)
  (qSeq (qSet 7 (qCall 2 false true (qCons (qVar 5) (qCons (qVar 6) qNil)) Qlooked))
  (qIfS (qB (q2 (qVar 7) (qVar 1) gNotIn))
  (qSeq (qPut 1 (qVar 7) (qVar 3))
  (qWS 4 (qCons (qVar 7) qNil) gAppend))
  qNext))))
  (qGive 2 4))))
  (qRet (qVar 1))))
theorem qfut39_ok (hs : Sta ps) (h5 : ps.length ≤ 5) : Wf (Qfut39 [.tup (dns ps)]) fun d _ => ∃ F : List (List Nat × Nat), d = .dT (kvF F) ∧ (ksF F).Nodup ∧ (∀ l, l ∈ ksF F ↔ Reach ps l) ∧ F.length ≤ 3125 := by
  have hNN := pow5 h5
  have hrng : qrng1 [.int (ps.length : Nat)] = some (dns (List.range ps.length)) := d_rng1 (by omega)
  have small : ∀ {F : List (List Nat × Nat)}, (ksF F).Nodup → (∀ l ∈ ksF F, Reach ps l) → F.length ≤ 3125 := fun nd h => Nat.le_trans (grow_le hs nd h) hNN
  unfold Qfut39
  simp only [w_fn, w_fnB, List.map_cons, List.map_nil, List.replicate, List.cons_append, List.nil_append, t_seq, t_if, t_next, t_break, t_cont, t_ret, t_retN, t_set, t_WS, t_put, t_par, t_for, t_asg, t_setR, t_drop, wg_two, wg_three, wg_nm, ws_nx, ws_rt, wi_of, wi_rg, wi_st, w_lc0, w_ssc, w_lc, w_lent, w_var, w_C, w_1, w_2, w_nil, w_cons, w_L, w_B, w_T, w_yes, w_bAnd, w_bOr, w_bNot, w_And, w_Or, w_Not, w_If, w_chain, w_only, w_cut, w_meth, w_newK, w_newT, w_call, w_callB, w_callK, w_w, wo_some, wq_ret, gd0, gdS, ls0, lsS, asBl_bl, isLs_l, ob_l, setAll, true_and, and_true, d_add, d_addI, d_sub, d_cmp, d_neg, mk0, mk1, mk2, mk3, mk4, mk5, mt0, mt1, mt2, mt3, mt4]
  rw [show (some (D.tup (dns ps)) :: [none, none, none, none, none, none, none]) = some (tupN ps) :: [none, none, none, none, none, none, none] from rfl]
  simp only [w_dict1Z, w_fn, w_fnB, List.map_cons, List.map_nil, List.replicate, List.cons_append, List.nil_append, t_seq, t_if, t_next, t_break, t_cont, t_ret, t_retN, t_set, t_WS, t_put, t_par, t_for, t_asg, t_setR, t_drop, wg_two, wg_three, wg_nm, ws_nx, ws_rt, wi_of, wi_rg, wi_st, w_lc0, w_ssc, w_lc, w_lent, w_var, w_C, w_1, w_2, w_nil, w_cons, w_L, w_B, w_T, w_yes, w_bAnd, w_bOr, w_bNot, w_And, w_Or, w_Not, w_If, w_chain, w_only, w_cut, w_meth, w_newK, w_newT, w_call, w_callB, w_callK, w_w, wo_some, wq_ret, gd0, gdS, ls0, lsS, asBl_bl, isLs_l, ob_l, setAll, true_and, and_true, d_add, d_addI, d_sub, d_cmp, d_neg, mk0, mk1, mk2, mk3, mk4, mk5, mt0, mt1, mt2, mt3, mt4, List.all_cons, List.all_nil, List.length_cons, List.length_nil, Nat.zero_add, Nat.reduceAdd]
  refine ⟨by decide, ?_⟩
  refine t_while (I := fun k e => ∃ (F : List (List Nat × Nat)) (L : List (List Nat)) (f : Nat) (x4 x5 x6 x7 : Option D), e = [some (tupN ps), some (.dT (kvF F)), some (.lst (L.map tupN)), some (dn f), x4, x5, x6, x7] ∧ (ksF F).Nodup ∧ (∀ l ∈ ksF F, Reach ps l) ∧ ps ∈ ksF F ∧ (∀ l ∈ L, l ∈ ksF F) ∧ L.length ≤ F.length ∧ (∀ k ∈ ksF F, k ∉ L → ∀ w, w < ps.length → callsOf [w] k ∈ ksF F) ∧ k = 2 * (3125 - F.length) + (if L = [] then 0 else 1)) (2 * (3125 - 1) + 1) (fuelle (by decide)) ⟨[(ps, 0)], [ps], 0, none, none, none, none, rfl, by simp [ksF], fun l hl => by simp [ksF] at hl; rw [hl]; exact Reach.self ps, by simp [ksF], fun l hl => by simp at hl; simp [ksF, hl], by simp, fun k hk hn => by simp [ksF] at hk; simp [hk] at hn, by simp⟩ ?_
  rintro k e ⟨F, L, f, x4, x5, x6, x7, rfl, nd, rch, hps, hL, hLl, cl, rfl⟩
  have hF := small nd rch
  have hLs : ∀ k ∈ L, k.length ≤ 10000 := fun k hk => by have := ((rch k (hL k hk)).sta hs).1; omega
  simp only [w_fn, w_fnB, List.map_cons, List.map_nil, List.replicate, List.cons_append, List.nil_append, t_seq, t_if, t_next, t_break, t_cont, t_ret, t_retN, t_set, t_WS, t_put, t_par, t_for, t_asg, t_setR, t_drop, wg_two, wg_three, wg_nm, ws_nx, ws_rt, wi_of, wi_rg, wi_st, w_lc0, w_ssc, w_lc, w_lent, w_var, w_C, w_1, w_2, w_nil, w_cons, w_L, w_B, w_T, w_yes, w_bAnd, w_bOr, w_bNot, w_And, w_Or, w_Not, w_If, w_chain, w_only, w_cut, w_meth, w_newK, w_newT, w_call, w_callB, w_callK, w_w, wo_some, wq_ret, gd0, gdS, ls0, lsS, asBl_bl, isLs_l, ob_l, setAll, true_and, and_true, d_add, d_addI, d_sub, d_cmp, d_neg, mk0, mk1, mk2, mk3, mk4, mk5, mt0, mt1, mt2, mt3, mt4, gNeT_nil (show L.length ≤ 10000 by omega) hLs]
  by_cases hz : L = []
  · subst hz
    simp only [decide_true, Bool.not_true, Bool.false_eq_true, if_false, w_fn, w_fnB, List.map_cons, List.map_nil, List.replicate, List.cons_append, List.nil_append, t_seq, t_if, t_next, t_break, t_cont, t_ret, t_retN, t_set, t_WS, t_put, t_par, t_for, t_asg, t_setR, t_drop, wg_two, wg_three, wg_nm, ws_nx, ws_rt, wi_of, wi_rg, wi_st, w_lc0, w_ssc, w_lc, w_lent, w_var, w_C, w_1, w_2, w_nil, w_cons, w_L, w_B, w_T, w_yes, w_bAnd, w_bOr, w_bNot, w_And, w_Or, w_Not, w_If, w_chain, w_only, w_cut, w_meth, w_newK, w_newT, w_call, w_callB, w_callK, w_w, wo_some, wq_ret, gd0, gdS, ls0, lsS, asBl_bl, isLs_l, ob_l, setAll, true_and, and_true, d_add, d_addI, d_sub, d_cmp, d_neg, mk0, mk1, mk2, mk3, mk4, mk5, mt0, mt1, mt2, mt3, mt4]
    exact ⟨F, rfl, nd, fun l => ⟨rch l, reach_all hps (fun k hk w hw => cl k hk (by simp) w hw) l⟩, hF⟩
  · simp only [hz, decide_false, Bool.not_false, if_true, w_fn, w_fnB, List.map_cons, List.map_nil, List.replicate, List.cons_append, List.nil_append, t_seq, t_if, t_next, t_break, t_cont, t_ret, t_retN, t_set, t_WS, t_put, t_par, t_for, t_asg, t_setR, t_drop, wg_two, wg_three, wg_nm, ws_nx, ws_rt, wi_of, wi_rg, wi_st, w_lc0, w_ssc, w_lc, w_lent, w_var, w_C, w_1, w_2, w_nil, w_cons, w_L, w_B, w_T, w_yes, w_bAnd, w_bOr, w_bNot, w_And, w_Or, w_Not, w_If, w_chain, w_only, w_cut, w_meth, w_newK, w_newT, w_call, w_callB, w_callK, w_w, wo_some, wq_ret, gd0, gdS, ls0, lsS, asBl_bl, isLs_l, ob_l, setAll, true_and, and_true, d_add, d_addI, d_sub, d_cmp, d_neg, mk0, mk1, mk2, mk3, mk4, mk5, mt0, mt1, mt2, mt3, mt4, items_l, List.length_map, List.length_cons, List.length_nil, dn_addr, List.all_cons, List.all_nil, Nat.zero_add, Nat.reduceAdd]
    refine ⟨by decide, limle (by omega), t_forL (φ := tupN) (I := fun pre e => ∃ (F' : List (List Nat × Nat)) (M : List (List Nat)) (x5 x6 x7 : Option D), e = [some (tupN ps), some (.dT (kvF F')), some (.lst (L.map tupN)), some (dn (f + 1)), some (.lst (M.map tupN)), x5, x6, x7] ∧ GrowT ps F F' M ∧ ∀ k ∈ pre, ∀ w, w < ps.length → callsOf [w] k ∈ ksF F') ⟨F, [], x5, x6, x7, rfl, ⟨nd, rch, fun _ h => h, fun _ h => .inl h, by simp, by simp⟩, by simp⟩ ?_ ?_⟩
    · rintro pre there post e hsp ⟨F', M, y5, y6, y7, rfl, G, done⟩
      have hth : there ∈ ksF F := hL there (by rw [hsp]; simp)
      obtain ⟨tl, ts⟩ := (rch there hth).sta hs
      have hrng : qrng1 [.int (there.length : Nat)] = some (dns (List.range ps.length)) := by rw [tl]; exact d_rng1 (by omega)
      simp only [w_fn, w_fnB, List.map_cons, List.map_nil, List.replicate, List.cons_append, List.nil_append, t_seq, t_if, t_next, t_break, t_cont, t_ret, t_retN, t_set, t_WS, t_put, t_par, t_for, t_asg, t_setR, t_drop, wg_two, wg_three, wg_nm, ws_nx, ws_rt, wi_of, wi_rg, wi_st, w_lc0, w_ssc, w_lc, w_lent, w_var, w_C, w_1, w_2, w_nil, w_cons, w_L, w_B, w_T, w_yes, w_bAnd, w_bOr, w_bNot, w_And, w_Or, w_Not, w_If, w_chain, w_only, w_cut, w_meth, w_newK, w_newT, w_call, w_callB, w_callK, w_w, wo_some, wq_ret, gd0, gdS, ls0, lsS, asBl_bl, isLs_l, ob_l, setAll, true_and, and_true, d_add, d_addI, d_sub, d_cmp, d_neg, mk0, mk1, mk2, mk3, mk4, mk5, mt0, mt1, mt2, mt3, mt4, d_lenT, dns_len, hrng, List.length_range, tupN]
      refine ⟨limle (by omega), t_forL (φ := dn) (I := fun pre2 e => ∃ (F' : List (List Nat × Nat)) (M : List (List Nat)) (x6 x7 : Option D), e = [some (tupN ps), some (.dT (kvF F')), some (.lst (L.map tupN)), some (dn (f + 1)), some (.lst (M.map tupN)), some (tupN there), x6, x7] ∧ GrowT ps F F' M ∧ (∀ k ∈ pre, ∀ w, w < ps.length → callsOf [w] k ∈ ksF F') ∧ ∀ w ∈ pre2, callsOf [w] there ∈ ksF F') ⟨F', M, y6, y7, rfl, G, done, by simp⟩ ?_ ?_⟩
      · rintro pre2 w post2 e hsp2 ⟨F', M, x6, x7, rfl, G, done, dn2⟩
        have hw : w < ps.length := List.mem_range.mp (by rw [hsp2]; simp)
        have hF' := small G.nd G.rch
        have hMl : M.length ≤ 3125 := by have := G.len; omega
        simp only [w_fn, w_fnB, List.map_cons, List.map_nil, List.replicate, List.cons_append, List.nil_append, t_seq, t_if, t_next, t_break, t_cont, t_ret, t_retN, t_set, t_WS, t_put, t_par, t_for, t_asg, t_setR, t_drop, wg_two, wg_three, wg_nm, ws_nx, ws_rt, wi_of, wi_rg, wi_st, w_lc0, w_ssc, w_lc, w_lent, w_var, w_C, w_1, w_2, w_nil, w_cons, w_L, w_B, w_T, w_yes, w_bAnd, w_bOr, w_bNot, w_And, w_Or, w_Not, w_If, w_chain, w_only, w_cut, w_meth, w_newK, w_newT, w_call, w_callB, w_callK, w_w, wo_some, wq_ret, gd0, gdS, ls0, lsS, asBl_bl, isLs_l, ob_l, setAll, true_and, and_true, d_add, d_addI, d_sub, d_cmp, d_neg, mk0, mk1, mk2, mk3, mk4, mk5, mt0, mt1, mt2, mt3, mt4, tupN, List.length_cons, List.length_nil, Nat.zero_add, Nat.reduceAdd, okd0]
        refine (qlooked_ok (w := w) ts (by omega) (by omega)).mono fun z _ hz => ?_
        subst hz
        have hr : Reach ps (callsOf [w] there) := (rch there hth).next hw
        rw [show D.tup (dns (step there w)) = tupN (callsOf [w] there) from rfl]
        simp only [w_fn, w_fnB, List.map_cons, List.map_nil, List.replicate, List.cons_append, List.nil_append, t_seq, t_if, t_next, t_break, t_cont, t_ret, t_retN, t_set, t_WS, t_put, t_par, t_for, t_asg, t_setR, t_drop, wg_two, wg_three, wg_nm, ws_nx, ws_rt, wi_of, wi_rg, wi_st, w_lc0, w_ssc, w_lc, w_lent, w_var, w_C, w_1, w_2, w_nil, w_cons, w_L, w_B, w_T, w_yes, w_bAnd, w_bOr, w_bNot, w_And, w_Or, w_Not, w_If, w_chain, w_only, w_cut, w_meth, w_newK, w_newT, w_call, w_callB, w_callK, w_w, wo_some, wq_ret, gd0, gdS, ls0, lsS, asBl_bl, isLs_l, ob_l, setAll, true_and, and_true, d_add, d_addI, d_sub, d_cmp, d_neg, mk0, mk1, mk2, mk3, mk4, mk5, mt0, mt1, mt2, mt3, mt4, d_notInF]
        by_cases q : callsOf [w] there ∈ ksF F'
        · simp only [decide_eq_true q, Bool.not_true, Bool.false_eq_true, if_false, w_fn, w_fnB, List.map_cons, List.map_nil, List.replicate, List.cons_append, List.nil_append, t_seq, t_if, t_next, t_break, t_cont, t_ret, t_retN, t_set, t_WS, t_put, t_par, t_for, t_asg, t_setR, t_drop, wg_two, wg_three, wg_nm, ws_nx, ws_rt, wi_of, wi_rg, wi_st, w_lc0, w_ssc, w_lc, w_lent, w_var, w_C, w_1, w_2, w_nil, w_cons, w_L, w_B, w_T, w_yes, w_bAnd, w_bOr, w_bNot, w_And, w_Or, w_Not, w_If, w_chain, w_only, w_cut, w_meth, w_newK, w_newT, w_call, w_callB, w_callK, w_w, wo_some, wq_ret, gd0, gdS, ls0, lsS, asBl_bl, isLs_l, ob_l, setAll, true_and, and_true, d_add, d_addI, d_sub, d_cmp, d_neg, mk0, mk1, mk2, mk3, mk4, mk5, mt0, mt1, mt2, mt3, mt4]
          exact ⟨F', M, _, _, rfl, G, done, fun x hx => (List.mem_append.mp hx).elim (dn2 x) fun z => by rw [List.mem_singleton] at z; rw [z]; exact q⟩
        · simp only [decide_eq_false q, Bool.not_false, if_true, w_fn, w_fnB, List.map_cons, List.map_nil, List.replicate, List.cons_append, List.nil_append, t_seq, t_if, t_next, t_break, t_cont, t_ret, t_retN, t_set, t_WS, t_put, t_par, t_for, t_asg, t_setR, t_drop, wg_two, wg_three, wg_nm, ws_nx, ws_rt, wi_of, wi_rg, wi_st, w_lc0, w_ssc, w_lc, w_lent, w_var, w_C, w_1, w_2, w_nil, w_cons, w_L, w_B, w_T, w_yes, w_bAnd, w_bOr, w_bNot, w_And, w_Or, w_Not, w_If, w_chain, w_only, w_cut, w_meth, w_newK, w_newT, w_call, w_callB, w_callK, w_w, wo_some, wq_ret, gd0, gdS, ls0, lsS, asBl_bl, isLs_l, ob_l, setAll, true_and, and_true, d_add, d_addI, d_sub, d_cmp, d_neg, mk0, mk1, mk2, mk3, mk4, mk5, mt0, mt1, mt2, mt3, mt4]
          simp only [d_putF q (show F'.length ≤ 1000000 by omega), w_fn, w_fnB, List.map_cons, List.map_nil, List.replicate, List.cons_append, List.nil_append, t_seq, t_if, t_next, t_break, t_cont, t_ret, t_retN, t_set, t_WS, t_put, t_par, t_for, t_asg, t_setR, t_drop, wg_two, wg_three, wg_nm, ws_nx, ws_rt, wi_of, wi_rg, wi_st, w_lc0, w_ssc, w_lc, w_lent, w_var, w_C, w_1, w_2, w_nil, w_cons, w_L, w_B, w_T, w_yes, w_bAnd, w_bOr, w_bNot, w_And, w_Or, w_Not, w_If, w_chain, w_only, w_cut, w_meth, w_newK, w_newT, w_call, w_callB, w_callK, w_w, wo_some, wq_ret, gd0, gdS, ls0, lsS, asBl_bl, isLs_l, ob_l, setAll, true_and, and_true, d_add, d_addI, d_sub, d_cmp, d_neg, mk0, mk1, mk2, mk3, mk4, mk5, mt0, mt1, mt2, mt3, mt4]
          simp only [d_app (show (M.map tupN).length < lim by rw [List.length_map]; exact limlt (by omega)), w_fn, w_fnB, List.map_cons, List.map_nil, List.replicate, List.cons_append, List.nil_append, t_seq, t_if, t_next, t_break, t_cont, t_ret, t_retN, t_set, t_WS, t_put, t_par, t_for, t_asg, t_setR, t_drop, wg_two, wg_three, wg_nm, ws_nx, ws_rt, wi_of, wi_rg, wi_st, w_lc0, w_ssc, w_lc, w_lent, w_var, w_C, w_1, w_2, w_nil, w_cons, w_L, w_B, w_T, w_yes, w_bAnd, w_bOr, w_bNot, w_And, w_Or, w_Not, w_If, w_chain, w_only, w_cut, w_meth, w_newK, w_newT, w_call, w_callB, w_callK, w_w, wo_some, wq_ret, gd0, gdS, ls0, lsS, asBl_bl, isLs_l, ob_l, setAll, true_and, and_true, d_add, d_addI, d_sub, d_cmp, d_neg, mk0, mk1, mk2, mk3, mk4, mk5, mt0, mt1, mt2, mt3, mt4]
          refine ⟨rfl, F' ++ [(callsOf [w] there, f + 1)], M ++ [callsOf [w] there], _, _, by rw [List.map_append]; rfl, G.add q hr _, fun k hk v hv => ?_, fun x hx => ?_⟩
          · rw [ksF_app]; exact List.mem_append_left _ (done k hk v hv)
          · rw [ksF_app]
            rcases List.mem_append.mp hx with z | z
            · exact List.mem_append_left _ (dn2 x z)
            · rw [List.mem_singleton] at z; rw [z]; simp
      · rintro e ⟨F', M, x6, x7, rfl, G, done, dn2⟩
        simp only [ws_nx]
        refine ⟨F', M, _, _, _, rfl, G, fun k hk v hv => ?_⟩
        rcases List.mem_append.mp hk with z | z
        · exact done k z v hv
        · rw [List.mem_singleton] at z; rw [z]; exact dn2 v (List.mem_range.mpr hv)
    · rintro e ⟨F', M, x5, x6, x7, rfl, G, done⟩
      have hF' := small G.nd G.rch
      have := G.len
      simp only [t_give, w_fn, w_fnB, List.map_cons, List.map_nil, List.replicate, List.cons_append, List.nil_append, t_seq, t_if, t_next, t_break, t_cont, t_ret, t_retN, t_set, t_WS, t_put, t_par, t_for, t_asg, t_setR, t_drop, wg_two, wg_three, wg_nm, ws_nx, ws_rt, wi_of, wi_rg, wi_st, w_lc0, w_ssc, w_lc, w_lent, w_var, w_C, w_1, w_2, w_nil, w_cons, w_L, w_B, w_T, w_yes, w_bAnd, w_bOr, w_bNot, w_And, w_Or, w_Not, w_If, w_chain, w_only, w_cut, w_meth, w_newK, w_newT, w_call, w_callB, w_callK, w_w, wo_some, wq_ret, gd0, gdS, ls0, lsS, asBl_bl, isLs_l, ob_l, setAll, true_and, and_true, d_add, d_addI, d_sub, d_cmp, d_neg, mk0, mk1, mk2, mk3, mk4, mk5, mt0, mt1, mt2, mt3, mt4]
      refine ⟨2 * (3125 - F'.length) + (if M = [] then 0 else 1), ?_, F', M, f + 1, _, _, _, _, rfl, G.nd, G.rch, G.sub ps hps, G.msub, by omega, fun k hk hn w hw => ?_, rfl⟩
      · by_cases hM : M = []
        · subst hM; rw [List.length_nil] at this; simp only [if_true, if_false]; omega
        · have := List.length_pos_iff.mpr hM
          simp only [hM, if_false]; omega
      · rcases G.mem k hk with z | z
        · by_cases hkL : k ∈ L
          · exact done k hkL w hw
          · exact G.sub _ (cl k z hkL w hw)
        · exact absurd z hn
/-! ### the law -/
theorem sorted_filter (A : List (List Nat)) (P : List Nat → Bool) : sortM ((sortM A).filter P) = (sortM A).filter P := by
  refine sortM_sorted ?_
  have h : ((sortM A).map zn).Pairwise fun a b => lle a b = true := by rw [sortM_zn]; exact sortL_sorted _
  rw [List.pairwise_map] at h ⊢
  exact h.sublist List.filter_sublist
theorem close_all (hs : Sta ps) {K : List (List Nat)} (nd : K.Nodup) (hK : ∀ l, l ∈ K ↔ Lead ps l) : (sortM K).filter (inB ps) = allF (chL ps) := by
  rw [← sorted_filter]
  have e2 : sortM (allF (chL ps)) = allF (chL ps) := sorted_at hs List.pairwise_lt_range fun s h => List.mem_range.mp h
  rw [← e2]
  refine sortM_congr (perm_of_mem (((sortM_perm K).nodup_iff.mpr nd).filter _) ?_ fun l => ?_)
  · unfold allF
    refine nodup_map_of (fun a ha b hb e => ?_) List.nodup_range
    have h1 := noF_at (chL ps) a 0 (chL_nd hs) (List.mem_range.mp ha)
    have h2 := noF_at (chL ps) b 0 (chL_nd hs) (List.mem_range.mp hb)
    rw [e, h2] at h1
    omega
  · rw [List.mem_filter, (sortM_perm K).mem_iff, hK]
    constructor
    · rintro ⟨h1, h2⟩
      exact (mem_all h1.len).mpr h2
    · intro h
      have hl : l.length = ps.length := by rw [allF_klen l h, chL_len]
      have hi := (mem_all hl).mp h
      have hst : Sta l := by
        obtain ⟨n, hn, rfl⟩ := List.mem_map.mp h
        exact at_sta hs (List.mem_range.mp hn)
      exact ⟨kin_lead hs hst hl hi, hi⟩
theorem gNeSame {A : List (List Nat)} (h1 : A.length ≤ 10000) (h2 : ∀ k ∈ A, k.length ≤ 10000) : gNe (.lst (A.map tupN)) (.lst (A.map tupN)) = some (.bl false) := by
  unfold gNe
  rw [d_eqG h1 h2 h1 h2, decide_eq_true rfl]; rfl
noncomputable def Qright39 (T : List D → FO) : List D → FO := qFnB 7 (qSeq (qSet 1 (qCallB 2 false true 0 (qCons (qC (.int 4)) qNil) (Qany T)))
  (qSeq (qPar [2, 3] (qCons (qCall 1 false true (qCons (qVar 1) qNil) Qfut39) (qCons (qL qNil gList) qNil)))
  (qSeq (qFor (qiOf (qL (qCons (qVar 2) qNil) gSortedB)) (qNm 4)
  (qSeq (qSet 5 (qCall 1 false true (qCons (qVar 4) qNil) Qfut39))
  (qSeq (qIfS (qbOr (qB (q2 (qCall 2 false true (qCons (qVar 1) (qCons (qVar 4) qNil)) P_Qare_kin) (q2 (qVar 1) (qVar 5) gIn) gNe)) (qB (q2 (qCall 2 false true (qCons (qVar 4) (qCons (qVar 1) qNil)) P_Qare_kin) (q2 (qVar 1) (qVar 5) gIn) gNe)))
  (qRet (qC (.bl false)))
  qNext)
  (qIfS (qB (q2 (qVar 1) (qVar 5) gIn))
  (qSeq (qWS 3 (qCons (qVar 4) qNil) gAppend)
  (qIfS (qB (q2 (qL (qCons (qVar 5) qNil) gSortedB) (qL (qCons (qVar 2) qNil) gSortedB) gNe))
  (qRet (qC (.bl false)))
  qNext))
  qNext))))
  (qSeq (qIfS (qbOr (qB (q2 (qCall 1 false false (qCons (qVar 1) qNil) P_Qkin_many) (qL (qCons (qVar 3) qNil) gLen) gNe)) (qB (q2 (qLc0 (qiRg qrng1 (qCons (qL (qCons (qVar 3) qNil) gLen) qNil)) (qNm 6) qYes (qCall 2 false true (qCons (qVar 1) (qCons (qVar 6) qNil)) P_Qkin_at) [6]) (qVar 3) gNe)))
  (qRet (qC (.bl false)))
  qNext)
  (qSeq (qSet 7 (qCallB 3 false true 0 (qCons (qL (qCons (qVar 1) qNil) gLen) (qCons (qCallB 2 false false 0 (qCons (qC (.int 6)) qNil) T) qNil)) (Qnet T)))
  (qRet (q2 (qCall 2 false true (qCons (qVar 1) (qCons (qVar 7) qNil)) P_Qare_kin) (q2 (qVar 7) (qVar 3) gIn) gEq)))))))

theorem right39_ok (hT : TakeQ T) {b : D} {c : Int} (hb : BoxD b c) (hc : c + 1000 < 1099511627776) : Wf (Qright39 T [b]) fun d b' => d = .bl true ∧ More c 1000 b' := by
  unfold Qright39
  simp only [w_fn, w_fnB, List.map_cons, List.map_nil, List.replicate, List.cons_append, List.nil_append, t_seq, t_if, t_next, t_break, t_cont, t_ret, t_retN, t_set, t_WS, t_put, t_par, t_for, t_asg, t_setR, t_drop, wg_two, wg_three, wg_nm, ws_nx, ws_rt, wi_of, wi_rg, wi_st, w_lc0, w_ssc, w_lc, w_lent, w_var, w_C, w_1, w_2, w_nil, w_cons, w_L, w_B, w_T, w_yes, w_bAnd, w_bOr, w_bNot, w_And, w_Or, w_Not, w_If, w_chain, w_only, w_cut, w_meth, w_newK, w_newT, w_call, w_callB, w_callK, w_w, wo_some, wq_ret, gd0, gdS, ls0, lsS, asBl_bl, isLs_l, ob_l, setAll, true_and, and_true, d_add, d_addI, d_sub, d_cmp, d_neg, mk0, mk1, mk2, mk3, mk4, mk5, mt0, mt1, mt2, mt3, mt4, hb.obj, List.length_cons, List.length_nil, Nat.zero_add, Nat.reduceAdd, okd0]
  refine (qany_ok (most := 4) hT hb (by omega) (by omega) (by omega)).mono fun z b1 hh => ?_
  obtain ⟨ps, rfl, p1, p2, hs, c1, g1, g2, hb1⟩ := hh
  have hn : ps.length < 60 := by omega
  try simp only [w_fn, w_fnB, List.map_cons, List.map_nil, List.replicate, List.cons_append, List.nil_append, t_seq, t_if, t_next, t_break, t_cont, t_ret, t_retN, t_set, t_WS, t_put, t_par, t_for, t_asg, t_setR, t_drop, wg_two, wg_three, wg_nm, ws_nx, ws_rt, wi_of, wi_rg, wi_st, w_lc0, w_ssc, w_lc, w_lent, w_var, w_C, w_1, w_2, w_nil, w_cons, w_L, w_B, w_T, w_yes, w_bAnd, w_bOr, w_bNot, w_And, w_Or, w_Not, w_If, w_chain, w_only, w_cut, w_meth, w_newK, w_newT, w_call, w_callB, w_callK, w_w, wo_some, wq_ret, gd0, gdS, ls0, lsS, asBl_bl, isLs_l, ob_l, setAll, true_and, and_true, d_add, d_addI, d_sub, d_cmp, d_neg, mk0, mk1, mk2, mk3, mk4, mk5, mt0, mt1, mt2, mt3, mt4, List.length_cons, List.length_nil, Nat.zero_add, Nat.reduceAdd, okd0]
  refine (qfut39_ok hs (by omega)).mono ?_
  rintro z _ ⟨F, rfl, nd, rch, hF⟩
  have lch : ∀ l, l ∈ ksF F ↔ Lead ps l := fun l => (rch l).trans (reach_lead hs)
  have hne : ∀ k ∈ ksF F, k ≠ [] := fun k hk z => by
    have := (((rch k).mp hk).sta hs).1
    rw [z] at this; simp at this; omega
  have srt := sorted_F hne (show F.length ≤ 1000000 by omega)
  have hsl : (sortM (ksF F)).length ≤ 3125 := by rw [(sortM_perm _).length_eq]; unfold ksF; rw [List.length_map]; exact hF
  have hmem : ∀ k ∈ sortM (ksF F), Lead ps k := fun k hk => (lch k).mp ((sortM_perm _).mem_iff.mp hk)
  have hk5 : ∀ k ∈ sortM (ksF F), k.length ≤ 10000 := fun k hk => by have := (hmem k hk).len; omega
  simp only [w_fn, w_fnB, List.map_cons, List.map_nil, List.replicate, List.cons_append, List.nil_append, t_seq, t_if, t_next, t_break, t_cont, t_ret, t_retN, t_set, t_WS, t_put, t_par, t_for, t_asg, t_setR, t_drop, wg_two, wg_three, wg_nm, ws_nx, ws_rt, wi_of, wi_rg, wi_st, w_lc0, w_ssc, w_lc, w_lent, w_var, w_C, w_1, w_2, w_nil, w_cons, w_L, w_B, w_T, w_yes, w_bAnd, w_bOr, w_bNot, w_And, w_Or, w_Not, w_If, w_chain, w_only, w_cut, w_meth, w_newK, w_newT, w_call, w_callB, w_callK, w_w, wo_some, wq_ret, gd0, gdS, ls0, lsS, asBl_bl, isLs_l, ob_l, setAll, true_and, and_true, d_add, d_addI, d_sub, d_cmp, d_neg, mk0, mk1, mk2, mk3, mk4, mk5, mt0, mt1, mt2, mt3, mt4, srt, items_l, List.length_map, List.all_cons, List.all_nil, List.length_cons, List.length_nil, Nat.zero_add, Nat.reduceAdd]
  refine ⟨by decide, limle (by omega), t_forL (φ := tupN) (I := fun pre e => ∃ x4 x5, e = [some b1, some (.tup (dns ps)), some (.dT (kvF F)), some (.lst ((pre.filter (inB ps)).map tupN)), x4, x5, none, none]) ⟨none, none, rfl⟩ ?_ ?_⟩
  · rintro pre qs post e hsp ⟨x4, x5, rfl⟩
    have hL := hmem qs (by rw [hsp]; simp)
    have hq := hL.sta hs
    have hl := hL.len
    have hpl : pre.length ≤ 3125 := by have := congrArg List.length hsp; simp at this; omega
    simp only [w_fn, w_fnB, List.map_cons, List.map_nil, List.replicate, List.cons_append, List.nil_append, t_seq, t_if, t_next, t_break, t_cont, t_ret, t_retN, t_set, t_WS, t_put, t_par, t_for, t_asg, t_setR, t_drop, wg_two, wg_three, wg_nm, ws_nx, ws_rt, wi_of, wi_rg, wi_st, w_lc0, w_ssc, w_lc, w_lent, w_var, w_C, w_1, w_2, w_nil, w_cons, w_L, w_B, w_T, w_yes, w_bAnd, w_bOr, w_bNot, w_And, w_Or, w_Not, w_If, w_chain, w_only, w_cut, w_meth, w_newK, w_newT, w_call, w_callB, w_callK, w_w, wo_some, wq_ret, gd0, gdS, ls0, lsS, asBl_bl, isLs_l, ob_l, setAll, true_and, and_true, d_add, d_addI, d_sub, d_cmp, d_neg, mk0, mk1, mk2, mk3, mk4, mk5, mt0, mt1, mt2, mt3, mt4, tupN, List.length_cons, List.length_nil, Nat.zero_add, Nat.reduceAdd, okd0]
    refine (qfut39_ok hq (by omega)).mono ?_
    rintro z _ ⟨F2, rfl, nd2, rch2, hF2⟩
    have lch2 : ∀ l, l ∈ ksF F2 ↔ Lead qs l := fun l => (rch2 l).trans (reach_lead hq)
    have e1 : decide (ps ∈ ksF F2) = inB ps qs := by rw [Bool.eq_iff_iff, decide_eq_true_iff, lch2, kin_iff hs hL]
    try simp only [w_fn, w_fnB, List.map_cons, List.map_nil, List.replicate, List.cons_append, List.nil_append, t_seq, t_if, t_next, t_break, t_cont, t_ret, t_retN, t_set, t_WS, t_put, t_par, t_for, t_asg, t_setR, t_drop, wg_two, wg_three, wg_nm, ws_nx, ws_rt, wi_of, wi_rg, wi_st, w_lc0, w_ssc, w_lc, w_lent, w_var, w_C, w_1, w_2, w_nil, w_cons, w_L, w_B, w_T, w_yes, w_bAnd, w_bOr, w_bNot, w_And, w_Or, w_Not, w_If, w_chain, w_only, w_cut, w_meth, w_newK, w_newT, w_call, w_callB, w_callK, w_w, wo_some, wq_ret, gd0, gdS, ls0, lsS, asBl_bl, isLs_l, ob_l, setAll, true_and, and_true, d_add, d_addI, d_sub, d_cmp, d_neg, mk0, mk1, mk2, mk3, mk4, mk5, mt0, mt1, mt2, mt3, mt4, List.length_cons, List.length_nil, Nat.zero_add, Nat.reduceAdd, okd0]
    refine (pkin_ok hs hq SqD.t SqD.t hn hl).mono fun z _ hz => ?_
    subst hz
    rw [show D.tup (dns ps) = tupN ps from rfl]
    simp only [w_fn, w_fnB, List.map_cons, List.map_nil, List.replicate, List.cons_append, List.nil_append, t_seq, t_if, t_next, t_break, t_cont, t_ret, t_retN, t_set, t_WS, t_put, t_par, t_for, t_asg, t_setR, t_drop, wg_two, wg_three, wg_nm, ws_nx, ws_rt, wi_of, wi_rg, wi_st, w_lc0, w_ssc, w_lc, w_lent, w_var, w_C, w_1, w_2, w_nil, w_cons, w_L, w_B, w_T, w_yes, w_bAnd, w_bOr, w_bNot, w_And, w_Or, w_Not, w_If, w_chain, w_only, w_cut, w_meth, w_newK, w_newT, w_call, w_callB, w_callK, w_w, wo_some, wq_ret, gd0, gdS, ls0, lsS, asBl_bl, isLs_l, ob_l, setAll, true_and, and_true, d_add, d_addI, d_sub, d_cmp, d_neg, mk0, mk1, mk2, mk3, mk4, mk5, mt0, mt1, mt2, mt3, mt4, d_inF, e1, d_neB, bools, Bool.not_true, Bool.false_eq_true, if_false, tupN, List.length_cons, List.length_nil, Nat.zero_add, Nat.reduceAdd, okd0]
    refine (pkin_ok hq hs SqD.t SqD.t (by omega) hl.symm).mono fun z _ hz => ?_
    subst hz
    rw [show D.tup (dns ps) = tupN ps from rfl]
    simp only [w_fn, w_fnB, List.map_cons, List.map_nil, List.replicate, List.cons_append, List.nil_append, t_seq, t_if, t_next, t_break, t_cont, t_ret, t_retN, t_set, t_WS, t_put, t_par, t_for, t_asg, t_setR, t_drop, wg_two, wg_three, wg_nm, ws_nx, ws_rt, wi_of, wi_rg, wi_st, w_lc0, w_ssc, w_lc, w_lent, w_var, w_C, w_1, w_2, w_nil, w_cons, w_L, w_B, w_T, w_yes, w_bAnd, w_bOr, w_bNot, w_And, w_Or, w_Not, w_If, w_chain, w_only, w_cut, w_meth, w_newK, w_newT, w_call, w_callB, w_callK, w_w, wo_some, wq_ret, gd0, gdS, ls0, lsS, asBl_bl, isLs_l, ob_l, setAll, true_and, and_true, d_add, d_addI, d_sub, d_cmp, d_neg, mk0, mk1, mk2, mk3, mk4, mk5, mt0, mt1, mt2, mt3, mt4, d_inF, e1, kin_comm hs hq hl, d_neB, bools, Bool.not_true, Bool.false_eq_true, if_false]
    rw [List.filter_append]
    cases hi : inB ps qs with
    | true =>
      have hne2 : ∀ k ∈ ksF F2, k ≠ [] := fun k hk z => by
        have := (((rch2 k).mp hk).sta hq).1
        rw [z] at this; simp at this; omega
      have hB := (kin_iff hs hL).mp hi
      have srt2 : sortM (ksF F2) = sortM (ksF F) := sortM_congr (perm_of_mem nd2 nd fun l => by
        rw [lch2, lch]
        exact ⟨fun z => hL.trans hs z, fun z => hB.trans hq z⟩)
      simp only [if_true, w_fn, w_fnB, List.map_cons, List.map_nil, List.replicate, List.cons_append, List.nil_append, t_seq, t_if, t_next, t_break, t_cont, t_ret, t_retN, t_set, t_WS, t_put, t_par, t_for, t_asg, t_setR, t_drop, wg_two, wg_three, wg_nm, ws_nx, ws_rt, wi_of, wi_rg, wi_st, w_lc0, w_ssc, w_lc, w_lent, w_var, w_C, w_1, w_2, w_nil, w_cons, w_L, w_B, w_T, w_yes, w_bAnd, w_bOr, w_bNot, w_And, w_Or, w_Not, w_If, w_chain, w_only, w_cut, w_meth, w_newK, w_newT, w_call, w_callB, w_callK, w_w, wo_some, wq_ret, gd0, gdS, ls0, lsS, asBl_bl, isLs_l, ob_l, setAll, true_and, and_true, d_add, d_addI, d_sub, d_cmp, d_neg, mk0, mk1, mk2, mk3, mk4, mk5, mt0, mt1, mt2, mt3, mt4, d_app (show ((pre.filter (inB ps)).map tupN).length < lim by rw [List.length_map]; exact limlt (Nat.le_trans (List.length_filter_le _ _) (by omega)))]
      simp only [srt, sorted_F hne2 (show F2.length ≤ 1000000 by omega), srt2, gNeSame (show (sortM (ksF F)).length ≤ 10000 by omega) hk5, w_fn, w_fnB, List.map_cons, List.map_nil, List.replicate, List.cons_append, List.nil_append, t_seq, t_if, t_next, t_break, t_cont, t_ret, t_retN, t_set, t_WS, t_put, t_par, t_for, t_asg, t_setR, t_drop, wg_two, wg_three, wg_nm, ws_nx, ws_rt, wi_of, wi_rg, wi_st, w_lc0, w_ssc, w_lc, w_lent, w_var, w_C, w_1, w_2, w_nil, w_cons, w_L, w_B, w_T, w_yes, w_bAnd, w_bOr, w_bNot, w_And, w_Or, w_Not, w_If, w_chain, w_only, w_cut, w_meth, w_newK, w_newT, w_call, w_callB, w_callK, w_w, wo_some, wq_ret, gd0, gdS, ls0, lsS, asBl_bl, isLs_l, ob_l, setAll, true_and, and_true, d_add, d_addI, d_sub, d_cmp, d_neg, mk0, mk1, mk2, mk3, mk4, mk5, mt0, mt1, mt2, mt3, mt4, Bool.false_eq_true, if_false]
      refine ⟨some (tupN qs), some (.dT (kvF F2)), ?_⟩
      rw [List.filter_cons_of_pos (by exact hi), List.filter_nil, List.map_append]; rfl
    | false =>
      simp only [Bool.false_eq_true, if_false]
      refine ⟨some (tupN qs), some (.dT (kvF F2)), ?_⟩
      rw [List.filter_cons_of_neg (by rw [hi]; decide), List.filter_nil, List.append_nil]
  · rintro e ⟨x4, x5, rfl⟩
    rw [close_all hs nd lch]
    have h256 : prF (chL ps) ≤ 256 := prF_256 hs (by omega)
    have hal : (allF (chL ps)).length = prF (chL ps) := allF_len
    have hak : ∀ k ∈ allF (chL ps), k.length ≤ 10000 := fun k hk => by rw [allF_klen k hk, chL_len]; omega
    simp only [w_fn, w_fnB, List.map_cons, List.map_nil, List.replicate, List.cons_append, List.nil_append, t_seq, t_if, t_next, t_break, t_cont, t_ret, t_retN, t_set, t_WS, t_put, t_par, t_for, t_asg, t_setR, t_drop, wg_two, wg_three, wg_nm, ws_nx, ws_rt, wi_of, wi_rg, wi_st, w_lc0, w_ssc, w_lc, w_lent, w_var, w_C, w_1, w_2, w_nil, w_cons, w_L, w_B, w_T, w_yes, w_bAnd, w_bOr, w_bNot, w_And, w_Or, w_Not, w_If, w_chain, w_only, w_cut, w_meth, w_newK, w_newT, w_call, w_callB, w_callK, w_w, wo_some, wq_ret, gd0, gdS, ls0, lsS, asBl_bl, isLs_l, ob_l, setAll, true_and, and_true, d_add, d_addI, d_sub, d_cmp, d_neg, mk0, mk1, mk2, mk3, mk4, mk5, mt0, mt1, mt2, mt3, mt4, List.length_cons, List.length_nil, Nat.zero_add, Nat.reduceAdd, okd0]
    refine (pmany_ok hs SqD.t hn).mono fun z _ hz => ?_
    subst hz
    have e1 : prodL 1 (chL ps) = prF (chL ps) := by rw [prodL_prF]; omega
    have hrng : qrng1 [.int ((prF (chL ps) : Nat) : Int)] = some (dns (List.range (prF (chL ps)))) := d_rng1 (by omega)
    have en : ∀ a : Nat, gNe (dn a) (.int (a : Nat)) = some (.bl false) := fun a => by rw [d_neI]; simp
    simp only [e1, d_lenL, List.length_map, hal, en, w_fn, w_fnB, List.map_cons, List.map_nil, List.replicate, List.cons_append, List.nil_append, t_seq, t_if, t_next, t_break, t_cont, t_ret, t_retN, t_set, t_WS, t_put, t_par, t_for, t_asg, t_setR, t_drop, wg_two, wg_three, wg_nm, ws_nx, ws_rt, wi_of, wi_rg, wi_st, w_lc0, w_ssc, w_lc, w_lent, w_var, w_C, w_1, w_2, w_nil, w_cons, w_L, w_B, w_T, w_yes, w_bAnd, w_bOr, w_bNot, w_And, w_Or, w_Not, w_If, w_chain, w_only, w_cut, w_meth, w_newK, w_newT, w_call, w_callB, w_callK, w_w, wo_some, wq_ret, gd0, gdS, ls0, lsS, asBl_bl, isLs_l, ob_l, setAll, true_and, and_true, d_add, d_addI, d_sub, d_cmp, d_neg, mk0, mk1, mk2, mk3, mk4, mk5, mt0, mt1, mt2, mt3, mt4, Bool.false_eq_true, if_false, hrng, dns_len, List.length_range]
    refine ⟨limle (by omega), w_lcM (φ := dn) (f := fun a => tupN (atK (chL ps) a)) (fun a ha => ?_) ?_⟩
    · simp only [wipe1, w_fn, w_fnB, List.map_cons, List.map_nil, List.replicate, List.cons_append, List.nil_append, t_seq, t_if, t_next, t_break, t_cont, t_ret, t_retN, t_set, t_WS, t_put, t_par, t_for, t_asg, t_setR, t_drop, wg_two, wg_three, wg_nm, ws_nx, ws_rt, wi_of, wi_rg, wi_st, w_lc0, w_ssc, w_lc, w_lent, w_var, w_C, w_1, w_2, w_nil, w_cons, w_L, w_B, w_T, w_yes, w_bAnd, w_bOr, w_bNot, w_And, w_Or, w_Not, w_If, w_chain, w_only, w_cut, w_meth, w_newK, w_newT, w_call, w_callB, w_callK, w_w, wo_some, wq_ret, gd0, gdS, ls0, lsS, asBl_bl, isLs_l, ob_l, setAll, true_and, and_true, d_add, d_addI, d_sub, d_cmp, d_neg, mk0, mk1, mk2, mk3, mk4, mk5, mt0, mt1, mt2, mt3, mt4, List.length_cons, List.length_nil, Nat.zero_add, Nat.reduceAdd, okd0]
      exact (pkin_at_ok hs SqD.t hn (List.mem_range.mp ha)).mono fun _ _ h => h
    have e3 : (List.range (prF (chL ps))).map (fun a => tupN (atK (chL ps) a)) = (allF (chL ps)).map tupN := by unfold allF; rw [List.map_map]; rfl
    rw [e3]
    simp only [w_fn, w_fnB, List.map_cons, List.map_nil, List.replicate, List.cons_append, List.nil_append, t_seq, t_if, t_next, t_break, t_cont, t_ret, t_retN, t_set, t_WS, t_put, t_par, t_for, t_asg, t_setR, t_drop, wg_two, wg_three, wg_nm, ws_nx, ws_rt, wi_of, wi_rg, wi_st, w_lc0, w_ssc, w_lc, w_lent, w_var, w_C, w_1, w_2, w_nil, w_cons, w_L, w_B, w_T, w_yes, w_bAnd, w_bOr, w_bNot, w_And, w_Or, w_Not, w_If, w_chain, w_only, w_cut, w_meth, w_newK, w_newT, w_call, w_callB, w_callK, w_w, wo_some, wq_ret, gd0, gdS, ls0, lsS, asBl_bl, isLs_l, ob_l, setAll, true_and, and_true, d_add, d_addI, d_sub, d_cmp, d_neg, mk0, mk1, mk2, mk3, mk4, mk5, mt0, mt1, mt2, mt3, mt4, gNeSame (show (allF (chL ps)).length ≤ 10000 by omega) hak, Bool.false_eq_true, if_false, d_lenT, dns_len, hb1.obj, List.length_cons, List.length_nil, Nat.zero_add, Nat.reduceAdd, okd0]
    refine (hT b1 c1 6 hb1 (by omega) (by decide) (by decide)).mono ?_
    rintro z b2 ⟨i, rfl, hi, c2, q1, q2, hb2⟩
    simp only [w_fn, w_fnB, List.map_cons, List.map_nil, List.replicate, List.cons_append, List.nil_append, t_seq, t_if, t_next, t_break, t_cont, t_ret, t_retN, t_set, t_WS, t_put, t_par, t_for, t_asg, t_setR, t_drop, wg_two, wg_three, wg_nm, ws_nx, ws_rt, wi_of, wi_rg, wi_st, w_lc0, w_ssc, w_lc, w_lent, w_var, w_C, w_1, w_2, w_nil, w_cons, w_L, w_B, w_T, w_yes, w_bAnd, w_bOr, w_bNot, w_And, w_Or, w_Not, w_If, w_chain, w_only, w_cut, w_meth, w_newK, w_newT, w_call, w_callB, w_callK, w_w, wo_some, wq_ret, gd0, gdS, ls0, lsS, asBl_bl, isLs_l, ob_l, setAll, true_and, and_true, d_add, d_addI, d_sub, d_cmp, d_neg, mk0, mk1, mk2, mk3, mk4, mk5, mt0, mt1, mt2, mt3, mt4, hb2.obj, List.length_cons, List.length_nil, Nat.zero_add, Nat.reduceAdd, okd0]
    refine (qnet_ok hT hb2 (by omega) p1 (by omega) hi).mono ?_
    rintro z b3 ⟨rs, rfl, rl, hr, c3, r1, r2, hb3⟩
    try simp only [w_fn, w_fnB, List.map_cons, List.map_nil, List.replicate, List.cons_append, List.nil_append, t_seq, t_if, t_next, t_break, t_cont, t_ret, t_retN, t_set, t_WS, t_put, t_par, t_for, t_asg, t_setR, t_drop, wg_two, wg_three, wg_nm, ws_nx, ws_rt, wi_of, wi_rg, wi_st, w_lc0, w_ssc, w_lc, w_lent, w_var, w_C, w_1, w_2, w_nil, w_cons, w_L, w_B, w_T, w_yes, w_bAnd, w_bOr, w_bNot, w_And, w_Or, w_Not, w_If, w_chain, w_only, w_cut, w_meth, w_newK, w_newT, w_call, w_callB, w_callK, w_w, wo_some, wq_ret, gd0, gdS, ls0, lsS, asBl_bl, isLs_l, ob_l, setAll, true_and, and_true, d_add, d_addI, d_sub, d_cmp, d_neg, mk0, mk1, mk2, mk3, mk4, mk5, mt0, mt1, mt2, mt3, mt4, List.length_cons, List.length_nil, Nat.zero_add, Nat.reduceAdd, okd0]
    refine (pkin_ok hs hr SqD.t SqD.t hn rl).mono fun z _ hz => ?_
    subst hz
    have e4 : decide (rs ∈ allF (chL ps)) = inB ps rs := by rw [Bool.eq_iff_iff, decide_eq_true_iff, mem_all rl]
    simp only [w_fn, w_fnB, List.map_cons, List.map_nil, List.replicate, List.cons_append, List.nil_append, t_seq, t_if, t_next, t_break, t_cont, t_ret, t_retN, t_set, t_WS, t_put, t_par, t_for, t_asg, t_setR, t_drop, wg_two, wg_three, wg_nm, ws_nx, ws_rt, wi_of, wi_rg, wi_st, w_lc0, w_ssc, w_lc, w_lent, w_var, w_C, w_1, w_2, w_nil, w_cons, w_L, w_B, w_T, w_yes, w_bAnd, w_bOr, w_bNot, w_And, w_Or, w_Not, w_If, w_chain, w_only, w_cut, w_meth, w_newK, w_newT, w_call, w_callB, w_callK, w_w, wo_some, wq_ret, gd0, gdS, ls0, lsS, asBl_bl, isLs_l, ob_l, setAll, true_and, and_true, d_add, d_addI, d_sub, d_cmp, d_neg, mk0, mk1, mk2, mk3, mk4, mk5, mt0, mt1, mt2, mt3, mt4, d_inG (show (allF (chL ps)).length ≤ 10000 by omega) hak (show rs.length ≤ 10000 by omega), e4, d_eqB, bools, hb3.nlc]
    exact ⟨c3, by omega, by omega, hb3⟩
end MP


-- KEEP FROM HERE
namespace Z
open PySem PySem.Spec PyProof.Rows L2 MP
set_option maxRecDepth 100000
/-! ### the text -/
def topS (i : Nat) : Stmt := PySem.Challenge.pw_lookpast_k39_whole_kin_by_search_both_wa.main.body.getD i (.Pass ⟨0, 0, 0, 0⟩)
abbrev st_look_size : Stmt := topS 4
abbrev N_look_size : List Str := ["one", "other"]
theorem sc_look_size : FnScope N_look_size ["one", "other"] (defScope st_look_size) := ⟨rfl, rfl, rfl, by decide +kernel, rfl, by decide +kernel, by decide +kernel⟩
abbrev st_way_of : Stmt := topS 5
abbrev N_way_of : List Str := ["state", "person", "met", "here"]
theorem sc_way_of : FnScope N_way_of ["state", "person"] (defScope st_way_of) := ⟨rfl, rfl, rfl, by decide +kernel, rfl, by decide +kernel, by decide +kernel⟩
abbrev st_lap_from : Stmt := topS 6
abbrev N_lap_from : List Str := ["state", "member", "found", "here"]
theorem sc_lap_from : FnScope N_lap_from ["state", "member"] (defScope st_lap_from) := ⟨rfl, rfl, rfl, by decide +kernel, rfl, by decide +kernel, by decide +kernel⟩
abbrev st_ring_at : Stmt := topS 7
abbrev N_ring_at : List Str := ["state", "person"]
theorem sc_ring_at : FnScope N_ring_at ["state", "person"] (defScope st_ring_at) := ⟨rfl, rfl, rfl, by decide +kernel, rfl, by decide +kernel, by decide +kernel⟩
abbrev st_ring_members : Stmt := topS 8
abbrev N_ring_members : List Str := ["state", "found", "turn", "person"]
theorem sc_ring_members : FnScope N_ring_members ["state"] (defScope st_ring_members) := ⟨rfl, rfl, rfl, by decide +kernel, rfl, by decide +kernel, by decide +kernel⟩
abbrev st_rings : Stmt := topS 9
abbrev N_rings : List Str := ["state", "person"]
theorem sc_rings : FnScope N_rings ["state"] (defScope st_rings) := ⟨rfl, rfl, rfl, by decide +kernel, rfl, by decide +kernel, by decide +kernel⟩
abbrev st_choices : Stmt := topS 11
abbrev N_choices : List Str := ["state", "members", "found", "person", "target", "is_loose"]
theorem sc_choices : FnScope N_choices ["state"] (defScope st_choices) := ⟨rfl, rfl, rfl, by decide +kernel, rfl, by decide +kernel, by decide +kernel⟩
abbrev st_are_kin : Stmt := topS 12
abbrev N_are_kin : List Str := ["one", "other", "target", "some"]
theorem sc_are_kin : FnScope N_are_kin ["one", "other"] (defScope st_are_kin) := ⟨rfl, rfl, rfl, by decide +kernel, rfl, by decide +kernel, by decide +kernel⟩
abbrev st_kin_many : Stmt := topS 13
abbrev N_kin_many : List Str := ["state", "found", "some"]
theorem sc_kin_many : FnScope N_kin_many ["state"] (defScope st_kin_many) := ⟨rfl, rfl, rfl, by decide +kernel, rfl, by decide +kernel, by decide +kernel⟩
abbrev st_kin_at : Stmt := topS 14
abbrev N_kin_at : List Str := ["state", "number", "left", "found", "some", "place"]
theorem sc_kin_at : FnScope N_kin_at ["state", "number"] (defScope st_kin_at) := ⟨rfl, rfl, rfl, by decide +kernel, rfl, by decide +kernel, by decide +kernel⟩
abbrev st_law_box : Stmt := topS 16
abbrev N_law_box : List Str := ["_law_script", "_law_k", "_law_cell"]
theorem sc_law_box : FnScope N_law_box ["_law_script", "_law_k"] (defScope st_law_box) := ⟨rfl, rfl, rfl, by decide +kernel, rfl, by decide +kernel, by decide +kernel⟩
abbrev st_law_take : Stmt := topS 17
abbrev N_law_take : List Str := ["_law_box_here", "_law_below", "_law_found", "_law_once"]
theorem sc_law_take : FnScope N_law_take ["_law_box_here", "_law_below"] (defScope st_law_take) := ⟨rfl, rfl, rfl, by decide +kernel, rfl, by decide +kernel, by decide +kernel⟩
abbrev st_law_strewn : Stmt := topS 18
abbrev N_law_strewn : List Str := ["_law_box_here", "_law_some", "_law_left", "_law_found", "_law_turn"]
theorem sc_law_strewn : FnScope N_law_strewn ["_law_box_here", "_law_some"] (defScope st_law_strewn) := ⟨rfl, rfl, rfl, by decide +kernel, rfl, by decide +kernel, by decide +kernel⟩
abbrev st_law_net_of : Stmt := topS 19
abbrev N_law_net_of : List Str := ["_law_box_here", "_law_length", "_law_kind", "_law_row", "_law_turn_at", "_law_found", "_law_at", "_law_who"]
theorem sc_law_net_of : FnScope N_law_net_of ["_law_box_here", "_law_length", "_law_kind"] (defScope st_law_net_of) := ⟨rfl, rfl, rfl, by decide +kernel, rfl, by decide +kernel, by decide +kernel⟩
abbrev st_law_any_net : Stmt := topS 20
abbrev N_law_any_net : List Str := ["_law_box_here", "_law_most"]
theorem sc_law_any_net : FnScope N_law_any_net ["_law_box_here", "_law_most"] (defScope st_law_any_net) := ⟨rfl, rfl, rfl, by decide +kernel, rfl, by decide +kernel, by decide +kernel⟩
abbrev st_law_looked : Stmt := topS 21
abbrev N_law_looked : List Str := ["_law_net", "_law_who"]
theorem sc_law_looked : FnScope N_law_looked ["_law_net", "_law_who"] (defScope st_law_looked) := ⟨rfl, rfl, rfl, by decide +kernel, rfl, by decide +kernel, by decide +kernel⟩
abbrev st_law_futures : Stmt := topS 22
abbrev N_law_futures : List Str := ["_law_net", "_law_found", "_law_layer", "_law_far", "_law_further", "_law_here", "_law_who", "_law_there"]
theorem sc_law_futures : FnScope N_law_futures ["_law_net"] (defScope st_law_futures) := ⟨rfl, rfl, rfl, by decide +kernel, rfl, by decide +kernel, by decide +kernel⟩
abbrev st_law_right : Stmt := topS 23
abbrev N_law_right : List Str := ["_law_box_here", "_law_net", "_law_every", "_law_close", "_law_mate", "_law_back", "_law_at", "_law_other_net"]
theorem sc_law_right : FnScope N_law_right ["_law_box_here"] (defScope st_law_right) := ⟨rfl, rfl, rfl, by decide +kernel, rfl, by decide +kernel, by decide +kernel⟩
abbrev st_law : Stmt := topS 24
abbrev N_law : List Str := ["_law_script", "_law_k"]
theorem sc_law : FnScope N_law ["_law_script"] (defScope st_law) := ⟨rfl, rfl, rfl, by decide +kernel, rfl, by decide +kernel, by decide +kernel⟩
abbrev si_NoNumber : Stmt := clsB (topS 1) 0
theorem sci_NoNumber : FnScope ["self", "number"] ["self", "number"] (defScope si_NoNumber) := ⟨rfl, rfl, rfl, by decide +kernel, rfl, by decide +kernel, by decide +kernel⟩
abbrev si_OtherSize : Stmt := clsB (topS 2) 0
theorem sci_OtherSize : FnScope ["self", "size"] ["self", "size"] (defScope si_OtherSize) := ⟨rfl, rfl, rfl, by decide +kernel, rfl, by decide +kernel, by decide +kernel⟩
/-! ### what the top has left -/
structure Tx (K : PySem.W.Frag) (mg : Str → Option Value) where
  f_look_size : Addr
  d_look_size : FuncData
  F_look_size : Fun K "look_size" "look_size" st_look_size f_look_size d_look_size
  g_look_size : mg "look_size" = some (.ref f_look_size)
  f_way_of : Addr
  d_way_of : FuncData
  F_way_of : Fun K "way_of" "way_of" st_way_of f_way_of d_way_of
  g_way_of : mg "way_of" = some (.ref f_way_of)
  f_lap_from : Addr
  d_lap_from : FuncData
  F_lap_from : Fun K "lap_from" "lap_from" st_lap_from f_lap_from d_lap_from
  g_lap_from : mg "lap_from" = some (.ref f_lap_from)
  f_ring_at : Addr
  d_ring_at : FuncData
  F_ring_at : Fun K "ring_at" "ring_at" st_ring_at f_ring_at d_ring_at
  g_ring_at : mg "ring_at" = some (.ref f_ring_at)
  f_ring_members : Addr
  d_ring_members : FuncData
  F_ring_members : Fun K "ring_members" "ring_members" st_ring_members f_ring_members d_ring_members
  g_ring_members : mg "ring_members" = some (.ref f_ring_members)
  f_rings : Addr
  d_rings : FuncData
  F_rings : Fun K "rings" "rings" st_rings f_rings d_rings
  g_rings : mg "rings" = some (.ref f_rings)
  f_choices : Addr
  d_choices : FuncData
  F_choices : Fun K "choices" "choices" st_choices f_choices d_choices
  g_choices : mg "choices" = some (.ref f_choices)
  f_are_kin : Addr
  d_are_kin : FuncData
  F_are_kin : Fun K "are_kin" "are_kin" st_are_kin f_are_kin d_are_kin
  g_are_kin : mg "are_kin" = some (.ref f_are_kin)
  f_kin_many : Addr
  d_kin_many : FuncData
  F_kin_many : Fun K "kin_many" "kin_many" st_kin_many f_kin_many d_kin_many
  g_kin_many : mg "kin_many" = some (.ref f_kin_many)
  f_kin_at : Addr
  d_kin_at : FuncData
  F_kin_at : Fun K "kin_at" "kin_at" st_kin_at f_kin_at d_kin_at
  g_kin_at : mg "kin_at" = some (.ref f_kin_at)
  f_law_box : Addr
  d_law_box : FuncData
  F_law_box : Fun K "_law_box" "_law_box" st_law_box f_law_box d_law_box
  g_law_box : mg "_law_box" = some (.ref f_law_box)
  f_law_take : Addr
  d_law_take : FuncData
  F_law_take : Fun K "_law_take" "_law_take" st_law_take f_law_take d_law_take
  g_law_take : mg "_law_take" = some (.ref f_law_take)
  f_law_strewn : Addr
  d_law_strewn : FuncData
  F_law_strewn : Fun K "_law_strewn" "_law_strewn" st_law_strewn f_law_strewn d_law_strewn
  g_law_strewn : mg "_law_strewn" = some (.ref f_law_strewn)
  f_law_net_of : Addr
  d_law_net_of : FuncData
  F_law_net_of : Fun K "_law_net_of" "_law_net_of" st_law_net_of f_law_net_of d_law_net_of
  g_law_net_of : mg "_law_net_of" = some (.ref f_law_net_of)
  f_law_any_net : Addr
  d_law_any_net : FuncData
  F_law_any_net : Fun K "_law_any_net" "_law_any_net" st_law_any_net f_law_any_net d_law_any_net
  g_law_any_net : mg "_law_any_net" = some (.ref f_law_any_net)
  f_law_looked : Addr
  d_law_looked : FuncData
  F_law_looked : Fun K "_law_looked" "_law_looked" st_law_looked f_law_looked d_law_looked
  g_law_looked : mg "_law_looked" = some (.ref f_law_looked)
  f_law_futures : Addr
  d_law_futures : FuncData
  F_law_futures : Fun K "_law_futures" "_law_futures" st_law_futures f_law_futures d_law_futures
  g_law_futures : mg "_law_futures" = some (.ref f_law_futures)
  f_law_right : Addr
  d_law_right : FuncData
  F_law_right : Fun K "_law_right" "_law_right" st_law_right f_law_right d_law_right
  g_law_right : mg "_law_right" = some (.ref f_law_right)
  f_law : Addr
  d_law : FuncData
  F_law : Fun K "law" "law" st_law f_law d_law
  g_law : mg "law" = some (.ref f_law)
  n_LookupError : mg "LookupError" = none
  n_ValueError : mg "ValueError" = none
  n_abs : mg "abs" = none
  n_all : mg "all" = none
  n_divmod : mg "divmod" = none
  n_enumerate : mg "enumerate" = none
  n_int : mg "int" = none
  n_len : mg "len" = none
  n_list : mg "list" = none
  n_min : mg "min" = none
  n_range : mg "range" = none
  n_sorted : mg "sorted" = none
  n_tuple : mg "tuple" = none
  n_zip : mg "zip" = none
  E_NoNumber : ErrC K mg "NoNumber" "number" "LookupError" "LookupError.__new__" "LookupError.__init__" bmLookupError "NoNumber.__init__" si_NoNumber
  R_NoNumber : ErrB K E_NoNumber.C
  E_OtherSize : ErrC K mg "OtherSize" "size" "ValueError" "ValueError.__new__" "ValueError.__init__" bmValueError "OtherSize.__init__" si_OtherSize
  R_OtherSize : ErrB K E_OtherSize.C
/-! ### the mirrors -/
noncomputable def M_look_size : List PV → Ms → Out PV := mFn 0 (sIf (mB (m2 (mL (mCons (mVar 0) mNil) oLen) (mL (mCons (mVar 1) mNil) oLen) oNe))
  (sRaise "OtherSize" "size" (mL (mCons (mVar 1) mNil) oLen))
  sNext)
noncomputable def M_way_of : List PV → Ms → Out PV := mFn 2 (sSeq (sPar 2 3 mNewK (mSub (mVar 0) (mVar 1)))
  (sSeq (sWhile (mB (m2 (mVar 3) (mVar 2) oNotIn))
  (sSeq (sPut (mVar 2) (mVar 3) (mC (.bl true)))
  (sSet 3 (mSub (mVar 0) (mVar 3)))))
  (sRet (mL (mCons (mVar 2) mNil) oListOf))))
noncomputable def M_lap_from : List PV → Ms → Out PV := mFn 2 (sSeq (sPar 2 3 (mL (mCons (mVar 1) mNil) oList) (mSub (mVar 0) (mVar 1)))
  (sSeq (sWhile (mB (m2 (mVar 3) (mVar 1) oNe))
  (sSeq (sDrop (mMeth (mVar 2) (mCons (mVar 3) mNil) oAppend))
  (sSet 3 (mSub (mVar 0) (mVar 3)))))
  (sRet (mL (mCons (mVar 2) mNil) oTupOf))))
noncomputable def M_ring_at : List PV → Ms → Out PV := mFn 0 (sRet (mL (mCons (mVar 0) (mCons (mL (mCons (mL (mCons (mVar 0) (mCons (mSub (mL (mCons (mVar 0) (mCons (mVar 1) mNil)) (cl 2 M_way_of)) (m1 (mC (.int 1)) oNeg)) mNil)) (cl 2 M_lap_from)) mNil) oMin) mNil)) (cl 2 M_lap_from)))
noncomputable def M_ring_members : List PV → Ms → Out PV := mFn 3 (sSeq (sSet 1 (m1 (mL (mCons (mVar 0) mNil) oLen) oListRg1))
  (sSeq (sFor (iRg rng1 (mCons (mL (mCons (mVar 0) mNil) oLen) mNil)) (gNm 2)
  (sSet 1 (mSSc (iOf (mVar 1)) (gNm 3) bYes (mSub (mVar 0) (mVar 3)) [3])))
  (sRet (mVar 1))))
noncomputable def M_rings : List PV → Ms → Out PV := mFn 1 (sRet (mSSc (iOf (mL (mCons (mVar 0) mNil) (cl 1 M_ring_members))) (gNm 1) bYes (mL (mCons (mVar 0) (mCons (mVar 1) mNil)) (cl 2 M_ring_at)) [1]))
noncomputable def M_choices : List PV → Ms → Out PV := mFn 5 (sSeq (sPar 1 2 (mL (mCons (mVar 0) mNil) (cl 1 M_ring_members)) (mL mNil oList))
  (sSeq (sFor (iSt enmOfA (mCons (mVar 0) mNil)) (gTp 2 (gCn (gNm 3) (gCn (gNm 4) gNl)))
  (sSeq (sSet 5 (mAnd (m2 (mVar 3) (mVar 1) oNotIn) (m2 (mVar 4) (mVar 1) oIn)))
  (sDrop (mMeth (mVar 2) (mCons (mIf (mT (mVar 5)) (mL (mCons (mL (mCons (mVar 0) (mCons (mVar 4) mNil)) (cl 2 M_ring_at)) mNil) oSortT) (mL (mCons (mVar 4) mNil) oList)) mNil) oAppend))))
  (sRet (mVar 2))))
noncomputable def M_are_kin : List PV → Ms → Out PV := mFn 2 (sSeq (sDrop (mL (mCons (mVar 0) (mCons (mVar 1) mNil)) (cl 2 M_look_size)))
  (sSeq (sIf (mB (m2 (mL (mCons (mVar 0) mNil) (cl 1 M_rings)) (mL (mCons (mVar 1) mNil) (cl 1 M_rings)) oNe))
  (sRet (mC (.bl false)))
  sNext)
  (sRet (mL (mCons (mLc (iSt zipOfM (mCons (mVar 1) (mCons (mL (mCons (mVar 0) mNil) (cl 1 M_choices)) mNil))) (gTp 2 (gCn (gNm 2) (gCn (gNm 3) gNl))) bYes (m2 (mVar 2) (mVar 3) oIn) [2, 3]) mNil) oAll))))
noncomputable def M_kin_many : List PV → Ms → Out PV := mFn 2 (sSeq (sSet 1 (mC (.int 1)))
  (sSeq (sFor (iOf (mL (mCons (mVar 0) mNil) (cl 1 M_choices))) (gNm 2)
  (sAug 1 oMulJ (mL (mCons (mVar 2) mNil) oLen)))
  (sRet (mVar 1))))
noncomputable def M_kin_at : List PV → Ms → Out PV := mFn 4 (sSeq (sIf (bNot (mB (mChain (mC (.int 0)) (mVar 1) (mL (mCons (mVar 0) mNil) (cl 1 M_kin_many)) oLe oLt)))
  (sRaise "NoNumber" "number" (mVar 1))
  sNext)
  (sSeq (sPar 2 3 (mVar 1) (mL mNil oList))
  (sSeq (sFor (iOf (m1 (mL (mCons (mVar 0) mNil) (cl 1 M_choices)) oRevL)) (gNm 4)
  (sSeq (sAsg (gTp 2 (gCn (gNm 2) (gCn (gNm 5) gNl))) (mL (mCons (mVar 2) (mCons (mL (mCons (mVar 4) mNil) oLen) mNil)) oDivmod))
  (sDrop (mMeth (mVar 3) (mCons (mSub (mVar 4) (mVar 5)) mNil) oAppend))))
  (sRet (mL (mCons (m1 (mVar 3) oRevL) mNil) oTupOf)))))
noncomputable def M_law_box : List PV → Ms → Out PV := mFn 1 (sSeq (sSet 2 (mIf (mB (m2 (mVar 1) (mL (mCons (mVar 0) mNil) oLen) oLt)) (mSub (mVar 0) (mVar 1)) (mC (.int 0))))
  (sRet (mL (mCons (m2 (mL (mCons (mVar 2) mNil) oAbs) (mL (mCons (m2 (mL (mCons (mVar 2) mNil) oAbs) (m2 (mC (.int 10)) (mC (.int 18)) oPow) oGe) mNil) oInt) oMul) (mCons (m2 (m2 (m2 (mVar 2) (mC (.int 2147483629)) oMod) (m2 (mC (.int 7919)) (mVar 1) oMul) oAdd) (mC (.int 95)) oAdd) (mCons (mC (.int 0)) mNil))) oList)))
noncomputable def M_law_take : Nat → List PV → Ms → Out PV
  | 0 => fun _ _ => .fail
  | d + 1 => mFn 2 (sSeq (sIf (mB (m2 (mSub (mVar 0) (mC (.int 0))) (mC (.int 0)) oGt))
  (sSeq (sSet 2 (m2 (mSub (mVar 0) (mC (.int 0))) (mVar 1) oMod))
  (sSeq (sPut (mVar 0) (mC (.int 0)) (m2 (mSub (mVar 0) (mC (.int 0))) (mVar 1) oDiv))
  (sRet (mVar 2))))
  sNext)
  (sSeq (sIf (mB (m2 (mVar 1) (m2 (mC (.int 10)) (mC (.int 7)) oPow) oGt))
  (sRet (m2 (m2 (mL (mCons (mVar 0) (mCons (m2 (mC (.int 10)) (mC (.int 7)) oPow) mNil)) (cl 2 (M_law_take d))) (m2 (m2 (mC (.int 10)) (mC (.int 7)) oPow) (mL (mCons (mVar 0) (mCons (m2 (m2 (m2 (mVar 1) (mC (.int 1)) oSub) (m2 (mC (.int 10)) (mC (.int 7)) oPow) oDiv) (mC (.int 1)) oAdd) mNil)) (cl 2 (M_law_take d))) oMul) oAdd) (mVar 1) oMod))
  sNext)
  (sSeq (sPut (mVar 0) (mC (.int 2)) (m2 (mSub (mVar 0) (mC (.int 2))) (mC (.int 1)) oAdd))
  (sSeq (sSet 3 (m2 (m2 (m2 (mSub (mVar 0) (mC (.int 1))) (m2 (mC (.int 48271)) (mSub (mVar 0) (mC (.int 2))) oMul) oAdd) (mC (.int 5)) oPow) (mC (.int 2147483647)) oMod))
  (sRet (m2 (m2 (m2 (m2 (m2 (mVar 3) (m2 (m2 (mVar 3) (mC (.int 30011)) oMod) (mC (.int 7)) oAdd) oMul) (m2 (mSub (mVar 0) (mC (.int 2))) (mC (.int 7919)) oMul) oAdd) (mC (.int 2147483629)) oMod) (mC (.int 64)) oDiv) (mVar 1) oMod))))))
noncomputable def M_law_strewn : List PV → Ms → Out PV := mFn 3 (sSeq (sPar 2 3 (mL (mCons (mVar 1) mNil) oListOf) (mL mNil oList))
  (sSeq (sFor (iRg rng1 (mCons (mL (mCons (mVar 2) mNil) oLen) mNil)) (gNm 4)
  (sDrop (mMeth (mVar 3) (mCons (mMeth (mVar 2) (mCons (mL (mCons (mVar 0) (mCons (mL (mCons (mVar 2) mNil) oLen) mNil)) (cl 2 (M_law_take 4))) mNil) oPop) mNil) oAppend)))
  (sRet (mVar 3))))
noncomputable def M_law_net_of : List PV → Ms → Out PV := mFn 5 (sSeq (sSet 3 (mL (mCons (mVar 0) (mCons (m1 (mVar 1) oListRg1) mNil)) (cl 2 M_law_strewn)))
  (sSeq (sSet 4 (mSub (mL (mCons (mC (.int 0)) (mCons (mVar 1) (mCons (mC (.int 1)) (mCons (m2 (mC (.int 1)) (mL (mCons (mVar 0) (mCons (mVar 1) mNil)) (cl 2 (M_law_take 4))) oAdd) (mCons (mVar 1) (mCons (mC (.int 1)) mNil)))))) oList) (mVar 2)))
  (sSeq (sIf (mB (m2 (mVar 2) (mC (.int 4)) oEq))
  (sRet (mL (mCons (mVar 3) mNil) oTupOf))
  sNext)
  (sSeq (sSet 5 (m2 (mL (mCons (mC (.int 0)) mNil) oList) (mVar 1) oMul))
  (sSeq (sFor (iSt enmOf (mCons (mVar 3) mNil)) (gTp 2 (gCn (gNm 6) (gCn (gNm 7) gNl)))
  (sIf (mB (m2 (mVar 2) (mC (.int 0)) oEq))
  (sPut (mVar 5) (mVar 7) (mL (mCons (mVar 0) (mCons (mVar 1) mNil)) (cl 2 (M_law_take 4))))
  (sIf (mB (m2 (mVar 6) (mVar 4) oLt))
  (sPut (mVar 5) (mVar 7) (mSub (mVar 3) (m2 (m2 (mVar 6) (mC (.int 1)) oAdd) (mVar 4) oMod)))
  (sPut (mVar 5) (mVar 7) (mIf (mB (m2 (mVar 2) (mC (.int 5)) oEq)) (mSub (mVar 3) (m2 (mVar 6) (mC (.int 1)) oSub)) (mSub (mVar 3) (mL (mCons (mVar 0) (mCons (mVar 6) mNil)) (cl 2 (M_law_take 4)))))))))
  (sRet (mL (mCons (mVar 5) mNil) oTupOf)))))))
noncomputable def M_law_any_net : List PV → Ms → Out PV := mFn 0 (sRet (mL (mCons (mVar 0) (mCons (m2 (mC (.int 1)) (mL (mCons (mVar 0) (mCons (mVar 1) mNil)) (cl 2 (M_law_take 4))) oAdd) (mCons (mL (mCons (mVar 0) (mCons (mC (.int 6)) mNil)) (cl 2 (M_law_take 4))) mNil))) (cl 3 M_law_net_of)))
noncomputable def M_law_looked : List PV → Ms → Out PV := mFn 0 (sRet (m2 (m2 (mCut (mVar 0) (mC .non) (onlyI (mVar 1))) (mL (mCons (mSub (mVar 0) (mSub (mVar 0) (mVar 1))) mNil) oTup) oAdd) (mCut (mVar 0) (onlyI (m2 (mVar 1) (mC (.int 1)) oAdd)) (mC .non)) oAdd))
noncomputable def M_law_futures : List PV → Ms → Out PV := mFn 7 (sSeq (sPar3 1 2 3 (mDict1T (mVar 0) (mC (.int 0))) (mL (mCons (mVar 0) mNil) oList) (mC (.int 0)))
  (sSeq (sWhile (mB (m2 (mVar 2) (mL mNil oList) oNe))
  (sSeq (sPar 4 3 (mL mNil oList) (m2 (mVar 3) (mC (.int 1)) oAdd))
  (sSeq (sFor (iOf (mVar 2)) (gNm 5)
  (sFor (iRg rng1 (mCons (mL (mCons (mVar 5) mNil) oLen) mNil)) (gNm 6)
  (sSeq (sSet 7 (mL (mCons (mVar 5) (mCons (mVar 6) mNil)) (cl 2 M_law_looked)))
  (sIf (mB (m2 (mVar 7) (mVar 1) oNotIn))
  (sSeq (sPut (mVar 1) (mVar 7) (mVar 3))
  (sDrop (mMeth (mVar 4) (mCons (mVar 7) mNil) oAppend)))
  sNext))))
  (sSet 2 (mVar 4)))))
  (sRet (mVar 1))))
noncomputable def M_law_right : List PV → Ms → Out PV := mFn 7 (sSeq (sSet 1 (mL (mCons (mVar 0) (mCons (mC (.int 4)) mNil)) (cl 2 M_law_any_net)))
  (sSeq (sPar 2 3 (mL (mCons (mVar 1) mNil) (cl 1 M_law_futures)) (mL mNil oList))
  (sSeq (sFor (iOf (mL (mCons (mVar 2) mNil) oSortedB)) (gNm 4)
  (sSeq (sSet 5 (mL (mCons (mVar 4) mNil) (cl 1 M_law_futures)))
  (sSeq (sIf (bOr (mB (m2 (mL (mCons (mVar 1) (mCons (mVar 4) mNil)) (cl 2 M_are_kin)) (m2 (mVar 1) (mVar 5) oIn) oNe)) (mB (m2 (mL (mCons (mVar 4) (mCons (mVar 1) mNil)) (cl 2 M_are_kin)) (m2 (mVar 1) (mVar 5) oIn) oNe)))
  (sRet (mC (.bl false)))
  sNext)
  (sIf (mB (m2 (mVar 1) (mVar 5) oIn))
  (sSeq (sDrop (mMeth (mVar 3) (mCons (mVar 4) mNil) oAppend))
  (sIf (mB (m2 (mL (mCons (mVar 5) mNil) oSortedB) (mL (mCons (mVar 2) mNil) oSortedB) oNe))
  (sRet (mC (.bl false)))
  sNext))
  sNext))))
  (sSeq (sIf (bOr (mB (m2 (mL (mCons (mVar 1) mNil) (cl 1 M_kin_many)) (mL (mCons (mVar 3) mNil) oLen) oNe)) (mB (m2 (mLc (iRg rng1 (mCons (mL (mCons (mVar 3) mNil) oLen) mNil)) (gNm 6) bYes (mL (mCons (mVar 1) (mCons (mVar 6) mNil)) (cl 2 M_kin_at)) [6]) (mVar 3) oNe)))
  (sRet (mC (.bl false)))
  sNext)
  (sSeq (sSet 7 (mL (mCons (mVar 0) (mCons (mL (mCons (mVar 1) mNil) oLen) (mCons (mL (mCons (mVar 0) (mCons (mC (.int 6)) mNil)) (cl 2 (M_law_take 4))) mNil))) (cl 3 M_law_net_of)))
  (sRet (m2 (mL (mCons (mVar 1) (mCons (mVar 7) mNil)) (cl 2 M_are_kin)) (m2 (mVar 7) (mVar 3) oIn) oEq)))))))
noncomputable def M_law : List PV → Ms → Out PV := mFn 1 (sRet (mL (mCons (mLc (iRg rng1 (mCons (m2 (mC (.int 1)) (mL (mCons (mC (.int 3)) (mCons (mL (mCons (mVar 0) mNil) oLen) mNil)) oMin) oAdd) mNil)) (gNm 1) bYes (mL (mCons (mL (mCons (mVar 0) (mCons (mVar 1) mNil)) (cl 2 M_law_box)) mNil) (cl 1 M_law_right)) [1]) mNil) oAll))
/-! ### the defs -/
section
variable {K : PySem.W.Frag} {mg : Str → Option Value}
theorem bi_NoNumber (T : Tx K mg) : Binds K T.E_NoNumber.dI ["self", "number"] [] := T.E_NoNumber.F.binds fun _ _ _ _ _ _ us hl => match us, hl with | [_, _], _ => rfl
theorem ki_NoNumber {P : Program} {w : World} {base : Heap} (T : Tx K mg) : FnOk P w K mg base (L2.CX P w) 1 T.E_NoNumber.fI T.E_NoNumber.dI ["self", "number"] (spI "LookupError" "LookupError.__new__" bmLookupError K "number") :=
  init_ok T.E_NoNumber.F sci_NoNumber fun cdv A outer s H E =>
    pss_cons (ps_expr (pe_binit (pl := _) PySem.F.excBase_LookupError rfl T.n_LookupError rfl rfl T.E_NoNumber.bi rfl rfl (by decide) (by decide) (pa_cons (pe_var rfl (Or.inl rfl)) (pa_cons (pe_var rfl (Or.inl rfl)) pa_nil))))
    (pss_one (ps_osG (pe_var rfl (Or.inl rfl)) (pe_var rfl (Or.inl rfl))))
theorem bi_OtherSize (T : Tx K mg) : Binds K T.E_OtherSize.dI ["self", "size"] [] := T.E_OtherSize.F.binds fun _ _ _ _ _ _ us hl => match us, hl with | [_, _], _ => rfl
theorem ki_OtherSize {P : Program} {w : World} {base : Heap} (T : Tx K mg) : FnOk P w K mg base (L2.CX P w) 1 T.E_OtherSize.fI T.E_OtherSize.dI ["self", "size"] (spI "ValueError" "ValueError.__new__" bmValueError K "size") :=
  init_ok T.E_OtherSize.F sci_OtherSize fun cdv A outer s H E =>
    pss_cons (ps_expr (pe_binit (pl := _) PySem.F.excBase_ValueError rfl T.n_ValueError rfl rfl T.E_OtherSize.bi rfl rfl (by decide) (by decide) (pa_cons (pe_var rfl (Or.inl rfl)) (pa_cons (pe_var rfl (Or.inl rfl)) pa_nil))))
    (pss_one (ps_osG (pe_var rfl (Or.inl rfl)) (pe_var rfl (Or.inl rfl))))
theorem b_look_size (T : Tx K mg) : Binds K T.d_look_size ["one", "other"] [] := T.F_look_size.binds fun _ _ _ _ _ _ us hl => match us, hl with | [_, _], _ => rfl
theorem k_look_size {P : Program} {w : World} {base : Heap} (T : Tx K mg) : FnOk P w K mg base (L2.CX P w) 3 T.f_look_size T.d_look_size ["one", "other"] (spF K mg 2 M_look_size) :=
  fn_ok T.F_look_size sc_look_size rfl fun cdv A outer s H E hr =>
    (ss_one (ss_if (sb_cmp (op_neD hr.units) o_ne (s_callB call_len4 o_len T.n_len (by decide +kernel) (sa_cons (s_var 0) sa_nil)) (s_callB call_len4 o_len T.n_len (by decide +kernel) (sa_cons (s_var 1) sa_nil)))
    (ss_one (ss_raise rfl T.E_OtherSize PySem.F.excBase_ValueError (ki_OtherSize T) (bi_OtherSize T) (hr.mono (by decide)) (takes_of rfl rfl rfl rfl) (s_callB call_len4 o_len T.n_len (by decide +kernel) (sa_cons (s_var 1) sa_nil))))
    ss_nil))
theorem b_way_of (T : Tx K mg) : Binds K T.d_way_of ["state", "person"] [] := T.F_way_of.binds fun _ _ _ _ _ _ us hl => match us, hl with | [_, _], _ => rfl
theorem k_way_of {P : Program} {w : World} {base : Heap} (T : Tx K mg) : FnOk P w K mg base (L2.CX P w) 1 T.f_way_of T.d_way_of ["state", "person"] (spF K mg 2 M_way_of) :=
  fn_ok T.F_way_of sc_way_of rfl fun cdv A outer s H E hr =>
    (ss_cons (ss_par (i := 2) (j := 3) rfl sc_way_of.nd s_newK (s_sub (hu_of hr) (s_var 0) (s_var 1)))
    (ss_cons (ss_while (passes_of rfl) (sb_notin (hu65 hr) (s_var 3) (s_var 2))
    (ss_cons (ss_put (hu_of hr) (s_var 2) (s_var 3) s_bl)
    (ss_one (ss_set (i := 3) sc_way_of.nd (s_sub (hu_of hr) (s_var 0) (s_var 3))))))
    (ss_one (ss_ret (s_callTy (call_listOf rfl) o_listOf T.n_list (by decide +kernel) (sa_cons (s_var 2) sa_nil))))))
theorem b_lap_from (T : Tx K mg) : Binds K T.d_lap_from ["state", "member"] [] := T.F_lap_from.binds fun _ _ _ _ _ _ us hl => match us, hl with | [_, _], _ => rfl
theorem k_lap_from {P : Program} {w : World} {base : Heap} (T : Tx K mg) : FnOk P w K mg base (L2.CX P w) 1 T.f_lap_from T.d_lap_from ["state", "member"] (spF K mg 2 M_lap_from) :=
  fn_ok T.F_lap_from sc_lap_from rfl fun cdv A outer s H E hr =>
    (ss_cons (ss_par (i := 2) (j := 3) rfl sc_lap_from.nd (s_list (sa_cons (s_var 1) sa_nil)) (s_sub (hu_of hr) (s_var 0) (s_var 1)))
    (ss_cons (ss_while (passes_of rfl) (sb_cmp (op_neD hr.units) o_ne (s_var 3) (s_var 1))
    (ss_cons (ss_expr (s_bmL PySem.F.slot_list_append PySem.F.type_list_append mt_append o_append (s_var 2) (sa_cons (s_var 3) sa_nil)))
    (ss_one (ss_set (i := 3) sc_lap_from.nd (s_sub (hu_of hr) (s_var 0) (s_var 3))))))
    (ss_one (ss_ret (s_callTy call_tuple_of o_tupOf T.n_tuple (by decide +kernel) (sa_cons (s_var 2) sa_nil))))))
theorem b_ring_at (T : Tx K mg) : Binds K T.d_ring_at ["state", "person"] [] := T.F_ring_at.binds fun _ _ _ _ _ _ us hl => match us, hl with | [_, _], _ => rfl
theorem k_ring_at {P : Program} {w : World} {base : Heap} (T : Tx K mg) : FnOk P w K mg base (L2.CX P w) 2 T.f_ring_at T.d_ring_at ["state", "person"] (spF K mg 2 M_ring_at) :=
  fn_ok T.F_ring_at sc_ring_at rfl fun cdv A outer s H E hr =>
    (ss_one (ss_ret (s_call (k_lap_from T) rfl (hr.mono (by first | decide | exact Nat.le_add_right_of_le (by decide) | omega)) T.g_lap_from T.F_lap_from.kp (b_lap_from T) (takes_of rfl rfl rfl rfl) (sa_cons (s_var 0) (sa_cons (s_callB (call_min4 rfl hr.units) o_min T.n_min (by decide +kernel) (sa_cons (s_call (k_lap_from T) rfl (hr.mono (by first | decide | exact Nat.le_add_right_of_le (by decide) | omega)) T.g_lap_from T.F_lap_from.kp (b_lap_from T) (takes_of rfl rfl rfl rfl) (sa_cons (s_var 0) (sa_cons (s_sub (hu_of hr) (s_call (k_way_of T) rfl (hr.mono (by first | decide | exact Nat.le_add_right_of_le (by decide) | omega)) T.g_way_of T.F_way_of.kp (b_way_of T) (takes_of rfl rfl rfl rfl) (sa_cons (s_var 0) (sa_cons (s_var 1) sa_nil))) (s_un un_neg o_neg s_int)) sa_nil))) sa_nil)) sa_nil)))))
theorem b_ring_members (T : Tx K mg) : Binds K T.d_ring_members ["state"] [] := T.F_ring_members.binds fun _ _ _ _ _ _ us hl => match us, hl with | [_], _ => rfl
theorem k_ring_members {P : Program} {w : World} {base : Heap} (T : Tx K mg) : FnOk P w K mg base (L2.CX P w) 1 T.f_ring_members T.d_ring_members ["state"] (spF K mg 1 M_ring_members) :=
  fn_ok T.F_ring_members sc_ring_members rfl fun cdv A outer s H E hr =>
    (ss_cons (ss_set (i := 1) sc_ring_members.nd (s_listRg1 rfl (s_callB call_len4 o_len T.n_len (by decide +kernel) (sa_cons (s_var 0) sa_nil)) T.n_list T.n_range))
    (ss_cons (ss_for (passes_of rfl) rfl (si_range1 T.n_range (sa_cons (s_callB call_len4 o_len T.n_len (by decide +kernel) (sa_cons (s_var 0) sa_nil)) sa_nil)) (sg_name (i := 2) sc_ring_members.nd)
    (ss_one (ss_set (i := 1) sc_ring_members.nd (s_ssc (own := [("person", 3)]) rfl (hu80 hr) sc_ring_members.nd (si_of (s_var 1)) (blkOk_by (own := [("person", 3)]) (N := N_ring_members) (sc := defScope st_ring_members) (by decide +kernel)) (by decide) (fun _ _ _ _ _ => (sg_name (i := 3) sc_ring_members.nd)) (fun _ _ _ _ _ => sif_nil) (fun _ _ _ _ _ => (s_sub (hu_of hr) (s_var 0) (s_var 3))) T.n_sorted))))
    (ss_one (ss_ret (s_var 1)))))
theorem b_rings (T : Tx K mg) : Binds K T.d_rings ["state"] [] := T.F_rings.binds fun _ _ _ _ _ _ us hl => match us, hl with | [_], _ => rfl
theorem k_rings {P : Program} {w : World} {base : Heap} (T : Tx K mg) : FnOk P w K mg base (L2.CX P w) 3 T.f_rings T.d_rings ["state"] (spF K mg 1 M_rings) :=
  fn_ok T.F_rings sc_rings rfl fun cdv A outer s H E hr =>
    (ss_one (ss_ret (s_ssc (own := [("person", 1)]) rfl (hu80 hr) sc_rings.nd (si_of (s_call (k_ring_members T) rfl (hr.mono (by first | decide | exact Nat.le_add_right_of_le (by decide) | omega)) T.g_ring_members T.F_ring_members.kp (b_ring_members T) (takes_of rfl rfl rfl rfl) (sa_cons (s_var 0) sa_nil))) (blkOk_by (own := [("person", 1)]) (N := N_rings) (sc := defScope st_rings) (by decide +kernel)) (by decide) (fun _ _ _ _ _ => (sg_name (i := 1) sc_rings.nd)) (fun _ _ _ _ _ => sif_nil) (fun _ _ _ _ _ => (s_call (k_ring_at T) rfl (hr.mono (by first | decide | exact Nat.le_add_right_of_le (by decide) | omega)) T.g_ring_at T.F_ring_at.kp (b_ring_at T) takes0 (sa_cons (s_var 0) (sa_cons (s_var 1) sa_nil)))) T.n_sorted)))
theorem b_choices (T : Tx K mg) : Binds K T.d_choices ["state"] [] := T.F_choices.binds fun _ _ _ _ _ _ us hl => match us, hl with | [_], _ => rfl
theorem k_choices {P : Program} {w : World} {base : Heap} (T : Tx K mg) : FnOk P w K mg base (L2.CX P w) 3 T.f_choices T.d_choices ["state"] (spF K mg 1 M_choices) :=
  fn_ok T.F_choices sc_choices rfl fun cdv A outer s H E hr =>
    (ss_cons (ss_par (i := 1) (j := 2) rfl sc_choices.nd (s_call (k_ring_members T) rfl (hr.mono (by first | decide | exact Nat.le_add_right_of_le (by decide) | omega)) T.g_ring_members T.F_ring_members.kp (b_ring_members T) (takes_of rfl rfl rfl rfl) (sa_cons (s_var 0) sa_nil)) (s_list sa_nil))
    (ss_cons (ss_for (passes_of rfl) rfl (si_enumA T.n_enumerate (sa_cons (s_var 0) sa_nil)) (sg_tup rfl (sgs_cons (sg_name (i := 3) sc_choices.nd) (sgs_cons (sg_name (i := 4) sc_choices.nd) sgs_nil)))
    (ss_cons (ss_set (i := 5) sc_choices.nd (s_and (s_notin (hu65 hr) (s_var 3) (s_var 1)) (s_one (s_in (hu65 hr) (s_var 4) (s_var 1)))))
    (ss_one (ss_expr (s_bmL PySem.F.slot_list_append PySem.F.type_list_append mt_append o_append (s_var 2) (sa_cons (s_ifE (sb_truth (s_var 5)) (s_callB (cr_sortTI (hu80 hr)) o_sortT T.n_sorted (by decide +kernel) (sa_cons (s_call (k_ring_at T) rfl (hr.mono (by first | decide | exact Nat.le_add_right_of_le (by decide) | omega)) T.g_ring_at T.F_ring_at.kp (b_ring_at T) (takes_of rfl rfl rfl rfl) (sa_cons (s_var 0) (sa_cons (s_var 4) sa_nil))) sa_nil)) (s_list (sa_cons (s_var 4) sa_nil))) sa_nil))))))
    (ss_one (ss_ret (s_var 2)))))
theorem b_are_kin (T : Tx K mg) : Binds K T.d_are_kin ["one", "other"] [] := T.F_are_kin.binds fun _ _ _ _ _ _ us hl => match us, hl with | [_, _], _ => rfl
theorem k_are_kin {P : Program} {w : World} {base : Heap} (T : Tx K mg) : FnOk P w K mg base (L2.CX P w) 4 T.f_are_kin T.d_are_kin ["one", "other"] (spF K mg 2 M_are_kin) :=
  fn_ok T.F_are_kin sc_are_kin rfl fun cdv A outer s H E hr =>
    (ss_cons (ss_expr (s_call (k_look_size T) rfl (hr.mono (by first | decide | exact Nat.le_add_right_of_le (by decide) | omega)) T.g_look_size T.F_look_size.kp (b_look_size T) (takes_of rfl rfl rfl rfl) (sa_cons (s_var 0) (sa_cons (s_var 1) sa_nil))))
    (ss_cons (ss_if (sb_cmp (op_neD hr.units) o_ne (s_call (k_rings T) rfl (hr.mono (by first | decide | exact Nat.le_add_right_of_le (by decide) | omega)) T.g_rings T.F_rings.kp (b_rings T) (takes_of rfl rfl rfl rfl) (sa_cons (s_var 0) sa_nil)) (s_call (k_rings T) rfl (hr.mono (by first | decide | exact Nat.le_add_right_of_le (by decide) | omega)) T.g_rings T.F_rings.kp (b_rings T) (takes_of rfl rfl rfl rfl) (sa_cons (s_var 1) sa_nil)))
    (ss_one (ss_ret s_bl))
    ss_nil)
    (ss_one (ss_ret (s_callB (cr_all rfl) o_all T.n_all (by decide +kernel) (sa_cons (s_lc (own := [("target", 2), ("some", 3)]) rfl sc_are_kin.nd (si_zipM T.n_zip (sa_cons (s_var 1) (sa_cons (s_call (k_choices T) rfl (hr.mono (by first | decide | exact Nat.le_add_right_of_le (by decide) | omega)) T.g_choices T.F_choices.kp (b_choices T) (takes_of rfl rfl rfl rfl) (sa_cons (s_var 0) sa_nil)) sa_nil))) (blkOk_by (own := [("target", 2), ("some", 3)]) (N := N_are_kin) (sc := defScope st_are_kin) (by decide +kernel)) (by decide) (fun _ _ _ _ _ => (sg_tup rfl (sgs_cons (sg_name (i := 2) sc_are_kin.nd) (sgs_cons (sg_name (i := 3) sc_are_kin.nd) sgs_nil)))) (fun _ _ _ _ _ => sif_nil) (fun _ _ _ _ _ => (s_in (hu65 hr) (s_var 2) (s_var 3)))) sa_nil))))))
theorem b_kin_many (T : Tx K mg) : Binds K T.d_kin_many ["state"] [] := T.F_kin_many.binds fun _ _ _ _ _ _ us hl => match us, hl with | [_], _ => rfl
theorem k_kin_many {P : Program} {w : World} {base : Heap} (T : Tx K mg) : FnOk P w K mg base (L2.CX P w) 4 T.f_kin_many T.d_kin_many ["state"] (spF K mg 1 M_kin_many) :=
  fn_ok T.F_kin_many sc_kin_many rfl fun cdv A outer s H E hr =>
    (ss_cons (ss_set (i := 1) sc_kin_many.nd s_int)
    (ss_cons (ss_for (passes_of rfl) rfl (si_of (s_call (k_choices T) rfl (hr.mono (by first | decide | exact Nat.le_add_right_of_le (by decide) | omega)) T.g_choices T.F_choices.kp (b_choices T) (takes_of rfl rfl rfl rfl) (sa_cons (s_var 0) sa_nil))) (sg_name (i := 2) sc_kin_many.nd)
    (ss_one (ss_aug (i := 1) sc_kin_many.nd iop_mulJ o_mulJ (s_callB call_len4 o_len T.n_len (by decide +kernel) (sa_cons (s_var 2) sa_nil)))))
    (ss_one (ss_ret (s_var 1)))))
theorem b_kin_at (T : Tx K mg) : Binds K T.d_kin_at ["state", "number"] [] := T.F_kin_at.binds fun _ _ _ _ _ _ us hl => match us, hl with | [_, _], _ => rfl
theorem k_kin_at {P : Program} {w : World} {base : Heap} (T : Tx K mg) : FnOk P w K mg base (L2.CX P w) 5 T.f_kin_at T.d_kin_at ["state", "number"] (spF K mg 2 M_kin_at) :=
  fn_ok T.F_kin_at sc_kin_at rfl fun cdv A outer s H E hr =>
    (ss_cons (ss_if (sb_not (sb_chain op_le op_lt o_cmp o_cmp s_int (s_var 1) (s_call (k_kin_many T) rfl (hr.mono (by first | decide | exact Nat.le_add_right_of_le (by decide) | omega)) T.g_kin_many T.F_kin_many.kp (b_kin_many T) (takes_of rfl rfl rfl rfl) (sa_cons (s_var 0) sa_nil))))
    (ss_one (ss_raise rfl T.E_NoNumber PySem.F.excBase_LookupError (ki_NoNumber T) (bi_NoNumber T) (hr.mono (by decide)) (takes_of rfl rfl rfl rfl) (s_var 1)))
    ss_nil)
    (ss_cons (ss_par (i := 2) (j := 3) rfl sc_kin_at.nd (s_var 1) (s_list sa_nil))
    (ss_cons (ss_for (passes_of rfl) rfl (si_of (s_revL (s_call (k_choices T) rfl (hr.mono (by first | decide | exact Nat.le_add_right_of_le (by decide) | omega)) T.g_choices T.F_choices.kp (b_choices T) (takes_of rfl rfl rfl rfl) (sa_cons (s_var 0) sa_nil)))) (sg_name (i := 4) sc_kin_at.nd)
    (ss_cons (ss_asg (s_callB call_divmod o_divmod T.n_divmod (by decide +kernel) (sa_cons (s_var 2) (sa_cons (s_callB call_len4 o_len T.n_len (by decide +kernel) (sa_cons (s_var 4) sa_nil)) sa_nil))) (sg_tup rfl (sgs_cons (sg_name (i := 2) sc_kin_at.nd) (sgs_cons (sg_name (i := 5) sc_kin_at.nd) sgs_nil))))
    (ss_one (ss_expr (s_bmL PySem.F.slot_list_append PySem.F.type_list_append mt_append o_append (s_var 3) (sa_cons (s_sub (hu_of hr) (s_var 4) (s_var 5)) sa_nil))))))
    (ss_one (ss_ret (s_callTy call_tuple_of o_tupOf T.n_tuple (by decide +kernel) (sa_cons (s_revL (s_var 3)) sa_nil)))))))
theorem b_law_box (T : Tx K mg) : Binds K T.d_law_box ["_law_script", "_law_k"] [] := T.F_law_box.binds fun _ _ _ _ _ _ us hl => match us, hl with | [_, _], _ => rfl
theorem k_law_box {P : Program} {w : World} {base : Heap} (T : Tx K mg) : FnOk P w K mg base (L2.CX P w) 1 T.f_law_box T.d_law_box ["_law_script", "_law_k"] (spF K mg 2 M_law_box) :=
  fn_ok T.F_law_box sc_law_box rfl fun cdv A outer s H E hr =>
    (ss_cons (ss_set (i := 2) sc_law_box.nd (s_ifE (sb_cmp op_lt o_cmp (s_var 1) (s_callB call_len4 o_len T.n_len (by decide +kernel) (sa_cons (s_var 0) sa_nil))) (s_sub (hu_of hr) (s_var 0) (s_var 1)) s_int))
    (ss_one (ss_ret (s_list (sa_cons (s_op op_mul4 o_mul (s_callB call_abs o_abs T.n_abs (by decide +kernel) (sa_cons (s_var 2) sa_nil)) (s_callTy call_int1 o_int T.n_int (by decide +kernel) (sa_cons (s_cmp op_ge o_cmp (s_callB call_abs o_abs T.n_abs (by decide +kernel) (sa_cons (s_var 2) sa_nil)) (s_op op_pow o_pow s_int s_int)) sa_nil))) (sa_cons (s_op op_add4 o_add (s_op op_add4 o_add (s_op op_modN o_mod (s_var 2) s_int) (s_op op_mul4 o_mul s_int (s_var 1))) s_int) (sa_cons s_int sa_nil)))))))
theorem b_law_take (T : Tx K mg) : Binds K T.d_law_take ["_law_box_here", "_law_below"] [] := T.F_law_take.binds fun _ _ _ _ _ _ us hl => match us, hl with | [_, _], _ => rfl
theorem k_law_take {P : Program} {w : World} {base : Heap} (T : Tx K mg) : ∀ d, FnOk P w K mg base (L2.CX P w) (0 + d) T.f_law_take T.d_law_take ["_law_box_here", "_law_below"] (spF K mg 2 (M_law_take d))
  | 0 => fn_never
  | d + 1 =>
    have ih : FnOk P w K mg base (L2.CX P w) (0 + d) T.f_law_take T.d_law_take ["_law_box_here", "_law_below"] (spF K mg 2 (M_law_take d)) := k_law_take T d
    fn_ok T.F_law_take sc_law_take rfl fun cdv A outer s H E hr =>
    (ss_cons (ss_if (sb_cmp op_gt o_cmp (s_sub (hu_of hr) (s_var 0) s_int) s_int)
    (ss_cons (ss_set (i := 2) sc_law_take.nd (s_op op_modN o_mod (s_sub (hu_of hr) (s_var 0) s_int) (s_var 1)))
    (ss_cons (ss_put (hu_of hr) (s_var 0) s_int (s_op op_div4 o_div (s_sub (hu_of hr) (s_var 0) s_int) (s_var 1)))
    (ss_one (ss_ret (s_var 2)))))
    ss_nil)
    (ss_cons (ss_if (sb_cmp op_gt o_cmp (s_var 1) (s_op op_pow o_pow s_int s_int))
    (ss_one (ss_ret (s_op op_modN o_mod (s_op op_add4 o_add (s_call ih rfl hr T.g_law_take T.F_law_take.kp (b_law_take T) (takes_of rfl rfl rfl rfl) (sa_cons (s_var 0) (sa_cons (s_op op_pow o_pow s_int s_int) sa_nil))) (s_op op_mul4 o_mul (s_op op_pow o_pow s_int s_int) (s_call ih rfl hr T.g_law_take T.F_law_take.kp (b_law_take T) (takes_of rfl rfl rfl rfl) (sa_cons (s_var 0) (sa_cons (s_op op_add4 o_add (s_op op_div4 o_div (s_op op_sub o_sub (s_var 1) s_int) (s_op op_pow o_pow s_int s_int)) s_int) sa_nil))))) (s_var 1))))
    ss_nil)
    (ss_cons (ss_put (hu_of hr) (s_var 0) s_int (s_op op_add4 o_add (s_sub (hu_of hr) (s_var 0) s_int) s_int))
    (ss_cons (ss_set (i := 3) sc_law_take.nd (s_op op_modN o_mod (s_op op_pow o_pow (s_op op_add4 o_add (s_sub (hu_of hr) (s_var 0) s_int) (s_op op_mul4 o_mul s_int (s_sub (hu_of hr) (s_var 0) s_int))) s_int) s_int))
    (ss_one (ss_ret (s_op op_modN o_mod (s_op op_div4 o_div (s_op op_modN o_mod (s_op op_add4 o_add (s_op op_mul4 o_mul (s_var 3) (s_op op_add4 o_add (s_op op_modN o_mod (s_var 3) s_int) s_int)) (s_op op_mul4 o_mul (s_sub (hu_of hr) (s_var 0) s_int) s_int)) s_int) s_int) (s_var 1))))))))
theorem b_law_strewn (T : Tx K mg) : Binds K T.d_law_strewn ["_law_box_here", "_law_some"] [] := T.F_law_strewn.binds fun _ _ _ _ _ _ us hl => match us, hl with | [_, _], _ => rfl
theorem k_law_strewn {P : Program} {w : World} {base : Heap} (T : Tx K mg) : FnOk P w K mg base (L2.CX P w) 5 T.f_law_strewn T.d_law_strewn ["_law_box_here", "_law_some"] (spF K mg 2 M_law_strewn) :=
  fn_ok T.F_law_strewn sc_law_strewn rfl fun cdv A outer s H E hr =>
    (ss_cons (ss_par (i := 2) (j := 3) rfl sc_law_strewn.nd (s_callTy (call_listOf rfl) o_listOf T.n_list (by decide +kernel) (sa_cons (s_var 1) sa_nil)) (s_list sa_nil))
    (ss_cons (ss_for (passes_of rfl) rfl (si_range1 T.n_range (sa_cons (s_callB call_len4 o_len T.n_len (by decide +kernel) (sa_cons (s_var 2) sa_nil)) sa_nil)) (sg_name (i := 4) sc_law_strewn.nd)
    (ss_one (ss_expr (s_bmL PySem.F.slot_list_append PySem.F.type_list_append mt_append o_append (s_var 3) (sa_cons (s_bmL PySem.F.slot_list_pop PySem.F.type_list_pop mt_pop2 o_pop (s_var 2) (sa_cons (s_call (k_law_take T 4) rfl (hr.mono (by first | decide | exact Nat.le_add_right_of_le (by decide) | omega)) T.g_law_take T.F_law_take.kp (b_law_take T) (takes_of rfl rfl rfl rfl) (sa_cons (s_var 0) (sa_cons (s_callB call_len4 o_len T.n_len (by decide +kernel) (sa_cons (s_var 2) sa_nil)) sa_nil))) sa_nil)) sa_nil)))))
    (ss_one (ss_ret (s_var 3)))))
theorem b_law_net_of (T : Tx K mg) : Binds K T.d_law_net_of ["_law_box_here", "_law_length", "_law_kind"] [] := T.F_law_net_of.binds fun _ _ _ _ _ _ us hl => match us, hl with | [_, _, _], _ => rfl
theorem k_law_net_of {P : Program} {w : World} {base : Heap} (T : Tx K mg) : FnOk P w K mg base (L2.CX P w) 6 T.f_law_net_of T.d_law_net_of ["_law_box_here", "_law_length", "_law_kind"] (spF K mg 3 M_law_net_of) :=
  fn_ok T.F_law_net_of sc_law_net_of rfl fun cdv A outer s H E hr =>
    (ss_cons (ss_set (i := 3) sc_law_net_of.nd (s_call (k_law_strewn T) rfl (hr.mono (by first | decide | exact Nat.le_add_right_of_le (by decide) | omega)) T.g_law_strewn T.F_law_strewn.kp (b_law_strewn T) (takes_of rfl rfl rfl rfl) (sa_cons (s_var 0) (sa_cons (s_listRg1 rfl (s_var 1) T.n_list T.n_range) sa_nil))))
    (ss_cons (ss_set (i := 4) sc_law_net_of.nd (s_sub (hu_of hr) (s_list (sa_cons s_int (sa_cons (s_var 1) (sa_cons s_int (sa_cons (s_op op_add4 o_add s_int (s_call (k_law_take T 4) rfl (hr.mono (by first | decide | exact Nat.le_add_right_of_le (by decide) | omega)) T.g_law_take T.F_law_take.kp (b_law_take T) (takes_of rfl rfl rfl rfl) (sa_cons (s_var 0) (sa_cons (s_var 1) sa_nil)))) (sa_cons (s_var 1) (sa_cons s_int sa_nil))))))) (s_var 2)))
    (ss_cons (ss_if (sb_cmp (op_eqD hr.units) o_eq (s_var 2) s_int)
    (ss_one (ss_ret (s_callTy call_tuple_of o_tupOf T.n_tuple (by decide +kernel) (sa_cons (s_var 3) sa_nil))))
    ss_nil)
    (ss_cons (ss_set (i := 5) sc_law_net_of.nd (s_op op_mul4 o_mul (s_list (sa_cons s_int sa_nil)) (s_var 1)))
    (ss_cons (ss_for (passes_of rfl) rfl (si_enum T.n_enumerate (sa_cons (s_var 3) sa_nil)) (sg_tup rfl (sgs_cons (sg_name (i := 6) sc_law_net_of.nd) (sgs_cons (sg_name (i := 7) sc_law_net_of.nd) sgs_nil)))
    (ss_one (ss_if (sb_cmp (op_eqD hr.units) o_eq (s_var 2) s_int)
    (ss_one (ss_put (hu_of hr) (s_var 5) (s_var 7) (s_call (k_law_take T 4) rfl (hr.mono (by first | decide | exact Nat.le_add_right_of_le (by decide) | omega)) T.g_law_take T.F_law_take.kp (b_law_take T) (takes_of rfl rfl rfl rfl) (sa_cons (s_var 0) (sa_cons (s_var 1) sa_nil)))))
    (ss_one (ss_if (sb_cmp op_lt o_cmp (s_var 6) (s_var 4))
    (ss_one (ss_put (hu_of hr) (s_var 5) (s_var 7) (s_sub (hu_of hr) (s_var 3) (s_op op_modN o_mod (s_op op_add4 o_add (s_var 6) s_int) (s_var 4)))))
    (ss_one (ss_put (hu_of hr) (s_var 5) (s_var 7) (s_ifE (sb_cmp (op_eqD hr.units) o_eq (s_var 2) s_int) (s_sub (hu_of hr) (s_var 3) (s_op op_sub o_sub (s_var 6) s_int)) (s_sub (hu_of hr) (s_var 3) (s_call (k_law_take T 4) rfl (hr.mono (by first | decide | exact Nat.le_add_right_of_le (by decide) | omega)) T.g_law_take T.F_law_take.kp (b_law_take T) (takes_of rfl rfl rfl rfl) (sa_cons (s_var 0) (sa_cons (s_var 6) sa_nil))))))))))))
    (ss_one (ss_ret (s_callTy call_tuple_of o_tupOf T.n_tuple (by decide +kernel) (sa_cons (s_var 5) sa_nil)))))))))
theorem b_law_any_net (T : Tx K mg) : Binds K T.d_law_any_net ["_law_box_here", "_law_most"] [] := T.F_law_any_net.binds fun _ _ _ _ _ _ us hl => match us, hl with | [_, _], _ => rfl
theorem k_law_any_net {P : Program} {w : World} {base : Heap} (T : Tx K mg) : FnOk P w K mg base (L2.CX P w) 7 T.f_law_any_net T.d_law_any_net ["_law_box_here", "_law_most"] (spF K mg 2 M_law_any_net) :=
  fn_ok T.F_law_any_net sc_law_any_net rfl fun cdv A outer s H E hr =>
    (ss_one (ss_ret (s_call (k_law_net_of T) rfl (hr.mono (by first | decide | exact Nat.le_add_right_of_le (by decide) | omega)) T.g_law_net_of T.F_law_net_of.kp (b_law_net_of T) (takes_of rfl rfl rfl rfl) (sa_cons (s_var 0) (sa_cons (s_op op_add4 o_add s_int (s_call (k_law_take T 4) rfl (hr.mono (by first | decide | exact Nat.le_add_right_of_le (by decide) | omega)) T.g_law_take T.F_law_take.kp (b_law_take T) (takes_of rfl rfl rfl rfl) (sa_cons (s_var 0) (sa_cons (s_var 1) sa_nil)))) (sa_cons (s_call (k_law_take T 4) rfl (hr.mono (by first | decide | exact Nat.le_add_right_of_le (by decide) | omega)) T.g_law_take T.F_law_take.kp (b_law_take T) (takes_of rfl rfl rfl rfl) (sa_cons (s_var 0) (sa_cons s_int sa_nil))) sa_nil))))))
theorem b_law_looked (T : Tx K mg) : Binds K T.d_law_looked ["_law_net", "_law_who"] [] := T.F_law_looked.binds fun _ _ _ _ _ _ us hl => match us, hl with | [_, _], _ => rfl
theorem k_law_looked {P : Program} {w : World} {base : Heap} (T : Tx K mg) : FnOk P w K mg base (L2.CX P w) 1 T.f_law_looked T.d_law_looked ["_law_net", "_law_who"] (spF K mg 2 M_law_looked) :=
  fn_ok T.F_law_looked sc_law_looked rfl fun cdv A outer s H E hr =>
    (ss_one (ss_ret (s_op op_add4 o_add (s_op op_add4 o_add (s_slice (s_var 0) so_none (so_some (s_var 1))) (s_tup (sa_cons (s_sub (hu_of hr) (s_var 0) (s_sub (hu_of hr) (s_var 0) (s_var 1))) sa_nil))) (s_slice (s_var 0) (so_some (s_op op_add4 o_add (s_var 1) s_int)) so_none))))
theorem b_law_futures (T : Tx K mg) : Binds K T.d_law_futures ["_law_net"] [] := T.F_law_futures.binds fun _ _ _ _ _ _ us hl => match us, hl with | [_], _ => rfl
theorem k_law_futures {P : Program} {w : World} {base : Heap} (T : Tx K mg) : FnOk P w K mg base (L2.CX P w) 2 T.f_law_futures T.d_law_futures ["_law_net"] (spF K mg 1 M_law_futures) :=
  fn_ok T.F_law_futures sc_law_futures rfl fun cdv A outer s H E hr =>
    (ss_cons (ss_par3 (i := 1) (j := 2) (l := 3) rfl sc_law_futures.nd (s_dict1T (hu_of hr) (s_var 0) s_int) (s_list (sa_cons (s_var 0) sa_nil)) s_int)
    (ss_cons (ss_while (passes_of rfl) (sb_cmp (op_neD hr.units) o_ne (s_var 2) (s_list sa_nil))
    (ss_cons (ss_par (i := 4) (j := 3) rfl sc_law_futures.nd (s_list sa_nil) (s_op op_add4 o_add (s_var 3) s_int))
    (ss_cons (ss_for (passes_of rfl) rfl (si_of (s_var 2)) (sg_name (i := 5) sc_law_futures.nd)
    (ss_one (ss_for (passes_of rfl) rfl (si_range1 T.n_range (sa_cons (s_callB call_len4 o_len T.n_len (by decide +kernel) (sa_cons (s_var 5) sa_nil)) sa_nil)) (sg_name (i := 6) sc_law_futures.nd)
    (ss_cons (ss_set (i := 7) sc_law_futures.nd (s_call (k_law_looked T) rfl (hr.mono (by first | decide | exact Nat.le_add_right_of_le (by decide) | omega)) T.g_law_looked T.F_law_looked.kp (b_law_looked T) (takes_of rfl rfl rfl rfl) (sa_cons (s_var 5) (sa_cons (s_var 6) sa_nil))))
    (ss_one (ss_if (sb_notin (hu65 hr) (s_var 7) (s_var 1))
    (ss_cons (ss_put (hu_of hr) (s_var 1) (s_var 7) (s_var 3))
    (ss_one (ss_expr (s_bmL PySem.F.slot_list_append PySem.F.type_list_append mt_append o_append (s_var 4) (sa_cons (s_var 7) sa_nil)))))
    ss_nil))))))
    (ss_one (ss_set (i := 2) sc_law_futures.nd (s_var 4))))))
    (ss_one (ss_ret (s_var 1)))))
theorem b_law_right (T : Tx K mg) : Binds K T.d_law_right ["_law_box_here"] [] := T.F_law_right.binds fun _ _ _ _ _ _ us hl => match us, hl with | [_], _ => rfl
theorem k_law_right {P : Program} {w : World} {base : Heap} (T : Tx K mg) : FnOk P w K mg base (L2.CX P w) 8 T.f_law_right T.d_law_right ["_law_box_here"] (spF K mg 1 M_law_right) :=
  fn_ok T.F_law_right sc_law_right rfl fun cdv A outer s H E hr =>
    (ss_cons (ss_set (i := 1) sc_law_right.nd (s_call (k_law_any_net T) rfl (hr.mono (by first | decide | exact Nat.le_add_right_of_le (by decide) | omega)) T.g_law_any_net T.F_law_any_net.kp (b_law_any_net T) (takes_of rfl rfl rfl rfl) (sa_cons (s_var 0) (sa_cons s_int sa_nil))))
    (ss_cons (ss_par (i := 2) (j := 3) rfl sc_law_right.nd (s_call (k_law_futures T) rfl (hr.mono (by first | decide | exact Nat.le_add_right_of_le (by decide) | omega)) T.g_law_futures T.F_law_futures.kp (b_law_futures T) (takes_of rfl rfl rfl rfl) (sa_cons (s_var 1) sa_nil)) (s_list sa_nil))
    (ss_cons (ss_for (passes_of rfl) rfl (si_of (s_callB (cr_sortedB rfl (hu80 hr)) o_sortedB T.n_sorted (by decide +kernel) (sa_cons (s_var 2) sa_nil))) (sg_name (i := 4) sc_law_right.nd)
    (ss_cons (ss_set (i := 5) sc_law_right.nd (s_call (k_law_futures T) rfl (hr.mono (by first | decide | exact Nat.le_add_right_of_le (by decide) | omega)) T.g_law_futures T.F_law_futures.kp (b_law_futures T) (takes_of rfl rfl rfl rfl) (sa_cons (s_var 4) sa_nil)))
    (ss_cons (ss_if (sb_w (sw_or (sb_cmp (op_neD hr.units) o_ne (s_call (k_are_kin T) rfl (hr.mono (by first | decide | exact Nat.le_add_right_of_le (by decide) | omega)) T.g_are_kin T.F_are_kin.kp (b_are_kin T) (takes_of rfl rfl rfl rfl) (sa_cons (s_var 1) (sa_cons (s_var 4) sa_nil))) (s_in (hu65 hr) (s_var 1) (s_var 5))) (sw_or1 (sb_cmp (op_neD hr.units) o_ne (s_call (k_are_kin T) rfl (hr.mono (by first | decide | exact Nat.le_add_right_of_le (by decide) | omega)) T.g_are_kin T.F_are_kin.kp (b_are_kin T) (takes_of rfl rfl rfl rfl) (sa_cons (s_var 4) (sa_cons (s_var 1) sa_nil))) (s_in (hu65 hr) (s_var 1) (s_var 5))))))
    (ss_one (ss_ret s_bl))
    ss_nil)
    (ss_one (ss_if (sb_in (hu65 hr) (s_var 1) (s_var 5))
    (ss_cons (ss_expr (s_bmL PySem.F.slot_list_append PySem.F.type_list_append mt_append o_append (s_var 3) (sa_cons (s_var 4) sa_nil)))
    (ss_one (ss_if (sb_cmp (op_neD hr.units) o_ne (s_callB (cr_sortedB rfl (hu80 hr)) o_sortedB T.n_sorted (by decide +kernel) (sa_cons (s_var 5) sa_nil)) (s_callB (cr_sortedB rfl (hu80 hr)) o_sortedB T.n_sorted (by decide +kernel) (sa_cons (s_var 2) sa_nil)))
    (ss_one (ss_ret s_bl))
    ss_nil)))
    ss_nil)))))
    (ss_cons (ss_if (sb_w (sw_or (sb_cmp (op_neD hr.units) o_ne (s_call (k_kin_many T) rfl (hr.mono (by first | decide | exact Nat.le_add_right_of_le (by decide) | omega)) T.g_kin_many T.F_kin_many.kp (b_kin_many T) (takes_of rfl rfl rfl rfl) (sa_cons (s_var 1) sa_nil)) (s_callB call_len4 o_len T.n_len (by decide +kernel) (sa_cons (s_var 3) sa_nil))) (sw_or1 (sb_cmp (op_neD hr.units) o_ne (s_lc (own := [("_law_at", 6)]) rfl sc_law_right.nd (si_range1 T.n_range (sa_cons (s_callB call_len4 o_len T.n_len (by decide +kernel) (sa_cons (s_var 3) sa_nil)) sa_nil)) (blkOk_by (own := [("_law_at", 6)]) (N := N_law_right) (sc := defScope st_law_right) (by decide +kernel)) (by decide) (fun _ _ _ _ _ => (sg_name (i := 6) sc_law_right.nd)) (fun _ _ _ _ _ => sif_nil) (fun _ _ _ _ _ => (s_call (k_kin_at T) rfl (hr.mono (by first | decide | exact Nat.le_add_right_of_le (by decide) | omega)) T.g_kin_at T.F_kin_at.kp (b_kin_at T) takes0 (sa_cons (s_var 1) (sa_cons (s_var 6) sa_nil))))) (s_var 3)))))
    (ss_one (ss_ret s_bl))
    ss_nil)
    (ss_cons (ss_set (i := 7) sc_law_right.nd (s_call (k_law_net_of T) rfl (hr.mono (by first | decide | exact Nat.le_add_right_of_le (by decide) | omega)) T.g_law_net_of T.F_law_net_of.kp (b_law_net_of T) (takes_of rfl rfl rfl rfl) (sa_cons (s_var 0) (sa_cons (s_callB call_len4 o_len T.n_len (by decide +kernel) (sa_cons (s_var 1) sa_nil)) (sa_cons (s_call (k_law_take T 4) rfl (hr.mono (by first | decide | exact Nat.le_add_right_of_le (by decide) | omega)) T.g_law_take T.F_law_take.kp (b_law_take T) (takes_of rfl rfl rfl rfl) (sa_cons (s_var 0) (sa_cons s_int sa_nil))) sa_nil)))))
    (ss_one (ss_ret (s_cmp (op_eqD hr.units) o_eq (s_call (k_are_kin T) rfl (hr.mono (by first | decide | exact Nat.le_add_right_of_le (by decide) | omega)) T.g_are_kin T.F_are_kin.kp (b_are_kin T) (takes_of rfl rfl rfl rfl) (sa_cons (s_var 1) (sa_cons (s_var 7) sa_nil))) (s_in (hu65 hr) (s_var 7) (s_var 3))))))))))
theorem b_law (T : Tx K mg) : Binds K T.d_law ["_law_script"] [] := T.F_law.binds fun _ _ _ _ _ _ us hl => match us, hl with | [_], _ => rfl
theorem k_law {P : Program} {w : World} {base : Heap} (T : Tx K mg) : FnOk P w K mg base (L2.CX P w) 9 T.f_law T.d_law ["_law_script"] (spF K mg 1 M_law) :=
  fn_ok T.F_law sc_law rfl fun cdv A outer s H E hr =>
    (ss_one (ss_ret (s_callB (cr_all rfl) o_all T.n_all (by decide +kernel) (sa_cons (s_lc (own := [("_law_k", 1)]) rfl sc_law.nd (si_range1 T.n_range (sa_cons (s_op op_add4 o_add s_int (s_callB (call_min4 rfl hr.units) o_min T.n_min (by decide +kernel) (sa_cons s_int (sa_cons (s_callB call_len4 o_len T.n_len (by decide +kernel) (sa_cons (s_var 0) sa_nil)) sa_nil)))) sa_nil)) (blkOk_by (own := [("_law_k", 1)]) (N := N_law) (sc := defScope st_law) (by decide +kernel)) (by decide) (fun _ _ _ _ _ => (sg_name (i := 1) sc_law.nd)) (fun _ _ _ _ _ => sif_nil) (fun _ _ _ _ _ => (s_call (k_law_right T) rfl (hr.mono (by first | decide | exact Nat.le_add_right_of_le (by decide) | omega)) T.g_law_right T.F_law_right.kp (b_law_right T) takes0 (sa_cons (s_call (k_law_box T) rfl (hr.mono (by first | decide | exact Nat.le_add_right_of_le (by decide) | omega)) T.g_law_box T.F_law_box.kp (b_law_box T) takes0 (sa_cons (s_var 0) (sa_cons (s_var 1) sa_nil))) sa_nil)))) sa_nil))))
end
/-! ### the pure readings -/
noncomputable def q_look_size : List D → FO := qFn 0 (qIfS (qB (q2 (qL (qCons (qVar 0) qNil) gLen) (qL (qCons (qVar 1) qNil) gLen) gNe))
  (qRaise "OtherSize" "size" (qL (qCons (qVar 1) qNil) gLen))
  qNext)
noncomputable def q_way_of : List D → FO := qFn 2 (qSeq (qPar [2, 3] (qCons qNewK (qCons (q2 (qVar 0) (qVar 1) gSub1) qNil)))
  (qSeq (qWhile (qB (q2 (qVar 3) (qVar 2) gNotIn))
  (qSeq (qPut 2 (qVar 3) (qC (.bl true)))
  (qSet 3 (q2 (qVar 0) (qVar 3) gSub1))))
  (qRet (qL (qCons (qVar 2) qNil) gListOf))))
noncomputable def q_lap_from : List D → FO := qFn 2 (qSeq (qPar [2, 3] (qCons (qL (qCons (qVar 1) qNil) gList) (qCons (q2 (qVar 0) (qVar 1) gSub1) qNil)))
  (qSeq (qWhile (qB (q2 (qVar 3) (qVar 1) gNe))
  (qSeq (qWS 2 (qCons (qVar 3) qNil) gAppend)
  (qSet 3 (q2 (qVar 0) (qVar 3) gSub1))))
  (qRet (qL (qCons (qVar 2) qNil) gTupOf))))
noncomputable def q_ring_at : List D → FO := qFn 0 (qRet (qCall 2 false true (qCons (qVar 0) (qCons (qL (qCons (qCall 2 false true (qCons (qVar 0) (qCons (q2 (qCall 2 false true (qCons (qVar 0) (qCons (qVar 1) qNil)) q_way_of) (q1 (qC (.int 1)) gNeg) gSub1) qNil)) q_lap_from) qNil) gMin) qNil)) q_lap_from))
noncomputable def q_ring_members : List D → FO := qFn 3 (qSeq (qSet 1 (q1 (qL (qCons (qVar 0) qNil) gLen) gListRg1))
  (qSeq (qFor (qiRg qrng1 (qCons (qL (qCons (qVar 0) qNil) gLen) qNil)) (qNm 2)
  (qSet 1 (qSSc (qiOf (qVar 1)) (qNm 3) qYes (q2 (qVar 0) (qVar 3) gSub1) [3])))
  (qRet (qVar 1))))
noncomputable def q_rings : List D → FO := qFn 1 (qRet (qSSc (qiOf (qCall 1 false false (qCons (qVar 0) qNil) q_ring_members)) (qNm 1) qYes (qCall 2 false true (qCons (qVar 0) (qCons (qVar 1) qNil)) q_ring_at) [1]))
noncomputable def q_choices : List D → FO := qFn 5 (qSeq (qPar [1, 2] (qCons (qCall 1 false false (qCons (qVar 0) qNil) q_ring_members) (qCons (qL qNil gList) qNil)))
  (qSeq (qFor (qiSt qenmA (qCons (qVar 0) qNil)) (qTp 2 (qCn (qNm 3) (qCn (qNm 4) qNl)))
  (qSeq (qSet 5 (qAnd (q2 (qVar 3) (qVar 1) gNotIn) (q2 (qVar 4) (qVar 1) gIn)))
  (qWS 2 (qCons (qIf (qT (qVar 5)) (qL (qCons (qCall 2 false true (qCons (qVar 0) (qCons (qVar 4) qNil)) q_ring_at) qNil) gSortT) (qL (qCons (qVar 4) qNil) gList)) qNil) gAppend)))
  (qRet (qVar 2))))
noncomputable def q_are_kin : List D → FO := qFn 2 (qSeq (qDrop (qCall 2 false true (qCons (qVar 0) (qCons (qVar 1) qNil)) q_look_size))
  (qSeq (qIfS (qB (q2 (qCall 1 false true (qCons (qVar 0) qNil) q_rings) (qCall 1 false true (qCons (qVar 1) qNil) q_rings) gNe))
  (qRet (qC (.bl false)))
  qNext)
  (qRet (qL (qCons (qLc0 (qiSt qzipM (qCons (qVar 1) (qCons (qCall 1 false true (qCons (qVar 0) qNil) q_choices) qNil))) (qTp 2 (qCn (qNm 2) (qCn (qNm 3) qNl))) qYes (q2 (qVar 2) (qVar 3) gIn) [2, 3]) qNil) gAll))))
noncomputable def q_kin_many : List D → FO := qFn 2 (qSeq (qSet 1 (qC (.int 1)))
  (qSeq (qFor (qiOf (qCall 1 false true (qCons (qVar 0) qNil) q_choices)) (qNm 2)
  (qAug 1 gMulJ (qL (qCons (qVar 2) qNil) gLen)))
  (qRet (qVar 1))))
noncomputable def q_kin_at : List D → FO := qFn 4 (qSeq (qIfS (qbNot (qB (qChain (qC (.int 0)) (qVar 1) (qCall 1 false false (qCons (qVar 0) qNil) q_kin_many) gLe gLt)))
  (qRaise "NoNumber" "number" (qVar 1))
  qNext)
  (qSeq (qPar [2, 3] (qCons (qVar 1) (qCons (qL qNil gList) qNil)))
  (qSeq (qFor (qiOf (q1 (qCall 1 false true (qCons (qVar 0) qNil) q_choices) gRevL)) (qNm 4)
  (qSeq (qAsg (qTp 2 (qCn (qNm 2) (qCn (qNm 5) qNl))) (qL (qCons (qVar 2) (qCons (qL (qCons (qVar 4) qNil) gLen) qNil)) gDivmod))
  (qWS 3 (qCons (q2 (qVar 4) (qVar 5) gSub1) qNil) gAppend)))
  (qRet (qL (qCons (q1 (qVar 3) gRevL) qNil) gTupOf)))))
noncomputable def q_law_take : Nat → List D → FO
  | 0 => fun _ => .fail
  | d + 1 => qFnB 2 (qSeq (qIfS (qB (q2 (q2 (qVar 0) (qC (.int 0)) gSub1) (qC (.int 0)) gGt))
  (qSeq (qSet 2 (q2 (q2 (qVar 0) (qC (.int 0)) gSub1) (qVar 1) gMod))
  (qSeq (qPut 0 (qC (.int 0)) (q2 (q2 (qVar 0) (qC (.int 0)) gSub1) (qVar 1) gDiv))
  (qRet (qVar 2))))
  qNext)
  (qSeq (qIfS (qB (q2 (qVar 1) (q2 (qC (.int 10)) (qC (.int 7)) gPow) gGt))
  (qRet (q2 (q2 (qCallB 2 false false 0 (qCons (q2 (qC (.int 10)) (qC (.int 7)) gPow) qNil) (q_law_take d)) (q2 (q2 (qC (.int 10)) (qC (.int 7)) gPow) (qCallB 2 false false 0 (qCons (q2 (q2 (q2 (qVar 1) (qC (.int 1)) gSub) (q2 (qC (.int 10)) (qC (.int 7)) gPow) gDiv) (qC (.int 1)) gAdd) qNil) (q_law_take d)) gMul) gAdd) (qVar 1) gMod))
  qNext)
  (qSeq (qPut 0 (qC (.int 2)) (q2 (q2 (qVar 0) (qC (.int 2)) gSub1) (qC (.int 1)) gAdd))
  (qSeq (qSet 3 (q2 (q2 (q2 (q2 (qVar 0) (qC (.int 1)) gSub1) (q2 (qC (.int 48271)) (q2 (qVar 0) (qC (.int 2)) gSub1) gMul) gAdd) (qC (.int 5)) gPow) (qC (.int 2147483647)) gMod))
  (qRet (q2 (q2 (q2 (q2 (q2 (qVar 3) (q2 (q2 (qVar 3) (qC (.int 30011)) gMod) (qC (.int 7)) gAdd) gMul) (q2 (q2 (qVar 0) (qC (.int 2)) gSub1) (qC (.int 7919)) gMul) gAdd) (qC (.int 2147483629)) gMod) (qC (.int 64)) gDiv) (qVar 1) gMod))))))
noncomputable def q_law_strewn : List D → FO := qFnB 3 (qSeq (qPar [2, 3] (qCons (qL (qCons (qVar 1) qNil) gListOf) (qCons (qL qNil gList) qNil)))
  (qSeq (qFor (qiRg qrng1 (qCons (qL (qCons (qVar 2) qNil) gLen) qNil)) (qNm 4)
  (qWS 3 (qCons (qW 2 (qCons (qCallB 2 false false 0 (qCons (qL (qCons (qVar 2) qNil) gLen) qNil) (q_law_take 4)) qNil) gPop) qNil) gAppend))
  (qRet (qVar 3))))
noncomputable def q_law_net_of : List D → FO := qFnB 5 (qSeq (qSet 3 (qCallB 2 false true 0 (qCons (q1 (qVar 1) gListRg1) qNil) q_law_strewn))
  (qSeq (qSet 4 (q2 (qL (qCons (qC (.int 0)) (qCons (qVar 1) (qCons (qC (.int 1)) (qCons (q2 (qC (.int 1)) (qCallB 2 false false 0 (qCons (qVar 1) qNil) (q_law_take 4)) gAdd) (qCons (qVar 1) (qCons (qC (.int 1)) qNil)))))) gList) (qVar 2) gSub1))
  (qSeq (qIfS (qB (q2 (qVar 2) (qC (.int 4)) gEq))
  (qRet (qL (qCons (qVar 3) qNil) gTupOf))
  qNext)
  (qSeq (qSetR 5 (q2 (qL (qCons (qC (.int 0)) qNil) gList) (qVar 1) gMul))
  (qSeq (qFor (qiSt qenm (qCons (qVar 3) qNil)) (qTp 2 (qCn (qNm 6) (qCn (qNm 7) qNl)))
  (qIfS (qB (q2 (qVar 2) (qC (.int 0)) gEq))
  (qPut 5 (qVar 7) (qCallB 2 false false 0 (qCons (qVar 1) qNil) (q_law_take 4)))
  (qIfS (qB (q2 (qVar 6) (qVar 4) gLt))
  (qPut 5 (qVar 7) (q2 (qVar 3) (q2 (q2 (qVar 6) (qC (.int 1)) gAdd) (qVar 4) gMod) gSub1))
  (qPut 5 (qVar 7) (qIf (qB (q2 (qVar 2) (qC (.int 5)) gEq)) (q2 (qVar 3) (q2 (qVar 6) (qC (.int 1)) gSub) gSub1) (q2 (qVar 3) (qCallB 2 false false 0 (qCons (qVar 6) qNil) (q_law_take 4)) gSub1))))))
  (qRet (qL (qCons (qVar 5) qNil) gTupOf)))))))
noncomputable def q_law_any_net : List D → FO := qFnB 0 (qRet (qCallB 3 false true 0 (qCons (q2 (qC (.int 1)) (qCallB 2 false false 0 (qCons (qVar 1) qNil) (q_law_take 4)) gAdd) (qCons (qCallB 2 false false 0 (qCons (qC (.int 6)) qNil) (q_law_take 4)) qNil)) q_law_net_of))
noncomputable def q_law_looked : List D → FO := qFn 0 (qRet (q2 (q2 (qCut (qVar 0) (qC .non) (qOnly (qVar 1))) (qL (qCons (q2 (qVar 0) (q2 (qVar 0) (qVar 1) gSub1) gSub1) qNil) gTup) gAdd) (qCut (qVar 0) (qOnly (q2 (qVar 1) (qC (.int 1)) gAdd)) (qC .non)) gAdd))
noncomputable def q_law_futures : List D → FO := qFn 7 (qSeq (qPar [1, 2, 3] (qCons (qDict1T (qVar 0) (qC (.int 0))) (qCons (qL (qCons (qVar 0) qNil) gList) (qCons (qC (.int 0)) qNil))))
  (qSeq (qWhile (qB (q2 (qVar 2) (qL qNil gList) gNe))
  (qSeq (qPar [4, 3] (qCons (qL qNil gList) (qCons (q2 (qVar 3) (qC (.int 1)) gAdd) qNil)))
  (qSeq (qFor (qiOf (qVar 2)) (qNm 5)
  (qFor (qiRg qrng1 (qCons (qL (qCons (qVar 5) qNil) gLen) qNil)) (qNm 6)
  (qSeq (qSet 7 (qCall 2 false true (qCons (qVar 5) (qCons (qVar 6) qNil)) q_law_looked))
  (qIfS (qB (q2 (qVar 7) (qVar 1) gNotIn))
  (qSeq (qPut 1 (qVar 7) (qVar 3))
  (qWS 4 (qCons (qVar 7) qNil) gAppend))
  qNext))))
  (qGive 2 4))))
  (qRet (qVar 1))))
noncomputable def q_law_right : List D → FO := qFnB 7 (qSeq (qSet 1 (qCallB 2 false true 0 (qCons (qC (.int 4)) qNil) q_law_any_net))
  (qSeq (qPar [2, 3] (qCons (qCall 1 false true (qCons (qVar 1) qNil) q_law_futures) (qCons (qL qNil gList) qNil)))
  (qSeq (qFor (qiOf (qL (qCons (qVar 2) qNil) gSortedB)) (qNm 4)
  (qSeq (qSet 5 (qCall 1 false true (qCons (qVar 4) qNil) q_law_futures))
  (qSeq (qIfS (qbOr (qB (q2 (qCall 2 false true (qCons (qVar 1) (qCons (qVar 4) qNil)) q_are_kin) (q2 (qVar 1) (qVar 5) gIn) gNe)) (qB (q2 (qCall 2 false true (qCons (qVar 4) (qCons (qVar 1) qNil)) q_are_kin) (q2 (qVar 1) (qVar 5) gIn) gNe)))
  (qRet (qC (.bl false)))
  qNext)
  (qIfS (qB (q2 (qVar 1) (qVar 5) gIn))
  (qSeq (qWS 3 (qCons (qVar 4) qNil) gAppend)
  (qIfS (qB (q2 (qL (qCons (qVar 5) qNil) gSortedB) (qL (qCons (qVar 2) qNil) gSortedB) gNe))
  (qRet (qC (.bl false)))
  qNext))
  qNext))))
  (qSeq (qIfS (qbOr (qB (q2 (qCall 1 false false (qCons (qVar 1) qNil) q_kin_many) (qL (qCons (qVar 3) qNil) gLen) gNe)) (qB (q2 (qLc0 (qiRg qrng1 (qCons (qL (qCons (qVar 3) qNil) gLen) qNil)) (qNm 6) qYes (qCall 2 false true (qCons (qVar 1) (qCons (qVar 6) qNil)) q_kin_at) [6]) (qVar 3) gNe)))
  (qRet (qC (.bl false)))
  qNext)
  (qSeq (qSet 7 (qCallB 3 false true 0 (qCons (qL (qCons (qVar 1) qNil) gLen) (qCons (qCallB 2 false false 0 (qCons (qC (.int 6)) qNil) (q_law_take 4)) qNil)) q_law_net_of))
  (qRet (q2 (qCall 2 false true (qCons (qVar 1) (qCons (qVar 7) qNil)) q_are_kin) (q2 (qVar 7) (qVar 3) gIn) gEq)))))))
theorem s_look_size : FQ 2 true M_look_size q_look_size := fq_fn (sh := [.val, .val])
    (ls_if (lb_B (le_rdN (le_2 og_ne (le_rdN (le_L og_len (ll_cons (le_rdV (le_var 0)) (ll_nil (k := .rd []))))) (le_rdN (le_L og_len (ll_cons (le_rdV (le_var 1)) (ll_nil (k := .rd []))))))))
    (ls_raise (c := "OtherSize") (f := "size") (le_L og_len (ll_cons (le_rdV (le_var 1)) (ll_nil (k := .rd [])))))
    ls_next)
theorem s_way_of : FQ 2 true M_way_of q_way_of := fq_fn (sh := [.val, .val, .root, .val])
    (ls_seq (ls_par (ss := [.root, .val]) (lp_cons le_newK (lp_cons (le_2 og_sub1 (le_rdV (le_var 0)) (le_rdV (le_var 1))) lp_nil)))
    (ls_seq (ls_while (lb_B (le_rdN (le_2 og_notin (le_rdV (le_var 3)) (le_varR 2))))
    (ls_seq (ls_put (i := 2) (le_rdV (le_var 3)) (le_bl true))
    (ls_set 3 (le_2 og_sub1 (le_rdV (le_var 0)) (le_rdV (le_var 3))))))
    (ls_ret (le_L og_listOf (ll_cons (le_varR 2) (ll_nil (k := .rd [])))))))
theorem s_lap_from : FQ 2 true M_lap_from q_lap_from := fq_fn (sh := [.val, .val, .root, .val])
    (ls_seq (ls_par (ss := [.root, .val]) (lp_cons (le_list (ll_consV (.inr rfl) (le_var 1) (ll_nil (k := .val)))) (lp_cons (le_2 og_sub1 (le_rdV (le_var 0)) (le_rdV (le_var 1))) lp_nil)))
    (ls_seq (ls_while (lb_B (le_rdN (le_2 og_ne (le_rdV (le_var 3)) (le_rdV (le_var 1)))))
    (ls_seq (ls_w (i := 2) wr_append (ll_consV (.inr rfl) (le_var 3) (ll_nil (k := .val))))
    (ls_set 3 (le_2 og_sub1 (le_rdV (le_var 0)) (le_rdV (le_var 3))))))
    (ls_ret (le_L og_tupOf (ll_cons (le_varR 2) (ll_nil (k := .rd [])))))))
theorem s_ring_at : FQ 2 true M_ring_at q_ring_at := fq_fn (sh := [.val, .val])
    (ls_ret (le_call (chk := false) s_lap_from (ll_cons (le_rdV (le_var 0)) (ll_cons (le_rdN (le_L og_min (ll_cons (le_rdN (le_call (chk := false) s_lap_from (ll_cons (le_rdV (le_var 0)) (ll_cons (le_rdV (le_2 og_sub1 (le_rdN (le_call (chk := false) s_way_of (ll_cons (le_rdV (le_var 0)) (ll_cons (le_rdV (le_var 1)) (ll_nil (k := .rd [])))))) (le_rdN (le_1 og_neg (le_rdN (le_int 1)))))) (ll_nil (k := .rd [])))))) (ll_nil (k := .rd []))))) (ll_nil (k := .rd []))))))
theorem s_ring_members : FQ 1 false M_ring_members q_ring_members := fq_fn (sh := [.val, .val, .val, .val])
    (ls_seq (ls_set 1 (le_1 og_listRg1 (le_rdN (le_L og_len (ll_cons (le_rdV (le_var 0)) (ll_nil (k := .rd [])))))))
    (ls_seq (ls_for (li_rg rg1 (ll_cons (le_rdN (le_L og_len (ll_cons (le_rdV (le_var 0)) (ll_nil (k := .rd []))))) (ll_nil (k := .rd [])))) (lg_name 2)
    (ls_set 1 (le_ssc0 (ws := [3]) (li_of (le_rdV (le_var 1))) (lg_name 3) lb_yes (le_2 og_sub1 (le_rdV (le_var 0)) (le_rdV (le_var 3))))))
    (ls_ret (le_var 1))))
theorem s_rings : FQ 1 true M_rings q_rings := fq_fn (sh := [.val, .val])
    (ls_ret (le_ssc0 (ws := [1]) (li_of (le_rdV (le_call (chk := false) s_ring_members (ll_cons (le_rdV (le_var 0)) (ll_nil (k := .rd [])))))) (lg_name 1) lb_yes (le_call (chk := false) s_ring_at (ll_cons (le_rdV (le_var 0)) (ll_cons (le_rdV (le_var 1)) (ll_nil (k := .rd [])))))))
theorem s_choices : FQ 1 true M_choices q_choices := fq_fn (sh := [.val, .val, .root, .val, .val, .val])
    (ls_seq (ls_par (ss := [.val, .root]) (lp_cons (le_call (chk := false) s_ring_members (ll_cons (le_rdV (le_var 0)) (ll_nil (k := .rd [])))) (lp_cons (le_list (ll_nil (k := .val))) lp_nil)))
    (ls_seq (ls_for (li_st st_enmA (ll_cons (le_rdV (le_var 0)) (ll_nil (k := .rd [])))) (lg_tup (lgs_cons (lg_name 3) (lgs_cons (lg_name 4) lgs_nil)))
    (ls_seq (ls_set 5 (le_and (le_rdN (le_2 og_notin (le_rdV (le_var 3)) (le_rdV (le_var 1)))) (le_2 og_in (le_rdV (le_var 4)) (le_rdV (le_var 1)))))
    (ls_w (i := 2) wr_append (ll_consV (.inl rfl) (le_if (lb_T (le_rdV (le_var 5))) (le_L og_sortT (ll_cons (le_rdN (le_call (chk := false) s_ring_at (ll_cons (le_rdV (le_var 0)) (ll_cons (le_rdV (le_var 4)) (ll_nil (k := .rd [])))))) (ll_nil (k := .rd [])))) (le_list (ll_consV (.inr rfl) (le_var 4) (ll_nil (k := .val))))) (ll_nil (k := .val))))))
    (ls_retVar 2)))
theorem s_are_kin : FQ 2 true M_are_kin q_are_kin := fq_fn (sh := [.val, .val, .val, .val])
    (ls_seq (ls_drop (le_call (chk := false) s_look_size (ll_cons (le_rdV (le_var 0)) (ll_cons (le_rdV (le_var 1)) (ll_nil (k := .rd []))))))
    (ls_seq (ls_if (lb_B (le_rdN (le_2 og_ne (le_rdN (le_call (chk := false) s_rings (ll_cons (le_rdV (le_var 0)) (ll_nil (k := .rd []))))) (le_rdN (le_call (chk := false) s_rings (ll_cons (le_rdV (le_var 1)) (ll_nil (k := .rd []))))))))
    (ls_ret (le_bl false))
    ls_next)
    (ls_ret (le_L og_all (ll_cons (le_rdN (le_lc0 (ws := [2, 3]) (li_st st_zipM (ll_cons (le_rdV (le_var 1)) (ll_cons (le_rdN (le_call (chk := false) s_choices (ll_cons (le_rdV (le_var 0)) (ll_nil (k := .rd []))))) (ll_nil (k := .rd []))))) (lg_tup (lgs_cons (lg_name 2) (lgs_cons (lg_name 3) lgs_nil))) lb_yes (le_2 og_in (le_rdV (le_var 2)) (le_rdV (le_var 3))))) (ll_nil (k := .rd [])))))))
theorem s_kin_many : FQ 1 false M_kin_many q_kin_many := fq_fn (sh := [.val, .val, .val])
    (ls_seq (ls_set 1 (le_int 1))
    (ls_seq (ls_for (li_of (le_rdN (le_call (chk := false) s_choices (ll_cons (le_rdV (le_var 0)) (ll_nil (k := .rd [])))))) (lg_name 2)
    (ls_aug 1 og_mulJ (le_L og_len (ll_cons (le_rdV (le_var 2)) (ll_nil (k := .rd []))))))
    (ls_ret (le_var 1))))
theorem s_kin_at : FQ 2 true M_kin_at q_kin_at := fq_fn (sh := [.val, .val, .val, .root, .val, .val])
    (ls_seq (ls_if (lb_not (lb_B (le_rdN (le_chain og_cmp og_cmp (le_rdN (le_int 0)) (le_rdV (le_var 1)) (le_rdV (le_call (chk := false) s_kin_many (ll_cons (le_rdV (le_var 0)) (ll_nil (k := .rd [])))))))))
    (ls_raise (c := "NoNumber") (f := "number") (le_var 1))
    ls_next)
    (ls_seq (ls_par (ss := [.val, .root]) (lp_cons (le_var 1) (lp_cons (le_list (ll_nil (k := .val))) lp_nil)))
    (ls_seq (ls_for (li_of (le_rdN (le_1 og_revL (le_rdN (le_call (chk := false) s_choices (ll_cons (le_rdV (le_var 0)) (ll_nil (k := .rd [])))))))) (lg_name 4)
    (ls_seq (ls_asg (le_L og_divmod (ll_cons (le_rdV (le_var 2)) (ll_cons (le_rdN (le_L og_len (ll_cons (le_rdV (le_var 4)) (ll_nil (k := .rd []))))) (ll_nil (k := .rd []))))) (lg_tup (lgs_cons (lg_name 2) (lgs_cons (lg_name 5) lgs_nil))))
    (ls_w (i := 3) wr_append (ll_consV (.inr rfl) (le_2 og_sub1 (le_rdV (le_var 4)) (le_rdV (le_var 5))) (ll_nil (k := .val))))))
    (ls_ret (le_L og_tupOf (ll_cons (le_rdN (le_1 og_revL (le_varR 3))) (ll_nil (k := .rd []))))))))
theorem s_law_take : ∀ d, FL 2 false (M_law_take d) (q_law_take d)
  | 0 => fl_never
  | d + 1 =>
    have ih : FL 2 false (M_law_take d) (q_law_take d) := s_law_take d
    fl_fn (sh := [.io, .val, .val, .val])
    (ls_seq (ls_if (lb_B (le_rdN (le_2 og_cmp (le_rdV (le_2 og_sub1 (le_varR 0) (le_rdN (le_int 0)))) (le_rdN (le_int 0)))))
    (ls_seq (ls_set 2 (le_2 og_mod (le_rdV (le_2 og_sub1 (le_varR 0) (le_rdN (le_int 0)))) (le_rdV (le_var 1))))
    (ls_seq (ls_put (i := 0) (le_rdN (le_int 0)) (le_2 og_div (le_rdV (le_2 og_sub1 (le_varR 0) (le_rdN (le_int 0)))) (le_rdV (le_var 1))))
    (ls_ret (le_var 2))))
    ls_next)
    (ls_seq (ls_if (lb_B (le_rdN (le_2 og_cmp (le_rdV (le_var 1)) (le_rdN (le_2 og_pow (le_rdN (le_int 10)) (le_rdN (le_int 7)))))))
    (ls_ret (le_2 og_mod (le_rdN (le_2 og_add (le_rdV (le_callB (i := 0) (chk := false) ih (ll_cons (le_rdN (le_2 og_pow (le_rdN (le_int 10)) (le_rdN (le_int 7)))) (ll_nil (k := .rd []))))) (le_rdN (le_2 og_mul (le_rdN (le_2 og_pow (le_rdN (le_int 10)) (le_rdN (le_int 7)))) (le_rdV (le_callB (i := 0) (chk := false) ih (ll_cons (le_rdN (le_2 og_add (le_rdN (le_2 og_div (le_rdN (le_2 og_sub (le_rdV (le_var 1)) (le_rdN (le_int 1)))) (le_rdN (le_2 og_pow (le_rdN (le_int 10)) (le_rdN (le_int 7)))))) (le_rdN (le_int 1)))) (ll_nil (k := .rd []))))))))) (le_rdV (le_var 1))))
    ls_next)
    (ls_seq (ls_put (i := 0) (le_rdN (le_int 2)) (le_2 og_add (le_rdV (le_2 og_sub1 (le_varR 0) (le_rdN (le_int 2)))) (le_rdN (le_int 1))))
    (ls_seq (ls_set 3 (le_2 og_mod (le_rdN (le_2 og_pow (le_rdN (le_2 og_add (le_rdV (le_2 og_sub1 (le_varR 0) (le_rdN (le_int 1)))) (le_rdN (le_2 og_mul (le_rdN (le_int 48271)) (le_rdV (le_2 og_sub1 (le_varR 0) (le_rdN (le_int 2)))))))) (le_rdN (le_int 5)))) (le_rdN (le_int 2147483647))))
    (ls_ret (le_2 og_mod (le_rdN (le_2 og_div (le_rdN (le_2 og_mod (le_rdN (le_2 og_add (le_rdN (le_2 og_mul (le_rdV (le_var 3)) (le_rdN (le_2 og_add (le_rdN (le_2 og_mod (le_rdV (le_var 3)) (le_rdN (le_int 30011)))) (le_rdN (le_int 7)))))) (le_rdN (le_2 og_mul (le_rdV (le_2 og_sub1 (le_varR 0) (le_rdN (le_int 2)))) (le_rdN (le_int 7919)))))) (le_rdN (le_int 2147483629)))) (le_rdN (le_int 64)))) (le_rdV (le_var 1))))))))
theorem s_law_strewn : FL 2 true M_law_strewn q_law_strewn := fl_fn (sh := [.io, .val, .root, .root, .val])
    (ls_seq (ls_par (ss := [.root, .root]) (lp_cons (le_L og_listOf (ll_cons (le_rdV (le_var 1)) (ll_nil (k := .rd [])))) (lp_cons (le_list (ll_nil (k := .val))) lp_nil)))
    (ls_seq (ls_for (li_rg rg1 (ll_cons (le_rdN (le_L og_len (ll_cons (le_varR 2) (ll_nil (k := .rd []))))) (ll_nil (k := .rd [])))) (lg_name 4)
    (ls_w (i := 3) wr_append (ll_consV (.inr rfl) (le_w (i := 2) wr_pop (ll_consV (.inr rfl) (le_callB (i := 0) (chk := false) (s_law_take 4) (ll_cons (le_rdN (le_L og_len (ll_cons (le_varR 2) (ll_nil (k := .rd []))))) (ll_nil (k := .rd [])))) (ll_nil (k := .val)))) (ll_nil (k := .val)))))
    (ls_retVar 3)))
theorem s_law_net_of : FL 3 true M_law_net_of q_law_net_of := fl_fn (sh := [.io, .val, .val, .val, .val, .root, .val, .val])
    (ls_seq (ls_set 3 (le_callB (i := 0) (chk := false) s_law_strewn (ll_cons (le_rdN (le_1 og_listRg1 (le_rdV (le_var 1)))) (ll_nil (k := .rd [])))))
    (ls_seq (ls_set 4 (le_2 og_sub1 (le_rdN (le_list (ll_consV (.inl rfl) (le_int 0) (ll_consV (.inr rfl) (le_var 1) (ll_consV (.inl rfl) (le_int 1) (ll_consV (.inl rfl) (le_2 og_add (le_rdN (le_int 1)) (le_rdV (le_callB (i := 0) (chk := false) (s_law_take 4) (ll_cons (le_rdV (le_var 1)) (ll_nil (k := .rd [])))))) (ll_consV (.inr rfl) (le_var 1) (ll_consV (.inl rfl) (le_int 1) (ll_nil (k := .val)))))))))) (le_rdV (le_var 2))))
    (ls_seq (ls_if (lb_B (le_rdN (le_2 og_eq (le_rdV (le_var 2)) (le_rdN (le_int 4)))))
    (ls_ret (le_L og_tupOf (ll_cons (le_rdV (le_var 3)) (ll_nil (k := .rd [])))))
    ls_next)
    (ls_seq (ls_setR 5 (le_2 og_mul (le_rdN (le_list (ll_consV (.inl rfl) (le_int 0) (ll_nil (k := .val))))) (le_rdV (le_var 1))))
    (ls_seq (ls_for (li_st st_enm (ll_cons (le_rdV (le_var 3)) (ll_nil (k := .rd [])))) (lg_tup (lgs_cons (lg_name 6) (lgs_cons (lg_name 7) lgs_nil)))
    (ls_if (lb_B (le_rdN (le_2 og_eq (le_rdV (le_var 2)) (le_rdN (le_int 0)))))
    (ls_put (i := 5) (le_rdV (le_var 7)) (le_callB (i := 0) (chk := false) (s_law_take 4) (ll_cons (le_rdV (le_var 1)) (ll_nil (k := .rd [])))))
    (ls_if (lb_B (le_rdN (le_2 og_cmp (le_rdV (le_var 6)) (le_rdV (le_var 4)))))
    (ls_put (i := 5) (le_rdV (le_var 7)) (le_2 og_sub1 (le_rdV (le_var 3)) (le_rdN (le_2 og_mod (le_rdN (le_2 og_add (le_rdV (le_var 6)) (le_rdN (le_int 1)))) (le_rdV (le_var 4))))))
    (ls_put (i := 5) (le_rdV (le_var 7)) (le_if (lb_B (le_rdN (le_2 og_eq (le_rdV (le_var 2)) (le_rdN (le_int 5))))) (le_2 og_sub1 (le_rdV (le_var 3)) (le_rdN (le_2 og_sub (le_rdV (le_var 6)) (le_rdN (le_int 1))))) (le_2 og_sub1 (le_rdV (le_var 3)) (le_rdV (le_callB (i := 0) (chk := false) (s_law_take 4) (ll_cons (le_rdV (le_var 6)) (ll_nil (k := .rd [])))))))))))
    (ls_ret (le_L og_tupOf (ll_cons (le_varR 5) (ll_nil (k := .rd []))))))))))
theorem s_law_any_net : FL 2 true M_law_any_net q_law_any_net := fl_fn (sh := [.io, .val])
    (ls_ret (le_callB (i := 0) (chk := false) s_law_net_of (ll_cons (le_rdN (le_2 og_add (le_rdN (le_int 1)) (le_rdV (le_callB (i := 0) (chk := false) (s_law_take 4) (ll_cons (le_rdV (le_var 1)) (ll_nil (k := .rd []))))))) (ll_cons (le_rdV (le_callB (i := 0) (chk := false) (s_law_take 4) (ll_cons (le_rdN (le_int 6)) (ll_nil (k := .rd []))))) (ll_nil (k := .rd []))))))
theorem s_law_looked : FQ 2 true M_law_looked q_law_looked := fq_fn (sh := [.val, .val])
    (ls_ret (le_2 og_add (le_rdN (le_2 og_add (le_rdN (le_cut (le_rdV (le_var 0)) le_non (le_only (le_rdV (le_var 1))))) (le_rdN (le_tup (ll_consV (.inr rfl) (le_2 og_sub1 (le_rdV (le_var 0)) (le_rdV (le_2 og_sub1 (le_rdV (le_var 0)) (le_rdV (le_var 1))))) (ll_nil (k := .val))))))) (le_rdN (le_cut (le_rdV (le_var 0)) (le_only (le_rdN (le_2 og_add (le_rdV (le_var 1)) (le_rdN (le_int 1))))) le_non))))
theorem s_law_futures : FQ 1 true M_law_futures q_law_futures := fq_fn (sh := [.val, .root, .val, .val, .root, .val, .val, .val])
    (ls_seq (ls_par3 (ss := [.root, .val, .val]) (lp_cons (le_dict1T (le_rdV (le_var 0)) (le_int 0)) (lp_cons (le_list (ll_consV (.inr rfl) (le_var 0) (ll_nil (k := .val)))) (lp_cons (le_int 0) lp_nil))))
    (ls_seq (ls_while (lb_B (le_rdN (le_2 og_ne (le_rdV (le_var 2)) (le_rdN (le_list (ll_nil (k := .val)))))))
    (ls_seq (ls_par (ss := [.root, .val]) (lp_cons (le_list (ll_nil (k := .val))) (lp_cons (le_2 og_add (le_rdV (le_var 3)) (le_rdN (le_int 1))) lp_nil)))
    (ls_seq (ls_for (li_of (le_rdV (le_var 2))) (lg_name 5)
    (ls_for (li_rg rg1 (ll_cons (le_rdN (le_L og_len (ll_cons (le_rdV (le_var 5)) (ll_nil (k := .rd []))))) (ll_nil (k := .rd [])))) (lg_name 6)
    (ls_seq (ls_set 7 (le_call (chk := false) s_law_looked (ll_cons (le_rdV (le_var 5)) (ll_cons (le_rdV (le_var 6)) (ll_nil (k := .rd []))))))
    (ls_if (lb_B (le_rdN (le_2 og_notin (le_rdV (le_var 7)) (le_varR 1))))
    (ls_seq (ls_put (i := 1) (le_rdV (le_var 7)) (le_var 3))
    (ls_w (i := 4) wr_append (ll_consV (.inr rfl) (le_var 7) (ll_nil (k := .val)))))
    ls_next))))
    (ls_give 2 4))))
    (ls_retVar 1)))
theorem s_law_right : FL 1 true M_law_right q_law_right := fl_fn (sh := [.io, .val, .val, .root, .val, .val, .val, .val])
    (ls_seq (ls_set 1 (le_callB (i := 0) (chk := false) s_law_any_net (ll_cons (le_rdN (le_int 4)) (ll_nil (k := .rd [])))))
    (ls_seq (ls_par (ss := [.val, .root]) (lp_cons (le_call (chk := false) s_law_futures (ll_cons (le_rdV (le_var 1)) (ll_nil (k := .rd [])))) (lp_cons (le_list (ll_nil (k := .val))) lp_nil)))
    (ls_seq (ls_for (li_of (le_rdN (le_L og_sortedB (ll_cons (le_rdV (le_var 2)) (ll_nil (k := .rd [])))))) (lg_name 4)
    (ls_seq (ls_set 5 (le_call (chk := false) s_law_futures (ll_cons (le_rdV (le_var 4)) (ll_nil (k := .rd [])))))
    (ls_seq (ls_if (lb_or (lb_B (le_rdN (le_2 og_ne (le_rdN (le_call (chk := false) s_are_kin (ll_cons (le_rdV (le_var 1)) (ll_cons (le_rdV (le_var 4)) (ll_nil (k := .rd [])))))) (le_rdN (le_2 og_in (le_rdV (le_var 1)) (le_rdV (le_var 5))))))) (lb_B (le_rdN (le_2 og_ne (le_rdN (le_call (chk := false) s_are_kin (ll_cons (le_rdV (le_var 4)) (ll_cons (le_rdV (le_var 1)) (ll_nil (k := .rd [])))))) (le_rdN (le_2 og_in (le_rdV (le_var 1)) (le_rdV (le_var 5))))))))
    (ls_ret (le_bl false))
    ls_next)
    (ls_if (lb_B (le_rdN (le_2 og_in (le_rdV (le_var 1)) (le_rdV (le_var 5)))))
    (ls_seq (ls_w (i := 3) wr_append (ll_consV (.inr rfl) (le_var 4) (ll_nil (k := .val))))
    (ls_if (lb_B (le_rdN (le_2 og_ne (le_rdN (le_L og_sortedB (ll_cons (le_rdV (le_var 5)) (ll_nil (k := .rd []))))) (le_rdN (le_L og_sortedB (ll_cons (le_rdV (le_var 2)) (ll_nil (k := .rd []))))))))
    (ls_ret (le_bl false))
    ls_next))
    ls_next))))
    (ls_seq (ls_if (lb_or (lb_B (le_rdN (le_2 og_ne (le_rdV (le_call (chk := false) s_kin_many (ll_cons (le_rdV (le_var 1)) (ll_nil (k := .rd []))))) (le_rdN (le_L og_len (ll_cons (le_varR 3) (ll_nil (k := .rd [])))))))) (lb_B (le_rdN (le_2 og_ne (le_rdN (le_lc0 (ws := [6]) (li_rg rg1 (ll_cons (le_rdN (le_L og_len (ll_cons (le_varR 3) (ll_nil (k := .rd []))))) (ll_nil (k := .rd [])))) (lg_name 6) lb_yes (le_call (chk := false) s_kin_at (ll_cons (le_rdV (le_var 1)) (ll_cons (le_rdV (le_var 6)) (ll_nil (k := .rd []))))))) (le_varR 3)))))
    (ls_ret (le_bl false))
    ls_next)
    (ls_seq (ls_set 7 (le_callB (i := 0) (chk := false) s_law_net_of (ll_cons (le_rdN (le_L og_len (ll_cons (le_rdV (le_var 1)) (ll_nil (k := .rd []))))) (ll_cons (le_rdV (le_callB (i := 0) (chk := false) (s_law_take 4) (ll_cons (le_rdN (le_int 6)) (ll_nil (k := .rd []))))) (ll_nil (k := .rd []))))))
    (ls_ret (le_2 og_eq (le_rdN (le_call (chk := false) s_are_kin (ll_cons (le_rdV (le_var 1)) (ll_cons (le_rdV (le_var 7)) (ll_nil (k := .rd [])))))) (le_rdN (le_2 og_in (le_rdV (le_var 7)) (le_varR 3))))))))))

theorem take_eq : ∀ d, q_law_take d = MP.Qtake 48271 30011 d
  | 0 => rfl
  | d + 1 => by unfold q_law_take MP.Qtake; rw [take_eq d]
theorem right_eq : q_law_right = MP.Qright39 (MP.Qtake 48271 30011 4) := by
  have e9 : q_way_of = MP.P_Qway := rfl
  have e10 : q_lap_from = MP.P_Qlap := rfl
  have e11 : q_ring_at = MP.P_Qring_at := by unfold q_ring_at MP.P_Qring_at; rw [e9, e10]
  have e12 : q_ring_members = MP.P_Qmembers := rfl
  have e13 : q_rings = MP.P_Qrings := by unfold q_rings MP.P_Qrings; rw [e12, e11]
  have f1 : q_look_size = MP.P_QlookS := rfl
  have g1 : q_choices = MP.P_Qchoices := by unfold q_choices MP.P_Qchoices; rw [e12, e11]
  have g2 : q_are_kin = MP.P_Qare_kin := by unfold q_are_kin MP.P_Qare_kin; rw [f1, e13, g1]
  have g3 : q_kin_many = MP.P_Qkin_many := by unfold q_kin_many MP.P_Qkin_many; rw [g1]
  have g5 : q_kin_at = MP.P_Qkin_at := by unfold q_kin_at MP.P_Qkin_at; rw [g1, g3]
  have e2 : q_law_strewn = MP.QstrewnB (MP.Qtake 48271 30011 4) := by unfold q_law_strewn MP.QstrewnB; rw [take_eq]
  have e3 : q_law_net_of = MP.Qnet (MP.Qtake 48271 30011 4) := by unfold q_law_net_of MP.Qnet; rw [e2, take_eq]
  have e4 : q_law_any_net = MP.Qany (MP.Qtake 48271 30011 4) := by unfold q_law_any_net MP.Qany; rw [e3, take_eq]
  have e5 : q_law_looked = MP.Qlooked := rfl
  have e6 : q_law_futures = MP.Qfut39 := by unfold q_law_futures MP.Qfut39; rw [e5]
  unfold q_law_right MP.Qright39
  rw [e4, e6, g2, g3, g5, e3, take_eq]
theorem law_eq : M_law = MP.MlawB (3 : Nat) M_law_right := by
  have e11 : M_law_box = MP.MboxB := rfl
  unfold M_law MP.MlawB
  rw [e11]
  rfl
theorem law_true : ∀ ns : List Int, ns.length ≤ 63 → ∃ S', M_law [.rol (ns.map PV.int)] [] = .ret (.bl true) S' := fun ns _ => by
  refine MP.true_of3 ?_
  rw [law_eq]
  have hR : MP.RightB M_law_right 1000 := MP.rightB_of s_law_right fun b c hb hc => by
    rw [right_eq]
    exact MP.right39_ok (MP.qtake_ok (by decide) (by decide) 3) hb hc
  exact MP.lawB_ok (most := 3) (by decide) (hR.mono (by decide)) ns

/-! ### the end -/
theorem all_mk {l : PySem.W.OpenLaw} {w : World} {K : PySem.W.Frag} {h : Heap} {mg : Str → Option Value} {fa : Addr} (X : K.In h) (G : h.Ns mainGlobals mg) (hfa : mg "law" = some (.ref fa))
    {f0 : Addr} {od0 an0 : Option Addr} {sl0 : Array (Option Value)} {oc0 kV0 dc0 pm0 cd0 ct0 : Value}
    (a0 : PySem.W.nsIn K mainGlobals "look_size" = some (some (.ref f0))) (l0 : K.lookup f0 = some ⟨oc0, od0, .func (PySem.W.fnOf "look_size" "look_size" (defArgs st_look_size) (defBody st_look_size) (defScope st_look_size) .none kV0 dc0 pm0 an0 cd0 ct0), sl0⟩) (c0 : PySem.W.codeIn K cd0 "look_size" = true) (k0 : PySem.W.keepIn K (.ref f0) = true)
    {f1 : Addr} {od1 an1 : Option Addr} {sl1 : Array (Option Value)} {oc1 kV1 dc1 pm1 cd1 ct1 : Value}
    (a1 : PySem.W.nsIn K mainGlobals "way_of" = some (some (.ref f1))) (l1 : K.lookup f1 = some ⟨oc1, od1, .func (PySem.W.fnOf "way_of" "way_of" (defArgs st_way_of) (defBody st_way_of) (defScope st_way_of) .none kV1 dc1 pm1 an1 cd1 ct1), sl1⟩) (c1 : PySem.W.codeIn K cd1 "way_of" = true) (k1 : PySem.W.keepIn K (.ref f1) = true)
    {f2 : Addr} {od2 an2 : Option Addr} {sl2 : Array (Option Value)} {oc2 kV2 dc2 pm2 cd2 ct2 : Value}
    (a2 : PySem.W.nsIn K mainGlobals "lap_from" = some (some (.ref f2))) (l2 : K.lookup f2 = some ⟨oc2, od2, .func (PySem.W.fnOf "lap_from" "lap_from" (defArgs st_lap_from) (defBody st_lap_from) (defScope st_lap_from) .none kV2 dc2 pm2 an2 cd2 ct2), sl2⟩) (c2 : PySem.W.codeIn K cd2 "lap_from" = true) (k2 : PySem.W.keepIn K (.ref f2) = true)
    {f3 : Addr} {od3 an3 : Option Addr} {sl3 : Array (Option Value)} {oc3 kV3 dc3 pm3 cd3 ct3 : Value}
    (a3 : PySem.W.nsIn K mainGlobals "ring_at" = some (some (.ref f3))) (l3 : K.lookup f3 = some ⟨oc3, od3, .func (PySem.W.fnOf "ring_at" "ring_at" (defArgs st_ring_at) (defBody st_ring_at) (defScope st_ring_at) .none kV3 dc3 pm3 an3 cd3 ct3), sl3⟩) (c3 : PySem.W.codeIn K cd3 "ring_at" = true) (k3 : PySem.W.keepIn K (.ref f3) = true)
    {f4 : Addr} {od4 an4 : Option Addr} {sl4 : Array (Option Value)} {oc4 kV4 dc4 pm4 cd4 ct4 : Value}
    (a4 : PySem.W.nsIn K mainGlobals "ring_members" = some (some (.ref f4))) (l4 : K.lookup f4 = some ⟨oc4, od4, .func (PySem.W.fnOf "ring_members" "ring_members" (defArgs st_ring_members) (defBody st_ring_members) (defScope st_ring_members) .none kV4 dc4 pm4 an4 cd4 ct4), sl4⟩) (c4 : PySem.W.codeIn K cd4 "ring_members" = true) (k4 : PySem.W.keepIn K (.ref f4) = true)
    {f5 : Addr} {od5 an5 : Option Addr} {sl5 : Array (Option Value)} {oc5 kV5 dc5 pm5 cd5 ct5 : Value}
    (a5 : PySem.W.nsIn K mainGlobals "rings" = some (some (.ref f5))) (l5 : K.lookup f5 = some ⟨oc5, od5, .func (PySem.W.fnOf "rings" "rings" (defArgs st_rings) (defBody st_rings) (defScope st_rings) .none kV5 dc5 pm5 an5 cd5 ct5), sl5⟩) (c5 : PySem.W.codeIn K cd5 "rings" = true) (k5 : PySem.W.keepIn K (.ref f5) = true)
    {f6 : Addr} {od6 an6 : Option Addr} {sl6 : Array (Option Value)} {oc6 kV6 dc6 pm6 cd6 ct6 : Value}
    (a6 : PySem.W.nsIn K mainGlobals "choices" = some (some (.ref f6))) (l6 : K.lookup f6 = some ⟨oc6, od6, .func (PySem.W.fnOf "choices" "choices" (defArgs st_choices) (defBody st_choices) (defScope st_choices) .none kV6 dc6 pm6 an6 cd6 ct6), sl6⟩) (c6 : PySem.W.codeIn K cd6 "choices" = true) (k6 : PySem.W.keepIn K (.ref f6) = true)
    {f7 : Addr} {od7 an7 : Option Addr} {sl7 : Array (Option Value)} {oc7 kV7 dc7 pm7 cd7 ct7 : Value}
    (a7 : PySem.W.nsIn K mainGlobals "are_kin" = some (some (.ref f7))) (l7 : K.lookup f7 = some ⟨oc7, od7, .func (PySem.W.fnOf "are_kin" "are_kin" (defArgs st_are_kin) (defBody st_are_kin) (defScope st_are_kin) .none kV7 dc7 pm7 an7 cd7 ct7), sl7⟩) (c7 : PySem.W.codeIn K cd7 "are_kin" = true) (k7 : PySem.W.keepIn K (.ref f7) = true)
    {f8 : Addr} {od8 an8 : Option Addr} {sl8 : Array (Option Value)} {oc8 kV8 dc8 pm8 cd8 ct8 : Value}
    (a8 : PySem.W.nsIn K mainGlobals "kin_many" = some (some (.ref f8))) (l8 : K.lookup f8 = some ⟨oc8, od8, .func (PySem.W.fnOf "kin_many" "kin_many" (defArgs st_kin_many) (defBody st_kin_many) (defScope st_kin_many) .none kV8 dc8 pm8 an8 cd8 ct8), sl8⟩) (c8 : PySem.W.codeIn K cd8 "kin_many" = true) (k8 : PySem.W.keepIn K (.ref f8) = true)
    {f9 : Addr} {od9 an9 : Option Addr} {sl9 : Array (Option Value)} {oc9 kV9 dc9 pm9 cd9 ct9 : Value}
    (a9 : PySem.W.nsIn K mainGlobals "kin_at" = some (some (.ref f9))) (l9 : K.lookup f9 = some ⟨oc9, od9, .func (PySem.W.fnOf "kin_at" "kin_at" (defArgs st_kin_at) (defBody st_kin_at) (defScope st_kin_at) .none kV9 dc9 pm9 an9 cd9 ct9), sl9⟩) (c9 : PySem.W.codeIn K cd9 "kin_at" = true) (k9 : PySem.W.keepIn K (.ref f9) = true)
    {f10 : Addr} {od10 an10 : Option Addr} {sl10 : Array (Option Value)} {oc10 kV10 dc10 pm10 cd10 ct10 : Value}
    (a10 : PySem.W.nsIn K mainGlobals "_law_box" = some (some (.ref f10))) (l10 : K.lookup f10 = some ⟨oc10, od10, .func (PySem.W.fnOf "_law_box" "_law_box" (defArgs st_law_box) (defBody st_law_box) (defScope st_law_box) .none kV10 dc10 pm10 an10 cd10 ct10), sl10⟩) (c10 : PySem.W.codeIn K cd10 "_law_box" = true) (k10 : PySem.W.keepIn K (.ref f10) = true)
    {f11 : Addr} {od11 an11 : Option Addr} {sl11 : Array (Option Value)} {oc11 kV11 dc11 pm11 cd11 ct11 : Value}
    (a11 : PySem.W.nsIn K mainGlobals "_law_take" = some (some (.ref f11))) (l11 : K.lookup f11 = some ⟨oc11, od11, .func (PySem.W.fnOf "_law_take" "_law_take" (defArgs st_law_take) (defBody st_law_take) (defScope st_law_take) .none kV11 dc11 pm11 an11 cd11 ct11), sl11⟩) (c11 : PySem.W.codeIn K cd11 "_law_take" = true) (k11 : PySem.W.keepIn K (.ref f11) = true)
    {f12 : Addr} {od12 an12 : Option Addr} {sl12 : Array (Option Value)} {oc12 kV12 dc12 pm12 cd12 ct12 : Value}
    (a12 : PySem.W.nsIn K mainGlobals "_law_strewn" = some (some (.ref f12))) (l12 : K.lookup f12 = some ⟨oc12, od12, .func (PySem.W.fnOf "_law_strewn" "_law_strewn" (defArgs st_law_strewn) (defBody st_law_strewn) (defScope st_law_strewn) .none kV12 dc12 pm12 an12 cd12 ct12), sl12⟩) (c12 : PySem.W.codeIn K cd12 "_law_strewn" = true) (k12 : PySem.W.keepIn K (.ref f12) = true)
    {f13 : Addr} {od13 an13 : Option Addr} {sl13 : Array (Option Value)} {oc13 kV13 dc13 pm13 cd13 ct13 : Value}
    (a13 : PySem.W.nsIn K mainGlobals "_law_net_of" = some (some (.ref f13))) (l13 : K.lookup f13 = some ⟨oc13, od13, .func (PySem.W.fnOf "_law_net_of" "_law_net_of" (defArgs st_law_net_of) (defBody st_law_net_of) (defScope st_law_net_of) .none kV13 dc13 pm13 an13 cd13 ct13), sl13⟩) (c13 : PySem.W.codeIn K cd13 "_law_net_of" = true) (k13 : PySem.W.keepIn K (.ref f13) = true)
    {f14 : Addr} {od14 an14 : Option Addr} {sl14 : Array (Option Value)} {oc14 kV14 dc14 pm14 cd14 ct14 : Value}
    (a14 : PySem.W.nsIn K mainGlobals "_law_any_net" = some (some (.ref f14))) (l14 : K.lookup f14 = some ⟨oc14, od14, .func (PySem.W.fnOf "_law_any_net" "_law_any_net" (defArgs st_law_any_net) (defBody st_law_any_net) (defScope st_law_any_net) .none kV14 dc14 pm14 an14 cd14 ct14), sl14⟩) (c14 : PySem.W.codeIn K cd14 "_law_any_net" = true) (k14 : PySem.W.keepIn K (.ref f14) = true)
    {f15 : Addr} {od15 an15 : Option Addr} {sl15 : Array (Option Value)} {oc15 kV15 dc15 pm15 cd15 ct15 : Value}
    (a15 : PySem.W.nsIn K mainGlobals "_law_looked" = some (some (.ref f15))) (l15 : K.lookup f15 = some ⟨oc15, od15, .func (PySem.W.fnOf "_law_looked" "_law_looked" (defArgs st_law_looked) (defBody st_law_looked) (defScope st_law_looked) .none kV15 dc15 pm15 an15 cd15 ct15), sl15⟩) (c15 : PySem.W.codeIn K cd15 "_law_looked" = true) (k15 : PySem.W.keepIn K (.ref f15) = true)
    {f16 : Addr} {od16 an16 : Option Addr} {sl16 : Array (Option Value)} {oc16 kV16 dc16 pm16 cd16 ct16 : Value}
    (a16 : PySem.W.nsIn K mainGlobals "_law_futures" = some (some (.ref f16))) (l16 : K.lookup f16 = some ⟨oc16, od16, .func (PySem.W.fnOf "_law_futures" "_law_futures" (defArgs st_law_futures) (defBody st_law_futures) (defScope st_law_futures) .none kV16 dc16 pm16 an16 cd16 ct16), sl16⟩) (c16 : PySem.W.codeIn K cd16 "_law_futures" = true) (k16 : PySem.W.keepIn K (.ref f16) = true)
    {f17 : Addr} {od17 an17 : Option Addr} {sl17 : Array (Option Value)} {oc17 kV17 dc17 pm17 cd17 ct17 : Value}
    (a17 : PySem.W.nsIn K mainGlobals "_law_right" = some (some (.ref f17))) (l17 : K.lookup f17 = some ⟨oc17, od17, .func (PySem.W.fnOf "_law_right" "_law_right" (defArgs st_law_right) (defBody st_law_right) (defScope st_law_right) .none kV17 dc17 pm17 an17 cd17 ct17), sl17⟩) (c17 : PySem.W.codeIn K cd17 "_law_right" = true) (k17 : PySem.W.keepIn K (.ref f17) = true)
    {f18 : Addr} {od18 an18 : Option Addr} {sl18 : Array (Option Value)} {oc18 kV18 dc18 pm18 cd18 ct18 : Value}
    (a18 : PySem.W.nsIn K mainGlobals "law" = some (some (.ref f18))) (l18 : K.lookup f18 = some ⟨oc18, od18, .func (PySem.W.fnOf "law" "law" (defArgs st_law) (defBody st_law) (defScope st_law) .none kV18 dc18 pm18 an18 cd18 ct18), sl18⟩) (c18 : PySem.W.codeIn K cd18 "law" = true) (k18 : PySem.W.keepIn K (.ref f18) = true)
    (z0 : PySem.W.nsIn K mainGlobals "LookupError" = some none)
    (z1 : PySem.W.nsIn K mainGlobals "ValueError" = some none)
    (z2 : PySem.W.nsIn K mainGlobals "abs" = some none)
    (z3 : PySem.W.nsIn K mainGlobals "all" = some none)
    (z4 : PySem.W.nsIn K mainGlobals "divmod" = some none)
    (z5 : PySem.W.nsIn K mainGlobals "enumerate" = some none)
    (z6 : PySem.W.nsIn K mainGlobals "int" = some none)
    (z7 : PySem.W.nsIn K mainGlobals "len" = some none)
    (z8 : PySem.W.nsIn K mainGlobals "list" = some none)
    (z9 : PySem.W.nsIn K mainGlobals "min" = some none)
    (z10 : PySem.W.nsIn K mainGlobals "range" = some none)
    (z11 : PySem.W.nsIn K mainGlobals "sorted" = some none)
    (z12 : PySem.W.nsIn K mainGlobals "tuple" = some none)
    (z13 : PySem.W.nsIn K mainGlobals "zip" = some none)
    (ehn : PySem.W.specialIn K (.builtin "object.__class__") "__get__" = some (some (.builtin "getset_descriptor.__get__")))
    (eht : PySem.W.takesIn K (.builtin "object.__class__") = some true)
    {C0 N0 fI0 : Addr} {nm0 q0 : Str} {bs0 sub0 : List Value} {sn0 : List Str} {ab0 : Bool} {col0 : Option Bool} {dd0 : Option Addr} {m00 m10 m20 m30 m50 : Option Value} {iod0 ian0 : Option Addr} {isl0 : Array (Option Value)} {ioc0 ikV0 idc0 ipm0 icd0 ict0 : Value}
    (eg0 : PySem.W.nsIn K mainGlobals "NoNumber" = some (some (.ref C0)))
    (ex0 : K.lookup C0 = some (excClassObj nm0 q0 C0 N0 bs0 bmLookupError true sn0 sub0 ab0 col0 dd0 m00 m10 m20 m30 m50 "LookupError.__new__"))
    (es0 : PySem.W.findIn K (.ref C0) "__setattr__" = some (some (.builtin "object.__setattr__")))
    (ek0 : PySem.W.keepIn K (.ref C0) = true)
    (en0 : PySem.W.findIn K (.ref C0) "number" = some none)
    (ei0 : PySem.W.findIn K (.ref C0) "__init__" = some (some (.ref fI0)))
    (et0 : PySem.W.typeIn K (.ref fI0) = some (.type "function"))
    (el0 : K.lookup fI0 = some ⟨ioc0, iod0, .func (PySem.W.fnOf "__init__" "NoNumber.__init__" (defArgs si_NoNumber) (defBody si_NoNumber) (defScope si_NoNumber) .none ikV0 idc0 ipm0 ian0 icd0 ict0), isl0⟩)
    (ec0 : PySem.W.codeIn K icd0 "NoNumber.__init__" = true)
    (eK0 : PySem.W.keepIn K (.ref fI0) = true)
    (eb0 : PySem.W.findCls K (.type "LookupError") (.type "type") "__init__" = some (.val (.builtin "LookupError.__init__")))
    (ra0 : PySem.W.findIn K (.ref C0) "__getattribute__" = some (some (.builtin "BaseException.__getattribute__")))
    (rb0 : PySem.W.findIn K (.ref C0) "__getattr__" = some none)
    (rc0 : PySem.W.subIn K (.ref C0) (.type "BaseException") = some true)
    (rd0 : PySem.W.hasDictIn K C0 = true)
    (re0 : PySem.W.findIn K (.ref C0) "__class__" = some (some (.builtin "object.__class__")))
    (rf0 : PySem.W.mroIn K C0 (.type "object") = some true)
    (rg0 : PySem.W.typeIn K (.ref C0) = some (.type "type"))
    (rh0 : PySem.W.subIn K (.ref C0) (.ref C0) = some true)
    {C1 N1 fI1 : Addr} {nm1 q1 : Str} {bs1 sub1 : List Value} {sn1 : List Str} {ab1 : Bool} {col1 : Option Bool} {dd1 : Option Addr} {m01 m11 m21 m31 m51 : Option Value} {iod1 ian1 : Option Addr} {isl1 : Array (Option Value)} {ioc1 ikV1 idc1 ipm1 icd1 ict1 : Value}
    (eg1 : PySem.W.nsIn K mainGlobals "OtherSize" = some (some (.ref C1)))
    (ex1 : K.lookup C1 = some (excClassObj nm1 q1 C1 N1 bs1 bmValueError true sn1 sub1 ab1 col1 dd1 m01 m11 m21 m31 m51 "ValueError.__new__"))
    (es1 : PySem.W.findIn K (.ref C1) "__setattr__" = some (some (.builtin "object.__setattr__")))
    (ek1 : PySem.W.keepIn K (.ref C1) = true)
    (en1 : PySem.W.findIn K (.ref C1) "size" = some none)
    (ei1 : PySem.W.findIn K (.ref C1) "__init__" = some (some (.ref fI1)))
    (et1 : PySem.W.typeIn K (.ref fI1) = some (.type "function"))
    (el1 : K.lookup fI1 = some ⟨ioc1, iod1, .func (PySem.W.fnOf "__init__" "OtherSize.__init__" (defArgs si_OtherSize) (defBody si_OtherSize) (defScope si_OtherSize) .none ikV1 idc1 ipm1 ian1 icd1 ict1), isl1⟩)
    (ec1 : PySem.W.codeIn K icd1 "OtherSize.__init__" = true)
    (eK1 : PySem.W.keepIn K (.ref fI1) = true)
    (eb1 : PySem.W.findCls K (.type "ValueError") (.type "type") "__init__" = some (.val (.builtin "ValueError.__init__")))
    (ra1 : PySem.W.findIn K (.ref C1) "__getattribute__" = some (some (.builtin "BaseException.__getattribute__")))
    (rb1 : PySem.W.findIn K (.ref C1) "__getattr__" = some none)
    (rc1 : PySem.W.subIn K (.ref C1) (.type "BaseException") = some true)
    (rd1 : PySem.W.hasDictIn K C1 = true)
    (re1 : PySem.W.findIn K (.ref C1) "__class__" = some (some (.builtin "object.__class__")))
    (rf1 : PySem.W.mroIn K C1 (.type "object") = some true)
    (rg1 : PySem.W.typeIn K (.ref C1) = some (.type "type"))
    (rh1 : PySem.W.subIn K (.ref C1) (.ref C1) = some true)
    : ∃ fd : FuncData, (∀ (s : Shared) (v : Value), BindsTo s fd ⟨[v], []⟩ [("_law_script", v)]) ∧ ∀ base : Heap, K.In base → base.Ns mainGlobals mg → FnOk l.prog w K mg base (L2.CX l.prog w) 9 fa fd ["_law_script"] (spL K M_law) := by
  have e := hfa.symm.trans (PySem.W.mg_of X G a18)
  cases e
  have T : { T : Tx K mg // T.f_law = fa ∧ T.d_law = PySem.W.fnOf "law" "law" (defArgs st_law) (defBody st_law) (defScope st_law) .none kV18 dc18 pm18 an18 cd18 ct18 } := ⟨{
    f_look_size := f0, d_look_size := _, F_look_size := fun_mk l0 c0 k0, g_look_size := PySem.W.mg_of X G a0,
    f_way_of := f1, d_way_of := _, F_way_of := fun_mk l1 c1 k1, g_way_of := PySem.W.mg_of X G a1,
    f_lap_from := f2, d_lap_from := _, F_lap_from := fun_mk l2 c2 k2, g_lap_from := PySem.W.mg_of X G a2,
    f_ring_at := f3, d_ring_at := _, F_ring_at := fun_mk l3 c3 k3, g_ring_at := PySem.W.mg_of X G a3,
    f_ring_members := f4, d_ring_members := _, F_ring_members := fun_mk l4 c4 k4, g_ring_members := PySem.W.mg_of X G a4,
    f_rings := f5, d_rings := _, F_rings := fun_mk l5 c5 k5, g_rings := PySem.W.mg_of X G a5,
    f_choices := f6, d_choices := _, F_choices := fun_mk l6 c6 k6, g_choices := PySem.W.mg_of X G a6,
    f_are_kin := f7, d_are_kin := _, F_are_kin := fun_mk l7 c7 k7, g_are_kin := PySem.W.mg_of X G a7,
    f_kin_many := f8, d_kin_many := _, F_kin_many := fun_mk l8 c8 k8, g_kin_many := PySem.W.mg_of X G a8,
    f_kin_at := f9, d_kin_at := _, F_kin_at := fun_mk l9 c9 k9, g_kin_at := PySem.W.mg_of X G a9,
    f_law_box := f10, d_law_box := _, F_law_box := fun_mk l10 c10 k10, g_law_box := PySem.W.mg_of X G a10,
    f_law_take := f11, d_law_take := _, F_law_take := fun_mk l11 c11 k11, g_law_take := PySem.W.mg_of X G a11,
    f_law_strewn := f12, d_law_strewn := _, F_law_strewn := fun_mk l12 c12 k12, g_law_strewn := PySem.W.mg_of X G a12,
    f_law_net_of := f13, d_law_net_of := _, F_law_net_of := fun_mk l13 c13 k13, g_law_net_of := PySem.W.mg_of X G a13,
    f_law_any_net := f14, d_law_any_net := _, F_law_any_net := fun_mk l14 c14 k14, g_law_any_net := PySem.W.mg_of X G a14,
    f_law_looked := f15, d_law_looked := _, F_law_looked := fun_mk l15 c15 k15, g_law_looked := PySem.W.mg_of X G a15,
    f_law_futures := f16, d_law_futures := _, F_law_futures := fun_mk l16 c16 k16, g_law_futures := PySem.W.mg_of X G a16,
    f_law_right := f17, d_law_right := _, F_law_right := fun_mk l17 c17 k17, g_law_right := PySem.W.mg_of X G a17,
    f_law := fa, d_law := _, F_law := fun_mk l18 c18 k18, g_law := PySem.W.mg_of X G a18,
    n_LookupError := PySem.W.mg_none_of X G z0,
    n_ValueError := PySem.W.mg_none_of X G z1,
    n_abs := PySem.W.mg_none_of X G z2,
    n_all := PySem.W.mg_none_of X G z3,
    n_divmod := PySem.W.mg_none_of X G z4,
    n_enumerate := PySem.W.mg_none_of X G z5,
    n_int := PySem.W.mg_none_of X G z6,
    n_len := PySem.W.mg_none_of X G z7,
    n_list := PySem.W.mg_none_of X G z8,
    n_min := PySem.W.mg_none_of X G z9,
    n_range := PySem.W.mg_none_of X G z10,
    n_sorted := PySem.W.mg_none_of X G z11,
    n_tuple := PySem.W.mg_none_of X G z12,
    n_zip := PySem.W.mg_none_of X G z13,
    E_NoNumber := { C := C0, fI := fI0, dI := _, g := PySem.W.mg_of X G eg0, o := oexG_mk mro_LookupError ex0 es0 ek0 (errB_mk ra0 rb0 rc0 rd0 re0 ehn eht rf0 rg0 rh0), x := (errB_mk ra0 rb0 rc0 rd0 re0 ehn eht rf0 rg0 rh0).x, nf := en0, iC := ei0, tI := et0, F := fun_mk el0 ec0 eK0, bi := eb0 }, R_NoNumber := errB_mk ra0 rb0 rc0 rd0 re0 ehn eht rf0 rg0 rh0,
    E_OtherSize := { C := C1, fI := fI1, dI := _, g := PySem.W.mg_of X G eg1, o := oexG_mk mro_ValueError ex1 es1 ek1 (errB_mk ra1 rb1 rc1 rd1 re1 ehn eht rf1 rg1 rh1), x := (errB_mk ra1 rb1 rc1 rd1 re1 ehn eht rf1 rg1 rh1).x, nf := en1, iC := ei1, tI := et1, F := fun_mk el1 ec1 eK1, bi := eb1 }, R_OtherSize := errB_mk ra1 rb1 rc1 rd1 re1 ehn eht rf1 rg1 rh1 }, rfl, rfl⟩
  obtain ⟨T, e1, e2⟩ := T
  refine ⟨T.d_law, fun s v => e2 ▸ .of_eq rfl, fun base _ _ => e1 ▸ (k_law T).imp fun _ _ _ _ q => q mg⟩
end Z
open PySem PySem.W PyProof.Rows
set_option maxHeartbeats 0 in
theorem PySem.Challenge.cw_lookpast_k39_whole_kin_by_search_both_wa_holds : PySem.Challenge.rw_lookpast_k39_whole_kin_by_search_both_wa.Holds := by
  w_on; o_law; k_head; (case hw => w_witness2)
  k_fill
  refine L2.walk_of (l := PySem.Challenge.rw_lookpast_k39_whole_kin_by_search_both_wa) (n := 63) (k := 9) (x := "_law_script") (CX := fun w => L2.CX PySem.Challenge.rw_lookpast_k39_whole_kin_by_search_both_wa.prog w) (sp := fun w => MP.spL _ Z.M_law) rfl (by decide) rfl ⟨rfl, by decide, by decide⟩ (fun w h Y => PySem.W.kIn_of Y) ?F (fun _ _ a ns hl hO hS => MP.law_spL hO hS (Z.law_true ns hl)) (fun _ H s e s' h => MP.cx_end H s e s' h)
  case F =>
    intro w mg fa h KX G hmg
    refine' Z.all_mk KX G hmg ?a0 ?l0 ?c0 ?k0 ?a1 ?l1 ?c1 ?k1 ?a2 ?l2 ?c2 ?k2 ?a3 ?l3 ?c3 ?k3 ?a4 ?l4 ?c4 ?k4 ?a5 ?l5 ?c5 ?k5 ?a6 ?l6 ?c6 ?k6 ?a7 ?l7 ?c7 ?k7 ?a8 ?l8 ?c8 ?k8 ?a9 ?l9 ?c9 ?k9 ?a10 ?l10 ?c10 ?k10 ?a11 ?l11 ?c11 ?k11 ?a12 ?l12 ?c12 ?k12 ?a13 ?l13 ?c13 ?k13 ?a14 ?l14 ?c14 ?k14 ?a15 ?l15 ?c15 ?k15 ?a16 ?l16 ?c16 ?k16 ?a17 ?l17 ?c17 ?k17 ?a18 ?l18 ?c18 ?k18 ?z0 ?z1 ?z2 ?z3 ?z4 ?z5 ?z6 ?z7 ?z8 ?z9 ?z10 ?z11 ?z12 ?z13 ?ehn ?eht ?eg0 ?ex0 ?es0 ?ek0 ?en0 ?ei0 ?et0 ?el0 ?ec0 ?eK0 ?eb0 ?ra0 ?rb0 ?rc0 ?rd0 ?re0 ?rf0 ?rg0 ?rh0 ?eg1 ?ex1 ?es1 ?ek1 ?en1 ?ei1 ?et1 ?el1 ?ec1 ?eK1 ?eb1 ?ra1 ?rb1 ?rc1 ?rd1 ?re1 ?rf1 ?rg1 ?rh1
    (case a0 => k_is)
    (case l0 => k_is)
    (case c0 => k_is)
    (case k0 => k_is)
    (case a1 => k_is)
    (case l1 => k_is)
    (case c1 => k_is)
    (case k1 => k_is)
    (case a2 => k_is)
    (case l2 => k_is)
    (case c2 => k_is)
    (case k2 => k_is)
    (case a3 => k_is)
    (case l3 => k_is)
    (case c3 => k_is)
    (case k3 => k_is)
    (case a4 => k_is)
    (case l4 => k_is)
    (case c4 => k_is)
    (case k4 => k_is)
    (case a5 => k_is)
    (case l5 => k_is)
    (case c5 => k_is)
    (case k5 => k_is)
    (case a6 => k_is)
    (case l6 => k_is)
    (case c6 => k_is)
    (case k6 => k_is)
    (case a7 => k_is)
    (case l7 => k_is)
    (case c7 => k_is)
    (case k7 => k_is)
    (case a8 => k_is)
    (case l8 => k_is)
    (case c8 => k_is)
    (case k8 => k_is)
    (case a9 => k_is)
    (case l9 => k_is)
    (case c9 => k_is)
    (case k9 => k_is)
    (case a10 => k_is)
    (case l10 => k_is)
    (case c10 => k_is)
    (case k10 => k_is)
    (case a11 => k_is)
    (case l11 => k_is)
    (case c11 => k_is)
    (case k11 => k_is)
    (case a12 => k_is)
    (case l12 => k_is)
    (case c12 => k_is)
    (case k12 => k_is)
    (case a13 => k_is)
    (case l13 => k_is)
    (case c13 => k_is)
    (case k13 => k_is)
    (case a14 => k_is)
    (case l14 => k_is)
    (case c14 => k_is)
    (case k14 => k_is)
    (case a15 => k_is)
    (case l15 => k_is)
    (case c15 => k_is)
    (case k15 => k_is)
    (case a16 => k_is)
    (case l16 => k_is)
    (case c16 => k_is)
    (case k16 => k_is)
    (case a17 => k_is)
    (case l17 => k_is)
    (case c17 => k_is)
    (case k17 => k_is)
    (case a18 => k_is)
    (case l18 => k_is)
    (case c18 => k_is)
    (case k18 => k_is)
    (case z0 => k_is)
    (case z1 => k_is)
    (case z2 => k_is)
    (case z3 => k_is)
    (case z4 => k_is)
    (case z5 => k_is)
    (case z6 => k_is)
    (case z7 => k_is)
    (case z8 => k_is)
    (case z9 => k_is)
    (case z10 => k_is)
    (case z11 => k_is)
    (case z12 => k_is)
    (case z13 => k_is)
    (case ehn => k_is)
    (case eht => k_is)
    (case eg0 => k_is)
    (case ex0 => k_is)
    (case es0 => k_is)
    (case ek0 => k_is)
    (case en0 => k_is)
    (case ei0 => k_is)
    (case et0 => k_is)
    (case el0 => k_is)
    (case ec0 => k_is)
    (case eK0 => k_is)
    (case eb0 => k_is)
    (case ra0 => k_is)
    (case rb0 => k_is)
    (case rc0 => k_is)
    (case rd0 => k_is)
    (case re0 => k_is)
    (case rf0 => k_is)
    (case rg0 => k_is)
    (case rh0 => first | rfl | k_is)
    (case eg1 => k_is)
    (case ex1 => k_is)
    (case es1 => k_is)
    (case ek1 => k_is)
    (case en1 => k_is)
    (case ei1 => k_is)
    (case et1 => k_is)
    (case el1 => k_is)
    (case ec1 => k_is)
    (case eK1 => k_is)
    (case eb1 => k_is)
    (case ra1 => k_is)
    (case rb1 => k_is)
    (case rc1 => k_is)
    (case rd1 => k_is)
    (case re1 => k_is)
    (case rf1 => k_is)
    (case rg1 => k_is)
    (case rh1 => first | rfl | k_is)
