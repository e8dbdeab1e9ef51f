import PyProof.Rows.All
import Wide.All
import OpenK.AllK
import Wide.FinOn
import HandS.ForMost
import HandS.ExcCtx
import KE.SortData
import HandS.TupAny
import HandS.ExcOwn
import HandS.Wide
import KE.DataEq
import KE.DataCmp
import HandS.ExcValue
import HandS.HotCalls
import HandS.ExcIs
import PyProof.SumWalk
import HandS.Deep
import HandS.Words
import HandS.IsInst
import HandS.FStr
import KE.GoesMore
import HandS.Zip
import KE.GoesZip
import HandS.Strs
import HandS.SetFor
import HandS.Dict
import HandS.WordsDict
import PySem.Challenge.RW_bestiary_k00_concepts_checked
set_option Elab.async false
set_option linter.all false
set_option autoImplicit false
set_option maxRecDepth 100000
set_option maxHeartbeats 4000000
section
/-! Dn, part 1: values, the list heap, how they stand for what the hand layer tracks -/
namespace Dn
open PySem PySem.Spec PyProof.Rows L2
abbrev St := L2.St

/-- a value: data (never changed again), an own list, the script -/
inductive Val where
  | dat (d : PyData) | ref (i : Nat) | scr (ns : List Int)
/-- an own object that may change -/
inductive HObj where
  | lst (xs : List PyData)
  | dct (kvs : List (Key × PyData))
abbrev Hl := List (Option HObj)
abbrev En := List (Option Val)
/-- an exception: its class's name -/
structure Exc where
  cls : Str
/-- how a computation ends -/
inductive R (α : Type) where
  | stuck | ok (a : α) (h : Hl) | exc (e : Exc) (h : Hl)
def R.bind {α β : Type} : R α → (α → Hl → R β) → R β
  | .stuck, _ => .stuck
  | .ok a h, f => f a h
  | .exc e h, _ => .exc e h
abbrev LFn := List Val → Hl → R Val

/-- the addresses of own objects that may still change, and those that are kept from all (Z) -/
def live (Z : Addr → Prop) (φ : Nat → Addr) (h : Hl) : Addr → Prop := fun a => (∃ (i : Nat) (o : HObj), h[i]? = some (some o) ∧ φ i = a) ∨ Z a

mutual
/-- a value stands for data; no list in it is one that may change -/
inductive Rp (K : PySem.W.Frag) (H : Hp) (L : Addr → Prop) : V → PyData → Prop
  | non : Rp K H L .non .none
  | bl (b : Bool) : Rp K H L (.bl b) (.bool b)
  | int (i : Int) : Rp K H L (.int i) (.int i)
  | str (x : Str) : Rp K H L (.str x) (.str x)
  | lst {a : Addr} {xs : List V} {ds : List PyData} : H a = some (.lst xs) → ¬ L a → RpAll K H L xs ds → Rp K H L (.ref a) (.list ds)
  | tup {a : Addr} {xs : List V} {ds : List PyData} : SqT K H a xs → RpAll K H L xs ds → Rp K H L (.ref a) (.tuple ds)
inductive RpAll (K : PySem.W.Frag) (H : Hp) (L : Addr → Prop) : List V → List PyData → Prop
  | nil : RpAll K H L [] []
  | cons {v : V} {vs : List V} {d : PyData} {ds : List PyData} : Rp K H L v d → RpAll K H L vs ds → RpAll K H L (v :: vs) (d :: ds)
end

/-- the script's list -/
def ScrAt (K : PySem.W.Frag) (H : Hp) (a : Addr) (ns : List Int) : Prop :=
  (∃ o, H a = some (.frz o (.lst (ns.map V.int)))) ∨
    ∃ (o : Obj) (its : Array Value) (n : Nat), K.lookup a = some o ∧ o.cls = .type "list" ∧ o.dict = none ∧ o.data = .seq its n ∧ its.size ≤ sizeLine ∧ Vals (ns.map V.int) its.toList
theorem ScrAt.sq {K : PySem.W.Frag} {H : Hp} {a : Addr} {ns : List Int} (x : ScrAt K H a ns) : SqL K H a (ns.map V.int) := by
  rcases x with ⟨o, e⟩ | x
  · exact .inl (.inr ⟨o, e⟩)
  · exact .inr x

def RpV (K : PySem.W.Frag) (Z : Addr → Prop) (φ : Nat → Addr) (h : Hl) (H : Hp) (x : V) : Val → Prop
  | .dat d => Rp K H (live Z φ h) x d
  | .ref i => i < h.length ∧ x = .ref (φ i)
  | .scr ns => ∃ a, x = .ref a ∧ ScrAt K H a ns

/-- what stands in the heap stands for an own object -/
def ObV (K : PySem.W.Frag) (H : Hp) (L : Addr → Prop) (u : HO) : HObj → Prop
  | .lst ds => ∃ xs, u = .lst xs ∧ RpAll K H L xs ds
  | .dct kvs => ∃ ws, u = .dK ws ∧ ws.map (·.1) = kvs.map (·.1) ∧ RpAll K H L (ws.map (·.2)) (kvs.map (·.2))
theorem ObV.mut {K : PySem.W.Frag} {H : Hp} {L : Addr → Prop} {u : HO} {o : HObj} (r : ObV K H L u o) : Mut (some u) := by
  cases o with
  | lst ds => obtain ⟨xs, e, _⟩ := r; subst e; exact trivial
  | dct kvs => obtain ⟨xs, e, _⟩ := r; subst e; exact trivial
theorem ObV.lst_ {K : PySem.W.Frag} {H : Hp} {L : Addr → Prop} {u : HO} {ds : List PyData} (r : ObV K H L u (.lst ds)) : ∃ xs, u = .lst xs ∧ RpAll K H L xs ds := r
theorem ObV.dct_ {K : PySem.W.Frag} {H : Hp} {L : Addr → Prop} {u : HO} {kvs : List (Key × PyData)} (r : ObV K H L u (.dct kvs)) : ∃ ws, u = .dK ws ∧ ws.map (·.1) = kvs.map (·.1) ∧ RpAll K H L (ws.map (·.2)) (kvs.map (·.2)) := r
theorem ObV.map {K : PySem.W.Frag} {H H1 : Hp} {L L1 : Addr → Prop} (f : ∀ (xs : List V) (ds : List PyData), RpAll K H L xs ds → RpAll K H1 L1 xs ds) {u : HO} {o : HObj} (r : ObV K H L u o) : ObV K H1 L1 u o := by
  cases o with
  | lst ds => obtain ⟨xs, e, q⟩ := r; exact ⟨xs, e, f _ _ q⟩
  | dct kvs => obtain ⟨xs, e, k, q⟩ := r; exact ⟨xs, e, k, f _ _ q⟩
def ObR (K : PySem.W.Frag) (L : Addr → Prop) (H : Hp) (a : Addr) (o : HObj) : Prop := ∃ u, H a = some u ∧ ObV K H L u o

structure SimH (K : PySem.W.Frag) (Z : Addr → Prop) (φ : Nat → Addr) (h : Hl) (H : Hp) : Prop where
  inj : ∀ i j, i < h.length → j < h.length → φ i = φ j → i = j
  trk : ∀ i, i < h.length → ∃ o, H (φ i) = some o ∧ Mut (some o)
  obj : ∀ (i : Nat) (o : HObj), h[i]? = some (some o) → ObR K (live Z φ h) H (φ i) o
  ztr : ∀ a, Z a → ∃ o, H a = some o ∧ Mut (some o)
  zno : ∀ i, i < h.length → ¬ Z (φ i)

/-- from a state to a later one -/
structure Stp (φ : Nat → Addr) (Z : Addr → Prop) (h : Hl) (H : Hp) (φ' : Nat → Addr) (h' : Hl) (H' : Hp) : Prop where
  len : h.length ≤ h'.length
  old : ∀ i, i < h.length → φ' i = φ i
  dead : ∀ i : Nat, h[i]? = some none → h'[i]? = some none
  keep : ∀ a o, H a = some o → (∀ (i : Nat) (u : HObj), h[i]? = some (some u) → φ i ≠ a) → H' a = some o
  new : ∀ j, h.length ≤ j → j < h'.length → H (φ' j) = none
  trk : ∀ a o, H a = some o → ∃ o', H' a = some o'

theorem lt_of_getS {α : Type} {l : List α} {i : Nat} {x : α} (h : l[i]? = some x) : i < l.length := by
  rcases Nat.lt_or_ge i l.length with q | q
  · exact q
  · rw [List.getElem?_eq_none q] at h; cases h

section
variable {K : PySem.W.Frag} {Z : Addr → Prop} {φ φ1 φ2 : Nat → Addr} {h h1 h2 : Hl} {H H1 H2 : Hp} {a : Addr}

theorem Stp.refl : Stp φ Z h H φ h H := ⟨Nat.le_refl _, fun _ _ => rfl, fun _ e => e, fun _ _ e _ => e, fun j p q => absurd (Nat.lt_of_lt_of_le q p) (Nat.lt_irrefl _), fun _ o e => ⟨o, e⟩⟩

theorem Stp.nl0 (s : Stp φ Z h H φ1 h1 H1) {o : HO} (e : H a = some o) (n : ∀ (i : Nat) (u : HObj), h[i]? = some (some u) → φ i ≠ a) : ∀ (i : Nat) (u : HObj), h1[i]? = some (some u) → φ1 i ≠ a := by
  rintro j ob ej rfl
  have hj := lt_of_getS ej
  rcases Nat.lt_or_ge j h.length with q | q
  · cases g : h[j]? with
    | none => rw [List.getElem?_eq_none_iff] at g; omega
    | some u =>
      cases u with
      | none => rw [s.dead j g] at ej; cases ej
      | some u => exact n j u g (s.old j q).symm
  · rw [s.new j q hj] at e; cases e
/-- what is tracked and can't change can't change later -/
theorem Stp.nl (s : Stp φ Z h H φ1 h1 H1) {o : HO} (e : H a = some o) (n : ¬ live Z φ h a) : ¬ live Z φ1 h1 a := by
  rintro (⟨j, ob, ej, q⟩ | z)
  · exact s.nl0 e (fun i u g q => n (.inl ⟨i, u, g, q⟩)) j ob ej q
  · exact n (.inr z)

theorem Stp.trans (s : Stp φ Z h H φ1 h1 H1) (t : Stp φ1 Z h1 H1 φ2 h2 H2) : Stp φ Z h H φ2 h2 H2 where
  len := Nat.le_trans s.len t.len
  old := fun i hi => (t.old i (Nat.lt_of_lt_of_le hi s.len)).trans (s.old i hi)
  dead := fun i e => t.dead i (s.dead i e)
  keep := fun a o e n => t.keep a o (s.keep a o e n) (s.nl0 e n)
  new := fun j p q => by
    rcases Nat.lt_or_ge j h1.length with r | r
    · rw [t.old j r]; exact s.new j p r
    · have z := t.new j r q
      cases e : H (φ2 j) with
      | none => rfl
      | some o =>
        obtain ⟨o', e'⟩ := s.trk _ _ e
        rw [z] at e'; cases e'
  trk := fun a o e => by
    obtain ⟨o', e'⟩ := s.trk a o e
    exact t.trk a o' e'
theorem Stp.zz (Z' : Addr → Prop) (s : Stp φ Z h H φ1 h1 H1) : Stp φ Z' h H φ1 h1 H1 := ⟨s.len, s.old, s.dead, s.keep, s.new, s.trk⟩

theorem SimH.notLive (S : SimH K Z φ h H) {u : HO} (e : H a = some u) (n : ¬ Mut (some u)) : ¬ live Z φ h a := by
  rintro (⟨i, o, ei, rfl⟩ | z)
  · obtain ⟨u', q, m⟩ := S.trk i (lt_of_getS ei)
    rw [e] at q; cases q
    exact n m
  · obtain ⟨u', q, m⟩ := S.ztr a z
    rw [e] at q; cases q
    exact n m
theorem SimH.notOwn (S : SimH K Z φ h H) {u : HO} (e : H a = some u) (n : ¬ Mut (some u)) : ∀ (i : Nat) (o : HObj), h[i]? = some (some o) → φ i ≠ a := fun i o g q => S.notLive e n (.inl ⟨i, o, g, q⟩)
theorem notOwn_of (n : ¬ live Z φ h a) : ∀ (i : Nat) (o : HObj), h[i]? = some (some o) → φ i ≠ a := fun i o g q => n (.inl ⟨i, o, g, q⟩)

theorem SqT.step (S : SimH K Z φ h H) (s : Stp φ Z h H φ1 h1 H1) {xs : List V} (q : SqT K H a xs) : SqT K H1 a xs := by
  rcases q with (q | ⟨o, q⟩) | q
  · exact .inl (.inl (s.keep a _ q (S.notOwn q fun z => z)))
  · exact .inl (.inr ⟨o, s.keep a _ q (S.notOwn q fun z => z)⟩)
  · exact .inr q

mutual
theorem Rp.step (S : SimH K Z φ h H) (s : Stp φ Z h H φ1 h1 H1) : ∀ {x : V} {d : PyData}, Rp K H (live Z φ h) x d → Rp K H1 (live Z φ1 h1) x d
  | _, _, .non => .non
  | _, _, .bl b => .bl b
  | _, _, .int b => .int b
  | _, _, .str b => .str b
  | _, _, .lst e n r => .lst (s.keep _ _ e (notOwn_of n)) (s.nl e n) (RpAll.step S s r)
  | _, _, .tup e r => .tup (SqT.step S s e) (RpAll.step S s r)
theorem RpAll.step (S : SimH K Z φ h H) (s : Stp φ Z h H φ1 h1 H1) : ∀ {x : List V} {d : List PyData}, RpAll K H (live Z φ h) x d → RpAll K H1 (live Z φ1 h1) x d
  | _, _, .nil => .nil
  | _, _, .cons r t => .cons (Rp.step S s r) (RpAll.step S s t)
end
mutual
/-- fewer addresses are kept from it -/
theorem Rp.less {L L' : Addr → Prop} (l : ∀ a, L' a → L a) : ∀ {x : V} {d : PyData}, Rp K H L x d → Rp K H L' x d
  | _, _, .non => .non
  | _, _, .bl b => .bl b
  | _, _, .int b => .int b
  | _, _, .str b => .str b
  | _, _, .lst e n r => .lst e (fun z => n (l _ z)) (RpAll.less l r)
  | _, _, .tup e r => .tup e (RpAll.less l r)
theorem RpAll.less {L L' : Addr → Prop} (l : ∀ a, L' a → L a) : ∀ {x : List V} {d : List PyData}, RpAll K H L x d → RpAll K H L' x d
  | _, _, .nil => .nil
  | _, _, .cons r t => .cons (Rp.less l r) (RpAll.less l t)
end
mutual
/-- another heap that agrees but at a list that is kept from it -/
theorem Rp.but {L : Addr → Prop} {D : Addr} {u0 : HO} (hD : L D) (eD : H D = some u0) (k : ∀ b, b ≠ D → H1 b = H b) (mu : Mut (some u0) := by trivial) : ∀ {x : V} {d : PyData}, Rp K H L x d → Rp K H1 L x d
  | _, _, .non => .non
  | _, _, .bl b => .bl b
  | _, _, .int b => .int b
  | _, _, .str b => .str b
  | _, _, .lst (a := a) e n r => .lst (by rw [k a (fun z => n (z ▸ hD))]; exact e) n (RpAll.but hD eD k mu r)
  | _, _, .tup (a := a) e r => .tup (by
      rcases e with (q | ⟨o, q⟩) | q
      · exact .inl (.inl (by rw [k a (fun z => by subst z; rw [eD] at q; cases q; exact False.elim mu)]; exact q))
      · exact .inl (.inr ⟨o, by rw [k a (fun z => by subst z; rw [eD] at q; cases q; exact False.elim mu)]; exact q⟩)
      · exact .inr q) (RpAll.but hD eD k mu r)
theorem RpAll.but {L : Addr → Prop} {D : Addr} {u0 : HO} (hD : L D) (eD : H D = some u0) (k : ∀ b, b ≠ D → H1 b = H b) (mu : Mut (some u0) := by trivial) : ∀ {x : List V} {d : List PyData}, RpAll K H L x d → RpAll K H1 L x d
  | _, _, .nil => .nil
  | _, _, .cons r t => .cons (Rp.but hD eD k mu r) (RpAll.but hD eD k mu t)
end

theorem ScrAt.step (S : SimH K Z φ h H) (s : Stp φ Z h H φ1 h1 H1) {ns : List Int} (q : ScrAt K H a ns) : ScrAt K H1 a ns := by
  rcases q with ⟨o, q⟩ | q
  · exact .inl ⟨o, s.keep a _ q (S.notOwn q fun z => z)⟩
  · exact .inr q

theorem RpV.step (S : SimH K Z φ h H) (s : Stp φ Z h H φ1 h1 H1) {x : V} : ∀ {v : Val}, RpV K Z φ h H x v → RpV K Z φ1 h1 H1 x v
  | .dat d, r => Rp.step S s r
  | .ref i, r => ⟨Nat.lt_of_lt_of_le r.1 s.len, by rw [s.old i r.1]; exact r.2⟩
  | .scr ns, ⟨a, e, r⟩ => ⟨a, e, ScrAt.step S s r⟩

inductive RpVs (K : PySem.W.Frag) (Z : Addr → Prop) (φ : Nat → Addr) (h : Hl) (H : Hp) : List V → List Val → Prop
  | nil : RpVs K Z φ h H [] []
  | cons {x : V} {xs : List V} {v : Val} {vs : List Val} : RpV K Z φ h H x v → RpVs K Z φ h H xs vs → RpVs K Z φ h H (x :: xs) (v :: vs)
theorem RpVs.step (S : SimH K Z φ h H) (s : Stp φ Z h H φ1 h1 H1) : ∀ {xs : List V} {vs : List Val}, RpVs K Z φ h H xs vs → RpVs K Z φ1 h1 H1 xs vs
  | _, _, .nil => .nil
  | _, _, .cons r t => .cons (r.step S s) (t.step S s)
theorem RpVs.length : ∀ {xs : List V} {vs : List Val}, RpVs K Z φ h H xs vs → xs.length = vs.length
  | _, _, .nil => rfl
  | _, _, .cons _ t => congrArg (· + 1) t.length
theorem RpAll.length {L : Addr → Prop} : ∀ {xs : List V} {vs : List PyData}, RpAll K H L xs vs → xs.length = vs.length
  | _, _, .nil => rfl
  | _, _, .cons _ t => congrArg (· + 1) t.length
theorem RpAll.get {L : Addr → Prop} : ∀ {xs : List V} {vs : List PyData} {i : Nat} {d : PyData}, RpAll K H L xs vs → vs[i]? = some d → ∃ x, xs[i]? = some x ∧ Rp K H L x d
  | _, _, _, _, .nil, e => by simp at e
  | _, _, 0, _, .cons r _, e => by simp at e; subst e; exact ⟨_, rfl, r⟩
  | _, _, i + 1, _, .cons _ t, e => by
    obtain ⟨x, h1, h2⟩ := RpAll.get (i := i) t (by simpa using e)
    exact ⟨x, by simpa using h1, h2⟩
theorem RpAll.append {L : Addr → Prop} : ∀ {xs ys : List V} {ds es : List PyData}, RpAll K H L xs ds → RpAll K H L ys es → RpAll K H L (xs ++ ys) (ds ++ es)
  | _, _, _, _, .nil, s => s
  | _, _, _, _, .cons r t, s => .cons r (RpAll.append t s)
theorem RpAll.take {L : Addr → Prop} : ∀ {xs : List V} {ds : List PyData} (n : Nat), RpAll K H L xs ds → RpAll K H L (xs.take n) (ds.take n)
  | _, _, 0, _ => .nil
  | _, _, _ + 1, .nil => .nil
  | _, _, n + 1, .cons r t => .cons r (RpAll.take n t)
theorem RpAll.drop {L : Addr → Prop} : ∀ {xs : List V} {ds : List PyData} (n : Nat), RpAll K H L xs ds → RpAll K H L (xs.drop n) (ds.drop n)
  | _, _, 0, r => r
  | _, _, _ + 1, .nil => .nil
  | _, _, n + 1, .cons r t => RpAll.drop n t
theorem RpAll.set {L : Addr → Prop} {x : V} {d : PyData} (r : Rp K H L x d) : ∀ {xs : List V} {ds : List PyData} (i : Nat), RpAll K H L xs ds → RpAll K H L (xs.set i x) (ds.set i d)
  | _, _, _, .nil => .nil
  | _, _, 0, .cons _ t => .cons r t
  | _, _, i + 1, .cons q t => .cons q (RpAll.set r i t)
theorem RpAll.ints {L : Addr → Prop} : ∀ ns : List Int, RpAll K H L (ns.map V.int) (ns.map PyData.int)
  | [] => .nil
  | n :: r => .cons (.int n) (RpAll.ints r)

/-- the slots -/
structure SimE (K : PySem.W.Frag) (Z : Addr → Prop) (φ : Nat → Addr) (h : Hl) (H : Hp) (ρ : En) (σ : St) : Prop where
  len : ρ.length = σ.length
  get : ∀ (i : Nat) (v : Val), ρ[i]? = some (some v) → ∃ x, σ[i]? = some (some x) ∧ RpV K Z φ h H x v
theorem SimE.step (S : SimH K Z φ h H) (s : Stp φ Z h H φ1 h1 H1) {ρ : En} {σ : St} (E : SimE K Z φ h H ρ σ) : SimE K Z φ1 h1 H1 ρ σ :=
  ⟨E.len, fun i v e => let ⟨x, q, r⟩ := E.get i v e; ⟨x, q, r.step S s⟩⟩
theorem SimE.set {ρ : En} {σ : St} (E : SimE K Z φ h H ρ σ) {i : Nat} {x : V} {v : Val} (r : RpV K Z φ h H x v) : SimE K Z φ h H (ρ.set i (some v)) (σ.set i (some x)) := by
  refine ⟨by simp [E.len], fun j u e => ?_⟩
  by_cases q : i = j
  · subst q
    have hi : i < ρ.length := by
      have := lt_of_getS e
      simpa using this
    rw [List.getElem?_set_self hi] at e
    cases e
    exact ⟨x, by rw [List.getElem?_set_self (by rw [← E.len]; exact hi)], r⟩
  · rw [List.getElem?_set_ne q] at e
    obtain ⟨y, e', r'⟩ := E.get j u e
    exact ⟨y, by rw [List.getElem?_set_ne q]; exact e', r'⟩
theorem SimE.wipe {ρ : En} {σ : St} (E : SimE K Z φ h H ρ σ) (i : Nat) : SimE K Z φ h H (ρ.set i none) (σ.set i none) := by
  refine ⟨by simp [E.len], fun j u e => ?_⟩
  by_cases q : i = j
  · subst q
    have hi : i < ρ.length := by
      have := lt_of_getS e
      simpa using this
    rw [List.getElem?_set_self hi] at e
    cases e
  · rw [List.getElem?_set_ne q] at e
    obtain ⟨y, e', r'⟩ := E.get j u e
    exact ⟨y, by rw [List.getElem?_set_ne q]; exact e', r'⟩

/-! ### the heap grows by an object that is not an own one -/
theorem stp_upd {p : Addr} {o : HO} (n : H p = none) : Stp φ Z h H φ h (upd H p o) :=
  ⟨Nat.le_refl _, fun _ _ => rfl, fun _ e => e, fun a u e _ => by rw [upd_ne (ne_of_none e n)]; exact e, fun j p q => absurd (Nat.lt_of_lt_of_le q p) (Nat.lt_irrefl _),
    fun a u e => ⟨u, by rw [upd_ne (ne_of_none e n)]; exact e⟩⟩
theorem SimH.grow (S : SimH K Z φ h H) (s : Stp φ Z h H φ h H1) (hk : ∀ a o, H a = some o → H1 a = some o) : SimH K Z φ h H1 := by
  refine ⟨S.inj, fun i hi => ?_, fun i o e => ?_, fun a z => ?_, S.zno⟩
  · obtain ⟨o, q, m⟩ := S.trk i hi
    exact ⟨o, hk _ _ q, m⟩
  · have q := S.obj i o e
    obtain ⟨xs, e1, r⟩ := q
    exact ⟨xs, hk _ _ e1, r.map fun _ _ => RpAll.step S s⟩
  · obtain ⟨o, q, m⟩ := S.ztr a z
    exact ⟨o, hk _ _ q, m⟩
theorem SimH.upd (S : SimH K Z φ h H) {p : Addr} {o : HO} (n : H p = none) : SimH K Z φ h (upd H p o) :=
  S.grow (stp_upd n) fun a u e => by rw [upd_ne (ne_of_none e n)]; exact e
theorem SimH.notLiveNew (S : SimH K Z φ h H) {p : Addr} (n : H p = none) : ¬ live Z φ h p := by
  rintro (⟨i, o, ei, rfl⟩ | z)
  · obtain ⟨xs, q, _⟩ := S.trk i (lt_of_getS ei)
    rw [n] at q; cases q
  · obtain ⟨xs, q, _⟩ := S.ztr p z
    rw [n] at q; cases q

/-! ### an own list is made, changed, given up; the heap is cut -/
/-- a new list at p becomes an own one -/
theorem adoptO (S : SimH K Z φ h H) {p : Addr} {u0 : HO} {o0 : HObj} (n : H p = none) (r : ObV K H (live Z φ h) u0 o0) :
    ∃ φ', Stp φ Z h H φ' (h ++ [some o0]) (L2.upd H p u0) ∧ SimH K Z φ' (h ++ [some o0]) (L2.upd H p u0) ∧ φ' h.length = p := by
  have hlen : (h ++ [some o0]).length = h.length + 1 := by simp
  have ho : ∀ i, i < h.length → (fun i => if i = h.length then p else φ i) i = φ i := fun i hi => if_neg (Nat.ne_of_lt hi)
  have hn : (fun i => if i = h.length then p else φ i) h.length = p := if_pos rfl
  generalize (fun i => if i = h.length then p else φ i) = φ' at ho hn
  have nz : ¬ Z p := fun z => by
    obtain ⟨o, q, _⟩ := S.ztr p z
    rw [n] at q; cases q
  have np : ∀ i, i < h.length → φ i ≠ p := fun i hi z => by
    obtain ⟨o, q, _⟩ := S.trk i hi
    rw [z, n] at q; cases q
  have s : Stp φ Z h H φ' (h ++ [some o0]) (L2.upd H p u0) := by
    refine ⟨by rw [hlen]; omega, ho, fun i e => ?_, fun a o e _ => by rw [upd_ne (ne_of_none e n)]; exact e, fun j h1 h2 => ?_, fun a o e => ⟨o, by rw [upd_ne (ne_of_none e n)]; exact e⟩⟩
    · rw [List.getElem?_append_left (lt_of_getS e)]; exact e
    · have : j = h.length := by omega
      rw [this, hn]; exact n
  refine ⟨φ', s, ⟨fun i j hi hj e => ?_, fun i hi => ?_, fun i o e => ?_, fun a z => ?_, fun i hi => ?_⟩, hn⟩
  · rw [hlen] at hi hj
    rcases Nat.lt_or_ge i h.length with qi | qi <;> rcases Nat.lt_or_ge j h.length with qj | qj
    · rw [ho i qi, ho j qj] at e; exact S.inj i j qi qj e
    · have : j = h.length := by omega
      rw [this, hn, ho i qi] at e
      exact absurd e (np i qi)
    · have : i = h.length := by omega
      rw [this, hn, ho j qj] at e
      exact absurd e.symm (np j qj)
    · omega
  · rw [hlen] at hi
    rcases Nat.lt_or_ge i h.length with q | q
    · obtain ⟨o, e, m⟩ := S.trk i q
      exact ⟨o, by rw [ho i q, upd_ne (ne_of_none e n)]; exact e, m⟩
    · have : i = h.length := by omega
      exact ⟨u0, by rw [this, hn, upd_same], r.mut⟩
  · rcases Nat.lt_or_ge i h.length with q | q
    · rw [List.getElem?_append_left q] at e
      have w := S.obj i o e
      obtain ⟨ys, e1, r1⟩ := w
      exact ⟨ys, by rw [ho i q, upd_ne (ne_of_none e1 n)]; exact e1, r1.map fun _ _ => RpAll.step S s⟩
    · have hi := lt_of_getS e
      have : i = h.length := by omega
      subst this
      rw [List.getElem?_concat_length] at e
      cases e
      exact ⟨u0, by rw [hn, upd_same], r.map fun _ _ => RpAll.step S s⟩
  · obtain ⟨o, e, m⟩ := S.ztr a z
    exact ⟨o, by rw [upd_ne (ne_of_none e n)]; exact e, m⟩
  · rw [hlen] at hi
    rcases Nat.lt_or_ge i h.length with q | q
    · rw [ho i q]; exact S.zno i q
    · have : i = h.length := by omega
      rw [this, hn]; exact nz
theorem adopt (S : SimH K Z φ h H) {p : Addr} {xs : List V} {ds : List PyData} (n : H p = none) (r : RpAll K H (live Z φ h) xs ds) :
    ∃ φ', Stp φ Z h H φ' (h ++ [some (.lst ds)]) (L2.upd H p (.lst xs)) ∧ SimH K Z φ' (h ++ [some (.lst ds)]) (L2.upd H p (.lst xs)) ∧ φ' h.length = p := adoptO S n (u0 := .lst xs) (o0 := .lst ds) ⟨xs, rfl, r⟩

theorem live_set {i : Nat} {o o' : HObj} (e : h[i]? = some (some o)) (a : Addr) : live Z φ (h.set i (some o')) a ↔ live Z φ h a := by
  have hi := lt_of_getS e
  constructor
  · rintro (⟨j, u, ej, q⟩ | z)
    · by_cases c : i = j
      · subst c; exact .inl ⟨i, o, e, q⟩
      · rw [List.getElem?_set_ne c] at ej; exact .inl ⟨j, u, ej, q⟩
    · exact .inr z
  · rintro (⟨j, u, ej, q⟩ | z)
    · by_cases c : i = j
      · subst c; exact .inl ⟨i, o', by rw [List.getElem?_set_self hi], q⟩
      · exact .inl ⟨j, u, by rw [List.getElem?_set_ne c]; exact ej, q⟩
    · exact .inr z
/-- an own list changes -/
theorem mutateO (S : SimH K Z φ h H) {i : Nat} {o : HObj} {u0 : HO} {o0 : HObj} (e : h[i]? = some (some o)) (r : ObV K H (live Z φ h) u0 o0) :
    Stp φ Z h H φ (h.set i (some o0)) (L2.upd H (φ i) u0) ∧ SimH K Z φ (h.set i (some o0)) (L2.upd H (φ i) u0) := by
  have hi := lt_of_getS e
  have s : Stp φ Z h H φ (h.set i (some o0)) (L2.upd H (φ i) u0) := by
    refine ⟨by simp, fun _ _ => rfl, fun j ej => ?_, fun a u ea n => by rw [upd_ne (fun z => n i o e z.symm)]; exact ea, fun j h1 h2 => by simp at h2; omega, fun a u ea => ?_⟩
    · have c : i ≠ j := fun z => by subst z; rw [e] at ej; cases ej
      rw [List.getElem?_set_ne c]; exact ej
    · by_cases c : a = φ i
      · exact ⟨_, by rw [c, upd_same]⟩
      · exact ⟨u, by rw [upd_ne c]; exact ea⟩
  refine ⟨s, ⟨fun a b ha hb q => S.inj a b (by simpa using ha) (by simpa using hb) q, fun j hj => ?_, fun j u ej => ?_, fun a z => ?_, fun j hj => S.zno j (by simpa using hj)⟩⟩
  · by_cases c : φ j = φ i
    · exact ⟨u0, by rw [c, upd_same], r.mut⟩
    · obtain ⟨u, q, m⟩ := S.trk j (by simpa using hj)
      exact ⟨u, by rw [upd_ne c]; exact q, m⟩
  · by_cases c : i = j
    · subst c
      rw [List.getElem?_set_self hi] at ej
      cases ej
      exact ⟨u0, by rw [upd_same], r.map fun _ _ => RpAll.step S s⟩
    · rw [List.getElem?_set_ne c] at ej
      have w := S.obj j u ej
      have ne : φ j ≠ φ i := fun z => c (S.inj i j hi (lt_of_getS ej) z.symm)
      obtain ⟨ys, e1, r1⟩ := w
      exact ⟨ys, by rw [upd_ne ne]; exact e1, r1.map fun _ _ => RpAll.step S s⟩
  · obtain ⟨u, q, m⟩ := S.ztr a z
    exact ⟨u, by rw [upd_ne (fun c => S.zno i hi (by rw [← c]; exact z))]; exact q, m⟩
theorem mutate (S : SimH K Z φ h H) {i : Nat} {o : HObj} {xs : List V} {ds : List PyData} (e : h[i]? = some (some o)) (r : RpAll K H (live Z φ h) xs ds) :
    Stp φ Z h H φ (h.set i (some (.lst ds))) (L2.upd H (φ i) (.lst xs)) ∧ SimH K Z φ (h.set i (some (.lst ds))) (L2.upd H (φ i) (.lst xs)) := mutateO S e (u0 := .lst xs) (o0 := .lst ds) ⟨xs, rfl, r⟩
/-- an own list is given up: it stands as data from then on -/
theorem freeze (S : SimH K Z φ h H) {i : Nat} {ds : List PyData} (e : h[i]? = some (some (.lst ds))) :
    Stp φ Z h H φ (h.set i none) H ∧ SimH K Z φ (h.set i none) H ∧ Rp K H (live Z φ (h.set i none)) (.ref (φ i)) (.list ds) := by
  have hi := lt_of_getS e
  have ll : ∀ a, live Z φ (h.set i none) a → live Z φ h a := by
    rintro a (⟨j, u, ej, q⟩ | z)
    · by_cases c : i = j
      · subst c; rw [List.getElem?_set_self hi] at ej; cases ej
      · rw [List.getElem?_set_ne c] at ej; exact .inl ⟨j, u, ej, q⟩
    · exact .inr z
  have s : Stp φ Z h H φ (h.set i none) H := by
    refine ⟨by simp, fun _ _ => rfl, fun j ej => ?_, fun a u ea n => ea, fun j h1 h2 => by simp at h2; omega, fun a u ea => ⟨u, ea⟩⟩
    by_cases c : i = j
    · subst c; rw [List.getElem?_set_self hi]
    · rw [List.getElem?_set_ne c]; exact ej
  refine ⟨s, ⟨fun a b ha hb q => S.inj a b (by simpa using ha) (by simpa using hb) q, fun j hj => S.trk j (by simpa using hj), fun j u ej => ?_, S.ztr, fun j hj => S.zno j (by simpa using hj)⟩, ?_⟩
  · have c : i ≠ j := fun z => by subst z; rw [List.getElem?_set_self hi] at ej; cases ej
    rw [List.getElem?_set_ne c] at ej
    have w := S.obj j u ej
    obtain ⟨ys, e1, r1⟩ := w
    exact ⟨ys, e1, r1.map fun _ _ r => r.less ll⟩
  · obtain ⟨u, e1, r1⟩ := S.obj i _ e
    obtain ⟨xs, rfl, r2⟩ := r1.lst_
    refine .lst e1 ?_ (r2.less ll)
    rintro (⟨j, u, ej, q⟩ | z)
    · have c : i ≠ j := fun z => by subst z; rw [List.getElem?_set_self hi] at ej; cases ej
      rw [List.getElem?_set_ne c] at ej
      exact c (S.inj i j hi (lt_of_getS ej) q.symm)
    · exact S.zno i hi z
/-- the younger own objects are given up (a call is over) -/
theorem cut {n : Nat} (hn : h.length = n) (s : Stp φ Z h H φ1 h1 H1) (S : SimH K Z φ1 h1 H1) : Stp φ Z h H φ1 (h1.take n) H1 ∧ SimH K Z φ1 (h1.take n) H1 ∧ ∀ a, live Z φ1 (h1.take n) a → live Z φ1 h1 a := by
  have hl : (h1.take n).length = n := by rw [List.length_take]; have := s.len; omega
  have gt : ∀ {j : Nat} {u : Option HObj}, (h1.take n)[j]? = some u → h1[j]? = some u := fun {j u} e => by
    rw [List.getElem?_take] at e
    split at e
    · exact e
    · cases e
  have ll : ∀ a, live Z φ1 (h1.take n) a → live Z φ1 h1 a := by
    rintro a (⟨j, u, ej, q⟩ | z)
    · exact .inl ⟨j, u, gt ej, q⟩
    · exact .inr z
  have sub : ∀ i, i < (h1.take n).length → i < h1.length := fun i hi => by
    rw [List.length_take] at hi; omega
  refine ⟨⟨by rw [hl, hn]; exact Nat.le_refl _, fun i hi => s.old i hi, fun i e => ?_, s.keep, fun j p q => by omega, s.trk⟩, ⟨fun a b ha hb q => S.inj a b (sub a ha) (sub b hb) q, fun j hj => S.trk j (sub j hj), fun j u ej => ?_, S.ztr, fun j hj => S.zno j (sub j hj)⟩, ll⟩
  · rw [List.getElem?_take, if_pos (by have := lt_of_getS e; omega)]
    exact s.dead i e
  · have w := S.obj j u (gt ej)
    obtain ⟨ys, e1, r1⟩ := w
    exact ⟨ys, e1, r1.map fun _ _ r => r.less ll⟩
/-- what is made in the dark (at D) comes into the light -/
theorem minus {D : Addr} {u0 : HO} (S : SimH K (fun a => Z a ∨ a = D) φ h H) (e : H D = some u0) (nz : ¬ Z D) (mu : Mut (some u0) := by trivial) :
    ∃ H0 : Hp, H0 D = none ∧ H = L2.upd H0 D u0 ∧ SimH K Z φ h H0 ∧ ∀ (ys : List V) (ds : List PyData), RpAll K H (live (fun a => Z a ∨ a = D) φ h) ys ds → RpAll K H0 (live Z φ h) ys ds := by
  have hD : live (fun a => Z a ∨ a = D) φ h D := .inr (.inr rfl)
  have ll : ∀ a, live Z φ h a → live (fun a => Z a ∨ a = D) φ h a := fun a z => z.elim .inl fun z => .inr (.inl z)
  have k : ∀ b, b ≠ D → (fun b => if b = D then none else H b) b = H b := fun b hb => if_neg hb
  have k0 : (fun b => if b = D then none else H b) D = none := if_pos rfl
  have ku : H = L2.upd (fun b => if b = D then none else H b) D u0 := by
    funext b
    by_cases hb : b = D
    · rw [hb, upd_same]; exact e
    · rw [upd_ne hb]; exact (k b hb).symm
  generalize (fun b => if b = D then none else H b) = H0 at k k0 ku
  have conv : ∀ (ys : List V) (ds : List PyData), RpAll K H (live (fun a => Z a ∨ a = D) φ h) ys ds → RpAll K H0 (live Z φ h) ys ds := fun ys ds r => (RpAll.but hD e k mu r).less ll
  refine ⟨H0, k0, ku, ⟨S.inj, fun i hi => ?_, fun i o g => ?_, fun a z => ?_, fun i hi z => S.zno i hi (.inl z)⟩, conv⟩
  · obtain ⟨o, q, m⟩ := S.trk i hi
    exact ⟨o, by rw [k _ (fun z => S.zno i hi (.inr z))]; exact q, m⟩
  · have w := S.obj i o g
    have hi := lt_of_getS g
    obtain ⟨ys, e1, r1⟩ := w
    exact ⟨ys, by rw [k _ (fun z => S.zno i hi (.inr z))]; exact e1, r1.map conv⟩
  · obtain ⟨o, q, m⟩ := S.ztr a (.inl z)
    exact ⟨o, by rw [k _ (fun c => nz (c ▸ z))]; exact q, m⟩
/-- an own list, an own dict -/
theorem SimH.ol (S : SimH K Z φ h H) {i : Nat} {ds : List PyData} (e : h[i]? = some (some (.lst ds))) : ∃ xs, H (φ i) = some (.lst xs) ∧ RpAll K H (live Z φ h) xs ds := by
  obtain ⟨u, e1, r1⟩ := S.obj i _ e
  obtain ⟨xs, rfl, r2⟩ := r1.lst_
  exact ⟨xs, e1, r2⟩
theorem SimH.od (S : SimH K Z φ h H) {i : Nat} {kvs : List (Key × PyData)} (e : h[i]? = some (some (.dct kvs))) : ∃ ws, H (φ i) = some (.dK ws) ∧ ws.map (·.1) = kvs.map (·.1) ∧ RpAll K H (live Z φ h) (ws.map (·.2)) (kvs.map (·.2)) := by
  obtain ⟨u, e1, r1⟩ := S.obj i _ e
  obtain ⟨xs, rfl, r2⟩ := r1.dct_
  exact ⟨xs, e1, r2⟩
end
end Dn
end

section
/-! Dn, part 2: what an expression computes -/
namespace Dn
open PySem PySem.Spec PyProof.Rows L2

/-- an exception's class by its name at the top -/
def ExR (mg : Str → Option Value) (e : Exc) (c : Value) (d : Option Addr) : Prop := ∃ C, mg e.cls = some (.ref C) ∧ c = .ref C ∧ d = none

/-- what is wanted of a computation that ends so -/
def PostR {β : Type} (K : PySem.W.Frag) (mg : Str → Option Value) (V : Value → Option Addr → Hp → Prop) (Z : Addr → Prop) (φ : Nat → Addr) (h : Hl) (H : Hp) : R β → ((Nat → Addr) → Hl → Hp → β → Prop) → Prop
  | .stuck, _ => False
  | .ok b h', κ => ∀ φ' H', Stp φ Z h H φ' h' H' → SimH K Z φ' h' H' → κ φ' h' H' b
  | .exc e h', _ => ∀ φ' H' c d, Stp φ Z h H φ' h' H' → SimH K Z φ' h' H' → ExR mg e c d → V c d H'

section
variable {β γ : Type} {K : PySem.W.Frag} {mg : Str → Option Value} {V : Value → Option Addr → Hp → Prop} {Z : Addr → Prop} {φ φ1 : Nat → Addr} {h h1 : Hl} {H H1 : Hp}
theorem PostR.shift {r : R β} {κ : (Nat → Addr) → Hl → Hp → β → Prop} (p : PostR K mg V Z φ h H r κ) (s : Stp φ Z h H φ1 h1 H1) : PostR K mg V Z φ1 h1 H1 r κ := by
  cases r with
  | stuck => exact p
  | ok b h' => exact fun φ' H' s' S' => p φ' H' (s.trans s') S'
  | exc e h' => exact fun φ' H' c d s' S' x => p φ' H' c d (s.trans s') S' x
theorem PostR.imp {r : R β} {κ κ' : (Nat → Addr) → Hl → Hp → β → Prop} (p : PostR K mg V Z φ h H r κ) (i : ∀ φ' h' H' b, κ φ' h' H' b → κ' φ' h' H' b) : PostR K mg V Z φ h H r κ' := by
  cases r with
  | stuck => exact p
  | ok b h' => exact fun φ' H' s' S' => i _ _ _ _ (p φ' H' s' S')
  | exc e h' => exact p
theorem PostR.ok_ {b : β} {κ : (Nat → Addr) → Hl → Hp → β → Prop} (p : PostR K mg V Z φ h H (.ok b h1) κ) (s : Stp φ Z h H φ1 h1 H1) (S : SimH K Z φ1 h1 H1) : κ φ1 h1 H1 b := p φ1 H1 s S
end

abbrev Rel (α β : Type) := PySem.W.Frag → (Addr → Prop) → (Nat → Addr) → Hl → Hp → α → β → Prop
abbrev RT (α : Type) := St → Hp → (α → Hp → Prop) → Prop
/-- the reading t does what f says -/
def Sn {α β : Type} (X : Cx) (W : WX) (rel : Rel α β) (t : RT α) (f : En → Hl → R β) : Prop :=
  ∀ (Z : Addr → Prop) (φ : Nat → Addr) (ρ : En) (h : Hl) (σ : St) (H : Hp) (Q : α → Hp → Prop), SimH X.K Z φ h H → SimE X.K Z φ h H ρ σ →
    PostR X.K X.mg (fun c d H' => W c d σ H') Z φ h H (f ρ h) (fun φ' h' H' b => ∀ a, rel X.K Z φ' h' H' a b → Q a H') → t σ H Q
def relV : Rel V Val := fun K Z φ h H x v => RpV K Z φ h H x v
def relB : Rel Bool Bool := fun _ _ _ _ _ x v => x = v
def relA : Rel (List V) (List Val) := fun K Z φ h H x v => RpVs K Z φ h H x v
/-- an expression, a test, arguments -/
def Ex (X : Cx) (W : WX) (e : Expr) (f : En → Hl → R Val) : Prop := ∃ t, PE X e t ∧ Sn X W relV t f
def Tx (X : Cx) (W : WX) (e : Expr) (f : En → Hl → R Bool) : Prop := ∃ t, PT X e t ∧ Sn X W relB t f
def Wx (X : Cx) (W : WX) (e : Expr) (f : En → Hl → R Bool) : Prop := ∃ t, PW X e t ∧ Sn X W relB t f
def Ax (X : Cx) (W : WX) (es : List Expr) (f : En → Hl → R (List Val)) : Prop := ∃ t, PA X es t ∧ Sn X W relA t f
/-- an expression that makes a new list -/
def Lx (X : Cx) (W : WX) (e : Expr) (f : En → Hl → R (List PyData)) : Prop := ∃ t, PE X e t ∧
  ∀ (Z : Addr → Prop) (φ : Nat → Addr) (ρ : En) (h : Hl) (σ : St) (H : Hp) (Q : VK), SimH X.K Z φ h H → SimE X.K Z φ h H ρ σ →
    PostR X.K X.mg (fun c d H' => W c d σ H') Z φ h H (f ρ h) (fun φ' h' H' ds => ∀ p xs, H' p = none → RpAll X.K H' (live Z φ' h') xs ds → Q (.ref p) (L2.upd H' p (.lst xs))) → t σ H Q

section
variable {X : Cx} {W : WX}
/-- one after the other -/
theorem Sn.seq {α β γ : Type} {rel : Rel α β} {t : RT α} {f : En → Hl → R β} (F : Sn X W rel t f) {Z : Addr → Prop} {φ : Nat → Addr} {ρ : En} {h : Hl} {σ : St} {H : Hp} {Q1 : α → Hp → Prop} {g : β → Hl → R γ} {κ : (Nat → Addr) → Hl → Hp → γ → Prop}
    (S : SimH X.K Z φ h H) (E : SimE X.K Z φ h H ρ σ) (p : PostR X.K X.mg (fun c d H' => W c d σ H') Z φ h H ((f ρ h).bind g) κ)
    (k : ∀ b h1 φ1 H1 a, Stp φ Z h H φ1 h1 H1 → SimH X.K Z φ1 h1 H1 → SimE X.K Z φ1 h1 H1 ρ σ → rel X.K Z φ1 h1 H1 a b → PostR X.K X.mg (fun c d H' => W c d σ H') Z φ1 h1 H1 (g b h1) κ → Q1 a H1) : t σ H Q1 := by
  refine F Z φ ρ h σ H Q1 S E ?_
  cases e : f ρ h with
  | stuck => rw [e] at p; exact p
  | exc x h' => rw [e] at p; exact p
  | ok b h' =>
    rw [e] at p
    exact fun φ' H' s' S' a r => k b h' φ' H' a s' S' (E.step S s') r (PostR.shift p s')
theorem Lx.ex {e : Expr} {f : En → Hl → R (List PyData)} (F : Lx X W e f) : Ex X W e (fun ρ h => (f ρ h).bind fun ds h1 => .ok (.dat (.list ds)) h1) := by
  obtain ⟨t, ht, F⟩ := F
  refine ⟨t, ht, fun Z φ ρ h σ H Q S E p => F Z φ ρ h σ H Q S E ?_⟩
  dsimp only at p
  cases e : f ρ h with
  | stuck => rw [e] at p; exact p
  | exc x h' => rw [e] at p; exact p
  | ok b h' =>
    rw [e] at p
    refine fun φ' H' s' S' q xs n r => p φ' _ (s'.trans (stp_upd n)) (S'.upd n) _ (.lst upd_same (S'.notLiveNew n) (RpAll.step S' (stp_upd n) r))

/-! ### names and constants -/
def varD (i : Nat) : En → Hl → R Val := fun ρ h => match ρ[i]? with
  | some (some v) => .ok v h
  | _ => .stuck
theorem ex_var {i : Nat} {x : Str} {pos : Pos} (hN : X.N[i]? = some x) (hv : Vis X.env.scope x) (hd : (x == ("__debug__" : Str)) = false) (hcd : (x == ("__classdict__" : Str)) = false) : Ex X W (.Name x pos) (varD i) := by
  refine ⟨_, pe_var hN hv hd hcd, fun Z φ ρ h σ H Q S E p => ?_⟩
  unfold varD at p
  split at p
  · rename_i v e
    obtain ⟨x, q, r⟩ := E.get i v e
    exact ⟨x, q, p φ H Stp.refl S x r⟩
  · exact p.elim
/-- an own list is given up where it is read -/
def mvD (i : Nat) : En → Hl → R Val := fun ρ h => match ρ[i]? with
  | some (some (.ref k)) => (match h[k]? with
    | some (some (.lst ds)) => .ok (.dat (.list ds)) (h.set k none)
    | _ => .stuck)
  | some (some v) => .ok v h
  | _ => .stuck
theorem ex_mv {i : Nat} {x : Str} {pos : Pos} (hN : X.N[i]? = some x) (hv : Vis X.env.scope x) (hd : (x == ("__debug__" : Str)) = false) (hcd : (x == ("__classdict__" : Str)) = false) : Ex X W (.Name x pos) (mvD i) := by
  refine ⟨_, pe_var hN hv hd hcd, fun Z φ ρ h σ H Q S E p => ?_⟩
  unfold mvD at p
  split at p
  · rename_i k e
    split at p
    · rename_i ds g
      obtain ⟨x, q, r⟩ := E.get i _ e
      obtain ⟨r1, r2⟩ := r
      subst r2
      obtain ⟨s1, S1, r3⟩ := freeze S g
      exact ⟨_, q, p φ H s1 S1 _ r3⟩
    · exact p.elim
  · rename_i v _ e
    obtain ⟨x, q, r⟩ := E.get i v e
    exact ⟨x, q, p φ H Stp.refl S x r⟩
  · exact p.elim
def cD (d : PyData) : En → Hl → R Val := fun _ h => .ok (.dat d) h
theorem ex_int {i : Int} {j : Nat} {pos : Pos} : Ex X W (.Constant (.int i) j pos) (cD (.int i)) := ⟨_, pe_int, fun Z φ ρ h σ H Q S E p => p φ H Stp.refl S _ (.int i)⟩
theorem ex_bl {i : Bool} {j : Nat} {pos : Pos} : Ex X W (.Constant (.bool i) j pos) (cD (.bool i)) := ⟨_, pe_bl, fun Z φ ρ h σ H Q S E p => p φ H Stp.refl S _ (.bl i)⟩
theorem ex_non {j : Nat} {pos : Pos} : Ex X W (.Constant .none j pos) (cD .none) := ⟨_, pe_non, fun Z φ ρ h σ H Q S E p => p φ H Stp.refl S _ .non⟩
theorem ex_str {i : Str} {j : Nat} {pos : Pos} : Ex X W (.Constant (.str i) j pos) (cD (.str i)) := ⟨_, pe_str, fun Z φ ρ h σ H Q S E p => p φ H Stp.refl S _ (.str i)⟩
/-- a module's constant -/
def ConAt (K : PySem.W.Frag) (mg : Str → Option Value) (x : Str) (d : PyData) : Prop := ∃ u v, mg x = some u ∧ RelV v u ∧ Rp K (fun _ => none) (fun _ => True) v d
mutual
theorem Rp.fix {K : PySem.W.Frag} {H : Hp} {L : Addr → Prop} : ∀ {x : V} {d : PyData}, Rp K (fun _ => none) (fun _ => True) x d → Rp K H L x d
  | _, _, .non => .non
  | _, _, .bl b => .bl b
  | _, _, .int b => .int b
  | _, _, .str b => .str b
  | _, _, .lst e n r => absurd e (by simp)
  | _, _, .tup e r => .tup (by
      rcases e with (q | ⟨o, q⟩) | q
      · simp at q
      · simp at q
      · exact .inr q) (RpAll.fix r)
theorem RpAll.fix {K : PySem.W.Frag} {H : Hp} {L : Addr → Prop} : ∀ {x : List V} {d : List PyData}, RpAll K (fun _ => none) (fun _ => True) x d → RpAll K H L x d
  | _, _, .nil => .nil
  | _, _, .cons r t => .cons (Rp.fix r) (RpAll.fix t)
end
theorem ex_con {x : Str} {d : PyData} {pos : Pos} (hg : Gl X x) (c : ConAt X.K X.mg x d) (hd : (x == ("__debug__" : Str)) = false) : Ex X W (.Name x pos) (cD d) := by
  obtain ⟨u, v, hm, r, q⟩ := c
  exact ⟨_, pe_glob hg hm r hd, fun Z φ ρ h σ H Q S E p => p φ H Stp.refl S _ q.fix⟩

/-! ### operands -/
/-- a value as data, read now -/
def peek (v : Val) (h : Hl) : Option PyData := match v with
  | .dat d => some d
  | .ref k => (match h[k]? with
    | some (some (.lst ds)) => some (.list ds)
    | _ => none)
  | .scr _ => none
def peeks : List Val → Hl → Option (List PyData)
  | [], _ => some []
  | v :: vs, h => match peek v h, peeks vs h with
    | some d, some ds => some (d :: ds)
    | _, _ => none
/-- what can be read as data: the outermost list may be one that changes later -/
def Rq (K : PySem.W.Frag) (L : Addr → Prop) (H : Hp) (x : V) (d : PyData) : Prop := Rp K H L x d ∨ ∃ a xs ds, x = .ref a ∧ d = .list ds ∧ H a = some (.lst xs) ∧ RpAll K H L xs ds
inductive RqAll (K : PySem.W.Frag) (L : Addr → Prop) (H : Hp) : List V → List PyData → Prop
  | nil : RqAll K L H [] []
  | cons {v : V} {vs : List V} {d : PyData} {ds : List PyData} : Rq K L H v d → RqAll K L H vs ds → RqAll K L H (v :: vs) (d :: ds)
theorem Rq.lst {K : PySem.W.Frag} {L : Addr → Prop} {H : Hp} {x : V} {ds : List PyData} (r : Rq K L H x (.list ds)) : ∃ a xs, x = .ref a ∧ H a = some (.lst xs) ∧ RpAll K H L xs ds := by
  rcases r with r | ⟨a, xs, ds', rfl, e, q, r⟩
  · cases r with
    | lst e n r => exact ⟨_, _, rfl, e, r⟩
  · cases e; exact ⟨a, xs, rfl, q, r⟩
theorem Rq.tup {K : PySem.W.Frag} {L : Addr → Prop} {H : Hp} {x : V} {ds : List PyData} (r : Rq K L H x (.tuple ds)) : ∃ a xs, x = .ref a ∧ SqT K H a xs ∧ RpAll K H L xs ds := by
  rcases r with r | ⟨a, xs, ds', rfl, e, q, r⟩
  · cases r with
    | tup e r => exact ⟨_, _, rfl, e, r⟩
  · cases e
theorem Rq.int {K : PySem.W.Frag} {L : Addr → Prop} {H : Hp} {x : V} {i : Int} (r : Rq K L H x (.int i)) : x = .int i := by
  rcases r with r | ⟨a, xs, ds', rfl, e, q, r⟩
  · cases r; rfl
  · cases e
theorem Rq.str {K : PySem.W.Frag} {L : Addr → Prop} {H : Hp} {x : V} {i : Str} (r : Rq K L H x (.str i)) : x = .str i := by
  rcases r with r | ⟨a, xs, ds', rfl, e, q, r⟩
  · cases r; rfl
  · cases e
theorem Rq.bl {K : PySem.W.Frag} {L : Addr → Prop} {H : Hp} {x : V} {i : Bool} (r : Rq K L H x (.bool i)) : x = .bl i := by
  rcases r with r | ⟨a, xs, ds', rfl, e, q, r⟩
  · cases r; rfl
  · cases e
theorem Rq.non {K : PySem.W.Frag} {L : Addr → Prop} {H : Hp} {x : V} (r : Rq K L H x .none) : x = .non := by
  rcases r with r | ⟨a, xs, ds', rfl, e, q, r⟩
  · cases r; rfl
  · cases e
mutual
theorem Rp.dp {K : PySem.W.Frag} {H : Hp} {L : Addr → Prop} : ∀ {x : V} {d : PyData}, Rp K H L x d → Dp K H x d
  | _, _, .non => .non
  | _, _, .bl b => .bl b
  | _, _, .int b => .int b
  | _, _, .str b => .str b
  | _, _, .lst e n r => .lst (SqL.of e) (RpAll.dp r)
  | _, _, .tup e r => .tup e (RpAll.dp r)
theorem RpAll.dp {K : PySem.W.Frag} {H : Hp} {L : Addr → Prop} : ∀ {x : List V} {d : List PyData}, RpAll K H L x d → DpAll K H x d
  | _, _, .nil => .nil
  | _, _, .cons r t => .cons (Rp.dp r) (RpAll.dp t)
end
theorem Rq.dp {K : PySem.W.Frag} {L : Addr → Prop} {H : Hp} {x : V} {d : PyData} (r : Rq K L H x d) : Dp K H x d := by
  rcases r with r | ⟨a, xs, ds, rfl, rfl, q, r⟩
  · exact r.dp
  · exact .lst (SqL.of q) r.dp
theorem peek_ok {K : PySem.W.Frag} {Z : Addr → Prop} {φ : Nat → Addr} {h : Hl} {H : Hp} {x : V} {v : Val} {d : PyData} (S : SimH K Z φ h H) (r : RpV K Z φ h H x v) (e : peek v h = some d) : Rq K (live Z φ h) H x d := by
  cases v with
  | dat d' => cases e; exact .inl r
  | ref k =>
    unfold peek at e
    dsimp only at e
    split at e
    · rename_i ds g
      cases e
      obtain ⟨xs, e1, r1⟩ := S.ol g
      exact .inr ⟨φ k, xs, ds, r.2, rfl, e1, r1⟩
    · cases e
  | scr ns => cases e
theorem peeks_ok {K : PySem.W.Frag} {Z : Addr → Prop} {φ : Nat → Addr} {h : Hl} {H : Hp} (S : SimH K Z φ h H) : ∀ {xs : List V} {vs : List Val} {ds : List PyData}, RpVs K Z φ h H xs vs → peeks vs h = some ds → RqAll K (live Z φ h) H xs ds
  | _, _, _, .nil, e => by cases e; exact .nil
  | _, _, _, .cons (v := v) (vs := vs) r t, e => by
    unfold peeks at e
    split at e
    · rename_i d ds e1 e2
      cases e
      exact .cons (peek_ok S r e1) (peeks_ok S t e2)
    · cases e

/-! ### operations on two values -/
def OpOk (X : Cx) (fv : Value → Value → Sem Value) (g : PyData → PyData → Option PyData) : Prop :=
  ∃ r, OpR X fv r ∧ ∀ (Z : Addr → Prop) (φ : Nat → Addr) (h : Hl) (H : Hp) (x y : V) (d e z : PyData) (Q : VK), SimH X.K Z φ h H → Rq X.K (live Z φ h) H x d → Rq X.K (live Z φ h) H y e → g d e = some z →
    (∀ H' w, Stp φ Z h H φ h H' → SimH X.K Z φ h H' → Rp X.K H' (live Z φ h) w z → Q w H') → r x y H Q
theorem OpOk.or {fv : Value → Value → Sem Value} {g g' : PyData → PyData → Option PyData} (o : OpOk X fv g) (o' : OpOk X fv g') : OpOk X fv (fun d e => (g d e).orElse fun _ => g' d e) := by
  obtain ⟨r, h1, h2⟩ := o
  obtain ⟨r', h1', h2'⟩ := o'
  refine ⟨_, h1.or h1', fun Z φ h H x y d e z Q S rx ry eg q => ?_⟩
  cases eq : g d e with
  | some z' =>
    simp only [eq, Option.orElse_some] at eg
    exact .inl (h2 Z φ h H x y d e z Q S rx ry (by rw [eq]; exact eg) q)
  | none =>
    simp only [eq, Option.orElse_none] at eg
    exact .inr (h2' Z φ h H x y d e z Q S rx ry eg q)
/-- the operation on values read now -/
def opV (g : PyData → PyData → Option PyData) (a b : Val) (h : Hl) : R Val := match peek a h, peek b h with
  | some d, some e => (match g d e with
    | some z => .ok (.dat z) h
    | none => .stuck)
  | _, _ => .stuck
def binD (g : PyData → PyData → Option PyData) (fa fb : En → Hl → R Val) : En → Hl → R Val := fun ρ h => (fa ρ h).bind fun a h1 => (fb ρ h1).bind fun b h2 => opV g a b h2
theorem sn_op {fv : Value → Value → Sem Value} {g : PyData → PyData → Option PyData} {r : R2} {ta tb : TE} {fa fb : En → Hl → R Val} (ha : Sn X W relV ta fa) (hb : Sn X W relV tb fb)
    (hr : ∀ (Z : Addr → Prop) (φ : Nat → Addr) (h : Hl) (H : Hp) (x y : V) (d e z : PyData) (Q : VK), SimH X.K Z φ h H → Rq X.K (live Z φ h) H x d → Rq X.K (live Z φ h) H y e → g d e = some z →
      (∀ H' w, Stp φ Z h H φ h H' → SimH X.K Z φ h H' → Rp X.K H' (live Z φ h) w z → Q w H') → r x y H Q) : Sn X W relV (tOp r ta tb) (binD g fa fb) := by
  intro Z φ ρ h σ H Q S E p
  refine ha.seq S E p fun a h1 φ1 H1 x s1 S1 E1 r1 p1 => ?_
  refine hb.seq S1 E1 p1 fun b h2 φ2 H2 y s2 S2 E2 r2 p2 => ?_
  unfold opV at p2
  split at p2
  · rename_i d e e1 e2
    split at p2
    · rename_i z eg
      exact hr Z φ2 h2 H2 x y d e z Q S2 (peek_ok S2 (RpV.step S1 s2 r1) e1) (peek_ok S2 r2 e2) eg fun H' w s' S' rw' => p2 φ2 H' s' S' w rw'
    · exact p2.elim
  · exact p2.elim
theorem ex_op {op : Operator} {g : PyData → PyData → Option PyData} {a b : Expr} {fa fb : En → Hl → R Val} {pos : Pos} (o : OpOk X (binaryOp op) g) (ha : Ex X W a fa) (hb : Ex X W b fb) : Ex X W (.BinOp a op b pos) (binD g fa fb) := by
  obtain ⟨r, h1, h2⟩ := o
  obtain ⟨ta, pa, ha⟩ := ha
  obtain ⟨tb, pb, hb⟩ := hb
  exact ⟨_, pe_op h1 pa pb, sn_op (fv := binaryOp op) ha hb h2⟩
theorem ex_cmp {op : CmpOp} {g : PyData → PyData → Option PyData} {a b : Expr} {fa fb : En → Hl → R Val} {pos : Pos} (o : OpOk X (compareOp op) g) (ha : Ex X W a fa) (hb : Ex X W b fb) (hm : behindInMarks op b = false) : Ex X W (.Compare a [op] [b] pos) (binD g fa fb) := by
  obtain ⟨r, h1, h2⟩ := o
  obtain ⟨ta, pa, ha⟩ := ha
  obtain ⟨tb, pb, hb⟩ := hb
  exact ⟨_, pe_cmpR h1 pa pb hm, sn_op (fv := compareOp op) ha hb h2⟩
/-- a value that is a bool, as a test -/
def tstD (f : En → Hl → R Val) : En → Hl → R Bool := fun ρ h => (f ρ h).bind fun v h1 => match v with
  | .dat (.bool b) => .ok b h1
  | _ => .stuck
theorem sn_tst {t : TE} {f : En → Hl → R Val} (ht : Sn X W relV t f) : Sn X W relB (tB t) (tstD f) := by
  intro Z φ ρ h σ H Q S E p
  refine ht.seq S E p fun v h1 φ1 H1 x s1 S1 E1 r1 p1 => ?_
  split at p1
  · rename_i b
    have e : x = .bl b := by
      cases r1; rfl
    exact ⟨b, e, p1 φ1 H1 Stp.refl S1 b rfl⟩
  · exact p1.elim
theorem tx_cmp {op : CmpOp} {g : PyData → PyData → Option PyData} {a b : Expr} {fa fb : En → Hl → R Val} {pos : Pos} (o : OpOk X (compareOp op) g) (ha : Ex X W a fa) (hb : Ex X W b fb) (hm : behindInMarks op b = false) : Tx X W (.Compare a [op] [b] pos) (tstD (binD g fa fb)) := by
  obtain ⟨r, h1, h2⟩ := o
  obtain ⟨ta, pa, ha⟩ := ha
  obtain ⟨tb, pb, hb⟩ := hb
  exact ⟨_, pt_cmpR h1 pa pb hm, sn_tst (sn_op (fv := compareOp op) ha hb h2)⟩
theorem tx_val {e : Expr} {f : En → Hl → R Val} (he : Ex X W e f) (hi : ∀ whole, isTrue e X.env whole = (do let v ← whole; standAt e.pos; holding [v] (truthy v))) : Tx X W e (tstD f) := by
  obtain ⟨t, pe, ht⟩ := he
  exact ⟨_, pt_val pe hi, sn_tst ht⟩
def andT (f g : En → Hl → R Bool) : En → Hl → R Bool := fun ρ h => (f ρ h).bind fun b h1 => if b = true then g ρ h1 else .ok false h1
def orT (f g : En → Hl → R Bool) : En → Hl → R Bool := fun ρ h => (f ρ h).bind fun b h1 => if b = true then .ok true h1 else g ρ h1
def notT (f : En → Hl → R Bool) : En → Hl → R Bool := fun ρ h => (f ρ h).bind fun b h1 => .ok (!b) h1
theorem wx_and1 {a : Expr} {f : En → Hl → R Bool} {pos : Pos} (ha : Tx X W a f) : Wx X W (.BoolOp .And [a] pos) f := let ⟨t, p, h⟩ := ha; ⟨t, pw_and1 p, h⟩
theorem wx_or1 {a : Expr} {f : En → Hl → R Bool} {pos : Pos} (ha : Tx X W a f) : Wx X W (.BoolOp .Or [a] pos) f := let ⟨t, p, h⟩ := ha; ⟨t, pw_or1 p, h⟩
theorem wx_and {a b : Expr} {rest : List Expr} {f g : En → Hl → R Bool} {pos : Pos} (ha : Tx X W a f) (hb : Wx X W (.BoolOp .And (b :: rest) pos) g) : Wx X W (.BoolOp .And (a :: b :: rest) pos) (andT f g) := by
  obtain ⟨t, p, h⟩ := ha
  obtain ⟨u, q, k⟩ := hb
  refine ⟨_, pw_and p q, fun Z φ ρ hh σ H Q S E po => ?_⟩
  refine h.seq S E po fun b h1 φ1 H1 x s1 S1 E1 r1 p1 => ?_
  cases r1
  cases b with
  | true =>
    rw [if_pos rfl] at p1 ⊢
    exact k Z φ1 ρ h1 σ H1 Q S1 E1 p1
  | false =>
    rw [if_neg Bool.false_ne_true] at p1 ⊢
    exact p1 φ1 H1 Stp.refl S1 _ rfl
theorem wx_or {a b : Expr} {rest : List Expr} {f g : En → Hl → R Bool} {pos : Pos} (ha : Tx X W a f) (hb : Wx X W (.BoolOp .Or (b :: rest) pos) g) : Wx X W (.BoolOp .Or (a :: b :: rest) pos) (orT f g) := by
  obtain ⟨t, p, h⟩ := ha
  obtain ⟨u, q, k⟩ := hb
  refine ⟨_, pw_or p q, fun Z φ ρ hh σ H Q S E po => ?_⟩
  refine h.seq S E po fun b h1 φ1 H1 x s1 S1 E1 r1 p1 => ?_
  cases r1
  cases b with
  | true =>
    rw [if_pos rfl] at p1 ⊢
    exact p1 φ1 H1 Stp.refl S1 _ rfl
  | false =>
    rw [if_neg Bool.false_ne_true] at p1 ⊢
    exact k Z φ1 ρ h1 σ H1 Q S1 E1 p1
theorem Wx.tx {e : Expr} {f : En → Hl → R Bool} (h : Wx X W e f) : Tx X W e f := let ⟨t, p, h⟩ := h; ⟨t, p.pt, h⟩
theorem tx_not {a : Expr} {f : En → Hl → R Bool} {pos : Pos} (ha : Tx X W a f) : Tx X W (.UnaryOp .Not a pos) (notT f) := by
  obtain ⟨t, p, h⟩ := ha
  refine ⟨_, pt_not p, fun Z φ ρ hh σ H Q S E po => ?_⟩
  refine h.seq S E po fun b h1 φ1 H1 x s1 S1 E1 r1 p1 => ?_
  cases r1
  exact p1 φ1 H1 Stp.refl S1 _ rfl
/-! as values: all are bools -/
def boolV (f : En → Hl → R Bool) : En → Hl → R Val := fun ρ h => (f ρ h).bind fun b h1 => .ok (.dat (.bool b)) h1
theorem ex_one {op : BoolOp} {a : Expr} {f : En → Hl → R Val} {pos : Pos} (ha : Ex X W a f) : Ex X W (.BoolOp op [a] pos) f := let ⟨t, p, h⟩ := ha; ⟨t, pe_one p, h⟩
def andV (f g : En → Hl → R Val) : En → Hl → R Val := fun ρ h => (tstD f ρ h).bind fun b h1 => if b = true then g ρ h1 else .ok (.dat (.bool false)) h1
def orV (f g : En → Hl → R Val) : En → Hl → R Val := fun ρ h => (tstD f ρ h).bind fun b h1 => if b = true then .ok (.dat (.bool true)) h1 else g ρ h1
def notV (f : En → Hl → R Val) : En → Hl → R Val := fun ρ h => (tstD f ρ h).bind fun b h1 => .ok (.dat (.bool (!b))) h1
theorem ex_and {a b : Expr} {rest : List Expr} {f g : En → Hl → R Val} {pos : Pos} (ha : Ex X W a f) (hb : Ex X W (.BoolOp .And (b :: rest) pos) g) : Ex X W (.BoolOp .And (a :: b :: rest) pos) (andV f g) := by
  obtain ⟨t, p, h⟩ := ha
  obtain ⟨u, q, k⟩ := hb
  refine ⟨_, pe_and p q, fun Z φ ρ hh σ H Q S E po => ?_⟩
  refine (sn_tst h).seq S E po fun b h1 φ1 H1 x s1 S1 E1 r1 p1 => ?_
  cases r1
  cases b with
  | true =>
    rw [if_pos rfl] at p1 ⊢
    exact k Z φ1 ρ h1 σ H1 Q S1 E1 p1
  | false =>
    rw [if_neg Bool.false_ne_true] at p1 ⊢
    exact p1 φ1 H1 Stp.refl S1 _ (.bl false)
theorem ex_or {a b : Expr} {rest : List Expr} {f g : En → Hl → R Val} {pos : Pos} (ha : Ex X W a f) (hb : Ex X W (.BoolOp .Or (b :: rest) pos) g) : Ex X W (.BoolOp .Or (a :: b :: rest) pos) (orV f g) := by
  obtain ⟨t, p, h⟩ := ha
  obtain ⟨u, q, k⟩ := hb
  refine ⟨_, pe_or p q, fun Z φ ρ hh σ H Q S E po => ?_⟩
  refine (sn_tst h).seq S E po fun b h1 φ1 H1 x s1 S1 E1 r1 p1 => ?_
  cases r1
  cases b with
  | true =>
    rw [if_pos rfl] at p1 ⊢
    exact p1 φ1 H1 Stp.refl S1 _ (.bl true)
  | false =>
    rw [if_neg Bool.false_ne_true] at p1 ⊢
    exact k Z φ1 ρ h1 σ H1 Q S1 E1 p1
theorem ex_not {a : Expr} {f : En → Hl → R Val} {pos : Pos} (ha : Ex X W a f) : Ex X W (.UnaryOp .Not a pos) (notV f) := by
  obtain ⟨t, p, h⟩ := ha
  refine ⟨_, pe_not p, fun Z φ ρ hh σ H Q S E po => ?_⟩
  refine (sn_tst h).seq S E po fun b h1 φ1 H1 x s1 S1 E1 r1 p1 => ?_
  cases r1
  exact p1 φ1 H1 Stp.refl S1 _ (.bl _)
def ifD (c : En → Hl → R Bool) (f g : En → Hl → R Val) : En → Hl → R Val := fun ρ h => (c ρ h).bind fun b h1 => if b = true then f ρ h1 else g ρ h1
theorem ex_if {c a b : Expr} {fc : En → Hl → R Bool} {f g : En → Hl → R Val} {pos : Pos} (hc : Tx X W c fc) (ha : Ex X W a f) (hb : Ex X W b g) : Ex X W (.IfExp c a b pos) (ifD fc f g) := by
  obtain ⟨t, p, h⟩ := hc
  obtain ⟨u, q, k⟩ := ha
  obtain ⟨v, r, l⟩ := hb
  refine ⟨_, pe_ifExp p q r, fun Z φ ρ hh σ H Q S E po => ?_⟩
  refine h.seq S E po fun b h1 φ1 H1 x s1 S1 E1 r1 p1 => ?_
  cases r1
  cases b with
  | true =>
    rw [if_pos rfl] at p1 ⊢
    exact k Z φ1 ρ h1 σ H1 Q S1 E1 p1
  | false =>
    rw [if_neg Bool.false_ne_true] at p1 ⊢
    exact l Z φ1 ρ h1 σ H1 Q S1 E1 p1

/-! ### arguments, displays -/
def nilD : En → Hl → R (List Val) := fun _ h => .ok [] h
def consD (f : En → Hl → R Val) (g : En → Hl → R (List Val)) : En → Hl → R (List Val) := fun ρ h => (f ρ h).bind fun v h1 => (g ρ h1).bind fun vs h2 => .ok (v :: vs) h2
theorem ax_nil : Ax X W [] nilD := ⟨_, pa_nil, fun Z φ ρ h σ H Q S E p => p φ H Stp.refl S _ .nil⟩
theorem ax_cons {e : Expr} {es : List Expr} {f : En → Hl → R Val} {g : En → Hl → R (List Val)} (he : Ex X W e f) (hs : Ax X W es g) (hst : starEach (e :: es) X.env = (false, eval e X.env) :: starEach es X.env) : Ax X W (e :: es) (consD f g) := by
  obtain ⟨t, p, h⟩ := he
  obtain ⟨u, q, k⟩ := hs
  refine ⟨_, pa_cons p q hst, fun Z φ ρ hh σ H Q S E po => ?_⟩
  refine h.seq S E po fun b h1 φ1 H1 x s1 S1 E1 r1 p1 => ?_
  refine k.seq S1 E1 p1 fun bs h2 φ2 H2 xs s2 S2 E2 r2 p2 => ?_
  exact p2 φ2 H2 Stp.refl S2 _ (.cons (RpV.step S1 s2 r1) r2)
/-- all are data -/
def datsV : List Val → Option (List PyData)
  | [] => some []
  | .dat d :: vs => (datsV vs).map (d :: ·)
  | _ :: _ => none
theorem dats_ok {K : PySem.W.Frag} {Z : Addr → Prop} {φ : Nat → Addr} {h : Hl} {H : Hp} : ∀ {xs : List V} {vs : List Val} {ds : List PyData}, RpVs K Z φ h H xs vs → datsV vs = some ds → RpAll K H (live Z φ h) xs ds
  | _, _, _, .nil, e => by cases e; exact .nil
  | _, _, _, .cons (v := v) (vs := vs) r t, e => by
    cases v with
    | dat d =>
      unfold datsV at e
      cases g : datsV vs with
      | none => rw [g] at e; cases e
      | some es =>
        rw [g] at e; cases e
        exact .cons r (dats_ok t g)
    | ref k => cases e
    | scr ns => cases e
def tupD (g : En → Hl → R (List Val)) : En → Hl → R Val := fun ρ h => (g ρ h).bind fun vs h1 => match datsV vs with
  | some ds => if ds.length ≤ sizeLine then .ok (.dat (.tuple ds)) h1 else .stuck
  | none => .stuck
theorem ex_tup {es : List Expr} {g : En → Hl → R (List Val)} {k : Nat} {pos : Pos} (hs : Ax X W es g) : Ex X W (.Tuple es k pos) (tupD g) := by
  obtain ⟨t, p, h⟩ := hs
  refine ⟨_, pe_tup p, fun Z φ ρ hh σ H Q S E po => ?_⟩
  refine h.seq S E po fun b h1 φ1 H1 x s1 S1 E1 r1 p1 => ?_
  split at p1
  · rename_i ds e
    have r2 := dats_ok r1 e
    split at p1
    · rename_i hz
      refine ⟨by rw [r2.length]; exact hz, fun q n => ?_⟩
      exact p1 φ1 _ (stp_upd n) (S1.upd n) _ (.tup (SqT.of upd_same) (RpAll.step S1 (stp_upd n) r2))
    · exact p1.elim
  · exact p1.elim
def lstD (g : En → Hl → R (List Val)) : En → Hl → R (List PyData) := fun ρ h => (g ρ h).bind fun vs h1 => match datsV vs with
  | some ds => if ds.length ≤ sizeLine then .ok ds h1 else .stuck
  | none => .stuck
theorem lx_disp {es : List Expr} {g : En → Hl → R (List Val)} {pos : Pos} (hs : Ax X W es g) : Lx X W (.List es pos) (lstD g) := by
  obtain ⟨t, p, h⟩ := hs
  refine ⟨_, pe_lst p, fun Z φ ρ hh σ H Q S E po => ?_⟩
  refine h.seq S E po fun b h1 φ1 H1 x s1 S1 E1 r1 p1 => ?_
  split at p1
  · rename_i ds e
    have r2 := dats_ok r1 e
    split at p1
    · rename_i hz
      exact ⟨by rw [r2.length]; exact hz, fun q n => p1 φ1 H1 Stp.refl S1 q x n r2⟩
    · exact p1.elim
  · exact p1.elim
end
end Dn
end

section
/-! Dn, part 3: operators, subscripts, slices -/
namespace Dn
open PySem PySem.Spec PyProof.Rows L2

mutual
theorem Dp.plain {K : PySem.W.Frag} {H : Hp} : ∀ {x : V} {d : PyData}, Dp K H x d → d.plain = true
  | _, _, .non => rfl
  | _, _, .bl b => rfl
  | _, _, .int b => rfl
  | _, _, .str b => rfl
  | _, _, .lst e r => by
    simp only [PyData.plain]
    exact DpAll.plain r
  | _, _, .tup e r => by
    simp only [PyData.plain]
    exact DpAll.plain r
theorem DpAll.plain {K : PySem.W.Frag} {H : Hp} : ∀ {x : List V} {d : List PyData}, DpAll K H x d → PyData.plainAll d = true
  | _, _, .nil => rfl
  | _, _, .cons r t => by
    simp only [PyData.plainAll, Bool.and_eq_true]
    exact ⟨Dp.plain r, DpAll.plain t⟩
end
section
variable {X : Cx} {W : WX}

/-! ### ints -/
def intG (C : Int → Int → Bool) (f : Int → Int → PyData) : PyData → PyData → Option PyData
  | .int i, .int j => if C i j = true then some (f i j) else none
  | _, _ => none
theorem intG_some {C : Int → Int → Bool} {f : Int → Int → PyData} {d e z : PyData} (h : intG C f d e = some z) : ∃ i j, d = .int i ∧ e = .int j ∧ C i j = true ∧ z = f i j := by
  unfold intG at h
  split at h
  · split at h
    · cases h; exact ⟨_, _, rfl, rfl, by assumption, rfl⟩
    · cases h
  · cases h
theorem ok_rI0 {fv : Value → Value → Sem Value} {g : Int → Int → V} {f : Int → Int → PyData} (h : OpR X fv (rI0 g)) (hf : ∀ i j K H L, Rp K H L (g i j) (f i j)) : OpOk X fv (intG (fun _ _ => true) f) := by
  refine ⟨_, h, fun Z φ hh H x y d e z Q S rx ry eg q => ?_⟩
  obtain ⟨i, j, rfl, rfl, _, rfl⟩ := intG_some eg
  exact ⟨i, j, rx.int, ry.int, q H _ Stp.refl S (hf i j _ _ _)⟩
theorem ok_rI {fv : Value → Value → Sem Value} {C : Int → Int → Prop} {c : Int → Int → Bool} {g : Int → Int → V} {f : Int → Int → PyData} (h : OpR X fv (rI C g)) (hc : ∀ i j, c i j = true → C i j) (hf : ∀ i j K H L, Rp K H L (g i j) (f i j)) : OpOk X fv (intG c f) := by
  refine ⟨_, h, fun Z φ hh H x y d e z Q S rx ry eg q => ?_⟩
  obtain ⟨i, j, rfl, rfl, hcc, rfl⟩ := intG_some eg
  exact ⟨i, j, rx.int, ry.int, hc i j hcc, q H _ Stp.refl S (hf i j _ _ _)⟩
def subD : PyData → PyData → Option PyData := intG (fun _ _ => true) fun i j => .int (i - j)
theorem ok_sub : OpOk X (binaryOp .Sub) subD := ok_rI0 op_sub fun _ _ _ _ _ => .int _
def mulC (i j : Int) : Bool := (decide (-(2 ^ 64) < i) && decide (i < 2 ^ 64)) || (decide (-(2 ^ 64) < j) && decide (j < 2 ^ 64))
def mulI : PyData → PyData → Option PyData := intG mulC fun i j => .int (i * j)
theorem ok_mulI : OpOk X (binaryOp .Mult) mulI := ok_rI op_mul (fun i j h => by simpa [mulC, CMul, Bool.or_eq_true, Bool.and_eq_true] using h) fun _ _ _ _ _ => .int _
def divC (_ j : Int) : Bool := decide (0 < j) && decide (j < 1073741824)
def divD : PyData → PyData → Option PyData := intG divC fun i j => .int (i / j)
theorem ok_div : OpOk X (binaryOp .FloorDiv) divD := ok_rI op_fdiv (fun i j h => by simpa [divC, CDiv, Bool.and_eq_true] using h) fun _ _ _ _ _ => .int _
def modD : PyData → PyData → Option PyData := intG (fun _ j => decide (0 < j)) fun i j => .int (i % j)
theorem ok_mod : OpOk X (binaryOp .Mod) modD := ok_rI op_mod (fun i j h => by simpa using h) fun _ _ _ _ _ => .int _
def powC (i j : Int) : Bool := decide (0 ≤ j) && decide (j ≤ 1000000) && decide (i.natAbs < 2 ^ 64)
def powD : PyData → PyData → Option PyData := intG powC fun i j => .int (i ^ j.toNat)
theorem ok_pow : OpOk X (binaryOp .Pow) powD := ok_rI op_pow (fun i j h => by simpa [powC, CPow, Bool.and_eq_true, and_assoc] using h) fun _ _ _ _ _ => .int _
def shlD : PyData → PyData → Option PyData := intG powC fun i j => .int (i * 2 ^ j.toNat)
theorem ok_shl : OpOk X (binaryOp .LShift) shlD := ok_rI op_shl (fun i j h => by simpa [powC, CPow, Bool.and_eq_true, and_assoc] using h) fun _ _ _ _ _ => .int _
def shrD : PyData → PyData → Option PyData := intG (fun _ j => decide (0 ≤ j)) fun i j => .int (i / 2 ^ j.toNat)
theorem ok_shr : OpOk X (binaryOp .RShift) shrD := ok_rI op_shr (fun i j h => by simpa using h) fun _ _ _ _ _ => .int _
def bandD : PyData → PyData → Option PyData := intG (fun _ _ => true) fun i j => .int (Builtin.bitAnd i j)
theorem ok_band : OpOk X (binaryOp .BitAnd) bandD := ok_rI0 op_and fun _ _ _ _ _ => .int _
def borD : PyData → PyData → Option PyData := intG (fun _ _ => true) fun i j => .int (Builtin.bitOr i j)
theorem ok_bor : OpOk X (binaryOp .BitOr) borD := ok_rI0 op_or fun _ _ _ _ _ => .int _

/-! ### + and * -/
def addI : PyData → PyData → Option PyData := intG (fun _ _ => true) fun i j => .int (i + j)
def addS : PyData → PyData → Option PyData
  | .str i, .str j => if i.length + j.length ≤ sizeLine then some (.str (i ++ j)) else none
  | _, _ => none
def addT : PyData → PyData → Option PyData
  | .tuple i, .tuple j => if i.length + j.length ≤ sizeLine then some (.tuple (i ++ j)) else none
  | _, _ => none
def addL : PyData → PyData → Option PyData
  | .list i, .list j => if i.length + j.length ≤ sizeLine then some (.list (i ++ j)) else none
  | _, _ => none
theorem ok_addI : OpOk X (binaryOp .Add) addI := ok_rI0 op_add fun _ _ _ _ _ => .int _
theorem ok_addS : OpOk X (binaryOp .Add) addS := by
  refine ⟨_, op_add_str, fun Z φ hh H x y d e z Q S rx ry eg q => ?_⟩
  unfold addS at eg
  split at eg
  · split at eg
    · cases eg
      exact ⟨_, _, rx.str, ry.str, by assumption, q H _ Stp.refl S (.str _)⟩
    · cases eg
  · cases eg
theorem RpAll.nil_iff {K : PySem.W.Frag} {H : Hp} {L : Addr → Prop} {xs : List V} {ds : List PyData} (r : RpAll K H L xs ds) : xs = [] ↔ ds = [] := by
  cases r with
  | nil => simp
  | cons _ _ => simp
theorem ok_addT : OpOk X (binaryOp .Add) addT := by
  refine ⟨_, op_catA, fun Z φ hh H x y d e z Q S rx ry eg q => ?_⟩
  unfold addT at eg
  split at eg
  · split at eg
    · cases eg
      obtain ⟨a, xs, rfl, ha, ra⟩ := rx.tup
      obtain ⟨b, ys, rfl, hb, rb⟩ := ry.tup
      rename_i hz
      rw [← ra.length, ← rb.length] at hz
      refine ⟨a, b, xs, ys, rfl, rfl, ha, hb, hz, ?_⟩
      refine ⟨fun z => ?_, fun hx z => ?_, fun hx hy p n => ?_⟩
      · have e1 := ra.nil_iff.mp z
        subst e1
        exact q H _ Stp.refl S (.tup hb (by simpa using rb))
      · have e1 := rb.nil_iff.mp z
        subst e1
        exact q H _ Stp.refl S (.tup ha (by simpa using ra))
      · exact q _ _ (stp_upd n) (S.upd n) (.tup (SqT.of upd_same) (RpAll.step S (stp_upd n) (ra.append rb)))
    · cases eg
  · cases eg
theorem ok_addL : OpOk X (binaryOp .Add) addL := by
  refine ⟨_, op_cat, fun Z φ hh H x y d e z Q S rx ry eg q => ?_⟩
  unfold addL at eg
  split at eg
  · split at eg
    · cases eg
      obtain ⟨a, xs, rfl, ha, ra⟩ := rx.lst
      obtain ⟨b, ys, rfl, hb, rb⟩ := ry.lst
      rename_i hz
      rw [← ra.length, ← rb.length] at hz
      exact ⟨a, b, xs, ys, rfl, rfl, ha, hb, hz, fun p n => q _ _ (stp_upd n) (S.upd n) (.lst upd_same (S.notLiveNew n) (RpAll.step S (stp_upd n) (ra.append rb)))⟩
    · cases eg
  · cases eg
def addD : PyData → PyData → Option PyData := fun d e => (addI d e).orElse fun _ => (addS d e).orElse fun _ => (addT d e).orElse fun _ => addL d e
theorem ok_add : OpOk X (binaryOp .Add) addD := ok_addI.or (ok_addS.or (ok_addT.or ok_addL))

/-! ### == and its like -/
def dpt (d e : PyData) : Bool := decide (min d.depth e.depth ≤ 60)
def eqD (d e : PyData) : Option PyData := if dpt d e = true then some (.bool (PyData.eqv d e)) else none
def neD (d e : PyData) : Option PyData := if dpt d e = true then some (.bool (!PyData.eqv d e)) else none
theorem ok_eq (hu : X.A.units + 65 < cLine) : OpOk X (compareOp .Eq) eqD := by
  refine ⟨fun x y H Q => ∃ d e, Dp X.K H x d ∧ Dp X.K H y e ∧ dpt d e = true ∧ Q (.bl (PyData.eqv d e)) H, fun pins s σ H x y v u Q I rx ry h => ?_, fun Z φ hh H x y d e z Q S rx ry eg q => ?_⟩
  · obtain ⟨d, e, hd, he, hm, q⟩ := h
    obtain ⟨as, r1⟩ := Dp.reads I d x v hd rx
    obtain ⟨bs, r2⟩ := Dp.reads I e y u he ry
    have hm' : min d.depth e.depth ≤ 60 := by simpa [dpt] using hm
    exact PySem.SeqAt.eq_plain r1 r2 (Dp.plain hd) (Dp.plain he) (by omega) ⟨.bl _, H, I, rfl, q⟩
  · unfold eqD at eg
    split at eg
    · cases eg; exact ⟨d, e, rx.dp, ry.dp, by assumption, q H _ Stp.refl S (.bl _)⟩
    · cases eg
theorem ok_ne (hu : X.A.units + 65 < cLine) : OpOk X (compareOp .NotEq) neD := by
  refine ⟨fun x y H Q => ∃ d e, Dp X.K H x d ∧ Dp X.K H y e ∧ dpt d e = true ∧ Q (.bl (!PyData.eqv d e)) H, fun pins s σ H x y v u Q I rx ry h => ?_, fun Z φ hh H x y d e z Q S rx ry eg q => ?_⟩
  · obtain ⟨d, e, hd, he, hm, q⟩ := h
    obtain ⟨as, r1⟩ := Dp.reads I d x v hd rx
    obtain ⟨bs, r2⟩ := Dp.reads I e y u he ry
    have hm' : min d.depth e.depth ≤ 60 := by simpa [dpt] using hm
    exact PySem.SeqAt.ne_plain r1 r2 (Dp.plain hd) (Dp.plain he) (by omega) ⟨.bl _, H, I, rfl, q⟩
  · unfold neD at eg
    split at eg
    · cases eg; exact ⟨d, e, rx.dp, ry.dp, by assumption, q H _ Stp.refl S (.bl _)⟩
    · cases eg

/-! ### < and its like -/
def ltI : PyData → PyData → Option PyData := intG (fun _ _ => true) fun i j => .bool (decide (i < j))
def leI : PyData → PyData → Option PyData := intG (fun _ _ => true) fun i j => .bool (decide (i ≤ j))
def gtI : PyData → PyData → Option PyData := intG (fun _ _ => true) fun i j => .bool (decide (j < i))
def geI : PyData → PyData → Option PyData := intG (fun _ _ => true) fun i j => .bool (decide (j ≤ i))
/-- alike data that are not None -/
def cmpC (d e : PyData) : Bool := PySem.W.alike d e && dpt d e && (match d with | .none => false | _ => true)
def cmpG (f : PyData → PyData → Bool) (d e : PyData) : Option PyData := if cmpC d e = true then some (.bool (f d e)) else none
theorem ok_cmpG {op : CmpOp} {f : PyData → PyData → Bool} (hu : X.A.units + 65 < cLine)
    (hf : ∀ {prog : Program} {w : World} {A : Around} {E : Value → Shared → Prop} {s : Shared} {a b : Value} {da db : PyData} {as bs : List Addr} {Q : Value → Shared → Prop} (ra : Reads s.heap a da as) (rb : Reads s.heap b db bs) (h : PySem.W.alike da db = true) (hn : da ≠ .none) (hu : A.units + min da.depth db.depth < cLine) (hq : Q (.bool (f da db)) s), wpAny (model prog w) A (compareOp op a b) Q E s) :
    OpOk X (compareOp op) (cmpG f) := by
  refine ⟨fun x y H Q => ∃ d e, Dp X.K H x d ∧ Dp X.K H y e ∧ cmpC d e = true ∧ Q (.bl (f d e)) H, fun pins s σ H x y v u Q I rx ry h => ?_, fun Z φ hh H x y d e z Q S rx ry eg q => ?_⟩
  · obtain ⟨d, e, hd, he, hm, q⟩ := h
    obtain ⟨as, r1⟩ := Dp.reads I d x v hd rx
    obtain ⟨bs, r2⟩ := Dp.reads I e y u he ry
    simp only [cmpC, Bool.and_eq_true] at hm
    have hm' : min d.depth e.depth ≤ 60 := by simpa [dpt] using hm.1.2
    exact hf r1 r2 hm.1.1 (fun z => by subst z; exact absurd hm.2 (by simp)) (by omega) ⟨.bl _, H, I, rfl, q⟩
  · unfold cmpG at eg
    split at eg
    · cases eg; exact ⟨d, e, rx.dp, ry.dp, by assumption, q H _ Stp.refl S (.bl _)⟩
    · cases eg
def ltD : PyData → PyData → Option PyData := fun d e => (ltI d e).orElse fun _ => cmpG PySem.W.dataLt d e
def leD : PyData → PyData → Option PyData := fun d e => (leI d e).orElse fun _ => cmpG (fun d e => !PySem.W.dataLt e d) d e
def gtD : PyData → PyData → Option PyData := fun d e => (gtI d e).orElse fun _ => cmpG (fun d e => PySem.W.dataLt e d) d e
def geD : PyData → PyData → Option PyData := fun d e => (geI d e).orElse fun _ => cmpG (fun d e => !PySem.W.dataLt d e) d e
theorem ok_lt (hu : X.A.units + 65 < cLine) : OpOk X (compareOp .Lt) ltD := (ok_rI0 op_lt fun _ _ _ _ _ => .bl _).or (ok_cmpG hu PySem.W.lt_data)
theorem ok_le (hu : X.A.units + 65 < cLine) : OpOk X (compareOp .LtE) leD := (ok_rI0 op_le fun _ _ _ _ _ => .bl _).or (ok_cmpG hu PySem.W.le_data)
theorem ok_gt (hu : X.A.units + 65 < cLine) : OpOk X (compareOp .Gt) gtD := (ok_rI0 op_gt fun _ _ _ _ _ => .bl _).or (ok_cmpG hu PySem.W.gt_data)
theorem ok_ge (hu : X.A.units + 65 < cLine) : OpOk X (compareOp .GtE) geD := (ok_rI0 op_ge fun _ _ _ _ _ => .bl _).or (ok_cmpG hu PySem.W.ge_data)

/-! ### in, not in, is None -/
def inC (d : PyData) (xs : List PyData) : Bool := decide (min (PyData.depthAll xs) d.depth ≤ 60)
def inSq (neg : Bool) : PyData → PyData → Option PyData
  | d, .list xs => if inC d xs = true then some (.bool (xor neg (xs.any fun y => PyData.eqv y d))) else none
  | d, .tuple xs => if inC d xs = true then some (.bool (xor neg (xs.any fun y => PyData.eqv y d))) else none
  | .str c, .str t => (match c.cps.toList with
    | [k] => some (.bool (xor neg (decide (k ∈ t.cps.toList))))
    | _ => none)
  | _, _ => none
theorem xor_f (b : Bool) : xor false b = b := by cases b <;> rfl
theorem xor_t (b : Bool) : xor true b = !b := by cases b <;> rfl
theorem ok_in0 (hu : X.A.units + 65 < cLine) : OpOk X (compareOp .In) (inSq false) := by
  refine ⟨fun x y H Q => (∃ d e ds, Dp X.K H x d ∧ Dp X.K H y e ∧ (e = .list ds ∨ e = .tuple ds) ∧ inC d ds = true ∧ Q (.bl (ds.any fun y => PyData.eqv y d)) H) ∨ ∃ (c : Nat) (z : Str), x = .str ⟨#[c]⟩ ∧ y = .str z ∧ Q (.bl (decide (c ∈ z.cps.toList))) H, fun pins s σ H x y v u Q I rx ry h => ?_, fun Z φ hh H x y d e z Q S rx ry eg q => ?_⟩
  · rcases h with ⟨d, e, ds, hd, he, hm, hc, q⟩ | ⟨c, z, rfl, rfl, q⟩
    · obtain ⟨as, r1⟩ := Dp.reads I d x v hd rx
      obtain ⟨bs, r2⟩ := Dp.reads I e y u he ry
      have hc' : min (PyData.depthAll ds) d.depth ≤ 60 := by simpa [inC] using hc
      have pe := Dp.plain he
      rcases hm with rfl | rfl
      · exact PySem.SeqAt.in_list_data r2 r1 (by simpa only [PyData.plain] using pe) (Dp.plain hd) (by omega) ⟨.bl _, H, I, rfl, q⟩
      · exact PySem.SeqAt.in_tuple_data r2 r1 (by simpa only [PyData.plain] using pe) (Dp.plain hd) (by omega) ⟨.bl _, H, I, rfl, q⟩
    · exact op_in_sign pins s σ H _ _ v u Q I rx ry ⟨c, z, rfl, rfl, q⟩
  · unfold inSq at eg
    split at eg
    · split at eg
      · cases eg; rw [xor_f] at q; exact .inl ⟨_, _, _, rx.dp, ry.dp, .inl rfl, by assumption, q H _ Stp.refl S (.bl _)⟩
      · cases eg
    · split at eg
      · cases eg; rw [xor_f] at q; exact .inl ⟨_, _, _, rx.dp, ry.dp, .inr rfl, by assumption, q H _ Stp.refl S (.bl _)⟩
      · cases eg
    · split at eg
      · rename_i c t l0 k ek
        cases eg; rw [xor_f] at q
        have ec : c = ⟨#[k]⟩ := by
          cases c with
          | mk a => cases a with
            | mk l => exact congrArg (fun l => Str.mk (Array.mk l)) ek
        exact .inr ⟨k, t, by rw [rx.str, ec], ry.str, q H _ Stp.refl S (.bl _)⟩
      · cases eg
    · cases eg
theorem ok_notin0 (hu : X.A.units + 65 < cLine) : OpOk X (compareOp .NotIn) (inSq true) := by
  refine ⟨fun x y H Q => (∃ d e ds, Dp X.K H x d ∧ Dp X.K H y e ∧ (e = .list ds ∨ e = .tuple ds) ∧ inC d ds = true ∧ Q (.bl (!ds.any fun y => PyData.eqv y d)) H) ∨ ∃ (c : Nat) (z : Str), x = .str ⟨#[c]⟩ ∧ y = .str z ∧ Q (.bl (!decide (c ∈ z.cps.toList))) H, fun pins s σ H x y v u Q I rx ry h => ?_, fun Z φ hh H x y d e z Q S rx ry eg q => ?_⟩
  · rcases h with ⟨d, e, ds, hd, he, hm, hc, q⟩ | ⟨c, z, rfl, rfl, q⟩
    · obtain ⟨as, r1⟩ := Dp.reads I d x v hd rx
      obtain ⟨bs, r2⟩ := Dp.reads I e y u he ry
      have hc' : min (PyData.depthAll ds) d.depth ≤ 60 := by simpa [inC] using hc
      have pe := Dp.plain he
      rcases hm with rfl | rfl
      · exact PySem.SeqAt.notIn_list_data r2 r1 (by simpa only [PyData.plain] using pe) (Dp.plain hd) (by omega) ⟨.bl _, H, I, rfl, q⟩
      · exact PySem.SeqAt.notIn_tuple_data r2 r1 (by simpa only [PyData.plain] using pe) (Dp.plain hd) (by omega) ⟨.bl _, H, I, rfl, q⟩
    · exact op_notIn_sign pins s σ H _ _ v u Q I rx ry ⟨c, z, rfl, rfl, q⟩
  · unfold inSq at eg
    split at eg
    · split at eg
      · cases eg; rw [xor_t] at q; exact .inl ⟨_, _, _, rx.dp, ry.dp, .inl rfl, by assumption, q H _ Stp.refl S (.bl _)⟩
      · cases eg
    · split at eg
      · cases eg; rw [xor_t] at q; exact .inl ⟨_, _, _, rx.dp, ry.dp, .inr rfl, by assumption, q H _ Stp.refl S (.bl _)⟩
      · cases eg
    · split at eg
      · rename_i c t l0 k ek
        cases eg; rw [xor_t] at q
        have ec : c = ⟨#[k]⟩ := by
          cases c with
          | mk a => cases a with
            | mk l => exact congrArg (fun l => Str.mk (Array.mk l)) ek
        exact .inr ⟨k, t, by rw [rx.str, ec], ry.str, q H _ Stp.refl S (.bl _)⟩
      · cases eg
    · cases eg
def nonB : PyData → Bool
  | .none => true
  | _ => false
def isN (neg : Bool) : PyData → PyData → Option PyData
  | d, .none => some (.bool (xor neg (nonB d)))
  | _, _ => none
theorem isN_dec {K : PySem.W.Frag} {L : Addr → Prop} {H : Hp} {x : V} {d : PyData} (r : Rq K L H x d) : decide (x = .non) = nonB d := by
  cases d with
  | none => rw [r.non]; rfl
  | bool b => rw [r.bl]; rfl
  | int b => rw [r.int]; rfl
  | str b => rw [r.str]; rfl
  | list xs => obtain ⟨a, ys, rfl, _⟩ := r.lst; rfl
  | tuple xs => obtain ⟨a, ys, rfl, _⟩ := r.tup; rfl
  | dict kvs =>
    have := Dp.plain r.dp
    cases this
theorem ok_is : OpOk X (compareOp .Is) (isN false) := by
  refine ⟨_, op_isN, fun Z φ hh H x y d e z Q S rx ry eg q => ?_⟩
  unfold isN at eg
  split at eg
  · cases eg
    rw [xor_f, ← isN_dec rx] at q
    exact ⟨ry.non, q H _ Stp.refl S (.bl _)⟩
  · cases eg
theorem ok_isnot : OpOk X (compareOp .IsNot) (isN true) := by
  refine ⟨_, op_notN, fun Z φ hh H x y d e z Q S rx ry eg q => ?_⟩
  unfold isN at eg
  split at eg
  · cases eg
    rw [xor_t, ← isN_dec rx] at q
    exact ⟨ry.non, q H _ Stp.refl S (.bl _)⟩
  · cases eg

/-! ### one operand -/
def unD (g : PyData → Option PyData) (f : En → Hl → R Val) : En → Hl → R Val := fun ρ h => (f ρ h).bind fun a h1 => match peek a h1 with
  | some d => (match g d with
    | some z => .ok (.dat z) h1
    | none => .stuck)
  | none => .stuck
def negD : PyData → Option PyData
  | .int i => some (.int (-i))
  | _ => none
theorem ex_neg {a : Expr} {f : En → Hl → R Val} {pos : Pos} (ha : Ex X W a f) : Ex X W (.UnaryOp .USub a pos) (unD negD f) := by
  obtain ⟨t, p, h⟩ := ha
  refine ⟨_, pe_un un_neg p, fun Z φ ρ hh σ H Q S E po => ?_⟩
  refine h.seq S E po fun b h1 φ1 H1 x s1 S1 E1 r1 p1 => ?_
  split at p1
  · rename_i d e
    have r2 := peek_ok S1 r1 e
    cases d with
    | int i => exact ⟨i, r2.int, p1 φ1 H1 Stp.refl S1 _ (.int _)⟩
    | _ => exact p1.elim
  · exact p1.elim
def invD : PyData → Option PyData
  | .int i => some (.int (Builtin.bitNot i))
  | _ => none
theorem ex_inv {a : Expr} {f : En → Hl → R Val} {pos : Pos} (ha : Ex X W a f) : Ex X W (.UnaryOp .Invert a pos) (unD invD f) := by
  obtain ⟨t, p, h⟩ := ha
  refine ⟨_, pe_un un_inv p, fun Z φ ρ hh σ H Q S E po => ?_⟩
  refine h.seq S E po fun b h1 φ1 H1 x s1 S1 E1 r1 p1 => ?_
  split at p1
  · rename_i d e
    have r2 := peek_ok S1 r1 e
    cases d with
    | int i => exact ⟨i, r2.int, p1 φ1 H1 Stp.refl S1 _ (.int _)⟩
    | _ => exact p1.elim
  · exact p1.elim

/-! ### o[i], o[a:b] -/
def ixD : PyData → PyData → Option PyData
  | .list xs, .int i => atI xs i
  | .tuple xs, .int i => atI xs i
  | .str z, .int i => if z.length ≤ sizeLine then (atI z.cps.toList i).map fun c => .str ⟨#[c]⟩ else none
  | _, _ => none
theorem RpAll.atI {K : PySem.W.Frag} {H : Hp} {L : Addr → Prop} {xs : List V} {ds : List PyData} {i : Int} {d : PyData} (r : RpAll K H L xs ds) (e : L2.atI ds i = some d) : ∃ x, L2.atI xs i = some x ∧ Rp K H L x d := by
  unfold L2.atI at e ⊢
  rw [r.length]
  cases g : ixN ds.length i with
  | none => rw [g] at e; cases e
  | some j =>
    rw [g] at e
    exact r.get e
theorem ex_ix {a b : Expr} {fa fb : En → Hl → R Val} {pos : Pos} (ha : Ex X W a fa) (hb : Ex X W b fb) (hs : PlainIx b) : Ex X W (.Subscript a b pos) (binD ixD fa fb) := by
  obtain ⟨ta, pa, ha⟩ := ha
  obtain ⟨tb, pb, hb⟩ := hb
  refine ⟨_, pe_ix ix_seq pa pb hs, sn_op (fv := fun _ _ => binaryOp .Add .none .none) ha hb fun Z φ h H x y d e z Q S rx ry eg q => ?_⟩
  unfold ixD at eg
  split at eg
  · obtain ⟨a, xs, rfl, ha, ra⟩ := rx.lst
    obtain ⟨w, e1, rw'⟩ := ra.atI eg
    exact .inl ⟨a, xs, _, w, rfl, ry.int, SqL.of ha, e1, q H w Stp.refl S rw'⟩
  · obtain ⟨a, xs, rfl, ha, ra⟩ := rx.tup
    obtain ⟨w, e1, rw'⟩ := ra.atI eg
    exact .inr (.inl ⟨a, xs, _, w, rfl, ry.int, ha, e1, q H w Stp.refl S rw'⟩)
  · split at eg
    · rename_i z i hz
      cases g : atI z.cps.toList i with
      | none => rw [g] at eg; cases eg
      | some c =>
        rw [g] at eg
        cases eg
        exact .inr (.inr ⟨z, i, c, rx.str, ry.int, hz, g, q H _ Stp.refl S (.str _)⟩)
    · cases eg
  · cases eg
def cutDs (xs : List PyData) (lo hi : Option Int) : List PyData := (xs.drop (HT.sIx xs.length 0 lo)).take (HT.sIx xs.length xs.length hi - HT.sIx xs.length 0 lo)
theorem RpAll.cutV {K : PySem.W.Frag} {H : Hp} {L : Addr → Prop} {xs : List V} {ds : List PyData} (r : RpAll K H L xs ds) (lo hi : Option Int) : RpAll K H L (L2.cutV xs lo hi) (cutDs ds lo hi) := by
  unfold L2.cutV cutDs
  rw [r.length]
  exact (r.drop _).take _
def slD (lo hi : Option Int) : PyData → Option PyData
  | .list xs => some (.list (cutDs xs lo hi))
  | .tuple xs => some (.tuple (cutDs xs lo hi))
  | .str z => if z.length ≤ sizeLine then some (.str (cutS z lo hi)) else none
  | _ => none
/-- a slice's part -/
def Px (X : Cx) (W : WX) (e : Option Expr) (f : En → Hl → R (Option Int)) : Prop := ∃ t, PO X e t ∧ Sn X W (fun _ _ _ _ _ x v => x = v) t f
def noD : En → Hl → R (Option Int) := fun _ h => .ok none h
def someD (f : En → Hl → R Val) : En → Hl → R (Option Int) := fun ρ h => (f ρ h).bind fun v h1 => match v with
  | .dat (.int i) => .ok (some i) h1
  | _ => .stuck
theorem px_none : Px X W none noD := ⟨_, po_none, fun Z φ ρ h σ H Q S E p => p φ H Stp.refl S _ rfl⟩
theorem px_some {e : Expr} {f : En → Hl → R Val} (he : Ex X W e f) : Px X W (some e) (someD f) := by
  obtain ⟨t, p, h⟩ := he
  refine ⟨_, po_some p, fun Z φ ρ hh σ H Q S E po => ?_⟩
  refine h.seq S E po fun v h1 φ1 H1 x s1 S1 E1 r1 p1 => ?_
  split at p1
  · rename_i i
    cases r1
    exact ⟨i, rfl, p1 φ1 H1 Stp.refl S1 _ rfl⟩
  · exact p1.elim
def sliceD (f : En → Hl → R Val) (fl fh : En → Hl → R (Option Int)) : En → Hl → R Val := fun ρ h => (f ρ h).bind fun a h1 => (fl ρ h1).bind fun lo h2 => (fh ρ h2).bind fun hi h3 => match a with
  | .scr ns => .ok (.dat (.list (cutDs (ns.map .int) lo hi))) h3
  | a => (match peek a h3 with
    | some d => (match slD lo hi d with
      | some z => .ok (.dat z) h3
      | none => .stuck)
    | none => .stuck)
theorem cut_all {α : Type} (xs : List α) (lo hi : Option Int) (e : HT.sIx xs.length 0 lo = 0 ∧ HT.sIx xs.length xs.length hi = xs.length) : (xs.drop (HT.sIx xs.length 0 lo)).take (HT.sIx xs.length xs.length hi - HT.sIx xs.length 0 lo) = xs := by
  rw [e.1, e.2]; simp
theorem ex_slice {a : Expr} {lo hi : Option Expr} {f : En → Hl → R Val} {fl fh : En → Hl → R (Option Int)} {p2 pos : Pos} (ha : Ex X W a f) (hl : Px X W lo fl) (hh : Px X W hi fh) : Ex X W (.Subscript a (.Slice lo hi none p2) pos) (sliceD f fl fh) := by
  obtain ⟨ta, pa, ha⟩ := ha
  obtain ⟨tl, pl, hl⟩ := hl
  obtain ⟨th, ph, hh⟩ := hh
  refine ⟨_, pe_slice (sl_list.or (sl_tupA.or sl_str)) pa pl ph, fun Z φ ρ h0 σ H Q S E po => ?_⟩
  refine ha.seq S E po fun v h1 φ1 H1 x s1 S1 E1 r1 p1 => ?_
  refine hl.seq S1 E1 p1 fun l h2 φ2 H2 y s2 S2 E2 r2 p2 => ?_
  refine hh.seq S2 E2 p2 fun u h3 φ3 H3 z s3 S3 E3 r3 p3 => ?_
  subst r2
  subst r3
  have rv := RpV.step S1 (s2.trans s3) r1
  split at p3
  · rename_i ns
    obtain ⟨b, rfl, hb⟩ := rv
    refine .inl ⟨b, _, rfl, hb.sq, fun p n => ?_⟩
    refine p3 φ3 _ (stp_upd n) (S3.upd n) _ (.lst upd_same (S3.notLiveNew n) (RpAll.step S3 (stp_upd n) ((RpAll.ints ns).cutV _ _)))
  · split at p3
    · rename_i d e
      have rq := peek_ok S3 rv e
      split at p3
      · rename_i w eg
        unfold slD at eg
        split at eg
        · cases eg
          obtain ⟨b, xs, rfl, hb, rb⟩ := rq.lst
          exact .inl ⟨b, xs, rfl, SqL.of hb, fun p n => p3 φ3 _ (stp_upd n) (S3.upd n) _ (.lst upd_same (S3.notLiveNew n) (RpAll.step S3 (stp_upd n) (rb.cutV _ _)))⟩
        · cases eg
          obtain ⟨b, xs, rfl, hb, rb⟩ := rq.tup
          refine .inr (.inl ⟨b, xs, rfl, hb, fun hw => ?_, fun hw p n => ?_⟩)
          · refine p3 φ3 H3 Stp.refl S3 _ (.tup hb ?_)
            have q := rb.cutV y z
            unfold L2.cutV at q
            rw [cut_all xs y z hw] at q
            exact q
          · exact p3 φ3 _ (stp_upd n) (S3.upd n) _ (.tup (SqT.of upd_same) (RpAll.step S3 (stp_upd n) (rb.cutV _ _)))
        · split at eg
          · cases eg
            exact .inr (.inr ⟨_, rq.str, by assumption, p3 φ3 H3 Stp.refl S3 _ (.str _)⟩)
          · cases eg
        · cases eg
      · exact p3.elim
    · exact p3.elim
end
end Dn
end

section
/-! Dn, part 4: built-in functions and methods -/
namespace Dn
open PySem PySem.Spec PyProof.Rows L2

section
variable {X : Cx} {W : WX}
/-- a built-in function on data -/
def CallOk (X : Cx) (f : Value) (g : List PyData → Option PyData) : Prop :=
  ∃ r, CallR X f r ∧ ∀ (Z : Addr → Prop) (φ : Nat → Addr) (h : Hl) (H : Hp) (xs : List V) (ds : List PyData) (z : PyData) (Q : VK), SimH X.K Z φ h H → RqAll X.K (live Z φ h) H xs ds → g ds = some z →
    (∀ H' w, Stp φ Z h H φ h H' → SimH X.K Z φ h H' → Rp X.K H' (live Z φ h) w z → Q w H') → r xs H Q
theorem CallOk.or {f : Value} {g g' : List PyData → Option PyData} (o : CallOk X f g) (o' : CallOk X f g') : CallOk X f (fun ds => (g ds).orElse fun _ => g' ds) := by
  obtain ⟨r, h1, h2⟩ := o
  obtain ⟨r', h1', h2'⟩ := o'
  refine ⟨_, h1.or h1', fun Z φ h H xs ds z Q S rx eg q => ?_⟩
  cases eq : g ds with
  | some z' =>
    simp only [eq, Option.orElse_some] at eg
    exact .inl (h2 Z φ h H xs ds z Q S rx (by rw [eq]; exact eg) q)
  | none =>
    simp only [eq, Option.orElse_none] at eg
    exact .inr (h2' Z φ h H xs ds z Q S rx eg q)
def bcD (g : List PyData → Option PyData) (fa : En → Hl → R (List Val)) : En → Hl → R Val := fun ρ h => (fa ρ h).bind fun vs h1 => match peeks vs h1 with
  | some ds => (match g ds with
    | some z => .ok (.dat z) h1
    | none => .stuck)
  | none => .stuck
theorem sn_bc {r : List V → Hp → VK → Prop} {g : List PyData → Option PyData} {t : TA} {fa : En → Hl → R (List Val)} (ha : Sn X W relA t fa)
    (hr : ∀ (Z : Addr → Prop) (φ : Nat → Addr) (h : Hl) (H : Hp) (xs : List V) (ds : List PyData) (z : PyData) (Q : VK), SimH X.K Z φ h H → RqAll X.K (live Z φ h) H xs ds → g ds = some z →
      (∀ H' w, Stp φ Z h H φ h H' → SimH X.K Z φ h H' → Rp X.K H' (live Z φ h) w z → Q w H') → r xs H Q) : Sn X W relV (tCB r t) (bcD g fa) := by
  intro Z φ ρ h σ H Q S E p
  refine ha.seq S E p fun vs h1 φ1 H1 xs s1 S1 E1 r1 p1 => ?_
  split at p1
  · rename_i ds e1
    split at p1
    · rename_i z eg
      exact hr Z φ1 h1 H1 xs ds z Q S1 (peeks_ok S1 r1 e1) eg fun H' w s' S' rw' => p1 φ1 H' s' S' w rw'
    · exact p1.elim
  · exact p1.elim
theorem ex_bcB {x : Str} {id : String} {g : List PyData → Option PyData} {e : Expr} {es : List Expr} {fa : En → Hl → R (List Val)} {p pos : Pos} (o : CallOk X (.builtin id) g) (hg : Gl X x) (hm : X.mg x = none) (hv : bootBuiltins x = some (.builtin id)) (ha : Ax X W (e :: es) fa)
    (hn : x ≠ "__name__") (hdb : (x == ("__debug__" : Str)) = false) (he : starEach (e :: es) X.env = (false, eval e X.env) :: starEach es X.env) (hpl : (backTo pos (starEach es X.env)).any (·.1) = false) : Ex X W (.Call (.Name x p) (e :: es) [] pos) (bcD g fa) := by
  obtain ⟨r, h1, h2⟩ := o
  obtain ⟨t, pa, ha⟩ := ha
  exact ⟨_, pe_callB h1 hg hm hv pa hn hdb he hpl, sn_bc ha h2⟩
theorem ex_bcT {x : Str} {T : String} {g : List PyData → Option PyData} {e : Expr} {es : List Expr} {fa : En → Hl → R (List Val)} {p pos : Pos} (o : CallOk X (.type T) g) (hg : Gl X x) (hm : X.mg x = none) (hv : bootBuiltins x = some (.type T)) (ha : Ax X W (e :: es) fa)
    (hn : x ≠ "__name__") (hdb : (x == ("__debug__" : Str)) = false) (he : starEach (e :: es) X.env = (false, eval e X.env) :: starEach es X.env) (hpl : (backTo pos (starEach es X.env)).any (·.1) = false) : Ex X W (.Call (.Name x p) (e :: es) [] pos) (bcD g fa) := by
  obtain ⟨r, h1, h2⟩ := o
  obtain ⟨t, pa, ha⟩ := ha
  exact ⟨_, pe_callTy h1 hg hm hv pa hn hdb he hpl, sn_bc ha h2⟩

theorem RqAll.one {K : PySem.W.Frag} {L : Addr → Prop} {H : Hp} {xs : List V} {d : PyData} (r : RqAll K L H xs [d]) : ∃ x, xs = [x] ∧ Rq K L H x d := by
  cases r with
  | cons r t => cases t; exact ⟨_, rfl, r⟩
theorem RqAll.two {K : PySem.W.Frag} {L : Addr → Prop} {H : Hp} {xs : List V} {d e : PyData} (r : RqAll K L H xs [d, e]) : ∃ x y, xs = [x, y] ∧ Rq K L H x d ∧ Rq K L H y e := by
  cases r with
  | cons r t => obtain ⟨y, rfl, r2⟩ := t.one; exact ⟨_, _, rfl, r, r2⟩

/-! ### len, abs, int, str, min, max -/
def lenD : List PyData → Option PyData
  | [.list xs] => some (.int xs.length)
  | [.tuple xs] => some (.int xs.length)
  | [.str z] => if z.length ≤ sizeLine then some (.int z.length) else none
  | _ => none
theorem ok_len : CallOk X (.builtin "len") lenD := by
  refine ⟨_, call_len, fun Z φ h H xs ds z Q S rx eg q => ?_⟩
  unfold lenD at eg
  split at eg
  · cases eg
    obtain ⟨x, rfl, r⟩ := rx.one
    obtain ⟨a, ys, rfl, ha, ra⟩ := r.lst
    exact ⟨_, ys.length, rfl, .inl ⟨ys, SqL.of ha, rfl⟩, q H _ Stp.refl S (by rw [ra.length]; exact .int _)⟩
  · cases eg
    obtain ⟨x, rfl, r⟩ := rx.one
    obtain ⟨a, ys, rfl, ha, ra⟩ := r.tup
    exact ⟨_, ys.length, rfl, .inr ⟨ys, ha, rfl⟩, q H _ Stp.refl S (by rw [ra.length]; exact .int _)⟩
  · split at eg
    · cases eg
      obtain ⟨x, rfl, r⟩ := rx.one
      exact ⟨x, _, rfl, by rw [r.str]; exact ⟨by assumption, rfl⟩, q H _ Stp.refl S (.int _)⟩
    · cases eg
  · cases eg
def absD : List PyData → Option PyData
  | [.int i] => some (.int (if i < 0 then -i else i))
  | _ => none
theorem ok_abs : CallOk X (.builtin "abs") absD := by
  refine ⟨_, call_abs, fun Z φ h H xs ds z Q S rx eg q => ?_⟩
  unfold absD at eg
  split at eg
  · cases eg
    obtain ⟨x, rfl, r⟩ := rx.one
    exact ⟨_, by rw [r.int], q H _ Stp.refl S (.int _)⟩
  · cases eg
def intD : List PyData → Option PyData
  | [.int i] => some (.int i)
  | [.bool b] => some (.int (if b then 1 else 0))
  | _ => none
theorem ok_int : CallOk X (.type "int") intD := by
  refine ⟨_, call_int1, fun Z φ h H xs ds z Q S rx eg q => ?_⟩
  unfold intD at eg
  split at eg
  · cases eg
    obtain ⟨x, rfl, r⟩ := rx.one
    exact .inl ⟨_, by rw [r.int], q H _ Stp.refl S (.int _)⟩
  · cases eg
    obtain ⟨x, rfl, r⟩ := rx.one
    exact .inr ⟨_, by rw [r.bl], q H _ Stp.refl S (.int _)⟩
  · cases eg
def strD : List PyData → Option PyData
  | [.int i] => if i.natAbs.log2 < 1920 then some (.str (toString i)) else none
  | _ => none
theorem ok_str : CallOk X (.type "str") strD := by
  refine ⟨_, call_str_int, fun Z φ h H xs ds z Q S rx eg q => ?_⟩
  unfold strD at eg
  split at eg
  · split at eg
    · cases eg
      obtain ⟨x, rfl, r⟩ := rx.one
      exact ⟨_, by rw [r.int], by assumption, q H _ Stp.refl S (.str _)⟩
    · cases eg
  · cases eg
def max2D : List PyData → Option PyData
  | [.int i, .int j] => some (.int (if j > i then j else i))
  | _ => none
theorem ok_max2 (hc : X.calm = true) : CallOk X (.builtin "max") max2D := by
  refine ⟨_, call_max2 hc, fun Z φ h H xs ds z Q S rx eg q => ?_⟩
  unfold max2D at eg
  split at eg
  · cases eg
    obtain ⟨x, y, rfl, r, r2⟩ := rx.two
    exact ⟨_, _, by rw [r.int, r2.int], q H _ Stp.refl S (.int _)⟩
  · cases eg
def min2D : List PyData → Option PyData
  | [.int i, .int j] => some (.int (if j < i then j else i))
  | _ => none
theorem ok_min2 (hc : X.calm = true) : CallOk X (.builtin "min") min2D := by
  refine ⟨_, call_min2 hc, fun Z φ h H xs ds z Q S rx eg q => ?_⟩
  unfold min2D at eg
  split at eg
  · cases eg
    obtain ⟨x, y, rfl, r, r2⟩ := rx.two
    exact ⟨_, _, by rw [r.int, r2.int], q H _ Stp.refl S (.int _)⟩
  · cases eg
/-! ints, bools of a list -/
def intsOf : List PyData → Option (List Int)
  | [] => some []
  | .int i :: r => (intsOf r).map (i :: ·)
  | _ :: _ => none
def blsOf : List PyData → Option (List Bool)
  | [] => some []
  | .bool i :: r => (blsOf r).map (i :: ·)
  | _ :: _ => none
theorem ints_of {K : PySem.W.Frag} {H : Hp} {L : Addr → Prop} : ∀ {xs : List V} {ds : List PyData} {ns : List Int}, RpAll K H L xs ds → intsOf ds = some ns → xs = ns.map V.int
  | _, _, _, .nil, e => by cases e; rfl
  | _, _, _, .cons (d := d) (ds := ds) r t, e => by
    cases d with
    | int i =>
      unfold intsOf at e
      cases g : intsOf ds with
      | none => rw [g] at e; cases e
      | some ms =>
        rw [g] at e; cases e
        cases r
        rw [ints_of t g]; rfl
    | _ => cases e
theorem bls_of {K : PySem.W.Frag} {H : Hp} {L : Addr → Prop} : ∀ {xs : List V} {ds : List PyData} {ns : List Bool}, RpAll K H L xs ds → blsOf ds = some ns → xs = ns.map V.bl
  | _, _, _, .nil, e => by cases e; rfl
  | _, _, _, .cons (d := d) (ds := ds) r t, e => by
    cases d with
    | bool i =>
      unfold blsOf at e
      cases g : blsOf ds with
      | none => rw [g] at e; cases e
      | some ms =>
        rw [g] at e; cases e
        cases r
        rw [bls_of t g]; rfl
    | _ => cases e
def sumD : List PyData → Option PyData
  | [.list xs] => (intsOf xs).map fun ns => .int ns.sum
  | _ => none
theorem ok_sum (hc : X.calm = true) : CallOk X (.builtin "sum") sumD := by
  refine ⟨_, cr_sum hc, fun Z φ h H xs ds z Q S rx eg q => ?_⟩
  unfold sumD at eg
  split at eg
  · rename_i ys
    cases g : intsOf ys with
    | none => rw [g] at eg; cases eg
    | some ns =>
      rw [g] at eg; cases eg
      obtain ⟨x, rfl, r⟩ := rx.one
      obtain ⟨a, ws, rfl, ha, ra⟩ := r.lst
      refine ⟨a, ns, rfl, ?_, q H _ Stp.refl S (.int _)⟩
      rw [← ints_of ra g]
      exact SqL.of ha
  · cases eg
def anyD : List PyData → Option PyData
  | [.list xs] => (blsOf xs).map fun ns => .bool (ns.any id)
  | _ => none
theorem ok_any (hc : X.calm = true) : CallOk X (.builtin "any") anyD := by
  refine ⟨_, cr_any hc, fun Z φ h H xs ds z Q S rx eg q => ?_⟩
  unfold anyD at eg
  split at eg
  · rename_i ys
    cases g : blsOf ys with
    | none => rw [g] at eg; cases eg
    | some ns =>
      rw [g] at eg; cases eg
      obtain ⟨x, rfl, r⟩ := rx.one
      obtain ⟨a, ws, rfl, ha, ra⟩ := r.lst
      refine ⟨a, ns, rfl, ?_, q H _ Stp.refl S (.bl _)⟩
      rw [← bls_of ra g]
      exact SqL.of ha
  · cases eg
def allD : List PyData → Option PyData
  | [.list xs] => (blsOf xs).map fun ns => .bool (ns.all id)
  | _ => none
theorem ok_all (hc : X.calm = true) : CallOk X (.builtin "all") allD := by
  refine ⟨_, cr_all hc, fun Z φ h H xs ds z Q S rx eg q => ?_⟩
  unfold allD at eg
  split at eg
  · rename_i ys
    cases g : blsOf ys with
    | none => rw [g] at eg; cases eg
    | some ns =>
      rw [g] at eg; cases eg
      obtain ⟨x, rfl, r⟩ := rx.one
      obtain ⟨a, ws, rfl, ha, ra⟩ := r.lst
      refine ⟨a, ns, rfl, ?_, q H _ Stp.refl S (.bl _)⟩
      rw [← bls_of ra g]
      exact SqL.of ha
  · cases eg
/-- the greatest, the least of ints -/
def maxI : Int → List Int → Int
  | m, [] => m
  | m, n :: r => maxI (max m n) r
theorem maxI_ge : ∀ (m : Int) (l : List Int), m ≤ maxI m l ∧ ∀ n ∈ l, n ≤ maxI m l
  | m, [] => ⟨Int.le_refl _, fun _ h => nomatch h⟩
  | m, n :: r => by
    have ih := maxI_ge (max m n) r
    refine ⟨by show m ≤ maxI (max m n) r; omega, fun k hk => ?_⟩
    rcases List.mem_cons.mp hk with rfl | hk
    · show k ≤ maxI (max m k) r; omega
    · exact ih.2 k hk
theorem maxI_mem : ∀ (m : Int) (l : List Int), maxI m l ∈ m :: l
  | m, [] => List.mem_singleton.mpr rfl
  | m, n :: r => by
    have ih := maxI_mem (max m n) r
    show maxI (max m n) r ∈ m :: n :: r
    rcases List.mem_cons.mp ih with e | e
    · rw [e]
      rcases Int.le_total m n with q | q
      · rw [Int.max_eq_right q]; exact List.mem_cons_of_mem _ (List.mem_cons_self ..)
      · rw [Int.max_eq_left q]; exact List.mem_cons_self ..
    · exact List.mem_cons_of_mem _ (List.mem_cons_of_mem _ e)
def minI : Int → List Int → Int
  | m, [] => m
  | m, n :: r => minI (min m n) r
theorem minI_le : ∀ (m : Int) (l : List Int), minI m l ≤ m ∧ ∀ n ∈ l, minI m l ≤ n
  | m, [] => ⟨Int.le_refl _, fun _ h => nomatch h⟩
  | m, n :: r => by
    have ih := minI_le (min m n) r
    refine ⟨by show minI (min m n) r ≤ m; omega, fun k hk => ?_⟩
    rcases List.mem_cons.mp hk with rfl | hk
    · show minI (min m k) r ≤ k; omega
    · exact ih.2 k hk
theorem minI_mem : ∀ (m : Int) (l : List Int), minI m l ∈ m :: l
  | m, [] => List.mem_singleton.mpr rfl
  | m, n :: r => by
    have ih := minI_mem (min m n) r
    show minI (min m n) r ∈ m :: n :: r
    rcases List.mem_cons.mp ih with e | e
    · rw [e]
      rcases Int.le_total m n with q | q
      · rw [Int.min_eq_left q]; exact List.mem_cons_self ..
      · rw [Int.min_eq_right q]; exact List.mem_cons_of_mem _ (List.mem_cons_self ..)
    · exact List.mem_cons_of_mem _ (List.mem_cons_of_mem _ e)
def maxLD : List PyData → Option PyData
  | [.list xs] => (match intsOf xs with
    | some (n :: ns) => some (.int (maxI n ns))
    | _ => none)
  | _ => none
theorem ok_maxL (hc : X.calm = true) : CallOk X (.builtin "max") maxLD := by
  refine ⟨_, cr_max hc, fun Z φ h H xs ds z Q S rx eg q => ?_⟩
  unfold maxLD at eg
  split at eg
  · rename_i ys
    split at eg
    · rename_i n ns g
      cases eg
      obtain ⟨x, rfl, r⟩ := rx.one
      obtain ⟨a, ws, rfl, ha, ra⟩ := r.lst
      refine ⟨a, n :: ns, rfl, ?_, by simp, fun m hm hy => ?_⟩
      · rw [← ints_of ra g]
        exact SqL.of ha
      · have h1 := maxI_ge n ns
        have h2 := maxI_mem n ns
        have h3 := hy _ h2
        have h4 : m ≤ maxI n ns := by
          rcases List.mem_cons.mp hm with rfl | hm
          · exact h1.1
          · exact h1.2 m hm
        have e : m = maxI n ns := Int.le_antisymm h4 h3
        subst e
        exact q H _ Stp.refl S (.int _)
    · cases eg
  · cases eg
def minLD : List PyData → Option PyData
  | [.list xs] => (match intsOf xs with
    | some (n :: ns) => some (.int (minI n ns))
    | _ => none)
  | _ => none
theorem ok_minL (hc : X.calm = true) : CallOk X (.builtin "min") minLD := by
  refine ⟨_, cr_min hc, fun Z φ h H xs ds z Q S rx eg q => ?_⟩
  unfold minLD at eg
  split at eg
  · rename_i ys
    split at eg
    · rename_i n ns g
      cases eg
      obtain ⟨x, rfl, r⟩ := rx.one
      obtain ⟨a, ws, rfl, ha, ra⟩ := r.lst
      refine ⟨a, n :: ns, rfl, ?_, by simp, fun m hm hy => ?_⟩
      · rw [← ints_of ra g]
        exact SqL.of ha
      · have h1 := minI_le n ns
        have h2 := minI_mem n ns
        have h3 := hy _ h2
        have h4 : minI n ns ≤ m := by
          rcases List.mem_cons.mp hm with rfl | hm
          · exact h1.1
          · exact h1.2 m hm
        have e : m = minI n ns := Int.le_antisymm h3 h4
        subst e
        exact q H _ Stp.refl S (.int _)
    · cases eg
  · cases eg
def maxD : List PyData → Option PyData := fun ds => (max2D ds).orElse fun _ => maxLD ds
def minD : List PyData → Option PyData := fun ds => (min2D ds).orElse fun _ => minLD ds

/-! ### tuple, list, sorted -/
def tupleD : List PyData → Option PyData
  | [.list xs] => some (.tuple xs)
  | [.tuple xs] => some (.tuple xs)
  | _ => none
theorem ok_tuple : CallOk X (.type "tuple") tupleD := by
  refine ⟨_, call_tuple_of, fun Z φ h H xs ds z Q S rx eg q => ?_⟩
  unfold tupleD at eg
  split at eg
  · cases eg
    obtain ⟨x, rfl, r⟩ := rx.one
    obtain ⟨a, ys, rfl, ha, ra⟩ := r.lst
    exact ⟨a, ys, rfl, .inl ⟨SqL.of ha, fun p n => q _ _ (stp_upd n) (S.upd n) (.tup (SqT.of upd_same) (RpAll.step S (stp_upd n) ra))⟩⟩
  · cases eg
    obtain ⟨x, rfl, r⟩ := rx.one
    obtain ⟨a, ys, rfl, ha, ra⟩ := r.tup
    exact ⟨a, ys, rfl, .inr ⟨ha, q H _ Stp.refl S (.tup ha ra)⟩⟩
  · cases eg
/-- a built-in function that makes a new list -/
def CallLx (X : Cx) (f : Value) (g : List PyData → Option (List PyData)) : Prop :=
  ∃ r, CallR X f r ∧ ∀ (Z : Addr → Prop) (φ : Nat → Addr) (h : Hl) (H : Hp) (xs : List V) (ds zs : List PyData) (Q : VK), SimH X.K Z φ h H → RqAll X.K (live Z φ h) H xs ds → g ds = some zs →
    (∀ p ys, H p = none → RpAll X.K H (live Z φ h) ys zs → Q (.ref p) (L2.upd H p (.lst ys))) → r xs H Q
def lcD (g : List PyData → Option (List PyData)) (fa : En → Hl → R (List Val)) : En → Hl → R (List PyData) := fun ρ h => (fa ρ h).bind fun vs h1 => match peeks vs h1 with
  | some ds => (match g ds with
    | some z => .ok z h1
    | none => .stuck)
  | none => .stuck
theorem lx_call {x : Str} {f : Value} {g : List PyData → Option (List PyData)} {r : List V → Hp → VK → Prop} {e : Expr} {fa : En → Hl → R (List Val)} {t : TA} (ha : Sn X W relA t fa)
    (h2 : ∀ (Z : Addr → Prop) (φ : Nat → Addr) (h : Hl) (H : Hp) (xs : List V) (ds zs : List PyData) (Q : VK), SimH X.K Z φ h H → RqAll X.K (live Z φ h) H xs ds → g ds = some zs →
      (∀ p ys, H p = none → RpAll X.K H (live Z φ h) ys zs → Q (.ref p) (L2.upd H p (.lst ys))) → r xs H Q) (hp : PE X e (tCB r t)) : Lx X W e (lcD g fa) := by
  refine ⟨_, hp, fun Z φ ρ h σ H Q S E p => ?_⟩
  refine ha.seq S E p fun vs h1 φ1 H1 xs s1 S1 E1 r1 p1 => ?_
  split at p1
  · rename_i ds e1
    split at p1
    · rename_i z eg
      exact h2 Z φ1 h1 H1 xs ds z Q S1 (peeks_ok S1 r1 e1) eg fun q ys n ra => p1 φ1 H1 Stp.refl S1 q ys n ra
    · exact p1.elim
  · exact p1.elim
theorem lx_B {x : Str} {id : String} {g : List PyData → Option (List PyData)} {e : Expr} {es : List Expr} {fa : En → Hl → R (List Val)} {p pos : Pos} (o : CallLx X (.builtin id) g) (hg : Gl X x) (hm : X.mg x = none) (hv : bootBuiltins x = some (.builtin id)) (ha : Ax X W (e :: es) fa)
    (hn : x ≠ "__name__") (hdb : (x == ("__debug__" : Str)) = false) (he : starEach (e :: es) X.env = (false, eval e X.env) :: starEach es X.env) (hpl : (backTo pos (starEach es X.env)).any (·.1) = false) : Lx X W (.Call (.Name x p) (e :: es) [] pos) (lcD g fa) := by
  obtain ⟨r, h1, h2⟩ := o
  obtain ⟨t, pa, ha⟩ := ha
  exact lx_call (x := x) (f := .builtin id) ha h2 (pe_callB h1 hg hm hv pa hn hdb he hpl)
theorem lx_T {x : Str} {T : String} {g : List PyData → Option (List PyData)} {e : Expr} {es : List Expr} {fa : En → Hl → R (List Val)} {p pos : Pos} (o : CallLx X (.type T) g) (hg : Gl X x) (hm : X.mg x = none) (hv : bootBuiltins x = some (.type T)) (ha : Ax X W (e :: es) fa)
    (hn : x ≠ "__name__") (hdb : (x == ("__debug__" : Str)) = false) (he : starEach (e :: es) X.env = (false, eval e X.env) :: starEach es X.env) (hpl : (backTo pos (starEach es X.env)).any (·.1) = false) : Lx X W (.Call (.Name x p) (e :: es) [] pos) (lcD g fa) := by
  obtain ⟨r, h1, h2⟩ := o
  obtain ⟨t, pa, ha⟩ := ha
  exact lx_call (x := x) (f := .type T) ha h2 (pe_callTy h1 hg hm hv pa hn hdb he hpl)
def listD : List PyData → Option (List PyData)
  | [.list xs] => some xs
  | [.tuple xs] => some xs
  | _ => none
theorem ok_list : CallLx X (.type "list") listD := by
  refine ⟨_, call_list_of, fun Z φ h H xs ds z Q S rx eg q => ?_⟩
  unfold listD at eg
  split at eg
  · cases eg
    obtain ⟨x, rfl, r⟩ := rx.one
    obtain ⟨a, ys, rfl, ha, ra⟩ := r.lst
    exact ⟨a, ys, rfl, .inl (SqL.of ha), fun p n => q p ys n ra⟩
  · cases eg
    obtain ⟨x, rfl, r⟩ := rx.one
    obtain ⟨a, ys, rfl, ha, ra⟩ := r.tup
    exact ⟨a, ys, rfl, .inr ha, fun p n => q p ys n ra⟩
  · cases eg
/-- the data can be sorted -/
def srtB (ds : List PyData) : Bool := (ds.all fun d => ds.all fun e => PySem.W.alike d e) && ((ds.all fun d => match d with | .tuple (_ :: _) => true | _ => false) || (ds.all fun d => match d with | .none => false | .tuple _ => false | _ => true)) && decide (ds.length ≤ sizeLine) && ds.all fun d => decide (d.depth ≤ 60)
def sortL (ds : List PyData) : List PyData := ds.mergeSort (PySem.W.dataLe false (fun d => d))
def sortedD : List PyData → Option (List PyData)
  | [.list xs] => if srtB xs = true then some (sortL xs) else none
  | [.tuple xs] => if srtB xs = true then some (sortL xs) else none
  | _ => none
theorem each_of {K : PySem.W.Frag} {H : Hp} {L : Addr → Prop} : ∀ {xs : List V} {ds : List PyData} {us : List Value}, RpAll K H L xs ds → Vals xs us → PySem.W.EachIs (fun (u : Value) (d : PyData) => ∃ x, RelV x u ∧ Rp K H L x d) us ds
  | _, _, _, .nil, .nil => .nil
  | _, _, _, .cons r t, .cons q u => .cons ⟨_, q, r⟩ (each_of t u)
theorem each_reads {pins : List (Addr × Obj)} {σ : St} {H : Hp} {s : Shared} (I : Inv X pins σ H s) {L : Addr → Prop} : ∀ {xs : List V} {ds : List PyData} {us : List Value}, RpAll X.K H L xs ds → Vals xs us → PySem.W.EachIs (fun (u : Value) (d : PyData) => ∃ as, Reads s.heap u d as) us ds
  | _, _, _, .nil, .nil => .nil
  | _, _, _, .cons r t, .cons q u => .cons (Dp.reads I _ _ _ r.dp q) (each_reads I t u)
theorem of_each {K : PySem.W.Frag} {H : Hp} {L : Addr → Prop} : ∀ {us : List Value} {ds : List PyData}, PySem.W.EachIs (fun (u : Value) (d : PyData) => ∃ x, RelV x u ∧ Rp K H L x d) us ds → ∃ xs, Vals xs us ∧ RpAll K H L xs ds
  | _, _, .nil => ⟨[], .nil, .nil⟩
  | _, _, .cons ⟨x, q, r⟩ t => let ⟨xs, q', r'⟩ := of_each t; ⟨x :: xs, .cons q q', .cons r r'⟩
/-- sorted over a tuple -/
theorem sorted_tupD {prog : Program} {w : World} {A : Around} {E : Value → Shared → Prop} {s : Shared} {R : Value → PyData → Prop} {t : Addr} {o : Obj} {n : Nat} {vs : List Value} {bs : List PyData} {Q : Value → Shared → Prop} (ho : s.heap.get? t = some o) (hc : o.cls = .type "tuple") (hd : o.data = .seq vs.toArray n)
    (e : PySem.W.EachIs R vs bs) (er : PySem.W.EachIs (fun v b => ∃ as, Reads s.heap v b as) vs bs) (hal : PySem.W.AllAlike bs) (hk : PySem.W.Sortable bs) (hL : bs.length ≤ sizeLine) (hu : ∀ b, b ∈ bs → A.units + 2 + b.depth < cLine)
    (k : ∀ (h' : Heap) (l : Addr) (out : List Value) (ep : Nat), out.length = bs.length → PySem.W.EachIs R out (bs.mergeSort (PySem.W.dataLe false fun d => d)) → (∀ b ob, s.heap.get? b = some ob → h'.get? b = some ob) → s.heap.get? l = none → h'.get? l = some (PyProof.Rows.seqObj "list" out.toArray ep) → Q (.ref l) { s with heap := h' }) :
    wpAny (model prog w) A (call (.builtin "sorted") [.ref t]) Q E s := by
  have hlen : vs.length = bs.length := e.length
  refine PyProof.Rows.call_function_entry_kw PyProof.Rows.kind_sorted PyProof.Rows.plain_sorted PyProof.Rows.entry_sorted (PyProof.Rows.args_sorted1 _) ?_
  unfold Builtin.«sorted»
  refine wpAny_bind (m := checkCount "sorted" 1 1 _) (wpAny_pure ?_)
  refine wpAny_bind (wpAny_collect_seq t (.inr rfl) ho hc hd (fun h1 k1 => ?_) (by rw [List.size_toArray, hlen]; exact hL))
  refine wpAny_bind (wpAny_newList ?_ (by rw [List.toList_toArray, hlen]; exact hL))
  rw [List.toList_toArray]
  have eo : (h1.push (PyProof.Rows.seqObj "list" vs.toArray 0)).get? h1.objs.size = some (PyProof.Rows.seqObj "list" vs.toArray 0) := Heap.get?_push_size _ rfl
  have lt1 : ∀ b ob, s.heap.get? b = some ob → b < h1.objs.size := fun b ob q => Heap.lt_size (k1 b ob q)
  have up : ∀ b ob, s.heap.get? b = some ob → (PySem.W.sortingHeap (h1.push (PyProof.Rows.seqObj "list" vs.toArray 0)) h1.objs.size vs).get? b = some ob := fun b ob q =>
    PySem.W.sortingHeap_old (Nat.ne_of_lt (lt1 b ob q)) (Heap.get?_push_of_some _ (k1 b ob q))
  have er' : PySem.W.EachIs (fun v b => ∃ as, Reads (PySem.W.sortingHeap (h1.push (PyProof.Rows.seqObj "list" vs.toArray 0)) h1.objs.size vs) v b as) vs bs := er.mono fun _ _ ⟨as, r⟩ => ⟨as, PyProof.Rows.Reads.keeps up r⟩
  have er2 : PySem.W.EachIs (fun v b => ∃ as, Reads (PySem.W.sortingHeap (h1.push (PyProof.Rows.seqObj "list" vs.toArray 0)) h1.objs.size vs) v ((fun d => d) b) as) vs bs := er'
  refine wpAny_bind (wpAny_holding (PyProof.Rows.wpAny_call_entry_kw PyProof.Rows.slot_list_sort ⟨_, eo, rfl⟩ PyProof.Rows.entry_list_sort (PySem.W.list_sort_vals (κ := PySem.W.dataKind (PySem.W.sortingHeap (h1.push (PyProof.Rows.seqObj "list" vs.toArray 0)) h1.objs.size vs) bs) eo
    (PySem.W.SortsAt.data (s := { s with heap := PySem.W.sortingHeap (h1.push (PyProof.Rows.seqObj "list" vs.toArray 0)) h1.objs.size vs }) er' hal hk hu) (by rw [hlen]; exact hL) ?_) (PyProof.Rows.args_list_sort _)))
  refine ⟨_, rfl, wpAny_pure ⟨_, rfl, ?_⟩⟩
  have e3 := PySem.W.sortVals_data (enc := fun d => d) false e er2 (by rw [List.map_id']; exact hal)
  rw [List.map_id'] at e3
  obtain ⟨ep, he⟩ := PyProof.Rows.sortedHeap_at (vs := vs) (out := (PySem.W.sortVals (PySem.W.dataKind (PySem.W.sortingHeap (h1.push (PyProof.Rows.seqObj "list" vs.toArray 0)) h1.objs.size vs) bs) false vs vs).toArray) eo
  refine k _ _ _ ep (by rw [PySem.W.sortVals_length false rfl]; exact hlen) e3 (fun b ob q => ?_) ?_ he
  · exact (PyProof.Rows.sortedHeap_old (Nat.ne_of_lt (lt1 b ob q)) (Heap.lt_size (Heap.get?_push_of_some _ (k1 b ob q)))).trans (Heap.get?_push_of_some _ (k1 b ob q))
  · cases g : s.heap.get? h1.objs.size with
    | none => rfl
    | some ob => exact absurd (lt1 _ _ g) (Nat.lt_irrefl _)
theorem srt_facts {ds : List PyData} (hs : srtB ds = true) : PySem.W.AllAlike ds ∧ PySem.W.Sortable ds ∧ ds.length ≤ sizeLine ∧ ∀ b ∈ ds, b.depth ≤ 60 := by
  simp only [srtB, Bool.and_eq_true, Bool.or_eq_true, List.all_eq_true, decide_eq_true_eq] at hs
  obtain ⟨⟨⟨h1, h2⟩, h3⟩, h4⟩ := hs
  refine ⟨fun d hd d' hd' => h1 d hd d' hd', ?_, h3, h4⟩
  rcases h2 with h2 | h2
  · refine .inl fun d hd => ?_
    have := h2 d hd
    split at this
    · exact ⟨_, _, rfl⟩
    · cases this
  · refine .inr fun d hd => ?_
    have := h2 d hd
    split at this
    · cases this
    · cases this
    · rename_i n1 n2
      exact ⟨n1, n2⟩
theorem ok_sorted (hu : X.A.units + 65 < cLine) : CallLx X (.builtin "sorted") sortedD := by
  refine ⟨fun vs H Q => ∃ (L : Addr → Prop) (a : Addr) (xs : List V) (ds : List PyData), vs = [.ref a] ∧ (H a = some (.lst xs) ∨ SqT X.K H a xs) ∧ RpAll X.K H L xs ds ∧ srtB ds = true ∧ ∀ p ys, H p = none → RpAll X.K H L ys (sortL ds) → Q (.ref p) (L2.upd H p (.lst ys)), fun pins s σ H vs us Q I r h => ?_, fun Z φ h H xs ds z Q S rx eg q => ?_⟩
  · obtain ⟨L, a, xs, ds, rfl, ha, ra, hs, q⟩ := h
    obtain ⟨h1, h2, h3, h4⟩ := srt_facts hs
    rw [Vals.ref1 r]
    rcases ha with ha | ha
    · obtain ⟨its, rv, hl, hz⟩ := I.list (SqL.of ha)
      refine PySem.W.sorted_data (R := fun (u : Value) (d : PyData) => ∃ x, RelV x u ∧ Rp X.K H L x d) (enc := fun d => d) hl.isList (each_of ra rv) (each_reads I ra rv) (by rw [List.map_id']; exact h1) (by rw [List.map_id']; exact h2) h3 (fun b hb => by have := h4 b hb; omega) fun out ho eo => ?_
      obtain ⟨ys, ry, rs⟩ := of_each eo
      obtain ⟨ep, he'⟩ := PyProof.Rows.sortedAll_at s.heap its out.toArray
      have hlen : ys.length ≤ sizeLine := by rw [ry.length, ho]; exact h3
      exact ⟨.ref _, L2.upd H (s.heap.objs.size + 1) (.lst ys), I.laid (t' := s.toks) (fun _ _ => PyProof.Rows.sortedAll_old) (Nat.le_succ _) ⟨hlen, out, ep, ry, by simpa using he'⟩, rfl, q _ ys (I.hok.fresh (Nat.le_succ _)) rs⟩
    · obtain ⟨its, rv, ⟨o, e1, e2, n, e3⟩, hz⟩ := I.tuple ha
      refine sorted_tupD (R := fun (u : Value) (d : PyData) => ∃ x, RelV x u ∧ Rp X.K H L x d) e1 e2 e3 (each_of ra rv) (each_reads I ra rv) h1 h2 h3 (fun b hb => by have := h4 b hb; omega) fun h' l out ep ho eo kk nl he' => ?_
      obtain ⟨ys, ry, rs⟩ := of_each eo
      have hlen : ys.length ≤ sizeLine := by rw [ry.length, ho]; exact h3
      exact ⟨.ref l, L2.upd H l (.lst ys), I.laidN (t' := s.toks) kk nl (I.hok.gone nl) ⟨hlen, out, ep, ry, he'⟩, rfl, q _ ys (I.hok.gone nl) rs⟩
  · unfold sortedD at eg
    split at eg
    · split at eg
      · cases eg
        obtain ⟨x, rfl, r⟩ := rx.one
        obtain ⟨a, ys, rfl, ha, ra⟩ := r.lst
        exact ⟨live Z φ h, a, ys, _, rfl, .inl ha, ra, by assumption, fun p ws n rw' => q p ws n rw'⟩
      · cases eg
    · split at eg
      · cases eg
        obtain ⟨x, rfl, r⟩ := rx.one
        obtain ⟨a, ys, rfl, ha, ra⟩ := r.tup
        exact ⟨live Z φ h, a, ys, _, rfl, .inr ha, ra, by assumption, fun p ws n rw' => q p ws n rw'⟩
      · cases eg
    · cases eg

/-! ### repr -/
def reprD : List PyData → Option PyData
  | [d] => if d.showable = true ∧ d.shown.length ≤ sizeLine ∧ d.depth ≤ 60 then some (.str d.shown) else none
  | _ => none
theorem plain_noDict : ∀ d : PyData, d.plain = true → d.hasDict = false := by
  have aux : (∀ d : PyData, d.plain = true → d.hasDict = false) ∧ True := ⟨fun d => ?_, trivial⟩
  exact aux.1
  exact (PyData.rec (motive_1 := fun d => d.plain = true → d.hasDict = false) (motive_2 := fun ds => PyData.plainAll ds = true → PyData.hasDictAll ds = false) (motive_3 := fun _ => True) (motive_4 := fun _ => True)
    (fun _ => rfl) (fun _ _ => rfl) (fun _ _ => rfl) (fun _ _ => rfl) (fun xs ih h => by simp only [PyData.hasDict]; exact ih (by simpa only [PyData.plain] using h)) (fun xs ih h => by simp only [PyData.hasDict]; exact ih (by simpa only [PyData.plain] using h))
    (fun _ _ h => by simp only [PyData.plain] at h; cases h) (fun _ => rfl) (fun x xs ih1 ih2 h => by simp only [PyData.plainAll, Bool.and_eq_true] at h; simp only [PyData.hasDictAll, ih1 h.1, ih2 h.2, Bool.or_false]) trivial (fun _ _ _ _ => trivial) (fun _ _ _ _ => trivial) d)
theorem ok_repr (hu : X.A.units + 65 < cLine) (hg : X.A.guards = some []) : CallOk X (.builtin "repr") reprD := by
  refine ⟨fun vs H Q => ∃ v d, vs = [v] ∧ Dp X.K H v d ∧ d.showable = true ∧ d.shown.length ≤ sizeLine ∧ d.depth ≤ 60 ∧ Q (.str d.shown) H, fun pins s σ H vs us Q I r h => ?_, fun Z φ h H xs ds z Q S rx eg q => ?_⟩
  · obtain ⟨v, d, rfl, hd, h1, h2, h3, q⟩ := h
    obtain ⟨u, rfl, ru⟩ := vals1 r
    obtain ⟨as, rd⟩ := Dp.reads I d v u hd ru
    cases hd with
    | non => cases ru; exact PySem.P.repr_of_none ⟨.str _, H, I.tok _, ⟨_, rfl⟩, q⟩
    | bl b => cases ru; exact PySem.P.repr_of_bool ⟨.str _, H, I.tok _, ⟨_, rfl⟩, q⟩
    | int i =>
      obtain ⟨t, rfl⟩ := ru
      exact PySem.P.repr_of_int (by simpa [PyData.showable] using h1) ⟨.str _, H, I.tok _, ⟨_, rfl⟩, q⟩
    | str x =>
      obtain ⟨t, rfl⟩ := ru
      exact PySem.P.repr_of_str ⟨.str _, H, I.tok _, ⟨_, rfl⟩, q⟩ h2
    | lst e ra =>
      cases ru
      exact PySem.repr_of_reads' rd h1 (fun z => by rw [plain_noDict _ (Dp.plain (.lst e ra))] at z; cases z) hg (by omega) (fun _ _ e => e) (fun h' u tk hk => ⟨.str _, H, I.kept (t' := tk) hk, ⟨_, rfl⟩, q⟩) h2
    | tup e ra =>
      cases ru
      exact PySem.repr_of_reads' rd h1 (fun z => by rw [plain_noDict _ (Dp.plain (.tup e ra))] at z; cases z) hg (by omega) (fun _ _ e => e) (fun h' u tk hk => ⟨.str _, H, I.kept (t' := tk) hk, ⟨_, rfl⟩, q⟩) h2
  · unfold reprD at eg
    split at eg
    · split at eg
      · rename_i hh
        cases eg
        obtain ⟨x, rfl, r⟩ := rx.one
        exact ⟨x, _, rfl, r.dp, hh.1, hh.2.1, hh.2.2, q H _ Stp.refl S (.str _)⟩
      · cases eg
    · cases eg
end
end Dn
end

section
/-! Dn, part 5: targets, what is walked, comprehensions -/
namespace Dn
open PySem PySem.Spec PyProof.Rows L2

/-! ### equal data, by a test -/
mutual
def sameD : PyData → PyData → Bool
  | .none, .none => true
  | .bool a, .bool b => a == b
  | .int a, .int b => decide (a = b)
  | .str a, .str b => decide (a = b)
  | .list a, .list b => sameL a b
  | .tuple a, .tuple b => sameL a b
  | _, _ => false
def sameL : List PyData → List PyData → Bool
  | [], [] => true
  | a :: r, b :: s => sameD a b && sameL r s
  | _, _ => false
end
mutual
theorem sameD_eq : ∀ {a b : PyData}, sameD a b = true → a = b
  | .none, b, h => by cases b <;> first | rfl | (simp [sameD] at h)
  | .bool x, b, h => by cases b <;> first | (simp [sameD] at h; rw [h]) | (simp [sameD] at h)
  | .int x, b, h => by cases b <;> first | (simp [sameD] at h; rw [h]) | (simp [sameD] at h)
  | .str x, b, h => by cases b <;> first | (simp [sameD] at h; rw [h]) | (simp [sameD] at h)
  | .list x, b, h => by
    cases b with
    | list y => simp only [sameD] at h; rw [sameL_eq h]
    | _ => simp [sameD] at h
  | .tuple x, b, h => by
    cases b with
    | tuple y => simp only [sameD] at h; rw [sameL_eq h]
    | _ => simp [sameD] at h
  | .dict x, b, h => by cases b <;> simp [sameD] at h
theorem sameL_eq : ∀ {a b : List PyData}, sameL a b = true → a = b
  | [], b, h => by cases b <;> first | rfl | (simp [sameL] at h)
  | x :: r, b, h => by
    cases b with
    | nil => simp [sameL] at h
    | cons y s =>
      simp only [sameL, Bool.and_eq_true] at h
      rw [sameD_eq h.1, sameL_eq h.2]
end
theorem plain_same : ∀ d : PyData, d.plain = true → sameD d d = true :=
  fun d => (PyData.rec (motive_1 := fun d => d.plain = true → sameD d d = true) (motive_2 := fun ds => PyData.plainAll ds = true → sameL ds ds = true) (motive_3 := fun _ => True) (motive_4 := fun _ => True)
    (fun _ => rfl) (fun b _ => by simp [sameD]) (fun _ _ => by simp [sameD]) (fun _ _ => by simp [sameD]) (fun xs ih h => by simp only [sameD]; exact ih (by simpa only [PyData.plain] using h)) (fun xs ih h => by simp only [sameD]; exact ih (by simpa only [PyData.plain] using h))
    (fun _ _ h => by simp only [PyData.plain] at h; cases h) (fun _ => rfl) (fun x xs ih1 ih2 h => by simp only [PyData.plainAll, Bool.and_eq_true] at h; simp only [sameL, ih1 h.1, ih2 h.2, Bool.and_self]) trivial (fun _ _ _ _ => trivial) (fun _ _ _ _ => trivial) d)

section
variable {X : Cx} {W : WX}

/-! ### the weakest reading -/
def can {α β : Type} (K : PySem.W.Frag) (mg : Str → Option Value) (W : WX) (rel : Rel α β) (f : En → Hl → R β) : RT α := fun σ H Q =>
  ∃ (Z : Addr → Prop) (φ : Nat → Addr) (ρ : En) (h : Hl), SimH K Z φ h H ∧ SimE K Z φ h H ρ σ ∧ PostR K mg (fun c d H' => W c d σ H') Z φ h H (f ρ h) (fun φ' h' H' b => ∀ a, rel K Z φ' h' H' a b → Q a H')
theorem Sn.can {α β : Type} {rel : Rel α β} {t : RT α} {f : En → Hl → R β} (s : Sn X W rel t f) {σ : St} {H : Hp} {Q : α → Hp → Prop} (h : can X.K X.mg W rel f σ H Q) : t σ H Q := by
  obtain ⟨Z, φ, ρ, hh, S, E, p⟩ := h
  exact s Z φ ρ hh σ H Q S E p
theorem can_sn {α β : Type} {rel : Rel α β} {f : En → Hl → R β} : Sn X W rel (can X.K X.mg W rel f) f := fun Z φ ρ h σ H Q S E p => ⟨Z, φ, ρ, h, S, E, p⟩
theorem Ex.can {e : Expr} {f : En → Hl → R Val} (h : Ex X W e f) : PE X e (Dn.can X.K X.mg W relV f) := by
  obtain ⟨t, p, s⟩ := h
  exact ⟨fun pins s' σ H Q I q => p.run pins s' σ H Q I (s.can q)⟩
theorem Tx.can {e : Expr} {f : En → Hl → R Bool} (h : Tx X W e f) : PT X e (Dn.can X.K X.mg W relB f) := by
  obtain ⟨t, p, s⟩ := h
  exact ⟨fun pins s' σ H Q I q => p.run pins s' σ H Q I (s.can q)⟩

/-! ### targets -/
inductive DG where
  | nm (i : Nat) | tp (gs : List DG)
mutual
def setG : DG → Val → En → Option En
  | .nm i, v, ρ => some (ρ.set i (some v))
  | .tp gs, .dat (.tuple ds), ρ => setGs gs ds ρ
  | .tp _, _, _ => none
def setGs : List DG → List PyData → En → Option En
  | [], [], ρ => some ρ
  | g :: gs, d :: ds, ρ => (setG g (.dat d) ρ).bind (setGs gs ds)
  | _, _, _ => none
end
mutual
def slotsG : DG → List Nat
  | .nm i => [i]
  | .tp gs => slotsGs gs
def slotsGs : List DG → List Nat
  | [] => []
  | g :: gs => slotsG g ++ slotsGs gs
end
mutual
/-- the reading of a target -/
def tG (K : PySem.W.Frag) : DG → TG
  | .nm i => gName i
  | .tp gs => gTup K gs.length (tGs K gs)
def tGs (K : PySem.W.Frag) : List DG → TGs
  | [] => gNil
  | g :: gs => gCons (tG K g) (tGs K gs)
end
theorem wipe_set {σ : St} {i : Nat} {o : Option V} : ∀ {vs : List Nat}, i ∈ vs → L2.wipe (σ.set i o) vs = L2.wipe σ vs
  | v :: vs, h => by
    show (L2.wipe (σ.set i o) vs).set v none = (L2.wipe σ vs).set v none
    by_cases q : i ∈ vs
    · rw [wipe_set q]
    · have e : v = i := by
        rcases List.mem_cons.mp h with e | e
        · exact e.symm
        · exact absurd e q
      subst e
      have aux : ∀ ws : List Nat, v ∉ ws → L2.wipe (σ.set v o) ws = (L2.wipe σ ws).set v o := by
        intro ws
        induction ws with
        | nil => intro _; rfl
        | cons u us ih =>
          intro hn
          show (L2.wipe (σ.set v o) us).set u none = ((L2.wipe σ us).set u none).set v o
          rw [ih fun z => hn (List.mem_cons_of_mem _ z)]
          exact List.set_comm _ _ (fun z => hn (by rw [z]; exact List.mem_cons_self ..))
      rw [aux vs q, List.set_set]
mutual
theorem sn_g {K : PySem.W.Frag} {Z : Addr → Prop} {φ : Nat → Addr} {h : Hl} {H : Hp} (S : SimH K Z φ h H) : ∀ (g : DG) {ρ ρ' : En} {σ : St} {x : V} {v : Val} {Q : St → Hp → Prop}, SimE K Z φ h H ρ σ → RpV K Z φ h H x v → setG g v ρ = some ρ' →
    (∀ σ', SimE K Z φ h H ρ' σ' → (∀ vs, (∀ i ∈ slotsG g, i ∈ vs) → L2.wipe σ' vs = L2.wipe σ vs) → Q σ' H) → tG K g x σ H Q
  | .nm i, ρ, ρ', σ, x, v, Q, E, r, e, k => by
    simp only [setG, Option.some.injEq] at e
    subst e
    exact k _ (E.set r) fun vs hi => wipe_set (hi i (by simp [slotsG]))
  | .tp gs, ρ, ρ', σ, x, v, Q, E, r, e, k => by
    unfold setG at e
    split at e
    · rename_i heq; cases heq
    · rename_i ds e1
      cases e1
      cases r with
      | tup hq ra =>
        rename_i a xs
        have hl : xs.length = gs.length := by rw [ra.length]; exact (setGs_len gs e).symm
        simp only [tG]
        exact ⟨a, xs, rfl, hq, hl, sn_gs S gs E ra e fun σ' E' w => k σ' E' fun vs hi => w vs (by simpa [slotsG] using hi)⟩
    · cases e
theorem sn_gs {K : PySem.W.Frag} {Z : Addr → Prop} {φ : Nat → Addr} {h : Hl} {H : Hp} (S : SimH K Z φ h H) : ∀ (gs : List DG) {ρ ρ' : En} {σ : St} {xs : List V} {ds : List PyData} {Q : St → Hp → Prop}, SimE K Z φ h H ρ σ → RpAll K H (live Z φ h) xs ds → setGs gs ds ρ = some ρ' →
    (∀ σ', SimE K Z φ h H ρ' σ' → (∀ vs, (∀ i ∈ slotsGs gs, i ∈ vs) → L2.wipe σ' vs = L2.wipe σ vs) → Q σ' H) → tGs K gs xs σ H Q
  | [], ρ, ρ', σ, xs, ds, Q, E, r, e, k => by
    cases r with
    | nil => simp only [setGs, Option.some.injEq] at e; subst e; exact ⟨rfl, k σ E fun _ _ => rfl⟩
    | cons _ _ => simp [setGs] at e
  | g :: gs, ρ, ρ', σ, xs, ds, Q, E, r, e, k => by
    cases r with
    | nil => simp [setGs] at e
    | cons r1 rr =>
      simp only [setGs] at e
      cases e1 : setG g (.dat _) ρ with
      | none => rw [e1] at e; cases e
      | some ρ1 =>
        rw [e1] at e
        simp only [tGs]
        refine ⟨_, _, rfl, sn_g S g (v := .dat _) E r1 e1 fun σ1 E1 w1 => sn_gs S gs E1 rr e fun σ2 E2 w2 => k σ2 E2 fun vs hi => ?_⟩
        rw [w2 vs fun i hi' => hi i (by simp [slotsGs, hi']), w1 vs fun i hi' => hi i (by simp [slotsGs, hi'])]
theorem setGs_len : ∀ (gs : List DG) {ρ ρ' : En} {ds : List PyData}, setGs gs ds ρ = some ρ' → gs.length = ds.length
  | [], ρ, ρ', ds, e => by
    cases ds with
    | nil => rfl
    | cons _ _ => simp [setGs] at e
  | g :: gs, ρ, ρ', ds, e => by
    cases ds with
    | nil => simp [setGs] at e
    | cons d ds =>
      simp only [setGs] at e
      cases e1 : setG g (.dat d) ρ with
      | none => rw [e1] at e; cases e
      | some ρ1 =>
        rw [e1] at e
        exact congrArg (· + 1) (setGs_len gs e)
end

/-! ### what is walked -/
structure ItD where
  items : List PyData
  own : Option (Nat × Bool)
/-- the items with their places -/
def enumL : Nat → List PyData → List PyData
  | _, [] => []
  | n, d :: ds => .tuple [.int (n : Int), d] :: enumL (n + 1) ds
/-- an own list that is walked is what it was -/
def ckD (it : ItD) (h : Hl) : Bool := match it.own with
  | none => true
  | some k => (match h[k.1]? with
    | some (some (.lst ds)) => sameL (if k.2 = true then enumL 0 ds else ds) it.items
    | _ => false)
structure ItOk (K : PySem.W.Frag) (Z : Addr → Prop) (J : It) (it : ItD) (φ : Nat → Addr) (h : Hl) (H : Hp) : Prop where
  go : ∀ (Z' : Addr → Prop) φ1 h1 H1, Stp φ Z h H φ1 h1 H1 → SimH K Z' φ1 h1 H1 → ckD it h1 = true → (∀ a, (∃ o, H a = some o) → Z' a → Z a) → ∀ i d, it.items[i]? = some d → J.go i H1 ∧ ∀ x H2, J.yld i H1 x H2 → Stp φ1 Z' h1 H1 φ1 h1 H2 ∧ SimH K Z' φ1 h1 H2 ∧ Rp K H2 (live Z' φ1 h1) x d
  stop : ∀ (Z' : Addr → Prop) φ1 h1 H1, Stp φ Z h H φ1 h1 H1 → SimH K Z' φ1 h1 H1 → ckD it h1 = true → (∀ a, (∃ o, H a = some o) → Z' a → Z a) → ∀ i, it.items[i]? = none → J.stop i H1
/-- an expression that is walked -/
def Ix (X : Cx) (W : WX) (tg e : Expr) (f : En → Hl → R ItD) : Prop := ∃ wi, PI X tg e wi ∧
  ∀ (Z : Addr → Prop) (φ : Nat → Addr) (ρ : En) (h : Hl) (σ : St) (H : Hp) (Q : It → Hp → Prop), SimH X.K Z φ h H → SimE X.K Z φ h H ρ σ →
    PostR X.K X.mg (fun c d H' => W c d σ H') Z φ h H (f ρ h) (fun φ' h' H' it => ∀ J, ItOk X.K Z J it φ' h' H' → Q J H') → wi σ H Q

mutual
theorem Rp.stepZ {K : PySem.W.Frag} {Z Z' : Addr → Prop} {φ φ1 : Nat → Addr} {h h1 : Hl} {H H1 : Hp} (S : SimH K Z φ h H) (s : Stp φ Z h H φ1 h1 H1) (hz : ∀ a, (∃ o, H a = some o) → Z' a → Z a) : ∀ {x : V} {d : PyData}, Rp K H (live Z φ h) x d → Rp K H1 (live Z' φ1 h1) x d
  | _, _, .non => .non
  | _, _, .bl b => .bl b
  | _, _, .int b => .int b
  | _, _, .str b => .str b
  | _, _, .lst (a := a) e n r => .lst (s.keep _ _ e (notOwn_of n)) (fun l => l.elim (fun ⟨i, o, g, q⟩ => s.nl0 e (notOwn_of n) i o g q) fun z => n (.inr (hz a ⟨_, e⟩ z))) (RpAll.stepZ S s hz r)
  | _, _, .tup e r => .tup (SqT.step S s e) (RpAll.stepZ S s hz r)
theorem RpAll.stepZ {K : PySem.W.Frag} {Z Z' : Addr → Prop} {φ φ1 : Nat → Addr} {h h1 : Hl} {H H1 : Hp} (S : SimH K Z φ h H) (s : Stp φ Z h H φ1 h1 H1) (hz : ∀ a, (∃ o, H a = some o) → Z' a → Z a) : ∀ {x : List V} {d : List PyData}, RpAll K H (live Z φ h) x d → RpAll K H1 (live Z' φ1 h1) x d
  | _, _, .nil => .nil
  | _, _, .cons r t => .cons (Rp.stepZ S s hz r) (RpAll.stepZ S s hz t)
end
/-- as ItOk, for an iterator that tells items by their place -/
theorem itOk_of {K : PySem.W.Frag} {Z : Addr → Prop} {φ : Nat → Addr} {h : Hl} {H : Hp} {it : ItD} {J : It}
    (go : ∀ (Z' : Addr → Prop) φ1 h1 H1, Stp φ Z h H φ1 h1 H1 → SimH K Z' φ1 h1 H1 → ckD it h1 = true → (∀ a, (∃ o, H a = some o) → Z' a → Z a) → ∀ i d, it.items[i]? = some d → J.go i H1 ∧ ∀ x H2, J.yld i H1 x H2 → Stp φ1 Z' h1 H1 φ1 h1 H2 ∧ SimH K Z' φ1 h1 H2 ∧ Rp K H2 (live Z' φ1 h1) x d)
    (stop : ∀ (Z' : Addr → Prop) φ1 h1 H1, Stp φ Z h H φ1 h1 H1 → SimH K Z' φ1 h1 H1 → ckD it h1 = true → (∀ a, (∃ o, H a = some o) → Z' a → Z a) → ∀ i, it.items[i]? = none → J.stop i H1) : ItOk K Z J it φ h H := ⟨go, stop⟩

/-! a list, a tuple, a text -/
def iSeq (K : PySem.W.Frag) (te : TE) : TI := fun σ H R => te σ H fun x H1 =>
  (∃ a xs, x = .ref a ∧ SqL K H1 a xs ∧ R (Itl K a) H1) ∨ (∃ a xs, x = .ref a ∧ SqT K H1 a xs ∧ R (Itt K a) H1) ∨ ∃ z, x = .str z ∧ R (Its z) H1
theorem pi_seq {tg e : Expr} {te : TE} (he : PE X e te) : PI X tg e (iSeq X.K te) := by
  refine ⟨fun pins s σ H R I h => ?_⟩
  refine thn (he.run pins s σ H _ I h) fun v s1 ⟨x, H1, I1, r1, q1⟩ => ?_
  rcases q1 with ⟨a, xs, rfl, hq, q⟩ | ⟨a, xs, rfl, hq, q⟩ | ⟨z, rfl, q⟩
  · cases r1
    obtain ⟨its, rv, p, hz⟩ := I1.list hq
    exact wpAny_pyIter_list p.isList (pi_one (tk := s1.toks) I1 _ (turn_list a _) ⟨_, Heap.get?_push_size _ rfl, rfl, rfl⟩ q)
  · cases r1
    obtain ⟨its, rv, p, hz⟩ := I1.tuple hq
    exact wpAny_pyIter_tuple (show s1.heap.IsTuple a its.toArray from p) (pi_one (tk := s1.toks) I1 _ (turn_tuple a _) ⟨_, Heap.get?_push_size _ rfl, rfl, rfl⟩ q)
  · obtain ⟨t, rfl⟩ := r1
    cases ha : z.cps.all (· < 128)
    · exact wpAny_pyIter_wide ha (pi_one (tk := s1.toks) I1 _ (turn_str _ z t "str_iterator" (.inr rfl)) ⟨_, Heap.get?_push_size _ rfl, rfl, rfl⟩ q)
    · exact wpAny_pyIter_ascii ha (pi_one (tk := s1.toks) I1 _ (turn_str _ z t "str_ascii_iterator" (.inl rfl)) ⟨_, Heap.get?_push_size _ rfl, rfl, rfl⟩ q)
def signsD (z : Str) : List PyData := z.cps.toList.map fun c => .str ⟨#[c]⟩
def seqI (v : Val) (h : Hl) : R ItD := match v with
  | .dat (.list ds) => .ok ⟨ds, none⟩ h
  | .dat (.tuple ds) => .ok ⟨ds, none⟩ h
  | .dat (.str z) => .ok ⟨signsD z, none⟩ h
  | .ref k => (match h[k]? with
    | some (some (.lst ds)) => .ok ⟨ds, some (k, false)⟩ h
    | _ => .stuck)
  | _ => .stuck
/-- an iterator over a list that stands where it stood -/
theorem itOk_l {K : PySem.W.Frag} {Z : Addr → Prop} {φ : Nat → Addr} {h : Hl} {H : Hp} {a : Addr} {it : ItD}
    (base : ∀ (Z' : Addr → Prop) φ1 h1 H1, Stp φ Z h H φ1 h1 H1 → SimH K Z' φ1 h1 H1 → ckD it h1 = true → (∀ a, (∃ o, H a = some o) → Z' a → Z a) → ∃ xs, SqL K H1 a xs ∧ RpAll K H1 (live Z' φ1 h1) xs it.items) : ItOk K Z (Itl K a) it φ h H := by
  refine ⟨fun Z' φ1 h1 H1 s S1 c hz i d g => ?_, fun Z' φ1 h1 H1 s S1 c hz i g => ?_⟩
  · obtain ⟨xs, e1, r1⟩ := base Z' φ1 h1 H1 s S1 c hz
    obtain ⟨x, gx, rx⟩ := r1.get g
    refine ⟨⟨xs, x, e1, gx⟩, fun y H2 hy => ?_⟩
    obtain ⟨rfl, fy⟩ := hy
    have := fy xs e1
    rw [gx] at this; cases this
    exact ⟨Stp.refl, S1, rx⟩
  · obtain ⟨xs, e1, r1⟩ := base Z' φ1 h1 H1 s S1 c hz
    exact ⟨xs, e1, by rw [r1.length]; exact List.getElem?_eq_none_iff.mp g⟩
theorem itOk_t {K : PySem.W.Frag} {Z : Addr → Prop} {φ : Nat → Addr} {h : Hl} {H : Hp} {a : Addr} {it : ItD}
    (base : ∀ (Z' : Addr → Prop) φ1 h1 H1, Stp φ Z h H φ1 h1 H1 → SimH K Z' φ1 h1 H1 → ckD it h1 = true → (∀ a, (∃ o, H a = some o) → Z' a → Z a) → ∃ xs, SqT K H1 a xs ∧ RpAll K H1 (live Z' φ1 h1) xs it.items) : ItOk K Z (Itt K a) it φ h H := by
  refine ⟨fun Z' φ1 h1 H1 s S1 c hz i d g => ?_, fun Z' φ1 h1 H1 s S1 c hz i g => ?_⟩
  · obtain ⟨xs, e1, r1⟩ := base Z' φ1 h1 H1 s S1 c hz
    obtain ⟨x, gx, rx⟩ := r1.get g
    refine ⟨⟨xs, x, e1, gx⟩, fun y H2 hy => ?_⟩
    obtain ⟨rfl, fy⟩ := hy
    have := fy xs e1
    rw [gx] at this; cases this
    exact ⟨Stp.refl, S1, rx⟩
  · obtain ⟨xs, e1, r1⟩ := base Z' φ1 h1 H1 s S1 c hz
    exact ⟨xs, e1, by rw [r1.length]; exact List.getElem?_eq_none_iff.mp g⟩
/-- where the items are had from: data, or an own list that is what it was -/
theorem base_l {K : PySem.W.Frag} {Z : Addr → Prop} {φ : Nat → Addr} {h : Hl} {H : Hp} {x : V} {v : Val} {it : ItD} {h' : Hl} (S : SimH K Z φ h H) (r : RpV K Z φ h H x v) (e : seqI v h = .ok it h') :
    h' = h ∧ ((∃ a, x = .ref a ∧ (∃ xs, SqL K H a xs) ∧ ∀ (Z' : Addr → Prop) φ1 h1 H1, Stp φ Z h H φ1 h1 H1 → SimH K Z' φ1 h1 H1 → ckD it h1 = true → (∀ a, (∃ o, H a = some o) → Z' a → Z a) → ∃ xs, SqL K H1 a xs ∧ RpAll K H1 (live Z' φ1 h1) xs it.items) ∨
      (∃ a, x = .ref a ∧ (∃ xs, SqT K H a xs) ∧ ∀ (Z' : Addr → Prop) φ1 h1 H1, Stp φ Z h H φ1 h1 H1 → SimH K Z' φ1 h1 H1 → ckD it h1 = true → (∀ a, (∃ o, H a = some o) → Z' a → Z a) → ∃ xs, SqT K H1 a xs ∧ RpAll K H1 (live Z' φ1 h1) xs it.items) ∨
      ∃ z, x = .str z ∧ it = ⟨signsD z, none⟩) := by
  unfold seqI at e
  split at e
  · cases e
    cases r with
    | lst e0 n ra => exact ⟨rfl, .inl ⟨_, rfl, ⟨_, SqL.of e0⟩, fun Z' φ1 h1 H1 s S1 _ hz => ⟨_, SqL.of (s.keep _ _ e0 (notOwn_of n)), RpAll.stepZ S s hz ra⟩⟩⟩
  · cases e
    cases r with
    | tup e0 ra => exact ⟨rfl, .inr (.inl ⟨_, rfl, ⟨_, e0⟩, fun Z' φ1 h1 H1 s S1 _ hz => ⟨_, SqT.step S s e0, RpAll.stepZ S s hz ra⟩⟩)⟩
  · cases e
    cases r
    exact ⟨rfl, .inr (.inr ⟨_, rfl, rfl⟩)⟩
  · split at e
    · rename_i k _ ds g
      cases e
      obtain ⟨hk, rfl⟩ := r
      obtain ⟨ys, ey, _⟩ := S.ol g
      refine ⟨rfl, .inl ⟨_, rfl, ⟨_, SqL.of ey⟩, fun Z' φ1 h1 H1 s S1 c hz => ?_⟩⟩
      unfold ckD at c
      dsimp only at c
      split at c
      · rename_i es g1
        have := sameL_eq c
        subst this
        obtain ⟨xs, e1, r1⟩ := S1.ol g1
        rw [s.old k hk] at e1
        exact ⟨xs, SqL.of e1, r1⟩
      · cases c
    · cases e
  · cases e
theorem itOk_s {K : PySem.W.Frag} {Z : Addr → Prop} {φ : Nat → Addr} {h : Hl} {H : Hp} {z : Str} : ItOk K Z (Its z) ⟨signsD z, none⟩ φ h H := by
  have gs : ∀ (i : Nat), (signsD z)[i]? = (z.cps[i]?).map fun c => .str ⟨#[c]⟩ := fun i => by
    unfold signsD
    rw [List.getElem?_map, Array.getElem?_toList]
  refine ⟨fun Z' φ1 h1 H1 s S1 c hz i d g => ?_, fun Z' φ1 h1 H1 s S1 c hz i g => ?_⟩
  · have g' : (signsD z)[i]? = some d := g
    rw [gs] at g'
    cases e : z.cps[i]? with
    | none => rw [e] at g'; cases g'
    | some k =>
      rw [e] at g'; cases g'
      refine ⟨(Array.getElem?_eq_some_iff.mp e).1, fun y H2 hy => ?_⟩
      obtain ⟨rfl, k', e', rfl⟩ := hy
      rw [e] at e'; cases e'
      exact ⟨Stp.refl, S1, .str _⟩
  · have g' : (signsD z)[i]? = none := g
    rw [gs] at g'
    cases e : z.cps[i]? with
    | none => exact Array.getElem?_eq_none_iff.mp e
    | some k => rw [e] at g'; cases g'
def seqD (f : En → Hl → R Val) : En → Hl → R ItD := fun ρ h => (f ρ h).bind seqI
theorem ix_seqI {tg e : Expr} {f : En → Hl → R Val} (he : Ex X W e f) : Ix X W tg e (seqD f) := by
  obtain ⟨t, p, s⟩ := he
  refine ⟨_, pi_seq p, fun Z φ ρ hh σ H Q S E po => ?_⟩
  refine s.seq S E po fun v h1 φ1 H1 x s1 S1 E1 r1 p1 => ?_
  cases e1 : seqI v h1 with
  | stuck => rw [e1] at p1; exact p1.elim
  | exc _ _ =>
    unfold seqI at e1
    split at e1
    · cases e1
    · cases e1
    · cases e1
    · split at e1 <;> cases e1
    · cases e1
  | ok it h2 =>
    rw [e1] at p1
    obtain ⟨rfl, q⟩ := base_l S1 r1 e1
    rcases q with ⟨a, rfl, ⟨xs, hx⟩, b⟩ | ⟨a, rfl, ⟨xs, hx⟩, b⟩ | ⟨z, rfl, rfl⟩
    · exact .inl ⟨a, xs, rfl, hx, p1 φ1 H1 Stp.refl S1 _ (itOk_l b)⟩
    · exact .inr (.inl ⟨a, xs, rfl, hx, p1 φ1 H1 Stp.refl S1 _ (itOk_t b)⟩)
    · exact .inr (.inr ⟨z, rfl, p1 φ1 H1 Stp.refl S1 _ itOk_s⟩)

/-! ranges -/
def rngItems (lo : Int) (n : Nat) : List PyData := (List.range n).map fun (i : Nat) => .int (lo + (i : Int))
theorem itOk_r {K : PySem.W.Frag} {Z : Addr → Prop} {φ : Nat → Addr} {h : Hl} {H : Hp} {lo : Int} {n : Nat} : ItOk K Z (Itr lo n) ⟨rngItems lo n, none⟩ φ h H := by
  refine ⟨fun Z' φ1 h1 H1 s S1 c hz i d g => ?_, fun Z' φ1 h1 H1 s S1 c hz i g => ?_⟩
  · have g' : (rngItems lo n)[i]? = some d := g
    unfold rngItems at g'
    rw [List.getElem?_map] at g'
    by_cases q : i < n
    · rw [List.getElem?_range q] at g'
      cases g'
      refine ⟨q, fun y H2 hy => ?_⟩
      obtain ⟨rfl, rfl⟩ := hy
      exact ⟨Stp.refl, S1, .int _⟩
    · rw [List.getElem?_eq_none (by simpa using Nat.le_of_not_lt q)] at g'
      cases g'
  · have g' : (rngItems lo n)[i]? = none := g
    have := List.getElem?_eq_none_iff.mp g'
    show n ≤ i
    simpa [rngItems] using this
def rngOk (j : Int) : Bool := decide (-(2 ^ 62) ≤ j) && decide (j < 2 ^ 62)
theorem rngOk_iff {j : Int} (h : rngOk j = true) : -(2 ^ 62) ≤ j ∧ j < 2 ^ 62 := by simpa [rngOk] using h
def rng1D (fa : En → Hl → R (List Val)) : En → Hl → R ItD := fun ρ h => (fa ρ h).bind fun vs h1 => match vs with
  | [.dat (.int j)] => if rngOk j = true then .ok ⟨rngItems 0 j.toNat, none⟩ h1 else .stuck
  | _ => .stuck
theorem ix_rng1 {tg a : Expr} {fa : En → Hl → R (List Val)} {p pos : Pos} (hg : Gl X "range") (hm : X.mg "range" = none) (ha : Ax X W [a] fa) (hs : starEach [a] X.env = [(false, eval a X.env)]) : Ix X W tg (.Call (.Name "range" p) [a] [] pos) (rng1D fa) := by
  obtain ⟨t, pa, s⟩ := ha
  refine ⟨_, pi_range1 hg hm pa hs, fun Z φ ρ hh σ H Q S E po => ?_⟩
  refine s.seq S E po fun v h1 φ1 H1 x s1 S1 E1 r1 p1 => ?_
  split at p1
  · rename_i j
    split at p1
    · rename_i hj
      cases r1 with
      | cons r rr =>
        cases rr
        cases r
        obtain ⟨q1, q2⟩ := rngOk_iff hj
        exact ⟨j, rfl, q1, q2, p1 φ1 H1 Stp.refl S1 _ itOk_r⟩
    · exact p1.elim
  · exact p1.elim
def rng2D (fa : En → Hl → R (List Val)) : En → Hl → R ItD := fun ρ h => (fa ρ h).bind fun vs h1 => match vs with
  | [.dat (.int i), .dat (.int j)] => if rngOk i = true ∧ rngOk j = true then .ok ⟨rngItems i (j - i).toNat, none⟩ h1 else .stuck
  | _ => .stuck
theorem ix_rng2 {tg a b : Expr} {fa : En → Hl → R (List Val)} {p pos : Pos} (hg : Gl X "range") (hm : X.mg "range" = none) (ha : Ax X W [a, b] fa) (hs : starEach [a, b] X.env = [(false, eval a X.env), (false, eval b X.env)]) (hs2 : starEach [b] X.env = [(false, eval b X.env)]) : Ix X W tg (.Call (.Name "range" p) [a, b] [] pos) (rng2D fa) := by
  obtain ⟨t, pa, s⟩ := ha
  refine ⟨_, pi_range2 hg hm pa hs hs2, fun Z φ ρ hh σ H Q S E po => ?_⟩
  refine s.seq S E po fun v h1 φ1 H1 x s1 S1 E1 r1 p1 => ?_
  split at p1
  · rename_i i j
    split at p1
    · rename_i hj
      cases r1 with
      | cons r rr =>
        cases rr with
        | cons r2 rr =>
          cases rr
          cases r
          cases r2
          obtain ⟨q1, q2⟩ := rngOk_iff hj.1
          obtain ⟨q3, q4⟩ := rngOk_iff hj.2
          exact ⟨i, j, rfl, ⟨q1, q2, q3, q4⟩, p1 φ1 H1 Stp.refl S1 _ itOk_r⟩
    · exact p1.elim
  · exact p1.elim
end
end Dn
end

section
/-! Dn, part 6: comprehensions -/
namespace Dn
open PySem PySem.Spec PyProof.Rows L2

section
variable {K : PySem.W.Frag} {mg : Str → Option Value} {V : Value → Option Addr → Hp → Prop} {Z : Addr → Prop} {φ φ1 : Nat → Addr} {h h1 : Hl} {H H1 : Hp}
theorem PostR.bind {β γ : Type} {r : R β} {k : β → Hl → R γ} {κ : (Nat → Addr) → Hl → Hp → γ → Prop} {κ' : (Nat → Addr) → Hl → Hp → β → Prop} (p : PostR K mg V Z φ h H (r.bind k) κ)
    (f : ∀ b h1 φ1 H1, r = .ok b h1 → Stp φ Z h H φ1 h1 H1 → SimH K Z φ1 h1 H1 → PostR K mg V Z φ1 h1 H1 (k b h1) κ → κ' φ1 h1 H1 b) : PostR K mg V Z φ h H r κ' := by
  cases r with
  | stuck => exact p
  | exc x h' => exact p
  | ok b h' => exact fun φ' H' s' S' => f b h' φ' H' rfl s' S' (PostR.shift p s')
/-- a list that is made in the dark -/
theorem dark {D : Addr} {u0 : HO} (S : SimH K Z φ h H) (n : H D = none) (mu : Mut (some u0) := by trivial) : SimH K (fun a => Z a ∨ a = D) φ h (L2.upd H D u0) := by
  have hz : ∀ a, (∃ o, H a = some o) → (Z a ∨ a = D) → Z a := fun a ⟨o, e⟩ z => z.elim id fun q => by subst q; rw [n] at e; cases e
  refine ⟨S.inj, fun i hi => ?_, fun i o g => ?_, fun a z => ?_, fun i hi z => ?_⟩
  · obtain ⟨o, q, m⟩ := S.trk i hi
    exact ⟨o, by rw [upd_ne (ne_of_none q n)]; exact q, m⟩
  · have w := S.obj i o g
    obtain ⟨ys, e1, r1⟩ := w
    exact ⟨ys, by rw [upd_ne (ne_of_none e1 n)]; exact e1, r1.map fun _ _ => RpAll.stepZ S (stp_upd n) hz⟩
  · rcases z with z | rfl
    · obtain ⟨o, q, m⟩ := S.ztr a z
      exact ⟨o, by rw [upd_ne (ne_of_none q n)]; exact q, m⟩
    · exact ⟨u0, upd_same, mu⟩
  · rcases z with z | q
    · exact S.zno i hi z
    · obtain ⟨o, e, _⟩ := S.trk i hi
      rw [q, n] at e; cases e
theorem SimE.stepZ {Z' : Addr → Prop} (S : SimH K Z φ h H) (s : Stp φ Z h H φ1 h1 H1) (hz : ∀ a, (∃ o, H a = some o) → Z' a → Z a) {ρ : En} {σ : St} (E : SimE K Z φ h H ρ σ) : SimE K Z' φ1 h1 H1 ρ σ := by
  refine ⟨E.len, fun i v e => ?_⟩
  obtain ⟨x, q, r⟩ := E.get i v e
  refine ⟨x, q, ?_⟩
  cases v with
  | dat d => exact Rp.stepZ S s hz r
  | ref k => exact ⟨Nat.lt_of_lt_of_le r.1 s.len, by rw [s.old k r.1]; exact r.2⟩
  | scr ns => obtain ⟨a, e1, r1⟩ := r; exact ⟨a, e1, ScrAt.step S s r1⟩
def wipeE (ρ : En) : List Nat → En
  | [] => ρ
  | v :: vs => (wipeE ρ vs).set v none
theorem SimE.wipes {ρ : En} {σ : St} (E : SimE K Z φ h H ρ σ) : ∀ vs : List Nat, SimE K Z φ h H (wipeE ρ vs) (L2.wipe σ vs)
  | [] => E
  | v :: vs => (E.wipes vs).wipe v
end

section
variable {X : Cx} {W : WX}
abbrev W0 : WX := fun _ _ _ _ => False
/-- the tests of a comprehension -/
def Tsx (X : Cx) (W : WX) (ifs : List Expr) (f : En → Hl → R Bool) : Prop := PTs X ifs (can X.K X.mg W relB f)
def yesD : En → Hl → R Bool := fun _ h => .ok true h
theorem tsx_nil : Tsx X W [] yesD := by
  refine ⟨fun pins s σ H Q I q => ?_⟩
  obtain ⟨Z, φ, ρ, h, S, E, p⟩ := q
  exact pts_nil.run pins s σ H Q I (p φ H Stp.refl S true rfl)
theorem tsx_one {c : Expr} {f : En → Hl → R Bool} (hc : Tx X W c f) : Tsx X W [c] f := pts_one hc.can
def compL (it : ItD) (g : DG) (tt : En → Hl → R Bool) (fe : En → Hl → R Val) (ρ0 : En) : List PyData → List PyData → Hl → R (List PyData)
  | [], acc, h => if ckD it h = true then .ok acc h else .stuck
  | d :: ds, acc, h => if ckD it h = true then
      (match setG g (.dat d) ρ0 with
      | none => .stuck
      | some ρ1 => (match tt ρ1 h with
        | .ok true h2 => (match fe ρ1 h2 with
          | .ok (.dat z) h3 => if acc.length < sizeLine then compL it g tt fe ρ0 ds (acc ++ [z]) h3 else .stuck
          | _ => .stuck)
        | .ok false h2 => compL it g tt fe ρ0 ds acc h2
        | _ => .stuck))
    else .stuck
def compD (fi : En → Hl → R ItD) (vs : List Nat) (g : DG) (tt : En → Hl → R Bool) (fe : En → Hl → R Val) : En → Hl → R (List PyData) := fun ρ h => (fi ρ h).bind fun it h1 => compL it g tt fe (wipeE ρ vs) it.items [] h1

theorem drop_some {α : Type} {l : List α} {i : Nat} {d : α} (e : l[i]? = some d) : l.drop i = d :: l.drop (i + 1) := by
  have hi := lt_of_getS e
  rw [List.drop_eq_getElem_cons hi]
  rw [List.getElem?_eq_getElem hi] at e
  cases e; rfl

theorem wipe_at (σ : St) (i : Nat) : ∀ vs : List Nat, (L2.wipe σ vs)[i]? = if i ∈ vs then (σ[i]?).map (fun _ => none) else σ[i]?
  | [] => by simp [L2.wipe]
  | v :: vs => by
    show ((L2.wipe σ vs).set v none)[i]? = _
    by_cases q : v = i
    · subst q
      rw [if_pos (List.mem_cons_self ..)]
      rcases Nat.lt_or_ge v σ.length with hl | hl
      · rw [List.getElem?_set_self (by rw [wipe_length]; exact hl), List.getElem?_eq_getElem hl]; rfl
      · rw [List.getElem?_eq_none (by rw [List.length_set, wipe_length]; exact hl), List.getElem?_eq_none hl]; rfl
    · rw [List.getElem?_set_ne q, wipe_at σ i vs]
      have : (i ∈ v :: vs) ↔ i ∈ vs := by
        constructor
        · intro h
          rcases List.mem_cons.mp h with e | e
          · exact absurd e.symm q
          · exact e
        · exact List.mem_cons_of_mem _
      simp only [this]
theorem wipe_idem (σ : St) (vs : List Nat) : L2.wipe (L2.wipe σ vs) vs = L2.wipe σ vs := by
  refine List.ext_getElem? fun i => ?_
  rw [wipe_at, wipe_at]
  by_cases h : i ∈ vs
  · rw [if_pos h, if_pos h]
    cases σ[i]? <;> rfl
  · rw [if_neg h, if_neg h]

/-- the reading of a comprehension does what compD says -/
theorem sn_comp {wi : TI} {fi : En → Hl → R ItD} {g : DG} {tt : En → Hl → R Bool} {fe : En → Hl → R Val} {vs : List Nat} (hsl : ∀ i ∈ slotsG g, i ∈ vs)
    (hi : ∀ (Z : Addr → Prop) (φ : Nat → Addr) (ρ : En) (h : Hl) (σ : St) (H : Hp) (Q : It → Hp → Prop), SimH X.K Z φ h H → SimE X.K Z φ h H ρ σ →
      PostR X.K X.mg (fun c d H' => W c d σ H') Z φ h H (fi ρ h) (fun φ' h' H' it => ∀ J, ItOk X.K Z J it φ' h' H' → Q J H') → wi σ H Q)
    {Z : Addr → Prop} {φ : Nat → Addr} {ρ : En} {h : Hl} {σ : St} {H : Hp} {Q : VK} (S : SimH X.K Z φ h H) (E : SimE X.K Z φ h H ρ σ)
    (p : PostR X.K X.mg (fun c d H' => W c d σ H') Z φ h H (compD fi vs g tt fe ρ h) (fun φ' h' H' ds => ∀ p xs, H' p = none → RpAll X.K H' (live Z φ' h') xs ds → Q (.ref p) (L2.upd H' p (.lst xs)))) :
    tLc wi (tG X.K g) (can X.K X.mg W0 relB tt) (can X.K X.mg W0 relV fe) vs σ H Q := by
  refine hi Z φ ρ h σ H _ S E (PostR.bind p fun it h1 φ1 H1 _ s1 S1 p1 => fun J ok D n => ?_)
  have hz : ∀ a, (∃ o, H1 a = some o) → (Z a ∨ a = D) → Z a := fun a ⟨o, e⟩ z => z.elim id fun q => by subst q; rw [n] at e; cases e
  have nz : ¬ Z D := fun z => by
    obtain ⟨o, e, _⟩ := S1.ztr D z
    rw [n] at e; cases e
  have E1 : SimE X.K (fun a => Z a ∨ a = D) φ1 h1 (L2.upd H1 D (.lst [])) (wipeE ρ vs) (L2.wipe σ vs) := (SimE.stepZ S1 (stp_upd n) hz (E.step S s1)).wipes vs
  have nD : ∀ {φ2 : Nat → Addr} {h2 : Hl} {H2 : Hp}, SimH X.K (fun a => Z a ∨ a = D) φ2 h2 H2 → ∀ (i : Nat) (u : HObj), h2[i]? = some (some u) → φ2 i ≠ D := fun S2 i u g q => S2.zno i (lt_of_getS g) (.inr q)
  refine ⟨fun i m H' => ∃ (φ2 : Nat → Addr) (h2 : Hl) (acc : List PyData) (vacc : List V), Stp φ1 Z (h1) (L2.upd H1 D (.lst [])) φ2 h2 H' ∨ True → (Stp φ1 Z h1 H1 φ2 h2 H' ∧ SimE X.K (fun a => Z a ∨ a = D) φ2 h2 H' (wipeE ρ vs) (L2.wipe σ vs) ∧ SimH X.K (fun a => Z a ∨ a = D) φ2 h2 H' ∧ H' D = some (.lst vacc) ∧ RpAll X.K H' (live (fun a => Z a ∨ a = D) φ2 h2) vacc acc ∧ i + m = it.items.length ∧
    PostR X.K X.mg (fun c d H' => W c d σ H') Z φ1 h1 H1 (compL it g tt fe (wipeE ρ vs) (it.items.drop i) acc h2) (fun φ' h' H' ds => ∀ p xs, H' p = none → RpAll X.K H' (live Z φ' h') xs ds → Q (.ref p) (L2.upd H' p (.lst xs)))),
    ⟨it.items.length, φ1, h1, [], [], fun _ => ⟨stp_upd n, E1, dark S1 n, upd_same, .nil, by omega, p1⟩⟩, fun i m H' hW => ?_⟩
  obtain ⟨φ2, h2, acc, vacc, hW⟩ := hW
  obtain ⟨s2, E2, S2, eD, ra, hm, pp⟩ := hW (.inr trivial)
  clear hW
  cases e : it.items[i]? with
  | none =>
    have hd : it.items.drop i = [] := List.drop_eq_nil_of_le (List.getElem?_eq_none_iff.mp e)
    rw [hd] at pp
    unfold compL at pp
    split at pp
    · rename_i ck
      refine .inl ⟨ok.stop _ φ2 h2 H' s2 S2 ck hz i e, ?_⟩
      obtain ⟨H0, k0, ku, S0, conv⟩ := minus S2 eD nz
      have hne : ∀ a o, H1 a = some o → H0 a = H' a := fun a o q => by rw [ku, upd_ne (ne_of_none q n)]
      rw [ku]
      refine pp φ2 H0 ⟨s2.len, s2.old, s2.dead, fun a o q nn => ?_, s2.new, fun a o q => ?_⟩ S0 D vacc k0 (conv _ _ ra)
      · rw [hne a o q]; exact s2.keep a o q nn
      · rw [hne a o q]; exact s2.trk a o q
    · exact pp.elim
  | some d =>
    rw [drop_some e] at pp
    unfold compL at pp
    split at pp
    · rename_i ck
      split at pp
      · exact pp.elim
      · rename_i ρ1 eg
        obtain ⟨hgo, hy⟩ := ok.go _ φ2 h2 H' s2 S2 ck hz i d e
        have hlt := lt_of_getS e
        refine .inr ⟨hgo, fun H5 => ∃ (φ3 : Nat → Addr) (h3 : Hl) (acc3 : List PyData) (vacc3 : List V), Stp φ1 Z h1 H1 φ3 h3 H5 ∧ SimE X.K (fun a => Z a ∨ a = D) φ3 h3 H5 (wipeE ρ vs) (L2.wipe σ vs) ∧ SimH X.K (fun a => Z a ∨ a = D) φ3 h3 H5 ∧ H5 D = some (.lst vacc3) ∧ RpAll X.K H5 (live (fun a => Z a ∨ a = D) φ3 h3) vacc3 acc3 ∧
          PostR X.K X.mg (fun c d H' => W c d σ H') Z φ1 h1 H1 (compL it g tt fe (wipeE ρ vs) (it.items.drop (i + 1)) acc3 h3) (fun φ' h' H' ds => ∀ p xs, H' p = none → RpAll X.K H' (live Z φ' h') xs ds → Q (.ref p) (L2.upd H' p (.lst xs))), fun H5 hN => ?_, fun x H3 hyl => ?_⟩
        · obtain ⟨φ3, h3, acc3, vacc3, a1, a2, a3, a4, a5, a6⟩ := hN
          exact ⟨m - 1, by omega, φ3, h3, acc3, vacc3, fun _ => ⟨a1, a2, a3, a4, a5, by omega, a6⟩⟩
        · obtain ⟨s3, S3, rx⟩ := hy x H3 hyl
          refine sn_g S3 g (v := .dat d) (E2.step S2 s3) rx eg fun σ3 E3 wz => ⟨(wz vs hsl).trans (wipe_idem σ vs), ?_⟩
          refine ⟨_, φ2, ρ1, h2, S3, E3, ?_⟩
          split at pp
          · rename_i h4 et
            rw [et]
            intro φ4 H4 s4 S4 b hb
            cases hb
            rw [if_pos rfl]
            have s14 : Stp φ1 Z h1 H1 φ4 h4 H4 := s2.trans ((s3.zz Z).trans (s4.zz Z))
            refine ⟨_, φ4, ρ1, h4, S4, E3.step S3 s4, ?_⟩
            split at pp
            · rename_i z h5 ef
              rw [ef]
              split at pp
              · rename_i hsz
                intro φ5 H5 s5 S5 y ry
                have s15 : Stp φ1 Z h1 H1 φ5 h5 H5 := s14.trans (s5.zz Z)
                have eD5 : H5 D = some (.lst vacc) := s5.keep D _ (s4.keep D _ (s3.keep D _ eD (nD S2)) (nD S3)) (nD S4)
                have ra5 : RpAll X.K H5 (live (fun a => Z a ∨ a = D) φ5 h5) vacc acc := RpAll.step S4 s5 (RpAll.step S3 s4 (RpAll.step S2 s3 ra))
                have hD5 : live (fun a => Z a ∨ a = D) φ5 h5 D := .inr (.inr rfl)
                have kb : ∀ b, b ≠ D → (L2.upd H5 D (.lst (vacc ++ [y]))) b = H5 b := fun b hb => upd_ne hb
                refine ⟨vacc, eD5, by rw [ra5.length]; exact hsz, φ5, h5, acc ++ [z], vacc ++ [y], ?_, ?_, ?_, upd_same, ?_, pp⟩
                · refine ⟨s15.len, s15.old, s15.dead, fun a o q nn => ?_, s15.new, fun a o q => ?_⟩
                  · rw [upd_ne (ne_of_none q n)]; exact s15.keep a o q nn
                  · rw [upd_ne (ne_of_none q n)]; exact s15.trk a o q
                · have E5 : SimE X.K (fun a => Z a ∨ a = D) φ5 h5 H5 (wipeE ρ vs) (L2.wipe σ vs) := ((E2.step S2 s3).step S3 s4).step S4 s5
                  refine ⟨E5.len, fun j v ev => ?_⟩
                  obtain ⟨x', q', r'⟩ := E5.get j v ev
                  refine ⟨x', q', ?_⟩
                  cases v with
                  | dat d' => exact Rp.but hD5 eD5 kb trivial r'
                  | ref k => exact r'
                  | scr ns =>
                    obtain ⟨a', e', r''⟩ := r'
                    refine ⟨a', e', ?_⟩
                    rcases r'' with ⟨o, q⟩ | q
                    · exact .inl ⟨o, by rw [kb a' (fun z => by subst z; rw [eD5] at q; cases q)]; exact q⟩
                    · exact .inr q
                · refine ⟨S5.inj, fun j hj => ?_, fun j u gj => ?_, fun a za => ?_, S5.zno⟩
                  · obtain ⟨o, q, mo⟩ := S5.trk j hj
                    exact ⟨o, by rw [kb _ (fun z => S5.zno j hj (.inr z))]; exact q, mo⟩
                  · have w := S5.obj j u gj
                    obtain ⟨ys, e1, r1⟩ := w
                    exact ⟨ys, by rw [kb _ (nD S5 j _ gj)]; exact e1, r1.map fun _ _ => RpAll.but hD5 eD5 kb⟩
                  · rcases za with za | rfl
                    · obtain ⟨o, q, mo⟩ := S5.ztr a (.inl za)
                      exact ⟨o, by rw [kb a (fun c => nz (by rw [← c]; exact za))]; exact q, mo⟩
                    · exact ⟨.lst (vacc ++ [y]), upd_same, trivial⟩
                · exact RpAll.but hD5 eD5 kb trivial (ra5.append (.cons ry .nil))
              · exact pp.elim
            · exact pp.elim
          · rename_i h4 et
            rw [et]
            intro φ4 H4 s4 S4 b hb
            cases hb
            rw [if_neg Bool.false_ne_true]
            exact ⟨φ4, h4, acc, vacc, s2.trans ((s3.zz Z).trans (s4.zz Z)), (E2.step S2 s3).step S3 s4, S4, s4.keep D _ (s3.keep D _ eD (nD S2)) (nD S3), RpAll.step S3 s4 (RpAll.step S2 s3 ra), pp⟩
          · exact pp.elim
    · exact pp.elim
theorem lx_comp {elt tg iter : Expr} {ifs : List Expr} {scope : Scope} {own : List (Str × Nat)} {pos : Pos} {fi : En → Hl → R ItD} {g : DG} {tt : En → Hl → R Bool} {fe : En → Hl → R Val} (hc : X.calm = true) (hN : X.N.Nodup) (hi : Ix X W tg iter fi) (ok : BlkOk X.N X.env.scope scope own) (hsl : ∀ i ∈ slotsG g, i ∈ own.map (·.2))
    (hg : ∀ (s : Shared) (H : Hp) (C : Addr) (cl : List (Str × Addr)) (fp : List Addr), PG (X.blk s H scope (compEnvC scope cl C X.env) fp) tg (tG X.K g)) (ht : ∀ (s : Shared) (H : Hp) (C : Addr) (cl : List (Str × Addr)) (fp : List Addr), Tsx (X.blk s H scope (compEnvC scope cl C X.env) fp) W0 ifs tt)
    (he : ∀ (s : Shared) (H : Hp) (C : Addr) (cl : List (Str × Addr)) (fp : List Addr), Ex (X.blk s H scope (compEnvC scope cl C X.env) fp) W0 elt fe) (hs : ∀ x, foldedSetIterable iter X.env x = pure x) : Lx X W (.ListComp elt [⟨tg, iter, ifs, 0⟩] scope pos) (compD fi (own.map (·.2)) g tt fe) := by
  obtain ⟨wi, pi, hi⟩ := hi
  exact ⟨_, pe_lc (tt := can X.K X.mg W0 relB tt) (te := can X.K X.mg W0 relV fe) hc hN pi ok hg ht (fun s H C cl fp => (he s H C cl fp).can) hs, fun Z φ ρ h σ H Q S E p => sn_comp hsl hi S E p⟩
end
end Dn
end

section
/-! Dn, part 7: statements -/
namespace Dn
open PySem PySem.Spec PyProof.Rows L2

inductive SR where
  | stuck | next (ρ : En) (h : Hl) | ret (v : Val) (h : Hl) | brk (ρ : En) (h : Hl) | cont (ρ : En) (h : Hl) | exc (e : Exc) (ρ : En) (h : Hl)
def ofR {β : Type} (r : R β) (ρ : En) (k : β → Hl → SR) : SR := match r with
  | .stuck => .stuck
  | .ok b h => k b h
  | .exc e h => .exc e ρ h
def PostS (K : PySem.W.Frag) (mg : Str → Option Value) (W : WX) (Z : Addr → Prop) (φ : Nat → Addr) (h : Hl) (H : Hp) : SR → Ends → Prop
  | .stuck, _ => False
  | .next ρ' h', D => ∀ φ' σ' H', Stp φ Z h H φ' h' H' → SimH K Z φ' h' H' → SimE K Z φ' h' H' ρ' σ' → D.nx σ' H'
  | .ret v h', D => ∀ φ' H' x, Stp φ Z h H φ' h' H' → SimH K Z φ' h' H' → RpV K Z φ' h' H' x v → D.rt x H'
  | .brk ρ' h', D => ∀ φ' σ' H', Stp φ Z h H φ' h' H' → SimH K Z φ' h' H' → SimE K Z φ' h' H' ρ' σ' → D.bk σ' H'
  | .cont ρ' h', D => ∀ φ' σ' H', Stp φ Z h H φ' h' H' → SimH K Z φ' h' H' → SimE K Z φ' h' H' ρ' σ' → D.ct σ' H'
  | .exc e ρ' h', _ => ∀ φ' σ' H' c d, Stp φ Z h H φ' h' H' → SimH K Z φ' h' H' → SimE K Z φ' h' H' ρ' σ' → ExR mg e c d → W c d σ' H'
section
variable {K : PySem.W.Frag} {mg : Str → Option Value} {W : WX} {Z : Addr → Prop} {φ φ1 : Nat → Addr} {h h1 : Hl} {H H1 : Hp}
theorem PostS.shift {r : SR} {D : Ends} (p : PostS K mg W Z φ h H r D) (s : Stp φ Z h H φ1 h1 H1) : PostS K mg W Z φ1 h1 H1 r D := by
  cases r with
  | stuck => exact p
  | next ρ' h' => exact fun φ' σ' H' s' => p φ' σ' H' (s.trans s')
  | brk ρ' h' => exact fun φ' σ' H' s' => p φ' σ' H' (s.trans s')
  | cont ρ' h' => exact fun φ' σ' H' s' => p φ' σ' H' (s.trans s')
  | ret v h' => exact fun φ' H' x s' => p φ' H' x (s.trans s')
  | exc e ρ' h' => exact fun φ' σ' H' c d s' => p φ' σ' H' c d (s.trans s')
/-- an expression ahead of a statement's end -/
theorem PostS.ofR {β : Type} {r : R β} {ρ : En} {σ : St} {k : β → Hl → SR} {D : Ends} {κ : (Nat → Addr) → Hl → Hp → β → Prop} (S : SimH K Z φ h H) (E : SimE K Z φ h H ρ σ) (p : PostS K mg W Z φ h H (Dn.ofR r ρ k) D)
    (f : ∀ b h1 φ1 H1, r = .ok b h1 → Stp φ Z h H φ1 h1 H1 → SimH K Z φ1 h1 H1 → SimE K Z φ1 h1 H1 ρ σ → PostS K mg W Z φ1 h1 H1 (k b h1) D → κ φ1 h1 H1 b) : PostR K mg (fun c d H' => W c d σ H') Z φ h H r κ := by
  cases r with
  | stuck => exact p
  | exc x h' => exact fun φ' H' c d s' S' x => p φ' σ H' c d s' S' (E.step S s') x
  | ok b h' => exact fun φ' H' s' S' => f b h' φ' H' rfl s' S' (E.step S s') (PostS.shift p s')
end

section
variable {X : Cx} {W : WX}
/-- the reading t of a statement does what f says -/
def SnS (X : Cx) (W : WX) (t : TS) (f : En → Hl → SR) : Prop := ∀ (Z : Addr → Prop) (φ : Nat → Addr) (ρ : En) (h : Hl) (σ : St) (H : Hp) (D : Ends), SimH X.K Z φ h H → SimE X.K Z φ h H ρ σ → PostS X.K X.mg W Z φ h H (f ρ h) D → t D σ H
def Sx (X : Cx) (W : WX) (s : Stmt) (f : En → Hl → SR) : Prop := ∃ t, PS X s t ∧ SnS X W t f
def Sxs (X : Cx) (W : WX) (s : List Stmt) (f : En → Hl → SR) : Prop := ∃ t, PSs X s t ∧ SnS X W t f

/-! ### blocks -/
def nilS : En → Hl → SR := fun ρ h => .next ρ h
def thenS (r : SR) (k : En → Hl → SR) : SR := match r with
  | .next ρ h => k ρ h
  | r => r
def seqS (f g : En → Hl → SR) : En → Hl → SR := fun ρ h => thenS (f ρ h) g
theorem sx_nil : Sxs X W [] nilS := ⟨_, pss_nil, fun Z φ ρ h σ H D S E p => p φ σ H Stp.refl S E⟩
theorem sx_seq {s : Stmt} {r : List Stmt} {f g : En → Hl → SR} (hs : Sx X W s f) (hr : Sxs X W r g) : Sxs X W (s :: r) (seqS f g) := by
  obtain ⟨t, p, sn⟩ := hs
  obtain ⟨u, q, sm⟩ := hr
  refine ⟨_, pss_cons p q, fun Z φ ρ h σ H D S E po => ?_⟩
  refine sn Z φ ρ h σ H _ S E ?_
  unfold seqS thenS at po
  cases e : f ρ h with
  | stuck => rw [e] at po; exact po
  | ret v h' => rw [e] at po; exact po
  | brk ρ' h' => rw [e] at po; exact po
  | cont ρ' h' => rw [e] at po; exact po
  | exc x ρ' h' => rw [e] at po; exact po
  | next ρ' h' =>
    rw [e] at po
    exact fun φ' σ' H' s' S' E' => sm Z φ' ρ' h' σ' H' D S' E' (PostS.shift po s')
def brkS : En → Hl → SR := fun ρ h => .brk ρ h
def contS : En → Hl → SR := fun ρ h => .cont ρ h
def neverS : En → Hl → SR := fun _ _ => .stuck
theorem sx_pass {pos : Pos} : Sx X W (.Pass pos) nilS := ⟨_, ps_pass, fun Z φ ρ h σ H D S E p => p φ σ H Stp.refl S E⟩
theorem sx_brk {pos : Pos} : Sx X W (.Break pos) brkS := ⟨_, ps_break, fun Z φ ρ h σ H D S E p => p φ σ H Stp.refl S E⟩
theorem sx_cont {pos : Pos} : Sx X W (.Continue pos) contS := ⟨_, ps_continue, fun Z φ ρ h σ H D S E p => p φ σ H Stp.refl S E⟩
theorem sx_never {s : Stmt} : Sx X W s neverS := ⟨_, ps_never, fun Z φ ρ h σ H D S E p => p.elim⟩

/-! ### simple statements -/
def exprS (f : En → Hl → R Val) : En → Hl → SR := fun ρ h => ofR (f ρ h) ρ fun _ h1 => .next ρ h1
theorem sx_expr {e : Expr} {f : En → Hl → R Val} {pos : Pos} (he : Ex X W e f) (hs : swapsWith e none pos.line X.env = pure false) : Sx X W (.Expr e pos) (exprS f) := by
  obtain ⟨t, p, s⟩ := he
  refine ⟨_, ps_expr p hs, fun Z φ ρ h σ H D S E po => s Z φ ρ h σ H _ S E (PostS.ofR S E po fun b h1 φ1 H1 _ s1 S1 E1 p1 a _ => p1 φ1 σ H1 Stp.refl S1 E1)⟩
def retS (f : En → Hl → R Val) : En → Hl → SR := fun ρ h => ofR (f ρ h) ρ fun v h1 => .ret v h1
theorem sx_ret {e : Expr} {f : En → Hl → R Val} {pos : Pos} (he : Ex X W e f) : Sx X W (.Return (some e) pos) (retS f) := by
  obtain ⟨t, p, s⟩ := he
  exact ⟨_, ps_ret p, fun Z φ ρ h σ H D S E po => s Z φ ρ h σ H _ S E (PostS.ofR S E po fun b h1 φ1 H1 _ s1 S1 E1 p1 a ra => p1 φ1 H1 a Stp.refl S1 ra)⟩
def retN : En → Hl → SR := fun _ h => .ret (.dat .none) h
theorem sx_retN {pos : Pos} : Sx X W (.Return none pos) retN := ⟨_, ps_retN, fun Z φ ρ h σ H D S E po => po φ H _ Stp.refl S .non⟩
def setS (i : Nat) (f : En → Hl → R Val) : En → Hl → SR := fun ρ h => ofR (f ρ h) ρ fun v h1 => .next (ρ.set i (some v)) h1
theorem sx_set {i : Nat} {x : Str} {e : Expr} {f : En → Hl → R Val} {pos pos' : Pos} (hN : X.N.Nodup) (hi : X.N[i]? = some x) (hx : Loc X.env.scope x) (hf : X.fn x = true ∨ X.env.scope.names.lookup x = some .local) (he : Ex X W e f) (hs : swapsWith e (some (.Name x pos')) pos.line X.env = pure false) :
    Sx X W (.Assign [.Name x pos'] e pos) (setS i f) := by
  obtain ⟨t, p, s⟩ := he
  exact ⟨_, ps_set hN hi hx p hs hf, fun Z φ ρ h σ H D S E po => s Z φ ρ h σ H _ S E (PostS.ofR S E po fun b h1 φ1 H1 _ s1 S1 E1 p1 a ra => p1 φ1 _ H1 Stp.refl S1 (E1.set ra))⟩
/-- a statement that gives a new list a name -/
def Nl (X : Cx) (W : WX) (s : Stmt) (i : Nat) (f : En → Hl → R (List PyData)) : Prop := ∃ te, PS X s (tAsg te (gName i)) ∧
  ∀ (Z : Addr → Prop) (φ : Nat → Addr) (ρ : En) (h : Hl) (σ : St) (H : Hp) (Q : VK), SimH X.K Z φ h H → SimE X.K Z φ h H ρ σ →
    PostR X.K X.mg (fun c d H' => W c d σ H') Z φ h H (f ρ h) (fun φ' h' H' ds => ∀ p xs, H' p = none → RpAll X.K H' (live Z φ' h') xs ds → Q (.ref p) (L2.upd H' p (.lst xs))) → te σ H Q
theorem nl_of {i : Nat} {x : Str} {e : Expr} {f : En → Hl → R (List PyData)} {pos pos' : Pos} (hN : X.N.Nodup) (hi : X.N[i]? = some x) (hx : Loc X.env.scope x) (hf : X.fn x = true ∨ X.env.scope.names.lookup x = some .local) (he : Lx X W e f) (hs : swapsWith e (some (.Name x pos')) pos.line X.env = pure false) :
    Nl X W (.Assign [.Name x pos'] e pos) i f := by
  obtain ⟨t, p, s⟩ := he
  exact ⟨_, ps_set hN hi hx p hs hf, s⟩
theorem nl_comp {i : Nat} {y : Str} {py : Pos} {elt tg iter : Expr} {ifs : List Expr} {scope : Scope} {own : List (Str × Nat)} {pos spos : Pos} {fi : En → Hl → R ItD} {g : DG} {tt : En → Hl → R Bool} {fe : En → Hl → R Val} (hc : X.calm = true) (hN : X.N.Nodup) (hy : X.N[i]? = some y) (hyl : X.env.scope.names.lookup y = some .local)
    (hsw : swapsWith (.ListComp elt [⟨tg, iter, ifs, 0⟩] scope pos) (some (.Name y py)) spos.line X.env = pure true) (hi : Ix X W tg iter fi) (ok : BlkOk X.N X.env.scope scope own) (hsl : ∀ i ∈ slotsG g, i ∈ own.map (·.2))
    (hg : ∀ (s : Shared) (H : Hp) (C : Addr) (cl : List (Str × Addr)) (fp : List Addr), PG (X.blk s H scope (compEnvC scope cl C X.env) fp) tg (tG X.K g)) (ht : ∀ (s : Shared) (H : Hp) (C : Addr) (cl : List (Str × Addr)) (fp : List Addr), Tsx (X.blk s H scope (compEnvC scope cl C X.env) fp) W0 ifs tt)
    (he : ∀ (s : Shared) (H : Hp) (C : Addr) (cl : List (Str × Addr)) (fp : List Addr), Ex (X.blk s H scope (compEnvC scope cl C X.env) fp) W0 elt fe) (hs : ∀ x, foldedSetIterable iter X.env x = pure x) :
    Nl X W (.Assign [.Name y py] (.ListComp elt [⟨tg, iter, ifs, 0⟩] scope pos) spos) i (compD fi (own.map (·.2)) g tt fe) := by
  obtain ⟨wi, pi, hi⟩ := hi
  exact ⟨_, ps_setLc (tt := can X.K X.mg W0 relB tt) (te := can X.K X.mg W0 relV fe) hc hN hy hyl hsw pi ok hg ht (fun s H C cl fp => (he s H C cl fp).can) hs, fun Z φ ρ h σ H Q S E p => sn_comp hsl hi S E p⟩
/-- .. as data -/
def setL (i : Nat) (f : En → Hl → R (List PyData)) : En → Hl → SR := fun ρ h => ofR (f ρ h) ρ fun ds h1 => .next (ρ.set i (some (.dat (.list ds)))) h1
theorem sx_setL {i : Nat} {s : Stmt} {f : En → Hl → R (List PyData)} (hn : Nl X W s i f) : Sx X W s (setL i f) := by
  obtain ⟨t, p, s⟩ := hn
  refine ⟨_, p, fun Z φ ρ h σ H D S E po => s Z φ ρ h σ H _ S E (PostS.ofR S E po fun b h1 φ1 H1 _ s1 S1 E1 p1 q xs n r => ?_)⟩
  exact p1 φ1 _ _ (stp_upd n) (S1.upd n) ((E1.step S1 (stp_upd n)).set (v := .dat (.list b)) (.lst upd_same (S1.notLiveNew n) (RpAll.step S1 (stp_upd n) r)))
/-- .. as an own list -/
def newL (i : Nat) (f : En → Hl → R (List PyData)) : En → Hl → SR := fun ρ h => ofR (f ρ h) ρ fun ds h1 => .next (ρ.set i (some (.ref h1.length))) (h1 ++ [some (.lst ds)])
theorem sx_newL {i : Nat} {s : Stmt} {f : En → Hl → R (List PyData)} (hn : Nl X W s i f) : Sx X W s (newL i f) := by
  obtain ⟨t, p, s⟩ := hn
  refine ⟨_, p, fun Z φ ρ h σ H D S E po => s Z φ ρ h σ H _ S E (PostS.ofR S E po fun b h1 φ1 H1 _ s1 S1 E1 p1 q xs n r => ?_)⟩
  obtain ⟨φ2, s2, S2, e2⟩ := adopt S1 n r
  exact p1 φ2 _ _ s2 S2 ((E1.step S1 s2).set (v := .ref h1.length) ⟨by simp, by rw [e2]⟩)
def unpS (g : DG) (f : En → Hl → R Val) : En → Hl → SR := fun ρ h => ofR (f ρ h) ρ fun v h1 => match setG g v ρ with
  | some ρ1 => .next ρ1 h1
  | none => .stuck
theorem sx_unp {tg e : Expr} {g : DG} {f : En → Hl → R Val} {pos : Pos} (he : Ex X W e f) (hg : PG X tg (tG X.K g)) (hs : swapsWithSole [tg] e pos.line X.env = pure false) (hw : swappedStores [tg] e X.env = pure none)
    (h1 : (assignEach [tg] X.env).map (·.2) = [assign tg X.env]) : Sx X W (.Assign [tg] e pos) (unpS g f) := by
  obtain ⟨t, p, s⟩ := he
  refine ⟨_, ps_asg p hg hs hw h1, fun Z φ ρ h σ H D S E po => s Z φ ρ h σ H _ S E (PostS.ofR S E po fun b h1 φ1 H1 _ s1 S1 E1 p1 a ra => ?_)⟩
  split at p1
  · rename_i ρ1 e1
    exact sn_g S1 g E1 ra e1 fun σ' E' _ => p1 φ1 σ' H1 Stp.refl S1 E'
  · exact p1.elim
def parS (i j : Nat) (fa : En → Hl → R (List Val)) : En → Hl → SR := fun ρ h => ofR (fa ρ h) ρ fun vs h1 => match vs with
  | [v, w] => .next ((ρ.set i (some v)).set j (some w)) h1
  | _ => .stuck
theorem sx_par {i j : Nat} {x y : Str} {a b : Expr} {fa : En → Hl → R (List Val)} {px py pt pos : Pos} {kt k2 : Nat} {pt2 : Pos} (hc : X.calm = true) (hN : X.N.Nodup) (hi : X.N[i]? = some x) (hj : X.N[j]? = some y) (hij : i ≠ j)
    (hx : X.env.scope.names.lookup x = some .local) (hy : X.env.scope.names.lookup y = some .local) (ha : Ax X W [a, b] fa)
    (hw : swappedStores [.Tuple [.Name x px, .Name y py] kt pt] (.Tuple [a, b] k2 pt2) X.env = pure (some [x, y]))
    (hs : swapsWithSole [.Tuple [.Name x px, .Name y py] kt pt] (.Tuple [a, b] k2 pt2) pos.line X.env = pure false) : Sx X W (.Assign [.Tuple [.Name x px, .Name y py] kt pt] (.Tuple [a, b] k2 pt2) pos) (parS i j fa) := by
  obtain ⟨t, p, s⟩ := ha
  refine ⟨_, ps_par hc hN hi hj hij hx hy p hw hs, fun Z φ ρ h σ H D S E po => s Z φ ρ h σ H _ S E (PostS.ofR S E po fun b h1 φ1 H1 _ s1 S1 E1 p1 a ra => ?_)⟩
  split at p1
  · cases ra with
    | cons r1 rr =>
      cases rr with
      | cons r2 rr =>
        cases rr
        exact ⟨_, _, rfl, p1 φ1 _ H1 Stp.refl S1 ((E1.set r1).set r2)⟩
  · exact p1.elim
def augS (i : Nat) (g : PyData → PyData → Option PyData) (f : En → Hl → R Val) : En → Hl → SR := fun ρ h => match ρ[i]? with
  | some (some v) => ofR (f ρ h) ρ fun w h1 => ofR (opV g v w h1) ρ fun z h2 => .next (ρ.set i (some z)) h2
  | _ => .stuck
theorem sx_aug {i : Nat} {x : Str} {e : Expr} {op : Operator} {g : PyData → PyData → Option PyData} {f : En → Hl → R Val} {pos pos' : Pos} (o : OpOk X (inplaceOp op) g) (hN : X.N.Nodup) (hi : X.N[i]? = some x) (hx : Loc X.env.scope x) (hf : X.fn x = true ∨ X.env.scope.names.lookup x = some .local) (he : Ex X W e f) :
    Sx X W (.AugAssign (.Name x pos') op e pos) (augS i g f) := by
  obtain ⟨t, p, s⟩ := he
  obtain ⟨r, o1, o2⟩ := o
  refine ⟨_, ps_aug (ti := r) hN hi hx p o1 hf, fun Z φ ρ h σ H D S E po => ?_⟩
  unfold augS at po
  split at po
  · rename_i v ev
    obtain ⟨xv, ex, rx⟩ := E.get i v ev
    refine ⟨xv, ex, s Z φ ρ h σ H _ S E (PostS.ofR S E po fun b h1 φ1 H1 _ s1 S1 E1 p1 a ra => ?_)⟩
    unfold opV at p1
    split at p1
    · rename_i d1 d2 e1 e2
      split at p1
      · rename_i z ez
        exact o2 Z φ1 h1 H1 xv a d1 d2 z _ S1 (peek_ok S1 (RpV.step S s1 rx) e1) (peek_ok S1 ra e2) ez fun H' w s' S' rw' => p1 φ1 _ H' s' S' ((E1.step S1 s').set (v := .dat z) rw')
      · exact p1.elim
    · exact p1.elim
  · exact po.elim
theorem ok_iadd : OpOk X (inplaceOp .Add) (fun d e => (addI d e).orElse fun _ => addS d e) := by
  refine OpOk.or (ok_rI0 iop_add fun _ _ _ _ _ => .int _) ⟨_, iop_add_str, fun Z φ hh H x y d e z Q S rx ry eg q => ?_⟩
  unfold addS at eg
  split at eg
  · split at eg
    · cases eg
      exact ⟨_, _, rx.str, ry.str, by assumption, q H _ Stp.refl S (.str _)⟩
    · cases eg
  · cases eg
theorem ok_isub : OpOk X (inplaceOp .Sub) subD := ok_rI0 iop_sub fun _ _ _ _ _ => .int _

/-! ### own lists change -/
/-- an own list that may still change -/
def ownK (a : Val) (h : Hl) : Option Nat := match a with
  | .ref k => (match h[k]? with
    | some (some (.lst _)) => some k
    | _ => none)
  | _ => none
theorem own_ok {K : PySem.W.Frag} {Z : Addr → Prop} {φ : Nat → Addr} {h : Hl} {H : Hp} {x : V} {a : Val} {k : Nat} (S : SimH K Z φ h H) (r : RpV K Z φ h H x a) (e : ownK a h = some k) : k < h.length ∧ x = .ref (φ k) ∧ ∃ ds xs, h[k]? = some (some (.lst ds)) ∧ H (φ k) = some (.lst xs) ∧ RpAll K H (live Z φ h) xs ds := by
  unfold ownK at e
  split at e
  · split at e
    · rename_i k' _ ds g
      cases e
      obtain ⟨xs, q, ra⟩ := S.ol g
      exact ⟨r.1, r.2, ds, xs, g, q, ra⟩
    · cases e
  · cases e
def appD (fo : En → Hl → R Val) (fa : En → Hl → R (List Val)) : En → Hl → R Val := fun ρ h => (fo ρ h).bind fun a h1 => match ownK a h1 with
  | some k => (fa ρ h1).bind fun vs h2 => match vs, h2[k]? with
    | [.dat d], some (some (.lst ds)) => if ds.length < sizeLine then .ok (.dat .none) (h2.set k (some (.lst (ds ++ [d])))) else .stuck
    | _, _ => .stuck
  | none => .stuck
theorem ex_app {o e : Expr} {fo : En → Hl → R Val} {fa : En → Hl → R (List Val)} {apos cpos : Pos} (ho : Ex X W o fo) (ha : Ax X W [e] fa) (hbase : attributeBase o "append" X.env (eval o X.env) = eval o X.env)
    (hfew : ((backTo cpos (starEach [e] X.env)).all (fun x => !x.1) && (backToKw cpos (keywordEach [] X.env)).all (fun x => x.1.isSome) && decide ([e].length + ([] : List Keyword).length + (if ([] : List Keyword).isEmpty then 0 else 1) < 30)) = true)
    (hline : (apos.endLine == cpos.line) = true) (hs : starEach [e] X.env = (false, eval e X.env) :: starEach [] X.env) (hplain : (backTo cpos (starEach [] X.env)).any (·.1) = false) : Ex X W (.Call (.Attribute o "append" apos) [e] [] cpos) (appD fo fa) := by
  obtain ⟨t, p, s⟩ := ho
  obtain ⟨u, q, r⟩ := ha
  refine ⟨_, pe_bm PySem.F.plainAttrs_list PySem.F.slot_list_append PySem.F.type_list_append mt_append p q hbase hfew hline hs hplain, fun Z φ ρ h σ H Q S E po => ?_⟩
  refine s.seq S E po fun a h1 φ1 H1 x s1 S1 E1 r1 p1 => ?_
  split at p1
  · rename_i k ek
    obtain ⟨hk, rfl, ds0, xs0, g0, e0, _⟩ := own_ok S1 r1 ek
    refine ⟨.inl ⟨rfl, xs0, SqL.of e0⟩, r.seq S1 E1 p1 fun vs h2 φ2 H2 ws s2 S2 E2 r2 p2 => ?_⟩
    split at p2
    · rename_i d ds g
      split at p2
      · rename_i hz
        obtain ⟨xs, e2, ra⟩ := S2.ol g
        cases r2 with
        | cons rv rn =>
          cases rn
          rename_i y
          refine ⟨φ1 k, xs, y, rfl, rfl, by rw [← s2.old k hk]; exact e2, by rw [ra.length]; exact hz, ?_⟩
          obtain ⟨s3, S3⟩ := mutate S2 g (ra.append (.cons (show Rp X.K H2 (live Z φ2 h2) y d from rv) .nil))
          rw [← s2.old k hk]
          exact p2 φ2 _ s3 S3 _ .non
      · exact p2.elim
    · exact p2.elim
  · exact p1.elim
def extD (fo : En → Hl → R Val) (fa : En → Hl → R (List Val)) : En → Hl → R Val := fun ρ h => (fo ρ h).bind fun a h1 => match ownK a h1 with
  | some k => (fa ρ h1).bind fun vs h2 => match peeks vs h2, h2[k]? with
    | some [.list es], some (some (.lst ds)) => if ds.length + es.length ≤ sizeLine then .ok (.dat .none) (h2.set k (some (.lst (ds ++ es)))) else .stuck
    | _, _ => .stuck
  | none => .stuck
theorem ex_ext {o e : Expr} {fo : En → Hl → R Val} {fa : En → Hl → R (List Val)} {apos cpos : Pos} (ho : Ex X W o fo) (ha : Ax X W [e] fa) (hbase : attributeBase o "extend" X.env (eval o X.env) = eval o X.env)
    (hfew : ((backTo cpos (starEach [e] X.env)).all (fun x => !x.1) && (backToKw cpos (keywordEach [] X.env)).all (fun x => x.1.isSome) && decide ([e].length + ([] : List Keyword).length + (if ([] : List Keyword).isEmpty then 0 else 1) < 30)) = true)
    (hline : (apos.endLine == cpos.line) = true) (hs : starEach [e] X.env = (false, eval e X.env) :: starEach [] X.env) (hplain : (backTo cpos (starEach [] X.env)).any (·.1) = false) : Ex X W (.Call (.Attribute o "extend" apos) [e] [] cpos) (extD fo fa) := by
  obtain ⟨t, p, s⟩ := ho
  obtain ⟨u, q, r⟩ := ha
  refine ⟨_, pe_bm PySem.F.plainAttrs_list PySem.F.slot_list_extend PySem.F.type_list_extend mt_extend p q hbase hfew hline hs hplain, fun Z φ ρ h σ H Q S E po => ?_⟩
  refine s.seq S E po fun a h1 φ1 H1 x s1 S1 E1 r1 p1 => ?_
  split at p1
  · rename_i k ek
    obtain ⟨hk, rfl, ds0, xs0, g0, e0, _⟩ := own_ok S1 r1 ek
    refine ⟨.inl ⟨rfl, xs0, SqL.of e0⟩, r.seq S1 E1 p1 fun vs h2 φ2 H2 ws s2 S2 E2 r2 p2 => ?_⟩
    split at p2
    · rename_i es ds ep g
      split at p2
      · rename_i hz
        obtain ⟨xs, e2, ra⟩ := S2.ol g
        obtain ⟨y, rfl, ry⟩ := (peeks_ok S2 r2 ep).one
        obtain ⟨b, zs, rfl, eb, rb⟩ := ry.lst
        refine ⟨φ1 k, b, xs, zs, rfl, rfl, by rw [← s2.old k hk]; exact e2, eb, by rw [ra.length, rb.length]; exact hz, ?_⟩
        obtain ⟨s3, S3⟩ := mutate S2 g (ra.append rb)
        rw [← s2.old k hk]
        exact p2 φ2 _ s3 S3 _ .non
      · exact p2.elim
    · exact p2.elim
  · exact p1.elim
def popD (fo : En → Hl → R Val) : En → Hl → R Val := fun ρ h => (fo ρ h).bind fun a h1 => match ownK a h1 with
  | some k => (match h1[k]? with
    | some (some (.lst ds)) => (match ds[ds.length - 1]? with
      | some d => .ok (.dat d) (h1.set k (some (.lst ds.dropLast)))
      | none => .stuck)
    | _ => .stuck)
  | none => .stuck
theorem RpAll.dropLast {K : PySem.W.Frag} {H : Hp} {L : Addr → Prop} {xs : List V} {ds : List PyData} (r : RpAll K H L xs ds) : RpAll K H L xs.dropLast ds.dropLast := by
  rw [List.dropLast_eq_take, List.dropLast_eq_take, r.length]
  exact r.take _
theorem ex_pop {o : Expr} {fo : En → Hl → R Val} {apos cpos : Pos} (ho : Ex X W o fo) (hp : ∀ {to : TE}, PE X o to → PE X (.Call (.Attribute o "pop" apos) [] [] cpos) (tBM0 X.K "list" rPop to)) : Ex X W (.Call (.Attribute o "pop" apos) [] [] cpos) (popD fo) := by
  obtain ⟨t, p, s⟩ := ho
  refine ⟨_, hp p, fun Z φ ρ h σ H Q S E po => ?_⟩
  refine s.seq S E po fun a h1 φ1 H1 x s1 S1 E1 r1 p1 => ?_
  split at p1
  · rename_i k ek
    obtain ⟨hk, rfl, ds0, xs0, g0, e0, ra⟩ := own_ok S1 r1 ek
    rw [g0] at p1
    dsimp only at p1
    split at p1
    · rename_i d ed
      obtain ⟨y, ey, ry⟩ := ra.get ed
      rw [← ra.length] at ey
      refine ⟨.inl ⟨rfl, xs0, SqL.of e0⟩, φ1 k, xs0, y, rfl, rfl, e0, ey, ?_⟩
      obtain ⟨s3, S3⟩ := mutate S1 g0 ra.dropLast
      exact p1 φ1 _ s3 S3 _ (Rp.step S1 s3 ry)
    · exact p1.elim
  · exact p1.elim
/-- o[i] = e -/
def sixS (fe fo fi : En → Hl → R Val) : En → Hl → SR := fun ρ h => ofR (fe ρ h) ρ fun v h1 => ofR (fo ρ h1) ρ fun a h2 => ofR (fi ρ h2) ρ fun b h3 => match v, a, b with
  | .dat d, .ref k, .dat (.int i) => (match h3[k]? with
    | some (some (.lst ds)) => (match ixN ds.length i with
      | some j => .next ρ (h3.set k (some (.lst (ds.set j d))))
      | none => .stuck)
    | _ => .stuck)
  | _, _, _ => .stuck
theorem sx_six {o i e : Expr} {fe fo fi : En → Hl → R Val} {pos pos2 : Pos} (he : Ex X W e fe) (ho : Ex X W o fo) (hi : Ex X W i fi)
    (hsub : ∀ {to ti : TE}, PE X o to → PE X i ti → PG X (.Subscript o i pos2) (gSub to ti rSetL)) (hs : swapsWithSole [.Subscript o i pos2] e pos.line X.env = pure false) (hw : swappedStores [.Subscript o i pos2] e X.env = pure none)
    (h1 : (assignEach [.Subscript o i pos2] X.env).map (·.2) = [assign (.Subscript o i pos2) X.env]) : Sx X W (.Assign [.Subscript o i pos2] e pos) (sixS fe fo fi) := by
  obtain ⟨t, p, s⟩ := he
  obtain ⟨t2, p2, s2⟩ := ho
  obtain ⟨t3, p3, s3⟩ := hi
  refine ⟨_, ps_asg p (hsub p2 p3) hs hw h1, fun Z φ ρ h σ H D S E po => s Z φ ρ h σ H _ S E (PostS.ofR S E po fun v h1 φ1 H1 ev q1 S1 E1 po1 x rx => ?_)⟩
  refine s2 Z φ1 ρ h1 σ H1 _ S1 E1 (PostS.ofR S1 E1 po1 fun a h2 φ2 H2 ea q2 S2 E2 po2 y ry => ?_)
  refine s3 Z φ2 ρ h2 σ H2 _ S2 E2 (PostS.ofR S2 E2 po2 fun b h3 φ3 H3 eb q3 S3 E3 po3 z rz => ?_)
  clear ev ea eb
  split at po3
  · rename_i d k i
    split at po3
    · rename_i ds g
      split at po3
      · rename_i j ej
        obtain ⟨hk, rfl⟩ := ry
        cases rz
        obtain ⟨xs, e2, ra⟩ := S3.ol g
        have rd : Rp X.K H3 (live Z φ3 h3) x d := RpV.step S1 (q2.trans q3) rx (v := .dat d)
        refine ⟨φ2 k, xs, i, j, rfl, rfl, by rw [← q3.old k hk]; exact e2, by rw [ra.length]; exact ej, ?_⟩
        obtain ⟨s4, S4⟩ := mutate S3 g (ra.set rd j)
        rw [← q3.old k hk]
        exact po3 φ3 σ _ s4 S4 (E3.step S3 s4)
      · exact po3.elim
    · exact po3.elim
  · exact po3.elim

/-! ### if, for, while -/
def ifS (c : En → Hl → R Bool) (f g : En → Hl → SR) : En → Hl → SR := fun ρ h => ofR (c ρ h) ρ fun b h1 => if b = true then f ρ h1 else g ρ h1
theorem sx_if {c : Expr} {a b : List Stmt} {fc : En → Hl → R Bool} {f g : En → Hl → SR} {pos : Pos} (hc : Tx X W c fc) (ha : Sxs X W a f) (hb : Sxs X W b g) : Sx X W (.If c a b pos) (ifS fc f g) := by
  obtain ⟨t, p, s⟩ := hc
  obtain ⟨u, q, r⟩ := ha
  obtain ⟨v, q', r'⟩ := hb
  refine ⟨_, ps_if p q q', fun Z φ ρ h σ H D S E po => s Z φ ρ h σ H _ S E (PostS.ofR S E po fun k h1 φ1 H1 _ s1 S1 E1 p1 a ra => ?_)⟩
  cases ra
  cases k with
  | true => rw [if_pos rfl] at p1 ⊢; exact r Z φ1 ρ h1 σ H1 D S1 E1 p1
  | false => rw [if_neg Bool.false_ne_true] at p1 ⊢; exact r' Z φ1 ρ h1 σ H1 D S1 E1 p1
def forL (it : ItD) (g : DG) (tb : En → Hl → SR) : List PyData → En → Hl → SR
  | [], ρ, h => if ckD it h = true then .next ρ h else .stuck
  | d :: ds, ρ, h => if ckD it h = true then
      (match setG g (.dat d) ρ with
      | none => .stuck
      | some ρ1 => (match tb ρ1 h with
        | .next ρ2 h2 => forL it g tb ds ρ2 h2
        | .cont ρ2 h2 => forL it g tb ds ρ2 h2
        | .brk ρ2 h2 => .next ρ2 h2
        | .ret v h2 => .ret v h2
        | .exc e ρ2 h2 => .exc e ρ2 h2
        | .stuck => .stuck))
    else .stuck
def forS (fi : En → Hl → R ItD) (g : DG) (tb : En → Hl → SR) : En → Hl → SR := fun ρ h => ofR (fi ρ h) ρ fun it h1 => forL it g tb it.items ρ h1
theorem sx_for {tg iter : Expr} {body : List Stmt} {fi : En → Hl → R ItD} {g : DG} {tb : En → Hl → SR} {pos : Pos} (hp : PassesOwn (model X.prog X.w) X.A X.env X.xe) (hc : X.calm = true) (hi : Ix X W tg iter fi) (hg : PG X tg (tG X.K g)) (hb : Sxs X W body tb)
    (hs : ∀ x, foldedSetIterable iter X.env x = pure x) : Sx X W (.For tg iter body [] pos) (forS fi g tb) := by
  obtain ⟨wi, pi, si⟩ := hi
  obtain ⟨u, q, r⟩ := hb
  refine ⟨_, ps_for hp hc pi hg q hs, fun Z φ ρ h σ H D S E po => si Z φ ρ h σ H _ S E (PostS.ofR S E po fun it h1 φ1 H1 _ s1 S1 E1 p1 J ok => ?_)⟩
  refine ⟨fun i m σ' H' => ∃ (φ2 : Nat → Addr) (ρ2 : En) (h2 : Hl), Stp φ1 Z h1 H1 φ2 h2 H' ∧ SimH X.K Z φ2 h2 H' ∧ SimE X.K Z φ2 h2 H' ρ2 σ' ∧ i + m = it.items.length ∧ PostS X.K X.mg W Z φ2 h2 H' (forL it g tb (it.items.drop i) ρ2 h2) D,
    ⟨it.items.length, φ1, ρ, h1, Stp.refl, S1, E1, by omega, p1⟩, fun i m σ' H' hW => ?_⟩
  obtain ⟨φ2, ρ2, h2, s2, S2, E2, hm, pp⟩ := hW
  cases e : it.items[i]? with
  | none =>
    rw [List.drop_eq_nil_of_le (List.getElem?_eq_none_iff.mp e)] at pp
    unfold forL at pp
    split at pp
    · rename_i ck
      exact .inl ⟨ok.stop Z φ2 h2 H' s2 S2 ck (fun _ _ z => z) i e, pp φ2 σ' H' Stp.refl S2 E2⟩
    · exact pp.elim
  | some d =>
    rw [drop_some e] at pp
    unfold forL at pp
    split at pp
    · rename_i ck
      obtain ⟨hgo, hy⟩ := ok.go Z φ2 h2 H' s2 S2 ck (fun _ _ z => z) i d e
      have hlt := lt_of_getS e
      split at pp
      · exact pp.elim
      · rename_i ρ3 eg
        refine .inr ⟨hgo, fun σ5 H5 => ∃ (φ5 : Nat → Addr) (ρ5 : En) (h5 : Hl), Stp φ1 Z h1 H1 φ5 h5 H5 ∧ SimH X.K Z φ5 h5 H5 ∧ SimE X.K Z φ5 h5 H5 ρ5 σ5 ∧ PostS X.K X.mg W Z φ5 h5 H5 (forL it g tb (it.items.drop (i + 1)) ρ5 h5) D, fun σ5 H5 hN => ?_, fun x H3 hyl => ?_⟩
        · obtain ⟨φ5, ρ5, h5, a1, a2, a3, a4⟩ := hN
          exact ⟨m - 1, by omega, φ5, ρ5, h5, a1, a2, a3, by omega, a4⟩
        · obtain ⟨s3, S3, rx⟩ := hy x H3 hyl
          refine sn_g S3 g (v := .dat d) (E2.step S2 s3) rx eg fun σ4 E4 _ => ?_
          refine r Z φ2 ρ3 h2 σ4 H3 _ S3 E4 ?_
          have pp := PostS.shift pp s3
          cases et : tb ρ3 h2 with
          | stuck => rw [et] at pp; exact pp
          | next ρ4 h4 =>
            rw [et] at pp
            exact fun φ5 σ5 H5 s5 S5 E5 => ⟨φ5, ρ4, h4, (s2.trans s3).trans s5, S5, E5, PostS.shift pp s5⟩
          | cont ρ4 h4 =>
            rw [et] at pp
            exact fun φ5 σ5 H5 s5 S5 E5 => ⟨φ5, ρ4, h4, (s2.trans s3).trans s5, S5, E5, PostS.shift pp s5⟩
          | brk ρ4 h4 => rw [et] at pp; exact pp
          | ret v h4 => rw [et] at pp; exact pp
          | exc x ρ4 h4 => rw [et] at pp; exact pp
    · exact pp.elim
def whileL (c : En → Hl → R Bool) (tb : En → Hl → SR) : Nat → En → Hl → SR
  | 0, _, _ => .stuck
  | n + 1, ρ, h => ofR (c ρ h) ρ fun b h1 => if b = true then
      (match tb ρ h1 with
      | .next ρ2 h2 => whileL c tb n ρ2 h2
      | .cont ρ2 h2 => whileL c tb n ρ2 h2
      | .brk ρ2 h2 => .next ρ2 h2
      | .ret v h2 => .ret v h2
      | .exc e ρ2 h2 => .exc e ρ2 h2
      | .stuck => .stuck)
    else .next ρ h1
theorem sx_while {c : Expr} {body : List Stmt} {fc : En → Hl → R Bool} {tb : En → Hl → SR} {pos : Pos} (n : Nat) (hp : PassesOwn (model X.prog X.w) X.A X.env X.xe) (hc : Tx X W c fc) (hb : Sxs X W body tb) : Sx X W (.While c body [] pos) (whileL fc tb n) := by
  obtain ⟨t, p, s⟩ := hc
  obtain ⟨u, q, r⟩ := hb
  refine ⟨_, ps_while hp p q, fun Z φ ρ h σ H D S E po => ?_⟩
  refine ⟨fun m σ' H' => ∃ (φ2 : Nat → Addr) (ρ2 : En) (h2 : Hl), SimH X.K Z φ2 h2 H' ∧ SimE X.K Z φ2 h2 H' ρ2 σ' ∧ PostS X.K X.mg W Z φ2 h2 H' (whileL fc tb m ρ2 h2) D, ⟨n, φ, ρ, h, S, E, po⟩, fun m σ' H' hW => ?_⟩
  obtain ⟨φ2, ρ2, h2, S2, E2, pp⟩ := hW
  cases m with
  | zero => exact pp.elim
  | succ m =>
    refine s Z φ2 ρ2 h2 σ' H' _ S2 E2 (PostS.ofR S2 E2 pp fun b h3 φ3 H3 _ s3 S3 E3 p3 k rk => ?_)
    cases rk
    cases b with
    | false => rw [if_neg Bool.false_ne_true] at p3 ⊢; exact p3 φ3 σ' H3 Stp.refl S3 E3
    | true =>
      rw [if_pos rfl] at p3 ⊢
      refine ⟨fun σ5 H5 => ∃ (φ5 : Nat → Addr) (ρ5 : En) (h5 : Hl), SimH X.K Z φ5 h5 H5 ∧ SimE X.K Z φ5 h5 H5 ρ5 σ5 ∧ PostS X.K X.mg W Z φ5 h5 H5 (whileL fc tb m ρ5 h5) D, fun σ5 H5 hN => ⟨m, Nat.lt_succ_self m, hN⟩, ?_⟩
      refine r Z φ3 ρ2 h3 σ' H3 _ S3 E3 ?_
      cases et : tb ρ2 h3 with
      | stuck => rw [et] at p3; exact p3
      | next ρ4 h4 =>
        rw [et] at p3
        exact fun φ5 σ5 H5 s5 S5 E5 => ⟨φ5, ρ4, h4, S5, E5, PostS.shift p3 s5⟩
      | cont ρ4 h4 =>
        rw [et] at p3
        exact fun φ5 σ5 H5 s5 S5 E5 => ⟨φ5, ρ4, h4, S5, E5, PostS.shift p3 s5⟩
      | brk ρ4 h4 => rw [et] at p3; exact p3
      | ret v h4 => rw [et] at p3; exact p3
      | exc x ρ4 h4 => rw [et] at p3; exact p3
end
end Dn
end

section
/-! Hx, part 1: a list walked while an exception is handled -/
namespace Hx
open PySem PySem.Spec PyProof.Rows L2 HotX
section
variable {prog : Program} {w : World} {A : Around} {E : Value → Shared → Prop} {s : Shared}
theorem next_end {it l x1 : Addr} {i : Nat} {items : Array Value} {Q : Option Value → Shared → Prop} (hot : HotAt A x1 s.heap) (hne : x1 ≠ it) (hit : s.heap.IsListIter it l i) (hl : s.heap.IsList l items) (hx : items[i]? = none)
    (hQ : ∀ h', Heap.ExtBut it s.heap h' → Q none { s with heap := h' }) : wpAny (model prog w) A (pyNext (.ref it)) Q E s := by
  obtain ⟨o, ho, hc, hd⟩ := id hit
  obtain ⟨lo, hlo, _, ln, hld⟩ := hl
  obtain ⟨hh, o1, vs1, e1, d1, c1⟩ := hot
  unfold pyNext
  refine wpAny_bind (wpAny_attempt (wpAny_callSpecial?_slot (name := Str.ofString "__next__") hit.typeIs slot_listiter_next (wpAny_call_entry slot_listiter_next hit.typeIs entry_listiter_next ?_ (args_listiter_next _))))
  show wpAny _ A.in1 (field (.ref it) 0 >>= _) _ _ s
  refine wpAny_bind (wpAny_field ho hd (x := .ref l) rfl ?_)
  show wpAny _ A.in1 (if (Value.ref l == Value.none) = true then _ else _) _ _ s
  have nn : ¬ ((Value.ref l == Value.none) = true) := Bool.false_ne_true
  rw [if_neg nn]
  show wpAny _ A.in1 (field (.ref it) 1 >>= _) _ _ s
  refine wpAny_bind (wpAny_field ho hd (x := .int i 0) rfl ?_)
  show wpAny _ A.in1 (seqItems? (.ref l) >>= _) _ _ s
  refine wpAny_bind (wpAny_seqItems hlo hld ?_)
  simp only [Int.toNat_natCast, hx]
  refine wpAny_bind (wpAny_rule (wpAny_bind (wpAny_setField ho hd (by simp) ?_)))
  show wpAny _ A.in1 (newExc (.type "StopIteration") [] >>= _) _ _ _
  refine wpAny_bind ?_
  simp only [newExc, newTuple]
  refine wpAny_bind (wpAny_newObj_type ?_ (by size_fits))
  refine wpAny_bind (m := firstArgMember _ _) (wpAny_of_eq (a := Value.none) (by first | rfl | (simp only [firstArgMember]; rfl)) ?_)
  refine wpAny_newObj_type ?_ (by size_fits)
  have keep : ∀ b ob, b ≠ it → s.heap.get? b = some ob → (s.heap.update it (Obj.mapFields (·.setIfInBounds 0 Value.none))).get? b = some ob := fun b ob hb q => (Heap.get?_update_other _ _ (Ne.symm hb)).trans q
  have e2 := Heap.get?_push_of_some { cls := Value.type "tuple", data := Data.seq ([] : List Value).toArray } (keep x1 o1 hne e1)
  refine raiseNew_hot (A := A.in1) (x1 := x1) ⟨hh, o1, vs1, Heap.get?_push_of_some _ e2, d1, c1⟩ (Nat.ne_of_lt (Heap.lt_size e2)) (Heap.get?_push_size _ rfl) rfl (by simp; omega) ?_
  refine wpAny_bind (wpAny_isInstance (T := "StopIteration") (b := true) ⟨_, Heap.get?_update_self _ (Heap.get?_push_size _ rfl) rfl, rfl⟩ isSubtype_stop ?_)
  refine wpAny_pure (hQ _ fun b ob hb q => ?_)
  have q2 := Heap.get?_push_of_some { cls := Value.type "tuple", data := Data.seq ([] : List Value).toArray } (keep b ob hb q)
  rw [Heap.get?_update_other _ _ (Nat.ne_of_gt (Heap.lt_size q2))]
  exact Heap.get?_push_of_some _ q2
end
theorem hot_keep {A : Around} {x1 : Addr} {h h' : Heap} (hot : HotAt A x1 h) (k : ∀ o, h.get? x1 = some o → h'.get? x1 = some o) : HotAt A x1 h' := let ⟨a, o, vs, e, d, c⟩ := hot; ⟨a, o, vs, k o e, d, c⟩
theorem walks_hot {prog : Program} {w : World} {A : Around} {it l x1 : Addr} (hil : l ≠ it) (hxi : x1 ≠ it) (items : Array Value) :
    Walks prog w A it [it, l, x1] [it] items.size (fun i v => items[i]? = some v) (fun i h => h.IsListIter it l i ∧ h.IsList l items ∧ HotAt A x1 h) := by
  refine { sub := fun b hb => ?_, frame := ?_, item := ?_, done := ?_, self := ?_ }
  · simp only [List.mem_cons, List.not_mem_nil, or_false] at hb
    rw [hb]; exact List.mem_cons_self ..
  · rintro i h h' ⟨a, b, c⟩ k
    exact ⟨a.at fun o e => k it (by simp) o e, b.at fun o e => k l (by simp) o e, hot_keep c fun o e => k x1 (by simp) o e⟩
  · rintro i st Q E hi ⟨a, b, c⟩ hQ
    refine wpAny_pyNext_list_item a b (x := items[i]) (by simp [hi]) fun h' a' sb => ?_
    exact hQ _ h' st.toks (by simp [hi]) ⟨a', b.extBut sb.extBut hil, hot_keep c fun o e => (sb.2 x1 hxi).trans e⟩ fun b' o hb e => (sb.2 b' (by simpa using hb)).trans e
  · rintro st Q E ⟨a, b, c⟩ hQ
    exact next_end c hxi a b (by simp) fun h' eb => hQ h' st.toks fun b' o hb e => eb b' o (by simpa using hb) e
  · rintro i st Q E ⟨a, b, c⟩ h
    exact wpAny_pyIter_listiter a h
theorem ints_len : ∀ {its : List Value} {ns : List Int}, IntsAre its ns → its.length = ns.length
  | _, _, .nil => rfl
  | _, _, .cons _ _ h => congrArg (· + 1) (ints_len h)
/-- sum of a row of small numbers -/
theorem sum_hot {prog : Program} {w : World} {A : Around} {E : Value → Shared → Prop} {s : Shared} {l x1 : Addr} {its : List Value} {ns : List Int} {Q : Value → Shared → Prop} (hot : HotAt A x1 s.heap) (hl : s.heap.IsList l its.toArray) (hi : IntsAre its ns)
    (sm : ∀ n ∈ ns, 0 ≤ n ∧ n ≤ 1) (lm : ns.length ≤ 1000) (k : ∀ h' tk t', (∀ b o, s.heap.get? b = some o → h'.get? b = some o) → Q (.int ns.sum t') { s with heap := h', toks := tk }) : wpAny (model prog w) A (call (.builtin "sum") [.ref l]) Q E s := by
  have pre : ∀ j, j ≤ ns.length → 0 ≤ preSum (fun i => ns.getD i 0) j ∧ preSum (fun i => ns.getD i 0) j ≤ j := by
    intro j
    induction j with
    | zero => intro _; exact ⟨Int.le_refl _, Int.le_refl _⟩
    | succ j ih =>
      intro hj
      obtain ⟨a, b⟩ := ih (by omega)
      have e : preSum (fun i => ns.getD i 0) (j + 1) = preSum (fun i => ns.getD i 0) j + ns.getD j 0 := rfl
      have m := sm (ns.getD j 0) (by rw [List.getD_eq_getElem?_getD, List.getElem?_eq_getElem (by omega)]; exact List.getElem_mem _)
      omega
  have tot : ∀ j, j ≤ ns.length → preSum (fun i => ns.getD i 0) j = (ns.take j).sum := by
    intro j
    induction j with
    | zero => intro _; simp [preSum]
    | succ j ih =>
      intro hj
      have e : preSum (fun i => ns.getD i 0) (j + 1) = preSum (fun i => ns.getD i 0) j + ns.getD j 0 := rfl
      rw [e, ih (by omega), List.take_add_one, List.sum_append, List.getD_eq_getElem?_getD, List.getElem?_eq_getElem (show j < ns.length by omega)]
      simp
  have get : ∀ {its : List Value} {ns : List Int} {i : Nat} {v : Value}, IntsAre its ns → its[i]? = some v → ∃ t, v = .int (ns.getD i 0) t := by
    intro its ns i v h
    induction h generalizing i with
    | nil => intro e; simp at e
    | cons n t _ ih =>
      intro e
      cases i with
      | zero => cases e; exact ⟨t, rfl⟩
      | succ i => exact ih (by simpa using e)
  have len := ints_len hi
  have sz : its.toArray.size = ns.length := by simp [len]
  have xl : x1 < s.heap.objs.size := let ⟨_, o, _, e, _⟩ := hot; Heap.lt_size e
  have ll : l < s.heap.objs.size := let ⟨o, e, _⟩ := hl; Heap.lt_size e
  refine call_sum_walk (wpAny_pyIter_list hl ⟨s.heap.objs.size, _, _, its.toArray.size, _, _, fun i => ns.getD i 0, rfl, walks_hot (A := A.in1) (x1 := x1) (Nat.ne_of_lt ll) (Nat.ne_of_lt xl) its.toArray, ⟨⟨_, Heap.get?_push_size _ rfl, rfl, rfl⟩, hl.at fun o e => Heap.get?_push_of_some _ e, hot_keep hot fun o e => Heap.get?_push_of_some _ e⟩, ?_, ?_, ?_, ?_⟩)
  · intro b hb
    show b < (s.heap.push _).objs.size
    rw [Heap.size_push]
    simp only [List.mem_cons, List.not_mem_nil, or_false] at hb
    rcases hb with rfl | rfl | rfl
    · exact Nat.lt_succ_self _
    · exact Nat.lt_succ_of_lt ll
    · exact Nat.lt_succ_of_lt xl
  · intro i v e
    exact get hi (by simpa using e)
  · intro j hj
    rw [sz] at hj
    have a := pre (j + 1) (by omega)
    have m := sm (ns.getD j 0) (by rw [List.getD_eq_getElem?_getD, List.getElem?_eq_getElem hj]; exact List.getElem_mem _)
    exact ⟨⟨by show -(2 ^ 63) ≤ ns.getD j 0; omega, by show ns.getD j 0 < 2 ^ 63; omega⟩, ⟨by omega, by omega⟩⟩
  · intro h' tk t' kk
    rw [sz, tot _ (Nat.le_refl _), List.take_length]
    refine k h' tk t' fun b o e => kk b o (fun z => ?_) (Heap.get?_push_of_some _ e)
    have z' : b = s.heap.objs.size := by simpa using z
    exact absurd (z' ▸ Heap.lt_size e) (Nat.lt_irrefl _)
end Hx
end

section
/-! Hx, part 2: a comprehension over a list while an exception is handled -/
namespace Hx
open PySem PySem.Spec PyProof.Rows L2 HotX L2H
abbrev St := L2.St
theorem item_l {X : Cx} {tg : Expr} {a it : Addr} {i : Nat} {pins : List (Addr × Obj)} {s : Shared} {σ : St} {H : Hp} {E : Value → Shared → Prop} (I : Inv X pins σ H s) (hf : FpOk X pins H it) (st : s.heap.IsListIter it a i) (hg : (Itl X.K a).go i H) :
    wpAny (model X.prog X.w) X.A (pyNext (.ref it)) (fun r s1 => ∃ u, r = some u ∧ wpAny (model X.prog X.w) X.A (letOwnedTupleGo tg (.ref it) u) (fun _ s2 => ∃ x H', Inv X pins σ H' s2 ∧ RelV x u ∧ (Itl X.K a).yld i H x H' ∧ s2.heap.IsListIter it a (i + 1) ∧ H' it = none) E s1) E s := by
  obtain ⟨xs, x, hq, hx⟩ := hg
  obtain ⟨its, rv, p, hz⟩ := I.list hq
  obtain ⟨u, hu, ru⟩ := rv.get hx
  obtain ⟨f0, f1, f2, f3, f4, f5⟩ := hf
  refine wpAny_pyNext_list_item st p.isList (x := u) (by rw [List.getElem?_toArray]; exact hu) fun h' st' sb => ?_
  have J : Inv X pins σ H { s with heap := h' } := I.turned (t' := s.toks) (fun b o hb e => (sb.2 b hb).trans e) f0 f1 f3 f4 f5
  obtain ⟨o, e, c, d⟩ := id st'
  refine ⟨u, rfl, go_of (s := { s with heap := h' }) e c d (by decide) ⟨x, H, J, ru, ⟨rfl, fun ys hy => ?_⟩, st', f0⟩⟩
  rw [I.list_inj hy hq]
  exact hx
theorem done_l {X : Cx} {a it x1 : Addr} {i : Nat} {pins : List (Addr × Obj)} {s : Shared} {σ : St} {H : Hp} {E : Value → Shared → Prop} (hot : HotAt X.A x1 s.heap) (hne : x1 ≠ it) (I : Inv X pins σ H s) (hf : FpOk X pins H it) (st : s.heap.IsListIter it a i) (hg : (Itl X.K a).stop i H) :
    wpAny (model X.prog X.w) X.A (pyNext (.ref it)) (fun r s1 => r = none ∧ Inv X pins σ H s1) E s := by
  obtain ⟨xs, hq, hx⟩ := hg
  obtain ⟨its, rv, p, hz⟩ := I.list hq
  obtain ⟨f0, f1, f2, f3, f4, f5⟩ := hf
  have hl := rv.length
  refine next_end hot hne st p.isList (by rw [List.getElem?_toArray, List.getElem?_eq_none_iff]; omega) fun h' eb => ⟨rfl, ?_⟩
  exact I.turned (t' := s.toks) (fun b o hb e => eb b o hb e) f0 f1 f3 f4 f5
/-- [elt for tg in iter], iter a list -/
theorem pe_lcH {X : Cx} {elt tg iter : Expr} {scope : Scope} {own : List (Str × Nat)} {pos : Pos} {ti te : TE} {g : TG} (hot : HotC X) (hN : X.N.Nodup) (hi : PE X iter ti) (ok : BlkOk X.N X.env.scope scope own)
    (hg : ∀ (s : Shared) (H : Hp) (C : Addr) (cl : List (Str × Addr)) (fp : List Addr), PG (X.blk s H scope (compEnvC scope cl C X.env) fp) tg g)
    (he : ∀ (s : Shared) (H : Hp) (C : Addr) (cl : List (Str × Addr)) (fp : List Addr), PE (X.blk s H scope (compEnvC scope cl C X.env) fp) elt te) (hs : ∀ x, foldedSetIterable iter X.env x = pure x) :
    PE X (.ListComp elt [⟨tg, iter, [], 0⟩] scope pos) (tLc (iList X.K ti) g tYes te (own.map (·.2))) := by
  refine ⟨fun pins s σ H Q I hyp => ?_⟩
  rw [eval_ListComp]
  have free : ∀ y ∈ scope.names, y.2 = .free → ∃ c, X.env.cells.lookup y.1 = some c := fun y hy e => (ok.free y hy e).elim (fun k => I.ok.has _ (.inl k)) fun k => I.ok.has _ (.inr k)
  refine wpAny_comprehension_free (use := none) rfl hs (closure_ok free) ok.kind (fun y hy e => by rw [ok.uniq y hy, e]) (thn (hi.run pins s σ H _ I hyp) fun xv s1 hx => ?_)
  obtain ⟨v, H1, I1, rv, a, rfl, ⟨xs, hq⟩, q⟩ := hx
  cases (show xv = Value.ref a from rv)
  obtain ⟨its, _, pl, _⟩ := I1.list hq
  refine wpAny_pyIter_list pl.isList ?_
  generalize hit : s1.heap.objs.size = it
  generalize hs2 : ({ s1 with heap := s1.heap.push { cls := .type "list_iterator", data := .fields #[.ref a, .int 0 0] } } : Shared) = s2
  have e2 : s2.heap = s1.heap.push { cls := .type "list_iterator", data := .fields #[.ref a, .int 0 0] } := by rw [← hs2]
  have I2 : Inv X pins σ H1 s2 := by rw [← hs2]; exact I1.kept (t' := s1.toks) fun b o e => Heap.get?_push_of_some _ e
  have ite : s2.heap.IsListIter it a 0 := by rw [e2, ← hit]; exact ⟨_, Heap.get?_push_size _ rfl, rfl, rfl⟩
  have itl : it < s2.heap.objs.size := let ⟨o, e, _⟩ := ite; Heap.lt_size e
  have fit : FpOk X pins H1 it := I1.fpOk (Nat.le_of_eq hit) (I1.hok.fresh (Nat.le_of_eq hit))
  -- the exception that is handled
  obtain ⟨p, ⟨hh, vs1, d1, c1⟩, hp⟩ := hot
  have P2 := I2.pin p (List.mem_append_left _ hp)
  have pit : p.1 ≠ it := by
    have P1 := I1.pin p (List.mem_append_left _ hp)
    rw [← hit]
    exact Nat.ne_of_lt (Heap.lt_size P1.1)
  refine wpAny_newObj_type (newEnv_comp ?_) (by show 0 ≤ sizeLine; decide)
  generalize hD : s2.heap.objs.size = D
  have nD : H1 D = none := I2.hok.fresh (Nat.le_of_eq hD)
  obtain ⟨W, ⟨m0, w0⟩, turn⟩ := q D nD
  generalize hs3 : ({ s2 with heap := s2.heap.push { cls := .type "list", data := .seq ([] : List Value).toArray } } : Shared) = s3
  have e3 : s3.heap = s2.heap.push { cls := .type "list", data := .seq ([] : List Value).toArray } := by rw [← hs3]
  have I3 : Inv X pins σ (upd H1 D (.lst [])) s3 := by
    rw [← hs3]
    exact I2.laid (t' := s2.toks) (fun b o e => Heap.get?_push_of_some _ e) (Nat.le_of_eq hD) ⟨Nat.zero_le _, [], 0, .nil, by rw [← hD]; exact Heap.get?_push_size _ rfl⟩
  have up3 : ∀ b o, s2.heap.get? b = some o → s3.heap.get? b = some o := fun b o e => by rw [e3]; exact Heap.get?_push_of_some _ e
  have nDi : it ≠ D := by rw [← hD]; exact Nat.ne_of_lt itl
  have fit3 : ∀ b ∈ [it], FpOk X pins (upd H1 D (.lst [])) b ∧ b < s3.heap.objs.size := fun b hb => by
    have eb : b = it := by simpa using hb
    rw [eb]
    exact ⟨⟨by rw [upd_ne nDi]; exact fit.1, fit.2⟩, by rw [e3, Heap.size_push]; exact Nat.lt_succ_of_lt itl⟩
  have st3 : s3.heap.IsListIter it a 0 := ite.at fun o e => up3 it o e
  have I4 := block_start I3 ok hN fit3
  have pg := hg s3 (upd H1 D (.lst [])) s3.heap.objs.size (cellsFrom (s3.heap.objs.size + 1) scope.names (cloFrom X.env.cells scope.names [])) [it]
  have pe := he s3 (upd H1 D (.lst [])) s3.heap.objs.size (cellsFrom (s3.heap.objs.size + 1) scope.names (cloFrom X.env.cells scope.names [])) [it]
  have P3 : s3.heap.get? p.1 = some p.2 ∧ (upd H1 D (.lst [])) p.1 = none := by
    refine ⟨up3 _ _ P2.1, ?_⟩
    rw [upd_ne (by rw [← hD]; exact Nat.ne_of_lt (Heap.lt_size P2.1))]
    exact P2.2.1
  have nst : p.1 ∉ frs X.stack := fun hm => (List.mem_cons.mp (I2.stkSub p.1 hm)).elim P2.2.2.1 P2.2.2.2.1
  show codeAny (model X.prog X.w) X.A (.compStart (.ListComp elt [⟨tg, iter, [], 0⟩] scope pos) 0 (.ref it) (.ref D) (compEnvC scope (cellsFrom (s3.heap.objs.size + 1) scope.names (cloFrom X.env.cells scope.names [])) s3.heap.objs.size X.env))
    (compPost (model X.prog X.w) X.A X.xe none (EP X pins σ Q) (.ref D) s3.heap.objs.size) { s3 with heap := pushCells (s3.heap.push { cls := .type "dict", data := .dict #[] }) scope.names }
  generalize hce : compEnvC scope (cellsFrom (s3.heap.objs.size + 1) scope.names (cloFrom X.env.cells scope.names [])) s3.heap.objs.size X.env = ce at I4 pg pe ⊢
  have lce : ce.locals = s3.heap.objs.size := by subst hce; rfl
  generalize hH3 : upd H1 D (.lst []) = H3 at I3 I4 pg pe w0 fit3 P3
  generalize hs4 : ({ s3 with heap := pushCells (s3.heap.push { cls := .type "dict", data := .dict #[] }) scope.names } : Shared) = s4 at I4 ⊢
  have up4 : ∀ b o, s3.heap.get? b = some o → s4.heap.get? b = some o := fun b o e => by rw [← hs4]; exact pushCells_keeps _ _ _ _ (Heap.get?_push_of_some _ e)
  -- the iterator in the block's context
  have blkF : ∀ {σ' : St} {H' : Hp} {s' : Shared}, Inv (X.blk s3 H3 scope ce [it]) [] σ' H' s' → H' it = none → FpOk (X.blk s3 H3 scope ce [it]) [] H' it := fun {σ' H' s'} J n => by
    have m : it ∈ [it] := List.mem_singleton_self _
    exact ⟨n, (J.ok.exf it m).1, J.ok.exfs it m, .inl m, fun x c e => (J.ok.exf it m).2 x c e, fun p hp => absurd (show p ∈ ([] : List (Addr × Obj)) ++ [] from hp) (by simp)⟩
  have loop : codeAny (model X.prog X.w) X.A (.compLoop (.ListComp elt [⟨tg, iter, [], 0⟩] scope pos) 0 (.ref it) (.ref D) ce) (compPost (model X.prog X.w) X.A X.xe none (EP X pins σ Q) (.ref D) s3.heap.objs.size) s4 := by
    refine compLoop_any (fun n s' => ∃ i H', Inv (X.blk s3 H3 scope ce [it]) [] (wipe σ (own.map (·.2))) H' s' ∧ s'.heap.IsListIter it a i ∧ H' it = none ∧ W i n H') ?_ m0 ⟨0, H3, I4, st3.at fun o e => up4 it o e, (fit3 it (List.mem_singleton_self _)).1.1, w0⟩
    rintro n s5 ⟨i, H5, I5, st5, n5, w5⟩
    rcases turn i n H5 w5 with ⟨stop, qq⟩ | ⟨go, Nx, hNx, step⟩
    · have e5 : s5.heap.get? p.1 = some p.2 := I5.base.keep p.1 p.2 P3.1 P3.2 nst (fun z => pit (by simpa using z))
      have td := done_l (E := fun _ _ => False) (show HotAt (X.blk s3 H3 scope ce [it]).A p.1 s5.heap from ⟨hh, p.2, vs1, e5, d1, c1⟩) pit I5 (blkF I5 n5) st5 stop
      refine thnF td fun r s6 ⟨hr, I6⟩ => ?_
      subst hr
      have I7 : Inv X pins σ H5 s6 := I3.call' (ch := [it]) I6.os I6.base I6.hok I6.bare fun b hb => by
        have z := (fit3 b hb).1.2
        exact ⟨z.2.2.1, z.1, z.2.2.2.1, z.2.2.2.2⟩
      have nC : H5 s3.heap.objs.size = none := lce ▸ (show H5 ce.locals = none from I6.free)
      obtain ⟨m, hn, _⟩ := I6.loc
      have hn' : s6.heap.Ns s3.heap.objs.size m := lce ▸ (show s6.heap.Ns ce.locals m from hn)
      obtain ⟨f0, f1, f2, f3, f4, f5⟩ := I3.fpOk (Nat.le_refl _) nC
      refine ⟨m, hn', fun h2 sb => ⟨.ref D, H5, ?_, rfl, qq⟩⟩
      exact I7.turned (t' := s6.toks) (fun b o hb e => (sb.2 b hb).trans e) f0 f1 f3 f4 f5
    · refine thnF (item_l (X := X.blk s3 H3 scope ce [it]) (tg := tg) (E := fun _ _ => False) I5 (blkF I5 n5) st5 go) fun r s6 ⟨u, hr, h6⟩ => ?_
      subst hr
      refine thnF h6 fun _ s7 ⟨x, H7, I7, r7, y7, st7, n7⟩ => ?_
      have here : ∀ b ∈ [it], FpOk (X.blk s3 H3 scope ce [it]) [] H7 b := fun b hb => by rw [show b = it by simpa using hb]; exact blkF I7 n7
      have objs : ∀ b ∈ [it], ∃ o, s7.heap.get? b = some o ∧ ∀ v, o.data ≠ .cell v := fun b hb => by
        rw [show b = it by simpa using hb]
        obtain ⟨o, e, c, d⟩ := st7
        exact ⟨o, e, fun v z => by rw [d] at z; cases z⟩
      have I8 := I7.pinned here objs
      refine thnF (pg.run _ s7 _ H7 x u _ I8 r7 (step x H7 y7)) fun _ s8 ⟨σ8, H8, J8, hw, q8⟩ => ?_
      have q8' : te σ8 H8 fun y H4 => ∃ acc, H4 D = some (.lst acc) ∧ acc.length < sizeLine ∧ Nx (upd H4 D (.lst (acc ++ [y]))) := by
        have z : (if true = true then te σ8 H8 fun y H4 => ∃ acc, H4 D = some (.lst acc) ∧ acc.length < sizeLine ∧ Nx (upd H4 D (.lst (acc ++ [y]))) else Nx H8) := q8
        rwa [if_pos rfl] at z
      have again : ∀ {s' : Shared} {H' : Hp}, Inv (X.blk s3 H3 scope ce [it]) ([] ++ pinsAt [it] s7.heap) σ8 H' s' → Nx H' → ∃ m, m < n ∧ ∃ i H', Inv (X.blk s3 H3 scope ce [it]) [] (wipe σ (own.map (·.2))) H' s' ∧ s'.heap.IsListIter it a i ∧ H' it = none ∧ W i m H' := fun {s' H'} J nx => by
        obtain ⟨m', hm, w'⟩ := hNx H' nx
        obtain ⟨o, e, _⟩ := objs it (List.mem_singleton_self _)
        have pz := J.pin (it, o) (List.mem_append_right _ (List.mem_append_right _ (mem_pinsAt (List.mem_singleton_self _) e)))
        refine ⟨m', hm, i + 1, H', (J.unpinned (pins := [])).weak (by rw [← hw, wipe_length]) (fun j v ev => ?_), st7.at fun o' e' => ?_, pz.2.1, w'⟩
        · rw [← hw] at ev
          exact (wipe_some ev).1
        · rw [e] at e'; cases e'
          exact pz.1
      refine wpAny_tests_nil ?_
      rw [if_pos rfl]
      refine thnF (pe.run _ s8 σ8 H8 _ J8 q8') fun z s9 ⟨yv, H9, J9, r9, acc, hD9, hz9, nx⟩ => ?_
      exact app_ok (X := X.blk s3 H3 scope ce [it]) J9 hD9 hz9 r9 fun s10 J10 => again J10 nx
  exact codeAny_compStart_list loop (wpAny_pyIter_listiter (st3.at fun o e => up4 it o e) loop)
end Hx
end

section
/-! Hx, part 3: the law's word for an error, told in an except suite -/
namespace Hx
open PySem PySem.Spec PyProof.Rows L2 HotX L2H Dn

def errNames : List Str := ["NotAllowed", "TooLarge", "Missing", "BadPaper", "BadForm"]
def errWords : List Str := ["refused", "large", "missing", "paper", "form"]
/-- what is known of an own class of errors -/
structure ClsK (K : PySem.W.Frag) (mg : Str → Option Value) (B : Addr) (x : Str) (C : Addr) : Prop where
  g : mg x = some (.ref C)
  kp : PySem.W.keepIn K (.ref C) = true
  ex : x ≠ "BadForm" → PySem.W.excIn K C [.type "ValueError", .type "Exception", .type "BaseException", .type "object"] "ValueError.__new__" = true
  sub : PySem.W.subIn K (.ref C) (.type "BaseException") = some true
  ty : PySem.W.typeIn K (.ref C) = some (.type "type")
  ec : ExcC K C
  em : PySem.W.exmOne K (.ref C) (.ref B) = some true
  kv : PySem.W.kitOne K (.ref C) (.type "ValueError") = some true
structure ExcK (K : PySem.W.Frag) (mg : Str → Option Value) (B : Addr) (cs : List Addr) : Prop where
  gB : mg "BeastError" = some (.ref B)
  len : cs.length = 5
  at_ : ∀ (j : Nat) (x : Str) (C : Addr), errNames[j]? = some x → cs[j]? = some C → ClsK K mg B x C
  kit : ∀ (i j : Nat) (C D : Addr), cs[i]? = some C → cs[j]? = some D → PySem.W.kitOne K (.ref C) (.ref D) = some (decide (i = j))
  bi : mg "isinstance" = none
  bs : mg "sum" = none
  bn : mg "int" = none
  bv : mg "ValueError" = none

/-- X handles the exception p of class C, the j-th one -/
structure Hot (X : Cx) (p : Addr × Obj) (B : Addr) (cs : List Addr) (j : Nat) (C : Addr) : Prop where
  hot : Hot1 X.A p
  mem : p ∈ X.pn
  zn : L2N.Zn (.ref C) none p.2
  ek : ExcK X.K X.mg B cs
  at_ : cs[j]? = some C
  nd : X.N.Nodup
  hu : X.A.units + 65 < cLine
  st : X.N = ([("e" : Str), ("names" : Str), ("one" : Str)] : List Str)
section
variable {X : Cx} {p : Addr × Obj} {B : Addr} {cs : List Addr} {j : Nat} {C : Addr}
theorem Hot.hc (h : Hot X p B cs j C) : HotC X := ⟨p, h.hot, h.mem⟩
theorem Hot.ji (h : Hot X p B cs j C) : j < 5 := by have := lt_of_getS h.at_; have := h.ek.len; omega
theorem Hot.cls (h : Hot X p B cs j C) : ∃ x, errNames[j]? = some x := ⟨_, List.getElem?_eq_getElem (by have := h.ji; show j < 5; exact this)⟩
theorem Hot.ec (h : Hot X p B cs j C) : ExcC X.K C := let ⟨x, e⟩ := h.cls; (h.ek.at_ j x C e h.at_).ec
theorem call_isP (h : Hot X p B cs j C) : CallR X (.builtin "isinstance") (rIsE X.K C p.1) := by
  intro pins s σ H xs us Q I r hh
  obtain ⟨c, cv, b, rfl, hcv, e, q⟩ := hh
  cases r with
  | cons rx rr =>
    cases rr with
    | cons rt rr =>
      cases rr
      cases rx
      have ec := hcv _ rt
      subst ec
      obtain ⟨hget, _⟩ := I.pin p (List.mem_append.mpr (.inl h.mem))
      obtain ⟨_, vs, hv, _⟩ := h.hot
      have hz := h.zn
      obtain ⟨a, oe⟩ := p
      have J : PySem.W.InstAt s.heap a oe C none := by
        obtain ⟨oc, od, oda, osl⟩ := oe
        obtain ⟨h1, h2, _⟩ := hz
        dsimp only at h1 h2 hv
        subst h1 h2 hv
        exact ⟨hget, rfl, rfl, trivial⟩
      have E := h.ec
      exact PySem.W.kia_one (PySem.W.handS_kitx_exc E.hg E.hk E.hs E.hd E.ha E.hn E.ht E.hm) I.kIn J e (fun z => nomatch z) fun tk => ⟨.bl b, H, I.kept (t' := tk) fun _ _ z => z, rfl, q⟩
/-- isinstance(e, C) -/
def tB (a : Addr) (i j : Nat) : TE := fun σ H Q => σ[0]? = some (some (.ref a)) ∧ Q (.bl (decide (j = i))) H
theorem Hot.is (h : Hot X p B cs j C) (i : Nat) {x : Str} {p1 p2 p3 pos : Pos} (hx : errNames[i]? = some x) (hi : Gl X "isinstance") (hg : Gl X x) (hv : Vis X.env.scope "e") (hdb : (x == ("__debug__" : Str)) = false) (h1 : starEach [Expr.Name x p3] X.env = (false, eval (Expr.Name x p3) X.env) :: starEach [] X.env)
    (h2 : starEach [Expr.Name "e" p2, Expr.Name x p3] X.env = (false, eval (Expr.Name "e" p2) X.env) :: starEach [Expr.Name x p3] X.env) (hpl : (backTo pos (starEach [Expr.Name x p3] X.env)).any (·.1) = false) :
    PE X (.Call (.Name "isinstance" p1) [.Name "e" p2, .Name x p3] [] pos) (tB p.1 i j) := by
  have li : i < cs.length := by rw [h.ek.len]; exact lt_of_getS hx
  have eD : cs[i]? = some cs[i] := List.getElem?_eq_getElem li
  have c := h.ek.at_ i x _ hx eD
  have pe := pe_callB (call_isP h) (p := p1) (pos := pos) hi h.ek.bi (by rfl) (pa_cons (pe_var (X := X) (i := 0) (pos := p2) (by rw [h.st]; rfl) hv) (pa_cons (pe_glob (v := .ref cs[i]) (pos := p3) hg c.g rfl hdb) pa_nil h1) h2) (by decide) (by decide) h2 hpl
  refine ⟨fun pins s σ H Q I hh => pe.run pins s σ H Q I ?_⟩
  refine ⟨_, hh.1, ?_⟩
  exact ⟨.ref cs[i], .ref cs[i], _, rfl, fun u r => r, h.ek.kit j i C _ h.at_ eD, hh.2⟩
end

/-! ### int(one), the row of them, its sum -/
def isB (b : Bool) : Int := if b then 1 else 0
theorem ints_of : ∀ {its : List Value} {bs : List Bool}, Vals (bs.map fun b => V.int (isB b)) its → IntsAre its (bs.map isB)
  | [], [], _ => .nil
  | _ :: _, [], h => by cases h
  | [], _ :: _, h => by cases h
  | u :: us, b :: bs, h => by
    cases h with
    | cons r t =>
      obtain ⟨k, rfl⟩ := r
      exact .cons _ k (ints_of t)
theorem isB_small (bs : List Bool) : ∀ n ∈ bs.map isB, 0 ≤ n ∧ n ≤ 1 := by
  intro n hn
  obtain ⟨b, _, rfl⟩ := List.mem_map.mp hn
  cases b <;> decide
section
variable {X : Cx} {p : Addr × Obj} {B : Addr} {cs : List Addr} {j : Nat} {C : Addr}
/-- sum of a list of ones and noughts -/
def rSum : List V → Hp → VK → Prop := fun xs H Q => ∃ (l : Addr) (bs : List Bool), xs = [.ref l] ∧ H l = some (.lst (bs.map fun b => V.int (isB b))) ∧ bs.length ≤ 1000 ∧ Q (.int (bs.map isB).sum) H
theorem call_sumH (h : HotC X) : CallR X (.builtin "sum") rSum := by
  intro pins s σ H xs us Q I r hh
  obtain ⟨l, bs, rfl, hl, hz, q⟩ := hh
  cases r with
  | cons rx rr =>
    cases rr
    cases rx
    obtain ⟨x1, hot⟩ := h.at I
    obtain ⟨its, rv, pl, _⟩ := I.list (SqL.of hl)
    refine sum_hot hot pl.isList (ints_of rv) (isB_small bs) (by simpa using hz) fun h' tk t' kk => ?_
    exact ⟨.int (bs.map isB).sum, H, I.kept (t' := tk) kk, ⟨t', rfl⟩, q⟩
end

section
variable {X : Cx} {W : WX} {p : Addr × Obj} {B : Addr} {cs : List Addr} {j : Nat} {C : Addr}
theorem upd_upd {H : Hp} {D : Addr} {x y : HO} : upd (upd H D x) D y = upd H D y := by
  funext b
  by_cases h : b = D
  · subst h; rw [upd_same, upd_same]
  · rw [upd_ne h, upd_ne h, upd_ne h]
/-- sum([int(one) for one in names]) -/
def tSm : TE := fun σ H Q => ∃ (a : Addr) (bs : List Bool), σ[1]? = some (some (.ref a)) ∧ H a = some (.lst (bs.map V.bl)) ∧ bs.length ≤ 1000 ∧ 2 < σ.length ∧ ∀ D, H D = none → Q (.int (bs.map isB).sum) (upd H D (.lst (bs.map fun b => V.int (isB b))))
theorem Hot.sm (h : Hot X p B cs j C) {scope : Scope} {p1 p2 p3 p4 p5 p6 pos q1 : Pos} (ok : BlkOk X.N X.env.scope scope [("one", 2)]) (hgs : Gl X "sum") (hv : Vis X.env.scope "names")
    (hg : ∀ (s : Shared) (H : Hp) (c : Addr) (cl : List (Str × Addr)) (fp : List Addr), PG (X.blk s H scope (compEnvC scope cl c X.env) fp) (.Name "one" p3) (gName 2))
    (he : ∀ (s : Shared) (H : Hp) (c : Addr) (cl : List (Str × Addr)) (fp : List Addr), PE (X.blk s H scope (compEnvC scope cl c X.env) fp) (.Call (.Name "int" p4) [.Name "one" p5] [] p6) (tCB (fun xs H Q => (∃ i, xs = [.int i] ∧ Q (.int i) H) ∨ ∃ k, xs = [.bl k] ∧ Q (.int (if k then 1 else 0)) H) (tCons (tVar 2) tNil)))
    (hs : ∀ x, foldedSetIterable (.Name "names" p2) X.env x = pure x)
    (h1 : starEach [Expr.ListComp (.Call (.Name "int" p4) [.Name "one" p5] [] p6) [⟨.Name "one" p3, .Name "names" p2, [], 0⟩] scope q1] X.env = (false, eval (Expr.ListComp (.Call (.Name "int" p4) [.Name "one" p5] [] p6) [⟨.Name "one" p3, .Name "names" p2, [], 0⟩] scope q1) X.env) :: starEach [] X.env)
    (hpl : (backTo pos (starEach [] X.env)).any (·.1) = false) :
    PE X (.Call (.Name "sum" p1) [.ListComp (.Call (.Name "int" p4) [.Name "one" p5] [] p6) [⟨.Name "one" p3, .Name "names" p2, [], 0⟩] scope q1] [] pos) tSm := by
  have lc := pe_lcH (te := tCB (fun xs H Q => (∃ i, xs = [.int i] ∧ Q (.int i) H) ∨ ∃ k, xs = [.bl k] ∧ Q (.int (if k then 1 else 0)) H) (tCons (tVar 2) tNil)) (pos := q1) h.hc h.nd (pe_var (i := 1) (pos := p2) (by rw [h.st]; rfl) hv) ok hg he hs
  have pe := pe_callB (call_sumH h.hc) (p := p1) (pos := pos) hgs h.ek.bs (by rfl) (pa_cons lc pa_nil h1) (by decide) (by decide) h1 hpl
  refine ⟨fun pins s σ H Q I hh => pe.run pins s σ H Q I ?_⟩
  obtain ⟨a, bs, e1, ea, hz, ls, q⟩ := hh
  show tLc (iList X.K (tVar 1)) (gName 2) tYes (tCB (fun xs H Q => (∃ i, xs = [.int i] ∧ Q (.int i) H) ∨ ∃ k, xs = [.bl k] ∧ Q (.int (if k then 1 else 0)) H) (tCons (tVar 2) tNil)) [2] σ H (fun y H1 => rSum [y] H1 Q)
  refine ⟨.ref a, e1, a, rfl, ⟨_, SqL.of ea⟩, fun D nD => ?_⟩
  have haD : a ≠ D := fun z => by rw [← z, ea] at nD; cases nD
  have eaD : ∀ x, (upd H D x) a = some (.lst (bs.map V.bl)) := fun x => by rw [upd_ne haD]; exact ea
  refine ⟨fun i m H' => i + m = bs.length ∧ H' = upd H D (.lst ((bs.take i).map fun b => V.int (isB b))), ⟨bs.length, by omega, rfl⟩, ?_⟩
  rintro i m H' ⟨him, rfl⟩
  cases m with
  | zero =>
    refine .inl ⟨⟨_, SqL.of (eaD _), by simp; omega⟩, D, bs, rfl, ?_, hz, ?_⟩
    · rw [upd_same, List.take_of_length_le (by omega)]
    · have z := q D nD
      rw [← List.take_of_length_le (l := bs) (i := i) (by omega)] at z
      rw [List.take_of_length_le (l := bs) (i := i) (by omega)] at z ⊢
      exact z
  | succ m =>
    have hi : i < bs.length := by omega
    have eb : bs[i]? = some bs[i] := List.getElem?_eq_getElem hi
    refine .inr ⟨⟨_, .bl bs[i], SqL.of (eaD _), by rw [List.getElem?_map, eb]; rfl⟩, fun H' => H' = upd H D (.lst ((bs.take (i + 1)).map fun b => V.int (isB b))), fun H' e => ⟨m, Nat.lt_succ_self m, by omega, e⟩, ?_⟩
    rintro x H' ⟨rfl, hy⟩
    have ex := hy _ (SqL.of (eaD _))
    rw [List.getElem?_map, eb] at ex
    cases ex
    have l2 : 2 < σ.length := ls
    have ew : wipe σ [2] = σ.set 2 none := rfl
    rw [ew]
    show (_ ∧ _)
    refine ⟨by show (((σ.set 2 none).set 2 (some (V.bl bs[i]))).set 2 none) = σ.set 2 none; rw [List.set_set, List.set_set], ?_⟩
    unfold tYes
    simp only [if_true]
    refine ⟨.bl bs[i], ?_, ?_⟩
    · rw [List.set_set, List.getElem?_set_self l2]
    · refine .inr ⟨bs[i], rfl, _, upd_same, ?_, ?_⟩
      · rw [List.length_map, List.length_take]
        have := sizeLine_eq
        omega
      · show upd (upd H D _) D _ = _
        rw [upd_upd]
        congr 2
        rw [List.take_add_one, eb, List.map_append]
        rfl
/-- the row of answers -/
def boolsD : List PyData → Option (List Bool)
  | [] => some []
  | .bool b :: r => (boolsD r).map (b :: ·)
  | _ :: _ => none
theorem boolsD_ok {K : PySem.W.Frag} {H : Hp} {L : Addr → Prop} : ∀ {ds : List PyData} {bs : List Bool} {xs : List V}, boolsD ds = some bs → RpAll K H L xs ds → xs = bs.map V.bl
  | [], _, _, e, .nil => by cases e; rfl
  | .bool b :: r, bs, _, e, .cons ra rt => by
    unfold boolsD at e
    cases g : boolsD r with
    | none => rw [g] at e; cases e
    | some bs' =>
      rw [g] at e
      cases e
      cases ra
      rw [boolsD_ok g rt]
      rfl
def sumD (i : Nat) : En → Hl → R Val := fun ρ h => match ρ[i]? with
  | some (some (.dat (.list ds))) => (match boolsD ds with
    | some bs => if bs.length ≤ 1000 ∧ 2 < ρ.length then .ok (.dat (.int (bs.map isB).sum)) h else .stuck
    | none => .stuck)
  | _ => .stuck
theorem ex_sum {e : Expr} (pe : PE X e tSm) : Ex X W e (sumD 1) := by
  refine ⟨_, pe, fun Z φ ρ hh σ H Q S E po => ?_⟩
  unfold sumD at po
  split at po
  · rename_i ds e
    split at po
    · rename_i bs eb
      split at po
      · rename_i hz
        obtain ⟨x, q, r⟩ := E.get 1 _ e
        cases r with
        | lst ea _ ra =>
          rw [boolsD_ok eb ra] at ea
          refine ⟨_, bs, q, ea, hz.1, by rw [← E.len]; exact hz.2, fun D nD => ?_⟩
          · exact po φ _ (stp_upd nD) (S.upd nD) _ (.int _)
      · exact po.elim
    · exact po.elim
  · exact po.elim
end
end Hx
end

section
/-! Hx, part 4: list.index; the body of the law's word for an error, its call -/
namespace Dn
open PySem PySem.Spec PyProof.Rows L2
section
variable {X : Cx} {W : WX}
def idxOf (ds : List PyData) (d : PyData) : Option Nat := if SeqAt.shaped (.list ds) = true ∧ SeqAt.shaped d = true then ds.findIdx? (fun z => PyData.eqv z d) else none
theorem idxOf_some {ds : List PyData} {d : PyData} {j : Nat} (h : idxOf ds d = some j) : SeqAt.shaped (.list ds) = true ∧ SeqAt.shaped d = true ∧ ∃ z, ds[j]? = some z ∧ PyData.eqv z d = true ∧ ∀ (m : Nat) (z' : PyData), m < j → ds[m]? = some z' → PyData.eqv z' d = false := by
  unfold idxOf at h
  split at h
  · rename_i c
    rw [List.findIdx?_eq_some_iff_getElem] at h
    obtain ⟨hj, h1, h2⟩ := h
    refine ⟨c.1, c.2, ds[j], List.getElem?_eq_getElem hj, h1, fun m z' hm e => ?_⟩
    have := h2 m hm
    obtain ⟨_, e'⟩ := List.getElem?_eq_some_iff.mp e
    rw [e'] at this
    exact Bool.eq_false_iff.mpr this
  · cases h
/-- o.index(e), o a list -/
def idxD (fo : En → Hl → R Val) (fa : En → Hl → R (List Val)) : En → Hl → R Val := fun ρ h => (fo ρ h).bind fun a h1 => match peek a h1 with
  | some (.list _) => (fa ρ h1).bind fun vs h2 => match peek a h2, peeks vs h2 with
    | some (.list ds), some [d] => (match idxOf ds d with
      | some j => .ok (.dat (.int (j : Nat))) h2
      | none => .stuck)
    | _, _ => .stuck
  | _ => .stuck
theorem ex_idx {o e : Expr} {fo : En → Hl → R Val} {fa : En → Hl → R (List Val)} {apos cpos : Pos} (hu : X.A.units + 65 < cLine) (ho : Ex X W o fo) (ha : Ax X W [e] fa) (hbase : attributeBase o "index" X.env (eval o X.env) = eval o X.env)
    (hfew : ((backTo cpos (starEach [e] X.env)).all (fun x => !x.1) && (backToKw cpos (keywordEach [] X.env)).all (fun x => x.1.isSome) && decide ([e].length + ([] : List Keyword).length + (if ([] : List Keyword).isEmpty then 0 else 1) < 30)) = true)
    (hline : (apos.endLine == cpos.line) = true) (hs : starEach [e] X.env = (false, eval e X.env) :: starEach [] X.env) (hplain : (backTo cpos (starEach [] X.env)).any (·.1) = false) : Ex X W (.Call (.Attribute o "index" apos) [e] [] cpos) (idxD fo fa) := by
  obtain ⟨t, p, s⟩ := ho
  obtain ⟨u, q, r⟩ := ha
  refine ⟨_, pe_bm PySem.F.plainAttrs_list PySem.F.slot_list_index PySem.F.type_list_index (mt_indexD hu) p q hbase hfew hline hs hplain, fun Z φ ρ h σ H Q S E po => ?_⟩
  refine s.seq S E po fun a h1 φ1 H1 x s1 S1 E1 r1 p1 => ?_
  split at p1
  · rename_i ds0 ek
    have rq := peek_ok S1 r1 ek
    obtain ⟨b, xs0, rfl, e0, _⟩ := rq.lst
    refine ⟨.inl ⟨rfl, xs0, SqL.of e0⟩, r.seq S1 E1 p1 fun vs h2 φ2 H2 ws s2 S2 E2 r2 p2 => ?_⟩
    split at p2
    · rename_i ds d ea ed
      split at p2
      · rename_i j ej
        obtain ⟨h1, h2, z, h3, h4, h5⟩ := idxOf_some ej
        have ra := (peek_ok S2 (RpV.step S1 s2 r1) ea).dp
        obtain ⟨y, rfl, ry⟩ := (peeks_ok S2 r2 ed).one
        exact ⟨b, y, d, ds, j, z, rfl, rfl, ra, ry.dp, h1, h2, h3, h4, h5, p2 φ2 H2 Stp.refl S2 _ (.int _)⟩
      · exact p2.elim
    · exact p2.elim
  · exact p1.elim
end
end Dn
namespace Hx
open PySem PySem.Spec PyProof.Rows L2 HotX L2H Dn
def errWord (j : Nat) : Str := errWords.getD j "odd"
def Grow (H H' : Hp) : Prop := ∀ a o, H a = some o → H' a = some o
def rowB (j : Nat) : List Bool := [decide (j = 0), decide (j = 1), decide (j = 2), decide (j = 3), decide (j = 4)]
/-- names = [isinstance(e, ..), ..] -/
def tNm (a : Addr) (j : Nat) : TS := fun D σ H => σ[0]? = some (some (.ref a)) ∧ ∀ q, H q = none → D.nx (σ.set 1 (some (.ref q))) (upd H q (.lst ((rowB j).map V.bl)))
section
variable {X : Cx} {W : WX} {p : Addr × Obj} {B : Addr} {cs : List Addr} {j : Nat} {C : Addr}
theorem Hot.nm (h : Hot X p B cs j C) {e0 e1 e2 e3 e4 : Expr} {q1 q2 pos : Pos} (pa : PA X [e0, e1, e2, e3, e4] (tCons (tB p.1 0 j) (tCons (tB p.1 1 j) (tCons (tB p.1 2 j) (tCons (tB p.1 3 j) (tCons (tB p.1 4 j) tNil))))))
    (hx : Loc X.env.scope "names") (hs : swapsWith (.List [e0, e1, e2, e3, e4] q2) (some (.Name "names" q1)) pos.line X.env = pure false) (hf : X.fn "names" = true ∨ X.env.scope.names.lookup ("names" : Str) = some .local) :
    PS X (.Assign [.Name "names" q1] (.List [e0, e1, e2, e3, e4] q2) pos) (tNm p.1 j) := by
  have ps := ps_set (i := 1) h.nd (by rw [h.st]; rfl) hx (pe_lst (pos := q2) pa) hs hf
  refine ⟨fun pins s σ H D I hh => ps.run pins s σ H D I ?_⟩
  obtain ⟨e, q⟩ := hh
  exact ⟨e, e, e, e, e, by show 5 ≤ sizeLine; rw [sizeLine_eq]; omega, q⟩
theorem sim0 {K : PySem.W.Frag} {φ : Nat → Addr} {H : Hp} : SimH K (fun _ => False) φ [] H :=
  ⟨fun i j h => absurd h (Nat.not_lt_zero _), fun i h => absurd h (Nat.not_lt_zero _), fun i o e => (nomatch e), fun a z => z.elim, fun i h => absurd h (Nat.not_lt_zero _)⟩
theorem bools_rp {K : PySem.W.Frag} {H : Hp} {L : Addr → Prop} : ∀ bs : List Bool, RpAll K H L (bs.map V.bl) (bs.map PyData.bool)
  | [] => .nil
  | b :: r => .cons (.bl b) (bools_rp r)
theorem Hot.body (h : Hot X p B cs j C) {st1 : Stmt} {rest : List Stmt} {f : En → Hl → SR} (hn : PS X st1 (tNm p.1 j)) (hr : Sxs X W rest f)
    (hf : f [none, some (.dat (.list ((rowB j).map PyData.bool))), none] [] = .ret (.dat (.str (errWord j))) []) :
    ∃ t, PSs X (st1 :: rest) t ∧ ∀ (D : Ends) (H : Hp), (∀ H', Grow H H' → D.rt (.str (errWord j)) H') → t D [some (.ref p.1), none, none] H := by
  obtain ⟨t, pt, sn⟩ := hr
  refine ⟨_, pss_cons hn pt, fun D H q => ⟨rfl, fun a na => ?_⟩⟩
  refine sn (fun _ => False) (fun _ => 0) [none, some (.dat (.list ((rowB j).map PyData.bool))), none] [] _ _ _ sim0 ⟨rfl, fun i v e => ?_⟩ ?_
  · have nl : ¬ live (fun _ => False) (fun _ => 0) [] a := fun z => z.elim (fun ⟨i, o, e, _⟩ => (nomatch e)) fun z => z
    rcases i with _ | _ | _ | i
    · cases e
    · cases e; exact ⟨.ref a, rfl, .lst upd_same nl (bools_rp _)⟩
    · cases e
    · cases e
  · rw [hf]
    intro φ' H' x st S' r
    cases r
    refine q H' fun b o e => ?_
    refine st.keep b o ?_ (fun i u e => by cases e)
    rw [upd_ne (fun z => by rw [z, na] at e; cases e)]
    exact e
end

/-! ### the def -/
structure ErrFn (P : Program) (w : World) (K : PySem.W.Frag) (mg : Str → Option Value) (base : Heap) (cs : List Addr) (f : Addr) (fd : FuncData) (ps : List Str) : Prop where
  one : ps.length = 1
  run : ∀ (A : Around) (outer : List Env) (s : Shared) (H : Hp) (args : Args) (us : List Value) (Q : VK) (E : XK) (p : Addr × Obj) (j : Nat) (C : Addr), RoomH 0 A → Hot1 A p → PinOk outer H s p → Env0 P w K mg base A outer s H → BindsTo s fd args (ps.zip us) → us = [.ref p.1] →
    cs[j]? = some C → L2N.Zn (.ref C) none p.2 → (∀ H', Grow H H' → Q (.str (errWord j)) H') → codeAny (model P w) A (.call (.ref f) args) (CR (L2N.CX P w) outer P w H s Q E) s
theorem errfn_of {P : Program} {w : World} {K : PySem.W.Frag} {mg : Str → Option Value} {base : Heap} {B : Addr} {cs : List Addr} {f : Addr} {name qual : Str} {params : Arguments} {body : List Stmt} {scope : Scope} {dV kV doc pm cdv ct oc : Value} {an od : Option Addr}
    {osl : Array (Option Value)} {N ps : List Str} (lk : K.lookup f = some ⟨oc, od, .func (PySem.W.fnOf name qual params body scope dV kV doc pm an cdv ct), osl⟩) (hcd : PySem.W.codeIn K cdv qual = true) (S : FnScope N ps scope) (hN : N = ([("e" : Str), ("names" : Str), ("one" : Str)] : List Str)) (hps : ps = [("e" : Str)])
    (ek : ExcK K mg B cs)
    (hbody : ∀ (A : Around) (outer : List Env) (s : Shared) (H : Hp) (E : XK) (p : Addr × Obj) (j : Nat) (C : Addr), Hot (cxH (L2N.CX P w) P w K mg base N qual scope f cdv A outer s H E p) p B cs j C →
      ∃ t, PSs (cxH (L2N.CX P w) P w K mg base N qual scope f cdv A outer s H E p) body t ∧ ∀ (D : Ends) (H : Hp), (∀ H', Grow H H' → D.rt (.str (errWord j)) H') → t D [some (.ref p.1), none, none] H) :
    ErrFn P w K mg base cs f (PySem.W.fnOf name qual params body scope dV kV doc pm an cdv ct) ps := by
  refine ⟨by rw [hps]; rfl, fun A outer s H args us Q E p j C hr hot hpin e0 hb eu hC hz hq => ?_⟩
  have KX : K.In s.heap := e0.mod.kin.keeps fun b o e => (e0.bs b o e).1
  have lim : s.heap.NoLimit := e0.mod.nolimit.keeps fun b o e => (e0.bs b o e).1
  have hkind : ∀ y ∈ ps.zip us, scope.names.lookup y.1 = some .local ∨ (scope.names.lookup y.1 = some .cell ∧ ((cellsFrom (s.heap.objs.size + 1) scope.names []).lookup y.1).isSome = true) := fun ⟨n, v⟩ hy => by
    rcases S.par n (List.of_mem_zip hy).1 with q | q
    · exact .inl q
    · exact .inr ⟨q, PySem.W.cellsFrom_some _ _ _ (.inl q)⟩
  refine codeAny_call_function hr.depth (KX _ _ lk) rfl S.co S.gen rfl (PySem.W.codeRec_of KX hcd) (hb _ _ _ _ ?_)
  refine wpAny_newFunctionEnv_cells S.kind hkind fun env he s1 x => ?_
  subst he
  refine ⟨lim.keeps x.toInCall.keep, codeAny_func ?_⟩
  have hH : Hot (cxH (L2N.CX P w) P w K mg base N qual scope f cdv A outer s H E p) p B cs j C :=
    ⟨hot, List.mem_singleton_self _, hz, ek, hC, S.nd, by have := hr.un; show A.units + 3 + 65 < cLine; omega, hN⟩
  obtain ⟨t, ht, htq⟩ := hbody A outer s H E p j C hH
  subst eu
  have I : Inv (cxH (L2N.CX P w) P w K mg base N qual scope f cdv A outer s H E p) [] (L2.start N [.ref p.1]) H s1 := inv_startH S hpin e0 (by rw [hps]; rfl) (.cons rfl .nil) x
  have todo : t { nx := fun _ H' => Q .non H', rt := Q } (L2.start N [.ref p.1]) H := by
    have e : L2.start N [V.ref p.1] = [some (.ref p.1), none, none] := by rw [hN]; rfl
    rw [e]
    exact htq _ H hq
  refine wpAny_mono (ht.run [] s1 _ H _ I todo) (fun fl s' hs => ?_) fun e s' hs => hs
  have fin : ∀ {σ' : St} {H' : Hp} {v : V} {u : Value}, Inv (cxH (L2N.CX P w) P w K mg base N qual scope f cdv A outer s H E p) [] σ' H' s' → RelV v u → Q v H' → CE outer P w H s Q u s' :=
    fun {σ' H' v u} J rv q => ⟨v, H', J.os, J.bare, J.base, J.hok, rv, q⟩
  cases fl with
  | ret u =>
    obtain ⟨v, σ', H', J, rv, q⟩ := hs
    exact fin J rv q
  | next =>
    obtain ⟨σ', H', J, q⟩ := hs
    exact fin (v := V.non) (u := Value.none) J rfl q
  | brk =>
    obtain ⟨_, _, _, q⟩ := hs
    exact False.elim q
  | cont =>
    obtain ⟨_, _, _, q⟩ := hs
    exact False.elim q

/-! ### what the top has of errors -/
structure ErrAt (P : Program) (w : World) (K : PySem.W.Frag) (mg : Str → Option Value) (base : Heap) (B : Addr) (cs : List Addr) : Prop where
  ek : ExcK K mg B cs
  fn : ∃ (fa : Addr) (fd : FuncData) (ps : List Str), ErrFn P w K mg base cs fa fd ps ∧ mg "_law_error" = some (.ref fa) ∧ PySem.W.keepIn K (.ref fa) = true ∧ Binds K fd ps []
section
variable {X : Cx} {W : WX} {B : Addr} {cs : List Addr}
/-- what 'return _law_error(e)' does in the suite -/
def tEr (cs : List Addr) (i : Nat) (a : Addr) (cls : Value) (d : Option Addr) : TE := fun σ H Q => σ[i]? = some (some (.ref a)) ∧ ∃ (j : Nat) (C : Addr), cs[j]? = some C ∧ cls = .ref C ∧ d = none ∧ ∀ H', Grow H H' → Q (.str (errWord j)) H'
theorem pe_err (T : ErrAt X.prog X.w X.K X.mg X.base B cs) (hr : RoomH 0 X.A) {i : Nat} {n : Str} {a : Addr} {oe : Obj} {cls : Value} {d : Option Addr} {pn : List (Addr × Obj)} {q1 q2 pos : Pos} (hz : L2N.Zn cls d oe) (hf : ∃ vs, oe.data = .fields vs) (hN : X.N[i]? = some n) (hv : Vis X.env.scope n)
    (hnd : (n == ("__debug__" : Str)) = false) (hnc : (n == ("__classdict__" : Str)) = false) (hg : Gl X "_law_error") (he : starEach [Expr.Name n q2] X.env = (false, eval (Expr.Name n q2) X.env) :: starEach [] X.env) (hpl : (backTo pos (starEach [] X.env)).any (·.1) = false) :
    PE (X.suite a ((a, oe) :: pn)) (.Call (.Name "_law_error" q1) [.Name n q2] [] pos) (tEr cs i a cls d) := by
  obtain ⟨fa, fd, ps, F, hm, hk, hb⟩ := T.fn
  refine ⟨fun pins s σ H Q I h => ?_⟩
  obtain ⟨es, j, C, hC, rfl, rfl, q⟩ := h
  have pa : PA (X.suite a ((a, oe) :: pn)) [.Name n q2] (tCons (tVar i) tNil) := pa_cons (pe_var hN hv hnd hnc) pa_nil he
  refine wpAny_Call_Name_kw (ld_glob I hg hm ?_ (by decide))
  refine PySem.W.callWith_K (h₀ := X.base) I.ok.mod.kin hk (thn (pa.run pos pins s σ H (fun vs H1 => vs = [V.ref a] ∧ H1 = H) I ⟨_, es, rfl, rfl⟩) fun us s1 ⟨vs, H1, I1, r, ev, eH⟩ => ⟨I1.kIn, ?_⟩) he hpl
  subst ev eH
  have eu : us = [.ref a] := by
    cases r with
    | cons r1 r2 => cases r1; cases r2; rfl
  have b := hb s1 us I1.kIn (by rw [eu, List.append_nil]; exact F.one.symm)
  rw [List.append_nil] at b
  have hp : (a, oe) ∈ (a, oe) :: pn := List.mem_cons_self
  have P1 := I1.pin (a, oe) (List.mem_append_left _ hp)
  have hpin : PinOk (X.suite a ((a, oe) :: pn)).stack H1 s1 (a, oe) := ⟨P1.1, P1.2.1, fun hm => (List.mem_cons.mp (I1.stkSub a hm)).elim P1.2.2.1 P1.2.2.2.1, P1.2.2.2.2⟩
  have hot : Hot1 (X.suite a ((a, oe) :: pn)).A (a, oe) := by
    obtain ⟨vs, e⟩ := hf
    exact ⟨rfl, vs, e, hz.2.2 vs e⟩
  refine wpAny_call (codeAny_mono (F.run (X.suite a ((a, oe) :: pn)).A _ s1 H1 ⟨us, []⟩ us Q (fun _ _ _ => False) (a, oe) j C ⟨hr.dp, hr.un⟩ hot hpin I1.env0 b eu hC hz q) fun r s' hq => ?_)
  cases r with
  | error e =>
    exact L2N.passAt (W := fun _ _ _ _ => False) (X := X.suite a ((a, oe) :: pn)) (fun u s' ⟨_, _, _, _, _, _, _, _, _, _, _, _, _, _, _, _, z⟩ => z.elim) σ pins H1 s1 e s' I1 hq
  | ok fl =>
    cases fl with
    | ret u => exact I1.after hq
    | next => exact False.elim hq
    | brk => exact False.elim hq
    | cont => exact False.elim hq
end
end Hx
end

section
/-! Hx, part 5: raise, try with the law's word for the error -/
namespace Dn
open PySem PySem.Spec PyProof.Rows L2 Hx
def errIx (x : Str) : Option Nat := errNames.findIdx? (· == x)
theorem errIx_some {x : Str} {j : Nat} (h : errIx x = some j) : errNames[j]? = some x := by
  unfold errIx at h
  rw [List.findIdx?_eq_some_iff_getElem] at h
  obtain ⟨hj, h1, _⟩ := h
  rw [List.getElem?_eq_getElem hj]
  exact congrArg some (by simpa using h1)
def raiseS (x : Str) : En → Hl → SR := fun ρ h => .exc ⟨x⟩ ρ h
def tryErr (i : Nat) (f : En → Hl → SR) : En → Hl → SR := fun ρ h => match f ρ h with
  | .exc e ρ' h' => (match errIx e.cls with
    | some j => if i < ρ'.length then .ret (.dat (.str (errWord j))) h' else .stuck
    | none => .stuck)
  | r => r
section
variable {X : Cx} {W : WX} {B : Addr} {cs : List Addr}
theorem sx_raise {x m : Str} {C : Addr} {j : Nat} {p p2 pos' pos : Pos} (hc : X.calm = true) (tk : L2N.Takes X W) (c : ClsK X.K X.mg B x C) (hg : Gl X x) (hdb : (x == ("__debug__" : Str)) = false) (hb : x ≠ "BadForm") : Sx X W (.Raise (some (.Call (.Name x p) [.Constant (.str m) j p2] [] pos')) none pos) (raiseS x) :=
  ⟨_, L2N.ps_raise hc tk (L2N.pmk_own PySem.F.excBase_ValueError (c.ex hb) c.g c.kp (raises_own c.sub c.ty) hg hdb), fun Z φ ρ h σ H D S E po => po φ σ H _ _ Stp.refl S E ⟨C, c.g, rfl, rfl⟩⟩
/-- a statement's reading by what it says -/
def canS (K : PySem.W.Frag) (mg : Str → Option Value) (f : En → Hl → SR) (W : WX) : TS := fun D σ H => ∃ (Z : Addr → Prop) (φ : Nat → Addr) (ρ : En) (h : Hl), SimH K Z φ h H ∧ SimE K Z φ h H ρ σ ∧ PostS K mg W Z φ h H (f ρ h) D
theorem can_of {b : List Stmt} {f : En → Hl → SR} (h : Sxs X W b f) : PSs X b (canS X.K X.mg f W) := by
  obtain ⟨t, ht, sn⟩ := h
  exact ⟨fun pins s σ H D I ⟨Z, φ, ρ, h, S, E, po⟩ => ht.run pins s σ H D I (sn Z φ ρ h σ H D S E po)⟩
theorem grow_step {K : PySem.W.Frag} {Z : Addr → Prop} {φ : Nat → Addr} {h : Hl} {H H' : Hp} (S : SimH K Z φ h H) (g : Grow H H') : Stp φ Z h H φ h H' ∧ SimH K Z φ h H' := by
  have st : Stp φ Z h H φ h H' := ⟨Nat.le_refl _, fun _ _ => rfl, fun _ e => e, fun a o e _ => g a o e, fun j p q => absurd (Nat.lt_of_lt_of_le q p) (Nat.lt_irrefl _), fun a o e => ⟨o, g a o e⟩⟩
  refine ⟨st, S.inj, fun i hi => ?_, fun i o e => ?_, fun a z => ?_, S.zno⟩
  · obtain ⟨o, e, m⟩ := S.trk i hi
    exact ⟨o, g _ _ e, m⟩
  · obtain ⟨xs, q, r⟩ := S.obj i _ e
    exact ⟨xs, g _ _ q, r.map fun _ _ => RpAll.step S st⟩
  · obtain ⟨o, e, m⟩ := S.ztr a z
    exact ⟨o, g _ _ e, m⟩
theorem sx_try {n : Str} {i : Nat} {body : List Stmt} {f : En → Hl → SR} {np q1 q2 q3 q4 pos pos' : Pos} (T : ErrAt X.prog X.w X.K X.mg X.base B cs) (hr : L2H.RoomH 0 X.A) (hs : X.stack = X.env :: X.outer) (hf : X.env.frame = some X.env.locals) (nd : X.N.Nodup) (tk : L2N.Takes X W)
    (hb : ∀ (W' : WX) (pn : List (Addr × Obj)) (xe : Value → Shared → Prop), L2N.Takes (X.tr pn xe) W' → PassesOwn (model X.prog X.w) X.A X.env xe → Sxs (X.tr pn xe) W' body f)
    (hi : X.N[i]? = some n) (hln : X.env.kindOf n = some .local) (hB : Gl X "BeastError") (hv : Vis X.env.scope n) (hnd : (n == ("__debug__" : Str)) = false) (hnc : (n == ("__classdict__" : Str)) = false) (hg : Gl X "_law_error")
    (he : starEach [Expr.Name n q2] X.env = (false, eval (Expr.Name n q2) X.env) :: starEach [] X.env) (hpl : (backTo q3 (starEach [] X.env)).any (·.1) = false) :
    Sx X W (.Try body [.ExceptHandler (some (.Name "BeastError" np)) (some n) [.Return (some (.Call (.Name "_law_error" q1) [.Name n q2] [] q3)) q4] pos'] [] [] pos) (tryErr i f) := by
  refine ⟨_, L2N.ps_try_as (c := .ref B) (tb := fun W' => canS X.K X.mg f W') (ts := fun a cls d => tSeq (tRet (tEr cs i a cls d)) tNext) hs hf nd hi hln ⟨hB, by decide, .inl T.ek.gB⟩ tk (fun W' pn xe t po => can_of (hb W' pn xe t po)) (fun a oe cls d pn hz hd => pss_cons (ps_ret (pe_err T hr hz hd hi hv hnd hnc hg he hpl)) pss_nil), ?_⟩
  intro Z φ ρ h σ H D S E po
  refine ⟨Z, φ, ρ, h, S, E, ?_⟩
  unfold tryErr at po
  cases er : f ρ h with
  | stuck => rw [er] at po; exact po
  | next ρ' h' => rw [er] at po; exact po
  | ret v h' => rw [er] at po; exact po
  | brk ρ' h' => rw [er] at po; exact po
  | cont ρ' h' => rw [er] at po; exact po
  | exc e ρ' h' =>
    rw [er] at po
    dsimp only at po
    split at po
    · rename_i j ej
      split at po
      · rename_i hl
        intro φ' σ' H' c d st S' E' x
        obtain ⟨C, g, rfl, rfl⟩ := x
        have hn := errIx_some ej
        have lj : j < cs.length := by rw [T.ek.len]; exact lt_of_getS hn
        have eC : cs[j]? = some cs[j] := List.getElem?_eq_getElem lj
        have c := T.ek.at_ j _ _ hn eC
        have e2 : C = cs[j] := by
          have z := g.symm.trans c.g
          cases z
          rfl
        refine ⟨true, by rw [e2]; exact c.em, fun _ a na => ?_, fun z => by cases z⟩
        refine ⟨?_, j, C, by rw [e2]; exact eC, rfl, rfl, fun H'' gr => ?_⟩
        · exact List.getElem?_set_self (by rw [← E'.len]; exact hl)
        · obtain ⟨st2, S2⟩ := grow_step S' gr
          exact po φ' H'' _ (st.trans st2) S2 (.str _)
      · exact po.elim
    · exact po.elim
end
end Dn
end

section
/-! Hx, part 6: try with a question ahead of the law's word: if not isinstance(e, ValueError): return "odd" -/
namespace Dn
open PySem PySem.Spec PyProof.Rows L2 Hx
section
variable {X : Cx} {W : WX} {B : Addr} {cs : List Addr}
/-- isinstance(e, ValueError) in the suite -/
def tIsV (cs : List Addr) (i : Nat) (a : Addr) (cls : Value) (d : Option Addr) : TE := fun σ H Q => σ[i]? = some (some (.ref a)) ∧ ∃ (j : Nat) (C : Addr), cs[j]? = some C ∧ cls = .ref C ∧ d = none ∧ Q (.bl true) H
theorem pe_isV (T : ErrAt X.prog X.w X.K X.mg X.base B cs) {i : Nat} {n : Str} {a : Addr} {oe : Obj} {cls : Value} {d : Option Addr} {pn : List (Addr × Obj)} {q1 q2 q3 pos : Pos} (hz : L2N.Zn cls d oe) (hf : ∃ vs, oe.data = .fields vs) (hN : X.N[i]? = some n) (hv : Vis X.env.scope n)
    (hnd : (n == ("__debug__" : Str)) = false) (hnc : (n == ("__classdict__" : Str)) = false) (hg : Gl X "isinstance") (hgv : Gl X "ValueError")
    (h1 : starEach [Expr.Name n q2, Expr.Name "ValueError" q3] X.env = (false, eval (Expr.Name n q2) X.env) :: starEach [Expr.Name "ValueError" q3] X.env) (h2 : starEach [Expr.Name "ValueError" q3] X.env = (false, eval (Expr.Name "ValueError" q3) X.env) :: starEach [] X.env)
    (hpl : (backTo pos (starEach [Expr.Name "ValueError" q3] X.env)).any (·.1) = false) :
    PE (X.suite a ((a, oe) :: pn)) (.Call (.Name "isinstance" q1) [.Name n q2, .Name "ValueError" q3] [] pos) (tIsV cs i a cls d) := by
  refine ⟨fun pins s σ H Q I h => ?_⟩
  obtain ⟨es, j, C, hC, rfl, rfl, q⟩ := h
  have lj : j < 5 := by have := lt_of_getS hC; rw [T.ek.len] at this; exact this
  have hx : ∃ x, errNames[j]? = some x := ⟨_, List.getElem?_eq_getElem (show j < errNames.length from lj)⟩
  obtain ⟨x, hx⟩ := hx
  have c := T.ek.at_ j x C hx hC
  have pa : PA (X.suite a ((a, oe) :: pn)) [.Name n q2, .Name "ValueError" q3] (tCons (tVar i) (tCons (tC (.ty "ValueError")) tNil)) := pa_cons (pe_var hN hv hnd hnc) (pa_cons (pe_bltn (v := .ty "ValueError") hgv T.ek.bv rfl rfl (by decide) (by decide)) pa_nil h2) h1
  have pe := pe_callB (p := q1) (pos := pos) (call_isE (X := X) (pn := pn) c.ec hz.zc hf) hg T.ek.bi rfl pa (by decide) (by decide) h1 hpl
  exact pe.run pins s σ H Q I ⟨_, es, .ty "ValueError", _, true, rfl, fun u r => r, c.kv, q⟩
theorem sx_tryV {n : Str} {i : Nat} {body : List Stmt} {f : En → Hl → SR} {np q1 q2 q3 q4 r1 r2 r3 r4 r5 r6 r7 r8 pos pos' : Pos} {sj : Nat} (T : ErrAt X.prog X.w X.K X.mg X.base B cs) (hr : L2H.RoomH 0 X.A) (hs : X.stack = X.env :: X.outer) (hf : X.env.frame = some X.env.locals) (nd : X.N.Nodup) (tk : L2N.Takes X W)
    (hb : ∀ (W' : WX) (pn : List (Addr × Obj)) (xe : Value → Shared → Prop), L2N.Takes (X.tr pn xe) W' → PassesOwn (model X.prog X.w) X.A X.env xe → Sxs (X.tr pn xe) W' body f)
    (hi : X.N[i]? = some n) (hln : X.env.kindOf n = some .local) (hB : Gl X "BeastError") (hv : Vis X.env.scope n) (hnd : (n == ("__debug__" : Str)) = false) (hnc : (n == ("__classdict__" : Str)) = false) (hg : Gl X "_law_error") (hgi : Gl X "isinstance") (hgv : Gl X "ValueError")
    (he : starEach [Expr.Name n q2] X.env = (false, eval (Expr.Name n q2) X.env) :: starEach [] X.env) (hpl : (backTo q3 (starEach [] X.env)).any (·.1) = false)
    (h1 : starEach [Expr.Name n r2, Expr.Name "ValueError" r3] X.env = (false, eval (Expr.Name n r2) X.env) :: starEach [Expr.Name "ValueError" r3] X.env) (h2 : starEach [Expr.Name "ValueError" r3] X.env = (false, eval (Expr.Name "ValueError" r3) X.env) :: starEach [] X.env)
    (hp2 : (backTo r4 (starEach [Expr.Name "ValueError" r3] X.env)).any (·.1) = false) :
    Sx X W (.Try body [.ExceptHandler (some (.Name "BeastError" np)) (some n) [.If (.UnaryOp .Not (.Call (.Name "isinstance" r1) [.Name n r2, .Name "ValueError" r3] [] r4) r5) [.Return (some (.Constant (.str "odd") sj r6)) r7] [] r8, .Return (some (.Call (.Name "_law_error" q1) [.Name n q2] [] q3)) q4] pos'] [] [] pos) (tryErr i f) := by
  refine ⟨_, L2N.ps_try_as (c := .ref B) (tb := fun W' => canS X.K X.mg f W') (ts := fun a cls d => tSeq (tIfS (tNot (tB (tIsV cs i a cls d))) (tSeq (tRet (tC (.str "odd"))) tNext) tNext) (tSeq (tRet (tEr cs i a cls d)) tNext)) hs hf nd hi hln ⟨hB, by decide, .inl T.ek.gB⟩ tk (fun W' pn xe t po => can_of (hb W' pn xe t po))
    (fun a oe cls d pn hz hd => pss_cons (ps_if (pt_not (pt_val (pe_isV T hz hd hi hv hnd hnc hgi hgv h1 h2 hp2))) (pss_cons (ps_ret pe_str) pss_nil) pss_nil) (pss_cons (ps_ret (pe_err T hr hz hd hi hv hnd hnc hg he hpl)) pss_nil)), ?_⟩
  intro Z φ ρ h σ H D S E po
  refine ⟨Z, φ, ρ, h, S, E, ?_⟩
  unfold tryErr at po
  cases er : f ρ h with
  | stuck => rw [er] at po; exact po
  | next ρ' h' => rw [er] at po; exact po
  | ret v h' => rw [er] at po; exact po
  | brk ρ' h' => rw [er] at po; exact po
  | cont ρ' h' => rw [er] at po; exact po
  | exc e ρ' h' =>
    rw [er] at po
    dsimp only at po
    split at po
    · rename_i j ej
      split at po
      · rename_i hl
        intro φ' σ' H' c d st S' E' x
        obtain ⟨C, g, rfl, rfl⟩ := x
        have hn := errIx_some ej
        have lj : j < cs.length := by rw [T.ek.len]; exact lt_of_getS hn
        have eC : cs[j]? = some cs[j] := List.getElem?_eq_getElem lj
        have c := T.ek.at_ j _ _ hn eC
        have e2 : C = cs[j] := by
          have z := g.symm.trans c.g
          cases z
          rfl
        refine ⟨true, by rw [e2]; exact c.em, fun _ a na => ?_, fun z => by cases z⟩
        have ga : (σ'.set i (some (V.ref a)))[i]? = some (some (V.ref a)) := List.getElem?_set_self (by rw [← E'.len]; exact hl)
        refine ⟨ga, j, C, by rw [e2]; exact eC, rfl, rfl, true, rfl, ?_⟩
        show tSeq (tRet (tEr cs i a (.ref C) none)) tNext _ _ _
        refine ⟨ga, j, C, by rw [e2]; exact eC, rfl, rfl, fun H'' gr => ?_⟩
        obtain ⟨st2, S2⟩ := grow_step S' gr
        exact po φ' H'' _ (st.trans st2) S2 (.str _)
      · exact po.elim
    · exact po.elim
end
end Dn
end

section
/-! Dn, part 8: functions -/
namespace Dn
open PySem PySem.Spec PyProof.Rows L2

/-- a call's promise, where no repr is under way -/
structure FnG (P : Program) (w : World) (K : PySem.W.Frag) (mg : Str → Option Value) (base : Heap) (k : Nat) (f : Addr) (fd : FuncData) (ps : List Str) (sp : Sp) : Prop where
  len : ∀ xs H Q E, sp xs H Q E → xs.length = ps.length
  run : ∀ (A : Around) (out : List Env) (s0 : Shared) (H : Hp) (ag : Args) (us : List Value) (xs : List V) (Q : VK) (E : XK), Room k A → A.guards = some [] →
    Env0 P w K mg base A out s0 H → BindsTo s0 fd ag (ps.zip us) → Vals xs us → sp xs H Q E → codeAny (model P w) A (.call (.ref f) ag) (CR (L2N.CX P w) out P w H s0 Q E) s0

def spL (K : PySem.W.Frag) (mg : Str → Option Value) (np : Nat) (D : LFn) : Sp := fun xs H Q E => xs.length = np ∧ ∃ (Z : Addr → Prop) (φ : Nat → Addr) (vs : List Val) (h : Hl), SimH K Z φ h H ∧ RpVs K Z φ h H xs vs ∧
  PostR K mg (fun c d H' => E c d H') Z φ h H (D vs h) (fun φ' h' H' v => ∀ x, RpV K Z φ' h' H' x v → Q x H')

/-- what is told at a call's end: the younger own lists are given up, one that is told is data -/
def cutR (n : Nat) : SR → R Val
  | .ret (.ref i) h => if i < n then .ok (.ref i) (h.take n) else
      (match h[i]? with
      | some (some (.lst ds)) => .ok (.dat (.list ds)) (h.take n)
      | _ => .stuck)
  | .ret v h => .ok v (h.take n)
  | .next _ h => .ok (.dat .none) (h.take n)
  | .exc e _ h => .exc e (h.take n)
  | _ => .stuck
def fnD (np nv : Nat) (body : En → Hl → SR) : LFn := fun vs h => if vs.length = np then cutR h.length (body (vs.map some ++ List.replicate (nv - np) none) h) else .stuck

section
variable {K : PySem.W.Frag} {mg : Str → Option Value} {Z : Addr → Prop} {φ : Nat → Addr} {h : Hl} {H : Hp}
theorem sime_start {N : List Str} {xs : List V} {vs : List Val} (r : RpVs K Z φ h H xs vs) : SimE K Z φ h H (vs.map some ++ List.replicate (N.length - vs.length) none) (L2.start N xs) := by
  have hl := r.length
  unfold L2.start
  rw [hl]
  refine ⟨by simp [hl], fun i v e => ?_⟩
  clear hl
  revert xs vs i
  intro xs vs r
  generalize N.length - vs.length = m
  induction r with
  | nil =>
    intro i e
    rw [List.map_nil, List.nil_append, List.getElem?_replicate] at e
    split at e <;> cases e
  | cons ra rs ih =>
    intro i e
    cases i with
    | zero => cases e; exact ⟨_, rfl, ra⟩
    | succ i => exact ih i e

theorem not_live_young {i n : Nat} (S : SimH K Z φ h H) (hi : i < h.length) (hn : n ≤ i) : ¬ live Z φ (h.take n) (φ i) := by
  rintro (⟨j, o, ej, q⟩ | z)
  · have hj := lt_of_getS ej
    rw [List.length_take] at hj
    have := S.inj j i (by omega) hi q
    omega
  · exact S.zno i hi z

/-- the end of a body -/
theorem cut_ends {r : SR} {Q : VK} {E : XK} (S : SimH K Z φ h H) (p : PostR K mg (fun c d H' => E c d H') Z φ h H (cutR h.length r) (fun φ' h' H' v => ∀ x, RpV K Z φ' h' H' x v → Q x H')) :
    PostS K mg (fun c d _ H' => E c d H') Z φ h H r { nx := fun _ H' => Q .non H', rt := Q } := by
  cases r with
  | stuck => exact p
  | brk ρ' h' => exact p.elim
  | cont ρ' h' => exact p.elim
  | next ρ' h' =>
    intro φ' σ' H' st S' E'
    obtain ⟨st2, S2, ll⟩ := cut rfl st S'
    exact p φ' H' st2 S2 _ .non
  | exc e ρ' h' =>
    intro φ' σ' H' c d st S' E' x
    obtain ⟨st2, S2, ll⟩ := cut rfl st S'
    exact p φ' H' c d st2 S2 x
  | ret v h' =>
    intro φ' H' x st S' rx
    obtain ⟨st2, S2, ll⟩ := cut rfl st S'
    cases v with
    | dat d => exact p φ' H' st2 S2 _ (Rp.less ll rx)
    | scr ns => exact p φ' H' st2 S2 _ rx
    | ref i =>
      obtain ⟨hi, rfl⟩ := rx
      by_cases q : i < h.length
      · simp only [cutR, if_pos q] at p
        exact p φ' H' st2 S2 _ ⟨by rw [List.length_take]; exact Nat.lt_min.mpr ⟨q, hi⟩, rfl⟩
      · simp only [cutR, if_neg q] at p
        split at p
        · rename_i ds g
          obtain ⟨xs, e, ra⟩ := S'.ol g
          exact p φ' H' st2 S2 _ (Rp.lst e (not_live_young S' hi (Nat.le_of_not_lt q)) (ra.less ll))
        · exact p.elim
end

/-! ### a def, by its body -/
theorem fn_den {P : Program} {w : World} {K : PySem.W.Frag} {mg : Str → Option Value} {base : Heap} {k : Nat} {f : Addr} {nm qual : Str} {params : Arguments} {body : List Stmt} {sc : Scope} {dV kV doc pm cdv ct oc : Value} {an od : Option Addr}
    {sl0 : Array (Option Value)} {N ps : List Str} {B : En → Hl → SR} (lk : K.lookup f = some ⟨oc, od, .func (PySem.W.fnOf nm qual params body sc dV kV doc pm an cdv ct), sl0⟩) (hc : PySem.W.codeIn K cdv qual = true) (S : FnScope N ps sc)
    (hB : ∀ (A : Around) (out : List Env) (s0 : Shared) (H : Hp) (E : XK), Room k (A.deeper (envOfC qual sc s0.heap.objs.size f cdv)) → A.guards = some [] →
      Sxs (cxOf (L2N.CX P w) P w K mg base N qual sc f cdv A out s0 H E) (fun c d _ H' => E c d H') body B) :
    FnG P w K mg base (k + 1) f (PySem.W.fnOf nm qual params body sc dV kV doc pm an cdv ct) ps (spL K mg ps.length (fnD ps.length N.length B)) := by
  refine ⟨fun _ _ _ _ q => q.1, fun A out s0 H ag us xs Q E hr gd en hb r q => ?_⟩
  have KS : K.In s0.heap := e0_in en
  have nolim : s0.heap.NoLimit := en.mod.nolimit.keeps fun b o z => (en.bs b o z).1
  have kinds : ∀ y ∈ ps.zip us, sc.names.lookup y.1 = some .local ∨ (sc.names.lookup y.1 = some .cell ∧ ((cellsFrom (s0.heap.objs.size + 1) sc.names []).lookup y.1).isSome = true) := by
    rintro ⟨n, v⟩ hy
    have hy' : n ∈ ps := (List.of_mem_zip hy).1
    rcases S.par n hy' with z | z
    · left; exact z
    · right; exact ⟨z, PySem.W.cellsFrom_some _ _ _ (.inl z)⟩
  apply codeAny_call_function hr.depth (KS _ _ lk) rfl S.co S.gen rfl (PySem.W.codeRec_of KS hc)
  apply hb
  apply wpAny_newFunctionEnv_cells S.kind kinds
  intro env he s1 x
  subst he
  refine ⟨nolim.keeps x.toInCall.keep, ?_⟩
  apply codeAny_func
  have hl : xs.length = ps.length := q.1
  obtain ⟨_, Z, φ, vs, h, SH, rv, po⟩ := q
  have hlv : vs.length = ps.length := by rw [← rv.length]; exact hl
  obtain ⟨t, ht, sn⟩ := hB A out s0 H E (hr.deeper _) gd
  have J := inv_start (CX := L2N.CX P w) (E := E) S hr.hd en hl r x
  have todo : t { nx := fun _ H' => Q .non H', rt := Q } (L2.start N xs) H := by
    refine sn Z φ _ h _ H _ SH (sime_start (N := N) rv) (cut_ends SH ?_)
    unfold fnD at po
    rw [if_pos hlv] at po
    rw [hlv]
    exact po
  refine wpAny_mono (ht.run [] s1 (L2.start N xs) H _ J todo) (fun fl s2 hs => ?_) (fun e s2 hs => hs)
  cases fl with
  | brk => obtain ⟨_, _, _, z⟩ := hs; exact z.elim
  | cont => obtain ⟨_, _, _, z⟩ := hs; exact z.elim
  | next =>
    obtain ⟨σ2, H2, J2, z⟩ := hs
    exact ⟨V.non, H2, J2.os, J2.bare, J2.base, J2.hok, rfl, z⟩
  | ret u =>
    obtain ⟨v, σ2, H2, J2, rv2, z⟩ := hs
    exact ⟨v, H2, J2.os, J2.bare, J2.base, J2.hok, rv2, z⟩
where e0_in {P : Program} {w : World} {K : PySem.W.Frag} {mg : Str → Option Value} {base : Heap} {A : Around} {out : List Env} {s0 : Shared} {H : Hp} (en : Env0 P w K mg base A out s0 H) : K.In s0.heap := en.mod.kin.keeps fun b o z => (en.bs b o z).1

/-! ### calls -/
section
variable {X : Cx} {W : WX}
/-- a def's name can be called -/
structure Cal (P : Program) (w : World) (K : PySem.W.Frag) (mg : Str → Option Value) (base : Heap) (k : Nat) (x : Str) (np : Nat) (D : LFn) : Prop where
  ex : ∃ (fa : Addr) (fd : FuncData) (ps : List Str), FnG P w K mg base k fa fd ps (spL K mg np D) ∧ mg x = some (.ref fa) ∧ PySem.W.keepIn K (.ref fa) = true ∧ Binds K fd ps []
theorem run_fnG {k : Nat} {fa : Addr} {fd : FuncData} {ps : List Str} {sp : Sp} {E : St → XK} {pins : List (Addr × Obj)} {σ : St} {H : Hp} {s : Shared} {Q : VK} {us : List Value} {xs : List V} (F : FnG X.prog X.w X.K X.mg X.base k fa fd ps sp)
    (hr : Room k X.A) (gd : X.A.guards = some []) (hb : Binds X.K fd ps []) (hx : PassesAt (L2N.CX X.prog X.w) X σ (E σ)) (I : Inv X pins σ H s) (r : Vals xs us) (q : sp xs H Q (E σ)) : wpAny (model X.prog X.w) X.A (call (.ref fa) us) (EP X pins σ Q) X.xe s := by
  have hl : us.length = ps.length := r.length.symm.trans (F.len _ _ _ _ q)
  have b := hb s us I.kIn (by rw [List.append_nil]; exact hl)
  rw [List.append_nil] at b
  apply wpAny_call
  refine codeAny_mono (F.run X.A X.stack s H ⟨us, []⟩ us xs Q (E σ) hr gd I.env0 b r q) fun res s2 hq => ?_
  cases res with
  | error e => exact hx pins H s e s2 I hq
  | ok fl =>
    cases fl with
    | ret u => exact I.after hq
    | next => exact hq.elim
    | brk => exact hq.elim
    | cont => exact hq.elim
def callE (D : LFn) (fa : En → Hl → R (List Val)) : En → Hl → R Val := fun ρ h => (fa ρ h).bind fun vs h1 => D vs h1
theorem ex_call {k np : Nat} {x : Str} {D : LFn} {e : Expr} {es : List Expr} {fa : En → Hl → R (List Val)} {p pos : Pos} (c : Cal X.prog X.w X.K X.mg X.base k x np D) (hD : ∀ vs h, vs.length ≠ np → D vs h = .stuck) (hr : Room k X.A) (gd : X.A.guards = some []) (tk : L2N.Takes X W)
    (hg : Gl X x) (ha : Ax X W (e :: es) fa) (hdb : (x == ("__debug__" : Str)) = false) (he : starEach (e :: es) X.env = (false, eval e X.env) :: starEach es X.env) (hpl : (backTo pos (starEach es X.env)).any (·.1) = false) :
    Ex X W (.Call (.Name x p) (e :: es) [] pos) (callE D fa) := by
  obtain ⟨fa', fd, ps, F, hm, hk, hb⟩ := c.ex
  obtain ⟨t, pa, sa⟩ := ha
  refine ⟨tCallS (spL X.K X.mg np D) (WE W) t, ⟨fun pins s σ H Q I todo => ?_⟩, fun Z φ ρ h σ H Q S E po => ?_⟩
  · apply wpAny_Call_Name_kw (ld_glob I hg hm ?_ hdb)
    refine PySem.W.callWith_K (h₀ := X.base) I.ok.mod.kin hk (thn (pa.run pos pins s σ H _ I todo) fun us s1 hh => ?_) he hpl
    obtain ⟨xs, H1, I1, r, q⟩ := hh
    exact ⟨I1.kIn, run_fnG F hr gd hb (L2N.passAt tk σ) I1 r q⟩
  · refine sa.seq S E po fun vs h1 φ1 H1 xs s1 S1 E1 r1 p1 => ⟨?_, Z, φ1, vs, h1, S1, r1, p1⟩
    rw [r1.length]
    exact Decidable.byContradiction fun n => by rw [hD vs h1 n] at p1; exact p1.elim
theorem fnD_len {np nv : Nat} {B : En → Hl → SR} : ∀ (vs : List Val) (h : Hl), vs.length ≠ np → fnD np nv B vs h = .stuck := fun vs h n => if_neg n
end

/-! ### what the top has -/
structure Tab where
  fns : List (Str × Nat × LFn)
  bts : List Str
  cns : List (Str × PyData)
  er : Bool
structure Knows (P : Program) (w : World) (K : PySem.W.Frag) (mg : Str → Option Value) (base : Heap) (k : Nat) (T : Tab) : Prop where
  fn : ∀ (i : Nat) (x : Str) (np : Nat) (D : LFn), T.fns[i]? = some (x, np, D) → Cal P w K mg base k x np D ∧ ∀ vs h, vs.length ≠ np → D vs h = .stuck
  bt : ∀ (i : Nat) (x : Str), T.bts[i]? = some x → mg x = none
  cn : ∀ (i : Nat) (x : Str) (d : PyData), T.cns[i]? = some (x, d) → ConAt K mg x d
  er : T.er = true → ∃ (B : Addr) (cs : List Addr), Hx.ErrAt P w K mg base B cs
/-- what a def's body knows -/
structure Fx (X : Cx) (W : WX) (k : Nat) (T : Tab) : Prop where
  kn : Knows X.prog X.w X.K X.mg X.base k T
  rm : Room k X.A
  gd : X.A.guards = some []
  calm : X.calm = true
  nd : X.N.Nodup
  tk : L2N.Takes X W
  po : PassesOwn (model X.prog X.w) X.A X.env X.xe
section
variable {X : Cx} {W : WX} {k : Nat} {T : Tab}
theorem Fx.hu (C : Fx X W k T) : X.A.units + 65 < cLine := by have := C.rm.un; omega
theorem Fx.blk (C : Fx X W k T) (s : Shared) (H : Hp) (sc : Scope) (ce : Env) (fp : List Addr) : Fx (X.blk s H sc ce fp) W0 k T where
  kn := C.kn
  rm := C.rm
  gd := C.gd
  calm := C.calm
  nd := C.nd
  tk := fun u s' ⟨_, _, _, _, _, _, _, _, _, _, _, _, _, _, _, _, z⟩ => z.elim
  po := PassesOwn.never
theorem Fx.call (C : Fx X W k T) (i : Nat) {x : Str} {np : Nat} {D : LFn} {e : Expr} {es : List Expr} {fa : En → Hl → R (List Val)} {p pos : Pos} (hi : T.fns[i]? = some (x, np, D)) (ha : Ax X W (e :: es) fa)
    (hg : Gl X x := by rfl) (hdb : (x == ("__debug__" : Str)) = false := by decide) (he : starEach (e :: es) X.env = (false, eval e X.env) :: starEach es X.env := by rfl) (hpl : (backTo pos (starEach es X.env)).any (·.1) = false := by rfl) :
    Ex X W (.Call (.Name x p) (e :: es) [] pos) (callE D fa) :=
  ex_call (C.kn.fn i x np D hi).1 (C.kn.fn i x np D hi).2 C.rm C.gd C.tk hg ha hdb he hpl
/-- the same in a try's body -/
theorem Fx.tr (C : Fx X W k T) {W' : WX} {pn : List (Addr × Obj)} {xe : Value → Shared → Prop} (tk : L2N.Takes (X.tr pn xe) W') (po : PassesOwn (model X.prog X.w) X.A X.env xe) : Fx (X.tr pn xe) W' k T := ⟨C.kn, C.rm, C.gd, C.calm, C.nd, tk, po⟩
theorem Fx.raise (C : Fx X W k T) (i : Nat) {x m : Str} {j : Nat} {p p2 pos' pos : Pos} (he : T.er = true) (hx : Hx.errNames[i]? = some x := by rfl) (hg : Gl X x := by rfl) (hdb : (x == ("__debug__" : Str)) = false := by decide) (hb : x ≠ "BadForm" := by decide) :
    Sx X W (.Raise (some (.Call (.Name x p) [.Constant (.str m) j p2] [] pos')) none pos) (raiseS x) := by
  obtain ⟨B, cs, E⟩ := C.kn.er he
  have lj : i < cs.length := by rw [E.ek.len]; exact lt_of_getS hx
  exact sx_raise C.calm C.tk (E.ek.at_ i x _ hx (List.getElem?_eq_getElem lj)) hg hdb hb
theorem Fx.try (C : Fx X W k T) (i : Nat) {n : Str} {body : List Stmt} {f : En → Hl → SR} {np q1 q2 q3 q4 pos pos' : Pos} (he : T.er = true) (hb : ∀ (W' : WX) (pn : List (Addr × Obj)) (xe : Value → Shared → Prop), Fx (X.tr pn xe) W' k T → Sxs (X.tr pn xe) W' body f)
    (hi : X.N[i]? = some n := by rfl) (hln : X.env.kindOf n = some .local := by rfl) (hB : Gl X "BeastError" := by rfl) (hv : Vis X.env.scope n := by exact Or.inl rfl) (hnd : (n == ("__debug__" : Str)) = false := by decide) (hnc : (n == ("__classdict__" : Str)) = false := by decide) (hg : Gl X "_law_error" := by rfl)
    (hst : starEach [Expr.Name n q2] X.env = (false, eval (Expr.Name n q2) X.env) :: starEach [] X.env := by rfl) (hpl : (backTo q3 (starEach [] X.env)).any (·.1) = false := by rfl) (hs : X.stack = X.env :: X.outer := by rfl) (hf : X.env.frame = some X.env.locals := by rfl) :
    Sx X W (.Try body [.ExceptHandler (some (.Name "BeastError" np)) (some n) [.Return (some (.Call (.Name "_law_error" q1) [.Name n q2] [] q3)) q4] pos'] [] [] pos) (tryErr i f) := by
  obtain ⟨B, cs, E⟩ := C.kn.er he
  exact sx_try E (L2H.roomH_of (C.rm.mono (Nat.zero_le _))) hs hf C.nd C.tk (fun W' pn xe t po => hb W' pn xe (C.tr t po)) hi hln hB hv hnd hnc hg hst hpl
theorem Fx.tryV (C : Fx X W k T) (i : Nat) {n : Str} {body : List Stmt} {f : En → Hl → SR} {np q1 q2 q3 q4 r1 r2 r3 r4 r5 r6 r7 r8 pos pos' : Pos} {sj : Nat} (he : T.er = true) (hb : ∀ (W' : WX) (pn : List (Addr × Obj)) (xe : Value → Shared → Prop), Fx (X.tr pn xe) W' k T → Sxs (X.tr pn xe) W' body f)
    (hi : X.N[i]? = some n := by rfl) (hln : X.env.kindOf n = some .local := by rfl) (hB : Gl X "BeastError" := by rfl) (hv : Vis X.env.scope n := by exact Or.inl rfl) (hnd : (n == ("__debug__" : Str)) = false := by decide) (hnc : (n == ("__classdict__" : Str)) = false := by decide) (hg : Gl X "_law_error" := by rfl) (hgi : Gl X "isinstance" := by rfl) (hgv : Gl X "ValueError" := by rfl)
    (hst : starEach [Expr.Name n q2] X.env = (false, eval (Expr.Name n q2) X.env) :: starEach [] X.env := by rfl) (hpl : (backTo q3 (starEach [] X.env)).any (·.1) = false := by rfl)
    (h1 : starEach [Expr.Name n r2, Expr.Name "ValueError" r3] X.env = (false, eval (Expr.Name n r2) X.env) :: starEach [Expr.Name "ValueError" r3] X.env := by rfl) (h2 : starEach [Expr.Name "ValueError" r3] X.env = (false, eval (Expr.Name "ValueError" r3) X.env) :: starEach [] X.env := by rfl)
    (hp2 : (backTo r4 (starEach [Expr.Name "ValueError" r3] X.env)).any (·.1) = false := by rfl) (hs : X.stack = X.env :: X.outer := by rfl) (hf : X.env.frame = some X.env.locals := by rfl) :
    Sx X W (.Try body [.ExceptHandler (some (.Name "BeastError" np)) (some n) [.If (.UnaryOp .Not (.Call (.Name "isinstance" r1) [.Name n r2, .Name "ValueError" r3] [] r4) r5) [.Return (some (.Constant (.str "odd") sj r6)) r7] [] r8, .Return (some (.Call (.Name "_law_error" q1) [.Name n q2] [] q3)) q4] pos'] [] [] pos) (tryErr i f) := by
  obtain ⟨B, cs, E⟩ := C.kn.er he
  exact sx_tryV E (L2H.roomH_of (C.rm.mono (Nat.zero_le _))) hs hf C.nd C.tk (fun W' pn xe t po => hb W' pn xe (C.tr t po)) hi hln hB hv hnd hnc hg hgi hgv hst hpl h1 h2 hp2
end
end Dn
end

section
/-! Dn, part 9: the whole program, the law's head -/
namespace Dn
open PySem PySem.Spec PyProof.Rows L2

/-- a def of the text: name, qualified name, text, parameters, slots, what its body does -/
structure DefR where
  x : Str
  q : Str
  st : Stmt
  ps : List Str
  N : List Str
  body : (Nat → LFn) → En → Hl → SR
/-- the program with fuel -/
def callD (P : List DefR) : Nat → Nat → LFn
  | 0, _ => fun _ _ => .stuck
  | k + 1, i => match P[i]? with
    | some r => fnD r.ps.length r.N.length (r.body (callD P k))
    | none => fun _ _ => .stuck
def tabGo (call : Nat → LFn) : Nat → List DefR → List (Str × Nat × LFn)
  | _, [] => []
  | n, r :: rs => (r.x, r.ps.length, call n) :: tabGo call (n + 1) rs
theorem tabGo_at (call : Nat → LFn) : ∀ (P : List DefR) (n i : Nat), (tabGo call n P)[i]? = (P[i]?).map fun r => (r.x, r.ps.length, call (n + i))
  | [], _, _ => rfl
  | r :: rs, n, 0 => rfl
  | r :: rs, n, i + 1 => by
    show (tabGo call (n + 1) rs)[i]? = (rs[i]?).map _
    rw [tabGo_at call rs (n + 1) i, Nat.add_right_comm, Nat.add_assoc]
def tabOf (P : List DefR) (bts : List Str) (cns : List (Str × PyData)) (er : Bool) (call : Nat → LFn) : Tab := ⟨tabGo call 0 P, bts, cns, er⟩
/-- the body's text does what is said -/
def BodyOk (T : (Nat → LFn) → Tab) (r : DefR) : Prop := ∀ (P : Program) (w : World) (K : PySem.W.Frag) (mg : Str → Option Value) (base : Heap) (k : Nat) (call : Nat → LFn) (f : Addr) (cdv : Value) (A : Around) (out : List Env) (s0 : Shared) (H : Hp) (E : XK),
  Fx (cxOf (L2N.CX P w) P w K mg base r.N r.q (defScope r.st) f cdv A out s0 H E) (fun c d _ H' => E c d H') k (T call) →
    Sxs (cxOf (L2N.CX P w) P w K mg base r.N r.q (defScope r.st) f cdv A out s0 H E) (fun c d _ H' => E c d H') (defBody r.st) (r.body call)
/-- a def stands behind the top -/
structure Stands (K : PySem.W.Frag) (mg : Str → Option Value) (r : DefR) : Prop where
  ex : ∃ (fa : Addr) (fd : FuncData), Fun K r.x r.q r.st fa fd ∧ mg r.x = some (.ref fa) ∧ Binds K fd r.ps []

theorem fn_rec {P : Program} {w : World} {K : PySem.W.Frag} {mg : Str → Option Value} {base : Heap} {k : Nat} {fa : Addr} {fd : FuncData} {T : (Nat → LFn) → Tab} {call : Nat → LFn} {r : DefR} (F : Fun K r.x r.q r.st fa fd) (S : FnScope r.N r.ps (defScope r.st)) (B : BodyOk T r)
    (kn : Knows P w K mg base k (T call)) : FnG P w K mg base (k + 1) fa fd r.ps (spL K mg r.ps.length (fnD r.ps.length r.N.length (r.body call))) := by
  obtain ⟨oc, od, kV, doc, pm, an, cdv, ct, osl, rfl, lk, hcd⟩ := F.ex
  refine fn_den lk hcd S fun A out s0 H E hr gd => ?_
  have hs : (cxOf (L2N.CX P w) P w K mg base r.N r.q (defScope r.st) fa cdv A out s0 H E).stack = (cxOf (L2N.CX P w) P w K mg base r.N r.q (defScope r.st) fa cdv A out s0 H E).env :: (cxOf (L2N.CX P w) P w K mg base r.N r.q (defScope r.st) fa cdv A out s0 H E).outer := rfl
  exact B P w K mg base k call fa cdv A out s0 H E ⟨kn, hr, gd, rfl, S.nd, L2N.takes_of hs rfl rfl rfl, passes_of (K := fun e s2 => L2N.CX P w out H s0 E e s2) (E₁ := fun e s2 => L2N.CX P w out H s0 E e s2) rfl⟩

theorem all_fns {P : Program} {w : World} {K : PySem.W.Frag} {mg : Str → Option Value} {base : Heap} {prog : List DefR} {bts : List Str} {cns : List (Str × PyData)} {er : Bool} {T : (Nat → LFn) → Tab} (hT : ∀ call, T call = tabOf prog bts cns er call)
    (st : ∀ (i : Nat) (r : DefR), prog[i]? = some r → Stands K mg r) (sc : ∀ (i : Nat) (r : DefR), prog[i]? = some r → FnScope r.N r.ps (defScope r.st) ∧ BodyOk T r)
    (hb : ∀ (i : Nat) (x : Str), bts[i]? = some x → mg x = none) (hc : ∀ (i : Nat) (x : Str) (d : PyData), cns[i]? = some (x, d) → ConAt K mg x d) (her : er = true → ∃ (B : Addr) (cs : List Addr), Hx.ErrAt P w K mg base B cs) :
    ∀ (k : Nat), (∀ (i : Nat) (r : DefR), prog[i]? = some r → ∀ (fa : Addr) (fd : FuncData), Fun K r.x r.q r.st fa fd → FnG P w K mg base k fa fd r.ps (spL K mg r.ps.length (callD prog k i))) ∧ Knows P w K mg base k (T (callD prog k)) := by
  have knows : ∀ k : Nat, (∀ (i : Nat) (r : DefR), prog[i]? = some r → ∀ (fa : Addr) (fd : FuncData), Fun K r.x r.q r.st fa fd → FnG P w K mg base k fa fd r.ps (spL K mg r.ps.length (callD prog k i))) → Knows P w K mg base k (T (callD prog k)) := by
    intro k all
    rw [hT]
    refine ⟨fun i x np D e => ?_, hb, hc, her⟩
    unfold tabOf at e
    simp only [tabGo_at, Nat.zero_add] at e
    cases g : prog[i]? with
    | none => rw [g] at e; cases e
    | some r =>
      rw [g] at e
      cases e
      obtain ⟨fa, fd, F, hm, hbd⟩ := (st i r g).ex
      refine ⟨⟨fa, fd, r.ps, all i r g fa fd F, hm, F.kp, hbd⟩, fun vs h n => ?_⟩
      cases k with
      | zero => rfl
      | succ k =>
        unfold callD
        rw [g]
        exact fnD_len vs h n
  intro k
  induction k with
  | zero =>
    have base0 : ∀ (i : Nat) (r : DefR), prog[i]? = some r → ∀ (fa : Addr) (fd : FuncData), Fun K r.x r.q r.st fa fd → FnG P w K mg base 0 fa fd r.ps (spL K mg r.ps.length (callD prog 0 i)) :=
      fun i r g fa fd F => ⟨fun _ _ _ _ q => q.1, fun A out s0 H ag us xs Q E _ _ _ _ _ q => by obtain ⟨_, Z, φ, vs, h, _, _, po⟩ := q; exact False.elim po⟩
    exact ⟨base0, knows 0 base0⟩
  | succ k ih =>
    have step : ∀ (i : Nat) (r : DefR), prog[i]? = some r → ∀ (fa : Addr) (fd : FuncData), Fun K r.x r.q r.st fa fd → FnG P w K mg base (k + 1) fa fd r.ps (spL K mg r.ps.length (callD prog (k + 1) i)) := fun i r g fa fd F => by
      have q := fn_rec F (sc i r g).1 (sc i r g).2 ih.2
      have e : callD prog (k + 1) i = fnD r.ps.length r.N.length (r.body (callD prog k)) := by
        show (match prog[i]? with
          | some r => fnD r.ps.length r.N.length (r.body (callD prog k))
          | none => fun _ _ => .stuck) = _
        rw [g]
      rw [e]
      exact q
    exact ⟨step, knows _ step⟩

/-! ### constants -/
theorem con_int {K : PySem.W.Frag} {mg : Str → Option Value} {x : Str} {u : Value} {i : Int} (h : mg x = some u) (r : RelV (.int i) u) : ConAt K mg x (.int i) := ⟨u, .int i, h, r, .int i⟩
theorem con_str {K : PySem.W.Frag} {mg : Str → Option Value} {x : Str} {u : Value} {i : Str} (h : mg x = some u) (r : RelV (.str i) u) : ConAt K mg x (.str i) := ⟨u, .str i, h, r, .str i⟩
/-- a value stands for data by K alone -/
def Kd (K : PySem.W.Frag) (u : Value) (d : PyData) : Prop := ∃ v, RelV v u ∧ Rp K (fun _ => none) (fun _ => True) v d
inductive Kds (K : PySem.W.Frag) : List Value → List PyData → Prop
  | nil : Kds K [] []
  | cons {u : Value} {us : List Value} {d : PyData} {ds : List PyData} : Kd K u d → Kds K us ds → Kds K (u :: us) (d :: ds)
theorem con_kd {K : PySem.W.Frag} {mg : Str → Option Value} {x : Str} {u : Value} {d : PyData} (h : mg x = some u) (k : Kd K u d) : ConAt K mg x d := let ⟨v, r, p⟩ := k; ⟨u, v, h, r, p⟩
theorem Kds.out {K : PySem.W.Frag} : ∀ {us : List Value} {ds : List PyData}, Kds K us ds → ∃ vs, Vals vs us ∧ RpAll K (fun _ => none) (fun _ => True) vs ds
  | _, _, .nil => ⟨[], .nil, .nil⟩
  | _, _, .cons ⟨v, r, p⟩ t => let ⟨vs, a, b⟩ := t.out; ⟨v :: vs, .cons r a, .cons p b⟩
theorem Kds.length {K : PySem.W.Frag} : ∀ {us : List Value} {ds : List PyData}, Kds K us ds → us.length = ds.length
  | _, _, .nil => rfl
  | _, _, .cons _ t => congrArg (· + 1) t.length
theorem kd_tup {K : PySem.W.Frag} {a : Addr} {us : List Value} {n : Nat} {ds : List PyData} {od : Option Addr} {sl : Array (Option Value)} (lk : K.lookup a = some ⟨.type "tuple", od, .seq us.toArray n, sl⟩) (hz : ds.length ≤ sizeLine) (t : Kds K us ds) : Kd K (.ref a) (.tuple ds) := by
  obtain ⟨vs, r, p⟩ := t.out
  refine ⟨.ref a, rfl, .tup (.inr ⟨_, us.toArray, n, lk, rfl, rfl, ?_, ?_⟩) p⟩
  · rw [List.size_toArray, t.length]; exact hz
  · exact r
theorem kd_int {K : PySem.W.Frag} {u : Value} {i : Int} (r : RelV (.int i) u) : Kd K u (.int i) := ⟨_, r, .int i⟩
theorem kd_str {K : PySem.W.Frag} {u : Value} {i : Str} (r : RelV (.str i) u) : Kd K u (.str i) := ⟨_, r, .str i⟩

/-! ### the law's head -/
theorem law_den {P : Program} {w : World} {K : PySem.W.Frag} {mg mb : Str → Option Value} {k : Nat} {fa a : Addr} {fd : FuncData} {x : Str} {D : LFn} {s1 : Shared} {vals : List Value} {ns : List Int}
    (hr : Room k callerA) (KX : K.In s1.heap) (gl : s1.heap.Ns mainGlobals mg) (bi : s1.heap.Ns builtinsNs mb) (bb : ∀ y : Str, y ≠ "__name__" → mb y = bootBuiltins y) (nl : s1.heap.NoLimit) (ng : s1.gens = #[])
    (la : s1.heap.get? a = some { cls := .type "list", data := .seq vals.toArray }) (hi : IntsAre vals ns) (hn : ns.length ≤ sizeLine)
    (F : ∀ bs : Heap, K.In bs → bs.Ns mainGlobals mg → FnG P w K mg bs k fa fd [x] (spL K mg 1 D)) (hbind : ∀ (s : Shared) (u : Value), BindsTo s fd ⟨[u], []⟩ [(x, u)])
    (hD : ∃ h', D [.scr ns] [] = .ok (.dat (.bool true)) h') :
    codeAny (model P w) callerA (.call (.ref fa) ⟨[.ref a], []⟩) (fun r s' => r = .ok (.ret (.bool true)) ∧ OldK s1.heap s'.heap ∧ s'.os = s1.os ∧ AllBare s'.gens) s1 := by
  have rv : Vals (ns.map V.int) vals := vals_ints hi
  have lv := hi.length
  suffices main : ∀ H : Hp, (∀ b u, H b = some u → b = a ∧ u = .frz { cls := .type "list", data := .seq vals.toArray } (.lst (ns.map V.int))) → (∀ b u, H b = some u → K.lookup b = none) → ScrAt K H a ns →
      codeAny (model P w) callerA (.call (.ref fa) ⟨[.ref a], []⟩) (fun r s' => r = .ok (.ret (.bool true)) ∧ OldK s1.heap s'.heap ∧ s'.os = s1.os ∧ AllBare s'.gens) s1 by
    cases q : K.lookup a with
    | some o =>
      have e := KX a o q
      rw [la] at e
      cases e
      refine main (fun _ => none) (fun b u z => (nomatch z)) (fun b u z => (nomatch z)) (.inr ⟨_, vals.toArray, _, q, rfl, rfl, rfl, ?_, ?_⟩)
      · rw [List.size_toArray, lv]; exact hn
      · exact rv
    | none =>
      refine main (fun b => if b = a then some (.frz { cls := .type "list", data := .seq vals.toArray } (.lst (ns.map V.int))) else none) (fun b u z => ?_) (fun b u z => ?_) (.inl ⟨_, if_pos rfl⟩)
      · by_cases hb : b = a
        · have z' := (if_pos hb).symm.trans z
          cases z'
          exact ⟨hb, rfl⟩
        · have z' := (if_neg hb).symm.trans z
          cases z'
      · by_cases hb : b = a
        · rw [hb]; exact q
        · have z' := (if_neg hb).symm.trans z
          cases z'
  intro H one noK scr
  have ok : HOk P w H s1.heap := fun b u z => by
    obtain ⟨e1, e2⟩ := one b u z
    subst e1
    subst e2
    exact ⟨la, by rw [List.length_map]; exact hn, vals, _, rv, la⟩
  have notSeq : ∀ {b : Addr} {o : Obj} {es : Array DictEntry} {ep : Nat}, s1.heap.get? b = some o → o.data = .dict es ep → H b = none := fun {b o es ep} e d => by
    cases q : H b with
    | none => rfl
    | some u =>
      obtain ⟨e1, _⟩ := one b u q
      rw [e1, la] at e
      cases e
      have d' : Data.seq vals.toArray _ = Data.dict es ep := d
      cases d'
  have nsH : ∀ {b : Addr} {m : Str → Option Value}, s1.heap.Ns b m → (hidT s1.heap H).Ns b m := fun {b m} z => by
    obtain ⟨o, es, ep, e, d, r⟩ := z
    exact ⟨o, es, ep, hidT_get e (notSeq e d), d, r⟩
  have inH : K.In (hidT s1.heap H) := fun b o e => hidT_get (KX b o e) (by
    cases q : H b with
    | none => rfl
    | some u => rw [noK b u q] at e; cases e)
  have md : Mod K mg (hidT s1.heap H) := ⟨inH, nsH gl, ⟨mb, nsH bi, bb⟩, let ⟨mc, z1, z2⟩ := nl; ⟨mc, nsH z1, z2⟩⟩
  have en : Env0 P w K mg (hidT s1.heap H) callerA [] s1 H := ⟨rfl, md, fun b o e => of_hidT e, Nat.le_of_eq (hidT_size _ _), trivial, fun b z => absurd (show b ∈ ([] : List Addr) from z) (fun q => nomatch q), ok, .of_eq ng⟩
  obtain ⟨h', eD⟩ := hD
  have want : spL K mg 1 D [.ref a] H (fun v _ => v = .bl true) (fun _ _ _ => False) := by
    refine ⟨rfl, fun _ => False, fun _ => 0, [.scr ns], [], ?_, .cons ⟨a, rfl, scr⟩ .nil, ?_⟩
    · exact ⟨fun i j z => absurd z (Nat.not_lt_zero _), fun i z => absurd z (Nat.not_lt_zero _), fun i o z => (nomatch z), fun a z => False.elim z, fun i z => absurd z (Nat.not_lt_zero _)⟩
    · rw [eD]
      intro φ' H' s' S' v r
      cases r
      rfl
  refine codeAny_mono ((F _ inH (nsH gl)).run callerA [] s1 H ⟨[.ref a], []⟩ [.ref a] [.ref a] _ _ hr rfl en (hbind s1 (.ref a)) (.cons rfl .nil) want) fun r s2 hs => ?_
  cases r with
  | error e =>
    obtain ⟨_, _, _, _, _, _, _, _, _, _, _, _, z⟩ := hs
    exact False.elim z
  | ok fl =>
    cases fl with
    | next => exact False.elim hs
    | brk => exact False.elim hs
    | cont => exact False.elim hs
    | ret u =>
      obtain ⟨v, H', os, bare, un, ok2, rv2, z⟩ := hs
      have z' : v = .bl true := z
      subst z'
      obtain rfl : u = Value.bool true := rv2
      refine ⟨rfl, OldK.of_keep fun b o e => ?_, os, bare⟩
      cases q : H b with
      | none => exact un.keep b o e q (fun z => nomatch (show b ∈ ([] : List Addr) from z)) (fun z => nomatch (show b ∈ ([] : List Addr) from z))
      | some u =>
        obtain ⟨e1, e2⟩ := one b u q
        subst e2
        have q2 := un.frzs b _ _ q
        obtain ⟨f1, _⟩ := ok b _ q
        obtain ⟨f2, _⟩ := ok2 b _ q2
        rw [e] at f1
        cases f1
        exact f2

theorem walk_den {l : PySem.W.OpenLaw} {n k : Nat} {pr : Program} {loose : List Str} {XP : (Str → Option Value) → Heap → Prop} {YP : World → Heap → Prop} {d : DefRec} {K : Params → PySem.W.Frag} {D : LFn} {x : Str}
    (hr : Room k callerA) (hm : l.most = some n) (hz : n ≤ sizeLine) (nd : d.params.defaults = []) (hY : ∀ (w : World) (h : Heap), YP w h → (K w.params).In h) (hD : ∀ ns : List Int, ns.length ≤ n → ∃ h', D [.scr ns] [] = .ok (.dat (.bool true)) h')
    (F : ∀ (w : World) (mg : Str → Option Value) (fa : Addr) (h : Heap), (K w.params).In h → h.Ns mainGlobals mg → mg d.name = some (.ref fa) → ∃ fd : FuncData, (∀ (s : Shared) (u : Value), BindsTo s fd ⟨[u], []⟩ [(x, u)]) ∧
      ∀ bs : Heap, (K w.params).In bs → bs.Ns mainGlobals mg → FnG l.prog w (K w.params) mg bs k fa fd [x] (spL (K w.params) mg 1 D)) :
    PySem.W.WalkO pr loose XP YP l.row.toRowW d [] (fun f vs => PySem.call f vs) := by
  apply Att.attach_call hm nd
  intro w s0 s1 mg mb fa o pm cd doc a vals ns G Y ho hd hcd hmg hobj hints hlen hg
  obtain ⟨fd, hb, hF⟩ := F w mg fa _ (hY w _ Y) G.T.g hmg
  exact law_den hr (hY w _ Y) G.T.g G.T.b G.T.builtins G.T.nolimit hg hobj hints (Nat.le_trans hlen hz) hF hb (hD ns hlen)
end Dn
end

section
/-! Dn, part 10: the rules in short -/
namespace Dn
open PySem PySem.Spec PyProof.Rows L2
theorem bo_len : bootBuiltins "len" = some (.builtin "len") := by decide +kernel
theorem bo_abs : bootBuiltins "abs" = some (.builtin "abs") := by decide +kernel
theorem bo_sum : bootBuiltins "sum" = some (.builtin "sum") := by decide +kernel
theorem bo_any : bootBuiltins "any" = some (.builtin "any") := by decide +kernel
theorem bo_all : bootBuiltins "all" = some (.builtin "all") := by decide +kernel
theorem bo_max : bootBuiltins "max" = some (.builtin "max") := by decide +kernel
theorem bo_min : bootBuiltins "min" = some (.builtin "min") := by decide +kernel
theorem bo_repr : bootBuiltins "repr" = some (.builtin "repr") := by decide +kernel
theorem bo_sorted : bootBuiltins "sorted" = some (.builtin "sorted") := by decide +kernel
theorem bo_isinstance : bootBuiltins "isinstance" = some (.builtin "isinstance") := by decide +kernel
theorem bo_int : bootBuiltins "int" = some (.type "int") := by decide +kernel
theorem bo_str : bootBuiltins "str" = some (.type "str") := by decide +kernel
theorem bo_tuple : bootBuiltins "tuple" = some (.type "tuple") := by decide +kernel
theorem bo_list : bootBuiltins "list" = some (.type "list") := by decide +kernel
theorem bo_set : bootBuiltins "set" = some (.type "set") := by decide +kernel
theorem bo_dict : bootBuiltins "dict" = some (.type "dict") := by decide +kernel
theorem bo_type : bootBuiltins "type" = some (.type "type") := by decide +kernel
theorem bo_enumerate : bootBuiltins "enumerate" = some (.type "enumerate") := by decide +kernel
theorem bo_zip : bootBuiltins "zip" = some (.type "zip") := by decide +kernel
/-- a new list as data -/
def asD (f : En → Hl → R (List PyData)) : En → Hl → R Val := fun ρ h => (f ρ h).bind fun ds h1 => .ok (.dat (.list ds)) h1
def iaddD (d e : PyData) : Option PyData := (addI d e).orElse fun _ => addS d e
section
variable {X : Cx} {W : WX} {k : Nat} {T : Tab}
theorem Fx.v (C : Fx X W k T) (i : Nat) {x : Str} {pos : Pos} (hN : X.N[i]? = some x := by rfl) (hv : Vis X.env.scope x := by first | exact Or.inl rfl | exact Or.inr (Or.inl rfl) | exact Or.inr (Or.inr rfl)) (hd : (x == ("__debug__" : Str)) = false := by decide)
    (hcd : (x == ("__classdict__" : Str)) = false := by decide) : Ex X W (.Name x pos) (varD i) := ex_var hN hv hd hcd
theorem Fx.m (C : Fx X W k T) (i : Nat) {x : Str} {pos : Pos} (hN : X.N[i]? = some x := by rfl) (hv : Vis X.env.scope x := by first | exact Or.inl rfl | exact Or.inr (Or.inl rfl) | exact Or.inr (Or.inr rfl)) (hd : (x == ("__debug__" : Str)) = false := by decide)
    (hcd : (x == ("__classdict__" : Str)) = false := by decide) : Ex X W (.Name x pos) (mvD i) := ex_mv hN hv hd hcd
theorem Fx.con (C : Fx X W k T) (j : Nat) {x : Str} {d : PyData} {pos : Pos} (hj : T.cns[j]? = some (x, d)) (hg : Gl X x := by rfl) (hd : (x == ("__debug__" : Str)) = false := by decide) : Ex X W (.Name x pos) (cD d) := ex_con hg (C.kn.cn j x d hj) hd
theorem Fx.bB (C : Fx X W k T) (j : Nat) {x : Str} {id : String} {g : List PyData → Option PyData} {e : Expr} {es : List Expr} {fa : En → Hl → R (List Val)} {p pos : Pos} (hj : T.bts[j]? = some x) (o : CallOk X (.builtin id) g) (ha : Ax X W (e :: es) fa) (hv : bootBuiltins x = some (.builtin id))
    (hg : Gl X x := by rfl) (hn : x ≠ "__name__" := by decide) (hdb : (x == ("__debug__" : Str)) = false := by decide) (he : starEach (e :: es) X.env = (false, eval e X.env) :: starEach es X.env := by rfl) (hpl : (backTo pos (starEach es X.env)).any (·.1) = false := by rfl) :
    Ex X W (.Call (.Name x p) (e :: es) [] pos) (bcD g fa) := ex_bcB o hg (C.kn.bt j x hj) hv ha hn hdb he hpl
theorem Fx.bT (C : Fx X W k T) (j : Nat) {x : Str} {id : String} {g : List PyData → Option PyData} {e : Expr} {es : List Expr} {fa : En → Hl → R (List Val)} {p pos : Pos} (hj : T.bts[j]? = some x) (o : CallOk X (.type id) g) (ha : Ax X W (e :: es) fa) (hv : bootBuiltins x = some (.type id))
    (hg : Gl X x := by rfl) (hn : x ≠ "__name__" := by decide) (hdb : (x == ("__debug__" : Str)) = false := by decide) (he : starEach (e :: es) X.env = (false, eval e X.env) :: starEach es X.env := by rfl) (hpl : (backTo pos (starEach es X.env)).any (·.1) = false := by rfl) :
    Ex X W (.Call (.Name x p) (e :: es) [] pos) (bcD g fa) := ex_bcT o hg (C.kn.bt j x hj) hv ha hn hdb he hpl
theorem Fx.lB (C : Fx X W k T) (j : Nat) {x : Str} {id : String} {g : List PyData → Option (List PyData)} {e : Expr} {es : List Expr} {fa : En → Hl → R (List Val)} {p pos : Pos} (hj : T.bts[j]? = some x) (o : CallLx X (.builtin id) g) (ha : Ax X W (e :: es) fa) (hv : bootBuiltins x = some (.builtin id))
    (hg : Gl X x := by rfl) (hn : x ≠ "__name__" := by decide) (hdb : (x == ("__debug__" : Str)) = false := by decide) (he : starEach (e :: es) X.env = (false, eval e X.env) :: starEach es X.env := by rfl) (hpl : (backTo pos (starEach es X.env)).any (·.1) = false := by rfl) :
    Lx X W (.Call (.Name x p) (e :: es) [] pos) (lcD g fa) := lx_B o hg (C.kn.bt j x hj) hv ha hn hdb he hpl
theorem Fx.lT (C : Fx X W k T) (j : Nat) {x : Str} {id : String} {g : List PyData → Option (List PyData)} {e : Expr} {es : List Expr} {fa : En → Hl → R (List Val)} {p pos : Pos} (hj : T.bts[j]? = some x) (o : CallLx X (.type id) g) (ha : Ax X W (e :: es) fa) (hv : bootBuiltins x = some (.type id))
    (hg : Gl X x := by rfl) (hn : x ≠ "__name__" := by decide) (hdb : (x == ("__debug__" : Str)) = false := by decide) (he : starEach (e :: es) X.env = (false, eval e X.env) :: starEach es X.env := by rfl) (hpl : (backTo pos (starEach es X.env)).any (·.1) = false := by rfl) :
    Lx X W (.Call (.Name x p) (e :: es) [] pos) (lcD g fa) := lx_T o hg (C.kn.bt j x hj) hv ha hn hdb he hpl
theorem Fx.rng1 (C : Fx X W k T) (j : Nat) {tg a : Expr} {fa : En → Hl → R (List Val)} {p pos : Pos} (hj : T.bts[j]? = some "range") (ha : Ax X W [a] fa) (hg : Gl X "range" := by rfl) (hs : starEach [a] X.env = [(false, eval a X.env)] := by rfl) :
    Ix X W tg (.Call (.Name "range" p) [a] [] pos) (rng1D fa) := ix_rng1 hg (C.kn.bt j _ hj) ha hs
theorem Fx.rng2 (C : Fx X W k T) (j : Nat) {tg a b : Expr} {fa : En → Hl → R (List Val)} {p pos : Pos} (hj : T.bts[j]? = some "range") (ha : Ax X W [a, b] fa) (hg : Gl X "range" := by rfl) (hs : starEach [a, b] X.env = [(false, eval a X.env), (false, eval b X.env)] := by rfl)
    (hs2 : starEach [b] X.env = [(false, eval b X.env)] := by rfl) : Ix X W tg (.Call (.Name "range" p) [a, b] [] pos) (rng2D fa) := ix_rng2 hg (C.kn.bt j _ hj) ha hs hs2
theorem Fx.ac (C : Fx X W k T) {e : Expr} {es : List Expr} {f : En → Hl → R Val} {g : En → Hl → R (List Val)} (he : Ex X W e f) (hs : Ax X W es g) (hst : starEach (e :: es) X.env = (false, eval e X.env) :: starEach es X.env := by rfl) : Ax X W (e :: es) (consD f g) := ax_cons he hs hst
theorem Fx.ix (C : Fx X W k T) {a b : Expr} {fa fb : En → Hl → R Val} {pos : Pos} (ha : Ex X W a fa) (hb : Ex X W b fb) (hs : PlainIx b := by exact fun _ _ => rfl) : Ex X W (.Subscript a b pos) (binD ixD fa fb) := ex_ix ha hb hs
theorem Fx.cmp (C : Fx X W k T) {op : CmpOp} {g : PyData → PyData → Option PyData} {a b : Expr} {fa fb : En → Hl → R Val} {pos : Pos} (o : OpOk X (compareOp op) g) (ha : Ex X W a fa) (hb : Ex X W b fb) (hm : behindInMarks op b = false := by rfl) : Ex X W (.Compare a [op] [b] pos) (binD g fa fb) := ex_cmp o ha hb hm
theorem Fx.tcmp (C : Fx X W k T) {op : CmpOp} {g : PyData → PyData → Option PyData} {a b : Expr} {fa fb : En → Hl → R Val} {pos : Pos} (o : OpOk X (compareOp op) g) (ha : Ex X W a fa) (hb : Ex X W b fb) (hm : behindInMarks op b = false := by rfl) : Tx X W (.Compare a [op] [b] pos) (tstD (binD g fa fb)) := tx_cmp o ha hb hm
theorem Fx.tv (C : Fx X W k T) {e : Expr} {f : En → Hl → R Val} (he : Ex X W e f) (hi : ∀ whole, isTrue e X.env whole = (do let v ← whole; standAt e.pos; holding [v] (truthy v)) := by exact fun _ => rfl) : Tx X W e (tstD f) := tx_val he hi
/-! comprehensions -/
theorem Fx.lc (C : Fx X W k T) {elt tg iter : Expr} {ifs : List Expr} {scope : Scope} {own : List (Str × Nat)} {pos : Pos} {fi : En → Hl → R ItD} {g : DG} {tt : En → Hl → R Bool} {fe : En → Hl → R Val} (ok : BlkOk X.N X.env.scope scope own) (hi : Ix X W tg iter fi)
    (hg : ∀ (s : Shared) (H : Hp) (c : Addr) (cl : List (Str × Addr)) (fp : List Addr), Fx (X.blk s H scope (compEnvC scope cl c X.env) fp) W0 k T → PG (X.blk s H scope (compEnvC scope cl c X.env) fp) tg (tG X.K g))
    (ht : ∀ (s : Shared) (H : Hp) (c : Addr) (cl : List (Str × Addr)) (fp : List Addr), Fx (X.blk s H scope (compEnvC scope cl c X.env) fp) W0 k T → Tsx (X.blk s H scope (compEnvC scope cl c X.env) fp) W0 ifs tt)
    (he : ∀ (s : Shared) (H : Hp) (c : Addr) (cl : List (Str × Addr)) (fp : List Addr), Fx (X.blk s H scope (compEnvC scope cl c X.env) fp) W0 k T → Ex (X.blk s H scope (compEnvC scope cl c X.env) fp) W0 elt fe)
    (hsl : ∀ i ∈ slotsG g, i ∈ own.map (·.2) := by decide) (hs : ∀ x, foldedSetIterable iter X.env x = pure x := by exact fun _ => rfl) : Lx X W (.ListComp elt [⟨tg, iter, ifs, 0⟩] scope pos) (compD fi (own.map (·.2)) g tt fe) :=
  lx_comp C.calm C.nd hi ok hsl (fun s H c cl fp => hg s H c cl fp (C.blk s H scope _ fp)) (fun s H c cl fp => ht s H c cl fp (C.blk s H scope _ fp)) (fun s H c cl fp => he s H c cl fp (C.blk s H scope _ fp)) hs
theorem Fx.nlc (C : Fx X W k T) (i : Nat) {y : Str} {py : Pos} {elt tg iter : Expr} {ifs : List Expr} {scope : Scope} {own : List (Str × Nat)} {pos spos : Pos} {fi : En → Hl → R ItD} {g : DG} {tt : En → Hl → R Bool} {fe : En → Hl → R Val} (ok : BlkOk X.N X.env.scope scope own) (hi : Ix X W tg iter fi)
    (hg : ∀ (s : Shared) (H : Hp) (c : Addr) (cl : List (Str × Addr)) (fp : List Addr), Fx (X.blk s H scope (compEnvC scope cl c X.env) fp) W0 k T → PG (X.blk s H scope (compEnvC scope cl c X.env) fp) tg (tG X.K g))
    (ht : ∀ (s : Shared) (H : Hp) (c : Addr) (cl : List (Str × Addr)) (fp : List Addr), Fx (X.blk s H scope (compEnvC scope cl c X.env) fp) W0 k T → Tsx (X.blk s H scope (compEnvC scope cl c X.env) fp) W0 ifs tt)
    (he : ∀ (s : Shared) (H : Hp) (c : Addr) (cl : List (Str × Addr)) (fp : List Addr), Fx (X.blk s H scope (compEnvC scope cl c X.env) fp) W0 k T → Ex (X.blk s H scope (compEnvC scope cl c X.env) fp) W0 elt fe)
    (hy : X.N[i]? = some y := by rfl) (hyl : X.env.scope.names.lookup y = some .local := by rfl) (hsw : swapsWith (.ListComp elt [⟨tg, iter, ifs, 0⟩] scope pos) (some (.Name y py)) spos.line X.env = pure true := by rfl)
    (hsl : ∀ i ∈ slotsG g, i ∈ own.map (·.2) := by decide) (hs : ∀ x, foldedSetIterable iter X.env x = pure x := by exact fun _ => rfl) : Nl X W (.Assign [.Name y py] (.ListComp elt [⟨tg, iter, ifs, 0⟩] scope pos) spos) i (compD fi (own.map (·.2)) g tt fe) :=
  nl_comp C.calm C.nd hy hyl hsw hi ok hsl (fun s H c cl fp => hg s H c cl fp (C.blk s H scope _ fp)) (fun s H c cl fp => ht s H c cl fp (C.blk s H scope _ fp)) (fun s H c cl fp => he s H c cl fp (C.blk s H scope _ fp)) hs
theorem Fx.gn (C : Fx X W k T) (i : Nat) {x : Str} {pos : Pos} (hi : X.N[i]? = some x := by rfl) (hx : Loc X.env.scope x := by first | exact Or.inl rfl | exact Or.inr rfl) (hf : X.fn x = true ∨ X.env.scope.names.lookup x = some .local := by first | exact .inl rfl | exact .inr rfl) : PG X (.Name x pos) (tG X.K (.nm i)) := pg_name C.nd hi hx hf
theorem Fx.gt (C : Fx X W k T) {es : List Expr} {gs : List DG} {n : Nat} {pos : Pos} (h : PGs X es (tGs X.K gs)) (hn : (assignEach es X.env).length = gs.length := by rfl) (hst : (assignEach es X.env).findIdx? (·.1) = none := by rfl) : PG X (.Tuple es n pos) (tG X.K (.tp gs)) := pg_tup C.calm h hn hst
theorem Fx.gc (C : Fx X W k T) {e : Expr} {es : List Expr} {g : DG} {gs : List DG} (h1 : PG X e (tG X.K g)) (h2 : PGs X es (tGs X.K gs)) (hs : (assignEach (e :: es) X.env).map (·.2) = assign e X.env :: (assignEach es X.env).map (·.2) := by rfl) : PGs X (e :: es) (tGs X.K (g :: gs)) := pgs_cons h1 h2 hs
theorem Fx.g0 (C : Fx X W k T) : PGs X [] (tGs X.K []) := pgs_nil
theorem lx_as {e : Expr} {f : En → Hl → R (List PyData)} (h : Lx X W e f) : Ex X W e (asD f) := h.ex
/-! statements -/
theorem Fx.set (C : Fx X W k T) (i : Nat) {x : Str} {e : Expr} {f : En → Hl → R Val} {pos pos' : Pos} (he : Ex X W e f) (hi : X.N[i]? = some x := by rfl) (hx : Loc X.env.scope x := by first | exact Or.inl rfl | exact Or.inr rfl)
    (hf : X.fn x = true ∨ X.env.scope.names.lookup x = some .local := by first | exact .inl rfl | exact .inr rfl) (hs : swapsWith e (some (.Name x pos')) pos.line X.env = pure false := by rfl) : Sx X W (.Assign [.Name x pos'] e pos) (setS i f) := sx_set C.nd hi hx hf he hs
theorem Fx.nl (C : Fx X W k T) (i : Nat) {x : Str} {e : Expr} {f : En → Hl → R (List PyData)} {pos pos' : Pos} (he : Lx X W e f) (hi : X.N[i]? = some x := by rfl) (hx : Loc X.env.scope x := by first | exact Or.inl rfl | exact Or.inr rfl)
    (hf : X.fn x = true ∨ X.env.scope.names.lookup x = some .local := by first | exact .inl rfl | exact .inr rfl) (hs : swapsWith e (some (.Name x pos')) pos.line X.env = pure false := by rfl) : Nl X W (.Assign [.Name x pos'] e pos) i f := nl_of C.nd hi hx hf he hs
theorem Fx.ex (C : Fx X W k T) {e : Expr} {f : En → Hl → R Val} {pos : Pos} (he : Ex X W e f) (hs : swapsWith e none pos.line X.env = pure false := by rfl) : Sx X W (.Expr e pos) (exprS f) := sx_expr he hs
theorem Fx.unp (C : Fx X W k T) {tg e : Expr} {g : DG} {f : En → Hl → R Val} {pos : Pos} (he : Ex X W e f) (hg : PG X tg (tG X.K g)) (hs : swapsWithSole [tg] e pos.line X.env = pure false := by rfl) (hw : swappedStores [tg] e X.env = pure none := by rfl)
    (h1 : (assignEach [tg] X.env).map (·.2) = [assign tg X.env] := by rfl) : Sx X W (.Assign [tg] e pos) (unpS g f) := sx_unp he hg hs hw h1
theorem Fx.par (C : Fx X W k T) (i j : Nat) {x y : Str} {a b : Expr} {fa : En → Hl → R (List Val)} {px py pt pos : Pos} {kt k2 : Nat} {pt2 : Pos} (ha : Ax X W [a, b] fa) (hi : X.N[i]? = some x := by rfl) (hj : X.N[j]? = some y := by rfl) (hij : i ≠ j := by decide)
    (hx : X.env.scope.names.lookup x = some .local := by rfl) (hy : X.env.scope.names.lookup y = some .local := by rfl)
    (hw : swappedStores [.Tuple [.Name x px, .Name y py] kt pt] (.Tuple [a, b] k2 pt2) X.env = pure (some [x, y]) := by rfl) (hs : swapsWithSole [.Tuple [.Name x px, .Name y py] kt pt] (.Tuple [a, b] k2 pt2) pos.line X.env = pure false := by rfl) :
    Sx X W (.Assign [.Tuple [.Name x px, .Name y py] kt pt] (.Tuple [a, b] k2 pt2) pos) (parS i j fa) := sx_par C.calm C.nd hi hj hij hx hy ha hw hs
theorem Fx.aug (C : Fx X W k T) (i : Nat) {x : Str} {e : Expr} {op : Operator} {g : PyData → PyData → Option PyData} {f : En → Hl → R Val} {pos pos' : Pos} (o : OpOk X (inplaceOp op) g) (he : Ex X W e f) (hi : X.N[i]? = some x := by rfl) (hx : Loc X.env.scope x := by first | exact Or.inl rfl | exact Or.inr rfl)
    (hf : X.fn x = true ∨ X.env.scope.names.lookup x = some .local := by first | exact .inl rfl | exact .inr rfl) : Sx X W (.AugAssign (.Name x pos') op e pos) (augS i g f) := sx_aug o C.nd hi hx hf he
theorem Fx.app (C : Fx X W k T) {o e : Expr} {fo : En → Hl → R Val} {fa : En → Hl → R (List Val)} {apos cpos : Pos} (ho : Ex X W o fo) (ha : Ax X W [e] fa) (hbase : attributeBase o "append" X.env (eval o X.env) = eval o X.env := by rfl)
    (hfew : ((backTo cpos (starEach [e] X.env)).all (fun x => !x.1) && (backToKw cpos (keywordEach [] X.env)).all (fun x => x.1.isSome) && decide ([e].length + ([] : List Keyword).length + (if ([] : List Keyword).isEmpty then 0 else 1) < 30)) = true := by rfl)
    (hline : (apos.endLine == cpos.line) = true := by rfl) (hs : starEach [e] X.env = (false, eval e X.env) :: starEach [] X.env := by rfl) (hplain : (backTo cpos (starEach [] X.env)).any (·.1) = false := by rfl) : Ex X W (.Call (.Attribute o "append" apos) [e] [] cpos) (appD fo fa) := ex_app ho ha hbase hfew hline hs hplain
theorem Fx.ext (C : Fx X W k T) {o e : Expr} {fo : En → Hl → R Val} {fa : En → Hl → R (List Val)} {apos cpos : Pos} (ho : Ex X W o fo) (ha : Ax X W [e] fa) (hbase : attributeBase o "extend" X.env (eval o X.env) = eval o X.env := by rfl)
    (hfew : ((backTo cpos (starEach [e] X.env)).all (fun x => !x.1) && (backToKw cpos (keywordEach [] X.env)).all (fun x => x.1.isSome) && decide ([e].length + ([] : List Keyword).length + (if ([] : List Keyword).isEmpty then 0 else 1) < 30)) = true := by rfl)
    (hline : (apos.endLine == cpos.line) = true := by rfl) (hs : starEach [e] X.env = (false, eval e X.env) :: starEach [] X.env := by rfl) (hplain : (backTo cpos (starEach [] X.env)).any (·.1) = false := by rfl) : Ex X W (.Call (.Attribute o "extend" apos) [e] [] cpos) (extD fo fa) := ex_ext ho ha hbase hfew hline hs hplain
end
end Dn
end

section
/-! Dn, part 11: the law's program stands behind the top -/
namespace Dn
open PySem PySem.Spec PyProof.Rows L2

def AllD {α : Type} (p : α → Prop) : List α → Prop
  | [] => True
  | x :: xs => p x ∧ AllD p xs
theorem AllD.get {α : Type} {p : α → Prop} : ∀ {l : List α} {i : Nat} {x : α}, AllD p l → l[i]? = some x → p x
  | _ :: _, 0, _, h, e => by cases e; exact h.1
  | _ :: _, _ + 1, _, h, e => AllD.get h.2 e
def HeadF (K : PySem.W.Frag) (r : DefR) : Prop := ∃ (f : Addr) (oc kV doc pm cdv ct : Value) (od an : Option Addr) (osl : Array (Option Value)), PySem.W.nsIn K mainGlobals r.x = some (some (.ref f)) ∧
  K.lookup f = some ⟨oc, od, .func (PySem.W.fnOf r.x r.q (defArgs r.st) (defBody r.st) (defScope r.st) .none kV doc pm an cdv ct), osl⟩ ∧ PySem.W.codeIn K cdv r.q = true ∧ PySem.W.keepIn K (.ref f) = true
theorem head_mk {K : PySem.W.Frag} {r : DefR} {f : Addr} {oc kV doc pm cdv ct : Value} {od an : Option Addr} {osl : Array (Option Value)} (a : PySem.W.nsIn K mainGlobals r.x = some (some (.ref f)))
    (l : K.lookup f = some ⟨oc, od, .func (PySem.W.fnOf r.x r.q (defArgs r.st) (defBody r.st) (defScope r.st) .none kV doc pm an cdv ct), osl⟩) (c : PySem.W.codeIn K cdv r.q = true) (k : PySem.W.keepIn K (.ref f) = true) : HeadF K r :=
  ⟨f, oc, kV, doc, pm, cdv, ct, od, an, osl, a, l, c, k⟩
/-- how a def's arguments bind -/
def BindP (r : DefR) : Prop := ∀ (kV doc pm : Value) (an : Option Addr) (cdv ct : Value) (us : List Value), us.length = r.ps.length →
  bindArgs (PySem.W.fnOf r.x r.q (defArgs r.st) (defBody r.st) (defScope r.st) .none kV doc pm an cdv ct) ⟨us, []⟩ = pure (r.ps.zip us)
def ConIn (K : PySem.W.Frag) (q : Str × PyData) : Prop := ∃ u, PySem.W.nsIn K mainGlobals q.1 = some (some u) ∧ Kd K u q.2
theorem con_mk {K : PySem.W.Frag} {x : Str} {d : PyData} {u : Value} (a : PySem.W.nsIn K mainGlobals x = some (some u)) (k : Kd K u d) : ConIn K (x, d) := ⟨u, a, k⟩
def BtIn (K : PySem.W.Frag) (x : Str) : Prop := PySem.W.nsIn K mainGlobals x = some none
theorem bt_mk {K : PySem.W.Frag} {x : Str} (h : PySem.W.nsIn K mainGlobals x = some none) : BtIn K x := h
def DefOk (T : (Nat → LFn) → Tab) (r : DefR) : Prop := (FnScope r.N r.ps (defScope r.st) ∧ BodyOk T r) ∧ BindP r

/-! ### errors -/
structure ClsIn (K : PySem.W.Frag) (B : Addr) (x : Str) (C : Addr) : Prop where
  g : PySem.W.nsIn K mainGlobals x = some (some (.ref C))
  kp : PySem.W.keepIn K (.ref C) = true
  sub : PySem.W.subIn K (.ref C) (.type "BaseException") = some true
  ty : PySem.W.typeIn K (.ref C) = some (.type "type")
  hg : PySem.W.findIn K (.ref C) "__getattribute__" = some (some (.builtin "BaseException.__getattribute__"))
  hk : PySem.W.findIn K (.ref C) "__getattr__" = some none
  hd : PySem.W.hasDictIn K C = true
  ha : PySem.W.findIn K (.ref C) "__class__" = some (some (.builtin "object.__class__"))
  hm : PySem.W.mroIn K C (.type "object") = some true
  sb : PySem.W.subIn K (.ref C) (.ref B) = some true
  vs : PySem.W.subIn K (.ref C) (.type "ValueError") = some true
abbrev ExcI (K : PySem.W.Frag) (C : Addr) : Prop := PySem.W.excIn K C [.type "ValueError", .type "Exception", .type "BaseException", .type "object"] "ValueError.__new__" = true
structure ErrIn (K : PySem.W.Frag) (B C0 C1 C2 C3 C4 : Addr) : Prop where
  gB : PySem.W.nsIn K mainGlobals "BeastError" = some (some (.ref B))
  c0 : ClsIn K B "NotAllowed" C0
  c1 : ClsIn K B "TooLarge" C1
  c2 : ClsIn K B "Missing" C2
  c3 : ClsIn K B "BadPaper" C3
  c4 : ClsIn K B "BadForm" C4
  x0 : ExcI K C0
  x1 : ExcI K C1
  x2 : ExcI K C2
  x3 : ExcI K C3
  bsub : PySem.W.subIn K (.ref B) (.type "BaseException") = some true
  bty : PySem.W.typeIn K (.ref B) = some (.type "type")
  bhd : PySem.W.hasDictIn K B = true
  hn : PySem.W.specialIn K (.builtin "object.__class__") "__get__" = some (some (.builtin "getset_descriptor.__get__"))
  ht : PySem.W.takesIn K (.builtin "object.__class__") = some true
  k00 : PySem.W.subIn K (.ref C0) (.ref C0) = some true
  k01 : PySem.W.subIn K (.ref C0) (.ref C1) = some false
  k02 : PySem.W.subIn K (.ref C0) (.ref C2) = some false
  k03 : PySem.W.subIn K (.ref C0) (.ref C3) = some false
  k04 : PySem.W.subIn K (.ref C0) (.ref C4) = some false
  k10 : PySem.W.subIn K (.ref C1) (.ref C0) = some false
  k11 : PySem.W.subIn K (.ref C1) (.ref C1) = some true
  k12 : PySem.W.subIn K (.ref C1) (.ref C2) = some false
  k13 : PySem.W.subIn K (.ref C1) (.ref C3) = some false
  k14 : PySem.W.subIn K (.ref C1) (.ref C4) = some false
  k20 : PySem.W.subIn K (.ref C2) (.ref C0) = some false
  k21 : PySem.W.subIn K (.ref C2) (.ref C1) = some false
  k22 : PySem.W.subIn K (.ref C2) (.ref C2) = some true
  k23 : PySem.W.subIn K (.ref C2) (.ref C3) = some false
  k24 : PySem.W.subIn K (.ref C2) (.ref C4) = some false
  k30 : PySem.W.subIn K (.ref C3) (.ref C0) = some false
  k31 : PySem.W.subIn K (.ref C3) (.ref C1) = some false
  k32 : PySem.W.subIn K (.ref C3) (.ref C2) = some false
  k33 : PySem.W.subIn K (.ref C3) (.ref C3) = some true
  k34 : PySem.W.subIn K (.ref C3) (.ref C4) = some false
  k40 : PySem.W.subIn K (.ref C4) (.ref C0) = some false
  k41 : PySem.W.subIn K (.ref C4) (.ref C1) = some false
  k42 : PySem.W.subIn K (.ref C4) (.ref C2) = some false
  k43 : PySem.W.subIn K (.ref C4) (.ref C3) = some false
  k44 : PySem.W.subIn K (.ref C4) (.ref C4) = some true
  bi : PySem.W.nsIn K mainGlobals "isinstance" = some none
  bs : PySem.W.nsIn K mainGlobals "sum" = some none
  bn : PySem.W.nsIn K mainGlobals "int" = some none
  bv : PySem.W.nsIn K mainGlobals "ValueError" = some none
theorem kit_of {K : PySem.W.Frag} {C D : Addr} {b : Bool} (h1 : PySem.W.subIn K (.ref C) (.ref D) = some b) (h2 : PySem.W.subIn K (.ref C) (.ref C) = some true) (hd : PySem.W.hasDictIn K D = true) (ty : PySem.W.typeIn K (.ref D) = some (.type "type")) : PySem.W.kitOne K (.ref C) (.ref D) = some b := by
  unfold PySem.W.kitOne
  by_cases e : C = D
  · subst e
    rw [h1] at h2
    cases h2
    rw [if_pos (by simp)]
  · rw [if_neg (by simpa using e)]
    obtain ⟨cd, hc, _⟩ := PySem.W.any_some hd
    show (if _ then _ else _) = _
    rw [if_pos (by rw [hc, ty]; rfl)]
    exact h1
theorem kit_tyV {K : PySem.W.Frag} {C : Addr} (h : PySem.W.subIn K (.ref C) (.type "ValueError") = some true) : PySem.W.kitOne K (.ref C) (.type "ValueError") = some true := by
  show (if (Value.ref C == Value.type "ValueError") = true then some true else (if PySem.W.kitMeta "ValueError" = true then PySem.W.subIn K (.ref C) (.type "ValueError") else none)) = some true
  rw [if_neg (by intro z; cases z), if_pos (by decide +kernel)]
  exact h
theorem ClsIn.clsK {K : PySem.W.Frag} {mg : Str → Option Value} {h : Heap} {B C : Addr} {x : Str} (c : ClsIn K B x C) (KX : K.In h) (G : h.Ns mainGlobals mg) (hn : PySem.W.specialIn K (.builtin "object.__class__") "__get__" = some (some (.builtin "getset_descriptor.__get__")))
    (ht : PySem.W.takesIn K (.builtin "object.__class__") = some true) (h1 : PySem.W.subIn K (.ref B) (.type "BaseException") = some true) (h2 : PySem.W.typeIn K (.ref B) = some (.type "type")) (h3 : PySem.W.hasDictIn K B = true) (ex : x ≠ "BadForm" → ExcI K C) : Hx.ClsK K mg B x C :=
  ⟨PySem.W.mg_of KX G c.g, c.kp, ex, c.sub, c.ty, ⟨c.hg, c.hk, c.sub, c.hd, c.ha, hn, ht, c.hm⟩, PySem.W.exm_ref h1 h3 h2 c.sb, kit_tyV c.vs⟩
theorem five {P : Nat → Addr → Prop} {C0 C1 C2 C3 C4 : Addr} (h0 : P 0 C0) (h1 : P 1 C1) (h2 : P 2 C2) (h3 : P 3 C3) (h4 : P 4 C4) (j : Nat) (C : Addr) (e : [C0, C1, C2, C3, C4][j]? = some C) : P j C := by
  rcases j with _ | _ | _ | _ | _ | j
  · cases e; exact h0
  · cases e; exact h1
  · cases e; exact h2
  · cases e; exact h3
  · cases e; exact h4
  · cases e
theorem ErrIn.excK {K : PySem.W.Frag} {mg : Str → Option Value} {h : Heap} {B C0 C1 C2 C3 C4 : Addr} (c : ErrIn K B C0 C1 C2 C3 C4) (KX : K.In h) (G : h.Ns mainGlobals mg) : Hx.ExcK K mg B [C0, C1, C2, C3, C4] := by
  have q := fun {x : Str} {C : Addr} (z : ClsIn K B x C) (ex : x ≠ "BadForm" → ExcI K C) => z.clsK KX G c.hn c.ht c.bsub c.bty c.bhd ex
  refine ⟨PySem.W.mg_of KX G c.gB, rfl, fun j x C ex eC => ?_, fun i j C D eC eD => ?_, PySem.W.mg_none_of KX G c.bi, PySem.W.mg_none_of KX G c.bs, PySem.W.mg_none_of KX G c.bn, PySem.W.mg_none_of KX G c.bv⟩
  · revert x ex
    refine five (P := fun j C => ∀ x : Str, Hx.errNames[j]? = some x → Hx.ClsK K mg B x C) ?_ ?_ ?_ ?_ ?_ j C eC
    · intro x e; cases e; exact q c.c0 fun _ => c.x0
    · intro x e; cases e; exact q c.c1 fun _ => c.x1
    · intro x e; cases e; exact q c.c2 fun _ => c.x2
    · intro x e; cases e; exact q c.c3 fun _ => c.x3
    · intro x e; cases e; exact q c.c4 fun z => absurd rfl z
  · refine five (P := fun i C => PySem.W.kitOne K (.ref C) (.ref D) = some (decide (i = j))) ?_ ?_ ?_ ?_ ?_ i C eC
    · exact five (P := fun j D => PySem.W.kitOne K (.ref C0) (.ref D) = some (decide (0 = j))) (kit_of c.k00 c.k00 c.c0.hd c.c0.ty) (kit_of c.k01 c.k00 c.c1.hd c.c1.ty) (kit_of c.k02 c.k00 c.c2.hd c.c2.ty) (kit_of c.k03 c.k00 c.c3.hd c.c3.ty) (kit_of c.k04 c.k00 c.c4.hd c.c4.ty) j D eD
    · exact five (P := fun j D => PySem.W.kitOne K (.ref C1) (.ref D) = some (decide (1 = j))) (kit_of c.k10 c.k11 c.c0.hd c.c0.ty) (kit_of c.k11 c.k11 c.c1.hd c.c1.ty) (kit_of c.k12 c.k11 c.c2.hd c.c2.ty) (kit_of c.k13 c.k11 c.c3.hd c.c3.ty) (kit_of c.k14 c.k11 c.c4.hd c.c4.ty) j D eD
    · exact five (P := fun j D => PySem.W.kitOne K (.ref C2) (.ref D) = some (decide (2 = j))) (kit_of c.k20 c.k22 c.c0.hd c.c0.ty) (kit_of c.k21 c.k22 c.c1.hd c.c1.ty) (kit_of c.k22 c.k22 c.c2.hd c.c2.ty) (kit_of c.k23 c.k22 c.c3.hd c.c3.ty) (kit_of c.k24 c.k22 c.c4.hd c.c4.ty) j D eD
    · exact five (P := fun j D => PySem.W.kitOne K (.ref C3) (.ref D) = some (decide (3 = j))) (kit_of c.k30 c.k33 c.c0.hd c.c0.ty) (kit_of c.k31 c.k33 c.c1.hd c.c1.ty) (kit_of c.k32 c.k33 c.c2.hd c.c2.ty) (kit_of c.k33 c.k33 c.c3.hd c.c3.ty) (kit_of c.k34 c.k33 c.c4.hd c.c4.ty) j D eD
    · exact five (P := fun j D => PySem.W.kitOne K (.ref C4) (.ref D) = some (decide (4 = j))) (kit_of c.k40 c.k44 c.c0.hd c.c0.ty) (kit_of c.k41 c.k44 c.c1.hd c.c1.ty) (kit_of c.k42 c.k44 c.c2.hd c.c2.ty) (kit_of c.k43 c.k44 c.c3.hd c.c3.ty) (kit_of c.k44 c.k44 c.c4.hd c.c4.ty) j D eD
/-- the body of the law's word for an error -/
def ErrBody (r : DefR) : Prop := ∀ (P : Program) (w : World) (K : PySem.W.Frag) (mg : Str → Option Value) (base : Heap) (B : Addr) (cs : List Addr) (f : Addr) (cdv : Value) (A : Around) (out : List Env) (s0 : Shared) (H : Hp) (E : XK) (p : Addr × Obj) (j : Nat) (C : Addr),
  Hx.Hot (L2H.cxH (L2N.CX P w) P w K mg base r.N r.q (defScope r.st) f cdv A out s0 H E p) p B cs j C →
    ∃ t, PSs (L2H.cxH (L2N.CX P w) P w K mg base r.N r.q (defScope r.st) f cdv A out s0 H E p) (defBody r.st) t ∧ ∀ (D : Ends) (H : Hp), (∀ H', Hx.Grow H H' → D.rt (.str (Hx.errWord j)) H') → t D [some (.ref p.1), none, none] H
structure ErrDef (r : DefR) : Prop where
  x : r.x = "_law_error"
  N : r.N = ([("e" : Str), ("names" : Str), ("one" : Str)] : List Str)
  ps : r.ps = [("e" : Str)]
  sc : FnScope r.N r.ps (defScope r.st)
  bp : BindP r
  bd : ErrBody r
theorem err_at {P : Program} {w : World} {K : PySem.W.Frag} {mg : Str → Option Value} {h base : Heap} {B C0 C1 C2 C3 C4 : Addr} {r : DefR} (KX : K.In h) (G : h.Ns mainGlobals mg) (d : ErrDef r) (hd : HeadF K r) (e : ErrIn K B C0 C1 C2 C3 C4) : Hx.ErrAt P w K mg base B [C0, C1, C2, C3, C4] := by
  have ek := e.excK KX G
  obtain ⟨f, oc, kV, doc, pm, cdv, ct, od, an, osl, a, l, c, kp⟩ := hd
  have F := fun_mk l c kp
  refine ⟨ek, f, _, r.ps, Hx.errfn_of l c d.sc d.N d.ps ek fun A outer s H E p j C hot => d.bd P w K mg base B [C0, C1, C2, C3, C4] f cdv A outer s H E p j C hot, ?_, kp, F.binds d.bp⟩
  have z := PySem.W.mg_of KX G a
  rw [d.x] at z
  exact z
def ErrHead (K : PySem.W.Frag) (r : DefR) : Prop := ErrDef r ∧ HeadF K r ∧ ∃ B C0 C1 C2 C3 C4, ErrIn K B C0 C1 C2 C3 C4

theorem fin_den {P : Program} {w : World} {K : PySem.W.Frag} {mg : Str → Option Value} {h : Heap} {fa : Addr} {prog : List DefR} {bts : List Str} {cns : List (Str × PyData)} {er : Bool} {T : (Nat → LFn) → Tab} {i : Nat} {r re : DefR} {x : Str}
    (hT : ∀ call, T call = tabOf prog bts cns er call) (ok : AllD (DefOk T) prog) (gr : prog[i]? = some r) (hx : r.ps = [x]) (KX : K.In h) (G : h.Ns mainGlobals mg) (hm : mg r.x = some (.ref fa))
    (hd : AllD (HeadF K) prog) (hz : AllD (BtIn K) bts) (hc : AllD (ConIn K) cns) (her : er = true → ErrHead K re) (k : Nat) :
    ∃ fd : FuncData, (∀ (s : Shared) (u : Value), BindsTo s fd ⟨[u], []⟩ [(x, u)]) ∧ ∀ bs : Heap, K.In bs → bs.Ns mainGlobals mg → FnG P w K mg bs k fa fd [x] (spL K mg 1 (callD prog k i)) := by
  have st : ∀ (i : Nat) (r : DefR), prog[i]? = some r → Stands K mg r := fun i r g => by
    obtain ⟨f, oc, kV, doc, pm, cdv, ct, od, an, osl, a, l, c, kp⟩ := hd.get g
    have F := fun_mk l c kp
    exact ⟨f, _, F, PySem.W.mg_of KX G a, F.binds (ok.get g).2⟩
  have main := fun bs : Heap => all_fns (base := bs) (P := P) (w := w) (mg := mg) (K := K) hT st (fun i r g => (ok.get g).1) (fun i x g => PySem.W.mg_none_of KX G (hz.get g)) (fun i x d g => by
    obtain ⟨u, a, kd⟩ := hc.get g
    exact con_kd (PySem.W.mg_of KX G a) kd) (fun z => by
    obtain ⟨d, hd, B, C0, C1, C2, C3, C4, e⟩ := her z
    exact ⟨B, _, err_at KX G d hd e⟩)
  obtain ⟨f, oc, kV, doc, pm, cdv, ct, od, an, osl, a, l, c, kp⟩ := hd.get gr
  have ef := (PySem.W.mg_of KX G a).symm.trans hm
  cases ef
  refine ⟨PySem.W.fnOf r.x r.q (defArgs r.st) (defBody r.st) (defScope r.st) .none kV doc pm an cdv ct, fun s u => .of_eq ?_, fun bs _ _ => ?_⟩
  · have q := (ok.get gr).2 kV doc pm an cdv ct [u]
    rw [hx] at q
    exact q rfl
  · have q := (main bs k).1 i r gr fa _ (fun_mk l c kp)
    rw [hx] at q
    exact q
end Dn
end

section
/-! Dn, part 12: reckoning with what is computed -/
namespace Dn
open PySem PySem.Spec PyProof.Rows L2

/-- it ends well, with what is wanted -/
def wpR {α : Type} (r : R α) (κ : α → Hl → Prop) (ε : Exc → Hl → Prop) : Prop := match r with
  | .ok a h => κ a h
  | .stuck => False
  | .exc e h => ε e h
structure Ctl where
  rt : Val → Hl → Prop := fun _ _ => False
  bk : En → Hl → Prop := fun _ _ => False
  ct : En → Hl → Prop := fun _ _ => False
  ex : Exc → En → Hl → Prop := fun _ _ _ => False
def wpS (r : SR) (N : En → Hl → Prop) (C : Ctl) : Prop := match r with
  | .stuck => False
  | .next ρ h => N ρ h
  | .ret v h => C.rt v h
  | .brk ρ h => C.bk ρ h
  | .cont ρ h => C.ct ρ h
  | .exc e ρ h => C.ex e ρ h
def optK {α : Type} (o : Option α) (k : α → Prop) : Prop := match o with
  | some a => k a
  | none => False
def boolK (v : Val) (k : Bool → Prop) : Prop := match v with
  | .dat (.bool b) => k b
  | _ => False
abbrev noX : Exc → Hl → Prop := fun _ _ => False

section
variable {α β : Type} {κ κ' : α → Hl → Prop} {ε ε' : Exc → Hl → Prop} {ρ : En} {h : Hl} {C C' : Ctl} {N N' : En → Hl → Prop}
theorem wpR_mono {r : R α} (w : wpR r κ ε) (k : ∀ a h, κ a h → κ' a h) (e : ∀ x h, ε x h → ε' x h) : wpR r κ' ε' := by
  cases r with
  | stuck => exact w
  | ok a h => exact k a h w
  | exc x h => exact e x h w
theorem wpR_imp {r : R α} (w : wpR r κ noX) (k : ∀ a h, κ a h → κ' a h) : wpR r κ' ε := wpR_mono w k fun _ _ z => z.elim
theorem wpR_eq {r : R α} {a : α} {h : Hl} (w : wpR r (fun b g => b = a ∧ g = h) noX) : r = .ok a h := by
  cases r with
  | stuck => exact w.elim
  | exc x h => exact w.elim
  | ok b g => obtain ⟨rfl, rfl⟩ := w; rfl
theorem wpR_ok {a : α} : wpR (.ok a h) κ ε = κ a h := rfl
theorem wpR_stuck : wpR (.stuck : R α) κ ε = False := rfl
theorem wpR_exc {e : Exc} : wpR (.exc e h : R α) κ ε = ε e h := rfl
theorem wpR_bind {r : R β} {f : β → Hl → R α} : wpR (r.bind f) κ ε = wpR r (fun b g => wpR (f b g) κ ε) ε := by cases r <;> rfl
theorem wpR_get {r : R α} (w : wpR r κ noX) : ∃ a h, r = .ok a h ∧ κ a h := by
  cases r with
  | stuck => exact w.elim
  | exc x h => exact w.elim
  | ok b g => exact ⟨b, g, rfl, w⟩
theorem wpS_mono {r : SR} (w : wpS r N C) (n : ∀ ρ h, N ρ h → N' ρ h) (r1 : ∀ v h, C.rt v h → C'.rt v h) (r2 : ∀ v h, C.bk v h → C'.bk v h) (r3 : ∀ v h, C.ct v h → C'.ct v h) (r4 : ∀ e v h, C.ex e v h → C'.ex e v h) : wpS r N' C' := by
  cases r with
  | stuck => exact w
  | next ρ h => exact n _ _ w
  | ret v h => exact r1 _ _ w
  | brk ρ h => exact r2 _ _ w
  | cont ρ h => exact r3 _ _ w
  | exc e ρ h => exact r4 _ _ _ w
theorem optK_some {a : α} {k : α → Prop} : optK (some a) k = k a := rfl
theorem optK_none {k : α → Prop} : optK (none : Option α) k = False := rfl
theorem boolK_b {b : Bool} {k : Bool → Prop} : boolK (.dat (.bool b)) k = k b := rfl
end

section
variable {κ : Val → Hl → Prop} {κb : Bool → Hl → Prop} {κa : List Val → Hl → Prop} {κl : List PyData → Hl → Prop} {κo : Option Int → Hl → Prop} {κi : ItD → Hl → Prop} {ε : Exc → Hl → Prop} {ρ : En} {h : Hl}
/-! expressions -/
theorem w_var {i : Nat} : wpR (varD i ρ h) κ ε = optK (ρ[i]?).join fun v => κ v h := by
  unfold varD
  cases e : ρ[i]? with
  | none => rfl
  | some o => cases o <;> rfl
theorem w_mv {i : Nat} : wpR (mvD i ρ h) κ ε = optK (ρ[i]?).join fun v => match v with
    | .ref k => optK (h[k]?).join fun o => (match o with
      | .lst ds => κ (.dat (.list ds)) (h.set k none)
      | _ => False)
    | v => κ v h := by
  unfold mvD
  cases e : ρ[i]? with
  | none => rfl
  | some o =>
    cases o with
    | none => rfl
    | some v =>
      cases v with
      | dat d => rfl
      | scr d => rfl
      | ref k =>
        show wpR (match h[k]? with
          | some (some (.lst ds)) => .ok (.dat (.list ds)) (h.set k none)
          | _ => .stuck) κ ε = optK (h[k]?).join fun o => (match o with
          | .lst ds => κ (.dat (.list ds)) (h.set k none)
          | _ => False)
        cases h[k]? with
        | none => rfl
        | some o => cases o with
          | none => rfl
          | some o => cases o <;> rfl
theorem w_c {d : PyData} : wpR (cD d ρ h) κ ε = κ (.dat d) h := rfl
theorem w_op {g : PyData → PyData → Option PyData} {a b : Val} : wpR (opV g a b h) κ ε = optK (peek a h) fun d => optK (peek b h) fun e => optK (g d e) fun z => κ (.dat z) h := by
  unfold opV
  cases peek a h with
  | none => rfl
  | some d =>
    cases peek b h with
    | none => rfl
    | some e =>
      show wpR (match g d e with
        | some z => .ok (.dat z) h
        | none => .stuck) κ ε = optK (g d e) fun z => κ (.dat z) h
      cases g d e <;> rfl
theorem w_bin {g : PyData → PyData → Option PyData} {fa fb : En → Hl → R Val} : wpR (binD g fa fb ρ h) κ ε = wpR (fa ρ h) (fun a h1 => wpR (fb ρ h1) (fun b h2 => optK (peek a h2) fun d => optK (peek b h2) fun e => optK (g d e) fun z => κ (.dat z) h2) ε) ε := by
  unfold binD
  rw [wpR_bind]
  simp only [wpR_bind, w_op]
theorem w_un {g : PyData → Option PyData} {f : En → Hl → R Val} : wpR (unD g f ρ h) κ ε = wpR (f ρ h) (fun a h1 => optK (peek a h1) fun d => optK (g d) fun z => κ (.dat z) h1) ε := by
  unfold unD
  rw [wpR_bind]
  congr 1
  funext a h1
  cases peek a h1 with
  | none => rfl
  | some d =>
    show wpR (match g d with
      | some z => .ok (.dat z) h1
      | none => .stuck) κ ε = _
    cases e : g d <;> (rw [optK_some, e]; rfl)
theorem w_tst {f : En → Hl → R Val} : wpR (tstD f ρ h) κb ε = wpR (f ρ h) (fun v h1 => boolK v fun b => κb b h1) ε := by
  unfold tstD
  rw [wpR_bind]
  congr 1
  funext v h1
  cases v with
  | dat d => cases d <;> rfl
  | ref k => rfl
  | scr n => rfl
theorem w_and {f g : En → Hl → R Bool} : wpR (andT f g ρ h) κb ε = wpR (f ρ h) (fun b h1 => if b = true then wpR (g ρ h1) κb ε else κb false h1) ε := by
  unfold andT
  rw [wpR_bind]
  congr 1
  funext b h1
  cases b <;> rfl
theorem w_or {f g : En → Hl → R Bool} : wpR (orT f g ρ h) κb ε = wpR (f ρ h) (fun b h1 => if b = true then κb true h1 else wpR (g ρ h1) κb ε) ε := by
  unfold orT
  rw [wpR_bind]
  congr 1
  funext b h1
  cases b <;> rfl
theorem w_not {f : En → Hl → R Bool} : wpR (notT f ρ h) κb ε = wpR (f ρ h) (fun b h1 => κb (!b) h1) ε := by
  unfold notT
  rw [wpR_bind]
  rfl
theorem w_andV {f g : En → Hl → R Val} : wpR (andV f g ρ h) κ ε = wpR (f ρ h) (fun v h1 => boolK v fun b => if b = true then wpR (g ρ h1) κ ε else κ (.dat (.bool false)) h1) ε := by
  unfold andV
  rw [wpR_bind, w_tst]
  congr 1
  funext v h1
  cases v with
  | dat d => cases d with
    | bool b => cases b <;> rfl
    | _ => rfl
  | ref k => rfl
  | scr n => rfl
theorem w_orV {f g : En → Hl → R Val} : wpR (orV f g ρ h) κ ε = wpR (f ρ h) (fun v h1 => boolK v fun b => if b = true then κ (.dat (.bool true)) h1 else wpR (g ρ h1) κ ε) ε := by
  unfold orV
  rw [wpR_bind, w_tst]
  congr 1
  funext v h1
  cases v with
  | dat d => cases d with
    | bool b => cases b <;> rfl
    | _ => rfl
  | ref k => rfl
  | scr n => rfl
theorem w_notV {f : En → Hl → R Val} : wpR (notV f ρ h) κ ε = wpR (f ρ h) (fun v h1 => boolK v fun b => κ (.dat (.bool (!b))) h1) ε := by
  unfold notV
  rw [wpR_bind, w_tst]
  rfl
theorem w_if {c : En → Hl → R Bool} {f g : En → Hl → R Val} : wpR (ifD c f g ρ h) κ ε = wpR (c ρ h) (fun b h1 => if b = true then wpR (f ρ h1) κ ε else wpR (g ρ h1) κ ε) ε := by
  unfold ifD
  rw [wpR_bind]
  congr 1
  funext b h1
  cases b <;> rfl
theorem w_nil : wpR (nilD ρ h) κa ε = κa [] h := rfl
theorem w_cons {f : En → Hl → R Val} {g : En → Hl → R (List Val)} : wpR (consD f g ρ h) κa ε = wpR (f ρ h) (fun v h1 => wpR (g ρ h1) (fun vs h2 => κa (v :: vs) h2) ε) ε := by
  unfold consD
  rw [wpR_bind]
  simp only [wpR_bind, wpR_ok]
theorem w_tup {g : En → Hl → R (List Val)} : wpR (tupD g ρ h) κ ε = wpR (g ρ h) (fun vs h1 => optK (datsV vs) fun ds => ds.length ≤ sizeLine ∧ κ (.dat (.tuple ds)) h1) ε := by
  unfold tupD
  rw [wpR_bind]
  congr 1
  funext vs h1
  cases datsV vs with
  | none => rfl
  | some ds =>
    show wpR (if ds.length ≤ sizeLine then .ok (.dat (.tuple ds)) h1 else .stuck) κ ε = (ds.length ≤ sizeLine ∧ _)
    by_cases q : ds.length ≤ sizeLine
    · rw [if_pos q]; simp only [q, true_and]; rfl
    · rw [if_neg q]; simp only [q, false_and]; rfl
theorem w_lst {g : En → Hl → R (List Val)} : wpR (lstD g ρ h) κl ε = wpR (g ρ h) (fun vs h1 => optK (datsV vs) fun ds => ds.length ≤ sizeLine ∧ κl ds h1) ε := by
  unfold lstD
  rw [wpR_bind]
  congr 1
  funext vs h1
  cases datsV vs with
  | none => rfl
  | some ds =>
    show wpR (if ds.length ≤ sizeLine then .ok ds h1 else .stuck) κl ε = (ds.length ≤ sizeLine ∧ _)
    by_cases q : ds.length ≤ sizeLine
    · rw [if_pos q]; simp only [q, true_and]; rfl
    · rw [if_neg q]; simp only [q, false_and]; rfl
theorem w_as {f : En → Hl → R (List PyData)} : wpR (asD f ρ h) κ ε = wpR (f ρ h) (fun ds h1 => κ (.dat (.list ds)) h1) ε := by
  unfold asD
  rw [wpR_bind]
  rfl
theorem w_bc {g : List PyData → Option PyData} {fa : En → Hl → R (List Val)} : wpR (bcD g fa ρ h) κ ε = wpR (fa ρ h) (fun vs h1 => optK (peeks vs h1) fun ds => optK (g ds) fun z => κ (.dat z) h1) ε := by
  unfold bcD
  rw [wpR_bind]
  congr 1
  funext vs h1
  cases peeks vs h1 with
  | none => rfl
  | some ds =>
    show wpR (match g ds with
      | some z => .ok (.dat z) h1
      | none => .stuck) κ ε = optK (g ds) _
    cases g ds <;> rfl
theorem w_lc {g : List PyData → Option (List PyData)} {fa : En → Hl → R (List Val)} : wpR (lcD g fa ρ h) κl ε = wpR (fa ρ h) (fun vs h1 => optK (peeks vs h1) fun ds => optK (g ds) fun z => κl z h1) ε := by
  unfold lcD
  rw [wpR_bind]
  congr 1
  funext vs h1
  cases peeks vs h1 with
  | none => rfl
  | some ds =>
    show wpR (match g ds with
      | some z => .ok z h1
      | none => .stuck) κl ε = optK (g ds) _
    cases g ds <;> rfl
theorem w_call {D : LFn} {fa : En → Hl → R (List Val)} : wpR (callE D fa ρ h) κ ε = wpR (fa ρ h) (fun vs h1 => wpR (D vs h1) κ ε) ε := by
  unfold callE
  rw [wpR_bind]
theorem w_no : wpR (noD ρ h) κo ε = κo none h := rfl
def intK (v : Val) (k : Int → Prop) : Prop := match v with
  | .dat (.int b) => k b
  | _ => False
theorem intK_i {b : Int} {k : Int → Prop} : intK (.dat (.int b)) k = k b := rfl
theorem w_some {f : En → Hl → R Val} : wpR (someD f ρ h) κo ε = wpR (f ρ h) (fun v h1 => intK v fun i => κo (some i) h1) ε := by
  unfold someD
  rw [wpR_bind]
  congr 1
  funext v h1
  cases v with
  | dat d => cases d <;> rfl
  | ref k => rfl
  | scr n => rfl
/-- a slice's value -/
def slV (a : Val) (lo hi : Option Int) (h : Hl) : Option PyData := match a with
  | .scr ns => some (.list (cutDs (ns.map .int) lo hi))
  | a => (peek a h).bind (slD lo hi)
theorem w_slice {f : En → Hl → R Val} {fl fh : En → Hl → R (Option Int)} : wpR (sliceD f fl fh ρ h) κ ε = wpR (f ρ h) (fun a h1 => wpR (fl ρ h1) (fun lo h2 => wpR (fh ρ h2) (fun hi h3 => optK (slV a lo hi h3) fun z => κ (.dat z) h3) ε) ε) ε := by
  unfold sliceD
  rw [wpR_bind]
  congr 1
  funext a h1
  rw [wpR_bind]
  congr 1
  funext lo h2
  rw [wpR_bind]
  congr 1
  funext hi h3
  have aux : ∀ a : Val, wpR (match peek a h3 with
      | some d => (match slD lo hi d with
        | some z => .ok (.dat z) h3
        | none => .stuck)
      | none => .stuck : R Val) κ ε = optK ((peek a h3).bind (slD lo hi)) fun z => κ (.dat z) h3 := by
    intro a
    cases peek a h3 with
    | none => rfl
    | some d =>
      show wpR (match slD lo hi d with
        | some z => .ok (.dat z) h3
        | none => .stuck) κ ε = optK (slD lo hi d) _
      cases slD lo hi d <;> rfl
  cases a with
  | scr ns => rfl
  | dat d => exact aux (.dat d)
  | ref k => exact aux (.ref k)
/-! own lists -/
def ownL (a : Val) (h : Hl) : Option (Nat × List PyData) := match a with
  | .ref k => (match h[k]? with
    | some (some (.lst ds)) => some (k, ds)
    | _ => none)
  | _ => none
end
end Dn
end

section
/-! Dn, part 13: reckoning with own lists and statements -/
namespace Dn
open PySem PySem.Spec PyProof.Rows L2
/-- the own list at a place -/
def lstAt (h : Hl) (k : Nat) : Option (List PyData) := match h[k]? with
  | some (some (.lst ds)) => some ds
  | _ => none
def oneK (vs : List Val) (k : PyData → Prop) : Prop := match vs with
  | [.dat d] => k d
  | _ => False
theorem oneK_d {d : PyData} {k : PyData → Prop} : oneK [.dat d] k = k d := rfl
theorem peek_d {d : PyData} {h : Hl} : peek (.dat d) h = some d := rfl
theorem peek_r {k : Nat} {h : Hl} : peek (.ref k) h = (lstAt h k).map .list := by
  unfold peek lstAt
  dsimp only
  cases h[k]? with
  | none => rfl
  | some o => cases o with
    | none => rfl
    | some o => cases o <;> rfl
theorem peeks_n {h : Hl} : peeks [] h = some [] := rfl
theorem peeks_c {v : Val} {vs : List Val} {h : Hl} : peeks (v :: vs) h = (peek v h).bind fun d => (peeks vs h).map (d :: ·) := by
  show (match peek v h, peeks vs h with
    | some d, some ds => some (d :: ds)
    | _, _ => none) = _
  cases peek v h <;> cases peeks vs h <;> rfl
theorem lst_z {ds : List PyData} {h : Hl} : lstAt (some (.lst ds) :: h) 0 = some ds := rfl
theorem lst_s {k : Nat} {o : Option HObj} {h : Hl} : lstAt (o :: h) (k + 1) = lstAt h k := rfl
theorem lst_lt {h : Hl} {k : Nat} {ds : List PyData} (e : lstAt h k = some ds) : k < h.length := by
  unfold lstAt at e
  split at e
  · rename_i g
    exact lt_of_getS g
  · cases e
theorem lst_get {h : Hl} {k : Nat} {ds : List PyData} (e : lstAt h k = some ds) : h[k]? = some (some (.lst ds)) := by
  unfold lstAt at e
  split at e
  · rename_i g
    cases e
    exact g
  · cases e
theorem lst_set {h : Hl} {k : Nat} {ds es : List PyData} (e : lstAt h k = some ds) : lstAt (h.set k (some (.lst es))) k = some es := by
  unfold lstAt
  rw [List.getElem?_set_self (lst_lt e)]
theorem lst_ne {h : Hl} {i k : Nat} {o : Option HObj} (e : i ≠ k) : lstAt (h.set i o) k = lstAt h k := by
  unfold lstAt
  rw [List.getElem?_set_ne e]
theorem lst_app {h g : Hl} {k : Nat} {ds : List PyData} (e : lstAt h k = some ds) : lstAt (h ++ g) k = some ds := by
  unfold lstAt
  rw [List.getElem?_append_left (lst_lt e), lst_get e]
theorem lst_end {h : Hl} {ds : List PyData} : lstAt (h ++ [some (.lst ds)]) h.length = some ds := by
  unfold lstAt
  rw [List.getElem?_append_right (Nat.le_refl _), Nat.sub_self]
  rfl
theorem own_r {k : Nat} {h : Hl} : ownK (.ref k) h = (lstAt h k).map fun _ => k := by
  unfold ownK lstAt
  dsimp only
  cases h[k]? with
  | none => rfl
  | some o => cases o with
    | none => rfl
    | some o => cases o <;> rfl

section
variable {κ : Val → Hl → Prop} {κi : ItD → Hl → Prop} {ε : Exc → Hl → Prop} {ρ : En} {h : Hl}
theorem w_app {fo : En → Hl → R Val} {fa : En → Hl → R (List Val)} : wpR (appD fo fa ρ h) κ ε = wpR (fo ρ h) (fun a h1 => optK (ownK a h1) fun k => wpR (fa ρ h1) (fun vs h2 => oneK vs fun d => optK (lstAt h2 k) fun ds => ds.length < sizeLine ∧ κ (.dat .none) (h2.set k (some (.lst (ds ++ [d]))))) ε) ε := by
  unfold appD
  rw [wpR_bind]
  congr 1
  funext a h1
  cases ownK a h1 with
  | none => rfl
  | some k =>
    rw [optK_some]
    dsimp only
    rw [wpR_bind]
    congr 1
    funext vs h2
    unfold oneK lstAt
    cases vs with
    | nil => rfl
    | cons v vs =>
      cases vs with
      | cons w vs => cases v <;> rfl
      | nil =>
        cases v with
        | ref k => rfl
        | scr k => rfl
        | dat d =>
          dsimp only
          cases h2[k]? with
          | none => rfl
          | some o => cases o with
            | none => rfl
            | some o =>
              cases o with
              | dct kvs => rfl
              | lst ds =>
                dsimp only
                rw [optK_some]
                by_cases q : ds.length < sizeLine
                · rw [if_pos q]; simp only [q, true_and]; rfl
                · rw [if_neg q]; simp only [q, false_and]; rfl
def oneL (d : Option (List PyData)) (k : List PyData → Prop) : Prop := match d with
  | some [.list es] => k es
  | _ => False
theorem oneL_d {es : List PyData} {k : List PyData → Prop} : oneL (some [.list es]) k = k es := rfl
theorem w_ext {fo : En → Hl → R Val} {fa : En → Hl → R (List Val)} : wpR (extD fo fa ρ h) κ ε = wpR (fo ρ h) (fun a h1 => optK (ownK a h1) fun k => wpR (fa ρ h1) (fun vs h2 => oneL (peeks vs h2) fun es => optK (lstAt h2 k) fun ds => ds.length + es.length ≤ sizeLine ∧ κ (.dat .none) (h2.set k (some (.lst (ds ++ es))))) ε) ε := by
  unfold extD
  rw [wpR_bind]
  congr 1
  funext a h1
  cases ownK a h1 with
  | none => rfl
  | some k =>
    rw [optK_some]
    dsimp only
    rw [wpR_bind]
    congr 1
    funext vs h2
    unfold oneL lstAt
    cases peeks vs h2 with
    | none => rfl
    | some es =>
      cases es with
      | nil => rfl
      | cons v es =>
        cases es with
        | cons w vs => cases v <;> rfl
        | nil =>
          cases v with
          | list d =>
            dsimp only
            cases h2[k]? with
            | none => rfl
            | some o => cases o with
              | none => rfl
              | some o =>
                cases o with
                | dct kvs => rfl
                | lst ds =>
                  dsimp only
                  rw [optK_some]
                  by_cases q : ds.length + d.length ≤ sizeLine
                  · rw [if_pos q]; simp only [q, true_and]; rfl
                  · rw [if_neg q]; simp only [q, false_and]; rfl
          | _ => rfl
theorem w_pop {fo : En → Hl → R Val} : wpR (popD fo ρ h) κ ε = wpR (fo ρ h) (fun a h1 => optK (ownK a h1) fun k => optK (lstAt h1 k) fun ds => optK ds[ds.length - 1]? fun d => κ (.dat d) (h1.set k (some (.lst ds.dropLast)))) ε := by
  unfold popD
  rw [wpR_bind]
  congr 1
  funext a h1
  cases ownK a h1 with
  | none => rfl
  | some k =>
    rw [optK_some]
    dsimp only
    unfold lstAt
    cases h1[k]? with
    | none => rfl
    | some o => cases o with
      | none => rfl
      | some o =>
        cases o with
        | dct kvs => rfl
        | lst ds =>
          dsimp only
          rw [optK_some]
          cases ds[ds.length - 1]? <;> rfl
/-- what is walked -/
def itemsOf (v : Val) (h : Hl) : Option ItD := match v with
  | .dat (.list ds) => some ⟨ds, none⟩
  | .dat (.tuple ds) => some ⟨ds, none⟩
  | .dat (.str z) => some ⟨signsD z, none⟩
  | .ref k => (lstAt h k).map fun ds => ⟨ds, some (k, false)⟩
  | _ => none
theorem w_seqD {f : En → Hl → R Val} : wpR (seqD f ρ h) κi ε = wpR (f ρ h) (fun v h1 => optK (itemsOf v h1) fun it => κi it h1) ε := by
  unfold seqD
  rw [wpR_bind]
  congr 1
  funext v h1
  cases v with
  | dat d => cases d <;> rfl
  | scr n => rfl
  | ref k =>
    unfold itemsOf lstAt seqI
    cases e : h1[k]? with
    | none => simp only [e]; rfl
    | some o => cases o with
      | none => simp only [e]; rfl
      | some o => cases o <;> (simp only [e]; rfl)
def rngK (vs : List Val) (k : Int → Prop) : Prop := match vs with
  | [.dat (.int j)] => rngOk j = true ∧ k j
  | _ => False
theorem rngK_i {j : Int} {k : Int → Prop} : rngK [.dat (.int j)] k = (rngOk j = true ∧ k j) := rfl
theorem w_rng1 {fa : En → Hl → R (List Val)} : wpR (rng1D fa ρ h) κi ε = wpR (fa ρ h) (fun vs h1 => rngK vs fun j => κi ⟨rngItems 0 j.toNat, none⟩ h1) ε := by
  unfold rng1D
  rw [wpR_bind]
  congr 1
  funext vs h1
  cases vs with
  | nil => rfl
  | cons v vs =>
    cases vs with
    | cons w vs => cases v with
      | dat d => cases d <;> rfl
      | _ => rfl
    | nil => cases v with
      | dat d => cases d with
        | int j =>
          show wpR (if rngOk j = true then .ok ⟨rngItems 0 j.toNat, none⟩ h1 else .stuck : R ItD) κi ε = (rngOk j = true ∧ _)
          by_cases q : rngOk j = true
          · rw [if_pos q]; simp only [q, true_and]; rfl
          · rw [if_neg q]
            exact propext ⟨fun z => z.elim, fun z => q z.1⟩
        | _ => rfl
      | _ => rfl
end

section
variable {ρ : En} {h : Hl} {C : Ctl} {N : En → Hl → Prop}
/-! statements -/
theorem s_nil : wpS (nilS ρ h) N C = N ρ h := rfl
theorem s_brk : wpS (brkS ρ h) N C = C.bk ρ h := rfl
theorem s_cont : wpS (contS ρ h) N C = C.ct ρ h := rfl
theorem s_never : wpS (neverS ρ h) N C = False := rfl
theorem s_seq {f g : En → Hl → SR} : wpS (seqS f g ρ h) N C = wpS (f ρ h) (fun ρ' h' => wpS (g ρ' h') N C) C := by
  unfold seqS
  cases f ρ h <;> rfl
theorem s_ofR {β : Type} {r : R β} {k : β → Hl → SR} : wpS (ofR r ρ k) N C = wpR r (fun b h' => wpS (k b h') N C) (fun e h' => C.ex e ρ h') := by cases r <;> rfl
theorem s_expr {f : En → Hl → R Val} : wpS (exprS f ρ h) N C = wpR (f ρ h) (fun _ h' => N ρ h') (fun e h' => C.ex e ρ h') := s_ofR
theorem s_ret {f : En → Hl → R Val} : wpS (retS f ρ h) N C = wpR (f ρ h) C.rt (fun e h' => C.ex e ρ h') := s_ofR
theorem s_retN : wpS (retN ρ h) N C = C.rt (.dat .none) h := rfl
theorem s_set {i : Nat} {f : En → Hl → R Val} : wpS (setS i f ρ h) N C = wpR (f ρ h) (fun v h' => N (ρ.set i (some v)) h') (fun e h' => C.ex e ρ h') := s_ofR
theorem s_setL {i : Nat} {f : En → Hl → R (List PyData)} : wpS (setL i f ρ h) N C = wpR (f ρ h) (fun ds h' => N (ρ.set i (some (.dat (.list ds)))) h') (fun e h' => C.ex e ρ h') := s_ofR
theorem s_newL {i : Nat} {f : En → Hl → R (List PyData)} : wpS (newL i f ρ h) N C = wpR (f ρ h) (fun ds h' => N (ρ.set i (some (.ref h'.length))) (h' ++ [some (.lst ds)])) (fun e h' => C.ex e ρ h') := s_ofR
theorem s_unp {g : DG} {f : En → Hl → R Val} : wpS (unpS g f ρ h) N C = wpR (f ρ h) (fun v h' => optK (setG g v ρ) fun ρ' => N ρ' h') (fun e h' => C.ex e ρ h') := by
  unfold unpS
  rw [s_ofR]
  congr 1
  funext v h1
  cases setG g v ρ <;> rfl
def twoK (vs : List Val) (k : Val → Val → Prop) : Prop := match vs with
  | [a, b] => k a b
  | _ => False
theorem twoK_2 {a b : Val} {k : Val → Val → Prop} : twoK [a, b] k = k a b := rfl
theorem s_par {i j : Nat} {fa : En → Hl → R (List Val)} : wpS (parS i j fa ρ h) N C = wpR (fa ρ h) (fun vs h' => twoK vs fun v w => N ((ρ.set i (some v)).set j (some w)) h') (fun e h' => C.ex e ρ h') := by
  unfold parS
  rw [s_ofR]
  congr 1
  funext vs h1
  match vs with
  | [] => rfl
  | [_] => rfl
  | [_, _] => rfl
  | _ :: _ :: _ :: _ => rfl
theorem s_aug {i : Nat} {g : PyData → PyData → Option PyData} {f : En → Hl → R Val} : wpS (augS i g f ρ h) N C = optK (ρ[i]?).join fun v => wpR (f ρ h) (fun w h1 => optK (peek v h1) fun d => optK (peek w h1) fun e => optK (g d e) fun z => N (ρ.set i (some (.dat z))) h1) (fun e h' => C.ex e ρ h') := by
  unfold augS
  cases e : ρ[i]? with
  | none => rfl
  | some o =>
    cases o with
    | none => rfl
    | some v =>
      show wpS (ofR (f ρ h) ρ fun w h1 => ofR (opV g v w h1) ρ fun z h2 => .next (ρ.set i (some z)) h2) N C = _
      rw [s_ofR]
      show _ = wpR (f ρ h) _ _
      congr 1
      funext w h1
      rw [s_ofR, w_op]
      rfl
def sixK (v a b : Val) (k : PyData → Nat → Int → Prop) : Prop := match v, a, b with
  | .dat d, .ref m, .dat (.int i) => k d m i
  | _, _, _ => False
theorem sixK_r {d : PyData} {m : Nat} {i : Int} {k : PyData → Nat → Int → Prop} : sixK (.dat d) (.ref m) (.dat (.int i)) k = k d m i := rfl
theorem s_six {fe fo fi : En → Hl → R Val} : wpS (sixS fe fo fi ρ h) N C = wpR (fe ρ h) (fun v h1 => wpR (fo ρ h1) (fun a h2 => wpR (fi ρ h2) (fun b h3 => sixK v a b fun d m i => optK (lstAt h3 m) fun ds => optK (ixN ds.length i) fun j => N ρ (h3.set m (some (.lst (ds.set j d)))))
    (fun e h' => C.ex e ρ h')) (fun e h' => C.ex e ρ h')) (fun e h' => C.ex e ρ h') := by
  unfold sixS
  rw [s_ofR]
  congr 1
  funext v h1
  rw [s_ofR]
  congr 1
  funext a h2
  rw [s_ofR]
  congr 1
  funext b h3
  unfold sixK lstAt
  cases v with
  | ref k => rfl
  | scr k => rfl
  | dat d =>
    cases a with
    | dat k => rfl
    | scr k => rfl
    | ref m =>
      cases b with
      | ref k => rfl
      | scr k => rfl
      | dat b =>
        cases b with
        | int i =>
          dsimp only
          cases h3[m]? with
          | none => rfl
          | some o => cases o with
            | none => rfl
            | some o =>
              cases o with
              | dct kvs => rfl
              | lst ds =>
                dsimp only
                rw [optK_some]
                cases ixN ds.length i <;> rfl
        | _ => rfl
theorem s_if {c : En → Hl → R Bool} {f g : En → Hl → SR} : wpS (ifS c f g ρ h) N C = wpR (c ρ h) (fun b h' => if b = true then wpS (f ρ h') N C else wpS (g ρ h') N C) (fun e h' => C.ex e ρ h') := by
  unfold ifS
  rw [s_ofR]
  congr 1
  funext b h1
  cases b <;> rfl
theorem s_for {fi : En → Hl → R ItD} {g : DG} {tb : En → Hl → SR} : wpS (forS fi g tb ρ h) N C = wpR (fi ρ h) (fun it h' => wpS (forL it g tb it.items ρ h') N C) (fun e h' => C.ex e ρ h') := s_ofR
/-- a loop by its invariant -/
theorem for_rule {it : ItD} {g : DG} {tb : En → Hl → SR} (I : List PyData → En → Hl → Prop)
    (step : ∀ d ds ρ h, I (d :: ds) ρ h → ckD it h = true ∧ optK (setG g (.dat d) ρ) fun ρ1 => wpS (tb ρ1 h) (I ds) { C with bk := N, ct := I ds })
    (fin : ∀ ρ h, I [] ρ h → ckD it h = true ∧ N ρ h) : ∀ (ds : List PyData) (ρ : En) (h : Hl), I ds ρ h → wpS (forL it g tb ds ρ h) N C
  | [], ρ, h, i => by
    obtain ⟨a, b⟩ := fin ρ h i
    unfold forL
    rw [if_pos a]
    exact b
  | d :: ds, ρ, h, i => by
    obtain ⟨a, b⟩ := step d ds ρ h i
    unfold forL
    rw [if_pos a]
    cases e : setG g (.dat d) ρ with
    | none => rw [e] at b; exact b.elim
    | some ρ1 =>
      rw [e, optK_some] at b
      dsimp only
      cases e2 : tb ρ1 h with
      | stuck => rw [e2] at b; exact b
      | next ρ2 h2 => rw [e2] at b; exact for_rule I step fin ds ρ2 h2 b
      | cont ρ2 h2 => rw [e2] at b; exact for_rule I step fin ds ρ2 h2 b
      | brk ρ2 h2 => rw [e2] at b; exact b
      | ret v h2 => rw [e2] at b; exact b
      | exc x ρ2 h2 => rw [e2] at b; exact b
/-- a comprehension by its invariant -/
theorem comp_rule {it : ItD} {g : DG} {tt : En → Hl → R Bool} {fe : En → Hl → R Val} {ρ0 : En} {κ : List PyData → Hl → Prop} {ε : Exc → Hl → Prop} (I : List PyData → List PyData → Hl → Prop)
    (step : ∀ d ds acc h, I (d :: ds) acc h → ckD it h = true ∧ optK (setG g (.dat d) ρ0) fun ρ1 => wpR (tt ρ1 h) (fun b h2 => if b = true then wpR (fe ρ1 h2) (fun v h3 => oneK [v] fun z => acc.length < sizeLine ∧ I ds (acc ++ [z]) h3) noX else I ds acc h2) noX)
    (fin : ∀ acc h, I [] acc h → ckD it h = true ∧ κ acc h) : ∀ (ds acc : List PyData) (h : Hl), I ds acc h → wpR (compL it g tt fe ρ0 ds acc h) κ ε
  | [], acc, h, i => by
    obtain ⟨a, b⟩ := fin acc h i
    unfold compL
    rw [if_pos a]
    exact b
  | d :: ds, acc, h, i => by
    obtain ⟨a, b⟩ := step d ds acc h i
    unfold compL
    rw [if_pos a]
    cases e : setG g (.dat d) ρ0 with
    | none => rw [e] at b; exact b.elim
    | some ρ1 =>
      rw [e, optK_some] at b
      dsimp only
      cases e2 : tt ρ1 h with
      | stuck => rw [e2] at b; exact b.elim
      | exc x h2 => rw [e2] at b; exact b.elim
      | ok t h2 =>
        rw [e2, wpR_ok] at b
        cases t with
        | false => exact comp_rule I step fin ds acc h2 b
        | true =>
          rw [if_pos rfl] at b
          dsimp only
          cases e3 : fe ρ1 h2 with
          | stuck => rw [e3] at b; exact b.elim
          | exc x h3 => rw [e3] at b; exact b.elim
          | ok v h3 =>
            rw [e3, wpR_ok] at b
            cases v with
            | ref k => exact b.elim
            | scr k => exact b.elim
            | dat z =>
              rw [oneK_d] at b
              dsimp only
              rw [if_pos b.1]
              exact comp_rule I step fin ds (acc ++ [z]) h3 b.2
theorem w_comp {fi : En → Hl → R ItD} {vs : List Nat} {g : DG} {tt : En → Hl → R Bool} {fe : En → Hl → R Val} {κ : List PyData → Hl → Prop} {ε : Exc → Hl → Prop} :
    wpR (compD fi vs g tt fe ρ h) κ ε = wpR (fi ρ h) (fun it h1 => wpR (compL it g tt fe (wipeE ρ vs) it.items [] h1) κ ε) ε := by
  unfold compD
  rw [wpR_bind]
def rtK (n : Nat) (v : Val) (h' : Hl) (κ : Val → Hl → Prop) : Prop := match v with
  | .ref i => if i < n then κ (.ref i) (h'.take n) else optK (lstAt h' i) fun ds => κ (.dat (.list ds)) (h'.take n)
  | v => κ v (h'.take n)
theorem rtK_d {n : Nat} {d : PyData} {h' : Hl} {κ : Val → Hl → Prop} : rtK n (.dat d) h' κ = κ (.dat d) (h'.take n) := rfl
theorem rtK_r {n i : Nat} {h' : Hl} {κ : Val → Hl → Prop} (q : n ≤ i) : rtK n (.ref i) h' κ = optK (lstAt h' i) fun ds => κ (.dat (.list ds)) (h'.take n) := if_neg (Nat.not_lt.mpr q)
/-- a def's call by its body -/
theorem fn_rule {np nv : Nat} {B : En → Hl → SR} {vs : List Val} {κ : Val → Hl → Prop} {ε : Exc → Hl → Prop} (hn : vs.length = np)
    (w : wpS (B (vs.map some ++ List.replicate (nv - np) none) h) (fun _ h' => κ (.dat .none) (h'.take h.length)) { rt := fun v h' => rtK h.length v h' κ, ex := fun e _ h' => ε e (h'.take h.length) }) : wpR (fnD np nv B vs h) κ ε := by
  unfold fnD
  rw [if_pos hn]
  cases e : B (vs.map some ++ List.replicate (nv - np) none) h with
  | stuck => rw [e] at w; exact w.elim
  | brk _ _ => rw [e] at w; exact w.elim
  | cont _ _ => rw [e] at w; exact w.elim
  | next _ _ => rw [e] at w; exact w
  | exc _ _ _ => rw [e] at w; exact w
  | ret v h' =>
    rw [e] at w
    cases v with
    | dat d => exact w
    | scr n => exact w
    | ref i =>
      have w' : if i < h.length then κ (.ref i) (h'.take h.length) else optK (lstAt h' i) fun ds => κ (.dat (.list ds)) (h'.take h.length) := w
      unfold cutR
      dsimp only
      by_cases q : i < h.length
      · rw [if_pos q] at w' ⊢
        exact w'
      · rw [if_neg q] at w' ⊢
        cases g : lstAt h' i with
        | none => rw [g] at w'; exact w'.elim
        | some ds =>
          rw [g] at w'
          rw [lst_get g]
          exact w'
end
end Dn
end

section
/-! Dn, part 14: what operators give on data -/
namespace Dn
open PySem PySem.Spec PyProof.Rows L2
theorem datsV_n : datsV [] = some [] := rfl
theorem datsV_d {d : PyData} {vs : List Val} : datsV (.dat d :: vs) = (datsV vs).map (d :: ·) := rfl
theorem call_at {P : List DefR} {k i : Nat} {r : DefR} (g : P[i]? = some r) : callD P (k + 1) i = fnD r.ps.length r.N.length (r.body (callD P k)) := by
  show (match P[i]? with
    | some r => fnD r.ps.length r.N.length (r.body (callD P k))
    | none => fun _ _ => .stuck) = _
  rw [g]
theorem setG_n {i : Nat} {v : Val} {ρ : En} : setG (.nm i) v ρ = some (ρ.set i (some v)) := by rw [setG]
theorem setG_t {gs : List DG} {ds : List PyData} {ρ : En} : setG (.tp gs) (.dat (.tuple ds)) ρ = setGs gs ds ρ := by rw [setG]
theorem setGs_n {ρ : En} : setGs [] [] ρ = some ρ := by rw [setGs]
theorem setGs_c {g : DG} {gs : List DG} {d : PyData} {ds : List PyData} {ρ : En} : setGs (g :: gs) (d :: ds) ρ = (setG g (.dat d) ρ).bind (setGs gs ds) := by rw [setGs]
theorem wipe_n {ρ : En} : wipeE ρ [] = ρ := rfl
theorem wipe_c {ρ : En} {v : Nat} {vs : List Nat} : wipeE ρ (v :: vs) = (wipeE ρ vs).set v none := rfl
def mvK (v : Val) (h : Hl) (κ : Val → Hl → Prop) : Prop := match v with
  | .ref k => optK (lstAt h k) fun ds => κ (.dat (.list ds)) (h.set k none)
  | v => κ v h
theorem mvK_d {d : PyData} {h : Hl} {κ : Val → Hl → Prop} : mvK (.dat d) h κ = κ (.dat d) h := rfl
theorem mvK_r {k : Nat} {h : Hl} {κ : Val → Hl → Prop} : mvK (.ref k) h κ = optK (lstAt h k) fun ds => κ (.dat (.list ds)) (h.set k none) := rfl
theorem w_mv2 {i : Nat} {ρ : En} {h : Hl} {κ : Val → Hl → Prop} {ε : Exc → Hl → Prop} : wpR (mvD i ρ h) κ ε = optK (ρ[i]?).join fun v => mvK v h κ := by
  rw [w_mv]
  congr 1
  funext v
  cases v with
  | dat d => rfl
  | scr n => rfl
  | ref k =>
    rw [mvK_r]
    dsimp only
    unfold lstAt
    cases h[k]? with
    | none => rfl
    | some o => cases o with
      | none => rfl
      | some o => cases o <;> rfl
/-! subscripts -/
theorem ixN_nat {n j : Nat} (h : j < n) : ixN n (j : Int) = some j := by
  unfold ixN
  rw [if_pos (Int.natCast_nonneg j), if_pos (by omega)]
  rfl
theorem atI_nat' {α : Type} {xs : List α} {j : Nat} (h : j < xs.length) : atI xs (j : Int) = some xs[j] := by
  unfold atI
  rw [ixN_nat h]
  exact List.getElem?_eq_getElem h
theorem ix_l {xs : List PyData} {i : Int} : ixD (.list xs) (.int i) = atI xs i := rfl
theorem ix_t {xs : List PyData} {i : Int} : ixD (.tuple xs) (.int i) = atI xs i := rfl
theorem atI_0 {a : PyData} {r : List PyData} : atI (a :: r) 0 = some a := atI_nat' (j := 0) (by simp)
theorem atI_1 {a b : PyData} {r : List PyData} : atI (a :: b :: r) 1 = some b := atI_nat' (j := 1) (by simp)
theorem atI_2 {a b c : PyData} {r : List PyData} : atI (a :: b :: c :: r) 2 = some c := atI_nat' (j := 2) (by simp)
theorem atI_3 {a b c d : PyData} {r : List PyData} : atI (a :: b :: c :: d :: r) 3 = some d := atI_nat' (j := 3) (by simp)
theorem ixN_0 {n : Nat} : ixN (n + 1) 0 = some 0 := ixN_nat (j := 0) (by omega)
theorem ixN_1 {n : Nat} : ixN (n + 1 + 1) 1 = some 1 := ixN_nat (j := 1) (by omega)
theorem atI_mem {α : Type} {xs : List α} {i : Int} (h0 : 0 ≤ i) (h1 : i < xs.length) : ∃ x, atI xs i = some x ∧ x ∈ xs := by
  obtain ⟨j, rfl⟩ := Int.eq_ofNat_of_zero_le h0
  have hj : j < xs.length := by omega
  exact ⟨xs[j], atI_nat' hj, List.getElem_mem hj⟩
/-! whole numbers -/
theorem add_i {i j : Int} : addD (.int i) (.int j) = some (.int (i + j)) := rfl
theorem sub_i {i j : Int} : subD (.int i) (.int j) = some (.int (i - j)) := rfl
theorem iadd_i {i j : Int} : iaddD (.int i) (.int j) = some (.int (i + j)) := rfl
theorem mul_l {i j : Int} (h1 : -(2 ^ 64) < i) (h2 : i < 2 ^ 64) : mulI (.int i) (.int j) = some (.int (i * j)) := by
  show (if mulC i j = true then _ else _) = _
  rw [if_pos]
  simp only [mulC, Bool.or_eq_true, Bool.and_eq_true, decide_eq_true_eq]
  exact .inl ⟨h1, h2⟩
theorem mul_r {i j : Int} (h1 : -(2 ^ 64) < j) (h2 : j < 2 ^ 64) : mulI (.int i) (.int j) = some (.int (i * j)) := by
  show (if mulC i j = true then _ else _) = _
  rw [if_pos]
  simp only [mulC, Bool.or_eq_true, Bool.and_eq_true, decide_eq_true_eq]
  exact .inr ⟨h1, h2⟩
theorem div_i {i j : Int} (h1 : 0 < j) (h2 : j < 1073741824) : divD (.int i) (.int j) = some (.int (i / j)) := by
  show (if divC i j = true then _ else _) = _
  rw [if_pos]
  simp [divC, h1, h2]
theorem mod_i {i j : Int} (h1 : 0 < j) : modD (.int i) (.int j) = some (.int (i % j)) := by
  show (if decide (0 < j) = true then _ else _) = _
  rw [if_pos (decide_eq_true h1)]
theorem lt_i {i j : Int} : ltD (.int i) (.int j) = some (.bool (decide (i < j))) := rfl
theorem le_i {i j : Int} : leD (.int i) (.int j) = some (.bool (decide (i ≤ j))) := rfl
theorem gt_i {i j : Int} : gtD (.int i) (.int j) = some (.bool (decide (j < i))) := rfl
theorem ge_i {i j : Int} : geD (.int i) (.int j) = some (.bool (decide (j ≤ i))) := rfl
theorem eq_of {d e : PyData} (h : dpt d e = true) : eqD d e = some (.bool (PyData.eqv d e)) := if_pos h
theorem eq_i {i j : Int} : eqD (.int i) (.int j) = some (.bool (i == j)) := by
  rw [eq_of (by simp [dpt, PyData.depth])]
  simp [PyData.eqv]
theorem eq_s {i j : Str} : eqD (.str i) (.str j) = some (.bool (i == j)) := by
  rw [eq_of (by simp [dpt, PyData.depth])]
  simp [PyData.eqv]
theorem len_l {xs : List PyData} : lenD [.list xs] = some (.int xs.length) := rfl
theorem len_t {xs : List PyData} : lenD [.tuple xs] = some (.int xs.length) := rfl
theorem len_s {z : Str} (h : z.length ≤ sizeLine) : lenD [.str z] = some (.int z.length) := if_pos h
theorem int_i {i : Int} : Dn.intD [.int i] = some (.int i) := rfl
theorem abs_i {i : Int} : absD [.int i] = some (.int (if i < 0 then -i else i)) := rfl
theorem max_i {i j : Int} : max2D [.int i, .int j] = some (.int (if j > i then j else i)) := rfl
theorem tuple_l {xs : List PyData} : tupleD [.list xs] = some (.tuple xs) := rfl
theorem tuple_t {xs : List PyData} : tupleD [.tuple xs] = some (.tuple xs) := rfl
theorem sizeLine_val : sizeLine = 16777216 := by first | rfl | decide
end Dn
end

section
/-! Dn, part 15: order and sorting of data -/
namespace Dn
open PySem PySem.Spec PyProof.Rows L2
abbrev lessD (d e : PyData) : Prop := PySem.W.dataLt d e = true
abbrev likeD (d e : PyData) : Prop := PySem.W.alike d e = true
theorem dlt_irrefl (d : PyData) : PySem.W.dataLt d d = false := (listOrd itemOrd).irrefl _
theorem dlt_trans {a b c : PyData} (h : lessD a b) (g : lessD b c) : lessD a c := (listOrd itemOrd).trans _ _ _ h g
theorem dlt_asymm {a b : PyData} (h : lessD a b) : PySem.W.dataLt b a = false := by
  cases q : PySem.W.dataLt b a with
  | false => rfl
  | true =>
    have z := dlt_trans h q
    rw [lessD, dlt_irrefl] at z
    cases z
theorem eqv_toks {d e : PyData} (h : likeD d e) : PyData.eqv d e = true ↔ PySem.W.keyToks d = PySem.W.keyToks e := by
  obtain ⟨a, b⟩ := PySem.W.toks_eqv d e h
  refine ⟨a, fun q => ?_⟩
  cases g : PyData.eqv d e with
  | true => rfl
  | false =>
    have z := b g [] [.inl 0]
    rw [q, List.append_nil] at z
    have y := PySem.W.lex_pre (PySem.W.keyToks e) [] [.inl 0]
    rw [List.append_nil] at y
    rw [y] at z
    have x : lexLt itemOrd (PySem.W.keyToks e) (PySem.W.keyToks e) = false := (listOrd itemOrd).irrefl _
    rw [x] at z
    cases z
theorem dlt_tri {d e : PyData} (h : likeD d e) (n : PyData.eqv d e = false) (g : PySem.W.dataLt e d = false) : lessD d e := by
  cases q : PySem.W.dataLt d e with
  | true => exact q
  | false =>
    have z : PySem.W.keyToks d = PySem.W.keyToks e := (listOrd itemOrd).total _ _ q g
    rw [(eqv_toks h).mpr z] at n
    cases n
theorem dlt_ne {d e : PyData} (h : likeD d e) (g : lessD d e) : PyData.eqv d e = false := by
  cases q : PyData.eqv d e with
  | false => rfl
  | true =>
    have z := (eqv_toks h).mp q
    have y : lexLt itemOrd (PySem.W.keyToks d) (PySem.W.keyToks e) = true := g
    rw [z] at y
    have x : lexLt itemOrd (PySem.W.keyToks e) (PySem.W.keyToks e) = false := (listOrd itemOrd).irrefl _
    rw [x] at y
    cases y
theorem sortL_perm (ds : List PyData) : (sortL ds).Perm ds := List.mergeSort_perm _ _
theorem sortL_mem {ds : List PyData} {d : PyData} : d ∈ sortL ds ↔ d ∈ ds := (sortL_perm ds).mem_iff
theorem sortL_le (ds : List PyData) : (sortL ds).Pairwise fun d e => PySem.W.dataLt e d = false := by
  have t := PySem.W.sortLe_total (listOrd itemOrd) false fun d : PyData => PySem.W.keyToks d
  have q := List.pairwise_mergeSort (le := PySem.W.dataLe false fun d : PyData => d) (fun a b c h g => t.trans a b c h g) (fun a b => by
    rcases t.total a b with h | h
    · exact Bool.or_eq_true _ _ ▸ Or.inl h
    · exact Bool.or_eq_true _ _ ▸ Or.inr h) ds
  refine q.imp fun {a b} h => ?_
  have h' : (!PySem.W.dataLt b a) = true := h
  simpa using h'
/-- sorted, if no two are equal: ascending -/
theorem sortL_asc {ds : List PyData} (hal : ∀ d ∈ ds, ∀ e ∈ ds, likeD d e) (nd : ds.Pairwise fun d e => PyData.eqv d e = false) : (sortL ds).Pairwise lessD := by
  have n1 : (ds.map PySem.W.keyToks).Nodup := by
    rw [List.Nodup, List.pairwise_map]
    refine nd.imp_of_mem fun {a b} ha hb h => ?_
    intro z
    rw [(eqv_toks (hal a ha b hb)).mpr z] at h
    cases h
  have n2 : ((sortL ds).map PySem.W.keyToks).Nodup := ((sortL_perm ds).map _).nodup_iff.mpr n1
  rw [List.Nodup, List.pairwise_map] at n2
  refine ((sortL_le ds).and n2).imp_of_mem fun {a b} ha hb h => ?_
  have ha' := sortL_mem.mp ha
  have hb' := sortL_mem.mp hb
  refine dlt_tri (hal a ha' b hb') ?_ h.1
  cases q : PyData.eqv a b with
  | false => rfl
  | true => exact absurd ((eqv_toks (hal a ha' b hb')).mp q) h.2
end Dn
end

section
/-! Dn, part 16: pure comprehensions; concepts as data -/
namespace Dn
open PySem PySem.Spec PyProof.Rows L2
theorem comp_map {it : ItD} {g : DG} {fe : En → Hl → R Val} {ρ0 : En} {h : Hl} (f : PyData → PyData) : ∀ (ds acc : List PyData), ckD it h = true → acc.length + ds.length ≤ sizeLine →
    (∀ d ∈ ds, optK (setG g (.dat d) ρ0) fun ρ1 => wpR (fe ρ1 h) (fun v h' => v = .dat (f d) ∧ h' = h) noX) → compL it g yesD fe ρ0 ds acc h = .ok (acc ++ ds.map f) h
  | [], acc, ck, _, _ => by
    unfold compL
    rw [if_pos ck, List.map_nil, List.append_nil]
  | d :: ds, acc, ck, hl, H => by
    unfold compL
    rw [if_pos ck]
    have q := H d (List.mem_cons_self ..)
    cases e : setG g (.dat d) ρ0 with
    | none => rw [e] at q; exact q.elim
    | some ρ1 =>
      rw [e, optK_some] at q
      have e2 := wpR_eq q
      rw [List.length_cons] at hl
      simp only [yesD, e2]
      rw [if_pos (by omega), comp_map f ds (acc ++ [f d]) ck (by rw [List.length_append]; simp; omega) fun x hx => H x (List.mem_cons_of_mem _ hx)]
      simp
theorem comp_filter {it : ItD} {g : DG} {tt : En → Hl → R Bool} {fe : En → Hl → R Val} {ρ0 : En} {h : Hl} (p : PyData → Bool) (f : PyData → PyData) : ∀ (ds acc : List PyData), ckD it h = true → acc.length + ds.length ≤ sizeLine →
    (∀ d ∈ ds, optK (setG g (.dat d) ρ0) fun ρ1 => wpR (tt ρ1 h) (fun v h' => v = p d ∧ h' = h) noX ∧ (p d = true → wpR (fe ρ1 h) (fun v h' => v = .dat (f d) ∧ h' = h) noX)) → compL it g tt fe ρ0 ds acc h = .ok (acc ++ (ds.filter p).map f) h
  | [], acc, ck, _, _ => by
    unfold compL
    rw [if_pos ck, List.filter_nil, List.map_nil, List.append_nil]
  | d :: ds, acc, ck, hl, H => by
    unfold compL
    rw [if_pos ck]
    have q := H d (List.mem_cons_self ..)
    rw [List.length_cons] at hl
    cases e : setG g (.dat d) ρ0 with
    | none => rw [e] at q; exact q.elim
    | some ρ1 =>
      rw [e, optK_some] at q
      have e2 := wpR_eq q.1
      cases b : p d with
      | false =>
        rw [b] at e2
        simp only [e2]
        rw [comp_filter p f ds acc ck (by omega) fun x hx => H x (List.mem_cons_of_mem _ hx), List.filter_cons_of_neg (by rw [b]; simp)]
      | true =>
        have e3 := wpR_eq (q.2 b)
        rw [b] at e2
        simp only [e2, e3]
        rw [if_pos (by omega), comp_filter p f ds (acc ++ [f d]) ck (by rw [List.length_append]; simp; omega) fun x hx => H x (List.mem_cons_of_mem _ hx), List.filter_cons_of_pos b]
        simp
theorem comp_mapE {α : Type} {it : ItD} {g : DG} {fe : En → Hl → R Val} {ρ0 : En} {h : Hl} (enc f : α → PyData) : ∀ (ps : List α) (acc : List PyData), ckD it h = true → acc.length + ps.length ≤ sizeLine →
    (∀ p ∈ ps, optK (setG g (.dat (enc p)) ρ0) fun ρ1 => wpR (fe ρ1 h) (fun v h' => v = .dat (f p) ∧ h' = h) noX) → compL it g yesD fe ρ0 (ps.map enc) acc h = .ok (acc ++ ps.map f) h
  | [], acc, ck, _, _ => by
    rw [List.map_nil, List.map_nil]
    unfold compL
    rw [if_pos ck, List.append_nil]
  | d :: ds, acc, ck, hl, H => by
    rw [List.map_cons]
    unfold compL
    rw [if_pos ck]
    have q := H d (List.mem_cons_self ..)
    cases e : setG g (.dat (enc d)) ρ0 with
    | none => rw [e] at q; exact q.elim
    | some ρ1 =>
      rw [e, optK_some] at q
      have e2 := wpR_eq q
      rw [List.length_cons] at hl
      simp only [yesD, e2]
      rw [if_pos (by omega), comp_mapE enc f ds (acc ++ [f d]) ck (by rw [List.length_append]; simp; omega) fun x hx => H x (List.mem_cons_of_mem _ hx)]
      simp
theorem comp_filterE {α : Type} {it : ItD} {g : DG} {tt : En → Hl → R Bool} {fe : En → Hl → R Val} {ρ0 : En} {h : Hl} (enc : α → PyData) (p : α → Bool) (f : α → PyData) : ∀ (ds : List α) (acc : List PyData), ckD it h = true → acc.length + ds.length ≤ sizeLine →
    (∀ d ∈ ds, optK (setG g (.dat (enc d)) ρ0) fun ρ1 => wpR (tt ρ1 h) (fun v h' => v = p d ∧ h' = h) noX ∧ (p d = true → wpR (fe ρ1 h) (fun v h' => v = .dat (f d) ∧ h' = h) noX)) → compL it g tt fe ρ0 (ds.map enc) acc h = .ok (acc ++ (ds.filter p).map f) h
  | [], acc, ck, _, _ => by
    rw [List.map_nil]
    unfold compL
    rw [if_pos ck, List.filter_nil, List.map_nil, List.append_nil]
  | d :: ds, acc, ck, hl, H => by
    rw [List.map_cons]
    unfold compL
    rw [if_pos ck]
    have q := H d (List.mem_cons_self ..)
    rw [List.length_cons] at hl
    cases e : setG g (.dat (enc d)) ρ0 with
    | none => rw [e] at q; exact q.elim
    | some ρ1 =>
      rw [e, optK_some] at q
      have e2 := wpR_eq q.1
      cases b : p d with
      | false =>
        rw [b] at e2
        simp only [e2]
        rw [comp_filterE enc p f ds acc ck (by omega) fun x hx => H x (List.mem_cons_of_mem _ hx), List.filter_cons_of_neg (by rw [b]; simp)]
      | true =>
        have e3 := wpR_eq (q.2 b)
        rw [b] at e2
        simp only [e2, e3]
        rw [if_pos (by omega), comp_filterE enc p f ds (acc ++ [f d]) ck (by rw [List.length_append]; simp; omega) fun x hx => H x (List.mem_cons_of_mem _ hx), List.filter_cons_of_pos b]
        simp
theorem blsOf_map {α : Type} (b : α → Bool) : ∀ ds : List α, blsOf (ds.map fun d => .bool (b d)) = some (ds.map b)
  | [] => rfl
  | d :: ds => by
    rw [List.map_cons, List.map_cons, blsOf, blsOf_map b ds]
    rfl
theorem all_map {α : Type} (b : α → Bool) (ds : List α) : allD [.list (ds.map fun d => .bool (b d))] = some (.bool (ds.all b)) := by
  show (blsOf _).map _ = _
  rw [blsOf_map, Option.map_some, List.all_map]
  rfl
theorem any_map {α : Type} (b : α → Bool) (ds : List α) : anyD [.list (ds.map fun d => .bool (b d))] = some (.bool (ds.any b)) := by
  show (blsOf _).map _ = _
  rw [blsOf_map, Option.map_some, List.any_map]
  rfl

mutual
inductive Con where
  | mk (ns : List Str) (ls : Lks)
inductive Lks where
  | nil
  | cons (r : Str) (c : Con) (ls : Lks)
end
def Con.names : Con → List Str
  | .mk ns _ => ns
def Con.links : Con → Lks
  | .mk _ ls => ls
def Lks.list : Lks → List (Str × Con)
  | .nil => []
  | .cons r c ls => (r, c) :: ls.list
def Lks.of : List (Str × Con) → Lks
  | [] => .nil
  | (r, c) :: ls => .cons r c (Lks.of ls)
theorem Lks.of_list : ∀ ls : Lks, Lks.of ls.list = ls
  | .nil => rfl
  | .cons r c ls => congrArg (Lks.cons r c) ls.of_list
theorem Lks.list_of : ∀ ls : List (Str × Con), (Lks.of ls).list = ls
  | [] => rfl
  | (r, c) :: ls => congrArg ((r, c) :: ·) (Lks.list_of ls)
mutual
def Con.data : Con → PyData
  | .mk ns ls => .tuple [.tuple (ns.map .str), .tuple ls.data]
def Lks.data : Lks → List PyData
  | .nil => []
  | .cons r c ls => .tuple [.str r, c.data] :: ls.data
end
def lkD (p : Str × Con) : PyData := .tuple [.str p.1, p.2.data]
theorem Lks.data_list : ∀ ls : Lks, ls.data = ls.list.map lkD
  | .nil => rfl
  | .cons r c ls => by rw [Lks.data, Lks.list, List.map_cons, Lks.data_list ls]; rfl
mutual
def Con.size : Con → Nat
  | .mk ns ls => ns.length + ls.size
def Lks.size : Lks → Nat
  | .nil => 0
  | .cons _ c ls => 1 + c.size + ls.size
end
mutual
def Con.deep : Con → Nat
  | .mk _ ls => ls.deep
def Lks.deep : Lks → Nat
  | .nil => 0
  | .cons _ c ls => max (1 + c.deep) ls.deep
end
theorem alike_strs : ∀ xs ys : List Str, PySem.W.alikeAll (xs.map .str) (ys.map .str) = true
  | [], _ => by rw [List.map_nil, PySem.W.alikeAll]
  | _ :: _, [] => by rw [List.map_nil, List.map_cons, PySem.W.alikeAll]
  | x :: xs, y :: ys => by rw [List.map_cons, List.map_cons, PySem.W.alikeAll, PySem.W.alike, alike_strs xs ys]; rfl
theorem alike_t2 {a b c d : PyData} (h : likeD a c) (g : likeD b d) : likeD (.tuple [a, b]) (.tuple [c, d]) := by
  have h' : PySem.W.alike a c = true := h
  have g' : PySem.W.alike b d = true := g
  show PySem.W.alike _ _ = true
  rw [PySem.W.alike, PySem.W.alikeAll, PySem.W.alikeAll, PySem.W.alikeAll, h', g']
  rfl
theorem alike_str (x y : Str) : likeD (.str x) (.str y) := by
  show PySem.W.alike _ _ = true
  rw [PySem.W.alike]
theorem alike_tup {xs ys : List PyData} (h : PySem.W.alikeAll xs ys = true) : likeD (.tuple xs) (.tuple ys) := by
  show PySem.W.alike _ _ = true
  rw [PySem.W.alike]
  exact h
mutual
theorem Con.alike : ∀ c d : Con, likeD c.data d.data
  | .mk ns ls, .mk ms ks => by
    rw [Con.data, Con.data]
    exact alike_t2 (alike_tup (alike_strs ns ms)) (alike_tup (Lks.alike ls ks))
theorem Lks.alike : ∀ c d : Lks, PySem.W.alikeAll c.data d.data = true
  | .nil, _ => by rw [Lks.data, PySem.W.alikeAll]
  | .cons r c ls, .nil => by rw [Lks.data, Lks.data, PySem.W.alikeAll]
  | .cons r c ls, .cons q d ks => by
    rw [Lks.data, Lks.data, PySem.W.alikeAll, Lks.alike ls ks]
    have z : PySem.W.alike (.tuple [.str r, c.data]) (.tuple [.str q, d.data]) = true := alike_t2 (alike_str r q) (Con.alike c d)
    rw [z]
    rfl
end
theorem lkD_alike (p q : Str × Con) : likeD (lkD p) (lkD q) := alike_t2 (alike_str _ _) (Con.alike _ _)
mutual
theorem eqv_strs : ∀ xs ys : List Str, PyData.eqvAll (xs.map .str) (ys.map .str) = true ↔ xs = ys
  | [], [] => by rw [List.map_nil, PyData.eqvAll]; simp
  | x :: xs, [] => by rw [List.map_nil, List.map_cons, PyData.eqvAll]; simp
  | [], y :: ys => by rw [List.map_nil, List.map_cons, PyData.eqvAll]; simp
  | x :: xs, y :: ys => by rw [List.map_cons, List.map_cons, PyData.eqvAll, Bool.and_eq_true, eqv_strs xs ys, PyData.eqv, beq_iff_eq, List.cons.injEq]
theorem Con.eqv : ∀ c d : Con, PyData.eqv c.data d.data = true ↔ c = d
  | .mk ns ls, .mk ms ks => by
    rw [Con.data, Con.data, PyData.eqv, PyData.eqvAll, PyData.eqvAll, PyData.eqvAll, Bool.and_eq_true, Bool.and_eq_true, PyData.eqv, PyData.eqv, eqv_strs ns ms, Lks.eqv ls ks]
    simp
theorem Lks.eqv : ∀ c d : Lks, PyData.eqvAll c.data d.data = true ↔ c = d
  | .nil, .nil => by rw [Lks.data, PyData.eqvAll]; simp
  | .nil, .cons q d ks => by rw [Lks.data, Lks.data, PyData.eqvAll]; simp
  | .cons r c ls, .nil => by rw [Lks.data, Lks.data, PyData.eqvAll]; simp
  | .cons r c ls, .cons q d ks => by
    rw [Lks.data, Lks.data, PyData.eqvAll, Bool.and_eq_true, PyData.eqv, PyData.eqvAll, PyData.eqvAll, PyData.eqvAll, Bool.and_eq_true, Bool.and_eq_true, PyData.eqv, beq_iff_eq, Con.eqv c d, Lks.eqv ls ks]
    simp [and_assoc]
end
theorem lkD_eqv (p q : Str × Con) : PyData.eqv (lkD p) (lkD q) = true ↔ p = q := by
  obtain ⟨r, c⟩ := p
  obtain ⟨s, d⟩ := q
  show PyData.eqv (.tuple [.str r, c.data]) (.tuple [.str s, d.data]) = true ↔ _
  rw [PyData.eqv, PyData.eqvAll, PyData.eqvAll, PyData.eqvAll, Bool.and_eq_true, Bool.and_eq_true, PyData.eqv, beq_iff_eq, Con.eqv c d]
  simp
theorem depth_strs : ∀ xs : List Str, PyData.depthAll (xs.map .str) = 0
  | [] => by rw [List.map_nil, PyData.depthAll]
  | x :: xs => by rw [List.map_cons, PyData.depthAll, depth_strs xs, PyData.depth]; rfl
mutual
theorem Con.depth_le : ∀ c : Con, c.data.depth ≤ 3 * c.deep + 2
  | .mk ns ls => by
    have := Lks.depth_le ls
    rw [Con.data, PyData.depth, PyData.depthAll, PyData.depthAll, PyData.depthAll, PyData.depth, PyData.depth, depth_strs, Con.deep]
    omega
theorem Lks.depth_le : ∀ c : Lks, PyData.depthAll c.data ≤ 3 * c.deep
  | .nil => by rw [Lks.data, PyData.depthAll]; exact Nat.zero_le _
  | .cons r c ls => by
    have := Lks.depth_le ls
    have := Con.depth_le c
    rw [Lks.data, PyData.depthAll, PyData.depth, PyData.depthAll, PyData.depthAll, PyData.depthAll, PyData.depth, Lks.deep]
    omega
end
end Dn
end

section
/-! Dn, part 17: how long a datum is when it is shown -/
namespace Dn
open PySem PySem.Spec PyProof.Rows L2
/-- a text of bounded length, of signs that there are -/
def strFine (z : Str) : Prop := z.length ≤ 200 ∧ ∀ c ∈ z.cps.toList, c < 16 ^ 8
mutual
def wt : PyData → Nat
  | .none => 4
  | .bool _ => 5
  | .int i => (PyData.int i).shown.length
  | .str x => 10 * x.length + 2
  | .list xs => wtAll xs + 2
  | .tuple xs => wtAll xs + 3
  | .dict _ => 0
def wtAll : List PyData → Nat
  | [] => 0
  | x :: xs => wt x + 2 + wtAll xs
end
mutual
def strOk : PyData → Prop
  | .none => True
  | .bool _ => True
  | .int _ => True
  | .str x => ∀ c ∈ x.cps.toList, c < 16 ^ 8
  | .list xs => strOkAll xs
  | .tuple xs => strOkAll xs
  | .dict _ => False
def strOkAll : List PyData → Prop
  | [] => True
  | x :: xs => strOk x ∧ strOkAll xs
end
theorem textFrom_le : ∀ (ts : List Str) (k : Nat) (acc : Str), (textFrom k acc ts).length ≤ acc.length + piled ts
  | [], k, acc => by show acc.length ≤ _; omega
  | t :: r, k, acc => by
    have ih := textFrom_le r (k + 1) (acc ++ (if k > 0 then ", " else "" : String) ++ t)
    have e : (acc ++ (if k > 0 then ", " else "" : String) ++ t).length ≤ acc.length + 2 + t.length := by
      rw [strLen_append, strLen_append]
      split
      · have : ((", " : String) : Str).length = 2 := rfl
        omega
      · have : (("" : String) : Str).length = 0 := rfl
        omega
    show (textFrom (k + 1) (acc ++ (if k > 0 then ", " else "" : String) ++ t) r).length ≤ acc.length + (piled (t :: r))
    have p : piled (t :: r) = t.length + 2 + piled r := by simp [piled]
    omega
theorem listText_le (ts : List Str) : (listText ts).length ≤ piled ts + 2 := by
  unfold listText
  rw [strLen_append]
  have := textFrom_le ts 0 "["
  have e1 : (("[" : String) : Str).length = 1 := rfl
  have e2 : (("]" : String) : Str).length = 1 := rfl
  omega
theorem tupleText_le (ts : List Str) : (tupleText ts).length ≤ piled ts + 3 := by
  unfold tupleText
  rw [strLen_append, strLen_append]
  have e1 : (("(" : String) : Str).length = 1 := rfl
  have e2 : ((if ts.length == 1 then ",)" else ")" : String) : Str).length ≤ 2 := by
    split
    · exact Nat.le_of_eq rfl
    · exact (show 1 ≤ 2 by omega)
  cases ts with
  | nil =>
    have : (Str.join ", " ([] : List Str)).length = 0 := rfl
    omega
  | cons t ts =>
    have := join_length_add (t :: ts) (by simp)
    omega
mutual
theorem shown_le : ∀ d : PyData, strOk d → d.shown.length ≤ wt d
  | .none, _ => by rw [PyData.shown, wt]; exact Nat.le_of_eq rfl
  | .bool b, _ => by
    rw [PyData.shown, wt]
    cases b
    · exact Nat.le_of_eq rfl
    · exact (show 4 ≤ 5 by omega)
  | .int i, _ => by rw [wt]; exact Nat.le_refl _
  | .str x, h => by
    rw [strOk] at h
    rw [PyData.shown, wt]
    exact StrLaws.reprText_len x h
  | .list xs, h => by
    rw [strOk] at h
    rw [PyData.shown, wt]
    have := listText_le (PyData.shownAll xs)
    have := shownAll_le xs h
    omega
  | .tuple xs, h => by
    rw [strOk] at h
    rw [PyData.shown, wt]
    have := tupleText_le (PyData.shownAll xs)
    have := shownAll_le xs h
    omega
  | .dict _, h => by rw [strOk] at h; exact h.elim
theorem shownAll_le : ∀ ds : List PyData, strOkAll ds → piled (PyData.shownAll ds) ≤ wtAll ds
  | [], _ => by rw [PyData.shownAll, wtAll]; exact Nat.le_of_eq rfl
  | d :: ds, h => by
    rw [strOkAll] at h
    rw [PyData.shownAll, wtAll]
    have := shown_le d h.1
    have := shownAll_le ds h.2
    have p : piled (d.shown :: PyData.shownAll ds) = d.shown.length + 2 + piled (PyData.shownAll ds) := by simp [piled]
    omega
end
theorem repr_of {d : PyData} (s : d.showable = true) (o : strOk d) (w : wt d ≤ 16777216) (p : d.depth ≤ 60) : reprD [d] = some (.str d.shown) := by
  show (if _ then _ else _) = _
  rw [if_pos]
  refine ⟨s, ?_, p⟩
  have := shown_le d o
  rw [sizeLine_val]
  omega
mutual
/-- texts that are not too long -/
def fine : Con → Prop
  | .mk ns ls => (∀ n ∈ ns, strFine n) ∧ fineL ls
def fineL : Lks → Prop
  | .nil => True
  | .cons r c ls => strFine r ∧ fine c ∧ fineL ls
end
theorem strOk_strs : ∀ xs : List Str, (∀ n ∈ xs, strFine n) → strOkAll (xs.map .str) ∧ wtAll (xs.map .str) ≤ 10004 * xs.length ∧ PyData.showableAll (xs.map .str) = true
  | [], _ => by rw [List.map_nil, strOkAll, wtAll, PyData.showableAll]; exact ⟨trivial, Nat.zero_le _, rfl⟩
  | x :: xs, h => by
    obtain ⟨a, b, c⟩ := strOk_strs xs fun n hn => h n (List.mem_cons_of_mem _ hn)
    have hx := h x (List.mem_cons_self ..)
    rw [List.map_cons, strOkAll, wtAll, PyData.showableAll, strOk, wt, PyData.showable, List.length_cons, c]
    have := hx.1
    exact ⟨⟨hx.2, a⟩, by omega, rfl⟩
mutual
theorem Con.shows : ∀ c : Con, fine c → strOk c.data ∧ wt c.data ≤ 13 + 10100 * c.size ∧ c.data.showable = true
  | .mk ns ls, h => by
    rw [fine] at h
    obtain ⟨a, b, c⟩ := strOk_strs ns h.1
    obtain ⟨a2, b2, c2⟩ := Lks.shows ls h.2
    rw [Con.data, strOk, strOkAll, strOkAll, strOkAll, strOk, strOk, wt, wtAll, wtAll, wtAll, wt, wt, PyData.showable, PyData.showableAll, PyData.showableAll, PyData.showableAll, PyData.showable, PyData.showable, c, c2, Con.size]
    exact ⟨⟨a, a2, trivial⟩, by omega, rfl⟩
theorem Lks.shows : ∀ c : Lks, fineL c → strOkAll c.data ∧ wtAll c.data ≤ 10100 * c.size ∧ PyData.showableAll c.data = true
  | .nil, _ => by rw [Lks.data, strOkAll, wtAll, PyData.showableAll]; exact ⟨trivial, Nat.zero_le _, rfl⟩
  | .cons r c ls, h => by
    rw [fineL] at h
    obtain ⟨a, b, e⟩ := Con.shows c h.2.1
    obtain ⟨a2, b2, e2⟩ := Lks.shows ls h.2.2
    have := h.1.1
    rw [Lks.data, strOkAll, strOk, strOkAll, strOkAll, strOkAll, strOk, wtAll, wt, wtAll, wtAll, wtAll, wt, PyData.showableAll, PyData.showable, PyData.showableAll, PyData.showableAll, PyData.showableAll, PyData.showable, e, e2, Lks.size]
    exact ⟨⟨⟨h.1.2, a, trivial⟩, a2⟩, by omega, rfl⟩
end
theorem strOk_strs3 : ∀ xs : List Str, (∀ n ∈ xs, strFine n) → strOkAll (xs.map .str) ∧ wtAll (xs.map .str) ≤ 2004 * xs.length ∧ PyData.showableAll (xs.map .str) = true
  | [], _ => by rw [List.map_nil, strOkAll, wtAll, PyData.showableAll]; exact ⟨trivial, Nat.zero_le _, rfl⟩
  | x :: xs, h => by
    obtain ⟨a, b, c⟩ := strOk_strs3 xs fun n hn => h n (List.mem_cons_of_mem _ hn)
    have hx := h x (List.mem_cons_self ..)
    rw [List.map_cons, strOkAll, wtAll, PyData.showableAll, strOk, wt, PyData.showable, List.length_cons, c]
    have := hx.1
    exact ⟨⟨hx.2, a⟩, by omega, rfl⟩
mutual
theorem Con.shows3 : ∀ c : Con, fine c → strOk c.data ∧ wt c.data ≤ 13 + 2100 * c.size ∧ c.data.showable = true
  | .mk ns ls, h => by
    rw [fine] at h
    obtain ⟨a, b, c⟩ := strOk_strs3 ns h.1
    obtain ⟨a2, b2, c2⟩ := Lks.shows3 ls h.2
    rw [Con.data, strOk, strOkAll, strOkAll, strOkAll, strOk, strOk, wt, wtAll, wtAll, wtAll, wt, wt, PyData.showable, PyData.showableAll, PyData.showableAll, PyData.showableAll, PyData.showable, PyData.showable, c, c2, Con.size]
    exact ⟨⟨a, a2, trivial⟩, by omega, rfl⟩
theorem Lks.shows3 : ∀ c : Lks, fineL c → strOkAll c.data ∧ wtAll c.data ≤ 2100 * c.size ∧ PyData.showableAll c.data = true
  | .nil, _ => by rw [Lks.data, strOkAll, wtAll, PyData.showableAll]; exact ⟨trivial, Nat.zero_le _, rfl⟩
  | .cons r c ls, h => by
    rw [fineL] at h
    obtain ⟨a, b, e⟩ := Con.shows3 c h.2.1
    obtain ⟨a2, b2, e2⟩ := Lks.shows3 ls h.2.2
    have := h.1.1
    rw [Lks.data, strOkAll, strOk, strOkAll, strOkAll, strOkAll, strOk, wtAll, wt, wtAll, wtAll, wtAll, wt, PyData.showableAll, PyData.showable, PyData.showableAll, PyData.showableAll, PyData.showableAll, PyData.showable, e, e2, Lks.size]
    exact ⟨⟨⟨h.1.2, a, trivial⟩, a2⟩, by omega, rfl⟩
end
end Dn
end

section
/-! Dn, part 18: enumerate -/
namespace Dn
open PySem PySem.Spec PyProof.Rows L2

theorem en_new {v : Value} {ob : Obj} {G : Heap → Prop} (B : Begins v ob G) :
    Meets (Builtin.«enumerate.__new__» ⟨[.type "enumerate", v], []⟩) (fun _ R st => G st.heap ∧
      R (.ok (.ret (.ref (st.heap.push ob).objs.size))) { st with heap := (st.heap.push ob).push { cls := .type "enumerate", data := .fields #[.none, .bool false, .ref st.heap.objs.size, rawInt 0, .none, .none] } }) := by
  refine .of_wp fun pg ww Ar R st hyp => ?_
  obtain ⟨hp, gg, dd, tk, os⟩ := st
  obtain ⟨h1, fin⟩ := hyp
  have hsub := sub_enumerate
  have q1 : ∀ {Ar' : Around} {E : Value → Shared → Prop} {Q : Value → Shared → Prop}, Q (.ref hp.objs.size) ⟨hp.push ob, gg, dd, tk, os⟩ → wpAny (model pg ww) Ar' (pyIter v) Q E ⟨hp, gg, dd, tk, os⟩ := fun q => B.iter pg ww _ _ ⟨hp, gg, dd, tk, os⟩ _ h1 q
  wp_walk using q1
  refine wpAny_stack_any fun _ => wpAny_pure ?_
  split
  · rename_i cc _ _ _ _ _
    cases (cc == Value.type "enumerate") <;> (wp_walk using q1; exact ⟨_, rfl, fin⟩)
  · wp_walk using q1
    exact ⟨_, rfl, fin⟩
theorem en_call {prog : Program} {w : World} {A : Around} {E : Value → Shared → Prop} {s : Shared} {v : Value} {ob : Obj} {G : Heap → Prop} {Q : Value → Shared → Prop} (B : Begins v ob G) (h1 : G s.heap)
    (k : ∀ h', IsEnum h' (s.heap.objs.size + 1) s.heap.objs.size 0 .none → h'.get? s.heap.objs.size = some ob → h'.objs.size = s.heap.objs.size + 2 → (∀ b o, s.heap.get? b = some o → h'.get? b = some o) → Q (.ref (s.heap.objs.size + 1)) { s with heap := h' }) :
    wpAny (model prog w) A (call (.type "enumerate") [v]) Q E s := by
  refine callType_new F.called_enumerate (by decide) (F.typeCall_enumerate_1 _) (F.newCall_enumerate_1 _) (fun obj => F.args_object_init_2 obj _) F.entry_enumerate_new (en_new B) ⟨h1, ?_⟩
  have z1 : (s.heap.push ob).objs.size = s.heap.objs.size + 1 := Heap.size_push ..
  show _ ∧ _
  rw [z1]
  have eo : ((s.heap.push ob).push { cls := .type "enumerate", data := .fields #[.none, .bool false, .ref s.heap.objs.size, rawInt 0, .none, .none] }).get? (s.heap.objs.size + 1) = some { cls := .type "enumerate", data := .fields #[.none, .bool false, .ref s.heap.objs.size, rawInt 0, .none, .none] } := by
    rw [← z1]; exact Heap.get?_push_size _ rfl
  exact ⟨⟨_, eo, rfl⟩, k _ eo (Heap.get?_push_of_some _ (Heap.get?_push_size _ B.free)) (by rw [Heap.size_push, z1]) fun b o q => Heap.get?_push_of_some _ (Heap.get?_push_of_some _ q)⟩

/-- the tuple at a, each item in a new pair -/
def IteT (K : PySem.W.Frag) (a : Addr) : It where
  go := fun i H => ∃ (xs : List V) (x : V), SqT K H a xs ∧ xs[i]? = some x
  yld := fun i H v H' => ∃ T x, v = .ref T ∧ H T = none ∧ H' = upd H T (.tup [.int (i : Nat), x]) ∧ ∀ xs, SqT K H a xs → xs[i]? = some x
  stop := fun i H => ∃ xs : List V, SqT K H a xs ∧ xs.length ≤ i
def EnT (a e it : Addr) (i : Nat) (h : Heap) : Prop := (∃ old, IsEnum h e it ((i : Nat) : Int) old) ∧ h.IsTupleIter it a i ∧ e ≠ it ∧ a ≠ it ∧ e ≠ a
theorem turn_enT {P : Program} {w : World} {K : PySem.W.Frag} {elts : List Expr} {kk : Nat} {tpos : Pos} (a e it : Addr) : Turn P w K (.Tuple elts kk tpos) (IteT K a) [e, it] e (EnT a e it) := by
  refine { mem := List.mem_cons_self .., obj := ?_, keep := ?_, item := ?_, done := ?_, self := ?_ }
  · rintro i h ⟨⟨old, he⟩, ⟨o, ho, hc, hd⟩, _⟩ b hb
    simp only [List.mem_cons, List.not_mem_nil, or_false] at hb
    rcases hb with rfl | rfl
    · exact ⟨_, he, fun v q => nomatch q⟩
    · exact ⟨o, ho, fun v q => by rw [hd] at q; cases q⟩
  · rintro i h h' ⟨⟨old, he⟩, hi, r⟩ k
    exact ⟨⟨old, k e (List.mem_cons_self ..) _ he⟩, hi.at fun o q => k it (List.mem_cons_of_mem _ (List.mem_cons_self ..)) o q, r⟩
  · intro X hP hw hK hc i pins s σ H E I hf st hg
    subst hP hw hK
    obtain ⟨⟨old, he⟩, hit, hne, hai, hea⟩ := st
    obtain ⟨xs, x, hq, hx⟩ := hg
    obtain ⟨its, rv, p, hz⟩ := I.tuple hq
    obtain ⟨u, hu, ru⟩ := rv.get hx
    have p' : s.heap.IsTuple a its.toArray := p
    have hel : e < s.heap.objs.size := Heap.lt_size he
    have hil : it < s.heap.objs.size := let ⟨_, q, _⟩ := hit; Heap.lt_size q
    have hef : e ∉ [it, a] := by simp [hne, hea]
    refine wpAny_pyNext_enum_itemD (Draws.tuple (A := X.A.in1) (show X.A.in1.handled = none from I.ok.hd hc) it a hai its.toArray) he ⟨hit, p'⟩ (by have := (List.getElem?_eq_some_iff.mp hu).1; simpa using this) hne hef fun y h' tk hy ho hst hT hsz hk => ?_
    have ey : y = u := by
      have hy' : its.toArray[i]? = some y := hy
      rw [List.getElem?_toArray, hu] at hy'
      exact (Option.some.inj hy').symm
    subst ey
    refine ⟨_, rfl, wpAny_letOwnedTupleGo_enum (s := { s with heap := h', toks := tk + 1 }) ho fun h'' he' sb => ?_⟩
    have hT2 : h''.get? s.heap.objs.size = some { cls := .type "tuple", data := .seq #[.int i tk, y] } := (sb.2 _ (Nat.ne_of_gt hel)).trans hT
    have new : ObjOk X.prog X.w (upd H s.heap.objs.size (.tup [.int (i : Nat), x])) h'' s.heap.objs.size (.tup [.int (i : Nat), x]) := by
      refine ⟨(by decide : 2 ≤ sizeLine), [.int i tk, y], .cons ⟨_, rfl⟩ (.cons ru .nil), ⟨_, hT2, rfl, _, rfl⟩⟩
    have I1 : Inv X pins σ (upd H s.heap.objs.size (.tup [.int (i : Nat), x])) { s with heap := h'', toks := tk + 1 } := by
      refine I.turnedNew (ch := [e, it]) (fun b ob hb q => ?_) hf (Nat.le_refl _) new
      have hb1 : b ≠ e := fun z => hb (z ▸ List.mem_cons_self ..)
      have hb2 : b ≠ it := fun z => hb (z ▸ List.mem_cons_of_mem _ (List.mem_cons_self ..))
      exact (sb.2 b hb1).trans (hk b ob hb1 hb2 q)
    refine ⟨.ref s.heap.objs.size, _, I1, rfl, ⟨_, x, rfl, I.hok.fresh (Nat.le_refl _), rfl, fun ys hy2 => by rw [I.tuple_inj hy2 hq]; exact hx⟩, ⟨⟨y, ?_⟩, hst.1.at fun o q => (sb.2 it hne.symm).trans q, hne, hai, hea⟩, fun b hb => ?_⟩
    · rw [show ((i + 1 : Nat) : Int) = (i : Int) + 1 from by omega]
      exact he'
    · have hb' : b < s.heap.objs.size := by
        simp only [List.mem_cons, List.not_mem_nil, or_false] at hb
        rcases hb with rfl | rfl
        · exact hel
        · exact hil
      rw [upd_ne (Nat.ne_of_lt hb')]
      exact (hf b hb).1
  · intro X hP hw hK hc i pins s σ H E I hf st hg
    subst hP hw hK
    obtain ⟨⟨old, he⟩, hit, hne, hai, hea⟩ := st
    obtain ⟨xs, hq, hx⟩ := hg
    obtain ⟨its, rv, p, hz⟩ := I.tuple hq
    have p' : s.heap.IsTuple a its.toArray := p
    obtain ⟨f0, f1, f2, f3, f4, f5⟩ := hf it (List.mem_cons_of_mem _ (List.mem_cons_self ..))
    have hl := rv.length
    have ty : s.TypeIs (.ref e) "enumerate" := ⟨_, he, rfl⟩
    unfold pyNext
    refine wpAny_bind (wpAny_attempt (wpAny_callSpecial?_slot (name := Str.ofString "__next__") ty F.slot_enumerate_next (wpAny_call_entry F.slot_enumerate_next ty F.entry_enumerate_next ?_ (F.args_enumerate_next_1 _))))
    show wpAny _ _ (field (.ref e) 2 >>= _) _ _ _
    refine wpAny_bind (wpAny_field he rfl (x := .ref it) rfl ?_)
    refine wpAny_bind (wpAny_nextOf_tuple_end (I.ok.hd hc) hit p' (by simp; omega) fun h' x he' hx' => ?_)
    obtain ⟨o, ho, hcl⟩ := hx'
    refine wpAny_bind (wpAny_isInstance (T := "StopIteration") (b := true) ⟨o, ho, hcl⟩ isSubtype_stop ?_)
    exact wpAny_pure ⟨rfl, I.turned (t' := s.toks) (fun b o hb q => he' b o hb q) f0 f1 f3 f4 f5⟩
  · exact fun A i s Q E st h => let ⟨⟨_, he⟩, _⟩ := st; wpAny_pyIter_enum he h

def iEnS (K : PySem.W.Frag) (ta : TA) : TI := fun σ H R => ta σ H fun vs H1 => ∃ a xs, vs = [.ref a] ∧ ((SqL K H1 a xs ∧ R (Ite K a) H1) ∨ (SqT K H1 a xs ∧ R (IteT K a) H1))
theorem pi_enS {X : Cx} {e : Expr} {ta : TA} {p pos tpos : Pos} {elts : List Expr} {kk : Nat} (hg : Gl X "enumerate") (hm : X.mg "enumerate" = none) (ha : PA X [e] ta) (hs : starEach [e] X.env = [(false, eval e X.env)]) :
    PI X (.Tuple elts kk tpos) (.Call (.Name "enumerate" p) [e] [] pos) (iEnS X.K ta) := by
  refine ⟨fun pins s σ H R I h => Call_ (ld_blt I hg hm boot_enumerate (PyProof.Rows.callWith_type1 (thn (ha.run pos pins s σ H _ I h) fun us s1 ⟨vs, H1, I1, r1, q1⟩ => ?_) hs rfl))⟩
  obtain ⟨a, xs, rfl, q⟩ := q1
  cases r1 with
  | cons r rr =>
    cases rr
    cases r
    have fresh : ∀ {h' : Heap}, (∀ b o, s1.heap.get? b = some o → h'.get? b = some o) → ∀ b ∈ [s1.heap.objs.size + 1, s1.heap.objs.size], FpOk X pins H1 b := fun _ b hb => by
      have le : s1.heap.objs.size ≤ b := by
        simp only [List.mem_cons, List.not_mem_nil, or_false] at hb
        rcases hb with rfl | rfl
        · exact Nat.le_add_right _ _
        · exact Nat.le_refl _
      exact I1.fpOk le (I1.hok.fresh le)
    rcases q with ⟨hq, q⟩ | ⟨hq, q⟩
    · obtain ⟨its, rv, p', hz⟩ := I1.list hq
      refine call_enumerate_list p'.isList fun h' he hit hsz hk => wpAny_pyIter_enum he ?_
      exact ⟨_, _, _, _, H1, rfl, I1.kept (t' := s1.toks) hk, turn_enum a (s1.heap.objs.size + 1) s1.heap.objs.size, ⟨⟨.none, he⟩, hit, Nat.succ_ne_self _⟩, fresh hk, q⟩
    · obtain ⟨its, rv, p', hz⟩ := I1.tuple hq
      have p2 : s1.heap.IsTuple a its.toArray := p'
      have al : a < s1.heap.objs.size := let ⟨_, q, _⟩ := p2; Heap.lt_size q
      refine en_call (begins_tuple a its.toArray) p2 fun h' he hit hsz hk => wpAny_pyIter_enum he ?_
      exact ⟨_, _, _, _, H1, rfl, I1.kept (t' := s1.toks) hk, turn_enT a (s1.heap.objs.size + 1) s1.heap.objs.size, ⟨⟨.none, he⟩, ⟨_, hit, rfl, rfl⟩, Nat.succ_ne_self _, Nat.ne_of_lt al, Nat.ne_of_gt (Nat.lt_succ_of_lt al)⟩, fresh hk, q⟩
end Dn
end

section
/-! Dn, part 19: enumerate, isinstance with a built-in type, f-texts -/
namespace Dn
open PySem PySem.Spec PyProof.Rows L2
theorem enumL_get : ∀ (n i : Nat) (ds : List PyData), (enumL n ds)[i]? = (ds[i]?).map fun d => .tuple [.int ((n + i : Nat) : Int), d]
  | _, _, [] => by simp [enumL]
  | n, 0, d :: ds => rfl
  | n, i + 1, d :: ds => by
    show (enumL (n + 1) ds)[i]? = _
    rw [enumL_get (n + 1) i ds, List.getElem?_cons_succ, Nat.add_right_comm, Nat.add_assoc]
theorem enumL_len : ∀ (n : Nat) (ds : List PyData), (enumL n ds).length = ds.length
  | _, [] => rfl
  | n, d :: ds => congrArg (· + 1) (enumL_len (n + 1) ds)

section
variable {X : Cx} {W : WX}
def enumI (v : Val) (h : Hl) : R ItD := match v with
  | .dat (.list ds) => .ok ⟨enumL 0 ds, none⟩ h
  | .dat (.tuple ds) => .ok ⟨enumL 0 ds, none⟩ h
  | .ref k => (match h[k]? with
    | some (some (.lst ds)) => .ok ⟨enumL 0 ds, some (k, true)⟩ h
    | _ => .stuck)
  | _ => .stuck
def enumD (fa : En → Hl → R (List Val)) : En → Hl → R ItD := fun ρ h => (fa ρ h).bind fun vs h1 => match vs with
  | [v] => enumI v h1
  | _ => .stuck
theorem pair_new {K : PySem.W.Frag} {Z : Addr → Prop} {φ : Nat → Addr} {h : Hl} {H : Hp} {x : V} {d : PyData} {i : Nat} {T : Addr} (S : SimH K Z φ h H) (n : H T = none) (r : Rp K H (live Z φ h) x d) :
    Stp φ Z h H φ h (L2.upd H T (.tup [.int (i : Nat), x])) ∧ SimH K Z φ h (L2.upd H T (.tup [.int (i : Nat), x])) ∧ Rp K (L2.upd H T (.tup [.int (i : Nat), x])) (live Z φ h) (.ref T) (.tuple [.int (i : Nat), d]) :=
  ⟨stp_upd n, S.upd n, .tup (SqT.of upd_same) (.cons (.int _) (.cons (Rp.step S (stp_upd n) r) .nil))⟩
theorem itOk_el {K : PySem.W.Frag} {Z : Addr → Prop} {φ : Nat → Addr} {h : Hl} {H : Hp} {a : Addr} {it : ItD}
    (base : ∀ (Z' : Addr → Prop) φ1 h1 H1, Stp φ Z h H φ1 h1 H1 → SimH K Z' φ1 h1 H1 → ckD it h1 = true → (∀ a, (∃ o, H a = some o) → Z' a → Z a) → ∃ xs ds, SqL K H1 a xs ∧ RpAll K H1 (live Z' φ1 h1) xs ds ∧ enumL 0 ds = it.items) : ItOk K Z (Ite K a) it φ h H := by
  refine ⟨fun Z' φ1 h1 H1 s S1 c hz i d g => ?_, fun Z' φ1 h1 H1 s S1 c hz i g => ?_⟩
  · obtain ⟨xs, ds, e1, r1, e2⟩ := base Z' φ1 h1 H1 s S1 c hz
    rw [← e2, enumL_get, Nat.zero_add] at g
    cases gd : ds[i]? with
    | none => rw [gd] at g; cases g
    | some d' =>
      rw [gd] at g
      cases g
      obtain ⟨x, gx, rx⟩ := r1.get gd
      refine ⟨⟨xs, x, e1, gx⟩, fun y H2 hy => ?_⟩
      obtain ⟨T, x', rfl, n, rfl, fy⟩ := hy
      have := fy xs e1
      rw [gx] at this; cases this
      exact pair_new S1 n rx
  · obtain ⟨xs, ds, e1, r1, e2⟩ := base Z' φ1 h1 H1 s S1 c hz
    refine ⟨xs, e1, ?_⟩
    rw [← e2, List.getElem?_eq_none_iff, enumL_len] at g
    rw [r1.length]; exact g
theorem itOk_et {K : PySem.W.Frag} {Z : Addr → Prop} {φ : Nat → Addr} {h : Hl} {H : Hp} {a : Addr} {it : ItD}
    (base : ∀ (Z' : Addr → Prop) φ1 h1 H1, Stp φ Z h H φ1 h1 H1 → SimH K Z' φ1 h1 H1 → ckD it h1 = true → (∀ a, (∃ o, H a = some o) → Z' a → Z a) → ∃ xs ds, SqT K H1 a xs ∧ RpAll K H1 (live Z' φ1 h1) xs ds ∧ enumL 0 ds = it.items) : ItOk K Z (IteT K a) it φ h H := by
  refine ⟨fun Z' φ1 h1 H1 s S1 c hz i d g => ?_, fun Z' φ1 h1 H1 s S1 c hz i g => ?_⟩
  · obtain ⟨xs, ds, e1, r1, e2⟩ := base Z' φ1 h1 H1 s S1 c hz
    rw [← e2, enumL_get, Nat.zero_add] at g
    cases gd : ds[i]? with
    | none => rw [gd] at g; cases g
    | some d' =>
      rw [gd] at g
      cases g
      obtain ⟨x, gx, rx⟩ := r1.get gd
      refine ⟨⟨xs, x, e1, gx⟩, fun y H2 hy => ?_⟩
      obtain ⟨T, x', rfl, n, rfl, fy⟩ := hy
      have := fy xs e1
      rw [gx] at this; cases this
      exact pair_new S1 n rx
  · obtain ⟨xs, ds, e1, r1, e2⟩ := base Z' φ1 h1 H1 s S1 c hz
    refine ⟨xs, e1, ?_⟩
    rw [← e2, List.getElem?_eq_none_iff, enumL_len] at g
    rw [r1.length]; exact g
theorem ix_enum {e : Expr} {elts : List Expr} {kk : Nat} {tpos p pos : Pos} {fa : En → Hl → R (List Val)} (hg : Gl X "enumerate") (hm : X.mg "enumerate" = none) (ha : Ax X W [e] fa) (hs : starEach [e] X.env = [(false, eval e X.env)]) :
    Ix X W (.Tuple elts kk tpos) (.Call (.Name "enumerate" p) [e] [] pos) (enumD fa) := by
  obtain ⟨t, pa, s⟩ := ha
  refine ⟨_, pi_enS hg hm pa hs, fun Z φ ρ hh σ H Q S E po => ?_⟩
  refine s.seq S E po fun vs h1 φ1 H1 xs s1 S1 E1 r1 p1 => ?_
  split at p1
  · rename_i v
    cases r1 with
    | cons r rr =>
      cases rr
      unfold enumI at p1
      split at p1
      · cases r with
        | lst e0 n ra => exact ⟨_, _, rfl, .inl ⟨SqL.of e0, p1 φ1 H1 Stp.refl S1 _ (itOk_el fun Z' φ2 h2 H2 s S2 _ hz => ⟨_, _, SqL.of (s.keep _ _ e0 (notOwn_of n)), RpAll.stepZ S1 s hz ra, rfl⟩)⟩⟩
      · cases r with
        | tup e0 ra => exact ⟨_, _, rfl, .inr ⟨e0, p1 φ1 H1 Stp.refl S1 _ (itOk_et fun Z' φ2 h2 H2 s S2 _ hz => ⟨_, _, SqT.step S1 s e0, RpAll.stepZ S1 s hz ra, rfl⟩)⟩⟩
      · split at p1
        · rename_i k _ ds g
          obtain ⟨hk, rfl⟩ := r
          obtain ⟨ys, ey, _⟩ := S1.ol g
          refine ⟨_, _, rfl, .inl ⟨SqL.of ey, p1 φ1 H1 Stp.refl S1 _ (itOk_el fun Z' φ2 h2 H2 s S2 c hz => ?_)⟩⟩
          unfold ckD at c
          dsimp only at c
          split at c
          · rename_i es g1
            have := sameL_eq c
            rw [if_pos rfl] at this
            obtain ⟨xs, e1, r1⟩ := S2.ol g1
            rw [s.old k hk] at e1
            exact ⟨xs, es, SqL.of e1, r1, this⟩
          · cases c
        · exact p1.elim
      · exact p1.elim
  · exact p1.elim

/-! ### isinstance(e, T), T a built-in type -/
def tyN : PyData → String
  | .none => "NoneType"
  | .bool _ => "bool"
  | .int _ => "int"
  | .str _ => "str"
  | .list _ => "list"
  | .tuple _ => "tuple"
  | .dict _ => "dict"
theorem SqT.tyX {K : PySem.W.Frag} {H : Hp} {a : Addr} {xs : List V} (q : SqT K H a xs) : TyX K H (.ref a) (.type "tuple") := by
  rcases q with (q | ⟨o, q⟩) | ⟨o, its, n, h1, h2, _⟩
  · exact .base (.tup q)
  · exact .fTuple q
  · exact .kTuple h1 h2
theorem Rq.tyX {K : PySem.W.Frag} {L : Addr → Prop} {H : Hp} {x : V} {d : PyData} (r : Rq K L H x d) : TyX K H x (.type (tyN d)) := by
  rcases r with r | ⟨a, xs, ds, rfl, rfl, e, _⟩
  · cases r with
    | non => exact .base .non
    | bl b => exact .base (.bl b)
    | int i => exact .base (.int i)
    | str x => exact .base (.str x)
    | lst e n ra => exact .base (.lst e)
    | tup q ra => exact SqT.tyX q
  · exact .base (.lst e)
def isiD (T : String) (f : En → Hl → R Val) : En → Hl → R Val := fun ρ h => (f ρ h).bind fun v h1 => match peek v h1 with
  | some d => (match kitB (tyN d) T with
    | some b => .ok (.dat (.bool b)) h1
    | none => .stuck)
  | none => .stuck
theorem ex_isi {T : Str} {TT : String} {e : Expr} {f : En → Hl → R Val} {p p2 pos : Pos} (hg : Gl X "isinstance") (hm : X.mg "isinstance" = none) (hgT : Gl X T) (hmT : X.mg T = none) (hv : bootBuiltins T = some (.type TT)) (he : Ex X W e f)
    (hn : T ≠ "__name__") (hdb : (T == ("__debug__" : Str)) = false) (hb : bootBuiltins "isinstance" = some (.builtin "isinstance")) (h1 : starEach [e, .Name T p2] X.env = (false, eval e X.env) :: starEach [.Name T p2] X.env) (h2 : starEach [.Name T p2] X.env = (false, eval (.Name T p2) X.env) :: starEach [] X.env)
    (hpl : (backTo pos (starEach [.Name T p2] X.env)).any (·.1) = false) : Ex X W (.Call (.Name "isinstance" p) [e, .Name T p2] [] pos) (isiD TT f) := by
  obtain ⟨t, pe, s⟩ := he
  refine ⟨_, pe_callB call_isi hg hm hb (pa_cons pe (pa_cons (pe_bltn (v := .ty TT) hgT hmT hv rfl hn hdb) pa_nil h2) h1) (by decide) (by decide) h1 hpl, fun Z φ ρ hh σ H Q S E po => ?_⟩
  refine s.seq S E po fun v h1 φ1 H1 x s1 S1 E1 r1 p1 => ?_
  split at p1
  · rename_i d ed
    split at p1
    · rename_i b eb
      exact ⟨_, _, _, _, b, rfl, .ty TT, (peek_ok S1 r1 ed).tyX, eb, p1 φ1 H1 Stp.refl S1 _ (.bl b)⟩
    · exact p1.elim
  · exact p1.elim

/-! ### f-texts -/
/-- the parts' texts -/
def fmtK (v : Val) : Option Str := match v with
  | .dat (.str y) => if y.length ≤ sizeLine then some y else none
  | .dat (.int i) => if i.natAbs.log2 < 1920 then some (toString i) else none
  | _ => none
def fmtD (f : En → Hl → R Val) : En → Hl → R Val := fun ρ h => (f ρ h).bind fun v h1 => match fmtK v with
  | some y => .ok (.dat (.str y)) h1
  | none => .stuck
theorem ex_fmt {e : Expr} {f : En → Hl → R Val} {pos : Pos} (he : Ex X W e f) : Ex X W (.FormattedValue e (-1) none pos) (fmtD f) := by
  obtain ⟨t, pe, s⟩ := he
  refine ⟨_, pe_fmt pe, fun Z φ ρ hh σ H Q S E po => ?_⟩
  refine s.seq S E po fun v h1 φ1 H1 x s1 S1 E1 r1 p1 => ?_
  split at p1
  · rename_i y ey
    unfold fmtK at ey
    split at ey
    · split at ey
      · cases ey
        cases r1
        exact .inl ⟨_, rfl, by assumption, p1 φ1 H1 Stp.refl S1 _ (.str _)⟩
      · cases ey
    · split at ey
      · cases ey
        cases r1
        exact .inr ⟨_, rfl, by assumption, p1 φ1 H1 Stp.refl S1 _ (.str _)⟩
      · cases ey
    · cases ey
  · exact p1.elim
/-- the parts one behind the other -/
def Jx (X : Cx) (W : WX) (es : List Expr) (f : En → Hl → Str → R Str) : Prop := ∃ ts, PJ X es ts ∧ ∀ (Z : Addr → Prop) (φ : Nat → Addr) (ρ : En) (h : Hl) (σ : St) (H : Hp) (acc : Str) (Q : Str → Hp → Prop), SimH X.K Z φ h H → SimE X.K Z φ h H ρ σ →
  PostR X.K X.mg (fun c d H' => W c d σ H') Z φ h H (f ρ h acc) (fun φ' h' H' out => Q out H') → tJs ts acc σ H Q
def jnil : En → Hl → Str → R Str := fun _ h acc => .ok acc h
def jcons (f : En → Hl → R Val) (g : En → Hl → Str → R Str) : En → Hl → Str → R Str := fun ρ h acc => (f ρ h).bind fun v h1 => match v with
  | .dat (.str y) => if (acc ++ y).length ≤ sizeLine then g ρ h1 (acc ++ y) else .stuck
  | _ => .stuck
theorem jx_nil : Jx X W [] jnil := ⟨[], .nil, fun Z φ ρ h σ H acc Q S E po => po φ H Stp.refl S⟩
theorem jx_cons {e : Expr} {es : List Expr} {f : En → Hl → R Val} {g : En → Hl → Str → R Str} (he : Ex X W e f) (hs : Jx X W es g) : Jx X W (e :: es) (jcons f g) := by
  obtain ⟨t, pe, s⟩ := he
  obtain ⟨ts, pj, k⟩ := hs
  refine ⟨t :: ts, .cons pe pj, fun Z φ ρ h σ H acc Q S E po => ?_⟩
  refine s.seq S E po fun v h1 φ1 H1 x s1 S1 E1 r1 p1 => ?_
  split at p1
  · rename_i y
    split at p1
    · cases r1
      exact ⟨y, rfl, by assumption, k Z φ1 ρ h1 σ H1 (acc ++ y) Q S1 E1 p1⟩
    · exact p1.elim
  · exact p1.elim
def joinD (g : En → Hl → Str → R Str) : En → Hl → R Val := fun ρ h => (g ρ h Str.empty).bind fun out h1 => .ok (.dat (.str out)) h1
theorem ex_joined {v1 v2 : Expr} {rest : List Expr} {g : En → Hl → Str → R Str} {pos : Pos} (hs : Jx X W (v1 :: v2 :: rest) g) : Ex X W (.JoinedStr (v1 :: v2 :: rest) pos) (joinD g) := by
  obtain ⟨ts, pj, k⟩ := hs
  refine ⟨_, pe_joined pj, fun Z φ ρ h σ H Q S E po => k Z φ ρ h σ H _ _ S E ?_⟩
  unfold joinD at po
  cases e : g ρ h Str.empty with
  | stuck => rw [e] at po; exact po
  | exc x h' => rw [e] at po; exact po
  | ok out h' =>
    rw [e] at po
    exact fun φ' H' s' S' => po φ' H' s' S' _ (.str out)
theorem ex_joined1 {e : Expr} {f : En → Hl → R Val} {pos : Pos} (he : Ex X W e f) : Ex X W (.JoinedStr [e] pos) f := let ⟨t, p, s⟩ := he; ⟨t, pe_joined1 p, s⟩
end

/-! reckoning -/
section
variable {κ : Val → Hl → Prop} {κi : ItD → Hl → Prop} {ε : Exc → Hl → Prop} {ρ : En} {h : Hl}
def enumOf (v : Val) (h : Hl) : Option ItD := match v with
  | .dat (.list ds) => some ⟨enumL 0 ds, none⟩
  | .dat (.tuple ds) => some ⟨enumL 0 ds, none⟩
  | .ref k => (lstAt h k).map fun ds => ⟨enumL 0 ds, some (k, true)⟩
  | _ => none
def vK (vs : List Val) (k : Val → Prop) : Prop := match vs with
  | [v] => k v
  | _ => False
theorem vK_1 {v : Val} {k : Val → Prop} : vK [v] k = k v := rfl
theorem w_enum {fa : En → Hl → R (List Val)} : wpR (enumD fa ρ h) κi ε = wpR (fa ρ h) (fun vs h1 => vK vs fun v => optK (enumOf v h1) fun it => κi it h1) ε := by
  unfold enumD
  rw [wpR_bind]
  congr 1
  funext vs h1
  match vs with
  | [] => rfl
  | _ :: _ :: _ => rfl
  | [v] =>
    rw [vK_1]
    cases v with
    | dat d => cases d <;> rfl
    | scr n => rfl
    | ref k =>
      unfold enumOf lstAt
      show wpR (enumI (.ref k) h1) κi ε = _
      unfold enumI
      cases e : h1[k]? with
      | none => simp only [e]; rfl
      | some o => cases o with
        | none => simp only [e]; rfl
        | some o => cases o <;> (simp only [e]; rfl)
theorem w_isi {T : String} {f : En → Hl → R Val} : wpR (isiD T f ρ h) κ ε = wpR (f ρ h) (fun v h1 => optK (peek v h1) fun d => optK (kitB (tyN d) T) fun b => κ (.dat (.bool b)) h1) ε := by
  unfold isiD
  rw [wpR_bind]
  congr 1
  funext v h1
  cases peek v h1 with
  | none => rfl
  | some d =>
    show wpR (match kitB (tyN d) T with
      | some b => .ok (.dat (.bool b)) h1
      | none => .stuck) κ ε = optK (kitB (tyN d) T) _
    cases kitB (tyN d) T <;> rfl
theorem w_fmt {f : En → Hl → R Val} : wpR (fmtD f ρ h) κ ε = wpR (f ρ h) (fun v h1 => optK (fmtK v) fun y => κ (.dat (.str y)) h1) ε := by
  unfold fmtD
  rw [wpR_bind]
  congr 1
  funext v h1
  cases fmtK v <;> rfl
def strK (v : Val) (k : Str → Prop) : Prop := match v with
  | .dat (.str b) => k b
  | _ => False
theorem strK_s {b : Str} {k : Str → Prop} : strK (.dat (.str b)) k = k b := rfl
theorem w_jnil {acc : Str} {κs : Str → Hl → Prop} : wpR (jnil ρ h acc) κs ε = κs acc h := rfl
theorem w_jcons {acc : Str} {κs : Str → Hl → Prop} {f : En → Hl → R Val} {g : En → Hl → Str → R Str} : wpR (jcons f g ρ h acc) κs ε = wpR (f ρ h) (fun v h1 => strK v fun y => (acc ++ y).length ≤ sizeLine ∧ wpR (g ρ h1 (acc ++ y)) κs ε) ε := by
  unfold jcons
  rw [wpR_bind]
  congr 1
  funext v h1
  cases v with
  | dat d =>
    cases d with
    | str y =>
      show wpR (if (acc ++ y).length ≤ sizeLine then g ρ h1 (acc ++ y) else .stuck) κs ε = ((acc ++ y).length ≤ sizeLine ∧ _)
      by_cases q : (acc ++ y).length ≤ sizeLine
      · rw [if_pos q]; simp only [q, true_and]
      · rw [if_neg q]; simp only [q, false_and]; rfl
    | _ => rfl
  | ref k => rfl
  | scr n => rfl
theorem w_join {g : En → Hl → Str → R Str} : wpR (joinD g ρ h) κ ε = wpR (g ρ h Str.empty) (fun out h1 => κ (.dat (.str out)) h1) ε := by
  unfold joinD
  rw [wpR_bind]
  rfl
end

section
variable {X : Cx} {W : WX} {k : Nat} {T : Tab}
theorem Fx.enum (C : Fx X W k T) (j : Nat) {e : Expr} {elts : List Expr} {kk : Nat} {tpos p pos : Pos} {fa : En → Hl → R (List Val)} (hj : T.bts[j]? = some "enumerate") (ha : Ax X W [e] fa) (hg : Gl X "enumerate" := by rfl) (hs : starEach [e] X.env = [(false, eval e X.env)] := by rfl) :
    Ix X W (.Tuple elts kk tpos) (.Call (.Name "enumerate" p) [e] [] pos) (enumD fa) := ix_enum hg (C.kn.bt j _ hj) ha hs
theorem Fx.isi (C : Fx X W k T) (j i : Nat) {x : Str} {TT : String} {e : Expr} {f : En → Hl → R Val} {p p2 pos : Pos} (hj : T.bts[j]? = some "isinstance") (hi : T.bts[i]? = some x) (he : Ex X W e f) (hv : bootBuiltins x = some (.type TT)) (hg : Gl X "isinstance" := by rfl) (hgT : Gl X x := by rfl)
    (hn : x ≠ "__name__" := by decide) (hdb : (x == ("__debug__" : Str)) = false := by decide) (h1 : starEach [e, .Name x p2] X.env = (false, eval e X.env) :: starEach [.Name x p2] X.env := by rfl) (h2 : starEach [.Name x p2] X.env = (false, eval (.Name x p2) X.env) :: starEach [] X.env := by rfl)
    (hpl : (backTo pos (starEach [.Name x p2] X.env)).any (·.1) = false := by rfl) : Ex X W (.Call (.Name "isinstance" p) [e, .Name x p2] [] pos) (isiD TT f) := ex_isi hg (C.kn.bt j _ hj) hgT (C.kn.bt i _ hi) hv he hn hdb bo_isinstance h1 h2 hpl
end
end Dn
end

section
/-! Dn, part 20: slices, sums of tuples, rows without doubles -/
namespace Dn
open PySem PySem.Spec PyProof.Rows L2
theorem cut_to {xs : List PyData} {k : Nat} : cutDs xs none (some (k : Int)) = xs.take k := by
  unfold cutDs
  rw [HT.sIx_none, HT.sIx_nat, List.drop_zero, Nat.sub_zero]
  rcases Nat.le_total k xs.length with h | h
  · rw [Nat.min_eq_left h]
  · rw [Nat.min_eq_right h, List.take_length, List.take_of_length_le h]
theorem cut_from {xs : List PyData} {k : Nat} : cutDs xs (some (k : Int)) none = xs.drop k := by
  unfold cutDs
  rw [HT.sIx_none, HT.sIx_nat]
  rcases Nat.le_total k xs.length with h | h
  · rw [Nat.min_eq_left h, List.take_of_length_le (by simp)]
  · rw [Nat.min_eq_right h, List.drop_length, List.drop_of_length_le h]
    simp
theorem sl_t {xs : List PyData} {lo hi : Option Int} {h : Hl} : slV (.dat (.tuple xs)) lo hi h = some (.tuple (cutDs xs lo hi)) := rfl
theorem sl_l {xs : List PyData} {lo hi : Option Int} {h : Hl} : slV (.dat (.list xs)) lo hi h = some (.list (cutDs xs lo hi)) := rfl
theorem sl_r {k : Nat} {xs : List PyData} {lo hi : Option Int} {h : Hl} (e : lstAt h k = some xs) : slV (.ref k) lo hi h = some (.list (cutDs xs lo hi)) := by
  show (peek (.ref k) h).bind (slD lo hi) = _
  rw [peek_r, e]
  rfl
theorem add_t {a b : List PyData} (h : a.length + b.length ≤ sizeLine) : addD (.tuple a) (.tuple b) = some (.tuple (a ++ b)) := by
  have e : addT (.tuple a) (.tuple b) = some (.tuple (a ++ b)) := if_pos h
  show ((none : Option PyData).orElse fun _ => (none : Option PyData).orElse fun _ => (addT (.tuple a) (.tuple b)).orElse fun _ => addL (.tuple a) (.tuple b)) = _
  rw [e]
  rfl
theorem add_l {a b : List PyData} (h : a.length + b.length ≤ sizeLine) : addD (.list a) (.list b) = some (.list (a ++ b)) := by
  have e : addL (.list a) (.list b) = some (.list (a ++ b)) := if_pos h
  show ((none : Option PyData).orElse fun _ => (none : Option PyData).orElse fun _ => (none : Option PyData).orElse fun _ => addL (.list a) (.list b)) = _
  rw [e]
  rfl
theorem enumL_map {α : Type} (enc : α → PyData) : ∀ (n : Nat) (ps : List α), enumL n (ps.map enc) = (ps.zipIdx n).map fun q => .tuple [.int (q.2 : Int), enc q.1]
  | _, [] => rfl
  | n, p :: ps => by
    rw [List.map_cons, enumL, List.zipIdx_cons, List.map_cons, enumL_map enc (n + 1) ps]
/-- each first one -/
def dedP {α : Type} (enc : α → PyData) (ps : List α) : List (α × Nat) := ps.zipIdx.filter fun q => !((ps.take q.2).map enc).any fun y => PyData.eqv y (enc q.1)
def ded {α : Type} (enc : α → PyData) (ps : List α) : List α := (dedP enc ps).map (·.1)
section
variable {α : Type} {enc : α → PyData}
theorem any_enc (inj : ∀ a b, PyData.eqv (enc a) (enc b) = true ↔ a = b) {x : α} {xs : List α} : ((xs.map enc).any fun y => PyData.eqv y (enc x)) = true ↔ x ∈ xs := by
  rw [List.any_map, List.any_eq_true]
  refine ⟨fun ⟨y, hy, e⟩ => ?_, fun h => ⟨x, h, (inj x x).mpr rfl⟩⟩
  have e' := (inj y x).mp e
  exact e' ▸ hy
theorem dedP_iff (inj : ∀ a b, PyData.eqv (enc a) (enc b) = true ↔ a = b) {ps : List α} {q : α × Nat} : q ∈ dedP enc ps ↔ ps[q.2]? = some q.1 ∧ q.1 ∉ ps.take q.2 := by
  unfold dedP
  rw [List.mem_filter, Bool.not_eq_true', Bool.eq_false_iff, ne_eq, any_enc inj]
  refine and_congr_left fun _ => ?_
  obtain ⟨x, i⟩ := q
  rw [List.mem_zipIdx_iff_getElem?]
theorem ded_mem (inj : ∀ a b, PyData.eqv (enc a) (enc b) = true ↔ a = b) {ps : List α} {x : α} : x ∈ ded enc ps ↔ x ∈ ps := by
  unfold ded
  rw [List.mem_map]
  constructor
  · rintro ⟨q, hq, rfl⟩
    exact List.mem_of_getElem? ((dedP_iff inj).mp hq).1
  · intro h
    classical
    have ex : ∃ i : Nat, ps[i]? = some x := by
      obtain ⟨i, hi, e⟩ := List.getElem_of_mem h
      exact ⟨i, by rw [List.getElem?_eq_getElem hi, e]⟩
    obtain ⟨i, hi, mi⟩ : ∃ i : Nat, ps[i]? = some x ∧ ∀ j, j < i → ps[j]? ≠ some x := by
      obtain ⟨i, hi⟩ := ex
      induction i using Nat.strongRecOn with
      | _ i ih =>
        by_cases z : ∃ j, j < i ∧ ps[j]? = some x
        · obtain ⟨j, hj, e⟩ := z
          exact ih j hj e
        · exact ⟨i, hi, fun j hj e => z ⟨j, hj, e⟩⟩
    refine ⟨(x, i), (dedP_iff inj).mpr ⟨hi, fun hm => ?_⟩, rfl⟩
    obtain ⟨j, hj, e⟩ := List.getElem_of_mem hm
    have hj' : j < i := by rw [List.length_take] at hj; omega
    refine mi j hj' ?_
    rw [List.getElem_take] at e
    rw [List.getElem?_eq_getElem (by rw [List.length_take] at hj; omega), e]
theorem ded_nodup (inj : ∀ a b, PyData.eqv (enc a) (enc b) = true ↔ a = b) (ps : List α) : (ded enc ps).Nodup := by
  unfold ded
  rw [List.nodup_iff_pairwise_ne, List.pairwise_map]
  have h : ps.zipIdx.Pairwise fun a b => a.2 < b.2 := by
    rw [List.pairwise_iff_getElem]
    intro i j hi hj hij
    rw [List.getElem_zipIdx, List.getElem_zipIdx]
    simp only
    omega
  have h2 : (dedP enc ps).Pairwise fun a b => a.2 < b.2 := h.sublist List.filter_sublist
  refine (List.pairwise_iff_forall_sublist.mpr fun {a b} sub => ?_ : (dedP enc ps).Pairwise fun a b => a.1 ≠ b.1)
  have ha : a ∈ dedP enc ps := sub.subset (List.mem_cons_self ..)
  have hb : b ∈ dedP enc ps := sub.subset (List.mem_cons_of_mem _ (List.mem_cons_self ..))
  have lt : a.2 < b.2 := by
    have := List.pairwise_iff_forall_sublist.mp h2 sub
    exact this
  intro e
  refine ((dedP_iff inj).mp hb).2 ?_
  rw [← e]
  have g := ((dedP_iff inj).mp ha).1
  have la := lt_of_getS g
  rw [List.mem_take_iff_getElem]
  refine ⟨a.2, by omega, ?_⟩
  rw [List.getElem?_eq_getElem la] at g
  exact Option.some.inj g
theorem ded_len (ps : List α) : (ded enc ps).length ≤ ps.length := by
  unfold ded dedP
  rw [List.length_map]
  exact Nat.le_trans (List.length_filter_le _ _) (by rw [List.length_zipIdx]; exact Nat.le_refl _)
/-- [x for k, x in enumerate(xs) if x not in xs[:k]] -/
theorem comp_ded {it : ItD} {g : DG} {tt : En → Hl → R Bool} {fe : En → Hl → R Val} {ρ0 : En} {h : Hl} (ps : List α) (ck : ckD it h = true) (hl : ps.length ≤ sizeLine)
    (H : ∀ q ∈ ps.zipIdx, optK (setG g (.dat (.tuple [.int (q.2 : Int), enc q.1])) ρ0) fun ρ1 => wpR (tt ρ1 h) (fun v h' => v = (!((ps.take q.2).map enc).any fun y => PyData.eqv y (enc q.1)) ∧ h' = h) noX ∧ wpR (fe ρ1 h) (fun v h' => v = .dat (enc q.1) ∧ h' = h) noX) :
    compL it g tt fe ρ0 (enumL 0 (ps.map enc)) [] h = .ok ((ded enc ps).map enc) h := by
  rw [enumL_map]
  refine (comp_filterE (fun q : α × Nat => PyData.tuple [.int (q.2 : Int), enc q.1]) (fun q => !((ps.take q.2).map enc).any fun y => PyData.eqv y (enc q.1)) (fun q => enc q.1) ps.zipIdx [] ck (by simpa using hl) fun q hq => ?_).trans ?_
  · have := H q hq
    cases e : setG g (.dat (.tuple [.int (q.2 : Int), enc q.1])) ρ0 with
    | none => rw [e] at this; exact this.elim
    | some ρ1 => rw [e] at this; exact ⟨this.1, fun _ => this.2⟩
  · rw [List.nil_append]
    unfold ded dedP
    rw [List.map_map]
    rfl
end
/-! an own list that is walked is what it was -/
theorem plain_sameL {xs : List PyData} (h : PyData.plainAll xs = true) : sameL xs xs = true := by
  have := plain_same (.list xs) (by rw [PyData.plain]; exact h)
  rwa [sameD] at this
theorem plain_enum : ∀ (n : Nat) {xs : List PyData}, PyData.plainAll xs = true → PyData.plainAll (enumL n xs) = true
  | _, [], _ => rfl
  | n, x :: xs, h => by
    rw [PyData.plainAll, Bool.and_eq_true] at h
    rw [enumL, PyData.plainAll, plain_enum (n + 1) h.2, PyData.plain, PyData.plainAll, PyData.plainAll, PyData.plainAll, h.1, PyData.plain]
    rfl
theorem ck_e {h : Hl} {k : Nat} {xs : List PyData} (e : lstAt h k = some xs) (p : PyData.plainAll xs = true) : ckD ⟨enumL 0 xs, some (k, true)⟩ h = true := by
  unfold ckD
  dsimp only
  rw [lst_get e]
  dsimp only
  rw [if_pos rfl]
  exact plain_sameL (plain_enum 0 p)
theorem ck_s {h : Hl} {k : Nat} {xs : List PyData} (e : lstAt h k = some xs) (p : PyData.plainAll xs = true) : ckD ⟨xs, some (k, false)⟩ h = true := by
  unfold ckD
  dsimp only
  rw [lst_get e]
  dsimp only
  rw [if_neg (by simp)]
  exact plain_sameL p
theorem plain_strs : ∀ xs : List Str, PyData.plainAll (xs.map .str) = true
  | [] => rfl
  | x :: xs => by rw [List.map_cons, PyData.plainAll, plain_strs xs, PyData.plain]; rfl
mutual
theorem Con.plain : ∀ c : Con, c.data.plain = true
  | .mk ns ls => by
    rw [Con.data, PyData.plain, PyData.plainAll, PyData.plainAll, PyData.plainAll, PyData.plain, PyData.plain, plain_strs ns, Lks.plain ls]
    rfl
theorem Lks.plain : ∀ ls : Lks, PyData.plainAll ls.data = true
  | .nil => by rw [Lks.data]; rfl
  | .cons r c ls => by
    rw [Lks.data, PyData.plainAll, Lks.plain ls, PyData.plain, PyData.plainAll, PyData.plainAll, PyData.plainAll, Con.plain c, PyData.plain]
    rfl
end
theorem plain_lks (ps : List (Str × Con)) : PyData.plainAll (ps.map lkD) = true := by
  have := Lks.plain (Lks.of ps)
  rwa [Lks.data_list, Lks.list_of] at this
theorem ne_of {d e : PyData} (h : dpt d e = true) : neD d e = some (.bool (!PyData.eqv d e)) := if_pos h
theorem ne_i {i j : Int} : neD (.int i) (.int j) = some (.bool (!(i == j))) := by
  rw [ne_of (by simp [dpt, PyData.depth])]
  simp [PyData.eqv]
theorem ne_s {i j : Str} : neD (.str i) (.str j) = some (.bool (!(i == j))) := by
  rw [ne_of (by simp [dpt, PyData.depth])]
  simp [PyData.eqv]
/-- for j in range(n) -/
theorem for_rng {n : Nat} {g : DG} {tb : En → Hl → SR} {N : En → Hl → Prop} {C : Ctl} (P : Nat → En → Hl → Prop)
    (step : ∀ j ρ h, j < n → P j ρ h → optK (setG g (.dat (.int (j : Int))) ρ) fun ρ1 => wpS (tb ρ1 h) (P (j + 1)) { C with bk := N, ct := P (j + 1) })
    (fin : ∀ ρ h, P n ρ h → N ρ h) {ρ : En} {h : Hl} (p0 : P 0 ρ h) : wpS (forL ⟨rngItems 0 n, none⟩ g tb (rngItems 0 n) ρ h) N C := by
  have len : (rngItems 0 n).length = n := by simp [rngItems]
  refine for_rule (fun ds ρ h => ∃ j, j ≤ n ∧ ds = (rngItems 0 n).drop j ∧ P j ρ h) (fun d ds ρ h I => ?_) (fun ρ h I => ?_) _ _ _ ⟨0, Nat.zero_le _, rfl, p0⟩
  · obtain ⟨j, hj, e, p⟩ := I
    have hlt : j < n := by
      rcases Nat.lt_or_ge j n with q | q
      · exact q
      · rw [List.drop_of_length_le (by omega)] at e; cases e
    rw [List.drop_eq_getElem_cons (by omega)] at e
    cases e
    refine ⟨rfl, ?_⟩
    have ed : (rngItems 0 n)[j]'(by omega) = .int (j : Int) := by simp [rngItems]
    rw [ed]
    have s1 := step j ρ h hlt p
    cases e : setG g (.dat (.int (j : Int))) ρ with
    | none => rw [e] at s1; exact s1.elim
    | some ρ1 =>
      rw [e] at s1
      exact wpS_mono s1 (fun ρ h q => ⟨j + 1, by omega, rfl, q⟩) (fun _ _ z => z) (fun _ _ z => z) (fun _ _ z => ⟨j + 1, by omega, rfl, z⟩) (fun _ _ _ z => z)
  · obtain ⟨j, hj, e, p⟩ := I
    have : j = n := by
      have := congrArg List.length e
      rw [List.length_drop, len, List.length_nil] at this
      omega
    subst this
    exact ⟨rfl, fin ρ h p⟩
theorem w_yes {ρ : En} {h : Hl} {κ : Bool → Hl → Prop} {ε : Exc → Hl → Prop} : wpR (yesD ρ h) κ ε = κ true h := rfl
theorem take_all1 {α : Type} (a : α) (l : List α) : (a :: l).take (l.length + 1) = a :: l := by simp
end Dn
end

section
/-! Dn, part 21: the rest of the law's word for an error; list.index in short -/
namespace Dn
open PySem PySem.Spec PyProof.Rows L2
def errRest : En → Hl → SR :=
  (seqS (ifS (tstD (binD neD (Hx.sumD 1) (cD (.int 1)))) (seqS (retS (cD (.str "odd"))) nilS) nilS)
  (seqS (retS (binD ixD (asD (lstD (consD (cD (.str "refused")) (consD (cD (.str "large")) (consD (cD (.str "missing")) (consD (cD (.str "paper")) (consD (cD (.str "form")) nilD))))))) (idxD (varD 1) (consD (cD (.bool true)) nilD)))) nilS))
theorem errRest_ok : ∀ j, j < 5 → errRest [none, some (.dat (.list ((Hx.rowB j).map PyData.bool))), none] [] = .ret (.dat (.str (Hx.errWord j))) [] := by
  intro j hj
  rcases j with _ | _ | _ | _ | _ | j
  · rfl
  · rfl
  · rfl
  · rfl
  · rfl
  · omega
theorem wpR_eqx {α : Type} {r : R α} {e : Exc} {h : Hl} (w : wpR r (fun _ _ => False) (fun e' g => e' = e ∧ g = h)) : r = .exc e h := by
  cases r with
  | stuck => exact w.elim
  | ok x h => exact w.elim
  | exc b g => obtain ⟨rfl, rfl⟩ := w; rfl
theorem s_raise {x : Str} {ρ : En} {h : Hl} {N : En → Hl → Prop} {C : Ctl} : wpS (raiseS x ρ h) N C = C.ex ⟨x⟩ ρ h := rfl
theorem s_try {i : Nat} {f : En → Hl → SR} {ρ : En} {h : Hl} {N : En → Hl → Prop} {C : Ctl} : wpS (tryErr i f ρ h) N C = wpS (f ρ h) N { C with ex := fun e ρ' h' => optK (errIx e.cls) fun j => i < ρ'.length ∧ C.rt (.dat (.str (Hx.errWord j))) h' } := by
  unfold tryErr
  cases f ρ h with
  | exc e ρ' h' =>
    show wpS (match errIx e.cls with
      | some j => if i < ρ'.length then .ret (.dat (.str (Hx.errWord j))) h' else .stuck
      | none => .stuck) N C = optK (errIx e.cls) _
    cases errIx e.cls with
    | none => rfl
    | some j =>
      show wpS (if i < ρ'.length then _ else _) N C = (_ ∧ _)
      by_cases z : i < ρ'.length
      · rw [if_pos z]; exact (eq_true_and z).symm
      · rw [if_neg z]; exact (eq_false_and z).symm
  | _ => rfl
where
  eq_true_and {p q : Prop} (h : p) : (p ∧ q) = q := propext ⟨fun x => x.2, fun x => ⟨h, x⟩⟩
  eq_false_and {p q : Prop} (h : ¬ p) : (p ∧ q) = False := propext ⟨fun x => h x.1, fun x => x.elim⟩
theorem errIx0 : errIx "NotAllowed" = some 0 := rfl
theorem errIx1 : errIx "TooLarge" = some 1 := rfl
theorem errIx2 : errIx "Missing" = some 2 := rfl
theorem errIx3 : errIx "BadPaper" = some 3 := rfl
theorem errWord0 : Hx.errWord 0 = "refused" := rfl
theorem errWord1 : Hx.errWord 1 = "large" := rfl
theorem errWord2 : Hx.errWord 2 = "missing" := rfl
theorem errWord3 : Hx.errWord 3 = "paper" := rfl
section
variable {X : Cx} {W : WX} {k : Nat} {T : Tab}
theorem Fx.idx (C : Fx X W k T) {o e : Expr} {fo : En → Hl → R Val} {fa : En → Hl → R (List Val)} {apos cpos : Pos} (ho : Ex X W o fo) (ha : Ax X W [e] fa) (hbase : attributeBase o "index" X.env (eval o X.env) = eval o X.env := by rfl)
    (hfew : ((backTo cpos (starEach [e] X.env)).all (fun x => !x.1) && (backToKw cpos (keywordEach [] X.env)).all (fun x => x.1.isSome) && decide ([e].length + ([] : List Keyword).length + (if ([] : List Keyword).isEmpty then 0 else 1) < 30)) = true := by rfl)
    (hline : (apos.endLine == cpos.line) = true := by rfl) (hs : starEach [e] X.env = (false, eval e X.env) :: starEach [] X.env := by rfl) (hplain : (backTo cpos (starEach [] X.env)).any (·.1) = false := by rfl) : Ex X W (.Call (.Attribute o "index" apos) [e] [] cpos) (idxD fo fa) := ex_idx C.hu ho ha hbase hfew hline hs hplain
end
end Dn
end

section
/-! Dn, part 22: zip of two frozen rows; a tuple turned round -/
namespace Dn
open PySem PySem.Spec PyProof.Rows L2

/-! ### zip -/
/-- a list (true) or a tuple (false) -/
def SqB (b : Bool) (K : PySem.W.Frag) (H : Hp) (a : Addr) (xs : List V) : Prop := match b with
  | true => SqL K H a xs
  | false => SqT K H a xs
def ItB (b : Bool) (h : Heap) (it l : Addr) (i : Nat) : Prop := match b with
  | true => h.IsListIter it l i
  | false => h.IsTupleIter it l i
def IsB (b : Bool) (h : Heap) (l : Addr) (items : Array Value) : Prop := match b with
  | true => h.IsList l items
  | false => h.IsTuple l items
theorem drawsB {prog : Program} {w : World} {A : Around} (hh : A.handled = none) (b : Bool) (it l : Addr) (hne : l ≠ it) (items : Array Value) :
    Draws prog w A it [it, l] items.size (fun i v => items[i]? = some v) (fun i h => ItB b h it l i ∧ IsB b h l items) := match b with
  | true => Draws.list hh it l hne items
  | false => Draws.tuple hh it l hne items
theorem ItB.at {b : Bool} {h h' : Heap} {it l : Addr} {i : Nat} (x : ItB b h it l i) (k : ∀ o, h.get? it = some o → h'.get? it = some o) : ItB b h' it l i := match b, x with
  | true, x => Heap.IsListIter.at x k
  | false, x => Heap.IsTupleIter.at x k
theorem ItB.ob {b : Bool} {h : Heap} {it l : Addr} {i : Nat} (x : ItB b h it l i) : ∃ o, h.get? it = some o ∧ ∀ v, o.data ≠ .cell v := match b, x with
  | true, ⟨o, e, _, d⟩ => ⟨o, e, fun v q => by rw [d] at q; cases q⟩
  | false, ⟨o, e, _, d⟩ => ⟨o, e, fun v q => by rw [d] at q; cases q⟩
theorem Inv_sqB {X : Cx} {pins : List (Addr × Obj)} {σ : L2.St} {H : Hp} {s : Shared} {b : Bool} {a : Addr} {xs : List V} (I : Inv X pins σ H s) (h : SqB b X.K H a xs) :
    ∃ its : List Value, Vals xs its ∧ IsB b s.heap a its.toArray ∧ a < s.heap.objs.size := match b, h with
  | true, h => let ⟨its, r, p, _⟩ := I.list h; ⟨its, r, p.isList, p.lt⟩
  | false, h => let ⟨its, r, p, _⟩ := I.tuple h; ⟨its, r, p, let ⟨_, q, _⟩ := p; Heap.lt_size q⟩
theorem Inv_sqB_inj {X : Cx} {pins : List (Addr × Obj)} {σ : L2.St} {H : Hp} {s : Shared} {b : Bool} {a : Addr} {xs ys : List V} (I : Inv X pins σ H s) (h : SqB b X.K H a xs) (g : SqB b X.K H a ys) : xs = ys := match b, h, g with
  | true, h, g => I.list_inj h g
  | false, h, g => I.tuple_inj h g
/-- the rows at a and c, the items in new pairs -/
def ItzG (b1 b2 : Bool) (m1 m2 : Nat) (K : PySem.W.Frag) (a c : Addr) : It where
  go := fun i H => ∃ (xs ys : List V) (x y : V), SqB b1 K H a xs ∧ SqB b2 K H c ys ∧ xs.length = m1 ∧ ys.length = m2 ∧ xs[i]? = some x ∧ ys[i]? = some y
  yld := fun i H v H' => ∃ T x y, v = .ref T ∧ H T = none ∧ H' = L2.upd H T (.tup [x, y]) ∧ (∀ xs, SqB b1 K H a xs → xs[i]? = some x) ∧ ∀ ys, SqB b2 K H c ys → ys[i]? = some y
  stop := fun i H => ∃ xs ys : List V, SqB b1 K H a xs ∧ SqB b2 K H c ys ∧ xs.length = m1 ∧ ys.length = m2 ∧ (m1 ≤ i ∨ m2 ≤ i)
theorem turn_zipG {P : Program} {w : World} {K : PySem.W.Frag} {elts : List Expr} {kk : Nat} {tpos : Pos} {b1 b2 : Bool} {m1 m2 : Nat} {a c z TI TO i1 i2 : Addr} (S : ZipSep2 z TI TO i1 i2 [i1, a] [i2, c]) (n1 : a ≠ i1) (n2 : c ≠ i2) :
    Turn P w K (.Tuple elts kk tpos) (ItzG b1 b2 m1 m2 K a c) [z, TI, TO, i1, i2] z (fun i h => (i ≤ m1 ∧ i ≤ m2) ∧ IsZip h z TI TO .none ∧ IsTupOf2 h TI (.ref i1) (.ref i2) ∧ (∃ x y, IsTupOf2 h TO x y) ∧ ItB b1 h i1 a i ∧ ItB b2 h i2 c i) where
  mem := by simp
  obj := fun i h st q hq => by
    obtain ⟨le, hz, hTI, ⟨x, y, hTO⟩, h1, h2⟩ := st
    have e' : q = z ∨ q = TI ∨ q = TO ∨ q = i1 ∨ q = i2 := by simpa using hq
    rcases e' with rfl | rfl | rfl | rfl | rfl
    · exact ⟨_, hz, fun v q => nomatch q⟩
    · exact ⟨_, hTI, fun v q => nomatch q⟩
    · exact ⟨_, hTO, fun v q => nomatch q⟩
    · exact h1.ob
    · exact h2.ob
  keep := fun i h h' st k => by
    obtain ⟨le, hz, hTI, ⟨x, y, hTO⟩, h1, h2⟩ := st
    exact ⟨le, k z (by simp) _ hz, k TI (by simp) _ hTI, ⟨x, y, k TO (by simp) _ hTO⟩, h1.at fun o q => k i1 (by simp) o q, h2.at fun o q => k i2 (by simp) o q⟩
  item := by
    intro X hP hw hK hc i pins s σ H E I hf st hg
    subst hP hw hK
    obtain ⟨le, hz, hTI, ⟨x0, y0, hTO⟩, h1, h2⟩ := st
    obtain ⟨xs, ys, x, y, hqx, hqy, g1, g2, hx, hy⟩ := hg
    have lx := (List.getElem?_eq_some_iff.mp hx).1
    have ly := (List.getElem?_eq_some_iff.mp hy).1
    obtain ⟨its, rv, p, _⟩ := Inv_sqB I hqx
    obtain ⟨its2, rv2, p2, _⟩ := Inv_sqB I hqy
    obtain ⟨u, hu, ru⟩ := rv.get hx
    obtain ⟨u2, hu2, ru2⟩ := rv2.get hy
    have hzl : z < s.heap.objs.size := Heap.lt_size hz
    have D1 := drawsB (prog := X.prog) (w := X.w) (A := X.A.in1) (show X.A.in1.handled = none from I.ok.hd hc) b1 i1 a n1 its.toArray
    have D2 := drawsB (prog := X.prog) (w := X.w) (A := X.A.in1) (show X.A.in1.handled = none from I.ok.hd hc) b2 i2 c n2 its2.toArray
    refine wpAny_pyNext_zipD2_item S D1 D2 hz hTI hTO ⟨h1, p⟩ ⟨h2, p2⟩ (by have := (List.getElem?_eq_some_iff.mp hu).1; simpa using this) (by have := (List.getElem?_eq_some_iff.mp hu2).1; simpa using this) fun v1 v2 h' tk w1 w2 z' TO' h1' h2' hT hsz hk => ?_
    have e1 : v1 = u := by
      have q : its.toArray[i]? = some v1 := w1
      rw [List.getElem?_toArray, hu] at q
      exact (Option.some.inj q).symm
    have e2 : v2 = u2 := by
      have q : its2.toArray[i]? = some v2 := w2
      rw [List.getElem?_toArray, hu2] at q
      exact (Option.some.inj q).symm
    subst e1 e2
    refine ⟨_, rfl, wpAny_letOwnedTupleGo_zip (s := { s with heap := h', toks := tk }) z' fun h'' z'' sb => ?_⟩
    have hT2 : h''.get? s.heap.objs.size = some { cls := .type "tuple", data := .seq #[v1, v2] } := (sb.2 _ (Nat.ne_of_gt hzl)).trans hT
    have new : ObjOk X.prog X.w (upd H s.heap.objs.size (.tup [x, y])) h'' s.heap.objs.size (.tup [x, y]) := by
      refine ⟨(by decide : 2 ≤ sizeLine), [v1, v2], .cons ru (.cons ru2 .nil), ⟨_, hT2, rfl, _, rfl⟩⟩
    have I1 : Inv X pins σ (upd H s.heap.objs.size (.tup [x, y])) { s with heap := h'', toks := tk } := by
      refine I.turnedNew (ch := [z, TI, TO, i1, i2]) (fun b ob hb q => ?_) hf (Nat.le_refl _) new
      have m : ∀ d, d ∈ [z, TI, TO, i1, i2] → b ≠ d := fun d hd e => hb (e ▸ hd)
      exact (sb.2 b (m z (by simp))).trans (hk b ob (m z (by simp)) (m TO (by simp)) (m i1 (by simp)) (m i2 (by simp)) q)
    refine ⟨.ref s.heap.objs.size, _, I1, rfl, ⟨_, x, y, rfl, I.hok.fresh (Nat.le_refl _), rfl, fun l hl => by rw [Inv_sqB_inj I hl hqx]; exact hx, fun l hl => by rw [Inv_sqB_inj I hl hqy]; exact hy⟩, ⟨⟨by omega, by omega⟩, z'', ?_, ⟨v1, v2, ?_⟩, ?_, ?_⟩, fun d hd => ?_⟩
    · exact (sb.2 _ S.TIz).trans (hk _ _ S.TIz S.TITO S.TIi1 S.TIi2 hTI)
    · exact (sb.2 _ S.TOz).trans TO'
    · exact h1'.1.at fun o q => (sb.2 _ S.zi1.symm).trans q
    · exact h2'.1.at fun o q => (sb.2 _ S.zi2.symm).trans q
    · have hlt : d < s.heap.objs.size := by
        have e' : d = z ∨ d = TI ∨ d = TO ∨ d = i1 ∨ d = i2 := by simpa using hd
        rcases e' with rfl | rfl | rfl | rfl | rfl
        · exact hzl
        · exact Heap.lt_size hTI
        · exact Heap.lt_size hTO
        · obtain ⟨_, e1, _⟩ := h1.ob; exact Heap.lt_size e1
        · obtain ⟨_, e2, _⟩ := h2.ob; exact Heap.lt_size e2
      rw [upd_ne (Nat.ne_of_lt hlt)]
      exact (hf d hd).1
  done := by
    intro X hP hw hK hc i pins s σ H E I hf st hg
    subst hP hw hK
    obtain ⟨le, hz, hTI, ⟨x0, y0, hTO⟩, h1, h2⟩ := st
    obtain ⟨xs, ys, hqx, hqy, l1, l2, hend⟩ := hg
    obtain ⟨its, rv, p, _⟩ := Inv_sqB I hqx
    obtain ⟨its2, rv2, p2, _⟩ := Inv_sqB I hqy
    have e1 : its.toArray.size = xs.length := by rw [List.size_toArray]; exact rv.length.symm
    have e2 : its2.toArray.size = ys.length := by rw [List.size_toArray]; exact rv2.length.symm
    have D1 := drawsB (prog := X.prog) (w := X.w) (A := X.A.in1) (show X.A.in1.handled = none from I.ok.hd hc) b1 i1 a n1 its.toArray
    have D2 := drawsB (prog := X.prog) (w := X.w) (A := X.A.in1) (show X.A.in1.handled = none from I.ok.hd hc) b2 i2 c n2 its2.toArray
    refine wpAny_pyNext_zipD2_end S D1 D2 hz hTI hTO ⟨h1, p⟩ ⟨h2, p2⟩ (by rw [e1]; omega) (by rw [e2]; omega) (by rw [e1, e2]; omega) fun h' tk hk => ⟨rfl, I.turnedL (ch := [z, TI, TO, i1, i2]) (fun b ob hb q => ?_) hf⟩
    have m : ∀ d, d ∈ [z, TI, TO, i1, i2] → b ≠ d := fun d hd e => hb (e ▸ hd)
    exact hk b ob (m z (by simp)) (m TO (by simp)) (m i1 (by simp)) (m i2 (by simp)) q
  self := fun A i s Q E st h => wpAny_pyIter_zip st.2.1 h

def obB (b : Bool) (l : Addr) : Obj := match b with
  | true => { cls := .type "list_iterator", data := .fields #[.ref l, .int 0 0] }
  | false => { cls := .type "tuple_iterator", data := .fields #[.ref l, .int 0 0] }
theorem begB (b : Bool) (l : Addr) (items : Array Value) : Begins (.ref l) (obB b l) fun h => IsB b h l items := match b with
  | true => begins_list l items
  | false => begins_tuple l items
theorem itB_of {b : Bool} {l it : Addr} {h : Heap} (e : h.get? it = some (obB b l)) : ItB b h it l 0 := match b, e with
  | true, e => ⟨_, e, rfl, rfl⟩
  | false, e => ⟨_, e, rfl, rfl⟩
theorem no2 {x y z : Nat} (h : x ≠ y) (g : x ≠ z) : x ∉ [y, z] := fun q => (List.mem_cons.mp q).elim h fun q => g (List.mem_singleton.mp q)
theorem sep_of {n a c : Nat} (la : a < n) (lc : c < n) : ZipSep2 (n + 4) (n + 2) (n + 3) n (n + 1) [n, a] [n + 1, c] where
  TIz := (by omega : (n + 2 : Nat) ≠ n + 4)
  TOz := (by omega : (n + 3 : Nat) ≠ n + 4)
  TITO := (by omega : (n + 2 : Nat) ≠ n + 3)
  TIi1 := (by omega : (n + 2 : Nat) ≠ n)
  mem1 := List.mem_cons_self ..
  zf1 := no2 (by omega) (by omega)
  Tf1 := no2 (by omega) (by omega)
  TIi2 := (by omega : (n + 2 : Nat) ≠ n + 1)
  mem2 := List.mem_cons_self ..
  zf2 := no2 (by omega) (by omega)
  Tf2 := no2 (by omega) (by omega)
  sep1_2 := no2 (by omega) (by omega)
  sep2_1 := no2 (by omega) (by omega)
def iZipG (K : PySem.W.Frag) (ta : TA) : TI := fun σ H R => ta σ H fun vs H1 => ∃ a c xs ys b1 b2, vs = [.ref a, .ref c] ∧ SqB b1 K H1 a xs ∧ SqB b2 K H1 c ys ∧ R (ItzG b1 b2 xs.length ys.length K a c) H1
theorem pi_zipG {X : Cx} {e e2 : Expr} {ta : TA} {p pos tpos : Pos} {elts : List Expr} {kk : Nat} (hg : Gl X "zip") (hm : X.mg "zip" = none) (ha : PA X [e, e2] ta)
    (hs : starEach [e, e2] X.env = (false, eval e X.env) :: starEach [e2] X.env) (hpl : (backTo pos (starEach [e2] X.env)).any (·.1) = false) :
    PI X (.Tuple elts kk tpos) (.Call (.Name "zip" p) [e, e2] [] pos) (iZipG X.K ta) := by
  refine ⟨fun pins s σ H R I h => ?_⟩
  refine Call_ (ld_blt I hg hm PyProof.Rows.boot_zip (PyProof.Rows.callWith_type1 (thn (ha.run pos pins s σ H _ I h) fun us s1 ⟨vs, H1, I1, r1, q1⟩ => ?_) hs hpl))
  obtain ⟨a, c, xs, ys, b1, b2, rfl, hqx, hqy, q⟩ := q1
  cases r1 with
  | cons r rr =>
    cases rr with
    | cons r' rr =>
      cases rr
      cases r
      cases r'
      obtain ⟨its, rv, p1, la⟩ := Inv_sqB I1 hqx
      obtain ⟨its2, rv2, p2, lc⟩ := Inv_sqB I1 hqy
      have fresh5 : ∀ d, d ∈ [s1.heap.objs.size + 4, s1.heap.objs.size + 2, s1.heap.objs.size + 3, s1.heap.objs.size, s1.heap.objs.size + 1] → FpOk X pins H1 d := fun d hd => by
        have hle : s1.heap.objs.size ≤ d := by
          have e' : d = s1.heap.objs.size + 4 ∨ d = s1.heap.objs.size + 2 ∨ d = s1.heap.objs.size + 3 ∨ d = s1.heap.objs.size ∨ d = s1.heap.objs.size + 1 := by simpa using hd
          rcases e' with z | z | z | z | z <;> rw [z] <;> first | exact Nat.le_refl _ | exact Nat.le_add_right _ _
        exact I1.fpOk hle (I1.hok.fresh hle)
      refine zip_begins2 (begB b1 a its.toArray) (begB b2 c its2.toArray) p1 p2 fun h' hz hTI hTO h1 h2 hsz hk => wpAny_pyIter_zip hz ?_
      have I2 : Inv X pins σ H1 { s1 with heap := h' } := I1.kept (t' := s1.toks) hk
      exact ⟨s1.heap.objs.size + 4, [s1.heap.objs.size + 4, s1.heap.objs.size + 2, s1.heap.objs.size + 3, s1.heap.objs.size, s1.heap.objs.size + 1], _, _, H1, rfl, I2, turn_zipG (b1 := b1) (b2 := b2) (sep_of la lc) (Nat.ne_of_lt la) (Nat.ne_of_lt (Nat.lt_succ_of_lt lc)), ⟨⟨Nat.zero_le _, Nat.zero_le _⟩, hz, hTI, ⟨_, _, hTO⟩, itB_of h1, itB_of h2⟩, fresh5, q⟩

/-- the items in pairs -/
def zipL : List PyData → List PyData → List PyData
  | d :: ds, e :: es => .tuple [d, e] :: zipL ds es
  | _, _ => []
theorem zipL_get : ∀ (ds es : List PyData) (i : Nat) (d : PyData), (zipL ds es)[i]? = some d → ∃ x y, ds[i]? = some x ∧ es[i]? = some y ∧ d = .tuple [x, y]
  | [], _, _, _, h => by simp [zipL] at h
  | _ :: _, [], _, _, h => by simp [zipL] at h
  | x :: ds, y :: es, 0, d, h => ⟨x, y, rfl, rfl, by simpa [zipL, eq_comm] using h⟩
  | x :: ds, y :: es, i + 1, d, h => zipL_get ds es i d (by simpa [zipL] using h)
theorem zipL_end : ∀ (ds es : List PyData) (i : Nat), (zipL ds es)[i]? = none → ds.length ≤ i ∨ es.length ≤ i
  | [], _, _, _ => .inl (Nat.zero_le _)
  | _ :: _, [], _, _ => .inr (Nat.zero_le _)
  | x :: ds, y :: es, 0, h => by simp [zipL] at h
  | x :: ds, y :: es, i + 1, h => (zipL_end ds es i (by simpa [zipL] using h)).imp Nat.succ_le_succ Nat.succ_le_succ
theorem zipL_len : ∀ (ds es : List PyData), (zipL ds es).length = min ds.length es.length
  | [], _ => by simp [zipL]
  | _ :: _, [] => by simp [zipL]
  | x :: ds, y :: es => by simp [zipL, zipL_len ds es]
section
variable {X : Cx} {W : WX}
def rowK (v : Val) : Option (Bool × List PyData) := match v with
  | .dat (.list ds) => some (true, ds)
  | .dat (.tuple ds) => some (false, ds)
  | _ => none
def zipI (vs : List Val) (h : Hl) : R ItD := match vs with
  | [v, w] => (match rowK v, rowK w with
    | some p, some q => .ok ⟨zipL p.2 q.2, none⟩ h
    | _, _ => .stuck)
  | _ => .stuck
def zipD (fa : En → Hl → R (List Val)) : En → Hl → R ItD := fun ρ h => (fa ρ h).bind zipI
theorem rowK_ok {K : PySem.W.Frag} {Z : Addr → Prop} {φ : Nat → Addr} {h : Hl} {H : Hp} {x : V} {v : Val} {p : Bool × List PyData} (S : SimH K Z φ h H) (r : RpV K Z φ h H x v) (e : rowK v = some p) :
    ∃ a xs, x = .ref a ∧ SqB p.1 K H a xs ∧ xs.length = p.2.length ∧ ∀ (Z' : Addr → Prop) φ1 h1 H1, Stp φ Z h H φ1 h1 H1 → SimH K Z' φ1 h1 H1 → (∀ a, (∃ o, H a = some o) → Z' a → Z a) → SqB p.1 K H1 a xs ∧ RpAll K H1 (live Z' φ1 h1) xs p.2 := by
  unfold rowK at e
  split at e
  · cases e
    cases r with
    | lst e0 n ra => exact ⟨_, _, rfl, SqL.of e0, ra.length, fun Z' φ1 h1 H1 s S1 hz => ⟨SqL.of (s.keep _ _ e0 (notOwn_of n)), RpAll.stepZ S s hz ra⟩⟩
  · cases e
    cases r with
    | tup e0 ra => exact ⟨_, _, rfl, e0, ra.length, fun Z' φ1 h1 H1 s S1 hz => ⟨SqT.step S s e0, RpAll.stepZ S s hz ra⟩⟩
  · cases e
theorem pair2_new {K : PySem.W.Frag} {Z : Addr → Prop} {φ : Nat → Addr} {h : Hl} {H : Hp} {x y : V} {d e : PyData} {T : Addr} (S : SimH K Z φ h H) (n : H T = none) (r : Rp K H (live Z φ h) x d) (q : Rp K H (live Z φ h) y e) :
    Stp φ Z h H φ h (L2.upd H T (.tup [x, y])) ∧ SimH K Z φ h (L2.upd H T (.tup [x, y])) ∧ Rp K (L2.upd H T (.tup [x, y])) (live Z φ h) (.ref T) (.tuple [d, e]) :=
  ⟨stp_upd n, S.upd n, .tup (SqT.of upd_same) (.cons (Rp.step S (stp_upd n) r) (.cons (Rp.step S (stp_upd n) q) .nil))⟩
theorem ix_zip {e e2 : Expr} {elts : List Expr} {kk : Nat} {tpos p pos : Pos} {fa : En → Hl → R (List Val)} (hg : Gl X "zip") (hm : X.mg "zip" = none) (ha : Ax X W [e, e2] fa)
    (hs : starEach [e, e2] X.env = (false, eval e X.env) :: starEach [e2] X.env) (hpl : (backTo pos (starEach [e2] X.env)).any (·.1) = false) :
    Ix X W (.Tuple elts kk tpos) (.Call (.Name "zip" p) [e, e2] [] pos) (zipD fa) := by
  obtain ⟨t, pa, s⟩ := ha
  refine ⟨_, pi_zipG hg hm pa hs hpl, fun Z φ ρ hh σ H Q S E po => ?_⟩
  refine s.seq S E po fun vs h1 φ1 H1 xs s1 S1 E1 r1 p1 => ?_
  unfold zipI at p1
  split at p1
  · rename_i v w
    split at p1
    · rename_i p q ep eq
      cases r1 with
      | cons r rr =>
        cases rr with
        | cons r' rr =>
          cases rr
          obtain ⟨a, ys, rfl, b1, l1, k1⟩ := rowK_ok S1 r ep
          obtain ⟨c, zs, rfl, b2, l2, k2⟩ := rowK_ok S1 r' eq
          refine ⟨a, c, ys, zs, p.1, q.1, rfl, b1, b2, p1 φ1 H1 Stp.refl S1 _ ⟨fun Z' φ2 h2 H2 s2 S2 _ hz i d g => ?_, fun Z' φ2 h2 H2 s2 S2 _ hz i g => ?_⟩⟩
          · obtain ⟨c1, m1⟩ := k1 Z' φ2 h2 H2 s2 S2 hz
            obtain ⟨c2, m2⟩ := k2 Z' φ2 h2 H2 s2 S2 hz
            obtain ⟨x, y, gx, gy, rfl⟩ := zipL_get _ _ _ _ g
            obtain ⟨u, hu, ru⟩ := m1.get gx
            obtain ⟨u2, hu2, ru2⟩ := m2.get gy
            refine ⟨⟨ys, zs, u, u2, c1, c2, rfl, rfl, hu, hu2⟩, fun z H3 hy => ?_⟩
            obtain ⟨T, x', y', rfl, n, rfl, f1, f2⟩ := hy
            have e1 := f1 ys c1
            have e2 := f2 zs c2
            rw [hu] at e1; cases e1
            rw [hu2] at e2; cases e2
            exact pair2_new S2 n ru ru2
          · obtain ⟨c1, m1⟩ := k1 Z' φ2 h2 H2 s2 S2 hz
            obtain ⟨c2, m2⟩ := k2 Z' φ2 h2 H2 s2 S2 hz
            have := zipL_end _ _ _ g
            exact ⟨ys, zs, c1, c2, rfl, rfl, by rw [l1, l2]; exact this⟩
    · exact p1.elim
  · exact p1.elim
end

section
variable {κi : ItD → Hl → Prop} {ε : Exc → Hl → Prop} {ρ : En} {h : Hl}
def zipK (vs : List Val) (k : ItD → Prop) : Prop := match vs with
  | [v, w] => optK (rowK v) fun p => optK (rowK w) fun q => k ⟨zipL p.2 q.2, none⟩
  | _ => False
theorem zipK_2 {v w : Val} {k : ItD → Prop} : zipK [v, w] k = optK (rowK v) fun p => optK (rowK w) fun q => k ⟨zipL p.2 q.2, none⟩ := rfl
theorem row_l {ds : List PyData} : rowK (.dat (.list ds)) = some (true, ds) := rfl
theorem row_t {ds : List PyData} : rowK (.dat (.tuple ds)) = some (false, ds) := rfl
theorem w_zip {fa : En → Hl → R (List Val)} : wpR (zipD fa ρ h) κi ε = wpR (fa ρ h) (fun vs h1 => zipK vs fun it => κi it h1) ε := by
  unfold zipD
  rw [wpR_bind]
  congr 1
  funext vs h1
  match vs with
  | [] => rfl
  | [_] => rfl
  | _ :: _ :: _ :: _ => rfl
  | [v, w] =>
    rw [zipK_2]
    unfold zipI
    dsimp only
    cases rowK v with
    | none => cases rowK w <;> rfl
    | some p => cases rowK w <;> rfl
end
section
variable {X : Cx} {W : WX} {k : Nat} {T : Tab}
theorem Fx.zip (C : Fx X W k T) (j : Nat) {e e2 : Expr} {elts : List Expr} {kk : Nat} {tpos p pos : Pos} {fa : En → Hl → R (List Val)} (hj : T.bts[j]? = some "zip") (ha : Ax X W [e, e2] fa) (hg : Gl X "zip" := by rfl)
    (hs : starEach [e, e2] X.env = (false, eval e X.env) :: starEach [e2] X.env := by rfl) (hpl : (backTo pos (starEach [e2] X.env)).any (·.1) = false := by rfl) :
    Ix X W (.Tuple elts kk tpos) (.Call (.Name "zip" p) [e, e2] [] pos) (zipD fa) := ix_zip hg (C.kn.bt j _ hj) ha hs hpl
end
end Dn
end

section
/-! Dn, part 23: a tuple turned round, t[::-1] -/
namespace Dn
open PySem PySem.Spec PyProof.Rows L2 HT
section
variable {prog : Program} {w : World} {A : Around} {E : Value → Shared → Prop} {s : Shared}
theorem applied_back {sl : Addr} {vs : Value} {n : Nat} {Q : Int × Int × Nat → Shared → Prop} (hs : s.heap.IsSliceOf sl .none .none vs) (pv : IsPart vs (some (-1)))
    (h : Q ((n : Int) - 1, -1, n) s) : wpAny (model prog w) A (Builtin.Slice.sliceApplied (.ref sl) (pure (n : Int))) Q E s := by
  obtain ⟨os, hos, hcs, hds⟩ := id hs
  unfold Builtin.Slice.sliceApplied Builtin.Slice.sliceFields
  refine wpAny_bind (wpAny_bind (wpAny_field hos hds (x := .none) rfl (wpAny_bind (wpAny_field hos hds (x := .none) rfl (wpAny_bind (wpAny_field hos hds (x := vs) rfl (wpAny_pure ?_)))))))
  refine wpAny_bind (slicePart_ pv ?_)
  show wpAny _ _ (if ((-1 : Int) == 0) = true then _ else _) _ _ s
  rw [if_neg (by decide)]
  refine wpAny_bind (slicePart_ .none (wpAny_bind (slicePart_ .none (wpAny_bind (wpAny_pure ?_)))))
  have e1 : Builtin.Slice.sliceAdjust none none (-1) (n : Int) = ((n : Int) - 1, -1) := rfl
  have e2 : Builtin.Slice.slicePlaces ((n : Int) - 1) (-1) (-1) = n := by
    unfold Builtin.Slice.slicePlaces
    have h1 : ¬ ((-1 : Int) > 0) := by omega
    simp only [h1, if_false]
    by_cases q : (n : Int) - 1 > -1
    · rw [if_pos q, show (- -1 : Int) = 1 by decide, Int.ediv_one]
      omega
    · rw [if_neg q]
      omega
  show wpAny _ _ (match Builtin.Slice.sliceAdjust none none (-1) (n : Int) with | (lo, hi) => pure (lo, (-1 : Int), Builtin.Slice.slicePlaces lo hi (-1))) _ _ s
  rw [e1]
  show wpAny _ _ (pure ((n : Int) - 1, (-1 : Int), Builtin.Slice.slicePlaces ((n : Int) - 1) (-1) (-1))) _ _ s
  rw [e2]
  exact wpAny_pure h
theorem pick_back (xs : List Value) : ((List.range xs.toArray.size).filterMap fun (m : Nat) => xs.toArray[((((xs.toArray.size : Nat) : Int) - 1) + (m : Int) * (-1)).toNat]?).toArray = xs.reverse.toArray := by
  congr 1
  have e : ∀ m, m ∈ List.range xs.toArray.size → (fun (m : Nat) => xs.toArray[((((xs.toArray.size : Nat) : Int) - 1) + (m : Int) * (-1)).toNat]?) m = (fun m : Nat => xs.reverse[m]?) m := by
    intro m hm
    have hm' := List.mem_range.mp hm
    rw [List.size_toArray] at hm'
    show xs.toArray[((((xs.toArray.size : Nat) : Int) - 1) + (m : Int) * (-1)).toNat]? = xs.reverse[m]?
    rw [List.getElem?_reverse hm', List.getElem?_toArray, List.size_toArray]
    congr 1
    omega
  have f : ∀ (l : List Nat) (g g' : Nat → Option Value), (∀ m ∈ l, g m = g' m) → l.filterMap g = l.filterMap g' := by
    intro l g g' h
    induction l with
    | nil => rfl
    | cons a l ih =>
      rw [List.filterMap_cons, List.filterMap_cons, h a (List.mem_cons_self ..), ih fun m hm => h m (List.mem_cons_of_mem _ hm)]
  rw [f _ _ _ e, List.size_toArray]
  have z := PySem.W.krv_all xs.reverse.toArray
  rw [List.size_toArray, List.length_reverse] at z
  simpa using z
theorem getItem_tuple_back {t sl : Addr} {its : List Value} {vs : Value} {Q : Value → Shared → Prop} (ht : IsTup s.heap t its.toArray) (hs : s.heap.IsSliceOf sl .none .none vs) (pv : IsPart vs (some (-1)))
    (h : Q (.ref s.heap.objs.size) { s with heap := s.heap.push { cls := .type "tuple", data := .seq its.reverse.toArray } })
    (hsz : its.length ≤ sizeLine) : wpAny (model prog w) A (getItem (.ref t) (.ref sl)) Q E s := by
  have htake : sizeOk (.seq its.reverse.toArray) := by
    show its.reverse.toArray.size ≤ sizeLine
    rw [List.size_toArray, List.length_reverse]
    exact hsz
  obtain ⟨os, hos, hcs, hds⟩ := id hs
  have hTs : s.TypeIs (.ref sl) "slice" := ⟨os, hos, hcs⟩
  unfold getItem
  try with_reducible refine wpAny_holding ?_
  first | refine wpAny_bind (wpAny_pure ?_) | skip
  refine wpAny_bind (wpAny_sequenceKey ht.typeIs (by decide) ?_)
  refine wpAny_bind (wpAny_callSpecial?_slot (name := Str.ofString "__getitem__") ht.typeIs PyProof.Rows.slot_tuple_getitem
    (wpAny_call_entry PyProof.Rows.slot_tuple_getitem ht.typeIs entry_tuple_getitem ?_ (args_tuple_getitem _ _)))
  show wpAny _ _ (Builtin.Tuple.tupleItemsOf (.ref t) >>= _) _ _ s
  refine wpAny_bind (tupleItemsOf_ ht ?_)
  refine wpAny_bind (wpAny_typeOf hTs ?_)
  rw [if_pos (by decide)]
  refine wpAny_bind (applied_back hs pv ?_)
  have hno : ¬ ((((its.toArray.size : Nat) : Int) - 1 == 0 && (-1 : Int) == 1 && its.toArray.size == its.toArray.size) = true) := by
    intro q
    rw [Bool.and_eq_true, Bool.and_eq_true] at q
    exact absurd (eq_of_beq q.1.2) (by decide)
  show wpAny _ _ (if (((its.toArray.size : Nat) : Int) - 1 == 0 && (-1 : Int) == 1 && its.toArray.size == its.toArray.size) = true then _ else _) _ _ s
  rw [if_neg hno, pick_back]
  first
    | exact wpAny_bind (m := Builtin.Tuple.tupleExact _) (wpAny_newObj_type (wpAny_pure ⟨_, rfl, wpAny_pure h⟩) htake)
    | exact wpAny_bind (m := Builtin.Tuple.tupleExact _) (wpAny_newObj_type (wpAny_bind (wpAny_pure (wpAny_pure ⟨_, rfl, wpAny_pure h⟩))) htake)
    | exact wpAny_bind (wpAny_bind (m := Builtin.Tuple.tupleExact _) (wpAny_newObj_type (wpAny_pure (wpAny_pure ⟨_, rfl, wpAny_pure h⟩)) htake))
    | exact wpAny_bind (wpAny_bind (m := Builtin.Tuple.tupleExact _) (wpAny_newObj_type (wpAny_pure ⟨_, rfl, wpAny_pure h⟩) htake))
end

section
variable {X : Cx} {W : WX}
/-- e[::st], e a tuple, st the number -1 -/
def tBack (K : PySem.W.Frag) (te : TE) (ts : TO) : TE := fun σ H Q => te σ H fun x H1 => ts σ H1 fun o H2 => o = some (-1) ∧ ∃ a xs, x = .ref a ∧ SqT K H2 a xs ∧ ∀ p, H2 p = none → Q (.ref p) (upd H2 p (.tup xs.reverse))
theorem Vals.rev {xs : List V} {us : List Value} (r : Vals xs us) : Vals xs.reverse us.reverse := by
  have app : ∀ {xs ys : List V} {us vs : List Value}, Vals xs us → Vals ys vs → Vals (xs ++ ys) (us ++ vs) := by
    intro xs ys us vs h g
    induction h with
    | nil => exact g
    | cons a b ih => exact .cons a ih
  induction r with
  | nil => exact .nil
  | cons a b ih =>
    rw [List.reverse_cons, List.reverse_cons]
    exact app ih (.cons a .nil)
theorem pe_back {e st : Expr} {te : TE} {ts : TO} {p2 pos : Pos} (he : PE X e te) (hs : PO X (some st) ts) : PE X (.Subscript e (.Slice none none (some st) p2) pos) (tBack X.K te ts) := by
  refine ⟨fun pins s σ H Q I h => ?_⟩
  refine Subscript_ (thn (he.run pins s σ H _ I h) fun v s1 ⟨x, H1, I1, r1, q1⟩ => ?_)
  refine wpAny_Slice ?_
  rw [evalPart_none]
  refine wpAny_pure (wpAny_pure ?_)
  refine thn (hs.run pins s1 σ H1 _ I1 q1) fun vs s3 ⟨o, H3, I3, pv, q3⟩ => ?_
  obtain ⟨rfl, a, xs, rfl, hx, q⟩ := q3
  cases r1
  have I4 : Inv X pins σ H3 { s3 with heap := s3.heap.push { cls := .type "slice", data := .fields #[.none, .none, vs] } } := I3.kept (t' := s3.toks) fun b ob q => Heap.get?_push_of_some _ q
  obtain ⟨its, r, ht, hz⟩ := I4.tuple hx
  have hlen : its.length = xs.length := r.length.symm
  show wpAny (model X.prog X.w) X.A (subscriptTail e (.Slice none none (some st) p2) (.ref a) (.ref s3.heap.objs.size)) (EP X pins σ Q) X.xe { s3 with heap := s3.heap.push { cls := .type "slice", data := .fields #[.none, .none, vs] } }
  refine tail_any (ops := [.ref a, .ref s3.heap.objs.size]) ht.typeIs PyProof.Rows.slot_tuple_getitem.lookup ?_ (by with_unfolding_all rfl)
  refine getItem_tuple_back ht (Heap.IsSliceOf.new ..) pv ?_ (by rw [hlen]; exact hz)
  refine ⟨.ref _, _, I4.laid (t' := s3.toks) (o := .tup xs.reverse) (fun b ob q => Heap.get?_push_of_some _ q) (Nat.le_refl _) ?_, rfl, q _ (I4.hok.fresh (Nat.le_refl _))⟩
  exact ⟨by rw [List.length_reverse]; exact hz, _, Vals.rev r, IsTup.new _ _⟩
theorem RpAll.reverse {K : PySem.W.Frag} {H : Hp} {L : Addr → Prop} : ∀ {xs : List V} {ds : List PyData}, RpAll K H L xs ds → RpAll K H L xs.reverse ds.reverse
  | _, _, .nil => .nil
  | _, _, .cons r t => by
    rw [List.reverse_cons, List.reverse_cons]
    exact RpAll.append (RpAll.reverse t) (.cons r .nil)
def backD (f : En → Hl → R Val) (fs : En → Hl → R (Option Int)) : En → Hl → R Val := fun ρ h => (f ρ h).bind fun a h1 => (fs ρ h1).bind fun o h2 => match a, o with
  | .dat (.tuple ds), some (-1) => .ok (.dat (.tuple ds.reverse)) h2
  | _, _ => .stuck
theorem ex_back {a st : Expr} {f : En → Hl → R Val} {fs : En → Hl → R (Option Int)} {p2 pos : Pos} (ha : Ex X W a f) (hs : Px X W (some st) fs) : Ex X W (.Subscript a (.Slice none none (some st) p2) pos) (backD f fs) := by
  obtain ⟨ta, pa, ha⟩ := ha
  obtain ⟨ts, ps, hs⟩ := hs
  refine ⟨_, pe_back pa ps, fun Z φ ρ h0 σ H Q S E po => ?_⟩
  refine ha.seq S E po fun v h1 φ1 H1 x s1 S1 E1 r1 p1 => ?_
  refine hs.seq S1 E1 p1 fun o h2 φ2 H2 y s2 S2 E2 r2 p2 => ?_
  subst r2
  have rv := RpV.step S1 s2 r1
  split at p2
  · rename_i ds
    cases rv with
    | tup e0 ra => exact ⟨rfl, _, _, rfl, e0, fun p n => p2 φ2 _ (stp_upd n) (S2.upd n) _ (.tup (SqT.of upd_same) (RpAll.step S2 (stp_upd n) (RpAll.reverse ra)))⟩
  · exact p2.elim
end
section
variable {κ : Val → Hl → Prop} {ε : Exc → Hl → Prop} {ρ : En} {h : Hl}
def backK (v : Val) (o : Option Int) (k : List PyData → Prop) : Prop := match v, o with
  | .dat (.tuple ds), some (-1) => k ds.reverse
  | _, _ => False
theorem backK_t {ds : List PyData} {k : List PyData → Prop} : backK (.dat (.tuple ds)) (some (-1)) k = k ds.reverse := rfl
theorem w_back {f : En → Hl → R Val} {fs : En → Hl → R (Option Int)} : wpR (backD f fs ρ h) κ ε = wpR (f ρ h) (fun a h1 => wpR (fs ρ h1) (fun o h2 => backK a o fun ds => κ (.dat (.tuple ds)) h2) ε) ε := by
  unfold backD
  rw [wpR_bind]
  congr 1
  funext a h1
  rw [wpR_bind]
  congr 1
  funext o h2
  unfold backK
  split <;> first | rfl | (rename_i q; split <;> first | rfl | (rename_i q2; exact absurd rfl (q _ q2)) | rfl)
theorem neg_i {i : Int} : negD (.int i) = some (.int (-i)) := rfl
end
end Dn
end

section
/-! Dn, part 24: a list so many times -/
namespace Dn
open PySem PySem.Spec PyProof.Rows L2
section
variable {X : Cx} {W : WX}
def mulL : PyData → PyData → Option PyData
  | .list ds, .int k => if 0 ≤ k ∧ k ≤ 1000000 ∧ ds.length ≤ 16 then some (.list (List.replicate k.toNat ds).flatten) else none
  | _, _ => none
theorem RpAll.flat {K : PySem.W.Frag} {H : Hp} {L : Addr → Prop} {xs : List V} {ds : List PyData} (r : RpAll K H L xs ds) : ∀ n : Nat, RpAll K H L (List.replicate n xs).flatten (List.replicate n ds).flatten
  | 0 => .nil
  | n + 1 => by
    rw [List.replicate_succ, List.replicate_succ, List.flatten_cons, List.flatten_cons]
    exact r.append (RpAll.flat r n)
theorem ok_mulL : OpOk X (binaryOp .Mult) mulL := by
  refine ⟨_, op_rep, fun Z φ hh H x y d e z Q S rx ry eg q => ?_⟩
  unfold mulL at eg
  split at eg
  · rename_i ds k
    split at eg
    · cases eg
      obtain ⟨a, xs, rfl, ha, ra⟩ := rx.lst
      rename_i hz
      have hx : xs.length * k.toNat ≤ sizeLine := by
        rw [ra.length]
        refine Nat.le_trans (Nat.mul_le_mul hz.2.2 (show k.toNat ≤ 1000000 by omega)) (by decide)
      exact ⟨a, k, xs, rfl, ry.int, ha, by omega, by omega, hx, fun p n => q _ _ (stp_upd n) (S.upd n) (.lst upd_same (S.notLiveNew n) (RpAll.step S (stp_upd n) (ra.flat _)))⟩
    · cases eg
  · cases eg
theorem mul_ll {ds : List PyData} {k : Nat} (h : k ≤ 1000000) (g : ds.length ≤ 16) : mulL (.list ds) (.int (k : Int)) = some (.list (List.replicate k ds).flatten) := by
  show (if 0 ≤ (k : Int) ∧ (k : Int) ≤ 1000000 ∧ ds.length ≤ 16 then some (PyData.list (List.replicate (k : Int).toNat ds).flatten) else none) = _
  rw [if_pos ⟨by omega, by omega, g⟩, Int.toNat_natCast]
end
end Dn
end

section
/-! Dn, part 25: sorted(set(..)) of a row of texts -/
namespace Dn
open PySem PySem.Spec PyProof.Rows L2
section
variable {P : Program} {w : World} {A : Around} {E : Value → Shared → Prop} {s : Shared}
/-- a text, with the mark that the kind gives it -/
def TxtE (w : World) (P : Program) (e : Int × Value) : Prop := ∃ x t, e.2 = Value.str x t ∧ e.1 = (PySem.strKind P w).hash x
/-- no two are one text -/
def Two (e f : Int × Value) : Prop := ∀ x t u, ¬ (e.2 = Value.str x t ∧ f.2 = Value.str x u)
theorem Two.symm {e f : Int × Value} (h : Two e f) : Two f e := fun x t u z => h x u t ⟨z.2, z.1⟩
def HasT (l : List (Int × Value)) (x : Str) : Prop := ∃ e ∈ l, ∃ t, e.2 = Value.str x t
/-- the set of texts at a, M its members, n how many; it can be walked -/
def SetT (P : Program) (w : World) (h : Heap) (a : Addr) (M : Str → Prop) (n : Nat) : Prop :=
  ∃ o es ep t, h.get? a = some o ∧ o.ExactSet ∧ o.data = .set es ep t ∧ ((∀ e ∈ es.toList, TxtE w P e) ∧ es.toList.Pairwise Two ∧ ∀ x, M x ↔ HasT es.toList x) ∧ (es.size < scanBound ∧ t.fits es.size = true ∧ es.size = n) ∧ Ris t.place.toList ∧ (w.params.followText "set-order" = true ∨ t.led = true)
theorem SetT.up {h h' : Heap} {a : Addr} {M : Str → Prop} {n : Nat} (R : SetT P w h a M n) (k : ∀ o, h.get? a = some o → h'.get? a = some o) : SetT P w h' a M n :=
  let ⟨o, es, ep, t, e1, r⟩ := R
  ⟨o, es, ep, t, k o e1, r⟩
theorem TxtE.elems {l : List (Int × Value)} (g : ∀ e ∈ l, TxtE w P e) : ElemsOf (PySem.strKind P w) l := fun e he => by
  obtain ⟨x, t, e1, e2⟩ := g e he
  exact ⟨⟨x, by rw [e1]; exact strKind_is P w x t, e2⟩, by rw [e1]; rfl⟩
theorem TxtE.is {e : Int × Value} (g : TxtE w P e) (x : Str) : (PySem.strKind P w).is x e.2 = true ↔ ∃ t, e.2 = Value.str x t := by
  constructor
  · intro h
    exact Value.isStrOf_shape h
  · rintro ⟨t, e1⟩
    rw [e1]
    exact strKind_is P w x t
theorem putT {h : Heap} {a : Addr} {o : Obj} {es es' : Array (Int × Value)} {ep : Nat} {t t' : SetTable} (e1 : h.get? a = some o) (e2 : o.data = .set es ep t) :
    (h.update a (Obj.putSet es' t')).get? a = some { o with data := .set es' (ep + 1) t' } := by
  have z := Heap.get?_update_self (Obj.putSet es' t') e1 (by rw [putSet_of es' t' e2]; rfl)
  rwa [putSet_of es' t' e2] at z
/-- the row as it is stored, laid anew where it grew too full -/
theorem tailT {g : Bool → Sem Unit} (hg : ∀ (b : Bool) (s' : Shared) (R : Unit → Shared → Prop), R () s' → wpAny (model P w) A (g b) R E s') {a : Addr}
    {o : Obj} {es : Array (Int × Value)} {ep : Nat} {t : SetTable} (e1 : s.heap.get? a = some o) (ex : o.ExactSet) (e2 : o.data = .set es ep t)
    {fs : Array (Int × Value)} {u : SetTable} {M : Str → Prop} (g1 : (∀ e ∈ fs.toList, TxtE w P e) ∧ fs.toList.Pairwise Two ∧ ∀ x, M x ↔ HasT fs.toList x)
    (b1 : fs.size < scanBound) (f1 : u.fits fs.size = true) (r1 : Ris u.place.toList) (l1 : w.params.followText "set-order" = true ∨ u.led = true) {d : Bool} {R : Option Bool → Shared → Prop}
    (k : ∀ h', Heap.SameBut a s.heap h' → SetT P w h' a M fs.size → R (some true) { s with heap := h' }) :
    wpAny (model P w) A (do
        storeSet a fs u
        if (!d && u.tooFull) = true then do
            g (relayAll u fs (SetTable.grown fs.size)).2.2
            storeSet a (relayAll u fs (SetTable.grown fs.size)).1 (relayAll u fs (SetTable.grown fs.size)).2.1
            pure (some true)
          else pure (some true)) R E s := by
  refine wpAny_bind (wpAny_storeSet_of e1 e2 ?_ (fits_of_scanBound b1))
  have e3 := putT (es' := fs) (t' := u) e1 e2
  have sb := Heap.SameBut.update s.heap a (Obj.putSet fs u)
  split
  · have p1 := relayAll_perm u fs (SetTable.grown fs.size)
    have p2 := relayAll_fits u fs (SetTable.grown fs.size)
    have p3 := relayAll_ris u fs (SetTable.grown fs.size)
    have p4 := relayAll_led u fs (SetTable.grown fs.size)
    generalize relayAll u fs (SetTable.grown fs.size) = Z at p1 p2 p3 p4 ⊢
    obtain ⟨gs, u2, gv⟩ := Z
    dsimp only at p1 p2 p3 p4 ⊢
    have zz : gs.size = fs.size := by rw [← Array.length_toList, p1.length_eq, Array.length_toList]
    have b2 : gs.size < scanBound := by rw [zz]; exact b1
    refine wpAny_bind (hg _ _ _ (wpAny_bind (wpAny_storeSet_of e3 rfl ?_ (fits_of_scanBound b2))))
    have e4 := putT (es' := gs) (t' := u2) e3 rfl
    refine wpAny_pure (k _ (sb.trans (Heap.SameBut.update _ a _)) ⟨_, gs, _, u2, e4, ex, rfl, ⟨fun e he => g1.1 e (p1.mem_iff.mp he), (p1.pairwise_iff (fun h => Two.symm h)).mpr g1.2.1, fun x => (g1.2.2 x).trans ?_⟩, ⟨b2, p2, zz⟩, p3, l1.imp id fun z => by rw [p4]; exact z⟩)
    exact ⟨fun ⟨e, he, q⟩ => ⟨e, p1.mem_iff.mpr he, q⟩, fun ⟨e, he, q⟩ => ⟨e, p1.mem_iff.mp he, q⟩⟩
  · exact wpAny_pure (k _ sb ⟨_, fs, _, u, e3, ex, rfl, g1, ⟨b1, f1, rfl⟩, r1, l1⟩)
/-- a text comes in -/
theorem addT' {a : Addr} {x : Str} {tk : Tok} {M : Str → Prop} {n : Nat} {Q : Bool → Shared → Prop} (R : SetT P w s.heap a M n) (room : n + 1 < scanBound)
    (k : ∀ h' b m, Heap.SameBut a s.heap h' → m ≤ n + 1 → SetT P w h' a (fun y => M y ∨ y = x) m → Q b { s with heap := h' }) :
    wpAny (model P w) A (setAddHashed a (.str x tk) ((PySem.strKind P w).hash x)) Q E s := by
  obtain ⟨o, es, ep, t, e1, ex, e2, ⟨g, tw, hm⟩, ⟨b0, f0, z0⟩, r0, l0⟩ := R
  have ky : (PySem.strKind P w).is x (.str x tk) = true := strKind_is P w x tk
  have sc : (Value.str x tk).scannable = true := rfl
  have el : ElemsOf (PySem.strKind P w) es.toList := TxtE.elems g
  unfold setAddHashed setAddHashedIn
  refine wpAny_holding (wpAny_bind (wpAny_setState_of e1 e2 f0 ?_))
  dsimp only
  rw [byScan_of sc b0 el]
  simp only [↓reduceIte]
  unfold setAddByScan
  refine wpAny_bind (wpAny_bind (wpAny_rule (wpAny_bind (wpAny_setScan_of ky e1 e2 f0 el ?_))))
  cases fi : List.findIdx? (fun e => (PySem.strKind P w).is x e.2) es.toList with
  | some j =>
    dsimp only
    obtain ⟨hj, pj, _⟩ := List.findIdx?_eq_some_iff_getElem.mp fi
    have mj := List.getElem_mem hj
    have hx : HasT es.toList x := ⟨_, mj, ((g _ mj).is x).mp pj⟩
    refine wpAny_pure (wpAny_pure (k s.heap _ n (Heap.SameBut.refl a s.heap) (Nat.le_succ _) ⟨o, es, ep, t, e1, ex, e2, ⟨g, tw, fun y => ⟨fun z => z.elim (hm y).mp (fun q => q ▸ hx), fun z => .inl ((hm y).mpr z)⟩⟩, ⟨b0, f0, z0⟩, r0, l0⟩))
  | none =>
    dsimp only
    have no : ¬ HasT es.toList x := fun ⟨e, he, q⟩ => by
      have c := List.findIdx?_eq_none_iff.mp fi e he
      rw [((g e he).is x).mpr q] at c
      cases c
    have gw : ∀ (b : Bool) {s' : Shared} {R : Unit → Shared → Prop}, R () s' → wpAny (model P w) A (match b with | true => rule "set.scan.the-table-gave-way" | false => pure ()) R E s' :=
      fun b s' R q => by cases b <;> first | exact wpAny_pure q | exact wpAny_rule q
    have p1 := layNew_perm t es ((PySem.strKind P w).hash x) (.str x tk)
    have p2 := layNew_fits t es ((PySem.strKind P w).hash x) (.str x tk)
    have p3 := layNew_ris t es ((PySem.strKind P w).hash x) (.str x tk) r0
    have p4 := layNew_led t es ((PySem.strKind P w).hash x) (.str x tk)
    generalize layNew t es ((PySem.strKind P w).hash x) (.str x tk) = Z at p1 p2 p3 p4 ⊢
    obtain ⟨fs, u, wd, gv⟩ := Z
    dsimp only at p1 p2 p3 p4 ⊢
    rw [Array.toList_push] at p1
    have pc : fs.toList.Perm (((PySem.strKind P w).hash x, Value.str x tk) :: es.toList) := p1.trans (List.perm_append_singleton _ _)
    have g1 : (∀ e ∈ fs.toList, TxtE w P e) ∧ fs.toList.Pairwise Two ∧ ∀ y, (M y ∨ y = x) ↔ HasT fs.toList y := by
      refine ⟨fun e he => ?_, (pc.pairwise_iff (fun h => Two.symm h)).mpr (List.pairwise_cons.mpr ⟨fun e he y t' u' z => ?_, tw⟩), fun y => ⟨fun z => ?_, fun z => ?_⟩⟩
      · rcases List.mem_cons.mp (pc.mem_iff.mp he) with z | z
        · rw [z]; exact ⟨x, tk, rfl, rfl⟩
        · exact g e z
      · have z1 : Value.str x tk = Value.str y t' := z.1
        cases z1
        exact no ⟨e, he, u', z.2⟩
      · rcases z with z | rfl
        · obtain ⟨e, he, q⟩ := (hm y).mp z
          exact ⟨e, pc.mem_iff.mpr (List.mem_cons_of_mem _ he), q⟩
        · exact ⟨_, pc.mem_iff.mpr (List.mem_cons_self ..), tk, rfl⟩
      · obtain ⟨e, he, t', q⟩ := z
        rcases List.mem_cons.mp (pc.mem_iff.mp he) with z | z
        · rw [z] at q
          have q1 : Value.str x tk = Value.str y t' := q
          cases q1
          exact .inr rfl
        · exact .inl ((hm y).mpr ⟨e, z, t', q⟩)
    have zz : fs.size = n + 1 := by rw [← Array.length_toList, pc.length_eq, List.length_cons, Array.length_toList, z0]
    have b1 : fs.size < scanBound := by rw [zz]; exact room
    have l1 : w.params.followText "set-order" = true ∨ u.led = true := l0.imp id fun z => by rw [p4]; exact z
    have fin : ∀ h', Heap.SameBut a s.heap h' → SetT P w h' a (fun y => M y ∨ y = x) fs.size → Q true { s with heap := h' } := fun h' sb r => k h' true fs.size sb (by rw [zz]; exact Nat.le_refl _) r
    refine wpAny_bind (gw _ ?_)
    split
    · refine wpAny_bind ?_
      rw [hashByValue_scannable 8 sc]
      refine wpAny_pure (tailT ?_ e1 ex e2 g1 b1 ?_ ?_ ?_ ?_)
      · intro b s' R q; cases b <;> first | exact wpAny_pure q | exact wpAny_rule q
      · first | (split <;> first | exact p2 | exact SetTable.fits_plain_off p2) | exact p2
      · first | (split <;> exact p3) | exact p3
      · first | (split <;> exact l1) | exact l1
      · intro h' sb r; dsimp only; exact wpAny_pure (fin h' sb r)
    · refine wpAny_bind (wpAny_pure ?_)
      simp only [↓reduceIte]
      refine tailT ?_ e1 ex e2 g1 b1 p2 p3 l1 ?_
      · intro b s' R q; cases b <;> first | exact wpAny_pure q | exact wpAny_rule q
      · intro h' sb r; dsimp only; exact wpAny_pure (fin h' sb r)
theorem newT {h : Heap} {a : Addr} (e : h.get? a = some { cls := .type "set", dict := none, data := .set #[] 0 (.fresh 0 0 (!w.params.followText "set-order")) }) : SetT P w h a (fun _ => False) 0 :=
  ⟨_, #[], 0, _, e, ⟨rfl, rfl, rfl⟩, rfl, ⟨(fun e he => by simp at he), .nil, fun x => ⟨fun z => z.elim, fun ⟨e, he, _⟩ => by simp at he⟩⟩, ⟨by decide, by rfl, rfl⟩, List.Pairwise.nil, by
    cases w.params.followText "set-order"
    · exact .inr rfl
    · exact .inl rfl⟩
/-- all texts of a row come in -/
theorem loopT {I : Addr} {fp wr : List Addr} {G : Array GenState → Array GenState → Prop} {n : Nat} {Pv : Nat → Value → Prop} {St : Nat → Shared → Prop} {R : Result → Shared → Prop}
    (W : WalksS P w A.in1 I fp wr G n Pv St) (D : Addr) (hD : D ∉ fp) (xs : List Str) (hn : n = xs.length) (hb : xs.length + 1 < scanBound) (hval : ∀ i v, Pv i v → ∃ x t, xs[i]? = some x ∧ v = .str x t) :
    ∀ (j i : Nat) (s : Shared), n - i = j → i ≤ n → St i s → (∃ c, c ≤ i ∧ SetT P w s.heap D (fun y => y ∈ xs.take i) c) →
      (∀ s' c, Moved (D :: wr) G s s' → c ≤ n → SetT P w s'.heap D (fun y => y ∈ xs) c → R (.ok (.ret .none)) s') →
      codeAny (model P w) A (.builtin "set.update.loop" ⟨[.ref D, .ref I], []⟩) R s := by
  have nw : D ∉ wr := fun h => hD (W.sub _ h)
  have sub : ∀ b ∈ wr, b ∈ D :: wr := fun b hb => List.mem_cons_of_mem _ hb
  intro j
  induction j with
  | zero =>
    intro i s hj hi st ⟨c, hc, hS⟩ k
    have e : i = n := by omega
    subst e
    refine codeAny_builtin F.entry_set_update_loop ?_
    rw [Around.under_plainId F.plain_set_update_loop _]
    show wpAny _ A.in1 (pyNext (.ref I) >>= _) _ _ s
    refine wpAny_bind (W.done s _ _ st fun s' mv => ?_)
    rw [show xs.take i = xs from List.take_of_length_le (by omega)] at hS
    exact wpAny_pure (k s' c (mv.mono sub) hc (hS.up fun o q => mv.heap D o nw q))
  | succ j ih =>
    intro i s hj hi st ⟨c, hc, hS⟩ k
    have lt : i < n := by omega
    refine codeAny_builtin F.entry_set_update_loop ?_
    rw [Around.under_plainId F.plain_set_update_loop _]
    show wpAny _ A.in1 (pyNext (.ref I) >>= _) _ _ s
    refine wpAny_bind (W.item i s _ _ lt st fun v s' pv st' mv => ?_)
    obtain ⟨x, t, hx, rfl⟩ := hval i v pv
    have hS' : SetT P w s'.heap D (fun y => y ∈ xs.take i) c := hS.up fun o q => mv.heap D o nw q
    show wpAny _ A.in1 (holding [Value.str x t] (setAdd D (.str x t)) >>= _) _ _ s'
    refine wpAny_bind (wpAny_holding ?_)
    unfold setAdd
    refine wpAny_holding (wpAny_bind ((PySem.strKind P w).pyHash (k := x) (strKind_is P w x t) ?_))
    refine addT' (s := { s' with toks := s'.toks + 1 }) hS' (by omega) fun h' b m sb hm hS2 => ?_
    have hS3 : SetT P w h' D (fun y => y ∈ xs.take (i + 1)) m := by
      have e : (fun y => y ∈ xs.take i ∨ y = x) = fun y => y ∈ xs.take (i + 1) := by
        funext y
        rw [List.take_add_one, hx]
        simp [List.mem_append]
      rw [← e]
      exact hS2
    refine wpAny_pure ⟨plainId_quiet F.plain_set_update_loop _, ih (i + 1) _ (by omega) lt (W.frame _ s' _ _ st' (Nat.le_succ _) fun b hb o q => ?_) ⟨m, by omega, hS3⟩ fun s2 c2 mv2 hc2 hS4 => ?_⟩
    · rw [sb.2 b (fun z => hD (by rw [← z]; exact hb))]; exact q
    · refine k s2 c2 (Moved.trans W.gtrans ((mv.mono sub).then_heap (Nat.le_succ _) fun b o hb q => ?_) mv2) hc2 hS4
      rw [sb.2 b (fun z => hb (by rw [z]; exact List.mem_cons_self))]; exact q

set_option maxHeartbeats 8000000 in
theorem call_setT_tuple {l : Addr} {its : Array Value} (xs : List Str) {Q : Value → Shared → Prop} (hh : A.handled = none) (hl : s.heap.IsTuple l its) (hx : StrsAre its.toList xs) (hb : xs.length + 1 < scanBound)
    (k : ∀ (h' : Heap) (tk c : Nat), SetT P w h' s.heap.objs.size (fun y => y ∈ xs) c → c ≤ xs.length → (∀ b o, s.heap.get? b = some o → h'.get? b = some o) → Q (.ref s.heap.objs.size) { s with heap := h', toks := tk }) :
    wpAny (model P w) A (call (.type "set") [.ref l]) Q E s := by
  have sz : its.size = xs.length := by
    have q := StrsAre.length hx
    rwa [Array.length_toList] at q
  obtain ⟨c, tl, hmro⟩ := F.called_set.mro
  have hmade := F.called_set.made
  have hsub := F.called_set.sub
  refine wpAny_call (codeAny_of_tree ?_)
  show wpAny _ _ (callAny (.type "set") _) _ _ _
  refine wpAny_pure ⟨Code.quiet_builtin _ (by decide +kernel), codeAny_builtin F.entry_type_call ?_⟩
  rw [Around.under_plain (weight_type_call_type "set" [.ref l] []) rfl]
  have h1 := F.called_set.notType
  have h2 := F.called_set.canCreate
  have hct := F.typeCall_set_1 (.ref l)
  repeat (any_goals (first | assumption | wp_step))
  refine codeAny_mono (code_set_led1 (.ref l) (E := E) (Q₁ := fun v s' => v = .ref s.heap.objs.size ∧ s' = { s with heap := s.heap.push { cls := .type "set", dict := none, data := .set #[] 0 (.fresh 0 0 (!w.params.followText "set-order")) } }) ⟨rfl, rfl⟩) fun r s1 hr => ?_
  cases r with
  | error e => exact hr
  | ok fl =>
    cases fl with
    | ret v =>
      obtain ⟨rfl, rfl⟩ := hr
      have eD : (s.heap.push { cls := .type "set", dict := none, data := .set #[] 0 (.fresh 0 0 (!w.params.followText "set-order")) }).get? s.heap.objs.size = some { cls := .type "set", dict := none, data := .set #[] 0 (.fresh 0 0 (!w.params.followText "set-order")) } := Heap.get?_push_size _ rfl
      have hT : Shared.TypeIs { s with heap := s.heap.push { cls := .type "set", dict := none, data := .set #[] 0 (.fresh 0 0 (!w.params.followText "set-order")) } } (.ref s.heap.objs.size) "set" := ⟨_, eD, rfl⟩
      have hli := F.called_set.init.lookup
      have hbi := F.called_set.init.bind (.ref s.heap.objs.size)
      repeat (any_goals (first | assumption | wp_step))
      refine codeAny_mono (codeAny_call_builtin (R := wants (fun r s2 => r = .none ∧ ∃ h' tk c, s2 = { s with heap := h', toks := tk } ∧ SetT P w h' s.heap.objs.size (fun y => y ∈ xs) c ∧ c ≤ xs.length ∧
          (∀ b o, s.heap.get? b = some o → h'.get? b = some o)) E) F.called_set.init.plain F.entry_set_init (check_set_init_1 hT ?_)) fun r2 s2 hr2 => ?_
      · obtain ⟨ol, hol, hcl, nl, hdl⟩ := hl
        obtain ⟨ocls, odict, odata, oslots⟩ := ol
        simp only at hcl hdl
        subst hcl; subst hdl
        have hol' : (s.heap.push { cls := .type "set", dict := none, data := .set #[] 0 (.fresh 0 0 (!w.params.followText "set-order")) }).get? l = some { cls := .type "tuple", dict := odict, data := .seq its nl, slots := oslots } := Heap.get?_push_of_some _ hol
        have hsls := F.sub_tuple_set
        have hslf := F.sub_tuple_frozenset
        have hne : (Value.type "tuple" == Value.type "dict") = false := by decide
        have hl1 : (s.heap.push { cls := .type "set", dict := none, data := .set #[] 0 (.fresh 0 0 (!w.params.followText "set-order")) }).IsTuple l its := ⟨_, hol', rfl, nl, rfl⟩
        unfold Builtin.«set.__init__» noKeywords Builtin.Frozenset.updateFrom
        generalize hPI : pyIter = PI
        wp_walk
        subst hPI
        refine wpAny_pyIter_tuple hl1 (wpAny_bind (wpAny_runValue ?_))
        have lt0 : l < s.heap.objs.size := Heap.lt_size hol
        have hh3 : A.in1.in1.in1.handled = none := by simp [hh]
        have ne1 : l ≠ (s.heap.push { cls := .type "set", dict := none, data := .set #[] 0 (.fresh 0 0 (!w.params.followText "set-order")) }).objs.size := by
          rw [Heap.size_push]; exact Nat.ne_of_lt (Nat.lt_succ_of_lt lt0)
        have out1 : s.heap.objs.size ∉ [(s.heap.push { cls := .type "set", dict := none, data := .set #[] 0 (.fresh 0 0 (!w.params.followText "set-order")) }).objs.size, l] := by
          rw [Heap.size_push]; simp only [List.mem_cons, List.mem_singleton, List.not_mem_nil, or_false, not_or]
          exact ⟨Nat.ne_of_lt (Nat.lt_succ_self _), Nat.ne_of_gt lt0⟩
        have hval : ∀ (i : Nat) (v : Value), its[i]? = some v → ∃ x t, xs[i]? = some x ∧ v = .str x t := fun i v hv => by
          have hi : i < xs.length := by rw [← sz]; exact (Array.getElem?_eq_some_iff.mp hv).1
          obtain ⟨t, e⟩ := SS.strs_at hx i v (by rw [Array.getElem?_toList]; exact hv)
          refine ⟨xs[i], t, List.getElem?_eq_getElem hi, ?_⟩
          rw [e, List.getD_eq_getElem?_getD, List.getElem?_eq_getElem hi] <;> rfl
        refine loopT ((Walks.tuple hh3 _ l ne1 its).toS) s.heap.objs.size out1 xs sz hb hval (its.size - 0) 0 _ (by omega) (Nat.zero_le _)
          ⟨⟨_, Heap.get?_push_size _ rfl, rfl, rfl⟩, (hl1.push _)⟩ ?hS0 ?hR
        case hS0 =>
          have z : ((s.heap.push { cls := .type "set", dict := none, data := .set #[] 0 (.fresh 0 0 (!w.params.followText "set-order")) }).push { cls := .type "tuple_iterator", data := .fields #[.ref l, .int 0 0] }).get? s.heap.objs.size
              = some { cls := .type "set", dict := none, data := .set #[] 0 (.fresh 0 0 (!w.params.followText "set-order")) } := Heap.get?_push_of_some _ eD
          refine ⟨0, Nat.le_refl 0, ?_⟩
          have q := newT (P := P) z
          have e : (fun (_ : Str) => False) = fun y => y ∈ xs.take 0 := by funext y; simp
          rw [e] at q
          exact q
        case hR =>
          intro s3 c3 mv hc3 hS3
          obtain ⟨h', g2, d', tk', os'⟩ := s3
          have eg : g2 = s.gens := mv.gens
          have ed : d' = s.drawn := mv.drawn
          have eo : os' = s.os := mv.os
          subst eg; subst ed; subst eo
          show wpAny _ _ _ _ _ _
          refine wpAny_pure ?_
          show wpAny _ _ (ret Value.none) _ _ _
          rw [sz] at hc3
          refine wpAny_pure ⟨rfl, h', tk', c3, rfl, hS3, hc3, fun b o e => ?_⟩
          have q0 : b < s.heap.objs.size := Heap.lt_size e
          have q1 : b ≠ s.heap.objs.size := Nat.ne_of_lt q0
          have q2 : b ≠ (s.heap.push { cls := .type "set", dict := none, data := .set #[] 0 (.fresh 0 0 (!w.params.followText "set-order")) }).objs.size := by
            rw [Heap.size_push]; exact Nat.ne_of_lt (Nat.lt_succ_of_lt q0)
          exact mv.heap b o (by simp only [List.mem_cons, List.mem_singleton, List.not_mem_nil, or_false, not_or]; exact ⟨q1, q2⟩) (Heap.get?_push_of_some _ (Heap.get?_push_of_some _ e))
      · cases r2 with
        | error e => exact hr2
        | ok fl2 =>
          cases fl2 with
          | ret r =>
            obtain ⟨rfl, h', tk, c', rfl, hS', hc', hk'⟩ := hr2
            repeat (any_goals (first | assumption | wp_step))
            exact k _ _ _ hS' hc' hk'
          | _ => exact hr2.elim
    | _ => exact hr.elim
end
end Dn
end

section
/-! Dn, part 26: sorted(set(t)), t a tuple of texts -/
namespace Dn
open PySem PySem.Spec PyProof.Rows L2
theorem txts_of : ∀ (vs : List Value), (∀ v ∈ vs, ∃ x t, v = Value.str x t) → ∃ zs : List Str, PySem.W.EachIs (fun (v : Value) (x : Str) => ∃ t, v = Value.str x t) vs zs
  | [], _ => ⟨[], .nil⟩
  | v :: vs, h => by
    obtain ⟨x, t, e⟩ := h v (List.mem_cons_self ..)
    obtain ⟨zs, r⟩ := txts_of vs fun u hu => h u (List.mem_cons_of_mem _ hu)
    exact ⟨x :: zs, .cons ⟨t, e⟩ r⟩
theorem txts_mem : ∀ {vs : List Value} {zs : List Str}, PySem.W.EachIs (fun (v : Value) (x : Str) => ∃ t, v = Value.str x t) vs zs → ∀ x, x ∈ zs ↔ ∃ v ∈ vs, ∃ t, v = Value.str x t
  | _, _, .nil, x => by simp
  | _, _, .cons ⟨t, e⟩ r, x => by
    rw [List.mem_cons, txts_mem r x]
    constructor
    · rintro (rfl | ⟨v, hv, q⟩)
      · exact ⟨_, List.mem_cons_self .., t, e⟩
      · exact ⟨v, List.mem_cons_of_mem _ hv, q⟩
    · rintro ⟨v, hv, u, q⟩
      rcases List.mem_cons.mp hv with rfl | hv
      · rw [e] at q; cases q; exact .inl rfl
      · exact .inr ⟨v, hv, u, q⟩
theorem txts_nodup : ∀ {vs : List Value} {zs : List Str}, PySem.W.EachIs (fun (v : Value) (x : Str) => ∃ t, v = Value.str x t) vs zs → vs.Pairwise (fun a b => ∀ x t u, ¬ (a = Value.str x t ∧ b = Value.str x u)) → zs.Nodup
  | _, _, .nil, _ => List.nodup_nil
  | _, _, .cons ⟨t, e⟩ r, h => by
    obtain ⟨h1, h2⟩ := List.pairwise_cons.mp h
    refine List.nodup_cons.mpr ⟨fun m => ?_, txts_nodup r h2⟩
    obtain ⟨v, hv, u, q⟩ := (txts_mem r _).mp m
    exact h1 v hv _ t u ⟨e, q⟩
theorem txts_data : ∀ {vs : List Value} {zs : List Str}, PySem.W.EachIs (fun (v : Value) (x : Str) => ∃ t, v = Value.str x t) vs zs → PySem.W.EachIs (fun (v : Value) (d : PyData) => ∃ x t, d = .str x ∧ v = Value.str x t) vs (zs.map PyData.str)
  | _, _, .nil => .nil
  | _, _, .cons ⟨t, e⟩ r => .cons ⟨_, t, rfl, e⟩ (txts_data r)
theorem txts_reads {h : Heap} : ∀ {vs : List Value} {zs : List Str}, PySem.W.EachIs (fun (v : Value) (x : Str) => ∃ t, v = Value.str x t) vs zs → PySem.W.EachIs (fun (v : Value) (d : PyData) => ∃ as, Reads h v d as) vs (zs.map PyData.str)
  | _, _, .nil => .nil
  | _, _, .cons ⟨t, e⟩ r => .cons (by subst e; exact ⟨_, .str _ t⟩) (txts_reads r)
theorem txts_vals : ∀ {vs : List Value} {zs : List Str}, PySem.W.EachIs (fun (v : Value) (d : PyData) => ∃ x t, d = .str x ∧ v = Value.str x t) vs (zs.map PyData.str) → Vals (zs.map V.str) vs
  | [], [], _ => .nil
  | [], _ :: _, h => by cases h
  | _ :: _, [], h => by cases h
  | v :: vs, z :: zs, .cons ⟨x, t, e, q⟩ r => by
    cases e
    exact .cons ⟨t, q⟩ (txts_vals r)
theorem sort_map {α : Type} (enc : α → PyData) (xs : List α) : ∃ ys : List α, sortL (xs.map enc) = ys.map enc ∧ ys.Perm xs := by
  have p := sortL_perm (xs.map enc)
  have go : ∀ (ds : List PyData), (∀ d ∈ ds, ∃ x ∈ xs, enc x = d) → ∃ ys : List α, ds = ys.map enc := by
    intro ds
    induction ds with
    | nil => exact fun _ => ⟨[], rfl⟩
    | cons d ds ih =>
      intro h
      obtain ⟨x, _, e⟩ := h d (List.mem_cons_self ..)
      obtain ⟨ys, e2⟩ := ih fun d hd => h d (List.mem_cons_of_mem _ hd)
      exact ⟨x :: ys, by rw [List.map_cons, e, ← e2]⟩
  have perm_map : ∀ {l m : List PyData}, l.Perm m → ∀ {xs : List α}, m = xs.map enc → ∃ ys : List α, l = ys.map enc ∧ ys.Perm xs := by
    intro l m h
    induction h with
    | nil => intro xs e; exact ⟨[], rfl, by cases xs with | nil => exact .nil | cons _ _ => cases e⟩
    | cons a _ ih =>
      intro xs e
      cases xs with
      | nil => cases e
      | cons x xs =>
        cases e
        obtain ⟨ys, e1, p1⟩ := ih rfl
        exact ⟨x :: ys, by rw [e1]; rfl, p1.cons x⟩
    | swap a b l =>
      intro xs e
      match xs, e with
      | x :: y :: zs, e => cases e; exact ⟨y :: x :: zs, rfl, .swap _ _ _⟩
    | trans _ _ ih1 ih2 =>
      intro xs e
      obtain ⟨ys, e1, p1⟩ := ih2 e
      obtain ⟨zs, e2, p2⟩ := ih1 e1
      exact ⟨zs, e2, p2.trans p1⟩
  exact perm_map p rfl
theorem strs_alike (x y : Str) : PySem.W.alike (.str x) (.str y) = true := by rw [PySem.W.alike]
section
variable {P : Program} {w : World} {A : Around} {E : Value → Shared → Prop} {s : Shared}
theorem sorted_setT {a : Addr} {M : Str → Prop} {n : Nat} {Q : Value → Shared → Prop} (R : SetT P w s.heap a M n) (hh : A.handled = none) (hu : A.units + 2 < cLine)
    (k : ∀ s' p (out : List Value) (c : Nat) (ys : List Str), (∀ b o, s.heap.get? b = some o → s'.heap.get? b = some o) → s'.gens = s.gens → s'.os = s.os → s.heap.objs.size ≤ p →
      s'.heap.get? p = some (PyProof.Rows.seqObj "list" out.toArray c) → Vals (ys.map V.str) out → (ys.map PyData.str).Pairwise lessD → (∀ x, x ∈ ys ↔ M x) → ys.length = n → Q (.ref p) s') :
    wpAny (model P w) A (call (.builtin "sorted") [.ref a]) Q E s := by
  obtain ⟨o, es, ep, t, e1, ex, e2, ⟨g, tw, hm⟩, ⟨b0, f0, z0⟩, r0, l0⟩ := R
  refine PyProof.Rows.call_function_entry_kw PyProof.Rows.kind_sorted PyProof.Rows.plain_sorted PyProof.Rows.entry_sorted (PyProof.Rows.args_sorted1 _) ?_
  unfold Builtin.«sorted»
  refine wpAny_bind (m := checkCount "sorted" 1 1 _) (wpAny_pure ?_)
  refine wpAny_bind (collect_set (A := A.in1) hh ⟨o, e1, ex.1, e2⟩ f0 b0 r0 l0 fun s1 vs k1 hz g1 o1 pm => ?_)
  have hvl : vs.length = n := by rw [pm.length_eq, List.length_map, Array.length_toList]; exact z0
  obtain ⟨zs, ez⟩ := txts_of vs fun v hv => by
    obtain ⟨e, he, q⟩ := List.mem_map.mp (pm.mem_iff.mp hv)
    obtain ⟨x, t, q1, _⟩ := g e he
    exact ⟨x, t, by rw [← q]; exact q1⟩
  have nz : zs.Nodup := txts_nodup ez ((pm.pairwise_iff (fun {u v} h x t u' z => h x u' t ⟨z.2, z.1⟩)).mpr (List.pairwise_map.mpr (tw.imp fun h x t u z => h x t u z)))
  have mz : ∀ x, x ∈ zs ↔ M x := fun x => by
    rw [txts_mem ez, hm]
    constructor
    · rintro ⟨v, hv, t, q⟩
      obtain ⟨e, he, q1⟩ := List.mem_map.mp (pm.mem_iff.mp hv)
      exact ⟨e, he, t, by rw [q1]; exact q⟩
    · rintro ⟨e, he, t, q⟩
      exact ⟨e.2, pm.mem_iff.mpr (List.mem_map.mpr ⟨e, he, rfl⟩), t, q⟩
  have hlen : vs.length = (zs.map PyData.str).length := (txts_data ez).length
  have hs : vs.length ≤ sizeLine := by rw [hvl, ← z0]; exact fits_of_scanBound b0
  refine wpAny_bind (wpAny_newList ?_ hs)
  have eo : (s1.heap.push (PyProof.Rows.seqObj "list" vs.toArray 0)).get? s1.heap.objs.size = some (PyProof.Rows.seqObj "list" vs.toArray 0) := Heap.get?_push_size _ rfl
  have er' : PySem.W.EachIs (fun (v : Value) (d : PyData) => ∃ as, Reads (PySem.W.sortingHeap (s1.heap.push (PyProof.Rows.seqObj "list" vs.toArray 0)) s1.heap.objs.size vs) v d as) vs (zs.map PyData.str) := txts_reads ez
  have er2 : PySem.W.EachIs (fun (v : Value) (b : PyData) => ∃ as, Reads (PySem.W.sortingHeap (s1.heap.push (PyProof.Rows.seqObj "list" vs.toArray 0)) s1.heap.objs.size vs) v ((fun d => d) b) as) vs (zs.map PyData.str) := er'
  have hal : PySem.W.AllAlike (zs.map PyData.str) := fun d hd e he => by
    obtain ⟨x, _, rfl⟩ := List.mem_map.mp hd
    obtain ⟨y, _, rfl⟩ := List.mem_map.mp he
    exact strs_alike x y
  have hk : PySem.W.Sortable (zs.map PyData.str) := .inr fun d hd => by
    obtain ⟨x, _, rfl⟩ := List.mem_map.mp hd
    exact ⟨by simp, by simp⟩
  refine wpAny_bind (wpAny_holding (PyProof.Rows.wpAny_call_entry_kw PyProof.Rows.slot_list_sort ⟨_, eo, rfl⟩ PyProof.Rows.entry_list_sort (PySem.W.list_sort_vals (κ := PySem.W.dataKind (PySem.W.sortingHeap (s1.heap.push (PyProof.Rows.seqObj "list" vs.toArray 0)) s1.heap.objs.size vs) (zs.map PyData.str)) eo
    (PySem.W.SortsAt.data (s := { s1 with heap := PySem.W.sortingHeap (s1.heap.push (PyProof.Rows.seqObj "list" vs.toArray 0)) s1.heap.objs.size vs }) er' hal hk (fun b hb => by
      obtain ⟨x, _, rfl⟩ := List.mem_map.mp hb
      rw [PyData.depth]
      exact hu)) hs ?_) (PyProof.Rows.args_list_sort _)))
  refine ⟨_, rfl, wpAny_pure ⟨_, rfl, ?_⟩⟩
  have e3 := PySem.W.sortVals_data (enc := fun d => d) false (txts_data ez) er2 (by rw [List.map_id']; exact hal)
  rw [List.map_id'] at e3
  obtain ⟨ep', he⟩ := PyProof.Rows.sortedHeap_at (vs := vs) (out := (PySem.W.sortVals (PySem.W.dataKind (PySem.W.sortingHeap (s1.heap.push (PyProof.Rows.seqObj "list" vs.toArray 0)) s1.heap.objs.size vs) (zs.map PyData.str)) false vs vs).toArray) eo
  obtain ⟨ys, ey, py⟩ := sort_map PyData.str zs
  have e4 : PySem.W.EachIs (fun (v : Value) (d : PyData) => ∃ x t, d = .str x ∧ v = Value.str x t) (PySem.W.sortVals (PySem.W.dataKind (PySem.W.sortingHeap (s1.heap.push (PyProof.Rows.seqObj "list" vs.toArray 0)) s1.heap.objs.size vs) (zs.map PyData.str)) false vs vs) (ys.map PyData.str) := by
    rw [← ey]
    exact e3
  have asc : (ys.map PyData.str).Pairwise lessD := by
    rw [← ey]
    refine sortL_asc (fun d hd e he => hal d hd e he) ?_
    rw [List.pairwise_map]
    refine nz.imp fun {x y} h => ?_
    cases q : PyData.eqv (.str x) (.str y) with
    | false => rfl
    | true => exact absurd (by simpa [PyData.eqv] using q) h
  refine k _ s1.heap.objs.size _ ep' ys (fun b u e => ?_) g1 o1 hz he (txts_vals e4) asc (fun x => (py.mem_iff).trans (mz x)) (by rw [py.length_eq, ← hvl, hlen, List.length_map])
  have q := k1 b u e
  exact (PyProof.Rows.sortedHeap_old (Nat.ne_of_lt (Heap.lt_size q)) (Heap.lt_size (Heap.get?_push_of_some _ q))).trans (Heap.get?_push_of_some _ q)
end
section
variable {X : Cx} {W : WX}
def tSset (Sq : PySem.W.Frag → Hp → Addr → List V → Prop) (K : PySem.W.Frag) (ta : TE) : TE := fun σ H Q => ta σ H fun x H1 => ∃ (l : Addr) (xs : List Str), x = .ref l ∧ Sq K H1 l (xs.map V.str) ∧ xs.length ≤ 4000 ∧
  ∀ (ys : List Str) (p : Addr), (ys.map PyData.str).Pairwise lessD → (∀ x, x ∈ ys ↔ x ∈ xs) → H1 p = none → Q (.ref p) (L2.upd H1 p (.lst (ys.map V.str)))
theorem sset_fin {pins : List (Addr × Obj)} {σ : L2.St} {H1 : Hp} {s1 : Shared} {xs : List Str} {Q : VK} {h' : Heap} {tk c : Nat} (hc : X.calm = true) (hu : X.A.units + 65 < cLine) (hn : xs.length ≤ 4000) (I1 : Inv X pins σ H1 s1) (R : SetT X.prog X.w h' s1.heap.objs.size (fun y => y ∈ xs) c) (hl : c ≤ xs.length)
    (hk : ∀ b o, s1.heap.get? b = some o → h'.get? b = some o) (q1 : ∀ (ys : List Str) (p : Addr), (ys.map PyData.str).Pairwise lessD → (∀ x, x ∈ ys ↔ x ∈ xs) → H1 p = none → Q (.ref p) (L2.upd H1 p (.lst (ys.map V.str)))) :
    wpAny (model X.prog X.w) X.A (call (.builtin "sorted") [Value.ref s1.heap.objs.size]) (EP X pins σ Q) X.xe { s1 with heap := h', toks := tk } := by
  have I2 : Inv X pins σ H1 { s1 with heap := h', toks := tk } := I1.kept fun b o e => hk b o e
  refine sorted_setT (s := { s1 with heap := h', toks := tk }) R (I1.ok.hd hc) (by omega) fun s' p out c ys kk g o hp hg hv asc mm hl2 => ?_
  have hlen : (ys.map V.str).length ≤ sizeLine := by
    rw [List.length_map, hl2]
    have : (4000 : Nat) ≤ sizeLine := by decide
    omega
  have hn' : H1 p = none := I2.hok.fresh hp
  have J : Inv X pins σ (L2.upd H1 p (.lst (ys.map V.str))) { { s1 with heap := h', toks := tk } with heap := s'.heap, gens := s'.gens, drawn := s'.drawn, toks := s'.toks } :=
    I2.call (ch := []) (Un.laid kk hp hn') (I2.hok.laid kk hp ⟨hlen, out, _, hv, hg⟩) (by rw [g]; exact I2.bare) (fun _ z => nomatch z)
  have e : s' = { { s1 with heap := h', toks := tk } with heap := s'.heap, gens := s'.gens, drawn := s'.drawn, toks := s'.toks } := by
    cases s'
    cases s1
    cases o
    rfl
  rw [e]
  exact ⟨.ref p, _, J, rfl, q1 ys p asc mm hn'⟩
theorem pe_ssetT {a : Expr} {ta : TE} {p p2 q pos : Pos} (hc : X.calm = true) (hu : X.A.units + 65 < cLine) (hg : Gl X "sorted") (hm : X.mg "sorted" = none) (hg2 : Gl X "set") (hm2 : X.mg "set" = none) (ha : PE X a ta)
    (na : starEach [a] X.env = (false, eval a X.env) :: starEach [] X.env) (nb : starEach [Expr.Call (.Name "set" p2) [a] [] q] X.env = (false, eval (Expr.Call (.Name "set" p2) [a] [] q) X.env) :: starEach [] X.env) : PE X (.Call (.Name "sorted" p) [.Call (.Name "set" p2) [a] [] q] [] pos) (tSset (fun K H l xs => SqT K H l xs) X.K ta) := by
  refine ⟨fun pins s σ H Q I h => ?_⟩
  refine Call_ (ld_blt I hg hm PyProof.Rows.boot_sorted (PyProof.Rows.callWith_builtin1 (PyProof.Rows.args_cons (Call_ (ld_blt I hg2 hm2 boot_set (PyProof.Rows.callWith_type1 (PyProof.Rows.args_cons (thn (ha.run pins s σ H _ I h) fun v s1 ⟨x, H1, I1, r1, q1⟩ => PyProof.Rows.args_nil ?_) na) na rfl))) nb) nb rfl))
  obtain ⟨l, xs, rfl, hq, hn, q1⟩ := q1
  cases r1
  obtain ⟨its, r, pl, hz⟩ := I1.tuple hq
  refine call_setT_tuple xs (I1.ok.hd hc) pl (by simpa using strsAre_of r) (by unfold scanBound; omega) fun h' tk c R hc' hk => PyProof.Rows.args_nil ?_
  exact sset_fin hc hu hn I1 R hc' hk q1
def strsOf : List PyData → Option (List Str)
  | [] => some []
  | .str x :: r => (strsOf r).map (x :: ·)
  | _ :: _ => none
theorem strs_all : ∀ {ds : List PyData} {xs : List Str}, strsOf ds = some xs → ds = xs.map PyData.str
  | [], xs, h => by cases h; rfl
  | .str x :: r, xs, h => by
    unfold strsOf at h
    cases e : strsOf r with
    | none => rw [e] at h; cases h
    | some ys =>
      rw [e] at h
      cases h
      rw [List.map_cons, strs_all e]
  | .none :: _, _, h => by cases h
  | .bool _ :: _, _, h => by cases h
  | .int _ :: _, _, h => by cases h
  | .list _ :: _, _, h => by cases h
  | .tuple _ :: _, _, h => by cases h
  | .dict _ :: _, _, h => by cases h
theorem strsOf_map : ∀ xs : List Str, strsOf (xs.map PyData.str) = some xs
  | [] => rfl
  | x :: xs => by rw [List.map_cons, strsOf, strsOf_map xs]; rfl
theorem rp_strs {K : PySem.W.Frag} {H : Hp} {L : Addr → Prop} : ∀ {vs : List V} {xs : List Str}, RpAll K H L vs (xs.map PyData.str) → vs = xs.map V.str
  | [], [], _ => rfl
  | [], _ :: _, h => by cases h
  | _ :: _, [], h => by cases h
  | _ :: _, _ :: _, .cons r t => by
    cases r
    rw [List.map_cons, rp_strs t]
theorem strs_rp {K : PySem.W.Frag} {H : Hp} {L : Addr → Prop} : ∀ xs : List Str, RpAll K H L (xs.map V.str) (xs.map PyData.str)
  | [] => .nil
  | x :: xs => .cons (.str x) (strs_rp xs)
theorem eqv_str (x y : Str) : PyData.eqv (.str x) (.str y) = true ↔ x = y := by simp [PyData.eqv]
theorem asc_uniq {α : Type} {r : α → α → Prop} (ir : ∀ a, ¬ r a a) (as : ∀ a b, r a b → ¬ r b a) : ∀ {xs ys : List α}, xs.Pairwise r → ys.Pairwise r → (∀ x, x ∈ xs ↔ x ∈ ys) → xs = ys
  | [], [], _, _, _ => rfl
  | [], y :: _, _, _, h => by have := (h y).mpr (List.mem_cons_self ..); cases this
  | x :: _, [], _, _, h => by have := (h x).mp (List.mem_cons_self ..); cases this
  | x :: xs, y :: ys, h1, h2, h => by
    obtain ⟨a1, a2⟩ := List.pairwise_cons.mp h1
    obtain ⟨b1, b2⟩ := List.pairwise_cons.mp h2
    have e : x = y := by
      rcases List.mem_cons.mp ((h x).mp (List.mem_cons_self ..)) with e | hx
      · exact e
      · rcases List.mem_cons.mp ((h y).mpr (List.mem_cons_self ..)) with e | hy
        · exact e.symm
        · exact absurd (a1 y hy) (as _ _ (b1 x hx))
    subst e
    congr 1
    refine asc_uniq ir as a2 b2 fun z => ⟨fun hz => ?_, fun hz => ?_⟩
    · rcases List.mem_cons.mp ((h z).mp (List.mem_cons_of_mem _ hz)) with e | k
      · exact absurd (a1 z hz) (by rw [e]; exact ir x)
      · exact k
    · rcases List.mem_cons.mp ((h z).mpr (List.mem_cons_of_mem _ hz)) with e | k
      · exact absurd (b1 z hz) (by rw [e]; exact ir x)
      · exact k
/-- what is ascending and has just these is the sorted row of each once -/
theorem sset_of {xs ys : List Str} (as : (ys.map PyData.str).Pairwise lessD) (m : ∀ x, x ∈ ys ↔ x ∈ xs) : sortL ((ded PyData.str xs).map .str) = ys.map .str := by
  obtain ⟨zs, ez, pz⟩ := sort_map PyData.str (ded PyData.str xs)
  have az : (zs.map PyData.str).Pairwise lessD := by
    rw [← ez]
    refine sortL_asc (fun d hd e he => ?_) ?_
    · obtain ⟨x, _, rfl⟩ := List.mem_map.mp hd
      obtain ⟨y, _, rfl⟩ := List.mem_map.mp he
      exact strs_alike x y
    · rw [List.pairwise_map]
      refine (ded_nodup eqv_str xs).imp fun {x y} h => ?_
      cases q : PyData.eqv (.str x) (.str y) with
      | false => rfl
      | true => exact absurd ((eqv_str x y).mp q) h
  have e : zs = ys := asc_uniq (r := fun a b => lessD (.str a) (.str b)) (fun a h => by have := dlt_irrefl (.str a); rw [h] at this; cases this) (fun a b h g => by have := dlt_asymm h; rw [g] at this; cases this) (List.pairwise_map.mp az) (List.pairwise_map.mp as) fun x => (pz.mem_iff.trans (ded_mem eqv_str)).trans (m x).symm
  rw [ez, e]
def ssetTD (f : En → Hl → R Val) : En → Hl → R (List PyData) := fun ρ h => (f ρ h).bind fun v h1 => match v with
  | .dat (.tuple ds) => (match strsOf ds with
    | some xs => if xs.length ≤ 4000 then .ok (sortL ((ded PyData.str xs).map .str)) h1 else .stuck
    | none => .stuck)
  | _ => .stuck
def ssetLD (f : En → Hl → R Val) : En → Hl → R (List PyData) := fun ρ h => (f ρ h).bind fun v h1 => match v with
  | .dat (.list ds) => (match strsOf ds with
    | some xs => if xs.length ≤ 4000 then .ok (sortL ((ded PyData.str xs).map .str)) h1 else .stuck
    | none => .stuck)
  | _ => .stuck
theorem lx_ssetT {a : Expr} {fa : En → Hl → R Val} {p p2 q pos : Pos} (hc : X.calm = true) (hu : X.A.units + 65 < cLine) (hg : Gl X "sorted") (hm : X.mg "sorted" = none) (hg2 : Gl X "set") (hm2 : X.mg "set" = none) (ha : Ex X W a fa)
    (na : starEach [a] X.env = (false, eval a X.env) :: starEach [] X.env) (nb : starEach [Expr.Call (.Name "set" p2) [a] [] q] X.env = (false, eval (Expr.Call (.Name "set" p2) [a] [] q) X.env) :: starEach [] X.env) : Lx X W (.Call (.Name "sorted" p) [.Call (.Name "set" p2) [a] [] q] [] pos) (ssetTD fa) := by
  obtain ⟨ta, pa, s⟩ := ha
  refine ⟨_, pe_ssetT hc hu hg hm hg2 hm2 pa na nb, fun Z φ ρ hh σ H Q S E po => ?_⟩
  refine s.seq S E po fun v h1 φ1 H1 x s1 S1 E1 r1 p1 => ?_
  split at p1
  · rename_i ds
    split at p1
    · rename_i xs ex
      split at p1
      · rename_i hl
        cases r1 with
        | tup e0 ra =>
          have e1 := strs_all ex
          subst e1
          have ev := rp_strs ra
          subst ev
          exact ⟨_, xs, rfl, e0, hl, fun ys p as m pn => p1 φ1 H1 Stp.refl S1 p (ys.map V.str) pn (by rw [sset_of as m]; exact strs_rp ys)⟩
      · exact p1.elim
    · exact p1.elim
  · exact p1.elim
end
section
variable {κl : List PyData → Hl → Prop} {ε : Exc → Hl → Prop} {ρ : En} {h : Hl}
def tupK (v : Val) (k : List PyData → Prop) : Prop := match v with
  | .dat (.tuple ds) => k ds
  | _ => False
theorem tupK_t {ds : List PyData} {k : List PyData → Prop} : tupK (.dat (.tuple ds)) k = k ds := rfl
def lstK (v : Val) (k : List PyData → Prop) : Prop := match v with
  | .dat (.list ds) => k ds
  | _ => False
theorem lstK_l {ds : List PyData} {k : List PyData → Prop} : lstK (.dat (.list ds)) k = k ds := rfl
theorem w_ssetT {f : En → Hl → R Val} : wpR (ssetTD f ρ h) κl ε = wpR (f ρ h) (fun v h1 => tupK v fun ds => optK (strsOf ds) fun xs => xs.length ≤ 4000 ∧ κl (sortL ((ded PyData.str xs).map .str)) h1) ε := by
  unfold ssetTD
  rw [wpR_bind]
  congr 1
  funext v h1
  have go : ∀ ds : List PyData, wpR (match strsOf ds with | some xs => if xs.length ≤ 4000 then R.ok (sortL ((ded PyData.str xs).map .str)) h1 else .stuck | none => .stuck) κl ε = optK (strsOf ds) fun xs => xs.length ≤ 4000 ∧ κl (sortL ((ded PyData.str xs).map .str)) h1 := by
    intro ds
    cases strsOf ds with
    | none => rfl
    | some xs =>
      show wpR (if xs.length ≤ 4000 then _ else _) κl ε = (xs.length ≤ 4000 ∧ _)
      by_cases z : xs.length ≤ 4000
      · rw [if_pos z]; exact (propext ⟨fun x => x.2, fun x => ⟨z, x⟩⟩ : (xs.length ≤ 4000 ∧ _) = _).symm
      · rw [if_neg z]; exact (propext ⟨fun x => z x.1, fun x => x.elim⟩ : (xs.length ≤ 4000 ∧ _) = False).symm
  cases v with
  | dat d => cases d with
    | tuple ds => exact go ds
    | _ => rfl
  | _ => rfl
end
section
variable {X : Cx} {W : WX} {k : Nat} {T : Tab}
theorem Fx.ssetT (C : Fx X W k T) (j i : Nat) {a : Expr} {fa : En → Hl → R Val} {p p2 q pos : Pos} (hj : T.bts[j]? = some "sorted") (hi : T.bts[i]? = some "set") (ha : Ex X W a fa) (hg : Gl X "sorted" := by rfl) (hg2 : Gl X "set" := by rfl)
    (na : starEach [a] X.env = (false, eval a X.env) :: starEach [] X.env := by rfl) (nb : starEach [Expr.Call (.Name "set" p2) [a] [] q] X.env = (false, eval (Expr.Call (.Name "set" p2) [a] [] q) X.env) :: starEach [] X.env := by rfl) : Lx X W (.Call (.Name "sorted" p) [.Call (.Name "set" p2) [a] [] q] [] pos) (ssetTD fa) :=
  lx_ssetT C.calm C.hu hg (C.kn.bt j _ hj) hg2 (C.kn.bt i _ hi) ha na nb
end
end Dn
end

section
/-! Dn, part 29: a call of one of a row of defs, [f, g][i](..) -/
namespace Dn
open PySem PySem.Spec PyProof.Rows L2
theorem wpAny_Call_Sub {M : Model} {A : Around} {env : Env} {a b : Expr} {p pos : Pos} {args : List Expr} {keywords : List Keyword} {Q : Value → Shared → Prop} {E : Value → Shared → Prop} {s : Shared}
    (h : wpAny M A (eval (.Subscript a b p) env) (fun f s₁ => wpAny M A (callWith pos f [] (backTo pos (starEach args env)) (backToKw pos (keywordEach keywords env))) Q E s₁) E s) :
    wpAny M A (eval (.Call (.Subscript a b p) args keywords pos) env) Q E s := by
  rw [show eval (.Call (.Subscript a b p) args keywords pos) env = (do callWith pos (← eval (.Subscript a b p) env) [] (backTo pos (starEach args env)) (backToKw pos (keywordEach keywords env))) from rfl]
  exact wpAny_bind h
/-- one of the row -/
structure RowFn where
  x : Str
  p : Pos
  np : Nat
  D : LFn
def callI (Ds : List LFn) (fi : En → Hl → R Val) (fa : En → Hl → R (List Val)) : En → Hl → R Val := fun ρ h => (fi ρ h).bind fun v h1 => match v with
  | .dat (.int i) => (match ixN Ds.length i with
    | some j => (match Ds[j]? with
      | some D => (fa ρ h1).bind fun vs h2 => D vs h2
      | none => .stuck)
    | none => .stuck)
  | _ => .stuck
def tK (vs : List V) : TA := fun _ H Q => Q vs H
section
variable {X : Cx} {W : WX}
def RowOkF (X : Cx) (k : Nat) (r : RowFn) : Prop := Cal X.prog X.w X.K X.mg X.base k r.x r.np r.D ∧ (∀ vs h, vs.length ≠ r.np → r.D vs h = .stuck) ∧ Gl X r.x ∧ (r.x == ("__debug__" : Str)) = false
theorem row_pa {k : Nat} : ∀ {rows : List RowFn}, (∀ r ∈ rows, RowOkF X k r) → ∃ fs : List Addr, fs.length = rows.length ∧ PA X (rows.map fun r => Expr.Name r.x r.p) (tK (fs.map V.ref)) ∧
    ∀ (j : Nat) (r : RowFn), rows[j]? = some r → ∃ f, fs[j]? = some f ∧ ∃ (fd : FuncData) (ps : List Str), FnG X.prog X.w X.K X.mg X.base k f fd ps (spL X.K X.mg r.np r.D) ∧ PySem.W.keepIn X.K (.ref f) = true ∧ Binds X.K fd ps []
  | [], _ => ⟨[], rfl, pa_nil, fun j r e => by simp at e⟩
  | r :: rows, h => by
    obtain ⟨fs, l, pa, g⟩ := row_pa (rows := rows) fun q hq => h q (List.mem_cons_of_mem _ hq)
    obtain ⟨c, _, gl, hd⟩ := h r (List.mem_cons_self ..)
    obtain ⟨fa', fd, ps, F, hm, hk, hb⟩ := c.ex
    refine ⟨fa' :: fs, by rw [List.length_cons, l]; rfl, ?_, fun j r' e => ?_⟩
    · exact pa_cons (pe_glob (v := .ref fa') gl hm rfl hd) pa
    · cases j with
      | zero =>
        simp at e
        subst e
        exact ⟨fa', rfl, fd, ps, F, hk, hb⟩
      | succ j =>
        exact g j r' (by simpa using e)
theorem ex_callI {k : Nat} {rows : List RowFn} {i e : Expr} {es : List Expr} {fi : En → Hl → R Val} {fa : En → Hl → R (List Val)} {q1 q2 pos : Pos} (hc : ∀ r ∈ rows, RowOkF X k r) (hl : rows.length ≤ 16) (hr : Room k X.A) (gd : X.A.guards = some []) (tk : L2N.Takes X W)
    (hi : Ex X W i fi) (ha : Ax X W (e :: es) fa) (hs : PlainIx i) (he : starEach (e :: es) X.env = (false, eval e X.env) :: starEach es X.env) (hpl : (backTo pos (starEach es X.env)).any (·.1) = false) :
    Ex X W (.Call (.Subscript (.List (rows.map fun r => Expr.Name r.x r.p) q1) i q2) (e :: es) [] pos) (callI (rows.map (·.D)) fi fa) := by
  obtain ⟨fs, fl, pr, fr⟩ := row_pa hc
  obtain ⟨ti, pi, si⟩ := hi
  obtain ⟨t, pa, sa⟩ := ha
  refine ⟨fun σ H Q => tOp (rIxL X.K) (tLst (tK (fs.map V.ref))) ti σ H fun v H1 => ∃ (j : Nat) (r : RowFn) (f : Addr), v = .ref f ∧ rows[j]? = some r ∧ fs[j]? = some f ∧ t σ H1 fun vs H2 => spL X.K X.mg r.np r.D vs H2 Q (WE W σ),
    ⟨fun pins s σ H Q I todo => ?_⟩, fun Z φ ρ h σ H Q S E po => ?_⟩
  · apply wpAny_Call_Sub
    refine thn ((pe_ix (pos := q2) ix_list (pe_lst (pos := q1) pr) pi hs).run pins s σ H _ I todo) fun u s1 ⟨v, H1, I1, r1, q⟩ => ?_
    obtain ⟨j, r, f, rfl, er, ef, tt⟩ := q
    cases r1
    obtain ⟨f', ef', fd, ps, F, hk, hb⟩ := fr j r er
    rw [ef] at ef'
    cases ef'
    refine PySem.W.callWith_K (h₀ := X.base) I1.ok.mod.kin hk (thn (pa.run pos pins s1 σ _ _ I1 tt) fun us s2 ⟨xs, H2, I2, rr, q⟩ => ⟨I2.kIn, ?_⟩) he hpl
    exact run_fnG F hr gd hb (L2N.passAt tk σ) I2 rr q
  · show (fs.map V.ref).length ≤ sizeLine ∧ _
    refine ⟨by rw [List.length_map, fl]; exact Nat.le_trans hl (by decide), fun p n => ?_⟩
    have s0 := stp_upd (Z := Z) (φ := φ) (h := h) (o := .lst (fs.map V.ref)) n
    have S' := S.upd (o := .lst (fs.map V.ref)) n
    have E' := E.step S s0
    refine si.seq S' E' (PostR.shift po s0) fun v h1 φ1 H1 y s1 S1 E1 r1 p1 => ?_
    cases v with
    | ref k => exact p1.elim
    | scr ns => exact p1.elim
    | dat d =>
      cases d with
      | int i =>
        dsimp only at p1
        rw [List.length_map] at p1
        split at p1
        · rename_i j ej
          split at p1
          · rename_i D eD
            rw [List.getElem?_map] at eD
            cases er : rows[j]? with
            | none => rw [er] at eD; cases eD
            | some r =>
              rw [er] at eD
              cases eD
              obtain ⟨f, ef, fd, ps, F, hk, hb⟩ := fr j r er
              have ry : y = .int i := by cases r1; rfl
              have hp : H1 p = some (.lst (fs.map V.ref)) := by
                refine s1.keep p _ upd_same fun m u g z => ?_
                obtain ⟨o, to, _⟩ := S.trk m (lt_of_getS g)
                rw [z, n] at to
                cases to
              refine ⟨p, fs.map V.ref, i, .ref f, rfl, ry, SqL.of hp, ?_, j, r, f, rfl, er, ef, ?_⟩
              · unfold L2.atI
                rw [List.length_map, fl, ej]
                show (fs.map V.ref)[j]? = some (V.ref f)
                rw [List.getElem?_map, ef]
                rfl
              · refine sa.seq S1 E1 p1 fun vs h2 φ2 H2 xs s2 S2 E2 r2 p2 => ⟨?_, Z, φ2, vs, h2, S2, r2, p2⟩
                rw [r2.length]
                obtain ⟨_, hD, _⟩ := hc r (List.mem_of_getElem? er)
                exact Decidable.byContradiction fun n => by dsimp only at p2; rw [hD vs h2 n] at p2; exact p2.elim
          · exact p1.elim
        · exact p1.elim
      | _ => exact p1.elim
theorem Fx.callI {k : Nat} {T : Tab} (C : Fx X W k T) (rows : List RowFn) (ix : List Nat) {i e : Expr} {es : List Expr} {fi : En → Hl → R Val} {fa : En → Hl → R (List Val)} {q1 q2 pos : Pos} (hi : Ex X W i fi) (ha : Ax X W (e :: es) fa)
    (hc : ∀ r ∈ rows, (∃ n ∈ ix, T.fns[n]? = some (r.x, r.np, r.D)) ∧ Gl X r.x ∧ (r.x == ("__debug__" : Str)) = false) (hl : rows.length ≤ 16 := by exact Nat.le_of_ble_eq_true rfl) (hs : PlainIx i := by exact (fun _ _ => rfl)) (he : starEach (e :: es) X.env = (false, eval e X.env) :: starEach es X.env := by rfl) (hpl : (backTo pos (starEach es X.env)).any (·.1) = false := by rfl) :
    Ex X W (.Call (.Subscript (.List (rows.map fun r => Expr.Name r.x r.p) q1) i q2) (e :: es) [] pos) (Dn.callI (rows.map (·.D)) fi fa) :=
  ex_callI (fun r hr => by
    obtain ⟨⟨n, _, h1⟩, h2, h3⟩ := hc r hr
    exact ⟨(C.kn.fn n r.x r.np r.D h1).1, (C.kn.fn n r.x r.np r.D h1).2, h2, h3⟩) hl C.rm C.gd C.tk hi ha hs he hpl
theorem row_n {X : Cx} {T : Tab} {ix : List Nat} : ∀ r ∈ ([] : List RowFn), (∃ n ∈ ix, T.fns[n]? = some (r.x, r.np, r.D)) ∧ Gl X r.x ∧ (r.x == ("__debug__" : Str)) = false := fun r h => (nomatch h)
theorem row_c {X : Cx} {T : Tab} {ix : List Nat} (n : Nat) {r : RowFn} {rows : List RowFn} (h : ∀ q ∈ rows, (∃ n ∈ ix, T.fns[n]? = some (q.x, q.np, q.D)) ∧ Gl X q.x ∧ (q.x == ("__debug__" : Str)) = false) (hn : n ∈ ix := by decide) (h1 : T.fns[n]? = some (r.x, r.np, r.D) := by rfl) (h2 : Gl X r.x := by rfl) (h3 : (r.x == ("__debug__" : Str)) = false := by dsimp only; decide) :
    ∀ q ∈ r :: rows, (∃ n ∈ ix, T.fns[n]? = some (q.x, q.np, q.D)) ∧ Gl X q.x ∧ (q.x == ("__debug__" : Str)) = false := fun q hq => by
  rcases List.mem_cons.mp hq with rfl | hq
  · exact ⟨⟨n, hn, h1⟩, h2, h3⟩
  · exact h q hq
/-! reckoning -/
def callK (Ds : List LFn) (v : Val) (k : LFn → Prop) : Prop := match v with
  | .dat (.int i) => optK (ixN Ds.length i) fun j => optK Ds[j]? k
  | _ => False
theorem w_callI {Ds : List LFn} {fi : En → Hl → R Val} {fa : En → Hl → R (List Val)} {ρ : En} {h : Hl} {κ : Val → Hl → Prop} {ε : Exc → Hl → Prop} :
    wpR (Dn.callI Ds fi fa ρ h) κ ε = wpR (fi ρ h) (fun v h1 => callK Ds v fun D => wpR (fa ρ h1) (fun vs h2 => wpR (D vs h2) κ ε) ε) ε := by
  unfold Dn.callI
  rw [wpR_bind]
  congr 1
  funext v h1
  cases v with
  | ref k => rfl
  | scr k => rfl
  | dat d =>
    cases d with
    | int i =>
      unfold callK
      dsimp only
      cases ixN Ds.length i with
      | none => rfl
      | some j =>
        rw [optK_some]
        dsimp only
        cases Ds[j]? with
        | none => rfl
        | some D =>
          rw [optK_some]
          dsimp only
          rw [wpR_bind]
    | _ => rfl
theorem callK_0 {a : LFn} {r : List LFn} {k : LFn → Prop} : callK (a :: r) (.dat (.int 0)) k = k a := by
  unfold callK ixN
  simp [optK]
theorem callK_n {Ds : List LFn} {j : Nat} {k : LFn → Prop} (h : j < Ds.length) : callK Ds (.dat (.int (j : Int))) k = k Ds[j] := by
  unfold callK ixN
  simp [optK, h]
end
end Dn
end

section
/-! Dn, part 30: a list so many times, as a new list that may change -/
namespace Dn
open PySem PySem.Spec PyProof.Rows L2
section
variable {X : Cx} {W : WX}
def mulLD (fa fb : En → Hl → R Val) : En → Hl → R (List PyData) := fun ρ h => (fa ρ h).bind fun a h1 => (fb ρ h1).bind fun b h2 => match peek a h2, peek b h2 with
  | some (.list ds), some (.int k) => if 0 ≤ k ∧ k ≤ 1000000 ∧ ds.length ≤ 16 then .ok (List.replicate k.toNat ds).flatten h2 else .stuck
  | _, _ => .stuck
theorem lx_mul {a b : Expr} {fa fb : En → Hl → R Val} {pos : Pos} (ha : Ex X W a fa) (hb : Ex X W b fb) : Lx X W (.BinOp a .Mult b pos) (mulLD fa fb) := by
  obtain ⟨ta, pa, ha⟩ := ha
  obtain ⟨tb, pb, hb⟩ := hb
  refine ⟨_, pe_op op_rep pa pb, fun Z φ ρ h σ H Q S E p => ?_⟩
  refine ha.seq S E p fun a h1 φ1 H1 x s1 S1 E1 r1 p1 => ?_
  refine hb.seq S1 E1 p1 fun b h2 φ2 H2 y s2 S2 E2 r2 p2 => ?_
  split at p2
  · rename_i ds k e1 e2
    split at p2
    · rename_i hz
      obtain ⟨q, xs, rfl, hq, ra⟩ := (peek_ok S2 (RpV.step S1 s2 r1) e1).lst
      have hx : xs.length * k.toNat ≤ sizeLine := by
        rw [ra.length]
        refine Nat.le_trans (Nat.mul_le_mul hz.2.2 (show k.toNat ≤ 1000000 by omega)) (by decide)
      exact ⟨q, k, xs, rfl, (peek_ok S2 r2 e2).int, hq, by omega, by omega, hx, fun p n => p2 φ2 H2 Stp.refl S2 p _ n (ra.flat _)⟩
    · exact p2.elim
  · exact p2.elim
/-! reckoning -/
def mulK (a b : Option PyData) (k : List PyData → Prop) : Prop := match a, b with
  | some (.list ds), some (.int n) => (0 ≤ n ∧ n ≤ 1000000 ∧ ds.length ≤ 16) ∧ k (List.replicate n.toNat ds).flatten
  | _, _ => False
theorem w_mulLD {fa fb : En → Hl → R Val} {ρ : En} {h : Hl} {κ : List PyData → Hl → Prop} {ε : Exc → Hl → Prop} : wpR (mulLD fa fb ρ h) κ ε = wpR (fa ρ h) (fun a h1 => wpR (fb ρ h1) (fun b h2 => mulK (peek a h2) (peek b h2) fun z => κ z h2) ε) ε := by
  unfold mulLD
  rw [wpR_bind]
  congr 1
  funext a h1
  rw [wpR_bind]
  congr 1
  funext b h2
  cases peek a h2 with
  | none => rfl
  | some d =>
    cases d with
    | list ds =>
      cases peek b h2 with
      | none => rfl
      | some e =>
        cases e with
        | int k =>
          show wpR (if 0 ≤ k ∧ k ≤ 1000000 ∧ ds.length ≤ 16 then .ok (List.replicate k.toNat ds).flatten h2 else .stuck : R (List PyData)) κ ε = ((0 ≤ k ∧ k ≤ 1000000 ∧ ds.length ≤ 16) ∧ _)
          by_cases q : 0 ≤ k ∧ k ≤ 1000000 ∧ ds.length ≤ 16
          · rw [if_pos q]; simp only [q, true_and]; rfl
          · rw [if_neg q]; exact propext ⟨fun z => z.elim, fun z => q z.1⟩
        | _ => rfl
    | _ => rfl
theorem mulK_l {ds : List PyData} {n : Int} {k : List PyData → Prop} : mulK (some (.list ds)) (some (.int n)) k = ((0 ≤ n ∧ n ≤ 1000000 ∧ ds.length ≤ 16) ∧ k (List.replicate n.toNat ds).flatten) := rfl
end
end Dn
end

section
/-! Dn, part 31: own dicts with keys of ints and texts and data for values -/
namespace Dn
open PySem PySem.Spec PyProof.Rows L2

/-! ### tables -/
def getP {α : Type} (kvs : List (Key × α)) (k : Key) : Option α := (kvs.find? fun kv => decide (kv.1 = k)).map (·.2)
def putP {α : Type} (kvs : List (Key × α)) (k : Key) (v : α) : List (Key × α) :=
  if (kvs.any fun kv => decide (kv.1 = k)) = true then kvs.map (fun kv => if kv.1 = k then (kv.1, v) else kv) else kvs ++ [(k, v)]
theorem getP_nil {α : Type} {k : Key} : getP ([] : List (Key × α)) k = none := rfl
theorem getP_pos {α : Type} {p : Key × α} {r : List (Key × α)} {k : Key} (e : p.1 = k) : getP (p :: r) k = some p.2 := by simp [getP, List.find?_cons, e]
theorem getP_neg {α : Type} {p : Key × α} {r : List (Key × α)} {k : Key} (e : ¬ p.1 = k) : getP (p :: r) k = getP r k := by simp [getP, List.find?_cons, e]
theorem getP_map {α β : Type} (f : α → β) (k : Key) : ∀ kvs : List (Key × α), getP (kvs.map fun p => (p.1, f p.2)) k = (getP kvs k).map f
  | [] => rfl
  | p :: r => by
    by_cases e : p.1 = k
    · rw [getP_pos e, List.map_cons, getP_pos (show (p.1, f p.2).1 = k from e)]; rfl
    · rw [getP_neg e, List.map_cons, getP_neg (show ¬ (p.1, f p.2).1 = k from e), getP_map f k r]
theorem getP_any {α : Type} (k : Key) : ∀ kvs : List (Key × α), (kvs.any fun kv => decide (kv.1 = k)) = (getP kvs k).isSome
  | [] => rfl
  | p :: r => by
    by_cases e : p.1 = k
    · rw [getP_pos e, List.any_cons, decide_eq_true e]; rfl
    · rw [getP_neg e, List.any_cons, decide_eq_false e, Bool.false_or, getP_any k r]
theorem putP_new {α : Type} {kvs : List (Key × α)} {k : Key} {v : α} (e : getP kvs k = none) : putP kvs k v = kvs ++ [(k, v)] := by
  unfold putP
  rw [if_neg]
  rw [getP_any, e]
  simp
theorem getP_snoc {α : Type} {kvs : List (Key × α)} {k : Key} {v : α} (j : Key) (e : getP kvs k = none) : getP (kvs ++ [(k, v)]) j = if j = k then some v else getP kvs j := by
  unfold getP at e ⊢
  rw [List.find?_append]
  by_cases q : j = k
  · subst q
    rw [if_pos rfl]
    have : (kvs.find? fun kv => decide (kv.1 = j)) = none := by
      cases h : (kvs.find? fun kv => decide (kv.1 = j)) with
      | none => rfl
      | some x => rw [h] at e; cases e
    rw [this]
    simp
  · rw [if_neg q]
    have : ([(k, v)] : List (Key × α)).find? (fun kv => decide (kv.1 = j)) = none := by
      rw [List.find?_cons, decide_eq_false (fun z => q z.symm)]; rfl
    rw [this, Option.or_none]

section
variable {K : PySem.W.Frag} {Z : Addr → Prop} {φ : Nat → Addr} {h : Hl} {H : Hp} {L : Addr → Prop}
theorem tab_get (k : Key) : ∀ {ws : List (Key × V)} {kvs : List (Key × PyData)}, ws.map (·.1) = kvs.map (·.1) → RpAll K H L (ws.map (·.2)) (kvs.map (·.2)) →
    (valV ws k = none ∧ getP kvs k = none) ∨ ∃ v d, valV ws k = some v ∧ getP kvs k = some d ∧ Rp K H L v d
  | [], [], _, _ => .inl ⟨rfl, rfl⟩
  | [], _ :: _, e, _ => by simp at e
  | _ :: _, [], e, _ => by simp at e
  | p :: ws, q :: kvs, e, r => by
    rw [List.map_cons, List.map_cons] at e r
    injection e with e1 e2
    cases r with
    | cons r1 r2 =>
      by_cases c : q.1 = k
      · exact .inr ⟨p.2, q.2, valV_pos (e1.trans c), getP_pos c, r1⟩
      · rw [valV_neg (show ¬ p.1 = k from fun z => c (e1.symm.trans z)), getP_neg c]
        exact tab_get k e2 r2
theorem tab_rep (k : Key) {y : V} {d : PyData} (ry : Rp K H L y d) : ∀ {ws : List (Key × V)} {kvs : List (Key × PyData)}, ws.map (·.1) = kvs.map (·.1) → RpAll K H L (ws.map (·.2)) (kvs.map (·.2)) →
    (ws.map fun kv => if kv.1 = k then (kv.1, y) else kv).map (·.1) = (kvs.map fun kv => if kv.1 = k then (kv.1, d) else kv).map (·.1) ∧
    RpAll K H L ((ws.map fun kv => if kv.1 = k then (kv.1, y) else kv).map (·.2)) ((kvs.map fun kv => if kv.1 = k then (kv.1, d) else kv).map (·.2))
  | [], [], _, _ => ⟨rfl, .nil⟩
  | [], _ :: _, e, _ => by simp at e
  | _ :: _, [], e, _ => by simp at e
  | p :: ws, q :: kvs, e, r => by
    rw [List.map_cons, List.map_cons] at e r
    injection e with e1 e2
    cases r with
    | cons r1 r2 =>
      obtain ⟨a, b⟩ := tab_rep k ry e2 r2
      simp only [List.map_cons]
      by_cases c : q.1 = k
      · have c' : p.1 = k := e1.trans c
        rw [if_pos c, if_pos c']
        exact ⟨by rw [a]; exact congrArg (· :: _) e1, .cons ry b⟩
      · have c' : ¬ p.1 = k := fun z => c (e1.symm.trans z)
        rw [if_neg c, if_neg c']
        exact ⟨by rw [a]; exact congrArg (· :: _) e1, .cons r1 b⟩
theorem tab_put (k : Key) {y : V} {d : PyData} (ry : Rp K H L y d) {ws : List (Key × V)} {kvs : List (Key × PyData)} (e : ws.map (·.1) = kvs.map (·.1)) (r : RpAll K H L (ws.map (·.2)) (kvs.map (·.2))) :
    (putK ws k y).map (·.1) = (putP kvs k d).map (·.1) ∧ RpAll K H L ((putK ws k y).map (·.2)) ((putP kvs k d).map (·.2)) := by
  unfold putK putP
  rw [valV_any, getP_any]
  have q : (valV ws k).isSome = (getP kvs k).isSome := by
    rcases tab_get k e r with ⟨a, b⟩ | ⟨v, d, a, b, _⟩ <;> rw [a, b] <;> rfl
  rw [q]
  by_cases c : (getP kvs k).isSome = true
  · rw [if_pos c, if_pos c]
    exact tab_rep k ry e r
  · rw [if_neg c, if_neg c]
    simp only [List.map_append, List.map_cons, List.map_nil]
    exact ⟨by rw [e], r.append (.cons ry .nil)⟩

/-! ### keys and own dicts -/
def keyV : Val → Option Key
  | .dat (.int i) => some (.inl i)
  | .dat (.str x) => some (.inr x)
  | _ => none
theorem keyV_ok {x : V} {v : Val} {k : Key} (r : RpV K Z φ h H x v) (e : keyV v = some k) : x = kV k := by
  unfold keyV at e
  split at e
  · cases e; cases r; rfl
  · cases e; cases r; rfl
  · cases e
/-- the own dict at a place -/
def dctAt (h : Hl) (k : Nat) : Option (List (Key × PyData)) := match h[k]? with
  | some (some (.dct kvs)) => some kvs
  | _ => none
theorem dct_get {k : Nat} {kvs : List (Key × PyData)} (e : dctAt h k = some kvs) : h[k]? = some (some (.dct kvs)) := by
  unfold dctAt at e
  split at e
  · rename_i g
    cases e
    exact g
  · cases e
def refOf : Val → Option Nat
  | .ref k => some k
  | _ => none
theorem refOf_ok {x : V} {v : Val} {k : Nat} (r : RpV K Z φ h H x v) (e : refOf v = some k) : v = .ref k ∧ k < h.length ∧ x = .ref (φ k) := by
  unfold refOf at e
  split at e
  · cases e; exact ⟨rfl, r.1, r.2⟩
  · cases e
/-- an own dict, by value -/
def dctV (h : Hl) (v : Val) : Option (List (Key × PyData)) := (refOf v).bind (dctAt h)
theorem dctV_ok {x : V} {v : Val} {kvs : List (Key × PyData)} (S : SimH K Z φ h H) (r : RpV K Z φ h H x v) (e : dctV h v = some kvs) :
    ∃ k ws, v = .ref k ∧ k < h.length ∧ x = .ref (φ k) ∧ h[k]? = some (some (.dct kvs)) ∧ H (φ k) = some (.dK ws) ∧ ws.map (·.1) = kvs.map (·.1) ∧ RpAll K H (live Z φ h) (ws.map (·.2)) (kvs.map (·.2)) := by
  unfold dctV at e
  cases q : refOf v with
  | none => rw [q] at e; cases e
  | some k =>
    rw [q] at e
    obtain ⟨a, b, c⟩ := refOf_ok r q
    have g := dct_get (show dctAt h k = some kvs from e)
    obtain ⟨ws, e1, e2, e3⟩ := S.od g
    exact ⟨k, ws, a, b, c, g, e1, e2, e3⟩
end

def datV : Val → Option PyData
  | .dat d => some d
  | _ => none
theorem datV_ok {K : PySem.W.Frag} {Z : Addr → Prop} {φ : Nat → Addr} {h : Hl} {H : Hp} {x : V} {v : Val} {d : PyData} (r : RpV K Z φ h H x v) (e : datV v = some d) : Rp K H (live Z φ h) x d := by
  unfold datV at e
  split at e
  · cases e; exact r
  · cases e
def noEx {α : Type} : R α → R α
  | .exc _ _ => .stuck
  | r => r
def opR {α β : Type} (o : Option α) (f : α → R β) : R β := match o with
  | some a => f a
  | none => .stuck

/-! ### {k: v} -/
def dispD (fk fv : En → Hl → R Val) : En → Hl → R Val := fun ρ h => (noEx (fk ρ h)).bind fun a h1 => opR (keyV a) fun key => (noEx (fv ρ h1)).bind fun b h2 => opR (datV b) fun d => .ok (.ref h2.length) (h2 ++ [some (.dct [(key, d)])])
section
variable {X : Cx} {W : WX}
theorem ex_disp1 {k v : Expr} {fk fv : En → Hl → R Val} {pos : Pos} (hk : Ex X W0 k fk) (hv : Ex X W0 v fv) : Ex X W (.Dict [some k] [v] pos) (dispD fk fv) := by
  obtain ⟨tk, pk, sk⟩ := hk
  obtain ⟨tv, pv, sv⟩ := hv
  refine ⟨_, pe_disp (pps_cons pk pv pps_nil) rfl rfl (by simp) (by show 1 ≤ 15; decide), fun Z φ ρ h σ H Q S E p => fun D n => ?_⟩
  have nz : ¬ Z D := fun z => by
    obtain ⟨o, e, _⟩ := S.ztr D z
    rw [n] at e; cases e
  have hz : ∀ a, (∃ o, H a = some o) → (Z a ∨ a = D) → Z a := fun a ⟨o, e⟩ z => z.elim id fun q => by subst q; rw [n] at e; cases e
  have nD : ∀ {φ2 : Nat → Addr} {h2 : Hl} {H2 : Hp}, SimH X.K (fun a => Z a ∨ a = D) φ2 h2 H2 → ∀ (i : Nat) (u : HObj), h2[i]? = some (some u) → φ2 i ≠ D := fun S2 i u g q => S2.zno i (lt_of_getS g) (.inr q)
  have E1 : SimE X.K (fun a => Z a ∨ a = D) φ h (L2.upd H D (.dK [])) ρ σ := SimE.stepZ S (stp_upd n) hz E
  have S1 : SimH X.K (fun a => Z a ∨ a = D) φ h (L2.upd H D (.dK [])) := dark S n
  show tk σ (L2.upd H D (.dK [])) fun x H1 => tv σ H1 fun y H2 => (H2 D = some (.dK []) ∧ ∃ kvs : List (Key × V), [(x, y)] = kvs.map (fun kv => (kV kv.1, kv.2)) ∧ kvs.length ≤ 15 ∧ Q (.ref D) (L2.upd H2 D (.dK (mergeK [] kvs))))
  refine sk _ φ ρ h σ _ _ S1 E1 ?_
  unfold dispD at p
  cases e1 : fk ρ h with
  | stuck => rw [e1] at p; exact False.elim p
  | exc x h' => rw [e1] at p; exact False.elim p
  | ok a h1 =>
    rw [e1] at p
    replace p : PostR X.K X.mg (fun c d H' => W c d σ H') Z φ h H (β := Val) (opR (keyV a) fun key => (noEx (fv ρ h1)).bind fun b h2 => opR (datV b) fun d => R.ok (Val.ref h2.length) (h2 ++ [some (HObj.dct [(key, d)])])) (fun φ' h' H' b => ∀ a, relV X.K Z φ' h' H' a b → Q a H') := p
    intro φ1 H1 s1 S1' x rx
    cases ek : keyV a with
    | none => rw [ek] at p; exact False.elim p
    | some key =>
      have ex := keyV_ok rx ek
      rw [ek] at p
      replace p : PostR X.K X.mg (fun c d H' => W c d σ H') Z φ h H (β := Val) ((noEx (fv ρ h1)).bind fun b h2 => opR (datV b) fun d => R.ok (Val.ref h2.length) (h2 ++ [some (HObj.dct [(key, d)])])) (fun φ' h' H' b => ∀ a, relV X.K Z φ' h' H' a b → Q a H') := p
      refine sv _ φ1 ρ h1 σ H1 _ S1' (E1.step S1 s1) ?_
      cases e2 : fv ρ h1 with
      | stuck => rw [e2] at p; exact False.elim p
      | exc x h' => rw [e2] at p; exact False.elim p
      | ok b h2 =>
        rw [e2] at p
        replace p : PostR X.K X.mg (fun c d H' => W c d σ H') Z φ h H (β := Val) (opR (datV b) fun d => R.ok (Val.ref h2.length) (h2 ++ [some (HObj.dct [(key, d)])])) (fun φ' h' H' b => ∀ a, relV X.K Z φ' h' H' a b → Q a H') := p
        intro φ2 H2 s2 S2 y ry
        cases ed : datV b with
        | none => rw [ed] at p; exact False.elim p
        | some d =>
          rw [ed] at p
          have rd := datV_ok ry ed
          have eD : H2 D = some (.dK []) := s2.keep D _ (s1.keep D _ upd_same (nD S1)) (nD S1')
          refine ⟨eD, [(key, y)], by rw [ex]; rfl, by show 1 ≤ 15; decide, ?_⟩
          obtain ⟨H0, k0, ku, S0, conv⟩ := minus S2 eD nz
          have s12 := s1.trans s2
          have hne : ∀ a o, H a = some o → H0 a = H2 a := fun a o q => by rw [ku, upd_ne (ne_of_none q n)]
          have s0 : Stp φ Z h H φ2 h2 H0 := ⟨s12.len, s12.old, s12.dead, fun a o q nn => by rw [hne a o q]; exact s12.keep a o (by rw [upd_ne (ne_of_none q n)]; exact q) nn, fun j a b => by
            have := s12.new j a b
            by_cases c : φ2 j = D
            · rw [c, upd_same] at this; cases this
            · rw [upd_ne c] at this; exact this, fun a o q => by rw [hne a o q]; exact s12.trk a o (by rw [upd_ne (ne_of_none q n)]; exact q)⟩
          have ra : RpAll X.K H0 (live Z φ2 h2) [y] [d] := conv _ _ (.cons rd .nil)
          obtain ⟨φ3, s3, S3, e3⟩ := adoptO S0 k0 (u0 := .dK [(key, y)]) (o0 := .dct [(key, d)]) ⟨_, rfl, rfl, ra⟩
          have eu : L2.upd H2 D (.dK (mergeK [] [(key, y)])) = L2.upd H0 D (.dK [(key, y)]) := by
            rw [ku, upd_upd]; rfl
          rw [eu]
          exact p φ3 _ (s0.trans s3) S3 _ ⟨by simp, by rw [e3]⟩

/-! ### y in d, y not in d, d[y], len(d) -/
def dinD (neg : Bool) (fy fd : En → Hl → R Val) : En → Hl → R Val := fun ρ h => (fy ρ h).bind fun y h1 => opR (keyV y) fun key => (fd ρ h1).bind fun d h2 => opR (dctV h2 d) fun kvs => .ok (.dat (.bool (xor neg (getP kvs key).isSome))) h2
theorem sn_din {neg : Bool} {ty td : TE} {fy fd : En → Hl → R Val} {t : TE} (ht : t = if neg = true then tDNotIn ty td else tDIn ty td) (sy : Sn X W relV ty fy) (sd : Sn X W relV td fd) : Sn X W relV t (dinD neg fy fd) := by
  intro Z φ ρ h σ H Q S E p
  have main : ty σ H fun y H1 => td σ H1 fun x H2 => ∃ a o, x = .ref a ∧ DGet H2 a y o ∧ Q (.bl (xor neg o.isSome)) H2 := by
    refine sy.seq S E p fun y h1 φ1 H1 vy s1 S1 E1 ry p1 => ?_
    cases ek : keyV y with
    | none => rw [ek] at p1; exact False.elim p1
    | some key =>
      rw [ek] at p1
      have ex := keyV_ok ry ek
      refine sd.seq S1 E1 p1 fun d h2 φ2 H2 vd s2 S2 E2 rd p2 => ?_
      cases ed : dctV h2 d with
      | none => rw [ed] at p2; exact False.elim p2
      | some kvs =>
        rw [ed] at p2
        obtain ⟨k, ws, _, hk, rfl, g, e1, e2, e3⟩ := dctV_ok S2 rd ed
        refine ⟨φ2 k, valV ws key, rfl, by rw [ex]; exact DGet.k e1, ?_⟩
        have q : (valV ws key).isSome = (getP kvs key).isSome := by
          rcases tab_get key e2 e3 with ⟨a, b⟩ | ⟨v, d, a, b, _⟩ <;> rw [a, b] <;> rfl
        rw [q]
        exact p2 φ2 H2 Stp.refl S2 _ (.bl _)
  rw [ht]
  cases neg with
  | true =>
    rw [if_pos rfl]
    have c : ∀ o : Option V, xor true o.isSome = !o.isSome := fun o => by cases o.isSome <;> rfl
    simp only [c] at main
    exact main
  | false =>
    rw [if_neg Bool.false_ne_true]
    have c : ∀ o : Option V, xor false o.isSome = o.isSome := fun o => by cases o.isSome <;> rfl
    simp only [c] at main
    exact main
theorem tx_dnotin {a b : Expr} {fa fb : En → Hl → R Val} {pos : Pos} (hu : X.A.units + 65 < cLine) (ha : Ex X W a fa) (hb : Ex X W b fb) (hm : behindInMarks .NotIn b = false) : Tx X W (.Compare a [.NotIn] [b] pos) (tstD (dinD true fa fb)) := by
  obtain ⟨t, p, s⟩ := ha
  obtain ⟨u, q, r⟩ := hb
  exact ⟨_, pt_cmp (pc_dnotin (by omega) p q) hm, sn_tst (sn_din (neg := true) rfl s r)⟩
theorem tx_din {a b : Expr} {fa fb : En → Hl → R Val} {pos : Pos} (hu : X.A.units + 65 < cLine) (ha : Ex X W a fa) (hb : Ex X W b fb) (hm : behindInMarks .In b = false) : Tx X W (.Compare a [.In] [b] pos) (tstD (dinD false fa fb)) := by
  obtain ⟨t, p, s⟩ := ha
  obtain ⟨u, q, r⟩ := hb
  exact ⟨_, pt_cmp (pc_din (by omega) p q) hm, sn_tst (sn_din (neg := false) rfl s r)⟩
def dgetD (fd fy : En → Hl → R Val) : En → Hl → R Val := fun ρ h => (fd ρ h).bind fun d h1 => (fy ρ h1).bind fun y h2 => opR (keyV y) fun key => opR (dctV h2 d) fun kvs => opR (getP kvs key) fun v => .ok (.dat v) h2
theorem ex_dget {a b : Expr} {fa fb : En → Hl → R Val} {pos : Pos} (hu : X.A.units + 65 < cLine) (ha : Ex X W a fa) (hb : Ex X W b fb) (hs : NoSl b) : Ex X W (.Subscript a b pos) (dgetD fa fb) := by
  obtain ⟨t, p, s⟩ := ha
  obtain ⟨u, q, r⟩ := hb
  refine ⟨_, pe_dget (by omega) p q hs, fun Z φ ρ h σ H Q S E po => ?_⟩
  refine s.seq S E po fun d h1 φ1 H1 vd s1 S1 E1 rd p1 => ?_
  refine r.seq S1 E1 p1 fun y h2 φ2 H2 vy s2 S2 E2 ry p2 => ?_
  cases ek : keyV y with
  | none => rw [ek] at p2; exact False.elim p2
  | some key =>
    rw [ek] at p2
    have ex := keyV_ok ry ek
    unfold opR at p2
    dsimp only at p2
    cases ed : dctV h2 d with
    | none => rw [ed] at p2; exact False.elim p2
    | some kvs =>
      rw [ed] at p2
      dsimp only at p2
      obtain ⟨k, ws, rfl, hk, rfl, g, e1, e2, e3⟩ := dctV_ok S2 (RpV.step S1 s2 rd) ed
      rcases tab_get key e2 e3 with ⟨a, b⟩ | ⟨v, d, a, b, rv⟩
      · rw [b] at p2; exact False.elim p2
      · rw [b] at p2
        refine ⟨φ2 k, v, rfl, by rw [ex, ← a]; exact DGet.k e1, ?_⟩
        exact p2 φ2 H2 Stp.refl S2 _ rv
def dlenD (fa : En → Hl → R (List Val)) : En → Hl → R Val := fun ρ h => (fa ρ h).bind fun vs h1 => match vs with
  | [v] => opR (dctV h1 v) fun kvs => .ok (.dat (.int kvs.length)) h1
  | _ => .stuck
theorem ex_dlen {x : Str} {e : Expr} {fa : En → Hl → R (List Val)} {p pos : Pos} (hg : Gl X x) (hm : X.mg x = none) (hv : bootBuiltins x = some (.builtin "len")) (ha : Ax X W [e] fa)
    (hn : x ≠ "__name__") (hdb : (x == ("__debug__" : Str)) = false) (he : starEach [e] X.env = (false, eval e X.env) :: starEach [] X.env) (hpl : (backTo pos (starEach [] X.env)).any (·.1) = false) : Ex X W (.Call (.Name x p) [e] [] pos) (dlenD fa) := by
  obtain ⟨t, pa, ha⟩ := ha
  refine ⟨_, pe_callB call_lenD hg hm hv pa hn hdb he hpl, fun Z φ ρ h σ H Q S E po => ?_⟩
  refine ha.seq S E po fun vs h1 φ1 H1 xs s1 S1 E1 r1 p1 => ?_
  cases r1 with
  | nil => exact False.elim p1
  | cons rv rn =>
    cases rn with
    | nil =>
      rename_i x v
      dsimp only at p1
      cases ed : dctV h1 v with
      | none => rw [ed] at p1; exact False.elim p1
      | some kvs =>
        rw [ed] at p1
        obtain ⟨k, ws, rfl, hk, rfl, g, e1, e2, e3⟩ := dctV_ok S1 rv ed
        refine ⟨φ1 k, ws, rfl, e1, ?_⟩
        have q : ws.length = kvs.length := by
          have := congrArg List.length e2
          simpa using this
        rw [q]
        exact p1 φ1 H1 Stp.refl S1 _ (.int _)
    | cons _ _ => exact False.elim p1

/-! ### d[y] = v -/
def opS {α : Type} (o : Option α) (f : α → SR) : SR := match o with
  | some a => f a
  | none => .stuck
def dputS (fe fd fy : En → Hl → R Val) : En → Hl → SR := fun ρ h => ofR (fe ρ h) ρ fun v h1 => ofR (fd ρ h1) ρ fun d h2 => ofR (fy ρ h2) ρ fun y h3 => opS (datV v) fun vd => opS (refOf d) fun k => opS (dctAt h3 k) fun kvs => opS (keyV y) fun key =>
  if kvs.length < sizeLine then .next ρ (h3.set k (some (.dct (putP kvs key vd)))) else .stuck
theorem sx_dput {o i e : Expr} {fe fo fi : En → Hl → R Val} {pos pos2 : Pos} (hu : X.A.units + 65 < cLine) (he : Ex X W e fe) (ho : Ex X W o fo) (hi : Ex X W i fi)
    (hs : swapsWith e (some (.Subscript o i pos2)) pos.line X.env = pure false) : Sx X W (.Assign [.Subscript o i pos2] e pos) (dputS fe fo fi) := by
  obtain ⟨t, p, s⟩ := he
  obtain ⟨t2, p2, s2⟩ := ho
  obtain ⟨t3, p3, s3⟩ := hi
  refine ⟨_, ps_dput (by omega) p2 p3 p hs, fun Z φ ρ h σ H D S E po => s Z φ ρ h σ H _ S E (PostS.ofR S E po fun v h1 φ1 H1 ev q1 S1 E1 po1 x rx => ?_)⟩
  refine s2 Z φ1 ρ h1 σ H1 _ S1 E1 (PostS.ofR S1 E1 po1 fun a h2 φ2 H2 ea q2 S2 E2 po2 y ry => ?_)
  refine s3 Z φ2 ρ h2 σ H2 _ S2 E2 (PostS.ofR S2 E2 po2 fun b h3 φ3 H3 eb q3 S3 E3 po3 z rz => ?_)
  clear ev ea eb
  cases e1 : datV v with
  | none => rw [e1] at po3; exact False.elim po3
  | some d =>
    rw [e1] at po3
    unfold opS at po3
    dsimp only at po3
    cases e0 : refOf a with
    | none => rw [e0] at po3; exact False.elim po3
    | some k =>
      rw [e0] at po3
      dsimp only at po3
      cases e2 : dctAt h3 k with
      | none => rw [e2] at po3; exact False.elim po3
      | some kvs =>
        rw [e2] at po3
        dsimp only at po3
        cases e3 : keyV b with
        | none => rw [e3] at po3; exact False.elim po3
        | some key =>
          rw [e3] at po3
          dsimp only at po3
          have ry3 : RpV X.K Z φ3 h3 H3 y a := RpV.step S2 q3 ry
          obtain ⟨rfl, hk, rfl⟩ := refOf_ok ry3 e0
          have g := dct_get e2
          obtain ⟨ws, f1, f2, f3⟩ := S3.od g
          split at po3
          · rename_i hz
            have rd : Rp X.K H3 (live Z φ3 h3) x d := datV_ok (RpV.step S1 (q2.trans q3) rx) e1
            have ez := keyV_ok rz e3
            have hl : ws.length = kvs.length := by
              have := congrArg List.length f2
              simpa using this
            obtain ⟨g1, g2⟩ := tab_put key rd f2 f3
            obtain ⟨s4, S4⟩ := mutateO S3 g (u0 := .dK (putK ws key x)) (o0 := .dct (putP kvs key d)) ⟨_, rfl, g1, g2⟩
            refine ⟨φ3 k, _, rfl, by rw [ez]; exact DPut.k f1 (by rw [hl]; exact hz), ?_⟩
            exact po3 φ3 σ _ s4 S4 (E3.step S3 s4)
          · exact False.elim po3
end
end Dn
end

section
/-! Dn, part 32: sep.join(texts), s.upper() -/
namespace Dn
open PySem PySem.Spec PyProof.Rows L2
def txsOf : List PyData → Option (List Str)
  | [] => some []
  | .str s :: r => (txsOf r).map (s :: ·)
  | _ => none
theorem txs_of {K : PySem.W.Frag} {H : Hp} {L : Addr → Prop} : ∀ {xs : List V} {ds : List PyData} {ns : List Str}, RpAll K H L xs ds → txsOf ds = some ns → xs = ns.map V.str
  | _, [], _, .nil, e => by cases e; rfl
  | _, d :: ds, _, .cons r t, e => by
    cases r with
    | str x =>
      rw [show txsOf (.str x :: ds) = (txsOf ds).map (x :: ·) from rfl] at e
      cases q : txsOf ds with
      | none => rw [q] at e; cases e
      | some ms =>
        rw [q] at e
        cases e
        rw [txs_of t q]; rfl
    | _ => cases e
theorem txsOf_map (ns : List Str) : txsOf (ns.map .str) = some ns := by
  induction ns with
  | nil => rfl
  | cons s r ih => rw [List.map_cons, show txsOf (.str s :: r.map .str) = (txsOf (r.map .str)).map (s :: ·) from rfl, ih]; rfl
def seqOf : PyData → Option (List PyData)
  | .list ds => some ds
  | .tuple ds => some ds
  | _ => none
def strV : Val → Option Str
  | .dat (.str x) => some x
  | _ => none
theorem strV_ok {K : PySem.W.Frag} {Z : Addr → Prop} {φ : Nat → Addr} {h : Hl} {H : Hp} {x : V} {v : Val} {s : Str} (r : RpV K Z φ h H x v) (e : strV v = some s) : x = .str s ∧ v = .dat (.str s) := by
  unfold strV at e
  split at e
  · cases e; cases r; exact ⟨rfl, rfl⟩
  · cases e
def glueD (fo fe : En → Hl → R Val) : En → Hl → R Val := fun ρ h => (fo ρ h).bind fun a h1 => opR (strV a) fun x => (fe ρ h1).bind fun b h2 => opR (((peek b h2).bind seqOf).bind txsOf) fun ys =>
  if (ys.map (·.length)).sum + ys.length * x.length ≤ 16777216 then .ok (.dat (.str (Txt.join x ys))) h2 else .stuck
def upperD (fo : En → Hl → R Val) : En → Hl → R Val := fun ρ h => (fo ρ h).bind fun a h1 => opR (strV a) fun x => if x.length ≤ 5592405 then .ok (.dat (.str (Txt.upper x))) h1 else .stuck
section
variable {X : Cx} {W : WX}
theorem ex_join {o e : Expr} {fo fe : En → Hl → R Val} {apos pos : Pos} (ho : Ex X W o fo) (he : Ex X W e fe) (hs : starEach [e] X.env = [(false, eval e X.env)]) (hbase : attributeBase o "join" X.env (eval o X.env) = eval o X.env) (hline : (apos.endLine == pos.line) = true) :
    Ex X W (.Call (.Attribute o "join" apos) [e] [] pos) (glueD fo fe) := by
  obtain ⟨t, p, s⟩ := ho
  obtain ⟨u, q, r⟩ := he
  refine ⟨_, pe_join p q hs hbase hline, fun Z φ ρ h σ H Q S E po => ?_⟩
  refine s.seq S E po fun a h1 φ1 H1 va s1 S1 E1 ra p1 => ?_
  cases ea : strV a with
  | none => rw [ea] at p1; exact False.elim p1
  | some x =>
    rw [ea] at p1
    obtain ⟨rfl, _⟩ := strV_ok ra ea
    refine ⟨⟨x, rfl⟩, ?_⟩
    refine r.seq S1 E1 p1 fun b h2 φ2 H2 vb s2 S2 E2 rb p2 => ?_
    cases eb : ((peek b h2).bind seqOf).bind txsOf with
    | none => rw [eb] at p2; exact False.elim p2
    | some ys =>
      rw [eb] at p2
      unfold opR at p2
      dsimp only at p2
      split at p2
      · rename_i hz
        cases ep : peek b h2 with
        | none => rw [ep] at eb; cases eb
        | some d =>
          rw [ep] at eb
          have rq := peek_ok S2 rb ep
          have fin : ∃ pp, vb = .ref pp ∧ (SqL X.K H2 pp (ys.map V.str) ∨ SqT X.K H2 pp (ys.map V.str)) := by
            cases d with
            | list ds =>
              obtain ⟨pp, xs, rfl, e1, rr⟩ := rq.lst
              have := txs_of rr (show txsOf ds = some ys from eb)
              subst this
              exact ⟨pp, rfl, .inl (SqL.of e1)⟩
            | tuple ds =>
              obtain ⟨pp, xs, rfl, e1, rr⟩ := rq.tup
              have := txs_of rr (show txsOf ds = some ys from eb)
              subst this
              exact ⟨pp, rfl, .inr e1⟩
            | _ => cases eb
          obtain ⟨pp, rfl, hp⟩ := fin
          exact ⟨x, pp, ys, rfl, rfl, hp, hz, p2 φ2 H2 Stp.refl S2 _ (.str _)⟩
      · exact False.elim p2
theorem ex_upper {o : Expr} {fo : En → Hl → R Val} {apos pos : Pos} (ho : Ex X W o fo) (hbase : attributeBase o "upper" X.env (eval o X.env) = eval o X.env) (hline : (apos.endLine == pos.line) = true) :
    Ex X W (.Call (.Attribute o "upper" apos) [] [] pos) (upperD fo) := by
  obtain ⟨t, p, s⟩ := ho
  refine ⟨_, pe_upper p hbase hline, fun Z φ ρ h σ H Q S E po => ?_⟩
  refine s.seq S E po fun a h1 φ1 H1 va s1 S1 E1 ra p1 => ?_
  cases ea : strV a with
  | none => rw [ea] at p1; exact False.elim p1
  | some x =>
    rw [ea] at p1
    obtain ⟨rfl, _⟩ := strV_ok ra ea
    unfold opR at p1
    dsimp only at p1
    split at p1
    · rename_i hz
      exact ⟨⟨x, rfl⟩, x, rfl, rfl, hz, p1 φ1 H1 Stp.refl S1 _ (.str _)⟩
    · exact False.elim p1
end
end Dn
end

section
/-! Dn, part 33: [d[k] for k in d] of an own dict -/
namespace Dn
open PySem PySem.Spec PyProof.Rows L2
/-- the expression is read while the thing at d is locked -/
def tLockE (t : TE) : TE := fun σ H Q => ∃ d u, H d = some u ∧ Mut (some u) ∧ ∀ od, t σ (L2.upd H d (.frz od u)) fun v H' => H' d = some (.frz od u) ∧ Q v (L2.upd H' d u)
theorem pe_lockE {X : Cx} {e : Expr} {t : TE} (h : PE X e t) : PE X e (tLockE t) := by
  refine ⟨fun pins s σ H Q I q => ?_⟩
  obtain ⟨d, u, e, mu, q⟩ := q
  obtain ⟨od, I1⟩ := I.lock e mu
  exact thn (h.run pins s σ _ _ I1 (q od)) fun v s1 ⟨x, H1, I2, rx, e2, q2⟩ => ⟨x, _, I2.unlock e2 (I.nofrz e mu), rx, q2⟩
def valsP (kvs : List (Key × PyData)) : List PyData := kvs.map fun p => (getP kvs p.1).getD .none
def valsW (ws : List (Key × V)) : List V := ws.map fun p => (valV ws p.1).getD .non
theorem vals_rel {K : PySem.W.Frag} {H : Hp} {L : Addr → Prop} {ws : List (Key × V)} {kvs : List (Key × PyData)} (e : ws.map (·.1) = kvs.map (·.1)) (r : RpAll K H L (ws.map (·.2)) (kvs.map (·.2))) : RpAll K H L (valsW ws) (valsP kvs) := by
  have main : ∀ (ps : List (Key × V)) (qs : List (Key × PyData)), ps.map (·.1) = qs.map (·.1) → RpAll K H L (ps.map fun p => (valV ws p.1).getD .non) (qs.map fun p => (getP kvs p.1).getD .none) := by
    intro ps
    induction ps with
    | nil =>
      intro qs q
      cases qs with
      | nil => exact .nil
      | cons b qs => simp at q
    | cons a ps ih =>
      intro qs q
      cases qs with
      | nil => simp at q
      | cons b qs =>
        rw [List.map_cons, List.map_cons] at q
        injection q with q1 q2
        rw [List.map_cons, List.map_cons, q1]
        refine .cons ?_ (ih qs q2)
        rcases tab_get b.1 e r with ⟨x, y⟩ | ⟨v, d, x, y, rv⟩
        · rw [x, y]; exact .non
        · rw [x, y]; exact rv
  exact main ws kvs e
def dvalsD (i j : Nat) : En → Hl → R (List PyData) := fun ρ h => opR ((ρ[i]?).join.bind (dctV h)) fun kvs => if kvs.length ≤ sizeLine ∧ i ≠ j ∧ j < ρ.length then .ok (valsP kvs) h else .stuck
section
variable {X : Cx} {W : WX}
theorem lx_dvals {i j : Nat} {elt tg iter : Expr} {scope : Scope} {own : List (Str × Nat)} {pos : Pos} (hc : X.calm = true) (hN : X.N.Nodup) (hi : PE X iter (tVar i)) (ok : BlkOk X.N X.env.scope scope own) (hj : own.map (·.2) = [j])
    (hg : ∀ (s : Shared) (H : Hp) (C : Addr) (cl : List (Str × Addr)) (fp : List Addr), PG (X.blk s H scope (compEnvC scope cl C X.env) fp) tg (gName j))
    (he : ∀ (s : Shared) (H : Hp) (C : Addr) (cl : List (Str × Addr)) (fp : List Addr), PE (X.blk s H scope (compEnvC scope cl C X.env) fp) elt (tDGet (tVar i) (tVar j))) (hs : ∀ x, foldedSetIterable iter X.env x = pure x) : Lx X W (.ListComp elt [⟨tg, iter, [], 0⟩] scope pos) (dvalsD i j) := by
  refine ⟨_, pe_lockE (pe_lc hc hN (pi_keys hi) ok hg (fun s H C cl fp => pts_nil) he hs), fun Z φ ρ h σ H Q S E p => ?_⟩
  rw [hj]
  unfold dvalsD at p
  cases ev : ρ[i]? with
  | none => rw [ev] at p; exact False.elim p
  | some ov =>
    cases ov with
    | none => rw [ev] at p; exact False.elim p
    | some v =>
      rw [ev] at p
      replace p : PostR X.K X.mg (fun c d H' => W c d σ H') Z φ h H (opR (dctV h v) fun kvs => if kvs.length ≤ sizeLine ∧ i ≠ j ∧ j < ρ.length then R.ok (valsP kvs) h else .stuck) (fun φ' h' H' ds => ∀ p xs, H' p = none → RpAll X.K H' (live Z φ' h') xs ds → Q (.ref p) (L2.upd H' p (.lst xs))) := p
      cases ed : dctV h v with
      | none => rw [ed] at p; exact False.elim p
      | some kvs =>
        rw [ed] at p
        unfold opR at p
        dsimp only at p
        split at p
        · rename_i hz
          obtain ⟨hz, hij, hjl⟩ := hz
          obtain ⟨x, qx, rx⟩ := E.get i v ev
          obtain ⟨k, ws, rfl, hk, rfl, g, e1, e2, e3⟩ := dctV_ok S rx ed
          have hl : ws.length = kvs.length := by
            have := congrArg List.length e2
            simpa using this
          refine ⟨φ k, .dK ws, e1, trivial, fun od => ?_⟩
          refine ⟨.ref (φ k), qx, φ k, od, rfl, .inl ⟨ws, upd_same, fun D n => ?_⟩⟩
          have hD : D ≠ φ k := fun z => by rw [z, upd_same] at n; cases n
          have n0 : H D = none := by rw [upd_ne hD] at n; exact n
          have hlx : (valsW ws).length = ws.length := by unfold valsW; simp
          refine ⟨fun a m H' => H' = L2.upd (L2.upd H (φ k) (.frz od (.dK ws))) D (.lst ((valsW ws).take a)) ∧ a + m = ws.length, ⟨ws.length, by simp, by omega⟩, fun a m H' hW => ?_⟩
          obtain ⟨rfl, hm⟩ := hW
          have ek : (L2.upd (L2.upd H (φ k) (.frz od (.dK ws))) D (.lst ((valsW ws).take a))) (φ k) = some (.frz od (.dK ws)) := by
            rw [upd_ne (Ne.symm hD), upd_same]
          rcases Nat.lt_or_ge a ws.length with ha | ha
          · refine .inr ⟨⟨ek, ha⟩, fun H' => H' = L2.upd (L2.upd H (φ k) (.frz od (.dK ws))) D (.lst ((valsW ws).take (a + 1))), fun H' e => ⟨m - 1, by omega, e, by omega⟩, fun x H' hy => ?_⟩
            obtain ⟨rfl, key, w, hw, rfl⟩ := hy
            have hjs : j < σ.length := by rw [← E.len]; exact hjl
            have hsome : (valV ws key).isSome = true := by
              rw [← valV_any, List.any_eq_true]
              exact ⟨(key, w), List.mem_of_getElem? hw, by simp⟩
            obtain ⟨y, ey⟩ := Option.isSome_iff_exists.mp hsome
            have hxa : (valsW ws)[a]? = some y := by
              unfold valsW
              rw [List.getElem?_map, hw]
              show some ((valV ws key).getD .non) = some y
              rw [ey]; rfl
            have htk : (valsW ws).take (a + 1) = (valsW ws).take a ++ [y] := by
              rw [List.take_add_one, hxa]; rfl
            have gj : ((L2.wipe σ [j]).set j (some (kV key)))[j]? = some (some (kV key)) := List.getElem?_set_self (by rw [wipe_length]; exact hjs)
            have gi : ((L2.wipe σ [j]).set j (some (kV key)))[i]? = some (some (V.ref (φ k))) := by
              rw [List.getElem?_set_ne (Ne.symm hij), wipe_at, if_neg (by simp [hij])]
              exact qx
            refine ⟨?_, ?_⟩
            · rw [wipe_set (List.mem_singleton.mpr rfl), wipe_idem]
            · unfold tYes
              dsimp only
              rw [if_pos rfl]
              refine ⟨V.ref (φ k), gi, kV key, gj, φ k, y, rfl, .inl ⟨ws, key, .inr ⟨od, ek⟩, rfl, ey.symm⟩, _, upd_same, ?_, ?_⟩
              · rw [List.length_take, hlx]
                have := hz
                omega
              · rw [upd_upd, htk]
          · refine .inl ⟨⟨ek, ha⟩, ek, ?_⟩
            have et : (valsW ws).take a = valsW ws := List.take_of_length_le (by rw [hlx]; exact ha)
            rw [et]
            have eu : L2.upd (L2.upd (L2.upd H (φ k) (.frz od (.dK ws))) D (.lst (valsW ws))) (φ k) (.dK ws) = L2.upd H D (.lst (valsW ws)) := by
              funext b
              by_cases hb : b = φ k
              · rw [hb, upd_same, upd_ne (Ne.symm hD)]; exact e1.symm
              · rw [upd_ne hb]
                by_cases hd : b = D
                · rw [hd, upd_same, upd_same]
                · rw [upd_ne hd, upd_ne hd, upd_ne hb]
            rw [eu]
            exact p φ H Stp.refl S D (valsW ws) n0 (vals_rel e2 e3)
        · exact False.elim p
end
end Dn
end

section
/-! Dn, part 34: dicts and joins: in a def's frame, and reckoning -/
namespace Dn
open PySem PySem.Spec PyProof.Rows L2
section
variable {X : Cx} {W : WX} {k : Nat} {T : Tab}
theorem Fx.w0 (C : Fx X W k T) : Fx X W0 k T where
  kn := C.kn
  rm := C.rm
  gd := C.gd
  calm := C.calm
  nd := C.nd
  tk := fun u s' ⟨_, _, _, _, _, _, _, _, _, _, _, _, _, _, _, _, z⟩ => z.elim
  po := C.po
theorem Fx.tdnotin (C : Fx X W k T) {a b : Expr} {fa fb : En → Hl → R Val} {pos : Pos} (ha : Ex X W a fa) (hb : Ex X W b fb) (hm : behindInMarks .NotIn b = false := by rfl) : Tx X W (.Compare a [.NotIn] [b] pos) (tstD (dinD true fa fb)) := tx_dnotin C.hu ha hb hm
theorem Fx.tdin (C : Fx X W k T) {a b : Expr} {fa fb : En → Hl → R Val} {pos : Pos} (ha : Ex X W a fa) (hb : Ex X W b fb) (hm : behindInMarks .In b = false := by rfl) : Tx X W (.Compare a [.In] [b] pos) (tstD (dinD false fa fb)) := tx_din C.hu ha hb hm
theorem Fx.dget (C : Fx X W k T) {a b : Expr} {fa fb : En → Hl → R Val} {pos : Pos} (ha : Ex X W a fa) (hb : Ex X W b fb) (hs : NoSl b := by exact fun _ _ => rfl) : Ex X W (.Subscript a b pos) (dgetD fa fb) := ex_dget C.hu ha hb hs
theorem Fx.dlen (C : Fx X W k T) (j : Nat) {e : Expr} {fa : En → Hl → R (List Val)} {p pos : Pos} (hj : T.bts[j]? = some "len") (ha : Ax X W [e] fa)
    (hg : Gl X "len" := by rfl) (he : starEach [e] X.env = (false, eval e X.env) :: starEach [] X.env := by rfl) (hpl : (backTo pos (starEach [] X.env)).any (·.1) = false := by rfl) :
    Ex X W (.Call (.Name "len" p) [e] [] pos) (dlenD fa) := ex_dlen hg (C.kn.bt j _ hj) bo_len ha (by decide) (by decide) he hpl
theorem Fx.dput (C : Fx X W k T) {o i e : Expr} {fe fo fi : En → Hl → R Val} {pos pos2 : Pos} (he : Ex X W e fe) (ho : Ex X W o fo) (hi : Ex X W i fi)
    (hs : swapsWith e (some (.Subscript o i pos2)) pos.line X.env = pure false := by rfl) : Sx X W (.Assign [.Subscript o i pos2] e pos) (dputS fe fo fi) := sx_dput C.hu he ho hi hs
theorem Fx.glue (C : Fx X W k T) {o e : Expr} {fo fe : En → Hl → R Val} {apos pos : Pos} (ho : Ex X W o fo) (he : Ex X W e fe) (hs : starEach [e] X.env = [(false, eval e X.env)] := by rfl) (hbase : attributeBase o "join" X.env (eval o X.env) = eval o X.env := by rfl) (hline : (apos.endLine == pos.line) = true := by rfl) :
    Ex X W (.Call (.Attribute o "join" apos) [e] [] pos) (glueD fo fe) := ex_join ho he hs hbase hline
theorem Fx.upper (C : Fx X W k T) {o : Expr} {fo : En → Hl → R Val} {apos pos : Pos} (ho : Ex X W o fo) (hbase : attributeBase o "upper" X.env (eval o X.env) = eval o X.env := by rfl) (hline : (apos.endLine == pos.line) = true := by rfl) :
    Ex X W (.Call (.Attribute o "upper" apos) [] [] pos) (upperD fo) := ex_upper ho hbase hline
theorem Fx.dvals (C : Fx X W k T) (i j : Nat) {dn wn : Str} {p1 p2 p3 p4 p5 : Pos} {scope : Scope} {pos : Pos} (ok : BlkOk X.N X.env.scope scope [(wn, j)])
    (hg : ∀ (s : Shared) (H : Hp) (c : Addr) (cl : List (Str × Addr)) (fp : List Addr), Fx (X.blk s H scope (compEnvC scope cl c X.env) fp) W0 k T → PG (X.blk s H scope (compEnvC scope cl c X.env) fp) (.Name wn p4) (gName j))
    (he : ∀ (s : Shared) (H : Hp) (c : Addr) (cl : List (Str × Addr)) (fp : List Addr), PE (X.blk s H scope (compEnvC scope cl c X.env) fp) (.Name dn p1) (tVar i) ∧ PE (X.blk s H scope (compEnvC scope cl c X.env) fp) (.Name wn p2) (tVar j))
    (hi : X.N[i]? = some dn := by rfl) (hv : Vis X.env.scope dn := by first | exact Or.inl rfl | exact Or.inr (Or.inl rfl) | exact Or.inr (Or.inr rfl)) (hd : (dn == ("__debug__" : Str)) = false := by decide)
    (hcd : (dn == ("__classdict__" : Str)) = false := by decide) (hs : ∀ x, foldedSetIterable (.Name dn p5) X.env x = pure x := by exact fun _ => rfl) :
    Lx X W (.ListComp (.Subscript (.Name dn p1) (.Name wn p2) p3) [⟨.Name wn p4, .Name dn p5, [], 0⟩] scope pos) (dvalsD i j) :=
  lx_dvals C.calm C.nd (pe_var hi hv hd hcd) ok rfl (fun s H c cl fp => hg s H c cl fp (C.blk s H scope _ fp)) (fun s H c cl fp => pe_dget (show X.A.units + 1 < cLine by have := C.hu; omega) (he s H c cl fp).1 (he s H c cl fp).2 (fun _ _ => rfl)) hs
theorem pe_v2 {X : Cx} (i : Nat) {x : Str} {pos : Pos} (hN : X.N[i]? = some x := by rfl) (hv : Vis X.env.scope x := by first | exact Or.inl rfl | exact Or.inr (Or.inl rfl) | exact Or.inr (Or.inr rfl)) (hd : (x == ("__debug__" : Str)) = false := by decide)
    (hcd : (x == ("__classdict__" : Str)) = false := by decide) : PE X (.Name x pos) (tVar i) := pe_var hN hv hd hcd
end

/-! reckoning -/
section
variable {κ : Val → Hl → Prop} {κl : List PyData → Hl → Prop} {ε : Exc → Hl → Prop} {ρ : En} {h : Hl}
theorem wpR_noEx {α : Type} {r : R α} {κ : α → Hl → Prop} {ε : Exc → Hl → Prop} : wpR (noEx r) κ ε = wpR r κ (fun _ _ => False) := by
  cases r <;> rfl
theorem wpR_opR {α β : Type} {o : Option α} {f : α → R β} {κ : β → Hl → Prop} : wpR (opR o f) κ ε = optK o fun a => wpR (f a) κ ε := by
  cases o <;> rfl
theorem w_disp {fk fv : En → Hl → R Val} : wpR (dispD fk fv ρ h) κ ε = wpR (fk ρ h) (fun a h1 => optK (keyV a) fun key => wpR (fv ρ h1) (fun b h2 => optK (datV b) fun d => κ (.ref h2.length) (h2 ++ [some (.dct [(key, d)])])) (fun _ _ => False)) (fun _ _ => False) := by
  unfold dispD
  rw [wpR_bind, wpR_noEx]
  congr 1
  funext a h1
  rw [wpR_opR]
  congr 1
  funext key
  rw [wpR_bind, wpR_noEx]
  congr 1
  funext b h2
  rw [wpR_opR]
  rfl
theorem w_din {neg : Bool} {fy fd : En → Hl → R Val} : wpR (dinD neg fy fd ρ h) κ ε = wpR (fy ρ h) (fun y h1 => optK (keyV y) fun key => wpR (fd ρ h1) (fun d h2 => optK (dctV h2 d) fun kvs => κ (.dat (.bool (xor neg (getP kvs key).isSome))) h2) ε) ε := by
  unfold dinD
  rw [wpR_bind]
  congr 1
  funext a h1
  rw [wpR_opR]
  congr 1
  funext key
  rw [wpR_bind]
  congr 1
  funext b h2
  rw [wpR_opR]
  rfl
theorem w_dget {fd fy : En → Hl → R Val} : wpR (dgetD fd fy ρ h) κ ε = wpR (fd ρ h) (fun d h1 => wpR (fy ρ h1) (fun y h2 => optK (keyV y) fun key => optK (dctV h2 d) fun kvs => optK (getP kvs key) fun v => κ (.dat v) h2) ε) ε := by
  unfold dgetD
  rw [wpR_bind]
  congr 1
  funext a h1
  rw [wpR_bind]
  congr 1
  funext b h2
  rw [wpR_opR]
  congr 1
  funext key
  rw [wpR_opR]
  congr 1
  funext kvs
  rw [wpR_opR]
  rfl
def one1 (vs : List Val) (k : Val → Prop) : Prop := match vs with
  | [v] => k v
  | _ => False
theorem one1_v {v : Val} {k : Val → Prop} : one1 [v] k = k v := rfl
theorem w_dlen {fa : En → Hl → R (List Val)} : wpR (dlenD fa ρ h) κ ε = wpR (fa ρ h) (fun vs h1 => one1 vs fun v => optK (dctV h1 v) fun kvs => κ (.dat (.int kvs.length)) h1) ε := by
  unfold dlenD
  rw [wpR_bind]
  congr 1
  funext vs h1
  match vs with
  | [] => rfl
  | [v] => dsimp only; rw [wpR_opR]; rfl
  | _ :: _ :: _ => rfl
theorem w_glue {fo fe : En → Hl → R Val} : wpR (glueD fo fe ρ h) κ ε = wpR (fo ρ h) (fun a h1 => optK (strV a) fun x => wpR (fe ρ h1) (fun b h2 => optK (((peek b h2).bind seqOf).bind txsOf) fun ys => (ys.map (·.length)).sum + ys.length * x.length ≤ 16777216 ∧ κ (.dat (.str (Txt.join x ys))) h2) ε) ε := by
  unfold glueD
  rw [wpR_bind]
  congr 1
  funext a h1
  rw [wpR_opR]
  congr 1
  funext x
  rw [wpR_bind]
  congr 1
  funext b h2
  rw [wpR_opR]
  congr 1
  funext ys
  by_cases q : (ys.map (·.length)).sum + ys.length * x.length ≤ 16777216
  · rw [if_pos q]; simp only [q, true_and]; rfl
  · rw [if_neg q]; simp only [q, false_and]; rfl
theorem w_upperD {fo : En → Hl → R Val} : wpR (upperD fo ρ h) κ ε = wpR (fo ρ h) (fun a h1 => optK (strV a) fun x => x.length ≤ 5592405 ∧ κ (.dat (.str (Txt.upper x))) h1) ε := by
  unfold upperD
  rw [wpR_bind]
  congr 1
  funext a h1
  rw [wpR_opR]
  congr 1
  funext x
  by_cases q : x.length ≤ 5592405
  · rw [if_pos q]; simp only [q, true_and]; rfl
  · rw [if_neg q]; simp only [q, false_and]; rfl
theorem w_dvals {i j : Nat} : wpR (dvalsD i j ρ h) κl ε = optK ((ρ[i]?).join.bind (dctV h)) fun kvs => (kvs.length ≤ sizeLine ∧ i ≠ j ∧ j < ρ.length) ∧ κl (valsP kvs) h := by
  unfold dvalsD
  rw [wpR_opR]
  congr 1
  funext kvs
  by_cases q : kvs.length ≤ sizeLine ∧ i ≠ j ∧ j < ρ.length
  · rw [if_pos q]; exact propext ⟨fun z => ⟨q, z⟩, fun z => z.2⟩
  · rw [if_neg q]; exact propext ⟨fun z => z.elim, fun z => q z.1⟩
theorem wpS_opS {α : Type} {o : Option α} {f : α → SR} {N : En → Hl → Prop} {C : Ctl} : wpS (opS o f) N C = optK o fun a => wpS (f a) N C := by
  cases o <;> rfl
theorem s_dput {fe fd fy : En → Hl → R Val} {N : En → Hl → Prop} {C : Ctl} : wpS (dputS fe fd fy ρ h) N C = wpR (fe ρ h) (fun v h1 => wpR (fd ρ h1) (fun d h2 => wpR (fy ρ h2) (fun y h3 => optK (datV v) fun vd => optK (refOf d) fun k => optK (dctAt h3 k) fun kvs => optK (keyV y) fun key =>
    kvs.length < sizeLine ∧ N ρ (h3.set k (some (.dct (putP kvs key vd))))) (fun e h' => C.ex e ρ h')) (fun e h' => C.ex e ρ h')) (fun e h' => C.ex e ρ h') := by
  unfold dputS
  rw [s_ofR]
  congr 1
  funext v h1
  rw [s_ofR]
  congr 1
  funext d h2
  rw [s_ofR]
  congr 1
  funext y h3
  rw [wpS_opS]
  congr 1
  funext vd
  rw [wpS_opS]
  congr 1
  funext k
  rw [wpS_opS]
  congr 1
  funext kvs
  rw [wpS_opS]
  congr 1
  funext key
  by_cases q : kvs.length < sizeLine
  · rw [if_pos q]; simp only [q, true_and]; rfl
  · rw [if_neg q]; simp only [q, false_and]; rfl
theorem keyV_i {i : Int} : keyV (.dat (.int i)) = some (.inl i) := rfl
theorem keyV_s {i : Str} : keyV (.dat (.str i)) = some (.inr i) := rfl
theorem datV_d {d : PyData} : datV (.dat d) = some d := rfl
theorem strV_s {x : Str} : strV (.dat (.str x)) = some x := rfl
theorem refOf_r {k : Nat} : refOf (.ref k) = some k := rfl
theorem dctV_r {k : Nat} {h : Hl} : dctV h (.ref k) = dctAt h k := rfl
theorem dct_z {ds : List (Key × PyData)} {h : Hl} : dctAt (some (.dct ds) :: h) 0 = some ds := rfl
theorem dct_s {k : Nat} {o : Option HObj} {h : Hl} : dctAt (o :: h) (k + 1) = dctAt h k := rfl
theorem xor_tr {b : Bool} : xor true b = !b := by cases b <;> rfl
theorem xor_fl {b : Bool} : xor false b = b := by cases b <;> rfl
theorem seqOf_l {ds : List PyData} : seqOf (.list ds) = some ds := rfl
theorem seqOf_t {ds : List PyData} : seqOf (.tuple ds) = some ds := rfl
end
end Dn
end

section
open PySem PySem.Spec PyProof.Rows L2 Dn
namespace Pg
def tx (i : Nat) : Stmt := PySem.Challenge.pw_bestiary_k00_concepts_checked.main.body.getD i (.Pass ⟨0, 0, 0, 0⟩)
abbrev i_is_name : Nat := 0
abbrev i_measured : Nat := 1
abbrev i_rising : Nat := 2
abbrev i_well_formed : Nat := 3
abbrev i_check_concept : Nat := 4
abbrev i_size : Nat := 5
abbrev i_depth : Nat := 6
abbrev i__law_same : Nat := 7
abbrev i__law_stream : Nat := 8
abbrev i__law_next : Nat := 9
abbrev i__law_word : Nat := 10
abbrev i__law_texts : Nat := 11
abbrev i__law_concept : Nat := 12
abbrev i__law_measure : Nat := 13
abbrev i__law_told : Nat := 14
abbrev i__law_all : Nat := 15
abbrev i__law_bad_word : Nat := 16
abbrev i__law_spoilt : Nat := 17
abbrev i__law_chain : Nat := 18
abbrev i__law_many : Nat := 19
abbrev i__law_large : Nat := 20
abbrev i__law_names : Nat := 21
abbrev i_law : Nat := 22
/-! what each def computes -/
def D_is_name (call : Nat → LFn) : En → Hl → SR :=
  (seqS (ifS (orT (tstD (binD ltD (bcD lenD (consD (varD 0) nilD)) (cD (.int 1)))) (orT (tstD (binD gtD (bcD lenD (consD (varD 0) nilD)) (cD (.int 12)))) (orT (tstD (binD eqD (varD 0) (cD (.str "any")))) (tstD (binD (inSq true) (binD ixD (varD 0) (cD (.int 0))) (cD (.str "abcdefghijklmnopqrstuvwxyz")))))))
  (seqS (retS (cD (.bool false)))
  nilS)
  nilS)
  (seqS (retS (bcD allD (consD (asD (compD (seqD (varD 0)) [1] (.nm 1) yesD (binD (inSq false) (varD 1) (cD (.str "abcdefghijklmnopqrstuvwxyz0123456789"))))) nilD)))
  nilS))
def D_measured (call : Nat → LFn) : En → Hl → SR :=
  (seqS (setS 1 (bcD lenD (consD (binD ixD (varD 0) (cD (.int 0))) nilD)))
  (seqS (setS 2 (cD (.int 0)))
  (seqS (forS (seqD (binD ixD (varD 0) (cD (.int 1)))) (.tp [(.nm 3), (.nm 4)])
  (seqS (unpS (.tp [(.nm 5), (.nm 6)]) (callE (call i_measured) (consD (varD 4) nilD)))
  (seqS (augS 1 iaddD (binD addD (cD (.int 1)) (varD 5)))
  (seqS (setS 2 (bcD max2D (consD (varD 2) (consD (binD addD (cD (.int 1)) (varD 6)) nilD))))
  nilS))))
  (seqS (retS (tupD (consD (varD 1) (consD (varD 2) nilD))))
  nilS))))
def D_rising (call : Nat → LFn) : En → Hl → SR :=
  (seqS (retS (bcD allD (consD (asD (compD (rng1D (consD (binD subD (bcD lenD (consD (varD 0) nilD)) (cD (.int 1))) nilD)) [1] (.nm 1) yesD (binD ltD (binD ixD (varD 0) (varD 1)) (binD ixD (varD 0) (binD addD (varD 1) (cD (.int 1))))))) nilD)))
  nilS)
def D_well_formed (call : Nat → LFn) : En → Hl → SR :=
  (seqS (unpS (.tp [(.nm 1), (.nm 2)]) (varD 0))
  (seqS (ifS (orT (notT (tstD (bcD allD (consD (asD (compD (seqD (varD 1)) [5] (.nm 5) yesD (callE (call i_is_name) (consD (varD 5) nilD)))) nilD)))) (notT (tstD (callE (call i_rising) (consD (varD 1) nilD)))))
  (seqS (retS (cD (.bool false)))
  nilS)
  nilS)
  (seqS (forS (seqD (varD 2)) (.tp [(.nm 3), (.nm 4)])
  (seqS (ifS (orT (notT (tstD (callE (call i_is_name) (consD (varD 3) nilD)))) (notT (tstD (callE (call i_well_formed) (consD (varD 4) nilD)))))
  (seqS (retS (cD (.bool false)))
  nilS)
  nilS)
  nilS))
  (seqS (retS (callE (call i_rising) (consD (varD 2) nilD)))
  nilS))))
def D_check_concept (call : Nat → LFn) : En → Hl → SR :=
  (seqS (unpS (.tp [(.nm 1), (.nm 2)]) (callE (call i_measured) (consD (varD 0) nilD)))
  (seqS (ifS (orT (tstD (binD gtD (varD 1) (cD (.int 200)))) (tstD (binD gtD (varD 2) (cD (.int 12)))))
  (seqS (raiseS "TooLarge")
  nilS)
  nilS)
  (seqS (ifS (notT (tstD (callE (call i_well_formed) (consD (varD 0) nilD))))
  (seqS (raiseS "NotAllowed")
  nilS)
  nilS)
  (seqS (retS (cD .none))
  nilS))))
def D_size (call : Nat → LFn) : En → Hl → SR :=
  (seqS (exprS (callE (call i_check_concept) (consD (varD 0) nilD)))
  (seqS (retS (binD ixD (callE (call i_measured) (consD (varD 0) nilD)) (cD (.int 0))))
  nilS))
def D_depth (call : Nat → LFn) : En → Hl → SR :=
  (seqS (exprS (callE (call i_check_concept) (consD (varD 0) nilD)))
  (seqS (retS (binD ixD (callE (call i_measured) (consD (varD 0) nilD)) (cD (.int 1))))
  nilS))
def D__law_same (call : Nat → LFn) : En → Hl → SR :=
  (seqS (retS (binD eqD (bcD reprD (consD (asD (lstD (consD (varD 0) nilD))) nilD)) (bcD reprD (consD (asD (lstD (consD (varD 1) nilD))) nilD))))
  nilS)
def D__law_stream (call : Nat → LFn) : En → Hl → SR :=
  (seqS (newL 1 (lstD nilD))
  (seqS (forS (seqD (sliceD (varD 0) noD (someD (cD (.int 63))))) (.nm 2)
  (seqS (setS 3 (bcD absD (consD (bcD intD (consD (varD 2) nilD)) nilD)))
  (seqS (ifS (tstD (binD geD (varD 3) (binD powD (cD (.int 10)) (cD (.int 18)))))
  (seqS (forS (rng1D (consD (cD (.int 60)) nilD)) (.nm 4)
  (seqS (exprS (appD (varD 1) (consD (binD modD (bcD intD (consD (varD 3) nilD)) (cD (.int 1009))) nilD)))
  (seqS (setS 3 (binD divD (varD 3) (cD (.int 1009))))
  (seqS (ifS (tstD (binD eqD (varD 3) (cD (.int 0))))
  (seqS brkS
  nilS)
  nilS)
  nilS))))
  nilS)
  (seqS (setS 5 (binD modD (bcD intD (consD (varD 3) nilD)) (cD (.int 2147483647))))
  (seqS (forS (rng1D (consD (cD (.int 10)) nilD)) (.nm 4)
  (seqS (setS 5 (binD modD (bcD intD (consD (binD addD (binD addD (binD mulI (varD 5) (cD (.int 48271))) (binD mulI (cD (.int 7)) (varD 4))) (cD (.int 11))) nilD)) (cD (.int 2147483647))))
  (seqS (exprS (appD (varD 1) (consD (binD modD (binD modD (bcD intD (consD (binD addD (binD mulI (varD 5) (cD (.int 69621))) (varD 4)) nilD)) (cD (.int 2147483629))) (cD (.int 1009))) nilD)))
  nilS)))
  nilS)))
  nilS)))
  (seqS (ifS (tstD (binD eqD (bcD lenD (consD (varD 1) nilD)) (cD (.int 0))))
  (seqS (exprS (appD (varD 1) (consD (cD (.int 0)) nilD)))
  nilS)
  nilS)
  (seqS (retS (varD 1))
  nilS))))
def D__law_next (call : Nat → LFn) : En → Hl → SR :=
  (seqS (sixS (binD addD (binD ixD (varD 0) (cD (.int 1))) (cD (.int 1))) (varD 0) (cD (.int 1)))
  (seqS (setS 2 (binD divD (binD ixD (varD 0) (cD (.int 1))) (bcD lenD (consD (binD ixD (varD 0) (cD (.int 0))) nilD))))
  (seqS (retS (binD modD (bcD intD (consD (binD addD (binD addD (binD ixD (binD ixD (varD 0) (cD (.int 0))) (binD modD (binD ixD (varD 0) (cD (.int 1))) (bcD lenD (consD (binD ixD (varD 0) (cD (.int 0))) nilD)))) (binD mulI (varD 2) (cD (.int 389)))) (binD mulI (binD mulI (binD ixD (varD 0) (cD (.int 1))) (varD 2)) (cD (.int 17)))) nilD)) (varD 1)))
  nilS)))
def D__law_word (call : Nat → LFn) : En → Hl → SR :=
  (seqS (setS 1 (cD (.str "abcdefghijklmnopqrstuvwxyz")))
  (seqS (setS 2 (binD ixD (varD 1) (callE (call i__law_next) (consD (varD 0) (consD (cD (.int 26)) nilD)))))
  (seqS (forS (rng1D (consD (binD ixD (asD (lstD (consD (cD (.int 0)) (consD (cD (.int 1)) (consD (cD (.int 3)) (consD (cD (.int 11)) nilD)))))) (callE (call i__law_next) (consD (varD 0) (consD (cD (.int 4)) nilD)))) nilD)) (.nm 3)
  (seqS (setS 2 (binD addD (varD 2) (binD ixD (binD addD (varD 1) (cD (.str "0123456789"))) (callE (call i__law_next) (consD (varD 0) (consD (cD (.int 36)) nilD))))))
  nilS))
  (seqS (retS (varD 2))
  nilS))))
def D__law_texts (call : Nat → LFn) : En → Hl → SR :=
  (seqS (newL 2 (lstD nilD))
  (seqS (forS (rng1D (consD (varD 1) nilD)) (.nm 3)
  (seqS (setS 4 (callE (call i__law_word) (consD (varD 0) nilD)))
  (seqS (ifS (orT (tstD (binD (inSq false) (varD 4) (varD 2))) (tstD (binD eqD (varD 4) (cD (.str "any")))))
  (seqS (setS 4 (binD addD (binD addD (sliceD (varD 4) noD (someD (cD (.int 8)))) (cD (.str "q"))) (bcD strD (consD (varD 3) nilD))))
  nilS)
  nilS)
  (seqS (ifS (tstD (binD (inSq true) (varD 4) (varD 2)))
  (seqS (exprS (appD (varD 2) (consD (varD 4) nilD)))
  nilS)
  nilS)
  nilS))))
  (seqS (retS (bcD tupleD (consD (asD (lcD sortedD (consD (varD 2) nilD))) nilD)))
  nilS)))
def D__law_concept (call : Nat → LFn) : En → Hl → SR :=
  (seqS (setL 4 (compD (seqD (binD ixD (varD 1) (cD (.int 0)))) [9] (.nm 9) (tstD (binD eqD (callE (call i__law_next) (consD (varD 0) (consD (cD (.int 3)) nilD))) (cD (.int 0)))) (varD 9)))
  (seqS (newL 5 (lstD nilD))
  (seqS (ifS (andT (tstD (binD gtD (varD 2) (cD (.int 0)))) (tstD (binD gtD (bcD lenD (consD (binD ixD (varD 1) (cD (.int 1))) nilD)) (cD (.int 0)))))
  (seqS (forS (rng1D (consD (callE (call i__law_next) (consD (varD 0) (consD (binD addD (varD 3) (cD (.int 1))) nilD))) nilD)) (.nm 6)
  (seqS (setS 7 (binD ixD (binD ixD (varD 1) (cD (.int 1))) (callE (call i__law_next) (consD (varD 0) (consD (bcD lenD (consD (binD ixD (varD 1) (cD (.int 1))) nilD)) nilD)))))
  (seqS (setS 8 (tupD (consD (varD 7) (consD (callE (call i__law_concept) (consD (varD 0) (consD (varD 1) (consD (binD subD (varD 2) (cD (.int 1))) (consD (varD 3) nilD))))) nilD))))
  (seqS (ifS (tstD (binD (inSq true) (varD 8) (varD 5)))
  (seqS (exprS (appD (varD 5) (consD (varD 8) nilD)))
  nilS)
  nilS)
  nilS))))
  nilS)
  nilS)
  (seqS (retS (tupD (consD (bcD tupleD (consD (varD 4) nilD)) (consD (bcD tupleD (consD (asD (lcD sortedD (consD (varD 5) nilD))) nilD)) nilD))))
  nilS))))
def D__law_measure (call : Nat → LFn) : En → Hl → SR :=
  (seqS (setS 1 (bcD lenD (consD (binD ixD (varD 0) (cD (.int 0))) nilD)))
  (seqS (setS 2 (cD (.int 0)))
  (seqS (forS (seqD (binD ixD (varD 0) (cD (.int 1)))) (.tp [(.nm 3), (.nm 4)])
  (seqS (setS 5 (callE (call i__law_measure) (consD (varD 4) nilD)))
  (seqS (setS 1 (binD addD (binD addD (varD 1) (cD (.int 1))) (binD ixD (varD 5) (cD (.int 0)))))
  (seqS (setS 2 (bcD max2D (consD (varD 2) (consD (binD addD (cD (.int 1)) (binD ixD (varD 5) (cD (.int 1)))) nilD))))
  nilS))))
  (seqS (retS (tupD (consD (varD 1) (consD (varD 2) nilD))))
  nilS))))
def D__law_told (call : Nat → LFn) : En → Hl → SR :=
  (seqS (tryErr 2
  (seqS (retS (tupD (consD (cD (.str "told")) (consD (callI [call i_check_concept, call i_size, call i_depth] (varD 0) (consD (varD 1) nilD)) nilD))))
  nilS))
  nilS)
def D__law_all (call : Nat → LFn) : En → Hl → SR :=
  (seqS (retS (asD (compD (rng1D (consD (cD (.int 3)) nilD)) [1] (.nm 1) yesD (callE (call i__law_told) (consD (varD 1) (consD (varD 0) nilD))))))
  nilS)
def D__law_bad_word (call : Nat → LFn) : En → Hl → SR :=
  (seqS (setS 1 (callE (call i__law_word) (consD (varD 0) nilD)))
  (seqS (setL 2 (lstD (consD (cD (.str "")) (consD (cD (.str "any")) (consD (cD (.str "abcdefghijklm")) (consD (binD addD (cD (.str "7")) (sliceD (varD 1) noD (someD (cD (.int 5))))) (consD (upperD (sliceD (varD 1) noD (someD (cD (.int 4))))) (consD (binD addD (sliceD (varD 1) noD (someD (cD (.int 4)))) (cD (.str "_"))) (consD (binD addD (sliceD (varD 1) noD (someD (cD (.int 3)))) (cD (.str " b"))) (consD (binD addD (sliceD (varD 1) noD (someD (cD (.int 3)))) (cD (.str "."))) (consD (cD (.str "a-b")) (consD (binD addD (sliceD (varD 1) noD (someD (cD (.int 5)))) (cD (.str "E"))) nilD))))))))))))
  (seqS (retS (binD ixD (varD 2) (callE (call i__law_next) (consD (varD 0) (consD (cD (.int 10)) nilD)))))
  nilS)))
def D__law_spoilt (call : Nat → LFn) : En → Hl → SR :=
  (seqS (setS 2 (callE (call i__law_bad_word) (consD (varD 0) nilD)))
  (seqS (setS 3 (binD ixD (varD 1) (cD (.int 0))))
  (seqS (setS 4 (callE (call i__law_concept) (consD (varD 0) (consD (varD 1) (consD (cD (.int 1)) (consD (cD (.int 2)) nilD))))))
  (seqS (setS 5 (binD ixD (binD ixD (varD 1) (cD (.int 1))) (cD (.int 0))))
  (seqS (newL 6 (lstD (consD (tupD (consD (tupD (consD (varD 2) nilD)) (consD (tupD nilD) nilD))) (consD (tupD (consD (tupD nilD) (consD (tupD (consD (tupD (consD (varD 2) (consD (varD 4) nilD))) nilD)) nilD))) (consD (tupD (consD (backD (varD 3) (someD (unD negD (cD (.int 1))))) (consD (tupD nilD) nilD))) (consD (tupD (consD (binD addD (varD 3) (sliceD (varD 3) (someD (unD negD (cD (.int 1)))) noD)) (consD (tupD nilD) nilD))) (consD (tupD (consD (tupD (consD (binD ixD (varD 3) (cD (.int 0))) (consD (binD ixD (varD 3) (cD (.int 0))) nilD))) (consD (tupD nilD) nilD))) nilD)))))))
  (seqS (exprS (appD (varD 6) (consD (tupD (consD (tupD nilD) (consD (tupD (consD (tupD (consD (varD 5) (consD (varD 4) nilD))) (consD (tupD (consD (varD 5) (consD (varD 4) nilD))) nilD))) nilD))) nilD)))
  (seqS (exprS (appD (varD 6) (consD (tupD (consD (tupD nilD) (consD (tupD (consD (tupD (consD (binD ixD (binD ixD (varD 1) (cD (.int 1))) (unD negD (cD (.int 1)))) (consD (varD 4) nilD))) (consD (tupD (consD (varD 5) (consD (varD 4) nilD))) nilD))) nilD))) nilD)))
  (seqS (exprS (appD (varD 6) (consD (tupD (consD (tupD nilD) (consD (tupD (consD (tupD (consD (varD 5) (consD (tupD (consD (tupD (consD (binD ixD (varD 3) (cD (.int 0))) nilD)) (consD (tupD nilD) nilD))) nilD))) (consD (tupD (consD (varD 5) (consD (tupD (consD (tupD nilD) (consD (tupD nilD) nilD))) nilD))) nilD))) nilD))) nilD)))
  (seqS (setS 7 (callE (call i__law_next) (consD (varD 0) (consD (cD (.int 8)) nilD))))
  (seqS (setS 8 (binD ixD (varD 6) (varD 7)))
  (seqS (forS (rng1D (consD (callE (call i__law_next) (consD (varD 0) (consD (cD (.int 3)) nilD))) nilD)) (.nm 9)
  (seqS (setS 8 (tupD (consD (sliceD (varD 3) noD (someD (cD (.int 1)))) (consD (tupD (consD (tupD (consD (varD 5) (consD (varD 8) nilD))) nilD)) nilD))))
  nilS))
  (seqS (retS (varD 8))
  nilS))))))))))))
def D__law_chain (call : Nat → LFn) : En → Hl → SR :=
  (seqS (setS 2 (tupD (consD (sliceD (binD ixD (varD 0) (cD (.int 0))) noD (someD (cD (.int 1)))) (consD (tupD nilD) nilD))))
  (seqS (forS (rng1D (consD (varD 1) nilD)) (.nm 3)
  (seqS (setS 2 (tupD (consD (tupD nilD) (consD (tupD (consD (tupD (consD (binD ixD (binD ixD (varD 0) (cD (.int 1))) (cD (.int 0))) (consD (varD 2) nilD))) nilD)) nilD))))
  nilS))
  (seqS (retS (varD 2))
  nilS)))
def D__law_many (call : Nat → LFn) : En → Hl → SR :=
  (seqS (setS 2 (sliceD (callE (call i__law_word) (consD (varD 0) nilD)) noD (someD (cD (.int 6)))))
  (seqS (setL 3 (lcD sortedD (consD (asD (compD (rng1D (consD (varD 1) nilD)) [4] (.nm 4) yesD (binD addD (binD addD (varD 2) (cD (.str "x"))) (bcD strD (consD (binD addD (cD (.int 1000)) (varD 4)) nilD))))) nilD)))
  (seqS (retS (bcD tupleD (consD (varD 3) nilD)))
  nilS)))
def D__law_large (call : Nat → LFn) : En → Hl → SR :=
  (seqS (setS 2 (binD addD (cD (.int 190)) (callE (call i__law_next) (consD (varD 0) (consD (cD (.int 11)) nilD)))))
  (seqS (setS 3 (binD subD (cD (.int 200)) (varD 2)))
  (seqS (setS 4 (tupD (consD (tupD nilD) (consD (tupD nilD) nilD))))
  (seqS (setS 5 (callE (call i__law_many) (consD (varD 0) (consD (varD 2) nilD))))
  (seqS (setS 6 (bcD tupleD (consD (asD (compD (seqD (sliceD (cD (.str "abcdefghij")) noD (someD (varD 3)))) [7] (.nm 7) yesD (tupD (consD (binD addD (binD addD (binD ixD (binD ixD (varD 1) (cD (.int 1))) (cD (.int 0))) (cD (.str "p"))) (varD 7)) (consD (varD 4) nilD))))) nilD)))
  (seqS (ifS (tstD (binD gtD (bcD lenD (consD (binD ixD (binD ixD (varD 1) (cD (.int 1))) (cD (.int 0))) nilD)) (cD (.int 9))))
  (seqS (setS 6 (bcD tupleD (consD (asD (compD (seqD (sliceD (cD (.str "abcdefghij")) noD (someD (varD 3)))) [7] (.nm 7) yesD (tupD (consD (binD addD (cD (.str "p")) (varD 7)) (consD (varD 4) nilD))))) nilD)))
  nilS)
  nilS)
  (seqS (retS (asD (lstD (consD (tupD (consD (varD 5) (consD (varD 6) nilD))) (consD (tupD (consD (bcD tupleD (consD (asD (lcD sortedD (consD (binD addD (varD 5) (tupD (consD (cD (.str "zzz")) nilD))) nilD))) nilD)) (consD (varD 6) nilD))) (consD (tupD (consD (binD addD (backD (varD 5) (someD (unD negD (cD (.int 1))))) (tupD (consD (cD (.str "zzz")) nilD))) (consD (varD 6) nilD))) nilD))))))
  nilS)))))))
def D__law_names (call : Nat → LFn) : En → Hl → SR :=
  (seqS (setS 1 (callE (call i__law_word) (consD (varD 0) nilD)))
  (seqS (ifS (tstD (binD eqD (varD 1) (cD (.str "any"))))
  (seqS (setS 1 (cD (.str "anyy")))
  nilS)
  nilS)
  (seqS (setL 2 (lstD (consD (callE (call i_is_name) (consD (varD 1) nilD)) (consD (callE (call i_is_name) (consD (callE (call i__law_bad_word) (consD (varD 0) nilD)) nilD)) (consD (callE (call i_is_name) (consD (cD (.str "abcdefghijkl")) nilD)) (consD (callE (call i_is_name) (consD (cD (.str "z")) nilD)) (consD (callE (call i_is_name) (consD (cD (.str "any1")) nilD)) (consD (callE (call i_is_name) (consD (cD (.str "Any")) nilD)) nilD))))))))
  (seqS (retS (callE (call i__law_same) (consD (varD 2) (consD (asD (lstD (consD (cD (.bool true)) (consD (cD (.bool false)) (consD (cD (.bool true)) (consD (cD (.bool true)) (consD (cD (.bool true)) (consD (cD (.bool false)) nilD)))))))) nilD))))
  nilS))))
def D_law (call : Nat → LFn) : En → Hl → SR :=
  (seqS (newL 1 (lstD (consD (callE (call i__law_stream) (consD (varD 0) nilD)) (consD (cD (.int 0)) nilD))))
  (seqS (ifS (notT (tstD (callE (call i__law_same) (consD (asD (lstD (consD (cD (.tuple [(.tuple []), (.tuple [])])) (consD (cD (.int 12)) (consD (cD (.int 2000)) (consD (cD (.int 200)) nilD)))))) (consD (asD (lstD (consD (tupD (consD (tupD nilD) (consD (tupD nilD) nilD))) (consD (cD (.int 12)) (consD (cD (.int 2000)) (consD (cD (.int 200)) nilD)))))) nilD)))))
  (seqS (retS (cD (.bool false)))
  nilS)
  nilS)
  (seqS (forS (rng1D (consD (cD (.int 4)) nilD)) (.nm 2)
  (seqS (setS 3 (tupD (consD (callE (call i__law_texts) (consD (varD 1) (consD (cD (.int 5)) nilD))) (consD (callE (call i__law_texts) (consD (varD 1) (consD (cD (.int 3)) nilD))) nilD))))
  (seqS (ifS (orT (tstD (binD ltD (bcD lenD (consD (binD ixD (varD 3) (cD (.int 0))) nilD)) (cD (.int 2)))) (tstD (binD ltD (bcD lenD (consD (binD ixD (varD 3) (cD (.int 1))) nilD)) (cD (.int 2)))))
  (seqS (setS 3 (tupD (consD (tupD (consD (cD (.str "a")) (consD (cD (.str "b")) nilD))) (consD (tupD (consD (cD (.str "r")) (consD (cD (.str "s")) nilD))) nilD))))
  nilS)
  nilS)
  (seqS (setS 4 (callE (call i__law_concept) (consD (varD 1) (consD (varD 3) (consD (cD (.int 4)) (consD (cD (.int 3)) nilD))))))
  (seqS (unpS (.tp [(.nm 5), (.nm 6)]) (callE (call i__law_measure) (consD (varD 4) nilD)))
  (seqS (ifS (andT (tstD (binD leD (varD 5) (cD (.int 200)))) (notT (tstD (callE (call i__law_same) (consD (callE (call i__law_all) (consD (varD 4) nilD)) (consD (asD (lstD (consD (tupD (consD (cD (.str "told")) (consD (cD .none) nilD))) (consD (tupD (consD (cD (.str "told")) (consD (varD 5) nilD))) (consD (tupD (consD (cD (.str "told")) (consD (varD 6) nilD))) nilD))))) nilD))))))
  (seqS (retS (cD (.bool false)))
  nilS)
  nilS)
  (seqS (ifS (notT (tstD (callE (call i__law_same) (consD (callE (call i__law_all) (consD (callE (call i__law_spoilt) (consD (varD 1) (consD (varD 3) nilD))) nilD)) (consD (binD mulL (asD (lstD (consD (cD (.str "refused")) nilD))) (cD (.int 3))) nilD)))))
  (seqS (retS (cD (.bool false)))
  nilS)
  nilS)
  (seqS (ifS (notT (tstD (callE (call i__law_names) (consD (varD 1) nilD))))
  (seqS (retS (cD (.bool false)))
  nilS)
  nilS)
  nilS))))))))
  (seqS (setS 7 (callE (call i__law_large) (consD (varD 1) (consD (varD 3) nilD))))
  (seqS (ifS (notT (tstD (callE (call i__law_same) (consD (asD (compD (seqD (varD 7)) [9] (.nm 9) yesD (callE (call i__law_all) (consD (varD 9) nilD)))) (consD (asD (lstD (consD (asD (lstD (consD (tupD (consD (cD (.str "told")) (consD (cD .none) nilD))) (consD (tupD (consD (cD (.str "told")) (consD (cD (.int 200)) nilD))) (consD (tupD (consD (cD (.str "told")) (consD (binD subD (cD (.int 1)) (bcD intD (consD (binD eqD (bcD lenD (consD (binD ixD (binD ixD (varD 7) (cD (.int 0))) (cD (.int 1))) nilD)) (cD (.int 0))) nilD))) nilD))) nilD))))) (consD (binD mulL (asD (lstD (consD (cD (.str "large")) nilD))) (cD (.int 3))) (consD (binD mulL (asD (lstD (consD (cD (.str "large")) nilD))) (cD (.int 3))) nilD))))) nilD)))))
  (seqS (retS (cD (.bool false)))
  nilS)
  nilS)
  (seqS (setS 8 (callE (call i__law_chain) (consD (tupD (consD (tupD (consD (cD (.str "Bad")) nilD)) (consD (binD ixD (varD 3) (cD (.int 1))) nilD))) (consD (cD (.int 13)) nilD))))
  (seqS (retS (callE (call i__law_same) (consD (asD (lstD (consD (binD ixD (callE (call i__law_all) (consD (callE (call i__law_chain) (consD (varD 3) (consD (cD (.int 12)) nilD))) nilD)) (cD (.int 2))) (consD (callE (call i__law_all) (consD (callE (call i__law_chain) (consD (varD 3) (consD (cD (.int 13)) nilD))) nilD)) (consD (callE (call i__law_all) (consD (varD 8) nilD)) nilD))))) (consD (asD (lstD (consD (tupD (consD (cD (.str "told")) (consD (cD (.int 12)) nilD))) (consD (binD mulL (asD (lstD (consD (cD (.str "large")) nilD))) (cD (.int 3))) (consD (binD mulL (asD (lstD (consD (cD (.str "large")) nilD))) (cD (.int 3))) nilD))))) nilD))))
  nilS)))))))
def r_is_name : DefR := ⟨"is_name", "is_name", tx 14, ["text"], ["text", "sign"], D_is_name⟩
def r_measured : DefR := ⟨"measured", "measured", tx 15, ["concept"], ["concept", "many", "deep", "_", "inner", "size_of", "depth_of"], D_measured⟩
def r_rising : DefR := ⟨"rising", "rising", tx 16, ["row"], ["row", "k"], D_rising⟩
def r_well_formed : DefR := ⟨"well_formed", "well_formed", tx 17, ["concept"], ["concept", "names", "links", "role", "inner", "name"], D_well_formed⟩
def r_check_concept : DefR := ⟨"check_concept", "check_concept", tx 18, ["concept"], ["concept", "many", "deep"], D_check_concept⟩
def r_size : DefR := ⟨"size", "size", tx 19, ["concept"], ["concept"], D_size⟩
def r_depth : DefR := ⟨"depth", "depth", tx 20, ["concept"], ["concept"], D_depth⟩
def r__law_same : DefR := ⟨"_law_same", "_law_same", tx 22, ["told", "due"], ["told", "due"], D__law_same⟩
def r__law_stream : DefR := ⟨"_law_stream", "_law_stream", tx 23, ["script"], ["script", "numbers", "cell", "rest", "k", "stirred"], D__law_stream⟩
def r__law_next : DefR := ⟨"_law_next", "_law_next", tx 24, ["state", "many"], ["state", "many", "turn"], D__law_next⟩
def r__law_word : DefR := ⟨"_law_word", "_law_word", tx 26, ["state"], ["state", "letters", "word", "k"], D__law_word⟩
def r__law_texts : DefR := ⟨"_law_texts", "_law_texts", tx 27, ["state", "many"], ["state", "many", "found", "k", "word"], D__law_texts⟩
def r__law_concept : DefR := ⟨"_law_concept", "_law_concept", tx 28, ["state", "words", "deep", "wide"], ["state", "words", "deep", "wide", "names", "links", "k", "role", "link", "name"], D__law_concept⟩
def r__law_measure : DefR := ⟨"_law_measure", "_law_measure", tx 29, ["concept"], ["concept", "many", "deep", "role", "inner", "told"], D__law_measure⟩
def r__law_told : DefR := ⟨"_law_told", "_law_told", tx 30, ["kind", "concept"], ["kind", "concept", "e"], D__law_told⟩
def r__law_all : DefR := ⟨"_law_all", "_law_all", tx 31, ["concept"], ["concept", "kind"], D__law_all⟩
def r__law_bad_word : DefR := ⟨"_law_bad_word", "_law_bad_word", tx 32, ["state"], ["state", "word", "bad"], D__law_bad_word⟩
def r__law_spoilt : DefR := ⟨"_law_spoilt", "_law_spoilt", tx 33, ["state", "words"], ["state", "words", "word", "names", "inner", "role", "spoilt", "kind", "bad", "k"], D__law_spoilt⟩
def r__law_chain : DefR := ⟨"_law_chain", "_law_chain", tx 34, ["words", "deep"], ["words", "deep", "concept", "k"], D__law_chain⟩
def r__law_many : DefR := ⟨"_law_many", "_law_many", tx 35, ["state", "many"], ["state", "many", "word", "names", "k"], D__law_many⟩
def r__law_large : DefR := ⟨"_law_large", "_law_large", tx 36, ["state", "words"], ["state", "words", "many", "rest", "inner", "names", "links", "chr_of"], D__law_large⟩
def r__law_names : DefR := ⟨"_law_names", "_law_names", tx 37, ["state"], ["state", "good", "due"], D__law_names⟩
def r_law : DefR := ⟨"law", "law", tx 38, ["script"], ["script", "state", "turn", "words", "concept", "many", "deep", "large", "deeper", "one"], D_law⟩
abbrev bts : List Str := ["all", "len", "max", "range", "repr", "int", "abs", "sorted", "tuple", "str"]
abbrev cns : List (Str × PyData) := [("SIGNS", (.str "abcdefghijklmnopqrstuvwxyz0123456789")), ("FIRST", (.str "abcdefghijklmnopqrstuvwxyz")), ("MAX_SIZE", (.int 200)), ("MAX_DEPTH", (.int 12)), ("MAX_MADE", (.int 2000)), ("ANY", (.tuple [(.tuple []), (.tuple [])]))]
def prog : List DefR := [r_is_name, r_measured, r_rising, r_well_formed, r_check_concept, r_size, r_depth, r__law_same, r__law_stream, r__law_next, r__law_word, r__law_texts, r__law_concept, r__law_measure, r__law_told, r__law_all, r__law_bad_word, r__law_spoilt, r__law_chain, r__law_many, r__law_large, r__law_names, r_law]
def T (call : Nat → LFn) : Tab := ⟨[(("is_name" : Str), 1, call i_is_name), (("measured" : Str), 1, call i_measured), (("rising" : Str), 1, call i_rising), (("well_formed" : Str), 1, call i_well_formed), (("check_concept" : Str), 1, call i_check_concept), (("size" : Str), 1, call i_size), (("depth" : Str), 1, call i_depth), (("_law_same" : Str), 2, call i__law_same), (("_law_stream" : Str), 1, call i__law_stream), (("_law_next" : Str), 2, call i__law_next), (("_law_word" : Str), 1, call i__law_word), (("_law_texts" : Str), 2, call i__law_texts), (("_law_concept" : Str), 4, call i__law_concept), (("_law_measure" : Str), 1, call i__law_measure), (("_law_told" : Str), 2, call i__law_told), (("_law_all" : Str), 1, call i__law_all), (("_law_bad_word" : Str), 1, call i__law_bad_word), (("_law_spoilt" : Str), 2, call i__law_spoilt), (("_law_chain" : Str), 2, call i__law_chain), (("_law_many" : Str), 2, call i__law_many), (("_law_large" : Str), 2, call i__law_large), (("_law_names" : Str), 1, call i__law_names), (("law" : Str), 1, call i_law)], bts, cns, true⟩
/-! the text of each def does so -/
theorem b_is_name : BodyOk T r_is_name := fun P w K mg base k call f cdv A out s0 H E c0 =>
  show Sxs _ _ (defBody (tx 14)) (D_is_name call) from (sx_seq (sx_if (Wx.tx (wx_or (c0.tcmp (ok_lt c0.hu) (c0.bB 1 rfl ok_len (c0.ac (c0.v 0) ax_nil) bo_len) ex_int) (wx_or (c0.tcmp (ok_gt c0.hu) (c0.bB 1 rfl ok_len (c0.ac (c0.v 0) ax_nil) bo_len) ex_int) (wx_or (c0.tcmp (ok_eq c0.hu) (c0.v 0) ex_str) (wx_or1 (c0.tcmp (ok_notin0 c0.hu) (c0.ix (c0.v 0) ex_int) (c0.con 1 rfl)))))))
  (sx_seq (sx_ret ex_bl)
  sx_nil)
  sx_nil)
  (sx_seq (sx_ret (c0.bB 0 rfl (ok_all c0.calm) (c0.ac (lx_as (c0.lc (own := [("sign", 1)]) (show BlkOk r_is_name.N (defScope (tx 14)) _ [("sign", 1)] from ⟨rfl, by decide +kernel, by decide +kernel, by decide +kernel, by decide +kernel⟩) (ix_seqI (c0.v 0)) (fun _ _ _ _ _ c1 => (c1.gn 1)) (fun _ _ _ _ _ c1 => tsx_nil) (fun _ _ _ _ _ c1 => (c1.cmp (ok_in0 c1.hu) (c1.v 1) (c1.con 0 rfl))))) ax_nil) bo_all))
  sx_nil))
theorem b_measured : BodyOk T r_measured := fun P w K mg base k call f cdv A out s0 H E c0 =>
  show Sxs _ _ (defBody (tx 15)) (D_measured call) from (sx_seq (c0.set 1 (c0.bB 1 rfl ok_len (c0.ac (c0.ix (c0.v 0) ex_int) ax_nil) bo_len))
  (sx_seq (c0.set 2 ex_int)
  (sx_seq (sx_for c0.po c0.calm (ix_seqI (c0.ix (c0.v 0) ex_int)) (c0.gt (c0.gc (c0.gn 3) (c0.gc (c0.gn 4) c0.g0)))
  (sx_seq (c0.unp (c0.call i_measured rfl (c0.ac (c0.v 4) ax_nil)) (c0.gt (c0.gc (c0.gn 5) (c0.gc (c0.gn 6) c0.g0))))
  (sx_seq (c0.aug 1 ok_iadd (ex_op ok_add ex_int (c0.v 5)))
  (sx_seq (c0.set 2 (c0.bB 2 rfl (ok_max2 c0.calm) (c0.ac (c0.v 2) (c0.ac (ex_op ok_add ex_int (c0.v 6)) ax_nil)) bo_max))
  sx_nil))) (fun _ => rfl))
  (sx_seq (sx_ret (ex_tup (c0.ac (c0.v 1) (c0.ac (c0.v 2) ax_nil))))
  sx_nil))))
theorem b_rising : BodyOk T r_rising := fun P w K mg base k call f cdv A out s0 H E c0 =>
  show Sxs _ _ (defBody (tx 16)) (D_rising call) from (sx_seq (sx_ret (c0.bB 0 rfl (ok_all c0.calm) (c0.ac (lx_as (c0.lc (own := [("k", 1)]) (show BlkOk r_rising.N (defScope (tx 16)) _ [("k", 1)] from ⟨rfl, by decide +kernel, by decide +kernel, by decide +kernel, by decide +kernel⟩) (c0.rng1 3 rfl (c0.ac (ex_op ok_sub (c0.bB 1 rfl ok_len (c0.ac (c0.v 0) ax_nil) bo_len) ex_int) ax_nil)) (fun _ _ _ _ _ c1 => (c1.gn 1)) (fun _ _ _ _ _ c1 => tsx_nil) (fun _ _ _ _ _ c1 => (c1.cmp (ok_lt c1.hu) (c1.ix (c1.v 0) (c1.v 1)) (c1.ix (c1.v 0) (ex_op ok_add (c1.v 1) ex_int)))))) ax_nil) bo_all))
  sx_nil)
theorem b_well_formed : BodyOk T r_well_formed := fun P w K mg base k call f cdv A out s0 H E c0 =>
  show Sxs _ _ (defBody (tx 17)) (D_well_formed call) from (sx_seq (c0.unp (c0.v 0) (c0.gt (c0.gc (c0.gn 1) (c0.gc (c0.gn 2) c0.g0))))
  (sx_seq (sx_if (Wx.tx (wx_or (tx_not (c0.tv (c0.bB 0 rfl (ok_all c0.calm) (c0.ac (lx_as (c0.lc (own := [("name", 5)]) (show BlkOk r_well_formed.N (defScope (tx 17)) _ [("name", 5)] from ⟨rfl, by decide +kernel, by decide +kernel, by decide +kernel, by decide +kernel⟩) (ix_seqI (c0.v 1)) (fun _ _ _ _ _ c1 => (c1.gn 5)) (fun _ _ _ _ _ c1 => tsx_nil) (fun _ _ _ _ _ c1 => (c1.call i_is_name rfl (c1.ac (c1.v 5) ax_nil))))) ax_nil) bo_all))) (wx_or1 (tx_not (c0.tv (c0.call i_rising rfl (c0.ac (c0.v 1) ax_nil)))))))
  (sx_seq (sx_ret ex_bl)
  sx_nil)
  sx_nil)
  (sx_seq (sx_for c0.po c0.calm (ix_seqI (c0.v 2)) (c0.gt (c0.gc (c0.gn 3) (c0.gc (c0.gn 4) c0.g0)))
  (sx_seq (sx_if (Wx.tx (wx_or (tx_not (c0.tv (c0.call i_is_name rfl (c0.ac (c0.v 3) ax_nil)))) (wx_or1 (tx_not (c0.tv (c0.call i_well_formed rfl (c0.ac (c0.v 4) ax_nil)))))))
  (sx_seq (sx_ret ex_bl)
  sx_nil)
  sx_nil)
  sx_nil) (fun _ => rfl))
  (sx_seq (sx_ret (c0.call i_rising rfl (c0.ac (c0.v 2) ax_nil)))
  sx_nil))))
theorem b_check_concept : BodyOk T r_check_concept := fun P w K mg base k call f cdv A out s0 H E c0 =>
  show Sxs _ _ (defBody (tx 18)) (D_check_concept call) from (sx_seq (c0.unp (c0.call i_measured rfl (c0.ac (c0.v 0) ax_nil)) (c0.gt (c0.gc (c0.gn 1) (c0.gc (c0.gn 2) c0.g0))))
  (sx_seq (sx_if (Wx.tx (wx_or (c0.tcmp (ok_gt c0.hu) (c0.v 1) (c0.con 2 rfl)) (wx_or1 (c0.tcmp (ok_gt c0.hu) (c0.v 2) (c0.con 3 rfl)))))
  (sx_seq (c0.raise 1 rfl)
  sx_nil)
  sx_nil)
  (sx_seq (sx_if (tx_not (c0.tv (c0.call i_well_formed rfl (c0.ac (c0.v 0) ax_nil))))
  (sx_seq (c0.raise 0 rfl)
  sx_nil)
  sx_nil)
  (sx_seq (sx_ret ex_non)
  sx_nil))))
theorem b_size : BodyOk T r_size := fun P w K mg base k call f cdv A out s0 H E c0 =>
  show Sxs _ _ (defBody (tx 19)) (D_size call) from (sx_seq (c0.ex (c0.call i_check_concept rfl (c0.ac (c0.v 0) ax_nil)))
  (sx_seq (sx_ret (c0.ix (c0.call i_measured rfl (c0.ac (c0.v 0) ax_nil)) ex_int))
  sx_nil))
theorem b_depth : BodyOk T r_depth := fun P w K mg base k call f cdv A out s0 H E c0 =>
  show Sxs _ _ (defBody (tx 20)) (D_depth call) from (sx_seq (c0.ex (c0.call i_check_concept rfl (c0.ac (c0.v 0) ax_nil)))
  (sx_seq (sx_ret (c0.ix (c0.call i_measured rfl (c0.ac (c0.v 0) ax_nil)) ex_int))
  sx_nil))
theorem b__law_same : BodyOk T r__law_same := fun P w K mg base k call f cdv A out s0 H E c0 =>
  show Sxs _ _ (defBody (tx 22)) (D__law_same call) from (sx_seq (sx_ret (c0.cmp (ok_eq c0.hu) (c0.bB 4 rfl (ok_repr c0.hu c0.gd) (c0.ac (lx_as (lx_disp (c0.ac (c0.v 0) ax_nil))) ax_nil) bo_repr) (c0.bB 4 rfl (ok_repr c0.hu c0.gd) (c0.ac (lx_as (lx_disp (c0.ac (c0.v 1) ax_nil))) ax_nil) bo_repr)))
  sx_nil)
theorem b__law_stream : BodyOk T r__law_stream := fun P w K mg base k call f cdv A out s0 H E c0 =>
  show Sxs _ _ (defBody (tx 23)) (D__law_stream call) from (sx_seq (sx_newL (c0.nl 1 (lx_disp ax_nil)))
  (sx_seq (sx_for c0.po c0.calm (ix_seqI (ex_slice (c0.v 0) px_none (px_some ex_int))) (c0.gn 2)
  (sx_seq (c0.set 3 (c0.bB 6 rfl ok_abs (c0.ac (c0.bT 5 rfl ok_int (c0.ac (c0.v 2) ax_nil) bo_int) ax_nil) bo_abs))
  (sx_seq (sx_if (c0.tcmp (ok_ge c0.hu) (c0.v 3) (ex_op ok_pow ex_int ex_int))
  (sx_seq (sx_for c0.po c0.calm (c0.rng1 3 rfl (c0.ac ex_int ax_nil)) (c0.gn 4)
  (sx_seq (c0.ex (c0.app (c0.v 1) (c0.ac (ex_op ok_mod (c0.bT 5 rfl ok_int (c0.ac (c0.v 3) ax_nil) bo_int) ex_int) ax_nil)))
  (sx_seq (c0.set 3 (ex_op ok_div (c0.v 3) ex_int))
  (sx_seq (sx_if (c0.tcmp (ok_eq c0.hu) (c0.v 3) ex_int)
  (sx_seq sx_brk
  sx_nil)
  sx_nil)
  sx_nil))) (fun _ => rfl))
  sx_nil)
  (sx_seq (c0.set 5 (ex_op ok_mod (c0.bT 5 rfl ok_int (c0.ac (c0.v 3) ax_nil) bo_int) ex_int))
  (sx_seq (sx_for c0.po c0.calm (c0.rng1 3 rfl (c0.ac ex_int ax_nil)) (c0.gn 4)
  (sx_seq (c0.set 5 (ex_op ok_mod (c0.bT 5 rfl ok_int (c0.ac (ex_op ok_add (ex_op ok_add (ex_op ok_mulI (c0.v 5) ex_int) (ex_op ok_mulI ex_int (c0.v 4))) ex_int) ax_nil) bo_int) ex_int))
  (sx_seq (c0.ex (c0.app (c0.v 1) (c0.ac (ex_op ok_mod (ex_op ok_mod (c0.bT 5 rfl ok_int (c0.ac (ex_op ok_add (ex_op ok_mulI (c0.v 5) ex_int) (c0.v 4)) ax_nil) bo_int) ex_int) ex_int) ax_nil)))
  sx_nil)) (fun _ => rfl))
  sx_nil)))
  sx_nil)) (fun _ => rfl))
  (sx_seq (sx_if (c0.tcmp (ok_eq c0.hu) (c0.bB 1 rfl ok_len (c0.ac (c0.v 1) ax_nil) bo_len) ex_int)
  (sx_seq (c0.ex (c0.app (c0.v 1) (c0.ac ex_int ax_nil)))
  sx_nil)
  sx_nil)
  (sx_seq (sx_ret (c0.v 1))
  sx_nil))))
theorem b__law_next : BodyOk T r__law_next := fun P w K mg base k call f cdv A out s0 H E c0 =>
  show Sxs _ _ (defBody (tx 24)) (D__law_next call) from (sx_seq (sx_six (ex_op ok_add (c0.ix (c0.v 0) ex_int) ex_int) (c0.v 0) ex_int (fun p q => pg_sub p q set_list) rfl rfl rfl)
  (sx_seq (c0.set 2 (ex_op ok_div (c0.ix (c0.v 0) ex_int) (c0.bB 1 rfl ok_len (c0.ac (c0.ix (c0.v 0) ex_int) ax_nil) bo_len)))
  (sx_seq (sx_ret (ex_op ok_mod (c0.bT 5 rfl ok_int (c0.ac (ex_op ok_add (ex_op ok_add (c0.ix (c0.ix (c0.v 0) ex_int) (ex_op ok_mod (c0.ix (c0.v 0) ex_int) (c0.bB 1 rfl ok_len (c0.ac (c0.ix (c0.v 0) ex_int) ax_nil) bo_len))) (ex_op ok_mulI (c0.v 2) ex_int)) (ex_op ok_mulI (ex_op ok_mulI (c0.ix (c0.v 0) ex_int) (c0.v 2)) ex_int)) ax_nil) bo_int) (c0.v 1)))
  sx_nil)))
theorem b__law_word : BodyOk T r__law_word := fun P w K mg base k call f cdv A out s0 H E c0 =>
  show Sxs _ _ (defBody (tx 26)) (D__law_word call) from (sx_seq (c0.set 1 ex_str)
  (sx_seq (c0.set 2 (c0.ix (c0.v 1) (c0.call i__law_next rfl (c0.ac (c0.v 0) (c0.ac ex_int ax_nil)))))
  (sx_seq (sx_for c0.po c0.calm (c0.rng1 3 rfl (c0.ac (c0.ix (lx_as (lx_disp (c0.ac ex_int (c0.ac ex_int (c0.ac ex_int (c0.ac ex_int ax_nil)))))) (c0.call i__law_next rfl (c0.ac (c0.v 0) (c0.ac ex_int ax_nil)))) ax_nil)) (c0.gn 3)
  (sx_seq (c0.set 2 (ex_op ok_add (c0.v 2) (c0.ix (ex_op ok_add (c0.v 1) ex_str) (c0.call i__law_next rfl (c0.ac (c0.v 0) (c0.ac ex_int ax_nil))))))
  sx_nil) (fun _ => rfl))
  (sx_seq (sx_ret (c0.v 2))
  sx_nil))))
theorem b__law_texts : BodyOk T r__law_texts := fun P w K mg base k call f cdv A out s0 H E c0 =>
  show Sxs _ _ (defBody (tx 27)) (D__law_texts call) from (sx_seq (sx_newL (c0.nl 2 (lx_disp ax_nil)))
  (sx_seq (sx_for c0.po c0.calm (c0.rng1 3 rfl (c0.ac (c0.v 1) ax_nil)) (c0.gn 3)
  (sx_seq (c0.set 4 (c0.call i__law_word rfl (c0.ac (c0.v 0) ax_nil)))
  (sx_seq (sx_if (Wx.tx (wx_or (c0.tcmp (ok_in0 c0.hu) (c0.v 4) (c0.v 2)) (wx_or1 (c0.tcmp (ok_eq c0.hu) (c0.v 4) ex_str))))
  (sx_seq (c0.set 4 (ex_op ok_add (ex_op ok_add (ex_slice (c0.v 4) px_none (px_some ex_int)) ex_str) (c0.bT 9 rfl ok_str (c0.ac (c0.v 3) ax_nil) bo_str)))
  sx_nil)
  sx_nil)
  (sx_seq (sx_if (c0.tcmp (ok_notin0 c0.hu) (c0.v 4) (c0.v 2))
  (sx_seq (c0.ex (c0.app (c0.v 2) (c0.ac (c0.v 4) ax_nil)))
  sx_nil)
  sx_nil)
  sx_nil))) (fun _ => rfl))
  (sx_seq (sx_ret (c0.bT 8 rfl ok_tuple (c0.ac (lx_as (c0.lB 7 rfl (ok_sorted c0.hu) (c0.ac (c0.v 2) ax_nil) bo_sorted)) ax_nil) bo_tuple))
  sx_nil)))
theorem b__law_concept : BodyOk T r__law_concept := fun P w K mg base k call f cdv A out s0 H E c0 =>
  show Sxs _ _ (defBody (tx 28)) (D__law_concept call) from (sx_seq (sx_setL (c0.nlc 4 (own := [("name", 9)]) (show BlkOk r__law_concept.N (defScope (tx 28)) _ [("name", 9)] from ⟨rfl, by decide +kernel, by decide +kernel, by decide +kernel, by decide +kernel⟩) (ix_seqI (c0.ix (c0.v 1) ex_int)) (fun _ _ _ _ _ c1 => (c1.gn 9)) (fun _ _ _ _ _ c1 => (tsx_one (c1.tcmp (ok_eq c1.hu) (c1.call i__law_next rfl (c1.ac (c1.v 0) (c1.ac ex_int ax_nil))) ex_int))) (fun _ _ _ _ _ c1 => (c1.v 9))))
  (sx_seq (sx_newL (c0.nl 5 (lx_disp ax_nil)))
  (sx_seq (sx_if (Wx.tx (wx_and (c0.tcmp (ok_gt c0.hu) (c0.v 2) ex_int) (wx_and1 (c0.tcmp (ok_gt c0.hu) (c0.bB 1 rfl ok_len (c0.ac (c0.ix (c0.v 1) ex_int) ax_nil) bo_len) ex_int))))
  (sx_seq (sx_for c0.po c0.calm (c0.rng1 3 rfl (c0.ac (c0.call i__law_next rfl (c0.ac (c0.v 0) (c0.ac (ex_op ok_add (c0.v 3) ex_int) ax_nil))) ax_nil)) (c0.gn 6)
  (sx_seq (c0.set 7 (c0.ix (c0.ix (c0.v 1) ex_int) (c0.call i__law_next rfl (c0.ac (c0.v 0) (c0.ac (c0.bB 1 rfl ok_len (c0.ac (c0.ix (c0.v 1) ex_int) ax_nil) bo_len) ax_nil)))))
  (sx_seq (c0.set 8 (ex_tup (c0.ac (c0.v 7) (c0.ac (c0.call i__law_concept rfl (c0.ac (c0.v 0) (c0.ac (c0.v 1) (c0.ac (ex_op ok_sub (c0.v 2) ex_int) (c0.ac (c0.v 3) ax_nil))))) ax_nil))))
  (sx_seq (sx_if (c0.tcmp (ok_notin0 c0.hu) (c0.v 8) (c0.v 5))
  (sx_seq (c0.ex (c0.app (c0.v 5) (c0.ac (c0.v 8) ax_nil)))
  sx_nil)
  sx_nil)
  sx_nil))) (fun _ => rfl))
  sx_nil)
  sx_nil)
  (sx_seq (sx_ret (ex_tup (c0.ac (c0.bT 8 rfl ok_tuple (c0.ac (c0.v 4) ax_nil) bo_tuple) (c0.ac (c0.bT 8 rfl ok_tuple (c0.ac (lx_as (c0.lB 7 rfl (ok_sorted c0.hu) (c0.ac (c0.v 5) ax_nil) bo_sorted)) ax_nil) bo_tuple) ax_nil))))
  sx_nil))))
theorem b__law_measure : BodyOk T r__law_measure := fun P w K mg base k call f cdv A out s0 H E c0 =>
  show Sxs _ _ (defBody (tx 29)) (D__law_measure call) from (sx_seq (c0.set 1 (c0.bB 1 rfl ok_len (c0.ac (c0.ix (c0.v 0) ex_int) ax_nil) bo_len))
  (sx_seq (c0.set 2 ex_int)
  (sx_seq (sx_for c0.po c0.calm (ix_seqI (c0.ix (c0.v 0) ex_int)) (c0.gt (c0.gc (c0.gn 3) (c0.gc (c0.gn 4) c0.g0)))
  (sx_seq (c0.set 5 (c0.call i__law_measure rfl (c0.ac (c0.v 4) ax_nil)))
  (sx_seq (c0.set 1 (ex_op ok_add (ex_op ok_add (c0.v 1) ex_int) (c0.ix (c0.v 5) ex_int)))
  (sx_seq (c0.set 2 (c0.bB 2 rfl (ok_max2 c0.calm) (c0.ac (c0.v 2) (c0.ac (ex_op ok_add ex_int (c0.ix (c0.v 5) ex_int)) ax_nil)) bo_max))
  sx_nil))) (fun _ => rfl))
  (sx_seq (sx_ret (ex_tup (c0.ac (c0.v 1) (c0.ac (c0.v 2) ax_nil))))
  sx_nil))))
theorem b__law_told : BodyOk T r__law_told := fun P w K mg base k call f cdv A out s0 H E c0 =>
  show Sxs _ _ (defBody (tx 30)) (D__law_told call) from (sx_seq (c0.tryV 2 rfl (fun _ _ _ c0t =>
  (sx_seq (sx_ret (ex_tup (c0t.ac ex_str (c0t.ac (c0t.callI [⟨"check_concept", _, 1, call i_check_concept⟩, ⟨"size", _, 1, call i_size⟩, ⟨"depth", _, 1, call i_depth⟩] [i_check_concept, i_size, i_depth] (c0t.v 0) (c0t.ac (c0t.v 1) ax_nil) (row_c i_check_concept (row_c i_size (row_c i_depth row_n)))) ax_nil))))
  sx_nil)))
  sx_nil)
theorem b__law_all : BodyOk T r__law_all := fun P w K mg base k call f cdv A out s0 H E c0 =>
  show Sxs _ _ (defBody (tx 31)) (D__law_all call) from (sx_seq (sx_ret (lx_as (c0.lc (own := [("kind", 1)]) (show BlkOk r__law_all.N (defScope (tx 31)) _ [("kind", 1)] from ⟨rfl, by decide +kernel, by decide +kernel, by decide +kernel, by decide +kernel⟩) (c0.rng1 3 rfl (c0.ac ex_int ax_nil)) (fun _ _ _ _ _ c1 => (c1.gn 1)) (fun _ _ _ _ _ c1 => tsx_nil) (fun _ _ _ _ _ c1 => (c1.call i__law_told rfl (c1.ac (c1.v 1) (c1.ac (c1.v 0) ax_nil)))))))
  sx_nil)
theorem b__law_bad_word : BodyOk T r__law_bad_word := fun P w K mg base k call f cdv A out s0 H E c0 =>
  show Sxs _ _ (defBody (tx 32)) (D__law_bad_word call) from (sx_seq (c0.set 1 (c0.call i__law_word rfl (c0.ac (c0.v 0) ax_nil)))
  (sx_seq (sx_setL (c0.nl 2 (lx_disp (c0.ac ex_str (c0.ac ex_str (c0.ac ex_str (c0.ac (ex_op ok_add ex_str (ex_slice (c0.v 1) px_none (px_some ex_int))) (c0.ac (c0.upper (ex_slice (c0.v 1) px_none (px_some ex_int))) (c0.ac (ex_op ok_add (ex_slice (c0.v 1) px_none (px_some ex_int)) ex_str) (c0.ac (ex_op ok_add (ex_slice (c0.v 1) px_none (px_some ex_int)) ex_str) (c0.ac (ex_op ok_add (ex_slice (c0.v 1) px_none (px_some ex_int)) ex_str) (c0.ac ex_str (c0.ac (ex_op ok_add (ex_slice (c0.v 1) px_none (px_some ex_int)) ex_str) ax_nil)))))))))))))
  (sx_seq (sx_ret (c0.ix (c0.v 2) (c0.call i__law_next rfl (c0.ac (c0.v 0) (c0.ac ex_int ax_nil)))))
  sx_nil)))
theorem b__law_spoilt : BodyOk T r__law_spoilt := fun P w K mg base k call f cdv A out s0 H E c0 =>
  show Sxs _ _ (defBody (tx 33)) (D__law_spoilt call) from (sx_seq (c0.set 2 (c0.call i__law_bad_word rfl (c0.ac (c0.v 0) ax_nil)))
  (sx_seq (c0.set 3 (c0.ix (c0.v 1) ex_int))
  (sx_seq (c0.set 4 (c0.call i__law_concept rfl (c0.ac (c0.v 0) (c0.ac (c0.v 1) (c0.ac ex_int (c0.ac ex_int ax_nil))))))
  (sx_seq (c0.set 5 (c0.ix (c0.ix (c0.v 1) ex_int) ex_int))
  (sx_seq (sx_newL (c0.nl 6 (lx_disp (c0.ac (ex_tup (c0.ac (ex_tup (c0.ac (c0.v 2) ax_nil)) (c0.ac (ex_tup ax_nil) ax_nil))) (c0.ac (ex_tup (c0.ac (ex_tup ax_nil) (c0.ac (ex_tup (c0.ac (ex_tup (c0.ac (c0.v 2) (c0.ac (c0.v 4) ax_nil))) ax_nil)) ax_nil))) (c0.ac (ex_tup (c0.ac (ex_back (c0.v 3) (px_some (ex_neg ex_int))) (c0.ac (ex_tup ax_nil) ax_nil))) (c0.ac (ex_tup (c0.ac (ex_op ok_add (c0.v 3) (ex_slice (c0.v 3) (px_some (ex_neg ex_int)) px_none)) (c0.ac (ex_tup ax_nil) ax_nil))) (c0.ac (ex_tup (c0.ac (ex_tup (c0.ac (c0.ix (c0.v 3) ex_int) (c0.ac (c0.ix (c0.v 3) ex_int) ax_nil))) (c0.ac (ex_tup ax_nil) ax_nil))) ax_nil))))))))
  (sx_seq (c0.ex (c0.app (c0.v 6) (c0.ac (ex_tup (c0.ac (ex_tup ax_nil) (c0.ac (ex_tup (c0.ac (ex_tup (c0.ac (c0.v 5) (c0.ac (c0.v 4) ax_nil))) (c0.ac (ex_tup (c0.ac (c0.v 5) (c0.ac (c0.v 4) ax_nil))) ax_nil))) ax_nil))) ax_nil)))
  (sx_seq (c0.ex (c0.app (c0.v 6) (c0.ac (ex_tup (c0.ac (ex_tup ax_nil) (c0.ac (ex_tup (c0.ac (ex_tup (c0.ac (c0.ix (c0.ix (c0.v 1) ex_int) (ex_neg ex_int)) (c0.ac (c0.v 4) ax_nil))) (c0.ac (ex_tup (c0.ac (c0.v 5) (c0.ac (c0.v 4) ax_nil))) ax_nil))) ax_nil))) ax_nil)))
  (sx_seq (c0.ex (c0.app (c0.v 6) (c0.ac (ex_tup (c0.ac (ex_tup ax_nil) (c0.ac (ex_tup (c0.ac (ex_tup (c0.ac (c0.v 5) (c0.ac (ex_tup (c0.ac (ex_tup (c0.ac (c0.ix (c0.v 3) ex_int) ax_nil)) (c0.ac (ex_tup ax_nil) ax_nil))) ax_nil))) (c0.ac (ex_tup (c0.ac (c0.v 5) (c0.ac (ex_tup (c0.ac (ex_tup ax_nil) (c0.ac (ex_tup ax_nil) ax_nil))) ax_nil))) ax_nil))) ax_nil))) ax_nil)))
  (sx_seq (c0.set 7 (c0.call i__law_next rfl (c0.ac (c0.v 0) (c0.ac ex_int ax_nil))))
  (sx_seq (c0.set 8 (c0.ix (c0.v 6) (c0.v 7)))
  (sx_seq (sx_for c0.po c0.calm (c0.rng1 3 rfl (c0.ac (c0.call i__law_next rfl (c0.ac (c0.v 0) (c0.ac ex_int ax_nil))) ax_nil)) (c0.gn 9)
  (sx_seq (c0.set 8 (ex_tup (c0.ac (ex_slice (c0.v 3) px_none (px_some ex_int)) (c0.ac (ex_tup (c0.ac (ex_tup (c0.ac (c0.v 5) (c0.ac (c0.v 8) ax_nil))) ax_nil)) ax_nil))))
  sx_nil) (fun _ => rfl))
  (sx_seq (sx_ret (c0.v 8))
  sx_nil))))))))))))
theorem b__law_chain : BodyOk T r__law_chain := fun P w K mg base k call f cdv A out s0 H E c0 =>
  show Sxs _ _ (defBody (tx 34)) (D__law_chain call) from (sx_seq (c0.set 2 (ex_tup (c0.ac (ex_slice (c0.ix (c0.v 0) ex_int) px_none (px_some ex_int)) (c0.ac (ex_tup ax_nil) ax_nil))))
  (sx_seq (sx_for c0.po c0.calm (c0.rng1 3 rfl (c0.ac (c0.v 1) ax_nil)) (c0.gn 3)
  (sx_seq (c0.set 2 (ex_tup (c0.ac (ex_tup ax_nil) (c0.ac (ex_tup (c0.ac (ex_tup (c0.ac (c0.ix (c0.ix (c0.v 0) ex_int) ex_int) (c0.ac (c0.v 2) ax_nil))) ax_nil)) ax_nil))))
  sx_nil) (fun _ => rfl))
  (sx_seq (sx_ret (c0.v 2))
  sx_nil)))
theorem b__law_many : BodyOk T r__law_many := fun P w K mg base k call f cdv A out s0 H E c0 =>
  show Sxs _ _ (defBody (tx 35)) (D__law_many call) from (sx_seq (c0.set 2 (ex_slice (c0.call i__law_word rfl (c0.ac (c0.v 0) ax_nil)) px_none (px_some ex_int)))
  (sx_seq (sx_setL (c0.nl 3 (c0.lB 7 rfl (ok_sorted c0.hu) (c0.ac (lx_as (c0.lc (own := [("k", 4)]) (show BlkOk r__law_many.N (defScope (tx 35)) _ [("k", 4)] from ⟨rfl, by decide +kernel, by decide +kernel, by decide +kernel, by decide +kernel⟩) (c0.rng1 3 rfl (c0.ac (c0.v 1) ax_nil)) (fun _ _ _ _ _ c1 => (c1.gn 4)) (fun _ _ _ _ _ c1 => tsx_nil) (fun _ _ _ _ _ c1 => (ex_op ok_add (ex_op ok_add (c1.v 2) ex_str) (c1.bT 9 rfl ok_str (c1.ac (ex_op ok_add ex_int (c1.v 4)) ax_nil) bo_str))))) ax_nil) bo_sorted)))
  (sx_seq (sx_ret (c0.bT 8 rfl ok_tuple (c0.ac (c0.v 3) ax_nil) bo_tuple))
  sx_nil)))
theorem b__law_large : BodyOk T r__law_large := fun P w K mg base k call f cdv A out s0 H E c0 =>
  show Sxs _ _ (defBody (tx 36)) (D__law_large call) from (sx_seq (c0.set 2 (ex_op ok_add ex_int (c0.call i__law_next rfl (c0.ac (c0.v 0) (c0.ac ex_int ax_nil)))))
  (sx_seq (c0.set 3 (ex_op ok_sub ex_int (c0.v 2)))
  (sx_seq (c0.set 4 (ex_tup (c0.ac (ex_tup ax_nil) (c0.ac (ex_tup ax_nil) ax_nil))))
  (sx_seq (c0.set 5 (c0.call i__law_many rfl (c0.ac (c0.v 0) (c0.ac (c0.v 2) ax_nil))))
  (sx_seq (c0.set 6 (c0.bT 8 rfl ok_tuple (c0.ac (lx_as (c0.lc (own := [("chr_of", 7)]) (show BlkOk r__law_large.N (defScope (tx 36)) _ [("chr_of", 7)] from ⟨rfl, by decide +kernel, by decide +kernel, by decide +kernel, by decide +kernel⟩) (ix_seqI (ex_slice ex_str px_none (px_some (c0.v 3)))) (fun _ _ _ _ _ c1 => (c1.gn 7)) (fun _ _ _ _ _ c1 => tsx_nil) (fun _ _ _ _ _ c1 => (ex_tup (c1.ac (ex_op ok_add (ex_op ok_add (c1.ix (c1.ix (c1.v 1) ex_int) ex_int) ex_str) (c1.v 7)) (c1.ac (c1.v 4) ax_nil)))))) ax_nil) bo_tuple))
  (sx_seq (sx_if (c0.tcmp (ok_gt c0.hu) (c0.bB 1 rfl ok_len (c0.ac (c0.ix (c0.ix (c0.v 1) ex_int) ex_int) ax_nil) bo_len) ex_int)
  (sx_seq (c0.set 6 (c0.bT 8 rfl ok_tuple (c0.ac (lx_as (c0.lc (own := [("chr_of", 7)]) (show BlkOk r__law_large.N (defScope (tx 36)) _ [("chr_of", 7)] from ⟨rfl, by decide +kernel, by decide +kernel, by decide +kernel, by decide +kernel⟩) (ix_seqI (ex_slice ex_str px_none (px_some (c0.v 3)))) (fun _ _ _ _ _ c1 => (c1.gn 7)) (fun _ _ _ _ _ c1 => tsx_nil) (fun _ _ _ _ _ c1 => (ex_tup (c1.ac (ex_op ok_add ex_str (c1.v 7)) (c1.ac (c1.v 4) ax_nil)))))) ax_nil) bo_tuple))
  sx_nil)
  sx_nil)
  (sx_seq (sx_ret (lx_as (lx_disp (c0.ac (ex_tup (c0.ac (c0.v 5) (c0.ac (c0.v 6) ax_nil))) (c0.ac (ex_tup (c0.ac (c0.bT 8 rfl ok_tuple (c0.ac (lx_as (c0.lB 7 rfl (ok_sorted c0.hu) (c0.ac (ex_op ok_add (c0.v 5) (ex_tup (c0.ac ex_str ax_nil))) ax_nil) bo_sorted)) ax_nil) bo_tuple) (c0.ac (c0.v 6) ax_nil))) (c0.ac (ex_tup (c0.ac (ex_op ok_add (ex_back (c0.v 5) (px_some (ex_neg ex_int))) (ex_tup (c0.ac ex_str ax_nil))) (c0.ac (c0.v 6) ax_nil))) ax_nil))))))
  sx_nil)))))))
theorem b__law_names : BodyOk T r__law_names := fun P w K mg base k call f cdv A out s0 H E c0 =>
  show Sxs _ _ (defBody (tx 37)) (D__law_names call) from (sx_seq (c0.set 1 (c0.call i__law_word rfl (c0.ac (c0.v 0) ax_nil)))
  (sx_seq (sx_if (c0.tcmp (ok_eq c0.hu) (c0.v 1) ex_str)
  (sx_seq (c0.set 1 ex_str)
  sx_nil)
  sx_nil)
  (sx_seq (sx_setL (c0.nl 2 (lx_disp (c0.ac (c0.call i_is_name rfl (c0.ac (c0.v 1) ax_nil)) (c0.ac (c0.call i_is_name rfl (c0.ac (c0.call i__law_bad_word rfl (c0.ac (c0.v 0) ax_nil)) ax_nil)) (c0.ac (c0.call i_is_name rfl (c0.ac ex_str ax_nil)) (c0.ac (c0.call i_is_name rfl (c0.ac ex_str ax_nil)) (c0.ac (c0.call i_is_name rfl (c0.ac ex_str ax_nil)) (c0.ac (c0.call i_is_name rfl (c0.ac ex_str ax_nil)) ax_nil)))))))))
  (sx_seq (sx_ret (c0.call i__law_same rfl (c0.ac (c0.v 2) (c0.ac (lx_as (lx_disp (c0.ac ex_bl (c0.ac ex_bl (c0.ac ex_bl (c0.ac ex_bl (c0.ac ex_bl (c0.ac ex_bl ax_nil)))))))) ax_nil))))
  sx_nil))))
theorem b_law : BodyOk T r_law := fun P w K mg base k call f cdv A out s0 H E c0 =>
  show Sxs _ _ (defBody (tx 38)) (D_law call) from (sx_seq (sx_newL (c0.nl 1 (lx_disp (c0.ac (c0.call i__law_stream rfl (c0.ac (c0.v 0) ax_nil)) (c0.ac ex_int ax_nil)))))
  (sx_seq (sx_if (tx_not (c0.tv (c0.call i__law_same rfl (c0.ac (lx_as (lx_disp (c0.ac (c0.con 5 rfl) (c0.ac (c0.con 3 rfl) (c0.ac (c0.con 4 rfl) (c0.ac (c0.con 2 rfl) ax_nil)))))) (c0.ac (lx_as (lx_disp (c0.ac (ex_tup (c0.ac (ex_tup ax_nil) (c0.ac (ex_tup ax_nil) ax_nil))) (c0.ac ex_int (c0.ac ex_int (c0.ac ex_int ax_nil)))))) ax_nil)))))
  (sx_seq (sx_ret ex_bl)
  sx_nil)
  sx_nil)
  (sx_seq (sx_for c0.po c0.calm (c0.rng1 3 rfl (c0.ac ex_int ax_nil)) (c0.gn 2)
  (sx_seq (c0.set 3 (ex_tup (c0.ac (c0.call i__law_texts rfl (c0.ac (c0.v 1) (c0.ac ex_int ax_nil))) (c0.ac (c0.call i__law_texts rfl (c0.ac (c0.v 1) (c0.ac ex_int ax_nil))) ax_nil))))
  (sx_seq (sx_if (Wx.tx (wx_or (c0.tcmp (ok_lt c0.hu) (c0.bB 1 rfl ok_len (c0.ac (c0.ix (c0.v 3) ex_int) ax_nil) bo_len) ex_int) (wx_or1 (c0.tcmp (ok_lt c0.hu) (c0.bB 1 rfl ok_len (c0.ac (c0.ix (c0.v 3) ex_int) ax_nil) bo_len) ex_int))))
  (sx_seq (c0.set 3 (ex_tup (c0.ac (ex_tup (c0.ac ex_str (c0.ac ex_str ax_nil))) (c0.ac (ex_tup (c0.ac ex_str (c0.ac ex_str ax_nil))) ax_nil))))
  sx_nil)
  sx_nil)
  (sx_seq (c0.set 4 (c0.call i__law_concept rfl (c0.ac (c0.v 1) (c0.ac (c0.v 3) (c0.ac ex_int (c0.ac ex_int ax_nil))))))
  (sx_seq (c0.unp (c0.call i__law_measure rfl (c0.ac (c0.v 4) ax_nil)) (c0.gt (c0.gc (c0.gn 5) (c0.gc (c0.gn 6) c0.g0))))
  (sx_seq (sx_if (Wx.tx (wx_and (c0.tcmp (ok_le c0.hu) (c0.v 5) ex_int) (wx_and1 (tx_not (c0.tv (c0.call i__law_same rfl (c0.ac (c0.call i__law_all rfl (c0.ac (c0.v 4) ax_nil)) (c0.ac (lx_as (lx_disp (c0.ac (ex_tup (c0.ac ex_str (c0.ac ex_non ax_nil))) (c0.ac (ex_tup (c0.ac ex_str (c0.ac (c0.v 5) ax_nil))) (c0.ac (ex_tup (c0.ac ex_str (c0.ac (c0.v 6) ax_nil))) ax_nil))))) ax_nil))))))))
  (sx_seq (sx_ret ex_bl)
  sx_nil)
  sx_nil)
  (sx_seq (sx_if (tx_not (c0.tv (c0.call i__law_same rfl (c0.ac (c0.call i__law_all rfl (c0.ac (c0.call i__law_spoilt rfl (c0.ac (c0.v 1) (c0.ac (c0.v 3) ax_nil))) ax_nil)) (c0.ac (ex_op ok_mulL (lx_as (lx_disp (c0.ac ex_str ax_nil))) ex_int) ax_nil)))))
  (sx_seq (sx_ret ex_bl)
  sx_nil)
  sx_nil)
  (sx_seq (sx_if (tx_not (c0.tv (c0.call i__law_names rfl (c0.ac (c0.v 1) ax_nil))))
  (sx_seq (sx_ret ex_bl)
  sx_nil)
  sx_nil)
  sx_nil))))))) (fun _ => rfl))
  (sx_seq (c0.set 7 (c0.call i__law_large rfl (c0.ac (c0.v 1) (c0.ac (c0.v 3) ax_nil))))
  (sx_seq (sx_if (tx_not (c0.tv (c0.call i__law_same rfl (c0.ac (lx_as (c0.lc (own := [("one", 9)]) (show BlkOk r_law.N (defScope (tx 38)) _ [("one", 9)] from ⟨rfl, by decide +kernel, by decide +kernel, by decide +kernel, by decide +kernel⟩) (ix_seqI (c0.v 7)) (fun _ _ _ _ _ c1 => (c1.gn 9)) (fun _ _ _ _ _ c1 => tsx_nil) (fun _ _ _ _ _ c1 => (c1.call i__law_all rfl (c1.ac (c1.v 9) ax_nil))))) (c0.ac (lx_as (lx_disp (c0.ac (lx_as (lx_disp (c0.ac (ex_tup (c0.ac ex_str (c0.ac ex_non ax_nil))) (c0.ac (ex_tup (c0.ac ex_str (c0.ac ex_int ax_nil))) (c0.ac (ex_tup (c0.ac ex_str (c0.ac (ex_op ok_sub ex_int (c0.bT 5 rfl ok_int (c0.ac (c0.cmp (ok_eq c0.hu) (c0.bB 1 rfl ok_len (c0.ac (c0.ix (c0.ix (c0.v 7) ex_int) ex_int) ax_nil) bo_len) ex_int) ax_nil) bo_int)) ax_nil))) ax_nil))))) (c0.ac (ex_op ok_mulL (lx_as (lx_disp (c0.ac ex_str ax_nil))) ex_int) (c0.ac (ex_op ok_mulL (lx_as (lx_disp (c0.ac ex_str ax_nil))) ex_int) ax_nil))))) ax_nil)))))
  (sx_seq (sx_ret ex_bl)
  sx_nil)
  sx_nil)
  (sx_seq (c0.set 8 (c0.call i__law_chain rfl (c0.ac (ex_tup (c0.ac (ex_tup (c0.ac ex_str ax_nil)) (c0.ac (c0.ix (c0.v 3) ex_int) ax_nil))) (c0.ac ex_int ax_nil))))
  (sx_seq (sx_ret (c0.call i__law_same rfl (c0.ac (lx_as (lx_disp (c0.ac (c0.ix (c0.call i__law_all rfl (c0.ac (c0.call i__law_chain rfl (c0.ac (c0.v 3) (c0.ac ex_int ax_nil))) ax_nil)) ex_int) (c0.ac (c0.call i__law_all rfl (c0.ac (c0.call i__law_chain rfl (c0.ac (c0.v 3) (c0.ac ex_int ax_nil))) ax_nil)) (c0.ac (c0.call i__law_all rfl (c0.ac (c0.v 8) ax_nil)) ax_nil))))) (c0.ac (lx_as (lx_disp (c0.ac (ex_tup (c0.ac ex_str (c0.ac ex_int ax_nil))) (c0.ac (ex_op ok_mulL (lx_as (lx_disp (c0.ac ex_str ax_nil))) ex_int) (c0.ac (ex_op ok_mulL (lx_as (lx_disp (c0.ac ex_str ax_nil))) ex_int) ax_nil))))) ax_nil))))
  sx_nil)))))))
theorem s_is_name : FnScope r_is_name.N r_is_name.ps (defScope r_is_name.st) := ⟨rfl, rfl, rfl, by decide +kernel, rfl, by decide +kernel, by decide +kernel⟩
theorem s_measured : FnScope r_measured.N r_measured.ps (defScope r_measured.st) := ⟨rfl, rfl, rfl, by decide +kernel, rfl, by decide +kernel, by decide +kernel⟩
theorem s_rising : FnScope r_rising.N r_rising.ps (defScope r_rising.st) := ⟨rfl, rfl, rfl, by decide +kernel, rfl, by decide +kernel, by decide +kernel⟩
theorem s_well_formed : FnScope r_well_formed.N r_well_formed.ps (defScope r_well_formed.st) := ⟨rfl, rfl, rfl, by decide +kernel, rfl, by decide +kernel, by decide +kernel⟩
theorem s_check_concept : FnScope r_check_concept.N r_check_concept.ps (defScope r_check_concept.st) := ⟨rfl, rfl, rfl, by decide +kernel, rfl, by decide +kernel, by decide +kernel⟩
theorem s_size : FnScope r_size.N r_size.ps (defScope r_size.st) := ⟨rfl, rfl, rfl, by decide +kernel, rfl, by decide +kernel, by decide +kernel⟩
theorem s_depth : FnScope r_depth.N r_depth.ps (defScope r_depth.st) := ⟨rfl, rfl, rfl, by decide +kernel, rfl, by decide +kernel, by decide +kernel⟩
theorem s__law_same : FnScope r__law_same.N r__law_same.ps (defScope r__law_same.st) := ⟨rfl, rfl, rfl, by decide +kernel, rfl, by decide +kernel, by decide +kernel⟩
theorem s__law_stream : FnScope r__law_stream.N r__law_stream.ps (defScope r__law_stream.st) := ⟨rfl, rfl, rfl, by decide +kernel, rfl, by decide +kernel, by decide +kernel⟩
theorem s__law_next : FnScope r__law_next.N r__law_next.ps (defScope r__law_next.st) := ⟨rfl, rfl, rfl, by decide +kernel, rfl, by decide +kernel, by decide +kernel⟩
theorem s__law_word : FnScope r__law_word.N r__law_word.ps (defScope r__law_word.st) := ⟨rfl, rfl, rfl, by decide +kernel, rfl, by decide +kernel, by decide +kernel⟩
theorem s__law_texts : FnScope r__law_texts.N r__law_texts.ps (defScope r__law_texts.st) := ⟨rfl, rfl, rfl, by decide +kernel, rfl, by decide +kernel, by decide +kernel⟩
theorem s__law_concept : FnScope r__law_concept.N r__law_concept.ps (defScope r__law_concept.st) := ⟨rfl, rfl, rfl, by decide +kernel, rfl, by decide +kernel, by decide +kernel⟩
theorem s__law_measure : FnScope r__law_measure.N r__law_measure.ps (defScope r__law_measure.st) := ⟨rfl, rfl, rfl, by decide +kernel, rfl, by decide +kernel, by decide +kernel⟩
theorem s__law_told : FnScope r__law_told.N r__law_told.ps (defScope r__law_told.st) := ⟨rfl, rfl, rfl, by decide +kernel, rfl, by decide +kernel, by decide +kernel⟩
theorem s__law_all : FnScope r__law_all.N r__law_all.ps (defScope r__law_all.st) := ⟨rfl, rfl, rfl, by decide +kernel, rfl, by decide +kernel, by decide +kernel⟩
theorem s__law_bad_word : FnScope r__law_bad_word.N r__law_bad_word.ps (defScope r__law_bad_word.st) := ⟨rfl, rfl, rfl, by decide +kernel, rfl, by decide +kernel, by decide +kernel⟩
theorem s__law_spoilt : FnScope r__law_spoilt.N r__law_spoilt.ps (defScope r__law_spoilt.st) := ⟨rfl, rfl, rfl, by decide +kernel, rfl, by decide +kernel, by decide +kernel⟩
theorem s__law_chain : FnScope r__law_chain.N r__law_chain.ps (defScope r__law_chain.st) := ⟨rfl, rfl, rfl, by decide +kernel, rfl, by decide +kernel, by decide +kernel⟩
theorem s__law_many : FnScope r__law_many.N r__law_many.ps (defScope r__law_many.st) := ⟨rfl, rfl, rfl, by decide +kernel, rfl, by decide +kernel, by decide +kernel⟩
theorem s__law_large : FnScope r__law_large.N r__law_large.ps (defScope r__law_large.st) := ⟨rfl, rfl, rfl, by decide +kernel, rfl, by decide +kernel, by decide +kernel⟩
theorem s__law_names : FnScope r__law_names.N r__law_names.ps (defScope r__law_names.st) := ⟨rfl, rfl, rfl, by decide +kernel, rfl, by decide +kernel, by decide +kernel⟩
theorem s_law : FnScope r_law.N r_law.ps (defScope r_law.st) := ⟨rfl, rfl, rfl, by decide +kernel, rfl, by decide +kernel, by decide +kernel⟩
theorem p_is_name : BindP r_is_name := fun _ _ _ _ _ _ us hl => match us, hl with | [_], _ => rfl
theorem p_measured : BindP r_measured := fun _ _ _ _ _ _ us hl => match us, hl with | [_], _ => rfl
theorem p_rising : BindP r_rising := fun _ _ _ _ _ _ us hl => match us, hl with | [_], _ => rfl
theorem p_well_formed : BindP r_well_formed := fun _ _ _ _ _ _ us hl => match us, hl with | [_], _ => rfl
theorem p_check_concept : BindP r_check_concept := fun _ _ _ _ _ _ us hl => match us, hl with | [_], _ => rfl
theorem p_size : BindP r_size := fun _ _ _ _ _ _ us hl => match us, hl with | [_], _ => rfl
theorem p_depth : BindP r_depth := fun _ _ _ _ _ _ us hl => match us, hl with | [_], _ => rfl
theorem p__law_same : BindP r__law_same := fun _ _ _ _ _ _ us hl => match us, hl with | [_, _], _ => rfl
theorem p__law_stream : BindP r__law_stream := fun _ _ _ _ _ _ us hl => match us, hl with | [_], _ => rfl
theorem p__law_next : BindP r__law_next := fun _ _ _ _ _ _ us hl => match us, hl with | [_, _], _ => rfl
theorem p__law_word : BindP r__law_word := fun _ _ _ _ _ _ us hl => match us, hl with | [_], _ => rfl
theorem p__law_texts : BindP r__law_texts := fun _ _ _ _ _ _ us hl => match us, hl with | [_, _], _ => rfl
theorem p__law_concept : BindP r__law_concept := fun _ _ _ _ _ _ us hl => match us, hl with | [_, _, _, _], _ => rfl
theorem p__law_measure : BindP r__law_measure := fun _ _ _ _ _ _ us hl => match us, hl with | [_], _ => rfl
theorem p__law_told : BindP r__law_told := fun _ _ _ _ _ _ us hl => match us, hl with | [_, _], _ => rfl
theorem p__law_all : BindP r__law_all := fun _ _ _ _ _ _ us hl => match us, hl with | [_], _ => rfl
theorem p__law_bad_word : BindP r__law_bad_word := fun _ _ _ _ _ _ us hl => match us, hl with | [_], _ => rfl
theorem p__law_spoilt : BindP r__law_spoilt := fun _ _ _ _ _ _ us hl => match us, hl with | [_, _], _ => rfl
theorem p__law_chain : BindP r__law_chain := fun _ _ _ _ _ _ us hl => match us, hl with | [_, _], _ => rfl
theorem p__law_many : BindP r__law_many := fun _ _ _ _ _ _ us hl => match us, hl with | [_, _], _ => rfl
theorem p__law_large : BindP r__law_large := fun _ _ _ _ _ _ us hl => match us, hl with | [_, _], _ => rfl
theorem p__law_names : BindP r__law_names := fun _ _ _ _ _ _ us hl => match us, hl with | [_], _ => rfl
theorem p_law : BindP r_law := fun _ _ _ _ _ _ us hl => match us, hl with | [_], _ => rfl
theorem ok : AllD (DefOk T) prog := ⟨⟨⟨s_is_name, b_is_name⟩, p_is_name⟩, ⟨⟨s_measured, b_measured⟩, p_measured⟩, ⟨⟨s_rising, b_rising⟩, p_rising⟩, ⟨⟨s_well_formed, b_well_formed⟩, p_well_formed⟩, ⟨⟨s_check_concept, b_check_concept⟩, p_check_concept⟩, ⟨⟨s_size, b_size⟩, p_size⟩, ⟨⟨s_depth, b_depth⟩, p_depth⟩, ⟨⟨s__law_same, b__law_same⟩, p__law_same⟩, ⟨⟨s__law_stream, b__law_stream⟩, p__law_stream⟩, ⟨⟨s__law_next, b__law_next⟩, p__law_next⟩, ⟨⟨s__law_word, b__law_word⟩, p__law_word⟩, ⟨⟨s__law_texts, b__law_texts⟩, p__law_texts⟩, ⟨⟨s__law_concept, b__law_concept⟩, p__law_concept⟩, ⟨⟨s__law_measure, b__law_measure⟩, p__law_measure⟩, ⟨⟨s__law_told, b__law_told⟩, p__law_told⟩, ⟨⟨s__law_all, b__law_all⟩, p__law_all⟩, ⟨⟨s__law_bad_word, b__law_bad_word⟩, p__law_bad_word⟩, ⟨⟨s__law_spoilt, b__law_spoilt⟩, p__law_spoilt⟩, ⟨⟨s__law_chain, b__law_chain⟩, p__law_chain⟩, ⟨⟨s__law_many, b__law_many⟩, p__law_many⟩, ⟨⟨s__law_large, b__law_large⟩, p__law_large⟩, ⟨⟨s__law_names, b__law_names⟩, p__law_names⟩, ⟨⟨s_law, b_law⟩, p_law⟩, trivial⟩
theorem hT : ∀ call, T call = tabOf prog bts cns true call := fun _ => rfl
def r__law_error : DefR := ⟨"_law_error", "_law_error", tx 25, ["e"], ["e", "names", "one"], fun _ _ _ => .stuck⟩
theorem e__law_error : ErrBody r__law_error := fun P w K mg base B cs f cdv A out s0 H E p j C hot => by
  have hu := hot.hu
  have nd := hot.nd
  show ∃ t, PSs _ (defBody (tx 25)) t ∧ _
  refine hot.body (f := errRest) (W := fun _ _ _ _ => False) (hot.nm (pa_cons (hot.is 0 rfl rfl rfl (Or.inl rfl) (by decide) rfl rfl rfl) (pa_cons (hot.is 1 rfl rfl rfl (Or.inl rfl) (by decide) rfl rfl rfl) (pa_cons (hot.is 2 rfl rfl rfl (Or.inl rfl) (by decide) rfl rfl rfl) (pa_cons (hot.is 3 rfl rfl rfl (Or.inl rfl) (by decide) rfl rfl rfl) (pa_cons (hot.is 4 rfl rfl rfl (Or.inl rfl) (by decide) rfl rfl rfl) pa_nil))))) (Or.inl rfl) rfl (by first | exact Or.inl rfl | exact Or.inr rfl)) (sx_seq (sx_if (tx_cmp (ok_ne hu) (Hx.ex_sum (hot.sm (show BlkOk r__law_error.N (defScope (tx 25)) _ [("one", 2)] from ⟨rfl, by decide +kernel, by decide +kernel, by decide +kernel, by decide +kernel⟩) rfl (Or.inl rfl) (fun s H c cl fp => pg_name nd rfl (Or.inl rfl)) (fun s H c cl fp => pe_callTy call_int1 rfl hot.ek.bn rfl (pa_cons (pe_var rfl (Or.inl rfl)) pa_nil)) (fun _ => rfl) rfl rfl)) ex_int rfl) (sx_seq (sx_ret ex_str) sx_nil) sx_nil) (sx_seq (sx_ret (ex_ix (lx_as (lx_disp (ax_cons ex_str (ax_cons ex_str (ax_cons ex_str (ax_cons ex_str (ax_cons ex_str ax_nil rfl) rfl) rfl) rfl) rfl))) (ex_idx hu (ex_var rfl (Or.inl rfl) (by decide) (by decide)) (ax_cons ex_bl ax_nil rfl) rfl rfl rfl rfl rfl) (fun _ _ => rfl))) sx_nil)) (errRest_ok j hot.ji)
theorem d__law_error : ErrDef r__law_error := ⟨rfl, rfl, rfl, ⟨rfl, rfl, rfl, by decide +kernel, rfl, by decide +kernel, by decide +kernel⟩, (fun _ _ _ _ _ _ us hl => match us, hl with | [_], _ => rfl), e__law_error⟩
end Pg
end

section
namespace Pg
open PySem PySem.Spec PyProof.Rows L2 Dn
/-- the law's own numbers -/
def st (s : List Int) (n : Int) : Option HObj := some (.lst [.list (s.map .int), .int n])
theorem next_spec {k : Nat} {m n : Int} {s : List Int} {hs : Hl} (hm : 0 < m) (hs0 : 0 < s.length) (hs1 : s.length < 4000) (n0 : 0 ≤ n) (n1 : n < 2 ^ 60) : wpR (callD prog (k + 1) i__law_next [.ref 0, .dat (.int m)] (st s n :: hs)) (fun v h => ∃ x, v = .dat (.int x) ∧ 0 ≤ x ∧ x < m ∧ h = st s (n + 1) :: hs) noX := by
  rw [call_at (r := r__law_next) rfl]
  refine fn_rule rfl ?_
  show wpS (D__law_next (callD prog k) [some (.ref 0), some (.dat (.int m)), none] (st s n :: hs)) _ _
  have hl : 0 < (s.length : Int) := by omega
  have hl2 : (s.length : Int) < 1073741824 := by omega
  have q0 : 0 ≤ (n + 1) / (s.length : Int) := Int.ediv_nonneg (by omega) (by omega)
  have q1 : (n + 1) / (s.length : Int) ≤ n + 1 := Int.ediv_le_self _ (by omega)
  obtain ⟨x, ex, hx⟩ := atI_mem (xs := s.map PyData.int) (i := (n + 1) % (s.length : Int)) (Int.emod_nonneg _ (by omega)) (by rw [List.length_map]; exact Int.emod_lt_of_pos _ hl)
  obtain ⟨y, _, rfl⟩ := List.mem_map.mp hx
  simp only [D__law_next, st, s_nil, s_brk, s_cont, s_seq, s_expr, s_ret, s_retN, s_set, s_setL, s_newL, s_unp, s_par, s_aug, s_six, s_if, s_for, w_var, w_mv2, mvK_d, mvK_r, w_c, w_bin, w_un, w_tst, w_and, w_or, w_not, w_andV, w_orV, w_notV, w_if, w_nil, w_cons, w_tup, w_lst, w_as, w_bc, w_lc, w_call, w_no, w_some, w_slice, w_app, w_ext, w_pop, w_seqD, w_rng1, w_comp, wpR_ok, optK_some, boolK_b, intK_i, oneK_d, oneL_d, twoK_2, sixK_r, rngK_i, rtK_d, peek_d, peek_r, peeks_n, peeks_c, own_r, lst_z, lst_s, Option.map_some, Option.bind_some, Option.join_some, List.getElem?_cons_zero, List.getElem?_cons_succ, List.set_cons_zero, List.set_cons_succ, List.map_cons, List.map_nil, List.cons_append, List.nil_append, List.replicate_succ, List.replicate_zero, Nat.sub_self, datsV_n, datsV_d, wipe_n, wipe_c, setG_n, setG_t, setGs_n, setGs_c, ix_l, ix_t, atI_0, atI_1, atI_2, atI_3, add_i, sub_i, iadd_i, lt_i, le_i, gt_i, ge_i, eq_i, eq_s, len_l, len_t, int_i, abs_i, max_i, tuple_l, tuple_t, sizeLine_val, w_enum, w_isi, w_fmt, w_jnil, w_jcons, w_join, vK_1, strK_s, ne_i, ne_s, s_raise, s_try, wpR_exc, errIx0, errIx1, errIx2, errIx3, errWord0, errWord1, errWord2, errWord3, w_zip, zipK_2, row_l, row_t, w_back, backK_t, neg_i, w_ssetT, tupK_t, w_callI, callK_0, w_mulLD, mulK_l, w_disp, w_din, w_dget, one1_v, w_dlen, w_glue, w_upperD, w_dvals, s_dput, keyV_i, keyV_s, datV_d, strV_s, refOf_r, dctV_r, dct_z, dct_s, xor_tr, xor_fl, seqOf_l, seqOf_t, List.length_cons, List.length_nil, ixN_1, List.length_map, div_i hl hl2, mod_i hl, ex]
  rw [mul_r (by decide) (by decide)]
  simp only [s_nil, s_brk, s_cont, s_seq, s_expr, s_ret, s_retN, s_set, s_setL, s_newL, s_unp, s_par, s_aug, s_six, s_if, s_for, w_var, w_mv2, mvK_d, mvK_r, w_c, w_bin, w_un, w_tst, w_and, w_or, w_not, w_andV, w_orV, w_notV, w_if, w_nil, w_cons, w_tup, w_lst, w_as, w_bc, w_lc, w_call, w_no, w_some, w_slice, w_app, w_ext, w_pop, w_seqD, w_rng1, w_comp, wpR_ok, optK_some, boolK_b, intK_i, oneK_d, oneL_d, twoK_2, sixK_r, rngK_i, rtK_d, peek_d, peek_r, peeks_n, peeks_c, own_r, lst_z, lst_s, Option.map_some, Option.bind_some, Option.join_some, List.getElem?_cons_zero, List.getElem?_cons_succ, List.set_cons_zero, List.set_cons_succ, List.map_cons, List.map_nil, List.cons_append, List.nil_append, List.replicate_succ, List.replicate_zero, Nat.sub_self, datsV_n, datsV_d, wipe_n, wipe_c, setG_n, setG_t, setGs_n, setGs_c, ix_l, ix_t, atI_0, atI_1, atI_2, atI_3, add_i, sub_i, iadd_i, lt_i, le_i, gt_i, ge_i, eq_i, eq_s, len_l, len_t, int_i, abs_i, max_i, tuple_l, tuple_t, sizeLine_val, w_enum, w_isi, w_fmt, w_jnil, w_jcons, w_join, vK_1, strK_s, ne_i, ne_s, s_raise, s_try, wpR_exc, errIx0, errIx1, errIx2, errIx3, errWord0, errWord1, errWord2, errWord3, w_zip, zipK_2, row_l, row_t, w_back, backK_t, neg_i, w_ssetT, tupK_t, w_callI, callK_0, w_mulLD, mulK_l, w_disp, w_din, w_dget, one1_v, w_dlen, w_glue, w_upperD, w_dvals, s_dput, keyV_i, keyV_s, datV_d, strV_s, refOf_r, dctV_r, dct_z, dct_s, xor_tr, xor_fl, seqOf_l, seqOf_t]
  rw [mul_l (by omega) (by omega)]
  simp only [s_nil, s_brk, s_cont, s_seq, s_expr, s_ret, s_retN, s_set, s_setL, s_newL, s_unp, s_par, s_aug, s_six, s_if, s_for, w_var, w_mv2, mvK_d, mvK_r, w_c, w_bin, w_un, w_tst, w_and, w_or, w_not, w_andV, w_orV, w_notV, w_if, w_nil, w_cons, w_tup, w_lst, w_as, w_bc, w_lc, w_call, w_no, w_some, w_slice, w_app, w_ext, w_pop, w_seqD, w_rng1, w_comp, wpR_ok, optK_some, boolK_b, intK_i, oneK_d, oneL_d, twoK_2, sixK_r, rngK_i, rtK_d, peek_d, peek_r, peeks_n, peeks_c, own_r, lst_z, lst_s, Option.map_some, Option.bind_some, Option.join_some, List.getElem?_cons_zero, List.getElem?_cons_succ, List.set_cons_zero, List.set_cons_succ, List.map_cons, List.map_nil, List.cons_append, List.nil_append, List.replicate_succ, List.replicate_zero, Nat.sub_self, datsV_n, datsV_d, wipe_n, wipe_c, setG_n, setG_t, setGs_n, setGs_c, ix_l, ix_t, atI_0, atI_1, atI_2, atI_3, add_i, sub_i, iadd_i, lt_i, le_i, gt_i, ge_i, eq_i, eq_s, len_l, len_t, int_i, abs_i, max_i, tuple_l, tuple_t, sizeLine_val, w_enum, w_isi, w_fmt, w_jnil, w_jcons, w_join, vK_1, strK_s, ne_i, ne_s, s_raise, s_try, wpR_exc, errIx0, errIx1, errIx2, errIx3, errWord0, errWord1, errWord2, errWord3, w_zip, zipK_2, row_l, row_t, w_back, backK_t, neg_i, w_ssetT, tupK_t, w_callI, callK_0, w_mulLD, mulK_l, w_disp, w_din, w_dget, one1_v, w_dlen, w_glue, w_upperD, w_dvals, s_dput, keyV_i, keyV_s, datV_d, strV_s, refOf_r, dctV_r, dct_z, dct_s, xor_tr, xor_fl, seqOf_l, seqOf_t]
  rw [mul_r (by decide) (by decide)]
  simp only [s_nil, s_brk, s_cont, s_seq, s_expr, s_ret, s_retN, s_set, s_setL, s_newL, s_unp, s_par, s_aug, s_six, s_if, s_for, w_var, w_mv2, mvK_d, mvK_r, w_c, w_bin, w_un, w_tst, w_and, w_or, w_not, w_andV, w_orV, w_notV, w_if, w_nil, w_cons, w_tup, w_lst, w_as, w_bc, w_lc, w_call, w_no, w_some, w_slice, w_app, w_ext, w_pop, w_seqD, w_rng1, w_comp, wpR_ok, optK_some, boolK_b, intK_i, oneK_d, oneL_d, twoK_2, sixK_r, rngK_i, rtK_d, peek_d, peek_r, peeks_n, peeks_c, own_r, lst_z, lst_s, Option.map_some, Option.bind_some, Option.join_some, List.getElem?_cons_zero, List.getElem?_cons_succ, List.set_cons_zero, List.set_cons_succ, List.map_cons, List.map_nil, List.cons_append, List.nil_append, List.replicate_succ, List.replicate_zero, Nat.sub_self, datsV_n, datsV_d, wipe_n, wipe_c, setG_n, setG_t, setGs_n, setGs_c, ix_l, ix_t, atI_0, atI_1, atI_2, atI_3, add_i, sub_i, iadd_i, lt_i, le_i, gt_i, ge_i, eq_i, eq_s, len_l, len_t, int_i, abs_i, max_i, tuple_l, tuple_t, sizeLine_val, w_enum, w_isi, w_fmt, w_jnil, w_jcons, w_join, vK_1, strK_s, ne_i, ne_s, s_raise, s_try, wpR_exc, errIx0, errIx1, errIx2, errIx3, errWord0, errWord1, errWord2, errWord3, w_zip, zipK_2, row_l, row_t, w_back, backK_t, neg_i, w_ssetT, tupK_t, w_callI, callK_0, w_mulLD, mulK_l, w_disp, w_din, w_dget, one1_v, w_dlen, w_glue, w_upperD, w_dvals, s_dput, keyV_i, keyV_s, datV_d, strV_s, refOf_r, dctV_r, dct_z, dct_s, xor_tr, xor_fl, seqOf_l, seqOf_t, mod_i hm]
  refine ⟨_, rfl, Int.emod_nonneg _ (by omega), Int.emod_lt_of_pos _ hm, ?_⟩
  rw [List.take_of_length_le (by simp)]
end Pg
end

section
namespace Pg
open PySem PySem.Spec PyProof.Rows L2 Dn
theorem pow18 : powD (.int 10) (.int 18) = some (.int 1000000000000000000) := by
  show (if powC 10 18 = true then some (PyData.int (10 ^ (18 : Int).toNat)) else none) = _
  rw [if_pos (by decide)]
  rfl
theorem cut_ints (ns : List Int) (lo hi : Option Int) : ∃ ms : List Int, cutDs (ns.map .int) lo hi = ms.map .int ∧ ms.length ≤ ns.length := by
  unfold cutDs
  refine ⟨(ns.drop (HT.sIx (ns.map PyData.int).length 0 lo)).take (HT.sIx (ns.map PyData.int).length (ns.map PyData.int).length hi - HT.sIx (ns.map PyData.int).length 0 lo), ?_, ?_⟩
  · rw [List.map_take, List.map_drop]
  · rw [List.length_take, List.length_drop]
    omega
/-- an own list of whole numbers -/
def nums (xs : List Int) : Option HObj := some (.lst (xs.map .int))
theorem nums_app (xs : List Int) (y : Int) : some (HObj.lst (xs.map PyData.int ++ [.int y])) = nums (xs ++ [y]) := by simp [nums]
theorem ckn (xs : List PyData) (h : Hl) : ckD ⟨xs, none⟩ h = true := rfl
theorem stream_spec {k : Nat} {ns : List Int} (hn : ns.length ≤ 63) : wpR (callD prog (k + 1) i__law_stream [.scr ns] []) (fun v h => ∃ s : List Int, v = .dat (.list (s.map .int)) ∧ 0 < s.length ∧ s.length < 4000 ∧ h = []) noX := by
  rw [call_at (r := r__law_stream) rfl]
  refine fn_rule rfl ?_
  show wpS (D__law_stream (callD prog k) [some (.scr ns), none, none, none, none, none] []) _ _
  obtain ⟨ms, e1, e2⟩ := cut_ints ns none (some 63)
  simp only [D__law_stream, s_nil, s_brk, s_cont, s_seq, s_expr, s_ret, s_retN, s_set, s_setL, s_newL, s_unp, s_par, s_aug, s_six, s_if, s_for, w_var, w_mv2, mvK_d, mvK_r, w_c, w_bin, w_un, w_tst, w_and, w_or, w_not, w_andV, w_orV, w_notV, w_if, w_nil, w_cons, w_tup, w_lst, w_as, w_bc, w_lc, w_call, w_no, w_some, w_slice, w_app, w_ext, w_pop, w_seqD, w_rng1, w_comp, wpR_ok, optK_some, boolK_b, intK_i, oneK_d, oneL_d, twoK_2, sixK_r, rngK_i, rtK_d, peek_d, peek_r, peeks_n, peeks_c, own_r, lst_z, lst_s, Option.map_some, Option.bind_some, Option.join_some, List.getElem?_cons_zero, List.getElem?_cons_succ, List.set_cons_zero, List.set_cons_succ, List.map_cons, List.map_nil, List.cons_append, List.nil_append, List.replicate_succ, List.replicate_zero, Nat.sub_self, datsV_n, datsV_d, wipe_n, wipe_c, setG_n, setG_t, setGs_n, setGs_c, ix_l, ix_t, atI_0, atI_1, atI_2, atI_3, add_i, sub_i, iadd_i, lt_i, le_i, gt_i, ge_i, eq_i, eq_s, len_l, len_t, int_i, abs_i, max_i, tuple_l, tuple_t, sizeLine_val, w_enum, w_isi, w_fmt, w_jnil, w_jcons, w_join, vK_1, strK_s, ne_i, ne_s, s_raise, s_try, wpR_exc, errIx0, errIx1, errIx2, errIx3, errWord0, errWord1, errWord2, errWord3, w_zip, zipK_2, row_l, row_t, w_back, backK_t, neg_i, w_ssetT, tupK_t, w_callI, callK_0, w_mulLD, mulK_l, w_disp, w_din, w_dget, one1_v, w_dlen, w_glue, w_upperD, w_dvals, s_dput, keyV_i, keyV_s, datV_d, strV_s, refOf_r, dctV_r, dct_z, dct_s, xor_tr, xor_fl, seqOf_l, seqOf_t, List.length_nil, List.length_cons, slV, e1, itemsOf]
  refine ⟨by omega, ?_⟩
  refine for_rule (fun ds ρ h => ∃ (xs ys : List Int) (a b c d : Option Val), ds = ys.map .int ∧ ρ = [some (.scr ns), some (.ref 0), a, b, c, d] ∧ h = [nums xs] ∧ xs.length + 60 * ys.length ≤ 3780) (fun d ds ρ h I => ?_) (fun ρ h I => ?_) _ _ _ ⟨[], ms, none, none, none, none, rfl, rfl, rfl, by simp; omega⟩
  · obtain ⟨xs, ys, a, b, c, d', e3, rfl, rfl, hl⟩ := I
    cases ys with
    | nil => cases e3
    | cons y ys =>
      cases e3
      rw [List.length_cons] at hl
      refine ⟨rfl, ?_⟩
      simp only [s_nil, s_brk, s_cont, s_seq, s_expr, s_ret, s_retN, s_set, s_setL, s_newL, s_unp, s_par, s_aug, s_six, s_if, s_for, w_var, w_mv2, mvK_d, mvK_r, w_c, w_bin, w_un, w_tst, w_and, w_or, w_not, w_andV, w_orV, w_notV, w_if, w_nil, w_cons, w_tup, w_lst, w_as, w_bc, w_lc, w_call, w_no, w_some, w_slice, w_app, w_ext, w_pop, w_seqD, w_rng1, w_comp, wpR_ok, optK_some, boolK_b, intK_i, oneK_d, oneL_d, twoK_2, sixK_r, rngK_i, rtK_d, peek_d, peek_r, peeks_n, peeks_c, own_r, lst_z, lst_s, Option.map_some, Option.bind_some, Option.join_some, List.getElem?_cons_zero, List.getElem?_cons_succ, List.set_cons_zero, List.set_cons_succ, List.map_cons, List.map_nil, List.cons_append, List.nil_append, List.replicate_succ, List.replicate_zero, Nat.sub_self, datsV_n, datsV_d, wipe_n, wipe_c, setG_n, setG_t, setGs_n, setGs_c, ix_l, ix_t, atI_0, atI_1, atI_2, atI_3, add_i, sub_i, iadd_i, lt_i, le_i, gt_i, ge_i, eq_i, eq_s, len_l, len_t, int_i, abs_i, max_i, tuple_l, tuple_t, sizeLine_val, w_enum, w_isi, w_fmt, w_jnil, w_jcons, w_join, vK_1, strK_s, ne_i, ne_s, s_raise, s_try, wpR_exc, errIx0, errIx1, errIx2, errIx3, errWord0, errWord1, errWord2, errWord3, w_zip, zipK_2, row_l, row_t, w_back, backK_t, neg_i, w_ssetT, tupK_t, w_callI, callK_0, w_mulLD, mulK_l, w_disp, w_din, w_dget, one1_v, w_dlen, w_glue, w_upperD, w_dvals, s_dput, keyV_i, keyV_s, datV_d, strV_s, refOf_r, dctV_r, dct_z, dct_s, xor_tr, xor_fl, seqOf_l, seqOf_t, pow18, nums, mod_i (show (0 : Int) < 2147483647 by decide)]
      generalize (if y < 0 then -y else y) = r0
      split
      · -- large
        refine ⟨by decide, ?_⟩
        refine for_rule (fun ds ρ h => ∃ (xs : List Int) (a b c d : Option Val) (r : Int), ρ = [some (.scr ns), some (.ref 0), a, some (.dat (.int r)), c, d] ∧ h = [nums xs] ∧ xs.length + ds.length + 60 * ys.length ≤ 3780) (fun d ds ρ h I => ?_) (fun ρ h I => ?_) _ _ _ ⟨xs, _, none, _, _, _, rfl, rfl, by simp [rngItems]; omega⟩
        · obtain ⟨xs, a, b, c, d', r, rfl, rfl, hl⟩ := I
          rw [List.length_cons] at hl
          refine ⟨rfl, ?_⟩
          simp only [s_nil, s_brk, s_cont, s_seq, s_expr, s_ret, s_retN, s_set, s_setL, s_newL, s_unp, s_par, s_aug, s_six, s_if, s_for, w_var, w_mv2, mvK_d, mvK_r, w_c, w_bin, w_un, w_tst, w_and, w_or, w_not, w_andV, w_orV, w_notV, w_if, w_nil, w_cons, w_tup, w_lst, w_as, w_bc, w_lc, w_call, w_no, w_some, w_slice, w_app, w_ext, w_pop, w_seqD, w_rng1, w_comp, wpR_ok, optK_some, boolK_b, intK_i, oneK_d, oneL_d, twoK_2, sixK_r, rngK_i, rtK_d, peek_d, peek_r, peeks_n, peeks_c, own_r, lst_z, lst_s, Option.map_some, Option.bind_some, Option.join_some, List.getElem?_cons_zero, List.getElem?_cons_succ, List.set_cons_zero, List.set_cons_succ, List.map_cons, List.map_nil, List.cons_append, List.nil_append, List.replicate_succ, List.replicate_zero, Nat.sub_self, datsV_n, datsV_d, wipe_n, wipe_c, setG_n, setG_t, setGs_n, setGs_c, ix_l, ix_t, atI_0, atI_1, atI_2, atI_3, add_i, sub_i, iadd_i, lt_i, le_i, gt_i, ge_i, eq_i, eq_s, len_l, len_t, int_i, abs_i, max_i, tuple_l, tuple_t, sizeLine_val, w_enum, w_isi, w_fmt, w_jnil, w_jcons, w_join, vK_1, strK_s, ne_i, ne_s, s_raise, s_try, wpR_exc, errIx0, errIx1, errIx2, errIx3, errWord0, errWord1, errWord2, errWord3, w_zip, zipK_2, row_l, row_t, w_back, backK_t, neg_i, w_ssetT, tupK_t, w_callI, callK_0, w_mulLD, mulK_l, w_disp, w_din, w_dget, one1_v, w_dlen, w_glue, w_upperD, w_dvals, s_dput, keyV_i, keyV_s, datV_d, strV_s, refOf_r, dctV_r, dct_z, dct_s, xor_tr, xor_fl, seqOf_l, seqOf_t, nums, mod_i (show (0 : Int) < 1009 by decide), div_i (show (0 : Int) < 1009 by decide) (by decide), List.length_map]
          refine ⟨by omega, ?_⟩
          simp only [nums_app]
          split
          · exact ⟨_, ys, _, _, _, _, rfl, rfl, rfl, by simp; omega⟩
          · exact ⟨_, _, none, _, _, _, rfl, rfl, by simp; omega⟩
        · obtain ⟨xs, a, b, c, d', r, rfl, rfl, hl⟩ := I
          refine ⟨rfl, xs, ys, _, _, _, _, rfl, rfl, rfl, by simp at hl; omega⟩
      · refine ⟨by decide, ?_⟩
        refine for_rule (fun ds ρ h => ∃ (xs : List Int) (a b c : Option Val) (r : Int) (zs : List Int), ds = zs.map .int ∧ ρ = [some (.scr ns), some (.ref 0), a, b, c, some (.dat (.int r))] ∧ h = [nums xs] ∧ xs.length + ds.length + 60 * ys.length ≤ 3780) (fun d ds ρ h I => ?_) (fun ρ h I => ?_) _ _ _ ⟨xs, _, _, _, _, (List.range 10).map fun (i : Nat) => (0 : Int) + (i : Int), by simp [rngItems], rfl, rfl, by simp [rngItems]; omega⟩
        · obtain ⟨xs, a, b, c, r, zs, ez, rfl, rfl, hl⟩ := I
          cases zs with
          | nil => cases ez
          | cons z zs =>
            cases ez
            rw [List.length_cons] at hl
            refine ⟨rfl, ?_⟩
            simp only [s_nil, s_brk, s_cont, s_seq, s_expr, s_ret, s_retN, s_set, s_setL, s_newL, s_unp, s_par, s_aug, s_six, s_if, s_for, w_var, w_mv2, mvK_d, mvK_r, w_c, w_bin, w_un, w_tst, w_and, w_or, w_not, w_andV, w_orV, w_notV, w_if, w_nil, w_cons, w_tup, w_lst, w_as, w_bc, w_lc, w_call, w_no, w_some, w_slice, w_app, w_ext, w_pop, w_seqD, w_rng1, w_comp, wpR_ok, optK_some, boolK_b, intK_i, oneK_d, oneL_d, twoK_2, sixK_r, rngK_i, rtK_d, peek_d, peek_r, peeks_n, peeks_c, own_r, lst_z, lst_s, Option.map_some, Option.bind_some, Option.join_some, List.getElem?_cons_zero, List.getElem?_cons_succ, List.set_cons_zero, List.set_cons_succ, List.map_cons, List.map_nil, List.cons_append, List.nil_append, List.replicate_succ, List.replicate_zero, Nat.sub_self, datsV_n, datsV_d, wipe_n, wipe_c, setG_n, setG_t, setGs_n, setGs_c, ix_l, ix_t, atI_0, atI_1, atI_2, atI_3, add_i, sub_i, iadd_i, lt_i, le_i, gt_i, ge_i, eq_i, eq_s, len_l, len_t, int_i, abs_i, max_i, tuple_l, tuple_t, sizeLine_val, w_enum, w_isi, w_fmt, w_jnil, w_jcons, w_join, vK_1, strK_s, ne_i, ne_s, s_raise, s_try, wpR_exc, errIx0, errIx1, errIx2, errIx3, errWord0, errWord1, errWord2, errWord3, w_zip, zipK_2, row_l, row_t, w_back, backK_t, neg_i, w_ssetT, tupK_t, w_callI, callK_0, w_mulLD, mulK_l, w_disp, w_din, w_dget, one1_v, w_dlen, w_glue, w_upperD, w_dvals, s_dput, keyV_i, keyV_s, datV_d, strV_s, refOf_r, dctV_r, dct_z, dct_s, xor_tr, xor_fl, seqOf_l, seqOf_t, nums, mod_i (show (0 : Int) < 1009 by decide), mod_i (show (0 : Int) < 2147483647 by decide), mod_i (show (0 : Int) < 2147483629 by decide), mul_r (show -(2 ^ 64 : Int) < 48271 by decide) (by decide), mul_r (show -(2 ^ 64 : Int) < 69621 by decide) (by decide), mul_l (show -(2 ^ 64 : Int) < 7 by decide) (by decide), List.length_map]
            refine ⟨by omega, ?_⟩
            simp only [nums_app]
            exact ⟨_, _, _, _, _, _, rfl, rfl, rfl, by simp at hl ⊢; omega⟩
        · obtain ⟨xs, a, b, c, r, zs, ez, rfl, rfl, hl⟩ := I
          refine ⟨rfl, xs, ys, _, _, _, _, rfl, rfl, rfl, by simp at hl; omega⟩
  · obtain ⟨xs, ys, a, b, c, d, e3, rfl, rfl, hl⟩ := I
    refine ⟨rfl, ?_⟩
    cases ys with
    | cons y ys => cases e3
    | nil =>
      simp only [s_nil, s_brk, s_cont, s_seq, s_expr, s_ret, s_retN, s_set, s_setL, s_newL, s_unp, s_par, s_aug, s_six, s_if, s_for, w_var, w_mv2, mvK_d, mvK_r, w_c, w_bin, w_un, w_tst, w_and, w_or, w_not, w_andV, w_orV, w_notV, w_if, w_nil, w_cons, w_tup, w_lst, w_as, w_bc, w_lc, w_call, w_no, w_some, w_slice, w_app, w_ext, w_pop, w_seqD, w_rng1, w_comp, wpR_ok, optK_some, boolK_b, intK_i, oneK_d, oneL_d, twoK_2, sixK_r, rngK_i, rtK_d, peek_d, peek_r, peeks_n, peeks_c, own_r, lst_z, lst_s, Option.map_some, Option.bind_some, Option.join_some, List.getElem?_cons_zero, List.getElem?_cons_succ, List.set_cons_zero, List.set_cons_succ, List.map_cons, List.map_nil, List.cons_append, List.nil_append, List.replicate_succ, List.replicate_zero, Nat.sub_self, datsV_n, datsV_d, wipe_n, wipe_c, setG_n, setG_t, setGs_n, setGs_c, ix_l, ix_t, atI_0, atI_1, atI_2, atI_3, add_i, sub_i, iadd_i, lt_i, le_i, gt_i, ge_i, eq_i, eq_s, len_l, len_t, int_i, abs_i, max_i, tuple_l, tuple_t, sizeLine_val, w_enum, w_isi, w_fmt, w_jnil, w_jcons, w_join, vK_1, strK_s, ne_i, ne_s, s_raise, s_try, wpR_exc, errIx0, errIx1, errIx2, errIx3, errWord0, errWord1, errWord2, errWord3, w_zip, zipK_2, row_l, row_t, w_back, backK_t, neg_i, w_ssetT, tupK_t, w_callI, callK_0, w_mulLD, mulK_l, w_disp, w_din, w_dget, one1_v, w_dlen, w_glue, w_upperD, w_dvals, s_dput, keyV_i, keyV_s, datV_d, strV_s, refOf_r, dctV_r, dct_z, dct_s, xor_tr, xor_fl, seqOf_l, seqOf_t, nums, List.length_map]
      split
      · refine ⟨by rename_i q; simp at hl; omega, ?_⟩
        rename_i q
        simp only [nums_app]
        rw [rtK_r (Nat.le_refl _)]
        refine ⟨xs ++ [0], by simp [nums], by simp, by simp at hl ⊢; omega, rfl⟩
      · rename_i q
        rw [rtK_r (Nat.le_refl _)]
        refine ⟨xs, rfl, ?_, by simp at hl; omega, rfl⟩
        cases xs with
        | nil => exact absurd (by decide) q
        | cons x xs => simp
end Pg
end

section
namespace Pg
open PySem PySem.Spec PyProof.Rows L2 Dn
abbrev firstS : Str := "abcdefghijklmnopqrstuvwxyz"
abbrev signsS : Str := "abcdefghijklmnopqrstuvwxyz0123456789"
def inS (c : Nat) (t : Str) : Bool := decide (c ∈ t.cps.toList)
/-- is_name -/
def nameB (z : Str) : Bool := if (z.length < 1 ∨ 12 < z.length ∨ z = "any" ∨ (z.cps.toList.head?.any fun c => !inS c firstS) = true) then false else z.cps.toList.all fun c => inS c signsS
theorem in_sign {c : Nat} {t : Str} : inSq false (.str ⟨#[c]⟩) (.str t) = some (.bool (inS c t)) := by
  show some (PyData.bool (xor false (decide (c ∈ t.cps.toList)))) = _
  rw [xor_f]
  rfl
theorem notin_sign {c : Nat} {t : Str} : inSq true (.str ⟨#[c]⟩) (.str t) = some (.bool (!inS c t)) := by
  show some (PyData.bool (xor true (decide (c ∈ t.cps.toList)))) = _
  rw [xor_t]
  rfl
theorem ix_s {z : Str} {i : Int} (h : z.length ≤ sizeLine) : ixD (.str z) (.int i) = (atI z.cps.toList i).map fun c => .str ⟨#[c]⟩ := by
  show (if z.length ≤ sizeLine then _ else _) = _
  rw [if_pos h]
theorem is_name_spec {k : Nat} {z : Str} {h : Hl} (hz : z.length ≤ sizeLine) : callD prog (k + 1) i_is_name [.dat (.str z)] h = .ok (.dat (.bool (nameB z))) h := by
  refine wpR_eq ?_
  rw [call_at (r := r_is_name) rfl]
  refine fn_rule rfl ?_
  show wpS (D_is_name (callD prog k) [some (.dat (.str z)), none] h) _ _
  have e0 : z.cps.toList.length = z.length := by simp [Str.length]
  have all : wpS (seqS (retS (bcD allD (consD (asD (compD (seqD (varD 0)) [1] (.nm 1) yesD (binD (inSq false) (varD 1) (cD (.str "abcdefghijklmnopqrstuvwxyz0123456789"))))) nilD))) nilS [some (.dat (.str z)), none] h) (fun _ h' => (Val.dat PyData.none = .dat (.bool (nameB z)) ∧ h'.take h.length = h)) { rt := fun v h' => rtK h.length v h' (fun b g => b = .dat (.bool (z.cps.toList.all fun c => inS c signsS)) ∧ g = h), ex := fun e _ h' => noX e (h'.take h.length) } := by
    simp only [s_nil, s_brk, s_cont, s_seq, s_expr, s_ret, s_retN, s_set, s_setL, s_newL, s_unp, s_par, s_aug, s_six, s_if, s_for, w_var, w_mv2, mvK_d, mvK_r, w_c, w_bin, w_un, w_tst, w_and, w_or, w_not, w_andV, w_orV, w_notV, w_if, w_nil, w_cons, w_tup, w_lst, w_as, w_bc, w_lc, w_call, w_no, w_some, w_slice, w_app, w_ext, w_pop, w_seqD, w_rng1, w_comp, wpR_ok, optK_some, boolK_b, intK_i, oneK_d, oneL_d, twoK_2, sixK_r, rngK_i, rtK_d, peek_d, peek_r, peeks_n, peeks_c, own_r, lst_z, lst_s, Option.map_some, Option.bind_some, Option.join_some, List.getElem?_cons_zero, List.getElem?_cons_succ, List.set_cons_zero, List.set_cons_succ, List.map_cons, List.map_nil, List.cons_append, List.nil_append, List.replicate_succ, List.replicate_zero, Nat.sub_self, datsV_n, datsV_d, wipe_n, wipe_c, setG_n, setG_t, setGs_n, setGs_c, ix_l, ix_t, atI_0, atI_1, atI_2, atI_3, add_i, sub_i, iadd_i, lt_i, le_i, gt_i, ge_i, eq_i, eq_s, len_l, len_t, int_i, abs_i, max_i, tuple_l, tuple_t, sizeLine_val, w_enum, w_isi, w_fmt, w_jnil, w_jcons, w_join, vK_1, strK_s, ne_i, ne_s, s_raise, s_try, wpR_exc, errIx0, errIx1, errIx2, errIx3, errWord0, errWord1, errWord2, errWord3, w_zip, zipK_2, row_l, row_t, w_back, backK_t, neg_i, w_ssetT, tupK_t, w_callI, callK_0, w_mulLD, mulK_l, w_disp, w_din, w_dget, one1_v, w_dlen, w_glue, w_upperD, w_dvals, s_dput, keyV_i, keyV_s, datV_d, strV_s, refOf_r, dctV_r, dct_z, dct_s, xor_tr, xor_fl, seqOf_l, seqOf_t, itemsOf]
    rw [comp_map (fun d => match d with | .str w => .bool (w.cps.toList.all fun c => inS c signsS) | _ => .none) _ _ (by rfl) (by simp [signsD, e0]; omega) (fun d hd => ?_)]
    · simp only [s_nil, s_brk, s_cont, s_seq, s_expr, s_ret, s_retN, s_set, s_setL, s_newL, s_unp, s_par, s_aug, s_six, s_if, s_for, w_var, w_mv2, mvK_d, mvK_r, w_c, w_bin, w_un, w_tst, w_and, w_or, w_not, w_andV, w_orV, w_notV, w_if, w_nil, w_cons, w_tup, w_lst, w_as, w_bc, w_lc, w_call, w_no, w_some, w_slice, w_app, w_ext, w_pop, w_seqD, w_rng1, w_comp, wpR_ok, optK_some, boolK_b, intK_i, oneK_d, oneL_d, twoK_2, sixK_r, rngK_i, rtK_d, peek_d, peek_r, peeks_n, peeks_c, own_r, lst_z, lst_s, Option.map_some, Option.bind_some, Option.join_some, List.getElem?_cons_zero, List.getElem?_cons_succ, List.set_cons_zero, List.set_cons_succ, List.map_cons, List.map_nil, List.cons_append, List.nil_append, List.replicate_succ, List.replicate_zero, Nat.sub_self, datsV_n, datsV_d, wipe_n, wipe_c, setG_n, setG_t, setGs_n, setGs_c, ix_l, ix_t, atI_0, atI_1, atI_2, atI_3, add_i, sub_i, iadd_i, lt_i, le_i, gt_i, ge_i, eq_i, eq_s, len_l, len_t, int_i, abs_i, max_i, tuple_l, tuple_t, sizeLine_val, w_enum, w_isi, w_fmt, w_jnil, w_jcons, w_join, vK_1, strK_s, ne_i, ne_s, s_raise, s_try, wpR_exc, errIx0, errIx1, errIx2, errIx3, errWord0, errWord1, errWord2, errWord3, w_zip, zipK_2, row_l, row_t, w_back, backK_t, neg_i, w_ssetT, tupK_t, w_callI, callK_0, w_mulLD, mulK_l, w_disp, w_din, w_dget, one1_v, w_dlen, w_glue, w_upperD, w_dvals, s_dput, keyV_i, keyV_s, datV_d, strV_s, refOf_r, dctV_r, dct_z, dct_s, xor_tr, xor_fl, seqOf_l, seqOf_t, signsD, List.map_map]
      rw [show ((fun d => match d with | .str w => .bool (w.cps.toList.all fun c => inS c signsS) | _ => .none) ∘ fun c => PyData.str ⟨#[c]⟩) = fun c => PyData.bool (inS c signsS) from by funext c; simp]
      rw [all_map, optK_some]
      exact ⟨rfl, List.take_length⟩
    · obtain ⟨c, _, rfl⟩ := List.mem_map.mp hd
      simp only [s_nil, s_brk, s_cont, s_seq, s_expr, s_ret, s_retN, s_set, s_setL, s_newL, s_unp, s_par, s_aug, s_six, s_if, s_for, w_var, w_mv2, mvK_d, mvK_r, w_c, w_bin, w_un, w_tst, w_and, w_or, w_not, w_andV, w_orV, w_notV, w_if, w_nil, w_cons, w_tup, w_lst, w_as, w_bc, w_lc, w_call, w_no, w_some, w_slice, w_app, w_ext, w_pop, w_seqD, w_rng1, w_comp, wpR_ok, optK_some, boolK_b, intK_i, oneK_d, oneL_d, twoK_2, sixK_r, rngK_i, rtK_d, peek_d, peek_r, peeks_n, peeks_c, own_r, lst_z, lst_s, Option.map_some, Option.bind_some, Option.join_some, List.getElem?_cons_zero, List.getElem?_cons_succ, List.set_cons_zero, List.set_cons_succ, List.map_cons, List.map_nil, List.cons_append, List.nil_append, List.replicate_succ, List.replicate_zero, Nat.sub_self, datsV_n, datsV_d, wipe_n, wipe_c, setG_n, setG_t, setGs_n, setGs_c, ix_l, ix_t, atI_0, atI_1, atI_2, atI_3, add_i, sub_i, iadd_i, lt_i, le_i, gt_i, ge_i, eq_i, eq_s, len_l, len_t, int_i, abs_i, max_i, tuple_l, tuple_t, sizeLine_val, w_enum, w_isi, w_fmt, w_jnil, w_jcons, w_join, vK_1, strK_s, ne_i, ne_s, s_raise, s_try, wpR_exc, errIx0, errIx1, errIx2, errIx3, errWord0, errWord1, errWord2, errWord3, w_zip, zipK_2, row_l, row_t, w_back, backK_t, neg_i, w_ssetT, tupK_t, w_callI, callK_0, w_mulLD, mulK_l, w_disp, w_din, w_dget, one1_v, w_dlen, w_glue, w_upperD, w_dvals, s_dput, keyV_i, keyV_s, datV_d, strV_s, refOf_r, dctV_r, dct_z, dct_s, xor_tr, xor_fl, seqOf_l, seqOf_t, in_sign]
      simp
  simp only [D_is_name, s_seq, s_if, w_or, w_tst, w_bin, w_bc, s_nil, s_brk, s_cont, s_seq, s_expr, s_ret, s_retN, s_set, s_setL, s_newL, s_unp, s_par, s_aug, s_six, s_if, s_for, w_var, w_mv2, mvK_d, mvK_r, w_c, w_bin, w_un, w_tst, w_and, w_or, w_not, w_andV, w_orV, w_notV, w_if, w_nil, w_cons, w_tup, w_lst, w_as, w_bc, w_lc, w_call, w_no, w_some, w_slice, w_app, w_ext, w_pop, w_seqD, w_rng1, w_comp, wpR_ok, optK_some, boolK_b, intK_i, oneK_d, oneL_d, twoK_2, sixK_r, rngK_i, rtK_d, peek_d, peek_r, peeks_n, peeks_c, own_r, lst_z, lst_s, Option.map_some, Option.bind_some, Option.join_some, List.getElem?_cons_zero, List.getElem?_cons_succ, List.set_cons_zero, List.set_cons_succ, List.map_cons, List.map_nil, List.cons_append, List.nil_append, List.replicate_succ, List.replicate_zero, Nat.sub_self, datsV_n, datsV_d, wipe_n, wipe_c, setG_n, setG_t, setGs_n, setGs_c, ix_l, ix_t, atI_0, atI_1, atI_2, atI_3, add_i, sub_i, iadd_i, lt_i, le_i, gt_i, ge_i, eq_i, eq_s, len_l, len_t, int_i, abs_i, max_i, tuple_l, tuple_t, sizeLine_val, w_enum, w_isi, w_fmt, w_jnil, w_jcons, w_join, vK_1, strK_s, ne_i, ne_s, s_raise, s_try, wpR_exc, errIx0, errIx1, errIx2, errIx3, errWord0, errWord1, errWord2, errWord3, w_zip, zipK_2, row_l, row_t, w_back, backK_t, neg_i, w_ssetT, tupK_t, w_callI, callK_0, w_mulLD, mulK_l, w_disp, w_din, w_dget, one1_v, w_dlen, w_glue, w_upperD, w_dvals, s_dput, keyV_i, keyV_s, datV_d, strV_s, refOf_r, dctV_r, dct_z, dct_s, xor_tr, xor_fl, seqOf_l, seqOf_t, len_s hz, ix_s hz] at all ⊢
  unfold nameB
  by_cases h1 : ((z.length : Int) < 1)
  · rw [if_pos (decide_eq_true h1), if_pos trivial, if_pos (by left; omega)]
    exact ⟨rfl, List.take_length⟩
  rw [if_neg (by simpa using h1)]
  by_cases h2 : (12 < (z.length : Int))
  · rw [if_pos (decide_eq_true h2), if_pos trivial, if_pos (by right; left; omega)]
    exact ⟨rfl, List.take_length⟩
  rw [if_neg (by simpa using h2)]
  by_cases h3 : z = "any"
  · rw [if_pos (beq_iff_eq.mpr h3), if_pos trivial, if_pos (by right; right; left; exact h3)]
    exact ⟨rfl, List.take_length⟩
  rw [if_neg (by simpa using h3)]
  cases e : z.cps.toList with
  | nil => rw [e] at e0; simp at e0; omega
  | cons c r =>
    rw [e] at all
    rw [show atI (c :: r) 0 = some c from atI_nat' (j := 0) (by simp)]
    simp only [s_nil, s_brk, s_cont, s_seq, s_expr, s_ret, s_retN, s_set, s_setL, s_newL, s_unp, s_par, s_aug, s_six, s_if, s_for, w_var, w_mv2, mvK_d, mvK_r, w_c, w_bin, w_un, w_tst, w_and, w_or, w_not, w_andV, w_orV, w_notV, w_if, w_nil, w_cons, w_tup, w_lst, w_as, w_bc, w_lc, w_call, w_no, w_some, w_slice, w_app, w_ext, w_pop, w_seqD, w_rng1, w_comp, wpR_ok, optK_some, boolK_b, intK_i, oneK_d, oneL_d, twoK_2, sixK_r, rngK_i, rtK_d, peek_d, peek_r, peeks_n, peeks_c, own_r, lst_z, lst_s, Option.map_some, Option.bind_some, Option.join_some, List.getElem?_cons_zero, List.getElem?_cons_succ, List.set_cons_zero, List.set_cons_succ, List.map_cons, List.map_nil, List.cons_append, List.nil_append, List.replicate_succ, List.replicate_zero, Nat.sub_self, datsV_n, datsV_d, wipe_n, wipe_c, setG_n, setG_t, setGs_n, setGs_c, ix_l, ix_t, atI_0, atI_1, atI_2, atI_3, add_i, sub_i, iadd_i, lt_i, le_i, gt_i, ge_i, eq_i, eq_s, len_l, len_t, int_i, abs_i, max_i, tuple_l, tuple_t, sizeLine_val, w_enum, w_isi, w_fmt, w_jnil, w_jcons, w_join, vK_1, strK_s, ne_i, ne_s, s_raise, s_try, wpR_exc, errIx0, errIx1, errIx2, errIx3, errWord0, errWord1, errWord2, errWord3, w_zip, zipK_2, row_l, row_t, w_back, backK_t, neg_i, w_ssetT, tupK_t, w_callI, callK_0, w_mulLD, mulK_l, w_disp, w_din, w_dget, one1_v, w_dlen, w_glue, w_upperD, w_dvals, s_dput, keyV_i, keyV_s, datV_d, strV_s, refOf_r, dctV_r, dct_z, dct_s, xor_tr, xor_fl, seqOf_l, seqOf_t, notin_sign]
    by_cases h4 : inS c firstS = true
    · have h4' : (!inS c firstS) = false := by rw [h4]; rfl
      rw [h4', if_neg (by simp), if_neg (by
        rintro (q | q | q | q)
        · omega
        · omega
        · exact h3 q
        · simp [h4] at q)]
      exact all
    · have h4' : (!inS c firstS) = true := by simpa using h4
      rw [h4', if_pos rfl, if_pos (by right; right; right; simpa using h4)]
      exact ⟨rfl, List.take_length⟩
end Pg
end

section
namespace Pg
open PySem PySem.Spec PyProof.Rows L2 Dn
/-- ascending -/
def risB : List PyData → Bool
  | a :: b :: r => PySem.W.dataLt a b && risB (b :: r)
  | _ => true
theorem risB_range : ∀ xs : List PyData, ((List.range (xs.length - 1)).all fun i => match xs[i]?, xs[i + 1]? with
    | some a, some b => PySem.W.dataLt a b
    | _, _ => true) = risB xs
  | [] => rfl
  | [a] => rfl
  | a :: b :: r => by
    have ih := risB_range (b :: r)
    rw [show (a :: b :: r).length - 1 = ((b :: r).length - 1) + 1 by simp, List.range_succ_eq_map, List.all_cons, List.all_map, risB, ← ih]
    rfl
theorem lt_of_like {d e : PyData} (h : likeD d e) (hd : d ≠ .none) (dp : d.depth ≤ 60) : ltD d e = some (.bool (PySem.W.dataLt d e)) := by
  have key : cmpG PySem.W.dataLt d e = some (.bool (PySem.W.dataLt d e)) := by
    unfold cmpG
    rw [if_pos]
    unfold cmpC
    have h' : PySem.W.alike d e = true := h
    rw [h']
    have : dpt d e = true := by
      unfold dpt
      exact decide_eq_true (by omega)
    rw [this]
    cases d <;> first | rfl | exact absurd rfl hd
  show ((ltI d e).orElse fun _ => cmpG PySem.W.dataLt d e) = _
  cases q : ltI d e with
  | none => exact key
  | some z =>
    obtain ⟨i, j, rfl, rfl, _, rfl⟩ := intG_some q
    show some (PyData.bool (decide (i < j))) = _
    rw [PySem.W.dataLt_int]
theorem rising_spec {k : Nat} {xs : List PyData} {h : Hl} (hal : ∀ d ∈ xs, ∀ e ∈ xs, likeD d e) (hn : ∀ d ∈ xs, d ≠ .none ∧ d.depth ≤ 60) (hl : xs.length ≤ 1000000) : callD prog (k + 1) i_rising [.dat (.tuple xs)] h = .ok (.dat (.bool (risB xs))) h := by
  refine wpR_eq ?_
  rw [call_at (r := r_rising) rfl]
  refine fn_rule rfl ?_
  show wpS (D_rising (callD prog k) [some (.dat (.tuple xs)), none] h) _ _
  simp only [D_rising, s_nil, s_brk, s_cont, s_seq, s_expr, s_ret, s_retN, s_set, s_setL, s_newL, s_unp, s_par, s_aug, s_six, s_if, s_for, w_var, w_mv2, mvK_d, mvK_r, w_c, w_bin, w_un, w_tst, w_and, w_or, w_not, w_andV, w_orV, w_notV, w_if, w_nil, w_cons, w_tup, w_lst, w_as, w_bc, w_lc, w_call, w_no, w_some, w_slice, w_app, w_ext, w_pop, w_seqD, w_rng1, w_comp, wpR_ok, optK_some, boolK_b, intK_i, oneK_d, oneL_d, twoK_2, sixK_r, rngK_i, rtK_d, peek_d, peek_r, peeks_n, peeks_c, own_r, lst_z, lst_s, Option.map_some, Option.bind_some, Option.join_some, List.getElem?_cons_zero, List.getElem?_cons_succ, List.set_cons_zero, List.set_cons_succ, List.map_cons, List.map_nil, List.cons_append, List.nil_append, List.replicate_succ, List.replicate_zero, Nat.sub_self, datsV_n, datsV_d, wipe_n, wipe_c, setG_n, setG_t, setGs_n, setGs_c, ix_l, ix_t, atI_0, atI_1, atI_2, atI_3, add_i, sub_i, iadd_i, lt_i, le_i, gt_i, ge_i, eq_i, eq_s, len_l, len_t, int_i, abs_i, max_i, tuple_l, tuple_t, sizeLine_val, w_enum, w_isi, w_fmt, w_jnil, w_jcons, w_join, vK_1, strK_s, ne_i, ne_s, s_raise, s_try, wpR_exc, errIx0, errIx1, errIx2, errIx3, errWord0, errWord1, errWord2, errWord3, w_zip, zipK_2, row_l, row_t, w_back, backK_t, neg_i, w_ssetT, tupK_t, w_callI, callK_0, w_mulLD, mulK_l, w_disp, w_din, w_dget, one1_v, w_dlen, w_glue, w_upperD, w_dvals, s_dput, keyV_i, keyV_s, datV_d, strV_s, refOf_r, dctV_r, dct_z, dct_s, xor_tr, xor_fl, seqOf_l, seqOf_t]
  refine ⟨by simp only [rngOk, Bool.and_eq_true, decide_eq_true_eq]; omega, ?_⟩
  have e1 : ((xs.length : Int) - 1).toNat = xs.length - 1 := by omega
  rw [e1, comp_map (fun d => match d with | .int i => (match xs[i.toNat]?, xs[i.toNat + 1]? with | some a, some b => .bool (PySem.W.dataLt a b) | _, _ => .bool true) | _ => .none) _ _ (by rfl) (by simp [rngItems, sizeLine_val]; omega) (fun d hd => ?_)]
  · simp only [s_nil, s_brk, s_cont, s_seq, s_expr, s_ret, s_retN, s_set, s_setL, s_newL, s_unp, s_par, s_aug, s_six, s_if, s_for, w_var, w_mv2, mvK_d, mvK_r, w_c, w_bin, w_un, w_tst, w_and, w_or, w_not, w_andV, w_orV, w_notV, w_if, w_nil, w_cons, w_tup, w_lst, w_as, w_bc, w_lc, w_call, w_no, w_some, w_slice, w_app, w_ext, w_pop, w_seqD, w_rng1, w_comp, wpR_ok, optK_some, boolK_b, intK_i, oneK_d, oneL_d, twoK_2, sixK_r, rngK_i, rtK_d, peek_d, peek_r, peeks_n, peeks_c, own_r, lst_z, lst_s, Option.map_some, Option.bind_some, Option.join_some, List.getElem?_cons_zero, List.getElem?_cons_succ, List.set_cons_zero, List.set_cons_succ, List.map_cons, List.map_nil, List.cons_append, List.nil_append, List.replicate_succ, List.replicate_zero, Nat.sub_self, datsV_n, datsV_d, wipe_n, wipe_c, setG_n, setG_t, setGs_n, setGs_c, ix_l, ix_t, atI_0, atI_1, atI_2, atI_3, add_i, sub_i, iadd_i, lt_i, le_i, gt_i, ge_i, eq_i, eq_s, len_l, len_t, int_i, abs_i, max_i, tuple_l, tuple_t, sizeLine_val, w_enum, w_isi, w_fmt, w_jnil, w_jcons, w_join, vK_1, strK_s, ne_i, ne_s, s_raise, s_try, wpR_exc, errIx0, errIx1, errIx2, errIx3, errWord0, errWord1, errWord2, errWord3, w_zip, zipK_2, row_l, row_t, w_back, backK_t, neg_i, w_ssetT, tupK_t, w_callI, callK_0, w_mulLD, mulK_l, w_disp, w_din, w_dget, one1_v, w_dlen, w_glue, w_upperD, w_dvals, s_dput, keyV_i, keyV_s, datV_d, strV_s, refOf_r, dctV_r, dct_z, dct_s, xor_tr, xor_fl, seqOf_l, seqOf_t, rngItems, List.map_map]
    rw [show ((fun d => match d with | .int i => (match xs[i.toNat]?, xs[i.toNat + 1]? with | some a, some b => PyData.bool (PySem.W.dataLt a b) | _, _ => .bool true) | _ => .none) ∘ fun (i : Nat) => PyData.int (0 + (i : Int))) = fun i => PyData.bool (match xs[i]?, xs[i + 1]? with
      | some a, some b => PySem.W.dataLt a b
      | _, _ => true) from by
        funext i
        show (match xs[((0 : Int) + (i : Int)).toNat]?, xs[((0 : Int) + (i : Int)).toNat + 1]? with | some a, some b => PyData.bool (PySem.W.dataLt a b) | _, _ => .bool true) = _
        rw [show ((0 : Int) + (i : Int)).toNat = i by omega]
        cases xs[i]? <;> cases xs[i + 1]? <;> rfl]
    rw [all_map, optK_some, risB_range]
    exact ⟨rfl, List.take_length⟩
  · obtain ⟨i, hi, rfl⟩ := List.mem_map.mp hd
    rw [List.mem_range] at hi
    simp only [s_nil, s_brk, s_cont, s_seq, s_expr, s_ret, s_retN, s_set, s_setL, s_newL, s_unp, s_par, s_aug, s_six, s_if, s_for, w_var, w_mv2, mvK_d, mvK_r, w_c, w_bin, w_un, w_tst, w_and, w_or, w_not, w_andV, w_orV, w_notV, w_if, w_nil, w_cons, w_tup, w_lst, w_as, w_bc, w_lc, w_call, w_no, w_some, w_slice, w_app, w_ext, w_pop, w_seqD, w_rng1, w_comp, wpR_ok, optK_some, boolK_b, intK_i, oneK_d, oneL_d, twoK_2, sixK_r, rngK_i, rtK_d, peek_d, peek_r, peeks_n, peeks_c, own_r, lst_z, lst_s, Option.map_some, Option.bind_some, Option.join_some, List.getElem?_cons_zero, List.getElem?_cons_succ, List.set_cons_zero, List.set_cons_succ, List.map_cons, List.map_nil, List.cons_append, List.nil_append, List.replicate_succ, List.replicate_zero, Nat.sub_self, datsV_n, datsV_d, wipe_n, wipe_c, setG_n, setG_t, setGs_n, setGs_c, ix_l, ix_t, atI_0, atI_1, atI_2, atI_3, add_i, sub_i, iadd_i, lt_i, le_i, gt_i, ge_i, eq_i, eq_s, len_l, len_t, int_i, abs_i, max_i, tuple_l, tuple_t, sizeLine_val, w_enum, w_isi, w_fmt, w_jnil, w_jcons, w_join, vK_1, strK_s, ne_i, ne_s, s_raise, s_try, wpR_exc, errIx0, errIx1, errIx2, errIx3, errWord0, errWord1, errWord2, errWord3, w_zip, zipK_2, row_l, row_t, w_back, backK_t, neg_i, w_ssetT, tupK_t, w_callI, callK_0, w_mulLD, mulK_l, w_disp, w_din, w_dget, one1_v, w_dlen, w_glue, w_upperD, w_dvals, s_dput, keyV_i, keyV_s, datV_d, strV_s, refOf_r, dctV_r, dct_z, dct_s, xor_tr, xor_fl, seqOf_l, seqOf_t]
    have e2 : ((0 : Int) + (i : Int)) = (i : Int) := by omega
    have e3 : ((0 : Int) + (i : Int)) + 1 = ((i + 1 : Nat) : Int) := by omega
    rw [e3, e2, atI_nat' (j := i) (by omega), atI_nat' (j := i + 1) (by omega), optK_some, optK_some]
    have m1 : xs[i]'(by omega) ∈ xs := List.getElem_mem _
    have m2 : xs[i + 1]'(by omega) ∈ xs := List.getElem_mem _
    rw [lt_of_like (hal _ m1 _ m2) (hn _ m1).1 (hn _ m1).2, optK_some]
    refine ⟨?_, trivial⟩
    simp only [Int.toNat_natCast]
    rw [List.getElem?_eq_getElem (by omega), List.getElem?_eq_getElem (by omega)]
theorem measured_spec (k : Nat) : ∀ (c : Con) (h : Hl), c.deep < k → c.size ≤ 1000000 → callD prog k i_measured [.dat c.data] h = .ok (.dat (.tuple [.int c.size, .int c.deep])) h := by
  induction k with
  | zero => exact fun c h q _ => absurd q (Nat.not_lt_zero _)
  | succ k ih =>
    intro c h hd hs
    obtain ⟨ns, ls⟩ := c
    refine wpR_eq ?_
    rw [call_at (r := r_measured) rfl]
    refine fn_rule rfl ?_
    show wpS (D_measured (callD prog k) [some (.dat (Con.mk ns ls).data), none, none, none, none, none, none] h) _ _
    simp only [D_measured, s_nil, s_brk, s_cont, s_seq, s_expr, s_ret, s_retN, s_set, s_setL, s_newL, s_unp, s_par, s_aug, s_six, s_if, s_for, w_var, w_mv2, mvK_d, mvK_r, w_c, w_bin, w_un, w_tst, w_and, w_or, w_not, w_andV, w_orV, w_notV, w_if, w_nil, w_cons, w_tup, w_lst, w_as, w_bc, w_lc, w_call, w_no, w_some, w_slice, w_app, w_ext, w_pop, w_seqD, w_rng1, w_comp, wpR_ok, optK_some, boolK_b, intK_i, oneK_d, oneL_d, twoK_2, sixK_r, rngK_i, rtK_d, peek_d, peek_r, peeks_n, peeks_c, own_r, lst_z, lst_s, Option.map_some, Option.bind_some, Option.join_some, List.getElem?_cons_zero, List.getElem?_cons_succ, List.set_cons_zero, List.set_cons_succ, List.map_cons, List.map_nil, List.cons_append, List.nil_append, List.replicate_succ, List.replicate_zero, Nat.sub_self, datsV_n, datsV_d, wipe_n, wipe_c, setG_n, setG_t, setGs_n, setGs_c, ix_l, ix_t, atI_0, atI_1, atI_2, atI_3, add_i, sub_i, iadd_i, lt_i, le_i, gt_i, ge_i, eq_i, eq_s, len_l, len_t, int_i, abs_i, max_i, tuple_l, tuple_t, sizeLine_val, w_enum, w_isi, w_fmt, w_jnil, w_jcons, w_join, vK_1, strK_s, ne_i, ne_s, s_raise, s_try, wpR_exc, errIx0, errIx1, errIx2, errIx3, errWord0, errWord1, errWord2, errWord3, w_zip, zipK_2, row_l, row_t, w_back, backK_t, neg_i, w_ssetT, tupK_t, w_callI, callK_0, w_mulLD, mulK_l, w_disp, w_din, w_dget, one1_v, w_dlen, w_glue, w_upperD, w_dvals, s_dput, keyV_i, keyV_s, datV_d, strV_s, refOf_r, dctV_r, dct_z, dct_s, xor_tr, xor_fl, seqOf_l, seqOf_t, Con.data, List.length_map, itemsOf]
    refine for_rule (fun ds ρ h' => ∃ (ms : Lks) (a b c' d : Option Val), ds = ms.data ∧ h' = h ∧ ms.deep ≤ ls.deep ∧ ms.size ≤ ls.size ∧ ∃ (x y : Int), ρ = [some (.dat (Con.mk ns ls).data), some (.dat (.int x)), some (.dat (.int y)), a, b, c', d] ∧ x + ms.size = (Con.mk ns ls).size ∧ 0 ≤ y ∧ max y ms.deep = ls.deep)
      (fun d ds ρ h' I => ?_) (fun ρ h' I => ?_) _ _ _ ⟨ls, none, none, none, none, rfl, rfl, Nat.le_refl _, Nat.le_refl _, _, _, rfl, by rw [Con.size]; omega, Int.le_refl _, by omega⟩
    · obtain ⟨ms, a, b, c', d', e1, rfl, l1, l2, x, y, rfl, e2, y0, e3⟩ := I
      cases ms with
      | nil => rw [Lks.data] at e1; cases e1
      | cons r c ms =>
        rw [Lks.data] at e1
        cases e1
        rw [Lks.deep] at l1 e3
        rw [Lks.size] at l2 e2
        rw [Con.size] at hs
        rw [Con.deep] at hd
        refine ⟨rfl, ?_⟩
        simp only [s_nil, s_brk, s_cont, s_seq, s_expr, s_ret, s_retN, s_set, s_setL, s_newL, s_unp, s_par, s_aug, s_six, s_if, s_for, w_var, w_mv2, mvK_d, mvK_r, w_c, w_bin, w_un, w_tst, w_and, w_or, w_not, w_andV, w_orV, w_notV, w_if, w_nil, w_cons, w_tup, w_lst, w_as, w_bc, w_lc, w_call, w_no, w_some, w_slice, w_app, w_ext, w_pop, w_seqD, w_rng1, w_comp, wpR_ok, optK_some, boolK_b, intK_i, oneK_d, oneL_d, twoK_2, sixK_r, rngK_i, rtK_d, peek_d, peek_r, peeks_n, peeks_c, own_r, lst_z, lst_s, Option.map_some, Option.bind_some, Option.join_some, List.getElem?_cons_zero, List.getElem?_cons_succ, List.set_cons_zero, List.set_cons_succ, List.map_cons, List.map_nil, List.cons_append, List.nil_append, List.replicate_succ, List.replicate_zero, Nat.sub_self, datsV_n, datsV_d, wipe_n, wipe_c, setG_n, setG_t, setGs_n, setGs_c, ix_l, ix_t, atI_0, atI_1, atI_2, atI_3, add_i, sub_i, iadd_i, lt_i, le_i, gt_i, ge_i, eq_i, eq_s, len_l, len_t, int_i, abs_i, max_i, tuple_l, tuple_t, sizeLine_val, w_enum, w_isi, w_fmt, w_jnil, w_jcons, w_join, vK_1, strK_s, ne_i, ne_s, s_raise, s_try, wpR_exc, errIx0, errIx1, errIx2, errIx3, errWord0, errWord1, errWord2, errWord3, w_zip, zipK_2, row_l, row_t, w_back, backK_t, neg_i, w_ssetT, tupK_t, w_callI, callK_0, w_mulLD, mulK_l, w_disp, w_din, w_dget, one1_v, w_dlen, w_glue, w_upperD, w_dvals, s_dput, keyV_i, keyV_s, datV_d, strV_s, refOf_r, dctV_r, dct_z, dct_s, xor_tr, xor_fl, seqOf_l, seqOf_t]
        rw [ih c h' (by omega) (by omega)]
        simp only [s_nil, s_brk, s_cont, s_seq, s_expr, s_ret, s_retN, s_set, s_setL, s_newL, s_unp, s_par, s_aug, s_six, s_if, s_for, w_var, w_mv2, mvK_d, mvK_r, w_c, w_bin, w_un, w_tst, w_and, w_or, w_not, w_andV, w_orV, w_notV, w_if, w_nil, w_cons, w_tup, w_lst, w_as, w_bc, w_lc, w_call, w_no, w_some, w_slice, w_app, w_ext, w_pop, w_seqD, w_rng1, w_comp, wpR_ok, optK_some, boolK_b, intK_i, oneK_d, oneL_d, twoK_2, sixK_r, rngK_i, rtK_d, peek_d, peek_r, peeks_n, peeks_c, own_r, lst_z, lst_s, Option.map_some, Option.bind_some, Option.join_some, List.getElem?_cons_zero, List.getElem?_cons_succ, List.set_cons_zero, List.set_cons_succ, List.map_cons, List.map_nil, List.cons_append, List.nil_append, List.replicate_succ, List.replicate_zero, Nat.sub_self, datsV_n, datsV_d, wipe_n, wipe_c, setG_n, setG_t, setGs_n, setGs_c, ix_l, ix_t, atI_0, atI_1, atI_2, atI_3, add_i, sub_i, iadd_i, lt_i, le_i, gt_i, ge_i, eq_i, eq_s, len_l, len_t, int_i, abs_i, max_i, tuple_l, tuple_t, sizeLine_val, w_enum, w_isi, w_fmt, w_jnil, w_jcons, w_join, vK_1, strK_s, ne_i, ne_s, s_raise, s_try, wpR_exc, errIx0, errIx1, errIx2, errIx3, errWord0, errWord1, errWord2, errWord3, w_zip, zipK_2, row_l, row_t, w_back, backK_t, neg_i, w_ssetT, tupK_t, w_callI, callK_0, w_mulLD, mulK_l, w_disp, w_din, w_dget, one1_v, w_dlen, w_glue, w_upperD, w_dvals, s_dput, keyV_i, keyV_s, datV_d, strV_s, refOf_r, dctV_r, dct_z, dct_s, xor_tr, xor_fl, seqOf_l, seqOf_t]
        exact ⟨ms, _, _, _, _, rfl, trivial, by omega, by omega, _, _, rfl, by omega, by split <;> omega, by split <;> omega⟩
    · obtain ⟨ms, a, b, c', d', e1, rfl, l1, l2, x, y, rfl, e2, y0, e3⟩ := I
      cases ms with
      | cons r c ms => rw [Lks.data] at e1; cases e1
      | nil =>
        rw [Lks.deep] at e3
        rw [Lks.size] at e2
        refine ⟨rfl, ?_⟩
        simp only [s_nil, s_brk, s_cont, s_seq, s_expr, s_ret, s_retN, s_set, s_setL, s_newL, s_unp, s_par, s_aug, s_six, s_if, s_for, w_var, w_mv2, mvK_d, mvK_r, w_c, w_bin, w_un, w_tst, w_and, w_or, w_not, w_andV, w_orV, w_notV, w_if, w_nil, w_cons, w_tup, w_lst, w_as, w_bc, w_lc, w_call, w_no, w_some, w_slice, w_app, w_ext, w_pop, w_seqD, w_rng1, w_comp, wpR_ok, optK_some, boolK_b, intK_i, oneK_d, oneL_d, twoK_2, sixK_r, rngK_i, rtK_d, peek_d, peek_r, peeks_n, peeks_c, own_r, lst_z, lst_s, Option.map_some, Option.bind_some, Option.join_some, List.getElem?_cons_zero, List.getElem?_cons_succ, List.set_cons_zero, List.set_cons_succ, List.map_cons, List.map_nil, List.cons_append, List.nil_append, List.replicate_succ, List.replicate_zero, Nat.sub_self, datsV_n, datsV_d, wipe_n, wipe_c, setG_n, setG_t, setGs_n, setGs_c, ix_l, ix_t, atI_0, atI_1, atI_2, atI_3, add_i, sub_i, iadd_i, lt_i, le_i, gt_i, ge_i, eq_i, eq_s, len_l, len_t, int_i, abs_i, max_i, tuple_l, tuple_t, sizeLine_val, w_enum, w_isi, w_fmt, w_jnil, w_jcons, w_join, vK_1, strK_s, ne_i, ne_s, s_raise, s_try, wpR_exc, errIx0, errIx1, errIx2, errIx3, errWord0, errWord1, errWord2, errWord3, w_zip, zipK_2, row_l, row_t, w_back, backK_t, neg_i, w_ssetT, tupK_t, w_callI, callK_0, w_mulLD, mulK_l, w_disp, w_din, w_dget, one1_v, w_dlen, w_glue, w_upperD, w_dvals, s_dput, keyV_i, keyV_s, datV_d, strV_s, refOf_r, dctV_r, dct_z, dct_s, xor_tr, xor_fl, seqOf_l, seqOf_t, List.length_cons, List.length_nil]
        rw [Con.deep]
        refine ⟨by omega, ?_, List.take_length⟩
        congr 5 <;> omega
end Pg
end

section
namespace Pg
open PySem PySem.Spec PyProof.Rows L2 Dn
mutual
def wfB : Con → Bool
  | .mk ns ls => ns.all nameB && risB (ns.map .str) && (wfL ls && risB ls.data)
def wfL : Lks → Bool
  | .nil => true
  | .cons r c ls => nameB r && wfB c && wfL ls
end
theorem links_len : ∀ ls : Lks, ls.data.length ≤ ls.size
  | .nil => by rw [Lks.data]; exact Nat.zero_le _
  | .cons r c ls => by
    have := links_len ls
    rw [Lks.data, List.length_cons, Lks.size]
    omega
theorem links_like (ls : Lks) : ∀ d ∈ ls.data, ∀ e ∈ ls.data, likeD d e := by
  rw [Lks.data_list]
  intro d hd e he
  obtain ⟨p, _, rfl⟩ := List.mem_map.mp hd
  obtain ⟨q, _, rfl⟩ := List.mem_map.mp he
  exact lkD_alike p q
theorem depth_mem : ∀ {xs : List PyData} {d : PyData}, d ∈ xs → d.depth ≤ PyData.depthAll xs
  | x :: xs, d, h => by
    rw [PyData.depthAll]
    rcases List.mem_cons.mp h with rfl | h
    · omega
    · have := depth_mem h
      omega
theorem links_depth {ls : Lks} (h : ls.deep ≤ 18) : ∀ d ∈ ls.data, d ≠ .none ∧ d.depth ≤ 60 := by
  intro d hd
  refine ⟨?_, ?_⟩
  · rw [Lks.data_list] at hd
    obtain ⟨p, _, rfl⟩ := List.mem_map.mp hd
    exact fun z => nomatch z
  · have := depth_mem hd
    have := Lks.depth_le ls
    omega
theorem strs_like (xs : List Str) : ∀ d ∈ xs.map PyData.str, ∀ e ∈ xs.map PyData.str, likeD d e := by
  intro d hd e he
  obtain ⟨p, _, rfl⟩ := List.mem_map.mp hd
  obtain ⟨q, _, rfl⟩ := List.mem_map.mp he
  exact alike_str p q
theorem strs_depth (xs : List Str) : ∀ d ∈ xs.map PyData.str, d ≠ .none ∧ d.depth ≤ 60 := by
  intro d hd
  obtain ⟨p, _, rfl⟩ := List.mem_map.mp hd
  exact ⟨fun z => (nomatch z), by simp [PyData.depth]⟩
theorem well_formed_spec (k : Nat) : ∀ (c : Con) (h : Hl), c.deep + 2 < k → c.size ≤ 1000000 → c.deep ≤ 18 → fine c → callD prog k i_well_formed [.dat c.data] h = .ok (.dat (.bool (wfB c))) h := by
  induction k with
  | zero => exact fun c h q _ _ => absurd q (Nat.not_lt_zero _)
  | succ k ih =>
    intro c h hd hs hp hf
    obtain ⟨ns, ls⟩ := c
    obtain ⟨k, rfl⟩ : ∃ j, k = j + 1 := ⟨k - 1, by omega⟩
    rw [Con.size] at hs
    rw [Con.deep] at hd hp
    rw [fine] at hf
    obtain ⟨hf, hfl⟩ := hf
    refine wpR_eq ?_
    rw [call_at (r := r_well_formed) rfl]
    refine fn_rule rfl ?_
    show wpS (D_well_formed (callD prog (k + 1)) [some (.dat (Con.mk ns ls).data), none, none, none, none, none] h) _ _
    simp only [D_well_formed, s_nil, s_brk, s_cont, s_seq, s_expr, s_ret, s_retN, s_set, s_setL, s_newL, s_unp, s_par, s_aug, s_six, s_if, s_for, w_var, w_mv2, mvK_d, mvK_r, w_c, w_bin, w_un, w_tst, w_and, w_or, w_not, w_andV, w_orV, w_notV, w_if, w_nil, w_cons, w_tup, w_lst, w_as, w_bc, w_lc, w_call, w_no, w_some, w_slice, w_app, w_ext, w_pop, w_seqD, w_rng1, w_comp, wpR_ok, optK_some, boolK_b, intK_i, oneK_d, oneL_d, twoK_2, sixK_r, rngK_i, rtK_d, peek_d, peek_r, peeks_n, peeks_c, own_r, lst_z, lst_s, Option.map_some, Option.bind_some, Option.join_some, List.getElem?_cons_zero, List.getElem?_cons_succ, List.set_cons_zero, List.set_cons_succ, List.map_cons, List.map_nil, List.cons_append, List.nil_append, List.replicate_succ, List.replicate_zero, Nat.sub_self, datsV_n, datsV_d, wipe_n, wipe_c, setG_n, setG_t, setGs_n, setGs_c, ix_l, ix_t, atI_0, atI_1, atI_2, atI_3, add_i, sub_i, iadd_i, lt_i, le_i, gt_i, ge_i, eq_i, eq_s, len_l, len_t, int_i, abs_i, max_i, tuple_l, tuple_t, sizeLine_val, w_enum, w_isi, w_fmt, w_jnil, w_jcons, w_join, vK_1, strK_s, ne_i, ne_s, s_raise, s_try, wpR_exc, errIx0, errIx1, errIx2, errIx3, errWord0, errWord1, errWord2, errWord3, w_zip, zipK_2, row_l, row_t, w_back, backK_t, neg_i, w_ssetT, tupK_t, w_callI, callK_0, w_mulLD, mulK_l, w_disp, w_din, w_dget, one1_v, w_dlen, w_glue, w_upperD, w_dvals, s_dput, keyV_i, keyV_s, datV_d, strV_s, refOf_r, dctV_r, dct_z, dct_s, xor_tr, xor_fl, seqOf_l, seqOf_t, Con.data, itemsOf]
    rw [comp_map (fun d => match d with | .str w => .bool (nameB w) | _ => .none) _ _ (by rfl) (by simp [sizeLine_val]; omega) (fun d hd => ?_)]
    rotate_left
    · obtain ⟨n, hn, rfl⟩ := List.mem_map.mp hd
      simp only [s_nil, s_brk, s_cont, s_seq, s_expr, s_ret, s_retN, s_set, s_setL, s_newL, s_unp, s_par, s_aug, s_six, s_if, s_for, w_var, w_mv2, mvK_d, mvK_r, w_c, w_bin, w_un, w_tst, w_and, w_or, w_not, w_andV, w_orV, w_notV, w_if, w_nil, w_cons, w_tup, w_lst, w_as, w_bc, w_lc, w_call, w_no, w_some, w_slice, w_app, w_ext, w_pop, w_seqD, w_rng1, w_comp, wpR_ok, optK_some, boolK_b, intK_i, oneK_d, oneL_d, twoK_2, sixK_r, rngK_i, rtK_d, peek_d, peek_r, peeks_n, peeks_c, own_r, lst_z, lst_s, Option.map_some, Option.bind_some, Option.join_some, List.getElem?_cons_zero, List.getElem?_cons_succ, List.set_cons_zero, List.set_cons_succ, List.map_cons, List.map_nil, List.cons_append, List.nil_append, List.replicate_succ, List.replicate_zero, Nat.sub_self, datsV_n, datsV_d, wipe_n, wipe_c, setG_n, setG_t, setGs_n, setGs_c, ix_l, ix_t, atI_0, atI_1, atI_2, atI_3, add_i, sub_i, iadd_i, lt_i, le_i, gt_i, ge_i, eq_i, eq_s, len_l, len_t, int_i, abs_i, max_i, tuple_l, tuple_t, sizeLine_val, w_enum, w_isi, w_fmt, w_jnil, w_jcons, w_join, vK_1, strK_s, ne_i, ne_s, s_raise, s_try, wpR_exc, errIx0, errIx1, errIx2, errIx3, errWord0, errWord1, errWord2, errWord3, w_zip, zipK_2, row_l, row_t, w_back, backK_t, neg_i, w_ssetT, tupK_t, w_callI, callK_0, w_mulLD, mulK_l, w_disp, w_din, w_dget, one1_v, w_dlen, w_glue, w_upperD, w_dvals, s_dput, keyV_i, keyV_s, datV_d, strV_s, refOf_r, dctV_r, dct_z, dct_s, xor_tr, xor_fl, seqOf_l, seqOf_t]
      rw [is_name_spec (by have := (hf n hn).1; rw [sizeLine_val]; omega)]
      exact ⟨rfl, rfl⟩
    simp only [s_nil, s_brk, s_cont, s_seq, s_expr, s_ret, s_retN, s_set, s_setL, s_newL, s_unp, s_par, s_aug, s_six, s_if, s_for, w_var, w_mv2, mvK_d, mvK_r, w_c, w_bin, w_un, w_tst, w_and, w_or, w_not, w_andV, w_orV, w_notV, w_if, w_nil, w_cons, w_tup, w_lst, w_as, w_bc, w_lc, w_call, w_no, w_some, w_slice, w_app, w_ext, w_pop, w_seqD, w_rng1, w_comp, wpR_ok, optK_some, boolK_b, intK_i, oneK_d, oneL_d, twoK_2, sixK_r, rngK_i, rtK_d, peek_d, peek_r, peeks_n, peeks_c, own_r, lst_z, lst_s, Option.map_some, Option.bind_some, Option.join_some, List.getElem?_cons_zero, List.getElem?_cons_succ, List.set_cons_zero, List.set_cons_succ, List.map_cons, List.map_nil, List.cons_append, List.nil_append, List.replicate_succ, List.replicate_zero, Nat.sub_self, datsV_n, datsV_d, wipe_n, wipe_c, setG_n, setG_t, setGs_n, setGs_c, ix_l, ix_t, atI_0, atI_1, atI_2, atI_3, add_i, sub_i, iadd_i, lt_i, le_i, gt_i, ge_i, eq_i, eq_s, len_l, len_t, int_i, abs_i, max_i, tuple_l, tuple_t, sizeLine_val, w_enum, w_isi, w_fmt, w_jnil, w_jcons, w_join, vK_1, strK_s, ne_i, ne_s, s_raise, s_try, wpR_exc, errIx0, errIx1, errIx2, errIx3, errWord0, errWord1, errWord2, errWord3, w_zip, zipK_2, row_l, row_t, w_back, backK_t, neg_i, w_ssetT, tupK_t, w_callI, callK_0, w_mulLD, mulK_l, w_disp, w_din, w_dget, one1_v, w_dlen, w_glue, w_upperD, w_dvals, s_dput, keyV_i, keyV_s, datV_d, strV_s, refOf_r, dctV_r, dct_z, dct_s, xor_tr, xor_fl, seqOf_l, seqOf_t, List.map_map]
    rw [show ((fun d => match d with | .str w => PyData.bool (nameB w) | _ => .none) ∘ PyData.str) = fun w => PyData.bool (nameB w) from rfl, all_map]
    simp only [s_nil, s_brk, s_cont, s_seq, s_expr, s_ret, s_retN, s_set, s_setL, s_newL, s_unp, s_par, s_aug, s_six, s_if, s_for, w_var, w_mv2, mvK_d, mvK_r, w_c, w_bin, w_un, w_tst, w_and, w_or, w_not, w_andV, w_orV, w_notV, w_if, w_nil, w_cons, w_tup, w_lst, w_as, w_bc, w_lc, w_call, w_no, w_some, w_slice, w_app, w_ext, w_pop, w_seqD, w_rng1, w_comp, wpR_ok, optK_some, boolK_b, intK_i, oneK_d, oneL_d, twoK_2, sixK_r, rngK_i, rtK_d, peek_d, peek_r, peeks_n, peeks_c, own_r, lst_z, lst_s, Option.map_some, Option.bind_some, Option.join_some, List.getElem?_cons_zero, List.getElem?_cons_succ, List.set_cons_zero, List.set_cons_succ, List.map_cons, List.map_nil, List.cons_append, List.nil_append, List.replicate_succ, List.replicate_zero, Nat.sub_self, datsV_n, datsV_d, wipe_n, wipe_c, setG_n, setG_t, setGs_n, setGs_c, ix_l, ix_t, atI_0, atI_1, atI_2, atI_3, add_i, sub_i, iadd_i, lt_i, le_i, gt_i, ge_i, eq_i, eq_s, len_l, len_t, int_i, abs_i, max_i, tuple_l, tuple_t, sizeLine_val, w_enum, w_isi, w_fmt, w_jnil, w_jcons, w_join, vK_1, strK_s, ne_i, ne_s, s_raise, s_try, wpR_exc, errIx0, errIx1, errIx2, errIx3, errWord0, errWord1, errWord2, errWord3, w_zip, zipK_2, row_l, row_t, w_back, backK_t, neg_i, w_ssetT, tupK_t, w_callI, callK_0, w_mulLD, mulK_l, w_disp, w_din, w_dget, one1_v, w_dlen, w_glue, w_upperD, w_dvals, s_dput, keyV_i, keyV_s, datV_d, strV_s, refOf_r, dctV_r, dct_z, dct_s, xor_tr, xor_fl, seqOf_l, seqOf_t]
    have rn := rising_spec (k := k) (h := h) (strs_like ns) (strs_depth ns) (by rw [List.length_map]; omega)
    have rl := rising_spec (k := k) (h := h) (links_like ls) (links_depth hp) (by have := links_len ls; omega)
    rw [rn]
    have done : ∀ b, b = wfB (.mk ns ls) → (Val.dat (.bool b) = Val.dat (.bool (wfB (.mk ns ls))) ∧ List.take h.length h = h) := fun b q => ⟨by rw [q], List.take_length⟩
    have core : risB (ns.map .str) = true → ns.all nameB = true → ∀ (C : Ctl) (N : En → Hl → Prop), C.rt = (fun v h' => rtK h.length v h' fun b g => b = Val.dat (.bool (wfB (.mk ns ls))) ∧ g = h) →
        (∀ a b, wfB (.mk ns ls) = risB ls.data → N [some (.dat (.tuple [.tuple (ns.map .str), .tuple ls.data])), some (.dat (.tuple (ns.map .str))), some (.dat (.tuple ls.data)), a, b, none] h) → Dn.wpS (forL ⟨ls.data, none⟩ (.tp [.nm 3, .nm 4]) (seqS (ifS (orT (notT (tstD (callE (callD prog (k + 1) i_is_name) (consD (varD 3) nilD)))) (notT (tstD (callE (callD prog (k + 1) i_well_formed) (consD (varD 4) nilD))))) (seqS (retS (cD (.bool false))) nilS) nilS) nilS) ls.data [some (.dat (.tuple [.tuple (ns.map .str), .tuple ls.data])), some (.dat (.tuple (ns.map .str))), some (.dat (.tuple ls.data)), none, none, none] h) N C := by
      intro q1 q2 C N hC hN
      refine for_rule (fun ds ρ h' => ∃ (ms : Lks) (a b : Option Val), ds = ms.data ∧ h' = h ∧ ms.deep ≤ ls.deep ∧ ms.size ≤ ls.size ∧ fineL ms ∧ wfL ls = wfL ms ∧ ρ = [some (.dat (.tuple [.tuple (ns.map .str), .tuple ls.data])), some (.dat (.tuple (ns.map .str))), some (.dat (.tuple ls.data)), a, b, none])
        (fun d ds ρ h' I => ?_) (fun ρ h' I => ?_) _ _ _ ⟨ls, none, none, rfl, rfl, Nat.le_refl _, Nat.le_refl _, hfl, rfl, rfl⟩
      · obtain ⟨ms, a, b, e1, rfl, l1, l2, l3, l4, rfl⟩ := I
        cases ms with
        | nil => rw [Lks.data] at e1; cases e1
        | cons r c ms =>
          rw [Lks.data] at e1
          cases e1
          rw [Lks.deep] at l1
          rw [Lks.size] at l2
          rw [fineL] at l3
          rw [wfL] at l4
          refine ⟨rfl, ?_⟩
          simp only [s_nil, s_brk, s_cont, s_seq, s_expr, s_ret, s_retN, s_set, s_setL, s_newL, s_unp, s_par, s_aug, s_six, s_if, s_for, w_var, w_mv2, mvK_d, mvK_r, w_c, w_bin, w_un, w_tst, w_and, w_or, w_not, w_andV, w_orV, w_notV, w_if, w_nil, w_cons, w_tup, w_lst, w_as, w_bc, w_lc, w_call, w_no, w_some, w_slice, w_app, w_ext, w_pop, w_seqD, w_rng1, w_comp, wpR_ok, optK_some, boolK_b, intK_i, oneK_d, oneL_d, twoK_2, sixK_r, rngK_i, rtK_d, peek_d, peek_r, peeks_n, peeks_c, own_r, lst_z, lst_s, Option.map_some, Option.bind_some, Option.join_some, List.getElem?_cons_zero, List.getElem?_cons_succ, List.set_cons_zero, List.set_cons_succ, List.map_cons, List.map_nil, List.cons_append, List.nil_append, List.replicate_succ, List.replicate_zero, Nat.sub_self, datsV_n, datsV_d, wipe_n, wipe_c, setG_n, setG_t, setGs_n, setGs_c, ix_l, ix_t, atI_0, atI_1, atI_2, atI_3, add_i, sub_i, iadd_i, lt_i, le_i, gt_i, ge_i, eq_i, eq_s, len_l, len_t, int_i, abs_i, max_i, tuple_l, tuple_t, sizeLine_val, w_enum, w_isi, w_fmt, w_jnil, w_jcons, w_join, vK_1, strK_s, ne_i, ne_s, s_raise, s_try, wpR_exc, errIx0, errIx1, errIx2, errIx3, errWord0, errWord1, errWord2, errWord3, w_zip, zipK_2, row_l, row_t, w_back, backK_t, neg_i, w_ssetT, tupK_t, w_callI, callK_0, w_mulLD, mulK_l, w_disp, w_din, w_dget, one1_v, w_dlen, w_glue, w_upperD, w_dvals, s_dput, keyV_i, keyV_s, datV_d, strV_s, refOf_r, dctV_r, dct_z, dct_s, xor_tr, xor_fl, seqOf_l, seqOf_t]
          rw [is_name_spec (by have := l3.1.1; rw [sizeLine_val]; omega), wpR_ok, boolK_b]
          cases nb : nameB r with
          | false =>
            simp only [Bool.not_false, if_true, s_nil, s_brk, s_cont, s_seq, s_expr, s_ret, s_retN, s_set, s_setL, s_newL, s_unp, s_par, s_aug, s_six, s_if, s_for, w_var, w_mv2, mvK_d, mvK_r, w_c, w_bin, w_un, w_tst, w_and, w_or, w_not, w_andV, w_orV, w_notV, w_if, w_nil, w_cons, w_tup, w_lst, w_as, w_bc, w_lc, w_call, w_no, w_some, w_slice, w_app, w_ext, w_pop, w_seqD, w_rng1, w_comp, wpR_ok, optK_some, boolK_b, intK_i, oneK_d, oneL_d, twoK_2, sixK_r, rngK_i, rtK_d, peek_d, peek_r, peeks_n, peeks_c, own_r, lst_z, lst_s, Option.map_some, Option.bind_some, Option.join_some, List.getElem?_cons_zero, List.getElem?_cons_succ, List.set_cons_zero, List.set_cons_succ, List.map_cons, List.map_nil, List.cons_append, List.nil_append, List.replicate_succ, List.replicate_zero, Nat.sub_self, datsV_n, datsV_d, wipe_n, wipe_c, setG_n, setG_t, setGs_n, setGs_c, ix_l, ix_t, atI_0, atI_1, atI_2, atI_3, add_i, sub_i, iadd_i, lt_i, le_i, gt_i, ge_i, eq_i, eq_s, len_l, len_t, int_i, abs_i, max_i, tuple_l, tuple_t, sizeLine_val, w_enum, w_isi, w_fmt, w_jnil, w_jcons, w_join, vK_1, strK_s, ne_i, ne_s, s_raise, s_try, wpR_exc, errIx0, errIx1, errIx2, errIx3, errWord0, errWord1, errWord2, errWord3, w_zip, zipK_2, row_l, row_t, w_back, backK_t, neg_i, w_ssetT, tupK_t, w_callI, callK_0, w_mulLD, mulK_l, w_disp, w_din, w_dget, one1_v, w_dlen, w_glue, w_upperD, w_dvals, s_dput, keyV_i, keyV_s, datV_d, strV_s, refOf_r, dctV_r, dct_z, dct_s, xor_tr, xor_fl, seqOf_l, seqOf_t]
            rw [hC]
            exact done _ (by rw [wfB, l4, nb, q1, q2]; rfl)
          | true =>
            simp only [Bool.not_true, Bool.false_eq_true, if_false, s_nil, s_brk, s_cont, s_seq, s_expr, s_ret, s_retN, s_set, s_setL, s_newL, s_unp, s_par, s_aug, s_six, s_if, s_for, w_var, w_mv2, mvK_d, mvK_r, w_c, w_bin, w_un, w_tst, w_and, w_or, w_not, w_andV, w_orV, w_notV, w_if, w_nil, w_cons, w_tup, w_lst, w_as, w_bc, w_lc, w_call, w_no, w_some, w_slice, w_app, w_ext, w_pop, w_seqD, w_rng1, w_comp, wpR_ok, optK_some, boolK_b, intK_i, oneK_d, oneL_d, twoK_2, sixK_r, rngK_i, rtK_d, peek_d, peek_r, peeks_n, peeks_c, own_r, lst_z, lst_s, Option.map_some, Option.bind_some, Option.join_some, List.getElem?_cons_zero, List.getElem?_cons_succ, List.set_cons_zero, List.set_cons_succ, List.map_cons, List.map_nil, List.cons_append, List.nil_append, List.replicate_succ, List.replicate_zero, Nat.sub_self, datsV_n, datsV_d, wipe_n, wipe_c, setG_n, setG_t, setGs_n, setGs_c, ix_l, ix_t, atI_0, atI_1, atI_2, atI_3, add_i, sub_i, iadd_i, lt_i, le_i, gt_i, ge_i, eq_i, eq_s, len_l, len_t, int_i, abs_i, max_i, tuple_l, tuple_t, sizeLine_val, w_enum, w_isi, w_fmt, w_jnil, w_jcons, w_join, vK_1, strK_s, ne_i, ne_s, s_raise, s_try, wpR_exc, errIx0, errIx1, errIx2, errIx3, errWord0, errWord1, errWord2, errWord3, w_zip, zipK_2, row_l, row_t, w_back, backK_t, neg_i, w_ssetT, tupK_t, w_callI, callK_0, w_mulLD, mulK_l, w_disp, w_din, w_dget, one1_v, w_dlen, w_glue, w_upperD, w_dvals, s_dput, keyV_i, keyV_s, datV_d, strV_s, refOf_r, dctV_r, dct_z, dct_s, xor_tr, xor_fl, seqOf_l, seqOf_t]
            rw [ih c h' (by omega) (by omega) (by omega) l3.2.1, wpR_ok, boolK_b]
            cases wb : wfB c with
            | false =>
              simp only [Bool.not_false, if_true, s_nil, s_brk, s_cont, s_seq, s_expr, s_ret, s_retN, s_set, s_setL, s_newL, s_unp, s_par, s_aug, s_six, s_if, s_for, w_var, w_mv2, mvK_d, mvK_r, w_c, w_bin, w_un, w_tst, w_and, w_or, w_not, w_andV, w_orV, w_notV, w_if, w_nil, w_cons, w_tup, w_lst, w_as, w_bc, w_lc, w_call, w_no, w_some, w_slice, w_app, w_ext, w_pop, w_seqD, w_rng1, w_comp, wpR_ok, optK_some, boolK_b, intK_i, oneK_d, oneL_d, twoK_2, sixK_r, rngK_i, rtK_d, peek_d, peek_r, peeks_n, peeks_c, own_r, lst_z, lst_s, Option.map_some, Option.bind_some, Option.join_some, List.getElem?_cons_zero, List.getElem?_cons_succ, List.set_cons_zero, List.set_cons_succ, List.map_cons, List.map_nil, List.cons_append, List.nil_append, List.replicate_succ, List.replicate_zero, Nat.sub_self, datsV_n, datsV_d, wipe_n, wipe_c, setG_n, setG_t, setGs_n, setGs_c, ix_l, ix_t, atI_0, atI_1, atI_2, atI_3, add_i, sub_i, iadd_i, lt_i, le_i, gt_i, ge_i, eq_i, eq_s, len_l, len_t, int_i, abs_i, max_i, tuple_l, tuple_t, sizeLine_val, w_enum, w_isi, w_fmt, w_jnil, w_jcons, w_join, vK_1, strK_s, ne_i, ne_s, s_raise, s_try, wpR_exc, errIx0, errIx1, errIx2, errIx3, errWord0, errWord1, errWord2, errWord3, w_zip, zipK_2, row_l, row_t, w_back, backK_t, neg_i, w_ssetT, tupK_t, w_callI, callK_0, w_mulLD, mulK_l, w_disp, w_din, w_dget, one1_v, w_dlen, w_glue, w_upperD, w_dvals, s_dput, keyV_i, keyV_s, datV_d, strV_s, refOf_r, dctV_r, dct_z, dct_s, xor_tr, xor_fl, seqOf_l, seqOf_t]
              rw [hC]
              exact done _ (by rw [wfB, l4, nb, wb, q1, q2]; rfl)
            | true =>
              simp only [Bool.not_true, Bool.false_eq_true, if_false, s_nil, s_brk, s_cont, s_seq, s_expr, s_ret, s_retN, s_set, s_setL, s_newL, s_unp, s_par, s_aug, s_six, s_if, s_for, w_var, w_mv2, mvK_d, mvK_r, w_c, w_bin, w_un, w_tst, w_and, w_or, w_not, w_andV, w_orV, w_notV, w_if, w_nil, w_cons, w_tup, w_lst, w_as, w_bc, w_lc, w_call, w_no, w_some, w_slice, w_app, w_ext, w_pop, w_seqD, w_rng1, w_comp, wpR_ok, optK_some, boolK_b, intK_i, oneK_d, oneL_d, twoK_2, sixK_r, rngK_i, rtK_d, peek_d, peek_r, peeks_n, peeks_c, own_r, lst_z, lst_s, Option.map_some, Option.bind_some, Option.join_some, List.getElem?_cons_zero, List.getElem?_cons_succ, List.set_cons_zero, List.set_cons_succ, List.map_cons, List.map_nil, List.cons_append, List.nil_append, List.replicate_succ, List.replicate_zero, Nat.sub_self, datsV_n, datsV_d, wipe_n, wipe_c, setG_n, setG_t, setGs_n, setGs_c, ix_l, ix_t, atI_0, atI_1, atI_2, atI_3, add_i, sub_i, iadd_i, lt_i, le_i, gt_i, ge_i, eq_i, eq_s, len_l, len_t, int_i, abs_i, max_i, tuple_l, tuple_t, sizeLine_val, w_enum, w_isi, w_fmt, w_jnil, w_jcons, w_join, vK_1, strK_s, ne_i, ne_s, s_raise, s_try, wpR_exc, errIx0, errIx1, errIx2, errIx3, errWord0, errWord1, errWord2, errWord3, w_zip, zipK_2, row_l, row_t, w_back, backK_t, neg_i, w_ssetT, tupK_t, w_callI, callK_0, w_mulLD, mulK_l, w_disp, w_din, w_dget, one1_v, w_dlen, w_glue, w_upperD, w_dvals, s_dput, keyV_i, keyV_s, datV_d, strV_s, refOf_r, dctV_r, dct_z, dct_s, xor_tr, xor_fl, seqOf_l, seqOf_t]
              exact ⟨ms, _, _, rfl, trivial, by omega, by omega, l3.2.2, by rw [l4, nb, wb]; rfl, rfl⟩
      · obtain ⟨ms, a, b, e1, rfl, l1, l2, l3, l4, rfl⟩ := I
        cases ms with
        | cons r c ms => rw [Lks.data] at e1; cases e1
        | nil =>
          rw [wfL] at l4
          exact ⟨rfl, hN a b (by rw [wfB, l4, q1, q2]; rfl)⟩
    cases q2 : ns.all nameB with
    | false =>
      simp only [Bool.not_false, if_true, s_nil, s_brk, s_cont, s_seq, s_expr, s_ret, s_retN, s_set, s_setL, s_newL, s_unp, s_par, s_aug, s_six, s_if, s_for, w_var, w_mv2, mvK_d, mvK_r, w_c, w_bin, w_un, w_tst, w_and, w_or, w_not, w_andV, w_orV, w_notV, w_if, w_nil, w_cons, w_tup, w_lst, w_as, w_bc, w_lc, w_call, w_no, w_some, w_slice, w_app, w_ext, w_pop, w_seqD, w_rng1, w_comp, wpR_ok, optK_some, boolK_b, intK_i, oneK_d, oneL_d, twoK_2, sixK_r, rngK_i, rtK_d, peek_d, peek_r, peeks_n, peeks_c, own_r, lst_z, lst_s, Option.map_some, Option.bind_some, Option.join_some, List.getElem?_cons_zero, List.getElem?_cons_succ, List.set_cons_zero, List.set_cons_succ, List.map_cons, List.map_nil, List.cons_append, List.nil_append, List.replicate_succ, List.replicate_zero, Nat.sub_self, datsV_n, datsV_d, wipe_n, wipe_c, setG_n, setG_t, setGs_n, setGs_c, ix_l, ix_t, atI_0, atI_1, atI_2, atI_3, add_i, sub_i, iadd_i, lt_i, le_i, gt_i, ge_i, eq_i, eq_s, len_l, len_t, int_i, abs_i, max_i, tuple_l, tuple_t, sizeLine_val, w_enum, w_isi, w_fmt, w_jnil, w_jcons, w_join, vK_1, strK_s, ne_i, ne_s, s_raise, s_try, wpR_exc, errIx0, errIx1, errIx2, errIx3, errWord0, errWord1, errWord2, errWord3, w_zip, zipK_2, row_l, row_t, w_back, backK_t, neg_i, w_ssetT, tupK_t, w_callI, callK_0, w_mulLD, mulK_l, w_disp, w_din, w_dget, one1_v, w_dlen, w_glue, w_upperD, w_dvals, s_dput, keyV_i, keyV_s, datV_d, strV_s, refOf_r, dctV_r, dct_z, dct_s, xor_tr, xor_fl, seqOf_l, seqOf_t]
      exact done _ (by rw [wfB, q2]; rfl)
    | true =>
      simp only [Bool.not_true, Bool.false_eq_true, if_false, s_nil, s_brk, s_cont, s_seq, s_expr, s_ret, s_retN, s_set, s_setL, s_newL, s_unp, s_par, s_aug, s_six, s_if, s_for, w_var, w_mv2, mvK_d, mvK_r, w_c, w_bin, w_un, w_tst, w_and, w_or, w_not, w_andV, w_orV, w_notV, w_if, w_nil, w_cons, w_tup, w_lst, w_as, w_bc, w_lc, w_call, w_no, w_some, w_slice, w_app, w_ext, w_pop, w_seqD, w_rng1, w_comp, wpR_ok, optK_some, boolK_b, intK_i, oneK_d, oneL_d, twoK_2, sixK_r, rngK_i, rtK_d, peek_d, peek_r, peeks_n, peeks_c, own_r, lst_z, lst_s, Option.map_some, Option.bind_some, Option.join_some, List.getElem?_cons_zero, List.getElem?_cons_succ, List.set_cons_zero, List.set_cons_succ, List.map_cons, List.map_nil, List.cons_append, List.nil_append, List.replicate_succ, List.replicate_zero, Nat.sub_self, datsV_n, datsV_d, wipe_n, wipe_c, setG_n, setG_t, setGs_n, setGs_c, ix_l, ix_t, atI_0, atI_1, atI_2, atI_3, add_i, sub_i, iadd_i, lt_i, le_i, gt_i, ge_i, eq_i, eq_s, len_l, len_t, int_i, abs_i, max_i, tuple_l, tuple_t, sizeLine_val, w_enum, w_isi, w_fmt, w_jnil, w_jcons, w_join, vK_1, strK_s, ne_i, ne_s, s_raise, s_try, wpR_exc, errIx0, errIx1, errIx2, errIx3, errWord0, errWord1, errWord2, errWord3, w_zip, zipK_2, row_l, row_t, w_back, backK_t, neg_i, w_ssetT, tupK_t, w_callI, callK_0, w_mulLD, mulK_l, w_disp, w_din, w_dget, one1_v, w_dlen, w_glue, w_upperD, w_dvals, s_dput, keyV_i, keyV_s, datV_d, strV_s, refOf_r, dctV_r, dct_z, dct_s, xor_tr, xor_fl, seqOf_l, seqOf_t]
      cases q1 : risB (ns.map .str) with
      | false =>
        simp only [Bool.not_false, if_true, s_nil, s_brk, s_cont, s_seq, s_expr, s_ret, s_retN, s_set, s_setL, s_newL, s_unp, s_par, s_aug, s_six, s_if, s_for, w_var, w_mv2, mvK_d, mvK_r, w_c, w_bin, w_un, w_tst, w_and, w_or, w_not, w_andV, w_orV, w_notV, w_if, w_nil, w_cons, w_tup, w_lst, w_as, w_bc, w_lc, w_call, w_no, w_some, w_slice, w_app, w_ext, w_pop, w_seqD, w_rng1, w_comp, wpR_ok, optK_some, boolK_b, intK_i, oneK_d, oneL_d, twoK_2, sixK_r, rngK_i, rtK_d, peek_d, peek_r, peeks_n, peeks_c, own_r, lst_z, lst_s, Option.map_some, Option.bind_some, Option.join_some, List.getElem?_cons_zero, List.getElem?_cons_succ, List.set_cons_zero, List.set_cons_succ, List.map_cons, List.map_nil, List.cons_append, List.nil_append, List.replicate_succ, List.replicate_zero, Nat.sub_self, datsV_n, datsV_d, wipe_n, wipe_c, setG_n, setG_t, setGs_n, setGs_c, ix_l, ix_t, atI_0, atI_1, atI_2, atI_3, add_i, sub_i, iadd_i, lt_i, le_i, gt_i, ge_i, eq_i, eq_s, len_l, len_t, int_i, abs_i, max_i, tuple_l, tuple_t, sizeLine_val, w_enum, w_isi, w_fmt, w_jnil, w_jcons, w_join, vK_1, strK_s, ne_i, ne_s, s_raise, s_try, wpR_exc, errIx0, errIx1, errIx2, errIx3, errWord0, errWord1, errWord2, errWord3, w_zip, zipK_2, row_l, row_t, w_back, backK_t, neg_i, w_ssetT, tupK_t, w_callI, callK_0, w_mulLD, mulK_l, w_disp, w_din, w_dget, one1_v, w_dlen, w_glue, w_upperD, w_dvals, s_dput, keyV_i, keyV_s, datV_d, strV_s, refOf_r, dctV_r, dct_z, dct_s, xor_tr, xor_fl, seqOf_l, seqOf_t]
        exact done _ (by rw [wfB, q1, q2]; rfl)
      | true =>
        simp only [Bool.not_true, Bool.false_eq_true, if_false, s_nil, s_brk, s_cont, s_seq, s_expr, s_ret, s_retN, s_set, s_setL, s_newL, s_unp, s_par, s_aug, s_six, s_if, s_for, w_var, w_mv2, mvK_d, mvK_r, w_c, w_bin, w_un, w_tst, w_and, w_or, w_not, w_andV, w_orV, w_notV, w_if, w_nil, w_cons, w_tup, w_lst, w_as, w_bc, w_lc, w_call, w_no, w_some, w_slice, w_app, w_ext, w_pop, w_seqD, w_rng1, w_comp, wpR_ok, optK_some, boolK_b, intK_i, oneK_d, oneL_d, twoK_2, sixK_r, rngK_i, rtK_d, peek_d, peek_r, peeks_n, peeks_c, own_r, lst_z, lst_s, Option.map_some, Option.bind_some, Option.join_some, List.getElem?_cons_zero, List.getElem?_cons_succ, List.set_cons_zero, List.set_cons_succ, List.map_cons, List.map_nil, List.cons_append, List.nil_append, List.replicate_succ, List.replicate_zero, Nat.sub_self, datsV_n, datsV_d, wipe_n, wipe_c, setG_n, setG_t, setGs_n, setGs_c, ix_l, ix_t, atI_0, atI_1, atI_2, atI_3, add_i, sub_i, iadd_i, lt_i, le_i, gt_i, ge_i, eq_i, eq_s, len_l, len_t, int_i, abs_i, max_i, tuple_l, tuple_t, sizeLine_val, w_enum, w_isi, w_fmt, w_jnil, w_jcons, w_join, vK_1, strK_s, ne_i, ne_s, s_raise, s_try, wpR_exc, errIx0, errIx1, errIx2, errIx3, errWord0, errWord1, errWord2, errWord3, w_zip, zipK_2, row_l, row_t, w_back, backK_t, neg_i, w_ssetT, tupK_t, w_callI, callK_0, w_mulLD, mulK_l, w_disp, w_din, w_dget, one1_v, w_dlen, w_glue, w_upperD, w_dvals, s_dput, keyV_i, keyV_s, datV_d, strV_s, refOf_r, dctV_r, dct_z, dct_s, xor_tr, xor_fl, seqOf_l, seqOf_t]
        refine core q1 q2 _ _ rfl fun a b w => ?_
        simp only [s_nil, s_brk, s_cont, s_seq, s_expr, s_ret, s_retN, s_set, s_setL, s_newL, s_unp, s_par, s_aug, s_six, s_if, s_for, w_var, w_mv2, mvK_d, mvK_r, w_c, w_bin, w_un, w_tst, w_and, w_or, w_not, w_andV, w_orV, w_notV, w_if, w_nil, w_cons, w_tup, w_lst, w_as, w_bc, w_lc, w_call, w_no, w_some, w_slice, w_app, w_ext, w_pop, w_seqD, w_rng1, w_comp, wpR_ok, optK_some, boolK_b, intK_i, oneK_d, oneL_d, twoK_2, sixK_r, rngK_i, rtK_d, peek_d, peek_r, peeks_n, peeks_c, own_r, lst_z, lst_s, Option.map_some, Option.bind_some, Option.join_some, List.getElem?_cons_zero, List.getElem?_cons_succ, List.set_cons_zero, List.set_cons_succ, List.map_cons, List.map_nil, List.cons_append, List.nil_append, List.replicate_succ, List.replicate_zero, Nat.sub_self, datsV_n, datsV_d, wipe_n, wipe_c, setG_n, setG_t, setGs_n, setGs_c, ix_l, ix_t, atI_0, atI_1, atI_2, atI_3, add_i, sub_i, iadd_i, lt_i, le_i, gt_i, ge_i, eq_i, eq_s, len_l, len_t, int_i, abs_i, max_i, tuple_l, tuple_t, sizeLine_val, w_enum, w_isi, w_fmt, w_jnil, w_jcons, w_join, vK_1, strK_s, ne_i, ne_s, s_raise, s_try, wpR_exc, errIx0, errIx1, errIx2, errIx3, errWord0, errWord1, errWord2, errWord3, w_zip, zipK_2, row_l, row_t, w_back, backK_t, neg_i, w_ssetT, tupK_t, w_callI, callK_0, w_mulLD, mulK_l, w_disp, w_din, w_dget, one1_v, w_dlen, w_glue, w_upperD, w_dvals, s_dput, keyV_i, keyV_s, datV_d, strV_s, refOf_r, dctV_r, dct_z, dct_s, xor_tr, xor_fl, seqOf_l, seqOf_t]
        rw [rl, wpR_ok]
        exact done _ w.symm
theorem check_spec {k : Nat} {c : Con} {h : Hl} (hk : c.deep + 3 < k) (hs : c.size ≤ 200) (hd : c.deep ≤ 12) (hf : fine c) (hw : wfB c = true) : callD prog k i_check_concept [.dat c.data] h = .ok (.dat .none) h := by
  obtain ⟨k, rfl⟩ : ∃ j, k = j + 1 := ⟨k - 1, by omega⟩
  refine wpR_eq ?_
  rw [call_at (r := r_check_concept) rfl]
  refine fn_rule rfl ?_
  show wpS (D_check_concept (callD prog k) [some (.dat c.data), none, none] h) _ _
  simp only [D_check_concept, s_nil, s_brk, s_cont, s_seq, s_expr, s_ret, s_retN, s_set, s_setL, s_newL, s_unp, s_par, s_aug, s_six, s_if, s_for, w_var, w_mv2, mvK_d, mvK_r, w_c, w_bin, w_un, w_tst, w_and, w_or, w_not, w_andV, w_orV, w_notV, w_if, w_nil, w_cons, w_tup, w_lst, w_as, w_bc, w_lc, w_call, w_no, w_some, w_slice, w_app, w_ext, w_pop, w_seqD, w_rng1, w_comp, wpR_ok, optK_some, boolK_b, intK_i, oneK_d, oneL_d, twoK_2, sixK_r, rngK_i, rtK_d, peek_d, peek_r, peeks_n, peeks_c, own_r, lst_z, lst_s, Option.map_some, Option.bind_some, Option.join_some, List.getElem?_cons_zero, List.getElem?_cons_succ, List.set_cons_zero, List.set_cons_succ, List.map_cons, List.map_nil, List.cons_append, List.nil_append, List.replicate_succ, List.replicate_zero, Nat.sub_self, datsV_n, datsV_d, wipe_n, wipe_c, setG_n, setG_t, setGs_n, setGs_c, ix_l, ix_t, atI_0, atI_1, atI_2, atI_3, add_i, sub_i, iadd_i, lt_i, le_i, gt_i, ge_i, eq_i, eq_s, len_l, len_t, int_i, abs_i, max_i, tuple_l, tuple_t, sizeLine_val, w_enum, w_isi, w_fmt, w_jnil, w_jcons, w_join, vK_1, strK_s, ne_i, ne_s, s_raise, s_try, wpR_exc, errIx0, errIx1, errIx2, errIx3, errWord0, errWord1, errWord2, errWord3, w_zip, zipK_2, row_l, row_t, w_back, backK_t, neg_i, w_ssetT, tupK_t, w_callI, callK_0, w_mulLD, mulK_l, w_disp, w_din, w_dget, one1_v, w_dlen, w_glue, w_upperD, w_dvals, s_dput, keyV_i, keyV_s, datV_d, strV_s, refOf_r, dctV_r, dct_z, dct_s, xor_tr, xor_fl, seqOf_l, seqOf_t]
  rw [measured_spec k c h (by omega) (by omega)]
  simp only [s_nil, s_brk, s_cont, s_seq, s_expr, s_ret, s_retN, s_set, s_setL, s_newL, s_unp, s_par, s_aug, s_six, s_if, s_for, w_var, w_mv2, mvK_d, mvK_r, w_c, w_bin, w_un, w_tst, w_and, w_or, w_not, w_andV, w_orV, w_notV, w_if, w_nil, w_cons, w_tup, w_lst, w_as, w_bc, w_lc, w_call, w_no, w_some, w_slice, w_app, w_ext, w_pop, w_seqD, w_rng1, w_comp, wpR_ok, optK_some, boolK_b, intK_i, oneK_d, oneL_d, twoK_2, sixK_r, rngK_i, rtK_d, peek_d, peek_r, peeks_n, peeks_c, own_r, lst_z, lst_s, Option.map_some, Option.bind_some, Option.join_some, List.getElem?_cons_zero, List.getElem?_cons_succ, List.set_cons_zero, List.set_cons_succ, List.map_cons, List.map_nil, List.cons_append, List.nil_append, List.replicate_succ, List.replicate_zero, Nat.sub_self, datsV_n, datsV_d, wipe_n, wipe_c, setG_n, setG_t, setGs_n, setGs_c, ix_l, ix_t, atI_0, atI_1, atI_2, atI_3, add_i, sub_i, iadd_i, lt_i, le_i, gt_i, ge_i, eq_i, eq_s, len_l, len_t, int_i, abs_i, max_i, tuple_l, tuple_t, sizeLine_val, w_enum, w_isi, w_fmt, w_jnil, w_jcons, w_join, vK_1, strK_s, ne_i, ne_s, s_raise, s_try, wpR_exc, errIx0, errIx1, errIx2, errIx3, errWord0, errWord1, errWord2, errWord3, w_zip, zipK_2, row_l, row_t, w_back, backK_t, neg_i, w_ssetT, tupK_t, w_callI, callK_0, w_mulLD, mulK_l, w_disp, w_din, w_dget, one1_v, w_dlen, w_glue, w_upperD, w_dvals, s_dput, keyV_i, keyV_s, datV_d, strV_s, refOf_r, dctV_r, dct_z, dct_s, xor_tr, xor_fl, seqOf_l, seqOf_t]
  rw [if_neg (by simp; omega), if_neg (by simp; omega), well_formed_spec k c h (by omega) (by omega) (by omega) hf, hw]
  simp only [s_nil, s_brk, s_cont, s_seq, s_expr, s_ret, s_retN, s_set, s_setL, s_newL, s_unp, s_par, s_aug, s_six, s_if, s_for, w_var, w_mv2, mvK_d, mvK_r, w_c, w_bin, w_un, w_tst, w_and, w_or, w_not, w_andV, w_orV, w_notV, w_if, w_nil, w_cons, w_tup, w_lst, w_as, w_bc, w_lc, w_call, w_no, w_some, w_slice, w_app, w_ext, w_pop, w_seqD, w_rng1, w_comp, wpR_ok, optK_some, boolK_b, intK_i, oneK_d, oneL_d, twoK_2, sixK_r, rngK_i, rtK_d, peek_d, peek_r, peeks_n, peeks_c, own_r, lst_z, lst_s, Option.map_some, Option.bind_some, Option.join_some, List.getElem?_cons_zero, List.getElem?_cons_succ, List.set_cons_zero, List.set_cons_succ, List.map_cons, List.map_nil, List.cons_append, List.nil_append, List.replicate_succ, List.replicate_zero, Nat.sub_self, datsV_n, datsV_d, wipe_n, wipe_c, setG_n, setG_t, setGs_n, setGs_c, ix_l, ix_t, atI_0, atI_1, atI_2, atI_3, add_i, sub_i, iadd_i, lt_i, le_i, gt_i, ge_i, eq_i, eq_s, len_l, len_t, int_i, abs_i, max_i, tuple_l, tuple_t, sizeLine_val, w_enum, w_isi, w_fmt, w_jnil, w_jcons, w_join, vK_1, strK_s, ne_i, ne_s, s_raise, s_try, wpR_exc, errIx0, errIx1, errIx2, errIx3, errWord0, errWord1, errWord2, errWord3, w_zip, zipK_2, row_l, row_t, w_back, backK_t, neg_i, w_ssetT, tupK_t, w_callI, callK_0, w_mulLD, mulK_l, w_disp, w_din, w_dget, one1_v, w_dlen, w_glue, w_upperD, w_dvals, s_dput, keyV_i, keyV_s, datV_d, strV_s, refOf_r, dctV_r, dct_z, dct_s, xor_tr, xor_fl, seqOf_l, seqOf_t, Bool.not_true, Bool.false_eq_true, if_false]
  exact ⟨trivial, List.take_length⟩
end Pg
end

section
namespace Pg
open PySem PySem.Spec PyProof.Rows L2 Dn
/-! check_concept, size, depth at any nested pairs with fine texts; what the law asks of the three -/
theorem check_large {k : Nat} {c : Con} {h : Hl} (hk : c.deep + 3 < k) (hz : c.size ≤ 1000000) (hb : 200 < c.size ∨ 12 < c.deep) : callD prog k i_check_concept [.dat c.data] h = .exc ⟨"TooLarge"⟩ h := by
  obtain ⟨k, rfl⟩ : ∃ j, k = j + 1 := ⟨k - 1, by omega⟩
  refine wpR_eqx ?_
  rw [call_at (r := r_check_concept) rfl]
  rw [show r_check_concept.body = D_check_concept from rfl]
  generalize eB_check_concept : D_check_concept (callD prog k) = B_check_concept
  refine fn_rule rfl ?_
  subst eB_check_concept
  show wpS (D_check_concept (callD prog k) [some (.dat c.data), none, none] (h)) _ _
  simp only [D_check_concept, s_nil, s_brk, s_cont, s_seq, s_expr, s_ret, s_retN, s_set, s_setL, s_newL, s_unp, s_par, s_aug, s_six, s_if, s_for, w_var, w_mv2, mvK_d, mvK_r, w_c, w_bin, w_un, w_tst, w_and, w_or, w_not, w_andV, w_orV, w_notV, w_if, w_nil, w_cons, w_tup, w_lst, w_as, w_bc, w_lc, w_call, w_no, w_some, w_slice, w_app, w_ext, w_pop, w_seqD, w_rng1, w_comp, wpR_ok, optK_some, boolK_b, intK_i, oneK_d, oneL_d, twoK_2, sixK_r, rngK_i, rtK_d, peek_d, peek_r, peeks_n, peeks_c, own_r, lst_z, lst_s, Option.map_some, Option.bind_some, Option.join_some, List.getElem?_cons_zero, List.getElem?_cons_succ, List.set_cons_zero, List.set_cons_succ, List.map_cons, List.map_nil, List.cons_append, List.nil_append, List.replicate_succ, List.replicate_zero, Nat.sub_self, datsV_n, datsV_d, wipe_n, wipe_c, setG_n, setG_t, setGs_n, setGs_c, ix_l, ix_t, atI_0, atI_1, atI_2, atI_3, add_i, sub_i, iadd_i, lt_i, le_i, gt_i, ge_i, eq_i, eq_s, len_l, len_t, int_i, abs_i, max_i, tuple_l, tuple_t, sizeLine_val, w_enum, w_isi, w_fmt, w_jnil, w_jcons, w_join, vK_1, strK_s, ne_i, ne_s, s_raise, s_try, wpR_exc, errIx0, errIx1, errIx2, errIx3, errWord0, errWord1, errWord2, errWord3, w_zip, zipK_2, row_l, row_t, w_back, backK_t, neg_i, w_ssetT, tupK_t, w_callI, callK_0, w_mulLD, mulK_l, w_disp, w_din, w_dget, one1_v, w_dlen, w_glue, w_upperD, w_dvals, s_dput, keyV_i, keyV_s, datV_d, strV_s, refOf_r, dctV_r, dct_z, dct_s, xor_tr, xor_fl, seqOf_l, seqOf_t, List.length_nil, List.length_cons, Nat.reduceAdd, Nat.reduceLeDiff, true_and, and_true, if_true, if_false, Bool.not_true, Bool.not_false, Bool.false_eq_true]
  rw [measured_spec k c h (by omega) (by omega)]
  simp only [s_nil, s_brk, s_cont, s_seq, s_expr, s_ret, s_retN, s_set, s_setL, s_newL, s_unp, s_par, s_aug, s_six, s_if, s_for, w_var, w_mv2, mvK_d, mvK_r, w_c, w_bin, w_un, w_tst, w_and, w_or, w_not, w_andV, w_orV, w_notV, w_if, w_nil, w_cons, w_tup, w_lst, w_as, w_bc, w_lc, w_call, w_no, w_some, w_slice, w_app, w_ext, w_pop, w_seqD, w_rng1, w_comp, wpR_ok, optK_some, boolK_b, intK_i, oneK_d, oneL_d, twoK_2, sixK_r, rngK_i, rtK_d, peek_d, peek_r, peeks_n, peeks_c, own_r, lst_z, lst_s, Option.map_some, Option.bind_some, Option.join_some, List.getElem?_cons_zero, List.getElem?_cons_succ, List.set_cons_zero, List.set_cons_succ, List.map_cons, List.map_nil, List.cons_append, List.nil_append, List.replicate_succ, List.replicate_zero, Nat.sub_self, datsV_n, datsV_d, wipe_n, wipe_c, setG_n, setG_t, setGs_n, setGs_c, ix_l, ix_t, atI_0, atI_1, atI_2, atI_3, add_i, sub_i, iadd_i, lt_i, le_i, gt_i, ge_i, eq_i, eq_s, len_l, len_t, int_i, abs_i, max_i, tuple_l, tuple_t, sizeLine_val, w_enum, w_isi, w_fmt, w_jnil, w_jcons, w_join, vK_1, strK_s, ne_i, ne_s, s_raise, s_try, wpR_exc, errIx0, errIx1, errIx2, errIx3, errWord0, errWord1, errWord2, errWord3, w_zip, zipK_2, row_l, row_t, w_back, backK_t, neg_i, w_ssetT, tupK_t, w_callI, callK_0, w_mulLD, mulK_l, w_disp, w_din, w_dget, one1_v, w_dlen, w_glue, w_upperD, w_dvals, s_dput, keyV_i, keyV_s, datV_d, strV_s, refOf_r, dctV_r, dct_z, dct_s, xor_tr, xor_fl, seqOf_l, seqOf_t, List.length_nil, List.length_cons, Nat.reduceAdd, Nat.reduceLeDiff, true_and, and_true, if_true, if_false, Bool.not_true, Bool.not_false, Bool.false_eq_true]
  by_cases q : 200 < c.size
  · rw [if_pos (by simp; omega)]
    exact (by first | exact ⟨rfl, List.take_length⟩ | exact ⟨trivial, List.take_length⟩ | exact List.take_length | exact ⟨by omega, rfl, List.take_length⟩ | exact ⟨by omega, trivial, List.take_length⟩ | exact ⟨by omega, List.take_length⟩ | exact ⟨rfl, rfl, List.take_length⟩ | exact ⟨trivial, trivial, List.take_length⟩)
  · rw [if_neg (by simp; omega), if_pos (by simp; omega)]
    exact (by first | exact ⟨rfl, List.take_length⟩ | exact ⟨trivial, List.take_length⟩ | exact List.take_length | exact ⟨by omega, rfl, List.take_length⟩ | exact ⟨by omega, trivial, List.take_length⟩ | exact ⟨by omega, List.take_length⟩ | exact ⟨rfl, rfl, List.take_length⟩ | exact ⟨trivial, trivial, List.take_length⟩)
theorem check_bad {k : Nat} {c : Con} {h : Hl} (hk : c.deep + 3 < k) (hs : c.size ≤ 200) (hd : c.deep ≤ 12) (hf : fine c) (hw : wfB c = false) : callD prog k i_check_concept [.dat c.data] h = .exc ⟨"NotAllowed"⟩ h := by
  obtain ⟨k, rfl⟩ : ∃ j, k = j + 1 := ⟨k - 1, by omega⟩
  refine wpR_eqx ?_
  rw [call_at (r := r_check_concept) rfl]
  rw [show r_check_concept.body = D_check_concept from rfl]
  generalize eB_check_concept : D_check_concept (callD prog k) = B_check_concept
  refine fn_rule rfl ?_
  subst eB_check_concept
  show wpS (D_check_concept (callD prog k) [some (.dat c.data), none, none] (h)) _ _
  simp only [D_check_concept, s_nil, s_brk, s_cont, s_seq, s_expr, s_ret, s_retN, s_set, s_setL, s_newL, s_unp, s_par, s_aug, s_six, s_if, s_for, w_var, w_mv2, mvK_d, mvK_r, w_c, w_bin, w_un, w_tst, w_and, w_or, w_not, w_andV, w_orV, w_notV, w_if, w_nil, w_cons, w_tup, w_lst, w_as, w_bc, w_lc, w_call, w_no, w_some, w_slice, w_app, w_ext, w_pop, w_seqD, w_rng1, w_comp, wpR_ok, optK_some, boolK_b, intK_i, oneK_d, oneL_d, twoK_2, sixK_r, rngK_i, rtK_d, peek_d, peek_r, peeks_n, peeks_c, own_r, lst_z, lst_s, Option.map_some, Option.bind_some, Option.join_some, List.getElem?_cons_zero, List.getElem?_cons_succ, List.set_cons_zero, List.set_cons_succ, List.map_cons, List.map_nil, List.cons_append, List.nil_append, List.replicate_succ, List.replicate_zero, Nat.sub_self, datsV_n, datsV_d, wipe_n, wipe_c, setG_n, setG_t, setGs_n, setGs_c, ix_l, ix_t, atI_0, atI_1, atI_2, atI_3, add_i, sub_i, iadd_i, lt_i, le_i, gt_i, ge_i, eq_i, eq_s, len_l, len_t, int_i, abs_i, max_i, tuple_l, tuple_t, sizeLine_val, w_enum, w_isi, w_fmt, w_jnil, w_jcons, w_join, vK_1, strK_s, ne_i, ne_s, s_raise, s_try, wpR_exc, errIx0, errIx1, errIx2, errIx3, errWord0, errWord1, errWord2, errWord3, w_zip, zipK_2, row_l, row_t, w_back, backK_t, neg_i, w_ssetT, tupK_t, w_callI, callK_0, w_mulLD, mulK_l, w_disp, w_din, w_dget, one1_v, w_dlen, w_glue, w_upperD, w_dvals, s_dput, keyV_i, keyV_s, datV_d, strV_s, refOf_r, dctV_r, dct_z, dct_s, xor_tr, xor_fl, seqOf_l, seqOf_t, List.length_nil, List.length_cons, Nat.reduceAdd, Nat.reduceLeDiff, true_and, and_true, if_true, if_false, Bool.not_true, Bool.not_false, Bool.false_eq_true]
  rw [measured_spec k c h (by omega) (by omega)]
  simp only [s_nil, s_brk, s_cont, s_seq, s_expr, s_ret, s_retN, s_set, s_setL, s_newL, s_unp, s_par, s_aug, s_six, s_if, s_for, w_var, w_mv2, mvK_d, mvK_r, w_c, w_bin, w_un, w_tst, w_and, w_or, w_not, w_andV, w_orV, w_notV, w_if, w_nil, w_cons, w_tup, w_lst, w_as, w_bc, w_lc, w_call, w_no, w_some, w_slice, w_app, w_ext, w_pop, w_seqD, w_rng1, w_comp, wpR_ok, optK_some, boolK_b, intK_i, oneK_d, oneL_d, twoK_2, sixK_r, rngK_i, rtK_d, peek_d, peek_r, peeks_n, peeks_c, own_r, lst_z, lst_s, Option.map_some, Option.bind_some, Option.join_some, List.getElem?_cons_zero, List.getElem?_cons_succ, List.set_cons_zero, List.set_cons_succ, List.map_cons, List.map_nil, List.cons_append, List.nil_append, List.replicate_succ, List.replicate_zero, Nat.sub_self, datsV_n, datsV_d, wipe_n, wipe_c, setG_n, setG_t, setGs_n, setGs_c, ix_l, ix_t, atI_0, atI_1, atI_2, atI_3, add_i, sub_i, iadd_i, lt_i, le_i, gt_i, ge_i, eq_i, eq_s, len_l, len_t, int_i, abs_i, max_i, tuple_l, tuple_t, sizeLine_val, w_enum, w_isi, w_fmt, w_jnil, w_jcons, w_join, vK_1, strK_s, ne_i, ne_s, s_raise, s_try, wpR_exc, errIx0, errIx1, errIx2, errIx3, errWord0, errWord1, errWord2, errWord3, w_zip, zipK_2, row_l, row_t, w_back, backK_t, neg_i, w_ssetT, tupK_t, w_callI, callK_0, w_mulLD, mulK_l, w_disp, w_din, w_dget, one1_v, w_dlen, w_glue, w_upperD, w_dvals, s_dput, keyV_i, keyV_s, datV_d, strV_s, refOf_r, dctV_r, dct_z, dct_s, xor_tr, xor_fl, seqOf_l, seqOf_t, List.length_nil, List.length_cons, Nat.reduceAdd, Nat.reduceLeDiff, true_and, and_true, if_true, if_false, Bool.not_true, Bool.not_false, Bool.false_eq_true]
  rw [if_neg (by simp; omega), if_neg (by simp; omega), well_formed_spec k c h (by omega) (by omega) (by omega) hf, hw]
  simp only [s_nil, s_brk, s_cont, s_seq, s_expr, s_ret, s_retN, s_set, s_setL, s_newL, s_unp, s_par, s_aug, s_six, s_if, s_for, w_var, w_mv2, mvK_d, mvK_r, w_c, w_bin, w_un, w_tst, w_and, w_or, w_not, w_andV, w_orV, w_notV, w_if, w_nil, w_cons, w_tup, w_lst, w_as, w_bc, w_lc, w_call, w_no, w_some, w_slice, w_app, w_ext, w_pop, w_seqD, w_rng1, w_comp, wpR_ok, optK_some, boolK_b, intK_i, oneK_d, oneL_d, twoK_2, sixK_r, rngK_i, rtK_d, peek_d, peek_r, peeks_n, peeks_c, own_r, lst_z, lst_s, Option.map_some, Option.bind_some, Option.join_some, List.getElem?_cons_zero, List.getElem?_cons_succ, List.set_cons_zero, List.set_cons_succ, List.map_cons, List.map_nil, List.cons_append, List.nil_append, List.replicate_succ, List.replicate_zero, Nat.sub_self, datsV_n, datsV_d, wipe_n, wipe_c, setG_n, setG_t, setGs_n, setGs_c, ix_l, ix_t, atI_0, atI_1, atI_2, atI_3, add_i, sub_i, iadd_i, lt_i, le_i, gt_i, ge_i, eq_i, eq_s, len_l, len_t, int_i, abs_i, max_i, tuple_l, tuple_t, sizeLine_val, w_enum, w_isi, w_fmt, w_jnil, w_jcons, w_join, vK_1, strK_s, ne_i, ne_s, s_raise, s_try, wpR_exc, errIx0, errIx1, errIx2, errIx3, errWord0, errWord1, errWord2, errWord3, w_zip, zipK_2, row_l, row_t, w_back, backK_t, neg_i, w_ssetT, tupK_t, w_callI, callK_0, w_mulLD, mulK_l, w_disp, w_din, w_dget, one1_v, w_dlen, w_glue, w_upperD, w_dvals, s_dput, keyV_i, keyV_s, datV_d, strV_s, refOf_r, dctV_r, dct_z, dct_s, xor_tr, xor_fl, seqOf_l, seqOf_t, List.length_nil, List.length_cons, Nat.reduceAdd, Nat.reduceLeDiff, true_and, and_true, if_true, if_false, Bool.not_true, Bool.not_false, Bool.false_eq_true]
  exact (by first | exact ⟨rfl, List.take_length⟩ | exact ⟨trivial, List.take_length⟩ | exact List.take_length | exact ⟨by omega, rfl, List.take_length⟩ | exact ⟨by omega, trivial, List.take_length⟩ | exact ⟨by omega, List.take_length⟩ | exact ⟨rfl, rfl, List.take_length⟩ | exact ⟨trivial, trivial, List.take_length⟩)
/-- how the three end: 0 well, 1 refused, 2 too large -/
def bigC (c : Con) : Bool := decide (200 < c.size ∨ 12 < c.deep)
def endC (c : Con) (d : PyData) : PyData := if bigC c = true then .str "large" else if wfB c = true then .tuple [.str "told", d] else .str "refused"
def resC (c : Con) : Nat → PyData
  | 0 => .none
  | 1 => .int c.size
  | _ => .int c.deep
structure Ask (c : Con) : Prop where
  size : c.size ≤ 1000000
  deep : c.deep ≤ 18
  fine : fine c
theorem Ask.ok {c : Con} (a : Ask c) (b : bigC c = false) : c.size ≤ 200 ∧ c.deep ≤ 12 := by
  unfold bigC at b
  rw [decide_eq_false_iff_not] at b
  omega
theorem Ask.big {c : Con} (b : bigC c = true) : 200 < c.size ∨ 12 < c.deep := of_decide_eq_true b
theorem size_ok {k : Nat} {c : Con} {h : Hl} (hk : c.deep + 5 < k) (hs : c.size ≤ 200) (hd : c.deep ≤ 12) (hf : fine c) (hw : wfB c = true) : callD prog k i_size [.dat c.data] h = .ok (.dat (.int c.size)) h := by
  obtain ⟨k, rfl⟩ : ∃ j, k = j + 1 := ⟨k - 1, by omega⟩
  refine wpR_eq ?_
  rw [call_at (r := r_size) rfl]
  rw [show r_size.body = D_size from rfl]
  generalize eB_size : D_size (callD prog k) = B_size
  refine fn_rule rfl ?_
  subst eB_size
  show wpS (D_size (callD prog k) [some (.dat c.data)] (h)) _ _
  simp only [D_size, s_nil, s_brk, s_cont, s_seq, s_expr, s_ret, s_retN, s_set, s_setL, s_newL, s_unp, s_par, s_aug, s_six, s_if, s_for, w_var, w_mv2, mvK_d, mvK_r, w_c, w_bin, w_un, w_tst, w_and, w_or, w_not, w_andV, w_orV, w_notV, w_if, w_nil, w_cons, w_tup, w_lst, w_as, w_bc, w_lc, w_call, w_no, w_some, w_slice, w_app, w_ext, w_pop, w_seqD, w_rng1, w_comp, wpR_ok, optK_some, boolK_b, intK_i, oneK_d, oneL_d, twoK_2, sixK_r, rngK_i, rtK_d, peek_d, peek_r, peeks_n, peeks_c, own_r, lst_z, lst_s, Option.map_some, Option.bind_some, Option.join_some, List.getElem?_cons_zero, List.getElem?_cons_succ, List.set_cons_zero, List.set_cons_succ, List.map_cons, List.map_nil, List.cons_append, List.nil_append, List.replicate_succ, List.replicate_zero, Nat.sub_self, datsV_n, datsV_d, wipe_n, wipe_c, setG_n, setG_t, setGs_n, setGs_c, ix_l, ix_t, atI_0, atI_1, atI_2, atI_3, add_i, sub_i, iadd_i, lt_i, le_i, gt_i, ge_i, eq_i, eq_s, len_l, len_t, int_i, abs_i, max_i, tuple_l, tuple_t, sizeLine_val, w_enum, w_isi, w_fmt, w_jnil, w_jcons, w_join, vK_1, strK_s, ne_i, ne_s, s_raise, s_try, wpR_exc, errIx0, errIx1, errIx2, errIx3, errWord0, errWord1, errWord2, errWord3, w_zip, zipK_2, row_l, row_t, w_back, backK_t, neg_i, w_ssetT, tupK_t, w_callI, callK_0, w_mulLD, mulK_l, w_disp, w_din, w_dget, one1_v, w_dlen, w_glue, w_upperD, w_dvals, s_dput, keyV_i, keyV_s, datV_d, strV_s, refOf_r, dctV_r, dct_z, dct_s, xor_tr, xor_fl, seqOf_l, seqOf_t, List.length_nil, List.length_cons, Nat.reduceAdd, Nat.reduceLeDiff, true_and, and_true, if_true, if_false, Bool.not_true, Bool.not_false, Bool.false_eq_true]
  rw [check_spec (by omega) hs hd hf hw]
  simp only [s_nil, s_brk, s_cont, s_seq, s_expr, s_ret, s_retN, s_set, s_setL, s_newL, s_unp, s_par, s_aug, s_six, s_if, s_for, w_var, w_mv2, mvK_d, mvK_r, w_c, w_bin, w_un, w_tst, w_and, w_or, w_not, w_andV, w_orV, w_notV, w_if, w_nil, w_cons, w_tup, w_lst, w_as, w_bc, w_lc, w_call, w_no, w_some, w_slice, w_app, w_ext, w_pop, w_seqD, w_rng1, w_comp, wpR_ok, optK_some, boolK_b, intK_i, oneK_d, oneL_d, twoK_2, sixK_r, rngK_i, rtK_d, peek_d, peek_r, peeks_n, peeks_c, own_r, lst_z, lst_s, Option.map_some, Option.bind_some, Option.join_some, List.getElem?_cons_zero, List.getElem?_cons_succ, List.set_cons_zero, List.set_cons_succ, List.map_cons, List.map_nil, List.cons_append, List.nil_append, List.replicate_succ, List.replicate_zero, Nat.sub_self, datsV_n, datsV_d, wipe_n, wipe_c, setG_n, setG_t, setGs_n, setGs_c, ix_l, ix_t, atI_0, atI_1, atI_2, atI_3, add_i, sub_i, iadd_i, lt_i, le_i, gt_i, ge_i, eq_i, eq_s, len_l, len_t, int_i, abs_i, max_i, tuple_l, tuple_t, sizeLine_val, w_enum, w_isi, w_fmt, w_jnil, w_jcons, w_join, vK_1, strK_s, ne_i, ne_s, s_raise, s_try, wpR_exc, errIx0, errIx1, errIx2, errIx3, errWord0, errWord1, errWord2, errWord3, w_zip, zipK_2, row_l, row_t, w_back, backK_t, neg_i, w_ssetT, tupK_t, w_callI, callK_0, w_mulLD, mulK_l, w_disp, w_din, w_dget, one1_v, w_dlen, w_glue, w_upperD, w_dvals, s_dput, keyV_i, keyV_s, datV_d, strV_s, refOf_r, dctV_r, dct_z, dct_s, xor_tr, xor_fl, seqOf_l, seqOf_t, List.length_nil, List.length_cons, Nat.reduceAdd, Nat.reduceLeDiff, true_and, and_true, if_true, if_false, Bool.not_true, Bool.not_false, Bool.false_eq_true]
  rw [measured_spec k c h (by omega) (by omega)]
  simp only [s_nil, s_brk, s_cont, s_seq, s_expr, s_ret, s_retN, s_set, s_setL, s_newL, s_unp, s_par, s_aug, s_six, s_if, s_for, w_var, w_mv2, mvK_d, mvK_r, w_c, w_bin, w_un, w_tst, w_and, w_or, w_not, w_andV, w_orV, w_notV, w_if, w_nil, w_cons, w_tup, w_lst, w_as, w_bc, w_lc, w_call, w_no, w_some, w_slice, w_app, w_ext, w_pop, w_seqD, w_rng1, w_comp, wpR_ok, optK_some, boolK_b, intK_i, oneK_d, oneL_d, twoK_2, sixK_r, rngK_i, rtK_d, peek_d, peek_r, peeks_n, peeks_c, own_r, lst_z, lst_s, Option.map_some, Option.bind_some, Option.join_some, List.getElem?_cons_zero, List.getElem?_cons_succ, List.set_cons_zero, List.set_cons_succ, List.map_cons, List.map_nil, List.cons_append, List.nil_append, List.replicate_succ, List.replicate_zero, Nat.sub_self, datsV_n, datsV_d, wipe_n, wipe_c, setG_n, setG_t, setGs_n, setGs_c, ix_l, ix_t, atI_0, atI_1, atI_2, atI_3, add_i, sub_i, iadd_i, lt_i, le_i, gt_i, ge_i, eq_i, eq_s, len_l, len_t, int_i, abs_i, max_i, tuple_l, tuple_t, sizeLine_val, w_enum, w_isi, w_fmt, w_jnil, w_jcons, w_join, vK_1, strK_s, ne_i, ne_s, s_raise, s_try, wpR_exc, errIx0, errIx1, errIx2, errIx3, errWord0, errWord1, errWord2, errWord3, w_zip, zipK_2, row_l, row_t, w_back, backK_t, neg_i, w_ssetT, tupK_t, w_callI, callK_0, w_mulLD, mulK_l, w_disp, w_din, w_dget, one1_v, w_dlen, w_glue, w_upperD, w_dvals, s_dput, keyV_i, keyV_s, datV_d, strV_s, refOf_r, dctV_r, dct_z, dct_s, xor_tr, xor_fl, seqOf_l, seqOf_t, List.length_nil, List.length_cons, Nat.reduceAdd, Nat.reduceLeDiff, true_and, and_true, if_true, if_false, Bool.not_true, Bool.not_false, Bool.false_eq_true]
  exact (by first | exact ⟨rfl, List.take_length⟩ | exact ⟨trivial, List.take_length⟩ | exact List.take_length | exact ⟨by omega, rfl, List.take_length⟩ | exact ⟨by omega, trivial, List.take_length⟩ | exact ⟨by omega, List.take_length⟩ | exact ⟨rfl, rfl, List.take_length⟩ | exact ⟨trivial, trivial, List.take_length⟩)
theorem depth_ok {k : Nat} {c : Con} {h : Hl} (hk : c.deep + 5 < k) (hs : c.size ≤ 200) (hd : c.deep ≤ 12) (hf : fine c) (hw : wfB c = true) : callD prog k i_depth [.dat c.data] h = .ok (.dat (.int c.deep)) h := by
  obtain ⟨k, rfl⟩ : ∃ j, k = j + 1 := ⟨k - 1, by omega⟩
  refine wpR_eq ?_
  rw [call_at (r := r_depth) rfl]
  rw [show r_depth.body = D_depth from rfl]
  generalize eB_depth : D_depth (callD prog k) = B_depth
  refine fn_rule rfl ?_
  subst eB_depth
  show wpS (D_depth (callD prog k) [some (.dat c.data)] (h)) _ _
  simp only [D_depth, s_nil, s_brk, s_cont, s_seq, s_expr, s_ret, s_retN, s_set, s_setL, s_newL, s_unp, s_par, s_aug, s_six, s_if, s_for, w_var, w_mv2, mvK_d, mvK_r, w_c, w_bin, w_un, w_tst, w_and, w_or, w_not, w_andV, w_orV, w_notV, w_if, w_nil, w_cons, w_tup, w_lst, w_as, w_bc, w_lc, w_call, w_no, w_some, w_slice, w_app, w_ext, w_pop, w_seqD, w_rng1, w_comp, wpR_ok, optK_some, boolK_b, intK_i, oneK_d, oneL_d, twoK_2, sixK_r, rngK_i, rtK_d, peek_d, peek_r, peeks_n, peeks_c, own_r, lst_z, lst_s, Option.map_some, Option.bind_some, Option.join_some, List.getElem?_cons_zero, List.getElem?_cons_succ, List.set_cons_zero, List.set_cons_succ, List.map_cons, List.map_nil, List.cons_append, List.nil_append, List.replicate_succ, List.replicate_zero, Nat.sub_self, datsV_n, datsV_d, wipe_n, wipe_c, setG_n, setG_t, setGs_n, setGs_c, ix_l, ix_t, atI_0, atI_1, atI_2, atI_3, add_i, sub_i, iadd_i, lt_i, le_i, gt_i, ge_i, eq_i, eq_s, len_l, len_t, int_i, abs_i, max_i, tuple_l, tuple_t, sizeLine_val, w_enum, w_isi, w_fmt, w_jnil, w_jcons, w_join, vK_1, strK_s, ne_i, ne_s, s_raise, s_try, wpR_exc, errIx0, errIx1, errIx2, errIx3, errWord0, errWord1, errWord2, errWord3, w_zip, zipK_2, row_l, row_t, w_back, backK_t, neg_i, w_ssetT, tupK_t, w_callI, callK_0, w_mulLD, mulK_l, w_disp, w_din, w_dget, one1_v, w_dlen, w_glue, w_upperD, w_dvals, s_dput, keyV_i, keyV_s, datV_d, strV_s, refOf_r, dctV_r, dct_z, dct_s, xor_tr, xor_fl, seqOf_l, seqOf_t, List.length_nil, List.length_cons, Nat.reduceAdd, Nat.reduceLeDiff, true_and, and_true, if_true, if_false, Bool.not_true, Bool.not_false, Bool.false_eq_true]
  rw [check_spec (by omega) hs hd hf hw]
  simp only [s_nil, s_brk, s_cont, s_seq, s_expr, s_ret, s_retN, s_set, s_setL, s_newL, s_unp, s_par, s_aug, s_six, s_if, s_for, w_var, w_mv2, mvK_d, mvK_r, w_c, w_bin, w_un, w_tst, w_and, w_or, w_not, w_andV, w_orV, w_notV, w_if, w_nil, w_cons, w_tup, w_lst, w_as, w_bc, w_lc, w_call, w_no, w_some, w_slice, w_app, w_ext, w_pop, w_seqD, w_rng1, w_comp, wpR_ok, optK_some, boolK_b, intK_i, oneK_d, oneL_d, twoK_2, sixK_r, rngK_i, rtK_d, peek_d, peek_r, peeks_n, peeks_c, own_r, lst_z, lst_s, Option.map_some, Option.bind_some, Option.join_some, List.getElem?_cons_zero, List.getElem?_cons_succ, List.set_cons_zero, List.set_cons_succ, List.map_cons, List.map_nil, List.cons_append, List.nil_append, List.replicate_succ, List.replicate_zero, Nat.sub_self, datsV_n, datsV_d, wipe_n, wipe_c, setG_n, setG_t, setGs_n, setGs_c, ix_l, ix_t, atI_0, atI_1, atI_2, atI_3, add_i, sub_i, iadd_i, lt_i, le_i, gt_i, ge_i, eq_i, eq_s, len_l, len_t, int_i, abs_i, max_i, tuple_l, tuple_t, sizeLine_val, w_enum, w_isi, w_fmt, w_jnil, w_jcons, w_join, vK_1, strK_s, ne_i, ne_s, s_raise, s_try, wpR_exc, errIx0, errIx1, errIx2, errIx3, errWord0, errWord1, errWord2, errWord3, w_zip, zipK_2, row_l, row_t, w_back, backK_t, neg_i, w_ssetT, tupK_t, w_callI, callK_0, w_mulLD, mulK_l, w_disp, w_din, w_dget, one1_v, w_dlen, w_glue, w_upperD, w_dvals, s_dput, keyV_i, keyV_s, datV_d, strV_s, refOf_r, dctV_r, dct_z, dct_s, xor_tr, xor_fl, seqOf_l, seqOf_t, List.length_nil, List.length_cons, Nat.reduceAdd, Nat.reduceLeDiff, true_and, and_true, if_true, if_false, Bool.not_true, Bool.not_false, Bool.false_eq_true]
  rw [measured_spec k c h (by omega) (by omega)]
  simp only [s_nil, s_brk, s_cont, s_seq, s_expr, s_ret, s_retN, s_set, s_setL, s_newL, s_unp, s_par, s_aug, s_six, s_if, s_for, w_var, w_mv2, mvK_d, mvK_r, w_c, w_bin, w_un, w_tst, w_and, w_or, w_not, w_andV, w_orV, w_notV, w_if, w_nil, w_cons, w_tup, w_lst, w_as, w_bc, w_lc, w_call, w_no, w_some, w_slice, w_app, w_ext, w_pop, w_seqD, w_rng1, w_comp, wpR_ok, optK_some, boolK_b, intK_i, oneK_d, oneL_d, twoK_2, sixK_r, rngK_i, rtK_d, peek_d, peek_r, peeks_n, peeks_c, own_r, lst_z, lst_s, Option.map_some, Option.bind_some, Option.join_some, List.getElem?_cons_zero, List.getElem?_cons_succ, List.set_cons_zero, List.set_cons_succ, List.map_cons, List.map_nil, List.cons_append, List.nil_append, List.replicate_succ, List.replicate_zero, Nat.sub_self, datsV_n, datsV_d, wipe_n, wipe_c, setG_n, setG_t, setGs_n, setGs_c, ix_l, ix_t, atI_0, atI_1, atI_2, atI_3, add_i, sub_i, iadd_i, lt_i, le_i, gt_i, ge_i, eq_i, eq_s, len_l, len_t, int_i, abs_i, max_i, tuple_l, tuple_t, sizeLine_val, w_enum, w_isi, w_fmt, w_jnil, w_jcons, w_join, vK_1, strK_s, ne_i, ne_s, s_raise, s_try, wpR_exc, errIx0, errIx1, errIx2, errIx3, errWord0, errWord1, errWord2, errWord3, w_zip, zipK_2, row_l, row_t, w_back, backK_t, neg_i, w_ssetT, tupK_t, w_callI, callK_0, w_mulLD, mulK_l, w_disp, w_din, w_dget, one1_v, w_dlen, w_glue, w_upperD, w_dvals, s_dput, keyV_i, keyV_s, datV_d, strV_s, refOf_r, dctV_r, dct_z, dct_s, xor_tr, xor_fl, seqOf_l, seqOf_t, List.length_nil, List.length_cons, Nat.reduceAdd, Nat.reduceLeDiff, true_and, and_true, if_true, if_false, Bool.not_true, Bool.not_false, Bool.false_eq_true]
  exact (by first | exact ⟨rfl, List.take_length⟩ | exact ⟨trivial, List.take_length⟩ | exact List.take_length | exact ⟨by omega, rfl, List.take_length⟩ | exact ⟨by omega, trivial, List.take_length⟩ | exact ⟨by omega, List.take_length⟩ | exact ⟨rfl, rfl, List.take_length⟩ | exact ⟨trivial, trivial, List.take_length⟩)
theorem size_ex {k : Nat} {c : Con} {h : Hl} {e : Exc} (hk : 1 ≤ k) (he : ∀ j, k = j + 1 → callD prog j i_check_concept [.dat c.data] h = .exc e h) : callD prog k i_size [.dat c.data] h = .exc e h := by
  obtain ⟨k, rfl⟩ : ∃ j, k = j + 1 := ⟨k - 1, by omega⟩
  refine wpR_eqx ?_
  rw [call_at (r := r_size) rfl]
  rw [show r_size.body = D_size from rfl]
  generalize eB_size : D_size (callD prog k) = B_size
  refine fn_rule rfl ?_
  subst eB_size
  show wpS (D_size (callD prog k) [some (.dat c.data)] (h)) _ _
  simp only [D_size, s_nil, s_brk, s_cont, s_seq, s_expr, s_ret, s_retN, s_set, s_setL, s_newL, s_unp, s_par, s_aug, s_six, s_if, s_for, w_var, w_mv2, mvK_d, mvK_r, w_c, w_bin, w_un, w_tst, w_and, w_or, w_not, w_andV, w_orV, w_notV, w_if, w_nil, w_cons, w_tup, w_lst, w_as, w_bc, w_lc, w_call, w_no, w_some, w_slice, w_app, w_ext, w_pop, w_seqD, w_rng1, w_comp, wpR_ok, optK_some, boolK_b, intK_i, oneK_d, oneL_d, twoK_2, sixK_r, rngK_i, rtK_d, peek_d, peek_r, peeks_n, peeks_c, own_r, lst_z, lst_s, Option.map_some, Option.bind_some, Option.join_some, List.getElem?_cons_zero, List.getElem?_cons_succ, List.set_cons_zero, List.set_cons_succ, List.map_cons, List.map_nil, List.cons_append, List.nil_append, List.replicate_succ, List.replicate_zero, Nat.sub_self, datsV_n, datsV_d, wipe_n, wipe_c, setG_n, setG_t, setGs_n, setGs_c, ix_l, ix_t, atI_0, atI_1, atI_2, atI_3, add_i, sub_i, iadd_i, lt_i, le_i, gt_i, ge_i, eq_i, eq_s, len_l, len_t, int_i, abs_i, max_i, tuple_l, tuple_t, sizeLine_val, w_enum, w_isi, w_fmt, w_jnil, w_jcons, w_join, vK_1, strK_s, ne_i, ne_s, s_raise, s_try, wpR_exc, errIx0, errIx1, errIx2, errIx3, errWord0, errWord1, errWord2, errWord3, w_zip, zipK_2, row_l, row_t, w_back, backK_t, neg_i, w_ssetT, tupK_t, w_callI, callK_0, w_mulLD, mulK_l, w_disp, w_din, w_dget, one1_v, w_dlen, w_glue, w_upperD, w_dvals, s_dput, keyV_i, keyV_s, datV_d, strV_s, refOf_r, dctV_r, dct_z, dct_s, xor_tr, xor_fl, seqOf_l, seqOf_t, List.length_nil, List.length_cons, Nat.reduceAdd, Nat.reduceLeDiff, true_and, and_true, if_true, if_false, Bool.not_true, Bool.not_false, Bool.false_eq_true]
  rw [he k rfl]
  simp only [s_nil, s_brk, s_cont, s_seq, s_expr, s_ret, s_retN, s_set, s_setL, s_newL, s_unp, s_par, s_aug, s_six, s_if, s_for, w_var, w_mv2, mvK_d, mvK_r, w_c, w_bin, w_un, w_tst, w_and, w_or, w_not, w_andV, w_orV, w_notV, w_if, w_nil, w_cons, w_tup, w_lst, w_as, w_bc, w_lc, w_call, w_no, w_some, w_slice, w_app, w_ext, w_pop, w_seqD, w_rng1, w_comp, wpR_ok, optK_some, boolK_b, intK_i, oneK_d, oneL_d, twoK_2, sixK_r, rngK_i, rtK_d, peek_d, peek_r, peeks_n, peeks_c, own_r, lst_z, lst_s, Option.map_some, Option.bind_some, Option.join_some, List.getElem?_cons_zero, List.getElem?_cons_succ, List.set_cons_zero, List.set_cons_succ, List.map_cons, List.map_nil, List.cons_append, List.nil_append, List.replicate_succ, List.replicate_zero, Nat.sub_self, datsV_n, datsV_d, wipe_n, wipe_c, setG_n, setG_t, setGs_n, setGs_c, ix_l, ix_t, atI_0, atI_1, atI_2, atI_3, add_i, sub_i, iadd_i, lt_i, le_i, gt_i, ge_i, eq_i, eq_s, len_l, len_t, int_i, abs_i, max_i, tuple_l, tuple_t, sizeLine_val, w_enum, w_isi, w_fmt, w_jnil, w_jcons, w_join, vK_1, strK_s, ne_i, ne_s, s_raise, s_try, wpR_exc, errIx0, errIx1, errIx2, errIx3, errWord0, errWord1, errWord2, errWord3, w_zip, zipK_2, row_l, row_t, w_back, backK_t, neg_i, w_ssetT, tupK_t, w_callI, callK_0, w_mulLD, mulK_l, w_disp, w_din, w_dget, one1_v, w_dlen, w_glue, w_upperD, w_dvals, s_dput, keyV_i, keyV_s, datV_d, strV_s, refOf_r, dctV_r, dct_z, dct_s, xor_tr, xor_fl, seqOf_l, seqOf_t, List.length_nil, List.length_cons, Nat.reduceAdd, Nat.reduceLeDiff, true_and, and_true, if_true, if_false, Bool.not_true, Bool.not_false, Bool.false_eq_true]
  exact (by first | exact ⟨rfl, List.take_length⟩ | exact ⟨trivial, List.take_length⟩ | exact List.take_length | exact ⟨by omega, rfl, List.take_length⟩ | exact ⟨by omega, trivial, List.take_length⟩ | exact ⟨by omega, List.take_length⟩ | exact ⟨rfl, rfl, List.take_length⟩ | exact ⟨trivial, trivial, List.take_length⟩)
theorem depth_ex {k : Nat} {c : Con} {h : Hl} {e : Exc} (hk : 1 ≤ k) (he : ∀ j, k = j + 1 → callD prog j i_check_concept [.dat c.data] h = .exc e h) : callD prog k i_depth [.dat c.data] h = .exc e h := by
  obtain ⟨k, rfl⟩ : ∃ j, k = j + 1 := ⟨k - 1, by omega⟩
  refine wpR_eqx ?_
  rw [call_at (r := r_depth) rfl]
  rw [show r_depth.body = D_depth from rfl]
  generalize eB_depth : D_depth (callD prog k) = B_depth
  refine fn_rule rfl ?_
  subst eB_depth
  show wpS (D_depth (callD prog k) [some (.dat c.data)] (h)) _ _
  simp only [D_depth, s_nil, s_brk, s_cont, s_seq, s_expr, s_ret, s_retN, s_set, s_setL, s_newL, s_unp, s_par, s_aug, s_six, s_if, s_for, w_var, w_mv2, mvK_d, mvK_r, w_c, w_bin, w_un, w_tst, w_and, w_or, w_not, w_andV, w_orV, w_notV, w_if, w_nil, w_cons, w_tup, w_lst, w_as, w_bc, w_lc, w_call, w_no, w_some, w_slice, w_app, w_ext, w_pop, w_seqD, w_rng1, w_comp, wpR_ok, optK_some, boolK_b, intK_i, oneK_d, oneL_d, twoK_2, sixK_r, rngK_i, rtK_d, peek_d, peek_r, peeks_n, peeks_c, own_r, lst_z, lst_s, Option.map_some, Option.bind_some, Option.join_some, List.getElem?_cons_zero, List.getElem?_cons_succ, List.set_cons_zero, List.set_cons_succ, List.map_cons, List.map_nil, List.cons_append, List.nil_append, List.replicate_succ, List.replicate_zero, Nat.sub_self, datsV_n, datsV_d, wipe_n, wipe_c, setG_n, setG_t, setGs_n, setGs_c, ix_l, ix_t, atI_0, atI_1, atI_2, atI_3, add_i, sub_i, iadd_i, lt_i, le_i, gt_i, ge_i, eq_i, eq_s, len_l, len_t, int_i, abs_i, max_i, tuple_l, tuple_t, sizeLine_val, w_enum, w_isi, w_fmt, w_jnil, w_jcons, w_join, vK_1, strK_s, ne_i, ne_s, s_raise, s_try, wpR_exc, errIx0, errIx1, errIx2, errIx3, errWord0, errWord1, errWord2, errWord3, w_zip, zipK_2, row_l, row_t, w_back, backK_t, neg_i, w_ssetT, tupK_t, w_callI, callK_0, w_mulLD, mulK_l, w_disp, w_din, w_dget, one1_v, w_dlen, w_glue, w_upperD, w_dvals, s_dput, keyV_i, keyV_s, datV_d, strV_s, refOf_r, dctV_r, dct_z, dct_s, xor_tr, xor_fl, seqOf_l, seqOf_t, List.length_nil, List.length_cons, Nat.reduceAdd, Nat.reduceLeDiff, true_and, and_true, if_true, if_false, Bool.not_true, Bool.not_false, Bool.false_eq_true]
  rw [he k rfl]
  simp only [s_nil, s_brk, s_cont, s_seq, s_expr, s_ret, s_retN, s_set, s_setL, s_newL, s_unp, s_par, s_aug, s_six, s_if, s_for, w_var, w_mv2, mvK_d, mvK_r, w_c, w_bin, w_un, w_tst, w_and, w_or, w_not, w_andV, w_orV, w_notV, w_if, w_nil, w_cons, w_tup, w_lst, w_as, w_bc, w_lc, w_call, w_no, w_some, w_slice, w_app, w_ext, w_pop, w_seqD, w_rng1, w_comp, wpR_ok, optK_some, boolK_b, intK_i, oneK_d, oneL_d, twoK_2, sixK_r, rngK_i, rtK_d, peek_d, peek_r, peeks_n, peeks_c, own_r, lst_z, lst_s, Option.map_some, Option.bind_some, Option.join_some, List.getElem?_cons_zero, List.getElem?_cons_succ, List.set_cons_zero, List.set_cons_succ, List.map_cons, List.map_nil, List.cons_append, List.nil_append, List.replicate_succ, List.replicate_zero, Nat.sub_self, datsV_n, datsV_d, wipe_n, wipe_c, setG_n, setG_t, setGs_n, setGs_c, ix_l, ix_t, atI_0, atI_1, atI_2, atI_3, add_i, sub_i, iadd_i, lt_i, le_i, gt_i, ge_i, eq_i, eq_s, len_l, len_t, int_i, abs_i, max_i, tuple_l, tuple_t, sizeLine_val, w_enum, w_isi, w_fmt, w_jnil, w_jcons, w_join, vK_1, strK_s, ne_i, ne_s, s_raise, s_try, wpR_exc, errIx0, errIx1, errIx2, errIx3, errWord0, errWord1, errWord2, errWord3, w_zip, zipK_2, row_l, row_t, w_back, backK_t, neg_i, w_ssetT, tupK_t, w_callI, callK_0, w_mulLD, mulK_l, w_disp, w_din, w_dget, one1_v, w_dlen, w_glue, w_upperD, w_dvals, s_dput, keyV_i, keyV_s, datV_d, strV_s, refOf_r, dctV_r, dct_z, dct_s, xor_tr, xor_fl, seqOf_l, seqOf_t, List.length_nil, List.length_cons, Nat.reduceAdd, Nat.reduceLeDiff, true_and, and_true, if_true, if_false, Bool.not_true, Bool.not_false, Bool.false_eq_true]
  exact (by first | exact ⟨rfl, List.take_length⟩ | exact ⟨trivial, List.take_length⟩ | exact List.take_length | exact ⟨by omega, rfl, List.take_length⟩ | exact ⟨by omega, trivial, List.take_length⟩ | exact ⟨by omega, List.take_length⟩ | exact ⟨rfl, rfl, List.take_length⟩ | exact ⟨trivial, trivial, List.take_length⟩)
theorem callK_1 {a b : LFn} {r : List LFn} {k : LFn → Prop} : callK (a :: b :: r) (.dat (.int 1)) k = k b := callK_n (j := 1) (by simp)
theorem callK_2 {a b c : LFn} {r : List LFn} {k : LFn → Prop} : callK (a :: b :: c :: r) (.dat (.int 2)) k = k c := callK_n (j := 2) (by simp)
theorem told_spec0 {k : Nat} {c : Con} {h : Hl} (hk : c.deep + 8 < k) (a : Ask c) : callD prog k i__law_told [.dat (.int 0), .dat c.data] h = .ok (.dat (endC c (resC c 0))) h := by
  obtain ⟨k, rfl⟩ : ∃ j, k = j + 1 := ⟨k - 1, by omega⟩
  have a1 := a.size
  have a2 := a.deep
  refine wpR_eq ?_
  rw [call_at (r := r__law_told) rfl]
  rw [show r__law_told.body = D__law_told from rfl]
  generalize eB__law_told : D__law_told (callD prog k) = B__law_told
  refine fn_rule rfl ?_
  subst eB__law_told
  show wpS (D__law_told (callD prog k) [some (.dat (.int 0)), some (.dat c.data), none] (h)) _ _
  simp only [D__law_told, s_nil, s_brk, s_cont, s_seq, s_expr, s_ret, s_retN, s_set, s_setL, s_newL, s_unp, s_par, s_aug, s_six, s_if, s_for, w_var, w_mv2, mvK_d, mvK_r, w_c, w_bin, w_un, w_tst, w_and, w_or, w_not, w_andV, w_orV, w_notV, w_if, w_nil, w_cons, w_tup, w_lst, w_as, w_bc, w_lc, w_call, w_no, w_some, w_slice, w_app, w_ext, w_pop, w_seqD, w_rng1, w_comp, wpR_ok, optK_some, boolK_b, intK_i, oneK_d, oneL_d, twoK_2, sixK_r, rngK_i, rtK_d, peek_d, peek_r, peeks_n, peeks_c, own_r, lst_z, lst_s, Option.map_some, Option.bind_some, Option.join_some, List.getElem?_cons_zero, List.getElem?_cons_succ, List.set_cons_zero, List.set_cons_succ, List.map_cons, List.map_nil, List.cons_append, List.nil_append, List.replicate_succ, List.replicate_zero, Nat.sub_self, datsV_n, datsV_d, wipe_n, wipe_c, setG_n, setG_t, setGs_n, setGs_c, ix_l, ix_t, atI_0, atI_1, atI_2, atI_3, add_i, sub_i, iadd_i, lt_i, le_i, gt_i, ge_i, eq_i, eq_s, len_l, len_t, int_i, abs_i, max_i, tuple_l, tuple_t, sizeLine_val, w_enum, w_isi, w_fmt, w_jnil, w_jcons, w_join, vK_1, strK_s, ne_i, ne_s, s_raise, s_try, wpR_exc, errIx0, errIx1, errIx2, errIx3, errWord0, errWord1, errWord2, errWord3, w_zip, zipK_2, row_l, row_t, w_back, backK_t, neg_i, w_ssetT, tupK_t, w_callI, callK_0, w_mulLD, mulK_l, w_disp, w_din, w_dget, one1_v, w_dlen, w_glue, w_upperD, w_dvals, s_dput, keyV_i, keyV_s, datV_d, strV_s, refOf_r, dctV_r, dct_z, dct_s, xor_tr, xor_fl, seqOf_l, seqOf_t, List.length_nil, List.length_cons, Nat.reduceAdd, Nat.reduceLeDiff, true_and, and_true, if_true, if_false, Bool.not_true, Bool.not_false, Bool.false_eq_true]
  unfold endC
  cases b : bigC c with
  | true =>
    rw [check_large (by omega) a1 (Ask.big b)]
    simp only [s_nil, s_brk, s_cont, s_seq, s_expr, s_ret, s_retN, s_set, s_setL, s_newL, s_unp, s_par, s_aug, s_six, s_if, s_for, w_var, w_mv2, mvK_d, mvK_r, w_c, w_bin, w_un, w_tst, w_and, w_or, w_not, w_andV, w_orV, w_notV, w_if, w_nil, w_cons, w_tup, w_lst, w_as, w_bc, w_lc, w_call, w_no, w_some, w_slice, w_app, w_ext, w_pop, w_seqD, w_rng1, w_comp, wpR_ok, optK_some, boolK_b, intK_i, oneK_d, oneL_d, twoK_2, sixK_r, rngK_i, rtK_d, peek_d, peek_r, peeks_n, peeks_c, own_r, lst_z, lst_s, Option.map_some, Option.bind_some, Option.join_some, List.getElem?_cons_zero, List.getElem?_cons_succ, List.set_cons_zero, List.set_cons_succ, List.map_cons, List.map_nil, List.cons_append, List.nil_append, List.replicate_succ, List.replicate_zero, Nat.sub_self, datsV_n, datsV_d, wipe_n, wipe_c, setG_n, setG_t, setGs_n, setGs_c, ix_l, ix_t, atI_0, atI_1, atI_2, atI_3, add_i, sub_i, iadd_i, lt_i, le_i, gt_i, ge_i, eq_i, eq_s, len_l, len_t, int_i, abs_i, max_i, tuple_l, tuple_t, sizeLine_val, w_enum, w_isi, w_fmt, w_jnil, w_jcons, w_join, vK_1, strK_s, ne_i, ne_s, s_raise, s_try, wpR_exc, errIx0, errIx1, errIx2, errIx3, errWord0, errWord1, errWord2, errWord3, w_zip, zipK_2, row_l, row_t, w_back, backK_t, neg_i, w_ssetT, tupK_t, w_callI, callK_0, w_mulLD, mulK_l, w_disp, w_din, w_dget, one1_v, w_dlen, w_glue, w_upperD, w_dvals, s_dput, keyV_i, keyV_s, datV_d, strV_s, refOf_r, dctV_r, dct_z, dct_s, xor_tr, xor_fl, seqOf_l, seqOf_t, List.length_nil, List.length_cons, Nat.reduceAdd, Nat.reduceLeDiff, true_and, and_true, if_true, if_false, Bool.not_true, Bool.not_false, Bool.false_eq_true]
    exact (by first | exact ⟨rfl, List.take_length⟩ | exact ⟨trivial, List.take_length⟩ | exact List.take_length | exact ⟨by omega, rfl, List.take_length⟩ | exact ⟨by omega, trivial, List.take_length⟩ | exact ⟨by omega, List.take_length⟩ | exact ⟨rfl, rfl, List.take_length⟩ | exact ⟨trivial, trivial, List.take_length⟩)
  | false =>
    obtain ⟨z1, z2⟩ := a.ok b
    cases w : wfB c with
    | true =>
      rw [check_spec (by omega) z1 z2 a.fine w]
      simp only [s_nil, s_brk, s_cont, s_seq, s_expr, s_ret, s_retN, s_set, s_setL, s_newL, s_unp, s_par, s_aug, s_six, s_if, s_for, w_var, w_mv2, mvK_d, mvK_r, w_c, w_bin, w_un, w_tst, w_and, w_or, w_not, w_andV, w_orV, w_notV, w_if, w_nil, w_cons, w_tup, w_lst, w_as, w_bc, w_lc, w_call, w_no, w_some, w_slice, w_app, w_ext, w_pop, w_seqD, w_rng1, w_comp, wpR_ok, optK_some, boolK_b, intK_i, oneK_d, oneL_d, twoK_2, sixK_r, rngK_i, rtK_d, peek_d, peek_r, peeks_n, peeks_c, own_r, lst_z, lst_s, Option.map_some, Option.bind_some, Option.join_some, List.getElem?_cons_zero, List.getElem?_cons_succ, List.set_cons_zero, List.set_cons_succ, List.map_cons, List.map_nil, List.cons_append, List.nil_append, List.replicate_succ, List.replicate_zero, Nat.sub_self, datsV_n, datsV_d, wipe_n, wipe_c, setG_n, setG_t, setGs_n, setGs_c, ix_l, ix_t, atI_0, atI_1, atI_2, atI_3, add_i, sub_i, iadd_i, lt_i, le_i, gt_i, ge_i, eq_i, eq_s, len_l, len_t, int_i, abs_i, max_i, tuple_l, tuple_t, sizeLine_val, w_enum, w_isi, w_fmt, w_jnil, w_jcons, w_join, vK_1, strK_s, ne_i, ne_s, s_raise, s_try, wpR_exc, errIx0, errIx1, errIx2, errIx3, errWord0, errWord1, errWord2, errWord3, w_zip, zipK_2, row_l, row_t, w_back, backK_t, neg_i, w_ssetT, tupK_t, w_callI, callK_0, w_mulLD, mulK_l, w_disp, w_din, w_dget, one1_v, w_dlen, w_glue, w_upperD, w_dvals, s_dput, keyV_i, keyV_s, datV_d, strV_s, refOf_r, dctV_r, dct_z, dct_s, xor_tr, xor_fl, seqOf_l, seqOf_t, List.length_nil, List.length_cons, Nat.reduceAdd, Nat.reduceLeDiff, true_and, and_true, if_true, if_false, Bool.not_true, Bool.not_false, Bool.false_eq_true, Bool.false_eq_true, if_false, if_true]
      exact (by first | exact ⟨rfl, List.take_length⟩ | exact ⟨trivial, List.take_length⟩ | exact List.take_length | exact ⟨by omega, rfl, List.take_length⟩ | exact ⟨by omega, trivial, List.take_length⟩ | exact ⟨by omega, List.take_length⟩ | exact ⟨rfl, rfl, List.take_length⟩ | exact ⟨trivial, trivial, List.take_length⟩)
    | false =>
      rw [check_bad (by omega) z1 z2 a.fine w]
      simp only [s_nil, s_brk, s_cont, s_seq, s_expr, s_ret, s_retN, s_set, s_setL, s_newL, s_unp, s_par, s_aug, s_six, s_if, s_for, w_var, w_mv2, mvK_d, mvK_r, w_c, w_bin, w_un, w_tst, w_and, w_or, w_not, w_andV, w_orV, w_notV, w_if, w_nil, w_cons, w_tup, w_lst, w_as, w_bc, w_lc, w_call, w_no, w_some, w_slice, w_app, w_ext, w_pop, w_seqD, w_rng1, w_comp, wpR_ok, optK_some, boolK_b, intK_i, oneK_d, oneL_d, twoK_2, sixK_r, rngK_i, rtK_d, peek_d, peek_r, peeks_n, peeks_c, own_r, lst_z, lst_s, Option.map_some, Option.bind_some, Option.join_some, List.getElem?_cons_zero, List.getElem?_cons_succ, List.set_cons_zero, List.set_cons_succ, List.map_cons, List.map_nil, List.cons_append, List.nil_append, List.replicate_succ, List.replicate_zero, Nat.sub_self, datsV_n, datsV_d, wipe_n, wipe_c, setG_n, setG_t, setGs_n, setGs_c, ix_l, ix_t, atI_0, atI_1, atI_2, atI_3, add_i, sub_i, iadd_i, lt_i, le_i, gt_i, ge_i, eq_i, eq_s, len_l, len_t, int_i, abs_i, max_i, tuple_l, tuple_t, sizeLine_val, w_enum, w_isi, w_fmt, w_jnil, w_jcons, w_join, vK_1, strK_s, ne_i, ne_s, s_raise, s_try, wpR_exc, errIx0, errIx1, errIx2, errIx3, errWord0, errWord1, errWord2, errWord3, w_zip, zipK_2, row_l, row_t, w_back, backK_t, neg_i, w_ssetT, tupK_t, w_callI, callK_0, w_mulLD, mulK_l, w_disp, w_din, w_dget, one1_v, w_dlen, w_glue, w_upperD, w_dvals, s_dput, keyV_i, keyV_s, datV_d, strV_s, refOf_r, dctV_r, dct_z, dct_s, xor_tr, xor_fl, seqOf_l, seqOf_t, List.length_nil, List.length_cons, Nat.reduceAdd, Nat.reduceLeDiff, true_and, and_true, if_true, if_false, Bool.not_true, Bool.not_false, Bool.false_eq_true, Bool.false_eq_true, if_false]
      exact (by first | exact ⟨rfl, List.take_length⟩ | exact ⟨trivial, List.take_length⟩ | exact List.take_length | exact ⟨by omega, rfl, List.take_length⟩ | exact ⟨by omega, trivial, List.take_length⟩ | exact ⟨by omega, List.take_length⟩ | exact ⟨rfl, rfl, List.take_length⟩ | exact ⟨trivial, trivial, List.take_length⟩)
theorem told_spec1 {k : Nat} {c : Con} {h : Hl} (hk : c.deep + 8 < k) (a : Ask c) : callD prog k i__law_told [.dat (.int 1), .dat c.data] h = .ok (.dat (endC c (resC c 1))) h := by
  obtain ⟨k, rfl⟩ : ∃ j, k = j + 1 := ⟨k - 1, by omega⟩
  have a1 := a.size
  have a2 := a.deep
  refine wpR_eq ?_
  rw [call_at (r := r__law_told) rfl]
  rw [show r__law_told.body = D__law_told from rfl]
  generalize eB__law_told : D__law_told (callD prog k) = B__law_told
  refine fn_rule rfl ?_
  subst eB__law_told
  show wpS (D__law_told (callD prog k) [some (.dat (.int 1)), some (.dat c.data), none] (h)) _ _
  simp only [D__law_told, s_nil, s_brk, s_cont, s_seq, s_expr, s_ret, s_retN, s_set, s_setL, s_newL, s_unp, s_par, s_aug, s_six, s_if, s_for, w_var, w_mv2, mvK_d, mvK_r, w_c, w_bin, w_un, w_tst, w_and, w_or, w_not, w_andV, w_orV, w_notV, w_if, w_nil, w_cons, w_tup, w_lst, w_as, w_bc, w_lc, w_call, w_no, w_some, w_slice, w_app, w_ext, w_pop, w_seqD, w_rng1, w_comp, wpR_ok, optK_some, boolK_b, intK_i, oneK_d, oneL_d, twoK_2, sixK_r, rngK_i, rtK_d, peek_d, peek_r, peeks_n, peeks_c, own_r, lst_z, lst_s, Option.map_some, Option.bind_some, Option.join_some, List.getElem?_cons_zero, List.getElem?_cons_succ, List.set_cons_zero, List.set_cons_succ, List.map_cons, List.map_nil, List.cons_append, List.nil_append, List.replicate_succ, List.replicate_zero, Nat.sub_self, datsV_n, datsV_d, wipe_n, wipe_c, setG_n, setG_t, setGs_n, setGs_c, ix_l, ix_t, atI_0, atI_1, atI_2, atI_3, add_i, sub_i, iadd_i, lt_i, le_i, gt_i, ge_i, eq_i, eq_s, len_l, len_t, int_i, abs_i, max_i, tuple_l, tuple_t, sizeLine_val, w_enum, w_isi, w_fmt, w_jnil, w_jcons, w_join, vK_1, strK_s, ne_i, ne_s, s_raise, s_try, wpR_exc, errIx0, errIx1, errIx2, errIx3, errWord0, errWord1, errWord2, errWord3, w_zip, zipK_2, row_l, row_t, w_back, backK_t, neg_i, w_ssetT, tupK_t, w_callI, callK_0, w_mulLD, mulK_l, w_disp, w_din, w_dget, one1_v, w_dlen, w_glue, w_upperD, w_dvals, s_dput, keyV_i, keyV_s, datV_d, strV_s, refOf_r, dctV_r, dct_z, dct_s, xor_tr, xor_fl, seqOf_l, seqOf_t, List.length_nil, List.length_cons, Nat.reduceAdd, Nat.reduceLeDiff, true_and, and_true, if_true, if_false, Bool.not_true, Bool.not_false, Bool.false_eq_true, callK_1]
  unfold endC
  cases b : bigC c with
  | true =>
    rw [size_ex (e := ⟨"TooLarge"⟩) (by omega) fun j e => check_large (by omega) a1 (Ask.big b)]
    simp only [s_nil, s_brk, s_cont, s_seq, s_expr, s_ret, s_retN, s_set, s_setL, s_newL, s_unp, s_par, s_aug, s_six, s_if, s_for, w_var, w_mv2, mvK_d, mvK_r, w_c, w_bin, w_un, w_tst, w_and, w_or, w_not, w_andV, w_orV, w_notV, w_if, w_nil, w_cons, w_tup, w_lst, w_as, w_bc, w_lc, w_call, w_no, w_some, w_slice, w_app, w_ext, w_pop, w_seqD, w_rng1, w_comp, wpR_ok, optK_some, boolK_b, intK_i, oneK_d, oneL_d, twoK_2, sixK_r, rngK_i, rtK_d, peek_d, peek_r, peeks_n, peeks_c, own_r, lst_z, lst_s, Option.map_some, Option.bind_some, Option.join_some, List.getElem?_cons_zero, List.getElem?_cons_succ, List.set_cons_zero, List.set_cons_succ, List.map_cons, List.map_nil, List.cons_append, List.nil_append, List.replicate_succ, List.replicate_zero, Nat.sub_self, datsV_n, datsV_d, wipe_n, wipe_c, setG_n, setG_t, setGs_n, setGs_c, ix_l, ix_t, atI_0, atI_1, atI_2, atI_3, add_i, sub_i, iadd_i, lt_i, le_i, gt_i, ge_i, eq_i, eq_s, len_l, len_t, int_i, abs_i, max_i, tuple_l, tuple_t, sizeLine_val, w_enum, w_isi, w_fmt, w_jnil, w_jcons, w_join, vK_1, strK_s, ne_i, ne_s, s_raise, s_try, wpR_exc, errIx0, errIx1, errIx2, errIx3, errWord0, errWord1, errWord2, errWord3, w_zip, zipK_2, row_l, row_t, w_back, backK_t, neg_i, w_ssetT, tupK_t, w_callI, callK_0, w_mulLD, mulK_l, w_disp, w_din, w_dget, one1_v, w_dlen, w_glue, w_upperD, w_dvals, s_dput, keyV_i, keyV_s, datV_d, strV_s, refOf_r, dctV_r, dct_z, dct_s, xor_tr, xor_fl, seqOf_l, seqOf_t, List.length_nil, List.length_cons, Nat.reduceAdd, Nat.reduceLeDiff, true_and, and_true, if_true, if_false, Bool.not_true, Bool.not_false, Bool.false_eq_true]
    exact (by first | exact ⟨rfl, List.take_length⟩ | exact ⟨trivial, List.take_length⟩ | exact List.take_length | exact ⟨by omega, rfl, List.take_length⟩ | exact ⟨by omega, trivial, List.take_length⟩ | exact ⟨by omega, List.take_length⟩ | exact ⟨rfl, rfl, List.take_length⟩ | exact ⟨trivial, trivial, List.take_length⟩)
  | false =>
    obtain ⟨z1, z2⟩ := a.ok b
    cases w : wfB c with
    | true =>
      rw [size_ok (by omega) z1 z2 a.fine w]
      simp only [s_nil, s_brk, s_cont, s_seq, s_expr, s_ret, s_retN, s_set, s_setL, s_newL, s_unp, s_par, s_aug, s_six, s_if, s_for, w_var, w_mv2, mvK_d, mvK_r, w_c, w_bin, w_un, w_tst, w_and, w_or, w_not, w_andV, w_orV, w_notV, w_if, w_nil, w_cons, w_tup, w_lst, w_as, w_bc, w_lc, w_call, w_no, w_some, w_slice, w_app, w_ext, w_pop, w_seqD, w_rng1, w_comp, wpR_ok, optK_some, boolK_b, intK_i, oneK_d, oneL_d, twoK_2, sixK_r, rngK_i, rtK_d, peek_d, peek_r, peeks_n, peeks_c, own_r, lst_z, lst_s, Option.map_some, Option.bind_some, Option.join_some, List.getElem?_cons_zero, List.getElem?_cons_succ, List.set_cons_zero, List.set_cons_succ, List.map_cons, List.map_nil, List.cons_append, List.nil_append, List.replicate_succ, List.replicate_zero, Nat.sub_self, datsV_n, datsV_d, wipe_n, wipe_c, setG_n, setG_t, setGs_n, setGs_c, ix_l, ix_t, atI_0, atI_1, atI_2, atI_3, add_i, sub_i, iadd_i, lt_i, le_i, gt_i, ge_i, eq_i, eq_s, len_l, len_t, int_i, abs_i, max_i, tuple_l, tuple_t, sizeLine_val, w_enum, w_isi, w_fmt, w_jnil, w_jcons, w_join, vK_1, strK_s, ne_i, ne_s, s_raise, s_try, wpR_exc, errIx0, errIx1, errIx2, errIx3, errWord0, errWord1, errWord2, errWord3, w_zip, zipK_2, row_l, row_t, w_back, backK_t, neg_i, w_ssetT, tupK_t, w_callI, callK_0, w_mulLD, mulK_l, w_disp, w_din, w_dget, one1_v, w_dlen, w_glue, w_upperD, w_dvals, s_dput, keyV_i, keyV_s, datV_d, strV_s, refOf_r, dctV_r, dct_z, dct_s, xor_tr, xor_fl, seqOf_l, seqOf_t, List.length_nil, List.length_cons, Nat.reduceAdd, Nat.reduceLeDiff, true_and, and_true, if_true, if_false, Bool.not_true, Bool.not_false, Bool.false_eq_true, Bool.false_eq_true, if_false, if_true]
      exact (by first | exact ⟨rfl, List.take_length⟩ | exact ⟨trivial, List.take_length⟩ | exact List.take_length | exact ⟨by omega, rfl, List.take_length⟩ | exact ⟨by omega, trivial, List.take_length⟩ | exact ⟨by omega, List.take_length⟩ | exact ⟨rfl, rfl, List.take_length⟩ | exact ⟨trivial, trivial, List.take_length⟩)
    | false =>
      rw [size_ex (e := ⟨"NotAllowed"⟩) (by omega) fun j e => check_bad (by omega) z1 z2 a.fine w]
      simp only [s_nil, s_brk, s_cont, s_seq, s_expr, s_ret, s_retN, s_set, s_setL, s_newL, s_unp, s_par, s_aug, s_six, s_if, s_for, w_var, w_mv2, mvK_d, mvK_r, w_c, w_bin, w_un, w_tst, w_and, w_or, w_not, w_andV, w_orV, w_notV, w_if, w_nil, w_cons, w_tup, w_lst, w_as, w_bc, w_lc, w_call, w_no, w_some, w_slice, w_app, w_ext, w_pop, w_seqD, w_rng1, w_comp, wpR_ok, optK_some, boolK_b, intK_i, oneK_d, oneL_d, twoK_2, sixK_r, rngK_i, rtK_d, peek_d, peek_r, peeks_n, peeks_c, own_r, lst_z, lst_s, Option.map_some, Option.bind_some, Option.join_some, List.getElem?_cons_zero, List.getElem?_cons_succ, List.set_cons_zero, List.set_cons_succ, List.map_cons, List.map_nil, List.cons_append, List.nil_append, List.replicate_succ, List.replicate_zero, Nat.sub_self, datsV_n, datsV_d, wipe_n, wipe_c, setG_n, setG_t, setGs_n, setGs_c, ix_l, ix_t, atI_0, atI_1, atI_2, atI_3, add_i, sub_i, iadd_i, lt_i, le_i, gt_i, ge_i, eq_i, eq_s, len_l, len_t, int_i, abs_i, max_i, tuple_l, tuple_t, sizeLine_val, w_enum, w_isi, w_fmt, w_jnil, w_jcons, w_join, vK_1, strK_s, ne_i, ne_s, s_raise, s_try, wpR_exc, errIx0, errIx1, errIx2, errIx3, errWord0, errWord1, errWord2, errWord3, w_zip, zipK_2, row_l, row_t, w_back, backK_t, neg_i, w_ssetT, tupK_t, w_callI, callK_0, w_mulLD, mulK_l, w_disp, w_din, w_dget, one1_v, w_dlen, w_glue, w_upperD, w_dvals, s_dput, keyV_i, keyV_s, datV_d, strV_s, refOf_r, dctV_r, dct_z, dct_s, xor_tr, xor_fl, seqOf_l, seqOf_t, List.length_nil, List.length_cons, Nat.reduceAdd, Nat.reduceLeDiff, true_and, and_true, if_true, if_false, Bool.not_true, Bool.not_false, Bool.false_eq_true, Bool.false_eq_true, if_false]
      exact (by first | exact ⟨rfl, List.take_length⟩ | exact ⟨trivial, List.take_length⟩ | exact List.take_length | exact ⟨by omega, rfl, List.take_length⟩ | exact ⟨by omega, trivial, List.take_length⟩ | exact ⟨by omega, List.take_length⟩ | exact ⟨rfl, rfl, List.take_length⟩ | exact ⟨trivial, trivial, List.take_length⟩)
theorem told_spec2 {k : Nat} {c : Con} {h : Hl} (hk : c.deep + 8 < k) (a : Ask c) : callD prog k i__law_told [.dat (.int 2), .dat c.data] h = .ok (.dat (endC c (resC c 2))) h := by
  obtain ⟨k, rfl⟩ : ∃ j, k = j + 1 := ⟨k - 1, by omega⟩
  have a1 := a.size
  have a2 := a.deep
  refine wpR_eq ?_
  rw [call_at (r := r__law_told) rfl]
  rw [show r__law_told.body = D__law_told from rfl]
  generalize eB__law_told : D__law_told (callD prog k) = B__law_told
  refine fn_rule rfl ?_
  subst eB__law_told
  show wpS (D__law_told (callD prog k) [some (.dat (.int 2)), some (.dat c.data), none] (h)) _ _
  simp only [D__law_told, s_nil, s_brk, s_cont, s_seq, s_expr, s_ret, s_retN, s_set, s_setL, s_newL, s_unp, s_par, s_aug, s_six, s_if, s_for, w_var, w_mv2, mvK_d, mvK_r, w_c, w_bin, w_un, w_tst, w_and, w_or, w_not, w_andV, w_orV, w_notV, w_if, w_nil, w_cons, w_tup, w_lst, w_as, w_bc, w_lc, w_call, w_no, w_some, w_slice, w_app, w_ext, w_pop, w_seqD, w_rng1, w_comp, wpR_ok, optK_some, boolK_b, intK_i, oneK_d, oneL_d, twoK_2, sixK_r, rngK_i, rtK_d, peek_d, peek_r, peeks_n, peeks_c, own_r, lst_z, lst_s, Option.map_some, Option.bind_some, Option.join_some, List.getElem?_cons_zero, List.getElem?_cons_succ, List.set_cons_zero, List.set_cons_succ, List.map_cons, List.map_nil, List.cons_append, List.nil_append, List.replicate_succ, List.replicate_zero, Nat.sub_self, datsV_n, datsV_d, wipe_n, wipe_c, setG_n, setG_t, setGs_n, setGs_c, ix_l, ix_t, atI_0, atI_1, atI_2, atI_3, add_i, sub_i, iadd_i, lt_i, le_i, gt_i, ge_i, eq_i, eq_s, len_l, len_t, int_i, abs_i, max_i, tuple_l, tuple_t, sizeLine_val, w_enum, w_isi, w_fmt, w_jnil, w_jcons, w_join, vK_1, strK_s, ne_i, ne_s, s_raise, s_try, wpR_exc, errIx0, errIx1, errIx2, errIx3, errWord0, errWord1, errWord2, errWord3, w_zip, zipK_2, row_l, row_t, w_back, backK_t, neg_i, w_ssetT, tupK_t, w_callI, callK_0, w_mulLD, mulK_l, w_disp, w_din, w_dget, one1_v, w_dlen, w_glue, w_upperD, w_dvals, s_dput, keyV_i, keyV_s, datV_d, strV_s, refOf_r, dctV_r, dct_z, dct_s, xor_tr, xor_fl, seqOf_l, seqOf_t, List.length_nil, List.length_cons, Nat.reduceAdd, Nat.reduceLeDiff, true_and, and_true, if_true, if_false, Bool.not_true, Bool.not_false, Bool.false_eq_true, callK_2]
  unfold endC
  cases b : bigC c with
  | true =>
    rw [depth_ex (e := ⟨"TooLarge"⟩) (by omega) fun j e => check_large (by omega) a1 (Ask.big b)]
    simp only [s_nil, s_brk, s_cont, s_seq, s_expr, s_ret, s_retN, s_set, s_setL, s_newL, s_unp, s_par, s_aug, s_six, s_if, s_for, w_var, w_mv2, mvK_d, mvK_r, w_c, w_bin, w_un, w_tst, w_and, w_or, w_not, w_andV, w_orV, w_notV, w_if, w_nil, w_cons, w_tup, w_lst, w_as, w_bc, w_lc, w_call, w_no, w_some, w_slice, w_app, w_ext, w_pop, w_seqD, w_rng1, w_comp, wpR_ok, optK_some, boolK_b, intK_i, oneK_d, oneL_d, twoK_2, sixK_r, rngK_i, rtK_d, peek_d, peek_r, peeks_n, peeks_c, own_r, lst_z, lst_s, Option.map_some, Option.bind_some, Option.join_some, List.getElem?_cons_zero, List.getElem?_cons_succ, List.set_cons_zero, List.set_cons_succ, List.map_cons, List.map_nil, List.cons_append, List.nil_append, List.replicate_succ, List.replicate_zero, Nat.sub_self, datsV_n, datsV_d, wipe_n, wipe_c, setG_n, setG_t, setGs_n, setGs_c, ix_l, ix_t, atI_0, atI_1, atI_2, atI_3, add_i, sub_i, iadd_i, lt_i, le_i, gt_i, ge_i, eq_i, eq_s, len_l, len_t, int_i, abs_i, max_i, tuple_l, tuple_t, sizeLine_val, w_enum, w_isi, w_fmt, w_jnil, w_jcons, w_join, vK_1, strK_s, ne_i, ne_s, s_raise, s_try, wpR_exc, errIx0, errIx1, errIx2, errIx3, errWord0, errWord1, errWord2, errWord3, w_zip, zipK_2, row_l, row_t, w_back, backK_t, neg_i, w_ssetT, tupK_t, w_callI, callK_0, w_mulLD, mulK_l, w_disp, w_din, w_dget, one1_v, w_dlen, w_glue, w_upperD, w_dvals, s_dput, keyV_i, keyV_s, datV_d, strV_s, refOf_r, dctV_r, dct_z, dct_s, xor_tr, xor_fl, seqOf_l, seqOf_t, List.length_nil, List.length_cons, Nat.reduceAdd, Nat.reduceLeDiff, true_and, and_true, if_true, if_false, Bool.not_true, Bool.not_false, Bool.false_eq_true]
    exact (by first | exact ⟨rfl, List.take_length⟩ | exact ⟨trivial, List.take_length⟩ | exact List.take_length | exact ⟨by omega, rfl, List.take_length⟩ | exact ⟨by omega, trivial, List.take_length⟩ | exact ⟨by omega, List.take_length⟩ | exact ⟨rfl, rfl, List.take_length⟩ | exact ⟨trivial, trivial, List.take_length⟩)
  | false =>
    obtain ⟨z1, z2⟩ := a.ok b
    cases w : wfB c with
    | true =>
      rw [depth_ok (by omega) z1 z2 a.fine w]
      simp only [s_nil, s_brk, s_cont, s_seq, s_expr, s_ret, s_retN, s_set, s_setL, s_newL, s_unp, s_par, s_aug, s_six, s_if, s_for, w_var, w_mv2, mvK_d, mvK_r, w_c, w_bin, w_un, w_tst, w_and, w_or, w_not, w_andV, w_orV, w_notV, w_if, w_nil, w_cons, w_tup, w_lst, w_as, w_bc, w_lc, w_call, w_no, w_some, w_slice, w_app, w_ext, w_pop, w_seqD, w_rng1, w_comp, wpR_ok, optK_some, boolK_b, intK_i, oneK_d, oneL_d, twoK_2, sixK_r, rngK_i, rtK_d, peek_d, peek_r, peeks_n, peeks_c, own_r, lst_z, lst_s, Option.map_some, Option.bind_some, Option.join_some, List.getElem?_cons_zero, List.getElem?_cons_succ, List.set_cons_zero, List.set_cons_succ, List.map_cons, List.map_nil, List.cons_append, List.nil_append, List.replicate_succ, List.replicate_zero, Nat.sub_self, datsV_n, datsV_d, wipe_n, wipe_c, setG_n, setG_t, setGs_n, setGs_c, ix_l, ix_t, atI_0, atI_1, atI_2, atI_3, add_i, sub_i, iadd_i, lt_i, le_i, gt_i, ge_i, eq_i, eq_s, len_l, len_t, int_i, abs_i, max_i, tuple_l, tuple_t, sizeLine_val, w_enum, w_isi, w_fmt, w_jnil, w_jcons, w_join, vK_1, strK_s, ne_i, ne_s, s_raise, s_try, wpR_exc, errIx0, errIx1, errIx2, errIx3, errWord0, errWord1, errWord2, errWord3, w_zip, zipK_2, row_l, row_t, w_back, backK_t, neg_i, w_ssetT, tupK_t, w_callI, callK_0, w_mulLD, mulK_l, w_disp, w_din, w_dget, one1_v, w_dlen, w_glue, w_upperD, w_dvals, s_dput, keyV_i, keyV_s, datV_d, strV_s, refOf_r, dctV_r, dct_z, dct_s, xor_tr, xor_fl, seqOf_l, seqOf_t, List.length_nil, List.length_cons, Nat.reduceAdd, Nat.reduceLeDiff, true_and, and_true, if_true, if_false, Bool.not_true, Bool.not_false, Bool.false_eq_true, Bool.false_eq_true, if_false, if_true]
      exact (by first | exact ⟨rfl, List.take_length⟩ | exact ⟨trivial, List.take_length⟩ | exact List.take_length | exact ⟨by omega, rfl, List.take_length⟩ | exact ⟨by omega, trivial, List.take_length⟩ | exact ⟨by omega, List.take_length⟩ | exact ⟨rfl, rfl, List.take_length⟩ | exact ⟨trivial, trivial, List.take_length⟩)
    | false =>
      rw [depth_ex (e := ⟨"NotAllowed"⟩) (by omega) fun j e => check_bad (by omega) z1 z2 a.fine w]
      simp only [s_nil, s_brk, s_cont, s_seq, s_expr, s_ret, s_retN, s_set, s_setL, s_newL, s_unp, s_par, s_aug, s_six, s_if, s_for, w_var, w_mv2, mvK_d, mvK_r, w_c, w_bin, w_un, w_tst, w_and, w_or, w_not, w_andV, w_orV, w_notV, w_if, w_nil, w_cons, w_tup, w_lst, w_as, w_bc, w_lc, w_call, w_no, w_some, w_slice, w_app, w_ext, w_pop, w_seqD, w_rng1, w_comp, wpR_ok, optK_some, boolK_b, intK_i, oneK_d, oneL_d, twoK_2, sixK_r, rngK_i, rtK_d, peek_d, peek_r, peeks_n, peeks_c, own_r, lst_z, lst_s, Option.map_some, Option.bind_some, Option.join_some, List.getElem?_cons_zero, List.getElem?_cons_succ, List.set_cons_zero, List.set_cons_succ, List.map_cons, List.map_nil, List.cons_append, List.nil_append, List.replicate_succ, List.replicate_zero, Nat.sub_self, datsV_n, datsV_d, wipe_n, wipe_c, setG_n, setG_t, setGs_n, setGs_c, ix_l, ix_t, atI_0, atI_1, atI_2, atI_3, add_i, sub_i, iadd_i, lt_i, le_i, gt_i, ge_i, eq_i, eq_s, len_l, len_t, int_i, abs_i, max_i, tuple_l, tuple_t, sizeLine_val, w_enum, w_isi, w_fmt, w_jnil, w_jcons, w_join, vK_1, strK_s, ne_i, ne_s, s_raise, s_try, wpR_exc, errIx0, errIx1, errIx2, errIx3, errWord0, errWord1, errWord2, errWord3, w_zip, zipK_2, row_l, row_t, w_back, backK_t, neg_i, w_ssetT, tupK_t, w_callI, callK_0, w_mulLD, mulK_l, w_disp, w_din, w_dget, one1_v, w_dlen, w_glue, w_upperD, w_dvals, s_dput, keyV_i, keyV_s, datV_d, strV_s, refOf_r, dctV_r, dct_z, dct_s, xor_tr, xor_fl, seqOf_l, seqOf_t, List.length_nil, List.length_cons, Nat.reduceAdd, Nat.reduceLeDiff, true_and, and_true, if_true, if_false, Bool.not_true, Bool.not_false, Bool.false_eq_true, Bool.false_eq_true, if_false]
      exact (by first | exact ⟨rfl, List.take_length⟩ | exact ⟨trivial, List.take_length⟩ | exact List.take_length | exact ⟨by omega, rfl, List.take_length⟩ | exact ⟨by omega, trivial, List.take_length⟩ | exact ⟨by omega, List.take_length⟩ | exact ⟨rfl, rfl, List.take_length⟩ | exact ⟨trivial, trivial, List.take_length⟩)

theorem told_any {k : Nat} {c : Con} {h : Hl} (hk : c.deep + 8 < k) (a : Ask c) : ∀ i : Nat, i < 3 → callD prog k i__law_told [.dat (.int ((0 : Int) + (i : Int))), .dat c.data] h = .ok (.dat (endC c (resC c i))) h
  | 0, _ => told_spec0 hk a
  | 1, _ => told_spec1 hk a
  | 2, _ => told_spec2 hk a
  | i + 3, hi => by omega
def ends3 (c : Con) : PyData := .list ((List.range 3).map fun i => endC c (resC c i))
theorem all_spec {k : Nat} {c : Con} {h : Hl} (hk : c.deep + 9 < k) (a : Ask c) : callD prog k i__law_all [.dat c.data] h = .ok (.dat (ends3 c)) h := by
  obtain ⟨k, rfl⟩ : ∃ j, k = j + 1 := ⟨k - 1, by omega⟩
  refine wpR_eq ?_
  rw [call_at (r := r__law_all) rfl]
  rw [show r__law_all.body = D__law_all from rfl]
  generalize eB__law_all : D__law_all (callD prog k) = B__law_all
  refine fn_rule rfl ?_
  subst eB__law_all
  show wpS (D__law_all (callD prog k) [some (.dat c.data), none] (h)) _ _
  simp only [D__law_all, s_nil, s_brk, s_cont, s_seq, s_expr, s_ret, s_retN, s_set, s_setL, s_newL, s_unp, s_par, s_aug, s_six, s_if, s_for, w_var, w_mv2, mvK_d, mvK_r, w_c, w_bin, w_un, w_tst, w_and, w_or, w_not, w_andV, w_orV, w_notV, w_if, w_nil, w_cons, w_tup, w_lst, w_as, w_bc, w_lc, w_call, w_no, w_some, w_slice, w_app, w_ext, w_pop, w_seqD, w_rng1, w_comp, wpR_ok, optK_some, boolK_b, intK_i, oneK_d, oneL_d, twoK_2, sixK_r, rngK_i, rtK_d, peek_d, peek_r, peeks_n, peeks_c, own_r, lst_z, lst_s, Option.map_some, Option.bind_some, Option.join_some, List.getElem?_cons_zero, List.getElem?_cons_succ, List.set_cons_zero, List.set_cons_succ, List.map_cons, List.map_nil, List.cons_append, List.nil_append, List.replicate_succ, List.replicate_zero, Nat.sub_self, datsV_n, datsV_d, wipe_n, wipe_c, setG_n, setG_t, setGs_n, setGs_c, ix_l, ix_t, atI_0, atI_1, atI_2, atI_3, add_i, sub_i, iadd_i, lt_i, le_i, gt_i, ge_i, eq_i, eq_s, len_l, len_t, int_i, abs_i, max_i, tuple_l, tuple_t, sizeLine_val, w_enum, w_isi, w_fmt, w_jnil, w_jcons, w_join, vK_1, strK_s, ne_i, ne_s, s_raise, s_try, wpR_exc, errIx0, errIx1, errIx2, errIx3, errWord0, errWord1, errWord2, errWord3, w_zip, zipK_2, row_l, row_t, w_back, backK_t, neg_i, w_ssetT, tupK_t, w_callI, callK_0, w_mulLD, mulK_l, w_disp, w_din, w_dget, one1_v, w_dlen, w_glue, w_upperD, w_dvals, s_dput, keyV_i, keyV_s, datV_d, strV_s, refOf_r, dctV_r, dct_z, dct_s, xor_tr, xor_fl, seqOf_l, seqOf_t, List.length_nil, List.length_cons, Nat.reduceAdd, Nat.reduceLeDiff, true_and, and_true, if_true, if_false, Bool.not_true, Bool.not_false, Bool.false_eq_true]
  refine ⟨by decide, ?_⟩
  rw [show rngItems 0 (Int.toNat 3) = (List.range 3).map (fun i : Nat => PyData.int ((0 : Int) + (i : Int))) from rfl, comp_mapE (fun i : Nat => PyData.int ((0 : Int) + (i : Int))) (fun i => endC c (resC c i)) (List.range 3) [] (by rfl) (by rw [sizeLine_val, List.length_range, List.length_nil]; omega) (fun i hi => ?_)]
  · simp only [s_nil, s_brk, s_cont, s_seq, s_expr, s_ret, s_retN, s_set, s_setL, s_newL, s_unp, s_par, s_aug, s_six, s_if, s_for, w_var, w_mv2, mvK_d, mvK_r, w_c, w_bin, w_un, w_tst, w_and, w_or, w_not, w_andV, w_orV, w_notV, w_if, w_nil, w_cons, w_tup, w_lst, w_as, w_bc, w_lc, w_call, w_no, w_some, w_slice, w_app, w_ext, w_pop, w_seqD, w_rng1, w_comp, wpR_ok, optK_some, boolK_b, intK_i, oneK_d, oneL_d, twoK_2, sixK_r, rngK_i, rtK_d, peek_d, peek_r, peeks_n, peeks_c, own_r, lst_z, lst_s, Option.map_some, Option.bind_some, Option.join_some, List.getElem?_cons_zero, List.getElem?_cons_succ, List.set_cons_zero, List.set_cons_succ, List.map_cons, List.map_nil, List.cons_append, List.nil_append, List.replicate_succ, List.replicate_zero, Nat.sub_self, datsV_n, datsV_d, wipe_n, wipe_c, setG_n, setG_t, setGs_n, setGs_c, ix_l, ix_t, atI_0, atI_1, atI_2, atI_3, add_i, sub_i, iadd_i, lt_i, le_i, gt_i, ge_i, eq_i, eq_s, len_l, len_t, int_i, abs_i, max_i, tuple_l, tuple_t, sizeLine_val, w_enum, w_isi, w_fmt, w_jnil, w_jcons, w_join, vK_1, strK_s, ne_i, ne_s, s_raise, s_try, wpR_exc, errIx0, errIx1, errIx2, errIx3, errWord0, errWord1, errWord2, errWord3, w_zip, zipK_2, row_l, row_t, w_back, backK_t, neg_i, w_ssetT, tupK_t, w_callI, callK_0, w_mulLD, mulK_l, w_disp, w_din, w_dget, one1_v, w_dlen, w_glue, w_upperD, w_dvals, s_dput, keyV_i, keyV_s, datV_d, strV_s, refOf_r, dctV_r, dct_z, dct_s, xor_tr, xor_fl, seqOf_l, seqOf_t, List.length_nil, List.length_cons, Nat.reduceAdd, Nat.reduceLeDiff, true_and, and_true, if_true, if_false, Bool.not_true, Bool.not_false, Bool.false_eq_true]
    exact (by first | exact ⟨rfl, List.take_length⟩ | exact ⟨trivial, List.take_length⟩ | exact List.take_length | exact ⟨by omega, rfl, List.take_length⟩ | exact ⟨by omega, trivial, List.take_length⟩ | exact ⟨by omega, List.take_length⟩ | exact ⟨rfl, rfl, List.take_length⟩ | exact ⟨trivial, trivial, List.take_length⟩)
  · simp only [s_nil, s_brk, s_cont, s_seq, s_expr, s_ret, s_retN, s_set, s_setL, s_newL, s_unp, s_par, s_aug, s_six, s_if, s_for, w_var, w_mv2, mvK_d, mvK_r, w_c, w_bin, w_un, w_tst, w_and, w_or, w_not, w_andV, w_orV, w_notV, w_if, w_nil, w_cons, w_tup, w_lst, w_as, w_bc, w_lc, w_call, w_no, w_some, w_slice, w_app, w_ext, w_pop, w_seqD, w_rng1, w_comp, wpR_ok, optK_some, boolK_b, intK_i, oneK_d, oneL_d, twoK_2, sixK_r, rngK_i, rtK_d, peek_d, peek_r, peeks_n, peeks_c, own_r, lst_z, lst_s, Option.map_some, Option.bind_some, Option.join_some, List.getElem?_cons_zero, List.getElem?_cons_succ, List.set_cons_zero, List.set_cons_succ, List.map_cons, List.map_nil, List.cons_append, List.nil_append, List.replicate_succ, List.replicate_zero, Nat.sub_self, datsV_n, datsV_d, wipe_n, wipe_c, setG_n, setG_t, setGs_n, setGs_c, ix_l, ix_t, atI_0, atI_1, atI_2, atI_3, add_i, sub_i, iadd_i, lt_i, le_i, gt_i, ge_i, eq_i, eq_s, len_l, len_t, int_i, abs_i, max_i, tuple_l, tuple_t, sizeLine_val, w_enum, w_isi, w_fmt, w_jnil, w_jcons, w_join, vK_1, strK_s, ne_i, ne_s, s_raise, s_try, wpR_exc, errIx0, errIx1, errIx2, errIx3, errWord0, errWord1, errWord2, errWord3, w_zip, zipK_2, row_l, row_t, w_back, backK_t, neg_i, w_ssetT, tupK_t, w_callI, callK_0, w_mulLD, mulK_l, w_disp, w_din, w_dget, one1_v, w_dlen, w_glue, w_upperD, w_dvals, s_dput, keyV_i, keyV_s, datV_d, strV_s, refOf_r, dctV_r, dct_z, dct_s, xor_tr, xor_fl, seqOf_l, seqOf_t, List.length_nil, List.length_cons, Nat.reduceAdd, Nat.reduceLeDiff, true_and, and_true, if_true, if_false, Bool.not_true, Bool.not_false, Bool.false_eq_true]
    rw [told_any (by omega) a i (List.mem_range.mp hi)]
    simp only [s_nil, s_brk, s_cont, s_seq, s_expr, s_ret, s_retN, s_set, s_setL, s_newL, s_unp, s_par, s_aug, s_six, s_if, s_for, w_var, w_mv2, mvK_d, mvK_r, w_c, w_bin, w_un, w_tst, w_and, w_or, w_not, w_andV, w_orV, w_notV, w_if, w_nil, w_cons, w_tup, w_lst, w_as, w_bc, w_lc, w_call, w_no, w_some, w_slice, w_app, w_ext, w_pop, w_seqD, w_rng1, w_comp, wpR_ok, optK_some, boolK_b, intK_i, oneK_d, oneL_d, twoK_2, sixK_r, rngK_i, rtK_d, peek_d, peek_r, peeks_n, peeks_c, own_r, lst_z, lst_s, Option.map_some, Option.bind_some, Option.join_some, List.getElem?_cons_zero, List.getElem?_cons_succ, List.set_cons_zero, List.set_cons_succ, List.map_cons, List.map_nil, List.cons_append, List.nil_append, List.replicate_succ, List.replicate_zero, Nat.sub_self, datsV_n, datsV_d, wipe_n, wipe_c, setG_n, setG_t, setGs_n, setGs_c, ix_l, ix_t, atI_0, atI_1, atI_2, atI_3, add_i, sub_i, iadd_i, lt_i, le_i, gt_i, ge_i, eq_i, eq_s, len_l, len_t, int_i, abs_i, max_i, tuple_l, tuple_t, sizeLine_val, w_enum, w_isi, w_fmt, w_jnil, w_jcons, w_join, vK_1, strK_s, ne_i, ne_s, s_raise, s_try, wpR_exc, errIx0, errIx1, errIx2, errIx3, errWord0, errWord1, errWord2, errWord3, w_zip, zipK_2, row_l, row_t, w_back, backK_t, neg_i, w_ssetT, tupK_t, w_callI, callK_0, w_mulLD, mulK_l, w_disp, w_din, w_dget, one1_v, w_dlen, w_glue, w_upperD, w_dvals, s_dput, keyV_i, keyV_s, datV_d, strV_s, refOf_r, dctV_r, dct_z, dct_s, xor_tr, xor_fl, seqOf_l, seqOf_t, List.length_nil, List.length_cons, Nat.reduceAdd, Nat.reduceLeDiff, true_and, and_true, if_true, if_false, Bool.not_true, Bool.not_false, Bool.false_eq_true]
end Pg
end

section
namespace Pg
open PySem PySem.Spec PyProof.Rows L2 Dn
mutual
/-- one concept lies within another one -/
def liesB : Con → Con → Bool
  | c, .mk ns ls => ns.all (fun n => decide (n ∈ c.names)) && liesL c ls
def liesL : Con → Lks → Bool
  | _, .nil => true
  | c, .cons r d ls => (c.links.list.any fun p => (p.1 == r) && liesB p.2 d) && liesL c ls
end
theorem con_data (c : Con) : c.data = .tuple [.tuple (c.names.map .str), .tuple c.links.data] := by
  obtain ⟨ns, ls⟩ := c
  rw [Con.data]
  rfl
theorem con_size (c : Con) : c.size = c.names.length + c.links.size := by
  obtain ⟨ns, ls⟩ := c
  rw [Con.size]
  rfl
theorem size_mem : ∀ {ls : Lks} {p : Str × Con}, p ∈ ls.list → p.2.size < ls.size
  | .cons r c ls, p, h => by
    rw [Lks.size]
    rw [Lks.list] at h
    rcases List.mem_cons.mp h with rfl | h
    · show c.size < _
      omega
    · have := size_mem h
      omega
theorem mem_strs {n : Str} {xs : List Str} : ((xs.map PyData.str).any fun y => PyData.eqv y (.str n)) = decide (n ∈ xs) := by
  rw [List.any_map]
  rw [Bool.eq_iff_iff, List.any_eq_true, decide_eq_true_eq]
  refine ⟨fun ⟨x, hx, e⟩ => ?_, fun h => ⟨n, h, by simp [PyData.eqv]⟩⟩
  have e' : x = n := by simpa [PyData.eqv] using e
  exact e' ▸ hx
theorem in_t {d : PyData} {xs : List PyData} (h : min (PyData.depthAll xs) d.depth ≤ 60) : inSq false d (.tuple xs) = some (.bool (xs.any fun y => PyData.eqv y d)) := by
  have c : inC d xs = true := decide_eq_true h
  cases d <;> (show (if inC _ xs = true then _ else _) = _; rw [if_pos c, xor_f])
theorem notin_t {d : PyData} {xs : List PyData} (h : min (PyData.depthAll xs) d.depth ≤ 60) : inSq true d (.tuple xs) = some (.bool (!xs.any fun y => PyData.eqv y d)) := by
  have c : inC d xs = true := decide_eq_true h
  cases d <;> (show (if inC _ xs = true then _ else _) = _; rw [if_pos c, xor_t])
theorem in_l {d : PyData} {xs : List PyData} (h : min (PyData.depthAll xs) d.depth ≤ 60) : inSq false d (.list xs) = some (.bool (xs.any fun y => PyData.eqv y d)) := by
  have c : inC d xs = true := decide_eq_true h
  cases d <;> (show (if inC _ xs = true then _ else _) = _; rw [if_pos c, xor_f])
theorem notin_l {d : PyData} {xs : List PyData} (h : min (PyData.depthAll xs) d.depth ≤ 60) : inSq true d (.list xs) = some (.bool (!xs.any fun y => PyData.eqv y d)) := by
  have c : inC d xs = true := decide_eq_true h
  cases d <;> (show (if inC _ xs = true then _ else _) = _; rw [if_pos c, xor_t])
theorem depth_str (n : Str) : (PyData.str n).depth = 0 := by simp [PyData.depth]
mutual
/-- no row is too long, at all depths -/
def Slim (N : Nat) : Con → Prop
  | .mk ns ls => ns.length ≤ N ∧ ls.list.length ≤ N ∧ SlimL N ls
def SlimL (N : Nat) : Lks → Prop
  | .nil => True
  | .cons _ c ls => Slim N c ∧ SlimL N ls
end
theorem slimL_iff {N : Nat} : ∀ {ls : Lks}, SlimL N ls ↔ ∀ p ∈ ls.list, Slim N p.2
  | .nil => by rw [SlimL, Lks.list]; simp
  | .cons r c ls => by
    rw [SlimL, Lks.list, slimL_iff (ls := ls)]
    simp
theorem slim_iff {N : Nat} {c : Con} : Slim N c ↔ c.names.length ≤ N ∧ c.links.list.length ≤ N ∧ ∀ p ∈ c.links.list, Slim N p.2 := by
  obtain ⟨ns, ls⟩ := c
  rw [Slim, slimL_iff]
  exact Iff.rfl
theorem slim_le {N M : Nat} (h : N ≤ M) (n : Nat) : ∀ c : Con, c.size ≤ n → Slim N c → Slim M c := by
  induction n using Nat.strongRecOn with
  | _ n ih =>
    intro c hn s
    obtain ⟨a, b, d⟩ := slim_iff.mp s
    exact slim_iff.mpr ⟨by omega, by omega, fun p hp => ih p.2.size (by have := size_mem hp; rw [con_size] at hn; omega) p.2 (Nat.le_refl _) (d p hp)⟩
theorem Slim.le {N M : Nat} {c : Con} (s : Slim N c) (h : N ≤ M) : Slim M c := slim_le h _ c (Nat.le_refl _) s
theorem slim_size (N n : Nat) : ∀ c : Con, c.size ≤ n → c.size ≤ N → Slim N c := by
  induction n using Nat.strongRecOn with
  | _ n ih =>
    intro c hn s
    have z := con_size c
    have l := links_len c.links
    rw [Lks.data_list, List.length_map] at l
    exact slim_iff.mpr ⟨by omega, by omega, fun p hp => by
      have := size_mem hp
      exact ih p.2.size (by omega) p.2 (Nat.le_refl _) (by omega)⟩
theorem slim_of {N : Nat} {c : Con} (h : c.size ≤ N) : Slim N c := slim_size N _ c (Nat.le_refl _) h
structure Good (c : Con) : Prop where
  size : c.size ≤ 200
  deep : c.deep ≤ 12
  fine : fine c
  wf : wfB c = true
theorem repr1 {d : PyData} (s : d.showable = true) (o : strOk d) (z : wt d ≤ 16000000) (p : d.depth ≤ 50) : reprD [.list [d]] = some (.str (PyData.list [d]).shown) := by
  refine repr_of ?_ ?_ ?_ ?_
  · rw [PyData.showable, PyData.showableAll, PyData.showableAll, s]; rfl
  · rw [strOk, strOkAll, strOkAll]; exact ⟨o, trivial⟩
  · rw [wt, wtAll, wtAll]; omega
  · rw [PyData.depth, PyData.depthAll, PyData.depthAll]; omega
theorem same_spec {k : Nat} {d : PyData} {h : Hl} (hk : 0 < k) (s : d.showable = true) (o : strOk d) (z : wt d ≤ 16000000) (p : d.depth ≤ 50) : callD prog k i__law_same [.dat d, .dat d] h = .ok (.dat (.bool true)) h := by
  obtain ⟨k, rfl⟩ : ∃ j, k = j + 1 := ⟨k - 1, by omega⟩
  refine wpR_eq ?_
  rw [call_at (r := r__law_same) rfl]
  refine fn_rule rfl ?_
  show wpS (D__law_same (callD prog k) [some (.dat d), some (.dat d)] h) _ _
  simp only [D__law_same, s_nil, s_brk, s_cont, s_seq, s_expr, s_ret, s_retN, s_set, s_setL, s_newL, s_unp, s_par, s_aug, s_six, s_if, s_for, w_var, w_mv2, mvK_d, mvK_r, w_c, w_bin, w_un, w_tst, w_and, w_or, w_not, w_andV, w_orV, w_notV, w_if, w_nil, w_cons, w_tup, w_lst, w_as, w_bc, w_lc, w_call, w_no, w_some, w_slice, w_app, w_ext, w_pop, w_seqD, w_rng1, w_comp, wpR_ok, optK_some, boolK_b, intK_i, oneK_d, oneL_d, twoK_2, sixK_r, rngK_i, rtK_d, peek_d, peek_r, peeks_n, peeks_c, own_r, lst_z, lst_s, Option.map_some, Option.bind_some, Option.join_some, List.getElem?_cons_zero, List.getElem?_cons_succ, List.set_cons_zero, List.set_cons_succ, List.map_cons, List.map_nil, List.cons_append, List.nil_append, List.replicate_succ, List.replicate_zero, Nat.sub_self, datsV_n, datsV_d, wipe_n, wipe_c, setG_n, setG_t, setGs_n, setGs_c, ix_l, ix_t, atI_0, atI_1, atI_2, atI_3, add_i, sub_i, iadd_i, lt_i, le_i, gt_i, ge_i, eq_i, eq_s, len_l, len_t, int_i, abs_i, max_i, tuple_l, tuple_t, sizeLine_val, w_enum, w_isi, w_fmt, w_jnil, w_jcons, w_join, vK_1, strK_s, ne_i, ne_s, s_raise, s_try, wpR_exc, errIx0, errIx1, errIx2, errIx3, errWord0, errWord1, errWord2, errWord3, w_zip, zipK_2, row_l, row_t, w_back, backK_t, neg_i, w_ssetT, tupK_t, w_callI, callK_0, w_mulLD, mulK_l, w_disp, w_din, w_dget, one1_v, w_dlen, w_glue, w_upperD, w_dvals, s_dput, keyV_i, keyV_s, datV_d, strV_s, refOf_r, dctV_r, dct_z, dct_s, xor_tr, xor_fl, seqOf_l, seqOf_t, List.length_cons, List.length_nil, repr1 s o z p]
  exact ⟨by omega, by omega, by simp, List.take_length⟩
end Pg
end

section
namespace Pg
open PySem PySem.Spec PyProof.Rows L2 Dn
theorem cps_app (a b : Str) : (a ++ b).cps.toList = a.cps.toList ++ b.cps.toList := by
  show (a.cps ++ b.cps).toList = _
  rw [Array.toList_append]
theorem slen (z : Str) : z.cps.toList.length = z.length := by simp [Str.length]
theorem add_s {a b : Str} (h : a.length + b.length ≤ sizeLine) : addD (.str a) (.str b) = some (.str (a ++ b)) := by
  show (addI (.str a) (.str b)).orElse (fun _ => (addS (.str a) (.str b)).orElse fun _ => _) = _
  show (if a.length + b.length ≤ sizeLine then some (PyData.str (a ++ b)) else none).orElse _ = _
  rw [if_pos h]
  rfl
theorem first_len : firstS.cps.toList.length = 26 := by decide +kernel
theorem signs_len : signsS.cps.toList.length = 36 := by decide +kernel
theorem first_signs : firstS ++ ("0123456789" : Str) = signsS := by decide +kernel
theorem first_in {c : Nat} (h : c ∈ firstS.cps.toList) : inS c firstS = true ∧ inS c signsS = true := by
  refine ⟨decide_eq_true h, decide_eq_true ?_⟩
  rw [← first_signs, cps_app]
  exact List.mem_append_left _ h
theorem signs_small : ∀ c ∈ signsS.cps.toList, c < 16 ^ 8 := by decide +kernel
/-- a word as it is drawn -/
structure Wd (z : Str) : Prop where
  pos : 0 < z.length
  max : z.length ≤ 12
  first : ∃ c r, z.cps.toList = c :: r ∧ inS c firstS = true
  signs : ∀ c ∈ z.cps.toList, inS c signsS = true
theorem Wd.fine {z : Str} (w : Wd z) : strFine z := ⟨by have := w.max; omega, fun c hc => signs_small c (of_decide_eq_true (w.signs c hc))⟩
theorem Wd.name {z : Str} (w : Wd z) (n : z ≠ "any") : nameB z = true := by
  obtain ⟨c, r, e, h⟩ := w.first
  unfold nameB
  rw [if_neg]
  · exact List.all_eq_true.mpr w.signs
  · rintro (q | q | q | q)
    · have := w.pos; omega
    · have := w.max; omega
    · exact n q
    · rw [e] at q
      simp [h] at q
theorem Wd.snoc {z : Str} {c : Nat} (w : Wd z) (l : z.length ≤ 11) (h : c ∈ signsS.cps.toList) : Wd (z ++ ⟨#[c]⟩) := by
  obtain ⟨a, r, e, q⟩ := w.first
  have e1 : ((⟨#[c]⟩ : Str)).length = 1 := rfl
  refine ⟨by rw [strLen_append]; have := w.pos; omega, by rw [strLen_append]; omega, ⟨a, r ++ [c], by rw [cps_app, e]; rfl, q⟩, fun d hd => ?_⟩
  rw [cps_app] at hd
  rcases List.mem_append.mp hd with hd | hd
  · exact w.signs d hd
  · have : d = c := by simpa using hd
    rw [this]
    exact decide_eq_true h
/-- the law's numbers are in order, m more can be drawn -/
structure Sk (s : List Int) (n : Int) (m : Int) : Prop where
  pos : 0 < s.length
  max : s.length < 4000
  nn : 0 ≤ n
  room : n + m < 2 ^ 50
theorem Sk.next {s : List Int} {n m : Int} {k : Nat} {j : Int} {hs : Hl} (S : Sk s n m) (hj : 0 < j) (hm : 0 < m) (hk : 0 < k) : wpR (callD prog k i__law_next [.ref 0, .dat (.int j)] (st s n :: hs)) (fun v h => ∃ x, v = .dat (.int x) ∧ 0 ≤ x ∧ x < j ∧ h = st s (n + 1) :: hs) noX := by
  obtain ⟨k, rfl⟩ : ∃ i, k = i + 1 := ⟨k - 1, by omega⟩
  have := S.room
  exact next_spec hj S.pos S.max S.nn (by omega)
theorem Sk.less {s : List Int} {n m n' m' : Int} (S : Sk s n m) (h0 : n ≤ n') (h : n' + m' ≤ n + m) : Sk s n' m' := ⟨S.pos, S.max, by have := S.nn; omega, by have := S.room; omega⟩
theorem word_spec {k : Nat} {s : List Int} {n : Int} {hs : Hl} (S : Sk s n 14) (hk : 2 ≤ k) : wpR (callD prog k i__law_word [.ref 0] (st s n :: hs)) (fun v h => ∃ z n', v = .dat (.str z) ∧ Wd z ∧ n ≤ n' ∧ n' ≤ n + 14 ∧ h = st s n' :: hs) noX := by
  obtain ⟨k, rfl⟩ : ∃ i, k = i + 1 := ⟨k - 1, by omega⟩
  rw [call_at (r := r__law_word) rfl]
  refine fn_rule rfl ?_
  show wpS (D__law_word (callD prog k) [some (.ref 0), none, none, none] (st s n :: hs)) _ _
  simp only [D__law_word, s_nil, s_brk, s_cont, s_seq, s_expr, s_ret, s_retN, s_set, s_setL, s_newL, s_unp, s_par, s_aug, s_six, s_if, s_for, w_var, w_mv2, mvK_d, mvK_r, w_c, w_bin, w_un, w_tst, w_and, w_or, w_not, w_andV, w_orV, w_notV, w_if, w_nil, w_cons, w_tup, w_lst, w_as, w_bc, w_lc, w_call, w_no, w_some, w_slice, w_app, w_ext, w_pop, w_seqD, w_rng1, w_comp, wpR_ok, optK_some, boolK_b, intK_i, oneK_d, oneL_d, twoK_2, sixK_r, rngK_i, rtK_d, peek_d, peek_r, peeks_n, peeks_c, own_r, lst_z, lst_s, Option.map_some, Option.bind_some, Option.join_some, List.getElem?_cons_zero, List.getElem?_cons_succ, List.set_cons_zero, List.set_cons_succ, List.map_cons, List.map_nil, List.cons_append, List.nil_append, List.replicate_succ, List.replicate_zero, Nat.sub_self, datsV_n, datsV_d, wipe_n, wipe_c, setG_n, setG_t, setGs_n, setGs_c, ix_l, ix_t, atI_0, atI_1, atI_2, atI_3, add_i, sub_i, iadd_i, lt_i, le_i, gt_i, ge_i, eq_i, eq_s, len_l, len_t, int_i, abs_i, max_i, tuple_l, tuple_t, sizeLine_val, w_enum, w_isi, w_fmt, w_jnil, w_jcons, w_join, vK_1, strK_s, ne_i, ne_s, s_raise, s_try, wpR_exc, errIx0, errIx1, errIx2, errIx3, errWord0, errWord1, errWord2, errWord3, w_zip, zipK_2, row_l, row_t, w_back, backK_t, neg_i, w_ssetT, tupK_t, w_callI, callK_0, w_mulLD, mulK_l, w_disp, w_din, w_dget, one1_v, w_dlen, w_glue, w_upperD, w_dvals, s_dput, keyV_i, keyV_s, datV_d, strV_s, refOf_r, dctV_r, dct_z, dct_s, xor_tr, xor_fl, seqOf_l, seqOf_t]
  refine wpR_imp (S.next (by decide) (by decide) (by omega)) fun v h => ?_
  rintro ⟨x, rfl, x0, x1, rfl⟩
  simp only [s_nil, s_brk, s_cont, s_seq, s_expr, s_ret, s_retN, s_set, s_setL, s_newL, s_unp, s_par, s_aug, s_six, s_if, s_for, w_var, w_mv2, mvK_d, mvK_r, w_c, w_bin, w_un, w_tst, w_and, w_or, w_not, w_andV, w_orV, w_notV, w_if, w_nil, w_cons, w_tup, w_lst, w_as, w_bc, w_lc, w_call, w_no, w_some, w_slice, w_app, w_ext, w_pop, w_seqD, w_rng1, w_comp, wpR_ok, optK_some, boolK_b, intK_i, oneK_d, oneL_d, twoK_2, sixK_r, rngK_i, rtK_d, peek_d, peek_r, peeks_n, peeks_c, own_r, lst_z, lst_s, Option.map_some, Option.bind_some, Option.join_some, List.getElem?_cons_zero, List.getElem?_cons_succ, List.set_cons_zero, List.set_cons_succ, List.map_cons, List.map_nil, List.cons_append, List.nil_append, List.replicate_succ, List.replicate_zero, Nat.sub_self, datsV_n, datsV_d, wipe_n, wipe_c, setG_n, setG_t, setGs_n, setGs_c, ix_l, ix_t, atI_0, atI_1, atI_2, atI_3, add_i, sub_i, iadd_i, lt_i, le_i, gt_i, ge_i, eq_i, eq_s, len_l, len_t, int_i, abs_i, max_i, tuple_l, tuple_t, sizeLine_val, w_enum, w_isi, w_fmt, w_jnil, w_jcons, w_join, vK_1, strK_s, ne_i, ne_s, s_raise, s_try, wpR_exc, errIx0, errIx1, errIx2, errIx3, errWord0, errWord1, errWord2, errWord3, w_zip, zipK_2, row_l, row_t, w_back, backK_t, neg_i, w_ssetT, tupK_t, w_callI, callK_0, w_mulLD, mulK_l, w_disp, w_din, w_dget, one1_v, w_dlen, w_glue, w_upperD, w_dvals, s_dput, keyV_i, keyV_s, datV_d, strV_s, refOf_r, dctV_r, dct_z, dct_s, xor_tr, xor_fl, seqOf_l, seqOf_t]
  obtain ⟨c, ec, hc⟩ := atI_mem (xs := firstS.cps.toList) x0 (by rw [first_len]; exact x1)
  have c1 := first_in hc
  rw [ix_s (by rw [← slen, first_len, sizeLine_val]; decide), ec, Option.map_some, optK_some]
  have S1 : Sk s (n + 1) 13 := S.less (by omega) (by omega)
  refine ⟨by simp, wpR_imp (S1.next (by decide) (by decide) (by omega)) fun v h => ?_⟩
  rintro ⟨y, rfl, y0, y1, rfl⟩
  have hy : ∃ m : Nat, m ≤ 11 ∧ atI [PyData.int 0, PyData.int 1, PyData.int 3, PyData.int 11] y = some (.int m) := by
    have : y = 0 ∨ y = 1 ∨ y = 2 ∨ y = 3 := by omega
    rcases this with rfl | rfl | rfl | rfl
    · exact ⟨0, by omega, atI_0⟩
    · exact ⟨1, by omega, atI_1⟩
    · exact ⟨3, by omega, atI_2⟩
    · exact ⟨11, by omega, atI_3⟩
  obtain ⟨m, hm, em⟩ := hy
  simp only [s_nil, s_brk, s_cont, s_seq, s_expr, s_ret, s_retN, s_set, s_setL, s_newL, s_unp, s_par, s_aug, s_six, s_if, s_for, w_var, w_mv2, mvK_d, mvK_r, w_c, w_bin, w_un, w_tst, w_and, w_or, w_not, w_andV, w_orV, w_notV, w_if, w_nil, w_cons, w_tup, w_lst, w_as, w_bc, w_lc, w_call, w_no, w_some, w_slice, w_app, w_ext, w_pop, w_seqD, w_rng1, w_comp, wpR_ok, optK_some, boolK_b, intK_i, oneK_d, oneL_d, twoK_2, sixK_r, rngK_i, rtK_d, peek_d, peek_r, peeks_n, peeks_c, own_r, lst_z, lst_s, Option.map_some, Option.bind_some, Option.join_some, List.getElem?_cons_zero, List.getElem?_cons_succ, List.set_cons_zero, List.set_cons_succ, List.map_cons, List.map_nil, List.cons_append, List.nil_append, List.replicate_succ, List.replicate_zero, Nat.sub_self, datsV_n, datsV_d, wipe_n, wipe_c, setG_n, setG_t, setGs_n, setGs_c, ix_l, ix_t, atI_0, atI_1, atI_2, atI_3, add_i, sub_i, iadd_i, lt_i, le_i, gt_i, ge_i, eq_i, eq_s, len_l, len_t, int_i, abs_i, max_i, tuple_l, tuple_t, sizeLine_val, w_enum, w_isi, w_fmt, w_jnil, w_jcons, w_join, vK_1, strK_s, ne_i, ne_s, s_raise, s_try, wpR_exc, errIx0, errIx1, errIx2, errIx3, errWord0, errWord1, errWord2, errWord3, w_zip, zipK_2, row_l, row_t, w_back, backK_t, neg_i, w_ssetT, tupK_t, w_callI, callK_0, w_mulLD, mulK_l, w_disp, w_din, w_dget, one1_v, w_dlen, w_glue, w_upperD, w_dvals, s_dput, keyV_i, keyV_s, datV_d, strV_s, refOf_r, dctV_r, dct_z, dct_s, xor_tr, xor_fl, seqOf_l, seqOf_t, em, List.length_cons, List.length_nil]
  refine ⟨by simp only [rngOk, Bool.and_eq_true, decide_eq_true_eq]; omega, ?_⟩
  have w0 : Wd ⟨#[c]⟩ := ⟨Nat.zero_lt_one, (show 1 ≤ 12 by omega), ⟨c, [], rfl, c1.1⟩, fun d hd => by
    have e : d = c := by simpa using hd
    rw [e]
    exact c1.2⟩
  refine for_rule (fun ds ρ h' => ∃ (z : Str) (a : Option Val) (n' : Int), ρ = [some (.ref 0), some (.dat (.str firstS)), some (.dat (.str z)), a] ∧ h' = st s n' :: hs ∧ Wd z ∧ z.length + ds.length ≤ 12 ∧ n ≤ n' ∧ n' + ds.length ≤ n + 2 + m)
    (fun d ds ρ h' I => ?_) (fun ρ h' I => ?_) _ _ _ ⟨⟨#[c]⟩, none, n + 1 + 1, rfl, rfl, w0, by simp [rngItems, Str.length]; omega, by omega, by simp [rngItems]; omega⟩
  · obtain ⟨z, a, n', rfl, rfl, w, l1, l2, l3⟩ := I
    rw [List.length_cons] at l1 l3
    refine ⟨rfl, ?_⟩
    simp only [s_nil, s_brk, s_cont, s_seq, s_expr, s_ret, s_retN, s_set, s_setL, s_newL, s_unp, s_par, s_aug, s_six, s_if, s_for, w_var, w_mv2, mvK_d, mvK_r, w_c, w_bin, w_un, w_tst, w_and, w_or, w_not, w_andV, w_orV, w_notV, w_if, w_nil, w_cons, w_tup, w_lst, w_as, w_bc, w_lc, w_call, w_no, w_some, w_slice, w_app, w_ext, w_pop, w_seqD, w_rng1, w_comp, wpR_ok, optK_some, boolK_b, intK_i, oneK_d, oneL_d, twoK_2, sixK_r, rngK_i, rtK_d, peek_d, peek_r, peeks_n, peeks_c, own_r, lst_z, lst_s, Option.map_some, Option.bind_some, Option.join_some, List.getElem?_cons_zero, List.getElem?_cons_succ, List.set_cons_zero, List.set_cons_succ, List.map_cons, List.map_nil, List.cons_append, List.nil_append, List.replicate_succ, List.replicate_zero, Nat.sub_self, datsV_n, datsV_d, wipe_n, wipe_c, setG_n, setG_t, setGs_n, setGs_c, ix_l, ix_t, atI_0, atI_1, atI_2, atI_3, add_i, sub_i, iadd_i, lt_i, le_i, gt_i, ge_i, eq_i, eq_s, len_l, len_t, int_i, abs_i, max_i, tuple_l, tuple_t, sizeLine_val, w_enum, w_isi, w_fmt, w_jnil, w_jcons, w_join, vK_1, strK_s, ne_i, ne_s, s_raise, s_try, wpR_exc, errIx0, errIx1, errIx2, errIx3, errWord0, errWord1, errWord2, errWord3, w_zip, zipK_2, row_l, row_t, w_back, backK_t, neg_i, w_ssetT, tupK_t, w_callI, callK_0, w_mulLD, mulK_l, w_disp, w_din, w_dget, one1_v, w_dlen, w_glue, w_upperD, w_dvals, s_dput, keyV_i, keyV_s, datV_d, strV_s, refOf_r, dctV_r, dct_z, dct_s, xor_tr, xor_fl, seqOf_l, seqOf_t]
    rw [add_s (by rw [← slen, first_len, sizeLine_val]; decide), first_signs, optK_some]
    have S1 : Sk s n' 1 := S.less l2 (by omega)
    refine wpR_imp (S1.next (by decide) (by decide) (by omega)) fun v h => ?_
    rintro ⟨y, rfl, y0, y1, rfl⟩
    simp only [s_nil, s_brk, s_cont, s_seq, s_expr, s_ret, s_retN, s_set, s_setL, s_newL, s_unp, s_par, s_aug, s_six, s_if, s_for, w_var, w_mv2, mvK_d, mvK_r, w_c, w_bin, w_un, w_tst, w_and, w_or, w_not, w_andV, w_orV, w_notV, w_if, w_nil, w_cons, w_tup, w_lst, w_as, w_bc, w_lc, w_call, w_no, w_some, w_slice, w_app, w_ext, w_pop, w_seqD, w_rng1, w_comp, wpR_ok, optK_some, boolK_b, intK_i, oneK_d, oneL_d, twoK_2, sixK_r, rngK_i, rtK_d, peek_d, peek_r, peeks_n, peeks_c, own_r, lst_z, lst_s, Option.map_some, Option.bind_some, Option.join_some, List.getElem?_cons_zero, List.getElem?_cons_succ, List.set_cons_zero, List.set_cons_succ, List.map_cons, List.map_nil, List.cons_append, List.nil_append, List.replicate_succ, List.replicate_zero, Nat.sub_self, datsV_n, datsV_d, wipe_n, wipe_c, setG_n, setG_t, setGs_n, setGs_c, ix_l, ix_t, atI_0, atI_1, atI_2, atI_3, add_i, sub_i, iadd_i, lt_i, le_i, gt_i, ge_i, eq_i, eq_s, len_l, len_t, int_i, abs_i, max_i, tuple_l, tuple_t, sizeLine_val, w_enum, w_isi, w_fmt, w_jnil, w_jcons, w_join, vK_1, strK_s, ne_i, ne_s, s_raise, s_try, wpR_exc, errIx0, errIx1, errIx2, errIx3, errWord0, errWord1, errWord2, errWord3, w_zip, zipK_2, row_l, row_t, w_back, backK_t, neg_i, w_ssetT, tupK_t, w_callI, callK_0, w_mulLD, mulK_l, w_disp, w_din, w_dget, one1_v, w_dlen, w_glue, w_upperD, w_dvals, s_dput, keyV_i, keyV_s, datV_d, strV_s, refOf_r, dctV_r, dct_z, dct_s, xor_tr, xor_fl, seqOf_l, seqOf_t]
    obtain ⟨e, ee, he⟩ := atI_mem (xs := signsS.cps.toList) y0 (by rw [signs_len]; exact y1)
    rw [ix_s (by rw [← slen, signs_len, sizeLine_val]; decide), ee, Option.map_some, optK_some]
    have e1 : ((⟨#[e]⟩ : Str)).length = 1 := rfl
    rw [add_s (by rw [sizeLine_val]; omega), optK_some]
    exact ⟨_, _, _, rfl, rfl, w.snoc (by omega) he, by rw [strLen_append]; omega, by omega, by omega⟩
  · obtain ⟨z, a, n', rfl, rfl, w, l1, l2, l3⟩ := I
    refine ⟨rfl, ?_⟩
    simp only [s_nil, s_brk, s_cont, s_seq, s_expr, s_ret, s_retN, s_set, s_setL, s_newL, s_unp, s_par, s_aug, s_six, s_if, s_for, w_var, w_mv2, mvK_d, mvK_r, w_c, w_bin, w_un, w_tst, w_and, w_or, w_not, w_andV, w_orV, w_notV, w_if, w_nil, w_cons, w_tup, w_lst, w_as, w_bc, w_lc, w_call, w_no, w_some, w_slice, w_app, w_ext, w_pop, w_seqD, w_rng1, w_comp, wpR_ok, optK_some, boolK_b, intK_i, oneK_d, oneL_d, twoK_2, sixK_r, rngK_i, rtK_d, peek_d, peek_r, peeks_n, peeks_c, own_r, lst_z, lst_s, Option.map_some, Option.bind_some, Option.join_some, List.getElem?_cons_zero, List.getElem?_cons_succ, List.set_cons_zero, List.set_cons_succ, List.map_cons, List.map_nil, List.cons_append, List.nil_append, List.replicate_succ, List.replicate_zero, Nat.sub_self, datsV_n, datsV_d, wipe_n, wipe_c, setG_n, setG_t, setGs_n, setGs_c, ix_l, ix_t, atI_0, atI_1, atI_2, atI_3, add_i, sub_i, iadd_i, lt_i, le_i, gt_i, ge_i, eq_i, eq_s, len_l, len_t, int_i, abs_i, max_i, tuple_l, tuple_t, sizeLine_val, w_enum, w_isi, w_fmt, w_jnil, w_jcons, w_join, vK_1, strK_s, ne_i, ne_s, s_raise, s_try, wpR_exc, errIx0, errIx1, errIx2, errIx3, errWord0, errWord1, errWord2, errWord3, w_zip, zipK_2, row_l, row_t, w_back, backK_t, neg_i, w_ssetT, tupK_t, w_callI, callK_0, w_mulLD, mulK_l, w_disp, w_din, w_dget, one1_v, w_dlen, w_glue, w_upperD, w_dvals, s_dput, keyV_i, keyV_s, datV_d, strV_s, refOf_r, dctV_r, dct_z, dct_s, xor_tr, xor_fl, seqOf_l, seqOf_t]
    exact ⟨z, n', rfl, w, l2, by simp at l3; omega, List.take_of_length_le (by simp)⟩
end Pg
end

section
namespace Pg
open PySem PySem.Spec PyProof.Rows L2 Dn
/-! a list that stands last -/
theorem set_end {α : Type} (l : List α) (x y : α) : (l ++ [x]).set l.length y = l ++ [y] := by
  rw [List.set_append_right _ _ (Nat.le_refl _), Nat.sub_self]
  rfl
theorem set_end1 {α : Type} (a : α) (l : List α) (x y : α) : (a :: (l ++ [x])).set (l.length + 1) y = a :: (l ++ [y]) := by
  rw [List.set_cons_succ, set_end]
theorem lst_end1 {o : Option HObj} {h : Hl} {ds : List PyData} : lstAt (o :: (h ++ [some (.lst ds)])) (h.length + 1) = some ds := by
  rw [lst_s, lst_end]
theorem take_end1 {α : Type} (a : α) (l : List α) (x : α) : (a :: (l ++ [x])).take (l.length + 1) = a :: l := by
  rw [List.take_succ_cons, List.take_left]
/-! sorting what is encoded -/
theorem sortL_map {α : Type} (enc : α → PyData) (xs : List α) : ∃ ys : List α, sortL (xs.map enc) = ys.map enc ∧ ys.Perm xs := by
  refine ⟨xs.mergeSort fun a b => PySem.W.dataLe false (fun d => d) (enc a) (enc b), ?_, List.mergeSort_perm _ _⟩
  unfold sortL
  rw [List.map_mergeSort (r := fun a b => PySem.W.dataLe false (fun d => d) (enc a) (enc b)) (s := PySem.W.dataLe false fun d => d) (f := enc) fun a _ b _ => rfl]
theorem risB_of : ∀ {xs : List PyData}, xs.Pairwise lessD → risB xs = true
  | [], _ => rfl
  | [a], _ => rfl
  | a :: b :: r, h => by
    rw [List.pairwise_cons] at h
    have h1 : PySem.W.dataLt a b = true := h.1 b (List.mem_cons_self ..)
    rw [risB, h1, risB_of h.2]
    rfl
theorem sorted_strs {xs : List Str} (hn : xs.Nodup) (hl : xs.length ≤ 1000000) : ∃ ys : List Str, sortedD [.list (xs.map .str)] = some (ys.map .str) ∧ ys.Perm xs ∧ (ys.map PyData.str).Pairwise lessD := by
  obtain ⟨ys, e, p⟩ := sortL_map PyData.str xs
  refine ⟨ys, ?_, p, ?_⟩
  · show (if srtB (xs.map PyData.str) = true then some (sortL (xs.map PyData.str)) else none) = _
    rw [if_pos, e]
    unfold srtB
    rw [Bool.and_eq_true, Bool.and_eq_true, Bool.and_eq_true, Bool.or_eq_true]
    refine ⟨⟨⟨?_, .inr ?_⟩, ?_⟩, ?_⟩
    · rw [List.all_eq_true]
      intro d hd
      rw [List.all_eq_true]
      exact fun e he => strs_like xs d hd e he
    · rw [List.all_map, List.all_eq_true]
      exact fun d _ => rfl
    · rw [List.length_map, sizeLine_val]
      exact decide_eq_true (by omega)
    · rw [List.all_map, List.all_eq_true]
      exact fun d _ => by
        show decide ((PyData.str d).depth ≤ 60) = true
        rw [depth_str]
        rfl
  · rw [← e]
    refine sortL_asc (strs_like xs) ?_
    rw [List.pairwise_map]
    refine hn.imp fun {a b} h => ?_
    cases q : PyData.eqv (.str a) (.str b) with
    | false => rfl
    | true => exact absurd (by simpa [PyData.eqv] using q) h
/-- words for a concept: names in order -/
structure Wds (ws : List Str) : Prop where
  asc : (ws.map PyData.str).Pairwise lessD
  name : ∀ w ∈ ws, nameB w = true
  fine : ∀ w ∈ ws, strFine w
theorem str_digit : ∀ i : Nat, i < 10 → ∃ c : Nat, (Str.ofString (toString ((0 : Int) + (i : Int)))).cps.toList = [c] ∧ c ∈ signsS.cps.toList := by
  intro i hi
  have : i = 0 ∨ i = 1 ∨ i = 2 ∨ i = 3 ∨ i = 4 ∨ i = 5 ∨ i = 6 ∨ i = 7 ∨ i = 8 ∨ i = 9 := by omega
  rcases this with rfl | rfl | rfl | rfl | rfl | rfl | rfl | rfl | rfl | rfl
  · exact ⟨48, by decide +kernel, by decide +kernel⟩
  · exact ⟨49, by decide +kernel, by decide +kernel⟩
  · exact ⟨50, by decide +kernel, by decide +kernel⟩
  · exact ⟨51, by decide +kernel, by decide +kernel⟩
  · exact ⟨52, by decide +kernel, by decide +kernel⟩
  · exact ⟨53, by decide +kernel, by decide +kernel⟩
  · exact ⟨54, by decide +kernel, by decide +kernel⟩
  · exact ⟨55, by decide +kernel, by decide +kernel⟩
  · exact ⟨56, by decide +kernel, by decide +kernel⟩
  · exact ⟨57, by decide +kernel, by decide +kernel⟩
theorem str_i {i : Int} (h : i.natAbs < 1000) : strD [.int i] = some (.str (toString i)) := by
  show (if i.natAbs.log2 < 1920 then some (PyData.str (toString i)) else none) = _
  rw [if_pos]
  exact Nat.lt_of_le_of_lt (Nat.log2_le_self _) (by omega)
theorem cut8 (z : Str) : (cutS z none (some 8)).cps.toList = z.cps.toList.take 8 := by
  unfold cutS
  rw [HT.sIx_none, show (some 8 : Option Int) = some ((8 : Nat) : Int) from rfl, HT.sIx_nat, List.drop_zero, Nat.sub_zero, ← slen, ← List.take_take, List.take_length]
theorem slice_str {z : Str} {h : Hl} (l : z.length ≤ sizeLine) : slV (.dat (.str z)) none (some 8) h = some (.str (cutS z none (some 8))) := by
  show (some (PyData.str z)).bind (slD none (some 8)) = _
  show (if z.length ≤ sizeLine then some (PyData.str (cutS z none (some 8))) else none) = _
  rw [if_pos l]
/-- another word, when the drawn one is there already -/
theorem Wd.other {z : Str} (w : Wd z) {i : Nat} (hi : i < 10) : Wd (cutS z none (some 8) ++ ("q" : Str) ++ Str.ofString (toString ((0 : Int) + (i : Int)))) ∧ cutS z none (some 8) ++ ("q" : Str) ++ Str.ofString (toString ((0 : Int) + (i : Int))) ≠ "any" := by
  obtain ⟨c, e, hc⟩ := str_digit i hi
  obtain ⟨a, r, f, g⟩ := w.first
  have eq : (("q" : Str)).cps.toList = [113] := by decide +kernel
  have l : (cutS z none (some 8) ++ ("q" : Str) ++ Str.ofString (toString ((0 : Int) + (i : Int)))).cps.toList = z.cps.toList.take 8 ++ [113] ++ [c] := by
    rw [cps_app, cps_app, cut8, eq, e]
  refine ⟨⟨?_, ?_, ?_, ?_⟩, fun q => ?_⟩
  · rw [← slen, l]; simp
  · rw [← slen, l]
    simp only [List.length_append, List.length_take, List.length_cons, List.length_nil]
    omega
  · refine ⟨a, r.take 7 ++ [113] ++ [c], ?_, g⟩
    rw [l, f]
    rfl
  · intro d hd
    rw [l] at hd
    rcases List.mem_append.mp hd with hd | hd
    · rcases List.mem_append.mp hd with hd | hd
      · exact w.signs d (List.mem_of_mem_take hd)
      · have e1 : d = 113 := by simpa using hd
        rw [e1]
        decide +kernel
    · have e1 : d = c := by simpa using hd
      rw [e1]
      exact decide_eq_true hc
  · rw [q] at l
    have e2 : (("any" : Str)).cps.toList = [97, 110, 121] := by decide +kernel
    rw [e2, f] at l
    have m : 113 ∈ [97, 110, 121] := by rw [l]; simp
    exact absurd m (by decide)
theorem not_mem_strs {z : Str} {ws : List Str} (h : z ∉ ws) : ((ws.map PyData.str).any fun y => PyData.eqv y (.str z)) = false := by
  rw [mem_strs]
  exact decide_eq_false h
theorem texts_spec {k : Nat} {s : List Int} {n j : Int} {hs : Hl} (S : Sk s n 150) (hk : 3 ≤ k) (j0 : 0 < j) (j1 : j < 10) :
    wpR (callD prog k i__law_texts [.ref 0, .dat (.int j)] (st s n :: hs)) (fun v h => ∃ (ws : List Str) (n' : Int), v = .dat (.tuple (ws.map .str)) ∧ Wds ws ∧ ws ≠ [] ∧ ws.length ≤ j.toNat ∧ n ≤ n' ∧ n' ≤ n + 150 ∧ h = st s n' :: hs) noX := by
  obtain ⟨k, rfl⟩ : ∃ i, k = i + 1 := ⟨k - 1, by omega⟩
  rw [call_at (r := r__law_texts) rfl]
  refine fn_rule rfl ?_
  show wpS (D__law_texts (callD prog k) [some (.ref 0), some (.dat (.int j)), none, none, none] (st s n :: hs)) _ _
  simp only [D__law_texts, s_nil, s_brk, s_cont, s_seq, s_expr, s_ret, s_retN, s_set, s_setL, s_newL, s_unp, s_par, s_aug, s_six, s_if, s_for, w_var, w_mv2, mvK_d, mvK_r, w_c, w_bin, w_un, w_tst, w_and, w_or, w_not, w_andV, w_orV, w_notV, w_if, w_nil, w_cons, w_tup, w_lst, w_as, w_bc, w_lc, w_call, w_no, w_some, w_slice, w_app, w_ext, w_pop, w_seqD, w_rng1, w_comp, wpR_ok, optK_some, boolK_b, intK_i, oneK_d, oneL_d, twoK_2, sixK_r, rngK_i, rtK_d, peek_d, peek_r, peeks_n, peeks_c, own_r, lst_z, lst_s, Option.map_some, Option.bind_some, Option.join_some, List.getElem?_cons_zero, List.getElem?_cons_succ, List.set_cons_zero, List.set_cons_succ, List.map_cons, List.map_nil, List.cons_append, List.nil_append, List.replicate_succ, List.replicate_zero, Nat.sub_self, datsV_n, datsV_d, wipe_n, wipe_c, setG_n, setG_t, setGs_n, setGs_c, ix_l, ix_t, atI_0, atI_1, atI_2, atI_3, add_i, sub_i, iadd_i, lt_i, le_i, gt_i, ge_i, eq_i, eq_s, len_l, len_t, int_i, abs_i, max_i, tuple_l, tuple_t, sizeLine_val, w_enum, w_isi, w_fmt, w_jnil, w_jcons, w_join, vK_1, strK_s, ne_i, ne_s, s_raise, s_try, wpR_exc, errIx0, errIx1, errIx2, errIx3, errWord0, errWord1, errWord2, errWord3, w_zip, zipK_2, row_l, row_t, w_back, backK_t, neg_i, w_ssetT, tupK_t, w_callI, callK_0, w_mulLD, mulK_l, w_disp, w_din, w_dget, one1_v, w_dlen, w_glue, w_upperD, w_dvals, s_dput, keyV_i, keyV_s, datV_d, strV_s, refOf_r, dctV_r, dct_z, dct_s, xor_tr, xor_fl, seqOf_l, seqOf_t, List.length_cons, List.length_nil]
  refine ⟨by omega, by simp only [rngOk, Bool.and_eq_true, decide_eq_true_eq]; omega, ?_⟩
  refine for_rule (fun ds ρ h' => ∃ (ws : List Str) (a b : Option Val) (n' : Int) (is : List Nat), ds = is.map (fun (i : Nat) => PyData.int ((0 : Int) + (i : Int))) ∧ (∀ i ∈ is, i < 10) ∧ ρ = [some (.ref 0), some (.dat (.int j)), some (.ref (hs.length + 1)), a, b] ∧ h' = st s n' :: (hs ++ [some (.lst (ws.map .str))]) ∧
      ws.Nodup ∧ (∀ w ∈ ws, Wd w ∧ w ≠ "any") ∧ ws.length + is.length ≤ j.toNat ∧ (ws ≠ [] ∨ is.length = j.toNat) ∧ n ≤ n' ∧ n' + 15 * is.length ≤ n + 15 * j.toNat)
    (fun d ds ρ h' I => ?_) (fun ρ h' I => ?_) _ _ _ ⟨[], none, none, n, List.range j.toNat, rfl, fun i hi => by have := List.mem_range.mp hi; omega, rfl, rfl, List.nodup_nil, fun w hw => (nomatch hw), by simp, .inr (by simp), by omega, by simp⟩
  · obtain ⟨ws, a, b, n', is, ei, hi, rfl, rfl, nd, ok, l1, l2, l3, l4⟩ := I
    cases is with
    | nil => cases ei
    | cons i is =>
      cases ei
      rw [List.length_cons] at l1 l2 l4
      have i10 := hi i (List.mem_cons_self ..)
      refine ⟨rfl, ?_⟩
      simp only [s_nil, s_brk, s_cont, s_seq, s_expr, s_ret, s_retN, s_set, s_setL, s_newL, s_unp, s_par, s_aug, s_six, s_if, s_for, w_var, w_mv2, mvK_d, mvK_r, w_c, w_bin, w_un, w_tst, w_and, w_or, w_not, w_andV, w_orV, w_notV, w_if, w_nil, w_cons, w_tup, w_lst, w_as, w_bc, w_lc, w_call, w_no, w_some, w_slice, w_app, w_ext, w_pop, w_seqD, w_rng1, w_comp, wpR_ok, optK_some, boolK_b, intK_i, oneK_d, oneL_d, twoK_2, sixK_r, rngK_i, rtK_d, peek_d, peek_r, peeks_n, peeks_c, own_r, lst_z, lst_s, Option.map_some, Option.bind_some, Option.join_some, List.getElem?_cons_zero, List.getElem?_cons_succ, List.set_cons_zero, List.set_cons_succ, List.map_cons, List.map_nil, List.cons_append, List.nil_append, List.replicate_succ, List.replicate_zero, Nat.sub_self, datsV_n, datsV_d, wipe_n, wipe_c, setG_n, setG_t, setGs_n, setGs_c, ix_l, ix_t, atI_0, atI_1, atI_2, atI_3, add_i, sub_i, iadd_i, lt_i, le_i, gt_i, ge_i, eq_i, eq_s, len_l, len_t, int_i, abs_i, max_i, tuple_l, tuple_t, sizeLine_val, w_enum, w_isi, w_fmt, w_jnil, w_jcons, w_join, vK_1, strK_s, ne_i, ne_s, s_raise, s_try, wpR_exc, errIx0, errIx1, errIx2, errIx3, errWord0, errWord1, errWord2, errWord3, w_zip, zipK_2, row_l, row_t, w_back, backK_t, neg_i, w_ssetT, tupK_t, w_callI, callK_0, w_mulLD, mulK_l, w_disp, w_din, w_dget, one1_v, w_dlen, w_glue, w_upperD, w_dvals, s_dput, keyV_i, keyV_s, datV_d, strV_s, refOf_r, dctV_r, dct_z, dct_s, xor_tr, xor_fl, seqOf_l, seqOf_t]
      have S1 : Sk s n' 14 := S.less l3 (by omega)
      refine wpR_imp (word_spec S1 (by omega)) fun v h => ?_
      rintro ⟨z, m, rfl, w, m0, m1, rfl⟩
      simp only [s_nil, s_brk, s_cont, s_seq, s_expr, s_ret, s_retN, s_set, s_setL, s_newL, s_unp, s_par, s_aug, s_six, s_if, s_for, w_var, w_mv2, mvK_d, mvK_r, w_c, w_bin, w_un, w_tst, w_and, w_or, w_not, w_andV, w_orV, w_notV, w_if, w_nil, w_cons, w_tup, w_lst, w_as, w_bc, w_lc, w_call, w_no, w_some, w_slice, w_app, w_ext, w_pop, w_seqD, w_rng1, w_comp, wpR_ok, optK_some, boolK_b, intK_i, oneK_d, oneL_d, twoK_2, sixK_r, rngK_i, rtK_d, peek_d, peek_r, peeks_n, peeks_c, own_r, lst_z, lst_s, Option.map_some, Option.bind_some, Option.join_some, List.getElem?_cons_zero, List.getElem?_cons_succ, List.set_cons_zero, List.set_cons_succ, List.map_cons, List.map_nil, List.cons_append, List.nil_append, List.replicate_succ, List.replicate_zero, Nat.sub_self, datsV_n, datsV_d, wipe_n, wipe_c, setG_n, setG_t, setGs_n, setGs_c, ix_l, ix_t, atI_0, atI_1, atI_2, atI_3, add_i, sub_i, iadd_i, lt_i, le_i, gt_i, ge_i, eq_i, eq_s, len_l, len_t, int_i, abs_i, max_i, tuple_l, tuple_t, sizeLine_val, w_enum, w_isi, w_fmt, w_jnil, w_jcons, w_join, vK_1, strK_s, ne_i, ne_s, s_raise, s_try, wpR_exc, errIx0, errIx1, errIx2, errIx3, errWord0, errWord1, errWord2, errWord3, w_zip, zipK_2, row_l, row_t, w_back, backK_t, neg_i, w_ssetT, tupK_t, w_callI, callK_0, w_mulLD, mulK_l, w_disp, w_din, w_dget, one1_v, w_dlen, w_glue, w_upperD, w_dvals, s_dput, keyV_i, keyV_s, datV_d, strV_s, refOf_r, dctV_r, dct_z, dct_s, xor_tr, xor_fl, seqOf_l, seqOf_t, lst_end, in_l (show min (PyData.depthAll (ws.map PyData.str)) (PyData.str z).depth ≤ 60 by rw [depth_str]; omega), mem_strs]
      have z12 := w.max
      have e0 : (cutS z none (some 8)).length ≤ 8 := by rw [← slen, cut8, List.length_take]; omega
      have e1 : (("q" : Str)).length = 1 := by decide +kernel
      obtain ⟨c, ec, hc⟩ := str_digit i i10
      have e2 : (Str.ofString (toString ((0 : Int) + (i : Int)))).length = 1 := by rw [← slen, ec]; rfl
      obtain ⟨wo, no⟩ := w.other i10
      have h3 : strD [PyData.int (0 + (i : Int))] = some (.str (Str.ofString (toString ((0 : Int) + (i : Int))))) := str_i (by omega)
      by_cases h1 : z ∈ ws
      · rw [if_pos (decide_eq_true h1), if_pos trivial, slice_str (by rw [sizeLine_val]; omega), optK_some, add_s (by rw [sizeLine_val]; omega), optK_some, h3, optK_some, add_s (by rw [sizeLine_val, strLen_append]; omega), optK_some]
        generalize cutS z none (some 8) ++ ("q" : Str) ++ Str.ofString (toString ((0 : Int) + (i : Int))) = y at *
        rw [notin_l (by rw [depth_str]; omega), optK_some, mem_strs, boolK_b]
        by_cases q : y ∈ ws
        · rw [if_neg (by simp [q])]
          exact ⟨ws, _, _, m, is, rfl, fun i h => hi i (List.mem_cons_of_mem _ h), rfl, rfl, nd, ok, by omega, .inl (fun e => by rw [e] at q; exact (nomatch q)), by omega, by omega⟩
        · rw [if_pos (by simp [q])]
          refine ⟨by rw [List.length_map]; omega, ws ++ [y], _, _, m, is, rfl, fun i h => hi i (List.mem_cons_of_mem _ h), rfl, by rw [set_end]; simp, ?_, ?_, by simp; omega, .inl (by simp), by omega, by omega⟩
          · rw [List.nodup_append]
            exact ⟨nd, by simp, fun a ha b hb e => q (by have e1 : b = y := by simpa using hb
                                                         rw [← e1, ← e]; exact ha)⟩
          · intro x hx
            rcases List.mem_append.mp hx with hx | hx
            · exact ok x hx
            · have e1 : x = y := by simpa using hx
              rw [e1]
              exact ⟨wo, no⟩
      rw [if_neg (by simp [h1])]
      by_cases h2 : z = "any"
      · rw [if_pos (beq_iff_eq.mpr h2), slice_str (by rw [sizeLine_val]; omega), optK_some, add_s (by rw [sizeLine_val]; omega), optK_some, h3, optK_some, add_s (by rw [sizeLine_val, strLen_append]; omega), optK_some]
        generalize cutS z none (some 8) ++ ("q" : Str) ++ Str.ofString (toString ((0 : Int) + (i : Int))) = y at *
        rw [notin_l (by rw [depth_str]; omega), optK_some, mem_strs, boolK_b]
        by_cases q : y ∈ ws
        · rw [if_neg (by simp [q])]
          exact ⟨ws, _, _, m, is, rfl, fun i h => hi i (List.mem_cons_of_mem _ h), rfl, rfl, nd, ok, by omega, .inl (fun e => by rw [e] at q; exact (nomatch q)), by omega, by omega⟩
        · rw [if_pos (by simp [q])]
          refine ⟨by rw [List.length_map]; omega, ws ++ [y], _, _, m, is, rfl, fun i h => hi i (List.mem_cons_of_mem _ h), rfl, by rw [set_end]; simp, ?_, ?_, by simp; omega, .inl (by simp), by omega, by omega⟩
          · rw [List.nodup_append]
            exact ⟨nd, by simp, fun a ha b hb e => q (by have e1 : b = y := by simpa using hb
                                                         rw [← e1, ← e]; exact ha)⟩
          · intro x hx
            rcases List.mem_append.mp hx with hx | hx
            · exact ok x hx
            · have e1 : x = y := by simpa using hx
              rw [e1]
              exact ⟨wo, no⟩
      rw [if_neg (by simpa using h2)]
      rw [notin_l (by rw [depth_str]; omega), optK_some, mem_strs, boolK_b]
      by_cases q : z ∈ ws
      · rw [if_neg (by simp [q])]
        exact ⟨ws, _, _, m, is, rfl, fun i h => hi i (List.mem_cons_of_mem _ h), rfl, rfl, nd, ok, by omega, .inl (fun e => by rw [e] at q; exact (nomatch q)), by omega, by omega⟩
      · rw [if_pos (by simp [q])]
        refine ⟨by rw [List.length_map]; omega, ws ++ [z], _, _, m, is, rfl, fun i h => hi i (List.mem_cons_of_mem _ h), rfl, by rw [set_end]; simp, ?_, ?_, by simp; omega, .inl (by simp), by omega, by omega⟩
        · rw [List.nodup_append]
          exact ⟨nd, by simp, fun a ha b hb e => q (by have e1 : b = z := by simpa using hb
                                                       rw [← e1, ← e]; exact ha)⟩
        · intro x hx
          rcases List.mem_append.mp hx with hx | hx
          · exact ok x hx
          · have e1 : x = z := by simpa using hx
            rw [e1]
            exact ⟨w, h2⟩
  · obtain ⟨ws, a, b, n', is, ei, hi, rfl, rfl, nd, ok, l1, l2, l3, l4⟩ := I
    cases is with
    | cons i is => cases ei
    | nil =>
      refine ⟨rfl, ?_⟩
      rw [List.length_nil] at l1 l2 l4
      obtain ⟨ys, ey, p, asc⟩ := sorted_strs nd (by omega)
      simp only [s_nil, s_brk, s_cont, s_seq, s_expr, s_ret, s_retN, s_set, s_setL, s_newL, s_unp, s_par, s_aug, s_six, s_if, s_for, w_var, w_mv2, mvK_d, mvK_r, w_c, w_bin, w_un, w_tst, w_and, w_or, w_not, w_andV, w_orV, w_notV, w_if, w_nil, w_cons, w_tup, w_lst, w_as, w_bc, w_lc, w_call, w_no, w_some, w_slice, w_app, w_ext, w_pop, w_seqD, w_rng1, w_comp, wpR_ok, optK_some, boolK_b, intK_i, oneK_d, oneL_d, twoK_2, sixK_r, rngK_i, rtK_d, peek_d, peek_r, peeks_n, peeks_c, own_r, lst_z, lst_s, Option.map_some, Option.bind_some, Option.join_some, List.getElem?_cons_zero, List.getElem?_cons_succ, List.set_cons_zero, List.set_cons_succ, List.map_cons, List.map_nil, List.cons_append, List.nil_append, List.replicate_succ, List.replicate_zero, Nat.sub_self, datsV_n, datsV_d, wipe_n, wipe_c, setG_n, setG_t, setGs_n, setGs_c, ix_l, ix_t, atI_0, atI_1, atI_2, atI_3, add_i, sub_i, iadd_i, lt_i, le_i, gt_i, ge_i, eq_i, eq_s, len_l, len_t, int_i, abs_i, max_i, tuple_l, tuple_t, sizeLine_val, w_enum, w_isi, w_fmt, w_jnil, w_jcons, w_join, vK_1, strK_s, ne_i, ne_s, s_raise, s_try, wpR_exc, errIx0, errIx1, errIx2, errIx3, errWord0, errWord1, errWord2, errWord3, w_zip, zipK_2, row_l, row_t, w_back, backK_t, neg_i, w_ssetT, tupK_t, w_callI, callK_0, w_mulLD, mulK_l, w_disp, w_din, w_dget, one1_v, w_dlen, w_glue, w_upperD, w_dvals, s_dput, keyV_i, keyV_s, datV_d, strV_s, refOf_r, dctV_r, dct_z, dct_s, xor_tr, xor_fl, seqOf_l, seqOf_t, lst_end, ey, List.length_cons]
      refine ⟨ys, n', rfl, ⟨asc, fun y hy => ?_, fun y hy => ?_⟩, ?_, ?_, l3, by omega, take_end1 _ _ _⟩
      · obtain ⟨w, ne⟩ := ok y (p.mem_iff.mp hy)
        exact w.name ne
      · exact (ok y (p.mem_iff.mp hy)).1.fine
      · intro e
        rw [e] at p
        have := p.nil_eq
        rcases l2 with l2 | l2
        · exact l2 this.symm
        · omega
      · rw [p.length_eq]
        omega
end Pg
end

section
namespace Pg
open PySem PySem.Spec PyProof.Rows L2 Dn
/-! bad words -/
theorem bad_sign {z : Str} {c : Nat} (m : c ∈ z.cps.toList) (h : inS c signsS = false) : nameB z = false := by
  unfold nameB
  split
  · rfl
  · rw [Bool.eq_false_iff]
    intro q
    rw [List.all_eq_true.mp q c m] at h
    cases h
theorem bad_first {z : Str} {c : Nat} {r : List Nat} (e : z.cps.toList = c :: r) (h : inS c firstS = false) : nameB z = false := by
  unfold nameB
  rw [if_pos]
  rw [e]
  exact .inr (.inr (.inr (by simp [h])))
theorem cutN (z : Str) (m : Nat) : (cutS z none (some (m : Int))).cps.toList = z.cps.toList.take m := by
  unfold cutS
  rw [HT.sIx_none, HT.sIx_nat, List.drop_zero, Nat.sub_zero, ← slen, ← List.take_take, List.take_length]
theorem slice_strN {z : Str} {h : Hl} {i : Int} (l : z.length ≤ sizeLine) : slV (.dat (.str z)) none (some i) h = some (.str (cutS z none (some i))) := by
  show (some (PyData.str z)).bind (slD none (some i)) = _
  show (if z.length ≤ sizeLine then some (PyData.str (cutS z none (some i))) else none) = _
  rw [if_pos l]
theorem cut_len (z : Str) (m : Nat) : (cutS z none (some (m : Int))).length ≤ m := by
  rw [← slen, cutN, List.length_take]
  omega
theorem flat_one (f : Nat → List Nat) : ∀ xs : List Nat, ((xs.mapIdx fun i c => (f c).toArray).map Array.toList).flatten = (xs.map f).flatten := by
  intro xs
  congr 1
  refine List.ext_getElem? fun i => ?_
  simp
  cases xs[i]? <;> rfl
theorem upper_cps (z : Str) : (Txt.upper z).cps.toList = (z.cps.toList.map Unicode.upperOf).flatten := by
  rw [← flat_one]
  show ((z.cps.mapIdx fun i c => (Unicode.upperOf c).toArray).flatten).toList = _
  rw [Array.toList_flatten, Array.toList_mapIdx]
theorem up_sign : ∀ c ∈ signsS.cps.toList, ((Unicode.upperOf c).length = 1 ∧ ∀ d ∈ Unicode.upperOf c, d < 16 ^ 8) := by decide +kernel
theorem up_first : ∀ c ∈ firstS.cps.toList, ∃ d, Unicode.upperOf c = [d] ∧ inS d firstS = false := by
  intro c hc
  have : ∀ c ∈ firstS.cps.toList, Unicode.upperOf c = [c - 32] ∧ inS (c - 32) firstS = false := by decide +kernel
  exact ⟨_, this c hc⟩
structure BadW (z : Str) : Prop where
  no : nameB z = false
  fine : strFine z
theorem small_app {a b : Str} (ha : ∀ c ∈ a.cps.toList, c < 16 ^ 8) (hb : ∀ c ∈ b.cps.toList, c < 16 ^ 8) : ∀ c ∈ (a ++ b).cps.toList, c < 16 ^ 8 := fun c h => by
  rw [cps_app] at h
  exact (List.mem_append.mp h).elim (ha c) (hb c)
theorem Wd.cut {z : Str} (w : Wd z) (m : Nat) : ∀ c ∈ (cutS z none (some (m : Int))).cps.toList, c < 16 ^ 8 := fun c h => by
  rw [cutN] at h
  exact w.fine.2 c (List.mem_of_mem_take h)
theorem bad_app {a b : Str} {c : Nat} (w : ∀ c ∈ a.cps.toList, c < 16 ^ 8) (l : a.length + b.length ≤ 200) (hb : ∀ c ∈ b.cps.toList, c < 16 ^ 8) (m : c ∈ b.cps.toList) (h : inS c signsS = false) : BadW (a ++ b) :=
  ⟨bad_sign (c := c) (by rw [cps_app]; exact List.mem_append_right _ m) h, by rw [strLen_append]; exact l, small_app w hb⟩
theorem bad_up {z : Str} (w : Wd z) (m : Nat) (hm : 0 < m) (h2 : m ≤ 12) : BadW (Txt.upper (cutS z none (some (m : Int)))) ∧ (Txt.upper (cutS z none (some (m : Int)))).length ≤ 12 := by
  obtain ⟨c, r, e, hc⟩ := w.first
  obtain ⟨m, rfl⟩ : ∃ j, m = j + 1 := ⟨m - 1, by omega⟩
  have e1 : (Txt.upper (cutS z none (some ((m + 1 : Nat) : Int)))).cps.toList = (((c :: r).take (m + 1)).map Unicode.upperOf).flatten := by rw [upper_cps, cutN, e]
  obtain ⟨d, ed, hd⟩ := up_first c (of_decide_eq_true hc)
  have sg : ∀ x ∈ (c :: r).take (m + 1), x ∈ signsS.cps.toList := fun x hx => of_decide_eq_true (w.signs x (by rw [e]; exact List.mem_of_mem_take hx))
  have l : (Txt.upper (cutS z none (some ((m + 1 : Nat) : Int)))).length ≤ 12 := by
    rw [← slen, e1]
    have : ∀ xs : List Nat, (∀ x ∈ xs, x ∈ signsS.cps.toList) → ((xs.map Unicode.upperOf).flatten).length = xs.length := by
      intro xs
      induction xs with
      | nil => intro _; rfl
      | cons y ys ih => intro hy; rw [List.map_cons, List.flatten_cons, List.length_append, (up_sign y (hy y (List.mem_cons_self ..))).1, ih fun x hx => hy x (List.mem_cons_of_mem _ hx), List.length_cons]; omega
    rw [this _ sg, List.length_take]
    omega
  refine ⟨⟨bad_first (c := d) (r := (r.take m).map Unicode.upperOf |>.flatten) (by rw [e1, List.take_succ_cons, List.map_cons, List.flatten_cons, ed]; rfl) hd, by omega, fun x hx => ?_⟩, l⟩
  rw [e1] at hx
  obtain ⟨l1, h1, h2⟩ := List.mem_flatten.mp hx
  obtain ⟨y, hy, rfl⟩ := List.mem_map.mp h1
  exact (up_sign y (sg y hy)).2 x h2
theorem bad_spec {k : Nat} {s : List Int} {n : Int} {hs : Hl} (S : Sk s n 15) (hk : 3 ≤ k) : wpR (callD prog k i__law_bad_word [.ref 0] (st s n :: hs)) (fun v h => ∃ z n', v = .dat (.str z) ∧ BadW z ∧ n ≤ n' ∧ n' ≤ n + 15 ∧ h = st s n' :: hs) noX := by
  obtain ⟨k, rfl⟩ : ∃ i, k = i + 1 := ⟨k - 1, by omega⟩
  rw [call_at (r := r__law_bad_word) rfl]
  rw [show r__law_bad_word.body = D__law_bad_word from rfl]
  generalize eB__law_bad_word : D__law_bad_word (callD prog k) = B__law_bad_word
  refine fn_rule rfl ?_
  subst eB__law_bad_word
  show wpS (D__law_bad_word (callD prog k) [some (.ref 0), none, none] (st s n :: hs)) _ _
  simp only [D__law_bad_word, s_nil, s_brk, s_cont, s_seq, s_expr, s_ret, s_retN, s_set, s_setL, s_newL, s_unp, s_par, s_aug, s_six, s_if, s_for, w_var, w_mv2, mvK_d, mvK_r, w_c, w_bin, w_un, w_tst, w_and, w_or, w_not, w_andV, w_orV, w_notV, w_if, w_nil, w_cons, w_tup, w_lst, w_as, w_bc, w_lc, w_call, w_no, w_some, w_slice, w_app, w_ext, w_pop, w_seqD, w_rng1, w_comp, wpR_ok, optK_some, boolK_b, intK_i, oneK_d, oneL_d, twoK_2, sixK_r, rngK_i, rtK_d, peek_d, peek_r, peeks_n, peeks_c, own_r, lst_z, lst_s, Option.map_some, Option.bind_some, Option.join_some, List.getElem?_cons_zero, List.getElem?_cons_succ, List.set_cons_zero, List.set_cons_succ, List.map_cons, List.map_nil, List.cons_append, List.nil_append, List.replicate_succ, List.replicate_zero, Nat.sub_self, datsV_n, datsV_d, wipe_n, wipe_c, setG_n, setG_t, setGs_n, setGs_c, ix_l, ix_t, atI_0, atI_1, atI_2, atI_3, add_i, sub_i, iadd_i, lt_i, le_i, gt_i, ge_i, eq_i, eq_s, len_l, len_t, int_i, abs_i, max_i, tuple_l, tuple_t, sizeLine_val, w_enum, w_isi, w_fmt, w_jnil, w_jcons, w_join, vK_1, strK_s, ne_i, ne_s, s_raise, s_try, wpR_exc, errIx0, errIx1, errIx2, errIx3, errWord0, errWord1, errWord2, errWord3, w_zip, zipK_2, row_l, row_t, w_back, backK_t, neg_i, w_ssetT, tupK_t, w_callI, callK_0, w_mulLD, mulK_l, w_disp, w_din, w_dget, one1_v, w_dlen, w_glue, w_upperD, w_dvals, s_dput, keyV_i, keyV_s, datV_d, strV_s, refOf_r, dctV_r, dct_z, dct_s, xor_tr, xor_fl, seqOf_l, seqOf_t, List.length_nil, List.length_cons, Nat.reduceAdd, Nat.reduceLeDiff, true_and, and_true, if_true, if_false, Bool.not_true, Bool.not_false, Bool.false_eq_true]
  refine wpR_imp (word_spec (S.less (by omega) (by omega)) (by omega)) fun v h => ?_
  rintro ⟨z, n', rfl, w, l1, l2, rfl⟩
  have wm := w.max
  have c3 := cut_len z 3
  have c4 := cut_len z 4
  have c5 := cut_len z 5
  obtain ⟨u1, u2⟩ := bad_up w 4 (by omega) (by omega)
  have hz : z.length ≤ sizeLine := by rw [sizeLine_val]; omega
  have t1 : ("7" : Str).length = 1 ∧ ("_" : Str).length = 1 ∧ (" b" : Str).length = 2 ∧ ("." : Str).length = 1 ∧ ("E" : Str).length = 1 := by decide +kernel
  obtain ⟨p7, p_, pb, pd, pE⟩ := t1
  have a1 := add_s (a := "7") (b := cutS z none (some (5 : Int))) (by rw [sizeLine_val, p7]; have : (cutS z none (some (5 : Int))).length ≤ 5 := c5; omega)
  have a2 := add_s (a := cutS z none (some (4 : Int))) (b := "_") (by rw [sizeLine_val, p_]; have : (cutS z none (some (4 : Int))).length ≤ 4 := c4; omega)
  have a3 := add_s (a := cutS z none (some (3 : Int))) (b := " b") (by rw [sizeLine_val, pb]; have : (cutS z none (some (3 : Int))).length ≤ 3 := c3; omega)
  have a4 := add_s (a := cutS z none (some (3 : Int))) (b := ".") (by rw [sizeLine_val, pd]; have : (cutS z none (some (3 : Int))).length ≤ 3 := c3; omega)
  have a5 := add_s (a := cutS z none (some (5 : Int))) (b := "E") (by rw [sizeLine_val, pE]; have : (cutS z none (some (5 : Int))).length ≤ 5 := c5; omega)
  have q : (cutS z none (some (4 : Int))).length ≤ 4 := c4
  simp only [slice_strN hz, optK_some, strV_s, a1, a2, a3, a4, a5]
  refine ⟨by have : (cutS z none (some (4 : Int))).length ≤ 4 := c4; omega, ?_⟩
  refine wpR_imp ((S.less (n' := n') (m' := 1) (by omega) (by omega)).next (by decide) (by decide) (by omega)) fun v h => ?_
  rintro ⟨x, rfl, x0, x1, rfl⟩
  have sm7 : ∀ c ∈ ("7" : Str).cps.toList, c < 16 ^ 8 := by decide +kernel
  have b0 : BadW ("7" ++ cutS z none (some (5 : Int))) := by
    obtain ⟨r, er⟩ : ∃ r, ("7" : Str).cps.toList = 55 :: r := ⟨[], by decide +kernel⟩
    refine ⟨bad_first (c := 55) (r := r ++ (cutS z none (some (5 : Int))).cps.toList) (by rw [cps_app, er]; rfl) (by decide +kernel), ?_, small_app sm7 (w.cut 5)⟩
    rw [strLen_append, p7]
    have : (cutS z none (some (5 : Int))).length ≤ 5 := c5
    omega
  have b2 : BadW (cutS z none (some (4 : Int)) ++ "_") := bad_app (c := 95) (w.cut 4) (by rw [p_]; omega) (by decide +kernel) (by decide +kernel) (by decide +kernel)
  have b3 : BadW (cutS z none (some (3 : Int)) ++ " b") := bad_app (c := 32) (w.cut 3) (by rw [pb]; have : (cutS z none (some (3 : Int))).length ≤ 3 := c3; omega) (by decide +kernel) (by decide +kernel) (by decide +kernel)
  have b4 : BadW (cutS z none (some (3 : Int)) ++ ".") := bad_app (c := 46) (w.cut 3) (by rw [pd]; have : (cutS z none (some (3 : Int))).length ≤ 3 := c3; omega) (by decide +kernel) (by decide +kernel) (by decide +kernel)
  have b5 : BadW (cutS z none (some (5 : Int)) ++ "E") := bad_app (c := 69) (w.cut 5) (by rw [pE]; have : (cutS z none (some (5 : Int))).length ≤ 5 := c5; omega) (by decide +kernel) (by decide +kernel) (by decide +kernel)
  have e0 : BadW "" := ⟨by decide +kernel, by decide +kernel, by decide +kernel⟩
  have e1 : BadW "any" := ⟨by decide +kernel, by decide +kernel, by decide +kernel⟩
  have e2 : BadW "abcdefghijklm" := ⟨by decide +kernel, by decide +kernel, by decide +kernel⟩
  have e8 : BadW "a-b" := ⟨by decide +kernel, by decide +kernel, by decide +kernel⟩
  simp only [s_nil, s_brk, s_cont, s_seq, s_expr, s_ret, s_retN, s_set, s_setL, s_newL, s_unp, s_par, s_aug, s_six, s_if, s_for, w_var, w_mv2, mvK_d, mvK_r, w_c, w_bin, w_un, w_tst, w_and, w_or, w_not, w_andV, w_orV, w_notV, w_if, w_nil, w_cons, w_tup, w_lst, w_as, w_bc, w_lc, w_call, w_no, w_some, w_slice, w_app, w_ext, w_pop, w_seqD, w_rng1, w_comp, wpR_ok, optK_some, boolK_b, intK_i, oneK_d, oneL_d, twoK_2, sixK_r, rngK_i, rtK_d, peek_d, peek_r, peeks_n, peeks_c, own_r, lst_z, lst_s, Option.map_some, Option.bind_some, Option.join_some, List.getElem?_cons_zero, List.getElem?_cons_succ, List.set_cons_zero, List.set_cons_succ, List.map_cons, List.map_nil, List.cons_append, List.nil_append, List.replicate_succ, List.replicate_zero, Nat.sub_self, datsV_n, datsV_d, wipe_n, wipe_c, setG_n, setG_t, setGs_n, setGs_c, ix_l, ix_t, atI_0, atI_1, atI_2, atI_3, add_i, sub_i, iadd_i, lt_i, le_i, gt_i, ge_i, eq_i, eq_s, len_l, len_t, int_i, abs_i, max_i, tuple_l, tuple_t, sizeLine_val, w_enum, w_isi, w_fmt, w_jnil, w_jcons, w_join, vK_1, strK_s, ne_i, ne_s, s_raise, s_try, wpR_exc, errIx0, errIx1, errIx2, errIx3, errWord0, errWord1, errWord2, errWord3, w_zip, zipK_2, row_l, row_t, w_back, backK_t, neg_i, w_ssetT, tupK_t, w_callI, callK_0, w_mulLD, mulK_l, w_disp, w_din, w_dget, one1_v, w_dlen, w_glue, w_upperD, w_dvals, s_dput, keyV_i, keyV_s, datV_d, strV_s, refOf_r, dctV_r, dct_z, dct_s, xor_tr, xor_fl, seqOf_l, seqOf_t, List.length_nil, List.length_cons, Nat.reduceAdd, Nat.reduceLeDiff, true_and, and_true, if_true, if_false, Bool.not_true, Bool.not_false, Bool.false_eq_true]
  have fin : ∃ y, ixD (.list [.str "", .str "any", .str "abcdefghijklm", .str ("7" ++ cutS z none (some (5 : Int))), .str (Txt.upper (cutS z none (some (4 : Int)))), .str (cutS z none (some (4 : Int)) ++ "_"), .str (cutS z none (some (3 : Int)) ++ " b"), .str (cutS z none (some (3 : Int)) ++ "."), .str "a-b", .str (cutS z none (some (5 : Int)) ++ "E")]) (.int x) = some (.str y) ∧ BadW y := by
    rw [ix_l]
    have : x = 0 ∨ x = 1 ∨ x = 2 ∨ x = 3 ∨ x = 4 ∨ x = 5 ∨ x = 6 ∨ x = 7 ∨ x = 8 ∨ x = 9 := by omega
    rcases this with rfl | rfl | rfl | rfl | rfl | rfl | rfl | rfl | rfl | rfl
    · exact ⟨_, rfl, e0⟩
    · exact ⟨_, rfl, e1⟩
    · exact ⟨_, rfl, e2⟩
    · exact ⟨_, rfl, b0⟩
    · exact ⟨_, rfl, u1⟩
    · exact ⟨_, rfl, b2⟩
    · exact ⟨_, rfl, b3⟩
    · exact ⟨_, rfl, b4⟩
    · exact ⟨_, rfl, e8⟩
    · exact ⟨_, rfl, b5⟩
  obtain ⟨y, ey, by_⟩ := fin
  rw [← ix_l, ey, optK_some]
  exact ⟨y, n' + 1, rfl, by_, by omega, by omega, List.take_of_length_le (by simp)⟩
end Pg
end

section
namespace Pg
open PySem PySem.Spec PyProof.Rows L2 Dn
/-! is_name for good and bad texts -/
theorem name_at {k : Nat} {z : Str} {h : Hl} (hk : 1 ≤ k) (hz : z.length ≤ 1000) : callD prog k i_is_name [.dat (.str z)] h = .ok (.dat (.bool (nameB z))) h := by
  obtain ⟨k, rfl⟩ : ∃ i, k = i + 1 := ⟨k - 1, by omega⟩
  exact is_name_spec (by rw [sizeLine_val]; omega)
theorem names_spec {k : Nat} {s : List Int} {n : Int} {hs : Hl} (S : Sk s n 30) (hk : 5 ≤ k) : wpR (callD prog k i__law_names [.ref 0] (st s n :: hs)) (fun v h => v = .dat (.bool true) ∧ ∃ n', n ≤ n' ∧ n' ≤ n + 30 ∧ h = st s n' :: hs) noX := by
  obtain ⟨k, rfl⟩ : ∃ i, k = i + 1 := ⟨k - 1, by omega⟩
  rw [call_at (r := r__law_names) rfl]
  rw [show r__law_names.body = D__law_names from rfl]
  generalize eB__law_names : D__law_names (callD prog k) = B__law_names
  refine fn_rule rfl ?_
  subst eB__law_names
  show wpS (D__law_names (callD prog k) [some (.ref 0), none, none] (st s n :: hs)) _ _
  simp only [D__law_names, s_nil, s_brk, s_cont, s_seq, s_expr, s_ret, s_retN, s_set, s_setL, s_newL, s_unp, s_par, s_aug, s_six, s_if, s_for, w_var, w_mv2, mvK_d, mvK_r, w_c, w_bin, w_un, w_tst, w_and, w_or, w_not, w_andV, w_orV, w_notV, w_if, w_nil, w_cons, w_tup, w_lst, w_as, w_bc, w_lc, w_call, w_no, w_some, w_slice, w_app, w_ext, w_pop, w_seqD, w_rng1, w_comp, wpR_ok, optK_some, boolK_b, intK_i, oneK_d, oneL_d, twoK_2, sixK_r, rngK_i, rtK_d, peek_d, peek_r, peeks_n, peeks_c, own_r, lst_z, lst_s, Option.map_some, Option.bind_some, Option.join_some, List.getElem?_cons_zero, List.getElem?_cons_succ, List.set_cons_zero, List.set_cons_succ, List.map_cons, List.map_nil, List.cons_append, List.nil_append, List.replicate_succ, List.replicate_zero, Nat.sub_self, datsV_n, datsV_d, wipe_n, wipe_c, setG_n, setG_t, setGs_n, setGs_c, ix_l, ix_t, atI_0, atI_1, atI_2, atI_3, add_i, sub_i, iadd_i, lt_i, le_i, gt_i, ge_i, eq_i, eq_s, len_l, len_t, int_i, abs_i, max_i, tuple_l, tuple_t, sizeLine_val, w_enum, w_isi, w_fmt, w_jnil, w_jcons, w_join, vK_1, strK_s, ne_i, ne_s, s_raise, s_try, wpR_exc, errIx0, errIx1, errIx2, errIx3, errWord0, errWord1, errWord2, errWord3, w_zip, zipK_2, row_l, row_t, w_back, backK_t, neg_i, w_ssetT, tupK_t, w_callI, callK_0, w_mulLD, mulK_l, w_disp, w_din, w_dget, one1_v, w_dlen, w_glue, w_upperD, w_dvals, s_dput, keyV_i, keyV_s, datV_d, strV_s, refOf_r, dctV_r, dct_z, dct_s, xor_tr, xor_fl, seqOf_l, seqOf_t, List.length_nil, List.length_cons, Nat.reduceAdd, Nat.reduceLeDiff, true_and, and_true, if_true, if_false, Bool.not_true, Bool.not_false, Bool.false_eq_true]
  refine wpR_imp (word_spec (S.less (by omega) (by omega)) (by omega)) fun v h => ?_
  rintro ⟨z, n', rfl, w, l1, l2, rfl⟩
  have wm := w.max
  rw [peek_d, optK_some, eq_s, optK_some, boolK_b]
  by_cases q : z = "any"
  · rw [if_pos (by rw [q]; decide +kernel)]
    rw [name_at (by omega) (by decide +kernel), show nameB "anyy" = true by decide +kernel, wpR_ok]
    refine wpR_imp (bad_spec (S.less (n' := n') (m' := 15) (by omega) (by omega)) (by omega)) fun v h => ?_
    rintro ⟨y, n2, rfl, b, m1, m2, rfl⟩
    have bl := b.fine.1
    rw [name_at (by omega) (by omega), b.no, wpR_ok]
    rw [name_at (by omega) (by decide +kernel), show nameB "abcdefghijkl" = true by decide +kernel, wpR_ok]
    rw [name_at (by omega) (by decide +kernel), show nameB "z" = true by decide +kernel, wpR_ok]
    rw [name_at (by omega) (by decide +kernel), show nameB "any1" = true by decide +kernel, wpR_ok]
    rw [name_at (by omega) (by decide +kernel), show nameB "Any" = false by decide +kernel, wpR_ok]
    simp only [s_nil, s_brk, s_cont, s_seq, s_expr, s_ret, s_retN, s_set, s_setL, s_newL, s_unp, s_par, s_aug, s_six, s_if, s_for, w_var, w_mv2, mvK_d, mvK_r, w_c, w_bin, w_un, w_tst, w_and, w_or, w_not, w_andV, w_orV, w_notV, w_if, w_nil, w_cons, w_tup, w_lst, w_as, w_bc, w_lc, w_call, w_no, w_some, w_slice, w_app, w_ext, w_pop, w_seqD, w_rng1, w_comp, wpR_ok, optK_some, boolK_b, intK_i, oneK_d, oneL_d, twoK_2, sixK_r, rngK_i, rtK_d, peek_d, peek_r, peeks_n, peeks_c, own_r, lst_z, lst_s, Option.map_some, Option.bind_some, Option.join_some, List.getElem?_cons_zero, List.getElem?_cons_succ, List.set_cons_zero, List.set_cons_succ, List.map_cons, List.map_nil, List.cons_append, List.nil_append, List.replicate_succ, List.replicate_zero, Nat.sub_self, datsV_n, datsV_d, wipe_n, wipe_c, setG_n, setG_t, setGs_n, setGs_c, ix_l, ix_t, atI_0, atI_1, atI_2, atI_3, add_i, sub_i, iadd_i, lt_i, le_i, gt_i, ge_i, eq_i, eq_s, len_l, len_t, int_i, abs_i, max_i, tuple_l, tuple_t, sizeLine_val, w_enum, w_isi, w_fmt, w_jnil, w_jcons, w_join, vK_1, strK_s, ne_i, ne_s, s_raise, s_try, wpR_exc, errIx0, errIx1, errIx2, errIx3, errWord0, errWord1, errWord2, errWord3, w_zip, zipK_2, row_l, row_t, w_back, backK_t, neg_i, w_ssetT, tupK_t, w_callI, callK_0, w_mulLD, mulK_l, w_disp, w_din, w_dget, one1_v, w_dlen, w_glue, w_upperD, w_dvals, s_dput, keyV_i, keyV_s, datV_d, strV_s, refOf_r, dctV_r, dct_z, dct_s, xor_tr, xor_fl, seqOf_l, seqOf_t, List.length_nil, List.length_cons, Nat.reduceAdd, Nat.reduceLeDiff, true_and, and_true, if_true, if_false, Bool.not_true, Bool.not_false, Bool.false_eq_true]
    rw [same_spec (by omega) (by decide) (by simp [strOk, strOkAll]) (by simp [wt, wtAll]) (by simp [PyData.depth, PyData.depthAll])]
    simp only [s_nil, s_brk, s_cont, s_seq, s_expr, s_ret, s_retN, s_set, s_setL, s_newL, s_unp, s_par, s_aug, s_six, s_if, s_for, w_var, w_mv2, mvK_d, mvK_r, w_c, w_bin, w_un, w_tst, w_and, w_or, w_not, w_andV, w_orV, w_notV, w_if, w_nil, w_cons, w_tup, w_lst, w_as, w_bc, w_lc, w_call, w_no, w_some, w_slice, w_app, w_ext, w_pop, w_seqD, w_rng1, w_comp, wpR_ok, optK_some, boolK_b, intK_i, oneK_d, oneL_d, twoK_2, sixK_r, rngK_i, rtK_d, peek_d, peek_r, peeks_n, peeks_c, own_r, lst_z, lst_s, Option.map_some, Option.bind_some, Option.join_some, List.getElem?_cons_zero, List.getElem?_cons_succ, List.set_cons_zero, List.set_cons_succ, List.map_cons, List.map_nil, List.cons_append, List.nil_append, List.replicate_succ, List.replicate_zero, Nat.sub_self, datsV_n, datsV_d, wipe_n, wipe_c, setG_n, setG_t, setGs_n, setGs_c, ix_l, ix_t, atI_0, atI_1, atI_2, atI_3, add_i, sub_i, iadd_i, lt_i, le_i, gt_i, ge_i, eq_i, eq_s, len_l, len_t, int_i, abs_i, max_i, tuple_l, tuple_t, sizeLine_val, w_enum, w_isi, w_fmt, w_jnil, w_jcons, w_join, vK_1, strK_s, ne_i, ne_s, s_raise, s_try, wpR_exc, errIx0, errIx1, errIx2, errIx3, errWord0, errWord1, errWord2, errWord3, w_zip, zipK_2, row_l, row_t, w_back, backK_t, neg_i, w_ssetT, tupK_t, w_callI, callK_0, w_mulLD, mulK_l, w_disp, w_din, w_dget, one1_v, w_dlen, w_glue, w_upperD, w_dvals, s_dput, keyV_i, keyV_s, datV_d, strV_s, refOf_r, dctV_r, dct_z, dct_s, xor_tr, xor_fl, seqOf_l, seqOf_t, List.length_nil, List.length_cons, Nat.reduceAdd, Nat.reduceLeDiff, true_and, and_true, if_true, if_false, Bool.not_true, Bool.not_false, Bool.false_eq_true]
    exact ⟨n2, by omega, by omega, List.take_of_length_le (by simp)⟩
  · rw [if_neg (by simpa using q)]
    rw [name_at (by omega) (by omega), w.name q, wpR_ok]
    refine wpR_imp (bad_spec (S.less (n' := n') (m' := 15) (by omega) (by omega)) (by omega)) fun v h => ?_
    rintro ⟨y, n2, rfl, b, m1, m2, rfl⟩
    have bl := b.fine.1
    rw [name_at (by omega) (by omega), b.no, wpR_ok]
    rw [name_at (by omega) (by decide +kernel), show nameB "abcdefghijkl" = true by decide +kernel, wpR_ok]
    rw [name_at (by omega) (by decide +kernel), show nameB "z" = true by decide +kernel, wpR_ok]
    rw [name_at (by omega) (by decide +kernel), show nameB "any1" = true by decide +kernel, wpR_ok]
    rw [name_at (by omega) (by decide +kernel), show nameB "Any" = false by decide +kernel, wpR_ok]
    simp only [s_nil, s_brk, s_cont, s_seq, s_expr, s_ret, s_retN, s_set, s_setL, s_newL, s_unp, s_par, s_aug, s_six, s_if, s_for, w_var, w_mv2, mvK_d, mvK_r, w_c, w_bin, w_un, w_tst, w_and, w_or, w_not, w_andV, w_orV, w_notV, w_if, w_nil, w_cons, w_tup, w_lst, w_as, w_bc, w_lc, w_call, w_no, w_some, w_slice, w_app, w_ext, w_pop, w_seqD, w_rng1, w_comp, wpR_ok, optK_some, boolK_b, intK_i, oneK_d, oneL_d, twoK_2, sixK_r, rngK_i, rtK_d, peek_d, peek_r, peeks_n, peeks_c, own_r, lst_z, lst_s, Option.map_some, Option.bind_some, Option.join_some, List.getElem?_cons_zero, List.getElem?_cons_succ, List.set_cons_zero, List.set_cons_succ, List.map_cons, List.map_nil, List.cons_append, List.nil_append, List.replicate_succ, List.replicate_zero, Nat.sub_self, datsV_n, datsV_d, wipe_n, wipe_c, setG_n, setG_t, setGs_n, setGs_c, ix_l, ix_t, atI_0, atI_1, atI_2, atI_3, add_i, sub_i, iadd_i, lt_i, le_i, gt_i, ge_i, eq_i, eq_s, len_l, len_t, int_i, abs_i, max_i, tuple_l, tuple_t, sizeLine_val, w_enum, w_isi, w_fmt, w_jnil, w_jcons, w_join, vK_1, strK_s, ne_i, ne_s, s_raise, s_try, wpR_exc, errIx0, errIx1, errIx2, errIx3, errWord0, errWord1, errWord2, errWord3, w_zip, zipK_2, row_l, row_t, w_back, backK_t, neg_i, w_ssetT, tupK_t, w_callI, callK_0, w_mulLD, mulK_l, w_disp, w_din, w_dget, one1_v, w_dlen, w_glue, w_upperD, w_dvals, s_dput, keyV_i, keyV_s, datV_d, strV_s, refOf_r, dctV_r, dct_z, dct_s, xor_tr, xor_fl, seqOf_l, seqOf_t, List.length_nil, List.length_cons, Nat.reduceAdd, Nat.reduceLeDiff, true_and, and_true, if_true, if_false, Bool.not_true, Bool.not_false, Bool.false_eq_true]
    rw [same_spec (by omega) (by decide) (by simp [strOk, strOkAll]) (by simp [wt, wtAll]) (by simp [PyData.depth, PyData.depthAll])]
    simp only [s_nil, s_brk, s_cont, s_seq, s_expr, s_ret, s_retN, s_set, s_setL, s_newL, s_unp, s_par, s_aug, s_six, s_if, s_for, w_var, w_mv2, mvK_d, mvK_r, w_c, w_bin, w_un, w_tst, w_and, w_or, w_not, w_andV, w_orV, w_notV, w_if, w_nil, w_cons, w_tup, w_lst, w_as, w_bc, w_lc, w_call, w_no, w_some, w_slice, w_app, w_ext, w_pop, w_seqD, w_rng1, w_comp, wpR_ok, optK_some, boolK_b, intK_i, oneK_d, oneL_d, twoK_2, sixK_r, rngK_i, rtK_d, peek_d, peek_r, peeks_n, peeks_c, own_r, lst_z, lst_s, Option.map_some, Option.bind_some, Option.join_some, List.getElem?_cons_zero, List.getElem?_cons_succ, List.set_cons_zero, List.set_cons_succ, List.map_cons, List.map_nil, List.cons_append, List.nil_append, List.replicate_succ, List.replicate_zero, Nat.sub_self, datsV_n, datsV_d, wipe_n, wipe_c, setG_n, setG_t, setGs_n, setGs_c, ix_l, ix_t, atI_0, atI_1, atI_2, atI_3, add_i, sub_i, iadd_i, lt_i, le_i, gt_i, ge_i, eq_i, eq_s, len_l, len_t, int_i, abs_i, max_i, tuple_l, tuple_t, sizeLine_val, w_enum, w_isi, w_fmt, w_jnil, w_jcons, w_join, vK_1, strK_s, ne_i, ne_s, s_raise, s_try, wpR_exc, errIx0, errIx1, errIx2, errIx3, errWord0, errWord1, errWord2, errWord3, w_zip, zipK_2, row_l, row_t, w_back, backK_t, neg_i, w_ssetT, tupK_t, w_callI, callK_0, w_mulLD, mulK_l, w_disp, w_din, w_dget, one1_v, w_dlen, w_glue, w_upperD, w_dvals, s_dput, keyV_i, keyV_s, datV_d, strV_s, refOf_r, dctV_r, dct_z, dct_s, xor_tr, xor_fl, seqOf_l, seqOf_t, List.length_nil, List.length_cons, Nat.reduceAdd, Nat.reduceLeDiff, true_and, and_true, if_true, if_false, Bool.not_true, Bool.not_false, Bool.false_eq_true]
    exact ⟨n2, by omega, by omega, List.take_of_length_le (by simp)⟩
end Pg
end

section
namespace Pg
open PySem PySem.Spec PyProof.Rows L2 Dn
/-- a concept within bounds -/
structure Ok (c : Con) (sz dp : Nat) : Prop where
  size : c.size ≤ sz
  deep : c.deep ≤ dp
  fine : fine c
  wf : wfB c = true
theorem Ok.good {c : Con} {sz dp : Nat} (o : Ok c sz dp) (h1 : sz ≤ 200) (h2 : dp ≤ 12) : Good c := ⟨by have := o.size; omega, by have := o.deep; omega, o.fine, o.wf⟩
theorem lks_of {b d : Nat} : ∀ {ys : List (Str × Con)}, (∀ p ∈ ys, nameB p.1 = true ∧ strFine p.1 ∧ Ok p.2 b d) → (Lks.of ys).size ≤ ys.length * (1 + b) ∧ (Lks.of ys).deep ≤ d + 1 ∧ fineL (Lks.of ys) ∧ wfL (Lks.of ys) = true
  | [], _ => by
    rw [Lks.of, Lks.size, Lks.deep, fineL, wfL]
    exact ⟨Nat.zero_le _, Nat.zero_le _, trivial, rfl⟩
  | (r, c) :: ys, h => by
    obtain ⟨a1, a2, a3, a4⟩ := lks_of fun p hp => h p (List.mem_cons_of_mem _ hp)
    obtain ⟨n1, n2, o⟩ := h (r, c) (List.mem_cons_self ..)
    have od : c.deep ≤ d := o.deep
    have n1' : nameB r = true := n1
    have o4 : wfB c = true := o.wf
    rw [Lks.of, Lks.size, Lks.deep, fineL, wfL, List.length_cons, n1', o4, a4]
    refine ⟨?_, by omega, ⟨n2, o.fine, a3⟩, rfl⟩
    rw [Nat.succ_mul]
    have : c.size ≤ b := o.size
    omega
theorem con_ok {W xs : List Str} {ys : List (Str × Con)} {b d sz dp : Nat} (w : Wds W) (sub : xs.Sublist W) (hy : ∀ p ∈ ys, nameB p.1 = true ∧ strFine p.1 ∧ Ok p.2 b d) (asc : (ys.map lkD).Pairwise lessD)
    (h1 : xs.length + ys.length * (1 + b) ≤ sz) (h2 : ys = [] ∨ d + 1 ≤ dp) : Ok (.mk xs (Lks.of ys)) sz dp := by
  obtain ⟨a1, a2, a3, a4⟩ := lks_of hy
  refine ⟨by rw [Con.size]; omega, ?_, ?_, ?_⟩
  · rw [Con.deep]
    rcases h2 with rfl | h2
    · rw [Lks.of, Lks.deep]
      omega
    · omega
  · rw [Dn.fine]
    exact ⟨fun n hn => w.fine n (sub.subset hn), a3⟩
  · rw [wfB, a4, risB_of (w.asc.sublist (sub.map _)), Lks.data_list, Lks.list_of, risB_of asc, List.all_eq_true.mpr fun n hn => w.name n (sub.subset hn)]
    rfl
theorem mk_data (xs : List Str) (ys : List (Str × Con)) : (Con.mk xs (Lks.of ys)).data = .tuple [.tuple (xs.map .str), .tuple (ys.map lkD)] := by
  rw [Con.data, Lks.data_list, Lks.list_of]
theorem lkD_depth (p : Str × Con) : (lkD p).depth ≤ 3 * p.2.deep + 3 := by
  have := Con.depth_le p.2
  unfold lkD
  rw [PyData.depth, PyData.depthAll, PyData.depthAll, PyData.depthAll, depth_str]
  omega
theorem any_lks {p : Str × Con} {ps : List (Str × Con)} : ((ps.map lkD).any fun y => PyData.eqv y (lkD p)) = true ↔ p ∈ ps := by
  rw [List.any_map, List.any_eq_true]
  refine ⟨fun ⟨x, hx, e⟩ => ?_, fun h => ⟨p, h, (lkD_eqv p p).mpr rfl⟩⟩
  have e' := (lkD_eqv x p).mp e
  exact e' ▸ hx
theorem sorted_lksS {ps : List (Str × Con)} (hn : ps.Nodup) (hl : ps.length ≤ 16777216) (hd : ∀ p ∈ ps, p.2.deep ≤ 18) : ∃ ys : List (Str × Con), sortedD [.list (ps.map lkD)] = some (ys.map lkD) ∧ ys.Perm ps ∧ (ys.map lkD).Pairwise lessD := by
  obtain ⟨ys, e, p⟩ := sortL_map lkD ps
  have al : ∀ d ∈ ps.map lkD, ∀ e ∈ ps.map lkD, likeD d e := by
    intro d hd e he
    obtain ⟨p, _, rfl⟩ := List.mem_map.mp hd
    obtain ⟨q, _, rfl⟩ := List.mem_map.mp he
    exact lkD_alike p q
  refine ⟨ys, ?_, p, ?_⟩
  · show (if srtB (ps.map lkD) = true then some (sortL (ps.map lkD)) else none) = _
    rw [if_pos, e]
    unfold srtB
    rw [Bool.and_eq_true, Bool.and_eq_true, Bool.and_eq_true, Bool.or_eq_true]
    refine ⟨⟨⟨?_, .inl ?_⟩, ?_⟩, ?_⟩
    · rw [List.all_eq_true]
      intro d hd
      rw [List.all_eq_true]
      exact fun e he => al d hd e he
    · rw [List.all_map, List.all_eq_true]
      exact fun d _ => rfl
    · rw [List.length_map, sizeLine_val]
      exact decide_eq_true (by omega)
    · rw [List.all_map, List.all_eq_true]
      exact fun q hq => by
        show decide ((lkD q).depth ≤ 60) = true
        have := lkD_depth q
        have := hd q hq
        exact decide_eq_true (by omega)
  · rw [← e]
    refine sortL_asc al ?_
    rw [List.pairwise_map]
    refine hn.imp fun {a b} h => ?_
    cases q : PyData.eqv (lkD a) (lkD b) with
    | false => rfl
    | true => exact absurd ((lkD_eqv a b).mp q) h
theorem sorted_lks {ps : List (Str × Con)} (hn : ps.Nodup) (hl : ps.length ≤ 1000000) (hd : ∀ p ∈ ps, p.2.deep ≤ 18) : ∃ ys : List (Str × Con), sortedD [.list (ps.map lkD)] = some (ys.map lkD) ∧ ys.Perm ps ∧ (ys.map lkD).Pairwise lessD := sorted_lksS hn (by omega) hd
def szB : Nat → Nat
  | 0 => 4
  | d + 1 => 4 + 2 * (1 + szB d)
def coB : Nat → Nat
  | 0 => 4
  | d + 1 => 5 + 2 * (1 + coB d)
theorem concept_spec {s : List Int} {W V : List Str} (wW : Wds W) (wV : Wds V) (lW : W.length ≤ 4) (lV : V.length ≤ 4) (nV : V ≠ []) : ∀ (d k : Nat) (n : Int) (hs : Hl), Sk s n (coB d) → d + 2 ≤ k → d ≤ 10 →
    wpR (callD prog k i__law_concept [.ref 0, .dat (.tuple [.tuple (W.map .str), .tuple (V.map .str)]), .dat (.int d), .dat (.int 2)] (st s n :: hs)) (fun v h => ∃ (c : Con) (n' : Int), v = .dat c.data ∧ Ok c (szB d) d ∧ n ≤ n' ∧ n' ≤ n + coB d ∧ h = st s n' :: hs) noX := by
  intro d
  induction d using Nat.strongRecOn with
  | _ d ih =>
    intro k n hs S hk hd
    obtain ⟨k, rfl⟩ : ∃ i, k = i + 1 := ⟨k - 1, by omega⟩
    rw [call_at (r := r__law_concept) rfl]
    refine fn_rule rfl ?_
    show wpS (D__law_concept (callD prog k) [some (.ref 0), some (.dat (.tuple [.tuple (W.map .str), .tuple (V.map .str)])), some (.dat (.int d)), some (.dat (.int 2)), none, none, none, none, none, none] (st s n :: hs)) _ _
    simp only [D__law_concept, s_nil, s_brk, s_cont, s_seq, s_expr, s_ret, s_retN, s_set, s_setL, s_newL, s_unp, s_par, s_aug, s_six, s_if, s_for, w_var, w_mv2, mvK_d, mvK_r, w_c, w_bin, w_un, w_tst, w_and, w_or, w_not, w_andV, w_orV, w_notV, w_if, w_nil, w_cons, w_tup, w_lst, w_as, w_bc, w_lc, w_call, w_no, w_some, w_slice, w_app, w_ext, w_pop, w_seqD, w_rng1, w_comp, wpR_ok, optK_some, boolK_b, intK_i, oneK_d, oneL_d, twoK_2, sixK_r, rngK_i, rtK_d, peek_d, peek_r, peeks_n, peeks_c, own_r, lst_z, lst_s, Option.map_some, Option.bind_some, Option.join_some, List.getElem?_cons_zero, List.getElem?_cons_succ, List.set_cons_zero, List.set_cons_succ, List.map_cons, List.map_nil, List.cons_append, List.nil_append, List.replicate_succ, List.replicate_zero, Nat.sub_self, datsV_n, datsV_d, wipe_n, wipe_c, setG_n, setG_t, setGs_n, setGs_c, ix_l, ix_t, atI_0, atI_1, atI_2, atI_3, add_i, sub_i, iadd_i, lt_i, le_i, gt_i, ge_i, eq_i, eq_s, len_l, len_t, int_i, abs_i, max_i, tuple_l, tuple_t, sizeLine_val, w_enum, w_isi, w_fmt, w_jnil, w_jcons, w_join, vK_1, strK_s, ne_i, ne_s, s_raise, s_try, wpR_exc, errIx0, errIx1, errIx2, errIx3, errWord0, errWord1, errWord2, errWord3, w_zip, zipK_2, row_l, row_t, w_back, backK_t, neg_i, w_ssetT, tupK_t, w_callI, callK_0, w_mulLD, mulK_l, w_disp, w_din, w_dget, one1_v, w_dlen, w_glue, w_upperD, w_dvals, s_dput, keyV_i, keyV_s, datV_d, strV_s, refOf_r, dctV_r, dct_z, dct_s, xor_tr, xor_fl, seqOf_l, seqOf_t, itemsOf]
    have c4 : 4 ≤ coB d := by cases d <;> (unfold coB; omega)
    refine comp_rule (fun ds acc h' => ∃ (xs rs : List Str) (n' : Int), ds = rs.map .str ∧ acc = xs.map .str ∧ (xs ++ rs).Sublist W ∧ h' = st s n' :: hs ∧ n ≤ n' ∧ n' + rs.length ≤ n + W.length) (fun d' ds acc h' I => ?_) (fun acc h' I => ?_) _ _ _ ⟨[], W, n, rfl, rfl, List.Sublist.refl _, rfl, by omega, by omega⟩
    · obtain ⟨xs, rs, n', e1, rfl, sub, rfl, l1, l2⟩ := I
      cases rs with
      | nil => cases e1
      | cons r rs =>
        cases e1
        rw [List.length_cons] at l2
        have hl := sub.length_le
        rw [List.length_append, List.length_cons] at hl
        refine ⟨rfl, ?_⟩
        simp only [s_nil, s_brk, s_cont, s_seq, s_expr, s_ret, s_retN, s_set, s_setL, s_newL, s_unp, s_par, s_aug, s_six, s_if, s_for, w_var, w_mv2, mvK_d, mvK_r, w_c, w_bin, w_un, w_tst, w_and, w_or, w_not, w_andV, w_orV, w_notV, w_if, w_nil, w_cons, w_tup, w_lst, w_as, w_bc, w_lc, w_call, w_no, w_some, w_slice, w_app, w_ext, w_pop, w_seqD, w_rng1, w_comp, wpR_ok, optK_some, boolK_b, intK_i, oneK_d, oneL_d, twoK_2, sixK_r, rngK_i, rtK_d, peek_d, peek_r, peeks_n, peeks_c, own_r, lst_z, lst_s, Option.map_some, Option.bind_some, Option.join_some, List.getElem?_cons_zero, List.getElem?_cons_succ, List.set_cons_zero, List.set_cons_succ, List.map_cons, List.map_nil, List.cons_append, List.nil_append, List.replicate_succ, List.replicate_zero, Nat.sub_self, datsV_n, datsV_d, wipe_n, wipe_c, setG_n, setG_t, setGs_n, setGs_c, ix_l, ix_t, atI_0, atI_1, atI_2, atI_3, add_i, sub_i, iadd_i, lt_i, le_i, gt_i, ge_i, eq_i, eq_s, len_l, len_t, int_i, abs_i, max_i, tuple_l, tuple_t, sizeLine_val, w_enum, w_isi, w_fmt, w_jnil, w_jcons, w_join, vK_1, strK_s, ne_i, ne_s, s_raise, s_try, wpR_exc, errIx0, errIx1, errIx2, errIx3, errWord0, errWord1, errWord2, errWord3, w_zip, zipK_2, row_l, row_t, w_back, backK_t, neg_i, w_ssetT, tupK_t, w_callI, callK_0, w_mulLD, mulK_l, w_disp, w_din, w_dget, one1_v, w_dlen, w_glue, w_upperD, w_dvals, s_dput, keyV_i, keyV_s, datV_d, strV_s, refOf_r, dctV_r, dct_z, dct_s, xor_tr, xor_fl, seqOf_l, seqOf_t]
        have S1 : Sk s n' 1 := S.less l1 (by omega)
        refine wpR_imp (S1.next (by decide) (by decide) (by omega)) fun v h => ?_
        rintro ⟨x, rfl, x0, x1, rfl⟩
        simp only [s_nil, s_brk, s_cont, s_seq, s_expr, s_ret, s_retN, s_set, s_setL, s_newL, s_unp, s_par, s_aug, s_six, s_if, s_for, w_var, w_mv2, mvK_d, mvK_r, w_c, w_bin, w_un, w_tst, w_and, w_or, w_not, w_andV, w_orV, w_notV, w_if, w_nil, w_cons, w_tup, w_lst, w_as, w_bc, w_lc, w_call, w_no, w_some, w_slice, w_app, w_ext, w_pop, w_seqD, w_rng1, w_comp, wpR_ok, optK_some, boolK_b, intK_i, oneK_d, oneL_d, twoK_2, sixK_r, rngK_i, rtK_d, peek_d, peek_r, peeks_n, peeks_c, own_r, lst_z, lst_s, Option.map_some, Option.bind_some, Option.join_some, List.getElem?_cons_zero, List.getElem?_cons_succ, List.set_cons_zero, List.set_cons_succ, List.map_cons, List.map_nil, List.cons_append, List.nil_append, List.replicate_succ, List.replicate_zero, Nat.sub_self, datsV_n, datsV_d, wipe_n, wipe_c, setG_n, setG_t, setGs_n, setGs_c, ix_l, ix_t, atI_0, atI_1, atI_2, atI_3, add_i, sub_i, iadd_i, lt_i, le_i, gt_i, ge_i, eq_i, eq_s, len_l, len_t, int_i, abs_i, max_i, tuple_l, tuple_t, sizeLine_val, w_enum, w_isi, w_fmt, w_jnil, w_jcons, w_join, vK_1, strK_s, ne_i, ne_s, s_raise, s_try, wpR_exc, errIx0, errIx1, errIx2, errIx3, errWord0, errWord1, errWord2, errWord3, w_zip, zipK_2, row_l, row_t, w_back, backK_t, neg_i, w_ssetT, tupK_t, w_callI, callK_0, w_mulLD, mulK_l, w_disp, w_din, w_dget, one1_v, w_dlen, w_glue, w_upperD, w_dvals, s_dput, keyV_i, keyV_s, datV_d, strV_s, refOf_r, dctV_r, dct_z, dct_s, xor_tr, xor_fl, seqOf_l, seqOf_t, List.length_map]
        split
        · exact ⟨by omega, xs ++ [r], rs, _, rfl, by simp, by simpa using sub, rfl, by omega, by omega⟩
        · exact ⟨xs, rs, _, rfl, rfl, (List.Sublist.append_left (List.sublist_cons_self _ _) _).trans sub, rfl, by omega, by omega⟩
    · obtain ⟨xs, rs, n1, e1, rfl, sub, rfl, l1, l2⟩ := I
      refine ⟨rfl, ?_⟩
      have l3 : n1 ≤ n + 4 := by omega
      have sub' : xs.Sublist W := by
        cases rs with
        | nil => simpa using sub
        | cons r rs => cases e1
      have lx := sub'.length_le
      clear sub e1 l2
      simp only [s_nil, s_brk, s_cont, s_seq, s_expr, s_ret, s_retN, s_set, s_setL, s_newL, s_unp, s_par, s_aug, s_six, s_if, s_for, w_var, w_mv2, mvK_d, mvK_r, w_c, w_bin, w_un, w_tst, w_and, w_or, w_not, w_andV, w_orV, w_notV, w_if, w_nil, w_cons, w_tup, w_lst, w_as, w_bc, w_lc, w_call, w_no, w_some, w_slice, w_app, w_ext, w_pop, w_seqD, w_rng1, w_comp, wpR_ok, optK_some, boolK_b, intK_i, oneK_d, oneL_d, twoK_2, sixK_r, rngK_i, rtK_d, peek_d, peek_r, peeks_n, peeks_c, own_r, lst_z, lst_s, Option.map_some, Option.bind_some, Option.join_some, List.getElem?_cons_zero, List.getElem?_cons_succ, List.set_cons_zero, List.set_cons_succ, List.map_cons, List.map_nil, List.cons_append, List.nil_append, List.replicate_succ, List.replicate_zero, Nat.sub_self, datsV_n, datsV_d, wipe_n, wipe_c, setG_n, setG_t, setGs_n, setGs_c, ix_l, ix_t, atI_0, atI_1, atI_2, atI_3, add_i, sub_i, iadd_i, lt_i, le_i, gt_i, ge_i, eq_i, eq_s, len_l, len_t, int_i, abs_i, max_i, tuple_l, tuple_t, sizeLine_val, w_enum, w_isi, w_fmt, w_jnil, w_jcons, w_join, vK_1, strK_s, ne_i, ne_s, s_raise, s_try, wpR_exc, errIx0, errIx1, errIx2, errIx3, errWord0, errWord1, errWord2, errWord3, w_zip, zipK_2, row_l, row_t, w_back, backK_t, neg_i, w_ssetT, tupK_t, w_callI, callK_0, w_mulLD, mulK_l, w_disp, w_din, w_dget, one1_v, w_dlen, w_glue, w_upperD, w_dvals, s_dput, keyV_i, keyV_s, datV_d, strV_s, refOf_r, dctV_r, dct_z, dct_s, xor_tr, xor_fl, seqOf_l, seqOf_t, List.length_nil, List.length_cons, List.length_map]
      refine ⟨by omega, ?_⟩
      have fin : ∀ (ps : List (Str × Con)) (b dd : Nat) (n' : Int), ps.Nodup → (∀ p ∈ ps, nameB p.1 = true ∧ strFine p.1 ∧ Ok p.2 b dd) → dd ≤ 10 → (4 + ps.length * (1 + b) ≤ szB d) → (ps = [] ∨ dd + 1 ≤ d) → ps.length ≤ 2 → n ≤ n' → n' ≤ n + coB d →
          optK (sortedD [.list (ps.map lkD)]) fun z => 0 + 1 + 1 ≤ 16777216 ∧ ∃ (c : Con) (n'' : Int), Val.dat (.tuple [.tuple (xs.map .str), .tuple z]) = .dat c.data ∧ Ok c (szB d) d ∧ n ≤ n'' ∧ n'' ≤ n + coB d ∧ List.take (hs.length + 1) (st s n' :: (hs ++ [some (HObj.lst (ps.map lkD))])) = st s n'' :: hs := by
        intro ps b dd n' nd hp hdd h1 h2 h3 h4 h5
        obtain ⟨ys, ey, p, asc⟩ := sorted_lks nd (by omega) (fun p hp' => by have := (hp p hp').2.2.deep; omega)
        rw [ey, optK_some]
        refine ⟨by omega, _, n', by rw [← mk_data], con_ok wW sub' (fun q hq => hp q (p.mem_iff.mp hq)) asc ?_ ?_, h4, h5, take_end1 _ _ _⟩
        · rw [p.length_eq]
          omega
        · rcases h2 with rfl | h2
          · exact .inl p.eq_nil
          · exact .inr h2
      cases d with
      | zero =>
        rw [if_neg (by simp), if_neg (by simp)]
        simp only [s_nil, s_brk, s_cont, s_seq, s_expr, s_ret, s_retN, s_set, s_setL, s_newL, s_unp, s_par, s_aug, s_six, s_if, s_for, w_var, w_mv2, mvK_d, mvK_r, w_c, w_bin, w_un, w_tst, w_and, w_or, w_not, w_andV, w_orV, w_notV, w_if, w_nil, w_cons, w_tup, w_lst, w_as, w_bc, w_lc, w_call, w_no, w_some, w_slice, w_app, w_ext, w_pop, w_seqD, w_rng1, w_comp, wpR_ok, optK_some, boolK_b, intK_i, oneK_d, oneL_d, twoK_2, sixK_r, rngK_i, rtK_d, peek_d, peek_r, peeks_n, peeks_c, own_r, lst_z, lst_s, Option.map_some, Option.bind_some, Option.join_some, List.getElem?_cons_zero, List.getElem?_cons_succ, List.set_cons_zero, List.set_cons_succ, List.map_cons, List.map_nil, List.cons_append, List.nil_append, List.replicate_succ, List.replicate_zero, Nat.sub_self, datsV_n, datsV_d, wipe_n, wipe_c, setG_n, setG_t, setGs_n, setGs_c, ix_l, ix_t, atI_0, atI_1, atI_2, atI_3, add_i, sub_i, iadd_i, lt_i, le_i, gt_i, ge_i, eq_i, eq_s, len_l, len_t, int_i, abs_i, max_i, tuple_l, tuple_t, sizeLine_val, w_enum, w_isi, w_fmt, w_jnil, w_jcons, w_join, vK_1, strK_s, ne_i, ne_s, s_raise, s_try, wpR_exc, errIx0, errIx1, errIx2, errIx3, errWord0, errWord1, errWord2, errWord3, w_zip, zipK_2, row_l, row_t, w_back, backK_t, neg_i, w_ssetT, tupK_t, w_callI, callK_0, w_mulLD, mulK_l, w_disp, w_din, w_dget, one1_v, w_dlen, w_glue, w_upperD, w_dvals, s_dput, keyV_i, keyV_s, datV_d, strV_s, refOf_r, dctV_r, dct_z, dct_s, xor_tr, xor_fl, seqOf_l, seqOf_t, lst_end]
        exact fin [] 0 0 n1 List.nodup_nil (fun p hp => (nomatch hp)) (by omega) (by show 4 + 0 * (1 + 0) ≤ 4; omega) (.inl rfl) (by simp) l1 (by show n1 ≤ n + (4 : Nat); omega)
      | succ d =>
        have c5 : coB (d + 1) = 5 + 2 * (1 + coB d) := rfl
        have s5 : szB (d + 1) = 4 + 2 * (1 + szB d) := rfl
        have lv : 0 < V.length := by
          cases V with
          | nil => exact absurd rfl nV
          | cons _ _ => simp
        rw [if_pos (decide_eq_true (by omega)), if_pos (decide_eq_true (by omega))]
        have S1 : Sk s n1 1 := S.less l1 (by omega)
        refine wpR_imp (S1.next (by decide) (by decide) (by omega)) fun v h => ?_
        rintro ⟨x, rfl, x0, x1, rfl⟩
        simp only [s_nil, s_brk, s_cont, s_seq, s_expr, s_ret, s_retN, s_set, s_setL, s_newL, s_unp, s_par, s_aug, s_six, s_if, s_for, w_var, w_mv2, mvK_d, mvK_r, w_c, w_bin, w_un, w_tst, w_and, w_or, w_not, w_andV, w_orV, w_notV, w_if, w_nil, w_cons, w_tup, w_lst, w_as, w_bc, w_lc, w_call, w_no, w_some, w_slice, w_app, w_ext, w_pop, w_seqD, w_rng1, w_comp, wpR_ok, optK_some, boolK_b, intK_i, oneK_d, oneL_d, twoK_2, sixK_r, rngK_i, rtK_d, peek_d, peek_r, peeks_n, peeks_c, own_r, lst_z, lst_s, Option.map_some, Option.bind_some, Option.join_some, List.getElem?_cons_zero, List.getElem?_cons_succ, List.set_cons_zero, List.set_cons_succ, List.map_cons, List.map_nil, List.cons_append, List.nil_append, List.replicate_succ, List.replicate_zero, Nat.sub_self, datsV_n, datsV_d, wipe_n, wipe_c, setG_n, setG_t, setGs_n, setGs_c, ix_l, ix_t, atI_0, atI_1, atI_2, atI_3, add_i, sub_i, iadd_i, lt_i, le_i, gt_i, ge_i, eq_i, eq_s, len_l, len_t, int_i, abs_i, max_i, tuple_l, tuple_t, sizeLine_val, w_enum, w_isi, w_fmt, w_jnil, w_jcons, w_join, vK_1, strK_s, ne_i, ne_s, s_raise, s_try, wpR_exc, errIx0, errIx1, errIx2, errIx3, errWord0, errWord1, errWord2, errWord3, w_zip, zipK_2, row_l, row_t, w_back, backK_t, neg_i, w_ssetT, tupK_t, w_callI, callK_0, w_mulLD, mulK_l, w_disp, w_din, w_dget, one1_v, w_dlen, w_glue, w_upperD, w_dvals, s_dput, keyV_i, keyV_s, datV_d, strV_s, refOf_r, dctV_r, dct_z, dct_s, xor_tr, xor_fl, seqOf_l, seqOf_t]
        refine ⟨by simp only [rngOk, Bool.and_eq_true, decide_eq_true_eq]; omega, ?_⟩
        refine for_rule (fun ds ρ h' => ∃ (ps : List (Str × Con)) (a b c' : Option Val) (n' : Int), ρ = [some (.ref 0), some (.dat (.tuple [.tuple (W.map .str), .tuple (V.map .str)])), some (.dat (.int (d + 1 : Nat))), some (.dat (.int 2)), some (.dat (.list (xs.map .str))), some (.ref (hs.length + 1)), a, b, c', none] ∧
            h' = st s n' :: (hs ++ [some (HObj.lst (ps.map lkD))]) ∧ ps.Nodup ∧ (∀ p ∈ ps, nameB p.1 = true ∧ strFine p.1 ∧ Ok p.2 (szB d) d) ∧ ps.length + ds.length ≤ 2 ∧ n ≤ n' ∧ n' + ds.length * (1 + coB d) ≤ n + coB (d + 1))
          (fun d' ds ρ h' I => ?_) (fun ρ h' I => ?_) _ _ _ ⟨[], none, none, none, n1 + 1, rfl, rfl, List.nodup_nil, fun p hp => (nomatch hp), by simp [rngItems]; omega, by omega, ?_⟩
        · obtain ⟨ps, a, b, c', n', rfl, rfl, nd, hp, k1, k2, k3⟩ := I
          rw [List.length_cons] at k1 k3
          have k3' : n' + (1 + coB d) + ds.length * (1 + coB d) ≤ n + coB (d + 1) := by
            have : ((ds.length + 1 : Nat) : Int) * (1 + (coB d : Int)) = (ds.length : Int) * (1 + (coB d : Int)) + (1 + (coB d : Int)) := by
              rw [Int.natCast_add, Int.add_mul]; simp
            omega
          have k4 : 0 ≤ (ds.length : Int) * (1 + (coB d : Int)) := Int.mul_nonneg (by omega) (by omega)
          refine ⟨rfl, ?_⟩
          simp only [s_nil, s_brk, s_cont, s_seq, s_expr, s_ret, s_retN, s_set, s_setL, s_newL, s_unp, s_par, s_aug, s_six, s_if, s_for, w_var, w_mv2, mvK_d, mvK_r, w_c, w_bin, w_un, w_tst, w_and, w_or, w_not, w_andV, w_orV, w_notV, w_if, w_nil, w_cons, w_tup, w_lst, w_as, w_bc, w_lc, w_call, w_no, w_some, w_slice, w_app, w_ext, w_pop, w_seqD, w_rng1, w_comp, wpR_ok, optK_some, boolK_b, intK_i, oneK_d, oneL_d, twoK_2, sixK_r, rngK_i, rtK_d, peek_d, peek_r, peeks_n, peeks_c, own_r, lst_z, lst_s, Option.map_some, Option.bind_some, Option.join_some, List.getElem?_cons_zero, List.getElem?_cons_succ, List.set_cons_zero, List.set_cons_succ, List.map_cons, List.map_nil, List.cons_append, List.nil_append, List.replicate_succ, List.replicate_zero, Nat.sub_self, datsV_n, datsV_d, wipe_n, wipe_c, setG_n, setG_t, setGs_n, setGs_c, ix_l, ix_t, atI_0, atI_1, atI_2, atI_3, add_i, sub_i, iadd_i, lt_i, le_i, gt_i, ge_i, eq_i, eq_s, len_l, len_t, int_i, abs_i, max_i, tuple_l, tuple_t, sizeLine_val, w_enum, w_isi, w_fmt, w_jnil, w_jcons, w_join, vK_1, strK_s, ne_i, ne_s, s_raise, s_try, wpR_exc, errIx0, errIx1, errIx2, errIx3, errWord0, errWord1, errWord2, errWord3, w_zip, zipK_2, row_l, row_t, w_back, backK_t, neg_i, w_ssetT, tupK_t, w_callI, callK_0, w_mulLD, mulK_l, w_disp, w_din, w_dget, one1_v, w_dlen, w_glue, w_upperD, w_dvals, s_dput, keyV_i, keyV_s, datV_d, strV_s, refOf_r, dctV_r, dct_z, dct_s, xor_tr, xor_fl, seqOf_l, seqOf_t, List.length_map]
          have S2 : Sk s n' (1 + coB d) := S.less k2 (by omega)
          have S3 : Sk s n' 1 := S2.less (by omega) (by omega)
          refine wpR_imp (S3.next (by omega) (by decide) (by omega)) fun v h => ?_
          rintro ⟨y, rfl, y0, y1, rfl⟩
          simp only [s_nil, s_brk, s_cont, s_seq, s_expr, s_ret, s_retN, s_set, s_setL, s_newL, s_unp, s_par, s_aug, s_six, s_if, s_for, w_var, w_mv2, mvK_d, mvK_r, w_c, w_bin, w_un, w_tst, w_and, w_or, w_not, w_andV, w_orV, w_notV, w_if, w_nil, w_cons, w_tup, w_lst, w_as, w_bc, w_lc, w_call, w_no, w_some, w_slice, w_app, w_ext, w_pop, w_seqD, w_rng1, w_comp, wpR_ok, optK_some, boolK_b, intK_i, oneK_d, oneL_d, twoK_2, sixK_r, rngK_i, rtK_d, peek_d, peek_r, peeks_n, peeks_c, own_r, lst_z, lst_s, Option.map_some, Option.bind_some, Option.join_some, List.getElem?_cons_zero, List.getElem?_cons_succ, List.set_cons_zero, List.set_cons_succ, List.map_cons, List.map_nil, List.cons_append, List.nil_append, List.replicate_succ, List.replicate_zero, Nat.sub_self, datsV_n, datsV_d, wipe_n, wipe_c, setG_n, setG_t, setGs_n, setGs_c, ix_l, ix_t, atI_0, atI_1, atI_2, atI_3, add_i, sub_i, iadd_i, lt_i, le_i, gt_i, ge_i, eq_i, eq_s, len_l, len_t, int_i, abs_i, max_i, tuple_l, tuple_t, sizeLine_val, w_enum, w_isi, w_fmt, w_jnil, w_jcons, w_join, vK_1, strK_s, ne_i, ne_s, s_raise, s_try, wpR_exc, errIx0, errIx1, errIx2, errIx3, errWord0, errWord1, errWord2, errWord3, w_zip, zipK_2, row_l, row_t, w_back, backK_t, neg_i, w_ssetT, tupK_t, w_callI, callK_0, w_mulLD, mulK_l, w_disp, w_din, w_dget, one1_v, w_dlen, w_glue, w_upperD, w_dvals, s_dput, keyV_i, keyV_s, datV_d, strV_s, refOf_r, dctV_r, dct_z, dct_s, xor_tr, xor_fl, seqOf_l, seqOf_t]
          obtain ⟨r, er, hr⟩ := atI_mem (xs := V.map PyData.str) y0 (by rw [List.length_map]; exact y1)
          obtain ⟨r, hrv, rfl⟩ := List.mem_map.mp hr
          rw [er, optK_some]
          have e1 : ((d + 1 : Nat) : Int) - 1 = (d : Int) := by omega
          rw [e1]
          refine wpR_imp (ih d (by omega) k (n' + 1) _ (S2.less (by omega) (by omega)) (by omega) (by omega)) fun v h => ?_
          rintro ⟨c, m, rfl, oc, m0, m1, rfl⟩
          have od := oc.deep
          have ld := lkD_depth (r, c)
          have lde : (lkD (r, c)).depth ≤ 60 := by
            have : (lkD (r, c)).depth ≤ 3 * c.deep + 3 := ld
            omega
          simp only [s_nil, s_brk, s_cont, s_seq, s_expr, s_ret, s_retN, s_set, s_setL, s_newL, s_unp, s_par, s_aug, s_six, s_if, s_for, w_var, w_mv2, mvK_d, mvK_r, w_c, w_bin, w_un, w_tst, w_and, w_or, w_not, w_andV, w_orV, w_notV, w_if, w_nil, w_cons, w_tup, w_lst, w_as, w_bc, w_lc, w_call, w_no, w_some, w_slice, w_app, w_ext, w_pop, w_seqD, w_rng1, w_comp, wpR_ok, optK_some, boolK_b, intK_i, oneK_d, oneL_d, twoK_2, sixK_r, rngK_i, rtK_d, peek_d, peek_r, peeks_n, peeks_c, own_r, lst_z, lst_s, Option.map_some, Option.bind_some, Option.join_some, List.getElem?_cons_zero, List.getElem?_cons_succ, List.set_cons_zero, List.set_cons_succ, List.map_cons, List.map_nil, List.cons_append, List.nil_append, List.replicate_succ, List.replicate_zero, Nat.sub_self, datsV_n, datsV_d, wipe_n, wipe_c, setG_n, setG_t, setGs_n, setGs_c, ix_l, ix_t, atI_0, atI_1, atI_2, atI_3, add_i, sub_i, iadd_i, lt_i, le_i, gt_i, ge_i, eq_i, eq_s, len_l, len_t, int_i, abs_i, max_i, tuple_l, tuple_t, sizeLine_val, w_enum, w_isi, w_fmt, w_jnil, w_jcons, w_join, vK_1, strK_s, ne_i, ne_s, s_raise, s_try, wpR_exc, errIx0, errIx1, errIx2, errIx3, errWord0, errWord1, errWord2, errWord3, w_zip, zipK_2, row_l, row_t, w_back, backK_t, neg_i, w_ssetT, tupK_t, w_callI, callK_0, w_mulLD, mulK_l, w_disp, w_din, w_dget, one1_v, w_dlen, w_glue, w_upperD, w_dvals, s_dput, keyV_i, keyV_s, datV_d, strV_s, refOf_r, dctV_r, dct_z, dct_s, xor_tr, xor_fl, seqOf_l, seqOf_t, lst_end, List.length_cons, List.length_nil]
          refine ⟨by omega, ?_⟩
          rw [show PyData.tuple [PyData.str r, c.data] = lkD (r, c) from rfl, notin_l (by omega), optK_some, boolK_b]
          by_cases q : (r, c) ∈ ps
          · rw [any_lks.mpr q, if_neg (by simp)]
            exact ⟨ps, _, _, _, m, rfl, rfl, nd, hp, by omega, by omega, by omega⟩
          · have q' : ((ps.map lkD).any fun y => PyData.eqv y (lkD (r, c))) = false := by
              cases z : ((ps.map lkD).any fun y => PyData.eqv y (lkD (r, c))) with
              | false => rfl
              | true => exact absurd (any_lks.mp z) q
            rw [q', if_pos (by rfl)]
            refine ⟨by rw [List.length_map]; omega, ps ++ [(r, c)], _, _, _, m, rfl, by rw [set_end]; simp, ?_, ?_, by simp; omega, by omega, by omega⟩
            · rw [List.nodup_append]
              exact ⟨nd, by simp, fun a ha b hb e => q (by
                have e1 : b = (r, c) := by simpa using hb
                rw [← e1, ← e]; exact ha)⟩
            · intro x hx
              rcases List.mem_append.mp hx with hx | hx
              · exact hp x hx
              · have e1 : x = (r, c) := by simpa using hx
                rw [e1]
                exact ⟨wV.name r hrv, wV.fine r hrv, oc⟩
        · obtain ⟨ps, a, b, c', n', rfl, rfl, nd, hp, k1, k2, k3⟩ := I
          refine ⟨rfl, ?_⟩
          simp only [s_nil, s_brk, s_cont, s_seq, s_expr, s_ret, s_retN, s_set, s_setL, s_newL, s_unp, s_par, s_aug, s_six, s_if, s_for, w_var, w_mv2, mvK_d, mvK_r, w_c, w_bin, w_un, w_tst, w_and, w_or, w_not, w_andV, w_orV, w_notV, w_if, w_nil, w_cons, w_tup, w_lst, w_as, w_bc, w_lc, w_call, w_no, w_some, w_slice, w_app, w_ext, w_pop, w_seqD, w_rng1, w_comp, wpR_ok, optK_some, boolK_b, intK_i, oneK_d, oneL_d, twoK_2, sixK_r, rngK_i, rtK_d, peek_d, peek_r, peeks_n, peeks_c, own_r, lst_z, lst_s, Option.map_some, Option.bind_some, Option.join_some, List.getElem?_cons_zero, List.getElem?_cons_succ, List.set_cons_zero, List.set_cons_succ, List.map_cons, List.map_nil, List.cons_append, List.nil_append, List.replicate_succ, List.replicate_zero, Nat.sub_self, datsV_n, datsV_d, wipe_n, wipe_c, setG_n, setG_t, setGs_n, setGs_c, ix_l, ix_t, atI_0, atI_1, atI_2, atI_3, add_i, sub_i, iadd_i, lt_i, le_i, gt_i, ge_i, eq_i, eq_s, len_l, len_t, int_i, abs_i, max_i, tuple_l, tuple_t, sizeLine_val, w_enum, w_isi, w_fmt, w_jnil, w_jcons, w_join, vK_1, strK_s, ne_i, ne_s, s_raise, s_try, wpR_exc, errIx0, errIx1, errIx2, errIx3, errWord0, errWord1, errWord2, errWord3, w_zip, zipK_2, row_l, row_t, w_back, backK_t, neg_i, w_ssetT, tupK_t, w_callI, callK_0, w_mulLD, mulK_l, w_disp, w_din, w_dget, one1_v, w_dlen, w_glue, w_upperD, w_dvals, s_dput, keyV_i, keyV_s, datV_d, strV_s, refOf_r, dctV_r, dct_z, dct_s, xor_tr, xor_fl, seqOf_l, seqOf_t, lst_end]
          have k4 : ps.length ≤ 2 := by simpa using k1
          have k5 : ps.length * (1 + szB d) ≤ 2 * (1 + szB d) := Nat.mul_le_mul_right _ k4
          refine fin ps (szB d) d n' nd hp (by omega) (by omega) (.inr (by omega)) k4 k2 (by simpa using k3)
        · have : ((rngItems 0 x.toNat).length : Int) ≤ 2 := by simp [rngItems]; omega
          have : ((rngItems 0 x.toNat).length : Int) * (1 + (coB d : Int)) ≤ 2 * (1 + (coB d : Int)) := Int.mul_le_mul_of_nonneg_right this (by omega)
          omega
end Pg
end

section
namespace Pg
open PySem PySem.Spec PyProof.Rows L2 Dn
theorem measure_spec (k : Nat) : ∀ (c : Con) (h : Hl), c.deep < k → c.size ≤ 1000000 → callD prog k i__law_measure [.dat c.data] h = .ok (.dat (.tuple [.int c.size, .int c.deep])) h := by
  induction k with
  | zero => exact fun c h q _ => absurd q (Nat.not_lt_zero _)
  | succ k ih =>
    intro c h hd hs
    obtain ⟨ns, ls⟩ := c
    refine wpR_eq ?_
    rw [call_at (r := r__law_measure) rfl]
    refine fn_rule rfl ?_
    show wpS (D__law_measure (callD prog k) [some (.dat (Con.mk ns ls).data), none, none, none, none, none] h) _ _
    simp only [D__law_measure, s_nil, s_brk, s_cont, s_seq, s_expr, s_ret, s_retN, s_set, s_setL, s_newL, s_unp, s_par, s_aug, s_six, s_if, s_for, w_var, w_mv2, mvK_d, mvK_r, w_c, w_bin, w_un, w_tst, w_and, w_or, w_not, w_andV, w_orV, w_notV, w_if, w_nil, w_cons, w_tup, w_lst, w_as, w_bc, w_lc, w_call, w_no, w_some, w_slice, w_app, w_ext, w_pop, w_seqD, w_rng1, w_comp, wpR_ok, optK_some, boolK_b, intK_i, oneK_d, oneL_d, twoK_2, sixK_r, rngK_i, rtK_d, peek_d, peek_r, peeks_n, peeks_c, own_r, lst_z, lst_s, Option.map_some, Option.bind_some, Option.join_some, List.getElem?_cons_zero, List.getElem?_cons_succ, List.set_cons_zero, List.set_cons_succ, List.map_cons, List.map_nil, List.cons_append, List.nil_append, List.replicate_succ, List.replicate_zero, Nat.sub_self, datsV_n, datsV_d, wipe_n, wipe_c, setG_n, setG_t, setGs_n, setGs_c, ix_l, ix_t, atI_0, atI_1, atI_2, atI_3, add_i, sub_i, iadd_i, lt_i, le_i, gt_i, ge_i, eq_i, eq_s, len_l, len_t, int_i, abs_i, max_i, tuple_l, tuple_t, sizeLine_val, w_enum, w_isi, w_fmt, w_jnil, w_jcons, w_join, vK_1, strK_s, ne_i, ne_s, s_raise, s_try, wpR_exc, errIx0, errIx1, errIx2, errIx3, errWord0, errWord1, errWord2, errWord3, w_zip, zipK_2, row_l, row_t, w_back, backK_t, neg_i, w_ssetT, tupK_t, w_callI, callK_0, w_mulLD, mulK_l, w_disp, w_din, w_dget, one1_v, w_dlen, w_glue, w_upperD, w_dvals, s_dput, keyV_i, keyV_s, datV_d, strV_s, refOf_r, dctV_r, dct_z, dct_s, xor_tr, xor_fl, seqOf_l, seqOf_t, Con.data, List.length_map, itemsOf]
    refine for_rule (fun ds ρ h' => ∃ (ms : Lks) (a b c' : Option Val), ds = ms.data ∧ h' = h ∧ ms.deep ≤ ls.deep ∧ ms.size ≤ ls.size ∧ ∃ (x y : Int), ρ = [some (.dat (Con.mk ns ls).data), some (.dat (.int x)), some (.dat (.int y)), a, b, c'] ∧ x + ms.size = (Con.mk ns ls).size ∧ 0 ≤ y ∧ max y ms.deep = ls.deep)
      (fun d ds ρ h' I => ?_) (fun ρ h' I => ?_) _ _ _ ⟨ls, none, none, none, rfl, rfl, Nat.le_refl _, Nat.le_refl _, _, _, rfl, by rw [Con.size]; omega, Int.le_refl _, by omega⟩
    · obtain ⟨ms, a, b, c', e1, rfl, l1, l2, x, y, rfl, e2, y0, e3⟩ := I
      cases ms with
      | nil => rw [Lks.data] at e1; cases e1
      | cons r c ms =>
        rw [Lks.data] at e1
        cases e1
        rw [Lks.deep] at l1 e3
        rw [Lks.size] at l2 e2
        rw [Con.size] at hs
        rw [Con.deep] at hd
        refine ⟨rfl, ?_⟩
        simp only [s_nil, s_brk, s_cont, s_seq, s_expr, s_ret, s_retN, s_set, s_setL, s_newL, s_unp, s_par, s_aug, s_six, s_if, s_for, w_var, w_mv2, mvK_d, mvK_r, w_c, w_bin, w_un, w_tst, w_and, w_or, w_not, w_andV, w_orV, w_notV, w_if, w_nil, w_cons, w_tup, w_lst, w_as, w_bc, w_lc, w_call, w_no, w_some, w_slice, w_app, w_ext, w_pop, w_seqD, w_rng1, w_comp, wpR_ok, optK_some, boolK_b, intK_i, oneK_d, oneL_d, twoK_2, sixK_r, rngK_i, rtK_d, peek_d, peek_r, peeks_n, peeks_c, own_r, lst_z, lst_s, Option.map_some, Option.bind_some, Option.join_some, List.getElem?_cons_zero, List.getElem?_cons_succ, List.set_cons_zero, List.set_cons_succ, List.map_cons, List.map_nil, List.cons_append, List.nil_append, List.replicate_succ, List.replicate_zero, Nat.sub_self, datsV_n, datsV_d, wipe_n, wipe_c, setG_n, setG_t, setGs_n, setGs_c, ix_l, ix_t, atI_0, atI_1, atI_2, atI_3, add_i, sub_i, iadd_i, lt_i, le_i, gt_i, ge_i, eq_i, eq_s, len_l, len_t, int_i, abs_i, max_i, tuple_l, tuple_t, sizeLine_val, w_enum, w_isi, w_fmt, w_jnil, w_jcons, w_join, vK_1, strK_s, ne_i, ne_s, s_raise, s_try, wpR_exc, errIx0, errIx1, errIx2, errIx3, errWord0, errWord1, errWord2, errWord3, w_zip, zipK_2, row_l, row_t, w_back, backK_t, neg_i, w_ssetT, tupK_t, w_callI, callK_0, w_mulLD, mulK_l, w_disp, w_din, w_dget, one1_v, w_dlen, w_glue, w_upperD, w_dvals, s_dput, keyV_i, keyV_s, datV_d, strV_s, refOf_r, dctV_r, dct_z, dct_s, xor_tr, xor_fl, seqOf_l, seqOf_t]
        rw [ih c h' (by omega) (by omega)]
        simp only [s_nil, s_brk, s_cont, s_seq, s_expr, s_ret, s_retN, s_set, s_setL, s_newL, s_unp, s_par, s_aug, s_six, s_if, s_for, w_var, w_mv2, mvK_d, mvK_r, w_c, w_bin, w_un, w_tst, w_and, w_or, w_not, w_andV, w_orV, w_notV, w_if, w_nil, w_cons, w_tup, w_lst, w_as, w_bc, w_lc, w_call, w_no, w_some, w_slice, w_app, w_ext, w_pop, w_seqD, w_rng1, w_comp, wpR_ok, optK_some, boolK_b, intK_i, oneK_d, oneL_d, twoK_2, sixK_r, rngK_i, rtK_d, peek_d, peek_r, peeks_n, peeks_c, own_r, lst_z, lst_s, Option.map_some, Option.bind_some, Option.join_some, List.getElem?_cons_zero, List.getElem?_cons_succ, List.set_cons_zero, List.set_cons_succ, List.map_cons, List.map_nil, List.cons_append, List.nil_append, List.replicate_succ, List.replicate_zero, Nat.sub_self, datsV_n, datsV_d, wipe_n, wipe_c, setG_n, setG_t, setGs_n, setGs_c, ix_l, ix_t, atI_0, atI_1, atI_2, atI_3, add_i, sub_i, iadd_i, lt_i, le_i, gt_i, ge_i, eq_i, eq_s, len_l, len_t, int_i, abs_i, max_i, tuple_l, tuple_t, sizeLine_val, w_enum, w_isi, w_fmt, w_jnil, w_jcons, w_join, vK_1, strK_s, ne_i, ne_s, s_raise, s_try, wpR_exc, errIx0, errIx1, errIx2, errIx3, errWord0, errWord1, errWord2, errWord3, w_zip, zipK_2, row_l, row_t, w_back, backK_t, neg_i, w_ssetT, tupK_t, w_callI, callK_0, w_mulLD, mulK_l, w_disp, w_din, w_dget, one1_v, w_dlen, w_glue, w_upperD, w_dvals, s_dput, keyV_i, keyV_s, datV_d, strV_s, refOf_r, dctV_r, dct_z, dct_s, xor_tr, xor_fl, seqOf_l, seqOf_t]
        exact ⟨ms, _, _, _, rfl, trivial, by omega, by omega, _, _, rfl, by omega, by split <;> omega, by split <;> omega⟩
    · obtain ⟨ms, a, b, c', e1, rfl, l1, l2, x, y, rfl, e2, y0, e3⟩ := I
      cases ms with
      | cons r c ms => rw [Lks.data] at e1; cases e1
      | nil =>
        rw [Lks.deep] at e3
        rw [Lks.size] at e2
        refine ⟨rfl, ?_⟩
        simp only [s_nil, s_brk, s_cont, s_seq, s_expr, s_ret, s_retN, s_set, s_setL, s_newL, s_unp, s_par, s_aug, s_six, s_if, s_for, w_var, w_mv2, mvK_d, mvK_r, w_c, w_bin, w_un, w_tst, w_and, w_or, w_not, w_andV, w_orV, w_notV, w_if, w_nil, w_cons, w_tup, w_lst, w_as, w_bc, w_lc, w_call, w_no, w_some, w_slice, w_app, w_ext, w_pop, w_seqD, w_rng1, w_comp, wpR_ok, optK_some, boolK_b, intK_i, oneK_d, oneL_d, twoK_2, sixK_r, rngK_i, rtK_d, peek_d, peek_r, peeks_n, peeks_c, own_r, lst_z, lst_s, Option.map_some, Option.bind_some, Option.join_some, List.getElem?_cons_zero, List.getElem?_cons_succ, List.set_cons_zero, List.set_cons_succ, List.map_cons, List.map_nil, List.cons_append, List.nil_append, List.replicate_succ, List.replicate_zero, Nat.sub_self, datsV_n, datsV_d, wipe_n, wipe_c, setG_n, setG_t, setGs_n, setGs_c, ix_l, ix_t, atI_0, atI_1, atI_2, atI_3, add_i, sub_i, iadd_i, lt_i, le_i, gt_i, ge_i, eq_i, eq_s, len_l, len_t, int_i, abs_i, max_i, tuple_l, tuple_t, sizeLine_val, w_enum, w_isi, w_fmt, w_jnil, w_jcons, w_join, vK_1, strK_s, ne_i, ne_s, s_raise, s_try, wpR_exc, errIx0, errIx1, errIx2, errIx3, errWord0, errWord1, errWord2, errWord3, w_zip, zipK_2, row_l, row_t, w_back, backK_t, neg_i, w_ssetT, tupK_t, w_callI, callK_0, w_mulLD, mulK_l, w_disp, w_din, w_dget, one1_v, w_dlen, w_glue, w_upperD, w_dvals, s_dput, keyV_i, keyV_s, datV_d, strV_s, refOf_r, dctV_r, dct_z, dct_s, xor_tr, xor_fl, seqOf_l, seqOf_t, List.length_cons, List.length_nil]
        rw [Con.deep]
        refine ⟨by omega, ?_, List.take_length⟩
        congr 5 <;> omega
theorem pairwise_of_risB : ∀ {xs : List PyData}, risB xs = true → xs.Pairwise lessD
  | [], _ => List.Pairwise.nil
  | [a], _ => by simp
  | a :: b :: r, h => by
    rw [risB, Bool.and_eq_true] at h
    have ih := pairwise_of_risB h.2
    rw [List.pairwise_cons]
    refine ⟨fun x hx => ?_, ih⟩
    rw [List.pairwise_cons] at ih
    rcases List.mem_cons.mp hx with rfl | hx
    · exact h.1
    · exact dlt_trans h.1 (ih.1 x hx)
def sumL (ps : List (Str × Con)) : Nat := (ps.map fun p => 1 + p.2.size).sum
theorem sumL_perm {ps qs : List (Str × Con)} (p : ps.Perm qs) : sumL ps = sumL qs := (p.map _).sum_nat
theorem sumL_snoc (ps : List (Str × Con)) (p : Str × Con) : sumL (ps ++ [p]) = sumL ps + (1 + p.2.size) := by simp [sumL]
theorem lks_of2 {D : Nat} : ∀ {ys : List (Str × Con)}, (∀ p ∈ ys, nameB p.1 = true ∧ strFine p.1 ∧ fine p.2 ∧ wfB p.2 = true ∧ 1 + p.2.deep ≤ D) → (Lks.of ys).size = sumL ys ∧ (Lks.of ys).deep ≤ D ∧ fineL (Lks.of ys) ∧ wfL (Lks.of ys) = true
  | [], _ => by
    rw [Lks.of, Lks.size, Lks.deep, fineL, wfL]
    exact ⟨rfl, Nat.zero_le _, trivial, rfl⟩
  | (r, c) :: ys, h => by
    obtain ⟨a1, a2, a3, a4⟩ := lks_of2 fun p hp => h p (List.mem_cons_of_mem _ hp)
    obtain ⟨n1, n2, o1, o2, o3⟩ := h (r, c) (List.mem_cons_self ..)
    have n1' : nameB r = true := n1
    have o4 : wfB c = true := o2
    have o5 : 1 + c.deep ≤ D := o3
    rw [Lks.of, Lks.size, Lks.deep, fineL, wfL, n1', o4, a4, a1]
    refine ⟨?_, by omega, ⟨n2, o1, a3⟩, rfl⟩
    simp [sumL]
theorem con_ok2 {W xs : List Str} {ys : List (Str × Con)} {D sz dp : Nat} (w : Wds W) (sub : xs.Sublist W) (hy : ∀ p ∈ ys, nameB p.1 = true ∧ strFine p.1 ∧ fine p.2 ∧ wfB p.2 = true ∧ 1 + p.2.deep ≤ D) (asc : (ys.map lkD).Pairwise lessD)
    (h1 : xs.length + sumL ys ≤ sz) (h2 : D ≤ dp) : Ok (.mk xs (Lks.of ys)) sz dp := by
  obtain ⟨a1, a2, a3, a4⟩ := lks_of2 hy
  refine ⟨by rw [Con.size]; omega, by rw [Con.deep]; omega, ?_, ?_⟩
  · rw [Dn.fine]
    exact ⟨fun n hn => w.fine n (sub.subset hn), a3⟩
  · rw [wfB, a4, risB_of (w.asc.sublist (sub.map _)), Lks.data_list, Lks.list_of, risB_of asc, List.all_eq_true.mpr fun n hn => w.name n (sub.subset hn)]
    rfl
theorem wds_of {ns : List Str} {ls : Lks} (f : fine (.mk ns ls)) (w : wfB (.mk ns ls) = true) : Wds ns ∧ fineL ls ∧ wfL ls = true := by
  rw [fine] at f
  rw [wfB, Bool.and_eq_true, Bool.and_eq_true, Bool.and_eq_true] at w
  exact ⟨⟨pairwise_of_risB w.1.2, List.all_eq_true.mp w.1.1, f.1⟩, f.2, w.2.1⟩
mutual
def wkS : Con → Nat
  | .mk ns ls => ns.length + wkL ls
def wkL : Lks → Nat
  | .nil => 0
  | .cons _ c ls => 2 * (1 + wkS c) + wkL ls
end
mutual
theorem wkS_le : ∀ c : Con, wkS c ≤ 2 ^ c.deep * c.size
  | .mk ns ls => by
    have := wkL_le ls
    have h : 1 ≤ 2 ^ ls.deep := Nat.one_le_two_pow
    rw [wkS, Con.deep, Con.size, Nat.mul_add]
    have : ns.length ≤ 2 ^ ls.deep * ns.length := Nat.le_mul_of_pos_left _ h
    omega
theorem wkL_le : ∀ c : Lks, wkL c ≤ 2 ^ c.deep * c.size
  | .nil => by rw [wkL]; exact Nat.zero_le _
  | .cons r c ls => by
    have a := wkL_le ls
    have b := wkS_le c
    rw [wkL, Lks.deep, Lks.size]
    have h1 : 2 * 2 ^ c.deep ≤ 2 ^ (max (1 + c.deep) ls.deep) := by
      rw [← Nat.pow_succ']
      exact Nat.pow_le_pow_right (by omega) (by omega)
    have h2 : 2 ^ ls.deep ≤ 2 ^ (max (1 + c.deep) ls.deep) := Nat.pow_le_pow_right (by omega) (by omega)
    have h3 : 1 ≤ 2 ^ c.deep := Nat.one_le_two_pow
    have h4 : 2 * (1 + wkS c) ≤ 2 * 2 ^ c.deep * (1 + c.size) := by
      rw [Nat.mul_assoc]
      have : 1 + wkS c ≤ 2 ^ c.deep * (1 + c.size) := by rw [Nat.mul_add, Nat.mul_one]; omega
      omega
    have h5 := Nat.mul_le_mul_right (1 + c.size) h1
    have h6 := Nat.mul_le_mul_right ls.size h2
    rw [Nat.mul_add (2 ^ (max (1 + c.deep) ls.deep))]
    omega
end
end Pg
end

section
namespace Pg
open PySem PySem.Spec PyProof.Rows L2 Dn
def szG (m : Nat) : Nat → Nat
  | 0 => m
  | d + 1 => m + 3 * (1 + szG m d)
def coG (m : Nat) : Nat → Nat
  | 0 => m
  | d + 1 => m + 1 + 3 * (1 + coG m d)
theorem conceptG_spec {s : List Int} {W V : List Str} {m : Nat} {w : Int} (hm : m ≤ 20) (w0 : 0 ≤ w) (w3 : w ≤ 3) (wW : Wds W) (wV : Wds V) (lW : W.length ≤ m) (lV : V.length ≤ 20) (nV : V ≠ []) : ∀ (d k : Nat) (n : Int) (hs : Hl), Sk s n (coG m d) → d + 2 ≤ k → d ≤ 10 →
    wpR (callD prog k i__law_concept [.ref 0, .dat (.tuple [.tuple (W.map .str), .tuple (V.map .str)]), .dat (.int d), .dat (.int w)] (st s n :: hs)) (fun v h => ∃ (c : Con) (n' : Int), v = .dat c.data ∧ Ok c (szG m d) d ∧ n ≤ n' ∧ n' ≤ n + coG m d ∧ h = st s n' :: hs) noX := by
  intro d
  induction d using Nat.strongRecOn with
  | _ d ih =>
    intro k n hs S hk hd
    obtain ⟨k, rfl⟩ : ∃ i, k = i + 1 := ⟨k - 1, by omega⟩
    rw [call_at (r := r__law_concept) rfl]
    refine fn_rule rfl ?_
    show wpS (D__law_concept (callD prog k) [some (.ref 0), some (.dat (.tuple [.tuple (W.map .str), .tuple (V.map .str)])), some (.dat (.int d)), some (.dat (.int w)), none, none, none, none, none, none] (st s n :: hs)) _ _
    simp only [D__law_concept, s_nil, s_brk, s_cont, s_seq, s_expr, s_ret, s_retN, s_set, s_setL, s_newL, s_unp, s_par, s_aug, s_six, s_if, s_for, w_var, w_mv2, mvK_d, mvK_r, w_c, w_bin, w_un, w_tst, w_and, w_or, w_not, w_andV, w_orV, w_notV, w_if, w_nil, w_cons, w_tup, w_lst, w_as, w_bc, w_lc, w_call, w_no, w_some, w_slice, w_app, w_ext, w_pop, w_seqD, w_rng1, w_comp, wpR_ok, optK_some, boolK_b, intK_i, oneK_d, oneL_d, twoK_2, sixK_r, rngK_i, rtK_d, peek_d, peek_r, peeks_n, peeks_c, own_r, lst_z, lst_s, Option.map_some, Option.bind_some, Option.join_some, List.getElem?_cons_zero, List.getElem?_cons_succ, List.set_cons_zero, List.set_cons_succ, List.map_cons, List.map_nil, List.cons_append, List.nil_append, List.replicate_succ, List.replicate_zero, Nat.sub_self, datsV_n, datsV_d, wipe_n, wipe_c, setG_n, setG_t, setGs_n, setGs_c, ix_l, ix_t, atI_0, atI_1, atI_2, atI_3, add_i, sub_i, iadd_i, lt_i, le_i, gt_i, ge_i, eq_i, eq_s, len_l, len_t, int_i, abs_i, max_i, tuple_l, tuple_t, sizeLine_val, w_enum, w_isi, w_fmt, w_jnil, w_jcons, w_join, vK_1, strK_s, ne_i, ne_s, s_raise, s_try, wpR_exc, errIx0, errIx1, errIx2, errIx3, errWord0, errWord1, errWord2, errWord3, w_zip, zipK_2, row_l, row_t, w_back, backK_t, neg_i, w_ssetT, tupK_t, w_callI, callK_0, w_mulLD, mulK_l, w_disp, w_din, w_dget, one1_v, w_dlen, w_glue, w_upperD, w_dvals, s_dput, keyV_i, keyV_s, datV_d, strV_s, refOf_r, dctV_r, dct_z, dct_s, xor_tr, xor_fl, seqOf_l, seqOf_t, itemsOf]
    have c4 : m ≤ coG m d := by cases d <;> (unfold coG; omega)
    refine comp_rule (fun ds acc h' => ∃ (xs rs : List Str) (n' : Int), ds = rs.map .str ∧ acc = xs.map .str ∧ (xs ++ rs).Sublist W ∧ h' = st s n' :: hs ∧ n ≤ n' ∧ n' + rs.length ≤ n + W.length) (fun d' ds acc h' I => ?_) (fun acc h' I => ?_) _ _ _ ⟨[], W, n, rfl, rfl, List.Sublist.refl _, rfl, by omega, by omega⟩
    · obtain ⟨xs, rs, n', e1, rfl, sub, rfl, l1, l2⟩ := I
      cases rs with
      | nil => cases e1
      | cons r rs =>
        cases e1
        rw [List.length_cons] at l2
        have hl := sub.length_le
        rw [List.length_append, List.length_cons] at hl
        refine ⟨rfl, ?_⟩
        simp only [s_nil, s_brk, s_cont, s_seq, s_expr, s_ret, s_retN, s_set, s_setL, s_newL, s_unp, s_par, s_aug, s_six, s_if, s_for, w_var, w_mv2, mvK_d, mvK_r, w_c, w_bin, w_un, w_tst, w_and, w_or, w_not, w_andV, w_orV, w_notV, w_if, w_nil, w_cons, w_tup, w_lst, w_as, w_bc, w_lc, w_call, w_no, w_some, w_slice, w_app, w_ext, w_pop, w_seqD, w_rng1, w_comp, wpR_ok, optK_some, boolK_b, intK_i, oneK_d, oneL_d, twoK_2, sixK_r, rngK_i, rtK_d, peek_d, peek_r, peeks_n, peeks_c, own_r, lst_z, lst_s, Option.map_some, Option.bind_some, Option.join_some, List.getElem?_cons_zero, List.getElem?_cons_succ, List.set_cons_zero, List.set_cons_succ, List.map_cons, List.map_nil, List.cons_append, List.nil_append, List.replicate_succ, List.replicate_zero, Nat.sub_self, datsV_n, datsV_d, wipe_n, wipe_c, setG_n, setG_t, setGs_n, setGs_c, ix_l, ix_t, atI_0, atI_1, atI_2, atI_3, add_i, sub_i, iadd_i, lt_i, le_i, gt_i, ge_i, eq_i, eq_s, len_l, len_t, int_i, abs_i, max_i, tuple_l, tuple_t, sizeLine_val, w_enum, w_isi, w_fmt, w_jnil, w_jcons, w_join, vK_1, strK_s, ne_i, ne_s, s_raise, s_try, wpR_exc, errIx0, errIx1, errIx2, errIx3, errWord0, errWord1, errWord2, errWord3, w_zip, zipK_2, row_l, row_t, w_back, backK_t, neg_i, w_ssetT, tupK_t, w_callI, callK_0, w_mulLD, mulK_l, w_disp, w_din, w_dget, one1_v, w_dlen, w_glue, w_upperD, w_dvals, s_dput, keyV_i, keyV_s, datV_d, strV_s, refOf_r, dctV_r, dct_z, dct_s, xor_tr, xor_fl, seqOf_l, seqOf_t]
        have S1 : Sk s n' 1 := S.less l1 (by omega)
        refine wpR_imp (S1.next (by decide) (by decide) (by omega)) fun v h => ?_
        rintro ⟨x, rfl, x0, x1, rfl⟩
        simp only [s_nil, s_brk, s_cont, s_seq, s_expr, s_ret, s_retN, s_set, s_setL, s_newL, s_unp, s_par, s_aug, s_six, s_if, s_for, w_var, w_mv2, mvK_d, mvK_r, w_c, w_bin, w_un, w_tst, w_and, w_or, w_not, w_andV, w_orV, w_notV, w_if, w_nil, w_cons, w_tup, w_lst, w_as, w_bc, w_lc, w_call, w_no, w_some, w_slice, w_app, w_ext, w_pop, w_seqD, w_rng1, w_comp, wpR_ok, optK_some, boolK_b, intK_i, oneK_d, oneL_d, twoK_2, sixK_r, rngK_i, rtK_d, peek_d, peek_r, peeks_n, peeks_c, own_r, lst_z, lst_s, Option.map_some, Option.bind_some, Option.join_some, List.getElem?_cons_zero, List.getElem?_cons_succ, List.set_cons_zero, List.set_cons_succ, List.map_cons, List.map_nil, List.cons_append, List.nil_append, List.replicate_succ, List.replicate_zero, Nat.sub_self, datsV_n, datsV_d, wipe_n, wipe_c, setG_n, setG_t, setGs_n, setGs_c, ix_l, ix_t, atI_0, atI_1, atI_2, atI_3, add_i, sub_i, iadd_i, lt_i, le_i, gt_i, ge_i, eq_i, eq_s, len_l, len_t, int_i, abs_i, max_i, tuple_l, tuple_t, sizeLine_val, w_enum, w_isi, w_fmt, w_jnil, w_jcons, w_join, vK_1, strK_s, ne_i, ne_s, s_raise, s_try, wpR_exc, errIx0, errIx1, errIx2, errIx3, errWord0, errWord1, errWord2, errWord3, w_zip, zipK_2, row_l, row_t, w_back, backK_t, neg_i, w_ssetT, tupK_t, w_callI, callK_0, w_mulLD, mulK_l, w_disp, w_din, w_dget, one1_v, w_dlen, w_glue, w_upperD, w_dvals, s_dput, keyV_i, keyV_s, datV_d, strV_s, refOf_r, dctV_r, dct_z, dct_s, xor_tr, xor_fl, seqOf_l, seqOf_t, List.length_map]
        split
        · exact ⟨by omega, xs ++ [r], rs, _, rfl, by simp, by simpa using sub, rfl, by omega, by omega⟩
        · exact ⟨xs, rs, _, rfl, rfl, (List.Sublist.append_left (List.sublist_cons_self _ _) _).trans sub, rfl, by omega, by omega⟩
    · obtain ⟨xs, rs, n1, e1, rfl, sub, rfl, l1, l2⟩ := I
      refine ⟨rfl, ?_⟩
      have l3 : n1 ≤ n + m := by omega
      have sub' : xs.Sublist W := by
        cases rs with
        | nil => simpa using sub
        | cons r rs => cases e1
      have lx := sub'.length_le
      clear sub e1 l2
      simp only [s_nil, s_brk, s_cont, s_seq, s_expr, s_ret, s_retN, s_set, s_setL, s_newL, s_unp, s_par, s_aug, s_six, s_if, s_for, w_var, w_mv2, mvK_d, mvK_r, w_c, w_bin, w_un, w_tst, w_and, w_or, w_not, w_andV, w_orV, w_notV, w_if, w_nil, w_cons, w_tup, w_lst, w_as, w_bc, w_lc, w_call, w_no, w_some, w_slice, w_app, w_ext, w_pop, w_seqD, w_rng1, w_comp, wpR_ok, optK_some, boolK_b, intK_i, oneK_d, oneL_d, twoK_2, sixK_r, rngK_i, rtK_d, peek_d, peek_r, peeks_n, peeks_c, own_r, lst_z, lst_s, Option.map_some, Option.bind_some, Option.join_some, List.getElem?_cons_zero, List.getElem?_cons_succ, List.set_cons_zero, List.set_cons_succ, List.map_cons, List.map_nil, List.cons_append, List.nil_append, List.replicate_succ, List.replicate_zero, Nat.sub_self, datsV_n, datsV_d, wipe_n, wipe_c, setG_n, setG_t, setGs_n, setGs_c, ix_l, ix_t, atI_0, atI_1, atI_2, atI_3, add_i, sub_i, iadd_i, lt_i, le_i, gt_i, ge_i, eq_i, eq_s, len_l, len_t, int_i, abs_i, max_i, tuple_l, tuple_t, sizeLine_val, w_enum, w_isi, w_fmt, w_jnil, w_jcons, w_join, vK_1, strK_s, ne_i, ne_s, s_raise, s_try, wpR_exc, errIx0, errIx1, errIx2, errIx3, errWord0, errWord1, errWord2, errWord3, w_zip, zipK_2, row_l, row_t, w_back, backK_t, neg_i, w_ssetT, tupK_t, w_callI, callK_0, w_mulLD, mulK_l, w_disp, w_din, w_dget, one1_v, w_dlen, w_glue, w_upperD, w_dvals, s_dput, keyV_i, keyV_s, datV_d, strV_s, refOf_r, dctV_r, dct_z, dct_s, xor_tr, xor_fl, seqOf_l, seqOf_t, List.length_nil, List.length_cons, List.length_map]
      refine ⟨by omega, ?_⟩
      have fin : ∀ (ps : List (Str × Con)) (b dd : Nat) (n' : Int), ps.Nodup → (∀ p ∈ ps, nameB p.1 = true ∧ strFine p.1 ∧ Ok p.2 b dd) → dd ≤ 10 → (m + ps.length * (1 + b) ≤ szG m d) → (ps = [] ∨ dd + 1 ≤ d) → ps.length ≤ 3 → n ≤ n' → n' ≤ n + coG m d →
          optK (sortedD [.list (ps.map lkD)]) fun z => 0 + 1 + 1 ≤ 16777216 ∧ ∃ (c : Con) (n'' : Int), Val.dat (.tuple [.tuple (xs.map .str), .tuple z]) = .dat c.data ∧ Ok c (szG m d) d ∧ n ≤ n'' ∧ n'' ≤ n + coG m d ∧ List.take (hs.length + 1) (st s n' :: (hs ++ [some (HObj.lst (ps.map lkD))])) = st s n'' :: hs := by
        intro ps b dd n' nd hp hdd h1 h2 h3 h4 h5
        obtain ⟨ys, ey, p, asc⟩ := sorted_lks nd (by omega) (fun p hp' => by have := (hp p hp').2.2.deep; omega)
        rw [ey, optK_some]
        refine ⟨by omega, _, n', by rw [← mk_data], con_ok wW sub' (fun q hq => hp q (p.mem_iff.mp hq)) asc ?_ ?_, h4, h5, take_end1 _ _ _⟩
        · rw [p.length_eq]
          omega
        · rcases h2 with rfl | h2
          · exact .inl p.eq_nil
          · exact .inr h2
      cases d with
      | zero =>
        rw [if_neg (by simp), if_neg (by simp)]
        simp only [s_nil, s_brk, s_cont, s_seq, s_expr, s_ret, s_retN, s_set, s_setL, s_newL, s_unp, s_par, s_aug, s_six, s_if, s_for, w_var, w_mv2, mvK_d, mvK_r, w_c, w_bin, w_un, w_tst, w_and, w_or, w_not, w_andV, w_orV, w_notV, w_if, w_nil, w_cons, w_tup, w_lst, w_as, w_bc, w_lc, w_call, w_no, w_some, w_slice, w_app, w_ext, w_pop, w_seqD, w_rng1, w_comp, wpR_ok, optK_some, boolK_b, intK_i, oneK_d, oneL_d, twoK_2, sixK_r, rngK_i, rtK_d, peek_d, peek_r, peeks_n, peeks_c, own_r, lst_z, lst_s, Option.map_some, Option.bind_some, Option.join_some, List.getElem?_cons_zero, List.getElem?_cons_succ, List.set_cons_zero, List.set_cons_succ, List.map_cons, List.map_nil, List.cons_append, List.nil_append, List.replicate_succ, List.replicate_zero, Nat.sub_self, datsV_n, datsV_d, wipe_n, wipe_c, setG_n, setG_t, setGs_n, setGs_c, ix_l, ix_t, atI_0, atI_1, atI_2, atI_3, add_i, sub_i, iadd_i, lt_i, le_i, gt_i, ge_i, eq_i, eq_s, len_l, len_t, int_i, abs_i, max_i, tuple_l, tuple_t, sizeLine_val, w_enum, w_isi, w_fmt, w_jnil, w_jcons, w_join, vK_1, strK_s, ne_i, ne_s, s_raise, s_try, wpR_exc, errIx0, errIx1, errIx2, errIx3, errWord0, errWord1, errWord2, errWord3, w_zip, zipK_2, row_l, row_t, w_back, backK_t, neg_i, w_ssetT, tupK_t, w_callI, callK_0, w_mulLD, mulK_l, w_disp, w_din, w_dget, one1_v, w_dlen, w_glue, w_upperD, w_dvals, s_dput, keyV_i, keyV_s, datV_d, strV_s, refOf_r, dctV_r, dct_z, dct_s, xor_tr, xor_fl, seqOf_l, seqOf_t, lst_end]
        exact fin [] 0 0 n1 List.nodup_nil (fun p hp => (nomatch hp)) (by omega) (by show m + 0 * (1 + 0) ≤ m; omega) (.inl rfl) (by simp) l1 (by show n1 ≤ n + (m : Nat); omega)
      | succ d =>
        have c5 : coG m (d + 1) = m + 1 + 3 * (1 + coG m d) := rfl
        have s5 : szG m (d + 1) = m + 3 * (1 + szG m d) := rfl
        have lv : 0 < V.length := by
          cases V with
          | nil => exact absurd rfl nV
          | cons _ _ => simp
        rw [if_pos (decide_eq_true (by omega)), if_pos (decide_eq_true (by omega))]
        have S1 : Sk s n1 1 := S.less l1 (by omega)
        refine wpR_imp (S1.next (by omega) (by decide) (by omega)) fun v h => ?_
        rintro ⟨x, rfl, x0, x1, rfl⟩
        simp only [s_nil, s_brk, s_cont, s_seq, s_expr, s_ret, s_retN, s_set, s_setL, s_newL, s_unp, s_par, s_aug, s_six, s_if, s_for, w_var, w_mv2, mvK_d, mvK_r, w_c, w_bin, w_un, w_tst, w_and, w_or, w_not, w_andV, w_orV, w_notV, w_if, w_nil, w_cons, w_tup, w_lst, w_as, w_bc, w_lc, w_call, w_no, w_some, w_slice, w_app, w_ext, w_pop, w_seqD, w_rng1, w_comp, wpR_ok, optK_some, boolK_b, intK_i, oneK_d, oneL_d, twoK_2, sixK_r, rngK_i, rtK_d, peek_d, peek_r, peeks_n, peeks_c, own_r, lst_z, lst_s, Option.map_some, Option.bind_some, Option.join_some, List.getElem?_cons_zero, List.getElem?_cons_succ, List.set_cons_zero, List.set_cons_succ, List.map_cons, List.map_nil, List.cons_append, List.nil_append, List.replicate_succ, List.replicate_zero, Nat.sub_self, datsV_n, datsV_d, wipe_n, wipe_c, setG_n, setG_t, setGs_n, setGs_c, ix_l, ix_t, atI_0, atI_1, atI_2, atI_3, add_i, sub_i, iadd_i, lt_i, le_i, gt_i, ge_i, eq_i, eq_s, len_l, len_t, int_i, abs_i, max_i, tuple_l, tuple_t, sizeLine_val, w_enum, w_isi, w_fmt, w_jnil, w_jcons, w_join, vK_1, strK_s, ne_i, ne_s, s_raise, s_try, wpR_exc, errIx0, errIx1, errIx2, errIx3, errWord0, errWord1, errWord2, errWord3, w_zip, zipK_2, row_l, row_t, w_back, backK_t, neg_i, w_ssetT, tupK_t, w_callI, callK_0, w_mulLD, mulK_l, w_disp, w_din, w_dget, one1_v, w_dlen, w_glue, w_upperD, w_dvals, s_dput, keyV_i, keyV_s, datV_d, strV_s, refOf_r, dctV_r, dct_z, dct_s, xor_tr, xor_fl, seqOf_l, seqOf_t]
        refine ⟨by simp only [rngOk, Bool.and_eq_true, decide_eq_true_eq]; omega, ?_⟩
        refine for_rule (fun ds ρ h' => ∃ (ps : List (Str × Con)) (a b c' : Option Val) (n' : Int), ρ = [some (.ref 0), some (.dat (.tuple [.tuple (W.map .str), .tuple (V.map .str)])), some (.dat (.int (d + 1 : Nat))), some (.dat (.int w)), some (.dat (.list (xs.map .str))), some (.ref (hs.length + 1)), a, b, c', none] ∧
            h' = st s n' :: (hs ++ [some (HObj.lst (ps.map lkD))]) ∧ ps.Nodup ∧ (∀ p ∈ ps, nameB p.1 = true ∧ strFine p.1 ∧ Ok p.2 (szG m d) d) ∧ ps.length + ds.length ≤ 3 ∧ n ≤ n' ∧ n' + ds.length * (1 + coG m d) ≤ n + coG m (d + 1))
          (fun d' ds ρ h' I => ?_) (fun ρ h' I => ?_) _ _ _ ⟨[], none, none, none, n1 + 1, rfl, rfl, List.nodup_nil, fun p hp => (nomatch hp), by simp [rngItems]; omega, by omega, ?_⟩
        · obtain ⟨ps, a, b, c', n', rfl, rfl, nd, hp, k1, k2, k3⟩ := I
          rw [List.length_cons] at k1 k3
          have k3' : n' + (1 + coG m d) + ds.length * (1 + coG m d) ≤ n + coG m (d + 1) := by
            have : ((ds.length + 1 : Nat) : Int) * (1 + (coG m d : Int)) = (ds.length : Int) * (1 + (coG m d : Int)) + (1 + (coG m d : Int)) := by
              rw [Int.natCast_add, Int.add_mul]; simp
            omega
          have k4 : 0 ≤ (ds.length : Int) * (1 + (coG m d : Int)) := Int.mul_nonneg (by omega) (by omega)
          refine ⟨rfl, ?_⟩
          simp only [s_nil, s_brk, s_cont, s_seq, s_expr, s_ret, s_retN, s_set, s_setL, s_newL, s_unp, s_par, s_aug, s_six, s_if, s_for, w_var, w_mv2, mvK_d, mvK_r, w_c, w_bin, w_un, w_tst, w_and, w_or, w_not, w_andV, w_orV, w_notV, w_if, w_nil, w_cons, w_tup, w_lst, w_as, w_bc, w_lc, w_call, w_no, w_some, w_slice, w_app, w_ext, w_pop, w_seqD, w_rng1, w_comp, wpR_ok, optK_some, boolK_b, intK_i, oneK_d, oneL_d, twoK_2, sixK_r, rngK_i, rtK_d, peek_d, peek_r, peeks_n, peeks_c, own_r, lst_z, lst_s, Option.map_some, Option.bind_some, Option.join_some, List.getElem?_cons_zero, List.getElem?_cons_succ, List.set_cons_zero, List.set_cons_succ, List.map_cons, List.map_nil, List.cons_append, List.nil_append, List.replicate_succ, List.replicate_zero, Nat.sub_self, datsV_n, datsV_d, wipe_n, wipe_c, setG_n, setG_t, setGs_n, setGs_c, ix_l, ix_t, atI_0, atI_1, atI_2, atI_3, add_i, sub_i, iadd_i, lt_i, le_i, gt_i, ge_i, eq_i, eq_s, len_l, len_t, int_i, abs_i, max_i, tuple_l, tuple_t, sizeLine_val, w_enum, w_isi, w_fmt, w_jnil, w_jcons, w_join, vK_1, strK_s, ne_i, ne_s, s_raise, s_try, wpR_exc, errIx0, errIx1, errIx2, errIx3, errWord0, errWord1, errWord2, errWord3, w_zip, zipK_2, row_l, row_t, w_back, backK_t, neg_i, w_ssetT, tupK_t, w_callI, callK_0, w_mulLD, mulK_l, w_disp, w_din, w_dget, one1_v, w_dlen, w_glue, w_upperD, w_dvals, s_dput, keyV_i, keyV_s, datV_d, strV_s, refOf_r, dctV_r, dct_z, dct_s, xor_tr, xor_fl, seqOf_l, seqOf_t, List.length_map]
          have S2 : Sk s n' (1 + coG m d) := S.less k2 (by omega)
          have S3 : Sk s n' 1 := S2.less (by omega) (by omega)
          refine wpR_imp (S3.next (by omega) (by decide) (by omega)) fun v h => ?_
          rintro ⟨y, rfl, y0, y1, rfl⟩
          simp only [s_nil, s_brk, s_cont, s_seq, s_expr, s_ret, s_retN, s_set, s_setL, s_newL, s_unp, s_par, s_aug, s_six, s_if, s_for, w_var, w_mv2, mvK_d, mvK_r, w_c, w_bin, w_un, w_tst, w_and, w_or, w_not, w_andV, w_orV, w_notV, w_if, w_nil, w_cons, w_tup, w_lst, w_as, w_bc, w_lc, w_call, w_no, w_some, w_slice, w_app, w_ext, w_pop, w_seqD, w_rng1, w_comp, wpR_ok, optK_some, boolK_b, intK_i, oneK_d, oneL_d, twoK_2, sixK_r, rngK_i, rtK_d, peek_d, peek_r, peeks_n, peeks_c, own_r, lst_z, lst_s, Option.map_some, Option.bind_some, Option.join_some, List.getElem?_cons_zero, List.getElem?_cons_succ, List.set_cons_zero, List.set_cons_succ, List.map_cons, List.map_nil, List.cons_append, List.nil_append, List.replicate_succ, List.replicate_zero, Nat.sub_self, datsV_n, datsV_d, wipe_n, wipe_c, setG_n, setG_t, setGs_n, setGs_c, ix_l, ix_t, atI_0, atI_1, atI_2, atI_3, add_i, sub_i, iadd_i, lt_i, le_i, gt_i, ge_i, eq_i, eq_s, len_l, len_t, int_i, abs_i, max_i, tuple_l, tuple_t, sizeLine_val, w_enum, w_isi, w_fmt, w_jnil, w_jcons, w_join, vK_1, strK_s, ne_i, ne_s, s_raise, s_try, wpR_exc, errIx0, errIx1, errIx2, errIx3, errWord0, errWord1, errWord2, errWord3, w_zip, zipK_2, row_l, row_t, w_back, backK_t, neg_i, w_ssetT, tupK_t, w_callI, callK_0, w_mulLD, mulK_l, w_disp, w_din, w_dget, one1_v, w_dlen, w_glue, w_upperD, w_dvals, s_dput, keyV_i, keyV_s, datV_d, strV_s, refOf_r, dctV_r, dct_z, dct_s, xor_tr, xor_fl, seqOf_l, seqOf_t]
          obtain ⟨r, er, hr⟩ := atI_mem (xs := V.map PyData.str) y0 (by rw [List.length_map]; exact y1)
          obtain ⟨r, hrv, rfl⟩ := List.mem_map.mp hr
          rw [er, optK_some]
          have e1 : ((d + 1 : Nat) : Int) - 1 = (d : Int) := by omega
          rw [e1]
          refine wpR_imp (ih d (by omega) k (n' + 1) _ (S2.less (by omega) (by omega)) (by omega) (by omega)) fun v h => ?_
          rintro ⟨c, mm, rfl, oc, m0, m1, rfl⟩
          have od := oc.deep
          have ld := lkD_depth (r, c)
          have lde : (lkD (r, c)).depth ≤ 60 := by
            have : (lkD (r, c)).depth ≤ 3 * c.deep + 3 := ld
            omega
          simp only [s_nil, s_brk, s_cont, s_seq, s_expr, s_ret, s_retN, s_set, s_setL, s_newL, s_unp, s_par, s_aug, s_six, s_if, s_for, w_var, w_mv2, mvK_d, mvK_r, w_c, w_bin, w_un, w_tst, w_and, w_or, w_not, w_andV, w_orV, w_notV, w_if, w_nil, w_cons, w_tup, w_lst, w_as, w_bc, w_lc, w_call, w_no, w_some, w_slice, w_app, w_ext, w_pop, w_seqD, w_rng1, w_comp, wpR_ok, optK_some, boolK_b, intK_i, oneK_d, oneL_d, twoK_2, sixK_r, rngK_i, rtK_d, peek_d, peek_r, peeks_n, peeks_c, own_r, lst_z, lst_s, Option.map_some, Option.bind_some, Option.join_some, List.getElem?_cons_zero, List.getElem?_cons_succ, List.set_cons_zero, List.set_cons_succ, List.map_cons, List.map_nil, List.cons_append, List.nil_append, List.replicate_succ, List.replicate_zero, Nat.sub_self, datsV_n, datsV_d, wipe_n, wipe_c, setG_n, setG_t, setGs_n, setGs_c, ix_l, ix_t, atI_0, atI_1, atI_2, atI_3, add_i, sub_i, iadd_i, lt_i, le_i, gt_i, ge_i, eq_i, eq_s, len_l, len_t, int_i, abs_i, max_i, tuple_l, tuple_t, sizeLine_val, w_enum, w_isi, w_fmt, w_jnil, w_jcons, w_join, vK_1, strK_s, ne_i, ne_s, s_raise, s_try, wpR_exc, errIx0, errIx1, errIx2, errIx3, errWord0, errWord1, errWord2, errWord3, w_zip, zipK_2, row_l, row_t, w_back, backK_t, neg_i, w_ssetT, tupK_t, w_callI, callK_0, w_mulLD, mulK_l, w_disp, w_din, w_dget, one1_v, w_dlen, w_glue, w_upperD, w_dvals, s_dput, keyV_i, keyV_s, datV_d, strV_s, refOf_r, dctV_r, dct_z, dct_s, xor_tr, xor_fl, seqOf_l, seqOf_t, lst_end, List.length_cons, List.length_nil]
          refine ⟨by omega, ?_⟩
          rw [show PyData.tuple [PyData.str r, c.data] = lkD (r, c) from rfl, notin_l (by omega), optK_some, boolK_b]
          by_cases q : (r, c) ∈ ps
          · rw [any_lks.mpr q, if_neg (by simp)]
            exact ⟨ps, _, _, _, mm, rfl, rfl, nd, hp, by omega, by omega, by omega⟩
          · have q' : ((ps.map lkD).any fun y => PyData.eqv y (lkD (r, c))) = false := by
              cases z : ((ps.map lkD).any fun y => PyData.eqv y (lkD (r, c))) with
              | false => rfl
              | true => exact absurd (any_lks.mp z) q
            rw [q', if_pos (by rfl)]
            refine ⟨by rw [List.length_map]; omega, ps ++ [(r, c)], _, _, _, mm, rfl, by rw [set_end]; simp, ?_, ?_, by simp; omega, by omega, by omega⟩
            · rw [List.nodup_append]
              exact ⟨nd, by simp, fun a ha b hb e => q (by
                have e1 : b = (r, c) := by simpa using hb
                rw [← e1, ← e]; exact ha)⟩
            · intro x hx
              rcases List.mem_append.mp hx with hx | hx
              · exact hp x hx
              · have e1 : x = (r, c) := by simpa using hx
                rw [e1]
                exact ⟨wV.name r hrv, wV.fine r hrv, oc⟩
        · obtain ⟨ps, a, b, c', n', rfl, rfl, nd, hp, k1, k2, k3⟩ := I
          refine ⟨rfl, ?_⟩
          simp only [s_nil, s_brk, s_cont, s_seq, s_expr, s_ret, s_retN, s_set, s_setL, s_newL, s_unp, s_par, s_aug, s_six, s_if, s_for, w_var, w_mv2, mvK_d, mvK_r, w_c, w_bin, w_un, w_tst, w_and, w_or, w_not, w_andV, w_orV, w_notV, w_if, w_nil, w_cons, w_tup, w_lst, w_as, w_bc, w_lc, w_call, w_no, w_some, w_slice, w_app, w_ext, w_pop, w_seqD, w_rng1, w_comp, wpR_ok, optK_some, boolK_b, intK_i, oneK_d, oneL_d, twoK_2, sixK_r, rngK_i, rtK_d, peek_d, peek_r, peeks_n, peeks_c, own_r, lst_z, lst_s, Option.map_some, Option.bind_some, Option.join_some, List.getElem?_cons_zero, List.getElem?_cons_succ, List.set_cons_zero, List.set_cons_succ, List.map_cons, List.map_nil, List.cons_append, List.nil_append, List.replicate_succ, List.replicate_zero, Nat.sub_self, datsV_n, datsV_d, wipe_n, wipe_c, setG_n, setG_t, setGs_n, setGs_c, ix_l, ix_t, atI_0, atI_1, atI_2, atI_3, add_i, sub_i, iadd_i, lt_i, le_i, gt_i, ge_i, eq_i, eq_s, len_l, len_t, int_i, abs_i, max_i, tuple_l, tuple_t, sizeLine_val, w_enum, w_isi, w_fmt, w_jnil, w_jcons, w_join, vK_1, strK_s, ne_i, ne_s, s_raise, s_try, wpR_exc, errIx0, errIx1, errIx2, errIx3, errWord0, errWord1, errWord2, errWord3, w_zip, zipK_2, row_l, row_t, w_back, backK_t, neg_i, w_ssetT, tupK_t, w_callI, callK_0, w_mulLD, mulK_l, w_disp, w_din, w_dget, one1_v, w_dlen, w_glue, w_upperD, w_dvals, s_dput, keyV_i, keyV_s, datV_d, strV_s, refOf_r, dctV_r, dct_z, dct_s, xor_tr, xor_fl, seqOf_l, seqOf_t, lst_end]
          have k4 : ps.length ≤ 3 := by simpa using k1
          have k5 : ps.length * (1 + szG m d) ≤ 3 * (1 + szG m d) := Nat.mul_le_mul_right _ k4
          refine fin ps (szG m d) d n' nd hp (by omega) (by omega) (.inr (by omega)) k4 k2 (by simpa using k3)
        · have : ((rngItems 0 x.toNat).length : Int) ≤ 3 := by simp [rngItems]; omega
          have : ((rngItems 0 x.toNat).length : Int) * (1 + (coG m d : Int)) ≤ 3 * (1 + (coG m d : Int)) := Int.mul_le_mul_of_nonneg_right this (by omega)
          omega
end Pg
end

section
namespace Pg
open PySem PySem.Spec PyProof.Rows L2 Dn
/-! the eight ways to spoil a concept -/
structure Sp1 (z d : Nat) (c : Con) : Prop where
  size : c.size ≤ z
  deep : c.deep ≤ d
  fine : fine c
  no : wfB c = false
theorem ris_no {xs : List PyData} (h : ¬ xs.Pairwise lessD) : risB xs = false := by
  cases q : risB xs with
  | false => rfl
  | true => exact absurd (pairwise_of_risB q) h
theorem lessD_no {d : PyData} : ¬ lessD d d := fun h => by
  have := dlt_irrefl d
  rw [show PySem.W.dataLt d d = true from h] at this
  cases this
theorem lessD_two {d e : PyData} (h : lessD d e) : ¬ lessD e d := fun g => by
  have := dlt_asymm h
  rw [show PySem.W.dataLt e d = true from g] at this
  cases this
theorem lk_lt {r s : Str} {c d : PyData} (h : lessD (.str s) (.str r)) : ¬ lessD (.tuple [.str r, c]) (.tuple [.str s, d]) := fun g => by
  have ne : (Sum.inr r.cps.toList : Int ⊕ List Nat) ≠ Sum.inr s.cps.toList := fun e => by
    have : r = s := PySem.W.str_of_cps (Sum.inr.inj e)
    rw [this] at h
    exact lessD_no h
  have g' : PySem.W.dataLt (.tuple [.str r, c]) (.tuple [.str s, d]) = true := g
  unfold PySem.W.dataLt at g'
  rw [show PySem.W.keyToks (.tuple [.str r, c]) = [Sum.inl 1] ++ (Sum.inr r.cps.toList :: (Sum.inl 1 :: (PySem.W.keyToks c ++ [Sum.inl 0]))) from rfl, show PySem.W.keyToks (.tuple [.str s, d]) = [Sum.inl 1] ++ (Sum.inr s.cps.toList :: (Sum.inl 1 :: (PySem.W.keyToks d ++ [Sum.inl 0]))) from rfl, PySem.W.lex_pre, PySem.W.lex_atom ne] at g'
  exact lessD_two h (show PySem.W.dataLt (.str r) (.str s) = true from g')
theorem lk_lt2 {r a : Str} : ¬ lessD (.tuple [.str r, .tuple [.tuple [.str a], .tuple []]]) (.tuple [.str r, .tuple [.tuple [], .tuple []]]) := fun g => by
  have g' : PySem.W.dataLt (.tuple [.str r, .tuple [.tuple [.str a], .tuple []]]) (.tuple [.str r, .tuple [.tuple [], .tuple []]]) = true := g
  unfold PySem.W.dataLt at g'
  rw [show PySem.W.keyToks (.tuple [.str r, .tuple [.tuple [.str a], .tuple []]]) = [Sum.inl 1, Sum.inr r.cps.toList, Sum.inl 1, Sum.inl 1] ++ (Sum.inl 1 :: [Sum.inr a.cps.toList, Sum.inl 0, Sum.inl 1, Sum.inl 0, Sum.inl 0, Sum.inl 0]) from rfl, show PySem.W.keyToks (.tuple [.str r, .tuple [.tuple [], .tuple []]]) = [Sum.inl 1, Sum.inr r.cps.toList, Sum.inl 1, Sum.inl 1] ++ (Sum.inl 0 :: [Sum.inl 1, Sum.inl 0, Sum.inl 0, Sum.inl 0]) from rfl, PySem.W.lex_pre, PySem.W.lex_atom (by decide)] at g'
  exact absurd g' (by decide)
theorem sp_names {xs : List Str} {z d : Nat} (hz : xs.length ≤ z) (f : ∀ n ∈ xs, strFine n) (h : xs.all nameB = false ∨ ¬ (xs.map PyData.str).Pairwise lessD) : Sp1 z d (.mk xs .nil) := by
  refine ⟨by rw [Con.size, Lks.size]; omega, by rw [Con.deep, Lks.deep]; omega, by rw [Dn.fine, fineL]; exact ⟨f, trivial⟩, ?_⟩
  rw [wfB]
  rcases h with h | h
  · rw [h]; rfl
  · rw [ris_no h, Bool.and_false]; rfl
theorem sp_links {ls : Lks} {z d : Nat} (hz : ls.size ≤ z) (hd : ls.deep ≤ d) (f : fineL ls) (h : wfL ls = false ∨ ¬ ls.data.Pairwise lessD) : Sp1 z d (.mk [] ls) := by
  refine ⟨by rw [Con.size]; simpa using hz, by rw [Con.deep]; exact hd, by rw [Dn.fine]; exact ⟨fun n hn => (nomatch hn), f⟩, ?_⟩
  rw [wfB]
  rcases h with h | h
  · rw [h]; simp
  · rw [ris_no h]; simp
theorem wds_app {xs ys : List Str} (w : Wds (xs ++ ys)) : ∀ n ∈ ys, n ∈ xs ++ ys := fun n h => List.mem_append_right _ h
theorem spoil {a b r r2 z l rl : Str} {W V Wi Vi : List Str} {c : Con} (wW : Wds (a :: b :: W)) (wV : Wds (r :: r2 :: V)) (lW : W.length ≤ 3) (eW : a :: b :: W = Wi ++ [l]) (eV : r :: r2 :: V = Vi ++ [rl]) (bz : BadW z) (ok : Ok c 23 1) (x : Int) (x0 : 0 ≤ x) (x1 : x < 8) :
    ∃ c0 : Con, atI [.tuple [.tuple [.str z], .tuple []], .tuple [.tuple [], .tuple [.tuple [.str z, c.data]]], .tuple [.tuple ((a :: b :: W).map PyData.str).reverse, .tuple []], .tuple [.tuple ((a :: b :: W).map PyData.str ++ [.str l]), .tuple []], .tuple [.tuple [.str a, .str a], .tuple []],
      .tuple [.tuple [], .tuple [.tuple [.str r, c.data], .tuple [.str r, c.data]]], .tuple [.tuple [], .tuple [.tuple [.str rl, c.data], .tuple [.str r, c.data]]], .tuple [.tuple [], .tuple [.tuple [.str r, .tuple [.tuple [.str a], .tuple []]], .tuple [.str r, .tuple [.tuple [], .tuple []]]]]] x = some c0.data ∧ Sp1 60 3 c0 := by
  have fa := wW.fine a (by simp)
  have fr := wV.fine r (by simp)
  have lm : l ∈ a :: b :: W := by rw [eW]; simp
  have rm : rl ∈ r :: r2 :: V := by rw [eV]; simp
  have fl := wW.fine l lm
  have frl := wV.fine rl rm
  have cs := ok.size
  have cd := ok.deep
  have : x = 0 ∨ x = 1 ∨ x = 2 ∨ x = 3 ∨ x = 4 ∨ x = 5 ∨ x = 6 ∨ x = 7 := by omega
  rcases this with rfl | rfl | rfl | rfl | rfl | rfl | rfl | rfl
  · exact ⟨.mk [z] .nil, rfl, sp_names (by simp) (fun n hn => by rw [List.mem_singleton.mp hn]; exact bz.fine) (.inl (by simp [bz.no]))⟩
  · exact ⟨.mk [] (.cons z c .nil), rfl, sp_links (by rw [Lks.size, Lks.size]; omega) (by rw [Lks.deep, Lks.deep]; omega) (by rw [fineL, fineL]; exact ⟨bz.fine, ok.fine, trivial⟩) (.inl (by rw [wfL, bz.no]; rfl))⟩
  · refine ⟨.mk (a :: b :: W).reverse .nil, by rw [Con.data, Lks.data, List.map_reverse]; rfl, sp_names (by simp; omega) (fun n hn => wW.fine n (List.mem_reverse.mp hn)) (.inr fun p => ?_)⟩
    rw [List.map_reverse, List.pairwise_reverse] at p
    have p1 := (List.pairwise_cons.mp p).1 (.str b) (by simp)
    have p2 := (List.pairwise_cons.mp wW.asc).1 (.str b) (by simp)
    exact lessD_two p2 p1
  · refine ⟨.mk (a :: b :: W ++ [l]) .nil, by rw [Con.data, Lks.data, List.map_append]; rfl, sp_names (by simp; omega) (fun n hn => ?_) (.inr fun p => ?_)⟩
    · rcases List.mem_append.mp hn with hn | hn
      · exact wW.fine n hn
      · rw [List.mem_singleton.mp hn]; exact fl
    · rw [List.map_append] at p
      exact lessD_no ((List.pairwise_append.mp p).2.2 (.str l) (List.mem_map_of_mem lm) (.str l) (by simp))
  · refine ⟨.mk [a, a] .nil, rfl, sp_names (by simp) (fun n hn => ?_) (.inr fun p => lessD_no ((List.pairwise_cons.mp p).1 (.str a) (by simp)))⟩
    have e : n = a := by simpa using hn
    rw [e]; exact fa
  · exact ⟨.mk [] (.cons r c (.cons r c .nil)), rfl, sp_links (by rw [Lks.size, Lks.size, Lks.size]; omega) (by rw [Lks.deep, Lks.deep, Lks.deep]; omega) (by rw [fineL, fineL, fineL]; exact ⟨fr, ok.fine, fr, ok.fine, trivial⟩) (.inr fun p => lessD_no ((List.pairwise_cons.mp p).1 _ (by rw [Lks.data]; exact List.mem_cons_self ..)))⟩
  · refine ⟨.mk [] (.cons rl c (.cons r c .nil)), rfl, sp_links (by rw [Lks.size, Lks.size, Lks.size]; omega) (by rw [Lks.deep, Lks.deep, Lks.deep]; omega) (by rw [fineL, fineL, fineL]; exact ⟨frl, ok.fine, fr, ok.fine, trivial⟩) (.inr fun p => ?_)⟩
    have h := (List.pairwise_cons.mp p).1 (.tuple [.str r, c.data]) (by rw [Lks.data]; exact List.mem_cons_self ..)
    have hl : rl ∈ r2 :: V := by
      cases Vi with
      | nil => simp at eV
      | cons y Vi => rw [List.cons_append] at eV; injection eV with _ e2; rw [e2]; simp
    exact lk_lt ((List.pairwise_cons.mp wV.asc).1 (.str rl) (List.mem_map_of_mem hl)) h
  · refine ⟨.mk [] (.cons r (.mk [a] .nil) (.cons r (.mk [] .nil) .nil)), rfl, sp_links (by simp [Lks.size, Con.size]) (by simp [Lks.deep, Con.deep]) (by rw [fineL, fineL, fineL, Dn.fine, Dn.fine, fineL]; exact ⟨fr, ⟨fun n hn => by rw [List.mem_singleton.mp hn]; exact fa, trivial⟩, fr, ⟨fun n hn => (nomatch hn), trivial⟩, trivial⟩) (.inr fun p => ?_)⟩
    exact lk_lt2 ((List.pairwise_cons.mp p).1 _ (by rw [Lks.data]; exact List.mem_cons_self ..))
end Pg
end

section
namespace Pg
open PySem PySem.Spec PyProof.Rows L2 Dn
theorem cut_end {xs : List PyData} {x : PyData} {h : Hl} : slV (.dat (.tuple (xs ++ [x]))) (some (-1)) none h = some (.tuple [x]) := by
  show some (PyData.tuple (cutDs (xs ++ [x]) (some (-1)) none)) = _
  have e : HT.sIx (xs ++ [x]).length 0 (some (-1)) = xs.length := by
    show (if (-1 : Int) < 0 then ((-1 : Int) + ((xs ++ [x]).length : Int)).toNat else min (-1 : Int).toNat (xs ++ [x]).length) = _
    rw [if_pos (by decide), List.length_append, List.length_singleton]
    omega
  unfold cutDs
  rw [e, HT.sIx_none, List.drop_left]
  congr 2
  exact List.take_of_length_le (by simp)
theorem cut_one {x : PyData} {xs : List PyData} {h : Hl} : slV (.dat (.tuple (x :: xs))) none (some 1) h = some (.tuple [x]) := by
  show some (PyData.tuple (cutDs (x :: xs) none (some ((1 : Nat) : Int)))) = _
  unfold cutDs
  rw [HT.sIx_none, HT.sIx_nat, List.drop_zero, List.length_cons, show min 1 (xs.length + 1) - 0 = 1 by omega]
  rfl
theorem atI_end {xs : List PyData} {x : PyData} : atI (xs ++ [x]) (-1) = some x := by
  unfold atI ixN
  simp
  rw [if_pos (by omega)]
  show (xs ++ [x])[(-1 + ((xs.length : Int) + 1)).toNat]? = some x
  rw [show (-1 + ((xs.length : Int) + 1)).toNat = xs.length by omega]
  simp
theorem snoc_ex {α : Type} : ∀ (x : α) (xs : List α), ∃ ys l, x :: xs = ys ++ [l]
  | x, [] => ⟨[], x, rfl⟩
  | x, y :: ys => by
    obtain ⟨zs, l, e⟩ := snoc_ex y ys
    exact ⟨x :: zs, l, by rw [e]; rfl⟩
theorem spoilt_spec {k : Nat} {s : List Int} {n : Int} {hs : Hl} {a b r r2 : Str} {W V : List Str} (S : Sk s n 200) (hk : 10 ≤ k) (wW : Wds (a :: b :: W)) (wV : Wds (r :: r2 :: V)) (lW : W.length ≤ 3) (lV : V.length ≤ 3) :
    wpR (callD prog k i__law_spoilt [.ref 0, .dat (.tuple [.tuple ((a :: b :: W).map .str), .tuple ((r :: r2 :: V).map .str)])] (st s n :: hs)) (fun v h => ∃ (c : Con) (n' : Int), v = .dat c.data ∧ Sp1 200 12 c ∧ n ≤ n' ∧ n' ≤ n + 200 ∧ h = st s n' :: hs) noX := by
  obtain ⟨k, rfl⟩ : ∃ i, k = i + 1 := ⟨k - 1, by omega⟩
  obtain ⟨Wi, l, eW⟩ : ∃ Wi l, a :: b :: W = Wi ++ [l] := snoc_ex _ _
  obtain ⟨Vi, rl, eV⟩ : ∃ Vi l, r :: r2 :: V = Vi ++ [l] := snoc_ex _ _
  have sl : ∀ h : Hl, slV (.dat (.tuple (.str a :: .str b :: W.map .str))) (some (-1)) none h = some (.tuple [.str l]) := fun h => by
    rw [show (PyData.str a :: PyData.str b :: W.map PyData.str) = (a :: b :: W).map PyData.str from rfl, eW, List.map_append]
    exact cut_end
  have la : atI (PyData.str r :: PyData.str r2 :: V.map PyData.str) (-1) = some (PyData.str rl) := by
    rw [show (PyData.str r :: PyData.str r2 :: V.map PyData.str) = (r :: r2 :: V).map PyData.str from rfl, eV, List.map_append]
    exact atI_end
  have ad : addD (.tuple (.str a :: .str b :: W.map .str)) (.tuple [.str l]) = some (.tuple ((.str a :: .str b :: W.map .str) ++ [.str l])) := add_t (by rw [sizeLine_val]; simp; omega)
  rw [call_at (r := r__law_spoilt) rfl]
  rw [show r__law_spoilt.body = D__law_spoilt from rfl]
  generalize eB__law_spoilt : D__law_spoilt (callD prog k) = B__law_spoilt
  refine fn_rule rfl ?_
  subst eB__law_spoilt
  show wpS (D__law_spoilt (callD prog k) [some (.ref 0), some (.dat (.tuple [.tuple ((a :: b :: W).map .str), .tuple ((r :: r2 :: V).map .str)])), none, none, none, none, none, none, none, none] (st s n :: hs)) _ _
  simp only [D__law_spoilt, s_nil, s_brk, s_cont, s_seq, s_expr, s_ret, s_retN, s_set, s_setL, s_newL, s_unp, s_par, s_aug, s_six, s_if, s_for, w_var, w_mv2, mvK_d, mvK_r, w_c, w_bin, w_un, w_tst, w_and, w_or, w_not, w_andV, w_orV, w_notV, w_if, w_nil, w_cons, w_tup, w_lst, w_as, w_bc, w_lc, w_call, w_no, w_some, w_slice, w_app, w_ext, w_pop, w_seqD, w_rng1, w_comp, wpR_ok, optK_some, boolK_b, intK_i, oneK_d, oneL_d, twoK_2, sixK_r, rngK_i, rtK_d, peek_d, peek_r, peeks_n, peeks_c, own_r, lst_z, lst_s, Option.map_some, Option.bind_some, Option.join_some, List.getElem?_cons_zero, List.getElem?_cons_succ, List.set_cons_zero, List.set_cons_succ, List.map_cons, List.map_nil, List.cons_append, List.nil_append, List.replicate_succ, List.replicate_zero, Nat.sub_self, datsV_n, datsV_d, wipe_n, wipe_c, setG_n, setG_t, setGs_n, setGs_c, ix_l, ix_t, atI_0, atI_1, atI_2, atI_3, add_i, sub_i, iadd_i, lt_i, le_i, gt_i, ge_i, eq_i, eq_s, len_l, len_t, int_i, abs_i, max_i, tuple_l, tuple_t, sizeLine_val, w_enum, w_isi, w_fmt, w_jnil, w_jcons, w_join, vK_1, strK_s, ne_i, ne_s, s_raise, s_try, wpR_exc, errIx0, errIx1, errIx2, errIx3, errWord0, errWord1, errWord2, errWord3, w_zip, zipK_2, row_l, row_t, w_back, backK_t, neg_i, w_ssetT, tupK_t, w_callI, callK_0, w_mulLD, mulK_l, w_disp, w_din, w_dget, one1_v, w_dlen, w_glue, w_upperD, w_dvals, s_dput, keyV_i, keyV_s, datV_d, strV_s, refOf_r, dctV_r, dct_z, dct_s, xor_tr, xor_fl, seqOf_l, seqOf_t, List.length_nil, List.length_cons, Nat.reduceAdd, Nat.reduceLeDiff, true_and, and_true, if_true, if_false, Bool.not_true, Bool.not_false, Bool.false_eq_true]
  refine wpR_imp (bad_spec (S.less (by omega) (by omega)) (by omega)) fun v h => ?_
  rintro ⟨z, n1, rfl, bz, l1, l2, rfl⟩
  simp only [s_nil, s_brk, s_cont, s_seq, s_expr, s_ret, s_retN, s_set, s_setL, s_newL, s_unp, s_par, s_aug, s_six, s_if, s_for, w_var, w_mv2, mvK_d, mvK_r, w_c, w_bin, w_un, w_tst, w_and, w_or, w_not, w_andV, w_orV, w_notV, w_if, w_nil, w_cons, w_tup, w_lst, w_as, w_bc, w_lc, w_call, w_no, w_some, w_slice, w_app, w_ext, w_pop, w_seqD, w_rng1, w_comp, wpR_ok, optK_some, boolK_b, intK_i, oneK_d, oneL_d, twoK_2, sixK_r, rngK_i, rtK_d, peek_d, peek_r, peeks_n, peeks_c, own_r, lst_z, lst_s, Option.map_some, Option.bind_some, Option.join_some, List.getElem?_cons_zero, List.getElem?_cons_succ, List.set_cons_zero, List.set_cons_succ, List.map_cons, List.map_nil, List.cons_append, List.nil_append, List.replicate_succ, List.replicate_zero, Nat.sub_self, datsV_n, datsV_d, wipe_n, wipe_c, setG_n, setG_t, setGs_n, setGs_c, ix_l, ix_t, atI_0, atI_1, atI_2, atI_3, add_i, sub_i, iadd_i, lt_i, le_i, gt_i, ge_i, eq_i, eq_s, len_l, len_t, int_i, abs_i, max_i, tuple_l, tuple_t, sizeLine_val, w_enum, w_isi, w_fmt, w_jnil, w_jcons, w_join, vK_1, strK_s, ne_i, ne_s, s_raise, s_try, wpR_exc, errIx0, errIx1, errIx2, errIx3, errWord0, errWord1, errWord2, errWord3, w_zip, zipK_2, row_l, row_t, w_back, backK_t, neg_i, w_ssetT, tupK_t, w_callI, callK_0, w_mulLD, mulK_l, w_disp, w_din, w_dget, one1_v, w_dlen, w_glue, w_upperD, w_dvals, s_dput, keyV_i, keyV_s, datV_d, strV_s, refOf_r, dctV_r, dct_z, dct_s, xor_tr, xor_fl, seqOf_l, seqOf_t, List.length_nil, List.length_cons, Nat.reduceAdd, Nat.reduceLeDiff, true_and, and_true, if_true, if_false, Bool.not_true, Bool.not_false, Bool.false_eq_true]
  have q := conceptG_spec (m := 5) (w := 2) (by omega) (by omega) (by omega) wW wV (by simp; omega) (by simp; omega) (by simp) 1 k n1 hs (S.less (by omega) (by show n1 + (coG 5 1 : Int) ≤ _; simp [coG]; omega)) (by omega) (by omega)
  simp only [List.map_cons] at q
  refine wpR_imp q fun v h => ?_
  rintro ⟨c, n2, rfl, ok, l3, l4, rfl⟩
  have l4' : n2 ≤ n1 + 30 := by have : (coG 5 1 : Int) = 24 := rfl; omega
  simp only [sl, ad, la, s_nil, s_brk, s_cont, s_seq, s_expr, s_ret, s_retN, s_set, s_setL, s_newL, s_unp, s_par, s_aug, s_six, s_if, s_for, w_var, w_mv2, mvK_d, mvK_r, w_c, w_bin, w_un, w_tst, w_and, w_or, w_not, w_andV, w_orV, w_notV, w_if, w_nil, w_cons, w_tup, w_lst, w_as, w_bc, w_lc, w_call, w_no, w_some, w_slice, w_app, w_ext, w_pop, w_seqD, w_rng1, w_comp, wpR_ok, optK_some, boolK_b, intK_i, oneK_d, oneL_d, twoK_2, sixK_r, rngK_i, rtK_d, peek_d, peek_r, peeks_n, peeks_c, own_r, lst_z, lst_s, Option.map_some, Option.bind_some, Option.join_some, List.getElem?_cons_zero, List.getElem?_cons_succ, List.set_cons_zero, List.set_cons_succ, List.map_cons, List.map_nil, List.cons_append, List.nil_append, List.replicate_succ, List.replicate_zero, Nat.sub_self, datsV_n, datsV_d, wipe_n, wipe_c, setG_n, setG_t, setGs_n, setGs_c, ix_l, ix_t, atI_0, atI_1, atI_2, atI_3, add_i, sub_i, iadd_i, lt_i, le_i, gt_i, ge_i, eq_i, eq_s, len_l, len_t, int_i, abs_i, max_i, tuple_l, tuple_t, sizeLine_val, w_enum, w_isi, w_fmt, w_jnil, w_jcons, w_join, vK_1, strK_s, ne_i, ne_s, s_raise, s_try, wpR_exc, errIx0, errIx1, errIx2, errIx3, errWord0, errWord1, errWord2, errWord3, w_zip, zipK_2, row_l, row_t, w_back, backK_t, neg_i, w_ssetT, tupK_t, w_callI, callK_0, w_mulLD, mulK_l, w_disp, w_din, w_dget, one1_v, w_dlen, w_glue, w_upperD, w_dvals, s_dput, keyV_i, keyV_s, datV_d, strV_s, refOf_r, dctV_r, dct_z, dct_s, xor_tr, xor_fl, seqOf_l, seqOf_t, List.length_nil, List.length_cons, Nat.reduceAdd, Nat.reduceLeDiff, true_and, and_true, if_true, if_false, Bool.not_true, Bool.not_false, Bool.false_eq_true, lst_end, lst_end1, set_end, set_end1, List.cons_append, List.nil_append]
  refine ⟨by omega, by omega, by omega, ?_⟩
  have okc : Ok c 23 1 := ⟨by have := ok.size; exact this, ok.deep, ok.fine, ok.wf⟩
  have S3 : Sk s n2 60 := S.less (by omega) (by omega)
  refine wpR_imp ((S3.less (n' := n2) (m' := 1) (by omega) (by omega)).next (by decide) (by decide) (by omega)) fun v h => ?_
  rintro ⟨x, rfl, x0, x1, rfl⟩
  obtain ⟨c0, e0, s0⟩ := spoil wW wV lW eW eV bz okc x x0 x1
  simp only [List.map_cons, List.cons_append] at e0
  simp only [s_nil, s_brk, s_cont, s_seq, s_expr, s_ret, s_retN, s_set, s_setL, s_newL, s_unp, s_par, s_aug, s_six, s_if, s_for, w_var, w_mv2, mvK_d, mvK_r, w_c, w_bin, w_un, w_tst, w_and, w_or, w_not, w_andV, w_orV, w_notV, w_if, w_nil, w_cons, w_tup, w_lst, w_as, w_bc, w_lc, w_call, w_no, w_some, w_slice, w_app, w_ext, w_pop, w_seqD, w_rng1, w_comp, wpR_ok, optK_some, boolK_b, intK_i, oneK_d, oneL_d, twoK_2, sixK_r, rngK_i, rtK_d, peek_d, peek_r, peeks_n, peeks_c, own_r, lst_z, lst_s, Option.map_some, Option.bind_some, Option.join_some, List.getElem?_cons_zero, List.getElem?_cons_succ, List.set_cons_zero, List.set_cons_succ, List.map_cons, List.map_nil, List.cons_append, List.nil_append, List.replicate_succ, List.replicate_zero, Nat.sub_self, datsV_n, datsV_d, wipe_n, wipe_c, setG_n, setG_t, setGs_n, setGs_c, ix_l, ix_t, atI_0, atI_1, atI_2, atI_3, add_i, sub_i, iadd_i, lt_i, le_i, gt_i, ge_i, eq_i, eq_s, len_l, len_t, int_i, abs_i, max_i, tuple_l, tuple_t, sizeLine_val, w_enum, w_isi, w_fmt, w_jnil, w_jcons, w_join, vK_1, strK_s, ne_i, ne_s, s_raise, s_try, wpR_exc, errIx0, errIx1, errIx2, errIx3, errWord0, errWord1, errWord2, errWord3, w_zip, zipK_2, row_l, row_t, w_back, backK_t, neg_i, w_ssetT, tupK_t, w_callI, callK_0, w_mulLD, mulK_l, w_disp, w_din, w_dget, one1_v, w_dlen, w_glue, w_upperD, w_dvals, s_dput, keyV_i, keyV_s, datV_d, strV_s, refOf_r, dctV_r, dct_z, dct_s, xor_tr, xor_fl, seqOf_l, seqOf_t, List.length_nil, List.length_cons, Nat.reduceAdd, Nat.reduceLeDiff, true_and, and_true, if_true, if_false, Bool.not_true, Bool.not_false, Bool.false_eq_true, lst_end, lst_end1, e0]
  refine wpR_imp ((S3.less (n' := n2 + 1) (m' := 1) (by omega) (by omega)).next (by decide) (by decide) (by omega)) fun v h => ?_
  rintro ⟨y, rfl, y0, y1, rfl⟩
  simp only [s_nil, s_brk, s_cont, s_seq, s_expr, s_ret, s_retN, s_set, s_setL, s_newL, s_unp, s_par, s_aug, s_six, s_if, s_for, w_var, w_mv2, mvK_d, mvK_r, w_c, w_bin, w_un, w_tst, w_and, w_or, w_not, w_andV, w_orV, w_notV, w_if, w_nil, w_cons, w_tup, w_lst, w_as, w_bc, w_lc, w_call, w_no, w_some, w_slice, w_app, w_ext, w_pop, w_seqD, w_rng1, w_comp, wpR_ok, optK_some, boolK_b, intK_i, oneK_d, oneL_d, twoK_2, sixK_r, rngK_i, rtK_d, peek_d, peek_r, peeks_n, peeks_c, own_r, lst_z, lst_s, Option.map_some, Option.bind_some, Option.join_some, List.getElem?_cons_zero, List.getElem?_cons_succ, List.set_cons_zero, List.set_cons_succ, List.map_cons, List.map_nil, List.cons_append, List.nil_append, List.replicate_succ, List.replicate_zero, Nat.sub_self, datsV_n, datsV_d, wipe_n, wipe_c, setG_n, setG_t, setGs_n, setGs_c, ix_l, ix_t, atI_0, atI_1, atI_2, atI_3, add_i, sub_i, iadd_i, lt_i, le_i, gt_i, ge_i, eq_i, eq_s, len_l, len_t, int_i, abs_i, max_i, tuple_l, tuple_t, sizeLine_val, w_enum, w_isi, w_fmt, w_jnil, w_jcons, w_join, vK_1, strK_s, ne_i, ne_s, s_raise, s_try, wpR_exc, errIx0, errIx1, errIx2, errIx3, errWord0, errWord1, errWord2, errWord3, w_zip, zipK_2, row_l, row_t, w_back, backK_t, neg_i, w_ssetT, tupK_t, w_callI, callK_0, w_mulLD, mulK_l, w_disp, w_din, w_dget, one1_v, w_dlen, w_glue, w_upperD, w_dvals, s_dput, keyV_i, keyV_s, datV_d, strV_s, refOf_r, dctV_r, dct_z, dct_s, xor_tr, xor_fl, seqOf_l, seqOf_t, List.length_nil, List.length_cons, Nat.reduceAdd, Nat.reduceLeDiff, true_and, and_true, if_true, if_false, Bool.not_true, Bool.not_false, Bool.false_eq_true]
  refine ⟨by simp only [rngOk, Bool.and_eq_true, decide_eq_true_eq]; omega, ?_⟩
  have fa := wW.fine a (by simp)
  have fr := wV.fine r (by simp)
  generalize eR : (HObj.lst _) = R
  refine for_rule (fun ds ρ h' => ∃ (c1 : Con) (o : Option Val), ρ = [some (.ref 0), some (.dat (.tuple [.tuple (.str a :: .str b :: W.map .str), .tuple (.str r :: .str r2 :: V.map .str)])), some (.dat (.str z)), some (.dat (.tuple (.str a :: .str b :: W.map .str))), some (.dat c.data), some (.dat (.str r)), some (.ref (hs.length + 1)), some (.dat (.int x)), some (.dat c1.data), o] ∧
      h' = st s (n2 + 1 + 1) :: (hs ++ [some R]) ∧ ds.length ≤ 2 ∧ Sp1 (60 + 2 * (2 - ds.length)) (3 + (2 - ds.length)) c1) (fun d' ds ρ h' I => ?_) (fun ρ h' I => ?_) _ _ _ ⟨c0, none, rfl, rfl, by simp [rngItems]; omega, Nat.le_trans s0.size (by omega), Nat.le_trans s0.deep (by omega), s0.fine, s0.no⟩
  · obtain ⟨c1, o, rfl, rfl, k1, k2⟩ := I
    rw [List.length_cons] at k1 k2
    refine ⟨rfl, ?_⟩
    simp only [s_nil, s_brk, s_cont, s_seq, s_expr, s_ret, s_retN, s_set, s_setL, s_newL, s_unp, s_par, s_aug, s_six, s_if, s_for, w_var, w_mv2, mvK_d, mvK_r, w_c, w_bin, w_un, w_tst, w_and, w_or, w_not, w_andV, w_orV, w_notV, w_if, w_nil, w_cons, w_tup, w_lst, w_as, w_bc, w_lc, w_call, w_no, w_some, w_slice, w_app, w_ext, w_pop, w_seqD, w_rng1, w_comp, wpR_ok, optK_some, boolK_b, intK_i, oneK_d, oneL_d, twoK_2, sixK_r, rngK_i, rtK_d, peek_d, peek_r, peeks_n, peeks_c, own_r, lst_z, lst_s, Option.map_some, Option.bind_some, Option.join_some, List.getElem?_cons_zero, List.getElem?_cons_succ, List.set_cons_zero, List.set_cons_succ, List.map_cons, List.map_nil, List.cons_append, List.nil_append, List.replicate_succ, List.replicate_zero, Nat.sub_self, datsV_n, datsV_d, wipe_n, wipe_c, setG_n, setG_t, setGs_n, setGs_c, ix_l, ix_t, atI_0, atI_1, atI_2, atI_3, add_i, sub_i, iadd_i, lt_i, le_i, gt_i, ge_i, eq_i, eq_s, len_l, len_t, int_i, abs_i, max_i, tuple_l, tuple_t, sizeLine_val, w_enum, w_isi, w_fmt, w_jnil, w_jcons, w_join, vK_1, strK_s, ne_i, ne_s, s_raise, s_try, wpR_exc, errIx0, errIx1, errIx2, errIx3, errWord0, errWord1, errWord2, errWord3, w_zip, zipK_2, row_l, row_t, w_back, backK_t, neg_i, w_ssetT, tupK_t, w_callI, callK_0, w_mulLD, mulK_l, w_disp, w_din, w_dget, one1_v, w_dlen, w_glue, w_upperD, w_dvals, s_dput, keyV_i, keyV_s, datV_d, strV_s, refOf_r, dctV_r, dct_z, dct_s, xor_tr, xor_fl, seqOf_l, seqOf_t, List.length_nil, List.length_cons, Nat.reduceAdd, Nat.reduceLeDiff, true_and, and_true, if_true, if_false, Bool.not_true, Bool.not_false, Bool.false_eq_true]
    rw [cut_one, optK_some]
    refine ⟨.mk [a] (.cons r c1 .nil), _, rfl, by omega, ?_⟩
    have z1 := k2.size
    have z2 := k2.deep
    refine ⟨by rw [Con.size, Lks.size, Lks.size]; simp; omega, by rw [Con.deep, Lks.deep, Lks.deep]; omega, ?_, ?_⟩
    · rw [Dn.fine, fineL, fineL]
      exact ⟨fun n hn => by rw [List.mem_singleton.mp hn]; exact fa, fr, k2.fine, trivial⟩
    · rw [wfB, wfL, k2.no]
      simp
  · obtain ⟨c1, o, rfl, rfl, k1, k2⟩ := I
    refine ⟨rfl, ?_⟩
    simp only [s_nil, s_brk, s_cont, s_seq, s_expr, s_ret, s_retN, s_set, s_setL, s_newL, s_unp, s_par, s_aug, s_six, s_if, s_for, w_var, w_mv2, mvK_d, mvK_r, w_c, w_bin, w_un, w_tst, w_and, w_or, w_not, w_andV, w_orV, w_notV, w_if, w_nil, w_cons, w_tup, w_lst, w_as, w_bc, w_lc, w_call, w_no, w_some, w_slice, w_app, w_ext, w_pop, w_seqD, w_rng1, w_comp, wpR_ok, optK_some, boolK_b, intK_i, oneK_d, oneL_d, twoK_2, sixK_r, rngK_i, rtK_d, peek_d, peek_r, peeks_n, peeks_c, own_r, lst_z, lst_s, Option.map_some, Option.bind_some, Option.join_some, List.getElem?_cons_zero, List.getElem?_cons_succ, List.set_cons_zero, List.set_cons_succ, List.map_cons, List.map_nil, List.cons_append, List.nil_append, List.replicate_succ, List.replicate_zero, Nat.sub_self, datsV_n, datsV_d, wipe_n, wipe_c, setG_n, setG_t, setGs_n, setGs_c, ix_l, ix_t, atI_0, atI_1, atI_2, atI_3, add_i, sub_i, iadd_i, lt_i, le_i, gt_i, ge_i, eq_i, eq_s, len_l, len_t, int_i, abs_i, max_i, tuple_l, tuple_t, sizeLine_val, w_enum, w_isi, w_fmt, w_jnil, w_jcons, w_join, vK_1, strK_s, ne_i, ne_s, s_raise, s_try, wpR_exc, errIx0, errIx1, errIx2, errIx3, errWord0, errWord1, errWord2, errWord3, w_zip, zipK_2, row_l, row_t, w_back, backK_t, neg_i, w_ssetT, tupK_t, w_callI, callK_0, w_mulLD, mulK_l, w_disp, w_din, w_dget, one1_v, w_dlen, w_glue, w_upperD, w_dvals, s_dput, keyV_i, keyV_s, datV_d, strV_s, refOf_r, dctV_r, dct_z, dct_s, xor_tr, xor_fl, seqOf_l, seqOf_t, List.length_nil, List.length_cons, Nat.reduceAdd, Nat.reduceLeDiff, true_and, and_true, if_true, if_false, Bool.not_true, Bool.not_false, Bool.false_eq_true]
    exact ⟨c1, n2 + 1 + 1, rfl, ⟨by have := k2.size; simp at this; omega, by have := k2.deep; simp at this; omega, k2.fine, k2.no⟩, by omega, by omega, take_end1 _ _ _⟩
end Pg
end

section
namespace Pg
open PySem PySem.Spec PyProof.Rows L2 Dn
/-! chains -/
def chainC (a r : Str) : Nat → Con
  | 0 => .mk [a] .nil
  | m + 1 => .mk [] (.cons r (chainC a r m) .nil)
theorem chain_size (a r : Str) : ∀ m, (chainC a r m).size = m + 1
  | 0 => by rw [chainC, Con.size, Lks.size]; rfl
  | m + 1 => by rw [chainC, Con.size, Lks.size, Lks.size, chain_size a r m]; simp; omega
theorem chain_deep (a r : Str) : ∀ m, (chainC a r m).deep = m
  | 0 => by rw [chainC, Con.deep, Lks.deep]
  | m + 1 => by rw [chainC, Con.deep, Lks.deep, Lks.deep, chain_deep a r m]; omega
theorem chain_fine {a r : Str} (fa : strFine a) (fr : strFine r) : ∀ m, fine (chainC a r m)
  | 0 => by
    rw [chainC, Dn.fine, fineL]
    exact ⟨fun n hn => by rw [List.mem_singleton.mp hn]; exact fa, trivial⟩
  | m + 1 => by
    rw [chainC, Dn.fine, fineL, fineL]
    exact ⟨fun n hn => (nomatch hn), fr, chain_fine fa fr m, trivial⟩
theorem chain_wf {a r : Str} (fa : nameB a = true) (fr : nameB r = true) : ∀ m, wfB (chainC a r m) = true
  | 0 => by rw [chainC, wfB, wfL]; simp [fa, risB, Lks.data]
  | m + 1 => by rw [chainC, wfB, wfL, wfL, chain_wf fa fr m, fr]; simp [risB, Lks.data]
theorem chain_ask {a r : Str} (fa : strFine a) (fr : strFine r) (m : Nat) (hm : m ≤ 18) : Ask (chainC a r m) := ⟨by rw [chain_size]; omega, by rw [chain_deep]; exact hm, chain_fine fa fr m⟩
theorem chain_spec {k m : Nat} {a r : Str} {xs ys : List PyData} {h : Hl} (hk : 2 ≤ k) (hm : m ≤ 18) : callD prog k i__law_chain [.dat (.tuple [.tuple (.str a :: xs), .tuple (.str r :: ys)]), .dat (.int m)] h = .ok (.dat (chainC a r m).data) h := by
  obtain ⟨k, rfl⟩ : ∃ i, k = i + 1 := ⟨k - 1, by omega⟩
  refine wpR_eq ?_
  rw [call_at (r := r__law_chain) rfl]
  rw [show r__law_chain.body = D__law_chain from rfl]
  generalize eB__law_chain : D__law_chain (callD prog k) = B__law_chain
  refine fn_rule rfl ?_
  subst eB__law_chain
  show wpS (D__law_chain (callD prog k) [some (.dat (.tuple [.tuple (.str a :: xs), .tuple (.str r :: ys)])), some (.dat (.int m)), none, none] (h)) _ _
  simp only [D__law_chain, s_nil, s_brk, s_cont, s_seq, s_expr, s_ret, s_retN, s_set, s_setL, s_newL, s_unp, s_par, s_aug, s_six, s_if, s_for, w_var, w_mv2, mvK_d, mvK_r, w_c, w_bin, w_un, w_tst, w_and, w_or, w_not, w_andV, w_orV, w_notV, w_if, w_nil, w_cons, w_tup, w_lst, w_as, w_bc, w_lc, w_call, w_no, w_some, w_slice, w_app, w_ext, w_pop, w_seqD, w_rng1, w_comp, wpR_ok, optK_some, boolK_b, intK_i, oneK_d, oneL_d, twoK_2, sixK_r, rngK_i, rtK_d, peek_d, peek_r, peeks_n, peeks_c, own_r, lst_z, lst_s, Option.map_some, Option.bind_some, Option.join_some, List.getElem?_cons_zero, List.getElem?_cons_succ, List.set_cons_zero, List.set_cons_succ, List.map_cons, List.map_nil, List.cons_append, List.nil_append, List.replicate_succ, List.replicate_zero, Nat.sub_self, datsV_n, datsV_d, wipe_n, wipe_c, setG_n, setG_t, setGs_n, setGs_c, ix_l, ix_t, atI_0, atI_1, atI_2, atI_3, add_i, sub_i, iadd_i, lt_i, le_i, gt_i, ge_i, eq_i, eq_s, len_l, len_t, int_i, abs_i, max_i, tuple_l, tuple_t, sizeLine_val, w_enum, w_isi, w_fmt, w_jnil, w_jcons, w_join, vK_1, strK_s, ne_i, ne_s, s_raise, s_try, wpR_exc, errIx0, errIx1, errIx2, errIx3, errWord0, errWord1, errWord2, errWord3, w_zip, zipK_2, row_l, row_t, w_back, backK_t, neg_i, w_ssetT, tupK_t, w_callI, callK_0, w_mulLD, mulK_l, w_disp, w_din, w_dget, one1_v, w_dlen, w_glue, w_upperD, w_dvals, s_dput, keyV_i, keyV_s, datV_d, strV_s, refOf_r, dctV_r, dct_z, dct_s, xor_tr, xor_fl, seqOf_l, seqOf_t, List.length_nil, List.length_cons, Nat.reduceAdd, Nat.reduceLeDiff, true_and, and_true, if_true, if_false, Bool.not_true, Bool.not_false, Bool.false_eq_true]
  rw [cut_one, optK_some]
  refine ⟨by simp only [rngOk, Bool.and_eq_true, decide_eq_true_eq]; omega, ?_⟩
  refine for_rule (fun ds ρ h' => ∃ (j : Nat) (o : Option Val), ρ = [some (.dat (.tuple [.tuple (.str a :: xs), .tuple (.str r :: ys)])), some (.dat (.int m)), some (.dat (chainC a r j).data), o] ∧ h' = h ∧ j + ds.length = m) (fun d' ds ρ h' I => ?_) (fun ρ h' I => ?_) _ _ _ ⟨0, none, rfl, rfl, by simp [rngItems]⟩
  · obtain ⟨j, o, rfl, rfl, e⟩ := I
    rw [List.length_cons] at e
    refine ⟨rfl, ?_⟩
    simp only [s_nil, s_brk, s_cont, s_seq, s_expr, s_ret, s_retN, s_set, s_setL, s_newL, s_unp, s_par, s_aug, s_six, s_if, s_for, w_var, w_mv2, mvK_d, mvK_r, w_c, w_bin, w_un, w_tst, w_and, w_or, w_not, w_andV, w_orV, w_notV, w_if, w_nil, w_cons, w_tup, w_lst, w_as, w_bc, w_lc, w_call, w_no, w_some, w_slice, w_app, w_ext, w_pop, w_seqD, w_rng1, w_comp, wpR_ok, optK_some, boolK_b, intK_i, oneK_d, oneL_d, twoK_2, sixK_r, rngK_i, rtK_d, peek_d, peek_r, peeks_n, peeks_c, own_r, lst_z, lst_s, Option.map_some, Option.bind_some, Option.join_some, List.getElem?_cons_zero, List.getElem?_cons_succ, List.set_cons_zero, List.set_cons_succ, List.map_cons, List.map_nil, List.cons_append, List.nil_append, List.replicate_succ, List.replicate_zero, Nat.sub_self, datsV_n, datsV_d, wipe_n, wipe_c, setG_n, setG_t, setGs_n, setGs_c, ix_l, ix_t, atI_0, atI_1, atI_2, atI_3, add_i, sub_i, iadd_i, lt_i, le_i, gt_i, ge_i, eq_i, eq_s, len_l, len_t, int_i, abs_i, max_i, tuple_l, tuple_t, sizeLine_val, w_enum, w_isi, w_fmt, w_jnil, w_jcons, w_join, vK_1, strK_s, ne_i, ne_s, s_raise, s_try, wpR_exc, errIx0, errIx1, errIx2, errIx3, errWord0, errWord1, errWord2, errWord3, w_zip, zipK_2, row_l, row_t, w_back, backK_t, neg_i, w_ssetT, tupK_t, w_callI, callK_0, w_mulLD, mulK_l, w_disp, w_din, w_dget, one1_v, w_dlen, w_glue, w_upperD, w_dvals, s_dput, keyV_i, keyV_s, datV_d, strV_s, refOf_r, dctV_r, dct_z, dct_s, xor_tr, xor_fl, seqOf_l, seqOf_t, List.length_nil, List.length_cons, Nat.reduceAdd, Nat.reduceLeDiff, true_and, and_true, if_true, if_false, Bool.not_true, Bool.not_false, Bool.false_eq_true]
    exact ⟨j + 1, _, rfl, by omega⟩
  · obtain ⟨j, o, rfl, rfl, e⟩ := I
    have : j = m := by simpa using e
    subst this
    refine ⟨rfl, ?_⟩
    simp only [s_nil, s_brk, s_cont, s_seq, s_expr, s_ret, s_retN, s_set, s_setL, s_newL, s_unp, s_par, s_aug, s_six, s_if, s_for, w_var, w_mv2, mvK_d, mvK_r, w_c, w_bin, w_un, w_tst, w_and, w_or, w_not, w_andV, w_orV, w_notV, w_if, w_nil, w_cons, w_tup, w_lst, w_as, w_bc, w_lc, w_call, w_no, w_some, w_slice, w_app, w_ext, w_pop, w_seqD, w_rng1, w_comp, wpR_ok, optK_some, boolK_b, intK_i, oneK_d, oneL_d, twoK_2, sixK_r, rngK_i, rtK_d, peek_d, peek_r, peeks_n, peeks_c, own_r, lst_z, lst_s, Option.map_some, Option.bind_some, Option.join_some, List.getElem?_cons_zero, List.getElem?_cons_succ, List.set_cons_zero, List.set_cons_succ, List.map_cons, List.map_nil, List.cons_append, List.nil_append, List.replicate_succ, List.replicate_zero, Nat.sub_self, datsV_n, datsV_d, wipe_n, wipe_c, setG_n, setG_t, setGs_n, setGs_c, ix_l, ix_t, atI_0, atI_1, atI_2, atI_3, add_i, sub_i, iadd_i, lt_i, le_i, gt_i, ge_i, eq_i, eq_s, len_l, len_t, int_i, abs_i, max_i, tuple_l, tuple_t, sizeLine_val, w_enum, w_isi, w_fmt, w_jnil, w_jcons, w_join, vK_1, strK_s, ne_i, ne_s, s_raise, s_try, wpR_exc, errIx0, errIx1, errIx2, errIx3, errWord0, errWord1, errWord2, errWord3, w_zip, zipK_2, row_l, row_t, w_back, backK_t, neg_i, w_ssetT, tupK_t, w_callI, callK_0, w_mulLD, mulK_l, w_disp, w_din, w_dget, one1_v, w_dlen, w_glue, w_upperD, w_dvals, s_dput, keyV_i, keyV_s, datV_d, strV_s, refOf_r, dctV_r, dct_z, dct_s, xor_tr, xor_fl, seqOf_l, seqOf_t, List.length_nil, List.length_cons, Nat.reduceAdd, Nat.reduceLeDiff, true_and, and_true, if_true, if_false, Bool.not_true, Bool.not_false, Bool.false_eq_true]
    exact (by first | exact ⟨rfl, List.take_length⟩ | exact ⟨trivial, List.take_length⟩ | exact List.take_length | exact ⟨by omega, rfl, List.take_length⟩ | exact ⟨by omega, trivial, List.take_length⟩ | exact ⟨by omega, List.take_length⟩ | exact ⟨rfl, rfl, List.take_length⟩ | exact ⟨trivial, trivial, List.take_length⟩)
end Pg
end

section
namespace Pg
open PySem PySem.Spec PyProof.Rows L2 Dn
/-! many names -/
def digK (i : Nat) : Str := Str.ofString (toString ((1000 : Int) + ((0 : Int) + (i : Int))))
def nmK (p : Str) (i : Nat) : Str := p ++ ("x" : Str) ++ digK i
theorem dig_ok : ∀ i : Nat, i < 200 → (digK i).cps.toList.length = 4 ∧ ∀ c ∈ (digK i).cps.toList, c ∈ signsS.cps.toList := by decide +kernel
theorem dig_nd : ((List.range 200).map fun i => (digK i).cps.toList).Nodup := by decide +kernel
theorem dig_inj {i j : Nat} (hi : i < 200) (hj : j < 200) (e : digK i = digK j) : i = j := by
  have g := List.pairwise_iff_getElem.mp dig_nd
  rcases Nat.lt_trichotomy i j with h | h | h
  · exact ((g i j (by simpa using hi) (by simpa using hj) h) (by simp [e])).elim
  · exact h
  · exact ((g j i (by simpa using hj) (by simpa using hi) h) (by simp [e])).elim
theorem str_i2 {i : Int} (h : i.natAbs < 1500) : strD [.int i] = some (.str (Str.ofString (toString i))) := by
  show (if i.natAbs.log2 < 1920 then some (PyData.str (toString i)) else none) = _
  rw [if_pos]
  exact Nat.lt_of_le_of_lt (Nat.log2_le_self _) (by omega)
theorem nodup_map_on {α β : Type} {f : α → β} : ∀ {xs : List α}, xs.Nodup → (∀ a ∈ xs, ∀ b ∈ xs, f a = f b → a = b) → (xs.map f).Nodup
  | [], _, _ => List.nodup_nil
  | x :: xs, h, g => by
    rw [List.nodup_cons] at h
    rw [List.map_cons, List.nodup_cons]
    refine ⟨fun m => ?_, nodup_map_on h.2 fun a ha b hb => g a (List.mem_cons_of_mem _ ha) b (List.mem_cons_of_mem _ hb)⟩
    obtain ⟨y, hy, e⟩ := List.mem_map.mp m
    have := g y (List.mem_cons_of_mem _ hy) x (List.mem_cons_self ..) e
    exact h.1 (this ▸ hy)
theorem nmK_cps (p : Str) (i : Nat) : (nmK p i).cps.toList = p.cps.toList ++ [120] ++ (digK i).cps.toList := by
  unfold nmK
  rw [cps_app, cps_app, show ("x" : Str).cps.toList = [120] by decide +kernel]
theorem nmK_wd {z : Str} (w : Wd z) {i : Nat} (hi : i < 200) : Wd (nmK (cutS z none (some (6 : Int))) i) ∧ nmK (cutS z none (some (6 : Int))) i ≠ "any" := by
  obtain ⟨d1, d2⟩ := dig_ok i hi
  obtain ⟨c, r, e, hc⟩ := w.first
  have ec : (cutS z none (some (6 : Int))).cps.toList = (c :: r).take 6 := by rw [show (6 : Int) = ((6 : Nat) : Int) from rfl, cutN, e]
  have el : (nmK (cutS z none (some (6 : Int))) i).cps.toList = (c :: r).take 6 ++ [120] ++ (digK i).cps.toList := by rw [nmK_cps, ec]
  refine ⟨⟨?_, ?_, ⟨c, r.take 5 ++ [120] ++ (digK i).cps.toList, by rw [el]; rfl, hc⟩, fun d hd => ?_⟩, fun q => ?_⟩
  · rw [← slen, el]; simp
  · rw [← slen, el]
    simp only [List.length_append, List.length_take, List.length_cons, List.length_nil, d1]
    omega
  · rw [el] at hd
    rcases List.mem_append.mp hd with hd | hd
    · rcases List.mem_append.mp hd with hd | hd
      · exact w.signs d (by rw [e]; exact List.mem_of_mem_take hd)
      · rw [List.mem_singleton.mp hd]; decide +kernel
    · exact decide_eq_true (d2 d hd)
  · have l := congrArg (fun s : Str => s.cps.toList.length) q
    simp only [el, List.length_append, d1] at l
    have : ("any" : Str).cps.toList.length = 3 := by decide +kernel
    rw [this] at l
    simp at l
theorem nmK_inj {p : Str} {i j : Nat} (hi : i < 200) (hj : j < 200) (e : nmK p i = nmK p j) : i = j := by
  refine dig_inj hi hj ?_
  have h := congrArg (fun s : Str => s.cps.toList) e
  simp only [nmK_cps] at h
  exact PySem.W.str_of_cps (List.append_cancel_left h)
theorem many_spec {k m : Nat} {s : List Int} {n : Int} {hs : Hl} (S : Sk s n 15) (hk : 4 ≤ k) (hm : m ≤ 200) : wpR (callD prog k i__law_many [.ref 0, .dat (.int m)] (st s n :: hs)) (fun v h => ∃ (ns : List Str) (n' : Int), v = .dat (.tuple (ns.map .str)) ∧ Wds ns ∧ ns.length = m ∧ (∀ y ∈ ns, 5 ≤ y.length) ∧ n ≤ n' ∧ n' ≤ n + 15 ∧ h = st s n' :: hs) noX := by
  obtain ⟨k, rfl⟩ : ∃ i, k = i + 1 := ⟨k - 1, by omega⟩
  rw [call_at (r := r__law_many) rfl]
  rw [show r__law_many.body = D__law_many from rfl]
  generalize eB__law_many : D__law_many (callD prog k) = B__law_many
  refine fn_rule rfl ?_
  subst eB__law_many
  show wpS (D__law_many (callD prog k) [some (.ref 0), some (.dat (.int m)), none, none, none] (st s n :: hs)) _ _
  simp only [D__law_many, s_nil, s_brk, s_cont, s_seq, s_expr, s_ret, s_retN, s_set, s_setL, s_newL, s_unp, s_par, s_aug, s_six, s_if, s_for, w_var, w_mv2, mvK_d, mvK_r, w_c, w_bin, w_un, w_tst, w_and, w_or, w_not, w_andV, w_orV, w_notV, w_if, w_nil, w_cons, w_tup, w_lst, w_as, w_bc, w_lc, w_call, w_no, w_some, w_slice, w_app, w_ext, w_pop, w_seqD, w_rng1, w_comp, wpR_ok, optK_some, boolK_b, intK_i, oneK_d, oneL_d, twoK_2, sixK_r, rngK_i, rtK_d, peek_d, peek_r, peeks_n, peeks_c, own_r, lst_z, lst_s, Option.map_some, Option.bind_some, Option.join_some, List.getElem?_cons_zero, List.getElem?_cons_succ, List.set_cons_zero, List.set_cons_succ, List.map_cons, List.map_nil, List.cons_append, List.nil_append, List.replicate_succ, List.replicate_zero, Nat.sub_self, datsV_n, datsV_d, wipe_n, wipe_c, setG_n, setG_t, setGs_n, setGs_c, ix_l, ix_t, atI_0, atI_1, atI_2, atI_3, add_i, sub_i, iadd_i, lt_i, le_i, gt_i, ge_i, eq_i, eq_s, len_l, len_t, int_i, abs_i, max_i, tuple_l, tuple_t, sizeLine_val, w_enum, w_isi, w_fmt, w_jnil, w_jcons, w_join, vK_1, strK_s, ne_i, ne_s, s_raise, s_try, wpR_exc, errIx0, errIx1, errIx2, errIx3, errWord0, errWord1, errWord2, errWord3, w_zip, zipK_2, row_l, row_t, w_back, backK_t, neg_i, w_ssetT, tupK_t, w_callI, callK_0, w_mulLD, mulK_l, w_disp, w_din, w_dget, one1_v, w_dlen, w_glue, w_upperD, w_dvals, s_dput, keyV_i, keyV_s, datV_d, strV_s, refOf_r, dctV_r, dct_z, dct_s, xor_tr, xor_fl, seqOf_l, seqOf_t, List.length_nil, List.length_cons, Nat.reduceAdd, Nat.reduceLeDiff, true_and, and_true, if_true, if_false, Bool.not_true, Bool.not_false, Bool.false_eq_true]
  refine wpR_imp (word_spec (S.less (by omega) (by omega)) (by omega)) fun v h => ?_
  rintro ⟨z, n1, rfl, w, l1, l2, rfl⟩
  have wm := w.max
  rw [slice_strN (by rw [sizeLine_val]; omega), optK_some]
  refine ⟨by simp only [rngOk, Bool.and_eq_true, decide_eq_true_eq]; omega, ?_⟩
  rw [show rngItems 0 (Int.toNat (m : Int)) = (List.range m).map (fun i : Nat => PyData.int ((0 : Int) + (i : Int))) from rfl, comp_mapE (fun i : Nat => PyData.int ((0 : Int) + (i : Int))) (fun i => .str (nmK (cutS z none (some (6 : Int))) i)) (List.range m) [] (by rfl) (by rw [sizeLine_val, List.length_range, List.length_nil]; omega) (fun i hi => ?_)]
  · have nd : ((List.range m).map (nmK (cutS z none (some (6 : Int))))).Nodup := by
      exact nodup_map_on List.nodup_range fun a ha b hb e => nmK_inj (by have := List.mem_range.mp ha; omega) (by have := List.mem_range.mp hb; omega) e
    obtain ⟨ys, ey, p, asc⟩ := sorted_strs nd (by simp; omega)
    rw [List.map_map] at ey
    simp only [s_nil, s_brk, s_cont, s_seq, s_expr, s_ret, s_retN, s_set, s_setL, s_newL, s_unp, s_par, s_aug, s_six, s_if, s_for, w_var, w_mv2, mvK_d, mvK_r, w_c, w_bin, w_un, w_tst, w_and, w_or, w_not, w_andV, w_orV, w_notV, w_if, w_nil, w_cons, w_tup, w_lst, w_as, w_bc, w_lc, w_call, w_no, w_some, w_slice, w_app, w_ext, w_pop, w_seqD, w_rng1, w_comp, wpR_ok, optK_some, boolK_b, intK_i, oneK_d, oneL_d, twoK_2, sixK_r, rngK_i, rtK_d, peek_d, peek_r, peeks_n, peeks_c, own_r, lst_z, lst_s, Option.map_some, Option.bind_some, Option.join_some, List.getElem?_cons_zero, List.getElem?_cons_succ, List.set_cons_zero, List.set_cons_succ, List.map_cons, List.map_nil, List.cons_append, List.nil_append, List.replicate_succ, List.replicate_zero, Nat.sub_self, datsV_n, datsV_d, wipe_n, wipe_c, setG_n, setG_t, setGs_n, setGs_c, ix_l, ix_t, atI_0, atI_1, atI_2, atI_3, add_i, sub_i, iadd_i, lt_i, le_i, gt_i, ge_i, eq_i, eq_s, len_l, len_t, int_i, abs_i, max_i, tuple_l, tuple_t, sizeLine_val, w_enum, w_isi, w_fmt, w_jnil, w_jcons, w_join, vK_1, strK_s, ne_i, ne_s, s_raise, s_try, wpR_exc, errIx0, errIx1, errIx2, errIx3, errWord0, errWord1, errWord2, errWord3, w_zip, zipK_2, row_l, row_t, w_back, backK_t, neg_i, w_ssetT, tupK_t, w_callI, callK_0, w_mulLD, mulK_l, w_disp, w_din, w_dget, one1_v, w_dlen, w_glue, w_upperD, w_dvals, s_dput, keyV_i, keyV_s, datV_d, strV_s, refOf_r, dctV_r, dct_z, dct_s, xor_tr, xor_fl, seqOf_l, seqOf_t, List.length_nil, List.length_cons, Nat.reduceAdd, Nat.reduceLeDiff, true_and, and_true, if_true, if_false, Bool.not_true, Bool.not_false, Bool.false_eq_true]
    rw [show (fun i => PyData.str (nmK (cutS z none (some 6)) i)) = PyData.str ∘ nmK (cutS z none (some (6 : Int))) from rfl, ey, optK_some]
    have ok : ∀ y ∈ ys, Wd y ∧ y ≠ "any" := fun y hy => by
      obtain ⟨i, hi, rfl⟩ := List.mem_map.mp (p.mem_iff.mp hy)
      exact nmK_wd w (by have := List.mem_range.mp hi; omega)
    refine ⟨ys, n1, rfl, ⟨asc, fun y hy => (ok y hy).1.name (ok y hy).2, fun y hy => (ok y hy).1.fine⟩, by rw [p.length_eq]; simp, fun y hy => ?_, l1, by omega, List.take_of_length_le (by simp)⟩
    obtain ⟨i, hi, rfl⟩ := List.mem_map.mp (p.mem_iff.mp hy)
    rw [← slen, nmK_cps]
    simp only [List.length_append, List.length_cons, List.length_nil, (dig_ok i (by have := List.mem_range.mp hi; omega)).1]
    omega
  · have hi' : i < 200 := by have := List.mem_range.mp hi; omega
    obtain ⟨w1, w2⟩ := nmK_wd w hi'
    simp only [s_nil, s_brk, s_cont, s_seq, s_expr, s_ret, s_retN, s_set, s_setL, s_newL, s_unp, s_par, s_aug, s_six, s_if, s_for, w_var, w_mv2, mvK_d, mvK_r, w_c, w_bin, w_un, w_tst, w_and, w_or, w_not, w_andV, w_orV, w_notV, w_if, w_nil, w_cons, w_tup, w_lst, w_as, w_bc, w_lc, w_call, w_no, w_some, w_slice, w_app, w_ext, w_pop, w_seqD, w_rng1, w_comp, wpR_ok, optK_some, boolK_b, intK_i, oneK_d, oneL_d, twoK_2, sixK_r, rngK_i, rtK_d, peek_d, peek_r, peeks_n, peeks_c, own_r, lst_z, lst_s, Option.map_some, Option.bind_some, Option.join_some, List.getElem?_cons_zero, List.getElem?_cons_succ, List.set_cons_zero, List.set_cons_succ, List.map_cons, List.map_nil, List.cons_append, List.nil_append, List.replicate_succ, List.replicate_zero, Nat.sub_self, datsV_n, datsV_d, wipe_n, wipe_c, setG_n, setG_t, setGs_n, setGs_c, ix_l, ix_t, atI_0, atI_1, atI_2, atI_3, add_i, sub_i, iadd_i, lt_i, le_i, gt_i, ge_i, eq_i, eq_s, len_l, len_t, int_i, abs_i, max_i, tuple_l, tuple_t, sizeLine_val, w_enum, w_isi, w_fmt, w_jnil, w_jcons, w_join, vK_1, strK_s, ne_i, ne_s, s_raise, s_try, wpR_exc, errIx0, errIx1, errIx2, errIx3, errWord0, errWord1, errWord2, errWord3, w_zip, zipK_2, row_l, row_t, w_back, backK_t, neg_i, w_ssetT, tupK_t, w_callI, callK_0, w_mulLD, mulK_l, w_disp, w_din, w_dget, one1_v, w_dlen, w_glue, w_upperD, w_dvals, s_dput, keyV_i, keyV_s, datV_d, strV_s, refOf_r, dctV_r, dct_z, dct_s, xor_tr, xor_fl, seqOf_l, seqOf_t, List.length_nil, List.length_cons, Nat.reduceAdd, Nat.reduceLeDiff, true_and, and_true, if_true, if_false, Bool.not_true, Bool.not_false, Bool.false_eq_true]
    have c6 : (cutS z none (some (6 : Int))).length ≤ 6 := cut_len z 6
    have lx : ("x" : Str).length = 1 := by decide +kernel
    have ld : (digK i).length = 4 := by rw [← slen]; exact (dig_ok i hi').1
    have l7 : (cutS z none (some (6 : Int)) ++ ("x" : Str)).length ≤ 7 := by rw [strLen_append, lx]; omega
    rw [add_s (by rw [sizeLine_val, lx]; omega), optK_some, str_i2 (by omega), optK_some, show Str.ofString (toString ((1000 : Int) + ((0 : Int) + (i : Int)))) = digK i from rfl, add_s (by rw [sizeLine_val, ld]; omega), optK_some]
    rfl
end Pg
end

section
namespace Pg
open PySem PySem.Spec PyProof.Rows L2 Dn
/-! ten links, to names of one beginning -/
theorem wd_of_name {z : Str} (h : nameB z = true) : Wd z ∧ z ≠ "any" := by
  unfold nameB at h
  split at h
  · cases h
  · rename_i q
    have q1 : ¬ z.length < 1 := fun e => q (.inl e)
    have q2 : ¬ 12 < z.length := fun e => q (.inr (.inl e))
    have q3 : z ≠ "any" := fun e => q (.inr (.inr (.inl e)))
    have q4 : ¬ ((z.cps.toList.head?.any fun c => !inS c firstS) = true) := fun e => q (.inr (.inr (.inr e)))
    refine ⟨⟨by omega, by omega, ?_, List.all_eq_true.mp h⟩, q3⟩
    cases e : z.cps.toList with
    | nil =>
      have := slen z
      rw [e] at this
      simp at this
      omega
    | cons c r =>
      refine ⟨c, r, rfl, ?_⟩
      rw [e] at q4
      simpa using q4
def tenC : List Nat := [97, 98, 99, 100, 101, 102, 103, 104, 105, 106]
theorem ten_cps : ("abcdefghij" : Str).cps.toList = tenC := by decide +kernel
theorem ten_sign : ∀ c ∈ tenC, c ∈ signsS.cps.toList := by decide +kernel
theorem p_eq : ("p" : Str) = ⟨#[112]⟩ := by decide +kernel
theorem blt_pre : ∀ (p a b : List Nat), strKind.blt (p ++ a) (p ++ b) = strKind.blt a b
  | [], _, _ => rfl
  | x :: p, a, b => by
    refine Eq.trans ?_ (blt_pre p a b)
    show decide (x :: (p ++ a) < x :: (p ++ b)) = decide (p ++ a < p ++ b)
    exact decide_eq_decide.mpr (by rw [List.cons_lt_cons_iff]; simp)
theorem str_lt {p : Str} {c d : Nat} (h : c < d) : lessD (.str (p ++ ⟨#[c]⟩)) (.str (p ++ ⟨#[d]⟩)) := by
  show lexLt itemOrd [Sum.inr (p ++ ⟨#[c]⟩ : Str).cps.toList] [Sum.inr (p ++ ⟨#[d]⟩ : Str).cps.toList] = true
  rw [PyProof.Rows.lex_cons]
  have e : strKind.blt (p ++ ⟨#[c]⟩ : Str).cps.toList (p ++ ⟨#[d]⟩ : Str).cps.toList = true := by
    rw [cps_app, cps_app, blt_pre]
    show decide ([c] < [d]) = true
    exact decide_eq_true (by rw [List.cons_lt_cons_iff]; exact .inl h)
  show (strKind.blt _ _ || _) = true
  rw [e]
  rfl
theorem lk_up {r s : Str} {c d : PyData} (h : lessD (.str r) (.str s)) : lessD (.tuple [.str r, c]) (.tuple [.str s, d]) := by
  have ne : (Sum.inr r.cps.toList : Int ⊕ List Nat) ≠ Sum.inr s.cps.toList := fun e => by
    have : r = s := PySem.W.str_of_cps (Sum.inr.inj e)
    rw [this] at h
    exact lessD_no h
  show PySem.W.dataLt (.tuple [.str r, c]) (.tuple [.str s, d]) = true
  unfold PySem.W.dataLt
  rw [show PySem.W.keyToks (.tuple [.str r, c]) = [Sum.inl 1] ++ (Sum.inr r.cps.toList :: (Sum.inl 1 :: (PySem.W.keyToks c ++ [Sum.inl 0]))) from rfl, show PySem.W.keyToks (.tuple [.str s, d]) = [Sum.inl 1] ++ (Sum.inr s.cps.toList :: (Sum.inl 1 :: (PySem.W.keyToks d ++ [Sum.inl 0]))) from rfl, PySem.W.lex_pre, PySem.W.lex_atom ne]
  exact h
def any0 : Con := .mk [] .nil
def lnP (p : Str) (cs : List Nat) : List (Str × Con) := cs.map fun c => (p ++ ⟨#[c]⟩, any0)
/-- a beginning of names -/
structure Beg (p : Str) : Prop where
  wd : Wd p
  len : p.length ≤ 11
  last : ∃ q, p.cps.toList = q ++ [112]
theorem Beg.name {p : Str} (b : Beg p) {c : Nat} (hc : c ∈ tenC) : nameB (p ++ ⟨#[c]⟩) = true ∧ strFine (p ++ ⟨#[c]⟩) := by
  have w := b.wd.snoc b.len (ten_sign c hc)
  refine ⟨w.name fun e => ?_, w.fine⟩
  obtain ⟨q, eq⟩ := b.last
  have h := congrArg (fun s : Str => s.cps.toList.reverse) e
  simp only [cps_app, eq] at h
  have a3 : ("any" : Str).cps.toList.reverse = [121, 110, 97] := by decide +kernel
  rw [a3] at h
  simp at h
theorem beg_p : Beg "p" := ⟨⟨by decide +kernel, by decide +kernel, ⟨112, [], by decide +kernel, by decide +kernel⟩, by decide +kernel⟩, by decide +kernel, ⟨[], by decide +kernel⟩⟩
theorem beg_r {r : Str} (h : nameB r = true) (l : r.length ≤ 9) : Beg (r ++ "p") := by
  obtain ⟨w, _⟩ := wd_of_name h
  have lp : ("p" : Str).length = 1 := by decide +kernel
  refine ⟨by rw [p_eq]; exact w.snoc (by omega) (by decide +kernel), by rw [strLen_append, lp]; omega, r.cps.toList, by rw [cps_app, p_eq]⟩
theorem ten_asc : tenC.Pairwise (· < ·) := by decide
theorem lnP_asc {p : Str} {cs : List Nat} (h : cs.Sublist tenC) : ((lnP p cs).map lkD).Pairwise lessD := by
  unfold lnP
  rw [List.map_map, List.pairwise_map]
  exact (ten_asc.sublist h).imp fun {a b} q => lk_up (str_lt q)
/-- names and links as they are drawn -/
theorem wide_ok {ns : List Str} {p : Str} {cs : List Nat} (w : Wds ns) (b : Beg p) (h : cs.Sublist tenC) : Ok (.mk ns (Lks.of (lnP p cs))) (ns.length + cs.length) 1 ∧ (Con.mk ns (Lks.of (lnP p cs))).size = ns.length + cs.length ∧ (Con.mk ns (Lks.of (lnP p cs))).deep = (if cs = [] then 0 else 1) := by
  have hy : ∀ q ∈ lnP p cs, nameB q.1 = true ∧ strFine q.1 ∧ fine q.2 ∧ wfB q.2 = true ∧ 1 + q.2.deep ≤ 1 := fun q hq => by
    obtain ⟨c, hc, rfl⟩ := List.mem_map.mp hq
    obtain ⟨a1, a2⟩ := b.name (h.subset hc)
    refine ⟨a1, a2, ?_, show wfB any0 = true by decide +kernel, show 1 + any0.deep ≤ 1 by decide +kernel⟩
    show Dn.fine any0
    unfold any0
    rw [Dn.fine, fineL]
    exact ⟨fun n hn => (nomatch hn), trivial⟩
  have sm : sumL (lnP p cs) = cs.length := by
    unfold sumL lnP
    rw [List.map_map]
    have : ((fun q : Str × Con => 1 + q.2.size) ∘ fun c => (p ++ ⟨#[c]⟩, any0)) = fun _ => 1 := by
      funext c
      show 1 + any0.size = 1
      decide +kernel
    rw [this, List.map_const', List.sum_replicate_nat]
    omega
  obtain ⟨e1, e2, e3, e4⟩ := lks_of2 hy
  refine ⟨con_ok2 (W := ns) (D := 1) w (List.Sublist.refl _) hy (lnP_asc h) (by omega) (by omega), by rw [Con.size, e1, sm], ?_⟩
  rw [Con.deep]
  cases cs with
  | nil => rfl
  | cons c cs =>
    rw [if_neg (by simp)]
    have g : (Lks.of (lnP p (c :: cs))).deep = max (1 + any0.deep) (Lks.of (lnP p cs)).deep := by
      show (Lks.of ((p ++ ⟨#[c]⟩, any0) :: lnP p cs)).deep = _
      rw [Lks.of, Lks.deep]
    have a0 : any0.deep = 0 := by decide +kernel
    rw [g, a0] at e2 ⊢
    omega
end Pg
end

section
namespace Pg
open PySem PySem.Spec PyProof.Rows L2 Dn
/-! two hundred signs, one more -/
/-- the three that are drawn -/
structure Three (c0 c1 c2 : Con) : Prop where
  ok : Ok c0 200 1
  z0 : c0.size = 200
  d0 : c0.deep = (if c0.links.data = [] then 0 else 1)
  a1 : Ask c1
  a2 : Ask c2
  z1 : c1.size = 201
  z2 : c2.size = 201
def zzz : Str := "zzz"
theorem three_of {ns ys : List Str} {p : Str} {cs : List Nat} (w : Wds ns) (b : Beg p) (h : cs.Sublist tenC) (hl : ns.length + cs.length = 200) (py : ys.Perm (ns ++ [zzz])) : Three (.mk ns (Lks.of (lnP p cs))) (.mk ys (Lks.of (lnP p cs))) (.mk (ns.reverse ++ [zzz]) (Lks.of (lnP p cs))) := by
  obtain ⟨ok, z, d⟩ := wide_ok w b h
  have f := ok.fine
  rw [Dn.fine] at f
  have ls : (Lks.of (lnP p cs)).size = cs.length := by rw [Con.size] at z; omega
  have ld := ok.deep
  rw [Con.deep] at ld
  have zz : strFine zzz := ⟨by decide +kernel, by decide +kernel⟩
  refine ⟨by rw [← hl]; exact ok, by rw [z, hl], ?_, ⟨?_, ?_, ?_⟩, ⟨?_, ?_, ?_⟩, ?_, ?_⟩
  · rw [d]
    show _ = if (Lks.of (lnP p cs)).data = [] then 0 else 1
    cases cs with
    | nil => rfl
    | cons c cs =>
      rw [if_neg (by simp), if_neg]
      show ¬ (Lks.of ((p ++ ⟨#[c]⟩, any0) :: lnP p cs)).data = []
      rw [Lks.of, Lks.data]
      simp
  · rw [Con.size, ls, py.length_eq]; simp; omega
  · rw [Con.deep]; omega
  · rw [Dn.fine]
    refine ⟨fun n hn => ?_, f.2⟩
    rcases List.mem_append.mp (py.mem_iff.mp hn) with hn | hn
    · exact f.1 n hn
    · rw [List.mem_singleton.mp hn]; exact zz
  · rw [Con.size, ls]; simp; omega
  · rw [Con.deep]; omega
  · rw [Dn.fine]
    refine ⟨fun n hn => ?_, f.2⟩
    rcases List.mem_append.mp hn with hn | hn
    · exact f.1 n (List.mem_reverse.mp hn)
    · rw [List.mem_singleton.mp hn]; exact zz
  · rw [Con.size, ls, py.length_eq]; simp; omega
  · rw [Con.size, ls]; simp; omega
theorem signs_ten (t : Nat) : signsD (cutS "abcdefghij" none (some (t : Int))) = (tenC.take t).map fun c => PyData.str ⟨#[c]⟩ := by
  unfold signsD
  rw [cutN, ten_cps]
theorem lnP_data (p : Str) (ns : List Str) (cs : List Nat) : (Con.mk ns (Lks.of (lnP p cs))).data = .tuple [.tuple (ns.map .str), .tuple (cs.map fun c => lkD (p ++ ⟨#[c]⟩, any0))] := by
  rw [mk_data]
  unfold lnP
  rw [List.map_map]
  rfl
end Pg
end

section
namespace Pg
open PySem PySem.Spec PyProof.Rows L2 Dn
theorem large_spec {k : Nat} {s : List Int} {n : Int} {hs : Hl} {r : Str} {ws : List PyData} {V : List Str} (S : Sk s n 20) (hk : 6 ≤ k) (wV : Wds (r :: V)) :
    wpR (callD prog k i__law_large [.ref 0, .dat (.tuple [.tuple ws, .tuple ((r :: V).map .str)])] (st s n :: hs)) (fun v h => ∃ (c0 c1 c2 : Con) (n' : Int), v = .dat (.list [c0.data, c1.data, c2.data]) ∧ Three c0 c1 c2 ∧ n ≤ n' ∧ n' ≤ n + 20 ∧ h = st s n' :: hs) noX := by
  obtain ⟨k, rfl⟩ : ∃ i, k = i + 1 := ⟨k - 1, by omega⟩
  have nr := wV.name r (by simp)
  have rm := (wd_of_name nr).1.max
  rw [call_at (r := r__law_large) rfl]
  rw [show r__law_large.body = D__law_large from rfl]
  generalize eB__law_large : D__law_large (callD prog k) = B__law_large
  refine fn_rule rfl ?_
  subst eB__law_large
  show wpS (D__law_large (callD prog k) [some (.ref 0), some (.dat (.tuple [.tuple ws, .tuple ((r :: V).map .str)])), none, none, none, none, none, none] (st s n :: hs)) _ _
  simp only [D__law_large, s_nil, s_brk, s_cont, s_seq, s_expr, s_ret, s_retN, s_set, s_setL, s_newL, s_unp, s_par, s_aug, s_six, s_if, s_for, w_var, w_mv2, mvK_d, mvK_r, w_c, w_bin, w_un, w_tst, w_and, w_or, w_not, w_andV, w_orV, w_notV, w_if, w_nil, w_cons, w_tup, w_lst, w_as, w_bc, w_lc, w_call, w_no, w_some, w_slice, w_app, w_ext, w_pop, w_seqD, w_rng1, w_comp, wpR_ok, optK_some, boolK_b, intK_i, oneK_d, oneL_d, twoK_2, sixK_r, rngK_i, rtK_d, peek_d, peek_r, peeks_n, peeks_c, own_r, lst_z, lst_s, Option.map_some, Option.bind_some, Option.join_some, List.getElem?_cons_zero, List.getElem?_cons_succ, List.set_cons_zero, List.set_cons_succ, List.map_cons, List.map_nil, List.cons_append, List.nil_append, List.replicate_succ, List.replicate_zero, Nat.sub_self, datsV_n, datsV_d, wipe_n, wipe_c, setG_n, setG_t, setGs_n, setGs_c, ix_l, ix_t, atI_0, atI_1, atI_2, atI_3, add_i, sub_i, iadd_i, lt_i, le_i, gt_i, ge_i, eq_i, eq_s, len_l, len_t, int_i, abs_i, max_i, tuple_l, tuple_t, sizeLine_val, w_enum, w_isi, w_fmt, w_jnil, w_jcons, w_join, vK_1, strK_s, ne_i, ne_s, s_raise, s_try, wpR_exc, errIx0, errIx1, errIx2, errIx3, errWord0, errWord1, errWord2, errWord3, w_zip, zipK_2, row_l, row_t, w_back, backK_t, neg_i, w_ssetT, tupK_t, w_callI, callK_0, w_mulLD, mulK_l, w_disp, w_din, w_dget, one1_v, w_dlen, w_glue, w_upperD, w_dvals, s_dput, keyV_i, keyV_s, datV_d, strV_s, refOf_r, dctV_r, dct_z, dct_s, xor_tr, xor_fl, seqOf_l, seqOf_t, List.length_nil, List.length_cons, Nat.reduceAdd, Nat.reduceLeDiff, true_and, and_true, if_true, if_false, Bool.not_true, Bool.not_false, Bool.false_eq_true]
  refine wpR_imp ((S.less (n' := n) (m' := 1) (by omega) (by omega)).next (by decide) (by decide) (by omega)) fun v h => ?_
  rintro ⟨x, rfl, x0, x1, rfl⟩
  obtain ⟨m, rfl⟩ : ∃ m : Nat, x = (m : Int) := ⟨x.toNat, by omega⟩
  simp only [s_nil, s_brk, s_cont, s_seq, s_expr, s_ret, s_retN, s_set, s_setL, s_newL, s_unp, s_par, s_aug, s_six, s_if, s_for, w_var, w_mv2, mvK_d, mvK_r, w_c, w_bin, w_un, w_tst, w_and, w_or, w_not, w_andV, w_orV, w_notV, w_if, w_nil, w_cons, w_tup, w_lst, w_as, w_bc, w_lc, w_call, w_no, w_some, w_slice, w_app, w_ext, w_pop, w_seqD, w_rng1, w_comp, wpR_ok, optK_some, boolK_b, intK_i, oneK_d, oneL_d, twoK_2, sixK_r, rngK_i, rtK_d, peek_d, peek_r, peeks_n, peeks_c, own_r, lst_z, lst_s, Option.map_some, Option.bind_some, Option.join_some, List.getElem?_cons_zero, List.getElem?_cons_succ, List.set_cons_zero, List.set_cons_succ, List.map_cons, List.map_nil, List.cons_append, List.nil_append, List.replicate_succ, List.replicate_zero, Nat.sub_self, datsV_n, datsV_d, wipe_n, wipe_c, setG_n, setG_t, setGs_n, setGs_c, ix_l, ix_t, atI_0, atI_1, atI_2, atI_3, add_i, sub_i, iadd_i, lt_i, le_i, gt_i, ge_i, eq_i, eq_s, len_l, len_t, int_i, abs_i, max_i, tuple_l, tuple_t, sizeLine_val, w_enum, w_isi, w_fmt, w_jnil, w_jcons, w_join, vK_1, strK_s, ne_i, ne_s, s_raise, s_try, wpR_exc, errIx0, errIx1, errIx2, errIx3, errWord0, errWord1, errWord2, errWord3, w_zip, zipK_2, row_l, row_t, w_back, backK_t, neg_i, w_ssetT, tupK_t, w_callI, callK_0, w_mulLD, mulK_l, w_disp, w_din, w_dget, one1_v, w_dlen, w_glue, w_upperD, w_dvals, s_dput, keyV_i, keyV_s, datV_d, strV_s, refOf_r, dctV_r, dct_z, dct_s, xor_tr, xor_fl, seqOf_l, seqOf_t, List.length_nil, List.length_cons, Nat.reduceAdd, Nat.reduceLeDiff, true_and, and_true, if_true, if_false, Bool.not_true, Bool.not_false, Bool.false_eq_true]
  rw [show (190 : Int) + (m : Int) = ((190 + m : Nat) : Int) by omega, show (200 : Int) - ((190 + m : Nat) : Int) = ((10 - m : Nat) : Int) by omega]
  refine wpR_imp (many_spec (S.less (n' := n + 1) (m' := 15) (by omega) (by omega)) (by omega) (by omega)) fun v h => ?_
  rintro ⟨ns, n1, rfl, wN, lN, fN, l1, l2, rfl⟩
  have zn : zzz ∉ ns := fun h => by
    have := fN zzz h
    have : zzz.length = 3 := by decide +kernel
    omega
  have nd : (ns ++ [zzz]).Nodup := by
    rw [List.nodup_append]
    refine ⟨(List.pairwise_map.mp wN.asc).imp (fun {a b} (q : lessD (.str a) (.str b)) (e : a = b) => lessD_no (d := .str b) (by rw [e] at q; exact q)), by simp, fun a ha b hb e => zn (by rw [← List.mem_singleton.mp hb, ← e]; exact ha)⟩
  obtain ⟨ys, ey, py, _⟩ := sorted_strs nd (by simp; omega)
  have ten : ("abcdefghij" : Str).length ≤ sizeLine := by rw [sizeLine_val]; decide +kernel
  have tl : (tenC.take (10 - m)).length = 10 - m := by rw [List.length_take]; show min _ 10 = _; omega
  have lp : ("p" : Str).length = 1 := by decide +kernel
  have inT : ∀ c ∈ tenC.take (10 - m), c ∈ tenC := fun c hc => List.mem_of_mem_take hc
  rw [slice_strN ten, optK_some]
  rw [show itemsOf (Val.dat (.str (cutS "abcdefghij" none (some ((10 - m : Nat) : Int))))) (st s n1 :: hs) = some ⟨signsD (cutS "abcdefghij" none (some ((10 - m : Nat) : Int))), none⟩ from rfl, optK_some]
  rw [signs_ten, comp_mapE (fun c : Nat => PyData.str ⟨#[c]⟩) (fun c => lkD (r ++ "p" ++ ⟨#[c]⟩, any0)) (tenC.take (10 - m)) [] (by rfl) (by rw [sizeLine_val, List.length_take, List.length_nil]; omega) (fun c hc => ?_)]
  · simp only [s_nil, s_brk, s_cont, s_seq, s_expr, s_ret, s_retN, s_set, s_setL, s_newL, s_unp, s_par, s_aug, s_six, s_if, s_for, w_var, w_mv2, mvK_d, mvK_r, w_c, w_bin, w_un, w_tst, w_and, w_or, w_not, w_andV, w_orV, w_notV, w_if, w_nil, w_cons, w_tup, w_lst, w_as, w_bc, w_lc, w_call, w_no, w_some, w_slice, w_app, w_ext, w_pop, w_seqD, w_rng1, w_comp, wpR_ok, optK_some, boolK_b, intK_i, oneK_d, oneL_d, twoK_2, sixK_r, rngK_i, rtK_d, peek_d, peek_r, peeks_n, peeks_c, own_r, lst_z, lst_s, Option.map_some, Option.bind_some, Option.join_some, List.getElem?_cons_zero, List.getElem?_cons_succ, List.set_cons_zero, List.set_cons_succ, List.map_cons, List.map_nil, List.cons_append, List.nil_append, List.replicate_succ, List.replicate_zero, Nat.sub_self, datsV_n, datsV_d, wipe_n, wipe_c, setG_n, setG_t, setGs_n, setGs_c, ix_l, ix_t, atI_0, atI_1, atI_2, atI_3, add_i, sub_i, iadd_i, lt_i, le_i, gt_i, ge_i, eq_i, eq_s, len_l, len_t, int_i, abs_i, max_i, tuple_l, tuple_t, sizeLine_val, w_enum, w_isi, w_fmt, w_jnil, w_jcons, w_join, vK_1, strK_s, ne_i, ne_s, s_raise, s_try, wpR_exc, errIx0, errIx1, errIx2, errIx3, errWord0, errWord1, errWord2, errWord3, w_zip, zipK_2, row_l, row_t, w_back, backK_t, neg_i, w_ssetT, tupK_t, w_callI, callK_0, w_mulLD, mulK_l, w_disp, w_din, w_dget, one1_v, w_dlen, w_glue, w_upperD, w_dvals, s_dput, keyV_i, keyV_s, datV_d, strV_s, refOf_r, dctV_r, dct_z, dct_s, xor_tr, xor_fl, seqOf_l, seqOf_t, List.length_nil, List.length_cons, Nat.reduceAdd, Nat.reduceLeDiff, true_and, and_true, if_true, if_false, Bool.not_true, Bool.not_false, Bool.false_eq_true]
    have a1 : addD (.tuple (ns.map .str)) (.tuple [.str "zzz"]) = some (.tuple ((ns ++ [zzz]).map .str)) := by
      rw [add_t (by rw [sizeLine_val]; simp; omega), List.map_append]; rfl
    have a2 : addD (.tuple (ns.map .str).reverse) (.tuple [.str "zzz"]) = some (.tuple ((ns.reverse ++ [zzz]).map .str)) := by
      rw [add_t (by rw [sizeLine_val]; simp; omega), List.map_append, List.map_reverse]; rfl
    have ey' : sortedD [.tuple ((ns ++ [zzz]).map .str)] = some (ys.map .str) := ey
    rw [len_s (by rw [sizeLine_val]; omega), optK_some, gt_i, optK_some, boolK_b]
    by_cases q : (9 : Int) < (r.length : Int)
    · rw [if_pos (decide_eq_true q), slice_strN ten, optK_some]
      rw [show itemsOf (Val.dat (.str (cutS "abcdefghij" none (some ((10 - m : Nat) : Int))))) (st s n1 :: hs) = some ⟨signsD (cutS "abcdefghij" none (some ((10 - m : Nat) : Int))), none⟩ from rfl, optK_some]
      rw [signs_ten, comp_mapE (fun c : Nat => PyData.str ⟨#[c]⟩) (fun c => lkD ("p" ++ ⟨#[c]⟩, any0)) (tenC.take (10 - m)) [] (by rfl) (by rw [sizeLine_val, List.length_take, List.length_nil]; omega) (fun c hc => ?_)]
      · simp only [s_nil, s_brk, s_cont, s_seq, s_expr, s_ret, s_retN, s_set, s_setL, s_newL, s_unp, s_par, s_aug, s_six, s_if, s_for, w_var, w_mv2, mvK_d, mvK_r, w_c, w_bin, w_un, w_tst, w_and, w_or, w_not, w_andV, w_orV, w_notV, w_if, w_nil, w_cons, w_tup, w_lst, w_as, w_bc, w_lc, w_call, w_no, w_some, w_slice, w_app, w_ext, w_pop, w_seqD, w_rng1, w_comp, wpR_ok, optK_some, boolK_b, intK_i, oneK_d, oneL_d, twoK_2, sixK_r, rngK_i, rtK_d, peek_d, peek_r, peeks_n, peeks_c, own_r, lst_z, lst_s, Option.map_some, Option.bind_some, Option.join_some, List.getElem?_cons_zero, List.getElem?_cons_succ, List.set_cons_zero, List.set_cons_succ, List.map_cons, List.map_nil, List.cons_append, List.nil_append, List.replicate_succ, List.replicate_zero, Nat.sub_self, datsV_n, datsV_d, wipe_n, wipe_c, setG_n, setG_t, setGs_n, setGs_c, ix_l, ix_t, atI_0, atI_1, atI_2, atI_3, add_i, sub_i, iadd_i, lt_i, le_i, gt_i, ge_i, eq_i, eq_s, len_l, len_t, int_i, abs_i, max_i, tuple_l, tuple_t, sizeLine_val, w_enum, w_isi, w_fmt, w_jnil, w_jcons, w_join, vK_1, strK_s, ne_i, ne_s, s_raise, s_try, wpR_exc, errIx0, errIx1, errIx2, errIx3, errWord0, errWord1, errWord2, errWord3, w_zip, zipK_2, row_l, row_t, w_back, backK_t, neg_i, w_ssetT, tupK_t, w_callI, callK_0, w_mulLD, mulK_l, w_disp, w_din, w_dget, one1_v, w_dlen, w_glue, w_upperD, w_dvals, s_dput, keyV_i, keyV_s, datV_d, strV_s, refOf_r, dctV_r, dct_z, dct_s, xor_tr, xor_fl, seqOf_l, seqOf_t, List.length_nil, List.length_cons, Nat.reduceAdd, Nat.reduceLeDiff, true_and, and_true, if_true, if_false, Bool.not_true, Bool.not_false, Bool.false_eq_true]
        rw [a1, optK_some, ey', optK_some, a2, optK_some]
        exact ⟨_, _, _, n1, by rw [← lnP_data "p" ns (tenC.take (10 - m)), ← lnP_data "p" ys (tenC.take (10 - m)), ← lnP_data "p" (ns.reverse ++ [zzz]) (tenC.take (10 - m))], three_of wN beg_p (List.take_sublist _ _) (by omega) py, by omega, by omega, List.take_of_length_le (by simp)⟩
      · simp only [s_nil, s_brk, s_cont, s_seq, s_expr, s_ret, s_retN, s_set, s_setL, s_newL, s_unp, s_par, s_aug, s_six, s_if, s_for, w_var, w_mv2, mvK_d, mvK_r, w_c, w_bin, w_un, w_tst, w_and, w_or, w_not, w_andV, w_orV, w_notV, w_if, w_nil, w_cons, w_tup, w_lst, w_as, w_bc, w_lc, w_call, w_no, w_some, w_slice, w_app, w_ext, w_pop, w_seqD, w_rng1, w_comp, wpR_ok, optK_some, boolK_b, intK_i, oneK_d, oneL_d, twoK_2, sixK_r, rngK_i, rtK_d, peek_d, peek_r, peeks_n, peeks_c, own_r, lst_z, lst_s, Option.map_some, Option.bind_some, Option.join_some, List.getElem?_cons_zero, List.getElem?_cons_succ, List.set_cons_zero, List.set_cons_succ, List.map_cons, List.map_nil, List.cons_append, List.nil_append, List.replicate_succ, List.replicate_zero, Nat.sub_self, datsV_n, datsV_d, wipe_n, wipe_c, setG_n, setG_t, setGs_n, setGs_c, ix_l, ix_t, atI_0, atI_1, atI_2, atI_3, add_i, sub_i, iadd_i, lt_i, le_i, gt_i, ge_i, eq_i, eq_s, len_l, len_t, int_i, abs_i, max_i, tuple_l, tuple_t, sizeLine_val, w_enum, w_isi, w_fmt, w_jnil, w_jcons, w_join, vK_1, strK_s, ne_i, ne_s, s_raise, s_try, wpR_exc, errIx0, errIx1, errIx2, errIx3, errWord0, errWord1, errWord2, errWord3, w_zip, zipK_2, row_l, row_t, w_back, backK_t, neg_i, w_ssetT, tupK_t, w_callI, callK_0, w_mulLD, mulK_l, w_disp, w_din, w_dget, one1_v, w_dlen, w_glue, w_upperD, w_dvals, s_dput, keyV_i, keyV_s, datV_d, strV_s, refOf_r, dctV_r, dct_z, dct_s, xor_tr, xor_fl, seqOf_l, seqOf_t, List.length_nil, List.length_cons, Nat.reduceAdd, Nat.reduceLeDiff, true_and, and_true, if_true, if_false, Bool.not_true, Bool.not_false, Bool.false_eq_true]
        rw [add_s (by rw [sizeLine_val, lp]; show 1 + 1 ≤ _; omega), optK_some]
        rfl
    · rw [if_neg (by simpa using q)]
      rw [a1, optK_some, ey', optK_some, a2, optK_some]
      exact ⟨_, _, _, n1, by rw [← lnP_data (r ++ "p") ns (tenC.take (10 - m)), ← lnP_data (r ++ "p") ys (tenC.take (10 - m)), ← lnP_data (r ++ "p") (ns.reverse ++ [zzz]) (tenC.take (10 - m))], three_of wN (beg_r nr (by omega)) (List.take_sublist _ _) (by omega) py, by omega, by omega, List.take_of_length_le (by simp)⟩
  · simp only [s_nil, s_brk, s_cont, s_seq, s_expr, s_ret, s_retN, s_set, s_setL, s_newL, s_unp, s_par, s_aug, s_six, s_if, s_for, w_var, w_mv2, mvK_d, mvK_r, w_c, w_bin, w_un, w_tst, w_and, w_or, w_not, w_andV, w_orV, w_notV, w_if, w_nil, w_cons, w_tup, w_lst, w_as, w_bc, w_lc, w_call, w_no, w_some, w_slice, w_app, w_ext, w_pop, w_seqD, w_rng1, w_comp, wpR_ok, optK_some, boolK_b, intK_i, oneK_d, oneL_d, twoK_2, sixK_r, rngK_i, rtK_d, peek_d, peek_r, peeks_n, peeks_c, own_r, lst_z, lst_s, Option.map_some, Option.bind_some, Option.join_some, List.getElem?_cons_zero, List.getElem?_cons_succ, List.set_cons_zero, List.set_cons_succ, List.map_cons, List.map_nil, List.cons_append, List.nil_append, List.replicate_succ, List.replicate_zero, Nat.sub_self, datsV_n, datsV_d, wipe_n, wipe_c, setG_n, setG_t, setGs_n, setGs_c, ix_l, ix_t, atI_0, atI_1, atI_2, atI_3, add_i, sub_i, iadd_i, lt_i, le_i, gt_i, ge_i, eq_i, eq_s, len_l, len_t, int_i, abs_i, max_i, tuple_l, tuple_t, sizeLine_val, w_enum, w_isi, w_fmt, w_jnil, w_jcons, w_join, vK_1, strK_s, ne_i, ne_s, s_raise, s_try, wpR_exc, errIx0, errIx1, errIx2, errIx3, errWord0, errWord1, errWord2, errWord3, w_zip, zipK_2, row_l, row_t, w_back, backK_t, neg_i, w_ssetT, tupK_t, w_callI, callK_0, w_mulLD, mulK_l, w_disp, w_din, w_dget, one1_v, w_dlen, w_glue, w_upperD, w_dvals, s_dput, keyV_i, keyV_s, datV_d, strV_s, refOf_r, dctV_r, dct_z, dct_s, xor_tr, xor_fl, seqOf_l, seqOf_t, List.length_nil, List.length_cons, Nat.reduceAdd, Nat.reduceLeDiff, true_and, and_true, if_true, if_false, Bool.not_true, Bool.not_false, Bool.false_eq_true]
    rw [add_s (by rw [sizeLine_val, lp]; omega), optK_some, add_s (by rw [sizeLine_val, strLen_append, lp]; show _ + 1 ≤ _; omega), optK_some]
    rfl
end Pg
end

section
namespace Pg
open PySem PySem.Spec PyProof.Rows L2 Dn
theorem liesL_iff {c : Con} : ∀ {ls : Lks}, liesL c ls = true ↔ ∀ p ∈ ls.list, ∃ q ∈ c.links.list, q.1 = p.1 ∧ liesB q.2 p.2 = true
  | .nil => by rw [liesL, Lks.list]; simp
  | .cons r d ls => by
    rw [liesL, Lks.list, Bool.and_eq_true, liesL_iff (ls := ls), List.any_eq_true]
    constructor
    · rintro ⟨⟨t, ht, e⟩, h⟩ p hp
      rcases List.mem_cons.mp hp with rfl | hp
      · rw [Bool.and_eq_true, beq_iff_eq] at e
        exact ⟨t, ht, e⟩
      · exact h p hp
    · intro h
      refine ⟨?_, fun p hp => h p (List.mem_cons_of_mem _ hp)⟩
      obtain ⟨q, hq, e⟩ := h (r, d) (List.mem_cons_self ..)
      exact ⟨q, hq, by rw [Bool.and_eq_true, beq_iff_eq]; exact e⟩
theorem lies_iff {c d : Con} : liesB c d = true ↔ (∀ m ∈ d.names, m ∈ c.names) ∧ ∀ p ∈ d.links.list, ∃ q ∈ c.links.list, q.1 = p.1 ∧ liesB q.2 p.2 = true := by
  obtain ⟨ns, ls⟩ := d
  rw [liesB, Bool.and_eq_true, liesL_iff, List.all_eq_true]
  simp only [decide_eq_true_eq]
  exact Iff.rfl
theorem size_links {c : Con} {p : Str × Con} (h : p ∈ c.links.list) : p.2.size < c.size := by
  have := size_mem h
  rw [con_size c]
  omega
theorem lies_refl (n : Nat) : ∀ c : Con, c.size ≤ n → liesB c c = true := by
  induction n with
  | zero =>
    intro c hn
    rw [lies_iff]
    refine ⟨fun _ h => h, fun p hp => ?_⟩
    have := size_links hp
    omega
  | succ n ih =>
    intro c hn
    rw [lies_iff]
    refine ⟨fun _ h => h, fun p hp => ?_⟩
    have := size_links hp
    exact ⟨p, hp, rfl, ih p.2 (by omega)⟩
abbrev anyC : Con := .mk [] .nil
end Pg
end

section
namespace Pg
open PySem PySem.Spec PyProof.Rows L2 Dn
theorem any_data : anyC.data = .tuple [.tuple [], .tuple []] := by rw [Con.data, Lks.data]; rfl
theorem any_good : Good anyC := ⟨by rw [Con.size, Lks.size]; exact Nat.zero_le _, by rw [Con.deep, Lks.deep]; exact Nat.zero_le _, by rw [Dn.fine, fineL]; exact ⟨fun n h => (nomatch h), trivial⟩, by rw [wfB, wfL, Lks.data]; rfl⟩
theorem lies_any (c : Con) : liesB c anyC = true := by
  rw [lies_iff]
  exact ⟨fun m h => (nomatch h), fun p h => (nomatch h)⟩
theorem pair_repr {c d : Con} (gc : Good c) (gd : Good d) : ∃ z, reprD [.tuple [c.data, d.data]] = some (.str z) := by
  obtain ⟨a1, a2, a3⟩ := Con.shows c gc.fine
  obtain ⟨b1, b2, b3⟩ := Con.shows d gd.fine
  have := gc.size
  have := gd.size
  have := gc.deep
  have := gd.deep
  have := Con.depth_le c
  have := Con.depth_le d
  refine ⟨_, repr_of ?_ ?_ ?_ ?_⟩
  · rw [PyData.showable, PyData.showableAll, PyData.showableAll, PyData.showableAll, a3, b3]; rfl
  · rw [strOk, strOkAll, strOkAll, strOkAll]; exact ⟨a1, b1, trivial⟩
  · rw [wt, wtAll, wtAll, wtAll]; omega
  · rw [PyData.depth, PyData.depthAll, PyData.depthAll, PyData.depthAll]; omega
theorem bools_same {k : Nat} {xs : List Bool} {h : Hl} (hk : 0 < k) (hl : xs.length ≤ 100) : callD prog k i__law_same [.dat (.list (xs.map .bool)), .dat (.list (xs.map .bool))] h = .ok (.dat (.bool true)) h := by
  have a : ∀ xs : List Bool, PyData.showableAll (xs.map .bool) = true ∧ strOkAll (xs.map .bool) ∧ wtAll (xs.map .bool) = 7 * xs.length ∧ PyData.depthAll (xs.map .bool) = 0 := by
    intro xs
    induction xs with
    | nil => rw [List.map_nil, PyData.showableAll, strOkAll, wtAll, PyData.depthAll]; exact ⟨rfl, trivial, rfl, rfl⟩
    | cons x xs ih =>
      obtain ⟨i1, i2, i3, i4⟩ := ih
      rw [List.map_cons, PyData.showableAll, strOkAll, wtAll, PyData.depthAll, i1, i3, i4, PyData.showable, strOk, wt, List.length_cons, show (PyData.bool x).depth = 0 by simp [PyData.depth]]
      exact ⟨rfl, ⟨trivial, i2⟩, by omega, rfl⟩
  obtain ⟨i1, i2, i3, i4⟩ := a xs
  refine same_spec hk ?_ ?_ ?_ ?_
  · rw [PyData.showable, i1]
  · rw [strOk]; exact i2
  · rw [wt, i3]; omega
  · rw [PyData.depth, i4]; omega
/-! what can be shown -/
structure Sh (d : PyData) (w p : Nat) : Prop where
  show' : d.showable = true
  ok : strOk d
  wt : wt d ≤ w
  deep : d.depth ≤ p
structure ShA (ds : List PyData) (w p : Nat) : Prop where
  show' : PyData.showableAll ds = true
  ok : strOkAll ds
  wt : wtAll ds ≤ w
  deep : PyData.depthAll ds ≤ p
theorem ShA.nil {w p : Nat} : ShA [] w p := ⟨by rw [PyData.showableAll], by rw [strOkAll]; trivial, by rw [wtAll]; omega, by rw [PyData.depthAll]; omega⟩
theorem ShA.cons {d : PyData} {ds : List PyData} {w w' v p : Nat} (a : Sh d w p) (b : ShA ds w' p) (h : w + 2 + w' ≤ v) : ShA (d :: ds) v p :=
  ⟨by rw [PyData.showableAll, a.show', b.show']; rfl, by rw [strOkAll]; exact ⟨a.ok, b.ok⟩, by rw [wtAll]; have := a.wt; have := b.wt; omega, by rw [PyData.depthAll]; have := a.deep; have := b.deep; omega⟩
theorem Sh.tup {ds : List PyData} {w v p : Nat} (a : ShA ds w p) (h : w + 3 ≤ v) : Sh (.tuple ds) v (p + 1) :=
  ⟨by rw [PyData.showable]; exact a.show', by rw [strOk]; exact a.ok, by rw [Dn.wt]; have := a.wt; omega, by rw [PyData.depth]; have := a.deep; omega⟩
theorem Sh.lst {ds : List PyData} {w v p : Nat} (a : ShA ds w p) (h : w + 2 ≤ v) : Sh (.list ds) v (p + 1) :=
  ⟨by rw [PyData.showable]; exact a.show', by rw [strOk]; exact a.ok, by rw [Dn.wt]; have := a.wt; omega, by rw [PyData.depth]; have := a.deep; omega⟩
theorem Sh.bool (b : Bool) {p : Nat} : Sh (.bool b) 5 p := ⟨by rw [PyData.showable], by rw [strOk]; trivial, by rw [Dn.wt]; omega, by simp [PyData.depth]⟩
theorem Sh.non {p : Nat} : Sh .none 4 p := ⟨by rw [PyData.showable], by rw [strOk]; trivial, by rw [Dn.wt]; omega, by simp [PyData.depth]⟩
theorem Sh.str {z : Str} {p : Nat} (h : strFine z) : Sh (.str z) 10002 p := ⟨by rw [PyData.showable], by rw [strOk]; exact h.2, by rw [Dn.wt]; have := h.1; omega, by simp [PyData.depth]⟩
theorem int_len : ∀ n : Nat, n < 300 → ((PyData.int (n : Int)).shown).length ≤ 10 := by decide +kernel
theorem Sh.int {i : Int} {p : Nat} (h0 : 0 ≤ i) (h1 : i < 300) : Sh (.int i) 10 p := by
  obtain ⟨n, rfl⟩ := Int.eq_ofNat_of_zero_le h0
  exact ⟨by rw [PyData.showable]; exact decide_eq_true (Nat.lt_of_le_of_lt (Nat.log2_le_self _) (by omega)), by rw [strOk]; trivial, by rw [Dn.wt]; exact int_len n (by omega), by simp [PyData.depth]⟩
theorem Sh.con {c : Con} (f : fine c) : Sh c.data (13 + 10100 * c.size) (3 * c.deep + 2) := ⟨(Con.shows c f).2.2, (Con.shows c f).1, (Con.shows c f).2.1, Con.depth_le c⟩
theorem Sh.con3 {c : Con} (f : fine c) : Sh c.data (13 + 2100 * c.size) (3 * c.deep + 2) := ⟨(Con.shows3 c f).2.2, (Con.shows3 c f).1, (Con.shows3 c f).2.1, Con.depth_le c⟩
theorem Sh.up {d : PyData} {w w' p p' : Nat} (a : Sh d w p) (h : w ≤ w') (h2 : p ≤ p') : Sh d w' p' := ⟨a.show', a.ok, Nat.le_trans a.wt h, Nat.le_trans a.deep h2⟩
theorem Sh.same {k : Nat} {d : PyData} {w p : Nat} {h : Hl} (a : Sh d w p) (hk : 0 < k) (h1 : w ≤ 16000000) (h2 : p ≤ 50) : callD prog k i__law_same [.dat d, .dat d] h = .ok (.dat (.bool true)) h :=
  same_spec hk a.show' a.ok (Nat.le_trans a.wt h1) (Nat.le_trans a.deep h2)
theorem Sh.repr {d : PyData} {w p : Nat} (a : Sh d w p) (h1 : w ≤ 16000000) (h2 : p ≤ 50) : reprD [d] = some (.str d.shown) := repr_of a.show' a.ok (Nat.le_trans a.wt (by omega)) (Nat.le_trans a.deep (by omega))
end Pg
end

section
namespace Pg
open PySem PySem.Spec PyProof.Rows L2 Dn
/-! what is compared -/
theorem str_sh {z : Str} (h : strFine z) {p : Nat} : Sh (.str z) 10002 p := Sh.str h
theorem told_fine : strFine "told" := ⟨by decide +kernel, by decide +kernel⟩
theorem large_fine : strFine "large" := ⟨by decide +kernel, by decide +kernel⟩
theorem refused_fine : strFine "refused" := ⟨by decide +kernel, by decide +kernel⟩
theorem pair_sh {d : PyData} {w : Nat} (a : Sh d w 0) (hw : w ≤ 10) : Sh (.tuple [.str "told", d]) 11000 1 :=
  Sh.tup (w := 10500) (ShA.cons (w := 10002) (w' := 100) (str_sh told_fine) (ShA.cons (w := 10) (w' := 0) (a.up hw (Nat.le_refl _)) ShA.nil (by omega)) (by omega)) (by omega)
theorem three_sh {a b c : PyData} (ha : Sh a 11000 1) (hb : Sh b 11000 1) (hc : Sh c 11000 1) : Sh (.list [a, b, c]) 40000 2 :=
  Sh.lst (w := 39000) (ShA.cons (w := 11000) (w' := 27000) ha (ShA.cons (w := 11000) (w' := 13000) hb (ShA.cons (w := 11000) (w' := 0) hc ShA.nil (by omega)) (by omega)) (by omega)) (by omega)
theorem ends_ok {c : Con} (b : bigC c = false) (w : wfB c = true) : ends3 c = .list [.tuple [.str "told", .none], .tuple [.str "told", .int c.size], .tuple [.str "told", .int c.deep]] := by
  show PyData.list [endC c .none, endC c (.int c.size), endC c (.int c.deep)] = _
  unfold endC
  rw [b, w]
  rfl
theorem ends_large {c : Con} (b : bigC c = true) : ends3 c = .list [.str "large", .str "large", .str "large"] := by
  show PyData.list [endC c .none, endC c (.int c.size), endC c (.int c.deep)] = _
  unfold endC
  rw [b]
  rfl
theorem ends_no {c : Con} (b : bigC c = false) (w : wfB c = false) : ends3 c = .list [.str "refused", .str "refused", .str "refused"] := by
  show PyData.list [endC c .none, endC c (.int c.size), endC c (.int c.deep)] = _
  unfold endC
  rw [b, w]
  rfl
theorem big_no {c : Con} (h1 : c.size ≤ 200) (h2 : c.deep ≤ 12) : bigC c = false := by
  unfold bigC
  rw [decide_eq_false_iff_not]
  omega
theorem Sp1.ask {c : Con} (s : Sp1 200 12 c) : Ask c := ⟨Nat.le_trans s.size (by omega), Nat.le_trans s.deep (by omega), s.fine⟩
theorem Ok.ask {c : Con} {z d : Nat} (o : Ok c z d) (h1 : z ≤ 1000000) (h2 : d ≤ 18) : Ask c := ⟨Nat.le_trans o.size h1, Nat.le_trans o.deep h2, o.fine⟩
theorem told_sh {c : Con} (h1 : c.size ≤ 200) (h2 : c.deep ≤ 12) : Sh (.list [.tuple [.str "told", .none], .tuple [.str "told", .int c.size], .tuple [.str "told", .int c.deep]]) 40000 2 :=
  three_sh (pair_sh (w := 4) Sh.non (by omega)) (pair_sh (w := 10) (Sh.int (by omega) (by omega)) (by omega)) (pair_sh (w := 10) (Sh.int (by omega) (by omega)) (by omega))
theorem refused_sh : Sh (.list [.str "refused", .str "refused", .str "refused"]) 40000 2 := three_sh ((str_sh (p := 1) refused_fine).up (by omega) (by omega)) ((str_sh (p := 1) refused_fine).up (by omega) (by omega)) ((str_sh (p := 1) refused_fine).up (by omega) (by omega))
theorem large_sh : Sh (.list [.str "large", .str "large", .str "large"]) 40000 2 := three_sh ((str_sh (p := 1) large_fine).up (by omega) (by omega)) ((str_sh (p := 1) large_fine).up (by omega) (by omega)) ((str_sh (p := 1) large_fine).up (by omega) (by omega))
theorem ok_same {k : Nat} {c : Con} {h : Hl} (hk : c.deep + 10 < k) (a : Ask c) (h1 : c.size ≤ 200) (h2 : c.deep ≤ 12) (w : wfB c = true) : callD prog k i__law_all [.dat c.data] h = .ok (.dat (.list [.tuple [.str "told", .none], .tuple [.str "told", .int c.size], .tuple [.str "told", .int c.deep]])) h := by
  rw [all_spec (by omega) a, ends_ok (big_no h1 h2) w]
theorem no_same {k : Nat} {c : Con} {h : Hl} (hk : c.deep + 10 < k) (s : Sp1 200 12 c) : callD prog k i__law_all [.dat c.data] h = .ok (.dat (.list [.str "refused", .str "refused", .str "refused"])) h := by
  rw [all_spec (by omega) s.ask, ends_no (big_no s.size s.deep) s.no]
theorem large_same {k : Nat} {c : Con} {h : Hl} (hk : c.deep + 10 < k) (a : Ask c) (b : 200 < c.size ∨ 12 < c.deep) : callD prog k i__law_all [.dat c.data] h = .ok (.dat (.list [.str "large", .str "large", .str "large"])) h := by
  rw [all_spec (by omega) a, ends_large (decide_eq_true b)]
end Pg
end

section
namespace Pg
open PySem PySem.Spec PyProof.Rows L2 Dn
def law_rest (call : Nat → LFn) : En → Hl → SR := (seqS (setS 4 (callE (call i__law_concept) (consD (varD 1) (consD (varD 3) (consD (cD (.int 4)) (consD (cD (.int 3)) nilD))))))
  (seqS (unpS (.tp [(.nm 5), (.nm 6)]) (callE (call i__law_measure) (consD (varD 4) nilD)))
  (seqS (ifS (andT (tstD (binD leD (varD 5) (cD (.int 200)))) (notT (tstD (callE (call i__law_same) (consD (callE (call i__law_all) (consD (varD 4) nilD)) (consD (asD (lstD (consD (tupD (consD (cD (.str "told")) (consD (cD .none) nilD))) (consD (tupD (consD (cD (.str "told")) (consD (varD 5) nilD))) (consD (tupD (consD (cD (.str "told")) (consD (varD 6) nilD))) nilD))))) nilD))))))
  (seqS (retS (cD (.bool false)))
  nilS)
  nilS)
  (seqS (ifS (notT (tstD (callE (call i__law_same) (consD (callE (call i__law_all) (consD (callE (call i__law_spoilt) (consD (varD 1) (consD (varD 3) nilD))) nilD)) (consD (binD mulL (asD (lstD (consD (cD (.str "refused")) nilD))) (cD (.int 3))) nilD)))))
  (seqS (retS (cD (.bool false)))
  nilS)
  nilS)
  (seqS (ifS (notT (tstD (callE (call i__law_names) (consD (varD 1) nilD))))
  (seqS (retS (cD (.bool false)))
  nilS)
  nilS)
  nilS)))))
def law_turn (call : Nat → LFn) : En → Hl → SR := (seqS (setS 3 (tupD (consD (callE (call i__law_texts) (consD (varD 1) (consD (cD (.int 5)) nilD))) (consD (callE (call i__law_texts) (consD (varD 1) (consD (cD (.int 3)) nilD))) nilD))))
  (seqS (ifS (orT (tstD (binD ltD (bcD lenD (consD (binD ixD (varD 3) (cD (.int 0))) nilD)) (cD (.int 2)))) (tstD (binD ltD (bcD lenD (consD (binD ixD (varD 3) (cD (.int 1))) nilD)) (cD (.int 2)))))
  (seqS (setS 3 (tupD (consD (tupD (consD (cD (.str "a")) (consD (cD (.str "b")) nilD))) (consD (tupD (consD (cD (.str "r")) (consD (cD (.str "s")) nilD))) nilD))))
  nilS)
  nilS)
  (law_rest call)))
def law_tail (call : Nat → LFn) : En → Hl → SR := (seqS (setS 7 (callE (call i__law_large) (consD (varD 1) (consD (varD 3) nilD))))
  (seqS (ifS (notT (tstD (callE (call i__law_same) (consD (asD (compD (seqD (varD 7)) [9] (.nm 9) yesD (callE (call i__law_all) (consD (varD 9) nilD)))) (consD (asD (lstD (consD (asD (lstD (consD (tupD (consD (cD (.str "told")) (consD (cD .none) nilD))) (consD (tupD (consD (cD (.str "told")) (consD (cD (.int 200)) nilD))) (consD (tupD (consD (cD (.str "told")) (consD (binD subD (cD (.int 1)) (bcD intD (consD (binD eqD (bcD lenD (consD (binD ixD (binD ixD (varD 7) (cD (.int 0))) (cD (.int 1))) nilD)) (cD (.int 0))) nilD))) nilD))) nilD))))) (consD (binD mulL (asD (lstD (consD (cD (.str "large")) nilD))) (cD (.int 3))) (consD (binD mulL (asD (lstD (consD (cD (.str "large")) nilD))) (cD (.int 3))) nilD))))) nilD)))))
  (seqS (retS (cD (.bool false)))
  nilS)
  nilS)
  (seqS (setS 8 (callE (call i__law_chain) (consD (tupD (consD (tupD (consD (cD (.str "Bad")) nilD)) (consD (binD ixD (varD 3) (cD (.int 1))) nilD))) (consD (cD (.int 13)) nilD))))
  (seqS (retS (callE (call i__law_same) (consD (asD (lstD (consD (binD ixD (callE (call i__law_all) (consD (callE (call i__law_chain) (consD (varD 3) (consD (cD (.int 12)) nilD))) nilD)) (cD (.int 2))) (consD (callE (call i__law_all) (consD (callE (call i__law_chain) (consD (varD 3) (consD (cD (.int 13)) nilD))) nilD)) (consD (callE (call i__law_all) (consD (varD 8) nilD)) nilD))))) (consD (asD (lstD (consD (tupD (consD (cD (.str "told")) (consD (cD (.int 12)) nilD))) (consD (binD mulL (asD (lstD (consD (cD (.str "large")) nilD))) (cD (.int 3))) (consD (binD mulL (asD (lstD (consD (cD (.str "large")) nilD))) (cD (.int 3))) nilD))))) nilD))))
  nilS))))
theorem law_shape (call : Nat → LFn) : D_law call = (seqS (Dn.newL 1 (lstD (consD (callE (call i__law_stream) (consD (varD 0) nilD)) (consD (cD (.int 0)) nilD))))
  (seqS (ifS (notT (tstD (callE (call i__law_same) (consD (asD (lstD (consD (cD (.tuple [(.tuple []), (.tuple [])])) (consD (cD (.int 12)) (consD (cD (.int 2000)) (consD (cD (.int 200)) nilD)))))) (consD (asD (lstD (consD (tupD (consD (tupD nilD) (consD (tupD nilD) nilD))) (consD (cD (.int 12)) (consD (cD (.int 2000)) (consD (cD (.int 200)) nilD)))))) nilD)))))
  (seqS (retS (cD (.bool false)))
  nilS)
  nilS)
  (seqS (forS (rng1D (consD (cD (.int 4)) nilD)) (.nm 2)
  (law_turn call))
  (law_tail call)))) := rfl
theorem rest_spec {s : List Int} {k : Nat} {n : Int} {hs : Hl} {N : En → Hl → Prop} {C : Ctl} {a b r r2 : Str} {W V : List Str} (hk : 50 ≤ k) (S : Sk s n 1000) (wW : Wds (a :: b :: W)) (wV : Wds (r :: r2 :: V)) (lW : W.length ≤ 3) (lV : V.length ≤ 3) (e0 e2 e4 e5 e6 e7 e8 e9 : Option Val)
    (fin : ∀ e4 e5 e6 n', n ≤ n' → n' ≤ n + 1000 → N [e0, some (.ref 0), e2, some (.dat (.tuple [.tuple ((a :: b :: W).map .str), .tuple ((r :: r2 :: V).map .str)])), e4, e5, e6, e7, e8, e9] (st s n' :: hs)) :
    Dn.wpS (law_rest (callD prog k) [e0, some (.ref 0), e2, some (.dat (.tuple [.tuple ((a :: b :: W).map .str), .tuple ((r :: r2 :: V).map .str)])), e4, e5, e6, e7, e8, e9] (st s n :: hs)) N C := by
  unfold law_rest
  simp only [s_nil, s_brk, s_cont, s_seq, s_expr, s_ret, s_retN, s_set, s_setL, s_newL, s_unp, s_par, s_aug, s_six, s_if, s_for, w_var, w_mv2, mvK_d, mvK_r, w_c, w_bin, w_un, w_tst, w_and, w_or, w_not, w_andV, w_orV, w_notV, w_if, w_nil, w_cons, w_tup, w_lst, w_as, w_bc, w_lc, w_call, w_no, w_some, w_slice, w_app, w_ext, w_pop, w_seqD, w_rng1, w_comp, wpR_ok, optK_some, boolK_b, intK_i, oneK_d, oneL_d, twoK_2, sixK_r, rngK_i, rtK_d, peek_d, peek_r, peeks_n, peeks_c, own_r, lst_z, lst_s, Option.map_some, Option.bind_some, Option.join_some, List.getElem?_cons_zero, List.getElem?_cons_succ, List.set_cons_zero, List.set_cons_succ, List.map_cons, List.map_nil, List.cons_append, List.nil_append, List.replicate_succ, List.replicate_zero, Nat.sub_self, datsV_n, datsV_d, wipe_n, wipe_c, setG_n, setG_t, setGs_n, setGs_c, ix_l, ix_t, atI_0, atI_1, atI_2, atI_3, add_i, sub_i, iadd_i, lt_i, le_i, gt_i, ge_i, eq_i, eq_s, len_l, len_t, int_i, abs_i, max_i, tuple_l, tuple_t, sizeLine_val, w_enum, w_isi, w_fmt, w_jnil, w_jcons, w_join, vK_1, strK_s, ne_i, ne_s, s_raise, s_try, wpR_exc, errIx0, errIx1, errIx2, errIx3, errWord0, errWord1, errWord2, errWord3, w_zip, zipK_2, row_l, row_t, w_back, backK_t, neg_i, w_ssetT, tupK_t, w_callI, callK_0, w_mulLD, mulK_l, w_disp, w_din, w_dget, one1_v, w_dlen, w_glue, w_upperD, w_dvals, s_dput, keyV_i, keyV_s, datV_d, strV_s, refOf_r, dctV_r, dct_z, dct_s, xor_tr, xor_fl, seqOf_l, seqOf_t, List.length_nil, List.length_cons, Nat.reduceAdd, Nat.reduceLeDiff, true_and, and_true, if_true, if_false, Bool.not_true, Bool.not_false, Bool.false_eq_true]
  have q := conceptG_spec (m := 5) (w := 3) (by omega) (by omega) (by omega) wW wV (by simp; omega) (by simp; omega) (by simp) 4 k n hs (S.less (by omega) (by show n + (coG 5 4 : Int) ≤ _; simp [coG])) (by omega) (by omega)
  simp only [List.map_cons] at q fin
  refine wpR_imp q fun v h => ?_
  rintro ⟨c, n1, rfl, ok, l1, l2, rfl⟩
  have l2' : n1 ≤ n + 765 := by have : (coG 5 4 : Int) = 765 := rfl; omega
  have cs := ok.size
  have cd := ok.deep
  have sz : c.size ≤ 1000 := Nat.le_trans ok.size (by decide)
  rw [measure_spec k c _ (by omega) (by omega)]
  simp only [s_nil, s_brk, s_cont, s_seq, s_expr, s_ret, s_retN, s_set, s_setL, s_newL, s_unp, s_par, s_aug, s_six, s_if, s_for, w_var, w_mv2, mvK_d, mvK_r, w_c, w_bin, w_un, w_tst, w_and, w_or, w_not, w_andV, w_orV, w_notV, w_if, w_nil, w_cons, w_tup, w_lst, w_as, w_bc, w_lc, w_call, w_no, w_some, w_slice, w_app, w_ext, w_pop, w_seqD, w_rng1, w_comp, wpR_ok, optK_some, boolK_b, intK_i, oneK_d, oneL_d, twoK_2, sixK_r, rngK_i, rtK_d, peek_d, peek_r, peeks_n, peeks_c, own_r, lst_z, lst_s, Option.map_some, Option.bind_some, Option.join_some, List.getElem?_cons_zero, List.getElem?_cons_succ, List.set_cons_zero, List.set_cons_succ, List.map_cons, List.map_nil, List.cons_append, List.nil_append, List.replicate_succ, List.replicate_zero, Nat.sub_self, datsV_n, datsV_d, wipe_n, wipe_c, setG_n, setG_t, setGs_n, setGs_c, ix_l, ix_t, atI_0, atI_1, atI_2, atI_3, add_i, sub_i, iadd_i, lt_i, le_i, gt_i, ge_i, eq_i, eq_s, len_l, len_t, int_i, abs_i, max_i, tuple_l, tuple_t, sizeLine_val, w_enum, w_isi, w_fmt, w_jnil, w_jcons, w_join, vK_1, strK_s, ne_i, ne_s, s_raise, s_try, wpR_exc, errIx0, errIx1, errIx2, errIx3, errWord0, errWord1, errWord2, errWord3, w_zip, zipK_2, row_l, row_t, w_back, backK_t, neg_i, w_ssetT, tupK_t, w_callI, callK_0, w_mulLD, mulK_l, w_disp, w_din, w_dget, one1_v, w_dlen, w_glue, w_upperD, w_dvals, s_dput, keyV_i, keyV_s, datV_d, strV_s, refOf_r, dctV_r, dct_z, dct_s, xor_tr, xor_fl, seqOf_l, seqOf_t, List.length_nil, List.length_cons, Nat.reduceAdd, Nat.reduceLeDiff, true_and, and_true, if_true, if_false, Bool.not_true, Bool.not_false, Bool.false_eq_true]
  by_cases z : c.size ≤ 200
  · rw [if_pos (decide_eq_true (by omega)), ok_same (by omega) (ok.ask (by decide) (by omega)) z (by omega) ok.wf, wpR_ok, (told_sh z (by omega)).same (by omega) (by omega) (by omega), wpR_ok, boolK_b, if_neg (by simp)]
    have q2 := spoilt_spec (k := k) (hs := hs) (S.less (n' := n1) (m' := 200) (by omega) (by omega)) (by omega) wW wV lW lV
    simp only [List.map_cons] at q2
    refine wpR_imp q2 fun v h => ?_
    rintro ⟨d, n2, rfl, sp, l3, l4, rfl⟩
    have sd := sp.deep
    rw [no_same (by omega) sp, wpR_ok, show mulL (.list [.str "refused"]) (.int 3) = some (.list [.str "refused", .str "refused", .str "refused"]) from rfl, optK_some]
    rw [refused_sh.same (by omega) (by omega) (by omega), wpR_ok, boolK_b, if_neg (by simp)]
    refine wpR_imp (names_spec (S.less (n' := n2) (m' := 30) (by omega) (by omega)) (by omega)) fun v h => ?_
    rintro ⟨rfl, n3, l5, l6, rfl⟩
    rw [boolK_b, if_neg (by simp)]
    exact fin _ _ _ n3 (by omega) (by omega)
  · rw [if_neg (by simp; omega)]
    have q2 := spoilt_spec (k := k) (hs := hs) (S.less (n' := n1) (m' := 200) (by omega) (by omega)) (by omega) wW wV lW lV
    simp only [List.map_cons] at q2
    refine wpR_imp q2 fun v h => ?_
    rintro ⟨d, n2, rfl, sp, l3, l4, rfl⟩
    have sd := sp.deep
    rw [no_same (by omega) sp, wpR_ok, show mulL (.list [.str "refused"]) (.int 3) = some (.list [.str "refused", .str "refused", .str "refused"]) from rfl, optK_some]
    rw [refused_sh.same (by omega) (by omega) (by omega), wpR_ok, boolK_b, if_neg (by simp)]
    refine wpR_imp (names_spec (S.less (n' := n2) (m' := 30) (by omega) (by omega)) (by omega)) fun v h => ?_
    rintro ⟨rfl, n3, l5, l6, rfl⟩
    rw [boolK_b, if_neg (by simp)]
    exact fin _ _ _ n3 (by omega) (by omega)
end Pg
end

section
namespace Pg
open PySem PySem.Spec PyProof.Rows L2 Dn
def fixW : Wds ["a", "b"] := ⟨pairwise_of_risB (by decide +kernel), by decide +kernel, by
  have : ∀ n ∈ (["a", "b"] : List Str), n.length ≤ 12 ∧ ∀ c ∈ n.cps.toList, c < 200 := by decide +kernel
  exact fun n hn => ⟨Nat.le_trans (this n hn).1 (by decide), fun c hc => Nat.lt_trans ((this n hn).2 c hc) (by decide)⟩⟩
def fixV : Wds ["r", "s"] := ⟨pairwise_of_risB (by decide +kernel), by decide +kernel, by
  have : ∀ n ∈ (["r", "s"] : List Str), n.length ≤ 12 ∧ ∀ c ∈ n.cps.toList, c < 200 := by decide +kernel
  exact fun n hn => ⟨Nat.le_trans (this n hn).1 (by decide), fun c hc => Nat.lt_trans ((this n hn).2 c hc) (by decide)⟩⟩
theorem two_ex {W : List Str} (h : ¬ W.length < 2) : ∃ a b W', W = a :: b :: W' := by
  match W, h with
  | [], h => simp at h
  | [_], h => simp at h
  | a :: b :: W', _ => exact ⟨a, b, W', rfl⟩
theorem turn_spec {s : List Int} {k : Nat} {n : Int} {hs : Hl} {N : En → Hl → Prop} {C : Ctl} (hk : 50 ≤ k) (S : Sk s n 1300) (e0 e2 e3 e4 e5 e6 e7 e8 e9 : Option Val)
    (fin : ∀ (a b r r2 : Str) (W V : List Str) e4 e5 e6 n', Wds (a :: b :: W) → Wds (r :: r2 :: V) → n ≤ n' → n' ≤ n + 1300 → N [e0, some (.ref 0), e2, some (.dat (.tuple [.tuple ((a :: b :: W).map .str), .tuple ((r :: r2 :: V).map .str)])), e4, e5, e6, e7, e8, e9] (st s n' :: hs)) :
    Dn.wpS (law_turn (callD prog k) [e0, some (.ref 0), e2, e3, e4, e5, e6, e7, e8, e9] (st s n :: hs)) N C := by
  unfold law_turn
  generalize eT : law_rest (callD prog k) = T
  simp only [s_nil, s_brk, s_cont, s_seq, s_expr, s_ret, s_retN, s_set, s_setL, s_newL, s_unp, s_par, s_aug, s_six, s_if, s_for, w_var, w_mv2, mvK_d, mvK_r, w_c, w_bin, w_un, w_tst, w_and, w_or, w_not, w_andV, w_orV, w_notV, w_if, w_nil, w_cons, w_tup, w_lst, w_as, w_bc, w_lc, w_call, w_no, w_some, w_slice, w_app, w_ext, w_pop, w_seqD, w_rng1, w_comp, wpR_ok, optK_some, boolK_b, intK_i, oneK_d, oneL_d, twoK_2, sixK_r, rngK_i, rtK_d, peek_d, peek_r, peeks_n, peeks_c, own_r, lst_z, lst_s, Option.map_some, Option.bind_some, Option.join_some, List.getElem?_cons_zero, List.getElem?_cons_succ, List.set_cons_zero, List.set_cons_succ, List.map_cons, List.map_nil, List.cons_append, List.nil_append, List.replicate_succ, List.replicate_zero, Nat.sub_self, datsV_n, datsV_d, wipe_n, wipe_c, setG_n, setG_t, setGs_n, setGs_c, ix_l, ix_t, atI_0, atI_1, atI_2, atI_3, add_i, sub_i, iadd_i, lt_i, le_i, gt_i, ge_i, eq_i, eq_s, len_l, len_t, int_i, abs_i, max_i, tuple_l, tuple_t, sizeLine_val, w_enum, w_isi, w_fmt, w_jnil, w_jcons, w_join, vK_1, strK_s, ne_i, ne_s, s_raise, s_try, wpR_exc, errIx0, errIx1, errIx2, errIx3, errWord0, errWord1, errWord2, errWord3, w_zip, zipK_2, row_l, row_t, w_back, backK_t, neg_i, w_ssetT, tupK_t, w_callI, callK_0, w_mulLD, mulK_l, w_disp, w_din, w_dget, one1_v, w_dlen, w_glue, w_upperD, w_dvals, s_dput, keyV_i, keyV_s, datV_d, strV_s, refOf_r, dctV_r, dct_z, dct_s, xor_tr, xor_fl, seqOf_l, seqOf_t, List.length_nil, List.length_cons, Nat.reduceAdd, Nat.reduceLeDiff, true_and, and_true, if_true, if_false, Bool.not_true, Bool.not_false, Bool.false_eq_true]
  refine wpR_imp (texts_spec (S.less (n' := n) (m' := 150) (by omega) (by omega)) (by omega) (by decide) (by decide)) fun v h => ?_
  rintro ⟨W0, n1, rfl, wW, nW, lW, l1, l2, rfl⟩
  refine wpR_imp (texts_spec (S.less (n' := n1) (m' := 150) (by omega) (by omega)) (by omega) (by decide) (by decide)) fun v h => ?_
  rintro ⟨V0, n2, rfl, wV, nV, lV, l3, l4, rfl⟩
  have core : ∀ (a b r r2 : Str) (W V : List Str), Wds (a :: b :: W) → Wds (r :: r2 :: V) → W.length ≤ 3 → V.length ≤ 3 → wpS (T [e0, some (.ref 0), e2, some (.dat (.tuple [.tuple ((a :: b :: W).map .str), .tuple ((r :: r2 :: V).map .str)])), e4, e5, e6, e7, e8, e9] (st s n2 :: hs)) N C := by
    intro a b r r2 W V w1 w2 w3 w4
    subst eT
    exact rest_spec hk (S.less (n' := n2) (m' := 1000) (by omega) (by omega)) w1 w2 w3 w4 _ _ _ _ _ _ _ _ fun e4 e5 e6 n' m1 m2 => fin a b r r2 W V e4 e5 e6 n' w1 w2 (by omega) (by omega)
  have alt := core "a" "b" "r" "s" [] [] fixW fixV (by simp) (by simp)
  simp only [s_nil, s_brk, s_cont, s_seq, s_expr, s_ret, s_retN, s_set, s_setL, s_newL, s_unp, s_par, s_aug, s_six, s_if, s_for, w_var, w_mv2, mvK_d, mvK_r, w_c, w_bin, w_un, w_tst, w_and, w_or, w_not, w_andV, w_orV, w_notV, w_if, w_nil, w_cons, w_tup, w_lst, w_as, w_bc, w_lc, w_call, w_no, w_some, w_slice, w_app, w_ext, w_pop, w_seqD, w_rng1, w_comp, wpR_ok, optK_some, boolK_b, intK_i, oneK_d, oneL_d, twoK_2, sixK_r, rngK_i, rtK_d, peek_d, peek_r, peeks_n, peeks_c, own_r, lst_z, lst_s, Option.map_some, Option.bind_some, Option.join_some, List.getElem?_cons_zero, List.getElem?_cons_succ, List.set_cons_zero, List.set_cons_succ, List.map_cons, List.map_nil, List.cons_append, List.nil_append, List.replicate_succ, List.replicate_zero, Nat.sub_self, datsV_n, datsV_d, wipe_n, wipe_c, setG_n, setG_t, setGs_n, setGs_c, ix_l, ix_t, atI_0, atI_1, atI_2, atI_3, add_i, sub_i, iadd_i, lt_i, le_i, gt_i, ge_i, eq_i, eq_s, len_l, len_t, int_i, abs_i, max_i, tuple_l, tuple_t, sizeLine_val, w_enum, w_isi, w_fmt, w_jnil, w_jcons, w_join, vK_1, strK_s, ne_i, ne_s, s_raise, s_try, wpR_exc, errIx0, errIx1, errIx2, errIx3, errWord0, errWord1, errWord2, errWord3, w_zip, zipK_2, row_l, row_t, w_back, backK_t, neg_i, w_ssetT, tupK_t, w_callI, callK_0, w_mulLD, mulK_l, w_disp, w_din, w_dget, one1_v, w_dlen, w_glue, w_upperD, w_dvals, s_dput, keyV_i, keyV_s, datV_d, strV_s, refOf_r, dctV_r, dct_z, dct_s, xor_tr, xor_fl, seqOf_l, seqOf_t, List.length_nil, List.length_cons, Nat.reduceAdd, Nat.reduceLeDiff, true_and, and_true, if_true, if_false, Bool.not_true, Bool.not_false, Bool.false_eq_true, List.length_map]
  by_cases q1 : W0.length < 2
  · rw [if_pos (decide_eq_true (by omega))]; exact alt
  · rw [if_neg (by simp; omega)]
    by_cases q2 : V0.length < 2
    · rw [if_pos (decide_eq_true (by omega))]; exact alt
    · rw [if_neg (by simp; omega)]
      obtain ⟨a, b, W, rfl⟩ := two_ex q1
      obtain ⟨r, r2, V, rfl⟩ := two_ex q2
      have h5 : (5 : Int).toNat = 5 := rfl
      have h3 : (3 : Int).toNat = 3 := rfl
      rw [h5, List.length_cons, List.length_cons] at lW
      rw [h3, List.length_cons, List.length_cons] at lV
      exact core a b r r2 W V wW wV (by omega) (by omega)
theorem tail_spec {s : List Int} {k : Nat} {n : Int} {N : En → Hl → Prop} {C : Ctl} {a b r r2 : Str} {W V : List Str} (hk : 60 ≤ k) (S : Sk s n 30) (wW : Wds (a :: b :: W)) (wV : Wds (r :: r2 :: V)) (e0 e2 e4 e5 e6 : Option Val) (fin : ∀ h, C.rt (.dat (.bool true)) h) :
    Dn.wpS (law_tail (callD prog k) [e0, some (.ref 0), e2, some (.dat (.tuple [.tuple ((a :: b :: W).map .str), .tuple ((r :: r2 :: V).map .str)])), e4, e5, e6, none, none, none] [st s n]) N C := by
  unfold law_tail
  simp only [s_nil, s_brk, s_cont, s_seq, s_expr, s_ret, s_retN, s_set, s_setL, s_newL, s_unp, s_par, s_aug, s_six, s_if, s_for, w_var, w_mv2, mvK_d, mvK_r, w_c, w_bin, w_un, w_tst, w_and, w_or, w_not, w_andV, w_orV, w_notV, w_if, w_nil, w_cons, w_tup, w_lst, w_as, w_bc, w_lc, w_call, w_no, w_some, w_slice, w_app, w_ext, w_pop, w_seqD, w_rng1, w_comp, wpR_ok, optK_some, boolK_b, intK_i, oneK_d, oneL_d, twoK_2, sixK_r, rngK_i, rtK_d, peek_d, peek_r, peeks_n, peeks_c, own_r, lst_z, lst_s, Option.map_some, Option.bind_some, Option.join_some, List.getElem?_cons_zero, List.getElem?_cons_succ, List.set_cons_zero, List.set_cons_succ, List.map_cons, List.map_nil, List.cons_append, List.nil_append, List.replicate_succ, List.replicate_zero, Nat.sub_self, datsV_n, datsV_d, wipe_n, wipe_c, setG_n, setG_t, setGs_n, setGs_c, ix_l, ix_t, atI_0, atI_1, atI_2, atI_3, add_i, sub_i, iadd_i, lt_i, le_i, gt_i, ge_i, eq_i, eq_s, len_l, len_t, int_i, abs_i, max_i, tuple_l, tuple_t, sizeLine_val, w_enum, w_isi, w_fmt, w_jnil, w_jcons, w_join, vK_1, strK_s, ne_i, ne_s, s_raise, s_try, wpR_exc, errIx0, errIx1, errIx2, errIx3, errWord0, errWord1, errWord2, errWord3, w_zip, zipK_2, row_l, row_t, w_back, backK_t, neg_i, w_ssetT, tupK_t, w_callI, callK_0, w_mulLD, mulK_l, w_disp, w_din, w_dget, one1_v, w_dlen, w_glue, w_upperD, w_dvals, s_dput, keyV_i, keyV_s, datV_d, strV_s, refOf_r, dctV_r, dct_z, dct_s, xor_tr, xor_fl, seqOf_l, seqOf_t, List.length_nil, List.length_cons, Nat.reduceAdd, Nat.reduceLeDiff, true_and, and_true, if_true, if_false, Bool.not_true, Bool.not_false, Bool.false_eq_true]
  have q := large_spec (k := k) (hs := []) (ws := (a :: b :: W).map .str) (V := r2 :: V) (S.less (n' := n) (m' := 20) (by omega) (by omega)) (by omega) wV
  simp only [List.map_cons] at q
  refine wpR_imp q fun v h => ?_
  rintro ⟨c0, c1, c2, n1, rfl, T, l1, l2, rfl⟩
  simp only [s_nil, s_brk, s_cont, s_seq, s_expr, s_ret, s_retN, s_set, s_setL, s_newL, s_unp, s_par, s_aug, s_six, s_if, s_for, w_var, w_mv2, mvK_d, mvK_r, w_c, w_bin, w_un, w_tst, w_and, w_or, w_not, w_andV, w_orV, w_notV, w_if, w_nil, w_cons, w_tup, w_lst, w_as, w_bc, w_lc, w_call, w_no, w_some, w_slice, w_app, w_ext, w_pop, w_seqD, w_rng1, w_comp, wpR_ok, optK_some, boolK_b, intK_i, oneK_d, oneL_d, twoK_2, sixK_r, rngK_i, rtK_d, peek_d, peek_r, peeks_n, peeks_c, own_r, lst_z, lst_s, Option.map_some, Option.bind_some, Option.join_some, List.getElem?_cons_zero, List.getElem?_cons_succ, List.set_cons_zero, List.set_cons_succ, List.map_cons, List.map_nil, List.cons_append, List.nil_append, List.replicate_succ, List.replicate_zero, Nat.sub_self, datsV_n, datsV_d, wipe_n, wipe_c, setG_n, setG_t, setGs_n, setGs_c, ix_l, ix_t, atI_0, atI_1, atI_2, atI_3, add_i, sub_i, iadd_i, lt_i, le_i, gt_i, ge_i, eq_i, eq_s, len_l, len_t, int_i, abs_i, max_i, tuple_l, tuple_t, sizeLine_val, w_enum, w_isi, w_fmt, w_jnil, w_jcons, w_join, vK_1, strK_s, ne_i, ne_s, s_raise, s_try, wpR_exc, errIx0, errIx1, errIx2, errIx3, errWord0, errWord1, errWord2, errWord3, w_zip, zipK_2, row_l, row_t, w_back, backK_t, neg_i, w_ssetT, tupK_t, w_callI, callK_0, w_mulLD, mulK_l, w_disp, w_din, w_dget, one1_v, w_dlen, w_glue, w_upperD, w_dvals, s_dput, keyV_i, keyV_s, datV_d, strV_s, refOf_r, dctV_r, dct_z, dct_s, xor_tr, xor_fl, seqOf_l, seqOf_t, List.length_nil, List.length_cons, Nat.reduceAdd, Nat.reduceLeDiff, true_and, and_true, if_true, if_false, Bool.not_true, Bool.not_false, Bool.false_eq_true]
  rw [show itemsOf (Val.dat (.list [c0.data, c1.data, c2.data])) [st s n1] = some ⟨[c0, c1, c2].map Con.data, none⟩ from rfl, optK_some]
  have o0 := T.ok
  have od := o0.deep
  have A1 := T.a1.deep
  have A2 := T.a2.deep
  rw [comp_mapE Con.data ends3 [c0, c1, c2] [] (by rfl) (by rw [sizeLine_val]; simp) (fun c hc => ?_)]
  · have E0 : ends3 c0 = .list [.tuple [.str "told", .none], .tuple [.str "told", .int 200], .tuple [.str "told", .int c0.deep]] := by
      rw [ends_ok (big_no (by rw [T.z0]; omega) (by omega)) o0.wf, T.z0]; rfl
    have E1 : ends3 c1 = .list [.str "large", .str "large", .str "large"] := ends_large (decide_eq_true (.inl (by rw [T.z1]; omega)))
    have E2 : ends3 c2 = .list [.str "large", .str "large", .str "large"] := ends_large (decide_eq_true (.inl (by rw [T.z2]; omega)))
    have e1 : ∀ K : PyData → Prop, (optK (ixD c0.data (.int 1)) fun z => optK (lenD [z]) fun d => optK (eqD d (.int 0)) fun z => optK (Dn.intD [z]) fun z => optK (subD (.int 1) z) K) = K (.int c0.deep) := by
      intro K
      rw [con_data c0, T.d0]
      simp only [s_nil, s_brk, s_cont, s_seq, s_expr, s_ret, s_retN, s_set, s_setL, s_newL, s_unp, s_par, s_aug, s_six, s_if, s_for, w_var, w_mv2, mvK_d, mvK_r, w_c, w_bin, w_un, w_tst, w_and, w_or, w_not, w_andV, w_orV, w_notV, w_if, w_nil, w_cons, w_tup, w_lst, w_as, w_bc, w_lc, w_call, w_no, w_some, w_slice, w_app, w_ext, w_pop, w_seqD, w_rng1, w_comp, wpR_ok, optK_some, boolK_b, intK_i, oneK_d, oneL_d, twoK_2, sixK_r, rngK_i, rtK_d, peek_d, peek_r, peeks_n, peeks_c, own_r, lst_z, lst_s, Option.map_some, Option.bind_some, Option.join_some, List.getElem?_cons_zero, List.getElem?_cons_succ, List.set_cons_zero, List.set_cons_succ, List.map_cons, List.map_nil, List.cons_append, List.nil_append, List.replicate_succ, List.replicate_zero, Nat.sub_self, datsV_n, datsV_d, wipe_n, wipe_c, setG_n, setG_t, setGs_n, setGs_c, ix_l, ix_t, atI_0, atI_1, atI_2, atI_3, add_i, sub_i, iadd_i, lt_i, le_i, gt_i, ge_i, eq_i, eq_s, len_l, len_t, int_i, abs_i, max_i, tuple_l, tuple_t, sizeLine_val, w_enum, w_isi, w_fmt, w_jnil, w_jcons, w_join, vK_1, strK_s, ne_i, ne_s, s_raise, s_try, wpR_exc, errIx0, errIx1, errIx2, errIx3, errWord0, errWord1, errWord2, errWord3, w_zip, zipK_2, row_l, row_t, w_back, backK_t, neg_i, w_ssetT, tupK_t, w_callI, callK_0, w_mulLD, mulK_l, w_disp, w_din, w_dget, one1_v, w_dlen, w_glue, w_upperD, w_dvals, s_dput, keyV_i, keyV_s, datV_d, strV_s, refOf_r, dctV_r, dct_z, dct_s, xor_tr, xor_fl, seqOf_l, seqOf_t, List.length_nil, List.length_cons, Nat.reduceAdd, Nat.reduceLeDiff, true_and, and_true, if_true, if_false, Bool.not_true, Bool.not_false, Bool.false_eq_true]
      cases hd : c0.links.data with
      | nil => rfl
      | cons x xs => rw [if_neg (by simp)]; rfl
    have ml : mulL (.list [.str "large"]) (.int 3) = some (.list [.str "large", .str "large", .str "large"]) := rfl
    simp only [s_nil, s_brk, s_cont, s_seq, s_expr, s_ret, s_retN, s_set, s_setL, s_newL, s_unp, s_par, s_aug, s_six, s_if, s_for, w_var, w_mv2, mvK_d, mvK_r, w_c, w_bin, w_un, w_tst, w_and, w_or, w_not, w_andV, w_orV, w_notV, w_if, w_nil, w_cons, w_tup, w_lst, w_as, w_bc, w_lc, w_call, w_no, w_some, w_slice, w_app, w_ext, w_pop, w_seqD, w_rng1, w_comp, wpR_ok, optK_some, boolK_b, intK_i, oneK_d, oneL_d, twoK_2, sixK_r, rngK_i, rtK_d, peek_d, peek_r, peeks_n, peeks_c, own_r, lst_z, lst_s, Option.map_some, Option.bind_some, Option.join_some, List.getElem?_cons_zero, List.getElem?_cons_succ, List.set_cons_zero, List.set_cons_succ, List.map_cons, List.map_nil, List.cons_append, List.nil_append, List.replicate_succ, List.replicate_zero, Nat.sub_self, datsV_n, datsV_d, wipe_n, wipe_c, setG_n, setG_t, setGs_n, setGs_c, ix_l, ix_t, atI_0, atI_1, atI_2, atI_3, add_i, sub_i, iadd_i, lt_i, le_i, gt_i, ge_i, eq_i, eq_s, len_l, len_t, int_i, abs_i, max_i, tuple_l, tuple_t, sizeLine_val, w_enum, w_isi, w_fmt, w_jnil, w_jcons, w_join, vK_1, strK_s, ne_i, ne_s, s_raise, s_try, wpR_exc, errIx0, errIx1, errIx2, errIx3, errWord0, errWord1, errWord2, errWord3, w_zip, zipK_2, row_l, row_t, w_back, backK_t, neg_i, w_ssetT, tupK_t, w_callI, callK_0, w_mulLD, mulK_l, w_disp, w_din, w_dget, one1_v, w_dlen, w_glue, w_upperD, w_dvals, s_dput, keyV_i, keyV_s, datV_d, strV_s, refOf_r, dctV_r, dct_z, dct_s, xor_tr, xor_fl, seqOf_l, seqOf_t, List.length_nil, List.length_cons, Nat.reduceAdd, Nat.reduceLeDiff, true_and, and_true, if_true, if_false, Bool.not_true, Bool.not_false, Bool.false_eq_true, e1, ml, E0, E1, E2]
    have sh0 := told_sh (c := c0) (by rw [T.z0]; omega) (by omega)
    rw [T.z0] at sh0
    have big : Sh (.list [.list [.tuple [.str "told", .none], .tuple [.str "told", .int 200], .tuple [.str "told", .int c0.deep]], .list [.str "large", .str "large", .str "large"], .list [.str "large", .str "large", .str "large"]]) 130000 3 :=
      Sh.lst (w := 125000) (ShA.cons (w := 40000) (w' := 82000) sh0 (ShA.cons (w := 40000) (w' := 41000) large_sh (ShA.cons (w := 40000) (w' := 0) large_sh ShA.nil (by omega)) (by omega)) (by omega)) (by omega)
    rw [big.same (by omega) (by omega) (by omega)]
    simp only [s_nil, s_brk, s_cont, s_seq, s_expr, s_ret, s_retN, s_set, s_setL, s_newL, s_unp, s_par, s_aug, s_six, s_if, s_for, w_var, w_mv2, mvK_d, mvK_r, w_c, w_bin, w_un, w_tst, w_and, w_or, w_not, w_andV, w_orV, w_notV, w_if, w_nil, w_cons, w_tup, w_lst, w_as, w_bc, w_lc, w_call, w_no, w_some, w_slice, w_app, w_ext, w_pop, w_seqD, w_rng1, w_comp, wpR_ok, optK_some, boolK_b, intK_i, oneK_d, oneL_d, twoK_2, sixK_r, rngK_i, rtK_d, peek_d, peek_r, peeks_n, peeks_c, own_r, lst_z, lst_s, Option.map_some, Option.bind_some, Option.join_some, List.getElem?_cons_zero, List.getElem?_cons_succ, List.set_cons_zero, List.set_cons_succ, List.map_cons, List.map_nil, List.cons_append, List.nil_append, List.replicate_succ, List.replicate_zero, Nat.sub_self, datsV_n, datsV_d, wipe_n, wipe_c, setG_n, setG_t, setGs_n, setGs_c, ix_l, ix_t, atI_0, atI_1, atI_2, atI_3, add_i, sub_i, iadd_i, lt_i, le_i, gt_i, ge_i, eq_i, eq_s, len_l, len_t, int_i, abs_i, max_i, tuple_l, tuple_t, sizeLine_val, w_enum, w_isi, w_fmt, w_jnil, w_jcons, w_join, vK_1, strK_s, ne_i, ne_s, s_raise, s_try, wpR_exc, errIx0, errIx1, errIx2, errIx3, errWord0, errWord1, errWord2, errWord3, w_zip, zipK_2, row_l, row_t, w_back, backK_t, neg_i, w_ssetT, tupK_t, w_callI, callK_0, w_mulLD, mulK_l, w_disp, w_din, w_dget, one1_v, w_dlen, w_glue, w_upperD, w_dvals, s_dput, keyV_i, keyV_s, datV_d, strV_s, refOf_r, dctV_r, dct_z, dct_s, xor_tr, xor_fl, seqOf_l, seqOf_t, List.length_nil, List.length_cons, Nat.reduceAdd, Nat.reduceLeDiff, true_and, and_true, if_true, if_false, Bool.not_true, Bool.not_false, Bool.false_eq_true]
    have fa := wW.fine a (by simp)
    have na := wW.name a (by simp)
    have fr := wV.fine r (by simp)
    have nr := wV.name r (by simp)
    have fb : strFine "Bad" := ⟨by decide +kernel, by decide +kernel⟩
    have g1 : ∀ h, callD prog k i__law_chain [.dat (.tuple [.tuple [.str "Bad"], .tuple (.str r :: .str r2 :: V.map .str)]), .dat (.int 13)] h = .ok (.dat (chainC "Bad" r 13).data) h := fun h => chain_spec (m := 13) (by omega) (by omega)
    have g2 : ∀ h, callD prog k i__law_chain [.dat (.tuple [.tuple (.str a :: .str b :: W.map .str), .tuple (.str r :: .str r2 :: V.map .str)]), .dat (.int 12)] h = .ok (.dat (chainC a r 12).data) h := fun h => chain_spec (m := 12) (by omega) (by omega)
    have g3 : ∀ h, callD prog k i__law_chain [.dat (.tuple [.tuple (.str a :: .str b :: W.map .str), .tuple (.str r :: .str r2 :: V.map .str)]), .dat (.int 13)] h = .ok (.dat (chainC a r 13).data) h := fun h => chain_spec (m := 13) (by omega) (by omega)
    have h12 : ∀ h, callD prog k i__law_all [.dat (chainC a r 12).data] h = .ok (.dat (.list [.tuple [.str "told", .none], .tuple [.str "told", .int 13], .tuple [.str "told", .int 12]])) h := fun h => by
      rw [ok_same (by rw [chain_deep]; omega) (chain_ask fa fr 12 (by omega)) (by rw [chain_size]; omega) (by rw [chain_deep]; omega) (chain_wf na nr 12), chain_size, chain_deep]
      rfl
    have h13 : ∀ h, callD prog k i__law_all [.dat (chainC a r 13).data] h = .ok (.dat (.list [.str "large", .str "large", .str "large"])) h := fun h => large_same (by rw [chain_deep]; omega) (chain_ask fa fr 13 (by omega)) (.inr (by rw [chain_deep]; omega))
    have hB : ∀ h, callD prog k i__law_all [.dat (chainC "Bad" r 13).data] h = .ok (.dat (.list [.str "large", .str "large", .str "large"])) h := fun h => large_same (by rw [chain_deep]; omega) (chain_ask fb fr 13 (by omega)) (.inr (by rw [chain_deep]; omega))
    have last : Sh (.list [.tuple [.str "told", .int 12], .list [.str "large", .str "large", .str "large"], .list [.str "large", .str "large", .str "large"]]) 130000 3 :=
      Sh.lst (w := 125000) (ShA.cons (w := 11000) (w' := 82000) ((pair_sh (w := 10) (Sh.int (by omega) (by omega)) (by omega)).up (by omega) (by omega)) (ShA.cons (w := 40000) (w' := 41000) large_sh (ShA.cons (w := 40000) (w' := 0) large_sh ShA.nil (by omega)) (by omega)) (by omega)) (by omega)
    simp only [s_nil, s_brk, s_cont, s_seq, s_expr, s_ret, s_retN, s_set, s_setL, s_newL, s_unp, s_par, s_aug, s_six, s_if, s_for, w_var, w_mv2, mvK_d, mvK_r, w_c, w_bin, w_un, w_tst, w_and, w_or, w_not, w_andV, w_orV, w_notV, w_if, w_nil, w_cons, w_tup, w_lst, w_as, w_bc, w_lc, w_call, w_no, w_some, w_slice, w_app, w_ext, w_pop, w_seqD, w_rng1, w_comp, wpR_ok, optK_some, boolK_b, intK_i, oneK_d, oneL_d, twoK_2, sixK_r, rngK_i, rtK_d, peek_d, peek_r, peeks_n, peeks_c, own_r, lst_z, lst_s, Option.map_some, Option.bind_some, Option.join_some, List.getElem?_cons_zero, List.getElem?_cons_succ, List.set_cons_zero, List.set_cons_succ, List.map_cons, List.map_nil, List.cons_append, List.nil_append, List.replicate_succ, List.replicate_zero, Nat.sub_self, datsV_n, datsV_d, wipe_n, wipe_c, setG_n, setG_t, setGs_n, setGs_c, ix_l, ix_t, atI_0, atI_1, atI_2, atI_3, add_i, sub_i, iadd_i, lt_i, le_i, gt_i, ge_i, eq_i, eq_s, len_l, len_t, int_i, abs_i, max_i, tuple_l, tuple_t, sizeLine_val, w_enum, w_isi, w_fmt, w_jnil, w_jcons, w_join, vK_1, strK_s, ne_i, ne_s, s_raise, s_try, wpR_exc, errIx0, errIx1, errIx2, errIx3, errWord0, errWord1, errWord2, errWord3, w_zip, zipK_2, row_l, row_t, w_back, backK_t, neg_i, w_ssetT, tupK_t, w_callI, callK_0, w_mulLD, mulK_l, w_disp, w_din, w_dget, one1_v, w_dlen, w_glue, w_upperD, w_dvals, s_dput, keyV_i, keyV_s, datV_d, strV_s, refOf_r, dctV_r, dct_z, dct_s, xor_tr, xor_fl, seqOf_l, seqOf_t, List.length_nil, List.length_cons, Nat.reduceAdd, Nat.reduceLeDiff, true_and, and_true, if_true, if_false, Bool.not_true, Bool.not_false, Bool.false_eq_true, g1, g2, g3, h12, h13, hB, ml]
    rw [last.same (by omega) (by omega) (by omega), wpR_ok]
    exact fin _
  · have hA : Ask c ∧ c.deep ≤ 18 := by
      simp only [List.mem_cons, List.not_mem_nil, or_false] at hc
      rcases hc with rfl | rfl | rfl
      · exact ⟨o0.ask (by omega) (by omega), by omega⟩
      · exact ⟨T.a1, by omega⟩
      · exact ⟨T.a2, by omega⟩
    simp only [s_nil, s_brk, s_cont, s_seq, s_expr, s_ret, s_retN, s_set, s_setL, s_newL, s_unp, s_par, s_aug, s_six, s_if, s_for, w_var, w_mv2, mvK_d, mvK_r, w_c, w_bin, w_un, w_tst, w_and, w_or, w_not, w_andV, w_orV, w_notV, w_if, w_nil, w_cons, w_tup, w_lst, w_as, w_bc, w_lc, w_call, w_no, w_some, w_slice, w_app, w_ext, w_pop, w_seqD, w_rng1, w_comp, wpR_ok, optK_some, boolK_b, intK_i, oneK_d, oneL_d, twoK_2, sixK_r, rngK_i, rtK_d, peek_d, peek_r, peeks_n, peeks_c, own_r, lst_z, lst_s, Option.map_some, Option.bind_some, Option.join_some, List.getElem?_cons_zero, List.getElem?_cons_succ, List.set_cons_zero, List.set_cons_succ, List.map_cons, List.map_nil, List.cons_append, List.nil_append, List.replicate_succ, List.replicate_zero, Nat.sub_self, datsV_n, datsV_d, wipe_n, wipe_c, setG_n, setG_t, setGs_n, setGs_c, ix_l, ix_t, atI_0, atI_1, atI_2, atI_3, add_i, sub_i, iadd_i, lt_i, le_i, gt_i, ge_i, eq_i, eq_s, len_l, len_t, int_i, abs_i, max_i, tuple_l, tuple_t, sizeLine_val, w_enum, w_isi, w_fmt, w_jnil, w_jcons, w_join, vK_1, strK_s, ne_i, ne_s, s_raise, s_try, wpR_exc, errIx0, errIx1, errIx2, errIx3, errWord0, errWord1, errWord2, errWord3, w_zip, zipK_2, row_l, row_t, w_back, backK_t, neg_i, w_ssetT, tupK_t, w_callI, callK_0, w_mulLD, mulK_l, w_disp, w_din, w_dget, one1_v, w_dlen, w_glue, w_upperD, w_dvals, s_dput, keyV_i, keyV_s, datV_d, strV_s, refOf_r, dctV_r, dct_z, dct_s, xor_tr, xor_fl, seqOf_l, seqOf_t, List.length_nil, List.length_cons, Nat.reduceAdd, Nat.reduceLeDiff, true_and, and_true, if_true, if_false, Bool.not_true, Bool.not_false, Bool.false_eq_true]
    rw [all_spec (by omega) hA.1]
    simp only [s_nil, s_brk, s_cont, s_seq, s_expr, s_ret, s_retN, s_set, s_setL, s_newL, s_unp, s_par, s_aug, s_six, s_if, s_for, w_var, w_mv2, mvK_d, mvK_r, w_c, w_bin, w_un, w_tst, w_and, w_or, w_not, w_andV, w_orV, w_notV, w_if, w_nil, w_cons, w_tup, w_lst, w_as, w_bc, w_lc, w_call, w_no, w_some, w_slice, w_app, w_ext, w_pop, w_seqD, w_rng1, w_comp, wpR_ok, optK_some, boolK_b, intK_i, oneK_d, oneL_d, twoK_2, sixK_r, rngK_i, rtK_d, peek_d, peek_r, peeks_n, peeks_c, own_r, lst_z, lst_s, Option.map_some, Option.bind_some, Option.join_some, List.getElem?_cons_zero, List.getElem?_cons_succ, List.set_cons_zero, List.set_cons_succ, List.map_cons, List.map_nil, List.cons_append, List.nil_append, List.replicate_succ, List.replicate_zero, Nat.sub_self, datsV_n, datsV_d, wipe_n, wipe_c, setG_n, setG_t, setGs_n, setGs_c, ix_l, ix_t, atI_0, atI_1, atI_2, atI_3, add_i, sub_i, iadd_i, lt_i, le_i, gt_i, ge_i, eq_i, eq_s, len_l, len_t, int_i, abs_i, max_i, tuple_l, tuple_t, sizeLine_val, w_enum, w_isi, w_fmt, w_jnil, w_jcons, w_join, vK_1, strK_s, ne_i, ne_s, s_raise, s_try, wpR_exc, errIx0, errIx1, errIx2, errIx3, errWord0, errWord1, errWord2, errWord3, w_zip, zipK_2, row_l, row_t, w_back, backK_t, neg_i, w_ssetT, tupK_t, w_callI, callK_0, w_mulLD, mulK_l, w_disp, w_din, w_dget, one1_v, w_dlen, w_glue, w_upperD, w_dvals, s_dput, keyV_i, keyV_s, datV_d, strV_s, refOf_r, dctV_r, dct_z, dct_s, xor_tr, xor_fl, seqOf_l, seqOf_t, List.length_nil, List.length_cons, Nat.reduceAdd, Nat.reduceLeDiff, true_and, and_true, if_true, if_false, Bool.not_true, Bool.not_false, Bool.false_eq_true]
end Pg
end

section
namespace Pg
open PySem PySem.Spec PyProof.Rows L2 Dn
theorem i2000 {p : Nat} : Sh (.int 2000) 10 p := ⟨by rw [PyData.showable]; decide +kernel, by rw [strOk]; trivial, by rw [Dn.wt]; decide +kernel, by simp [PyData.depth]⟩
theorem first_sh : Sh (.list [.tuple [.tuple [], .tuple []], .int 12, .int 2000, .int 200]) 1000 3 :=
  Sh.lst (w := 900) (ShA.cons (w := 100) (w' := 700) (Sh.tup (p := 1) (w := 90) (ShA.cons (w := 10) (w' := 60) (Sh.tup (w := 2) (p := 0) ShA.nil (by omega)) (ShA.cons (w := 10) (w' := 10) (Sh.tup (w := 2) (p := 0) ShA.nil (by omega)) ShA.nil (by omega)) (by omega)) (by omega))
    (ShA.cons (w := 10) (w' := 600) (Sh.int (by omega) (by omega)) (ShA.cons (w := 10) (w' := 500) i2000 (ShA.cons (w := 10) (w' := 10) (Sh.int (by omega) (by omega)) ShA.nil (by omega)) (by omega)) (by omega)) (by omega)) (by omega)
theorem law_wp {k : Nat} (hk : 70 ≤ k) (ns : List Int) (hn : ns.length ≤ 63) : wpR (callD prog (k + 1) i_law [.scr ns] []) (fun v h => v = .dat (.bool true)) noX := by
  rw [call_at (r := r_law) rfl]
  refine fn_rule rfl ?_
  obtain ⟨k, rfl⟩ : ∃ j, k = j + 1 := ⟨k - 1, by omega⟩
  show wpS (D_law (callD prog (k + 1)) [some (.scr ns), none, none, none, none, none, none, none, none, none] []) _ _
  rw [law_shape]
  simp only [s_nil, s_brk, s_cont, s_seq, s_expr, s_ret, s_retN, s_set, s_setL, s_newL, s_unp, s_par, s_aug, s_six, s_if, s_for, w_var, w_mv2, mvK_d, mvK_r, w_c, w_bin, w_un, w_tst, w_and, w_or, w_not, w_andV, w_orV, w_notV, w_if, w_nil, w_cons, w_tup, w_lst, w_as, w_bc, w_lc, w_call, w_no, w_some, w_slice, w_app, w_ext, w_pop, w_seqD, w_rng1, w_comp, wpR_ok, optK_some, boolK_b, intK_i, oneK_d, oneL_d, twoK_2, sixK_r, rngK_i, rtK_d, peek_d, peek_r, peeks_n, peeks_c, own_r, lst_z, lst_s, Option.map_some, Option.bind_some, Option.join_some, List.getElem?_cons_zero, List.getElem?_cons_succ, List.set_cons_zero, List.set_cons_succ, List.map_cons, List.map_nil, List.cons_append, List.nil_append, List.replicate_succ, List.replicate_zero, Nat.sub_self, datsV_n, datsV_d, wipe_n, wipe_c, setG_n, setG_t, setGs_n, setGs_c, ix_l, ix_t, atI_0, atI_1, atI_2, atI_3, add_i, sub_i, iadd_i, lt_i, le_i, gt_i, ge_i, eq_i, eq_s, len_l, len_t, int_i, abs_i, max_i, tuple_l, tuple_t, sizeLine_val, w_enum, w_isi, w_fmt, w_jnil, w_jcons, w_join, vK_1, strK_s, ne_i, ne_s, s_raise, s_try, wpR_exc, errIx0, errIx1, errIx2, errIx3, errWord0, errWord1, errWord2, errWord3, w_zip, zipK_2, row_l, row_t, w_back, backK_t, neg_i, w_ssetT, tupK_t, w_callI, callK_0, w_mulLD, mulK_l, w_disp, w_din, w_dget, one1_v, w_dlen, w_glue, w_upperD, w_dvals, s_dput, keyV_i, keyV_s, datV_d, strV_s, refOf_r, dctV_r, dct_z, dct_s, xor_tr, xor_fl, seqOf_l, seqOf_t, List.length_nil, List.length_cons, Nat.reduceAdd, Nat.reduceLeDiff, true_and, and_true, if_true, if_false, Bool.not_true, Bool.not_false, Bool.false_eq_true]
  refine wpR_imp (stream_spec hn) fun v h => ?_
  rintro ⟨s, rfl, s0, s1, rfl⟩
  simp only [s_nil, s_brk, s_cont, s_seq, s_expr, s_ret, s_retN, s_set, s_setL, s_newL, s_unp, s_par, s_aug, s_six, s_if, s_for, w_var, w_mv2, mvK_d, mvK_r, w_c, w_bin, w_un, w_tst, w_and, w_or, w_not, w_andV, w_orV, w_notV, w_if, w_nil, w_cons, w_tup, w_lst, w_as, w_bc, w_lc, w_call, w_no, w_some, w_slice, w_app, w_ext, w_pop, w_seqD, w_rng1, w_comp, wpR_ok, optK_some, boolK_b, intK_i, oneK_d, oneL_d, twoK_2, sixK_r, rngK_i, rtK_d, peek_d, peek_r, peeks_n, peeks_c, own_r, lst_z, lst_s, Option.map_some, Option.bind_some, Option.join_some, List.getElem?_cons_zero, List.getElem?_cons_succ, List.set_cons_zero, List.set_cons_succ, List.map_cons, List.map_nil, List.cons_append, List.nil_append, List.replicate_succ, List.replicate_zero, Nat.sub_self, datsV_n, datsV_d, wipe_n, wipe_c, setG_n, setG_t, setGs_n, setGs_c, ix_l, ix_t, atI_0, atI_1, atI_2, atI_3, add_i, sub_i, iadd_i, lt_i, le_i, gt_i, ge_i, eq_i, eq_s, len_l, len_t, int_i, abs_i, max_i, tuple_l, tuple_t, sizeLine_val, w_enum, w_isi, w_fmt, w_jnil, w_jcons, w_join, vK_1, strK_s, ne_i, ne_s, s_raise, s_try, wpR_exc, errIx0, errIx1, errIx2, errIx3, errWord0, errWord1, errWord2, errWord3, w_zip, zipK_2, row_l, row_t, w_back, backK_t, neg_i, w_ssetT, tupK_t, w_callI, callK_0, w_mulLD, mulK_l, w_disp, w_din, w_dget, one1_v, w_dlen, w_glue, w_upperD, w_dvals, s_dput, keyV_i, keyV_s, datV_d, strV_s, refOf_r, dctV_r, dct_z, dct_s, xor_tr, xor_fl, seqOf_l, seqOf_t, List.length_nil, List.length_cons, Nat.reduceAdd, Nat.reduceLeDiff, true_and, and_true, if_true, if_false, Bool.not_true, Bool.not_false, Bool.false_eq_true]
  rw [first_sh.same (by omega) (by omega) (by omega)]
  simp only [s_nil, s_brk, s_cont, s_seq, s_expr, s_ret, s_retN, s_set, s_setL, s_newL, s_unp, s_par, s_aug, s_six, s_if, s_for, w_var, w_mv2, mvK_d, mvK_r, w_c, w_bin, w_un, w_tst, w_and, w_or, w_not, w_andV, w_orV, w_notV, w_if, w_nil, w_cons, w_tup, w_lst, w_as, w_bc, w_lc, w_call, w_no, w_some, w_slice, w_app, w_ext, w_pop, w_seqD, w_rng1, w_comp, wpR_ok, optK_some, boolK_b, intK_i, oneK_d, oneL_d, twoK_2, sixK_r, rngK_i, rtK_d, peek_d, peek_r, peeks_n, peeks_c, own_r, lst_z, lst_s, Option.map_some, Option.bind_some, Option.join_some, List.getElem?_cons_zero, List.getElem?_cons_succ, List.set_cons_zero, List.set_cons_succ, List.map_cons, List.map_nil, List.cons_append, List.nil_append, List.replicate_succ, List.replicate_zero, Nat.sub_self, datsV_n, datsV_d, wipe_n, wipe_c, setG_n, setG_t, setGs_n, setGs_c, ix_l, ix_t, atI_0, atI_1, atI_2, atI_3, add_i, sub_i, iadd_i, lt_i, le_i, gt_i, ge_i, eq_i, eq_s, len_l, len_t, int_i, abs_i, max_i, tuple_l, tuple_t, sizeLine_val, w_enum, w_isi, w_fmt, w_jnil, w_jcons, w_join, vK_1, strK_s, ne_i, ne_s, s_raise, s_try, wpR_exc, errIx0, errIx1, errIx2, errIx3, errWord0, errWord1, errWord2, errWord3, w_zip, zipK_2, row_l, row_t, w_back, backK_t, neg_i, w_ssetT, tupK_t, w_callI, callK_0, w_mulLD, mulK_l, w_disp, w_din, w_dget, one1_v, w_dlen, w_glue, w_upperD, w_dvals, s_dput, keyV_i, keyV_s, datV_d, strV_s, refOf_r, dctV_r, dct_z, dct_s, xor_tr, xor_fl, seqOf_l, seqOf_t, List.length_nil, List.length_cons, Nat.reduceAdd, Nat.reduceLeDiff, true_and, and_true, if_true, if_false, Bool.not_true, Bool.not_false, Bool.false_eq_true]
  refine ⟨by decide, ?_⟩
  rw [show (4 : Int).toNat = 4 from rfl]
  refine for_rng (fun j ρ h' => ∃ (a b c d e : Option Val) (n : Int), h' = [st s n] ∧ 0 ≤ n ∧ n ≤ j * 1300 ∧ (0 < j → ∃ (x y r r2 : Str) (W V : List Str), b = some (.dat (.tuple [.tuple ((x :: y :: W).map .str), .tuple ((r :: r2 :: V).map .str)])) ∧ Wds (x :: y :: W) ∧ Wds (r :: r2 :: V)) ∧ ρ = [some (.scr ns), some (.ref 0), a, b, c, d, e, none, none, none])
    (fun j ρ h' hj I => ?_) (fun ρ h' I => ?_) ⟨none, none, none, none, none, 0, rfl, by omega, by omega, fun z => absurd z (Nat.lt_irrefl _), rfl⟩
  · obtain ⟨a, b, c, d, e, n, rfl, n0, n1, _, rfl⟩ := I
    simp only [s_nil, s_brk, s_cont, s_seq, s_expr, s_ret, s_retN, s_set, s_setL, s_newL, s_unp, s_par, s_aug, s_six, s_if, s_for, w_var, w_mv2, mvK_d, mvK_r, w_c, w_bin, w_un, w_tst, w_and, w_or, w_not, w_andV, w_orV, w_notV, w_if, w_nil, w_cons, w_tup, w_lst, w_as, w_bc, w_lc, w_call, w_no, w_some, w_slice, w_app, w_ext, w_pop, w_seqD, w_rng1, w_comp, wpR_ok, optK_some, boolK_b, intK_i, oneK_d, oneL_d, twoK_2, sixK_r, rngK_i, rtK_d, peek_d, peek_r, peeks_n, peeks_c, own_r, lst_z, lst_s, Option.map_some, Option.bind_some, Option.join_some, List.getElem?_cons_zero, List.getElem?_cons_succ, List.set_cons_zero, List.set_cons_succ, List.map_cons, List.map_nil, List.cons_append, List.nil_append, List.replicate_succ, List.replicate_zero, Nat.sub_self, datsV_n, datsV_d, wipe_n, wipe_c, setG_n, setG_t, setGs_n, setGs_c, ix_l, ix_t, atI_0, atI_1, atI_2, atI_3, add_i, sub_i, iadd_i, lt_i, le_i, gt_i, ge_i, eq_i, eq_s, len_l, len_t, int_i, abs_i, max_i, tuple_l, tuple_t, sizeLine_val, w_enum, w_isi, w_fmt, w_jnil, w_jcons, w_join, vK_1, strK_s, ne_i, ne_s, s_raise, s_try, wpR_exc, errIx0, errIx1, errIx2, errIx3, errWord0, errWord1, errWord2, errWord3, w_zip, zipK_2, row_l, row_t, w_back, backK_t, neg_i, w_ssetT, tupK_t, w_callI, callK_0, w_mulLD, mulK_l, w_disp, w_din, w_dget, one1_v, w_dlen, w_glue, w_upperD, w_dvals, s_dput, keyV_i, keyV_s, datV_d, strV_s, refOf_r, dctV_r, dct_z, dct_s, xor_tr, xor_fl, seqOf_l, seqOf_t, List.length_nil, List.length_cons, Nat.reduceAdd, Nat.reduceLeDiff, true_and, and_true, if_true, if_false, Bool.not_true, Bool.not_false, Bool.false_eq_true]
    have S : Sk s n 1300 := ⟨s0, s1, n0, by omega⟩
    exact turn_spec (by omega) S _ _ _ _ _ _ _ _ _ fun x y r r2 W V e4 e5 e6 n' w1 w2 l1 l2 => ⟨_, _, _, _, _, n', rfl, by omega, by omega, fun _ => ⟨x, y, r, r2, W, V, rfl, w1, w2⟩, rfl⟩
  · obtain ⟨a, b, c, d, e, n, rfl, n0, n1, w, rfl⟩ := I
    obtain ⟨x, y, r, r2, W, V, rfl, w1, w2⟩ := w (by omega)
    exact tail_spec (by omega) ⟨s0, s1, n0, by omega⟩ w1 w2 _ _ _ _ _ fun h => rfl
theorem law_true : ∀ ns : List Int, ns.length ≤ 63 → ∃ h', callD prog 100 i_law [.scr ns] [] = .ok (.dat (.bool true)) h' := by
  intro ns hn
  obtain ⟨a, h, e, q⟩ := wpR_get (law_wp (k := 99) (by omega) ns hn)
  exact ⟨h, by rw [e, q]⟩
end Pg
end

section
open PySem PySem.W PyProof.Rows Dn Pg
set_option maxHeartbeats 0 in
theorem PySem.Challenge.cw_bestiary_k00_concepts_checked_holds : PySem.Challenge.rw_bestiary_k00_concepts_checked.Holds := by
  w_on; o_law; k_head; (case hw => w_witness2)
  k_fill
  refine walk_den (l := PySem.Challenge.rw_bestiary_k00_concepts_checked) (n := 63) (k := 100) (x := "script") (D := callD prog 100 i_law) ⟨rfl, by decide, by decide⟩ rfl (by decide) rfl (fun w h Y => PySem.W.kIn_of Y) law_true ?F
  case F =>
    intro w mg fa h KX G hmg
    refine' fin_den (T := T) (prog := prog) (bts := bts) (cns := cns) (i := i_law) (r := r_law) hT ok rfl rfl KX G hmg ⟨head_mk ?a0 ?l0 ?c0 ?k0, head_mk ?a1 ?l1 ?c1 ?k1, head_mk ?a2 ?l2 ?c2 ?k2, head_mk ?a3 ?l3 ?c3 ?k3, head_mk ?a4 ?l4 ?c4 ?k4, head_mk ?a5 ?l5 ?c5 ?k5, head_mk ?a6 ?l6 ?c6 ?k6, head_mk ?a7 ?l7 ?c7 ?k7, head_mk ?a8 ?l8 ?c8 ?k8, head_mk ?a9 ?l9 ?c9 ?k9, head_mk ?a10 ?l10 ?c10 ?k10, head_mk ?a11 ?l11 ?c11 ?k11, head_mk ?a12 ?l12 ?c12 ?k12, head_mk ?a13 ?l13 ?c13 ?k13, head_mk ?a14 ?l14 ?c14 ?k14, head_mk ?a15 ?l15 ?c15 ?k15, head_mk ?a16 ?l16 ?c16 ?k16, head_mk ?a17 ?l17 ?c17 ?k17, head_mk ?a18 ?l18 ?c18 ?k18, head_mk ?a19 ?l19 ?c19 ?k19, head_mk ?a20 ?l20 ?c20 ?k20, head_mk ?a21 ?l21 ?c21 ?k21, head_mk ?a22 ?l22 ?c22 ?k22, trivial⟩ ⟨bt_mk ?z0, bt_mk ?z1, bt_mk ?z2, bt_mk ?z3, bt_mk ?z4, bt_mk ?z5, bt_mk ?z6, bt_mk ?z7, bt_mk ?z8, bt_mk ?z9, trivial⟩ ⟨con_mk ?n0 (kd_str ?r1), con_mk ?n1 (kd_str ?r2), con_mk ?n2 (kd_int ?r3), con_mk ?n3 (kd_int ?r4), con_mk ?n4 (kd_int ?r5), con_mk ?n5 (kd_tup ?t6 (by decide) (.cons (kd_tup ?t8 (by decide) (.nil)) (.cons (kd_tup ?t7 (by decide) (.nil)) (.nil)))), trivial⟩ (re := r__law_error) (fun _ => ⟨d__law_error, head_mk ?ea ?el ?ec ?ek, ?eB, ?eC0, ?eC1, ?eC2, ?eC3, ?eC4, ⟨?egB, ⟨?e0_g, ?e0_kp, ?e0_sub, ?e0_ty, ?e0_hg, ?e0_hk, ?e0_hd, ?e0_ha, ?e0_hm, ?e0_sb, ?e0_vs⟩, ⟨?e1_g, ?e1_kp, ?e1_sub, ?e1_ty, ?e1_hg, ?e1_hk, ?e1_hd, ?e1_ha, ?e1_hm, ?e1_sb, ?e1_vs⟩, ⟨?e2_g, ?e2_kp, ?e2_sub, ?e2_ty, ?e2_hg, ?e2_hk, ?e2_hd, ?e2_ha, ?e2_hm, ?e2_sb, ?e2_vs⟩, ⟨?e3_g, ?e3_kp, ?e3_sub, ?e3_ty, ?e3_hg, ?e3_hk, ?e3_hd, ?e3_ha, ?e3_hm, ?e3_sb, ?e3_vs⟩, ⟨?e4_g, ?e4_kp, ?e4_sub, ?e4_ty, ?e4_hg, ?e4_hk, ?e4_hd, ?e4_ha, ?e4_hm, ?e4_sb, ?e4_vs⟩, ?x0_ex, ?x1_ex, ?x2_ex, ?x3_ex, ?ebsub, ?ebty, ?ebhd, ?ehn, ?eht, ?ek00, ?ek01, ?ek02, ?ek03, ?ek04, ?ek10, ?ek11, ?ek12, ?ek13, ?ek14, ?ek20, ?ek21, ?ek22, ?ek23, ?ek24, ?ek30, ?ek31, ?ek32, ?ek33, ?ek34, ?ek40, ?ek41, ?ek42, ?ek43, ?ek44, ?ebi, ?ebs, ?ebn, ?ebv⟩⟩) 100
    (case a0 => k_is); (case l0 => k_is); (case c0 => k_is); (case k0 => k_is); (case a1 => k_is); (case l1 => k_is); (case c1 => k_is); (case k1 => k_is); (case a2 => k_is); (case l2 => k_is); (case c2 => k_is); (case k2 => k_is); (case a3 => k_is); (case l3 => k_is); (case c3 => k_is); (case k3 => k_is); (case a4 => k_is); (case l4 => k_is); (case c4 => k_is); (case k4 => k_is); (case a5 => k_is); (case l5 => k_is); (case c5 => k_is); (case k5 => k_is); (case a6 => k_is); (case l6 => k_is); (case c6 => k_is); (case k6 => k_is); (case a7 => k_is); (case l7 => k_is); (case c7 => k_is); (case k7 => k_is); (case a8 => k_is); (case l8 => k_is); (case c8 => k_is); (case k8 => k_is); (case a9 => k_is); (case l9 => k_is); (case c9 => k_is); (case k9 => k_is); (case a10 => k_is); (case l10 => k_is); (case c10 => k_is); (case k10 => k_is); (case a11 => k_is); (case l11 => k_is); (case c11 => k_is); (case k11 => k_is); (case a12 => k_is); (case l12 => k_is); (case c12 => k_is); (case k12 => k_is); (case a13 => k_is); (case l13 => k_is); (case c13 => k_is); (case k13 => k_is); (case a14 => k_is); (case l14 => k_is); (case c14 => k_is); (case k14 => k_is); (case a15 => k_is); (case l15 => k_is); (case c15 => k_is); (case k15 => k_is); (case a16 => k_is); (case l16 => k_is); (case c16 => k_is); (case k16 => k_is); (case a17 => k_is); (case l17 => k_is); (case c17 => k_is); (case k17 => k_is); (case a18 => k_is); (case l18 => k_is); (case c18 => k_is); (case k18 => k_is); (case a19 => k_is); (case l19 => k_is); (case c19 => k_is); (case k19 => k_is); (case a20 => k_is); (case l20 => k_is); (case c20 => k_is); (case k20 => k_is); (case a21 => k_is); (case l21 => k_is); (case c21 => k_is); (case k21 => k_is); (case a22 => k_is); (case l22 => k_is); (case c22 => k_is); (case k22 => k_is); (case z0 => k_is); (case z1 => k_is); (case z2 => k_is); (case z3 => k_is); (case z4 => k_is); (case z5 => k_is); (case z6 => k_is); (case z7 => k_is); (case z8 => k_is); (case z9 => k_is); (case n0 => k_is); (case r1 => exact ⟨_, rfl⟩); (case n1 => k_is); (case r2 => exact ⟨_, rfl⟩); (case n2 => k_is); (case r3 => exact ⟨_, rfl⟩); (case n3 => k_is); (case r4 => exact ⟨_, rfl⟩); (case n4 => k_is); (case r5 => exact ⟨_, rfl⟩); (case n5 => k_is); (case t6 => k_is); (case t7 => k_is); (case t8 => k_is); (case ea => k_is); (case el => k_is); (case ec => k_is); (case ek => k_is); (case egB => k_is); (case e0_g => k_is); (case e1_g => k_is); (case e2_g => k_is); (case e3_g => k_is); (case e4_g => k_is); (case e0_kp => k_is); (case e0_sub => k_is); (case e0_ty => k_is); (case e0_hg => k_is); (case e0_hk => k_is); (case e0_hd => k_is); (case e0_ha => k_is); (case e0_hm => k_is); (case e0_sb => k_is); (case e0_vs => k_is); (case e1_kp => k_is); (case e1_sub => k_is); (case e1_ty => k_is); (case e1_hg => k_is); (case e1_hk => k_is); (case e1_hd => k_is); (case e1_ha => k_is); (case e1_hm => k_is); (case e1_sb => k_is); (case e1_vs => k_is); (case e2_kp => k_is); (case e2_sub => k_is); (case e2_ty => k_is); (case e2_hg => k_is); (case e2_hk => k_is); (case e2_hd => k_is); (case e2_ha => k_is); (case e2_hm => k_is); (case e2_sb => k_is); (case e2_vs => k_is); (case e3_kp => k_is); (case e3_sub => k_is); (case e3_ty => k_is); (case e3_hg => k_is); (case e3_hk => k_is); (case e3_hd => k_is); (case e3_ha => k_is); (case e3_hm => k_is); (case e3_sb => k_is); (case e3_vs => k_is); (case e4_kp => k_is); (case e4_sub => k_is); (case e4_ty => k_is); (case e4_hg => k_is); (case e4_hk => k_is); (case e4_hd => k_is); (case e4_ha => k_is); (case e4_hm => k_is); (case e4_sb => k_is); (case e4_vs => k_is); (case ek00 => k_is); (case ek01 => k_is); (case ek02 => k_is); (case ek03 => k_is); (case ek04 => k_is); (case ek10 => k_is); (case ek11 => k_is); (case ek12 => k_is); (case ek13 => k_is); (case ek14 => k_is); (case ek20 => k_is); (case ek21 => k_is); (case ek22 => k_is); (case ek23 => k_is); (case ek24 => k_is); (case ek30 => k_is); (case ek31 => k_is); (case ek32 => k_is); (case ek33 => k_is); (case ek34 => k_is); (case ek40 => k_is); (case ek41 => k_is); (case ek42 => k_is); (case ek43 => k_is); (case ek44 => k_is); (case x0_ex => (unfold Dn.ExcI; k_exc)); (case x1_ex => (unfold Dn.ExcI; k_exc)); (case x2_ex => (unfold Dn.ExcI; k_exc)); (case x3_ex => (unfold Dn.ExcI; k_exc)); (case ebsub => k_is); (case ebty => k_is); (case ebhd => k_is); (case ehn => k_is); (case eht => k_is); (case ebi => k_is); (case ebs => k_is); (case ebn => k_is); (case ebv => k_is)
end
