import PyProof.Rows.All
import Wide.All
import OpenK.AllK
import Wide.FinOn
import HandS.ForMost
import HandS.ForExc
import HandS.Wide
import HandS.More
import KE.KStar
import HandS.Flow
import HandS.Rev
import HandS.Zip
import HandS.TupAny
import HandS.IsInst
import HandS.Deep
import HandS.OwnEq
import HandS.Walk
import KE.KeyNested
import KE.SortData
import KE.KDictKeyed
import HandS.WordsExc
import HandS.CallSlots
import HandS.Words
import KE.GoesMore
import KE.GoesEnum
import HandS.TupSets
import HandS.Strs
import HandS.SortInts
import KE.DataMinMax
import PySem.Challenge.RW_someobjects_k30_whole_labels_for_rings
set_option Elab.async false
set_option linter.all false
set_option maxRecDepth 100000
set_option maxHeartbeats 1000000
set_option autoImplicit false
namespace DL
open PySem PySem.Spec PyProof.Rows L2
abbrev St := L2.St

/-! plain data, the store of things that change, results -/
inductive D where
  | non | bl (b : Bool) | int (i : Int) | str (x : Str)
  | tup (xs : List D) | lst (xs : List D)
  | scr (ns : List Int)
  | loc (n : Nat)
  | ins (c : Nat) (ks : List Str) (ds : List D)
  | dct (ks : List D)

mutual
def D.beq : D → D → Bool
  | .non, .non => true
  | .bl a, .bl b => a == b
  | .int a, .int b => decide (a = b)
  | .str a, .str b => decide (a = b)
  | .tup a, .tup b => D.beqs a b
  | .lst a, .lst b => D.beqs a b
  | .scr a, .scr b => decide (a = b)
  | .loc a, .loc b => decide (a = b)
  | .ins a k x, .ins b l y => decide (a = b) && decide (k = l) && D.beqs x y
  | .dct a, .dct b => D.beqs a b
  | _, _ => false
def D.beqs : List D → List D → Bool
  | [], [] => true
  | a :: as, b :: bs => D.beq a b && D.beqs as bs
  | _, _ => false
end
mutual
theorem D.beq_iff : ∀ a b : D, D.beq a b = true ↔ a = b
  | .non, b => by cases b <;> simp [D.beq]
  | .bl a, b => by cases b <;> simp [D.beq]
  | .int a, b => by cases b <;> simp [D.beq]
  | .str a, b => by cases b <;> simp [D.beq]
  | .tup a, b => by
    cases b with
    | tup b => rw [D.beq, D.beqs_iff a b]; simp
    | _ => simp [D.beq]
  | .lst a, b => by
    cases b with
    | lst b => rw [D.beq, D.beqs_iff a b]; simp
    | _ => simp [D.beq]
  | .scr a, b => by cases b <;> simp [D.beq]
  | .loc a, b => by cases b <;> simp [D.beq]
  | .dct a, b => by
    cases b with
    | dct b => rw [D.beq, D.beqs_iff a b]; simp
    | _ => simp [D.beq]
  | .ins a k x, b => by
    cases b with
    | ins b l y => rw [D.beq, Bool.and_eq_true, Bool.and_eq_true, D.beqs_iff x y]; simp [and_assoc]
    | _ => simp [D.beq]
theorem D.beqs_iff : ∀ a b : List D, D.beqs a b = true ↔ a = b
  | [], b => by cases b <;> simp [D.beqs]
  | a :: as, b => by
    cases b with
    | nil => simp [D.beqs]
    | cons b bs => rw [D.beqs, Bool.and_eq_true, D.beq_iff a b, D.beqs_iff as bs]; simp
end
instance : DecidableEq D := fun a b => if h : D.beq a b = true then Decidable.isTrue ((D.beq_iff a b).mp h) else Decidable.isFalse fun e => h ((D.beq_iff a b).mpr e)
instance : Inhabited D := ⟨.non⟩

mutual
def D.nk : D → NestedKey
  | .int i => .num i
  | .tup ds => .tup (D.nks ds)
  | _ => .none
def D.nks : List D → List NestedKey
  | [] => []
  | d :: ds => D.nk d :: D.nks ds
end
/-- a dict whose keys are tuples of numbers and of such, at a: what stands in its one object -/
def RawD (P : Program) (w : World) (h : Heap) (a : Addr) (xs : List (NestedKey × Addr × Value)) : Prop := (a == sysModules) = false ∧ ∃ o es ep, h.get? a = some o ∧ o.ExactDict ∧ o.data = .dict es ep ∧ es.toList = xs.map (entryOfKey (nestedKind P w)) ∧ (xs.map (·.1)).Nodup
def dctO (a : Addr) (xs : List (NestedKey × Addr × Value)) : HO := .ext fun h => ∀ (P : Program) (w : World), RawD P w h a xs
/-- a thing of the store -/
inductive Ob where
  | lst (xs : List D)
  | ins (c : Nat) (ks : List Str) (ds : List D)
abbrev Store := List Ob
/-- what a name holds: a value, or a list that nobody else knows -/
inductive Sl where
  | val (d : D)
  | own (ds : List D)
abbrev Env := List (Option Sl)
/-- an error: its class, its fields -/
structure Ex where
  c : Nat
  ks : List Str
  ds : List D
inductive Res (α : Type) where
  | ok (a : α)
  | exc (e : Ex) (S : Store)
  | bad
abbrev ME := Env → Store → Res (D × Store)
abbrev MT := Env → Store → Res (Bool × Store)
abbrev MA := Env → Store → Res (List D × Store)
inductive Out where
  | nx (env : Env) (S : Store)
  | rt (d : D) (S : Store)
  | ro (ds : List D) (S : Store)
  | bk (env : Env) (S : Store)
  | ct (env : Env) (S : Store)
  | exc (e : Ex) (env : Env) (S : Store)
  | bad
abbrev MS := Env → Store → Out

/-! the ghost: what is locked for good, what is kept for now, where the store's things stand -/
structure G where
  F : Hp
  T : Hp
  mu : List Addr
def G.le (g g' : G) : Prop := Same g.F g'.F ∧ g'.T = g.T ∧ ∃ l, g'.mu = g.mu ++ l
theorem G.le.refl (g : G) : g.le g := ⟨Same.refl _, rfl, [], by simp⟩
theorem G.le.trans {a b c : G} (h : a.le b) (k : b.le c) : a.le c := by
  obtain ⟨h1, h2, l, h3⟩ := h
  obtain ⟨k1, k2, m, k3⟩ := k
  exact ⟨h1.trans k1, k2.trans h2, l ++ m, by rw [k3, h3, List.append_assoc]⟩
theorem G.le.mu {g g' : G} (h : g.le g') {n : Nat} {a : Addr} (e : g.mu[n]? = some a) : g'.mu[n]? = some a := by
  obtain ⟨_, _, l, q⟩ := h
  rw [q, List.getElem?_append_left (List.getElem?_eq_some_iff.mp e).1]
  exact e
theorem G.le.mem {g g' : G} (h : g.le g') {a : Addr} (e : a ∈ g.mu) : a ∈ g'.mu := by
  obtain ⟨_, _, l, q⟩ := h
  rw [q]
  exact List.mem_append_left _ e

theorem Same.seqT {K : PySem.W.Frag} {H H' : Hp} {a : Addr} {xs : List V} (e : Same H H') (h : SqT K H a xs) : SqT K H' a xs := by
  rcases h with (h | ⟨o, h⟩) | h
  · exact .inl (.inl (e _ _ h))
  · exact .inl (.inr ⟨o, e _ _ h⟩)
  · exact .inr h

/-! what a value stands for -/
mutual
inductive Rp (K : PySem.W.Frag) (cl : Nat → Addr) (g : G) : D → V → Prop
  | non : Rp K cl g .non .non
  | bl (b) : Rp K cl g (.bl b) (.bl b)
  | int (i) : Rp K cl g (.int i) (.int i)
  | str (x) : Rp K cl g (.str x) (.str x)
  | tup {a ds vs} : SqT K g.F a vs → RpL K cl g ds vs → Rp K cl g (.tup ds) (.ref a)
  | lst {a ds vs} : g.F a = some (.lst vs) → RpL K cl g ds vs → Rp K cl g (.lst ds) (.ref a)
  | scr {a ns} : SqL K g.F a (ns.map V.int) → Rp K cl g (.scr ns) (.ref a)
  | loc {n a} : g.mu[n]? = some a → Rp K cl g (.loc n) (.ref a)
  | dct {ks a xs} : g.F a = some (dctO a xs) → xs.map (·.1) = ks.map D.nk → RpL K cl g ks (xs.map fun x => V.ref x.2.1) → Rp K cl g (.dct ks) (.ref a)
  | ins {c ks ds a dx vs} : g.F a = some (.ins (cl c) dx (ks.zip vs)) → ks.length = ds.length → RpL K cl g ds vs → Rp K cl g (.ins c ks ds) (.ref a)
inductive RpL (K : PySem.W.Frag) (cl : Nat → Addr) (g : G) : List D → List V → Prop
  | nil : RpL K cl g [] []
  | cons {d v ds vs} : Rp K cl g d v → RpL K cl g ds vs → RpL K cl g (d :: ds) (v :: vs)
end
section
variable {K : PySem.W.Frag} {cl : Nat → Addr} {g g' : G}
mutual
theorem Rp.ups (h : Same g.F g'.F) (hm : ∀ (n : Nat) (a : Addr), g.mu[n]? = some a → g'.mu[n]? = some a) : ∀ (d : D) (v : V), Rp K cl g d v → Rp K cl g' d v
  | .non, _, r => by cases r; exact .non
  | .bl _, _, r => by cases r; exact .bl _
  | .int _, _, r => by cases r; exact .int _
  | .str _, _, r => by cases r; exact .str _
  | .tup ds, _, r => by
    cases r with
    | tup h1 h2 => exact .tup (DL.Same.seqT h h1) (RpL.ups h hm ds _ h2)
  | .lst ds, _, r => by
    cases r with
    | lst h1 h2 => exact .lst (h _ _ h1) (RpL.ups h hm ds _ h2)
  | .scr ns, _, r => by
    cases r with
    | scr h1 => exact .scr (L2.Same.seq h h1)
  | .loc n, _, r => by
    cases r with
    | loc e => exact .loc (hm _ _ e)
  | .dct ks, _, r => by
    cases r with
    | dct h1 h2 h3 => exact .dct (h _ _ h1) h2 (RpL.ups h hm ks _ h3)
  | .ins c ks ds, _, r => by
    cases r with
    | ins h1 h2 h3 => exact .ins (h _ _ h1) h2 (RpL.ups h hm ds _ h3)
theorem RpL.ups (h : Same g.F g'.F) (hm : ∀ (n : Nat) (a : Addr), g.mu[n]? = some a → g'.mu[n]? = some a) : ∀ (ds : List D) (vs : List V), RpL K cl g ds vs → RpL K cl g' ds vs
  | [], _, r => by cases r; exact .nil
  | d :: ds, _, r => by
    cases r with
    | cons h1 h2 => exact .cons (Rp.ups h hm d _ h1) (RpL.ups h hm ds _ h2)
end
theorem Rp.up (h : g.le g') (d : D) (v : V) (r : Rp K cl g d v) : Rp K cl g' d v := Rp.ups h.1 (fun _ _ e => h.mu e) d v r
theorem RpL.up (h : g.le g') (ds : List D) (vs : List V) (r : RpL K cl g ds vs) : RpL K cl g' ds vs := RpL.ups h.1 (fun _ _ e => h.mu e) ds vs r
theorem RpL.length : ∀ {ds : List D} {vs : List V}, RpL K cl g ds vs → ds.length = vs.length
  | [], _, r => by cases r; rfl
  | _ :: _, _, r => by
    cases r with
    | cons _ h2 => simp [RpL.length h2]
theorem RpL.get : ∀ {ds : List D} {vs : List V}, RpL K cl g ds vs → ∀ {i : Nat} {v : V}, vs[i]? = some v → ∃ d, ds[i]? = some d ∧ Rp K cl g d v
  | [], _, r, i, v, e => by cases r; simp at e
  | d :: ds, _, r, 0, v, e => by
    cases r with
    | cons h1 h2 => simp at e; subst e; exact ⟨d, rfl, h1⟩
  | d :: ds, _, r, i + 1, v, e => by
    cases r with
    | cons h1 h2 => simpa using RpL.get h2 (i := i) (v := v) (by simpa using e)
theorem RpL.getD : ∀ {ds : List D} {vs : List V}, RpL K cl g ds vs → ∀ {i : Nat} {d : D}, ds[i]? = some d → ∃ v, vs[i]? = some v ∧ Rp K cl g d v
  | [], _, r, i, d, e => by simp at e
  | d' :: ds, _, r, 0, d, e => by
    cases r with
    | cons h1 h2 => simp at e; subst e; exact ⟨_, rfl, h1⟩
  | d' :: ds, _, r, i + 1, d, e => by
    cases r with
    | cons h1 h2 => simpa using RpL.getD h2 (i := i) (d := d) (by simpa using e)
theorem RpL.app : ∀ {ds es : List D} {vs us : List V}, RpL K cl g ds vs → RpL K cl g es us → RpL K cl g (ds ++ es) (vs ++ us)
  | [], _, _, _, r, q => by cases r; exact q
  | _ :: _, _, _, _, r, q => by
    cases r with
    | cons h1 h2 => exact .cons h1 (RpL.app h2 q)
theorem RpL.one {d : D} {v : V} (h : Rp K cl g d v) : RpL K cl g [d] [v] := .cons h .nil
theorem RpL.set : ∀ {ds : List D} {vs : List V} {d : D} {v : V} (i : Nat), RpL K cl g ds vs → Rp K cl g d v → RpL K cl g (ds.set i d) (vs.set i v)
  | [], _, _, _, _, r, _ => by cases r; exact .nil
  | _ :: _, _, _, _, 0, r, q => by
    cases r with
    | cons h1 h2 => exact .cons q h2
  | _ :: _, _, _, _, i + 1, r, q => by
    cases r with
    | cons h1 h2 => exact .cons h1 (RpL.set i h2 q)
theorem RpL.take : ∀ {ds : List D} {vs : List V} (n : Nat), RpL K cl g ds vs → RpL K cl g (ds.take n) (vs.take n)
  | _, _, 0, _ => by simp; exact .nil
  | [], _, n + 1, r => by cases r; exact .nil
  | _ :: _, _, n + 1, r => by
    cases r with
    | cons h1 h2 => exact .cons h1 (RpL.take n h2)
theorem RpL.drop : ∀ {ds : List D} {vs : List V} (n : Nat), RpL K cl g ds vs → RpL K cl g (ds.drop n) (vs.drop n)
  | _, _, 0, r => r
  | [], _, n + 1, r => by cases r; exact .nil
  | _ :: _, _, n + 1, r => by
    cases r with
    | cons h1 h2 => exact RpL.drop n h2
theorem RpL.dropLast : ∀ {ds : List D} {vs : List V}, RpL K cl g ds vs → RpL K cl g ds.dropLast vs.dropLast := fun {ds vs} r => by
  rw [List.dropLast_eq_take, List.dropLast_eq_take, ← r.length]
  exact RpL.take _ r
theorem RpL.erase : ∀ {ds : List D} {vs : List V} (i : Nat), RpL K cl g ds vs → RpL K cl g (ds.eraseIdx i) (vs.eraseIdx i)
  | [], _, _, r => by cases r; exact .nil
  | _ :: _, _, 0, r => by
    cases r with
    | cons h1 h2 => exact h2
  | _ :: _, _, i + 1, r => by
    cases r with
    | cons h1 h2 => exact .cons h1 (RpL.erase i h2)
theorem RpL.rev : ∀ {ds : List D} {vs : List V}, RpL K cl g ds vs → RpL K cl g ds.reverse vs.reverse
  | [], _, r => by cases r; exact .nil
  | _ :: _, _, r => by
    cases r with
    | cons h1 h2 => rw [List.reverse_cons, List.reverse_cons]; exact (RpL.rev h2).app (.one h1)
theorem RpL.ints : ∀ {ns : List Int} {vs : List V}, RpL K cl g (ns.map D.int) vs → vs = ns.map V.int
  | [], _, r => by cases r; rfl
  | n :: ns, _, r => by
    have r' : RpL K cl g (.int n :: ns.map D.int) _ := r
    cases r' with
    | cons h1 h2 => cases h1; rw [RpL.ints h2]; rfl
theorem RpL.ofInts : ∀ (ns : List Int), RpL K cl g (ns.map D.int) (ns.map V.int)
  | [] => .nil
  | n :: ns => .cons (.int n) (RpL.ofInts ns)
end

/-! the state: names, store, heap -/
def ObR (K : PySem.W.Frag) (cl : Nat → Addr) (g : G) (H : Hp) (a : Addr) : Ob → Prop
  | .lst ds => ∃ vs, H a = some (.lst vs) ∧ RpL K cl g ds vs
  | .ins c ks ds => ∃ dx vs, H a = some (.ins (cl c) dx (ks.zip vs)) ∧ ks.length = ds.length ∧ RpL K cl g ds vs

/-- the heap's part -/
structure RelF (K : PySem.W.Frag) (cl : Nat → Addr) (g : G) (S : Store) (H : Hp) : Prop where
  sub : Same g.F H
  prot : Same g.T H
  dis : ∀ a, g.F a = none ∨ g.T a = none
  st : g.mu.length = S.length
  sto : ∀ (n : Nat) (o : Ob) (a : Addr), S[n]? = some o → g.mu[n]? = some a → ObR K cl g H a o
  muF : ∀ a ∈ g.mu, g.F a = none ∧ g.T a = none
  nd : g.mu.Nodup
structure Rel (K : PySem.W.Frag) (cl : Nat → Addr) (g : G) (env : Env) (S : Store) (σ : St) (H : Hp) : Prop extends RelF K cl g S H where
  len : env.length = σ.length
  val : ∀ (i : Nat) (d : D), env[i]? = some (some (.val d)) → ∃ v, σ[i]? = some (some v) ∧ Rp K cl g d v
  own : ∀ (i : Nat) (ds : List D), env[i]? = some (some (.own ds)) → ∃ a vs, σ[i]? = some (some (.ref a)) ∧ H a = some (.lst vs) ∧ RpL K cl g ds vs ∧ g.F a = none ∧ g.T a = none ∧ a ∉ g.mu
  ownd : ∀ (i j : Nat) (ds es : List D), env[i]? = some (some (.own ds)) → env[j]? = some (some (.own es)) → σ[i]? = σ[j]? → i = j

section
variable {K : PySem.W.Frag} {cl : Nat → Addr} {g g' : G} {env : Env} {S S' : Store} {σ : St} {H H' : Hp}
theorem RelF.free (R : RelF K cl g S H) {p : Addr} (hp : H p = none) : g.F p = none ∧ g.T p = none ∧ p ∉ g.mu := by
  refine ⟨R.sub.free hp, R.prot.free hp, fun hm => ?_⟩
  obtain ⟨n, hn, e⟩ := List.getElem_of_mem hm
  have hS : n < S.length := by rw [← R.st]; exact hn
  have := R.sto n S[n] p (List.getElem?_eq_getElem hS) (by rw [List.getElem?_eq_getElem hn, e])
  cases h : S[n] with
  | lst ds => rw [h] at this; obtain ⟨vs, q, _⟩ := this; rw [hp] at q; cases q
  | ins c ks ds => rw [h] at this; obtain ⟨dx, vs, q, _⟩ := this; rw [hp] at q; cases q
/-- the store's things stand, whatever else is laid -/
theorem ObR.keep {a : Addr} {o : Ob} (h : ObR K cl g H a o) (hg : g.le g') (hH : H' a = H a) : ObR K cl g' H' a o := by
  cases o with
  | lst ds => obtain ⟨vs, q, r⟩ := h; exact ⟨vs, hH.trans q, RpL.up hg _ _ r⟩
  | ins c ks ds => obtain ⟨dx, vs, q, l, r⟩ := h; exact ⟨dx, vs, hH.trans q, l, RpL.up hg _ _ r⟩
/-- a new thing that is locked at once -/
def G.lock (g : G) (p : Addr) (o : HO) : G := { g with F := upd g.F p o }
theorem G.lock_le (g : G) {p : Addr} {o : HO} (hp : g.F p = none) : g.le (g.lock p o) := by
  refine ⟨fun b u e => ?_, rfl, [], by simp [G.lock]⟩
  show upd g.F p o b = some u
  rw [upd_ne (ne_of_none e hp)]
  exact e
theorem RelF.lockNew (R : RelF K cl g S H) {p : Addr} {o : HO} (hp : H p = none) : RelF K cl (g.lock p o) S (upd H p o) := by
  obtain ⟨f1, f2, f3⟩ := R.free hp
  refine ⟨fun b u e => ?_, fun b u e => ?_, fun b => ?_, R.st, fun n ob a e1 e2 => ?_, fun a ha => ?_, R.nd⟩
  · by_cases hb : b = p
    · subst hb
      have e' : upd g.F b o b = some u := e
      rw [upd_same] at e' ⊢
      exact e'
    · have e' : upd g.F p o b = some u := e
      rw [upd_ne hb] at e' ⊢
      exact R.sub b u e'
  · rw [upd_ne (ne_of_none e f2)]
    exact R.prot b u e
  · by_cases hb : b = p
    · subst hb; exact .inr f2
    · show upd g.F p o b = none ∨ _
      rw [upd_ne hb]
      exact R.dis b
  · have hne : a ≠ p := fun z => f3 (z ▸ List.mem_of_getElem? e2)
    exact (R.sto n ob a e1 e2).keep (g.lock_le f1) (upd_ne hne)
  · have hne : a ≠ p := fun z => f3 (z ▸ ha)
    show upd g.F p o a = none ∧ _
    rw [upd_ne hne]
    exact R.muF a ha
theorem Rel.lockNew (R : Rel K cl g env S σ H) {p : Addr} {o : HO} (hp : H p = none) : Rel K cl (g.lock p o) env S σ (upd H p o) := by
  obtain ⟨f1, f2, f3⟩ := R.free hp
  have le := g.lock_le (o := o) f1
  refine ⟨R.toRelF.lockNew hp, R.len, fun i d e => ?_, fun i ds e => ?_, R.ownd⟩
  · obtain ⟨v, e1, r⟩ := R.val i d e
    exact ⟨v, e1, Rp.up le _ _ r⟩
  · obtain ⟨a, vs, e1, e2, r, q1, q2, q3⟩ := R.own i ds e
    have hne : a ≠ p := ne_of_none e2 hp
    refine ⟨a, vs, e1, by rw [upd_ne hne]; exact e2, RpL.up le _ _ r, ?_, q2, q3⟩
    show upd g.F p o a = none
    rw [upd_ne hne]
    exact q1
/-- a new thing that is kept by nobody yet -/
theorem RelF.new (R : RelF K cl g S H) {p : Addr} {o : HO} (hp : H p = none) : RelF K cl g S (upd H p o) := by
  obtain ⟨f1, f2, f3⟩ := R.free hp
  refine ⟨fun b u e => ?_, fun b u e => ?_, R.dis, R.st, fun n ob a e1 e2 => ?_, R.muF, R.nd⟩
  · rw [upd_ne (ne_of_none e f1)]
    exact R.sub b u e
  · rw [upd_ne (ne_of_none e f2)]
    exact R.prot b u e
  · have hne : a ≠ p := fun z => f3 (z ▸ List.mem_of_getElem? e2)
    exact (R.sto n ob a e1 e2).keep (G.le.refl _) (upd_ne hne)
theorem Rel.new (R : Rel K cl g env S σ H) {p : Addr} {o : HO} (hp : H p = none) : Rel K cl g env S σ (upd H p o) := by
  refine ⟨R.toRelF.new hp, R.len, R.val, fun i ds e => ?_, R.ownd⟩
  obtain ⟨a, vs, e1, e2, r, q1, q2, q3⟩ := R.own i ds e
  exact ⟨a, vs, e1, by rw [upd_ne (ne_of_none e2 hp)]; exact e2, r, q1, q2, q3⟩
/-- a thing that is there, known to nobody, is locked -/
theorem RelF.lockOld (R : RelF K cl g S H) {p : Addr} {o : HO} (hp : H p = some o) (f1 : g.F p = none) (f2 : g.T p = none) (f3 : p ∉ g.mu) : RelF K cl (g.lock p o) S H := by
  refine ⟨fun b u e => ?_, R.prot, fun b => ?_, R.st, fun n ob a e1 e2 => (R.sto n ob a e1 e2).keep (g.lock_le f1) rfl, fun a ha => ?_, R.nd⟩
  · by_cases hb : b = p
    · subst hb
      have e' : upd g.F b o b = some u := e
      rw [upd_same] at e'
      rw [hp]; exact e'
    · have e' : upd g.F p o b = some u := e
      rw [upd_ne hb] at e'
      exact R.sub b u e'
  · by_cases hb : b = p
    · subst hb; exact .inr f2
    · show upd g.F p o b = none ∨ _
      rw [upd_ne hb]
      exact R.dis b
  · have hne : a ≠ p := fun z => f3 (z ▸ ha)
    show upd g.F p o a = none ∧ _
    rw [upd_ne hne]
    exact R.muF a ha
end
end DL

set_option Elab.async false
set_option linter.all false
set_option maxRecDepth 100000
set_option maxHeartbeats 1000000
set_option autoImplicit false
namespace DL
open PySem PySem.Spec PyProof.Rows L2

/-- the longest list, as the model has it -/
abbrev SZ : Nat := 16777216
theorem sz_eq : sizeLine = SZ := sizeLine_eq

def Res.bind {α β : Type} (r : Res (α × Store)) (k : α → Store → Res β) : Res β :=
  match r with
  | .ok (a, S) => k a S
  | .exc e S => .exc e S
  | .bad => .bad

section
variable (K : PySem.W.Frag) (cl : Nat → Addr) (W : WX)
/-- an error lies there -/
def ExR (g : G) (e : Ex) (cls : Value) (dd : Option Addr) : Prop :=
  cls = .ref (cl e.c) ∧ ∃ d vs, dd = some d ∧ g.F d = some (.xd (e.ks.zip vs)) ∧ e.ks.length = e.ds.length ∧ RpL K cl g e.ds vs
def Po {α : Type} (g : G) (env : Env) (σ : St) (P : α → Prop) : Res α → Prop
  | .ok a => P a
  | .exc e S' => ∀ g' H' cls dd, g.le g' → Rel K cl g' env S' σ H' → ExR K cl g' e cls dd → W cls dd σ H'
  | .bad => False
def okE (g : G) (env : Env) (σ : St) (Q : VK) : D × Store → Prop := fun p => ∀ g' H' v, g.le g' → Rel K cl g' env p.2 σ H' → Rp K cl g' p.1 v → Q v H'
def okT (g : G) (env : Env) (σ : St) (Q : Bool → Hp → Prop) : Bool × Store → Prop := fun p => ∀ g' H', g.le g' → Rel K cl g' env p.2 σ H' → Q p.1 H'
def okA (g : G) (env : Env) (σ : St) (Q : List V → Hp → Prop) : List D × Store → Prop := fun p => ∀ g' H' vs, g.le g' → Rel K cl g' env p.2 σ H' → RpL K cl g' p.1 vs → Q vs H'
/-- a list that nobody knows -/
structure Fresh (g : G) (env : Env) (σ : St) (H : Hp) (ds : List D) (a : Addr) (vs : List V) : Prop where
  at_ : H a = some (.lst vs)
  rp : RpL K cl g ds vs
  f : g.F a = none
  t : g.T a = none
  m : a ∉ g.mu
  o : ∀ (i : Nat) (es : List D), env[i]? = some (some (.own es)) → σ[i]? ≠ some (some (.ref a))
def okO (g : G) (env : Env) (σ : St) (Q : VK) : List D × Store → Prop := fun p => ∀ g' H' a vs, g.le g' → Rel K cl g' env p.2 σ H' → Fresh K cl g' env σ H' p.1 a vs → Q (.ref a) H'
end
/-- what is looked into -/
inductive Ct where
  | l (ds : List D)
  | t (ds : List D)
  | s (x : Str)
  | q (ns : List Int)
abbrev MO := Env → Store → Res (List D × Store)
/-- what is to be looked into later: a value, or the list that a name owns -/
inductive Lk where
  | val (d : D)
  | slot (i : Nat)
abbrev ML := Env → Store → Res (Lk × Store)
def LkR (K : PySem.W.Frag) (cl : Nat → Addr) (g : G) (σ : St) : Lk → V → Prop
  | .val d, v => Rp K cl g d v
  | .slot i, v => σ[i]? = some (some v)
def CtR (K : PySem.W.Frag) (cl : Nat → Addr) (g : G) (H : Hp) : Ct → V → Prop
  | .l ds, v => ∃ a vs, v = .ref a ∧ H a = some (.lst vs) ∧ RpL K cl g ds vs
  | .t ds, v => ∃ a vs, v = .ref a ∧ SqT K H a vs ∧ RpL K cl g ds vs
  | .s x, v => v = .str x
  | .q ns, v => ∃ a, v = .ref a ∧ SqL K H a (ns.map V.int)
section
variable (K : PySem.W.Frag) (cl : Nat → Addr) (W : WX)
def okB (g : G) (env : Env) (σ : St) (Q : VK) : Lk × Store → Prop := fun p => ∀ g' H' v, g.le g' → Rel K cl g' env p.2 σ H' → LkR K cl g' σ p.1 v → Q v H'
def upE (m : ME) : TE := fun σ H Q => ∃ g env S, Rel K cl g env S σ H ∧ Po K cl W g env σ (okE K cl g env σ Q) (m env S)
def upT (m : MT) : TT := fun σ H Q => ∃ g env S, Rel K cl g env S σ H ∧ Po K cl W g env σ (okT K cl g env σ Q) (m env S)
def upA (m : MA) : TA := fun σ H Q => ∃ g env S, Rel K cl g env S σ H ∧ Po K cl W g env σ (okA K cl g env σ Q) (m env S)
def upO (m : MO) : TE := fun σ H Q => ∃ g env S, Rel K cl g env S σ H ∧ Po K cl W g env σ (okO K cl g env σ Q) (m env S)
def upB (m : ML) : TE := fun σ H Q => ∃ g env S, Rel K cl g env S σ H ∧ Po K cl W g env σ (okB K cl g env σ Q) (m env S)
end
def RE (X : Cx) (cl : Nat → Addr) (W : WX) (e : Expr) (m : ME) : Prop := PE X e (upE X.K cl W m)
def RT (X : Cx) (cl : Nat → Addr) (W : WX) (e : Expr) (m : MT) : Prop := PT X e (upT X.K cl W m)
def RW (X : Cx) (cl : Nat → Addr) (W : WX) (e : Expr) (m : MT) : Prop := PW X e (upT X.K cl W m)
def RA (X : Cx) (cl : Nat → Addr) (W : WX) (es : List Expr) (m : MA) : Prop := PA X es (upA X.K cl W m)
def RO (X : Cx) (cl : Nat → Addr) (W : WX) (e : Expr) (m : MO) : Prop := PE X e (upO X.K cl W m)
def RB (X : Cx) (cl : Nat → Addr) (W : WX) (e : Expr) (m : ML) : Prop := PE X e (upB X.K cl W m)

theorem peW {X : Cx} {e : Expr} {t t' : TE} (h : PE X e t) (k : ∀ σ H Q, t' σ H Q → t σ H Q) : PE X e t' := ⟨fun pins s σ H Q I q => h.run pins s σ H Q I (k σ H Q q)⟩
theorem ptW {X : Cx} {e : Expr} {t t' : TT} (h : PT X e t) (k : ∀ σ H Q, t' σ H Q → t σ H Q) : PT X e t' := ⟨fun pins s σ H Q I q => h.run pins s σ H Q I (k σ H Q q)⟩
theorem pwW {X : Cx} {e : Expr} {t t' : TT} (h : PW X e t) (k : ∀ σ H Q, t' σ H Q → t σ H Q) : PW X e t' := ⟨fun wh pins s σ H Q I q => h.run wh pins s σ H Q I (k σ H Q q)⟩
theorem paW {X : Cx} {es : List Expr} {t t' : TA} (h : PA X es t) (k : ∀ σ H Q, t' σ H Q → t σ H Q) : PA X es t' := ⟨fun pos pins s σ H Q I q => h.run pos pins s σ H Q I (k σ H Q q)⟩

section
variable {K : PySem.W.Frag} {cl : Nat → Addr} {W : WX} {g g1 : G} {env : Env} {S : Store} {σ : St} {H : Hp}
theorem Po.up {α : Type} {P P' : α → Prop} {r : Res α} (h : Po K cl W g env σ P r) (le : g.le g1) (k : ∀ a, P a → P' a) : Po K cl W g1 env σ P' r := by
  cases r with
  | ok a => exact k a h
  | exc e S' => exact fun g' H' c d l R x => h g' H' c d (le.trans l) R x
  | bad => exact h
theorem okE.up {Q : VK} {p : D × Store} (h : okE K cl g env σ Q p) (le : g.le g1) : okE K cl g1 env σ Q p := fun g' H' v l R r => h g' H' v (le.trans l) R r
theorem okT.up {Q : Bool → Hp → Prop} {p : Bool × Store} (h : okT K cl g env σ Q p) (le : g.le g1) : okT K cl g1 env σ Q p := fun g' H' l R => h g' H' (le.trans l) R
theorem okA.up {Q : List V → Hp → Prop} {p : List D × Store} (h : okA K cl g env σ Q p) (le : g.le g1) : okA K cl g1 env σ Q p := fun g' H' v l R r => h g' H' v (le.trans l) R r
theorem okO.up {Q : VK} {p : List D × Store} (h : okO K cl g env σ Q p) (le : g.le g1) : okO K cl g1 env σ Q p := fun g' H' a vs l R r => h g' H' a vs (le.trans l) R r
theorem okB.up {Q : VK} {p : Lk × Store} (h : okB K cl g env σ Q p) (le : g.le g1) : okB K cl g1 env σ Q p := fun g' H' v l R r => h g' H' v (le.trans l) R r
theorem poE {Q : VK} {r : Res (D × Store)} (h : Po K cl W g env σ (okE K cl g env σ Q) r) (le : g.le g1) : Po K cl W g1 env σ (okE K cl g1 env σ Q) r := h.up le fun _ x => x.up le
theorem poT {Q : Bool → Hp → Prop} {r : Res (Bool × Store)} (h : Po K cl W g env σ (okT K cl g env σ Q) r) (le : g.le g1) : Po K cl W g1 env σ (okT K cl g1 env σ Q) r := h.up le fun _ x => x.up le
theorem poA {Q : List V → Hp → Prop} {r : Res (List D × Store)} (h : Po K cl W g env σ (okA K cl g env σ Q) r) (le : g.le g1) : Po K cl W g1 env σ (okA K cl g1 env σ Q) r := h.up le fun _ x => x.up le
theorem poO {Q : VK} {r : Res (List D × Store)} (h : Po K cl W g env σ (okO K cl g env σ Q) r) (le : g.le g1) : Po K cl W g1 env σ (okO K cl g1 env σ Q) r := h.up le fun _ x => x.up le
theorem poB {Q : VK} {r : Res (Lk × Store)} (h : Po K cl W g env σ (okB K cl g env σ Q) r) (le : g.le g1) : Po K cl W g1 env σ (okB K cl g1 env σ Q) r := h.up le fun _ x => x.up le

/-- one part, then the rest -/
theorem bindE {α : Type} {P : α → Prop} {ma : ME} {k : D → Store → Res α} (R : Rel K cl g env S σ H) (h : Po K cl W g env σ P ((ma env S).bind k)) :
    upE K cl W ma σ H fun v H1 => ∃ g1 S1 d, g.le g1 ∧ Rel K cl g1 env S1 σ H1 ∧ Rp K cl g1 d v ∧ Po K cl W g env σ P (k d S1) := by
  refine ⟨g, env, S, R, ?_⟩
  cases e : ma env S with
  | ok p => rw [e] at h; exact fun g' H' v le R' r => ⟨g', p.2, p.1, le, R', r, h⟩
  | exc x S' => rw [e] at h; exact h
  | bad => rw [e] at h; exact h
theorem bindT {α : Type} {P : α → Prop} {ma : MT} {k : Bool → Store → Res α} (R : Rel K cl g env S σ H) (h : Po K cl W g env σ P ((ma env S).bind k)) :
    upT K cl W ma σ H fun b H1 => ∃ g1 S1, g.le g1 ∧ Rel K cl g1 env S1 σ H1 ∧ Po K cl W g env σ P (k b S1) := by
  refine ⟨g, env, S, R, ?_⟩
  cases e : ma env S with
  | ok p => rw [e] at h; exact fun g' H' le R' => ⟨g', p.2, le, R', h⟩
  | exc x S' => rw [e] at h; exact h
  | bad => rw [e] at h; exact h
theorem bindA {α : Type} {P : α → Prop} {ma : MA} {k : List D → Store → Res α} (R : Rel K cl g env S σ H) (h : Po K cl W g env σ P ((ma env S).bind k)) :
    upA K cl W ma σ H fun vs H1 => ∃ g1 S1 ds, g.le g1 ∧ Rel K cl g1 env S1 σ H1 ∧ RpL K cl g1 ds vs ∧ Po K cl W g env σ P (k ds S1) := by
  refine ⟨g, env, S, R, ?_⟩
  cases e : ma env S with
  | ok p => rw [e] at h; exact fun g' H' v le R' r => ⟨g', p.2, p.1, le, R', r, h⟩
  | exc x S' => rw [e] at h; exact h
  | bad => rw [e] at h; exact h
theorem bindO {α : Type} {P : α → Prop} {ma : MO} {k : List D → Store → Res α} (R : Rel K cl g env S σ H) (h : Po K cl W g env σ P ((ma env S).bind k)) :
    upO K cl W ma σ H fun v H1 => ∃ g1 S1 ds a vs, v = .ref a ∧ g.le g1 ∧ Rel K cl g1 env S1 σ H1 ∧ Fresh K cl g1 env σ H1 ds a vs ∧ Po K cl W g env σ P (k ds S1) := by
  refine ⟨g, env, S, R, ?_⟩
  cases e : ma env S with
  | ok p => rw [e] at h; exact fun g' H' a vs le R' r => ⟨g', p.2, p.1, a, vs, rfl, le, R', r, h⟩
  | exc x S' => rw [e] at h; exact h
  | bad => rw [e] at h; exact h
theorem bindB {α : Type} {P : α → Prop} {ma : ML} {k : Lk → Store → Res α} (R : Rel K cl g env S σ H) (h : Po K cl W g env σ P ((ma env S).bind k)) :
    upB K cl W ma σ H fun v H1 => ∃ g1 S1 c, g.le g1 ∧ Rel K cl g1 env S1 σ H1 ∧ LkR K cl g1 σ c v ∧ Po K cl W g env σ P (k c S1) := by
  refine ⟨g, env, S, R, ?_⟩
  cases e : ma env S with
  | ok p => rw [e] at h; exact fun g' H' v le R' r => ⟨g', p.2, p.1, le, R', r, h⟩
  | exc x S' => rw [e] at h; exact h
  | bad => rw [e] at h; exact h
end

/-! ### names, constants -/
def mC (d : D) : ME := fun _ S => .ok (d, S)
def mV (i : Nat) : ME := fun env S => match env[i]? with
  | some (some (.val d)) => .ok (d, S)
  | _ => .bad
section
variable {X : Cx} {cl : Nat → Addr} {W : WX} {pos : Pos}
theorem re_of_c {e : Expr} {v : V} {d : D} (h : PE X e (tC v)) (hr : ∀ g, Rp X.K cl g d v) : RE X cl W e (mC d) :=
  peW h fun σ H Q ⟨g, env, S, R, q⟩ => q g H v (G.le.refl g) R (hr g)
theorem re_int {i j} : RE X cl W (.Constant (.int i) j pos) (mC (.int i)) := re_of_c pe_int fun _ => .int _
theorem re_bl {b j} : RE X cl W (.Constant (.bool b) j pos) (mC (.bl b)) := re_of_c pe_bl fun _ => .bl _
theorem re_non {j} : RE X cl W (.Constant .none j pos) (mC .non) := re_of_c pe_non fun _ => .non
theorem re_str {x j} : RE X cl W (.Constant (.str x) j pos) (mC (.str x)) := re_of_c pe_str fun _ => .str _
theorem re_globI {x : Str} {i : Int} {t : Tok} (hg : Gl X x) (hm : X.mg x = some (.int i t)) (hd : (x == ("__debug__" : Str)) = false := by decide) : RE X cl W (.Name x pos) (mC (.int i)) :=
  re_of_c (pe_glob hg hm (v := .int i) ⟨_, rfl⟩ hd) fun _ => .int _
theorem re_of_v {e : Expr} (i : Nat) (h : PE X e (tVar i)) : RE X cl W e (mV i) := peW h fun σ H Q ⟨g, env, S, R, q⟩ => by
  unfold mV at q
  split at q
  · rename_i d e
    obtain ⟨v, e1, r⟩ := R.val i d e
    exact ⟨v, e1, q g H v (G.le.refl g) R r⟩
  · exact q.elim
theorem re_v (i : Nat) {x : Str} (hN : X.N[i]? = some x := by rfl) (hv : Vis X.env.scope x := by first | exact Or.inl rfl | exact Or.inr (Or.inl rfl) | exact Or.inr (Or.inr rfl)) (hd : (x == ("__debug__" : Str)) = false := by decide)
    (hcd : (x == ("__classdict__" : Str)) = false := by decide) : RE X cl W (.Name x pos) (mV i) := re_of_v i (pe_var hN hv hd hcd)
end

/-! ### looking into -/
def ctOf (S : Store) : D → Option Ct
  | .lst ds => some (.l ds)
  | .tup ds => some (.t ds)
  | .str x => some (.s x)
  | .scr ns => some (.q ns)
  | .loc n => match S[n]? with
    | some (.lst ds) => some (.l ds)
    | _ => none
  | _ => none
def ctL (env : Env) (S : Store) : Lk → Option Ct
  | .val d => ctOf S d
  | .slot i => match env[i]? with
    | some (some (.own ds)) => some (.l ds)
    | _ => none
def mLV (m : ME) : ML := fun env S => (m env S).bind fun d S1 => .ok (.val d, S1)
def mLO (i : Nat) : ML := fun env S => match env[i]? with
  | some (some (.own _)) => .ok (.slot i, S)
  | _ => .bad
section
variable {K : PySem.W.Frag} {cl : Nat → Addr} {W : WX} {g g1 : G} {env : Env} {S : Store} {σ : St} {H : Hp}
theorem ct_of (R : RelF K cl g S H) {d : D} {v : V} {c : Ct} (r : Rp K cl g d v) (e : ctOf S d = some c) : CtR K cl g H c v := by
  cases r with
  | non => cases e
  | bl b => cases e
  | int i => cases e
  | str x => cases e; rfl
  | tup h1 h2 => cases e; exact ⟨_, _, rfl, DL.Same.seqT R.sub h1, h2⟩
  | lst h1 h2 => cases e; exact ⟨_, _, rfl, R.sub _ _ h1, h2⟩
  | scr h1 => cases e; exact ⟨_, rfl, L2.Same.seq R.sub h1⟩
  | @loc n a h1 =>
    simp only [ctOf] at e
    split at e
    · rename_i ds q
      cases e
      obtain ⟨vs, x, y⟩ := R.sto n _ _ q h1
      exact ⟨a, vs, rfl, x, y⟩
    · cases e
  | ins h1 h2 h3 => cases e
  | dct h1 h2 h3 => cases e
end
section
variable {X : Cx} {cl : Nat → Addr} {W : WX} {pos : Pos} {e : Expr}
theorem rb_v {m : ME} (h : RE X cl W e m) : RB X cl W e (mLV m) := peW h fun σ H Q ⟨g, env, S, R, q⟩ => by
  obtain ⟨g0, env0, S0, R0, p0⟩ := bindE (K := X.K) R q
  refine ⟨g0, env0, S0, R0, p0.up (G.le.refl _) fun p hp => ?_⟩
  intro g' H' v l R' r
  obtain ⟨g1, S1, d, le, R1, r1, q1⟩ := hp g' H' v l R' r
  exact q1 g1 H' v le R1 r1
theorem rb_o (i : Nat) {x : Str} (hN : X.N[i]? = some x := by rfl) (hv : Vis X.env.scope x := by first | exact Or.inl rfl | exact Or.inr (Or.inl rfl) | exact Or.inr (Or.inr rfl)) (hd : (x == ("__debug__" : Str)) = false := by decide)
    (hcd : (x == ("__classdict__" : Str)) = false := by decide) : RB X cl W (.Name x pos) (mLO i) := peW (pe_var hN hv hd hcd) fun σ H Q ⟨g, env, S, R, q⟩ => by
  unfold mLO at q
  split at q
  · rename_i ds e
    obtain ⟨a, vs, e1, _⟩ := R.own i ds e
    exact ⟨_, e1, q g H _ (G.le.refl g) R e1⟩
  · exact q.elim
/-- a fresh list is locked -/
def mF (m : MO) : ME := fun env S => (m env S).bind fun ds S1 => .ok (.lst ds, S1)
theorem Fresh.lock {K : PySem.W.Frag} {g : G} {env : Env} {S : Store} {σ : St} {H : Hp} {ds : List D} {a : Addr} {vs : List V} (R : Rel K cl g env S σ H) (f : Fresh K cl g env σ H ds a vs) :
    g.le (g.lock a (.lst vs)) ∧ Rel K cl (g.lock a (.lst vs)) env S σ H ∧ Rp K cl (g.lock a (.lst vs)) (.lst ds) (.ref a) := by
  have le := g.lock_le (o := .lst vs) f.f
  refine ⟨le, ⟨R.toRelF.lockOld f.at_ f.f f.t f.m, R.len, fun i d e => ?_, fun i es e => ?_, R.ownd⟩, .lst upd_same (RpL.up le _ _ f.rp)⟩
  · obtain ⟨v, e1, r⟩ := R.val i d e
    exact ⟨v, e1, Rp.up le _ _ r⟩
  · obtain ⟨b, us, e1, e2, r, q1, q2, q3⟩ := R.own i es e
    have hne : b ≠ a := fun z => f.o i es e (z ▸ e1)
    refine ⟨b, us, e1, e2, RpL.up le _ _ r, ?_, q2, q3⟩
    show upd g.F a _ b = none
    rw [upd_ne hne]
    exact q1
theorem ct_late {K : PySem.W.Frag} {g : G} {env : Env} {S : Store} {σ : St} {H : Hp} (R : Rel K cl g env S σ H) {k : Lk} {v : V} {c : Ct} (r : LkR K cl g σ k v) (e : ctL env S k = some c) : CtR K cl g H c v := by
  cases k with
  | val d => exact ct_of R.toRelF r e
  | slot i =>
    simp only [ctL] at e
    split at e
    · rename_i ds q
      cases e
      obtain ⟨a, vs, e1, e2, r1, _⟩ := R.own i ds q
      have e3 : σ[i]? = some (some v) := r
      rw [e1] at e3
      cases e3
      exact ⟨a, vs, rfl, e2, r1⟩
    · cases e
theorem LkR.up {K : PySem.W.Frag} {g g' : G} {σ : St} (le : g.le g') {k : Lk} {v : V} (r : LkR K cl g σ k v) : LkR K cl g' σ k v := by
  cases k with
  | val d => exact Rp.up le _ _ r
  | slot i => exact r
theorem re_f {m : MO} (h : RO X cl W e m) : RE X cl W e (mF m) := peW h fun σ H Q ⟨g, env, S, R, q⟩ => by
  obtain ⟨g0, env0, S0, R0, p0⟩ := bindO (K := X.K) R q
  refine ⟨g0, env0, S0, R0, p0.up (G.le.refl _) fun p hp => ?_⟩
  intro g' H' a vs l R' r
  obtain ⟨g1, S1, ds, a1, vs1, ev, le, R1, f1, q1⟩ := hp g' H' a vs l R' r
  cases ev
  obtain ⟨l2, R2, r2⟩ := f1.lock R1
  exact q1 _ H' _ (le.trans l2) R2 r2
theorem rb_f {m : MO} (h : RO X cl W e m) : RB X cl W e (mLV (mF m)) := rb_v (re_f h)
end
end DL

set_option Elab.async false
set_option linter.all false
set_option maxRecDepth 100000
set_option maxHeartbeats 1000000
set_option autoImplicit false
namespace DL
open PySem PySem.Spec PyProof.Rows L2

/-! ### data that == tells apart as they are -/
mutual
def D.py : D → PyData
  | .non => .none
  | .bl b => .bool b
  | .int i => .int i
  | .str x => .str x
  | .tup xs => .tuple (D.pys xs)
  | .lst xs => .list (D.pys xs)
  | .scr _ => .none
  | .dct _ => .none
  | .loc _ => .none
  | .ins _ _ _ => .none
def D.pys : List D → List PyData
  | [] => []
  | d :: ds => D.py d :: D.pys ds
end
mutual
/-- no bool within, no object; texts as they are; at most n deep -/
def D.eqk : Nat → D → Bool
  | _, .non => true
  | _, .bl _ => false
  | _, .int _ => true
  | _, .str x => PyData.strOk x
  | 0, .tup _ => false
  | n + 1, .tup xs => D.eqks n xs
  | 0, .lst _ => false
  | n + 1, .lst xs => D.eqks n xs
  | _, .scr _ => false
  | _, .dct _ => false
  | _, .loc _ => false
  | _, .ins _ _ _ => false
def D.eqks : Nat → List D → Bool
  | _, [] => true
  | n, d :: ds => D.eqk n d && D.eqks n ds
end
theorem D.eqks_all (n : Nat) : ∀ ds : List D, D.eqks n ds = ds.all (D.eqk n)
  | [] => by simp [D.eqks]
  | d :: ds => by simp [D.eqks, D.eqks_all n ds]
mutual
theorem D.lay : ∀ (n : Nat) (d : D), d.eqk n = true → d.py.canLay0 = true ∧ d.py.depth ≤ n
  | n, .non, _ => by simp [D.py, PyData.canLay0, PyData.depth]
  | n, .bl b, h => by simp [D.eqk] at h
  | n, .int i, _ => by simp [D.py, PyData.canLay0, PyData.depth]
  | n, .str x, h => by
    simp only [D.eqk] at h
    simp [D.py, PyData.canLay0, PyData.depth, h]
  | 0, .tup xs, h => by simp [D.eqk] at h
  | n + 1, .tup xs, h => by
    simp only [D.eqk] at h
    have := D.lays n xs h
    simp only [D.py, PyData.canLay0, PyData.depth]
    exact ⟨this.1, by omega⟩
  | 0, .lst xs, h => by simp [D.eqk] at h
  | n + 1, .lst xs, h => by
    simp only [D.eqk] at h
    have := D.lays n xs h
    simp only [D.py, PyData.canLay0, PyData.depth]
    exact ⟨this.1, by omega⟩
  | n, .scr _, h => by simp [D.eqk] at h
  | n, .dct _, h => by simp [D.eqk] at h
  | n, .loc _, h => by simp [D.eqk] at h
  | n, .ins _ _ _, h => by simp [D.eqk] at h
theorem D.lays : ∀ (n : Nat) (ds : List D), D.eqks n ds = true → PyData.canLayAll0 (D.pys ds) = true ∧ PyData.depthAll (D.pys ds) ≤ n
  | n, [], _ => by simp [D.pys, PyData.canLayAll0, PyData.depthAll]
  | n, d :: ds, h => by
    simp only [D.eqks, Bool.and_eq_true] at h
    have h1 := D.lay n d h.1
    have h2 := D.lays n ds h.2
    simp only [D.pys, PyData.canLayAll0, PyData.depthAll, Bool.and_eq_true]
    exact ⟨⟨h1.1, h2.1⟩, Nat.max_le.mpr ⟨h1.2, h2.2⟩⟩
end
mutual
theorem D.eqv : ∀ (n m : Nat) (a b : D), a.eqk n = true → b.eqk m = true → PyData.eqv a.py b.py = D.beq a b
  | n, m, .non, b, _, hb => by cases b <;> simp [D.eqk] at hb <;> simp [D.py, PyData.eqv, D.beq]
  | n, m, .bl _, b, ha, _ => by simp [D.eqk] at ha
  | n, m, .int i, b, _, hb => by
    cases b with
    | int j => simp only [D.py, PyData.eqv, D.beq]; rw [Bool.eq_iff_iff]; simp
    | bl _ => simp [D.eqk] at hb
    | scr _ => simp [D.eqk] at hb
    | dct _ => simp [D.eqk] at hb
    | loc _ => simp [D.eqk] at hb
    | ins _ _ _ => simp [D.eqk] at hb
    | _ => simp [D.py, PyData.eqv, D.beq]
  | n, m, .str x, b, _, hb => by
    cases b with
    | str y => simp only [D.py, PyData.eqv, D.beq]; rw [Bool.eq_iff_iff]; simp
    | bl _ => simp [D.eqk] at hb
    | scr _ => simp [D.eqk] at hb
    | dct _ => simp [D.eqk] at hb
    | loc _ => simp [D.eqk] at hb
    | ins _ _ _ => simp [D.eqk] at hb
    | _ => simp [D.py, PyData.eqv, D.beq]
  | 0, m, .tup xs, b, ha, _ => by simp [D.eqk] at ha
  | n + 1, m, .tup xs, b, ha, hb => by
    cases b with
    | tup ys =>
      cases m with
      | zero => simp [D.eqk] at hb
      | succ m =>
        simp only [D.eqk] at ha hb
        simp only [D.py, PyData.eqv, D.beq]
        exact D.eqvs n m xs ys ha hb
    | bl _ => simp [D.eqk] at hb
    | scr _ => simp [D.eqk] at hb
    | dct _ => simp [D.eqk] at hb
    | loc _ => simp [D.eqk] at hb
    | ins _ _ _ => simp [D.eqk] at hb
    | _ => simp [D.py, PyData.eqv, D.beq]
  | 0, m, .lst xs, b, ha, _ => by simp [D.eqk] at ha
  | n + 1, m, .lst xs, b, ha, hb => by
    cases b with
    | lst ys =>
      cases m with
      | zero => simp [D.eqk] at hb
      | succ m =>
        simp only [D.eqk] at ha hb
        simp only [D.py, PyData.eqv, D.beq]
        exact D.eqvs n m xs ys ha hb
    | bl _ => simp [D.eqk] at hb
    | scr _ => simp [D.eqk] at hb
    | dct _ => simp [D.eqk] at hb
    | loc _ => simp [D.eqk] at hb
    | ins _ _ _ => simp [D.eqk] at hb
    | _ => simp [D.py, PyData.eqv, D.beq]
  | n, m, .scr _, b, ha, _ => by simp [D.eqk] at ha
  | n, m, .dct _, b, ha, _ => by simp [D.eqk] at ha
  | n, m, .loc _, b, ha, _ => by simp [D.eqk] at ha
  | n, m, .ins _ _ _, b, ha, _ => by simp [D.eqk] at ha
theorem D.eqvs : ∀ (n m : Nat) (as bs : List D), D.eqks n as = true → D.eqks m bs = true → PyData.eqvAll (D.pys as) (D.pys bs) = D.beqs as bs
  | n, m, [], bs, _, _ => by cases bs <;> simp [D.pys, PyData.eqvAll, D.beqs]
  | n, m, a :: as, [], _, _ => by simp [D.pys, PyData.eqvAll, D.beqs]
  | n, m, a :: as, b :: bs, ha, hb => by
    simp only [D.eqks, Bool.and_eq_true] at ha hb
    simp only [D.pys, PyData.eqvAll, D.beqs]
    rw [D.eqv n m a b ha.1 hb.1, D.eqvs n m as bs ha.2 hb.2]
end
theorem D.beq_dec (a b : D) : D.beq a b = decide (a = b) := by
  rw [Bool.eq_iff_iff, D.beq_iff]
  simp
theorem D.shaped {n : Nat} {d : D} (h : d.eqk n = true) (hn : n ≤ 64) : SeqAt.shaped d.py = true := by
  have h1 := D.lay n d h
  unfold SeqAt.shaped
  rw [Bool.and_eq_true]
  exact ⟨h1.1, decide_eq_true (by omega)⟩
theorem D.pys_map : ∀ ds : List D, D.pys ds = ds.map D.py
  | [] => rfl
  | d :: ds => by rw [D.pys, List.map_cons, D.pys_map ds]
theorem D.any_eqv (n m : Nat) (x : D) (hx : x.eqk m = true) : ∀ ds : List D, D.eqks n ds = true → ((D.pys ds).any fun y => PyData.eqv y x.py) = decide (x ∈ ds)
  | [], _ => by simp [D.pys]
  | d :: ds, h => by
    simp only [D.eqks, Bool.and_eq_true] at h
    rw [D.pys, List.any_cons, D.eqv n m d x h.1 hx, D.any_eqv n m x hx ds h.2, D.beq_dec, Bool.eq_iff_iff, Bool.or_eq_true, decide_eq_true_iff, decide_eq_true_iff, decide_eq_true_iff, List.mem_cons]
    exact ⟨fun h => h.imp Eq.symm id, fun h => h.imp Eq.symm id⟩
section
variable {K : PySem.W.Frag} {cl : Nat → Addr} {g : G} {H : Hp}
mutual
theorem Rp.dp (sub : Same g.F H) : ∀ (n : Nat) (d : D) (v : V), d.eqk n = true → Rp K cl g d v → Dp K H v d.py
  | _, .non, _, _, r => by cases r; exact .non
  | _, .bl b, _, h, r => by simp [D.eqk] at h
  | _, .int i, _, _, r => by cases r; exact .int i
  | _, .str x, _, _, r => by cases r; exact .str x
  | 0, .tup ds, _, h, _ => by simp [D.eqk] at h
  | n + 1, .tup ds, _, h, r => by
    simp only [D.eqk] at h
    cases r with
    | tup h1 h2 => exact .tup (DL.Same.seqT sub h1) (RpL.dp sub n ds _ h h2)
  | 0, .lst ds, _, h, _ => by simp [D.eqk] at h
  | n + 1, .lst ds, _, h, r => by
    simp only [D.eqk] at h
    cases r with
    | lst h1 h2 => exact .lst (SqL.of (sub _ _ h1)) (RpL.dp sub n ds _ h h2)
  | _, .scr _, _, h, _ => by simp [D.eqk] at h
  | _, .dct _, _, h, _ => by simp [D.eqk] at h
  | _, .loc _, _, h, _ => by simp [D.eqk] at h
  | _, .ins _ _ _, _, h, _ => by simp [D.eqk] at h
theorem RpL.dp (sub : Same g.F H) : ∀ (n : Nat) (ds : List D) (vs : List V), D.eqks n ds = true → RpL K cl g ds vs → DpAll K H vs (D.pys ds)
  | _, [], _, _, r => by cases r; exact .nil
  | n, d :: ds, _, h, r => by
    simp only [D.eqks, Bool.and_eq_true] at h
    cases r with
    | cons h1 h2 => exact .cons (Rp.dp sub n d _ h.1 h1) (RpL.dp sub n ds _ h.2 h2)
end
end

/-! ### operators on values -/
section
variable (K : PySem.W.Frag) (cl : Nat → Addr) (W : WX)
/-- the reading of an operator's rule serves a function on data -/
def Fits (r : R2) (f : D → D → Store → Res (D × Store)) : Prop := ∀ (g : G) (env : Env) (S : Store) (σ : St) (H : Hp) (x y : D) (v u : V) (Q : VK), Rel K cl g env S σ H → Rp K cl g x v → Rp K cl g y u →
  Po K cl W g env σ (okE K cl g env σ Q) (f x y S) → r v u H Q
/-- .. of a comparison -/
def FitsC (r : R2) (c : D → D → Option Bool) : Prop := ∀ (g : G) (S : Store) (H : Hp) (x y : D) (v u : V) (k : Bool) (Q : VK), RelF K cl g S H → Rp K cl g x v → Rp K cl g y u → c x y = some k → Q (.bl k) H → r v u H Q
end
section
variable {K : PySem.W.Frag} {cl : Nat → Addr} {W : WX}
theorem upE.imp {m : ME} {σ : St} {H : Hp} {Q Q' : VK} (h : upE K cl W m σ H Q) (k : ∀ v H', Q v H' → Q' v H') : upE K cl W m σ H Q' := by
  obtain ⟨g, env, S, R, q⟩ := h
  exact ⟨g, env, S, R, q.up (G.le.refl _) fun p hp g' H' v l R r => k _ _ (hp g' H' v l R r)⟩
theorem upT.imp {m : MT} {σ : St} {H : Hp} {Q Q' : Bool → Hp → Prop} (h : upT K cl W m σ H Q) (k : ∀ v H', Q v H' → Q' v H') : upT K cl W m σ H Q' := by
  obtain ⟨g, env, S, R, q⟩ := h
  exact ⟨g, env, S, R, q.up (G.le.refl _) fun p hp g' H' l R => k _ _ (hp g' H' l R)⟩
theorem upA.imp {m : MA} {σ : St} {H : Hp} {Q Q' : List V → Hp → Prop} (h : upA K cl W m σ H Q) (k : ∀ v H', Q v H' → Q' v H') : upA K cl W m σ H Q' := by
  obtain ⟨g, env, S, R, q⟩ := h
  exact ⟨g, env, S, R, q.up (G.le.refl _) fun p hp g' H' v l R r => k _ _ (hp g' H' v l R r)⟩
theorem upO.imp {m : MO} {σ : St} {H : Hp} {Q Q' : VK} (h : upO K cl W m σ H Q) (k : ∀ v H', Q v H' → Q' v H') : upO K cl W m σ H Q' := by
  obtain ⟨g, env, S, R, q⟩ := h
  exact ⟨g, env, S, R, q.up (G.le.refl _) fun p hp g' H' a vs l R r => k _ _ (hp g' H' a vs l R r)⟩
theorem upB.imp {m : ML} {σ : St} {H : Hp} {Q Q' : VK} (h : upB K cl W m σ H Q) (k : ∀ v H', Q v H' → Q' v H') : upB K cl W m σ H Q' := by
  obtain ⟨g, env, S, R, q⟩ := h
  exact ⟨g, env, S, R, q.up (G.le.refl _) fun p hp g' H' v l R r => k _ _ (hp g' H' v l R r)⟩
end
def mOp (f : D → D → Store → Res (D × Store)) (ma mb : ME) : ME := fun env S => (ma env S).bind fun x S1 => (mb env S1).bind fun y S2 => f x y S2
def mCmp (c : D → D → Option Bool) (ma mb : ME) : ME := fun env S => (ma env S).bind fun x S1 => (mb env S1).bind fun y S2 => match c x y with
  | some k => .ok (.bl k, S2)
  | none => .bad
def mCmpT (c : D → D → Option Bool) (ma mb : ME) : MT := fun env S => (ma env S).bind fun x S1 => (mb env S1).bind fun y S2 => match c x y with
  | some k => .ok (k, S2)
  | none => .bad
def mChain (c c' : D → D → Option Bool) (ma mb mc : ME) : ME := fun env S => (ma env S).bind fun x S1 => (mb env S1).bind fun y S2 => match c x y with
  | some true => (mc env S2).bind fun z S3 => match c' y z with
    | some k => .ok (.bl k, S3)
    | none => .bad
  | some false => .ok (.bl false, S2)
  | none => .bad
def mChainT (c c' : D → D → Option Bool) (ma mb mc : ME) : MT := fun env S => (ma env S).bind fun x S1 => (mb env S1).bind fun y S2 => match c x y with
  | some true => (mc env S2).bind fun z S3 => match c' y z with
    | some k => .ok (k, S3)
    | none => .bad
  | some false => .ok (false, S2)
  | none => .bad
section
variable {X : Cx} {cl : Nat → Addr} {W : WX} {pos : Pos} {a b c : Expr} {ma mb mc : ME}
theorem re_op {op : Operator} {r : R2} {f : D → D → Store → Res (D × Store)} (ho : OpR X (binaryOp op) r) (hf : Fits X.K cl W r f) (ha : RE X cl W a ma) (hb : RE X cl W b mb) : RE X cl W (.BinOp a op b pos) (mOp f ma mb) :=
  peW (pe_op ho ha hb) fun σ H Q ⟨g, env, S, R, q⟩ =>
    (bindE R q).imp fun v H1 ⟨g1, S1, d, l1, R1, r1, q1⟩ => (bindE R1 (poE q1 l1)).imp fun u H2 ⟨g2, S2, e, l2, R2, r2, q2⟩ =>
      hf g2 env S2 σ H2 d e v u Q R2 (Rp.up l2 _ _ r1) r2 (poE q2 l2)
theorem fitsC_E {r : R2} {k : D → D → Option Bool} (hf : FitsC X.K cl r k) : Fits X.K cl W r (fun x y S => match k x y with
    | some b => .ok (.bl b, S)
    | none => .bad) := fun g env S σ H x y v u Q R r1 r2 q => by
  dsimp only at q
  split at q
  · rename_i b e
    exact hf g S H x y v u b Q R.toRelF r1 r2 e (q g H _ (G.le.refl g) R (.bl b))
  · exact q.elim
theorem re_cmp {op : CmpOp} {r : R2} {k : D → D → Option Bool} (ho : OpR X (compareOp op) r) (hf : FitsC X.K cl r k) (ha : RE X cl W a ma) (hb : RE X cl W b mb) (hm : behindInMarks op b = false) : RE X cl W (.Compare a [op] [b] pos) (mCmp k ma mb) :=
  peW (pe_cmpR ho ha hb hm) fun σ H Q ⟨g, env, S, R, q⟩ =>
    (bindE R q).imp fun v H1 ⟨g1, S1, d, l1, R1, r1, q1⟩ => (bindE R1 (poE q1 l1)).imp fun u H2 ⟨g2, S2, e, l2, R2, r2, q2⟩ =>
      fitsC_E hf g2 env S2 σ H2 d e v u Q R2 (Rp.up l2 _ _ r1) r2 (poE q2 l2)
theorem rt_cmp {op : CmpOp} {r : R2} {k : D → D → Option Bool} (ho : OpR X (compareOp op) r) (hf : FitsC X.K cl r k) (ha : RE X cl W a ma) (hb : RE X cl W b mb) (hm : behindInMarks op b = false) : RT X cl W (.Compare a [op] [b] pos) (mCmpT k ma mb) :=
  ptW (pt_cmpR ho ha hb hm) fun σ H Q ⟨g, env, S, R, q⟩ =>
    (bindE R q).imp fun v H1 ⟨g1, S1, d, l1, R1, r1, q1⟩ => (bindE R1 (poT q1 l1)).imp fun u H2 ⟨g2, S2, e, l2, R2, r2, q2⟩ => by
      split at q2
      · rename_i b eb
        exact hf g2 S2 H2 d e v u b _ R2.toRelF (Rp.up l2 _ _ r1) r2 eb ⟨b, rfl, poT q2 l2 g2 H2 (G.le.refl _) R2⟩
      · exact q2.elim
theorem re_chain {op op' : CmpOp} {r r' : R2} {k k' : D → D → Option Bool} (ho : OpR X (compareOp op) r) (hf : FitsC X.K cl r k) (ho' : OpR X (compareOp op') r') (hf' : FitsC X.K cl r' k') (ha : RE X cl W a ma) (hb : RE X cl W b mb) (hc : RE X cl W c mc)
    (hm : lastMarks [op, op'] [b, c] = false := by with_unfolding_all rfl) : RE X cl W (.Compare a [op, op'] [b, c] pos) (mChain k k' ma mb mc) :=
  peW (pe_chain ho ho' ha hb hc hm) fun σ H Q ⟨g, env, S, R, q⟩ =>
    (bindE R q).imp fun v H1 ⟨g1, S1, d, l1, R1, r1, q1⟩ => (bindE R1 (poE q1 l1)).imp fun u H2 ⟨g2, S2, e, l2, R2, r2, q2⟩ => by
      have q2 := poE q2 l2
      split at q2
      · rename_i eb
        exact hf g2 S2 H2 d e v u true _ R2.toRelF (Rp.up l2 _ _ r1) r2 eb ⟨true, rfl, iteT ((bindE R2 q2).imp fun w H3 ⟨g3, S3, z, l3, R3, r3, q3⟩ =>
          fitsC_E hf' g3 env S3 σ H3 e z u w Q R3 (Rp.up l3 _ _ r2) r3 (poE q3 l3))⟩
      · rename_i eb
        exact hf g2 S2 H2 d e v u false _ R2.toRelF (Rp.up l2 _ _ r1) r2 eb ⟨false, rfl, iteF (q2 g2 H2 _ (G.le.refl _) R2 (.bl false))⟩
      · exact q2.elim
theorem rt_chain {op op' : CmpOp} {r r' : R2} {k k' : D → D → Option Bool} (ho : OpR X (compareOp op) r) (hf : FitsC X.K cl r k) (ho' : OpR X (compareOp op') r') (hf' : FitsC X.K cl r' k') (ha : RE X cl W a ma) (hb : RE X cl W b mb) (hc : RE X cl W c mc)
    (hm : lastMarks [op, op'] [b, c] = false := by with_unfolding_all rfl) : RT X cl W (.Compare a [op, op'] [b, c] pos) (mChainT k k' ma mb mc) :=
  ptW (pt_chain ho ho' ha hb hc hm) fun σ H Q ⟨g, env, S, R, q⟩ =>
    (bindE R q).imp fun v H1 ⟨g1, S1, d, l1, R1, r1, q1⟩ => (bindE R1 (poT q1 l1)).imp fun u H2 ⟨g2, S2, e, l2, R2, r2, q2⟩ => by
      have q2 := poT q2 l2
      split at q2
      · rename_i eb
        refine hf g2 S2 H2 d e v u true _ R2.toRelF (Rp.up l2 _ _ r1) r2 eb ⟨true, rfl, iteT ((bindE R2 q2).imp fun w H3 ⟨g3, S3, z, l3, R3, r3, q3⟩ => ?_)⟩
        split at q3
        · rename_i b ec
          exact hf' g3 S3 H3 e z u w b _ R3.toRelF (Rp.up l3 _ _ r2) r3 ec ⟨b, rfl, poT q3 l3 g3 H3 (G.le.refl _) R3⟩
        · exact q3.elim
      · rename_i eb
        exact hf g2 S2 H2 d e v u false _ R2.toRelF (Rp.up l2 _ _ r1) r2 eb ⟨false, rfl, iteF ⟨false, rfl, q2 g2 H2 (G.le.refl _) R2⟩⟩
      · exact q2.elim
end

theorem lm_of {op op' : CmpOp} (b c : Expr) (_ : Unit) (h1 : op' ≠ .In) (h2 : op' ≠ .NotIn) : lastMarks [op, op'] [b, c] = false := nobehind c h1 h2
/-! ### the operators -/
def cLt : D → D → Option Bool
  | .int i, .int j => some (decide (i < j))
  | .str i, .str j => some (decide (i.cps.toList < j.cps.toList))
  | _, _ => none
def cLe : D → D → Option Bool
  | .int i, .int j => some (decide (i ≤ j))
  | .str i, .str j => some (!decide (j.cps.toList < i.cps.toList))
  | _, _ => none
def cGt : D → D → Option Bool
  | .int i, .int j => some (decide (j < i))
  | _, _ => none
def cGe : D → D → Option Bool
  | .int i, .int j => some (decide (j ≤ i))
  | _, _ => none
def cEq (x y : D) : Option Bool := match x, y with
  | .bl a, .bl b => some (decide (a = b))
  | .str a, .str b => some (decide (a = b))
  | x, y => if x.eqk 64 = true ∧ y.eqk 64 = true then some (decide (x = y)) else none
def cNe (x y : D) : Option Bool := (cEq x y).map (!·)
def cIsN : D → D → Option Bool := fun x y => match y with
  | .non => some (decide (x = .non))
  | _ => none
def cNotN : D → D → Option Bool := fun x y => (cIsN x y).map (!·)
section
variable {X : Cx} {cl : Nat → Addr} {W : WX}
theorem fit_lt : FitsC X.K cl (fun x y H Q => rI0 (fun i j => .bl (decide (i < j))) x y H Q ∨ ∃ i j, x = .str i ∧ y = .str j ∧ Q (.bl (decide (i.cps.toList < j.cps.toList))) H) cLt := by
  intro g S H x y v u k Q R r1 r2 e q
  cases r1 <;> cases r2 <;> simp only [cLt, Option.some.injEq, reduceCtorEq] at e
  · subst e; exact .inl ⟨_, _, rfl, rfl, q⟩
  · subst e; exact .inr ⟨_, _, rfl, rfl, q⟩
theorem fit_le : FitsC X.K cl (fun x y H Q => rI0 (fun i j => .bl (decide (i ≤ j))) x y H Q ∨ ∃ i j, x = .str i ∧ y = .str j ∧ Q (.bl (!decide (j.cps.toList < i.cps.toList))) H) cLe := by
  intro g S H x y v u k Q R r1 r2 e q
  cases r1 <;> cases r2 <;> simp only [cLe, Option.some.injEq, reduceCtorEq] at e
  · subst e; exact .inl ⟨_, _, rfl, rfl, q⟩
  · subst e; exact .inr ⟨_, _, rfl, rfl, q⟩
theorem fit_gt : FitsC X.K cl (rI0 fun i j => .bl (decide (j < i))) cGt := by
  intro g S H x y v u k Q R r1 r2 e q
  cases r1 <;> cases r2 <;> simp only [cGt, Option.some.injEq, reduceCtorEq] at e
  subst e; exact ⟨_, _, rfl, rfl, q⟩
theorem fit_ge : FitsC X.K cl (rI0 fun i j => .bl (decide (j ≤ i))) cGe := by
  intro g S H x y v u k Q R r1 r2 e q
  cases r1 <;> cases r2 <;> simp only [cGe, Option.some.injEq, reduceCtorEq] at e
  subst e; exact ⟨_, _, rfl, rfl, q⟩
theorem cEq_cases {x y : D} {k : Bool} (e : cEq x y = some k) : (∃ a b, x = .bl a ∧ y = .bl b ∧ k = decide (a = b)) ∨ (∃ a b, x = .str a ∧ y = .str b ∧ k = decide (a = b)) ∨ (x.eqk 64 = true ∧ y.eqk 64 = true ∧ k = decide (x = y)) := by
  unfold cEq at e
  split at e
  · cases e; exact .inl ⟨_, _, rfl, rfl, rfl⟩
  · cases e; exact .inr (.inl ⟨_, _, rfl, rfl, rfl⟩)
  · split at e
    · rename_i h
      cases e; exact .inr (.inr ⟨h.1, h.2, rfl⟩)
    · cases e
theorem fit_eq : FitsC X.K cl (fun x y H Q => rEq x y H Q ∨ rEqD X.K x y H Q) cEq := by
  intro g S H x y v u k Q R r1 r2 e q
  rcases cEq_cases e with ⟨a, b, rfl, rfl, rfl⟩ | ⟨a, b, rfl, rfl, rfl⟩ | ⟨h1, h2, rfl⟩
  · cases r1; cases r2
    exact .inl ⟨rfl, by simpa using q⟩
  · cases r1; cases r2
    exact .inl ⟨rfl, by simpa using q⟩
  · refine .inr ⟨x.py, y.py, Rp.dp R.sub 64 _ _ h1 r1, Rp.dp R.sub 64 _ _ h2 r2, D.shaped h1 (Nat.le_refl _), D.shaped h2 (Nat.le_refl _), ?_⟩
    rw [D.eqv 64 64 x y h1 h2, D.beq_dec]
    exact q
theorem fit_ne : FitsC X.K cl (fun x y H Q => rNe x y H Q ∨ rNeD X.K x y H Q) cNe := by
  intro g S H x y v u k Q R r1 r2 e q
  unfold cNe at e
  obtain ⟨k', e', rfl⟩ := Option.map_eq_some_iff.mp e
  rcases cEq_cases e' with ⟨a, b, rfl, rfl, rfl⟩ | ⟨a, b, rfl, rfl, rfl⟩ | ⟨h1, h2, rfl⟩
  · cases r1; cases r2
    exact .inl ⟨rfl, by simpa using q⟩
  · cases r1; cases r2
    exact .inl ⟨rfl, by simpa using q⟩
  · refine .inr ⟨x.py, y.py, Rp.dp R.sub 64 _ _ h1 r1, Rp.dp R.sub 64 _ _ h2 r2, D.shaped h1 (Nat.le_refl _), D.shaped h2 (Nat.le_refl _), ?_⟩
    rw [D.eqv 64 64 x y h1 h2, D.beq_dec]
    exact q
theorem Rp.non_iff {K : PySem.W.Frag} {g : G} {x : D} {v : V} (r : Rp K cl g x v) : decide (v = .non) = decide (x = .non) := by
  cases r <;> simp
theorem fit_isN : FitsC X.K cl (fun x y H Q => y = .non ∧ Q (.bl (decide (x = .non))) H) cIsN := by
  intro g S H x y v u k Q R r1 r2 e q
  cases r2 <;> simp only [cIsN, Option.some.injEq, reduceCtorEq] at e
  subst e
  exact ⟨rfl, by rw [r1.non_iff]; exact q⟩
theorem fit_notN : FitsC X.K cl (fun x y H Q => y = .non ∧ Q (.bl (!decide (x = .non))) H) cNotN := by
  intro g S H x y v u k Q R r1 r2 e q
  cases r2 <;> simp only [cNotN, cIsN, Option.map_some, Option.map_none, Option.some.injEq, reduceCtorEq] at e
  subst e
  exact ⟨rfl, by rw [r1.non_iff]; exact q⟩
end
/-! arithmetic -/
def fAdd (x y : D) (S : Store) : Res (D × Store) := match x, y with
  | .int i, .int j => .ok (.int (i + j), S)
  | .str a, .str b => if a.length + b.length ≤ SZ then .ok (.str (a ++ b), S) else .bad
  | .tup a, .tup b => if a.length + b.length ≤ SZ then .ok (.tup (a ++ b), S) else .bad
  | _, _ => .bad
def fSub (x y : D) (S : Store) : Res (D × Store) := match x, y with
  | .int i, .int j => .ok (.int (i - j), S)
  | _, _ => .bad
def fMul (x y : D) (S : Store) : Res (D × Store) := match x, y with
  | .int i, .int j => if i.natAbs.log2 + j.natAbs.log2 < 1000000 then .ok (.int (i * j), S) else .bad
  | _, _ => .bad
def fDiv (x y : D) (S : Store) : Res (D × Store) := match x, y with
  | .int i, .int j => if 0 < j ∧ j.natAbs.log2 < 9000 then .ok (.int (i / j), S) else .bad
  | _, _ => .bad
def fMod (x y : D) (S : Store) : Res (D × Store) := match x, y with
  | .int i, .int j => if 0 < j then .ok (.int (i % j), S) else .bad
  | _, _ => .bad
def fPow (x y : D) (S : Store) : Res (D × Store) := match x, y with
  | .int i, .int j => if 0 ≤ j ∧ j ≤ 1000000 ∧ i.natAbs < 2 ^ 64 then .ok (.int (i ^ j.toNat), S) else .bad
  | _, _ => .bad
section
variable {X : Cx} {cl : Nat → Addr} {W : WX}
theorem RpL.nil_iff {K : PySem.W.Frag} {g : G} {ds : List D} {vs : List V} (r : RpL K cl g ds vs) : vs = [] ↔ ds = [] := by
  cases r <;> simp
theorem fit_add : Fits X.K cl W (fun x y H Q => rI0 (fun i j => .int (i + j)) x y H Q ∨ (∃ i j, x = .str i ∧ y = .str j ∧ i.length + j.length ≤ sizeLine ∧ Q (.str (i ++ j)) H) ∨ rCatA X.K x y H Q) fAdd := by
  intro g env S σ H x y v u Q R r1 r2 q
  cases r1 <;> cases r2 <;> simp only [fAdd] at q <;> first
    | exact q.elim
    | skip
  · exact .inl ⟨_, _, rfl, rfl, q g H _ (G.le.refl g) R (.int _)⟩
  · split at q
    · rename_i h
      exact .inr (.inl ⟨_, _, rfl, rfl, by rw [sz_eq]; exact h, q g H _ (G.le.refl g) R (.str _)⟩)
    · exact q.elim
  · rename_i a ds vs h1 h2 b es us k1 k2
    split at q
    · rename_i h
      have e1 := h2.length
      have e2 := k2.length
      refine .inr (.inr ⟨a, b, vs, us, rfl, rfl, DL.Same.seqT R.sub h1, DL.Same.seqT R.sub k1, by rw [sz_eq]; omega, fun z => ?_, fun z z2 => ?_, fun z z2 p hp => ?_⟩)
      · have : ds = [] := h2.nil_iff.mp z
        subst this
        exact q g H _ (G.le.refl g) R (.tup k1 k2)
      · have : es = [] := k2.nil_iff.mp z2
        subst this
        rw [List.append_nil] at q
        exact q g H _ (G.le.refl g) R (.tup h1 h2)
      · have le := g.lock_le (o := .tup (vs ++ us)) (R.toRelF.free hp).1
        exact q _ _ _ le (R.lockNew hp) (.tup (SqT.of upd_same) ((RpL.up le _ _ h2).app (RpL.up le _ _ k2)))
    · exact q.elim
theorem fit_sub : Fits X.K cl W (rI0 fun i j => .int (i - j)) fSub := by
  intro g env S σ H x y v u Q R r1 r2 q
  cases r1 <;> cases r2 <;> simp only [fSub] at q <;> first
    | exact q.elim
    | exact ⟨_, _, rfl, rfl, q g H _ (G.le.refl g) R (.int _)⟩
theorem fit_mul : Fits X.K cl W (rI CMulW fun i j => .int (i * j)) fMul := by
  intro g env S σ H x y v u Q R r1 r2 q
  cases r1 <;> cases r2 <;> simp only [fMul] at q <;> first
    | exact q.elim
    | (split at q
       · rename_i h
         exact ⟨_, _, rfl, rfl, h, q g H _ (G.le.refl g) R (.int _)⟩
       · exact q.elim)
theorem fit_div : Fits X.K cl W (rI CDivW fun i j => .int (i / j)) fDiv := by
  intro g env S σ H x y v u Q R r1 r2 q
  cases r1 <;> cases r2 <;> simp only [fDiv] at q <;> first
    | exact q.elim
    | (split at q
       · rename_i h
         exact ⟨_, _, rfl, rfl, h, q g H _ (G.le.refl g) R (.int _)⟩
       · exact q.elim)
theorem fit_mod : Fits X.K cl W (rI (fun _ j => 0 < j) fun i j => .int (i % j)) fMod := by
  intro g env S σ H x y v u Q R r1 r2 q
  cases r1 <;> cases r2 <;> simp only [fMod] at q <;> first
    | exact q.elim
    | (split at q
       · rename_i h
         exact ⟨_, _, rfl, rfl, h, q g H _ (G.le.refl g) R (.int _)⟩
       · exact q.elim)
theorem fit_pow : Fits X.K cl W (rI CPow fun i j => .int (i ^ j.toNat)) fPow := by
  intro g env S σ H x y v u Q R r1 r2 q
  cases r1 <;> cases r2 <;> simp only [fPow] at q <;> first
    | exact q.elim
    | (split at q
       · rename_i h
         exact ⟨_, _, rfl, rfl, h, q g H _ (G.le.refl g) R (.int _)⟩
       · exact q.elim)
variable {pos : Pos} {a b c : Expr} {ma mb mc : ME}
theorem re_add (ha : RE X cl W a ma) (hb : RE X cl W b mb) : RE X cl W (.BinOp a .Add b pos) (mOp fAdd ma mb) := re_op (op_add.or (op_add_str.or op_catA)) fit_add ha hb
theorem re_sub (ha : RE X cl W a ma) (hb : RE X cl W b mb) : RE X cl W (.BinOp a .Sub b pos) (mOp fSub ma mb) := re_op op_sub fit_sub ha hb
theorem re_mul (ha : RE X cl W a ma) (hb : RE X cl W b mb) : RE X cl W (.BinOp a .Mult b pos) (mOp fMul ma mb) := re_op op_mulW fit_mul ha hb
theorem re_div (ha : RE X cl W a ma) (hb : RE X cl W b mb) : RE X cl W (.BinOp a .FloorDiv b pos) (mOp fDiv ma mb) := re_op op_fdivW fit_div ha hb
theorem re_mod (ha : RE X cl W a ma) (hb : RE X cl W b mb) : RE X cl W (.BinOp a .Mod b pos) (mOp fMod ma mb) := re_op op_mod fit_mod ha hb
theorem re_pow (ha : RE X cl W a ma) (hb : RE X cl W b mb) : RE X cl W (.BinOp a .Pow b pos) (mOp fPow ma mb) := re_op op_pow fit_pow ha hb
theorem re_lt (ha : RE X cl W a ma) (hb : RE X cl W b mb) : RE X cl W (.Compare a [.Lt] [b] pos) (mCmp cLt ma mb) := re_cmp (op_lt.or op_lt_str) fit_lt ha hb (nomark _)
theorem re_le (ha : RE X cl W a ma) (hb : RE X cl W b mb) : RE X cl W (.Compare a [.LtE] [b] pos) (mCmp cLe ma mb) := re_cmp (op_le.or op_le_str) fit_le ha hb (nomark _)
theorem re_gt (ha : RE X cl W a ma) (hb : RE X cl W b mb) : RE X cl W (.Compare a [.Gt] [b] pos) (mCmp cGt ma mb) := re_cmp op_gt fit_gt ha hb (nomark _)
theorem re_ge (ha : RE X cl W a ma) (hb : RE X cl W b mb) : RE X cl W (.Compare a [.GtE] [b] pos) (mCmp cGe ma mb) := re_cmp op_ge fit_ge ha hb (nomark _)
theorem re_eq (hu : X.A.units + 65 < cLine) (ha : RE X cl W a ma) (hb : RE X cl W b mb) : RE X cl W (.Compare a [.Eq] [b] pos) (mCmp cEq ma mb) := re_cmp (op_eq.or (op_eqD (Nat.lt_of_succ_lt hu))) fit_eq ha hb (nomark _)
theorem re_ne (hu : X.A.units + 65 < cLine) (ha : RE X cl W a ma) (hb : RE X cl W b mb) : RE X cl W (.Compare a [.NotEq] [b] pos) (mCmp cNe ma mb) := re_cmp (op_ne.or (op_neD (Nat.lt_of_succ_lt hu))) fit_ne ha hb (nomark _)
theorem re_isN (ha : RE X cl W a ma) (hb : RE X cl W b mb) : RE X cl W (.Compare a [.Is] [b] pos) (mCmp cIsN ma mb) := re_cmp op_isN fit_isN ha hb (nomark _)
theorem re_notN (ha : RE X cl W a ma) (hb : RE X cl W b mb) : RE X cl W (.Compare a [.IsNot] [b] pos) (mCmp cNotN ma mb) := re_cmp op_notN fit_notN ha hb (nomark _)
theorem rt_lt (ha : RE X cl W a ma) (hb : RE X cl W b mb) : RT X cl W (.Compare a [.Lt] [b] pos) (mCmpT cLt ma mb) := rt_cmp (op_lt.or op_lt_str) fit_lt ha hb (nomark _)
theorem rt_le (ha : RE X cl W a ma) (hb : RE X cl W b mb) : RT X cl W (.Compare a [.LtE] [b] pos) (mCmpT cLe ma mb) := rt_cmp (op_le.or op_le_str) fit_le ha hb (nomark _)
theorem rt_gt (ha : RE X cl W a ma) (hb : RE X cl W b mb) : RT X cl W (.Compare a [.Gt] [b] pos) (mCmpT cGt ma mb) := rt_cmp op_gt fit_gt ha hb (nomark _)
theorem rt_ge (ha : RE X cl W a ma) (hb : RE X cl W b mb) : RT X cl W (.Compare a [.GtE] [b] pos) (mCmpT cGe ma mb) := rt_cmp op_ge fit_ge ha hb (nomark _)
theorem rt_eq (hu : X.A.units + 65 < cLine) (ha : RE X cl W a ma) (hb : RE X cl W b mb) : RT X cl W (.Compare a [.Eq] [b] pos) (mCmpT cEq ma mb) := rt_cmp (op_eq.or (op_eqD (Nat.lt_of_succ_lt hu))) fit_eq ha hb (nomark _)
theorem rt_ne (hu : X.A.units + 65 < cLine) (ha : RE X cl W a ma) (hb : RE X cl W b mb) : RT X cl W (.Compare a [.NotEq] [b] pos) (mCmpT cNe ma mb) := rt_cmp (op_ne.or (op_neD (Nat.lt_of_succ_lt hu))) fit_ne ha hb (nomark _)
theorem rt_isN (ha : RE X cl W a ma) (hb : RE X cl W b mb) : RT X cl W (.Compare a [.Is] [b] pos) (mCmpT cIsN ma mb) := rt_cmp op_isN fit_isN ha hb (nomark _)
theorem rt_notN (ha : RE X cl W a ma) (hb : RE X cl W b mb) : RT X cl W (.Compare a [.IsNot] [b] pos) (mCmpT cNotN ma mb) := rt_cmp op_notN fit_notN ha hb (nomark _)
theorem rt_ltle (ha : RE X cl W a ma) (hb : RE X cl W b mb) (hc : RE X cl W c mc) : RT X cl W (.Compare a [.Lt, .LtE] [b, c] pos) (mChainT cLt cLe ma mb mc) := rt_chain (op_lt.or op_lt_str) fit_lt (op_le.or op_le_str) fit_le ha hb hc (lm_of _ _ () (by decide) (by decide))
theorem rt_lelt (ha : RE X cl W a ma) (hb : RE X cl W b mb) (hc : RE X cl W c mc) : RT X cl W (.Compare a [.LtE, .Lt] [b, c] pos) (mChainT cLe cLt ma mb mc) := rt_chain (op_le.or op_le_str) fit_le (op_lt.or op_lt_str) fit_lt ha hb hc (lm_of _ _ () (by decide) (by decide))
theorem rt_ltlt (ha : RE X cl W a ma) (hb : RE X cl W b mb) (hc : RE X cl W c mc) : RT X cl W (.Compare a [.Lt, .Lt] [b, c] pos) (mChainT cLt cLt ma mb mc) := rt_chain (op_lt.or op_lt_str) fit_lt (op_lt.or op_lt_str) fit_lt ha hb hc (lm_of _ _ () (by decide) (by decide))
theorem rt_lele (ha : RE X cl W a ma) (hb : RE X cl W b mb) (hc : RE X cl W c mc) : RT X cl W (.Compare a [.LtE, .LtE] [b, c] pos) (mChainT cLe cLe ma mb mc) := rt_chain (op_le.or op_le_str) fit_le (op_le.or op_le_str) fit_le ha hb hc (lm_of _ _ () (by decide) (by decide))
theorem re_ltle (ha : RE X cl W a ma) (hb : RE X cl W b mb) (hc : RE X cl W c mc) : RE X cl W (.Compare a [.Lt, .LtE] [b, c] pos) (mChain cLt cLe ma mb mc) := re_chain (op_lt.or op_lt_str) fit_lt (op_le.or op_le_str) fit_le ha hb hc (lm_of _ _ () (by decide) (by decide))
theorem re_lelt (ha : RE X cl W a ma) (hb : RE X cl W b mb) (hc : RE X cl W c mc) : RE X cl W (.Compare a [.LtE, .Lt] [b, c] pos) (mChain cLe cLt ma mb mc) := re_chain (op_le.or op_le_str) fit_le (op_lt.or op_lt_str) fit_lt ha hb hc (lm_of _ _ () (by decide) (by decide))
theorem re_ltlt (ha : RE X cl W a ma) (hb : RE X cl W b mb) (hc : RE X cl W c mc) : RE X cl W (.Compare a [.Lt, .Lt] [b, c] pos) (mChain cLt cLt ma mb mc) := re_chain (op_lt.or op_lt_str) fit_lt (op_lt.or op_lt_str) fit_lt ha hb hc (lm_of _ _ () (by decide) (by decide))
theorem re_lele (ha : RE X cl W a ma) (hb : RE X cl W b mb) (hc : RE X cl W c mc) : RE X cl W (.Compare a [.LtE, .LtE] [b, c] pos) (mChain cLe cLe ma mb mc) := re_chain (op_le.or op_le_str) fit_le (op_le.or op_le_str) fit_le ha hb hc (lm_of _ _ () (by decide) (by decide))
end
/-- -a -/
def mNeg (m : ME) : ME := fun env S => (m env S).bind fun x S1 => match x with
  | .int i => .ok (.int (-i), S1)
  | _ => .bad
section
variable {X : Cx} {cl : Nat → Addr} {W : WX} {pos : Pos} {a : Expr} {ma : ME}
theorem re_neg (ha : RE X cl W a ma) : RE X cl W (.UnaryOp .USub a pos) (mNeg ma) := peW (pe_un un_neg ha) fun σ H Q ⟨g, env, S, R, q⟩ =>
  (bindE R q).imp fun v H1 ⟨g1, S1, d, l1, R1, r1, q1⟩ => by
    have q1 := poE q1 l1
    cases r1 <;> first
      | exact q1.elim
      | exact ⟨_, rfl, q1 g1 H1 _ (G.le.refl _) R1 (.int _)⟩
end
end DL

set_option Elab.async false
set_option linter.all false
set_option maxRecDepth 100000
set_option maxHeartbeats 1000000
set_option autoImplicit false
namespace DL
open PySem PySem.Spec PyProof.Rows L2

/-! ### truth -/
def truth (env : Env) (S : Store) (k : Lk) : Option Bool := match k with
  | .val .non => some false
  | .val (.bl b) => some b
  | .val (.int i) => some (i != 0)
  | k => match ctL env S k with
    | some (.l ds) => some (!ds.isEmpty)
    | some (.t ds) => some (!ds.isEmpty)
    | some (.s x) => if x.length ≤ SZ then some ((x.length : Int) != 0) else none
    | some (.q ns) => some (!ns.isEmpty)
    | none => none
section
variable {K : PySem.W.Frag} {cl : Nat → Addr} {g : G} {env : Env} {S : Store} {σ : St} {H : Hp}
theorem emp_eq {ds : List D} {vs : List V} (r : RpL K cl g ds vs) : (!vs.isEmpty) = !ds.isEmpty := by
  cases r <;> rfl
theorem truth_ct (R : Rel K cl g env S σ H) {k : Lk} {v : V} {b : Bool} {c : Ct} (r : LkR K cl g σ k v) (ec : ctL env S k = some c)
    (e : (match c with
      | (.l ds) => some (!ds.isEmpty)
      | (.t ds) => some (!ds.isEmpty)
      | (.s x) => if x.length ≤ SZ then some ((x.length : Int) != 0) else none
      | (.q ns) => some (!ns.isEmpty)) = some b) : TruV K v H b := by
  have h := ct_late R r ec
  cases c with
  | l ds =>
    obtain ⟨a, vs, rfl, h1, h2⟩ := h
    cases e
    exact .inl ⟨vs, SqL.of h1, (emp_eq h2).symm⟩
  | t ds =>
    obtain ⟨a, vs, rfl, h1, h2⟩ := h
    cases e
    exact .inr (.inl ⟨vs, h1, (emp_eq h2).symm⟩)
  | s x =>
    have h' : v = .str x := h
    subst h'
    dsimp only at e
    split at e
    · rename_i hz
      cases e
      exact ⟨by rw [sz_eq]; exact hz, rfl⟩
    · cases e
  | q ns =>
    obtain ⟨a, rfl, h1⟩ := h
    cases e
    exact .inl ⟨_, h1, by cases ns <;> rfl⟩
theorem truth_of (R : Rel K cl g env S σ H) {k : Lk} {v : V} {b : Bool} (r : LkR K cl g σ k v) (e : truth env S k = some b) : TruV K v H b := by
  unfold truth at e
  split at e
  · cases e; cases (show Rp K cl g .non v from r); rfl
  · cases e; cases (show Rp K cl g (.bl b) v from r); rfl
  · cases e; cases (show Rp K cl g (.int _) v from r); rfl
  · split at e
    · rename_i c ec
      exact truth_ct R r ec e
    · rename_i c ec
      exact truth_ct R r ec e
    · rename_i c ec
      exact truth_ct R r ec e
    · rename_i c ec
      exact truth_ct R r ec e
    · cases e
end
def mTru (m : ML) : MT := fun env S => (m env S).bind fun k S1 => match truth env S1 k with
  | some b => .ok (b, S1)
  | none => .bad
def mNotT (m : MT) : MT := fun env S => (m env S).bind fun b S1 => .ok (!b, S1)
def mAndT (m n : MT) : MT := fun env S => (m env S).bind fun b S1 => if b = true then n env S1 else .ok (false, S1)
def mOrT (m n : MT) : MT := fun env S => (m env S).bind fun b S1 => if b = true then .ok (true, S1) else n env S1
/-- a test as a value -/
def mBl (m : MT) : ME := fun env S => (m env S).bind fun b S1 => .ok (.bl b, S1)
def mAnd (m n : ME) : ME := fun env S => (m env S).bind fun x S1 => match truth env S1 (.val x) with
  | some true => n env S1
  | some false => .ok (x, S1)
  | none => .bad
def mOr (m n : ME) : ME := fun env S => (m env S).bind fun x S1 => match truth env S1 (.val x) with
  | some true => .ok (x, S1)
  | some false => n env S1
  | none => .bad
def mNot (m : ME) : ME := fun env S => (m env S).bind fun x S1 => match truth env S1 (.val x) with
  | some b => .ok (.bl (!b), S1)
  | none => .bad
def mIf (t : MT) (m n : ME) : ME := fun env S => (t env S).bind fun b S1 => if b = true then m env S1 else n env S1
section
variable {X : Cx} {cl : Nat → Addr} {W : WX} {pos : Pos} {a b c : Expr} {rest : List Expr} {ma mb mc : ME} {ta tb : MT} {ml : ML}
theorem rt_truB (ha : RB X cl W a ml) (he : ∀ whole, isTrue a X.env whole = (do let v ← whole; standAt a.pos; holding [v] (truthy v)) := by intro _; rfl) : RT X cl W a (mTru ml) :=
  ptW (pt_truth ha he) fun σ H Q ⟨g, env, S, R, q⟩ => (bindB R q).imp fun v H1 ⟨g1, S1, k, l1, R1, r1, q1⟩ => by
    have q1 := poT q1 l1
    split at q1
    · rename_i b e
      exact ⟨b, truth_of R1 r1 e, q1 g1 H1 (G.le.refl _) R1⟩
    · exact q1.elim
theorem rt_tru (ha : RE X cl W a ma) (he : ∀ whole, isTrue a X.env whole = (do let v ← whole; standAt a.pos; holding [v] (truthy v)) := by intro _; rfl) : RT X cl W a (mTru (mLV ma)) := rt_truB (rb_v ha) he
theorem rt_w (h : RW X cl W a ta) : RT X cl W a ta := PW.pt h
theorem rt_not (h : RT X cl W a ta) : RT X cl W (.UnaryOp .Not a pos) (mNotT ta) := ptW (pt_not h) fun σ H Q ⟨g, env, S, R, q⟩ =>
  (bindT R q).imp fun v H1 ⟨g1, S1, l1, R1, q1⟩ => q1 g1 H1 l1 R1
theorem rw_and1 (h : RT X cl W a ta) : RW X cl W (.BoolOp .And [a] pos) ta := pw_and1 h
theorem rw_or1 (h : RT X cl W a ta) : RW X cl W (.BoolOp .Or [a] pos) ta := pw_or1 h
theorem rw_and (h : RT X cl W a ta) (k : RW X cl W (.BoolOp .And (b :: rest) pos) tb) : RW X cl W (.BoolOp .And (a :: b :: rest) pos) (mAndT ta tb) := pwW (pw_and h k) fun σ H Q ⟨g, env, S, R, q⟩ =>
  (bindT R q).imp fun v H1 ⟨g1, S1, l1, R1, q1⟩ => by
    have q1 := poT q1 l1
    cases v with
    | true => exact iteT ⟨g1, env, S1, R1, q1⟩
    | false => exact iteF (q1 g1 H1 (G.le.refl _) R1)
theorem rw_or (h : RT X cl W a ta) (k : RW X cl W (.BoolOp .Or (b :: rest) pos) tb) : RW X cl W (.BoolOp .Or (a :: b :: rest) pos) (mOrT ta tb) := pwW (pw_or h k) fun σ H Q ⟨g, env, S, R, q⟩ =>
  (bindT R q).imp fun v H1 ⟨g1, S1, l1, R1, q1⟩ => by
    have q1 := poT q1 l1
    cases v with
    | true => exact iteT (q1 g1 H1 (G.le.refl _) R1)
    | false => exact iteF ⟨g1, env, S1, R1, q1⟩
/-- and, or, not as values -/
theorem re_one {op : BoolOp} (h : RE X cl W a ma) : RE X cl W (.BoolOp op [a] pos) ma := pe_one h
theorem re_and (h : RE X cl W a ma) (k : RE X cl W (.BoolOp .And (b :: rest) pos) mb) : RE X cl W (.BoolOp .And (a :: b :: rest) pos) (mAnd ma mb) := peW (pe_andT h k) fun σ H Q ⟨g, env, S, R, q⟩ =>
  (bindE R q).imp fun v H1 ⟨g1, S1, d, l1, R1, r1, q1⟩ => by
    have q1 := poE q1 l1
    split at q1
    · rename_i e
      exact ⟨true, truth_of R1 (k := .val d) r1 e, iteT ⟨g1, env, S1, R1, q1⟩⟩
    · rename_i e
      exact ⟨false, truth_of R1 (k := .val d) r1 e, iteF (q1 g1 H1 v (G.le.refl _) R1 r1)⟩
    · exact q1.elim
theorem re_or (h : RE X cl W a ma) (k : RE X cl W (.BoolOp .Or (b :: rest) pos) mb) : RE X cl W (.BoolOp .Or (a :: b :: rest) pos) (mOr ma mb) := peW (pe_orT h k) fun σ H Q ⟨g, env, S, R, q⟩ =>
  (bindE R q).imp fun v H1 ⟨g1, S1, d, l1, R1, r1, q1⟩ => by
    have q1 := poE q1 l1
    split at q1
    · rename_i e
      exact ⟨true, truth_of R1 (k := .val d) r1 e, iteT (q1 g1 H1 v (G.le.refl _) R1 r1)⟩
    · rename_i e
      exact ⟨false, truth_of R1 (k := .val d) r1 e, iteF ⟨g1, env, S1, R1, q1⟩⟩
    · exact q1.elim
theorem re_not (h : RE X cl W a ma) : RE X cl W (.UnaryOp .Not a pos) (mNot ma) := peW (pe_notT h) fun σ H Q ⟨g, env, S, R, q⟩ =>
  (bindE R q).imp fun v H1 ⟨g1, S1, d, l1, R1, r1, q1⟩ => by
    have q1 := poE q1 l1
    split at q1
    · rename_i b e
      exact ⟨b, truth_of R1 (k := .val d) r1 e, q1 g1 H1 _ (G.le.refl _) R1 (.bl _)⟩
    · exact q1.elim
theorem re_if (hc : RT X cl W c ta) (ha : RE X cl W a ma) (hb : RE X cl W b mb) : RE X cl W (.IfExp c a b pos) (mIf ta ma mb) := peW (pe_ifExp hc ha hb) fun σ H Q ⟨g, env, S, R, q⟩ =>
  (bindT R q).imp fun v H1 ⟨g1, S1, l1, R1, q1⟩ => by
    have q1 := poE q1 l1
    cases v with
    | true => exact iteT ⟨g1, env, S1, R1, q1⟩
    | false => exact iteF ⟨g1, env, S1, R1, q1⟩
def mIfO (t : MT) (m n : MO) : MO := fun env S => (t env S).bind fun b S1 => if b = true then m env S1 else n env S1
theorem ro_if {mo no : MO} (hc : RT X cl W c ta) (ha : RO X cl W a mo) (hb : RO X cl W b no) : RO X cl W (.IfExp c a b pos) (mIfO ta mo no) := peW (pe_ifExp hc ha hb) fun σ H Q ⟨g, env, S, R, q⟩ =>
  (bindT R q).imp fun v H1 ⟨g1, S1, l1, R1, q1⟩ => by
    have q1 := poO q1 l1
    cases v with
    | true => exact iteT ⟨g1, env, S1, R1, q1⟩
    | false => exact iteF ⟨g1, env, S1, R1, q1⟩
end

/-! ### argument lists, displays -/
def mNil : MA := fun _ S => .ok ([], S)
def mCons (m : ME) (ms : MA) : MA := fun env S => (m env S).bind fun d S1 => (ms env S1).bind fun ds S2 => .ok (d :: ds, S2)
/-- the items of a list or tuple -/
def itemsOf : Ct → Option (List D)
  | .l ds => some ds
  | .t ds => some ds
  | _ => none
def mStar (m : ML) (ms : MA) : MA := fun env S => (m env S).bind fun k S1 => match (ctL env S1 k).bind itemsOf with
  | some ds => (ms env S1).bind fun es S2 => .ok (ds ++ es, S2)
  | none => .bad
def mTup (m : MA) : ME := fun env S => (m env S).bind fun ds S1 => if ds.length ≤ SZ then .ok (.tup ds, S1) else .bad
def mLst (m : MA) : MO := fun env S => (m env S).bind fun ds S1 => if ds.length ≤ SZ then .ok (ds, S1) else .bad
section
variable {X : Cx}
/-- *e, e a list or a tuple -/
def tStarA (K : PySem.W.Frag) (te : TE) (t : TA) : TA := fun σ H Q => te σ H fun x H1 => ∃ a vs, x = .ref a ∧ (SqL K H1 a vs ∨ SqT K H1 a vs) ∧ t σ H1 fun us H2 => Q (vs ++ us) H2
theorem star_lst {pins : List (Addr × Obj)} {s : Shared} {σ : St} {H : Hp} {a : Addr} {xs : List V} {E : Value → Shared → Prop} {Q : List Value → Shared → Prop} (I : Inv X pins σ H s) (h : SqL X.K H a xs) (hQ : ∀ us s', Inv X pins σ H s' → Vals xs us → Q us s') :
    PySem.W.StarOf (model X.prog X.w) X.A E (.ref a) Q s := by
  obtain ⟨its, r, pl, hz⟩ := I.list h
  obtain ⟨o, ho, hc, n, hd⟩ := pl.isList
  have hl := r.length
  have collected : wpAny (model X.prog X.w) X.A (collect (.ref a)) Q E s := wpAny_collect_seq a (.inl rfl) ho hc hd (fun h' hk => by
    have e : its.toArray.toList = its := by simp
    rw [e]
    exact hQ its _ (I.kept (t' := s.toks) hk) r) (by rw [List.size_toArray]; omega)
  unfold PySem.W.StarOf notIterableAtAll
  exact wpAny_bind (wpAny_specialOf (show s.TypeIs (.ref a) "list" from ⟨o, ho, hc⟩) PySem.F.slot_list_iter.lookup (wpAny_pure ⟨rfl, collected⟩))
theorem pa_star {e : Expr} {p : Pos} {es : List Expr} {te : TE} {t : TA} (he : PE X e te) (hr : PA X es t) : PA X (.Starred e p :: es) (tStarA X.K te t) := by
  refine ⟨fun pos pins s σ H Q I h => ?_⟩
  show wpAny _ _ (spliced ((true, (do let v ← eval e X.env; standAt pos; pure v)) :: backTo pos (starEach es X.env))) _ _ s
  refine PySem.W.ks_spliced (thn (he.run pins s σ H _ I h) fun u s1 ⟨x, H1, I1, r1, a, vs, ex, hs, q⟩ => ?_)
  subst ex
  cases r1
  have go : ∀ us s', Inv X pins σ H1 s' → Vals vs us → wpAny (model X.prog X.w) X.A (spliced (backTo pos (starEach es X.env))) (fun ws s₃ => AP X pins σ Q (us ++ ws) s₃) X.xe s' := fun us s' I' r =>
    thn (hr.run pos pins s' σ H1 _ I' q) fun ws s2 ⟨xs, H2, I2, r2, q2⟩ => ⟨vs ++ xs, H2, I2, r.append r2, q2⟩
  rcases hs with hs | hs
  · exact star_lst I1 hs go
  · exact star_tup I1 hs go
end
section
variable {X : Cx} {cl : Nat → Addr} {W : WX} {pos : Pos} {e : Expr} {es : List Expr} {m : ME} {ms : MA}
theorem ra_nil : RA X cl W [] mNil := paW pa_nil fun σ H Q ⟨g, env, S, R, q⟩ => q g H [] (G.le.refl g) R .nil
theorem ra_cons (h : RE X cl W e m) (k : RA X cl W es ms) (hs : starEach (e :: es) X.env = (false, eval e X.env) :: starEach es X.env := by rfl) : RA X cl W (e :: es) (mCons m ms) := paW (pa_cons h k hs) fun σ H Q ⟨g, env, S, R, q⟩ =>
  (bindE R q).imp fun v H1 ⟨g1, S1, d, l1, R1, r1, q1⟩ => (bindA R1 (poA q1 l1)).imp fun vs H2 ⟨g2, S2, ds, l2, R2, r2, q2⟩ => q2 g2 H2 (v :: vs) l2 R2 (.cons (Rp.up l2 _ _ r1) r2)
theorem ra_star {p : Pos} {ml : ML} (h : RB X cl W e ml) (k : RA X cl W es ms) : RA X cl W (.Starred e p :: es) (mStar ml ms) := paW (pa_star h k) fun σ H Q ⟨g, env, S, R, q⟩ =>
  (bindB R q).imp fun v H1 ⟨g1, S1, k, l1, R1, r1, q1⟩ => by
    have q1 := poA q1 l1
    split at q1
    · rename_i ds ec
      obtain ⟨c, e1, e2⟩ := Option.bind_eq_some_iff.mp ec
      have hc := ct_late R1 r1 e1
      have fin : ∀ {vs : List V}, RpL X.K cl g1 ds vs → upA X.K cl W ms σ H1 fun us H2 => Q (vs ++ us) H2 := fun {vs} rv => (bindA R1 q1).imp fun us H2 ⟨g2, S2, es', l2, R2, r2, q2⟩ => q2 g2 H2 _ l2 R2 ((RpL.up l2 _ _ rv).app r2)
      cases c with
      | l xs => cases e2; obtain ⟨a, vs, rfl, h1, h2⟩ := hc; exact ⟨a, vs, rfl, .inl (SqL.of h1), fin h2⟩
      | t xs => cases e2; obtain ⟨a, vs, rfl, h1, h2⟩ := hc; exact ⟨a, vs, rfl, .inr h1, fin h2⟩
      | s x => cases e2
      | q ns => cases e2
    · exact q1.elim
theorem re_tup {x1} (h : RA X cl W es ms) : RE X cl W (.Tuple es x1 pos) (mTup ms) := peW (pe_tup h) fun σ H Q ⟨g, env, S, R, q⟩ =>
  (bindA R q).imp fun vs H1 ⟨g1, S1, ds, l1, R1, r1, q1⟩ => by
    have q1 := poE q1 l1
    split at q1
    · rename_i hz
      refine ⟨by rw [sz_eq, ← r1.length]; exact hz, fun p hp => ?_⟩
      have le := g1.lock_le (o := .tup vs) (R1.toRelF.free hp).1
      exact q1 _ _ _ le (R1.lockNew hp) (.tup (SqT.of upd_same) (RpL.up le _ _ r1))
    · exact q1.elim
theorem fresh_new {K : PySem.W.Frag} {g : G} {env : Env} {S : Store} {σ : St} {H : Hp} {ds : List D} {vs : List V} {p : Addr} (R : Rel K cl g env S σ H) (r : RpL K cl g ds vs) (hp : H p = none) :
    Rel K cl g env S σ (upd H p (.lst vs)) ∧ Fresh K cl g env σ (upd H p (.lst vs)) ds p vs := by
  obtain ⟨f1, f2, f3⟩ := R.toRelF.free hp
  refine ⟨R.new hp, upd_same, r, f1, f2, f3, fun i es e z => ?_⟩
  obtain ⟨a, us, e1, e2, _⟩ := R.own i es e
  rw [e1] at z
  cases z
  rw [hp] at e2; cases e2
theorem ro_lst (h : RA X cl W es ms) : RO X cl W (.List es pos) (mLst ms) := peW (pe_lst h) fun σ H Q ⟨g, env, S, R, q⟩ =>
  (bindA R q).imp fun vs H1 ⟨g1, S1, ds, l1, R1, r1, q1⟩ => by
    have q1 := poO q1 l1
    split at q1
    · rename_i hz
      refine ⟨by rw [sz_eq, ← r1.length]; exact hz, fun p hp => ?_⟩
      obtain ⟨R2, f2⟩ := fresh_new R1 r1 hp
      exact q1 _ _ _ _ (G.le.refl _) R2 f2
    · exact q1.elim
end

/-! ### x in c -/
def inCt (c : Ct) (x : D) : Option Bool := match c with
  | .l ds => if x.eqk 64 = true ∧ D.eqks 63 ds = true then some (decide (x ∈ ds)) else none
  | .t ds => if x.eqk 64 = true ∧ D.eqks 63 ds = true then some (decide (x ∈ ds)) else none
  | .s z => match x with
    | .str y => match y.cps.toList with
      | [c] => some (decide (c ∈ z.cps.toList))
      | _ => none
    | _ => none
  | .q _ => none
def mIn (neg : Bool) (ma : ME) (mb : ML) : MT := fun env S => (ma env S).bind fun x S1 => (mb env S1).bind fun k S2 => match (ctL env S2 k).bind fun c => inCt c x with
  | some b => .ok (b != neg, S2)
  | none => .bad
def mInE (ma : ME) (mb : ML) : ME := fun env S => (ma env S).bind fun x S1 => (mb env S1).bind fun k S2 => match (ctL env S2 k).bind fun c => inCt c x with
  | some b => .ok (.bl b, S2)
  | none => .bad
section
variable {X : Cx}
def rInT (K : PySem.W.Frag) : R2 := fun x y H Q => ∃ d ds, Dp K H x d ∧ Dp K H y (.tuple ds) ∧ SeqAt.shaped d = true ∧ SeqAt.shaped (.tuple ds) = true ∧ Q (.bl (ds.any fun z => PyData.eqv z d)) H
def rNotInT (K : PySem.W.Frag) : R2 := fun x y H Q => ∃ d ds, Dp K H x d ∧ Dp K H y (.tuple ds) ∧ SeqAt.shaped d = true ∧ SeqAt.shaped (.tuple ds) = true ∧ Q (.bl (!ds.any fun z => PyData.eqv z d)) H
theorem op_inT (hu : X.A.units + 65 < cLine) : OpR X (compareOp .In) (rInT X.K) := fun pins s σ H x y v u Q I rx ry ⟨d, ds, hd, he, sd, se, q⟩ =>
  let ⟨_, r1⟩ := Dp.reads I d x v hd rx
  let ⟨_, r2⟩ := Dp.reads I (.tuple ds) y u he ry
  SeqAt.in_tuple_reads r2 r1 (SeqAt.canLay_of_shaped se) (SeqAt.canLay_of_shaped sd) (room_in_shaped sd hu) ⟨.bl _, H, I, rfl, q⟩
theorem op_notInT (hu : X.A.units + 65 < cLine) : OpR X (compareOp .NotIn) (rNotInT X.K) := fun pins s σ H x y v u Q I rx ry ⟨d, ds, hd, he, sd, se, q⟩ =>
  let ⟨_, r1⟩ := Dp.reads I d x v hd rx
  let ⟨_, r2⟩ := Dp.reads I (.tuple ds) y u he ry
  SeqAt.notIn_tuple_reads r2 r1 (SeqAt.canLay_of_shaped se) (SeqAt.canLay_of_shaped sd) (room_in_shaped sd hu) ⟨.bl _, H, I, rfl, q⟩
end
section
variable {K : PySem.W.Frag} {cl : Nat → Addr}
def rIn3 (K : PySem.W.Frag) : R2 := fun x y H Q => rInD K x y H Q ∨ rInT K x y H Q ∨ ∃ (c : Nat) (z : Str), x = .str ⟨#[c]⟩ ∧ y = .str z ∧ Q (.bl (decide (c ∈ z.cps.toList))) H
def rNotIn3 (K : PySem.W.Frag) : R2 := fun x y H Q => rNotInD K x y H Q ∨ rNotInT K x y H Q ∨ ∃ (c : Nat) (z : Str), x = .str ⟨#[c]⟩ ∧ y = .str z ∧ Q (.bl (!decide (c ∈ z.cps.toList))) H
theorem str_one {y : Str} {c : Nat} (h : y.cps.toList = [c]) : y = ⟨#[c]⟩ := by
  obtain ⟨a⟩ := y
  have : a = #[c] := Array.ext' h
  rw [this]
theorem in_ok {g : G} {S : Store} {H : Hp} {x : D} {v u : V} {c : Ct} {b : Bool} {Q : VK} (R : RelF K cl g S H) (r1 : Rp K cl g x v) (hc : CtR K cl g H c u) (e : inCt c x = some b) (q : Q (.bl b) H) : rIn3 K v u H Q := by
  unfold inCt at e
  split at e
  · split at e
    · rename_i ds h
      cases e
      obtain ⟨a, vs, rfl, h1, h2⟩ := hc
      refine .inl ⟨x.py, D.pys ds, Rp.dp R.sub 64 _ _ h.1 r1, .lst (SqL.of h1) (RpL.dp R.sub 63 _ _ h.2 h2), D.shaped h.1 (Nat.le_refl _), D.shaped (d := .lst ds) (n := 64) (by simpa [D.eqk] using h.2) (Nat.le_refl _), ?_⟩
      rw [D.any_eqv 63 64 x h.1 ds h.2]
      exact q
    · cases e
  · split at e
    · rename_i ds h
      cases e
      obtain ⟨a, vs, rfl, h1, h2⟩ := hc
      refine .inr (.inl ⟨x.py, D.pys ds, Rp.dp R.sub 64 _ _ h.1 r1, .tup h1 (RpL.dp R.sub 63 _ _ h.2 h2), D.shaped h.1 (Nat.le_refl _), D.shaped (d := .tup ds) (n := 64) (by simpa [D.eqk] using h.2) (Nat.le_refl _), ?_⟩)
      rw [D.any_eqv 63 64 x h.1 ds h.2]
      exact q
    · cases e
  · split at e
    · split at e
      · rename_i y c ec
        cases e
        cases r1
        have hc' : u = .str _ := hc
        exact .inr (.inr ⟨c, _, by rw [str_one ec], hc', q⟩)
      · cases e
    · cases e
  · cases e
theorem notIn_ok {g : G} {S : Store} {H : Hp} {x : D} {v u : V} {c : Ct} {b : Bool} {Q : VK} (R : RelF K cl g S H) (r1 : Rp K cl g x v) (hc : CtR K cl g H c u) (e : inCt c x = some b) (q : Q (.bl (!b)) H) : rNotIn3 K v u H Q := by
  rcases in_ok (Q := fun w H' => ∃ k, w = .bl k ∧ Q (.bl (!k)) H') R r1 hc e ⟨b, rfl, q⟩ with ⟨d, ds, h1, h2, h3, h4, k, e1, q1⟩ | ⟨d, ds, h1, h2, h3, h4, k, e1, q1⟩ | ⟨c, z, h1, h2, k, e1, q1⟩
  · cases e1; exact .inl ⟨d, ds, h1, h2, h3, h4, q1⟩
  · cases e1; exact .inr (.inl ⟨d, ds, h1, h2, h3, h4, q1⟩)
  · cases e1; exact .inr (.inr ⟨c, z, h1, h2, q1⟩)
end
section
variable {X : Cx} {cl : Nat → Addr} {W : WX} {pos : Pos} {a b : Expr} {ma : ME} {mb : ML}
theorem rt_in (hu : X.A.units + 65 < cLine) (ha : RE X cl W a ma) (hb : RB X cl W b mb) (hm : behindInMarks .In b = false := by rfl) : RT X cl W (.Compare a [.In] [b] pos) (mIn false ma mb) :=
  ptW (pt_cmpR ((op_inD hu).or ((op_inT hu).or op_in_sign)) ha hb hm) fun σ H Q ⟨g, env, S, R, q⟩ =>
    (bindE R q).imp fun v H1 ⟨g1, S1, d, l1, R1, r1, q1⟩ => (bindB R1 (poT q1 l1)).imp fun u H2 ⟨g2, S2, k, l2, R2, r2, q2⟩ => by
      have q2 := poT q2 l2
      split at q2
      · rename_i b eb
        obtain ⟨c, e1, e2⟩ := Option.bind_eq_some_iff.mp eb
        refine in_ok R2.toRelF (Rp.up l2 _ _ r1) (ct_late R2 r2 e1) e2 ⟨b, rfl, ?_⟩
        have := q2 g2 H2 (G.le.refl _) R2
        simpa using this
      · exact q2.elim
theorem rt_notIn (hu : X.A.units + 65 < cLine) (ha : RE X cl W a ma) (hb : RB X cl W b mb) (hm : behindInMarks .NotIn b = false := by rfl) : RT X cl W (.Compare a [.NotIn] [b] pos) (mIn true ma mb) :=
  ptW (pt_cmpR ((op_notInD hu).or ((op_notInT hu).or op_notIn_sign)) ha hb hm) fun σ H Q ⟨g, env, S, R, q⟩ =>
    (bindE R q).imp fun v H1 ⟨g1, S1, d, l1, R1, r1, q1⟩ => (bindB R1 (poT q1 l1)).imp fun u H2 ⟨g2, S2, k, l2, R2, r2, q2⟩ => by
      have q2 := poT q2 l2
      split at q2
      · rename_i b eb
        obtain ⟨c, e1, e2⟩ := Option.bind_eq_some_iff.mp eb
        refine notIn_ok R2.toRelF (Rp.up l2 _ _ r1) (ct_late R2 r2 e1) e2 ⟨!b, rfl, ?_⟩
        have := q2 g2 H2 (G.le.refl _) R2
        simpa using this
      · exact q2.elim
theorem re_in (hu : X.A.units + 65 < cLine) (ha : RE X cl W a ma) (hb : RB X cl W b mb) (hm : behindInMarks .In b = false := by rfl) : RE X cl W (.Compare a [.In] [b] pos) (mInE ma mb) :=
  peW (pe_cmpR ((op_inD hu).or ((op_inT hu).or op_in_sign)) ha hb hm) fun σ H Q ⟨g, env, S, R, q⟩ => by
    exact (bindE R q).imp fun v H1 ⟨g1, S1, d, l1, R1, r1, q1⟩ => (bindB R1 (poE q1 l1)).imp fun u H2 ⟨g2, S2, k, l2, R2, r2, q2⟩ => by
      have q2 := poE q2 l2
      split at q2
      · rename_i b eb
        obtain ⟨c, e1, e2⟩ := Option.bind_eq_some_iff.mp eb
        exact in_ok R2.toRelF (Rp.up l2 _ _ r1) (ct_late R2 r2 e1) e2 (q2 g2 H2 _ (G.le.refl _) R2 (.bl _))
      · exact q2.elim
end
end DL

set_option Elab.async false
set_option linter.all false
set_option maxRecDepth 100000
set_option maxHeartbeats 1000000
set_option autoImplicit false
namespace DL
open PySem PySem.Spec PyProof.Rows L2

/-! ### c[i] -/
def ixC (c : Ct) (i : Int) : Option D := match c with
  | .l ds => atI ds i
  | .t ds => atI ds i
  | .s z => if z.length ≤ SZ then (atI z.cps.toList i).map fun c => .str ⟨#[c]⟩ else none
  | .q ns => none
def mIx (mb : ML) (mi : ME) : ME := fun env S => (mb env S).bind fun k S1 => (mi env S1).bind fun y S2 => match y with
  | .int i => match (ctL env S2 k).bind fun c => ixC c i with
    | some d => .ok (d, S2)
    | none => .bad
  | _ => .bad
theorem atI_len {α β : Type} {xs : List α} {ys : List β} (h : xs.length = ys.length) {i : Int} {j : Nat} (e : ixN xs.length i = some j) : ixN ys.length i = some j := by rw [← h]; exact e
theorem atI_rp {K : PySem.W.Frag} {cl : Nat → Addr} {g : G} {ds : List D} {vs : List V} (r : RpL K cl g ds vs) {i : Int} {d : D} (e : atI ds i = some d) : ∃ v, atI vs i = some v ∧ Rp K cl g d v := by
  unfold atI at e ⊢
  obtain ⟨j, e1, e2⟩ := Option.bind_eq_some_iff.mp e
  obtain ⟨v, e3, r3⟩ := r.getD e2
  exact ⟨v, by rw [← r.length, e1]; exact e3, r3⟩
section
variable {X : Cx} {cl : Nat → Addr} {W : WX} {pos : Pos} {a b : Expr} {ma : ML} {mi mb : ME}
theorem re_ix (ha : RB X cl W a ma) (hb : RE X cl W b mi) (hs : PlainIx b := by intro _ _; rfl) : RE X cl W (.Subscript a b pos) (mIx ma mi) :=
  peW (pe_ix ix_seq ha hb hs) fun σ H Q ⟨g, env, S, R, q⟩ =>
    (bindB R q).imp fun v H1 ⟨g1, S1, k, l1, R1, r1, q1⟩ => (bindE R1 (poE q1 l1)).imp fun u H2 ⟨g2, S2, y, l2, R2, r2, q2⟩ => by
      have q2 := poE q2 l2
      obtain ⟨i, rfl⟩ | ni : (∃ i, y = .int i) ∨ (∀ i, y ≠ .int i) := by
        cases y <;> first
          | exact .inl ⟨_, rfl⟩
          | exact .inr fun _ z => nomatch z
      rotate_left
      · cases y <;> first
          | exact q2.elim
          | exact absurd rfl (ni _)
      cases r2
      dsimp only at q2
      split at q2
      · rename_i d ed
        obtain ⟨c, e1, e2⟩ := Option.bind_eq_some_iff.mp ed
        have hc := ct_late R2 (LkR.up l2 r1) e1
        cases c with
        | l ds =>
          obtain ⟨p, vs, rfl, h1, h2⟩ := hc
          obtain ⟨w, e3, r3⟩ := atI_rp h2 e2
          exact .inl ⟨p, vs, i, w, rfl, rfl, SqL.of h1, e3, q2 g2 H2 w (G.le.refl _) R2 r3⟩
        | t ds =>
          obtain ⟨p, vs, rfl, h1, h2⟩ := hc
          obtain ⟨w, e3, r3⟩ := atI_rp h2 e2
          exact .inr (.inl ⟨p, vs, i, w, rfl, rfl, h1, e3, q2 g2 H2 w (G.le.refl _) R2 r3⟩)
        | s z =>
          have hc' : v = .str z := hc
          subst hc'
          unfold ixC at e2
          dsimp only at e2
          split at e2
          · rename_i hz
            obtain ⟨c, e3, rfl⟩ := Option.map_eq_some_iff.mp e2
            exact .inr (.inr ⟨z, i, c, rfl, rfl, by rw [sz_eq]; exact hz, e3, q2 g2 H2 _ (G.le.refl _) R2 (.str _)⟩)
          · cases e2
        | q ns => cases e2
      · exact q2.elim
end

/-! ### c[lo:hi] -/
abbrev MP := Env → Store → Res (Option Int × Store)
def mPN : MP := fun _ S => .ok (none, S)
def mPS (m : ME) : MP := fun env S => (m env S).bind fun x S1 => match x with
  | .int i => .ok (some i, S1)
  | _ => .bad
def cut {α : Type} (xs : List α) (lo hi : Option Int) : List α := (xs.drop (HT.sIx xs.length 0 lo)).take (HT.sIx xs.length xs.length hi - HT.sIx xs.length 0 lo)
theorem cut_rp {K : PySem.W.Frag} {cl : Nat → Addr} {g : G} {ds : List D} {vs : List V} (r : RpL K cl g ds vs) (lo hi : Option Int) : RpL K cl g (cut ds lo hi) (cutV vs lo hi) := by
  unfold cut cutV
  rw [← r.length]
  exact (r.drop _).take _
def slC (S : Store) (c : Ct) (lo hi : Option Int) : Option D := match c with
  | .l ds => some (.lst (cut ds lo hi))
  | .t ds => some (.tup (cut ds lo hi))
  | .s z => if z.length ≤ SZ then some (.str (cutS z lo hi)) else none
  | .q _ => none
def mSl (mb : ML) (ml mh : MP) : ME := fun env S => (mb env S).bind fun k S1 => (ml env S1).bind fun lo S2 => (mh env S2).bind fun hi S3 => match (ctL env S3 k).bind fun c => slC S3 c lo hi with
  | some d => .ok (d, S3)
  | none => .bad
def mSlO (mb : ML) (ml mh : MP) : MO := fun env S => (mb env S).bind fun k S1 => (ml env S1).bind fun lo S2 => (mh env S2).bind fun hi S3 => match ctL env S3 k with
  | some (.l ds) => .ok (cut ds lo hi, S3)
  | _ => .bad
section
variable (K : PySem.W.Frag) (cl : Nat → Addr) (W : WX)
def okP (g : G) (env : Env) (σ : St) (Q : Option Int → Hp → Prop) : Option Int × Store → Prop := fun p => ∀ g' H', g.le g' → Rel K cl g' env p.2 σ H' → Q p.1 H'
def upP (m : MP) : TO := fun σ H Q => ∃ g env S, Rel K cl g env S σ H ∧ Po K cl W g env σ (okP K cl g env σ Q) (m env S)
end
def RP (X : Cx) (cl : Nat → Addr) (W : WX) (e : Option Expr) (m : MP) : Prop := PO X e (upP X.K cl W m)
section
variable {K : PySem.W.Frag} {cl : Nat → Addr} {W : WX} {g g1 : G} {env : Env} {S : Store} {σ : St} {H : Hp}
theorem bindP {α : Type} {P : α → Prop} {ma : MP} {k : Option Int → Store → Res α} (R : Rel K cl g env S σ H) (h : Po K cl W g env σ P ((ma env S).bind k)) :
    upP K cl W ma σ H fun o H1 => ∃ g1 S1, g.le g1 ∧ Rel K cl g1 env S1 σ H1 ∧ Po K cl W g env σ P (k o S1) := by
  refine ⟨g, env, S, R, ?_⟩
  cases e : ma env S with
  | ok p => rw [e] at h; exact fun g' H' le R' => ⟨g', p.2, le, R', h⟩
  | exc x S' => rw [e] at h; exact h
  | bad => rw [e] at h; exact h
theorem upP.imp {m : MP} {Q Q' : Option Int → Hp → Prop} (h : upP K cl W m σ H Q) (k : ∀ v H', Q v H' → Q' v H') : upP K cl W m σ H Q' := by
  obtain ⟨g, env, S, R, q⟩ := h
  exact ⟨g, env, S, R, q.up (G.le.refl _) fun p hp g' H' l R => k _ _ (hp g' H' l R)⟩
end
section
variable {X : Cx} {cl : Nat → Addr} {W : WX} {pos p2 : Pos} {e : Expr} {lo hi : Option Expr} {mb : ML} {ml mh : MP} {m : ME}
theorem rp_none : RP X cl W none mPN := ⟨fun pins s σ H Q I ⟨g, env, S, R, q⟩ => po_none.run pins s σ H Q I (q g H (G.le.refl g) R)⟩
theorem rp_some (h : RE X cl W e m) : RP X cl W (some e) (mPS m) := ⟨fun pins s σ H Q I ⟨g, env, S, R, q⟩ => (po_some h).run pins s σ H Q I ((bindE R q).imp fun v H1 ⟨g1, S1, x, l1, R1, r1, q1⟩ => by
  cases r1 <;> first
    | exact q1.elim
    | exact ⟨_, rfl, q1 g1 H1 l1 R1⟩)⟩
def rSl3 (K : PySem.W.Frag) : V → Option Int → Option Int → Hp → VK → Prop := fun x lo hi H Q => rSlL K x lo hi H Q ∨ rSlA K x lo hi H Q ∨ rSlS x lo hi H Q
theorem cut_all {α : Type} (xs : List α) (lo hi : Option Int) (h : HT.sIx xs.length 0 lo = 0 ∧ HT.sIx xs.length xs.length hi = xs.length) : cut xs lo hi = xs := by
  unfold cut
  rw [h.1, h.2]
  simp
theorem ctT_F {K : PySem.W.Frag} {g : G} {env : Env} {S : Store} {σ : St} {H : Hp} (R : Rel K cl g env S σ H) {k : Lk} {v : V} {ds : List D} (r : LkR K cl g σ k v) (e : ctL env S k = some (.t ds)) : ∃ p vs, v = .ref p ∧ SqT K g.F p vs ∧ RpL K cl g ds vs := by
  cases k with
  | val d =>
    have r' : Rp K cl g d v := r
    have e' : ctOf S d = some (.t ds) := e
    cases r' with
    | tup h1 h2 => cases e'; exact ⟨_, _, rfl, h1, h2⟩
    | loc h1 =>
      simp only [ctOf] at e'
      split at e' <;> cases e'
    | _ => cases e'
  | slot i =>
    simp only [ctL] at e
    split at e <;> cases e
theorem re_sl (he : RB X cl W e mb) (hl : RP X cl W lo ml) (hh : RP X cl W hi mh) : RE X cl W (.Subscript e (.Slice lo hi none p2) pos) (mSl mb ml mh) :=
  peW (pe_slice (r := rSl3 X.K) (sl_list.or (sl_tupA.or sl_str)) he hl hh) fun σ H Q ⟨g, env, S, R, q⟩ =>
    (bindB R q).imp fun v H1 ⟨g1, S1, k, l1, R1, r1, q1⟩ => by
      refine (show upP X.K cl W ml σ H1 (fun l H2 => upP X.K cl W mh σ H2 fun u H3 => rSl3 X.K v l u H3 Q) from ?_)
      refine upP.imp (bindP R1 (poE q1 l1)) fun o H2 ⟨g2, S2, l2, R2, q2⟩ => ?_
      refine upP.imp (bindP R2 (poE q2 l2)) fun o2 H3 ⟨g3, S3, l3, R3, q3⟩ => ?_
      have q3 := poE q3 l3
      split at q3
      · rename_i d ed
        obtain ⟨c, e1, e2⟩ := Option.bind_eq_some_iff.mp ed
        have hc := ct_late R3 (LkR.up (l2.trans l3) r1) e1
        cases c with
        | l ds =>
          obtain ⟨p, vs, rfl, h1, h2⟩ := hc
          cases e2
          refine .inl ⟨p, vs, rfl, SqL.of h1, fun p' hp => ?_⟩
          have le := g3.lock_le (o := .lst (cutV vs o o2)) (R3.toRelF.free hp).1
          exact q3 _ _ _ le (R3.lockNew hp) (.lst upd_same (RpL.up le _ _ (cut_rp h2 o o2)))
        | t ds =>
          obtain ⟨p, vs, rfl, h1, h2⟩ := hc
          cases e2
          refine .inr (.inl ⟨p, vs, rfl, h1, fun hw => ?_, fun hw p' hp => ?_⟩)
          · rw [← h2.length] at hw
            rw [cut_all ds o o2 hw] at q3
            rcases ctT_F R3 (LkR.up (l2.trans l3) r1) e1 with ⟨p', vs', ep, hs, r'⟩
            cases ep
            exact q3 g3 H3 _ (G.le.refl _) R3 (.tup hs r')
          · have le := g3.lock_le (o := .tup (cutV vs o o2)) (R3.toRelF.free hp).1
            exact q3 _ _ _ le (R3.lockNew hp) (.tup (SqT.of upd_same) (RpL.up le _ _ (cut_rp h2 o o2)))
        | s z =>
          have hc' : v = .str z := hc
          subst hc'
          unfold slC at e2
          dsimp only at e2
          split at e2
          · rename_i hz
            cases e2
            exact .inr (.inr ⟨z, rfl, by rw [sz_eq]; exact hz, q3 g3 H3 _ (G.le.refl _) R3 (.str _)⟩)
          · cases e2
        | q ns => cases e2
      · exact q3.elim
theorem ro_sl (he : RB X cl W e mb) (hl : RP X cl W lo ml) (hh : RP X cl W hi mh) : RO X cl W (.Subscript e (.Slice lo hi none p2) pos) (mSlO mb ml mh) :=
  peW (pe_slice (r := rSlL X.K) sl_list he hl hh) fun σ H Q ⟨g, env, S, R, q⟩ =>
    (bindB R q).imp fun v H1 ⟨g1, S1, k, l1, R1, r1, q1⟩ => by
      refine (show upP X.K cl W ml σ H1 (fun l H2 => upP X.K cl W mh σ H2 fun u H3 => rSlL X.K v l u H3 Q) from ?_)
      refine upP.imp (bindP R1 (poO q1 l1)) fun o H2 ⟨g2, S2, l2, R2, q2⟩ => ?_
      refine upP.imp (bindP R2 (poO q2 l2)) fun o2 H3 ⟨g3, S3, l3, R3, q3⟩ => ?_
      have q3 := poO q3 l3
      split at q3
      · rename_i ds e1
        obtain ⟨p, vs, rfl, h1, h2⟩ := ct_late R3 (LkR.up (l2.trans l3) r1) e1
        refine ⟨p, vs, rfl, SqL.of h1, fun p' hp => ?_⟩
        obtain ⟨R4, f4⟩ := fresh_new R3 (cut_rp h2 o o2) hp
        exact q3 _ _ _ _ (G.le.refl _) R4 f4
      · exact q3.elim
end
end DL

set_option Elab.async false
set_option linter.all false
set_option maxRecDepth 100000
set_option maxHeartbeats 1000000
set_option autoImplicit false
namespace DL
open PySem PySem.Spec PyProof.Rows L2

/-! ### built-in calls of one thing that is looked into -/
def dInts : List D → Option (List Int)
  | [] => some []
  | .int i :: ds => (dInts ds).map (i :: ·)
  | _ => none
def dBls : List D → Option (List Bool)
  | [] => some []
  | .bl b :: ds => (dBls ds).map (b :: ·)
  | _ => none
theorem dInts_eq : ∀ {ds : List D} {ns : List Int}, dInts ds = some ns → ds = ns.map D.int
  | [], ns, h => by cases h; rfl
  | .int i :: ds, ns, h => by
    simp only [dInts] at h
    obtain ⟨ms, h1, rfl⟩ := Option.map_eq_some_iff.mp h
    rw [dInts_eq h1]; rfl
  | .non :: _, _, h => by cases h
  | .bl _ :: _, _, h => by cases h
  | .str _ :: _, _, h => by cases h
  | .tup _ :: _, _, h => by cases h
  | .lst _ :: _, _, h => by cases h
  | .scr _ :: _, _, h => by cases h
  | .dct _ :: _, _, h => by cases h
  | .loc _ :: _, _, h => by cases h
  | .ins _ _ _ :: _, _, h => by cases h
theorem dBls_eq : ∀ {ds : List D} {ns : List Bool}, dBls ds = some ns → ds = ns.map D.bl
  | [], ns, h => by cases h; rfl
  | .bl i :: ds, ns, h => by
    simp only [dBls] at h
    obtain ⟨ms, h1, rfl⟩ := Option.map_eq_some_iff.mp h
    rw [dBls_eq h1]; rfl
  | .non :: _, _, h => by cases h
  | .int _ :: _, _, h => by cases h
  | .str _ :: _, _, h => by cases h
  | .tup _ :: _, _, h => by cases h
  | .lst _ :: _, _, h => by cases h
  | .scr _ :: _, _, h => by cases h
  | .dct _ :: _, _, h => by cases h
  | .loc _ :: _, _, h => by cases h
  | .ins _ _ _ :: _, _, h => by cases h
@[simp] theorem dInts_map : ∀ ns : List Int, dInts (ns.map D.int) = some ns
  | [] => rfl
  | n :: ns => by simp [dInts, dInts_map ns]
@[simp] theorem dBls_map : ∀ ns : List Bool, dBls (ns.map D.bl) = some ns
  | [] => rfl
  | n :: ns => by simp [dBls, dBls_map ns]
theorem RpL.bls {K : PySem.W.Frag} {cl : Nat → Addr} {g : G} : ∀ {ns : List Bool} {vs : List V}, RpL K cl g (ns.map D.bl) vs → vs = ns.map V.bl
  | [], _, r => by cases r; rfl
  | n :: ns, _, r => by
    have r' : RpL K cl g (.bl n :: ns.map D.bl) _ := r
    cases r' with
    | cons h1 h2 => cases h1; rw [RpL.bls h2]; rfl
/-- a function of what is looked into -/
def mB1 (f : Ct → Option D) (mb : ML) : ME := fun env S => (mb env S).bind fun k S1 => match (ctL env S1 k).bind f with
  | some d => .ok (d, S1)
  | none => .bad
def fLen : Ct → Option D
  | .l ds => some (.int ds.length)
  | .t ds => some (.int ds.length)
  | .s z => if z.length ≤ SZ then some (.int z.length) else none
  | .q ns => some (.int ns.length)
def fTup : Ct → Option D
  | .l ds => some (.tup ds)
  | .t ds => some (.tup ds)
  | _ => none
def fSum (c : Ct) : Option D := match c with
  | .l ds => (dInts ds).map fun ns => .int ns.sum
  | _ => none
def fMin (c : Ct) : Option D := match c with
  | .l ds => ((dInts ds).bind List.min?).map .int
  | _ => none
def fMax (c : Ct) : Option D := match c with
  | .l ds => ((dInts ds).bind List.max?).map .int
  | _ => none
def fAll (c : Ct) : Option D := match c with
  | .l ds => (dBls ds).map fun bs => .bl (bs.all id)
  | _ => none
def fAny (c : Ct) : Option D := match c with
  | .l ds => (dBls ds).map fun bs => .bl (bs.any id)
  | _ => none
def mList (mb : ML) : MO := fun env S => (mb env S).bind fun k S1 => match ctL env S1 k with
  | some (.l ds) => .ok (ds, S1)
  | some (.t ds) => .ok (ds, S1)
  | some (.q ns) => .ok (ns.map .int, S1)
  | _ => .bad
def isort (ns : List Int) : List Int := ns.mergeSort fun a b => decide (a ≤ b)
def mSortI (mb : ML) : MO := fun env S => (mb env S).bind fun k S1 => match ctL env S1 k with
  | some (.l ds) => match dInts ds with
    | some ns => .ok ((isort ns).map .int, S1)
    | none => .bad
  | _ => .bad
/-- .. of one value -/
def mE1 (f : D → Option D) (m : ME) : ME := fun env S => (m env S).bind fun d S1 => match f d with
  | some x => .ok (x, S1)
  | none => .bad
def fInt : D → Option D
  | .int i => some (.int i)
  | .bl b => some (.int (if b then 1 else 0))
  | _ => none
def fStr : D → Option D
  | .int i => if i.natAbs.log2 < 1920 then some (.str (toString i)) else none
  | _ => none
/-- min(a, b), max(a, b) of dInts -/
def fMin2 (x y : D) (S : Store) : Res (D × Store) := match x, y with
  | .int i, .int j => .ok (.int (if j < i then j else i), S)
  | _, _ => .bad
def fMax2 (x y : D) (S : Store) : Res (D × Store) := match x, y with
  | .int i, .int j => .ok (.int (if j > i then j else i), S)
  | _, _ => .bad
section
variable {X : Cx} {cl : Nat → Addr} {W : WX} {pos p : Pos} {a b : Expr} {mb mc : ML} {m n : ME}
theorem re_len (hg : Gl X "len") (hm : X.mg "len" = none) (ha : RB X cl W a mb) (he : starEach [a] X.env = [(false, eval a X.env)] := by rfl) : RE X cl W (.Call (.Name "len" p) [a] [] pos) (mB1 fLen mb) :=
  peW (pe_callB call_len hg hm (by exact boot_len) (pa_cons ha pa_nil he) (he := he)) fun σ H Q ⟨g, env, S, R, q⟩ => upB.imp (bindB R q) fun v H1 ⟨g1, S1, k, l1, R1, r1, q1⟩ => by
    show ∃ x n, [v] = [x] ∧ LenV X.K x H1 n ∧ Q (.int n) H1
    have q1 := poE q1 l1
    split at q1
    · rename_i d ed
      obtain ⟨c, e1, e2⟩ := Option.bind_eq_some_iff.mp ed
      have hc := ct_late R1 r1 e1
      cases c with
      | l ds =>
        obtain ⟨p, vs, rfl, h1, h2⟩ := hc
        cases e2
        exact ⟨_, ds.length, rfl, .inl ⟨vs, SqL.of h1, h2.length⟩, q1 g1 H1 _ (G.le.refl _) R1 (.int _)⟩
      | t ds =>
        obtain ⟨p, vs, rfl, h1, h2⟩ := hc
        cases e2
        exact ⟨_, ds.length, rfl, .inr ⟨vs, h1, h2.length⟩, q1 g1 H1 _ (G.le.refl _) R1 (.int _)⟩
      | s z =>
        have hc' : v = .str z := hc
        subst hc'
        unfold fLen at e2
        dsimp only at e2
        split at e2
        · rename_i hz
          cases e2
          exact ⟨_, z.length, rfl, ⟨by rw [sz_eq]; exact hz, rfl⟩, q1 g1 H1 _ (G.le.refl _) R1 (.int _)⟩
        · cases e2
      | q ns =>
        obtain ⟨p, rfl, h1⟩ := hc
        cases e2
        exact ⟨_, ns.length, rfl, .inl ⟨_, h1, by simp⟩, q1 g1 H1 _ (G.le.refl _) R1 (.int _)⟩
    · exact q1.elim
theorem re_tuple (hg : Gl X "tuple") (hm : X.mg "tuple" = none) (ha : RB X cl W a mb) (he : starEach [a] X.env = [(false, eval a X.env)] := by rfl) : RE X cl W (.Call (.Name "tuple" p) [a] [] pos) (mB1 fTup mb) :=
  peW (pe_callTy call_tuple_of hg hm (by exact boot_tuple) (pa_cons ha pa_nil he) (he := he)) fun σ H Q ⟨g, env, S, R, q⟩ => upB.imp (bindB R q) fun v H1 ⟨g1, S1, k, l1, R1, r1, q1⟩ => by
    show ∃ p ys, [v] = [V.ref p] ∧ ((SqL X.K H1 p ys ∧ ∀ l, H1 l = none → Q (.ref l) (upd H1 l (.tup ys))) ∨ (SqT X.K H1 p ys ∧ Q (.ref p) H1))
    have q1 := poE q1 l1
    split at q1
    · rename_i d ed
      obtain ⟨c, e1, e2⟩ := Option.bind_eq_some_iff.mp ed
      cases c with
      | l ds =>
        obtain ⟨p, vs, rfl, h1, h2⟩ := ct_late R1 r1 e1
        cases e2
        refine ⟨p, vs, rfl, .inl ⟨SqL.of h1, fun l hl => ?_⟩⟩
        have le := g1.lock_le (o := .tup vs) (R1.toRelF.free hl).1
        exact q1 _ _ _ le (R1.lockNew hl) (.tup (SqT.of upd_same) (RpL.up le _ _ h2))
      | t ds =>
        cases e2
        obtain ⟨p, vs, rfl, hs, r'⟩ := ctT_F R1 r1 e1
        exact ⟨p, vs, rfl, .inr ⟨DL.Same.seqT R1.sub hs, q1 g1 H1 _ (G.le.refl _) R1 (.tup hs r')⟩⟩
      | s z => cases e2
      | q ns => cases e2
    · exact q1.elim
theorem ro_list (hg : Gl X "list") (hm : X.mg "list" = none) (ha : RB X cl W a mb) (he : starEach [a] X.env = [(false, eval a X.env)] := by rfl) : RO X cl W (.Call (.Name "list" p) [a] [] pos) (mList mb) :=
  peW (pe_callTy call_list_of hg hm (by exact boot_list) (pa_cons ha pa_nil he) (he := he)) fun σ H Q ⟨g, env, S, R, q⟩ => upB.imp (bindB R q) fun v H1 ⟨g1, S1, k, l1, R1, r1, q1⟩ => by
    show ∃ p ys, [v] = [V.ref p] ∧ (SqL X.K H1 p ys ∨ SqT X.K H1 p ys) ∧ ∀ l, H1 l = none → Q (.ref l) (upd H1 l (.lst ys))
    have q1 := poO q1 l1
    split at q1
    · rename_i ds e1
      obtain ⟨p, vs, rfl, h1, h2⟩ := ct_late R1 r1 e1
      refine ⟨p, vs, rfl, .inl (SqL.of h1), fun l hl => ?_⟩
      obtain ⟨R4, f4⟩ := fresh_new R1 h2 hl
      exact q1 _ _ _ _ (G.le.refl _) R4 f4
    · rename_i ds e1
      obtain ⟨p, vs, rfl, h1, h2⟩ := ct_late R1 r1 e1
      refine ⟨p, vs, rfl, .inr h1, fun l hl => ?_⟩
      obtain ⟨R4, f4⟩ := fresh_new R1 h2 hl
      exact q1 _ _ _ _ (G.le.refl _) R4 f4
    · rename_i ns e1
      obtain ⟨p, rfl, h1⟩ := ct_late R1 r1 e1
      refine ⟨p, _, rfl, .inl h1, fun l hl => ?_⟩
      obtain ⟨R4, f4⟩ := fresh_new R1 (RpL.ofInts ns) hl
      exact q1 _ _ _ _ (G.le.refl _) R4 f4
    · exact q1.elim
theorem re_int1 (hg : Gl X "int") (hm : X.mg "int" = none) (ha : RE X cl W a m) (he : starEach [a] X.env = [(false, eval a X.env)] := by rfl) : RE X cl W (.Call (.Name "int" p) [a] [] pos) (mE1 fInt m) :=
  peW (pe_callTy call_int1 hg hm (by exact boot_int) (pa_cons ha pa_nil he) (he := he)) fun σ H Q ⟨g, env, S, R, q⟩ => upE.imp (bindE R q) fun v H1 ⟨g1, S1, d, l1, R1, r1, q1⟩ => by
    show (∃ i, [v] = [V.int i] ∧ Q (.int i) H1) ∨ ∃ k, [v] = [V.bl k] ∧ Q (.int (if k then 1 else 0)) H1
    have q1 := poE q1 l1
    cases r1 <;> first
      | exact q1.elim
      | exact .inl ⟨_, rfl, q1 g1 H1 _ (G.le.refl _) R1 (.int _)⟩
      | exact .inr ⟨_, rfl, q1 g1 H1 _ (G.le.refl _) R1 (.int _)⟩
theorem re_str1 (hg : Gl X "str") (hm : X.mg "str" = none) (ha : RE X cl W a m) (he : starEach [a] X.env = [(false, eval a X.env)] := by rfl) : RE X cl W (.Call (.Name "str" p) [a] [] pos) (mE1 fStr m) :=
  peW (pe_callTy call_str_int hg hm (by exact boot_str) (pa_cons ha pa_nil he) (he := he)) fun σ H Q ⟨g, env, S, R, q⟩ => upE.imp (bindE R q) fun v H1 ⟨g1, S1, d, l1, R1, r1, q1⟩ => by
    show ∃ i, [v] = [V.int i] ∧ i.natAbs.log2 < 1920 ∧ Q (.str (toString i)) H1
    have q1 := poE q1 l1
    cases d with
    | int i =>
      cases r1
      by_cases h : i.natAbs.log2 < 1920
      · rw [show fStr (.int i) = some (.str (toString i)) from if_pos h] at q1
        exact ⟨i, rfl, h, q1 g1 H1 _ (G.le.refl _) R1 (.str _)⟩
      · rw [show fStr (.int i) = none from if_neg h] at q1
        exact q1.elim
    | _ => exact q1.elim
theorem re_sum (hc : X.calm = true) (hg : Gl X "sum") (hm : X.mg "sum" = none) (ha : RB X cl W a mb) (he : starEach [a] X.env = [(false, eval a X.env)] := by rfl) : RE X cl W (.Call (.Name "sum" p) [a] [] pos) (mB1 fSum mb) :=
  peW (pe_callB (cr_sum hc) hg hm (by decide +kernel) (pa_cons ha pa_nil he) (he := he)) fun σ H Q ⟨g, env, S, R, q⟩ => upB.imp (bindB R q) fun v H1 ⟨g1, S1, k, l1, R1, r1, q1⟩ => by
    show ∃ (a : Addr) (ns : List Int), [v] = [V.ref a] ∧ SqL X.K H1 a (ns.map V.int) ∧ Q (.int ns.sum) H1
    have q1 := poE q1 l1
    split at q1
    · rename_i d ed
      obtain ⟨c, e1, e2⟩ := Option.bind_eq_some_iff.mp ed
      cases c <;> try (cases e2; done)
      obtain ⟨p, vs, rfl, h1, h2⟩ := ct_late R1 r1 e1
      obtain ⟨ns, e3, rfl⟩ := Option.map_eq_some_iff.mp e2
      rw [dInts_eq e3] at h2
      rw [h2.ints] at h1
      exact ⟨p, ns, rfl, SqL.of h1, q1 g1 H1 _ (G.le.refl _) R1 (.int _)⟩
    · exact q1.elim
theorem re_all (hc : X.calm = true) (hg : Gl X "all") (hm : X.mg "all" = none) (ha : RB X cl W a mb) (he : starEach [a] X.env = [(false, eval a X.env)] := by rfl) : RE X cl W (.Call (.Name "all" p) [a] [] pos) (mB1 fAll mb) :=
  peW (pe_callB (cr_all hc) hg hm (by decide +kernel) (pa_cons ha pa_nil he) (he := he)) fun σ H Q ⟨g, env, S, R, q⟩ => upB.imp (bindB R q) fun v H1 ⟨g1, S1, k, l1, R1, r1, q1⟩ => by
    show ∃ (a : Addr) (bs : List Bool), [v] = [V.ref a] ∧ SqL X.K H1 a (bs.map V.bl) ∧ Q (.bl (bs.all id)) H1
    have q1 := poE q1 l1
    split at q1
    · rename_i d ed
      obtain ⟨c, e1, e2⟩ := Option.bind_eq_some_iff.mp ed
      cases c <;> try (cases e2; done)
      obtain ⟨p, vs, rfl, h1, h2⟩ := ct_late R1 r1 e1
      obtain ⟨ns, e3, rfl⟩ := Option.map_eq_some_iff.mp e2
      rw [dBls_eq e3] at h2
      rw [h2.bls] at h1
      exact ⟨p, ns, rfl, SqL.of h1, q1 g1 H1 _ (G.le.refl _) R1 (.bl _)⟩
    · exact q1.elim
theorem re_any (hc : X.calm = true) (hg : Gl X "any") (hm : X.mg "any" = none) (ha : RB X cl W a mb) (he : starEach [a] X.env = [(false, eval a X.env)] := by rfl) : RE X cl W (.Call (.Name "any" p) [a] [] pos) (mB1 fAny mb) :=
  peW (pe_callB (cr_any hc) hg hm (by decide +kernel) (pa_cons ha pa_nil he) (he := he)) fun σ H Q ⟨g, env, S, R, q⟩ => upB.imp (bindB R q) fun v H1 ⟨g1, S1, k, l1, R1, r1, q1⟩ => by
    show ∃ (a : Addr) (bs : List Bool), [v] = [V.ref a] ∧ SqL X.K H1 a (bs.map V.bl) ∧ Q (.bl (bs.any id)) H1
    have q1 := poE q1 l1
    split at q1
    · rename_i d ed
      obtain ⟨c, e1, e2⟩ := Option.bind_eq_some_iff.mp ed
      cases c <;> try (cases e2; done)
      obtain ⟨p, vs, rfl, h1, h2⟩ := ct_late R1 r1 e1
      obtain ⟨ns, e3, rfl⟩ := Option.map_eq_some_iff.mp e2
      rw [dBls_eq e3] at h2
      rw [h2.bls] at h1
      exact ⟨p, ns, rfl, SqL.of h1, q1 g1 H1 _ (G.le.refl _) R1 (.bl _)⟩
    · exact q1.elim
theorem re_min (hc : X.calm = true) (hg : Gl X "min") (hm : X.mg "min" = none) (ha : RB X cl W a mb) (he : starEach [a] X.env = [(false, eval a X.env)] := by rfl) : RE X cl W (.Call (.Name "min" p) [a] [] pos) (mB1 fMin mb) :=
  peW (pe_callB (cr_min hc) hg hm (by decide +kernel) (pa_cons ha pa_nil he) (he := he)) fun σ H Q ⟨g, env, S, R, q⟩ => upB.imp (bindB R q) fun v H1 ⟨g1, S1, k, l1, R1, r1, q1⟩ => by
    show ∃ (a : Addr) (ns : List Int), [v] = [V.ref a] ∧ SqL X.K H1 a (ns.map V.int) ∧ 0 < ns.length ∧ ∀ m, m ∈ ns → (∀ y, y ∈ ns → m ≤ y) → Q (.int m) H1
    have q1 := poE q1 l1
    split at q1
    · rename_i d ed
      obtain ⟨c, e1, e2⟩ := Option.bind_eq_some_iff.mp ed
      cases c <;> try (cases e2; done)
      obtain ⟨p, vs, rfl, h1, h2⟩ := ct_late R1 r1 e1
      obtain ⟨m, e4, rfl⟩ := Option.map_eq_some_iff.mp e2
      obtain ⟨ns, e3, e5⟩ := Option.bind_eq_some_iff.mp e4
      rw [dInts_eq e3] at h2
      rw [h2.ints] at h1
      refine ⟨p, ns, rfl, SqL.of h1, ?_, fun m' hm' hl' => ?_⟩
      · cases ns with
        | nil => cases e5
        | cons => simp
      · have : ns.min? = some m' := List.min?_eq_some_iff.mpr ⟨hm', hl'⟩
        rw [e5] at this
        cases this
        exact q1 g1 H1 _ (G.le.refl _) R1 (.int _)
    · exact q1.elim
theorem re_max (hc : X.calm = true) (hg : Gl X "max") (hm : X.mg "max" = none) (ha : RB X cl W a mb) (he : starEach [a] X.env = [(false, eval a X.env)] := by rfl) : RE X cl W (.Call (.Name "max" p) [a] [] pos) (mB1 fMax mb) :=
  peW (pe_callB (cr_max hc) hg hm (by decide +kernel) (pa_cons ha pa_nil he) (he := he)) fun σ H Q ⟨g, env, S, R, q⟩ => upB.imp (bindB R q) fun v H1 ⟨g1, S1, k, l1, R1, r1, q1⟩ => by
    show ∃ (a : Addr) (ns : List Int), [v] = [V.ref a] ∧ SqL X.K H1 a (ns.map V.int) ∧ 0 < ns.length ∧ ∀ m, m ∈ ns → (∀ y, y ∈ ns → y ≤ m) → Q (.int m) H1
    have q1 := poE q1 l1
    split at q1
    · rename_i d ed
      obtain ⟨c, e1, e2⟩ := Option.bind_eq_some_iff.mp ed
      cases c <;> try (cases e2; done)
      obtain ⟨p, vs, rfl, h1, h2⟩ := ct_late R1 r1 e1
      obtain ⟨m, e4, rfl⟩ := Option.map_eq_some_iff.mp e2
      obtain ⟨ns, e3, e5⟩ := Option.bind_eq_some_iff.mp e4
      rw [dInts_eq e3] at h2
      rw [h2.ints] at h1
      refine ⟨p, ns, rfl, SqL.of h1, ?_, fun m' hm' hl' => ?_⟩
      · cases ns with
        | nil => cases e5
        | cons => simp
      · have : ns.max? = some m' := List.max?_eq_some_iff.mpr ⟨hm', hl'⟩
        rw [e5] at this
        cases this
        exact q1 g1 H1 _ (G.le.refl _) R1 (.int _)
    · exact q1.elim
theorem re_min2 (hc : X.calm = true) (hg : Gl X "min") (hm : X.mg "min" = none) (ha : RE X cl W a m) (hb : RE X cl W b n) (he : starEach [a, b] X.env = [(false, eval a X.env), (false, eval b X.env)] := by rfl) (he2 : starEach [b] X.env = [(false, eval b X.env)] := by rfl) :
    RE X cl W (.Call (.Name "min" p) [a, b] [] pos) (mOp fMin2 m n) :=
  peW (pe_callB (call_min2 hc) hg hm (by decide +kernel) (pa_cons ha (pa_cons hb pa_nil he2) (by rw [he, he2])) (he := by rw [he, he2]) (hpl := by rw [he2]; rfl)) fun σ H Q ⟨g, env, S, R, q⟩ =>
    upE.imp (bindE R q) fun v H1 ⟨g1, S1, d, l1, R1, r1, q1⟩ => upE.imp (bindE R1 (poE q1 l1)) fun u H2 ⟨g2, S2, e, l2, R2, r2, q2⟩ => by
      have q2 := poE q2 l2
      show ∃ i j, [v, u] = [V.int i, V.int j] ∧ Q (.int (if j < i then j else i)) H2
      cases r1 <;> cases r2 <;> first
        | exact q2.elim
        | exact ⟨_, _, rfl, q2 g2 H2 _ (G.le.refl _) R2 (.int _)⟩
theorem re_max2 (hc : X.calm = true) (hg : Gl X "max") (hm : X.mg "max" = none) (ha : RE X cl W a m) (hb : RE X cl W b n) (he : starEach [a, b] X.env = [(false, eval a X.env), (false, eval b X.env)] := by rfl) (he2 : starEach [b] X.env = [(false, eval b X.env)] := by rfl) :
    RE X cl W (.Call (.Name "max" p) [a, b] [] pos) (mOp fMax2 m n) :=
  peW (pe_callB (call_max2 hc) hg hm (by decide +kernel) (pa_cons ha (pa_cons hb pa_nil he2) (by rw [he, he2])) (he := by rw [he, he2]) (hpl := by rw [he2]; rfl)) fun σ H Q ⟨g, env, S, R, q⟩ =>
    upE.imp (bindE R q) fun v H1 ⟨g1, S1, d, l1, R1, r1, q1⟩ => upE.imp (bindE R1 (poE q1 l1)) fun u H2 ⟨g2, S2, e, l2, R2, r2, q2⟩ => by
      have q2 := poE q2 l2
      show ∃ i j, [v, u] = [V.int i, V.int j] ∧ Q (.int (if j > i then j else i)) H2
      cases r1 <;> cases r2 <;> first
        | exact q2.elim
        | exact ⟨_, _, rfl, q2 g2 H2 _ (G.le.refl _) R2 (.int _)⟩
end

/-! ### xs + ys, xs * k of lists -/
def mCat (ma mb : ML) : MO := fun env S => (ma env S).bind fun k S1 => (mb env S1).bind fun l S2 => match ctL env S2 k with
  | some (.l ds) => match ctL env S2 l with
    | some (.l es) => if ds.length + es.length ≤ SZ then .ok (ds ++ es, S2) else .bad
    | _ => .bad
  | _ => .bad
def mRep (ma : ML) (mi : ME) : MO := fun env S => (ma env S).bind fun k S1 => (mi env S1).bind fun y S2 => match ctL env S2 k with
  | some (.l ds) => match y with
    | .int i => if -(2 ^ 63) ≤ i ∧ i < 2 ^ 63 ∧ ds.length * i.toNat ≤ SZ then .ok ((List.replicate i.toNat ds).flatten, S2) else .bad
    | _ => .bad
  | _ => .bad
theorem RpL.rep {K : PySem.W.Frag} {cl : Nat → Addr} {g : G} {ds : List D} {vs : List V} (r : RpL K cl g ds vs) : ∀ n, RpL K cl g (List.replicate n ds).flatten (List.replicate n vs).flatten
  | 0 => .nil
  | n + 1 => by rw [List.replicate_succ, List.replicate_succ, List.flatten_cons, List.flatten_cons]; exact r.app (r.rep n)
section
variable {X : Cx} {cl : Nat → Addr} {W : WX} {pos p : Pos} {a b : Expr} {ma mb : ML} {m : ME}
theorem ro_cat (ha : RB X cl W a ma) (hb : RB X cl W b mb) : RO X cl W (.BinOp a .Add b pos) (mCat ma mb) := peW (pe_op op_cat ha hb) fun σ H Q ⟨g, env, S, R, q⟩ =>
  upB.imp (bindB R q) fun v H1 ⟨g1, S1, k, l1, R1, r1, q1⟩ => upB.imp (bindB R1 (poO q1 l1)) fun u H2 ⟨g2, S2, l, l2, R2, r2, q2⟩ => by
    have q2 := poO q2 l2
    split at q2
    · rename_i ds e1
      obtain ⟨p, vs, rfl, h1, h2⟩ := ct_late R2 (LkR.up l2 r1) e1
      split at q2
      · rename_i es e2
        obtain ⟨p', us, rfl, k1, k2⟩ := ct_late R2 r2 e2
        split at q2
        · rename_i hz
          refine ⟨p, p', vs, us, rfl, rfl, h1, k1, by rw [sz_eq, ← h2.length, ← k2.length]; exact hz, fun z hz' => ?_⟩
          obtain ⟨R4, f4⟩ := fresh_new R2 (h2.app k2) hz'
          exact q2 _ _ _ _ (G.le.refl _) R4 f4
        · exact q2.elim
      · exact q2.elim
    · exact q2.elim
theorem ro_rep (ha : RB X cl W a ma) (hb : RE X cl W b m) : RO X cl W (.BinOp a .Mult b pos) (mRep ma m) := peW (pe_op op_rep ha hb) fun σ H Q ⟨g, env, S, R, q⟩ =>
  upB.imp (bindB R q) fun v H1 ⟨g1, S1, k, l1, R1, r1, q1⟩ => upE.imp (bindE R1 (poO q1 l1)) fun u H2 ⟨g2, S2, y, l2, R2, r2, q2⟩ => by
    have q2 := poO q2 l2
    split at q2
    · rename_i ds e1
      obtain ⟨p, vs, rfl, h1, h2⟩ := ct_late R2 (LkR.up l2 r1) e1
      cases y with
      | int i =>
        cases r2
        dsimp only at q2
        split at q2
        · rename_i hz
          refine ⟨p, i, vs, rfl, rfl, h1, hz.1, hz.2.1, by rw [sz_eq, ← h2.length]; exact hz.2.2, fun z hz' => ?_⟩
          obtain ⟨R4, f4⟩ := fresh_new R2 (h2.rep _) hz'
          exact q2 _ _ _ _ (G.le.refl _) R4 f4
        · exact q2.elim
      | _ => exact q2.elim
    · exact q2.elim
end
end DL

set_option Elab.async false
set_option linter.all false
set_option maxRecDepth 100000
set_option maxHeartbeats 1000000
set_option autoImplicit false
namespace DL
open PySem PySem.Spec PyProof.Rows L2

/-! ### names that are set -/
section
variable {K : PySem.W.Frag} {cl : Nat → Addr} {g g1 : G} {env : Env} {S : Store} {σ : St} {H : Hp}
theorem Rel.setVal (R : Rel K cl g env S σ H) {i : Nat} {d : D} {v : V} (r : Rp K cl g d v) : Rel K cl g (env.set i (some (.val d))) S (σ.set i (some v)) H := by
  refine ⟨R.toRelF, by rw [List.length_set, List.length_set]; exact R.len, fun j e h => ?_, fun j es h => ?_, fun j k es fs h1 h2 h3 => ?_⟩
  · by_cases hj : i = j
    · subst hj
      have hi : i < env.length := by
        have := (List.getElem?_eq_some_iff.mp h).1
        rwa [List.length_set] at this
      rw [List.getElem?_set_self hi] at h
      cases h
      exact ⟨v, List.getElem?_set_self (by rw [← R.len]; exact hi), r⟩
    · rw [List.getElem?_set_ne hj] at h ⊢
      exact R.val j e h
  · by_cases hj : i = j
    · subst hj
      have hi : i < env.length := by
        have := (List.getElem?_eq_some_iff.mp h).1
        rwa [List.length_set] at this
      rw [List.getElem?_set_self hi] at h
      cases h
    · rw [List.getElem?_set_ne hj] at h ⊢
      exact R.own j es h
  · have ne : ∀ (m : Nat) (xs : List D), (env.set i (some (.val d)))[m]? = some (some (.own xs)) → i ≠ m := fun m xs h e => by
      subst e
      have hi : i < env.length := by
        have := (List.getElem?_eq_some_iff.mp h).1
        rwa [List.length_set] at this
      rw [List.getElem?_set_self hi] at h
      cases h
    have n1 := ne j es h1
    have n2 := ne k fs h2
    rw [List.getElem?_set_ne n1] at h1 h3
    rw [List.getElem?_set_ne n2] at h2 h3
    exact R.ownd j k es fs h1 h2 h3
theorem Rel.setOwn (R : Rel K cl g env S σ H) {i : Nat} {ds : List D} {a : Addr} {vs : List V} (f : Fresh K cl g env σ H ds a vs) : Rel K cl g (env.set i (some (.own ds))) S (σ.set i (some (.ref a))) H := by
  refine ⟨R.toRelF, by rw [List.length_set, List.length_set]; exact R.len, fun j e h => ?_, fun j es h => ?_, fun j k es fs h1 h2 h3 => ?_⟩
  · by_cases hj : i = j
    · subst hj
      have hi : i < env.length := by
        have := (List.getElem?_eq_some_iff.mp h).1
        rwa [List.length_set] at this
      rw [List.getElem?_set_self hi] at h
      cases h
    · rw [List.getElem?_set_ne hj] at h ⊢
      exact R.val j e h
  · by_cases hj : i = j
    · subst hj
      have hi : i < env.length := by
        have := (List.getElem?_eq_some_iff.mp h).1
        rwa [List.length_set] at this
      rw [List.getElem?_set_self hi] at h
      cases h
      exact ⟨a, vs, List.getElem?_set_self (by rw [← R.len]; exact hi), f.at_, f.rp, f.f, f.t, f.m⟩
    · rw [List.getElem?_set_ne hj] at h ⊢
      exact R.own j es h
  · have old : ∀ (m : Nat) (xs : List D), i ≠ m → env[m]? = some (some (.own xs)) → σ[m]? ≠ some (some (.ref a)) := fun m xs _ h => f.o m xs h
    have hi : ∀ (xs : List D), (env.set i (some (.own ds)))[i]? = some (some (.own xs)) → i < σ.length := fun xs h => by
      have := (List.getElem?_eq_some_iff.mp h).1
      rw [List.length_set, R.len] at this
      exact this
    by_cases hj : i = j
    · subst hj
      by_cases hk : i = k
      · exact hk
      · exfalso
        rw [List.getElem?_set_ne hk] at h2 h3
        rw [List.getElem?_set_self (hi es h1)] at h3
        exact old k fs hk h2 h3.symm
    · by_cases hk : i = k
      · subst hk
        exfalso
        rw [List.getElem?_set_ne hj] at h1 h3
        rw [List.getElem?_set_self (hi fs h2)] at h3
        exact old j es hj h1 h3
      · rw [List.getElem?_set_ne hj] at h1 h3
        rw [List.getElem?_set_ne hk] at h2 h3
        exact R.ownd j k es fs h1 h2 h3
theorem Rel.setNone (R : Rel K cl g env S σ H) (i : Nat) : Rel K cl g (env.set i none) S (σ.set i none) H := by
  have ne : ∀ (m : Nat) (x : Sl), (env.set i none)[m]? = some (some x) → i ≠ m := fun m x h e => by
    subst e
    have hi : i < env.length := by
      have := (List.getElem?_eq_some_iff.mp h).1
      rwa [List.length_set] at this
    rw [List.getElem?_set_self hi] at h
    cases h
  refine ⟨R.toRelF, by rw [List.length_set, List.length_set]; exact R.len, fun j e h => ?_, fun j es h => ?_, fun j k es fs h1 h2 h3 => ?_⟩
  · have n := ne j _ h
    rw [List.getElem?_set_ne n] at h ⊢
    exact R.val j e h
  · have n := ne j _ h
    rw [List.getElem?_set_ne n] at h ⊢
    exact R.own j es h
  · have n1 := ne j _ h1
    have n2 := ne k _ h2
    rw [List.getElem?_set_ne n1] at h1 h3
    rw [List.getElem?_set_ne n2] at h2 h3
    exact R.ownd j k es fs h1 h2 h3
end
def wipeE (env : Env) : List Nat → Env
  | [] => env
  | v :: vs => (wipeE env vs).set v none
theorem Rel.wipe {K : PySem.W.Frag} {cl : Nat → Addr} {g : G} {env : Env} {S : Store} {σ : St} {H : Hp} (R : Rel K cl g env S σ H) : ∀ vs, Rel K cl g (wipeE env vs) S (L2.wipe σ vs) H
  | [] => R
  | v :: vs => (Rel.wipe R vs).setNone v

/-! ### targets -/
abbrev MG := D → Env → Option Env
abbrev MGs := List D → Env → Option Env
def upG (K : PySem.W.Frag) (cl : Nat → Addr) (ts : List Nat) (m : MG) : TG := fun v σ H Q => ∃ g env S d env', Rel K cl g env S σ H ∧ Rp K cl g d v ∧ m d env = some env' ∧
  ∀ σ', Rel K cl g env' S σ' H → (∀ j, j ∉ ts → σ'[j]? = σ[j]?) → σ'.length = σ.length → Q σ' H
def upGs (K : PySem.W.Frag) (cl : Nat → Addr) (ts : List Nat) (m : MGs) : TGs := fun vs σ H Q => ∃ g env S ds env', Rel K cl g env S σ H ∧ RpL K cl g ds vs ∧ m ds env = some env' ∧
  ∀ σ', Rel K cl g env' S σ' H → (∀ j, j ∉ ts → σ'[j]? = σ[j]?) → σ'.length = σ.length → Q σ' H
def RG (X : Cx) (cl : Nat → Addr) (tg : Expr) (ts : List Nat) (m : MG) : Prop := PG X tg (upG X.K cl ts m)
def RGs (X : Cx) (cl : Nat → Addr) (tgs : List Expr) (ts : List Nat) (m : MGs) : Prop := PGs X tgs (upGs X.K cl ts m)
theorem pgW {X : Cx} {e : Expr} {t t' : TG} (h : PG X e t) (k : ∀ v σ H Q, t' v σ H Q → t v σ H Q) : PG X e t' := ⟨fun pins s σ H v u Q I r q => h.run pins s σ H v u Q I r (k v σ H Q q)⟩
theorem pgsW {X : Cx} {e : List Expr} {t t' : TGs} (h : PGs X e t) (k : ∀ v σ H Q, t' v σ H Q → t v σ H Q) : PGs X e t' := ⟨fun pins s σ H v u Q I r q => h.run pins s σ H v u Q I r (k v σ H Q q)⟩
def mgN (i : Nat) : MG := fun d env => some (env.set i (some (.val d)))
def mgNil : MGs := fun ds env => match ds with
  | [] => some env
  | _ => none
def mgCons (m : MG) (ms : MGs) : MGs := fun ds env => match ds with
  | d :: ds => (m d env).bind (ms ds)
  | _ => none
def mgT (n : Nat) (ms : MGs) : MG := fun d env => match d with
  | .tup ds => if ds.length = n then ms ds env else none
  | _ => none
section
variable {X : Cx} {cl : Nat → Addr} {pos : Pos}
theorem rg_n (i : Nat) {x : Str} (hN : X.N.Nodup) (hi : X.N[i]? = some x) (hx : Loc X.env.scope x) (hf : X.fn x = true ∨ X.env.scope.names.lookup x = some .local := by first | exact .inl rfl | exact .inr rfl | assumption) : RG X cl (.Name x pos) [i] (mgN i) :=
  pgW (pg_name hN hi hx hf) fun v σ H Q ⟨g, env, S, d, env', R, r, e, k⟩ => by
    cases e
    exact k _ (R.setVal r) (fun j hj => List.getElem?_set_ne (by simpa using fun e => hj (by simp [e]))) (by simp)
theorem rgs_nil : RGs X cl [] [] mgNil := pgsW pgs_nil fun v σ H Q ⟨g, env, S, ds, env', R, r, e, k⟩ => by
  cases r with
  | nil => cases e; exact ⟨rfl, k σ R (fun _ _ => rfl) rfl⟩
  | cons => cases e
theorem rgs_cons {e : Expr} {es : List Expr} {t1 t2 : List Nat} {m : MG} {ms : MGs} (h1 : RG X cl e t1 m) (h2 : RGs X cl es t2 ms)
    (hs : (assignEach (e :: es) X.env).map (·.2) = assign e X.env :: (assignEach es X.env).map (·.2) := by rfl) : RGs X cl (e :: es) (t1 ++ t2) (mgCons m ms) :=
  pgsW (pgs_cons h1 h2 hs) fun v σ H Q ⟨g, env, S, ds, env', R, r, e, k⟩ => by
    cases r with
    | nil => cases e
    | cons r1 r2 =>
      obtain ⟨env1, e1, e2⟩ := Option.bind_eq_some_iff.mp e
      refine ⟨_, _, rfl, g, env, S, _, env1, R, r1, e1, fun σ1 R1 n1 l1 => ⟨g, env1, S, _, env', R1, r2, e2, fun σ2 R2 n2 l2 => k σ2 R2 (fun j hj => ?_) (l2.trans l1)⟩⟩
      rw [List.mem_append, not_or] at hj
      exact (n2 j hj.2).trans (n1 j hj.1)
theorem rg_t {es : List Expr} {k n : Nat} {ts : List Nat} {ms : MGs} (hc : X.calm = true) (h : RGs X cl es ts ms)
    (hn : (assignEach es X.env).length = n := by rfl) (hst : (assignEach es X.env).findIdx? (·.1) = none := by rfl) : RG X cl (.Tuple es k pos) ts (mgT n ms) :=
  pgW (pg_tup hc h hn hst) fun v σ H Q ⟨g, env, S, d, env', R, r, e, k⟩ => by
    cases d with
    | tup ds =>
      cases r with
      | @tup a _ vs h1 h2 =>
        have e' : (if ds.length = n then ms ds env else none) = some env' := e
        split at e'
        · rename_i hl
          exact ⟨a, vs, rfl, DL.Same.seqT R.sub h1, by rw [← h2.length]; exact hl, g, env, S, ds, env', R, h2, e', k⟩
        · cases e'
    | _ => cases e
end

/-! ### what is walked -/
structure SrcOk (K : PySem.W.Frag) (cl : Nat → Addr) (g : G) (J : It) (ds : List D) : Prop where
  goes : ∀ (i : Nat) (H : Hp), i < ds.length → Same g.F H → J.go i H
  stops : ∀ (H : Hp), Same g.F H → J.stop ds.length H
  yields : ∀ (i : Nat) (H : Hp) (x : V) (H' : Hp), i < ds.length → Same g.F H → J.yld i H x H' → ∃ d, ds[i]? = some d ∧
    ((H' = H ∧ Rp K cl g d x) ∨ ∃ T vs es, d = .tup es ∧ x = .ref T ∧ H T = none ∧ H' = upd H T (.tup vs) ∧ RpL K cl g es vs)
abbrev MI := Env → Store → Res (List D × Store)
def okI (K : PySem.W.Frag) (cl : Nat → Addr) (g : G) (env : Env) (σ : St) (Rk : It → Hp → Prop) : List D × Store → Prop := fun p => ∀ g' H' J, g.le g' → Rel K cl g' env p.2 σ H' → SrcOk K cl g' J p.1 → Rk J H'
def upI (K : PySem.W.Frag) (cl : Nat → Addr) (W : WX) (m : MI) : TI := fun σ H Rk => ∃ g env S, Rel K cl g env S σ H ∧ Po K cl W g env σ (okI K cl g env σ Rk) (m env S)
def RI (X : Cx) (cl : Nat → Addr) (W : WX) (tg e : Expr) (m : MI) : Prop := PI X tg e (upI X.K cl W m)
theorem piW {X : Cx} {tg e : Expr} {t t' : TI} (h : PI X tg e t) (k : ∀ σ H Q, t' σ H Q → t σ H Q) : PI X tg e t' := ⟨fun pins s σ H Q I q => h.run pins s σ H Q I (k σ H Q q)⟩
section
variable {K : PySem.W.Frag} {cl : Nat → Addr} {g : G}
theorem src_list {a : Addr} {ds : List D} {vs : List V} (h : ∀ H, Same g.F H → SqL K H a vs) (r : RpL K cl g ds vs) : SrcOk K cl g (Itl K a) ds := by
  have w := walk_list (K := K) (a := a) (xs := vs)
  refine ⟨fun i H hi hs => w.goes i H (by rw [← r.length]; exact hi) (h H hs), fun H hs => by rw [r.length]; exact w.stops H (h H hs), fun i H x H' hi hs y => ?_⟩
  obtain ⟨e1, e2⟩ := w.yields i H x H' (by rw [← r.length]; exact hi) (h H hs) y
  obtain ⟨d, e3, r3⟩ := r.get e2
  exact ⟨d, e3, .inl ⟨e1, r3⟩⟩
theorem src_tup {a : Addr} {ds : List D} {vs : List V} (h : ∀ H, Same g.F H → SqT K H a vs) (r : RpL K cl g ds vs) : SrcOk K cl g (Itt K a) ds := by
  have w := walk_tup (K := K) (a := a) (xs := vs)
  refine ⟨fun i H hi hs => w.goes i H (by rw [← r.length]; exact hi) (h H hs), fun H hs => by rw [r.length]; exact w.stops H (h H hs), fun i H x H' hi hs y => ?_⟩
  obtain ⟨e1, e2⟩ := w.yields i H x H' (by rw [← r.length]; exact hi) (h H hs) y
  obtain ⟨d, e3, r3⟩ := r.get e2
  exact ⟨d, e3, .inl ⟨e1, r3⟩⟩
/-- lo, lo + 1, .. -/
def rng (lo : Int) (n : Nat) : List D := (List.range n).map fun i => .int (lo + (i : Nat))
theorem rng_len (lo : Int) (n : Nat) : (rng lo n).length = n := by simp [rng]
theorem rng_get {lo : Int} {n i : Nat} (h : i < n) : (rng lo n)[i]? = some (.int (lo + (i : Nat))) := by simp [rng, h]
theorem src_rng {lo : Int} {n : Nat} : SrcOk K cl g (Itr lo n) (rng lo n) := by
  refine ⟨fun i H hi _ => by rw [rng_len] at hi; exact hi, fun H _ => by rw [rng_len]; exact Nat.le_refl _, fun i H x H' hi _ y => ?_⟩
  rw [rng_len] at hi
  obtain ⟨e1, e2⟩ := y
  exact ⟨_, rng_get hi, .inl ⟨e1, e2 ▸ .int _⟩⟩
/-- the signs of a text -/
def signs (z : Str) : List D := z.cps.toList.map fun c => .str ⟨#[c]⟩
theorem src_str {z : Str} : SrcOk K cl g (Its z) (signs z) := by
  have hl : (signs z).length = z.cps.size := by simp [signs]
  refine ⟨fun i H hi _ => by rw [hl] at hi; exact hi, fun H _ => by rw [hl]; exact Nat.le_refl _, fun i H x H' hi _ y => ?_⟩
  obtain ⟨e1, c, e2, e3⟩ := y
  exact ⟨.str ⟨#[c]⟩, by simp [signs, e2], .inl ⟨e1, e3 ▸ .str _⟩⟩
theorem rev_get {α : Type} {l : List α} {i : Nat} (h : i < l.length) : l.reverse[i]? = l[l.length - 1 - i]? := List.getElem?_reverse h
theorem src_rev {a : Addr} {ds : List D} {vs : List V} (h : ∀ H, Same g.F H → SqL K H a vs) (r : RpL K cl g ds vs) : SrcOk K cl g (Itv K a vs.length) ds.reverse := by
  have w := walk_rev (K := K) (a := a) (xs := vs)
  have hl : ds.reverse.length = vs.length := by rw [List.length_reverse]; exact r.length
  refine ⟨fun i H hi hs => w.goes i H (by rw [← hl]; exact hi) (h H hs), fun H hs => by rw [hl]; exact w.stops H (h H hs), fun i H x H' hi hs y => ?_⟩
  obtain ⟨e1, e2⟩ := w.yields i H x H' (by rw [← hl]; exact hi) (h H hs) y
  obtain ⟨d, e3, r3⟩ := r.get e2
  refine ⟨d, ?_, .inl ⟨e1, r3⟩⟩
  rw [rev_get (by rw [List.length_reverse] at hi; exact hi), r.length]
  exact e3
theorem src_revT {a : Addr} {ds : List D} {vs : List V} (h : ∀ H, Same g.F H → SqT K H a vs) (r : RpL K cl g ds vs) : SrcOk K cl g (_root_.RT.ItvT K a vs.length) ds.reverse := by
  have hl : ds.reverse.length = vs.length := by rw [List.length_reverse]; exact r.length
  refine ⟨fun i H hi hs => ?_, fun H hs => ?_, fun i H x H' hi hs y => ?_⟩
  · rw [hl] at hi
    exact ⟨hi, vs, vs[vs.length - 1 - i]'(by omega), h H hs, by simp [show vs.length - 1 - i < vs.length by omega]⟩
  · rw [hl]; exact Nat.le_refl _
  · obtain ⟨e1, e2⟩ := y
    obtain ⟨d, e3, r3⟩ := r.get (e2 vs (h H hs))
    refine ⟨d, ?_, .inl ⟨e1, r3⟩⟩
    rw [rev_get (by rw [List.length_reverse] at hi; exact hi), r.length]
    exact e3
def enumD (ds : List D) : List D := ds.zipIdx.map fun p => .tup [.int (p.2 : Nat), p.1]
theorem src_enum {a : Addr} {ds : List D} {vs : List V} (h : ∀ H, Same g.F H → SqL K H a vs) (r : RpL K cl g ds vs) : SrcOk K cl g (Ite K a) (enumD ds) := by
  have w := walk_enum (K := K) (a := a) (xs := vs)
  have hl : (enumD ds).length = vs.length := by simp [enumD, r.length]
  refine ⟨fun i H hi hs => w.goes i H (by rw [← hl]; exact hi) (h H hs), fun H hs => by rw [hl]; exact w.stops H (h H hs), fun i H x H' hi hs y => ?_⟩
  obtain ⟨T, x1, x2, e0, e1, e2, e3, e4⟩ := w.yields i H x H' (by rw [← hl]; exact hi) (h H hs) y
  obtain ⟨d, e5, r5⟩ := r.get e4
  cases e3
  exact ⟨.tup [.int (i : Nat), d], by simp [enumD, e5], .inr ⟨T, _, _, rfl, e0, e1, e2, .cons (.int _) (.cons r5 .nil)⟩⟩
def zipD (ds es : List D) : List D := (ds.zip es).map fun p => .tup [p.1, p.2]
theorem src_zip {a b : Addr} {ds es : List D} {vs us : List V} (h : ∀ H, Same g.F H → SqL K H a vs) (h' : ∀ H, Same g.F H → SqL K H b us) (r : RpL K cl g ds vs) (r' : RpL K cl g es us) : SrcOk K cl g (Itz K a b) (zipD ds es) := by
  have w := walk_zip (K := K) (a := a) (b := b) (xs := vs) (ys := us) rfl
  have hl : (zipD ds es).length = min vs.length us.length := by simp [zipD, r.length, r'.length]
  refine ⟨fun i H hi hs => w.goes i H (by rw [← hl]; exact hi) ⟨h H hs, h' H hs⟩, fun H hs => by rw [hl]; exact w.stops H ⟨h H hs, h' H hs⟩, fun i H x H' hi hs y => ?_⟩
  obtain ⟨T, x1, x2, e0, e1, e2, e3, e4⟩ := w.yields i H x H' (by rw [← hl]; exact hi) ⟨h H hs, h' H hs⟩ y
  obtain ⟨d, e5, r5⟩ := r.get e3
  obtain ⟨d', e6, r6⟩ := r'.get e4
  exact ⟨.tup [d, d'], by simp [zipD, List.getElem?_zip_eq_some, e5, e6], .inr ⟨T, _, _, rfl, e0, e1, e2, .cons r5 (.cons r6 .nil)⟩⟩
end
end DL

set_option Elab.async false
set_option linter.all false
set_option maxRecDepth 100000
set_option maxHeartbeats 1000000
set_option autoImplicit false
namespace DL
open PySem PySem.Spec PyProof.Rows L2

section
variable {K : PySem.W.Frag} {cl : Nat → Addr} {W : WX} {g g1 : G} {env : Env} {S : Store} {σ : St} {H : Hp}
theorem okI.up {Q : It → Hp → Prop} {p : List D × Store} (h : okI K cl g env σ Q p) (le : g.le g1) : okI K cl g1 env σ Q p := fun g' H' v l R r => h g' H' v (le.trans l) R r
theorem poI {Q : It → Hp → Prop} {r : Res (List D × Store)} (h : Po K cl W g env σ (okI K cl g env σ Q) r) (le : g.le g1) : Po K cl W g1 env σ (okI K cl g1 env σ Q) r := h.up le fun _ x => x.up le
theorem bindI {α : Type} {P : α → Prop} {ma : MI} {k : List D → Store → Res α} (R : Rel K cl g env S σ H) (h : Po K cl W g env σ P ((ma env S).bind k)) :
    upI K cl W ma σ H fun J H1 => ∃ g1 S1 ds, g.le g1 ∧ Rel K cl g1 env S1 σ H1 ∧ SrcOk K cl g1 J ds ∧ Po K cl W g env σ P (k ds S1) := by
  refine ⟨g, env, S, R, ?_⟩
  cases e : ma env S with
  | ok p => rw [e] at h; exact fun g' H' v le R' r => ⟨g', p.2, p.1, le, R', r, h⟩
  | exc x S' => rw [e] at h; exact h
  | bad => rw [e] at h; exact h
theorem upI.imp {m : MI} {Q Q' : It → Hp → Prop} (h : upI K cl W m σ H Q) (k : ∀ v H', Q v H' → Q' v H') : upI K cl W m σ H Q' := by
  obtain ⟨g, env, S, R, q⟩ := h
  exact ⟨g, env, S, R, q.up (G.le.refl _) fun p hp g' H' v l R r => k _ _ (hp g' H' v l R r)⟩
end
/-! ### sources -/
def iSeq (K : PySem.W.Frag) (te : TE) : TI := fun σ H Rk => te σ H fun v H1 => (∃ a, v = .ref a ∧ (∃ xs, SqL K H1 a xs) ∧ Rk (Itl K a) H1) ∨ (∃ a, v = .ref a ∧ (∃ xs, SqT K H1 a xs) ∧ Rk (Itt K a) H1) ∨ ∃ x, v = .str x ∧ Rk (Its x) H1
theorem pi_seq {X : Cx} {tg l : Expr} {tl : TE} (hl : PE X l tl) : PI X tg l (iSeq X.K tl) := by
  refine ⟨fun pins s σ H R I h => ?_⟩
  refine thn (hl.run pins s σ H _ I h) fun v s1 ⟨x, H1, I1, r1, q1⟩ => ?_
  rcases q1 with ⟨a, rfl, ⟨xs, hq⟩, q⟩ | ⟨a, rfl, ⟨xs, hq⟩, q⟩ | ⟨z, rfl, q⟩
  · cases r1
    obtain ⟨its, rv, p, hz⟩ := I1.list hq
    exact wpAny_pyIter_list p.isList (pi_one (tk := s1.toks) I1 _ (turn_list a _) ⟨_, Heap.get?_push_size _ rfl, rfl, rfl⟩ q)
  · cases r1
    obtain ⟨its, rv, p, hz⟩ := I1.tuple hq
    exact wpAny_pyIter_tuple (show s1.heap.IsTuple a its.toArray from p) (pi_one (tk := s1.toks) I1 _ (turn_tuple a _) ⟨_, Heap.get?_push_size _ rfl, rfl, rfl⟩ q)
  · obtain ⟨t, rfl⟩ := r1
    cases ha : z.cps.all (· < 128) with
    | false => exact wpAny_pyIter_wide ha (pi_one (tk := s1.toks) I1 _ (turn_str _ z t "str_iterator" (.inr rfl)) ⟨_, Heap.get?_push_size _ rfl, rfl, rfl⟩ q)
    | true => exact wpAny_pyIter_ascii ha (pi_one (tk := s1.toks) I1 _ (turn_str _ z t "str_ascii_iterator" (.inl rfl)) ⟨_, Heap.get?_push_size _ rfl, rfl, rfl⟩ q)
/-- the items that a value gives when it is walked -/
def walkD : D → Option (List D)
  | .lst ds => some ds
  | .tup ds => some ds
  | .str z => some (signs z)
  | .scr ns => some (ns.map .int)
  | _ => none
def miV (m : ME) : MI := fun env S => (m env S).bind fun d S1 => match walkD d with
  | some ds => .ok (ds, S1)
  | none => .bad
def miR1 (m : ME) : MI := fun env S => (m env S).bind fun d S1 => match d with
  | .int j => if -(2 ^ 62) ≤ j ∧ j < 2 ^ 62 then .ok (rng 0 j.toNat, S1) else .bad
  | _ => .bad
def miR2 (m n : ME) : MI := fun env S => (m env S).bind fun d S1 => (n env S1).bind fun e S2 => match d, e with
  | .int i, .int j => if -(2 ^ 62) ≤ i ∧ i < 2 ^ 62 ∧ -(2 ^ 62) ≤ j ∧ j < 2 ^ 62 then .ok (rng i (j - i).toNat, S2) else .bad
  | _, _ => .bad
def miRev (m : ME) : MI := fun env S => (m env S).bind fun d S1 => match d with
  | .lst ds => .ok (ds.reverse, S1)
  | .tup ds => .ok (ds.reverse, S1)
  | _ => .bad
def miEnum (m : ME) : MI := fun env S => (m env S).bind fun d S1 => match d with
  | .lst ds => .ok (enumD ds, S1)
  | _ => .bad
def miZip (m n : ME) : MI := fun env S => (m env S).bind fun d S1 => (n env S1).bind fun e S2 => match d, e with
  | .lst ds, .lst es => .ok (zipD ds es, S2)
  | .tup ds, .tup es => .ok (zipD ds es, S2)
  | _, _ => .bad
section
variable {K : PySem.W.Frag} {cl : Nat → Addr} {g : G}
theorem src_zipT {a b : Addr} {ds es : List D} {vs us : List V} (h : ∀ H, Same g.F H → SqT K H a vs) (h' : ∀ H, Same g.F H → SqT K H b us) (r : RpL K cl g ds vs) (r' : RpL K cl g es us) : SrcOk K cl g (RZ.ItzT K a b) (zipD ds es) := by
  have hl : (zipD ds es).length = min vs.length us.length := by simp [zipD, r.length, r'.length]
  refine ⟨fun i H hi hs => ?_, fun H hs => ?_, fun i H x H' hi hs y => ?_⟩
  · rw [hl] at hi
    have h1 : i < vs.length := by omega
    have h2 : i < us.length := by omega
    exact ⟨vs, us, vs[i], us[i], h H hs, h' H hs, by simp [h1], by simp [h2]⟩
  · exact ⟨vs, us, h H hs, h' H hs, by omega⟩
  · obtain ⟨T, x1, x2, e0, e1, e2, e3, e4⟩ := y
    obtain ⟨d, e5, r5⟩ := r.get (e3 vs (h H hs))
    obtain ⟨d', e6, r6⟩ := r'.get (e4 us (h' H hs))
    exact ⟨.tup [d, d'], by simp [zipD, List.getElem?_zip_eq_some, e5, e6], .inr ⟨T, _, _, rfl, e0, e1, e2, .cons r5 (.cons r6 .nil)⟩⟩
end
section
variable {X : Cx} {cl : Nat → Addr} {W : WX} {pos p : Pos} {tg a b : Expr} {m n : ME}
theorem ri_v (h : RE X cl W a m) : RI X cl W tg a (miV m) := piW (pi_seq h) fun σ H Q ⟨g, env, S, R, q⟩ => upE.imp (bindE R q) fun v H1 ⟨g1, S1, d, l1, R1, r1, q1⟩ => by
  have q1 := poI q1 l1
  cases d with
  | str z =>
    cases r1
    exact .inr (.inr ⟨_, rfl, q1 g1 H1 _ (G.le.refl _) R1 src_str⟩)
  | tup ds => cases r1 with
    | @tup a _ vs h1 h2 => exact .inr (.inl ⟨a, rfl, ⟨vs, DL.Same.seqT R1.sub h1⟩, q1 g1 H1 _ (G.le.refl _) R1 (src_tup (fun H hs => DL.Same.seqT hs h1) h2)⟩)
  | lst ds => cases r1 with
    | @lst a _ vs h1 h2 => exact .inl ⟨a, rfl, ⟨vs, SqL.of (R1.sub _ _ h1)⟩, q1 g1 H1 _ (G.le.refl _) R1 (src_list (fun H hs => SqL.of (hs _ _ h1)) h2)⟩
  | scr ns => cases r1 with
    | @scr a _ h1 => exact .inl ⟨a, rfl, ⟨_, L2.Same.seq R1.sub h1⟩, q1 g1 H1 _ (G.le.refl _) R1 (src_list (fun H hs => L2.Same.seq hs h1) (RpL.ofInts ns))⟩
  | _ => exact q1.elim
theorem ri_r1 (hg : Gl X "range") (hm : X.mg "range" = none) (h : RE X cl W a m) (hs : starEach [a] X.env = [(false, eval a X.env)] := by rfl) : RI X cl W tg (.Call (.Name "range" p) [a] [] pos) (miR1 m) :=
  piW (pi_range1 hg hm (pa_cons h pa_nil hs) hs) fun σ H Q ⟨g, env, S, R, q⟩ => upE.imp (bindE R q) fun v H1 ⟨g1, S1, d, l1, R1, r1, q1⟩ => by
    show ∃ j : Int, [v] = [V.int j] ∧ -(2 ^ 62) ≤ j ∧ j < 2 ^ 62 ∧ Q (Itr 0 j.toNat) H1
    have q1 := poI q1 l1
    cases d with
    | int j =>
      cases r1
      dsimp only at q1
      split at q1
      · rename_i hz
        exact ⟨j, rfl, hz.1, hz.2, q1 g1 H1 _ (G.le.refl _) R1 src_rng⟩
      · exact q1.elim
    | _ => exact q1.elim
theorem ri_r2 (hg : Gl X "range") (hm : X.mg "range" = none) (h : RE X cl W a m) (k : RE X cl W b n) (hs : starEach [a, b] X.env = [(false, eval a X.env), (false, eval b X.env)] := by rfl) (hs2 : starEach [b] X.env = [(false, eval b X.env)] := by rfl) :
    RI X cl W tg (.Call (.Name "range" p) [a, b] [] pos) (miR2 m n) :=
  piW (pi_range2 hg hm (pa_cons h (pa_cons k pa_nil hs2) (by rw [hs, hs2])) hs hs2) fun σ H Q ⟨g, env, S, R, q⟩ => upE.imp (bindE R q) fun v H1 ⟨g1, S1, d, l1, R1, r1, q1⟩ => upE.imp (bindE R1 (poI q1 l1)) fun u H2 ⟨g2, S2, e, l2, R2, r2, q2⟩ => by
    show ∃ i j : Int, [v, u] = [V.int i, V.int j] ∧ (-(2 ^ 62) ≤ i ∧ i < 2 ^ 62 ∧ -(2 ^ 62) ≤ j ∧ j < 2 ^ 62) ∧ Q (Itr i (j - i).toNat) H2
    have q2 := poI q2 l2
    cases d with
    | int i =>
      cases r1
      cases e with
      | int j =>
        cases r2
        dsimp only at q2
        split at q2
        · rename_i hz
          exact ⟨i, j, rfl, hz, q2 g2 H2 _ (G.le.refl _) R2 src_rng⟩
        · exact q2.elim
      | _ => exact q2.elim
    | _ => exact q2.elim
theorem ri_rev (hg : Gl X "reversed") (hm : X.mg "reversed" = none) (h : RE X cl W a m) (hs : starEach [a] X.env = (false, eval a X.env) :: starEach [] X.env := by rfl) : RI X cl W tg (.Call (.Name "reversed" p) [a] [] pos) (miRev m) :=
  piW (_root_.RT.pi_revA hg hm h hs) fun σ H Q ⟨g, env, S, R, q⟩ => upE.imp (bindE R q) fun v H1 ⟨g1, S1, d, l1, R1, r1, q1⟩ => by
    have q1 := poI q1 l1
    cases d with
    | tup ds => cases r1 with
      | @tup a _ vs h1 h2 => exact ⟨a, vs, rfl, .inr ⟨DL.Same.seqT R1.sub h1, q1 g1 H1 _ (G.le.refl _) R1 (src_revT (fun H hs => DL.Same.seqT hs h1) h2)⟩⟩
    | lst ds => cases r1 with
      | @lst a _ vs h1 h2 => exact ⟨a, vs, rfl, .inl ⟨SqL.of (R1.sub _ _ h1), q1 g1 H1 _ (G.le.refl _) R1 (src_rev (fun H hs => SqL.of (hs _ _ h1)) h2)⟩⟩
    | _ => exact q1.elim
theorem ri_enum {elts : List Expr} {kk : Nat} {tpos : Pos} (hg : Gl X "enumerate") (hm : X.mg "enumerate" = none) (h : RE X cl W a m) (hs : starEach [a] X.env = [(false, eval a X.env)] := by rfl) : RI X cl W (.Tuple elts kk tpos) (.Call (.Name "enumerate" p) [a] [] pos) (miEnum m) :=
  piW (pi_enum hg hm (pa_cons h pa_nil hs) hs) fun σ H Q ⟨g, env, S, R, q⟩ => upE.imp (bindE R q) fun v H1 ⟨g1, S1, d, l1, R1, r1, q1⟩ => by
    show ∃ a xs, [v] = [V.ref a] ∧ SqL X.K H1 a xs ∧ Q (Ite X.K a) H1
    have q1 := poI q1 l1
    cases d with
    | lst ds => cases r1 with
      | @lst a _ vs h1 h2 => exact ⟨a, vs, rfl, SqL.of (R1.sub _ _ h1), q1 g1 H1 _ (G.le.refl _) R1 (src_enum (fun H hs => SqL.of (hs _ _ h1)) h2)⟩
    | _ => exact q1.elim
theorem ri_zip {elts : List Expr} {kk : Nat} {tpos : Pos} (hg : Gl X "zip") (hm : X.mg "zip" = none) (h : RE X cl W a m) (k : RE X cl W b n) (hs : starEach [a, b] X.env = [(false, eval a X.env), (false, eval b X.env)] := by rfl) (hs2 : starEach [b] X.env = [(false, eval b X.env)] := by rfl) :
    RI X cl W (.Tuple elts kk tpos) (.Call (.Name "zip" p) [a, b] [] pos) (miZip m n) :=
  piW (RZ.pi_zipA hg hm (pa_cons h (pa_cons k pa_nil hs2) (by rw [hs, hs2])) (by rw [hs, hs2]) (by rw [hs2]; rfl)) fun σ H Q ⟨g, env, S, R, q⟩ => upE.imp (bindE R q) fun v H1 ⟨g1, S1, d, l1, R1, r1, q1⟩ => upE.imp (bindE R1 (poI q1 l1)) fun u H2 ⟨g2, S2, e, l2, R2, r2, q2⟩ => by
    show ∃ a b xs ys, [v, u] = [V.ref a, V.ref b] ∧ ((SqL X.K H2 a xs ∧ SqL X.K H2 b ys ∧ Q (Itz X.K a b) H2) ∨ (SqT X.K H2 a xs ∧ SqT X.K H2 b ys ∧ Q (RZ.ItzT X.K a b) H2))
    have q2 := poI q2 l2
    have r1 := Rp.up l2 _ _ r1
    cases d with
    | lst ds =>
      cases e with
      | lst es =>
        cases r1 with
        | @lst a _ vs h1 h2 =>
          cases r2 with
          | @lst b _ us k1 k2 => exact ⟨a, b, vs, us, rfl, .inl ⟨SqL.of (R2.sub _ _ h1), SqL.of (R2.sub _ _ k1), q2 g2 H2 _ (G.le.refl _) R2 (src_zip (fun H hs => SqL.of (hs _ _ h1)) (fun H hs => SqL.of (hs _ _ k1)) h2 k2)⟩⟩
      | _ => exact q2.elim
    | tup ds =>
      cases e with
      | tup es =>
        cases r1 with
        | @tup a _ vs h1 h2 =>
          cases r2 with
          | @tup b _ us k1 k2 => exact ⟨a, b, vs, us, rfl, .inr ⟨DL.Same.seqT R2.sub h1, DL.Same.seqT R2.sub k1, q2 g2 H2 _ (G.le.refl _) R2 (src_zipT (fun H hs => DL.Same.seqT hs h1) (fun H hs => DL.Same.seqT hs k1) h2 k2)⟩⟩
      | _ => exact q2.elim
    | _ => exact q2.elim
end

/-! ### what a target leaves as it is -/
def TgOk (ts : List Nat) (m : MG) : Prop := ∀ d env env', m d env = some env' → ∀ j : Nat, j ∉ ts → env'[j]? = env[j]?
def TgsOk (ts : List Nat) (m : MGs) : Prop := ∀ d env env', m d env = some env' → ∀ j : Nat, j ∉ ts → env'[j]? = env[j]?
theorem to_n (i : Nat) : TgOk [i] (mgN i) := fun d env env' e j hj => by
  cases e
  exact List.getElem?_set_ne (by simpa using fun e => hj (by simp [e]))
theorem to_nil : TgsOk [] mgNil := fun ds env env' e j hj => by
  cases ds <;> cases e
  rfl
theorem to_cons {t1 t2 : List Nat} {m : MG} {ms : MGs} (h1 : TgOk t1 m) (h2 : TgsOk t2 ms) : TgsOk (t1 ++ t2) (mgCons m ms) := fun ds env env' e j hj => by
  cases ds with
  | nil => cases e
  | cons d ds =>
    obtain ⟨env1, e1, e2⟩ := Option.bind_eq_some_iff.mp e
    rw [List.mem_append, not_or] at hj
    exact (h2 _ _ _ e2 j hj.2).trans (h1 _ _ _ e1 j hj.1)
theorem to_t {n : Nat} {ts : List Nat} {ms : MGs} (h : TgsOk ts ms) : TgOk ts (mgT n ms) := fun d env env' e j hj => by
  cases d with
  | tup ds =>
    have e' : (if ds.length = n then ms ds env else none) = some env' := e
    split at e'
    · exact h _ _ _ e' j hj
    · cases e'
  | _ => cases e

/-! ### comprehensions -/
abbrev W0 : WX := fun _ _ _ _ => False
def Res.bindN {α β : Type} (r : Res (α × Store)) (k : α → Store → Res β) : Res β :=
  match r with
  | .ok (a, S) => k a S
  | _ => .bad
def noOwn (env : Env) (vs : List Nat) : Bool := vs.all fun i => match env[i]? with
  | some (some (.own _)) => false
  | _ => true
def compL (vs : List Nat) (tg : MG) (tt : MT) (te : ME) (env : Env) : List D → Store → Res (List D × Store)
  | [], S => .ok ([], S)
  | d :: ds, S => match tg d (wipeE env vs) with
    | none => .bad
    | some env1 => (tt env1 S).bindN fun b S1 => if b = true then (te env1 S1).bindN fun y S2 => (compL vs tg tt te env ds S2).bindN fun ys S3 => .ok (y :: ys, S3) else compL vs tg tt te env ds S1
def mComp (vs : List Nat) (mi : MI) (tg : MG) (tt : MT) (te : ME) : MO := fun env S =>
  if noOwn env vs = true then (mi env S).bind fun ds S1 => if ds.length ≤ SZ then (compL vs tg tt te env ds S1).bindN fun ys S2 => .ok (ys, S2) else .bad else .bad
def mYes : MT := fun _ S => .ok (true, S)
def RTs (X : Cx) (cl : Nat → Addr) (W : WX) (ifs : List Expr) (m : MT) : Prop := PTs X ifs (upT X.K cl W m)
section
variable {X : Cx} {cl : Nat → Addr} {W : WX}
theorem rts_nil : RTs X cl W [] mYes := ⟨fun pins s σ H Q I ⟨g, env, S, R, q⟩ => pts_nil.run pins s σ H Q I (q g H (G.le.refl g) R)⟩
theorem rts_one {c : Expr} {m : MT} (h : RT X cl W c m) : RTs X cl W [c] m := pts_one h
end
theorem wipeE_out {env : Env} {j : Nat} : ∀ {vs : List Nat}, j ∉ vs → (wipeE env vs)[j]? = env[j]?
  | [], _ => rfl
  | v :: vs, h => by
    have h1 : v ≠ j := fun e => h (by rw [e]; exact List.mem_cons_self)
    have h2 : j ∉ vs := fun e => h (List.mem_cons_of_mem _ e)
    unfold wipeE
    rw [List.getElem?_set_ne h1, wipeE_out h2]
theorem wipe_in {σ : St} {j : Nat} : ∀ {vs : List Nat}, j ∈ vs → j < σ.length → (L2.wipe σ vs)[j]? = some none
  | v :: vs, h, hl => by
    unfold L2.wipe
    by_cases e : v = j
    · subst e; rw [List.getElem?_set_self (by rw [L2.wipe_length]; exact hl)]
    · rw [List.getElem?_set_ne e]
      exact wipe_in ((List.mem_cons.mp h).resolve_left fun z => e z.symm) hl
theorem wipe_same {σ σ' : St} {vs ts : List Nat} (ht : ∀ i ∈ ts, i ∈ vs) (h : ∀ j : Nat, j ∉ ts → σ'[j]? = (L2.wipe σ vs)[j]?) (hl : σ'.length = (L2.wipe σ vs).length) : L2.wipe σ' vs = L2.wipe σ vs := by
  apply List.ext_getElem?
  intro j
  rw [L2.wipe_length] at hl
  by_cases hj : j ∈ vs
  · by_cases hlt : j < σ.length
    · rw [wipe_in hj hlt, wipe_in hj (by rw [hl]; exact hlt)]
    · rw [List.getElem?_eq_none (by rw [L2.wipe_length]; omega), List.getElem?_eq_none (by rw [L2.wipe_length]; omega)]
  · rw [L2.wipe_out hj, h j fun z => hj (ht j z)]
section
variable {K : PySem.W.Frag} {cl : Nat → Addr} {W : WX} {g g1 : G} {env env1 : Env} {S : Store} {σ : St} {H : Hp}
theorem bindTN {α : Type} {m : MT} {k : Bool → Store → Res α} {PP : Res α → Prop} (hb : ¬ PP .bad) (R : Rel K cl g env S σ H) (h : PP ((m env S).bindN k)) :
    upT K cl W0 m σ H fun b H1 => ∃ g1 S1, g.le g1 ∧ Rel K cl g1 env S1 σ H1 ∧ PP (k b S1) := by
  refine ⟨g, env, S, R, ?_⟩
  cases e : m env S with
  | ok p => rw [e] at h; exact fun g' H' le R' => ⟨g', p.2, le, R', h⟩
  | exc x S' => rw [e] at h; exact (hb h).elim
  | bad => rw [e] at h; exact (hb h).elim
theorem bindEN {α : Type} {m : ME} {k : D → Store → Res α} {PP : Res α → Prop} (hb : ¬ PP .bad) (R : Rel K cl g env S σ H) (h : PP ((m env S).bindN k)) :
    upE K cl W0 m σ H fun v H1 => ∃ g1 S1 d, g.le g1 ∧ Rel K cl g1 env S1 σ H1 ∧ Rp K cl g1 d v ∧ PP (k d S1) := by
  refine ⟨g, env, S, R, ?_⟩
  cases e : m env S with
  | ok p => rw [e] at h; exact fun g' H' v le R' r => ⟨g', p.2, p.1, le, R', r, h⟩
  | exc x S' => rw [e] at h; exact (hb h).elim
  | bad => rw [e] at h; exact (hb h).elim
/-- the fresh list is kept while other things are done -/
def G.prot (g : G) (a : Addr) (o : HO) : G := { g with T := upd g.T a o }
theorem Fresh.prot {ds : List D} {a : Addr} {vs : List V} (R : Rel K cl g env S σ H) (f : Fresh K cl g env σ H ds a vs) : Rel K cl (g.prot a (.lst vs)) env S σ H := by
  have rp : ∀ d v, Rp K cl g d v → Rp K cl (g.prot a (.lst vs)) d v := fun d v => Rp.ups (g := g) (g' := g.prot a (.lst vs)) (Same.refl _) (fun _ _ e => e) d v
  have rpl : ∀ d v, RpL K cl g d v → RpL K cl (g.prot a (.lst vs)) d v := fun d v => RpL.ups (g := g) (g' := g.prot a (.lst vs)) (Same.refl _) (fun _ _ e => e) d v
  refine ⟨⟨R.sub, fun b u e => ?_, fun b => ?_, R.st, fun n o b e1 e2 => ?_, fun b hb => ?_, R.nd⟩, R.len, fun i d e => ?_, fun i es e => ?_, R.ownd⟩
  · by_cases hb : b = a
    · subst hb
      have e' : upd g.T b _ b = some u := e
      rw [upd_same] at e'
      rw [f.at_]; exact e'
    · have e' : upd g.T a _ b = some u := e
      rw [upd_ne hb] at e'
      exact R.prot b u e'
  · by_cases hb : b = a
    · subst hb; exact .inl f.f
    · show _ ∨ upd g.T a _ b = none
      rw [upd_ne hb]
      exact R.dis b
  · have h := R.sto n o b e1 e2
    cases o with
    | lst ds => obtain ⟨us, q, r⟩ := h; exact ⟨us, q, rpl _ _ r⟩
    | ins c ks ds => obtain ⟨dx, us, q, l, r⟩ := h; exact ⟨dx, us, q, l, rpl _ _ r⟩
  · have hne : b ≠ a := fun z => f.m (z ▸ hb)
    refine ⟨(R.muF b hb).1, ?_⟩
    show upd g.T a _ b = none
    rw [upd_ne hne]
    exact (R.muF b hb).2
  · obtain ⟨v, e1, r⟩ := R.val i d e
    exact ⟨v, e1, rp _ _ r⟩
  · obtain ⟨b, us, e1, e2, r, q1, q2, q3⟩ := R.own i es e
    have hne : b ≠ a := fun z => f.o i es e (z ▸ e1)
    refine ⟨b, us, e1, e2, rpl _ _ r, q1, ?_, q3⟩
    show upd g.T a _ b = none
    rw [upd_ne hne]
    exact q2
/-- behind a turn: the list that grew, the names as they were -/
theorem comp_back {vs : List Nat} {g4 : G} {S4 : Store} {σ2 : St} {H4 : Hp} {aD aD' : List D} {aV aV' : List V} {Dd : Addr} (no : noOwn env vs = true) (R : Rel K cl g env S σ H) (f : Fresh K cl g env σ H aD Dd aV) (le : (g.prot Dd (.lst aV)).le g4)
    (R4 : Rel K cl g4 env1 S4 σ2 H4) (ag : ∀ j : Nat, j ∉ vs → env1[j]? = env[j]?) (ags : ∀ j : Nat, j ∉ vs → σ2[j]? = σ[j]?) (r' : RpL K cl g4 aD' aV') :
    g.le { g4 with T := g.T } ∧ Rel K cl { g4 with T := g.T } env S4 σ (upd H4 Dd (.lst aV')) ∧ Fresh K cl { g4 with T := g.T } env σ (upd H4 Dd (.lst aV')) aD' Dd aV' := by
  obtain ⟨le1, le2, le3⟩ := le
  have le2' : g4.T = upd g.T Dd (.lst aV) := le2
  have hT : g4.T Dd = some (.lst aV) := by rw [le2', upd_same]
  have hF : g4.F Dd = none := (R4.dis Dd).resolve_right (by rw [hT]; simp)
  have hH : H4 Dd = some (.lst aV) := R4.prot _ _ hT
  have hm : Dd ∉ g4.mu := fun z => by have := (R4.muF Dd z).2; rw [hT] at this; cases this
  have rp : ∀ d v, Rp K cl g4 d v → Rp K cl { g4 with T := g.T } d v := fun d v => Rp.ups (g := g4) (g' := { g4 with T := g.T }) (Same.refl _) (fun _ _ e => e) d v
  have rpl : ∀ d v, RpL K cl g4 d v → RpL K cl { g4 with T := g.T } d v := fun d v => RpL.ups (g := g4) (g' := { g4 with T := g.T }) (Same.refl _) (fun _ _ e => e) d v
  have lg : g.le { g4 with T := g.T } := ⟨le1, rfl, le3⟩
  have ownOut : ∀ (i : Nat) (es : List D), env[i]? = some (some (.own es)) → i ∉ vs := fun i es e hi => by
    have := (List.all_eq_true.mp no) i hi
    rw [e] at this
    cases this
  have own4 : ∀ (i : Nat) (es : List D), env[i]? = some (some (.own es)) → ∃ a us, σ[i]? = some (some (.ref a)) ∧ H4 a = some (.lst us) ∧ RpL K cl g4 es us ∧ g4.F a = none ∧ g4.T a = none ∧ a ∉ g4.mu := fun i es e => by
    have hi := ownOut i es e
    obtain ⟨a, us, e1, r⟩ := R4.own i es (by rw [ag i hi]; exact e)
    exact ⟨a, us, by rw [← ags i hi]; exact e1, r⟩
  have ownNe : ∀ (i : Nat) (es : List D), env[i]? = some (some (.own es)) → σ[i]? ≠ some (some (.ref Dd)) := f.o
  refine ⟨lg, ⟨⟨fun b u e => ?_, fun b u e => ?_, fun b => ?_, R4.st, fun n o b e1 e2 => ?_, fun b hb => ?_, R4.nd⟩, R.len, fun i d e => ?_, fun i es e => ?_, R.ownd⟩, ⟨upd_same, rpl _ _ r', hF, f.t, hm, ownNe⟩⟩
  · have hne : b ≠ Dd := fun z => by subst z; have e' : g4.F b = some u := e; rw [hF] at e'; cases e'
    rw [upd_ne hne]
    exact R4.sub b u e
  · have e' : g.T b = some u := e
    have hne : b ≠ Dd := fun z => by subst z; rw [f.t] at e'; cases e'
    rw [upd_ne hne]
    exact R4.prot b u (by rw [le2', upd_ne hne]; exact e')
  · by_cases hb : b = Dd
    · subst hb; exact .inl hF
    · rcases R4.dis b with z | z
      · exact .inl z
      · right
        rw [le2', upd_ne hb] at z
        exact z
  · have hne : b ≠ Dd := fun z => hm (z ▸ List.mem_of_getElem? e2)
    have h := R4.sto n o b e1 e2
    cases o with
    | lst ds => obtain ⟨us, q, r⟩ := h; exact ⟨us, by rw [upd_ne hne]; exact q, rpl _ _ r⟩
    | ins c ks ds => obtain ⟨dx, us, q, l, r⟩ := h; exact ⟨dx, us, by rw [upd_ne hne]; exact q, l, rpl _ _ r⟩
  · have hne : b ≠ Dd := fun z => hm (z ▸ hb)
    obtain ⟨z1, z2⟩ := R4.muF b hb
    rw [le2', upd_ne hne] at z2
    exact ⟨z1, z2⟩
  · obtain ⟨v, e1, r⟩ := R.val i d e
    exact ⟨v, e1, Rp.up lg _ _ r⟩
  · obtain ⟨a, us, e1, e2, r, q1, q2, q3⟩ := own4 i es e
    have hne : a ≠ Dd := fun z => ownNe i es e (z ▸ e1)
    rw [le2', upd_ne hne] at q2
    exact ⟨a, us, e1, by rw [upd_ne hne]; exact e2, rpl _ _ r, q1, q2, q3⟩
end
section
variable {X : Cx} {cl : Nat → Addr} {W : WX}
theorem lc_up {K : PySem.W.Frag} {own : List (Str × Nat)} {mi : MI} {mg : MG} {tt : MT} {te : ME} {ts : List Nat} (hto : TgOk ts mg) (hts : ∀ i ∈ ts, i ∈ own.map (·.2)) {σ : St} {H : Hp} {Q : VK} (h : upO K cl W (mComp (own.map (·.2)) mi mg tt te) σ H Q) :
    tLc (upI K cl W mi) (upG K cl ts mg) (upT K cl W0 tt) (upE K cl W0 te) (own.map (·.2)) σ H Q := by
  obtain ⟨g, env, S, R, q⟩ := h
  generalize hvs : own.map (·.2) = vs at hts q
  unfold mComp at q
  split at q
  · rename_i no
    show upI K cl W mi σ H _
    refine upI.imp (bindI R q) fun J H1 ⟨g1, S1, ds, l1, R1, so, q1⟩ => ?_
    have q1 := poO q1 l1
    split at q1
    · rename_i hz
      intro Dd hD
      obtain ⟨R2, f2⟩ := fresh_new (ds := []) (vs := []) R1 .nil hD
      refine ⟨fun i m H => m = ds.length - i ∧ i ≤ ds.length ∧ ∃ g' S' aD aV, g1.le g' ∧ Rel K cl g' env S' σ H ∧ Fresh K cl g' env σ H aD Dd aV ∧ aD.length ≤ i ∧
        Po K cl W g' env σ (okO K cl g' env σ Q) ((compL vs mg tt te env (ds.drop i) S').bindN fun ys S'' => .ok (aD ++ ys, S'')),
        ⟨ds.length, by simp, Nat.zero_le _, g1, S1, [], [], G.le.refl _, R2, f2, Nat.le_refl _, q1⟩, ?_⟩
      rintro i m H' ⟨rfl, hi', g', S', aD, aV, l', R', f', hl, p'⟩
      have same : Same g1.F H' := l'.1.trans R'.sub
      by_cases hlt : i < ds.length
      · right
        refine ⟨so.goes i H' hlt same, fun H'' => ∃ g'' S'' aD' aV', g1.le g'' ∧ Rel K cl g'' env S'' σ H'' ∧ Fresh K cl g'' env σ H'' aD' Dd aV' ∧ aD'.length ≤ i + 1 ∧
          Po K cl W g'' env σ (okO K cl g'' env σ Q) ((compL vs mg tt te env (ds.drop (i + 1)) S'').bindN fun ys S'' => .ok (aD' ++ ys, S'')), fun H'' h'' => ⟨ds.length - (i + 1), by omega, rfl, hlt, h''⟩, fun x H'' y => ?_⟩
        obtain ⟨d, ed, alt⟩ := so.yields i H' x H'' hlt same y
        have edrop : ds.drop i = d :: ds.drop (i + 1) := by
          rw [List.drop_eq_getElem_cons hlt]
          rw [List.getElem?_eq_getElem hlt] at ed
          cases ed; rfl
        rw [edrop] at p'
        have RP0 := f'.prot R'
        -- the item, the new tuple locked
        have item : ∃ g2, (g'.prot Dd (.lst aV)).le g2 ∧ Rel K cl g2 env S' σ H'' ∧ Rp K cl g2 d x := by
          rcases alt with ⟨rfl, r⟩ | ⟨T, us, es, rfl, rfl, hT, rfl, r⟩
          · exact ⟨_, G.le.refl _, RP0, Rp.ups (g := g1) (g' := g'.prot Dd (.lst aV)) l'.1 (fun _ _ e => l'.mu e) _ _ r⟩
          · have le := (g'.prot Dd (.lst aV)).lock_le (o := .tup us) (RP0.toRelF.free hT).1
            exact ⟨_, le, RP0.lockNew hT, .tup (SqT.of upd_same) (RpL.ups (l'.1.trans le.1) (fun _ _ e => le.mu (l'.mu e)) _ _ r)⟩
        obtain ⟨g2, l2, R2', r2⟩ := item
        -- the target
        cases em : mg d (wipeE env vs) with
        | none =>
          simp only [compL, em] at p'
          exact p'.elim
        | some env1 =>
          simp only [compL, em] at p'
          try rw [hvs]
          refine ⟨g2, wipeE env vs, S', d, env1, R2'.wipe vs, r2, em, fun σ2 R3 hn hlen => ⟨wipe_same hts hn hlen, ?_⟩⟩
          have ag : ∀ j : Nat, j ∉ vs → env1[j]? = env[j]? := fun j hj => (hto _ _ _ em j fun z => hj (hts j z)).trans (wipeE_out hj)
          have ags : ∀ j : Nat, j ∉ vs → σ2[j]? = σ[j]? := fun j hj => (hn j fun z => hj (hts j z)).trans (L2.wipe_out hj)
          have hb : ∀ {k : List D → Store → Res (List D × Store)}, ¬ Po K cl W g' env σ (okO K cl g' env σ Q) ((Res.bad : Res (List D × Store)).bindN k) := fun {k} z => z
          refine upT.imp (bindTN (PP := fun r => Po K cl W g' env σ (okO K cl g' env σ Q) (r.bindN fun ys S'' => .ok (aD ++ ys, S''))) hb R3 p') fun b H3 ⟨g3, S3, l3, R4, p3⟩ => ?_
          cases b with
          | false =>
            refine iteF ?_
            have hH : H3 = upd H3 Dd (.lst aV) := by
              have hT3 : g3.T Dd = some (.lst aV) := by
                rw [(l2.trans l3).2.1]
                exact upd_same
              funext z
              by_cases hz : z = Dd
              · subst hz; rw [upd_same]; exact R4.prot _ _ hT3
              · rw [upd_ne hz]
            obtain ⟨k1, k2, k3⟩ := comp_back (aV' := aV) no R' f' (l2.trans l3) R4 ag ags (RpL.ups (g := g') (l2.trans l3).1 (fun _ _ e => (l2.trans l3).mu e) _ _ f'.rp)
            rw [hH]
            exact ⟨_, S3, aD, aV, l'.trans k1, k2, k3, by omega, poO p3 k1⟩
          | true =>
            refine iteT ?_
            refine upE.imp (bindEN (PP := fun r => Po K cl W g' env σ (okO K cl g' env σ Q) (r.bindN fun ys S'' => .ok (aD ++ ys, S''))) hb R4 p3) fun v H4 ⟨g4, S4, y', l4, R5, r5, p4⟩ => ?_
            have lt := (l2.trans l3).trans l4
            have hT4 : g4.T Dd = some (.lst aV) := by
              rw [lt.2.1]
              exact upd_same
            have hlen2 := f'.rp.length
            refine ⟨aV, R5.prot _ _ hT4, by rw [sz_eq, ← hlen2]; omega, ?_⟩
            obtain ⟨k1, k2, k3⟩ := comp_back (aD' := aD ++ [y']) (aV' := aV ++ [v]) no R' f' lt R5 ag ags ((RpL.ups (g := g') lt.1 (fun _ _ e => lt.mu e) _ _ f'.rp).app (.one r5))
            refine ⟨_, S4, aD ++ [y'], aV ++ [v], l'.trans k1, k2, k3, by simp; omega, poO (?_ : Po K cl W g' env σ (okO K cl g' env σ Q) _) k1⟩
            have p5 : Po K cl W g' env σ (okO K cl g' env σ Q) (((compL vs mg tt te env (ds.drop (i + 1)) S4).bindN fun ys S3 => .ok (y' :: ys, S3)).bindN fun ys S'' => .ok (aD ++ ys, S'')) := p4
            cases ec : compL vs mg tt te env (ds.drop (i + 1)) S4 with
            | ok pr =>
              rw [ec] at p5
              show okO K cl g' env σ Q ((aD ++ [y']) ++ pr.1, pr.2)
              rw [List.append_assoc]
              exact p5
            | exc x S' => rw [ec] at p5; exact p5
            | bad => rw [ec] at p5; exact p5
      · left
        have e : i = ds.length := by omega
        subst e
        refine ⟨so.stops H' same, ?_⟩
        rw [List.drop_length] at p'
        have p2 : okO K cl g' env σ Q (aD ++ [], S') := p'
        rw [List.append_nil] at p2
        exact p2 g' H' Dd aV (G.le.refl _) R' f'
    · exact q1.elim
  · exact q.elim
theorem ro_lc {elt tg iter : Expr} {ifs : List Expr} {scope : Scope} {own : List (Str × Nat)} {pos : Pos} {mi : MI} {mg : MG} {tt : MT} {te : ME} {ts : List Nat} (hc : X.calm = true) (hN : X.N.Nodup) (hi : RI X cl W tg iter mi) (ok : BlkOk X.N X.env.scope scope own)
    (hto : TgOk ts mg) (hts : ∀ i ∈ ts, i ∈ own.map (·.2))
    (hg : ∀ (s : Shared) (H : Hp) (C : Addr) (cl' : List (Str × Addr)) (fp : List Addr), RG (X.blk s H scope (compEnvC scope cl' C X.env) fp) cl tg ts mg)
    (ht : ∀ (s : Shared) (H : Hp) (C : Addr) (cl' : List (Str × Addr)) (fp : List Addr), RTs (X.blk s H scope (compEnvC scope cl' C X.env) fp) cl W0 ifs tt)
    (he : ∀ (s : Shared) (H : Hp) (C : Addr) (cl' : List (Str × Addr)) (fp : List Addr), RE (X.blk s H scope (compEnvC scope cl' C X.env) fp) cl W0 elt te) (hs : ∀ x, foldedSetIterable iter X.env x = pure x := by intro _; rfl) :
    RO X cl W (.ListComp elt [⟨tg, iter, ifs, 0⟩] scope pos) (mComp (own.map (·.2)) mi mg tt te) :=
  peW (pe_lc (g := upG X.K cl ts mg) (tt := upT X.K cl W0 tt) (te := upE X.K cl W0 te) hc hN hi ok hg ht he hs) fun σ H Q h => lc_up hto hts h
end
end DL

set_option Elab.async false
set_option linter.all false
set_option maxRecDepth 100000
set_option maxHeartbeats 1000000
set_option autoImplicit false
namespace DL
open PySem PySem.Spec PyProof.Rows L2

/-! ### statements -/
def PoS (K : PySem.W.Frag) (cl : Nat → Addr) (W : WX) (N : Ends) (g : G) : Out → Prop
  | .nx env S => ∀ g' σ' H', g.le g' → Rel K cl g' env S σ' H' → N.nx σ' H'
  | .rt d S => ∀ g' H' v, g.le g' → RelF K cl g' S H' → Rp K cl g' d v → N.rt v H'
  | .ro ds S => ∀ g' H' a vs, g.le g' → RelF K cl g' S H' → H' a = some (.lst vs) → RpL K cl g' ds vs → g'.F a = none → g'.T a = none → a ∉ g'.mu → N.rt (.ref a) H'
  | .bk env S => ∀ g' σ' H', g.le g' → Rel K cl g' env S σ' H' → N.bk σ' H'
  | .ct env S => ∀ g' σ' H', g.le g' → Rel K cl g' env S σ' H' → N.ct σ' H'
  | .exc e env S => ∀ g' σ' H' cls dd, g.le g' → Rel K cl g' env S σ' H' → ExR K cl g' e cls dd → W cls dd σ' H'
  | .bad => False
def upS (K : PySem.W.Frag) (cl : Nat → Addr) (W : WX) (m : MS) : TS := fun N σ H => ∃ g env S, Rel K cl g env S σ H ∧ PoS K cl W N g (m env S)
def RS (X : Cx) (cl : Nat → Addr) (W : WX) (st : Stmt) (m : MS) : Prop := PS X st (upS X.K cl W m)
def RSs (X : Cx) (cl : Nat → Addr) (W : WX) (sts : List Stmt) (m : MS) : Prop := PSs X sts (upS X.K cl W m)
theorem psW {X : Cx} {st : Stmt} {t t' : TS} (h : PS X st t) (k : ∀ N σ H, t' N σ H → t N σ H) : PS X st t' := ⟨fun pins s σ H N I q => h.run pins s σ H N I (k N σ H q)⟩
theorem pssW {X : Cx} {st : List Stmt} {t t' : TS} (h : PSs X st t) (k : ∀ N σ H, t' N σ H → t N σ H) : PSs X st t' := ⟨fun pins s σ H N I q => h.run pins s σ H N I (k N σ H q)⟩

section
variable {K : PySem.W.Frag} {cl : Nat → Addr} {W : WX} {g g1 : G} {env : Env} {S : Store} {σ : St} {H : Hp} {N N' : Ends}
theorem PoS.up {o : Out} (h : PoS K cl W N g o) (le : g.le g1) : PoS K cl W N g1 o := by
  cases o with
  | nx env S => exact fun g' σ' H' l R => h g' σ' H' (le.trans l) R
  | rt d S => exact fun g' H' v l R r => h g' H' v (le.trans l) R r
  | ro ds S => exact fun g' H' a vs l R => h g' H' a vs (le.trans l) R
  | bk env S => exact fun g' σ' H' l R => h g' σ' H' (le.trans l) R
  | ct env S => exact fun g' σ' H' l R => h g' σ' H' (le.trans l) R
  | exc e env S => exact fun g' σ' H' c d l R x => h g' σ' H' c d (le.trans l) R x
  | bad => exact h
end
/-- an expression ahead of what a statement does -/
def Res.go {α : Type} (r : Res (α × Store)) (env : Env) (k : α → Store → Out) : Out := match r with
  | .ok (a, S) => k a S
  | .exc e S => .exc e env S
  | .bad => .bad
section
variable {K : PySem.W.Frag} {cl : Nat → Addr} {W : WX} {g : G} {env : Env} {S : Store} {σ : St} {H : Hp} {N : Ends}
theorem PoS.excE {e : Ex} {S' : Store} (h : PoS K cl W N g (.exc e env S')) : ∀ g' H' cls dd, g.le g' → Rel K cl g' env S' σ H' → ExR K cl g' e cls dd → W cls dd σ H' := fun g' H' c d l R x => h g' σ H' c d l R x
theorem goE {ma : ME} {k : D → Store → Out} (R : Rel K cl g env S σ H) (h : PoS K cl W N g ((ma env S).go env k)) :
    upE K cl W ma σ H fun v H1 => ∃ g1 S1 d, g.le g1 ∧ Rel K cl g1 env S1 σ H1 ∧ Rp K cl g1 d v ∧ PoS K cl W N g1 (k d S1) := by
  refine ⟨g, env, S, R, ?_⟩
  cases e : ma env S with
  | ok p => rw [e] at h; exact fun g' H' v le R' r => ⟨g', p.2, p.1, le, R', r, PoS.up h le⟩
  | exc x S' => rw [e] at h; exact PoS.excE h
  | bad => rw [e] at h; exact h
theorem goT {ma : MT} {k : Bool → Store → Out} (R : Rel K cl g env S σ H) (h : PoS K cl W N g ((ma env S).go env k)) :
    upT K cl W ma σ H fun b H1 => ∃ g1 S1, g.le g1 ∧ Rel K cl g1 env S1 σ H1 ∧ PoS K cl W N g1 (k b S1) := by
  refine ⟨g, env, S, R, ?_⟩
  cases e : ma env S with
  | ok p => rw [e] at h; exact fun g' H' le R' => ⟨g', p.2, le, R', PoS.up h le⟩
  | exc x S' => rw [e] at h; exact PoS.excE h
  | bad => rw [e] at h; exact h
theorem goO {ma : MO} {k : List D → Store → Out} (R : Rel K cl g env S σ H) (h : PoS K cl W N g ((ma env S).go env k)) :
    upO K cl W ma σ H fun v H1 => ∃ g1 S1 ds a vs, v = .ref a ∧ g.le g1 ∧ Rel K cl g1 env S1 σ H1 ∧ Fresh K cl g1 env σ H1 ds a vs ∧ PoS K cl W N g1 (k ds S1) := by
  refine ⟨g, env, S, R, ?_⟩
  cases e : ma env S with
  | ok p => rw [e] at h; exact fun g' H' a vs le R' r => ⟨g', p.2, p.1, a, vs, rfl, le, R', r, PoS.up h le⟩
  | exc x S' => rw [e] at h; exact PoS.excE h
  | bad => rw [e] at h; exact h
theorem goB {ma : ML} {k : Lk → Store → Out} (R : Rel K cl g env S σ H) (h : PoS K cl W N g ((ma env S).go env k)) :
    upB K cl W ma σ H fun v H1 => ∃ g1 S1 c, g.le g1 ∧ Rel K cl g1 env S1 σ H1 ∧ LkR K cl g1 σ c v ∧ PoS K cl W N g1 (k c S1) := by
  refine ⟨g, env, S, R, ?_⟩
  cases e : ma env S with
  | ok p => rw [e] at h; exact fun g' H' v le R' r => ⟨g', p.2, p.1, le, R', r, PoS.up h le⟩
  | exc x S' => rw [e] at h; exact PoS.excE h
  | bad => rw [e] at h; exact h
theorem goI {ma : MI} {k : List D → Store → Out} (R : Rel K cl g env S σ H) (h : PoS K cl W N g ((ma env S).go env k)) :
    upI K cl W ma σ H fun J H1 => ∃ g1 S1 ds, g.le g1 ∧ Rel K cl g1 env S1 σ H1 ∧ SrcOk K cl g1 J ds ∧ PoS K cl W N g1 (k ds S1) := by
  refine ⟨g, env, S, R, ?_⟩
  cases e : ma env S with
  | ok p => rw [e] at h; exact fun g' H' v le R' r => ⟨g', p.2, p.1, le, R', r, PoS.up h le⟩
  | exc x S' => rw [e] at h; exact PoS.excE h
  | bad => rw [e] at h; exact h
end

/-! ### the readings -/
def mNext : MS := fun env S => .nx env S
def mSeq (m n : MS) : MS := fun env S => match m env S with
  | .nx env1 S1 => n env1 S1
  | o => o
def mBreak : MS := fun env S => .bk env S
def mCont : MS := fun env S => .ct env S
def mNever : MS := fun _ _ => .bad
def mDrop (m : ME) : MS := fun env S => (m env S).go env fun _ S1 => .nx env S1
def mRet (m : ME) : MS := fun env S => (m env S).go env fun d S1 => .rt d S1
def mRetO (m : MO) : MS := fun env S => (m env S).go env fun d S1 => .ro d S1
def mRetV (i : Nat) : MS := fun env S => match env[i]? with
  | some (some (.own ds)) => .ro ds S
  | _ => .bad
def mRetN : MS := fun _ S => .rt .non S
def mIfS (c : MT) (m n : MS) : MS := fun env S => (c env S).go env fun b S1 => if b = true then m env S1 else n env S1
def mAsg (m : ME) (mg : MG) : MS := fun env S => (m env S).go env fun d S1 => match mg d env with
  | some env1 => .nx env1 S1
  | none => .bad
def mSetO (i : Nat) (m : MO) : MS := fun env S => (m env S).go env fun ds S1 => .nx (env.set i (some (.own ds))) S1
/-- a list that a name owned is known from here on, and stays as it is -/
def mFrz (i : Nat) (m : MS) : MS := fun env S => match env[i]? with
  | some (some (.own ds)) => m (env.set i (some (.val (.lst ds)))) S
  | _ => .bad

section
variable {X : Cx} {cl : Nat → Addr} {W : WX} {st : Stmt} {sts : List Stmt} {m n : MS} {pos : Pos} {e : Expr} {me : ME} {mo : MO}
theorem rss_nil : RSs X cl W [] mNext := pssW pss_nil fun N σ H ⟨g, env, S, R, q⟩ => q g σ H (G.le.refl g) R
theorem upS.seq {K : PySem.W.Frag} {N : Ends} {g : G} {env : Env} {S : Store} {σ : St} {H : Hp} (R : Rel K cl g env S σ H) (q : PoS K cl W N g (mSeq m n env S)) : upS K cl W m { N with nx := upS K cl W n N } σ H := by
  refine ⟨g, env, S, R, ?_⟩
  unfold mSeq at q
  cases e : m env S with
  | nx env1 S1 => rw [e] at q; exact fun g' σ' H' l R' => ⟨g', env1, S1, R', PoS.up q l⟩
  | rt d S => rw [e] at q; exact q
  | ro ds S => rw [e] at q; exact q
  | bk env S => rw [e] at q; exact q
  | ct env S => rw [e] at q; exact q
  | exc e env S => rw [e] at q; exact q
  | bad => rw [e] at q; exact q
theorem rss_cons (h : RS X cl W st m) (k : RSs X cl W sts n) : RSs X cl W (st :: sts) (mSeq m n) := pssW (pss_cons h k) fun N σ H ⟨g, env, S, R, q⟩ => upS.seq R q
theorem rss_one (h : RS X cl W st m) : RSs X cl W [st] m := pss_one h
theorem rs_pass : RS X cl W (.Pass pos) mNext := psW ps_pass fun N σ H ⟨g, env, S, R, q⟩ => q g σ H (G.le.refl g) R
theorem rs_break : RS X cl W (.Break pos) mBreak := psW ps_break fun N σ H ⟨g, env, S, R, q⟩ => q g σ H (G.le.refl g) R
theorem rs_cont : RS X cl W (.Continue pos) mCont := psW ps_continue fun N σ H ⟨g, env, S, R, q⟩ => q g σ H (G.le.refl g) R
theorem rs_never : RS X cl W st mNever := psW ps_never fun N σ H ⟨g, env, S, R, q⟩ => q
theorem rss_never : RSs X cl W sts mNever := pssW pss_never fun N σ H ⟨g, env, S, R, q⟩ => q
theorem rs_doc {x j pos pos'} : RS X cl W (.Expr (.Constant (.str x) j pos) pos') mNext := psW ps_doc fun N σ H ⟨g, env, S, R, q⟩ => q g σ H (G.le.refl g) R
theorem rs_expr (he : RE X cl W e me) (hs : swapsWith e none pos.line X.env = pure false := by rfl) : RS X cl W (.Expr e pos) (mDrop me) :=
  psW (ps_expr he hs) fun N σ H ⟨g, env, S, R, q⟩ => upE.imp (goE R q) fun v H1 ⟨g1, S1, d, l, R1, r, q1⟩ => q1 g1 σ H1 (G.le.refl _) R1
theorem rs_ret (he : RE X cl W e me) : RS X cl W (.Return (some e) pos) (mRet me) :=
  psW (ps_ret he) fun N σ H ⟨g, env, S, R, q⟩ => upE.imp (goE R q) fun v H1 ⟨g1, S1, d, l, R1, r, q1⟩ => q1 g1 H1 v (G.le.refl _) R1.toRelF r
theorem rs_retO (he : RO X cl W e mo) : RS X cl W (.Return (some e) pos) (mRetO mo) :=
  psW (ps_ret he) fun N σ H ⟨g, env, S, R, q⟩ => upO.imp (goO R q) fun v H1 ⟨g1, S1, ds, a, vs, ev, l, R1, f, q1⟩ => by
    subst ev
    exact q1 g1 H1 a vs (G.le.refl _) R1.toRelF f.at_ f.rp f.f f.t f.m
theorem rs_retV (i : Nat) {x : Str} {p : Pos} (hN : X.N[i]? = some x := by rfl) (hv : Vis X.env.scope x := by first | exact Or.inl rfl | exact Or.inr (Or.inl rfl) | exact Or.inr (Or.inr rfl)) (hd : (x == ("__debug__" : Str)) = false := by decide)
    (hcd : (x == ("__classdict__" : Str)) = false := by decide) : RS X cl W (.Return (some (.Name x p)) pos) (mRetV i) :=
  psW (ps_ret (pe_var hN hv hd hcd)) fun N σ H ⟨g, env, S, R, q⟩ => by
    unfold mRetV at q
    split at q
    · rename_i ds e
      obtain ⟨a, vs, e1, e2, r, f1, f2, f3⟩ := R.own i ds e
      exact ⟨_, e1, q g H a vs (G.le.refl _) R.toRelF e2 r f1 f2 f3⟩
    · exact q.elim
theorem rs_retN : RS X cl W (.Return none pos) mRetN := psW ps_retN fun N σ H ⟨g, env, S, R, q⟩ => q g H .non (G.le.refl _) R.toRelF .non
theorem rs_if {c : Expr} {mc : MT} {as bs : List Stmt} (hc : RT X cl W c mc) (ha : RSs X cl W as m) (hb : RSs X cl W bs n) : RS X cl W (.If c as bs pos) (mIfS mc m n) :=
  psW (ps_if hc ha hb) fun N σ H ⟨g, env, S, R, q⟩ => upT.imp (goT R q) fun b H1 ⟨g1, S1, l, R1, q1⟩ => by
    cases b with
    | true => exact iteT ⟨g1, env, S1, R1, q1⟩
    | false => exact iteF ⟨g1, env, S1, R1, q1⟩
theorem rs_asg {tg : Expr} {ts : List Nat} {mg : MG} (he : RE X cl W e me) (hg : RG X cl tg ts mg) (hs : swapsWithSole [tg] e pos.line X.env = pure false := by rfl) (hw : swappedStores [tg] e X.env = pure none := by rfl)
    (h1 : (assignEach [tg] X.env).map (·.2) = [assign tg X.env] := by rfl) : RS X cl W (.Assign [tg] e pos) (mAsg me mg) :=
  psW (ps_asg he hg hs hw h1) fun N σ H ⟨g, env, S, R, q⟩ => upE.imp (goE R q) fun v H1 ⟨g1, S1, d, l, R1, r, q1⟩ => by
    split at q1
    · rename_i env1 e1
      exact ⟨g1, env, S1, d, env1, R1, r, e1, fun σ' R' _ _ => q1 g1 σ' H1 (G.le.refl _) R'⟩
    · exact q1.elim
theorem rs_set (i : Nat) {x : Str} {pos' : Pos} (hN : X.N.Nodup) (hi : X.N[i]? = some x) (hx : Loc X.env.scope x) (he : RE X cl W e me) (hs : swapsWith e (some (.Name x pos')) pos.line X.env = pure false := by rfl) (hf : X.fn x = true ∨ X.env.scope.names.lookup x = some .local := by first | exact .inl rfl | exact .inr rfl | assumption) :
    RS X cl W (.Assign [.Name x pos'] e pos) (mAsg me (mgN i)) :=
  psW (ps_set hN hi hx he hs hf) fun N σ H ⟨g, env, S, R, q⟩ => upE.imp (goE R q) fun v H1 ⟨g1, S1, d, l, R1, r, q1⟩ => q1 g1 _ H1 (G.le.refl _) (R1.setVal r)
theorem rs_setO (i : Nat) {x : Str} {pos' : Pos} (hN : X.N.Nodup) (hi : X.N[i]? = some x) (hx : Loc X.env.scope x) (he : RO X cl W e mo) (hs : swapsWith e (some (.Name x pos')) pos.line X.env = pure false := by rfl) (hf : X.fn x = true ∨ X.env.scope.names.lookup x = some .local := by first | exact .inl rfl | exact .inr rfl | assumption) :
    RS X cl W (.Assign [.Name x pos'] e pos) (mSetO i mo) :=
  psW (ps_set hN hi hx he hs hf) fun N σ H ⟨g, env, S, R, q⟩ => upO.imp (goO R q) fun v H1 ⟨g1, S1, ds, a, vs, ev, l, R1, f, q1⟩ => by
    subst ev
    exact q1 g1 _ H1 (G.le.refl _) (R1.setOwn f)
theorem Rel.frz {K : PySem.W.Frag} {g : G} {env : Env} {S : Store} {σ : St} {H : Hp} {i : Nat} {ds : List D} (R : Rel K cl g env S σ H) (e : env[i]? = some (some (.own ds))) : ∃ g', g.le g' ∧ Rel K cl g' (env.set i (some (.val (.lst ds)))) S σ H := by
  obtain ⟨a, vs, e1, e2, r, f1, f2, f3⟩ := R.own i ds e
  have R0 := R.setNone i
  have hi : i < env.length := (List.getElem?_eq_some_iff.mp e).1
  have hσ : i < σ.length := by rw [← R.len]; exact hi
  have fr : Fresh K cl g (env.set i none) (σ.set i none) H ds a vs := by
    refine ⟨e2, r, f1, f2, f3, fun j es h => ?_⟩
    by_cases hj : i = j
    · subst hj
      rw [List.getElem?_set_self hi] at h
      cases h
    · rw [List.getElem?_set_ne hj] at h ⊢
      intro h2
      exact hj (R.ownd i j ds es e h (e1.trans h2.symm))
  obtain ⟨le, R1, r1⟩ := fr.lock R0
  have R2 := R1.setVal (i := i) r1
  refine ⟨_, le, ?_⟩
  have h1 : (env.set i none).set i (some (.val (.lst ds))) = env.set i (some (.val (.lst ds))) := by rw [List.set_set]
  have h2 : (σ.set i none).set i (some (.ref a)) = σ := by
    rw [List.set_set]
    apply List.ext_getElem?
    intro j
    by_cases hj : i = j
    · subst hj; rw [List.getElem?_set_self hσ, e1]
    · rw [List.getElem?_set_ne hj]
  rw [h1, h2] at R2
  exact R2
theorem rss_frz (i : Nat) (h : RSs X cl W sts m) : RSs X cl W sts (mFrz i m) := pssW h fun N σ H ⟨g, env, S, R, q⟩ => by
  unfold mFrz at q
  split at q
  · rename_i ds e
    obtain ⟨g', le, R'⟩ := R.frz e
    exact ⟨g', _, S, R', PoS.up q le⟩
  · exact q.elim
theorem rs_frz (i : Nat) (h : RS X cl W st m) : RS X cl W st (mFrz i m) := psW h fun N σ H ⟨g, env, S, R, q⟩ => by
  unfold mFrz at q
  split at q
  · rename_i ds e
    obtain ⟨g', le, R'⟩ := R.frz e
    exact ⟨g', _, S, R', PoS.up q le⟩
  · exact q.elim
end

/-! ### loops -/
def forL (mg : MG) (mb : MS) : List D → Env → Store → Out
  | [], env, S => .nx env S
  | d :: ds, env, S => match mg d env with
    | none => .bad
    | some env1 => match mb env1 S with
      | .nx env2 S2 => forL mg mb ds env2 S2
      | .ct env2 S2 => forL mg mb ds env2 S2
      | .bk env2 S2 => .nx env2 S2
      | o => o
def mFor (mi : MI) (mg : MG) (mb : MS) : MS := fun env S => (mi env S).go env fun ds S1 => forL mg mb ds env S1
def whL (mc : MT) (mb : MS) : Nat → Env → Store → Out
  | 0, _, _ => .bad
  | n + 1, env, S => (mc env S).go env fun b S1 => if b = true then match mb env S1 with
      | .nx env2 S2 => whL mc mb n env2 S2
      | .ct env2 S2 => whL mc mb n env2 S2
      | .bk env2 S2 => .nx env2 S2
      | o => o
    else .nx env S1
open Classical in
noncomputable def mWh (mc : MT) (mb : MS) : MS := fun env S => if h : ∃ n, whL mc mb n env S ≠ .bad then whL mc mb (Classical.choose h) env S else .bad
theorem whL_up {mc : MT} {mb : MS} : ∀ {n : Nat} {env : Env} {S : Store}, whL mc mb n env S ≠ .bad → ∀ k, whL mc mb (n + k) env S = whL mc mb n env S
  | 0, env, S, h, k => (h rfl).elim
  | n + 1, env, S, h, k => by
    rw [show n + 1 + k = (n + k) + 1 by omega]
    unfold whL at h ⊢
    cases e : mc env S with
    | ok p =>
      rw [e] at h
      obtain ⟨b, S1⟩ := p
      cases b with
      | false => rfl
      | true =>
        have h' : (match mb env S1 with
          | .nx env2 S2 => whL mc mb n env2 S2
          | .ct env2 S2 => whL mc mb n env2 S2
          | .bk env2 S2 => .nx env2 S2
          | o => o) ≠ .bad := h
        show (match mb env S1 with
          | .nx env2 S2 => whL mc mb (n + k) env2 S2
          | .ct env2 S2 => whL mc mb (n + k) env2 S2
          | .bk env2 S2 => .nx env2 S2
          | o => o) = (match mb env S1 with
          | .nx env2 S2 => whL mc mb n env2 S2
          | .ct env2 S2 => whL mc mb n env2 S2
          | .bk env2 S2 => .nx env2 S2
          | o => o)
        cases e2 : mb env S1 with
        | nx env2 S2 => rw [e2] at h'; exact whL_up h' k
        | ct env2 S2 => rw [e2] at h'; exact whL_up h' k
        | _ => rfl
    | exc x S' => rfl
    | bad => rfl
theorem mWh_eq {mc : MT} {mb : MS} {n : Nat} {env : Env} {S : Store} (h : whL mc mb n env S ≠ .bad) : mWh mc mb env S = whL mc mb n env S := by
  have hx : ∃ n, whL mc mb n env S ≠ .bad := ⟨n, h⟩
  unfold mWh
  rw [dif_pos hx]
  have h2 := Classical.choose_spec hx
  rw [← whL_up h (Classical.choose hx), ← whL_up h2 n, Nat.add_comm]
section
variable {X : Cx} {cl : Nat → Addr} {W : WX} {pos : Pos} {tg iter c : Expr} {body : List Stmt} {mi : MI} {mg : MG} {mb : MS} {mc : MT} {ts : List Nat}
theorem rs_for (hp : PassesOwn (model X.prog X.w) X.A X.env X.xe) (hc : X.calm = true) (hi : RI X cl W tg iter mi) (hg : RG X cl tg ts mg) (hb : RSs X cl W body mb)
    (hs : ∀ x, foldedSetIterable iter X.env x = pure x := by intro _; rfl) : RS X cl W (.For tg iter body [] pos) (mFor mi mg mb) :=
  psW (ps_for hp hc hi hg hb hs) fun N σ H ⟨g, env, S, R, q⟩ => by
    show upI X.K cl W mi σ H _
    refine upI.imp (goI R q) fun J H1 ⟨g1, S1, ds, l1, R1, so, q1⟩ => ?_
    refine ⟨fun i m σ H => m = ds.length - i ∧ i ≤ ds.length ∧ ∃ g' env' S', g1.le g' ∧ Rel X.K cl g' env' S' σ H ∧ PoS X.K cl W N g' (forL mg mb (ds.drop i) env' S'),
      ⟨ds.length, by simp, Nat.zero_le _, g1, env, S1, G.le.refl _, R1, q1⟩, ?_⟩
    rintro i m σ' H' ⟨rfl, hi', g', env', S', l', R', p'⟩
    have same : Same g1.F H' := l'.1.trans R'.sub
    by_cases hlt : i < ds.length
    · right
      refine ⟨so.goes i H' hlt same, fun σ'' H'' => ∃ g'' env'' S'', g1.le g'' ∧ Rel X.K cl g'' env'' S'' σ'' H'' ∧ PoS X.K cl W N g'' (forL mg mb (ds.drop (i + 1)) env'' S''),
        fun σ'' H'' h'' => ⟨ds.length - (i + 1), by omega, rfl, hlt, h''⟩, fun x H'' y => ?_⟩
      obtain ⟨d, ed, alt⟩ := so.yields i H' x H'' hlt same y
      have edrop : ds.drop i = d :: ds.drop (i + 1) := by
        rw [List.drop_eq_getElem_cons hlt]
        rw [List.getElem?_eq_getElem hlt] at ed
        cases ed; rfl
      rw [edrop] at p'
      have item : ∃ g2, g'.le g2 ∧ Rel X.K cl g2 env' S' σ' H'' ∧ Rp X.K cl g2 d x := by
        rcases alt with ⟨rfl, r⟩ | ⟨T, us, es, rfl, rfl, hT, rfl, r⟩
        · exact ⟨_, G.le.refl _, R', Rp.up l' _ _ r⟩
        · have le := g'.lock_le (o := .tup us) (R'.toRelF.free hT).1
          exact ⟨_, le, R'.lockNew hT, .tup (SqT.of upd_same) (RpL.up (l'.trans le) _ _ r)⟩
      obtain ⟨g2, l2, R2, r2⟩ := item
      unfold forL at p'
      cases em : mg d env' with
      | none =>
        rw [em] at p'
        exact p'.elim
      | some env1 =>
        rw [em] at p'
        refine ⟨g2, env', S', d, env1, R2, r2, em, fun σ2 R3 hn hlen => ⟨g2, env1, S', R3, ?_⟩⟩
        have p2 := PoS.up p' l2
        have l12 := l'.trans l2
        dsimp only at p2
        cases eb : mb env1 S' with
        | nx e2 S2 => rw [eb] at p2; exact fun g3 σ3 H3 l3 R4 => ⟨g3, e2, S2, l12.trans l3, R4, PoS.up p2 l3⟩
        | ct e2 S2 => rw [eb] at p2; exact fun g3 σ3 H3 l3 R4 => ⟨g3, e2, S2, l12.trans l3, R4, PoS.up p2 l3⟩
        | bk e2 S2 => rw [eb] at p2; exact p2
        | rt d S => rw [eb] at p2; exact p2
        | ro ds S => rw [eb] at p2; exact p2
        | exc e env S => rw [eb] at p2; exact p2
        | bad => rw [eb] at p2; exact p2
    · left
      have e : i = ds.length := by omega
      subst e
      refine ⟨so.stops H' same, ?_⟩
      rw [List.drop_length] at p'
      exact p' g' σ' H' (G.le.refl _) R'
theorem rs_while (hp : PassesOwn (model X.prog X.w) X.A X.env X.xe) (hc : RT X cl W c mc) (hb : RSs X cl W body mb) : RS X cl W (.While c body [] pos) (mWh mc mb) :=
  psW (ps_while hp hc hb) fun N σ H ⟨g, env, S, R, q⟩ => by
    by_cases hx : ∃ n, whL mc mb n env S ≠ .bad
    · obtain ⟨n, hn⟩ := hx
      rw [mWh_eq hn] at q
      refine ⟨fun m σ H => ∃ g' env' S', Rel X.K cl g' env' S' σ H ∧ PoS X.K cl W N g' (whL mc mb m env' S'), ⟨n, g, env, S, R, q⟩, ?_⟩
      rintro m σ' H' ⟨g', env', S', R', p'⟩
      cases m with
      | zero => exact p'.elim
      | succ m =>
        unfold whL at p'
        show upT X.K cl W mc σ' H' _
        refine upT.imp (goT R' p') fun b H1 ⟨g1, S1, l1, R1, p1⟩ => ?_
        cases b with
        | false => exact iteF (p1 g1 σ' H1 (G.le.refl _) R1)
        | true =>
          refine iteT ⟨fun σ'' H'' => ∃ g'' env'' S'', Rel X.K cl g'' env'' S'' σ'' H'' ∧ PoS X.K cl W N g'' (whL mc mb m env'' S''), fun σ'' H'' h'' => ⟨m, Nat.lt_succ_self m, h''⟩, g1, env', S1, R1, ?_⟩
          have p2 : PoS X.K cl W N g1 (match mb env' S1 with
            | .nx env2 S2 => whL mc mb m env2 S2
            | .ct env2 S2 => whL mc mb m env2 S2
            | .bk env2 S2 => .nx env2 S2
            | o => o) := p1
          cases eb : mb env' S1 with
          | nx e2 S2 => rw [eb] at p2; exact fun g3 σ3 H3 l3 R4 => ⟨g3, e2, S2, R4, PoS.up p2 l3⟩
          | ct e2 S2 => rw [eb] at p2; exact fun g3 σ3 H3 l3 R4 => ⟨g3, e2, S2, R4, PoS.up p2 l3⟩
          | bk e2 S2 => rw [eb] at p2; exact p2
          | rt d S => rw [eb] at p2; exact p2
          | ro ds S => rw [eb] at p2; exact p2
          | exc e env S => rw [eb] at p2; exact p2
          | bad => rw [eb] at p2; exact p2
    · unfold mWh at q
      rw [dif_neg hx] at q
      exact q.elim
end
end DL

set_option Elab.async false
set_option linter.all false
set_option maxRecDepth 100000
set_option maxHeartbeats 1000000
set_option autoImplicit false
namespace DL
open PySem PySem.Spec PyProof.Rows L2

/-! ### what can be written -/
def getM (env : Env) (S : Store) : Lk → Option (List D)
  | .slot i => match env[i]? with
    | some (some (.own ds)) => some ds
    | _ => none
  | .val (.loc n) => match S[n]? with
    | some (.lst ds) => some ds
    | _ => none
  | _ => none
def putM (env : Env) (S : Store) (k : Lk) (ds : List D) : Env × Store := match k with
  | .slot i => (env.set i (some (.own ds)), S)
  | .val (.loc n) => (env, S.set n (.lst ds))
  | _ => (env, S)
section
variable {K : PySem.W.Frag} {cl : Nat → Addr} {W : WX} {g g1 : G} {env : Env} {S : Store} {σ : St} {H : Hp}
/-- the store's thing at n is written -/
theorem Rel.setSto (R : Rel K cl g env S σ H) {n : Nat} {a : Addr} {o : Ob} {ho : HO} (hm : g.mu[n]? = some a) (hn : n < S.length) (h : ∀ H', H' a = some ho → ObR K cl g H' a o) : Rel K cl g env (S.set n o) σ (upd H a ho) := by
  have hma : a ∈ g.mu := List.mem_of_getElem? hm
  obtain ⟨f1, f2⟩ := R.muF a hma
  refine ⟨⟨fun b u e => ?_, fun b u e => ?_, R.dis, by rw [List.length_set]; exact R.st, fun m ob b e1 e2 => ?_, R.muF, R.nd⟩, R.len, R.val, fun i ds e => ?_, R.ownd⟩
  · rw [upd_ne (ne_of_none e f1)]; exact R.sub b u e
  · rw [upd_ne (ne_of_none e f2)]; exact R.prot b u e
  · by_cases hmn : n = m
    · subst hmn
      rw [hm] at e2
      cases e2
      rw [List.getElem?_set_self hn] at e1
      cases e1
      exact h _ upd_same
    · rw [List.getElem?_set_ne hmn] at e1
      have hne : b ≠ a := fun z => by
        subst z
        obtain ⟨h1, e1'⟩ := List.getElem?_eq_some_iff.mp hm
        obtain ⟨h2, e2'⟩ := List.getElem?_eq_some_iff.mp e2
        rcases Nat.lt_or_gt_of_ne hmn with hl | hl
        · exact List.pairwise_iff_getElem.mp R.nd n m h1 h2 hl (e1'.trans e2'.symm)
        · exact List.pairwise_iff_getElem.mp R.nd m n h2 h1 hl (e2'.trans e1'.symm)
      exact (R.sto m ob b e1 e2).keep (G.le.refl _) (upd_ne hne)
  · obtain ⟨b, us, e1, e2, r, q1, q2, q3⟩ := R.own i ds e
    have hne : b ≠ a := fun z => q3 (z ▸ hma)
    exact ⟨b, us, e1, by rw [upd_ne hne]; exact e2, r, q1, q2, q3⟩
/-- the list that name i owns is written -/
theorem Rel.setOwnList (R : Rel K cl g env S σ H) {i : Nat} {a : Addr} {ds es : List D} {us : List V} (he : env[i]? = some (some (.own ds))) (hs : σ[i]? = some (some (.ref a))) (r : RpL K cl g es us) : Rel K cl g (env.set i (some (.own es))) S σ (upd H a (.lst us)) := by
  obtain ⟨a', vs, e1, e2, r0, f1, f2, f3⟩ := R.own i ds he
  rw [hs] at e1
  cases e1
  have hi : i < env.length := (List.getElem?_eq_some_iff.mp he).1
  refine ⟨⟨fun b u e => ?_, fun b u e => ?_, R.dis, R.st, fun m ob b h1 h2 => ?_, R.muF, R.nd⟩, by rw [List.length_set]; exact R.len, fun j d e => ?_, fun j fs e => ?_, fun j k fs gs h1 h2 h3 => ?_⟩
  · rw [upd_ne (ne_of_none e f1)]; exact R.sub b u e
  · rw [upd_ne (ne_of_none e f2)]; exact R.prot b u e
  · have hne : b ≠ a := fun z => f3 (z ▸ List.mem_of_getElem? h2)
    exact (R.sto m ob b h1 h2).keep (G.le.refl _) (upd_ne hne)
  · by_cases hj : i = j
    · subst hj
      rw [List.getElem?_set_self hi] at e
      cases e
    · rw [List.getElem?_set_ne hj] at e
      exact R.val j d e
  · by_cases hj : i = j
    · subst hj
      rw [List.getElem?_set_self hi] at e
      cases e
      exact ⟨a, us, hs, upd_same, r, f1, f2, f3⟩
    · rw [List.getElem?_set_ne hj] at e
      obtain ⟨b, ws, e1, e2, r1, q1, q2, q3⟩ := R.own j fs e
      have hne : b ≠ a := fun z => by
        subst z
        exact hj (R.ownd i j ds fs he e (hs.trans e1.symm))
      exact ⟨b, ws, e1, by rw [upd_ne hne]; exact e2, r1, q1, q2, q3⟩
  · have old : ∀ (j : Nat) (fs : List D), (env.set i (some (.own es)))[j]? = some (some (.own fs)) → ∃ fs', env[j]? = some (some (.own fs')) := fun j fs h => by
      by_cases hj : i = j
      · subst hj; exact ⟨ds, he⟩
      · rw [List.getElem?_set_ne hj] at h; exact ⟨fs, h⟩
    obtain ⟨fs', h1'⟩ := old j fs h1
    obtain ⟨gs', h2'⟩ := old k gs h2
    exact R.ownd j k fs' gs' h1' h2' h3
theorem put_ok (R : Rel K cl g env S σ H) {k : Lk} {v : V} {ds : List D} (r : LkR K cl g σ k v) (e : getM env S k = some ds) :
    ∃ a vs, v = .ref a ∧ H a = some (.lst vs) ∧ RpL K cl g ds vs ∧ ∀ es us, RpL K cl g es us → Rel K cl g (putM env S k es).1 (putM env S k es).2 σ (upd H a (.lst us)) := by
  cases k with
  | slot i =>
    simp only [getM] at e
    split at e
    · rename_i ds' he
      cases e
      obtain ⟨a, vs, e1, e2, r0, f1, f2, f3⟩ := R.own i _ he
      have hv : σ[i]? = some (some v) := r
      rw [e1] at hv
      cases hv
      exact ⟨a, vs, rfl, e2, r0, fun es us r' => R.setOwnList he e1 r'⟩
    · cases e
  | val d =>
    cases d with
    | loc n =>
      simp only [getM] at e
      split at e
      · rename_i ds' he
        cases e
        cases (show Rp K cl g (.loc n) v from r) with
        | @loc _ a hm =>
          obtain ⟨vs, q, r0⟩ := R.sto n _ a he hm
          exact ⟨a, vs, rfl, q, r0, fun es us r' => R.setSto hm (List.getElem?_eq_some_iff.mp he).1 fun H' h' => ⟨us, h', r'⟩⟩
      · cases e
    | _ => cases e
theorem getM_up {S1 : Store} {k : Lk} {ds : List D} (e : getM env S k = some ds) (R : Rel K cl g env S σ H) {v : V} (r : LkR K cl g σ k v) : ∃ a vs, v = .ref a ∧ H a = some (.lst vs) := by
  obtain ⟨a, vs, e1, e2, _⟩ := put_ok R r e
  exact ⟨a, vs, e1, e2⟩
end

/-! ### expressions that write -/
abbrev MX := Env → Store → Res ((D × Env) × Store)
def okX (K : PySem.W.Frag) (cl : Nat → Addr) (g : G) (σ : St) (Q : VK) : (D × Env) × Store → Prop := fun p => ∀ g' H' v, g.le g' → Rel K cl g' p.1.2 p.2 σ H' → Rp K cl g' p.1.1 v → Q v H'
def upX (K : PySem.W.Frag) (cl : Nat → Addr) (W : WX) (m : MX) : TE := fun σ H Q => ∃ g env S, Rel K cl g env S σ H ∧ Po K cl W g env σ (okX K cl g σ Q) (m env S)
def RX (X : Cx) (cl : Nat → Addr) (W : WX) (e : Expr) (m : MX) : Prop := PE X e (upX X.K cl W m)
def mX (m : ME) : MX := fun env S => (m env S).bind fun d S1 => .ok ((d, env), S1)
section
variable {K : PySem.W.Frag} {cl : Nat → Addr} {W : WX} {g g1 : G} {env : Env} {S : Store} {σ : St} {H : Hp} {N : Ends}
theorem poX {Q : VK} {r : Res ((D × Env) × Store)} (h : Po K cl W g env σ (okX K cl g σ Q) r) (le : g.le g1) : Po K cl W g1 env σ (okX K cl g1 σ Q) r := h.up le fun _ x g' H' v l R r => x g' H' v (le.trans l) R r
theorem upX.imp {m : MX} {σ : St} {H : Hp} {Q Q' : VK} (h : upX K cl W m σ H Q) (k : ∀ v H', Q v H' → Q' v H') : upX K cl W m σ H Q' := by
  obtain ⟨g, env, S, R, q⟩ := h
  exact ⟨g, env, S, R, q.up (G.le.refl _) fun p hp g' H' v l R r => k _ _ (hp g' H' v l R r)⟩
theorem goX {ma : MX} {k : D × Env → Store → Out} (R : Rel K cl g env S σ H) (h : PoS K cl W N g ((ma env S).go env k)) :
    upX K cl W ma σ H fun v H1 => ∃ g1 S1 d env1, g.le g1 ∧ Rel K cl g1 env1 S1 σ H1 ∧ Rp K cl g1 d v ∧ PoS K cl W N g1 (k (d, env1) S1) := by
  refine ⟨g, env, S, R, ?_⟩
  cases e : ma env S with
  | ok p => rw [e] at h; exact fun g' H' v le R' r => ⟨g', p.2, p.1.1, p.1.2, le, R', r, PoS.up h le⟩
  | exc x S' => rw [e] at h; exact PoS.excE h
  | bad => rw [e] at h; exact h
end
section
variable {X : Cx} {cl : Nat → Addr} {W : WX} {pos : Pos} {e o i : Expr} {m me mi : ME} {mx : MX} {mb : ML} {mo : MO}
theorem rx_of (h : RE X cl W e m) : RX X cl W e (mX m) := peW h fun σ H Q ⟨g, env, S, R, q⟩ =>
  (bindE R q).imp fun v H1 ⟨g1, S1, d, l, R1, r, q1⟩ => poX q1 l g1 H1 v (G.le.refl _) R1 r
def mDropX (m : MX) : MS := fun env S => (m env S).go env fun p S1 => .nx p.2 S1
theorem rs_exprX (he : RX X cl W e mx) (hs : swapsWith e none pos.line X.env = pure false := by rfl) : RS X cl W (.Expr e pos) (mDropX mx) :=
  psW (ps_expr he hs) fun N σ H ⟨g, env, S, R, q⟩ => upX.imp (goX R q) fun v H1 ⟨g1, S1, d, env1, l, R1, r, q1⟩ => q1 g1 σ H1 (G.le.refl _) R1
def mAsgX (m : MX) (mg : MG) : MS := fun env S => (m env S).go env fun p S1 => match mg p.1 p.2 with
  | some env1 => .nx env1 S1
  | none => .bad
theorem rs_asgX {tg : Expr} {ts : List Nat} {mg : MG} (he : RX X cl W e mx) (hg : RG X cl tg ts mg) (hs : swapsWithSole [tg] e pos.line X.env = pure false := by rfl) (hw : swappedStores [tg] e X.env = pure none := by rfl)
    (h1 : (assignEach [tg] X.env).map (·.2) = [assign tg X.env] := by rfl) : RS X cl W (.Assign [tg] e pos) (mAsgX mx mg) :=
  psW (ps_asg he hg hs hw h1) fun N σ H ⟨g, env, S, R, q⟩ => upX.imp (goX R q) fun v H1 ⟨g1, S1, d, env1, l, R1, r, q1⟩ => by
    split at q1
    · rename_i env2 e1
      exact ⟨g1, env1, S1, d, env2, R1, r, e1, fun σ' R' _ _ => q1 g1 σ' H1 (G.le.refl _) R'⟩
    · exact q1.elim
def mRetX (m : MX) : MS := fun env S => (m env S).go env fun p S1 => .rt p.1 S1
theorem rs_retX (he : RX X cl W e mx) : RS X cl W (.Return (some e) pos) (mRetX mx) :=
  psW (ps_ret he) fun N σ H ⟨g, env, S, R, q⟩ => upX.imp (goX R q) fun v H1 ⟨g1, S1, d, env1, l, R1, r, q1⟩ => q1 g1 H1 v (G.le.refl _) R1.toRelF r

/-! ### a list's methods -/
def FitsM (K : PySem.W.Frag) (cl : Nat → Addr) (r : V → List V → Hp → VK → Prop) (f : List D → List D → Option (D × List D)) : Prop := ∀ (g : G) (H : Hp) (a : Addr) (xs ys ds : List D) (vs us : List V) (d : D) (Q : VK),
  H a = some (.lst vs) → RpL K cl g xs vs → RpL K cl g ds us → f xs ds = some (d, ys) → (∀ v ws, RpL K cl g ys ws → Rp K cl g d v → Q v (upd H a (.lst ws))) → r (.ref a) us H Q
def mMeth (f : List D → List D → Option (D × List D)) (mb : ML) (ma : MA) : MX := fun env S => (mb env S).bind fun k S1 => match getM env S1 k with
  | none => .bad
  | some _ => (ma env S1).bind fun ds S2 => match getM env S2 k with
    | none => .bad
    | some xs => match f xs ds with
      | some (d, ys) => .ok ((d, (putM env S2 k ys).1), (putM env S2 k ys).2)
      | none => .bad
theorem rx_meth {r : V → List V → Hp → VK → Prop} {f : List D → List D → Option (D × List D)} {name : Str} {id : String} {es : List Expr} {ma : MA} {apos cpos : Pos} (slot : Slot "list" name id) (hty : typeOf (.builtin id) = pure (.type "method_descriptor")) (hm : MtR X id r) (hf : FitsM X.K cl r f) (ho : RB X cl W o mb) (ha : RA X cl W (e :: es) ma)
    (hbase : attributeBase o name X.env (eval o X.env) = eval o X.env := by rfl)
    (hfew : ((backTo cpos (starEach (e :: es) X.env)).all (fun x => !x.1) && (backToKw cpos (keywordEach [] X.env)).all (fun x => x.1.isSome)
      && decide ((e :: es).length + ([] : List Keyword).length + (if ([] : List Keyword).isEmpty then 0 else 1) < 30)) = true := by rfl)
    (hline : (apos.endLine == cpos.line) = true := by rfl) (hs : starEach (e :: es) X.env = (false, eval e X.env) :: starEach es X.env := by rfl) (hplain : (backTo cpos (starEach es X.env)).any (·.1) = false := by rfl) :
    RX X cl W (.Call (.Attribute o name apos) (e :: es) [] cpos) (mMeth f mb ma) :=
  peW (pe_bm PySem.F.plainAttrs_list slot hty hm ho ha hbase hfew hline hs hplain) fun σ H Q ⟨g, env, S, R, q⟩ =>
    upB.imp (bindB R q) fun v H1 ⟨g1, S1, k, l1, R1, r1, q1⟩ => by
      have q1 := poX q1 l1
      split at q1
      · exact q1.elim
      · rename_i xs0 e0
        obtain ⟨a, vs, rfl, hH⟩ := getM_up (S1 := S) e0 R1 r1
        refine ⟨.inl ⟨rfl, vs, SqL.of hH⟩, upA.imp (bindA R1 q1) fun us H2 ⟨g2, S2, ds, l2, R2, r2, q2⟩ => ?_⟩
        have q2 := poX q2 l2
        split at q2
        · exact q2.elim
        · rename_i xs e1
          obtain ⟨a', vs', ea, hH', r3, kk⟩ := put_ok R2 (LkR.up l2 r1) e1
          cases ea
          split at q2
          · rename_i d ys e2
            exact hf g2 H2 a xs ys ds vs' us d Q hH' r3 r2 e2 fun v ws rw' rd => q2 g2 _ v (G.le.refl _) (kk ys ws rw') rd
          · exact q2.elim
def mMeth0 (f : List D → List D → Option (D × List D)) (mb : ML) : MX := fun env S => (mb env S).bind fun k S1 => match getM env S1 k with
  | none => .bad
  | some xs => match f xs [] with
      | some (d, ys) => .ok ((d, (putM env S1 k ys).1), (putM env S1 k ys).2)
      | none => .bad
theorem rx_meth0 {r : V → List V → Hp → VK → Prop} {f : List D → List D → Option (D × List D)} {name : Str} {id : String} {apos cpos : Pos} (slot : Slot "list" name id) (hty : typeOf (.builtin id) = pure (.type "method_descriptor")) (hm : MtR X id r) (hf : FitsM X.K cl r f) (ho : RB X cl W o mb)
    (hbase : attributeBase o name X.env (eval o X.env) = eval o X.env := by rfl) (hline : (apos.endLine == cpos.line) = true := by rfl) : RX X cl W (.Call (.Attribute o name apos) [] [] cpos) (mMeth0 f mb) :=
  peW (pe_bm0 PySem.F.plainAttrs_list slot hty hm ho hbase hline) fun σ H Q ⟨g, env, S, R, q⟩ =>
    upB.imp (bindB R q) fun v H1 ⟨g1, S1, k, l1, R1, r1, q1⟩ => by
      have q1 := poX q1 l1
      split at q1
      · exact q1.elim
      · rename_i xs e1
        obtain ⟨a, vs, rfl, hH, r3, kk⟩ := put_ok R1 r1 e1
        split at q1
        · rename_i d ys e2
          exact ⟨.inl ⟨rfl, vs, SqL.of hH⟩, hf g1 H1 a xs ys [] vs [] d Q hH r3 .nil e2 fun v ws rw' rd => q1 g1 _ v (G.le.refl _) (kk ys ws rw') rd⟩
        · exact q1.elim
def fAppend (xs ds : List D) : Option (D × List D) := match ds with
  | [d] => if xs.length < SZ then some (.non, xs ++ [d]) else none
  | _ => none
def fPop (xs ds : List D) : Option (D × List D) := match ds with
  | [] => match xs[xs.length - 1]? with
    | some d => some (d, xs.dropLast)
    | none => none
  | _ => none
theorem fits_append {K : PySem.W.Frag} : FitsM K cl rAppend fAppend := fun g H a xs ys ds vs us d Q h r r2 e q => by
  cases ds with
  | nil => cases e
  | cons x ds =>
    cases ds with
    | cons => cases e
    | nil =>
      simp only [fAppend] at e
      split at e
      · rename_i hz
        cases e
        cases r2 with
        | cons r3 r4 =>
          cases r4
          exact ⟨a, vs, _, rfl, rfl, h, by rw [sz_eq, ← r.length]; exact hz, q _ _ (r.app (.one r3)) .non⟩
      · cases e
theorem fits_pop {K : PySem.W.Frag} : FitsM K cl rPop fPop := fun g H a xs ys ds vs us d Q h r r2 e q => by
  cases ds with
  | cons => cases e
  | nil =>
    cases r2
    simp only [fPop] at e
    split at e
    · rename_i d' e1
      cases e
      obtain ⟨v, e2, r3⟩ := r.getD e1
      rw [r.length] at e2
      exact ⟨a, vs, v, rfl, rfl, h, e2, q _ _ r.dropLast r3⟩
    · cases e
theorem rx_append {apos cpos : Pos} {ma : MA} (ho : RB X cl W o mb) (ha : RA X cl W [e] ma)
    (hbase : attributeBase o "append" X.env (eval o X.env) = eval o X.env := by rfl)
    (hfew : ((backTo cpos (starEach [e] X.env)).all (fun x => !x.1) && (backToKw cpos (keywordEach [] X.env)).all (fun x => x.1.isSome)
      && decide ([e].length + ([] : List Keyword).length + (if ([] : List Keyword).isEmpty then 0 else 1) < 30)) = true := by rfl)
    (hline : (apos.endLine == cpos.line) = true := by rfl) (hs : starEach [e] X.env = (false, eval e X.env) :: starEach [] X.env := by rfl) (hplain : (backTo cpos (starEach [] X.env)).any (·.1) = false := by rfl) :
    RX X cl W (.Call (.Attribute o "append" apos) [e] [] cpos) (mMeth fAppend mb ma) :=
  rx_meth PySem.F.slot_list_append PySem.F.type_list_append mt_append fits_append ho ha hbase hfew hline hs hplain
theorem rx_pop {apos cpos : Pos} (ho : RB X cl W o mb) (hbase : attributeBase o "pop" X.env (eval o X.env) = eval o X.env := by rfl) (hline : (apos.endLine == cpos.line) = true := by rfl) :
    RX X cl W (.Call (.Attribute o "pop" apos) [] [] cpos) (mMeth0 fPop mb) := rx_meth0 PySem.F.slot_list_pop PySem.F.type_list_pop mt_pop fits_pop ho hbase hline
/-- xs.extend(a list) -/
def mExt (mb ma : ML) : MX := fun env S => (mb env S).bind fun k S1 => match getM env S1 k with
  | none => .bad
  | some _ => (ma env S1).bind fun l S2 => match getM env S2 k, ctL env S2 l with
    | some xs, some (.l ds) => if xs.length + ds.length ≤ SZ then .ok ((.non, (putM env S2 k (xs ++ ds)).1), (putM env S2 k (xs ++ ds)).2) else .bad
    | _, _ => .bad
theorem rx_ext {apos cpos : Pos} {ma : ML} (ho : RB X cl W o mb) (ha : RB X cl W e ma)
    (hbase : attributeBase o "extend" X.env (eval o X.env) = eval o X.env := by rfl)
    (hfew : ((backTo cpos (starEach [e] X.env)).all (fun x => !x.1) && (backToKw cpos (keywordEach [] X.env)).all (fun x => x.1.isSome)
      && decide ([e].length + ([] : List Keyword).length + (if ([] : List Keyword).isEmpty then 0 else 1) < 30)) = true := by rfl)
    (hline : (apos.endLine == cpos.line) = true := by rfl) (hs : starEach [e] X.env = (false, eval e X.env) :: starEach [] X.env := by rfl) (hplain : (backTo cpos (starEach [] X.env)).any (·.1) = false := by rfl) :
    RX X cl W (.Call (.Attribute o "extend" apos) [e] [] cpos) (mExt mb ma) :=
  peW (pe_bm PySem.F.plainAttrs_list PySem.F.slot_list_extend PySem.F.type_list_extend mt_extend ho (pa_cons ha pa_nil hs) hbase hfew hline hs hplain) fun σ H Q ⟨g, env, S, R, q⟩ =>
    upB.imp (bindB R q) fun v H1 ⟨g1, S1, k, l1, R1, r1, q1⟩ => by
      have q1 := poX q1 l1
      split at q1
      · exact q1.elim
      · rename_i xs0 e0
        obtain ⟨a, vs, rfl, hH⟩ := getM_up (S1 := S) e0 R1 r1
        refine ⟨.inl ⟨rfl, vs, SqL.of hH⟩, upB.imp (bindB R1 q1) fun u H2 ⟨g2, S2, l, l2, R2, r2, q2⟩ => ?_⟩
        have q2 := poX q2 l2
        split at q2
        · rename_i xs ds e1 e2
          obtain ⟨a', vs', ea, hH', r3, kk⟩ := put_ok R2 (LkR.up l2 r1) e1
          cases ea
          obtain ⟨b, us, rfl, h4, r4⟩ := ct_late R2 r2 e2
          split at q2
          · rename_i hz
            exact ⟨a, b, vs', us, rfl, rfl, hH', h4, by rw [sz_eq, ← r3.length, ← r4.length]; exact hz, q2 g2 _ .non (G.le.refl _) (kk _ _ (r3.app r4)) .non⟩
          · exact q2.elim
        · exact q2.elim

/-! ### o[i] = e, o[i] op= e -/
def mSub (me : ME) (mb : ML) (mi : ME) : MS := fun env S => (me env S).go env fun d S1 => (mb env S1).go env fun k S2 => (mi env S2).go env fun x S3 => match x, getM env S3 k with
  | .int i, some xs => match ixN xs.length i with
    | some j => .nx (putM env S3 k (xs.set j d)).1 (putM env S3 k (xs.set j d)).2
    | none => .bad
  | _, _ => .bad
theorem rs_sub {pos' : Pos} (he : RE X cl W e me) (ho : RB X cl W o mb) (hi : RE X cl W i mi) (hs : swapsWithSole [.Subscript o i pos'] e pos.line X.env = pure false := by rfl) (hw : swappedStores [.Subscript o i pos'] e X.env = pure none := by rfl)
    (h1 : (assignEach [.Subscript o i pos'] X.env).map (·.2) = [assign (.Subscript o i pos') X.env] := by rfl)
    (ha : ∀ v, assign (.Subscript o i pos') X.env v = (do
      let ov ← holding [v] (eval o X.env)
      let iv ← holding [v, ov] (eval i X.env)
      standAt pos'
      holding [v, ov, iv] (setItem ov iv v)
      release [v, ov, iv] []) := by intro _; rfl) : RS X cl W (.Assign [.Subscript o i pos'] e pos) (mSub me mb mi) :=
  psW (ps_asg he (pg_sub ho hi set_list ha) hs hw h1) fun N σ H ⟨g, env, S, R, q⟩ => upE.imp (goE R q) fun v H1 ⟨g1, S1, d, l1, R1, r1, q1⟩ => by
    show upB X.K cl W mb σ H1 _
    refine upB.imp (goB R1 q1) fun ov H2 ⟨g2, S2, k, l2, R2, r2, q2⟩ => ?_
    refine upE.imp (goE R2 q2) fun iv H3 ⟨g3, S3, x, l3, R3, r3, q3⟩ => ?_
    split at q3
    · rename_i x z xs e1
      cases r3
      obtain ⟨a, vs, rfl, hH, r4, kk⟩ := put_ok R3 (LkR.up l3 r2) e1
      split at q3
      · rename_i j e2
        exact ⟨a, vs, z, j, rfl, rfl, hH, atI_len r4.length e2, q3 g3 σ _ (G.le.refl _) (kk _ _ (r4.set j (Rp.up (l2.trans l3) _ _ r1)))⟩
      · exact q3.elim
    · exact q3.elim
/-- o[i], by values, a list -/
theorem get_list : PGet X (rIxL X.K) := fun pins s σ H x y v u Q I rx ry ⟨p, xs, i, z, e1, e2, hq, he, q⟩ => by
  subst e1; subst e2
  cases rx
  obtain ⟨t, rfl⟩ := ry
  obtain ⟨its, r, pl, hz⟩ := I.list hq
  obtain ⟨j, h1, h2, h3, h4, h5⟩ := atI_get he
  obtain ⟨w, ew, rw'⟩ := r.get h2
  have hl := r.length
  have hn := line63
  have fin : EP X pins σ Q w s := ⟨z, H, I, rw', q⟩
  by_cases h0 : 0 ≤ i
  · have hj : i.toNat = j := by
      rw [seqIndex_of h0 h5] at h1
      exact Option.some.inj h1
    exact wpAny_getItem_list pl.isList h0 (by omega) (by rw [hj]; simpa using ew) fin
  · have hj : (i + (its.toArray.size : Int)).toNat = j := by
      rw [seqIndex_neg (by omega) h4] at h1
      rw [List.size_toArray, ← hl]
      exact Option.some.inj h1
    exact wpAny_getItem_list_neg pl.isList (by omega) (by rw [List.size_toArray] <;> omega) (by omega) (by rw [hj]; simpa using ew) fin
def mAugSub (mb : ML) (mi me : ME) : MS := fun env S => (mb env S).go env fun k S1 => (mi env S1).go env fun x S2 => match x, getM env S2 k with
  | .int i, some xs => match atI xs i with
    | some (.int z) => (me env S2).go env fun y S3 => match y, getM env S3 k with
      | .int w, some ys => match ixN ys.length i with
        | some j => .nx (putM env S3 k (ys.set j (.int (z + w)))).1 (putM env S3 k (ys.set j (.int (z + w)))).2
        | none => .bad
      | _, _ => .bad
    | _ => .bad
  | _, _ => .bad
theorem rs_augSub {pos' : Pos} (ho : RB X cl W o mb) (hi : RE X cl W i mi) (he : RE X cl W e me)
    (ha : ∀ ov iv new, augStore i ov iv new = (do holding [new, ov, iv] (setItem ov iv new); release [new, ov, iv] []; pure .next) := by intros; rfl) : RS X cl W (.AugAssign (.Subscript o i pos') .Add e pos) (mAugSub mb mi me) :=
  psW (ps_augS ho hi get_list he ip_add set_list ha) fun N σ H ⟨g, env, S, R, q⟩ => by
    show upB X.K cl W mb σ H _
    refine upB.imp (goB R q) fun ov H1 ⟨g1, S1, k, l1, R1, r1, q1⟩ => ?_
    refine upE.imp (goE R1 q1) fun iv H2 ⟨g2, S2, x, l2, R2, r2, q2⟩ => ?_
    split at q2
    · rename_i x z xs e1
      cases r2
      obtain ⟨a, vs, rfl, hH, r4, kk⟩ := put_ok R2 (LkR.up l2 r1) e1
      split at q2
      · rename_i z' e2
        obtain ⟨w, e3, r5⟩ := atI_rp r4 e2
        cases r5
        refine ⟨a, vs, z, _, rfl, rfl, SqL.of hH, e3, ?_⟩
        refine upE.imp (goE R2 q2) fun yv H3 ⟨g3, S3, y, l3, R3, r3, q3⟩ => ?_
        split at q3
        · rename_i y w ys e4
          cases r3
          obtain ⟨a', vs', ea, hH', r6, kk'⟩ := put_ok R3 (LkR.up (l2.trans l3) r1) e4
          cases ea
          split at q3
          · rename_i j e5
            exact ⟨z', w, rfl, rfl, a, vs', z, j, rfl, rfl, hH', atI_len r6.length e5, q3 g3 σ _ (G.le.refl _) (kk' _ _ (r6.set j (.int _)))⟩
          · exact q3.elim
        · exact q3.elim
      · exact q2.elim
    · exact q2.elim

/-! ### name op= e -/
def mAug (i : Nat) (f : Int → Int → Int) (me : ME) : MS := fun env S => match env[i]? with
  | some (some (.val (.int z))) => (me env S).go env fun y S1 => match y with
    | .int w => .nx (env.set i (some (.val (.int (f z w))))) S1
    | _ => .bad
  | _ => .bad
theorem rs_aug (i : Nat) {f : Int → Int → Int} {op : Operator} {x : Str} {pos' : Pos} (hN : X.N.Nodup) (hi : X.N[i]? = some x) (hx : Loc X.env.scope x) (hop : PIp X op (ipI f)) (he : RE X cl W e me) (hf : X.fn x = true ∨ X.env.scope.names.lookup x = some .local := by first | exact .inl rfl | exact .inr rfl | assumption) :
    RS X cl W (.AugAssign (.Name x pos') op e pos) (mAug i f me) :=
  psW (ps_aug hN hi hx he hop hf) fun N σ H ⟨g, env, S, R, q⟩ => by
    unfold mAug at q
    split at q
    · rename_i z e0
      obtain ⟨v, e1, r1⟩ := R.val i _ e0
      cases r1
      refine ⟨_, e1, ?_⟩
      show upE X.K cl W me σ H _
      refine upE.imp (goE R q) fun v H1 ⟨g1, S1, y, l, R1, r, q1⟩ => ?_
      split at q1
      · rename_i w
        cases r
        exact ⟨z, w, rfl, rfl, q1 g1 _ H1 (G.le.refl _) (R1.setVal (.int _))⟩
      · exact q1.elim
    · exact q.elim

/-! ### a new thing of the store -/
def mNew (m : MO) : ME := fun env S => (m env S).bind fun ds S1 => .ok (.loc S1.length, S1 ++ [.lst ds])
theorem Fresh.alloc {K : PySem.W.Frag} {g : G} {env : Env} {S : Store} {σ : St} {H : Hp} {ds : List D} {a : Addr} {vs : List V} (R : Rel K cl g env S σ H) (f : Fresh K cl g env σ H ds a vs) :
    ∃ g', g.le g' ∧ Rel K cl g' env (S ++ [.lst ds]) σ H ∧ Rp K cl g' (.loc S.length) (.ref a) := by
  have le : g.le { g with mu := g.mu ++ [a] } := ⟨L2.Same.refl _, rfl, [a], rfl⟩
  refine ⟨{ g with mu := g.mu ++ [a] }, le, ⟨⟨R.sub, R.prot, R.dis, by simp [R.st], fun n o b e1 e2 => ?_, fun b hb => ?_, ?_⟩, R.len, fun i d e => ?_, fun i es e => ?_, R.ownd⟩, .loc ?_⟩
  · have e2' : (g.mu ++ [a])[n]? = some b := e2
    by_cases hn : n < S.length
    · rw [List.getElem?_append_left hn] at e1
      rw [List.getElem?_append_left (by rw [R.st]; exact hn)] at e2'
      exact (R.sto n o b e1 e2').keep le rfl
    · have hn' : n = S.length := by
        have := (List.getElem?_eq_some_iff.mp e1).1
        simp at this; omega
      subst hn'
      have ho : o = .lst ds := by simpa using e1.symm
      have hb : b = a := by
        rw [← R.st] at e2'
        simpa using e2'.symm
      subst ho; subst hb
      exact ⟨vs, f.at_, RpL.up le _ _ f.rp⟩
  · rcases List.mem_append.mp hb with h | h
    · exact R.muF b h
    · have : b = a := by simpa using h
      subst this
      exact ⟨f.f, f.t⟩
  · refine List.nodup_append.mpr ⟨R.nd, by simp, fun x hx y hy z => ?_⟩
    have : y = a := by simpa using hy
    subst this
    subst z
    exact f.m hx
  · obtain ⟨v, e1, r⟩ := R.val i d e
    exact ⟨v, e1, Rp.up le _ _ r⟩
  · obtain ⟨b, us, e1, e2, r, q1, q2, q3⟩ := R.own i es e
    have hne : b ≠ a := fun z => f.o i es e (z ▸ e1)
    refine ⟨b, us, e1, e2, RpL.up le _ _ r, q1, q2, fun hb => ?_⟩
    rcases List.mem_append.mp hb with h | h
    · exact q3 h
    · exact hne (by simpa using h)
  · show (g.mu ++ [a])[S.length]? = some a
    rw [← R.st]
    simp
theorem re_new (h : RO X cl W e mo) : RE X cl W e (mNew mo) := peW h fun σ H Q ⟨g, env, S, R, q⟩ =>
  (bindO R q).imp fun v H1 ⟨g1, S1, ds, a, vs, ev, le, R1, f1, q1⟩ => by
    subst ev
    obtain ⟨g2, l2, R2, r2⟩ := f1.alloc R1
    exact poE q1 (le.trans l2) g2 H1 _ (G.le.refl _) R2 r2
end

/-! ### fields -/
def fldD (c : Nat) (f : Str) (S : Store) : D → Option D
  | .ins c' ks ds => if c' = c then (ks.zip ds).lookup f else none
  | .loc n => match S[n]? with
    | some (.ins c' ks ds) => if c' = c then (ks.zip ds).lookup f else none
    | _ => none
  | _ => none
def mFld (c : Nat) (f : Str) (m : ME) : ME := fun env S => (m env S).bind fun d S1 => match fldD c f S1 d with
  | some x => .ok (x, S1)
  | none => .bad
theorem zip_lookup {K : PySem.W.Frag} {cl : Nat → Addr} {g : G} {f : Str} {d : D} : ∀ {ks : List Str} {ds : List D} {vs : List V}, RpL K cl g ds vs → (ks.zip ds).lookup f = some d → ∃ v, (ks.zip vs).lookup f = some v ∧ Rp K cl g d v
  | [], _, _, _, e => by cases e
  | k :: ks, _, _, .nil, e => by cases e
  | k :: ks, _, _, .cons r1 r2, e => by
    simp only [List.zip_cons_cons, List.lookup] at e ⊢
    cases hk : (f == k) with
    | true => simp only [hk] at e ⊢; cases e; exact ⟨_, rfl, r1⟩
    | false => simp only [hk] at e ⊢; exact zip_lookup r2 e
section
variable {X : Cx} {cl : Nat → Addr} {W : WX} {pos : Pos} {e o : Expr} {m me mo : ME}
theorem re_fld (c : Nat) {f : Str} (hc : Cls X.K (cl c)) (hn : NoAttr X.K (cl c) f) (h : RE X cl W o m) (hb : attributeBase o f X.env (eval o X.env) = eval o X.env := by rfl) : RE X cl W (.Attribute o f pos) (mFld c f m) :=
  peW (pe_fld h hb) fun σ H Q ⟨g, env, S, R, q⟩ => upE.imp (bindE R q) fun v H1 ⟨g1, S1, d, l, R1, r, q0⟩ => by
    have q1 := poE q0 l
    clear q0
    split at q1
    · rename_i x ex
      cases d with
      | ins c' ks ds =>
        simp only [fldD] at ex
        split at ex
        · rename_i hcc
          subst hcc
          cases r with
          | @ins _ _ _ a dx vs h1 h2 h3 =>
            obtain ⟨w, e1, r1⟩ := zip_lookup h3 ex
            exact ⟨a, _, dx, _, w, rfl, R1.sub _ _ h1, hc, hn, e1, q1 g1 H1 w (G.le.refl _) R1 r1⟩
        · cases ex
      | loc n =>
        simp only [fldD] at ex
        split at ex
        · rename_i c' ks ds hS
          split at ex
          · rename_i hcc
            subst hcc
            cases r with
            | @loc _ a hm =>
              obtain ⟨dx, vs, h1, h2, h3⟩ := R1.sto n _ a hS hm
              obtain ⟨w, e1, r1⟩ := zip_lookup h3 ex
              exact ⟨a, _, dx, _, w, rfl, h1, hc, hn, e1, q1 g1 H1 w (G.le.refl _) R1 r1⟩
          · cases ex
        · cases ex
      | _ => cases ex
    · exact q1.elim
def putK (f : Str) : List Str → List Str
  | [] => [f]
  | k :: ks => if k = f then k :: ks else k :: putK f ks
def putD {α : Type} (f : Str) (x : α) : List Str → List α → List α
  | [], _ => [x]
  | k :: ks, d :: ds => if k = f then x :: ds else d :: putD f x ks ds
  | k :: ks, [] => []
theorem putF_zip {f : Str} {v : V} : ∀ {ks : List Str} {vs : List V}, ks.length = vs.length → putF f v (ks.zip vs) = (putK f ks).zip (putD f v ks vs)
  | [], [], _ => rfl
  | [], _ :: _, h => by cases h
  | _ :: _, [], h => by cases h
  | k :: ks, u :: vs, h => by
    simp only [List.zip_cons_cons, putF, putK, putD]
    by_cases hk : k = f
    · rw [if_pos hk, if_pos hk, if_pos hk]; rfl
    · rw [if_neg hk, if_neg hk, if_neg hk, putF_zip (by simpa using h)]; rfl
theorem putKD_len {α β : Type} {f : Str} {x : α} : ∀ {ks : List Str} {ds : List α}, ks.length = ds.length → (putK f ks).length = (putD f x ks ds).length
  | [], [], _ => rfl
  | [], _ :: _, h => by cases h
  | _ :: _, [], h => by cases h
  | k :: ks, d :: ds, h => by
    simp only [putK, putD]
    by_cases hk : k = f
    · rw [if_pos hk, if_pos hk]; exact h
    · rw [if_neg hk, if_neg hk, List.length_cons, List.length_cons, putKD_len (β := β) (by simpa using h)]
theorem RpL.putD {K : PySem.W.Frag} {cl : Nat → Addr} {g : G} {f : Str} {d : D} {v : V} (r : Rp K cl g d v) : ∀ {ks : List Str} {ds : List D} {vs : List V}, RpL K cl g ds vs → RpL K cl g (putD f d ks ds) (putD f v ks vs)
  | [], _, _, _ => .one r
  | k :: ks, _, _, .nil => .nil
  | k :: ks, _, _, .cons r1 r2 => by
    simp only [DL.putD]
    by_cases hk : k = f
    · rw [if_pos hk, if_pos hk]; exact .cons r r2
    · rw [if_neg hk, if_neg hk]; exact .cons r1 (RpL.putD r r2)
/-- o.f = e of a thing of the store -/
def mPutF (c : Nat) (f : Str) (mo me : ME) : MS := fun env S => (me env S).go env fun d S1 => (mo env S1).go env fun x S2 => match x with
  | .loc n => match S2[n]? with
    | some (.ins c' ks ds) => if c' = c ∧ ks.length = ds.length ∧ ks.length < 1000 then .nx env (S2.set n (.ins c (putK f ks) (putD f d ks ds))) else .bad
    | _ => .bad
  | _ => .bad
theorem rs_putF (c : Nat) {f : Str} {pos' : Pos} (hc : Cls X.K (cl c)) (hn : NoAttr X.K (cl c) f) (ho : RE X cl W o mo) (he : RE X cl W e me) (hs : swapsWith e (some (.Attribute o f pos')) pos.line X.env = pure false := by rfl) :
    RS X cl W (.Assign [.Attribute o f pos'] e pos) (mPutF c f mo me) :=
  psW (ps_fld ho he hs) fun N σ H ⟨g, env, S, R, q⟩ => by
    show upE X.K cl W me σ H _
    refine upE.imp (goE R q) fun v H1 ⟨g1, S1, d, l1, R1, r1, q1⟩ => ?_
    refine upE.imp (goE R1 q1) fun u H2 ⟨g2, S2, x, l2, R2, r2, q2⟩ => ?_
    cases x with
    | loc n =>
      dsimp only at q2
      split at q2
      · rename_i c' ks ds hS
        split at q2
        · rename_i hz
          obtain ⟨rfl, z1, z2⟩ := hz
          cases r2 with
          | @loc _ a hm =>
            obtain ⟨dx, vs, h1, h2, h3⟩ := R2.sto n _ a hS hm
            have hl : ks.length = vs.length := h2.trans h3.length
            refine ⟨a, _, dx, _, rfl, h1, hc, hn, ?_, q2 g2 σ _ (G.le.refl _) (R2.setSto hm (List.getElem?_eq_some_iff.mp hS).1 fun H' h' => ⟨dx, DL.putD f v ks vs, ?_, putKD_len (β := V) z1, RpL.putD (Rp.up l2 _ _ r1) h3⟩)⟩
            · rw [List.length_zip, ← hl, Nat.min_self]; exact z2
            · rw [h', putF_zip hl]
        · exact q2.elim
      · exact q2.elim
    | _ => exact q2.elim
/-- o.f += e of a thing of the store -/
def mAugF (c : Nat) (f : Str) (mo me : ME) : MS := fun env S => (mo env S).go env fun x S1 => match x with
  | .loc n => match fldD c f S1 (.loc n) with
    | some (.int z) => (me env S1).go env fun y S2 => match y with
      | .int w => match S2[n]? with
        | some (.ins c' ks ds) => if c' = c ∧ ks.length = ds.length ∧ ks.length < 1000 then .nx env (S2.set n (.ins c (putK f ks) (putD f (.int (z + w)) ks ds))) else .bad
        | _ => .bad
      | _ => .bad
    | _ => .bad
  | _ => .bad
theorem rs_augF (c : Nat) {f : Str} {pos' : Pos} (hc : Cls X.K (cl c)) (hn : NoAttr X.K (cl c) f) (ho : RE X cl W o mo) (he : RE X cl W e me) : RS X cl W (.AugAssign (.Attribute o f pos') .Add e pos) (mAugF c f mo me) :=
  psW (ps_fldaug ho he in_add) fun N σ H ⟨g, env, S, R, q⟩ => by
    show upE X.K cl W mo σ H _
    refine upE.imp (goE R q) fun v H1 ⟨g1, S1, x, l1, R1, r1, q1⟩ => ?_
    cases x with
    | loc n =>
      dsimp only at q1
      split at q1
      · rename_i z ez
        simp only [fldD] at ez
        split at ez
        · rename_i c' ks ds hS
          split at ez
          · rename_i hcc
            subst hcc
            cases r1 with
            | @loc _ a hm =>
              obtain ⟨dx, vs, h1, h2, h3⟩ := R1.sto n _ a hS hm
              obtain ⟨w, e1, r2⟩ := zip_lookup h3 ez
              cases r2
              refine ⟨a, _, dx, _, _, rfl, h1, hc, hn, e1, ?_⟩
              refine upE.imp (goE R1 q1) fun u H2 ⟨g2, S2, y, l2, R2, r3, q2⟩ => ?_
              cases y with
              | int w =>
                cases r3
                dsimp only at q2
                split at q2
                · rename_i c2 ks2 ds2 hS2
                  split at q2
                  · rename_i hz
                    obtain ⟨rfl, z1, z2⟩ := hz
                    have hm2 := l2.mu hm
                    obtain ⟨dx2, vs2, k1, k2, k3⟩ := R2.sto n _ a hS2 hm2
                    have hl : ks2.length = vs2.length := k2.trans k3.length
                    refine ⟨z, w, rfl, rfl, dx2, _, k1, ?_, q2 g2 σ _ (G.le.refl _) (R2.setSto hm2 (List.getElem?_eq_some_iff.mp hS2).1 fun H' h' => ⟨dx2, DL.putD f (V.int (z + w)) ks2 vs2, ?_, putKD_len (β := V) z1, RpL.putD (.int _) k3⟩)⟩
                    · rw [List.length_zip, ← hl, Nat.min_self]; exact z2
                    · rw [h', putF_zip hl]
                  · exact q2.elim
                · exact q2.elim
              | _ => exact q2.elim
          · cases ez
        · cases ez
      · exact q1.elim
    | _ => exact q1.elim
end
end DL

set_option Elab.async false
set_option linter.all false
set_option maxRecDepth 100000
set_option maxHeartbeats 1000000
set_option autoImplicit false
namespace DL
open PySem PySem.Spec PyProof.Rows L2

/-! ### defs -/
inductive FRes where
  | ret (d : D) (S : Store)
  | own (ds : List D) (S : Store)
  | exc (e : Ex) (S : Store)
  | bad
abbrev MFn := List D → Store → FRes
def PoF (K : PySem.W.Frag) (cl : Nat → Addr) (g : G) (Q : VK) (E : XK) : FRes → Prop
  | .ret d S => ∀ g' H' v, g.le g' → RelF K cl g' S H' → Rp K cl g' d v → Q v H'
  | .own ds S => ∀ g' H' a vs, g.le g' → RelF K cl g' S H' → H' a = some (.lst vs) → RpL K cl g' ds vs → g'.F a = none → g'.T a = none → a ∉ g'.mu → Q (.ref a) H'
  | .exc e S => ∀ g' H' cls dd, g.le g' → RelF K cl g' S H' → ExR K cl g' e cls dd → E cls dd H'
  | .bad => False
/-- what a def promises -/
def spOf (K : PySem.W.Frag) (cl : Nat → Addr) (n : Nat) (fm : MFn) : Sp := fun vs H Q E => ∃ g S ds, RelF K cl g S H ∧ RpL K cl g ds vs ∧ ds.length = n ∧ PoF K cl g Q E (fm ds S)
def startE (N : List Str) (ds : List D) : Env := ds.map (fun d => some (.val d)) ++ List.replicate (N.length - ds.length) none
def outF : Out → FRes
  | .nx _ S => .ret .non S
  | .rt d S => .ret d S
  | .ro ds S => .own ds S
  | .exc e _ S => .exc e S
  | _ => .bad
def mFn (N : List Str) (m : MS) : MFn := fun ds S => outF (m (startE N ds) S)
section
variable {K : PySem.W.Frag} {cl : Nat → Addr} {g g1 : G} {env : Env} {S S1 : Store} {σ : St} {H H1 : Hp}
theorem RelF.start (R : RelF K cl g S H) {ds : List D} {vs : List V} (r : RpL K cl g ds vs) (N : List Str) : Rel K cl g (startE N ds) S (start N vs) H := by
  have hl := r.length
  have noOwn : ∀ (i : Nat) (es : List D), (startE N ds)[i]? ≠ some (some (.own es)) := fun i es e => by
    unfold startE at e
    by_cases hi : i < ds.length
    · rw [List.getElem?_append_left (by simpa using hi), List.getElem?_map] at e
      cases h : ds[i]? with
      | none => rw [h] at e; cases e
      | some d => rw [h] at e; cases e
    · rw [List.getElem?_append_right (by simpa using hi), List.getElem?_replicate] at e
      split at e <;> cases e
  refine ⟨R, by unfold startE L2.start; simp [hl], fun i d e => ?_, fun i es e => (noOwn i es e).elim, fun i j es fs e => (noOwn i es e).elim⟩
  have hi : i < ds.length := by
    by_cases hi : i < ds.length
    · exact hi
    · unfold startE at e
      rw [List.getElem?_append_right (by simpa using hi), List.getElem?_replicate] at e
      split at e <;> cases e
  unfold startE at e
  rw [List.getElem?_append_left (by simpa using hi), List.getElem?_map] at e
  cases h : ds[i]? with
  | none => rw [h] at e; cases e
  | some d' =>
    rw [h] at e
    cases e
    obtain ⟨v, e2, r2⟩ := r.getD h
    refine ⟨v, ?_, r2⟩
    unfold L2.start
    rw [List.getElem?_append_left (by simpa [← hl] using hi), List.getElem?_map, e2]
    rfl
theorem poS_of {W : WX} {Q : VK} {E : XK} {o : Out} (hW : ∀ c d σ H, E c d H → W c d σ H) (p : PoF K cl g Q E (outF o)) : PoS K cl W { nx := fun _ H' => Q .non H', rt := Q } g o := by
  cases o with
  | nx env S => exact fun g' σ' H' l R => p g' H' .non l R.toRelF .non
  | rt d S => exact p
  | ro ds S => exact p
  | bk env S => exact p.elim
  | ct env S => exact p.elim
  | exc e env S => exact fun g' σ' H' c d l R x => hW c d σ' H' (p g' H' c d l R.toRelF x)
  | bad => exact p

/-! ### at a call all else is kept -/
open Classical in
noncomputable def G.call (g : G) (H : Hp) : G := { g with T := fun a => if g.F a = none ∧ a ∉ g.mu then H a else none }
theorem G.call_T {a : Addr} (h1 : g.F a = none) (h2 : a ∉ g.mu) : (g.call H).T a = H a := by
  unfold G.call
  exact if_pos ⟨h1, h2⟩
theorem G.call_some {a : Addr} {o : HO} (h : (g.call H).T a = some o) : g.F a = none ∧ a ∉ g.mu ∧ H a = some o := by
  unfold G.call at h
  dsimp only at h
  split at h
  · rename_i z; exact ⟨z.1, z.2, h⟩
  · cases h
theorem RelF.call (R : RelF K cl g S H) : RelF K cl (g.call H) S H := by
  refine ⟨R.sub, fun b u e => (G.call_some e).2.2, fun b => ?_, R.st, fun n o a e1 e2 => ?_, fun a ha => ⟨(R.muF a ha).1, ?_⟩, R.nd⟩
  · cases h : (g.call H).T b with
    | none => exact .inr rfl
    | some o => exact .inl (G.call_some h).1
  · have h := R.sto n o a e1 e2
    cases o with
    | lst ds => obtain ⟨us, q, r⟩ := h; exact ⟨us, q, RpL.ups (g := g) (g' := g.call H) (L2.Same.refl _) (fun _ _ e => e) _ _ r⟩
    | ins c ks ds => obtain ⟨dx, us, q, l, r⟩ := h; exact ⟨dx, us, q, l, RpL.ups (g := g) (g' := g.call H) (L2.Same.refl _) (fun _ _ e => e) _ _ r⟩
  · cases h : (g.call H).T a with
    | none => rfl
    | some o => exact ((G.call_some h).2.1 ha).elim
theorem RpL.call {ds : List D} {vs : List V} (r : RpL K cl g ds vs) : RpL K cl (g.call H) ds vs := RpL.ups (g := g) (g' := g.call H) (L2.Same.refl _) (fun _ _ e => e) _ _ r
/-- the caller's own T back again -/
def G.back (g g1 : G) : G := { g1 with T := g.T }
theorem G.back_le (le : (g.call H).le g1) : g.le (g.back g1) := ⟨le.1, rfl, le.2.2⟩
theorem back_rp (d : D) (v : V) (r : Rp K cl g1 d v) : Rp K cl (g.back g1) d v := Rp.ups (g := g1) (g' := g.back g1) (L2.Same.refl _) (fun _ _ e => e) d v r
theorem back_rpl (d : List D) (v : List V) (r : RpL K cl g1 d v) : RpL K cl (g.back g1) d v := RpL.ups (g := g1) (g' := g.back g1) (L2.Same.refl _) (fun _ _ e => e) d v r
theorem call_keep (R : RelF K cl g S H) (le : (g.call H).le g1) {a : Addr} {o : HO} (h : g.T a = some o) : g1.T a = some o := by
  have hF : g.F a = none := (R.dis a).resolve_right (by rw [h]; simp)
  have hm : a ∉ g.mu := fun z => by have := (R.muF a z).2; rw [h] at this; cases this
  rw [le.2.1, G.call_T hF hm]
  exact R.prot a o h
theorem RelF.back (R : RelF K cl g S H) (le : (g.call H).le g1) (R1 : RelF K cl g1 S1 H1) : RelF K cl (g.back g1) S1 H1 := by
  refine ⟨R1.sub, fun b u e => R1.prot b u (call_keep R le e), fun b => ?_, R1.st, fun n o a e1 e2 => ?_, fun a ha => ⟨(R1.muF a ha).1, ?_⟩, R1.nd⟩
  · cases h : g.T b with
    | none => exact .inr h
    | some o => exact .inl ((R1.dis b).resolve_right (by rw [call_keep R le h]; simp))
  · have h := R1.sto n o a e1 e2
    cases o with
    | lst ds => obtain ⟨us, q, r⟩ := h; exact ⟨us, q, back_rpl _ _ r⟩
    | ins c ks ds => obtain ⟨dx, us, q, l, r⟩ := h; exact ⟨dx, us, q, l, back_rpl _ _ r⟩
  · cases h : g.T a with
    | none => exact h
    | some o => have := (R1.muF a ha).2; rw [call_keep R le h] at this; cases this
theorem Rel.back (R : Rel K cl g env S σ H) (le : (g.call H).le g1) (R1 : RelF K cl g1 S1 H1) : Rel K cl (g.back g1) env S1 σ H1 := by
  refine ⟨R.toRelF.back le R1, R.len, fun i d e => ?_, fun i es e => ?_, R.ownd⟩
  · obtain ⟨v, e1, r⟩ := R.val i d e
    exact ⟨v, e1, Rp.up (G.back_le le) _ _ r⟩
  · obtain ⟨a, vs, e1, e2, r, f1, f2, f3⟩ := R.own i es e
    have hT : g1.T a = some (.lst vs) := by rw [le.2.1, G.call_T f1 f3]; exact e2
    refine ⟨a, vs, e1, R1.prot _ _ hT, RpL.up (G.back_le le) _ _ r, (R1.dis a).resolve_right (by rw [hT]; simp), f2, fun z => ?_⟩
    have := (R1.muF a z).2
    rw [hT] at this
    cases this
theorem Fresh.back (R : Rel K cl g env S σ H) (le : (g.call H).le g1) (R1 : RelF K cl g1 S1 H1) {ds : List D} {a : Addr} {vs : List V} (h : H1 a = some (.lst vs)) (r : RpL K cl g1 ds vs) (f1 : g1.F a = none) (f2 : g1.T a = none) (f3 : a ∉ g1.mu) : Fresh K cl (g.back g1) env σ H1 ds a vs := by
  refine ⟨h, back_rpl _ _ r, f1, ?_, f3, fun i es e z => ?_⟩
  · cases h2 : g.T a with
    | none => exact h2
    | some o => rw [call_keep R.toRelF le h2] at f2; cases f2
  · obtain ⟨b, us, e1, e2, _, k1, k2, k3⟩ := R.own i es e
    rw [z] at e1
    cases e1
    have hT : g1.T a = some (.lst us) := by rw [le.2.1, G.call_T k1 k3]; exact e2
    rw [hT] at f2
    cases f2
theorem ExR.back {e : Ex} {c : Value} {d : Option Addr} (x : ExR K cl g1 e c d) : ExR K cl (g.back g1) e c d := by
  obtain ⟨h1, d', vs, h2, h3, h4, h5⟩ := x
  exact ⟨h1, d', vs, h2, h3, h4, back_rpl _ _ h5⟩
end

/-! ### a def that may be called by its name -/
structure Cb (P : Program) (w : World) (K : PySem.W.Frag) (mg : Str → Option Value) (base : Heap) (cl : Nat → Addr) (k : Nat) (x : Str) (n : Nat) (fm : MFn) : Prop where
  ex : ∃ (f : Addr) (fd : FuncData) (ps : List Str), mg x = some (.ref f) ∧ PySem.W.keepIn K (.ref f) = true ∧ Binds K fd ps [] ∧ FnOk P w K mg base (L2.CX P w) k f fd ps (spOf K cl n fm)
/-- what the text has of a def -/
structure Df (K : PySem.W.Frag) (mg : Str → Option Value) (x : Str) (st : Stmt) (ps : List Str) : Prop where
  ex : ∃ (f : Addr) (fd : FuncData), mg x = some (.ref f) ∧ L2.Fun K x x st f fd ∧ Binds K fd ps []
section
variable {P : Program} {w : World} {K : PySem.W.Frag} {mg : Str → Option Value} {base : Heap} {cl : Nat → Addr} {k j n : Nat} {x : Str} {fm : MFn}
theorem Cb.mono (h : Cb P w K mg base cl j x n fm) (hk : j ≤ k) : Cb P w K mg base cl k x n fm := by
  obtain ⟨f, fd, ps, h1, h2, h3, h4⟩ := h.ex
  exact ⟨f, fd, ps, h1, h2, h3, h4.mono hk⟩
theorem Cb.none {st : Stmt} {ps : List Str} (d : Df K mg x st ps) : Cb P w K mg base cl k x n (fun _ _ => .bad) := by
  obtain ⟨f, fd, h1, h2, h3⟩ := d.ex
  exact ⟨f, fd, ps, h1, h2.kp, h3, ⟨fun vs H Q E ⟨_, _, _, _, _, _, q⟩ => q.elim, fun A outer s H args us vs Q E _ _ _ _ ⟨_, _, _, _, _, _, q⟩ => q.elim⟩⟩
theorem fn_ok {st : Stmt} {f : Addr} {fd : FuncData} {ps N : List Str} {m : MS} (F : L2.Fun K x x st f fd) (S : FnScope N ps (defScope st)) (hn : ps.length = n)
    (hbody : ∀ (cdv : Value) (A : Around) (outer : List PySem.Env) (s : Shared) (H : Hp) (E : XK), Room k (A.deeper (envOfC x (defScope st) s.heap.objs.size f cdv)) →
      Takes (cxOf (L2.CX P w) P w K mg base N x (defScope st) f cdv A outer s H E) (fun c d _ H => E c d H) →
      RSs (cxOf (L2.CX P w) P w K mg base N x (defScope st) f cdv A outer s H E) cl (fun c d _ H => E c d H) (defBody st) m) :
    FnOk P w K mg base (L2.CX P w) (k + 1) f fd ps (spOf K cl n (mFn N m)) := by
  refine F.okX S (fun vs H Q E ⟨g, S, ds, R, r, l, _⟩ => by rw [← r.length, l, hn]) fun cdv A outer s H vs Q E hr ⟨g, S1, ds, R, r, l, q⟩ => ?_
  exact ⟨upS K cl (fun c d _ H => E c d H) m, hbody cdv A outer s H E hr (takes_of rfl rfl rfl rfl), g, startE N ds, S1, R.start r N, poS_of (fun _ _ _ _ h => h) q⟩
end

/-! ### f(e, ..) -/
def mCall (fm : MFn) (ma : MA) : ME := fun env S => (ma env S).bind fun ds S1 => match fm ds S1 with
  | .ret d S2 => .ok (d, S2)
  | .exc e S2 => .exc e S2
  | _ => .bad
def mCallO (fm : MFn) (ma : MA) : MO := fun env S => (ma env S).bind fun ds S1 => match fm ds S1 with
  | .own d S2 => .ok (d, S2)
  | .exc e S2 => .exc e S2
  | _ => .bad
section
variable {K : PySem.W.Frag} {cl : Nat → Addr} {W : WX} {g : G} {env : Env} {S : Store} {σ : St} {H : Hp}
theorem sp_ret {fm : MFn} {ds : List D} {vs : List V} {Q : VK} {n : Nat} (R : Rel K cl g env S σ H) (r : RpL K cl g ds vs) (hn : ds.length = n)
    (q : Po K cl W g env σ (okE K cl g env σ Q) (match fm ds S with
      | .ret d S2 => .ok (d, S2)
      | .exc e S2 => .exc e S2
      | _ => .bad)) : spOf K cl n fm vs H Q (WE W σ) := by
  refine ⟨g.call H, S, ds, R.toRelF.call, r.call, hn, ?_⟩
  cases e : fm ds S with
  | ret d S2 => rw [e] at q; exact fun g1 H1 v le R1 r1 => q _ H1 v (G.back_le le) (R.back le R1) (back_rp _ _ r1)
  | own d S2 => rw [e] at q; exact q.elim
  | exc x S2 => rw [e] at q; exact fun g1 H1 c d le R1 x1 => q _ H1 c d (G.back_le le) (R.back le R1) x1.back
  | bad => rw [e] at q; exact q.elim
theorem sp_own {fm : MFn} {ds : List D} {vs : List V} {Q : VK} {n : Nat} (R : Rel K cl g env S σ H) (r : RpL K cl g ds vs) (hn : ds.length = n)
    (q : Po K cl W g env σ (okO K cl g env σ Q) (match fm ds S with
      | .own d S2 => .ok (d, S2)
      | .exc e S2 => .exc e S2
      | _ => .bad)) : spOf K cl n fm vs H Q (WE W σ) := by
  refine ⟨g.call H, S, ds, R.toRelF.call, r.call, hn, ?_⟩
  cases e : fm ds S with
  | ret d S2 => rw [e] at q; exact q.elim
  | own d S2 => rw [e] at q; exact fun g1 H1 a us le R1 h1 r1 f1 f2 f3 => q _ H1 a us (G.back_le le) (R.back le R1) (Fresh.back R le R1 h1 r1 f1 f2 f3)
  | exc x S2 => rw [e] at q; exact fun g1 H1 c d le R1 x1 => q _ H1 c d (G.back_le le) (R.back le R1) x1.back
  | bad => rw [e] at q; exact q.elim
end
section
variable {X : Cx} {cl : Nat → Addr} {W : WX} {p pos : Pos} {x : Str} {e : Expr} {es : List Expr} {ma : MA} {k n : Nat} {fm : MFn}
theorem re_call (C : Cb X.prog X.w X.K X.mg X.base cl k x n fm) (hr : Room k X.A) (hg : Gl X x) (tk : Takes X W) (ha : RA X cl W (e :: es) ma) (hn : ∀ env S ds S1, ma env S = .ok (ds, S1) → ds.length = n) (hdb : (x == ("__debug__" : Str)) = false := by decide)
    (he : starEach (e :: es) X.env = (false, eval e X.env) :: starEach es X.env := by rfl) (hpl : (backTo pos (starEach es X.env)).any (·.1) = false := by rfl) : RE X cl W (.Call (.Name x p) (e :: es) [] pos) (mCall fm ma) := by
  obtain ⟨f, fd, ps, h1, h2, h3, h4⟩ := C.ex
  refine peW (pe_callSD (ds := []) (dvs := []) h4 hr hg h1 h2 h3 .nil (fun σ => passAt tk σ) ha hdb he hpl) fun σ H Q ⟨g, env, S, R, q⟩ => ?_
  obtain ⟨g0, env0, S0, R0, p0⟩ := bindA (K := X.K) R q
  refine ⟨g, env, S, R, ?_⟩
  cases em : ma env S with
  | ok p =>
    have q2 : Po X.K cl W g env σ (okE X.K cl g env σ Q) (match fm p.1 p.2 with
      | .ret d S2 => .ok (d, S2)
      | .exc e S2 => .exc e S2
      | _ => .bad) := by
      have q3 := q
      unfold mCall at q3
      rw [em] at q3
      exact q3
    intro g1 H1 vs le R1 r1
    rw [List.append_nil]
    exact sp_ret R1 r1 (hn _ _ _ _ em) (poE q2 le)
  | exc x S2 =>
    have q3 := q
    unfold mCall at q3
    rw [em] at q3
    exact q3
  | bad =>
    have q3 := q
    unfold mCall at q3
    rw [em] at q3
    exact q3
theorem ro_call (C : Cb X.prog X.w X.K X.mg X.base cl k x n fm) (hr : Room k X.A) (hg : Gl X x) (tk : Takes X W) (ha : RA X cl W (e :: es) ma) (hn : ∀ env S ds S1, ma env S = .ok (ds, S1) → ds.length = n) (hdb : (x == ("__debug__" : Str)) = false := by decide)
    (he : starEach (e :: es) X.env = (false, eval e X.env) :: starEach es X.env := by rfl) (hpl : (backTo pos (starEach es X.env)).any (·.1) = false := by rfl) : RO X cl W (.Call (.Name x p) (e :: es) [] pos) (mCallO fm ma) := by
  obtain ⟨f, fd, ps, h1, h2, h3, h4⟩ := C.ex
  refine peW (pe_callSD (ds := []) (dvs := []) h4 hr hg h1 h2 h3 .nil (fun σ => passAt tk σ) ha hdb he hpl) fun σ H Q ⟨g, env, S, R, q⟩ => ?_
  refine ⟨g, env, S, R, ?_⟩
  have q3 := q
  unfold mCallO at q3
  cases em : ma env S with
  | ok p =>
    rw [em] at q3
    intro g1 H1 vs le R1 r1
    rw [List.append_nil]
    exact sp_own R1 r1 (hn _ _ _ _ em) (poO q3 le)
  | exc x S2 =>
    rw [em] at q3
    exact q3
  | bad =>
    rw [em] at q3
    exact q3
end
/-- how many arguments a list hands -/
def Hands (n : Nat) (ma : MA) : Prop := ∀ env S ds S1, ma env S = .ok (ds, S1) → ds.length = n
theorem hands_nil : Hands 0 mNil := fun env S ds S1 e => by cases e; rfl
theorem hands_cons {n : Nat} {m : ME} {ms : MA} (h : Hands n ms) : Hands (n + 1) (mCons m ms) := fun env S ds S1 e => by
  unfold mCons at e
  cases e1 : m env S with
  | ok p =>
    rw [e1] at e
    have e2 : (ms env p.2).bind (fun ds S2 => (Res.ok (p.1 :: ds, S2) : Res (List D × Store))) = .ok (ds, S1) := e
    cases e3 : ms env p.2 with
    | ok r =>
      rw [e3] at e2
      have e4 : (Res.ok (p.1 :: r.1, r.2) : Res (List D × Store)) = .ok (ds, S1) := e2
      cases e4
      simp [h _ _ _ _ e3]
    | exc x S' => rw [e3] at e2; cases e2
    | bad => rw [e3] at e2; cases e2
  | exc x S' => rw [e1] at e; cases e
  | bad => rw [e1] at e; cases e
end DL

set_option Elab.async false
set_option linter.all false
set_option maxRecDepth 100000
set_option maxHeartbeats 1000000
set_option autoImplicit false
namespace DL
open PySem PySem.Spec PyProof.Rows L2

/-! ### enumerate over a tuple -/
set_option maxHeartbeats 2000000 in
theorem newEnum {v : Value} {o : Obj} {HH : Heap → Prop} (B : Begins v o HH) :
    Meets (Builtin.«enumerate.__new__» ⟨[.type "enumerate", v], []⟩) (fun _ R s => HH s.heap ∧
      R (.ok (.ret (.ref (s.heap.push o).objs.size))) { s with heap := (s.heap.push o).push { cls := .type "enumerate", data := .fields #[.none, .bool false, .ref s.heap.objs.size, rawInt 0, .none, .none] } }) :=
  .of_wp fun prog w A R st hyp => by
    obtain ⟨hp, gg, dd, tk, os⟩ := st
    obtain ⟨hB, hyp⟩ := hyp
    have hsub := sub_enumerate
    have go : ∀ {A' : Around} {E' : Value → Shared → Prop} {Q' : Value → Shared → Prop}, Q' (.ref hp.objs.size) ⟨hp.push o, gg, dd, tk, os⟩ → wpAny (model prog w) A' (pyIter v) Q' E' ⟨hp, gg, dd, tk, os⟩ :=
      fun z => B.iter prog w _ _ ⟨hp, gg, dd, tk, os⟩ _ hB z
    wp_walk using go
    refine wpAny_stack_any fun stk => wpAny_pure ?_
    split
    · rename_i c _ _ _ _ _
      cases (c == Value.type "enumerate") <;> (wp_walk using go; exact ⟨_, rfl, hyp⟩)
    · wp_walk using go
      exact ⟨_, rfl, hyp⟩
theorem enum_of {prog : Program} {w : World} {A : Around} {E : Value → Shared → Prop} {s : Shared} {v : Value} {o : Obj} {HH : Heap → Prop} {Q : Value → Shared → Prop} (B : Begins v o HH) (hB : HH s.heap)
    (k : ∀ h', IsEnum h' (s.heap.objs.size + 1) s.heap.objs.size 0 .none → h'.get? s.heap.objs.size = some o → (∀ b u, s.heap.get? b = some u → h'.get? b = some u) → Q (.ref (s.heap.objs.size + 1)) { s with heap := h' }) :
    wpAny (model prog w) A (call (.type "enumerate") [v]) Q E s := by
  refine callType_new F.called_enumerate (by decide) (F.typeCall_enumerate_1 _) (F.newCall_enumerate_1 _) (fun obj => F.args_object_init_2 obj _) F.entry_enumerate_new (newEnum B) ⟨hB, ?_⟩
  have sz : (s.heap.push o).objs.size = s.heap.objs.size + 1 := Heap.size_push ..
  show _ ∧ _
  rw [sz]
  have top := Heap.get?_push_size (s.heap.push o) (o := { cls := .type "enumerate", data := .fields #[.none, .bool false, .ref s.heap.objs.size, rawInt 0, .none, .none] }) rfl
  rw [sz] at top
  exact ⟨⟨_, top, rfl⟩, k _ top (Heap.get?_push_of_some _ (Heap.get?_push_size _ B.free)) fun b u z => Heap.get?_push_of_some _ (Heap.get?_push_of_some _ z)⟩
def ItEt (K : PySem.W.Frag) (a : Addr) : It where
  go := fun i H => ∃ (xs : List V) (x : V), SqT K H a xs ∧ xs[i]? = some x
  yld := fun i H v H' => ∃ T x, v = .ref T ∧ H T = none ∧ H' = upd H T (.tup [.int (i : Nat), x]) ∧ ∀ xs, SqT K H a xs → xs[i]? = some x
  stop := fun i H => ∃ xs : List V, SqT K H a xs ∧ xs.length = i
def EtS (a e it : Addr) (i : Nat) (h : Heap) : Prop := (∃ old, IsEnum h e it ((i : Nat) : Int) old) ∧ h.IsTupleIter it a i
theorem EtS.ne {a e it : Addr} {i : Nat} {h : Heap} {items : Array Value} (st : EtS a e it i h) (p : h.IsTuple a items) : e ≠ it ∧ e ≠ a ∧ a ≠ it := by
  obtain ⟨⟨old, he⟩, o, ho, hc, _⟩ := st
  obtain ⟨u, hu, hd, _⟩ := p
  have he' : h.get? e = some _ := he
  refine ⟨fun z => ?_, fun z => ?_, fun z => ?_⟩
  · subst z
    rw [he'] at ho
    cases ho
    exact absurd hc (by simp)
  · subst z
    rw [he'] at hu
    cases hu
    exact absurd hd (by simp)
  · subst z
    rw [hu] at ho
    cases ho
    rw [hc] at hd
    exact absurd hd (by simp)
theorem turnEt {P : Program} {w : World} {K : PySem.W.Frag} {elts : List Expr} {kk : Nat} {tpos : Pos} (a e it : Addr) : Turn P w K (.Tuple elts kk tpos) (ItEt K a) [e, it] e (EtS a e it) where
  mem := by simp
  obj := fun i h st b hb => by
    obtain ⟨⟨old, he⟩, o, ho, hc, hd⟩ := st
    rcases (by simpa using hb : b = e ∨ b = it) with z | z
    · subst z; exact ⟨_, he, fun v q => nomatch q⟩
    · subst z; exact ⟨o, ho, fun v q => by rw [hd] at q; cases q⟩
  keep := fun i h h' st k => ⟨⟨st.1.choose, k e (by simp) _ st.1.choose_spec⟩, st.2.at fun o q => k it (by simp) o q⟩
  item := by
    rintro X rfl rfl rfl hc i pins s σ H E I hf st ⟨xs, x, hq, hx⟩
    obtain ⟨its, rv, p0, -⟩ := I.tuple hq
    have p : s.heap.IsTuple a its.toArray := p0
    obtain ⟨ne1, ne2, ne3⟩ := st.ne p
    obtain ⟨⟨old, he⟩, hit⟩ := st
    obtain ⟨u, hu, ru⟩ := rv.get hx
    have hlt : i < its.toArray.size := by simpa using (List.getElem?_eq_some_iff.mp hu).1
    have hel : e < s.heap.objs.size := Heap.lt_size he
    have hil : it < s.heap.objs.size := let ⟨_, q, _⟩ := hit; Heap.lt_size q
    have DD : Draws X.prog X.w X.A.in1 it [it, a] its.toArray.size _ _ := Draws.tuple (A := X.A.in1) (show X.A.in1.handled = none from I.ok.hd hc) it a ne3 its.toArray
    refine wpAny_pyNext_enum_itemD DD he ⟨hit, p⟩ hlt ne1 (by simp [ne1, ne2]) fun y h' tk hP ho hS hT hsz hk => ?_
    have hy : y = u := by
      have hP' : its[i]? = some y := by simpa using hP
      rw [hu] at hP'
      cases hP'
      rfl
    subst hy
    refine ⟨_, rfl, wpAny_letOwnedTupleGo_enum (s := { s with heap := h', toks := tk + 1 }) ho fun h'' he' sb => ?_⟩
    have hT2 : h''.get? s.heap.objs.size = some { cls := .type "tuple", data := .seq #[.int i tk, y] } := (sb.2 _ (Nat.ne_of_gt hel)).trans hT
    have new : ObjOk X.prog X.w (upd H s.heap.objs.size (.tup [.int (i : Nat), x])) h'' s.heap.objs.size (.tup [.int (i : Nat), x]) :=
      ⟨(by decide : 2 ≤ sizeLine), [.int i tk, y], .cons ⟨_, rfl⟩ (.cons ru .nil), ⟨_, hT2, rfl, _, rfl⟩⟩
    have J : Inv X pins σ (upd H s.heap.objs.size (.tup [.int (i : Nat), x])) { s with heap := h'', toks := tk + 1 } :=
      I.turnedNew (ch := [e, it]) (fun b ob hb q => (sb.2 b fun z => hb (by simp [z])).trans (hk b ob (fun z => hb (by simp [z])) (fun z => hb (by simp [z])) q)) hf (Nat.le_refl _) new
    refine ⟨.ref s.heap.objs.size, _, J, rfl, ⟨_, x, rfl, I.hok.fresh (Nat.le_refl _), rfl, fun ys hy => ?_⟩, ⟨⟨y, ?_⟩, hS.1.at fun o q => (sb.2 it (Ne.symm ne1)).trans q⟩, fun b hb => ?_⟩
    · rw [I.tuple_inj hy hq]; exact hx
    · have e1 : ((i + 1 : Nat) : Int) = (i : Int) + 1 := by omega
      rw [e1]; exact he'
    · have lb : b < s.heap.objs.size := by
        rcases (by simpa using hb : b = e ∨ b = it) with z | z
        · exact z ▸ hel
        · exact z ▸ hil
      rw [upd_ne (Nat.ne_of_lt lb)]
      exact (hf b hb).1
  done := by
    rintro X rfl rfl rfl hc i pins s σ H E I hf st ⟨xs, hq, hx⟩
    obtain ⟨its, rv, p0, -⟩ := I.tuple hq
    have p : s.heap.IsTuple a its.toArray := p0
    obtain ⟨ne1, ne2, ne3⟩ := st.ne p
    obtain ⟨⟨old, he⟩, hit⟩ := st
    obtain ⟨f0, f1, f2, f3, f4, f5⟩ := hf it (by simp)
    have hl := rv.length
    have hsz : its.toArray.size = i := by simp; omega
    have DD : Draws X.prog X.w X.A.in1 it [it, a] its.toArray.size _ _ := Draws.tuple (A := X.A.in1) (show X.A.in1.handled = none from I.ok.hd hc) it a ne3 its.toArray
    exact wpAny_pyNext_enum_endD DD he (by rw [hsz]; exact ⟨hit, p⟩) fun h' eb => ⟨rfl, I.turned (t' := s.toks) (fun b o hb q => eb b o hb q) f0 f1 f3 f4 f5⟩
  self := fun A i s Q E st h => wpAny_pyIter_enum st.1.choose_spec h
def iEnumT (K : PySem.W.Frag) (ta : TA) : TI := fun σ H Rk => ta σ H fun vs H1 => ∃ a xs, vs = [.ref a] ∧ ((SqL K H1 a xs ∧ Rk (Ite K a) H1) ∨ (SqT K H1 a xs ∧ Rk (ItEt K a) H1))
theorem pi_enumT {X : Cx} {e : Expr} {ta : TA} {p pos tpos : Pos} {elts : List Expr} {kk : Nat} (hg : Gl X "enumerate") (hm : X.mg "enumerate" = none) (ha : PA X [e] ta) (hs : starEach [e] X.env = [(false, eval e X.env)] := by rfl) :
    PI X (.Tuple elts kk tpos) (.Call (.Name "enumerate" p) [e] [] pos) (iEnumT X.K ta) := by
  refine ⟨fun pins s σ H Rk I h => ?_⟩
  refine Call_ (ld_blt I hg hm boot_enumerate (PyProof.Rows.callWith_type1 (thn (ha.run pos pins s σ H _ I h) fun us t ⟨vs, H1, J, r1, a, xs, ev, q⟩ => ?_) hs rfl))
  subst ev
  cases r1 with
  | cons r rr =>
    cases rr
    cases r
    have new : ∀ b ∈ [t.heap.objs.size + 1, t.heap.objs.size], FpOk X pins H1 b := fun b hb => by
      have le : t.heap.objs.size ≤ b := by
        rcases (by simpa using hb : b = t.heap.objs.size + 1 ∨ b = t.heap.objs.size) with z | z <;> omega
      exact J.fpOk le (J.hok.fresh le)
    rcases q with ⟨hq, q⟩ | ⟨hq, q⟩
    · obtain ⟨its, rv, pl, -⟩ := J.list hq
      refine call_enumerate_list pl.isList fun h' he hit hsz hk => wpAny_pyIter_enum he ?_
      exact ⟨_, [t.heap.objs.size + 1, t.heap.objs.size], _, _, H1, rfl, J.kept (t' := t.toks) hk, turn_enum a (t.heap.objs.size + 1) t.heap.objs.size, ⟨⟨.none, he⟩, hit, Nat.succ_ne_self _⟩, new, q⟩
    · obtain ⟨its, rv, pl, -⟩ := J.tuple hq
      have pl' : t.heap.IsTuple a its.toArray := pl
      refine enum_of (begins_tuple a its.toArray) pl' fun h' he hit hk => wpAny_pyIter_enum he ?_
      exact ⟨_, [t.heap.objs.size + 1, t.heap.objs.size], _, _, H1, rfl, J.kept (t' := t.toks) hk, turnEt a (t.heap.objs.size + 1) t.heap.objs.size, ⟨⟨.none, he⟩, _, hit, rfl, rfl⟩, new, q⟩
section
variable {K : PySem.W.Frag} {cl : Nat → Addr} {g : G}
theorem src_enumT {a : Addr} {ds : List D} {vs : List V} (h : ∀ H, Same g.F H → SqT K H a vs) (r : RpL K cl g ds vs) : SrcOk K cl g (ItEt K a) (enumD ds) := by
  have hl : (enumD ds).length = vs.length := by simp [enumD, r.length]
  refine ⟨fun i H hi hs => ?_, fun H hs => ⟨vs, h H hs, hl.symm⟩, fun i H x H' hi hs y => ?_⟩
  · rw [hl] at hi
    exact ⟨vs, vs[i], h H hs, by simp [hi]⟩
  · obtain ⟨T, x1, e0, e1, e2, e3⟩ := y
    obtain ⟨d, e5, r5⟩ := r.get (e3 vs (h H hs))
    exact ⟨.tup [.int (i : Nat), d], by simp [enumD, e5], .inr ⟨T, _, _, rfl, e0, e1, e2, .cons (.int _) (.cons r5 .nil)⟩⟩
end
section
variable {X : Cx} {cl : Nat → Addr} {W : WX} {pos p : Pos} {a b : Expr} {m n : ME}
def miEnumT (m : ME) : MI := fun env S => (m env S).bind fun d S1 => match d with
  | .lst ds => .ok (enumD ds, S1)
  | .tup ds => .ok (enumD ds, S1)
  | _ => .bad
theorem ri_enumT {elts : List Expr} {kk : Nat} {tpos : Pos} (hg : Gl X "enumerate") (hm : X.mg "enumerate" = none) (h : RE X cl W a m) (hs : starEach [a] X.env = [(false, eval a X.env)] := by rfl) : RI X cl W (.Tuple elts kk tpos) (.Call (.Name "enumerate" p) [a] [] pos) (miEnumT m) :=
  piW (pi_enumT hg hm (pa_cons h pa_nil hs) hs) fun σ H Q ⟨g, env, S, R, q⟩ => upE.imp (bindE R q) fun v H1 ⟨g1, S1, d, l, R1, r1, q1⟩ => by
    show ∃ a xs, [v] = [V.ref a] ∧ ((SqL X.K H1 a xs ∧ Q (Ite X.K a) H1) ∨ (SqT X.K H1 a xs ∧ Q (ItEt X.K a) H1))
    have q1 := poI q1 l
    cases d with
    | lst ds => cases r1 with
      | @lst a _ vs h1 h2 => exact ⟨a, vs, rfl, .inl ⟨SqL.of (R1.sub _ _ h1), q1 g1 H1 _ (G.le.refl _) R1 (src_enum (fun H hs => SqL.of (hs _ _ h1)) h2)⟩⟩
    | tup ds => cases r1 with
      | @tup a _ vs h1 h2 => exact ⟨a, vs, rfl, .inr ⟨DL.Same.seqT R1.sub h1, q1 g1 H1 _ (G.le.refl _) R1 (src_enumT (fun H hs => DL.Same.seqT hs h1) h2)⟩⟩
    | _ => exact q1.elim
end

/-! ### isinstance -/
/-- the builtin classes asked for -/
def isB (S : Store) (T : String) (d : D) : Option Bool := match d with
  | .non => kitB "NoneType" T
  | .bl _ => kitB "bool" T
  | .int _ => kitB "int" T
  | .str _ => kitB "str" T
  | .tup _ => kitB "tuple" T
  | .lst _ => kitB "list" T
  | .scr _ => none
  | .dct _ => none
  | .loc n => match S[n]? with
    | some (.lst _) => kitB "list" T
    | _ => none
  | .ins _ _ _ => none
def mIsB (T : String) (m : ME) : MT := fun env S => (m env S).bind fun d S1 => match isB S1 T d with
  | some b => .ok (b, S1)
  | none => .bad
def mIsBE (T : String) (m : ME) : ME := fun env S => (m env S).bind fun d S1 => match isB S1 T d with
  | some b => .ok (.bl b, S1)
  | none => .bad
theorem ty_of {K : PySem.W.Frag} {cl : Nat → Addr} {g : G} {S : Store} {H : Hp} (R : RelF K cl g S H) {d : D} {v : V} {T : String} {b : Bool} (r : Rp K cl g d v) (e : isB S T d = some b) : ∃ t, TyX K H v (.type t) ∧ PySem.W.kitOne K (.type t) (.type T) = some b := by
  cases d with
  | non => cases r; exact ⟨_, .base .non, kit_ty e⟩
  | bl x => cases r; exact ⟨_, .base (.bl _), kit_ty e⟩
  | int x => cases r; exact ⟨_, .base (.int _), kit_ty e⟩
  | str x => cases r; exact ⟨_, .base (.str _), kit_ty e⟩
  | tup ds => cases r with
    | @tup a _ vs h1 h2 =>
      rcases h1 with (h1 | ⟨o, h1⟩) | ⟨o, its, n, h1, hk, -⟩
      · exact ⟨_, .base (.tup (R.sub _ _ h1)), kit_ty e⟩
      · exact ⟨_, .fTuple (R.sub _ _ h1), kit_ty e⟩
      · exact ⟨_, .kTuple h1 hk, kit_ty e⟩
  | lst ds => cases r with
    | @lst a _ vs h1 h2 => exact ⟨_, .base (.lst (R.sub _ _ h1)), kit_ty e⟩
  | scr ns => cases e
  | dct ns => cases e
  | loc n =>
    cases r with
    | @loc _ a hm =>
      simp only [isB] at e
      split at e
      · rename_i ds hS
        obtain ⟨vs, h1, _⟩ := R.sto n _ a hS hm
        exact ⟨_, .base (.lst h1), kit_ty e⟩
      · cases e
  | ins c ks ds => cases e
section
variable {X : Cx} {cl : Nat → Addr} {W : WX} {pos p p2 : Pos} {a b : Expr} {m n : ME}
theorem pe_tyName {x : Str} {T : String} (hg : Gl X x) (hm : X.mg x = none) (hv : bootBuiltins x = some (.type T)) (hn : x ≠ "__name__" := by decide) (hdb : (x == ("__debug__" : Str)) = false := by decide) : PE X (.Name x p) (tC (.ty T)) :=
  ⟨fun pins s σ H Q I q => ld_blt I hg hm hv ⟨.ty T, H, I, rfl, q⟩ hn hdb⟩
theorem re_isB {x : Str} {T : String} (hi : Gl X "isinstance") (hmi : X.mg "isinstance" = none) (hg : Gl X x) (hm : X.mg x = none) (hv : bootBuiltins x = some (.type T)) (h : RE X cl W a m)
    (hs : starEach [a, .Name x p] X.env = (false, eval a X.env) :: starEach [.Name x p] X.env := by rfl) (hs2 : starEach [.Name x p] X.env = (false, eval (.Name x p) X.env) :: starEach [] X.env := by rfl) (hpl : (backTo pos (starEach [.Name x p] X.env)).any (·.1) = false := by rfl)
    (hn : x ≠ "__name__" := by decide) (hdb : (x == ("__debug__" : Str)) = false := by decide) : RE X cl W (.Call (.Name "isinstance" p2) [a, .Name x p] [] pos) (mIsBE T m) :=
  peW (pe_callB call_isi hi hmi (by rfl) (pa_cons h (pa_cons (pe_tyName hg hm hv hn hdb) pa_nil hs2) hs) (by decide) (by decide) hs hpl) fun σ H Q ⟨g, env, S, R, q⟩ => upE.imp (bindE R q) fun v H1 ⟨g1, S1, d, l, R1, r1, q0⟩ => by
    have q1 := poE q0 l
    clear q0
    show rIsi X.K [v, .ty T] H1 Q
    split at q1
    · rename_i k ek
      obtain ⟨t, h1, h2⟩ := ty_of R1.toRelF r1 ek
      exact ⟨v, .ty T, _, _, k, rfl, .ty T, h1, h2, q1 g1 H1 _ (G.le.refl _) R1 (.bl _)⟩
    · exact q1.elim
end
end DL

set_option Elab.async false
set_option linter.all false
set_option maxRecDepth 100000
set_option maxHeartbeats 1000000
set_option autoImplicit false
namespace DL
open PySem PySem.Spec PyProof.Rows L2

/-! ### values that know only the first things of the store -/
mutual
def D.low (n : Nat) : D → Bool
  | .tup ds => D.lows n ds
  | .lst ds => D.lows n ds
  | .loc m => decide (m < n)
  | .ins _ _ ds => D.lows n ds
  | .dct ks => D.lows n ks
  | _ => true
def D.lows (n : Nat) : List D → Bool
  | [] => true
  | d :: ds => D.low n d && D.lows n ds
end
def Ob.low (n : Nat) : Ob → Bool
  | .lst ds => D.lows n ds
  | .ins _ _ ds => D.lows n ds
section
variable {K : PySem.W.Frag} {cl : Nat → Addr} {g g' : G} {n : Nat}
mutual
theorem Rp.cut (h : Same g.F g'.F) (hm : ∀ (m : Nat) (a : Addr), m < n → g.mu[m]? = some a → g'.mu[m]? = some a) : ∀ (d : D) (v : V), d.low n = true → Rp K cl g d v → Rp K cl g' d v
  | .non, _, _, r => by cases r; exact .non
  | .bl _, _, _, r => by cases r; exact .bl _
  | .int _, _, _, r => by cases r; exact .int _
  | .str _, _, _, r => by cases r; exact .str _
  | .tup ds, _, b, r => by
    cases r with
    | tup h1 h2 => exact .tup (DL.Same.seqT h h1) (RpL.cut h hm ds _ b h2)
  | .lst ds, _, b, r => by
    cases r with
    | lst h1 h2 => exact .lst (h _ _ h1) (RpL.cut h hm ds _ b h2)
  | .dct ks, _, b, r => by
    cases r with
    | dct h1 h2 h3 => exact .dct (h _ _ h1) h2 (RpL.cut h hm ks _ b h3)
  | .scr ns, _, _, r => by
    cases r with
    | scr h1 => exact .scr (L2.Same.seq h h1)
  | .loc k, _, b, r => by
    cases r with
    | loc e => exact .loc (hm _ _ (of_decide_eq_true b) e)
  | .ins c ks ds, _, b, r => by
    cases r with
    | ins h1 h2 h3 => exact .ins (h _ _ h1) h2 (RpL.cut h hm ds _ b h3)
theorem RpL.cut (h : Same g.F g'.F) (hm : ∀ (m : Nat) (a : Addr), m < n → g.mu[m]? = some a → g'.mu[m]? = some a) : ∀ (ds : List D) (vs : List V), D.lows n ds = true → RpL K cl g ds vs → RpL K cl g' ds vs
  | [], _, _, r => by cases r; exact .nil
  | d :: ds, _, b, r => by
    cases r with
    | cons h1 h2 =>
      have b' : (D.low n d && D.lows n ds) = true := b
      rw [Bool.and_eq_true] at b'
      exact .cons (Rp.cut h hm d _ b'.1 h1) (RpL.cut h hm ds _ b'.2 h2)
end
end
/-! ### a new thing at a known place -/
def G.push (g : G) (a : Addr) : G := { g with mu := g.mu ++ [a] }
theorem G.push_le (g : G) (a : Addr) : g.le (g.push a) := ⟨L2.Same.refl _, rfl, [a], rfl⟩
section
variable {K : PySem.W.Frag} {cl : Nat → Addr} {W : WX} {g g1 : G} {env : Env} {S : Store} {σ : St} {H : Hp}
theorem RelF.alloc (R : RelF K cl g S H) {a : Addr} {o : Ob} (f : g.F a = none) (t : g.T a = none) (m : a ∉ g.mu) (ho : ObR K cl (g.push a) H a o) : RelF K cl (g.push a) (S ++ [o]) H := by
  have le := g.push_le a
  refine ⟨R.sub, R.prot, R.dis, by simp [G.push, R.st], fun n o' b e1 e2 => ?_, fun b hb => ?_, ?_⟩
  · have e2' : (g.mu ++ [a])[n]? = some b := e2
    by_cases hn : n < S.length
    · rw [List.getElem?_append_left hn] at e1
      rw [List.getElem?_append_left (by rw [R.st]; exact hn)] at e2'
      exact (R.sto n o' b e1 e2').keep le rfl
    · have hn' : n = S.length := by
        have := (List.getElem?_eq_some_iff.mp e1).1
        simp at this; omega
      subst hn'
      have h1 : o' = o := by simpa using e1.symm
      have h2 : b = a := by
        rw [← R.st] at e2'
        simpa using e2'.symm
      subst h1; subst h2
      exact ho
  · rcases List.mem_append.mp hb with h | h
    · exact R.muF b h
    · have : b = a := by simpa using h
      subst this
      exact ⟨f, t⟩
  · refine List.nodup_append.mpr ⟨R.nd, by simp, fun x hx y hy z => ?_⟩
    have : y = a := by simpa using hy
    subst this
    subst z
    exact m hx
end

/-! ### C(e, ..) -/
/-- an object is made, then it stays as it is -/
def mMake (c : Nat) (fm : MFn) (ma : MA) : ME := fun env S => (ma env S).bind fun ds S1 => match fm (.loc S1.length :: ds) (S1 ++ [.ins c [] []]) with
  | .ret .non S2 => match S2[S1.length]? with
    | some (.ins c' ks es) => if S2.length = S1.length + 1 ∧ c' = c ∧ D.lows S1.length es = true ∧ (S2.take S1.length).all (Ob.low S1.length) = true then .ok (.ins c ks es, S2.take S1.length) else .bad
    | _ => .bad
  | .exc e S2 => .exc e S2
  | _ => .bad
/-- an object is made and stays a thing of the store -/
def mMakeL (c : Nat) (fm : MFn) (ma : MA) : ME := fun env S => (ma env S).bind fun ds S1 => match fm (.loc S1.length :: ds) (S1 ++ [.ins c [] []]) with
  | .ret .non S2 => .ok (.loc S1.length, S2)
  | .exc e S2 => .exc e S2
  | _ => .bad
section
variable {X : Cx} {CX : CXT} {k : Nat} {f C : Addr} {fd : FuncData} {ps : List Str} {sp : Sp} {E : L2.St → XK}
theorem run_mk {pins : List (Addr × Obj)} {σ : L2.St} {H : Hp} {s : Shared} {Q : VK} {us : List Value} {vs : List V} (M : Mk X.K C f) (F : FnOk X.prog X.w X.K X.mg X.base CX k f fd ps sp) (hr : Room (k + 1) X.A) (hb : Binds X.K fd ps []) (hx : PassesAt CX X σ (E σ))
    (I : Inv X pins σ H s) (r : Vals vs us)
    (h : ∀ x dx, H x = none → H dx = none → dx ≠ x → sp (.ref x :: vs) (upd (upd H dx (.own x)) x (.ins C dx [])) (fun v H2 => v = .non ∧ Q (.ref x) H2) (E σ)) :
    wpAny (model X.prog X.w) X.A (call (.ref C) us) (EP X pins σ Q) X.xe s := by
  have J := Inv.made (C := C) I
  have want := h (s.heap.objs.size + 1) s.heap.objs.size (I.hok.fresh (Nat.le_succ _)) (I.hok.fresh (Nat.le_refl _)) (Nat.ne_of_lt (Nat.lt_succ_self _))
  have args : Vals (V.ref (s.heap.objs.size + 1) :: vs) (Value.ref (s.heap.objs.size + 1) :: us) := .cons rfl r
  have many : (Value.ref (s.heap.objs.size + 1) :: us ++ []).length = ps.length := by
    rw [List.append_nil, ← args.length]
    exact F.len _ _ _ _ want
  have bound := hb _ (Value.ref (s.heap.objs.size + 1) :: us) J.kIn many
  rw [List.append_nil] at bound
  refine wpAny_call (make_map (f := f) I.kIn M.makes M.init (beq_iff_eq.mp M.fn) (codeAny_mono (F.run _ X.stack _ _ _ _ _ _ (E σ) (hr.make C us []) (J.env0.make C us []) bound args want) fun r s' hq => ?_))
  cases r with
  | error e => exact hx pins _ _ e s' J hq
  | ok fl =>
    cases fl with
    | ret u =>
      obtain ⟨v, H', J', rv, rfl, q⟩ := J.after hq
      exact ⟨rv, ⟨V.ref (s.heap.objs.size + 1), H', J', rfl, q⟩⟩
    | next => exact hq.elim
    | brk => exact hq.elim
    | cont => exact hq.elim
def tMk (C : Addr) (sp : Sp) (E : L2.St → XK) (t : TA) : TE := fun σ H Q => t σ H fun vs H1 => ∀ x dx, H1 x = none → H1 dx = none → dx ≠ x →
  sp (.ref x :: vs) (upd (upd H1 dx (.own x)) x (.ins C dx [])) (fun v H2 => v = .non ∧ Q (.ref x) H2) (E σ)
theorem pe_mk {x : Str} {p pos : Pos} {e : Expr} {es : List Expr} {t : TA} (M : Mk X.K C f) (F : FnOk X.prog X.w X.K X.mg X.base CX k f fd ps sp) (hr : Room (k + 1) X.A) (hg : Gl X x) (hm : X.mg x = some (.ref C)) (hb : Binds X.K fd ps []) (hx : ∀ σ, PassesAt CX X σ (E σ))
    (ha : PA X (e :: es) t) (hdb : (x == ("__debug__" : Str)) = false := by decide) (he : starEach (e :: es) X.env = (false, eval e X.env) :: starEach es X.env := by rfl) (hpl : (backTo pos (starEach es X.env)).any (·.1) = false := by rfl) :
    PE X (.Call (.Name x p) (e :: es) [] pos) (tMk C sp E t) :=
  ⟨fun pins s σ H Q I h => wpAny_Call_Name_kw (ld_glob I hg hm (PySem.W.callWith_K (h₀ := X.base) I.ok.mod.kin M.kp (thn (ha.run pos pins s σ H _ I h) fun us t ⟨vs, H1, J, r, q⟩ => ⟨J.kIn, run_mk M F hr hb (hx σ) J r q⟩) he hpl) hdb)⟩
end
/-- a class of the text that is made by its __init__ -/
structure Mc (P : Program) (w : World) (K : PySem.W.Frag) (mg : Str → Option Value) (base : Heap) (cl : Nat → Addr) (k : Nat) (x : Str) (c : Nat) (n : Nat) (fm : MFn) : Prop where
  ex : ∃ (f : Addr) (fd : FuncData) (ps : List Str), mg x = some (.ref (cl c)) ∧ Mk K (cl c) f ∧ Binds K fd ps [] ∧ FnOk P w K mg base (L2.CX P w) k f fd ps (spOf K cl (n + 1) fm)
section
variable {X : Cx} {cl : Nat → Addr} {W : WX} {p pos : Pos} {x : Str} {e : Expr} {es : List Expr} {ma : MA} {k n : Nat} {fm : MFn} {c : Nat}
/-- the state in which __init__ begins -/
theorem mk_start {K : PySem.W.Frag} {g : G} {env : Env} {S : Store} {σ : L2.St} {H : Hp} (R : Rel K cl g env S σ H) {x dx : Addr} (hx : H x = none) (hdx : H dx = none) (hne : dx ≠ x) :
    Rel K cl (g.push x) env (S ++ [.ins c [] []]) σ (upd (upd H dx (.own x)) x (.ins (cl c) dx [])) := by
  have hx2 : (upd H dx (.own x)) x = none := by rw [upd_ne (Ne.symm hne)]; exact hx
  have R1 := (R.new (o := .own x) hdx).new (o := .ins (cl c) dx []) hx2
  obtain ⟨f1, f2, f3⟩ := R.toRelF.free hx
  refine ⟨R1.toRelF.alloc f1 f2 f3 ⟨dx, [], upd_same, rfl, .nil⟩, R1.len, fun i d e => ?_, fun i es e => ?_, R1.ownd⟩
  · obtain ⟨v, e1, r⟩ := R1.val i d e
    exact ⟨v, e1, Rp.up (g.push_le x) _ _ r⟩
  · obtain ⟨b, us, e1, e2, r, q1, q2, q3⟩ := R1.own i es e
    refine ⟨b, us, e1, e2, RpL.up (g.push_le x) _ _ r, q1, q2, fun hb => ?_⟩
    rcases List.mem_append.mp hb with h | h
    · exact q3 h
    · have hbx : b = x := by simpa using h
      obtain ⟨a', us', k1, k2, _⟩ := R.own i es e
      rw [e1] at k1
      cases k1
      rw [hbx, hx] at k2
      cases k2
theorem re_make (C : Mc X.prog X.w X.K X.mg X.base cl k x c n fm) (hr : Room (k + 1) X.A) (hg : Gl X x) (tk : Takes X W) (ha : RA X cl W (e :: es) ma) (hn : Hands n ma) (hdb : (x == ("__debug__" : Str)) = false := by decide)
    (he : starEach (e :: es) X.env = (false, eval e X.env) :: starEach es X.env := by rfl) (hpl : (backTo pos (starEach es X.env)).any (·.1) = false := by rfl) : RE X cl W (.Call (.Name x p) (e :: es) [] pos) (mMake c fm ma) := by
  obtain ⟨f, fd, ps, h1, h2, h3, h4⟩ := C.ex
  refine peW (pe_mk h2 h4 hr hg h1 h3 (fun σ => passAt tk σ) ha hdb he hpl) fun σ H Q ⟨g, env, S, R, q⟩ => ?_
  refine ⟨g, env, S, R, ?_⟩
  have q3 := q
  unfold mMake at q3
  cases em : ma env S with
  | bad => rw [em] at q3; exact q3
  | exc x S2 => rw [em] at q3; exact q3
  | ok pr =>
    rw [em] at q3
    intro g1 H1 vs le R1 r1 a dx ha hdx hne
    have R2 := mk_start (c := c) R1 ha hdx hne
    have hst : g1.mu.length = pr.2.length := R1.st
    refine ⟨(g1.push a).call _, _, .loc pr.2.length :: pr.1, R2.toRelF.call, .cons (.loc ?_) (RpL.call (RpL.up (g1.push_le a) _ _ r1)), by simp [hn _ _ _ _ em], ?_⟩
    · show (g1.mu ++ [a])[pr.2.length]? = some a
      rw [← hst]; simp
    · have q4 := poE q3 le
      dsimp only [Res.bind] at q4
      cases ef : fm (.loc pr.2.length :: pr.1) (pr.2 ++ [.ins c [] []]) with
      | own ds S2 => rw [ef] at q4; exact q4.elim
      | bad => rw [ef] at q4; exact q4.elim
      | exc ex S2 =>
        rw [ef] at q4
        exact fun g2 H2 cc dd l2 R3 x3 => q4 _ H2 cc dd ((g1.push_le a).trans (G.back_le l2)) (R2.back l2 R3) x3.back
      | ret d S2 =>
        rw [ef] at q4
        cases d with
        | non =>
          dsimp only at q4
          split at q4
          · rename_i c' ks es' hS
            split at q4
            · rename_i hz
              obtain ⟨z1, rfl, z2, z3⟩ := hz
              intro g2 H2 v l2 R3 r3
              cases r3
              refine ⟨rfl, ?_⟩
              -- the ghost in which the object is locked
              have Rb := R2.back l2 R3
              obtain ⟨_, _, lm, hmu⟩ := G.back_le l2
              have hmu2 : g2.mu = g1.mu ++ [a] ++ lm := hmu
              have hlm : lm = [] := by
                have hl := R3.st
                rw [hmu2, z1] at hl
                simp [hst] at hl
                exact hl
              subst hlm
              rw [List.append_nil] at hmu2
              have hata : g2.mu[pr.2.length]? = some a := by rw [hmu2, ← hst]; simp
              obtain ⟨dx2, ws, k1, k2, k3⟩ := R3.sto _ _ a hS hata
              have ham : a ∈ g2.mu := List.mem_of_getElem? hata
              have hfa : g2.F a = none := (R3.muF a ham).1
              have cutm : ∀ (m : Nat) (b : Addr), m < pr.2.length → g2.mu[m]? = some b → g1.mu[m]? = some b := fun m b hm e => by
                rw [hmu2, List.getElem?_append_left (by rw [hst]; exact hm)] at e
                exact e
              let G3 : G := { F := upd g2.F a (.ins (cl c') dx2 (ks.zip ws)), T := g1.T, mu := g1.mu }
              have sF : Same g2.F G3.F := fun b u e => by
                show upd g2.F a _ b = some u
                rw [upd_ne (ne_of_none e hfa)]
                exact e
              have le3 : g1.le G3 := ⟨fun b u e => sF b u (l2.1 b u e), rfl, [], by simp [G3]⟩
              obtain ⟨f1, f2, f3⟩ := R1.toRelF.free ha
              have RF : RelF X.K cl G3 (S2.take pr.2.length) H2 := by
                refine ⟨fun b u e => ?_, fun b u e => Rb.prot b u e, fun b => ?_, by rw [List.length_take, z1]; show g1.mu.length = _; omega, fun m o b e1 e2 => ?_, fun b hb => ?_, R1.nd⟩
                · by_cases hb : b = a
                  · subst hb
                    have e' : upd g2.F b _ b = some u := e
                    rw [upd_same] at e'
                    rw [k1]; exact e'
                  · have e' : upd g2.F a _ b = some u := e
                    rw [upd_ne hb] at e'
                    exact R3.sub b u e'
                · by_cases hb : b = a
                  · subst hb; exact .inr f2
                  · show upd g2.F a _ b = none ∨ _
                    rw [upd_ne hb]
                    exact Rb.dis b
                · rw [List.getElem?_take] at e1
                  split at e1
                  · rename_i hm
                    have e3 : g2.mu[m]? = some b := by rw [hmu2, List.getElem?_append_left (by rw [hst]; exact hm)]; exact e2
                    have hob := R3.sto m o b e1 e3
                    have hbel : o.low pr.2.length = true := (List.all_eq_true.mp z3) o (List.mem_of_getElem? (by rw [List.getElem?_take, if_pos hm]; exact e1))
                    cases o with
                    | lst ds => obtain ⟨us, y1, y2⟩ := hob; exact ⟨us, y1, RpL.cut sF cutm _ _ hbel y2⟩
                    | ins cc kk ds => obtain ⟨dd, us, y1, y2, y3⟩ := hob; exact ⟨dd, us, y1, y2, RpL.cut sF cutm _ _ hbel y3⟩
                  · cases e1
                · have hne : b ≠ a := fun z => f3 (z ▸ hb)
                  have hb2 : b ∈ g2.mu := by rw [hmu2]; exact List.mem_append_left _ hb
                  refine ⟨?_, (R1.muF b hb).2⟩
                  show upd g2.F a _ b = none
                  rw [upd_ne hne]
                  exact (R3.muF b hb2).1
              have RR : Rel X.K cl G3 env (S2.take pr.2.length) σ H2 := by
                refine ⟨RF, R1.len, fun i d e => ?_, fun i es e => ?_, R1.ownd⟩
                · obtain ⟨v, e1, r⟩ := R1.val i d e
                  exact ⟨v, e1, Rp.up le3 _ _ r⟩
                · obtain ⟨b, us, e1, e2, r, y1, y2, y3⟩ := Rb.own i es e
                  have hne : b ≠ a := fun z => y3 (by show b ∈ g2.mu; exact z ▸ ham)
                  obtain ⟨b', us', e1', e2', r', _, _, y3'⟩ := R1.own i es e
                  rw [e1] at e1'
                  cases e1'
                  -- its items are as they were
                  have hus : us' = us := by
                    obtain ⟨b2, us2, e5, e6, _, y5, y6, y7⟩ := R2.own i es e
                    rw [e1] at e5
                    cases e5
                    have hT : g2.T b = some (.lst us2) := by
                      rw [l2.2.1]
                      exact (G.call_T y5 y7).trans e6
                    have h7 := R3.prot _ _ hT
                    rw [e2] at h7
                    cases h7
                    have hbx : b ≠ dx := fun z => by rw [z, hdx] at e2'; cases e2'
                    rw [upd_ne hne, upd_ne hbx, e2'] at e6
                    cases e6
                    rfl
                  subst hus
                  refine ⟨b, us', e1, e2, RpL.up le3 _ _ r', ?_, y2, y3'⟩
                  show upd g2.F a _ b = none
                  rw [upd_ne hne]
                  exact y1
              exact q4 G3 H2 (.ref a) le3 RR (.ins upd_same k2 (RpL.cut sF cutm _ _ z2 k3))
            · exact q4.elim
          · exact q4.elim
        | _ => exact q4.elim
theorem re_makeL (C : Mc X.prog X.w X.K X.mg X.base cl k x c n fm) (hr : Room (k + 1) X.A) (hg : Gl X x) (tk : Takes X W) (ha : RA X cl W (e :: es) ma) (hn : Hands n ma) (hdb : (x == ("__debug__" : Str)) = false := by decide)
    (he : starEach (e :: es) X.env = (false, eval e X.env) :: starEach es X.env := by rfl) (hpl : (backTo pos (starEach es X.env)).any (·.1) = false := by rfl) : RE X cl W (.Call (.Name x p) (e :: es) [] pos) (mMakeL c fm ma) := by
  obtain ⟨f, fd, ps, h1, h2, h3, h4⟩ := C.ex
  refine peW (pe_mk h2 h4 hr hg h1 h3 (fun σ => passAt tk σ) ha hdb he hpl) fun σ H Q ⟨g, env, S, R, q⟩ => ?_
  refine ⟨g, env, S, R, ?_⟩
  have q3 := q
  unfold mMakeL at q3
  cases em : ma env S with
  | bad => rw [em] at q3; exact q3
  | exc x S2 => rw [em] at q3; exact q3
  | ok pr =>
    rw [em] at q3
    intro g1 H1 vs le R1 r1 a dx ha hdx hne
    have R2 := mk_start (c := c) R1 ha hdx hne
    have hst : g1.mu.length = pr.2.length := R1.st
    have hself : (g1.push a).mu[pr.2.length]? = some a := by
      show (g1.mu ++ [a])[pr.2.length]? = some a
      rw [← hst]; simp
    refine ⟨(g1.push a).call _, _, .loc pr.2.length :: pr.1, R2.toRelF.call, .cons (.loc hself) (RpL.call (RpL.up (g1.push_le a) _ _ r1)), by simp [hn _ _ _ _ em], ?_⟩
    have q4 := poE q3 le
    dsimp only [Res.bind] at q4
    cases ef : fm (.loc pr.2.length :: pr.1) (pr.2 ++ [.ins c [] []]) with
    | own ds S2 => rw [ef] at q4; exact q4.elim
    | bad => rw [ef] at q4; exact q4.elim
    | exc ex S2 =>
      rw [ef] at q4
      exact fun g2 H2 cc dd l2 R3 x3 => q4 _ H2 cc dd ((g1.push_le a).trans (G.back_le l2)) (R2.back l2 R3) x3.back
    | ret d S2 =>
      rw [ef] at q4
      cases d with
      | non =>
        intro g2 H2 v l2 R3 r3
        cases r3
        exact ⟨rfl, q4 _ H2 (.ref a) ((g1.push_le a).trans (G.back_le l2)) (R2.back l2 R3) (.loc ((G.back_le l2).mu hself))⟩
      | _ => exact q4.elim
end
end DL

set_option Elab.async false
set_option linter.all false
set_option maxRecDepth 100000
set_option maxHeartbeats 1000000
set_option autoImplicit false
/-! Sets whose members are tuples, nested, of whole numbers and None. -/
namespace DS
open PySem PySem.Spec PyProof.Rows L2

/-! ### the members -/
mutual
def plainK : NestedKey → Bool
  | .none => true
  | .num _ => true
  | .text _ => false
  | .tup ks => plainKs ks
def plainKs : List NestedKey → Bool
  | [] => true
  | k :: ks => plainK k && plainKs ks
end
/-- the tuple at b is the key k -/
structure Mem (h : Heap) (k : NestedKey) (b : Addr) : Prop where
  is : NestedIs h k (.ref b)
  dp : k.depth ≤ 8
  pl : plainK k = true
theorem Mem.keep {h h' : Heap} {k : NestedKey} {b : Addr} (m : Mem h k b) (e : ∀ a o vs n, h.get? a = some o → o.data = .seq vs n → h'.get? a = some o) : Mem h' k b := ⟨NestedIs.at e _ _ m.is, m.dp, m.pl⟩
section
variable {P : Program} {w : World} {A : Around} {E : Value → Shared → Prop}
/-! what the model asks of a member -/
def Says (P : Program) (w : World) (m : Value → Sem Bool) (b : Bool) (s : Shared) (v : Value) : Prop := ∀ (A : Around) (E : Value → Shared → Prop) (Q : Bool → Shared → Prop), Q b s → wpAny (model P w) A (m v) Q E s
theorem says_pure {m : Value → Sem Bool} {b : Bool} {s : Shared} {v : Value} (e : m v = pure b) : Says P w m b s v := fun A E Q q => by
  rw [e]
  exact wpAny_pure q
mutual
theorem stmt_key : ∀ (k : NestedKey) (n : Nat) (v : Value) (s : Shared), NestedIs s.heap k v → k.depth ≤ n → Says P w (ofAClassStatement n) false s v
  | .none, n, _, s, x, _ => by cases x; exact says_pure (by cases n <;> rfl)
  | .num _, n, _, s, x, _ => by cases x <;> exact says_pure (by cases n <;> rfl)
  | .text _, n, _, s, x, _ => by cases x; exact says_pure (by cases n <;> rfl)
  | .tup ks, 0, _, s, _, d => by simp [NestedKey.depth] at d
  | .tup ks, n + 1, _, s, x, d => by
    cases x with
    | @tup b o vs m _ ho hc hd hk =>
      have inner := stmt_keys ks n vs.toList s hk (by simp only [NestedKey.depth] at d; omega)
      intro A E Q q
      have ty : s.TypeIs (.ref b) "tuple" := ⟨o, ho, hc⟩
      have yes : (("tuple" : String) == "tuple") = true := by decide
      unfold ofAClassStatement
      refine wpAny_bind (wpAny_typeOf ty ?_)
      simp only [yes, if_true, Bool.not_true, Bool.false_eq_true, if_false]
      try refine wpAny_bind (wpAny_pure ?_)
      try simp only [Bool.not_true, Bool.false_eq_true, if_false]
      show wpAny (model P w) A (seqItems? (.ref b) >>= _) Q E s
      refine wpAny_bind (wpAny_seqItems ho hd (wpAny_bind ?_))
      show wpAny (model P w) A (forIn vs _ _) _ E s
      rw [← Array.forIn_toList]
      refine wpAny_forIn_list _ (fun todo r t => t = s ∧ r.1 = none ∧ ∀ u ∈ todo, Says P w (ofAClassStatement n) false s u) _ ?_ ?_ _ _ ⟨rfl, rfl, inner⟩
      · rintro u todo r t ⟨rfl, hr, all⟩
        refine wpAny_bind (all u List.mem_cons_self _ _ _ ?_)
        simp only [Bool.false_eq_true, if_false]
        exact wpAny_pure ⟨rfl, rfl, fun z hz => all z (List.mem_cons_of_mem _ hz)⟩
      · rintro ⟨r1, r2⟩ t ⟨rfl, hr, -⟩
        simp only at hr
        subst hr
        exact wpAny_pure q
theorem stmt_keys : ∀ (ks : List NestedKey) (n : Nat) (vs : List Value) (s : Shared), NestedAll s.heap ks vs → NestedKey.depthAll ks ≤ n → ∀ v ∈ vs, Says P w (ofAClassStatement n) false s v
  | [], _, _, _, x, _, v, hv => by cases x; cases hv
  | k :: ks, n, _, s, x, d, v, hv => by
    cases x with
    | cons x1 x2 =>
      simp only [NestedKey.depthAll] at d
      cases hv with
      | head => exact stmt_key k n _ s x1 (by omega)
      | tail _ hv => exact stmt_keys ks n _ s x2 (by omega) v hv
end
mutual
theorem hby_key : ∀ (k : NestedKey) (n : Nat) (v : Value) (s : Shared), NestedIs s.heap k v → k.depth ≤ n → plainK k = true → Says P w (hashByValue n) true s v
  | .none, n, _, s, x, _, _ => by cases x; exact says_pure (by cases n <;> rfl)
  | .num _, n, _, s, x, _, _ => by cases x <;> exact says_pure (by cases n <;> rfl)
  | .text _, n, _, s, x, _, p => by cases p
  | .tup ks, 0, _, s, _, d, _ => by simp [NestedKey.depth] at d
  | .tup ks, n + 1, _, s, x, d, p => by
    cases x with
    | @tup b o vs m _ ho hc hd hk =>
      have inner := hby_keys ks n vs.toList s hk (by simp only [NestedKey.depth] at d; omega) p
      intro A E Q q
      have ty : s.TypeIs (.ref b) "tuple" := ⟨o, ho, hc⟩
      unfold hashByValue
      refine wpAny_bind (wpAny_specialOf ty F.slot_tuple_hash.lookup ?_)
      show wpAny (model P w) A (seqItems? (.ref b) >>= _) Q E s
      refine wpAny_bind (wpAny_seqItems ho hd (wpAny_bind ?_))
      show wpAny (model P w) A (forIn vs _ _) _ E s
      rw [← Array.forIn_toList]
      refine wpAny_forIn_list _ (fun todo r t => t = s ∧ r.1 = none ∧ ∀ u ∈ todo, Says P w (hashByValue n) true s u) _ ?_ ?_ _ _ ⟨rfl, rfl, inner⟩
      · rintro u todo r t ⟨rfl, hr, all⟩
        refine wpAny_bind (all u List.mem_cons_self _ _ _ ?_)
        simp only [Bool.not_true, Bool.false_eq_true, if_false]
        exact wpAny_pure ⟨rfl, rfl, fun z hz => all z (List.mem_cons_of_mem _ hz)⟩
      · rintro ⟨r1, r2⟩ t ⟨rfl, hr, -⟩
        simp only at hr
        subst hr
        exact wpAny_pure q
theorem hby_keys : ∀ (ks : List NestedKey) (n : Nat) (vs : List Value) (s : Shared), NestedAll s.heap ks vs → NestedKey.depthAll ks ≤ n → plainKs ks = true → ∀ v ∈ vs, Says P w (hashByValue n) true s v
  | [], _, _, _, x, _, _, v, hv => by cases x; cases hv
  | k :: ks, n, _, s, x, d, p, v, hv => by
    cases x with
    | cons x1 x2 =>
      simp only [NestedKey.depthAll] at d
      simp only [plainKs, Bool.and_eq_true] at p
      cases hv with
      | head => exact hby_key k n _ s x1 (by omega) p.1
      | tail _ hv => exact hby_keys ks n _ s x2 (by omega) p.2 v hv
end
theorem Mem.stmt {s : Shared} {k : NestedKey} {b : Addr} (m : Mem s.heap k b) : Says P w (ofAClassStatement 8) false s (.ref b) := stmt_key k 8 _ s m.is m.dp
theorem Mem.hby {s : Shared} {k : NestedKey} {b : Addr} (m : Mem s.heap k b) : Says P w (hashByValue 8) true s (.ref b) := hby_key k 8 _ s m.is m.dp m.pl
theorem Mem.quiet {s : Shared} {k : NestedKey} {b : Addr} (m : Mem s.heap k b) : Says P w (eqIsQuiet 8) true s (.ref b) := fun A E Q q => quiet_key k _ 8 s m.is m.dp A E Q q
theorem Mem.inj {h : Heap} {x y : NestedKey} {b : Addr} (m : Mem h x b) (n : Mem h y b) : x = y := NestedIs.inj _ _ _ m.is n.is
theorem Mem.eq {A : Around} {E : Value → Shared → Prop} {s : Shared} {x y : NestedKey} {a b : Addr} {Q : Bool → Shared → Prop} (hu : A.units + 8 < cLine) (m : Mem s.heap x a) (n : Mem s.heap y b) (q : Q (decide (x = y)) s) : wpAny (model P w) A (eqBool (.ref a) (.ref b)) Q E s :=
  (nestedKind P w).eqBool hu ⟨m.is, m.dp⟩ ⟨n.is, n.dp⟩ q
/-- a search among members shows nothing -/
theorem unseen {s : Shared} {k : NestedKey} {b : Addr} {Q : Bool → Shared → Prop} (m : Mem s.heap k b) {ys : List Value} (hy : ∀ y ∈ ys, ∃ k' c, y = Value.ref c ∧ Mem s.heap k' c) (q : Q false s) : wpAny (model P w) A (searchCouldBeSeen (.ref b) ys) Q E s := by
  unfold searchCouldBeSeen
  refine wpAny_bind (wpAny_forIn_list _ (fun todo r t => t = s ∧ r.1 = none ∧ ∀ y ∈ todo, ∃ k' c, y = Value.ref c ∧ Mem s.heap k' c) _ ?_ ?_ _ _ ⟨rfl, rfl, hy⟩)
  · rintro u todo r t ⟨rfl, hr, all⟩
    obtain ⟨k', c, rfl, mc⟩ := all u List.mem_cons_self
    have left : ∀ y ∈ todo, ∃ k' c, y = Value.ref c ∧ Mem t.heap k' c := fun z hz => all z (List.mem_cons_of_mem _ hz)
    dsimp only
    cases hv : (b == c || (carriedByValue (.ref b) && carriedByValue (.ref c))) with
    | true =>
      refine wp_if_pos rfl (wpAny_pure ⟨rfl, rfl, left⟩)
    | false =>
      refine wp_if_neg Bool.false_ne_true ?_
      refine wpAny_bind (m.quiet _ _ _ ?_)
      simp only [Bool.not_true, Bool.false_eq_true, if_false]
      refine wpAny_bind (mc.quiet _ _ _ ?_)
      simp only [Bool.not_true, Bool.false_eq_true, if_false]
      refine wpAny_bind (m.stmt _ _ _ ?_)
      simp only [Bool.false_eq_true, if_false]
      refine wpAny_bind (mc.stmt _ _ _ ?_)
      simp only [Bool.false_eq_true, if_false]
      exact wpAny_pure ⟨rfl, rfl, left⟩
  · rintro ⟨r1, r2⟩ t ⟨rfl, hr, -⟩
    simp only at hr
    subst hr
    exact wpAny_pure q
end
end DS

set_option Elab.async false
set_option linter.all false
set_option maxRecDepth 100000
set_option maxHeartbeats 1000000
set_option autoImplicit false
namespace DS
open PySem PySem.Spec PyProof.Rows L2

/-! ### the set that holds the members L, in the order of its table -/
abbrev Row := Addr × NestedKey
abbrev hk (w : World) (k : NestedKey) : Int := NestedKey.hash w k
abbrev line (w : World) (r : Row) : Int × Value := (hk w r.2, Value.ref r.1)
structure Holds (w : World) (h : Heap) (a : Addr) (L : List Row) (es : Array (Int × Value)) (ep : Nat) (tb : SetTable) : Prop where
  obj : ∃ o, h.get? a = some o ∧ o.ExactSet ∧ o.data = .set es ep tb
  ents : es.toList = L.map (line w)
  tab : TabOk tb (L.map fun r => hk w r.2)
  once : (L.map (·.2)).Nodup
  mems : ∀ r ∈ L, Mem h r.2 r.1
  pln : tb.plain = true
  ord : w.params.followText "set-order" = true ∨ tb.led = true
  load : 5 * L.length < 3 * tb.mask
  small : L.length < 64
section
variable {P : Program} {w : World} {A : Around} {E : Value → Shared → Prop} {s : Shared} {a : Addr} {L : List Row} {es : Array (Int × Value)} {ep : Nat} {tb : SetTable}
theorem ents_size (e : es.toList = L.map (line w)) : es.size = L.length := by
  rw [← Array.length_toList, e, List.length_map]
theorem fits_of {n : Nat} (h1 : tb.dummies = #[]) (h2 : tb.place.size = n) (h3 : n ≤ tb.mask) : tb.fits n = true := by
  have z : tb.fill = n := by
    unfold SetTable.fill
    rw [h1, h2]
    rfl
  unfold SetTable.fits
  rw [z, h2]
  simp [h3]
namespace Holds
theorem psize (T : Holds w s.heap a L es ep tb) : tb.place.size = L.length := by
  have z := T.tab.sz
  rwa [List.length_map] at z
theorem fits (T : Holds w s.heap a L es ep tb) : tb.fits es.size = true := by
  have z := T.load
  exact fits_of T.tab.dm (by rw [T.psize, ents_size T.ents]) (by rw [ents_size T.ents]; omega)
theorem ent (T : Holds w s.heap a L es ep tb) {i : Nat} {r : Row} (e : L[i]? = some r) : es[i]? = some (line w r) := by
  rw [← Array.getElem?_toList, T.ents, List.getElem?_map, e]
  rfl
theorem stays (T : Holds w s.heap a L es ep tb) : ¬ tb.gaveWay = true := by
  have z := mask_odd T.tab.mok
  unfold SetTable.gaveWay
  rw [z]
  decide
end Holds
/-- the c-th probe for the hash h -/
abbrev pr (tb : SetTable) (h : Int) (c : Nat) : SetTable.Probe := nth tb.mask (runAt tb.mask (SetTable.bits h % (tb.mask + 1)) (SetTable.bits h)) c
theorem pr_dummy (tb : SetTable) (h : Int) : ∀ c, (pr tb h c).dummy = none := fun c => by
  induction c with
  | zero => rfl
  | succ c ih =>
    show (nth _ _ (c + 1)).dummy = none
    rw [nth_succ]
    unfold adv
    split <;> exact ih
theorem pr_more (tb : SetTable) (h : Int) (c q : Nat) : nth tb.mask (pr tb h c) q = pr tb h (c + q) := (nth_add tb.mask c _ q).symm
/-- the search for a member, from the c-th probe on; N is the first empty one -/
theorem seek (T : Holds w s.heap a L es ep tb) {x : Addr} {k : NestedKey} (m : Mem s.heap k x) (hu : A.units + 8 < cLine) {N : Nat} (hN : N < 10 * SetTable.turns tb.mask)
    (free : (pr tb (hk w k) N).j ∉ tb.place.toList) (full : ∀ c, c < N → (pr tb (hk w k) c).j ∈ tb.place.toList) {Q : SetFound → Shared → Prop}
    (qin : k ∈ L.map (·.2) → Q (.there none) s) (qout : k ∉ L.map (·.2) → Q (.free (pr tb (hk w k) N).j false) s) (f : Nat) :
    ∀ (c : Nat) (from_ : Option SetTable.Probe), from_.getD (tb.probeStart (hk w k)) = pr tb (hk w k) c → c ≤ N → N < c + f →
      (∀ (i : Nat) (r : Row), L[i]? = some r → r.2 = k → ∃ c', c ≤ c' ∧ c' < N ∧ tb.place.toList[i]? = some (pr tb (hk w k) c').j) → wpAny (model P w) A (setSearchFrom a (.ref x) (hk w k) true f from_) Q E s := by
  obtain ⟨o, ho, hex, hd⟩ := T.obj
  induction f with
  | zero => intro c _ _ h1 h2 _; omega
  | succ f ih =>
    intro c from_ hfrom hc hf reach
    rw [setSearchFrom_succ]
    refine wpAny_bind (wpAny_setState_of ho hd T.fits ?_)
    dsimp only
    refine wp_if_neg T.stays ?_
    try refine wpAny_bind (wpAny_pure ?_)
    have hashOf : ∀ (i : Nat) (r : Row), L[i]? = some r → (es[i]?.map (·.1)).getD 0 = hk w r.2 := fun i r e => by rw [T.ent e]; rfl
    have walk := go_spec tb T.tab.ris T.tab.dm (fun i => (es[i]?.map (·.1)).getD 0) (hk w k) (10 * SetTable.turns tb.mask) (N - c) (pr tb (hk w k) c) (pr_dummy tb _ c) (by omega)
      (fun q hq => by rw [pr_more]; exact full _ (by omega)) (by rw [pr_more, Nat.add_sub_cancel' hc]; exact free)
    have run : tb.probe (fun i => (es[i]?.map (·.1)).getD 0) (hk w k) (from_.getD (tb.probeStart (hk w k))) = SetTable.probe.go tb (fun i => (es[i]?.map (·.1)).getD 0) (hk w k) (10 * SetTable.turns tb.mask) (pr tb (hk w k) c) := by
      rw [hfrom]
      rfl
    rcases walk with ⟨q, i, hq, place, same, none_before, go⟩ | ⟨none_at_all, go⟩
    · rw [pr_more] at place
      have go' := run.trans go
      rw [pr_more, pr_more] at go'
      rw [go']
      dsimp only
      have hi : i < L.length := by
        have z := (List.getElem?_eq_some_iff.mp place).1
        rw [Array.length_toList, T.psize] at z
        exact z
      obtain ⟨r, hr⟩ : ∃ r, L[i]? = some r := ⟨L[i], List.getElem?_eq_getElem hi⟩
      have rm : r ∈ L := List.mem_of_getElem? hr
      have live : tb.slot (pr tb (hk w k) (c + q)).j = .live i := slot_live T.tab.ris place
      have after : wpAny (model P w) A (searchRest a (.ref x) (hk w k) true f es tb (pr tb (hk w k) (c + q)).j i (pr tb (hk w k) (c + (q + 1)))) Q E s := by
        unfold searchRest
        rw [T.ent hr]
        dsimp only
        refine wpAny_bind (wpAny_holding (Mem.eq hu (T.mems r rm) m (wpAny_bind (wpAny_setState_of ho hd T.fits ?_))))
        dsimp only
        by_cases hrk : r.2 = k
        · exact wp_if_pos (by simp [hrk]) (wpAny_pure (qin (List.mem_map.mpr ⟨r, rm, hrk⟩)))
        · refine wp_if_neg (by simp [hrk]) ?_
          try refine wpAny_bind (wpAny_pure ?_)
          rw [sameMem]
          dsimp only
          simp only [if_true, live, T.ent hr]
          refine wpAny_bind (wpAny_isSame_ref_self (wpAny_bind (wpAny_pure ?_)))
          simp only [if_true]
          refine wp_if_neg (by simp [hrk]) (ih (c + (q + 1)) _ rfl (by omega) (by omega) fun i' r' e' ek => ?_)
          obtain ⟨c', b1, b2, b3⟩ := reach i' r' e' ek
          refine ⟨c', ?_, b2, b3⟩
          have h1 : ¬ c' < c + q := fun z => none_before (c' - c) i' (by omega) (by rw [pr_more, Nat.add_sub_cancel' b1]; exact b3) ((hashOf i' r' e').trans (by rw [ek]))
          have h2 : c' ≠ c + q := fun z => by
            subst z
            have l2 := slot_live T.tab.ris b3
            rw [live] at l2
            injection l2 with l2
            subst l2
            rw [hr] at e'
            cases e'
            exact hrk ek
          omega
      cases hl : tb.led with
      | true =>
        refine wp_if_neg (by simp) ?_
        try refine wpAny_bind (wpAny_pure ?_)
        exact after
      | false =>
        refine wp_if_pos (by simp) (wpAny_bind (unseen m (fun y hy => ?_) ?_))
        · obtain ⟨e, he, rfl⟩ := List.mem_map.mp hy
          have he' : e ∈ es.toList := by
            have z : e ∈ es ∧ e.1 = hk w k := by simpa using he
            simpa using z.1
          rw [T.ents] at he'
          obtain ⟨r', hr', rfl⟩ := List.mem_map.mp he'
          exact ⟨r'.2, r'.1, rfl, T.mems r' hr'⟩
        · refine wp_if_neg Bool.false_ne_true ?_
          try refine wpAny_bind (wpAny_pure ?_)
          exact after
    · have go' := run.trans go
      rw [pr_more, Nat.add_sub_cancel' hc] at go'
      rw [go']
      dsimp only
      refine wpAny_pure (qout fun hm => ?_)
      obtain ⟨r, rm, rk⟩ := List.mem_map.mp hm
      obtain ⟨i, hi, e⟩ := List.getElem_of_mem rm
      have er : L[i]? = some r := by rw [List.getElem?_eq_getElem hi, e]
      obtain ⟨c', b1, b2, b3⟩ := reach i r er rk
      exact none_at_all (c' - c) i (by omega) (by rw [pr_more, Nat.add_sub_cancel' b1]; exact b3) ((hashOf i r er).trans (by rw [rk]))
theorem seekAll (T : Holds w s.heap a L es ep tb) {x : Addr} {k : NestedKey} (m : Mem s.heap k x) (hu : A.units + 8 < cLine) {Q : SetFound → Shared → Prop} (qin : k ∈ L.map (·.2) → Q (.there none) s)
    (qout : ∀ N, k ∉ L.map (·.2) → way tb.mask (hk w k) N ∉ tb.place.toList → (∀ c, c < N → way tb.mask (hk w k) c ∈ tb.place.toList) → Q (.free (way tb.mask (hk w k) N) false) s) :
    wpAny (model P w) A (setSearch a (.ref x) (hk w k) true) Q E s := by
  have z := T.load
  obtain ⟨N, b, free, full⟩ := T.tab.first (by rw [List.length_map]; omega) (hk w k)
  have big : N < 100000 := by
    have : SetTable.turns tb.mask ≤ 142 := by
      unfold SetTable.turns
      rcases T.tab.mok with e | e | e <;> omega
    omega
  refine seek T m hu b free full qin (fun hn => qout N hn free full) 100000 0 none rfl (Nat.zero_le _) (by omega) fun i r e ek => ?_
  have hi : i < tb.place.toList.length := by
    rw [Array.length_toList, T.psize]
    exact (List.getElem?_eq_some_iff.mp e).1
  have there := List.getElem?_eq_getElem hi
  obtain ⟨c, hc, e2⟩ := T.tab.before free (i := i) (by rw [List.getElem?_map, e, ← ek]; rfl) there
  exact ⟨c, Nat.zero_le _, hc, by rw [there, ← e2]⟩
end
end DS

set_option Elab.async false
set_option linter.all false
set_option maxRecDepth 100000
set_option maxHeartbeats 1000000
set_option autoImplicit false
namespace DS
open PySem PySem.Spec PyProof.Rows L2

section
variable {P : Program} {w : World} {A : Around} {E : Value → Shared → Prop} {s : Shared} {a : Addr} {L : List Row} {es : Array (Int × Value)} {ep : Nat} {tb : SetTable}
theorem Mem.aside {h h' : Heap} {k : NestedKey} {b : Addr} {o : Obj} (m : Mem h k b) (ho : h.get? a = some o) (hd : o.data = .set es ep tb) (hs : Heap.SameBut a h h') : Mem h' k b :=
  m.keep fun c u vs n e1 e2 => (hs.2 c fun z => by
    subst z
    rw [ho] at e1
    cases e1
    rw [hd] at e2
    cases e2).trans e1
theorem take_range {α : Type} (l : List α) : (List.range l.length).filterMap (fun i => l[i]?) = l := by
  induction l with
  | nil => rfl
  | cons x l ih =>
    rw [List.length_cons, List.range_succ_eq_map, List.filterMap_cons_some (b := x) (by rfl), List.filterMap_map]
    exact congrArg (x :: ·) (by simpa [Function.comp_def] using ih)
/-- the rows in another order -/
theorem reorder (order : Array Nat) (he : es.toList = L.map (line w)) (hp : order.toList.Perm (List.range L.length)) :
    ∃ L' : List Row, L'.Perm L ∧ (order.filterMap (es[·]?)).toList = L'.map (line w) ∧ (L'.map fun r => hk w r.2) = order.toList.map fun i => (es.map (·.1)).getD i 0 := by
  have inb : ∀ i ∈ order.toList, i < L.length := fun i hi => List.mem_range.mp (hp.mem_iff.mp hi)
  have ent : ∀ i (h : i < L.length), es[i]? = some (line w L[i]) := fun i h => by
    rw [← Array.getElem?_toList, he, List.getElem?_map, List.getElem?_eq_getElem h]
    rfl
  refine ⟨order.toList.filterMap fun i => L[i]?, ?_, ?_, ?_⟩
  · have z : (order.toList.filterMap fun i => L[i]?).Perm ((List.range L.length).filterMap fun i => L[i]?) := hp.filterMap _
    rwa [take_range] at z
  · have z : order.toList.filterMap (fun i => es[i]?) = (order.toList.filterMap fun i => L[i]?).map (line w) := by
      clear hp
      generalize order.toList = l at inb ⊢
      induction l with
      | nil => rfl
      | cons i l ih =>
        have hi := inb i List.mem_cons_self
        rw [List.filterMap_cons_some (ent i hi), List.filterMap_cons_some (List.getElem?_eq_getElem hi), ih fun j hj => inb j (List.mem_cons_of_mem _ hj)]
        rfl
    simpa using z
  · clear hp
    generalize order.toList = l at inb ⊢
    induction l with
    | nil => rfl
    | cons i l ih =>
      have hi := inb i List.mem_cons_self
      have e5 : (es.map (·.1))[i]? = some (hk w L[i].2) := by
        rw [Array.getElem?_map, ent i hi]
        rfl
      rw [List.filterMap_cons_some (List.getElem?_eq_getElem hi), List.map_cons, List.map_cons, ih fun j hj => inb j (List.mem_cons_of_mem _ hj)]
      simp [Array.getD_eq_getD_getElem?, e5]
/-- laid anew in a table of the mask M -/
theorem widen {o : Obj} (ho : s.heap.get? a = some o) (hex : o.ExactSet) (hd : o.data = .set es ep tb) (he : es.toList = L.map (line w)) (ht : TabOk tb (L.map fun r => hk w r.2)) (hm : L.length ≤ tb.mask)
    (once : (L.map (·.2)).Nodup) (mems : ∀ r ∈ L, Mem s.heap r.2 r.1) (pln : tb.plain = true) (ord : w.params.followText "set-order" = true ∨ tb.led = true) (small : L.length < 64) {want M : Nat}
    (hw : SetTable.sizeAbove want = M + 1) (hM : MaskOk M) (room : 5 * L.length < 3 * M) {Q : Unit → Shared → Prop}
    (q : ∀ h' L' es' ep' tb', Heap.SameBut a s.heap h' → Holds w h' a L' es' ep' tb' → L'.Perm L → Q () { s with heap := h' }) : wpAny (model P w) A (setRelay a want) Q E s := by
  have sz := ents_size he
  have hps : tb.place.size = L.length := by
    have z := ht.sz
    rwa [List.length_map] at z
  have M127 : M ≤ 127 := by rcases hM with e | e | e <;> omega
  obtain ⟨tb', order, new, hp, tabOk, emask, eled, epln, edm⟩ := relaid_ok tb (hs := es.map (·.1)) (wanted := want) (M := M) (by rw [hw]; rfl) hM (by rw [Array.size_map, sz]; omega)
  rw [Array.size_map, sz] at hp
  obtain ⟨L', perm, ents, hashes⟩ := reorder order he hp
  rw [← hashes] at tabOk
  have len : L'.length = L.length := perm.length_eq
  have size2 : (order.filterMap (es[·]?)).size = es.size := by rw [ents_size ents, len, sz]
  rw [setRelay_eq]
  refine wpAny_bind (wpAny_setState_of ho hd (fits_of ht.dm (by rw [hps, sz]) (by rw [sz]; exact hm)) ?_)
  dsimp only
  refine wp_if_neg (by rw [hw, sizeLine_eq]; omega) ?_
  try refine wpAny_bind (wpAny_pure ?_)
  rw [new]
  dsimp only
  refine wpAny_bind (wp_if_neg (by rw [size2]; simp) ?_)
  try refine wpAny_bind (wpAny_pure ?_)
  refine wpAny_pure ?_
  dsimp only
  refine wpAny_storeSet_of ho hd ?_ (by rw [size2, sz, sizeLine_eq]; omega)
  have sb := Heap.SameBut.update (a := a) (h := s.heap) (f := Obj.putSet (order.filterMap (es[·]?)) tb')
  refine q _ L' (order.filterMap (es[·]?)) (ep + 1) tb' sb ?_ perm
  exact ⟨⟨_, store_at ho hd, ⟨hex.1, hex.2.1, hex.2.2⟩, rfl⟩, ents, tabOk, (perm.map (·.2)).nodup_iff.mpr once, fun r hr => (mems r (perm.mem_iff.mp hr)).aside ho hd sb, epln.trans pln, by rw [eled]; exact ord, by rw [len, emask]; exact room, by rw [len]; exact small⟩
theorem grown_ok {n M : Nat} (h : (M = 7 ∧ n = 5) ∨ (M = 31 ∧ n = 19)) : ∃ M', SetTable.sizeAbove (SetTable.grown n) = M' + 1 ∧ MaskOk M' ∧ 5 * n < 3 * M' := by
  rcases h with ⟨_, rfl⟩ | ⟨_, rfl⟩
  · exact ⟨31, size_20, .inr (.inl rfl), by decide⟩
  · exact ⟨127, size_76, .inr (.inr rfl), by decide⟩
/-- one more member -/
theorem joins (T : Holds w s.heap a L es ep tb) {x : Addr} {k : NestedKey} (m : Mem s.heap k x) (hu : A.units + 8 < cLine) (more : L.length + 1 < 64) {Q : Bool → Shared → Prop}
    (q : ∀ b h' L' es' ep' tb', Heap.SameBut a s.heap h' → Holds w h' a L' es' ep' tb' → (k ∈ L.map (·.2) → L' = L) → (k ∉ L.map (·.2) → L'.Perm ((x, k) :: L)) → Q b { s with heap := h' }) :
    wpAny (model P w) A (setAddHashed a (.ref x) (hk w k)) Q E s := by
  obtain ⟨o, ho, hex, hd⟩ := T.obj
  have sz := ents_size T.ents
  have load := T.load
  unfold setAddHashed
  refine wpAny_holding ?_
  rw [show (100000 : Nat) = 99999 + 1 from rfl, setAddHashedIn_succ]
  refine wpAny_bind (wpAny_setState_of ho hd T.fits ?_)
  dsimp only
  refine wp_if_neg (by simp [byScan, Value.scannable]) ?_
  try refine wpAny_bind (wpAny_pure ?_)
  refine wpAny_bind (seekAll T m hu (fun hm => ?_) fun N hm free full => ?_)
  · exact wpAny_pure (q false s.heap L es ep tb (Heap.SameBut.refl a s.heap) T (fun _ => rfl) fun z => (z hm).elim)
  dsimp only
  refine wpAny_bind (wpAny_setState_of ho hd T.fits ?_)
  dsimp only
  have put := T.tab.put free full
  generalize ept : tb.put (way tb.mask (hk w k) N) = pt at put
  obtain ⟨t1, p⟩ := pt
  obtain ⟨ep1, ple, tab1, mask1, led1, pln1, -, -, fill1⟩ := put
  dsimp only at ep1 tab1 mask1 led1 pln1 fill1 ⊢
  rw [← ep1] at ple tab1
  have plain1 : t1.plain = true := pln1.trans T.pln
  have after : ∀ Q2 : Unit → Shared → Prop, True := fun _ => trivial
  clear after
  first
    | (refine wpAny_bind (wp_if_pos plain1 (m.hby _ _ _ ?_)))
    | (refine wp_if_pos plain1 (wpAny_bind (m.hby _ _ _ ?_)))
  simp only [if_true]
  -- the new rows
  have perm := put_perm L p (x, k)
  have ents1 : (SetTable.insertAt es p (hk w k, Value.ref x)).toList = (L.take p ++ (x, k) :: L.drop p).map (line w) := by
    rw [SetTable.toList_insertAt, T.ents, List.map_append, List.map_cons, List.map_take, List.map_drop]
  have hashes1 : (L.map fun r => hk w r.2).take p ++ hk w k :: (L.map fun r => hk w r.2).drop p = (L.take p ++ (x, k) :: L.drop p).map fun r => hk w r.2 := by
    rw [List.map_append, List.map_cons, List.map_take, List.map_drop]
  rw [hashes1] at tab1
  generalize L.take p ++ (x, k) :: L.drop p = L1 at perm ents1 tab1
  generalize SetTable.insertAt es p (hk w k, Value.ref x) = es1 at ents1 ⊢
  have len1 : L1.length = L.length + 1 := perm.length_eq
  have sz1 := ents_size ents1
  have once1 : (L1.map (·.2)).Nodup := (perm.map (·.2)).nodup_iff.mpr (List.nodup_cons.mpr ⟨hm, T.once⟩)
  refine wpAny_bind (wpAny_storeSet_of ho hd ?_ (by rw [sz1, len1, sizeLine_eq]; omega))
  have sb := Heap.SameBut.update (a := a) (h := s.heap) (f := Obj.putSet es1 t1)
  have ho1 := store_at (es' := es1) (t' := t1) ho hd
  generalize s.heap.update a (Obj.putSet es1 t1) = h1 at sb ho1 ⊢
  have mems1 : ∀ r ∈ L1, Mem h1 r.2 r.1 := fun r hr => by
    rcases List.mem_cons.mp (perm.mem_iff.mp hr) with e | hr
    · subst e; exact m.aside ho hd sb
    · exact (T.mems r hr).aside ho hd sb
  have ord1 : w.params.followText "set-order" = true ∨ t1.led = true := by rw [led1]; exact T.ord
  rw [List.length_map] at fill1
  cases full1 : t1.tooFull with
  | true =>
    have heavy : 3 * t1.mask ≤ 5 * (L.length + 1) := by
      have z := full1
      unfold SetTable.tooFull at z
      rw [decide_eq_true_eq, fill1] at z
      omega
    have which : (t1.mask = 7 ∧ L.length + 1 = 5) ∨ (t1.mask = 31 ∧ L.length + 1 = 19) := by
      rcases T.tab.mok with e | e | e
      · left; rw [mask1, e] at heavy ⊢; rw [e] at load; exact ⟨rfl, by omega⟩
      · right; rw [mask1, e] at heavy ⊢; rw [e] at load; exact ⟨rfl, by omega⟩
      · rw [mask1, e] at heavy; omega
    obtain ⟨M, hM1, hM2, hM3⟩ := grown_ok which
    have go : wpAny (model P w) A (setRelay a (SetTable.grown (L.length + 1))) (fun _ s' => wpAny (model P w) A (pure true) Q E s') E { s with heap := h1 } :=
      widen (s := { s with heap := h1 }) ho1 ⟨hex.1, hex.2.1, hex.2.2⟩ rfl ents1 tab1 (by rw [len1]; rcases which with ⟨e, _⟩ | ⟨e, _⟩ <;> omega) once1 mems1 plain1 ord1 (by rw [len1]; exact more) hM1 hM2 (by rw [len1]; exact hM3)
        fun h2 L2 es2 ep2 t2 sb2 T2 perm2 => wpAny_pure (q true h2 L2 es2 ep2 t2 (sb.trans sb2) T2 (fun z => (hm z).elim) fun _ => perm2.trans perm)
    rw [sz]
    first
      | exact wpAny_bind (wp_if_pos (by simp) go)
      | exact wp_if_pos (by simp) (wpAny_bind go)
  | false =>
    have light : 5 * L1.length < 3 * t1.mask := by
      have z := full1
      unfold SetTable.tooFull at z
      rw [decide_eq_false_iff_not, fill1] at z
      omega
    have fin : wpAny (model P w) A (pure true) Q E { s with heap := h1 } :=
      wpAny_pure (q true h1 L1 es1 (ep + 1) t1 sb ⟨⟨_, ho1, ⟨hex.1, hex.2.1, hex.2.2⟩, rfl⟩, ents1, tab1, once1, mems1, plain1, ord1, light, by rw [len1]; exact more⟩ (fun z => (hm z).elim) fun _ => perm)
    first
      | exact wpAny_bind (wp_if_neg (by simp) (wpAny_pure fin))
      | exact wp_if_neg (by simp) fin
end
end DS

set_option Elab.async false
set_option linter.all false
set_option maxRecDepth 100000
set_option maxHeartbeats 1000000
set_option autoImplicit false
namespace DS
open PySem PySem.Spec PyProof.Rows L2

/-! ### set(a list of members) -/
abbrev Keeps (h h' : Heap) : Prop := ∀ b u, h.get? b = some u → h'.get? b = some u
/-- what the set has of the first i members -/
structure Part (all : List Row) (i : Nat) (L : List Row) : Prop where
  of : ∀ r ∈ L, r ∈ all.take i
  every : ∀ r ∈ all.take i, r.2 ∈ L.map (·.2)
  le : L.length ≤ i
theorem take_more {α : Type} {l : List α} {i : Nat} {x : α} (e : l[i]? = some x) : l.take (i + 1) = l.take i ++ [x] := by
  rw [List.take_add_one, e]
  rfl
theorem Part.step {all L L' : List Row} {i : Nat} {x : Addr} {k : NestedKey} (p : Part all i L) (e : all[i]? = some (x, k)) (old : k ∈ L.map (·.2) → L' = L) (new : k ∉ L.map (·.2) → L'.Perm ((x, k) :: L)) : Part all (i + 1) L' := by
  have tk := take_more e
  by_cases h : k ∈ L.map (·.2)
  · have z := old h
    subst z
    refine ⟨fun r hr => by rw [tk]; exact List.mem_append_left _ (p.of r hr), fun r hr => ?_, Nat.le_succ_of_le p.le⟩
    rw [tk] at hr
    rcases List.mem_append.mp hr with y | y
    · exact p.every r y
    · rw [List.mem_singleton.mp y]; exact h
  · have pm := new h
    refine ⟨fun r hr => ?_, fun r hr => ?_, by have y := p.le; rw [pm.length_eq, List.length_cons]; omega⟩
    · rw [tk]
      rcases List.mem_cons.mp (pm.mem_iff.mp hr) with y | y
      · exact List.mem_append_right _ (by rw [y]; exact List.mem_singleton.mpr rfl)
      · exact List.mem_append_left _ (p.of r y)
    · rw [(pm.map (·.2)).mem_iff, List.map_cons]
      rw [tk] at hr
      rcases List.mem_append.mp hr with y | y
      · exact List.mem_cons_of_mem _ (p.every r y)
      · rw [List.mem_singleton.mp y]; exact List.mem_cons_self
abbrev emptyT (w : World) : SetTable := .fresh 0 0 (!w.params.followText "set-order")
abbrev emptyO (w : World) : Obj := { cls := .type "set", dict := none, data := .set #[] 0 (emptyT w) }
section
variable {P : Program} {w : World} {A : Around} {E : Value → Shared → Prop} {s : Shared}
theorem Mem.keeps {h h' : Heap} {k : NestedKey} {b : Addr} (m : Mem h k b) (kp : Keeps h h') : Mem h' k b := m.keep fun a o vs n e _ => kp a o e
theorem Holds.move {h h' : Heap} {a : Addr} {L : List Row} {es : Array (Int × Value)} {ep : Nat} {tb : SetTable} (T : Holds w h a L es ep tb) (ha : ∀ o, h.get? a = some o → h'.get? a = some o) (hm : ∀ r ∈ L, Mem h' r.2 r.1) : Holds w h' a L es ep tb :=
  ⟨let ⟨o, e, z⟩ := T.obj; ⟨o, ha o e, z⟩, T.ents, T.tab, T.once, hm, T.pln, T.ord, T.load, T.small⟩
theorem holds_empty {h : Heap} {a : Addr} (e : h.get? a = some (emptyO w)) : Holds w h a [] #[] 0 (emptyT w) := by
  refine ⟨⟨_, e, ⟨rfl, rfl, rfl⟩, rfl⟩, rfl, ⟨.nil, rfl, rfl, .inl rfl, fun x hx => (by cases hx), fun i h j hi => (by simp at hi)⟩, List.nodup_nil, fun r hr => (by cases hr), rfl, ?_, (by decide : 5 * 0 < 3 * 7), (by decide : 0 < 64)⟩
  cases h : w.params.followText "set-order" with
  | true => exact .inl rfl
  | false =>
    right
    show (!w.params.followText "set-order") = true
    rw [h]
    rfl
/-- the members are taken in, one after another -/
theorem takesIn {it : Addr} {fp wr : List Addr} {G : Array GenState → Array GenState → Prop} {n : Nat} {Pv : Nat → Value → Prop} {St : Nat → Shared → Prop} {R : Result → Shared → Prop}
    (W : WalksS P w A.in1 it fp wr G n Pv St) (S : Addr) (apart : S ∉ fp) (all : List Row) (hn : n = all.length) (small : all.length < 64) (vals : ∀ i v, Pv i v → ∃ r, all[i]? = some r ∧ v = .ref r.1)
    (h0 : Heap) (mems : ∀ r ∈ all, Mem h0 r.2 r.1) (noS : h0.get? S = none) (noW : ∀ b ∈ wr, h0.get? b = none) (hu : A.in1.units + 8 < cLine) (left : Nat) :
    ∀ (i : Nat) (s : Shared), i + left = n → St i s → Keeps h0 s.heap → (∃ L es ep tb, Holds w s.heap S L es ep tb ∧ Part all i L) →
      (∀ s' L es ep tb, Moved (S :: wr) G s s' → Holds w s'.heap S L es ep tb → Part all n L → Keeps h0 s'.heap → R (.ok (.ret .none)) s') →
      codeAny (model P w) A (.builtin "set.update.loop" ⟨[.ref S, .ref it], []⟩) R s := by
  have wS : S ∉ wr := fun z => apart (W.sub _ z)
  have up : ∀ b ∈ wr, b ∈ S :: wr := fun b z => List.mem_cons_of_mem _ z
  have still : ∀ {s s' : Shared}, Moved wr G s s' → Keeps h0 s.heap → Keeps h0 s'.heap := fun mv kp b u e => mv.heap b u (fun z => by rw [noW b z] at e; cases e) (kp b u e)
  have inAll : ∀ {i : Nat} {L : List Row}, Part all i L → ∀ r ∈ L, r ∈ all := fun p r hr => List.mem_of_mem_take (p.of r hr)
  induction left with
  | zero =>
    rintro i s hi st kp ⟨L, es, ep, tb, T, p⟩ fin
    have hi' : i = n := by omega
    subst hi'
    refine codeAny_builtin F.entry_set_update_loop ?_
    rw [Around.under_plainId F.plain_set_update_loop _]
    show wpAny (model P w) A.in1 (pyNext (.ref it) >>= _) _ _ s
    refine wpAny_bind (W.done s _ _ st fun s' mv => ?_)
    have kp' := still mv kp
    exact wpAny_pure (fin s' L es ep tb (mv.mono up) (T.move (fun o e => mv.heap S o wS e) fun r hr => (mems r (inAll p r hr)).keeps kp') p kp')
  | succ left ih =>
    rintro i s hi st kp ⟨L, es, ep, tb, T, p⟩ fin
    refine codeAny_builtin F.entry_set_update_loop ?_
    rw [Around.under_plainId F.plain_set_update_loop _]
    show wpAny (model P w) A.in1 (pyNext (.ref it) >>= _) _ _ s
    refine wpAny_bind (W.item i s _ _ (by omega) st fun v s' pv st' mv => ?_)
    obtain ⟨⟨x, k⟩, er, rfl⟩ := vals i v pv
    have kp' := still mv kp
    have T' : Holds w s'.heap S L es ep tb := T.move (fun o e => mv.heap S o wS e) fun r hr => (mems r (inAll p r hr)).keeps kp'
    have mx : Mem s'.heap k x := (mems (x, k) (List.mem_of_getElem? er)).keeps kp'
    show wpAny (model P w) A.in1 (holding [Value.ref x] (setAdd S (.ref x)) >>= _) _ _ s'
    refine wpAny_bind (wpAny_holding ?_)
    unfold setAdd
    refine wpAny_holding (wpAny_bind ((nestedKind P w).pyHash (k := k) hu ⟨mx.is, mx.dp⟩ ?_))
    have lt : i < all.length := by rw [← hn]; omega
    refine joins (s := { s' with toks := s'.toks + k.draws }) T' mx hu (by have z := p.le; omega) fun b h' L' es' ep' tb' sb T2 old new => ?_
    have kp2 : Keeps h0 h' := fun c u e => (sb.2 c fun z => by rw [z, noS] at e; cases e).trans (kp' c u e)
    refine wpAny_pure ⟨plainId_quiet F.plain_set_update_loop _, ih (i + 1) _ (by omega) (W.frame _ s' _ _ st' (Nat.le_add_right _ _) fun c hc o e => (sb.2 c fun z => apart (z ▸ hc)).trans e) kp2 ⟨L', es', ep', tb', T2, p.step er old new⟩ fun s2 L2 es2 ep2 tb2 mv2 T3 p3 kp3 => ?_⟩
    exact fin s2 L2 es2 ep2 tb2 (Moved.trans W.gtrans ((mv.mono up).then_heap (Nat.le_add_right _ _) fun c o hc e => (sb.2 c fun z => hc (z ▸ List.mem_cons_self)).trans e) mv2) T3 p3 kp3

set_option maxHeartbeats 4000000 in
/-- set(a list): what the loop over it leaves is what is there in the end -/
theorem makeBy {l : Addr} {items : Array Value} (Z : Heap → Prop) {Q : Value → Shared → Prop} (nohd : A.handled = none) (hl : s.heap.IsList l items)
    (loop : ∀ (A1 : Around) (R : Result → Shared → Prop), A1.handled = none → A1.units ≤ A.units + 3 → (∀ h' tk, Z h' → Keeps s.heap h' → R (.ok (.ret .none)) { s with heap := h', toks := tk }) →
      codeAny (model P w) A1 (.builtin "set.update.loop" ⟨[.ref s.heap.objs.size, .ref (s.heap.push (emptyO w)).objs.size], []⟩) R { s with heap := (s.heap.push (emptyO w)).push { cls := .type "list_iterator", data := .fields #[.ref l, .int 0 0] } })
    (q : ∀ (h' : Heap) (tk : Nat), Z h' → Keeps s.heap h' → Q (.ref s.heap.objs.size) { s with heap := h', toks := tk }) :
    wpAny (model P w) A (call (.type "set") [.ref l]) Q E s := by
  obtain ⟨c, tl, hmro⟩ := F.called_set.mro
  have hmade := F.called_set.made
  have hsub := F.called_set.sub
  refine wpAny_call (codeAny_of_tree ?_)
  show wpAny (model P w) _ (callAny (.type "set") _) _ _ s
  refine wpAny_pure ⟨Code.quiet_builtin _ (by decide +kernel), codeAny_builtin F.entry_type_call ?_⟩
  rw [Around.under_plain (weight_type_call_type "set" [.ref l] []) rfl]
  have hn1 := F.called_set.notType
  have hn2 := F.called_set.canCreate
  have hn3 := F.typeCall_set_1 (.ref l)
  repeat (any_goals (first | assumption | wp_step))
  -- the new set
  let h1 : Heap := s.heap.push (emptyO w)
  refine codeAny_mono (code_set_led1 (.ref l) (E := E) (Q₁ := fun o t => o = .ref s.heap.objs.size ∧ t = { s with heap := h1 }) ⟨rfl, rfl⟩) fun r1 t1 z1 => ?_
  cases r1 with
  | error e => exact z1
  | ok f1 =>
    cases f1 with
    | next => exact z1.elim
    | brk => exact z1.elim
    | cont => exact z1.elim
    | ret o =>
      obtain ⟨rfl, rfl⟩ := z1
      have here : h1.get? s.heap.objs.size = some (emptyO w) := Heap.get?_push_size _ rfl
      have ty : Shared.TypeIs { s with heap := h1 } (.ref s.heap.objs.size) "set" := ⟨_, here, rfl⟩
      have hn4 := F.called_set.init.lookup
      have hn5 := F.called_set.init.bind (.ref s.heap.objs.size)
      repeat (any_goals (first | assumption | wp_step))
      refine codeAny_mono (codeAny_call_builtin (R := wants (fun v t => v = .none ∧ ∃ h' tk, t = { s with heap := h', toks := tk } ∧ Z h' ∧ Keeps s.heap h') E) F.called_set.init.plain F.entry_set_init (check_set_init_1 ty ?_)) fun r2 t2 z2 => ?_
      · obtain ⟨⟨oc, od, dt, sl⟩, hol, hcl, nl, hdl⟩ := hl
        simp only at hcl hdl
        subst hcl
        subst hdl
        have hol1 : h1.get? l = some { cls := .type "list", dict := od, data := .seq items nl, slots := sl } := Heap.get?_push_of_some _ hol
        have isl : h1.IsList l items := ⟨_, hol1, rfl, nl, rfl⟩
        have hn6 := F.sub_list_set
        have hn7 := F.sub_list_frozenset
        have hn8 : (Value.type "list" == Value.type "dict") = false := by decide
        unfold Builtin.«set.__init__» noKeywords Builtin.Frozenset.updateFrom
        generalize hPI : pyIter = PI
        wp_walk
        subst hPI
        refine wpAny_pyIter_list isl (wpAny_bind (wpAny_runValue ?_))
        refine loop _ _ (by simp [nohd]) (by simp only [Around.in1_units]; omega) fun h' tk z kp => ?_
        show wpAny _ _ _ _ _ _
        refine wpAny_pure ?_
        show wpAny _ _ (ret Value.none) _ _ _
        exact wpAny_pure ⟨rfl, h', tk, rfl, z, kp⟩
      · cases r2 with
        | error e => exact z2
        | ok f2 =>
          cases f2 with
          | next => exact z2.elim
          | brk => exact z2.elim
          | cont => exact z2.elim
          | ret v =>
            obtain ⟨rfl, h', tk, rfl, z, kp⟩ := z2
            repeat (any_goals (first | assumption | wp_step))
            exact q h' tk z kp
theorem Keeps.of_new {h h' : Heap} {l it : Addr} {S : Addr} {wr : List Addr} {G : Array GenState → Array GenState → Prop} {s1 s2 : Shared} (mv : Moved (S :: wr) G s1 s2) (hS : h.get? S = none) (hw : ∀ b ∈ wr, h.get? b = none) (kp : Keeps h s1.heap) : Keeps h s2.heap := fun b u e =>
  mv.heap b u (fun z => by
    rcases List.mem_cons.mp z with z | z
    · rw [z, hS] at e; cases e
    · rw [hw b z] at e; cases e) (kp b u e)
/-- the members are tuples -/
theorem makeSet {l : Addr} {items : Array Value} (all : List Row) {Q : Value → Shared → Prop} (nohd : A.handled = none) (hl : s.heap.IsList l items) (hit : items.toList = all.map fun r => Value.ref r.1)
    (mems : ∀ r ∈ all, Mem s.heap r.2 r.1) (small : all.length < 64) (hu : A.units + 12 < cLine)
    (q : ∀ (h' : Heap) (tk : Nat) L es ep tb, Holds w h' s.heap.objs.size L es ep tb → Part all all.length L → Keeps s.heap h' → Q (.ref s.heap.objs.size) { s with heap := h', toks := tk }) :
    wpAny (model P w) A (call (.type "set") [.ref l]) Q E s := by
  have many : items.size = all.length := by rw [← Array.length_toList, hit, List.length_map]
  refine makeBy (fun h' => ∃ L es ep tb, Holds w h' s.heap.objs.size L es ep tb ∧ Part all all.length L) nohd hl (fun A1 R nohd1 hu1 back => ?_) fun h' tk ⟨L, es, ep, tb, T, p⟩ kp => q h' tk L es ep tb T p kp
  have here : (s.heap.push (emptyO w)).get? s.heap.objs.size = some (emptyO w) := Heap.get?_push_size _ rfl
  have szh : (s.heap.push (emptyO w)).objs.size = s.heap.objs.size + 1 := Heap.size_push ..
  have ltl : l < s.heap.objs.size := let ⟨_, z, _⟩ := hl; Heap.lt_size z
  have isl : (s.heap.push (emptyO w)).IsList l items := hl.push _
  have none_of : ∀ b, s.heap.objs.size ≤ b → s.heap.get? b = none := fun b hb => by
    cases z : s.heap.get? b with
    | none => rfl
    | some u => exact absurd (Heap.lt_size z) (Nat.not_lt.mpr hb)
  have ne_it : l ≠ (s.heap.push (emptyO w)).objs.size := by
    rw [szh]
    exact Nat.ne_of_lt (Nat.lt_succ_of_lt ltl)
  have off : s.heap.objs.size ∉ [(s.heap.push (emptyO w)).objs.size, l] := fun z => by
    rcases List.mem_cons.mp z with z | z
    · rw [szh] at z
      exact absurd z (Nat.ne_of_lt (Nat.lt_succ_self _))
    · exact absurd (List.mem_singleton.mp z) (Nat.ne_of_gt ltl)
  refine takesIn ((Walks.list (A := A1.in1) (show A1.in1.handled = none from nohd1) (s.heap.push (emptyO w)).objs.size l ne_it items).toS) s.heap.objs.size off all many small (fun i v hv => ?_) s.heap mems (none_of _ (Nat.le_refl _)) (fun b hb => none_of b ?_) (by simp only [Around.in1_units]; omega) items.size 0 _ (Nat.zero_add _)
    ⟨⟨_, Heap.get?_push_size _ rfl, rfl, rfl⟩, isl.push _⟩ (fun b u e => Heap.get?_push_of_some _ (Heap.get?_push_of_some _ e)) ⟨[], #[], 0, _, holds_empty (Heap.get?_push_of_some _ here), ⟨fun r hr => (by cases hr), fun r hr => (by simp at hr), Nat.le_refl _⟩⟩ ?_
  · have z : items.toList[i]? = some v := by rw [Array.getElem?_toList]; exact hv
    rw [hit, List.getElem?_map] at z
    cases y : all[i]? with
    | none => rw [y] at z; cases z
    | some r =>
      rw [y] at z
      exact ⟨r, rfl, (Option.some.inj z).symm⟩
  · rw [List.mem_singleton.mp hb, szh]
    exact Nat.le_succ _
  · intro t L es ep tb mv T p kp
    obtain ⟨h', g', d', tk', os'⟩ := t
    have e1 : g' = s.gens := mv.gens
    have e2 : d' = s.drawn := mv.drawn
    have e3 : os' = s.os := mv.os
    subst e1
    subst e2
    subst e3
    rw [many] at p
    exact back h' tk' ⟨L, es, ep, tb, T, p⟩ kp
/-- the members are ints -/
theorem makeInts {l : Addr} {items : Array Value} (ns : List Int) {Q : Value → Shared → Prop} (nohd : A.handled = none) (hl : s.heap.IsList l items) (hit : IntsAre items.toList ns) (small : ns.length + 1 < scanBound)
    (q : ∀ (h' : Heap) (tk c : Nat), SetR w h' s.heap.objs.size (fun j => decide (j ∈ ns)) c → c ≤ ns.length → Keeps s.heap h' → Q (.ref s.heap.objs.size) { s with heap := h', toks := tk }) :
    wpAny (model P w) A (call (.type "set") [.ref l]) Q E s := by
  have many : items.size = ns.length := by rw [← Array.length_toList]; exact IntsAre.length hit
  refine makeBy (fun h' => ∃ c, SetR w h' s.heap.objs.size (fun j => decide (j ∈ ns)) c ∧ c ≤ ns.length) nohd hl (fun A1 R nohd1 hu1 back => ?_) fun h' tk ⟨c, T, p⟩ kp => q h' tk c T p kp
  have here : (s.heap.push (emptyO w)).get? s.heap.objs.size = some (emptyO w) := Heap.get?_push_size _ rfl
  have szh : (s.heap.push (emptyO w)).objs.size = s.heap.objs.size + 1 := Heap.size_push ..
  have ltl : l < s.heap.objs.size := let ⟨_, z, _⟩ := hl; Heap.lt_size z
  have isl : (s.heap.push (emptyO w)).IsList l items := hl.push _
  have none_of : ∀ b, s.heap.objs.size ≤ b → s.heap.get? b = none := fun b hb => by
    cases z : s.heap.get? b with
    | none => rfl
    | some u => exact absurd (Heap.lt_size z) (Nat.not_lt.mpr hb)
  have ne_it : l ≠ (s.heap.push (emptyO w)).objs.size := by
    rw [szh]
    exact Nat.ne_of_lt (Nat.lt_succ_of_lt ltl)
  have off : s.heap.objs.size ∉ [(s.heap.push (emptyO w)).objs.size, l] := fun z => by
    rcases List.mem_cons.mp z with z | z
    · rw [szh] at z
      exact absurd z (Nat.ne_of_lt (Nat.lt_succ_self _))
    · exact absurd (List.mem_singleton.mp z) (Nat.ne_of_gt ltl)
  refine set_update_ints ((Walks.list (A := A1.in1) (show A1.in1.handled = none from nohd1) (s.heap.push (emptyO w)).objs.size l ne_it items).toS) s.heap.objs.size off ns many small (fun i v hv => ?_) (items.size - 0) 0 _ rfl (Nat.zero_le _)
    ⟨⟨_, Heap.get?_push_size _ rfl, rfl, rfl⟩, isl.push _⟩ ⟨0, Nat.le_refl 0, setR_new_at (Heap.get?_push_of_some _ here)⟩ ?_
  · have hi : i < ns.length := by rw [← many]; exact (Array.getElem?_eq_some_iff.mp hv).1
    obtain ⟨t, e⟩ := PyProof.Rows.IntsAre.int_at hit i v (by rw [Array.getElem?_toList]; exact hv)
    exact ⟨ns[i], t, List.getElem?_eq_getElem hi, by rw [e, List.getD_eq_getElem?_getD, List.getElem?_eq_getElem hi]; rfl⟩
  · intro t c mv hc T
    have kp := Keeps.of_new (l := l) (it := l) (h' := s.heap) mv (none_of _ (Nat.le_refl _)) (fun b hb => none_of b (by rw [List.mem_singleton.mp hb, szh]; exact Nat.le_succ _)) (fun b u e => Heap.get?_push_of_some _ (Heap.get?_push_of_some _ e))
    obtain ⟨h', g', d', tk', os'⟩ := t
    have e1 : g' = s.gens := mv.gens
    have e2 : d' = s.drawn := mv.drawn
    have e3 : os' = s.os := mv.os
    subst e1
    subst e2
    subst e3
    rw [many] at hc
    exact back h' tk' ⟨c, T, hc⟩ kp
end
end DS

set_option Elab.async false
set_option linter.all false
set_option maxRecDepth 100000
set_option maxHeartbeats 1000000
set_option autoImplicit false
namespace DS
open PySem PySem.Spec PyProof.Rows L2 PySem.W

section
variable {P : Program} {w : World} {A : Around} {E : Value → Shared → Prop} {s : Shared} {a : Addr} {L : List Row} {es : Array (Int × Value)} {ep : Nat} {tb : SetTable} {enc : Row → PyData}
/-- values that are members' places are a list of members -/
theorem rows_of : ∀ vs : List Value, (∀ v ∈ vs, ∃ r ∈ L, v = Value.ref r.1) → ∃ L1 : List Row, vs = L1.map (fun r => Value.ref r.1) ∧ ∀ r ∈ L1, r ∈ L
  | [], _ => ⟨[], rfl, fun r hr => (by cases hr)⟩
  | v :: vs, h => by
    obtain ⟨r, hr, e⟩ := h v List.mem_cons_self
    obtain ⟨L1, e1, h1⟩ := rows_of vs fun u hu => h u (List.mem_cons_of_mem _ hu)
    refine ⟨r :: L1, by rw [List.map_cons, e, e1], fun z hz => ?_⟩
    cases hz with
    | head => exact hr
    | tail _ hz => exact h1 z hz
theorem Holds.place (T : Holds w s.heap a L es ep tb) {r z : Row} (hr : r ∈ L) (hz : z ∈ L) (e : r.1 = z.1) : r = z := by
  have m1 := T.mems r hr
  have m2 := T.mems z hz
  rw [e] at m1
  exact Prod.ext e (m1.inj m2)
theorem nodup_map {α β : Type} {f : α → β} {l : List α} (h : (l.map f).Nodup) : l.Nodup := List.Pairwise.of_map f (fun _ _ ne e => ne (congrArg f e)) h
theorem Holds.perm (T : Holds w s.heap a L es ep tb) {L1 : List Row} (sub : ∀ r ∈ L1, r ∈ L) (pm : (L1.map fun r => Value.ref r.1).Perm (L.map fun r => Value.ref r.1)) : L1.Perm L := by
  have nL : L.Nodup := nodup_map T.once
  have nR : (L.map fun r => Value.ref r.1).Nodup := List.pairwise_map.mpr (List.Pairwise.imp_of_mem (fun {r z} hr hz ne e => by
    injection e with e
    exact ne (T.place hr hz e)) nL)
  have n1 : L1.Nodup := nodup_map (pm.nodup_iff.mpr nR)
  refine (List.perm_ext_iff_of_nodup n1 nL).mpr fun r => ⟨sub r, fun hr => ?_⟩
  obtain ⟨z, hz, e⟩ := List.mem_map.mp (pm.mem_iff.mpr (List.mem_map.mpr ⟨r, hr, rfl⟩))
  injection e with e
  rw [← T.place (sub z hz) hr e]
  exact hz
theorem each_rows {R : Value → Row → Prop} : ∀ l : List Row, (∀ r ∈ l, R (.ref r.1) r) → EachIs R (l.map fun r => Value.ref r.1) l
  | [], _ => .nil
  | r :: l, h => .cons (h r List.mem_cons_self) (each_rows l fun z hz => h z (List.mem_cons_of_mem _ hz))
theorem rows_each : ∀ {vs : List Value} {l : List Row}, EachIs (fun v (r : Row) => v = Value.ref r.1) vs l → vs = l.map fun r => Value.ref r.1
  | _, _, .nil => rfl
  | _, _, .cons h t => by rw [List.map_cons, ← rows_each t, h]
/-- sorted(the set) -/
theorem sortSet (T : Holds w s.heap a L es ep tb) (nohd : A.handled = none) (rd : ∀ r ∈ L, Reads s.heap (.ref r.1) (enc r) []) (hal : AllAlike (L.map enc)) (hk : Sortable (L.map enc)) (hu : ∀ r ∈ L, A.units + 2 + (enc r).depth < cLine) {Q : Value → Shared → Prop}
    (q : ∀ s' p (c : Nat) (out : Array Value) (L1 : List Row), Keeps s.heap s'.heap → s'.gens = s.gens → s'.os = s.os → s.heap.objs.size ≤ p → s'.heap.get? p = some (seqObj "list" out c) → L1.Perm L →
      out.toList = (L1.mergeSort (dataLe false enc)).map (fun r => Value.ref r.1) → Q (.ref p) s') :
    wpAny (model P w) A (call (.builtin "sorted") [.ref a]) Q E s := by
  obtain ⟨o, ho, hex, hd⟩ := T.obj
  have sz := ents_size T.ents
  have few := T.small
  refine Calls.call_function_entry kind_sorted plain_sorted entry_sorted (args_sorted1 _) ?_
  unfold Builtin.«sorted»
  refine wpAny_bind (m := checkCount "sorted" 1 1 _) (wpAny_pure ?_)
  refine wpAny_bind (collect_set (A := A.in1) nohd ⟨o, ho, hex.1, hd⟩ T.fits (by unfold scanBound; omega) T.tab.ris T.ord fun s1 vs kp hz g1 o1 pm => ?_)
  have refs : es.toList.map (·.2) = L.map fun r => Value.ref r.1 := by
    rw [T.ents, List.map_map]
    rfl
  rw [refs] at pm
  obtain ⟨L1, ev, sub⟩ := rows_of (L := L) vs fun v hv => by
    obtain ⟨r, hr, e⟩ := List.mem_map.mp (pm.mem_iff.mp hv)
    exact ⟨r, hr, e.symm⟩
  subst ev
  have pL := T.perm sub pm
  have len : L1.length = L.length := pL.length_eq
  refine wpAny_bind (wpAny_newList ?_ (by rw [List.length_map, sizeLine_eq]; omega))
  let vs := L1.map fun r => Value.ref r.1
  have top : (s1.heap.push (seqObj "list" vs.toArray 0)).get? s1.heap.objs.size = some (seqObj "list" vs.toArray 0) := Heap.get?_push_size _ rfl
  have kp2 : Keeps s.heap (s1.heap.push (seqObj "list" vs.toArray 0)) := fun b u e => Heap.get?_push_of_some _ (kp b u e)
  have inM : ∀ d ∈ L1.map enc, d ∈ L.map enc := fun d hd => by
    obtain ⟨r, hr, e⟩ := List.mem_map.mp hd
    exact List.mem_map.mpr ⟨r, sub r hr, e⟩
  have hal1 : AllAlike (L1.map enc) := fun d hd e he => hal d (inM d hd) e (inM e he)
  have hk1 : Sortable (L1.map enc) := hk.imp (fun z d hd => z d (inM d hd)) fun z d hd => z d (inM d hd)
  refine wpAny_bind (wpAny_holding (list_sort_data (s := { s1 with heap := s1.heap.push (seqObj "list" vs.toArray 0) }) (vs := vs) (bs := L1) (enc := enc) (R := fun v (r : Row) => v = Value.ref r.1) top (each_rows L1 fun r _ => rfl)
    (each_rows L1 fun r hr => ⟨[], PyProof.Rows.Reads.keeps kp2 (rd r (sub r hr)), by simp⟩) hal1 hk1 (by rw [len, sizeLine_eq]; omega) (fun r hr => by
      have z := hu r (sub r hr)
      show A.in1.units + 1 + (enc r).depth < cLine
      simp only [Around.in1_units]
      omega) fun out hlen hout => ?_))
  have eo := rows_each hout
  obtain ⟨c, hc⟩ := sortedHeap_at (vs := vs) (out := out.toArray) top
  refine wpAny_pure ⟨_, rfl, q _ s1.heap.objs.size c out.toArray L1 (fun b u e => ?_) g1 o1 hz hc pL (by simpa using eo)⟩
  have lt := Heap.lt_size (kp b u e)
  show (sortedHeap (s1.heap.push (seqObj "list" vs.toArray 0)) s1.heap.objs.size vs out.toArray).get? b = some u
  rw [sortedHeap_old (Nat.ne_of_lt lt) (by rw [Heap.size_push]; exact Nat.lt_succ_of_lt lt)]
  exact kp2 b u e
end
/-- the set, without what its members are -/
def Bare (w : World) (h : Heap) (a : Addr) (L : List Row) : Prop := ∃ (es : Array (Int × Value)) (ep : Nat) (tb : SetTable), (∃ o, h.get? a = some o ∧ o.ExactSet ∧ o.data = .set es ep tb) ∧ es.toList = L.map (line w) ∧ TabOk tb (L.map fun r => hk w r.2) ∧ (L.map (·.2)).Nodup ∧ tb.plain = true ∧
  (w.params.followText "set-order" = true ∨ tb.led = true) ∧ 5 * L.length < 3 * tb.mask ∧ L.length < 64
def SetO (w : World) (a : Addr) (L : List Row) : HO := .ext fun h => Bare w h a L
section
variable {X : Cx} {a : Addr} {L : List Row}
theorem Bare.move {w : World} {h h' : Heap} (b : Bare w h a L) (k : ∀ o, h.get? a = some o → h'.get? a = some o) : Bare w h' a L :=
  let ⟨es, ep, tb, ⟨o, e, z⟩, y⟩ := b
  ⟨es, ep, tb, ⟨o, k o e, z⟩, y⟩
theorem setO_ok {P : Program} {w : World} {H : Hp} {h : Heap} (b : Bare w h a L) : ObjOk P w H h a (SetO w a L) := by
  have ⟨_, _, _, ⟨o, e, _⟩, _⟩ := b
  exact ⟨b, ⟨o, e⟩, fun h1 h2 p k => Bare.move p k⟩
/-- set(xs), the members known from the heap -/
def rSet (X : Cx) : List V → Hp → VK → Prop := fun xs H Q => ∃ (l : Addr) (all : List Row), xs = [V.ref l] ∧ SqL X.K H l (all.map fun r => V.ref r.1) ∧ (∀ (pins : List (Addr × Obj)) (σ : L2.St) (s : Shared), L2.Inv X pins σ H s → ∀ r ∈ all, Mem s.heap r.2 r.1) ∧ all.length < 64 ∧
  ∀ a L, H a = none → (∀ r ∈ L, r ∈ all) → (∀ r ∈ all, r.2 ∈ L.map (·.2)) → (L.map (·.2)).Nodup → Q (.ref a) (upd H a (SetO X.w a L))
theorem refs_vals : ∀ {l : List Row} {us : List Value}, Vals (l.map fun r => V.ref r.1) us → us = l.map fun r => Value.ref r.1
  | [], _, .nil => rfl
  | r :: l, _, .cons e t => by
    cases e
    rw [List.map_cons, ← refs_vals t]
theorem vals_refs : ∀ l : List Row, Vals (l.map fun r => V.ref r.1) (l.map fun r => Value.ref r.1)
  | [] => .nil
  | r :: l => .cons rfl (vals_refs l)
theorem call_set (hc : X.calm = true) (hu : X.A.units + 64 < cLine) : CallR X (.type "set") (rSet X) := fun pins s σ H xs us Q I r ⟨l, all, ex, hl, hm, few, q⟩ => by
  subst ex
  rw [Vals.ref1 r]
  obtain ⟨its, rv, pl, -⟩ := I.list hl
  refine makeSet (P := X.prog) (w := X.w) all (I.ok.hd hc) pl.isList (by simpa using refs_vals rv) (hm pins σ s I) few (by omega) fun h' tk L es ep tb T p kp => ?_
  have b : Bare X.w h' s.heap.objs.size L := ⟨es, ep, tb, T.obj, T.ents, T.tab, T.once, T.pln, T.ord, T.load, T.small⟩
  exact ⟨.ref s.heap.objs.size, _, I.laid (t' := tk) kp (Nat.le_refl _) (setO_ok b), rfl, q _ L (I.hok.fresh (Nat.le_refl _)) (fun r hr => List.mem_of_mem_take (p.of r hr)) (fun r hr => p.every r (by rw [List.take_length]; exact hr)) T.once⟩
def rSorted (X : Cx) : List V → Hp → VK → Prop := fun xs H Q => ∃ (a : Addr) (L : List Row) (enc : Row → PyData), xs = [V.ref a] ∧ H a = some (SetO X.w a L) ∧
  (∀ (pins : List (Addr × Obj)) (σ : L2.St) (s : Shared), L2.Inv X pins σ H s → ∀ r ∈ L, Mem s.heap r.2 r.1 ∧ Reads s.heap (.ref r.1) (enc r) []) ∧ AllAlike (L.map enc) ∧ Sortable (L.map enc) ∧ (∀ r ∈ L, (enc r).depth ≤ 8) ∧
  ∀ (p : Addr) (L1 : List Row), H p = none → L1.Perm L → Q (.ref p) (upd H p (.lst ((L1.mergeSort (dataLe false enc)).map fun r => V.ref r.1)))
theorem call_sorted (hc : X.calm = true) (hu : X.A.units + 64 < cLine) : CallR X (.builtin "sorted") (rSorted X) := fun pins s σ H xs us Q I r ⟨a, L, enc, ex, ha, hm, hal, hk, hd, q⟩ => by
  subst ex
  rw [Vals.ref1 r]
  have b : Bare X.w s.heap a L := (I.hok a _ ha).1
  obtain ⟨es, ep, tb, ob, ents, tab, once, pln, ord, load, small⟩ := b
  have T : Holds X.w s.heap a L es ep tb := ⟨ob, ents, tab, once, fun r hr => (hm pins σ s I r hr).1, pln, ord, load, small⟩
  refine sortSet (P := X.prog) T (I.ok.hd hc) (fun r hr => (hm pins σ s I r hr).2) hal hk (fun r hr => by have z := hd r hr; omega) fun s' p c out L1 kp g o hp hg pm eo => ?_
  have hn : H p = none := I.hok.fresh hp
  have len : ((L1.mergeSort (dataLe false enc)).map fun r => V.ref r.1).length ≤ sizeLine := by
    rw [List.length_map, List.length_mergeSort, pm.length_eq, sizeLine_eq]
    omega
  have hv : Vals ((L1.mergeSort (dataLe false enc)).map fun r => V.ref r.1) out.toList := by rw [eo]; exact vals_refs _
  obtain ⟨h', g', d', tk', os'⟩ := s'
  have e1 : g' = s.gens := g
  have e2 : os' = s.os := o
  subst e1
  subst e2
  have lies : ObjOk X.prog X.w (upd H p (.lst ((L1.mergeSort (dataLe false enc)).map fun r => V.ref r.1))) h' p (.lst ((L1.mergeSort (dataLe false enc)).map fun r => V.ref r.1)) := ⟨len, out.toList, c, hv, hg⟩
  exact ⟨.ref p, _, I.call (ch := []) (t' := tk') (Un.laid kp hp hn) (I.hok.laid kp hp lies) I.bare (fun _ z => nomatch z), rfl, q p L1 hn pm⟩
end
end DS

set_option Elab.async false
set_option linter.all false
set_option maxRecDepth 100000
set_option maxHeartbeats 1000000
set_option autoImplicit false
namespace DL
open PySem PySem.Spec PyProof.Rows L2 PySem.W

/-! ### sorted(set(a list)) -/
mutual
/-- ints, and tuples of such, at most n deep -/
def D.num : Nat → D → Bool
  | _, .int _ => true
  | n + 1, .tup ds => D.nums n ds
  | _, _ => false
def D.nums : Nat → List D → Bool
  | _, [] => true
  | n, d :: ds => D.num n d && D.nums n ds
end
mutual
theorem D.nk_dp : ∀ (n : Nat) (d : D), d.num n = true → d.nk.depth ≤ n ∧ DS.plainK d.nk = true ∧ d.eqk n = true
  | n, .int i, _ => by simp [D.nk, NestedKey.depth, DS.plainK, D.eqk]
  | 0, .tup ds, h => by simp [D.num] at h
  | n + 1, .tup ds, h => by
    have z := D.nks_dp n ds (by simpa [D.num] using h)
    simp only [D.nk, NestedKey.depth, DS.plainK, D.eqk]
    exact ⟨by omega, z.2.1, z.2.2⟩
  | n, .non, h => by simp [D.num] at h
  | n, .bl _, h => by simp [D.num] at h
  | n, .str _, h => by simp [D.num] at h
  | n, .lst _, h => by simp [D.num] at h
  | n, .scr _, h => by simp [D.num] at h
  | n, .dct _, h => by simp [D.num] at h
  | n, .loc _, h => by simp [D.num] at h
  | n, .ins _ _ _, h => by simp [D.num] at h
theorem D.nks_dp : ∀ (n : Nat) (ds : List D), D.nums n ds = true → NestedKey.depthAll (D.nks ds) ≤ n ∧ DS.plainKs (D.nks ds) = true ∧ D.eqks n ds = true
  | n, [], _ => by simp [D.nks, NestedKey.depthAll, DS.plainKs, D.eqks]
  | n, d :: ds, h => by
    rw [D.nums, Bool.and_eq_true] at h
    have z1 := D.nk_dp n d h.1
    have z2 := D.nks_dp n ds h.2
    simp only [D.nks, NestedKey.depthAll, DS.plainKs, D.eqks, z1.2.1, z1.2.2, z2.2.1, z2.2.2, Bool.and_self]
    exact ⟨by omega, trivial, trivial⟩
end
mutual
theorem D.nk_inj : ∀ (n : Nat) (x y : D), x.num n = true → y.num n = true → x.nk = y.nk → x = y
  | n, .int i, y, _, hy, e => by
    cases y with
    | int j => simp only [D.nk, NestedKey.num.injEq] at e; rw [e]
    | tup ds => simp [D.nk] at e
    | _ => simp [D.num] at hy
  | 0, .tup ds, _, h, _, _ => by simp [D.num] at h
  | n + 1, .tup ds, y, hx, hy, e => by
    cases y with
    | int j => simp [D.nk] at e
    | tup es =>
      simp only [D.nk, NestedKey.tup.injEq] at e
      rw [D.nks_inj n ds es (by simpa [D.num] using hx) (by simpa [D.num] using hy) e]
    | _ => simp [D.num] at hy
  | n, .non, _, h, _, _ => by simp [D.num] at h
  | n, .bl _, _, h, _, _ => by simp [D.num] at h
  | n, .str _, _, h, _, _ => by simp [D.num] at h
  | n, .lst _, _, h, _, _ => by simp [D.num] at h
  | n, .scr _, _, h, _, _ => by simp [D.num] at h
  | n, .dct _, _, h, _, _ => by simp [D.num] at h
  | n, .loc _, _, h, _, _ => by simp [D.num] at h
  | n, .ins _ _ _, _, h, _, _ => by simp [D.num] at h
theorem D.nks_inj : ∀ (n : Nat) (x y : List D), D.nums n x = true → D.nums n y = true → D.nks x = D.nks y → x = y
  | n, [], [], _, _, _ => rfl
  | n, [], _ :: _, _, _, e => by simp [D.nks] at e
  | n, _ :: _, [], _, _, e => by simp [D.nks] at e
  | n, x :: xs, y :: ys, hx, hy, e => by
    simp only [D.nks, List.cons.injEq] at e
    rw [D.nums, Bool.and_eq_true] at hx hy
    rw [D.nk_inj n x y hx.1 hy.1 e.1, D.nks_inj n xs ys hx.2 hy.2 e.2]
end
section
variable {X : Cx} {cl : Nat → Addr} {g : G} {pins : List (Addr × Obj)} {σ : L2.St} {H : Hp} {s : Shared}
mutual
theorem Rp.key (I : L2.Inv X pins σ H s) (sub : Same g.F H) : ∀ (n : Nat) (d : D) (v : V) (u : Value), d.num n = true → Rp X.K cl g d v → RelV v u → NestedIs s.heap d.nk u ∧ Reads s.heap u d.py []
  | n, .int i, _, u, _, r, e => by
    cases r
    obtain ⟨t, rfl⟩ := e
    exact ⟨.int i t, .int i t⟩
  | 0, .tup ds, _, _, h, _, _ => by simp [D.num] at h
  | n + 1, .tup ds, _, u, h, r, e => by
    cases r with
    | @tup a _ vs h1 h2 =>
      cases e
      obtain ⟨its, rv, ⟨o, ho, hc, m, hd⟩, _⟩ := I.tuple (DL.Same.seqT sub h1)
      have z := RpL.keys I sub n ds vs its (by simpa [D.num] using h) h2 rv
      exact ⟨.tup ho hc hd (by simpa using z.1), .tuple ho hc hd (by simpa using z.2)⟩
  | n, .non, _, _, h, _, _ => by simp [D.num] at h
  | n, .bl _, _, _, h, _, _ => by simp [D.num] at h
  | n, .str _, _, _, h, _, _ => by simp [D.num] at h
  | n, .lst _, _, _, h, _, _ => by simp [D.num] at h
  | n, .scr _, _, _, h, _, _ => by simp [D.num] at h
  | n, .dct _, _, _, h, _, _ => by simp [D.num] at h
  | n, .loc _, _, _, h, _, _ => by simp [D.num] at h
  | n, .ins _ _ _, _, _, h, _, _ => by simp [D.num] at h
theorem RpL.keys (I : L2.Inv X pins σ H s) (sub : Same g.F H) : ∀ (n : Nat) (ds : List D) (vs : List V) (us : List Value), D.nums n ds = true → RpL X.K cl g ds vs → Vals vs us → NestedAll s.heap (D.nks ds) us ∧ ReadsAll s.heap us (D.pys ds) []
  | n, [], _, _, _, r, e => by
    cases r
    cases e
    exact ⟨.nil, .nil⟩
  | n, d :: ds, _, _, h, r, e => by
    rw [D.nums, Bool.and_eq_true] at h
    cases r with
    | cons r1 r2 =>
      cases e with
      | cons e1 e2 =>
        have z1 := Rp.key I sub n d _ _ h.1 r1 e1
        have z2 := RpL.keys I sub n ds _ _ h.2 r2 e2
        exact ⟨.cons z1.1 z2.1, ReadsAll.cons z1.2 z2.2⟩
end
end

/-! the order -/
def dle (a b : D) : Bool := dataLe false D.py a b
def dd : List D → List D
  | [] => []
  | d :: ds => if d ∈ dd ds then dd ds else d :: dd ds
theorem mem_dd {x : D} : ∀ {ds : List D}, x ∈ dd ds ↔ x ∈ ds
  | [] => Iff.rfl
  | d :: ds => by
    have ih := mem_dd (x := x) (ds := ds)
    unfold dd
    split
    · rename_i h
      rw [ih, List.mem_cons]
      exact ⟨.inr, fun z => z.elim (fun e => e ▸ mem_dd.mp h) id⟩
    · rw [List.mem_cons, List.mem_cons, ih]
theorem dd_nodup : ∀ ds : List D, (dd ds).Nodup
  | [] => List.nodup_nil
  | d :: ds => by
    unfold dd
    split
    · exact dd_nodup ds
    · rename_i h
      exact List.nodup_cons.mpr ⟨h, dd_nodup ds⟩
theorem dd_len : ∀ ds : List D, (dd ds).length ≤ ds.length
  | [] => Nat.le_refl _
  | d :: ds => by
    have ih := dd_len ds
    unfold dd
    split
    · exact Nat.le_succ_of_le ih
    · exact Nat.succ_le_succ ih
def sortD (ds : List D) : List D := (dd ds).mergeSort dle
theorem dle_eq (a b : D) : dle a b = !dataLt b.py a.py := rfl
/-- alike data that are in order both ways are the same -/
theorem dle_anti {n : Nat} {x y : D} (hx : x.eqk n = true) (hy : y.eqk n = true) (al : alike x.py y.py = true) (h1 : dle x y = true) (h2 : dle y x = true) : x = y := by
  rw [dle_eq, Bool.not_eq_true'] at h1 h2
  have e : keyToks x.py = keyToks y.py := lex_total _ _ h2 h1
  have z := D.eqv n n x y hx hy
  cases hv : PyData.eqv x.py y.py with
  | true =>
    rw [hv] at z
    exact (D.beq_iff x y).mp z.symm
  | false =>
    have q := (toks_eqv _ _ al).2 hv [] [.inl 0]
    rw [e, lex_pre] at q
    have q1 : lexLt itemOrd (keyToks y.py) (keyToks y.py) = false := lex_irrefl _
    rw [q1] at q
    exact absurd q (by decide)
theorem sorted_same : ∀ {l m : List D}, (∀ x ∈ l, ∀ y ∈ l, dle x y = true → dle y x = true → x = y) → l.Perm m → l.Pairwise (fun a b => dle a b = true) → m.Pairwise (fun a b => dle a b = true) → l = m
  | [], m, _, p, _, _ => (List.Perm.nil_eq p)
  | a :: l, [], _, p, _, _ => (List.Perm.eq_nil p)
  | a :: l, b :: m, anti, p, h1, h2 => by
    rw [List.pairwise_cons] at h1 h2
    have e : a = b := by
      by_cases hab : a = b
      · exact hab
      · have ha : a ∈ m := (List.mem_cons.mp (p.mem_iff.mp List.mem_cons_self)).resolve_left hab
        have hb : b ∈ l := (List.mem_cons.mp (p.mem_iff.mpr List.mem_cons_self)).resolve_left (Ne.symm hab)
        exact anti a List.mem_cons_self b (List.mem_cons_of_mem _ hb) (h1.1 b hb) (h2.1 a ha)
    subst e
    rw [sorted_same (fun x hx y hy => anti x (List.mem_cons_of_mem _ hx) y (List.mem_cons_of_mem _ hy)) ((List.perm_cons a).mp p) h1.2 h2.2]
/-- what may be put into a set and be sorted -/
def setOk (ds : List D) : Bool := decide (ds.length < 60) && ((dInts ds).isSome || (ds.all (D.num 8) && ds.all (fun d => match d with
  | .tup (_ :: _) => true
  | _ => false) && ds.all fun d => ds.all fun e => alike d.py e.py))
def mSortSet (mb : ML) : MO := fun env S => (mb env S).bind fun k S1 => match ctL env S1 k with
  | some (.l ds) => if setOk ds = true then .ok (sortD ds, S1) else .bad
  | _ => .bad
theorem sort_pw (l : List D) : (l.mergeSort dle).Pairwise (fun a b => dle a b = true) := sort_pairwise (sortLe_total (listOrd itemOrd) false fun b : D => keyToks b.py) l
theorem sortD_of {n : Nat} {ds l : List D} (hn : ∀ x ∈ l, x.eqk n = true) (al : ∀ x ∈ l, ∀ y ∈ l, alike x.py y.py = true) (nd : l.Nodup) (mem : ∀ x, x ∈ l ↔ x ∈ ds) (pw : l.Pairwise (fun a b => dle a b = true)) : l = sortD ds :=
  sorted_same (fun x hx y hy h1 h2 => dle_anti (hn x hx) (hn y hy) (al x hx y hy) h1 h2)
    (((List.perm_ext_iff_of_nodup nd (dd_nodup ds)).mpr fun x => (mem x).trans mem_dd.symm).trans (List.mergeSort_perm _ _).symm) pw (sort_pw _)
end DL

set_option Elab.async false
set_option linter.all false
set_option maxRecDepth 100000
set_option maxHeartbeats 1000000
set_option autoImplicit false
namespace DL
open PySem PySem.Spec PyProof.Rows L2 PySem.W

mutual
def D.ofK : NestedKey → D
  | .none => .non
  | .num i => .int i
  | .text x => .str x
  | .tup ks => .tup (D.ofKs ks)
def D.ofKs : List NestedKey → List D
  | [] => []
  | k :: ks => D.ofK k :: D.ofKs ks
end
mutual
theorem D.of_nk : ∀ (n : Nat) (d : D), d.num n = true → D.ofK d.nk = d ∧ d.nk.data = d.py
  | n, .int i, _ => by simp [D.nk, D.ofK, NestedKey.data, D.py]
  | 0, .tup ds, h => by simp [D.num] at h
  | n + 1, .tup ds, h => by
    have z := D.of_nks n ds (by simpa [D.num] using h)
    simp only [D.nk, D.ofK, NestedKey.data, D.py, z.1, z.2, and_self]
  | n, .non, h => by simp [D.num] at h
  | n, .bl _, h => by simp [D.num] at h
  | n, .str _, h => by simp [D.num] at h
  | n, .lst _, h => by simp [D.num] at h
  | n, .scr _, h => by simp [D.num] at h
  | n, .dct _, h => by simp [D.num] at h
  | n, .loc _, h => by simp [D.num] at h
  | n, .ins _ _ _, h => by simp [D.num] at h
theorem D.of_nks : ∀ (n : Nat) (ds : List D), D.nums n ds = true → D.ofKs (D.nks ds) = ds ∧ NestedKey.datas (D.nks ds) = D.pys ds
  | n, [], _ => by simp [D.nks, D.ofKs, NestedKey.datas, D.pys]
  | n, d :: ds, h => by
    rw [D.nums, Bool.and_eq_true] at h
    have z1 := D.of_nk n d h.1
    have z2 := D.of_nks n ds h.2
    simp only [D.nks, D.ofKs, NestedKey.datas, D.pys, z1.1, z1.2, z2.1, z2.2, and_self]
end
section
variable {X : Cx}
def rSetI (K : PySem.W.Frag) (w : World) : List V → Hp → VK → Prop := fun xs H Q => ∃ (l : Addr) (ns : List Int), xs = [V.ref l] ∧ SqL K H l (ns.map V.int) ∧ ns.length < 64 ∧ ∀ a c, H a = none → c ≤ ns.length → Q (.ref a) (upd H a (L2.SetO w a (fun j => decide (j ∈ ns)) c))
theorem call_setI (hc : X.calm = true) : CallR X (.type "set") (rSetI X.K X.w) := fun pins s σ H xs us Q I r ⟨l, ns, ex, hl, few, q⟩ => by
  subst ex
  rw [Vals.ref1 r]
  obtain ⟨its, rv, pl, -⟩ := I.list hl
  refine DS.makeInts (P := X.prog) (w := X.w) ns (I.ok.hd hc) pl.isList (by simpa using rv.ints) (by unfold scanBound; omega) fun h' tk c R hc2 kp => ?_
  exact ⟨.ref s.heap.objs.size, _, I.laid (t' := tk) kp (Nat.le_refl _) (setO_new R), rfl, q _ c (I.hok.fresh (Nat.le_refl _)) hc2⟩
theorem tups_rows {K : PySem.W.Frag} {cl : Nat → Addr} {g : G} : ∀ {ds : List D} {vs : List V}, RpL K cl g ds vs → (∀ d ∈ ds, ∃ y ys, d = D.tup (y :: ys)) → ∃ rs : List (Addr × D), vs = rs.map (fun r => V.ref r.1) ∧ ds = rs.map (·.2) ∧ ∀ r ∈ rs, Rp K cl g r.2 (.ref r.1)
  | [], _, .nil, _ => ⟨[], rfl, rfl, fun r hr => (by cases hr)⟩
  | d :: ds, _, .cons r1 r2, h => by
    obtain ⟨rs, e1, e2, e3⟩ := tups_rows r2 fun z hz => h z (List.mem_cons_of_mem _ hz)
    obtain ⟨y, ys, rfl⟩ := h d List.mem_cons_self
    cases r1 with
    | @tup a _ us k1 k2 =>
      refine ⟨(a, .tup (y :: ys)) :: rs, by rw [List.map_cons, e1], by rw [List.map_cons, e2], fun r hr => ?_⟩
      cases hr with
      | head => exact .tup k1 k2
      | tail _ hr => exact e3 r hr
theorem rows_rp {K : PySem.W.Frag} {cl : Nat → Addr} {g : G} : ∀ {l : List DS.Row}, (∀ r ∈ l, Rp K cl g (D.ofK r.2) (.ref r.1)) → RpL K cl g (l.map fun r => D.ofK r.2) (l.map fun r => V.ref r.1)
  | [], _ => .nil
  | r :: l, h => .cons (h r List.mem_cons_self) (rows_rp fun z hz => h z (List.mem_cons_of_mem _ hz))
theorem ints_alike {ns : List Int} : ∀ x ∈ ns.map D.int, ∀ y ∈ ns.map D.int, alike x.py y.py = true := fun x hx y hy => by
  obtain ⟨i, _, rfl⟩ := List.mem_map.mp hx
  obtain ⟨j, _, rfl⟩ := List.mem_map.mp hy
  rfl
theorem dle_int (i j : Int) : dle (.int i) (.int j) = decide (i ≤ j) := by
  rw [dle_eq]
  show (!dataLt (.int j) (.int i)) = _
  rw [dataLt_int]
  by_cases h : i ≤ j
  · simp [h, Int.not_lt.mpr h]
  · simp [h, Int.not_le.mp h]
theorem sortD_ints {ns ms : List Int} (pw : ms.Pairwise (· < ·)) (mem : ∀ k, k ∈ ms ↔ k ∈ ns) : ms.map D.int = sortD (ns.map D.int) := by
  refine sortD_of (n := 1) (fun x hx => ?_) ints_alike ?_ (fun x => ?_) ?_
  · obtain ⟨i, _, rfl⟩ := List.mem_map.mp hx
    rfl
  · exact List.pairwise_map.mpr (pw.imp fun h e => by
      injection e with e
      omega)
  · rw [List.mem_map, List.mem_map]
    exact ⟨fun ⟨i, hi, e⟩ => ⟨i, (mem i).mp hi, e⟩, fun ⟨i, hi, e⟩ => ⟨i, (mem i).mpr hi, e⟩⟩
  · exact List.pairwise_map.mpr (pw.imp fun h => by
      rw [dle_int]
      exact decide_eq_true (by omega))
end
section
variable {X : Cx} {cl : Nat → Addr} {W : WX} {p p2 pos pos2 : Pos} {e : Expr} {mb : ML}
theorem set_case {g1 : G} {env : Env} {S1 : Store} {σ : L2.St} {H1 : Hp} {Q : VK} {a : Addr} {vs : List V} {ds : List D} (R1 : Rel X.K cl g1 env S1 σ H1) (hH : H1 a = some (.lst vs)) (rp : RpL X.K cl g1 ds vs) (ok : setOk ds = true) (q1 : okO X.K cl g1 env σ Q (sortD ds, S1)) :
    (fun xs H Q => DS.rSet X xs H Q ∨ rSetI X.K X.w xs H Q) [V.ref a] H1 fun x H2 => (fun xs H Q => DS.rSorted X xs H Q ∨ rSortedSet X.w xs H Q) [x] H2 Q := by
  unfold setOk at ok
  rw [Bool.and_eq_true, decide_eq_true_eq, Bool.or_eq_true] at ok
  obtain ⟨few, ok⟩ := ok
  cases hi : dInts ds with
  | some ns =>
    have ed := dInts_eq hi
    subst ed
    have ev := RpL.ints rp
    subst ev
    rw [List.length_map] at few
    refine .inr ⟨a, ns, rfl, SqL.of hH, by omega, fun b c hb hc => .inr ⟨b, _, c, rfl, upd_same, by omega, fun ms t pw mem len ht => ?_⟩⟩
    have R2 := R1.new (o := L2.SetO X.w b (fun j => decide (j ∈ ns)) c) hb
    obtain ⟨R3, f3⟩ := fresh_new (ds := ms.map D.int) (vs := ms.map V.int) R2 (RpL.ofInts ms) ht
    have es : ms.map D.int = sortD (ns.map D.int) := sortD_ints pw fun k => by rw [mem k]; exact decide_eq_true_iff
    rw [← es] at q1
    exact q1 g1 _ t _ (G.le.refl _) R3 f3
  | none =>
    rw [hi] at ok
    have ok2 := ok.resolve_left (by simp)
    rw [Bool.and_eq_true, Bool.and_eq_true, List.all_eq_true, List.all_eq_true, List.all_eq_true] at ok2
    obtain ⟨⟨num, tup⟩, al⟩ := ok2
    have tup' : ∀ d ∈ ds, ∃ y ys, d = D.tup (y :: ys) := fun d hd => by
      have z := tup d hd
      cases d with
      | tup l =>
        cases l with
        | nil => cases z
        | cons y ys => exact ⟨y, ys, rfl⟩
      | _ => cases z
    have al' : ∀ x ∈ ds, ∀ y ∈ ds, alike x.py y.py = true := fun x hx y hy => (List.all_eq_true.mp (al x hx)) y hy
    obtain ⟨rs, ev, ed, rr⟩ := tups_rows rp tup'
    have inDs : ∀ r ∈ rs, r.2 ∈ ds := fun r hr => by rw [ed]; exact List.mem_map.mpr ⟨r, hr, rfl⟩
    have many : rs.length = ds.length := by rw [ed, List.length_map]
    have mems : ∀ (F : Hp) (hs : Same g1.F F) (pins : List (Addr × Obj)) (σ' : L2.St) (s : Shared), L2.Inv X pins σ' F s → ∀ r ∈ rs, DS.Mem s.heap r.2.nk r.1 ∧ Reads s.heap (.ref r.1) r.2.nk.data [] := fun F hs pins σ' s I r hr => by
      have nm := num _ (inDs r hr)
      have z := Rp.key I hs 8 r.2 _ _ nm (rr r hr) rfl
      have y := D.nk_dp 8 r.2 nm
      rw [(D.of_nk 8 r.2 nm).2]
      exact ⟨⟨z.1, y.1, y.2.1⟩, z.2⟩
    refine .inl ⟨a, rs.map fun r => (r.1, r.2.nk), rfl, ?_, fun pins σ' s I r hr => ?_, by rw [List.length_map]; omega, fun b L hb sub all once => .inl ⟨b, L, fun r => r.2.data, rfl, upd_same, fun pins σ' s I r hr => ?_, ?_, ?_, fun r hr => ?_, fun t L1 ht pm => ?_⟩⟩
    · rw [List.map_map]
      refine SqL.of ?_
      rw [hH, ev]
      rfl
    · obtain ⟨z, hz, rfl⟩ := List.mem_map.mp hr
      exact (mems H1 R1.sub pins σ' s I z hz).1
    · obtain ⟨z, hz, rfl⟩ := List.mem_map.mp (sub r hr)
      exact mems _ (R1.new hb).sub pins σ' s I z hz
    · intro d hd d' hd'
      obtain ⟨r, hr, rfl⟩ := List.mem_map.mp hd
      obtain ⟨r', hr', rfl⟩ := List.mem_map.mp hd'
      obtain ⟨z, hz, rfl⟩ := List.mem_map.mp (sub r hr)
      obtain ⟨z', hz', rfl⟩ := List.mem_map.mp (sub r' hr')
      show alike z.2.nk.data z'.2.nk.data = true
      rw [(D.of_nk 8 _ (num _ (inDs z hz))).2, (D.of_nk 8 _ (num _ (inDs z' hz'))).2]
      exact al' _ (inDs z hz) _ (inDs z' hz')
    · refine .inl fun d hd => ?_
      obtain ⟨r, hr, rfl⟩ := List.mem_map.mp hd
      obtain ⟨z, hz, rfl⟩ := List.mem_map.mp (sub r hr)
      show ∃ x l, z.2.nk.data = .tuple (x :: l)
      rw [(D.of_nk 8 _ (num _ (inDs z hz))).2]
      obtain ⟨y, ys, e⟩ := tup' _ (inDs z hz)
      rw [e]
      exact ⟨y.py, D.pys ys, by simp [D.py, D.pys]⟩
    · obtain ⟨z, hz, rfl⟩ := List.mem_map.mp (sub r hr)
      show z.2.nk.data.depth ≤ 8
      rw [(D.of_nk 8 _ (num _ (inDs z hz))).2]
      exact (D.lay 8 _ (D.nk_dp 8 _ (num _ (inDs z hz))).2.2).2
    · have R2 := R1.new (o := DS.SetO X.w b L) hb
      have mem1 : ∀ r ∈ L1.mergeSort (dataLe false fun r : DS.Row => r.2.data), ∃ z ∈ rs, r = (z.1, z.2.nk) := fun r hr => by
        have h1 : r ∈ L := pm.mem_iff.mp (List.mem_mergeSort.mp hr)
        obtain ⟨z, hz, e⟩ := List.mem_map.mp (sub r h1)
        exact ⟨z, hz, e.symm⟩
      have back : ∀ z ∈ rs, D.ofK z.2.nk = z.2 := fun z hz => (D.of_nk 8 _ (num _ (inDs z hz))).1
      obtain ⟨R3, f3⟩ := fresh_new R2 (rows_rp (l := L1.mergeSort (dataLe false fun r : DS.Row => r.2.data)) fun r hr => by
        obtain ⟨z, hz, rfl⟩ := mem1 r hr
        show Rp X.K cl g1 (D.ofK z.2.nk) (.ref z.1)
        rw [back z hz]
        exact rr z hz) ht
      have es : (L1.mergeSort (dataLe false fun r : DS.Row => r.2.data)).map (fun r => D.ofK r.2) = sortD ds := by
        refine sortD_of (n := 8) (fun x hx => ?_) (fun x hx y hy => ?_) ?_ (fun x => ⟨fun hx => ?_, fun hx => ?_⟩) ?_
        · obtain ⟨r, hr, rfl⟩ := List.mem_map.mp hx
          obtain ⟨z, hz, rfl⟩ := mem1 r hr
          show (D.ofK z.2.nk).eqk 8 = true
          rw [back z hz]
          exact (D.nk_dp 8 _ (num _ (inDs z hz))).2.2
        · obtain ⟨r, hr, rfl⟩ := List.mem_map.mp hx
          obtain ⟨z, hz, rfl⟩ := mem1 r hr
          obtain ⟨r', hr', rfl⟩ := List.mem_map.mp hy
          obtain ⟨z', hz', rfl⟩ := mem1 r' hr'
          show alike (D.ofK z.2.nk).py (D.ofK z'.2.nk).py = true
          rw [back z hz, back z' hz']
          exact al' _ (inDs z hz) _ (inDs z' hz')
        · have nd1 : ((L1.mergeSort (dataLe false fun r : DS.Row => r.2.data)).map (·.2)).Nodup := (((List.mergeSort_perm L1 _).trans pm).map (·.2)).nodup_iff.mpr once
          refine List.pairwise_map.mpr (List.Pairwise.imp_of_mem (fun {r r'} hr hr' ne e => ?_) (List.pairwise_map.mp nd1))
          obtain ⟨z, hz, rfl⟩ := mem1 r hr
          obtain ⟨z', hz', rfl⟩ := mem1 r' hr'
          have e' : D.ofK z.2.nk = D.ofK z'.2.nk := e
          rw [back z hz, back z' hz'] at e'
          exact ne (congrArg D.nk e')
        · obtain ⟨r, hr, rfl⟩ := List.mem_map.mp hx
          obtain ⟨z, hz, rfl⟩ := mem1 r hr
          show D.ofK z.2.nk ∈ ds
          rw [back z hz]
          exact inDs z hz
        · rw [ed] at hx
          obtain ⟨z, hz, rfl⟩ := List.mem_map.mp hx
          obtain ⟨r, hr, e⟩ := List.mem_map.mp (all (z.1, z.2.nk) (List.mem_map.mpr ⟨z, hz, rfl⟩))
          have hr1 : r ∈ L1.mergeSort (dataLe false fun r : DS.Row => r.2.data) := List.mem_mergeSort.mpr (pm.mem_iff.mpr hr)
          refine List.mem_map.mpr ⟨r, hr1, ?_⟩
          have e' : r.2 = z.2.nk := e
          rw [e', back z hz]
        · have pw := sort_pairwise (sortLe_total (listOrd itemOrd) false fun r : DS.Row => keyToks r.2.data) L1
          refine List.pairwise_map.mpr (List.Pairwise.imp_of_mem (fun {r r'} hr hr' h => ?_) pw)
          obtain ⟨z, hz, rfl⟩ := mem1 r hr
          obtain ⟨z', hz', rfl⟩ := mem1 r' hr'
          show dle (D.ofK z.2.nk) (D.ofK z'.2.nk) = true
          rw [back z hz, back z' hz']
          have h' : (!dataLt z'.2.nk.data z.2.nk.data) = true := h
          rw [(D.of_nk 8 _ (num _ (inDs z hz))).2, (D.of_nk 8 _ (num _ (inDs z' hz'))).2] at h'
          exact h'
      rw [← es] at q1
      exact q1 g1 _ t _ (G.le.refl _) R3 f3
theorem ro_sortSet (hc : X.calm = true) (hu : X.A.units + 65 < cLine) (hg : Gl X "sorted") (hm : X.mg "sorted" = none) (hg2 : Gl X "set") (hm2 : X.mg "set" = none) (he : RB X cl W e mb)
    (h1 : starEach [e] X.env = (false, eval e X.env) :: starEach [] X.env := by rfl) (h2 : starEach [.Call (.Name "set" p2) [e] [] pos2] X.env = (false, eval (.Call (.Name "set" p2) [e] [] pos2) X.env) :: starEach [] X.env := by rfl) :
    RO X cl W (.Call (.Name "sorted" p) [.Call (.Name "set" p2) [e] [] pos2] [] pos) (mSortSet mb) :=
  peW (pe_callB ((DS.call_sorted hc (by omega)).or (cr_sortedSet hc)) hg hm (by decide +kernel) (pa_cons (pe_callTy ((DS.call_set hc (by omega)).or (call_setI hc)) hg2 hm2 (by decide +kernel) (pa_cons he pa_nil h1) (by decide) (by decide) h1 rfl) pa_nil h2) (by decide) (by decide) h2 rfl) fun σ H Q ⟨g, env, S, R, q⟩ => by
    show upB X.K cl W mb σ H _
    refine upB.imp (bindB R q) fun v H1 ⟨g1, S1, k, l1, R1, r1, q0⟩ => ?_
    have q1 := poO q0 l1
    clear q0
    split at q1
    · rename_i ds ec
      split at q1
      · rename_i ok
        obtain ⟨a, vs, rfl, hH, rp⟩ := ct_late R1 r1 ec
        exact set_case R1 hH rp ok q1
      · exact q1.elim
    · exact q1.elim
end
end DL

set_option Elab.async false
set_option linter.all false
set_option maxRecDepth 100000
set_option maxHeartbeats 1000000
set_option autoImplicit false
namespace DL
open PySem PySem.Spec PyProof.Rows L2

/-! ### isinstance(x, C), C a class of the text -/
structure ClsI (K : PySem.W.Frag) (C : Addr) : Prop where
  cls : Cls K C
  at_ : PySem.W.findIn K (.ref C) "__class__" = some (some (.builtin "object.__class__"))
  gt : PySem.W.specialIn K (.builtin "object.__class__") "__get__" = some (some (.builtin "getset_descriptor.__get__"))
  tk : PySem.W.takesIn K (.builtin "object.__class__") = some true
  mro : PySem.W.mroIn K C (.type "object") = some true
  kit : PySem.W.kitOne K (.ref C) (.ref C) = some true
def mIsC (c : Nat) (m : ME) : ME := fun env S => (m env S).bind fun d S1 => match d with
  | .ins c' _ _ => if c' = c then .ok (.bl true, S1) else .bad
  | _ => .bad
section
variable {X : Cx} {cl : Nat → Addr} {W : WX} {pos p p2 : Pos} {a b : Expr} {m n : ME} {ma mb : ML}
theorem pe_clsName {x : Str} {C : Addr} (hg : Gl X x) (hm : X.mg x = some (.ref C)) (hdb : (x == ("__debug__" : Str)) = false := by decide) : PE X (.Name x p) (tC (.ref C)) :=
  ⟨fun pins s σ H Q I q => ld_glob I hg hm ⟨.ref C, H, I, rfl, q⟩ hdb⟩
theorem re_isC (c : Nat) {x : Str} (F : ClsI X.K (cl c)) (hi : Gl X "isinstance") (hmi : X.mg "isinstance" = none) (hg : Gl X x) (hm : X.mg x = some (.ref (cl c))) (h : RE X cl W a m)
    (hs : starEach [a, .Name x p] X.env = (false, eval a X.env) :: starEach [.Name x p] X.env := by rfl) (hs2 : starEach [.Name x p] X.env = (false, eval (.Name x p) X.env) :: starEach [] X.env := by rfl) (hpl : (backTo pos (starEach [.Name x p] X.env)).any (·.1) = false := by rfl)
    (hdb : (x == ("__debug__" : Str)) = false := by decide) : RE X cl W (.Call (.Name "isinstance" p2) [a, .Name x p] [] pos) (mIsC c m) :=
  peW (pe_callB call_isi hi hmi (by rfl) (pa_cons h (pa_cons (pe_clsName hg hm hdb) pa_nil hs2) hs) (by decide) (by decide) hs hpl) fun σ H Q ⟨g, env, S, R, q⟩ => upE.imp (bindE R q) fun v H1 ⟨g1, S1, d, l, R1, r1, q0⟩ => by
    have q1 := poE q0 l
    clear q0
    show rIsi X.K [v, .ref (cl c)] H1 Q
    cases d with
    | ins c' ks ds =>
      dsimp only at q1
      split at q1
      · rename_i hcc
        subst hcc
        cases r1 with
        | @ins _ _ _ i dx vs h1 h2 h3 =>
          exact ⟨_, _, _, _, true, rfl, .own (cl c'), .base (.ins (R1.sub _ _ h1) F.cls F.at_ F.gt F.tk F.mro), F.kit, q1 g1 H1 _ (G.le.refl _) R1 (.bl true)⟩
      · exact q1.elim
    | _ => exact q1.elim

/-! ### == of lists by what they hold -/
def eqCt (a b : Ct) : Option Bool := match a, b with
  | .l xs, .l ys => if D.eqks 63 xs = true ∧ D.eqks 63 ys = true then some (decide (xs = ys)) else none
  | .t xs, .t ys => if D.eqks 63 xs = true ∧ D.eqks 63 ys = true then some (decide (xs = ys)) else none
  | _, _ => none
def mEqL (neg : Bool) (ma mb : ML) : MT := fun env S => (ma env S).bind fun k S1 => (mb env S1).bind fun l S2 => match (ctL env S2 k).bind fun x => (ctL env S2 l).bind fun y => eqCt x y with
  | some b => .ok (b != neg, S2)
  | none => .bad
theorem eqCt_dp {K : PySem.W.Frag} {g : G} {H : Hp} {x y : Ct} {v u : V} {k : Bool} (sub : Same g.F H) (r1 : CtR K cl g H x v) (r2 : CtR K cl g H y u) (e : eqCt x y = some k) :
    ∃ d d', Dp K H v d ∧ Dp K H u d' ∧ SeqAt.shaped d = true ∧ SeqAt.shaped d' = true ∧ PyData.eqv d d' = k := by
  unfold eqCt at e
  split at e
  · rename_i xs ys
    split at e
    · rename_i hz
      cases e
      obtain ⟨a, vs, rfl, h1, q1⟩ := r1
      obtain ⟨b, us, rfl, h2, q2⟩ := r2
      have sx : (D.lst xs).eqk 64 = true := hz.1
      have sy : (D.lst ys).eqk 64 = true := hz.2
      refine ⟨.list (D.pys xs), .list (D.pys ys), .lst (SqL.of h1) (RpL.dp sub 63 _ _ hz.1 q1), .lst (SqL.of h2) (RpL.dp sub 63 _ _ hz.2 q2), D.shaped sx (Nat.le_refl _), D.shaped sy (Nat.le_refl _), ?_⟩
      have z := D.eqv 64 64 (.lst xs) (.lst ys) sx sy
      rw [D.beq_dec] at z
      exact z.trans (by simp)
    · cases e
  · rename_i xs ys
    split at e
    · rename_i hz
      cases e
      obtain ⟨a, vs, rfl, h1, q1⟩ := r1
      obtain ⟨b, us, rfl, h2, q2⟩ := r2
      have sx : (D.tup xs).eqk 64 = true := hz.1
      have sy : (D.tup ys).eqk 64 = true := hz.2
      refine ⟨.tuple (D.pys xs), .tuple (D.pys ys), .tup h1 (RpL.dp sub 63 _ _ hz.1 q1), .tup h2 (RpL.dp sub 63 _ _ hz.2 q2), D.shaped sx (Nat.le_refl _), D.shaped sy (Nat.le_refl _), ?_⟩
      have z := D.eqv 64 64 (.tup xs) (.tup ys) sx sy
      rw [D.beq_dec] at z
      exact z.trans (by simp)
    · cases e
  · cases e
theorem rt_eqL (hu : X.A.units + 65 < cLine) (ha : RB X cl W a ma) (hb : RB X cl W b mb) : RT X cl W (.Compare a [.Eq] [b] pos) (mEqL false ma mb) :=
  ptW (pt_cmpR (op_eqD (Nat.lt_of_succ_lt hu)) ha hb (nomark _)) fun σ H Q ⟨g, env, S, R, q⟩ => upB.imp (bindB R q) fun v H1 ⟨g1, S1, k, l1, R1, r1, q1⟩ => upB.imp (bindB R1 (poT q1 l1)) fun u H2 ⟨g2, S2, l, l2, R2, r2, q2⟩ => by
    have q3 := poT q2 l2
    split at q3
    · rename_i b' eb
      obtain ⟨x, e1, e2⟩ := Option.bind_eq_some_iff.mp eb
      obtain ⟨y, e3, e4⟩ := Option.bind_eq_some_iff.mp e2
      obtain ⟨d, d', h1, h2, h3, h4, h5⟩ := eqCt_dp R2.sub (ct_late R2 (LkR.up l2 r1) e1) (ct_late R2 r2 e3) e4
      refine ⟨d, d', h1, h2, h3, h4, _, rfl, ?_⟩
      rw [h5]
      have q4 := q3 g2 H2 (G.le.refl _) R2
      cases b' <;> exact q4
    · exact q3.elim
theorem rt_neL (hu : X.A.units + 65 < cLine) (ha : RB X cl W a ma) (hb : RB X cl W b mb) : RT X cl W (.Compare a [.NotEq] [b] pos) (mEqL true ma mb) :=
  ptW (pt_cmpR (op_neD (Nat.lt_of_succ_lt hu)) ha hb (nomark _)) fun σ H Q ⟨g, env, S, R, q⟩ => upB.imp (bindB R q) fun v H1 ⟨g1, S1, k, l1, R1, r1, q1⟩ => upB.imp (bindB R1 (poT q1 l1)) fun u H2 ⟨g2, S2, l, l2, R2, r2, q2⟩ => by
    have q3 := poT q2 l2
    split at q3
    · rename_i b' eb
      obtain ⟨x, e1, e2⟩ := Option.bind_eq_some_iff.mp eb
      obtain ⟨y, e3, e4⟩ := Option.bind_eq_some_iff.mp e2
      obtain ⟨d, d', h1, h2, h3, h4, h5⟩ := eqCt_dp R2.sub (ct_late R2 (LkR.up l2 r1) e1) (ct_late R2 r2 e3) e4
      refine ⟨d, d', h1, h2, h3, h4, _, rfl, ?_⟩
      rw [h5]
      have q4 := q3 g2 H2 (G.le.refl _) R2
      cases b' <;> exact q4
    · exact q3.elim
end

/-! ### a == b by the class's own __eq__ -/
structure EqM (P : Program) (w : World) (K : PySem.W.Frag) (mg : Str → Option Value) (base : Heap) (cl : Nat → Addr) (k : Nat) (c : Nat) (fm : MFn) : Prop where
  ex : ∃ (f : Addr) (fd : FuncData) (ps : List Str), PySem.W.findIn K (.ref (cl c)) "__eq__" = some (some (.ref f)) ∧ PySem.W.isFn K (.ref f) = true ∧ Binds K fd ps [] ∧ FnOk P w K mg base (L2.CX P w) k f fd ps (spOf K cl 2 fm)
def mEqO (c : Nat) (fm : MFn) (ma mb : ME) : ME := fun env S => (ma env S).bind fun x S1 => (mb env S1).bind fun y S2 => match x, y with
  | .ins c1 k1 d1, .ins c2 k2 d2 => if c1 = c ∧ c2 = c then match fm [.ins c1 k1 d1, .ins c2 k2 d2] S2 with
      | .ret (.bl b) S3 => .ok (.bl b, S3)
      | _ => .bad
    else .bad
  | _, _ => .bad
section
variable {X : Cx} {cl : Nat → Addr} {W : WX} {pos : Pos} {a b : Expr} {ma mb : ME} {k c : Nat} {fm : MFn}
def rOwn (K : PySem.W.Frag) (C : Addr) (sp : Sp) : R2 := fun x y H Q => ∃ a b dx dy fs gs, x = .ref a ∧ y = .ref b ∧ H a = some (.ins C dx fs) ∧ H b = some (.ins C dy gs) ∧ sp [x, y] H (fun v H' => (∃ k, v = .bl k) ∧ Q v H') (fun _ _ _ => False)
theorem op_own {C f : Addr} {fd : FuncData} {ps : List Str} {sp : Sp} (F : FnOk X.prog X.w X.K X.mg X.base (L2.CX X.prog X.w) k f fd ps sp) (hr : Room k X.A) (hs : PySem.W.findIn X.K (.ref C) "__eq__" = some (some (.ref f))) (hf : PySem.W.isFn X.K (.ref f) = true) (hb : Binds X.K fd ps []) :
    OpR X (compareOp .Eq) (rOwn X.K C sp) := fun pins s σ H x y v u Q I rx ry ⟨a, b, dx, dy, fs, gs, ex, ey, ha, hb', hsp⟩ => by
  subst ex
  subst ey
  cases rx
  cases ry
  obtain ⟨mA, JA, _⟩ := ins_get I.hok ha
  obtain ⟨mB, JB, _⟩ := ins_get I.hok hb'
  obtain ⟨oA, JA, _⟩ := JA.look
  obtain ⟨oB, JB, _⟩ := JB.look
  obtain ⟨m, fr⟩ := I.fr
  refine PySem.W.cmp_K (op := .Eq) (tb := .ref C) hr.units0 fr I.ok.mod.kin JA JB.type (by simp [PySem.W.notFirst]) hs hf ?_
  have args : Vals [V.ref a, V.ref b] [Value.ref a, Value.ref b] := .cons rfl (.cons rfl .nil)
  have two := F.len _ _ _ _ hsp
  have bound := hb s [.ref a, .ref b] I.kIn (by simpa using two)
  rw [List.append_nil] at bound
  refine wpAny_call (codeAny_mono (F.run X.A X.stack s H _ _ _ _ _ hr I.env0 bound args hsp) fun r s' hq => ?_)
  cases r with
  | error e => exact passes_call takes0 (fun _ _ _ _ z => z) pins σ H s e s' I hq
  | ok fl =>
    cases fl with
    | ret w =>
      obtain ⟨z, H', J, rz, ⟨kk, ez⟩, q⟩ := I.after hq
      subst ez
      cases rz
      exact ⟨.bl kk, H', J, rfl, q⟩
    | next => exact hq.elim
    | brk => exact hq.elim
    | cont => exact hq.elim
theorem re_eqO (M : EqM X.prog X.w X.K X.mg X.base cl k c fm) (hr : Room k X.A) (ha : RE X cl W a ma) (hb : RE X cl W b mb) : RE X cl W (.Compare a [.Eq] [b] pos) (mEqO c fm ma mb) := by
  obtain ⟨f, fd, ps, h1, h2, h3, h4⟩ := M.ex
  refine peW (pe_cmpR (op_own h4 hr h1 h2 h3) ha hb (nomark _)) fun σ H Q ⟨g, env, S, R, q⟩ => upE.imp (bindE R q) fun v H1 ⟨g1, S1, x, l1, R1, r1, q1⟩ => upE.imp (bindE R1 (poE q1 l1)) fun u H2 ⟨g2, S2, y, l2, R2, r2, q2⟩ => ?_
  have q3 := poE q2 l2
  clear q2 q1
  cases x with
  | ins c1 k1 d1 =>
    cases y with
    | ins c2 k2 d2 =>
      dsimp only at q3
      split at q3
      · rename_i hcc
        obtain ⟨e1, e2⟩ := hcc
        subst e1
        subst e2
        have r1' := Rp.up l2 _ _ r1
        cases hfm : fm [.ins _ k1 d1, .ins _ k2 d2] S2 with
        | ret d S3 =>
          rw [hfm] at q3
          cases d with
          | bl kk =>
            have i1 := r1'
            have i2 := r2
            cases i1 with
            | @ins _ _ _ ia dx vs k3 k4 k5 =>
              cases i2 with
              | @ins _ _ _ ib dy us j3 j4 j5 =>
                refine ⟨ia, ib, dx, dy, _, _, rfl, rfl, R2.sub _ _ k3, R2.sub _ _ j3, g2.call H2, S2, [.ins _ k1 d1, .ins _ k2 d2], R2.toRelF.call, RpL.call (.cons r1' (.cons r2 .nil)), rfl, ?_⟩
                rw [hfm]
                intro g3 H3 w le R3 r3
                cases r3
                exact ⟨⟨kk, rfl⟩, q3 _ H3 _ (G.back_le le) (R2.back le R3) (.bl kk)⟩
          | _ => exact q3.elim
        | own d S3 => rw [hfm] at q3; exact q3.elim
        | exc e S3 => rw [hfm] at q3; exact q3.elim
        | bad => rw [hfm] at q3; exact q3.elim
      · exact q3.elim
    | _ => exact q3.elim
  | _ => exact q3.elim
end
end DL

set_option Elab.async false
set_option linter.all false
set_option maxRecDepth 100000
set_option maxHeartbeats 1000000
set_option autoImplicit false
namespace DL
open PySem PySem.Spec PyProof.Rows L2

section
variable {X : Cx} {cl : Nat → Addr} {W : WX} {st : Stmt} {sts : List Stmt} {m n : MS} {pos : Pos}
/-- name = [..] on one row -/
theorem rs_setLc (i : Nat) {y : Str} {py : Pos} {elt tg iter : Expr} {ifs : List Expr} {scope : Scope} {own : List (Str × Nat)} {spos : Pos} {mi : MI} {mg : MG} {tt : MT} {te : ME} {ts : List Nat} (hc : X.calm = true) (hN : X.N.Nodup) (hy : X.N[i]? = some y) (hyl : X.env.scope.names.lookup y = some .local)
    (hsw : swapsWith (.ListComp elt [⟨tg, iter, ifs, 0⟩] scope pos) (some (.Name y py)) spos.line X.env = pure true) (hi : RI X cl W tg iter mi) (ok : BlkOk X.N X.env.scope scope own)
    (hto : TgOk ts mg) (hts : ∀ i ∈ ts, i ∈ own.map (·.2))
    (hg : ∀ (s : Shared) (H : Hp) (C : Addr) (cl' : List (Str × Addr)) (fp : List Addr), RG (X.blk s H scope (compEnvC scope cl' C X.env) fp) cl tg ts mg)
    (ht : ∀ (s : Shared) (H : Hp) (C : Addr) (cl' : List (Str × Addr)) (fp : List Addr), RTs (X.blk s H scope (compEnvC scope cl' C X.env) fp) cl W0 ifs tt)
    (he : ∀ (s : Shared) (H : Hp) (C : Addr) (cl' : List (Str × Addr)) (fp : List Addr), RE (X.blk s H scope (compEnvC scope cl' C X.env) fp) cl W0 elt te) (hs : ∀ x, foldedSetIterable iter X.env x = pure x := by intro _; rfl) :
    RS X cl W (.Assign [.Name y py] (.ListComp elt [⟨tg, iter, ifs, 0⟩] scope pos) spos) (mSetO i (mComp (own.map (·.2)) mi mg tt te)) :=
  psW (ps_setLc (i := i) (g := upG X.K cl ts mg) (tt := upT X.K cl W0 tt) (te := upE X.K cl W0 te) hc hN hy hyl hsw hi ok hg ht he hs) fun N σ H ⟨g, env, S, R, q⟩ => by
    refine lc_up (K := X.K) (W := W) hto hts (upO.imp (goO R q) fun v H1 ⟨g1, S1, ds, a, vs, ev, l, R1, f, q1⟩ => ?_)
    subst ev
    exact q1 g1 _ H1 (G.le.refl _) (R1.setOwn f)

/-! ### an owned list becomes a thing of the store -/
def mLocz (i : Nat) (m : MS) : MS := fun env S => match env[i]? with
  | some (some (.own ds)) => m (env.set i (some (.val (.loc S.length)))) (S ++ [.lst ds])
  | _ => .bad
theorem Rel.locz {K : PySem.W.Frag} {g : G} {env : Env} {S : Store} {σ : L2.St} {H : Hp} {i : Nat} {ds : List D} (R : Rel K cl g env S σ H) (e : env[i]? = some (some (.own ds))) : ∃ g', g.le g' ∧ Rel K cl g' (env.set i (some (.val (.loc S.length)))) (S ++ [.lst ds]) σ H := by
  obtain ⟨a, vs, e1, e2, r, f1, f2, f3⟩ := R.own i ds e
  have R0 := R.setNone i
  have hi : i < env.length := (List.getElem?_eq_some_iff.mp e).1
  have hσ : i < σ.length := by rw [← R.len]; exact hi
  have fr : Fresh K cl g (env.set i none) (σ.set i none) H ds a vs := by
    refine ⟨e2, r, f1, f2, f3, fun j es h => ?_⟩
    by_cases hj : i = j
    · subst hj
      rw [List.getElem?_set_self hi] at h
      cases h
    · rw [List.getElem?_set_ne hj] at h ⊢
      intro h2
      exact hj (R.ownd i j ds es e h (e1.trans h2.symm))
  obtain ⟨g', le, R1, r1⟩ := fr.alloc R0
  have R2 := R1.setVal (i := i) r1
  refine ⟨g', le, ?_⟩
  have h1 : (env.set i none).set i (some (.val (.loc S.length))) = env.set i (some (.val (.loc S.length))) := by rw [List.set_set]
  have h2 : (σ.set i none).set i (some (.ref a)) = σ := by
    rw [List.set_set]
    apply List.ext_getElem?
    intro j
    by_cases hj : i = j
    · subst hj; rw [List.getElem?_set_self hσ, e1]
    · rw [List.getElem?_set_ne hj]
  rw [h1, h2] at R2
  exact R2
theorem rss_locz (i : Nat) (h : RSs X cl W sts m) : RSs X cl W sts (mLocz i m) := pssW h fun N σ H ⟨g, env, S, R, q⟩ => by
  unfold mLocz at q
  split at q
  · rename_i ds e
    obtain ⟨g', le, R'⟩ := R.locz e
    exact ⟨g', _, _, R', PoS.up q le⟩
  · exact q.elim
end

/-! ### defs that raise nothing -/
def outF0 : Out → FRes
  | .nx _ S => .ret .non S
  | .rt d S => .ret d S
  | .ro ds S => .own ds S
  | _ => .bad
def mFn0 (N : List Str) (m : MS) : MFn := fun ds S => outF0 (m (startE N ds) S)
theorem poS_of0 {K : PySem.W.Frag} {cl : Nat → Addr} {g : G} {Q : VK} {E : XK} {o : Out} (p : PoF K cl g Q E (outF0 o)) : PoS K cl W0 { nx := fun _ H' => Q .non H', rt := Q } g o := by
  cases o with
  | nx env S => exact fun g' σ' H' l R => p g' H' .non l R.toRelF .non
  | rt d S => exact p
  | ro ds S => exact p
  | bk env S => exact p.elim
  | ct env S => exact p.elim
  | exc e env S => exact p.elim
  | bad => exact p
section
variable {P : Program} {w : World} {K : PySem.W.Frag} {mg : Str → Option Value} {base : Heap} {cl : Nat → Addr} {k n : Nat} {x q : Str}
abbrev fx (P : Program) (w : World) (K : PySem.W.Frag) (mg : Str → Option Value) (base : Heap) (N : List Str) (q : Str) (sc : Scope) (f : Addr) (cdv : Value) (A : Around) (outer : List PySem.Env) (s : Shared) (H : Hp) (E : XK) : Cx := cxOf (L2.CX P w) P w K mg base N q sc f cdv A outer s H E
theorem fn_ok0 {st : Stmt} {f : Addr} {fd : FuncData} {ps N : List Str} {m : MS} (F : L2.Fun K x q st f fd) (S : FnScope N ps (defScope st)) (hn : ps.length = n)
    (hbody : ∀ (cdv : Value) (A : Around) (outer : List PySem.Env) (s : Shared) (H : Hp) (E : XK), Room k (A.deeper (envOfC q (defScope st) s.heap.objs.size f cdv)) →
      RSs (fx P w K mg base N q (defScope st) f cdv A outer s H E) cl W0 (defBody st) m) :
    FnOk P w K mg base (L2.CX P w) (k + 1) f fd ps (spOf K cl n (mFn0 N m)) := by
  refine F.okX S (fun vs H Q E ⟨g, S, ds, R, r, l, _⟩ => by rw [← r.length, l, hn]) fun cdv A outer s H vs Q E hr ⟨g, S1, ds, R, r, l, q⟩ => ?_
  exact ⟨upS K cl W0 m, hbody cdv A outer s H E hr, g, startE N ds, S1, R.start r N, poS_of0 q⟩
theorem cb0 {st : Stmt} {ps N : List Str} {m : MS} (d : Df K mg x st ps) (S : FnScope N ps (defScope st)) (hn : ps.length = n)
    (hbody : ∀ (f : Addr) (cdv : Value) (A : Around) (outer : List PySem.Env) (s : Shared) (H : Hp) (E : XK), Room k (A.deeper (envOfC x (defScope st) s.heap.objs.size f cdv)) →
      RSs (fx P w K mg base N x (defScope st) f cdv A outer s H E) cl W0 (defBody st) m) : Cb P w K mg base cl (k + 1) x n (mFn0 N m) := by
  obtain ⟨f, fd, h1, h2, h3⟩ := d.ex
  exact ⟨f, fd, ps, h1, h2.kp, h3, fn_ok0 h2 S hn (hbody f)⟩
end
/-- room for == as deep as it goes -/
theorem room_hu {k : Nat} {A : Around} (r : Room k A) : A.units + 65 < cLine := by have := r.un; omega
theorem fx_passes {P : Program} {w : World} {K : PySem.W.Frag} {mg : Str → Option Value} {base : Heap} {N : List Str} {q : Str} {sc : Scope} {f : Addr} {cdv : Value} {A : Around} {outer : List PySem.Env} {s : Shared} {H : Hp} {E : XK} :
    PassesOwn (model (fx P w K mg base N q sc f cdv A outer s H E).prog (fx P w K mg base N q sc f cdv A outer s H E).w) (fx P w K mg base N q sc f cdv A outer s H E).A (fx P w K mg base N q sc f cdv A outer s H E).env (fx P w K mg base N q sc f cdv A outer s H E).xe := passes_of rfl
end DL

set_option Elab.async false
set_option linter.all false
set_option maxRecDepth 100000
set_option maxHeartbeats 1000000
set_option autoImplicit false
namespace DL
open PySem PySem.Spec PyProof.Rows L2
theorem re_globE {X : Cx} {cl : Nat → Addr} {W : WX} {pos : Pos} {x : Str} {i : Int} (hm : ∃ t, X.mg x = some (.int i t)) (hg : Gl X x := by rfl) (hd : (x == ("__debug__" : Str)) = false := by decide) : RE X cl W (.Name x pos) (mC (.int i)) := by
  obtain ⟨t, h⟩ := hm
  exact re_globI hg h hd
/-- a class of the text -/
structure ClsT (K : PySem.W.Frag) (mg : Str → Option Value) (C : Addr) (x : Str) : Prop where
  nm : mg x = some (.ref C)
  cls : ClsI K C
/-- the law's head: it is asked with a list of ints and answers True -/
def spLaw (K : PySem.W.Frag) : Sp := fun vs H Q _ => ∃ (a : Addr) (ns : List Int), vs = [.ref a] ∧ ns.length ≤ 63 ∧ SqL K H a (ns.map V.int) ∧ ∀ H', Q (.bl true) H'
theorem law_of {P : Program} {w : World} {K : PySem.W.Frag} {mg : Str → Option Value} {base : Heap} {cl : Nat → Addr} {k : Nat} {f : Addr} {fd : FuncData} {x : Str} {fm : MFn} (F : FnOk P w K mg base (L2.CX P w) k f fd [x] (spOf K cl 1 fm)) (h : ∀ ns : List Int, ns.length ≤ 63 → ∃ S, fm [.scr ns] [] = .ret (.bl true) S) :
    FnOk P w K mg base (L2.CX P w) k f fd [x] (spLaw K) := F.imp fun vs H Q E ⟨a, ns, ev, hl, hs, q⟩ => by
  subst ev
  obtain ⟨S, e⟩ := h ns hl
  have R : RelF K cl (G.mk H (fun _ => none) []) [] H := by
    refine ⟨L2.Same.refl _, fun _ _ z => (nomatch z), fun _ => .inr rfl, rfl, fun n o b e1 _ => ?_, fun b z => (by cases z), List.nodup_nil⟩
    simp at e1
  refine ⟨G.mk H (fun _ => none) [], [], [.scr ns], R, .cons (.scr hs) .nil, rfl, ?_⟩
  rw [e]
  intro g' H' v le R' r
  cases r
  exact q H'
end DL

set_option Elab.async false
set_option linter.all false
set_option maxRecDepth 100000
set_option maxHeartbeats 1000000
set_option autoImplicit false
namespace DL
open PySem PySem.Spec PyProof.Rows L2
theorem isort_of {ns ns' : List Int} (h1 : ns'.Perm ns) (h2 : ns'.Pairwise (· ≤ ·)) : ns' = isort ns := by
  have s : (isort ns).Pairwise (· ≤ ·) := by
    have := List.pairwise_mergeSort (le := fun a b : Int => decide (a ≤ b)) (by intro a b c; simp; omega) (by intro a b; simp; omega) ns
    exact this.imp fun {a b} h => of_decide_eq_true h
  exact (h1.trans (List.mergeSort_perm ns _).symm).eq_of_pairwise (le := (· ≤ ·)) (fun a b _ _ h k => Int.le_antisymm h k) h2 s
section
variable {X : Cx} {cl : Nat → Addr} {W : WX} {pos p : Pos} {e a b : Expr} {mb : ML} {m : ME}
theorem ro_sortI (hg : Gl X "sorted") (hm : X.mg "sorted" = none) (he : RB X cl W e mb) (h1 : starEach [e] X.env = (false, eval e X.env) :: starEach [] X.env := by rfl) : RO X cl W (.Call (.Name "sorted" p) [e] [] pos) (mSortI mb) :=
  peW (pe_callB cr_sortedI hg hm (by decide +kernel) (pa_cons he pa_nil h1) (by decide) (by decide) h1 rfl) fun σ H Q ⟨g, env, S, R, q⟩ => by
    show upB X.K cl W mb σ H _
    refine upB.imp (bindB R q) fun v H1 ⟨g1, S1, k, l1, R1, r1, q0⟩ => ?_
    have q1 := poO q0 l1
    clear q0
    split at q1
    · rename_i ds ec
      split at q1
      · rename_i ns en
        obtain ⟨a, vs, rfl, hH, rp⟩ := ct_late R1 r1 ec
        rw [dInts_eq en] at rp
        rw [RpL.ints rp] at hH
        refine ⟨a, ns, rfl, SqL.of hH, fun ns' p' h1 h2 hp => ?_⟩
        rw [isort_of h1 h2]
        obtain ⟨R4, f4⟩ := fresh_new R1 (RpL.ofInts (isort ns)) hp
        exact q1 _ _ _ _ (G.le.refl _) R4 f4
      · exact q1.elim
    · exact q1.elim
/-! a truth value in a list of such -/
def inBt (c : Ct) (x : D) : Option Bool := match c, x with
  | .l ds, .bl b => (dBls ds).map fun bs => decide (b ∈ bs)
  | _, _ => none
def mInB (neg : Bool) (ma : ME) (mb : ML) : MT := fun env S => (ma env S).bind fun x S1 => (mb env S1).bind fun k S2 => match (ctL env S2 k).bind fun c => inBt c x with
  | some b => .ok (b != neg, S2)
  | none => .bad
def mInBE (ma : ME) (mb : ML) : ME := fun env S => (ma env S).bind fun x S1 => (mb env S1).bind fun k S2 => match (ctL env S2 k).bind fun c => inBt c x with
  | some b => .ok (.bl b, S2)
  | none => .bad
theorem RpL.bls2 {K : PySem.W.Frag} {g : G} {H : Hp} : ∀ (bs : List Bool) (vs : List V), RpL K cl g (bs.map D.bl) vs → DpAll K H vs (bs.map PyData.bool)
  | [], _, r => by cases r; exact .nil
  | b :: bs, _, r => by
    have r' : RpL K cl g (.bl b :: bs.map D.bl) _ := r
    cases r' with
    | cons h1 h2 => cases h1; exact .cons (.bl b) (RpL.bls2 bs _ h2)
theorem lay_bls : ∀ bs : List Bool, PyData.canLayAll0 (bs.map PyData.bool) = true ∧ PyData.depthAll (bs.map PyData.bool) = 0
  | [] => by simp [PyData.canLayAll0, PyData.depthAll]
  | b :: bs => by
    have := lay_bls bs
    simp only [List.map_cons, PyData.canLayAll0, PyData.depthAll, PyData.canLay0, PyData.depth, this]
    simp
theorem any_bls (b : Bool) : ∀ bs : List Bool, ((bs.map PyData.bool).any fun y => PyData.eqv y (.bool b)) = decide (b ∈ bs)
  | [] => rfl
  | c :: bs => by
    rw [List.map_cons, List.any_cons, any_bls b bs]
    cases b <;> cases c <;> simp [PyData.eqv]
theorem inB_ok {K : PySem.W.Frag} {g : G} {S : Store} {H : Hp} {x : D} {v u : V} {c : Ct} {b : Bool} {Q : VK} (R : RelF K cl g S H) (r1 : Rp K cl g x v) (hc : CtR K cl g H c u) (e : inBt c x = some b) (q : Q (.bl b) H) : rIn3 K v u H Q := by
  unfold inBt at e
  split at e
  · rename_i ds y
    obtain ⟨bs, e1, rfl⟩ := Option.map_eq_some_iff.mp e
    rw [dBls_eq e1] at hc
    obtain ⟨a, vs, rfl, h1, h2⟩ := hc
    cases r1
    have lz := lay_bls bs
    refine .inl ⟨.bool y, bs.map PyData.bool, .bl y, .lst (SqL.of h1) (RpL.bls2 bs vs h2), by simp [SeqAt.shaped, PyData.canLay0, PyData.depth], by simp [SeqAt.shaped, PyData.canLay0, PyData.depth, lz], ?_⟩
    rw [any_bls]
    exact q
  · cases e
theorem notInB_ok {K : PySem.W.Frag} {g : G} {S : Store} {H : Hp} {x : D} {v u : V} {c : Ct} {b : Bool} {Q : VK} (R : RelF K cl g S H) (r1 : Rp K cl g x v) (hc : CtR K cl g H c u) (e : inBt c x = some b) (q : Q (.bl (!b)) H) : rNotIn3 K v u H Q := by
  rcases inB_ok (Q := fun w H' => ∃ k, w = .bl k ∧ Q (.bl (!k)) H') R r1 hc e ⟨b, rfl, q⟩ with ⟨d, ds, h1, h2, h3, h4, k, e1, q1⟩ | ⟨d, ds, h1, h2, h3, h4, k, e1, q1⟩ | ⟨c, z, h1, h2, k, e1, q1⟩
  · cases e1; exact .inl ⟨d, ds, h1, h2, h3, h4, q1⟩
  · cases e1; exact .inr (.inl ⟨d, ds, h1, h2, h3, h4, q1⟩)
  · cases e1; exact .inr (.inr ⟨c, z, h1, h2, q1⟩)
theorem rt_inB (hu : X.A.units + 65 < cLine) (ha : RE X cl W a m) (hb : RB X cl W b mb) (hm : behindInMarks .In b = false := by rfl) : RT X cl W (.Compare a [.In] [b] pos) (mInB false m mb) :=
  ptW (pt_cmpR ((op_inD hu).or ((op_inT hu).or op_in_sign)) ha hb hm) fun σ H Q ⟨g, env, S, R, q⟩ =>
    (bindE R q).imp fun v H1 ⟨g1, S1, d, l1, R1, r1, q1⟩ => (bindB R1 (poT q1 l1)).imp fun u H2 ⟨g2, S2, k, l2, R2, r2, q2⟩ => by
      have q2 := poT q2 l2
      split at q2
      · rename_i b eb
        obtain ⟨c, e1, e2⟩ := Option.bind_eq_some_iff.mp eb
        refine inB_ok R2.toRelF (Rp.up l2 _ _ r1) (ct_late R2 r2 e1) e2 ⟨b, rfl, ?_⟩
        have := q2 g2 H2 (G.le.refl _) R2
        simpa using this
      · exact q2.elim
theorem rt_notInB (hu : X.A.units + 65 < cLine) (ha : RE X cl W a m) (hb : RB X cl W b mb) (hm : behindInMarks .NotIn b = false := by rfl) : RT X cl W (.Compare a [.NotIn] [b] pos) (mInB true m mb) :=
  ptW (pt_cmpR ((op_notInD hu).or ((op_notInT hu).or op_notIn_sign)) ha hb hm) fun σ H Q ⟨g, env, S, R, q⟩ =>
    (bindE R q).imp fun v H1 ⟨g1, S1, d, l1, R1, r1, q1⟩ => (bindB R1 (poT q1 l1)).imp fun u H2 ⟨g2, S2, k, l2, R2, r2, q2⟩ => by
      have q2 := poT q2 l2
      split at q2
      · rename_i b eb
        obtain ⟨c, e1, e2⟩ := Option.bind_eq_some_iff.mp eb
        refine notInB_ok R2.toRelF (Rp.up l2 _ _ r1) (ct_late R2 r2 e1) e2 ⟨!b, rfl, ?_⟩
        have := q2 g2 H2 (G.le.refl _) R2
        simpa using this
      · exact q2.elim
theorem re_inB (hu : X.A.units + 65 < cLine) (ha : RE X cl W a m) (hb : RB X cl W b mb) (hm : behindInMarks .In b = false := by rfl) : RE X cl W (.Compare a [.In] [b] pos) (mInBE m mb) :=
  peW (pe_cmpR ((op_inD hu).or ((op_inT hu).or op_in_sign)) ha hb hm) fun σ H Q ⟨g, env, S, R, q⟩ => by
    exact (bindE R q).imp fun v H1 ⟨g1, S1, d, l1, R1, r1, q1⟩ => (bindB R1 (poE q1 l1)).imp fun u H2 ⟨g2, S2, k, l2, R2, r2, q2⟩ => by
      have q2 := poE q2 l2
      split at q2
      · rename_i b eb
        obtain ⟨c, e1, e2⟩ := Option.bind_eq_some_iff.mp eb
        exact inB_ok R2.toRelF (Rp.up l2 _ _ r1) (ct_late R2 r2 e1) e2 (q2 g2 H2 _ (G.le.refl _) R2 (.bl _))
      · exact q2.elim
end
end DL

set_option Elab.async false
set_option linter.all false
set_option maxRecDepth 100000
set_option maxHeartbeats 1000000
set_option autoImplicit false
namespace DL
open PySem PySem.Spec PyProof.Rows L2 PySem.W
open Sem (wp)
/-! ### min(a, b) of data that are alike -/
section
variable {prog : Program} {w : World} {A : Around} {E : Value → Shared → Prop} {s : Shared}
theorem min2H {a b : Value} {Q : Value → Shared → Prop}
    (h : wpAny (model prog w) A.in1 (pyIter (.ref s.heap.objs.size)) (fun it t2 => ∃ I fp wr G n P St H bt, it = .ref I ∧ WalksS prog w A.in1 I fp wr G n P St ∧ St 0 t2 ∧ (∀ c ∈ fp, c < t2.heap.objs.size) ∧ 0 < n ∧
      (∀ c o, H.get? c = some o → c ∉ wr) ∧ (∀ c o, H.get? c = some o → t2.heap.get? c = some o) ∧ CmpIn prog w A.in1 .Lt H P bt ∧ ∀ v t3, P (argBest bt (n - 1)) v → Moved wr G t2 t3 → Q v t3) E
      { s with heap := s.heap.push { cls := .type "tuple", data := .seq #[a, b] } }) :
    wpAny (model prog w) A (call (.builtin "min") [a, b]) Q E s := by
  have nm : (toString "min" ++ toString ".loop" : String) = "min.loop" := by decide +kernel
  refine call_function_tree F.kind_min F.plain_min F.entry_min (F.args_min2 a b) ?_
  show wpAny (model prog w) A.in1 (Builtin.Builtins.bindParams "min" ["key", "default"] 0 ⟨[], []⟩ >>= _) _ _ s
  refine wpAny_bind (wpAny_of_eq (show Builtin.Builtins.bindParams "min" ["key", "default"] 0 ⟨[], []⟩ = pure [none, none] by rfl) ?_)
  show wpAny (model prog w) A.in1 (newTuple [a, b] >>= _) _ _ s
  refine wpAny_bind (wpAny_newObj_type ?_)
  refine wpAny_bind (wpAny_mono h (fun it t2 z => ?_) fun _ _ e => e)
  obtain ⟨I, fp, wr, G, n, P, St, H, bt, rfl, W, st0, off, n0, apart, kept, cmp, fin⟩ := z
  refine wpAny_bind (wpAny_newObj_type ?_)
  have new : t2.heap.objs.size ∉ fp := fun m => Nat.lt_irrefl _ (off _ m)
  rw [nm]
  refine wpAny_pure ⟨plainId_quiet F.plain_min_loop _, codeAny_min_loop_firstH W H apart bt cmp t2.heap.objs.size new (fresh_in kept) _ n0 (fun c o e => Heap.get?_push_of_some _ (kept c o e))
    (W.frame 0 t2 _ t2.toks st0 (Nat.le_refl _) fun c _ o e => Heap.get?_push_of_some _ e) (Heap.get?_push_size _ rfl) fun v t3 p m => ?_⟩
  exact fin v t3 p (Moved.drop_new (tk := t2.toks) m (Nat.le_refl _))
theorem min2_data {a b : Value} {da db : PyData} {as bs : List Addr} {Q : Value → Shared → Prop} (hh : A.handled = none) (ra : Reads s.heap a da as) (rb : Reads s.heap b db bs) (al : AlikeAll [da, db]) (hu : A.units + 1 + PyData.depthAll [da, db] < cLine)
    (h : ∀ h' tk, (∀ c o, s.heap.get? c = some o → h'.get? c = some o) → Q (if dataLt db da = true then b else a) { s with heap := h', toks := tk }) :
    wpAny (model prog w) A (call (.builtin "min") [a, b]) Q E s := by
  have up : ∀ c o, s.heap.get? c = some o → (s.heap.push { cls := .type "tuple", data := .seq #[a, b] }).get? c = some o := fun c o e => Heap.get?_push_of_some _ e
  have hT : (s.heap.push { cls := .type "tuple", data := .seq #[a, b] }).IsTuple s.heap.objs.size #[a, b] := ⟨_, Heap.get?_push_size _ rfl, rfl, 0, rfl⟩
  refine min2H (iter_tupleW (A := A.in1) hh hT fun t2 e W st off apart kept => ?_)
  refine ⟨_, _, _, _, _, _, _, (s.heap.push { cls := .type "tuple", data := .seq #[a, b] }), (fun i j => dataLt ([da, db].getD i .none) ([da, db].getD j .none)), rfl, W, st, off, by simp, apart, kept, ?_, fun v t3 p m => ?_⟩
  · exact cmpIn_lt (A := A.in1) (s := { s with heap := s.heap.push { cls := .type "tuple", data := .seq #[a, b] } }) (vs := #[a, b]) (ReadsAll.cons (Reads.keeps up ra) (ReadsAll.cons (Reads.keeps up rb) .nil)) al (by show A.units + 1 + _ < _; exact hu)
  · obtain ⟨h', tk, rfl, k⟩ := moved_old e rfl m
    have hv : v = if dataLt db da = true then b else a := by
      have p' : (#[a, b] : Array Value)[argBest (fun i j => dataLt ([da, db].getD i .none) ([da, db].getD j .none)) 1]? = some v := p
      by_cases c : dataLt db da = true
      · have e : argBest (fun i j => dataLt ([da, db].getD i .none) ([da, db].getD j .none)) 1 = 1 := by simp [argBest, c]
        rw [e] at p'
        rw [if_pos c]
        simpa using p'.symm
      · have e : argBest (fun i j => dataLt ([da, db].getD i .none) ([da, db].getD j .none)) 1 = 0 := by simp [argBest, c]
        rw [e] at p'
        rw [if_neg c]
        simpa using p'.symm
    rw [hv]
    exact h h' tk fun c o q => k c o (up c o q)
end
section
variable {X : Cx}
def rMin2 (K : PySem.W.Frag) : List V → Hp → VK → Prop := fun xs H Q => ∃ x y da db, xs = [x, y] ∧ Dp K H x da ∧ Dp K H y db ∧ AlikeAll [da, db] ∧ PyData.depthAll [da, db] ≤ 8 ∧ Q (if dataLt db da = true then y else x) H
theorem call_min2D (hc : X.calm = true) (hu : X.A.units + 65 < cLine) : CallR X (.builtin "min") (rMin2 X.K) := by
  intro pins s σ H xs us Q I r h
  obtain ⟨x, y, da, db, rfl, dx, dy, al, dp, q⟩ := h
  obtain ⟨u, v, rfl, rx, ry⟩ := vals2 r
  obtain ⟨as, ra⟩ := Dp.reads I da x u dx rx
  obtain ⟨bs, rb⟩ := Dp.reads I db y v dy ry
  refine min2_data (I.ok.hd hc) ra rb al (by omega) fun h' tk k => ⟨if dataLt db da = true then y else x, H, I.kept k, ?_, q⟩
  by_cases c : dataLt db da = true
  · rw [if_pos c, if_pos c]; exact ry
  · rw [if_neg c, if_neg c]; exact rx
/-- data of which the lesser one is asked for -/
def minOk (x y : D) : Bool := x.eqk 6 && y.eqk 6 && alike x.py x.py && alike x.py y.py && alike y.py x.py && alike y.py y.py && !decide (x = .non) && !decide (y = .non)
def fMinD (x y : D) (S : Store) : Res (D × Store) := if minOk x y = true then .ok (if dataLt y.py x.py = true then y else x, S) else .bad
variable {cl : Nat → Addr} {W : WX} {pos p : Pos} {a b : Expr} {ma mb : ME}
theorem re_minD (hc : X.calm = true) (hu : X.A.units + 65 < cLine) (hg : Gl X "min") (hm : X.mg "min" = none) (ha : RE X cl W a ma) (hb : RE X cl W b mb)
    (h1 : starEach [a, b] X.env = (false, eval a X.env) :: starEach [b] X.env := by rfl) (h2 : starEach [b] X.env = (false, eval b X.env) :: starEach [] X.env := by rfl) (h3 : (backTo pos (starEach [b] X.env)).any (·.1) = false := by rfl) :
    RE X cl W (.Call (.Name "min" p) [a, b] [] pos) (mOp fMinD ma mb) :=
  peW (pe_callB (call_min2D hc hu) hg hm (by decide +kernel) (pa_cons ha (pa_cons hb pa_nil h2) h1) (by decide) (by decide) h1 h3) fun σ H Q ⟨g, env, S, R, q⟩ =>
    (bindE R q).imp fun v H1 ⟨g1, S1, d, l1, R1, r1, q1⟩ => (bindE R1 (poE q1 l1)).imp fun u H2 ⟨g2, S2, e, l2, R2, r2, q2⟩ => by
      have q3 := poE q2 l2
      unfold fMinD at q3
      split at q3
      · rename_i ok
        unfold minOk at ok
        simp only [Bool.and_eq_true, Bool.not_eq_true', decide_eq_false_iff_not] at ok
        obtain ⟨⟨⟨⟨⟨⟨⟨k1, k2⟩, k3⟩, k4⟩, k5⟩, k6⟩, k7⟩, k8⟩ := ok
        have r1' := Rp.up l2 _ _ r1
        have nn : ∀ z : D, z.eqk 6 = true → z ≠ .non → z.py ≠ PyData.none := fun z hz hn => by
          cases z <;> simp [D.eqk] at hz <;> simp [D.py] at hn ⊢
        refine ⟨v, u, d.py, e.py, rfl, Rp.dp R2.sub 6 d v k1 r1', Rp.dp R2.sub 6 e u k2 r2, ⟨?_, ?_⟩, ?_, ?_⟩
        · intro x hx y hy
          simp only [List.mem_cons, List.not_mem_nil, or_false] at hx hy
          rcases hx with rfl | rfl <;> rcases hy with rfl | rfl <;> assumption
        · intro x hx
          simp only [List.mem_cons, List.not_mem_nil, or_false] at hx
          rcases hx with rfl | rfl
          · exact nn _ k1 k7
          · exact nn _ k2 k8
        · have z1 := (D.lay 6 d k1).2
          have z2 := (D.lay 6 e k2).2
          simp only [PyData.depthAll]
          omega
        · by_cases c : dataLt e.py d.py = true
          · rw [if_pos c] at q3 ⊢
            exact q3 g2 H2 u (G.le.refl _) R2 r2
          · rw [if_neg c] at q3 ⊢
            exact q3 g2 H2 v (G.le.refl _) R2 r1'
      · exact q3.elim
end
end DL

set_option Elab.async false
set_option linter.all false
set_option maxRecDepth 100000
set_option maxHeartbeats 1000000
set_option autoImplicit false
namespace DL
open PySem PySem.Spec PyProof.Rows L2
/-! ### dicts whose keys are tuples of numbers and of such: dict([..]), in -/
mutual
theorem hash_any (w w' : World) : ∀ k : NestedKey, DS.plainK k = true → k.hash w = k.hash w'
  | .none, _ => rfl
  | .num i, _ => rfl
  | .text x, h => by simp [DS.plainK] at h
  | .tup ks, h => by
    rw [NestedKey.hash, NestedKey.hash, hashes_any w w' ks (by simpa [DS.plainK] using h)]
theorem hashes_any (w w' : World) : ∀ ks : List NestedKey, DS.plainKs ks = true → NestedKey.hashes w ks = NestedKey.hashes w' ks
  | [], _ => rfl
  | k :: ks, h => by
    simp only [DS.plainKs, Bool.and_eq_true] at h
    rw [NestedKey.hashes, NestedKey.hashes, hash_any w w' k h.1, hashes_any w w' ks h.2]
end
theorem stored_nodup : ∀ (ps acc : List (NestedKey × Addr × Value)), ((acc ++ ps).map (·.1)).Nodup → storedAllH acc ps = acc ++ ps
  | [], acc, _ => by simp [storedAllH]
  | p :: ps, acc, h => by
    have e : storedAllH acc (p :: ps) = storedAllH (storedH acc p.1 p.2.1 p.2.2) ps := rfl
    have nw : atKey acc p.1 = none := by
      unfold atKey
      rw [Option.map_eq_none_iff, List.find?_eq_none]
      intro x hx
      simp only [decide_eq_true_eq]
      intro z
      rw [List.map_append, List.nodup_append] at h
      exact h.2.2 x.1 (List.mem_map.mpr ⟨x, hx, rfl⟩) p.1 (by simp) z
    rw [e, storedH_new nw]
    have z := stored_nodup ps (acc ++ [(p.1, p.2.1, p.2.2)]) (by simpa using h)
    rw [z]
    simp
section
variable {X : Cx}
/-- a pair of the list: its tuple, the key, the key's tuple, the value -/
structure Pr where
  at_ : Addr
  k : NestedKey
  b : Addr
  v : V
/-- b is the key k wherever H stands -/
def KeyAt (X : Cx) (H : Hp) (k : NestedKey) (b : Addr) : Prop := ∀ (pins : List (Addr × Obj)) (σ : L2.St) (s : Shared), L2.Inv X pins σ H s → NestedIs s.heap k (.ref b)
def rDictN (X : Cx) : List V → Hp → VK → Prop := fun xs H Q => ∃ (a : Addr) (ps : List Pr), xs = [.ref a] ∧ SqL X.K H a (ps.map fun p => V.ref p.at_) ∧ (∀ p ∈ ps, SqT X.K H p.at_ [.ref p.b, p.v] ∧ KeyAt X H p.k p.b ∧ p.k.depth ≤ 8 ∧ DS.plainK p.k = true) ∧ (ps.map (·.k)).Nodup ∧
  ∀ (d : Addr) (es : List (NestedKey × Addr × Value)), H d = none → es.map (·.1) = ps.map (·.k) → es.map (fun e => V.ref e.2.1) = ps.map (fun p => V.ref p.b) → Q (.ref d) (upd H d (dctO d es))
theorem pairs_at {pins : List (Addr × Obj)} {σ : L2.St} {H : Hp} {s : Shared} (I : L2.Inv X pins σ H s) : ∀ ps : List Pr, (∀ p ∈ ps, SqT X.K H p.at_ [.ref p.b, p.v]) →
    ∃ es : List (NestedKey × Addr × Value), es.map (·.1) = ps.map (·.k) ∧ es.map (fun e => V.ref e.2.1) = ps.map (fun p => V.ref p.b) ∧ ∀ (j : Nat) (e : NestedKey × Addr × Value), es[j]? = some e → ∃ p, ps[j]? = some p ∧ e.1 = p.k ∧ e.2.1 = p.b ∧ IsTup s.heap p.at_ #[.ref p.b, e.2.2]
  | [], _ => ⟨[], rfl, rfl, fun j e h => by simp at h⟩
  | p :: ps, h => by
    obtain ⟨es, e1, e2, e3⟩ := pairs_at I ps fun q hq => h q (List.mem_cons_of_mem _ hq)
    obtain ⟨its, rv, ht, _⟩ := I.tuple (h p List.mem_cons_self)
    obtain ⟨u, y, ei, ru, ry⟩ := vals2 rv
    subst ei
    cases ru
    refine ⟨(p.k, p.b, y) :: es, by rw [List.map_cons, List.map_cons, e1], by rw [List.map_cons, List.map_cons, e2], fun j e he => ?_⟩
    cases j with
    | zero =>
      simp at he
      subst he
      exact ⟨p, rfl, rfl, rfl, ht⟩
    | succ j => exact e3 j e (by simpa using he)
theorem call_dictN (hc : X.calm = true) (hu : X.A.units + 65 < cLine) : CallR X (.type "dict") (rDictN X) := by
  intro pins s σ H xs us Q I r h
  obtain ⟨a, ps, rfl, hl, hp, nd, q⟩ := h
  obtain ⟨u, eu, rx⟩ := vals1 r
  subst eu
  cases rx
  obtain ⟨its, rv, pl, hz⟩ := I.list hl
  have ei : its = ps.map fun p => Value.ref p.at_ := by
    have := refs_at (ps := ps.map (·.at_)) (us := its) (by rw [List.map_map]; exact rv)
    rw [this, List.map_map]
    rfl
  subst ei
  rw [List.length_map] at hz
  obtain ⟨es, e1, e2, e3⟩ := pairs_at I ps fun p m => (hp p m).1
  have hlen : es.length = ps.length := by simpa using congrArg List.length e1
  obtain ⟨o, n, ho, hcl, hd, hdat⟩ := pl
  let Ts : Nat → Addr := fun j => match ps[j]? with
    | some p => p.at_
    | none => 0
  have items : PairItems s.heap (ps.map fun p => Value.ref p.at_).toArray Ts (es.map fun e => (Value.ref e.2.1, e.2.2)) := by
    refine ⟨by simp [hlen], fun j k v hj => ?_⟩
    rw [List.getElem?_map] at hj
    obtain ⟨e, he, hk⟩ := Option.map_eq_some_iff.mp hj
    obtain ⟨p, h1, h2, h3, h4⟩ := e3 j e he
    cases hk
    have ht : Ts j = p.at_ := by simp only [Ts, h1]
    rw [ht, h3]
    exact ⟨by simp [h1], .inl h4⟩
  have ok : PlainSeq "list" s.heap a (ps.map fun p => Value.ref p.at_).toArray ∧ PairItems s.heap (ps.map fun p => Value.ref p.at_).toArray Ts (es.map fun e => (Value.ref e.2.1, e.2.2)) := ⟨⟨o, n, ho, hcl, hd, hdat⟩, items⟩
  have nd' : (es.map (·.1)).Nodup := by rw [e1]; exact nd
  have keys : ∀ e ∈ es, (nestedKind X.prog X.w).is s.heap e.1 e.2.1 ∧ DS.plainK e.1 = true := fun e he => by
    obtain ⟨j, hj, rfl⟩ := List.getElem_of_mem he
    obtain ⟨p, h1, h2, h3, _⟩ := e3 j es[j] (List.getElem?_eq_getElem hj)
    have m := hp p (List.mem_of_getElem? h1)
    rw [h2, h3]
    exact ⟨⟨m.2.1 pins σ s I, m.2.2.1⟩, m.2.2.2⟩
  refine call_dict_pairsH (knd := nestedKind X.prog X.w) (ps := es) (PairArg.list a _ Ts (es.map fun e => (Value.ref e.2.1, e.2.2))) (I.ok.hd hc) (by show X.A.units + 1 + 1 + 8 < cLine; omega) ok ⟨by simp, fun i key v hi => ?_⟩ ?_ (by rw [List.length_map, hlen]; exact hz) fun h' tk hd' kept => ?_
  · rw [PairRel, List.getElem?_map] at hi
    obtain ⟨e, he, hk⟩ := Option.map_eq_some_iff.mp hi
    cases hk
    exact ⟨e.1, e.2.1, he, rfl⟩
  · intro h' hk x hx
    exact nestedKind_stays.all h' (fun b o hb e => hk b o (Nat.ne_of_lt (Heap.lt_size e)) hb e) _ _ (keys x hx).1
  · rw [stored_nodup es [] (by simpa using nd'), List.nil_append] at hd'
    have kp : ∀ b u, s.heap.get? b = some u → h'.get? b = some u := fun b u e => kept b u (fun z => by cases z) e
    have hm : (s.heap.objs.size == sysModules) = false := beq_eq_false_iff_ne.mpr (Nat.ne_of_gt I.big)
    obtain ⟨ob, en, ep, q1, q2, q3, q4, _, q6⟩ := hd'
    have raw : ∀ (P : Program) (w : World), RawD P w h' s.heap.objs.size es := fun P w => by
      refine ⟨hm, ob, en, ep, q1, q2, q3, q4.trans ?_, q6⟩
      apply List.map_congr_left
      intro e he
      show (⟨NestedKey.hash X.w e.1, _, _⟩ : DictEntry) = ⟨NestedKey.hash w e.1, _, _⟩
      rw [hash_any X.w w e.1 (keys e he).2]
    refine ⟨.ref s.heap.objs.size, upd H s.heap.objs.size (dctO s.heap.objs.size es), I.laid (t' := tk) kp (Nat.le_refl _) ?_, rfl, q _ es (I.hok.fresh (Nat.le_refl _)) e1 e2⟩
    exact ⟨raw, ⟨ob, q1⟩, fun h1 h2 p k P w => by
      obtain ⟨y1, o, es', ep', y2, y3⟩ := p P w
      exact ⟨y1, o, es', ep', k _ y2, y3⟩⟩
/-! k in d -/
def rInN (X : Cx) (neg : Bool) : R2 := fun x y H Q => ∃ (b d : Addr) (k : NestedKey) (es : List (NestedKey × Addr × Value)), x = .ref b ∧ y = .ref d ∧ H d = some (dctO d es) ∧ KeyAt X H k b ∧ k.depth ≤ 8 ∧ (∀ e ∈ es, KeyAt X H e.1 e.2.1 ∧ e.1.depth ≤ 8) ∧ Q (.bl (decide (k ∈ es.map (·.1)) != neg)) H
theorem atKey_some (es : List (NestedKey × Addr × Value)) (k : NestedKey) : (atKey es k).isSome = decide (k ∈ es.map (·.1)) := by
  unfold atKey
  rw [Option.isSome_map, Bool.eq_iff_iff, List.find?_isSome]
  simp only [decide_eq_true_eq, List.mem_map]
theorem dict_at {pins : List (Addr × Obj)} {σ : L2.St} {H : Hp} {s : Shared} (I : L2.Inv X pins σ H s) {d : Addr} {es : List (NestedKey × Addr × Value)} (e : H d = some (dctO d es)) (h : ∀ e ∈ es, KeyAt X H e.1 e.2.1 ∧ e.1.depth ≤ 8) :
    (d == sysModules) = false ∧ s.heap.DictOfH (nestedKind X.prog X.w) d es := by
  obtain ⟨raw, _, _⟩ := I.hok d _ e
  obtain ⟨hm, o, en, ep, q1, q2, q3, q4, q5⟩ := raw X.prog X.w
  exact ⟨hm, o, en, ep, q1, q2, q3, q4, fun x hx => ⟨(h x hx).1 pins σ s I, (h x hx).2⟩, q5⟩
theorem op_inN (hu : X.A.units + 65 < cLine) : OpR X (compareOp .In) (rInN X false) := fun pins s σ H x y v u Q I rx ry ⟨b, d, k, es, ex, ey, hd, hk, hdp, he, q⟩ => by
  subst ex
  subst ey
  cases rx
  cases ry
  obtain ⟨hm, dd⟩ := dict_at I hd he
  refine wpAny_in_heap (knd := nestedKind X.prog X.w) (k := k) (by show X.A.units + 1 + 8 < cLine; omega) ⟨hk pins σ s I, hdp⟩ hm dd ?_
  refine ⟨.bl (decide (k ∈ es.map (·.1))), H, I.tok _, by rw [atKey_some]; rfl, by simpa using q⟩
theorem op_notInN (hu : X.A.units + 65 < cLine) : OpR X (compareOp .NotIn) (rInN X true) := fun pins s σ H x y v u Q I rx ry ⟨b, d, k, es, ex, ey, hd, hk, hdp, he, q⟩ => by
  subst ex
  subst ey
  cases rx
  cases ry
  obtain ⟨hm, dd⟩ := dict_at I hd he
  refine notIn_keyed (knd := nestedKind X.prog X.w) (k := k) (kvs := pairsH es) (by show X.A.units + 1 + 8 < cLine; omega) ⟨hk pins σ s I, hdp⟩ hm ⟨es, dd, rfl⟩ ?_
  refine ⟨.bl (!decide (k ∈ es.map (·.1))), H, I.tok _, ?_, by simpa using q⟩
  rw [valueAt_pairsH, Option.isSome_map, atKey_some]
  rfl
end
/-! the readings -/
def pairKeys : List D → Option (List D)
  | [] => some []
  | .tup [k, _] :: ds => (pairKeys ds).map (k :: ·)
  | _ :: _ => none
def keyOk (d : D) : Bool := d.num 8 && match d with
  | .tup _ => true
  | _ => false
def mDictP (mo : MO) : ME := fun env S => (mo env S).bind fun ds S1 => match pairKeys ds with
  | some ks => if ks.all keyOk = true ∧ ks.Nodup then .ok (.dct ks, S1) else .bad
  | none => .bad
def inDct (x d : D) : Option Bool := match d with
  | .dct ks => if keyOk x = true ∧ ks.all keyOk = true then some (decide (x ∈ ks)) else none
  | _ => none
def mInD (neg : Bool) (ma mb : ME) : MT := fun env S => (ma env S).bind fun x S1 => (mb env S1).bind fun y S2 => match inDct x y with
  | some b => .ok (b != neg, S2)
  | none => .bad
def mInDE (neg : Bool) (ma mb : ME) : ME := fun env S => (ma env S).bind fun x S1 => (mb env S1).bind fun y S2 => match inDct x y with
  | some b => .ok (.bl (b != neg), S2)
  | none => .bad
theorem key_ref {K : PySem.W.Frag} {cl : Nat → Addr} {g : G} {d : D} {v : V} (h : keyOk d = true) (r : Rp K cl g d v) : ∃ b, v = .ref b := by
  unfold keyOk at h
  cases d with
  | tup ds => cases r; exact ⟨_, rfl⟩
  | _ => simp at h
theorem key_at {X : Cx} {cl : Nat → Addr} {g : G} {H : Hp} {d : D} {b : Addr} (h : keyOk d = true) (sub : Same g.F H) (r : Rp X.K cl g d (.ref b)) : KeyAt X H d.nk b ∧ d.nk.depth ≤ 8 ∧ DS.plainK d.nk = true := by
  unfold keyOk at h
  rw [Bool.and_eq_true] at h
  have z := D.nk_dp 8 d h.1
  exact ⟨fun pins σ s I => (Rp.key I sub 8 d _ _ h.1 r rfl).1, z.1, z.2.1⟩
theorem pairs_rp {X : Cx} {cl : Nat → Addr} {g : G} {H : Hp} (sub : Same g.F H) : ∀ {ds ks : List D} {vs : List V}, pairKeys ds = some ks → ks.all keyOk = true → RpL X.K cl g ds vs →
    ∃ ps : List Pr, vs = ps.map (fun p => V.ref p.at_) ∧ ps.map (·.k) = ks.map D.nk ∧ (∀ p ∈ ps, SqT X.K H p.at_ [.ref p.b, p.v] ∧ KeyAt X H p.k p.b ∧ p.k.depth ≤ 8 ∧ DS.plainK p.k = true) ∧ RpL X.K cl g ks (ps.map fun p => V.ref p.b)
  | [], ks, _, e, _, r => by
    cases e
    cases r
    exact ⟨[], rfl, rfl, fun p hp => (by cases hp), .nil⟩
  | d :: ds, ks, vs, e, h, r => by
    have dd : ∃ k w, d = .tup [k, w] := by
      unfold pairKeys at e
      split at e
      · rename_i heq; cases heq
      · rename_i k w ds' heq; injection heq with h1 h2; exact ⟨k, w, h1⟩
      · cases e
    obtain ⟨k, w, rfl⟩ := dd
    simp only [pairKeys] at e
    obtain ⟨ks', e1, rfl⟩ := Option.map_eq_some_iff.mp e
    rw [List.all_cons, Bool.and_eq_true] at h
    cases r with
    | cons r1 r2 =>
      obtain ⟨ps, a1, a2, a3, a4⟩ := pairs_rp sub e1 h.2 r2
      cases r1 with
      | @tup a _ us h1 h2 =>
        cases h2 with
        | cons h3 h4 =>
          cases h4 with
          | @cons _ vv _ _ h5 h6 =>
            cases h6
            obtain ⟨b, rfl⟩ := key_ref h.1 h3
            refine ⟨⟨a, k.nk, b, vv⟩ :: ps, by rw [a1]; rfl, by rw [List.map_cons, List.map_cons, a2], fun p hp => ?_, .cons h3 a4⟩
            cases hp with
            | head => exact ⟨DL.Same.seqT sub h1, key_at h.1 sub h3⟩
            | tail _ hp => exact a3 p hp
theorem nk_nodup : ∀ {ks : List D}, ks.all keyOk = true → ks.Nodup → (ks.map D.nk).Nodup
  | [], _, _ => List.nodup_nil
  | k :: ks, h, nd => by
    rw [List.all_cons, Bool.and_eq_true] at h
    rw [List.map_cons, List.nodup_cons]
    refine ⟨fun m => ?_, nk_nodup h.2 (List.nodup_cons.mp nd).2⟩
    obtain ⟨y, hy, e⟩ := List.mem_map.mp m
    have ky := List.all_eq_true.mp h.2 y hy
    have k1 := h.1
    unfold keyOk at ky k1
    rw [Bool.and_eq_true] at ky k1
    exact (List.nodup_cons.mp nd).1 (D.nk_inj 8 y k ky.1 k1.1 e ▸ hy)
section
variable {X : Cx} {cl : Nat → Addr} {W : WX} {pos p : Pos} {a b e : Expr} {ma mb : ME} {mo : MO}
theorem re_dictP (hc : X.calm = true) (hu : X.A.units + 65 < cLine) (hg : Gl X "dict") (hm : X.mg "dict" = none) (he : RO X cl W e mo) (h1 : starEach [e] X.env = (false, eval e X.env) :: starEach [] X.env := by rfl) : RE X cl W (.Call (.Name "dict" p) [e] [] pos) (mDictP mo) :=
  peW (pe_callTy (call_dictN hc hu) hg hm (by decide +kernel) (pa_cons he pa_nil h1) (by decide) (by decide) h1 rfl) fun σ H Q ⟨g, env, S, R, q⟩ => by
    show upO X.K cl W mo σ H _
    refine upO.imp (bindO R q) fun v H1 ⟨g1, S1, ds, a, vs, ev, l1, R1, f1, q0⟩ => ?_
    subst ev
    have q1 := poE q0 l1
    clear q0
    split at q1
    · rename_i ks ek
      split at q1
      · rename_i ok
        obtain ⟨ps, a1, a2, a3, a4⟩ := pairs_rp R1.sub ek ok.1 f1.rp
        refine ⟨a, ps, rfl, by rw [← a1]; exact SqL.of f1.at_, a3, by rw [a2]; exact nk_nodup ok.1 ok.2, fun d es hd e1 e2 => ?_⟩
        have le := g1.lock_le (o := dctO d es) (R1.toRelF.free hd).1
        refine q1 _ _ _ le (R1.lockNew hd) (.dct (xs := es) upd_same (e1.trans a2) ?_)
        rw [e2]
        exact RpL.up le _ _ a4
      · exact q1.elim
    · exact q1.elim
theorem inN_ok {g : G} {S : Store} {H : Hp} {x d : D} {v u : V} {k neg : Bool} {Q : VK} (R : RelF X.K cl g S H) (r1 : Rp X.K cl g x v) (r2 : Rp X.K cl g d u) (e : inDct x d = some k) (q : Q (.bl (k != neg)) H) : rInN X neg v u H Q := by
  unfold inDct at e
  split at e
  · rename_i ks
    split at e
    · rename_i ok
      cases e
      cases r2 with
      | @dct _ dd es h1 h2 h3 =>
        obtain ⟨b, rfl⟩ := key_ref ok.1 r1
        have z := key_at ok.1 R.sub r1
        refine ⟨b, dd, x.nk, es, rfl, rfl, R.sub _ _ h1, z.1, z.2.1, fun y hy => ?_, ?_⟩
        · obtain ⟨j, hj, rfl⟩ := List.getElem_of_mem hy
          obtain ⟨kd, hk, rk⟩ := RpL.get h3 (i := j) (v := .ref (es[j]).2.1) (by rw [List.getElem?_map, List.getElem?_eq_getElem hj]; rfl)
          have ek : (es[j]).1 = kd.nk := by
            have := congrArg (fun l => l[j]?) h2
            simp only [List.getElem?_map, List.getElem?_eq_getElem hj, hk, Option.map_some, Option.some.injEq] at this
            exact this
          have zz := key_at (List.all_eq_true.mp ok.2 kd (List.mem_of_getElem? hk)) R.sub rk
          rw [ek]
          exact ⟨zz.1, zz.2.1⟩
        · have : decide (x.nk ∈ es.map (·.1)) = decide (x ∈ ks) := by
            rw [h2, decide_eq_decide, List.mem_map]
            constructor
            · rintro ⟨y, hy, e⟩
              have ky := List.all_eq_true.mp ok.2 y hy
              have kx := ok.1
              unfold keyOk at ky kx
              rw [Bool.and_eq_true] at ky kx
              exact D.nk_inj 8 y x ky.1 kx.1 e ▸ hy
            · exact fun h => ⟨x, h, rfl⟩
          rw [this]
          exact q
    · cases e
  · cases e
theorem rt_inD (hu : X.A.units + 65 < cLine) (ha : RE X cl W a ma) (hb : RE X cl W b mb) (hm : behindInMarks .In b = false := by rfl) : RT X cl W (.Compare a [.In] [b] pos) (mInD false ma mb) :=
  ptW (pt_cmpR (op_inN hu) ha hb hm) fun σ H Q ⟨g, env, S, R, q⟩ =>
    (bindE R q).imp fun v H1 ⟨g1, S1, d, l1, R1, r1, q1⟩ => (bindE R1 (poT q1 l1)).imp fun u H2 ⟨g2, S2, k, l2, R2, r2, q2⟩ => by
      have q2 := poT q2 l2
      split at q2
      · rename_i b eb
        refine inN_ok R2.toRelF (Rp.up l2 _ _ r1) r2 eb ⟨_, rfl, ?_⟩
        exact q2 g2 H2 (G.le.refl _) R2
      · exact q2.elim
theorem rt_notInD (hu : X.A.units + 65 < cLine) (ha : RE X cl W a ma) (hb : RE X cl W b mb) (hm : behindInMarks .NotIn b = false := by rfl) : RT X cl W (.Compare a [.NotIn] [b] pos) (mInD true ma mb) :=
  ptW (pt_cmpR (op_notInN hu) ha hb hm) fun σ H Q ⟨g, env, S, R, q⟩ =>
    (bindE R q).imp fun v H1 ⟨g1, S1, d, l1, R1, r1, q1⟩ => (bindE R1 (poT q1 l1)).imp fun u H2 ⟨g2, S2, k, l2, R2, r2, q2⟩ => by
      have q2 := poT q2 l2
      split at q2
      · rename_i b eb
        refine inN_ok R2.toRelF (Rp.up l2 _ _ r1) r2 eb ⟨_, rfl, ?_⟩
        exact q2 g2 H2 (G.le.refl _) R2
      · exact q2.elim
theorem re_inD (hu : X.A.units + 65 < cLine) (ha : RE X cl W a ma) (hb : RE X cl W b mb) (hm : behindInMarks .In b = false := by rfl) : RE X cl W (.Compare a [.In] [b] pos) (mInDE false ma mb) :=
  peW (pe_cmpR (op_inN hu) ha hb hm) fun σ H Q ⟨g, env, S, R, q⟩ =>
    (bindE R q).imp fun v H1 ⟨g1, S1, d, l1, R1, r1, q1⟩ => (bindE R1 (poE q1 l1)).imp fun u H2 ⟨g2, S2, k, l2, R2, r2, q2⟩ => by
      have q2 := poE q2 l2
      split at q2
      · rename_i b eb
        exact inN_ok R2.toRelF (Rp.up l2 _ _ r1) r2 eb (q2 g2 H2 _ (G.le.refl _) R2 (.bl _))
      · exact q2.elim
theorem re_notInD (hu : X.A.units + 65 < cLine) (ha : RE X cl W a ma) (hb : RE X cl W b mb) (hm : behindInMarks .NotIn b = false := by rfl) : RE X cl W (.Compare a [.NotIn] [b] pos) (mInDE true ma mb) :=
  peW (pe_cmpR (op_notInN hu) ha hb hm) fun σ H Q ⟨g, env, S, R, q⟩ =>
    (bindE R q).imp fun v H1 ⟨g1, S1, d, l1, R1, r1, q1⟩ => (bindE R1 (poE q1 l1)).imp fun u H2 ⟨g2, S2, k, l2, R2, r2, q2⟩ => by
      have q2 := poE q2 l2
      split at q2
      · rename_i b eb
        exact inN_ok R2.toRelF (Rp.up l2 _ _ r1) r2 eb (q2 g2 H2 _ (G.le.refl _) R2 (.bl _))
      · exact q2.elim
end
end DL

set_option Elab.async false
set_option linter.all false
set_option maxRecDepth 100000
set_option maxHeartbeats 1000000
set_option autoImplicit false
namespace DL
open PySem PySem.Spec PyProof.Rows L2
/-! ### o.m(e, ..) of an own class -/
section
variable {X : Cx} {CX : CXT} {k : Nat} {f C : Addr} {fd : FuncData} {ps : List Str} {sp : Sp} {E : L2.St → XK}
def tMethD (C : Addr) (m : Str) (sp : Sp) (E : L2.St → XK) (ta : TE) (t : TA) : TE := fun σ H Q => ta σ H fun x H1 => ∃ a dx fs, x = .ref a ∧ H1 a = some (.ins C dx fs) ∧ fs.lookup m = none ∧ t σ H1 fun vs H2 => sp (x :: vs) H2 Q (E σ)
theorem pe_methD {pl : Sem Bool} {o e : Expr} {es : List Expr} {ta : TE} {t : TA} {m : Str} {apos pos : Pos} (he : PE X o ta) (c : Cls X.K C) (hm : Meth X.K C m f) (F : FnOk X.prog X.w X.K X.mg X.base CX k f fd ps sp) (hr : Room k X.A) (hb : Binds X.K fd ps []) (hx : ∀ σ, PassesAt CX X σ (E σ)) (ha : PA X (e :: es) t)
    (h1 : starEach (e :: es) X.env = (false, eval e X.env) :: starEach es X.env := by rfl) (h2 : (backTo pos (starEach es X.env)).any (·.1) = false := by rfl)
    (h3 : eval (.Call (.Attribute o m apos) (e :: es) [] pos) X.env = (eval o X.env >>= fun ov => standAt apos.atName >>= fun _ => holding [ov] (getMethod ov m pl) >>= fun p => callWith pos p.1 p.2 (backTo pos (starEach (e :: es) X.env)) (backToKw pos (keywordEach [] X.env))) := by rfl) :
    PE X (.Call (.Attribute o m apos) (e :: es) [] pos) (tMethD C m sp E ta t) := ⟨fun pins s σ H Q I h => PySem.W.methodCall_KW (pl := pl) (thn (he.run pins s σ H _ I h) fun u s1 ⟨x, H1, I1, rx, a, dx, fs, ex, ea, l, q⟩ => by
  subst ex
  obtain rfl : u = Value.ref a := rx
  refine getmeth_ok I1 ea c hm l (PySem.W.callWith_K (first := [.ref a]) (h₀ := X.base) I.ok.mod.kin hm.kp (thn (ha.run pos pins s1 σ H1 _ I1 q) fun us s2 ⟨vs, H2, I2, r, q2⟩ => ⟨I2.kIn, ?_⟩) h1 h2)
  exact run_fnSD (us := .ref a :: us) (vs := .ref a :: vs) (ds := []) (dvs := []) F hr hb .nil (hx σ) I2 (.cons rfl r) (by rw [List.append_nil]; exact q2)) h3⟩
theorem pe_methD0 {pl : Sem Bool} {o : Expr} {ta : TE} {m : Str} {apos pos : Pos} (he : PE X o ta) (c : Cls X.K C) (hm : Meth X.K C m f) (F : FnOk X.prog X.w X.K X.mg X.base CX k f fd ps sp) (hr : Room k X.A) (hb : Binds X.K fd ps []) (hx : ∀ σ, PassesAt CX X σ (E σ))
    (h3 : eval (.Call (.Attribute o m apos) [] [] pos) X.env = (eval o X.env >>= fun ov => standAt apos.atName >>= fun _ => holding [ov] (getMethod ov m pl) >>= fun p => callWith pos p.1 p.2 (backTo pos (starEach [] X.env)) (backToKw pos (keywordEach [] X.env))) := by rfl) :
    PE X (.Call (.Attribute o m apos) [] [] pos) (tMethD C m sp E ta tNil) := ⟨fun pins s σ H Q I h => PySem.W.methodCall_KW (pl := pl) (thn (he.run pins s σ H _ I h) fun u s1 ⟨x, H1, I1, rx, a, dx, fs, ex, ea, l, q⟩ => by
  subst ex
  obtain rfl : u = Value.ref a := rx
  exact getmeth_ok I1 ea c hm l (PySem.W.callWith_K0 (first := [.ref a]) I1.kIn hm.kp (run_fnSD (us := [.ref a]) (vs := [.ref a]) (ds := []) (dvs := []) F hr hb .nil (hx σ) I1 (.cons rfl .nil) (by rw [List.append_nil]; exact q)))) h3⟩
end
structure Mt (P : Program) (w : World) (K : PySem.W.Frag) (mg : Str → Option Value) (base : Heap) (cl : Nat → Addr) (k : Nat) (c : Nat) (m : Str) (n : Nat) (fm : MFn) : Prop where
  ex : ∃ (f : Addr) (fd : FuncData) (ps : List Str), Meth K (cl c) m f ∧ Binds K fd ps [] ∧ FnOk P w K mg base (L2.CX P w) k f fd ps (spOf K cl (n + 1) fm)
/-- an object of the class, without an attribute of that name -/
def objOk (c : Nat) (m : Str) (S : Store) : D → Bool
  | .ins c' ks _ => decide (c' = c) && !ks.contains m
  | .loc n => match S[n]? with
    | some (.ins c' ks _) => decide (c' = c) && !ks.contains m
    | _ => false
  | _ => false
def mMethC (c : Nat) (m : Str) (fm : MFn) (mo : ME) (ma : MA) : ME := fun env S => (mo env S).bind fun d S1 => if objOk c m S1 d = true then (ma env S1).bind fun ds S2 => match fm (d :: ds) S2 with
    | .ret d S3 => .ok (d, S3)
    | .exc e S3 => .exc e S3
    | _ => .bad
  else .bad
def mMethCO (c : Nat) (m : Str) (fm : MFn) (mo : ME) (ma : MA) : MO := fun env S => (mo env S).bind fun d S1 => if objOk c m S1 d = true then (ma env S1).bind fun ds S2 => match fm (d :: ds) S2 with
    | .own d S3 => .ok (d, S3)
    | .exc e S3 => .exc e S3
    | _ => .bad
  else .bad
theorem lookup_none {m : Str} : ∀ {ks : List Str} {vs : List V}, ks.contains m = false → (ks.zip vs).lookup m = none
  | [], _, _ => by simp
  | k :: ks, [], _ => by simp
  | k :: ks, v :: vs, h => by
    rw [List.contains_cons, Bool.or_eq_false_iff] at h
    rw [List.zip_cons_cons, List.lookup_cons, h.1]
    exact lookup_none h.2
theorem obj_at {K : PySem.W.Frag} {cl : Nat → Addr} {g : G} {S : Store} {H : Hp} {c : Nat} {m : Str} {d : D} {v : V} (R : RelF K cl g S H) (r : Rp K cl g d v) (h : objOk c m S d = true) : ∃ a dx fs, v = .ref a ∧ H a = some (.ins (cl c) dx fs) ∧ fs.lookup m = none := by
  cases d with
  | ins c' ks ds =>
    simp only [objOk, Bool.and_eq_true, decide_eq_true_eq, Bool.not_eq_true'] at h
    obtain ⟨rfl, h⟩ := h
    cases r with
    | @ins _ _ _ a dx vs h1 h2 h3 => exact ⟨a, dx, _, rfl, R.sub _ _ h1, lookup_none h⟩
  | loc n =>
    simp only [objOk] at h
    split at h
    · rename_i c' ks ds hS
      simp only [Bool.and_eq_true, decide_eq_true_eq, Bool.not_eq_true'] at h
      obtain ⟨rfl, h⟩ := h
      cases r with
      | @loc _ a hm =>
        obtain ⟨dx, vs, q, _⟩ := R.sto n _ a hS hm
        exact ⟨a, dx, _, rfl, q, lookup_none h⟩
    · cases h
  | _ => simp [objOk] at h
section
variable {X : Cx} {cl : Nat → Addr} {W : WX} {apos pos : Pos} {o e : Expr} {es : List Expr} {mo : ME} {ma : MA} {k n c : Nat} {fm : MFn} {m : Str}
theorem re_meth {pl : Sem Bool} (M : Mt X.prog X.w X.K X.mg X.base cl k c m n fm) (cls : Cls X.K (cl c)) (hr : Room k X.A) (tk : Takes X W) (ho : RE X cl W o mo) (ha : RA X cl W (e :: es) ma) (hn : Hands n ma)
    (h1 : starEach (e :: es) X.env = (false, eval e X.env) :: starEach es X.env := by rfl) (h2 : (backTo pos (starEach es X.env)).any (·.1) = false := by rfl)
    (h3 : eval (.Call (.Attribute o m apos) (e :: es) [] pos) X.env = (eval o X.env >>= fun ov => standAt apos.atName >>= fun _ => holding [ov] (getMethod ov m pl) >>= fun p => callWith pos p.1 p.2 (backTo pos (starEach (e :: es) X.env)) (backToKw pos (keywordEach [] X.env))) := by rfl) :
    RE X cl W (.Call (.Attribute o m apos) (e :: es) [] pos) (mMethC c m fm mo ma) := by
  obtain ⟨f, fd, ps, y1, y2, y3⟩ := M.ex
  refine peW (pe_methD (pl := pl) ho cls y1 y3 hr y2 (fun σ => passAt tk σ) ha h1 h2 h3) fun σ H Q ⟨g, env, S, R, q⟩ => (bindE R q).imp fun v H1 ⟨g1, S1, d, l1, R1, r1, q1⟩ => ?_
  have q2 := poE q1 l1
  split at q2
  · rename_i ok
    obtain ⟨a, dx, fs, ev, y4, y5⟩ := obj_at R1.toRelF r1 ok
    subst ev
    refine ⟨a, dx, fs, rfl, y4, y5, g1, env, S1, R1, ?_⟩
    cases em : ma env S1 with
    | ok p =>
      rw [em] at q2
      intro g2 H2 vs le R2 r2
      exact sp_ret R2 (.cons (Rp.up le _ _ r1) r2) (by simp [hn _ _ _ _ em]) (poE q2 le)
    | exc x S2 => rw [em] at q2; exact q2
    | bad => rw [em] at q2; exact q2
  · exact q2.elim
theorem ro_meth {pl : Sem Bool} (M : Mt X.prog X.w X.K X.mg X.base cl k c m n fm) (cls : Cls X.K (cl c)) (hr : Room k X.A) (tk : Takes X W) (ho : RE X cl W o mo) (ha : RA X cl W (e :: es) ma) (hn : Hands n ma)
    (h1 : starEach (e :: es) X.env = (false, eval e X.env) :: starEach es X.env := by rfl) (h2 : (backTo pos (starEach es X.env)).any (·.1) = false := by rfl)
    (h3 : eval (.Call (.Attribute o m apos) (e :: es) [] pos) X.env = (eval o X.env >>= fun ov => standAt apos.atName >>= fun _ => holding [ov] (getMethod ov m pl) >>= fun p => callWith pos p.1 p.2 (backTo pos (starEach (e :: es) X.env)) (backToKw pos (keywordEach [] X.env))) := by rfl) :
    RO X cl W (.Call (.Attribute o m apos) (e :: es) [] pos) (mMethCO c m fm mo ma) := by
  obtain ⟨f, fd, ps, y1, y2, y3⟩ := M.ex
  refine peW (pe_methD (pl := pl) ho cls y1 y3 hr y2 (fun σ => passAt tk σ) ha h1 h2 h3) fun σ H Q ⟨g, env, S, R, q⟩ => (bindE R q).imp fun v H1 ⟨g1, S1, d, l1, R1, r1, q1⟩ => ?_
  have q2 := poO q1 l1
  split at q2
  · rename_i ok
    obtain ⟨a, dx, fs, ev, y4, y5⟩ := obj_at R1.toRelF r1 ok
    subst ev
    refine ⟨a, dx, fs, rfl, y4, y5, g1, env, S1, R1, ?_⟩
    cases em : ma env S1 with
    | ok p =>
      rw [em] at q2
      intro g2 H2 vs le R2 r2
      exact sp_own R2 (.cons (Rp.up le _ _ r1) r2) (by simp [hn _ _ _ _ em]) (poO q2 le)
    | exc x S2 => rw [em] at q2; exact q2
    | bad => rw [em] at q2; exact q2
  · exact q2.elim
theorem re_meth0 {pl : Sem Bool} (M : Mt X.prog X.w X.K X.mg X.base cl k c m 0 fm) (cls : Cls X.K (cl c)) (hr : Room k X.A) (tk : Takes X W) (ho : RE X cl W o mo)
    (h3 : eval (.Call (.Attribute o m apos) [] [] pos) X.env = (eval o X.env >>= fun ov => standAt apos.atName >>= fun _ => holding [ov] (getMethod ov m pl) >>= fun p => callWith pos p.1 p.2 (backTo pos (starEach [] X.env)) (backToKw pos (keywordEach [] X.env))) := by rfl) :
    RE X cl W (.Call (.Attribute o m apos) [] [] pos) (mMethC c m fm mo mNil) := by
  obtain ⟨f, fd, ps, y1, y2, y3⟩ := M.ex
  refine peW (pe_methD0 (pl := pl) ho cls y1 y3 hr y2 (fun σ => passAt tk σ) h3) fun σ H Q ⟨g, env, S, R, q⟩ => (bindE R q).imp fun v H1 ⟨g1, S1, d, l1, R1, r1, q1⟩ => ?_
  have q2 := poE q1 l1
  split at q2
  · rename_i ok
    obtain ⟨a, dx, fs, ev, y4, y5⟩ := obj_at R1.toRelF r1 ok
    subst ev
    exact ⟨a, dx, fs, rfl, y4, y5, sp_ret R1 (.cons r1 .nil) rfl q2⟩
  · exact q2.elim
end
end DL

set_option Elab.async false
set_option linter.all false
set_option maxRecDepth 100000
set_option maxHeartbeats 1000000
set_option autoImplicit false
namespace DL
open PySem PySem.Spec PyProof.Rows L2

/-! what is wanted of a result, read forward -/
def RQ0 {α : Type} (r : Res (α × Store)) (Q : α → Store → Prop) (X : Ex → Store → Prop) : Prop := match r with
  | .ok (a, S) => Q a S
  | .exc e S => X e S
  | .bad => False
def OQ0 (o : Out) (Q : Out → Prop) : Prop := Q o
def FQ0 (r : FRes) (Q : D → Store → Prop) (X : Ex → Store → Prop) : Prop := match r with
  | .ret d S => Q d S
  | .exc e S => X e S
  | _ => False
def GQ0 (r : FRes) (Q : List D → Store → Prop) (X : Ex → Store → Prop) : Prop := match r with
  | .own d S => Q d S
  | .exc e S => X e S
  | _ => False
def SQ0 {α : Type} (o : Option α) (Q : α → Prop) : Prop := match o with
  | some a => Q a
  | none => False
def nox : Ex → Store → Prop := fun _ _ => False
def BQ0 (b : Bool) (P P' : Prop) : Prop := (b = true → P) ∧ (b = false → P')
def sq0 (n : MS) (Q : Out → Prop) : Out → Prop := fun o => match o with
  | .nx e S => OQ0 (n e S) Q
  | o => Q o
def lq0 (J : Env → Store → Prop) (Q : Out → Prop) : Out → Prop := fun o => match o with
  | .nx e S => J e S
  | .ct e S => J e S
  | .bk e S => Q (.nx e S)
  | .bad => False
  | o => Q o
section
section
variable {α β : Type} {Q Q' : α → Store → Prop} {X : Ex → Store → Prop} {r : Res (α × Store)} {S S1 : Store} {a : α}
theorem RQ0.mono_0 (h : RQ0 r Q X) (k : ∀ a S, Q a S → Q' a S) : RQ0 r Q' X := by
  cases r with
  | ok p => exact k _ _ h
  | exc e S => exact h
  | bad => exact h
theorem rp_eq_0 (h : r = .ok (a, S1)) (q : Q a S1) : RQ0 r Q X := by rw [h]; exact q
theorem rp_bind_0 {k : α → Store → Res (β × Store)} {P : β → Store → Prop} (h : RQ0 r (fun a S => RQ0 (k a S) P X) X) : RQ0 (r.bind k) P X := by
  cases r with
  | ok p => exact h
  | exc e S => exact h
  | bad => exact h
theorem rp_get_0 (h : RQ0 r (fun a' S' => a' = a ∧ S' = S1) (fun _ _ => False)) : r = .ok (a, S1) := by
  cases r with
  | ok p => obtain ⟨x, y⟩ := p; obtain ⟨rfl, rfl⟩ := h; rfl
  | exc e S => exact h.elim
  | bad => exact h.elim
theorem rp_ex_0 (h : RQ0 r Q (fun _ _ => False)) : ∃ a S1, r = .ok (a, S1) ∧ Q a S1 := by
  cases r with
  | ok p => exact ⟨p.1, p.2, rfl, h⟩
  | exc e S => exact h.elim
  | bad => exact h.elim
theorem rp_match_0 {o : Option α} {f : α → Res (β × Store)} {P : β → Store → Prop} (h : SQ0 o (fun a => RQ0 (f a) P X)) : RQ0 (match o with
  | some a => f a
  | none => .bad) P X := by
  cases o with
  | some a => exact h
  | none => exact h.elim
theorem rp_ite_0 {c : Prop} [Decidable c] {x : Res (β × Store)} {P : β → Store → Prop} (hc : c) (h : RQ0 x P X) : RQ0 (if c then x else .bad) P X := by rw [if_pos hc]; exact h
theorem rp_bp_0 {b : Bool} {x y : Res (β × Store)} {P : β → Store → Prop} (h : BQ0 b (RQ0 x P X) (RQ0 y P X)) : RQ0 (if b = true then x else y) P X := by
  cases b with
  | true => exact h.1 rfl
  | false => exact h.2 rfl
theorem sp_cases_0 {o : Option α} {Q : α → Prop} (h : SQ0 o Q) : ∃ a, o = some a ∧ Q a := by
  cases o with
  | some a => exact ⟨a, rfl, h⟩
  | none => exact h.elim
theorem sp_some_0 {Q : α → Prop} (h : Q a) : SQ0 (some a) Q := h
theorem sp_of_0 {o : Option α} {Q : α → Prop} (h : o = some a) (k : Q a) : SQ0 o Q := by rw [h]; exact k
theorem sp_mono_0 {o : Option α} {Q Q' : α → Prop} (h : SQ0 o Q) (k : ∀ a, Q a → Q' a) : SQ0 o Q' := by
  cases o with
  | some a => exact k _ h
  | none => exact h
theorem sp_bind_0 {o : Option α} {f : α → Option β} {Q : β → Prop} (h : SQ0 o (fun a => SQ0 (f a) Q)) : SQ0 (o.bind f) Q := by
  cases o with
  | some a => exact h
  | none => exact h
theorem sp_map_0 {o : Option α} {f : α → β} {Q : β → Prop} (h : SQ0 o (fun a => Q (f a))) : SQ0 (o.map f) Q := by
  cases o with
  | some a => exact h
  | none => exact h
theorem sp_ite_0 {c : Prop} [Decidable c] {x : Option β} {P : β → Prop} (hc : c) (h : SQ0 x P) : SQ0 (if c then x else none) P := by rw [if_pos hc]; exact h
theorem bp_t_0 {P P' : Prop} (h : P) : BQ0 true P P' := ⟨fun _ => h, fun z => (nomatch z)⟩
theorem bp_f_0 {P P' : Prop} (h : P') : BQ0 false P P' := ⟨fun z => (nomatch z), fun _ => h⟩
theorem bp_dt_0 {c : Prop} [Decidable c] {P P' : Prop} (hc : c) (h : P) : BQ0 (decide c) P P' := ⟨fun _ => h, fun z => absurd hc (of_decide_eq_false z)⟩
theorem bp_df_0 {c : Prop} [Decidable c] {P P' : Prop} (hc : ¬c) (h : P') : BQ0 (decide c) P P' := ⟨fun z => absurd (of_decide_eq_true z) hc, fun _ => h⟩
theorem bp_ndt_0 {c : Prop} [Decidable c] {P P' : Prop} (hc : c) (h : P') : BQ0 (!decide c) P P' := by rw [decide_eq_true hc]; exact bp_f_0 h
theorem bp_ndf_0 {c : Prop} [Decidable c] {P P' : Prop} (hc : ¬c) (h : P) : BQ0 (!decide c) P P' := by rw [decide_eq_false hc]; exact bp_t_0 h
theorem bp_nt_0 {P P' : Prop} (h : P') : BQ0 (!true) P P' := bp_f_0 h
theorem bp_nf_0 {P P' : Prop} (h : P) : BQ0 (!false) P P' := bp_t_0 h
theorem bp_nn_0 {b : Bool} {P P' : Prop} (h : BQ0 b P' P) : BQ0 (!b) P P' := by
  cases b with
  | true => exact bp_f_0 (h.1 rfl)
  | false => exact bp_t_0 (h.2 rfl)
theorem bp_yb_0 {b : Bool} {P P' : Prop} (k : b = false → P') (h : b = true → P) : BQ0 b P P' := ⟨h, k⟩
theorem bp_by_0 {b : Bool} {P P' : Prop} (h : b = true → P) (k : b = false → P') : BQ0 b P P' := ⟨h, k⟩
end
/-! ### expressions -/
section
variable {env : Env} {S : Store} {X : Ex → Store → Prop} {Q : D → Store → Prop} {QA : List D → Store → Prop} {QT : Bool → Store → Prop} {QL : Lk → Store → Prop} {QP : Option Int → Store → Prop}
variable {ma mb mc m n : ME} {ml ml' : ML} {mo mo' : MO} {as : MA} {t t' : MT} {d : D} {i : Nat} {fm : MFn} {mi : MI}
theorem rp_c_0 (h : Q d S) : RQ0 (mC d env S) Q X := h
theorem rp_v_0 (e : env[i]? = some (some (.val d))) (h : Q d S) : RQ0 (mV i env S) Q X := rp_eq_0 (by simp only [mV, e]) h
theorem rp_lo_0 {ds : List D} (e : env[i]? = some (some (.own ds))) (h : QL (.slot i) S) : RQ0 (mLO i env S) QL X := rp_eq_0 (by simp only [mLO, e]) h
theorem rp_lv_0 (h : RQ0 (m env S) (fun d S1 => QL (.val d) S1) X) : RQ0 (mLV m env S) QL X := rp_bind_0 h
theorem rp_op_0 {f : D → D → Store → Res (D × Store)} (h : RQ0 (ma env S) (fun x S1 => RQ0 (mb env S1) (fun y S2 => RQ0 (f x y S2) Q X) X) X) : RQ0 (mOp f ma mb env S) Q X := rp_bind_0 (h.mono_0 fun _ _ h => rp_bind_0 h)
theorem rp_fAdd_0 {x y : Int} (h : Q (.int (x + y)) S) : RQ0 (fAdd (.int x) (.int y) S) Q X := h
theorem rp_fSub_0 {x y : Int} (h : Q (.int (x - y)) S) : RQ0 (fSub (.int x) (.int y) S) Q X := h
theorem rp_fMul_0 {x y : Int} (b : x.natAbs.log2 + y.natAbs.log2 < 1000000) (h : Q (.int (x * y)) S) : RQ0 (fMul (.int x) (.int y) S) Q X := rp_ite_0 b h
theorem rp_fDiv_0 {x y : Int} (b : 0 < y ∧ y.natAbs.log2 < 9000) (h : Q (.int (x / y)) S) : RQ0 (fDiv (.int x) (.int y) S) Q X := rp_ite_0 b h
theorem rp_fMod_0 {x y : Int} (b : 0 < y) (h : Q (.int (x % y)) S) : RQ0 (fMod (.int x) (.int y) S) Q X := rp_ite_0 b h
theorem rp_fMin2_0 {x y : Int} (h : Q (.int (if y < x then y else x)) S) : RQ0 (fMin2 (.int x) (.int y) S) Q X := h
theorem rp_fMax2_0 {x y : Int} (h : Q (.int (if y > x then y else x)) S) : RQ0 (fMax2 (.int x) (.int y) S) Q X := h
theorem rp_fAddT_0 {x y : List D} (b : x.length + y.length ≤ 16777216) (h : Q (.tup (x ++ y)) S) : RQ0 (fAdd (.tup x) (.tup y) S) Q X := rp_ite_0 b h
theorem rp_cmp_0 {c : D → D → Option Bool} (h : RQ0 (ma env S) (fun x S1 => RQ0 (mb env S1) (fun y S2 => SQ0 (c x y) fun k => Q (.bl k) S2) X) X) : RQ0 (mCmp c ma mb env S) Q X := rp_bind_0 (h.mono_0 fun _ _ h => rp_bind_0 (h.mono_0 fun _ _ h => (by obtain ⟨a, e, h⟩ := sp_cases_0 h; (try dsimp only); rw [e]; exact h)))
theorem rp_cmpT_0 {c : D → D → Option Bool} (h : RQ0 (ma env S) (fun x S1 => RQ0 (mb env S1) (fun y S2 => SQ0 (c x y) fun k => QT k S2) X) X) : RQ0 (mCmpT c ma mb env S) QT X := rp_bind_0 (h.mono_0 fun _ _ h => rp_bind_0 (h.mono_0 fun _ _ h => (by obtain ⟨a, e, h⟩ := sp_cases_0 h; (try dsimp only); rw [e]; exact h)))
theorem rp_chain_0 {c c' : D → D → Option Bool} (h : RQ0 (ma env S) (fun x S1 => RQ0 (mb env S1) (fun y S2 => SQ0 (c x y) fun k => BQ0 k (RQ0 (mc env S2) (fun z S3 => SQ0 (c' y z) fun k => Q (.bl k) S3) X) (Q (.bl false) S2)) X) X) : RQ0 (mChain c c' ma mb mc env S) Q X :=
  rp_bind_0 (h.mono_0 fun x _ h => rp_bind_0 (h.mono_0 fun y _ h => by
    cases e : c x y with
    | none => rw [e] at h; exact h.elim
    | some k =>
      rw [e] at h
      cases k with
      | true => exact rp_bind_0 ((h.1 rfl).mono_0 fun _ _ h => (by obtain ⟨a, e, h⟩ := sp_cases_0 h; (try dsimp only); rw [e]; exact h))
      | false => exact h.2 rfl))
theorem rp_chainT_0 {c c' : D → D → Option Bool} (h : RQ0 (ma env S) (fun x S1 => RQ0 (mb env S1) (fun y S2 => SQ0 (c x y) fun k => BQ0 k (RQ0 (mc env S2) (fun z S3 => SQ0 (c' y z) fun k => QT k S3) X) (QT false S2)) X) X) : RQ0 (mChainT c c' ma mb mc env S) QT X :=
  rp_bind_0 (h.mono_0 fun x _ h => rp_bind_0 (h.mono_0 fun y _ h => by
    cases e : c x y with
    | none => rw [e] at h; exact h.elim
    | some k =>
      rw [e] at h
      cases k with
      | true => exact rp_bind_0 ((h.1 rfl).mono_0 fun _ _ h => (by obtain ⟨a, e, h⟩ := sp_cases_0 h; (try dsimp only); rw [e]; exact h))
      | false => exact h.2 rfl))
/-- both ends looked at: what they say together -/
theorem rp_chainP_0 {c c' : D → D → Option Bool} (h : RQ0 (ma env S) (fun x S1 => RQ0 (mb env S1) (fun y S2 => SQ0 (c x y) fun k => RQ0 (mc env S2) (fun z S3 => S3 = S2 ∧ SQ0 (c' y z) fun k' => Q (.bl (k && k')) S2) nox) X) X) : RQ0 (mChain c c' ma mb mc env S) Q X :=
  rp_chain_0 (h.mono_0 fun x _ h => h.mono_0 fun y S2 h => sp_mono_0 h fun k h => by
    obtain ⟨z, S3, e, rfl, h⟩ := rp_ex_0 h
    cases e' : c' y z with
    | none => rw [e'] at h; exact h.elim
    | some k' =>
      rw [e'] at h
      cases k with
      | true => exact bp_t_0 (by rw [e]; show SQ0 _ _; rw [e']; exact h)
      | false => exact bp_f_0 h)
theorem rp_chainTP_0 {c c' : D → D → Option Bool} (h : RQ0 (ma env S) (fun x S1 => RQ0 (mb env S1) (fun y S2 => SQ0 (c x y) fun k => RQ0 (mc env S2) (fun z S3 => S3 = S2 ∧ SQ0 (c' y z) fun k' => QT (k && k') S2) nox) X) X) : RQ0 (mChainT c c' ma mb mc env S) QT X :=
  rp_chainT_0 (h.mono_0 fun x _ h => h.mono_0 fun y S2 h => sp_mono_0 h fun k h => by
    obtain ⟨z, S3, e, rfl, h⟩ := rp_ex_0 h
    cases e' : c' y z with
    | none => rw [e'] at h; exact h.elim
    | some k' =>
      rw [e'] at h
      cases k with
      | true => exact bp_t_0 (by rw [e]; show SQ0 _ _; rw [e']; exact h)
      | false => exact bp_f_0 h)
theorem rp_tru_0 (h : RQ0 (ml env S) (fun k S1 => SQ0 (truth env S1 k) fun b => QT b S1) X) : RQ0 (mTru ml env S) QT X := rp_bind_0 (h.mono_0 fun _ _ h => (by obtain ⟨a, e, h⟩ := sp_cases_0 h; (try dsimp only); rw [e]; exact h))
theorem sp_tru_bl_0 {b : Bool} {P : Bool → Prop} (h : P b) : SQ0 (truth env S (.val (.bl b))) P := h
theorem sp_tru_non_0 {P : Bool → Prop} (h : P false) : SQ0 (truth env S (.val .non)) P := h
theorem sp_tru_int_0 {x : Int} {P : Bool → Prop} (h : P (x != 0)) : SQ0 (truth env S (.val (.int x))) P := h
theorem sp_tru_lst_0 {ds : List D} {P : Bool → Prop} (h : P (!ds.isEmpty)) : SQ0 (truth env S (.val (.lst ds))) P := h
theorem sp_tru_tup_0 {ds : List D} {P : Bool → Prop} (h : P (!ds.isEmpty)) : SQ0 (truth env S (.val (.tup ds))) P := h
theorem sp_tru_slot_0 {ds : List D} {P : Bool → Prop} (e : env[i]? = some (some (.own ds))) (h : P (!ds.isEmpty)) : SQ0 (truth env S (.slot i)) P := sp_of_0 (a := !ds.isEmpty) (by simp only [truth, ctL, e]) h
theorem sp_tru_loc_0 {n : Nat} {ds : List D} {P : Bool → Prop} (e : S[n]? = some (.lst ds)) (h : P (!ds.isEmpty)) : SQ0 (truth env S (.val (.loc n))) P := sp_of_0 (a := !ds.isEmpty) (by simp only [truth, ctL, ctOf, e]) h
theorem rp_notT_0 (h : RQ0 (t env S) (fun b S1 => QT (!b) S1) X) : RQ0 (mNotT t env S) QT X := rp_bind_0 h
theorem rp_andT_0 (h : RQ0 (t env S) (fun b S1 => BQ0 b (RQ0 (t' env S1) QT X) (QT false S1)) X) : RQ0 (mAndT t t' env S) QT X := rp_bind_0 (h.mono_0 fun _ _ h => rp_bp_0 h)
theorem rp_orT_0 (h : RQ0 (t env S) (fun b S1 => BQ0 b (QT true S1) (RQ0 (t' env S1) QT X)) X) : RQ0 (mOrT t t' env S) QT X := rp_bind_0 (h.mono_0 fun _ _ h => rp_bp_0 h)
theorem rp_andTP_0 (h : RQ0 (t env S) (fun b S1 => RQ0 (t' env S1) (fun c S2 => S2 = S1 ∧ QT (b && c) S1) nox) X) : RQ0 (mAndT t t' env S) QT X := rp_andT_0 (h.mono_0 fun b S1 h => by
  obtain ⟨z, S3, e, rfl, h⟩ := rp_ex_0 h
  cases b with
  | true => exact bp_t_0 (by rw [e]; exact h)
  | false => exact bp_f_0 h)
theorem rp_orTP_0 (h : RQ0 (t env S) (fun b S1 => RQ0 (t' env S1) (fun c S2 => S2 = S1 ∧ QT (b || c) S1) nox) X) : RQ0 (mOrT t t' env S) QT X := rp_orT_0 (h.mono_0 fun b S1 h => by
  obtain ⟨z, S3, e, rfl, h⟩ := rp_ex_0 h
  cases b with
  | true => exact bp_t_0 h
  | false => exact bp_f_0 (by rw [e]; exact h))
theorem rp_and_0 (h : RQ0 (ma env S) (fun x S1 => SQ0 (truth env S1 (.val x)) fun b => BQ0 b (RQ0 (mb env S1) Q X) (Q x S1)) X) : RQ0 (mAnd ma mb env S) Q X := rp_bind_0 (h.mono_0 fun x S1 h => by
  cases e : truth env S1 (.val x) with
  | none => rw [e] at h; exact h.elim
  | some b => rw [e] at h; cases b with
    | true => exact h.1 rfl
    | false => exact h.2 rfl)
theorem rp_or_0 (h : RQ0 (ma env S) (fun x S1 => SQ0 (truth env S1 (.val x)) fun b => BQ0 b (Q x S1) (RQ0 (mb env S1) Q X)) X) : RQ0 (mOr ma mb env S) Q X := rp_bind_0 (h.mono_0 fun x S1 h => by
  cases e : truth env S1 (.val x) with
  | none => rw [e] at h; exact h.elim
  | some b => rw [e] at h; cases b with
    | true => exact h.1 rfl
    | false => exact h.2 rfl)
theorem rp_andP_0 (h : RQ0 (ma env S) (fun x S1 => RQ0 (mb env S1) (fun y S2 => S2 = S1 ∧ ∃ b c, x = .bl b ∧ y = .bl c ∧ Q (.bl (b && c)) S1) nox) X) : RQ0 (mAnd ma mb env S) Q X := rp_and_0 (h.mono_0 fun x S1 h => by
  obtain ⟨z, S3, e, rfl, b, c, rfl, rfl, h⟩ := rp_ex_0 h
  cases b with
  | true => exact bp_t_0 (by rw [e]; exact h)
  | false => exact bp_f_0 h)
theorem rp_orP_0 (h : RQ0 (ma env S) (fun x S1 => RQ0 (mb env S1) (fun y S2 => S2 = S1 ∧ ∃ b c, x = .bl b ∧ y = .bl c ∧ Q (.bl (b || c)) S1) nox) X) : RQ0 (mOr ma mb env S) Q X := rp_or_0 (h.mono_0 fun x S1 h => by
  obtain ⟨z, S3, e, rfl, b, c, rfl, rfl, h⟩ := rp_ex_0 h
  cases b with
  | true => exact bp_t_0 h
  | false => exact bp_f_0 (by rw [e]; exact h))
theorem rp_not_0 (h : RQ0 (m env S) (fun x S1 => SQ0 (truth env S1 (.val x)) fun b => Q (.bl (!b)) S1) X) : RQ0 (mNot m env S) Q X := rp_bind_0 (h.mono_0 fun _ _ h => (by obtain ⟨a, e, h⟩ := sp_cases_0 h; (try dsimp only); rw [e]; exact h))
theorem rp_if_0 (h : RQ0 (t env S) (fun b S1 => BQ0 b (RQ0 (ma env S1) Q X) (RQ0 (mb env S1) Q X)) X) : RQ0 (mIf t ma mb env S) Q X := rp_bind_0 (h.mono_0 fun _ _ h => rp_bp_0 h)
theorem rp_ifO_0 (h : RQ0 (t env S) (fun b S1 => BQ0 b (RQ0 (mo env S1) QA X) (RQ0 (mo' env S1) QA X)) X) : RQ0 (mIfO t mo mo' env S) QA X := rp_bind_0 (h.mono_0 fun _ _ h => rp_bp_0 h)
theorem rp_neg_0 (h : RQ0 (m env S) (fun y S1 => ∃ x, y = .int x ∧ Q (.int (-x)) S1) X) : RQ0 (mNeg m env S) Q X := rp_bind_0 (h.mono_0 fun y S1 h => by obtain ⟨x, rfl, h⟩ := h; exact h)
theorem rp_nil_0 (h : QA [] S) : RQ0 (mNil env S) QA X := h
theorem rp_cons_0 (h : RQ0 (m env S) (fun d S1 => RQ0 (as env S1) (fun ds S2 => QA (d :: ds) S2) X) X) : RQ0 (mCons m as env S) QA X := rp_bind_0 (h.mono_0 fun _ _ h => rp_bind_0 h)
theorem rp_star_0 (h : RQ0 (ml env S) (fun k S1 => SQ0 ((ctL env S1 k).bind itemsOf) fun ds => RQ0 (as env S1) (fun es S2 => QA (ds ++ es) S2) X) X) : RQ0 (mStar ml as env S) QA X := rp_bind_0 (h.mono_0 fun _ _ h => (by obtain ⟨a, e, h⟩ := sp_cases_0 h; (try dsimp only); rw [e]; exact rp_bind_0 h))
theorem rp_tup_0 (h : RQ0 (as env S) (fun ds S1 => ds.length ≤ 16777216 ∧ Q (.tup ds) S1) X) : RQ0 (mTup as env S) Q X := rp_bind_0 (h.mono_0 fun _ _ h => rp_ite_0 h.1 h.2)
theorem rp_lst_0 (h : RQ0 (as env S) (fun ds S1 => ds.length ≤ 16777216 ∧ QA ds S1) X) : RQ0 (mLst as env S) QA X := rp_bind_0 (h.mono_0 fun _ _ h => rp_ite_0 h.1 h.2)
theorem rp_f_0 (h : RQ0 (mo env S) (fun ds S1 => Q (.lst ds) S1) X) : RQ0 (mF mo env S) Q X := rp_bind_0 h
theorem rp_new_0 (h : RQ0 (mo env S) (fun ds S1 => Q (.loc S1.length) (S1 ++ [.lst ds])) X) : RQ0 (mNew mo env S) Q X := rp_bind_0 h
theorem rp_in_0 {neg : Bool} (h : RQ0 (m env S) (fun x S1 => RQ0 (ml env S1) (fun k S2 => SQ0 ((ctL env S2 k).bind fun c => inCt c x) fun b => QT (b != neg) S2) X) X) : RQ0 (mIn neg m ml env S) QT X := rp_bind_0 (h.mono_0 fun _ _ h => rp_bind_0 (h.mono_0 fun _ _ h => (by obtain ⟨a, e, h⟩ := sp_cases_0 h; (try dsimp only); rw [e]; exact h)))
theorem rp_inE_0 (h : RQ0 (m env S) (fun x S1 => RQ0 (ml env S1) (fun k S2 => SQ0 ((ctL env S2 k).bind fun c => inCt c x) fun b => Q (.bl b) S2) X) X) : RQ0 (mInE m ml env S) Q X := rp_bind_0 (h.mono_0 fun _ _ h => rp_bind_0 (h.mono_0 fun _ _ h => (by obtain ⟨a, e, h⟩ := sp_cases_0 h; (try dsimp only); rw [e]; exact h)))
def ixD (env : Env) (S : Store) (k : Lk) (y : D) : Option D := match y with
  | .int i => (ctL env S k).bind fun c => ixC c i
  | _ => none
theorem rp_ix_0 (h : RQ0 (ml env S) (fun k S1 => RQ0 (n env S1) (fun y S2 => SQ0 (ixD env S2 k y) fun d => Q d S2) X) X) : RQ0 (mIx ml n env S) Q X := rp_bind_0 (h.mono_0 fun k _ h => rp_bind_0 (h.mono_0 fun y S2 h => by
  cases y with
  | int i => exact (by obtain ⟨a, e, h⟩ := sp_cases_0 (o := (ctL env S2 k).bind fun c => ixC c i) h; (try dsimp only); rw [e]; exact h)
  | _ => exact h.elim))
theorem rp_pn_0 (h : QP none S) : RQ0 (mPN env S) QP X := h
theorem rp_ps_0 (h : RQ0 (m env S) (fun y S1 => ∃ x, y = .int x ∧ QP (some x) S1) X) : RQ0 (mPS m env S) QP X := rp_bind_0 (h.mono_0 fun y S1 h => by obtain ⟨x, rfl, h⟩ := h; exact h)
theorem rp_sl_0 {p q : MP} (h : RQ0 (ml env S) (fun k S1 => RQ0 (p env S1) (fun lo S2 => RQ0 (q env S2) (fun hi S3 => SQ0 ((ctL env S3 k).bind fun c => slC S3 c lo hi) fun d => Q d S3) X) X) X) : RQ0 (mSl ml p q env S) Q X := rp_bind_0 (h.mono_0 fun _ _ h => rp_bind_0 (h.mono_0 fun _ _ h => rp_bind_0 (h.mono_0 fun _ _ h => (by obtain ⟨a, e, h⟩ := sp_cases_0 h; (try dsimp only); rw [e]; exact h))))
def lOf : Option Ct → Option (List D)
  | some (.l ds) => some ds
  | _ => none
theorem rp_slO_0 {p q : MP} (h : RQ0 (ml env S) (fun k S1 => RQ0 (p env S1) (fun lo S2 => RQ0 (q env S2) (fun hi S3 => SQ0 (lOf (ctL env S3 k)) fun ds => QA (cut ds lo hi) S3) X) X) X) : RQ0 (mSlO ml p q env S) QA X := rp_bind_0 (h.mono_0 fun k _ h => rp_bind_0 (h.mono_0 fun lo _ h => rp_bind_0 (h.mono_0 fun hi S3 h => by
  cases e : ctL env S3 k with
  | none => rw [e] at h; exact h.elim
  | some c => rw [e] at h; cases c with
    | l ds => exact h
    | _ => exact h.elim)))
theorem rp_b1_0 {f : Ct → Option D} (h : RQ0 (ml env S) (fun k S1 => SQ0 ((ctL env S1 k).bind f) fun d => Q d S1) X) : RQ0 (mB1 f ml env S) Q X := rp_bind_0 (h.mono_0 fun _ _ h => (by obtain ⟨a, e, h⟩ := sp_cases_0 h; (try dsimp only); rw [e]; exact h))
theorem rp_e1_0 {f : D → Option D} (h : RQ0 (m env S) (fun x S1 => SQ0 (f x) fun d => Q d S1) X) : RQ0 (mE1 f m env S) Q X := rp_bind_0 (h.mono_0 fun _ _ h => (by obtain ⟨a, e, h⟩ := sp_cases_0 h; (try dsimp only); rw [e]; exact h))
def listOf : Option Ct → Option (List D)
  | some (.l ds) => some ds
  | some (.t ds) => some ds
  | some (.q ns) => some (ns.map .int)
  | _ => none
theorem rp_list_0 (h : RQ0 (ml env S) (fun k S1 => SQ0 (listOf (ctL env S1 k)) fun ds => QA ds S1) X) : RQ0 (mList ml env S) QA X := rp_bind_0 (h.mono_0 fun k S1 h => by
  cases e : ctL env S1 k with
  | none => rw [e] at h; exact h.elim
  | some c => rw [e] at h; cases c with
    | s x => exact h.elim
    | _ => exact h)
theorem rp_sortI_0 (h : RQ0 (ml env S) (fun k S1 => SQ0 (lOf (ctL env S1 k)) fun ds => ∃ ns : List Int, dInts ds = some ns ∧ QA ((isort ns).map .int) S1) X) : RQ0 (mSortI ml env S) QA X := rp_bind_0 (h.mono_0 fun k S1 h => by
  cases e : ctL env S1 k with
  | none => rw [e] at h; exact h.elim
  | some c => rw [e] at h; cases c with
    | l ds =>
      obtain ⟨ns, e, h⟩ := h
      show RQ0 (match dInts ds with
        | some ns => _
        | none => _) _ _
      rw [e]
      exact h
    | _ => exact h.elim)
theorem rp_cat_0 (h : RQ0 (ml env S) (fun k S1 => RQ0 (ml' env S1) (fun l S2 => SQ0 (lOf (ctL env S2 k)) fun ds => SQ0 (lOf (ctL env S2 l)) fun es => ds.length + es.length ≤ 16777216 ∧ QA (ds ++ es) S2) X) X) : RQ0 (mCat ml ml' env S) QA X := rp_bind_0 (h.mono_0 fun k _ h => rp_bind_0 (h.mono_0 fun l S2 h => by
  cases e : ctL env S2 k with
  | none => rw [e] at h; exact h.elim
  | some c => rw [e] at h; cases c with
    | l ds =>
      cases e' : ctL env S2 l with
      | none => rw [e'] at h; exact h.elim
      | some c' => rw [e'] at h; cases c' with
        | l es => exact rp_ite_0 h.1 h.2
        | _ => exact h.elim
    | _ => exact h.elim))
theorem rp_rep_0 (h : RQ0 (ml env S) (fun k S1 => RQ0 (m env S1) (fun y S2 => SQ0 (lOf (ctL env S2 k)) fun ds => ∃ i : Int, y = .int i ∧ (-(2 ^ 63) ≤ i ∧ i < 2 ^ 63 ∧ ds.length * i.toNat ≤ 16777216) ∧ QA (List.replicate i.toNat ds).flatten S2) X) X) : RQ0 (mRep ml m env S) QA X := rp_bind_0 (h.mono_0 fun k _ h => rp_bind_0 (h.mono_0 fun y S2 h => by
  cases e : ctL env S2 k with
  | none => rw [e] at h; exact h.elim
  | some c => rw [e] at h; cases c with
    | l ds => obtain ⟨i, rfl, b, h⟩ := h; exact rp_ite_0 b h
    | _ => exact h.elim))
theorem rp_call_0 (h : RQ0 (as env S) (fun ds S1 => FQ0 (fm ds S1) Q X) X) : RQ0 (mCall fm as env S) Q X := rp_bind_0 (h.mono_0 fun ds S1 h => by
  show RQ0 (match fm ds S1 with
    | .ret d S2 => .ok (d, S2)
    | .exc e S2 => .exc e S2
    | _ => .bad) Q X
  cases e : fm ds S1 with
  | ret d S2 => rw [e] at h; exact h
  | exc x S2 => rw [e] at h; exact h
  | own d S2 => rw [e] at h; exact h.elim
  | bad => rw [e] at h; exact h.elim)
theorem rp_callO_0 (h : RQ0 (as env S) (fun ds S1 => GQ0 (fm ds S1) QA X) X) : RQ0 (mCallO fm as env S) QA X := rp_bind_0 (h.mono_0 fun ds S1 h => by
  show RQ0 (match fm ds S1 with
    | .own d S2 => .ok (d, S2)
    | .exc e S2 => .exc e S2
    | _ => .bad) QA X
  cases e : fm ds S1 with
  | ret d S2 => rw [e] at h; exact h.elim
  | exc x S2 => rw [e] at h; exact h
  | own d S2 => rw [e] at h; exact h
  | bad => rw [e] at h; exact h.elim)
theorem fp_ret_0 {r : FRes} {S1 : Store} (e : r = .ret d S1) (h : Q d S1) : FQ0 r Q X := by rw [e]; exact h
theorem gp_own_0 {r : FRes} {ds : List D} {S1 : Store} (e : r = .own ds S1) (h : QA ds S1) : GQ0 r QA X := by rw [e]; exact h
theorem fp_exc_0 {r : FRes} {x : Ex} {S1 : Store} (e : r = .exc x S1) (h : X x S1) : FQ0 r Q X := by rw [e]; exact h
theorem rp_fld_0 {c : Nat} {f : Str} (h : RQ0 (m env S) (fun x S1 => SQ0 (fldD c f S1 x) fun d => Q d S1) X) : RQ0 (mFld c f m env S) Q X := rp_bind_0 (h.mono_0 fun _ _ h => (by obtain ⟨a, e, h⟩ := sp_cases_0 h; (try dsimp only); rw [e]; exact h))
theorem rp_isBE_0 {T : String} (h : RQ0 (m env S) (fun x S1 => SQ0 (isB S1 T x) fun b => Q (.bl b) S1) X) : RQ0 (mIsBE T m env S) Q X := rp_bind_0 (h.mono_0 fun _ _ h => (by obtain ⟨a, e, h⟩ := sp_cases_0 h; (try dsimp only); rw [e]; exact h))
theorem rp_isB_0 {T : String} (h : RQ0 (m env S) (fun x S1 => SQ0 (isB S1 T x) fun b => QT b S1) X) : RQ0 (mIsB T m env S) QT X := rp_bind_0 (h.mono_0 fun _ _ h => (by obtain ⟨a, e, h⟩ := sp_cases_0 h; (try dsimp only); rw [e]; exact h))
theorem rp_eqL_0 {neg : Bool} (h : RQ0 (ml env S) (fun k S1 => RQ0 (ml' env S1) (fun l S2 => SQ0 ((ctL env S2 k).bind fun x => (ctL env S2 l).bind fun y => eqCt x y) fun b => QT (b != neg) S2) X) X) : RQ0 (mEqL neg ml ml' env S) QT X := rp_bind_0 (h.mono_0 fun _ _ h => rp_bind_0 (h.mono_0 fun _ _ h => (by obtain ⟨a, e, h⟩ := sp_cases_0 h; (try dsimp only); rw [e]; exact h)))
/-! what is walked -/
def walkE (d : D) : Option (List D) := walkD d
theorem rp_iV_0 (h : RQ0 (m env S) (fun x S1 => SQ0 (walkD x) fun ds => QA ds S1) X) : RQ0 (miV m env S) QA X := rp_bind_0 (h.mono_0 fun _ _ h => (by obtain ⟨a, e, h⟩ := sp_cases_0 h; (try dsimp only); rw [e]; exact h))
theorem rp_iR1_0 (h : RQ0 (m env S) (fun x S1 => ∃ j : Int, x = .int j ∧ (-(2 ^ 62) ≤ j ∧ j < 2 ^ 62) ∧ QA (rng 0 j.toNat) S1) X) : RQ0 (miR1 m env S) QA X := rp_bind_0 (h.mono_0 fun x S1 h => by obtain ⟨j, rfl, b, h⟩ := h; exact rp_ite_0 b h)
theorem rp_iR2_0 (h : RQ0 (m env S) (fun x S1 => RQ0 (n env S1) (fun y S2 => ∃ i j : Int, x = .int i ∧ y = .int j ∧ (-(2 ^ 62) ≤ i ∧ i < 2 ^ 62 ∧ -(2 ^ 62) ≤ j ∧ j < 2 ^ 62) ∧ QA (rng i (j - i).toNat) S2) X) X) : RQ0 (miR2 m n env S) QA X := rp_bind_0 (h.mono_0 fun x S1 h => rp_bind_0 (h.mono_0 fun y S2 h => by obtain ⟨i, j, rfl, rfl, b, h⟩ := h; exact rp_ite_0 b h))
def seqOf : D → Option (List D)
  | .lst ds => some ds
  | .tup ds => some ds
  | _ => none
theorem rp_iRev_0 (h : RQ0 (m env S) (fun x S1 => SQ0 (seqOf x) fun ds => QA ds.reverse S1) X) : RQ0 (miRev m env S) QA X := rp_bind_0 (h.mono_0 fun x S1 h => by cases x <;> first | exact h | exact h.elim)
theorem rp_iEnum_0 (h : RQ0 (m env S) (fun x S1 => SQ0 (seqOf x) fun ds => QA (enumD ds) S1) X) : RQ0 (miEnumT m env S) QA X := rp_bind_0 (h.mono_0 fun x S1 h => by cases x <;> first | exact h | exact h.elim)
def zipOf : D → D → Option (List D)
  | .lst ds, .lst es => some (zipD ds es)
  | .tup ds, .tup es => some (zipD ds es)
  | _, _ => none
theorem rp_iZip_0 (h : RQ0 (m env S) (fun x S1 => RQ0 (n env S1) (fun y S2 => SQ0 (zipOf x y) fun ds => QA ds S2) X) X) : RQ0 (miZip m n env S) QA X := rp_bind_0 (h.mono_0 fun x S1 h => rp_bind_0 (h.mono_0 fun y S2 h => by cases x <;> cases y <;> first | exact h | exact h.elim))
theorem rp_comp_0 {vs : List Nat} {tg : MG} {tt : MT} (no : noOwn env vs = true) (h : RQ0 (mi env S) (fun ds S1 => ds.length ≤ 16777216 ∧ RQ0 (compL vs tg tt m env ds S1) QA nox) X) : RQ0 (mComp vs mi tg tt m env S) QA X := by
  unfold mComp
  rw [if_pos no]
  refine rp_bind_0 (h.mono_0 fun ds S1 h => rp_ite_0 h.1 ?_)
  obtain ⟨ys, S2, e, h⟩ := rp_ex_0 h.2
  rw [e]
  exact h
end
/-! ### statements -/
section
variable {env : Env} {S : Store} {Q : Out → Prop} {m n : ME} {ml : ML} {mo : MO} {as : MA} {t : MT} {d : D} {i : Nat} {p q : MS} {mi : MI} {mg : MG}
theorem go_op_0 {α : Type} {r : Res (α × Store)} {k : α → Store → Out} (h : RQ0 r (fun a S1 => OQ0 (k a S1) Q) (fun e S1 => Q (.exc e env S1))) : OQ0 (r.go env k) Q := by
  cases r with
  | ok p => exact h
  | exc e S => exact h
  | bad => exact h.elim
theorem op_eq_0 {o o' : Out} (e : o = o') (h : Q o') : OQ0 o Q := by rw [e]; exact h
theorem op_next_0 (h : Q (.nx env S)) : OQ0 (mNext env S) Q := h
theorem op_seq_0 (h : OQ0 (p env S) (sq0 q Q)) : OQ0 (mSeq p q env S) Q := by
  have h' : sq0 q Q (p env S) := h
  show Q (match p env S with
    | .nx env1 S1 => q env1 S1
    | o => o)
  cases e : p env S <;> rw [e] at h' <;> exact h'
theorem sq_nx_0 (h : OQ0 (q env S) Q) : sq0 q Q (.nx env S) := h
theorem sq_set_0 {env' : Env} (e : env = env') (h : OQ0 (q env' S) Q) : sq0 q Q (.nx env S) := by rw [e]; exact h
theorem sq_rt_0 (h : Q (.rt d S)) : sq0 q Q (.rt d S) := h
theorem sq_ro_0 {ds : List D} (h : Q (.ro ds S)) : sq0 q Q (.ro ds S) := h
theorem sq_bk_0 (h : Q (.bk env S)) : sq0 q Q (.bk env S) := h
theorem sq_ct_0 (h : Q (.ct env S)) : sq0 q Q (.ct env S) := h
theorem sq_exc_0 {x : Ex} (h : Q (.exc x env S)) : sq0 q Q (.exc x env S) := h
theorem op_break_0 (h : Q (.bk env S)) : OQ0 (mBreak env S) Q := h
theorem op_cont_0 (h : Q (.ct env S)) : OQ0 (mCont env S) Q := h
theorem op_drop_0 (h : RQ0 (m env S) (fun _ S1 => Q (.nx env S1)) (fun e S1 => Q (.exc e env S1))) : OQ0 (mDrop m env S) Q := go_op_0 h
theorem op_ret_0 (h : RQ0 (m env S) (fun d S1 => Q (.rt d S1)) (fun e S1 => Q (.exc e env S1))) : OQ0 (mRet m env S) Q := go_op_0 h
theorem op_retO_0 (h : RQ0 (mo env S) (fun d S1 => Q (.ro d S1)) (fun e S1 => Q (.exc e env S1))) : OQ0 (mRetO mo env S) Q := go_op_0 h
theorem op_retV_0 {ds : List D} (e : env[i]? = some (some (.own ds))) (h : Q (.ro ds S)) : OQ0 (mRetV i env S) Q := op_eq_0 (by simp only [mRetV, e]) h
theorem op_retN_0 (h : Q (.rt .non S)) : OQ0 (mRetN env S) Q := h
theorem op_if_0 (h : RQ0 (t env S) (fun b S1 => BQ0 b (OQ0 (p env S1) Q) (OQ0 (q env S1) Q)) (fun e S1 => Q (.exc e env S1))) : OQ0 (mIfS t p q env S) Q := go_op_0 (h.mono_0 fun b S1 h => by
  cases b with
  | true => exact h.1 rfl
  | false => exact h.2 rfl)
theorem op_asg_0 (h : RQ0 (m env S) (fun d S1 => SQ0 (mg d env) fun e => Q (.nx e S1)) (fun e S1 => Q (.exc e env S1))) : OQ0 (mAsg m mg env S) Q := go_op_0 (h.mono_0 fun _ _ h => (by obtain ⟨a, e, h⟩ := sp_cases_0 h; (try dsimp only); rw [e]; exact h))
theorem op_asgN_0 (h : RQ0 (m env S) (fun d S1 => Q (.nx (env.set i (some (.val d))) S1)) (fun e S1 => Q (.exc e env S1))) : OQ0 (mAsg m (mgN i) env S) Q := go_op_0 h
theorem op_setO_0 (h : RQ0 (mo env S) (fun ds S1 => Q (.nx (env.set i (some (.own ds))) S1)) (fun e S1 => Q (.exc e env S1))) : OQ0 (mSetO i mo env S) Q := go_op_0 h
theorem op_frz_0 {ds : List D} (e : env[i]? = some (some (.own ds))) {env' : Env} (e' : env.set i (some (.val (.lst ds))) = env') (h : OQ0 (p env' S) Q) : OQ0 (mFrz i p env S) Q := by
  subst e'
  exact op_eq_0 (o' := p (env.set i (some (.val (.lst ds)))) S) (by simp only [mFrz, e]) h
theorem op_locz_0 {ds : List D} (e : env[i]? = some (some (.own ds))) {env' : Env} (e' : env.set i (some (.val (.loc S.length))) = env') (h : OQ0 (p env' (S ++ [.lst ds])) Q) : OQ0 (mLocz i p env S) Q := by
  subst e'
  exact op_eq_0 (o' := p (env.set i (some (.val (.loc S.length)))) (S ++ [Ob.lst ds])) (by simp only [mLocz, e]) h
theorem op_for_0 (h : RQ0 (mi env S) (fun ds S1 => OQ0 (forL mg p ds env S1) Q) (fun e S1 => Q (.exc e env S1))) : OQ0 (mFor mi mg p env S) Q := go_op_0 h
theorem sp_mgN_0 {d : D} {env' : Env} {P : Env → Prop} (e : env.set i (some (.val d)) = env') (h : P env') : SQ0 (mgN i d env) P := by subst e; exact h
theorem sp_mgT_0 {n : Nat} {ds : List D} {ms : MGs} {P : Env → Prop} (e : ds.length = n) (h : SQ0 (ms ds env) P) : SQ0 (mgT n ms (.tup ds) env) P := by
  show SQ0 (if ds.length = n then ms ds env else none) P
  rw [if_pos e]
  exact h
theorem sp_mgCons_0 {d : D} {ds : List D} {ms : MGs} {P : Env → Prop} (h : SQ0 (mg d env) fun e => SQ0 (ms ds e) P) : SQ0 (mgCons mg ms (d :: ds) env) P := sp_bind_0 h
theorem sp_mgNil_0 {P : Env → Prop} (h : P env) : SQ0 (mgNil [] env) P := h
theorem op_dropX_0 {mx : MX} (h : RQ0 (mx env S) (fun p S1 => Q (.nx p.2 S1)) (fun e S1 => Q (.exc e env S1))) : OQ0 (mDropX mx env S) Q := go_op_0 h
theorem op_asgX_0 {mx : MX} (h : RQ0 (mx env S) (fun p S1 => SQ0 (mg p.1 p.2) fun e => Q (.nx e S1)) (fun e S1 => Q (.exc e env S1))) : OQ0 (mAsgX mx mg env S) Q := go_op_0 (h.mono_0 fun _ _ h => (by obtain ⟨a, e, h⟩ := sp_cases_0 h; (try dsimp only); rw [e]; exact h))
theorem op_retX_0 {mx : MX} (h : RQ0 (mx env S) (fun p S1 => Q (.rt p.1 S1)) (fun e S1 => Q (.exc e env S1))) : OQ0 (mRetX mx env S) Q := go_op_0 h
/-- xs.append(e), xs of its own -/
theorem rp_appO_0 {xs : List D} {QX : (D × Env) → Store → Prop} {X : Ex → Store → Prop} (e : env[i]? = some (some (.own xs))) (h : RQ0 (m env S) (fun d S1 => xs.length < 16777216 ∧ QX (.non, env.set i (some (.own (xs ++ [d])))) S1) X) : RQ0 (mMeth fAppend (mLO i) (mCons m mNil) env S) QX X := by
  unfold mMeth
  have e1 : mLO i env S = .ok (.slot i, S) := by simp only [mLO, e]
  have e2 : ∀ T, getM env T (.slot i) = some xs := fun T => by simp only [getM, e]
  rw [e1]
  show RQ0 (match getM env S (.slot i) with
    | none => .bad
    | some _ => _) _ _
  rw [e2]
  refine rp_bind_0 (rp_cons_0 (h.mono_0 fun d S1 h => rp_nil_0 ?_))
  show RQ0 (match getM env S1 (.slot i) with
    | none => .bad
    | some xs => _) _ _
  rw [e2]
  show RQ0 (match fAppend xs [d] with
    | some (d, ys) => _
    | none => _) _ _
  have e3 : fAppend xs [d] = some (.non, xs ++ [d]) := by simp only [fAppend]; rw [if_pos h.1]
  rw [e3]
  exact h.2
/-- .. xs a thing of the store -/
theorem rp_appL_0 {a : Nat} {xs : List D} {QX : (D × Env) → Store → Prop} {X : Ex → Store → Prop} (e : S[a]? = some (.lst xs)) (h : RQ0 (m env S) (fun d S1 => ∃ ys, S1[a]? = some (.lst ys) ∧ ys.length < 16777216 ∧ QX (.non, env) (S1.set a (.lst (ys ++ [d])))) X) (ev : env[i]? = some (some (.val (.loc a)))) :
    RQ0 (mMeth fAppend (mLV (mV i)) (mCons m mNil) env S) QX X := by
  unfold mMeth
  have e1 : mLV (mV i) env S = .ok (.val (.loc a), S) := by simp only [mLV, mV, ev, Res.bind]
  rw [e1]
  show RQ0 (match getM env S (.val (.loc a)) with
    | none => .bad
    | some _ => _) _ _
  have e2 : getM env S (.val (.loc a)) = some xs := by simp only [getM, e]
  rw [e2]
  refine rp_bind_0 (rp_cons_0 (h.mono_0 fun d S1 h => rp_nil_0 ?_))
  obtain ⟨ys, e3, hl, h⟩ := h
  show RQ0 (match getM env S1 (.val (.loc a)) with
    | none => .bad
    | some xs => _) _ _
  have e4 : getM env S1 (.val (.loc a)) = some ys := by simp only [getM, e3]
  rw [e4]
  show RQ0 (match fAppend ys [d] with
    | some (d, ys) => _
    | none => _) _ _
  have e3 : fAppend ys [d] = some (.non, ys ++ [d]) := by simp only [fAppend]; rw [if_pos hl]
  rw [e3]
  exact h
theorem rp_extO_0 {xs : List D} {QX : (D × Env) → Store → Prop} {X : Ex → Store → Prop} (e : env[i]? = some (some (.own xs))) (h : RQ0 (ml env S) (fun k S1 => SQ0 (lOf (ctL env S1 k)) fun ds => xs.length + ds.length ≤ 16777216 ∧ QX (.non, env.set i (some (.own (xs ++ ds)))) S1) X) : RQ0 (mExt (mLO i) ml env S) QX X := by
  unfold mExt
  have e1 : mLO i env S = .ok (.slot i, S) := by simp only [mLO, e]
  have e2 : ∀ T, getM env T (.slot i) = some xs := fun T => by simp only [getM, e]
  rw [e1]
  show RQ0 (match getM env S (.slot i) with
    | none => .bad
    | some _ => _) _ _
  rw [e2]
  refine rp_bind_0 (h.mono_0 fun k S1 h => ?_)
  show RQ0 (match getM env S1 (.slot i), ctL env S1 k with
    | some xs, some (.l ds) => _
    | _, _ => _) _ _
  rw [e2]
  cases e : ctL env S1 k with
  | none => rw [e] at h; exact h.elim
  | some c => rw [e] at h; cases c with
    | l ds => exact rp_ite_0 h.1 h.2
    | _ => exact h.elim
theorem rp_popO_0 {xs : List D} {x : D} {QX : (D × Env) → Store → Prop} {X : Ex → Store → Prop} (e : env[i]? = some (some (.own (xs ++ [x])))) (h : QX (x, env.set i (some (.own xs))) S) : RQ0 (mMeth0 fPop (mLO i) env S) QX X := by
  unfold mMeth0
  have e1 : mLO i env S = .ok (.slot i, S) := by simp only [mLO, e]
  have e2 : getM env S (.slot i) = some (xs ++ [x]) := by simp only [getM, e]
  rw [e1]
  show RQ0 (match getM env S (.slot i) with
    | none => .bad
    | some xs => _) _ _
  rw [e2]
  have e3 : fPop (xs ++ [x]) [] = some (x, xs) := by simp [fPop]
  show RQ0 (match fPop (xs ++ [x]) [] with
    | some (d, ys) => _
    | none => _) _ _
  rw [e3]
  exact h
/-- xs[j] = e -/
theorem op_subO_0 {xs : List D} (e : ∀ S1, ml env S1 = .ok (.slot i, S1)) (e2 : env[i]? = some (some (.own xs))) (h : RQ0 (m env S) (fun d S1 => RQ0 (n env S1) (fun x S2 => ∃ j : Int, x = .int j ∧ ∃ k, ixN xs.length j = some k ∧ Q (.nx (env.set i (some (.own (xs.set k d)))) S2)) (fun e S1 => Q (.exc e env S1))) (fun e S1 => Q (.exc e env S1))) : OQ0 (mSub m ml n env S) Q :=
  go_op_0 (h.mono_0 fun d S1 h => by
    rw [e]
    refine go_op_0 (r := n env S1) (h.mono_0 fun x S2 h => ?_)
    obtain ⟨j, rfl, k, e3, h⟩ := h
    have e4 : getM env S2 (.slot i) = some xs := by simp only [getM, e2]
    show OQ0 (match D.int j, getM env S2 (.slot i) with
      | .int i, some xs => _
      | _, _ => _) Q
    rw [e4]
    show OQ0 (match ixN xs.length j with
      | some j => _
      | none => _) Q
    rw [e3]
    exact h)
theorem op_subL_0 (h : RQ0 (m env S) (fun d S1 => RQ0 (ml env S1) (fun k S2 => RQ0 (n env S2) (fun x S3 => ∃ (a : Nat) (j : Int) (xs : List D) (z : Nat), k = .val (.loc a) ∧ x = .int j ∧ S3[a]? = some (.lst xs) ∧ ixN xs.length j = some z ∧ Q (.nx env (S3.set a (.lst (xs.set z d))))) (fun e S1 => Q (.exc e env S1))) (fun e S1 => Q (.exc e env S1))) (fun e S1 => Q (.exc e env S1))) : OQ0 (mSub m ml n env S) Q :=
  go_op_0 (h.mono_0 fun d S1 h => go_op_0 (h.mono_0 fun k S2 h => go_op_0 (h.mono_0 fun x S3 h => by
    obtain ⟨a, j, xs, z, rfl, rfl, e1, e2, h⟩ := h
    have e4 : getM env S3 (.val (.loc a)) = some xs := by simp only [getM, e1]
    show OQ0 (match D.int j, getM env S3 (.val (.loc a)) with
      | .int i, some xs => _
      | _, _ => _) Q
    rw [e4]
    show OQ0 (match ixN xs.length j with
      | some j => _
      | none => _) Q
    rw [e2]
    exact h)))
/-- xs[j] += e, xs of its own -/
theorem op_augSubO_0 {xs : List D} (e2 : env[i]? = some (some (.own xs))) (h : RQ0 (n env S) (fun x S1 => ∃ (j z : Int) (k : Nat), x = .int j ∧ atI xs j = some (.int z) ∧ ixN xs.length j = some k ∧ RQ0 (m env S1) (fun y S2 => ∃ w : Int, y = .int w ∧ Q (.nx (env.set i (some (.own (xs.set k (.int (z + w)))))) S2)) (fun e S1 => Q (.exc e env S1))) (fun e S1 => Q (.exc e env S1))) : OQ0 (mAugSub (mLO i) n m env S) Q := by
  have e1 : mLO i env S = .ok (.slot i, S) := by simp only [mLO, e2]
  have e4 : ∀ T, getM env T (.slot i) = some xs := fun T => by simp only [getM, e2]
  unfold mAugSub
  rw [e1]
  refine go_op_0 (r := n env S) (h.mono_0 fun x S1 h => ?_)
  obtain ⟨j, z, k, rfl, a1, a2, h⟩ := h
  show OQ0 (match D.int j, getM env S1 (.slot i) with
    | .int i, some xs => _
    | _, _ => _) Q
  rw [e4]
  show OQ0 (match atI xs j with
    | some (.int z) => _
    | _ => _) Q
  rw [a1]
  refine go_op_0 (h.mono_0 fun y S2 h => ?_)
  obtain ⟨w, rfl, h⟩ := h
  show OQ0 (match D.int w, getM env S2 (.slot i) with
    | .int w, some ys => _
    | _, _ => _) Q
  rw [e4]
  show OQ0 (match ixN xs.length j with
    | some j => _
    | none => _) Q
  rw [a2]
  exact h
theorem op_aug_0 {f : Int → Int → Int} {z : Int} (e : env[i]? = some (some (.val (.int z)))) (h : RQ0 (m env S) (fun y S1 => ∃ w : Int, y = .int w ∧ Q (.nx (env.set i (some (.val (.int (f z w))))) S1)) (fun e S1 => Q (.exc e env S1))) : OQ0 (mAug i f m env S) Q := by
  unfold mAug
  rw [e]
  exact go_op_0 (h.mono_0 fun y S1 h => by obtain ⟨w, rfl, h⟩ := h; exact h)
end
/-! ### loops, comprehensions -/
section
variable {α : Type} {S : Store} {env : Env}
theorem forL_inv_0 {tg : MG} {mb : MS} {Q : Out → Prop} (enc : α → D) (xs : List α) (I : List α → Env → Store → Prop)
    (hb : ∀ (done : List α) (x : α) (rest : List α) (env : Env) (S : Store), xs = done ++ x :: rest → I done env S → SQ0 (tg (enc x) env) fun env1 => OQ0 (mb env1 S) (lq0 (I (done ++ [x])) Q))
    (h0 : I [] env S) (he : ∀ env S, I xs env S → Q (.nx env S)) : OQ0 (forL tg mb (xs.map enc) env S) Q := by
  have go : ∀ (rest done : List α) (env : Env) (S : Store), xs = done ++ rest → I done env S → OQ0 (forL tg mb (rest.map enc) env S) Q := fun rest => by
    induction rest with
    | nil => intro done env S e h; rw [List.append_nil] at e; subst e; exact he env S h
    | cons x rest ih =>
      intro done env S e h
      have k := hb done x rest env S e h
      rw [List.map_cons, forL]
      cases e1 : tg (enc x) env with
      | none => rw [e1] at k; exact k.elim
      | some env1 =>
        rw [e1] at k
        have k' : lq0 (I (done ++ [x])) Q (mb env1 S) := k
        have nx : xs = (done ++ [x]) ++ rest := by rw [e]; simp
        dsimp only
        cases e2 : mb env1 S <;> rw [e2] at k' <;> first
          | exact ih _ _ _ nx k'
          | exact k'
          | exact k'.elim
  exact go xs [] env S rfl h0
theorem compL_map_0 {vs : List Nat} {tg : MG} {te : ME} (enc : α → D) (f : α → D) (xs : List α)
    (hb : ∀ x ∈ xs, SQ0 (tg (enc x) (wipeE env vs)) fun env1 => RQ0 (te env1 S) (fun y S' => y = f x ∧ S' = S) nox) : compL vs tg mYes te env (xs.map enc) S = .ok (xs.map f, S) := by
  induction xs with
  | nil => rfl
  | cons x xs ih =>
    have k := hb x List.mem_cons_self
    have e3 := ih fun y hy => hb y (List.mem_cons_of_mem _ hy)
    cases e1 : tg (enc x) (wipeE env vs) with
    | none => rw [e1] at k; exact k.elim
    | some env1 =>
      rw [e1] at k
      have e2 := rp_get_0 k
      simp only [List.map_cons, compL, e1, mYes, Res.bindN, if_true, e2, e3]
theorem compL_filt_0 {vs : List Nat} {tg : MG} {tt : MT} {te : ME} (enc : α → D) (b : α → Bool) (f : α → D) (xs : List α)
    (hb : ∀ x ∈ xs, SQ0 (tg (enc x) (wipeE env vs)) fun env1 => RQ0 (tt env1 S) (fun y S' => y = b x ∧ S' = S) nox ∧ (b x = true → RQ0 (te env1 S) (fun y S' => y = f x ∧ S' = S) nox)) :
    compL vs tg tt te env (xs.map enc) S = .ok ((xs.filter b).map f, S) := by
  induction xs with
  | nil => rfl
  | cons x xs ih =>
    have k := hb x List.mem_cons_self
    have e3 := ih fun y hy => hb y (List.mem_cons_of_mem _ hy)
    cases e1 : tg (enc x) (wipeE env vs) with
    | none => rw [e1] at k; exact k.elim
    | some env1 =>
      rw [e1] at k
      have e2 := rp_get_0 k.1
      cases hx : b x with
      | true =>
        have e4 := rp_get_0 (k.2 hx)
        simp only [List.map_cons, compL, e1, Res.bindN, if_true, e2, e3, e4, hx, List.filter_cons_of_pos hx]
      | false =>
        rw [List.filter_cons_of_neg (by simp [hx])]
        simp only [List.map_cons, compL, e1, Res.bindN, e2, e3, hx, Bool.false_eq_true, if_false]
theorem mWh_inv_0 {mc : MT} {mb : MS} {Q : Out → Prop} (I : Nat → Env → Store → Prop)
    (hb : ∀ n env S, I n env S → RQ0 (mc env S) (fun b S1 => BQ0 b (OQ0 (mb env S1) (lq0 (fun e S => ∃ m, m < n ∧ I m e S) Q)) (Q (.nx env S1))) (fun e S1 => Q (.exc e env S1)))
    (hq : ¬ Q .bad) {k : Nat} (h0 : I k env S) : OQ0 (mWh mc mb env S) Q := by
  have go : ∀ (f n : Nat) (env : Env) (S : Store), n < f → I n env S → Q (whL mc mb f env S) := fun f => by
    induction f with
    | zero => intro n env S h _; omega
    | succ f ih =>
      intro n env S h hI
      have r := hb n env S hI
      rw [whL]
      refine go_op_0 (r.mono_0 fun b S1 h2 => ?_)
      cases b with
      | false => exact h2.2 rfl
      | true =>
        have k' : lq0 (fun e S => ∃ m, m < n ∧ I m e S) Q (mb env S1) := h2.1 rfl
        show Q (match mb env S1 with
          | .nx env2 S2 => whL mc mb f env2 S2
          | .ct env2 S2 => whL mc mb f env2 S2
          | .bk env2 S2 => .nx env2 S2
          | o => o)
        cases e2 : mb env S1 <;> rw [e2] at k' <;> first
          | (obtain ⟨m, hm, hI⟩ := k'; exact ih m _ _ (by omega) hI)
          | exact k'
          | exact k'.elim
  have z := go (k + 1) k env S (by omega) h0
  have nb : whL mc mb (k + 1) env S ≠ .bad := fun e => hq (by rw [← e]; exact z)
  rw [OQ0, mWh_eq nb]
  exact z
end
theorem lq_nx_0 {J : Env → Store → Prop} {Q : Out → Prop} {env : Env} {S : Store} (h : J env S) : lq0 J Q (.nx env S) := h
theorem lq_set_0 {J : Env → Store → Prop} {Q : Out → Prop} {env env' : Env} {S : Store} (e : env = env') (h : J env' S) : lq0 J Q (.nx env S) := by rw [e]; exact h
theorem lq_ct_0 {J : Env → Store → Prop} {Q : Out → Prop} {env : Env} {S : Store} (h : J env S) : lq0 J Q (.ct env S) := h
theorem lq_bk_0 {J : Env → Store → Prop} {Q : Out → Prop} {env : Env} {S : Store} (h : Q (.nx env S)) : lq0 J Q (.bk env S) := h
theorem lq_rt_0 {J : Env → Store → Prop} {Q : Out → Prop} {d : D} {S : Store} (h : Q (.rt d S)) : lq0 J Q (.rt d S) := h
theorem lq_ro_0 {J : Env → Store → Prop} {Q : Out → Prop} {d : List D} {S : Store} (h : Q (.ro d S)) : lq0 J Q (.ro d S) := h
theorem lq_exc_0 {J : Env → Store → Prop} {Q : Out → Prop} {e : Ex} {env : Env} {S : Store} (h : Q (.exc e env S)) : lq0 J Q (.exc e env S) := h
theorem len_le_0 {α : Type} {xs : List α} {P : Prop} (h : xs.length ≤ 16777216) (k : P) : xs.length ≤ 16777216 ∧ P := ⟨h, k⟩
theorem len_lt_0 {α : Type} {xs : List α} {P : Prop} (h : xs.length < 16777216) (k : P) : xs.length < 16777216 ∧ P := ⟨h, k⟩
theorem ex_int_0 {y : Int} {P : Int → Prop} (h : P y) : ∃ x, D.int y = .int x ∧ P x := ⟨y, rfl, h⟩
theorem st_eq_0 {S : Store} {P : Prop} (h : P) : S = S ∧ P := ⟨rfl, h⟩
theorem rp_inB_0 {env : Env} {S : Store} {X : Ex → Store → Prop} {QT : Bool → Store → Prop} {m : ME} {ml : ML} {neg : Bool} (h : RQ0 (m env S) (fun x S1 => RQ0 (ml env S1) (fun k S2 => SQ0 ((ctL env S2 k).bind fun c => inBt c x) fun b => QT (b != neg) S2) X) X) : RQ0 (mInB neg m ml env S) QT X := rp_bind_0 (h.mono_0 fun _ _ h => rp_bind_0 (h.mono_0 fun _ _ h => (by obtain ⟨a, e, h⟩ := sp_cases_0 h; (try dsimp only); rw [e]; exact h)))
theorem rp_inBE_0 {env : Env} {S : Store} {X : Ex → Store → Prop} {Q : D → Store → Prop} {m : ME} {ml : ML} (h : RQ0 (m env S) (fun x S1 => RQ0 (ml env S1) (fun k S2 => SQ0 ((ctL env S2 k).bind fun c => inBt c x) fun b => Q (.bl b) S2) X) X) : RQ0 (mInBE m ml env S) Q X := rp_bind_0 (h.mono_0 fun _ _ h => rp_bind_0 (h.mono_0 fun _ _ h => (by obtain ⟨a, e, h⟩ := sp_cases_0 h; (try dsimp only); rw [e]; exact h)))
section
variable {env : Env} {S : Store} {X : Ex → Store → Prop} {i : Nat}
theorem id_v_0 {Q : D → Store → Prop} (h : RQ0 (mV i env S) Q X) : RQ0 (mV i env S) Q X := h
theorem id_lo_0 {Q : Lk → Store → Prop} (h : RQ0 (mLO i env S) Q X) : RQ0 (mLO i env S) Q X := h
theorem id_retV_0 {Q : Out → Prop} (h : OQ0 (mRetV i env S) Q) : OQ0 (mRetV i env S) Q := h
theorem id_frz_0 {Q : Out → Prop} {m : MS} (h : OQ0 (mFrz i m env S) Q) : OQ0 (mFrz i m env S) Q := h
theorem id_locz_0 {Q : Out → Prop} {m : MS} (h : OQ0 (mLocz i m env S) Q) : OQ0 (mLocz i m env S) Q := h
theorem id_truS_0 {P : Bool → Prop} (h : SQ0 (truth env S (.slot i)) P) : SQ0 (truth env S (.slot i)) P := h
theorem id_comp_0 {Q : List D → Store → Prop} {vs : List Nat} {mi : MI} {tg : MG} {tt : MT} {m : ME} (h : RQ0 (mComp vs mi tg tt m env S) Q X) : RQ0 (mComp vs mi tg tt m env S) Q X := h
theorem id_appO_0 {Q : (D × Env) → Store → Prop} {m : ME} (h : RQ0 (mMeth fAppend (mLO i) (mCons m mNil) env S) Q X) : RQ0 (mMeth fAppend (mLO i) (mCons m mNil) env S) Q X := h
theorem id_extO_0 {Q : (D × Env) → Store → Prop} {ml : ML} (h : RQ0 (mExt (mLO i) ml env S) Q X) : RQ0 (mExt (mLO i) ml env S) Q X := h
theorem id_mgT_0 {n : Nat} {ds : List D} {ms : MGs} {P : Env → Prop} (h : SQ0 (mgT n ms (.tup ds) env) P) : SQ0 (mgT n ms (.tup ds) env) P := h
theorem id_sq_0 {α : Type} {o : Option α} {P : α → Prop} (h : SQ0 o P) : SQ0 o P := h
end
/-! ### defs -/
theorem fn_wp_0 {N : List Str} {m : MS} {ds : List D} {S : Store} {r : FRes} (h : OQ0 (m (startE N ds) S) (fun o => outF0 o = r)) : mFn0 N m ds S = r := h
theorem fn_fp_0 {N : List Str} {m : MS} {ds : List D} {S : Store} {Q : D → Store → Prop} {X : Ex → Store → Prop} (h : OQ0 (m (startE N ds) S) (fun o => FQ0 (outF0 o) Q X)) : FQ0 (mFn0 N m ds S) Q X := h
/-! ### what is known of data -/
section
theorem sp_ctB_0 {env : Env} {S : Store} {k : Lk} {c : Ct} {β : Type} {f : Ct → Option β} {Q : β → Prop} (e : ctL env S k = some c) (h : SQ0 (f c) Q) : SQ0 ((ctL env S k).bind f) Q := by rw [e]; exact h
theorem sp_lenL_0 {env : Env} {S : Store} {α : Type} {f : α → D} {xs : List α} {Q : D → Prop} (h : Q (.int (xs.length : Nat))) : SQ0 ((ctL env S (.val (.lst (xs.map f)))).bind fLen) Q := by
  show Q (.int ((xs.map f).length : Nat))
  rw [List.length_map]
  exact h
theorem sp_lenT_0 {env : Env} {S : Store} {α : Type} {f : α → D} {xs : List α} {Q : D → Prop} (h : Q (.int (xs.length : Nat))) : SQ0 ((ctL env S (.val (.tup (xs.map f)))).bind fLen) Q := by
  show Q (.int ((xs.map f).length : Nat))
  rw [List.length_map]
  exact h
theorem sp_cEqI_0 {a b : Int} {Q : Bool → Prop} (h : Q (decide (a = b))) : SQ0 (cEq (.int a) (.int b)) Q := sp_of_0 (a := decide (a = b)) (by unfold cEq; simp [D.eqk]) h
theorem sp_cNeI_0 {a b : Int} {Q : Bool → Prop} (h : Q (!decide (a = b))) : SQ0 (cNe (.int a) (.int b)) Q := sp_of_0 (a := !decide (a = b)) (by unfold cNe cEq; simp [D.eqk]) h
theorem sp_cEqB_0 {a b : Bool} {Q : Bool → Prop} (h : Q (decide (a = b))) : SQ0 (cEq (.bl a) (.bl b)) Q := h
theorem sp_cNeB_0 {a b : Bool} {Q : Bool → Prop} (h : Q (!decide (a = b))) : SQ0 (cNe (.bl a) (.bl b)) Q := h
theorem sp_cEq_0 {x y : D} {Q : Bool → Prop} (hx : x.eqk 64 = true) (hy : y.eqk 64 = true) (h : Q (decide (x = y))) : SQ0 (cEq x y) Q := by
  refine sp_of_0 (a := decide (x = y)) ?_ h
  unfold cEq
  split
  · simp [D.eqk] at hx
  · simp
  · rw [if_pos ⟨hx, hy⟩]
theorem sp_inL_0 {ds : List D} {x : D} {Q : Bool → Prop} (h1 : x.eqk 64 = true) (h2 : D.eqks 63 ds = true) (h : Q (decide (x ∈ ds))) : SQ0 (inCt (.l ds) x) Q := sp_ite_0 (c := x.eqk 64 = true ∧ D.eqks 63 ds = true) ⟨h1, h2⟩ h
theorem sp_inT_0 {ds : List D} {x : D} {Q : Bool → Prop} (h1 : x.eqk 64 = true) (h2 : D.eqks 63 ds = true) (h : Q (decide (x ∈ ds))) : SQ0 (inCt (.t ds) x) Q := sp_ite_0 (c := x.eqk 64 = true ∧ D.eqks 63 ds = true) ⟨h1, h2⟩ h
end
theorem rp_sortSet_0 {env : Env} {S : Store} {X : Ex → Store → Prop} {QA : List D → Store → Prop} {ml : ML} (h : RQ0 (ml env S) (fun k S1 => SQ0 (lOf (ctL env S1 k)) fun ds => setOk ds = true ∧ QA (sortD ds) S1) X) : RQ0 (mSortSet ml env S) QA X := rp_bind_0 (h.mono_0 fun k S1 h => by
  cases e : ctL env S1 k with
  | none => rw [e] at h; exact h.elim
  | some c => rw [e] at h; cases c with
    | l ds =>
      obtain ⟨h1, h2⟩ := h
      show RQ0 (if setOk ds = true then _ else _) _ _
      rw [if_pos h1]
      exact h2
    | _ => exact h.elim)
end
end DL

set_option Elab.async false
set_option linter.all false
set_option maxRecDepth 100000
set_option maxHeartbeats 1000000
set_option autoImplicit false
namespace DL
open PySem PySem.Spec PyProof.Rows L2

/-! the same, closed: nothing looks into them -/
structure RQ {α : Type} (r : Res (α × Store)) (Q : α → Store → Prop) (X : Ex → Store → Prop) : Prop where
  run : RQ0 r Q X
structure OQ (o : Out) (Q : Out → Prop) : Prop where
  run : OQ0 o Q
structure FQ (r : FRes) (Q : D → Store → Prop) (X : Ex → Store → Prop) : Prop where
  run : FQ0 r Q X
structure GQ (r : FRes) (Q : List D → Store → Prop) (X : Ex → Store → Prop) : Prop where
  run : GQ0 r Q X
structure SQ {α : Type} (o : Option α) (Q : α → Prop) : Prop where
  run : SQ0 o Q
structure BQ (b : Bool) (P P' : Prop) : Prop where
  run : BQ0 b P P'
theorem rq_e {α : Type} {r : Res (α × Store)} {Q : α → Store → Prop} {X : Ex → Store → Prop} : RQ r Q X = RQ0 r Q X := propext ⟨fun h => h.run, fun h => ⟨h⟩⟩
theorem oq_e {o : Out} {Q : Out → Prop} : OQ o Q = OQ0 o Q := propext ⟨fun h => h.run, fun h => ⟨h⟩⟩
theorem fq_e {r : FRes} {Q : D → Store → Prop} {X : Ex → Store → Prop} : FQ r Q X = FQ0 r Q X := propext ⟨fun h => h.run, fun h => ⟨h⟩⟩
theorem gq_e {r : FRes} {Q : List D → Store → Prop} {X : Ex → Store → Prop} : GQ r Q X = GQ0 r Q X := propext ⟨fun h => h.run, fun h => ⟨h⟩⟩
theorem sq_e {α : Type} {o : Option α} {Q : α → Prop} : SQ o Q = SQ0 o Q := propext ⟨fun h => h.run, fun h => ⟨h⟩⟩
theorem bq_e {b : Bool} {P P' : Prop} : BQ b P P' = BQ0 b P P' := propext ⟨fun h => h.run, fun h => ⟨h⟩⟩
structure sq (n : MS) (Q : Out → Prop) (o : Out) : Prop where
  run : sq0 n Q o
structure lq (J : Env → Store → Prop) (Q : Out → Prop) (o : Out) : Prop where
  run : lq0 J Q o
theorem ssq_e {n : MS} {Q : Out → Prop} : sq n Q = sq0 n Q := funext fun o => propext ⟨fun h => h.run, fun h => ⟨h⟩⟩
theorem slq_e {J : Env → Store → Prop} {Q : Out → Prop} : lq J Q = lq0 J Q := funext fun o => propext ⟨fun h => h.run, fun h => ⟨h⟩⟩
theorem oq_run {o : Out} {Q : Out → Prop} (h : OQ o Q) : Q o := h.run
theorem rq_ok {α : Type} {a : α} {S : Store} {Q : α → Store → Prop} {X : Ex → Store → Prop} (h : RQ (.ok (a, S)) Q X) : Q a S := h.run
theorem rq_bad {α : Type} {Q : α → Store → Prop} {X : Ex → Store → Prop} (h : RQ (.bad : Res (α × Store)) Q X) : False := h.run
theorem sq_one {α : Type} {a : α} {Q : α → Prop} (h : SQ (some a) Q) : Q a := h.run
theorem sq_none {α : Type} {Q : α → Prop} (h : SQ (none : Option α) Q) : False := h.run
section
section
variable {α β : Type} {Q Q' : α → Store → Prop} {X : Ex → Store → Prop} {r : Res (α × Store)} {S S1 : Store} {a : α}
theorem RQ.mono (h : RQ r Q X) (k : ∀ a S, Q a S → Q' a S) : RQ r Q' X := by
  try simp only [rq_e, oq_e, fq_e, gq_e, sq_e, bq_e, ssq_e, slq_e] at *
  exact RQ0.mono_0 h k
theorem rp_eq (h : r = .ok (a, S1)) (q : Q a S1) : RQ r Q X := by
  try simp only [rq_e, oq_e, fq_e, gq_e, sq_e, bq_e, ssq_e, slq_e] at *
  exact rp_eq_0 h q
theorem rp_bind {k : α → Store → Res (β × Store)} {P : β → Store → Prop} (h : RQ r (fun a S => RQ (k a S) P X) X) : RQ (r.bind k) P X := by
  try simp only [rq_e, oq_e, fq_e, gq_e, sq_e, bq_e, ssq_e, slq_e] at *
  exact rp_bind_0 h
theorem rp_get (h : RQ r (fun a' S' => a' = a ∧ S' = S1) (fun _ _ => False)) : r = .ok (a, S1) := by
  try simp only [rq_e, oq_e, fq_e, gq_e, sq_e, bq_e, ssq_e, slq_e] at *
  exact rp_get_0 h
theorem rp_ex (h : RQ r Q (fun _ _ => False)) : ∃ a S1, r = .ok (a, S1) ∧ Q a S1 := by
  try simp only [rq_e, oq_e, fq_e, gq_e, sq_e, bq_e, ssq_e, slq_e] at *
  exact rp_ex_0 h
theorem rp_match {o : Option α} {f : α → Res (β × Store)} {P : β → Store → Prop} (h : SQ o (fun a => RQ (f a) P X)) : RQ (match o with
  | some a => f a
  | none => .bad) P X := by
  try simp only [rq_e, oq_e, fq_e, gq_e, sq_e, bq_e, ssq_e, slq_e] at *
  exact rp_match_0 h
theorem rp_ite {c : Prop} [Decidable c] {x : Res (β × Store)} {P : β → Store → Prop} (hc : c) (h : RQ x P X) : RQ (if c then x else .bad) P X := by
  try simp only [rq_e, oq_e, fq_e, gq_e, sq_e, bq_e, ssq_e, slq_e] at *
  exact rp_ite_0 hc h
theorem rp_bp {b : Bool} {x y : Res (β × Store)} {P : β → Store → Prop} (h : BQ b (RQ x P X) (RQ y P X)) : RQ (if b = true then x else y) P X := by
  try simp only [rq_e, oq_e, fq_e, gq_e, sq_e, bq_e, ssq_e, slq_e] at *
  exact rp_bp_0 h
theorem sp_cases {o : Option α} {Q : α → Prop} (h : SQ o Q) : ∃ a, o = some a ∧ Q a := by
  try simp only [rq_e, oq_e, fq_e, gq_e, sq_e, bq_e, ssq_e, slq_e] at *
  exact sp_cases_0 h
theorem sp_some {Q : α → Prop} (h : Q a) : SQ (some a) Q := by
  try simp only [rq_e, oq_e, fq_e, gq_e, sq_e, bq_e, ssq_e, slq_e] at *
  exact sp_some_0 h
theorem sp_of {o : Option α} {Q : α → Prop} (h : o = some a) (k : Q a) : SQ o Q := by
  try simp only [rq_e, oq_e, fq_e, gq_e, sq_e, bq_e, ssq_e, slq_e] at *
  exact sp_of_0 h k
theorem sp_mono {o : Option α} {Q Q' : α → Prop} (h : SQ o Q) (k : ∀ a, Q a → Q' a) : SQ o Q' := by
  try simp only [rq_e, oq_e, fq_e, gq_e, sq_e, bq_e, ssq_e, slq_e] at *
  exact sp_mono_0 h k
theorem sp_bind {o : Option α} {f : α → Option β} {Q : β → Prop} (h : SQ o (fun a => SQ (f a) Q)) : SQ (o.bind f) Q := by
  try simp only [rq_e, oq_e, fq_e, gq_e, sq_e, bq_e, ssq_e, slq_e] at *
  exact sp_bind_0 h
theorem sp_map {o : Option α} {f : α → β} {Q : β → Prop} (h : SQ o (fun a => Q (f a))) : SQ (o.map f) Q := by
  try simp only [rq_e, oq_e, fq_e, gq_e, sq_e, bq_e, ssq_e, slq_e] at *
  exact sp_map_0 h
theorem sp_ite {c : Prop} [Decidable c] {x : Option β} {P : β → Prop} (hc : c) (h : SQ x P) : SQ (if c then x else none) P := by
  try simp only [rq_e, oq_e, fq_e, gq_e, sq_e, bq_e, ssq_e, slq_e] at *
  exact sp_ite_0 hc h
theorem bp_t {P P' : Prop} (h : P) : BQ true P P' := by
  try simp only [rq_e, oq_e, fq_e, gq_e, sq_e, bq_e, ssq_e, slq_e] at *
  exact bp_t_0 h
theorem bp_f {P P' : Prop} (h : P') : BQ false P P' := by
  try simp only [rq_e, oq_e, fq_e, gq_e, sq_e, bq_e, ssq_e, slq_e] at *
  exact bp_f_0 h
theorem bp_dt {c : Prop} [Decidable c] {P P' : Prop} (hc : c) (h : P) : BQ (decide c) P P' := by
  try simp only [rq_e, oq_e, fq_e, gq_e, sq_e, bq_e, ssq_e, slq_e] at *
  exact bp_dt_0 hc h
theorem bp_df {c : Prop} [Decidable c] {P P' : Prop} (hc : ¬c) (h : P') : BQ (decide c) P P' := by
  try simp only [rq_e, oq_e, fq_e, gq_e, sq_e, bq_e, ssq_e, slq_e] at *
  exact bp_df_0 hc h
theorem bp_ndt {c : Prop} [Decidable c] {P P' : Prop} (hc : c) (h : P') : BQ (!decide c) P P' := by
  try simp only [rq_e, oq_e, fq_e, gq_e, sq_e, bq_e, ssq_e, slq_e] at *
  exact bp_ndt_0 hc h
theorem bp_ndf {c : Prop} [Decidable c] {P P' : Prop} (hc : ¬c) (h : P) : BQ (!decide c) P P' := by
  try simp only [rq_e, oq_e, fq_e, gq_e, sq_e, bq_e, ssq_e, slq_e] at *
  exact bp_ndf_0 hc h
theorem bp_nt {P P' : Prop} (h : P') : BQ (!true) P P' := by
  try simp only [rq_e, oq_e, fq_e, gq_e, sq_e, bq_e, ssq_e, slq_e] at *
  exact bp_nt_0 h
theorem bp_nf {P P' : Prop} (h : P) : BQ (!false) P P' := by
  try simp only [rq_e, oq_e, fq_e, gq_e, sq_e, bq_e, ssq_e, slq_e] at *
  exact bp_nf_0 h
theorem bp_nn {b : Bool} {P P' : Prop} (h : BQ b P' P) : BQ (!b) P P' := by
  try simp only [rq_e, oq_e, fq_e, gq_e, sq_e, bq_e, ssq_e, slq_e] at *
  exact bp_nn_0 h
theorem bp_yb {b : Bool} {P P' : Prop} (k : b = false → P') (h : b = true → P) : BQ b P P' := by
  try simp only [rq_e, oq_e, fq_e, gq_e, sq_e, bq_e, ssq_e, slq_e] at *
  exact bp_yb_0 k h
theorem bp_by {b : Bool} {P P' : Prop} (h : b = true → P) (k : b = false → P') : BQ b P P' := by
  try simp only [rq_e, oq_e, fq_e, gq_e, sq_e, bq_e, ssq_e, slq_e] at *
  exact bp_by_0 h k
end
section
variable {env : Env} {S : Store} {X : Ex → Store → Prop} {Q : D → Store → Prop} {QA : List D → Store → Prop} {QT : Bool → Store → Prop} {QL : Lk → Store → Prop} {QP : Option Int → Store → Prop}
variable {ma mb mc m n : ME} {ml ml' : ML} {mo mo' : MO} {as : MA} {t t' : MT} {d : D} {i : Nat} {fm : MFn} {mi : MI}
theorem rp_c (h : Q d S) : RQ (mC d env S) Q X := by
  try simp only [rq_e, oq_e, fq_e, gq_e, sq_e, bq_e, ssq_e, slq_e] at *
  exact rp_c_0 h
theorem rp_v (e : env[i]? = some (some (.val d))) (h : Q d S) : RQ (mV i env S) Q X := by
  try simp only [rq_e, oq_e, fq_e, gq_e, sq_e, bq_e, ssq_e, slq_e] at *
  exact rp_v_0 e h
theorem rp_lo {ds : List D} (e : env[i]? = some (some (.own ds))) (h : QL (.slot i) S) : RQ (mLO i env S) QL X := by
  try simp only [rq_e, oq_e, fq_e, gq_e, sq_e, bq_e, ssq_e, slq_e] at *
  exact rp_lo_0 e h
theorem rp_lv (h : RQ (m env S) (fun d S1 => QL (.val d) S1) X) : RQ (mLV m env S) QL X := by
  try simp only [rq_e, oq_e, fq_e, gq_e, sq_e, bq_e, ssq_e, slq_e] at *
  exact rp_lv_0 h
theorem rp_op {f : D → D → Store → Res (D × Store)} (h : RQ (ma env S) (fun x S1 => RQ (mb env S1) (fun y S2 => RQ (f x y S2) Q X) X) X) : RQ (mOp f ma mb env S) Q X := by
  try simp only [rq_e, oq_e, fq_e, gq_e, sq_e, bq_e, ssq_e, slq_e] at *
  exact rp_op_0 h
theorem rp_fAdd {x y : Int} (h : Q (.int (x + y)) S) : RQ (fAdd (.int x) (.int y) S) Q X := by
  try simp only [rq_e, oq_e, fq_e, gq_e, sq_e, bq_e, ssq_e, slq_e] at *
  exact rp_fAdd_0 h
theorem rp_fSub {x y : Int} (h : Q (.int (x - y)) S) : RQ (fSub (.int x) (.int y) S) Q X := by
  try simp only [rq_e, oq_e, fq_e, gq_e, sq_e, bq_e, ssq_e, slq_e] at *
  exact rp_fSub_0 h
theorem rp_fMul {x y : Int} (b : x.natAbs.log2 + y.natAbs.log2 < 1000000) (h : Q (.int (x * y)) S) : RQ (fMul (.int x) (.int y) S) Q X := by
  try simp only [rq_e, oq_e, fq_e, gq_e, sq_e, bq_e, ssq_e, slq_e] at *
  exact rp_fMul_0 b h
theorem rp_fDiv {x y : Int} (b : 0 < y ∧ y.natAbs.log2 < 9000) (h : Q (.int (x / y)) S) : RQ (fDiv (.int x) (.int y) S) Q X := by
  try simp only [rq_e, oq_e, fq_e, gq_e, sq_e, bq_e, ssq_e, slq_e] at *
  exact rp_fDiv_0 b h
theorem rp_fMod {x y : Int} (b : 0 < y) (h : Q (.int (x % y)) S) : RQ (fMod (.int x) (.int y) S) Q X := by
  try simp only [rq_e, oq_e, fq_e, gq_e, sq_e, bq_e, ssq_e, slq_e] at *
  exact rp_fMod_0 b h
theorem rp_fMin2 {x y : Int} (h : Q (.int (if y < x then y else x)) S) : RQ (fMin2 (.int x) (.int y) S) Q X := by
  try simp only [rq_e, oq_e, fq_e, gq_e, sq_e, bq_e, ssq_e, slq_e] at *
  exact rp_fMin2_0 h
theorem rp_fMax2 {x y : Int} (h : Q (.int (if y > x then y else x)) S) : RQ (fMax2 (.int x) (.int y) S) Q X := by
  try simp only [rq_e, oq_e, fq_e, gq_e, sq_e, bq_e, ssq_e, slq_e] at *
  exact rp_fMax2_0 h
theorem rp_fAddT {x y : List D} (b : x.length + y.length ≤ 16777216) (h : Q (.tup (x ++ y)) S) : RQ (fAdd (.tup x) (.tup y) S) Q X := by
  try simp only [rq_e, oq_e, fq_e, gq_e, sq_e, bq_e, ssq_e, slq_e] at *
  exact rp_fAddT_0 b h
theorem rp_cmp {c : D → D → Option Bool} (h : RQ (ma env S) (fun x S1 => RQ (mb env S1) (fun y S2 => SQ (c x y) fun k => Q (.bl k) S2) X) X) : RQ (mCmp c ma mb env S) Q X := by
  try simp only [rq_e, oq_e, fq_e, gq_e, sq_e, bq_e, ssq_e, slq_e] at *
  exact rp_cmp_0 h
theorem rp_cmpT {c : D → D → Option Bool} (h : RQ (ma env S) (fun x S1 => RQ (mb env S1) (fun y S2 => SQ (c x y) fun k => QT k S2) X) X) : RQ (mCmpT c ma mb env S) QT X := by
  try simp only [rq_e, oq_e, fq_e, gq_e, sq_e, bq_e, ssq_e, slq_e] at *
  exact rp_cmpT_0 h
theorem rp_chain {c c' : D → D → Option Bool} (h : RQ (ma env S) (fun x S1 => RQ (mb env S1) (fun y S2 => SQ (c x y) fun k => BQ k (RQ (mc env S2) (fun z S3 => SQ (c' y z) fun k => Q (.bl k) S3) X) (Q (.bl false) S2)) X) X) : RQ (mChain c c' ma mb mc env S) Q X := by
  try simp only [rq_e, oq_e, fq_e, gq_e, sq_e, bq_e, ssq_e, slq_e] at *
  exact rp_chain_0 h
theorem rp_chainT {c c' : D → D → Option Bool} (h : RQ (ma env S) (fun x S1 => RQ (mb env S1) (fun y S2 => SQ (c x y) fun k => BQ k (RQ (mc env S2) (fun z S3 => SQ (c' y z) fun k => QT k S3) X) (QT false S2)) X) X) : RQ (mChainT c c' ma mb mc env S) QT X := by
  try simp only [rq_e, oq_e, fq_e, gq_e, sq_e, bq_e, ssq_e, slq_e] at *
  exact rp_chainT_0 h
theorem rp_chainP {c c' : D → D → Option Bool} (h : RQ (ma env S) (fun x S1 => RQ (mb env S1) (fun y S2 => SQ (c x y) fun k => RQ (mc env S2) (fun z S3 => S3 = S2 ∧ SQ (c' y z) fun k' => Q (.bl (k && k')) S2) nox) X) X) : RQ (mChain c c' ma mb mc env S) Q X := by
  try simp only [rq_e, oq_e, fq_e, gq_e, sq_e, bq_e, ssq_e, slq_e] at *
  exact rp_chainP_0 h
theorem rp_chainTP {c c' : D → D → Option Bool} (h : RQ (ma env S) (fun x S1 => RQ (mb env S1) (fun y S2 => SQ (c x y) fun k => RQ (mc env S2) (fun z S3 => S3 = S2 ∧ SQ (c' y z) fun k' => QT (k && k') S2) nox) X) X) : RQ (mChainT c c' ma mb mc env S) QT X := by
  try simp only [rq_e, oq_e, fq_e, gq_e, sq_e, bq_e, ssq_e, slq_e] at *
  exact rp_chainTP_0 h
theorem rp_tru (h : RQ (ml env S) (fun k S1 => SQ (truth env S1 k) fun b => QT b S1) X) : RQ (mTru ml env S) QT X := by
  try simp only [rq_e, oq_e, fq_e, gq_e, sq_e, bq_e, ssq_e, slq_e] at *
  exact rp_tru_0 h
theorem sp_tru_bl {b : Bool} {P : Bool → Prop} (h : P b) : SQ (truth env S (.val (.bl b))) P := by
  try simp only [rq_e, oq_e, fq_e, gq_e, sq_e, bq_e, ssq_e, slq_e] at *
  exact sp_tru_bl_0 h
theorem sp_tru_non {P : Bool → Prop} (h : P false) : SQ (truth env S (.val .non)) P := by
  try simp only [rq_e, oq_e, fq_e, gq_e, sq_e, bq_e, ssq_e, slq_e] at *
  exact sp_tru_non_0 h
theorem sp_tru_int {x : Int} {P : Bool → Prop} (h : P (x != 0)) : SQ (truth env S (.val (.int x))) P := by
  try simp only [rq_e, oq_e, fq_e, gq_e, sq_e, bq_e, ssq_e, slq_e] at *
  exact sp_tru_int_0 h
theorem sp_tru_lst {ds : List D} {P : Bool → Prop} (h : P (!ds.isEmpty)) : SQ (truth env S (.val (.lst ds))) P := by
  try simp only [rq_e, oq_e, fq_e, gq_e, sq_e, bq_e, ssq_e, slq_e] at *
  exact sp_tru_lst_0 h
theorem sp_tru_tup {ds : List D} {P : Bool → Prop} (h : P (!ds.isEmpty)) : SQ (truth env S (.val (.tup ds))) P := by
  try simp only [rq_e, oq_e, fq_e, gq_e, sq_e, bq_e, ssq_e, slq_e] at *
  exact sp_tru_tup_0 h
theorem sp_tru_slot {ds : List D} {P : Bool → Prop} (e : env[i]? = some (some (.own ds))) (h : P (!ds.isEmpty)) : SQ (truth env S (.slot i)) P := by
  try simp only [rq_e, oq_e, fq_e, gq_e, sq_e, bq_e, ssq_e, slq_e] at *
  exact sp_tru_slot_0 e h
theorem sp_tru_loc {n : Nat} {ds : List D} {P : Bool → Prop} (e : S[n]? = some (.lst ds)) (h : P (!ds.isEmpty)) : SQ (truth env S (.val (.loc n))) P := by
  try simp only [rq_e, oq_e, fq_e, gq_e, sq_e, bq_e, ssq_e, slq_e] at *
  exact sp_tru_loc_0 e h
theorem rp_notT (h : RQ (t env S) (fun b S1 => QT (!b) S1) X) : RQ (mNotT t env S) QT X := by
  try simp only [rq_e, oq_e, fq_e, gq_e, sq_e, bq_e, ssq_e, slq_e] at *
  exact rp_notT_0 h
theorem rp_andT (h : RQ (t env S) (fun b S1 => BQ b (RQ (t' env S1) QT X) (QT false S1)) X) : RQ (mAndT t t' env S) QT X := by
  try simp only [rq_e, oq_e, fq_e, gq_e, sq_e, bq_e, ssq_e, slq_e] at *
  exact rp_andT_0 h
theorem rp_orT (h : RQ (t env S) (fun b S1 => BQ b (QT true S1) (RQ (t' env S1) QT X)) X) : RQ (mOrT t t' env S) QT X := by
  try simp only [rq_e, oq_e, fq_e, gq_e, sq_e, bq_e, ssq_e, slq_e] at *
  exact rp_orT_0 h
theorem rp_andTP (h : RQ (t env S) (fun b S1 => RQ (t' env S1) (fun c S2 => S2 = S1 ∧ QT (b && c) S1) nox) X) : RQ (mAndT t t' env S) QT X := by
  try simp only [rq_e, oq_e, fq_e, gq_e, sq_e, bq_e, ssq_e, slq_e] at *
  exact rp_andTP_0 h
theorem rp_orTP (h : RQ (t env S) (fun b S1 => RQ (t' env S1) (fun c S2 => S2 = S1 ∧ QT (b || c) S1) nox) X) : RQ (mOrT t t' env S) QT X := by
  try simp only [rq_e, oq_e, fq_e, gq_e, sq_e, bq_e, ssq_e, slq_e] at *
  exact rp_orTP_0 h
theorem rp_and (h : RQ (ma env S) (fun x S1 => SQ (truth env S1 (.val x)) fun b => BQ b (RQ (mb env S1) Q X) (Q x S1)) X) : RQ (mAnd ma mb env S) Q X := by
  try simp only [rq_e, oq_e, fq_e, gq_e, sq_e, bq_e, ssq_e, slq_e] at *
  exact rp_and_0 h
theorem rp_or (h : RQ (ma env S) (fun x S1 => SQ (truth env S1 (.val x)) fun b => BQ b (Q x S1) (RQ (mb env S1) Q X)) X) : RQ (mOr ma mb env S) Q X := by
  try simp only [rq_e, oq_e, fq_e, gq_e, sq_e, bq_e, ssq_e, slq_e] at *
  exact rp_or_0 h
theorem rp_andP (h : RQ (ma env S) (fun x S1 => RQ (mb env S1) (fun y S2 => S2 = S1 ∧ ∃ b c, x = .bl b ∧ y = .bl c ∧ Q (.bl (b && c)) S1) nox) X) : RQ (mAnd ma mb env S) Q X := by
  try simp only [rq_e, oq_e, fq_e, gq_e, sq_e, bq_e, ssq_e, slq_e] at *
  exact rp_andP_0 h
theorem rp_orP (h : RQ (ma env S) (fun x S1 => RQ (mb env S1) (fun y S2 => S2 = S1 ∧ ∃ b c, x = .bl b ∧ y = .bl c ∧ Q (.bl (b || c)) S1) nox) X) : RQ (mOr ma mb env S) Q X := by
  try simp only [rq_e, oq_e, fq_e, gq_e, sq_e, bq_e, ssq_e, slq_e] at *
  exact rp_orP_0 h
theorem rp_not (h : RQ (m env S) (fun x S1 => SQ (truth env S1 (.val x)) fun b => Q (.bl (!b)) S1) X) : RQ (mNot m env S) Q X := by
  try simp only [rq_e, oq_e, fq_e, gq_e, sq_e, bq_e, ssq_e, slq_e] at *
  exact rp_not_0 h
theorem rp_if (h : RQ (t env S) (fun b S1 => BQ b (RQ (ma env S1) Q X) (RQ (mb env S1) Q X)) X) : RQ (mIf t ma mb env S) Q X := by
  try simp only [rq_e, oq_e, fq_e, gq_e, sq_e, bq_e, ssq_e, slq_e] at *
  exact rp_if_0 h
theorem rp_ifO (h : RQ (t env S) (fun b S1 => BQ b (RQ (mo env S1) QA X) (RQ (mo' env S1) QA X)) X) : RQ (mIfO t mo mo' env S) QA X := by
  try simp only [rq_e, oq_e, fq_e, gq_e, sq_e, bq_e, ssq_e, slq_e] at *
  exact rp_ifO_0 h
theorem rp_neg (h : RQ (m env S) (fun y S1 => ∃ x, y = .int x ∧ Q (.int (-x)) S1) X) : RQ (mNeg m env S) Q X := by
  try simp only [rq_e, oq_e, fq_e, gq_e, sq_e, bq_e, ssq_e, slq_e] at *
  exact rp_neg_0 h
theorem rp_nil (h : QA [] S) : RQ (mNil env S) QA X := by
  try simp only [rq_e, oq_e, fq_e, gq_e, sq_e, bq_e, ssq_e, slq_e] at *
  exact rp_nil_0 h
theorem rp_cons (h : RQ (m env S) (fun d S1 => RQ (as env S1) (fun ds S2 => QA (d :: ds) S2) X) X) : RQ (mCons m as env S) QA X := by
  try simp only [rq_e, oq_e, fq_e, gq_e, sq_e, bq_e, ssq_e, slq_e] at *
  exact rp_cons_0 h
theorem rp_star (h : RQ (ml env S) (fun k S1 => SQ ((ctL env S1 k).bind itemsOf) fun ds => RQ (as env S1) (fun es S2 => QA (ds ++ es) S2) X) X) : RQ (mStar ml as env S) QA X := by
  try simp only [rq_e, oq_e, fq_e, gq_e, sq_e, bq_e, ssq_e, slq_e] at *
  exact rp_star_0 h
theorem rp_tup (h : RQ (as env S) (fun ds S1 => ds.length ≤ 16777216 ∧ Q (.tup ds) S1) X) : RQ (mTup as env S) Q X := by
  try simp only [rq_e, oq_e, fq_e, gq_e, sq_e, bq_e, ssq_e, slq_e] at *
  exact rp_tup_0 h
theorem rp_lst (h : RQ (as env S) (fun ds S1 => ds.length ≤ 16777216 ∧ QA ds S1) X) : RQ (mLst as env S) QA X := by
  try simp only [rq_e, oq_e, fq_e, gq_e, sq_e, bq_e, ssq_e, slq_e] at *
  exact rp_lst_0 h
theorem rp_f (h : RQ (mo env S) (fun ds S1 => Q (.lst ds) S1) X) : RQ (mF mo env S) Q X := by
  try simp only [rq_e, oq_e, fq_e, gq_e, sq_e, bq_e, ssq_e, slq_e] at *
  exact rp_f_0 h
theorem rp_new (h : RQ (mo env S) (fun ds S1 => Q (.loc S1.length) (S1 ++ [.lst ds])) X) : RQ (mNew mo env S) Q X := by
  try simp only [rq_e, oq_e, fq_e, gq_e, sq_e, bq_e, ssq_e, slq_e] at *
  exact rp_new_0 h
theorem rp_in {neg : Bool} (h : RQ (m env S) (fun x S1 => RQ (ml env S1) (fun k S2 => SQ ((ctL env S2 k).bind fun c => inCt c x) fun b => QT (b != neg) S2) X) X) : RQ (mIn neg m ml env S) QT X := by
  try simp only [rq_e, oq_e, fq_e, gq_e, sq_e, bq_e, ssq_e, slq_e] at *
  exact rp_in_0 h
theorem rp_inE (h : RQ (m env S) (fun x S1 => RQ (ml env S1) (fun k S2 => SQ ((ctL env S2 k).bind fun c => inCt c x) fun b => Q (.bl b) S2) X) X) : RQ (mInE m ml env S) Q X := by
  try simp only [rq_e, oq_e, fq_e, gq_e, sq_e, bq_e, ssq_e, slq_e] at *
  exact rp_inE_0 h
theorem rp_ix (h : RQ (ml env S) (fun k S1 => RQ (n env S1) (fun y S2 => SQ (ixD env S2 k y) fun d => Q d S2) X) X) : RQ (mIx ml n env S) Q X := by
  try simp only [rq_e, oq_e, fq_e, gq_e, sq_e, bq_e, ssq_e, slq_e] at *
  exact rp_ix_0 h
theorem rp_pn (h : QP none S) : RQ (mPN env S) QP X := by
  try simp only [rq_e, oq_e, fq_e, gq_e, sq_e, bq_e, ssq_e, slq_e] at *
  exact rp_pn_0 h
theorem rp_ps (h : RQ (m env S) (fun y S1 => ∃ x, y = .int x ∧ QP (some x) S1) X) : RQ (mPS m env S) QP X := by
  try simp only [rq_e, oq_e, fq_e, gq_e, sq_e, bq_e, ssq_e, slq_e] at *
  exact rp_ps_0 h
theorem rp_sl {p q : MP} (h : RQ (ml env S) (fun k S1 => RQ (p env S1) (fun lo S2 => RQ (q env S2) (fun hi S3 => SQ ((ctL env S3 k).bind fun c => slC S3 c lo hi) fun d => Q d S3) X) X) X) : RQ (mSl ml p q env S) Q X := by
  try simp only [rq_e, oq_e, fq_e, gq_e, sq_e, bq_e, ssq_e, slq_e] at *
  exact rp_sl_0 h
theorem rp_slO {p q : MP} (h : RQ (ml env S) (fun k S1 => RQ (p env S1) (fun lo S2 => RQ (q env S2) (fun hi S3 => SQ (lOf (ctL env S3 k)) fun ds => QA (cut ds lo hi) S3) X) X) X) : RQ (mSlO ml p q env S) QA X := by
  try simp only [rq_e, oq_e, fq_e, gq_e, sq_e, bq_e, ssq_e, slq_e] at *
  exact rp_slO_0 h
theorem rp_b1 {f : Ct → Option D} (h : RQ (ml env S) (fun k S1 => SQ ((ctL env S1 k).bind f) fun d => Q d S1) X) : RQ (mB1 f ml env S) Q X := by
  try simp only [rq_e, oq_e, fq_e, gq_e, sq_e, bq_e, ssq_e, slq_e] at *
  exact rp_b1_0 h
theorem rp_e1 {f : D → Option D} (h : RQ (m env S) (fun x S1 => SQ (f x) fun d => Q d S1) X) : RQ (mE1 f m env S) Q X := by
  try simp only [rq_e, oq_e, fq_e, gq_e, sq_e, bq_e, ssq_e, slq_e] at *
  exact rp_e1_0 h
theorem rp_list (h : RQ (ml env S) (fun k S1 => SQ (listOf (ctL env S1 k)) fun ds => QA ds S1) X) : RQ (mList ml env S) QA X := by
  try simp only [rq_e, oq_e, fq_e, gq_e, sq_e, bq_e, ssq_e, slq_e] at *
  exact rp_list_0 h
theorem rp_sortI (h : RQ (ml env S) (fun k S1 => SQ (lOf (ctL env S1 k)) fun ds => ∃ ns : List Int, dInts ds = some ns ∧ QA ((isort ns).map .int) S1) X) : RQ (mSortI ml env S) QA X := by
  try simp only [rq_e, oq_e, fq_e, gq_e, sq_e, bq_e, ssq_e, slq_e] at *
  exact rp_sortI_0 h
theorem rp_cat (h : RQ (ml env S) (fun k S1 => RQ (ml' env S1) (fun l S2 => SQ (lOf (ctL env S2 k)) fun ds => SQ (lOf (ctL env S2 l)) fun es => ds.length + es.length ≤ 16777216 ∧ QA (ds ++ es) S2) X) X) : RQ (mCat ml ml' env S) QA X := by
  try simp only [rq_e, oq_e, fq_e, gq_e, sq_e, bq_e, ssq_e, slq_e] at *
  exact rp_cat_0 h
theorem rp_rep (h : RQ (ml env S) (fun k S1 => RQ (m env S1) (fun y S2 => SQ (lOf (ctL env S2 k)) fun ds => ∃ i : Int, y = .int i ∧ (-(2 ^ 63) ≤ i ∧ i < 2 ^ 63 ∧ ds.length * i.toNat ≤ 16777216) ∧ QA (List.replicate i.toNat ds).flatten S2) X) X) : RQ (mRep ml m env S) QA X := by
  try simp only [rq_e, oq_e, fq_e, gq_e, sq_e, bq_e, ssq_e, slq_e] at *
  exact rp_rep_0 h
theorem rp_call (h : RQ (as env S) (fun ds S1 => FQ (fm ds S1) Q X) X) : RQ (mCall fm as env S) Q X := by
  try simp only [rq_e, oq_e, fq_e, gq_e, sq_e, bq_e, ssq_e, slq_e] at *
  exact rp_call_0 h
theorem rp_callO (h : RQ (as env S) (fun ds S1 => GQ (fm ds S1) QA X) X) : RQ (mCallO fm as env S) QA X := by
  try simp only [rq_e, oq_e, fq_e, gq_e, sq_e, bq_e, ssq_e, slq_e] at *
  exact rp_callO_0 h
theorem fp_ret {r : FRes} {S1 : Store} (e : r = .ret d S1) (h : Q d S1) : FQ r Q X := by
  try simp only [rq_e, oq_e, fq_e, gq_e, sq_e, bq_e, ssq_e, slq_e] at *
  exact fp_ret_0 e h
theorem gp_own {r : FRes} {ds : List D} {S1 : Store} (e : r = .own ds S1) (h : QA ds S1) : GQ r QA X := by
  try simp only [rq_e, oq_e, fq_e, gq_e, sq_e, bq_e, ssq_e, slq_e] at *
  exact gp_own_0 e h
theorem fp_exc {r : FRes} {x : Ex} {S1 : Store} (e : r = .exc x S1) (h : X x S1) : FQ r Q X := by
  try simp only [rq_e, oq_e, fq_e, gq_e, sq_e, bq_e, ssq_e, slq_e] at *
  exact fp_exc_0 e h
theorem rp_fld {c : Nat} {f : Str} (h : RQ (m env S) (fun x S1 => SQ (fldD c f S1 x) fun d => Q d S1) X) : RQ (mFld c f m env S) Q X := by
  try simp only [rq_e, oq_e, fq_e, gq_e, sq_e, bq_e, ssq_e, slq_e] at *
  exact rp_fld_0 h
theorem rp_isBE {T : String} (h : RQ (m env S) (fun x S1 => SQ (isB S1 T x) fun b => Q (.bl b) S1) X) : RQ (mIsBE T m env S) Q X := by
  try simp only [rq_e, oq_e, fq_e, gq_e, sq_e, bq_e, ssq_e, slq_e] at *
  exact rp_isBE_0 h
theorem rp_isB {T : String} (h : RQ (m env S) (fun x S1 => SQ (isB S1 T x) fun b => QT b S1) X) : RQ (mIsB T m env S) QT X := by
  try simp only [rq_e, oq_e, fq_e, gq_e, sq_e, bq_e, ssq_e, slq_e] at *
  exact rp_isB_0 h
theorem rp_eqL {neg : Bool} (h : RQ (ml env S) (fun k S1 => RQ (ml' env S1) (fun l S2 => SQ ((ctL env S2 k).bind fun x => (ctL env S2 l).bind fun y => eqCt x y) fun b => QT (b != neg) S2) X) X) : RQ (mEqL neg ml ml' env S) QT X := by
  try simp only [rq_e, oq_e, fq_e, gq_e, sq_e, bq_e, ssq_e, slq_e] at *
  exact rp_eqL_0 h
theorem rp_iV (h : RQ (m env S) (fun x S1 => SQ (walkD x) fun ds => QA ds S1) X) : RQ (miV m env S) QA X := by
  try simp only [rq_e, oq_e, fq_e, gq_e, sq_e, bq_e, ssq_e, slq_e] at *
  exact rp_iV_0 h
theorem rp_iR1 (h : RQ (m env S) (fun x S1 => ∃ j : Int, x = .int j ∧ (-(2 ^ 62) ≤ j ∧ j < 2 ^ 62) ∧ QA (rng 0 j.toNat) S1) X) : RQ (miR1 m env S) QA X := by
  try simp only [rq_e, oq_e, fq_e, gq_e, sq_e, bq_e, ssq_e, slq_e] at *
  exact rp_iR1_0 h
theorem rp_iR2 (h : RQ (m env S) (fun x S1 => RQ (n env S1) (fun y S2 => ∃ i j : Int, x = .int i ∧ y = .int j ∧ (-(2 ^ 62) ≤ i ∧ i < 2 ^ 62 ∧ -(2 ^ 62) ≤ j ∧ j < 2 ^ 62) ∧ QA (rng i (j - i).toNat) S2) X) X) : RQ (miR2 m n env S) QA X := by
  try simp only [rq_e, oq_e, fq_e, gq_e, sq_e, bq_e, ssq_e, slq_e] at *
  exact rp_iR2_0 h
theorem rp_iRev (h : RQ (m env S) (fun x S1 => SQ (seqOf x) fun ds => QA ds.reverse S1) X) : RQ (miRev m env S) QA X := by
  try simp only [rq_e, oq_e, fq_e, gq_e, sq_e, bq_e, ssq_e, slq_e] at *
  exact rp_iRev_0 h
theorem rp_iEnum (h : RQ (m env S) (fun x S1 => SQ (seqOf x) fun ds => QA (enumD ds) S1) X) : RQ (miEnumT m env S) QA X := by
  try simp only [rq_e, oq_e, fq_e, gq_e, sq_e, bq_e, ssq_e, slq_e] at *
  exact rp_iEnum_0 h
theorem rp_iZip (h : RQ (m env S) (fun x S1 => RQ (n env S1) (fun y S2 => SQ (zipOf x y) fun ds => QA ds S2) X) X) : RQ (miZip m n env S) QA X := by
  try simp only [rq_e, oq_e, fq_e, gq_e, sq_e, bq_e, ssq_e, slq_e] at *
  exact rp_iZip_0 h
theorem rp_comp {vs : List Nat} {tg : MG} {tt : MT} (no : noOwn env vs = true) (h : RQ (mi env S) (fun ds S1 => ds.length ≤ 16777216 ∧ RQ (compL vs tg tt m env ds S1) QA nox) X) : RQ (mComp vs mi tg tt m env S) QA X := by
  try simp only [rq_e, oq_e, fq_e, gq_e, sq_e, bq_e, ssq_e, slq_e] at *
  exact rp_comp_0 no h
end
section
variable {env : Env} {S : Store} {Q : Out → Prop} {m n : ME} {ml : ML} {mo : MO} {as : MA} {t : MT} {d : D} {i : Nat} {p q : MS} {mi : MI} {mg : MG}
theorem go_op {α : Type} {r : Res (α × Store)} {k : α → Store → Out} (h : RQ r (fun a S1 => OQ (k a S1) Q) (fun e S1 => Q (.exc e env S1))) : OQ (r.go env k) Q := by
  try simp only [rq_e, oq_e, fq_e, gq_e, sq_e, bq_e, ssq_e, slq_e] at *
  exact go_op_0 h
theorem op_eq {o o' : Out} (e : o = o') (h : Q o') : OQ o Q := by
  try simp only [rq_e, oq_e, fq_e, gq_e, sq_e, bq_e, ssq_e, slq_e] at *
  exact op_eq_0 e h
theorem op_next (h : Q (.nx env S)) : OQ (mNext env S) Q := by
  try simp only [rq_e, oq_e, fq_e, gq_e, sq_e, bq_e, ssq_e, slq_e] at *
  exact op_next_0 h
theorem op_seq (h : OQ (p env S) (sq q Q)) : OQ (mSeq p q env S) Q := by
  try simp only [rq_e, oq_e, fq_e, gq_e, sq_e, bq_e, ssq_e, slq_e] at *
  exact op_seq_0 h
theorem sq_nx (h : OQ (q env S) Q) : sq q Q (.nx env S) := by
  try simp only [rq_e, oq_e, fq_e, gq_e, sq_e, bq_e, ssq_e, slq_e] at *
  exact sq_nx_0 h
theorem sq_set {env' : Env} (e : env = env') (h : OQ (q env' S) Q) : sq q Q (.nx env S) := by
  try simp only [rq_e, oq_e, fq_e, gq_e, sq_e, bq_e, ssq_e, slq_e] at *
  exact sq_set_0 e h
theorem sq_rt (h : Q (.rt d S)) : sq q Q (.rt d S) := by
  try simp only [rq_e, oq_e, fq_e, gq_e, sq_e, bq_e, ssq_e, slq_e] at *
  exact sq_rt_0 h
theorem sq_ro {ds : List D} (h : Q (.ro ds S)) : sq q Q (.ro ds S) := by
  try simp only [rq_e, oq_e, fq_e, gq_e, sq_e, bq_e, ssq_e, slq_e] at *
  exact sq_ro_0 h
theorem sq_bk (h : Q (.bk env S)) : sq q Q (.bk env S) := by
  try simp only [rq_e, oq_e, fq_e, gq_e, sq_e, bq_e, ssq_e, slq_e] at *
  exact sq_bk_0 h
theorem sq_ct (h : Q (.ct env S)) : sq q Q (.ct env S) := by
  try simp only [rq_e, oq_e, fq_e, gq_e, sq_e, bq_e, ssq_e, slq_e] at *
  exact sq_ct_0 h
theorem sq_exc {x : Ex} (h : Q (.exc x env S)) : sq q Q (.exc x env S) := by
  try simp only [rq_e, oq_e, fq_e, gq_e, sq_e, bq_e, ssq_e, slq_e] at *
  exact sq_exc_0 h
theorem op_break (h : Q (.bk env S)) : OQ (mBreak env S) Q := by
  try simp only [rq_e, oq_e, fq_e, gq_e, sq_e, bq_e, ssq_e, slq_e] at *
  exact op_break_0 h
theorem op_cont (h : Q (.ct env S)) : OQ (mCont env S) Q := by
  try simp only [rq_e, oq_e, fq_e, gq_e, sq_e, bq_e, ssq_e, slq_e] at *
  exact op_cont_0 h
theorem op_drop (h : RQ (m env S) (fun _ S1 => Q (.nx env S1)) (fun e S1 => Q (.exc e env S1))) : OQ (mDrop m env S) Q := by
  try simp only [rq_e, oq_e, fq_e, gq_e, sq_e, bq_e, ssq_e, slq_e] at *
  exact op_drop_0 h
theorem op_ret (h : RQ (m env S) (fun d S1 => Q (.rt d S1)) (fun e S1 => Q (.exc e env S1))) : OQ (mRet m env S) Q := by
  try simp only [rq_e, oq_e, fq_e, gq_e, sq_e, bq_e, ssq_e, slq_e] at *
  exact op_ret_0 h
theorem op_retO (h : RQ (mo env S) (fun d S1 => Q (.ro d S1)) (fun e S1 => Q (.exc e env S1))) : OQ (mRetO mo env S) Q := by
  try simp only [rq_e, oq_e, fq_e, gq_e, sq_e, bq_e, ssq_e, slq_e] at *
  exact op_retO_0 h
theorem op_retV {ds : List D} (e : env[i]? = some (some (.own ds))) (h : Q (.ro ds S)) : OQ (mRetV i env S) Q := by
  try simp only [rq_e, oq_e, fq_e, gq_e, sq_e, bq_e, ssq_e, slq_e] at *
  exact op_retV_0 e h
theorem op_retN (h : Q (.rt .non S)) : OQ (mRetN env S) Q := by
  try simp only [rq_e, oq_e, fq_e, gq_e, sq_e, bq_e, ssq_e, slq_e] at *
  exact op_retN_0 h
theorem op_if (h : RQ (t env S) (fun b S1 => BQ b (OQ (p env S1) Q) (OQ (q env S1) Q)) (fun e S1 => Q (.exc e env S1))) : OQ (mIfS t p q env S) Q := by
  try simp only [rq_e, oq_e, fq_e, gq_e, sq_e, bq_e, ssq_e, slq_e] at *
  exact op_if_0 h
theorem op_asg (h : RQ (m env S) (fun d S1 => SQ (mg d env) fun e => Q (.nx e S1)) (fun e S1 => Q (.exc e env S1))) : OQ (mAsg m mg env S) Q := by
  try simp only [rq_e, oq_e, fq_e, gq_e, sq_e, bq_e, ssq_e, slq_e] at *
  exact op_asg_0 h
theorem op_asgN (h : RQ (m env S) (fun d S1 => Q (.nx (env.set i (some (.val d))) S1)) (fun e S1 => Q (.exc e env S1))) : OQ (mAsg m (mgN i) env S) Q := by
  try simp only [rq_e, oq_e, fq_e, gq_e, sq_e, bq_e, ssq_e, slq_e] at *
  exact op_asgN_0 h
theorem op_setO (h : RQ (mo env S) (fun ds S1 => Q (.nx (env.set i (some (.own ds))) S1)) (fun e S1 => Q (.exc e env S1))) : OQ (mSetO i mo env S) Q := by
  try simp only [rq_e, oq_e, fq_e, gq_e, sq_e, bq_e, ssq_e, slq_e] at *
  exact op_setO_0 h
theorem op_frz {ds : List D} (e : env[i]? = some (some (.own ds))) {env' : Env} (e' : env.set i (some (.val (.lst ds))) = env') (h : OQ (p env' S) Q) : OQ (mFrz i p env S) Q := by
  try simp only [rq_e, oq_e, fq_e, gq_e, sq_e, bq_e, ssq_e, slq_e] at *
  exact op_frz_0 e e' h
theorem op_locz {ds : List D} (e : env[i]? = some (some (.own ds))) {env' : Env} (e' : env.set i (some (.val (.loc S.length))) = env') (h : OQ (p env' (S ++ [.lst ds])) Q) : OQ (mLocz i p env S) Q := by
  try simp only [rq_e, oq_e, fq_e, gq_e, sq_e, bq_e, ssq_e, slq_e] at *
  exact op_locz_0 e e' h
theorem op_for (h : RQ (mi env S) (fun ds S1 => OQ (forL mg p ds env S1) Q) (fun e S1 => Q (.exc e env S1))) : OQ (mFor mi mg p env S) Q := by
  try simp only [rq_e, oq_e, fq_e, gq_e, sq_e, bq_e, ssq_e, slq_e] at *
  exact op_for_0 h
theorem sp_mgN {d : D} {env' : Env} {P : Env → Prop} (e : env.set i (some (.val d)) = env') (h : P env') : SQ (mgN i d env) P := by
  try simp only [rq_e, oq_e, fq_e, gq_e, sq_e, bq_e, ssq_e, slq_e] at *
  exact sp_mgN_0 e h
theorem sp_mgT {n : Nat} {ds : List D} {ms : MGs} {P : Env → Prop} (e : ds.length = n) (h : SQ (ms ds env) P) : SQ (mgT n ms (.tup ds) env) P := by
  try simp only [rq_e, oq_e, fq_e, gq_e, sq_e, bq_e, ssq_e, slq_e] at *
  exact sp_mgT_0 e h
theorem sp_mgCons {d : D} {ds : List D} {ms : MGs} {P : Env → Prop} (h : SQ (mg d env) fun e => SQ (ms ds e) P) : SQ (mgCons mg ms (d :: ds) env) P := by
  try simp only [rq_e, oq_e, fq_e, gq_e, sq_e, bq_e, ssq_e, slq_e] at *
  exact sp_mgCons_0 h
theorem sp_mgNil {P : Env → Prop} (h : P env) : SQ (mgNil [] env) P := by
  try simp only [rq_e, oq_e, fq_e, gq_e, sq_e, bq_e, ssq_e, slq_e] at *
  exact sp_mgNil_0 h
theorem op_dropX {mx : MX} (h : RQ (mx env S) (fun p S1 => Q (.nx p.2 S1)) (fun e S1 => Q (.exc e env S1))) : OQ (mDropX mx env S) Q := by
  try simp only [rq_e, oq_e, fq_e, gq_e, sq_e, bq_e, ssq_e, slq_e] at *
  exact op_dropX_0 h
theorem op_asgX {mx : MX} (h : RQ (mx env S) (fun p S1 => SQ (mg p.1 p.2) fun e => Q (.nx e S1)) (fun e S1 => Q (.exc e env S1))) : OQ (mAsgX mx mg env S) Q := by
  try simp only [rq_e, oq_e, fq_e, gq_e, sq_e, bq_e, ssq_e, slq_e] at *
  exact op_asgX_0 h
theorem op_retX {mx : MX} (h : RQ (mx env S) (fun p S1 => Q (.rt p.1 S1)) (fun e S1 => Q (.exc e env S1))) : OQ (mRetX mx env S) Q := by
  try simp only [rq_e, oq_e, fq_e, gq_e, sq_e, bq_e, ssq_e, slq_e] at *
  exact op_retX_0 h
theorem rp_appO {xs : List D} {QX : (D × Env) → Store → Prop} {X : Ex → Store → Prop} (e : env[i]? = some (some (.own xs))) (h : RQ (m env S) (fun d S1 => xs.length < 16777216 ∧ QX (.non, env.set i (some (.own (xs ++ [d])))) S1) X) : RQ (mMeth fAppend (mLO i) (mCons m mNil) env S) QX X := by
  try simp only [rq_e, oq_e, fq_e, gq_e, sq_e, bq_e, ssq_e, slq_e] at *
  exact rp_appO_0 e h
theorem rp_appL {a : Nat} {xs : List D} {QX : (D × Env) → Store → Prop} {X : Ex → Store → Prop} (e : S[a]? = some (.lst xs)) (h : RQ (m env S) (fun d S1 => ∃ ys, S1[a]? = some (.lst ys) ∧ ys.length < 16777216 ∧ QX (.non, env) (S1.set a (.lst (ys ++ [d])))) X) (ev : env[i]? = some (some (.val (.loc a)))) :
    RQ (mMeth fAppend (mLV (mV i)) (mCons m mNil) env S) QX X := by
  try simp only [rq_e, oq_e, fq_e, gq_e, sq_e, bq_e, ssq_e, slq_e] at *
  exact rp_appL_0 e h ev
theorem rp_extO {xs : List D} {QX : (D × Env) → Store → Prop} {X : Ex → Store → Prop} (e : env[i]? = some (some (.own xs))) (h : RQ (ml env S) (fun k S1 => SQ (lOf (ctL env S1 k)) fun ds => xs.length + ds.length ≤ 16777216 ∧ QX (.non, env.set i (some (.own (xs ++ ds)))) S1) X) : RQ (mExt (mLO i) ml env S) QX X := by
  try simp only [rq_e, oq_e, fq_e, gq_e, sq_e, bq_e, ssq_e, slq_e] at *
  exact rp_extO_0 e h
theorem rp_popO {xs : List D} {x : D} {QX : (D × Env) → Store → Prop} {X : Ex → Store → Prop} (e : env[i]? = some (some (.own (xs ++ [x])))) (h : QX (x, env.set i (some (.own xs))) S) : RQ (mMeth0 fPop (mLO i) env S) QX X := by
  try simp only [rq_e, oq_e, fq_e, gq_e, sq_e, bq_e, ssq_e, slq_e] at *
  exact rp_popO_0 e h
theorem op_subO {xs : List D} (e : ∀ S1, ml env S1 = .ok (.slot i, S1)) (e2 : env[i]? = some (some (.own xs))) (h : RQ (m env S) (fun d S1 => RQ (n env S1) (fun x S2 => ∃ j : Int, x = .int j ∧ ∃ k, ixN xs.length j = some k ∧ Q (.nx (env.set i (some (.own (xs.set k d)))) S2)) (fun e S1 => Q (.exc e env S1))) (fun e S1 => Q (.exc e env S1))) : OQ (mSub m ml n env S) Q := by
  try simp only [rq_e, oq_e, fq_e, gq_e, sq_e, bq_e, ssq_e, slq_e] at *
  exact op_subO_0 e e2 h
theorem op_subL (h : RQ (m env S) (fun d S1 => RQ (ml env S1) (fun k S2 => RQ (n env S2) (fun x S3 => ∃ (a : Nat) (j : Int) (xs : List D) (z : Nat), k = .val (.loc a) ∧ x = .int j ∧ S3[a]? = some (.lst xs) ∧ ixN xs.length j = some z ∧ Q (.nx env (S3.set a (.lst (xs.set z d))))) (fun e S1 => Q (.exc e env S1))) (fun e S1 => Q (.exc e env S1))) (fun e S1 => Q (.exc e env S1))) : OQ (mSub m ml n env S) Q := by
  try simp only [rq_e, oq_e, fq_e, gq_e, sq_e, bq_e, ssq_e, slq_e] at *
  exact op_subL_0 h
theorem op_augSubO {xs : List D} (e2 : env[i]? = some (some (.own xs))) (h : RQ (n env S) (fun x S1 => ∃ (j z : Int) (k : Nat), x = .int j ∧ atI xs j = some (.int z) ∧ ixN xs.length j = some k ∧ RQ (m env S1) (fun y S2 => ∃ w : Int, y = .int w ∧ Q (.nx (env.set i (some (.own (xs.set k (.int (z + w)))))) S2)) (fun e S1 => Q (.exc e env S1))) (fun e S1 => Q (.exc e env S1))) : OQ (mAugSub (mLO i) n m env S) Q := by
  try simp only [rq_e, oq_e, fq_e, gq_e, sq_e, bq_e, ssq_e, slq_e] at *
  exact op_augSubO_0 e2 h
theorem op_aug {f : Int → Int → Int} {z : Int} (e : env[i]? = some (some (.val (.int z)))) (h : RQ (m env S) (fun y S1 => ∃ w : Int, y = .int w ∧ Q (.nx (env.set i (some (.val (.int (f z w))))) S1)) (fun e S1 => Q (.exc e env S1))) : OQ (mAug i f m env S) Q := by
  try simp only [rq_e, oq_e, fq_e, gq_e, sq_e, bq_e, ssq_e, slq_e] at *
  exact op_aug_0 e h
end
section
variable {α : Type} {S : Store} {env : Env}
theorem forL_inv {tg : MG} {mb : MS} {Q : Out → Prop} (enc : α → D) (xs : List α) (I : List α → Env → Store → Prop)
    (hb : ∀ (done : List α) (x : α) (rest : List α) (env : Env) (S : Store), xs = done ++ x :: rest → I done env S → SQ (tg (enc x) env) fun env1 => OQ (mb env1 S) (lq (I (done ++ [x])) Q))
    (h0 : I [] env S) (he : ∀ env S, I xs env S → Q (.nx env S)) : OQ (forL tg mb (xs.map enc) env S) Q := by
  try simp only [rq_e, oq_e, fq_e, gq_e, sq_e, bq_e, ssq_e, slq_e] at *
  exact forL_inv_0 enc xs I hb h0 he
theorem compL_map {vs : List Nat} {tg : MG} {te : ME} (enc : α → D) (f : α → D) (xs : List α)
    (hb : ∀ x ∈ xs, SQ (tg (enc x) (wipeE env vs)) fun env1 => RQ (te env1 S) (fun y S' => y = f x ∧ S' = S) nox) : compL vs tg mYes te env (xs.map enc) S = .ok (xs.map f, S) := by
  try simp only [rq_e, oq_e, fq_e, gq_e, sq_e, bq_e, ssq_e, slq_e] at *
  exact compL_map_0 enc f xs hb
theorem compL_filt {vs : List Nat} {tg : MG} {tt : MT} {te : ME} (enc : α → D) (b : α → Bool) (f : α → D) (xs : List α)
    (hb : ∀ x ∈ xs, SQ (tg (enc x) (wipeE env vs)) fun env1 => RQ (tt env1 S) (fun y S' => y = b x ∧ S' = S) nox ∧ (b x = true → RQ (te env1 S) (fun y S' => y = f x ∧ S' = S) nox)) :
    compL vs tg tt te env (xs.map enc) S = .ok ((xs.filter b).map f, S) := by
  try simp only [rq_e, oq_e, fq_e, gq_e, sq_e, bq_e, ssq_e, slq_e] at *
  exact compL_filt_0 enc b f xs hb
theorem mWh_inv {mc : MT} {mb : MS} {Q : Out → Prop} (I : Nat → Env → Store → Prop)
    (hb : ∀ n env S, I n env S → RQ (mc env S) (fun b S1 => BQ b (OQ (mb env S1) (lq (fun e S => ∃ m, m < n ∧ I m e S) Q)) (Q (.nx env S1))) (fun e S1 => Q (.exc e env S1)))
    (hq : ¬ Q .bad) {k : Nat} (h0 : I k env S) : OQ (mWh mc mb env S) Q := by
  try simp only [rq_e, oq_e, fq_e, gq_e, sq_e, bq_e, ssq_e, slq_e] at *
  exact mWh_inv_0 I hb hq h0
end
theorem lq_nx {J : Env → Store → Prop} {Q : Out → Prop} {env : Env} {S : Store} (h : J env S) : lq J Q (.nx env S) := by
  try simp only [rq_e, oq_e, fq_e, gq_e, sq_e, bq_e, ssq_e, slq_e] at *
  exact lq_nx_0 h
theorem lq_set {J : Env → Store → Prop} {Q : Out → Prop} {env env' : Env} {S : Store} (e : env = env') (h : J env' S) : lq J Q (.nx env S) := by
  try simp only [rq_e, oq_e, fq_e, gq_e, sq_e, bq_e, ssq_e, slq_e] at *
  exact lq_set_0 e h
theorem lq_ct {J : Env → Store → Prop} {Q : Out → Prop} {env : Env} {S : Store} (h : J env S) : lq J Q (.ct env S) := by
  try simp only [rq_e, oq_e, fq_e, gq_e, sq_e, bq_e, ssq_e, slq_e] at *
  exact lq_ct_0 h
theorem lq_bk {J : Env → Store → Prop} {Q : Out → Prop} {env : Env} {S : Store} (h : Q (.nx env S)) : lq J Q (.bk env S) := by
  try simp only [rq_e, oq_e, fq_e, gq_e, sq_e, bq_e, ssq_e, slq_e] at *
  exact lq_bk_0 h
theorem lq_rt {J : Env → Store → Prop} {Q : Out → Prop} {d : D} {S : Store} (h : Q (.rt d S)) : lq J Q (.rt d S) := by
  try simp only [rq_e, oq_e, fq_e, gq_e, sq_e, bq_e, ssq_e, slq_e] at *
  exact lq_rt_0 h
theorem lq_ro {J : Env → Store → Prop} {Q : Out → Prop} {d : List D} {S : Store} (h : Q (.ro d S)) : lq J Q (.ro d S) := by
  try simp only [rq_e, oq_e, fq_e, gq_e, sq_e, bq_e, ssq_e, slq_e] at *
  exact lq_ro_0 h
theorem lq_exc {J : Env → Store → Prop} {Q : Out → Prop} {e : Ex} {env : Env} {S : Store} (h : Q (.exc e env S)) : lq J Q (.exc e env S) := by
  try simp only [rq_e, oq_e, fq_e, gq_e, sq_e, bq_e, ssq_e, slq_e] at *
  exact lq_exc_0 h
theorem len_le {α : Type} {xs : List α} {P : Prop} (h : xs.length ≤ 16777216) (k : P) : xs.length ≤ 16777216 ∧ P := by
  try simp only [rq_e, oq_e, fq_e, gq_e, sq_e, bq_e, ssq_e, slq_e] at *
  exact len_le_0 h k
theorem len_lt {α : Type} {xs : List α} {P : Prop} (h : xs.length < 16777216) (k : P) : xs.length < 16777216 ∧ P := by
  try simp only [rq_e, oq_e, fq_e, gq_e, sq_e, bq_e, ssq_e, slq_e] at *
  exact len_lt_0 h k
theorem ex_int {y : Int} {P : Int → Prop} (h : P y) : ∃ x, D.int y = .int x ∧ P x := by
  try simp only [rq_e, oq_e, fq_e, gq_e, sq_e, bq_e, ssq_e, slq_e] at *
  exact ex_int_0 h
theorem st_eq {S : Store} {P : Prop} (h : P) : S = S ∧ P := ⟨rfl, h⟩
theorem rp_inB {env : Env} {S : Store} {X : Ex → Store → Prop} {QT : Bool → Store → Prop} {m : ME} {ml : ML} {neg : Bool} (h : RQ (m env S) (fun x S1 => RQ (ml env S1) (fun k S2 => SQ ((ctL env S2 k).bind fun c => inBt c x) fun b => QT (b != neg) S2) X) X) : RQ (mInB neg m ml env S) QT X := by
  try simp only [rq_e, oq_e, fq_e, gq_e, sq_e, bq_e, ssq_e, slq_e] at *
  exact rp_inB_0 h
theorem rp_inBE {env : Env} {S : Store} {X : Ex → Store → Prop} {Q : D → Store → Prop} {m : ME} {ml : ML} (h : RQ (m env S) (fun x S1 => RQ (ml env S1) (fun k S2 => SQ ((ctL env S2 k).bind fun c => inBt c x) fun b => Q (.bl b) S2) X) X) : RQ (mInBE m ml env S) Q X := by
  try simp only [rq_e, oq_e, fq_e, gq_e, sq_e, bq_e, ssq_e, slq_e] at *
  exact rp_inBE_0 h
section
variable {env : Env} {S : Store} {X : Ex → Store → Prop} {i : Nat}
theorem id_v {Q : D → Store → Prop} (h : RQ (mV i env S) Q X) : RQ (mV i env S) Q X := by
  try simp only [rq_e, oq_e, fq_e, gq_e, sq_e, bq_e, ssq_e, slq_e] at *
  exact id_v_0 h
theorem id_lo {Q : Lk → Store → Prop} (h : RQ (mLO i env S) Q X) : RQ (mLO i env S) Q X := by
  try simp only [rq_e, oq_e, fq_e, gq_e, sq_e, bq_e, ssq_e, slq_e] at *
  exact id_lo_0 h
theorem id_retV {Q : Out → Prop} (h : OQ (mRetV i env S) Q) : OQ (mRetV i env S) Q := by
  try simp only [rq_e, oq_e, fq_e, gq_e, sq_e, bq_e, ssq_e, slq_e] at *
  exact id_retV_0 h
theorem id_frz {Q : Out → Prop} {m : MS} (h : OQ (mFrz i m env S) Q) : OQ (mFrz i m env S) Q := by
  try simp only [rq_e, oq_e, fq_e, gq_e, sq_e, bq_e, ssq_e, slq_e] at *
  exact id_frz_0 h
theorem id_locz {Q : Out → Prop} {m : MS} (h : OQ (mLocz i m env S) Q) : OQ (mLocz i m env S) Q := by
  try simp only [rq_e, oq_e, fq_e, gq_e, sq_e, bq_e, ssq_e, slq_e] at *
  exact id_locz_0 h
theorem id_truS {P : Bool → Prop} (h : SQ (truth env S (.slot i)) P) : SQ (truth env S (.slot i)) P := by
  try simp only [rq_e, oq_e, fq_e, gq_e, sq_e, bq_e, ssq_e, slq_e] at *
  exact id_truS_0 h
theorem id_comp {Q : List D → Store → Prop} {vs : List Nat} {mi : MI} {tg : MG} {tt : MT} {m : ME} (h : RQ (mComp vs mi tg tt m env S) Q X) : RQ (mComp vs mi tg tt m env S) Q X := by
  try simp only [rq_e, oq_e, fq_e, gq_e, sq_e, bq_e, ssq_e, slq_e] at *
  exact id_comp_0 h
theorem id_appO {Q : (D × Env) → Store → Prop} {m : ME} (h : RQ (mMeth fAppend (mLO i) (mCons m mNil) env S) Q X) : RQ (mMeth fAppend (mLO i) (mCons m mNil) env S) Q X := by
  try simp only [rq_e, oq_e, fq_e, gq_e, sq_e, bq_e, ssq_e, slq_e] at *
  exact id_appO_0 h
theorem id_extO {Q : (D × Env) → Store → Prop} {ml : ML} (h : RQ (mExt (mLO i) ml env S) Q X) : RQ (mExt (mLO i) ml env S) Q X := by
  try simp only [rq_e, oq_e, fq_e, gq_e, sq_e, bq_e, ssq_e, slq_e] at *
  exact id_extO_0 h
theorem id_mgT {n : Nat} {ds : List D} {ms : MGs} {P : Env → Prop} (h : SQ (mgT n ms (.tup ds) env) P) : SQ (mgT n ms (.tup ds) env) P := by
  try simp only [rq_e, oq_e, fq_e, gq_e, sq_e, bq_e, ssq_e, slq_e] at *
  exact id_mgT_0 h
theorem id_sq {α : Type} {o : Option α} {P : α → Prop} (h : SQ o P) : SQ o P := by
  try simp only [rq_e, oq_e, fq_e, gq_e, sq_e, bq_e, ssq_e, slq_e] at *
  exact id_sq_0 h
end
theorem fn_wp {N : List Str} {m : MS} {ds : List D} {S : Store} {r : FRes} (h : OQ (m (startE N ds) S) (fun o => outF0 o = r)) : mFn0 N m ds S = r := by
  try simp only [rq_e, oq_e, fq_e, gq_e, sq_e, bq_e, ssq_e, slq_e] at *
  exact fn_wp_0 h
theorem fn_fp {N : List Str} {m : MS} {ds : List D} {S : Store} {Q : D → Store → Prop} {X : Ex → Store → Prop} (h : OQ (m (startE N ds) S) (fun o => FQ (outF0 o) Q X)) : FQ (mFn0 N m ds S) Q X := by
  try simp only [rq_e, oq_e, fq_e, gq_e, sq_e, bq_e, ssq_e, slq_e] at *
  exact fn_fp_0 h
section
theorem sp_ctB {env : Env} {S : Store} {k : Lk} {c : Ct} {β : Type} {f : Ct → Option β} {Q : β → Prop} (e : ctL env S k = some c) (h : SQ (f c) Q) : SQ ((ctL env S k).bind f) Q := by
  try simp only [rq_e, oq_e, fq_e, gq_e, sq_e, bq_e, ssq_e, slq_e] at *
  exact sp_ctB_0 e h
theorem sp_lenL {env : Env} {S : Store} {α : Type} {f : α → D} {xs : List α} {Q : D → Prop} (h : Q (.int (xs.length : Nat))) : SQ ((ctL env S (.val (.lst (xs.map f)))).bind fLen) Q := by
  try simp only [rq_e, oq_e, fq_e, gq_e, sq_e, bq_e, ssq_e, slq_e] at *
  exact sp_lenL_0 h
theorem sp_lenT {env : Env} {S : Store} {α : Type} {f : α → D} {xs : List α} {Q : D → Prop} (h : Q (.int (xs.length : Nat))) : SQ ((ctL env S (.val (.tup (xs.map f)))).bind fLen) Q := by
  try simp only [rq_e, oq_e, fq_e, gq_e, sq_e, bq_e, ssq_e, slq_e] at *
  exact sp_lenT_0 h
theorem sp_cEqI {a b : Int} {Q : Bool → Prop} (h : Q (decide (a = b))) : SQ (cEq (.int a) (.int b)) Q := by
  try simp only [rq_e, oq_e, fq_e, gq_e, sq_e, bq_e, ssq_e, slq_e] at *
  exact sp_cEqI_0 h
theorem sp_cNeI {a b : Int} {Q : Bool → Prop} (h : Q (!decide (a = b))) : SQ (cNe (.int a) (.int b)) Q := by
  try simp only [rq_e, oq_e, fq_e, gq_e, sq_e, bq_e, ssq_e, slq_e] at *
  exact sp_cNeI_0 h
theorem sp_cEqB {a b : Bool} {Q : Bool → Prop} (h : Q (decide (a = b))) : SQ (cEq (.bl a) (.bl b)) Q := by
  try simp only [rq_e, oq_e, fq_e, gq_e, sq_e, bq_e, ssq_e, slq_e] at *
  exact sp_cEqB_0 h
theorem sp_cNeB {a b : Bool} {Q : Bool → Prop} (h : Q (!decide (a = b))) : SQ (cNe (.bl a) (.bl b)) Q := by
  try simp only [rq_e, oq_e, fq_e, gq_e, sq_e, bq_e, ssq_e, slq_e] at *
  exact sp_cNeB_0 h
theorem sp_cEq {x y : D} {Q : Bool → Prop} (hx : x.eqk 64 = true) (hy : y.eqk 64 = true) (h : Q (decide (x = y))) : SQ (cEq x y) Q := by
  try simp only [rq_e, oq_e, fq_e, gq_e, sq_e, bq_e, ssq_e, slq_e] at *
  exact sp_cEq_0 hx hy h
theorem sp_inL {ds : List D} {x : D} {Q : Bool → Prop} (h1 : x.eqk 64 = true) (h2 : D.eqks 63 ds = true) (h : Q (decide (x ∈ ds))) : SQ (inCt (.l ds) x) Q := by
  try simp only [rq_e, oq_e, fq_e, gq_e, sq_e, bq_e, ssq_e, slq_e] at *
  exact sp_inL_0 h1 h2 h
theorem sp_inT {ds : List D} {x : D} {Q : Bool → Prop} (h1 : x.eqk 64 = true) (h2 : D.eqks 63 ds = true) (h : Q (decide (x ∈ ds))) : SQ (inCt (.t ds) x) Q := by
  try simp only [rq_e, oq_e, fq_e, gq_e, sq_e, bq_e, ssq_e, slq_e] at *
  exact sp_inT_0 h1 h2 h
end
theorem rp_sortSet {env : Env} {S : Store} {X : Ex → Store → Prop} {QA : List D → Store → Prop} {ml : ML} (h : RQ (ml env S) (fun k S1 => SQ (lOf (ctL env S1 k)) fun ds => setOk ds = true ∧ QA (sortD ds) S1) X) : RQ (mSortSet ml env S) QA X := by
  try simp only [rq_e, oq_e, fq_e, gq_e, sq_e, bq_e, ssq_e, slq_e] at *
  exact rp_sortSet_0 h
end
theorem bp_ct {b : Bool} {P P' : Prop} (e : b = true) (h : P) : BQ b P P' := by subst e; exact bp_t h
theorem bp_cf {b : Bool} {P P' : Prop} (e : b = false) (h : P') : BQ b P P' := by subst e; exact bp_f h
theorem sp_cEqS {a b : Str} {Q : Bool → Prop} (h : Q (decide (a = b))) : SQ (cEq (.str a) (.str b)) Q := sp_of (a := decide (a = b)) rfl h
theorem bp_nbl {b : Bool} [Decidable (D.bl b = D.non)] {P P' : Prop} (h : P') : BQ (decide (D.bl b = D.non)) P P' := bp_df (fun e => by cases e) h
theorem bp_nint {i : Int} [Decidable (D.int i = D.non)] {P P' : Prop} (h : P') : BQ (decide (D.int i = D.non)) P P' := bp_df (fun e => by cases e) h
theorem bp_nstr {x : Str} [Decidable (D.str x = D.non)] {P P' : Prop} (h : P') : BQ (decide (D.str x = D.non)) P P' := bp_df (fun e => by cases e) h
theorem bp_ntup {x : List D} [Decidable (D.tup x = D.non)] {P P' : Prop} (h : P') : BQ (decide (D.tup x = D.non)) P P' := bp_df (fun e => by cases e) h
theorem bp_nlst {x : List D} [Decidable (D.lst x = D.non)] {P P' : Prop} (h : P') : BQ (decide (D.lst x = D.non)) P P' := bp_df (fun e => by cases e) h
theorem bp_nloc {n : Nat} [Decidable (D.loc n = D.non)] {P P' : Prop} (h : P') : BQ (decide (D.loc n = D.non)) P P' := bp_df (fun e => by cases e) h
end DL

set_option Elab.async false
set_option linter.all false
set_option maxRecDepth 100000
set_option maxHeartbeats 1000000
set_option autoImplicit false
namespace DL
open PySem PySem.Spec PyProof.Rows L2
section
variable {env : Env} {S : Store} {Q : D → Store → Prop} {QA : List D → Store → Prop} {QT : Bool → Store → Prop} {X : Ex → Store → Prop} {m ma mb mo : ME} {mi : MO} {as : MA} {fm : MFn} {c : Nat} {nm : Str}
theorem rp_methC (h : RQ (mo env S) (fun d S1 => objOk c nm S1 d = true ∧ RQ (as env S1) (fun ds S2 => FQ (fm (d :: ds) S2) Q X) X) X) : RQ (mMethC c nm fm mo as env S) Q X := by
  unfold mMethC
  refine rp_bind (h.mono fun d S1 h1 => ?_)
  obtain ⟨e, h1⟩ := h1
  rw [if_pos e]
  refine rp_bind (h1.mono fun ds S2 h2 => ?_)
  rw [fq_e] at h2
  rw [rq_e]
  generalize fm (d :: ds) S2 = r at h2
  cases r with
  | ret d S3 => exact h2
  | exc x S3 => exact h2
  | own d S3 => exact h2.elim
  | bad => exact h2.elim
theorem rp_methCO (h : RQ (mo env S) (fun d S1 => objOk c nm S1 d = true ∧ RQ (as env S1) (fun ds S2 => GQ (fm (d :: ds) S2) QA X) X) X) : RQ (mMethCO c nm fm mo as env S) QA X := by
  unfold mMethCO
  refine rp_bind (h.mono fun d S1 h1 => ?_)
  obtain ⟨e, h1⟩ := h1
  rw [if_pos e]
  refine rp_bind (h1.mono fun ds S2 h2 => ?_)
  rw [gq_e] at h2
  rw [rq_e]
  generalize fm (d :: ds) S2 = r at h2
  cases r with
  | ret d S3 => exact h2.elim
  | exc x S3 => exact h2
  | own d S3 => exact h2
  | bad => exact h2.elim
theorem rp_dictP (h : RQ (mi env S) (fun ds S1 => ∃ ks, pairKeys ds = some ks ∧ ks.all keyOk = true ∧ ks.Nodup ∧ Q (.dct ks) S1) X) : RQ (mDictP mi env S) Q X := by
  unfold mDictP
  refine rp_bind (h.mono fun ds S1 h1 => ?_)
  obtain ⟨ks, e1, e2, e3, q⟩ := h1
  rw [e1]
  dsimp only
  rw [if_pos ⟨e2, e3⟩]
  exact rp_eq rfl q
theorem rp_inDE {neg : Bool} (h : RQ (ma env S) (fun x S1 => RQ (mb env S1) (fun y S2 => SQ (inDct x y) fun b => Q (.bl (b != neg)) S2) X) X) : RQ (mInDE neg ma mb env S) Q X := by
  unfold mInDE
  refine rp_bind (h.mono fun x S1 h1 => ?_)
  refine rp_bind (h1.mono fun y S2 h2 => ?_)
  rw [sq_e] at h2
  rw [rq_e]
  generalize inDct x y = r at h2
  cases r with
  | none => exact h2.elim
  | some b => exact h2
theorem rp_minD {x y r : D} (e : minOk x y = true) (e2 : (if PySem.W.dataLt y.py x.py = true then y else x) = r) (h : Q r S) : RQ (fMinD x y S) Q X := by
  unfold fMinD
  rw [if_pos e]
  exact rp_eq rfl (e2 ▸ h)
theorem rp_isC (h : RQ (m env S) (fun d S1 => ∃ ks ds, d = .ins c ks ds ∧ Q (.bl true) S1) X) : RQ (mIsC c m env S) Q X := by
  unfold mIsC
  refine rp_bind (h.mono fun d S1 h1 => ?_)
  obtain ⟨ks, ds, rfl, q⟩ := h1
  dsimp only
  rw [if_pos rfl]
  exact rp_eq rfl q
theorem rp_make (h : RQ (as env S) (fun ds S1 => ∃ ks es, fm (.loc S1.length :: ds) (S1 ++ [.ins c [] []]) = .ret .non (S1 ++ [.ins c ks es]) ∧ D.lows S1.length es = true ∧ S1.all (Ob.low S1.length) = true ∧ Q (.ins c ks es) S1) X) : RQ (mMake c fm as env S) Q X := by
  unfold mMake
  refine rp_bind (h.mono fun ds S1 h1 => ?_)
  obtain ⟨ks, es, e, e2, e3, q⟩ := h1
  rw [e]
  dsimp only
  have e4 : (S1 ++ [Ob.ins c ks es])[S1.length]? = some (.ins c ks es) := by simp
  have e5 : (S1 ++ [Ob.ins c ks es]).take S1.length = S1 := by simp
  rw [e4, e5]
  dsimp only
  rw [if_pos ⟨by simp, rfl, e2, e3⟩]
  exact rp_eq rfl q
theorem op_putF {f : Str} {Q : Out → Prop} {me : ME} (h : RQ (me env S) (fun d S1 => RQ (mo env S1) (fun x S2 => ∃ (T : Store) (ks : List Str) (ds : List D), x = .loc T.length ∧ S2 = T ++ [.ins c ks ds] ∧ ks.length = ds.length ∧ ks.length < 1000 ∧ Q (.nx env (T ++ [.ins c (putK f ks) (putD f d ks ds)]))) (fun e S1 => Q (.exc e env S1))) (fun e S1 => Q (.exc e env S1))) : OQ (mPutF c f mo me env S) Q := by
  unfold mPutF
  refine go_op (h.mono fun d S1 h1 => ?_)
  refine go_op (h1.mono fun x S2 h2 => ?_)
  obtain ⟨T, ks, ds, rfl, rfl, e1, e2, q⟩ := h2
  have e4 : (T ++ [Ob.ins c ks ds])[T.length]? = some (.ins c ks ds) := by simp
  have e5 : ∀ o, (T ++ [Ob.ins c ks ds]).set T.length o = T ++ [o] := fun o => by simp
  dsimp only
  rw [e4]
  dsimp only
  rw [if_pos ⟨rfl, e1, e2⟩, e5]
  exact op_eq rfl q
end
theorem bp_qbl {x : Bool} [Decidable (D.bl x = D.non)] {P P' : Prop} (h : P) : BQ (!decide (D.bl x = D.non)) P P' := by
  rw [decide_eq_false (show ¬D.bl x = D.non from fun e => by cases e)]
  exact bp_t h
theorem bp_qint {x : Int} [Decidable (D.int x = D.non)] {P P' : Prop} (h : P) : BQ (!decide (D.int x = D.non)) P P' := by
  rw [decide_eq_false (show ¬D.int x = D.non from fun e => by cases e)]
  exact bp_t h
theorem bp_qstr {x : Str} [Decidable (D.str x = D.non)] {P P' : Prop} (h : P) : BQ (!decide (D.str x = D.non)) P P' := by
  rw [decide_eq_false (show ¬D.str x = D.non from fun e => by cases e)]
  exact bp_t h
theorem bp_qtup {x : List D} [Decidable (D.tup x = D.non)] {P P' : Prop} (h : P) : BQ (!decide (D.tup x = D.non)) P P' := by
  rw [decide_eq_false (show ¬D.tup x = D.non from fun e => by cases e)]
  exact bp_t h
theorem bp_qlst {x : List D} [Decidable (D.lst x = D.non)] {P P' : Prop} (h : P) : BQ (!decide (D.lst x = D.non)) P P' := by
  rw [decide_eq_false (show ¬D.lst x = D.non from fun e => by cases e)]
  exact bp_t h
theorem bp_qloc {x : Nat} [Decidable (D.loc x = D.non)] {P P' : Prop} (h : P) : BQ (!decide (D.loc x = D.non)) P P' := by
  rw [decide_eq_false (show ¬D.loc x = D.non from fun e => by cases e)]
  exact bp_t h
end DL

set_option Elab.async false
set_option linter.all false
set_option maxRecDepth 100000
set_option maxHeartbeats 4000000
set_option autoImplicit false
namespace K10
open PySem PySem.Spec PyProof.Rows L2 DL

noncomputable section
def top (i : Nat) : Stmt := PySem.Challenge.pw_someobjects_k30_whole_labels_for_rings.main.body.getD i (.Pass ⟨0, 0, 0, 0⟩)
def b_ring_objectors_1 : MS := (mSeq (mIfS (mIn true (mTup (mCons (mV 5) (mCons (mTup (mCons (mIx (mLV (mV 2)) (mOp fSub (mV 4) (mC (.int 1)))) mNil)) (mCons (mIx (mLV (mV 2)) (mV 4)) mNil)))) (mLV (mFld 0 "moves" (mV 0)))) (mSeq (mDropX (mMeth fAppend (mLO 3) (mCons (mV 4) mNil)))
  mNext) mNext)
  mNext)
abbrev s_ring_objectors : Stmt := top 4
def N_ring_objectors : List Str := ["machine", "ring", "labels", "found", "at", "letter"]
theorem sc_ring_objectors : FnScope N_ring_objectors ["machine", "ring", "labels"] (defScope s_ring_objectors) := ⟨rfl, rfl, rfl, by decide +kernel, rfl, by decide +kernel, by decide +kernel⟩
def m_ring_objectors : MS :=
  (mSeq (mSetO 3 (mLst mNil))
  (mSeq (mFor (miEnumT (mV 1)) (mgT 2 (mgCons (mgN 4) (mgCons (mgN 5) mgNil))) b_ring_objectors_1)
  (mSeq (mRetV 3)
  mNext)))
def f_ring_objectors : MFn := mFn0 N_ring_objectors m_ring_objectors
abbrev s_Found___init__ : Stmt := inClass (top 6) 0
def N_Found___init__ : List Str := ["self", "kind", "cost", "labels", "numbers", "ends"]
theorem sc_Found___init__ : FnScope N_Found___init__ ["self", "kind", "cost", "labels", "numbers", "ends"] (defScope s_Found___init__) := ⟨rfl, rfl, rfl, by decide +kernel, rfl, by decide +kernel, by decide +kernel⟩
def m_Found___init__ : MS :=
  (mSeq (mPutF 1 "kind" (mV 0) (mV 1))
  (mSeq (mPutF 1 "cost" (mV 0) (mV 2))
  (mSeq (mPutF 1 "labels" (mV 0) (mF (mList (mLV (mV 3)))))
  (mSeq (mPutF 1 "numbers" (mV 0) (mF (mList (mLV (mV 4)))))
  (mSeq (mPutF 1 "ends" (mV 0) (mF (mList (mLV (mV 5)))))
  mNext)))))
def f_Found___init__ : MFn := mFn0 N_Found___init__ m_Found___init__
def t_least_1 : MT := (mCmpT cNotN (mV 2) (mC .non))
def e_least_2 : ME := (mV 2)
abbrev s_least : Stmt := top 7
def N_least : List Str := ["rows", "costs", "cost"]
theorem sc_least : FnScope N_least ["rows"] (defScope s_least) := ⟨rfl, rfl, rfl, by decide +kernel, rfl, by decide +kernel, by decide +kernel⟩
def m_least : MS :=
  (mSeq (mSetO 1 (mComp [2] (miV (mV 0)) (mgN 2) t_least_1 e_least_2))
  (mFrz 1 (mSeq (mRet (mIf (mTru (mLV (mV 1))) (mB1 fMin (mLV (mV 1))) (mC .non)))
  mNext)))
def f_least : MFn := mFn0 N_least m_least
abbrev s_better : Stmt := top 8
def N_better : List Str := ["one", "other"]
theorem sc_better : FnScope N_better ["one", "other"] (defScope s_better) := ⟨rfl, rfl, rfl, by decide +kernel, rfl, by decide +kernel, by decide +kernel⟩
def m_better : MS :=
  (mSeq (mIfS (mOrT (mCmpT cIsN (mV 0) (mC .non)) (mCmpT cIsN (mV 1) (mC .non))) (mSeq (mRet (mOr (mV 0) (mV 1)))
  mNext) mNext)
  (mSeq (mRet (mOp fMinD (mV 0) (mV 1)))
  mNext))
def f_better : MFn := mFn0 N_better m_better
abbrev s_charged : Stmt := top 9
def N_charged : List Str := ["cost", "objects", "fine"]
theorem sc_charged : FnScope N_charged ["cost", "objects", "fine"] (defScope s_charged) := ⟨rfl, rfl, rfl, by decide +kernel, rfl, by decide +kernel, by decide +kernel⟩
def m_charged : MS :=
  (mSeq (mIfS (mNotT (mTru (mLV (mV 1)))) (mSeq (mRet (mV 0))
  mNext) mNext)
  (mSeq (mRet (mIf (mCmpT cIsN (mV 2) (mC .non)) (mC .non) (mOp fAdd (mV 0) (mV 2))))
  mNext))
def f_charged : MFn := mFn0 N_charged m_charged
abbrev s_cost_of : Stmt := top 10
def N_cost_of : List Str := ["pair"]
theorem sc_cost_of : FnScope N_cost_of ["pair"] (defScope s_cost_of) := ⟨rfl, rfl, rfl, by decide +kernel, rfl, by decide +kernel, by decide +kernel⟩
def m_cost_of : MS :=
  (mSeq (mRet (mIf (mCmpT cIsN (mV 0) (mC .non)) (mC .non) (mIx (mLV (mV 0)) (mC (.int 0)))))
  mNext)
def f_cost_of : MFn := mFn0 N_cost_of m_cost_of
def e_priced_1 : ME := (mIx (mLV (mIx (mLV (mV 0)) (mV 4))) (mV 5))
abbrev s_priced : Stmt := top 11
def N_priced : List Str := ["prices", "fine", "labels", "count", "at", "label"]
theorem sc_priced : FnScope N_priced ["prices", "fine", "labels", "count"] (defScope s_priced) := ⟨rfl, rfl, rfl, by decide +kernel, rfl, by decide +kernel, by decide +kernel⟩
def m_priced : MS :=
  (mSeq (mIfS (mAndT (mTru (mLV (mV 3))) (mCmpT cIsN (mV 1) (mC .non))) (mSeq (mRet (mC .non))
  mNext) mNext)
  (mSeq (mRet (mOp fAdd (mB1 fSum (mLV (mF (mComp [4, 5] (miEnumT (mV 2)) (mgT 2 (mgCons (mgN 4) (mgCons (mgN 5) mgNil))) mYes e_priced_1)))) (mOp fMul (mV 3) (mOr (mV 1) (mC (.int 0))))))
  mNext))
def f_priced : MFn := mFn0 N_priced m_priced
def e_fits_1 : ME := (mChain cLe cLt (mC (.int 0)) (mV 3) (mFld 0 "labels" (mV 0)))
abbrev s_fits : Stmt := top 12
def N_fits : List Str := ["machine", "labels", "count", "label"]
theorem sc_fits : FnScope N_fits ["machine", "labels", "count"] (defScope s_fits) := ⟨rfl, rfl, rfl, by decide +kernel, rfl, by decide +kernel, by decide +kernel⟩
def m_fits : MS :=
  (mSeq (mRet (mAnd (mCmp cEq (mB1 fLen (mLV (mV 1))) (mV 2)) (mB1 fAll (mLV (mF (mComp [3] (miV (mV 1)) (mgN 3) mYes e_fits_1))))))
  mNext)
def f_fits : MFn := mFn0 N_fits m_fits
def e_Ring___init___1 : ME := (mTup (mCons (mV 5) (mCons (mC (.bl true)) mNil)))
abbrev s_Ring___init__ : Stmt := inClass (top 14) 0
def N_Ring___init__ : List Str := ["self", "machine", "ring", "prices", "fine", "move"]
theorem sc_Ring___init__ : FnScope N_Ring___init__ ["self", "machine", "ring", "prices", "fine"] (defScope s_Ring___init__) := ⟨rfl, rfl, rfl, by decide +kernel, rfl, by decide +kernel, by decide +kernel⟩
def m_Ring___init__ : MS :=
  (mSeq (mPutF 2 "machine" (mV 0) (mV 1))
  (mSeq (mPutF 2 "moves" (mV 0) (mDictP (mComp [5] (miV (mFld 0 "moves" (mV 1))) (mgN 5) mYes e_Ring___init___1)))
  (mSeq (mPutF 2 "ring" (mV 0) (mV 2))
  (mSeq (mPutF 2 "prices" (mV 0) (mV 3))
  (mSeq (mPutF 2 "fine" (mV 0) (mV 4))
  mNext)))))
def f_Ring___init__ : MFn := mFn0 N_Ring___init__ m_Ring___init__
abbrev s_Machine___init__ : Stmt := inClass (top 21) 0
def N_Machine___init__ : List Str := ["self", "letters", "labels", "moves", "ends", "letter", "children", "label", "known", "own"]
theorem sc_Machine___init__ : FnScope N_Machine___init__ ["self", "letters", "labels", "moves", "ends"] (defScope s_Machine___init__) := ⟨rfl, rfl, rfl, by decide +kernel, rfl, by decide +kernel, by decide +kernel⟩
def m_Machine___init__ : MS :=
  (mSeq (mIfS (mNotT (mChainT cLt cLe (mC (.int 0)) (mV 1) (mC (.int 4)))) mNever mNext)
  (mSeq (mIfS (mNotT (mChainT cLt cLe (mC (.int 0)) (mV 2) (mC (.int 8)))) mNever mNext)
  (mSeq (mFor (miV (mV 3)) (mgT 3 (mgCons (mgN 5) (mgCons (mgN 6) (mgCons (mgN 7) mgNil)))) (mSeq (mAsg (mB1 fAll (mLV (mF (mComp [9] (miV (mF (mLst (mStar (mLV (mV 6)) (mCons (mV 7) mNil))))) (mgN 9) mYes (mChain cLe cLt (mC (.int 0)) (mV 9) (mV 2)))))) (mgN 8))
  (mSeq (mIfS (mOrT (mNotT (mChainT cLe cLt (mC (.int 0)) (mV 5) (mV 1))) (mOrT (mCmpT cGt (mB1 fLen (mLV (mV 6))) (mC (.int 2))) (mNotT (mTru (mLV (mV 8)))))) mNever mNext)
  mNext)))
  (mSeq (mIfS (mNotT (mTru (mLV (mB1 fAll (mLV (mF (mComp [7] (miV (mV 4)) (mgN 7) mYes (mChain cLe cLt (mC (.int 0)) (mV 7) (mV 2))))))))) mNever mNext)
  (mSeq (mPutF 0 "letters" (mV 0) (mV 1))
  (mSeq (mPutF 0 "labels" (mV 0) (mV 2))
  (mSeq (mPutF 0 "moves" (mV 0) (mB1 fTup (mLV (mF (mSortSet (mLV (mF (mComp [5, 6, 7] (miV (mV 3)) (mgT 3 (mgCons (mgN 5) (mgCons (mgN 6) (mgCons (mgN 7) mgNil)))) mYes (mTup (mCons (mV 5) (mCons (mB1 fTup (mLV (mV 6))) (mCons (mV 7) mNil))))))))))))
  (mSeq (mPutF 0 "ends" (mV 0) (mB1 fTup (mLV (mF (mSortSet (mLV (mV 4)))))))
  mNext))))))))
def f_Machine___init__ : MFn := mFn0 N_Machine___init__ m_Machine___init__
abbrev s__law_pool : Stmt := top 23
def N__law_pool : List Str := ["_law_script", "_law_budget"]
theorem sc__law_pool : FnScope N__law_pool ["_law_script", "_law_budget"] (defScope s__law_pool) := ⟨rfl, rfl, rfl, by decide +kernel, rfl, by decide +kernel, by decide +kernel⟩
def m__law_pool : MS :=
  (mSeq (mRetO (mLst (mCons (mF (mList (mLV (mV 0)))) (mCons (mC (.int 0)) (mCons (mC (.int 0)) (mCons (mC (.int 1)) (mCons (mC (.int 0)) (mCons (mV 1) mNil))))))))
  mNext)
def f__law_pool : MFn := mFn0 N__law_pool m__law_pool
abbrev s__law_draw : Stmt := top 24
def N__law_draw : List Str := ["_law_pool_here", "_law_size", "_law_cell", "_law_value"]
theorem sc__law_draw : FnScope N__law_draw ["_law_pool_here", "_law_size"] (defScope s__law_draw) := ⟨rfl, rfl, rfl, by decide +kernel, rfl, by decide +kernel, by decide +kernel⟩
def m__law_draw : MS :=
  (mSeq (mIfS (mAndT (mCmpT cLe (mIx (mLV (mV 0)) (mC (.int 2))) (mC (.int 0))) (mAndT (mCmpT cLe (mIx (mLV (mV 0)) (mC (.int 4))) (mC (.int 0))) (mCmpT cLt (mIx (mLV (mV 0)) (mC (.int 1))) (mB1 fLen (mLV (mIx (mLV (mV 0)) (mC (.int 0)))))))) (mSeq (mAsg (mIx (mLV (mIx (mLV (mV 0)) (mC (.int 0)))) (mIx (mLV (mV 0)) (mC (.int 1)))) (mgN 2))
  (mSeq (mSub (mOp fAdd (mIx (mLV (mV 0)) (mC (.int 1))) (mC (.int 1))) (mLV (mV 0)) (mC (.int 1)))
  (mSeq (mSub (mOp fMod (mE1 fInt (mOp fAdd (mOp fMul (mIx (mLV (mV 0)) (mC (.int 3))) (mC (.int 31))) (mV 2))) (mC (.int 2147483647))) (mLV (mV 0)) (mC (.int 3)))
  (mSeq (mSub (mC (.int 7)) (mLV (mV 0)) (mC (.int 4)))
  (mSeq (mIfS (mCmpT cGe (mV 2) (mOp fPow (mC (.int 10)) (mC (.int 18)))) (mSeq (mSub (mV 2) (mLV (mV 0)) (mC (.int 2)))
  mNext) mNext)
  mNext))))) mNext)
  (mSeq (mIfS (mCmpT cGt (mIx (mLV (mV 0)) (mC (.int 2))) (mC (.int 0))) (mSeq (mAsg (mOp fMod (mE1 fInt (mIx (mLV (mV 0)) (mC (.int 2)))) (mV 1)) (mgN 3))
  (mSeq (mSub (mOp fDiv (mIx (mLV (mV 0)) (mC (.int 2))) (mV 1)) (mLV (mV 0)) (mC (.int 2)))
  (mSeq (mSub (mC (.int 0)) (mLV (mV 0)) (mC (.int 4)))
  (mSeq (mRet (mV 3))
  mNext)))) mNext)
  (mSeq (mSub (mOp fSub (mIx (mLV (mV 0)) (mC (.int 4))) (mC (.int 1))) (mLV (mV 0)) (mC (.int 4)))
  (mSeq (mSub (mOp fMod (mE1 fInt (mOp fAdd (mOp fMul (mIx (mLV (mV 0)) (mC (.int 3))) (mC (.int 48271))) (mC (.int 12345)))) (mC (.int 2147483647))) (mLV (mV 0)) (mC (.int 3)))
  (mSeq (mRet (mOp fMod (mOp fMod (mE1 fInt (mOp fAdd (mOp fMul (mIx (mLV (mV 0)) (mC (.int 3))) (mC (.int 69621))) (mC (.int 7919)))) (mC (.int 2147483647))) (mV 1)))
  mNext)))))
def f__law_draw : MFn := mFn0 N__law_draw m__law_draw
abbrev s__law_same : Stmt := top 25
def N__law_same : List Str := ["_law_actual", "_law_due", "_law_k"]
theorem sc__law_same : FnScope N__law_same ["_law_actual", "_law_due"] (defScope s__law_same) := ⟨rfl, rfl, rfl, by decide +kernel, rfl, by decide +kernel, by decide +kernel⟩
def m__law_same (rec : MFn) : MS :=
  (mSeq (mIfS (mOrT (mTru (mLV (mIsBE "tuple" (mV 1)))) (mTru (mLV (mIsBE "list" (mV 1))))) (mSeq (mIfS (mOrT (mCmpT cNe (mIsBE "tuple" (mV 1)) (mIsBE "tuple" (mV 0))) (mCmpT cNe (mIsBE "list" (mV 1)) (mIsBE "list" (mV 0)))) (mSeq (mRet (mC (.bl false)))
  mNext) mNext)
  (mSeq (mIfS (mCmpT cNe (mB1 fLen (mLV (mV 0))) (mB1 fLen (mLV (mV 1)))) (mSeq (mRet (mC (.bl false)))
  mNext) mNext)
  (mSeq (mFor (miR1 (mB1 fLen (mLV (mV 1)))) (mgN 2) (mSeq (mIfS (mNotT (mTru (mLV (mCall rec (mCons (mIx (mLV (mV 0)) (mV 2)) (mCons (mIx (mLV (mV 1)) (mV 2)) mNil)))))) (mSeq (mRet (mC (.bl false)))
  mNext) mNext)
  mNext))
  (mSeq (mRet (mC (.bl true)))
  mNext)))) mNext)
  (mSeq (mIfS (mOrT (mCmpT cIsN (mV 1) (mC .non)) (mTru (mLV (mIsBE "bool" (mV 1))))) (mSeq (mRet (mAnd (mCmp cEq (mCmp cIsN (mV 0) (mC .non)) (mCmp cIsN (mV 1) (mC .non))) (mAnd (mOr (mCmp cIsN (mV 1) (mC .non)) (mIsBE "bool" (mV 0))) (mCmp cEq (mV 0) (mV 1)))))
  mNext) mNext)
  (mSeq (mIfS (mTru (mLV (mIsBE "int" (mV 1)))) (mSeq (mRet (mAnd (mIsBE "int" (mV 0)) (mAnd (mNot (mIsBE "bool" (mV 0))) (mCmp cEq (mV 0) (mV 1)))))
  mNext) mNext)
  (mSeq (mRet (mAnd (mIsBE "str" (mV 0)) (mCmp cEq (mV 0) (mV 1))))
  mNext))))
def f__law_same : Nat → MFn
  | 0 => fun _ _ => .bad
  | n + 1 => mFn0 N__law_same (m__law_same (f__law_same n))
def e__law_lists_1 : ME := (mF (mCat (mLV (mV 5)) (mLV (mF (mLst (mCons (mV 6) mNil))))))
def b__law_lists_2 : MS := (mSeq (mAsg (mF (mCat (mLV (mV 4)) (mLV (mF (mComp [6] (miR1 (mV 1)) (mgN 6) mYes e__law_lists_1))))) (mgN 4))
  mNext)
def b__law_lists_3 : MS := (mSeq (mAsg (mF (mLst mNil)) (mgN 4))
  (mSeq (mFor (miV (mV 2)) (mgN 5) b__law_lists_2)
  (mSeq (mAsg (mV 4) (mgN 2))
  mNext)))
abbrev s__law_lists : Stmt := top 27
def N__law_lists : List Str := ["_law_count", "_law_labels", "_law_found", "_law_k", "_law_longer", "_law_row", "_law_label"]
theorem sc__law_lists : FnScope N__law_lists ["_law_count", "_law_labels"] (defScope s__law_lists) := ⟨rfl, rfl, rfl, by decide +kernel, rfl, by decide +kernel, by decide +kernel⟩
def m__law_lists : MS :=
  (mSeq (mAsg (mF (mLst (mCons (mF (mLst mNil)) mNil))) (mgN 2))
  (mSeq (mFor (miR1 (mV 0)) (mgN 3) b__law_lists_3)
  (mSeq (mRet (mV 2))
  mNext)))
def f__law_lists : MFn := mFn0 N__law_lists m__law_lists
def e__law_cost_1 : ME := (mIx (mLV (mIx (mLV (mV 0)) (mV 5))) (mIx (mLV (mV 2)) (mV 5)))
abbrev s__law_cost : Stmt := top 30
def N__law_cost : List Str := ["_law_prices_here", "_law_fine", "_law_labels", "_law_count", "_law_whole", "_law_k"]
theorem sc__law_cost : FnScope N__law_cost ["_law_prices_here", "_law_fine", "_law_labels", "_law_count"] (defScope s__law_cost) := ⟨rfl, rfl, rfl, by decide +kernel, rfl, by decide +kernel, by decide +kernel⟩
def m__law_cost : MS :=
  (mSeq (mIfS (mAndT (mCmpT cGt (mV 3) (mC (.int 0))) (mCmpT cIsN (mV 1) (mC .non))) (mSeq (mRet (mC .non))
  mNext) mNext)
  (mSeq (mAsg (mB1 fSum (mLV (mF (mComp [5] (miR1 (mB1 fLen (mLV (mV 2)))) (mgN 5) mYes e__law_cost_1)))) (mgN 4))
  (mSeq (mIfS (mCmpT cGt (mV 3) (mC (.int 0))) (mSeq (mAsg (mOp fAdd (mV 4) (mOp fMul (mV 3) (mV 1))) (mgN 4))
  mNext) mNext)
  (mSeq (mRet (mV 4))
  mNext))))
def f__law_cost : MFn := mFn0 N__law_cost m__law_cost
def t__law_least_1 : MT := (mCmpT cNotN (mV 2) (mC .non))
def e__law_least_2 : ME := (mV 2)
abbrev s__law_least : Stmt := top 31
def N__law_least : List Str := ["_law_rows", "_law_costs", "_law_cost_here"]
theorem sc__law_least : FnScope N__law_least ["_law_rows"] (defScope s__law_least) := ⟨rfl, rfl, rfl, by decide +kernel, rfl, by decide +kernel, by decide +kernel⟩
def m__law_least : MS :=
  (mSeq (mSetO 1 (mComp [2] (miV (mV 0)) (mgN 2) t__law_least_1 e__law_least_2))
  (mFrz 1 (mSeq (mIfS (mCmpT cEq (mB1 fLen (mLV (mV 1))) (mC (.int 0))) (mSeq (mRet (mC .non))
  mNext) mNext)
  (mSeq (mRet (mB1 fMin (mLV (mV 1))))
  mNext))))
def f__law_least : MFn := mFn0 N__law_least m__law_least
def t__law_ring_objects_1 : MT := (mIn true (mTup (mCons (mIx (mLV (mV 1)) (mV 3)) (mCons (mTup (mCons (mIx (mLV (mV 2)) (mOp fSub (mV 3) (mC (.int 1)))) mNil)) (mCons (mIx (mLV (mV 2)) (mV 3)) mNil)))) (mLV (mIx (mLV (mV 0)) (mC (.int 2)))))
def e__law_ring_objects_2 : ME := (mV 3)
abbrev s__law_ring_objects : Stmt := top 32
def N__law_ring_objects : List Str := ["_law_machine_here", "_law_ring", "_law_labels", "_law_k"]
theorem sc__law_ring_objects : FnScope N__law_ring_objects ["_law_machine_here", "_law_ring", "_law_labels"] (defScope s__law_ring_objects) := ⟨rfl, rfl, rfl, by decide +kernel, rfl, by decide +kernel, by decide +kernel⟩
def m__law_ring_objects : MS :=
  (mSeq (mRetO (mComp [3] (miR1 (mB1 fLen (mLV (mV 1)))) (mgN 3) t__law_ring_objects_1 e__law_ring_objects_2))
  mNext)
def f__law_ring_objects : MFn := mFn0 N__law_ring_objects m__law_ring_objects
abbrev s_Ring_charge : Stmt := inClass (top 14) 1
def N_Ring_charge : List Str := ["self", "cost", "at", "before", "label"]
theorem sc_Ring_charge : FnScope N_Ring_charge ["self", "cost", "at", "before", "label"] (defScope s_Ring_charge) := ⟨rfl, rfl, rfl, by decide +kernel, rfl, by decide +kernel, by decide +kernel⟩
def m_Ring_charge : MS :=
  (mSeq (mRet (mCall f_charged (mCons (mV 1) (mCons (mInDE true (mTup (mCons (mIx (mLV (mFld 2 "ring" (mV 0))) (mV 2)) (mCons (mTup (mCons (mV 3) mNil)) (mCons (mV 4) mNil)))) (mFld 2 "moves" (mV 0))) (mCons (mFld 2 "fine" (mV 0)) mNil)))))
  mNext)
def f_Ring_charge : MFn := mFn0 N_Ring_charge m_Ring_charge
abbrev s__law_machine : Stmt := top 26
def N__law_machine : List Str := ["_law_pool_here", "_law_letters", "_law_labels", "_law_many", "_law_moves", "_law_k", "_law_ends", "_law_count", "_law_children", "_law_label", "_law_turn"]
theorem sc__law_machine : FnScope N__law_machine ["_law_pool_here", "_law_letters", "_law_labels", "_law_many"] (defScope s__law_machine) := ⟨rfl, rfl, rfl, by decide +kernel, rfl, by decide +kernel, by decide +kernel⟩
def m__law_machine : MS :=
  (mSeq (mSetO 4 (mLst mNil))
  (mSeq (mFor (miR1 (mCall f__law_draw (mCons (mV 0) (mCons (mOp fAdd (mV 3) (mC (.int 1))) mNil)))) (mgN 5) (mSeq (mAsg (mIx (mLV (mTup (mCons (mC (.int 0)) (mCons (mC (.int 1)) (mCons (mC (.int 1)) (mCons (mC (.int 2)) mNil)))))) (mCall f__law_draw (mCons (mV 0) (mCons (mC (.int 4)) mNil)))) (mgN 7))
  (mSeq (mAsg (mB1 fTup (mLV (mF (mComp [10] (miR1 (mV 7)) (mgN 10) mYes (mCall f__law_draw (mCons (mV 0) (mCons (mV 2) mNil))))))) (mgN 8))
  (mSeq (mDropX (mMeth fAppend (mLO 4) (mCons (mTup (mCons (mCall f__law_draw (mCons (mV 0) (mCons (mV 1) mNil))) (mCons (mV 8) (mCons (mCall f__law_draw (mCons (mV 0) (mCons (mV 2) mNil))) mNil)))) mNil)))
  mNext))))
  (mSeq (mSetO 6 (mComp [9] (miR1 (mV 2)) (mgN 9) (mCmpT cEq (mCall f__law_draw (mCons (mV 0) (mCons (mC (.int 2)) mNil))) (mC (.int 0))) (mV 9)))
  (mFrz 6 (mFrz 4 (mSeq (mRet (mTup (mCons (mV 1) (mCons (mV 2) (mCons (mV 4) (mCons (mV 6) mNil))))))
  mNext))))))
def f__law_machine : MFn := mFn0 N__law_machine m__law_machine
abbrev s__law_made : Stmt := top 28
def N__law_made : List Str := ["_law_machine_here"]
theorem sc__law_made : FnScope N__law_made ["_law_machine_here"] (defScope s__law_made) := ⟨rfl, rfl, rfl, by decide +kernel, rfl, by decide +kernel, by decide +kernel⟩
def m__law_made : MS :=
  (mSeq (mRet (mMake 0 f_Machine___init__ (mCons (mIx (mLV (mV 0)) (mC (.int 0))) (mCons (mIx (mLV (mV 0)) (mC (.int 1))) (mCons (mIx (mLV (mV 0)) (mC (.int 2))) (mCons (mIx (mLV (mV 0)) (mC (.int 3))) mNil))))))
  mNext)
def f__law_made : MFn := mFn0 N__law_made m__law_made
def e__law_prices_1 : ME := (mCall f__law_draw (mCons (mV 0) (mCons (mV 3) mNil)))
def e__law_prices_2 : ME := (mF (mComp [5] (miR1 (mV 2)) (mgN 5) mYes e__law_prices_1))
abbrev s__law_prices : Stmt := top 29
def N__law_prices : List Str := ["_law_pool_here", "_law_count", "_law_labels", "_law_wide", "_law_k", "_law_label"]
theorem sc__law_prices : FnScope N__law_prices ["_law_pool_here", "_law_count", "_law_labels"] (defScope s__law_prices) := ⟨rfl, rfl, rfl, by decide +kernel, rfl, by decide +kernel, by decide +kernel⟩
def m__law_prices : MS :=
  (mSeq (mAsg (mIx (mLV (mTup (mCons (mC (.int 2)) (mCons (mC (.int 5)) (mCons (mC (.int 1000)) (mCons (mOp fPow (mC (.int 10)) (mC (.int 7))) (mCons (mOp fPow (mC (.int 10)) (mC (.int 30))) mNil))))))) (mCall f__law_draw (mCons (mV 0) (mCons (mC (.int 5)) mNil)))) (mgN 3))
  (mSeq (mRet (mF (mComp [4] (miR1 (mV 1)) (mgN 4) mYes e__law_prices_2)))
  mNext))
def f__law_prices : MFn := mFn0 N__law_prices m__law_prices
def b__law_step_1 : MS := (mSeq (mIfS (mCmpT cNotN (mIx (mLV (mV 2)) (mV 8)) (mC .non)) (mSeq (mIfS (mIn false (mTup (mCons (mV 1) (mCons (mTup (mCons (mV 8) mNil)) (mCons (mV 6) mNil)))) (mLV (mIx (mLV (mV 0)) (mC (.int 2))))) (mSeq (mDropX (mMeth fAppend (mLO 7) (mCons (mOp fAdd (mIx (mLV (mV 2)) (mV 8)) (mIx (mLV (mV 3)) (mV 6))) mNil)))
  mNext) (mSeq (mIfS (mCmpT cNotN (mV 4) (mC .non)) (mSeq (mDropX (mMeth fAppend (mLO 7) (mCons (mOp fAdd (mOp fAdd (mIx (mLV (mV 2)) (mV 8)) (mIx (mLV (mV 3)) (mV 6))) (mV 4)) mNil)))
  mNext) mNext)
  mNext))
  mNext) mNext)
  mNext)
def b__law_step_2 : MS := (mSeq (mSetO 7 (mLst mNil))
  (mSeq (mFor (miR1 (mIx (mLV (mV 0)) (mC (.int 1)))) (mgN 8) b__law_step_1)
  (mFrz 7 (mSeq (mDropX (mMeth fAppend (mLO 5) (mCons (mCall f__law_least (mCons (mV 7) mNil)) mNil)))
  mNext))))
abbrev s__law_step : Stmt := top 33
def N__law_step : List Str := ["_law_machine_here", "_law_letter", "_law_before", "_law_prices_here", "_law_fine", "_law_found", "_law_label", "_law_costs", "_law_own"]
theorem sc__law_step : FnScope N__law_step ["_law_machine_here", "_law_letter", "_law_before", "_law_prices_here", "_law_fine"] (defScope s__law_step) := ⟨rfl, rfl, rfl, by decide +kernel, rfl, by decide +kernel, by decide +kernel⟩
def m__law_step : MS :=
  (mSeq (mSetO 5 (mLst mNil))
  (mSeq (mFor (miR1 (mIx (mLV (mV 0)) (mC (.int 1)))) (mgN 6) b__law_step_2)
  (mSeq (mRetV 5)
  mNext)))
def f__law_step : MFn := mFn0 N__law_step m__law_step
def b_Ring_row_1 : MS := (mSeq (mIfS (mCmpT cNotN (mV 7) (mC .non)) (mSeq (mAsg (mMethC 2 "charge" f_Ring_charge (mV 0) (mCons (mOp fAdd (mIx (mLV (mV 7)) (mC (.int 0))) (mIx (mLV (mIx (mLV (mFld 2 "prices" (mV 0))) (mV 1))) (mV 4))) (mCons (mV 1) (mCons (mV 6) (mCons (mV 4) mNil))))) (mgN 8))
  (mSeq (mIfS (mCmpT cNotN (mV 8) (mC .non)) (mSeq (mAsg (mCall f_better (mCons (mV 5) (mCons (mTup (mCons (mV 8) (mCons (mF (mLst (mStar (mLV (mIx (mLV (mV 7)) (mC (.int 1)))) (mCons (mV 4) mNil)))) mNil))) mNil))) (mgN 5))
  mNext) mNext)
  mNext)) mNext)
  mNext)
def b_Ring_row_2 : MS := (mSeq (mAsg (mC .non) (mgN 5))
  (mSeq (mFor (miEnumT (mV 2)) (mgT 2 (mgCons (mgN 6) (mgCons (mgN 7) mgNil))) b_Ring_row_1)
  (mSeq (mDropX (mMeth fAppend (mLO 3) (mCons (mV 5) mNil)))
  mNext)))
abbrev s_Ring_row : Stmt := inClass (top 14) 3
def N_Ring_row : List Str := ["self", "at", "before", "found", "label", "best", "own", "pair", "cost"]
theorem sc_Ring_row : FnScope N_Ring_row ["self", "at", "before"] (defScope s_Ring_row) := ⟨rfl, rfl, rfl, by decide +kernel, rfl, by decide +kernel, by decide +kernel⟩
def m_Ring_row : MS :=
  (mSeq (mSetO 3 (mLst mNil))
  (mSeq (mFor (miR1 (mFld 0 "labels" (mFld 2 "machine" (mV 0)))) (mgN 4) b_Ring_row_2)
  (mSeq (mRetV 3)
  mNext)))
def f_Ring_row : MFn := mFn0 N_Ring_row m_Ring_row
def b_Ring_closed_1 : MS := (mSeq (mIfS (mCmpT cNotN (mV 5) (mC .non)) (mSeq (mAsg (mMethC 2 "charge" f_Ring_charge (mV 0) (mCons (mOp fAdd (mIx (mLV (mV 5)) (mC (.int 0))) (mIx (mLV (mIx (mLV (mFld 2 "prices" (mV 0))) (mC (.int 0)))) (mV 1))) (mCons (mC (.int 0)) (mCons (mV 4) (mCons (mV 1) mNil))))) (mgN 6))
  (mSeq (mIfS (mCmpT cNotN (mV 6) (mC .non)) (mSeq (mAsg (mCall f_better (mCons (mV 3) (mCons (mTup (mCons (mV 6) (mCons (mIx (mLV (mV 5)) (mC (.int 1))) mNil))) mNil))) (mgN 3))
  mNext) mNext)
  mNext)) mNext)
  mNext)
abbrev s_Ring_closed : Stmt := inClass (top 14) 4
def N_Ring_closed : List Str := ["self", "first", "last", "best", "label", "pair", "cost"]
theorem sc_Ring_closed : FnScope N_Ring_closed ["self", "first", "last"] (defScope s_Ring_closed) := ⟨rfl, rfl, rfl, by decide +kernel, rfl, by decide +kernel, by decide +kernel⟩
def m_Ring_closed : MS :=
  (mSeq (mAsg (mC .non) (mgN 3))
  (mSeq (mFor (miEnumT (mV 2)) (mgT 2 (mgCons (mgN 4) (mgCons (mgN 5) mgNil))) b_Ring_closed_1)
  (mSeq (mRet (mV 3))
  mNext)))
def f_Ring_closed : MFn := mFn0 N_Ring_closed m_Ring_closed
def b__law_ring_numbers_1 : MS := (mSeq (mDropX (mMeth fAppend (mLO 7) (mCons (mF (mCallO f__law_step (mCons (mV 0) (mCons (mIx (mLV (mV 1)) (mV 8)) (mCons (mIx (mLO 7) (mNeg (mC (.int 1)))) (mCons (mIx (mLV (mV 2)) (mV 8)) (mCons (mV 3) mNil))))))) mNil)))
  mNext)
def b__law_ring_numbers_2 : MS := (mSeq (mSetO 7 (mLst (mCons (mNew (mRep (mLV (mF (mLst (mCons (mC .non) mNil)))) (mIx (mLV (mV 0)) (mC (.int 1))))) mNil)))
  (mSeq (mSub (mC (.int 0)) (mLV (mIx (mLO 7) (mC (.int 0)))) (mV 6))
  (mSeq (mFor (miR2 (mC (.int 1)) (mB1 fLen (mLV (mV 1)))) (mgN 8) b__law_ring_numbers_1)
  (mFrz 7 (mSeq (mDropX (mMeth fAppend (mLO 4) (mCons (mV 7) mNil)))
  (mSeq (mDropX (mMeth fAppend (mLO 5) (mCons (mIx (mLV (mF (mCallO f__law_step (mCons (mV 0) (mCons (mIx (mLV (mV 1)) (mC (.int 0))) (mCons (mIx (mLV (mV 7)) (mNeg (mC (.int 1)))) (mCons (mIx (mLV (mV 2)) (mC (.int 0))) (mCons (mV 3) mNil)))))))) (mV 6)) mNil)))
  mNext))))))
abbrev s__law_ring_numbers : Stmt := top 34
def N__law_ring_numbers : List Str := ["_law_machine_here", "_law_ring", "_law_prices_here", "_law_fine", "_law_numbers", "_law_whole", "_law_first", "_law_rows", "_law_at"]
theorem sc__law_ring_numbers : FnScope N__law_ring_numbers ["_law_machine_here", "_law_ring", "_law_prices_here", "_law_fine"] (defScope s__law_ring_numbers) := ⟨rfl, rfl, rfl, by decide +kernel, rfl, by decide +kernel, by decide +kernel⟩
def m__law_ring_numbers : MS :=
  (mSeq (mSetO 4 (mLst mNil))
  (mSeq (mSetO 5 (mLst mNil))
  (mSeq (mFor (miR1 (mIx (mLV (mV 0)) (mC (.int 1)))) (mgN 6) b__law_ring_numbers_2)
  (mFrz 5 (mFrz 4 (mSeq (mRet (mTup (mCons (mV 4) (mCons (mCall f__law_least (mCons (mV 5) mNil)) mNil))))
  mNext))))))
def f__law_ring_numbers : MFn := mFn0 N__law_ring_numbers m__law_ring_numbers
def e_Ring_rows_1 : ME := (mIf (mCmpT cEq (mV 5) (mV 1)) (mTup (mCons (mC (.int 0)) (mCons (mF (mLst (mCons (mV 1) mNil))) mNil))) (mC .non))
def b_Ring_rows_2 : MS := (mSeq (mDropX (mMeth fAppend (mLO 3) (mCons (mF (mMethCO 2 "row" f_Ring_row (mV 0) (mCons (mV 4) (mCons (mIx (mLO 3) (mNeg (mC (.int 1)))) mNil)))) mNil)))
  mNext)
abbrev s_Ring_rows : Stmt := inClass (top 14) 2
def N_Ring_rows : List Str := ["self", "first", "row", "found", "at", "label"]
theorem sc_Ring_rows : FnScope N_Ring_rows ["self", "first"] (defScope s_Ring_rows) := ⟨rfl, rfl, rfl, by decide +kernel, rfl, by decide +kernel, by decide +kernel⟩
def m_Ring_rows : MS :=
  (mSeq (mSetO 2 (mComp [5] (miR1 (mFld 0 "labels" (mFld 2 "machine" (mV 0)))) (mgN 5) mYes e_Ring_rows_1))
  (mFrz 2 (mSeq (mSetO 3 (mLst (mCons (mV 2) mNil)))
  (mSeq (mFor (miR2 (mC (.int 1)) (mB1 fLen (mLV (mFld 2 "ring" (mV 0))))) (mgN 4) b_Ring_rows_2)
  (mSeq (mRetV 3)
  mNext)))))
def f_Ring_rows : MFn := mFn0 N_Ring_rows m_Ring_rows
def e_best_ring_1 : ME := (mCall f_cost_of (mCons (mV 10) mNil))
def e_best_ring_2 : ME := (mF (mComp [10] (miV (mV 9)) (mgN 10) mYes e_best_ring_1))
def b_best_ring_3 : MS := (mSeq (mAsg (mF (mMethCO 2 "rows" f_Ring_rows (mV 4) (mCons (mV 7) mNil))) (mgN 8))
  (mSeq (mDropX (mMeth fAppend (mLO 5) (mCons (mF (mComp [9] (miV (mV 8)) (mgN 9) mYes e_best_ring_2)) mNil)))
  (mSeq (mAsg (mCall f_better (mCons (mV 6) (mCons (mMethC 2 "closed" f_Ring_closed (mV 4) (mCons (mV 7) (mCons (mIx (mLV (mV 8)) (mNeg (mC (.int 1)))) mNil))) mNil))) (mgN 6))
  mNext)))
abbrev s_best_ring : Stmt := top 15
def N_best_ring : List Str := ["machine", "ring", "prices", "fine", "own", "numbers", "found", "first", "rows", "row", "pair"]
theorem sc_best_ring : FnScope N_best_ring ["machine", "ring", "prices", "fine"] (defScope s_best_ring) := ⟨rfl, rfl, rfl, by decide +kernel, rfl, by decide +kernel, by decide +kernel⟩
def m_best_ring : MS :=
  (mSeq (mAsg (mMake 2 f_Ring___init__ (mCons (mV 0) (mCons (mV 1) (mCons (mV 2) (mCons (mV 3) mNil))))) (mgN 4))
  (mSeq (mSetO 5 (mLst mNil))
  (mSeq (mAsg (mC .non) (mgN 6))
  (mSeq (mFor (miR1 (mFld 0 "labels" (mV 0))) (mgN 7) b_best_ring_3)
  (mFrz 5 (mSeq (mIfS (mCmpT cIsN (mV 6) (mC .non)) (mSeq (mRet (mMake 1 f_Found___init__ (mCons (mC (.str "none")) (mCons (mC .non) (mCons (mF (mLst mNil)) (mCons (mV 5) (mCons (mF (mLst mNil)) mNil)))))))
  mNext) mNext)
  (mSeq (mRet (mMake 1 f_Found___init__ (mCons (mC (.str "best")) (mCons (mIx (mLV (mV 6)) (mC (.int 0))) (mCons (mIx (mLV (mV 6)) (mC (.int 1))) (mCons (mV 5) (mCons (mF (mLst mNil)) mNil)))))))
  mNext)))))))
def f_best_ring : MFn := mFn0 N_best_ring m_best_ring
def e_judge_ring_1 : ME := (mCmp cNe (mB1 fLen (mLV (mV 11))) (mFld 0 "labels" (mV 0)))
def e_judge_ring_2 : ME := (mIf (mCmpT cIsN (mV 12) (mC .non)) (mC .non) (mTup (mCons (mV 12) (mCons (mF (mLst mNil)) mNil))))
def e_judge_ring_3 : ME := (mF (mComp [12] (miV (mV 11)) (mgN 12) mYes e_judge_ring_2))
def e_judge_ring_4 : ME := (mIf (mCmpT cEq (mV 13) (mV 7)) (mC (.int 0)) (mC .non))
def e_judge_ring_5 : ME := (mCall f_cost_of (mCons (mV 14) mNil))
def b_judge_ring_6 : MS := (mSeq (mIfS (mEqL true (mLV (mF (mComp [14] (miV (mF (mMethCO 2 "row" f_Ring_row (mV 5) (mCons (mV 10) (mCons (mIx (mLV (mV 9)) (mOp fSub (mV 10) (mC (.int 1)))) mNil))))) (mgN 14) mYes e_judge_ring_5))) (mLV (mIx (mLV (mV 8)) (mV 10)))) (mSeq (mRet (mC (.bl false)))
  mNext) mNext)
  mNext)
def b_judge_ring_7 : MS := (mSeq (mIfS (mOrT (mCmpT cNe (mB1 fLen (mLV (mV 8))) (mB1 fLen (mLV (mV 1)))) (mTru (mLV (mB1 fAny (mLV (mF (mComp [11] (miV (mV 8)) (mgN 11) mYes e_judge_ring_1))))))) (mSeq (mRet (mC (.bl false)))
  mNext) mNext)
  (mSeq (mSetO 9 (mComp [11] (miV (mV 8)) (mgN 11) mYes e_judge_ring_3))
  (mFrz 9 (mSeq (mIfS (mEqL true (mLV (mIx (mLV (mV 8)) (mC (.int 0)))) (mLV (mF (mComp [13] (miR1 (mFld 0 "labels" (mV 0))) (mgN 13) mYes e_judge_ring_4)))) (mSeq (mRet (mC (.bl false)))
  mNext) mNext)
  (mSeq (mFor (miR2 (mC (.int 1)) (mB1 fLen (mLV (mV 1)))) (mgN 10) b_judge_ring_6)
  (mSeq (mDropX (mMeth fAppend (mLO 6) (mCons (mCall f_cost_of (mCons (mMethC 2 "closed" f_Ring_closed (mV 5) (mCons (mV 7) (mCons (mIx (mLV (mV 9)) (mNeg (mC (.int 1)))) mNil))) mNil)) mNil)))
  mNext))))))
abbrev s_judge_ring : Stmt := top 16
def N_judge_ring : List Str := ["machine", "ring", "prices", "fine", "found", "own", "costs", "first", "told", "pairs", "at", "row", "cost", "label", "pair"]
theorem sc_judge_ring : FnScope N_judge_ring ["machine", "ring", "prices", "fine", "found"] (defScope s_judge_ring) := ⟨rfl, rfl, rfl, by decide +kernel, rfl, by decide +kernel, by decide +kernel⟩
def m_judge_ring : MS :=
  (mSeq (mAsg (mMake 2 f_Ring___init__ (mCons (mV 0) (mCons (mV 1) (mCons (mV 2) (mCons (mV 3) mNil))))) (mgN 5))
  (mSeq (mIfS (mOrT (mCmpT cNe (mB1 fLen (mLV (mFld 1 "numbers" (mV 4)))) (mFld 0 "labels" (mV 0))) (mTru (mLV (mFld 1 "ends" (mV 4))))) (mSeq (mRet (mC (.bl false)))
  mNext) mNext)
  (mSeq (mSetO 6 (mLst mNil))
  (mSeq (mFor (miEnumT (mFld 1 "numbers" (mV 4))) (mgT 2 (mgCons (mgN 7) (mgCons (mgN 8) mgNil))) b_judge_ring_7)
  (mFrz 6 (mSeq (mIfS (mCmpT cEq (mFld 1 "kind" (mV 4)) (mC (.str "none"))) (mSeq (mRet (mAnd (mCmp cIsN (mFld 1 "cost" (mV 4)) (mC .non)) (mAnd (mNot (mFld 1 "labels" (mV 4))) (mCmp cIsN (mCall f_least (mCons (mV 6) mNil)) (mC .non)))))
  mNext) mNext)
  (mSeq (mIfS (mOrT (mCmpT cIsN (mFld 1 "cost" (mV 4)) (mC .non)) (mOrT (mCmpT cNe (mFld 1 "cost" (mV 4)) (mCall f_least (mCons (mV 6) mNil))) (mNotT (mTru (mLV (mCall f_fits (mCons (mV 0) (mCons (mFld 1 "labels" (mV 4)) (mCons (mB1 fLen (mLV (mV 1))) mNil))))))))) (mSeq (mRet (mC (.bl false)))
  mNext) mNext)
  (mSeq (mRet (mCmp cEq (mCall f_priced (mCons (mV 2) (mCons (mV 3) (mCons (mFld 1 "labels" (mV 4)) (mCons (mB1 fLen (mLV (mF (mCallO f_ring_objectors (mCons (mV 0) (mCons (mV 1) (mCons (mFld 1 "labels" (mV 4)) mNil))))))) mNil))))) (mFld 1 "cost" (mV 4))))
  mNext))))))))
def f_judge_ring : MFn := mFn0 N_judge_ring m_judge_ring
def e_law_1 : ME := (mCall f__law_draw (mCons (mV 1) (mCons (mOp fAdd (mIx (mLV (mV 3)) (mC (.int 0))) (mV 5)) mNil)))
def e_law_2 : ME := (mF (mList (mLV (mV 22))))
def b_law_3 : MS := (mSeq (mAsg (mCall f__law_cost (mCons (mV 7) (mCons (mV 8) (mCons (mV 12) (mCons (mB1 fLen (mLV (mF (mCallO f__law_ring_objects (mCons (mV 3) (mCons (mV 6) (mCons (mV 12) mNil))))))) mNil))))) (mgN 17))
  (mSeq (mIfS (mAndT (mCmpT cNotN (mV 17) (mC .non)) (mOrT (mCmpT cIsN (mV 11) (mC .non)) (mCmpT cLt (mV 17) (mIx (mLV (mV 11)) (mC (.int 0)))))) (mSeq (mAsg (mTup (mCons (mV 17) (mCons (mV 12) mNil))) (mgN 11))
  mNext) mNext)
  mNext))
def e_law_4 : ME := (mB1 fTup (mLV (mV 22)))
abbrev s_law : Stmt := top 35
def N_law : List Str := ["_law_script", "_law_pool_here", "_law_few", "_law_machine_here", "_law_made_here", "_law_more", "_law_ring", "_law_prices_here", "_law_fine", "_law_passed", "_law_found", "_law_due", "_law_labels", "_law_tuples", "_law_told", "_law_place", "_law_turned", "_law_cost_here", "_law_numbers", "_law_least_here", "_law_good", "_law_k", "_law_row"]
theorem sc_law : FnScope N_law ["_law_script"] (defScope s_law) := ⟨rfl, rfl, rfl, by decide +kernel, rfl, by decide +kernel, by decide +kernel⟩
def m_law : MS :=
  (mSeq (mAsg (mNew (mCallO f__law_pool (mCons (mV 0) (mCons (mC (.int 0)) mNil)))) (mgN 1))
  (mSeq (mAsg (mCmp cEq (mCall f__law_draw (mCons (mV 1) (mCons (mC (.int 4)) mNil))) (mC (.int 0))) (mgN 2))
  (mSeq (mAsg (mCall f__law_machine (mCons (mV 1) (mCons (mOp fAdd (mC (.int 1)) (mCall f__law_draw (mCons (mV 1) (mCons (mC (.int 3)) mNil)))) (mCons (mOp fAdd (mC (.int 1)) (mCall f__law_draw (mCons (mV 1) (mCons (mIx (mLV (mTup (mCons (mC (.int 3)) (mCons (mC (.int 8)) mNil)))) (mE1 fInt (mV 2))) mNil)))) (mCons (mOp fAdd (mC (.int 10)) (mOp fMul (mC (.int 20)) (mE1 fInt (mV 2)))) mNil))))) (mgN 3))
  (mSeq (mAsg (mCall f__law_made (mCons (mV 3) mNil)) (mgN 4))
  (mSeq (mAsg (mE1 fInt (mCmp cEq (mCall f__law_draw (mCons (mV 1) (mCons (mC (.int 6)) mNil))) (mC (.int 0)))) (mgN 5))
  (mSeq (mSetO 6 (mComp [21] (miR1 (mOp fAdd (mC (.int 1)) (mCall f__law_draw (mCons (mV 1) (mCons (mOp fSub (mC (.int 6)) (mOp fMul (mC (.int 3)) (mE1 fInt (mV 2)))) mNil))))) (mgN 21) mYes e_law_1))
  (mFrz 6 (mSeq (mAsg (mCall f__law_prices (mCons (mV 1) (mCons (mB1 fLen (mLV (mV 6))) (mCons (mIx (mLV (mV 3)) (mC (.int 1))) mNil)))) (mgN 7))
  (mSeq (mAsg (mIx (mLV (mTup (mCons (mC .non) (mCons (mC (.int 0)) (mCons (mC (.int 1)) (mCons (mC (.int 3)) (mCons (mC (.int 100)) (mCons (mOp fPow (mC (.int 10)) (mC (.int 8))) (mCons (mCall f__law_draw (mCons (mV 1) (mCons (mOp fPow (mC (.int 10)) (mC (.int 30))) mNil))) mNil))))))))) (mCall f__law_draw (mCons (mV 1) (mCons (mC (.int 7)) mNil)))) (mgN 8))
  (mSeq (mAsg (mF (mLst (mCons (mF (mList (mLV (mV 6)))) (mCons (mF (mComp [22] (miV (mV 7)) (mgN 22) mYes e_law_2)) mNil)))) (mgN 9))
  (mSeq (mAsg (mCall f_best_ring (mCons (mV 4) (mCons (mIx (mLV (mV 9)) (mC (.int 0))) (mCons (mIx (mLV (mV 9)) (mC (.int 1))) (mCons (mV 8) mNil))))) (mgN 10))
  (mSeq (mIfS (mOrT (mNotT (mTru (mLV (mIsC 1 (mV 10))))) (mEqL true (mLV (mV 9)) (mLV (mF (mLst (mCons (mV 6) (mCons (mV 7) mNil))))))) (mSeq (mRet (mC (.bl false)))
  mNext) mNext)
  (mSeq (mAsg (mC .non) (mgN 11))
  (mSeq (mFor (miV (mCall f__law_lists (mCons (mB1 fLen (mLV (mV 6))) (mCons (mIx (mLV (mV 3)) (mC (.int 1))) mNil)))) (mgN 12) b_law_3)
  (mSeq (mAsg (mCall f__law_ring_numbers (mCons (mV 3) (mCons (mV 6) (mCons (mV 7) (mCons (mV 8) mNil))))) (mgT 2 (mgCons (mgN 18) (mgCons (mgN 19) mgNil))))
  (mSeq (mIfS (mNotT (mTru (mLV (mCall (f__law_same 8) (mCons (mF (mLst (mCons (mFld 1 "numbers" (mV 10)) (mCons (mFld 1 "ends" (mV 10)) mNil)))) (mCons (mF (mLst (mCons (mV 18) (mCons (mF (mLst mNil)) mNil)))) mNil)))))) (mSeq (mRet (mC (.bl false)))
  mNext) mNext)
  (mSeq (mIfS (mCmpT cIsN (mV 11) (mC .non)) (mSeq (mAsg (mAnd (mCmp cIsN (mV 19) (mC .non)) (mCall (f__law_same 8) (mCons (mF (mLst (mCons (mFld 1 "kind" (mV 10)) (mCons (mFld 1 "cost" (mV 10)) (mCons (mFld 1 "labels" (mV 10)) mNil))))) (mCons (mF (mLst (mCons (mC (.str "none")) (mCons (mC .non) (mCons (mF (mLst mNil)) mNil))))) mNil)))) (mgN 20))
  mNext) (mSeq (mAsg (mCall (f__law_same 8) (mCons (mF (mLst (mCons (mFld 1 "kind" (mV 10)) (mCons (mFld 1 "cost" (mV 10)) (mCons (mFld 1 "labels" (mV 10)) (mCons (mV 19) mNil)))))) (mCons (mF (mLst (mCons (mC (.str "best")) (mCons (mIx (mLV (mV 11)) (mC (.int 0))) (mCons (mIx (mLV (mV 11)) (mC (.int 1))) (mCons (mIx (mLV (mV 11)) (mC (.int 0))) mNil)))))) mNil))) (mgN 20))
  mNext))
  (mSeq (mAsg (mB1 fTup (mLV (mF (mComp [22] (miV (mV 7)) (mgN 22) mYes e_law_4)))) (mgN 13))
  (mSeq (mAsg (mF (mLst (mCons (mCall f_judge_ring (mCons (mV 4) (mCons (mIx (mLV (mV 9)) (mC (.int 0))) (mCons (mIx (mLV (mV 9)) (mC (.int 1))) (mCons (mV 8) (mCons (mV 10) mNil)))))) (mCons (mCall f_judge_ring (mCons (mV 4) (mCons (mB1 fTup (mLV (mV 6))) (mCons (mV 13) (mCons (mV 8) (mCons (mV 10) mNil)))))) mNil)))) (mgN 14))
  (mSeq (mIfS (mOrT (mNotT (mTru (mLV (mV 20)))) (mOrT (mNotT (mTru (mLV (mCall (f__law_same 8) (mCons (mV 14) (mCons (mF (mLst (mCons (mC (.bl true)) (mCons (mC (.bl true)) mNil)))) mNil)))))) (mEqL true (mLV (mV 9)) (mLV (mF (mLst (mCons (mV 6) (mCons (mV 7) mNil)))))))) (mSeq (mRet (mC (.bl false)))
  mNext) mNext)
  (mSeq (mAsg (mCall f__law_draw (mCons (mV 1) (mCons (mB1 fLen (mLV (mV 6))) mNil))) (mgN 15))
  (mSeq (mAsg (mCall f_best_ring (mCons (mV 4) (mCons (mB1 fTup (mLV (mF (mCat (mLV (mF (mSlO (mLV (mV 6)) (mPS (mV 15)) mPN))) (mLV (mF (mSlO (mLV (mV 6)) mPN (mPS (mV 15))))))))) (mCons (mOp fAdd (mSl (mLV (mV 13)) (mPS (mV 15)) mPN) (mSl (mLV (mV 13)) mPN (mPS (mV 15)))) (mCons (mV 8) mNil))))) (mgN 16))
  (mSeq (mRet (mCall (f__law_same 8) (mCons (mF (mLst (mCons (mFld 1 "kind" (mV 16)) (mCons (mFld 1 "cost" (mV 16)) mNil)))) (mCons (mF (mLst (mCons (mFld 1 "kind" (mV 10)) (mCons (mFld 1 "cost" (mV 10)) mNil)))) mNil))))
  mNext)))))))))))))))))))))))
def f_law : MFn := mFn0 N_law m_law
/-- what the top has written -/
structure Txt (K : PySem.W.Frag) (mg : Str → Option Value) (cl : Nat → Addr) : Prop where
  b_all : mg "all" = none
  b_any : mg "any" = none
  b_bool : mg "bool" = none
  b_dict : mg "dict" = none
  b_enumerate : mg "enumerate" = none
  b_int : mg "int" = none
  b_isinstance : mg "isinstance" = none
  b_len : mg "len" = none
  b_list : mg "list" = none
  b_min : mg "min" = none
  b_range : mg "range" = none
  b_set : mg "set" = none
  b_sorted : mg "sorted" = none
  b_str : mg "str" = none
  b_sum : mg "sum" = none
  b_tuple : mg "tuple" = none
  k_MOST_CHILDREN : ∃ t, mg "MOST_CHILDREN" = some (.int 2 t)
  k_MOST_LABELS : ∃ t, mg "MOST_LABELS" = some (.int 8 t)
  k_MOST_LETTERS : ∃ t, mg "MOST_LETTERS" = some (.int 4 t)
  d_ring_objectors : Df K mg "ring_objectors" s_ring_objectors ["machine", "ring", "labels"]
  d_least : Df K mg "least" s_least ["rows"]
  d_better : Df K mg "better" s_better ["one", "other"]
  d_charged : Df K mg "charged" s_charged ["cost", "objects", "fine"]
  d_cost_of : Df K mg "cost_of" s_cost_of ["pair"]
  d_priced : Df K mg "priced" s_priced ["prices", "fine", "labels", "count"]
  d_fits : Df K mg "fits" s_fits ["machine", "labels", "count"]
  d__law_pool : Df K mg "_law_pool" s__law_pool ["_law_script", "_law_budget"]
  d__law_draw : Df K mg "_law_draw" s__law_draw ["_law_pool_here", "_law_size"]
  d__law_same : Df K mg "_law_same" s__law_same ["_law_actual", "_law_due"]
  d__law_lists : Df K mg "_law_lists" s__law_lists ["_law_count", "_law_labels"]
  d__law_cost : Df K mg "_law_cost" s__law_cost ["_law_prices_here", "_law_fine", "_law_labels", "_law_count"]
  d__law_least : Df K mg "_law_least" s__law_least ["_law_rows"]
  d__law_ring_objects : Df K mg "_law_ring_objects" s__law_ring_objects ["_law_machine_here", "_law_ring", "_law_labels"]
  d__law_machine : Df K mg "_law_machine" s__law_machine ["_law_pool_here", "_law_letters", "_law_labels", "_law_many"]
  d__law_made : Df K mg "_law_made" s__law_made ["_law_machine_here"]
  d__law_prices : Df K mg "_law_prices" s__law_prices ["_law_pool_here", "_law_count", "_law_labels"]
  d__law_step : Df K mg "_law_step" s__law_step ["_law_machine_here", "_law_letter", "_law_before", "_law_prices_here", "_law_fine"]
  d__law_ring_numbers : Df K mg "_law_ring_numbers" s__law_ring_numbers ["_law_machine_here", "_law_ring", "_law_prices_here", "_law_fine"]
  d_best_ring : Df K mg "best_ring" s_best_ring ["machine", "ring", "prices", "fine"]
  d_judge_ring : Df K mg "judge_ring" s_judge_ring ["machine", "ring", "prices", "fine", "found"]
  d_law : Df K mg "law" s_law ["_law_script"]
  t_Machine : ClsT K mg (cl 0) "Machine"
  i_Machine : ∃ (f : Addr) (fd : FuncData), Mk K (cl 0) f ∧ L2.Fun K "__init__" "Machine.__init__" s_Machine___init__ f fd ∧ Binds K fd ["self", "letters", "labels", "moves", "ends"] []
  t_Found : ClsT K mg (cl 1) "Found"
  i_Found : ∃ (f : Addr) (fd : FuncData), Mk K (cl 1) f ∧ L2.Fun K "__init__" "Found.__init__" s_Found___init__ f fd ∧ Binds K fd ["self", "kind", "cost", "labels", "numbers", "ends"] []
  t_Ring : ClsT K mg (cl 2) "Ring"
  i_Ring : ∃ (f : Addr) (fd : FuncData), Mk K (cl 2) f ∧ L2.Fun K "__init__" "Ring.__init__" s_Ring___init__ f fd ∧ Binds K fd ["self", "machine", "ring", "prices", "fine"] []
  x_Ring_charge : ∃ (f : Addr) (fd : FuncData), Meth K (cl 2) "charge" f ∧ L2.Fun K "charge" "Ring.charge" s_Ring_charge f fd ∧ Binds K fd ["self", "cost", "at", "before", "label"] []
  x_Ring_row : ∃ (f : Addr) (fd : FuncData), Meth K (cl 2) "row" f ∧ L2.Fun K "row" "Ring.row" s_Ring_row f fd ∧ Binds K fd ["self", "at", "before"] []
  x_Ring_closed : ∃ (f : Addr) (fd : FuncData), Meth K (cl 2) "closed" f ∧ L2.Fun K "closed" "Ring.closed" s_Ring_closed f fd ∧ Binds K fd ["self", "first", "last"] []
  x_Ring_rows : ∃ (f : Addr) (fd : FuncData), Meth K (cl 2) "rows" f ∧ L2.Fun K "rows" "Ring.rows" s_Ring_rows f fd ∧ Binds K fd ["self", "first"] []
  n_Found_cost : NoAttr K (cl 1) "cost"
  n_Found_ends : NoAttr K (cl 1) "ends"
  n_Found_kind : NoAttr K (cl 1) "kind"
  n_Found_labels : NoAttr K (cl 1) "labels"
  n_Found_numbers : NoAttr K (cl 1) "numbers"
  n_Machine_ends : NoAttr K (cl 0) "ends"
  n_Machine_labels : NoAttr K (cl 0) "labels"
  n_Machine_letters : NoAttr K (cl 0) "letters"
  n_Machine_moves : NoAttr K (cl 0) "moves"
  n_Ring_fine : NoAttr K (cl 2) "fine"
  n_Ring_machine : NoAttr K (cl 2) "machine"
  n_Ring_moves : NoAttr K (cl 2) "moves"
  n_Ring_prices : NoAttr K (cl 2) "prices"
  n_Ring_ring : NoAttr K (cl 2) "ring"
section
variable {P : Program} {w : World} {K : PySem.W.Frag} {mg : Str → Option Value} {base : Heap} {cl : Nat → Addr}
theorem c_ring_objectors (T : Txt K mg cl) : Cb P w K mg base cl 2 "ring_objectors" 3 f_ring_objectors :=
  cb0 (x := "ring_objectors") T.d_ring_objectors sc_ring_objectors rfl fun f cdv A outer s H E hr => (rss_cons (rs_setO 3 sc_ring_objectors.nd rfl (by first | exact .inl rfl | exact .inr rfl) (ro_lst ra_nil))
  (rss_cons (rs_for fx_passes rfl (ri_enumT (by rfl) T.b_enumerate (re_v 1)) (rg_t rfl (rgs_cons (rg_n 4 sc_ring_objectors.nd rfl (by first | exact .inl rfl | exact .inr rfl)) (rgs_cons (rg_n 5 sc_ring_objectors.nd rfl (by first | exact .inl rfl | exact .inr rfl)) rgs_nil))) (rss_cons (rs_if (rt_notIn (room_hu hr) (re_tup (ra_cons (re_v 5) (ra_cons (re_tup (ra_cons (re_ix (rb_v (re_v 2)) (re_sub (re_v 4) re_int)) ra_nil)) (ra_cons (re_ix (rb_v (re_v 2)) (re_v 4)) ra_nil)))) (rb_v (re_fld 0 T.t_Machine.cls.cls T.n_Machine_moves (re_v 0)))) (rss_cons (rs_exprX (rx_append (rb_o 3) (ra_cons (re_v 4) ra_nil)))
  rss_nil) rss_nil)
  rss_nil))
  (rss_cons (rs_retV 3)
  rss_nil)))
theorem mc_Found (T : Txt K mg cl) : Mc P w K mg base cl 2 "Found" 1 5 f_Found___init__ := by
  obtain ⟨f, fd, h1, h2, h3⟩ := T.i_Found
  exact ⟨f, fd, _, T.t_Found.nm, h1, h3, fn_ok0 h2 sc_Found___init__ rfl fun cdv A outer s H E hr => (rss_cons (rs_putF 1 T.t_Found.cls.cls T.n_Found_kind (re_v 0) (re_v 1))
  (rss_cons (rs_putF 1 T.t_Found.cls.cls T.n_Found_cost (re_v 0) (re_v 2))
  (rss_cons (rs_putF 1 T.t_Found.cls.cls T.n_Found_labels (re_v 0) (re_f (ro_list (by rfl) T.b_list (rb_v (re_v 3)))))
  (rss_cons (rs_putF 1 T.t_Found.cls.cls T.n_Found_numbers (re_v 0) (re_f (ro_list (by rfl) T.b_list (rb_v (re_v 4)))))
  (rss_cons (rs_putF 1 T.t_Found.cls.cls T.n_Found_ends (re_v 0) (re_f (ro_list (by rfl) T.b_list (rb_v (re_v 5)))))
  rss_nil)))))⟩
theorem c_least (T : Txt K mg cl) : Cb P w K mg base cl 2 "least" 1 f_least :=
  cb0 (x := "least") T.d_least sc_least rfl fun f cdv A outer s H E hr => (rss_cons (rs_setLc 1 (own := [("cost", 2)]) rfl sc_least.nd rfl rfl (by rfl) (ri_v (re_v 0)) (blkOk_by (by kernel_rfl)) (to_n 2) (by decide) (fun _ _ _ _ _ => (rg_n 2 sc_least.nd rfl (by first | exact .inl rfl | exact .inr rfl))) (fun _ _ _ _ _ => rts_one (rt_notN (re_v 2) re_non)) (fun _ _ _ _ _ => (re_v 2)))
  (rss_frz 1 (rss_cons (rs_ret (re_if (rt_tru (re_v 1)) (re_min rfl (by rfl) T.b_min (rb_v (re_v 1))) re_non))
  rss_nil)))
theorem c_better (T : Txt K mg cl) : Cb P w K mg base cl 2 "better" 2 f_better :=
  cb0 (x := "better") T.d_better sc_better rfl fun f cdv A outer s H E hr => (rss_cons (rs_if (rt_w (rw_or (rt_isN (re_v 0) re_non) (rw_or1 (rt_isN (re_v 1) re_non)))) (rss_cons (rs_ret (re_or (re_v 0) (re_one (re_v 1))))
  rss_nil) rss_nil)
  (rss_cons (rs_ret (re_minD rfl (room_hu hr) (by rfl) T.b_min (re_v 0) (re_v 1)))
  rss_nil))
theorem c_charged (T : Txt K mg cl) : Cb P w K mg base cl 2 "charged" 3 f_charged :=
  cb0 (x := "charged") T.d_charged sc_charged rfl fun f cdv A outer s H E hr => (rss_cons (rs_if (rt_not (rt_tru (re_v 1))) (rss_cons (rs_ret (re_v 0))
  rss_nil) rss_nil)
  (rss_cons (rs_ret (re_if (rt_isN (re_v 2) re_non) re_non (re_add (re_v 0) (re_v 2))))
  rss_nil))
theorem c_cost_of (T : Txt K mg cl) : Cb P w K mg base cl 2 "cost_of" 1 f_cost_of :=
  cb0 (x := "cost_of") T.d_cost_of sc_cost_of rfl fun f cdv A outer s H E hr => (rss_cons (rs_ret (re_if (rt_isN (re_v 0) re_non) re_non (re_ix (rb_v (re_v 0)) re_int)))
  rss_nil)
theorem c_priced (T : Txt K mg cl) : Cb P w K mg base cl 2 "priced" 4 f_priced :=
  cb0 (x := "priced") T.d_priced sc_priced rfl fun f cdv A outer s H E hr => (rss_cons (rs_if (rt_w (rw_and (rt_tru (re_v 3)) (rw_and1 (rt_isN (re_v 1) re_non)))) (rss_cons (rs_ret re_non)
  rss_nil) rss_nil)
  (rss_cons (rs_ret (re_add (re_sum rfl (by rfl) T.b_sum (rb_f (ro_lc (own := [("at", 4), ("label", 5)]) rfl sc_priced.nd (ri_enumT (by rfl) T.b_enumerate (re_v 2)) (blkOk_by (by kernel_rfl)) (to_t (to_cons (to_n 4) (to_cons (to_n 5) to_nil))) (by decide) (fun _ _ _ _ _ => (rg_t rfl (rgs_cons (rg_n 4 sc_priced.nd rfl (by first | exact .inl rfl | exact .inr rfl)) (rgs_cons (rg_n 5 sc_priced.nd rfl (by first | exact .inl rfl | exact .inr rfl)) rgs_nil)))) (fun _ _ _ _ _ => rts_nil) (fun _ _ _ _ _ => (re_ix (rb_v (re_ix (rb_v (re_v 0)) (re_v 4))) (re_v 5)))))) (re_mul (re_v 3) (re_or (re_v 1) (re_one re_int)))))
  rss_nil))
theorem c_fits (T : Txt K mg cl) : Cb P w K mg base cl 2 "fits" 3 f_fits :=
  cb0 (x := "fits") T.d_fits sc_fits rfl fun f cdv A outer s H E hr => (rss_cons (rs_ret (re_and (re_eq (room_hu hr) (re_len (by rfl) T.b_len (rb_v (re_v 1))) (re_v 2)) (re_one (re_all rfl (by rfl) T.b_all (rb_f (ro_lc (own := [("label", 3)]) rfl sc_fits.nd (ri_v (re_v 1)) (blkOk_by (by kernel_rfl)) (to_n 3) (by decide) (fun _ _ _ _ _ => (rg_n 3 sc_fits.nd rfl (by first | exact .inl rfl | exact .inr rfl))) (fun _ _ _ _ _ => rts_nil) (fun _ _ _ _ _ => (re_lelt re_int (re_v 3) (re_fld 0 T.t_Machine.cls.cls T.n_Machine_labels (re_v 0))))))))))
  rss_nil)
theorem mc_Ring (T : Txt K mg cl) : Mc P w K mg base cl 2 "Ring" 2 4 f_Ring___init__ := by
  obtain ⟨f, fd, h1, h2, h3⟩ := T.i_Ring
  exact ⟨f, fd, _, T.t_Ring.nm, h1, h3, fn_ok0 h2 sc_Ring___init__ rfl fun cdv A outer s H E hr => (rss_cons (rs_putF 2 T.t_Ring.cls.cls T.n_Ring_machine (re_v 0) (re_v 1))
  (rss_cons (rs_putF 2 T.t_Ring.cls.cls T.n_Ring_moves (re_v 0) (re_dictP rfl (room_hu hr) (by rfl) T.b_dict (ro_lc (own := [("move", 5)]) rfl sc_Ring___init__.nd (ri_v (re_fld 0 T.t_Machine.cls.cls T.n_Machine_moves (re_v 1))) (blkOk_by (by kernel_rfl)) (to_n 5) (by decide) (fun _ _ _ _ _ => (rg_n 5 sc_Ring___init__.nd rfl (by first | exact .inl rfl | exact .inr rfl))) (fun _ _ _ _ _ => rts_nil) (fun _ _ _ _ _ => (re_tup (ra_cons (re_v 5) (ra_cons re_bl ra_nil)))))))
  (rss_cons (rs_putF 2 T.t_Ring.cls.cls T.n_Ring_ring (re_v 0) (re_v 2))
  (rss_cons (rs_putF 2 T.t_Ring.cls.cls T.n_Ring_prices (re_v 0) (re_v 3))
  (rss_cons (rs_putF 2 T.t_Ring.cls.cls T.n_Ring_fine (re_v 0) (re_v 4))
  rss_nil)))))⟩
theorem mc_Machine (T : Txt K mg cl) : Mc P w K mg base cl 2 "Machine" 0 4 f_Machine___init__ := by
  obtain ⟨f, fd, h1, h2, h3⟩ := T.i_Machine
  exact ⟨f, fd, _, T.t_Machine.nm, h1, h3, fn_ok0 h2 sc_Machine___init__ rfl fun cdv A outer s H E hr => (rss_cons (rs_if (rt_not (rt_ltle re_int (re_v 1) (re_globE T.k_MOST_LETTERS))) rss_never rss_nil)
  (rss_cons (rs_if (rt_not (rt_ltle re_int (re_v 2) (re_globE T.k_MOST_LABELS))) rss_never rss_nil)
  (rss_cons (rs_for fx_passes rfl (ri_v (re_v 3)) (rg_t rfl (rgs_cons (rg_n 5 sc_Machine___init__.nd rfl (by first | exact .inl rfl | exact .inr rfl)) (rgs_cons (rg_n 6 sc_Machine___init__.nd rfl (by first | exact .inl rfl | exact .inr rfl)) (rgs_cons (rg_n 7 sc_Machine___init__.nd rfl (by first | exact .inl rfl | exact .inr rfl)) rgs_nil)))) (rss_cons (rs_set 8 sc_Machine___init__.nd rfl (by first | exact .inl rfl | exact .inr rfl) (re_all rfl (by rfl) T.b_all (rb_f (ro_lc (own := [("own", 9)]) rfl sc_Machine___init__.nd (ri_v (re_f (ro_lst (ra_star (rb_v (re_v 6)) (ra_cons (re_v 7) ra_nil))))) (blkOk_by (by kernel_rfl)) (to_n 9) (by decide) (fun _ _ _ _ _ => (rg_n 9 sc_Machine___init__.nd rfl (by first | exact .inl rfl | exact .inr rfl))) (fun _ _ _ _ _ => rts_nil) (fun _ _ _ _ _ => (re_lelt re_int (re_v 9) (re_v 2)))))))
  (rss_cons (rs_if (rt_w (rw_or (rt_not (rt_lelt re_int (re_v 5) (re_v 1))) (rw_or (rt_gt (re_len (by rfl) T.b_len (rb_v (re_v 6))) (re_globE T.k_MOST_CHILDREN)) (rw_or1 (rt_not (rt_tru (re_v 8))))))) rss_never rss_nil)
  rss_nil)))
  (rss_cons (rs_if (rt_not (rt_tru (re_all rfl (by rfl) T.b_all (rb_f (ro_lc (own := [("label", 7)]) rfl sc_Machine___init__.nd (ri_v (re_v 4)) (blkOk_by (by kernel_rfl)) (to_n 7) (by decide) (fun _ _ _ _ _ => (rg_n 7 sc_Machine___init__.nd rfl (by first | exact .inl rfl | exact .inr rfl))) (fun _ _ _ _ _ => rts_nil) (fun _ _ _ _ _ => (re_lelt re_int (re_v 7) (re_v 2)))))))) rss_never rss_nil)
  (rss_cons (rs_putF 0 T.t_Machine.cls.cls T.n_Machine_letters (re_v 0) (re_v 1))
  (rss_cons (rs_putF 0 T.t_Machine.cls.cls T.n_Machine_labels (re_v 0) (re_v 2))
  (rss_cons (rs_putF 0 T.t_Machine.cls.cls T.n_Machine_moves (re_v 0) (re_tuple (by rfl) T.b_tuple (rb_f (ro_sortSet rfl (room_hu hr) (by rfl) T.b_sorted (by rfl) T.b_set (rb_f (ro_lc (own := [("letter", 5), ("children", 6), ("label", 7)]) rfl sc_Machine___init__.nd (ri_v (re_v 3)) (blkOk_by (by kernel_rfl)) (to_t (to_cons (to_n 5) (to_cons (to_n 6) (to_cons (to_n 7) to_nil)))) (by decide) (fun _ _ _ _ _ => (rg_t rfl (rgs_cons (rg_n 5 sc_Machine___init__.nd rfl (by first | exact .inl rfl | exact .inr rfl)) (rgs_cons (rg_n 6 sc_Machine___init__.nd rfl (by first | exact .inl rfl | exact .inr rfl)) (rgs_cons (rg_n 7 sc_Machine___init__.nd rfl (by first | exact .inl rfl | exact .inr rfl)) rgs_nil))))) (fun _ _ _ _ _ => rts_nil) (fun _ _ _ _ _ => (re_tup (ra_cons (re_v 5) (ra_cons (re_tuple (by rfl) T.b_tuple (rb_v (re_v 6))) (ra_cons (re_v 7) ra_nil)))))))))))
  (rss_cons (rs_putF 0 T.t_Machine.cls.cls T.n_Machine_ends (re_v 0) (re_tuple (by rfl) T.b_tuple (rb_f (ro_sortSet rfl (room_hu hr) (by rfl) T.b_sorted (by rfl) T.b_set (rb_v (re_v 4))))))
  rss_nil))))))))⟩
theorem c__law_pool (T : Txt K mg cl) : Cb P w K mg base cl 2 "_law_pool" 2 f__law_pool :=
  cb0 (x := "_law_pool") T.d__law_pool sc__law_pool rfl fun f cdv A outer s H E hr => (rss_cons (rs_retO (ro_lst (ra_cons (re_f (ro_list (by rfl) T.b_list (rb_v (re_v 0)))) (ra_cons re_int (ra_cons re_int (ra_cons re_int (ra_cons re_int (ra_cons (re_v 1) ra_nil))))))))
  rss_nil)
theorem c__law_draw (T : Txt K mg cl) : Cb P w K mg base cl 2 "_law_draw" 2 f__law_draw :=
  cb0 (x := "_law_draw") T.d__law_draw sc__law_draw rfl fun f cdv A outer s H E hr => (rss_cons (rs_if (rt_w (rw_and (rt_le (re_ix (rb_v (re_v 0)) re_int) re_int) (rw_and (rt_le (re_ix (rb_v (re_v 0)) re_int) re_int) (rw_and1 (rt_lt (re_ix (rb_v (re_v 0)) re_int) (re_len (by rfl) T.b_len (rb_v (re_ix (rb_v (re_v 0)) re_int)))))))) (rss_cons (rs_set 2 sc__law_draw.nd rfl (by first | exact .inl rfl | exact .inr rfl) (re_ix (rb_v (re_ix (rb_v (re_v 0)) re_int)) (re_ix (rb_v (re_v 0)) re_int)))
  (rss_cons (rs_sub (re_add (re_ix (rb_v (re_v 0)) re_int) re_int) (rb_v (re_v 0)) re_int)
  (rss_cons (rs_sub (re_mod (re_int1 (by rfl) T.b_int (re_add (re_mul (re_ix (rb_v (re_v 0)) re_int) re_int) (re_v 2))) re_int) (rb_v (re_v 0)) re_int)
  (rss_cons (rs_sub re_int (rb_v (re_v 0)) re_int)
  (rss_cons (rs_if (rt_ge (re_v 2) (re_pow re_int re_int)) (rss_cons (rs_sub (re_v 2) (rb_v (re_v 0)) re_int)
  rss_nil) rss_nil)
  rss_nil))))) rss_nil)
  (rss_cons (rs_if (rt_gt (re_ix (rb_v (re_v 0)) re_int) re_int) (rss_cons (rs_set 3 sc__law_draw.nd rfl (by first | exact .inl rfl | exact .inr rfl) (re_mod (re_int1 (by rfl) T.b_int (re_ix (rb_v (re_v 0)) re_int)) (re_v 1)))
  (rss_cons (rs_sub (re_div (re_ix (rb_v (re_v 0)) re_int) (re_v 1)) (rb_v (re_v 0)) re_int)
  (rss_cons (rs_sub re_int (rb_v (re_v 0)) re_int)
  (rss_cons (rs_ret (re_v 3))
  rss_nil)))) rss_nil)
  (rss_cons (rs_sub (re_sub (re_ix (rb_v (re_v 0)) re_int) re_int) (rb_v (re_v 0)) re_int)
  (rss_cons (rs_sub (re_mod (re_int1 (by rfl) T.b_int (re_add (re_mul (re_ix (rb_v (re_v 0)) re_int) re_int) re_int)) re_int) (rb_v (re_v 0)) re_int)
  (rss_cons (rs_ret (re_mod (re_mod (re_int1 (by rfl) T.b_int (re_add (re_mul (re_ix (rb_v (re_v 0)) re_int) re_int) re_int)) re_int) (re_v 1)))
  rss_nil)))))
theorem c__law_same (T : Txt K mg cl) : ∀ n, Cb P w K mg base cl (2 + n) "_law_same" 2 (f__law_same n)
  | 0 => Cb.none T.d__law_same
  | n + 1 => by
    have C := c__law_same T n
    exact cb0 (k := 2 + n) (x := "_law_same") T.d__law_same sc__law_same rfl fun f cdv A outer s H E hr => (rss_cons (rs_if (rt_w (rw_or (rt_tru (re_isB (T := "tuple") (by rfl) T.b_isinstance (by rfl) T.b_tuple (by decide +kernel) (re_v 1))) (rw_or1 (rt_tru (re_isB (T := "list") (by rfl) T.b_isinstance (by rfl) T.b_list (by decide +kernel) (re_v 1)))))) (rss_cons (rs_if (rt_w (rw_or (rt_ne (room_hu hr) (re_isB (T := "tuple") (by rfl) T.b_isinstance (by rfl) T.b_tuple (by decide +kernel) (re_v 1)) (re_isB (T := "tuple") (by rfl) T.b_isinstance (by rfl) T.b_tuple (by decide +kernel) (re_v 0))) (rw_or1 (rt_ne (room_hu hr) (re_isB (T := "list") (by rfl) T.b_isinstance (by rfl) T.b_list (by decide +kernel) (re_v 1)) (re_isB (T := "list") (by rfl) T.b_isinstance (by rfl) T.b_list (by decide +kernel) (re_v 0)))))) (rss_cons (rs_ret re_bl)
  rss_nil) rss_nil)
  (rss_cons (rs_if (rt_ne (room_hu hr) (re_len (by rfl) T.b_len (rb_v (re_v 0))) (re_len (by rfl) T.b_len (rb_v (re_v 1)))) (rss_cons (rs_ret re_bl)
  rss_nil) rss_nil)
  (rss_cons (rs_for fx_passes rfl (ri_r1 (by rfl) T.b_range (re_len (by rfl) T.b_len (rb_v (re_v 1)))) (rg_n 2 sc__law_same.nd rfl (by first | exact .inl rfl | exact .inr rfl)) (rss_cons (rs_if (rt_not (rt_tru (re_call C (hr.mono (by first | decide | omega)) (by rfl) takes0 (ra_cons (re_ix (rb_v (re_v 0)) (re_v 2)) (ra_cons (re_ix (rb_v (re_v 1)) (re_v 2)) ra_nil)) (hands_cons (hands_cons hands_nil))))) (rss_cons (rs_ret re_bl)
  rss_nil) rss_nil)
  rss_nil))
  (rss_cons (rs_ret re_bl)
  rss_nil)))) rss_nil)
  (rss_cons (rs_if (rt_w (rw_or (rt_isN (re_v 1) re_non) (rw_or1 (rt_tru (re_isB (T := "bool") (by rfl) T.b_isinstance (by rfl) T.b_bool (by decide +kernel) (re_v 1)))))) (rss_cons (rs_ret (re_and (re_eq (room_hu hr) (re_isN (re_v 0) re_non) (re_isN (re_v 1) re_non)) (re_and (re_or (re_isN (re_v 1) re_non) (re_one (re_isB (T := "bool") (by rfl) T.b_isinstance (by rfl) T.b_bool (by decide +kernel) (re_v 0)))) (re_one (re_eq (room_hu hr) (re_v 0) (re_v 1))))))
  rss_nil) rss_nil)
  (rss_cons (rs_if (rt_tru (re_isB (T := "int") (by rfl) T.b_isinstance (by rfl) T.b_int (by decide +kernel) (re_v 1))) (rss_cons (rs_ret (re_and (re_isB (T := "int") (by rfl) T.b_isinstance (by rfl) T.b_int (by decide +kernel) (re_v 0)) (re_and (re_not (re_isB (T := "bool") (by rfl) T.b_isinstance (by rfl) T.b_bool (by decide +kernel) (re_v 0))) (re_one (re_eq (room_hu hr) (re_v 0) (re_v 1))))))
  rss_nil) rss_nil)
  (rss_cons (rs_ret (re_and (re_isB (T := "str") (by rfl) T.b_isinstance (by rfl) T.b_str (by decide +kernel) (re_v 0)) (re_one (re_eq (room_hu hr) (re_v 0) (re_v 1)))))
  rss_nil))))
theorem c__law_lists (T : Txt K mg cl) : Cb P w K mg base cl 2 "_law_lists" 2 f__law_lists :=
  cb0 (x := "_law_lists") T.d__law_lists sc__law_lists rfl fun f cdv A outer s H E hr => (rss_cons (rs_set 2 sc__law_lists.nd rfl (by first | exact .inl rfl | exact .inr rfl) (re_f (ro_lst (ra_cons (re_f (ro_lst ra_nil)) ra_nil))))
  (rss_cons (rs_for fx_passes rfl (ri_r1 (by rfl) T.b_range (re_v 0)) (rg_n 3 sc__law_lists.nd rfl (by first | exact .inl rfl | exact .inr rfl)) (rss_cons (rs_set 4 sc__law_lists.nd rfl (by first | exact .inl rfl | exact .inr rfl) (re_f (ro_lst ra_nil)))
  (rss_cons (rs_for fx_passes rfl (ri_v (re_v 2)) (rg_n 5 sc__law_lists.nd rfl (by first | exact .inl rfl | exact .inr rfl)) (rss_cons (rs_set 4 sc__law_lists.nd rfl (by first | exact .inl rfl | exact .inr rfl) (re_f (ro_cat (rb_v (re_v 4)) (rb_f (ro_lc (own := [("_law_label", 6)]) rfl sc__law_lists.nd (ri_r1 (by rfl) T.b_range (re_v 1)) (blkOk_by (by kernel_rfl)) (to_n 6) (by decide) (fun _ _ _ _ _ => (rg_n 6 sc__law_lists.nd rfl (by first | exact .inl rfl | exact .inr rfl))) (fun _ _ _ _ _ => rts_nil) (fun _ _ _ _ _ => (re_f (ro_cat (rb_v (re_v 5)) (rb_f (ro_lst (ra_cons (re_v 6) ra_nil)))))))))))
  rss_nil))
  (rss_cons (rs_set 2 sc__law_lists.nd rfl (by first | exact .inl rfl | exact .inr rfl) (re_v 4))
  rss_nil))))
  (rss_cons (rs_ret (re_v 2))
  rss_nil)))
theorem c__law_cost (T : Txt K mg cl) : Cb P w K mg base cl 2 "_law_cost" 4 f__law_cost :=
  cb0 (x := "_law_cost") T.d__law_cost sc__law_cost rfl fun f cdv A outer s H E hr => (rss_cons (rs_if (rt_w (rw_and (rt_gt (re_v 3) re_int) (rw_and1 (rt_isN (re_v 1) re_non)))) (rss_cons (rs_ret re_non)
  rss_nil) rss_nil)
  (rss_cons (rs_set 4 sc__law_cost.nd rfl (by first | exact .inl rfl | exact .inr rfl) (re_sum rfl (by rfl) T.b_sum (rb_f (ro_lc (own := [("_law_k", 5)]) rfl sc__law_cost.nd (ri_r1 (by rfl) T.b_range (re_len (by rfl) T.b_len (rb_v (re_v 2)))) (blkOk_by (by kernel_rfl)) (to_n 5) (by decide) (fun _ _ _ _ _ => (rg_n 5 sc__law_cost.nd rfl (by first | exact .inl rfl | exact .inr rfl))) (fun _ _ _ _ _ => rts_nil) (fun _ _ _ _ _ => (re_ix (rb_v (re_ix (rb_v (re_v 0)) (re_v 5))) (re_ix (rb_v (re_v 2)) (re_v 5))))))))
  (rss_cons (rs_if (rt_gt (re_v 3) re_int) (rss_cons (rs_set 4 sc__law_cost.nd rfl (by first | exact .inl rfl | exact .inr rfl) (re_add (re_v 4) (re_mul (re_v 3) (re_v 1))))
  rss_nil) rss_nil)
  (rss_cons (rs_ret (re_v 4))
  rss_nil))))
theorem c__law_least (T : Txt K mg cl) : Cb P w K mg base cl 2 "_law_least" 1 f__law_least :=
  cb0 (x := "_law_least") T.d__law_least sc__law_least rfl fun f cdv A outer s H E hr => (rss_cons (rs_setLc 1 (own := [("_law_cost_here", 2)]) rfl sc__law_least.nd rfl rfl (by rfl) (ri_v (re_v 0)) (blkOk_by (by kernel_rfl)) (to_n 2) (by decide) (fun _ _ _ _ _ => (rg_n 2 sc__law_least.nd rfl (by first | exact .inl rfl | exact .inr rfl))) (fun _ _ _ _ _ => rts_one (rt_notN (re_v 2) re_non)) (fun _ _ _ _ _ => (re_v 2)))
  (rss_frz 1 (rss_cons (rs_if (rt_eq (room_hu hr) (re_len (by rfl) T.b_len (rb_v (re_v 1))) re_int) (rss_cons (rs_ret re_non)
  rss_nil) rss_nil)
  (rss_cons (rs_ret (re_min rfl (by rfl) T.b_min (rb_v (re_v 1))))
  rss_nil))))
theorem c__law_ring_objects (T : Txt K mg cl) : Cb P w K mg base cl 2 "_law_ring_objects" 3 f__law_ring_objects :=
  cb0 (x := "_law_ring_objects") T.d__law_ring_objects sc__law_ring_objects rfl fun f cdv A outer s H E hr => (rss_cons (rs_retO (ro_lc (own := [("_law_k", 3)]) rfl sc__law_ring_objects.nd (ri_r1 (by rfl) T.b_range (re_len (by rfl) T.b_len (rb_v (re_v 1)))) (blkOk_by (by kernel_rfl)) (to_n 3) (by decide) (fun _ _ _ _ _ => (rg_n 3 sc__law_ring_objects.nd rfl (by first | exact .inl rfl | exact .inr rfl))) (fun _ _ _ _ _ => rts_one (rt_notIn (room_hu hr) (re_tup (ra_cons (re_ix (rb_v (re_v 1)) (re_v 3)) (ra_cons (re_tup (ra_cons (re_ix (rb_v (re_v 2)) (re_sub (re_v 3) re_int)) ra_nil)) (ra_cons (re_ix (rb_v (re_v 2)) (re_v 3)) ra_nil)))) (rb_v (re_ix (rb_v (re_v 0)) re_int)))) (fun _ _ _ _ _ => (re_v 3))))
  rss_nil)
theorem mt_Ring_charge (T : Txt K mg cl) : Mt P w K mg base cl 4 2 "charge" 4 f_Ring_charge := by
  obtain ⟨f, fd, h1, h2, h3⟩ := T.x_Ring_charge
  exact ⟨f, fd, _, h1, h3, fn_ok0 h2 sc_Ring_charge rfl fun cdv A outer s H E hr => (rss_cons (rs_ret (re_call (c_charged T) (hr.mono (by first | decide | omega)) (by rfl) takes0 (ra_cons (re_v 1) (ra_cons (re_notInD (room_hu hr) (re_tup (ra_cons (re_ix (rb_v (re_fld 2 T.t_Ring.cls.cls T.n_Ring_ring (re_v 0))) (re_v 2)) (ra_cons (re_tup (ra_cons (re_v 3) ra_nil)) (ra_cons (re_v 4) ra_nil)))) (re_fld 2 T.t_Ring.cls.cls T.n_Ring_moves (re_v 0))) (ra_cons (re_fld 2 T.t_Ring.cls.cls T.n_Ring_fine (re_v 0)) ra_nil))) (hands_cons (hands_cons (hands_cons hands_nil)))))
  rss_nil)⟩
theorem c__law_machine (T : Txt K mg cl) : Cb P w K mg base cl 4 "_law_machine" 4 f__law_machine :=
  cb0 (x := "_law_machine") T.d__law_machine sc__law_machine rfl fun f cdv A outer s H E hr => (rss_cons (rs_setO 4 sc__law_machine.nd rfl (by first | exact .inl rfl | exact .inr rfl) (ro_lst ra_nil))
  (rss_cons (rs_for fx_passes rfl (ri_r1 (by rfl) T.b_range (re_call (c__law_draw T) (hr.mono (by first | decide | omega)) (by rfl) takes0 (ra_cons (re_v 0) (ra_cons (re_add (re_v 3) re_int) ra_nil)) (hands_cons (hands_cons hands_nil)))) (rg_n 5 sc__law_machine.nd rfl (by first | exact .inl rfl | exact .inr rfl)) (rss_cons (rs_set 7 sc__law_machine.nd rfl (by first | exact .inl rfl | exact .inr rfl) (re_ix (rb_v (re_tup (ra_cons re_int (ra_cons re_int (ra_cons re_int (ra_cons re_int ra_nil)))))) (re_call (c__law_draw T) (hr.mono (by first | decide | omega)) (by rfl) takes0 (ra_cons (re_v 0) (ra_cons re_int ra_nil)) (hands_cons (hands_cons hands_nil)))))
  (rss_cons (rs_set 8 sc__law_machine.nd rfl (by first | exact .inl rfl | exact .inr rfl) (re_tuple (by rfl) T.b_tuple (rb_f (ro_lc (own := [("_law_turn", 10)]) rfl sc__law_machine.nd (ri_r1 (by rfl) T.b_range (re_v 7)) (blkOk_by (by kernel_rfl)) (to_n 10) (by decide) (fun _ _ _ _ _ => (rg_n 10 sc__law_machine.nd rfl (by first | exact .inl rfl | exact .inr rfl))) (fun _ _ _ _ _ => rts_nil) (fun _ _ _ _ _ => (re_call (c__law_draw T) (hr.mono (by first | decide | omega)) (by rfl) takes0 (ra_cons (re_v 0) (ra_cons (re_v 2) ra_nil)) (hands_cons (hands_cons hands_nil))))))))
  (rss_cons (rs_exprX (rx_append (rb_o 4) (ra_cons (re_tup (ra_cons (re_call (c__law_draw T) (hr.mono (by first | decide | omega)) (by rfl) takes0 (ra_cons (re_v 0) (ra_cons (re_v 1) ra_nil)) (hands_cons (hands_cons hands_nil))) (ra_cons (re_v 8) (ra_cons (re_call (c__law_draw T) (hr.mono (by first | decide | omega)) (by rfl) takes0 (ra_cons (re_v 0) (ra_cons (re_v 2) ra_nil)) (hands_cons (hands_cons hands_nil))) ra_nil)))) ra_nil)))
  rss_nil))))
  (rss_cons (rs_setLc 6 (own := [("_law_label", 9)]) rfl sc__law_machine.nd rfl rfl (by rfl) (ri_r1 (by rfl) T.b_range (re_v 2)) (blkOk_by (by kernel_rfl)) (to_n 9) (by decide) (fun _ _ _ _ _ => (rg_n 9 sc__law_machine.nd rfl (by first | exact .inl rfl | exact .inr rfl))) (fun _ _ _ _ _ => rts_one (rt_eq (room_hu hr) (re_call (c__law_draw T) (hr.mono (by first | decide | omega)) (by rfl) takes0 (ra_cons (re_v 0) (ra_cons re_int ra_nil)) (hands_cons (hands_cons hands_nil))) re_int)) (fun _ _ _ _ _ => (re_v 9)))
  (rss_frz 6 (rss_frz 4 (rss_cons (rs_ret (re_tup (ra_cons (re_v 1) (ra_cons (re_v 2) (ra_cons (re_v 4) (ra_cons (re_v 6) ra_nil))))))
  rss_nil))))))
theorem c__law_made (T : Txt K mg cl) : Cb P w K mg base cl 4 "_law_made" 1 f__law_made :=
  cb0 (x := "_law_made") T.d__law_made sc__law_made rfl fun f cdv A outer s H E hr => (rss_cons (rs_ret (re_make (mc_Machine T) (hr.mono (by first | decide | omega)) (by rfl) takes0 (ra_cons (re_ix (rb_v (re_v 0)) re_int) (ra_cons (re_ix (rb_v (re_v 0)) re_int) (ra_cons (re_ix (rb_v (re_v 0)) re_int) (ra_cons (re_ix (rb_v (re_v 0)) re_int) ra_nil)))) (hands_cons (hands_cons (hands_cons (hands_cons hands_nil))))))
  rss_nil)
theorem c__law_prices (T : Txt K mg cl) : Cb P w K mg base cl 4 "_law_prices" 3 f__law_prices :=
  cb0 (x := "_law_prices") T.d__law_prices sc__law_prices rfl fun f cdv A outer s H E hr => (rss_cons (rs_set 3 sc__law_prices.nd rfl (by first | exact .inl rfl | exact .inr rfl) (re_ix (rb_v (re_tup (ra_cons re_int (ra_cons re_int (ra_cons re_int (ra_cons (re_pow re_int re_int) (ra_cons (re_pow re_int re_int) ra_nil))))))) (re_call (c__law_draw T) (hr.mono (by first | decide | omega)) (by rfl) takes0 (ra_cons (re_v 0) (ra_cons re_int ra_nil)) (hands_cons (hands_cons hands_nil)))))
  (rss_cons (rs_ret (re_f (ro_lc (own := [("_law_k", 4)]) rfl sc__law_prices.nd (ri_r1 (by rfl) T.b_range (re_v 1)) (blkOk_by (by kernel_rfl)) (to_n 4) (by decide) (fun _ _ _ _ _ => (rg_n 4 sc__law_prices.nd rfl (by first | exact .inl rfl | exact .inr rfl))) (fun _ _ _ _ _ => rts_nil) (fun _ _ _ _ _ => (re_f (ro_lc (own := [("_law_label", 5)]) rfl sc__law_prices.nd (ri_r1 (by rfl) T.b_range (re_v 2)) (blkOk_by (by kernel_rfl)) (to_n 5) (by decide) (fun _ _ _ _ _ => (rg_n 5 sc__law_prices.nd rfl (by first | exact .inl rfl | exact .inr rfl))) (fun _ _ _ _ _ => rts_nil) (fun _ _ _ _ _ => (re_call (c__law_draw T) (hr.mono (by first | decide | omega)) (by rfl) takes0 (ra_cons (re_v 0) (ra_cons (re_v 3) ra_nil)) (hands_cons (hands_cons hands_nil))))))))))
  rss_nil))
theorem c__law_step (T : Txt K mg cl) : Cb P w K mg base cl 4 "_law_step" 5 f__law_step :=
  cb0 (x := "_law_step") T.d__law_step sc__law_step rfl fun f cdv A outer s H E hr => (rss_cons (rs_setO 5 sc__law_step.nd rfl (by first | exact .inl rfl | exact .inr rfl) (ro_lst ra_nil))
  (rss_cons (rs_for fx_passes rfl (ri_r1 (by rfl) T.b_range (re_ix (rb_v (re_v 0)) re_int)) (rg_n 6 sc__law_step.nd rfl (by first | exact .inl rfl | exact .inr rfl)) (rss_cons (rs_setO 7 sc__law_step.nd rfl (by first | exact .inl rfl | exact .inr rfl) (ro_lst ra_nil))
  (rss_cons (rs_for fx_passes rfl (ri_r1 (by rfl) T.b_range (re_ix (rb_v (re_v 0)) re_int)) (rg_n 8 sc__law_step.nd rfl (by first | exact .inl rfl | exact .inr rfl)) (rss_cons (rs_if (rt_notN (re_ix (rb_v (re_v 2)) (re_v 8)) re_non) (rss_cons (rs_if (rt_in (room_hu hr) (re_tup (ra_cons (re_v 1) (ra_cons (re_tup (ra_cons (re_v 8) ra_nil)) (ra_cons (re_v 6) ra_nil)))) (rb_v (re_ix (rb_v (re_v 0)) re_int))) (rss_cons (rs_exprX (rx_append (rb_o 7) (ra_cons (re_add (re_ix (rb_v (re_v 2)) (re_v 8)) (re_ix (rb_v (re_v 3)) (re_v 6))) ra_nil)))
  rss_nil) (rss_cons (rs_if (rt_notN (re_v 4) re_non) (rss_cons (rs_exprX (rx_append (rb_o 7) (ra_cons (re_add (re_add (re_ix (rb_v (re_v 2)) (re_v 8)) (re_ix (rb_v (re_v 3)) (re_v 6))) (re_v 4)) ra_nil)))
  rss_nil) rss_nil)
  rss_nil))
  rss_nil) rss_nil)
  rss_nil))
  (rss_frz 7 (rss_cons (rs_exprX (rx_append (rb_o 5) (ra_cons (re_call (c__law_least T) (hr.mono (by first | decide | omega)) (by rfl) takes0 (ra_cons (re_v 7) ra_nil) (hands_cons hands_nil)) ra_nil)))
  rss_nil)))))
  (rss_cons (rs_retV 5)
  rss_nil)))
theorem mt_Ring_row (T : Txt K mg cl) : Mt P w K mg base cl 6 2 "row" 2 f_Ring_row := by
  obtain ⟨f, fd, h1, h2, h3⟩ := T.x_Ring_row
  exact ⟨f, fd, _, h1, h3, fn_ok0 h2 sc_Ring_row rfl fun cdv A outer s H E hr => (rss_cons (rs_setO 3 sc_Ring_row.nd rfl (by first | exact .inl rfl | exact .inr rfl) (ro_lst ra_nil))
  (rss_cons (rs_for fx_passes rfl (ri_r1 (by rfl) T.b_range (re_fld 0 T.t_Machine.cls.cls T.n_Machine_labels (re_fld 2 T.t_Ring.cls.cls T.n_Ring_machine (re_v 0)))) (rg_n 4 sc_Ring_row.nd rfl (by first | exact .inl rfl | exact .inr rfl)) (rss_cons (rs_set 5 sc_Ring_row.nd rfl (by first | exact .inl rfl | exact .inr rfl) re_non)
  (rss_cons (rs_for fx_passes rfl (ri_enumT (by rfl) T.b_enumerate (re_v 2)) (rg_t rfl (rgs_cons (rg_n 6 sc_Ring_row.nd rfl (by first | exact .inl rfl | exact .inr rfl)) (rgs_cons (rg_n 7 sc_Ring_row.nd rfl (by first | exact .inl rfl | exact .inr rfl)) rgs_nil))) (rss_cons (rs_if (rt_notN (re_v 7) re_non) (rss_cons (rs_set 8 sc_Ring_row.nd rfl (by first | exact .inl rfl | exact .inr rfl) (re_meth (mt_Ring_charge T) T.t_Ring.cls.cls (hr.mono (by first | decide | omega)) takes0 (re_v 0) (ra_cons (re_add (re_ix (rb_v (re_v 7)) re_int) (re_ix (rb_v (re_ix (rb_v (re_fld 2 T.t_Ring.cls.cls T.n_Ring_prices (re_v 0))) (re_v 1))) (re_v 4))) (ra_cons (re_v 1) (ra_cons (re_v 6) (ra_cons (re_v 4) ra_nil)))) (hands_cons (hands_cons (hands_cons (hands_cons hands_nil))))))
  (rss_cons (rs_if (rt_notN (re_v 8) re_non) (rss_cons (rs_set 5 sc_Ring_row.nd rfl (by first | exact .inl rfl | exact .inr rfl) (re_call (c_better T) (hr.mono (by first | decide | omega)) (by rfl) takes0 (ra_cons (re_v 5) (ra_cons (re_tup (ra_cons (re_v 8) (ra_cons (re_f (ro_lst (ra_star (rb_v (re_ix (rb_v (re_v 7)) re_int)) (ra_cons (re_v 4) ra_nil)))) ra_nil))) ra_nil)) (hands_cons (hands_cons hands_nil))))
  rss_nil) rss_nil)
  rss_nil)) rss_nil)
  rss_nil))
  (rss_cons (rs_exprX (rx_append (rb_o 3) (ra_cons (re_v 5) ra_nil)))
  rss_nil))))
  (rss_cons (rs_retV 3)
  rss_nil)))⟩
theorem mt_Ring_closed (T : Txt K mg cl) : Mt P w K mg base cl 6 2 "closed" 2 f_Ring_closed := by
  obtain ⟨f, fd, h1, h2, h3⟩ := T.x_Ring_closed
  exact ⟨f, fd, _, h1, h3, fn_ok0 h2 sc_Ring_closed rfl fun cdv A outer s H E hr => (rss_cons (rs_set 3 sc_Ring_closed.nd rfl (by first | exact .inl rfl | exact .inr rfl) re_non)
  (rss_cons (rs_for fx_passes rfl (ri_enumT (by rfl) T.b_enumerate (re_v 2)) (rg_t rfl (rgs_cons (rg_n 4 sc_Ring_closed.nd rfl (by first | exact .inl rfl | exact .inr rfl)) (rgs_cons (rg_n 5 sc_Ring_closed.nd rfl (by first | exact .inl rfl | exact .inr rfl)) rgs_nil))) (rss_cons (rs_if (rt_notN (re_v 5) re_non) (rss_cons (rs_set 6 sc_Ring_closed.nd rfl (by first | exact .inl rfl | exact .inr rfl) (re_meth (mt_Ring_charge T) T.t_Ring.cls.cls (hr.mono (by first | decide | omega)) takes0 (re_v 0) (ra_cons (re_add (re_ix (rb_v (re_v 5)) re_int) (re_ix (rb_v (re_ix (rb_v (re_fld 2 T.t_Ring.cls.cls T.n_Ring_prices (re_v 0))) re_int)) (re_v 1))) (ra_cons re_int (ra_cons (re_v 4) (ra_cons (re_v 1) ra_nil)))) (hands_cons (hands_cons (hands_cons (hands_cons hands_nil))))))
  (rss_cons (rs_if (rt_notN (re_v 6) re_non) (rss_cons (rs_set 3 sc_Ring_closed.nd rfl (by first | exact .inl rfl | exact .inr rfl) (re_call (c_better T) (hr.mono (by first | decide | omega)) (by rfl) takes0 (ra_cons (re_v 3) (ra_cons (re_tup (ra_cons (re_v 6) (ra_cons (re_ix (rb_v (re_v 5)) re_int) ra_nil))) ra_nil)) (hands_cons (hands_cons hands_nil))))
  rss_nil) rss_nil)
  rss_nil)) rss_nil)
  rss_nil))
  (rss_cons (rs_ret (re_v 3))
  rss_nil)))⟩
theorem c__law_ring_numbers (T : Txt K mg cl) : Cb P w K mg base cl 6 "_law_ring_numbers" 4 f__law_ring_numbers :=
  cb0 (x := "_law_ring_numbers") T.d__law_ring_numbers sc__law_ring_numbers rfl fun f cdv A outer s H E hr => (rss_cons (rs_setO 4 sc__law_ring_numbers.nd rfl (by first | exact .inl rfl | exact .inr rfl) (ro_lst ra_nil))
  (rss_cons (rs_setO 5 sc__law_ring_numbers.nd rfl (by first | exact .inl rfl | exact .inr rfl) (ro_lst ra_nil))
  (rss_cons (rs_for fx_passes rfl (ri_r1 (by rfl) T.b_range (re_ix (rb_v (re_v 0)) re_int)) (rg_n 6 sc__law_ring_numbers.nd rfl (by first | exact .inl rfl | exact .inr rfl)) (rss_cons (rs_setO 7 sc__law_ring_numbers.nd rfl (by first | exact .inl rfl | exact .inr rfl) (ro_lst (ra_cons (re_new (ro_rep (rb_f (ro_lst (ra_cons re_non ra_nil))) (re_ix (rb_v (re_v 0)) re_int))) ra_nil)))
  (rss_cons (rs_sub re_int (rb_v (re_ix (rb_o 7) re_int)) (re_v 6))
  (rss_cons (rs_for fx_passes rfl (ri_r2 (by rfl) T.b_range re_int (re_len (by rfl) T.b_len (rb_v (re_v 1)))) (rg_n 8 sc__law_ring_numbers.nd rfl (by first | exact .inl rfl | exact .inr rfl)) (rss_cons (rs_exprX (rx_append (rb_o 7) (ra_cons (re_f (ro_call (c__law_step T) (hr.mono (by first | decide | omega)) (by rfl) takes0 (ra_cons (re_v 0) (ra_cons (re_ix (rb_v (re_v 1)) (re_v 8)) (ra_cons (re_ix (rb_o 7) (re_neg re_int)) (ra_cons (re_ix (rb_v (re_v 2)) (re_v 8)) (ra_cons (re_v 3) ra_nil))))) (hands_cons (hands_cons (hands_cons (hands_cons (hands_cons hands_nil))))))) ra_nil)))
  rss_nil))
  (rss_frz 7 (rss_cons (rs_exprX (rx_append (rb_o 4) (ra_cons (re_v 7) ra_nil)))
  (rss_cons (rs_exprX (rx_append (rb_o 5) (ra_cons (re_ix (rb_f (ro_call (c__law_step T) (hr.mono (by first | decide | omega)) (by rfl) takes0 (ra_cons (re_v 0) (ra_cons (re_ix (rb_v (re_v 1)) re_int) (ra_cons (re_ix (rb_v (re_v 7)) (re_neg re_int)) (ra_cons (re_ix (rb_v (re_v 2)) re_int) (ra_cons (re_v 3) ra_nil))))) (hands_cons (hands_cons (hands_cons (hands_cons (hands_cons hands_nil))))))) (re_v 6)) ra_nil)))
  rss_nil)))))))
  (rss_frz 5 (rss_frz 4 (rss_cons (rs_ret (re_tup (ra_cons (re_v 4) (ra_cons (re_call (c__law_least T) (hr.mono (by first | decide | omega)) (by rfl) takes0 (ra_cons (re_v 5) ra_nil) (hands_cons hands_nil)) ra_nil))))
  rss_nil))))))
theorem mt_Ring_rows (T : Txt K mg cl) : Mt P w K mg base cl 8 2 "rows" 1 f_Ring_rows := by
  obtain ⟨f, fd, h1, h2, h3⟩ := T.x_Ring_rows
  exact ⟨f, fd, _, h1, h3, fn_ok0 h2 sc_Ring_rows rfl fun cdv A outer s H E hr => (rss_cons (rs_setLc 2 (own := [("label", 5)]) rfl sc_Ring_rows.nd rfl rfl (by rfl) (ri_r1 (by rfl) T.b_range (re_fld 0 T.t_Machine.cls.cls T.n_Machine_labels (re_fld 2 T.t_Ring.cls.cls T.n_Ring_machine (re_v 0)))) (blkOk_by (by kernel_rfl)) (to_n 5) (by decide) (fun _ _ _ _ _ => (rg_n 5 sc_Ring_rows.nd rfl (by first | exact .inl rfl | exact .inr rfl))) (fun _ _ _ _ _ => rts_nil) (fun _ _ _ _ _ => (re_if (rt_eq (room_hu hr) (re_v 5) (re_v 1)) (re_tup (ra_cons re_int (ra_cons (re_f (ro_lst (ra_cons (re_v 1) ra_nil))) ra_nil))) re_non)))
  (rss_frz 2 (rss_cons (rs_setO 3 sc_Ring_rows.nd rfl (by first | exact .inl rfl | exact .inr rfl) (ro_lst (ra_cons (re_v 2) ra_nil)))
  (rss_cons (rs_for fx_passes rfl (ri_r2 (by rfl) T.b_range re_int (re_len (by rfl) T.b_len (rb_v (re_fld 2 T.t_Ring.cls.cls T.n_Ring_ring (re_v 0))))) (rg_n 4 sc_Ring_rows.nd rfl (by first | exact .inl rfl | exact .inr rfl)) (rss_cons (rs_exprX (rx_append (rb_o 3) (ra_cons (re_f (ro_meth (mt_Ring_row T) T.t_Ring.cls.cls (hr.mono (by first | decide | omega)) takes0 (re_v 0) (ra_cons (re_v 4) (ra_cons (re_ix (rb_o 3) (re_neg re_int)) ra_nil)) (hands_cons (hands_cons hands_nil)))) ra_nil)))
  rss_nil))
  (rss_cons (rs_retV 3)
  rss_nil)))))⟩
theorem c_best_ring (T : Txt K mg cl) : Cb P w K mg base cl 12 "best_ring" 4 f_best_ring :=
  cb0 (x := "best_ring") T.d_best_ring sc_best_ring rfl fun f cdv A outer s H E hr => (rss_cons (rs_set 4 sc_best_ring.nd rfl (by first | exact .inl rfl | exact .inr rfl) (re_make (mc_Ring T) (hr.mono (by first | decide | omega)) (by rfl) takes0 (ra_cons (re_v 0) (ra_cons (re_v 1) (ra_cons (re_v 2) (ra_cons (re_v 3) ra_nil)))) (hands_cons (hands_cons (hands_cons (hands_cons hands_nil))))))
  (rss_cons (rs_setO 5 sc_best_ring.nd rfl (by first | exact .inl rfl | exact .inr rfl) (ro_lst ra_nil))
  (rss_cons (rs_set 6 sc_best_ring.nd rfl (by first | exact .inl rfl | exact .inr rfl) re_non)
  (rss_cons (rs_for fx_passes rfl (ri_r1 (by rfl) T.b_range (re_fld 0 T.t_Machine.cls.cls T.n_Machine_labels (re_v 0))) (rg_n 7 sc_best_ring.nd rfl (by first | exact .inl rfl | exact .inr rfl)) (rss_cons (rs_set 8 sc_best_ring.nd rfl (by first | exact .inl rfl | exact .inr rfl) (re_f (ro_meth (mt_Ring_rows T) T.t_Ring.cls.cls (hr.mono (by first | decide | omega)) takes0 (re_v 4) (ra_cons (re_v 7) ra_nil) (hands_cons hands_nil))))
  (rss_cons (rs_exprX (rx_append (rb_o 5) (ra_cons (re_f (ro_lc (own := [("row", 9)]) rfl sc_best_ring.nd (ri_v (re_v 8)) (blkOk_by (by kernel_rfl)) (to_n 9) (by decide) (fun _ _ _ _ _ => (rg_n 9 sc_best_ring.nd rfl (by first | exact .inl rfl | exact .inr rfl))) (fun _ _ _ _ _ => rts_nil) (fun _ _ _ _ _ => (re_f (ro_lc (own := [("pair", 10)]) rfl sc_best_ring.nd (ri_v (re_v 9)) (blkOk_by (by kernel_rfl)) (to_n 10) (by decide) (fun _ _ _ _ _ => (rg_n 10 sc_best_ring.nd rfl (by first | exact .inl rfl | exact .inr rfl))) (fun _ _ _ _ _ => rts_nil) (fun _ _ _ _ _ => (re_call (c_cost_of T) (hr.mono (by first | decide | omega)) (by rfl) takes0 (ra_cons (re_v 10) ra_nil) (hands_cons hands_nil)))))))) ra_nil)))
  (rss_cons (rs_set 6 sc_best_ring.nd rfl (by first | exact .inl rfl | exact .inr rfl) (re_call (c_better T) (hr.mono (by first | decide | omega)) (by rfl) takes0 (ra_cons (re_v 6) (ra_cons (re_meth (mt_Ring_closed T) T.t_Ring.cls.cls (hr.mono (by first | decide | omega)) takes0 (re_v 4) (ra_cons (re_v 7) (ra_cons (re_ix (rb_v (re_v 8)) (re_neg re_int)) ra_nil)) (hands_cons (hands_cons hands_nil))) ra_nil)) (hands_cons (hands_cons hands_nil))))
  rss_nil))))
  (rss_frz 5 (rss_cons (rs_if (rt_isN (re_v 6) re_non) (rss_cons (rs_ret (re_make (mc_Found T) (hr.mono (by first | decide | omega)) (by rfl) takes0 (ra_cons re_str (ra_cons re_non (ra_cons (re_f (ro_lst ra_nil)) (ra_cons (re_v 5) (ra_cons (re_f (ro_lst ra_nil)) ra_nil))))) (hands_cons (hands_cons (hands_cons (hands_cons (hands_cons hands_nil)))))))
  rss_nil) rss_nil)
  (rss_cons (rs_ret (re_make (mc_Found T) (hr.mono (by first | decide | omega)) (by rfl) takes0 (ra_cons re_str (ra_cons (re_ix (rb_v (re_v 6)) re_int) (ra_cons (re_ix (rb_v (re_v 6)) re_int) (ra_cons (re_v 5) (ra_cons (re_f (ro_lst ra_nil)) ra_nil))))) (hands_cons (hands_cons (hands_cons (hands_cons (hands_cons hands_nil)))))))
  rss_nil)))))))
theorem c_judge_ring (T : Txt K mg cl) : Cb P w K mg base cl 12 "judge_ring" 5 f_judge_ring :=
  cb0 (x := "judge_ring") T.d_judge_ring sc_judge_ring rfl fun f cdv A outer s H E hr => (rss_cons (rs_set 5 sc_judge_ring.nd rfl (by first | exact .inl rfl | exact .inr rfl) (re_make (mc_Ring T) (hr.mono (by first | decide | omega)) (by rfl) takes0 (ra_cons (re_v 0) (ra_cons (re_v 1) (ra_cons (re_v 2) (ra_cons (re_v 3) ra_nil)))) (hands_cons (hands_cons (hands_cons (hands_cons hands_nil))))))
  (rss_cons (rs_if (rt_w (rw_or (rt_ne (room_hu hr) (re_len (by rfl) T.b_len (rb_v (re_fld 1 T.t_Found.cls.cls T.n_Found_numbers (re_v 4)))) (re_fld 0 T.t_Machine.cls.cls T.n_Machine_labels (re_v 0))) (rw_or1 (rt_tru (re_fld 1 T.t_Found.cls.cls T.n_Found_ends (re_v 4)))))) (rss_cons (rs_ret re_bl)
  rss_nil) rss_nil)
  (rss_cons (rs_setO 6 sc_judge_ring.nd rfl (by first | exact .inl rfl | exact .inr rfl) (ro_lst ra_nil))
  (rss_cons (rs_for fx_passes rfl (ri_enumT (by rfl) T.b_enumerate (re_fld 1 T.t_Found.cls.cls T.n_Found_numbers (re_v 4))) (rg_t rfl (rgs_cons (rg_n 7 sc_judge_ring.nd rfl (by first | exact .inl rfl | exact .inr rfl)) (rgs_cons (rg_n 8 sc_judge_ring.nd rfl (by first | exact .inl rfl | exact .inr rfl)) rgs_nil))) (rss_cons (rs_if (rt_w (rw_or (rt_ne (room_hu hr) (re_len (by rfl) T.b_len (rb_v (re_v 8))) (re_len (by rfl) T.b_len (rb_v (re_v 1)))) (rw_or1 (rt_tru (re_any rfl (by rfl) T.b_any (rb_f (ro_lc (own := [("row", 11)]) rfl sc_judge_ring.nd (ri_v (re_v 8)) (blkOk_by (by kernel_rfl)) (to_n 11) (by decide) (fun _ _ _ _ _ => (rg_n 11 sc_judge_ring.nd rfl (by first | exact .inl rfl | exact .inr rfl))) (fun _ _ _ _ _ => rts_nil) (fun _ _ _ _ _ => (re_ne (room_hu hr) (re_len (by rfl) T.b_len (rb_v (re_v 11))) (re_fld 0 T.t_Machine.cls.cls T.n_Machine_labels (re_v 0))))))))))) (rss_cons (rs_ret re_bl)
  rss_nil) rss_nil)
  (rss_cons (rs_setLc 9 (own := [("row", 11)]) rfl sc_judge_ring.nd rfl rfl (by rfl) (ri_v (re_v 8)) (blkOk_by (by kernel_rfl)) (to_n 11) (by decide) (fun _ _ _ _ _ => (rg_n 11 sc_judge_ring.nd rfl (by first | exact .inl rfl | exact .inr rfl))) (fun _ _ _ _ _ => rts_nil) (fun _ _ _ _ _ => (re_f (ro_lc (own := [("cost", 12)]) rfl sc_judge_ring.nd (ri_v (re_v 11)) (blkOk_by (by kernel_rfl)) (to_n 12) (by decide) (fun _ _ _ _ _ => (rg_n 12 sc_judge_ring.nd rfl (by first | exact .inl rfl | exact .inr rfl))) (fun _ _ _ _ _ => rts_nil) (fun _ _ _ _ _ => (re_if (rt_isN (re_v 12) re_non) re_non (re_tup (ra_cons (re_v 12) (ra_cons (re_f (ro_lst ra_nil)) ra_nil)))))))))
  (rss_frz 9 (rss_cons (rs_if (rt_neL (room_hu hr) (rb_v (re_ix (rb_v (re_v 8)) re_int)) (rb_f (ro_lc (own := [("label", 13)]) rfl sc_judge_ring.nd (ri_r1 (by rfl) T.b_range (re_fld 0 T.t_Machine.cls.cls T.n_Machine_labels (re_v 0))) (blkOk_by (by kernel_rfl)) (to_n 13) (by decide) (fun _ _ _ _ _ => (rg_n 13 sc_judge_ring.nd rfl (by first | exact .inl rfl | exact .inr rfl))) (fun _ _ _ _ _ => rts_nil) (fun _ _ _ _ _ => (re_if (rt_eq (room_hu hr) (re_v 13) (re_v 7)) re_int re_non))))) (rss_cons (rs_ret re_bl)
  rss_nil) rss_nil)
  (rss_cons (rs_for fx_passes rfl (ri_r2 (by rfl) T.b_range re_int (re_len (by rfl) T.b_len (rb_v (re_v 1)))) (rg_n 10 sc_judge_ring.nd rfl (by first | exact .inl rfl | exact .inr rfl)) (rss_cons (rs_if (rt_neL (room_hu hr) (rb_f (ro_lc (own := [("pair", 14)]) rfl sc_judge_ring.nd (ri_v (re_f (ro_meth (mt_Ring_row T) T.t_Ring.cls.cls (hr.mono (by first | decide | omega)) takes0 (re_v 5) (ra_cons (re_v 10) (ra_cons (re_ix (rb_v (re_v 9)) (re_sub (re_v 10) re_int)) ra_nil)) (hands_cons (hands_cons hands_nil))))) (blkOk_by (by kernel_rfl)) (to_n 14) (by decide) (fun _ _ _ _ _ => (rg_n 14 sc_judge_ring.nd rfl (by first | exact .inl rfl | exact .inr rfl))) (fun _ _ _ _ _ => rts_nil) (fun _ _ _ _ _ => (re_call (c_cost_of T) (hr.mono (by first | decide | omega)) (by rfl) takes0 (ra_cons (re_v 14) ra_nil) (hands_cons hands_nil))))) (rb_v (re_ix (rb_v (re_v 8)) (re_v 10)))) (rss_cons (rs_ret re_bl)
  rss_nil) rss_nil)
  rss_nil))
  (rss_cons (rs_exprX (rx_append (rb_o 6) (ra_cons (re_call (c_cost_of T) (hr.mono (by first | decide | omega)) (by rfl) takes0 (ra_cons (re_meth (mt_Ring_closed T) T.t_Ring.cls.cls (hr.mono (by first | decide | omega)) takes0 (re_v 5) (ra_cons (re_v 7) (ra_cons (re_ix (rb_v (re_v 9)) (re_neg re_int)) ra_nil)) (hands_cons (hands_cons hands_nil))) ra_nil) (hands_cons hands_nil)) ra_nil)))
  rss_nil)))))))
  (rss_frz 6 (rss_cons (rs_if (rt_eq (room_hu hr) (re_fld 1 T.t_Found.cls.cls T.n_Found_kind (re_v 4)) re_str) (rss_cons (rs_ret (re_and (re_isN (re_fld 1 T.t_Found.cls.cls T.n_Found_cost (re_v 4)) re_non) (re_and (re_not (re_fld 1 T.t_Found.cls.cls T.n_Found_labels (re_v 4))) (re_one (re_isN (re_call (c_least T) (hr.mono (by first | decide | omega)) (by rfl) takes0 (ra_cons (re_v 6) ra_nil) (hands_cons hands_nil)) re_non)))))
  rss_nil) rss_nil)
  (rss_cons (rs_if (rt_w (rw_or (rt_isN (re_fld 1 T.t_Found.cls.cls T.n_Found_cost (re_v 4)) re_non) (rw_or (rt_ne (room_hu hr) (re_fld 1 T.t_Found.cls.cls T.n_Found_cost (re_v 4)) (re_call (c_least T) (hr.mono (by first | decide | omega)) (by rfl) takes0 (ra_cons (re_v 6) ra_nil) (hands_cons hands_nil))) (rw_or1 (rt_not (rt_tru (re_call (c_fits T) (hr.mono (by first | decide | omega)) (by rfl) takes0 (ra_cons (re_v 0) (ra_cons (re_fld 1 T.t_Found.cls.cls T.n_Found_labels (re_v 4)) (ra_cons (re_len (by rfl) T.b_len (rb_v (re_v 1))) ra_nil))) (hands_cons (hands_cons (hands_cons hands_nil)))))))))) (rss_cons (rs_ret re_bl)
  rss_nil) rss_nil)
  (rss_cons (rs_ret (re_eq (room_hu hr) (re_call (c_priced T) (hr.mono (by first | decide | omega)) (by rfl) takes0 (ra_cons (re_v 2) (ra_cons (re_v 3) (ra_cons (re_fld 1 T.t_Found.cls.cls T.n_Found_labels (re_v 4)) (ra_cons (re_len (by rfl) T.b_len (rb_f (ro_call (c_ring_objectors T) (hr.mono (by first | decide | omega)) (by rfl) takes0 (ra_cons (re_v 0) (ra_cons (re_v 1) (ra_cons (re_fld 1 T.t_Found.cls.cls T.n_Found_labels (re_v 4)) ra_nil))) (hands_cons (hands_cons (hands_cons hands_nil)))))) ra_nil)))) (hands_cons (hands_cons (hands_cons (hands_cons hands_nil))))) (re_fld 1 T.t_Found.cls.cls T.n_Found_cost (re_v 4))))
  rss_nil))))))))
theorem fn_law (T : Txt K mg cl) {f : Addr} {fd : FuncData} (F : L2.Fun K "law" "law" s_law f fd) : FnOk P w K mg base (L2.CX P w) 20 f fd ["_law_script"] (spOf K cl 1 f_law) :=
  fn_ok0 F sc_law rfl fun cdv A outer s H E hr => (rss_cons (rs_set 1 sc_law.nd rfl (by first | exact .inl rfl | exact .inr rfl) (re_new (ro_call (c__law_pool T) (hr.mono (by first | decide | omega)) (by rfl) takes0 (ra_cons (re_v 0) (ra_cons re_int ra_nil)) (hands_cons (hands_cons hands_nil)))))
  (rss_cons (rs_set 2 sc_law.nd rfl (by first | exact .inl rfl | exact .inr rfl) (re_eq (room_hu hr) (re_call (c__law_draw T) (hr.mono (by first | decide | omega)) (by rfl) takes0 (ra_cons (re_v 1) (ra_cons re_int ra_nil)) (hands_cons (hands_cons hands_nil))) re_int))
  (rss_cons (rs_set 3 sc_law.nd rfl (by first | exact .inl rfl | exact .inr rfl) (re_call (c__law_machine T) (hr.mono (by first | decide | omega)) (by rfl) takes0 (ra_cons (re_v 1) (ra_cons (re_add re_int (re_call (c__law_draw T) (hr.mono (by first | decide | omega)) (by rfl) takes0 (ra_cons (re_v 1) (ra_cons re_int ra_nil)) (hands_cons (hands_cons hands_nil)))) (ra_cons (re_add re_int (re_call (c__law_draw T) (hr.mono (by first | decide | omega)) (by rfl) takes0 (ra_cons (re_v 1) (ra_cons (re_ix (rb_v (re_tup (ra_cons re_int (ra_cons re_int ra_nil)))) (re_int1 (by rfl) T.b_int (re_v 2))) ra_nil)) (hands_cons (hands_cons hands_nil)))) (ra_cons (re_add re_int (re_mul re_int (re_int1 (by rfl) T.b_int (re_v 2)))) ra_nil)))) (hands_cons (hands_cons (hands_cons (hands_cons hands_nil))))))
  (rss_cons (rs_set 4 sc_law.nd rfl (by first | exact .inl rfl | exact .inr rfl) (re_call (c__law_made T) (hr.mono (by first | decide | omega)) (by rfl) takes0 (ra_cons (re_v 3) ra_nil) (hands_cons hands_nil)))
  (rss_cons (rs_set 5 sc_law.nd rfl (by first | exact .inl rfl | exact .inr rfl) (re_int1 (by rfl) T.b_int (re_eq (room_hu hr) (re_call (c__law_draw T) (hr.mono (by first | decide | omega)) (by rfl) takes0 (ra_cons (re_v 1) (ra_cons re_int ra_nil)) (hands_cons (hands_cons hands_nil))) re_int)))
  (rss_cons (rs_setLc 6 (own := [("_law_k", 21)]) rfl sc_law.nd rfl rfl (by rfl) (ri_r1 (by rfl) T.b_range (re_add re_int (re_call (c__law_draw T) (hr.mono (by first | decide | omega)) (by rfl) takes0 (ra_cons (re_v 1) (ra_cons (re_sub re_int (re_mul re_int (re_int1 (by rfl) T.b_int (re_v 2)))) ra_nil)) (hands_cons (hands_cons hands_nil))))) (blkOk_by (by kernel_rfl)) (to_n 21) (by decide) (fun _ _ _ _ _ => (rg_n 21 sc_law.nd rfl (by first | exact .inl rfl | exact .inr rfl))) (fun _ _ _ _ _ => rts_nil) (fun _ _ _ _ _ => (re_call (c__law_draw T) (hr.mono (by first | decide | omega)) (by rfl) takes0 (ra_cons (re_v 1) (ra_cons (re_add (re_ix (rb_v (re_v 3)) re_int) (re_v 5)) ra_nil)) (hands_cons (hands_cons hands_nil)))))
  (rss_frz 6 (rss_cons (rs_set 7 sc_law.nd rfl (by first | exact .inl rfl | exact .inr rfl) (re_call (c__law_prices T) (hr.mono (by first | decide | omega)) (by rfl) takes0 (ra_cons (re_v 1) (ra_cons (re_len (by rfl) T.b_len (rb_v (re_v 6))) (ra_cons (re_ix (rb_v (re_v 3)) re_int) ra_nil))) (hands_cons (hands_cons (hands_cons hands_nil)))))
  (rss_cons (rs_set 8 sc_law.nd rfl (by first | exact .inl rfl | exact .inr rfl) (re_ix (rb_v (re_tup (ra_cons re_non (ra_cons re_int (ra_cons re_int (ra_cons re_int (ra_cons re_int (ra_cons (re_pow re_int re_int) (ra_cons (re_call (c__law_draw T) (hr.mono (by first | decide | omega)) (by rfl) takes0 (ra_cons (re_v 1) (ra_cons (re_pow re_int re_int) ra_nil)) (hands_cons (hands_cons hands_nil))) ra_nil))))))))) (re_call (c__law_draw T) (hr.mono (by first | decide | omega)) (by rfl) takes0 (ra_cons (re_v 1) (ra_cons re_int ra_nil)) (hands_cons (hands_cons hands_nil)))))
  (rss_cons (rs_set 9 sc_law.nd rfl (by first | exact .inl rfl | exact .inr rfl) (re_f (ro_lst (ra_cons (re_f (ro_list (by rfl) T.b_list (rb_v (re_v 6)))) (ra_cons (re_f (ro_lc (own := [("_law_row", 22)]) rfl sc_law.nd (ri_v (re_v 7)) (blkOk_by (by kernel_rfl)) (to_n 22) (by decide) (fun _ _ _ _ _ => (rg_n 22 sc_law.nd rfl (by first | exact .inl rfl | exact .inr rfl))) (fun _ _ _ _ _ => rts_nil) (fun _ _ _ _ _ => (re_f (ro_list (by rfl) T.b_list (rb_v (re_v 22))))))) ra_nil)))))
  (rss_cons (rs_set 10 sc_law.nd rfl (by first | exact .inl rfl | exact .inr rfl) (re_call (c_best_ring T) (hr.mono (by first | decide | omega)) (by rfl) takes0 (ra_cons (re_v 4) (ra_cons (re_ix (rb_v (re_v 9)) re_int) (ra_cons (re_ix (rb_v (re_v 9)) re_int) (ra_cons (re_v 8) ra_nil)))) (hands_cons (hands_cons (hands_cons (hands_cons hands_nil))))))
  (rss_cons (rs_if (rt_w (rw_or (rt_not (rt_tru (re_isC 1 T.t_Found.cls (by rfl) T.b_isinstance (by rfl) T.t_Found.nm (re_v 10)))) (rw_or1 (rt_neL (room_hu hr) (rb_v (re_v 9)) (rb_f (ro_lst (ra_cons (re_v 6) (ra_cons (re_v 7) ra_nil)))))))) (rss_cons (rs_ret re_bl)
  rss_nil) rss_nil)
  (rss_cons (rs_set 11 sc_law.nd rfl (by first | exact .inl rfl | exact .inr rfl) re_non)
  (rss_cons (rs_for fx_passes rfl (ri_v (re_call (c__law_lists T) (hr.mono (by first | decide | omega)) (by rfl) takes0 (ra_cons (re_len (by rfl) T.b_len (rb_v (re_v 6))) (ra_cons (re_ix (rb_v (re_v 3)) re_int) ra_nil)) (hands_cons (hands_cons hands_nil)))) (rg_n 12 sc_law.nd rfl (by first | exact .inl rfl | exact .inr rfl)) (rss_cons (rs_set 17 sc_law.nd rfl (by first | exact .inl rfl | exact .inr rfl) (re_call (c__law_cost T) (hr.mono (by first | decide | omega)) (by rfl) takes0 (ra_cons (re_v 7) (ra_cons (re_v 8) (ra_cons (re_v 12) (ra_cons (re_len (by rfl) T.b_len (rb_f (ro_call (c__law_ring_objects T) (hr.mono (by first | decide | omega)) (by rfl) takes0 (ra_cons (re_v 3) (ra_cons (re_v 6) (ra_cons (re_v 12) ra_nil))) (hands_cons (hands_cons (hands_cons hands_nil)))))) ra_nil)))) (hands_cons (hands_cons (hands_cons (hands_cons hands_nil))))))
  (rss_cons (rs_if (rt_w (rw_and (rt_notN (re_v 17) re_non) (rw_and1 (rt_w (rw_or (rt_isN (re_v 11) re_non) (rw_or1 (rt_lt (re_v 17) (re_ix (rb_v (re_v 11)) re_int)))))))) (rss_cons (rs_set 11 sc_law.nd rfl (by first | exact .inl rfl | exact .inr rfl) (re_tup (ra_cons (re_v 17) (ra_cons (re_v 12) ra_nil))))
  rss_nil) rss_nil)
  rss_nil)))
  (rss_cons (rs_asg (re_call (c__law_ring_numbers T) (hr.mono (by first | decide | omega)) (by rfl) takes0 (ra_cons (re_v 3) (ra_cons (re_v 6) (ra_cons (re_v 7) (ra_cons (re_v 8) ra_nil)))) (hands_cons (hands_cons (hands_cons (hands_cons hands_nil))))) (rg_t rfl (rgs_cons (rg_n 18 sc_law.nd rfl (by first | exact .inl rfl | exact .inr rfl)) (rgs_cons (rg_n 19 sc_law.nd rfl (by first | exact .inl rfl | exact .inr rfl)) rgs_nil))))
  (rss_cons (rs_if (rt_not (rt_tru (re_call (c__law_same T 8) (hr.mono (by first | decide | omega)) (by rfl) takes0 (ra_cons (re_f (ro_lst (ra_cons (re_fld 1 T.t_Found.cls.cls T.n_Found_numbers (re_v 10)) (ra_cons (re_fld 1 T.t_Found.cls.cls T.n_Found_ends (re_v 10)) ra_nil)))) (ra_cons (re_f (ro_lst (ra_cons (re_v 18) (ra_cons (re_f (ro_lst ra_nil)) ra_nil)))) ra_nil)) (hands_cons (hands_cons hands_nil))))) (rss_cons (rs_ret re_bl)
  rss_nil) rss_nil)
  (rss_cons (rs_if (rt_isN (re_v 11) re_non) (rss_cons (rs_set 20 sc_law.nd rfl (by first | exact .inl rfl | exact .inr rfl) (re_and (re_isN (re_v 19) re_non) (re_one (re_call (c__law_same T 8) (hr.mono (by first | decide | omega)) (by rfl) takes0 (ra_cons (re_f (ro_lst (ra_cons (re_fld 1 T.t_Found.cls.cls T.n_Found_kind (re_v 10)) (ra_cons (re_fld 1 T.t_Found.cls.cls T.n_Found_cost (re_v 10)) (ra_cons (re_fld 1 T.t_Found.cls.cls T.n_Found_labels (re_v 10)) ra_nil))))) (ra_cons (re_f (ro_lst (ra_cons re_str (ra_cons re_non (ra_cons (re_f (ro_lst ra_nil)) ra_nil))))) ra_nil)) (hands_cons (hands_cons hands_nil))))))
  rss_nil) (rss_cons (rs_set 20 sc_law.nd rfl (by first | exact .inl rfl | exact .inr rfl) (re_call (c__law_same T 8) (hr.mono (by first | decide | omega)) (by rfl) takes0 (ra_cons (re_f (ro_lst (ra_cons (re_fld 1 T.t_Found.cls.cls T.n_Found_kind (re_v 10)) (ra_cons (re_fld 1 T.t_Found.cls.cls T.n_Found_cost (re_v 10)) (ra_cons (re_fld 1 T.t_Found.cls.cls T.n_Found_labels (re_v 10)) (ra_cons (re_v 19) ra_nil)))))) (ra_cons (re_f (ro_lst (ra_cons re_str (ra_cons (re_ix (rb_v (re_v 11)) re_int) (ra_cons (re_ix (rb_v (re_v 11)) re_int) (ra_cons (re_ix (rb_v (re_v 11)) re_int) ra_nil)))))) ra_nil)) (hands_cons (hands_cons hands_nil))))
  rss_nil))
  (rss_cons (rs_set 13 sc_law.nd rfl (by first | exact .inl rfl | exact .inr rfl) (re_tuple (by rfl) T.b_tuple (rb_f (ro_lc (own := [("_law_row", 22)]) rfl sc_law.nd (ri_v (re_v 7)) (blkOk_by (by kernel_rfl)) (to_n 22) (by decide) (fun _ _ _ _ _ => (rg_n 22 sc_law.nd rfl (by first | exact .inl rfl | exact .inr rfl))) (fun _ _ _ _ _ => rts_nil) (fun _ _ _ _ _ => (re_tuple (by rfl) T.b_tuple (rb_v (re_v 22))))))))
  (rss_cons (rs_set 14 sc_law.nd rfl (by first | exact .inl rfl | exact .inr rfl) (re_f (ro_lst (ra_cons (re_call (c_judge_ring T) (hr.mono (by first | decide | omega)) (by rfl) takes0 (ra_cons (re_v 4) (ra_cons (re_ix (rb_v (re_v 9)) re_int) (ra_cons (re_ix (rb_v (re_v 9)) re_int) (ra_cons (re_v 8) (ra_cons (re_v 10) ra_nil))))) (hands_cons (hands_cons (hands_cons (hands_cons (hands_cons hands_nil)))))) (ra_cons (re_call (c_judge_ring T) (hr.mono (by first | decide | omega)) (by rfl) takes0 (ra_cons (re_v 4) (ra_cons (re_tuple (by rfl) T.b_tuple (rb_v (re_v 6))) (ra_cons (re_v 13) (ra_cons (re_v 8) (ra_cons (re_v 10) ra_nil))))) (hands_cons (hands_cons (hands_cons (hands_cons (hands_cons hands_nil)))))) ra_nil)))))
  (rss_cons (rs_if (rt_w (rw_or (rt_not (rt_tru (re_v 20))) (rw_or (rt_not (rt_tru (re_call (c__law_same T 8) (hr.mono (by first | decide | omega)) (by rfl) takes0 (ra_cons (re_v 14) (ra_cons (re_f (ro_lst (ra_cons re_bl (ra_cons re_bl ra_nil)))) ra_nil)) (hands_cons (hands_cons hands_nil))))) (rw_or1 (rt_neL (room_hu hr) (rb_v (re_v 9)) (rb_f (ro_lst (ra_cons (re_v 6) (ra_cons (re_v 7) ra_nil))))))))) (rss_cons (rs_ret re_bl)
  rss_nil) rss_nil)
  (rss_cons (rs_set 15 sc_law.nd rfl (by first | exact .inl rfl | exact .inr rfl) (re_call (c__law_draw T) (hr.mono (by first | decide | omega)) (by rfl) takes0 (ra_cons (re_v 1) (ra_cons (re_len (by rfl) T.b_len (rb_v (re_v 6))) ra_nil)) (hands_cons (hands_cons hands_nil))))
  (rss_cons (rs_set 16 sc_law.nd rfl (by first | exact .inl rfl | exact .inr rfl) (re_call (c_best_ring T) (hr.mono (by first | decide | omega)) (by rfl) takes0 (ra_cons (re_v 4) (ra_cons (re_tuple (by rfl) T.b_tuple (rb_f (ro_cat (rb_f (ro_sl (rb_v (re_v 6)) (rp_some (re_v 15)) rp_none)) (rb_f (ro_sl (rb_v (re_v 6)) rp_none (rp_some (re_v 15))))))) (ra_cons (re_add (re_sl (rb_v (re_v 13)) (rp_some (re_v 15)) rp_none) (re_sl (rb_v (re_v 13)) rp_none (rp_some (re_v 15)))) (ra_cons (re_v 8) ra_nil)))) (hands_cons (hands_cons (hands_cons (hands_cons hands_nil))))))
  (rss_cons (rs_ret (re_call (c__law_same T 8) (hr.mono (by first | decide | omega)) (by rfl) takes0 (ra_cons (re_f (ro_lst (ra_cons (re_fld 1 T.t_Found.cls.cls T.n_Found_kind (re_v 16)) (ra_cons (re_fld 1 T.t_Found.cls.cls T.n_Found_cost (re_v 16)) ra_nil)))) (ra_cons (re_f (ro_lst (ra_cons (re_fld 1 T.t_Found.cls.cls T.n_Found_kind (re_v 10)) (ra_cons (re_fld 1 T.t_Found.cls.cls T.n_Found_cost (re_v 10)) ra_nil)))) ra_nil)) (hands_cons (hands_cons hands_nil))))
  rss_nil)))))))))))))))))))))))
end
end
end K10

set_option linter.all false
set_option maxRecDepth 100000
set_option autoImplicit false
namespace K10
open PySem PySem.Spec L2 DL
theorem w_ring_objectors {a0 a1 a2 : D} {S : Store} {r : FRes} (h : OQ (m_ring_objectors [some (.val a0), some (.val a1), some (.val a2), none, none, none] S) (fun o => outF0 o = r)) : f_ring_objectors [a0, a1, a2] S = r := oq_run h
theorem W_ring_objectors {a0 a1 a2 : D} {S : Store} (R : FRes → Prop) (h : OQ (m_ring_objectors [some (.val a0), some (.val a1), some (.val a2), none, none, none] S) (fun o => R (outF0 o))) : R (f_ring_objectors [a0, a1, a2] S) := oq_run h
theorem w_Found___init__ {a0 a1 a2 a3 a4 a5 : D} {S : Store} {r : FRes} (h : OQ (m_Found___init__ [some (.val a0), some (.val a1), some (.val a2), some (.val a3), some (.val a4), some (.val a5)] S) (fun o => outF0 o = r)) : f_Found___init__ [a0, a1, a2, a3, a4, a5] S = r := oq_run h
theorem W_Found___init__ {a0 a1 a2 a3 a4 a5 : D} {S : Store} (R : FRes → Prop) (h : OQ (m_Found___init__ [some (.val a0), some (.val a1), some (.val a2), some (.val a3), some (.val a4), some (.val a5)] S) (fun o => R (outF0 o))) : R (f_Found___init__ [a0, a1, a2, a3, a4, a5] S) := oq_run h
theorem w_least {a0 : D} {S : Store} {r : FRes} (h : OQ (m_least [some (.val a0), none, none] S) (fun o => outF0 o = r)) : f_least [a0] S = r := oq_run h
theorem W_least {a0 : D} {S : Store} (R : FRes → Prop) (h : OQ (m_least [some (.val a0), none, none] S) (fun o => R (outF0 o))) : R (f_least [a0] S) := oq_run h
theorem w_better {a0 a1 : D} {S : Store} {r : FRes} (h : OQ (m_better [some (.val a0), some (.val a1)] S) (fun o => outF0 o = r)) : f_better [a0, a1] S = r := oq_run h
theorem W_better {a0 a1 : D} {S : Store} (R : FRes → Prop) (h : OQ (m_better [some (.val a0), some (.val a1)] S) (fun o => R (outF0 o))) : R (f_better [a0, a1] S) := oq_run h
theorem w_charged {a0 a1 a2 : D} {S : Store} {r : FRes} (h : OQ (m_charged [some (.val a0), some (.val a1), some (.val a2)] S) (fun o => outF0 o = r)) : f_charged [a0, a1, a2] S = r := oq_run h
theorem W_charged {a0 a1 a2 : D} {S : Store} (R : FRes → Prop) (h : OQ (m_charged [some (.val a0), some (.val a1), some (.val a2)] S) (fun o => R (outF0 o))) : R (f_charged [a0, a1, a2] S) := oq_run h
theorem w_cost_of {a0 : D} {S : Store} {r : FRes} (h : OQ (m_cost_of [some (.val a0)] S) (fun o => outF0 o = r)) : f_cost_of [a0] S = r := oq_run h
theorem W_cost_of {a0 : D} {S : Store} (R : FRes → Prop) (h : OQ (m_cost_of [some (.val a0)] S) (fun o => R (outF0 o))) : R (f_cost_of [a0] S) := oq_run h
theorem w_priced {a0 a1 a2 a3 : D} {S : Store} {r : FRes} (h : OQ (m_priced [some (.val a0), some (.val a1), some (.val a2), some (.val a3), none, none] S) (fun o => outF0 o = r)) : f_priced [a0, a1, a2, a3] S = r := oq_run h
theorem W_priced {a0 a1 a2 a3 : D} {S : Store} (R : FRes → Prop) (h : OQ (m_priced [some (.val a0), some (.val a1), some (.val a2), some (.val a3), none, none] S) (fun o => R (outF0 o))) : R (f_priced [a0, a1, a2, a3] S) := oq_run h
theorem w_fits {a0 a1 a2 : D} {S : Store} {r : FRes} (h : OQ (m_fits [some (.val a0), some (.val a1), some (.val a2), none] S) (fun o => outF0 o = r)) : f_fits [a0, a1, a2] S = r := oq_run h
theorem W_fits {a0 a1 a2 : D} {S : Store} (R : FRes → Prop) (h : OQ (m_fits [some (.val a0), some (.val a1), some (.val a2), none] S) (fun o => R (outF0 o))) : R (f_fits [a0, a1, a2] S) := oq_run h
theorem w_Ring___init__ {a0 a1 a2 a3 a4 : D} {S : Store} {r : FRes} (h : OQ (m_Ring___init__ [some (.val a0), some (.val a1), some (.val a2), some (.val a3), some (.val a4), none] S) (fun o => outF0 o = r)) : f_Ring___init__ [a0, a1, a2, a3, a4] S = r := oq_run h
theorem W_Ring___init__ {a0 a1 a2 a3 a4 : D} {S : Store} (R : FRes → Prop) (h : OQ (m_Ring___init__ [some (.val a0), some (.val a1), some (.val a2), some (.val a3), some (.val a4), none] S) (fun o => R (outF0 o))) : R (f_Ring___init__ [a0, a1, a2, a3, a4] S) := oq_run h
theorem w__law_lists {a0 a1 : D} {S : Store} {r : FRes} (h : OQ (m__law_lists [some (.val a0), some (.val a1), none, none, none, none, none] S) (fun o => outF0 o = r)) : f__law_lists [a0, a1] S = r := oq_run h
theorem W__law_lists {a0 a1 : D} {S : Store} (R : FRes → Prop) (h : OQ (m__law_lists [some (.val a0), some (.val a1), none, none, none, none, none] S) (fun o => R (outF0 o))) : R (f__law_lists [a0, a1] S) := oq_run h
theorem w__law_cost {a0 a1 a2 a3 : D} {S : Store} {r : FRes} (h : OQ (m__law_cost [some (.val a0), some (.val a1), some (.val a2), some (.val a3), none, none] S) (fun o => outF0 o = r)) : f__law_cost [a0, a1, a2, a3] S = r := oq_run h
theorem W__law_cost {a0 a1 a2 a3 : D} {S : Store} (R : FRes → Prop) (h : OQ (m__law_cost [some (.val a0), some (.val a1), some (.val a2), some (.val a3), none, none] S) (fun o => R (outF0 o))) : R (f__law_cost [a0, a1, a2, a3] S) := oq_run h
theorem w__law_least {a0 : D} {S : Store} {r : FRes} (h : OQ (m__law_least [some (.val a0), none, none] S) (fun o => outF0 o = r)) : f__law_least [a0] S = r := oq_run h
theorem W__law_least {a0 : D} {S : Store} (R : FRes → Prop) (h : OQ (m__law_least [some (.val a0), none, none] S) (fun o => R (outF0 o))) : R (f__law_least [a0] S) := oq_run h
theorem w__law_ring_objects {a0 a1 a2 : D} {S : Store} {r : FRes} (h : OQ (m__law_ring_objects [some (.val a0), some (.val a1), some (.val a2), none] S) (fun o => outF0 o = r)) : f__law_ring_objects [a0, a1, a2] S = r := oq_run h
theorem W__law_ring_objects {a0 a1 a2 : D} {S : Store} (R : FRes → Prop) (h : OQ (m__law_ring_objects [some (.val a0), some (.val a1), some (.val a2), none] S) (fun o => R (outF0 o))) : R (f__law_ring_objects [a0, a1, a2] S) := oq_run h
theorem w_Ring_charge {a0 a1 a2 a3 a4 : D} {S : Store} {r : FRes} (h : OQ (m_Ring_charge [some (.val a0), some (.val a1), some (.val a2), some (.val a3), some (.val a4)] S) (fun o => outF0 o = r)) : f_Ring_charge [a0, a1, a2, a3, a4] S = r := oq_run h
theorem W_Ring_charge {a0 a1 a2 a3 a4 : D} {S : Store} (R : FRes → Prop) (h : OQ (m_Ring_charge [some (.val a0), some (.val a1), some (.val a2), some (.val a3), some (.val a4)] S) (fun o => R (outF0 o))) : R (f_Ring_charge [a0, a1, a2, a3, a4] S) := oq_run h
theorem w__law_prices {a0 a1 a2 : D} {S : Store} {r : FRes} (h : OQ (m__law_prices [some (.val a0), some (.val a1), some (.val a2), none, none, none] S) (fun o => outF0 o = r)) : f__law_prices [a0, a1, a2] S = r := oq_run h
theorem W__law_prices {a0 a1 a2 : D} {S : Store} (R : FRes → Prop) (h : OQ (m__law_prices [some (.val a0), some (.val a1), some (.val a2), none, none, none] S) (fun o => R (outF0 o))) : R (f__law_prices [a0, a1, a2] S) := oq_run h
theorem w__law_step {a0 a1 a2 a3 a4 : D} {S : Store} {r : FRes} (h : OQ (m__law_step [some (.val a0), some (.val a1), some (.val a2), some (.val a3), some (.val a4), none, none, none, none] S) (fun o => outF0 o = r)) : f__law_step [a0, a1, a2, a3, a4] S = r := oq_run h
theorem W__law_step {a0 a1 a2 a3 a4 : D} {S : Store} (R : FRes → Prop) (h : OQ (m__law_step [some (.val a0), some (.val a1), some (.val a2), some (.val a3), some (.val a4), none, none, none, none] S) (fun o => R (outF0 o))) : R (f__law_step [a0, a1, a2, a3, a4] S) := oq_run h
theorem w_Ring_row {a0 a1 a2 : D} {S : Store} {r : FRes} (h : OQ (m_Ring_row [some (.val a0), some (.val a1), some (.val a2), none, none, none, none, none, none] S) (fun o => outF0 o = r)) : f_Ring_row [a0, a1, a2] S = r := oq_run h
theorem W_Ring_row {a0 a1 a2 : D} {S : Store} (R : FRes → Prop) (h : OQ (m_Ring_row [some (.val a0), some (.val a1), some (.val a2), none, none, none, none, none, none] S) (fun o => R (outF0 o))) : R (f_Ring_row [a0, a1, a2] S) := oq_run h
theorem w_Ring_closed {a0 a1 a2 : D} {S : Store} {r : FRes} (h : OQ (m_Ring_closed [some (.val a0), some (.val a1), some (.val a2), none, none, none, none] S) (fun o => outF0 o = r)) : f_Ring_closed [a0, a1, a2] S = r := oq_run h
theorem W_Ring_closed {a0 a1 a2 : D} {S : Store} (R : FRes → Prop) (h : OQ (m_Ring_closed [some (.val a0), some (.val a1), some (.val a2), none, none, none, none] S) (fun o => R (outF0 o))) : R (f_Ring_closed [a0, a1, a2] S) := oq_run h
theorem w__law_ring_numbers {a0 a1 a2 a3 : D} {S : Store} {r : FRes} (h : OQ (m__law_ring_numbers [some (.val a0), some (.val a1), some (.val a2), some (.val a3), none, none, none, none, none] S) (fun o => outF0 o = r)) : f__law_ring_numbers [a0, a1, a2, a3] S = r := oq_run h
theorem W__law_ring_numbers {a0 a1 a2 a3 : D} {S : Store} (R : FRes → Prop) (h : OQ (m__law_ring_numbers [some (.val a0), some (.val a1), some (.val a2), some (.val a3), none, none, none, none, none] S) (fun o => R (outF0 o))) : R (f__law_ring_numbers [a0, a1, a2, a3] S) := oq_run h
theorem w_Ring_rows {a0 a1 : D} {S : Store} {r : FRes} (h : OQ (m_Ring_rows [some (.val a0), some (.val a1), none, none, none, none] S) (fun o => outF0 o = r)) : f_Ring_rows [a0, a1] S = r := oq_run h
theorem W_Ring_rows {a0 a1 : D} {S : Store} (R : FRes → Prop) (h : OQ (m_Ring_rows [some (.val a0), some (.val a1), none, none, none, none] S) (fun o => R (outF0 o))) : R (f_Ring_rows [a0, a1] S) := oq_run h
theorem w_best_ring {a0 a1 a2 a3 : D} {S : Store} {r : FRes} (h : OQ (m_best_ring [some (.val a0), some (.val a1), some (.val a2), some (.val a3), none, none, none, none, none, none, none] S) (fun o => outF0 o = r)) : f_best_ring [a0, a1, a2, a3] S = r := oq_run h
theorem W_best_ring {a0 a1 a2 a3 : D} {S : Store} (R : FRes → Prop) (h : OQ (m_best_ring [some (.val a0), some (.val a1), some (.val a2), some (.val a3), none, none, none, none, none, none, none] S) (fun o => R (outF0 o))) : R (f_best_ring [a0, a1, a2, a3] S) := oq_run h
theorem w_judge_ring {a0 a1 a2 a3 a4 : D} {S : Store} {r : FRes} (h : OQ (m_judge_ring [some (.val a0), some (.val a1), some (.val a2), some (.val a3), some (.val a4), none, none, none, none, none, none, none, none, none, none] S) (fun o => outF0 o = r)) : f_judge_ring [a0, a1, a2, a3, a4] S = r := oq_run h
theorem W_judge_ring {a0 a1 a2 a3 a4 : D} {S : Store} (R : FRes → Prop) (h : OQ (m_judge_ring [some (.val a0), some (.val a1), some (.val a2), some (.val a3), some (.val a4), none, none, none, none, none, none, none, none, none, none] S) (fun o => R (outF0 o))) : R (f_judge_ring [a0, a1, a2, a3, a4] S) := oq_run h
theorem w_law {a0 : D} {S : Store} {r : FRes} (h : OQ (m_law [some (.val a0), none, none, none, none, none, none, none, none, none, none, none, none, none, none, none, none, none, none, none, none, none, none] S) (fun o => outF0 o = r)) : f_law [a0] S = r := oq_run h
theorem W_law {a0 : D} {S : Store} (R : FRes → Prop) (h : OQ (m_law [some (.val a0), none, none, none, none, none, none, none, none, none, none, none, none, none, none, none, none, none, none, none, none, none, none] S) (fun o => R (outF0 o))) : R (f_law [a0] S) := oq_run h
end K10

set_option linter.all false
set_option maxRecDepth 100000
set_option maxHeartbeats 4000000
set_option autoImplicit false
namespace DL
open L2
theorem atI_k {α : Type} (xs : List α) (k : Nat) : atI xs (k : Int) = xs[k]? := by
  unfold atI ixN
  rw [if_pos (Int.natCast_nonneg k)]
  by_cases h : k < xs.length
  · rw [if_pos (by omega)]; rfl
  · rw [if_neg (by omega)]
    simp; omega
theorem atI_0 {α : Type} (xs : List α) : atI xs 0 = xs[0]? := atI_k xs 0
theorem atI_1 {α : Type} (xs : List α) : atI xs 1 = xs[1]? := atI_k xs 1
theorem atI_2 {α : Type} (xs : List α) : atI xs 2 = xs[2]? := atI_k xs 2
theorem atI_3 {α : Type} (xs : List α) : atI xs 3 = xs[3]? := atI_k xs 3
theorem atI_4 {α : Type} (xs : List α) : atI xs 4 = xs[4]? := atI_k xs 4
theorem atI_5 {α : Type} (xs : List α) : atI xs 5 = xs[5]? := atI_k xs 5
theorem atI_6 {α : Type} (xs : List α) : atI xs 6 = xs[6]? := atI_k xs 6
theorem ixN_nat (n k : Nat) (h : k < n) : ixN n (k : Int) = some k := by
  unfold ixN
  rw [if_pos (Int.natCast_nonneg k), if_pos (by omega)]
  rfl
theorem ixN_0 (n : Nat) : ixN (n + 1) 0 = some 0 := ixN_nat (n + 1) 0 (by omega)
theorem ixN_1 (n : Nat) : ixN (n + 2) 1 = some 1 := ixN_nat (n + 2) 1 (by omega)
theorem ixN_2 (n : Nat) : ixN (n + 3) 2 = some 2 := ixN_nat (n + 3) 2 (by omega)
theorem ixN_3 (n : Nat) : ixN (n + 4) 3 = some 3 := ixN_nat (n + 4) 3 (by omega)
theorem ixN_4 (n : Nat) : ixN (n + 5) 4 = some 4 := ixN_nat (n + 5) 4 (by omega)
theorem ixN_5 (n : Nat) : ixN (n + 6) 5 = some 5 := ixN_nat (n + 6) 5 (by omega)
end DL
namespace K10
open PySem PySem.Spec L2 DL

/-- the pool at n -/
def Pool (ns : List Int) (a : Nat) (b c d e : Int) : Ob := .lst [.lst (ns.map .int), .int a, .int b, .int c, .int d, .int e]
theorem lg_lt {x : Int} {k : Nat} (h : x.natAbs < 2 ^ (k + 1)) : x.natAbs.log2 ≤ k := by
  by_cases h0 : x.natAbs = 0
  · rw [h0]; exact Nat.zero_le _
  · exact Nat.le_of_lt_succ ((Nat.log2_lt h0).mpr h)
abbrev MD : Int := 2147483647
theorem draw_spec {ns : List Int} {a : Nat} {b c d e sz : Int} {S : Store} {n : Nat} (h : S[n]? = some (Pool ns a b c d e)) (hs : 0 < sz) (hs2 : sz < 2 ^ 200) (hc : 0 ≤ c ∧ c < MD) :
    ∃ v a' b' c' d', f__law_draw [.loc n, .int sz] S = .ret (.int v) (S.set n (Pool ns a' b' c' d' e)) ∧ 0 ≤ v ∧ v < sz ∧ 0 ≤ c' ∧ c' < MD := by
  have hn : n < S.length := (List.getElem?_eq_some_iff.mp h).1
  have hset : ∀ x, (S.set n x)[n]? = some x := fun x => List.getElem?_set_self hn
  have g1 : sz.natAbs.log2 < 9000 := by have := lg_lt (x := sz) (k := 199) (by omega); omega
  have g2 : ∀ x : Int, 0 ≤ x → x < MD → x.natAbs.log2 + (Int.natAbs 31).log2 < 1000000 := fun x h1 h2 => by
    have := lg_lt (x := x) (k := 31) (by unfold MD at h2; omega)
    have : (Int.natAbs 31).log2 = 4 := by decide +kernel
    omega
  have g3 : ∀ x : Int, 0 ≤ x → x < MD → x.natAbs.log2 + (Int.natAbs 48271).log2 < 1000000 := fun x h1 h2 => by
    have := lg_lt (x := x) (k := 31) (by unfold MD at h2; omega)
    have : (Int.natAbs 48271).log2 = 15 := by decide +kernel
    omega
  have g4 : ∀ x : Int, 0 ≤ x → x < MD → x.natAbs.log2 + (Int.natAbs 69621).log2 < 1000000 := fun x h1 h2 => by
    have := lg_lt (x := x) (k := 31) (by unfold MD at h2; omega)
    have : (Int.natAbs 69621).log2 = 16 := by decide +kernel
    omega
  have mm : ∀ x : Int, 0 ≤ x % MD ∧ x % MD < MD := fun x => ⟨Int.emod_nonneg _ (by decide), Int.emod_lt_of_pos _ (by decide)⟩
  have ms : ∀ x : Int, 0 ≤ x % sz ∧ x % sz < sz := fun x => ⟨Int.emod_nonneg _ (by omega), Int.emod_lt_of_pos _ hs⟩
  unfold f__law_draw mFn0 N__law_draw m__law_draw Pool at *
  by_cases hA : b ≤ 0 ∧ d ≤ 0 ∧ a < ns.length
  · -- a cell is taken
    obtain ⟨hb, hd, ha⟩ := hA
    obtain ⟨x, hx⟩ : ∃ x, ns[a]? = some x := ⟨ns[a], List.getElem?_eq_getElem ha⟩
    have k1 : decide (b ≤ 0) = true := decide_eq_true hb
    have k2 : decide (d ≤ 0) = true := decide_eq_true hd
    have k3 : decide ((a : Int) < (ns.length : Int)) = true := decide_eq_true (by omega)
    have k4 := g2 c hc.1 hc.2
    have k5 := mm (c * 31 + x)
    by_cases hx2 : 10 ^ 18 ≤ x
    · refine ⟨x % sz, a + 1, x / sz, (c * 31 + x) % MD, 0, ?_, (ms x).1, (ms x).2, k5.1, k5.2⟩
      have k6 : decide (1000000000000000000 ≤ x) = true := decide_eq_true (by omega)
      have k7 : decide (0 < x) = true := decide_eq_true (by omega)
      have t10 : Int.natAbs 10 < 18446744073709551616 := by decide
      simp only [mSeq, mIfS, mSlO, mPS, mPN, miRev, miEnumT, itemsOf, SZ, mComp, noOwn, wipeE, mYes, Res.bindN, List.all_cons, List.all_nil, Bool.and_true, Bool.true_and, compL, miR1, mAndT, mOrT, mNotT, mCmpT, mCmp, mChain, mChainT, mIx, mLV, mLO, mV, mC, mB1, mAsg, mAsgX, mgN, mgT, mgCons, mgNil, mSub, mOp, mE1, mRet, mRetN, mRetX, mRetV, mRetO, mNext, mNever, mTru, mDropX, mDrop, mMeth, mMeth0, fAppend, fPop, mExt, mSetO, mFrz, mLocz, mF, mNew, mLst, mTup, mCons, mNil, mList, mCat, Res.bind, Res.go, startE, ctL, ctOf, ixC, atI_0, atI_1, atI_2, atI_3, atI_4, atI_5, atI_6, ixN_0, ixN_1, ixN_2, ixN_3, ixN_4, ixN_5, cLe, cLt, cGe, cGt, fAdd, fSub, fMul, fMod, fDiv, fPow, fInt, fLen, fTup, getM, putM, truth, outF0, mFn0, mCall, mCallO, itemsOf, mFor, miV, walkD, mFld, fldD, mAnd, mOr, mNot, mIf, List.map_cons, List.map_nil, List.cons_append, List.nil_append, List.length_cons, List.length_nil, List.length_map, List.replicate_succ, List.replicate_zero, List.set_cons_zero, List.set_cons_succ, List.getElem?_cons_zero, List.getElem?_cons_succ, List.getElem?_nil, List.set_set, Option.bind_some, Option.bind_none, Option.map_some, Option.map_none, if_true, if_false, decide_true, decide_false, Bool.false_eq_true, reduceIte, reduceCtorEq, Nat.reduceAdd, Nat.reduceSub, Nat.zero_add, Nat.reduceLeDiff, Nat.reduceLT, Nat.reduceSucc, true_and, t10, h, k1, k2, k3, k4, k6, k7, g1, hs, hset, hx, atI_k, List.getElem?_map, and_self, Int.reducePow, Int.reduceToNat, Nat.reducePow, Int.reduceLE, Int.reduceLT, Int.natCast_add, Int.cast_ofNat_Int]
    · have k6 : decide (1000000000000000000 ≤ x) = false := decide_eq_false (by omega)
      have k7 : decide (0 < b) = false := decide_eq_false (by omega)
      have k8 := g3 _ k5.1 k5.2
      have k9 := mm ((c * 31 + x) % MD * 48271 + 12345)
      have k10 := g4 _ k9.1 k9.2
      refine ⟨_, a + 1, b, ((c * 31 + x) % MD * 48271 + 12345) % MD, 6, ?_, (ms (((((c * 31 + x) % MD * 48271 + 12345) % MD) * 69621 + 7919) % MD)).1, (ms _).2, k9.1, k9.2⟩
      have t10 : Int.natAbs 10 < 18446744073709551616 := by decide
      simp only [mSeq, mIfS, mSlO, mPS, mPN, miRev, miEnumT, itemsOf, SZ, mComp, noOwn, wipeE, mYes, Res.bindN, List.all_cons, List.all_nil, Bool.and_true, Bool.true_and, compL, miR1, mAndT, mOrT, mNotT, mCmpT, mCmp, mChain, mChainT, mIx, mLV, mLO, mV, mC, mB1, mAsg, mAsgX, mgN, mgT, mgCons, mgNil, mSub, mOp, mE1, mRet, mRetN, mRetX, mRetV, mRetO, mNext, mNever, mTru, mDropX, mDrop, mMeth, mMeth0, fAppend, fPop, mExt, mSetO, mFrz, mLocz, mF, mNew, mLst, mTup, mCons, mNil, mList, mCat, Res.bind, Res.go, startE, ctL, ctOf, ixC, atI_0, atI_1, atI_2, atI_3, atI_4, atI_5, atI_6, ixN_0, ixN_1, ixN_2, ixN_3, ixN_4, ixN_5, cLe, cLt, cGe, cGt, fAdd, fSub, fMul, fMod, fDiv, fPow, fInt, fLen, fTup, getM, putM, truth, outF0, mFn0, mCall, mCallO, itemsOf, mFor, miV, walkD, mFld, fldD, mAnd, mOr, mNot, mIf, List.map_cons, List.map_nil, List.cons_append, List.nil_append, List.length_cons, List.length_nil, List.length_map, List.replicate_succ, List.replicate_zero, List.set_cons_zero, List.set_cons_succ, List.getElem?_cons_zero, List.getElem?_cons_succ, List.getElem?_nil, List.set_set, Option.bind_some, Option.bind_none, Option.map_some, Option.map_none, if_true, if_false, decide_true, decide_false, Bool.false_eq_true, reduceIte, reduceCtorEq, Nat.reduceAdd, Nat.reduceSub, Nat.zero_add, Nat.reduceLeDiff, Nat.reduceLT, Nat.reduceSucc, true_and, t10, h, k1, k2, k3, k4, k6, k7, k8, k10, g1, hs, hset, hx, atI_k, List.getElem?_map, and_self, Int.reducePow, Int.reduceToNat, Nat.reducePow, Int.reduceLE, Int.reduceLT, Int.natCast_add, Int.cast_ofNat_Int, Int.reduceSub]
  · have kA : (if decide (b ≤ 0) = true then if decide (d ≤ 0) = true then decide ((a : Int) < (ns.length : Int)) else false else false) = false := by
      by_cases hb : b ≤ 0
      · by_cases hd : d ≤ 0
        · simp [hb, hd]; omega
        · simp [hb, hd]
      · simp [hb]
    by_cases hp : 0 < b
    · refine ⟨b % sz, a, b / sz, c, 0, ?_, (ms b).1, (ms b).2, hc.1, hc.2⟩
      have k1 : decide (b ≤ 0) = false := decide_eq_false (by omega)
      have k7 : decide (0 < b) = true := decide_eq_true hp
      simp only [mSeq, mIfS, mSlO, mPS, mPN, miRev, miEnumT, itemsOf, SZ, mComp, noOwn, wipeE, mYes, Res.bindN, List.all_cons, List.all_nil, Bool.and_true, Bool.true_and, compL, miR1, mAndT, mOrT, mNotT, mCmpT, mCmp, mChain, mChainT, mIx, mLV, mLO, mV, mC, mB1, mAsg, mAsgX, mgN, mgT, mgCons, mgNil, mSub, mOp, mE1, mRet, mRetN, mRetX, mRetV, mRetO, mNext, mNever, mTru, mDropX, mDrop, mMeth, mMeth0, fAppend, fPop, mExt, mSetO, mFrz, mLocz, mF, mNew, mLst, mTup, mCons, mNil, mList, mCat, Res.bind, Res.go, startE, ctL, ctOf, ixC, atI_0, atI_1, atI_2, atI_3, atI_4, atI_5, atI_6, ixN_0, ixN_1, ixN_2, ixN_3, ixN_4, ixN_5, cLe, cLt, cGe, cGt, fAdd, fSub, fMul, fMod, fDiv, fPow, fInt, fLen, fTup, getM, putM, truth, outF0, mFn0, mCall, mCallO, itemsOf, mFor, miV, walkD, mFld, fldD, mAnd, mOr, mNot, mIf, List.map_cons, List.map_nil, List.cons_append, List.nil_append, List.length_cons, List.length_nil, List.length_map, List.replicate_succ, List.replicate_zero, List.set_cons_zero, List.set_cons_succ, List.getElem?_cons_zero, List.getElem?_cons_succ, List.getElem?_nil, List.set_set, Option.bind_some, Option.bind_none, Option.map_some, Option.map_none, if_true, if_false, decide_true, decide_false, Bool.false_eq_true, reduceIte, reduceCtorEq, Nat.reduceAdd, Nat.reduceSub, Nat.zero_add, Nat.reduceLeDiff, Nat.reduceLT, Nat.reduceSucc, h, k1, k7, g1, hs, hset, and_self]
    · have hb : b ≤ 0 := by omega
      have k1 : decide (b ≤ 0) = true := decide_eq_true hb
      have k7 : decide (0 < b) = false := decide_eq_false hp
      have k8 := g3 _ hc.1 hc.2
      have k9 := mm (c * 48271 + 12345)
      have k10 := g4 _ k9.1 k9.2
      refine ⟨_, a, b, (c * 48271 + 12345) % MD, d - 1, ?_, (ms (((c * 48271 + 12345) % MD * 69621 + 7919) % MD)).1, (ms _).2, k9.1, k9.2⟩
      by_cases hd : d ≤ 0
      · have k2 : decide (d ≤ 0) = true := decide_eq_true hd
        have k3 : decide ((a : Int) < (ns.length : Int)) = false := decide_eq_false (by omega)
        simp only [mSeq, mIfS, mSlO, mPS, mPN, miRev, miEnumT, itemsOf, SZ, mComp, noOwn, wipeE, mYes, Res.bindN, List.all_cons, List.all_nil, Bool.and_true, Bool.true_and, compL, miR1, mAndT, mOrT, mNotT, mCmpT, mCmp, mChain, mChainT, mIx, mLV, mLO, mV, mC, mB1, mAsg, mAsgX, mgN, mgT, mgCons, mgNil, mSub, mOp, mE1, mRet, mRetN, mRetX, mRetV, mRetO, mNext, mNever, mTru, mDropX, mDrop, mMeth, mMeth0, fAppend, fPop, mExt, mSetO, mFrz, mLocz, mF, mNew, mLst, mTup, mCons, mNil, mList, mCat, Res.bind, Res.go, startE, ctL, ctOf, ixC, atI_0, atI_1, atI_2, atI_3, atI_4, atI_5, atI_6, ixN_0, ixN_1, ixN_2, ixN_3, ixN_4, ixN_5, cLe, cLt, cGe, cGt, fAdd, fSub, fMul, fMod, fDiv, fPow, fInt, fLen, fTup, getM, putM, truth, outF0, mFn0, mCall, mCallO, itemsOf, mFor, miV, walkD, mFld, fldD, mAnd, mOr, mNot, mIf, List.map_cons, List.map_nil, List.cons_append, List.nil_append, List.length_cons, List.length_nil, List.length_map, List.replicate_succ, List.replicate_zero, List.set_cons_zero, List.set_cons_succ, List.getElem?_cons_zero, List.getElem?_cons_succ, List.getElem?_nil, List.set_set, Option.bind_some, Option.bind_none, Option.map_some, Option.map_none, if_true, if_false, decide_true, decide_false, Bool.false_eq_true, reduceIte, reduceCtorEq, Nat.reduceAdd, Nat.reduceSub, Nat.zero_add, Nat.reduceLeDiff, Nat.reduceLT, Nat.reduceSucc, h, k1, k2, k3, k7, k8, k10, g1, hs, hset, and_self, Int.reduceLT]
      · have k2 : decide (d ≤ 0) = false := decide_eq_false hd
        simp only [mSeq, mIfS, mSlO, mPS, mPN, miRev, miEnumT, itemsOf, SZ, mComp, noOwn, wipeE, mYes, Res.bindN, List.all_cons, List.all_nil, Bool.and_true, Bool.true_and, compL, miR1, mAndT, mOrT, mNotT, mCmpT, mCmp, mChain, mChainT, mIx, mLV, mLO, mV, mC, mB1, mAsg, mAsgX, mgN, mgT, mgCons, mgNil, mSub, mOp, mE1, mRet, mRetN, mRetX, mRetV, mRetO, mNext, mNever, mTru, mDropX, mDrop, mMeth, mMeth0, fAppend, fPop, mExt, mSetO, mFrz, mLocz, mF, mNew, mLst, mTup, mCons, mNil, mList, mCat, Res.bind, Res.go, startE, ctL, ctOf, ixC, atI_0, atI_1, atI_2, atI_3, atI_4, atI_5, atI_6, ixN_0, ixN_1, ixN_2, ixN_3, ixN_4, ixN_5, cLe, cLt, cGe, cGt, fAdd, fSub, fMul, fMod, fDiv, fPow, fInt, fLen, fTup, getM, putM, truth, outF0, mFn0, mCall, mCallO, itemsOf, mFor, miV, walkD, mFld, fldD, mAnd, mOr, mNot, mIf, List.map_cons, List.map_nil, List.cons_append, List.nil_append, List.length_cons, List.length_nil, List.length_map, List.replicate_succ, List.replicate_zero, List.set_cons_zero, List.set_cons_succ, List.getElem?_cons_zero, List.getElem?_cons_succ, List.getElem?_nil, List.set_set, Option.bind_some, Option.bind_none, Option.map_some, Option.map_none, if_true, if_false, decide_true, decide_false, Bool.false_eq_true, reduceIte, reduceCtorEq, Nat.reduceAdd, Nat.reduceSub, Nat.zero_add, Nat.reduceLeDiff, Nat.reduceLT, Nat.reduceSucc, h, k1, k2, k7, k8, k10, g1, hs, hset, and_self, Int.reduceLT]
end K10

set_option linter.all false
set_option maxRecDepth 100000
set_option maxHeartbeats 4000000
set_option autoImplicit false
namespace K10
open PySem PySem.Spec L2 DL

mutual
theorem low_up (n : Nat) : ∀ d : D, D.low 0 d = true → D.low n d = true
  | .non, _ => rfl
  | .bl _, _ => rfl
  | .int _, _ => rfl
  | .str _, _ => rfl
  | .tup ds, h => lows_up n ds h
  | .lst ds, h => lows_up n ds h
  | .scr _, _ => rfl
  | .loc m, h => by simp [D.low] at h
  | .ins _ _ ds, h => lows_up n ds h
  | .dct ds, h => lows_up n ds h
theorem lows_up (n : Nat) : ∀ ds : List D, D.lows 0 ds = true → D.lows n ds = true
  | [], _ => rfl
  | d :: ds, h => by
    rw [D.lows, Bool.and_eq_true] at h ⊢
    exact ⟨low_up n d h.1, lows_up n ds h.2⟩
end
theorem lows_ints : ∀ ns : List Int, D.lows 0 (ns.map .int) = true
  | [] => rfl
  | n :: ns => by
    rw [List.map_cons, D.lows, lows_ints ns]
    rfl
def AllLow (S : Store) : Prop := ∀ o ∈ S, Ob.low 0 o = true
/-- all but the places I stays -/
structure Fr (I : List Nat) (S S' : Store) : Prop where
  le : S.length ≤ S'.length
  eq : ∀ j, j < S.length → j ∉ I → S'[j]? = S[j]?
  lw : AllLow S → AllLow S'
theorem Fr.refl (I : List Nat) (S : Store) : Fr I S S := ⟨Nat.le_refl _, fun _ _ _ => rfl, id⟩
theorem Fr.trans {I : List Nat} {a b c : Store} (h : Fr I a b) (k : Fr I b c) : Fr I a c := ⟨Nat.le_trans h.le k.le, fun j hj hi => (k.eq j (Nat.lt_of_lt_of_le hj h.le) hi).trans (h.eq j hj hi), fun z => k.lw (h.lw z)⟩
theorem Fr.mono {I J : List Nat} {a b : Store} (h : Fr I a b) (s : ∀ i ∈ I, i ∈ J) : Fr J a b := ⟨h.le, fun j hj hi => h.eq j hj fun z => hi (s j z), h.lw⟩
theorem Fr.at_ {I : List Nat} {a b : Store} (h : Fr I a b) {j : Nat} {o : Ob} (hi : j ∉ I) (e : a[j]? = some o) : b[j]? = some o := (h.eq j (List.getElem?_eq_some_iff.mp e).1 hi).trans e
theorem fr_set (S : Store) (n : Nat) (o : Ob) (ho : Ob.low 0 o = true) : Fr [n] S (S.set n o) := ⟨by simp, fun j _ hi => List.getElem?_set_ne (by simpa using fun e => hi (by simp [e])), fun h x hx => by
  rcases List.mem_or_eq_of_mem_set hx with z | z
  · exact h x z
  · rw [z]; exact ho⟩
theorem fr_app (I : List Nat) (S T : Store) (hT : ∀ o ∈ T, Ob.low 0 o = true) : Fr I S (S ++ T) := ⟨by simp, fun j hj _ => List.getElem?_append_left hj, fun h x hx => (List.mem_append.mp hx).elim (h x) (hT x)⟩
theorem pool_low (ns : List Int) (a : Nat) (b c d e : Int) : Ob.low 0 (Pool ns a b c d e) = true := by
  show (D.low 0 (.lst (ns.map .int)) && _) = true
  rw [show D.low 0 (.lst (ns.map .int)) = true from lows_ints ns]
  rfl
/-- a pool stands at n -/
def PoolOk (ns : List Int) (S : Store) (n : Nat) : Prop := ∃ (a : Nat) (b c d e : Int), S[n]? = some (Pool ns a b c d e) ∧ 0 ≤ c ∧ c < MD
theorem PoolOk.fr {ns : List Int} {S S' : Store} {n : Nat} {I : List Nat} (h : PoolOk ns S n) (f : Fr I S S') (hi : n ∉ I) : PoolOk ns S' n := by
  obtain ⟨a, b, c, d, e, h1, h2⟩ := h
  exact ⟨a, b, c, d, e, f.at_ hi h1, h2⟩
/-- a step that draws -/
structure Dr (ns : List Int) (n : Nat) (S S' : Store) : Prop where
  fr : Fr [n] S S'
  ok : PoolOk ns S' n
theorem Dr.trans {ns : List Int} {n : Nat} {a b c : Store} (h : Dr ns n a b) (k : Dr ns n b c) : Dr ns n a c := ⟨h.fr.trans k.fr, k.ok⟩
theorem draw {ns : List Int} {S : Store} {n : Nat} (h : PoolOk ns S n) {sz : Int} (hs : 0 < sz) (hs2 : sz < 2 ^ 200) : ∃ v S', f__law_draw [.loc n, .int sz] S = .ret (.int v) S' ∧ 0 ≤ v ∧ v < sz ∧ Dr ns n S S' := by
  obtain ⟨a, b, c, d, e, h1, h2⟩ := h
  obtain ⟨v, a', b', c', d', e1, e2, e3, e4, e5⟩ := draw_spec h1 hs hs2 h2
  exact ⟨v, _, e1, e2, e3, fr_set _ _ _ (pool_low ..), a', b', c', d', e, List.getElem?_set_self (List.getElem?_eq_some_iff.mp h1).1, e4, e5⟩
/-- a list that is drawn -/
theorem comp_draw {ns : List Int} {n : Nat} {vs : List Nat} {tg : MG} {te : ME} {env : DL.Env} {Rv : Int → Prop} : ∀ (ds : List D) (S : Store), PoolOk ns S n →
    (∀ d ∈ ds, ∃ env1, tg d (wipeE env vs) = some env1 ∧ ∀ S, PoolOk ns S n → ∃ v S', te env1 S = .ok (.int v, S') ∧ Rv v ∧ Dr ns n S S') →
    ∃ (xs : List Int) (S' : Store), compL vs tg mYes te env ds S = .ok (xs.map .int, S') ∧ xs.length = ds.length ∧ (∀ x ∈ xs, Rv x) ∧ Dr ns n S S'
  | [], S, h, _ => ⟨[], S, rfl, rfl, fun x hx => (by cases hx), Fr.refl _ _, h⟩
  | d :: ds, S, h, k => by
    obtain ⟨env1, e1, k1⟩ := k d List.mem_cons_self
    obtain ⟨v, S1, e2, rv, d1⟩ := k1 S h
    obtain ⟨xs, S2, e3, l, r, d2⟩ := comp_draw ds S1 d1.ok fun x hx => k x (List.mem_cons_of_mem _ hx)
    refine ⟨v :: xs, S2, ?_, by simp [l], fun x hx => ?_, d1.trans d2⟩
    · simp only [compL, e1, mYes, Res.bindN, if_true, e2, e3, List.map_cons]
    · cases hx with
      | head => exact rv
      | tail _ hx => exact r x hx
theorem pick4 {v : Int} (h0 : 0 ≤ v) (h1 : v < 4) : ∃ c : Int, atI [D.int 0, D.int 1, D.int 1, D.int 2] v = some (.int c) ∧ 0 ≤ c ∧ c ≤ 2 := by
  have : v = 0 ∨ v = 1 ∨ v = 2 ∨ v = 3 := by omega
  rcases this with rfl | rfl | rfl | rfl
  · exact ⟨0, rfl, by decide, by decide⟩
  · exact ⟨1, rfl, by decide, by decide⟩
  · exact ⟨1, rfl, by decide, by decide⟩
  · exact ⟨2, rfl, by decide, by decide⟩
theorem pick5 {v : Int} (h0 : 0 ≤ v) (h1 : v < 5) : ∃ c : Int, atI [D.int 0, D.int 1, D.int 1, D.int 2, D.int 2] v = some (.int c) ∧ 0 ≤ c ∧ c ≤ 2 := by
  have : v = 0 ∨ v = 1 ∨ v = 2 ∨ v = 3 ∨ v = 4 := by omega
  rcases this with rfl | rfl | rfl | rfl | rfl
  · exact ⟨0, rfl, by decide, by decide⟩
  · exact ⟨1, rfl, by decide, by decide⟩
  · exact ⟨1, rfl, by decide, by decide⟩
  · exact ⟨2, rfl, by decide, by decide⟩
  · exact ⟨2, rfl, by decide, by decide⟩
/-- a move -/
structure Mv where
  l : Int
  ks : List Int
  b : Int
def Mv.d (m : Mv) : D := .tup [.int m.l, .tup (m.ks.map .int), .int m.b]
structure MvOk (L B : Int) (m : Mv) : Prop where
  l : 0 ≤ m.l ∧ m.l < L
  ks : ∀ k ∈ m.ks, 0 ≤ k ∧ k < B
  few : m.ks.length ≤ 2
  b : 0 ≤ m.b ∧ m.b < B
abbrev iv (x : Int) : Option Sl := some (.val (.int x))
theorem small_rng {c : Int} (h0 : 0 ≤ c) (h1 : c < 1000) : -(2 ^ 62 : Int) ≤ c ∧ c < 2 ^ 62 := by constructor <;> omega
theorem machine_loop {ns : List Int} {n : Nat} {L B M : Int} (hL : 0 < L ∧ L < 1000) (hB : 0 < B ∧ B < 1000) : ∀ (ds : List D) (S : Store) (ms : List Mv) (x5 x7 x8 : Option Sl), PoolOk ns S n → ms.length + ds.length ≤ 1000 →
    ∃ (ms' : List Mv) (S' : Store) (y5 y7 y8 : Option Sl), forL (mgN 5) (mSeq (mAsg (mIx (mLV (mTup (mCons (mC (.int 0)) (mCons (mC (.int 1)) (mCons (mC (.int 1)) (mCons (mC (.int 2)) mNil)))))) (mCall f__law_draw (mCons (mV 0) (mCons (mC (.int 4)) mNil)))) (mgN 7))
  (mSeq (mAsg (mB1 fTup (mLV (mF (mComp [10] (miR1 (mV 7)) (mgN 10) mYes (mCall f__law_draw (mCons (mV 0) (mCons (mV 2) mNil))))))) (mgN 8))
  (mSeq (mDropX (mMeth fAppend (mLO 4) (mCons (mTup (mCons (mCall f__law_draw (mCons (mV 0) (mCons (mV 1) mNil))) (mCons (mV 8) (mCons (mCall f__law_draw (mCons (mV 0) (mCons (mV 2) mNil))) mNil)))) mNil)))
  mNext))) ds [some (.val (.loc n)), iv L, iv B, iv M, some (.own (ms.map Mv.d)), x5, none, x7, x8, none, none] S =
      .nx [some (.val (.loc n)), iv L, iv B, iv M, some (.own ((ms ++ ms').map Mv.d)), y5, none, y7, y8, none, none] S' ∧ ms'.length = ds.length ∧ (∀ m ∈ ms', MvOk L B m) ∧ Dr ns n S S'
  | [], S, ms, x5, x7, x8, h, _ => ⟨[], S, x5, x7, x8, by simp [forL], rfl, fun m hm => (by cases hm), Fr.refl _ _, h⟩
  | d :: ds, S, ms, x5, x7, x8, h, hl => by
    rw [List.length_cons] at hl
    obtain ⟨v1, S1, e1, a1, b1, d1⟩ := draw h (sz := 4) (by decide) (by decide)
    obtain ⟨c, ec, c0, c2⟩ := pick4 a1 b1
    obtain ⟨ks, S2, e2, l2, r2, d2⟩ := comp_draw (Rv := fun k => 0 ≤ k ∧ k < B) (vs := [10]) (tg := mgN 10) (te := mCall f__law_draw (mCons (mV 0) (mCons (mV 2) mNil))) (env := [some (.val (.loc n)), iv L, iv B, iv M, some (.own (ms.map Mv.d)), some (.val d), none, iv c, x8, none, none]) (rng 0 c.toNat) S1 d1.ok
      (fun x hx => ⟨_, rfl, fun S h => by
        obtain ⟨v, S', e, p, q, r⟩ := draw h hB.1 (by omega)
        refine ⟨v, S', ?_, ⟨p, q⟩, r⟩
        simp only [mSeq, mIfS, mSlO, mPS, mPN, miRev, miEnumT, itemsOf, SZ, mComp, noOwn, wipeE, mYes, Res.bindN, List.all_cons, List.all_nil, Bool.and_true, Bool.true_and, compL, miR1, mAndT, mOrT, mNotT, mCmpT, mCmp, mChain, mChainT, mIx, mLV, mLO, mV, mC, mB1, mAsg, mAsgX, mgN, mgT, mgCons, mgNil, mSub, mOp, mE1, mRet, mRetN, mRetX, mRetV, mRetO, mNext, mNever, mTru, mDropX, mDrop, mMeth, mMeth0, fAppend, fPop, mExt, mSetO, mFrz, mLocz, mF, mNew, mLst, mTup, mCons, mNil, mList, mCat, Res.bind, Res.go, startE, ctL, ctOf, ixC, atI_0, atI_1, atI_2, atI_3, atI_4, atI_5, atI_6, ixN_0, ixN_1, ixN_2, ixN_3, ixN_4, ixN_5, cLe, cLt, cGe, cGt, fAdd, fSub, fMul, fMod, fDiv, fPow, fInt, fLen, fTup, getM, putM, truth, outF0, mFn0, mCall, mCallO, itemsOf, mFor, miV, walkD, mFld, fldD, mAnd, mOr, mNot, mIf, List.map_cons, List.map_nil, List.cons_append, List.nil_append, List.length_cons, List.length_nil, List.length_map, List.replicate_succ, List.replicate_zero, List.set_cons_zero, List.set_cons_succ, List.getElem?_cons_zero, List.getElem?_cons_succ, List.getElem?_nil, List.set_set, Option.bind_some, Option.bind_none, Option.map_some, Option.map_none, if_true, if_false, decide_true, decide_false, Bool.false_eq_true, reduceIte, reduceCtorEq, Nat.reduceAdd, Nat.reduceSub, Nat.zero_add, Nat.reduceLeDiff, Nat.reduceLT, Nat.reduceSucc, e]⟩)
    obtain ⟨v3, S3, e3, a3, b3, d3⟩ := draw d2.ok hL.1 (by omega)
    obtain ⟨v4, S4, e4, a4, b4, d4⟩ := draw d3.ok hB.1 (by omega)
    have hk : ks.length ≤ 2 := by rw [l2, rng_len]; omega
    obtain ⟨ms', S', y5, y7, y8, e5, l5, r5, d5⟩ := machine_loop (M := M) hL hB ds S4 (ms ++ [⟨v3, ks, v4⟩]) (some (.val d)) (iv c) (some (.val (.tup (ks.map .int)))) d4.ok (by rw [List.length_append, List.length_singleton]; omega)
    refine ⟨⟨v3, ks, v4⟩ :: ms', S', y5, y7, y8, ?_, by simp [l5], fun m hm => ?_, (d1.trans d2).trans ((d3.trans d4).trans d5)⟩
    · have t1 := small_rng c0 (by omega)
      have t2 : (rng 0 c.toNat).length ≤ 16777216 := by rw [rng_len]; omega
      have t3 : ks.length ≤ 16777216 := by omega
      have t4 : ms.length < 16777216 := by omega
      rw [forL]
      simp only [mSeq, mIfS, mSlO, mPS, mPN, miRev, miEnumT, itemsOf, SZ, mComp, noOwn, wipeE, mYes, Res.bindN, List.all_cons, List.all_nil, Bool.and_true, Bool.true_and, compL, miR1, mAndT, mOrT, mNotT, mCmpT, mCmp, mChain, mChainT, mIx, mLV, mLO, mV, mC, mB1, mAsg, mAsgX, mgN, mgT, mgCons, mgNil, mSub, mOp, mE1, mRet, mRetN, mRetX, mRetV, mRetO, mNext, mNever, mTru, mDropX, mDrop, mMeth, mMeth0, fAppend, fPop, mExt, mSetO, mFrz, mLocz, mF, mNew, mLst, mTup, mCons, mNil, mList, mCat, Res.bind, Res.go, startE, ctL, ctOf, ixC, atI_0, atI_1, atI_2, atI_3, atI_4, atI_5, atI_6, ixN_0, ixN_1, ixN_2, ixN_3, ixN_4, ixN_5, cLe, cLt, cGe, cGt, fAdd, fSub, fMul, fMod, fDiv, fPow, fInt, fLen, fTup, getM, putM, truth, outF0, mFn0, mCall, mCallO, itemsOf, mFor, miV, walkD, mFld, fldD, mAnd, mOr, mNot, mIf, List.map_cons, List.map_nil, List.cons_append, List.nil_append, List.length_cons, List.length_nil, List.length_map, List.replicate_succ, List.replicate_zero, List.set_cons_zero, List.set_cons_succ, List.getElem?_cons_zero, List.getElem?_cons_succ, List.getElem?_nil, List.set_set, Option.bind_some, Option.bind_none, Option.map_some, Option.map_none, if_true, if_false, decide_true, decide_false, Bool.false_eq_true, reduceIte, reduceCtorEq, Nat.reduceAdd, Nat.reduceSub, Nat.zero_add, Nat.reduceLeDiff, Nat.reduceLT, Nat.reduceSucc, e1, ec, t1, t2, e2, e3, e4, t3, t4, and_self]
      simp only [List.map_append, List.map_cons, List.map_nil, Mv.d, List.append_assoc, List.cons_append, List.nil_append] at e5 ⊢
      exact e5
    · cases hm with
      | head => exact ⟨⟨a3, b3⟩, r2, hk, ⟨a4, b4⟩⟩
      | tail _ hm => exact r5 m hm
/-- a list that is picked out of another -/
theorem comp_pick {ns : List Int} {n : Nat} {vs : List Nat} {tg : MG} {tt : MT} {te : ME} {env : DL.Env} : ∀ (ds : List D) (S : Store), PoolOk ns S n →
    (∀ d ∈ ds, ∃ env1, tg d (wipeE env vs) = some env1 ∧ (∀ S, PoolOk ns S n → ∃ b S', tt env1 S = .ok (b, S') ∧ Dr ns n S S') ∧ ∀ S, te env1 S = .ok (d, S)) →
    ∃ (xs : List D) (S' : Store), compL vs tg tt te env ds S = .ok (xs, S') ∧ xs.length ≤ ds.length ∧ (∀ x ∈ xs, x ∈ ds) ∧ Dr ns n S S'
  | [], S, h, _ => ⟨[], S, rfl, Nat.le_refl _, fun x hx => hx, Fr.refl _ _, h⟩
  | d :: ds, S, h, k => by
    obtain ⟨env1, e1, k1, k2⟩ := k d List.mem_cons_self
    obtain ⟨b, S1, e2, d1⟩ := k1 S h
    obtain ⟨xs, S2, e3, l, r, d2⟩ := comp_pick ds S1 d1.ok fun x hx => k x (List.mem_cons_of_mem _ hx)
    cases b with
    | true =>
      refine ⟨d :: xs, S2, ?_, by simp [l], fun x hx => ?_, d1.trans d2⟩
      · simp only [compL, e1, Res.bindN, if_true, e2, e3, k2]
      · cases hx with
        | head => exact List.mem_cons_self
        | tail _ hx => exact List.mem_cons_of_mem _ (r x hx)
    | false =>
      refine ⟨xs, S2, ?_, by simp; omega, fun x hx => List.mem_cons_of_mem _ (r x hx), d1.trans d2⟩
      simp only [compL, e1, Res.bindN, e2, e3, Bool.false_eq_true, if_false]
structure Mach where
  L : Int
  B : Int
  ms : List Mv
  es : List Int
def Mach.d (m : Mach) : D := .tup [.int m.L, .int m.B, .lst (m.ms.map Mv.d), .lst (m.es.map .int)]
structure MachOk (m : Mach) : Prop where
  L : 0 < m.L ∧ m.L < 1000
  B : 0 < m.B ∧ m.B < 1000
  ms : ∀ x ∈ m.ms, MvOk m.L m.B x
  es : ∀ x ∈ m.es, 0 ≤ x ∧ x < m.B
  many : m.ms.length < 60
  few : m.es.length ≤ m.B.toNat
theorem rng_mem {c x : D} {n : Nat} (h : x ∈ rng 0 n) : ∃ i : Nat, i < n ∧ x = .int (i : Int) := by
  unfold rng at h
  obtain ⟨i, hi, rfl⟩ := List.mem_map.mp h
  exact ⟨i, List.mem_range.mp hi, by rw [Int.zero_add]⟩
theorem ints_of {P : Int → Prop} : ∀ {xs : List D}, (∀ x ∈ xs, ∃ i : Int, P i ∧ x = .int i) → ∃ is : List Int, xs = is.map .int ∧ ∀ i ∈ is, P i
  | [], _ => ⟨[], rfl, fun i hi => (by cases hi)⟩
  | x :: xs, h => by
    obtain ⟨i, p, rfl⟩ := h x List.mem_cons_self
    obtain ⟨is, rfl, q⟩ := ints_of fun y hy => h y (List.mem_cons_of_mem _ hy)
    exact ⟨i :: is, rfl, fun j hj => by
      cases hj with
      | head => exact p
      | tail _ hj => exact q j hj⟩
theorem machine {ns : List Int} {n : Nat} {L B M : Int} {S : Store} (h : PoolOk ns S n) (hL : 0 < L ∧ L < 1000) (hB : 0 < B ∧ B < 1000) (hM : 0 ≤ M ∧ M < 59) :
    ∃ (m : Mach) (S' : Store), f__law_machine [.loc n, .int L, .int B, .int M] S = .ret m.d S' ∧ m.L = L ∧ m.B = B ∧ MachOk m ∧ Dr ns n S S' := by
  obtain ⟨v, S1, e1, a1, b1, d1⟩ := draw h (sz := M + 1) (by omega) (by omega)
  obtain ⟨ms, S2, y5, y7, y8, e2, l2, r2, d2⟩ := machine_loop (M := M) hL hB (rng 0 v.toNat) S1 [] none none none d1.ok (by rw [rng_len, List.length_nil]; omega)
  obtain ⟨xs, S3, e3, l3, r3, d3⟩ := comp_pick (vs := [9]) (tg := mgN 9) (tt := mCmpT cEq (mCall f__law_draw (mCons (mV 0) (mCons (mC (.int 2)) mNil))) (mC (.int 0))) (te := mV 9) (env := [some (.val (.loc n)), iv L, iv B, iv M, some (.own (ms.map Mv.d)), y5, none, y7, y8, none, none]) (rng 0 B.toNat) S2 d2.ok
    (fun x hx => ⟨_, rfl, fun S h => by
      obtain ⟨v, S', e, p, q, r⟩ := draw h (sz := 2) (by decide) (by decide)
      refine ⟨decide (v = 0), S', ?_, r⟩
      have t : cEq (.int v) (.int 0) = some (decide (v = 0)) := by
        unfold cEq
        simp [D.eqk]
      simp only [mSeq, mIfS, mSlO, mPS, mPN, miRev, miEnumT, itemsOf, SZ, mComp, noOwn, wipeE, mYes, Res.bindN, List.all_cons, List.all_nil, Bool.and_true, Bool.true_and, compL, miR1, mAndT, mOrT, mNotT, mCmpT, mCmp, mChain, mChainT, mIx, mLV, mLO, mV, mC, mB1, mAsg, mAsgX, mgN, mgT, mgCons, mgNil, mSub, mOp, mE1, mRet, mRetN, mRetX, mRetV, mRetO, mNext, mNever, mTru, mDropX, mDrop, mMeth, mMeth0, fAppend, fPop, mExt, mSetO, mFrz, mLocz, mF, mNew, mLst, mTup, mCons, mNil, mList, mCat, Res.bind, Res.go, startE, ctL, ctOf, ixC, atI_0, atI_1, atI_2, atI_3, atI_4, atI_5, atI_6, ixN_0, ixN_1, ixN_2, ixN_3, ixN_4, ixN_5, cLe, cLt, cGe, cGt, fAdd, fSub, fMul, fMod, fDiv, fPow, fInt, fLen, fTup, getM, putM, truth, outF0, mFn0, mCall, mCallO, itemsOf, mFor, miV, walkD, mFld, fldD, mAnd, mOr, mNot, mIf, List.map_cons, List.map_nil, List.cons_append, List.nil_append, List.length_cons, List.length_nil, List.length_map, List.replicate_succ, List.replicate_zero, List.set_cons_zero, List.set_cons_succ, List.getElem?_cons_zero, List.getElem?_cons_succ, List.getElem?_nil, List.set_set, Option.bind_some, Option.bind_none, Option.map_some, Option.map_none, if_true, if_false, decide_true, decide_false, Bool.false_eq_true, reduceIte, reduceCtorEq, Nat.reduceAdd, Nat.reduceSub, Nat.zero_add, Nat.reduceLeDiff, Nat.reduceLT, Nat.reduceSucc, e, t], fun S => by simp only [mSeq, mIfS, mSlO, mPS, mPN, miRev, miEnumT, itemsOf, SZ, mComp, noOwn, wipeE, mYes, Res.bindN, List.all_cons, List.all_nil, Bool.and_true, Bool.true_and, compL, miR1, mAndT, mOrT, mNotT, mCmpT, mCmp, mChain, mChainT, mIx, mLV, mLO, mV, mC, mB1, mAsg, mAsgX, mgN, mgT, mgCons, mgNil, mSub, mOp, mE1, mRet, mRetN, mRetX, mRetV, mRetO, mNext, mNever, mTru, mDropX, mDrop, mMeth, mMeth0, fAppend, fPop, mExt, mSetO, mFrz, mLocz, mF, mNew, mLst, mTup, mCons, mNil, mList, mCat, Res.bind, Res.go, startE, ctL, ctOf, ixC, atI_0, atI_1, atI_2, atI_3, atI_4, atI_5, atI_6, ixN_0, ixN_1, ixN_2, ixN_3, ixN_4, ixN_5, cLe, cLt, cGe, cGt, fAdd, fSub, fMul, fMod, fDiv, fPow, fInt, fLen, fTup, getM, putM, truth, outF0, mFn0, mCall, mCallO, itemsOf, mFor, miV, walkD, mFld, fldD, mAnd, mOr, mNot, mIf, List.map_cons, List.map_nil, List.cons_append, List.nil_append, List.length_cons, List.length_nil, List.length_map, List.replicate_succ, List.replicate_zero, List.set_cons_zero, List.set_cons_succ, List.getElem?_cons_zero, List.getElem?_cons_succ, List.getElem?_nil, List.set_set, Option.bind_some, Option.bind_none, Option.map_some, Option.map_none, if_true, if_false, decide_true, decide_false, Bool.false_eq_true, reduceIte, reduceCtorEq, Nat.reduceAdd, Nat.reduceSub, Nat.zero_add, Nat.reduceLeDiff, Nat.reduceLT, Nat.reduceSucc]⟩)
  obtain ⟨es, rfl, re⟩ := ints_of (P := fun i => 0 ≤ i ∧ i < B) (xs := xs) fun x hx => by
    obtain ⟨i, hi, e⟩ := rng_mem (c := x) (r3 x hx)
    exact ⟨i, ⟨by omega, by omega⟩, e⟩
  rw [rng_len] at l2 l3
  rw [List.length_map] at l3
  refine ⟨⟨L, B, ms, es⟩, S3, ?_, rfl, rfl, ⟨hL, hB, r2, re, by rw [l2]; omega, l3⟩, d1.trans (d2.trans d3)⟩
  have t1 := small_rng a1 (by omega)
  have t2 : -(2 ^ 62 : Int) ≤ B ∧ B < 2 ^ 62 := small_rng (by omega) hB.2
  have t3 : (rng 0 B.toNat).length ≤ 16777216 := by rw [rng_len]; omega
  unfold f__law_machine mFn0 N__law_machine m__law_machine
  rw [List.map_nil, List.nil_append] at e2
  simp only [mSeq, mIfS, mSlO, mPS, mPN, miRev, miEnumT, itemsOf, SZ, mComp, noOwn, wipeE, mYes, Res.bindN, List.all_cons, List.all_nil, Bool.and_true, Bool.true_and, compL, miR1, mAndT, mOrT, mNotT, mCmpT, mCmp, mChain, mChainT, mIx, mLV, mLO, mV, mC, mB1, mAsg, mAsgX, mgN, mgT, mgCons, mgNil, mSub, mOp, mE1, mRet, mRetN, mRetX, mRetV, mRetO, mNext, mNever, mTru, mDropX, mDrop, mMeth, mMeth0, fAppend, fPop, mExt, mSetO, mFrz, mLocz, mF, mNew, mLst, mTup, mCons, mNil, mList, mCat, Res.bind, Res.go, startE, ctL, ctOf, ixC, atI_0, atI_1, atI_2, atI_3, atI_4, atI_5, atI_6, ixN_0, ixN_1, ixN_2, ixN_3, ixN_4, ixN_5, cLe, cLt, cGe, cGt, fAdd, fSub, fMul, fMod, fDiv, fPow, fInt, fLen, fTup, getM, putM, truth, outF0, mFn0, mCall, mCallO, itemsOf, mFor, miV, walkD, mFld, fldD, mAnd, mOr, mNot, mIf, List.map_cons, List.map_nil, List.cons_append, List.nil_append, List.length_cons, List.length_nil, List.length_map, List.replicate_succ, List.replicate_zero, List.set_cons_zero, List.set_cons_succ, List.getElem?_cons_zero, List.getElem?_cons_succ, List.getElem?_nil, List.set_set, Option.bind_some, Option.bind_none, Option.map_some, Option.map_none, if_true, if_false, decide_true, decide_false, Bool.false_eq_true, reduceIte, reduceCtorEq, Nat.reduceAdd, Nat.reduceSub, Nat.zero_add, Nat.reduceLeDiff, Nat.reduceLT, Nat.reduceSucc, e1, t1, t2, t3, e2, e3, and_self, Mach.d]
end K10

set_option linter.all false
set_option maxRecDepth 100000
set_option maxHeartbeats 4000000
set_option autoImplicit false
namespace K10
open PySem PySem.Spec L2 DL

theorem ctOf_lst (S : Store) (ds : List D) : ctOf S (.lst ds) = some (.l ds) := rfl
theorem ctOf_tup (S : Store) (ds : List D) : ctOf S (.tup ds) = some (.t ds) := rfl
theorem ctOf_loc (S : Store) (n : Nat) : ctOf S (.loc n) = match S[n]? with
  | some (.lst ds) => some (.l ds)
  | _ => none := rfl
theorem ixC_l (ds : List D) (i : Int) : ixC (.l ds) i = atI ds i := rfl
theorem ixC_t (ds : List D) (i : Int) : ixC (.t ds) i = atI ds i := rfl
theorem cEq_int (a b : Int) : cEq (.int a) (.int b) = some (decide (a = b)) := by
  unfold cEq
  simp [D.eqk]
theorem eqks_ints (n : Nat) : ∀ ks : List Int, D.eqks n (ks.map .int) = true
  | [] => rfl
  | k :: ks => by
    rw [List.map_cons, D.eqks, eqks_ints n ks]
    cases n <;> rfl
theorem eqk_mv (n : Nat) (l b : Int) (ks : List Int) : D.eqk (n + 2) (.tup [.int l, .tup (ks.map .int), .int b]) = true := by
  simp [D.eqk, D.eqks, eqks_ints]
theorem eqks_mvs (n : Nat) : ∀ ms : List Mv, D.eqks (n + 2) (ms.map Mv.d) = true
  | [] => rfl
  | m :: ms => by
    rw [List.map_cons, D.eqks, eqks_mvs n ms]
    simp [Mv.d, eqk_mv]
theorem inCt_l {ds : List D} {x : D} (h1 : x.eqk 64 = true) (h2 : D.eqks 63 ds = true) : inCt (.l ds) x = some (decide (x ∈ ds)) := by
  show (if x.eqk 64 = true ∧ D.eqks 63 ds = true then some (decide (x ∈ ds)) else none) = _
  rw [if_pos ⟨h1, h2⟩]
theorem inCt_t {ds : List D} {x : D} (h1 : x.eqk 64 = true) (h2 : D.eqks 63 ds = true) : inCt (.t ds) x = some (decide (x ∈ ds)) := by
  show (if x.eqk 64 = true ∧ D.eqks 63 ds = true then some (decide (x ∈ ds)) else none) = _
  rw [if_pos ⟨h1, h2⟩]
def lb (ls : List Int) (k : Int) : Int := (atI ls k).getD 0
theorem atI_map {α β : Type} (f : α → β) (xs : List α) (k : Int) : atI (xs.map f) k = (atI xs k).map f := by
  unfold atI
  rw [List.length_map]
  cases ixN xs.length k with
  | none => rfl
  | some j => simp
theorem lb_at {ls : List Int} {k : Int} (h : -(ls.length : Int) ≤ k ∧ k < ls.length) : atI (ls.map D.int) k = some (.int (lb ls k)) := by
  rw [atI_map]
  unfold lb
  have : ∃ z, atI ls k = some z := by
    unfold atI ixN
    by_cases h0 : 0 ≤ k
    · rw [if_pos h0, if_pos h.2]
      exact ⟨ls[k.toNat]'(by omega), by simp⟩
    · rw [if_neg h0, if_pos h.1]
      exact ⟨ls[(k + ls.length).toNat]'(by omega), by simp⟩
  obtain ⟨z, e⟩ := this
  rw [e]
  rfl
theorem rng_ints (n : Nat) : rng 0 n = (List.range n).map fun i : Nat => D.int (i : Int) := by
  unfold rng
  apply List.map_congr_left
  intro i _
  rw [Int.zero_add]
theorem len_ok {m : ML} {env : DL.Env} {S S1 : Store} {k : Lk} {ds : List D} (h : m env S = .ok (k, S1)) (hc : ctL env S1 k = some (.l ds)) : mB1 fLen m env S = .ok (.int (ds.length : Int), S1) := by
  unfold mB1
  rw [h]
  dsimp only [Res.bind]
  rw [hc]
  rfl
theorem r1_at {m : ME} {env : DL.Env} {S S1 : Store} {j : Int} (h : m env S = .ok (.int j, S1)) (h0 : 0 ≤ j) (h1 : j < 10000) : miR1 m env S = .ok (rng 0 j.toNat, S1) := by
  have t : -(2 ^ 62 : Int) ≤ j ∧ j < 2 ^ 62 := by constructor <;> omega
  unfold miR1
  rw [h]
  dsimp only [Res.bind]
  rw [if_pos t]
theorem for_at {mi : MI} {mg : MG} {mb : MS} {env : DL.Env} {S S1 : Store} {ds : List D} (h : mi env S = .ok (ds, S1)) : mFor mi mg mb env S = forL mg mb ds env S1 := by
  unfold mFor
  rw [h]
  rfl
theorem seq_nx {m n : MS} {env env1 : DL.Env} {S S1 : Store} {o : Out} (h : m env S = .nx env1 S1) (k : n env1 S1 = o) : mSeq m n env S = o := by
  unfold mSeq
  rw [h]
  exact k
theorem fn_end {N : List Str} {m : MS} {ds : List D} {S : Store} {o : Out} {r : FRes} (h : m (startE N ds) S = o) (k : outF0 o = r) : mFn0 N m ds S = r := by
  unfold mFn0
  rw [h, k]
def Mach.o (m : Mach) : D := .ins 0 ["letters", "labels", "moves", "ends"] [.int m.L, .int m.B, .tup (sortD (m.ms.map Mv.d)), .tup (sortD (m.es.map .int))]
theorem mem_sortD {x : D} {ds : List D} : x ∈ sortD ds ↔ x ∈ ds := by
  unfold sortD
  rw [List.mem_mergeSort, mem_dd]
theorem eqks_sortD {n : Nat} {ds : List D} (h : D.eqks n ds = true) : D.eqks n (sortD ds) = true := by
  rw [D.eqks_all, List.all_eq_true] at h ⊢
  exact fun x hx => h x (mem_sortD.mp hx)
theorem fld_moves (S : Store) (m : Mach) : fldD 0 "moves" S m.o = some (.tup (sortD (m.ms.map Mv.d))) := rfl
theorem fld_ends (S : Store) (m : Mach) : fldD 0 "ends" S m.o = some (.tup (sortD (m.es.map .int))) := rfl
theorem fld_letters (S : Store) (m : Mach) : fldD 0 "letters" S m.o = some (.int m.L) := rfl
theorem fld_labels (S : Store) (m : Mach) : fldD 0 "labels" S m.o = some (.int m.B) := rfl
theorem cut_from {α : Type} (xs : List α) (k : Nat) : cut xs (some (k : Int)) none = xs.drop k := by
  unfold cut
  rw [HT.sIx_nat, HT.sIx_none]
  by_cases h : k ≤ xs.length
  · rw [Nat.min_eq_left h, List.take_of_length_le (by simp)]
  · rw [Nat.min_eq_right (by omega)]
    simp
    omega
theorem cut_to {α : Type} (xs : List α) (k : Nat) : cut xs none (some (k : Int)) = xs.take k := by
  unfold cut
  rw [HT.sIx_nat, HT.sIx_none]
  simp
theorem cut_1 {α : Type} (xs : List α) : cut xs (some 1) none = xs.drop 1 := cut_from xs 1
instance : DecidableEq Mv := fun a b => if h : a.l = b.l ∧ a.ks = b.ks ∧ a.b = b.b then .isTrue (by cases a; cases b; simp at h; simp [h]) else .isFalse fun e => h (by subst e; exact ⟨rfl, rfl, rfl⟩)
theorem ints_inj : ∀ {a b : List Int}, a.map D.int = b.map D.int → a = b
  | [], [], _ => rfl
  | [], _ :: _, h => by cases h
  | _ :: _, [], h => by cases h
  | x :: a, y :: b, h => by
    rw [List.map_cons, List.map_cons] at h
    injection h with h1 h2
    injection h1 with h1
    rw [h1, ints_inj h2]
theorem mv_inj {a b : Mv} (h : a.d = b.d) : a = b := by
  cases a; cases b
  simp only [Mv.d, D.tup.injEq, List.cons.injEq, D.int.injEq, and_true] at h
  obtain ⟨h1, h2, h3⟩ := h
  rw [h1, ints_inj h2, h3]
theorem sortD_nodup (ds : List D) : (sortD ds).Nodup := (List.mergeSort_perm _ _).nodup_iff.mpr (dd_nodup ds)
theorem of_maps {α : Type} {f : α → D} {as : List α} : ∀ {l : List D}, (∀ x ∈ l, x ∈ as.map f) → ∃ ns : List α, l = ns.map f ∧ ∀ x ∈ ns, x ∈ as
  | [], _ => ⟨[], rfl, fun x hx => by cases hx⟩
  | x :: l, h => by
    obtain ⟨a, ha, rfl⟩ := List.mem_map.mp (h x List.mem_cons_self)
    obtain ⟨ns, rfl, hn⟩ := of_maps (l := l) fun y hy => h y (List.mem_cons_of_mem _ hy)
    exact ⟨a :: ns, rfl, fun y hy => by
      cases hy with
      | head => exact ha
      | tail _ hy => exact hn y hy⟩
theorem srt_ex (ms : List Mv) : ∃ ns : List Mv, sortD (ms.map Mv.d) = ns.map Mv.d ∧ ns.Nodup ∧ ∀ x, x ∈ ns ↔ x ∈ ms := by
  obtain ⟨ns, e, h⟩ := of_maps (f := Mv.d) (as := ms) (l := sortD (ms.map Mv.d)) fun x hx => mem_sortD.mp hx
  refine ⟨ns, e, ?_, fun x => ⟨h x, fun hx => ?_⟩⟩
  · have := sortD_nodup (ms.map Mv.d)
    rw [e] at this
    exact (List.pairwise_map.mp this).imp fun h e => h (congrArg Mv.d e)
  · have : x.d ∈ sortD (ms.map Mv.d) := mem_sortD.mpr (List.mem_map.mpr ⟨x, hx, rfl⟩)
    rw [e] at this
    obtain ⟨y, hy, ey⟩ := List.mem_map.mp this
    rw [← mv_inj ey]
    exact hy
noncomputable def srt (ms : List Mv) : List Mv := Classical.choose (srt_ex ms)
theorem srt_eq (ms : List Mv) : sortD (ms.map Mv.d) = (srt ms).map Mv.d := (Classical.choose_spec (srt_ex ms)).1
theorem srt_nodup (ms : List Mv) : (srt ms).Nodup := (Classical.choose_spec (srt_ex ms)).2.1
theorem mem_srt {ms : List Mv} {x : Mv} : x ∈ srt ms ↔ x ∈ ms := (Classical.choose_spec (srt_ex ms)).2.2 x
theorem srt_len (ms : List Mv) : (srt ms).length ≤ ms.length := by
  have h : ∀ ds : List D, (dd ds).length ≤ ds.length := fun ds => by
    induction ds with
    | nil => exact Nat.le_refl _
    | cons d ds ih =>
      rw [dd]
      split
      · simp; omega
      · simp; omega
  have e := congrArg List.length (srt_eq ms)
  rw [List.length_map, sortD, (List.mergeSort_perm _ _).length_eq] at e
  have := h (ms.map Mv.d)
  rw [List.length_map] at this
  omega
theorem mem_mvs {ms : List Mv} {x : Mv} : x.d ∈ ms.map Mv.d ↔ x ∈ ms := ⟨fun h => by
  obtain ⟨y, hy, e⟩ := List.mem_map.mp h
  rw [← mv_inj e]
  exact hy, fun h => List.mem_map.mpr ⟨x, h, rfl⟩⟩
theorem mem_dints {es : List Int} {x : Int} : D.int x ∈ es.map D.int ↔ x ∈ es := ⟨fun h => by
  obtain ⟨y, hy, e⟩ := List.mem_map.mp h
  injection e with e
  rw [← e]
  exact hy, fun h => List.mem_map.mpr ⟨x, h, rfl⟩⟩
theorem comp_pure {vs : List Nat} {tg : MG} {te : ME} {env : DL.Env} {S : Store} (f : D → D) : ∀ ds : List D, (∀ d ∈ ds, ∃ env1, tg d (wipeE env vs) = some env1 ∧ te env1 S = .ok (f d, S)) → compL vs tg mYes te env ds S = .ok (ds.map f, S)
  | [], _ => rfl
  | d :: ds, k => by
    obtain ⟨env1, e1, e2⟩ := k d List.mem_cons_self
    have e3 := comp_pure f ds fun x hx => k x (List.mem_cons_of_mem _ hx)
    simp only [compL, e1, mYes, Res.bindN, if_true, e2, e3, List.map_cons]
theorem comp_filt {vs : List Nat} {tg : MG} {tt : MT} {te : ME} {env : DL.Env} {S : Store} (b : D → Bool) (f : D → D) : ∀ ds : List D, (∀ d ∈ ds, ∃ env1, tg d (wipeE env vs) = some env1 ∧ tt env1 S = .ok (b d, S) ∧ te env1 S = .ok (f d, S)) → compL vs tg tt te env ds S = .ok ((ds.filter b).map f, S)
  | [], _ => rfl
  | d :: ds, k => by
    obtain ⟨env1, e1, e2, e2'⟩ := k d List.mem_cons_self
    have e3 := comp_filt b f ds fun x hx => k x (List.mem_cons_of_mem _ hx)
    cases hb : b d with
    | true => simp only [compL, e1, Res.bindN, if_true, e2, e2', hb, e3, List.map_cons, List.filter_cons_of_pos hb]
    | false =>
      rw [List.filter_cons_of_neg (by simp [hb])]
      simp only [compL, e1, Res.bindN, e2, hb, e3, Bool.false_eq_true, if_false]
end K10

set_option linter.all false
set_option maxRecDepth 100000
set_option maxHeartbeats 4000000
set_option autoImplicit false
namespace K10
open PySem PySem.Spec L2 DL PySem.W
theorem alikeAll_ints : ∀ a b : List Int, alikeAll (D.pys (a.map .int)) (D.pys (b.map .int)) = true
  | [], [] => rfl
  | [], _ :: _ => rfl
  | _ :: _, [] => rfl
  | x :: a, y :: b => by
    show alikeAll (.int x :: D.pys (a.map .int)) (.int y :: D.pys (b.map .int)) = true
    simp [alikeAll, alike, alikeAll_ints a b]
theorem alike_mv (x y : Mv) : alike x.d.py y.d.py = true := by
  simp [Mv.d, D.py, D.pys, alike, alikeAll, alikeAll_ints]
theorem nums_ints (n : Nat) : ∀ ks : List Int, D.nums n (ks.map .int) = true
  | [] => rfl
  | k :: ks => by
    rw [List.map_cons, D.nums, nums_ints n ks]
    cases n <;> rfl
theorem num_mv (x : Mv) : D.num 8 x.d = true := by
  simp [Mv.d, D.num, D.nums, nums_ints]
theorem setOk_mvs {ms : List Mv} (h : ms.length < 60) : setOk (ms.map Mv.d) = true := by
  unfold setOk
  have h1 : (ms.map Mv.d).all (D.num 8) = true := by
    rw [List.all_eq_true]
    intro d hd
    obtain ⟨x, _, rfl⟩ := List.mem_map.mp hd
    exact num_mv x
  have h3 : ((ms.map Mv.d).all fun d => (ms.map Mv.d).all fun e => alike d.py e.py) = true := by
    rw [List.all_eq_true]
    intro d hd
    rw [List.all_eq_true]
    intro e he
    obtain ⟨x, _, rfl⟩ := List.mem_map.mp hd
    obtain ⟨y, _, rfl⟩ := List.mem_map.mp he
    exact alike_mv x y
  simp only [Bool.and_eq_true, Bool.or_eq_true, decide_eq_true_eq]
  refine ⟨by simpa using h, .inr ⟨⟨h1, ?_⟩, h3⟩⟩
  rw [List.all_eq_true]
  intro d hd
  obtain ⟨x, _, rfl⟩ := List.mem_map.mp hd
  rfl
theorem setOk_ints {ns : List Int} (h : ns.length < 60) : setOk (ns.map .int) = true := by
  unfold setOk
  simp [h]
theorem dBls_trues {α : Type} : ∀ ds : List α, dBls (ds.map fun _ => D.bl true) = some (ds.map fun _ => true)
  | [] => rfl
  | d :: ds => by
    rw [List.map_cons, dBls, dBls_trues ds]
    rfl
theorem fAll_trues {α : Type} (ds : List α) : fAll (.l (ds.map fun _ => D.bl true)) = some (.bl true) := by
  unfold fAll
  dsimp only
  rw [dBls_trues]
  simp
theorem putF_nx {f : Str} {mo me : ME} {env : DL.Env} {S : Store} {n : Nat} {v : D} {ks ks' : List Str} {ds ds' : List D} (hv : me env S = .ok (v, S)) (h0 : mo env S = .ok (.loc n, S)) (hS : S[n]? = some (.ins 0 ks ds)) (hl : ks.length = ds.length ∧ ks.length < 1000) (hk : putK f ks = ks') (hd : putD f v ks ds = ds') :
    mPutF 0 f mo me env S = .nx env (S.set n (.ins 0 ks' ds')) := by
  unfold mPutF
  rw [hv]
  dsimp only [Res.go]
  rw [h0]
  dsimp only [Res.go]
  rw [hS]
  dsimp only
  rw [if_pos ⟨rfl, hl⟩, hk, hd]
end K10

set_option linter.all false
set_option maxRecDepth 100000
set_option maxHeartbeats 4000000
set_option autoImplicit false
namespace K10
open PySem PySem.Spec L2 DL

/-- a slot that owns nothing -/
def nv (y : Option Sl) : Prop := y = none ∨ ∃ d, y = some (.val d)
theorem in_comp {B : Int} {p q : Nat} {env : DL.Env} {S : Store} (hp : ∀ k : Int, ((wipeE env [p]).set p (iv k))[p]? = some (iv k)) (hq : ∀ k : Int, ((wipeE env [p]).set p (iv k))[q]? = some (iv B)) (ks : List Int) (hk : ∀ k ∈ ks, 0 ≤ k ∧ k < B) :
    compL [p] (mgN p) mYes (mChain cLe cLt (mC (.int 0)) (mV p) (mV q)) env (ks.map .int) S = .ok ((ks.map D.int).map fun _ => D.bl true, S) :=
  comp_pure (fun _ => D.bl true) (ks.map .int) fun x hx => by
    obtain ⟨k, hkm, rfl⟩ := List.mem_map.mp hx
    refine ⟨_, rfl, ?_⟩
    have t1 : decide (0 ≤ k) = true := decide_eq_true (hk k hkm).1
    have t2 : decide (k < B) = true := decide_eq_true (hk k hkm).2
    simp only [mChain, mC, mV, Res.bind, cLe, cLt, hp, hq, t1, t2]
theorem init_loop {L B : Int} (S : Store) (x0 x3 x4 : Option Sl) : ∀ (ms : List Mv) (x5 x6 x7 x8 : Option Sl), (∀ m ∈ ms, MvOk L B m) → nv x5 → nv x6 → nv x7 →
    ∃ y5 y6 y7 y8, forL (mgT 3 (mgCons (mgN 5) (mgCons (mgN 6) (mgCons (mgN 7) mgNil)))) (mSeq (mAsg (mB1 fAll (mLV (mF (mComp [9] (miV (mF (mLst (mStar (mLV (mV 6)) (mCons (mV 7) mNil))))) (mgN 9) mYes (mChain cLe cLt (mC (.int 0)) (mV 9) (mV 2)))))) (mgN 8))
  (mSeq (mIfS (mOrT (mNotT (mChainT cLe cLt (mC (.int 0)) (mV 5) (mV 1))) (mOrT (mCmpT cGt (mB1 fLen (mLV (mV 6))) (mC (.int 2))) (mNotT (mTru (mLV (mV 8)))))) mNever mNext)
  mNext)) (ms.map Mv.d) [x0, iv L, iv B, x3, x4, x5, x6, x7, x8, none] S = .nx [x0, iv L, iv B, x3, x4, y5, y6, y7, y8, none] S ∧ nv y5 ∧ nv y6 ∧ nv y7
  | [], x5, x6, x7, x8, _, h5, h6, h7 => ⟨x5, x6, x7, x8, by simp [forL], h5, h6, h7⟩
  | m :: ms, x5, x6, x7, x8, hm, h5, h6, h7 => by
    obtain ⟨l, ks, b⟩ := m
    have ok := hm _ List.mem_cons_self
    obtain ⟨y5, y6, y7, y8, e, n5, n6, n7⟩ := init_loop (L := L) (B := B) S x0 x3 x4 ms (iv l) (some (.val (.tup (ks.map .int)))) (iv b) (some (.val (.bl true))) (fun x hx => hm x (List.mem_cons_of_mem _ hx)) (.inr ⟨_, rfl⟩) (.inr ⟨_, rfl⟩) (.inr ⟨_, rfl⟩)
    refine ⟨y5, y6, y7, y8, ?_, n5, n6, n7⟩
    have few : ks.length ≤ 2 := ok.few
    have c := in_comp (B := B) (p := 9) (q := 2) (env := [x0, iv L, iv B, x3, x4, iv l, some (.val (.tup (ks.map .int))), iv b, x8, none]) (S := S) (fun k => rfl) (fun k => rfl) (ks ++ [b]) fun k hk => (List.mem_append.mp hk).elim (ok.ks k) fun z => by
      rw [List.mem_singleton.mp z]
      exact ok.b
    have fa := fAll_trues ((ks ++ [b]).map D.int)
    rw [List.map_append, List.map_cons, List.map_nil] at c fa
    have t1 : decide (0 ≤ l) = true := decide_eq_true ok.l.1
    have t2 : decide (l < L) = true := decide_eq_true ok.l.2
    have t3 : decide ((2 : Int) < (ks.length : Int)) = false := decide_eq_false (by omega)
    have t4 : (ks.map D.int ++ [D.int b]).length ≤ 16777216 := by simp; omega
    rw [List.map_cons, forL]
    generalize hv : (ks.map D.int ++ [D.int b]).map (fun _ => D.bl true) = bs at c fa
    have st : mAsg (mB1 fAll (mLV (mF (mComp [9] (miV (mF (mLst (mStar (mLV (mV 6)) (mCons (mV 7) mNil))))) (mgN 9) mYes (mChain cLe cLt (mC (.int 0)) (mV 9) (mV 2)))))) (mgN 8) [x0, iv L, iv B, x3, x4, iv l, some (.val (.tup (ks.map .int))), iv b, x8, none] S = .nx [x0, iv L, iv B, x3, x4, iv l, some (.val (.tup (ks.map .int))), iv b, some (.val (.bl true)), none] S := by
      simp only [mSeq, mIfS, mSlO, mPS, mPN, miRev, miEnumT, itemsOf, SZ, mComp, noOwn, wipeE, mYes, Res.bindN, List.all_cons, List.all_nil, Bool.and_true, Bool.true_and, compL, miR1, mAndT, mOrT, mNotT, mCmpT, mCmp, mChain, mChainT, mIx, mLV, mLO, mV, mC, mB1, mAsg, mAsgX, mgN, mgT, mgCons, mgNil, mSub, mOp, mE1, mRet, mRetN, mRetX, mRetV, mRetO, mNext, mNever, mTru, mDropX, mDrop, mMeth, mMeth0, fAppend, fPop, mExt, mSetO, mFrz, mLocz, mF, mNew, mLst, mTup, mCons, mNil, mList, mCat, Res.bind, Res.go, startE, ctL, ctOf_lst, ctOf_tup, ctOf_loc, ixC_l, ixC_t, atI_0, atI_1, atI_2, atI_3, atI_4, atI_5, atI_6, ixN_0, ixN_1, ixN_2, ixN_3, ixN_4, ixN_5, cLe, cLt, cGe, cGt, fAdd, fSub, fMul, fMod, fDiv, fPow, fInt, fLen, fTup, getM, putM, truth, outF0, mFn0, mCall, mCallO, itemsOf, mFor, miV, walkD, mFld, mAnd, mOr, mNot, mIf, List.map_cons, List.map_nil, List.cons_append, List.nil_append, List.length_cons, List.length_nil, List.length_map, List.replicate_succ, List.replicate_zero, List.set_cons_zero, List.set_cons_succ, List.getElem?_cons_zero, List.getElem?_cons_succ, List.getElem?_nil, List.set_set, Option.bind_some, Option.bind_none, Option.map_some, Option.map_none, if_true, if_false, decide_true, decide_false, Bool.false_eq_true, reduceIte, reduceCtorEq, Nat.reduceAdd, Nat.reduceSub, Nat.zero_add, Nat.reduceLeDiff, Nat.reduceLT, Nat.reduceSucc, mStar, walkD, t4, c, fa]
    have st2 : mIfS (mOrT (mNotT (mChainT cLe cLt (mC (.int 0)) (mV 5) (mV 1))) (mOrT (mCmpT cGt (mB1 fLen (mLV (mV 6))) (mC (.int 2))) (mNotT (mTru (mLV (mV 8)))))) mNever mNext [x0, iv L, iv B, x3, x4, iv l, some (.val (.tup (ks.map .int))), iv b, some (.val (.bl true)), none] S = .nx [x0, iv L, iv B, x3, x4, iv l, some (.val (.tup (ks.map .int))), iv b, some (.val (.bl true)), none] S := by
      simp only [mSeq, mIfS, mSlO, mPS, mPN, miRev, miEnumT, itemsOf, SZ, mComp, noOwn, wipeE, mYes, Res.bindN, List.all_cons, List.all_nil, Bool.and_true, Bool.true_and, compL, miR1, mAndT, mOrT, mNotT, mCmpT, mCmp, mChain, mChainT, mIx, mLV, mLO, mV, mC, mB1, mAsg, mAsgX, mgN, mgT, mgCons, mgNil, mSub, mOp, mE1, mRet, mRetN, mRetX, mRetV, mRetO, mNext, mNever, mTru, mDropX, mDrop, mMeth, mMeth0, fAppend, fPop, mExt, mSetO, mFrz, mLocz, mF, mNew, mLst, mTup, mCons, mNil, mList, mCat, Res.bind, Res.go, startE, ctL, ctOf_lst, ctOf_tup, ctOf_loc, ixC_l, ixC_t, atI_0, atI_1, atI_2, atI_3, atI_4, atI_5, atI_6, ixN_0, ixN_1, ixN_2, ixN_3, ixN_4, ixN_5, cLe, cLt, cGe, cGt, fAdd, fSub, fMul, fMod, fDiv, fPow, fInt, fLen, fTup, getM, putM, truth, outF0, mFn0, mCall, mCallO, itemsOf, mFor, miV, walkD, mFld, mAnd, mOr, mNot, mIf, List.map_cons, List.map_nil, List.cons_append, List.nil_append, List.length_cons, List.length_nil, List.length_map, List.replicate_succ, List.replicate_zero, List.set_cons_zero, List.set_cons_succ, List.getElem?_cons_zero, List.getElem?_cons_succ, List.getElem?_nil, List.set_set, Option.bind_some, Option.bind_none, Option.map_some, Option.map_none, if_true, if_false, decide_true, decide_false, Bool.false_eq_true, reduceIte, reduceCtorEq, Nat.reduceAdd, Nat.reduceSub, Nat.zero_add, Nat.reduceLeDiff, Nat.reduceLT, Nat.reduceSucc, t1, t2, t3, Bool.not_true, Bool.not_false]
    have gt : mgT 3 (mgCons (mgN 5) (mgCons (mgN 6) (mgCons (mgN 7) mgNil))) (Mv.d ⟨l, ks, b⟩) [x0, iv L, iv B, x3, x4, x5, x6, x7, x8, none] = some [x0, iv L, iv B, x3, x4, iv l, some (.val (.tup (ks.map .int))), iv b, x8, none] := rfl
    rw [gt]
    dsimp only
    rw [seq_nx st (seq_nx st2 rfl)]
    exact e
theorem comp_at {vs : List Nat} {mi : MI} {tg : MG} {tt : MT} {te : ME} {env : DL.Env} {S S1 S2 : Store} {ds ys : List D} (no : noOwn env vs = true) (h : mi env S = .ok (ds, S1)) (hl : ds.length ≤ 16777216) (c : compL vs tg tt te env ds S1 = .ok (ys, S2)) : mComp vs mi tg tt te env S = .ok (ys, S2) := by
  unfold mComp
  rw [if_pos no, h]
  dsimp only [Res.bind]
  rw [if_pos hl, c]
  rfl
theorem self_comp {p q r : Nat} {env : DL.Env} {S : Store} (ms : List Mv)
    (h : ∀ (l : Int) (ks : List Int) (b : Int), ks.length ≤ 2 → ∃ env1, mgT 3 (mgCons (mgN p) (mgCons (mgN q) (mgCons (mgN r) mgNil))) (Mv.d ⟨l, ks, b⟩) (wipeE env [p, q, r]) = some env1 ∧ mTup (mCons (mV p) (mCons (mB1 fTup (mLV (mV q))) (mCons (mV r) mNil))) env1 S = .ok (Mv.d ⟨l, ks, b⟩, S)) (few : ∀ m ∈ ms, m.ks.length ≤ 2) :
    compL [p, q, r] (mgT 3 (mgCons (mgN p) (mgCons (mgN q) (mgCons (mgN r) mgNil)))) mYes (mTup (mCons (mV p) (mCons (mB1 fTup (mLV (mV q))) (mCons (mV r) mNil)))) env (ms.map Mv.d) S = .ok (ms.map Mv.d, S) := by
  have z := comp_pure (vs := [p, q, r]) (tg := mgT 3 (mgCons (mgN p) (mgCons (mgN q) (mgCons (mgN r) mgNil)))) (te := mTup (mCons (mV p) (mCons (mB1 fTup (mLV (mV q))) (mCons (mV r) mNil)))) (env := env) (S := S) id (ms.map Mv.d) fun x hx => by
    obtain ⟨m, hm, rfl⟩ := List.mem_map.mp hx
    exact h m.l m.ks m.b (few m hm)
  rwa [List.map_id] at z
theorem init {m : Mach} {S : Store} (ok : MachOk m) (hL : m.L ≤ 4) (hB : m.B ≤ 8) :
    f_Machine___init__ [.loc S.length, .int m.L, .int m.B, .lst (m.ms.map Mv.d), .lst (m.es.map .int)] (S ++ [.ins 0 [] []]) = .ret .non (S ++ [.ins 0 ["letters", "labels", "moves", "ends"] [.int m.L, .int m.B, .tup (sortD (m.ms.map Mv.d)), .tup (sortD (m.es.map .int))]]) := by
  obtain ⟨L, B, ms, es⟩ := m
  obtain ⟨okL, okB, okm, oke, many, few⟩ := ok
  dsimp only at *
  obtain ⟨y5, y6, y7, y8, e, n5, n6, n7⟩ := init_loop (L := L) (B := B) (S ++ [.ins 0 [] []]) (some (.val (.loc S.length))) (some (.val (.lst (ms.map Mv.d)))) (some (.val (.lst (es.map .int)))) ms none none none none okm (.inl rfl) (.inl rfl) (.inl rfl)
  have no : noOwn [some (.val (.loc S.length)), iv L, iv B, some (.val (.lst (ms.map Mv.d))), some (.val (.lst (es.map .int))), y5, y6, y7, y8, none] [5, 6, 7] = true := by
    rcases n5 with rfl | ⟨_, rfl⟩ <;> rcases n6 with rfl | ⟨_, rfl⟩ <;> rcases n7 with rfl | ⟨_, rfl⟩ <;> rfl
  have no7 : noOwn [some (.val (.loc S.length)), iv L, iv B, some (.val (.lst (ms.map Mv.d))), some (.val (.lst (es.map .int))), y5, y6, y7, y8, none] [7] = true := by
    rcases n7 with rfl | ⟨_, rfl⟩ <;> rfl
  have c1 := in_comp (B := B) (p := 7) (q := 2) (env := [some (.val (.loc S.length)), iv L, iv B, some (.val (.lst (ms.map Mv.d))), some (.val (.lst (es.map .int))), y5, y6, y7, y8, none]) (S := S ++ [.ins 0 [] []]) (fun k => rfl) (fun k => rfl) es oke
  have fa := fAll_trues (es.map D.int)
  generalize (es.map D.int).map (fun _ => D.bl true) = bs at c1 fa
  have hes : es.length ≤ 8 := by omega
  have t1 : decide (0 < L) = true := decide_eq_true okL.1
  have t2 : decide (L ≤ 4) = true := decide_eq_true hL
  have t3 : decide (0 < B) = true := decide_eq_true okB.1
  have t4 : decide (B ≤ 8) = true := decide_eq_true hB
  have t5 : es.length ≤ 16777216 := by omega
  have t6 : ms.length ≤ 16777216 := by omega
  have s1 := setOk_mvs many
  have s2 := setOk_ints (ns := es) (by omega)
  have at_ : ∀ o : Ob, (S ++ [o])[S.length]? = some o := fun o => by simp
  have set_ : ∀ o o' : Ob, (S ++ [o]).set S.length o' = S ++ [o'] := fun o o' => by simp
  have w1 : mIfS (mNotT (mTru (mLV (mB1 fAll (mLV (mF (mComp [7] (miV (mV 4)) (mgN 7) mYes (mChain cLe cLt (mC (.int 0)) (mV 7) (mV 2))))))))) mNever mNext [some (.val (.loc S.length)), iv L, iv B, some (.val (.lst (ms.map Mv.d))), some (.val (.lst (es.map .int))), y5, y6, y7, y8, none] (S ++ [.ins 0 [] []]) = .nx [some (.val (.loc S.length)), iv L, iv B, some (.val (.lst (ms.map Mv.d))), some (.val (.lst (es.map .int))), y5, y6, y7, y8, none] (S ++ [.ins 0 [] []]) := by
    have z := comp_at (mi := miV (mV 4)) no7 rfl (by simpa using t5) c1
    simp only [mSeq, mIfS, mSlO, mPS, mPN, miRev, miEnumT, itemsOf, SZ, noOwn, wipeE, mYes, Res.bindN, List.all_cons, List.all_nil, Bool.and_true, Bool.true_and, compL, miR1, mAndT, mOrT, mNotT, mCmpT, mCmp, mChain, mChainT, mIx, mLV, mLO, mV, mC, mB1, mAsg, mAsgX, mgN, mgT, mgCons, mgNil, mSub, mOp, mE1, mRet, mRetN, mRetX, mRetV, mRetO, mNext, mNever, mTru, mDropX, mDrop, mMeth, mMeth0, fAppend, fPop, mExt, mSetO, mFrz, mLocz, mF, mNew, mLst, mTup, mCons, mNil, mList, mCat, Res.bind, Res.go, startE, ctL, ctOf_lst, ctOf_tup, ctOf_loc, ixC_l, ixC_t, atI_0, atI_1, atI_2, atI_3, atI_4, atI_5, atI_6, ixN_0, ixN_1, ixN_2, ixN_3, ixN_4, ixN_5, cLe, cLt, cGe, cGt, fAdd, fSub, fMul, fMod, fDiv, fPow, fInt, fLen, fTup, getM, putM, truth, outF0, mFn0, mCall, mCallO, itemsOf, mFor, miV, walkD, mFld, mAnd, mOr, mNot, mIf, List.map_cons, List.map_nil, List.cons_append, List.nil_append, List.length_cons, List.length_nil, List.length_map, List.replicate_succ, List.replicate_zero, List.set_cons_zero, List.set_cons_succ, List.getElem?_cons_zero, List.getElem?_cons_succ, List.getElem?_nil, List.set_set, Option.bind_some, Option.bind_none, Option.map_some, Option.map_none, if_true, if_false, decide_true, decide_false, Bool.false_eq_true, reduceIte, reduceCtorEq, Nat.reduceAdd, Nat.reduceSub, Nat.zero_add, Nat.reduceLeDiff, Nat.reduceLT, Nat.reduceSucc, z, fa, Bool.not_true]
  have w2 : ∀ T : Store, mB1 fTup (mLV (mF (mSortSet (mLV (mF (mComp [5, 6, 7] (miV (mV 3)) (mgT 3 (mgCons (mgN 5) (mgCons (mgN 6) (mgCons (mgN 7) mgNil)))) mYes (mTup (mCons (mV 5) (mCons (mB1 fTup (mLV (mV 6))) (mCons (mV 7) mNil)))))))))) [some (.val (.loc S.length)), iv L, iv B, some (.val (.lst (ms.map Mv.d))), some (.val (.lst (es.map .int))), y5, y6, y7, y8, none] T = .ok (.tup (sortD (ms.map Mv.d)), T) := fun T => by
    have c2 := self_comp (p := 5) (q := 6) (r := 7) (env := [some (.val (.loc S.length)), iv L, iv B, some (.val (.lst (ms.map Mv.d))), some (.val (.lst (es.map .int))), y5, y6, y7, y8, none]) (S := T) ms (fun l ks b h => ⟨_, rfl, by
      simp only [mSeq, mIfS, mSlO, mPS, mPN, miRev, miEnumT, itemsOf, SZ, mComp, noOwn, wipeE, mYes, Res.bindN, List.all_cons, List.all_nil, Bool.and_true, Bool.true_and, compL, miR1, mAndT, mOrT, mNotT, mCmpT, mCmp, mChain, mChainT, mIx, mLV, mLO, mV, mC, mB1, mAsg, mAsgX, mgN, mgT, mgCons, mgNil, mSub, mOp, mE1, mRet, mRetN, mRetX, mRetV, mRetO, mNext, mNever, mTru, mDropX, mDrop, mMeth, mMeth0, fAppend, fPop, mExt, mSetO, mFrz, mLocz, mF, mNew, mLst, mTup, mCons, mNil, mList, mCat, Res.bind, Res.go, startE, ctL, ctOf_lst, ctOf_tup, ctOf_loc, ixC_l, ixC_t, atI_0, atI_1, atI_2, atI_3, atI_4, atI_5, atI_6, ixN_0, ixN_1, ixN_2, ixN_3, ixN_4, ixN_5, cLe, cLt, cGe, cGt, fAdd, fSub, fMul, fMod, fDiv, fPow, fInt, fLen, fTup, getM, putM, truth, outF0, mFn0, mCall, mCallO, itemsOf, mFor, miV, walkD, mFld, mAnd, mOr, mNot, mIf, List.map_cons, List.map_nil, List.cons_append, List.nil_append, List.length_cons, List.length_nil, List.length_map, List.replicate_succ, List.replicate_zero, List.set_cons_zero, List.set_cons_succ, List.getElem?_cons_zero, List.getElem?_cons_succ, List.getElem?_nil, List.set_set, Option.bind_some, Option.bind_none, Option.map_some, Option.map_none, if_true, if_false, decide_true, decide_false, Bool.false_eq_true, reduceIte, reduceCtorEq, Nat.reduceAdd, Nat.reduceSub, Nat.zero_add, Nat.reduceLeDiff, Nat.reduceLT, Nat.reduceSucc, Mv.d]⟩) fun m hm => (okm m hm).few
    have z := comp_at (mi := miV (mV 3)) no rfl (by simpa using t6) c2
    simp only [mSeq, mIfS, mSlO, mPS, mPN, miRev, miEnumT, itemsOf, SZ, noOwn, wipeE, mYes, Res.bindN, List.all_cons, List.all_nil, Bool.and_true, Bool.true_and, compL, miR1, mAndT, mOrT, mNotT, mCmpT, mCmp, mChain, mChainT, mIx, mLV, mLO, mV, mC, mB1, mAsg, mAsgX, mgN, mgT, mgCons, mgNil, mSub, mOp, mE1, mRet, mRetN, mRetX, mRetV, mRetO, mNext, mNever, mTru, mDropX, mDrop, mMeth, mMeth0, fAppend, fPop, mExt, mSetO, mFrz, mLocz, mF, mNew, mLst, mTup, mCons, mNil, mList, mCat, Res.bind, Res.go, startE, ctL, ctOf_lst, ctOf_tup, ctOf_loc, ixC_l, ixC_t, atI_0, atI_1, atI_2, atI_3, atI_4, atI_5, atI_6, ixN_0, ixN_1, ixN_2, ixN_3, ixN_4, ixN_5, cLe, cLt, cGe, cGt, fAdd, fSub, fMul, fMod, fDiv, fPow, fInt, fLen, fTup, getM, putM, truth, outF0, mFn0, mCall, mCallO, itemsOf, mFor, miV, walkD, mFld, mAnd, mOr, mNot, mIf, List.map_cons, List.map_nil, List.cons_append, List.nil_append, List.length_cons, List.length_nil, List.length_map, List.replicate_succ, List.replicate_zero, List.set_cons_zero, List.set_cons_succ, List.getElem?_cons_zero, List.getElem?_cons_succ, List.getElem?_nil, List.set_set, Option.bind_some, Option.bind_none, Option.map_some, Option.map_none, if_true, if_false, decide_true, decide_false, Bool.false_eq_true, reduceIte, reduceCtorEq, Nat.reduceAdd, Nat.reduceSub, Nat.zero_add, Nat.reduceLeDiff, Nat.reduceLT, Nat.reduceSucc, mSortSet, z, s1]
  have w3 : ∀ T : Store, mB1 fTup (mLV (mF (mSortSet (mLV (mV 4))))) [some (.val (.loc S.length)), iv L, iv B, some (.val (.lst (ms.map Mv.d))), some (.val (.lst (es.map .int))), y5, y6, y7, y8, none] T = .ok (.tup (sortD (es.map .int)), T) := fun T => by
    simp only [mSeq, mIfS, mSlO, mPS, mPN, miRev, miEnumT, itemsOf, SZ, mComp, noOwn, wipeE, mYes, Res.bindN, List.all_cons, List.all_nil, Bool.and_true, Bool.true_and, compL, miR1, mAndT, mOrT, mNotT, mCmpT, mCmp, mChain, mChainT, mIx, mLV, mLO, mV, mC, mB1, mAsg, mAsgX, mgN, mgT, mgCons, mgNil, mSub, mOp, mE1, mRet, mRetN, mRetX, mRetV, mRetO, mNext, mNever, mTru, mDropX, mDrop, mMeth, mMeth0, fAppend, fPop, mExt, mSetO, mFrz, mLocz, mF, mNew, mLst, mTup, mCons, mNil, mList, mCat, Res.bind, Res.go, startE, ctL, ctOf_lst, ctOf_tup, ctOf_loc, ixC_l, ixC_t, atI_0, atI_1, atI_2, atI_3, atI_4, atI_5, atI_6, ixN_0, ixN_1, ixN_2, ixN_3, ixN_4, ixN_5, cLe, cLt, cGe, cGt, fAdd, fSub, fMul, fMod, fDiv, fPow, fInt, fLen, fTup, getM, putM, truth, outF0, mFn0, mCall, mCallO, itemsOf, mFor, miV, walkD, mFld, mAnd, mOr, mNot, mIf, List.map_cons, List.map_nil, List.cons_append, List.nil_append, List.length_cons, List.length_nil, List.length_map, List.replicate_succ, List.replicate_zero, List.set_cons_zero, List.set_cons_succ, List.getElem?_cons_zero, List.getElem?_cons_succ, List.getElem?_nil, List.set_set, Option.bind_some, Option.bind_none, Option.map_some, Option.map_none, if_true, if_false, decide_true, decide_false, Bool.false_eq_true, reduceIte, reduceCtorEq, Nat.reduceAdd, Nat.reduceSub, Nat.zero_add, Nat.reduceLeDiff, Nat.reduceLT, Nat.reduceSucc, mSortSet, s2]
  have w4 : mIfS (mNotT (mChainT cLt cLe (mC (.int 0)) (mV 1) (mC (.int 4)))) mNever mNext [some (.val (.loc S.length)), iv L, iv B, some (.val (.lst (ms.map Mv.d))), some (.val (.lst (es.map .int))), none, none, none, none, none] (S ++ [.ins 0 [] []]) = .nx [some (.val (.loc S.length)), iv L, iv B, some (.val (.lst (ms.map Mv.d))), some (.val (.lst (es.map .int))), none, none, none, none, none] (S ++ [.ins 0 [] []]) := by
    simp only [mSeq, mIfS, mSlO, mPS, mPN, miRev, miEnumT, itemsOf, SZ, mComp, noOwn, wipeE, mYes, Res.bindN, List.all_cons, List.all_nil, Bool.and_true, Bool.true_and, compL, miR1, mAndT, mOrT, mNotT, mCmpT, mCmp, mChain, mChainT, mIx, mLV, mLO, mV, mC, mB1, mAsg, mAsgX, mgN, mgT, mgCons, mgNil, mSub, mOp, mE1, mRet, mRetN, mRetX, mRetV, mRetO, mNext, mNever, mTru, mDropX, mDrop, mMeth, mMeth0, fAppend, fPop, mExt, mSetO, mFrz, mLocz, mF, mNew, mLst, mTup, mCons, mNil, mList, mCat, Res.bind, Res.go, startE, ctL, ctOf_lst, ctOf_tup, ctOf_loc, ixC_l, ixC_t, atI_0, atI_1, atI_2, atI_3, atI_4, atI_5, atI_6, ixN_0, ixN_1, ixN_2, ixN_3, ixN_4, ixN_5, cLe, cLt, cGe, cGt, fAdd, fSub, fMul, fMod, fDiv, fPow, fInt, fLen, fTup, getM, putM, truth, outF0, mFn0, mCall, mCallO, itemsOf, mFor, miV, walkD, mFld, mAnd, mOr, mNot, mIf, List.map_cons, List.map_nil, List.cons_append, List.nil_append, List.length_cons, List.length_nil, List.length_map, List.replicate_succ, List.replicate_zero, List.set_cons_zero, List.set_cons_succ, List.getElem?_cons_zero, List.getElem?_cons_succ, List.getElem?_nil, List.set_set, Option.bind_some, Option.bind_none, Option.map_some, Option.map_none, if_true, if_false, decide_true, decide_false, Bool.false_eq_true, reduceIte, reduceCtorEq, Nat.reduceAdd, Nat.reduceSub, Nat.zero_add, Nat.reduceLeDiff, Nat.reduceLT, Nat.reduceSucc, t1, t2, Bool.not_true]
  have w5 : mIfS (mNotT (mChainT cLt cLe (mC (.int 0)) (mV 2) (mC (.int 8)))) mNever mNext [some (.val (.loc S.length)), iv L, iv B, some (.val (.lst (ms.map Mv.d))), some (.val (.lst (es.map .int))), none, none, none, none, none] (S ++ [.ins 0 [] []]) = .nx [some (.val (.loc S.length)), iv L, iv B, some (.val (.lst (ms.map Mv.d))), some (.val (.lst (es.map .int))), none, none, none, none, none] (S ++ [.ins 0 [] []]) := by
    simp only [mSeq, mIfS, mSlO, mPS, mPN, miRev, miEnumT, itemsOf, SZ, mComp, noOwn, wipeE, mYes, Res.bindN, List.all_cons, List.all_nil, Bool.and_true, Bool.true_and, compL, miR1, mAndT, mOrT, mNotT, mCmpT, mCmp, mChain, mChainT, mIx, mLV, mLO, mV, mC, mB1, mAsg, mAsgX, mgN, mgT, mgCons, mgNil, mSub, mOp, mE1, mRet, mRetN, mRetX, mRetV, mRetO, mNext, mNever, mTru, mDropX, mDrop, mMeth, mMeth0, fAppend, fPop, mExt, mSetO, mFrz, mLocz, mF, mNew, mLst, mTup, mCons, mNil, mList, mCat, Res.bind, Res.go, startE, ctL, ctOf_lst, ctOf_tup, ctOf_loc, ixC_l, ixC_t, atI_0, atI_1, atI_2, atI_3, atI_4, atI_5, atI_6, ixN_0, ixN_1, ixN_2, ixN_3, ixN_4, ixN_5, cLe, cLt, cGe, cGt, fAdd, fSub, fMul, fMod, fDiv, fPow, fInt, fLen, fTup, getM, putM, truth, outF0, mFn0, mCall, mCallO, itemsOf, mFor, miV, walkD, mFld, mAnd, mOr, mNot, mIf, List.map_cons, List.map_nil, List.cons_append, List.nil_append, List.length_cons, List.length_nil, List.length_map, List.replicate_succ, List.replicate_zero, List.set_cons_zero, List.set_cons_succ, List.getElem?_cons_zero, List.getElem?_cons_succ, List.getElem?_nil, List.set_set, Option.bind_some, Option.bind_none, Option.map_some, Option.map_none, if_true, if_false, decide_true, decide_false, Bool.false_eq_true, reduceIte, reduceCtorEq, Nat.reduceAdd, Nat.reduceSub, Nat.zero_add, Nat.reduceLeDiff, Nat.reduceLT, Nat.reduceSucc, t3, t4, Bool.not_true]
  have p1 := putF_nx (f := "letters") (mo := mV 0) (me := mV 1) (env := [some (.val (.loc S.length)), iv L, iv B, some (.val (.lst (ms.map Mv.d))), some (.val (.lst (es.map .int))), y5, y6, y7, y8, none]) rfl rfl (at_ (.ins 0 [] [])) ⟨rfl, by simp⟩ rfl rfl
  rw [set_] at p1
  have p2 := putF_nx (f := "labels") (mo := mV 0) (me := mV 2) (env := [some (.val (.loc S.length)), iv L, iv B, some (.val (.lst (ms.map Mv.d))), some (.val (.lst (es.map .int))), y5, y6, y7, y8, none]) rfl rfl (at_ (.ins 0 ["letters"] [.int L])) ⟨rfl, by simp⟩ rfl rfl
  rw [set_] at p2
  have p3 := putF_nx (f := "moves") (mo := mV 0) (env := [some (.val (.loc S.length)), iv L, iv B, some (.val (.lst (ms.map Mv.d))), some (.val (.lst (es.map .int))), y5, y6, y7, y8, none]) (w2 _) rfl (at_ (.ins 0 ["letters", "labels"] [.int L, .int B])) ⟨rfl, by simp⟩ rfl rfl
  rw [set_] at p3
  have p4 := putF_nx (f := "ends") (mo := mV 0) (env := [some (.val (.loc S.length)), iv L, iv B, some (.val (.lst (ms.map Mv.d))), some (.val (.lst (es.map .int))), y5, y6, y7, y8, none]) (w3 _) rfl (at_ (.ins 0 ["letters", "labels", "moves"] [.int L, .int B, .tup (sortD (ms.map Mv.d))])) ⟨rfl, by simp⟩ rfl rfl
  rw [set_] at p4
  exact fn_end (seq_nx w4 (seq_nx w5 (seq_nx ((for_at rfl).trans e) (seq_nx w1 (seq_nx p1 (seq_nx p2 (seq_nx p3 (seq_nx p4 rfl)))))))) rfl
end K10

set_option linter.all false
set_option maxRecDepth 100000
set_option maxHeartbeats 4000000
set_option autoImplicit false
namespace K10
open PySem PySem.Spec L2 DL

theorem lows_all (n : Nat) : ∀ ds : List D, D.lows n ds = ds.all (D.low n)
  | [] => by simp [D.lows]
  | d :: ds => by simp [D.lows, lows_all n ds]
theorem low_mv (m : Mv) : D.low 0 m.d = true := by
  show (true && (D.lows 0 (m.ks.map .int) && true)) = true
  rw [lows_ints]
  rfl
theorem lows_sort {ds : List D} (h : ∀ d ∈ ds, D.low 0 d = true) : D.lows 0 (sortD ds) = true := by
  rw [lows_all, List.all_eq_true]
  exact fun x hx => h x (mem_sortD.mp hx)
theorem low_o (m : Mach) : D.lows 0 [.int m.L, .int m.B, .tup (sortD (m.ms.map Mv.d)), .tup (sortD (m.es.map .int))] = true := by
  have h1 : D.lows 0 (sortD (m.ms.map Mv.d)) = true := lows_sort fun d hd => by
    obtain ⟨x, _, rfl⟩ := List.mem_map.mp hd
    exact low_mv x
  have h2 : D.lows 0 (sortD (m.es.map D.int)) = true := lows_sort fun d hd => by
    obtain ⟨x, _, rfl⟩ := List.mem_map.mp hd
    rfl
  show (true && (true && (D.lows 0 (sortD (m.ms.map Mv.d)) && (D.lows 0 (sortD (m.es.map D.int)) && true)))) = true
  rw [h1, h2]
  rfl
theorem ob_low_up (n : Nat) : ∀ o : Ob, Ob.low 0 o = true → Ob.low n o = true
  | .lst ds, h => lows_up n ds h
  | .ins _ _ ds, h => lows_up n ds h
theorem mMake_at {fm : MFn} {ma : MA} {env : DL.Env} {S S1 : Store} {ds es : List D} {ks : List Str} (h : ma env S = .ok (ds, S1)) (hf : fm (.loc S1.length :: ds) (S1 ++ [.ins 0 [] []]) = .ret .non (S1 ++ [.ins 0 ks es])) (lw : AllLow S1) (le : D.lows 0 es = true) : mMake 0 fm ma env S = .ok (.ins 0 ks es, S1) := by
  unfold mMake
  rw [h]
  dsimp only [Res.bind]
  rw [hf]
  have e1 : (S1 ++ [Ob.ins 0 ks es])[S1.length]? = some (.ins 0 ks es) := by simp
  have e2 : (S1 ++ [Ob.ins 0 ks es]).take S1.length = S1 := by simp
  dsimp only
  rw [e1, e2]
  dsimp only
  rw [if_pos]
  refine ⟨by simp, rfl, lows_up _ _ le, ?_⟩
  rw [List.all_eq_true]
  exact fun o ho => ob_low_up _ o (lw o ho)
theorem made {m : Mach} {S : Store} (ok : MachOk m) (hL : m.L ≤ 4) (hB : m.B ≤ 8) (lw : AllLow S) : f__law_made [m.d] S = .ret m.o S := by
  have e : mMake 0 f_Machine___init__ (mCons (mIx (mLV (mV 0)) (mC (.int 0))) (mCons (mIx (mLV (mV 0)) (mC (.int 1))) (mCons (mIx (mLV (mV 0)) (mC (.int 2))) (mCons (mIx (mLV (mV 0)) (mC (.int 3))) mNil)))) [some (.val m.d)] S = .ok (m.o, S) :=
    mMake_at (ds := [.int m.L, .int m.B, .lst (m.ms.map Mv.d), .lst (m.es.map .int)]) rfl (init ok hL hB) lw (low_o m)
  have e2 : mRet (mMake 0 f_Machine___init__ (mCons (mIx (mLV (mV 0)) (mC (.int 0))) (mCons (mIx (mLV (mV 0)) (mC (.int 1))) (mCons (mIx (mLV (mV 0)) (mC (.int 2))) (mCons (mIx (mLV (mV 0)) (mC (.int 3))) mNil))))) [some (.val m.d)] S = .rt m.o S := by
    unfold mRet
    rw [e]
    rfl
  have e3 : m__law_made [some (.val m.d)] S = .rt m.o S := by
    unfold m__law_made mSeq
    rw [e2]
  exact fn_end e3 rfl
end K10

set_option linter.all false
set_option maxRecDepth 100000
set_option maxHeartbeats 4000000
set_option autoImplicit false
namespace K10
open PySem PySem.Spec L2 DL

/-! ### costs with labels, in order -/
def lex : List Int → List Int → Bool
  | [], [] => false
  | [], _ :: _ => true
  | _ :: _, [] => false
  | a :: as, b :: bs => decide (a < b) || (decide (a = b) && lex as bs)
theorem lex_lt : ∀ as bs : List Int, decide (as < bs) = lex as bs
  | [], [] => by simp [lex]
  | [], _ :: _ => by simp [lex]
  | _ :: _, [] => by simp [lex]
  | a :: as, b :: bs => by
    rw [lex, ← lex_lt as bs, Bool.eq_iff_iff]
    simp [List.cons_lt_cons_iff]
theorem lex_irr : ∀ as : List Int, lex as as = false
  | [] => rfl
  | a :: as => by simp [lex, lex_irr as]
theorem lex_trans : ∀ {a b c : List Int}, lex a b = true → lex b c = true → lex a c = true
  | [], [], _, h, _ => by simp [lex] at h
  | [], _ :: _, [], _, k => by simp [lex] at k
  | [], _ :: _, _ :: _, _, _ => rfl
  | _ :: _, [], _, h, _ => by simp [lex] at h
  | _ :: _, _ :: _, [], _, k => by simp [lex] at k
  | x :: a, y :: b, z :: c, h, k => by
    simp only [lex, Bool.or_eq_true, Bool.and_eq_true, decide_eq_true_eq] at h k ⊢
    rcases h with h | ⟨rfl, h⟩
    · rcases k with k | ⟨rfl, k⟩
      · exact .inl (by omega)
      · exact .inl h
    · rcases k with k | ⟨rfl, k⟩
      · exact .inl k
      · exact .inr ⟨rfl, lex_trans h k⟩
theorem lex_tri : ∀ a b : List Int, lex a b = false → lex b a = false → a = b
  | [], [], _, _ => rfl
  | [], _ :: _, h, _ => by simp [lex] at h
  | _ :: _, [], _, k => by simp [lex] at k
  | x :: a, y :: b, h, k => by
    simp only [lex, Bool.or_eq_false_iff, decide_eq_false_iff_not, Bool.and_eq_false_iff] at h k
    have e : x = y := by omega
    subst e
    rw [lex_tri a b (by simpa using h.2) (by simpa using k.2)]
theorem lex_app : ∀ {a b : List Int} (x y : List Int), a.length = b.length → lex (a ++ x) (b ++ y) = (lex a b || (decide (a = b) && lex x y))
  | [], [], x, y, _ => by simp [lex]
  | [], _ :: _, _, _, h => by simp at h
  | _ :: _, [], _, _, h => by simp at h
  | p :: a, q :: b, x, y, h => by
    rw [List.cons_append, List.cons_append, lex, lex, lex_app x y (by simpa using h)]
    by_cases e : p = q
    · subst e
      simp
    · simp [e]
abbrev CL := Int × List Int
def ltP (y x : CL) : Bool := decide (y.1 < x.1) || (decide (y.1 = x.1) && lex y.2 x.2)
theorem ltP_irr (x : CL) : ltP x x = false := by simp [ltP, lex_irr]
theorem ltP_trans {a b c : CL} (h : ltP a b = true) (k : ltP b c = true) : ltP a c = true := by
  simp only [ltP, Bool.or_eq_true, Bool.and_eq_true, decide_eq_true_eq] at h k ⊢
  rcases h with h | ⟨e, h⟩
  · rcases k with k | ⟨e, k⟩
    · exact .inl (by omega)
    · exact .inl (by omega)
  · rcases k with k | ⟨e', k⟩
    · exact .inl (by omega)
    · exact .inr ⟨by omega, lex_trans h k⟩
theorem ltP_tri {a b : CL} (h : ltP a b = false) (k : ltP b a = false) : a = b := by
  simp only [ltP, Bool.or_eq_false_iff, decide_eq_false_iff_not, Bool.and_eq_false_iff] at h k
  have e : a.1 = b.1 := by omega
  have e2 := lex_tri a.2 b.2 (by have := h.2; rcases this with z | z; exact absurd e z; exact z) (by have := k.2; rcases this with z | z; exact absurd e.symm z; exact z)
  exact Prod.ext e e2
/-- not more than -/
def leP (x y : CL) : Prop := ltP y x = false
theorem leP_refl (x : CL) : leP x x := ltP_irr x
theorem leP_trans {a b c : CL} (h : leP a b) (k : leP b c) : leP a c := by
  unfold leP at *
  cases e : ltP c a with
  | false => rfl
  | true =>
    cases e2 : ltP a b with
    | true => rw [ltP_trans e e2] at k; cases k
    | false =>
      have := ltP_tri e2 h
      subst this
      rw [e] at k
      cases k
theorem leP_of_lt {a b : CL} (h : ltP a b = true) : leP a b := by
  unfold leP
  cases e : ltP b a with
  | false => rfl
  | true => have := ltP_trans h e; rw [ltP_irr] at this; cases this
def bt : Option CL → Option CL → Option CL
  | none, b => b
  | some x, none => some x
  | some x, some y => if ltP y x = true then some y else some x
/-- the least of those that P tells -/
def IsM (P : CL → Prop) : Option CL → Prop
  | none => ∀ y, ¬P y
  | some x => P x ∧ ∀ y, P y → leP x y
theorem IsM.uniq {P : CL → Prop} {r r' : Option CL} (h : IsM P r) (k : IsM P r') : r = r' := by
  cases r with
  | none => cases r' with
    | none => rfl
    | some y => exact absurd k.1 (h y)
  | some x => cases r' with
    | none => exact absurd h.1 (k x)
    | some y => rw [ltP_tri (h.2 y k.1 |> fun z => (k.2 x h.1)) (h.2 y k.1)]
theorem IsM.congr {P Q : CL → Prop} (e : ∀ y, P y ↔ Q y) {r : Option CL} (h : IsM P r) : IsM Q r := by
  cases r with
  | none => exact fun y q => h y ((e y).mpr q)
  | some x => exact ⟨(e x).mp h.1, fun y q => h.2 y ((e y).mpr q)⟩
theorem bt_is {P Q : CL → Prop} {a b : Option CL} (h : IsM P a) (k : IsM Q b) : IsM (fun y => P y ∨ Q y) (bt a b) := by
  cases a with
  | none => exact k.congr fun y => ⟨.inr, fun z => z.elim (fun p => absurd p (h y)) id⟩
  | some x => cases b with
    | none => exact ⟨.inl h.1, fun y z => z.elim (h.2 y) fun q => absurd q (k y)⟩
    | some y =>
      show IsM _ (if ltP y x = true then some y else some x)
      by_cases c : ltP y x = true
      · rw [if_pos c]
        exact ⟨.inr k.1, fun z q => q.elim (fun p => leP_trans (leP_of_lt c) (h.2 z p)) (k.2 z)⟩
      · rw [if_neg c]
        exact ⟨.inl h.1, fun z q => q.elim (h.2 z) fun p => leP_trans (show leP x y by unfold leP; simpa using c) (k.2 z p)⟩
def minL (xs : List (Option CL)) : Option CL := xs.foldl bt none
theorem minL_snoc (xs : List (Option CL)) (x : Option CL) : minL (xs ++ [x]) = bt (minL xs) x := by simp [minL]
theorem opt_is (x : Option CL) : IsM (fun y => x = some y) x := by
  cases x with
  | none => exact fun y h => by cases h
  | some x => exact ⟨rfl, fun y h => by cases h; exact leP_refl x⟩
theorem fold_is : ∀ (xs : List (Option CL)) (a : Option CL) (P : CL → Prop), IsM P a → IsM (fun y => P y ∨ some y ∈ xs) (xs.foldl bt a)
  | [], a, P, h => h.congr fun y => by simp
  | x :: xs, a, P, h => by
    have z := fold_is xs (bt a x) _ (bt_is h (opt_is x))
    refine z.congr fun y => ?_
    simp only [List.mem_cons]
    constructor
    · rintro ((p | p) | p)
      · exact .inl p
      · exact .inr (.inl p.symm)
      · exact .inr (.inr p)
    · rintro (p | p | p)
      · exact .inl (.inl p)
      · exact .inl (.inr p.symm)
      · exact .inr p
theorem minL_is (xs : List (Option CL)) : IsM (fun y => some y ∈ xs) (minL xs) := by
  have z := fold_is xs none (fun _ => False) (fun y h => h)
  exact z.congr fun y => by simp
/-! the costs alone -/
def bi : Option Int → Option Int → Option Int
  | none, b => b
  | some x, none => some x
  | some x, some y => if y < x then some y else some x
def minI (xs : List (Option Int)) : Option Int := xs.foldl bi none
theorem bt_fst (a b : Option CL) : (bt a b).map (·.1) = bi (a.map (·.1)) (b.map (·.1)) := by
  cases a with
  | none => rfl
  | some x => cases b with
    | none => rfl
    | some y =>
      show (if ltP y x = true then some y else some x).map (·.1) = if y.1 < x.1 then some y.1 else some x.1
      by_cases c : ltP y x = true
      · rw [if_pos c]
        simp only [ltP, Bool.or_eq_true, Bool.and_eq_true, decide_eq_true_eq] at c
        by_cases d : y.1 < x.1
        · rw [if_pos d]; rfl
        · rw [if_neg d]
          have : y.1 = x.1 := by omega
          simp [this]
      · rw [if_neg c]
        have : ¬y.1 < x.1 := fun z => c (by simp [ltP, z])
        rw [if_neg this]
        rfl
theorem fold_fst : ∀ (xs : List (Option CL)) (a : Option CL), (xs.foldl bt a).map (·.1) = (xs.map fun x => x.map (·.1)).foldl bi (a.map (·.1))
  | [], a => rfl
  | x :: xs, a => by rw [List.foldl_cons, fold_fst xs, bt_fst, List.map_cons, List.foldl_cons]
theorem minL_fst (xs : List (Option CL)) : (minL xs).map (·.1) = minI (xs.map fun x => x.map (·.1)) := fold_fst xs none
theorem fold_some : ∀ (xs : List (Option Int)) (a : Int), xs.foldl bi (some a) = some ((xs.filterMap id).foldl min a)
  | [], a => rfl
  | none :: xs, a => by exact fold_some xs a
  | some x :: xs, a => by
    show xs.foldl bi (bi (some a) (some x)) = some ((xs.filterMap id).foldl min (min a x))
    have : bi (some a) (some x) = some (min a x) := by
      show (if x < a then some x else some a) = _
      by_cases h : x < a
      · rw [if_pos h, Int.min_eq_right (by omega)]
      · rw [if_neg h, Int.min_eq_left (by omega)]
    rw [this]
    exact fold_some xs _
theorem minI_min : ∀ xs : List (Option Int), minI xs = (xs.filterMap id).min?
  | [] => rfl
  | none :: xs => by
    exact minI_min xs
  | some x :: xs => by
    exact fold_some xs x
end K10

set_option linter.all false
set_option maxRecDepth 100000
set_option maxHeartbeats 4000000
set_option autoImplicit false
namespace K10
open PySem PySem.Spec L2 DL PySem.W
local macro_rules
  | `(tactic| infer_instance) => `(tactic| first
    | (first | with_reducible refine op_seq ?_ | with_reducible refine sq_set (by simp only [List.set_cons_succ, List.set_cons_zero]; rfl) ?_ | with_reducible refine sq_nx ?_ | ((with_reducible refine id_v ?_); (refine rp_v rfl ?_)) | with_reducible refine rp_c ?_ | with_reducible refine rp_cons ?_ | with_reducible refine rp_nil ?_ | with_reducible refine rp_neg ?_ | with_reducible refine rp_lv ?_ | ((with_reducible refine id_lo ?_); (refine rp_lo rfl ?_)) | with_reducible refine op_asgN ?_)
    | (first | with_reducible refine op_asg ?_ | with_reducible refine op_setO ?_ | with_reducible refine op_if ?_ | with_reducible refine op_for ?_ | with_reducible refine op_next ?_ | with_reducible refine op_ret ?_ | with_reducible refine op_retO ?_ | ((with_reducible refine id_retV ?_); (refine op_retV rfl ?_)) | with_reducible refine op_retN ?_ | with_reducible refine op_drop ?_ | with_reducible refine op_dropX ?_)
    | (first | with_reducible refine op_asgX ?_ | with_reducible refine op_retX ?_ | with_reducible refine op_break ?_ | with_reducible refine op_cont ?_ | ((with_reducible refine id_frz ?_); (refine op_frz rfl (by simp only [List.set_cons_succ, List.set_cons_zero]; rfl) ?_)) | ((with_reducible refine id_locz ?_); (refine op_locz rfl (by simp only [List.set_cons_succ, List.set_cons_zero]; rfl) ?_)) | with_reducible refine sq_rt ?_ | with_reducible refine sq_ro ?_ | with_reducible refine sq_bk ?_ | with_reducible refine sq_ct ?_ | with_reducible refine sq_exc ?_)
    | (first | with_reducible refine lq_set (by simp only [List.set_cons_succ, List.set_cons_zero]; rfl) ?_ | with_reducible refine lq_nx ?_ | with_reducible refine lq_ct ?_ | with_reducible refine lq_bk ?_ | with_reducible refine lq_rt ?_ | with_reducible refine lq_ro ?_ | with_reducible refine lq_exc ?_ | with_reducible refine rp_call ?_ | with_reducible refine rp_callO ?_ | with_reducible refine rp_ix ?_ | with_reducible refine rp_b1 ?_)
    | (first | with_reducible refine rp_op ?_ | with_reducible refine rp_fAdd ?_ | with_reducible refine rp_fSub ?_ | with_reducible refine rp_fMin2 ?_ | with_reducible refine rp_methC ?_ | with_reducible refine rp_methCO ?_ | with_reducible refine rp_dictP ?_ | with_reducible refine rp_inDE ?_ | with_reducible refine rp_isC ?_ | with_reducible refine rp_make ?_ | with_reducible refine rp_fMax2 ?_)
    | (first | with_reducible refine rp_cmp ?_ | with_reducible refine rp_cmpT ?_ | with_reducible refine rp_chainP ?_ | with_reducible refine rp_chainTP ?_ | with_reducible refine rp_tru ?_ | with_reducible refine sp_tru_bl ?_ | with_reducible refine sp_tru_non ?_ | with_reducible refine sp_tru_int ?_ | with_reducible refine sp_tru_lst ?_ | with_reducible refine sp_tru_tup ?_ | ((with_reducible refine id_truS ?_); (refine sp_tru_slot rfl ?_)))
    | (first | with_reducible refine rp_notT ?_ | with_reducible refine rp_andT ?_ | with_reducible refine rp_orT ?_ | with_reducible refine rp_and ?_ | with_reducible refine rp_or ?_ | with_reducible refine rp_not ?_ | with_reducible refine rp_if ?_ | with_reducible refine rp_ifO ?_ | with_reducible refine rp_star ?_ | with_reducible refine rp_tup ?_ | with_reducible refine rp_lst ?_)
    | (first | with_reducible refine rp_f ?_ | with_reducible refine rp_new ?_ | with_reducible refine rp_in ?_ | with_reducible refine rp_inE ?_ | with_reducible refine rp_inB ?_ | with_reducible refine rp_inBE ?_ | with_reducible refine rp_pn ?_ | with_reducible refine rp_ps ?_ | with_reducible refine rp_sl ?_ | with_reducible refine rp_slO ?_ | with_reducible refine rp_e1 ?_)
    | (first | with_reducible refine rp_list ?_ | with_reducible refine rp_sortI ?_ | with_reducible refine rp_cat ?_ | with_reducible refine rp_rep ?_ | with_reducible refine rp_fld ?_ | with_reducible refine rp_isBE ?_ | with_reducible refine rp_eqL ?_ | with_reducible refine rp_iV ?_ | with_reducible refine rp_iR1 ?_ | with_reducible refine rp_iR2 ?_ | with_reducible refine rp_iRev ?_)
    | (first | with_reducible refine rp_iEnum ?_ | with_reducible refine rp_iZip ?_ | ((with_reducible refine id_comp ?_); (refine rp_comp rfl ?_)) | ((with_reducible refine id_appO ?_); (refine rp_appO rfl ?_)) | ((with_reducible refine id_extO ?_); (refine rp_extO rfl ?_)) | with_reducible refine len_le (by first | decide | (simp only [List.length_cons, List.length_nil, List.length_map, List.length_append]; omega)) ?_ | with_reducible refine len_lt (by first | decide | (simp only [List.length_cons, List.length_nil, List.length_map, List.length_append]; omega)) ?_ | with_reducible refine sp_mgN (by simp only [List.set_cons_succ, List.set_cons_zero]; rfl) ?_ | ((with_reducible refine id_mgT ?_); (refine sp_mgT rfl ?_)) | with_reducible refine sp_mgCons ?_ | with_reducible refine sp_mgNil ?_)
    | (first | with_reducible refine sp_lenL ?_ | with_reducible refine sp_lenT ?_ | with_reducible refine sp_cEqI ?_ | with_reducible refine sp_cNeI ?_ | with_reducible refine sp_cEqB ?_ | with_reducible refine sp_cNeB ?_ | with_reducible refine bp_t ?_ | with_reducible refine bp_f ?_ | with_reducible refine bp_nt ?_ | with_reducible refine bp_nf ?_ | with_reducible refine bp_dt rfl ?_)
    | (first | with_reducible refine bp_ndt rfl ?_ | with_reducible refine bp_dt (by decide) ?_ | with_reducible refine bp_df (by decide) ?_ | with_reducible refine bp_ndt (by decide) ?_ | with_reducible refine bp_ndf (by decide) ?_ | with_reducible refine bp_dt (by omega) ?_ | with_reducible refine bp_df (by omega) ?_ | with_reducible refine bp_ndt (by omega) ?_ | with_reducible refine bp_ndf (by omega) ?_ | with_reducible refine bp_nbl ?_ | with_reducible refine bp_nint ?_)
    | (first | with_reducible refine bp_nstr ?_ | with_reducible refine bp_ntup ?_ | with_reducible refine bp_nlst ?_ | with_reducible refine bp_nloc ?_ | with_reducible refine bp_ct (by decide) ?_ | with_reducible refine bp_cf (by decide) ?_ | with_reducible refine sp_cEqS ?_ | with_reducible refine ex_int ?_ | with_reducible refine st_eq ?_ | ((with_reducible refine id_sq ?_); (refine sp_of rfl ?_)) | with_reducible exact ⟨rfl, rfl⟩)
    | (first | with_reducible exact rfl))

/-! ### pairs of a cost and labels -/
def encC : Option Int → D
  | none => .non
  | some c => .int c
def encP : Option CL → D
  | none => .non
  | some x => .tup [.int x.1, .lst (x.2.map .int)]
theorem alike_pair (x y : CL) : alike (encP (some x)).py (encP (some y)).py = true := by
  simp [encP, D.py, D.pys, alike, alikeAll, alikeAll_ints]
theorem eqk_pair (n : Nat) (x : CL) : D.eqk (n + 2) (encP (some x)) = true := by
  simp [encP, D.eqk, D.eqks, eqks_ints]
theorem minOk_pair (x y : CL) : minOk (encP (some x)) (encP (some y)) = true := by
  unfold minOk
  rw [alike_pair, alike_pair, alike_pair, alike_pair, eqk_pair 4, eqk_pair 4]
  rfl
theorem pys_ints : ∀ a : List Int, D.pys (a.map .int) = a.map PyData.int
  | [] => rfl
  | x :: a => by rw [List.map_cons, List.map_cons, ← pys_ints a]; rfl
theorem eqvAll_ints : ∀ a b : List Int, PyData.eqvAll (a.map .int) (b.map .int) = decide (a = b)
  | [], [] => rfl
  | [], _ :: _ => rfl
  | _ :: _, [] => rfl
  | x :: a, y :: b => by
    rw [List.map_cons, List.map_cons, PyData.eqvAll, eqvAll_ints a b]
    simp [PyData.eqv, Bool.beq_eq_decide_eq]
theorem lt_pair (x y : CL) : dataLt (encP (some y)).py (encP (some x)).py = ltP y x := by
  have e : ∀ z : CL, (encP (some z)).py = .tuple [.int z.1, .list (z.2.map .int)] := fun z => by
    show PyData.tuple [.int z.1, .list (D.pys (z.2.map .int))] = _
    rw [pys_ints]
  have al := alikeAll_ints y.2 x.2
  rw [pys_ints, pys_ints] at al
  rw [e, e, dataLt_pair (by simp [alike]) (by simpa [alike] using al), dataLt_int]
  have e2 : dataLt (PyData.list (y.2.map .int)) (PyData.list (x.2.map .int)) = lex y.2 x.2 := by
    show rowLt (y.2.map .int) (x.2.map .int) = _
    rw [dataLt_ints, lex_lt]
  have e3 : PyData.eqv (PyData.list (y.2.map .int)) (PyData.list (x.2.map .int)) = decide (y.2 = x.2) := eqvAll_ints _ _
  rw [e2, e3]
  show (if (y.1 == x.1) = true then _ else _) = _
  unfold ltP
  by_cases h : y.1 = x.1
  · simp only [h, beq_self_eq_true, if_true, Int.lt_irrefl, decide_false, Bool.false_or, decide_true, Bool.true_and]
    by_cases h2 : y.2 = x.2
    · simp [h2, lex_irr]
    · simp [h2]
  · simp [h]
theorem min_bt (x y : CL) : (if dataLt (encP (some y)).py (encP (some x)).py = true then encP (some y) else encP (some x)) = encP (bt (some x) (some y)) := by
  rw [lt_pair]
  show _ = encP (if ltP y x = true then some y else some x)
  by_cases h : ltP y x = true
  · rw [if_pos h, if_pos h]
  · rw [if_neg h, if_neg h]
theorem better_ok (a b : Option CL) (S : Store) : f_better [encP a, encP b] S = .ret (encP (bt a b)) S := by
  refine w_better ?_
  unfold m_better
  cases a with
  | none =>
    dsimp only [encP]
    repeat' (first | infer_instance | done)
    rfl
  | some x => cases b with
    | none =>
      dsimp only [encP]
      repeat' (first | infer_instance | done)
      refine bp_ct rfl ?_
      repeat' (first | infer_instance | done)
      rfl
    | some y =>
      have h1 := minOk_pair x y
      have h2 := min_bt x y
      show OQ (mSeq _ _ [some (.val (.tup [.int x.1, .lst (x.2.map .int)])), some (.val (.tup [.int y.1, .lst (y.2.map .int)]))] S) _
      repeat' (first | infer_instance | done)
      refine rp_minD h1 h2 ?_
      repeat' (first | infer_instance | done)
      rfl
def chg (fine : Option Int) (o : Bool) (x : Int) : Option Int := if o = true then fine.map (x + ·) else some x
theorem charged_ok (x : Int) (o : Bool) (fine : Option Int) (S : Store) : f_charged [.int x, .bl o, encC fine] S = .ret (encC (chg fine o x)) S := by
  refine w_charged ?_
  unfold m_charged
  cases o with
  | false =>
    repeat' (first | infer_instance | done)
    rfl
  | true => cases fine with
    | none =>
      dsimp only [encC]
      repeat' (first | infer_instance | done)
      rfl
    | some f =>
      dsimp only [encC]
      repeat' (first | infer_instance | done)
      rfl
theorem cost_of_ok (p : Option CL) (S : Store) : f_cost_of [encP p] S = .ret (encC (p.map (·.1))) S := by
  refine w_cost_of ?_
  unfold m_cost_of
  cases p with
  | none =>
    dsimp only [encP]
    repeat' (first | infer_instance | done)
    rfl
  | some x =>
    dsimp only [encP]
    repeat' (first | infer_instance | done)
    rfl
/-! ### the least one -/
theorem min_fold : ∀ (xs : List Int), fMin (.l (xs.map .int)) = xs.min?.map .int := fun xs => by
  unfold fMin
  dsimp only
  rw [dInts_map]
  rfl
theorem encC_non (x : Option Int) : decide (encC x = .non) = x.isNone := by
  cases x with
  | none => rfl
  | some x => exact decide_eq_false fun e => by cases e
theorem filt_ints : ∀ xs : List (Option Int), ((xs.filter fun x => x.isSome).map encC) = (xs.filterMap id).map D.int
  | [] => rfl
  | none :: xs => filt_ints xs
  | some x :: xs => by
    show encC (some x) :: ((xs.filter fun x => x.isSome).map encC) = .int x :: (xs.filterMap id).map D.int
    rw [filt_ints xs]
    rfl
theorem least_ok (xs : List (Option Int)) (hl : xs.length ≤ 1000) (S : Store) : f_least [.lst (xs.map encC)] S = .ret (encC (minI xs)) S := by
  refine w_least ?_
  unfold m_least
  repeat' (first | infer_instance | done)
  refine rp_eq (compL_filt encC (fun x => x.isSome) encC xs fun x hx => ?_) ?_
  · repeat' (first | infer_instance | done)
    refine ⟨?_, fun _ => ?_⟩
    · rw [t_least_1]
      repeat' (first | infer_instance | done)
      refine ⟨?_, rfl⟩
      rw [encC_non]
      cases x <;> rfl
    · rw [e_least_2]
      repeat' (first | infer_instance | done)
  · rw [filt_ints, minI_min]
    repeat' (first | infer_instance | done)
    cases e : xs.filterMap id with
    | nil =>
      repeat' (first | infer_instance | done)
      rfl
    | cons y ys =>
      repeat' (first | infer_instance | done)
      refine bp_ct rfl ?_
      repeat' (first | infer_instance | done)
      refine sp_of (a := D.int (ys.foldl min y)) ?_ ?_
      · show fMin (.l ((y :: ys).map .int)) = _
        rw [min_fold, List.min?_cons']
        rfl
      · repeat' (first | infer_instance | done)
        rfl
theorem law_least_ok (xs : List (Option Int)) (hl : xs.length ≤ 1000) (S : Store) : f__law_least [.lst (xs.map encC)] S = .ret (encC (minI xs)) S := by
  refine w__law_least ?_
  unfold m__law_least
  repeat' (first | infer_instance | done)
  refine rp_eq (compL_filt encC (fun x => x.isSome) encC xs fun x hx => ?_) ?_
  · repeat' (first | infer_instance | done)
    refine ⟨?_, fun _ => ?_⟩
    · rw [t__law_least_1]
      repeat' (first | infer_instance | done)
      refine ⟨?_, rfl⟩
      rw [encC_non]
      cases x <;> rfl
    · rw [e__law_least_2]
      repeat' (first | infer_instance | done)
  · rw [filt_ints, minI_min]
    repeat' (first | infer_instance | done)
    cases e : xs.filterMap id with
    | nil =>
      repeat' (first | infer_instance | done)
      rfl
    | cons y ys =>
      repeat' (first | infer_instance | done)
      refine bp_df (by simp; omega) ?_
      repeat' (first | infer_instance | done)
      refine sp_of (a := D.int (ys.foldl min y)) ?_ ?_
      · show fMin (.l ((y :: ys).map .int)) = _
        rw [min_fold, List.min?_cons']
        rfl
      · repeat' (first | infer_instance | done)
        rfl
end K10

set_option linter.all false
set_option maxRecDepth 100000
set_option maxHeartbeats 4000000
set_option autoImplicit false
namespace K10
open PySem PySem.Spec L2 DL PySem.W
local macro_rules
  | `(tactic| infer_instance) => `(tactic| first
    | (first | with_reducible refine op_seq ?_ | with_reducible refine sq_set (by simp only [List.set_cons_succ, List.set_cons_zero]; rfl) ?_ | with_reducible refine sq_nx ?_ | ((with_reducible refine id_v ?_); (refine rp_v rfl ?_)) | with_reducible refine rp_c ?_ | with_reducible refine rp_cons ?_ | with_reducible refine rp_nil ?_ | with_reducible refine rp_neg ?_ | with_reducible refine rp_lv ?_ | ((with_reducible refine id_lo ?_); (refine rp_lo rfl ?_)) | with_reducible refine op_asgN ?_)
    | (first | with_reducible refine op_asg ?_ | with_reducible refine op_setO ?_ | with_reducible refine op_if ?_ | with_reducible refine op_for ?_ | with_reducible refine op_next ?_ | with_reducible refine op_ret ?_ | with_reducible refine op_retO ?_ | ((with_reducible refine id_retV ?_); (refine op_retV rfl ?_)) | with_reducible refine op_retN ?_ | with_reducible refine op_drop ?_ | with_reducible refine op_dropX ?_)
    | (first | with_reducible refine op_asgX ?_ | with_reducible refine op_retX ?_ | with_reducible refine op_break ?_ | with_reducible refine op_cont ?_ | ((with_reducible refine id_frz ?_); (refine op_frz rfl (by simp only [List.set_cons_succ, List.set_cons_zero]; rfl) ?_)) | ((with_reducible refine id_locz ?_); (refine op_locz rfl (by simp only [List.set_cons_succ, List.set_cons_zero]; rfl) ?_)) | with_reducible refine sq_rt ?_ | with_reducible refine sq_ro ?_ | with_reducible refine sq_bk ?_ | with_reducible refine sq_ct ?_ | with_reducible refine sq_exc ?_)
    | (first | with_reducible refine lq_set (by simp only [List.set_cons_succ, List.set_cons_zero]; rfl) ?_ | with_reducible refine lq_nx ?_ | with_reducible refine lq_ct ?_ | with_reducible refine lq_bk ?_ | with_reducible refine lq_rt ?_ | with_reducible refine lq_ro ?_ | with_reducible refine lq_exc ?_ | with_reducible refine rp_call ?_ | with_reducible refine rp_callO ?_ | with_reducible refine rp_ix ?_ | with_reducible refine rp_b1 ?_)
    | (first | with_reducible refine rp_op ?_ | with_reducible refine rp_fAdd ?_ | with_reducible refine rp_fSub ?_ | with_reducible refine rp_fMin2 ?_ | with_reducible refine op_putF ?_ | with_reducible refine rp_methC ?_ | with_reducible refine rp_methCO ?_ | with_reducible refine rp_dictP ?_ | with_reducible refine rp_inDE ?_ | with_reducible refine rp_isC ?_ | with_reducible refine rp_make ?_)
    | (first | with_reducible refine rp_fMax2 ?_ | with_reducible refine rp_cmp ?_ | with_reducible refine rp_cmpT ?_ | with_reducible refine rp_chainP ?_ | with_reducible refine rp_chainTP ?_ | with_reducible refine rp_tru ?_ | with_reducible refine sp_tru_bl ?_ | with_reducible refine sp_tru_non ?_ | with_reducible refine sp_tru_int ?_ | with_reducible refine sp_tru_lst ?_ | with_reducible refine sp_tru_tup ?_)
    | (first | ((with_reducible refine id_truS ?_); (refine sp_tru_slot rfl ?_)) | with_reducible refine rp_notT ?_ | with_reducible refine rp_andT ?_ | with_reducible refine rp_orT ?_ | with_reducible refine rp_and ?_ | with_reducible refine rp_or ?_ | with_reducible refine rp_not ?_ | with_reducible refine rp_if ?_ | with_reducible refine rp_ifO ?_ | with_reducible refine rp_star ?_ | with_reducible refine rp_tup ?_)
    | (first | with_reducible refine rp_lst ?_ | with_reducible refine rp_f ?_ | with_reducible refine rp_new ?_ | with_reducible refine rp_in ?_ | with_reducible refine rp_inE ?_ | with_reducible refine rp_inB ?_ | with_reducible refine rp_inBE ?_ | with_reducible refine rp_pn ?_ | with_reducible refine rp_ps ?_ | with_reducible refine rp_sl ?_ | with_reducible refine rp_slO ?_)
    | (first | with_reducible refine rp_e1 ?_ | with_reducible refine rp_list ?_ | with_reducible refine rp_sortI ?_ | with_reducible refine rp_cat ?_ | with_reducible refine rp_rep ?_ | with_reducible refine rp_fld ?_ | with_reducible refine rp_isBE ?_ | with_reducible refine rp_eqL ?_ | with_reducible refine rp_iV ?_ | with_reducible refine rp_iR1 ?_ | with_reducible refine rp_iR2 ?_)
    | (first | with_reducible refine rp_iRev ?_ | with_reducible refine rp_iEnum ?_ | with_reducible refine rp_iZip ?_ | ((with_reducible refine id_comp ?_); (refine rp_comp rfl ?_)) | ((with_reducible refine id_appO ?_); (refine rp_appO rfl ?_)) | ((with_reducible refine id_extO ?_); (refine rp_extO rfl ?_)) | with_reducible refine len_le (by first | decide | (simp only [List.length_cons, List.length_nil, List.length_map, List.length_append]; omega)) ?_ | with_reducible refine len_lt (by first | decide | (simp only [List.length_cons, List.length_nil, List.length_map, List.length_append]; omega)) ?_ | with_reducible refine sp_mgN (by simp only [List.set_cons_succ, List.set_cons_zero]; rfl) ?_ | ((with_reducible refine id_mgT ?_); (refine sp_mgT rfl ?_)) | with_reducible refine sp_mgCons ?_)
    | (first | with_reducible refine sp_mgNil ?_ | with_reducible refine sp_lenL ?_ | with_reducible refine sp_lenT ?_ | with_reducible refine sp_cEqI ?_ | with_reducible refine sp_cNeI ?_ | with_reducible refine sp_cEqB ?_ | with_reducible refine sp_cNeB ?_ | with_reducible refine bp_t ?_ | with_reducible refine bp_f ?_ | with_reducible refine bp_nt ?_ | with_reducible refine bp_nf ?_)
    | (first | with_reducible refine bp_dt rfl ?_ | with_reducible refine bp_ndt rfl ?_ | with_reducible refine bp_dt (by decide) ?_ | with_reducible refine bp_df (by decide) ?_ | with_reducible refine bp_ndt (by decide) ?_ | with_reducible refine bp_ndf (by decide) ?_ | with_reducible refine bp_dt (by omega) ?_ | with_reducible refine bp_df (by omega) ?_ | with_reducible refine bp_ndt (by omega) ?_ | with_reducible refine bp_ndf (by omega) ?_ | with_reducible refine bp_qtup ?_)
    | (first | with_reducible refine bp_qint ?_ | with_reducible refine bp_nbl ?_ | with_reducible refine bp_nint ?_ | with_reducible refine bp_nstr ?_ | with_reducible refine bp_ntup ?_ | with_reducible refine bp_nlst ?_ | with_reducible refine bp_nloc ?_ | with_reducible refine bp_ct (by decide) ?_ | with_reducible refine bp_cf (by decide) ?_ | with_reducible refine sp_cEqS ?_ | with_reducible refine ex_int ?_)
    | (first | with_reducible refine st_eq ?_ | ((with_reducible refine id_sq ?_); (refine sp_of rfl ?_)) | with_reducible exact ⟨rfl, rfl⟩ | with_reducible exact rfl))

/-! ### rings with what they cost -/
structure Rg where
  m : Mach
  rs : List Int
  P : List (List Int)
  fine : Option Int
def Rg.ob (g : Rg) (k : Nat) (b c : Int) : Bool := decide ((⟨g.rs.getD k 0, [b], c⟩ : Mv) ∈ g.m.ms) != true
def Rg.pr (g : Rg) (k l : Nat) : Int := (g.P.getD k []).getD l 0
def Rg.B (g : Rg) : Nat := g.m.B.toNat
structure RgOk (g : Rg) : Prop where
  ok : MachOk g.m
  hL : g.m.L ≤ 4
  hB : g.m.B ≤ 8
  n0 : 0 < g.rs.length
  n : g.rs.length ≤ 6
  pl : g.P.length = g.rs.length
  pw : ∀ p ∈ g.P, p.length = g.B
  fb : ∀ f, g.fine = some f → f.natAbs.log2 ≤ 1000
theorem RgOk.bB {g : Rg} (ok : RgOk g) : (g.B : Int) = g.m.B ∧ 0 < g.B ∧ g.B ≤ 8 := by
  have h1 := ok.ok.B.1
  have h2 := ok.hB
  unfold Rg.B
  omega
def sqd (tp : Bool) (xs : List D) : D := match tp with
  | true => .tup xs
  | false => .lst xs
theorem ix_sqd {env : DL.Env} {S : Store} {tp : Bool} {xs : List D} {k : Nat} {d : D} (h : xs[k]? = some d) : ixD env S (.val (sqd tp xs)) (.int (k : Int)) = some d := by
  have e := (atI_k xs k).trans h
  cases tp with
  | true => exact e
  | false => exact e
noncomputable def Rg.o (g : Rg) (tp : Bool) : D := .ins 2 ["machine", "moves", "ring", "prices", "fine"] [g.m.o, .dct ((srt g.m.ms).map Mv.d), sqd tp (g.rs.map .int), sqd tp (g.P.map fun p => sqd tp (p.map .int)), encC g.fine]
theorem pairKeys_mvs : ∀ ms : List Mv, pairKeys (ms.map fun m => D.tup [m.d, .bl true]) = some (ms.map Mv.d)
  | [] => rfl
  | m :: ms => by
    rw [List.map_cons, pairKeys, pairKeys_mvs ms]
    rfl
theorem keyOk_mvs (ms : List Mv) : (ms.map Mv.d).all keyOk = true := by
  rw [List.all_eq_true]
  intro d hd
  obtain ⟨x, _, rfl⟩ := List.mem_map.mp hd
  unfold keyOk
  rw [num_mv]
  rfl
theorem nodup_mvs {ms : List Mv} (h : ms.Nodup) : (ms.map Mv.d).Nodup := List.pairwise_map.mpr (h.imp fun h e => h (mv_inj e))
theorem ring_init {g : Rg} (ok : RgOk g) (tp : Bool) (S : Store) : f_Ring___init__ [.loc S.length, g.m.o, sqd tp (g.rs.map .int), sqd tp (g.P.map fun p => sqd tp (p.map .int)), encC g.fine] (S ++ [.ins 2 [] []]) = .ret .non (S ++ [.ins 2 ["machine", "moves", "ring", "prices", "fine"] [g.m.o, .dct ((srt g.m.ms).map Mv.d), sqd tp (g.rs.map .int), sqd tp (g.P.map fun p => sqd tp (p.map .int)), encC g.fine]]) := by
  have many := ok.ok.many
  have hN := srt_len g.m.ms
  refine w_Ring___init__ ?_
  unfold m_Ring___init__
  repeat' (first | infer_instance | done)
  refine ⟨S, _, _, rfl, rfl, rfl, by decide, ?_⟩
  repeat' (first | infer_instance | done)
  rw [srt_eq]
  refine ⟨by rw [List.length_map]; omega, rp_eq (compL_map Mv.d (fun m : Mv => D.tup [m.d, .bl true]) (srt g.m.ms) fun m hm => ?_) ?_⟩
  · rw [e_Ring___init___1]
    repeat' (first | infer_instance | done)
  · refine ⟨_, pairKeys_mvs _, keyOk_mvs _, nodup_mvs (srt_nodup _), ?_⟩
    repeat' (first | infer_instance | done)
    refine ⟨S, _, _, rfl, rfl, rfl, by decide, ?_⟩
    repeat' (first | infer_instance | done)
    refine ⟨S, _, _, rfl, rfl, rfl, by decide, ?_⟩
    repeat' (first | infer_instance | done)
    refine ⟨S, _, _, rfl, rfl, rfl, by decide, ?_⟩
    repeat' (first | infer_instance | done)
    refine ⟨S, _, _, rfl, rfl, rfl, by decide, ?_⟩
    repeat' (first | infer_instance | done)
    rfl
theorem in_moves (g : Rg) (mv : Mv) : inDct mv.d (.dct ((srt g.m.ms).map Mv.d)) = some (decide (mv ∈ g.m.ms)) := by
  have h : keyOk mv.d = true := by
    unfold keyOk
    rw [num_mv]
    rfl
  unfold inDct
  dsimp only
  rw [if_pos ⟨h, keyOk_mvs _⟩]
  exact congrArg some (decide_eq_decide.mpr (mem_mvs.trans mem_srt))
theorem charge_ok (g : Rg) (tp : Bool) (x : Int) (k : Nat) (b c : Int) (hk : k < g.rs.length) (S : Store) : f_Ring_charge [g.o tp, .int x, .int (k : Int), .int b, .int c] S = .ret (encC (chg g.fine (g.ob k b c) x)) S := by
  refine w_Ring_charge ?_
  unfold m_Ring_charge
  have e1 : (g.rs.map D.int)[k]? = some (.int (g.rs.getD k 0)) := by
    rw [List.getElem?_map, List.getElem?_eq_getElem hk, List.getD_eq_getElem?_getD, List.getElem?_eq_getElem hk]
    rfl
  repeat' (first | infer_instance | done)
  refine sp_of (ix_sqd e1) ?_
  repeat' (first | infer_instance | done)
  refine sp_of (in_moves g ⟨g.rs.getD k 0, [b], c⟩) ?_
  repeat' (first | infer_instance | done)
  refine fp_ret (charged_ok _ _ _ _) ?_
  repeat' (first | infer_instance | done)
  rfl
end K10

set_option linter.all false
set_option maxRecDepth 100000
set_option maxHeartbeats 4000000
set_option autoImplicit false
namespace K10
open PySem PySem.Spec L2 DL PySem.W
local macro_rules
  | `(tactic| infer_instance) => `(tactic| first
    | (first | with_reducible refine op_seq ?_ | with_reducible refine sq_set (by simp only [List.set_cons_succ, List.set_cons_zero]; rfl) ?_ | with_reducible refine sq_nx ?_ | ((with_reducible refine id_v ?_); (refine rp_v rfl ?_)) | with_reducible refine rp_c ?_ | with_reducible refine rp_cons ?_ | with_reducible refine rp_nil ?_ | with_reducible refine rp_neg ?_ | with_reducible refine rp_lv ?_ | ((with_reducible refine id_lo ?_); (refine rp_lo rfl ?_)) | with_reducible refine op_asgN ?_)
    | (first | with_reducible refine op_asg ?_ | with_reducible refine op_setO ?_ | with_reducible refine op_if ?_ | with_reducible refine op_for ?_ | with_reducible refine op_next ?_ | with_reducible refine op_ret ?_ | with_reducible refine op_retO ?_ | ((with_reducible refine id_retV ?_); (refine op_retV rfl ?_)) | with_reducible refine op_retN ?_ | with_reducible refine op_drop ?_ | with_reducible refine op_dropX ?_)
    | (first | with_reducible refine op_asgX ?_ | with_reducible refine op_retX ?_ | with_reducible refine op_break ?_ | with_reducible refine op_cont ?_ | ((with_reducible refine id_frz ?_); (refine op_frz rfl (by simp only [List.set_cons_succ, List.set_cons_zero]; rfl) ?_)) | ((with_reducible refine id_locz ?_); (refine op_locz rfl (by simp only [List.set_cons_succ, List.set_cons_zero]; rfl) ?_)) | with_reducible refine sq_rt ?_ | with_reducible refine sq_ro ?_ | with_reducible refine sq_bk ?_ | with_reducible refine sq_ct ?_ | with_reducible refine sq_exc ?_)
    | (first | with_reducible refine lq_set (by simp only [List.set_cons_succ, List.set_cons_zero]; rfl) ?_ | with_reducible refine lq_nx ?_ | with_reducible refine lq_ct ?_ | with_reducible refine lq_bk ?_ | with_reducible refine lq_rt ?_ | with_reducible refine lq_ro ?_ | with_reducible refine lq_exc ?_ | with_reducible refine rp_call ?_ | with_reducible refine rp_callO ?_ | with_reducible refine rp_ix ?_ | with_reducible refine rp_b1 ?_)
    | (first | with_reducible refine rp_op ?_ | with_reducible refine rp_fAdd ?_ | with_reducible refine rp_fSub ?_ | with_reducible refine rp_fMin2 ?_ | with_reducible refine op_putF ?_ | with_reducible refine rp_methC ?_ | with_reducible refine rp_methCO ?_ | with_reducible refine rp_dictP ?_ | with_reducible refine rp_inDE ?_ | with_reducible refine rp_isC ?_ | with_reducible refine rp_make ?_)
    | (first | with_reducible refine rp_fMax2 ?_ | with_reducible refine rp_cmp ?_ | with_reducible refine rp_cmpT ?_ | with_reducible refine rp_chainP ?_ | with_reducible refine rp_chainTP ?_ | with_reducible refine rp_tru ?_ | with_reducible refine sp_tru_bl ?_ | with_reducible refine sp_tru_non ?_ | with_reducible refine sp_tru_int ?_ | with_reducible refine sp_tru_lst ?_ | with_reducible refine sp_tru_tup ?_)
    | (first | ((with_reducible refine id_truS ?_); (refine sp_tru_slot rfl ?_)) | with_reducible refine rp_notT ?_ | with_reducible refine rp_andT ?_ | with_reducible refine rp_orT ?_ | with_reducible refine rp_and ?_ | with_reducible refine rp_or ?_ | with_reducible refine rp_not ?_ | with_reducible refine rp_if ?_ | with_reducible refine rp_ifO ?_ | with_reducible refine rp_star ?_ | with_reducible refine rp_tup ?_)
    | (first | with_reducible refine rp_lst ?_ | with_reducible refine rp_f ?_ | with_reducible refine rp_new ?_ | with_reducible refine rp_in ?_ | with_reducible refine rp_inE ?_ | with_reducible refine rp_inB ?_ | with_reducible refine rp_inBE ?_ | with_reducible refine rp_pn ?_ | with_reducible refine rp_ps ?_ | with_reducible refine rp_sl ?_ | with_reducible refine rp_slO ?_)
    | (first | with_reducible refine rp_e1 ?_ | with_reducible refine rp_list ?_ | with_reducible refine rp_sortI ?_ | with_reducible refine rp_cat ?_ | with_reducible refine rp_rep ?_ | with_reducible refine rp_fld ?_ | with_reducible refine rp_isBE ?_ | with_reducible refine rp_eqL ?_ | with_reducible refine rp_iV ?_ | with_reducible refine rp_iR1 ?_ | with_reducible refine rp_iR2 ?_)
    | (first | with_reducible refine rp_iRev ?_ | with_reducible refine rp_iEnum ?_ | with_reducible refine rp_iZip ?_ | ((with_reducible refine id_comp ?_); (refine rp_comp rfl ?_)) | ((with_reducible refine id_appO ?_); (refine rp_appO rfl ?_)) | ((with_reducible refine id_extO ?_); (refine rp_extO rfl ?_)) | with_reducible refine len_le (by first | decide | (simp only [List.length_cons, List.length_nil, List.length_map, List.length_append]; omega)) ?_ | with_reducible refine len_lt (by first | decide | (simp only [List.length_cons, List.length_nil, List.length_map, List.length_append]; omega)) ?_ | with_reducible refine sp_mgN (by simp only [List.set_cons_succ, List.set_cons_zero]; rfl) ?_ | ((with_reducible refine id_mgT ?_); (refine sp_mgT rfl ?_)) | with_reducible refine sp_mgCons ?_)
    | (first | with_reducible refine sp_mgNil ?_ | with_reducible refine sp_lenL ?_ | with_reducible refine sp_lenT ?_ | with_reducible refine sp_cEqI ?_ | with_reducible refine sp_cNeI ?_ | with_reducible refine sp_cEqB ?_ | with_reducible refine sp_cNeB ?_ | with_reducible refine bp_t ?_ | with_reducible refine bp_f ?_ | with_reducible refine bp_nt ?_ | with_reducible refine bp_nf ?_)
    | (first | with_reducible refine bp_dt rfl ?_ | with_reducible refine bp_ndt rfl ?_ | with_reducible refine bp_dt (by decide) ?_ | with_reducible refine bp_df (by decide) ?_ | with_reducible refine bp_ndt (by decide) ?_ | with_reducible refine bp_ndf (by decide) ?_ | with_reducible refine bp_dt (by omega) ?_ | with_reducible refine bp_df (by omega) ?_ | with_reducible refine bp_ndt (by omega) ?_ | with_reducible refine bp_ndf (by omega) ?_ | with_reducible refine bp_qtup ?_)
    | (first | with_reducible refine bp_qint ?_ | with_reducible refine bp_nbl ?_ | with_reducible refine bp_nint ?_ | with_reducible refine bp_nstr ?_ | with_reducible refine bp_ntup ?_ | with_reducible refine bp_nlst ?_ | with_reducible refine bp_nloc ?_ | with_reducible refine bp_ct (by decide) ?_ | with_reducible refine bp_cf (by decide) ?_ | with_reducible refine sp_cEqS ?_ | with_reducible refine ex_int ?_)
    | (first | with_reducible refine st_eq ?_ | ((with_reducible refine id_sq ?_); (refine sp_of rfl ?_)) | with_reducible exact ⟨rfl, rfl⟩ | with_reducible exact rfl))

theorem enum_map {α : Type} (f : α → D) (xs : List α) (z : α) : enumD (xs.map f) = (List.range xs.length).map fun i : Nat => D.tup [.int (i : Int), f (xs.getD i z)] := by
  unfold enumD
  apply List.ext_getElem?
  intro i
  rw [List.getElem?_map, List.getElem?_zipIdx, List.getElem?_map, List.getElem?_map]
  by_cases h : i < xs.length
  · rw [List.getElem?_range h, List.getElem?_eq_getElem h]
    simp [List.getD_eq_getElem?_getD, h]
  · rw [List.getElem?_eq_none (by omega), List.getElem?_eq_none (by simp; omega)]
    rfl
def Rg.stp (g : Rg) (k o l : Nat) (p : Option CL) : Option CL := p.bind fun p => (chg g.fine (g.ob k o l) (p.1 + g.pr k l)).map fun c => (c, p.2 ++ [(l : Int)])
def Rg.row (g : Rg) (k : Nat) (before : List (Option CL)) : List (Option CL) := (List.range g.B).map fun l : Nat => minL ((List.range before.length).map fun o : Nat => g.stp k o l (before.getD o none))
theorem bt_none (a : Option CL) : bt a none = a := by cases a <;> rfl
theorem minL_add (f : Nat → Option CL) (done : List Nat) (o : Nat) : minL ((done ++ [o]).map f) = bt (minL (done.map f)) (f o) := by
  rw [List.map_append]
  exact minL_snoc _ _
theorem price_k {g : Rg} (ok : RgOk g) {k : Nat} (hk : k < g.rs.length) (tp : Bool) : (g.P.map fun p => sqd tp (p.map .int))[k]? = some (sqd tp ((g.P.getD k []).map .int)) := by
  have := ok.pl
  rw [List.getElem?_map, List.getD_eq_getElem?_getD, List.getElem?_eq_getElem (by omega)]
  rfl
theorem price_l {g : Rg} (ok : RgOk g) {k l : Nat} (hk : k < g.rs.length) (hl : l < g.B) : ((g.P.getD k []).map D.int)[l]? = some (.int (g.pr k l)) := by
  have h1 := ok.pl
  have e : g.P.getD k [] = g.P[k]'(by omega) := by
    rw [List.getD_eq_getElem?_getD, List.getElem?_eq_getElem (by omega)]
    rfl
  have h2 := ok.pw (g.P[k]'(by omega)) (List.getElem_mem _)
  unfold Rg.pr
  rw [e, List.getElem?_map, List.getD_eq_getElem?_getD, List.getElem?_eq_getElem (by omega)]
  rfl
def short (ps : List (Option CL)) : Prop := ∀ p, some p ∈ ps → p.2.length ≤ 100
theorem short_at {ps : List (Option CL)} (h : short ps) {o : Nat} {p : CL} (e : ps.getD o none = some p) : p.2.length ≤ 100 := by
  rw [List.getD_eq_getElem?_getD] at e
  refine h p ?_
  cases z : ps[o]? with
  | none => rw [z] at e; cases e
  | some q =>
    rw [z] at e
    change q = some p at e
    exact e ▸ List.mem_of_getElem? z
theorem row_loop {g : Rg} (ok : RgOk g) (tp : Bool) {k l : Nat} (hk : k < g.rs.length) (hl : l < g.B) {before : List (Option CL)} (hs : short before) {S : Store} {x2 x3 x6 x7 x8 : Option Sl} {Q : Out → Prop}
    (h : ∀ y6 y7 y8, Q (.nx [some (.val (g.o tp)), iv (k : Int), x2, x3, iv (l : Int), some (.val (encP (minL ((List.range before.length).map fun o : Nat => g.stp k o l (before.getD o none))))), y6, y7, y8] S)) :
    OQ (forL (mgT 2 (mgCons (mgN 6) (mgCons (mgN 7) mgNil))) b_Ring_row_1 ((List.range before.length).map fun i : Nat => D.tup [.int (i : Int), encP (before.getD i none)]) [some (.val (g.o tp)), iv (k : Int), x2, x3, iv (l : Int), some (.val .non), x6, x7, x8] S) Q := by
  refine forL_inv (fun i : Nat => D.tup [.int (i : Int), encP (before.getD i none)]) (List.range before.length) (fun done env S' => S' = S ∧ ∃ y6 y7 y8, env = [some (.val (g.o tp)), iv (k : Int), x2, x3, iv (l : Int), some (.val (encP (minL (done.map fun o : Nat => g.stp k o l (before.getD o none))))), y6, y7, y8]) ?_ ⟨rfl, x6, x7, x8, rfl⟩ ?_
  · rintro done o rest env S' e ⟨rfl, y6, y7, y8, rfl⟩
    rw [minL_add (fun o : Nat => g.stp k o l (before.getD o none)) done o]
    generalize minL (done.map fun o : Nat => g.stp k o l (before.getD o none)) = best
    cases ep : before.getD o none with
    | none =>
      rw [b_Ring_row_1, show g.stp k o l none = none from rfl, bt_none]
      show SQ (mgT _ _ (.tup [.int (o : Int), .non]) _) _
      repeat' (first | infer_instance | done)
      exact ⟨_, _, _, rfl⟩
    | some p =>
      have hp := short_at hs ep
      rw [b_Ring_row_1]
      show SQ (mgT _ _ (.tup [.int (o : Int), .tup [.int p.1, .lst (p.2.map .int)]]) _) _
      repeat' (first | infer_instance | done)
      refine ⟨rfl, ?_⟩
      repeat' (first | infer_instance | done)
      refine sp_of (ix_sqd (price_k ok hk tp)) ?_
      repeat' (first | infer_instance | done)
      refine sp_of (ix_sqd (price_l ok hk hl)) ?_
      repeat' (first | infer_instance | done)
      refine fp_ret (charge_ok g tp _ k _ _ hk _) ?_
      repeat' (first | infer_instance | done)
      rw [show g.stp k o l (some p) = (chg g.fine (g.ob k o l) (p.1 + g.pr k l)).map fun c => (c, p.2 ++ [(l : Int)]) from rfl]
      cases ec : chg g.fine (g.ob k o l) (p.1 + g.pr k l) with
      | none =>
        dsimp only [encC]
        repeat' (first | infer_instance | done)
        rw [Option.map_none, bt_none]
        exact ⟨_, _, _, rfl⟩
      | some c =>
        dsimp only [encC]
        repeat' (first | infer_instance | done)
        refine bp_qint ?_
        repeat' (first | infer_instance | done)
        refine fp_ret (d := encP (bt best (some (c, p.2 ++ [(l : Int)])))) (S1 := S') ?_ ?_
        · rw [← better_ok best (some (c, p.2 ++ [(l : Int)])) S']
          simp [encP]
        · repeat' (first | infer_instance | done)
          exact ⟨_, _, _, rfl⟩
  · rintro env S' ⟨rfl, y6, y7, y8, rfl⟩
    exact h y6 y7 y8
theorem row_ok {g : Rg} (ok : RgOk g) (tp : Bool) {k : Nat} (hk : k < g.rs.length) {before : List (Option CL)} (hs : short before) (hb : before.length ≤ 1000) (S : Store) : f_Ring_row [g.o tp, .int (k : Int), .lst (before.map encP)] S = .own ((g.row k before).map encP) S := by
  obtain ⟨eB, hB0, hB⟩ := ok.bB
  refine w_Ring_row ?_
  unfold m_Ring_row
  repeat' (first | infer_instance | done)
  refine ⟨by constructor <;> omega, ?_⟩
  repeat' (first | infer_instance | done)
  rw [rng_ints]
  change OQ (forL (mgN 4) b_Ring_row_2 ((List.range g.B).map fun i : Nat => D.int (i : Int)) _ S) _
  refine forL_inv (fun i : Nat => D.int (i : Int)) (List.range g.B) (fun done env S' => S' = S ∧ ∃ y4 y5 y6 y7 y8, env = [some (.val (g.o tp)), iv (k : Int), some (.val (.lst (before.map encP))), some (.own ((done.map fun l : Nat => minL ((List.range before.length).map fun o : Nat => g.stp k o l (before.getD o none))).map encP)), y4, y5, y6, y7, y8]) ?_ ⟨rfl, none, none, none, none, none, rfl⟩ ?_
  · rintro done l rest env S' e ⟨rfl, y4, y5, y6, y7, y8, rfl⟩
    have hl : l < g.B := List.mem_range.mp (by rw [e]; simp)
    have hd : done.length ≤ g.B := by have := congrArg List.length e; simp at this; omega
    rw [b_Ring_row_2]
    repeat' (first | infer_instance | done)
    rw [enum_map encP before none]
    refine row_loop ok tp hk hl hs fun z6 z7 z8 => ?_
    repeat' (first | infer_instance | done)
    rw [List.map_append, List.map_append]
    exact ⟨_, _, _, _, _, rfl⟩
  · rintro env S' ⟨rfl, y4, y5, y6, y7, y8, rfl⟩
    repeat' (first | infer_instance | done)
    rfl
def Rg.cls (g : Rg) (f : Nat) (last : List (Option CL)) : Option CL := minL ((List.range last.length).map fun o : Nat => (last.getD o none).bind fun p => (chg g.fine (g.ob 0 o f) (p.1 + g.pr 0 f)).map fun c => (c, p.2))
theorem closed_ok {g : Rg} (ok : RgOk g) (tp : Bool) {f : Nat} (hf : f < g.B) {last : List (Option CL)} (hs : short last) (hb : last.length ≤ 1000) (S : Store) : f_Ring_closed [g.o tp, .int (f : Int), .lst (last.map encP)] S = .ret (encP (g.cls f last)) S := by
  have hk := ok.n0
  refine w_Ring_closed ?_
  unfold m_Ring_closed
  repeat' (first | infer_instance | done)
  rw [enum_map encP last none]
  refine forL_inv (fun i : Nat => D.tup [.int (i : Int), encP (last.getD i none)]) (List.range last.length) (fun done env S' => S' = S ∧ ∃ y4 y5 y6, env = [some (.val (g.o tp)), iv (f : Int), some (.val (.lst (last.map encP))), some (.val (encP (minL (done.map fun o : Nat => (last.getD o none).bind fun p => (chg g.fine (g.ob 0 o f) (p.1 + g.pr 0 f)).map fun c => (c, p.2))))), y4, y5, y6]) ?_ ⟨rfl, none, none, none, rfl⟩ ?_
  · rintro done o rest env S' e ⟨rfl, y4, y5, y6, rfl⟩
    rw [minL_add (fun o : Nat => (last.getD o none).bind fun p => (chg g.fine (g.ob 0 o f) (p.1 + g.pr 0 f)).map fun c => (c, p.2)) done o]
    generalize minL (done.map fun o : Nat => (last.getD o none).bind fun p => (chg g.fine (g.ob 0 o f) (p.1 + g.pr 0 f)).map fun c => (c, p.2)) = best
    cases ep : last.getD o none with
    | none =>
      rw [b_Ring_closed_1, Option.bind_none, bt_none]
      show SQ (mgT _ _ (.tup [.int (o : Int), .non]) _) _
      repeat' (first | infer_instance | done)
      exact ⟨_, _, _, rfl⟩
    | some p =>
      have hp := short_at hs ep
      rw [b_Ring_closed_1]
      show SQ (mgT _ _ (.tup [.int (o : Int), .tup [.int p.1, .lst (p.2.map .int)]]) _) _
      repeat' (first | infer_instance | done)
      refine ⟨rfl, ?_⟩
      repeat' (first | infer_instance | done)
      refine sp_of (ix_sqd (price_k ok hk tp)) ?_
      repeat' (first | infer_instance | done)
      refine sp_of (ix_sqd (price_l ok hk hf)) ?_
      repeat' (first | infer_instance | done)
      refine fp_ret (charge_ok g tp _ 0 _ _ hk _) ?_
      repeat' (first | infer_instance | done)
      rw [Option.bind_some]
      cases ec : chg g.fine (g.ob 0 o f) (p.1 + g.pr 0 f) with
      | none =>
        dsimp only [encC]
        repeat' (first | infer_instance | done)
        rw [Option.map_none, bt_none]
        exact ⟨_, _, _, rfl⟩
      | some c =>
        dsimp only [encC]
        repeat' (first | infer_instance | done)
        refine bp_qint ?_
        repeat' (first | infer_instance | done)
        refine fp_ret (better_ok best (some (c, p.2)) S') ?_
        repeat' (first | infer_instance | done)
        exact ⟨_, _, _, rfl⟩
  · rintro env S' ⟨rfl, y4, y5, y6, rfl⟩
    repeat' (first | infer_instance | done)
    rfl
end K10

set_option linter.all false
set_option maxRecDepth 100000
set_option maxHeartbeats 4000000
set_option autoImplicit false
namespace K10
open PySem PySem.Spec L2 DL PySem.W
local macro_rules
  | `(tactic| infer_instance) => `(tactic| first
    | (first | with_reducible refine op_seq ?_ | with_reducible refine sq_set (by simp only [List.set_cons_succ, List.set_cons_zero]; rfl) ?_ | with_reducible refine sq_nx ?_ | ((with_reducible refine id_v ?_); (refine rp_v rfl ?_)) | with_reducible refine rp_c ?_ | with_reducible refine rp_cons ?_ | with_reducible refine rp_nil ?_ | with_reducible refine rp_neg ?_ | with_reducible refine rp_lv ?_ | ((with_reducible refine id_lo ?_); (refine rp_lo rfl ?_)) | with_reducible refine op_asgN ?_)
    | (first | with_reducible refine op_asg ?_ | with_reducible refine op_setO ?_ | with_reducible refine op_if ?_ | with_reducible refine op_for ?_ | with_reducible refine op_next ?_ | with_reducible refine op_ret ?_ | with_reducible refine op_retO ?_ | ((with_reducible refine id_retV ?_); (refine op_retV rfl ?_)) | with_reducible refine op_retN ?_ | with_reducible refine op_drop ?_ | with_reducible refine op_dropX ?_)
    | (first | with_reducible refine op_asgX ?_ | with_reducible refine op_retX ?_ | with_reducible refine op_break ?_ | with_reducible refine op_cont ?_ | ((with_reducible refine id_frz ?_); (refine op_frz rfl (by simp only [List.set_cons_succ, List.set_cons_zero]; rfl) ?_)) | ((with_reducible refine id_locz ?_); (refine op_locz rfl (by simp only [List.set_cons_succ, List.set_cons_zero]; rfl) ?_)) | with_reducible refine sq_rt ?_ | with_reducible refine sq_ro ?_ | with_reducible refine sq_bk ?_ | with_reducible refine sq_ct ?_ | with_reducible refine sq_exc ?_)
    | (first | with_reducible refine lq_set (by simp only [List.set_cons_succ, List.set_cons_zero]; rfl) ?_ | with_reducible refine lq_nx ?_ | with_reducible refine lq_ct ?_ | with_reducible refine lq_bk ?_ | with_reducible refine lq_rt ?_ | with_reducible refine lq_ro ?_ | with_reducible refine lq_exc ?_ | with_reducible refine rp_call ?_ | with_reducible refine rp_callO ?_ | with_reducible refine rp_ix ?_ | with_reducible refine rp_b1 ?_)
    | (first | with_reducible refine rp_op ?_ | with_reducible refine rp_fAdd ?_ | with_reducible refine rp_fSub ?_ | with_reducible refine rp_fMin2 ?_ | with_reducible refine op_putF ?_ | with_reducible refine rp_methC ?_ | with_reducible refine rp_methCO ?_ | with_reducible refine rp_dictP ?_ | with_reducible refine rp_inDE ?_ | with_reducible refine rp_isC ?_ | with_reducible refine rp_make ?_)
    | (first | with_reducible refine rp_fMax2 ?_ | with_reducible refine rp_cmp ?_ | with_reducible refine rp_cmpT ?_ | with_reducible refine rp_chainP ?_ | with_reducible refine rp_chainTP ?_ | with_reducible refine rp_tru ?_ | with_reducible refine sp_tru_bl ?_ | with_reducible refine sp_tru_non ?_ | with_reducible refine sp_tru_int ?_ | with_reducible refine sp_tru_lst ?_ | with_reducible refine sp_tru_tup ?_)
    | (first | ((with_reducible refine id_truS ?_); (refine sp_tru_slot rfl ?_)) | with_reducible refine rp_notT ?_ | with_reducible refine rp_andT ?_ | with_reducible refine rp_orT ?_ | with_reducible refine rp_and ?_ | with_reducible refine rp_or ?_ | with_reducible refine rp_not ?_ | with_reducible refine rp_if ?_ | with_reducible refine rp_ifO ?_ | with_reducible refine rp_star ?_ | with_reducible refine rp_tup ?_)
    | (first | with_reducible refine rp_lst ?_ | with_reducible refine rp_f ?_ | with_reducible refine rp_new ?_ | with_reducible refine rp_in ?_ | with_reducible refine rp_inE ?_ | with_reducible refine rp_inB ?_ | with_reducible refine rp_inBE ?_ | with_reducible refine rp_pn ?_ | with_reducible refine rp_ps ?_ | with_reducible refine rp_sl ?_ | with_reducible refine rp_slO ?_)
    | (first | with_reducible refine rp_e1 ?_ | with_reducible refine rp_list ?_ | with_reducible refine rp_sortI ?_ | with_reducible refine rp_cat ?_ | with_reducible refine rp_rep ?_ | with_reducible refine rp_fld ?_ | with_reducible refine rp_isBE ?_ | with_reducible refine rp_eqL ?_ | with_reducible refine rp_iV ?_ | with_reducible refine rp_iR1 ?_ | with_reducible refine rp_iR2 ?_)
    | (first | with_reducible refine rp_iRev ?_ | with_reducible refine rp_iEnum ?_ | with_reducible refine rp_iZip ?_ | ((with_reducible refine id_comp ?_); (refine rp_comp rfl ?_)) | ((with_reducible refine id_appO ?_); (refine rp_appO rfl ?_)) | ((with_reducible refine id_extO ?_); (refine rp_extO rfl ?_)) | with_reducible refine len_le (by first | decide | (simp only [List.length_cons, List.length_nil, List.length_map, List.length_append]; omega)) ?_ | with_reducible refine len_lt (by first | decide | (simp only [List.length_cons, List.length_nil, List.length_map, List.length_append]; omega)) ?_ | with_reducible refine sp_mgN (by simp only [List.set_cons_succ, List.set_cons_zero]; rfl) ?_ | ((with_reducible refine id_mgT ?_); (refine sp_mgT rfl ?_)) | with_reducible refine sp_mgCons ?_)
    | (first | with_reducible refine sp_mgNil ?_ | with_reducible refine sp_lenL ?_ | with_reducible refine sp_lenT ?_ | with_reducible refine sp_cEqI ?_ | with_reducible refine sp_cNeI ?_ | with_reducible refine sp_cEqB ?_ | with_reducible refine sp_cNeB ?_ | with_reducible refine bp_t ?_ | with_reducible refine bp_f ?_ | with_reducible refine bp_nt ?_ | with_reducible refine bp_nf ?_)
    | (first | with_reducible refine bp_dt rfl ?_ | with_reducible refine bp_ndt rfl ?_ | with_reducible refine bp_dt (by decide) ?_ | with_reducible refine bp_df (by decide) ?_ | with_reducible refine bp_ndt (by decide) ?_ | with_reducible refine bp_ndf (by decide) ?_ | with_reducible refine bp_dt (by omega) ?_ | with_reducible refine bp_df (by omega) ?_ | with_reducible refine bp_ndt (by omega) ?_ | with_reducible refine bp_ndf (by omega) ?_ | with_reducible refine bp_qtup ?_)
    | (first | with_reducible refine bp_qint ?_ | with_reducible refine bp_nbl ?_ | with_reducible refine bp_nint ?_ | with_reducible refine bp_nstr ?_ | with_reducible refine bp_ntup ?_ | with_reducible refine bp_nlst ?_ | with_reducible refine bp_nloc ?_ | with_reducible refine bp_ct (by decide) ?_ | with_reducible refine bp_cf (by decide) ?_ | with_reducible refine sp_cEqS ?_ | with_reducible refine ex_int ?_)
    | (first | with_reducible refine st_eq ?_ | ((with_reducible refine id_sq ?_); (refine sp_of rfl ?_)) | with_reducible exact ⟨rfl, rfl⟩ | with_reducible exact rfl))

def Rg.row0 (g : Rg) (f : Nat) : List (Option CL) := (List.range g.B).map fun l : Nat => if l = f then some (0, [(f : Int)]) else none
def Rg.rws (g : Rg) (f : Nat) : Nat → List (Option CL)
  | 0 => g.row0 f
  | k + 1 => g.row (k + 1) (g.rws f k)
theorem Rg.rws_len (g : Rg) (f : Nat) : ∀ k, (g.rws f k).length = g.B
  | 0 => by simp [Rg.rws, Rg.row0]
  | k + 1 => by simp [Rg.rws, Rg.row]
theorem mem_minL {xs : List (Option CL)} {y : CL} (h : minL xs = some y) : some y ∈ xs := by
  have := minL_is xs
  rw [h] at this
  exact this.1
theorem Rg.rws_short (g : Rg) (f : Nat) : ∀ k p, some p ∈ g.rws f k → p.2.length = k + 1
  | 0, p, h => by
    rw [Rg.rws, Rg.row0, List.mem_map] at h
    obtain ⟨l, _, e⟩ := h
    by_cases c : l = f
    · rw [if_pos c] at e
      cases e
      rfl
    · rw [if_neg c] at e
      cases e
  | k + 1, p, h => by
    rw [Rg.rws, Rg.row, List.mem_map] at h
    obtain ⟨l, _, e⟩ := h
    obtain ⟨o, ho, e⟩ := List.mem_map.mp (mem_minL e)
    have ho := List.mem_range.mp ho
    rw [List.getD_eq_getElem?_getD, List.getElem?_eq_getElem ho] at e
    change g.stp (k + 1) o l (g.rws f k)[o] = some p at e
    cases eq : (g.rws f k)[o] with
    | none => rw [eq] at e; cases e
    | some q =>
      have := g.rws_short f k q (eq ▸ List.getElem_mem ho)
      rw [eq] at e
      change (chg g.fine (g.ob (k + 1) o l) (q.1 + g.pr (k + 1) l)).map (fun c => (c, q.2 ++ [(l : Int)])) = some p at e
      cases ec : chg g.fine (g.ob (k + 1) o l) (q.1 + g.pr (k + 1) l) with
      | none => rw [ec] at e; cases e
      | some c =>
        rw [ec] at e
        cases e
        simp [this]
theorem short_rws (g : Rg) (f k : Nat) (h : k ≤ 10) : short (g.rws f k) := fun p hp => by
  have := g.rws_short f k p hp
  omega
theorem rng_one (n : Nat) : rng 1 n = (List.range n).map fun i : Nat => D.int ((i + 1 : Nat) : Int) := by
  unfold rng
  apply List.map_congr_left
  intro i _
  congr 1
  omega
theorem atI_last {α : Type} (xs : List α) (x : α) : atI (xs ++ [x]) (-1) = some x := by
  unfold atI ixN
  rw [if_neg (by omega), if_pos (by simp; omega)]
  simp only [List.length_append, List.length_singleton, Option.bind_some]
  rw [show ((-1 : Int) + ((xs.length + 1 : Nat) : Int)).toNat = xs.length by omega]
  simp
theorem mk_len {env : DL.Env} {S : Store} {tp : Bool} {f : Int → D} {xs : List Int} {Q : D → Prop} (h : Q (.int (xs.length : Nat))) : SQ ((ctL env S (.val (sqd tp (xs.map f)))).bind fLen) Q := by
  cases tp with
  | true => exact sp_lenT h
  | false => exact sp_lenL h
abbrev rowD (r : List (Option CL)) : D := .lst (r.map encP)
theorem rows_ok {g : Rg} (ok : RgOk g) (tp : Bool) {f : Nat} (hf : f < g.B) (S : Store) : f_Ring_rows [g.o tp, .int (f : Int)] S = .own ((List.range g.rs.length).map fun k => rowD (g.rws f k)) S := by
  obtain ⟨eB, hB0, hB⟩ := ok.bB
  have n0 := ok.n0
  have hn := ok.n
  refine w_Ring_rows ?_
  unfold m_Ring_rows
  repeat' (first | infer_instance | done)
  refine ⟨by constructor <;> omega, ?_⟩
  rw [rng_ints]
  change (_ ≤ _) ∧ RQ (compL _ _ _ _ _ ((List.range g.B).map fun i : Nat => D.int (i : Int)) S) _ _
  refine ⟨by simp; omega, rp_eq (compL_map (fun i : Nat => D.int (i : Int)) (fun l : Nat => encP (if l = f then some (0, [(f : Int)]) else none)) (List.range g.B) fun l hl => ?_) ?_⟩
  · rw [e_Ring_rows_1]
    repeat' (first | infer_instance | done)
    by_cases c : l = f
    · subst c
      rw [if_pos rfl]
      repeat' (first | infer_instance | done)
    · rw [if_neg c]
      repeat' (first | infer_instance | done)
  · repeat' (first | infer_instance | done)
    refine mk_len ?_
    repeat' (first | infer_instance | done)
    refine ⟨1, _, rfl, rfl, by constructor <;> omega, ?_⟩
    rw [rng_one, show (((g.rs.length : Nat) : Int) - 1).toNat = g.rs.length - 1 by omega, show ((List.range g.B).map fun l : Nat => encP (if l = f then some (0, [(f : Int)]) else none)) = (g.row0 f).map encP from by rw [Rg.row0, List.map_map]; rfl]
    refine forL_inv (fun i : Nat => D.int ((i + 1 : Nat) : Int)) (List.range (g.rs.length - 1)) (fun done env S' => S' = S ∧ ∃ y2 y4, env = [some (.val (g.o tp)), iv (f : Int), y2, some (.own ((List.range (done.length + 1)).map fun k => rowD (g.rws f k))), y4, none]) ?_ ⟨rfl, _, none, rfl⟩ ?_
    · rintro done i rest env S' e ⟨rfl, y2, y4, rfl⟩
      have hi : i = done.length ∧ i < g.rs.length - 1 := by
        have h1 : (List.range (g.rs.length - 1))[done.length]? = some i := by rw [e]; simp
        have := (List.getElem?_eq_some_iff.mp h1).1
        rw [List.getElem?_range (by simpa using this)] at h1
        simp at h1 this
        omega
      obtain ⟨rfl, hi⟩ := hi
      rw [b_Ring_rows_2]
      repeat' (first | infer_instance | done)
      refine ⟨rfl, ?_⟩
      repeat' (first | infer_instance | done)
      refine sp_of (a := rowD (g.rws f done.length)) ?_ ?_
      · show atI ((List.range (done.length + 1)).map fun k => rowD (g.rws f k)) (-1) = _
        rw [List.range_succ, List.map_append]
        exact atI_last _ _
      · repeat' (first | infer_instance | done)
        refine gp_own (row_ok ok tp (k := done.length + 1) (by omega) (short_rws g f _ (by omega)) (by rw [g.rws_len]; omega) _) ?_
        repeat' (first | infer_instance | done)
        refine ⟨by simp; omega, ?_⟩
        repeat' (first | infer_instance | done)
        rw [List.length_append, List.length_singleton, List.range_succ (n := done.length + 1), List.map_append]
        exact ⟨_, _, rfl⟩
    · rintro env S' ⟨rfl, y2, y4, rfl⟩
      repeat' (first | infer_instance | done)
      rw [List.length_range, show g.rs.length - 1 + 1 = g.rs.length by omega]
      rfl
end K10

set_option linter.all false
set_option maxRecDepth 100000
set_option maxHeartbeats 4000000
set_option autoImplicit false
namespace K10
open PySem PySem.Spec L2 DL PySem.W
local macro_rules
  | `(tactic| infer_instance) => `(tactic| first
    | (first | with_reducible refine op_seq ?_ | with_reducible refine sq_set (by simp only [List.set_cons_succ, List.set_cons_zero]; rfl) ?_ | with_reducible refine sq_nx ?_ | ((with_reducible refine id_v ?_); (refine rp_v rfl ?_)) | with_reducible refine rp_c ?_ | with_reducible refine rp_cons ?_ | with_reducible refine rp_nil ?_ | with_reducible refine rp_neg ?_ | with_reducible refine rp_lv ?_ | ((with_reducible refine id_lo ?_); (refine rp_lo rfl ?_)) | with_reducible refine op_asgN ?_)
    | (first | with_reducible refine op_asg ?_ | with_reducible refine op_setO ?_ | with_reducible refine op_if ?_ | with_reducible refine op_for ?_ | with_reducible refine op_next ?_ | with_reducible refine op_ret ?_ | with_reducible refine op_retO ?_ | ((with_reducible refine id_retV ?_); (refine op_retV rfl ?_)) | with_reducible refine op_retN ?_ | with_reducible refine op_drop ?_ | with_reducible refine op_dropX ?_)
    | (first | with_reducible refine op_asgX ?_ | with_reducible refine op_retX ?_ | with_reducible refine op_break ?_ | with_reducible refine op_cont ?_ | ((with_reducible refine id_frz ?_); (refine op_frz rfl (by simp only [List.set_cons_succ, List.set_cons_zero]; rfl) ?_)) | ((with_reducible refine id_locz ?_); (refine op_locz rfl (by simp only [List.set_cons_succ, List.set_cons_zero]; rfl) ?_)) | with_reducible refine sq_rt ?_ | with_reducible refine sq_ro ?_ | with_reducible refine sq_bk ?_ | with_reducible refine sq_ct ?_ | with_reducible refine sq_exc ?_)
    | (first | with_reducible refine lq_set (by simp only [List.set_cons_succ, List.set_cons_zero]; rfl) ?_ | with_reducible refine lq_nx ?_ | with_reducible refine lq_ct ?_ | with_reducible refine lq_bk ?_ | with_reducible refine lq_rt ?_ | with_reducible refine lq_ro ?_ | with_reducible refine lq_exc ?_ | with_reducible refine rp_call ?_ | with_reducible refine rp_callO ?_ | with_reducible refine rp_ix ?_ | with_reducible refine rp_b1 ?_)
    | (first | with_reducible refine rp_op ?_ | with_reducible refine rp_fAdd ?_ | with_reducible refine rp_fSub ?_ | with_reducible refine rp_fMin2 ?_ | with_reducible refine op_putF ?_ | with_reducible refine rp_methC ?_ | with_reducible refine rp_methCO ?_ | with_reducible refine rp_dictP ?_ | with_reducible refine rp_inDE ?_ | with_reducible refine rp_isC ?_ | with_reducible refine rp_make ?_)
    | (first | with_reducible refine rp_fMax2 ?_ | with_reducible refine rp_cmp ?_ | with_reducible refine rp_cmpT ?_ | with_reducible refine rp_chainP ?_ | with_reducible refine rp_chainTP ?_ | with_reducible refine rp_tru ?_ | with_reducible refine sp_tru_bl ?_ | with_reducible refine sp_tru_non ?_ | with_reducible refine sp_tru_int ?_ | with_reducible refine sp_tru_lst ?_ | with_reducible refine sp_tru_tup ?_)
    | (first | ((with_reducible refine id_truS ?_); (refine sp_tru_slot rfl ?_)) | with_reducible refine rp_notT ?_ | with_reducible refine rp_andT ?_ | with_reducible refine rp_orT ?_ | with_reducible refine rp_and ?_ | with_reducible refine rp_or ?_ | with_reducible refine rp_not ?_ | with_reducible refine rp_if ?_ | with_reducible refine rp_ifO ?_ | with_reducible refine rp_star ?_ | with_reducible refine rp_tup ?_)
    | (first | with_reducible refine rp_lst ?_ | with_reducible refine rp_f ?_ | with_reducible refine rp_new ?_ | with_reducible refine rp_in ?_ | with_reducible refine rp_inE ?_ | with_reducible refine rp_inB ?_ | with_reducible refine rp_inBE ?_ | with_reducible refine rp_pn ?_ | with_reducible refine rp_ps ?_ | with_reducible refine rp_sl ?_ | with_reducible refine rp_slO ?_)
    | (first | with_reducible refine rp_e1 ?_ | with_reducible refine rp_list ?_ | with_reducible refine rp_sortI ?_ | with_reducible refine rp_cat ?_ | with_reducible refine rp_rep ?_ | with_reducible refine rp_fld ?_ | with_reducible refine rp_isBE ?_ | with_reducible refine rp_eqL ?_ | with_reducible refine rp_iV ?_ | with_reducible refine rp_iR1 ?_ | with_reducible refine rp_iR2 ?_)
    | (first | with_reducible refine rp_iRev ?_ | with_reducible refine rp_iEnum ?_ | with_reducible refine rp_iZip ?_ | ((with_reducible refine id_comp ?_); (refine rp_comp rfl ?_)) | ((with_reducible refine id_appO ?_); (refine rp_appO rfl ?_)) | ((with_reducible refine id_extO ?_); (refine rp_extO rfl ?_)) | with_reducible refine len_le (by first | decide | (simp only [List.length_cons, List.length_nil, List.length_map, List.length_append]; omega)) ?_ | with_reducible refine len_lt (by first | decide | (simp only [List.length_cons, List.length_nil, List.length_map, List.length_append]; omega)) ?_ | with_reducible refine sp_mgN (by simp only [List.set_cons_succ, List.set_cons_zero]; rfl) ?_ | ((with_reducible refine id_mgT ?_); (refine sp_mgT rfl ?_)) | with_reducible refine sp_mgCons ?_)
    | (first | with_reducible refine sp_mgNil ?_ | with_reducible refine sp_lenL ?_ | with_reducible refine sp_lenT ?_ | with_reducible refine sp_cEqI ?_ | with_reducible refine sp_cNeI ?_ | with_reducible refine sp_cEqB ?_ | with_reducible refine sp_cNeB ?_ | with_reducible refine bp_t ?_ | with_reducible refine bp_f ?_ | with_reducible refine bp_nt ?_ | with_reducible refine bp_nf ?_)
    | (first | with_reducible refine bp_dt rfl ?_ | with_reducible refine bp_ndt rfl ?_ | with_reducible refine bp_dt (by decide) ?_ | with_reducible refine bp_df (by decide) ?_ | with_reducible refine bp_ndt (by decide) ?_ | with_reducible refine bp_ndf (by decide) ?_ | with_reducible refine bp_dt (by omega) ?_ | with_reducible refine bp_df (by omega) ?_ | with_reducible refine bp_ndt (by omega) ?_ | with_reducible refine bp_ndf (by omega) ?_ | with_reducible refine bp_qtup ?_)
    | (first | with_reducible refine bp_qint ?_ | with_reducible refine bp_nbl ?_ | with_reducible refine bp_nint ?_ | with_reducible refine bp_nstr ?_ | with_reducible refine bp_ntup ?_ | with_reducible refine bp_nlst ?_ | with_reducible refine bp_nloc ?_ | with_reducible refine bp_ct (by decide) ?_ | with_reducible refine bp_cf (by decide) ?_ | with_reducible refine sp_cEqS ?_ | with_reducible refine ex_int ?_)
    | (first | with_reducible refine st_eq ?_ | ((with_reducible refine id_sq ?_); (refine sp_of rfl ?_)) | with_reducible exact ⟨rfl, rfl⟩ | with_reducible exact rfl))

/-! ### the best labels of a ring -/
theorem low_sqd {tp : Bool} {xs : List D} (h : D.lows 0 xs = true) : D.low 0 (sqd tp xs) = true := by
  cases tp with
  | true => exact h
  | false => exact h
theorem low_encC (x : Option Int) : D.low 0 (encC x) = true := by cases x <;> rfl
theorem lows_map {α : Type} {f : α → D} {xs : List α} (h : ∀ x ∈ xs, D.low 0 (f x) = true) : D.lows 0 (xs.map f) = true := by
  rw [lows_all, List.all_eq_true]
  intro d hd
  obtain ⟨x, hx, rfl⟩ := List.mem_map.mp hd
  exact h x hx
theorem low_ring (g : Rg) (tp : Bool) : D.lows 0 [g.m.o, .dct ((srt g.m.ms).map Mv.d), sqd tp (g.rs.map .int), sqd tp (g.P.map fun p => sqd tp (p.map .int)), encC g.fine] = true := by
  have h1 : D.low 0 g.m.o = true := low_o g.m
  have h2 : D.low 0 (.dct ((srt g.m.ms).map Mv.d)) = true := lows_map fun x _ => low_mv x
  have h3 : D.low 0 (sqd tp (g.rs.map .int)) = true := low_sqd (lows_map fun x _ => rfl)
  have h4 : D.low 0 (sqd tp (g.P.map fun p => sqd tp (p.map .int))) = true := low_sqd (lows_map fun x _ => low_sqd (lows_map fun x _ => rfl))
  have h5 := low_encC g.fine
  simp only [D.lows, h1, h2, h3, h4, h5, Bool.and_self]
theorem all_low {S : Store} (lw : AllLow S) : S.all (Ob.low S.length) = true := by
  rw [List.all_eq_true]
  exact fun o ho => ob_low_up _ o (lw o ho)
abbrev fndD (kind cost : D) (ls ns es : List D) : D := .ins 1 ["kind", "cost", "labels", "numbers", "ends"] [kind, cost, .lst ls, .lst ns, .lst es]
theorem found_init (kind cost : D) (ls ns es : List D) (S : Store) : f_Found___init__ [.loc S.length, kind, cost, .lst ls, .lst ns, .lst es] (S ++ [.ins 1 [] []]) = .ret .non (S ++ [.ins 1 ["kind", "cost", "labels", "numbers", "ends"] [kind, cost, .lst ls, .lst ns, .lst es]]) := by
  refine w_Found___init__ ?_
  unfold m_Found___init__
  repeat' (first | infer_instance | done)
  refine ⟨S, _, _, rfl, rfl, rfl, by decide, ?_⟩
  repeat' (first | infer_instance | done)
  refine ⟨S, _, _, rfl, rfl, rfl, by decide, ?_⟩
  repeat' (first | infer_instance | done)
  refine ⟨S, _, _, rfl, rfl, rfl, by decide, ?_⟩
  repeat' (first | infer_instance | done)
  refine ⟨S, _, _, rfl, rfl, rfl, by decide, ?_⟩
  repeat' (first | infer_instance | done)
  refine ⟨S, _, _, rfl, rfl, rfl, by decide, ?_⟩
  repeat' (first | infer_instance | done)
  rfl
def fst (p : Option CL) : Option Int := p.map (·.1)
def Rg.nums (g : Rg) (f : Nat) : D := .lst ((List.range g.rs.length).map fun k => .lst (((g.rws f k).map fst).map encC))
def Rg.tot (g : Rg) (f : Nat) : Option CL := g.cls f (g.rws f (g.rs.length - 1))
def Rg.best (g : Rg) : Option CL := minL ((List.range g.B).map g.tot)
def Rg.allN (g : Rg) : List D := (List.range g.B).map g.nums
def Rg.fnd (g : Rg) : D := match g.best with
  | none => fndD (.str "none") .non [] g.allN []
  | some x => fndD (.str "best") (.int x.1) (x.2.map .int) g.allN []
theorem low_allN (g : Rg) : D.lows 0 g.allN = true := lows_map fun f _ => lows_map fun k _ => by
  show D.lows 0 _ = true
  rw [List.map_map]
  exact lows_map fun p _ => low_encC _
theorem best_ok {g : Rg} (ok : RgOk g) (tp : Bool) {S : Store} (lw : AllLow S) : f_best_ring [g.m.o, sqd tp (g.rs.map .int), sqd tp (g.P.map fun p => sqd tp (p.map .int)), encC g.fine] S = .ret g.fnd S := by
  obtain ⟨eB, hB0, hB⟩ := ok.bB
  have n0 := ok.n0
  have hn := ok.n
  refine w_best_ring ?_
  unfold m_best_ring
  repeat' (first | infer_instance | done)
  refine ⟨_, _, ring_init ok tp S, lows_up _ _ (low_ring g tp), all_low lw, ?_⟩
  change sq _ _ (.nx (List.set _ _ (some (.val (g.o tp)))) S)
  repeat' (first | infer_instance | done)
  refine ⟨by constructor <;> omega, ?_⟩
  rw [rng_ints]
  change OQ (forL (mgN 7) b_best_ring_3 ((List.range g.B).map fun i : Nat => D.int (i : Int)) _ S) _
  refine forL_inv (fun i : Nat => D.int (i : Int)) (List.range g.B) (fun done env S' => S' = S ∧ ∃ y7 y8, env = [some (.val g.m.o), some (.val (sqd tp (g.rs.map .int))), some (.val (sqd tp (g.P.map fun p => sqd tp (p.map .int)))), some (.val (encC g.fine)), some (.val (g.o tp)), some (.own (done.map g.nums)), some (.val (encP (minL (done.map g.tot)))), y7, y8, none, none]) ?_ ⟨rfl, none, none, rfl⟩ ?_
  · rintro done f rest env S' e ⟨rfl, y7, y8, rfl⟩
    have hf : f < g.B := List.mem_range.mp (by rw [e]; simp)
    have hd : done.length ≤ g.B := by have := congrArg List.length e; simp at this; omega
    rw [b_best_ring_3]
    repeat' (first | infer_instance | done)
    refine ⟨rfl, ?_⟩
    repeat' (first | infer_instance | done)
    refine gp_own (rows_ok ok tp hf _) ?_
    repeat' (first | infer_instance | done)
    refine ⟨by simp; omega, rp_eq (compL_map (fun k => rowD (g.rws f k)) (fun k => D.lst (((g.rws f k).map fst).map encC)) (List.range g.rs.length) fun k hk => ?_) ?_⟩
    · rw [wipeE, wipeE, e_best_ring_2]
      repeat' (first | infer_instance | done)
      have hl := g.rws_len f k
      refine ⟨by rw [List.length_map]; omega, rp_eq (compL_map encP (fun p => encC (fst p)) (g.rws f k) fun p hp => ?_) ?_⟩
      · rw [wipeE, wipeE, e_best_ring_1]
        repeat' (first | infer_instance | done)
        refine fp_ret (cost_of_ok p _) ?_
        exact ⟨rfl, rfl⟩
      · repeat' (first | infer_instance | done)
        rw [List.map_map]
        exact ⟨rfl, rfl⟩
    · repeat' (first | infer_instance | done)
      refine ⟨rfl, ?_⟩
      repeat' (first | infer_instance | done)
      refine sp_of (a := rowD (g.rws f (g.rs.length - 1))) ?_ ?_
      · show atI ((List.range g.rs.length).map fun k => rowD (g.rws f k)) (-1) = _
        conv => lhs; rw [show g.rs.length = (g.rs.length - 1) + 1 by omega]
        rw [List.range_succ, List.map_append]
        exact atI_last _ _
      · repeat' (first | infer_instance | done)
        refine fp_ret (closed_ok ok tp hf (short_rws g f _ (by omega)) (by rw [g.rws_len]; omega) _) ?_
        repeat' (first | infer_instance | done)
        refine fp_ret (better_ok _ (g.tot f) _) ?_
        repeat' (first | infer_instance | done)
        rw [minL_add, List.map_append]
        exact ⟨_, _, rfl⟩
  · rintro env S' ⟨rfl, y7, y8, rfl⟩
    have fn : ∀ x, g.best = x → g.fnd = (match x with
      | none => fndD (.str "none") .non [] g.allN []
      | some x => fndD (.str "best") (.int x.1) (x.2.map .int) g.allN []) := fun x e => by
      unfold Rg.fnd
      rw [e]
    change sq (mFrz 5 _) _ (.nx [_, _, _, _, _, some (.own g.allN), some (.val (encP g.best)), _, _, _, _] S')
    cases eb : g.best with
    | none =>
      rw [fn _ eb]
      show sq (mFrz 5 _) _ (.nx [_, _, _, _, _, some (.own g.allN), some (.val .non), _, _, _, _] S')
      repeat' (first | infer_instance | done)
      refine ⟨_, _, found_init _ _ _ _ _ S', lows_up _ _ ?_, all_low lw, ?_⟩
      · simp only [D.lows, D.low, low_allN g, Bool.and_self]
      · repeat' (first | infer_instance | done)
        rfl
    | some x =>
      rw [fn _ eb]
      show sq (mFrz 5 _) _ (.nx [_, _, _, _, _, some (.own g.allN), some (.val (.tup [.int x.1, .lst (x.2.map .int)])), _, _, _, _] S')
      repeat' (first | infer_instance | done)
      refine ⟨_, _, found_init _ _ _ _ _ S', lows_up _ _ ?_, all_low lw, ?_⟩
      · have := lows_ints x.2
        simp only [D.lows, D.low, low_allN g, this, Bool.and_self]
      · repeat' (first | infer_instance | done)
        rfl
end K10

set_option linter.all false
set_option maxRecDepth 100000
set_option maxHeartbeats 4000000
set_option autoImplicit false
namespace K10
open PySem PySem.Spec L2 DL PySem.W
local macro_rules
  | `(tactic| infer_instance) => `(tactic| first
    | (first | with_reducible refine op_seq ?_ | with_reducible refine sq_set (by simp only [List.set_cons_succ, List.set_cons_zero]; rfl) ?_ | with_reducible refine sq_nx ?_ | ((with_reducible refine id_v ?_); (refine rp_v rfl ?_)) | with_reducible refine rp_c ?_ | with_reducible refine rp_cons ?_ | with_reducible refine rp_nil ?_ | with_reducible refine rp_neg ?_ | with_reducible refine rp_lv ?_ | ((with_reducible refine id_lo ?_); (refine rp_lo rfl ?_)) | with_reducible refine op_asgN ?_)
    | (first | with_reducible refine op_asg ?_ | with_reducible refine op_setO ?_ | with_reducible refine op_if ?_ | with_reducible refine op_for ?_ | with_reducible refine op_next ?_ | with_reducible refine op_ret ?_ | with_reducible refine op_retO ?_ | ((with_reducible refine id_retV ?_); (refine op_retV rfl ?_)) | with_reducible refine op_retN ?_ | with_reducible refine op_drop ?_ | with_reducible refine op_dropX ?_)
    | (first | with_reducible refine op_asgX ?_ | with_reducible refine op_retX ?_ | with_reducible refine op_break ?_ | with_reducible refine op_cont ?_ | ((with_reducible refine id_frz ?_); (refine op_frz rfl (by simp only [List.set_cons_succ, List.set_cons_zero]; rfl) ?_)) | ((with_reducible refine id_locz ?_); (refine op_locz rfl (by simp only [List.set_cons_succ, List.set_cons_zero]; rfl) ?_)) | with_reducible refine sq_rt ?_ | with_reducible refine sq_ro ?_ | with_reducible refine sq_bk ?_ | with_reducible refine sq_ct ?_ | with_reducible refine sq_exc ?_)
    | (first | with_reducible refine lq_set (by simp only [List.set_cons_succ, List.set_cons_zero]; rfl) ?_ | with_reducible refine lq_nx ?_ | with_reducible refine lq_ct ?_ | with_reducible refine lq_bk ?_ | with_reducible refine lq_rt ?_ | with_reducible refine lq_ro ?_ | with_reducible refine lq_exc ?_ | with_reducible refine rp_call ?_ | with_reducible refine rp_callO ?_ | with_reducible refine rp_ix ?_ | with_reducible refine rp_b1 ?_)
    | (first | with_reducible refine rp_op ?_ | with_reducible refine rp_fAdd ?_ | with_reducible refine rp_fSub ?_ | with_reducible refine rp_fMin2 ?_ | with_reducible refine op_putF ?_ | with_reducible refine rp_methC ?_ | with_reducible refine rp_methCO ?_ | with_reducible refine rp_dictP ?_ | with_reducible refine rp_inDE ?_ | with_reducible refine rp_isC ?_ | with_reducible refine rp_make ?_)
    | (first | with_reducible refine rp_fMax2 ?_ | with_reducible refine rp_cmp ?_ | with_reducible refine rp_cmpT ?_ | with_reducible refine rp_chainP ?_ | with_reducible refine rp_chainTP ?_ | with_reducible refine rp_tru ?_ | with_reducible refine sp_tru_bl ?_ | with_reducible refine sp_tru_non ?_ | with_reducible refine sp_tru_int ?_ | with_reducible refine sp_tru_lst ?_ | with_reducible refine sp_tru_tup ?_)
    | (first | ((with_reducible refine id_truS ?_); (refine sp_tru_slot rfl ?_)) | with_reducible refine rp_notT ?_ | with_reducible refine rp_andT ?_ | with_reducible refine rp_orT ?_ | with_reducible refine rp_and ?_ | with_reducible refine rp_or ?_ | with_reducible refine rp_not ?_ | with_reducible refine rp_if ?_ | with_reducible refine rp_ifO ?_ | with_reducible refine rp_star ?_ | with_reducible refine rp_tup ?_)
    | (first | with_reducible refine rp_lst ?_ | with_reducible refine rp_f ?_ | with_reducible refine rp_new ?_ | with_reducible refine rp_in ?_ | with_reducible refine rp_inE ?_ | with_reducible refine rp_inB ?_ | with_reducible refine rp_inBE ?_ | with_reducible refine rp_pn ?_ | with_reducible refine rp_ps ?_ | with_reducible refine rp_sl ?_ | with_reducible refine rp_slO ?_)
    | (first | with_reducible refine rp_e1 ?_ | with_reducible refine rp_list ?_ | with_reducible refine rp_sortI ?_ | with_reducible refine rp_cat ?_ | with_reducible refine rp_rep ?_ | with_reducible refine rp_fld ?_ | with_reducible refine rp_isBE ?_ | with_reducible refine rp_eqL ?_ | with_reducible refine rp_iV ?_ | with_reducible refine rp_iR1 ?_ | with_reducible refine rp_iR2 ?_)
    | (first | with_reducible refine rp_iRev ?_ | with_reducible refine rp_iEnum ?_ | with_reducible refine rp_iZip ?_ | ((with_reducible refine id_comp ?_); (refine rp_comp rfl ?_)) | ((with_reducible refine id_appO ?_); (refine rp_appO rfl ?_)) | ((with_reducible refine id_extO ?_); (refine rp_extO rfl ?_)) | with_reducible refine len_le (by first | decide | (simp only [List.length_cons, List.length_nil, List.length_map, List.length_append]; omega)) ?_ | with_reducible refine len_lt (by first | decide | (simp only [List.length_cons, List.length_nil, List.length_map, List.length_append]; omega)) ?_ | with_reducible refine sp_mgN (by simp only [List.set_cons_succ, List.set_cons_zero]; rfl) ?_ | ((with_reducible refine id_mgT ?_); (refine sp_mgT rfl ?_)) | with_reducible refine sp_mgCons ?_)
    | (first | with_reducible refine sp_mgNil ?_ | with_reducible refine sp_lenL ?_ | with_reducible refine sp_lenT ?_ | with_reducible refine sp_cEqI ?_ | with_reducible refine sp_cNeI ?_ | with_reducible refine sp_cEqB ?_ | with_reducible refine sp_cNeB ?_ | with_reducible refine bp_t ?_ | with_reducible refine bp_f ?_ | with_reducible refine bp_nt ?_ | with_reducible refine bp_nf ?_)
    | (first | with_reducible refine bp_dt rfl ?_ | with_reducible refine bp_ndt rfl ?_ | with_reducible refine bp_dt (by decide) ?_ | with_reducible refine bp_df (by decide) ?_ | with_reducible refine bp_ndt (by decide) ?_ | with_reducible refine bp_ndf (by decide) ?_ | with_reducible refine bp_dt (by omega) ?_ | with_reducible refine bp_df (by omega) ?_ | with_reducible refine bp_ndt (by omega) ?_ | with_reducible refine bp_ndf (by omega) ?_ | with_reducible refine bp_qtup ?_)
    | (first | with_reducible refine bp_qint ?_ | with_reducible refine bp_nbl ?_ | with_reducible refine bp_nint ?_ | with_reducible refine bp_nstr ?_ | with_reducible refine bp_ntup ?_ | with_reducible refine bp_nlst ?_ | with_reducible refine bp_nloc ?_ | with_reducible refine bp_ct (by decide) ?_ | with_reducible refine bp_cf (by decide) ?_ | with_reducible refine sp_cEqS ?_ | with_reducible refine ex_int ?_)
    | (first | with_reducible refine st_eq ?_ | ((with_reducible refine id_sq ?_); (refine sp_of rfl ?_)) | with_reducible exact ⟨rfl, rfl⟩ | with_reducible exact rfl))

/-! ### the numbers as the law reckons them -/
def Rg.stc (g : Rg) (k l : Nat) (cs : List (Option Int)) : List (Option Int) := (List.range g.B).map fun o : Nat => (cs.getD o none).bind fun c => chg g.fine (g.ob k o l) (c + g.pr k l)
def Rg.stp' (g : Rg) (k : Nat) (cs : List (Option Int)) : List (Option Int) := (List.range g.B).map fun l : Nat => minI (g.stc k l cs)
theorem getD_fst (ps : List (Option CL)) (o : Nat) : (ps.map fst).getD o none = fst (ps.getD o none) := by
  rw [List.getD_eq_getElem?_getD, List.getD_eq_getElem?_getD, List.getElem?_map]
  cases ps[o]? <;> rfl
theorem row_fst (g : Rg) (k : Nat) {ps : List (Option CL)} (h : ps.length = g.B) : (g.row k ps).map fst = g.stp' k (ps.map fst) := by
  unfold Rg.row Rg.stp' Rg.stc
  rw [List.map_map]
  apply List.map_congr_left
  intro l _
  show (minL _).map (·.1) = _
  rw [minL_fst, List.map_map, h]
  congr 1
  apply List.map_congr_left
  intro o _
  rw [getD_fst]
  show (g.stp k o l (ps.getD o none)).map (·.1) = _
  cases ps.getD o none with
  | none => rfl
  | some p =>
    show ((chg g.fine (g.ob k o l) (p.1 + g.pr k l)).map fun c => (c, p.2 ++ [(l : Int)])).map (·.1) = chg g.fine (g.ob k o l) (p.1 + g.pr k l)
    cases chg g.fine (g.ob k o l) (p.1 + g.pr k l) <;> rfl
theorem cls_fst (g : Rg) (f : Nat) {ps : List (Option CL)} (h : ps.length = g.B) : fst (g.cls f ps) = minI (g.stc 0 f (ps.map fst)) := by
  unfold Rg.cls Rg.stc fst
  rw [minL_fst, List.map_map, h]
  congr 1
  apply List.map_congr_left
  intro o _
  rw [show (List.map (fun p : Option CL => Option.map (fun x => x.1) p) ps).getD o none = fst (ps.getD o none) from getD_fst ps o]
  show ((ps.getD o none).bind fun p => (chg g.fine (g.ob 0 o f) (p.1 + g.pr 0 f)).map fun c => (c, p.2)).map (·.1) = _
  cases ps.getD o none with
  | none => rfl
  | some p =>
    show ((chg g.fine (g.ob 0 o f) (p.1 + g.pr 0 f)).map fun c => (c, p.2)).map (·.1) = chg g.fine (g.ob 0 o f) (p.1 + g.pr 0 f)
    cases chg g.fine (g.ob 0 o f) (p.1 + g.pr 0 f) <;> rfl
theorem minI_some (xs : List (Option Int)) : minI ((xs.filterMap id).map some) = minI xs := by
  rw [minI_min, minI_min]
  congr 1
  induction xs with
  | nil => rfl
  | cons x xs ih => cases x with
    | none => exact ih
    | some x => exact congrArg (x :: ·) ih
theorem fm_snoc (xs : List (Option Int)) (x : Option Int) : (xs ++ [x]).filterMap id = xs.filterMap id ++ x.toList := by
  rw [List.filterMap_append]
  cases x <;> rfl
theorem ix_bd {env : DL.Env} {S : Store} {bd : D} {cs : List (Option Int)} {o : Nat} (h : ctOf S bd = some (.l (cs.map encC))) (ho : o < cs.length) : ixD env S (.val bd) (.int (o : Int)) = some (encC (cs.getD o none)) := by
  show (ctOf S bd).bind (fun c => ixC c (o : Int)) = _
  rw [h]
  show atI (cs.map encC) (o : Int) = _
  rw [atI_k, List.getElem?_map, List.getD_eq_getElem?_getD, List.getElem?_eq_getElem ho]
  rfl
theorem step_loop {g : Rg} (ok : RgOk g) {k l : Nat} (hk : k < g.rs.length) (hl : l < g.B) {cs : List (Option Int)} (hc : cs.length = g.B) {bd : D} {S : Store} (hbd : ctOf S bd = some (.l (cs.map encC))) {x5 x8 : Option Sl} {Q : Out → Prop}
    (h : ∀ y8, Q (.nx [some (.val g.m.d), iv (g.rs.getD k 0), some (.val bd), some (.val (.lst ((g.P.getD k []).map .int))), some (.val (encC g.fine)), x5, iv (l : Int), some (.own (((g.stc k l cs).filterMap id).map .int)), y8] S)) :
    OQ (forL (mgN 8) b__law_step_1 ((List.range g.B).map fun i : Nat => D.int (i : Int)) [some (.val g.m.d), iv (g.rs.getD k 0), some (.val bd), some (.val (.lst ((g.P.getD k []).map .int))), some (.val (encC g.fine)), x5, iv (l : Int), some (.own []), x8] S) Q := by
  obtain ⟨eB, hB0, hB⟩ := ok.bB
  refine forL_inv (fun i : Nat => D.int (i : Int)) (List.range g.B) (fun done env S' => S' = S ∧ ∃ y8, env = [some (.val g.m.d), iv (g.rs.getD k 0), some (.val bd), some (.val (.lst ((g.P.getD k []).map .int))), some (.val (encC g.fine)), x5, iv (l : Int), some (.own (((done.map fun o : Nat => (cs.getD o none).bind fun c => chg g.fine (g.ob k o l) (c + g.pr k l)).filterMap id).map .int)), y8]) ?_ ⟨rfl, x8, rfl⟩ ?_
  · rintro done o rest env S' e ⟨rfl, y8, rfl⟩
    have ho : o < g.B := List.mem_range.mp (by rw [e]; simp)
    have hd : done.length ≤ g.B := by have := congrArg List.length e; simp at this; omega
    have hz : (((done.map fun o : Nat => (cs.getD o none).bind fun c => chg g.fine (g.ob k o l) (c + g.pr k l)).filterMap id)).length ≤ 8 := by
      have := List.length_filterMap_le id (done.map fun o : Nat => (cs.getD o none).bind fun c => chg g.fine (g.ob k o l) (c + g.pr k l))
      rw [List.length_map] at this
      omega
    rw [List.map_append, List.map_singleton, fm_snoc, List.map_append]
    generalize ((done.map fun o : Nat => (cs.getD o none).bind fun c => chg g.fine (g.ob k o l) (c + g.pr k l)).filterMap id) = zs at hz ⊢
    have i1 : ∀ env, ixD env S' (.val bd) (.int (o : Int)) = some (encC (cs.getD o none)) := fun env => ix_bd hbd (by omega)
    have i2 : ∀ env, ixD env S' (.val (.lst ((g.P.getD k []).map .int))) (.int (l : Int)) = some (.int (g.pr k l)) := fun env => ix_sqd (tp := false) (price_l ok hk hl)
    have key : decide (D.tup [.int (g.rs.getD k 0), .tup [.int (o : Int)], .int (l : Int)] ∈ g.m.ms.map Mv.d) = !(g.ob k o l) := by
      rw [show decide (D.tup [.int (g.rs.getD k 0), .tup [.int (o : Int)], .int (l : Int)] ∈ g.m.ms.map Mv.d) = decide ((⟨g.rs.getD k 0, [(o : Int)], l⟩ : Mv) ∈ g.m.ms) from decide_eq_decide.mpr (mem_mvs (x := ⟨g.rs.getD k 0, [(o : Int)], l⟩))]
      unfold Rg.ob
      cases decide ((⟨g.rs.getD k 0, [(o : Int)], l⟩ : Mv) ∈ g.m.ms) <;> rfl
    rw [b__law_step_1]
    cases ec : cs.getD o none with
    | none =>
      have i1 : ∀ env, ixD env S' (.val bd) (.int (o : Int)) = some .non := fun env => (i1 env).trans (by rw [ec]; rfl)
      repeat' (first | infer_instance | done)
      refine sp_of (i1 _) ?_
      repeat' (first | infer_instance | done)
      rw [Option.bind_none, Option.toList_none, List.map_nil, List.append_nil]
      exact ⟨_, rfl⟩
    | some c =>
      have i1 : ∀ env, ixD env S' (.val bd) (.int (o : Int)) = some (.int c) := fun env => (i1 env).trans (by rw [ec]; rfl)
      rw [Option.bind_some]
      repeat' (first | infer_instance | done)
      refine sp_of (i1 _) ?_
      repeat' (first | infer_instance | done)
      refine sp_inL rfl (eqks_mvs 61 _) ?_
      rw [key]
      cases eo : g.ob k o l with
      | false =>
        repeat' (first | infer_instance | done)
        refine sp_of (i1 _) ?_
        repeat' (first | infer_instance | done)
        refine sp_of (i2 _) ?_
        repeat' (first | infer_instance | done)
        exact ⟨_, rfl⟩
      | true =>
        repeat' (first | infer_instance | done)
        unfold chg
        rw [if_pos rfl]
        cases ef : g.fine with
        | none =>
          rw [show encC none = D.non from rfl]
          repeat' (first | infer_instance | done)
          rw [Option.map_none, Option.toList_none, List.map_nil, List.append_nil]
          exact ⟨_, rfl⟩
        | some f =>
          rw [show encC (some f) = D.int f from rfl]
          refine bp_qint ?_
          repeat' (first | infer_instance | done)
          refine sp_of (i1 _) ?_
          repeat' (first | infer_instance | done)
          refine sp_of (i2 _) ?_
          repeat' (first | infer_instance | done)
          exact ⟨_, rfl⟩
  · rintro env S' ⟨rfl, y8, rfl⟩
    exact h y8
theorem step_ok {g : Rg} (ok : RgOk g) {k : Nat} (hk : k < g.rs.length) {cs : List (Option Int)} (hc : cs.length = g.B) {bd : D} {S : Store} (hbd : ctOf S bd = some (.l (cs.map encC))) : f__law_step [g.m.d, .int (g.rs.getD k 0), bd, .lst ((g.P.getD k []).map .int), encC g.fine] S = .own ((g.stp' k cs).map encC) S := by
  obtain ⟨eB, hB0, hB⟩ := ok.bB
  refine w__law_step ?_
  unfold m__law_step
  repeat' (first | infer_instance | done)
  refine ⟨by constructor <;> omega, ?_⟩
  rw [rng_ints]
  change OQ (forL (mgN 6) b__law_step_2 ((List.range g.B).map fun i : Nat => D.int (i : Int)) _ S) _
  refine forL_inv (fun i : Nat => D.int (i : Int)) (List.range g.B) (fun done env S' => S' = S ∧ ∃ y6 y7 y8, env = [some (.val g.m.d), iv (g.rs.getD k 0), some (.val bd), some (.val (.lst ((g.P.getD k []).map .int))), some (.val (encC g.fine)), some (.own ((done.map fun l : Nat => minI (g.stc k l cs)).map encC)), y6, y7, y8]) ?_ ⟨rfl, none, none, none, rfl⟩ ?_
  · rintro done l rest env S' e ⟨rfl, y6, y7, y8, rfl⟩
    have hl : l < g.B := List.mem_range.mp (by rw [e]; simp)
    have hd : done.length ≤ g.B := by have := congrArg List.length e; simp at this; omega
    have hz : (((g.stc k l cs).filterMap id).map some).length ≤ 1000 := by
      have := List.length_filterMap_le id (g.stc k l cs)
      rw [Rg.stc, List.length_map, List.length_range] at this
      rw [List.length_map, Rg.stc]
      omega
    have key := law_least_ok (((g.stc k l cs).filterMap id).map some) hz S'
    rw [minI_some, List.map_map] at key
    rw [b__law_step_2]
    repeat' (first | infer_instance | done)
    refine ⟨by constructor <;> omega, ?_⟩
    rw [rng_ints]
    change OQ (forL (mgN 8) b__law_step_1 ((List.range g.B).map fun i : Nat => D.int (i : Int)) _ S') _
    refine step_loop ok hk hl hc hbd fun z8 => ?_
    repeat' (first | infer_instance | done)
    refine fp_ret key ?_
    repeat' (first | infer_instance | done)
    rw [List.map_append, List.map_append]
    exact ⟨_, _, _, rfl⟩
  · rintro env S' ⟨rfl, y6, y7, y8, rfl⟩
    repeat' (first | infer_instance | done)
    rfl
end K10

set_option linter.all false
set_option maxRecDepth 100000
set_option maxHeartbeats 4000000
set_option autoImplicit false
namespace K10
open PySem PySem.Spec L2 DL PySem.W
local macro_rules
  | `(tactic| infer_instance) => `(tactic| first
    | (first | with_reducible refine op_seq ?_ | with_reducible refine sq_set (by simp only [List.set_cons_succ, List.set_cons_zero]; rfl) ?_ | with_reducible refine sq_nx ?_ | ((with_reducible refine id_v ?_); (refine rp_v rfl ?_)) | with_reducible refine rp_c ?_ | with_reducible refine rp_cons ?_ | with_reducible refine rp_nil ?_ | with_reducible refine rp_neg ?_ | with_reducible refine rp_lv ?_ | ((with_reducible refine id_lo ?_); (refine rp_lo rfl ?_)) | with_reducible refine op_asgN ?_)
    | (first | with_reducible refine op_asg ?_ | with_reducible refine op_setO ?_ | with_reducible refine op_if ?_ | with_reducible refine op_for ?_ | with_reducible refine op_next ?_ | with_reducible refine op_ret ?_ | with_reducible refine op_retO ?_ | ((with_reducible refine id_retV ?_); (refine op_retV rfl ?_)) | with_reducible refine op_retN ?_ | with_reducible refine op_drop ?_ | with_reducible refine op_dropX ?_)
    | (first | with_reducible refine op_asgX ?_ | with_reducible refine op_retX ?_ | with_reducible refine op_break ?_ | with_reducible refine op_cont ?_ | ((with_reducible refine id_frz ?_); (refine op_frz rfl (by simp only [List.set_cons_succ, List.set_cons_zero]; rfl) ?_)) | ((with_reducible refine id_locz ?_); (refine op_locz rfl (by simp only [List.set_cons_succ, List.set_cons_zero]; rfl) ?_)) | with_reducible refine sq_rt ?_ | with_reducible refine sq_ro ?_ | with_reducible refine sq_bk ?_ | with_reducible refine sq_ct ?_ | with_reducible refine sq_exc ?_)
    | (first | with_reducible refine lq_set (by simp only [List.set_cons_succ, List.set_cons_zero]; rfl) ?_ | with_reducible refine lq_nx ?_ | with_reducible refine lq_ct ?_ | with_reducible refine lq_bk ?_ | with_reducible refine lq_rt ?_ | with_reducible refine lq_ro ?_ | with_reducible refine lq_exc ?_ | with_reducible refine rp_call ?_ | with_reducible refine rp_callO ?_ | with_reducible refine rp_ix ?_ | with_reducible refine rp_b1 ?_)
    | (first | with_reducible refine rp_op ?_ | with_reducible refine rp_fAdd ?_ | with_reducible refine rp_fSub ?_ | with_reducible refine rp_fMin2 ?_ | with_reducible refine op_putF ?_ | with_reducible refine rp_methC ?_ | with_reducible refine rp_methCO ?_ | with_reducible refine rp_dictP ?_ | with_reducible refine rp_inDE ?_ | with_reducible refine rp_isC ?_ | with_reducible refine rp_make ?_)
    | (first | with_reducible refine rp_fMax2 ?_ | with_reducible refine rp_cmp ?_ | with_reducible refine rp_cmpT ?_ | with_reducible refine rp_chainP ?_ | with_reducible refine rp_chainTP ?_ | with_reducible refine rp_tru ?_ | with_reducible refine sp_tru_bl ?_ | with_reducible refine sp_tru_non ?_ | with_reducible refine sp_tru_int ?_ | with_reducible refine sp_tru_lst ?_ | with_reducible refine sp_tru_tup ?_)
    | (first | ((with_reducible refine id_truS ?_); (refine sp_tru_slot rfl ?_)) | with_reducible refine rp_notT ?_ | with_reducible refine rp_andT ?_ | with_reducible refine rp_orT ?_ | with_reducible refine rp_and ?_ | with_reducible refine rp_or ?_ | with_reducible refine rp_not ?_ | with_reducible refine rp_if ?_ | with_reducible refine rp_ifO ?_ | with_reducible refine rp_star ?_ | with_reducible refine rp_tup ?_)
    | (first | with_reducible refine rp_lst ?_ | with_reducible refine rp_f ?_ | with_reducible refine rp_new ?_ | with_reducible refine rp_in ?_ | with_reducible refine rp_inE ?_ | with_reducible refine rp_inB ?_ | with_reducible refine rp_inBE ?_ | with_reducible refine rp_pn ?_ | with_reducible refine rp_ps ?_ | with_reducible refine rp_sl ?_ | with_reducible refine rp_slO ?_)
    | (first | with_reducible refine rp_e1 ?_ | with_reducible refine rp_list ?_ | with_reducible refine rp_sortI ?_ | with_reducible refine rp_cat ?_ | with_reducible refine rp_rep ?_ | with_reducible refine rp_fld ?_ | with_reducible refine rp_isBE ?_ | with_reducible refine rp_eqL ?_ | with_reducible refine rp_iV ?_ | with_reducible refine rp_iR1 ?_ | with_reducible refine rp_iR2 ?_)
    | (first | with_reducible refine rp_iRev ?_ | with_reducible refine rp_iEnum ?_ | with_reducible refine rp_iZip ?_ | ((with_reducible refine id_comp ?_); (refine rp_comp rfl ?_)) | ((with_reducible refine id_appO ?_); (refine rp_appO rfl ?_)) | ((with_reducible refine id_extO ?_); (refine rp_extO rfl ?_)) | with_reducible refine len_le (by first | decide | (simp only [List.length_cons, List.length_nil, List.length_map, List.length_append]; omega)) ?_ | with_reducible refine len_lt (by first | decide | (simp only [List.length_cons, List.length_nil, List.length_map, List.length_append]; omega)) ?_ | with_reducible refine sp_mgN (by simp only [List.set_cons_succ, List.set_cons_zero]; rfl) ?_ | ((with_reducible refine id_mgT ?_); (refine sp_mgT rfl ?_)) | with_reducible refine sp_mgCons ?_)
    | (first | with_reducible refine sp_mgNil ?_ | with_reducible refine sp_lenL ?_ | with_reducible refine sp_lenT ?_ | with_reducible refine sp_cEqI ?_ | with_reducible refine sp_cNeI ?_ | with_reducible refine sp_cEqB ?_ | with_reducible refine sp_cNeB ?_ | with_reducible refine bp_t ?_ | with_reducible refine bp_f ?_ | with_reducible refine bp_nt ?_ | with_reducible refine bp_nf ?_)
    | (first | with_reducible refine bp_dt rfl ?_ | with_reducible refine bp_ndt rfl ?_ | with_reducible refine bp_dt (by decide) ?_ | with_reducible refine bp_df (by decide) ?_ | with_reducible refine bp_ndt (by decide) ?_ | with_reducible refine bp_ndf (by decide) ?_ | with_reducible refine bp_dt (by omega) ?_ | with_reducible refine bp_df (by omega) ?_ | with_reducible refine bp_ndt (by omega) ?_ | with_reducible refine bp_ndf (by omega) ?_ | with_reducible refine bp_qtup ?_)
    | (first | with_reducible refine bp_qint ?_ | with_reducible refine bp_nbl ?_ | with_reducible refine bp_nint ?_ | with_reducible refine bp_nstr ?_ | with_reducible refine bp_ntup ?_ | with_reducible refine bp_nlst ?_ | with_reducible refine bp_nloc ?_ | with_reducible refine bp_ct (by decide) ?_ | with_reducible refine bp_cf (by decide) ?_ | with_reducible refine sp_cEqS ?_ | with_reducible refine ex_int ?_)
    | (first | with_reducible refine st_eq ?_ | ((with_reducible refine id_sq ?_); (refine sp_of rfl ?_)) | with_reducible exact ⟨rfl, rfl⟩ | with_reducible exact rfl))

/-! ### the numbers of a whole ring -/
def Rg.cst (g : Rg) (f k : Nat) : List (Option Int) := (g.rws f k).map fst
def Rg.rowsL (g : Rg) (b f i : Nat) : List D := .loc b :: (List.range i).map fun k => D.lst ((g.cst f (k + 1)).map encC)
theorem cst_len (g : Rg) (f k : Nat) : (g.cst f k).length = g.B := by unfold Rg.cst; rw [List.length_map, g.rws_len]
theorem cst_step (g : Rg) (f k : Nat) : g.cst f (k + 1) = g.stp' (k + 1) (g.cst f k) := by
  unfold Rg.cst
  rw [← row_fst g (k + 1) (g.rws_len f k)]
  rfl
theorem rowsL_snoc (g : Rg) (b f i : Nat) : g.rowsL b f (i + 1) = g.rowsL b f i ++ [.lst ((g.cst f (i + 1)).map encC)] := by
  unfold Rg.rowsL
  rw [List.range_succ, List.map_append]
  rfl
theorem rowsL_len (g : Rg) (b f i : Nat) : (g.rowsL b f i).length = i + 1 := by simp [Rg.rowsL]
theorem rowsL_last {g : Rg} {b f : Nat} {S : Store} (hS : S[b]? = some (.lst ((g.cst f 0).map encC))) : ∀ i : Nat, ∃ bd, atI (g.rowsL b f i) (-1) = some bd ∧ ctOf S bd = some (.l ((g.cst f i).map encC))
  | 0 => ⟨.loc b, rfl, by rw [ctOf_loc, hS]⟩
  | i + 1 => by
    rw [rowsL_snoc]
    exact ⟨_, atI_last _ _, rfl⟩
theorem row0_set {g : Rg} {f : Nat} (hf : f < g.B) : (List.replicate g.B D.non).set f (.int 0) = (g.cst f 0).map encC := by
  unfold Rg.cst
  rw [Rg.rws, Rg.row0, List.map_map, List.map_map]
  apply List.ext_getElem?
  intro i
  rw [List.getElem?_set, List.getElem?_map, List.getElem?_replicate, List.length_replicate]
  by_cases h : i < g.B
  · rw [List.getElem?_range h, if_pos h]
    by_cases c : f = i
    · subst c
      rw [if_pos rfl, if_pos h]
      simp [fst, encC]
    · rw [if_neg c]
      have : ¬i = f := fun e => c e.symm
      simp [this, fst, encC]
  · rw [List.getElem?_eq_none (by simp; omega), if_neg (by omega), if_neg h]
    rfl
theorem rs_at {g : Rg} {k : Nat} (hk : k < g.rs.length) : (g.rs.map D.int)[k]? = some (.int (g.rs.getD k 0)) := by
  rw [List.getElem?_map, List.getElem?_eq_getElem hk, List.getD_eq_getElem?_getD, List.getElem?_eq_getElem hk]
  rfl
theorem num_loop {g : Rg} (ok : RgOk g) {b f : Nat} {S : Store} (hS : S[b]? = some (.lst ((g.cst f 0).map encC))) {x4 x5 x6 x8 : Option Sl} {Q : Out → Prop}
    (h : ∀ y8, Q (.nx [some (.val g.m.d), some (.val (.lst (g.rs.map .int))), some (.val (.lst (g.P.map fun p => .lst (p.map .int)))), some (.val (encC g.fine)), x4, x5, x6, some (.own (g.rowsL b f (g.rs.length - 1))), y8] S)) :
    OQ (forL (mgN 8) b__law_ring_numbers_1 ((List.range (g.rs.length - 1)).map fun i : Nat => D.int ((i + 1 : Nat) : Int)) [some (.val g.m.d), some (.val (.lst (g.rs.map .int))), some (.val (.lst (g.P.map fun p => .lst (p.map .int)))), some (.val (encC g.fine)), x4, x5, x6, some (.own (g.rowsL b f 0)), x8] S) Q := by
  have hn := ok.n
  refine forL_inv (fun i : Nat => D.int ((i + 1 : Nat) : Int)) (List.range (g.rs.length - 1)) (fun done env S' => S' = S ∧ ∃ y8, env = [some (.val g.m.d), some (.val (.lst (g.rs.map .int))), some (.val (.lst (g.P.map fun p => .lst (p.map .int)))), some (.val (encC g.fine)), x4, x5, x6, some (.own (g.rowsL b f done.length)), y8]) ?_ ⟨rfl, x8, rfl⟩ ?_
  · rintro done i rest env S' e ⟨rfl, y8, rfl⟩
    have hi : i = done.length ∧ i < g.rs.length - 1 := by
      have h1 : (List.range (g.rs.length - 1))[done.length]? = some i := by rw [e]; simp
      have := (List.getElem?_eq_some_iff.mp h1).1
      rw [List.getElem?_range (by simpa using this)] at h1
      simp at h1 this
      omega
    obtain ⟨rfl, hi⟩ := hi
    obtain ⟨bd, e1, e2⟩ := rowsL_last hS done.length
    have hk : done.length + 1 < g.rs.length := by omega
    have hl := rowsL_len g b f done.length
    rw [b__law_ring_numbers_1]
    repeat' (first | infer_instance | done)
    refine sp_of (ix_sqd (tp := false) (rs_at hk)) ?_
    repeat' (first | infer_instance | done)
    refine sp_of (a := bd) e1 ?_
    repeat' (first | infer_instance | done)
    refine sp_of (ix_sqd (tp := false) (price_k ok hk false)) ?_
    repeat' (first | infer_instance | done)
    refine gp_own (step_ok ok hk (cst_len g f _) e2) ?_
    repeat' (first | infer_instance | done)
    refine ⟨by rw [hl]; omega, ?_⟩
    repeat' (first | infer_instance | done)
    rw [List.length_append, List.length_singleton, rowsL_snoc, cst_step]
    exact ⟨_, rfl⟩
  · rintro env S' ⟨rfl, y8, rfl⟩
    rw [List.length_range]
    exact h y8
def Rg.locs (g : Rg) (m : Nat) : Store := (List.range m).map fun f => Ob.lst ((g.cst f 0).map encC)
theorem locs_at (g : Rg) (S : Store) {m f : Nat} (h : f < m) : (S ++ g.locs m)[S.length + f]? = some (.lst ((g.cst f 0).map encC)) := by
  rw [List.getElem?_append_right (by omega), show S.length + f - S.length = f by omega]
  unfold Rg.locs
  rw [List.getElem?_map, List.getElem?_range h]
  rfl
def Rg.numsL (g : Rg) (n : Nat) : List D := (List.range g.B).map fun f => .lst (g.rowsL (n + f) f (g.rs.length - 1))
theorem replicate_flat (n : Nat) (x : D) : (List.replicate n [x]).flatten = List.replicate n x := by
  induction n with
  | zero => rfl
  | succ n ih => rw [List.replicate_succ, List.flatten_cons, ih]; rfl
theorem tot_fst (g : Rg) (f : Nat) : fst (g.tot f) = minI (g.stc 0 f (g.cst f (g.rs.length - 1))) := cls_fst g f (g.rws_len f _)
theorem stp_at (g : Rg) (k : Nat) (cs : List (Option Int)) {f : Nat} (hf : f < g.B) : ((g.stp' k cs).map encC)[f]? = some (encC (minI (g.stc k f cs))) := by
  unfold Rg.stp'
  rw [List.getElem?_map, List.getElem?_map, List.getElem?_range hf]
  rfl
theorem numbers_ok {g : Rg} (ok : RgOk g) (S : Store) : f__law_ring_numbers [g.m.d, .lst (g.rs.map .int), .lst (g.P.map fun p => .lst (p.map .int)), encC g.fine] S = .ret (.tup [.lst (g.numsL S.length), encC (fst g.best)]) (S ++ g.locs g.B) := by
  obtain ⟨eB, hB0, hB⟩ := ok.bB
  have hn := ok.n
  have n0 := ok.n0
  refine w__law_ring_numbers ?_
  unfold m__law_ring_numbers
  repeat' (first | infer_instance | done)
  refine ⟨by constructor <;> omega, ?_⟩
  rw [rng_ints]
  change OQ (forL (mgN 6) b__law_ring_numbers_2 ((List.range g.B).map fun i : Nat => D.int (i : Int)) _ S) _
  refine forL_inv (fun i : Nat => D.int (i : Int)) (List.range g.B) (fun done env S' => S' = S ++ g.locs done.length ∧ ∃ y6 y7 y8, env = [some (.val g.m.d), some (.val (.lst (g.rs.map .int))), some (.val (.lst (g.P.map fun p => .lst (p.map .int)))), some (.val (encC g.fine)), some (.own ((List.range done.length).map fun f => .lst (g.rowsL (S.length + f) f (g.rs.length - 1)))), some (.own (((List.range done.length).map fun f => fst (g.tot f)).map encC)), y6, y7, y8]) ?_ ⟨by simp [Rg.locs], none, none, none, rfl⟩ ?_
  · rintro done f rest env S' e ⟨rfl, y6, y7, y8, rfl⟩
    have hf : f = done.length ∧ f < g.B := by
      have h1 : (List.range g.B)[done.length]? = some f := by rw [e]; simp
      have := (List.getElem?_eq_some_iff.mp h1).1
      rw [List.getElem?_range (by simpa using this)] at h1
      simp at h1 this
      omega
    obtain ⟨rfl, hf⟩ := hf
    have hlen : (S ++ g.locs done.length).length = S.length + done.length := by simp [Rg.locs]
    have hsn : g.locs (done.length + 1) = g.locs done.length ++ [.lst ((g.cst done.length 0).map encC)] := by
      unfold Rg.locs
      rw [List.range_succ, List.map_append]
      rfl
    rw [b__law_ring_numbers_2]
    repeat' (first | infer_instance | done)
    refine ⟨⟨by omega, by omega, by simp; omega⟩, ?_⟩
    rw [replicate_flat]
    repeat' (first | infer_instance | done)
    refine op_subL ?_
    repeat' (first | infer_instance | done)
    refine ⟨S.length + done.length, _, List.replicate g.B D.non, done.length, by rw [hlen], rfl, ?_, ?_, ?_⟩
    · rw [← hlen]; simp; rfl
    · unfold ixN; rw [if_pos (by omega), if_pos (by simp; omega)]; rfl
    · rw [row0_set hf]
      have est : (S ++ g.locs done.length ++ [Ob.lst (List.replicate g.m.B.toNat D.non)]).set (S.length + done.length) (.lst ((g.cst done.length 0).map encC)) = S ++ g.locs (done.length + 1) := by
        rw [hsn, ← List.append_assoc, ← hlen]
        simp
      rw [est]
      have hS := locs_at g S (Nat.lt_succ_self done.length)
      repeat' (first | infer_instance | done)
      refine ⟨1, _, rfl, rfl, by constructor <;> omega, ?_⟩
      rw [rng_one, show (((g.rs.length : Nat) : Int) - 1).toNat = g.rs.length - 1 by omega, hlen]
      refine num_loop ok hS fun z8 => ?_
      obtain ⟨bd, e1, e2⟩ := rowsL_last hS (g.rs.length - 1)
      repeat' (first | infer_instance | done)
      refine ⟨by simp; omega, ?_⟩
      repeat' (first | infer_instance | done)
      refine sp_of (ix_sqd (tp := false) (rs_at n0)) ?_
      repeat' (first | infer_instance | done)
      refine sp_of (a := bd) e1 ?_
      repeat' (first | infer_instance | done)
      refine sp_of (ix_sqd (tp := false) (price_k ok n0 false)) ?_
      repeat' (first | infer_instance | done)
      refine gp_own (step_ok ok n0 (cst_len g done.length _) e2) ?_
      repeat' (first | infer_instance | done)
      refine sp_of (ix_sqd (tp := false) (stp_at g 0 _ hf)) ?_
      repeat' (first | infer_instance | done)
      refine ⟨by simp; omega, ?_⟩
      repeat' (first | infer_instance | done)
      rw [List.length_append, List.length_singleton, ← tot_fst, List.range_succ, List.map_append, List.map_append, List.map_append]
      exact ⟨rfl, _, _, _, rfl⟩
  · rintro env S' ⟨rfl, y6, y7, y8, rfl⟩
    rw [List.length_range]
    have key := law_least_ok ((List.range g.B).map fun f => fst (g.tot f)) (by simp; omega) (S ++ g.locs g.B)
    repeat' (first | infer_instance | done)
    refine fp_ret key ?_
    repeat' (first | infer_instance | done)
    have : minI ((List.range g.B).map fun f => fst (g.tot f)) = fst g.best := by
      unfold Rg.best
      show _ = (minL _).map (·.1)
      rw [minL_fst, List.map_map]
      rfl
    rw [this]
    rfl
end K10

set_option linter.all false
set_option maxRecDepth 100000
set_option maxHeartbeats 4000000
set_option autoImplicit false
namespace K10
open PySem PySem.Spec L2 DL PySem.W
local macro_rules
  | `(tactic| infer_instance) => `(tactic| first
    | (first | with_reducible refine op_seq ?_ | with_reducible refine sq_set (by simp only [List.set_cons_succ, List.set_cons_zero]; rfl) ?_ | with_reducible refine sq_nx ?_ | ((with_reducible refine id_v ?_); (refine rp_v rfl ?_)) | with_reducible refine rp_c ?_ | with_reducible refine rp_cons ?_ | with_reducible refine rp_nil ?_ | with_reducible refine rp_neg ?_ | with_reducible refine rp_lv ?_ | ((with_reducible refine id_lo ?_); (refine rp_lo rfl ?_)) | with_reducible refine op_asgN ?_)
    | (first | with_reducible refine op_asg ?_ | with_reducible refine op_setO ?_ | with_reducible refine op_if ?_ | with_reducible refine op_for ?_ | with_reducible refine op_next ?_ | with_reducible refine op_ret ?_ | with_reducible refine op_retO ?_ | ((with_reducible refine id_retV ?_); (refine op_retV rfl ?_)) | with_reducible refine op_retN ?_ | with_reducible refine op_drop ?_ | with_reducible refine op_dropX ?_)
    | (first | with_reducible refine op_asgX ?_ | with_reducible refine op_retX ?_ | with_reducible refine op_break ?_ | with_reducible refine op_cont ?_ | ((with_reducible refine id_frz ?_); (refine op_frz rfl (by simp only [List.set_cons_succ, List.set_cons_zero]; rfl) ?_)) | ((with_reducible refine id_locz ?_); (refine op_locz rfl (by simp only [List.set_cons_succ, List.set_cons_zero]; rfl) ?_)) | with_reducible refine sq_rt ?_ | with_reducible refine sq_ro ?_ | with_reducible refine sq_bk ?_ | with_reducible refine sq_ct ?_ | with_reducible refine sq_exc ?_)
    | (first | with_reducible refine lq_set (by simp only [List.set_cons_succ, List.set_cons_zero]; rfl) ?_ | with_reducible refine lq_nx ?_ | with_reducible refine lq_ct ?_ | with_reducible refine lq_bk ?_ | with_reducible refine lq_rt ?_ | with_reducible refine lq_ro ?_ | with_reducible refine lq_exc ?_ | with_reducible refine rp_call ?_ | with_reducible refine rp_callO ?_ | with_reducible refine rp_ix ?_ | with_reducible refine rp_b1 ?_)
    | (first | with_reducible refine rp_op ?_ | with_reducible refine rp_fAdd ?_ | with_reducible refine rp_fSub ?_ | with_reducible refine rp_fMin2 ?_ | with_reducible refine op_putF ?_ | with_reducible refine rp_methC ?_ | with_reducible refine rp_methCO ?_ | with_reducible refine rp_dictP ?_ | with_reducible refine rp_inDE ?_ | with_reducible refine rp_isC ?_ | with_reducible refine rp_make ?_)
    | (first | with_reducible refine rp_fMax2 ?_ | with_reducible refine rp_cmp ?_ | with_reducible refine rp_cmpT ?_ | with_reducible refine rp_chainP ?_ | with_reducible refine rp_chainTP ?_ | with_reducible refine rp_tru ?_ | with_reducible refine sp_tru_bl ?_ | with_reducible refine sp_tru_non ?_ | with_reducible refine sp_tru_int ?_ | with_reducible refine sp_tru_lst ?_ | with_reducible refine sp_tru_tup ?_)
    | (first | ((with_reducible refine id_truS ?_); (refine sp_tru_slot rfl ?_)) | with_reducible refine rp_notT ?_ | with_reducible refine rp_andT ?_ | with_reducible refine rp_orT ?_ | with_reducible refine rp_and ?_ | with_reducible refine rp_or ?_ | with_reducible refine rp_not ?_ | with_reducible refine rp_if ?_ | with_reducible refine rp_ifO ?_ | with_reducible refine rp_star ?_ | with_reducible refine rp_tup ?_)
    | (first | with_reducible refine rp_lst ?_ | with_reducible refine rp_f ?_ | with_reducible refine rp_new ?_ | with_reducible refine rp_in ?_ | with_reducible refine rp_inE ?_ | with_reducible refine rp_inB ?_ | with_reducible refine rp_inBE ?_ | with_reducible refine rp_pn ?_ | with_reducible refine rp_ps ?_ | with_reducible refine rp_sl ?_ | with_reducible refine rp_slO ?_)
    | (first | with_reducible refine rp_e1 ?_ | with_reducible refine rp_list ?_ | with_reducible refine rp_sortI ?_ | with_reducible refine rp_cat ?_ | with_reducible refine rp_rep ?_ | with_reducible refine rp_fld ?_ | with_reducible refine rp_isBE ?_ | with_reducible refine rp_eqL ?_ | with_reducible refine rp_iV ?_ | with_reducible refine rp_iR1 ?_ | with_reducible refine rp_iR2 ?_)
    | (first | with_reducible refine rp_iRev ?_ | with_reducible refine rp_iEnum ?_ | with_reducible refine rp_iZip ?_ | ((with_reducible refine id_comp ?_); (refine rp_comp rfl ?_)) | ((with_reducible refine id_appO ?_); (refine rp_appO rfl ?_)) | ((with_reducible refine id_extO ?_); (refine rp_extO rfl ?_)) | with_reducible refine len_le (by first | decide | (simp only [List.length_cons, List.length_nil, List.length_map, List.length_append]; omega)) ?_ | with_reducible refine len_lt (by first | decide | (simp only [List.length_cons, List.length_nil, List.length_map, List.length_append]; omega)) ?_ | with_reducible refine sp_mgN (by simp only [List.set_cons_succ, List.set_cons_zero]; rfl) ?_ | ((with_reducible refine id_mgT ?_); (refine sp_mgT rfl ?_)) | with_reducible refine sp_mgCons ?_)
    | (first | with_reducible refine sp_mgNil ?_ | with_reducible refine sp_lenL ?_ | with_reducible refine sp_lenT ?_ | with_reducible refine sp_cEqI ?_ | with_reducible refine sp_cNeI ?_ | with_reducible refine sp_cEqB ?_ | with_reducible refine sp_cNeB ?_ | with_reducible refine bp_t ?_ | with_reducible refine bp_f ?_ | with_reducible refine bp_nt ?_ | with_reducible refine bp_nf ?_)
    | (first | with_reducible refine bp_dt rfl ?_ | with_reducible refine bp_ndt rfl ?_ | with_reducible refine bp_dt (by decide) ?_ | with_reducible refine bp_df (by decide) ?_ | with_reducible refine bp_ndt (by decide) ?_ | with_reducible refine bp_ndf (by decide) ?_ | with_reducible refine bp_dt (by omega) ?_ | with_reducible refine bp_df (by omega) ?_ | with_reducible refine bp_ndt (by omega) ?_ | with_reducible refine bp_ndf (by omega) ?_ | with_reducible refine bp_qtup ?_)
    | (first | with_reducible refine bp_qint ?_ | with_reducible refine bp_nbl ?_ | with_reducible refine bp_nint ?_ | with_reducible refine bp_nstr ?_ | with_reducible refine bp_ntup ?_ | with_reducible refine bp_nlst ?_ | with_reducible refine bp_nloc ?_ | with_reducible refine bp_ct (by decide) ?_ | with_reducible refine bp_cf (by decide) ?_ | with_reducible refine sp_cEqS ?_ | with_reducible refine ex_int ?_)
    | (first | with_reducible refine st_eq ?_ | ((with_reducible refine id_sq ?_); (refine sp_of rfl ?_)) | with_reducible exact ⟨rfl, rfl⟩ | with_reducible exact rfl))

/-! ### what labels cost -/
def Rg.obj (g : Rg) (ls : List Int) (k : Nat) : Bool := g.ob k (lb ls ((k : Int) - 1)) (lb ls (k : Int))
def Rg.objs (g : Rg) (ls : List Int) : List Nat := (List.range g.rs.length).filter (g.obj ls)
def Rg.sm (g : Rg) (ls : List Int) : Int := ((List.range g.rs.length).map fun k => g.pr k (lb ls (k : Int)).toNat).sum
def Rg.cc (g : Rg) (ls : List Int) : Option Int := if 0 < (g.objs ls).length then g.fine.map (fun f => g.sm ls + (g.objs ls).length * f) else some (g.sm ls)
structure LsOk (g : Rg) (ls : List Int) : Prop where
  n : ls.length = g.rs.length
  r : ∀ x ∈ ls, 0 ≤ x ∧ x < (g.B : Int)
theorem LsOk.at {g : Rg} {ls : List Int} (h : LsOk g ls) {k : Nat} (hk : k < g.rs.length) : ls[k]? = some (lb ls (k : Int)) ∧ 0 ≤ lb ls (k : Int) ∧ (lb ls (k : Int)).toNat < g.B ∧ ls.getD k 0 = lb ls (k : Int) := by
  have hn := h.n
  have e : ls[k]? = some (ls[k]'(by omega)) := List.getElem?_eq_getElem _
  have e2 : lb ls (k : Int) = ls[k]'(by omega) := by
    unfold lb
    rw [atI_k, e]
    rfl
  have := h.r _ (List.getElem_mem (show k < ls.length by omega))
  rw [e2, List.getD_eq_getElem?_getD, e]
  exact ⟨rfl, this.1, by omega, rfl⟩
theorem mv_in (g : Rg) (k : Nat) (b c : Int) : decide (D.tup [.int (g.rs.getD k 0), .tup [.int b], .int c] ∈ g.m.ms.map Mv.d) = !(g.ob k b c) := by
  rw [show decide (D.tup [.int (g.rs.getD k 0), .tup [.int b], .int c] ∈ g.m.ms.map Mv.d) = decide ((⟨g.rs.getD k 0, [b], c⟩ : Mv) ∈ g.m.ms) from decide_eq_decide.mpr (mem_mvs (x := ⟨g.rs.getD k 0, [b], c⟩))]
  unfold Rg.ob
  cases decide ((⟨g.rs.getD k 0, [b], c⟩ : Mv) ∈ g.m.ms) <;> rfl
theorem mv_inS (g : Rg) (k : Nat) (b c : Int) : decide (D.tup [.int (g.rs.getD k 0), .tup [.int b], .int c] ∈ (srt g.m.ms).map Mv.d) = !(g.ob k b c) := by
  rw [← mv_in]
  exact decide_eq_decide.mpr ((mem_mvs (x := ⟨g.rs.getD k 0, [b], c⟩)).trans (mem_srt.trans (mem_mvs (x := ⟨g.rs.getD k 0, [b], c⟩)).symm))
theorem lb_ix {env : DL.Env} {S : Store} {g : Rg} {ls : List Int} (h : LsOk g ls) {k : Nat} (hk : k < g.rs.length) : ixD env S (.val (.lst (ls.map .int))) (.int ((k : Int) - 1)) = some (.int (lb ls ((k : Int) - 1))) := lb_at (by have := h.n; omega)
theorem law_objects_ok {g : Rg} (ok : RgOk g) {ls : List Int} (h : LsOk g ls) (S : Store) : f__law_ring_objects [g.m.d, .lst (g.rs.map .int), .lst (ls.map .int)] S = .own ((g.objs ls).map fun k : Nat => D.int (k : Int)) S := by
  have hn := ok.n
  refine w__law_ring_objects ?_
  unfold m__law_ring_objects
  repeat' (first | infer_instance | done)
  refine ⟨by constructor <;> omega, ?_⟩
  rw [rng_ints, Int.toNat_natCast]
  refine ⟨by simp; omega, rp_eq (compL_filt (fun i : Nat => D.int (i : Int)) (g.obj ls) (fun i : Nat => D.int (i : Int)) (List.range g.rs.length) fun k hk => ?_) ?_⟩
  · have hk := List.mem_range.mp hk
    have a1 := h.at hk
    have a2 : (ls.map D.int)[k]? = some (.int (lb ls (k : Int))) := by rw [List.getElem?_map, a1.1]; rfl
    repeat' (first | infer_instance | done)
    refine ⟨?_, fun _ => ?_⟩
    · rw [t__law_ring_objects_1]
      repeat' (first | infer_instance | done)
      refine sp_of (ix_sqd (tp := false) (rs_at hk)) ?_
      repeat' (first | infer_instance | done)
      refine sp_of (lb_ix h hk) ?_
      repeat' (first | infer_instance | done)
      refine sp_of (ix_sqd (tp := false) a2) ?_
      repeat' (first | infer_instance | done)
      refine sp_inL rfl (eqks_mvs 61 _) ?_
      rw [mv_in]
      refine ⟨?_, rfl⟩
      unfold Rg.obj
      cases g.ob k (lb ls ((k : Int) - 1)) (lb ls (k : Int)) <;> rfl
    · rw [e__law_ring_objects_2]
      repeat' (first | infer_instance | done)
  · repeat' (first | infer_instance | done)
    rfl
theorem objectors_ok {g : Rg} (ok : RgOk g) (tp : Bool) {ls : List Int} (h : LsOk g ls) (S : Store) : f_ring_objectors [g.m.o, sqd tp (g.rs.map .int), .lst (ls.map .int)] S = .own ((g.objs ls).map fun k : Nat => D.int (k : Int)) S := by
  have hn := ok.n
  refine w_ring_objectors ?_
  unfold m_ring_objectors
  have sq : seqOf (sqd tp (g.rs.map D.int)) = some (g.rs.map .int) := by cases tp <;> rfl
  repeat' (first | infer_instance | done)
  refine sp_of sq ?_
  rw [enum_map D.int g.rs 0]
  refine forL_inv (fun i : Nat => D.tup [.int (i : Int), .int (g.rs.getD i 0)]) (List.range g.rs.length) (fun done env S' => S' = S ∧ ∃ y4 y5, env = [some (.val g.m.o), some (.val (sqd tp (g.rs.map .int))), some (.val (.lst (ls.map .int))), some (.own ((done.filter (g.obj ls)).map fun k : Nat => D.int (k : Int))), y4, y5]) ?_ ⟨rfl, none, none, rfl⟩ ?_
  · rintro done k rest env S' e ⟨rfl, y4, y5, rfl⟩
    have hk : k < g.rs.length := List.mem_range.mp (by rw [e]; simp)
    have hd : (done.filter (g.obj ls)).length ≤ g.rs.length := by
      have := congrArg List.length e
      have h2 := List.length_filter_le (g.obj ls) done
      simp at this
      omega
    have a1 := h.at hk
    have a2 : (ls.map D.int)[k]? = some (.int (lb ls (k : Int))) := by rw [List.getElem?_map, a1.1]; rfl
    rw [b_ring_objectors_1]
    repeat' (first | infer_instance | done)
    refine sp_of (lb_ix h hk) ?_
    repeat' (first | infer_instance | done)
    refine sp_of (ix_sqd (tp := false) a2) ?_
    repeat' (first | infer_instance | done)
    rw [srt_eq]
    refine sp_inT rfl (eqks_mvs 61 _) ?_
    rw [mv_inS, List.filter_append]
    have eo : g.obj ls k = g.ob k (lb ls ((k : Int) - 1)) (lb ls (k : Int)) := rfl
    cases eb : g.ob k (lb ls ((k : Int) - 1)) (lb ls (k : Int)) with
    | true =>
      repeat' (first | infer_instance | done)
      rw [List.filter_cons_of_pos (by rw [eo, eb]), List.filter_nil, List.map_append]
      exact ⟨_, _, rfl⟩
    | false =>
      repeat' (first | infer_instance | done)
      rw [List.filter_cons_of_neg (by rw [eo, eb]; decide), List.filter_nil, List.append_nil]
      exact ⟨_, _, rfl⟩
  · rintro env S' ⟨rfl, y4, y5, rfl⟩
    repeat' (first | infer_instance | done)
    rfl
theorem sum_ints {α : Type} (h : α → Int) (xs : List α) : fSum (.l (xs.map fun k => D.int (h k))) = some (.int (xs.map h).sum) := by
  unfold fSum
  dsimp only
  rw [show (xs.map fun k => D.int (h k)) = (xs.map h).map D.int by rw [List.map_map]; rfl, dInts_map]
  rfl
theorem nlog (k : Nat) (h : k ≤ 6) : ((k : Int)).natAbs.log2 ≤ 3 := by
  have : k = 0 ∨ k = 1 ∨ k = 2 ∨ k = 3 ∨ k = 4 ∨ k = 5 ∨ k = 6 := by omega
  rcases this with rfl | rfl | rfl | rfl | rfl | rfl | rfl <;> decide
theorem objs_len (g : Rg) (ls : List Int) : (g.objs ls).length ≤ g.rs.length := by
  have := List.length_filter_le (g.obj ls) (List.range g.rs.length)
  rw [List.length_range] at this
  exact this
theorem law_cost_ok {g : Rg} (ok : RgOk g) {ls : List Int} (h : LsOk g ls) (S : Store) : f__law_cost [.lst (g.P.map fun p => .lst (p.map .int)), encC g.fine, .lst (ls.map .int), .int ((g.objs ls).length : Nat)] S = .ret (encC (g.cc ls)) S := by
  have hn := ok.n
  have hl := h.n
  have hc := objs_len g ls
  have hnl := nlog _ (show (g.objs ls).length ≤ 6 by omega)
  have fb := ok.fb
  refine w__law_cost ?_
  unfold m__law_cost
  have comp : ∀ env S, env[0]? = some (some (.val (.lst (g.P.map fun p => .lst (p.map .int))))) → env[2]? = some (some (.val (.lst (ls.map .int)))) → env[5]? = some none → env.length = 6 → compL [5] (mgN 5) mYes e__law_cost_1 env ((List.range g.rs.length).map fun i : Nat => D.int (i : Int)) S = .ok ((List.range g.rs.length).map fun k : Nat => D.int (g.pr k (lb ls (k : Int)).toNat), S) := by
    intro env S e0 e2 e5 el
    match env, el with
    | [y0, y1, y2, y3, y4, y5], _ =>
      simp at e0 e2 e5
      subst e0 e2 e5
      refine compL_map (fun i : Nat => D.int (i : Int)) (fun k : Nat => D.int (g.pr k (lb ls (k : Int)).toNat)) (List.range g.rs.length) fun k hk => ?_
      have hk := List.mem_range.mp hk
      have a1 := h.at hk
      have a2 : (ls.map D.int)[k]? = some (.int (lb ls (k : Int))) := by rw [List.getElem?_map, a1.1]; rfl
      have a3 : D.int (lb ls (k : Int)) = .int (((lb ls (k : Int)).toNat : Nat) : Int) := by congr 1; omega
      rw [wipeE, wipeE, e__law_cost_1]
      repeat' (first | infer_instance | done)
      refine sp_of (ix_sqd (tp := false) (price_k ok hk false)) ?_
      repeat' (first | infer_instance | done)
      refine sp_of (ix_sqd (tp := false) a2) ?_
      repeat' (first | infer_instance | done)
      rw [a3]
      refine sp_of (ix_sqd (tp := false) (price_l ok hk a1.2.2.1)) ?_
      exact ⟨rfl, rfl⟩
  unfold Rg.cc
  by_cases h0 : 0 < (g.objs ls).length
  · rw [if_pos h0]
    cases ef : g.fine with
    | none =>
      rw [show encC none = D.non from rfl]
      repeat' (first | infer_instance | done)
      rfl
    | some f =>
      rw [show encC (some f) = D.int f from rfl]
      have fb := fb f ef
      repeat' (first | infer_instance | done)
      refine ⟨by constructor <;> omega, ?_⟩
      rw [rng_ints, Int.toNat_natCast, hl]
      refine ⟨by simp; omega, rp_eq (comp _ _ rfl rfl rfl rfl) ?_⟩
      repeat' (first | infer_instance | done)
      refine sp_of (sum_ints _ _) ?_
      repeat' (first | infer_instance | done)
      refine rp_fMul (by omega) ?_
      repeat' (first | infer_instance | done)
      rfl
  · rw [if_neg h0]
    repeat' (first | infer_instance | done)
    refine ⟨by constructor <;> omega, ?_⟩
    rw [rng_ints, Int.toNat_natCast, hl]
    refine ⟨by simp; omega, rp_eq (comp _ _ rfl rfl rfl rfl) ?_⟩
    repeat' (first | infer_instance | done)
    refine sp_of (sum_ints _ _) ?_
    repeat' (first | infer_instance | done)
    rfl
end K10

set_option linter.all false
set_option maxRecDepth 100000
set_option maxHeartbeats 4000000
set_option autoImplicit false
namespace K10
open PySem PySem.Spec L2 DL PySem.W
local macro_rules
  | `(tactic| infer_instance) => `(tactic| first
    | (first | with_reducible refine op_seq ?_ | with_reducible refine sq_set (by simp only [List.set_cons_succ, List.set_cons_zero]; rfl) ?_ | with_reducible refine sq_nx ?_ | ((with_reducible refine id_v ?_); (refine rp_v rfl ?_)) | with_reducible refine rp_c ?_ | with_reducible refine rp_cons ?_ | with_reducible refine rp_nil ?_ | with_reducible refine rp_neg ?_ | with_reducible refine rp_lv ?_ | ((with_reducible refine id_lo ?_); (refine rp_lo rfl ?_)) | with_reducible refine op_asgN ?_)
    | (first | with_reducible refine op_asg ?_ | with_reducible refine op_setO ?_ | with_reducible refine op_if ?_ | with_reducible refine op_for ?_ | with_reducible refine op_next ?_ | with_reducible refine op_ret ?_ | with_reducible refine op_retO ?_ | ((with_reducible refine id_retV ?_); (refine op_retV rfl ?_)) | with_reducible refine op_retN ?_ | with_reducible refine op_drop ?_ | with_reducible refine op_dropX ?_)
    | (first | with_reducible refine op_asgX ?_ | with_reducible refine op_retX ?_ | with_reducible refine op_break ?_ | with_reducible refine op_cont ?_ | ((with_reducible refine id_frz ?_); (refine op_frz rfl (by simp only [List.set_cons_succ, List.set_cons_zero]; rfl) ?_)) | ((with_reducible refine id_locz ?_); (refine op_locz rfl (by simp only [List.set_cons_succ, List.set_cons_zero]; rfl) ?_)) | with_reducible refine sq_rt ?_ | with_reducible refine sq_ro ?_ | with_reducible refine sq_bk ?_ | with_reducible refine sq_ct ?_ | with_reducible refine sq_exc ?_)
    | (first | with_reducible refine lq_set (by simp only [List.set_cons_succ, List.set_cons_zero]; rfl) ?_ | with_reducible refine lq_nx ?_ | with_reducible refine lq_ct ?_ | with_reducible refine lq_bk ?_ | with_reducible refine lq_rt ?_ | with_reducible refine lq_ro ?_ | with_reducible refine lq_exc ?_ | with_reducible refine rp_call ?_ | with_reducible refine rp_callO ?_ | with_reducible refine rp_ix ?_ | with_reducible refine rp_b1 ?_)
    | (first | with_reducible refine rp_op ?_ | with_reducible refine rp_fAdd ?_ | with_reducible refine rp_fSub ?_ | with_reducible refine rp_fMin2 ?_ | with_reducible refine op_putF ?_ | with_reducible refine rp_methC ?_ | with_reducible refine rp_methCO ?_ | with_reducible refine rp_dictP ?_ | with_reducible refine rp_inDE ?_ | with_reducible refine rp_isC ?_ | with_reducible refine rp_make ?_)
    | (first | with_reducible refine rp_fMax2 ?_ | with_reducible refine rp_cmp ?_ | with_reducible refine rp_cmpT ?_ | with_reducible refine rp_chainP ?_ | with_reducible refine rp_chainTP ?_ | with_reducible refine rp_tru ?_ | with_reducible refine sp_tru_bl ?_ | with_reducible refine sp_tru_non ?_ | with_reducible refine sp_tru_int ?_ | with_reducible refine sp_tru_lst ?_ | with_reducible refine sp_tru_tup ?_)
    | (first | ((with_reducible refine id_truS ?_); (refine sp_tru_slot rfl ?_)) | with_reducible refine rp_notT ?_ | with_reducible refine rp_andT ?_ | with_reducible refine rp_orT ?_ | with_reducible refine rp_and ?_ | with_reducible refine rp_or ?_ | with_reducible refine rp_not ?_ | with_reducible refine rp_if ?_ | with_reducible refine rp_ifO ?_ | with_reducible refine rp_star ?_ | with_reducible refine rp_tup ?_)
    | (first | with_reducible refine rp_lst ?_ | with_reducible refine rp_f ?_ | with_reducible refine rp_new ?_ | with_reducible refine rp_in ?_ | with_reducible refine rp_inE ?_ | with_reducible refine rp_inB ?_ | with_reducible refine rp_inBE ?_ | with_reducible refine rp_pn ?_ | with_reducible refine rp_ps ?_ | with_reducible refine rp_sl ?_ | with_reducible refine rp_slO ?_)
    | (first | with_reducible refine rp_e1 ?_ | with_reducible refine rp_list ?_ | with_reducible refine rp_sortI ?_ | with_reducible refine rp_cat ?_ | with_reducible refine rp_rep ?_ | with_reducible refine rp_fld ?_ | with_reducible refine rp_isBE ?_ | with_reducible refine rp_eqL ?_ | with_reducible refine rp_iV ?_ | with_reducible refine rp_iR1 ?_ | with_reducible refine rp_iR2 ?_)
    | (first | with_reducible refine rp_iRev ?_ | with_reducible refine rp_iEnum ?_ | with_reducible refine rp_iZip ?_ | ((with_reducible refine id_comp ?_); (refine rp_comp rfl ?_)) | ((with_reducible refine id_appO ?_); (refine rp_appO rfl ?_)) | ((with_reducible refine id_extO ?_); (refine rp_extO rfl ?_)) | with_reducible refine len_le (by first | decide | (simp only [List.length_cons, List.length_nil, List.length_map, List.length_append]; omega)) ?_ | with_reducible refine len_lt (by first | decide | (simp only [List.length_cons, List.length_nil, List.length_map, List.length_append]; omega)) ?_ | with_reducible refine sp_mgN (by simp only [List.set_cons_succ, List.set_cons_zero]; rfl) ?_ | ((with_reducible refine id_mgT ?_); (refine sp_mgT rfl ?_)) | with_reducible refine sp_mgCons ?_)
    | (first | with_reducible refine sp_mgNil ?_ | with_reducible refine sp_lenL ?_ | with_reducible refine sp_lenT ?_ | with_reducible refine sp_cEqI ?_ | with_reducible refine sp_cNeI ?_ | with_reducible refine sp_cEqB ?_ | with_reducible refine sp_cNeB ?_ | with_reducible refine bp_t ?_ | with_reducible refine bp_f ?_ | with_reducible refine bp_nt ?_ | with_reducible refine bp_nf ?_)
    | (first | with_reducible refine bp_dt rfl ?_ | with_reducible refine bp_ndt rfl ?_ | with_reducible refine bp_dt (by decide) ?_ | with_reducible refine bp_df (by decide) ?_ | with_reducible refine bp_ndt (by decide) ?_ | with_reducible refine bp_ndf (by decide) ?_ | with_reducible refine bp_dt (by omega) ?_ | with_reducible refine bp_df (by omega) ?_ | with_reducible refine bp_ndt (by omega) ?_ | with_reducible refine bp_ndf (by omega) ?_ | with_reducible refine bp_qtup ?_)
    | (first | with_reducible refine bp_qint ?_ | with_reducible refine bp_nbl ?_ | with_reducible refine bp_nint ?_ | with_reducible refine bp_nstr ?_ | with_reducible refine bp_ntup ?_ | with_reducible refine bp_nlst ?_ | with_reducible refine bp_nloc ?_ | with_reducible refine bp_ct (by decide) ?_ | with_reducible refine bp_cf (by decide) ?_ | with_reducible refine sp_cEqS ?_ | with_reducible refine ex_int ?_)
    | (first | with_reducible refine st_eq ?_ | ((with_reducible refine id_sq ?_); (refine sp_of rfl ?_)) | with_reducible exact ⟨rfl, rfl⟩ | with_reducible exact rfl))

theorem priced_ok {g : Rg} (ok : RgOk g) (tp : Bool) {ls : List Int} (h : LsOk g ls) (S : Store) : f_priced [sqd tp (g.P.map fun p => sqd tp (p.map .int)), encC g.fine, .lst (ls.map .int), .int ((g.objs ls).length : Nat)] S = .ret (encC (g.cc ls)) S := by
  have hn := ok.n
  have hl := h.n
  have hc := objs_len g ls
  have hnl := nlog _ (show (g.objs ls).length ≤ 6 by omega)
  have fb := ok.fb
  refine w_priced ?_
  unfold m_priced
  have comp : ∀ env S, env[0]? = some (some (.val (sqd tp (g.P.map fun p => sqd tp (p.map .int))))) → env[4]? = some none → env[5]? = some none → env.length = 6 → compL [4, 5] (mgT 2 (mgCons (mgN 4) (mgCons (mgN 5) mgNil))) mYes e_priced_1 env ((List.range ls.length).map fun i : Nat => D.tup [.int (i : Int), .int (ls.getD i 0)]) S = .ok ((List.range ls.length).map fun k : Nat => D.int (g.pr k (lb ls (k : Int)).toNat), S) := by
    intro env S e0 e4 e5 el
    match env, el with
    | [y0, y1, y2, y3, y4, y5], _ =>
      simp at e0 e4 e5
      subst e0 e4 e5
      refine compL_map (fun i : Nat => D.tup [.int (i : Int), .int (ls.getD i 0)]) (fun k : Nat => D.int (g.pr k (lb ls (k : Int)).toNat)) (List.range ls.length) fun k hk => ?_
      have hk := List.mem_range.mp hk
      rw [hl] at hk
      have a1 := h.at hk
      have a3 : D.int (ls.getD k 0) = .int (((lb ls (k : Int)).toNat : Nat) : Int) := by rw [a1.2.2.2]; congr 1; omega
      rw [wipeE, wipeE, wipeE, e_priced_1, a3]
      repeat' (first | infer_instance | done)
      refine sp_of (ix_sqd (price_k ok hk tp)) ?_
      repeat' (first | infer_instance | done)
      refine sp_of (ix_sqd (price_l ok hk a1.2.2.1)) ?_
      exact ⟨rfl, rfl⟩
  have comp := comp
  unfold Rg.cc
  by_cases h0 : 0 < (g.objs ls).length
  · rw [if_pos h0]
    cases ef : g.fine with
    | none =>
      rw [show encC none = D.non from rfl]
      repeat' (first | infer_instance | done)
      refine bp_ct (bne_iff_ne.mpr (by omega)) ?_
      repeat' (first | infer_instance | done)
      rfl
    | some f =>
      rw [show encC (some f) = D.int f from rfl]
      have fb := fb f ef
      repeat' (first | infer_instance | done)
      refine bp_ct (bne_iff_ne.mpr (by omega)) ?_
      repeat' (first | infer_instance | done)
      rw [enum_map D.int ls 0]
      refine ⟨by simp; omega, rp_eq (comp _ _ rfl rfl rfl rfl) ?_⟩
      repeat' (first | infer_instance | done)
      refine sp_of (sum_ints _ _) ?_
      repeat' (first | infer_instance | done)
      have e1 : (if (f != 0) = true then D.int f else D.int 0) = D.int f := by
        by_cases z : f = 0
        · subst z; rfl
        · rw [if_pos (by simp [z])]
      by_cases z : f = 0
      · subst z
        refine bp_cf rfl ?_
        repeat' (first | infer_instance | done)
        refine rp_fMul (by show _ + 0 < _; omega) ?_
        repeat' (first | infer_instance | done)
        rw [hl]
        rfl
      · refine bp_ct (by simp [z]) ?_
        repeat' (first | infer_instance | done)
        refine rp_fMul (by omega) ?_
        repeat' (first | infer_instance | done)
        rw [hl]
        rfl
  · rw [if_neg h0]
    have e0 : (g.objs ls).length = 0 := by omega
    rw [e0]
    repeat' (first | infer_instance | done)
    rw [enum_map D.int ls 0]
    refine ⟨by simp; omega, rp_eq (comp _ _ rfl rfl rfl rfl) ?_⟩
    repeat' (first | infer_instance | done)
    refine sp_of (sum_ints _ _) ?_
    repeat' (first | infer_instance | done)
    cases ef : g.fine with
    | none =>
      refine sp_tru_non ?_
      refine bp_f ?_
      repeat' (first | infer_instance | done)
      refine rp_fMul (by decide) ?_
      repeat' (first | infer_instance | done)
      rw [hl]
      simp [outF0, encC, Rg.sm]
    | some f =>
      have fb := fb f ef
      refine sp_tru_int ?_
      by_cases z : f = 0
      · subst z
        refine bp_cf rfl ?_
        repeat' (first | infer_instance | done)
        refine rp_fMul (by decide) ?_
        repeat' (first | infer_instance | done)
        rw [hl]
        simp [outF0, encC, Rg.sm]
      · refine bp_ct (by simp [z]) ?_
        refine rp_fMul (by show 0 + _ < _; omega) ?_
        repeat' (first | infer_instance | done)
        rw [hl]
        simp [outF0, encC, Rg.sm]
theorem fits_ok {g : Rg} (ok : RgOk g) {ls : List Int} (h : LsOk g ls) (S : Store) : f_fits [g.m.o, .lst (ls.map .int), .int (g.rs.length : Nat)] S = .ret (.bl true) S := by
  obtain ⟨eB, hB0, hB⟩ := ok.bB
  have hn := ok.n
  have hl := h.n
  refine w_fits ?_
  unfold m_fits
  repeat' (first | infer_instance | done)
  refine rp_eq (compL_map D.int (fun _ => D.bl true) ls fun x hx => ?_) ?_
  · have := h.r x hx
    rw [wipeE, wipeE, e_fits_1]
    repeat' (first | infer_instance | done)
    refine ⟨?_, rfl⟩
    rw [decide_eq_true this.1, decide_eq_true (show x < g.m.B by omega)]
    rfl
  · repeat' (first | infer_instance | done)
    refine sp_of (fAll_trues ls) ?_
    repeat' (first | infer_instance | done)
    rfl
end K10

set_option linter.all false
set_option maxRecDepth 100000
set_option maxHeartbeats 4000000
set_option autoImplicit false
namespace K10
open PySem PySem.Spec L2 DL PySem.W
local macro_rules
  | `(tactic| infer_instance) => `(tactic| first
    | (first | with_reducible refine op_seq ?_ | with_reducible refine sq_set (by simp only [List.set_cons_succ, List.set_cons_zero]; rfl) ?_ | with_reducible refine sq_nx ?_ | ((with_reducible refine id_v ?_); (refine rp_v rfl ?_)) | with_reducible refine rp_c ?_ | with_reducible refine rp_cons ?_ | with_reducible refine rp_nil ?_ | with_reducible refine rp_neg ?_ | with_reducible refine rp_lv ?_ | ((with_reducible refine id_lo ?_); (refine rp_lo rfl ?_)) | with_reducible refine op_asgN ?_)
    | (first | with_reducible refine op_asg ?_ | with_reducible refine op_setO ?_ | with_reducible refine op_if ?_ | with_reducible refine op_for ?_ | with_reducible refine op_next ?_ | with_reducible refine op_ret ?_ | with_reducible refine op_retO ?_ | ((with_reducible refine id_retV ?_); (refine op_retV rfl ?_)) | with_reducible refine op_retN ?_ | with_reducible refine op_drop ?_ | with_reducible refine op_dropX ?_)
    | (first | with_reducible refine op_asgX ?_ | with_reducible refine op_retX ?_ | with_reducible refine op_break ?_ | with_reducible refine op_cont ?_ | ((with_reducible refine id_frz ?_); (refine op_frz rfl (by simp only [List.set_cons_succ, List.set_cons_zero]; rfl) ?_)) | ((with_reducible refine id_locz ?_); (refine op_locz rfl (by simp only [List.set_cons_succ, List.set_cons_zero]; rfl) ?_)) | with_reducible refine sq_rt ?_ | with_reducible refine sq_ro ?_ | with_reducible refine sq_bk ?_ | with_reducible refine sq_ct ?_ | with_reducible refine sq_exc ?_)
    | (first | with_reducible refine lq_set (by simp only [List.set_cons_succ, List.set_cons_zero]; rfl) ?_ | with_reducible refine lq_nx ?_ | with_reducible refine lq_ct ?_ | with_reducible refine lq_bk ?_ | with_reducible refine lq_rt ?_ | with_reducible refine lq_ro ?_ | with_reducible refine lq_exc ?_ | with_reducible refine rp_call ?_ | with_reducible refine rp_callO ?_ | with_reducible refine rp_ix ?_ | with_reducible refine rp_b1 ?_)
    | (first | with_reducible refine rp_op ?_ | with_reducible refine rp_fAdd ?_ | with_reducible refine rp_fSub ?_ | with_reducible refine rp_fMin2 ?_ | with_reducible refine op_putF ?_ | with_reducible refine rp_methC ?_ | with_reducible refine rp_methCO ?_ | with_reducible refine rp_dictP ?_ | with_reducible refine rp_inDE ?_ | with_reducible refine rp_isC ?_ | with_reducible refine rp_make ?_)
    | (first | with_reducible refine rp_fMax2 ?_ | with_reducible refine rp_cmp ?_ | with_reducible refine rp_cmpT ?_ | with_reducible refine rp_chainP ?_ | with_reducible refine rp_chainTP ?_ | with_reducible refine rp_tru ?_ | with_reducible refine sp_tru_bl ?_ | with_reducible refine sp_tru_non ?_ | with_reducible refine sp_tru_int ?_ | with_reducible refine sp_tru_lst ?_ | with_reducible refine sp_tru_tup ?_)
    | (first | ((with_reducible refine id_truS ?_); (refine sp_tru_slot rfl ?_)) | with_reducible refine rp_notT ?_ | with_reducible refine rp_andT ?_ | with_reducible refine rp_orT ?_ | with_reducible refine rp_and ?_ | with_reducible refine rp_or ?_ | with_reducible refine rp_not ?_ | with_reducible refine rp_if ?_ | with_reducible refine rp_ifO ?_ | with_reducible refine rp_star ?_ | with_reducible refine rp_tup ?_)
    | (first | with_reducible refine rp_lst ?_ | with_reducible refine rp_f ?_ | with_reducible refine rp_new ?_ | with_reducible refine rp_in ?_ | with_reducible refine rp_inE ?_ | with_reducible refine rp_inB ?_ | with_reducible refine rp_inBE ?_ | with_reducible refine rp_pn ?_ | with_reducible refine rp_ps ?_ | with_reducible refine rp_sl ?_ | with_reducible refine rp_slO ?_)
    | (first | with_reducible refine rp_e1 ?_ | with_reducible refine rp_list ?_ | with_reducible refine rp_sortI ?_ | with_reducible refine rp_cat ?_ | with_reducible refine rp_rep ?_ | with_reducible refine rp_fld ?_ | with_reducible refine rp_isBE ?_ | with_reducible refine rp_eqL ?_ | with_reducible refine rp_iV ?_ | with_reducible refine rp_iR1 ?_ | with_reducible refine rp_iR2 ?_)
    | (first | with_reducible refine rp_iRev ?_ | with_reducible refine rp_iEnum ?_ | with_reducible refine rp_iZip ?_ | ((with_reducible refine id_comp ?_); (refine rp_comp rfl ?_)) | ((with_reducible refine id_appO ?_); (refine rp_appO rfl ?_)) | ((with_reducible refine id_extO ?_); (refine rp_extO rfl ?_)) | with_reducible refine len_le (by first | decide | (simp only [List.length_cons, List.length_nil, List.length_map, List.length_append]; omega)) ?_ | with_reducible refine len_lt (by first | decide | (simp only [List.length_cons, List.length_nil, List.length_map, List.length_append]; omega)) ?_ | with_reducible refine sp_mgN (by simp only [List.set_cons_succ, List.set_cons_zero]; rfl) ?_ | ((with_reducible refine id_mgT ?_); (refine sp_mgT rfl ?_)) | with_reducible refine sp_mgCons ?_)
    | (first | with_reducible refine sp_mgNil ?_ | with_reducible refine sp_lenL ?_ | with_reducible refine sp_lenT ?_ | with_reducible refine sp_cEqI ?_ | with_reducible refine sp_cNeI ?_ | with_reducible refine sp_cEqB ?_ | with_reducible refine sp_cNeB ?_ | with_reducible refine bp_t ?_ | with_reducible refine bp_f ?_ | with_reducible refine bp_nt ?_ | with_reducible refine bp_nf ?_)
    | (first | with_reducible refine bp_dt rfl ?_ | with_reducible refine bp_ndt rfl ?_ | with_reducible refine bp_dt (by decide) ?_ | with_reducible refine bp_df (by decide) ?_ | with_reducible refine bp_ndt (by decide) ?_ | with_reducible refine bp_ndf (by decide) ?_ | with_reducible refine bp_dt (by omega) ?_ | with_reducible refine bp_df (by omega) ?_ | with_reducible refine bp_ndt (by omega) ?_ | with_reducible refine bp_ndf (by omega) ?_ | with_reducible refine bp_qtup ?_)
    | (first | with_reducible refine bp_qint ?_ | with_reducible refine bp_nbl ?_ | with_reducible refine bp_nint ?_ | with_reducible refine bp_nstr ?_ | with_reducible refine bp_ntup ?_ | with_reducible refine bp_nlst ?_ | with_reducible refine bp_nloc ?_ | with_reducible refine bp_ct (by decide) ?_ | with_reducible refine bp_cf (by decide) ?_ | with_reducible refine sp_cEqS ?_ | with_reducible refine ex_int ?_)
    | (first | with_reducible refine st_eq ?_ | ((with_reducible refine id_sq ?_); (refine sp_of rfl ?_)) | with_reducible exact ⟨rfl, rfl⟩ | with_reducible exact rfl))

/-! ### judging a ring -/
theorem enum_range (f : Nat → D) (n : Nat) : enumD ((List.range n).map f) = (List.range n).map fun i : Nat => D.tup [.int (i : Int), f i] := by
  unfold enumD
  apply List.ext_getElem?
  intro i
  rw [List.getElem?_map, List.getElem?_zipIdx, List.getElem?_map, List.getElem?_map]
  by_cases h : i < n
  · rw [List.getElem?_range h]
    simp
  · rw [List.getElem?_eq_none (by simp; omega)]
    rfl
def pr0 (cs : List (Option Int)) : List (Option CL) := cs.map fun c => c.map fun c => (c, [])
theorem pr0_fst (cs : List (Option Int)) : (pr0 cs).map fst = cs := by
  unfold pr0
  rw [List.map_map]
  conv => rhs; rw [← List.map_id cs]
  apply List.map_congr_left
  intro c _
  cases c <;> rfl
theorem pr0_len (cs : List (Option Int)) : (pr0 cs).length = cs.length := by simp [pr0]
theorem pr0_short (cs : List (Option Int)) : short (pr0 cs) := fun p hp => by
  obtain ⟨c, _, e⟩ := List.mem_map.mp hp
  cases c with
  | none => cases e
  | some c => cases e; simp
theorem eqks_encC (n : Nat) : ∀ cs : List (Option Int), D.eqks (n + 1) (cs.map encC) = true
  | [] => rfl
  | c :: cs => by
    rw [List.map_cons, D.eqks, eqks_encC n cs]
    cases c <;> simp [encC, D.eqk]
theorem eqL_same {cs : List (Option Int)} : eqCt (.l (cs.map encC)) (.l (cs.map encC)) = some true := by
  unfold eqCt
  dsimp only
  rw [if_pos ⟨eqks_encC 62 cs, eqks_encC 62 cs⟩, decide_eq_true rfl]
theorem dBls_falses {α : Type} : ∀ ds : List α, dBls (ds.map fun _ => D.bl false) = some (ds.map fun _ => false)
  | [] => rfl
  | d :: ds => by
    rw [List.map_cons, dBls, dBls_falses ds]
    rfl
theorem fAny_falses {α : Type} (ds : List α) : fAny (.l (ds.map fun _ => D.bl false)) = some (.bl false) := by
  unfold fAny
  dsimp only
  rw [dBls_falses]
  simp
theorem cst_zero (g : Rg) (f : Nat) : g.cst f 0 = (List.range g.B).map fun l : Nat => if l = f then some 0 else none := by
  unfold Rg.cst
  rw [Rg.rws, Rg.row0, List.map_map]
  apply List.map_congr_left
  intro l _
  show fst (if l = f then some (0, [(f : Int)]) else none) = _
  by_cases c : l = f
  · rw [if_pos c, if_pos c]; rfl
  · rw [if_neg c, if_neg c]; rfl
theorem nums_at (g : Rg) (f : Nat) {k : Nat} (hk : k < g.rs.length) : ((List.range g.rs.length).map fun k => D.lst (((g.rws f k).map fst).map encC))[k]? = some (.lst ((g.cst f k).map encC)) := by
  rw [List.getElem?_map, List.getElem?_range hk]
  rfl
theorem prs_at (g : Rg) (f : Nat) {k : Nat} (hk : k < g.rs.length) : ((List.range g.rs.length).map fun k => rowD (pr0 (g.cst f k)))[k]? = some (rowD (pr0 (g.cst f k))) := by
  rw [List.getElem?_map, List.getElem?_range hk]
  rfl
theorem row_again (g : Rg) (f k : Nat) : (g.row (k + 1) (pr0 (g.cst f k))).map fst = g.cst f (k + 1) := by
  rw [row_fst g (k + 1) (by rw [pr0_len, cst_len]), pr0_fst, cst_step]
theorem cls_again (g : Rg) (f : Nat) : fst (g.cls f (pr0 (g.cst f (g.rs.length - 1)))) = fst (g.tot f) := by
  rw [cls_fst g f (by rw [pr0_len, cst_len]), pr0_fst, tot_fst]
theorem judge_rows {g : Rg} (ok : RgOk g) (tp : Bool) {f : Nat} {S : Store} {x2 x3 x4 x6 x7 x10 x11 x12 x13 : Option Sl} {Q : Out → Prop}
    (h : ∀ y10, Q (.nx [some (.val g.m.o), some (.val (sqd tp (g.rs.map .int))), x2, x3, x4, some (.val (g.o tp)), x6, x7, some (.val (g.nums f)), some (.val (.lst ((List.range g.rs.length).map fun k => rowD (pr0 (g.cst f k))))), y10, x11, x12, x13, none] S)) :
    OQ (forL (mgN 10) b_judge_ring_6 ((List.range (g.rs.length - 1)).map fun i : Nat => D.int ((i + 1 : Nat) : Int)) [some (.val g.m.o), some (.val (sqd tp (g.rs.map .int))), x2, x3, x4, some (.val (g.o tp)), x6, x7, some (.val (g.nums f)), some (.val (.lst ((List.range g.rs.length).map fun k => rowD (pr0 (g.cst f k))))), x10, x11, x12, x13, none] S) Q := by
  obtain ⟨eB, hB0, hB⟩ := ok.bB
  have hn := ok.n
  refine forL_inv (fun i : Nat => D.int ((i + 1 : Nat) : Int)) (List.range (g.rs.length - 1)) (fun done env S' => S' = S ∧ ∃ y10, env = [some (.val g.m.o), some (.val (sqd tp (g.rs.map .int))), x2, x3, x4, some (.val (g.o tp)), x6, x7, some (.val (g.nums f)), some (.val (.lst ((List.range g.rs.length).map fun k => rowD (pr0 (g.cst f k))))), y10, x11, x12, x13, none]) ?_ ⟨rfl, x10, rfl⟩ ?_
  · rintro done i rest env S' e ⟨rfl, y10, rfl⟩
    have hi : i < g.rs.length - 1 := List.mem_range.mp (by rw [e]; simp)
    have hk : i + 1 < g.rs.length := by omega
    have hrl : (g.row (i + 1) (pr0 (g.cst f i))).length = g.B := by simp [Rg.row]
    rw [b_judge_ring_6]
    repeat' (first | infer_instance | done)
    refine ⟨rfl, ?_⟩
    repeat' (first | infer_instance | done)
    rw [show (((i + 1 : Nat) : Int) - 1) = ((i : Nat) : Int) by omega]
    refine sp_of (ix_sqd (tp := false) (prs_at g f (show i < g.rs.length by omega))) ?_
    repeat' (first | infer_instance | done)
    refine gp_own (row_ok ok tp hk (pr0_short _) (by rw [pr0_len, cst_len]; omega) _) ?_
    repeat' (first | infer_instance | done)
    refine rp_eq (compL_map encP (fun p => encC (fst p)) (g.row (i + 1) (pr0 (g.cst f i))) fun p hp => ?_) ?_
    · rw [wipeE, wipeE, e_judge_ring_5]
      repeat' (first | infer_instance | done)
      refine fp_ret (cost_of_ok p _) ?_
      exact ⟨rfl, rfl⟩
    · repeat' (first | infer_instance | done)
      refine sp_of (ix_sqd (tp := false) (nums_at g f hk)) ?_
      repeat' (first | infer_instance | done)
      refine sp_of (a := true) ?_ ?_
      · rw [show ((g.row (i + 1) (pr0 (g.cst f i))).map fun p => encC (fst p)) = (g.cst f (i + 1)).map encC by rw [← row_again, List.map_map]; rfl]
        exact eqL_same
      · repeat' (first | infer_instance | done)
        exact ⟨_, rfl⟩
  · rintro env S' ⟨rfl, y10, rfl⟩
    exact h y10
theorem judge_loop {g : Rg} (ok : RgOk g) (tp : Bool) {S : Store} {x2 x3 x4 x7 x8 x9 x10 : Option Sl} {Q : Out → Prop} (n9 : x9 = none)
    (h : ∀ y7 y8 y9 y10, Q (.nx [some (.val g.m.o), some (.val (sqd tp (g.rs.map .int))), x2, x3, x4, some (.val (g.o tp)), some (.own (((List.range g.B).map fun f => fst (g.tot f)).map encC)), y7, y8, y9, y10, none, none, none, none] S)) :
    OQ (forL (mgT 2 (mgCons (mgN 7) (mgCons (mgN 8) mgNil))) b_judge_ring_7 ((List.range g.B).map fun i : Nat => D.tup [.int (i : Int), g.nums i]) [some (.val g.m.o), some (.val (sqd tp (g.rs.map .int))), x2, x3, x4, some (.val (g.o tp)), some (.own []), x7, x8, x9, x10, none, none, none, none] S) Q := by
  obtain ⟨eB, hB0, hB⟩ := ok.bB
  have hn := ok.n
  have n0 := ok.n0
  refine forL_inv (fun i : Nat => D.tup [.int (i : Int), g.nums i]) (List.range g.B) (fun done env S' => S' = S ∧ ∃ y7 y8 y9 y10, env = [some (.val g.m.o), some (.val (sqd tp (g.rs.map .int))), x2, x3, x4, some (.val (g.o tp)), some (.own ((done.map fun f => fst (g.tot f)).map encC)), y7, y8, y9, y10, none, none, none, none]) ?_ ⟨rfl, x7, x8, x9, x10, rfl⟩ ?_
  · rintro done f rest env S' e ⟨rfl, y7, y8, y9, y10, rfl⟩
    have hf : f < g.B := List.mem_range.mp (by rw [e]; simp)
    have hd : done.length ≤ g.B := by have := congrArg List.length e; simp at this; omega
    rw [b_judge_ring_7]
    repeat' (first | infer_instance | done)
    refine mk_len ?_
    repeat' (first | infer_instance | done)
    refine bp_ndt (by simp) ?_
    repeat' (first | infer_instance | done)
    refine ⟨by simp; omega, rp_eq (compL_map (fun k => D.lst (((g.rws f k).map fst).map encC)) (fun _ => D.bl false) (List.range g.rs.length) fun k hk => ?_) ?_⟩
    · have hl := cst_len g f k
      unfold Rg.cst at hl
      rw [wipeE, wipeE, e_judge_ring_1]
      repeat' (first | infer_instance | done)
      rw [decide_eq_true (by rw [hl]; exact eB)]
      exact ⟨rfl, rfl⟩
    · repeat' (first | infer_instance | done)
      refine sp_of (fAny_falses (List.range g.rs.length)) ?_
      repeat' (first | infer_instance | done)
      refine ⟨by simp; omega, rp_eq (compL_map (fun k => D.lst (((g.rws f k).map fst).map encC)) (fun k => rowD (pr0 (g.cst f k))) (List.range g.rs.length) fun k hk => ?_) ?_⟩
      · have hl := cst_len g f k
        rw [wipeE, wipeE, e_judge_ring_3]
        repeat' (first | infer_instance | done)
        refine ⟨by show ((g.cst f k).map encC).length ≤ _; rw [List.length_map]; omega, rp_eq (compL_map encC (fun c => encP (c.map fun c => (c, []))) (g.cst f k) fun c hc => ?_) ?_⟩
        · rw [wipeE, wipeE, e_judge_ring_2]
          cases c with
          | none =>
            rw [show encC none = D.non from rfl]
            repeat' (first | infer_instance | done)
          | some c =>
            rw [show encC (some c) = D.int c from rfl]
            repeat' (first | infer_instance | done)
        · repeat' (first | infer_instance | done)
          show _ = D.lst ((pr0 _).map encP) ∧ _
          unfold pr0
          rw [List.map_map]
          exact ⟨rfl, rfl⟩
      · repeat' (first | infer_instance | done)
        refine sp_of (ix_sqd (tp := false) (k := 0) (nums_at g f n0)) ?_
        repeat' (first | infer_instance | done)
        refine ⟨by constructor <;> omega, ?_⟩
        rw [rng_ints]
        change (_ ≤ _) ∧ RQ (compL _ _ _ _ _ ((List.range g.B).map fun i : Nat => D.int (i : Int)) S') _ _
        refine ⟨by simp; omega, rp_eq (compL_map (fun i : Nat => D.int (i : Int)) (fun l : Nat => encC (if l = f then some 0 else none)) (List.range g.B) fun l hl => ?_) ?_⟩
        · rw [wipeE, wipeE, e_judge_ring_4]
          repeat' (first | infer_instance | done)
          by_cases c : l = f
          · subst c
            rw [if_pos rfl]
            repeat' (first | infer_instance | done)
          · rw [if_neg c]
            repeat' (first | infer_instance | done)
        · repeat' (first | infer_instance | done)
          refine sp_of (a := true) ?_ ?_
          · rw [show ((List.range g.B).map fun l : Nat => encC (if l = f then some 0 else none)) = (g.cst f 0).map encC by rw [cst_zero, List.map_map]; rfl]
            exact eqL_same
          · repeat' (first | infer_instance | done)
            refine mk_len ?_
            repeat' (first | infer_instance | done)
            refine ⟨1, _, rfl, rfl, by constructor <;> omega, ?_⟩
            rw [rng_one, show (((g.rs.length : Nat) : Int) - 1).toNat = g.rs.length - 1 by omega]
            refine judge_rows ok tp fun z10 => ?_
            repeat' (first | infer_instance | done)
            refine ⟨rfl, ?_⟩
            repeat' (first | infer_instance | done)
            refine sp_of (a := rowD (pr0 (g.cst f (g.rs.length - 1)))) ?_ ?_
            · show atI ((List.range g.rs.length).map fun k => rowD (pr0 (g.cst f k))) (-1) = _
              conv => lhs; rw [show g.rs.length = (g.rs.length - 1) + 1 by omega]
              rw [List.range_succ, List.map_append]
              exact atI_last _ _
            · repeat' (first | infer_instance | done)
              refine fp_ret (closed_ok ok tp hf (pr0_short _) (by rw [pr0_len, cst_len]; omega) _) ?_
              repeat' (first | infer_instance | done)
              refine fp_ret (cost_of_ok _ _) ?_
              repeat' (first | infer_instance | done)
              rw [List.map_append, List.map_append]
              rw [show Option.map (fun x : CL => x.1) (g.cls f (pr0 (g.cst f (g.rs.length - 1)))) = fst (g.tot f) from cls_again g f]
              exact ⟨_, _, _, _, rfl⟩
  · rintro env S' ⟨rfl, y7, y8, y9, y10, rfl⟩
    exact h y7 y8 y9 y10
end K10

set_option linter.all false
set_option maxRecDepth 100000
set_option maxHeartbeats 4000000
set_option autoImplicit false
namespace K10
open PySem PySem.Spec L2 DL PySem.W
local macro_rules
  | `(tactic| infer_instance) => `(tactic| first
    | (first | with_reducible refine op_seq ?_ | with_reducible refine sq_set (by simp only [List.set_cons_succ, List.set_cons_zero]; rfl) ?_ | with_reducible refine sq_nx ?_ | ((with_reducible refine id_v ?_); (refine rp_v rfl ?_)) | with_reducible refine rp_c ?_ | with_reducible refine rp_cons ?_ | with_reducible refine rp_nil ?_ | with_reducible refine rp_neg ?_ | with_reducible refine rp_lv ?_ | ((with_reducible refine id_lo ?_); (refine rp_lo rfl ?_)) | with_reducible refine op_asgN ?_)
    | (first | with_reducible refine op_asg ?_ | with_reducible refine op_setO ?_ | with_reducible refine op_if ?_ | with_reducible refine op_for ?_ | with_reducible refine op_next ?_ | with_reducible refine op_ret ?_ | with_reducible refine op_retO ?_ | ((with_reducible refine id_retV ?_); (refine op_retV rfl ?_)) | with_reducible refine op_retN ?_ | with_reducible refine op_drop ?_ | with_reducible refine op_dropX ?_)
    | (first | with_reducible refine op_asgX ?_ | with_reducible refine op_retX ?_ | with_reducible refine op_break ?_ | with_reducible refine op_cont ?_ | ((with_reducible refine id_frz ?_); (refine op_frz rfl (by simp only [List.set_cons_succ, List.set_cons_zero]; rfl) ?_)) | ((with_reducible refine id_locz ?_); (refine op_locz rfl (by simp only [List.set_cons_succ, List.set_cons_zero]; rfl) ?_)) | with_reducible refine sq_rt ?_ | with_reducible refine sq_ro ?_ | with_reducible refine sq_bk ?_ | with_reducible refine sq_ct ?_ | with_reducible refine sq_exc ?_)
    | (first | with_reducible refine lq_set (by simp only [List.set_cons_succ, List.set_cons_zero]; rfl) ?_ | with_reducible refine lq_nx ?_ | with_reducible refine lq_ct ?_ | with_reducible refine lq_bk ?_ | with_reducible refine lq_rt ?_ | with_reducible refine lq_ro ?_ | with_reducible refine lq_exc ?_ | with_reducible refine rp_call ?_ | with_reducible refine rp_callO ?_ | with_reducible refine rp_ix ?_ | with_reducible refine rp_b1 ?_)
    | (first | with_reducible refine rp_op ?_ | with_reducible refine rp_fAdd ?_ | with_reducible refine rp_fSub ?_ | with_reducible refine rp_fMin2 ?_ | with_reducible refine op_putF ?_ | with_reducible refine rp_methC ?_ | with_reducible refine rp_methCO ?_ | with_reducible refine rp_dictP ?_ | with_reducible refine rp_inDE ?_ | with_reducible refine rp_isC ?_ | with_reducible refine rp_make ?_)
    | (first | with_reducible refine rp_fMax2 ?_ | with_reducible refine rp_cmp ?_ | with_reducible refine rp_cmpT ?_ | with_reducible refine rp_chainP ?_ | with_reducible refine rp_chainTP ?_ | with_reducible refine rp_tru ?_ | with_reducible refine sp_tru_bl ?_ | with_reducible refine sp_tru_non ?_ | with_reducible refine sp_tru_int ?_ | with_reducible refine sp_tru_lst ?_ | with_reducible refine sp_tru_tup ?_)
    | (first | ((with_reducible refine id_truS ?_); (refine sp_tru_slot rfl ?_)) | with_reducible refine rp_notT ?_ | with_reducible refine rp_andT ?_ | with_reducible refine rp_orT ?_ | with_reducible refine rp_and ?_ | with_reducible refine rp_or ?_ | with_reducible refine rp_not ?_ | with_reducible refine rp_if ?_ | with_reducible refine rp_ifO ?_ | with_reducible refine rp_star ?_ | with_reducible refine rp_tup ?_)
    | (first | with_reducible refine rp_lst ?_ | with_reducible refine rp_f ?_ | with_reducible refine rp_new ?_ | with_reducible refine rp_in ?_ | with_reducible refine rp_inE ?_ | with_reducible refine rp_inB ?_ | with_reducible refine rp_inBE ?_ | with_reducible refine rp_pn ?_ | with_reducible refine rp_ps ?_ | with_reducible refine rp_sl ?_ | with_reducible refine rp_slO ?_)
    | (first | with_reducible refine rp_e1 ?_ | with_reducible refine rp_list ?_ | with_reducible refine rp_sortI ?_ | with_reducible refine rp_cat ?_ | with_reducible refine rp_rep ?_ | with_reducible refine rp_fld ?_ | with_reducible refine rp_isBE ?_ | with_reducible refine rp_eqL ?_ | with_reducible refine rp_iV ?_ | with_reducible refine rp_iR1 ?_ | with_reducible refine rp_iR2 ?_)
    | (first | with_reducible refine rp_iRev ?_ | with_reducible refine rp_iEnum ?_ | with_reducible refine rp_iZip ?_ | ((with_reducible refine id_comp ?_); (refine rp_comp rfl ?_)) | ((with_reducible refine id_appO ?_); (refine rp_appO rfl ?_)) | ((with_reducible refine id_extO ?_); (refine rp_extO rfl ?_)) | with_reducible refine len_le (by first | decide | (simp only [List.length_cons, List.length_nil, List.length_map, List.length_append]; omega)) ?_ | with_reducible refine len_lt (by first | decide | (simp only [List.length_cons, List.length_nil, List.length_map, List.length_append]; omega)) ?_ | with_reducible refine sp_mgN (by simp only [List.set_cons_succ, List.set_cons_zero]; rfl) ?_ | ((with_reducible refine id_mgT ?_); (refine sp_mgT rfl ?_)) | with_reducible refine sp_mgCons ?_)
    | (first | with_reducible refine sp_mgNil ?_ | with_reducible refine sp_lenL ?_ | with_reducible refine sp_lenT ?_ | with_reducible refine sp_cEqI ?_ | with_reducible refine sp_cNeI ?_ | with_reducible refine sp_cEqB ?_ | with_reducible refine sp_cNeB ?_ | with_reducible refine bp_t ?_ | with_reducible refine bp_f ?_ | with_reducible refine bp_nt ?_ | with_reducible refine bp_nf ?_)
    | (first | with_reducible refine bp_dt rfl ?_ | with_reducible refine bp_ndt rfl ?_ | with_reducible refine bp_dt (by decide) ?_ | with_reducible refine bp_df (by decide) ?_ | with_reducible refine bp_ndt (by decide) ?_ | with_reducible refine bp_ndf (by decide) ?_ | with_reducible refine bp_dt (by omega) ?_ | with_reducible refine bp_df (by omega) ?_ | with_reducible refine bp_ndt (by omega) ?_ | with_reducible refine bp_ndf (by omega) ?_ | with_reducible refine bp_qtup ?_)
    | (first | with_reducible refine bp_qint ?_ | with_reducible refine bp_nbl ?_ | with_reducible refine bp_nint ?_ | with_reducible refine bp_nstr ?_ | with_reducible refine bp_ntup ?_ | with_reducible refine bp_nlst ?_ | with_reducible refine bp_nloc ?_ | with_reducible refine bp_ct (by decide) ?_ | with_reducible refine bp_cf (by decide) ?_ | with_reducible refine sp_cEqS ?_ | with_reducible refine ex_int ?_)
    | (first | with_reducible refine st_eq ?_ | ((with_reducible refine id_sq ?_); (refine sp_of rfl ?_)) | with_reducible exact ⟨rfl, rfl⟩ | with_reducible exact rfl))

theorem fnd_none {g : Rg} (e : g.best = none) : g.fnd = fndD (.str "none") .non [] g.allN [] := by
  unfold Rg.fnd
  rw [e]
theorem fnd_some {g : Rg} {x : CL} (e : g.best = some x) : g.fnd = fndD (.str "best") (.int x.1) (x.2.map .int) g.allN [] := by
  unfold Rg.fnd
  rw [e]
theorem tots_best (g : Rg) : minI ((List.range g.B).map fun f => fst (g.tot f)) = fst g.best := by
  unfold Rg.best
  show _ = (minL _).map (·.1)
  rw [minL_fst, List.map_map]
  rfl
theorem judge_ok {g : Rg} (ok : RgOk g) (tp : Bool) {S : Store} (lw : AllLow S) (hb : ∀ x, g.best = some x → LsOk g x.2 ∧ g.cc x.2 = some x.1) : f_judge_ring [g.m.o, sqd tp (g.rs.map .int), sqd tp (g.P.map fun p => sqd tp (p.map .int)), encC g.fine, g.fnd] S = .ret (.bl true) S := by
  obtain ⟨eB, hB0, hB⟩ := ok.bB
  have n0 := ok.n0
  have hn := ok.n
  have least := least_ok ((List.range g.B).map fun f => fst (g.tot f)) (by simp; omega)
  rw [tots_best] at least
  refine w_judge_ring ?_
  unfold m_judge_ring
  cases eb : g.best with
  | none =>
    rw [fnd_none eb]
    rw [eb] at least
    repeat' (first | infer_instance | done)
    refine ⟨_, _, ring_init ok tp S, lows_up _ _ (low_ring g tp), all_low lw, ?_⟩
    change sq _ _ (.nx (List.set _ _ (some (.val (g.o tp)))) S)
    repeat' (first | infer_instance | done)
    refine bp_ndt (by simp [Rg.allN]; exact eB) ?_
    repeat' (first | infer_instance | done)
    rw [Rg.allN, enum_range]
    refine judge_loop ok tp rfl fun z7 z8 z9 z10 => ?_
    repeat' (first | infer_instance | done)
    refine fp_ret (least S) ?_
    repeat' (first | infer_instance | done)
    rfl
  | some x =>
    obtain ⟨h1, h2⟩ := hb x eb
    have fits := fits_ok ok h1 S
    have priced := priced_ok ok tp h1 S
    have objs := objectors_ok ok tp h1 S
    rw [h2] at priced
    rw [fnd_some eb]
    rw [eb] at least
    repeat' (first | infer_instance | done)
    refine ⟨_, _, ring_init ok tp S, lows_up _ _ (low_ring g tp), all_low lw, ?_⟩
    change sq _ _ (.nx (List.set _ _ (some (.val (g.o tp)))) S)
    repeat' (first | infer_instance | done)
    refine bp_ndt (by simp [Rg.allN]; exact eB) ?_
    repeat' (first | infer_instance | done)
    rw [Rg.allN, enum_range]
    refine judge_loop ok tp rfl fun z7 z8 z9 z10 => ?_
    repeat' (first | infer_instance | done)
    refine fp_ret (least S) ?_
    repeat' (first | infer_instance | done)
    refine mk_len ?_
    repeat' (first | infer_instance | done)
    refine fp_ret fits ?_
    repeat' (first | infer_instance | done)
    refine gp_own objs ?_
    repeat' (first | infer_instance | done)
    refine fp_ret priced ?_
    repeat' (first | infer_instance | done)
    rw [decide_eq_true (show encC (some x.1) = D.int x.1 from rfl)]
    rfl
end K10

set_option linter.all false
set_option maxRecDepth 100000
set_option maxHeartbeats 4000000
set_option autoImplicit false
namespace K10
open PySem PySem.Spec L2 DL

/-! ### all lists of labels -/
def allL (B : Nat) : Nat → List (List Int)
  | 0 => [[]]
  | n + 1 => (allL B n).flatMap fun r => (List.range B).map fun l : Nat => r ++ [(l : Int)]
theorem mem_allL {B : Nat} : ∀ {n : Nat} {r : List Int}, r ∈ allL B n ↔ r.length = n ∧ ∀ x ∈ r, 0 ≤ x ∧ x < (B : Int)
  | 0, r => by simp only [allL, List.mem_singleton]; constructor
               · rintro rfl; simp
               · intro h; exact List.length_eq_zero_iff.mp h.1
  | n + 1, r => by
    rw [allL, List.mem_flatMap]
    constructor
    · rintro ⟨s, hs, h⟩
      obtain ⟨l, hl, rfl⟩ := List.mem_map.mp h
      obtain ⟨h1, h2⟩ := mem_allL.mp hs
      refine ⟨by simp [h1], fun x hx => ?_⟩
      rcases List.mem_append.mp hx with z | z
      · exact h2 x z
      · rw [List.mem_singleton.mp z]
        have := List.mem_range.mp hl
        omega
    · intro ⟨h1, h2⟩
      have hne : r ≠ [] := fun e => by subst e; simp at h1
      have e := List.dropLast_concat_getLast hne
      have hl := h2 _ (List.getLast_mem hne)
      refine ⟨r.dropLast, mem_allL.mpr ⟨by simp [h1], fun x hx => h2 x ((List.dropLast_sublist r).subset hx)⟩, List.mem_map.mpr ⟨(r.getLast hne).toNat, List.mem_range.mpr (by omega), ?_⟩⟩
      rw [show (((r.getLast hne).toNat : Nat) : Int) = r.getLast hne by omega]
      exact e

/-! ### the least over a union -/
theorem un_fold {α : Type} {A : α → CL → Prop} {c : α → Option CL} : ∀ (xs : List α) (a : Option CL) (P : CL → Prop), IsM P a → (∀ o ∈ xs, IsM (A o) (c o)) → IsM (fun y => P y ∨ ∃ o ∈ xs, A o y) ((xs.map c).foldl bt a)
  | [], a, P, h, _ => h.congr fun y => by simp
  | x :: xs, a, P, h, k => by
    have z := un_fold xs (bt a (c x)) _ (bt_is h (k x List.mem_cons_self)) fun o ho => k o (List.mem_cons_of_mem _ ho)
    refine z.congr fun y => ?_
    simp only [List.mem_cons, exists_eq_or_imp]
    exact or_assoc
theorem un_is {α : Type} {A : α → CL → Prop} {c : α → Option CL} (xs : List α) (k : ∀ o ∈ xs, IsM (A o) (c o)) : IsM (fun y => ∃ o ∈ xs, A o y) (minL (xs.map c)) := by
  have z := un_fold xs none (fun _ => False) (fun y h => h) k
  exact z.congr fun y => by simp
theorem chg_cases (fine : Option Int) (o : Bool) : (∀ z, chg fine o z = none) ∨ ∃ e, ∀ z, chg fine o z = some (z + e) := by
  cases o with
  | false => exact .inr ⟨0, fun z => by unfold chg; rw [if_neg (by decide)]; simp⟩
  | true => cases fine with
    | none => exact .inl fun z => rfl
    | some f => exact .inr ⟨f, fun z => rfl⟩
theorem stp_is {fine : Option Int} {o : Bool} {d : Int} {F : List Int → List Int} {P : CL → Prop} {p : Option CL} (h : IsM P p) (hF : ∀ x y, P x → P y → lex (F x.2) (F y.2) = lex x.2 y.2) :
    IsM (fun x => ∃ y, P y ∧ ∃ c, chg fine o (y.1 + d) = some c ∧ x = (c, F y.2)) (p.bind fun p => (chg fine o (p.1 + d)).map fun c => (c, F p.2)) := by
  cases p with
  | none => exact fun x ⟨y, hy, _⟩ => h y hy
  | some q =>
    show IsM _ ((chg fine o (q.1 + d)).map fun c => (c, F q.2))
    rcases chg_cases fine o with z | ⟨e, z⟩
    · rw [z]
      rintro x ⟨y, _, c, hc, _⟩
      rw [z] at hc
      cases hc
    · rw [z]
      refine ⟨⟨q, h.1, _, z _, rfl⟩, ?_⟩
      rintro x ⟨y, hy, c, hc, rfl⟩
      rw [z] at hc
      cases hc
      have l := h.2 y hy
      unfold leP ltP at l ⊢
      dsimp only
      rw [hF y q hy h.1]
      simp only [Bool.or_eq_false_iff, decide_eq_false_iff_not, Bool.and_eq_false_iff] at l ⊢
      exact ⟨fun z => l.1 (by omega), l.2.elim (fun z => .inl fun w => z (by omega)) .inr⟩
theorem lex_snoc {a b : List Int} (c : Int) (h : a.length = b.length) : lex (a ++ [c]) (b ++ [c]) = lex a b := by
  rw [lex_app [c] [c] h, lex_irr]
  simp
/-! ### what a row finds -/
def Rg.Rch (g : Rg) (f : Nat) : Nat → Nat → CL → Prop
  | 0, b, x => b = f ∧ x = (0, [(f : Int)])
  | k + 1, b, x => ∃ o ∈ List.range g.B, ∃ y, g.Rch f k o y ∧ ∃ c, chg g.fine (g.ob (k + 1) o b) (y.1 + g.pr (k + 1) b) = some c ∧ x = (c, y.2 ++ [(b : Int)])
theorem rch_len (g : Rg) (f : Nat) : ∀ k b x, g.Rch f k b x → x.2.length = k + 1
  | 0, b, x, h => by rw [h.2]; rfl
  | k + 1, b, x, ⟨o, _, y, hy, c, _, e⟩ => by
    rw [e]
    simp [rch_len g f k o y hy]
theorem rws_is (g : Rg) (f : Nat) : ∀ k b, b < g.B → IsM (g.Rch f k b) ((g.rws f k).getD b none)
  | 0, b, hb => by
    rw [Rg.rws, Rg.row0, List.getD_eq_getElem?_getD, List.getElem?_map, List.getElem?_range hb]
    show IsM _ (if b = f then some (0, [(f : Int)]) else none)
    by_cases c : b = f
    · rw [if_pos c]
      exact ⟨⟨c, rfl⟩, fun y hy => by rw [hy.2]; exact leP_refl _⟩
    · rw [if_neg c]
      exact fun y hy => c hy.1
  | k + 1, b, hb => by
    rw [Rg.rws, Rg.row, g.rws_len, List.getD_eq_getElem?_getD, List.getElem?_map, List.getElem?_range hb]
    show IsM _ (minL _)
    refine (un_is (A := fun o x => ∃ y, g.Rch f k o y ∧ ∃ c, chg g.fine (g.ob (k + 1) o b) (y.1 + g.pr (k + 1) b) = some c ∧ x = (c, y.2 ++ [(b : Int)])) (List.range g.B) fun o ho => ?_).congr fun y => Iff.rfl
    exact stp_is (F := fun l => l ++ [(b : Int)]) (rws_is g f k o (List.mem_range.mp ho)) fun x y hx hy => lex_snoc _ (by rw [rch_len g f k o x hx, rch_len g f k o y hy])
def Rg.Tot (g : Rg) (x : CL) : Prop := ∃ f ∈ List.range g.B, ∃ o ∈ List.range g.B, ∃ y, g.Rch f (g.rs.length - 1) o y ∧ ∃ c, chg g.fine (g.ob 0 o f) (y.1 + g.pr 0 f) = some c ∧ x = (c, y.2)
theorem best_is (g : Rg) : IsM g.Tot g.best := by
  refine un_is (List.range g.B) fun f hf => ?_
  unfold Rg.tot Rg.cls
  rw [g.rws_len]
  exact un_is (List.range g.B) fun o ho => stp_is (F := fun l => l) (rws_is g f _ o (List.mem_range.mp ho)) fun x y _ _ => rfl
/-! ### sums with fines -/
def rstep (fine : Option Int) (a : Option Int) (t : Int × Bool) : Option Int := a.bind fun c => chg fine t.2 (c + t.1)
def fm (fine : Option Int) (L : List (Int × Bool)) : Option Int := if 0 < L.countP (·.2) then fine.map (fun f => (L.map (·.1)).sum + (L.countP (·.2) : Nat) * f) else some (L.map (·.1)).sum
theorem fm_snoc' (fine : Option Int) (L : List (Int × Bool)) (t : Int × Bool) : fm fine (L ++ [t]) = rstep fine (fm fine L) t := by
  obtain ⟨v, o⟩ := t
  unfold fm rstep
  rw [List.countP_append, List.map_append, List.sum_append]
  cases o with
  | false =>
    have : List.countP (fun x : Int × Bool => x.2) [(v, false)] = 0 := rfl
    rw [this, Nat.add_zero]
    by_cases h : 0 < L.countP (·.2)
    · rw [if_pos h, if_pos h]
      cases fine with
      | none => rfl
      | some f =>
        show some _ = some _
        congr 1
        simp
        omega
    · rw [if_neg h, if_neg h]
      show some _ = some _
      congr 1
      simp
  | true =>
    have : List.countP (fun x : Int × Bool => x.2) [(v, true)] = 1 := rfl
    rw [this, if_pos (by omega)]
    by_cases h : 0 < L.countP (·.2)
    · rw [if_pos h]
      cases fine with
      | none => rfl
      | some f =>
        show some _ = some _
        congr 1
        simp only [List.map_cons, List.map_nil, List.sum_cons, List.sum_nil, Int.natCast_add, Int.add_mul]
        omega
    · rw [if_neg h]
      cases fine with
      | none => rfl
      | some f =>
        show some _ = some _
        congr 1
        have : L.countP (·.2) = 0 := by omega
        rw [this]
        simp
theorem fm_perm (fine : Option Int) (A B : List (Int × Bool)) : fm fine (A ++ B) = fm fine (B ++ A) := by
  unfold fm
  rw [List.countP_append, List.countP_append, List.map_append, List.map_append, List.sum_append, List.sum_append, Nat.add_comm, Int.add_comm]
end K10

set_option linter.all false
set_option maxRecDepth 100000
set_option maxHeartbeats 4000000
set_option autoImplicit false
namespace K10
open PySem PySem.Spec L2 DL

theorem lb_nat (ls : List Int) (k : Nat) : lb ls (k : Int) = ls.getD k 0 := by
  unfold lb
  rw [atI_k, List.getD_eq_getElem?_getD]
def pv (ls : List Int) (k : Nat) : Int := if k = 0 then ls.getD (ls.length - 1) 0 else ls.getD (k - 1) 0
theorem lb_prev {ls : List Int} (h : 0 < ls.length) (k : Nat) : lb ls ((k : Int) - 1) = pv ls k := by
  unfold pv
  by_cases c : k = 0
  · subst c
    rw [if_pos rfl]
    unfold lb atI ixN
    rw [if_neg (by omega), if_pos (by omega)]
    rw [Option.bind_some, List.getD_eq_getElem?_getD]
    congr 2
    omega
  · rw [if_neg c, show ((k : Int) - 1) = ((k - 1 : Nat) : Int) by omega, lb_nat]
def Rg.tm (g : Rg) (ls : List Int) (k : Nat) : Int × Bool := (g.pr k (ls.getD k 0).toNat, g.ob k (pv ls k) (ls.getD k 0))
theorem cc_fm {g : Rg} (n0 : 0 < g.rs.length) {ls : List Int} (h : LsOk g ls) : g.cc ls = fm g.fine ((List.range g.rs.length).map (g.tm ls)) := by
  have hl : 0 < ls.length := by rw [h.n]; exact n0
  have e1 : (g.objs ls).length = List.countP (·.2) ((List.range g.rs.length).map (g.tm ls)) := by
    unfold Rg.objs
    rw [List.countP_map, List.countP_eq_length_filter]
    congr 1
    apply List.filter_congr
    intro k _
    show g.obj ls k = g.ob k (pv ls k) (ls.getD k 0)
    unfold Rg.obj
    rw [lb_prev hl, lb_nat]
  have e2 : g.sm ls = (((List.range g.rs.length).map (g.tm ls)).map (·.1)).sum := by
    unfold Rg.sm
    rw [List.map_map]
    congr 1
    apply List.map_congr_left
    intro k _
    show g.pr k (lb ls (k : Int)).toNat = g.pr k (ls.getD k 0).toNat
    rw [lb_nat]
  unfold Rg.cc fm
  rw [e1, e2]
def Rg.oc (g : Rg) (ls : List Int) (k : Nat) : Option Int := fm g.fine ((List.range k).map fun i => g.tm ls (i + 1))
theorem snoc_of {α : Type} {xs : List α} {k : Nat} (h : xs.length = k + 1) : ∃ ys z, xs = ys ++ [z] ∧ ys.length = k := by
  have hne : xs ≠ [] := fun e => by subst e; simp at h
  exact ⟨xs.dropLast, xs.getLast hne, (List.dropLast_concat_getLast hne).symm, by simp [h]⟩
theorem getD_left {xs : List Int} {k : Nat} (h : k < xs.length) (z : Int) : (xs ++ [z]).getD k 0 = xs.getD k 0 := by
  rw [List.getD_eq_getElem?_getD, List.getElem?_append_left h, List.getD_eq_getElem?_getD]
theorem getD_end (xs : List Int) (z : Int) {k : Nat} (h : xs.length = k) : (xs ++ [z]).getD k 0 = z := by
  subst h
  simp [List.getD_eq_getElem?_getD]
theorem oc_snoc (g : Rg) {xs : List Int} {k : Nat} (h : xs.length = k + 1) (z : Int) : g.oc (xs ++ [z]) (k + 1) = rstep g.fine (g.oc xs k) (g.pr (k + 1) z.toNat, g.ob (k + 1) (xs.getD k 0) z) := by
  unfold Rg.oc
  rw [List.range_succ, List.map_append, List.map_singleton, fm_snoc']
  have e1 : g.tm (xs ++ [z]) (k + 1) = (g.pr (k + 1) z.toNat, g.ob (k + 1) (xs.getD k 0) z) := by
    unfold Rg.tm pv
    rw [getD_end xs z h, if_neg (by omega), Nat.add_sub_cancel, getD_left (by omega)]
  have e2 : ((List.range k).map fun i => g.tm (xs ++ [z]) (i + 1)) = (List.range k).map fun i => g.tm xs (i + 1) := by
    apply List.map_congr_left
    intro i hi
    have := List.mem_range.mp hi
    unfold Rg.tm pv
    rw [getD_left (by omega), if_neg (by omega), if_neg (by omega), Nat.add_sub_cancel, getD_left (by omega)]
  rw [e1, e2]
def inB (B : Nat) (ls : List Int) : Prop := ∀ y ∈ ls, 0 ≤ y ∧ y < (B : Int)
theorem inB_getD {B : Nat} {ls : List Int} (h : inB B ls) {k : Nat} (hk : k < ls.length) : 0 ≤ ls.getD k 0 ∧ ls.getD k 0 < (B : Int) := by
  rw [List.getD_eq_getElem?_getD, List.getElem?_eq_getElem hk]
  exact h _ (List.getElem_mem hk)
theorem rch_iff (g : Rg) {f : Nat} (hf : f < g.B) : ∀ (k b : Nat) (x : CL), b < g.B → (g.Rch f k b x ↔ x.2.length = k + 1 ∧ inB g.B x.2 ∧ x.2.getD 0 0 = f ∧ x.2.getD k 0 = b ∧ g.oc x.2 k = some x.1)
  | 0, b, x, hb => by
    constructor
    · rintro ⟨rfl, rfl⟩
      exact ⟨rfl, fun y hy => by rw [List.mem_singleton.mp hy]; omega, rfl, rfl, rfl⟩
    · rintro ⟨h1, h2, h3, h4, h5⟩
      obtain ⟨c, l⟩ := x
      obtain ⟨a, rfl⟩ := List.length_eq_one_iff.mp h1
      change a = (f : Int) at h3
      change a = (b : Int) at h4
      have e : some (0 : Int) = some c := h5
      injection e with e
      subst h3
      exact ⟨by omega, by rw [← e]⟩
  | k + 1, b, x, hb => by
    constructor
    · rintro ⟨o, ho, y, hy, c, hc, rfl⟩
      obtain ⟨h1, h2, h3, h4, h5⟩ := (rch_iff g hf k o y (List.mem_range.mp ho)).mp hy
      refine ⟨by simp [h1], fun z hz => ?_, ?_, getD_end _ _ h1, ?_⟩
      · rcases List.mem_append.mp hz with w | w
        · exact h2 z w
        · rw [List.mem_singleton.mp w]; omega
      · dsimp only; rw [getD_left (by omega)]; exact h3
      · dsimp only
        rw [oc_snoc g h1, h4, h5]
        exact hc
    · rintro ⟨h1, h2, h3, h4, h5⟩
      obtain ⟨c, l⟩ := x
      dsimp only at h1 h2 h3 h4 h5
      obtain ⟨ys, z, rfl, hys⟩ := snoc_of h1
      rw [getD_end ys z hys] at h4
      subst h4
      have hin : inB g.B ys := fun y hy => h2 y (List.mem_append_left _ hy)
      have ho := inB_getD hin (k := k) (by omega)
      rw [oc_snoc g hys] at h5
      rw [getD_left (by omega)] at h3
      cases ey : g.oc ys k with
      | none => rw [ey] at h5; cases h5
      | some c' =>
        rw [ey] at h5
        refine ⟨(ys.getD k 0).toNat, List.mem_range.mpr (by omega), (c', ys), ?_, c, ?_, rfl⟩
        · exact (rch_iff g hf k _ (c', ys) (by omega)).mpr ⟨hys, hin, h3, by dsimp only; omega, ey⟩
        · rw [show (((ys.getD k 0).toNat : Nat) : Int) = ys.getD k 0 by omega]
          exact h5
theorem tot_iff (g : Rg) (n0 : 0 < g.rs.length) (x : CL) : g.Tot x ↔ LsOk g x.2 ∧ g.cc x.2 = some x.1 := by
  have main : ∀ ls : List Int, LsOk g ls → g.cc ls = rstep g.fine (g.oc ls (g.rs.length - 1)) (g.pr 0 (ls.getD 0 0).toNat, g.ob 0 (ls.getD (g.rs.length - 1) 0) (ls.getD 0 0)) := by
    intro ls h
    rw [cc_fm n0 h]
    have e : (List.range g.rs.length).map (g.tm ls) = [g.tm ls 0] ++ (List.range (g.rs.length - 1)).map fun i => g.tm ls (i + 1) := by
      conv => lhs; rw [show g.rs.length = (g.rs.length - 1) + 1 by omega]
      rw [List.range_succ_eq_map, List.map_cons, List.map_map]
      rfl
    rw [e, fm_perm, fm_snoc']
    unfold Rg.oc Rg.tm pv
    rw [if_pos rfl, h.n]
  constructor
  · rintro ⟨f, hf, o, ho, y, hy, c, hc, rfl⟩
    have hf := List.mem_range.mp hf
    have ho := List.mem_range.mp ho
    obtain ⟨h1, h2, h3, h4, h5⟩ := (rch_iff g hf _ o y ho).mp hy
    have ok : LsOk g y.2 := ⟨by omega, h2⟩
    refine ⟨ok, ?_⟩
    rw [main _ ok, h5, h4, h3]
    exact hc
  · obtain ⟨c, ls⟩ := x
    rintro ⟨ok, h⟩
    dsimp only at ok h
    rw [main _ ok] at h
    have hl := ok.n
    have b0 := inB_getD (ls := ls) ok.r (k := 0) (by omega)
    have b1 := inB_getD (ls := ls) ok.r (k := g.rs.length - 1) (by omega)
    cases e : g.oc ls (g.rs.length - 1) with
    | none => rw [e] at h; cases h
    | some c' =>
      rw [e] at h
      refine ⟨(ls.getD 0 0).toNat, List.mem_range.mpr (by omega), (ls.getD (g.rs.length - 1) 0).toNat, List.mem_range.mpr (by omega), (c', ls), ?_, c, ?_, rfl⟩
      · exact (rch_iff g (by omega) _ _ (c', ls) (by omega)).mpr ⟨by dsimp only; omega, ok.r, by dsimp only; omega, by dsimp only; omega, e⟩
      · rw [show (((ls.getD (g.rs.length - 1) 0).toNat : Nat) : Int) = ls.getD (g.rs.length - 1) 0 by omega, show (((ls.getD 0 0).toNat : Nat) : Int) = ls.getD 0 0 by omega]
        exact h
theorem best_iff (g : Rg) (n0 : 0 < g.rs.length) : IsM (fun x => LsOk g x.2 ∧ g.cc x.2 = some x.1) g.best := (best_is g).congr (tot_iff g n0)
end K10

set_option linter.all false
set_option maxRecDepth 100000
set_option maxHeartbeats 4000000
set_option autoImplicit false
namespace K10
open PySem PySem.Spec L2 DL

/-! ### going through all lists of labels -/
theorem allL_len (B : Nat) : ∀ n : Nat, (allL B n).length = B ^ n
  | 0 => rfl
  | n + 1 => by
    rw [allL, List.length_flatMap]
    have : (allL B n).map (fun r => ((List.range B).map fun l : Nat => r ++ [(l : Int)]).length) = (allL B n).map fun _ => B := by
      apply List.map_congr_left
      intro r _
      simp
    rw [this, List.map_const', List.sum_replicate_nat, allL_len B n, Nat.pow_succ]
theorem allL_lex (B : Nat) : ∀ n : Nat, (allL B n).Pairwise fun a b => lex a b = true
  | 0 => List.pairwise_singleton _ _
  | n + 1 => by
    rw [allL, List.pairwise_flatMap]
    constructor
    · intro r _
      rw [List.pairwise_map]
      refine List.Pairwise.imp (fun {a b} h => ?_) List.pairwise_lt_range
      rw [lex_app _ _ rfl, lex_irr]
      simp [lex]
      omega
    · have ih := allL_lex B n
      refine List.Pairwise.imp_of_mem (fun {a b} ha hb h => ?_) ih
      intro x hx y hy
      obtain ⟨i, _, rfl⟩ := List.mem_map.mp hx
      obtain ⟨j, _, rfl⟩ := List.mem_map.mp hy
      rw [lex_app _ _ (by rw [(mem_allL.mp ha).1, (mem_allL.mp hb).1]), h]
      rfl
def Rg.dst (g : Rg) (d : Option CL) (ls : List Int) : Option CL := match g.cc ls with
  | none => d
  | some c => match d with
    | none => some (c, ls)
    | some x => if c < x.1 then some (c, ls) else some x
theorem lex_asym {a b : List Int} (h : lex a b = true) : lex b a = false := by
  cases e : lex b a with
  | false => rfl
  | true => have := lex_trans h e; rw [lex_irr] at this; cases this
theorem dst_bt (g : Rg) (d : Option CL) (ls : List Int) (h : ∀ x, d = some x → lex x.2 ls = true) : g.dst d ls = bt d ((g.cc ls).map fun c => (c, ls)) := by
  unfold Rg.dst
  cases g.cc ls with
  | none => exact (bt_none d).symm
  | some c => cases d with
    | none => rfl
    | some x =>
      show (if c < x.1 then some (c, ls) else some x) = if ltP (c, ls) x = true then some (c, ls) else some x
      have : ltP (c, ls) x = decide (c < x.1) := by
        unfold ltP
        rw [lex_asym (h x rfl)]
        simp
      rw [this]
      by_cases z : c < x.1
      · rw [if_pos z, if_pos (decide_eq_true z)]
      · rw [if_neg z, if_neg (by simpa using z)]
theorem due_fold (g : Rg) : ∀ (L2 L1 : List (List Int)) (d : Option CL), (L1 ++ L2).Pairwise (fun a b => lex a b = true) → IsM (fun x => x.2 ∈ L1 ∧ g.cc x.2 = some x.1) d → IsM (fun x => x.2 ∈ L1 ++ L2 ∧ g.cc x.2 = some x.1) (L2.foldl g.dst d)
  | [], L1, d, _, h => by rw [List.append_nil]; exact h
  | ls :: L2, L1, d, hp, h => by
    have e : L1 ++ ls :: L2 = (L1 ++ [ls]) ++ L2 := by simp
    rw [List.foldl_cons, e]
    rw [e] at hp
    refine due_fold g L2 (L1 ++ [ls]) _ hp ?_
    have hl : ∀ x ∈ L1, lex x ls = true := fun x hx => by
      have := List.pairwise_append.mp (List.pairwise_append.mp hp).1
      exact this.2.2 x hx ls (List.mem_singleton.mpr rfl)
    rw [dst_bt g d ls fun x hx => by subst hx; exact hl _ h.1.1]
    have z := bt_is h (opt_is ((g.cc ls).map fun c => ((c, ls) : CL)))
    refine z.congr fun y => ?_
    rw [List.mem_append, List.mem_singleton]
    constructor
    · rintro (w | w)
      · exact ⟨.inl w.1, w.2⟩
      · cases ec : g.cc ls with
        | none => rw [ec] at w; cases w
        | some c =>
          rw [ec] at w
          injection w with w
          subst w
          exact ⟨.inr rfl, ec⟩
    · rintro ⟨w | w, v⟩
      · exact .inl ⟨w, v⟩
      · subst w
        refine .inr ?_
        rw [v]
        rfl
theorem due_best (g : Rg) (n0 : 0 < g.rs.length) : (allL g.B g.rs.length).foldl g.dst none = g.best := by
  have z := due_fold g (allL g.B g.rs.length) [] none (allL_lex _ _) fun y h => by cases h.1
  refine IsM.uniq (z.congr fun y => ?_) (best_iff g n0)
  rw [List.nil_append, mem_allL]
  exact and_congr_left fun _ => ⟨fun h => ⟨h.1, h.2⟩, fun h => ⟨h.n, h.r⟩⟩
/-! ### a ring that is turned -/
def rot {α : Type} (p : Nat) (xs : List α) : List α := xs.drop p ++ xs.take p
theorem rot_len {α : Type} (p : Nat) (xs : List α) : (rot p xs).length = xs.length := by simp [rot]; omega
theorem rot_mem {α : Type} {p : Nat} {xs : List α} {x : α} : x ∈ rot p xs ↔ x ∈ xs := by
  unfold rot
  rw [List.mem_append, or_comm, ← List.mem_append, List.take_append_drop]
theorem rot_one {α : Type} {p n k : Nat} {xs : List α} (d : α) (hn : xs.length = n) (hp : p ≤ n) (hk : k < n - p) : (rot p xs).getD k d = xs.getD (k + p) d := by
  unfold rot
  rw [List.getD_eq_getElem?_getD, List.getElem?_append_left (by simp; omega), List.getElem?_drop, List.getD_eq_getElem?_getD, Nat.add_comm]
theorem rot_two {α : Type} {p n j : Nat} {xs : List α} (d : α) (hn : xs.length = n) (hp : p ≤ n) (hj : j < p) : (rot p xs).getD (n - p + j) d = xs.getD j d := by
  unfold rot
  rw [List.getD_eq_getElem?_getD, List.getElem?_append_right (by simp; omega), List.length_drop, hn, show n - p + j - (n - p) = j by omega, List.getElem?_take, if_pos hj, List.getD_eq_getElem?_getD]
theorem rot_back {α : Type} {p n : Nat} {xs : List α} (hn : xs.length = n) (hp : p ≤ n) : rot p (rot (n - p) xs) = xs := by
  unfold rot
  have e1 : (xs.drop (n - p)).length = p := by simp; omega
  rw [List.drop_left' e1, List.take_left' e1, List.take_append_drop]
def Rg.turn (g : Rg) (p : Nat) : Rg := ⟨g.m, rot p g.rs, rot p g.P, g.fine⟩
theorem turn_ok {g : Rg} (ok : RgOk g) (p : Nat) : RgOk (g.turn p) where
  ok := ok.ok
  hL := ok.hL
  hB := ok.hB
  n0 := by show 0 < (rot p g.rs).length; rw [rot_len]; exact ok.n0
  n := by show (rot p g.rs).length ≤ 6; rw [rot_len]; exact ok.n
  pl := by show (rot p g.P).length = (rot p g.rs).length; rw [rot_len, rot_len]; exact ok.pl
  pw := fun x hx => ok.pw x (rot_mem.mp hx)
  fb := ok.fb
theorem turn_ls {g : Rg} {p : Nat} {ls : List Int} (h : LsOk g ls) : LsOk (g.turn p) (rot p ls) where
  n := by show _ = (rot p g.rs).length; rw [rot_len, rot_len]; exact h.n
  r := fun x hx => h.r x (rot_mem.mp hx)
theorem turn_cc {g : Rg} (ok : RgOk g) {p : Nat} (hp : p < g.rs.length) {ls : List Int} (h : LsOk g ls) : (g.turn p).cc (rot p ls) = g.cc ls := by
  rw [cc_fm (turn_ok ok p).n0 (turn_ls h), cc_fm ok.n0 h]
  show fm g.fine ((List.range (rot p g.rs).length).map _) = _
  rw [rot_len]
  have hl := h.n
  have hP := ok.pl
  generalize hn : g.rs.length = n at hp hl hP ⊢
  by_cases p0 : p = 0
  · subst p0
    have : ∀ {α : Type} (xs : List α), rot 0 xs = xs := fun xs => by simp [rot]
    unfold Rg.turn
    rw [this, this, this]
  have e1 : (List.range n).map ((g.turn p).tm (rot p ls)) = ((List.range (n - p)).map fun i => g.tm ls (p + i)) ++ (List.range p).map (g.tm ls) := by
    conv => lhs; rw [show n = (n - p) + p by omega]
    rw [List.range_add, List.map_append, List.map_map]
    congr 1
    · apply List.map_congr_left
      intro i hi
      have hi := List.mem_range.mp hi
      unfold Rg.tm
      have a1 : (rot p ls).getD i 0 = ls.getD (p + i) 0 := by rw [rot_one 0 hl (by omega) hi, Nat.add_comm]
      have a2 : pv (rot p ls) i = pv ls (p + i) := by
        unfold pv
        rw [if_neg (show ¬p + i = 0 by omega), rot_len]
        by_cases c : i = 0
        · subst c
          rw [if_pos rfl, hl, show n - 1 = n - p + (p - 1) by omega, rot_two 0 hl (by omega) (by omega)]
          rfl
        · rw [if_neg c, rot_one 0 hl (by omega) (by omega)]
          congr 1
          omega
      have a3 : ∀ l, (g.turn p).pr i l = g.pr (p + i) l := fun l => by
        show ((rot p g.P).getD i []).getD l 0 = (g.P.getD (p + i) []).getD l 0
        rw [rot_one [] hP (by omega) hi, Nat.add_comm]
      have a4 : ∀ b c, (g.turn p).ob i b c = g.ob (p + i) b c := fun b c => by
        show (decide ((⟨(rot p g.rs).getD i 0, [b], c⟩ : Mv) ∈ g.m.ms) != true) = (decide ((⟨g.rs.getD (p + i) 0, [b], c⟩ : Mv) ∈ g.m.ms) != true)
        rw [rot_one 0 hn (by omega) hi, Nat.add_comm]
      rw [a1, a2, a3, a4]
    · apply List.map_congr_left
      intro j hj
      have hj := List.mem_range.mp hj
      show (g.turn p).tm (rot p ls) (n - p + j) = _
      unfold Rg.tm
      have a1 : (rot p ls).getD (n - p + j) 0 = ls.getD j 0 := rot_two 0 hl (by omega) hj
      have a2 : pv (rot p ls) (n - p + j) = pv ls j := by
        unfold pv
        rw [if_neg (by omega)]
        by_cases c : j = 0
        · subst c
          rw [if_pos rfl, show n - p + 0 - 1 = n - p - 1 by omega, rot_one 0 hl (by omega) (by omega), hl]
          congr 1
          omega
        · rw [if_neg c, show n - p + j - 1 = n - p + (j - 1) by omega, rot_two 0 hl (by omega) (by omega)]
      have a3 : ∀ l, (g.turn p).pr (n - p + j) l = g.pr j l := fun l => by
        show ((rot p g.P).getD (n - p + j) []).getD l 0 = (g.P.getD j []).getD l 0
        rw [rot_two [] hP (by omega) hj]
      have a4 : ∀ b c, (g.turn p).ob (n - p + j) b c = g.ob j b c := fun b c => by
        show (decide ((⟨(rot p g.rs).getD (n - p + j) 0, [b], c⟩ : Mv) ∈ g.m.ms) != true) = (decide ((⟨g.rs.getD j 0, [b], c⟩ : Mv) ∈ g.m.ms) != true)
        rw [rot_two 0 hn (by omega) hj]
      rw [a1, a2, a3, a4]
  have e2 : (List.range n).map (g.tm ls) = (List.range p).map (g.tm ls) ++ (List.range (n - p)).map fun i => g.tm ls (p + i) := by
    conv => lhs; rw [show n = p + (n - p) by omega]
    rw [List.range_add, List.map_append, List.map_map]
    rfl
  rw [e1, e2, fm_perm]
theorem leP_fst {x y : CL} (h : leP x y) : x.1 ≤ y.1 := by
  unfold leP ltP at h
  simp only [Bool.or_eq_false_iff, decide_eq_false_iff_not] at h
  omega
theorem fst_same {P P' : CL → Prop} {r r' : Option CL} (h : IsM P r) (h' : IsM P' r') (a : ∀ y, P y → ∃ l, P' (y.1, l)) (b : ∀ y, P' y → ∃ l, P (y.1, l)) : fst r = fst r' := by
  cases r with
  | none => cases r' with
    | none => rfl
    | some y =>
      obtain ⟨l, z⟩ := b y h'.1
      exact absurd z (h _)
  | some x => cases r' with
    | none =>
      obtain ⟨l, z⟩ := a x h.1
      exact absurd z (h' _)
    | some y =>
      obtain ⟨l, z⟩ := b y h'.1
      obtain ⟨l', z'⟩ := a x h.1
      have u := leP_fst (h.2 _ z)
      have v := leP_fst (h'.2 _ z')
      dsimp only at u v
      show some x.1 = some y.1
      congr 1
      omega
theorem turn_best {g : Rg} (ok : RgOk g) {p : Nat} (hp : p < g.rs.length) : fst (g.turn p).best = fst g.best := by
  have hl := rot_len p g.rs
  refine fst_same (best_iff (g.turn p) (turn_ok ok p).n0) (best_iff g ok.n0) ?_ ?_
  · rintro ⟨c, ls⟩ ⟨h1, h2⟩
    have hn : ls.length = g.rs.length := h1.n.trans hl
    have hb : rot p (rot (g.rs.length - p) ls) = ls := rot_back hn (by omega)
    have h3 : LsOk g (rot (g.rs.length - p) ls) := ⟨by rw [rot_len]; exact hn, fun x hx => h1.r x (rot_mem.mp hx)⟩
    refine ⟨rot (g.rs.length - p) ls, h3, ?_⟩
    have := turn_cc ok hp h3
    rw [hb] at this
    rw [← this]
    exact h2
  · rintro ⟨c, ls⟩ ⟨h1, h2⟩
    exact ⟨rot p ls, turn_ls h1, (turn_cc ok hp h1).trans h2⟩
end K10

set_option linter.all false
set_option maxRecDepth 100000
set_option maxHeartbeats 4000000
set_option autoImplicit false
namespace K10
open PySem PySem.Spec L2 DL
local macro_rules
  | `(tactic| infer_instance) => `(tactic| first
    | (first | with_reducible refine op_seq ?_ | with_reducible refine sq_set (by simp only [List.set_cons_succ, List.set_cons_zero]; rfl) ?_ | with_reducible refine sq_nx ?_ | ((with_reducible refine id_v ?_); (refine rp_v rfl ?_)) | with_reducible refine rp_c ?_ | with_reducible refine rp_cons ?_ | with_reducible refine rp_nil ?_ | with_reducible refine rp_neg ?_ | with_reducible refine rp_lv ?_ | ((with_reducible refine id_lo ?_); (refine rp_lo rfl ?_)) | with_reducible refine op_asgN ?_)
    | (first | with_reducible refine op_asg ?_ | with_reducible refine op_setO ?_ | with_reducible refine op_if ?_ | with_reducible refine op_for ?_ | with_reducible refine op_next ?_ | with_reducible refine op_ret ?_ | with_reducible refine op_retO ?_ | ((with_reducible refine id_retV ?_); (refine op_retV rfl ?_)) | with_reducible refine op_retN ?_ | with_reducible refine op_drop ?_ | with_reducible refine op_dropX ?_)
    | (first | with_reducible refine op_asgX ?_ | with_reducible refine op_retX ?_ | with_reducible refine op_break ?_ | with_reducible refine op_cont ?_ | ((with_reducible refine id_frz ?_); (refine op_frz rfl (by simp only [List.set_cons_succ, List.set_cons_zero]; rfl) ?_)) | ((with_reducible refine id_locz ?_); (refine op_locz rfl (by simp only [List.set_cons_succ, List.set_cons_zero]; rfl) ?_)) | with_reducible refine sq_rt ?_ | with_reducible refine sq_ro ?_ | with_reducible refine sq_bk ?_ | with_reducible refine sq_ct ?_ | with_reducible refine sq_exc ?_)
    | (first | with_reducible refine lq_set (by simp only [List.set_cons_succ, List.set_cons_zero]; rfl) ?_ | with_reducible refine lq_nx ?_ | with_reducible refine lq_ct ?_ | with_reducible refine lq_bk ?_ | with_reducible refine lq_rt ?_ | with_reducible refine lq_ro ?_ | with_reducible refine lq_exc ?_ | with_reducible refine rp_call ?_ | with_reducible refine rp_callO ?_ | with_reducible refine rp_ix ?_ | with_reducible refine rp_b1 ?_)
    | (first | with_reducible refine rp_op ?_ | with_reducible refine rp_fAdd ?_ | with_reducible refine rp_fSub ?_ | with_reducible refine rp_fMin2 ?_ | with_reducible refine op_putF ?_ | with_reducible refine rp_methC ?_ | with_reducible refine rp_methCO ?_ | with_reducible refine rp_dictP ?_ | with_reducible refine rp_inDE ?_ | with_reducible refine rp_isC ?_ | with_reducible refine rp_make ?_)
    | (first | with_reducible refine rp_fMax2 ?_ | with_reducible refine rp_cmp ?_ | with_reducible refine rp_cmpT ?_ | with_reducible refine rp_chainP ?_ | with_reducible refine rp_chainTP ?_ | with_reducible refine rp_tru ?_ | with_reducible refine sp_tru_bl ?_ | with_reducible refine sp_tru_non ?_ | with_reducible refine sp_tru_int ?_ | with_reducible refine sp_tru_lst ?_ | with_reducible refine sp_tru_tup ?_)
    | (first | ((with_reducible refine id_truS ?_); (refine sp_tru_slot rfl ?_)) | with_reducible refine rp_notT ?_ | with_reducible refine rp_andT ?_ | with_reducible refine rp_orT ?_ | with_reducible refine rp_and ?_ | with_reducible refine rp_or ?_ | with_reducible refine rp_not ?_ | with_reducible refine rp_if ?_ | with_reducible refine rp_ifO ?_ | with_reducible refine rp_star ?_ | with_reducible refine rp_tup ?_)
    | (first | with_reducible refine rp_lst ?_ | with_reducible refine rp_f ?_ | with_reducible refine rp_new ?_ | with_reducible refine rp_in ?_ | with_reducible refine rp_inE ?_ | with_reducible refine rp_inB ?_ | with_reducible refine rp_inBE ?_ | with_reducible refine rp_pn ?_ | with_reducible refine rp_ps ?_ | with_reducible refine rp_sl ?_ | with_reducible refine rp_slO ?_)
    | (first | with_reducible refine rp_e1 ?_ | with_reducible refine rp_list ?_ | with_reducible refine rp_sortI ?_ | with_reducible refine rp_cat ?_ | with_reducible refine rp_rep ?_ | with_reducible refine rp_fld ?_ | with_reducible refine rp_isBE ?_ | with_reducible refine rp_eqL ?_ | with_reducible refine rp_iV ?_ | with_reducible refine rp_iR1 ?_ | with_reducible refine rp_iR2 ?_)
    | (first | with_reducible refine rp_iRev ?_ | with_reducible refine rp_iEnum ?_ | with_reducible refine rp_iZip ?_ | ((with_reducible refine id_comp ?_); (refine rp_comp rfl ?_)) | ((with_reducible refine id_appO ?_); (refine rp_appO rfl ?_)) | ((with_reducible refine id_extO ?_); (refine rp_extO rfl ?_)) | with_reducible refine len_le (by first | decide | (simp only [List.length_cons, List.length_nil, List.length_map, List.length_append]; omega)) ?_ | with_reducible refine len_lt (by first | decide | (simp only [List.length_cons, List.length_nil, List.length_map, List.length_append]; omega)) ?_ | with_reducible refine sp_mgN (by simp only [List.set_cons_succ, List.set_cons_zero]; rfl) ?_ | ((with_reducible refine id_mgT ?_); (refine sp_mgT rfl ?_)) | with_reducible refine sp_mgCons ?_)
    | (first | with_reducible refine sp_mgNil ?_ | with_reducible refine sp_lenL ?_ | with_reducible refine sp_lenT ?_ | with_reducible refine sp_cEqI ?_ | with_reducible refine sp_cNeI ?_ | with_reducible refine sp_cEqB ?_ | with_reducible refine sp_cNeB ?_ | with_reducible refine bp_t ?_ | with_reducible refine bp_f ?_ | with_reducible refine bp_nt ?_ | with_reducible refine bp_nf ?_)
    | (first | with_reducible refine bp_dt rfl ?_ | with_reducible refine bp_ndt rfl ?_ | with_reducible refine bp_dt (by decide) ?_ | with_reducible refine bp_df (by decide) ?_ | with_reducible refine bp_ndt (by decide) ?_ | with_reducible refine bp_ndf (by decide) ?_ | with_reducible refine bp_dt (by omega) ?_ | with_reducible refine bp_df (by omega) ?_ | with_reducible refine bp_ndt (by omega) ?_ | with_reducible refine bp_ndf (by omega) ?_ | with_reducible refine bp_qtup ?_)
    | (first | with_reducible refine bp_qint ?_ | with_reducible refine bp_nbl ?_ | with_reducible refine bp_nint ?_ | with_reducible refine bp_nstr ?_ | with_reducible refine bp_ntup ?_ | with_reducible refine bp_nlst ?_ | with_reducible refine bp_nloc ?_ | with_reducible refine bp_ct (by decide) ?_ | with_reducible refine bp_cf (by decide) ?_ | with_reducible refine sp_cEqS ?_ | with_reducible refine ex_int ?_)
    | (first | with_reducible refine st_eq ?_ | ((with_reducible refine id_sq ?_); (refine sp_of rfl ?_)) | with_reducible exact ⟨rfl, rfl⟩ | with_reducible exact rfl))

/-! ### what the law takes as the same -/
inductive Lf : D → Prop
  | non : Lf .non
  | bl (b : Bool) : Lf (.bl b)
  | int (i : Int) : Lf (.int i)
  | str (x : Str) : Lf (.str x)
theorem same_leaf (S : Store) (rec : MFn) (d : D) (h : Lf d) : mFn0 N__law_same (m__law_same rec) [d, d] S = .ret (.bl true) S := by
  refine fn_wp (show OQ (m__law_same rec [some (.val d), some (.val d), none] S) _ from ?_)
  unfold m__law_same
  cases h with
  | non =>
    repeat' (first | infer_instance | done)
    rfl
  | bl b =>
    repeat' (first | infer_instance | done)
    all_goals simp [outF0]
  | int b =>
    repeat' (first | infer_instance | done)
    all_goals simp [outF0]
  | str b =>
    repeat' (first | infer_instance | done)
    all_goals simp [outF0]

theorem same_lst (S : Store) (rec : MFn) (xs ys : List D) (he : xs.length = ys.length) (hl : ys.length ≤ 100000) (ih : ∀ (i : Nat) (x y : D), xs[i]? = some x → ys[i]? = some y → rec [x, y] S = .ret (.bl true) S) : mFn0 N__law_same (m__law_same rec) [.lst xs, .lst ys] S = .ret (.bl true) S := by
  refine fn_wp (show OQ (m__law_same rec [some (.val (.lst xs)), some (.val (.lst ys)), none] S) _ from ?_)
  unfold m__law_same
  repeat' (first | infer_instance | done)
  refine ⟨by constructor <;> omega, ?_⟩
  rw [rng_ints, Int.toNat_natCast]
  refine forL_inv (fun i : Nat => D.int (i : Int)) (List.range ys.length) (fun done env S' => S' = S ∧ ∃ y, env = [some (.val (.lst xs)), some (.val (.lst ys)), y]) ?_ ⟨rfl, none, rfl⟩ ?_
  · rintro done i rest env S' e ⟨rfl, y, rfl⟩
    have hi : i < ys.length := List.mem_range.mp (by rw [e]; simp)
    have ax : atI xs (i : Int) = some (xs[i]'(by omega)) := by rw [atI_k]; exact List.getElem?_eq_getElem _
    have ay : atI ys (i : Int) = some ys[i] := by rw [atI_k]; exact List.getElem?_eq_getElem hi
    repeat' (first | infer_instance | done)
    refine sp_of ax ?_
    repeat' (first | infer_instance | done)
    refine sp_of ay ?_
    repeat' (first | infer_instance | done)
    refine fp_ret (ih i _ _ (List.getElem?_eq_getElem _) (List.getElem?_eq_getElem hi)) ?_
    repeat' (first | infer_instance | done)
    exact ⟨_, rfl⟩
  · rintro env S' ⟨rfl, y, rfl⟩
    repeat' (first | infer_instance | done)
    all_goals rfl
theorem same_loc (S : Store) (rec : MFn) (xs ys : List D) (a : Nat) (hS : S[a]? = some (.lst ys)) (he : xs.length = ys.length) (hl : ys.length ≤ 100000) (ih : ∀ (i : Nat) (x y : D), xs[i]? = some x → ys[i]? = some y → rec [x, y] S = .ret (.bl true) S) : mFn0 N__law_same (m__law_same rec) [.lst xs, .loc a] S = .ret (.bl true) S := by
  refine fn_wp (show OQ (m__law_same rec [some (.val (.lst xs)), some (.val (.loc a)), none] S) _ from ?_)
  have k1 : isB S "tuple" (.loc a) = some false := by unfold isB; dsimp only; rw [hS]; rfl
  have k2 : isB S "list" (.loc a) = some true := by unfold isB; dsimp only; rw [hS]; rfl
  have k3 : ∀ env, (ctL env S (.val (.loc a))).bind fLen = some (.int (ys.length : Nat)) := fun env => by
    show (ctOf S (.loc a)).bind fLen = _
    rw [ctOf_loc, hS]
    rfl
  unfold m__law_same
  repeat' (first | infer_instance | done)
  refine sp_of k1 ?_
  repeat' (first | infer_instance | done)
  refine sp_of k2 ?_
  repeat' (first | infer_instance | done)
  refine sp_of k1 ?_
  repeat' (first | infer_instance | done)
  refine sp_of k2 ?_
  repeat' (first | infer_instance | done)
  refine sp_of (k3 _) ?_
  repeat' (first | infer_instance | done)
  refine sp_of (k3 _) ?_
  repeat' (first | infer_instance | done)
  refine ⟨by constructor <;> omega, ?_⟩
  rw [rng_ints, Int.toNat_natCast]
  refine forL_inv (fun i : Nat => D.int (i : Int)) (List.range ys.length) (fun done env S' => S' = S ∧ ∃ y, env = [some (.val (.lst xs)), some (.val (.loc a)), y]) ?_ ⟨rfl, none, rfl⟩ ?_
  · rintro done i rest env S' e ⟨rfl, y, rfl⟩
    have hi : i < ys.length := List.mem_range.mp (by rw [e]; simp)
    have ax : atI xs (i : Int) = some (xs[i]'(by omega)) := by rw [atI_k]; exact List.getElem?_eq_getElem _
    have ay : ∀ env, ixD env S' (.val (.loc a)) (.int (i : Int)) = some ys[i] := fun env => by
      show (ctOf S' (.loc a)).bind (fun c => ixC c (i : Int)) = _
      rw [ctOf_loc, hS]
      show atI ys (i : Int) = _
      rw [atI_k]; exact List.getElem?_eq_getElem hi
    repeat' (first | infer_instance | done)
    refine sp_of ax ?_
    repeat' (first | infer_instance | done)
    refine sp_of (ay _) ?_
    repeat' (first | infer_instance | done)
    refine fp_ret (ih i _ _ (List.getElem?_eq_getElem _) (List.getElem?_eq_getElem hi)) ?_
    repeat' (first | infer_instance | done)
    exact ⟨_, rfl⟩
  · rintro env S' ⟨rfl, y, rfl⟩
    repeat' (first | infer_instance | done)
    all_goals rfl
/-- the same, at most n deep -/
def Sm (S : Store) : Nat → D → D → Prop
  | 0, x, y => x = y ∧ Lf x
  | n + 1, x, y => (x = y ∧ Lf x) ∨ ∃ xs ys, x = .lst xs ∧ (y = .lst ys ∨ ∃ a, y = .loc a ∧ S[a]? = some (.lst ys)) ∧ xs.length = ys.length ∧ ys.length ≤ 100000 ∧ ∀ (i : Nat) (x y : D), xs[i]? = some x → ys[i]? = some y → Sm S n x y
theorem same_ok (S : Store) : ∀ (n : Nat) (x y : D), Sm S n x y → f__law_same (n + 1) [x, y] S = .ret (.bl true) S
  | 0, x, y, h => by
    obtain ⟨rfl, h⟩ := h
    exact same_leaf S _ x h
  | n + 1, x, y, h => by
    rcases h with ⟨rfl, h⟩ | ⟨xs, ys, rfl, rfl | ⟨a, rfl, hS⟩, he, hl, k⟩
    · exact same_leaf S _ x h
    · exact same_lst S _ xs ys he hl fun i x y h1 h2 => same_ok S n x y (k i x y h1 h2)
    · exact same_loc S _ xs ys a hS he hl fun i x y h1 h2 => same_ok S n x y (k i x y h1 h2)
theorem Sm.leaf {S : Store} {x : D} (h : Lf x) : ∀ n, Sm S n x x
  | 0 => ⟨rfl, h⟩
  | n + 1 => .inl ⟨rfl, h⟩
theorem Sm.lst {S : Store} {n : Nat} {xs : List D} (hl : xs.length ≤ 100000) (h : ∀ x ∈ xs, Sm S n x x) : Sm S (n + 1) (.lst xs) (.lst xs) :=
  .inr ⟨xs, xs, rfl, .inl rfl, rfl, hl, fun i x y h1 h2 => by
    rw [h1] at h2
    cases h2
    exact h x (List.mem_of_getElem? h1)⟩
/-! ### all lists of labels, as the law makes them -/
abbrev lst (ls : List Int) : D := .lst (ls.map .int)
def ext (B : Nat) (r : List Int) : List (List Int) := (List.range B).map fun l : Nat => r ++ [(l : Int)]
theorem longer_loop {B : Nat} {rs : List (List Int)} {S : Store} {x0 x2 x3 x5 x6 : Option Sl} {Q : Out → Prop} (hx : nv x6) (hB : B ≤ 8) (hz : rs.length * B ≤ 100000) (hr : ∀ r ∈ rs, r.length ≤ 1000)
    (h : ∀ y5, Q (.nx [x0, iv (B : Int), x2, x3, some (.val (.lst ((rs.flatMap (ext B)).map lst))), y5, x6] S)) :
    OQ (forL (mgN 5) b__law_lists_2 (rs.map lst) [x0, iv (B : Int), x2, x3, some (.val (.lst [])), x5, x6] S) Q := by
  refine forL_inv lst rs (fun done env S' => S' = S ∧ ∃ y5, env = [x0, iv (B : Int), x2, x3, some (.val (.lst ((done.flatMap (ext B)).map lst))), y5, x6]) ?_ ⟨rfl, x5, rfl⟩ ?_
  · rintro done r rest env S' e ⟨rfl, y5, rfl⟩
    have hrl := hr r (by rw [e]; simp)
    have hd : done.length + 1 ≤ rs.length := by have := congrArg List.length e; simp at this; omega
    have fl : ∀ l : List (List Int), (l.flatMap (ext B)).length = l.length * B := fun l => by
      induction l with
      | nil => simp
      | cons a l ih => rw [List.flatMap_cons, List.length_append, ih, ext, List.length_map, List.length_range, List.length_cons, Nat.succ_mul, Nat.add_comm]
    have hm : (done.length + 1) * B ≤ rs.length * B := Nat.mul_le_mul_right _ hd
    rw [Nat.succ_mul] at hm
    rw [b__law_lists_2]
    repeat' (first | infer_instance | done)
    have no : ∀ (a b c d e f : D), noOwn [x0, iv (B : Int), x2, x3, some (.val a), some (.val b), x6] [6] = true := fun a b c d e f => by
      rcases hx with rfl | ⟨_, rfl⟩ <;> rfl
    refine rp_comp (no _ _ .non .non .non .non) ?_
    repeat' (first | infer_instance | done)
    refine ⟨by constructor <;> omega, ?_⟩
    rw [rng_ints, Int.toNat_natCast]
    refine ⟨by simp; omega, rp_eq (compL_map (fun i : Nat => D.int (i : Int)) (fun l : Nat => lst (r ++ [(l : Int)])) (List.range B) fun l hl => ?_) ?_⟩
    · rw [wipeE, wipeE, e__law_lists_1]
      repeat' (first | infer_instance | done)
      refine ⟨by simp; omega, ?_⟩
      rw [lst, List.map_append]
      exact ⟨rfl, rfl⟩
    · repeat' (first | infer_instance | done)
      refine ⟨by rw [List.length_map, List.length_map, fl, List.length_range]; omega, ?_⟩
      repeat' (first | infer_instance | done)
      have : ((List.range B).map fun l : Nat => lst (r ++ [(l : Int)])) = (ext B r).map lst := by rw [ext, List.map_map]; rfl
      rw [List.flatMap_append, List.map_append, List.flatMap_singleton, ← this]
      exact ⟨_, rfl⟩
  · rintro env S' ⟨rfl, y5, rfl⟩
    exact h y5
theorem law_lists {n B : Nat} (hB : B ≤ 8) (hz : B ^ n ≤ 10000) (hn : n ≤ 100) (h0 : 0 < B) (S : Store) : f__law_lists [.int (n : Int), .int (B : Int)] S = .ret (.lst ((allL B n).map lst)) S := by
  refine w__law_lists ?_
  unfold m__law_lists
  repeat' (first | infer_instance | done)
  refine ⟨by constructor <;> omega, ?_⟩
  rw [rng_ints, Int.toNat_natCast]
  refine forL_inv (fun i : Nat => D.int (i : Int)) (List.range n) (fun done env S' => S' = S ∧ ∃ y3 y4 y5, env = [iv (n : Int), iv (B : Int), some (.val (.lst ((allL B done.length).map lst))), y3, y4, y5, none]) ?_ ⟨rfl, none, none, none, rfl⟩ ?_
  · rintro done i rest env S' e ⟨rfl, y3, y4, y5, rfl⟩
    have hd : done.length + 1 ≤ n := by have := congrArg List.length e; simp at this; omega
    have hp : B ^ done.length ≤ B ^ n := Nat.pow_le_pow_right h0 (by omega)
    rw [b__law_lists_3]
    repeat' (first | infer_instance | done)
    refine longer_loop (.inl rfl) hB (by rw [allL_len]; have := Nat.mul_le_mul hp hB; omega) (fun r hr => by have := (mem_allL.mp hr).1; omega) fun w5 => ?_
    repeat' (first | infer_instance | done)
    rw [List.length_append, List.length_singleton, allL]
    exact ⟨_, _, _, rfl⟩
  · rintro env S' ⟨rfl, y3, y4, y5, rfl⟩
    repeat' (first | infer_instance | done)
    rw [List.length_range]
    rfl

end K10

set_option linter.all false
set_option maxRecDepth 100000
set_option maxHeartbeats 4000000
set_option autoImplicit false
namespace K10
open PySem PySem.Spec L2 DL
local macro_rules
  | `(tactic| infer_instance) => `(tactic| first
    | (first | with_reducible refine op_seq ?_ | with_reducible refine sq_set (by simp only [List.set_cons_succ, List.set_cons_zero]; rfl) ?_ | with_reducible refine sq_nx ?_ | ((with_reducible refine id_v ?_); (refine rp_v rfl ?_)) | with_reducible refine rp_c ?_ | with_reducible refine rp_cons ?_ | with_reducible refine rp_nil ?_ | with_reducible refine rp_neg ?_ | with_reducible refine rp_lv ?_ | ((with_reducible refine id_lo ?_); (refine rp_lo rfl ?_)) | with_reducible refine op_asgN ?_)
    | (first | with_reducible refine op_asg ?_ | with_reducible refine op_setO ?_ | with_reducible refine op_if ?_ | with_reducible refine op_for ?_ | with_reducible refine op_next ?_ | with_reducible refine op_ret ?_ | with_reducible refine op_retO ?_ | ((with_reducible refine id_retV ?_); (refine op_retV rfl ?_)) | with_reducible refine op_retN ?_ | with_reducible refine op_drop ?_ | with_reducible refine op_dropX ?_)
    | (first | with_reducible refine op_asgX ?_ | with_reducible refine op_retX ?_ | with_reducible refine op_break ?_ | with_reducible refine op_cont ?_ | ((with_reducible refine id_frz ?_); (refine op_frz rfl (by simp only [List.set_cons_succ, List.set_cons_zero]; rfl) ?_)) | ((with_reducible refine id_locz ?_); (refine op_locz rfl (by simp only [List.set_cons_succ, List.set_cons_zero]; rfl) ?_)) | with_reducible refine sq_rt ?_ | with_reducible refine sq_ro ?_ | with_reducible refine sq_bk ?_ | with_reducible refine sq_ct ?_ | with_reducible refine sq_exc ?_)
    | (first | with_reducible refine lq_set (by simp only [List.set_cons_succ, List.set_cons_zero]; rfl) ?_ | with_reducible refine lq_nx ?_ | with_reducible refine lq_ct ?_ | with_reducible refine lq_bk ?_ | with_reducible refine lq_rt ?_ | with_reducible refine lq_ro ?_ | with_reducible refine lq_exc ?_ | with_reducible refine rp_call ?_ | with_reducible refine rp_callO ?_ | with_reducible refine rp_ix ?_ | with_reducible refine rp_b1 ?_)
    | (first | with_reducible refine rp_op ?_ | with_reducible refine rp_fAdd ?_ | with_reducible refine rp_fSub ?_ | with_reducible refine rp_fMin2 ?_ | with_reducible refine op_putF ?_ | with_reducible refine rp_methC ?_ | with_reducible refine rp_methCO ?_ | with_reducible refine rp_dictP ?_ | with_reducible refine rp_inDE ?_ | with_reducible refine rp_isC ?_ | with_reducible refine rp_make ?_)
    | (first | with_reducible refine rp_fMax2 ?_ | with_reducible refine rp_cmp ?_ | with_reducible refine rp_cmpT ?_ | with_reducible refine rp_chainP ?_ | with_reducible refine rp_chainTP ?_ | with_reducible refine rp_tru ?_ | with_reducible refine sp_tru_bl ?_ | with_reducible refine sp_tru_non ?_ | with_reducible refine sp_tru_int ?_ | with_reducible refine sp_tru_lst ?_ | with_reducible refine sp_tru_tup ?_)
    | (first | ((with_reducible refine id_truS ?_); (refine sp_tru_slot rfl ?_)) | with_reducible refine rp_notT ?_ | with_reducible refine rp_andT ?_ | with_reducible refine rp_orT ?_ | with_reducible refine rp_and ?_ | with_reducible refine rp_or ?_ | with_reducible refine rp_not ?_ | with_reducible refine rp_if ?_ | with_reducible refine rp_ifO ?_ | with_reducible refine rp_star ?_ | with_reducible refine rp_tup ?_)
    | (first | with_reducible refine rp_lst ?_ | with_reducible refine rp_f ?_ | with_reducible refine rp_new ?_ | with_reducible refine rp_in ?_ | with_reducible refine rp_inE ?_ | with_reducible refine rp_inB ?_ | with_reducible refine rp_inBE ?_ | with_reducible refine rp_pn ?_ | with_reducible refine rp_ps ?_ | with_reducible refine rp_sl ?_ | with_reducible refine rp_slO ?_)
    | (first | with_reducible refine rp_e1 ?_ | with_reducible refine rp_list ?_ | with_reducible refine rp_sortI ?_ | with_reducible refine rp_cat ?_ | with_reducible refine rp_rep ?_ | with_reducible refine rp_fld ?_ | with_reducible refine rp_isBE ?_ | with_reducible refine rp_eqL ?_ | with_reducible refine rp_iV ?_ | with_reducible refine rp_iR1 ?_ | with_reducible refine rp_iR2 ?_)
    | (first | with_reducible refine rp_iRev ?_ | with_reducible refine rp_iEnum ?_ | with_reducible refine rp_iZip ?_ | ((with_reducible refine id_comp ?_); (refine rp_comp rfl ?_)) | ((with_reducible refine id_appO ?_); (refine rp_appO rfl ?_)) | ((with_reducible refine id_extO ?_); (refine rp_extO rfl ?_)) | with_reducible refine len_le (by first | decide | (simp only [List.length_cons, List.length_nil, List.length_map, List.length_append]; omega)) ?_ | with_reducible refine len_lt (by first | decide | (simp only [List.length_cons, List.length_nil, List.length_map, List.length_append]; omega)) ?_ | with_reducible refine sp_mgN (by simp only [List.set_cons_succ, List.set_cons_zero]; rfl) ?_ | ((with_reducible refine id_mgT ?_); (refine sp_mgT rfl ?_)) | with_reducible refine sp_mgCons ?_)
    | (first | with_reducible refine sp_mgNil ?_ | with_reducible refine sp_lenL ?_ | with_reducible refine sp_lenT ?_ | with_reducible refine sp_cEqI ?_ | with_reducible refine sp_cNeI ?_ | with_reducible refine sp_cEqB ?_ | with_reducible refine sp_cNeB ?_ | with_reducible refine bp_t ?_ | with_reducible refine bp_f ?_ | with_reducible refine bp_nt ?_ | with_reducible refine bp_nf ?_)
    | (first | with_reducible refine bp_dt rfl ?_ | with_reducible refine bp_ndt rfl ?_ | with_reducible refine bp_dt (by decide) ?_ | with_reducible refine bp_df (by decide) ?_ | with_reducible refine bp_ndt (by decide) ?_ | with_reducible refine bp_ndf (by decide) ?_ | with_reducible refine bp_dt (by omega) ?_ | with_reducible refine bp_df (by omega) ?_ | with_reducible refine bp_ndt (by omega) ?_ | with_reducible refine bp_ndf (by omega) ?_ | with_reducible refine bp_qtup ?_)
    | (first | with_reducible refine bp_qint ?_ | with_reducible refine bp_nbl ?_ | with_reducible refine bp_nint ?_ | with_reducible refine bp_nstr ?_ | with_reducible refine bp_ntup ?_ | with_reducible refine bp_nlst ?_ | with_reducible refine bp_nloc ?_ | with_reducible refine bp_ct (by decide) ?_ | with_reducible refine bp_cf (by decide) ?_ | with_reducible refine sp_cEqS ?_ | with_reducible refine ex_int ?_)
    | (first | with_reducible refine st_eq ?_ | ((with_reducible refine id_sq ?_); (refine sp_of rfl ?_)) | with_reducible exact ⟨rfl, rfl⟩ | with_reducible exact rfl))

theorem fp_draw {ns : List Int} {S : Store} {n : Nat} {sz : Int} {Q : D → Store → Prop} {X : Ex → Store → Prop} (h : PoolOk ns S n) (hs : 0 < sz) (hs2 : sz < 2 ^ 200) (k : ∀ v S', 0 ≤ v → v < sz → Dr ns n S S' → Q (.int v) S') : FQ (f__law_draw [.loc n, .int sz] S) Q X := by
  obtain ⟨v, S', e, h1, h2, h3⟩ := draw h hs hs2
  exact fp_ret e (k v S' h1 h2 h3)
theorem comp_any {α : Type} {enc : α → D} {ns : List Int} {n : Nat} {vs : List Nat} {tg : MG} {te : ME} {env : DL.Env} {Rv : α → Prop} : ∀ (ds : List D) (S : Store), PoolOk ns S n →
    (∀ d ∈ ds, SQ (tg d (wipeE env vs)) fun env1 => ∀ T, PoolOk ns T n → RQ (te env1 T) (fun y T' => ∃ v, y = enc v ∧ Rv v ∧ Dr ns n T T') nox) →
    ∃ (xs : List α) (S' : Store), compL vs tg mYes te env ds S = .ok (xs.map enc, S') ∧ xs.length = ds.length ∧ (∀ x ∈ xs, Rv x) ∧ Dr ns n S S'
  | [], S, h, _ => ⟨[], S, rfl, rfl, fun x hx => (by cases hx), Fr.refl _ _, h⟩
  | d :: ds, S, h, k => by
    obtain ⟨env1, e1, k1⟩ := sp_cases (k d List.mem_cons_self)
    obtain ⟨y, S1, e2, v, rfl, rv, d1⟩ := rp_ex (k1 S h)
    obtain ⟨xs, S2, e3, l, r, d2⟩ := comp_any ds S1 d1.ok fun x hx => k x (List.mem_cons_of_mem _ hx)
    refine ⟨v :: xs, S2, ?_, by simp [l], fun x hx => ?_, d1.trans d2⟩
    · simp only [compL, e1, mYes, Res.bindN, if_true, e2, e3, List.map_cons]
    · cases hx with
      | head => exact rv
      | tail _ hx => exact r x hx
theorem comp_any_wp {α : Type} (enc : α → D) {ns : List Int} {n : Nat} {vs : List Nat} {tg : MG} {te : ME} {env : DL.Env} (Rv : α → Prop) {S : Store} {QA : List D → Store → Prop} (ds : List D) (h : PoolOk ns S n)
    (hb : ∀ d ∈ ds, SQ (tg d (wipeE env vs)) fun env1 => ∀ T, PoolOk ns T n → RQ (te env1 T) (fun y T' => ∃ v, y = enc v ∧ Rv v ∧ Dr ns n T T') nox)
    (k : ∀ (xs : List α) S', xs.length = ds.length → (∀ x ∈ xs, Rv x) → Dr ns n S S' → QA (xs.map enc) S') : RQ (compL vs tg mYes te env ds S) QA nox := by
  obtain ⟨xs, S', e, l, r, d⟩ := comp_any ds S h hb
  exact rp_eq e (k xs S' l r d)
theorem pow7 (S : Store) : fPow (.int 10) (.int 7) S = .ok (.int 10000000, S) := by
  rfl
theorem pow8 (S : Store) : fPow (.int 10) (.int 8) S = .ok (.int 100000000, S) := by
  rfl
theorem pow30 (S : Store) : fPow (.int 10) (.int 30) S = .ok (.int 1000000000000000000000000000000, S) := by
  rfl
theorem wide_at {v : Int} (h0 : 0 ≤ v) (h1 : v < 5) : ∃ c : Int, atI [D.int 2, D.int 5, D.int 1000, D.int 10000000, D.int 1000000000000000000000000000000] v = some (.int c) ∧ 0 < c ∧ c < 2 ^ 200 := by
  have : v = 0 ∨ v = 1 ∨ v = 2 ∨ v = 3 ∨ v = 4 := by omega
  rcases this with rfl | rfl | rfl | rfl | rfl
  · exact ⟨2, rfl, by decide, by decide⟩
  · exact ⟨5, rfl, by decide, by decide⟩
  · exact ⟨1000, rfl, by decide, by decide⟩
  · exact ⟨10000000, rfl, by decide, by decide⟩
  · exact ⟨1000000000000000000000000000000, rfl, by decide, by decide⟩
theorem fine_at {v z : Int} (h0 : 0 ≤ v) (h1 : v < 7) (z0 : 0 ≤ z) (z1 : z < 1000000000000000000000000000000) : ∃ f : Option Int, atI [D.non, D.int 0, D.int 1, D.int 3, D.int 100, D.int 100000000, D.int z] v = some (encC f) ∧ ∀ w, f = some w → w.natAbs.log2 ≤ 1000 := by
  have : v = 0 ∨ v = 1 ∨ v = 2 ∨ v = 3 ∨ v = 4 ∨ v = 5 ∨ v = 6 := by omega
  rcases this with rfl | rfl | rfl | rfl | rfl | rfl | rfl
  · exact ⟨none, rfl, fun w h => by cases h⟩
  · exact ⟨some 0, rfl, fun w h => by cases h; decide⟩
  · exact ⟨some 1, rfl, fun w h => by cases h; decide⟩
  · exact ⟨some 3, rfl, fun w h => by cases h; decide⟩
  · exact ⟨some 100, rfl, fun w h => by cases h; decide⟩
  · exact ⟨some 100000000, rfl, fun w h => by cases h; decide⟩
  · refine ⟨some z, rfl, fun w h => ?_⟩
    cases h
    have := lg_lt (x := z) (k := 100) (by omega)
    omega
theorem prices_ok {ns : List Int} {n : Nat} {S : Store} (h : PoolOk ns S n) {N B : Nat} (hN : N ≤ 1000) (hB : B ≤ 1000) :
    ∃ (P : List (List Int)) (S' : Store), f__law_prices [.loc n, .int (N : Int), .int (B : Int)] S = .ret (.lst (P.map fun p => .lst (p.map .int))) S' ∧ P.length = N ∧ (∀ p ∈ P, p.length = B) ∧ Dr ns n S S' := by
  refine W__law_prices (fun r => ∃ (P : List (List Int)) (S' : Store), r = .ret (.lst (P.map fun p => .lst (p.map .int))) S' ∧ P.length = N ∧ (∀ p ∈ P, p.length = B) ∧ Dr ns n S S') ?_
  unfold m__law_prices
  repeat' (first | infer_instance | done)
  refine rp_eq (pow7 _) ?_
  repeat' (first | infer_instance | done)
  refine rp_eq (pow30 _) ?_
  repeat' (first | infer_instance | done)
  refine fp_draw h (by decide) (by decide) fun v S1 v0 v1 d1 => ?_
  obtain ⟨c, ec, c0, c1⟩ := wide_at v0 v1
  refine sp_of (a := D.int c) ec ?_
  repeat' (first | infer_instance | done)
  refine ⟨by constructor <;> omega, ?_⟩
  rw [rng_ints, Int.toNat_natCast]
  refine ⟨by simp; omega, comp_any_wp (fun p : List Int => D.lst (p.map .int)) (fun p : List Int => p.length = B) _ d1.ok (fun d hd => ?_) fun P S2 hl hP d2 => ?_⟩
  · rw [wipeE, wipeE]
    repeat' (first | infer_instance | done)
    intro T hT
    rw [e__law_prices_2]
    repeat' (first | infer_instance | done)
    refine ⟨by constructor <;> omega, ?_⟩
    rw [rng_ints, Int.toNat_natCast]
    refine ⟨by simp; omega, comp_any_wp D.int (fun _ => True) _ hT (fun d hd => ?_) fun xs S2 hl _ d2 => ?_⟩
    · rw [wipeE, wipeE]
      repeat' (first | infer_instance | done)
      intro T hT
      rw [e__law_prices_1]
      repeat' (first | infer_instance | done)
      refine fp_draw hT c0 c1 fun q T' q0 q1 dq => ?_
      exact ⟨q, rfl, trivial, dq⟩
    · repeat' (first | infer_instance | done)
      exact ⟨xs, rfl, by simpa using hl, d2⟩
  · repeat' (first | infer_instance | done)
    exact ⟨P, S2, rfl, by simpa using hl, hP, d1.trans d2⟩
end K10

set_option linter.all false
set_option maxRecDepth 100000
set_option maxHeartbeats 4000000
set_option autoImplicit false
namespace K10
open PySem PySem.Spec L2 DL
local macro_rules
  | `(tactic| infer_instance) => `(tactic| first
    | (first | with_reducible refine op_seq ?_ | with_reducible refine sq_set (by simp only [List.set_cons_succ, List.set_cons_zero]; rfl) ?_ | with_reducible refine sq_nx ?_ | ((with_reducible refine id_v ?_); (refine rp_v rfl ?_)) | with_reducible refine rp_c ?_ | with_reducible refine rp_cons ?_ | with_reducible refine rp_nil ?_ | with_reducible refine rp_neg ?_ | with_reducible refine rp_lv ?_ | ((with_reducible refine id_lo ?_); (refine rp_lo rfl ?_)) | with_reducible refine op_asgN ?_)
    | (first | with_reducible refine op_asg ?_ | with_reducible refine op_setO ?_ | with_reducible refine op_if ?_ | with_reducible refine op_for ?_ | with_reducible refine op_next ?_ | with_reducible refine op_ret ?_ | with_reducible refine op_retO ?_ | ((with_reducible refine id_retV ?_); (refine op_retV rfl ?_)) | with_reducible refine op_retN ?_ | with_reducible refine op_drop ?_ | with_reducible refine op_dropX ?_)
    | (first | with_reducible refine op_asgX ?_ | with_reducible refine op_retX ?_ | with_reducible refine op_break ?_ | with_reducible refine op_cont ?_ | ((with_reducible refine id_frz ?_); (refine op_frz rfl (by simp only [List.set_cons_succ, List.set_cons_zero]; rfl) ?_)) | ((with_reducible refine id_locz ?_); (refine op_locz rfl (by simp only [List.set_cons_succ, List.set_cons_zero]; rfl) ?_)) | with_reducible refine sq_rt ?_ | with_reducible refine sq_ro ?_ | with_reducible refine sq_bk ?_ | with_reducible refine sq_ct ?_ | with_reducible refine sq_exc ?_)
    | (first | with_reducible refine lq_set (by simp only [List.set_cons_succ, List.set_cons_zero]; rfl) ?_ | with_reducible refine lq_nx ?_ | with_reducible refine lq_ct ?_ | with_reducible refine lq_bk ?_ | with_reducible refine lq_rt ?_ | with_reducible refine lq_ro ?_ | with_reducible refine lq_exc ?_ | with_reducible refine rp_call ?_ | with_reducible refine rp_callO ?_ | with_reducible refine rp_ix ?_ | with_reducible refine rp_b1 ?_)
    | (first | with_reducible refine rp_op ?_ | with_reducible refine rp_fAdd ?_ | with_reducible refine rp_fSub ?_ | with_reducible refine rp_fMin2 ?_ | with_reducible refine op_putF ?_ | with_reducible refine rp_methC ?_ | with_reducible refine rp_methCO ?_ | with_reducible refine rp_dictP ?_ | with_reducible refine rp_inDE ?_ | with_reducible refine rp_isC ?_ | with_reducible refine rp_make ?_)
    | (first | with_reducible refine rp_fMax2 ?_ | with_reducible refine rp_cmp ?_ | with_reducible refine rp_cmpT ?_ | with_reducible refine rp_chainP ?_ | with_reducible refine rp_chainTP ?_ | with_reducible refine rp_tru ?_ | with_reducible refine sp_tru_bl ?_ | with_reducible refine sp_tru_non ?_ | with_reducible refine sp_tru_int ?_ | with_reducible refine sp_tru_lst ?_ | with_reducible refine sp_tru_tup ?_)
    | (first | ((with_reducible refine id_truS ?_); (refine sp_tru_slot rfl ?_)) | with_reducible refine rp_notT ?_ | with_reducible refine rp_andT ?_ | with_reducible refine rp_orT ?_ | with_reducible refine rp_and ?_ | with_reducible refine rp_or ?_ | with_reducible refine rp_not ?_ | with_reducible refine rp_if ?_ | with_reducible refine rp_ifO ?_ | with_reducible refine rp_star ?_ | with_reducible refine rp_tup ?_)
    | (first | with_reducible refine rp_lst ?_ | with_reducible refine rp_f ?_ | with_reducible refine rp_new ?_ | with_reducible refine rp_in ?_ | with_reducible refine rp_inE ?_ | with_reducible refine rp_inB ?_ | with_reducible refine rp_inBE ?_ | with_reducible refine rp_pn ?_ | with_reducible refine rp_ps ?_ | with_reducible refine rp_sl ?_ | with_reducible refine rp_slO ?_)
    | (first | with_reducible refine rp_e1 ?_ | with_reducible refine rp_list ?_ | with_reducible refine rp_sortI ?_ | with_reducible refine rp_cat ?_ | with_reducible refine rp_rep ?_ | with_reducible refine rp_fld ?_ | with_reducible refine rp_isBE ?_ | with_reducible refine rp_eqL ?_ | with_reducible refine rp_iV ?_ | with_reducible refine rp_iR1 ?_ | with_reducible refine rp_iR2 ?_)
    | (first | with_reducible refine rp_iRev ?_ | with_reducible refine rp_iEnum ?_ | with_reducible refine rp_iZip ?_ | ((with_reducible refine id_comp ?_); (refine rp_comp rfl ?_)) | ((with_reducible refine id_appO ?_); (refine rp_appO rfl ?_)) | ((with_reducible refine id_extO ?_); (refine rp_extO rfl ?_)) | with_reducible refine len_le (by first | decide | (simp only [List.length_cons, List.length_nil, List.length_map, List.length_append]; omega)) ?_ | with_reducible refine len_lt (by first | decide | (simp only [List.length_cons, List.length_nil, List.length_map, List.length_append]; omega)) ?_ | with_reducible refine sp_mgN (by simp only [List.set_cons_succ, List.set_cons_zero]; rfl) ?_ | ((with_reducible refine id_mgT ?_); (refine sp_mgT rfl ?_)) | with_reducible refine sp_mgCons ?_)
    | (first | with_reducible refine sp_mgNil ?_ | with_reducible refine sp_lenL ?_ | with_reducible refine sp_lenT ?_ | with_reducible refine sp_cEqI ?_ | with_reducible refine sp_cNeI ?_ | with_reducible refine sp_cEqB ?_ | with_reducible refine sp_cNeB ?_ | with_reducible refine bp_t ?_ | with_reducible refine bp_f ?_ | with_reducible refine bp_nt ?_ | with_reducible refine bp_nf ?_)
    | (first | with_reducible refine bp_dt rfl ?_ | with_reducible refine bp_ndt rfl ?_ | with_reducible refine bp_dt (by decide) ?_ | with_reducible refine bp_df (by decide) ?_ | with_reducible refine bp_ndt (by decide) ?_ | with_reducible refine bp_ndf (by decide) ?_ | with_reducible refine bp_dt (by omega) ?_ | with_reducible refine bp_df (by omega) ?_ | with_reducible refine bp_ndt (by omega) ?_ | with_reducible refine bp_ndf (by omega) ?_ | with_reducible refine bp_qtup ?_)
    | (first | with_reducible refine bp_qint ?_ | with_reducible refine bp_nbl ?_ | with_reducible refine bp_nint ?_ | with_reducible refine bp_nstr ?_ | with_reducible refine bp_ntup ?_ | with_reducible refine bp_nlst ?_ | with_reducible refine bp_nloc ?_ | with_reducible refine bp_ct (by decide) ?_ | with_reducible refine bp_cf (by decide) ?_ | with_reducible refine sp_cEqS ?_ | with_reducible refine ex_int ?_)
    | (first | with_reducible refine st_eq ?_ | ((with_reducible refine id_sq ?_); (refine sp_of rfl ?_)) | with_reducible exact ⟨rfl, rfl⟩ | with_reducible exact rfl))

def Rg.kind (g : Rg) : Str := match g.best with
  | none => "none"
  | some _ => "best"
def Rg.labs (g : Rg) : List Int := match g.best with
  | none => []
  | some x => x.2
theorem fnd_all (g : Rg) : g.fnd = fndD (.str g.kind) (encC (fst g.best)) (g.labs.map .int) g.allN [] := by
  unfold Rg.fnd Rg.kind Rg.labs
  cases g.best <;> rfl
theorem due_loop {g : Rg} (ok : RgOk g) {S : Store} {x0 x1 x2 x4 x5 x9 x10 x12 x13 x14 x15 x16 x17 x18 x19 x20 x21 x22 : Option Sl} {Q : Out → Prop}
    (h : ∀ y12 y17, Q (.nx [x0, x1, x2, some (.val g.m.d), x4, x5, some (.val (.lst (g.rs.map .int))), some (.val (.lst (g.P.map fun p => .lst (p.map .int)))), some (.val (encC g.fine)), x9, x10, some (.val (encP g.best)), y12, x13, x14, x15, x16, y17, x18, x19, x20, x21, x22] S)) :
    OQ (forL (mgN 12) b_law_3 ((allL g.B g.rs.length).map lst) [x0, x1, x2, some (.val g.m.d), x4, x5, some (.val (.lst (g.rs.map .int))), some (.val (.lst (g.P.map fun p => .lst (p.map .int)))), some (.val (encC g.fine)), x9, x10, some (.val .non), x12, x13, x14, x15, x16, x17, x18, x19, x20, x21, x22] S) Q := by
  refine forL_inv lst (allL g.B g.rs.length) (fun done env S' => S' = S ∧ ∃ y12 y17, env = [x0, x1, x2, some (.val g.m.d), x4, x5, some (.val (.lst (g.rs.map .int))), some (.val (.lst (g.P.map fun p => .lst (p.map .int)))), some (.val (encC g.fine)), x9, x10, some (.val (encP (done.foldl g.dst none))), y12, x13, x14, x15, x16, y17, x18, x19, x20, x21, x22]) ?_ ⟨rfl, x12, x17, rfl⟩ ?_
  · rintro done ls rest env S' e ⟨rfl, y12, y17, rfl⟩
    obtain ⟨hl, hv⟩ := mem_allL.mp (show ls ∈ allL g.B g.rs.length by rw [e]; simp)
    have lok : LsOk g ls := ⟨hl, hv⟩
    have cost := law_cost_ok ok lok S'
    rw [b_law_3, List.foldl_append, List.foldl_cons, List.foldl_nil]
    generalize done.foldl g.dst none = d
    repeat' (first | infer_instance | done)
    refine gp_own (law_objects_ok ok lok S') ?_
    repeat' (first | infer_instance | done)
    refine fp_ret cost ?_
    cases ec : g.cc ls with
    | none =>
      rw [show g.dst d ls = d by unfold Rg.dst; rw [ec], show encC none = D.non from rfl]
      repeat' (first | infer_instance | done)
      exact ⟨_, _, rfl⟩
    | some c =>
      rw [show encC (some c) = D.int c from rfl]
      repeat' (first | infer_instance | done)
      cases d with
      | none =>
        rw [show g.dst none ls = some (c, ls) by unfold Rg.dst; rw [ec], show encP none = D.non from rfl]
        repeat' (first | infer_instance | done)
        exact ⟨_, _, rfl⟩
      | some x =>
        have ed : g.dst (some x) ls = if c < x.1 then some (c, ls) else some x := by unfold Rg.dst; rw [ec]
        rw [ed, show encP (some x) = D.tup [.int x.1, .lst (x.2.map .int)] from rfl]
        repeat' (first | infer_instance | done)
        by_cases z : c < x.1
        · rw [if_pos z]
          repeat' (first | infer_instance | done)
          exact ⟨_, _, rfl⟩
        · rw [if_neg z]
          repeat' (first | infer_instance | done)
          exact ⟨_, _, rfl⟩
  · rintro env S' ⟨rfl, y12, y17, rfl⟩
    rw [due_best g ok.n0]
    exact h y12 y17
theorem sm_row {S : Store} (n : Nat) {cs : List (Option Int)} (h : cs.length ≤ 1000) : Sm S (n + 1) (.lst (cs.map encC)) (.lst (cs.map encC)) := Sm.lst (by rw [List.length_map]; omega) fun x hx => by
  obtain ⟨c, _, rfl⟩ := List.mem_map.mp hx
  cases c with
  | none => exact Sm.leaf .non n
  | some c => exact Sm.leaf (.int c) n
theorem sm_rowL {S : Store} (n : Nat) {cs : List (Option Int)} (h : cs.length ≤ 1000) {a : Nat} (hS : S[a]? = some (.lst (cs.map encC))) : Sm S (n + 1) (.lst (cs.map encC)) (.loc a) := by
  rcases sm_row (S := S) n h with ⟨_, h⟩ | ⟨xs, ys, ex, ey, he, hl, k⟩
  · cases h
  · rcases ey with ey | ⟨a', ey, _⟩
    · cases ex
      cases ey
      exact .inr ⟨_, _, rfl, .inr ⟨a, rfl, hS⟩, he, hl, k⟩
    · cases ey
theorem sm_rows {g : Rg} (ok : RgOk g) (S : Store) {f : Nat} (hf : f < g.B) (n : Nat) : Sm (S ++ g.locs g.B) (n + 2) (g.nums f) (.lst (g.rowsL (S.length + f) f (g.rs.length - 1))) := by
  have n0 := ok.n0
  have n6 := ok.n
  obtain ⟨eB, hB0, hB⟩ := ok.bB
  refine .inr ⟨_, _, rfl, .inl rfl, by rw [rowsL_len]; simp; omega, by rw [rowsL_len]; omega, fun i x y h1 h2 => ?_⟩
  have hi : i < g.rs.length := by
    have := (List.getElem?_eq_some_iff.mp h1).1
    simpa using this
  rw [nums_at g f hi] at h1
  cases h1
  have hc : (g.cst f i).length ≤ 1000 := by rw [cst_len]; omega
  cases i with
  | zero =>
    have e : y = .loc (S.length + f) := by
      change some (D.loc (S.length + f)) = some y at h2
      cases h2
      rfl
    subst e
    exact sm_rowL n hc (locs_at g S hf)
  | succ i =>
    have e : y = .lst ((g.cst f (i + 1)).map encC) := by
      unfold Rg.rowsL at h2
      rw [List.getElem?_cons_succ, List.getElem?_map, List.getElem?_range (by omega)] at h2
      change some (D.lst ((g.cst f (i + 1)).map encC)) = some y at h2
      cases h2
      rfl
    subst e
    exact sm_row n hc
theorem sm_nums {g : Rg} (ok : RgOk g) (S : Store) : Sm (S ++ g.locs g.B) 7 (.lst [.lst g.allN, .lst []]) (.lst [.lst (g.numsL S.length), .lst []]) := by
  obtain ⟨eB, hB0, hB⟩ := ok.bB
  refine .inr ⟨_, _, rfl, .inl rfl, rfl, by simp, fun i x y h1 h2 => ?_⟩
  cases i with
  | zero =>
    cases h1
    cases h2
    refine .inr ⟨_, _, rfl, .inl rfl, by simp [Rg.allN, Rg.numsL], by simp [Rg.numsL]; omega, fun f x y h1 h2 => ?_⟩
    have hf : f < g.B := by
      have := (List.getElem?_eq_some_iff.mp h1).1
      simpa [Rg.allN] using this
    unfold Rg.allN at h1
    unfold Rg.numsL at h2
    rw [List.getElem?_map, List.getElem?_range hf] at h1 h2
    cases h1
    cases h2
    exact sm_rows ok S hf 3
  | succ i => cases i with
    | zero =>
      cases h1
      cases h2
      exact Sm.lst (by decide) fun x hx => by cases hx
    | succ i => cases h1
theorem sm_labs {S : Store} (n : Nat) {ls : List Int} (h : ls.length ≤ 1000) : Sm S (n + 1) (.lst (ls.map .int)) (.lst (ls.map .int)) := Sm.lst (by rw [List.length_map]; omega) fun x hx => by
  obtain ⟨c, _, rfl⟩ := List.mem_map.mp hx
  exact Sm.leaf (.int c) n
end K10

set_option linter.all false
set_option maxRecDepth 100000
set_option maxHeartbeats 4000000
set_option autoImplicit false
namespace K10
open PySem PySem.Spec L2 DL
local macro_rules
  | `(tactic| infer_instance) => `(tactic| first
    | (first | with_reducible refine op_seq ?_ | with_reducible refine sq_set (by simp only [List.set_cons_succ, List.set_cons_zero]; rfl) ?_ | with_reducible refine sq_nx ?_ | ((with_reducible refine id_v ?_); (refine rp_v rfl ?_)) | with_reducible refine rp_c ?_ | with_reducible refine rp_cons ?_ | with_reducible refine rp_nil ?_ | with_reducible refine rp_neg ?_ | with_reducible refine rp_lv ?_ | ((with_reducible refine id_lo ?_); (refine rp_lo rfl ?_)) | with_reducible refine op_asgN ?_)
    | (first | with_reducible refine op_asg ?_ | with_reducible refine op_setO ?_ | with_reducible refine op_if ?_ | with_reducible refine op_for ?_ | with_reducible refine op_next ?_ | with_reducible refine op_ret ?_ | with_reducible refine op_retO ?_ | ((with_reducible refine id_retV ?_); (refine op_retV rfl ?_)) | with_reducible refine op_retN ?_ | with_reducible refine op_drop ?_ | with_reducible refine op_dropX ?_)
    | (first | with_reducible refine op_asgX ?_ | with_reducible refine op_retX ?_ | with_reducible refine op_break ?_ | with_reducible refine op_cont ?_ | ((with_reducible refine id_frz ?_); (refine op_frz rfl (by simp only [List.set_cons_succ, List.set_cons_zero]; rfl) ?_)) | ((with_reducible refine id_locz ?_); (refine op_locz rfl (by simp only [List.set_cons_succ, List.set_cons_zero]; rfl) ?_)) | with_reducible refine sq_rt ?_ | with_reducible refine sq_ro ?_ | with_reducible refine sq_bk ?_ | with_reducible refine sq_ct ?_ | with_reducible refine sq_exc ?_)
    | (first | with_reducible refine lq_set (by simp only [List.set_cons_succ, List.set_cons_zero]; rfl) ?_ | with_reducible refine lq_nx ?_ | with_reducible refine lq_ct ?_ | with_reducible refine lq_bk ?_ | with_reducible refine lq_rt ?_ | with_reducible refine lq_ro ?_ | with_reducible refine lq_exc ?_ | with_reducible refine rp_call ?_ | with_reducible refine rp_callO ?_ | with_reducible refine rp_ix ?_ | with_reducible refine rp_b1 ?_)
    | (first | with_reducible refine rp_op ?_ | with_reducible refine rp_fAdd ?_ | with_reducible refine rp_fSub ?_ | with_reducible refine rp_fMin2 ?_ | with_reducible refine op_putF ?_ | with_reducible refine rp_methC ?_ | with_reducible refine rp_methCO ?_ | with_reducible refine rp_dictP ?_ | with_reducible refine rp_inDE ?_ | with_reducible refine rp_isC ?_ | with_reducible refine rp_make ?_)
    | (first | with_reducible refine rp_fMax2 ?_ | with_reducible refine rp_cmp ?_ | with_reducible refine rp_cmpT ?_ | with_reducible refine rp_chainP ?_ | with_reducible refine rp_chainTP ?_ | with_reducible refine rp_tru ?_ | with_reducible refine sp_tru_bl ?_ | with_reducible refine sp_tru_non ?_ | with_reducible refine sp_tru_int ?_ | with_reducible refine sp_tru_lst ?_ | with_reducible refine sp_tru_tup ?_)
    | (first | ((with_reducible refine id_truS ?_); (refine sp_tru_slot rfl ?_)) | with_reducible refine rp_notT ?_ | with_reducible refine rp_andT ?_ | with_reducible refine rp_orT ?_ | with_reducible refine rp_and ?_ | with_reducible refine rp_or ?_ | with_reducible refine rp_not ?_ | with_reducible refine rp_if ?_ | with_reducible refine rp_ifO ?_ | with_reducible refine rp_star ?_ | with_reducible refine rp_tup ?_)
    | (first | with_reducible refine rp_lst ?_ | with_reducible refine rp_f ?_ | with_reducible refine rp_new ?_ | with_reducible refine rp_in ?_ | with_reducible refine rp_inE ?_ | with_reducible refine rp_inB ?_ | with_reducible refine rp_inBE ?_ | with_reducible refine rp_pn ?_ | with_reducible refine rp_ps ?_ | with_reducible refine rp_sl ?_ | with_reducible refine rp_slO ?_)
    | (first | with_reducible refine rp_e1 ?_ | with_reducible refine rp_list ?_ | with_reducible refine rp_sortI ?_ | with_reducible refine rp_cat ?_ | with_reducible refine rp_rep ?_ | with_reducible refine rp_fld ?_ | with_reducible refine rp_isBE ?_ | with_reducible refine rp_eqL ?_ | with_reducible refine rp_iV ?_ | with_reducible refine rp_iR1 ?_ | with_reducible refine rp_iR2 ?_)
    | (first | with_reducible refine rp_iRev ?_ | with_reducible refine rp_iEnum ?_ | with_reducible refine rp_iZip ?_ | ((with_reducible refine id_comp ?_); (refine rp_comp rfl ?_)) | ((with_reducible refine id_appO ?_); (refine rp_appO rfl ?_)) | ((with_reducible refine id_extO ?_); (refine rp_extO rfl ?_)) | with_reducible refine len_le (by first | decide | (simp only [List.length_cons, List.length_nil, List.length_map, List.length_append]; omega)) ?_ | with_reducible refine len_lt (by first | decide | (simp only [List.length_cons, List.length_nil, List.length_map, List.length_append]; omega)) ?_ | with_reducible refine sp_mgN (by simp only [List.set_cons_succ, List.set_cons_zero]; rfl) ?_ | ((with_reducible refine id_mgT ?_); (refine sp_mgT rfl ?_)) | with_reducible refine sp_mgCons ?_)
    | (first | with_reducible refine sp_mgNil ?_ | with_reducible refine sp_lenL ?_ | with_reducible refine sp_lenT ?_ | with_reducible refine sp_cEqI ?_ | with_reducible refine sp_cNeI ?_ | with_reducible refine sp_cEqB ?_ | with_reducible refine sp_cNeB ?_ | with_reducible refine bp_t ?_ | with_reducible refine bp_f ?_ | with_reducible refine bp_nt ?_ | with_reducible refine bp_nf ?_)
    | (first | with_reducible refine bp_dt rfl ?_ | with_reducible refine bp_ndt rfl ?_ | with_reducible refine bp_dt (by decide) ?_ | with_reducible refine bp_df (by decide) ?_ | with_reducible refine bp_ndt (by decide) ?_ | with_reducible refine bp_ndf (by decide) ?_ | with_reducible refine bp_dt (by omega) ?_ | with_reducible refine bp_df (by omega) ?_ | with_reducible refine bp_ndt (by omega) ?_ | with_reducible refine bp_ndf (by omega) ?_ | with_reducible refine bp_qtup ?_)
    | (first | with_reducible refine bp_qint ?_ | with_reducible refine bp_nbl ?_ | with_reducible refine bp_nint ?_ | with_reducible refine bp_nstr ?_ | with_reducible refine bp_ntup ?_ | with_reducible refine bp_nlst ?_ | with_reducible refine bp_nloc ?_ | with_reducible refine bp_ct (by decide) ?_ | with_reducible refine bp_cf (by decide) ?_ | with_reducible refine sp_cEqS ?_ | with_reducible refine ex_int ?_)
    | (first | with_reducible refine st_eq ?_ | ((with_reducible refine id_sq ?_); (refine sp_of rfl ?_)) | with_reducible exact ⟨rfl, rfl⟩ | with_reducible exact rfl))

theorem pool_at (ns : List Int) : f__law_pool [.scr ns, .int 0] [] = .own [.lst (ns.map .int), .int 0, .int 0, .int 1, .int 0, .int 0] [] := by
  refine fn_wp (show OQ (m__law_pool [some (.val (.scr ns)), iv 0] []) _ from ?_)
  unfold m__law_pool
  repeat' (first | infer_instance | done)
  all_goals rfl
theorem few_at {f : Int} (h : f = 0 ∨ f = 1) : ∃ c : Int, atI [D.int 3, D.int 8] f = some (.int c) ∧ (f = 0 → c = 3) ∧ (f = 1 → c = 8) := by
  rcases h with rfl | rfl
  · exact ⟨3, rfl, fun _ => rfl, fun h => by omega⟩
  · exact ⟨8, rfl, fun h => by omega, fun _ => rfl⟩
theorem ite_one (p : Prop) [Decidable p] : (if decide p = true then (1 : Int) else 0) = 0 ∨ (if decide p = true then (1 : Int) else 0) = 1 := by split <;> omega
theorem eqL_lst {xs : List D} (h : D.eqks 63 xs = true) : eqCt (.l xs) (.l xs) = some true := by
  unfold eqCt
  dsimp only
  rw [if_pos ⟨h, h⟩, decide_eq_true rfl]
theorem passed_eq (rs : List Int) (P : List (List Int)) : D.eqks 63 [.lst (rs.map .int), .lst (P.map fun p => .lst (p.map .int))] = true := by
  show (D.eqks 62 (rs.map .int) && (D.eqks 62 (P.map fun p => D.lst (p.map .int)) && true)) = true
  have h2 : D.eqks 62 (P.map fun p => D.lst (p.map .int)) = true := by
    induction P with
    | nil => rfl
    | cons p P ih =>
      rw [List.map_cons, D.eqks, ih]
      show (D.eqks 61 (p.map .int) && true) = true
      rw [eqks_ints]
      rfl
  rw [eqks_ints, h2]
  rfl
theorem kind_eq {g g' : Rg} (h : fst g'.best = fst g.best) : g'.kind = g.kind := by
  unfold Rg.kind
  cases e : g.best <;> cases e' : g'.best <;> rw [e, e'] at h <;> first | rfl | cases h
theorem locs_low (g : Rg) (m : Nat) : ∀ o ∈ g.locs m, Ob.low 0 o = true := fun o ho => by
  obtain ⟨f, _, rfl⟩ := List.mem_map.mp ho
  exact lows_map fun c _ => low_encC c
theorem sm_fst {S : Store} (n : Nat) (k : Str) (c : Option Int) : Sm S (n + 1) (.lst [.str k, encC c]) (.lst [.str k, encC c]) := Sm.lst (by simp) fun x hx => by
  rcases List.mem_cons.mp hx with rfl | hx
  · exact Sm.leaf (.str k) n
  · rw [List.mem_singleton.mp hx]
    cases c with
    | none => exact Sm.leaf .non n
    | some c => exact Sm.leaf (.int c) n
theorem sm_four {S : Store} (n : Nat) (k : Str) (c : Int) {ls : List Int} (h : ls.length ≤ 1000) : Sm S (n + 2) (.lst [.str k, .int c, .lst (ls.map .int), .int c]) (.lst [.str k, .int c, .lst (ls.map .int), .int c]) := Sm.lst (by simp) fun x hx => by
  rcases List.mem_cons.mp hx with rfl | hx
  · exact Sm.leaf (.str k) _
  rcases List.mem_cons.mp hx with rfl | hx
  · exact Sm.leaf (.int c) _
  rcases List.mem_cons.mp hx with rfl | hx
  · exact sm_labs n h
  · rw [List.mem_singleton.mp hx]
    exact Sm.leaf (.int c) _
theorem sm_three {S : Store} (n : Nat) (k : Str) : Sm S (n + 2) (.lst [.str k, .non, .lst []]) (.lst [.str k, .non, .lst []]) := Sm.lst (by simp) fun x hx => by
  rcases List.mem_cons.mp hx with rfl | hx
  · exact Sm.leaf (.str k) _
  rcases List.mem_cons.mp hx with rfl | hx
  · exact Sm.leaf .non _
  · rw [List.mem_singleton.mp hx]
    exact Sm.lst (by simp) fun x hx => by cases hx
theorem plain (ns : List Int) (_hn : ns.length ≤ 63) : ∃ S, f_law [.scr ns] [] = .ret (.bl true) S := by
  refine W_law (fun r => ∃ S, r = .ret (.bl true) S) ?_
  unfold m_law
  repeat' (first | infer_instance | done)
  refine gp_own (pool_at ns) ?_
  repeat' (first | infer_instance | done)
  have h0 : PoolOk ns [Pool ns 0 0 1 0 0] 0 := ⟨0, 0, 1, 0, 0, rfl, by decide, by decide⟩
  have lw0 : AllLow [Pool ns 0 0 1 0 0] := fun o ho => by
    rw [List.mem_singleton.mp ho]
    exact pool_low ..
  simp only [List.length_nil, List.nil_append]
  change FQ (f__law_draw [.loc 0, .int 4] [Pool ns 0 0 1 0 0]) _ _
  refine fp_draw h0 (by decide) (by decide) fun v S1 v0 v1 d1 => ?_
  repeat' (first | infer_instance | done)
  refine fp_draw d1.ok (by decide) (by decide) fun w S2 w0 w1 d2 => ?_
  repeat' (first | infer_instance | done)
  have hf := ite_one (v = 0)
  generalize hfew : (if decide (v = 0) = true then (1 : Int) else 0) = few at hf ⊢
  obtain ⟨c3, ec3, hc30, hc31⟩ := few_at hf
  refine sp_of (a := D.int c3) ec3 ?_
  repeat' (first | infer_instance | done)
  refine fp_draw d2.ok (by omega) (by omega) fun x S3 x0 x1 d3 => ?_
  repeat' (first | infer_instance | done)
  rw [hfew]
  refine rp_fMul (by rcases hf with h | h <;> rw [h] <;> decide) ?_
  repeat' (first | infer_instance | done)
  obtain ⟨m, S4, e4, mL, mB, ok, d4⟩ := machine d3.ok (L := 1 + w) (B := 1 + x) (M := 10 + 20 * few) (by omega) (by omega) (by omega)
  refine fp_ret e4 ?_
  have D4 := ((d1.trans d2).trans d3).trans d4
  have hL : m.L ≤ 4 := by omega
  have hB : m.B ≤ 8 := by omega
  have hB0 := ok.B.1
  have hL0 := ok.L
  have lw4 := D4.fr.lw lw0
  repeat' (first | infer_instance | done)
  refine fp_ret (made ok hL hB lw4) ?_
  repeat' (first | infer_instance | done)
  refine fp_draw D4.ok (by decide) (by decide) fun y S5 y0 y1 d5 => ?_
  repeat' (first | infer_instance | done)
  have hm := ite_one (y = 0)
  generalize (if decide (y = 0) = true then (1 : Int) else 0) = more at hm ⊢
  rw [hfew]
  refine rp_fMul (by rcases hf with h | h <;> rw [h] <;> decide) ?_
  repeat' (first | infer_instance | done)
  refine fp_draw d5.ok (by omega) (by omega) fun z S6 z0 z1 d6 => ?_
  repeat' (first | infer_instance | done)
  refine ⟨by constructor <;> omega, ?_⟩
  have hrng : ∀ n : Nat, (rng 0 n).length = n := fun n => by unfold rng; simp
  refine ⟨by rw [hrng]; omega, comp_any_wp D.int (fun _ => True) _ d6.ok (fun d hd => ?_) fun rs S7 hl _ d7 => ?_⟩
  · rw [wipeE, wipeE]
    repeat' (first | infer_instance | done)
    intro T hT
    rw [e_law_1, Mach.d]
    repeat' (first | infer_instance | done)
    refine fp_draw hT (by omega) (by omega) fun q T' q0 q1 dq => ?_
    exact ⟨q, rfl, trivial, dq⟩
  rw [hrng] at hl
  have n0 : 0 < rs.length := by omega
  have n6 : rs.length ≤ 6 := by omega
  have eB : ((m.B.toNat : Nat) : Int) = m.B := by omega
  have pw : m.B.toNat ^ rs.length ≤ 10000 := by
    rcases hf with h | h
    · have b3 : m.B.toNat ≤ 3 := by have := hc30 h; omega
      have h1 : m.B.toNat ^ rs.length ≤ 3 ^ rs.length := Nat.pow_le_pow_left b3 _
      have h2 : 3 ^ rs.length ≤ 3 ^ 6 := Nat.pow_le_pow_right (by decide) n6
      omega
    · have n3 : rs.length ≤ 3 := by omega
      have h1 : m.B.toNat ^ rs.length ≤ 8 ^ rs.length := Nat.pow_le_pow_left (by omega) _
      have h2 : 8 ^ rs.length ≤ 8 ^ 3 := Nat.pow_le_pow_right (by decide) n3
      omega
  repeat' (first | infer_instance | done)
  obtain ⟨P, S8, e8, lP, pP, d8⟩ := prices_ok d7.ok (N := rs.length) (B := m.B.toNat) (by omega) (by omega)
  rw [eB] at e8
  refine fp_ret e8 ?_
  repeat' (first | infer_instance | done)
  refine rp_eq (pow8 _) ?_
  repeat' (first | infer_instance | done)
  refine rp_eq (pow30 _) ?_
  repeat' (first | infer_instance | done)
  refine fp_draw d8.ok (by decide) (by decide) fun u S9 u0 u1 d9 => ?_
  repeat' (first | infer_instance | done)
  refine fp_draw d9.ok (by decide) (by decide) fun t S10 t0 t1 d10 => ?_
  obtain ⟨fine, efine, fb⟩ := fine_at t0 t1 u0 u1
  refine sp_of (a := encC fine) efine ?_
  have D10 := ((((D4.trans d5).trans d6).trans d7).trans d8).trans (d9.trans d10)
  have lw10 := D10.fr.lw lw0
  repeat' (first | infer_instance | done)
  have hP : P.length ≤ 16777216 := by omega
  refine rp_eq (compL_map (fun p : List Int => D.lst (p.map .int)) (fun p : List Int => D.lst (p.map .int)) P fun p hp => ?_) ?_
  · rw [wipeE, wipeE, e_law_2]
    repeat' (first | infer_instance | done)
  repeat' (first | infer_instance | done)
  obtain ⟨g, hg⟩ : ∃ g : Rg, g = ⟨m, rs, P, fine⟩ := ⟨_, rfl⟩
  obtain rfl : g.m = m := by rw [hg]
  obtain rfl : g.rs = rs := by rw [hg]
  obtain rfl : g.P = P := by rw [hg]
  obtain rfl : g.fine = fine := by rw [hg]
  clear hg
  have gok : RgOk g := ⟨ok, hL, hB, n0, n6, lP, pP, fb⟩
  refine fp_ret (best_ok gok false lw10) ?_
  repeat' (first | infer_instance | done)
  refine ⟨_, _, fnd_all g, ?_⟩
  repeat' (first | infer_instance | done)
  refine sp_of (a := true) (eqL_lst (passed_eq g.rs g.P)) ?_
  repeat' (first | infer_instance | done)
  have hlists := law_lists (n := g.rs.length) (B := g.B) (by unfold Rg.B; omega) pw (by omega) (by unfold Rg.B; omega) S10
  rw [show ((g.B : Nat) : Int) = g.m.B from eB] at hlists
  refine fp_ret hlists ?_
  repeat' (first | infer_instance | done)
  refine due_loop gok fun z12 z17 => ?_
  repeat' (first | infer_instance | done)
  refine fp_ret (numbers_ok gok S10) ?_
  repeat' (first | infer_instance | done)
  have lw11 : AllLow (S10 ++ g.locs g.B) := (fr_app [0] S10 _ (locs_low g g.B)).lw lw10
  have ok11 : PoolOk ns (S10 ++ g.locs g.B) 0 := by
    obtain ⟨a, b, c, d, e, h1, h2⟩ := D10.ok
    exact ⟨a, b, c, d, e, (List.getElem?_append_left (List.getElem?_eq_some_iff.mp h1).1).trans h1, h2⟩
  have hnums := same_ok (S10 ++ g.locs g.B) 7 _ _ (sm_nums gok S10)
  have hb : ∀ x, g.best = some x → LsOk g x.2 ∧ g.cc x.2 = some x.1 := fun x e => by
    have := best_iff g n0
    rw [e] at this
    exact this.1
  have j1 := judge_ok gok false lw11 hb
  have j2 := judge_ok gok true lw11 hb
  rw [fnd_all g] at j1 j2 ⊢
  generalize hS11 : S10 ++ g.locs g.B = S11 at *
  repeat' (first | infer_instance | done)
  refine fp_ret hnums ?_
  repeat' (first | infer_instance | done)
  cases eb : g.best with
  | none =>
    have hk : g.kind = "none" := by unfold Rg.kind; rw [eb]
    have hl : g.labs = [] := by unfold Rg.labs; rw [eb]
    rw [hk, hl, eb] at j1 j2
    have turned : ∀ p, p < g.rs.length → ∀ S, AllLow S → f_best_ring [g.m.o, .tup ((rot p g.rs).map .int), .tup ((rot p g.P).map fun p => .tup (p.map .int)), encC g.fine] S = .ret (fndD (.str "none") (encC (fst (none))) ((g.turn p).labs.map .int) (g.turn p).allN []) S := fun p hp S lw => by
      have := best_ok (turn_ok gok p) true lw
      rw [fnd_all (g.turn p), kind_eq (turn_best gok hp), turn_best gok hp, hk, eb] at this
      exact this
    rw [show encP none = D.non from rfl, show encC (fst none) = D.non from rfl, hk, hl]
    repeat' (first | infer_instance | done)
    refine fp_ret (same_ok S11 7 _ _ (sm_three 5 "none")) ?_
    repeat' (first | infer_instance | done)
    refine rp_eq (compL_map (fun p : List Int => D.lst (p.map .int)) (fun p : List Int => D.tup (p.map .int)) g.P fun p hp => ?_) ?_
    · rw [wipeE, wipeE, e_law_4]
      repeat' (first | infer_instance | done)
    repeat' (first | infer_instance | done)
    refine fp_ret j1 ?_
    repeat' (first | infer_instance | done)
    refine fp_ret j2 ?_
    repeat' (first | infer_instance | done)
    refine fp_ret (same_ok S11 7 _ _ (Sm.lst (by simp) fun x hx => Sm.leaf (by
      rcases List.mem_cons.mp hx with rfl | hx
      · exact .bl true
      · rw [List.mem_singleton.mp hx]
        exact .bl true) 6)) ?_
    repeat' (first | infer_instance | done)
    refine sp_of (a := true) (eqL_lst (passed_eq g.rs g.P)) ?_
    repeat' (first | infer_instance | done)
    refine fp_draw ok11 (by omega) (by omega) fun q S12 q0 q1 d12 => ?_
    obtain ⟨p, rfl⟩ := Int.eq_ofNat_of_zero_le q0
    have hp : p < g.rs.length := by omega
    repeat' (first | infer_instance | done)
    rw [cut_from, cut_to]
    refine ⟨by simp; omega, ?_⟩
    repeat' (first | infer_instance | done)
    rw [cut_from, cut_to]
    refine rp_fAddT (by simp; omega) ?_
    repeat' (first | infer_instance | done)
    rw [show (g.rs.map D.int).drop p ++ (g.rs.map D.int).take p = (rot p g.rs).map D.int by unfold rot; rw [List.map_append, List.map_drop, List.map_take], show (g.P.map fun p => D.tup (p.map D.int)).drop p ++ (g.P.map fun p => D.tup (p.map D.int)).take p = (rot p g.P).map fun p => D.tup (p.map D.int) by unfold rot; rw [List.map_append, List.map_drop, List.map_take]]
    refine fp_ret (turned p hp S12 (d12.fr.lw lw11)) ?_
    repeat' (first | infer_instance | done)
    refine fp_ret (same_ok S12 7 _ _ (sm_fst 6 "none" (fst (none)))) ?_
    repeat' (first | infer_instance | done)
    exact ⟨_, rfl⟩
  | some x =>
    have hk : g.kind = "best" := by unfold Rg.kind; rw [eb]
    have hl : g.labs = x.2 := by unfold Rg.labs; rw [eb]
    rw [hk, hl, eb] at j1 j2
    have turned : ∀ p, p < g.rs.length → ∀ S, AllLow S → f_best_ring [g.m.o, .tup ((rot p g.rs).map .int), .tup ((rot p g.P).map fun p => .tup (p.map .int)), encC g.fine] S = .ret (fndD (.str "best") (encC (fst (some x))) ((g.turn p).labs.map .int) (g.turn p).allN []) S := fun p hp S lw => by
      have := best_ok (turn_ok gok p) true lw
      rw [fnd_all (g.turn p), kind_eq (turn_best gok hp), turn_best gok hp, hk, eb] at this
      exact this
    have hx : x.2.length ≤ 1000 := by have := (hb x eb).1.n; omega
    rw [show encP (some x) = D.tup [.int x.1, .lst (x.2.map .int)] from rfl, show encC (fst (some x)) = D.int x.1 from rfl, hk, hl]
    repeat' (first | infer_instance | done)
    refine fp_ret (same_ok S11 7 _ _ (sm_four 5 "best" x.1 hx)) ?_
    repeat' (first | infer_instance | done)
    refine rp_eq (compL_map (fun p : List Int => D.lst (p.map .int)) (fun p : List Int => D.tup (p.map .int)) g.P fun p hp => ?_) ?_
    · rw [wipeE, wipeE, e_law_4]
      repeat' (first | infer_instance | done)
    repeat' (first | infer_instance | done)
    refine fp_ret j1 ?_
    repeat' (first | infer_instance | done)
    refine fp_ret j2 ?_
    repeat' (first | infer_instance | done)
    refine fp_ret (same_ok S11 7 _ _ (Sm.lst (by simp) fun x hx => Sm.leaf (by
      rcases List.mem_cons.mp hx with rfl | hx
      · exact .bl true
      · rw [List.mem_singleton.mp hx]
        exact .bl true) 6)) ?_
    repeat' (first | infer_instance | done)
    refine sp_of (a := true) (eqL_lst (passed_eq g.rs g.P)) ?_
    repeat' (first | infer_instance | done)
    refine fp_draw ok11 (by omega) (by omega) fun q S12 q0 q1 d12 => ?_
    obtain ⟨p, rfl⟩ := Int.eq_ofNat_of_zero_le q0
    have hp : p < g.rs.length := by omega
    repeat' (first | infer_instance | done)
    rw [cut_from, cut_to]
    refine ⟨by simp; omega, ?_⟩
    repeat' (first | infer_instance | done)
    rw [cut_from, cut_to]
    refine rp_fAddT (by simp; omega) ?_
    repeat' (first | infer_instance | done)
    rw [show (g.rs.map D.int).drop p ++ (g.rs.map D.int).take p = (rot p g.rs).map D.int by unfold rot; rw [List.map_append, List.map_drop, List.map_take], show (g.P.map fun p => D.tup (p.map D.int)).drop p ++ (g.P.map fun p => D.tup (p.map D.int)).take p = (rot p g.P).map fun p => D.tup (p.map D.int) by unfold rot; rw [List.map_append, List.map_drop, List.map_take]]
    refine fp_ret (turned p hp S12 (d12.fr.lw lw11)) ?_
    repeat' (first | infer_instance | done)
    refine fp_ret (same_ok S12 7 _ _ (sm_fst 6 "best" (fst (some x)))) ?_
    repeat' (first | infer_instance | done)
    exact ⟨_, rfl⟩
end K10

set_option Elab.async false
set_option linter.all false
set_option maxRecDepth 100000
set_option maxHeartbeats 4000000
set_option autoImplicit false
namespace K10
open PySem PySem.Spec PyProof.Rows L2 DL

theorem all_mk {l : PySem.W.OpenLaw} {w : World} {K : PySem.W.Frag} {h : Heap} {mg : Str → Option Value} {fa : Addr} (X : K.In h) (G : h.Ns mainGlobals mg) (hfa : mg "law" = some (.ref fa))
    {t_kMOST_CHILDREN : Tok} {t_kMOST_LABELS : Tok} {t_kMOST_LETTERS : Tok} {f1 : Addr} {od1 an1 : Option Addr} {sl1 : Array (Option Value)} {oc1 kV1 dc1 pm1 cd1 ct1 : Value} {f2 : Addr} {od2 an2 : Option Addr} {sl2 : Array (Option Value)} {oc2 kV2 dc2 pm2 cd2 ct2 : Value} {f3 : Addr} {od3 an3 : Option Addr} {sl3 : Array (Option Value)} {oc3 kV3 dc3 pm3 cd3 ct3 : Value} {f4 : Addr} {od4 an4 : Option Addr} {sl4 : Array (Option Value)} {oc4 kV4 dc4 pm4 cd4 ct4 : Value} {f5 : Addr} {od5 an5 : Option Addr} {sl5 : Array (Option Value)} {oc5 kV5 dc5 pm5 cd5 ct5 : Value} {f6 : Addr} {od6 an6 : Option Addr} {sl6 : Array (Option Value)} {oc6 kV6 dc6 pm6 cd6 ct6 : Value} {f7 : Addr} {od7 an7 : Option Addr} {sl7 : Array (Option Value)} {oc7 kV7 dc7 pm7 cd7 ct7 : Value} {f8 : Addr} {od8 an8 : Option Addr} {sl8 : Array (Option Value)} {oc8 kV8 dc8 pm8 cd8 ct8 : Value} {f9 : Addr} {od9 an9 : Option Addr} {sl9 : Array (Option Value)} {oc9 kV9 dc9 pm9 cd9 ct9 : Value} {f10 : Addr} {od10 an10 : Option Addr} {sl10 : Array (Option Value)} {oc10 kV10 dc10 pm10 cd10 ct10 : Value} {f11 : Addr} {od11 an11 : Option Addr} {sl11 : Array (Option Value)} {oc11 kV11 dc11 pm11 cd11 ct11 : Value} {f12 : Addr} {od12 an12 : Option Addr} {sl12 : Array (Option Value)} {oc12 kV12 dc12 pm12 cd12 ct12 : Value} {f13 : Addr} {od13 an13 : Option Addr} {sl13 : Array (Option Value)} {oc13 kV13 dc13 pm13 cd13 ct13 : Value} {f14 : Addr} {od14 an14 : Option Addr} {sl14 : Array (Option Value)} {oc14 kV14 dc14 pm14 cd14 ct14 : Value} {f15 : Addr} {od15 an15 : Option Addr} {sl15 : Array (Option Value)} {oc15 kV15 dc15 pm15 cd15 ct15 : Value} {f16 : Addr} {od16 an16 : Option Addr} {sl16 : Array (Option Value)} {oc16 kV16 dc16 pm16 cd16 ct16 : Value} {f17 : Addr} {od17 an17 : Option Addr} {sl17 : Array (Option Value)} {oc17 kV17 dc17 pm17 cd17 ct17 : Value} {f18 : Addr} {od18 an18 : Option Addr} {sl18 : Array (Option Value)} {oc18 kV18 dc18 pm18 cd18 ct18 : Value} {f19 : Addr} {od19 an19 : Option Addr} {sl19 : Array (Option Value)} {oc19 kV19 dc19 pm19 cd19 ct19 : Value} {f20 : Addr} {od20 an20 : Option Addr} {sl20 : Array (Option Value)} {oc20 kV20 dc20 pm20 cd20 ct20 : Value} {f21 : Addr} {od21 an21 : Option Addr} {sl21 : Array (Option Value)} {oc21 kV21 dc21 pm21 cd21 ct21 : Value} {f22 : Addr} {od22 an22 : Option Addr} {sl22 : Array (Option Value)} {oc22 kV22 dc22 pm22 cd22 ct22 : Value} {C0 : Addr} {f23 : Addr} {od23 an23 : Option Addr} {sl23 : Array (Option Value)} {oc23 kV23 dc23 pm23 cd23 ct23 : Value} {C1 : Addr} {f24 : Addr} {od24 an24 : Option Addr} {sl24 : Array (Option Value)} {oc24 kV24 dc24 pm24 cd24 ct24 : Value} {C2 : Addr} {f25 : Addr} {od25 an25 : Option Addr} {sl25 : Array (Option Value)} {oc25 kV25 dc25 pm25 cd25 ct25 : Value} {f26 : Addr} {od26 an26 : Option Addr} {sl26 : Array (Option Value)} {oc26 kV26 dc26 pm26 cd26 ct26 : Value} {f27 : Addr} {od27 an27 : Option Addr} {sl27 : Array (Option Value)} {oc27 kV27 dc27 pm27 cd27 ct27 : Value} {f28 : Addr} {od28 an28 : Option Addr} {sl28 : Array (Option Value)} {oc28 kV28 dc28 pm28 cd28 ct28 : Value} {f29 : Addr} {od29 an29 : Option Addr} {sl29 : Array (Option Value)} {oc29 kV29 dc29 pm29 cd29 ct29 : Value}
    (b_all : PySem.W.nsIn K mainGlobals "all" = some none)
    (b_any : PySem.W.nsIn K mainGlobals "any" = some none)
    (b_bool : PySem.W.nsIn K mainGlobals "bool" = some none)
    (b_dict : PySem.W.nsIn K mainGlobals "dict" = some none)
    (b_enumerate : PySem.W.nsIn K mainGlobals "enumerate" = some none)
    (b_int : PySem.W.nsIn K mainGlobals "int" = some none)
    (b_isinstance : PySem.W.nsIn K mainGlobals "isinstance" = some none)
    (b_len : PySem.W.nsIn K mainGlobals "len" = some none)
    (b_list : PySem.W.nsIn K mainGlobals "list" = some none)
    (b_min : PySem.W.nsIn K mainGlobals "min" = some none)
    (b_range : PySem.W.nsIn K mainGlobals "range" = some none)
    (b_set : PySem.W.nsIn K mainGlobals "set" = some none)
    (b_sorted : PySem.W.nsIn K mainGlobals "sorted" = some none)
    (b_str : PySem.W.nsIn K mainGlobals "str" = some none)
    (b_sum : PySem.W.nsIn K mainGlobals "sum" = some none)
    (b_tuple : PySem.W.nsIn K mainGlobals "tuple" = some none)
    (k_MOST_CHILDREN : PySem.W.nsIn K mainGlobals "MOST_CHILDREN" = some (some (.int 2 t_kMOST_CHILDREN)))
    (k_MOST_LABELS : PySem.W.nsIn K mainGlobals "MOST_LABELS" = some (some (.int 8 t_kMOST_LABELS)))
    (k_MOST_LETTERS : PySem.W.nsIn K mainGlobals "MOST_LETTERS" = some (some (.int 4 t_kMOST_LETTERS)))
    (a1 : PySem.W.nsIn K mainGlobals "ring_objectors" = some (some (.ref f1)))
    (l1 : K.lookup f1 = some ⟨oc1, od1, .func (PySem.W.fnOf "ring_objectors" "ring_objectors" (defArgs s_ring_objectors) (defBody s_ring_objectors) (defScope s_ring_objectors) .none kV1 dc1 pm1 an1 cd1 ct1), sl1⟩)
    (c1 : PySem.W.codeIn K cd1 "ring_objectors" = true)
    (q1 : PySem.W.keepIn K (.ref f1) = true)
    (a2 : PySem.W.nsIn K mainGlobals "least" = some (some (.ref f2)))
    (l2 : K.lookup f2 = some ⟨oc2, od2, .func (PySem.W.fnOf "least" "least" (defArgs s_least) (defBody s_least) (defScope s_least) .none kV2 dc2 pm2 an2 cd2 ct2), sl2⟩)
    (c2 : PySem.W.codeIn K cd2 "least" = true)
    (q2 : PySem.W.keepIn K (.ref f2) = true)
    (a3 : PySem.W.nsIn K mainGlobals "better" = some (some (.ref f3)))
    (l3 : K.lookup f3 = some ⟨oc3, od3, .func (PySem.W.fnOf "better" "better" (defArgs s_better) (defBody s_better) (defScope s_better) .none kV3 dc3 pm3 an3 cd3 ct3), sl3⟩)
    (c3 : PySem.W.codeIn K cd3 "better" = true)
    (q3 : PySem.W.keepIn K (.ref f3) = true)
    (a4 : PySem.W.nsIn K mainGlobals "charged" = some (some (.ref f4)))
    (l4 : K.lookup f4 = some ⟨oc4, od4, .func (PySem.W.fnOf "charged" "charged" (defArgs s_charged) (defBody s_charged) (defScope s_charged) .none kV4 dc4 pm4 an4 cd4 ct4), sl4⟩)
    (c4 : PySem.W.codeIn K cd4 "charged" = true)
    (q4 : PySem.W.keepIn K (.ref f4) = true)
    (a5 : PySem.W.nsIn K mainGlobals "cost_of" = some (some (.ref f5)))
    (l5 : K.lookup f5 = some ⟨oc5, od5, .func (PySem.W.fnOf "cost_of" "cost_of" (defArgs s_cost_of) (defBody s_cost_of) (defScope s_cost_of) .none kV5 dc5 pm5 an5 cd5 ct5), sl5⟩)
    (c5 : PySem.W.codeIn K cd5 "cost_of" = true)
    (q5 : PySem.W.keepIn K (.ref f5) = true)
    (a6 : PySem.W.nsIn K mainGlobals "priced" = some (some (.ref f6)))
    (l6 : K.lookup f6 = some ⟨oc6, od6, .func (PySem.W.fnOf "priced" "priced" (defArgs s_priced) (defBody s_priced) (defScope s_priced) .none kV6 dc6 pm6 an6 cd6 ct6), sl6⟩)
    (c6 : PySem.W.codeIn K cd6 "priced" = true)
    (q6 : PySem.W.keepIn K (.ref f6) = true)
    (a7 : PySem.W.nsIn K mainGlobals "fits" = some (some (.ref f7)))
    (l7 : K.lookup f7 = some ⟨oc7, od7, .func (PySem.W.fnOf "fits" "fits" (defArgs s_fits) (defBody s_fits) (defScope s_fits) .none kV7 dc7 pm7 an7 cd7 ct7), sl7⟩)
    (c7 : PySem.W.codeIn K cd7 "fits" = true)
    (q7 : PySem.W.keepIn K (.ref f7) = true)
    (a8 : PySem.W.nsIn K mainGlobals "_law_pool" = some (some (.ref f8)))
    (l8 : K.lookup f8 = some ⟨oc8, od8, .func (PySem.W.fnOf "_law_pool" "_law_pool" (defArgs s__law_pool) (defBody s__law_pool) (defScope s__law_pool) .none kV8 dc8 pm8 an8 cd8 ct8), sl8⟩)
    (c8 : PySem.W.codeIn K cd8 "_law_pool" = true)
    (q8 : PySem.W.keepIn K (.ref f8) = true)
    (a9 : PySem.W.nsIn K mainGlobals "_law_draw" = some (some (.ref f9)))
    (l9 : K.lookup f9 = some ⟨oc9, od9, .func (PySem.W.fnOf "_law_draw" "_law_draw" (defArgs s__law_draw) (defBody s__law_draw) (defScope s__law_draw) .none kV9 dc9 pm9 an9 cd9 ct9), sl9⟩)
    (c9 : PySem.W.codeIn K cd9 "_law_draw" = true)
    (q9 : PySem.W.keepIn K (.ref f9) = true)
    (a10 : PySem.W.nsIn K mainGlobals "_law_same" = some (some (.ref f10)))
    (l10 : K.lookup f10 = some ⟨oc10, od10, .func (PySem.W.fnOf "_law_same" "_law_same" (defArgs s__law_same) (defBody s__law_same) (defScope s__law_same) .none kV10 dc10 pm10 an10 cd10 ct10), sl10⟩)
    (c10 : PySem.W.codeIn K cd10 "_law_same" = true)
    (q10 : PySem.W.keepIn K (.ref f10) = true)
    (a11 : PySem.W.nsIn K mainGlobals "_law_lists" = some (some (.ref f11)))
    (l11 : K.lookup f11 = some ⟨oc11, od11, .func (PySem.W.fnOf "_law_lists" "_law_lists" (defArgs s__law_lists) (defBody s__law_lists) (defScope s__law_lists) .none kV11 dc11 pm11 an11 cd11 ct11), sl11⟩)
    (c11 : PySem.W.codeIn K cd11 "_law_lists" = true)
    (q11 : PySem.W.keepIn K (.ref f11) = true)
    (a12 : PySem.W.nsIn K mainGlobals "_law_cost" = some (some (.ref f12)))
    (l12 : K.lookup f12 = some ⟨oc12, od12, .func (PySem.W.fnOf "_law_cost" "_law_cost" (defArgs s__law_cost) (defBody s__law_cost) (defScope s__law_cost) .none kV12 dc12 pm12 an12 cd12 ct12), sl12⟩)
    (c12 : PySem.W.codeIn K cd12 "_law_cost" = true)
    (q12 : PySem.W.keepIn K (.ref f12) = true)
    (a13 : PySem.W.nsIn K mainGlobals "_law_least" = some (some (.ref f13)))
    (l13 : K.lookup f13 = some ⟨oc13, od13, .func (PySem.W.fnOf "_law_least" "_law_least" (defArgs s__law_least) (defBody s__law_least) (defScope s__law_least) .none kV13 dc13 pm13 an13 cd13 ct13), sl13⟩)
    (c13 : PySem.W.codeIn K cd13 "_law_least" = true)
    (q13 : PySem.W.keepIn K (.ref f13) = true)
    (a14 : PySem.W.nsIn K mainGlobals "_law_ring_objects" = some (some (.ref f14)))
    (l14 : K.lookup f14 = some ⟨oc14, od14, .func (PySem.W.fnOf "_law_ring_objects" "_law_ring_objects" (defArgs s__law_ring_objects) (defBody s__law_ring_objects) (defScope s__law_ring_objects) .none kV14 dc14 pm14 an14 cd14 ct14), sl14⟩)
    (c14 : PySem.W.codeIn K cd14 "_law_ring_objects" = true)
    (q14 : PySem.W.keepIn K (.ref f14) = true)
    (a15 : PySem.W.nsIn K mainGlobals "_law_machine" = some (some (.ref f15)))
    (l15 : K.lookup f15 = some ⟨oc15, od15, .func (PySem.W.fnOf "_law_machine" "_law_machine" (defArgs s__law_machine) (defBody s__law_machine) (defScope s__law_machine) .none kV15 dc15 pm15 an15 cd15 ct15), sl15⟩)
    (c15 : PySem.W.codeIn K cd15 "_law_machine" = true)
    (q15 : PySem.W.keepIn K (.ref f15) = true)
    (a16 : PySem.W.nsIn K mainGlobals "_law_made" = some (some (.ref f16)))
    (l16 : K.lookup f16 = some ⟨oc16, od16, .func (PySem.W.fnOf "_law_made" "_law_made" (defArgs s__law_made) (defBody s__law_made) (defScope s__law_made) .none kV16 dc16 pm16 an16 cd16 ct16), sl16⟩)
    (c16 : PySem.W.codeIn K cd16 "_law_made" = true)
    (q16 : PySem.W.keepIn K (.ref f16) = true)
    (a17 : PySem.W.nsIn K mainGlobals "_law_prices" = some (some (.ref f17)))
    (l17 : K.lookup f17 = some ⟨oc17, od17, .func (PySem.W.fnOf "_law_prices" "_law_prices" (defArgs s__law_prices) (defBody s__law_prices) (defScope s__law_prices) .none kV17 dc17 pm17 an17 cd17 ct17), sl17⟩)
    (c17 : PySem.W.codeIn K cd17 "_law_prices" = true)
    (q17 : PySem.W.keepIn K (.ref f17) = true)
    (a18 : PySem.W.nsIn K mainGlobals "_law_step" = some (some (.ref f18)))
    (l18 : K.lookup f18 = some ⟨oc18, od18, .func (PySem.W.fnOf "_law_step" "_law_step" (defArgs s__law_step) (defBody s__law_step) (defScope s__law_step) .none kV18 dc18 pm18 an18 cd18 ct18), sl18⟩)
    (c18 : PySem.W.codeIn K cd18 "_law_step" = true)
    (q18 : PySem.W.keepIn K (.ref f18) = true)
    (a19 : PySem.W.nsIn K mainGlobals "_law_ring_numbers" = some (some (.ref f19)))
    (l19 : K.lookup f19 = some ⟨oc19, od19, .func (PySem.W.fnOf "_law_ring_numbers" "_law_ring_numbers" (defArgs s__law_ring_numbers) (defBody s__law_ring_numbers) (defScope s__law_ring_numbers) .none kV19 dc19 pm19 an19 cd19 ct19), sl19⟩)
    (c19 : PySem.W.codeIn K cd19 "_law_ring_numbers" = true)
    (q19 : PySem.W.keepIn K (.ref f19) = true)
    (a20 : PySem.W.nsIn K mainGlobals "best_ring" = some (some (.ref f20)))
    (l20 : K.lookup f20 = some ⟨oc20, od20, .func (PySem.W.fnOf "best_ring" "best_ring" (defArgs s_best_ring) (defBody s_best_ring) (defScope s_best_ring) .none kV20 dc20 pm20 an20 cd20 ct20), sl20⟩)
    (c20 : PySem.W.codeIn K cd20 "best_ring" = true)
    (q20 : PySem.W.keepIn K (.ref f20) = true)
    (a21 : PySem.W.nsIn K mainGlobals "judge_ring" = some (some (.ref f21)))
    (l21 : K.lookup f21 = some ⟨oc21, od21, .func (PySem.W.fnOf "judge_ring" "judge_ring" (defArgs s_judge_ring) (defBody s_judge_ring) (defScope s_judge_ring) .none kV21 dc21 pm21 an21 cd21 ct21), sl21⟩)
    (c21 : PySem.W.codeIn K cd21 "judge_ring" = true)
    (q21 : PySem.W.keepIn K (.ref f21) = true)
    (a22 : PySem.W.nsIn K mainGlobals "law" = some (some (.ref f22)))
    (l22 : K.lookup f22 = some ⟨oc22, od22, .func (PySem.W.fnOf "law" "law" (defArgs s_law) (defBody s_law) (defScope s_law) .none kV22 dc22 pm22 an22 cd22 ct22), sl22⟩)
    (c22 : PySem.W.codeIn K cd22 "law" = true)
    (q22 : PySem.W.keepIn K (.ref f22) = true)
    (Machine_g : PySem.W.nsIn K mainGlobals "Machine" = some (some (.ref C0)))
    (Machine_pg : PySem.W.plainGet K C0 Str.empty = true)
    (Machine_hd : PySem.W.hasDictIn K C0 = true)
    (Machine_po : PySem.W.plainOver K C0 = true)
    (Machine_sa : PySem.W.findIn K (.ref C0) "__setattr__" = some (some (.builtin "object.__setattr__")))
    (Machine_ca : PySem.W.findIn K (.ref C0) "__class__" = some (some (.builtin "object.__class__")))
    (Machine_cg : PySem.W.specialIn K (.builtin "object.__class__") "__get__" = some (some (.builtin "getset_descriptor.__get__")))
    (Machine_ct : PySem.W.takesIn K (.builtin "object.__class__") = some true)
    (Machine_mr : PySem.W.mroIn K C0 (.type "object") = some true)
    (Machine_kt : PySem.W.kitOne K (.ref C0) (.ref C0) = some true)
    (a23 : PySem.W.findIn K (.ref C0) "__init__" = some (some (.ref f23)))
    (i23 : PySem.W.isFn K (.ref f23) = true)
    (l23 : K.lookup f23 = some ⟨oc23, od23, .func (PySem.W.fnOf "__init__" "Machine.__init__" (defArgs s_Machine___init__) (defBody s_Machine___init__) (defScope s_Machine___init__) .none kV23 dc23 pm23 an23 cd23 ct23), sl23⟩)
    (c23 : PySem.W.codeIn K cd23 "Machine.__init__" = true)
    (q23 : PySem.W.keepIn K (.ref f23) = true)
    (Machine_mk : PySem.W.makesIn K C0 = true)
    (Machine_kc : PySem.W.keepIn K (.ref C0) = true)
    (Found_g : PySem.W.nsIn K mainGlobals "Found" = some (some (.ref C1)))
    (Found_pg : PySem.W.plainGet K C1 Str.empty = true)
    (Found_hd : PySem.W.hasDictIn K C1 = true)
    (Found_po : PySem.W.plainOver K C1 = true)
    (Found_sa : PySem.W.findIn K (.ref C1) "__setattr__" = some (some (.builtin "object.__setattr__")))
    (Found_ca : PySem.W.findIn K (.ref C1) "__class__" = some (some (.builtin "object.__class__")))
    (Found_cg : PySem.W.specialIn K (.builtin "object.__class__") "__get__" = some (some (.builtin "getset_descriptor.__get__")))
    (Found_ct : PySem.W.takesIn K (.builtin "object.__class__") = some true)
    (Found_mr : PySem.W.mroIn K C1 (.type "object") = some true)
    (Found_kt : PySem.W.kitOne K (.ref C1) (.ref C1) = some true)
    (a24 : PySem.W.findIn K (.ref C1) "__init__" = some (some (.ref f24)))
    (i24 : PySem.W.isFn K (.ref f24) = true)
    (l24 : K.lookup f24 = some ⟨oc24, od24, .func (PySem.W.fnOf "__init__" "Found.__init__" (defArgs s_Found___init__) (defBody s_Found___init__) (defScope s_Found___init__) .none kV24 dc24 pm24 an24 cd24 ct24), sl24⟩)
    (c24 : PySem.W.codeIn K cd24 "Found.__init__" = true)
    (q24 : PySem.W.keepIn K (.ref f24) = true)
    (Found_mk : PySem.W.makesIn K C1 = true)
    (Found_kc : PySem.W.keepIn K (.ref C1) = true)
    (Ring_g : PySem.W.nsIn K mainGlobals "Ring" = some (some (.ref C2)))
    (Ring_pg : PySem.W.plainGet K C2 Str.empty = true)
    (Ring_hd : PySem.W.hasDictIn K C2 = true)
    (Ring_po : PySem.W.plainOver K C2 = true)
    (Ring_sa : PySem.W.findIn K (.ref C2) "__setattr__" = some (some (.builtin "object.__setattr__")))
    (Ring_ca : PySem.W.findIn K (.ref C2) "__class__" = some (some (.builtin "object.__class__")))
    (Ring_cg : PySem.W.specialIn K (.builtin "object.__class__") "__get__" = some (some (.builtin "getset_descriptor.__get__")))
    (Ring_ct : PySem.W.takesIn K (.builtin "object.__class__") = some true)
    (Ring_mr : PySem.W.mroIn K C2 (.type "object") = some true)
    (Ring_kt : PySem.W.kitOne K (.ref C2) (.ref C2) = some true)
    (a25 : PySem.W.findIn K (.ref C2) "__init__" = some (some (.ref f25)))
    (i25 : PySem.W.isFn K (.ref f25) = true)
    (l25 : K.lookup f25 = some ⟨oc25, od25, .func (PySem.W.fnOf "__init__" "Ring.__init__" (defArgs s_Ring___init__) (defBody s_Ring___init__) (defScope s_Ring___init__) .none kV25 dc25 pm25 an25 cd25 ct25), sl25⟩)
    (c25 : PySem.W.codeIn K cd25 "Ring.__init__" = true)
    (q25 : PySem.W.keepIn K (.ref f25) = true)
    (Ring_mk : PySem.W.makesIn K C2 = true)
    (Ring_kc : PySem.W.keepIn K (.ref C2) = true)
    (a26 : PySem.W.findIn K (.ref C2) "charge" = some (some (.ref f26)))
    (i26 : PySem.W.isFn K (.ref f26) = true)
    (l26 : K.lookup f26 = some ⟨oc26, od26, .func (PySem.W.fnOf "charge" "Ring.charge" (defArgs s_Ring_charge) (defBody s_Ring_charge) (defScope s_Ring_charge) .none kV26 dc26 pm26 an26 cd26 ct26), sl26⟩)
    (c26 : PySem.W.codeIn K cd26 "Ring.charge" = true)
    (q26 : PySem.W.keepIn K (.ref f26) = true)
    (a27 : PySem.W.findIn K (.ref C2) "row" = some (some (.ref f27)))
    (i27 : PySem.W.isFn K (.ref f27) = true)
    (l27 : K.lookup f27 = some ⟨oc27, od27, .func (PySem.W.fnOf "row" "Ring.row" (defArgs s_Ring_row) (defBody s_Ring_row) (defScope s_Ring_row) .none kV27 dc27 pm27 an27 cd27 ct27), sl27⟩)
    (c27 : PySem.W.codeIn K cd27 "Ring.row" = true)
    (q27 : PySem.W.keepIn K (.ref f27) = true)
    (a28 : PySem.W.findIn K (.ref C2) "closed" = some (some (.ref f28)))
    (i28 : PySem.W.isFn K (.ref f28) = true)
    (l28 : K.lookup f28 = some ⟨oc28, od28, .func (PySem.W.fnOf "closed" "Ring.closed" (defArgs s_Ring_closed) (defBody s_Ring_closed) (defScope s_Ring_closed) .none kV28 dc28 pm28 an28 cd28 ct28), sl28⟩)
    (c28 : PySem.W.codeIn K cd28 "Ring.closed" = true)
    (q28 : PySem.W.keepIn K (.ref f28) = true)
    (a29 : PySem.W.findIn K (.ref C2) "rows" = some (some (.ref f29)))
    (i29 : PySem.W.isFn K (.ref f29) = true)
    (l29 : K.lookup f29 = some ⟨oc29, od29, .func (PySem.W.fnOf "rows" "Ring.rows" (defArgs s_Ring_rows) (defBody s_Ring_rows) (defScope s_Ring_rows) .none kV29 dc29 pm29 an29 cd29 ct29), sl29⟩)
    (c29 : PySem.W.codeIn K cd29 "Ring.rows" = true)
    (q29 : PySem.W.keepIn K (.ref f29) = true)
    (n_Found_cost : PySem.W.findIn K (.ref C1) "cost" = some none)
    (n_Found_ends : PySem.W.findIn K (.ref C1) "ends" = some none)
    (n_Found_kind : PySem.W.findIn K (.ref C1) "kind" = some none)
    (n_Found_labels : PySem.W.findIn K (.ref C1) "labels" = some none)
    (n_Found_numbers : PySem.W.findIn K (.ref C1) "numbers" = some none)
    (n_Machine_ends : PySem.W.findIn K (.ref C0) "ends" = some none)
    (n_Machine_labels : PySem.W.findIn K (.ref C0) "labels" = some none)
    (n_Machine_letters : PySem.W.findIn K (.ref C0) "letters" = some none)
    (n_Machine_moves : PySem.W.findIn K (.ref C0) "moves" = some none)
    (n_Ring_fine : PySem.W.findIn K (.ref C2) "fine" = some none)
    (n_Ring_machine : PySem.W.findIn K (.ref C2) "machine" = some none)
    (n_Ring_moves : PySem.W.findIn K (.ref C2) "moves" = some none)
    (n_Ring_prices : PySem.W.findIn K (.ref C2) "prices" = some none)
    (n_Ring_ring : PySem.W.findIn K (.ref C2) "ring" = some none) :
    ∃ fd : FuncData, (∀ (s : Shared) (v : Value), BindsTo s fd ⟨[v], []⟩ [("_law_script", v)]) ∧ ∀ base : Heap, K.In base → base.Ns mainGlobals mg → FnOk l.prog w K mg base (L2.CX l.prog w) 20 fa fd ["_law_script"] (spLaw K) := by
  have e := hfa.symm.trans (PySem.W.mg_of X G a22)
  have e' : f22 = fa := by
    cases e
    rfl
  subst e'
  have T : Txt K mg (fun n => match n with | 0 => C0 | 1 => C1 | 2 => C2 | _ => C0) := { b_all := PySem.W.mg_none_of X G b_all, b_any := PySem.W.mg_none_of X G b_any, b_bool := PySem.W.mg_none_of X G b_bool, b_dict := PySem.W.mg_none_of X G b_dict, b_enumerate := PySem.W.mg_none_of X G b_enumerate, b_int := PySem.W.mg_none_of X G b_int, b_isinstance := PySem.W.mg_none_of X G b_isinstance, b_len := PySem.W.mg_none_of X G b_len, b_list := PySem.W.mg_none_of X G b_list, b_min := PySem.W.mg_none_of X G b_min, b_range := PySem.W.mg_none_of X G b_range, b_set := PySem.W.mg_none_of X G b_set, b_sorted := PySem.W.mg_none_of X G b_sorted, b_str := PySem.W.mg_none_of X G b_str, b_sum := PySem.W.mg_none_of X G b_sum, b_tuple := PySem.W.mg_none_of X G b_tuple, k_MOST_CHILDREN := ⟨t_kMOST_CHILDREN, PySem.W.mg_of X G k_MOST_CHILDREN⟩, k_MOST_LABELS := ⟨t_kMOST_LABELS, PySem.W.mg_of X G k_MOST_LABELS⟩, k_MOST_LETTERS := ⟨t_kMOST_LETTERS, PySem.W.mg_of X G k_MOST_LETTERS⟩, d_ring_objectors := ⟨f1, _, PySem.W.mg_of X G a1, fun_mk (st := s_ring_objectors) l1 c1 q1, (fun_mk (st := s_ring_objectors) l1 c1 q1).binds (ps := ["machine", "ring", "labels"]) fun _ _ _ _ _ _ us hl => match us, hl with | [_, _, _], _ => rfl⟩, d_least := ⟨f2, _, PySem.W.mg_of X G a2, fun_mk (st := s_least) l2 c2 q2, (fun_mk (st := s_least) l2 c2 q2).binds (ps := ["rows"]) fun _ _ _ _ _ _ us hl => match us, hl with | [_], _ => rfl⟩, d_better := ⟨f3, _, PySem.W.mg_of X G a3, fun_mk (st := s_better) l3 c3 q3, (fun_mk (st := s_better) l3 c3 q3).binds (ps := ["one", "other"]) fun _ _ _ _ _ _ us hl => match us, hl with | [_, _], _ => rfl⟩, d_charged := ⟨f4, _, PySem.W.mg_of X G a4, fun_mk (st := s_charged) l4 c4 q4, (fun_mk (st := s_charged) l4 c4 q4).binds (ps := ["cost", "objects", "fine"]) fun _ _ _ _ _ _ us hl => match us, hl with | [_, _, _], _ => rfl⟩, d_cost_of := ⟨f5, _, PySem.W.mg_of X G a5, fun_mk (st := s_cost_of) l5 c5 q5, (fun_mk (st := s_cost_of) l5 c5 q5).binds (ps := ["pair"]) fun _ _ _ _ _ _ us hl => match us, hl with | [_], _ => rfl⟩, d_priced := ⟨f6, _, PySem.W.mg_of X G a6, fun_mk (st := s_priced) l6 c6 q6, (fun_mk (st := s_priced) l6 c6 q6).binds (ps := ["prices", "fine", "labels", "count"]) fun _ _ _ _ _ _ us hl => match us, hl with | [_, _, _, _], _ => rfl⟩, d_fits := ⟨f7, _, PySem.W.mg_of X G a7, fun_mk (st := s_fits) l7 c7 q7, (fun_mk (st := s_fits) l7 c7 q7).binds (ps := ["machine", "labels", "count"]) fun _ _ _ _ _ _ us hl => match us, hl with | [_, _, _], _ => rfl⟩, d__law_pool := ⟨f8, _, PySem.W.mg_of X G a8, fun_mk (st := s__law_pool) l8 c8 q8, (fun_mk (st := s__law_pool) l8 c8 q8).binds (ps := ["_law_script", "_law_budget"]) fun _ _ _ _ _ _ us hl => match us, hl with | [_, _], _ => rfl⟩, d__law_draw := ⟨f9, _, PySem.W.mg_of X G a9, fun_mk (st := s__law_draw) l9 c9 q9, (fun_mk (st := s__law_draw) l9 c9 q9).binds (ps := ["_law_pool_here", "_law_size"]) fun _ _ _ _ _ _ us hl => match us, hl with | [_, _], _ => rfl⟩, d__law_same := ⟨f10, _, PySem.W.mg_of X G a10, fun_mk (st := s__law_same) l10 c10 q10, (fun_mk (st := s__law_same) l10 c10 q10).binds (ps := ["_law_actual", "_law_due"]) fun _ _ _ _ _ _ us hl => match us, hl with | [_, _], _ => rfl⟩, d__law_lists := ⟨f11, _, PySem.W.mg_of X G a11, fun_mk (st := s__law_lists) l11 c11 q11, (fun_mk (st := s__law_lists) l11 c11 q11).binds (ps := ["_law_count", "_law_labels"]) fun _ _ _ _ _ _ us hl => match us, hl with | [_, _], _ => rfl⟩, d__law_cost := ⟨f12, _, PySem.W.mg_of X G a12, fun_mk (st := s__law_cost) l12 c12 q12, (fun_mk (st := s__law_cost) l12 c12 q12).binds (ps := ["_law_prices_here", "_law_fine", "_law_labels", "_law_count"]) fun _ _ _ _ _ _ us hl => match us, hl with | [_, _, _, _], _ => rfl⟩, d__law_least := ⟨f13, _, PySem.W.mg_of X G a13, fun_mk (st := s__law_least) l13 c13 q13, (fun_mk (st := s__law_least) l13 c13 q13).binds (ps := ["_law_rows"]) fun _ _ _ _ _ _ us hl => match us, hl with | [_], _ => rfl⟩, d__law_ring_objects := ⟨f14, _, PySem.W.mg_of X G a14, fun_mk (st := s__law_ring_objects) l14 c14 q14, (fun_mk (st := s__law_ring_objects) l14 c14 q14).binds (ps := ["_law_machine_here", "_law_ring", "_law_labels"]) fun _ _ _ _ _ _ us hl => match us, hl with | [_, _, _], _ => rfl⟩, d__law_machine := ⟨f15, _, PySem.W.mg_of X G a15, fun_mk (st := s__law_machine) l15 c15 q15, (fun_mk (st := s__law_machine) l15 c15 q15).binds (ps := ["_law_pool_here", "_law_letters", "_law_labels", "_law_many"]) fun _ _ _ _ _ _ us hl => match us, hl with | [_, _, _, _], _ => rfl⟩, d__law_made := ⟨f16, _, PySem.W.mg_of X G a16, fun_mk (st := s__law_made) l16 c16 q16, (fun_mk (st := s__law_made) l16 c16 q16).binds (ps := ["_law_machine_here"]) fun _ _ _ _ _ _ us hl => match us, hl with | [_], _ => rfl⟩, d__law_prices := ⟨f17, _, PySem.W.mg_of X G a17, fun_mk (st := s__law_prices) l17 c17 q17, (fun_mk (st := s__law_prices) l17 c17 q17).binds (ps := ["_law_pool_here", "_law_count", "_law_labels"]) fun _ _ _ _ _ _ us hl => match us, hl with | [_, _, _], _ => rfl⟩, d__law_step := ⟨f18, _, PySem.W.mg_of X G a18, fun_mk (st := s__law_step) l18 c18 q18, (fun_mk (st := s__law_step) l18 c18 q18).binds (ps := ["_law_machine_here", "_law_letter", "_law_before", "_law_prices_here", "_law_fine"]) fun _ _ _ _ _ _ us hl => match us, hl with | [_, _, _, _, _], _ => rfl⟩, d__law_ring_numbers := ⟨f19, _, PySem.W.mg_of X G a19, fun_mk (st := s__law_ring_numbers) l19 c19 q19, (fun_mk (st := s__law_ring_numbers) l19 c19 q19).binds (ps := ["_law_machine_here", "_law_ring", "_law_prices_here", "_law_fine"]) fun _ _ _ _ _ _ us hl => match us, hl with | [_, _, _, _], _ => rfl⟩, d_best_ring := ⟨f20, _, PySem.W.mg_of X G a20, fun_mk (st := s_best_ring) l20 c20 q20, (fun_mk (st := s_best_ring) l20 c20 q20).binds (ps := ["machine", "ring", "prices", "fine"]) fun _ _ _ _ _ _ us hl => match us, hl with | [_, _, _, _], _ => rfl⟩, d_judge_ring := ⟨f21, _, PySem.W.mg_of X G a21, fun_mk (st := s_judge_ring) l21 c21 q21, (fun_mk (st := s_judge_ring) l21 c21 q21).binds (ps := ["machine", "ring", "prices", "fine", "found"]) fun _ _ _ _ _ _ us hl => match us, hl with | [_, _, _, _, _], _ => rfl⟩, d_law := ⟨f22, _, PySem.W.mg_of X G a22, fun_mk (st := s_law) l22 c22 q22, (fun_mk (st := s_law) l22 c22 q22).binds (ps := ["_law_script"]) fun _ _ _ _ _ _ us hl => match us, hl with | [_], _ => rfl⟩, t_Machine := ⟨PySem.W.mg_of X G Machine_g, ⟨⟨Machine_pg, Machine_hd, Machine_po, Machine_sa⟩, Machine_ca, Machine_cg, Machine_ct, Machine_mr, Machine_kt⟩⟩, i_Machine := ⟨f23, _, ⟨Machine_mk, a23, i23, Machine_kc⟩, fun_mk (st := s_Machine___init__) l23 c23 q23, (fun_mk (st := s_Machine___init__) l23 c23 q23).binds (ps := ["self", "letters", "labels", "moves", "ends"]) fun _ _ _ _ _ _ us hl => match us, hl with | [_, _, _, _, _], _ => rfl⟩, t_Found := ⟨PySem.W.mg_of X G Found_g, ⟨⟨Found_pg, Found_hd, Found_po, Found_sa⟩, Found_ca, Found_cg, Found_ct, Found_mr, Found_kt⟩⟩, i_Found := ⟨f24, _, ⟨Found_mk, a24, i24, Found_kc⟩, fun_mk (st := s_Found___init__) l24 c24 q24, (fun_mk (st := s_Found___init__) l24 c24 q24).binds (ps := ["self", "kind", "cost", "labels", "numbers", "ends"]) fun _ _ _ _ _ _ us hl => match us, hl with | [_, _, _, _, _, _], _ => rfl⟩, t_Ring := ⟨PySem.W.mg_of X G Ring_g, ⟨⟨Ring_pg, Ring_hd, Ring_po, Ring_sa⟩, Ring_ca, Ring_cg, Ring_ct, Ring_mr, Ring_kt⟩⟩, i_Ring := ⟨f25, _, ⟨Ring_mk, a25, i25, Ring_kc⟩, fun_mk (st := s_Ring___init__) l25 c25 q25, (fun_mk (st := s_Ring___init__) l25 c25 q25).binds (ps := ["self", "machine", "ring", "prices", "fine"]) fun _ _ _ _ _ _ us hl => match us, hl with | [_, _, _, _, _], _ => rfl⟩, x_Ring_charge := ⟨f26, _, ⟨a26, i26, q26⟩, fun_mk (st := s_Ring_charge) l26 c26 q26, (fun_mk (st := s_Ring_charge) l26 c26 q26).binds (ps := ["self", "cost", "at", "before", "label"]) fun _ _ _ _ _ _ us hl => match us, hl with | [_, _, _, _, _], _ => rfl⟩, x_Ring_row := ⟨f27, _, ⟨a27, i27, q27⟩, fun_mk (st := s_Ring_row) l27 c27 q27, (fun_mk (st := s_Ring_row) l27 c27 q27).binds (ps := ["self", "at", "before"]) fun _ _ _ _ _ _ us hl => match us, hl with | [_, _, _], _ => rfl⟩, x_Ring_closed := ⟨f28, _, ⟨a28, i28, q28⟩, fun_mk (st := s_Ring_closed) l28 c28 q28, (fun_mk (st := s_Ring_closed) l28 c28 q28).binds (ps := ["self", "first", "last"]) fun _ _ _ _ _ _ us hl => match us, hl with | [_, _, _], _ => rfl⟩, x_Ring_rows := ⟨f29, _, ⟨a29, i29, q29⟩, fun_mk (st := s_Ring_rows) l29 c29 q29, (fun_mk (st := s_Ring_rows) l29 c29 q29).binds (ps := ["self", "first"]) fun _ _ _ _ _ _ us hl => match us, hl with | [_, _], _ => rfl⟩, n_Found_cost := n_Found_cost, n_Found_ends := n_Found_ends, n_Found_kind := n_Found_kind, n_Found_labels := n_Found_labels, n_Found_numbers := n_Found_numbers, n_Machine_ends := n_Machine_ends, n_Machine_labels := n_Machine_labels, n_Machine_letters := n_Machine_letters, n_Machine_moves := n_Machine_moves, n_Ring_fine := n_Ring_fine, n_Ring_machine := n_Ring_machine, n_Ring_moves := n_Ring_moves, n_Ring_prices := n_Ring_prices, n_Ring_ring := n_Ring_ring }
  refine ⟨PySem.W.fnOf "law" "law" (defArgs s_law) (defBody s_law) (defScope s_law) .none kV22 dc22 pm22 an22 cd22 ct22, fun s v => .of_eq rfl, fun base _ _ => ?_⟩
  exact law_of (fn_law (P := l.prog) (w := w) (base := base) T (fun_mk (st := s_law) l22 c22 q22)) plain
theorem walk {l : PySem.W.OpenLaw} {q : Program} {loose : List Str} {XP : (Str → Option Value) → Heap → Prop} {YP : World → Heap → Prop} {d : DefRec} {K : Params → PySem.W.Frag} (hn : l.most = some 63) (hdf : d.params.defaults = [])
    (hY : ∀ (w : World) (h : Heap), YP w h → (K w.params).In h)
    (F : ∀ (w : World) (mg : Str → Option Value) (fa : Addr) (h : Heap), (K w.params).In h → h.Ns mainGlobals mg → mg d.name = some (.ref fa) →
      ∃ fd : FuncData, (∀ (s : Shared) (u : Value), BindsTo s fd ⟨[u], []⟩ [("_law_script", u)]) ∧ ∀ base : Heap, (K w.params).In base → base.Ns mainGlobals mg → FnOk l.prog w (K w.params) mg base (L2.CX l.prog w) 20 fa fd ["_law_script"] (spLaw (K w.params))) :
    PySem.W.WalkO q loose XP YP l.row.toRowW d [] (fun f vs => PySem.call f vs) :=
  L2.walk_of (n := 63) (k := 20) (x := "_law_script") (CX := fun w => L2.CX l.prog w) (sp := fun w => spLaw (K w.params)) hn (by decide) hdf ⟨rfl, by decide, by decide⟩ hY F (fun _ _ a ns hl _ hS => ⟨a, ns, rfl, hl, hS, fun _ => rfl⟩) fun _ _ _ _ _ ⟨_, _, _, _, _, _, _, _, _, _, _, _, z⟩ => z
end K10
open PySem PySem.W PyProof.Rows
set_option maxRecDepth 100000 in
set_option maxHeartbeats 0 in
theorem PySem.Challenge.cw_someobjects_k30_whole_labels_for_rings_holds : PySem.Challenge.rw_someobjects_k30_whole_labels_for_rings.Holds := by
  w_on; o_law; k_head; (case hw => w_witness2)
  k_fill
  refine K10.walk (l := PySem.Challenge.rw_someobjects_k30_whole_labels_for_rings) rfl rfl (fun w h Y => PySem.W.kIn_of Y) ?F
  case F =>
    intro w mg fa h KX G hmg
    refine' K10.all_mk KX G hmg ?b_all ?b_any ?b_bool ?b_dict ?b_enumerate ?b_int ?b_isinstance ?b_len ?b_list ?b_min ?b_range ?b_set ?b_sorted ?b_str ?b_sum ?b_tuple ?k_MOST_CHILDREN ?k_MOST_LABELS ?k_MOST_LETTERS ?a1 ?l1 ?c1 ?q1 ?a2 ?l2 ?c2 ?q2 ?a3 ?l3 ?c3 ?q3 ?a4 ?l4 ?c4 ?q4 ?a5 ?l5 ?c5 ?q5 ?a6 ?l6 ?c6 ?q6 ?a7 ?l7 ?c7 ?q7 ?a8 ?l8 ?c8 ?q8 ?a9 ?l9 ?c9 ?q9 ?a10 ?l10 ?c10 ?q10 ?a11 ?l11 ?c11 ?q11 ?a12 ?l12 ?c12 ?q12 ?a13 ?l13 ?c13 ?q13 ?a14 ?l14 ?c14 ?q14 ?a15 ?l15 ?c15 ?q15 ?a16 ?l16 ?c16 ?q16 ?a17 ?l17 ?c17 ?q17 ?a18 ?l18 ?c18 ?q18 ?a19 ?l19 ?c19 ?q19 ?a20 ?l20 ?c20 ?q20 ?a21 ?l21 ?c21 ?q21 ?a22 ?l22 ?c22 ?q22 ?Machine_g ?Machine_pg ?Machine_hd ?Machine_po ?Machine_sa ?Machine_ca ?Machine_cg ?Machine_ct ?Machine_mr ?Machine_kt ?a23 ?i23 ?l23 ?c23 ?q23 ?Machine_mk ?Machine_kc ?Found_g ?Found_pg ?Found_hd ?Found_po ?Found_sa ?Found_ca ?Found_cg ?Found_ct ?Found_mr ?Found_kt ?a24 ?i24 ?l24 ?c24 ?q24 ?Found_mk ?Found_kc ?Ring_g ?Ring_pg ?Ring_hd ?Ring_po ?Ring_sa ?Ring_ca ?Ring_cg ?Ring_ct ?Ring_mr ?Ring_kt ?a25 ?i25 ?l25 ?c25 ?q25 ?Ring_mk ?Ring_kc ?a26 ?i26 ?l26 ?c26 ?q26 ?a27 ?i27 ?l27 ?c27 ?q27 ?a28 ?i28 ?l28 ?c28 ?q28 ?a29 ?i29 ?l29 ?c29 ?q29 ?n_Found_cost ?n_Found_ends ?n_Found_kind ?n_Found_labels ?n_Found_numbers ?n_Machine_ends ?n_Machine_labels ?n_Machine_letters ?n_Machine_moves ?n_Ring_fine ?n_Ring_machine ?n_Ring_moves ?n_Ring_prices ?n_Ring_ring
    (case b_all => first | k_is | rfl)
    (case b_any => first | k_is | rfl)
    (case b_bool => first | k_is | rfl)
    (case b_dict => first | k_is | rfl)
    (case b_enumerate => first | k_is | rfl)
    (case b_int => first | k_is | rfl)
    (case b_isinstance => first | k_is | rfl)
    (case b_len => first | k_is | rfl)
    (case b_list => first | k_is | rfl)
    (case b_min => first | k_is | rfl)
    (case b_range => first | k_is | rfl)
    (case b_set => first | k_is | rfl)
    (case b_sorted => first | k_is | rfl)
    (case b_str => first | k_is | rfl)
    (case b_sum => first | k_is | rfl)
    (case b_tuple => first | k_is | rfl)
    (case k_MOST_CHILDREN => first | k_is | rfl)
    (case k_MOST_LABELS => first | k_is | rfl)
    (case k_MOST_LETTERS => first | k_is | rfl)
    (case a1 => first | k_is | rfl)
    (case l1 => first | k_is | rfl)
    (case c1 => first | k_is | rfl)
    (case q1 => first | k_is | rfl)
    (case a2 => first | k_is | rfl)
    (case l2 => first | k_is | rfl)
    (case c2 => first | k_is | rfl)
    (case q2 => first | k_is | rfl)
    (case a3 => first | k_is | rfl)
    (case l3 => first | k_is | rfl)
    (case c3 => first | k_is | rfl)
    (case q3 => first | k_is | rfl)
    (case a4 => first | k_is | rfl)
    (case l4 => first | k_is | rfl)
    (case c4 => first | k_is | rfl)
    (case q4 => first | k_is | rfl)
    (case a5 => first | k_is | rfl)
    (case l5 => first | k_is | rfl)
    (case c5 => first | k_is | rfl)
    (case q5 => first | k_is | rfl)
    (case a6 => first | k_is | rfl)
    (case l6 => first | k_is | rfl)
    (case c6 => first | k_is | rfl)
    (case q6 => first | k_is | rfl)
    (case a7 => first | k_is | rfl)
    (case l7 => first | k_is | rfl)
    (case c7 => first | k_is | rfl)
    (case q7 => first | k_is | rfl)
    (case a8 => first | k_is | rfl)
    (case l8 => first | k_is | rfl)
    (case c8 => first | k_is | rfl)
    (case q8 => first | k_is | rfl)
    (case a9 => first | k_is | rfl)
    (case l9 => first | k_is | rfl)
    (case c9 => first | k_is | rfl)
    (case q9 => first | k_is | rfl)
    (case a10 => first | k_is | rfl)
    (case l10 => first | k_is | rfl)
    (case c10 => first | k_is | rfl)
    (case q10 => first | k_is | rfl)
    (case a11 => first | k_is | rfl)
    (case l11 => first | k_is | rfl)
    (case c11 => first | k_is | rfl)
    (case q11 => first | k_is | rfl)
    (case a12 => first | k_is | rfl)
    (case l12 => first | k_is | rfl)
    (case c12 => first | k_is | rfl)
    (case q12 => first | k_is | rfl)
    (case a13 => first | k_is | rfl)
    (case l13 => first | k_is | rfl)
    (case c13 => first | k_is | rfl)
    (case q13 => first | k_is | rfl)
    (case a14 => first | k_is | rfl)
    (case l14 => first | k_is | rfl)
    (case c14 => first | k_is | rfl)
    (case q14 => first | k_is | rfl)
    (case a15 => first | k_is | rfl)
    (case l15 => first | k_is | rfl)
    (case c15 => first | k_is | rfl)
    (case q15 => first | k_is | rfl)
    (case a16 => first | k_is | rfl)
    (case l16 => first | k_is | rfl)
    (case c16 => first | k_is | rfl)
    (case q16 => first | k_is | rfl)
    (case a17 => first | k_is | rfl)
    (case l17 => first | k_is | rfl)
    (case c17 => first | k_is | rfl)
    (case q17 => first | k_is | rfl)
    (case a18 => first | k_is | rfl)
    (case l18 => first | k_is | rfl)
    (case c18 => first | k_is | rfl)
    (case q18 => first | k_is | rfl)
    (case a19 => first | k_is | rfl)
    (case l19 => first | k_is | rfl)
    (case c19 => first | k_is | rfl)
    (case q19 => first | k_is | rfl)
    (case a20 => first | k_is | rfl)
    (case l20 => first | k_is | rfl)
    (case c20 => first | k_is | rfl)
    (case q20 => first | k_is | rfl)
    (case a21 => first | k_is | rfl)
    (case l21 => first | k_is | rfl)
    (case c21 => first | k_is | rfl)
    (case q21 => first | k_is | rfl)
    (case a22 => first | k_is | rfl)
    (case l22 => first | k_is | rfl)
    (case c22 => first | k_is | rfl)
    (case q22 => first | k_is | rfl)
    (case Machine_g => first | k_is | rfl)
    (case Machine_pg => first | k_is | rfl)
    (case Machine_hd => first | k_is | rfl)
    (case Machine_po => first | k_is | rfl)
    (case Machine_sa => first | k_is | rfl)
    (case Machine_ca => first | k_is | rfl)
    (case Machine_cg => first | k_is | rfl)
    (case Machine_ct => first | k_is | rfl)
    (case Machine_mr => first | k_is | rfl)
    (case Machine_kt => first | k_is | rfl)
    (case a23 => first | k_is | rfl)
    (case i23 => first | k_is | rfl)
    (case l23 => first | k_is | rfl)
    (case c23 => first | k_is | rfl)
    (case q23 => first | k_is | rfl)
    (case Machine_mk => first | k_is | rfl)
    (case Machine_kc => first | k_is | rfl)
    (case Found_g => first | k_is | rfl)
    (case Found_pg => first | k_is | rfl)
    (case Found_hd => first | k_is | rfl)
    (case Found_po => first | k_is | rfl)
    (case Found_sa => first | k_is | rfl)
    (case Found_ca => first | k_is | rfl)
    (case Found_cg => first | k_is | rfl)
    (case Found_ct => first | k_is | rfl)
    (case Found_mr => first | k_is | rfl)
    (case Found_kt => first | k_is | rfl)
    (case a24 => first | k_is | rfl)
    (case i24 => first | k_is | rfl)
    (case l24 => first | k_is | rfl)
    (case c24 => first | k_is | rfl)
    (case q24 => first | k_is | rfl)
    (case Found_mk => first | k_is | rfl)
    (case Found_kc => first | k_is | rfl)
    (case Ring_g => first | k_is | rfl)
    (case Ring_pg => first | k_is | rfl)
    (case Ring_hd => first | k_is | rfl)
    (case Ring_po => first | k_is | rfl)
    (case Ring_sa => first | k_is | rfl)
    (case Ring_ca => first | k_is | rfl)
    (case Ring_cg => first | k_is | rfl)
    (case Ring_ct => first | k_is | rfl)
    (case Ring_mr => first | k_is | rfl)
    (case Ring_kt => first | k_is | rfl)
    (case a25 => first | k_is | rfl)
    (case i25 => first | k_is | rfl)
    (case l25 => first | k_is | rfl)
    (case c25 => first | k_is | rfl)
    (case q25 => first | k_is | rfl)
    (case Ring_mk => first | k_is | rfl)
    (case Ring_kc => first | k_is | rfl)
    (case a26 => first | k_is | rfl)
    (case i26 => first | k_is | rfl)
    (case l26 => first | k_is | rfl)
    (case c26 => first | k_is | rfl)
    (case q26 => first | k_is | rfl)
    (case a27 => first | k_is | rfl)
    (case i27 => first | k_is | rfl)
    (case l27 => first | k_is | rfl)
    (case c27 => first | k_is | rfl)
    (case q27 => first | k_is | rfl)
    (case a28 => first | k_is | rfl)
    (case i28 => first | k_is | rfl)
    (case l28 => first | k_is | rfl)
    (case c28 => first | k_is | rfl)
    (case q28 => first | k_is | rfl)
    (case a29 => first | k_is | rfl)
    (case i29 => first | k_is | rfl)
    (case l29 => first | k_is | rfl)
    (case c29 => first | k_is | rfl)
    (case q29 => first | k_is | rfl)
    (case n_Found_cost => first | k_is | rfl)
    (case n_Found_ends => first | k_is | rfl)
    (case n_Found_kind => first | k_is | rfl)
    (case n_Found_labels => first | k_is | rfl)
    (case n_Found_numbers => first | k_is | rfl)
    (case n_Machine_ends => first | k_is | rfl)
    (case n_Machine_labels => first | k_is | rfl)
    (case n_Machine_letters => first | k_is | rfl)
    (case n_Machine_moves => first | k_is | rfl)
    (case n_Ring_fine => first | k_is | rfl)
    (case n_Ring_machine => first | k_is | rfl)
    (case n_Ring_moves => first | k_is | rfl)
    (case n_Ring_prices => first | k_is | rfl)
    (case n_Ring_ring => first | k_is | rfl)
#print axioms PySem.Challenge.cw_someobjects_k30_whole_labels_for_rings_holds

