import PyProof.Rows.All
import Wide.All
import OpenK.AllK
import Wide.FinOn
import HandS.ForMost
import HandS.ForExc
import HandS.CallSlots
import HandS.IsInst
import HandS.TupAny
import HandS.Style
import HandS.Deep
import HandS.SetKeys
import HandS.Rev
import PySem.Challenge.RW_foldsame_k50_partitions
set_option Elab.async false
set_option linter.all false
set_option maxRecDepth 100000
section
/-! Z, base: Python values as data with a heap of numbered objects; what a piece of syntax does, said by a plain function. -/
namespace Z
open PySem L2

inductive EV where
  | non | bl (b : Bool) | int (i : Int) | str (s : Str) | tup (xs : List EV) | rl (xs : List EV) | ref (n : Nat)
inductive EO where
  | lst (xs : List EV)
  | dK (kvs : List (Key × EV))
  | dT (kvs : List (List Key × EV))
  /-- a dict that a loop walks -/
  | dF (kvs : List (Key × EV))
  | ins (c : Nat) (fs : List (Str × EV))
def EO.isF : EO → Bool
  | .dF _ => true
  | _ => false
abbrev EH := List EO
inductive R (α : Type) where
  | ok (a : α) (h : EH)
  | exc (c : Nat) (fs : List (Str × EV)) (h : EH)
  | stuck
abbrev M (α : Type) := EH → R α
def R.bind {α β : Type} (r : R α) (g : α → EH → R β) : R β := match r with
  | .ok a h => g a h
  | .exc c fs h => .exc c fs h
  | .stuck => .stuck
abbrev ES := List (Option EV)
inductive FL where
  | nx (σ : ES) (h : EH) | rt (v : EV) (h : EH) | bk (σ : ES) (h : EH) | ct (σ : ES) (h : EH)
  | exc (c : Nat) (fs : List (Str × EV)) (σ : ES) (h : EH) | stuck
def FL.seq (r : FL) (g : ES → EH → FL) : FL := match r with
  | .nx σ h => g σ h
  | .rt v h => .rt v h
  | .bk σ h => .bk σ h
  | .ct σ h => .ct σ h
  | .exc c fs σ h => .exc c fs σ h
  | .stuck => .stuck
def R.lift {α : Type} (o : Option (α × EH)) : R α := match o with
  | some (a, h) => .ok a h
  | none => .stuck
/-- an expression's outcome inside a statement -/
def R.fl {α : Type} (r : R α) (σ : ES) (g : α → EH → FL) : FL := match r with
  | .ok a h => g a h
  | .exc c fs h => .exc c fs σ h
  | .stuck => .stuck

/-! ### representation -/
structure Wd where
  K : PySem.W.Frag
  CA : Nat → Addr
/-- a list that nothing changes -/
def RoL (K : PySem.W.Frag) (H : Hp) (a : Addr) (vs : List V) : Prop :=
  (∃ o, H a = some (.frz o (.lst vs))) ∨
    ∃ (o : Obj) (its : Array Value) (n : Nat), K.lookup a = some o ∧ o.cls = .type "list" ∧ o.dict = none ∧ o.data = .seq its n ∧ its.size ≤ sizeLine ∧ Vals vs its.toList
theorem RoL.sq {K : PySem.W.Frag} {H : Hp} {a : Addr} {vs : List V} (h : RoL K H a vs) : SqL K H a vs := by
  rcases h with ⟨o, h⟩ | h
  · exact .inl (.inr ⟨o, h⟩)
  · exact .inr h
mutual
inductive Rep (K : PySem.W.Frag) (ρ : List Addr) (H : Hp) : EV → V → Prop
  | non : Rep K ρ H .non .non
  | bl (b : Bool) : Rep K ρ H (.bl b) (.bl b)
  | int (i : Int) : Rep K ρ H (.int i) (.int i)
  | str (s : Str) : Rep K ρ H (.str s) (.str s)
  | tup {a : Addr} {vs : List V} {xs : List EV} : SqT K H a vs → RepL K ρ H xs vs → Rep K ρ H (.tup xs) (.ref a)
  | rl {a : Addr} {vs : List V} {xs : List EV} : RoL K H a vs → RepL K ρ H xs vs → Rep K ρ H (.rl xs) (.ref a)
  | ref {n : Nat} {a : Addr} : ρ[n]? = some a → Rep K ρ H (.ref n) (.ref a)
inductive RepL (K : PySem.W.Frag) (ρ : List Addr) (H : Hp) : List EV → List V → Prop
  | nil : RepL K ρ H [] []
  | cons {x : EV} {v : V} {xs : List EV} {vs : List V} : Rep K ρ H x v → RepL K ρ H xs vs → RepL K ρ H (x :: xs) (v :: vs)
end
/-- pairs with equal keys -/
inductive RepP {κ : Type} (K : PySem.W.Frag) (ρ : List Addr) (H : Hp) : List (κ × EV) → List (κ × V) → Prop
  | nil : RepP K ρ H [] []
  | cons {k : κ} {x : EV} {v : V} {xs : List (κ × EV)} {vs : List (κ × V)} : Rep K ρ H x v → RepP K ρ H xs vs → RepP K ρ H ((k, x) :: xs) ((k, v) :: vs)
def ORep (G : Wd) (ρ : List Addr) (H : Hp) (a : Addr) : EO → Prop
  | .lst xs => ∃ vs, H a = some (.lst vs) ∧ RepL G.K ρ H xs vs
  | .dK kvs => ∃ ws, H a = some (.dK ws) ∧ RepP G.K ρ H kvs ws
  | .dT kvs => ∃ ws, H a = some (.dT ws) ∧ RepP G.K ρ H kvs ws
  | .dF kvs => ∃ o ws, H a = some (.frz o (.dK ws)) ∧ RepP G.K ρ H kvs ws
  | .ins c fs => ∃ dx gs, H a = some (.ins (G.CA c) dx gs) ∧ RepP G.K ρ H fs gs
structure Rel (G : Wd) (ρ : List Addr) (h : EH) (H : Hp) : Prop where
  len : ρ.length = h.length
  nd : ρ.Nodup
  obj : ∀ (n : Nat) (a : Addr) (o : EO), ρ[n]? = some a → h[n]? = some o → ORep G ρ H a o
def seqHO : HO → Bool
  | .lst _ => true
  | .tup _ => true
  | _ => false
/-- what was said of values stays true -/
structure Mo (ρ : List Addr) (H : Hp) (ρ' : List Addr) (H' : Hp) : Prop where
  pre : ∃ t, ρ' = ρ ++ t
  tup : ∀ a vs, H a = some (.tup vs) → H' a = some (.tup vs)
  frz : ∀ a o u, seqHO u = true → H a = some (.frz o u) → H' a = some (.frz o u)
/-- a part of the run: our objects may turn, new ones may come, all else stays -/
structure Ext (ρ : List Addr) (H : Hp) (ρ' : List Addr) (H' : Hp) : Prop extends Mo ρ H ρ' H' where
  lck : ∀ a o u, H a = some (.frz o u) → H' a = some (.frz o u)
  oth : ∀ a u, a ∉ ρ → H a = some u → H' a = some u
  dom : ∀ a, H' a = none → H a = none
  new : ∀ a, a ∈ ρ' → a ∈ ρ ∨ H a = none
structure SR (K : PySem.W.Frag) (ρ : List Addr) (H : Hp) (σ : ES) (τ : L2.St) : Prop where
  len : σ.length = τ.length
  at' : ∀ (i : Nat) v, σ[i]? = some (some v) → ∃ x, τ[i]? = some (some x) ∧ Rep K ρ H v x
/-- an exception's own dict -/
def ExAt (K : PySem.W.Frag) (ρ : List Addr) (H : Hp) (d : Addr) (fs : List (Str × EV)) : Prop := ∃ gs, H d = some (.xd gs) ∧ RepP K ρ H fs gs

section
variable {K : PySem.W.Frag} {G : Wd} {ρ ρ' ρ'' : List Addr} {H H' H'' : Hp} {h : EH} {σ : ES} {τ : L2.St}
theorem Mo.refl : Mo ρ H ρ H := ⟨⟨[], by simp⟩, fun _ _ h => h, fun _ _ _ _ h => h⟩
theorem Ext.refl : Ext ρ H ρ H := ⟨Mo.refl, fun _ _ _ h => h, fun _ _ _ h => h, fun _ h => h, fun _ h => .inl h⟩
theorem Ext.trans (a : Ext ρ H ρ' H') (b : Ext ρ' H' ρ'' H'') : Ext ρ H ρ'' H'' := by
  obtain ⟨t, e⟩ := a.pre
  obtain ⟨u, e'⟩ := b.pre
  refine ⟨⟨⟨t ++ u, by rw [e', e, List.append_assoc]⟩, fun x vs h => b.tup _ _ (a.tup _ _ h), fun x o u z h => b.frz _ _ _ z (a.frz _ _ _ z h)⟩, fun x o u h => b.lck _ _ _ (a.lck _ _ _ h), fun x w n h => ?_, fun x h => a.dom x (b.dom x h), fun x m => ?_⟩
  · refine b.oth x w (fun m => ?_) (a.oth x w n h)
    rcases a.new x m with q | q
    · exact n q
    · rw [h] at q; cases q
  · rcases b.new x m with q | q
    · exact a.new x q
    · exact .inr (a.dom x q)
theorem Mo.get (e : Mo ρ H ρ' H') {n : Nat} {a : Addr} (h : ρ[n]? = some a) : ρ'[n]? = some a := by
  obtain ⟨t, e⟩ := e.pre
  rw [e]
  have := (List.getElem?_eq_some_iff.mp h).1
  rw [List.getElem?_append_left this]; exact h
theorem Mo.sqT (e : Mo ρ H ρ' H') {a : Addr} {vs : List V} (h : SqT K H a vs) : SqT K H' a vs := by
  rcases h with (h | ⟨o, h⟩) | h
  · exact .inl (.inl (e.tup _ _ h))
  · exact .inl (.inr ⟨o, e.frz _ _ _ rfl h⟩)
  · exact .inr h
theorem Mo.roL (e : Mo ρ H ρ' H') {a : Addr} {vs : List V} (h : RoL K H a vs) : RoL K H' a vs := by
  rcases h with ⟨o, h⟩ | h
  · exact .inl ⟨o, e.frz _ _ _ rfl h⟩
  · exact .inr h
mutual
theorem Rep.mono (e : Mo ρ H ρ' H') : ∀ {x : EV} {v : V}, Rep K ρ H x v → Rep K ρ' H' x v
  | _, _, .non => .non
  | _, _, .bl b => .bl b
  | _, _, .int i => .int i
  | _, _, .str s => .str s
  | _, _, .tup q r => .tup (e.sqT q) (RepL.mono e r)
  | _, _, .rl q r => .rl (e.roL q) (RepL.mono e r)
  | _, _, .ref q => .ref (e.get q)
theorem RepL.mono (e : Mo ρ H ρ' H') : ∀ {xs : List EV} {vs : List V}, RepL K ρ H xs vs → RepL K ρ' H' xs vs
  | _, _, .nil => .nil
  | _, _, .cons a b => .cons (Rep.mono e a) (RepL.mono e b)
end
theorem RepP.mono {κ : Type} (e : Mo ρ H ρ' H') : ∀ {xs : List (κ × EV)} {vs : List (κ × V)}, RepP K ρ H xs vs → RepP K ρ' H' xs vs
  | _, _, .nil => .nil
  | _, _, .cons a b => .cons (Rep.mono e a) (RepP.mono e b)
theorem SR.mono (e : Mo ρ H ρ' H') (s : SR K ρ H σ τ) : SR K ρ' H' σ τ := ⟨s.len, fun i v q => let ⟨x, a, b⟩ := s.at' i v q; ⟨x, a, b.mono e⟩⟩
theorem SR.set (s : SR K ρ H σ τ) {i : Nat} {v : EV} {x : V} (r : Rep K ρ H v x) : SR K ρ H (σ.set i (some v)) (τ.set i (some x)) := by
  refine ⟨by simp [s.len], fun j w q => ?_⟩
  by_cases e : i = j
  · subst e
    have hl : i < σ.length := by
      have := (List.getElem?_eq_some_iff.mp q).1
      simpa using this
    rw [List.getElem?_set_self hl] at q
    cases q
    exact ⟨x, by rw [List.getElem?_set_self (by rw [← s.len]; exact hl)], r⟩
  · rw [List.getElem?_set_ne e] at q
    rw [List.getElem?_set_ne e]
    exact s.at' j w q
theorem SR.clear (s : SR K ρ H σ τ) {i : Nat} {o : Option V} : SR K ρ H (σ.set i none) (τ.set i o) := by
  refine ⟨by simp [s.len], fun j w q => ?_⟩
  by_cases e : i = j
  · subst e
    have hl : i < σ.length := by
      have := (List.getElem?_eq_some_iff.mp q).1
      simpa using this
    rw [List.getElem?_set_self hl] at q
    cases q
  · rw [List.getElem?_set_ne e] at q
    rw [List.getElem?_set_ne e]
    exact s.at' j w q
theorem RepL.length : ∀ {xs : List EV} {vs : List V}, RepL K ρ H xs vs → xs.length = vs.length
  | _, _, .nil => rfl
  | _, _, .cons _ b => by simp [RepL.length b]
theorem RepL.get : ∀ {xs : List EV} {vs : List V} {i : Nat} {x : EV}, RepL K ρ H xs vs → xs[i]? = some x → ∃ v, vs[i]? = some v ∧ Rep K ρ H x v
  | _, _, _, _, .nil, e => by simp at e
  | _, _, 0, _, .cons a b, e => by simp at e; subst e; exact ⟨_, rfl, a⟩
  | _, _, i + 1, x, .cons a b, e => by
    obtain ⟨v, h1, h2⟩ := RepL.get (i := i) (x := x) b (by simpa using e)
    exact ⟨v, by simpa using h1, h2⟩
theorem RepL.append : ∀ {xs ys : List EV} {vs ws : List V}, RepL K ρ H xs vs → RepL K ρ H ys ws → RepL K ρ H (xs ++ ys) (vs ++ ws)
  | _, _, _, _, .nil, s => s
  | _, _, _, _, .cons r t, s => .cons r (RepL.append t s)
theorem RepL.take : ∀ {xs : List EV} {vs : List V} (n : Nat), RepL K ρ H xs vs → RepL K ρ H (xs.take n) (vs.take n)
  | _, _, 0, _ => .nil
  | _, _, _ + 1, .nil => .nil
  | _, _, n + 1, .cons r t => .cons r (RepL.take n t)
theorem RepL.drop : ∀ {xs : List EV} {vs : List V} (n : Nat), RepL K ρ H xs vs → RepL K ρ H (xs.drop n) (vs.drop n)
  | _, _, 0, r => r
  | _, _, _ + 1, .nil => .nil
  | _, _, n + 1, .cons _ t => RepL.drop n t
theorem RepL.set {x : EV} {v : V} (r : Rep K ρ H x v) : ∀ {xs : List EV} {vs : List V} (i : Nat), RepL K ρ H xs vs → RepL K ρ H (xs.set i x) (vs.set i v)
  | _, _, _, .nil => .nil
  | _, _, 0, .cons _ t => .cons r t
  | _, _, i + 1, .cons q t => .cons q (RepL.set r i t)
theorem RepL.reverse {xs : List EV} {vs : List V} (r : RepL K ρ H xs vs) : RepL K ρ H xs.reverse vs.reverse := by
  induction xs generalizing vs with
  | nil => cases r; exact .nil
  | cons x xs ih =>
    cases r with
    | cons a b =>
      rw [List.reverse_cons, List.reverse_cons]
      exact (ih b).append (.cons a .nil)

theorem ORep.is {a : Addr} {o : EO} (r : ORep G ρ H a o) : ∃ u, H a = some u := by
  cases o with
  | lst xs => obtain ⟨vs, e, _⟩ := r; exact ⟨_, e⟩
  | dK xs => obtain ⟨vs, e, _⟩ := r; exact ⟨_, e⟩
  | dT xs => obtain ⟨vs, e, _⟩ := r; exact ⟨_, e⟩
  | dF xs => obtain ⟨o, vs, e, _⟩ := r; exact ⟨_, e⟩
  | ins c xs => obtain ⟨dx, vs, e, _⟩ := r; exact ⟨_, e⟩
theorem Rel.at (R : Rel G ρ h H) {n : Nat} {o : EO} (e : h[n]? = some o) : ∃ a, ρ[n]? = some a ∧ ORep G ρ H a o := by
  have hl := (List.getElem?_eq_some_iff.mp e).1
  have : n < ρ.length := by rw [R.len]; exact hl
  exact ⟨ρ[n], List.getElem?_eq_getElem this, R.obj n _ o (List.getElem?_eq_getElem this) e⟩
theorem Rel.known (R : Rel G ρ h H) {a : Addr} (m : a ∈ ρ) : ∃ (n : Nat) (o : EO), ρ[n]? = some a ∧ h[n]? = some o ∧ ORep G ρ H a o := by
  obtain ⟨n, hn, e⟩ := List.mem_iff_getElem.mp m
  have : n < h.length := by rw [← R.len]; exact hn
  exact ⟨n, h[n], by rw [List.getElem?_eq_getElem hn, e], List.getElem?_eq_getElem this, R.obj n a _ (by rw [List.getElem?_eq_getElem hn, e]) (List.getElem?_eq_getElem this)⟩
theorem Rel.fresh (R : Rel G ρ h H) {p : Addr} (e : H p = none) : p ∉ ρ := fun m => by
  obtain ⟨_, _, _, _, r⟩ := R.known m
  obtain ⟨u, q⟩ := r.is
  rw [e] at q; cases q
/-- an object's description where its own content and all tuples stay -/
theorem ORep.move {a : Addr} {o : EO} (e : Mo ρ H ρ' H') (k : ∀ u, H a = some u → H' a = some u) (r : ORep G ρ H a o) : ORep G ρ' H' a o := by
  cases o with
  | lst xs => obtain ⟨vs, q, r⟩ := r; exact ⟨vs, k _ q, r.mono e⟩
  | dK xs => obtain ⟨vs, q, r⟩ := r; exact ⟨vs, k _ q, r.mono e⟩
  | dT xs => obtain ⟨vs, q, r⟩ := r; exact ⟨vs, k _ q, r.mono e⟩
  | dF xs => obtain ⟨o, vs, q, r⟩ := r; exact ⟨o, vs, k _ q, r.mono e⟩
  | ins c xs => obtain ⟨dx, vs, q, r⟩ := r; exact ⟨dx, vs, k _ q, r.mono e⟩
theorem upd_dom {p : Addr} {u : HO} (a : Addr) (q : upd H p u a = none) : H a = none := by
  by_cases z : a = p
  · subst z; rw [upd_same] at q; cases q
  · rw [upd_ne z] at q; exact q
theorem Ext.laid {p : Addr} {u : HO} (e : H p = none) : Ext ρ H (ρ ++ [p]) (upd H p u) :=
  ⟨⟨⟨[p], rfl⟩, fun a vs q => by rw [upd_ne (ne_of_none q e)]; exact q, fun a o w _ q => by rw [upd_ne (ne_of_none q e)]; exact q⟩, fun a o w q => by rw [upd_ne (ne_of_none q e)]; exact q, fun a w _ q => by rw [upd_ne (ne_of_none q e)]; exact q, upd_dom,
    fun a m => by
      rcases List.mem_append.mp m with q | q
      · exact .inl q
      · have : a = p := by simpa using q
        subst this; exact .inr e⟩
theorem Ext.laid0 {p : Addr} {u : HO} (e : H p = none) : Ext ρ H ρ (upd H p u) :=
  ⟨⟨⟨[], by simp⟩, fun a vs q => by rw [upd_ne (ne_of_none q e)]; exact q, fun a o w _ q => by rw [upd_ne (ne_of_none q e)]; exact q⟩, fun a o w q => by rw [upd_ne (ne_of_none q e)]; exact q, fun a w _ q => by rw [upd_ne (ne_of_none q e)]; exact q, upd_dom, fun a m => .inl m⟩
/-- a new thing that is no object of ours (a tuple) -/
theorem Rel.aside (R : Rel G ρ h H) {p : Addr} {u : HO} (e : H p = none) : Rel G ρ h (upd H p u) :=
  ⟨R.len, R.nd, fun n a o q r => (R.obj n a o q r).move (Ext.laid0 e).toMo fun w z => by rw [upd_ne (ne_of_none z e)]; exact z⟩
/-- a new object -/
theorem Rel.alloc (R : Rel G ρ h H) {p : Addr} {u : HO} {o : EO} (e : H p = none) (r : ORep G (ρ ++ [p]) (upd H p u) p o) : Rel G (ρ ++ [p]) (h ++ [o]) (upd H p u) := by
  have nf := R.fresh e
  refine ⟨by simp [R.len], ?_, fun n a o' q q' => ?_⟩
  · rw [List.nodup_append]
    refine ⟨R.nd, by simp, fun a ha b hb z => ?_⟩
    have : b = p := by simpa using hb
    subst this; subst z; exact nf ha
  · by_cases hn : n < ρ.length
    · rw [List.getElem?_append_left hn] at q
      rw [List.getElem?_append_left (by rw [← R.len]; exact hn)] at q'
      exact (R.obj n a o' q q').move (Ext.laid e).toMo fun w z => by rw [upd_ne (ne_of_none z e)]; exact z
    · have h1 : ρ.length ≤ n := by omega
      rw [List.getElem?_append_right h1] at q
      rw [List.getElem?_append_right (by rw [← R.len]; exact h1)] at q'
      rw [R.len] at q
      have hn0 : n - h.length = 0 := by
        have := (List.getElem?_eq_some_iff.mp q').1
        simp at this; omega
      rw [hn0] at q q'
      simp at q q'
      subst q; subst q'
      exact r
theorem imm_ne {a b : Addr} {o : EO} {vs : List V} (r : ORep G ρ H a o) (q : H b = some (.tup vs)) : b ≠ a := by
  rintro rfl
  cases o with
  | lst xs => obtain ⟨vs, e, _⟩ := r; rw [q] at e; cases e
  | dK xs => obtain ⟨vs, e, _⟩ := r; rw [q] at e; cases e
  | dT xs => obtain ⟨vs, e, _⟩ := r; rw [q] at e; cases e
  | dF xs => obtain ⟨o, vs, e, _⟩ := r; rw [q] at e; cases e
  | ins c xs => obtain ⟨dx, vs, e, _⟩ := r; rw [q] at e; cases e
theorem frz_ne {a b : Addr} {o : EO} {ob : Obj} {w : HO} (hf : o.isF = false) (r : ORep G ρ H a o) (q : H b = some (.frz ob w)) : b ≠ a := by
  rintro rfl
  cases o with
  | lst xs => obtain ⟨vs, e, _⟩ := r; rw [q] at e; cases e
  | dK xs => obtain ⟨vs, e, _⟩ := r; rw [q] at e; cases e
  | dT xs => obtain ⟨vs, e, _⟩ := r; rw [q] at e; cases e
  | dF xs => cases hf
  | ins c xs => obtain ⟨dx, vs, e, _⟩ := r; rw [q] at e; cases e
/-- one object of ours is written -/
theorem Ext.write {n : Nat} {a : Addr} {o : EO} {u : HO} (ha : ρ[n]? = some a) (r : ORep G ρ H a o) (hf : o.isF = false) : Ext ρ H ρ (upd H a u) :=
  ⟨⟨⟨[], by simp⟩, fun b vs q => by rw [upd_ne (imm_ne r q)]; exact q, fun b ob w _ q => by rw [upd_ne (frz_ne hf r q)]; exact q⟩, fun b ob w q => by rw [upd_ne (frz_ne hf r q)]; exact q,
    fun b w m q => by
      rw [upd_ne (fun z => m (by rw [z]; exact List.mem_of_getElem? ha))]; exact q, upd_dom, fun b m => .inl m⟩
/-- a thing that is no object of ours is written (a list that is being made) -/
theorem Ext.aside {a : Addr} {vs : List V} {u : HO} {H₀ : Hp} (e : Ext ρ H₀ ρ' H) (n : H₀ a = none) : Ext ρ H₀ ρ' (upd H a u) :=
  ⟨⟨e.pre, fun b ws q => by
      rw [upd_ne (ne_of_none q n)]; exact e.tup b ws q, fun b ob w z q => by
      rw [upd_ne (ne_of_none q n)]; exact e.frz b ob w z q⟩, fun b ob w q => by
      rw [upd_ne (ne_of_none q n)]; exact e.lck b ob w q, fun b w m q => by
      rw [upd_ne (ne_of_none q n)]; exact e.oth b w m q, fun b q => e.dom b (upd_dom b q), e.new⟩
/-- .. and what is said of values stays -/
theorem Mo.beside {a : Addr} {vs : List V} {u : HO} (l : H a = some (.lst vs)) : Mo ρ H ρ (upd H a u) :=
  ⟨⟨[], by simp⟩, fun b ws q => by rw [upd_ne (fun z => by subst z; rw [l] at q; cases q)]; exact q, fun b o w _ q => by rw [upd_ne (fun z => by subst z; rw [l] at q; cases q)]; exact q⟩
theorem Rel.beside (R : Rel G ρ h H) {a : Addr} {vs : List V} {u : HO} (m : a ∉ ρ) (l : H a = some (.lst vs)) : Rel G ρ h (upd H a u) :=
  ⟨R.len, R.nd, fun n b o q r => (R.obj n b o q r).move (Mo.beside l) fun w z => by rw [upd_ne (fun e => m (by rw [← e]; exact List.mem_of_getElem? q))]; exact z⟩
/-- a made list becomes an object of ours -/
theorem Mo.more (t : List Addr) : Mo ρ H (ρ ++ t) H := ⟨⟨t, rfl⟩, fun _ _ h => h, fun _ _ _ _ h => h⟩
theorem Ext.adopt {H₀ : Hp} {p : Addr} (e : Ext ρ H₀ ρ' H) (n : H₀ p = none) : Ext ρ H₀ (ρ' ++ [p]) H := by
  obtain ⟨t, q⟩ := e.pre
  refine ⟨⟨⟨t ++ [p], by rw [q, List.append_assoc]⟩, e.tup, e.frz⟩, e.lck, e.oth, e.dom, fun a m => ?_⟩
  rcases List.mem_append.mp m with z | z
  · exact e.new a z
  · have : a = p := by simpa using z
    subst this; exact .inr n
theorem Rel.adopt (R : Rel G ρ h H) {p : Addr} {vs : List V} {xs : List EV} (m : p ∉ ρ) (l : H p = some (.lst vs)) (r : RepL G.K ρ H xs vs) : Rel G (ρ ++ [p]) (h ++ [.lst xs]) H := by
  refine ⟨by simp [R.len], ?_, fun n a o' q q' => ?_⟩
  · rw [List.nodup_append]
    refine ⟨R.nd, by simp, fun a ha b hb z => ?_⟩
    have : b = p := by simpa using hb
    subst this; subst z; exact m ha
  · by_cases hn : n < ρ.length
    · rw [List.getElem?_append_left hn] at q
      rw [List.getElem?_append_left (by rw [← R.len]; exact hn)] at q'
      exact (R.obj n a o' q q').move (Mo.more [p]) fun w z => z
    · have h1 : ρ.length ≤ n := by omega
      rw [List.getElem?_append_right h1] at q
      rw [List.getElem?_append_right (by rw [← R.len]; exact h1)] at q'
      rw [R.len] at q
      have hn0 : n - h.length = 0 := by
        have := (List.getElem?_eq_some_iff.mp q').1
        simp at this; omega
      rw [hn0] at q q'
      simp at q q'
      subst q; subst q'
      exact ⟨vs, l, r.mono (Mo.more [p])⟩
theorem Rel.write (R : Rel G ρ h H) {n : Nat} {a : Addr} {o o' : EO} {u : HO} (ha : ρ[n]? = some a) (ho : h[n]? = some o) (r : ORep G ρ (upd H a u) a o') (hf : o.isF = false) : Rel G ρ (h.set n o') (upd H a u) := by
  have r0 := R.obj n a o ha ho
  refine ⟨by simp [R.len], R.nd, fun m b w q q' => ?_⟩
  by_cases e : n = m
  · subst e
    rw [ha] at q; cases q
    rw [List.getElem?_set_self (List.getElem?_eq_some_iff.mp ho).1] at q'
    cases q'
    exact r
  · rw [List.getElem?_set_ne e] at q'
    have nb : b ≠ a := fun z => by
      subst z
      obtain ⟨h1, e1⟩ := List.getElem?_eq_some_iff.mp ha
      obtain ⟨h2, e2⟩ := List.getElem?_eq_some_iff.mp q
      exact e ((List.getElem_inj R.nd).mp (e1.trans e2.symm))
    exact (R.obj m b w q q').move (Ext.write ha r0 hf).toMo fun v z => by rw [upd_ne nb]; exact z
end

/-! ### the wishes themselves as readings -/
section
variable {X : Cx}
def wE (X : Cx) (e : Expr) : TE := fun σ H Q => ∀ pins s, Inv X pins σ H s → wpAny (model X.prog X.w) X.A (eval e X.env) (EP X pins σ Q) X.xe s
theorem wE.pe {e : Expr} : PE X e (wE X e) := ⟨fun pins s _ _ _ I h => h pins s I⟩
theorem wE.of {e : Expr} {t : TE} {σ : L2.St} {H : Hp} {Q : VK} (p : PE X e t) (h : t σ H Q) : wE X e σ H Q := fun pins s I => p.run pins s σ H Q I h
def wT (X : Cx) (e : Expr) : TT := fun σ H Q => ∀ pins s, Inv X pins σ H s → wpAny (model X.prog X.w) X.A (isTrue e X.env (eval e X.env)) (TP X pins σ Q) X.xe s
theorem wT.pt {e : Expr} : PT X e (wT X e) := ⟨fun pins s _ _ _ I h => h pins s I⟩
theorem wT.of {e : Expr} {t : TT} {σ : L2.St} {H : Hp} {Q : Bool → Hp → Prop} (p : PT X e t) (h : t σ H Q) : wT X e σ H Q := fun pins s I => p.run pins s σ H Q I h
def wA (X : Cx) (es : List Expr) : TA := fun σ H Q => ∀ pos pins s, Inv X pins σ H s → wpAny (model X.prog X.w) X.A (spliced (backTo pos (starEach es X.env))) (AP X pins σ Q) X.xe s
theorem wA.pa {es : List Expr} : PA X es (wA X es) := ⟨fun pos pins s _ _ _ I h => h pos pins s I⟩
theorem wA.of {es : List Expr} {t : TA} {σ : L2.St} {H : Hp} {Q : List V → Hp → Prop} (p : PA X es t) (h : t σ H Q) : wA X es σ H Q := fun pos pins s I => p.run pos pins s σ H Q I h
def wS (X : Cx) (st : Stmt) : TS := fun D σ H => ∀ pins s, Inv X pins σ H s → wpAny (model X.prog X.w) X.A (exec st X.env) (SP X pins D) X.xe s
theorem wS.ps {st : Stmt} : PS X st (wS X st) := ⟨fun pins s _ _ _ I h => h pins s I⟩
theorem wS.of {st : Stmt} {t : TS} {σ : L2.St} {H : Hp} {D : Ends} (p : PS X st t) (h : t D σ H) : wS X st D σ H := fun pins s I => p.run pins s σ H D I h
def wSs (X : Cx) (st : List Stmt) : TS := fun D σ H => ∀ pins s, Inv X pins σ H s → wpAny (model X.prog X.w) X.A (execs st X.env) (SP X pins D) X.xe s
theorem wSs.pss {st : List Stmt} : PSs X st (wSs X st) := ⟨fun pins s _ _ _ I h => h pins s I⟩
theorem wSs.of {st : List Stmt} {t : TS} {σ : L2.St} {H : Hp} {D : Ends} (p : PSs X st t) (h : t D σ H) : wSs X st D σ H := fun pins s I => p.run pins s σ H D I h
/-- a two-place operation -/
def wO (X : Cx) (f : Value → Value → Sem Value) : R2 := fun x y H Q => ∀ pins s σ v u, Inv X pins σ H s → RelV x v → RelV y u → wpAny (model X.prog X.w) X.A (f v u) (EP X pins σ Q) X.xe s
theorem wO.op {f : Value → Value → Sem Value} : OpR X f (wO X f) := fun pins s σ _ _ _ v u _ I r1 r2 h => h pins s σ v u I r1 r2
theorem wO.of {f : Value → Value → Sem Value} {r : R2} {x y : V} {H : Hp} {Q : VK} (p : OpR X f r) (h : r x y H Q) : wO X f x y H Q := fun pins s σ v u I r1 r2 => p pins s σ H x y v u Q I r1 r2 h
def wU (X : Cx) (f : Value → Sem Value) : V → Hp → VK → Prop := fun x H Q => ∀ pins s σ v, Inv X pins σ H s → RelV x v → wpAny (model X.prog X.w) X.A (f v) (EP X pins σ Q) X.xe s
theorem wU.un {f : Value → Sem Value} : UnR X f (wU X f) := fun pins s σ _ _ v _ I r1 h => h pins s σ v I r1
theorem wU.of {f : Value → Sem Value} {r : V → Hp → VK → Prop} {x : V} {H : Hp} {Q : VK} (p : UnR X f r) (h : r x H Q) : wU X f x H Q := fun pins s σ v I r1 => p pins s σ H x v Q I r1 h
def wC (X : Cx) (f : Value) : List V → Hp → VK → Prop := fun xs H Q => ∀ pins s σ us, Inv X pins σ H s → Vals xs us → wpAny (model X.prog X.w) X.A (call f us) (EP X pins σ Q) X.xe s
theorem wC.call {f : Value} : CallR X f (wC X f) := fun pins s σ _ _ us _ I r h => h pins s σ us I r
theorem wC.of {f : Value} {r : List V → Hp → VK → Prop} {xs : List V} {H : Hp} {Q : VK} (p : CallR X f r) (h : r xs H Q) : wC X f xs H Q := fun pins s σ us I q => p pins s σ H xs us Q I q h
end

/-! ### what it is to follow a function -/
section
variable (G : Wd) (X : Cx)
def FinE {α : Type} (τ : L2.St) (ρ : List Addr) (H : Hp) (r : R α) (k : α → EH → List Addr → Hp → Prop) : Prop := match r with
  | .ok a h' => ∀ ρ' H', Ext ρ H ρ' H' → Rel G ρ' h' H' → k a h' ρ' H'
  | .exc c fs h' => ∃ W, Takes X W ∧ ∀ ρ' H' d, Ext ρ H ρ' H' → Rel G ρ' h' H' → ExAt G.K ρ' H' d fs → W (.ref (G.CA c)) (some d) τ H'
  | .stuck => False
def FinS (ρ : List Addr) (H : Hp) (D : Ends) (r : FL) : Prop := match r with
  | .nx σ' h' => ∀ ρ' H' τ', Ext ρ H ρ' H' → Rel G ρ' h' H' → SR G.K ρ' H' σ' τ' → D.nx τ' H'
  | .rt v h' => ∀ ρ' H' x, Ext ρ H ρ' H' → Rel G ρ' h' H' → Rep G.K ρ' H' v x → D.rt x H'
  | .bk σ' h' => ∀ ρ' H' τ', Ext ρ H ρ' H' → Rel G ρ' h' H' → SR G.K ρ' H' σ' τ' → D.bk τ' H'
  | .ct σ' h' => ∀ ρ' H' τ', Ext ρ H ρ' H' → Rel G ρ' h' H' → SR G.K ρ' H' σ' τ' → D.ct τ' H'
  | .exc c fs σ' h' => ∃ W, Takes X W ∧ ∀ ρ' H' τ' d, Ext ρ H ρ' H' → Rel G ρ' h' H' → SR G.K ρ' H' σ' τ' → ExAt G.K ρ' H' d fs → W (.ref (G.CA c)) (some d) τ' H'
  | .stuck => False
def RE (e : Expr) (f : ES → M EV) : Prop := ∀ (σ : ES) (h : EH) (ρ : List Addr) (τ : L2.St) (H : Hp) (Q : VK), Rel G ρ h H → SR G.K ρ H σ τ →
  FinE G X τ ρ H (f σ h) (fun v _ ρ' H' => ∀ x, Rep G.K ρ' H' v x → Q x H') → wE X e τ H Q
def RT (e : Expr) (f : ES → M Bool) : Prop := ∀ (σ : ES) (h : EH) (ρ : List Addr) (τ : L2.St) (H : Hp) (Q : Bool → Hp → Prop), Rel G ρ h H → SR G.K ρ H σ τ →
  FinE G X τ ρ H (f σ h) (fun b _ _ H' => Q b H') → wT X e τ H Q
def RA (es : List Expr) (f : ES → M (List EV)) : Prop := ∀ (σ : ES) (h : EH) (ρ : List Addr) (τ : L2.St) (H : Hp) (Q : List V → Hp → Prop), Rel G ρ h H → SR G.K ρ H σ τ →
  FinE G X τ ρ H (f σ h) (fun vs _ ρ' H' => ∀ xs, RepL G.K ρ' H' vs xs → Q xs H') → wA X es τ H Q
def RS (st : Stmt) (f : ES → EH → FL) : Prop := ∀ (σ : ES) (h : EH) (ρ : List Addr) (τ : L2.St) (H : Hp) (D : Ends), Rel G ρ h H → SR G.K ρ H σ τ →
  FinS G X ρ H D (f σ h) → wS X st D τ H
def RSs (st : List Stmt) (f : ES → EH → FL) : Prop := ∀ (σ : ES) (h : EH) (ρ : List Addr) (τ : L2.St) (H : Hp) (D : Ends), Rel G ρ h H → SR G.K ρ H σ τ →
  FinS G X ρ H D (f σ h) → wSs X st D τ H
/-- an operation on values -/
def RO (f : Value → Value → Sem Value) (g : EV → EV → EH → Option (EV × EH)) : Prop := ∀ (x y : EV) (h : EH) (ρ : List Addr) (H : Hp) (v u : V) (Q : VK) (z : EV) (h' : EH), Rel G ρ h H → Rep G.K ρ H x v → Rep G.K ρ H y u →
  g x y h = some (z, h') → (∀ ρ' H' w, Ext ρ H ρ' H' → Rel G ρ' h' H' → Rep G.K ρ' H' z w → Q w H') → wO X f v u H Q
def RU (f : Value → Sem Value) (g : EV → EH → Option (EV × EH)) : Prop := ∀ (x : EV) (h : EH) (ρ : List Addr) (H : Hp) (v : V) (Q : VK) (z : EV) (h' : EH), Rel G ρ h H → Rep G.K ρ H x v →
  g x h = some (z, h') → (∀ ρ' H' w, Ext ρ H ρ' H' → Rel G ρ' h' H' → Rep G.K ρ' H' z w → Q w H') → wU X f v H Q
def RC (f : Value) (g : List EV → EH → Option (EV × EH)) : Prop := ∀ (xs : List EV) (h : EH) (ρ : List Addr) (H : Hp) (vs : List V) (Q : VK) (z : EV) (h' : EH), Rel G ρ h H → RepL G.K ρ H xs vs →
  g xs h = some (z, h') → (∀ ρ' H' w, Ext ρ H ρ' H' → Rel G ρ' h' H' → Rep G.K ρ' H' z w → Q w H') → wC X f vs H Q
/-- an expression that makes a new list, which is no object of ours yet -/
def RL (e : Expr) (f : ES → M (List EV)) : Prop := ∀ (σ : ES) (h : EH) (ρ : List Addr) (τ : L2.St) (H : Hp) (Q : VK), Rel G ρ h H → SR G.K ρ H σ τ →
  FinE G X τ ρ H (f σ h) (fun xs _ ρ' H' => ∀ p vs, H p = none → p ∉ ρ' → H' p = some (.lst vs) → RepL G.K ρ' H' xs vs → Q (.ref p) H') → wE X e τ H Q
end
section
variable {G : Wd} {X : Cx} {α β : Type} {τ : L2.St} {ρ ρ' : List Addr} {H H' : Hp}
theorem FinE.start {r : R α} {k : α → EH → List Addr → Hp → Prop} (e : Ext ρ H ρ' H') (f : FinE G X τ ρ H r k) : FinE G X τ ρ' H' r k := by
  cases r with
  | ok a h' => exact fun ρ2 H2 e2 R => f ρ2 H2 (e.trans e2) R
  | exc c fs h' =>
    obtain ⟨W, t, f⟩ := f
    exact ⟨W, t, fun ρ2 H2 d e2 R => f ρ2 H2 d (e.trans e2) R⟩
  | stuck => exact f
theorem FinS.start {r : FL} {D : Ends} (e : Ext ρ H ρ' H') (f : FinS G X ρ H D r) : FinS G X ρ' H' D r := by
  cases r with
  | nx σ' h' => exact fun ρ2 H2 τ2 e2 R => f ρ2 H2 τ2 (e.trans e2) R
  | rt σ' h' => exact fun ρ2 H2 τ2 e2 R => f ρ2 H2 τ2 (e.trans e2) R
  | bk σ' h' => exact fun ρ2 H2 τ2 e2 R => f ρ2 H2 τ2 (e.trans e2) R
  | ct σ' h' => exact fun ρ2 H2 τ2 e2 R => f ρ2 H2 τ2 (e.trans e2) R
  | exc c fs σ' h' =>
    obtain ⟨W, t, f⟩ := f
    exact ⟨W, t, fun ρ2 H2 τ2 d e2 R => f ρ2 H2 τ2 d (e.trans e2) R⟩
  | stuck => exact f
/-- a first part, then the rest -/
theorem FinE.bind {r : R α} {g : α → EH → R β} {k : β → EH → List Addr → Hp → Prop} (f : FinE G X τ ρ H (r.bind g) k) : FinE G X τ ρ H r (fun a h' ρ' H' => FinE G X τ ρ' H' (g a h') k) := by
  cases r with
  | ok a h' => exact fun ρ2 H2 e2 R => FinE.start e2 f
  | exc c fs h' => exact f
  | stuck => exact f
theorem FinE.imp {r : R α} {k k' : α → EH → List Addr → Hp → Prop} (f : FinE G X τ ρ H r k) (q : ∀ a h' ρ' H', Ext ρ H ρ' H' → Rel G ρ' h' H' → k a h' ρ' H' → k' a h' ρ' H') : FinE G X τ ρ H r k' := by
  cases r with
  | ok a h' => exact fun ρ2 H2 e2 R => q _ _ _ _ e2 R (f ρ2 H2 e2 R)
  | exc c fs h' => exact f
  | stuck => exact f
theorem FinE.lift {o : Option (α × EH)} {k : α → EH → List Addr → Hp → Prop} (f : FinE G X τ ρ H (R.lift o) k) : ∃ a h', o = some (a, h') ∧ ∀ ρ' H', Ext ρ H ρ' H' → Rel G ρ' h' H' → k a h' ρ' H' := by
  cases o with
  | none => exact f.elim
  | some p => exact ⟨p.1, p.2, rfl, f⟩
theorem FinS.fl {r : R α} {σ : ES} {g : α → EH → FL} {D : Ends} (s : SR G.K ρ H σ τ) (f : FinS G X ρ H D (r.fl σ g)) : FinE G X τ ρ H r (fun a h' ρ' H' => FinS G X ρ' H' D (g a h')) := by
  cases r with
  | ok a h' => exact fun ρ2 H2 e2 R => FinS.start e2 f
  | exc c fs h' =>
    obtain ⟨W, t, f⟩ := f
    exact ⟨W, t, fun ρ2 H2 d e2 R x => f ρ2 H2 τ d e2 R (s.mono e2.toMo) x⟩
  | stuck => exact f
end
end Z
end

section
/-! Z, expressions: one lemma a construct. -/
namespace Z
open PySem L2

/-! ### functions of expressions -/
def eVar (i : Nat) : ES → M EV := fun σ h => match σ[i]? with
  | some (some v) => .ok v h
  | _ => .stuck
def eC (v : EV) : ES → M EV := fun _ h => .ok v h
def eOp (g : EV → EV → EH → Option (EV × EH)) (fa fb : ES → M EV) : ES → M EV := fun σ h => (fa σ h).bind fun x h1 => (fb σ h1).bind fun y h2 => R.lift (g x y h2)
def eUn (g : EV → EH → Option (EV × EH)) (fa : ES → M EV) : ES → M EV := fun σ h => (fa σ h).bind fun x h1 => R.lift (g x h1)
def boolOf (v : EV) (h : EH) : R Bool := match v with
  | .bl b => .ok b h
  | _ => .stuck
def tVal (f : ES → M EV) : ES → M Bool := fun σ h => (f σ h).bind boolOf
abbrev tAnd' (fa fb : ES → M Bool) : ES → M Bool := fun σ h => (fa σ h).bind fun c h1 => match c with
  | true => fb σ h1
  | false => .ok false h1
abbrev tOr' (fa fb : ES → M Bool) : ES → M Bool := fun σ h => (fa σ h).bind fun c h1 => match c with
  | true => .ok true h1
  | false => fb σ h1
abbrev tNot' (fa : ES → M Bool) : ES → M Bool := fun σ h => (fa σ h).bind fun c h1 => .ok (!c) h1
def eIf (t : ES → M Bool) (fa fb : ES → M EV) : ES → M EV := fun σ h => (t σ h).bind fun c h1 => match c with
  | true => fa σ h1
  | false => fb σ h1
def eAndB (fa fb : ES → M EV) : ES → M EV := fun σ h => (fa σ h).bind fun x h1 => (boolOf x h1).bind fun c h1 => match c with
  | true => fb σ h1
  | false => .ok (.bl false) h1
def eOrB (fa fb : ES → M EV) : ES → M EV := fun σ h => (fa σ h).bind fun x h1 => (boolOf x h1).bind fun c h1 => match c with
  | true => .ok (.bl true) h1
  | false => fb σ h1
def eNotB (fa : ES → M EV) : ES → M EV := fun σ h => (fa σ h).bind fun x h1 => (boolOf x h1).bind fun c h1 => .ok (.bl (!c)) h1
def aNil : ES → M (List EV) := fun _ h => .ok [] h
def aCons (fa : ES → M EV) (fr : ES → M (List EV)) : ES → M (List EV) := fun σ h => (fa σ h).bind fun x h1 => (fr σ h1).bind fun xs h2 => .ok (x :: xs) h2
def eTup (fa : ES → M (List EV)) : ES → M EV := fun σ h => (fa σ h).bind fun xs h1 => if xs.length ≤ 100000 then .ok (.tup xs) h1 else .stuck
def lLst (fa : ES → M (List EV)) : ES → M (List EV) := fun σ h => (fa σ h).bind fun xs h1 => if xs.length ≤ 100000 then .ok xs h1 else .stuck
/-- a made list becomes an object -/
def eNew (fa : ES → M (List EV)) : ES → M EV := fun σ h => (fa σ h).bind fun xs h1 => .ok (.ref h1.length) (h1 ++ [.lst xs])
def eCall (g : List EV → EH → Option (EV × EH)) (fa : ES → M (List EV)) : ES → M EV := fun σ h => (fa σ h).bind fun xs h1 => R.lift (g xs h1)
theorem sz_ok {n : Nat} (h : n ≤ 100000) : n ≤ sizeLine := Nat.le_trans h (by decide)
theorem sz_lt {n : Nat} (h : n < 100000) : n < sizeLine := Nat.lt_of_lt_of_le h (by decide)

section
variable {G : Wd} {X : Cx}

theorem re_var {i : Nat} {x : Str} {pos : Pos} (hN : X.N[i]? = some x := by rfl) (hv : Vis X.env.scope x := by first | exact Or.inl rfl | exact Or.inr (Or.inl rfl) | exact Or.inr (Or.inr rfl)) (hd : (x == ("__debug__" : Str)) = false := by decide)
    (hcd : (x == ("__classdict__" : Str)) = false := by decide) : RE G X (.Name x pos) (eVar i) := by
  intro σ h ρ τ H Q R S f
  dsimp only [eVar] at f
  split at f
  · rename_i v e
    obtain ⟨x', a, b⟩ := S.at' i v e
    exact wE.of (pe_var hN hv hd hcd) ⟨x', a, f ρ H Ext.refl R x' b⟩
  · exact f.elim
theorem re_c {e : Expr} {v : EV} {w : V} (p : PE X e (tC w)) (r : ∀ ρ H, Rep G.K ρ H v w) : RE G X e (eC v) := by
  intro σ h ρ τ H Q R S f
  exact wE.of p (f ρ H Ext.refl R w (r ρ H))
theorem re_int {i j pos} : RE G X (.Constant (.int i) j pos) (eC (.int i)) := re_c pe_int fun _ _ => .int i
theorem re_str {i j pos} : RE G X (.Constant (.str i) j pos) (eC (.str i)) := re_c pe_str fun _ _ => .str i
theorem re_bl {i j pos} : RE G X (.Constant (.bool i) j pos) (eC (.bl i)) := re_c pe_bl fun _ _ => .bl i
theorem re_non {j pos} : RE G X (.Constant .none j pos) (eC .non) := re_c pe_non fun _ _ => .non

theorem re_op {op : Operator} {g : EV → EV → EH → Option (EV × EH)} {a b : Expr} {fa fb : ES → M EV} {pos : Pos} (o : RO G X (binaryOp op) g) (ha : RE G X a fa) (hb : RE G X b fb) : RE G X (.BinOp a op b pos) (eOp g fa fb) := by
  intro σ h ρ τ H Q R S f
  refine wE.of (pe_op wO.op wE.pe wE.pe) ?_
  refine ha σ h ρ τ H _ R S (FinE.imp (FinE.bind f) fun x h1 ρ1 H1 e1 R1 f1 v rv => ?_)
  refine hb σ h1 ρ1 τ H1 _ R1 (S.mono e1.toMo) (FinE.imp (FinE.bind f1) fun y h2 ρ2 H2 e2 R2 f2 u ru => ?_)
  obtain ⟨z, h3, e3, f3⟩ := FinE.lift f2
  exact o x y h2 ρ2 H2 v u Q z h3 R2 (rv.mono e2.toMo) ru e3 (fun ρ' H' w e R r => f3 ρ' H' e R w r)
theorem re_un {op : UnaryOp} {g : EV → EH → Option (EV × EH)} {a : Expr} {fa : ES → M EV} {pos : Pos} (o : RU G X (unaryOp op) g) (ha : RE G X a fa) : RE G X (.UnaryOp op a pos) (eUn g fa) := by
  intro σ h ρ τ H Q R S f
  refine wE.of (pe_un wU.un wE.pe) ?_
  refine ha σ h ρ τ H _ R S (FinE.imp (FinE.bind f) fun x h1 ρ1 H1 e1 R1 f1 v rv => ?_)
  obtain ⟨z, h3, e3, f3⟩ := FinE.lift f1
  exact o x h1 ρ1 H1 v Q z h3 R1 rv e3 (fun ρ' H' w e R r => f3 ρ' H' e R w r)
theorem re_cmp {op : CmpOp} {g : EV → EV → EH → Option (EV × EH)} {a b : Expr} {fa fb : ES → M EV} {pos : Pos} (o : RO G X (compareOp op) g) (ha : RE G X a fa) (hb : RE G X b fb) (hm : behindInMarks op b = false := by first | rfl | exact nomark _) : RE G X (.Compare a [op] [b] pos) (eOp g fa fb) := by
  intro σ h ρ τ H Q R S f
  refine wE.of (pe_cmpR wO.op wE.pe wE.pe hm) ?_
  refine ha σ h ρ τ H _ R S (FinE.imp (FinE.bind f) fun x h1 ρ1 H1 e1 R1 f1 v rv => ?_)
  refine hb σ h1 ρ1 τ H1 _ R1 (S.mono e1.toMo) (FinE.imp (FinE.bind f1) fun y h2 ρ2 H2 e2 R2 f2 u ru => ?_)
  obtain ⟨z, h3, e3, f3⟩ := FinE.lift f2
  exact o x y h2 ρ2 H2 v u Q z h3 R2 (rv.mono e2.toMo) ru e3 (fun ρ' H' w e R r => f3 ρ' H' e R w r)
theorem bool_fin {τ : L2.St} {ρ : List Addr} {H : Hp} {z : EV} {h : EH} {k : Bool → EH → List Addr → Hp → Prop} (f : FinE G X τ ρ H (boolOf z h) k) : ∃ b, z = .bl b ∧ ∀ ρ' H', Ext ρ H ρ' H' → Rel G ρ' h H' → k b h ρ' H' := by
  cases z with
  | bl b => exact ⟨b, rfl, f⟩
  | non => exact f.elim
  | int i => exact f.elim
  | str i => exact f.elim
  | tup i => exact f.elim
  | rl i => exact f.elim
  | ref i => exact f.elim
theorem rep_bl {K : PySem.W.Frag} {ρ : List Addr} {H : Hp} {b : Bool} {w : V} (r : Rep K ρ H (.bl b) w) : w = .bl b := by
  cases r; rfl
theorem rt_cmp {op : CmpOp} {g : EV → EV → EH → Option (EV × EH)} {a b : Expr} {fa fb : ES → M EV} {pos : Pos} (o : RO G X (compareOp op) g) (ha : RE G X a fa) (hb : RE G X b fb) (hm : behindInMarks op b = false := by first | rfl | exact nomark _) : RT G X (.Compare a [op] [b] pos) (tVal (eOp g fa fb)) := by
  intro σ h ρ τ H Q R S f
  refine wT.of (pt_cmpR wO.op wE.pe wE.pe hm) ?_
  have f' := FinE.bind f
  refine ha σ h ρ τ H _ R S (FinE.imp (FinE.bind f') fun x h1 ρ1 H1 e1 R1 f1 v rv => ?_)
  refine hb σ h1 ρ1 τ H1 _ R1 (S.mono e1.toMo) (FinE.imp (FinE.bind f1) fun y h2 ρ2 H2 e2 R2 f2 u ru => ?_)
  obtain ⟨z, h3, e3, f3⟩ := FinE.lift f2
  refine o x y h2 ρ2 H2 v u _ z h3 R2 (rv.mono e2.toMo) ru e3 (fun ρ' H' w e R r => ?_)
  obtain ⟨b', hz, k⟩ := bool_fin (f3 ρ' H' e R)
  subst hz
  exact ⟨b', rep_bl r, k ρ' H' Ext.refl R⟩
/-- a value that is a truth value, as a test -/
theorem rt_val {e : Expr} {f : ES → M EV} (he : RE G X e f) (ht : ∀ whole, isTrue e X.env whole = (do let v ← whole; standAt e.pos; holding [v] (truthy v)) := by intro _; rfl) : RT G X e (tVal f) := by
  intro σ h ρ τ H Q R S ff
  refine wT.of (pt_val wE.pe ht) ?_
  refine he σ h ρ τ H _ R S (FinE.imp (FinE.bind ff) fun x h1 ρ1 H1 e1 R1 f1 v rv => ?_)
  obtain ⟨b', hz, k⟩ := bool_fin f1
  subst hz
  exact ⟨b', rep_bl rv, k ρ1 H1 Ext.refl R1⟩
theorem rt_not {e : Expr} {f : ES → M Bool} {pos : Pos} (he : RT G X e f) : RT G X (.UnaryOp .Not e pos) (tNot' f) := by
  intro σ h ρ τ H Q R S ff
  refine wT.of (pt_not wT.pt) ?_
  exact he σ h ρ τ H _ R S (FinE.imp (FinE.bind ff) fun c h1 ρ1 H1 e1 R1 f1 => f1 ρ1 H1 Ext.refl R1)
def wW (X : Cx) (e : Expr) : TT := fun σ H Q => ∀ whole pins s, Inv X pins σ H s → wpAny (model X.prog X.w) X.A (isTrue e X.env whole) (TP X pins σ Q) X.xe s
theorem wW.pw {e : Expr} : PW X e (wW X e) := ⟨fun wh pins s _ _ _ I h => h wh pins s I⟩
theorem wW.of {e : Expr} {t : TT} {σ : L2.St} {H : Hp} {Q : Bool → Hp → Prop} (p : PW X e t) (h : t σ H Q) : wW X e σ H Q := fun wh pins s I => p.run wh pins s σ H Q I h
variable (G X) in
def RW (e : Expr) (f : ES → M Bool) : Prop := ∀ (σ : ES) (h : EH) (ρ : List Addr) (τ : L2.St) (H : Hp) (Q : Bool → Hp → Prop), Rel G ρ h H → SR G.K ρ H σ τ →
  FinE G X τ ρ H (f σ h) (fun b _ _ H' => Q b H') → wW X e τ H Q
theorem rt_w {e : Expr} {f : ES → M Bool} (h : RW G X e f) : RT G X e f := fun σ h' ρ τ H Q R S ff => wT.of (wW.pw.pt) (h σ h' ρ τ H Q R S ff)
section
variable {a b : Expr} {rest : List Expr} {pos : Pos} {fa fb : ES → M Bool}
theorem rw_and1 (ha : RT G X a fa) : RW G X (.BoolOp .And [a] pos) fa := fun σ h ρ τ H Q R S f => wW.of (pw_and1 wT.pt) (ha σ h ρ τ H Q R S f)
theorem rw_or1 (ha : RT G X a fa) : RW G X (.BoolOp .Or [a] pos) fa := fun σ h ρ τ H Q R S f => wW.of (pw_or1 wT.pt) (ha σ h ρ τ H Q R S f)
theorem rw_and (ha : RT G X a fa) (hb : RW G X (.BoolOp .And (b :: rest) pos) fb) : RW G X (.BoolOp .And (a :: b :: rest) pos) (tAnd' fa fb) := by
  intro σ h ρ τ H Q R S f
  refine wW.of (pw_and wT.pt wW.pw) ?_
  refine ha σ h ρ τ H _ R S (FinE.imp (FinE.bind f) fun c h1 ρ1 H1 e1 R1 f1 => ?_)
  cases c with
  | true => exact hb σ h1 ρ1 τ H1 Q R1 (S.mono e1.toMo) f1
  | false => exact f1 ρ1 H1 Ext.refl R1
theorem rw_or (ha : RT G X a fa) (hb : RW G X (.BoolOp .Or (b :: rest) pos) fb) : RW G X (.BoolOp .Or (a :: b :: rest) pos) (tOr' fa fb) := by
  intro σ h ρ τ H Q R S f
  refine wW.of (pw_or wT.pt wW.pw) ?_
  refine ha σ h ρ τ H _ R S (FinE.imp (FinE.bind f) fun c h1 ρ1 H1 e1 R1 f1 => ?_)
  cases c with
  | false => exact hb σ h1 ρ1 τ H1 Q R1 (S.mono e1.toMo) f1
  | true => exact f1 ρ1 H1 Ext.refl R1
end
section
variable {a b c : Expr} {rest : List Expr} {pos : Pos} {fa fb : ES → M EV} {t : ES → M Bool}
theorem re_if (hc : RT G X c t) (ha : RE G X a fa) (hb : RE G X b fb) : RE G X (.IfExp c a b pos) (eIf t fa fb) := by
  intro σ h ρ τ H Q R S f
  refine wE.of (pe_ifExp wT.pt wE.pe wE.pe) ?_
  refine hc σ h ρ τ H _ R S (FinE.imp (FinE.bind f) fun d h1 ρ1 H1 e1 R1 f1 => ?_)
  cases d with
  | true => exact ha σ h1 ρ1 τ H1 Q R1 (S.mono e1.toMo) f1
  | false => exact hb σ h1 ρ1 τ H1 Q R1 (S.mono e1.toMo) f1
theorem re_one {op} (ha : RE G X a fa) : RE G X (.BoolOp op [a] pos) fa := fun σ h ρ τ H Q R S f => wE.of (pe_one wE.pe) (ha σ h ρ τ H Q R S f)
theorem re_and (ha : RE G X a fa) (hb : RE G X (.BoolOp .And (b :: rest) pos) fb) : RE G X (.BoolOp .And (a :: b :: rest) pos) (eAndB fa fb) := by
  intro σ h ρ τ H Q R S f
  refine wE.of (pe_and wE.pe wE.pe) ?_
  refine ha σ h ρ τ H _ R S (FinE.imp (FinE.bind f) fun x h1 ρ1 H1 e1 R1 f1 v rv => ?_)
  obtain ⟨b', hz, k⟩ := bool_fin (FinE.bind f1)
  subst hz
  have k1 := k ρ1 H1 Ext.refl R1
  refine ⟨b', rep_bl rv, ?_⟩
  cases b' with
  | true => exact hb σ h1 ρ1 τ H1 Q R1 (S.mono e1.toMo) k1
  | false => exact k1 ρ1 H1 Ext.refl R1 _ (.bl false)
theorem re_or (ha : RE G X a fa) (hb : RE G X (.BoolOp .Or (b :: rest) pos) fb) : RE G X (.BoolOp .Or (a :: b :: rest) pos) (eOrB fa fb) := by
  intro σ h ρ τ H Q R S f
  refine wE.of (pe_or wE.pe wE.pe) ?_
  refine ha σ h ρ τ H _ R S (FinE.imp (FinE.bind f) fun x h1 ρ1 H1 e1 R1 f1 v rv => ?_)
  obtain ⟨b', hz, k⟩ := bool_fin (FinE.bind f1)
  subst hz
  have k1 := k ρ1 H1 Ext.refl R1
  refine ⟨b', rep_bl rv, ?_⟩
  cases b' with
  | false => exact hb σ h1 ρ1 τ H1 Q R1 (S.mono e1.toMo) k1
  | true => exact k1 ρ1 H1 Ext.refl R1 _ (.bl true)
theorem re_not (ha : RE G X a fa) : RE G X (.UnaryOp .Not a pos) (eNotB fa) := by
  intro σ h ρ τ H Q R S f
  refine wE.of (pe_not wE.pe) ?_
  refine ha σ h ρ τ H _ R S (FinE.imp (FinE.bind f) fun x h1 ρ1 H1 e1 R1 f1 v rv => ?_)
  obtain ⟨b', hz, k⟩ := bool_fin (FinE.bind f1)
  subst hz
  exact ⟨b', rep_bl rv, k ρ1 H1 Ext.refl R1 ρ1 H1 Ext.refl R1 _ (.bl (!b'))⟩
end

/-! ### argument lists, displays -/
theorem ra_nil : RA G X [] aNil := fun σ h ρ τ H Q R S f => wA.of pa_nil (f ρ H Ext.refl R [] .nil)
theorem ra_cons {e : Expr} {es : List Expr} {fa : ES → M EV} {fr : ES → M (List EV)} (ha : RE G X e fa) (hr : RA G X es fr) (hs : starEach (e :: es) X.env = (false, eval e X.env) :: starEach es X.env := by rfl) : RA G X (e :: es) (aCons fa fr) := by
  intro σ h ρ τ H Q R S f
  refine wA.of (pa_cons wE.pe wA.pa hs) ?_
  refine ha σ h ρ τ H _ R S (FinE.imp (FinE.bind f) fun x h1 ρ1 H1 e1 R1 f1 v rv => ?_)
  refine hr σ h1 ρ1 τ H1 _ R1 (S.mono e1.toMo) (FinE.imp (FinE.bind f1) fun xs h2 ρ2 H2 e2 R2 f2 vs rvs => ?_)
  exact f2 ρ2 H2 Ext.refl R2 _ (.cons (rv.mono e2.toMo) rvs)
theorem re_tup {es : List Expr} {fa : ES → M (List EV)} {k : Nat} {pos : Pos} (ha : RA G X es fa) : RE G X (.Tuple es k pos) (eTup fa) := by
  intro σ h ρ τ H Q R S f
  refine wE.of (pe_tup wA.pa) ?_
  refine ha σ h ρ τ H _ R S (FinE.imp (FinE.bind f) fun xs h1 ρ1 H1 e1 R1 f1 vs rv => ?_)
  by_cases hl : xs.length ≤ 100000
  · rw [if_pos hl] at f1
    refine ⟨by rw [← rv.length]; exact sz_ok hl, fun p hp => ?_⟩
    exact f1 ρ1 _ (Ext.laid0 hp) (R1.aside hp) _ (.tup (.inl (.inl upd_same)) (rv.mono (Ext.laid0 hp).toMo))
  · rw [if_neg hl] at f1
    exact f1.elim
theorem rl_lst {es : List Expr} {fa : ES → M (List EV)} {pos : Pos} (ha : RA G X es fa) : RL G X (.List es pos) (lLst fa) := by
  intro σ h ρ τ H Q R S f
  refine wE.of (pe_lst wA.pa) ?_
  refine ha σ h ρ τ H _ R S (FinE.imp (FinE.bind f) fun xs h1 ρ1 H1 e1 R1 f1 vs rv => ?_)
  by_cases hl : xs.length ≤ 100000
  · rw [if_pos hl] at f1
    refine ⟨by rw [← rv.length]; exact sz_ok hl, fun p hp => ?_⟩
    exact f1 ρ1 _ (Ext.laid0 hp) (R1.aside hp) p vs (e1.dom p hp) (R1.fresh hp) upd_same (rv.mono (Ext.laid0 hp).toMo)
  · rw [if_neg hl] at f1
    exact f1.elim
/-- a made list as an object of ours -/
theorem re_new {e : Expr} {fa : ES → M (List EV)} (ha : RL G X e fa) : RE G X e (eNew fa) := by
  intro σ h ρ τ H Q R S f
  refine ha σ h ρ τ H Q R S ?_
  have f' := FinE.bind f
  dsimp only [eNew] at f
  cases e : fa σ h with
  | stuck => rw [e] at f'; exact f'
  | exc c fs h' => rw [e] at f'; exact f'
  | ok xs h1 =>
    rw [e] at f
    intro ρ1 H1 e1 R1 p vs hp m l r
    have e2 : Ext ρ H (ρ1 ++ [p]) H1 := e1.adopt hp
    refine f (ρ1 ++ [p]) H1 e2 (R1.adopt m l r) (.ref p) (.ref ?_)
    rw [← R1.len, List.getElem?_append_right (Nat.le_refl _)]
    simp
end
end Z
end

section
/-! Z, operations on values. -/
namespace Z
open PySem L2

def opAdd : EV → EV → EH → Option (EV × EH)
  | .int i, .int j, h => some (.int (i + j), h)
  | .str a, .str b, h => if a.length + b.length ≤ 100000 then some (.str (a ++ b), h) else none
  | .tup xs, .tup ys, h => if xs.length + ys.length ≤ 100000 then some (.tup (xs ++ ys), h) else none
  | .ref n, .ref m, h => match h[n]?, h[m]? with
    | some (.lst xs), some (.lst ys) => if xs.length + ys.length ≤ 100000 then some (.ref h.length, h ++ [.lst (xs ++ ys)]) else none
    | _, _ => none
  | _, _, _ => none
def opI (g : Int → Int → Option EV) : EV → EV → EH → Option (EV × EH)
  | .int i, .int j, h => (g i j).map fun v => (v, h)
  | _, _, _ => none
def opSub := opI fun i j => some (.int (i - j))
def opFdiv := opI fun i j => if 0 < j ∧ j < 1073741824 then some (.int (i / j)) else none
def opMod := opI fun i j => if 0 < j then some (.int (i % j)) else none
def opPow := opI fun i j => if 0 ≤ j ∧ j ≤ 1000000 ∧ i.natAbs < 2 ^ 64 then some (.int (i ^ j.toNat)) else none
def opMul : EV → EV → EH → Option (EV × EH)
  | .int i, .int j, h => if (-(2 ^ 64) < i ∧ i < 2 ^ 64) ∨ (-(2 ^ 64) < j ∧ j < 2 ^ 64) then some (.int (i * j), h) else none
  | .ref n, .int k, h => match h[n]? with
    | some (.lst xs) => if -(2 ^ 63) ≤ k ∧ k < 2 ^ 63 ∧ xs.length * k.toNat ≤ 100000 then some (.ref h.length, h ++ [.lst (List.replicate k.toNat xs).flatten]) else none
    | _ => none
  | _, _, _ => none
def cmpI (p : Int → Int → Bool) (q : List Nat → List Nat → Bool) : EV → EV → EH → Option (EV × EH)
  | .int i, .int j, h => some (.bl (p i j), h)
  | .str a, .str b, h => some (.bl (q a.cps.toList b.cps.toList), h)
  | _, _, _ => none
def opLt := cmpI (fun i j => decide (i < j)) fun a b => Spec.ltCps a b
def opLe := cmpI (fun i j => decide (i ≤ j)) fun a b => !Spec.ltCps b a
def opGt := cmpI (fun i j => decide (j < i)) fun a b => Spec.ltCps b a
def opGe := cmpI (fun i j => decide (j ≤ i)) fun a b => !Spec.ltCps a b
/-- the data that a value is -/
def snapL (f : EV → Option PyData) : List EV → Option (List PyData)
  | [] => some []
  | x :: xs => match f x, snapL f xs with
    | some d, some ds => some (d :: ds)
    | _, _ => none
def snap (h : EH) : Nat → EV → Option PyData
  | 0, _ => none
  | n + 1, v => match v with
    | .non => some .none
    | .bl b => some (.bool b)
    | .int i => some (.int i)
    | .str s => some (.str s)
    | .tup xs => (snapL (snap h n) xs).map .tuple
    | .rl xs => (snapL (snap h n) xs).map .list
    | .ref k => match h[k]? with
      | some (.lst xs) => (snapL (snap h n) xs).map .list
      | _ => none
def data (h : EH) (v : EV) : Option PyData := match snap h 64 v with
  | some d => if SeqAt.shaped d = true then some d else none
  | none => none
def opEq (x y : EV) (h : EH) : Option (EV × EH) := match data h x, data h y with
  | some d, some e => some (.bl (PyData.eqv d e), h)
  | _, _ => none
def opNe (x y : EV) (h : EH) : Option (EV × EH) := match data h x, data h y with
  | some d, some e => some (.bl (!PyData.eqv d e), h)
  | _, _ => none
def isNon : EV → Bool
  | .non => true
  | _ => false
/-- is, against None or between truth values -/
def opIs (neg : Bool) : EV → EV → EH → Option (EV × EH)
  | x, .non, h => some (.bl (neg ^^ isNon x), h)
  | .bl a, .bl b, h => some (.bl (neg ^^ decide (a = b)), h)
  | _, _, _ => none

section
variable {G : Wd} {X : Cx}
theorem ro_i {op : Value → Value → Sem Value} {C : Int → Int → Prop} {g : Int → Int → V} {g' : Int → Int → Option EV} (o : OpR X op (rI C g)) (hg : ∀ i j z, g' i j = some z → C i j ∧ ∀ ρ H, Rep G.K ρ H z (g i j)) : RO G X op (opI g') := by
  intro x y h ρ H v u Q z h' R rx ry e k
  cases x with
  | int i =>
    cases y with
    | int j =>
      cases rx; cases ry
      simp only [opI] at e
      cases e2 : g' i j with
      | none => rw [e2] at e; cases e
      | some w =>
        rw [e2] at e
        cases e
        obtain ⟨c, r⟩ := hg i j _ e2
        exact wO.of o ⟨i, j, rfl, rfl, c, k ρ H _ Ext.refl R (r ρ H)⟩
    | _ => cases e
  | _ => cases e
theorem ro_sub : RO G X (binaryOp .Sub) opSub := by
  intro x y h ρ H v u Q z h' R rx ry e k
  cases x with
  | int i =>
    cases y with
    | int j =>
      cases rx; cases ry
      cases e
      exact wO.of op_sub ⟨i, j, rfl, rfl, k ρ H _ Ext.refl R (.int _)⟩
    | _ => cases e
  | _ => cases e
theorem ro_fdiv : RO G X (binaryOp .FloorDiv) opFdiv := ro_i op_fdiv fun i j z e => by
  split at e
  · rename_i c; cases e; exact ⟨c, fun _ _ => .int _⟩
  · cases e
theorem ro_mod : RO G X (binaryOp .Mod) opMod := ro_i op_mod fun i j z e => by
  split at e
  · rename_i c; cases e; exact ⟨c, fun _ _ => .int _⟩
  · cases e
theorem ro_pow : RO G X (binaryOp .Pow) opPow := ro_i op_pow fun i j z e => by
  split at e
  · rename_i c; cases e; exact ⟨c, fun _ _ => .int _⟩
  · cases e
theorem getref {ρ : List Addr} {h : EH} {H : Hp} {n : Nat} {v : V} {o : EO} (R : Rel G ρ h H) (r : Rep G.K ρ H (.ref n) v) (e : h[n]? = some o) : ∃ a, v = .ref a ∧ ρ[n]? = some a ∧ ORep G ρ H a o := by
  cases r with
  | ref q => exact ⟨_, rfl, q, R.obj _ _ _ q e⟩
/-- a new list as an object of ours -/
theorem new_list {ρ : List Addr} {h : EH} {H : Hp} {p : Addr} {xs : List EV} {vs : List V} (R : Rel G ρ h H) (e : H p = none) (r : RepL G.K ρ H xs vs) :
    Ext ρ H (ρ ++ [p]) (upd H p (.lst vs)) ∧ Rel G (ρ ++ [p]) (h ++ [.lst xs]) (upd H p (.lst vs)) ∧ Rep G.K (ρ ++ [p]) (upd H p (.lst vs)) (.ref h.length) (.ref p) := by
  refine ⟨Ext.laid e, R.alloc e ⟨vs, upd_same, r.mono (Ext.laid e).toMo⟩, .ref ?_⟩
  rw [← R.len, List.getElem?_append_right (Nat.le_refl _)]
  simp
theorem RepL.rep {ρ : List Addr} {H : Hp} {xs : List EV} {vs : List V} (r : RepL G.K ρ H xs vs) : ∀ k : Nat, RepL G.K ρ H (List.replicate k xs).flatten (List.replicate k vs).flatten
  | 0 => .nil
  | k + 1 => by
    rw [List.replicate_succ, List.replicate_succ, List.flatten_cons, List.flatten_cons]
    exact r.append (RepL.rep r k)
theorem ro_mul : RO G X (binaryOp .Mult) opMul := by
  intro x y h ρ H v u Q z h' R rx ry e k
  cases x with
  | int i =>
    cases y with
    | int j =>
      cases rx; cases ry
      simp only [opMul] at e
      split at e
      · rename_i c
        cases e
        exact wO.of op_mul ⟨i, j, rfl, rfl, c, k ρ H _ Ext.refl R (.int _)⟩
      · cases e
    | _ => cases e
  | ref n =>
    cases y with
    | int j =>
      cases ry
      simp only [opMul] at e
      split at e
      · rename_i xs q
        split at e
        · rename_i c
          cases e
          obtain ⟨a, rfl, qa, vs, hv, rv⟩ := getref R rx q
          refine wO.of op_rep ⟨a, j, vs, rfl, rfl, hv, c.1, c.2.1, ?_, fun p hp => ?_⟩
          · rw [← rv.length]; exact sz_ok c.2.2
          · obtain ⟨e1, R1, r1⟩ := new_list R hp (rv.rep j.toNat)
            exact k _ _ _ e1 R1 r1
        · cases e
      · cases e
    | _ => cases e
  | _ => cases e
theorem ro_add (hK : X.K = G.K := by rfl) : RO G X (binaryOp .Add) opAdd := by
  intro x y h ρ H v u Q z h' R rx ry e k
  cases x with
  | int i =>
    cases y with
    | int j =>
      cases rx; cases ry; cases e
      exact wO.of op_add ⟨i, j, rfl, rfl, k ρ H _ Ext.refl R (.int _)⟩
    | _ => cases e
  | str i =>
    cases y with
    | str j =>
      cases rx; cases ry
      simp only [opAdd] at e
      split at e
      · rename_i c
        cases e
        exact wO.of op_add_str ⟨i, j, rfl, rfl, sz_ok c, k ρ H _ Ext.refl R (.str _)⟩
      · cases e
    | _ => cases e
  | tup xs =>
    cases y with
    | tup ys =>
      simp only [opAdd] at e
      split at e
      · rename_i c
        cases e
        cases rx with
        | @tup a vs _ qa ra =>
          cases ry with
          | @tup b ws _ qb rb =>
            refine wO.of op_catA ⟨a, b, vs, ws, rfl, rfl, by rw [hK]; exact qa, by rw [hK]; exact qb, ?_, fun z => ?_, fun _ z => ?_, fun _ _ p hp => ?_⟩
            · rw [← ra.length, ← rb.length]; exact sz_ok c
            · subst z
              cases ra
              exact k ρ H _ Ext.refl R (.tup qb rb)
            · subst z
              cases rb
              rw [List.append_nil] at k
              exact k ρ H _ Ext.refl R (.tup qa ra)
            · exact k ρ _ _ (Ext.laid0 hp) (R.aside hp) (.tup (.inl (.inl upd_same)) ((ra.append rb).mono (Ext.laid0 hp).toMo))
      · cases e
    | _ => cases e
  | ref n =>
    cases y with
    | ref m =>
      simp only [opAdd] at e
      split at e
      · rename_i xs ys q1 q2
        split at e
        · rename_i c
          cases e
          obtain ⟨a, rfl, qa, vs, hv, rv⟩ := getref R rx q1
          obtain ⟨b, rfl, qb, ws, hw, rw'⟩ := getref R ry q2
          refine wO.of op_cat ⟨a, b, vs, ws, rfl, rfl, hv, hw, ?_, fun p hp => ?_⟩
          · rw [← rv.length, ← rw'.length]; exact sz_ok c
          · obtain ⟨e1, R1, r1⟩ := new_list R hp (rv.append rw')
            exact k _ _ _ e1 R1 r1
        · cases e
      · cases e
    | _ => cases e
  | _ => cases e
theorem ro_cmp {op : CmpOp} {p : Int → Int → Bool} {q : List Nat → List Nat → Bool} (o1 : OpR X (compareOp op) (rI0 fun i j => .bl (p i j))) (o2 : OpR X (compareOp op) (fun x y H Q => ∃ i j, x = .str i ∧ y = .str j ∧ Q (.bl (q i.cps.toList j.cps.toList)) H)) : RO G X (compareOp op) (cmpI p q) := by
  intro x y h ρ H v u Q z h' R rx ry e k
  cases x with
  | int i =>
    cases y with
    | int j =>
      cases rx; cases ry; cases e
      exact wO.of o1 ⟨i, j, rfl, rfl, k ρ H _ Ext.refl R (.bl _)⟩
    | _ => cases e
  | str i =>
    cases y with
    | str j =>
      cases rx; cases ry; cases e
      exact wO.of o2 ⟨i, j, rfl, rfl, k ρ H _ Ext.refl R (.bl _)⟩
    | _ => cases e
  | _ => cases e
theorem ro_lt : RO G X (compareOp .Lt) opLt := ro_cmp op_lt (by simp only [PyProof.Rows.ltCps_eq]; exact op_lt_str)
theorem ro_le : RO G X (compareOp .LtE) opLe := ro_cmp op_le (by simp only [PyProof.Rows.ltCps_eq]; exact op_le_str)
theorem ro_gt : RO G X (compareOp .Gt) opGt := ro_cmp op_gt (by simp only [PyProof.Rows.ltCps_eq]; exact op_gt_str)
theorem ro_ge : RO G X (compareOp .GtE) opGe := ro_cmp op_ge (by simp only [PyProof.Rows.ltCps_eq]; exact op_ge_str)

theorem snapL_dp {ρ : List Addr} {H : Hp} {f : EV → Option PyData} (hf : ∀ x v d, Rep G.K ρ H x v → f x = some d → Dp G.K H v d) : ∀ {xs : List EV} {vs : List V} {ds : List PyData}, RepL G.K ρ H xs vs → snapL f xs = some ds → DpAll G.K H vs ds
  | [], _, ds, r, e => by
    cases r
    cases e
    exact .nil
  | x :: xs, _, ds, r, e => by
    cases r with
    | cons a b =>
      simp only [snapL] at e
      split at e
      · rename_i d' ds' e1 e2
        cases e
        exact .cons (hf _ _ _ a e1) (snapL_dp hf b e2)
      · cases e
theorem RoL.dp {ρ : List Addr} {H : Hp} {a : Addr} {vs : List V} (h : RoL G.K H a vs) : SqL G.K H a vs := h.sq
theorem snap_dp {ρ : List Addr} {h : EH} {H : Hp} (R : Rel G ρ h H) : ∀ (n : Nat) (x : EV) (v : V) (d : PyData), Rep G.K ρ H x v → snap h n x = some d → Dp G.K H v d
  | 0, _, _, _, _, e => by cases e
  | n + 1, x, v, d, r, e => by
    cases x with
    | non => cases r; cases e; exact .non
    | bl b => cases r; cases e; exact .bl b
    | int b => cases r; cases e; exact .int b
    | str b => cases r; cases e; exact .str b
    | tup xs =>
      cases r with
      | tup q rr =>
        simp only [snap] at e
        cases e2 : snapL (snap h n) xs with
        | none => rw [e2] at e; cases e
        | some ds =>
          rw [e2] at e; cases e
          exact .tup q (snapL_dp (fun x v d => snap_dp R n x v d) rr e2)
    | rl xs =>
      cases r with
      | rl q rr =>
        simp only [snap] at e
        cases e2 : snapL (snap h n) xs with
        | none => rw [e2] at e; cases e
        | some ds =>
          rw [e2] at e; cases e
          exact .lst q.sq (snapL_dp (fun x v d => snap_dp R n x v d) rr e2)
    | ref k =>
      simp only [snap] at e
      split at e
      · rename_i xs q
        obtain ⟨a, rfl, qa, vs, hv, rv⟩ := getref R r q
        cases e2 : snapL (snap h n) xs with
        | none => rw [e2] at e; cases e
        | some ds =>
          rw [e2] at e; cases e
          exact .lst (.inl (.inl hv)) (snapL_dp (fun x v d => snap_dp R n x v d) rv e2)
      · cases e
theorem data_dp {ρ : List Addr} {h : EH} {H : Hp} (R : Rel G ρ h H) {x : EV} {v : V} {d : PyData} (r : Rep G.K ρ H x v) (e : data h x = some d) : Dp G.K H v d ∧ SeqAt.shaped d = true := by
  unfold data at e
  split at e
  · rename_i d' e1
    split at e
    · rename_i c
      cases e
      exact ⟨snap_dp R _ _ _ _ r e1, c⟩
    · cases e
  · cases e
theorem ro_eq (hu : X.A.units + 64 < cLine) (hK : X.K = G.K := by rfl) : RO G X (compareOp .Eq) opEq := by
  intro x y h ρ H v u Q z h' R rx ry e k
  unfold opEq at e
  split at e
  · rename_i d d' e1 e2
    cases e
    obtain ⟨p1, s1⟩ := data_dp R rx e1
    obtain ⟨p2, s2⟩ := data_dp R ry e2
    refine wO.of (op_eqD hu) ⟨d, d', by rw [hK]; exact p1, by rw [hK]; exact p2, s1, s2, k ρ H _ Ext.refl R (.bl _)⟩
  · cases e
theorem ro_ne (hu : X.A.units + 64 < cLine) (hK : X.K = G.K := by rfl) : RO G X (compareOp .NotEq) opNe := by
  intro x y h ρ H v u Q z h' R rx ry e k
  unfold opNe at e
  split at e
  · rename_i d d' e1 e2
    cases e
    obtain ⟨p1, s1⟩ := data_dp R rx e1
    obtain ⟨p2, s2⟩ := data_dp R ry e2
    refine wO.of (op_neD hu) ⟨d, d', by rw [hK]; exact p1, by rw [hK]; exact p2, s1, s2, k ρ H _ Ext.refl R (.bl _)⟩
  · cases e
theorem isNon_rep {ρ : List Addr} {H : Hp} {x : EV} {v : V} (r : Rep G.K ρ H x v) : decide (v = .non) = isNon x := by
  cases r <;> rfl
theorem ro_is : RO G X (compareOp .Is) (opIs false) := by
  intro x y h ρ H v u Q z h' R rx ry e k
  cases y with
  | non =>
    cases ry
    have e' : (EV.bl (false ^^ isNon x), h) = (z, h') := by
      cases x <;> exact Option.some.inj e
    cases e'
    refine wO.of op_isN ⟨rfl, ?_⟩
    rw [isNon_rep rx]
    refine k ρ H _ Ext.refl R ?_
    rw [Bool.false_xor]; exact .bl _
  | bl b =>
    cases x with
    | bl a =>
      cases rx; cases ry; cases e
      refine wO.of op_isBl ⟨a, b, rfl, rfl, ?_⟩
      refine k ρ H _ Ext.refl R ?_
      rw [Bool.false_xor]; exact .bl _
    | _ => cases e
  | _ => cases x <;> cases e
theorem ro_isnot : RO G X (compareOp .IsNot) (opIs true) := by
  intro x y h ρ H v u Q z h' R rx ry e k
  cases y with
  | non =>
    cases ry
    have e' : (EV.bl (true ^^ isNon x), h) = (z, h') := by
      cases x <;> exact Option.some.inj e
    cases e'
    refine wO.of op_notN ⟨rfl, ?_⟩
    rw [isNon_rep rx]
    refine k ρ H _ Ext.refl R ?_
    rw [Bool.true_xor]; exact .bl _
  | bl b =>
    cases x with
    | bl a =>
      cases rx; cases ry; cases e
      refine wO.of op_notBl ⟨a, b, rfl, rfl, ?_⟩
      refine k ρ H _ Ext.refl R ?_
      rw [Bool.true_xor]; exact .bl _
    | _ => cases e
  | _ => cases x <;> cases e
end
end Z
end

section
/-! Z, statements, loops, comprehensions, defs. -/
namespace Z
open PySem L2

/-! ### functions -/
def sNil : ES → EH → FL := fun σ h => .nx σ h
def sSeq (f g : ES → EH → FL) : ES → EH → FL := fun σ h => (f σ h).seq g
def sSet (g : EV → ES → Option ES) (f : ES → M EV) : ES → EH → FL := fun σ h => (f σ h).fl σ fun v h' => match g v σ with
  | some σ' => .nx σ' h'
  | none => .stuck
def sExpr (f : ES → M EV) : ES → EH → FL := fun σ h => (f σ h).fl σ fun _ h' => .nx σ h'
def sRet (f : ES → M EV) : ES → EH → FL := fun σ h => (f σ h).fl σ fun v h' => .rt v h'
def sRetN : ES → EH → FL := fun _ h => .rt .non h
def sBrk : ES → EH → FL := fun σ h => .bk σ h
def sCont : ES → EH → FL := fun σ h => .ct σ h
def sIf (t : ES → M Bool) (a b : ES → EH → FL) : ES → EH → FL := fun σ h => (t σ h).fl σ fun c h' => match c with
  | true => a σ h'
  | false => b σ h'
def FL.loop (r : FL) (go : ES → EH → FL) : FL := match r with
  | .nx σ h => go σ h
  | .ct σ h => go σ h
  | .bk σ h => .nx σ h
  | .rt v h => .rt v h
  | .exc c fs σ h => .exc c fs σ h
  | .stuck => .stuck
def forL (g : EV → ES → Option ES) (fb : ES → EH → FL) : List EV → ES → EH → FL
  | [], σ, h => .nx σ h
  | x :: xs, σ, h => match g x σ with
    | none => .stuck
    | some σ1 => (fb σ1 h).loop (forL g fb xs)
def forN (g : EV → ES → Option ES) (fb : ES → EH → FL) (n : Nat) : Nat → Nat → ES → EH → FL
  | 0, _, _, _ => .stuck
  | k + 1, i, σ, h => match h[n]? with
    | some (.lst xs) => match xs[i]? with
      | none => .nx σ h
      | some x => match g x σ with
        | none => .stuck
        | some σ1 => (fb σ1 h).loop (forN g fb n k (i + 1))
    | _ => .stuck
def whileK (t : ES → M Bool) (fb : ES → EH → FL) : Nat → ES → EH → FL
  | 0, _, _ => .stuck
  | k + 1, σ, h => (t σ h).fl σ fun c h' => match c with
    | true => (fb σ h').loop (whileK t fb k)
    | false => .nx σ h'
inductive IT where
  | vals (xs : List EV) | obj (n : Nat)
def sFor (fi : ES → M IT) (g : EV → ES → Option ES) (fb : ES → EH → FL) : ES → EH → FL := fun σ h => (fi σ h).fl σ fun it h' => match it with
  | .vals xs => forL g fb xs σ h'
  | .obj n => forN g fb n 100001 0 σ h'
def gN (i : Nat) : EV → ES → Option ES := fun v σ => some (σ.set i (some v))
def gNilS : List EV → ES → Option ES
  | [], σ => some σ
  | _ :: _, _ => none
def gConsS (g1 : EV → ES → Option ES) (g2 : List EV → ES → Option ES) : List EV → ES → Option ES
  | v :: r, σ => (g1 v σ).bind (g2 r)
  | [], _ => none
def gTupS (n : Nat) (g : List EV → ES → Option ES) : EV → ES → Option ES
  | .tup xs, σ => if xs.length = n then g xs σ else none
  | _, _ => none
def chars (s : Str) : List EV := s.cps.toList.map fun c => .str ⟨#[c]⟩
def itOf (v : EV) (h : EH) : R IT := match v with
  | .tup xs => .ok (.vals xs) h
  | .rl xs => .ok (.vals xs) h
  | .str s => .ok (.vals (chars s)) h
  | .ref n => match h[n]? with
    | some (.lst _) => .ok (.obj n) h
    | _ => .stuck
  | _ => .stuck
def iVal (f : ES → M EV) : ES → M IT := fun σ h => (f σ h).bind itOf
def iLst (f : ES → M (List EV)) : ES → M IT := fun σ h => (f σ h).bind fun xs h' => .ok (.vals xs) h'
def rangeL (lo : Int) (n : Nat) : List EV := (List.range n).map fun i => .int (lo + (i : Nat))
def rng1 (vs : List EV) (h : EH) : R IT := match vs with
  | [.int j] => if -(2 ^ 62) ≤ j ∧ j < 2 ^ 62 then .ok (.vals (rangeL 0 j.toNat)) h else .stuck
  | _ => .stuck
def rng2 (vs : List EV) (h : EH) : R IT := match vs with
  | [.int i, .int j] => if -(2 ^ 62) ≤ i ∧ i < 2 ^ 62 ∧ -(2 ^ 62) ≤ j ∧ j < 2 ^ 62 then .ok (.vals (rangeL i (j - i).toNat)) h else .stuck
  | _ => .stuck
abbrev iRng1' (f : ES → M (List EV)) : ES → M IT := fun σ h => (f σ h).bind rng1
abbrev iRng2' (f : ES → M (List EV)) : ES → M IT := fun σ h => (f σ h).bind rng2
def wipeE (σ : ES) : List Nat → ES
  | [] => σ
  | v :: vs => (wipeE σ vs).set v none
abbrev tYes' : ES → M Bool := fun _ h => .ok true h
def lcStep (ft : ES → M Bool) (fe : ES → M EV) (σ1 : ES) (acc : List EV) (h : EH) : R (List EV) := (ft σ1 h).bind fun b h1 => match b with
  | true => (fe σ1 h1).bind fun y h2 => if acc.length < 100000 then .ok (acc ++ [y]) h2 else .stuck
  | false => .ok acc h1
def noExc {α : Type} (r : R α) : R α := match r with
  | .exc _ _ _ => .stuck
  | r => r
def lcL (g : EV → ES → Option ES) (ft : ES → M Bool) (fe : ES → M EV) (σ : ES) : List EV → List EV → EH → R (List EV)
  | [], acc, h => .ok acc h
  | x :: xs, acc, h => match g x σ with
    | none => .stuck
    | some σ1 => (noExc (lcStep ft fe σ1 acc h)).bind fun acc' h' => lcL g ft fe σ xs acc' h'
def lcN (g : EV → ES → Option ES) (ft : ES → M Bool) (fe : ES → M EV) (σ : ES) (n : Nat) : Nat → Nat → List EV → EH → R (List EV)
  | 0, _, _, _ => .stuck
  | k + 1, i, acc, h => match h[n]? with
    | some (.lst xs) => match xs[i]? with
      | none => .ok acc h
      | some x => match g x σ with
        | none => .stuck
        | some σ1 => (noExc (lcStep ft fe σ1 acc h)).bind fun acc' h' => lcN g ft fe σ n k (i + 1) acc' h'
    | _ => .stuck
def lLc (fi : ES → M IT) (g : EV → ES → Option ES) (ft : ES → M Bool) (fe : ES → M EV) (vs : List Nat) : ES → M (List EV) := fun σ h => (fi σ h).bind fun it h' => match it with
  | .vals xs => lcL g ft fe (wipeE σ vs) xs [] h'
  | .obj n => lcN g ft fe (wipeE σ vs) n 100001 0 [] h'
def startE (k : Nat) (vs : List EV) : ES := vs.map some ++ List.replicate (k - vs.length) none
def fnF (k : Nat) (fb : ES → EH → FL) (vs : List EV) (h : EH) : R EV := match fb (startE k vs) h with
  | .nx _ h' => .ok .non h'
  | .rt v h' => .ok v h'
  | .exc c fs _ h' => .exc c fs h'
  | .bk _ _ => .stuck
  | .ct _ _ => .stuck
  | .stuck => .stuck
def eFn (F : List EV → EH → R EV) (fa : ES → M (List EV)) : ES → M EV := fun σ h => (fa σ h).bind F

section
variable {G : Wd} {X : Cx}
/-! ### targets -/
def wG (X : Cx) (tg : Expr) : TG := fun v σ H Q => ∀ pins s u, Inv X pins σ H s → RelV v u → wpAny (model X.prog X.w) X.A (assign tg X.env u) (fun _ s' => ∃ σ' H', Inv X pins σ' H' s' ∧ Q σ' H') X.xe s
theorem wG.pg {tg : Expr} : PG X tg (wG X tg) := ⟨fun pins s _ _ _ u _ I r h => h pins s u I r⟩
theorem wG.of {tg : Expr} {t : TG} {v : V} {σ : L2.St} {H : Hp} {Q : L2.St → Hp → Prop} (p : PG X tg t) (h : t v σ H Q) : wG X tg v σ H Q := fun pins s u I r => p.run pins s σ H v u Q I r h
def wGs (X : Cx) (ts : List Expr) : TGs := fun vs σ H Q => ∀ pins s us, Inv X pins σ H s → Vals vs us → wpAny (model X.prog X.w) X.A (assignInOrder ((assignEach ts X.env).map (·.2)) us) (fun _ s' => ∃ σ' H', Inv X pins σ' H' s' ∧ Q σ' H') X.xe s
theorem wGs.pgs {ts : List Expr} : PGs X ts (wGs X ts) := ⟨fun pins s _ _ _ us _ I r h => h pins s us I r⟩
theorem wGs.of {ts : List Expr} {t : TGs} {vs : List V} {σ : L2.St} {H : Hp} {Q : L2.St → Hp → Prop} (p : PGs X ts t) (h : t vs σ H Q) : wGs X ts vs σ H Q := fun pins s us I r => p.run pins s σ H vs us Q I r h
def OnlyAt (vs : List Nat) (τ τ' : L2.St) : Prop := τ'.length = τ.length ∧ ∀ j, j ∉ vs → τ'[j]? = τ[j]?
variable (G X) in
def RG (tg : Expr) (vs : List Nat) (g : EV → ES → Option ES) : Prop := ∀ (v : EV) (x : V) (σ σ' : ES) (τ : L2.St) (ρ : List Addr) (H : Hp) (h : EH) (Q : L2.St → Hp → Prop), Rel G ρ h H → SR G.K ρ H σ τ → Rep G.K ρ H v x → g v σ = some σ' →
  (∀ τ', SR G.K ρ H σ' τ' → OnlyAt vs τ τ' → Q τ' H) → wG X tg x τ H Q
variable (G X) in
def RGs (ts : List Expr) (vs : List Nat) (g : List EV → ES → Option ES) : Prop := ∀ (ws : List EV) (xs : List V) (σ σ' : ES) (τ : L2.St) (ρ : List Addr) (H : Hp) (h : EH) (Q : L2.St → Hp → Prop), Rel G ρ h H → SR G.K ρ H σ τ → RepL G.K ρ H ws xs → g ws σ = some σ' →
  (∀ τ', SR G.K ρ H σ' τ' → OnlyAt vs τ τ' → Q τ' H) → wGs X ts xs τ H Q
theorem rg_name {i : Nat} {x : Str} {pos : Pos} (hN : X.N.Nodup) (hi : X.N[i]? = some x := by rfl) (hx : Loc X.env.scope x := by first | exact Or.inl rfl | exact Or.inr rfl) (hf : X.fn x = true ∨ X.env.scope.names.lookup x = some .local := by first | exact .inl rfl | exact .inr rfl) : RG G X (.Name x pos) [i] (gN i) := by
  intro v w σ σ' τ ρ H h Q R S r e k
  cases e
  refine wG.of (pg_name hN hi hx hf) ?_
  exact k _ (S.set r) ⟨by simp, fun j hj => List.getElem?_set_ne (fun z => hj (by simp [z]))⟩
theorem rgs_nil : RGs G X [] [] gNilS := by
  intro ws xs σ σ' τ ρ H h Q R S r e k
  cases r with
  | nil =>
    cases e
    exact wGs.of pgs_nil ⟨rfl, k _ S ⟨rfl, fun _ _ => rfl⟩⟩
  | cons a b => cases e
theorem rgs_cons {t : Expr} {ts : List Expr} {vs ws : List Nat} {g1 : EV → ES → Option ES} {g2 : List EV → ES → Option ES} (h1 : RG G X t vs g1) (h2 : RGs G X ts ws g2) (hs : (assignEach (t :: ts) X.env).map (·.2) = assign t X.env :: (assignEach ts X.env).map (·.2) := by rfl) :
    RGs G X (t :: ts) (vs ++ ws) (gConsS g1 g2) := by
  intro us xs σ σ' τ ρ H h Q R S r e k
  cases r with
  | nil => cases e
  | @cons u x us xs ra rb =>
    have e : (g1 u σ).bind (g2 us) = some σ' := e
    cases e1 : g1 u σ with
    | none => rw [e1] at e; cases e
    | some σ1 =>
      rw [e1] at e
      refine wGs.of (pgs_cons wG.pg wGs.pgs hs) ⟨x, xs, rfl, ?_⟩
      refine h1 u x σ σ1 τ ρ H h _ R S ra e1 fun τ1 S1 o1 => ?_
      refine h2 us xs σ1 σ' τ1 ρ H h Q R S1 rb e fun τ2 S2 o2 => ?_
      refine k τ2 S2 ⟨o2.1.trans o1.1, fun j hj => ?_⟩
      rw [o2.2 j (fun z => hj (List.mem_append_right _ z)), o1.2 j (fun z => hj (List.mem_append_left _ z))]
theorem rg_tup {ts : List Expr} {vs : List Nat} {g : List EV → ES → Option ES} {kk n : Nat} {pos : Pos} (h : RGs G X ts vs g) (hc : X.calm = true := by rfl) (hn : (assignEach ts X.env).length = n := by rfl) (hst : (assignEach ts X.env).findIdx? (·.1) = none := by rfl) (hK : X.K = G.K := by rfl) :
    RG G X (.Tuple ts kk pos) vs (gTupS n g) := by
  intro v x σ σ' τ ρ H hh Q R S r e k
  cases r with
  | @tup a ws xs q rr =>
    have e : (if xs.length = n then g xs σ else none) = some σ' := e
    split at e
    · rename_i hl
      refine wG.of (pg_tup hc wGs.pgs hn hst) ⟨a, ws, rfl, by rw [hK]; exact q, by rw [← rr.length]; exact hl, ?_⟩
      exact h xs ws σ σ' τ ρ H hh Q R S rr e k
    · cases e
  | _ => cases e

/-! ### simple statements -/
theorem rss_nil : RSs G X [] sNil := fun σ h ρ τ H D R S f => wSs.of pss_nil (f ρ H τ Ext.refl R S)
theorem rss_cons {st : Stmt} {rest : List Stmt} {f g : ES → EH → FL} (h1 : RS G X st f) (h2 : RSs G X rest g) : RSs G X (st :: rest) (sSeq f g) := by
  intro σ h ρ τ H D R S ff
  refine wSs.of (pss_cons wS.ps wSs.pss) ?_
  refine h1 σ h ρ τ H _ R S ?_
  cases e : f σ h with
  | nx σ' h' =>
    have ff : FinS G X ρ H D ((f σ h).seq g) := ff
    rw [e] at ff
    exact fun ρ' H' τ' e' R' S' => h2 σ' h' ρ' τ' H' D R' S' (FinS.start e' ff)
  | rt v h' =>
    have ff : FinS G X ρ H D ((f σ h).seq g) := ff
    rw [e] at ff; exact ff
  | bk v h' =>
    have ff : FinS G X ρ H D ((f σ h).seq g) := ff
    rw [e] at ff; exact ff
  | ct v h' =>
    have ff : FinS G X ρ H D ((f σ h).seq g) := ff
    rw [e] at ff; exact ff
  | exc c fs v h' =>
    have ff : FinS G X ρ H D ((f σ h).seq g) := ff
    rw [e] at ff; exact ff
  | stuck =>
    have ff : FinS G X ρ H D ((f σ h).seq g) := ff
    rw [e] at ff; exact ff
theorem rss_one {st : Stmt} {f : ES → EH → FL} (h1 : RS G X st f) : RSs G X [st] f := fun σ h ρ τ H D R S ff => wSs.of (pss_one wS.ps) (h1 σ h ρ τ H D R S ff)
/-- x = e -/
theorem rs_set {i : Nat} {x : Str} {e : Expr} {f : ES → M EV} {pos pos' : Pos} (hN : X.N.Nodup) (he : RE G X e f) (hi : X.N[i]? = some x := by rfl) (hx : Loc X.env.scope x := by first | exact Or.inl rfl | exact Or.inr rfl) (hs : swapsWith e (some (.Name x pos')) pos.line X.env = pure false := by rfl)
    (hf : X.fn x = true ∨ X.env.scope.names.lookup x = some .local := by first | exact .inl rfl | exact .inr rfl) : RS G X (.Assign [.Name x pos'] e pos) (sSet (gN i) f) := by
  intro σ h ρ τ H D R S ff
  refine wS.of (ps_set hN hi hx wE.pe hs hf) ?_
  refine he σ h ρ τ H _ R S (FinE.imp (FinS.fl S ff) fun v h1 ρ1 H1 e1 R1 f1 w rw' => ?_)
  exact f1 ρ1 H1 _ Ext.refl R1 ((S.mono e1.toMo).set rw')
/-- a, b = e -/
theorem rs_asg {tg e : Expr} {f : ES → M EV} {g : EV → ES → Option ES} {vs : List Nat} {pos : Pos} (he : RE G X e f) (hg : RG G X tg vs g) (hs : swapsWithSole [tg] e pos.line X.env = pure false := by rfl) (hw : swappedStores [tg] e X.env = pure none := by rfl)
    (h1 : (assignEach [tg] X.env).map (·.2) = [assign tg X.env] := by rfl) : RS G X (.Assign [tg] e pos) (sSet g f) := by
  intro σ h ρ τ H D R S ff
  refine wS.of (ps_asg wE.pe wG.pg hs hw h1) ?_
  refine he σ h ρ τ H _ R S (FinE.imp (FinS.fl S ff) fun v h1 ρ1 H1 e1 R1 f1 w rw' => ?_)
  split at f1
  · rename_i σ' eg
    exact hg v w σ σ' τ ρ1 H1 h1 _ R1 (S.mono e1.toMo) rw' eg fun τ' S' _ => f1 ρ1 H1 τ' Ext.refl R1 S'
  · exact f1.elim
theorem rs_expr {e : Expr} {f : ES → M EV} {pos : Pos} (he : RE G X e f) (hs : swapsWith e none pos.line X.env = pure false := by rfl) : RS G X (.Expr e pos) (sExpr f) := by
  intro σ h ρ τ H D R S ff
  refine wS.of (ps_expr wE.pe hs) ?_
  exact he σ h ρ τ H _ R S (FinE.imp (FinS.fl S ff) fun v h1 ρ1 H1 e1 R1 f1 w rw' => f1 ρ1 H1 τ Ext.refl R1 (S.mono e1.toMo))
theorem rs_ret {e : Expr} {f : ES → M EV} {pos : Pos} (he : RE G X e f) : RS G X (.Return (some e) pos) (sRet f) := by
  intro σ h ρ τ H D R S ff
  refine wS.of (ps_ret wE.pe) ?_
  exact he σ h ρ τ H _ R S (FinE.imp (FinS.fl S ff) fun v h1 ρ1 H1 e1 R1 f1 w rw' => f1 ρ1 H1 w Ext.refl R1 rw')
theorem rs_retN {pos : Pos} : RS G X (.Return none pos) sRetN := fun σ h ρ τ H D R S ff => wS.of ps_retN (ff ρ H _ Ext.refl R .non)
theorem rs_pass {pos : Pos} : RS G X (.Pass pos) sNil := fun σ h ρ τ H D R S ff => wS.of ps_pass (ff ρ H τ Ext.refl R S)
theorem rs_brk {pos : Pos} : RS G X (.Break pos) sBrk := fun σ h ρ τ H D R S ff => wS.of ps_break (ff ρ H τ Ext.refl R S)
theorem rs_cont {pos : Pos} : RS G X (.Continue pos) sCont := fun σ h ρ τ H D R S ff => wS.of ps_continue (ff ρ H τ Ext.refl R S)
theorem rs_if {c : Expr} {a b : List Stmt} {t : ES → M Bool} {fa fb : ES → EH → FL} {pos : Pos} (hc : RT G X c t) (ha : RSs G X a fa) (hb : RSs G X b fb) : RS G X (.If c a b pos) (sIf t fa fb) := by
  intro σ h ρ τ H D R S ff
  refine wS.of (ps_if wT.pt wSs.pss wSs.pss) ?_
  refine hc σ h ρ τ H _ R S (FinE.imp (FinS.fl S ff) fun d h1 ρ1 H1 e1 R1 f1 => ?_)
  cases d with
  | true => exact ha σ h1 ρ1 τ H1 D R1 (S.mono e1.toMo) f1
  | false => exact hb σ h1 ρ1 τ H1 D R1 (S.mono e1.toMo) f1

/-! ### what is walked -/
def wI (X : Cx) (tg iter : Expr) : TI := fun σ H R => ∀ pins s, Inv X pins σ H s → wpAny (model X.prog X.w) X.A (eval iter X.env) (fun v s1 => wpAny (model X.prog X.w) X.A (pyIter v) (PIE X pins σ tg R) X.xe s1) X.xe s
theorem wI.pi {tg iter : Expr} : PI X tg iter (wI X tg iter) := ⟨fun pins s _ _ _ I h => h pins s I⟩
theorem wI.of {tg iter : Expr} {t : TI} {σ : L2.St} {H : Hp} {R : It → Hp → Prop} (p : PI X tg iter t) (h : t σ H R) : wI X tg iter σ H R := fun pins s I => p.run pins s σ H R I h
def Wk (G : Wd) (J : It) (C : List Addr → Hp → Prop) : IT → Prop
  | .vals xs => (∀ ρ H ρ' H', C ρ H → Ext ρ H ρ' H' → C ρ' H') ∧ (∀ ρ h H i, Rel G ρ h H → C ρ H → xs.length ≤ i → J.stop i H) ∧
      ∀ ρ h H i x, Rel G ρ h H → C ρ H → xs[i]? = some x → J.go i H ∧ ∀ v H', J.yld i H v H' → Ext ρ H ρ H' ∧ Rel G ρ h H' ∧ Rep G.K ρ H' x v
  | .obj n => ∃ a, C = (fun ρ _ => ρ[n]? = some a) ∧ J = Itl G.K a
variable (G X) in
def RI (tg iter : Expr) (fi : ES → M IT) : Prop := ∀ (σ : ES) (h : EH) (ρ : List Addr) (τ : L2.St) (H : Hp) (R' : It → Hp → Prop), Rel G ρ h H → SR G.K ρ H σ τ →
  FinE G X τ ρ H (fi σ h) (fun it _ ρ' H' => ∀ J C, Wk G J C it → C ρ' H' → R' J H') → wI X tg iter τ H R'
/-- a sequence that stays as it is -/
theorem wk_tup {a : Addr} {vs : List V} {xs : List EV} : Wk G (Itt G.K a) (fun ρ H => SqT G.K H a vs ∧ RepL G.K ρ H xs vs) (.vals xs) := by
  refine ⟨fun ρ H ρ' H' c e => ⟨e.toMo.sqT c.1, c.2.mono e.toMo⟩, fun ρ h H i R c l => ⟨vs, c.1, by rw [← c.2.length]; exact l⟩, fun ρ h H i x R c l => ?_⟩
  obtain ⟨v, hv, rv⟩ := c.2.get l
  refine ⟨⟨vs, v, c.1, hv⟩, fun w H' y => ?_⟩
  obtain ⟨rfl, y⟩ := y
  have := y vs c.1
  rw [hv] at this; cases this
  exact ⟨Ext.refl, R, rv⟩
theorem wk_lst {a : Addr} {vs : List V} {xs : List EV} (C : List Addr → Hp → Prop) (hC : ∀ ρ H ρ' H', C ρ H → Ext ρ H ρ' H' → C ρ' H') (hq : ∀ ρ H, C ρ H → SqL G.K H a vs ∧ RepL G.K ρ H xs vs) : Wk G (Itl G.K a) C (.vals xs) := by
  refine ⟨hC, fun ρ h H i R c l => ⟨vs, (hq _ _ c).1, by rw [← (hq _ _ c).2.length]; exact l⟩, fun ρ h H i x R c l => ?_⟩
  obtain ⟨v, hv, rv⟩ := (hq _ _ c).2.get l
  refine ⟨⟨vs, v, (hq _ _ c).1, hv⟩, fun w H' y => ?_⟩
  obtain ⟨rfl, y⟩ := y
  have := y vs (hq _ _ c).1
  rw [hv] at this; cases this
  exact ⟨Ext.refl, R, rv⟩
theorem wk_str {s : Str} : Wk G (Its s) (fun _ _ => True) (.vals (chars s)) := by
  refine ⟨fun _ _ _ _ _ _ => trivial, fun ρ h H i R c l => ?_, fun ρ h H i x R c l => ?_⟩
  · show s.cps.size ≤ i
    simpa [chars] using l
  · have hl : i < s.cps.size := by
      have := (List.getElem?_eq_some_iff.mp l).1
      simpa [chars] using this
    refine ⟨hl, fun w H' y => ?_⟩
    obtain ⟨rfl, c', hc', rfl⟩ := y
    have : x = .str ⟨#[c']⟩ := by
      simp only [chars, List.getElem?_map] at l
      rw [show s.cps.toList[i]? = some c' by simpa using hc'] at l
      exact (Option.some.inj l).symm
    subst this
    exact ⟨Ext.refl, R, .str _⟩
theorem wk_rng {lo : Int} {n : Nat} : Wk G (Itr lo n) (fun _ _ => True) (.vals (rangeL lo n)) := by
  refine ⟨fun _ _ _ _ _ _ => trivial, fun ρ h H i R c l => ?_, fun ρ h H i x R c l => ?_⟩
  · show n ≤ i
    simpa [rangeL] using l
  · have hl : i < n := by
      have := (List.getElem?_eq_some_iff.mp l).1
      simpa [rangeL] using this
    refine ⟨hl, fun w H' y => ?_⟩
    obtain ⟨rfl, rfl⟩ := y
    have : x = .int (lo + (i : Nat)) := by
      simp only [rangeL, List.getElem?_map, List.getElem?_range hl] at l
      exact (Option.some.inj l).symm
    subst this
    exact ⟨Ext.refl, R, .int _⟩
theorem ri_val {tg e : Expr} {f : ES → M EV} (he : RE G X e f) (hK : X.K = G.K := by rfl) : RI G X tg e (iVal f) := by
  intro σ h ρ τ H R' R S ff
  have ff := FinE.bind ff
  cases e0 : f σ h with
  | stuck => rw [e0] at ff; exact ff.elim
  | exc c fs h' =>
    refine wI.of (pi_list wE.pe) ?_
    refine he σ h ρ τ H _ R S ?_
    rw [e0] at ff ⊢
    exact ff
  | ok v h1 =>
    rw [e0] at ff
    have go : ∀ {t : TI} (p : PI X tg e t), (∀ (k : VK), (∀ ρ1 H1 w, Ext ρ H ρ1 H1 → Rel G ρ1 h1 H1 → Rep G.K ρ1 H1 v w → k w H1) → wE X e τ H k) → t τ H R' → wI X tg e τ H R' := fun p _ h => wI.of p h
    have run : ∀ (k : VK), (∀ ρ1 H1 w, Ext ρ H ρ1 H1 → Rel G ρ1 h1 H1 → Rep G.K ρ1 H1 v w → k w H1) → wE X e τ H k := fun k hk => by
      refine he σ h ρ τ H k R S ?_
      rw [e0]
      exact fun ρ1 H1 e1 R1 w rw' => hk ρ1 H1 w e1 R1 rw'
    cases v with
    | tup xs =>
      refine wI.of (pi_tup wE.pe) (run _ fun ρ1 H1 w e1 R1 r => ?_)
      cases r with
      | @tup a vs _ q rr =>
        refine ⟨a, rfl, ⟨vs, by rw [hK]; exact q⟩, ?_⟩
        rw [hK]
        exact ff ρ1 H1 e1 R1 ρ1 H1 Ext.refl R1 _ _ wk_tup ⟨q, rr⟩
    | rl xs =>
      refine wI.of (pi_list wE.pe) (run _ fun ρ1 H1 w e1 R1 r => ?_)
      cases r with
      | @rl a vs _ q rr =>
        refine ⟨a, rfl, ⟨vs, by rw [hK]; exact q.sq⟩, ?_⟩
        rw [hK]
        exact ff ρ1 H1 e1 R1 ρ1 H1 Ext.refl R1 _ _ (wk_lst (fun ρ H => RoL G.K H a vs ∧ RepL G.K ρ H xs vs) (fun ρ H ρ' H' c e => ⟨e.toMo.roL c.1, c.2.mono e.toMo⟩) fun ρ H c => ⟨c.1.sq, c.2⟩) ⟨q, rr⟩
    | str s =>
      refine wI.of (pi_str wE.pe) (run _ fun ρ1 H1 w e1 R1 r => ?_)
      cases r
      exact ⟨s, rfl, ff ρ1 H1 e1 R1 ρ1 H1 Ext.refl R1 _ _ wk_str trivial⟩
    | ref n =>
      cases e2 : h1[n]? with
      | none =>
        have := ff
        refine wI.of (pi_list wE.pe) (run _ fun ρ1 H1 w e1 R1 r => ?_)
        have z := ff ρ1 H1 e1 R1
        simp only [itOf, e2] at z
        exact z.elim
      | some o =>
        cases o with
        | lst xs =>
          refine wI.of (pi_list wE.pe) (run _ fun ρ1 H1 w e1 R1 r => ?_)
          have z := ff ρ1 H1 e1 R1
          simp only [itOf, e2] at z
          obtain ⟨a, rfl, qa, vs, hv, rv⟩ := getref R1 r e2
          refine ⟨a, rfl, ⟨vs, .inl (.inl hv)⟩, ?_⟩
          rw [hK]
          exact z ρ1 H1 Ext.refl R1 _ _ ⟨a, rfl, rfl⟩ qa
        | _ =>
          refine wI.of (pi_list wE.pe) (run _ fun ρ1 H1 w e1 R1 r => ?_)
          have z := ff ρ1 H1 e1 R1
          simp only [itOf, e2] at z
          exact z.elim
    | _ =>
      refine wI.of (pi_list wE.pe) (run _ fun ρ1 H1 w e1 R1 r => ?_)
      exact (ff ρ1 H1 e1 R1).elim
theorem ri_lst {tg e : Expr} {f : ES → M (List EV)} (he : RL G X e f) (hK : X.K = G.K := by rfl) : RI G X tg e (iLst f) := by
  intro σ h ρ τ H R' R S ff
  refine wI.of (pi_list wE.pe) ?_
  refine he σ h ρ τ H _ R S (FinE.imp (FinE.bind ff) fun xs h1 ρ1 H1 e1 R1 f1 p vs hp m l r => ?_)
  refine ⟨p, rfl, ⟨vs, .inl (.inl l)⟩, ?_⟩
  rw [hK]
  refine f1 ρ1 H1 Ext.refl R1 _ _ (wk_lst (fun ρ H => p ∉ ρ ∧ H p = some (.lst vs) ∧ RepL G.K ρ H xs vs) (fun ρ H ρ' H' c e => ⟨fun m' => ?_, e.oth p _ c.1 c.2.1, c.2.2.mono e.toMo⟩) fun ρ H c => ⟨.inl (.inl c.2.1), c.2.2⟩) ⟨m, l, r⟩
  rcases e.new p m' with z | z
  · exact c.1 z
  · rw [c.2.1] at z; cases z
theorem ri_range1 {tg a : Expr} {fa : ES → M (List EV)} {p pos : Pos} (hg : Gl X "range") (hm : X.mg "range" = none) (ha : RA G X [a] fa) (hs : starEach [a] X.env = [(false, eval a X.env)] := by rfl) : RI G X tg (.Call (.Name "range" p) [a] [] pos) (iRng1' fa) := by
  intro σ h ρ τ H R' R S ff
  refine wI.of (pi_range1 hg hm wA.pa hs) ?_
  refine ha σ h ρ τ H _ R S (FinE.imp (FinE.bind ff) fun xs h1 ρ1 H1 e1 R1 f1 vs r => ?_)
  unfold rng1 at f1
  split at f1
  · rename_i j
    split at f1
    · rename_i c
      cases r with
      | cons a b =>
        cases a; cases b
        exact ⟨j, rfl, c.1, c.2, f1 ρ1 H1 Ext.refl R1 _ _ wk_rng trivial⟩
    · exact f1.elim
  · exact f1.elim
theorem ri_range2 {tg a b : Expr} {fa : ES → M (List EV)} {p pos : Pos} (hg : Gl X "range") (hm : X.mg "range" = none) (ha : RA G X [a, b] fa) (hs : starEach [a, b] X.env = [(false, eval a X.env), (false, eval b X.env)] := by rfl) (hs2 : starEach [b] X.env = [(false, eval b X.env)] := by rfl) : RI G X tg (.Call (.Name "range" p) [a, b] [] pos) (iRng2' fa) := by
  intro σ h ρ τ H R' R S ff
  refine wI.of (pi_range2 hg hm wA.pa hs hs2) ?_
  refine ha σ h ρ τ H _ R S (FinE.imp (FinE.bind ff) fun xs h1 ρ1 H1 e1 R1 f1 vs r => ?_)
  unfold rng2 at f1
  split at f1
  · rename_i i j
    split at f1
    · rename_i c
      cases r with
      | cons a b =>
        cases b with
        | cons b d =>
          cases a; cases b; cases d
          exact ⟨i, j, rfl, c, f1 ρ1 H1 Ext.refl R1 _ _ wk_rng trivial⟩
    · exact f1.elim
  · exact f1.elim
end
end Z
end

section
/-! Z, loops, comprehensions, defs. -/
namespace Z
open PySem PySem.Spec PyProof.Rows L2
section
variable {G : Wd} {X : Cx}
/-- behind a loop's body -/
theorem FinS.loop {ρ : List Addr} {H : Hp} {D : Ends} {r : FL} {go : ES → EH → FL} {N : L2.St → Hp → Prop} (f : FinS G X ρ H D (r.loop go))
    (n : ∀ σ' h' ρ' H' τ', Ext ρ H ρ' H' → Rel G ρ' h' H' → SR G.K ρ' H' σ' τ' → FinS G X ρ' H' D (go σ' h') → N τ' H') : FinS G X ρ H { D with nx := N, ct := N, bk := D.nx } r := by
  cases r with
  | nx σ' h' => exact fun ρ' H' τ' e R S => n σ' h' ρ' H' τ' e R S (FinS.start e f)
  | ct σ' h' => exact fun ρ' H' τ' e R S => n σ' h' ρ' H' τ' e R S (FinS.start e f)
  | bk σ' h' => exact f
  | rt v h' => exact f
  | exc c fs σ' h' => exact f
  | stuck => exact f
theorem rs_for {tg iter : Expr} {body : List Stmt} {fi : ES → M IT} {g : EV → ES → Option ES} {vs : List Nat} {fb : ES → EH → FL} {pos : Pos} (hp : PassesOwn (model X.prog X.w) X.A X.env X.xe) (hi : RI G X tg iter fi) (hg : RG G X tg vs g) (hb : RSs G X body fb)
    (hc : X.calm = true := by rfl) (hs : ∀ x, foldedSetIterable iter X.env x = pure x := by intro _; rfl) : RS G X (.For tg iter body [] pos) (sFor fi g fb) := by
  intro σ h ρ τ H D R S ff
  refine wS.of (ps_for hp hc wI.pi wG.pg wSs.pss hs) ?_
  refine hi σ h ρ τ H _ R S (FinE.imp (FinS.fl S ff) fun it h1 ρ1 H1 e1 R1 f1 J C wk c => ?_)
  cases it with
  | vals xs =>
    obtain ⟨wC, wS', wG'⟩ := wk
    refine ⟨fun i m τ' H' => ∃ ρ' h' σ', C ρ' H' ∧ Rel G ρ' h' H' ∧ SR G.K ρ' H' σ' τ' ∧ m = xs.length - i ∧ FinS G X ρ' H' D (forL g fb (xs.drop i) σ' h'),
      ⟨xs.length, ρ1, h1, σ, c, R1, S.mono e1.toMo, rfl, f1⟩, ?_⟩
    rintro i m τ' H' ⟨ρ', h', σ', c', R', S', rfl, f'⟩
    by_cases hi : i < xs.length
    · have hx : xs[i]? = some xs[i] := List.getElem?_eq_getElem hi
      obtain ⟨go, yl⟩ := wG' ρ' h' H' i _ R' c' hx
      refine .inr ⟨go, fun τ2 H2 => ∃ ρ2 h2 σ2, C ρ2 H2 ∧ Rel G ρ2 h2 H2 ∧ SR G.K ρ2 H2 σ2 τ2 ∧ FinS G X ρ2 H2 D (forL g fb (xs.drop (i + 1)) σ2 h2), fun τ2 H2 ⟨ρ2, h2, σ2, c2, R2, S2, f2⟩ => ⟨_, by omega, ρ2, h2, σ2, c2, R2, S2, rfl, f2⟩, fun v H2 y => ?_⟩
      obtain ⟨e2, R2, r2⟩ := yl v H2 y
      rw [List.drop_eq_getElem_cons hi] at f'
      have f2 := FinS.start e2 f'
      simp only [forL] at f2
      cases eg : g xs[i] σ' with
      | none => rw [eg] at f2; exact f2.elim
      | some σ1 =>
        rw [eg] at f2
        refine hg _ v σ' σ1 τ' ρ' H2 h' _ R2 (S'.mono e2.toMo) r2 eg fun τ1 S1 _ => ?_
        refine hb σ1 h' ρ' τ1 H2 _ R2 S1 (FinS.loop f2 fun σ3 h3 ρ3 H3 τ3 e3 R3 S3 f3 => ⟨ρ3, h3, σ3, wC _ _ _ _ c' (e2.trans e3), R3, S3, f3⟩)
    · have hd : xs.drop i = [] := List.drop_eq_nil_of_le (by omega)
      rw [hd] at f'
      exact .inl ⟨wS' ρ' h' H' i R' c' (by omega), f' ρ' H' τ' Ext.refl R' S'⟩
  | obj n =>
    obtain ⟨a, rfl, rfl⟩ := wk
    refine ⟨fun i m τ' H' => ∃ ρ' h' σ', ρ'[n]? = some a ∧ Rel G ρ' h' H' ∧ SR G.K ρ' H' σ' τ' ∧ FinS G X ρ' H' D (forN g fb n m i σ' h'), ⟨100001, ρ1, h1, σ, c, R1, S.mono e1.toMo, f1⟩, ?_⟩
    rintro i m τ' H' ⟨ρ', h', σ', c', R', S', f'⟩
    cases m with
    | zero => exact f'.elim
    | succ m =>
      simp only [forN] at f'
      split at f'
      · rename_i xs eo
        obtain ⟨a', qa, vs', hv, rv⟩ := R'.at eo
        rw [c'] at qa
        obtain rfl : a = a' := Option.some.inj qa
        split at f'
        · rename_i ex
          refine .inl ⟨⟨vs', .inl (.inl hv), ?_⟩, f' ρ' H' τ' Ext.refl R' S'⟩
          rw [← rv.length]; exact List.getElem?_eq_none_iff.mp ex
        · rename_i x ex
          obtain ⟨v0, hv0, rv0⟩ := rv.get ex
          refine .inr ⟨⟨vs', v0, .inl (.inl hv), hv0⟩, fun τ2 H2 => ∃ ρ2 h2 σ2, ρ2[n]? = some a ∧ Rel G ρ2 h2 H2 ∧ SR G.K ρ2 H2 σ2 τ2 ∧ FinS G X ρ2 H2 D (forN g fb n m (i + 1) σ2 h2), fun τ2 H2 ⟨ρ2, h2, σ2, c2, R2, S2, f2⟩ => ⟨m, by omega, ρ2, h2, σ2, c2, R2, S2, f2⟩, fun v H2 y => ?_⟩
          obtain ⟨rfl, y⟩ := y
          have y' := y vs' (.inl (.inl hv))
          rw [hv0] at y'; cases y'
          cases eg : g x σ' with
          | none => rw [eg] at f'; exact f'.elim
          | some σ1 =>
            rw [eg] at f'
            refine hg _ _ σ' σ1 τ' ρ' H2 h' _ R' S' rv0 eg fun τ1 S1 _ => ?_
            refine hb σ1 h' ρ' τ1 H2 _ R' S1 (FinS.loop f' fun σ3 h3 ρ3 H3 τ3 e3 R3 S3 f3 => ⟨ρ3, h3, σ3, e3.toMo.get c', R3, S3, f3⟩)
      · exact f'.elim
theorem rs_while {c : Expr} {body : List Stmt} {t : ES → M Bool} {fb : ES → EH → FL} {pos : Pos} {n : Nat} (hp : PassesOwn (model X.prog X.w) X.A X.env X.xe) (hc : RT G X c t) (hb : RSs G X body fb) : RS G X (.While c body [] pos) (whileK t fb n) := by
  intro σ h ρ τ H D R S ff
  refine wS.of (ps_while hp wT.pt wSs.pss) ?_
  refine ⟨fun m τ' H' => ∃ ρ' h' σ', Rel G ρ' h' H' ∧ SR G.K ρ' H' σ' τ' ∧ FinS G X ρ' H' D (whileK t fb m σ' h'), ⟨n, ρ, h, σ, R, S, ff⟩, ?_⟩
  rintro m τ' H' ⟨ρ', h', σ', R', S', f'⟩
  cases m with
  | zero => exact f'.elim
  | succ m =>
    simp only [whileK] at f'
    refine hc σ' h' ρ' τ' H' _ R' S' (FinE.imp (FinS.fl S' f') fun b h1 ρ1 H1 e1 R1 f1 => ?_)
    cases b with
    | false => exact f1 ρ1 H1 τ' Ext.refl R1 (S'.mono e1.toMo)
    | true =>
      rw [if_pos rfl]
      refine ⟨fun τ2 H2 => ∃ ρ2 h2 σ2, Rel G ρ2 h2 H2 ∧ SR G.K ρ2 H2 σ2 τ2 ∧ FinS G X ρ2 H2 D (whileK t fb m σ2 h2), fun τ2 H2 ⟨ρ2, h2, σ2, R2, S2, f2⟩ => ⟨m, by omega, ρ2, h2, σ2, R2, S2, f2⟩, ?_⟩
      exact hb σ' h1 ρ1 τ' H1 _ R1 (S'.mono e1.toMo) (FinS.loop f1 fun σ3 h3 ρ3 H3 τ3 e3 R3 S3 f3 => ⟨ρ3, h3, σ3, R3, S3, f3⟩)

/-! ### comprehensions -/
theorem wipeE_length (σ : ES) : ∀ vs, (wipeE σ vs).length = σ.length
  | [] => rfl
  | v :: vs => by unfold wipeE; rw [List.length_set, wipeE_length σ vs]
theorem SR.wipe {K : PySem.W.Frag} {ρ : List Addr} {H : Hp} {σ : ES} {τ : L2.St} (S : SR K ρ H σ τ) : ∀ vs, SR K ρ H (wipeE σ vs) (wipe τ vs)
  | [] => S
  | v :: vs => (SR.wipe S vs).clear
theorem wipe_get {τ : L2.St} {j : Nat} : ∀ {vs : List Nat}, j ∉ vs → (wipe τ vs)[j]? = τ[j]?
  | [], _ => rfl
  | v :: vs, h => by
    unfold wipe
    rw [List.getElem?_set_ne (fun z => h (by simp [z]))]
    exact wipe_get fun z => h (List.mem_cons_of_mem _ z)
theorem wipe_in {τ : L2.St} {j : Nat} : ∀ {vs : List Nat}, j ∈ vs → (wipe τ vs)[j]? = if j < τ.length then some none else none
  | v :: vs, h => by
    unfold wipe
    by_cases e : v = j
    · subst e
      by_cases hl : v < τ.length
      · rw [if_pos hl, List.getElem?_set_self (by rw [wipe_length]; exact hl)]
      · rw [if_neg hl]
        exact List.getElem?_eq_none (by rw [List.length_set, wipe_length]; omega)
    · rw [List.getElem?_set_ne e]
      rcases List.mem_cons.mp h with z | z
      · exact absurd z.symm e
      · exact wipe_in z
theorem wipe_same {τ τ' : L2.St} {vs : List Nat} (o : OnlyAt vs (wipe τ vs) τ') : wipe τ' vs = wipe τ vs := by
  apply List.ext_getElem?
  intro j
  by_cases hj : j ∈ vs
  · rw [wipe_in hj, wipe_in hj, o.1, wipe_length]
  · rw [wipe_get hj, o.2 j hj]
theorem FinE.noExc {α : Type} {τ τ' : L2.St} {X' : Cx} {ρ : List Addr} {H : Hp} {r : R α} {k : α → EH → List Addr → Hp → Prop} (f : FinE G X τ ρ H (noExc r) k) : FinE G X' τ' ρ H r k := by
  cases r with
  | ok a h => exact f
  | exc c fs h => exact f.elim
  | stuck => exact f.elim
/-- a block's context -/
abbrev blkX (X : Cx) (s : Shared) (H : Hp) (scope : Scope) (C : Addr) (cl : List (Str × Addr)) (fp : List Addr) : Cx := X.blk s H scope (compEnvC scope cl C X.env) fp
def gB (X : Cx) (scope : Scope) (tg : Expr) : TG := fun v σ H Q => ∀ s H' C cl fp, wG (blkX X s H' scope C cl fp) tg v σ H Q
def tBk (X : Cx) (scope : Scope) (ifs : List Expr) : TT := fun σ H Q => ∀ s H' C cl fp (pins : List (Addr × Obj)) (s1 : Shared), Inv (blkX X s H' scope C cl fp) pins σ H s1 →
  wpAny (model X.prog X.w) X.A (forIn ifs true fun c r => if r = true then do let ok ← isTrue c (blkX X s H' scope C cl fp).env (eval c (blkX X s H' scope C cl fp).env); pure (ForInStep.yield ok) else pure (ForInStep.yield r)) (TP (blkX X s H' scope C cl fp) pins σ Q) (blkX X s H' scope C cl fp).xe s1
def eB (X : Cx) (scope : Scope) (e : Expr) : TE := fun σ H Q => ∀ s H' C cl fp, wE (blkX X s H' scope C cl fp) e σ H Q
variable (G X) in
def RTs (ifs : List Expr) (f : ES → M Bool) : Prop := ∀ (σ : ES) (h : EH) (ρ : List Addr) (τ : L2.St) (H : Hp) (Q : Bool → Hp → Prop), Rel G ρ h H → SR G.K ρ H σ τ →
  FinE G X τ ρ H (f σ h) (fun b _ _ H' => Q b H') → ∀ pins s, Inv X pins τ H s →
    wpAny (model X.prog X.w) X.A (forIn ifs true fun c r => if r = true then do let ok ← isTrue c X.env (eval c X.env); pure (ForInStep.yield ok) else pure (ForInStep.yield r)) (TP X pins τ Q) X.xe s
theorem rts_nil : RTs G X [] tYes' := fun σ h ρ τ H Q R S f pins s I => pts_nil.run pins s τ H Q I (f ρ H Ext.refl R)
theorem rts_one {c : Expr} {t : ES → M Bool} (h : RT G X c t) : RTs G X [c] t := fun σ h' ρ τ H Q R S f pins s I => (pts_one (wT.pt (X := X))).run pins s τ H Q I (h σ h' ρ τ H Q R S f)
theorem lc_read {elt tg iter : Expr} {ifs : List Expr} {scope : Scope} {own : List (Str × Nat)} {fi : ES → M IT} {g : EV → ES → Option ES} {ft : ES → M Bool} {fe : ES → M EV} (hi : RI G X tg iter fi)
    (hg : ∀ s H C cl fp, RG G (blkX X s H scope C cl fp) tg (own.map (·.2)) g) (ht : ∀ s H C cl fp, RTs G (blkX X s H scope C cl fp) ifs ft) (he : ∀ s H C cl fp, RE G (blkX X s H scope C cl fp) elt fe)
    {σ : ES} {h : EH} {ρ : List Addr} {τ : L2.St} {H : Hp} {Q : VK} (R : Rel G ρ h H) (S : SR G.K ρ H σ τ)
    (ff : FinE G X τ ρ H (lLc fi g ft fe (own.map (·.2)) σ h) (fun xs _ ρ' H' => ∀ p vs, H p = none → p ∉ ρ' → H' p = some (.lst vs) → RepL G.K ρ' H' xs vs → Q (.ref p) H')) :
    tLc (wI X tg iter) (gB X scope tg) (tBk X scope ifs) (eB X scope elt) (own.map (·.2)) τ H Q := by
  refine hi σ h ρ τ H _ R S (FinE.imp (FinE.bind ff) fun it h1 ρ1 H1 e1 R1 f1 J C wk c => ?_)
  intro D hD
  have S1 : SR G.K ρ1 H1 σ τ := S.mono e1.toMo
  have hD0 : H D = none := e1.dom D hD
  let k : List EV → EH → List Addr → Hp → Prop := fun xs _ ρ2 H2 => ∀ p ws, H p = none → p ∉ ρ2 → H2 p = some (.lst ws) → RepL G.K ρ2 H2 xs ws → Q (.ref p) H2
  have key : ∀ {a : Addr} {ρ' ρ2 : List Addr} {H' H2 : Hp} {u : HO}, Ext ρ' H' ρ2 H2 → a ∉ ρ' → H' a = some u → a ∉ ρ2 := fun {a ρ' ρ2 H' H2 u} e n q z => by
    rcases e.new a z with w | w
    · exact n w
    · rw [q] at w; cases w
  -- one turn
  have turn : ∀ (x : EV) (v : V) (σ1 : ES) (acc : List EV) (vs : List V) (ρ' : List Addr) (h' : EH) (H' : Hp) (Nx : Hp → Prop) (rest : List EV → EH → Z.R (List EV)), Ext ρ1 H1 ρ' H' → Rel G ρ' h' H' → D ∉ ρ' → H' D = some (.lst vs) → RepL G.K ρ' H' acc vs → Rep G.K ρ' H' x v → g x (wipeE σ (own.map (·.2))) = some σ1 →
      FinE G X τ ρ1 H1 ((Z.noExc (lcStep ft fe σ1 acc h')).bind rest) k →
      (∀ (acc2 : List EV) (vs2 : List V) ρ2 h2 H2, Ext ρ1 H1 ρ2 H2 → Rel G ρ2 h2 H2 → D ∉ ρ2 → H2 D = some (.lst vs2) → RepL G.K ρ2 H2 acc2 vs2 → FinE G X τ ρ1 H1 (rest acc2 h2) k → Nx H2) →
      gB X scope tg v (wipe τ (own.map (·.2))) H' fun σ2 H2 => wipe σ2 (own.map (·.2)) = wipe τ (own.map (·.2)) ∧ tBk X scope ifs σ2 H2 fun b H3 => if b = true then eB X scope elt σ2 H3 fun y H4 => ∃ acc, H4 D = some (.lst acc) ∧ acc.length < sizeLine ∧ Nx (upd H4 D (.lst (acc ++ [y]))) else Nx H3 := by
    intro x v σ1 acc vs ρ' h' H' Nx rest E' R' m' l' ra rx eg f' nx s0 H0 C0 cl0 fp0
    refine hg s0 H0 C0 cl0 fp0 x v _ σ1 _ ρ' H' h' _ R' ((S1.mono E'.toMo).wipe _) rx eg fun τ2 S2 o2 => ⟨wipe_same o2, fun s3 H3' C3 cl3 fp3 => ?_⟩
    refine ht s3 H3' C3 cl3 fp3 σ1 h' ρ' τ2 H' _ R' S2 ?_
    cases et : ft σ1 h' with
    | stuck => simp only [lcStep, et, Z.R.bind, Z.noExc] at f'; exact f'.elim
    | exc c' fs' h6 => simp only [lcStep, et, Z.R.bind, Z.noExc] at f'; exact f'.elim
    | ok b h2 =>
      intro ρ2 H2 e2 R2
      have m2 := key e2 m' l'
      cases b with
      | false =>
        rw [if_neg (by decide)]
        simp only [lcStep, et, Z.R.bind, Z.noExc] at f'
        exact nx acc vs ρ2 h2 H2 (E'.trans e2) R2 m2 (e2.oth D _ m' l') (ra.mono e2.toMo) f'
      | true =>
        rw [if_pos rfl]
        intro s4 H4' C4 cl4 fp4
        refine he s4 H4' C4 cl4 fp4 σ1 h2 ρ2 τ2 H2 _ R2 (S2.mono e2.toMo) ?_
        cases e5 : fe σ1 h2 with
        | stuck => simp only [lcStep, et, e5, Z.R.bind, Z.noExc] at f'; exact f'.elim
        | exc c fs h5 => simp only [lcStep, et, e5, Z.R.bind, Z.noExc] at f'; exact f'.elim
        | ok y h5 =>
          intro ρ5 H5 e5' R5 w rw5
          simp only [lcStep, et, e5, Z.R.bind, Z.noExc] at f'
          by_cases hl : acc.length < 100000
          · rw [if_pos hl] at f'
            have e25 := e2.trans e5'
            have m5 := key e25 m' l'
            have l5 := e25.oth D _ m' l'
            have ra5 := ra.mono e25.toMo
            refine ⟨vs, l5, by rw [← ra5.length]; exact sz_lt hl, ?_⟩
            have mo := Mo.beside (ρ := ρ5) (u := .lst (vs ++ [w])) l5
            exact nx (acc ++ [y]) (vs ++ [w]) ρ5 h5 _ ((E'.trans e25).aside (vs := vs) hD) (R5.beside m5 l5) m5 upd_same ((ra5.append (.cons rw5 .nil)).mono mo) f'
          · rw [if_neg hl] at f'
            exact f'.elim
  have E0 : Ext ρ1 H1 ρ1 (upd H1 D (.lst [])) := Ext.laid0 hD
  have R0 : Rel G ρ1 h1 (upd H1 D (.lst [])) := R1.aside hD
  have m0 : D ∉ ρ1 := R1.fresh hD
  cases it with
  | vals xs =>
    obtain ⟨wC, wS', wG'⟩ := wk
    refine ⟨fun i m H' => ∃ ρ' h' acc vs, Ext ρ1 H1 ρ' H' ∧ Rel G ρ' h' H' ∧ D ∉ ρ' ∧ H' D = some (.lst vs) ∧ RepL G.K ρ' H' acc vs ∧ m = xs.length - i ∧ FinE G X τ ρ1 H1 (lcL g ft fe (wipeE σ (own.map (·.2))) (xs.drop i) acc h') k,
      ⟨xs.length, ρ1, h1, [], [], E0, R0, m0, upd_same, .nil, rfl, f1⟩, ?_⟩
    rintro i m H' ⟨ρ', h', acc, vs, E', R', m', l', ra, rfl, f'⟩
    have c' := wC _ _ _ _ c E'
    by_cases hi : i < xs.length
    · have hx : xs[i]? = some xs[i] := List.getElem?_eq_getElem hi
      obtain ⟨go, yl⟩ := wG' ρ' h' H' i _ R' c' hx
      refine .inr ⟨go, fun H2 => ∃ ρ2 h2 acc2 vs2, Ext ρ1 H1 ρ2 H2 ∧ Rel G ρ2 h2 H2 ∧ D ∉ ρ2 ∧ H2 D = some (.lst vs2) ∧ RepL G.K ρ2 H2 acc2 vs2 ∧ FinE G X τ ρ1 H1 (lcL g ft fe (wipeE σ (own.map (·.2))) (xs.drop (i + 1)) acc2 h2) k,
        fun H2 ⟨ρ2, h2, acc2, vs2, a1, a2, a3, a4, a5, a6⟩ => ⟨_, by omega, ρ2, h2, acc2, vs2, a1, a2, a3, a4, a5, rfl, a6⟩, fun v H2 y => ?_⟩
      obtain ⟨e2, R2, r2⟩ := yl v H2 y
      rw [List.drop_eq_getElem_cons hi] at f'
      simp only [lcL] at f'
      cases eg : g xs[i] (wipeE σ (own.map (·.2))) with
      | none => rw [eg] at f'; exact f'.elim
      | some σ1 =>
        rw [eg] at f'
        exact turn xs[i] v σ1 acc vs ρ' h' H2 _ _ (E'.trans e2) R2 m' (e2.oth D _ m' l') (ra.mono e2.toMo) r2 eg f' fun acc2 vs2 ρ2 h2 H3 a1 a2 a3 a4 a5 a6 => ⟨ρ2, h2, acc2, vs2, a1, a2, a3, a4, a5, a6⟩
    · have hd : xs.drop i = [] := List.drop_eq_nil_of_le (by omega)
      rw [hd] at f'
      exact .inl ⟨wS' ρ' h' H' i R' c' (by omega), f' ρ' H' E' R' D vs hD0 m' l' ra⟩
  | obj n =>
    obtain ⟨a, rfl, rfl⟩ := wk
    refine ⟨fun i m H' => ∃ ρ' h' acc vs, Ext ρ1 H1 ρ' H' ∧ Rel G ρ' h' H' ∧ D ∉ ρ' ∧ H' D = some (.lst vs) ∧ RepL G.K ρ' H' acc vs ∧ FinE G X τ ρ1 H1 (lcN g ft fe (wipeE σ (own.map (·.2))) n m i acc h') k,
      ⟨100001, ρ1, h1, [], [], E0, R0, m0, upd_same, .nil, f1⟩, ?_⟩
    rintro i m H' ⟨ρ', h', acc, vs, E', R', m', l', ra, f'⟩
    have c' := E'.toMo.get c
    cases m with
    | zero => exact f'.elim
    | succ m =>
      simp only [lcN] at f'
      split at f'
      · rename_i xs eo
        obtain ⟨a', qa, vs', hv, rv⟩ := R'.at eo
        rw [c'] at qa
        obtain rfl : a = a' := Option.some.inj qa
        split at f'
        · rename_i ex
          refine .inl ⟨⟨vs', .inl (.inl hv), ?_⟩, f' ρ' H' E' R' D vs hD0 m' l' ra⟩
          rw [← rv.length]; exact List.getElem?_eq_none_iff.mp ex
        · rename_i x ex
          obtain ⟨v0, hv0, rv0⟩ := rv.get ex
          refine .inr ⟨⟨vs', v0, .inl (.inl hv), hv0⟩, fun H2 => ∃ ρ2 h2 acc2 vs2, Ext ρ1 H1 ρ2 H2 ∧ Rel G ρ2 h2 H2 ∧ D ∉ ρ2 ∧ H2 D = some (.lst vs2) ∧ RepL G.K ρ2 H2 acc2 vs2 ∧ FinE G X τ ρ1 H1 (lcN g ft fe (wipeE σ (own.map (·.2))) n m (i + 1) acc2 h2) k,
            fun H2 ⟨ρ2, h2, acc2, vs2, a1, a2, a3, a4, a5, a6⟩ => ⟨m, by omega, ρ2, h2, acc2, vs2, a1, a2, a3, a4, a5, a6⟩, fun v H2 y => ?_⟩
          obtain ⟨rfl, y⟩ := y
          have y' := y vs' (.inl (.inl hv))
          rw [hv0] at y'; cases y'
          cases eg : g x (wipeE σ (own.map (·.2))) with
          | none => rw [eg] at f'; exact f'.elim
          | some σ1 =>
            rw [eg] at f'
            exact turn x _ σ1 acc vs ρ' h' H2 _ _ E' R' m' l' ra rv0 eg f' fun acc2 vs2 ρ2 h2 H3 a1 a2 a3 a4 a5 a6 => ⟨ρ2, h2, acc2, vs2, a1, a2, a3, a4, a5, a6⟩
      · exact f'.elim

theorem rl_lc {elt tg iter : Expr} {ifs : List Expr} {scope : Scope} {own : List (Str × Nat)} {pos : Pos} {fi : ES → M IT} {g : EV → ES → Option ES} {ft : ES → M Bool} {fe : ES → M EV} (hN : X.N.Nodup) (hi : RI G X tg iter fi) (ok : BlkOk X.N X.env.scope scope own)
    (hg : ∀ s H C cl fp, RG G (blkX X s H scope C cl fp) tg (own.map (·.2)) g) (ht : ∀ s H C cl fp, RTs G (blkX X s H scope C cl fp) ifs ft) (he : ∀ s H C cl fp, RE G (blkX X s H scope C cl fp) elt fe)
    (hc : X.calm = true := by rfl) (hs : ∀ x, foldedSetIterable iter X.env x = pure x := by intro _; rfl) : RL G X (.ListComp elt [⟨tg, iter, ifs, 0⟩] scope pos) (lLc fi g ft fe (own.map (·.2))) := by
  intro σ h ρ τ H Q R S ff
  exact wE.of (pe_lc (g := gB X scope tg) (tt := tBk X scope ifs) (te := eB X scope elt) hc hN wI.pi ok (fun s H' C cl fp => ⟨fun pins s1 σ1 H1 v u Q1 I r q => q s H' C cl fp pins s1 u I r⟩) (fun s H' C cl fp => ⟨fun pins s1 σ1 H1 Q1 I q => q s H' C cl fp pins s1 I⟩)
    (fun s H' C cl fp => ⟨fun pins s1 σ1 H1 Q1 I q => q s H' C cl fp pins s1 I⟩) hs) (lc_read hi hg ht he R S ff)
/-- y = [..], where the name is stored within the comprehension's frame -/
theorem rs_setLc {i : Nat} {y : Str} {py : Pos} {elt tg iter : Expr} {ifs : List Expr} {scope : Scope} {own : List (Str × Nat)} {pos spos : Pos} {fi : ES → M IT} {g : EV → ES → Option ES} {ft : ES → M Bool} {fe : ES → M EV} (hN : X.N.Nodup)
    (hsw : swapsWith (.ListComp elt [⟨tg, iter, ifs, 0⟩] scope pos) (some (.Name y py)) spos.line X.env = pure true) (hi : RI G X tg iter fi) (ok : BlkOk X.N X.env.scope scope own)
    (hg : ∀ s H C cl fp, RG G (blkX X s H scope C cl fp) tg (own.map (·.2)) g) (ht : ∀ s H C cl fp, RTs G (blkX X s H scope C cl fp) ifs ft) (he : ∀ s H C cl fp, RE G (blkX X s H scope C cl fp) elt fe)
    (hy : X.N[i]? = some y := by rfl) (hyl : X.env.scope.names.lookup y = some .local := by rfl) (hc : X.calm = true := by rfl) (hs : ∀ x, foldedSetIterable iter X.env x = pure x := by intro _; rfl) :
    RS G X (.Assign [.Name y py] (.ListComp elt [⟨tg, iter, ifs, 0⟩] scope pos) spos) (sSet (gN i) (eNew (lLc fi g ft fe (own.map (·.2))))) := by
  intro σ h ρ τ H D R S ff
  refine wS.of (ps_setLc (g := gB X scope tg) (tt := tBk X scope ifs) (te := eB X scope elt) hc hN hy hyl hsw wI.pi ok (fun s H' C cl fp => ⟨fun pins s1 σ1 H1 v u Q1 I r q => q s H' C cl fp pins s1 u I r⟩) (fun s H' C cl fp => ⟨fun pins s1 σ1 H1 Q1 I q => q s H' C cl fp pins s1 I⟩)
    (fun s H' C cl fp => ⟨fun pins s1 σ1 H1 Q1 I q => q s H' C cl fp pins s1 I⟩) hs) ?_
  refine lc_read (Q := fun x H1 => gName i x τ H1 D.nx) hi hg ht he R S ?_
  have f0 := FinS.fl S ff
  dsimp only [eNew] at f0
  have f1 := FinE.bind f0
  cases e : lLc fi g ft fe (own.map (·.2)) σ h with
  | stuck => rw [e] at f1; exact f1
  | exc c fs h' => rw [e] at f1; exact f1
  | ok xs h1 =>
    rw [e] at f0
    intro ρ1 H1 e1 R1 p vs hp m l r
    have e2 : Ext ρ H (ρ1 ++ [p]) H1 := e1.adopt hp
    have R2 := R1.adopt m l r
    have rp : Rep G.K (ρ1 ++ [p]) H1 (.ref h1.length) (.ref p) := .ref (by
      rw [← R1.len, List.getElem?_append_right (Nat.le_refl _)]
      simp)
    exact f0 (ρ1 ++ [p]) H1 e2 R2 _ _ _ Ext.refl R2 ((S.mono e2.toMo).set rp)

/-! ### defs -/
/-- a def follows a function -/
def spF (G : Wd) (n : Nat) (F : List EV → EH → Z.R EV) : Sp := fun vs H Q E => vs.length = n ∧ ∃ evs ρ h, Rel G ρ h H ∧ RepL G.K ρ H evs vs ∧ (match F evs h with
  | .ok v h' => ∀ ρ' H' x, Ext ρ H ρ' H' → Rel G ρ' h' H' → Rep G.K ρ' H' v x → Q x H'
  | .exc c fs h' => ∀ ρ' H' d, Ext ρ H ρ' H' → Rel G ρ' h' H' → ExAt G.K ρ' H' d fs → E (.ref (G.CA c)) (some d) H'
  | .stuck => False)
theorem SR.start {K : PySem.W.Frag} {ρ : List Addr} {H : Hp} {evs : List EV} {vs : List V} {N : List Str} {k : Nat} (r : RepL K ρ H evs vs) (hk : N.length = k) : SR K ρ H (startE k evs) (L2.start N vs) := by
  have hl := r.length
  refine ⟨by simp [startE, L2.start, hl, hk], fun i v q => ?_⟩
  unfold startE at q
  by_cases hi : i < (evs.map some).length
  · rw [List.getElem?_append_left hi, List.getElem?_map] at q
    cases e : evs[i]? with
    | none => rw [e] at q; cases q
    | some w =>
      rw [e] at q
      cases q
      obtain ⟨x, hx, rx⟩ := r.get e
      refine ⟨x, ?_, rx⟩
      unfold L2.start
      rw [List.getElem?_append_left (by rw [List.length_map, ← hl]; simpa using hi), List.getElem?_map, hx]
      rfl
  · rw [List.getElem?_append_right (by omega)] at q
    have := List.mem_of_getElem? q
    simp at this
theorem fn_ok {P : Program} {w : World} {mg : Str → Option Value} {base : Heap} {x qual : Str} {st : Stmt} {f : Addr} {fd : FuncData} {N ps : List Str} {k n m : Nat} {fb : ES → EH → FL} (F : Fun G.K x qual st f fd) (S : FnScope N ps (defScope st)) (hn : ps.length = n) (hm : N.length = m)
    (hb : ∀ (cdv : Value) (A : Around) (outer : List Env) (s : Shared) (H : Hp) (E : XK), Room k (A.deeper (envOfC qual (defScope st) s.heap.objs.size f cdv)) → RSs G (cxOf (L2.CX P w) P w G.K mg base N qual (defScope st) f cdv A outer s H E) (defBody st) fb) :
    FnOk P w G.K mg base (L2.CX P w) (k + 1) f fd ps (spF G n (fnF m fb)) := by
  refine F.okX S (fun vs H Q E h => h.1.trans hn.symm) (fun cdv A outer s H vs Q E hr h => ?_)
  obtain ⟨hl, evs, ρ, hh, R, r, q⟩ := h
  refine ⟨_, wSs.pss, ?_⟩
  refine hb cdv A outer s H E hr (startE m evs) hh ρ _ H _ R (SR.start r hm) ?_
  unfold fnF at q
  cases e : fb (startE m evs) hh with
  | nx σ' h' =>
    rw [e] at q
    exact fun ρ' H' τ' e' R' _ => q ρ' H' .non e' R' .non
  | rt v h' =>
    rw [e] at q
    exact fun ρ' H' x' e' R' r' => q ρ' H' x' e' R' r'
  | exc c fs σ' h' =>
    rw [e] at q
    exact ⟨_, takes_of rfl rfl rfl rfl, fun ρ' H' τ' d e' R' _ x' => q ρ' H' d e' R' x'⟩
  | bk σ' h' => rw [e] at q; exact q.elim
  | ct σ' h' => rw [e] at q; exact q.elim
  | stuck => rw [e] at q; exact q.elim
theorem passNo {τ : L2.St} : PassesAt (L2.CX X.prog X.w) X τ (fun _ _ _ => False) := fun _ _ _ _ _ _ h => by
  obtain ⟨_, _, _, _, _, _, _, _, _, _, _, _, z⟩ := h
  exact z.elim
/-- f(e, ..) -/
theorem re_call {F : List EV → EH → Z.R EV} {k n : Nat} {f : Addr} {fd : FuncData} {ps : List Str} {x : Str} {e : Expr} {es : List Expr} {fa : ES → M (List EV)} {p pos : Pos} (O : FnOk X.prog X.w X.K X.mg X.base (L2.CX X.prog X.w) k f fd ps (spF G n F)) (hr : Room k X.A) (hm : X.mg x = some (.ref f))
    (hk : PySem.W.keepIn X.K (.ref f) = true) (hb : Binds X.K fd ps []) (ha : RA G X (e :: es) fa) (hl : ∀ σ h vs h', fa σ h = .ok vs h' → vs.length = n) (hg : Gl X x := by rfl) (hdb : (x == ("__debug__" : Str)) = false := by decide) (he : starEach (e :: es) X.env = (false, eval e X.env) :: starEach es X.env := by rfl)
    (hpl : (backTo pos (starEach es X.env)).any (·.1) = false := by rfl) : RE G X (.Call (.Name x p) (e :: es) [] pos) (eFn F fa) := by
  intro σ h ρ τ H Q R S ff
  have ff' : FinE G X τ ρ H ((fa σ h).bind F) _ := ff
  cases ea : fa σ h with
  | stuck => rw [ea] at ff'; exact ff'.elim
  | exc c fs h' =>
    rw [ea] at ff'
    refine wE.of (pe_callS (E := fun σ => fun _ _ _ => False) O hr hg hm hk hb (fun _ => passNo) wA.pa hdb he hpl) ?_
    refine ha σ h ρ τ H _ R S ?_
    rw [ea]
    exact ff'
  | ok vs h1 =>
    rw [ea] at ff'
    have hvl := hl _ _ _ _ ea
    have ff2 : FinE G X τ ρ H (F vs h1) _ := ff'
    cases eF : F vs h1 with
    | stuck => rw [eF] at ff2; exact ff2.elim
    | ok v h2 =>
      rw [eF] at ff2
      refine wE.of (pe_callS (E := fun σ => fun _ _ _ => False) O hr hg hm hk hb (fun _ => passNo) wA.pa hdb he hpl) ?_
      refine ha σ h ρ τ H _ R S ?_
      rw [ea]
      intro ρ1 H1 e1 R1 xs rx
      refine ⟨by rw [← rx.length]; exact hvl, vs, ρ1, h1, R1, rx, ?_⟩
      rw [eF]
      exact fun ρ' H' x' e' R' r' => ff2 ρ' H' (e1.trans e') R' x' r'
    | exc c fs h2 =>
      rw [eF] at ff2
      obtain ⟨W, tk, ff3⟩ := ff2
      refine wE.of (pe_callS (E := L2.WE W) O hr hg hm hk hb (fun σ => passAt tk σ) wA.pa hdb he hpl) ?_
      refine ha σ h ρ τ H _ R S ?_
      rw [ea]
      intro ρ1 H1 e1 R1 xs rx
      refine ⟨by rw [← rx.length]; exact hvl, vs, ρ1, h1, R1, rx, ?_⟩
      rw [eF]
      exact fun ρ' H' d e' R' x' => ff3 ρ' H' d (e1.trans e') R' x'
/-- how many arguments a list of arguments gives -/
def ALen (fa : ES → M (List EV)) (n : Nat) : Prop := ∀ σ h vs h', fa σ h = .ok vs h' → vs.length = n
theorem al_nil : ALen aNil 0 := fun σ h vs h' e => by cases e; rfl
theorem al_cons {fa : ES → M EV} {fr : ES → M (List EV)} {n : Nat} (r : ALen fr n) : ALen (aCons fa fr) (n + 1) := fun σ h vs h' e => by
  dsimp only [aCons] at e
  cases e1 : fa σ h with
  | stuck => rw [e1] at e; cases e
  | exc c fs h2 => rw [e1] at e; cases e
  | ok x h2 =>
    rw [e1] at e
    simp only [R.bind] at e
    cases e2 : fr σ h2 with
    | stuck => rw [e2] at e; cases e
    | exc c fs h3 => rw [e2] at e; cases e
    | ok xs h3 =>
      rw [e2] at e
      simp only [R.bind] at e
      cases e
      simp [r σ h2 xs h' e2]
/-- a def of the text, by its name, that follows a function -/
structure Def (P : Program) (w : World) (G : Wd) (mg : Str → Option Value) (base : Heap) (k : Nat) (x : Str) (n : Nat) (F : List EV → EH → Z.R EV) : Prop where
  ex : ∃ f fd ps, FnOk P w G.K mg base (L2.CX P w) k f fd ps (spF G n F) ∧ mg x = some (.ref f) ∧ PySem.W.keepIn G.K (.ref f) = true ∧ Binds G.K fd ps []
theorem re_fn {F : List EV → EH → Z.R EV} {k j n : Nat} {x : Str} {e : Expr} {es : List Expr} {fa : ES → M (List EV)} {p pos : Pos} (D : Def X.prog X.w G X.mg X.base k x n F) (hr : Room j X.A) (hj : k ≤ j) (ha : RA G X (e :: es) fa) (hl : ALen fa n) (hK : X.K = G.K := by rfl) (hg : Gl X x := by rfl)
    (hdb : (x == ("__debug__" : Str)) = false := by decide) (he : starEach (e :: es) X.env = (false, eval e X.env) :: starEach es X.env := by rfl) (hpl : (backTo pos (starEach es X.env)).any (·.1) = false := by rfl) : RE G X (.Call (.Name x p) (e :: es) [] pos) (eFn F fa) := by
  obtain ⟨f, fd, ps, O, hm, hk, hb⟩ := D.ex
  exact re_call (n := n) (by rw [hK]; exact O) (hr.mono hj) hm (by rw [hK]; exact hk) (by rw [hK]; exact hb) ha hl hg hdb he hpl
end
end Z
end

section
/-! Z, subscripts, slices, stores, built-in calls. -/
namespace Z
open PySem PySem.Spec PyProof.Rows L2

def opIx : EV → EV → EH → Option (EV × EH)
  | .tup xs, .int i, h => (atI xs i).map fun v => (v, h)
  | .rl xs, .int i, h => (atI xs i).map fun v => (v, h)
  | .str s, .int i, h => if s.length ≤ 100000 then (atI s.cps.toList i).map fun c => (.str ⟨#[c]⟩, h) else none
  | .ref n, .int i, h => match h[n]? with
    | some (.lst xs) => (atI xs i).map fun v => (v, h)
    | _ => none
  | _, _, _ => none
def cutE {α : Type} (xs : List α) (lo hi : Option Int) : List α := (xs.drop (HT.sIx xs.length 0 lo)).take (HT.sIx xs.length xs.length hi - HT.sIx xs.length 0 lo)
def opSl (v : EV) (lo hi : Option Int) (h : EH) : Option (EV × EH) := match v with
  | .tup xs => some (.tup (cutE xs lo hi), h)
  | .str s => if s.length ≤ 100000 then some (.str (cutS s lo hi), h) else none
  | .rl xs => some (.ref h.length, h ++ [.lst (cutE xs lo hi)])
  | .ref n => match h[n]? with
    | some (.lst xs) => some (.ref h.length, h ++ [.lst (cutE xs lo hi)])
    | _ => none
  | _ => none
def intOf (v : EV) (h : EH) : R (Option Int) := match v with
  | .int i => .ok (some i) h
  | _ => .stuck
def pNone : ES → M (Option Int) := fun _ h => .ok none h
def pSome (f : ES → M EV) : ES → M (Option Int) := fun σ h => (f σ h).bind intOf
def eSl (fe : ES → M EV) (fl fh : ES → M (Option Int)) : ES → M EV := fun σ h => (fe σ h).bind fun v h1 => (fl σ h1).bind fun lo h2 => (fh σ h2).bind fun hi h3 => R.lift (opSl v lo hi h3)
def seqOf (h : EH) : EV → Option (Bool × List EV)
  | .tup xs => some (true, xs)
  | .rl xs => some (false, xs)
  | .ref n => match h[n]? with
    | some (.lst xs) => some (false, xs)
    | _ => none
  | _ => none
def listOf (h : EH) : EV → Option (List EV)
  | .rl xs => some xs
  | .ref n => match h[n]? with
    | some (.lst xs) => some xs
    | _ => none
  | _ => none
def R.opt {α : Type} (o : Option α) (h : EH) : R α := match o with
  | some a => .ok a h
  | none => .stuck
/-- f(v), f a function on sequences; .. on a made list; .. that makes a list -/
def eSeq (g : Bool → List EV → Option EV) (fe : ES → M EV) : ES → M EV := fun σ h => (fe σ h).bind fun v h1 => R.opt ((seqOf h1 v).bind fun q => g q.1 q.2) h1
def eSeqL (g : Bool → List EV → Option EV) (fe : ES → M (List EV)) : ES → M EV := fun σ h => (fe σ h).bind fun xs h1 => R.opt (g false xs) h1
def lSeq (g : Bool → List EV → Option (List EV)) (fe : ES → M EV) : ES → M (List EV) := fun σ h => (fe σ h).bind fun v h1 => R.opt ((seqOf h1 v).bind fun q => g q.1 q.2) h1
def lSeqL (g : Bool → List EV → Option (List EV)) (fe : ES → M (List EV)) : ES → M (List EV) := fun σ h => (fe σ h).bind fun xs h1 => R.opt (g false xs) h1
def fLen : Bool → List EV → Option EV := fun _ xs => some (.int xs.length)
def fTuple : Bool → List EV → Option EV := fun _ xs => some (.tup xs)
def fList : Bool → List EV → Option (List EV) := fun _ xs => some xs
def boolsOf : List EV → Option (List Bool)
  | [] => some []
  | .bl b :: r => (boolsOf r).map (b :: ·)
  | _ :: _ => none
def strsOf : List EV → Option (List Str)
  | [] => some []
  | .str b :: r => (strsOf r).map (b :: ·)
  | _ :: _ => none
def intsOf : List EV → Option (List Int)
  | [] => some []
  | .int b :: r => (intsOf r).map (b :: ·)
  | _ :: _ => none
def fAll : Bool → List EV → Option EV := fun t xs => if t then none else (boolsOf xs).map fun bs => .bl (bs.all id)
def fAny : Bool → List EV → Option EV := fun t xs => if t then none else (boolsOf xs).map fun bs => .bl (bs.any id)
def strLe (a b : Str) : Bool := !ltCps b.cps.toList a.cps.toList
def insS (a : Str) : List Str → List Str
  | [] => [a]
  | b :: r => if strLe a b then a :: b :: r else b :: insS a r
def sortS : List Str → List Str
  | [] => []
  | a :: r => insS a (sortS r)
def fSorted : Bool → List EV → Option (List EV) := fun t xs => if t then none else match strsOf xs with
  | some ss => if ss.length < 64 then some ((sortS ss).map .str) else none
  | none => none
def fInt1 : List EV → EH → Option (EV × EH)
  | [.int i], h => some (.int i, h)
  | [.bl b], h => some (.int (if b then 1 else 0), h)
  | _, _ => none
def fAbs : List EV → EH → Option (EV × EH)
  | [.int i], h => some (.int (if i < 0 then -i else i), h)
  | _, _ => none
def fMax2 : List EV → EH → Option (EV × EH)
  | [.int i, .int j], h => some (.int (if j > i then j else i), h)
  | _, _ => none
def fMin2 : List EV → EH → Option (EV × EH)
  | [.int i, .int j], h => some (.int (if j < i then j else i), h)
  | _, _ => none
def fLenS : List EV → EH → Option (EV × EH)
  | [.str s], h => if s.length ≤ 100000 then some (.int s.length, h) else none
  | _, _ => none
def fLenA : List EV → EH → Option (EV × EH)
  | [.str s], h => if s.length ≤ 100000 then some (.int s.length, h) else none
  | [.tup xs], h => some (.int xs.length, h)
  | [.rl xs], h => some (.int xs.length, h)
  | [.ref n], h => match h[n]? with
    | some (.lst xs) => some (.int xs.length, h)
    | some (.dK kvs) => some (.int kvs.length, h)
    | _ => none
  | _, _ => none
def tyName (h : EH) : EV → Option String
  | .non => some "NoneType"
  | .bl _ => some "bool"
  | .int _ => some "int"
  | .str _ => some "str"
  | .tup _ => some "tuple"
  | .rl _ => some "list"
  | .ref n => match h[n]? with
    | some (.lst _) => some "list"
    | some (.dK _) => some "dict"
    | some (.dT _) => some "dict"
    | some (.dF _) => some "dict"
    | _ => none
def isTy (T : String) : EV → EH → Option (EV × EH) := fun v h => (tyName h v).bind fun t => (kitB t T).map fun b => (.bl b, h)

section
variable {G : Wd} {X : Cx}
/-! ### subscripts -/
def wX (X : Cx) (a b : Expr) : R2 := fun x y H Q => ∀ pins s σ v u, Inv X pins σ H s → RelV x v → RelV y u → wpAny (model X.prog X.w) X.A (subscriptTail a b v u) (EP X pins σ Q) X.xe s
theorem pe_sub {a b : Expr} {ta tb : TE} {pos : Pos} (ha : PE X a ta) (hb : PE X b tb) : PE X (.Subscript a b pos) (tOp (wX X a b) ta tb) := by
  refine ⟨fun pins s σ H Q I h => ?_⟩
  exact Subscript_ (binT ha hb I h fun v u s2 x y H2 I2 rx ry q => q pins s2 σ v u I2 rx ry)
theorem wX.ix {a b : Expr} {r : R2} {x y : V} {H : Hp} {Q : VK} (hr : IxR X r) (hs : PlainIx b) (h : r x y H Q) : wX X a b x y H Q := fun pins s σ v u I rx ry => hr a b pins s σ H x y v u Q I rx ry h (hs _ _)
theorem atI_rep {ρ : List Addr} {H : Hp} {xs : List EV} {vs : List V} {i : Int} {x : EV} (r : RepL G.K ρ H xs vs) (e : atI xs i = some x) : ∃ v, atI vs i = some v ∧ Rep G.K ρ H x v := by
  unfold atI at e ⊢
  rw [← r.length]
  cases e1 : ixN xs.length i with
  | none => rw [e1] at e; cases e
  | some j =>
    rw [e1] at e
    obtain ⟨v, h1, h2⟩ := r.get e
    exact ⟨v, h1, h2⟩
theorem re_sub {a b : Expr} {fa fb : ES → M EV} {pos : Pos} (ha : RE G X a fa) (hb : RE G X b fb) (hs : PlainIx b := by exact fun _ _ => rfl) (hK : X.K = G.K := by rfl) : RE G X (.Subscript a b pos) (eOp opIx fa fb) := by
  intro σ h ρ τ H Q R S f
  refine wE.of (pe_sub wE.pe wE.pe) ?_
  refine ha σ h ρ τ H _ R S (FinE.imp (FinE.bind f) fun x h1 ρ1 H1 e1 R1 f1 v rv => ?_)
  refine hb σ h1 ρ1 τ H1 _ R1 (S.mono e1.toMo) (FinE.imp (FinE.bind f1) fun y h2 ρ2 H2 e2 R2 f2 u ru => ?_)
  obtain ⟨z, h3, e3, f3⟩ := FinE.lift f2
  have rv := rv.mono e2.toMo
  cases y with
  | int i =>
    cases ru
    cases x with
    | tup xs =>
      cases rv with
      | @tup p vs _ q r =>
        cases e4 : atI xs i with
        | none => simp [opIx, e4] at e3
        | some w =>
          simp only [opIx, e4, Option.map_some, Option.some.injEq, Prod.mk.injEq] at e3
          obtain ⟨rfl, rfl⟩ := e3
          obtain ⟨w', h4, r4⟩ := atI_rep r e4
          exact wX.ix ix_tup hs ⟨p, vs, i, w', rfl, rfl, by rw [hK]; exact q, h4, f3 ρ2 H2 Ext.refl R2 w' r4⟩
    | rl xs =>
      cases rv with
      | @rl p vs _ q r =>
        cases e4 : atI xs i with
        | none => simp [opIx, e4] at e3
        | some w =>
          simp only [opIx, e4, Option.map_some, Option.some.injEq, Prod.mk.injEq] at e3
          obtain ⟨rfl, rfl⟩ := e3
          obtain ⟨w', h4, r4⟩ := atI_rep r e4
          exact wX.ix ix_list hs ⟨p, vs, i, w', rfl, rfl, by rw [hK]; exact q.sq, h4, f3 ρ2 H2 Ext.refl R2 w' r4⟩
    | str s =>
      cases rv
      simp only [opIx] at e3
      split at e3
      · rename_i hl
        cases e4 : atI s.cps.toList i with
        | none => simp [e4] at e3
        | some w =>
          simp only [e4, Option.map_some, Option.some.injEq, Prod.mk.injEq] at e3
          obtain ⟨rfl, rfl⟩ := e3
          exact wX.ix ix_str hs ⟨s, i, w, rfl, rfl, sz_ok hl, e4, f3 ρ2 H2 Ext.refl R2 _ (.str _)⟩
      · cases e3
    | ref n =>
      simp only [opIx] at e3
      split at e3
      · rename_i xs eo
        obtain ⟨p, rfl, qa, vs, hv, r⟩ := getref R2 rv eo
        cases e4 : atI xs i with
        | none => simp [e4] at e3
        | some w =>
          simp only [e4, Option.map_some, Option.some.injEq, Prod.mk.injEq] at e3
          obtain ⟨rfl, rfl⟩ := e3
          obtain ⟨w', h4, r4⟩ := atI_rep r e4
          exact wX.ix ix_list hs ⟨p, vs, i, w', rfl, rfl, .inl (.inl hv), h4, f3 ρ2 H2 Ext.refl R2 w' r4⟩
      · cases e3
    | _ => cases e3
  | _ => cases x <;> cases e3

/-! ### slices -/
def wP (X : Cx) (e : Option Expr) : TO := fun σ H Q => ∀ pins s, Inv X pins σ H s → wpAny (model X.prog X.w) X.A (evalPart e X.env) (fun u s' => ∃ o H', Inv X pins σ H' s' ∧ IsPart u o ∧ Q o H') X.xe s
theorem wP.po {e : Option Expr} : PO X e (wP X e) := ⟨fun pins s _ _ _ I h => h pins s I⟩
theorem wP.of {e : Option Expr} {t : TO} {σ : L2.St} {H : Hp} {Q : Option Int → Hp → Prop} (p : PO X e t) (h : t σ H Q) : wP X e σ H Q := fun pins s I => p.run pins s σ H Q I h
variable (G X) in
def RP (e : Option Expr) (f : ES → M (Option Int)) : Prop := ∀ (σ : ES) (h : EH) (ρ : List Addr) (τ : L2.St) (H : Hp) (Q : Option Int → Hp → Prop), Rel G ρ h H → SR G.K ρ H σ τ →
  FinE G X τ ρ H (f σ h) (fun o _ _ H' => Q o H') → wP X e τ H Q
theorem rp_none : RP G X none pNone := fun σ h ρ τ H Q R S f => wP.of po_none (f ρ H Ext.refl R)
theorem rp_some {e : Expr} {f : ES → M EV} (he : RE G X e f) : RP G X (some e) (pSome f) := by
  intro σ h ρ τ H Q R S ff
  refine wP.of (po_some wE.pe) ?_
  refine he σ h ρ τ H _ R S (FinE.imp (FinE.bind ff) fun v h1 ρ1 H1 e1 R1 f1 w rw' => ?_)
  cases v with
  | int i =>
    cases rw'
    exact ⟨i, rfl, f1 ρ1 H1 Ext.refl R1⟩
  | _ => exact f1.elim
theorem cutE_rep {ρ : List Addr} {H : Hp} {xs : List EV} {vs : List V} (r : RepL G.K ρ H xs vs) (lo hi : Option Int) : RepL G.K ρ H (cutE xs lo hi) (cutV vs lo hi) := by
  unfold cutE cutV
  rw [← r.length]
  exact (r.drop _).take _
theorem cutE_whole {xs : List EV} {lo hi : Option Int} (h : HT.sIx xs.length 0 lo = 0 ∧ HT.sIx xs.length xs.length hi = xs.length) : cutE xs lo hi = xs := by
  unfold cutE
  rw [h.1, h.2]
  simp
theorem re_sl {e : Expr} {lo hi : Option Expr} {fe : ES → M EV} {fl fh : ES → M (Option Int)} {p2 pos : Pos} (he : RE G X e fe) (hl : RP G X lo fl) (hh : RP G X hi fh) (hK : X.K = G.K := by rfl) : RE G X (.Subscript e (.Slice lo hi none p2) pos) (eSl fe fl fh) := by
  intro σ h ρ τ H Q R S f
  refine wE.of (pe_slice (sl_list.or (sl_tupA.or sl_str)) wE.pe wP.po wP.po) ?_
  refine he σ h ρ τ H _ R S (FinE.imp (FinE.bind f) fun v h1 ρ1 H1 e1 R1 f1 w rv => ?_)
  refine hl σ h1 ρ1 τ H1 _ R1 (S.mono e1.toMo) (FinE.imp (FinE.bind f1) fun l h2 ρ2 H2 e2 R2 f2 => ?_)
  refine hh σ h2 ρ2 τ H2 _ R2 ((S.mono e1.toMo).mono e2.toMo) (FinE.imp (FinE.bind f2) fun u h3 ρ3 H3 e3 R3 f3 => ?_)
  obtain ⟨z, h4, e4, f4⟩ := FinE.lift f3
  have rv := (rv.mono e2.toMo).mono e3.toMo
  cases v with
  | tup xs =>
    cases e4
    cases rv with
    | @tup p vs _ q r =>
      refine .inr (.inl ⟨p, vs, rfl, by rw [hK]; exact q, fun hw => ?_, fun hw t ht => ?_⟩)
      · rw [← r.length] at hw
        have f5 := f4 ρ3 H3 Ext.refl R3
        rw [cutE_whole hw] at f5
        exact f5 _ (.tup q r)
      · exact f4 ρ3 _ (Ext.laid0 ht) (R3.aside ht) _ (.tup (.inl (.inl upd_same)) ((cutE_rep r l u).mono (Ext.laid0 ht).toMo))
  | str s =>
    simp only [opSl] at e4
    split at e4
    · rename_i hl'
      cases e4
      cases rv
      exact .inr (.inr ⟨s, rfl, sz_ok hl', f4 ρ3 H3 Ext.refl R3 _ (.str _)⟩)
    · cases e4
  | rl xs =>
    cases e4
    cases rv with
    | @rl p vs _ q r =>
      refine .inl ⟨p, vs, rfl, by rw [hK]; exact q.sq, fun t ht => ?_⟩
      obtain ⟨a1, a2, a3⟩ := new_list R3 ht (cutE_rep r l u)
      exact f4 _ _ a1 a2 _ a3
  | ref n =>
    simp only [opSl] at e4
    split at e4
    · rename_i xs eo
      cases e4
      obtain ⟨p, rfl, qa, vs, hv, r⟩ := getref R3 rv eo
      refine .inl ⟨p, vs, rfl, .inl (.inl hv), fun t ht => ?_⟩
      obtain ⟨a1, a2, a3⟩ := new_list R3 ht (cutE_rep r l u)
      exact f4 _ _ a1 a2 _ a3
    · cases e4
  | _ => cases e4

/-! ### xs[i] = e -/
def sSub (fe fo fi : ES → M EV) : ES → EH → FL := fun σ h => (fe σ h).fl σ fun v h1 => (fo σ h1).fl σ fun o h2 => (fi σ h2).fl σ fun i h3 => match o, i with
  | .ref n, .int k => match h3[n]? with
    | some (.lst xs) => match ixN xs.length k with
      | some j => .nx σ (h3.set n (.lst (xs.set j v)))
      | none => .stuck
    | _ => .stuck
  | _, _ => .stuck
theorem rs_sub {o i e : Expr} {fe fo fi : ES → M EV} {p pos : Pos} (he : RE G X e fe) (ho : RE G X o fo) (hi : RE G X i fi) (hs : swapsWithSole [.Subscript o i p] e pos.line X.env = pure false := by rfl) (hw : swappedStores [.Subscript o i p] e X.env = pure none := by rfl)
    (h1 : (assignEach [.Subscript o i p] X.env).map (·.2) = [assign (.Subscript o i p) X.env] := by rfl)
    (ha : ∀ v, assign (.Subscript o i p) X.env v = (do
      let ov ← holding [v] (eval o X.env)
      let iv ← holding [v, ov] (eval i X.env)
      standAt p
      holding [v, ov, iv] (setItem ov iv v)
      release [v, ov, iv] []) := by intro _; rfl) : RS G X (.Assign [.Subscript o i p] e pos) (sSub fe fo fi) := by
  intro σ h ρ τ H D R S ff
  refine wS.of (ps_asg wE.pe (pg_sub wE.pe wE.pe set_list ha) hs hw h1) ?_
  refine he σ h ρ τ H _ R S (FinE.imp (FinS.fl S ff) fun v h1 ρ1 H1 e1 R1 f1 w rw' => ?_)
  have S1 := S.mono e1.toMo
  refine ho σ h1 ρ1 τ H1 _ R1 S1 (FinE.imp (FinS.fl S1 f1) fun x h2 ρ2 H2 e2 R2 f2 y ry => ?_)
  have S2 := S1.mono e2.toMo
  refine hi σ h2 ρ2 τ H2 _ R2 S2 (FinE.imp (FinS.fl S2 f2) fun u h3 ρ3 H3 e3 R3 f3 z rz => ?_)
  split at f3
  · rename_i n k
    cases rz
    split at f3
    · rename_i xs eo
      split at f3
      · rename_i j ej
        obtain ⟨p', rfl, qa, vs, hv, r⟩ := getref R3 (ry.mono e3.toMo) eo
        refine ⟨p', vs, k, j, rfl, rfl, hv, by rw [← r.length]; exact ej, ?_⟩
        have o3 := R3.obj n p' _ qa eo
        have ex := Ext.write (u := .lst (vs.set j w)) qa o3 rfl
        refine f3 ρ3 _ τ ex (R3.write qa eo ⟨_, upd_same, ((r.set ((rw'.mono e2.toMo).mono e3.toMo) j).mono ex.toMo)⟩ rfl) ((S2.mono e3.toMo).mono ex.toMo)
      · exact f3.elim
    · exact f3.elim
  · exact f3.elim

/-! ### calls of built-ins by name -/
def Hd (X : Cx) (x : Str) (f : Value) : Prop := ∀ (p pos : Pos) (e : Expr) (es : List Expr) (t : TA), starEach (e :: es) X.env = (false, eval e X.env) :: starEach es X.env → (backTo pos (starEach es X.env)).any (·.1) = false → PA X (e :: es) t → PE X (.Call (.Name x p) (e :: es) [] pos) (tCB (wC X f) t)
theorem hd_B {x : Str} {id : String} (hm : X.mg x = none) (hv : bootBuiltins x = some (.builtin id)) (hg : Gl X x := by rfl) (hn : x ≠ "__name__" := by decide) (hdb : (x == ("__debug__" : Str)) = false := by decide) : Hd X x (.builtin id) :=
  fun p pos e es t he hpl ha => pe_callB wC.call hg hm hv ha hn hdb he hpl
theorem hd_T {x : Str} {T : String} (hm : X.mg x = none) (hv : bootBuiltins x = some (.type T)) (hg : Gl X x := by rfl) (hn : x ≠ "__name__" := by decide) (hdb : (x == ("__debug__" : Str)) = false := by decide) : Hd X x (.type T) :=
  fun p pos e es t he hpl ha => pe_callTy wC.call hg hm hv ha hn hdb he hpl
theorem re_callB {x : Str} {f : Value} {g : List EV → EH → Option (EV × EH)} {e : Expr} {es : List Expr} {fa : ES → M (List EV)} {p pos : Pos} (hd : Hd X x f) (c : RC G X f g) (ha : RA G X (e :: es) fa) (he : starEach (e :: es) X.env = (false, eval e X.env) :: starEach es X.env := by rfl) (hpl : (backTo pos (starEach es X.env)).any (·.1) = false := by rfl) :
    RE G X (.Call (.Name x p) (e :: es) [] pos) (eCall g fa) := by
  intro σ h ρ τ H Q R S f
  refine wE.of (hd p pos e es _ he hpl wA.pa) ?_
  refine ha σ h ρ τ H _ R S (FinE.imp (FinE.bind f) fun xs h1 ρ1 H1 e1 R1 f1 vs rv => ?_)
  obtain ⟨z, h3, e3, f3⟩ := FinE.lift f1
  exact c xs h1 ρ1 H1 vs Q z h3 R1 rv e3 (fun ρ' H' w e R r => f3 ρ' H' e R w r)
def SqB (K : PySem.W.Frag) (H : Hp) (t : Bool) (a : Addr) (vs : List V) : Prop := match t with
  | true => SqT K H a vs
  | false => SqL K H a vs
theorem SqB.any {K : PySem.W.Frag} {H : Hp} {t : Bool} {a : Addr} {vs : List V} (h : SqB K H t a vs) : SqL K H a vs ∨ SqT K H a vs := by
  cases t
  · exact .inl h
  · exact .inr h
theorem seq_rep {ρ : List Addr} {h : EH} {H : Hp} {v : EV} {w : V} {q : Bool × List EV} (R : Rel G ρ h H) (r : Rep G.K ρ H v w) (e : seqOf h v = some q) : ∃ a vs, w = .ref a ∧ SqB G.K H q.1 a vs ∧ RepL G.K ρ H q.2 vs := by
  cases v with
  | tup xs => cases e; cases r with | tup a b => exact ⟨_, _, rfl, a, b⟩
  | rl xs => cases e; cases r with | rl a b => exact ⟨_, _, rfl, a.sq, b⟩
  | ref n =>
    simp only [seqOf] at e
    split at e
    · rename_i xs eo
      cases e
      obtain ⟨p, rfl, qa, vs, hv, r⟩ := getref R r eo
      exact ⟨p, vs, rfl, .inl (.inl hv), r⟩
    · cases e
  | _ => cases e
variable (G X) in
def RCS (f : Value) (g : Bool → List EV → Option EV) : Prop := ∀ (t : Bool) (xs : List EV) (h : EH) (ρ : List Addr) (H : Hp) (a : Addr) (vs : List V) (Q : VK) (z : EV), Rel G ρ h H → SqB G.K H t a vs → RepL G.K ρ H xs vs → g t xs = some z →
  (∀ H' w, Ext ρ H ρ H' → Rel G ρ h H' → Rep G.K ρ H' z w → Q w H') → wC X f [.ref a] H Q
variable (G X) in
def RCL (f : Value) (g : Bool → List EV → Option (List EV)) : Prop := ∀ (t : Bool) (xs : List EV) (h : EH) (ρ : List Addr) (H : Hp) (a : Addr) (vs : List V) (Q : VK) (ys : List EV), Rel G ρ h H → SqB G.K H t a vs → RepL G.K ρ H xs vs → g t xs = some ys →
  (∀ p ws, H p = none → RepL G.K ρ H ys ws → Q (.ref p) (upd H p (.lst ws))) → wC X f [.ref a] H Q
section
variable {x : Str} {f : Value} {e : Expr} {p pos : Pos}
theorem opt_fin {α : Type} {τ : L2.St} {ρ : List Addr} {H : Hp} {o : Option α} {h : EH} {k : α → EH → List Addr → Hp → Prop} (f : FinE G X τ ρ H (R.opt o h) k) : ∃ a, o = some a ∧ ∀ ρ' H', Ext ρ H ρ' H' → Rel G ρ' h H' → k a h ρ' H' := by
  cases o with
  | none => exact f.elim
  | some a => exact ⟨a, rfl, f⟩
theorem re_seq {g : Bool → List EV → Option EV} {fe : ES → M EV} (hd : Hd X x f) (c : RCS G X f g) (ha : RE G X e fe) (he : starEach [e] X.env = (false, eval e X.env) :: starEach [] X.env := by rfl) : RE G X (.Call (.Name x p) [e] [] pos) (eSeq g fe) := by
  intro σ h ρ τ H Q R S ff
  refine wE.of (hd p pos e [] _ he rfl (pa_cons wE.pe pa_nil he)) ?_
  refine ha σ h ρ τ H _ R S (FinE.imp (FinE.bind ff) fun v h1 ρ1 H1 e1 R1 f1 w rv => ?_)
  obtain ⟨z, eo, f2⟩ := opt_fin f1
  cases es : seqOf h1 v with
  | none => rw [es] at eo; cases eo
  | some q =>
    rw [es] at eo
    obtain ⟨a, vs, rfl, sq, rr⟩ := seq_rep R1 rv es
    exact c q.1 q.2 h1 ρ1 H1 a vs Q z R1 sq rr eo fun H' w e' R' r' => f2 ρ1 H' e' R' w r'
theorem re_seqL {g : Bool → List EV → Option EV} {fe : ES → M (List EV)} (hd : Hd X x f) (c : RCS G X f g) (ha : RL G X e fe) (he : starEach [e] X.env = (false, eval e X.env) :: starEach [] X.env := by rfl) : RE G X (.Call (.Name x p) [e] [] pos) (eSeqL g fe) := by
  intro σ h ρ τ H Q R S ff
  refine wE.of (hd p pos e [] _ he rfl (pa_cons wE.pe pa_nil he)) ?_
  refine ha σ h ρ τ H _ R S (FinE.imp (FinE.bind ff) fun xs h1 ρ1 H1 e1 R1 f1 q vs hq m l r => ?_)
  obtain ⟨z, eo, f2⟩ := opt_fin f1
  exact c false xs h1 ρ1 H1 q vs Q z R1 (.inl (.inl l)) r eo fun H' w e' R' r' => f2 ρ1 H' e' R' w r'
theorem rl_seq {g : Bool → List EV → Option (List EV)} {fe : ES → M EV} (hd : Hd X x f) (c : RCL G X f g) (ha : RE G X e fe) (he : starEach [e] X.env = (false, eval e X.env) :: starEach [] X.env := by rfl) : RL G X (.Call (.Name x p) [e] [] pos) (lSeq g fe) := by
  intro σ h ρ τ H Q R S ff
  refine wE.of (hd p pos e [] _ he rfl (pa_cons wE.pe pa_nil he)) ?_
  refine ha σ h ρ τ H _ R S (FinE.imp (FinE.bind ff) fun v h1 ρ1 H1 e1 R1 f1 w rv => ?_)
  obtain ⟨z, eo, f2⟩ := opt_fin f1
  cases es : seqOf h1 v with
  | none => rw [es] at eo; cases eo
  | some q =>
    rw [es] at eo
    obtain ⟨a, vs, rfl, sq, rr⟩ := seq_rep R1 rv es
    refine c q.1 q.2 h1 ρ1 H1 a vs Q z R1 sq rr eo fun t ws ht rt => ?_
    exact f2 ρ1 _ (Ext.laid0 ht) (R1.aside ht) t ws (e1.dom t ht) (R1.fresh ht) upd_same (rt.mono (Ext.laid0 ht).toMo)
theorem rl_seqL {g : Bool → List EV → Option (List EV)} {fe : ES → M (List EV)} (hd : Hd X x f) (c : RCL G X f g) (ha : RL G X e fe) (he : starEach [e] X.env = (false, eval e X.env) :: starEach [] X.env := by rfl) : RL G X (.Call (.Name x p) [e] [] pos) (lSeqL g fe) := by
  intro σ h ρ τ H Q R S ff
  refine wE.of (hd p pos e [] _ he rfl (pa_cons wE.pe pa_nil he)) ?_
  refine ha σ h ρ τ H _ R S (FinE.imp (FinE.bind ff) fun xs h1 ρ1 H1 e1 R1 f1 q vs hq m l r => ?_)
  obtain ⟨z, eo, f2⟩ := opt_fin f1
  refine c false xs h1 ρ1 H1 q vs Q z R1 (.inl (.inl l)) r eo fun t ws ht rt => ?_
  exact f2 ρ1 _ (Ext.laid0 ht) (R1.aside ht) t ws (e1.dom t ht) (R1.fresh ht) upd_same (rt.mono (Ext.laid0 ht).toMo)
end
theorem rcs_len (hK : X.K = G.K := by rfl) : RCS G X (.builtin "len") fLen := by
  intro t xs h ρ H a vs Q z R sq r e k
  cases e
  rw [← hK] at sq
  refine wC.of call_len_seq ⟨a, vs, rfl, sq.any, ?_⟩
  rw [← r.length]
  exact k H _ Ext.refl R (.int _)
theorem rcs_tuple (hK : X.K = G.K := by rfl) : RCS G X (.type "tuple") fTuple := by
  intro t xs h ρ H a vs Q z R sq r e k
  cases e
  cases t with
  | true => exact wC.of call_tuple_of ⟨a, vs, rfl, .inr ⟨by rw [hK]; exact sq, k H _ Ext.refl R (.tup sq r)⟩⟩
  | false => exact wC.of call_tuple_of ⟨a, vs, rfl, .inl ⟨by rw [hK]; exact sq, fun l hl => k _ _ (Ext.laid0 hl) (R.aside hl) (.tup (.inl (.inl upd_same)) (r.mono (Ext.laid0 hl).toMo))⟩⟩
theorem rcl_list (hK : X.K = G.K := by rfl) : RCL G X (.type "list") fList := by
  intro t xs h ρ H a vs Q z R sq r e k
  cases e
  rw [← hK] at sq
  exact wC.of call_list_of ⟨a, vs, rfl, sq.any, fun l hl => k l vs hl r⟩
theorem bools_rep {ρ : List Addr} {H : Hp} : ∀ {xs : List EV} {vs : List V} {bs : List Bool}, RepL G.K ρ H xs vs → boolsOf xs = some bs → vs = bs.map V.bl
  | [], _, _, r, e => by cases r; cases e; rfl
  | x :: xs, _, bs, r, e => by
    cases r with
    | cons a b =>
      cases x with
      | bl c =>
        cases a
        simp only [boolsOf] at e
        cases e1 : boolsOf xs with
        | none => rw [e1] at e; cases e
        | some cs => rw [e1] at e; cases e; rw [bools_rep b e1]; rfl
      | _ => cases e
theorem strs_rep {ρ : List Addr} {H : Hp} : ∀ {xs : List EV} {vs : List V} {bs : List Str}, RepL G.K ρ H xs vs → strsOf xs = some bs → vs = bs.map V.str
  | [], _, _, r, e => by cases r; cases e; rfl
  | x :: xs, _, bs, r, e => by
    cases r with
    | cons a b =>
      cases x with
      | str c =>
        cases a
        simp only [strsOf] at e
        cases e1 : strsOf xs with
        | none => rw [e1] at e; cases e
        | some cs => rw [e1] at e; cases e; rw [strs_rep b e1]; rfl
      | _ => cases e
theorem rep_strs {ρ : List Addr} {H : Hp} : ∀ ss : List Str, RepL G.K ρ H (ss.map EV.str) (ss.map V.str)
  | [] => .nil
  | s :: r => .cons (.str s) (rep_strs r)
theorem ints_rep {ρ : List Addr} {H : Hp} : ∀ {xs : List EV} {vs : List V} {bs : List Int}, RepL G.K ρ H xs vs → intsOf xs = some bs → vs = bs.map V.int
  | [], _, _, r, e => by cases r; cases e; rfl
  | x :: xs, _, bs, r, e => by
    cases r with
    | cons a b =>
      cases x with
      | int c =>
        cases a
        simp only [intsOf] at e
        cases e1 : intsOf xs with
        | none => rw [e1] at e; cases e
        | some cs => rw [e1] at e; cases e; rw [ints_rep b e1]; rfl
      | _ => cases e
theorem rep_ints {ρ : List Addr} {H : Hp} : ∀ ss : List Int, RepL G.K ρ H (ss.map EV.int) (ss.map V.int)
  | [] => .nil
  | s :: r => .cons (.int s) (rep_ints r)
theorem rcs_all (hc : X.calm = true := by rfl) (hK : X.K = G.K := by rfl) : RCS G X (.builtin "all") fAll := by
  intro t xs h ρ H a vs Q z R sq r e k
  cases t with
  | true => cases e
  | false =>
    simp only [fAll, Bool.false_eq_true, if_false] at e
    cases e1 : boolsOf xs with
    | none => rw [e1] at e; cases e
    | some bs =>
      rw [e1] at e; cases e
      have := bools_rep r e1
      subst this
      exact wC.of (cr_all hc) ⟨a, bs, rfl, by rw [hK]; exact sq, k H _ Ext.refl R (.bl _)⟩
theorem rcs_any (hc : X.calm = true := by rfl) (hK : X.K = G.K := by rfl) : RCS G X (.builtin "any") fAny := by
  intro t xs h ρ H a vs Q z R sq r e k
  cases t with
  | true => cases e
  | false =>
    simp only [fAny, Bool.false_eq_true, if_false] at e
    cases e1 : boolsOf xs with
    | none => rw [e1] at e; cases e
    | some bs =>
      rw [e1] at e; cases e
      have := bools_rep r e1
      subst this
      exact wC.of (cr_any hc) ⟨a, bs, rfl, by rw [hK]; exact sq, k H _ Ext.refl R (.bl _)⟩

/-! ### sorting texts -/
theorem str_ext {a b : Str} (h : a.cps.toList = b.cps.toList) : a = b := by
  cases a; cases b
  exact congrArg Str.mk (Array.toList_inj.mp h)
theorem strLe_total (a b : Str) : strLe a b = true ∨ strLe b a = true := by
  unfold strLe
  rw [ltCps_eq, ltCps_eq]
  by_cases h : b.cps.toList < a.cps.toList
  · right
    simp only [Bool.not_eq_true', decide_eq_false_iff_not]
    exact fun h2 => List.lt_irrefl _ (List.lt_trans h h2)
  · left; simpa using h
theorem strLe_antisymm {a b : Str} (h1 : strLe a b = true) (h2 : strLe b a = true) : a = b := by
  unfold strLe at h1 h2
  rw [ltCps_eq] at h1 h2
  simp only [Bool.not_eq_true', decide_eq_false_iff_not] at h1 h2
  exact str_ext (List.le_antisymm h1 h2)
theorem strLe_trans {a b c : Str} (h1 : strLe a b = true) (h2 : strLe b c = true) : strLe a c = true := by
  unfold strLe at h1 h2 ⊢
  rw [ltCps_eq] at h1 h2 ⊢
  simp only [Bool.not_eq_true', decide_eq_false_iff_not] at h1 h2 ⊢
  exact List.le_trans h1 h2
theorem insS_perm (a : Str) : ∀ l, (insS a l).Perm (a :: l)
  | [] => .refl _
  | b :: r => by
    unfold insS
    split
    · exact .refl _
    · exact ((insS_perm a r).cons b).trans (.swap _ _ _)
theorem sortS_perm : ∀ l, (sortS l).Perm l
  | [] => .refl _
  | a :: r => (insS_perm a (sortS r)).trans ((sortS_perm r).cons a)
theorem insS_sorted (a : Str) : ∀ l, l.Pairwise (fun x y => strLe x y = true) → (insS a l).Pairwise (fun x y => strLe x y = true)
  | [], _ => by simp [insS]
  | b :: r, h => by
    unfold insS
    obtain ⟨h1, h2⟩ := List.pairwise_cons.mp h
    split
    · rename_i c
      exact List.pairwise_cons.mpr ⟨fun x hx => by
        rcases List.mem_cons.mp hx with rfl | hx
        · exact c
        · exact strLe_trans c (h1 x hx), h⟩
    · rename_i c
      refine List.pairwise_cons.mpr ⟨fun x hx => ?_, insS_sorted a r h2⟩
      rcases List.mem_cons.mp ((insS_perm a r).mem_iff.mp hx) with rfl | hx
      · exact (strLe_total x b).resolve_left c
      · exact h1 x hx
theorem sortS_sorted : ∀ l, (sortS l).Pairwise (fun x y => strLe x y = true)
  | [] => .nil
  | a :: r => insS_sorted a _ (sortS_sorted r)
theorem rising_pw : ∀ (p : Str) (l : List Str), risingS p l = true → (p :: l).Pairwise (fun x y => strLe x y = true)
  | p, [], _ => by simp
  | p, x :: r, h => by
    simp only [risingS, Bool.and_eq_true] at h
    have ih := rising_pw x r h.2
    refine List.pairwise_cons.mpr ⟨fun y hy => ?_, ih⟩
    rcases List.mem_cons.mp hy with rfl | hy
    · exact h.1
    · exact strLe_trans (show strLe p x = true from h.1) ((List.pairwise_cons.mp ih).1 y hy)
theorem sortedS_pw : ∀ l : List Str, sortedS l = true → l.Pairwise (fun x y => strLe x y = true)
  | [], _ => .nil
  | x :: r, h => rising_pw x r h
theorem sortS_uniq {ys xs : List Str} (hp : ys.Perm xs) (hs : ys.Pairwise (fun x y => strLe x y = true)) : ys = sortS xs := by
  have h := hp.trans (sortS_perm xs).symm
  exact h.eq_of_pairwise (fun x y _ _ h1 h2 => strLe_antisymm h1 h2) hs (sortS_sorted xs)
theorem rcl_sorted (hK : X.K = G.K := by rfl) : RCL G X (.builtin "sorted") fSorted := by
  intro t xs h ρ H a vs Q z R sq r e k
  cases t with
  | true => cases e
  | false =>
    simp only [fSorted, Bool.false_eq_true, if_false] at e
    split at e
    · rename_i ss e1
      split at e
      · rename_i hl
        cases e
        have := strs_rep r e1
        subst this
        refine wC.of cr_sortedS ⟨a, ss, rfl, by rw [hK]; exact sq, hl, fun ys p hp hs hn => ?_⟩
        rw [sortS_uniq hp (sortedS_pw _ hs)]
        exact k p _ hn (rep_strs _)
      · cases e
    · cases e

/-! ### small built-ins -/
theorem rc_int1 : RC G X (.type "int") fInt1 := by
  intro xs h ρ H vs Q z h' R r e k
  unfold fInt1 at e
  split at e
  · cases e
    cases r with
    | cons a b => cases a; cases b; exact wC.of call_int1 (.inl ⟨_, rfl, k ρ H _ Ext.refl R (.int _)⟩)
  · cases e
    cases r with
    | cons a b => cases a; cases b; exact wC.of call_int1 (.inr ⟨_, rfl, k ρ H _ Ext.refl R (.int _)⟩)
  · cases e
theorem rc_abs : RC G X (.builtin "abs") fAbs := by
  intro xs h ρ H vs Q z h' R r e k
  unfold fAbs at e
  split at e
  · cases e
    cases r with
    | cons a b => cases a; cases b; exact wC.of call_abs ⟨_, rfl, k ρ H _ Ext.refl R (.int _)⟩
  · cases e
theorem rc_max2 (hc : X.calm = true := by rfl) : RC G X (.builtin "max") fMax2 := by
  intro xs h ρ H vs Q z h' R r e k
  unfold fMax2 at e
  split at e
  · cases e
    cases r with
    | cons a b =>
      cases b with
      | cons b c => cases a; cases b; cases c; exact wC.of (call_max2 hc) ⟨_, _, rfl, k ρ H _ Ext.refl R (.int _)⟩
  · cases e
theorem rc_min2 (hc : X.calm = true := by rfl) : RC G X (.builtin "min") fMin2 := by
  intro xs h ρ H vs Q z h' R r e k
  unfold fMin2 at e
  split at e
  · cases e
    cases r with
    | cons a b =>
      cases b with
      | cons b c => cases a; cases b; cases c; exact wC.of (call_min2 hc) ⟨_, _, rfl, k ρ H _ Ext.refl R (.int _)⟩
  · cases e
theorem rc_lenS : RC G X (.builtin "len") fLenS := by
  intro xs h ρ H vs Q z h' R r e k
  unfold fLenS at e
  split at e
  · split at e
    · rename_i hl
      cases e
      cases r with
      | cons a b => cases a; cases b; exact wC.of call_len_str ⟨_, rfl, sz_ok hl, k ρ H _ Ext.refl R (.int _)⟩
    · cases e
  · cases e
theorem rc_len (hK : X.K = G.K := by rfl) : RC G X (.builtin "len") fLenA := by
  intro xs h ρ H vs Q z h' R r e k
  unfold fLenA at e
  split at e
  · split at e
    · rename_i hl
      cases e
      cases r with
      | cons a b => cases a; cases b; exact wC.of call_len_str ⟨_, rfl, sz_ok hl, k ρ H _ Ext.refl R (.int _)⟩
    · cases e
  · cases e
    cases r with
    | cons a b =>
      cases b
      cases a with
      | tup q rr =>
        refine wC.of call_len_seq ⟨_, _, rfl, .inr (by rw [hK]; exact q), ?_⟩
        rw [← rr.length]
        exact k ρ H _ Ext.refl R (.int _)
  · cases e
    cases r with
    | cons a b =>
      cases b
      cases a with
      | rl q rr =>
        refine wC.of call_len_seq ⟨_, _, rfl, .inl (by rw [hK]; exact q.sq), ?_⟩
        rw [← rr.length]
        exact k ρ H _ Ext.refl R (.int _)
  · cases r with
    | cons a b =>
      cases b
      split at e
      · rename_i xs eo
        cases e
        obtain ⟨p, rfl, qa, ws, hv, rr⟩ := getref R a eo
        refine wC.of call_len_seq ⟨_, _, rfl, .inl (.inl (.inl hv)), ?_⟩
        rw [← rr.length]
        exact k ρ H _ Ext.refl R (.int _)
      · rename_i xs eo
        cases e
        obtain ⟨p, rfl, qa, ws, hv, rr⟩ := getref R a eo
        refine wC.of call_lenD ⟨_, _, rfl, hv, ?_⟩
        have : xs.length = ws.length := by
          clear k eo hv qa
          induction rr with
          | nil => rfl
          | cons a b ih => simp [ih]
        rw [← this]
        exact k ρ H _ Ext.refl R (.int _)
      · cases e
  · cases e
theorem ty_rep {ρ : List Addr} {h : EH} {H : Hp} {v : EV} {w : V} {t : String} (R : Rel G ρ h H) (r : Rep G.K ρ H v w) (e : tyName h v = some t) : TyX G.K H w (.type t) := by
  cases v with
  | non => cases r; cases e; exact .base .non
  | bl b => cases r; cases e; exact .base (.bl b)
  | int b => cases r; cases e; exact .base (.int b)
  | str b => cases r; cases e; exact .base (.str b)
  | tup xs =>
    cases e
    cases r with
    | tup q _ =>
      rcases q with (q | ⟨o, q⟩) | ⟨o, _, _, q, c, _⟩
      · exact .base (.tup q)
      · exact .fTuple q
      · exact .kTuple q c
  | rl xs =>
    cases e
    cases r with
    | rl q _ =>
      rcases q with ⟨o, q⟩ | ⟨o, _, _, q, c, _⟩
      · exact .base (.frz q)
      · exact .kList q c
  | ref n =>
    simp only [tyName] at e
    split at e
    · rename_i xs eo
      obtain ⟨p, rfl, qa, vs, hv, _⟩ := getref R r eo
      cases e; exact .base (.lst hv)
    · rename_i xs eo
      obtain ⟨p, rfl, qa, vs, hv, _⟩ := getref R r eo
      cases e; exact .base (.dK hv)
    · rename_i xs eo
      obtain ⟨p, rfl, qa, vs, hv, _⟩ := getref R r eo
      cases e; exact .base (.dT hv)
    · rename_i xs eo
      obtain ⟨p, rfl, qa, o, vs, hv, _⟩ := getref R r eo
      cases e; exact .fDict hv
    · cases e
/-- isinstance(e, T), T a built-in class by its name -/
theorem re_isTy {T : Str} {Tn : String} {e : Expr} {fe : ES → M EV} {p tp pos : Pos} (ha : RE G X e fe) (hm : X.mg "isinstance" = none) (hT : X.mg T = none) (hv : bootBuiltins T = some (.type Tn)) (hg : Gl X "isinstance" := by rfl) (hgT : Gl X T := by rfl) (hn : T ≠ "__name__" := by decide) (hdb : (T == ("__debug__" : Str)) = false := by decide)
    (he : starEach [e, .Name T tp] X.env = (false, eval e X.env) :: starEach [.Name T tp] X.env := by rfl) (hK : X.K = G.K := by rfl) : RE G X (.Call (.Name "isinstance" p) [e, .Name T tp] [] pos) (eUn (isTy Tn) fe) := by
  intro σ h ρ τ H Q R S ff
  refine wE.of (pe_callB call_isi hg hm (by decide +kernel) (pa_cons wE.pe (pa_cons (pe_bltn (v := .ty Tn) hgT hT hv rfl hn hdb) pa_nil) he) (by decide) (by decide) he rfl) ?_
  refine ha σ h ρ τ H _ R S (FinE.imp (FinE.bind ff) fun v h1 ρ1 H1 e1 R1 f1 w rv => ?_)
  obtain ⟨z, h3, e3, f3⟩ := FinE.lift f1
  simp only [isTy] at e3
  cases et : tyName h1 v with
  | none => rw [et] at e3; cases e3
  | some t =>
    rw [et] at e3
    cases eb : kitB t Tn with
    | none => simp [eb] at e3
    | some b =>
      simp only [Option.bind_some, eb, Option.map_some, Option.some.injEq, Prod.mk.injEq] at e3
      obtain ⟨rfl, rfl⟩ := e3
      exact ⟨w, .ty Tn, .type t, .type Tn, b, rfl, .ty Tn, by rw [hK]; exact ty_rep R1 rv et, kit_ty eb, f3 ρ1 H1 Ext.refl R1 _ (.bl b)⟩
end
end Z
end

section
/-! Z, methods of lists and dicts, walks over dicts. -/
namespace Z
open PySem PySem.Spec PyProof.Rows L2

def eAppend (fo fe : ES → M EV) : ES → M EV := fun σ h => (fo σ h).bind fun x h1 => match listOf h1 x, x with
  | some _, .ref n => (fe σ h1).bind fun v h2 => match h2[n]? with
    | some (.lst xs) => if xs.length < 100000 then .ok .non (h2.set n (.lst (xs ++ [v]))) else .stuck
    | _ => .stuck
  | _, _ => .stuck
def eExtendL (fo : ES → M EV) (fe : ES → M (List EV)) : ES → M EV := fun σ h => (fo σ h).bind fun x h1 => match listOf h1 x, x with
  | some _, .ref n => (fe σ h1).bind fun ys h2 => match h2[n]? with
    | some (.lst xs) => if xs.length + ys.length ≤ 100000 then .ok .non (h2.set n (.lst (xs ++ ys))) else .stuck
    | _ => .stuck
  | _, _ => .stuck
def eExtend (fo fe : ES → M EV) : ES → M EV := fun σ h => (fo σ h).bind fun x h1 => match listOf h1 x, x with
  | some _, .ref n => (fe σ h1).bind fun y h2 => match h2[n]?, y with
    | some (.lst xs), .ref m => match h2[m]? with
      | some (.lst ys) => if xs.length + ys.length ≤ 100000 then .ok .non (h2.set n (.lst (xs ++ ys))) else .stuck
      | _ => .stuck
    | _, _ => .stuck
  | _, _ => .stuck
section
variable {κ : Type} [DecidableEq κ]
def valE (kvs : List (κ × EV)) (k : κ) : Option EV := (kvs.find? fun kv => decide (kv.1 = k)).map (·.2)
def putE (kvs : List (κ × EV)) (k : κ) (v : EV) : List (κ × EV) :=
  if (kvs.any fun kv => decide (kv.1 = k)) = true then kvs.map (fun kv => if kv.1 = k then (kv.1, v) else kv) else kvs ++ [(k, v)]
end
def keyOf : EV → Option Key
  | .int i => some (.inl i)
  | .str s => some (.inr s)
  | _ => none
def evOf : Key → EV
  | .inl i => .int i
  | .inr s => .str s
def eDict0 : ES → M EV := fun _ h => .ok (.ref h.length) (h ++ [.dK []])
def isDict (h : EH) : EV → Bool
  | .ref n => match h[n]? with
    | some (.dK _) => true
    | _ => false
  | _ => false
def setd (x y z : EV) (h : EH) : Option (EV × EH) := match x, keyOf y with
  | .ref n, some k => match h[n]? with
    | some (.dK kvs) => if kvs.length < 100000 then (match valE kvs k with
      | some v => some (v, h)
      | none => some (z, h.set n (.dK (putE kvs k z)))) else none
    | _ => none
  | _, _ => none
def eSetd (fd fk fv : ES → M EV) : ES → M EV := fun σ h => (fd σ h).bind fun x h1 => match isDict h1 x with
  | true => (fk σ h1).bind fun y h2 => (fv σ h2).bind fun z h3 => R.lift (setd x y z h3)
  | false => .stuck
/-- a dict is locked while a part runs -/
def unlk {α : Type} (n : Nat) (kvs : List (Key × EV)) (r : R α) : R α := match r with
  | .ok a h => .ok a (h.set n (.dK kvs))
  | .exc c fs h => .exc c fs h
  | .stuck => .stuck
def lLock (sel : ES → EH → Option Nat) (f : ES → M (List EV)) : ES → M (List EV) := fun σ h => match sel σ h with
  | some n => match h[n]? with
    | some (.dK kvs) => unlk n kvs (f σ (h.set n (.dF kvs)))
    | _ => .stuck
  | none => .stuck
def unlkS (n : Nat) (kvs : List (Key × EV)) (r : FL) : FL := match r with
  | .nx σ h => .nx σ (h.set n (.dK kvs))
  | .rt v h => .rt v (h.set n (.dK kvs))
  | .bk σ h => .bk σ (h.set n (.dK kvs))
  | .ct σ h => .ct σ (h.set n (.dK kvs))
  | .exc c fs σ h => .exc c fs σ h
  | .stuck => .stuck
def sLock (sel : ES → EH → Option Nat) (f : ES → EH → FL) : ES → EH → FL := fun σ h => match sel σ h with
  | some n => match h[n]? with
    | some (.dK kvs) => unlkS n kvs (f σ (h.set n (.dF kvs)))
    | _ => .stuck
  | none => .stuck
/-- which dict: the one that an expression without effect gives -/
def selE (f : ES → M EV) : ES → EH → Option Nat := fun σ h => match f σ h with
  | .ok (.ref n) _ => some n
  | _ => none
def dvals (v : EV) (h : EH) : R IT := match v with
  | .ref n => match h[n]? with
    | some (.dF kvs) => .ok (.vals (kvs.map (·.2))) h
    | _ => .stuck
  | _ => .stuck
def dkeys (v : EV) (h : EH) : R IT := match v with
  | .ref n => match h[n]? with
    | some (.dF kvs) => .ok (.vals (kvs.map fun kv => evOf kv.1)) h
    | _ => .stuck
  | _ => .stuck
def ditems (v : EV) (h : EH) : R IT := match v with
  | .ref n => match h[n]? with
    | some (.dF kvs) => .ok (.vals (kvs.map fun kv => .tup [evOf kv.1, kv.2])) h
    | _ => .stuck
  | _ => .stuck
def iDV (f : ES → M EV) : ES → M IT := fun σ h => (f σ h).bind dvals
def iDK (f : ES → M EV) : ES → M IT := fun σ h => (f σ h).bind dkeys
def iDI (f : ES → M EV) : ES → M IT := fun σ h => (f σ h).bind ditems

section
variable {G : Wd} {X : Cx}
theorem RepP.find {κ : Type} [DecidableEq κ] {ρ : List Addr} {H : Hp} {k : κ} : ∀ {xs : List (κ × EV)} {vs : List (κ × V)}, RepP G.K ρ H xs vs →
    (∀ x, valE xs k = some x → ∃ v, valV vs k = some v ∧ Rep G.K ρ H x v) ∧ (valE xs k = none → valV vs k = none) ∧ ((xs.any fun kv => decide (kv.1 = k)) = (vs.any fun kv => decide (kv.1 = k)))
  | _, _, .nil => ⟨fun x e => (by cases e), fun _ => rfl, rfl⟩
  | _, _, .cons (k := k') (x := x) (v := v) a b => by
    obtain ⟨h1, h2, h3⟩ := RepP.find (k := k) b
    by_cases e : k' = k
    · refine ⟨fun y hy => ⟨v, by simp [valV, List.find?_cons, e], ?_⟩, fun hy => ?_, by simp [e]⟩
      · simp [valE, List.find?_cons, e] at hy
        subst hy; exact a
      · simp [valE, List.find?_cons, e] at hy
    · refine ⟨fun y hy => ?_, fun hy => ?_, by simp [e, h3]⟩
      · simp only [valE, List.find?_cons, e, decide_false] at hy
        obtain ⟨w, hw, rw'⟩ := h1 y hy
        exact ⟨w, by simpa [valV, List.find?_cons, e] using hw, rw'⟩
      · simp only [valE, List.find?_cons, e, decide_false] at hy
        simpa [valV, List.find?_cons, e] using h2 hy
theorem RepP.mapk {κ : Type} [DecidableEq κ] {ρ : List Addr} {H : Hp} {k : κ} {x : EV} {v : V} (r : Rep G.K ρ H x v) : ∀ {xs : List (κ × EV)} {vs : List (κ × V)}, RepP G.K ρ H xs vs →
    RepP G.K ρ H (xs.map fun kv => if kv.1 = k then (kv.1, x) else kv) (vs.map fun kv => if kv.1 = k then (kv.1, v) else kv)
  | _, _, .nil => .nil
  | _, _, .cons (k := k') (x := x') (v := v') a b => by
    simp only [List.map_cons]
    by_cases e : k' = k
    · simp only [e, if_true]
      exact .cons r (RepP.mapk r b)
    · simp only [e, if_false]
      exact .cons a (RepP.mapk r b)
theorem RepP.append {κ : Type} {ρ : List Addr} {H : Hp} : ∀ {xs ys : List (κ × EV)} {vs ws : List (κ × V)}, RepP G.K ρ H xs vs → RepP G.K ρ H ys ws → RepP G.K ρ H (xs ++ ys) (vs ++ ws)
  | _, _, _, _, .nil, s => s
  | _, _, _, _, .cons r t, s => .cons r (RepP.append t s)
theorem RepP.put {κ : Type} [DecidableEq κ] {ρ : List Addr} {H : Hp} {k : κ} {x : EV} {v : V} {xs : List (κ × EV)} {vs : List (κ × V)} (b : RepP G.K ρ H xs vs) (r : Rep G.K ρ H x v) : RepP G.K ρ H (putE xs k x) (putK vs k v) := by
  unfold putE putK
  rw [← (RepP.find (k := k) b).2.2]
  split
  · exact b.mapk r
  · exact b.append (.cons r .nil)
theorem RepP.length {κ : Type} {ρ : List Addr} {H : Hp} : ∀ {xs : List (κ × EV)} {vs : List (κ × V)}, RepP G.K ρ H xs vs → xs.length = vs.length
  | _, _, .nil => rfl
  | _, _, .cons _ b => by simp [RepP.length b]
theorem key_rep {ρ : List Addr} {H : Hp} {y : EV} {v : V} {k : Key} (r : Rep G.K ρ H y v) (e : keyOf y = some k) : v = kV k := by
  cases y with
  | int i => cases r; cases e; rfl
  | str i => cases r; cases e; rfl
  | _ => cases e
theorem rep_key {ρ : List Addr} {H : Hp} (k : Key) : Rep G.K ρ H (evOf k) (kV k) := by
  cases k
  · exact .int _
  · exact .str _

/-! ### methods of lists -/
theorem list_ref {ρ : List Addr} {h : EH} {H : Hp} {n : Nat} {v : V} {xs : List EV} (R : Rel G ρ h H) (r : Rep G.K ρ H (.ref n) v) (e : listOf h (.ref n) = some xs) : ∃ a vs, v = .ref a ∧ ρ[n]? = some a ∧ H a = some (.lst vs) := by
  simp only [listOf] at e
  split at e
  · rename_i xs' eo
    obtain ⟨p, rfl, qa, vs, hv, _⟩ := getref R r eo
    exact ⟨p, vs, rfl, qa, hv⟩
  · cases e
theorem re_append {o e : Expr} {fo fe : ES → M EV} {ap cp : Pos} (ho : RE G X o fo) (he : RE G X e fe) (hbase : attributeBase o "append" X.env (eval o X.env) = eval o X.env := by rfl)
    (hfew : ((backTo cp (starEach [e] X.env)).all (fun x => !x.1) && (backToKw cp (keywordEach [] X.env)).all (fun x => x.1.isSome) && decide (([e] : List Expr).length + ([] : List Keyword).length + (if ([] : List Keyword).isEmpty then 0 else 1) < 30)) = true := by rfl)
    (hline : (ap.endLine == cp.line) = true := by rfl) (hs : starEach [e] X.env = (false, eval e X.env) :: starEach [] X.env := by rfl) : RE G X (.Call (.Attribute o "append" ap) [e] [] cp) (eAppend fo fe) := by
  intro σ h ρ τ H Q R S f
  refine wE.of (pe_bm PySem.F.plainAttrs_list PySem.F.slot_list_append PySem.F.type_list_append mt_append wE.pe (pa_cons wE.pe pa_nil hs) hbase hfew hline hs rfl) ?_
  refine ho σ h ρ τ H _ R S (FinE.imp (FinE.bind f) fun x h1 ρ1 H1 e1 R1 f1 v rv => ?_)
  split at f1
  · rename_i xs n el
    obtain ⟨a, vs, rfl, qa, hv⟩ := list_ref R1 rv el
    refine ⟨.inl ⟨rfl, vs, .inl (.inl hv)⟩, ?_⟩
    refine he σ h1 ρ1 τ H1 _ R1 (S.mono e1.toMo) (FinE.imp (FinE.bind f1) fun y h2 ρ2 H2 e2 R2 f2 w rw' => ?_)
    split at f2
    · rename_i ys eo
      split at f2
      · rename_i hl
        have qa2 := e2.toMo.get qa
        obtain ⟨vs2, hv2, rv2⟩ := R2.obj n a _ qa2 eo
        have ex := Ext.write (u := .lst (vs2 ++ [w])) qa2 (R2.obj n a _ qa2 eo) rfl
        refine ⟨a, vs2, w, rfl, rfl, hv2, by rw [← rv2.length]; exact sz_lt hl, ?_⟩
        exact f2 ρ2 _ ex (R2.write qa2 eo ⟨_, upd_same, (rv2.append (.cons rw' .nil)).mono ex.toMo⟩ rfl) _ .non
      · exact f2.elim
    · exact f2.elim
  · exact f1.elim
theorem re_extendL {o e : Expr} {fo : ES → M EV} {fe : ES → M (List EV)} {ap cp : Pos} (ho : RE G X o fo) (he : RL G X e fe) (hbase : attributeBase o "extend" X.env (eval o X.env) = eval o X.env := by rfl)
    (hfew : ((backTo cp (starEach [e] X.env)).all (fun x => !x.1) && (backToKw cp (keywordEach [] X.env)).all (fun x => x.1.isSome) && decide (([e] : List Expr).length + ([] : List Keyword).length + (if ([] : List Keyword).isEmpty then 0 else 1) < 30)) = true := by rfl)
    (hline : (ap.endLine == cp.line) = true := by rfl) (hs : starEach [e] X.env = (false, eval e X.env) :: starEach [] X.env := by rfl) : RE G X (.Call (.Attribute o "extend" ap) [e] [] cp) (eExtendL fo fe) := by
  intro σ h ρ τ H Q R S f
  refine wE.of (pe_bm PySem.F.plainAttrs_list PySem.F.slot_list_extend PySem.F.type_list_extend mt_extend wE.pe (pa_cons wE.pe pa_nil hs) hbase hfew hline hs rfl) ?_
  refine ho σ h ρ τ H _ R S (FinE.imp (FinE.bind f) fun x h1 ρ1 H1 e1 R1 f1 v rv => ?_)
  split at f1
  · rename_i xs n el
    obtain ⟨a, vs, rfl, qa, hv⟩ := list_ref R1 rv el
    refine ⟨.inl ⟨rfl, vs, .inl (.inl hv)⟩, ?_⟩
    refine he σ h1 ρ1 τ H1 _ R1 (S.mono e1.toMo) (FinE.imp (FinE.bind f1) fun ys h2 ρ2 H2 e2 R2 f2 p ws hp m l r => ?_)
    split at f2
    · rename_i zs eo
      split at f2
      · rename_i hl
        have qa2 := e2.toMo.get qa
        obtain ⟨vs2, hv2, rv2⟩ := R2.obj n a _ qa2 eo
        have ex := Ext.write (u := .lst (vs2 ++ ws)) qa2 (R2.obj n a _ qa2 eo) rfl
        refine ⟨a, p, vs2, ws, rfl, rfl, hv2, l, by rw [← rv2.length, ← r.length]; exact sz_ok hl, ?_⟩
        exact f2 ρ2 _ ex (R2.write qa2 eo ⟨_, upd_same, (rv2.append r).mono ex.toMo⟩ rfl) _ .non
      · exact f2.elim
    · exact f2.elim
  · exact f1.elim
theorem re_extend {o e : Expr} {fo fe : ES → M EV} {ap cp : Pos} (ho : RE G X o fo) (he : RE G X e fe) (hbase : attributeBase o "extend" X.env (eval o X.env) = eval o X.env := by rfl)
    (hfew : ((backTo cp (starEach [e] X.env)).all (fun x => !x.1) && (backToKw cp (keywordEach [] X.env)).all (fun x => x.1.isSome) && decide (([e] : List Expr).length + ([] : List Keyword).length + (if ([] : List Keyword).isEmpty then 0 else 1) < 30)) = true := by rfl)
    (hline : (ap.endLine == cp.line) = true := by rfl) (hs : starEach [e] X.env = (false, eval e X.env) :: starEach [] X.env := by rfl) : RE G X (.Call (.Attribute o "extend" ap) [e] [] cp) (eExtend fo fe) := by
  intro σ h ρ τ H Q R S f
  refine wE.of (pe_bm PySem.F.plainAttrs_list PySem.F.slot_list_extend PySem.F.type_list_extend mt_extend wE.pe (pa_cons wE.pe pa_nil hs) hbase hfew hline hs rfl) ?_
  refine ho σ h ρ τ H _ R S (FinE.imp (FinE.bind f) fun x h1 ρ1 H1 e1 R1 f1 v rv => ?_)
  split at f1
  · rename_i xs n el
    obtain ⟨a, vs, rfl, qa, hv⟩ := list_ref R1 rv el
    refine ⟨.inl ⟨rfl, vs, .inl (.inl hv)⟩, ?_⟩
    refine he σ h1 ρ1 τ H1 _ R1 (S.mono e1.toMo) (FinE.imp (FinE.bind f1) fun y h2 ρ2 H2 e2 R2 f2 w rw' => ?_)
    split at f2
    · rename_i zs m eo
      split at f2
      · rename_i ys eo2
        split at f2
        · rename_i hl
          have qa2 := e2.toMo.get qa
          obtain ⟨vs2, hv2, rv2⟩ := R2.obj n a _ qa2 eo
          obtain ⟨p, rfl, qp, ws, l, r⟩ := getref R2 rw' eo2
          have ex := Ext.write (u := .lst (vs2 ++ ws)) qa2 (R2.obj n a _ qa2 eo) rfl
          refine ⟨a, p, vs2, ws, rfl, rfl, hv2, l, by rw [← rv2.length, ← r.length]; exact sz_ok hl, ?_⟩
          exact f2 ρ2 _ ex (R2.write qa2 eo ⟨_, upd_same, (rv2.append r).mono ex.toMo⟩ rfl) _ .non
        · exact f2.elim
      · exact f2.elim
    · exact f2.elim
  · exact f1.elim

/-! ### dicts -/
theorem re_dict0 {pos : Pos} : RE G X (.Dict [] [] pos) eDict0 := by
  intro σ h ρ τ H Q R S f
  refine wE.of pe_dnewK fun p hp => ?_
  refine f (ρ ++ [p]) _ (Ext.laid hp) (R.alloc hp ⟨[], upd_same, .nil⟩) _ (.ref ?_)
  rw [← R.len, List.getElem?_append_right (Nat.le_refl _)]
  simp
theorem re_setd {o k d : Expr} {fo fk fd : ES → M EV} {ap cp : Pos} (ho : RE G X o fo) (hk : RE G X k fk) (hd : RE G X d fd) (m : M2 X o "setdefault" ap k d cp := by exact ⟨rfl, rfl, rfl, rfl⟩) : RE G X (.Call (.Attribute o "setdefault" ap) [k, d] [] cp) (eSetd fo fk fd) := by
  intro σ h ρ τ H Q R S f
  refine wE.of (pe_dsetd wE.pe wE.pe wE.pe m) ?_
  refine ho σ h ρ τ H _ R S (FinE.imp (FinE.bind f) fun x h1 ρ1 H1 e1 R1 f1 v rv => ?_)
  cases ed : isDict h1 x with
  | false => rw [ed] at f1; exact f1.elim
  | true =>
    rw [ed] at f1
    cases x with
    | ref n =>
      simp only [isDict] at ed
      split at ed
      · rename_i kvs eo
        obtain ⟨a, rfl, qa, ws, hw, _⟩ := getref R1 rv eo
        refine ⟨a, rfl, .inl ⟨ws, .inl hw⟩, ?_⟩
        refine hk σ h1 ρ1 τ H1 _ R1 (S.mono e1.toMo) (FinE.imp (FinE.bind f1) fun y h2 ρ2 H2 e2 R2 f2 u ru => ?_)
        refine hd σ h2 ρ2 τ H2 _ R2 ((S.mono e1.toMo).mono e2.toMo) (FinE.imp (FinE.bind f2) fun z h3 ρ3 H3 e3 R3 f3 t rt => ?_)
        obtain ⟨r, h4, e4, f4⟩ := FinE.lift f3
        unfold setd at e4
        split at e4
        · rename_i n' kk hn hkk
          have hn' : n = n' := by injection hn
          subst hn'
          split at e4
          · rename_i kvs3 eo3
            split at e4
            · rename_i hl
              have qa3 := (e2.trans e3).toMo.get qa
              obtain ⟨ws3, hw3, rw3⟩ := R3.obj n a _ qa3 eo3
              have hu := key_rep (ru.mono e3.toMo) hkk
              refine ⟨ws3, kk, hw3, hu, by rw [← rw3.length]; exact sz_lt hl, fun v' hv' => ?_, fun hv' => ?_⟩
              · cases ev : valE kvs3 kk with
                | none => rw [(RepP.find (k := kk) rw3).2.1 ev] at hv'; cases hv'
                | some x' =>
                  rw [ev] at e4
                  cases e4
                  obtain ⟨w', h5, r5⟩ := (RepP.find (k := kk) rw3).1 _ ev
                  rw [hv'] at h5; cases h5
                  exact f4 ρ3 H3 Ext.refl R3 _ r5
              · cases ev : valE kvs3 kk with
                | some x' =>
                  obtain ⟨w', h5, r5⟩ := (RepP.find (k := kk) rw3).1 x' ev
                  rw [hv'] at h5; cases h5
                | none =>
                  rw [ev] at e4
                  cases e4
                  have ex := Ext.write (u := .dK (putK ws3 kk t)) qa3 (R3.obj n a _ qa3 eo3) rfl
                  exact f4 ρ3 _ ex (R3.write qa3 eo3 ⟨_, upd_same, (rw3.put rt).mono ex.toMo⟩ rfl) _ (rt.mono ex.toMo)
            · cases e4
          · cases e4
        · cases e4
      · cases ed
    | _ => cases ed

/-! ### locked dicts -/
theorem lock_rel {ρ : List Addr} {h : EH} {H : Hp} {n : Nat} {a : Addr} {kvs : List (Key × EV)} {ws : List (Key × V)} (R : Rel G ρ h H) (qa : ρ[n]? = some a) (eo : h[n]? = some (.dK kvs)) (hw : H a = some (.dK ws)) (rw' : RepP G.K ρ H kvs ws) (od : Obj) :
    Ext ρ H ρ (upd H a (.frz od (.dK ws))) ∧ Rel G ρ (h.set n (.dF kvs)) (upd H a (.frz od (.dK ws))) := by
  have ex := Ext.write (u := .frz od (.dK ws)) qa (R.obj n a _ qa eo) rfl
  exact ⟨ex, R.write qa eo ⟨od, ws, upd_same, rw'.mono ex.toMo⟩ rfl⟩
theorem unlock_rel {ρ ρ2 : List Addr} {h2 : EH} {H H2 : Hp} {n : Nat} {a : Addr} {od : Obj} {kvs : List (Key × EV)} {ws : List (Key × V)} (qa : ρ[n]? = some a) (hw : H a = some (.dK ws)) (rw' : RepP G.K ρ H kvs ws) (e : Ext ρ (upd H a (.frz od (.dK ws))) ρ2 H2) (R2 : Rel G ρ2 h2 H2) :
    H2 a = some (.frz od (.dK ws)) ∧ Ext ρ H ρ2 (upd H2 a (.dK ws)) ∧ Mo ρ2 H2 ρ2 (upd H2 a (.dK ws)) ∧ Rel G ρ2 (h2.set n (.dK kvs)) (upd H2 a (.dK ws)) := by
  have hz := e.lck a od (.dK ws) upd_same
  have mem : a ∈ ρ := List.mem_of_getElem? qa
  have qa2 := e.toMo.get qa
  have nt : ∀ b vs, H b = some (.tup vs) → b ≠ a := fun b vs q z => by subst z; rw [hw] at q; cases q
  have nf : ∀ b o u, H b = some (.frz o u) → b ≠ a := fun b o u q z => by subst z; rw [hw] at q; cases q
  have ex : Ext ρ H ρ2 (upd H2 a (.dK ws)) := by
    refine ⟨⟨e.pre, fun b vs q => ?_, fun b o u z q => ?_⟩, fun b o u q => ?_, fun b u m q => ?_, fun b q => ?_, fun b m => ?_⟩
    · rw [upd_ne (nt b vs q)]
      exact e.tup b vs (by rw [upd_ne (nt b vs q)]; exact q)
    · rw [upd_ne (nf b o u q)]
      exact e.frz b o u z (by rw [upd_ne (nf b o u q)]; exact q)
    · rw [upd_ne (nf b o u q)]
      exact e.lck b o u (by rw [upd_ne (nf b o u q)]; exact q)
    · have nb : b ≠ a := fun z => m (by rw [z]; exact mem)
      rw [upd_ne nb]
      exact e.oth b u m (by rw [upd_ne nb]; exact q)
    · by_cases z : b = a
      · subst z; rw [upd_same] at q; cases q
      · rw [upd_ne z] at q
        have := e.dom b q
        rwa [upd_ne z] at this
    · rcases e.new b m with z | z
      · exact .inl z
      · by_cases w : b = a
        · subst w; exact .inl mem
        · rw [upd_ne w] at z; exact .inr z
  have mo : Mo ρ2 H2 ρ2 (upd H2 a (.dK ws)) := ⟨⟨[], by simp⟩, fun b vs q => by rw [upd_ne (fun z => by subst z; rw [hz] at q; cases q)]; exact q, fun b o u s q => by
    rw [upd_ne (fun z => by subst z; rw [hz] at q; cases q; cases s)]; exact q⟩
  refine ⟨hz, ex, mo, by simp [R2.len], R2.nd, fun m b w q q' => ?_⟩
  by_cases e3 : n = m
  · subst e3
    rw [qa2] at q; cases q
    have hl : n < h2.length := by rw [← R2.len]; exact (List.getElem?_eq_some_iff.mp qa2).1
    rw [List.getElem?_set_self hl] at q'
    cases q'
    exact ⟨ws, upd_same, rw'.mono ex.toMo⟩
  · rw [List.getElem?_set_ne e3] at q'
    have nb : b ≠ a := fun z => by
      subst z
      obtain ⟨g1, g2⟩ := List.getElem?_eq_some_iff.mp qa2
      obtain ⟨g3, g4⟩ := List.getElem?_eq_some_iff.mp q
      exact e3 ((List.getElem_inj R2.nd).mp (g2.trans g4.symm))
    exact (R2.obj m b w q q').move mo fun v z => by rw [upd_ne nb]; exact z
theorem rl_lock {e : Expr} {sel : ES → EH → Option Nat} {f : ES → M (List EV)} (he : RL G X e f) : RL G X e (lLock sel f) := by
  intro σ h ρ τ H Q R S ff
  dsimp only [lLock] at ff
  split at ff
  · rename_i n _
    split at ff
    · rename_i kvs eo
      obtain ⟨a, qa, ws, hw, rw'⟩ := R.at eo
      refine wE.of (pe_lock wE.pe) ⟨a, .dK ws, hw, trivial, fun od => ?_⟩
      obtain ⟨ex, R1⟩ := lock_rel R qa eo hw rw' od
      refine he σ _ ρ τ _ _ R1 (S.mono ex.toMo) ?_
      cases e0 : f σ (h.set n (.dF kvs)) with
      | stuck => rw [e0] at ff; exact ff.elim
      | exc c fs h' =>
        rw [e0] at ff
        obtain ⟨W, tk, f2⟩ := ff
        exact ⟨W, tk, fun ρ2 H2 d e2 R2 x2 => f2 ρ2 H2 d (ex.trans e2) R2 x2⟩
      | ok xs h2 =>
        rw [e0] at ff
        intro ρ2 H2 e2 R2 p vs hp m l r
        obtain ⟨hz, ex3, mo3, R3⟩ := unlock_rel qa hw rw' e2 R2
        have npa : p ≠ a := fun z => m (by rw [z]; exact List.mem_of_getElem? (e2.toMo.get qa))
        exact ⟨hz, ff ρ2 _ ex3 R3 p vs (upd_dom p hp) m (by rw [upd_ne npa]; exact l) (r.mono mo3)⟩
    · exact ff.elim
  · exact ff.elim
theorem rs_lock {st : Stmt} {sel : ES → EH → Option Nat} {f : ES → EH → FL} (he : RS G X st f) : RS G X st (sLock sel f) := by
  intro σ h ρ τ H D R S ff
  dsimp only [sLock] at ff
  split at ff
  · rename_i n _
    split at ff
    · rename_i kvs eo
      obtain ⟨a, qa, ws, hw, rw'⟩ := R.at eo
      refine wS.of (ps_lock wS.ps) ⟨a, .dK ws, hw, trivial, fun od => ?_⟩
      obtain ⟨ex, R1⟩ := lock_rel R qa eo hw rw' od
      refine he σ _ ρ τ _ _ R1 (S.mono ex.toMo) ?_
      cases e0 : f σ (h.set n (.dF kvs)) with
      | stuck => rw [e0] at ff; exact ff.elim
      | exc c fs σ' h' =>
        rw [e0] at ff
        obtain ⟨W, tk, f2⟩ := ff
        exact ⟨W, tk, fun ρ2 H2 τ2 d e2 R2 S2 x2 => f2 ρ2 H2 τ2 d (ex.trans e2) R2 S2 x2⟩
      | nx σ' h2 =>
        rw [e0] at ff
        intro ρ2 H2 τ2 e2 R2 S2
        obtain ⟨hz, ex3, mo3, R3⟩ := unlock_rel qa hw rw' e2 R2
        exact ⟨hz, ff ρ2 _ τ2 ex3 R3 (S2.mono mo3)⟩
      | bk σ' h2 =>
        rw [e0] at ff
        intro ρ2 H2 τ2 e2 R2 S2
        obtain ⟨hz, ex3, mo3, R3⟩ := unlock_rel qa hw rw' e2 R2
        exact ⟨hz, ff ρ2 _ τ2 ex3 R3 (S2.mono mo3)⟩
      | ct σ' h2 =>
        rw [e0] at ff
        intro ρ2 H2 τ2 e2 R2 S2
        obtain ⟨hz, ex3, mo3, R3⟩ := unlock_rel qa hw rw' e2 R2
        exact ⟨hz, ff ρ2 _ τ2 ex3 R3 (S2.mono mo3)⟩
      | rt v h2 =>
        rw [e0] at ff
        intro ρ2 H2 x e2 R2 r2
        obtain ⟨hz, ex3, mo3, R3⟩ := unlock_rel qa hw rw' e2 R2
        exact ⟨hz, ff ρ2 _ x ex3 R3 (r2.mono mo3)⟩
    · exact ff.elim
  · exact ff.elim
theorem RepP.get {κ : Type} {ρ : List Addr} {H : Hp} : ∀ {xs : List (κ × EV)} {vs : List (κ × V)} {i : Nat} {p : κ × EV}, RepP G.K ρ H xs vs → xs[i]? = some p → ∃ v, vs[i]? = some (p.1, v) ∧ Rep G.K ρ H p.2 v
  | _, _, _, _, .nil, e => by simp at e
  | _, _, 0, _, .cons a b, e => by simp at e; subst e; exact ⟨_, rfl, a⟩
  | _, _, i + 1, x, .cons a b, e => by
    obtain ⟨v, h1, h2⟩ := RepP.get (i := i) (p := x) b (by simpa using e)
    exact ⟨v, by simpa using h1, h2⟩
/-- the value of an expression that gives a locked dict -/
theorem dlk {ρ : List Addr} {h : EH} {H : Hp} {n : Nat} {v : V} {kvs : List (Key × EV)} (R : Rel G ρ h H) (r : Rep G.K ρ H (.ref n) v) (e : h[n]? = some (.dF kvs)) : ∃ a o ws, v = .ref a ∧ H a = some (.frz o (.dK ws)) ∧ RepP G.K ρ H kvs ws := by
  obtain ⟨a, rfl, qa, o, ws, hw, rw'⟩ := getref R r e
  exact ⟨a, o, ws, rfl, hw, rw'⟩
def CD (G : Wd) (a : Addr) (o : Obj) (kvs : List (Key × EV)) (ws : List (Key × V)) : List Addr → Hp → Prop := fun ρ H => H a = some (.frz o (.dK ws)) ∧ RepP G.K ρ H kvs ws
theorem CD.keep {a : Addr} {o : Obj} {kvs : List (Key × EV)} {ws : List (Key × V)} : ∀ ρ H ρ' H', CD G a o kvs ws ρ H → Ext ρ H ρ' H' → CD G a o kvs ws ρ' H' := fun ρ H ρ' H' c e => ⟨e.lck _ _ _ c.1, c.2.mono e.toMo⟩
theorem ri_dvals {tg e : Expr} {f : ES → M EV} {ap cp : Pos} (he : RE G X e f) (hbase : attributeBase e "values" X.env (eval e X.env) = eval e X.env := by rfl) (hline : (ap.endLine == cp.line) = true := by rfl) : RI G X tg (.Call (.Attribute e "values" ap) [] [] cp) (iDV f) := by
  intro σ h ρ τ H R' R S ff
  refine wI.of (pi_values wE.pe hbase hline) ?_
  refine he σ h ρ τ H _ R S (FinE.imp (FinE.bind ff) fun v h1 ρ1 H1 e1 R1 f1 w rv => ?_)
  unfold dvals at f1
  split at f1
  · rename_i n
    split at f1
    · rename_i kvs eo
      obtain ⟨a, o, ws, rfl, hw, rw'⟩ := dlk R1 rv eo
      refine ⟨a, o, ws, rfl, hw, f1 ρ1 H1 Ext.refl R1 _ (CD G a o kvs ws) ⟨CD.keep, fun ρ h H i R c l => ⟨c.1, ?_⟩, fun ρ h H i x R c l => ?_⟩ ⟨hw, rw'⟩⟩
      · rw [← c.2.length]; simpa using l
      · rw [List.getElem?_map] at l
        cases ek : kvs[i]? with
        | none => rw [ek] at l; cases l
        | some p =>
          rw [ek] at l; cases l
          obtain ⟨v', h5, r5⟩ := c.2.get ek
          refine ⟨⟨c.1, (List.getElem?_eq_some_iff.mp h5).1⟩, fun u H' y => ?_⟩
          obtain ⟨rfl, k, hk⟩ := y
          rw [h5] at hk; cases hk
          exact ⟨Ext.refl, R, r5⟩
    · exact f1.elim
  · exact f1.elim
theorem ri_dkeys {tg e : Expr} {f : ES → M EV} (he : RE G X e f) : RI G X tg e (iDK f) := by
  intro σ h ρ τ H R' R S ff
  refine wI.of (pi_keys wE.pe) ?_
  refine he σ h ρ τ H _ R S (FinE.imp (FinE.bind ff) fun v h1 ρ1 H1 e1 R1 f1 w rv => ?_)
  unfold dkeys at f1
  split at f1
  · rename_i n
    split at f1
    · rename_i kvs eo
      obtain ⟨a, o, ws, rfl, hw, rw'⟩ := dlk R1 rv eo
      refine ⟨a, o, rfl, .inl ⟨ws, hw, f1 ρ1 H1 Ext.refl R1 _ (CD G a o kvs ws) ⟨CD.keep, fun ρ h H i R c l => ⟨c.1, ?_⟩, fun ρ h H i x R c l => ?_⟩ ⟨hw, rw'⟩⟩⟩
      · rw [← c.2.length]; simpa using l
      · rw [List.getElem?_map] at l
        cases ek : kvs[i]? with
        | none => rw [ek] at l; cases l
        | some p =>
          rw [ek] at l; cases l
          obtain ⟨v', h5, r5⟩ := c.2.get ek
          refine ⟨⟨c.1, (List.getElem?_eq_some_iff.mp h5).1⟩, fun u H' y => ?_⟩
          obtain ⟨rfl, k, v2, hk, rfl⟩ := y
          rw [h5] at hk; cases hk
          exact ⟨Ext.refl, R, rep_key _⟩
    · exact f1.elim
  · exact f1.elim
theorem ri_ditems {e : Expr} {elts : List Expr} {kk : Nat} {tp : Pos} {f : ES → M EV} {ap cp : Pos} (he : RE G X e f) (hbase : attributeBase e "items" X.env (eval e X.env) = eval e X.env := by rfl) (hline : (ap.endLine == cp.line) = true := by rfl) : RI G X (.Tuple elts kk tp) (.Call (.Attribute e "items" ap) [] [] cp) (iDI f) := by
  intro σ h ρ τ H R' R S ff
  refine wI.of (pi_items wE.pe hbase hline) ?_
  refine he σ h ρ τ H _ R S (FinE.imp (FinE.bind ff) fun v h1 ρ1 H1 e1 R1 f1 w rv => ?_)
  unfold ditems at f1
  split at f1
  · rename_i n
    split at f1
    · rename_i kvs eo
      obtain ⟨a, o, ws, rfl, hw, rw'⟩ := dlk R1 rv eo
      refine ⟨a, o, ws, rfl, hw, f1 ρ1 H1 Ext.refl R1 _ (CD G a o kvs ws) ⟨CD.keep, fun ρ h H i R c l => ⟨c.1, ?_⟩, fun ρ h H i x R c l => ?_⟩ ⟨hw, rw'⟩⟩
      · rw [← c.2.length]; simpa using l
      · rw [List.getElem?_map] at l
        cases ek : kvs[i]? with
        | none => rw [ek] at l; cases l
        | some p =>
          rw [ek] at l; cases l
          obtain ⟨v', h5, r5⟩ := c.2.get ek
          refine ⟨⟨c.1, (List.getElem?_eq_some_iff.mp h5).1⟩, fun u H' y => ?_⟩
          obtain ⟨T, k, v2, hk, rfl, hT, rfl⟩ := y
          rw [h5] at hk; cases hk
          exact ⟨Ext.laid0 hT, R.aside hT, .tup (.inl (.inl upd_same)) (.cons (rep_key _) (.cons (r5.mono (Ext.laid0 hT).toMo) .nil))⟩
    · exact f1.elim
  · exact f1.elim
end
end Z
end

section
set_option maxHeartbeats 1000000
/-! Z, list(reversed(a list)). -/
namespace Z
open PySem PySem.Spec PyProof.Rows L2
abbrev nl : Obj := { cls := .type "list", data := .seq #[] }
section
variable {prog : Program} {w : World} {A : Around} {E : Value → Shared → Prop} {s : Shared} {it l : Addr} {items : Array Value}
/-- an empty list takes what a reversed one yields -/
theorem ext_rev {S : Addr} {res : Value} {c0 : Nat} {R : Result → Shared → Prop} (hh : A.handled = none) (hit : s.heap.IsRevIter it l ((items.size : Int) - 1)) (hl : s.heap.IsList l items) (hne : l ≠ it) (hn : items.size ≤ sizeLine)
    (n1 : S ≠ it) (n2 : S ≠ l) (hS : s.heap.get? S = some { cls := .type "list", data := .seq #[] c0 })
    (k : ∀ s' acc c, Moved [S, it] (fun a b => b = a) s s' → s'.heap.get? S = some { cls := .type "list", dict := none, data := .seq acc c, slots := #[] } →
      ItemsOf (fun i v => items[items.size - 1 - i]? = some v) acc items.size → R (.ok (.ret res)) s') :
    wpAny (model prog w) A.in1 (Builtin.List.listExtendWith (.ref S) (.ref it) res)
      (fun fin s' => match fin with
        | .done f => R (.ok f) s'
        | .again c' => c'.quiet = true ∧ codeAny (model prog w) A c' R s') (fun e s' => R (.error e) s') s := by
  have W := (Walks.listRev (prog := prog) (w := w) (A := A.in1) hh it l hne items).toS
  have hSf : S ∉ [it, l] := by simp [n1, n2]
  have hT : s.TypeIs (.ref it) "list_reverseiterator" := hit.typeIs
  have h1 : Builtin.List.listSameRef (.ref S) (.ref it) = false := by simp [Builtin.List.listSameRef, n1]
  unfold Builtin.List.listExtendWith
  refine wpAny_bind (wpAny_typeOf hT ?_)
  rw [if_neg (show ¬ _ by rw [h1]; decide)]
  refine wpAny_bind (wpAny_pyIter_revIter hit ?_)
  refine wpAny_bind (wpAny_holding ?_)
  unfold Builtin.List.listLengthHint
  refine wpAny_bind (wpAny_specialOf hT RT.nolen_lri ?_)
  refine wpAny_bind (m := specialOf (Value.ref it) (Str.ofString "__length_hint__")) (wpAny_specialOf hT RT.hint_lri ?_)
  generalize hid : ("list_reverseiterator.__length_hint__" : String) = id0
  wp_delta
  have hsp : splitId id0 = some ("list_reverseiterator", "__length_hint__") := by
    subst hid; decide +kernel
  rw [hsp]; subst hid
  refine wpAny_bind (wpAny_isInstance (b := true) hT (show _ from by rw [isSubtype_type]; kernel_rfl) ?_)
  refine wpAny_pure ?_
  rw [if_neg (show ¬ _ by decide)]
  have e0 : ((items.size : Nat) : Int) - 1 - ((0 : Nat) : Int) = (items.size : Int) - 1 := (by omega)
  refine wpAny_pure ⟨plainId_quiet F.plain_extend_loop _, ?_⟩
  refine codeAny_extend_loopS W hn _ hSf _ items.size 0 _ _ _ rfl (Nat.zero_le _) ?_ hS (ItemsOf.nil _) fun s' acc c hm hS' hacc => ?_
  · exact ⟨Nat.zero_le _, (by rw [e0]; exact hit), hl⟩
  · exact k s' acc c hm hS' hacc
theorem init_rev {S : Addr} {R : Result → Shared → Prop} (hh : A.handled = none) (hit : s.heap.IsRevIter it l ((items.size : Int) - 1)) (hl : s.heap.IsList l items) (hne : l ≠ it) (hn : items.size ≤ sizeLine)
    (n1 : S ≠ it) (n2 : S ≠ l) (hS : s.heap.get? S = some nl)
    (k : ∀ s' acc c, (∀ b o, b ≠ S → b ≠ it → s.heap.get? b = some o → s'.heap.get? b = some o) → s'.gens = s.gens → s'.os = s.os → s'.drawn = s.drawn →
      s'.heap.get? S = some { cls := .type "list", dict := none, data := .seq acc c, slots := #[] } → ItemsOf (fun i v => items[items.size - 1 - i]? = some v) acc items.size → R (.ok (.ret .none)) s') :
    wpAny (model prog w) A.in1 (Builtin.«list.__init__» ⟨[.ref S, .ref it], []⟩)
      (fun fin s' => match fin with
        | .done f => R (.ok f) s'
        | .again c' => c'.quiet = true ∧ codeAny (model prog w) A c' R s') (fun e s' => R (.error e) s') s := by
  show wpAny _ A.in1 (Builtin.List.listItems (.ref S) >>= fun old => Builtin.List.listUpdate (.ref S) (fun _ => #[]) >>= fun _ =>
    letGo old.toList.reverse >>= fun _ => Builtin.List.listExtendWith (.ref S) (.ref it) .none) _ _ s
  refine wpAny_bind ?_
  unfold Builtin.List.listItems
  refine wpAny_bind (wpAny_seqItems hS rfl (wpAny_pure ?_))
  refine wpAny_bind (m := updateSeq S (fun _ => #[])) (wpAny_updateSeq hS rfl ?_)
  have hS2 := Heap.get?_update_self (Obj.mapSeq (fun _ => (#[] : Array Value))) hS rfl
  have oth : ∀ b o, b ≠ S → s.heap.get? b = some o → (s.heap.update S (Obj.mapSeq (fun _ => (#[] : Array Value)))).get? b = some o := fun b o hb e =>
    (Heap.get?_update_other _ _ (Ne.symm hb)).trans e
  refine wpAny_bind (wpAny_letGo ?_)
  refine ext_rev hh (hit.at fun o e => oth it o (Ne.symm n1) e) (hl.at fun o e => oth l o (Ne.symm n2) e) hne hn n1 n2 hS2 fun s' acc c hm hS' hacc => ?_
  exact k s' acc c (fun b o h1 h2 e => hm.heap b o (by simp [h1, h2]) (oth b o h1 e)) hm.gens hm.os hm.drawn hS' hacc
theorem call_rev {Q : Value → Shared → Prop} (hh : A.handled = none) (hit : s.heap.IsRevIter it l ((items.size : Int) - 1)) (hl : s.heap.IsList l items) (hne : l ≠ it) (hn : items.size ≤ sizeLine)
    (k : ∀ s' acc c, (∀ b o, b ≠ it → s.heap.get? b = some o → s'.heap.get? b = some o) → s'.gens = s.gens → s'.os = s.os → s'.drawn = s.drawn →
      s'.heap.get? s.heap.objs.size = some { cls := .type "list", dict := none, data := .seq acc c, slots := #[] } → ItemsOf (fun i v => items[items.size - 1 - i]? = some v) acc items.size → Q (.ref s.heap.objs.size) s') :
    wpAny (model prog w) A (call (.type "list") [.ref it]) Q E s := by
  obtain ⟨oi, hoi, _⟩ := id hit
  obtain ⟨ol, hol, _⟩ := id hl
  have n1 : s.heap.objs.size ≠ it := Nat.ne_of_gt (Heap.lt_size hoi)
  have n2 : s.heap.objs.size ≠ l := Nat.ne_of_gt (Heap.lt_size hol)
  refine callType_codes (Q₁ := fun obj s1 => obj = .ref s.heap.objs.size ∧ s1 = { s with heap := s.heap.push nl }) F.called_list (F.typeCall_list_1 _) F.entry_list_init (code_list_new _ ⟨rfl, rfl⟩) fun obj s1 h1 => ?_
  obtain ⟨rfl, rfl⟩ := h1
  have hS : (s.heap.push nl).get? s.heap.objs.size = some nl := Heap.get?_push_size _ rfl
  refine ⟨⟨_, hS, rfl⟩, F.args_list_init_2 _ _, ?_⟩
  refine init_rev (s := { s with heap := s.heap.push nl }) hh (hit.at fun o e => Heap.get?_push_of_some _ e) (hl.push _) hne hn n1 n2 hS fun s' acc c h3 hg ho hd hS' hacc => ?_
  exact ⟨rfl, k s' acc c (fun b o hb e => h3 b o (Nat.ne_of_lt (Heap.lt_size e)) hb (Heap.get?_push_of_some _ e)) hg ho hd hS' hacc⟩
end
section
variable {X : Cx}
def tLstRev (K : PySem.W.Frag) (te : TE) : TE := fun σ H Q => te σ H fun v H1 => ∃ (a : Addr) (xs : List V), v = .ref a ∧ SqL K H1 a xs ∧
  ∀ q, H1 q = none → Q (.ref q) (upd H1 q (.lst xs.reverse))
theorem pe_lstRev {e : Expr} {te : TE} {p p2 pos pos2 : Pos} (hm : X.mg "list" = none) (hm2 : X.mg "reversed" = none) (he : PE X e te) (hc : X.calm = true := by rfl) (hg : Gl X "list" := by rfl) (hg2 : Gl X "reversed" := by rfl)
    (hs : starEach [e] X.env = (false, eval e X.env) :: starEach [] X.env := by rfl)
    (hs2 : starEach [.Call (.Name "reversed" p2) [e] [] pos2] X.env = (false, eval (.Call (.Name "reversed" p2) [e] [] pos2) X.env) :: starEach [] X.env := by rfl) :
    PE X (.Call (.Name "list" p) [.Call (.Name "reversed" p2) [e] [] pos2] [] pos) (tLstRev X.K te) := by
  refine ⟨fun pins s σ H Q I h => ?_⟩
  have inner : wpAny (model X.prog X.w) X.A (eval e X.env) (EP X pins σ fun v H1 => ∃ (a : Addr) (xs : List V), v = .ref a ∧ SqL X.K H1 a xs ∧ ∀ q, H1 q = none → Q (.ref q) (upd H1 q (.lst xs.reverse))) X.xe s := he.run pins s σ H _ I h
  refine Call_ (ld_blt I hg hm boot_list (PyProof.Rows.callWith_type1 (args_cons (Call_ (ld_blt I hg2 hm2 PyProof.Rows.boot_reversed
    (PyProof.Rows.callWith_type1 (args_cons (thn inner fun u s1 ⟨v, H1, I1, r1, q1⟩ => args_nil ?_) hs) hs rfl))) hs2) hs2 rfl))
  obtain ⟨a, xs, ev, hq, q⟩ := q1
  subst ev
  obtain rfl : u = Value.ref a := r1
  obtain ⟨its, rv, p', hz⟩ := I1.list hq
  refine call_reversed_list p'.isList (args_nil ?_)
  generalize hrv : revObj a ((its.toArray.size : Int) - 1) = ro
  have k0 : ∀ b o, s1.heap.get? b = some o → (s1.heap.push ro).get? b = some o := fun b o e => Heap.get?_push_of_some _ e
  have I2 : Inv X pins σ H1 { s1 with heap := s1.heap.push ro } := I1.kept (t' := s1.toks) k0
  have hl := p'.isList
  obtain ⟨ol, hol, _⟩ := id hl
  have hne : a ≠ s1.heap.objs.size := Nat.ne_of_lt (Heap.lt_size hol)
  have hn : its.toArray.size ≤ sizeLine := by
    rw [List.size_toArray, ← rv.length]; exact hz
  have hri : (s1.heap.push ro).IsRevIter s1.heap.objs.size a ((its.toArray.size : Int) - 1) := by
    rw [← hrv]; exact ⟨_, Heap.get?_push_size _ rfl, rfl, rfl⟩
  refine call_rev (s := { s1 with heap := s1.heap.push ro }) (I1.ok.hd hc) hri (hl.push _) hne hn fun s' acc c h3 hgn ho hd hS' hacc => ?_
  have sz : (s1.heap.push ro).objs.size = s1.heap.objs.size + 1 := Heap.size_push _ _
  have kp : ∀ b o, s1.heap.get? b = some o → s'.heap.get? b = some o := fun b o e => h3 b o (Nat.ne_of_lt (Heap.lt_size e)) (k0 b o e)
  have hle : s1.heap.objs.size ≤ (s1.heap.push ro).objs.size := by
    rw [sz]; exact Nat.le_succ _
  have new : ObjOk X.prog X.w (upd H1 (s1.heap.push ro).objs.size (.lst xs.reverse)) s'.heap (s1.heap.push ro).objs.size (.lst xs.reverse) :=
    ⟨by rw [List.length_reverse]; exact hz, acc.toList, c, RT.vals_rev rv hacc, by rw [Array.toArray_toList]; exact hS'⟩
  have I3 := I1.laid (t' := s'.toks) kp hle new
  have es : s' = { s1 with heap := s'.heap, toks := s'.toks } := by
    cases s'
    cases hgn; cases ho; cases hd
    rfl
  rw [es]
  exact ⟨.ref _, _, I3, rfl, q _ (I1.hok.fresh hle)⟩
variable {G : Wd}
def lRev (fe : ES → M EV) : ES → M (List EV) := fun σ h => (fe σ h).bind fun v h1 => R.opt ((listOf h1 v).map List.reverse) h1
theorem list_rep {ρ : List Addr} {h : EH} {H : Hp} {v : EV} {w : V} {xs : List EV} (R : Rel G ρ h H) (r : Rep G.K ρ H v w) (e : listOf h v = some xs) : ∃ a vs, w = .ref a ∧ SqL G.K H a vs ∧ RepL G.K ρ H xs vs := by
  cases v with
  | rl xs => cases e; cases r with | rl a b => exact ⟨_, _, rfl, a.sq, b⟩
  | ref n =>
    simp only [listOf] at e
    split at e
    · rename_i xs eo
      cases e
      obtain ⟨p, rfl, qa, vs, hv, r⟩ := getref R r eo
      exact ⟨p, vs, rfl, .inl (.inl hv), r⟩
    · cases e
  | _ => cases e
theorem rl_rev {e : Expr} {fe : ES → M EV} {p p2 pos pos2 : Pos} (hm : X.mg "list" = none) (hm2 : X.mg "reversed" = none) (he : RE G X e fe) (hc : X.calm = true := by rfl) (hg : Gl X "list" := by rfl) (hg2 : Gl X "reversed" := by rfl)
    (hs : starEach [e] X.env = (false, eval e X.env) :: starEach [] X.env := by rfl)
    (hs2 : starEach [.Call (.Name "reversed" p2) [e] [] pos2] X.env = (false, eval (.Call (.Name "reversed" p2) [e] [] pos2) X.env) :: starEach [] X.env := by rfl) (hK : X.K = G.K := by rfl) :
    RL G X (.Call (.Name "list" p) [.Call (.Name "reversed" p2) [e] [] pos2] [] pos) (lRev fe) := by
  intro σ h ρ τ H Q R S ff
  refine wE.of (pe_lstRev hm hm2 wE.pe hc hg hg2 hs hs2) ?_
  refine he σ h ρ τ H _ R S (FinE.imp (FinE.bind ff) fun v h1 ρ1 H1 e1 R1 f1 w rv => ?_)
  obtain ⟨z, eo, f2⟩ := opt_fin f1
  cases el : listOf h1 v with
  | none => rw [el] at eo; cases eo
  | some xs =>
    rw [el] at eo; cases eo
    obtain ⟨a, vs, rfl, sq, rr⟩ := list_rep R1 rv el
    refine ⟨a, vs, rfl, by rw [hK]; exact sq, fun t ht => ?_⟩
    exact f2 ρ1 _ (Ext.laid0 ht) (R1.aside ht) t _ (e1.dom t ht) (R1.fresh ht) upd_same (rr.reverse.mono (Ext.laid0 ht).toMo)
end
end Z
end

section
/-! Z, the end of a law. -/
namespace Z
open PySem PySem.Spec PyProof.Rows L2
theorem ro_of {K : PySem.W.Frag} {H : Hp} {a : Addr} {vs : List V} (o : Only H) (s : SqL K H a vs) : RoL K H a vs := by
  rcases s with (s | ⟨ob, s⟩) | s
  · rcases o a with z | ⟨ob, xs, z⟩
    · rw [z] at s; cases s
    · rw [z] at s; cases s
  · exact .inl ⟨ob, s⟩
  · exact .inr s
theorem rel0 {G : Wd} {H : Hp} : Rel G [] [] H := ⟨rfl, List.nodup_nil, fun n a o q => by simp at q⟩
/-- what the walk of a law wants, from what its function gives -/
theorem sp_of {G : Wd} {F : List EV → EH → Z.R EV} (h : ∀ ns : List Int, ns.length ≤ 63 → ∃ h', F [.rl (ns.map EV.int)] [] = .ok (.bl true) h') {H : Hp} {a : Addr} {ns : List Int} (hl : ns.length ≤ 63) (o : Only H) (s : SqL G.K H a (ns.map V.int)) :
    spF G 1 F [.ref a] H (fun v _ => v = .bl true) fun _ _ _ => False := by
  obtain ⟨h', e⟩ := h ns hl
  refine ⟨rfl, [.rl (ns.map EV.int)], [], [], rel0, .cons (.rl (ro_of o s) (rep_ints ns)) .nil, ?_⟩
  rw [e]
  exact fun ρ' H' x _ _ r => rep_bl r
theorem walkZ {l : PySem.W.OpenLaw} {k : Nat} {q : Program} {loose : List Str} {XP : (Str → Option Value) → Heap → Prop} {YP : World → Heap → Prop} {d : DefRec} {K : Params → PySem.W.Frag} {CA : World → Nat → Addr} {x : Str} {Fl : List EV → EH → Z.R EV}
    (hl : ∀ ns : List Int, ns.length ≤ 63 → ∃ h', Fl [.rl (ns.map EV.int)] [] = .ok (.bl true) h')
    (hn : l.most = some 63) (hdf : d.params.defaults = []) (hr : Room k callerA) (hY : ∀ (w : World) (h : Heap), YP w h → (K w.params).In h)
    (F : ∀ (w : World) (mg : Str → Option Value) (fa : Addr) (h : Heap), (K w.params).In h → h.Ns mainGlobals mg → mg d.name = some (.ref fa) →
      ∃ fd : FuncData, (∀ (s : Shared) (u : Value), BindsTo s fd ⟨[u], []⟩ [(x, u)]) ∧ ∀ base : Heap, (K w.params).In base → base.Ns mainGlobals mg → FnOk l.prog w (K w.params) mg base (L2.CX l.prog w) k fa fd [x] (spF ⟨K w.params, CA w⟩ 1 Fl)) :
    PySem.W.WalkO q loose XP YP l.row.toRowW d [] (fun f vs => PySem.call f vs) :=
  L2.walk_of (n := 63) (k := k) (x := x) (CX := fun w => L2.CX l.prog w) (sp := fun w => spF ⟨K w.params, CA w⟩ 1 Fl) hn (by decide) hdf hr hY F (fun w H a ns h1 h2 h3 => sp_of hl h1 h2 h3) fun w H s e s' z => by
    obtain ⟨_, _, _, _, _, _, _, _, _, _, _, _, z⟩ := z
    exact z
end Z
end

section
/-! Z, the plain side: what the given helpers of a script compute. -/
namespace Z
open PySem L2
theorem ixN_nat {n k : Nat} (h : k < n) : ixN n (k : Int) = some k := by unfold ixN; rw [if_pos (by omega), if_pos (by omega)]; simp
theorem ixN_int {n : Nat} {i : Int} (h0 : 0 ≤ i) (h : i < n) : ixN n i = some i.toNat := by unfold ixN; rw [if_pos h0, if_pos h]
theorem atI_int {α : Type} {xs : List α} {i : Int} (h0 : 0 ≤ i) (h : i < xs.length) : atI xs i = xs[i.toNat]? := by unfold atI; rw [ixN_int h0 h]; rfl
/-- all but the object l stays, l is the script's list -/
def Left (l : Nat) (h : EH) : Prop := ∃ (c : Int) (xs : List Int), h[l]? = some (.lst (.int c :: xs.map EV.int)) ∧ xs ≠ []
structure Keep (l : Nat) (h h' : EH) : Prop where
  len : h.length ≤ h'.length
  at' : ∀ n, n ≠ l → n < h.length → h'[n]? = h[n]?
  left : Left l h → Left l h'
theorem Keep.refl {l : Nat} {h : EH} : Keep l h h := ⟨Nat.le_refl _, fun _ _ _ => rfl, id⟩
theorem Keep.trans {l : Nat} {h h' h'' : EH} (a : Keep l h h') (b : Keep l h' h'') : Keep l h h'' :=
  ⟨Nat.le_trans a.len b.len, fun n x y => (b.at' n x (Nat.lt_of_lt_of_le y a.len)).trans (a.at' n x y), fun z => b.left (a.left z)⟩
theorem lt_of_get {α : Type} {h : List α} {n : Nat} {o : α} (e : h[n]? = some o) : n < h.length := (List.getElem?_eq_some_iff.mp e).1
theorem Keep.get {l : Nat} {h h' : EH} (a : Keep l h h') {n : Nat} {o : EO} (e : h[n]? = some o) (d : n ≠ l) : h'[n]? = some o := (a.at' n d (lt_of_get e)).trans e
theorem Keep.app {l : Nat} {h : EH} (o : List EO) (hl : l < h.length) : Keep l h (h ++ o) :=
  ⟨by simp, fun n _ y => List.getElem?_append_left y, fun ⟨c, xs, e, z⟩ => ⟨c, xs, by rw [List.getElem?_append_left hl]; exact e, z⟩⟩
theorem Left.lt {l : Nat} {h : EH} (a : Left l h) : l < h.length := by obtain ⟨c, xs, e, _⟩ := a; exact lt_of_get e
/-- new objects may turn -/
theorem Keep.set {l : Nat} {h h' : EH} (a : Keep l h h') {n : Nat} (o : EO) (hn : h.length ≤ n) (hl : l < h.length) : Keep l h (h'.set n o) :=
  ⟨by simp; exact a.len, fun m x y => by rw [List.getElem?_set_ne (by omega)]; exact a.at' m x y, fun z => by
    obtain ⟨c, xs, e, k⟩ := a.left z
    exact ⟨c, xs, by rw [List.getElem?_set_ne (by omega)]; exact e, k⟩⟩
def drawB : ES → EH → FL :=
  (sSeq (sSub (eOp opAdd (eOp opIx (eVar 0) (eC (.int 0))) (eC (.int 1))) (eVar 0) (eC (.int 0)))
  (sSeq (sSet (gN 2) (eOp opAdd (eC (.int 1)) (eOp opMod (eOp opIx (eVar 0) (eC (.int 0))) (eOp opSub (eCall fLenA (aCons (eVar 0) aNil)) (eC (.int 1))))))
  (sSeq (sSet (gN 3) (eOp opIx (eVar 0) (eVar 2)))
  (sSeq (sIf (tVal (eOp opGe (eVar 3) (eOp opPow (eC (.int 10)) (eC (.int 18))))) (sSeq (sSub (eOp opFdiv (eVar 3) (eVar 1)) (eVar 0) (eVar 2))
  (sRet (eOp opMod (eCall fInt1 (aCons (eVar 3) aNil)) (eVar 1)))) sNil)
  (sSeq (sSub (eOp opMod (eCall fInt1 (aCons (eOp opAdd (eOp opAdd (eOp opMul (eVar 3) (eC (.int 48271))) (eOp opMul (eOp opIx (eVar 0) (eC (.int 0))) (eC (.int 7919)))) (eC (.int 11))) aNil)) (eC (.int 2147483647))) (eVar 0) (eVar 2))
  (sRet (eOp opMod (eOp opFdiv (eOp opIx (eVar 0) (eVar 2)) (eC (.int 7))) (eVar 1))))))))
theorem draw_ok {l : Nat} {h : EH} (L : Left l h) {m : Int} (h0 : 0 < m) (h1 : m < 1073741824) : ∃ (i : Int) (h' : EH), fnF 4 drawB [.ref l, .int m] h = .ok (.int i) h' ∧ 0 ≤ i ∧ i < m ∧ Keep l h h' := by
  obtain ⟨c, xs, e, nz⟩ := L
  have hl := lt_of_get e
  have hx : 0 < xs.length := List.length_pos_iff.mpr nz
  have hp0 : 0 ≤ (c + 1) % (xs.length : Int) := Int.emod_nonneg _ (by omega)
  have hp1 : (c + 1) % (xs.length : Int) < xs.length := Int.emod_lt_of_pos _ (by omega)
  generalize hk : (c + 1) % (xs.length : Int) = k at hp0 hp1
  obtain ⟨j, rfl⟩ := Int.eq_ofNat_of_zero_le hp0
  have hj : j < xs.length := by omega
  have i0 : ∀ (y : EV) (ys : List EV), atI (y :: ys) 0 = some y := fun y ys => by rw [atI_int (by omega) (by simp)]; rfl
  have iN : ∀ n : Nat, ixN (n + 1) 0 = some 0 := fun n => by unfold ixN; rw [if_pos (by omega), if_pos (by omega)]; rfl
  have ij : ∀ (y : EV) (ys : List Int), ys.length = xs.length → atI (y :: ys.map EV.int) (1 + (j : Int)) = (ys[j]?).map EV.int := fun y ys q => by
    rw [atI_int (by omega) (by simp; omega), show (1 + (j : Int)).toNat = j + 1 from by omega]; simp
  have ijn : ixN (xs.length + 1) (1 + (j : Int)) = some (j + 1) := by rw [ixN_int (by omega) (by omega)]; congr 1; omega
  have xj : xs[j]? = some xs[j] := List.getElem?_eq_getElem hj
  have s1 : ∀ o : EO, (h.set l o)[l]? = some o := fun o => List.getElem?_set_self hl
  have p10 : (10 : Int) ^ (18 : Int).toNat = 1000000000000000000 := by decide
  by_cases big : (1000000000000000000 : Int) ≤ xs[j]
  · refine ⟨xs[j] % m, (h.set l (.lst (.int (c + 1) :: (xs.set j (xs[j] / m)).map EV.int))), ?_, Int.emod_nonneg _ (by omega), Int.emod_lt_of_pos _ h0, ?_⟩
    · simp [fnF, startE, drawB, sSeq, sSub, eOp, eVar, eC, opIx, opAdd, opSub, opMod, opI, opFdiv, opGe, cmpI, opPow, R.fl, R.bind, R.lift, FL.seq, sSet, gN, eCall, aCons, aNil, fLenA, fInt1, sIf, tVal, boolOf, sRet, e, s1, i0, iN, ij, ijn, xj, hx, hk, h0, h1, big, p10]
    · refine ⟨by simp, fun n d _ => by rw [List.getElem?_set_ne (by omega)], fun _ => ⟨_, _, by rw [List.getElem?_set_self hl], by simpa using nz⟩⟩
  · have big' : ¬ (1000000000000000000 : Int) ≤ xs[j] := big
    refine ⟨_, (h.set l (.lst (.int (c + 1) :: (xs.set j ((xs[j] * 48271 + (c + 1) * 7919 + 11) % 2147483647)).map EV.int))), ?_, Int.emod_nonneg ((xs[j] * 48271 + (c + 1) * 7919 + 11) % 2147483647 / 7) (by omega), Int.emod_lt_of_pos _ h0, ?_⟩
    · simp [fnF, startE, drawB, sSeq, sNil, sSub, eOp, eVar, eC, opIx, opAdd, opMul, opSub, opMod, opI, opFdiv, opGe, cmpI, opPow, R.fl, R.bind, R.lift, FL.seq, sSet, gN, eCall, aCons, aNil, fLenA, fInt1, sIf, tVal, boolOf, sRet, e, s1, i0, iN, ij, ijn, xj, hx, hk, h0, h1, big', p10]
      have q := ij (.int (c + 1)) (xs.set j ((xs[j] * 48271 + (c + 1) * 7919 + 11) % 2147483647)) (by simp)
      simp [hj] at q
      simp [q, h0]
    · refine ⟨by simp, fun n d _ => by rw [List.getElem?_set_ne (by omega)], fun _ => ⟨_, _, by rw [List.getElem?_set_self hl], by simpa using nz⟩⟩
def leftB : ES → EH → FL :=
  (sSeq (sSet (gN 1) (eOp opAdd (eNew (lLst (aCons (eC (.int 0)) aNil))) (eNew (lSeq fList (eSl (eVar 0) pNone (pSome (eC (.int 63))))))))
  (sSeq (sIf (tVal (eOp opEq (eCall fLenA (aCons (eVar 1) aNil)) (eC (.int 1)))) (sExpr (eAppend (eVar 1) (eC (.int 0)))) sNil)
  (sRet (eVar 1))))
theorem eqv_int (i j : Int) : PyData.eqv (.int i) (.int j) = decide (i = j) := by simp only [PyData.eqv]; by_cases e : i = j <;> simp [e]
theorem data_int (h : EH) (i : Int) : data h (.int i) = some (.int i) := by simp [data, snap, SeqAt.shaped, PyData.canLay0, PyData.depth]
theorem left_ok {ns : List Int} (hn : ns.length ≤ 63) : ∃ h', fnF 2 leftB [.rl (ns.map EV.int)] [] = .ok (.ref 3) h' ∧ h'.length = 4 ∧ Left 3 h' := by
  have hc : cutE (ns.map EV.int) none (some 63) = ns.map EV.int := by
    have q := HT.sIx_nat ns.length ns.length 63
    simp only [cutE, HT.sIx_none, List.length_map]
    rw [show ((63 : Int)) = ((63 : Nat) : Int) from rfl, q, Nat.min_eq_right hn]
    simp
    exact List.take_of_length_le (by simp)
  cases ns with
  | nil =>
    refine ⟨[.lst [.int 0], .lst [], .lst [], .lst [.int 0, .int 0]], ?_, rfl, 0, [0], rfl, by simp⟩
    simp [fnF, startE, leftB, sSeq, sSet, gN, eOp, eNew, lLst, aCons, aNil, eC, lSeq, eSl, eVar, pNone, pSome, intOf, opSl, seqOf, fList, R.opt, R.bind, R.lift, R.fl, FL.seq, opAdd, sIf, tVal, eCall, fLenA, opEq, data_int, eqv_int, boolOf, sExpr, eAppend, listOf, sRet, cutE]
  | cons a r =>
    refine ⟨[.lst [.int 0], .lst (.int a :: r.map EV.int), .lst (.int a :: r.map EV.int), .lst (.int 0 :: .int a :: r.map EV.int)], ?_, rfl, 0, a :: r, rfl, by simp⟩
    have hc' : cutE (EV.int a :: r.map EV.int) none (some 63) = EV.int a :: r.map EV.int := hc
    have q1 : r.length + 1 + 1 ≤ 100000 := by simp at hn; omega
    have q3 : 1 + (r.length + 1) ≤ 100000 := by simp at hn; omega
    have q2 : ¬ ((r.length : Int) + 1 + 1 = 1) := by omega
    simp [fnF, startE, leftB, sSeq, sNil, sSet, gN, eOp, eNew, lLst, aCons, aNil, eC, lSeq, eSl, eVar, pNone, pSome, intOf, opSl, seqOf, fList, R.opt, R.bind, R.lift, R.fl, FL.seq, opAdd, sIf, tVal, eCall, fLenA, opEq, data_int, eqv_int, boolOf, sExpr, eAppend, listOf, sRet, hc', q1, q2, q3]
end Z
end

section
/-! Z, the plain side: rules. -/
namespace Z
open PySem L2
variable {α β : Type} {σ : ES} {h : EH}
def ROk (r : R α) (P : α → EH → Prop) : Prop := match r with
  | .ok a h => P a h
  | _ => False
def FlOk (r : FL) (N : ES → EH → Prop) (T : EV → EH → Prop) : Prop := match r with
  | .nx σ h => N σ h
  | .rt v h => T v h
  | _ => False
@[simp] theorem ROk_ok {P : α → EH → Prop} {a : α} : ROk (.ok a h) P = P a h := rfl
@[simp] theorem FlOk_nx {N : ES → EH → Prop} {T : EV → EH → Prop} : FlOk (.nx σ h) N T = N σ h := rfl
@[simp] theorem FlOk_rt {N : ES → EH → Prop} {T : EV → EH → Prop} {v : EV} : FlOk (.rt v h) N T = T v h := rfl
theorem ROk.get {r : R α} {P : α → EH → Prop} (q : ROk r P) : ∃ a h, r = .ok a h ∧ P a h := by
  cases r with
  | ok a h => exact ⟨a, h, rfl, q⟩
  | exc _ _ _ => exact q.elim
  | stuck => exact q.elim
theorem ROk.imp {r : R α} {P Q : α → EH → Prop} (q : ROk r P) (k : ∀ a h, P a h → Q a h) : ROk r Q := by
  obtain ⟨a, h, rfl, p⟩ := q.get; exact k a h p
theorem FlOk.imp {r : FL} {N N' : ES → EH → Prop} {T T' : EV → EH → Prop} (q : FlOk r N T) (k : ∀ σ h, N σ h → N' σ h) (k' : ∀ v h, T v h → T' v h) : FlOk r N' T' := by
  cases r with
  | nx σ h => exact k _ _ q
  | rt v h => exact k' _ _ q
  | _ => exact q.elim
theorem fs_seq {f g : ES → EH → FL} {N : ES → EH → Prop} {T : EV → EH → Prop} (q : FlOk (f σ h) (fun σ' h' => FlOk (g σ' h') N T) T) : FlOk (sSeq f g σ h) N T := by
  unfold sSeq
  cases e : f σ h with
  | nx σ h => rw [e] at q; exact q
  | rt v h => rw [e] at q; exact q
  | _ => rw [e] at q; exact q.elim
theorem fs_set {i : Nat} {f : ES → M EV} {N : ES → EH → Prop} {T : EV → EH → Prop} (q : ROk (f σ h) fun v h' => N (σ.set i (some v)) h') : FlOk (sSet (gN i) f σ h) N T := by
  obtain ⟨a, h1, e, p⟩ := q.get
  simp [sSet, e, R.fl, gN, p]
theorem fs_expr {f : ES → M EV} {N : ES → EH → Prop} {T : EV → EH → Prop} (q : ROk (f σ h) fun _ h' => N σ h') : FlOk (sExpr f σ h) N T := by
  obtain ⟨a, h1, e, p⟩ := q.get
  simp [sExpr, e, R.fl, p]
theorem fs_ret {f : ES → M EV} {N : ES → EH → Prop} {T : EV → EH → Prop} (q : ROk (f σ h) T) : FlOk (sRet f σ h) N T := by
  obtain ⟨a, h1, e, p⟩ := q.get
  simp [sRet, e, R.fl, p]
theorem fs_if {t : ES → M Bool} {a b : ES → EH → FL} {N : ES → EH → Prop} {T : EV → EH → Prop} (q : ROk (t σ h) fun c h' => FlOk ((if c then a else b) σ h') N T) : FlOk (sIf t a b σ h) N T := by
  obtain ⟨c, h1, e, p⟩ := q.get
  cases c <;> simpa [sIf, e, R.fl] using p
theorem fs_nil {N : ES → EH → Prop} {T : EV → EH → Prop} (q : N σ h) : FlOk (sNil σ h) N T := q
theorem ok_bind {r : R α} {g : α → EH → R β} {P : β → EH → Prop} (q : ROk r fun a h => ROk (g a h) P) : ROk (r.bind g) P := by
  obtain ⟨a, h1, rfl, p⟩ := q.get; exact p
theorem ok_fn {k : Nat} {b : ES → EH → FL} {vs : List EV} {P : EV → EH → Prop} (q : FlOk (b (startE k vs) h) (fun _ h => P .non h) P) : ROk (fnF k b vs h) P := by
  unfold fnF
  cases e : b (startE k vs) h with
  | nx σ h => rw [e] at q; exact q
  | rt v h => rw [e] at q; exact q
  | _ => rw [e] at q; exact q.elim
theorem forL_ok {g : EV → ES → Option ES} {fb : ES → EH → FL} {T : EV → EH → Prop} (I : List EV → ES → EH → Prop)
    (st : ∀ x r σ h, I (x :: r) σ h → ∃ σ1, g x σ = some σ1 ∧ FlOk (fb σ1 h) (I r) T) : ∀ (xs : List EV) (σ : ES) (h : EH), I xs σ h → FlOk (forL g fb xs σ h) (I []) T
  | [], σ, h, i => i
  | x :: r, σ, h, i => by
    obtain ⟨σ1, e, q⟩ := st x r σ h i
    simp only [forL, e]
    cases e2 : fb σ1 h with
    | nx σ' h' => rw [e2] at q; exact forL_ok I st r σ' h' q
    | rt v h' => rw [e2] at q; exact q
    | _ => rw [e2] at q; exact q.elim
/-- a list that the loop does not change -/
theorem forN_eq {g : EV → ES → Option ES} {fb : ES → EH → FL} {T : EV → EH → Prop} {n : Nat} {ys : List EV} (I : List EV → ES → EH → Prop) (hn : ∀ xs σ h, I xs σ h → h[n]? = some (.lst ys))
    (st : ∀ x r σ h, I (x :: r) σ h → ∃ σ1, g x σ = some σ1 ∧ FlOk (fb σ1 h) (I r) T) : ∀ (k i : Nat) (σ : ES) (h : EH), I (ys.drop i) σ h → i ≤ ys.length → ys.length < i + k → FlOk (forN g fb n k i σ h) (I []) T
  | 0, i, σ, h, q, l', l => absurd l (by omega)
  | k + 1, i, σ, h, q, l', l => by
    simp only [forN, hn _ _ _ q]
    cases e : ys[i]? with
    | none =>
      have : ys.drop i = [] := List.drop_eq_nil_of_le (List.getElem?_eq_none_iff.mp e)
      rw [this] at q; exact q
    | some x =>
      have hi := lt_of_get e
      have hd : ys.drop i = x :: ys.drop (i + 1) := by
        rw [List.drop_eq_getElem_cons hi]; congr 1; rw [List.getElem?_eq_getElem hi] at e; exact Option.some.inj e
      rw [hd] at q
      obtain ⟨σ1, e1, q1⟩ := st _ _ _ _ q
      simp only [e1]
      cases e2 : fb σ1 h with
      | nx σ' h' => rw [e2] at q1; exact forN_eq I hn st k (i + 1) σ' h' q1 (by omega) (by omega)
      | rt v h' => rw [e2] at q1; exact q1
      | _ => rw [e2] at q1; exact q1.elim
theorem fs_for {fi : ES → M IT} {g : EV → ES → Option ES} {fb : ES → EH → FL} {N : ES → EH → Prop} {T : EV → EH → Prop} {it : IT} {h1 : EH} {ys : List EV} (I : List EV → ES → EH → Prop) (ei : fi σ h = .ok it h1)
    (hs : it = .vals ys ∨ ∃ n, it = .obj n ∧ ys.length ≤ 100000 ∧ ∀ xs σ h, I xs σ h → h[n]? = some (.lst ys))
    (i0 : I ys σ h1) (st : ∀ x r σ h, I (x :: r) σ h → ∃ σ1, g x σ = some σ1 ∧ FlOk (fb σ1 h) (I r) T) (fin : ∀ σ h, I [] σ h → N σ h) : FlOk (sFor fi g fb σ h) N T := by
  rcases hs with rfl | ⟨n, rfl, hl, hn⟩
  · simp only [sFor, ei, R.fl]
    exact (forL_ok I st ys σ h1 i0).imp fin fun _ _ q => q
  · simp only [sFor, ei, R.fl]
    exact (forN_eq I hn st 100001 0 σ h1 i0 (by omega) (by omega)).imp fin fun _ _ q => q
theorem lcL_ok {g : EV → ES → Option ES} {ft : ES → M Bool} {fe : ES → M EV} (I : List EV → List EV → EH → Prop)
    (st : ∀ x r acc h, I (x :: r) acc h → ∃ σ1, g x σ = some σ1 ∧ ROk (lcStep ft fe σ1 acc h) (I r)) : ∀ (xs acc : List EV) (h : EH), I xs acc h → ROk (lcL g ft fe σ xs acc h) (I [])
  | [], acc, h, i => i
  | x :: r, acc, h, i => by
    obtain ⟨σ1, e, q⟩ := st x r acc h i
    obtain ⟨acc', h', e2, q2⟩ := q.get
    simp only [lcL, e, e2, noExc, R.bind]
    exact lcL_ok I st r acc' h' q2
theorem lcN_ok {g : EV → ES → Option ES} {ft : ES → M Bool} {fe : ES → M EV} {n : Nat} {ys : List EV} (I : List EV → List EV → EH → Prop) (hn : ∀ xs acc h, I xs acc h → h[n]? = some (.lst ys))
    (st : ∀ x r acc h, I (x :: r) acc h → ∃ σ1, g x σ = some σ1 ∧ ROk (lcStep ft fe σ1 acc h) (I r)) : ∀ (k i : Nat) (acc : List EV) (h : EH), I (ys.drop i) acc h → i ≤ ys.length → ys.length < i + k → ROk (lcN g ft fe σ n k i acc h) (I [])
  | 0, i, acc, h, q, l', l => absurd l (by omega)
  | k + 1, i, acc, h, q, l', l => by
    simp only [lcN, hn _ _ _ q]
    cases e : ys[i]? with
    | none =>
      have : ys.drop i = [] := List.drop_eq_nil_of_le (List.getElem?_eq_none_iff.mp e)
      rw [this] at q; exact q
    | some x =>
      have hi := lt_of_get e
      have hd : ys.drop i = x :: ys.drop (i + 1) := by
        rw [List.drop_eq_getElem_cons hi]; congr 1; rw [List.getElem?_eq_getElem hi] at e; exact Option.some.inj e
      rw [hd] at q
      obtain ⟨σ1, e1, q1⟩ := st _ _ _ _ q
      obtain ⟨acc', h', e2, q2⟩ := q1.get
      simp only [e1, e2, noExc, R.bind]
      exact lcN_ok I hn st k (i + 1) acc' h' q2 (by omega) (by omega)
theorem ok_lc {fi : ES → M IT} {g : EV → ES → Option ES} {ft : ES → M Bool} {fe : ES → M EV} {vs : List Nat} {P : List EV → EH → Prop} {it : IT} {h1 : EH} {ys : List EV} (I : List EV → List EV → EH → Prop) (ei : fi σ h = .ok it h1)
    (hs : it = .vals ys ∨ ∃ n, it = .obj n ∧ ys.length ≤ 100000 ∧ ∀ xs acc h, I xs acc h → h[n]? = some (.lst ys))
    (i0 : I ys [] h1) (st : ∀ x r acc h, I (x :: r) acc h → ∃ σ1, g x (wipeE σ vs) = some σ1 ∧ ROk (lcStep ft fe σ1 acc h) (I r)) (fin : ∀ acc h, I [] acc h → P acc h) : ROk (lLc fi g ft fe vs σ h) P := by
  rcases hs with rfl | ⟨n, rfl, hl, hn⟩
  · simp only [lLc, ei, R.bind]
    exact (lcL_ok I st ys [] h1 i0).imp fin
  · simp only [lLc, ei, R.bind]
    exact (lcN_ok I hn st 100001 0 [] h1 i0 (by omega) (by omega)).imp fin
/-- a comprehension without a test -/
theorem ok_step {fe : ES → M EV} {σ1 : ES} {acc : List EV} {P : List EV → EH → Prop} (hl : acc.length < 100000) (q : ROk (fe σ1 h) fun y h' => P (acc ++ [y]) h') : ROk (lcStep tYes' fe σ1 acc h) P := by
  obtain ⟨y, h', e, q⟩ := q.get
  simp [lcStep, tYes', R.bind, e, hl, q]
/-! ### what a part gives, at a state -/
theorem R.bind_ok {a : α} {g : α → EH → R β} : R.bind (.ok a h) g = g a h := rfl
theorem R.fl_ok {a : α} {g : α → EH → FL} : R.fl (.ok a h) σ g = g a h := rfl
theorem R.lift_some {a : α} : R.lift (some (a, h)) = .ok a h := rfl
theorem R.opt_some {a : α} : R.opt (some a) h = .ok a h := rfl
theorem sNil_a (σ : ES) (h : EH) : sNil σ h = .nx σ h := rfl
theorem eVar_a (i : Nat) (σ : ES) (h : EH) : eVar i σ h = (match σ[i]? with
  | some (some v) => .ok v h
  | _ => .stuck) := rfl
theorem eC_a (v : EV) (σ : ES) (h : EH) : eC v σ h = (.ok v h) := rfl
theorem eOp_a (g : EV → EV → EH → Option (EV × EH)) (fa fb : ES → M EV) (σ : ES) (h : EH) : eOp g fa fb σ h = ((fa σ h).bind fun x h1 => (fb σ h1).bind fun y h2 => R.lift (g x y h2)) := rfl
theorem eUn_a (g : EV → EH → Option (EV × EH)) (fa : ES → M EV) (σ : ES) (h : EH) : eUn g fa σ h = ((fa σ h).bind fun x h1 => R.lift (g x h1)) := rfl
theorem tVal_a (f : ES → M EV) (σ : ES) (h : EH) : tVal f σ h = ((f σ h).bind boolOf) := rfl
theorem eIf_a (t : ES → M Bool) (fa fb : ES → M EV) (σ : ES) (h : EH) : eIf t fa fb σ h = ((t σ h).bind fun c h1 => match c with
  | true => fa σ h1
  | false => fb σ h1) := rfl
theorem eAndB_a (fa fb : ES → M EV) (σ : ES) (h : EH) : eAndB fa fb σ h = ((fa σ h).bind fun x h1 => (boolOf x h1).bind fun c h1 => match c with
  | true => fb σ h1
  | false => .ok (.bl false) h1) := rfl
theorem eOrB_a (fa fb : ES → M EV) (σ : ES) (h : EH) : eOrB fa fb σ h = ((fa σ h).bind fun x h1 => (boolOf x h1).bind fun c h1 => match c with
  | true => .ok (.bl true) h1
  | false => fb σ h1) := rfl
theorem eNotB_a (fa : ES → M EV) (σ : ES) (h : EH) : eNotB fa σ h = ((fa σ h).bind fun x h1 => (boolOf x h1).bind fun c h1 => .ok (.bl (!c)) h1) := rfl
theorem aNil_a (σ : ES) (h : EH) : aNil  σ h = (.ok [] h) := rfl
theorem aCons_a (fa : ES → M EV) (fr : ES → M (List EV)) (σ : ES) (h : EH) : aCons fa fr σ h = ((fa σ h).bind fun x h1 => (fr σ h1).bind fun xs h2 => .ok (x :: xs) h2) := rfl
theorem eTup_a (fa : ES → M (List EV)) (σ : ES) (h : EH) : eTup fa σ h = ((fa σ h).bind fun xs h1 => if xs.length ≤ 100000 then .ok (.tup xs) h1 else .stuck) := rfl
theorem lLst_a (fa : ES → M (List EV)) (σ : ES) (h : EH) : lLst fa σ h = ((fa σ h).bind fun xs h1 => if xs.length ≤ 100000 then .ok xs h1 else .stuck) := rfl
theorem eNew_a (fa : ES → M (List EV)) (σ : ES) (h : EH) : eNew fa σ h = ((fa σ h).bind fun xs h1 => .ok (.ref h1.length) (h1 ++ [.lst xs])) := rfl
theorem eCall_a (g : List EV → EH → Option (EV × EH)) (fa : ES → M (List EV)) (σ : ES) (h : EH) : eCall g fa σ h = ((fa σ h).bind fun xs h1 => R.lift (g xs h1)) := rfl
theorem iVal_a (f : ES → M EV) (σ : ES) (h : EH) : iVal f σ h = ((f σ h).bind itOf) := rfl
theorem iLst_a (f : ES → M (List EV)) (σ : ES) (h : EH) : iLst f σ h = ((f σ h).bind fun xs h' => .ok (.vals xs) h') := rfl
theorem eFn_a (F : List EV → EH → R EV) (fa : ES → M (List EV)) (σ : ES) (h : EH) : eFn F fa σ h = ((fa σ h).bind F) := rfl
theorem pNone_a (σ : ES) (h : EH) : pNone  σ h = (.ok none h) := rfl
theorem pSome_a (f : ES → M EV) (σ : ES) (h : EH) : pSome f σ h = ((f σ h).bind intOf) := rfl
theorem eSl_a (fe : ES → M EV) (fl fh : ES → M (Option Int)) (σ : ES) (h : EH) : eSl fe fl fh σ h = ((fe σ h).bind fun v h1 => (fl σ h1).bind fun lo h2 => (fh σ h2).bind fun hi h3 => R.lift (opSl v lo hi h3)) := rfl
theorem eSeq_a (g : Bool → List EV → Option EV) (fe : ES → M EV) (σ : ES) (h : EH) : eSeq g fe σ h = ((fe σ h).bind fun v h1 => R.opt ((seqOf h1 v).bind fun q => g q.1 q.2) h1) := rfl
theorem eSeqL_a (g : Bool → List EV → Option EV) (fe : ES → M (List EV)) (σ : ES) (h : EH) : eSeqL g fe σ h = ((fe σ h).bind fun xs h1 => R.opt (g false xs) h1) := rfl
theorem lSeq_a (g : Bool → List EV → Option (List EV)) (fe : ES → M EV) (σ : ES) (h : EH) : lSeq g fe σ h = ((fe σ h).bind fun v h1 => R.opt ((seqOf h1 v).bind fun q => g q.1 q.2) h1) := rfl
theorem lSeqL_a (g : Bool → List EV → Option (List EV)) (fe : ES → M (List EV)) (σ : ES) (h : EH) : lSeqL g fe σ h = ((fe σ h).bind fun xs h1 => R.opt (g false xs) h1) := rfl
theorem lRev_a (fe : ES → M EV) (σ : ES) (h : EH) : lRev fe σ h = ((fe σ h).bind fun v h1 => R.opt ((listOf h1 v).map List.reverse) h1) := rfl
theorem eAppend_a (fo fe : ES → M EV) (σ : ES) (h : EH) : eAppend fo fe σ h = ((fo σ h).bind fun x h1 => match listOf h1 x, x with
  | some _, .ref n => (fe σ h1).bind fun v h2 => match h2[n]? with
    | some (.lst xs) => if xs.length < 100000 then .ok .non (h2.set n (.lst (xs ++ [v]))) else .stuck
    | _ => .stuck
  | _, _ => .stuck) := rfl
theorem eExtend_a (fo fe : ES → M EV) (σ : ES) (h : EH) : eExtend fo fe σ h = ((fo σ h).bind fun x h1 => match listOf h1 x, x with
  | some _, .ref n => (fe σ h1).bind fun y h2 => match h2[n]?, y with
    | some (.lst xs), .ref m => match h2[m]? with
      | some (.lst ys) => if xs.length + ys.length ≤ 100000 then .ok .non (h2.set n (.lst (xs ++ ys))) else .stuck
      | _ => .stuck
    | _, _ => .stuck
  | _, _ => .stuck) := rfl
theorem eExtendL_a (fo : ES → M EV) (fe : ES → M (List EV)) (σ : ES) (h : EH) : eExtendL fo fe σ h = ((fo σ h).bind fun x h1 => match listOf h1 x, x with
  | some _, .ref n => (fe σ h1).bind fun ys h2 => match h2[n]? with
    | some (.lst xs) => if xs.length + ys.length ≤ 100000 then .ok .non (h2.set n (.lst (xs ++ ys))) else .stuck
    | _ => .stuck
  | _, _ => .stuck) := rfl
theorem eDict0_a (σ : ES) (h : EH) : eDict0  σ h = (.ok (.ref h.length) (h ++ [.dK []])) := rfl
theorem eSetd_a (fd fk fv : ES → M EV) (σ : ES) (h : EH) : eSetd fd fk fv σ h = ((fd σ h).bind fun x h1 => match isDict h1 x with
  | true => (fk σ h1).bind fun y h2 => (fv σ h2).bind fun z h3 => R.lift (setd x y z h3)
  | false => .stuck) := rfl
theorem iDV_a (f : ES → M EV) (σ : ES) (h : EH) : iDV f σ h = ((f σ h).bind dvals) := rfl
end Z
end

section
set_option maxHeartbeats 4000000
namespace Law
open PySem PySem.Spec PyProof.Rows L2 Z
def top (i : Nat) : Stmt := PySem.Challenge.pw_foldsame_k50_partitions.main.body.getD i (.Pass ⟨0, 0, 0, 0⟩)
structure Txt (mg : Str → Option Value) : Prop where
  sorted : mg "sorted" = none
  range : mg "range" = none
  tuple : mg "tuple" = none
  len : mg "len" = none
  max : mg "max" = none
  list : mg "list" = none
  reversed : mg "reversed" = none
  int : mg "int" = none
  isinstance : mg "isinstance" = none
  all : mg "all" = none
  str : mg "str" = none
abbrev s_law_draw : Stmt := top 4
def b_law_draw : ES → EH → FL :=
  (sSeq (sSub (eOp opAdd (eOp opIx (eVar 0) (eC (.int 0))) (eC (.int 1))) (eVar 0) (eC (.int 0)))
  (sSeq (sSet (gN 2) (eOp opAdd (eC (.int 1)) (eOp opMod (eOp opIx (eVar 0) (eC (.int 0))) (eOp opSub (eCall fLenA (aCons (eVar 0) aNil)) (eC (.int 1))))))
  (sSeq (sSet (gN 3) (eOp opIx (eVar 0) (eVar 2)))
  (sSeq (sIf (tVal (eOp opGe (eVar 3) (eOp opPow (eC (.int 10)) (eC (.int 18))))) (sSeq (sSub (eOp opFdiv (eVar 3) (eVar 1)) (eVar 0) (eVar 2))
  (sRet (eOp opMod (eCall fInt1 (aCons (eVar 3) aNil)) (eVar 1)))) sNil)
  (sSeq (sSub (eOp opMod (eCall fInt1 (aCons (eOp opAdd (eOp opAdd (eOp opMul (eVar 3) (eC (.int 48271))) (eOp opMul (eOp opIx (eVar 0) (eC (.int 0))) (eC (.int 7919)))) (eC (.int 11))) aNil)) (eC (.int 2147483647))) (eVar 0) (eVar 2))
  (sRet (eOp opMod (eOp opFdiv (eOp opIx (eVar 0) (eVar 2)) (eC (.int 7))) (eVar 1))))))))
def F_law_draw : List EV → EH → Z.R EV := fnF 4 b_law_draw
abbrev s_law_bent : Stmt := top 6
def b_law_bent : ES → EH → FL :=
  (sSeq (sSet (gN 2) (eFn F_law_draw (aCons (eVar 0) (aCons (eC (.int 9)) aNil))))
  (sSeq (sSet (gN 3) (eFn F_law_draw (aCons (eVar 0) (aCons (eCall fMax2 (aCons (eC (.int 1)) (aCons (eCall fLenA (aCons (eVar 1) aNil)) aNil))) aNil))))
  (sSeq (sIf (tOr' (tVal (eOp opEq (eVar 1) (eNew (lLst aNil)))) (tVal (eOp opEq (eVar 2) (eC (.int 0))))) (sRet (eOp opAdd (eVar 1) (eNew (lLst (aCons (eNew (lLst aNil)) aNil))))) sNil)
  (sSeq (sIf (tVal (eOp opEq (eVar 2) (eC (.int 1)))) (sRet (eOp opAdd (eSl (eVar 1) (pSome (eVar 3)) pNone) (eSl (eVar 1) pNone (pSome (eVar 3))))) sNil)
  (sSeq (sIf (tVal (eOp opEq (eVar 2) (eC (.int 2)))) (sRet (eNew (lLc (iVal (eVar 1)) (gN 7) tYes' (eNew (lRev (eVar 7))) [7]))) sNil)
  (sSeq (sIf (tVal (eOp opEq (eVar 2) (eC (.int 3)))) (sRet (eOp opAdd (eOp opAdd (eSl (eVar 1) pNone (pSome (eVar 3))) (eNew (lLst (aCons (eSl (eOp opIx (eVar 1) (eVar 3)) (pSome (eC (.int 1))) pNone) aNil)))) (eSl (eVar 1) (pSome (eOp opAdd (eVar 3) (eC (.int 1)))) pNone))) sNil)
  (sSeq (sIf (tVal (eOp opEq (eVar 2) (eC (.int 4)))) (sSeq (sSet (gN 4) (eOp opAdd (eOp opIx (eVar 1) (eVar 3)) (eSl (eOp opIx (eVar 1) (eVar 3)) pNone (pSome (eC (.int 1))))))
  (sRet (eOp opAdd (eOp opAdd (eSl (eVar 1) pNone (pSome (eVar 3))) (eNew (lLst (aCons (eVar 4) aNil)))) (eSl (eVar 1) (pSome (eOp opAdd (eVar 3) (eC (.int 1)))) pNone)))) sNil)
  (sSeq (sIf (tVal (eOp opEq (eVar 2) (eC (.int 5)))) (sSeq (sSet (gN 5) (eOp opAdd (eOp opIx (eVar 1) (eVar 3)) (eNew (lLst (aCons (eC (.str "z.strange")) aNil)))))
  (sRet (eOp opAdd (eOp opAdd (eSl (eVar 1) pNone (pSome (eVar 3))) (eNew (lLst (aCons (eVar 5) aNil)))) (eSl (eVar 1) (pSome (eOp opAdd (eVar 3) (eC (.int 1)))) pNone)))) sNil)
  (sSeq (sIf (tVal (eOp opEq (eVar 2) (eC (.int 6)))) (sRet (eOp opAdd (eVar 1) (eNew (lLst (aCons (eOp opIx (eVar 1) (eVar 3)) aNil))))) sNil)
  (sSeq (sIf (tVal (eOp opEq (eVar 2) (eC (.int 7)))) (sSeq (sSet (gN 6) (eNew (lLst (aCons (eSl (eOp opIx (eVar 1) (eVar 3)) pNone (pSome (eC (.int 1)))) (aCons (eSl (eOp opIx (eVar 1) (eVar 3)) (pSome (eC (.int 1))) pNone) aNil)))))
  (sRet (eOp opAdd (eOp opAdd (eSl (eVar 1) pNone (pSome (eVar 3))) (eVar 6)) (eSl (eVar 1) (pSome (eOp opAdd (eVar 3) (eC (.int 1)))) pNone)))) sNil)
  (sRet (eOp opAdd (eSl (eVar 1) pNone (pSome (eVar 3))) (eSl (eVar 1) (pSome (eOp opAdd (eVar 3) (eC (.int 1)))) pNone)))))))))))))
def F_law_bent : List EV → EH → Z.R EV := fnF 8 b_law_bent
abbrev s_law_is_right : Stmt := top 7
def b_law_is_right : ES → EH → FL :=
  (sSeq (sSet (gN 2) (eC (.str "")))
  (sSeq (sSet (gN 3) (eNew (lLst aNil)))
  (sSeq (sFor (iVal (eVar 1)) (gN 4) (sSeq (sIf (tOr' (tVal (eOp opEq (eCall fLenA (aCons (eVar 4) aNil)) (eC (.int 0)))) (tOr' (tNot' (tVal (eOp opGt (eOp opIx (eVar 4) (eC (.int 0))) (eVar 2)))) (tVal (eOp opNe (eNew (lSeq fSorted (eVar 4))) (eVar 4))))) (sRet (eC (.bl false))) sNil)
  (sSeq (sSet (gN 2) (eOp opIx (eVar 4) (eC (.int 0))))
  (sExpr (eExtend (eVar 3) (eVar 4))))))
  (sRet (eOp opEq (eNew (lSeq fSorted (eVar 3))) (eVar 0))))))
def F_law_is_right : List EV → EH → Z.R EV := fnF 5 b_law_is_right
abbrev s_law_left : Stmt := top 3
def b_law_left : ES → EH → FL :=
  (sSeq (sSet (gN 1) (eOp opAdd (eNew (lLst (aCons (eC (.int 0)) aNil))) (eNew (lSeq fList (eSl (eVar 0) pNone (pSome (eC (.int 63))))))))
  (sSeq (sIf (tVal (eOp opEq (eCall fLenA (aCons (eVar 1) aNil)) (eC (.int 1)))) (sExpr (eAppend (eVar 1) (eC (.int 0)))) sNil)
  (sRet (eVar 1))))
def F_law_left : List EV → EH → Z.R EV := fnF 2 b_law_left
abbrev s_law_part : Stmt := top 5
def b_law_part : ES → EH → FL :=
  (sSeq (sSet (gN 2) eDict0)
  (sSeq (sFor (iRng1' (aCons (eCall fLenA (aCons (eVar 0) aNil)) aNil)) (gN 3) (sSeq (sSet (gN 4) (eSetd (eVar 2) (eOp opIx (eVar 1) (eVar 3)) (eNew (lLst aNil))))
  (sExpr (eAppend (eVar 4) (eOp opIx (eVar 0) (eVar 3))))))
  (sRet (eNew (lLock (selE (eVar 2)) (lLc (iDV (eVar 2)) (gN 4) tYes' (eNew (lSeq fList (eVar 4))) [4]))))))
def F_law_part : List EV → EH → Z.R EV := fnF 5 b_law_part
abbrev sis_partition : Stmt := top 1
def bis_partition : ES → EH → FL :=
  (sSeq (sIf (tNot' (tVal (eUn (isTy "tuple") (eVar 1)))) (sRet (eC (.bl false))) sNil)
  (sSeq (sSet (gN 2) (eNew (lLst aNil)))
  (sSeq (sFor (iVal (eVar 1)) (gN 3) (sSeq (sIf (tOr' (tNot' (tVal (eUn (isTy "tuple") (eVar 3)))) (tVal (eOp opEq (eVar 3) (eTup aNil)))) (sRet (eC (.bl false))) sNil)
  (sSeq (sIf (tOr' (tNot' (tVal (eSeqL fAll (lLc (iVal (eVar 3)) (gN 5) tYes' (eUn (isTy "str") (eVar 5)) [5])))) (tVal (eOp opNe (eNew (lSeq fList (eVar 3))) (eNew (lSeqL fSorted (lSeq fList (eVar 3))))))) (sRet (eC (.bl false))) sNil)
  (sExpr (eExtendL (eVar 2) (lSeq fList (eVar 3)))))))
  (sSeq (sSet (gN 4) (eNew (lLc (iVal (eVar 1)) (gN 3) tYes' (eOp opIx (eVar 3) (eC (.int 0))) [3])))
  (sRet (eAndB (eOp opEq (eVar 4) (eNew (lSeq fSorted (eVar 4)))) (eOp opEq (eNew (lSeq fSorted (eVar 2))) (eNew (lSeq fList (eVar 0))))))))))
def Fis_partition : List EV → EH → Z.R EV := fnF 6 bis_partition
abbrev slaw : Stmt := top 8
def blaw : ES → EH → FL :=
  (sSeq (sSet (gN 1) (eFn F_law_left (aCons (eVar 0) aNil)))
  (sSeq (sSet (gN 2) (eNew (lSeq fSorted (eSl (eNew (lLst (aCons (eC (.str "m.f")) (aCons (eC (.str "m.ab")) (aCons (eC (.str "n.c")) (aCons (eC (.str "m.a")) (aCons (eC (.str "n.a1")) (aCons (eC (.str "o.zz")) (aCons (eC (.str "m.main")) (aCons (eC (.str "n.b")) aNil)))))))))) pNone (pSome (eFn F_law_draw (aCons (eVar 1) (aCons (eC (.int 9)) aNil))))))))
  (sSeq (sSet (gN 3) (eOp opAdd (eC (.int 1)) (eFn F_law_draw (aCons (eVar 1) (aCons (eC (.int 5)) aNil)))))
  (sSeq (sSet (gN 4) (eFn F_law_part (aCons (eVar 2) (aCons (eNew (lLc (iVal (eVar 2)) (gN 12) tYes' (eFn F_law_draw (aCons (eVar 1) (aCons (eVar 3) aNil))) [12])) aNil))))
  (sSeq (sFor (iRng1' (aCons (eFn F_law_draw (aCons (eVar 1) (aCons (eC (.int 3)) aNil))) aNil)) (gN 5) (sSet (gN 4) (eFn F_law_bent (aCons (eVar 1) (aCons (eVar 4) aNil)))))
  (sSeq (sSet (gN 6) (eFn F_law_is_right (aCons (eVar 2) (aCons (eVar 4) aNil))))
  (sSeq (sSet (gN 7) (eSeqL fTuple (lLc (iVal (eVar 4)) (gN 13) tYes' (eSeq fTuple (eVar 13)) [13])))
  (sSeq (sSet (gN 8) (eSeq fTuple (eVar 2)))
  (sSeq (sIf (tVal (eOp opNe (eFn Fis_partition (aCons (eVar 8) (aCons (eVar 7) aNil))) (eVar 6))) (sRet (eC (.bl false))) sNil)
  (sSeq (sSet (gN 9) (eFn F_law_draw (aCons (eVar 1) (aCons (eCall fMax2 (aCons (eC (.int 1)) (aCons (eCall fLenA (aCons (eVar 7) aNil)) aNil))) aNil))))
  (sSeq (sSet (gN 10) (eNew (lLst (aCons (eVar 4) (aCons (eC .non) (aCons (eC (.int 7)) (aCons (eC (.str "m.f")) (aCons (eNew (lSeq fList (eVar 7))) (aCons (eOp opAdd (eTup (aCons (eC .non) aNil)) (eVar 7)) (aCons (eOp opAdd (eVar 7) (eTup (aCons (eTup (aCons (eC (.int 7)) aNil)) aNil))) aNil))))))))))
  (sSeq (sExpr (eAppend (eVar 10) (eOp opAdd (eOp opAdd (eSl (eVar 7) pNone (pSome (eVar 9))) (eTup (aCons (eNew (lLst (aCons (eC (.str "m.f")) aNil))) aNil))) (eSl (eVar 7) (pSome (eVar 9)) pNone))))
  (sSeq (sExpr (eAppend (eVar 10) (eOp opAdd (eSeqL fTuple (lLc (iVal (eSl (eVar 7) pNone (pSome (eOp opAdd (eVar 9) (eC (.int 1)))))) (gN 13) tYes' (eNew (lSeq fList (eVar 13))) [13])) (eSl (eVar 7) (pSome (eOp opAdd (eVar 9) (eC (.int 1)))) pNone))))
  (sSeq (sFor (iVal (eVar 10)) (gN 11) (sIf (tAnd' (tVal (eOp (opIs true) (eFn Fis_partition (aCons (eVar 8) (aCons (eVar 11) aNil))) (eC (.bl false)))) (tNot' (tAnd' (tVal (eOp opEq (eVar 2) (eNew (lLst aNil)))) (tVal (eOp opEq (eVar 11) (eTup aNil)))))) (sRet (eC (.bl false))) sNil))
  (sRet (eAndB (eOp opEq (eFn Fis_partition (aCons (eVar 8) (aCons (eVar 7) aNil))) (eVar 6)) (eOp opEq (eVar 4) (eNew (lLc (iVal (eVar 7)) (gN 13) tYes' (eNew (lSeq fList (eVar 13))) [13])))))))))))))))))))
def Flaw : List EV → EH → Z.R EV := fnF 14 blaw
section
variable {P : Program} {w : World} {G : Wd} {mg : Str → Option Value} {base : Heap}
abbrev nm_law_draw : List Str := ["_law_left_here", "_law_most", "_law_place", "_law_cell"]
theorem sc_law_draw : FnScope nm_law_draw ["_law_left_here", "_law_most"] (defScope s_law_draw) := ⟨rfl, rfl, rfl, by decide +kernel, rfl, by decide +kernel, by decide +kernel⟩
theorem ok_law_draw {f : Addr} {fd : FuncData} (F : Fun G.K "_law_draw" "_law_draw" s_law_draw f fd) (T : Txt mg) : FnOk P w G.K mg base (L2.CX P w) 1 f fd ["_law_left_here", "_law_most"] (spF G 2 F_law_draw) := by
  have sc := sc_law_draw
  refine fn_ok (k := 0) F sc rfl rfl fun cdv A outer s H E hr => ?_
  exact (rss_cons (rs_sub (re_op ro_add (re_sub (re_var (i := 0)) re_int) re_int) (re_var (i := 0)) re_int)
  (rss_cons (rs_set (i := 2) sc.nd (re_op ro_add re_int (re_op ro_mod (re_sub (re_var (i := 0)) re_int) (re_op ro_sub (re_callB (hd_B T.len PySem.boot_len) rc_len (ra_cons (re_var (i := 0)) ra_nil)) re_int))))
  (rss_cons (rs_set (i := 3) sc.nd (re_sub (re_var (i := 0)) (re_var (i := 2))))
  (rss_cons (rs_if (rt_cmp ro_ge (re_var (i := 3)) (re_op ro_pow re_int re_int)) (rss_cons (rs_sub (re_op ro_fdiv (re_var (i := 3)) (re_var (i := 1))) (re_var (i := 0)) (re_var (i := 2)))
  (rss_one (rs_ret (re_op ro_mod (re_callB (hd_T T.int (by decide +kernel)) rc_int1 (ra_cons (re_var (i := 3)) ra_nil)) (re_var (i := 1)))))) rss_nil)
  (rss_cons (rs_sub (re_op ro_mod (re_callB (hd_T T.int (by decide +kernel)) rc_int1 (ra_cons (re_op ro_add (re_op ro_add (re_op ro_mul (re_var (i := 3)) re_int) (re_op ro_mul (re_sub (re_var (i := 0)) re_int) re_int)) re_int) ra_nil)) re_int) (re_var (i := 0)) (re_var (i := 2)))
  (rss_one (rs_ret (re_op ro_mod (re_op ro_fdiv (re_sub (re_var (i := 0)) (re_var (i := 2))) re_int) (re_var (i := 1))))))))))
abbrev nm_law_bent : List Str := ["_law_left_here", "_law_groups", "_law_way", "_law_spot", "_law_twice", "_law_longer", "_law_parts", "_law_group"]
theorem sc_law_bent : FnScope nm_law_bent ["_law_left_here", "_law_groups"] (defScope s_law_bent) := ⟨rfl, rfl, rfl, by decide +kernel, rfl, by decide +kernel, by decide +kernel⟩
theorem ok_law_bent {f : Addr} {fd : FuncData} (F : Fun G.K "_law_bent" "_law_bent" s_law_bent f fd) (T : Txt mg) (D_law_draw : Def P w G mg base 1 "_law_draw" 2 F_law_draw) : FnOk P w G.K mg base (L2.CX P w) 2 f fd ["_law_left_here", "_law_groups"] (spF G 2 F_law_bent) := by
  have sc := sc_law_bent
  refine fn_ok (k := 1) F sc rfl rfl fun cdv A outer s H E hr => ?_
  exact (rss_cons (rs_set (i := 2) sc.nd (re_fn D_law_draw hr (by decide) (ra_cons (re_var (i := 0)) (ra_cons re_int ra_nil)) (al_cons (al_cons al_nil))))
  (rss_cons (rs_set (i := 3) sc.nd (re_fn D_law_draw hr (by decide) (ra_cons (re_var (i := 0)) (ra_cons (re_callB (hd_B T.max (by decide +kernel)) rc_max2 (ra_cons re_int (ra_cons (re_callB (hd_B T.len PySem.boot_len) rc_len (ra_cons (re_var (i := 1)) ra_nil)) ra_nil))) ra_nil)) (al_cons (al_cons al_nil))))
  (rss_cons (rs_if (rt_w (rw_or (rt_cmp (ro_eq hr.units) (re_var (i := 1)) (re_new (rl_lst ra_nil))) (rw_or1 (rt_cmp (ro_eq hr.units) (re_var (i := 2)) re_int)))) (rss_one (rs_ret (re_op ro_add (re_var (i := 1)) (re_new (rl_lst (ra_cons (re_new (rl_lst ra_nil)) ra_nil)))))) rss_nil)
  (rss_cons (rs_if (rt_cmp (ro_eq hr.units) (re_var (i := 2)) re_int) (rss_one (rs_ret (re_op ro_add (re_sl (re_var (i := 1)) (rp_some (re_var (i := 3))) rp_none) (re_sl (re_var (i := 1)) rp_none (rp_some (re_var (i := 3))))))) rss_nil)
  (rss_cons (rs_if (rt_cmp (ro_eq hr.units) (re_var (i := 2)) re_int) (rss_one (rs_ret (re_new (rl_lc (own := [("_law_group", 7)]) sc.nd (ri_val (re_var (i := 1))) (blkOk_by (N := nm_law_bent) (sc := defScope s_law_bent) (by decide +kernel)) (fun _ _ _ _ _ => (rg_name (i := 7) sc.nd)) (fun _ _ _ _ _ => rts_nil) (fun _ _ _ _ _ => (re_new (rl_rev T.list T.reversed (re_var (i := 7))))))))) rss_nil)
  (rss_cons (rs_if (rt_cmp (ro_eq hr.units) (re_var (i := 2)) re_int) (rss_one (rs_ret (re_op ro_add (re_op ro_add (re_sl (re_var (i := 1)) rp_none (rp_some (re_var (i := 3)))) (re_new (rl_lst (ra_cons (re_sl (re_sub (re_var (i := 1)) (re_var (i := 3))) (rp_some re_int) rp_none) ra_nil)))) (re_sl (re_var (i := 1)) (rp_some (re_op ro_add (re_var (i := 3)) re_int)) rp_none)))) rss_nil)
  (rss_cons (rs_if (rt_cmp (ro_eq hr.units) (re_var (i := 2)) re_int) (rss_cons (rs_set (i := 4) sc.nd (re_op ro_add (re_sub (re_var (i := 1)) (re_var (i := 3))) (re_sl (re_sub (re_var (i := 1)) (re_var (i := 3))) rp_none (rp_some re_int))))
  (rss_one (rs_ret (re_op ro_add (re_op ro_add (re_sl (re_var (i := 1)) rp_none (rp_some (re_var (i := 3)))) (re_new (rl_lst (ra_cons (re_var (i := 4)) ra_nil)))) (re_sl (re_var (i := 1)) (rp_some (re_op ro_add (re_var (i := 3)) re_int)) rp_none))))) rss_nil)
  (rss_cons (rs_if (rt_cmp (ro_eq hr.units) (re_var (i := 2)) re_int) (rss_cons (rs_set (i := 5) sc.nd (re_op ro_add (re_sub (re_var (i := 1)) (re_var (i := 3))) (re_new (rl_lst (ra_cons re_str ra_nil)))))
  (rss_one (rs_ret (re_op ro_add (re_op ro_add (re_sl (re_var (i := 1)) rp_none (rp_some (re_var (i := 3)))) (re_new (rl_lst (ra_cons (re_var (i := 5)) ra_nil)))) (re_sl (re_var (i := 1)) (rp_some (re_op ro_add (re_var (i := 3)) re_int)) rp_none))))) rss_nil)
  (rss_cons (rs_if (rt_cmp (ro_eq hr.units) (re_var (i := 2)) re_int) (rss_one (rs_ret (re_op ro_add (re_var (i := 1)) (re_new (rl_lst (ra_cons (re_sub (re_var (i := 1)) (re_var (i := 3))) ra_nil)))))) rss_nil)
  (rss_cons (rs_if (rt_cmp (ro_eq hr.units) (re_var (i := 2)) re_int) (rss_cons (rs_set (i := 6) sc.nd (re_new (rl_lst (ra_cons (re_sl (re_sub (re_var (i := 1)) (re_var (i := 3))) rp_none (rp_some re_int)) (ra_cons (re_sl (re_sub (re_var (i := 1)) (re_var (i := 3))) (rp_some re_int) rp_none) ra_nil)))))
  (rss_one (rs_ret (re_op ro_add (re_op ro_add (re_sl (re_var (i := 1)) rp_none (rp_some (re_var (i := 3)))) (re_var (i := 6))) (re_sl (re_var (i := 1)) (rp_some (re_op ro_add (re_var (i := 3)) re_int)) rp_none))))) rss_nil)
  (rss_one (rs_ret (re_op ro_add (re_sl (re_var (i := 1)) rp_none (rp_some (re_var (i := 3)))) (re_sl (re_var (i := 1)) (rp_some (re_op ro_add (re_var (i := 3)) re_int)) rp_none))))))))))))))
abbrev nm_law_is_right : List Str := ["_law_names", "_law_groups", "_law_last", "_law_found", "_law_group"]
theorem sc_law_is_right : FnScope nm_law_is_right ["_law_names", "_law_groups"] (defScope s_law_is_right) := ⟨rfl, rfl, rfl, by decide +kernel, rfl, by decide +kernel, by decide +kernel⟩
theorem ok_law_is_right {f : Addr} {fd : FuncData} (F : Fun G.K "_law_is_right" "_law_is_right" s_law_is_right f fd) (T : Txt mg) : FnOk P w G.K mg base (L2.CX P w) 1 f fd ["_law_names", "_law_groups"] (spF G 2 F_law_is_right) := by
  have sc := sc_law_is_right
  refine fn_ok (k := 0) F sc rfl rfl fun cdv A outer s H E hr => ?_
  exact (rss_cons (rs_set (i := 2) sc.nd re_str)
  (rss_cons (rs_set (i := 3) sc.nd (re_new (rl_lst ra_nil)))
  (rss_cons (rs_for (passes_of rfl) (ri_val (re_var (i := 1))) (rg_name (i := 4) sc.nd) (rss_cons (rs_if (rt_w (rw_or (rt_cmp (ro_eq hr.units) (re_callB (hd_B T.len PySem.boot_len) rc_len (ra_cons (re_var (i := 4)) ra_nil)) re_int) (rw_or (rt_not (rt_cmp ro_gt (re_sub (re_var (i := 4)) re_int) (re_var (i := 2)))) (rw_or1 (rt_cmp (ro_ne hr.units) (re_new (rl_seq (hd_B T.sorted (by decide +kernel)) rcl_sorted (re_var (i := 4)))) (re_var (i := 4))))))) (rss_one (rs_ret re_bl)) rss_nil)
  (rss_cons (rs_set (i := 2) sc.nd (re_sub (re_var (i := 4)) re_int))
  (rss_one (rs_expr (re_extend (re_var (i := 3)) (re_var (i := 4))))))))
  (rss_one (rs_ret (re_cmp (ro_eq hr.units) (re_new (rl_seq (hd_B T.sorted (by decide +kernel)) rcl_sorted (re_var (i := 3)))) (re_var (i := 0))))))))
abbrev nm_law_left : List Str := ["_law_script", "_law_left_here"]
theorem sc_law_left : FnScope nm_law_left ["_law_script"] (defScope s_law_left) := ⟨rfl, rfl, rfl, by decide +kernel, rfl, by decide +kernel, by decide +kernel⟩
theorem ok_law_left {f : Addr} {fd : FuncData} (F : Fun G.K "_law_left" "_law_left" s_law_left f fd) (T : Txt mg) : FnOk P w G.K mg base (L2.CX P w) 1 f fd ["_law_script"] (spF G 1 F_law_left) := by
  have sc := sc_law_left
  refine fn_ok (k := 0) F sc rfl rfl fun cdv A outer s H E hr => ?_
  exact (rss_cons (rs_set (i := 1) sc.nd (re_op ro_add (re_new (rl_lst (ra_cons re_int ra_nil))) (re_new (rl_seq (hd_T T.list boot_list) rcl_list (re_sl (re_var (i := 0)) rp_none (rp_some re_int))))))
  (rss_cons (rs_if (rt_cmp (ro_eq hr.units) (re_callB (hd_B T.len PySem.boot_len) rc_len (ra_cons (re_var (i := 1)) ra_nil)) re_int) (rss_one (rs_expr (re_append (re_var (i := 1)) re_int))) rss_nil)
  (rss_one (rs_ret (re_var (i := 1))))))
abbrev nm_law_part : List Str := ["_law_names", "_law_labels", "_law_groups", "_law_spot", "_law_group"]
theorem sc_law_part : FnScope nm_law_part ["_law_names", "_law_labels"] (defScope s_law_part) := ⟨rfl, rfl, rfl, by decide +kernel, rfl, by decide +kernel, by decide +kernel⟩
theorem ok_law_part {f : Addr} {fd : FuncData} (F : Fun G.K "_law_part" "_law_part" s_law_part f fd) (T : Txt mg) : FnOk P w G.K mg base (L2.CX P w) 1 f fd ["_law_names", "_law_labels"] (spF G 2 F_law_part) := by
  have sc := sc_law_part
  refine fn_ok (k := 0) F sc rfl rfl fun cdv A outer s H E hr => ?_
  exact (rss_cons (rs_set (i := 2) sc.nd re_dict0)
  (rss_cons (rs_for (passes_of rfl) (ri_range1 rfl T.range (ra_cons (re_callB (hd_B T.len PySem.boot_len) rc_len (ra_cons (re_var (i := 0)) ra_nil)) ra_nil)) (rg_name (i := 3) sc.nd) (rss_cons (rs_set (i := 4) sc.nd (re_setd (re_var (i := 2)) (re_sub (re_var (i := 1)) (re_var (i := 3))) (re_new (rl_lst ra_nil))))
  (rss_one (rs_expr (re_append (re_var (i := 4)) (re_sub (re_var (i := 0)) (re_var (i := 3))))))))
  (rss_one (rs_ret (re_new (rl_lock (rl_lc (own := [("_law_group", 4)]) sc.nd (ri_dvals (re_var (i := 2))) (blkOk_by (N := nm_law_part) (sc := defScope s_law_part) (by decide +kernel)) (fun _ _ _ _ _ => (rg_name (i := 4) sc.nd)) (fun _ _ _ _ _ => rts_nil) (fun _ _ _ _ _ => (re_new (rl_seq (hd_T T.list boot_list) rcl_list (re_var (i := 4))))))))))))
abbrev nmis_partition : List Str := ["pieces", "value", "found", "group", "firsts", "name"]
theorem scis_partition : FnScope nmis_partition ["pieces", "value"] (defScope sis_partition) := ⟨rfl, rfl, rfl, by decide +kernel, rfl, by decide +kernel, by decide +kernel⟩
theorem okis_partition {f : Addr} {fd : FuncData} (F : Fun G.K "is_partition" "is_partition" sis_partition f fd) (T : Txt mg) : FnOk P w G.K mg base (L2.CX P w) 1 f fd ["pieces", "value"] (spF G 2 Fis_partition) := by
  have sc := scis_partition
  refine fn_ok (k := 0) F sc rfl rfl fun cdv A outer s H E hr => ?_
  exact (rss_cons (rs_if (rt_not (rt_val (re_isTy (re_var (i := 1)) T.isinstance T.tuple (by decide +kernel)))) (rss_one (rs_ret re_bl)) rss_nil)
  (rss_cons (rs_set (i := 2) sc.nd (re_new (rl_lst ra_nil)))
  (rss_cons (rs_for (passes_of rfl) (ri_val (re_var (i := 1))) (rg_name (i := 3) sc.nd) (rss_cons (rs_if (rt_w (rw_or (rt_not (rt_val (re_isTy (re_var (i := 3)) T.isinstance T.tuple (by decide +kernel)))) (rw_or1 (rt_cmp (ro_eq hr.units) (re_var (i := 3)) (re_tup ra_nil))))) (rss_one (rs_ret re_bl)) rss_nil)
  (rss_cons (rs_if (rt_w (rw_or (rt_not (rt_val (re_seqL (hd_B T.all (by decide +kernel)) rcs_all (rl_lc (own := [("name", 5)]) sc.nd (ri_val (re_var (i := 3))) (blkOk_by (N := nmis_partition) (sc := defScope sis_partition) (by decide +kernel)) (fun _ _ _ _ _ => (rg_name (i := 5) sc.nd)) (fun _ _ _ _ _ => rts_nil) (fun _ _ _ _ _ => (re_isTy (re_var (i := 5)) T.isinstance T.str (by decide +kernel))))))) (rw_or1 (rt_cmp (ro_ne hr.units) (re_new (rl_seq (hd_T T.list boot_list) rcl_list (re_var (i := 3)))) (re_new (rl_seqL (hd_B T.sorted (by decide +kernel)) rcl_sorted (rl_seq (hd_T T.list boot_list) rcl_list (re_var (i := 3))))))))) (rss_one (rs_ret re_bl)) rss_nil)
  (rss_one (rs_expr (re_extendL (re_var (i := 2)) (rl_seq (hd_T T.list boot_list) rcl_list (re_var (i := 3)))))))))
  (rss_cons (rs_setLc (i := 4) (own := [("group", 3)]) sc.nd (sw_true rfl rfl rfl (by decide +kernel)) (ri_val (re_var (i := 1))) (blkOk_by (N := nmis_partition) (sc := defScope sis_partition) (by decide +kernel)) (fun _ _ _ _ _ => (rg_name (i := 3) sc.nd)) (fun _ _ _ _ _ => rts_nil) (fun _ _ _ _ _ => (re_sub (re_var (i := 3)) re_int)))
  (rss_one (rs_ret (re_and (re_cmp (ro_eq hr.units) (re_var (i := 4)) (re_new (rl_seq (hd_B T.sorted (by decide +kernel)) rcl_sorted (re_var (i := 4))))) (re_one (re_cmp (ro_eq hr.units) (re_new (rl_seq (hd_B T.sorted (by decide +kernel)) rcl_sorted (re_var (i := 2)))) (re_new (rl_seq (hd_T T.list boot_list) rcl_list (re_var (i := 0)))))))))))))
abbrev nmlaw : List Str := ["_law_script", "_law_left_here", "_law_names", "_law_many", "_law_groups", "_law_turn", "_law_right", "_law_value", "_law_given", "_law_spot", "_law_others", "_law_other", "_law_name", "_law_group"]
theorem sclaw : FnScope nmlaw ["_law_script"] (defScope slaw) := ⟨rfl, rfl, rfl, by decide +kernel, rfl, by decide +kernel, by decide +kernel⟩
theorem oklaw {f : Addr} {fd : FuncData} (F : Fun G.K "law" "law" slaw f fd) (T : Txt mg) (D_law_bent : Def P w G mg base 2 "_law_bent" 2 F_law_bent) (D_law_draw : Def P w G mg base 1 "_law_draw" 2 F_law_draw) (D_law_is_right : Def P w G mg base 1 "_law_is_right" 2 F_law_is_right) (D_law_left : Def P w G mg base 1 "_law_left" 1 F_law_left) (D_law_part : Def P w G mg base 1 "_law_part" 2 F_law_part) (Dis_partition : Def P w G mg base 1 "is_partition" 2 Fis_partition) : FnOk P w G.K mg base (L2.CX P w) 3 f fd ["_law_script"] (spF G 1 Flaw) := by
  have sc := sclaw
  refine fn_ok (k := 2) F sc rfl rfl fun cdv A outer s H E hr => ?_
  exact (rss_cons (rs_set (i := 1) sc.nd (re_fn D_law_left hr (by decide) (ra_cons (re_var (i := 0)) ra_nil) (al_cons al_nil)))
  (rss_cons (rs_set (i := 2) sc.nd (re_new (rl_seq (hd_B T.sorted (by decide +kernel)) rcl_sorted (re_sl (re_new (rl_lst (ra_cons re_str (ra_cons re_str (ra_cons re_str (ra_cons re_str (ra_cons re_str (ra_cons re_str (ra_cons re_str (ra_cons re_str ra_nil)))))))))) rp_none (rp_some (re_fn D_law_draw hr (by decide) (ra_cons (re_var (i := 1)) (ra_cons re_int ra_nil)) (al_cons (al_cons al_nil))))))))
  (rss_cons (rs_set (i := 3) sc.nd (re_op ro_add re_int (re_fn D_law_draw hr (by decide) (ra_cons (re_var (i := 1)) (ra_cons re_int ra_nil)) (al_cons (al_cons al_nil)))))
  (rss_cons (rs_set (i := 4) sc.nd (re_fn D_law_part hr (by decide) (ra_cons (re_var (i := 2)) (ra_cons (re_new (rl_lc (own := [("_law_name", 12)]) sc.nd (ri_val (re_var (i := 2))) (blkOk_by (N := nmlaw) (sc := defScope slaw) (by decide +kernel)) (fun _ _ _ _ _ => (rg_name (i := 12) sc.nd)) (fun _ _ _ _ _ => rts_nil) (fun _ _ _ _ _ => (re_fn D_law_draw hr (by decide) (ra_cons (re_var (i := 1)) (ra_cons (re_var (i := 3)) ra_nil)) (al_cons (al_cons al_nil)))))) ra_nil)) (al_cons (al_cons al_nil))))
  (rss_cons (rs_for (passes_of rfl) (ri_range1 rfl T.range (ra_cons (re_fn D_law_draw hr (by decide) (ra_cons (re_var (i := 1)) (ra_cons re_int ra_nil)) (al_cons (al_cons al_nil))) ra_nil)) (rg_name (i := 5) sc.nd) (rss_one (rs_set (i := 4) sc.nd (re_fn D_law_bent hr (by decide) (ra_cons (re_var (i := 1)) (ra_cons (re_var (i := 4)) ra_nil)) (al_cons (al_cons al_nil))))))
  (rss_cons (rs_set (i := 6) sc.nd (re_fn D_law_is_right hr (by decide) (ra_cons (re_var (i := 2)) (ra_cons (re_var (i := 4)) ra_nil)) (al_cons (al_cons al_nil))))
  (rss_cons (rs_set (i := 7) sc.nd (re_seqL (hd_T T.tuple (by decide +kernel)) rcs_tuple (rl_lc (own := [("_law_group", 13)]) sc.nd (ri_val (re_var (i := 4))) (blkOk_by (N := nmlaw) (sc := defScope slaw) (by decide +kernel)) (fun _ _ _ _ _ => (rg_name (i := 13) sc.nd)) (fun _ _ _ _ _ => rts_nil) (fun _ _ _ _ _ => (re_seq (hd_T T.tuple (by decide +kernel)) rcs_tuple (re_var (i := 13)))))))
  (rss_cons (rs_set (i := 8) sc.nd (re_seq (hd_T T.tuple (by decide +kernel)) rcs_tuple (re_var (i := 2))))
  (rss_cons (rs_if (rt_cmp (ro_ne hr.units) (re_fn Dis_partition hr (by decide) (ra_cons (re_var (i := 8)) (ra_cons (re_var (i := 7)) ra_nil)) (al_cons (al_cons al_nil))) (re_var (i := 6))) (rss_one (rs_ret re_bl)) rss_nil)
  (rss_cons (rs_set (i := 9) sc.nd (re_fn D_law_draw hr (by decide) (ra_cons (re_var (i := 1)) (ra_cons (re_callB (hd_B T.max (by decide +kernel)) rc_max2 (ra_cons re_int (ra_cons (re_callB (hd_B T.len PySem.boot_len) rc_len (ra_cons (re_var (i := 7)) ra_nil)) ra_nil))) ra_nil)) (al_cons (al_cons al_nil))))
  (rss_cons (rs_set (i := 10) sc.nd (re_new (rl_lst (ra_cons (re_var (i := 4)) (ra_cons re_non (ra_cons re_int (ra_cons re_str (ra_cons (re_new (rl_seq (hd_T T.list boot_list) rcl_list (re_var (i := 7)))) (ra_cons (re_op ro_add (re_tup (ra_cons re_non ra_nil)) (re_var (i := 7))) (ra_cons (re_op ro_add (re_var (i := 7)) (re_tup (ra_cons (re_tup (ra_cons re_int ra_nil)) ra_nil))) ra_nil))))))))))
  (rss_cons (rs_expr (re_append (re_var (i := 10)) (re_op ro_add (re_op ro_add (re_sl (re_var (i := 7)) rp_none (rp_some (re_var (i := 9)))) (re_tup (ra_cons (re_new (rl_lst (ra_cons re_str ra_nil))) ra_nil))) (re_sl (re_var (i := 7)) (rp_some (re_var (i := 9))) rp_none))))
  (rss_cons (rs_expr (re_append (re_var (i := 10)) (re_op ro_add (re_seqL (hd_T T.tuple (by decide +kernel)) rcs_tuple (rl_lc (own := [("_law_group", 13)]) sc.nd (ri_val (re_sl (re_var (i := 7)) rp_none (rp_some (re_op ro_add (re_var (i := 9)) re_int)))) (blkOk_by (N := nmlaw) (sc := defScope slaw) (by decide +kernel)) (fun _ _ _ _ _ => (rg_name (i := 13) sc.nd)) (fun _ _ _ _ _ => rts_nil) (fun _ _ _ _ _ => (re_new (rl_seq (hd_T T.list boot_list) rcl_list (re_var (i := 13))))))) (re_sl (re_var (i := 7)) (rp_some (re_op ro_add (re_var (i := 9)) re_int)) rp_none))))
  (rss_cons (rs_for (passes_of rfl) (ri_val (re_var (i := 10))) (rg_name (i := 11) sc.nd) (rss_one (rs_if (rt_w (rw_and (rt_cmp ro_isnot (re_fn Dis_partition hr (by decide) (ra_cons (re_var (i := 8)) (ra_cons (re_var (i := 11)) ra_nil)) (al_cons (al_cons al_nil))) re_bl) (rw_and1 (rt_not (rt_w (rw_and (rt_cmp (ro_eq hr.units) (re_var (i := 2)) (re_new (rl_lst ra_nil))) (rw_and1 (rt_cmp (ro_eq hr.units) (re_var (i := 11)) (re_tup ra_nil))))))))) (rss_one (rs_ret re_bl)) rss_nil)))
  (rss_one (rs_ret (re_and (re_cmp (ro_eq hr.units) (re_fn Dis_partition hr (by decide) (ra_cons (re_var (i := 8)) (ra_cons (re_var (i := 7)) ra_nil)) (al_cons (al_cons al_nil))) (re_var (i := 6))) (re_one (re_cmp (ro_eq hr.units) (re_var (i := 4)) (re_new (rl_lc (own := [("_law_group", 13)]) sc.nd (ri_val (re_var (i := 7))) (blkOk_by (N := nmlaw) (sc := defScope slaw) (by decide +kernel)) (fun _ _ _ _ _ => (rg_name (i := 13) sc.nd)) (fun _ _ _ _ _ => rts_nil) (fun _ _ _ _ _ => (re_new (rl_seq (hd_T T.list boot_list) rcl_list (re_var (i := 13))))))))))))))))))))))))))
end
theorem all_mk {l : PySem.W.OpenLaw} {w : World} {K : PySem.W.Frag} {h : Heap} {mg : Str → Option Value} {CA : Nat → Addr} {fa f1 f2 f3 f4 f5 f6 f7 : Addr} (X : K.In h) (N : h.Ns mainGlobals mg) (hfa : mg "law" = some (.ref fa))
    {od1 an1 od2 an2 od3 an3 od4 an4 od5 an5 od6 an6 od7 an7 : Option Addr} {sl1 sl2 sl3 sl4 sl5 sl6 sl7 : Array (Option Value)} {oc1 kv1 dc1 pm1 cd1 ct1 oc2 kv2 dc2 pm2 cd2 ct2 oc3 kv3 dc3 pm3 cd3 ct3 oc4 kv4 dc4 pm4 cd4 ct4 oc5 kv5 dc5 pm5 cd5 ct5 oc6 kv6 dc6 pm6 cd6 ct6 oc7 kv7 dc7 pm7 cd7 ct7 : Value}
    (a1 : PySem.W.nsIn K mainGlobals "_law_draw" = some (some (.ref f1))) (l1 : K.lookup f1 = some ⟨oc1, od1, .func (PySem.W.fnOf "_law_draw" "_law_draw" (defArgs s_law_draw) (defBody s_law_draw) (defScope s_law_draw) .none kv1 dc1 pm1 an1 cd1 ct1), sl1⟩)
    (c1 : PySem.W.codeIn K cd1 "_law_draw" = true) (k1 : PySem.W.keepIn K (.ref f1) = true)
    (a2 : PySem.W.nsIn K mainGlobals "_law_bent" = some (some (.ref f2))) (l2 : K.lookup f2 = some ⟨oc2, od2, .func (PySem.W.fnOf "_law_bent" "_law_bent" (defArgs s_law_bent) (defBody s_law_bent) (defScope s_law_bent) .none kv2 dc2 pm2 an2 cd2 ct2), sl2⟩)
    (c2 : PySem.W.codeIn K cd2 "_law_bent" = true) (k2 : PySem.W.keepIn K (.ref f2) = true)
    (a3 : PySem.W.nsIn K mainGlobals "_law_is_right" = some (some (.ref f3))) (l3 : K.lookup f3 = some ⟨oc3, od3, .func (PySem.W.fnOf "_law_is_right" "_law_is_right" (defArgs s_law_is_right) (defBody s_law_is_right) (defScope s_law_is_right) .none kv3 dc3 pm3 an3 cd3 ct3), sl3⟩)
    (c3 : PySem.W.codeIn K cd3 "_law_is_right" = true) (k3 : PySem.W.keepIn K (.ref f3) = true)
    (a4 : PySem.W.nsIn K mainGlobals "_law_left" = some (some (.ref f4))) (l4 : K.lookup f4 = some ⟨oc4, od4, .func (PySem.W.fnOf "_law_left" "_law_left" (defArgs s_law_left) (defBody s_law_left) (defScope s_law_left) .none kv4 dc4 pm4 an4 cd4 ct4), sl4⟩)
    (c4 : PySem.W.codeIn K cd4 "_law_left" = true) (k4 : PySem.W.keepIn K (.ref f4) = true)
    (a5 : PySem.W.nsIn K mainGlobals "_law_part" = some (some (.ref f5))) (l5 : K.lookup f5 = some ⟨oc5, od5, .func (PySem.W.fnOf "_law_part" "_law_part" (defArgs s_law_part) (defBody s_law_part) (defScope s_law_part) .none kv5 dc5 pm5 an5 cd5 ct5), sl5⟩)
    (c5 : PySem.W.codeIn K cd5 "_law_part" = true) (k5 : PySem.W.keepIn K (.ref f5) = true)
    (a6 : PySem.W.nsIn K mainGlobals "is_partition" = some (some (.ref f6))) (l6 : K.lookup f6 = some ⟨oc6, od6, .func (PySem.W.fnOf "is_partition" "is_partition" (defArgs sis_partition) (defBody sis_partition) (defScope sis_partition) .none kv6 dc6 pm6 an6 cd6 ct6), sl6⟩)
    (c6 : PySem.W.codeIn K cd6 "is_partition" = true) (k6 : PySem.W.keepIn K (.ref f6) = true)
    (a7 : PySem.W.nsIn K mainGlobals "law" = some (some (.ref f7))) (l7 : K.lookup f7 = some ⟨oc7, od7, .func (PySem.W.fnOf "law" "law" (defArgs slaw) (defBody slaw) (defScope slaw) .none kv7 dc7 pm7 an7 cd7 ct7), sl7⟩)
    (c7 : PySem.W.codeIn K cd7 "law" = true) (k7 : PySem.W.keepIn K (.ref f7) = true)
    (z0 : PySem.W.nsIn K mainGlobals "sorted" = some none)
    (z1 : PySem.W.nsIn K mainGlobals "range" = some none)
    (z2 : PySem.W.nsIn K mainGlobals "tuple" = some none)
    (z3 : PySem.W.nsIn K mainGlobals "len" = some none)
    (z4 : PySem.W.nsIn K mainGlobals "max" = some none)
    (z5 : PySem.W.nsIn K mainGlobals "list" = some none)
    (z6 : PySem.W.nsIn K mainGlobals "reversed" = some none)
    (z7 : PySem.W.nsIn K mainGlobals "int" = some none)
    (z8 : PySem.W.nsIn K mainGlobals "isinstance" = some none)
    (z9 : PySem.W.nsIn K mainGlobals "all" = some none)
    (z10 : PySem.W.nsIn K mainGlobals "str" = some none)
    : ∃ fd : FuncData, (∀ (s : Shared) (v : Value), BindsTo s fd ⟨[v], []⟩ [("_law_script", v)]) ∧ ∀ base : Heap, K.In base → base.Ns mainGlobals mg → FnOk l.prog w K mg base (L2.CX l.prog w) 3 fa fd ["_law_script"] (spF ⟨K, CA⟩ 1 Flaw) := by
  have e := hfa.symm.trans (PySem.W.mg_of X N a7)
  cases e
  have T : Txt mg := ⟨PySem.W.mg_none_of X N z0, PySem.W.mg_none_of X N z1, PySem.W.mg_none_of X N z2, PySem.W.mg_none_of X N z3, PySem.W.mg_none_of X N z4, PySem.W.mg_none_of X N z5, PySem.W.mg_none_of X N z6, PySem.W.mg_none_of X N z7, PySem.W.mg_none_of X N z8, PySem.W.mg_none_of X N z9, PySem.W.mg_none_of X N z10⟩
  have P1 := fun_mk (st := s_law_draw) l1 c1 k1
  have B1 := P1.binds (ps := ["_law_left_here", "_law_most"]) fun _ _ _ _ _ _ us hl => match us, hl with | [_, _], _ => rfl
  have P2 := fun_mk (st := s_law_bent) l2 c2 k2
  have B2 := P2.binds (ps := ["_law_left_here", "_law_groups"]) fun _ _ _ _ _ _ us hl => match us, hl with | [_, _], _ => rfl
  have P3 := fun_mk (st := s_law_is_right) l3 c3 k3
  have B3 := P3.binds (ps := ["_law_names", "_law_groups"]) fun _ _ _ _ _ _ us hl => match us, hl with | [_, _], _ => rfl
  have P4 := fun_mk (st := s_law_left) l4 c4 k4
  have B4 := P4.binds (ps := ["_law_script"]) fun _ _ _ _ _ _ us hl => match us, hl with | [_], _ => rfl
  have P5 := fun_mk (st := s_law_part) l5 c5 k5
  have B5 := P5.binds (ps := ["_law_names", "_law_labels"]) fun _ _ _ _ _ _ us hl => match us, hl with | [_, _], _ => rfl
  have P6 := fun_mk (st := sis_partition) l6 c6 k6
  have B6 := P6.binds (ps := ["pieces", "value"]) fun _ _ _ _ _ _ us hl => match us, hl with | [_, _], _ => rfl
  have P7 := fun_mk (st := slaw) l7 c7 k7
  refine ⟨PySem.W.fnOf "law" "law" (defArgs slaw) (defBody slaw) (defScope slaw) .none kv7 dc7 pm7 an7 cd7 ct7, fun s v => .of_eq rfl, fun base hb1 hb2 => ?_⟩
  have D1 : Def l.prog w ⟨K, CA⟩ mg base 1 "_law_draw" 2 F_law_draw := ⟨_, _, _, ok_law_draw P1 T, PySem.W.mg_of X N a1, k1, B1⟩
  have D2 : Def l.prog w ⟨K, CA⟩ mg base 2 "_law_bent" 2 F_law_bent := ⟨_, _, _, ok_law_bent P2 T D1, PySem.W.mg_of X N a2, k2, B2⟩
  have D3 : Def l.prog w ⟨K, CA⟩ mg base 1 "_law_is_right" 2 F_law_is_right := ⟨_, _, _, ok_law_is_right P3 T, PySem.W.mg_of X N a3, k3, B3⟩
  have D4 : Def l.prog w ⟨K, CA⟩ mg base 1 "_law_left" 1 F_law_left := ⟨_, _, _, ok_law_left P4 T, PySem.W.mg_of X N a4, k4, B4⟩
  have D5 : Def l.prog w ⟨K, CA⟩ mg base 1 "_law_part" 2 F_law_part := ⟨_, _, _, ok_law_part P5 T, PySem.W.mg_of X N a5, k5, B5⟩
  have D6 : Def l.prog w ⟨K, CA⟩ mg base 1 "is_partition" 2 Fis_partition := ⟨_, _, _, okis_partition P6 T, PySem.W.mg_of X N a6, k6, B6⟩
  exact oklaw P7 T D2 D1 D3 D4 D5 D6
end Law
end

section
namespace Law
open PySem L2 Z
def TX : List Str := ["m.f", "m.ab", "n.c", "m.a", "n.a1", "o.zz", "m.main", "n.b", "z.strange"]
theorem tx_lay : ∀ t ∈ TX, PyData.canLay0 (.str t) = true := by decide +kernel
theorem lay_strs : ∀ g : List Str, (∀ t ∈ g, t ∈ TX) → PyData.canLayAll0 (g.map PyData.str) = true
  | [], _ => rfl
  | t :: r, q => by simp [PyData.canLayAll0, tx_lay t (q t (by simp)), lay_strs r fun x y => q x (by simp [y])]
theorem depth_strs : ∀ g : List Str, PyData.depthAll (g.map PyData.str) ≤ 1
  | [] => by simp [PyData.depthAll]
  | t :: r => by simp [PyData.depthAll, PyData.depth]; have := depth_strs r; omega
abbrev dL (g : List Str) : PyData := .list (g.map PyData.str)
theorem shaped_strs {g : List Str} (q : ∀ t ∈ g, t ∈ TX) : SeqAt.shaped (dL g) = true := by
  have := depth_strs g
  simp [SeqAt.shaped, PyData.canLay0, lay_strs g q, PyData.depth]; omega
theorem shaped_tup {g : List Str} (q : ∀ t ∈ g, t ∈ TX) : SeqAt.shaped (.tuple (g.map PyData.str)) = true := by
  have := depth_strs g
  simp [SeqAt.shaped, PyData.canLay0, lay_strs g q, PyData.depth]; omega
theorem lay_grs : ∀ gs : List (List Str), (∀ g ∈ gs, ∀ t ∈ g, t ∈ TX) → PyData.canLayAll0 (gs.map dL) = true
  | [], _ => rfl
  | t :: r, q => by simp [PyData.canLayAll0, PyData.canLay0, lay_strs t (q t (by simp)), lay_grs r fun x y => q x (by simp [y])]
theorem depth_grs : ∀ g : List (List Str), PyData.depthAll (g.map dL) ≤ 2
  | [] => by simp [PyData.depthAll]
  | t :: r => by simp [PyData.depthAll, PyData.depth]; have := depth_grs r; have := depth_strs t; omega
theorem shaped_grs {g : List (List Str)} (q : ∀ g' ∈ g, ∀ t ∈ g', t ∈ TX) : SeqAt.shaped (.list (g.map dL)) = true := by
  have := depth_grs g
  simp [SeqAt.shaped, PyData.canLay0, lay_grs g q, PyData.depth]; omega
theorem data_of {h : EH} {v : EV} {d : PyData} (e : snap h 64 v = some d) (s : SeqAt.shaped d = true) : data h v = some d := by simp only [data, e, s, if_true]
theorem snap_ref {h : EH} {n k : Nat} {xs : List EV} (e : h[k]? = some (.lst xs)) : snap h (n + 1) (.ref k) = (snapL (snap h n) xs).map .list := by simp only [snap, e]
theorem snap_tup {h : EH} {n : Nat} {xs : List EV} : snap h (n + 1) (.tup xs) = (snapL (snap h n) xs).map .tuple := by simp only [snap]
theorem snap_str {h : EH} {n : Nat} {t : Str} : snap h (n + 1) (.str t) = some (.str t) := by simp only [snap]
theorem snapL_strs {h : EH} {n : Nat} : ∀ g : List Str, snapL (snap h (n + 1)) (g.map EV.str) = some (g.map PyData.str)
  | [] => rfl
  | t :: r => by simp only [List.map_cons, snapL, snap_str, snapL_strs r]
theorem data_lst {h : EH} {n : Nat} {g : List Str} (e : h[n]? = some (.lst (g.map EV.str))) (q : ∀ t ∈ g, t ∈ TX) : data h (.ref n) = some (dL g) := by
  exact data_of ((snap_ref (n := 63) e).trans (by rw [snapL_strs (n := 62)]; rfl)) (shaped_strs q)
theorem data_tup {h : EH} {g : List Str} (q : ∀ t ∈ g, t ∈ TX) : data h (.tup (g.map EV.str)) = some (.tuple (g.map PyData.str)) := by
  exact data_of ((snap_tup (n := 63)).trans (by rw [snapL_strs (n := 62)]; rfl)) (shaped_tup q)
theorem eqv_strs : ∀ a b : List Str, PyData.eqvAll (a.map PyData.str) (b.map PyData.str) = decide (a = b)
  | [], [] => by simp [PyData.eqvAll]
  | [], _ :: _ => by simp [PyData.eqvAll]
  | _ :: _, [] => by simp [PyData.eqvAll]
  | x :: a, y :: b => by
    simp only [PyData.eqvAll, List.map_cons, PyData.eqv, eqv_strs a b]
    by_cases e : x = y <;> by_cases e' : a = b <;> simp [e, e']
theorem eqv_dL (a b : List Str) : PyData.eqv (dL a) (dL b) = decide (a = b) := by simp only [PyData.eqv, eqv_strs]
theorem eqv_grs : ∀ a b : List (List Str), PyData.eqvAll (a.map dL) (b.map dL) = decide (a = b)
  | [], [] => by simp [PyData.eqvAll]
  | [], _ :: _ => by simp [PyData.eqvAll]
  | _ :: _, [] => by simp [PyData.eqvAll]
  | x :: a, y :: b => by
    simp only [PyData.eqvAll, List.map_cons, eqv_dL, eqv_grs a b]
    by_cases e : x = y <;> by_cases e' : a = b <;> simp [e, e']
/-! ### groups -/
def Gd (l : Nat) (h : EH) (v : EV) (g : List Str) : Prop := ∃ m, v = .ref m ∧ m ≠ l ∧ h[m]? = some (.lst (g.map EV.str)) ∧ ∀ t ∈ g, t ∈ TX
def Gs (l : Nat) (h : EH) : List EV → List (List Str) → Prop
  | [], [] => True
  | v :: vs, g :: gs => Gd l h v g ∧ Gs l h vs gs
  | _, _ => False
theorem Gd.keep {l : Nat} {h h' : EH} {v : EV} {g : List Str} (a : Gd l h v g) (k : Keep l h h') : Gd l h' v g := by
  obtain ⟨m, e, d, q, t⟩ := a; exact ⟨m, e, d, k.get q d, t⟩
theorem Gs.keep {l : Nat} {h h' : EH} (k : Keep l h h') : ∀ {vs : List EV} {gs : List (List Str)}, Gs l h vs gs → Gs l h' vs gs
  | [], [], _ => trivial
  | v :: vs, g :: gs, a => ⟨a.1.keep k, Gs.keep k a.2⟩
theorem Gs.app {l : Nat} {h : EH} : ∀ {vs vs' : List EV} {gs gs' : List (List Str)}, Gs l h vs gs → Gs l h vs' gs' → Gs l h (vs ++ vs') (gs ++ gs')
  | [], _, [], _, _, b => b
  | v :: vs, _, g :: gs, _, a, b => ⟨a.1, Gs.app a.2 b⟩
theorem Gs.take {l : Nat} {h : EH} : ∀ {vs : List EV} {gs : List (List Str)} (n : Nat), Gs l h vs gs → Gs l h (vs.take n) (gs.take n)
  | _, _, 0, _ => by simp [Gs]
  | [], [], n + 1, _ => by simp [Gs]
  | v :: vs, g :: gs, n + 1, a => ⟨a.1, Gs.take n a.2⟩
theorem Gs.drop {l : Nat} {h : EH} : ∀ {vs : List EV} {gs : List (List Str)} (n : Nat), Gs l h vs gs → Gs l h (vs.drop n) (gs.drop n)
  | _, _, 0, a => by simpa using a
  | [], [], n + 1, _ => by simp [Gs]
  | v :: vs, g :: gs, n + 1, a => Gs.drop n a.2
theorem Gs.len {l : Nat} {h : EH} : ∀ {vs : List EV} {gs : List (List Str)}, Gs l h vs gs → vs.length = gs.length
  | [], [], _ => rfl
  | v :: vs, g :: gs, a => by simp [Gs.len a.2]
theorem Gs.get {l : Nat} {h : EH} : ∀ {vs : List EV} {gs : List (List Str)} {i : Nat} {v : EV}, Gs l h vs gs → vs[i]? = some v → ∃ g, gs[i]? = some g ∧ Gd l h v g
  | v :: vs, g :: gs, 0, w, a, e => by simp at e; subst e; exact ⟨g, rfl, a.1⟩
  | v :: vs, g :: gs, i + 1, w, a, e => by simpa using Gs.get (i := i) a.2 (by simpa using e)
theorem Gs.tx {l : Nat} {h : EH} : ∀ {vs : List EV} {gs : List (List Str)}, Gs l h vs gs → ∀ g ∈ gs, ∀ t ∈ g, t ∈ TX
  | [], [], _ => by simp
  | v :: vs, g :: gs, a => by
    obtain ⟨m, _, _, _, t⟩ := a.1
    intro g' hg
    rcases List.mem_cons.mp hg with rfl | hg
    · exact t
    · exact Gs.tx a.2 g' hg
theorem snapL_grs {l : Nat} {h : EH} {n : Nat} : ∀ {vs : List EV} {gs : List (List Str)}, Gs l h vs gs → snapL (snap h (n + 2)) vs = some (gs.map dL)
  | [], [], _ => rfl
  | v :: vs, g :: gs, a => by
    obtain ⟨m, rfl, _, e, t⟩ := a.1
    simp only [snapL, snapL_grs a.2, snap_ref e, snapL_strs, Option.map_some, List.map_cons]
/-- an object that is a list of groups -/
def Gr (l : Nat) (h : EH) (v : EV) (gs : List (List Str)) : Prop := ∃ n vs, v = .ref n ∧ n ≠ l ∧ h[n]? = some (.lst vs) ∧ Gs l h vs gs
theorem Gr.keep {l : Nat} {h h' : EH} {v : EV} {gs : List (List Str)} (a : Gr l h v gs) (k : Keep l h h') : Gr l h' v gs := by
  obtain ⟨n, vs, e, d, q, t⟩ := a; exact ⟨n, vs, e, d, k.get q d, t.keep k⟩
theorem data_gr {l : Nat} {h : EH} {v : EV} {gs : List (List Str)} (a : Gr l h v gs) : data h v = some (.list (gs.map dL)) := by
  obtain ⟨n, vs, rfl, d, q, t⟩ := a
  exact data_of ((snap_ref (n := 63) q).trans (by rw [snapL_grs (n := 61) t]; rfl)) (shaped_grs t.tx)
def tot (gs : List (List Str)) : Nat := gs.flatten.length
theorem tot_app (a b : List (List Str)) : tot (a ++ b) = tot a + tot b := by simp [tot]
theorem tot_split (gs : List (List Str)) (n : Nat) : tot gs = tot (gs.take n) + tot (gs.drop n) := by rw [← tot_app, List.take_append_drop]
theorem cut_to {α : Type} {xs : List α} {i : Int} (h0 : 0 ≤ i) : cutE xs none (some i) = xs.take i.toNat := by
  obtain ⟨k, rfl⟩ := Int.eq_ofNat_of_zero_le h0
  simp only [cutE, HT.sIx_none, HT.sIx_nat, Nat.sub_zero, List.drop_zero, Int.toNat_natCast]
  by_cases q : k ≤ xs.length
  · rw [Nat.min_eq_left q]
  · rw [Nat.min_eq_right (by omega), List.take_of_length_le (Nat.le_refl _), List.take_of_length_le (by omega)]
theorem cut_from {α : Type} {xs : List α} {i : Int} (h0 : 0 ≤ i) : cutE xs (some i) none = xs.drop i.toNat := by
  obtain ⟨k, rfl⟩ := Int.eq_ofNat_of_zero_le h0
  simp only [cutE, HT.sIx_none, HT.sIx_nat, Int.toNat_natCast]
  by_cases q : k ≤ xs.length
  · rw [Nat.min_eq_left q, List.take_of_length_le (by simp)]
  · rw [Nat.min_eq_right (by omega), List.drop_eq_nil_of_le (Nat.le_refl _), List.drop_eq_nil_of_le (by omega)]; simp
end Law
end

section
set_option maxHeartbeats 1000000
namespace Law
open PySem L2 Z
theorem draw {l : Nat} {h : EH} (L : Left l h) {m : Int} (h0 : 0 < m) (h1 : m < 1073741824) : ∃ (i : Int) (h' : EH), F_law_draw [.ref l, .int m] h = .ok (.int i) h' ∧ 0 ≤ i ∧ i < m ∧ Keep l h h' := draw_ok L h0 h1
theorem Gr.mk {l : Nat} {h h' : EH} {vs : List EV} {gs : List (List Str)} {t : List EO} {k : Nat} (hh : h' = h ++ t) (hl : l < h.length) (e : t[k]? = some (.lst vs)) (g : Gs l h' vs gs) : Gr l h' (.ref (h.length + k)) gs :=
  ⟨_, vs, rfl, by omega, by rw [hh, List.getElem?_append_right (by omega)]; simpa using e, g⟩
theorem Gd.mk {l : Nat} {h h' : EH} {g : List Str} {t : List EO} {k : Nat} (hh : h' = h ++ t) (hl : l < h.length) (e : t[k]? = some (.lst (g.map EV.str))) (q : ∀ x ∈ g, x ∈ TX) : Gd l h' (.ref (h.length + k)) g :=
  ⟨_, rfl, by omega, by rw [hh, List.getElem?_append_right (by omega)]; simpa using e, q⟩
theorem Gs.one {l : Nat} {h : EH} {v : EV} {g : List Str} (a : Gd l h v g) : Gs l h [v] [g] := ⟨a, trivial⟩
def BP (l : Nat) (h : EH) (gs : List (List Str)) : EV → EH → Prop := fun v' h' => Keep l h h' ∧ ∃ gs', Gr l h' v' gs' ∧ tot gs' ≤ 2 * tot gs + 1 ∧ gs'.length ≤ 2 * gs.length + 2
theorem bent_ok {l : Nat} {h : EH} {v : EV} {gs : List (List Str)} (L : Left l h) (G : Gr l h v gs) (h1 : gs.length ≤ 1000) (h2 : tot gs ≤ 1000) : ROk (F_law_bent [.ref l, v] h) (BP l h gs) := by
  refine ok_fn ?_
  unfold b_law_bent
  obtain ⟨way, ha, e1, w0, w1, k1⟩ := draw L (m := 9) (by decide) (by decide)
  obtain ⟨n, vs, rfl, d, en, Gv⟩ := G.keep k1
  have lv := Gv.len
  obtain ⟨spot, hb, e2, s0, s1, k2⟩ := draw (k1.left L) (m := if (vs.length : Int) > 1 then (vs.length : Int) else 1) (by split <;> omega) (by split <;> omega)
  have en2 := k2.get en d
  have Gv2 := Gv.keep k2
  have K2 := k1.trans k2
  have hl := (K2.left L).lt
  refine fs_seq (fs_set ?_)
  simp [eFn_a, aCons_a, aNil_a, eVar_a, eC_a, eOp_a, eUn_a, eCall_a, eNew_a, lLst_a, eTup_a, tVal_a, eSl_a, pNone_a, pSome_a, eSeq_a, eSeqL_a, lSeq_a, lSeqL_a, lRev_a, iVal_a, eAppend_a, eExtend_a, eExtendL_a, eDict0_a, startE, R.bind_ok, R.fl_ok, R.lift_some, R.opt_some, opAdd, opIx, opSl, intOf, fLenA, fMax2, fTuple, fList, seqOf, Z.listOf, itOf, boolOf, e1]
  refine fs_seq (fs_set ?_)
  simp [eFn_a, aCons_a, aNil_a, eVar_a, eC_a, eOp_a, eUn_a, eCall_a, eNew_a, lLst_a, eTup_a, tVal_a, eSl_a, pNone_a, pSome_a, eSeq_a, eSeqL_a, lSeq_a, lSeqL_a, lRev_a, iVal_a, eAppend_a, eExtend_a, eExtendL_a, eDict0_a, startE, R.bind_ok, R.fl_ok, R.lift_some, R.opt_some, opAdd, opIx, opSl, intOf, fLenA, fMax2, fTuple, fList, seqOf, Z.listOf, itOf, boolOf, en, e2]
  clear e1 e2 k1 k2 en Gv
  have dg : ∀ t, data (hb ++ t) (.ref n) = some (.list (gs.map dL)) := fun t => data_gr ⟨n, vs, rfl, d, by rw [List.getElem?_append_left (lt_of_get en2)]; exact en2, Gv2.keep (Keep.app _ hl)⟩
  have dn : data (hb ++ [.lst []]) (.ref (List.length hb)) = some (.list ([].map dL)) := data_of ((snap_ref (n := 63) (xs := []) (by simp)).trans rfl) rfl
  have K3 : Keep l h (hb ++ [.lst []]) := K2.trans (Keep.app _ hl)
  have en3 : ∀ t, (hb ++ [.lst []] ++ t)[n]? = some (.lst vs) := fun t => by rw [List.append_assoc, List.getElem?_append_left (lt_of_get en2)]; exact en2
  have Gv3 := Gv2.keep (Keep.app [.lst []] hl)
  have hq : ∃ hX, hX = hb ++ [.lst []] := ⟨_, rfl⟩
  refine fs_seq (fs_if ?_)
  have tst : tOr' (tVal (eOp opEq (eVar 1) (eNew (lLst aNil)))) (tVal (eOp opEq (eVar 2) (eC (.int 0)))) [some (EV.ref l), some (EV.ref n), some (EV.int way), some (EV.int spot), none, none, none, none] hb = .ok (decide (gs = [] ∨ way = 0)) (hb ++ [.lst []]) := by
    by_cases q : gs = []
    · simp [tOr', tVal, eOp, eVar, eNew, lLst, aNil, R.bind, opEq, R.lift, dg, dn, q, PyData.eqv, PyData.eqvAll, boolOf]
    · have qq : PyData.eqv (.list (gs.map dL)) (.list ([].map dL)) = false := by simp only [PyData.eqv, eqv_grs]; simp [q]
      simp only [List.map_nil] at qq
      simp [tOr', tVal, eOp, eVar, eC, eNew, lLst, aNil, R.bind, opEq, R.lift, dg, dn, q, qq, boolOf, data_int, eqv_int]
  rw [tst]
  obtain ⟨hX, eX⟩ := hq
  rw [← eX] at K3 en3 Gv3 ⊢
  have en0 : hX[n]? = some (.lst vs) := by simpa using en3 []
  clear eX tst dn dg K2 hl en2 Gv2
  have hl := (K3.left L).lt
  have hn3 := lt_of_get en0
  simp only [ROk_ok]
  by_cases q0 : gs = [] ∨ way = 0
  · simp only [q0, decide_true, if_true]
    refine fs_ret ?_
    have q1 : vs.length + 1 ≤ 100000 := by omega
    simp [eFn_a, aCons_a, aNil_a, eVar_a, eC_a, eOp_a, eUn_a, eCall_a, eNew_a, lLst_a, eTup_a, tVal_a, eSl_a, pNone_a, pSome_a, eSeq_a, eSeqL_a, lSeq_a, lSeqL_a, lRev_a, iVal_a, eAppend_a, eExtend_a, eExtendL_a, eDict0_a, startE, R.bind_ok, R.fl_ok, R.lift_some, R.opt_some, opAdd, opIx, opSl, intOf, fLenA, fMax2, fTuple, fList, seqOf, Z.listOf, itOf, boolOf, en3, q1, en0]
    refine ⟨K3.trans (Keep.app _ hl), gs ++ [[]], Gr.mk rfl hl (k := 2) rfl (Gs.app (Gv3.keep (Keep.app _ hl)) (Gs.one (Gd.mk (k := 0) rfl hl rfl (by simp)))), ?_, ?_⟩
    · simp [tot]; omega
    · simp; omega
  have nz : gs ≠ [] := fun z => q0 (.inl z)
  have wz : way ≠ 0 := fun z => q0 (.inr z)
  have gp : 0 < gs.length := List.length_pos_iff.mpr nz
  have sl : spot < (vs.length : Int) := by split at s1 <;> omega
  obtain ⟨p, rfl⟩ := Int.eq_ofNat_of_zero_le s0
  have hp : p < vs.length := by omega
  obtain ⟨g, eg, m, em, dm, lm, tm⟩ := Gv3.get (List.getElem?_eq_getElem hp)
  have ap : atI vs (p : Int) = some (.ref m) := by rw [atI_int (by omega) (by omega)]; simp only [Int.toNat_natCast]; rw [List.getElem?_eq_getElem hp, em]
  have cto : cutE vs none (some (p : Int)) = vs.take p := by rw [cut_to (by omega)]; simp
  have cfr : cutE vs (some (p : Int)) none = vs.drop p := by rw [cut_from (by omega)]; simp
  have cfr1 : cutE vs (some ((p : Int) + 1)) none = vs.drop (p + 1) := by rw [cut_from (by omega)]; congr 1
  have lm3 : ∀ t, (hX ++ t)[m]? = some (.lst (g.map EV.str)) := fun t => by rw [List.getElem?_append_left (lt_of_get lm)]; exact lm
  have g1 : cutE (g.map EV.str) (some 1) none = (g.drop 1).map EV.str := by rw [cut_from (by omega)]; simp
  have g2 : cutE (g.map EV.str) none (some 1) = (g.take 1).map EV.str := by rw [cut_to (by omega)]; simp
  have gs3 : gs = gs.take p ++ g :: gs.drop (p + 1) := by
    have := List.getElem?_eq_some_iff.mp eg
    obtain ⟨hp', e⟩ := this
    rw [← e, ← List.drop_eq_getElem_cons hp', List.take_append_drop]
  have tt : tot gs = tot (gs.take p) + g.length + tot (gs.drop (p + 1)) := by
    conv => lhs; rw [gs3]
    simp [tot]; omega
  have gl : gs.length = (gs.take p).length + 1 + (gs.drop (p + 1)).length := by
    conv => lhs; rw [gs3]
    simp; omega
  have lt1 : (vs.take p).length ≤ 1000 := by simp; omega
  have lt2 : (vs.drop (p + 1)).length ≤ 1000 := by simp; omega
  have lt3 : (vs.drop p).length ≤ 1000 := by simp; omega
  have lg : g.length ≤ 1000 := by omega
  obtain ⟨gd, egd⟩ : ∃ x, x = g.drop 1 := ⟨_, rfl⟩
  obtain ⟨gt, egt⟩ : ∃ x, x = g.take 1 := ⟨_, rfl⟩
  have dx : ∀ x ∈ gd, x ∈ TX := fun x q => tm x (List.mem_of_mem_drop (by rw [← egd]; exact q))
  have tx : ∀ x ∈ gt, x ∈ TX := fun x q => tm x (List.mem_of_mem_take (by rw [← egt]; exact q))
  have gtd : gt.length + gd.length = g.length := by rw [egd, egt]; simp; omega
  have gt1 : gt.length ≤ 1 := by rw [egt]; simp; omega
  rw [← egd] at g1
  rw [← egt] at g2
  have Tk := fun t => Gs.take p (Gv3.keep (Keep.app t hl))
  have Dr := fun t => Gs.drop (p + 1) (Gv3.keep (Keep.app t hl))
  have Kp := fun t => K3.trans (Keep.app t hl)
  have lt1' : min p vs.length ≤ 1000 := by omega
  have lt2' : vs.length - (p + 1) ≤ 1000 := by omega
  have Gd3 : Gd l hX (.ref m) g := ⟨m, rfl, dm, lm, tm⟩
  simp only [q0, decide_false, Bool.false_eq_true, if_false]
  refine fs_nil ?_
  rcases (by omega : way = 1 ∨ way = 2 ∨ way = 3 ∨ way = 4 ∨ way = 5 ∨ way = 6 ∨ way = 7 ∨ way = 8) with rfl | rfl | rfl | rfl | rfl | rfl | rfl | rfl
  · refine fs_seq (fs_if ?_)
    simp [eFn_a, aCons_a, aNil_a, eVar_a, eC_a, eOp_a, eUn_a, eCall_a, eNew_a, lLst_a, eTup_a, tVal_a, eSl_a, pNone_a, pSome_a, eSeq_a, eSeqL_a, lSeq_a, lSeqL_a, lRev_a, iVal_a, eAppend_a, eExtend_a, eExtendL_a, eDict0_a, startE, R.bind_ok, R.fl_ok, R.lift_some, R.opt_some, opAdd, opIx, opSl, intOf, fLenA, fMax2, fTuple, fList, seqOf, Z.listOf, itOf, boolOf, opEq, data_int, eqv_int, sNil_a]
    refine fs_ret ?_
    have q1 : vs.length - p + min p vs.length ≤ 100000 := by omega
    simp [eFn_a, aCons_a, aNil_a, eVar_a, eC_a, eOp_a, eUn_a, eCall_a, eNew_a, lLst_a, eTup_a, tVal_a, eSl_a, pNone_a, pSome_a, eSeq_a, eSeqL_a, lSeq_a, lSeqL_a, lRev_a, iVal_a, eAppend_a, eExtend_a, eExtendL_a, eDict0_a, startE, R.bind_ok, R.fl_ok, R.lift_some, R.opt_some, opAdd, opIx, opSl, intOf, fLenA, fMax2, fTuple, fList, seqOf, Z.listOf, itOf, boolOf, en3, en0, cto, cfr, q1]
    refine ⟨K3.trans (Keep.app _ hl), gs.drop p ++ gs.take p, Gr.mk rfl hl (k := 2) rfl (Gs.app (Gs.drop p (Gv3.keep (Keep.app _ hl))) (Gs.take p (Gv3.keep (Keep.app _ hl)))), ?_, ?_⟩
    · have := tot_split gs p; rw [tot_app]; omega
    · simp; omega
  · refine fs_seq (fs_if ?_)
    simp [eFn_a, aCons_a, aNil_a, eVar_a, eC_a, eOp_a, eUn_a, eCall_a, eNew_a, lLst_a, eTup_a, tVal_a, eSl_a, pNone_a, pSome_a, eSeq_a, eSeqL_a, lSeq_a, lSeqL_a, lRev_a, iVal_a, eAppend_a, eExtend_a, eExtendL_a, eDict0_a, startE, R.bind_ok, R.fl_ok, R.lift_some, R.opt_some, opAdd, opIx, opSl, intOf, fLenA, fMax2, fTuple, fList, seqOf, Z.listOf, itOf, boolOf, opEq, data_int, eqv_int, sNil_a]
    refine fs_seq (fs_if ?_)
    simp [eFn_a, aCons_a, aNil_a, eVar_a, eC_a, eOp_a, eUn_a, eCall_a, eNew_a, lLst_a, eTup_a, tVal_a, eSl_a, pNone_a, pSome_a, eSeq_a, eSeqL_a, lSeq_a, lSeqL_a, lRev_a, iVal_a, eAppend_a, eExtend_a, eExtendL_a, eDict0_a, startE, R.bind_ok, R.fl_ok, R.lift_some, R.opt_some, opAdd, opIx, opSl, intOf, fLenA, fMax2, fTuple, fList, seqOf, Z.listOf, itOf, boolOf, opEq, data_int, eqv_int, sNil_a]
    refine fs_ret ?_
    rw [eNew_a]
    refine ok_bind (ok_lc (ys := vs) (h1 := hX) (it := .obj n) (fun rest acc h' => h'[n]? = some (.lst vs) ∧ Keep l h h' ∧ ∃ a b, gs = a ++ b ∧ Gs l h' rest b ∧ Gs l h' acc (a.map List.reverse)) ?_ (.inr ⟨n, rfl, by omega, fun _ _ _ q => q.1⟩) ⟨en0, K3, [], gs, rfl, Gv3, trivial⟩ ?_ ?_)
    · simp [eFn_a, aCons_a, aNil_a, eVar_a, eC_a, eOp_a, eUn_a, eCall_a, eNew_a, lLst_a, eTup_a, tVal_a, eSl_a, pNone_a, pSome_a, eSeq_a, eSeqL_a, lSeq_a, lSeqL_a, lRev_a, iVal_a, eAppend_a, eExtend_a, eExtendL_a, eDict0_a, startE, R.bind_ok, R.fl_ok, R.lift_some, R.opt_some, opAdd, opIx, opSl, intOf, fLenA, fMax2, fTuple, fList, seqOf, Z.listOf, itOf, boolOf, en0]
    · intro x r acc h' q
      obtain ⟨n1, Kh, a, b, ab, r1, r2⟩ := q
      refine ⟨_, rfl, ok_step ?_ ?_⟩
      · have := r2.len; simp at this; have := congrArg List.length ab; simp at this; omega
      · cases b with
        | nil => exact r1.elim
        | cons gx b =>
          obtain ⟨⟨mx, rfl, dmx, emx, tmx⟩, r1⟩ := r1
          have hl' := (Kh.left L).lt
          have nl' := lt_of_get n1
          simp [eFn_a, aCons_a, aNil_a, eVar_a, eC_a, eOp_a, eUn_a, eCall_a, eNew_a, lLst_a, eTup_a, tVal_a, eSl_a, pNone_a, pSome_a, eSeq_a, eSeqL_a, lSeq_a, lSeqL_a, lRev_a, iVal_a, eAppend_a, eExtend_a, eExtendL_a, eDict0_a, startE, R.bind_ok, R.fl_ok, R.lift_some, R.opt_some, opAdd, opIx, opSl, intOf, fLenA, fMax2, fTuple, fList, seqOf, Z.listOf, itOf, boolOf, emx, wipeE]
          refine ⟨by rw [List.getElem?_append_left nl']; exact n1, Kh.trans (Keep.app _ hl'), a ++ [gx], b, by simp [ab], r1.keep (Keep.app _ hl'), ?_⟩
          rw [List.map_append]
          exact Gs.app (r2.keep (Keep.app _ hl')) ⟨Gd.mk (k := 0) rfl hl' (by simp) (fun x q => tmx x (by simpa using q)), trivial⟩
    · intro acc h' q
      obtain ⟨n1, Kh, a, b, ab, r1, r2⟩ := q
      cases b with
      | cons _ _ => exact r1.elim
      | nil =>
        have hl' := (Kh.left L).lt
        simp only [List.append_nil] at ab
        subst ab
        have tr : tot (gs.map List.reverse) = tot gs := by simp [tot, List.length_flatten, Function.comp_def]
        exact ⟨Kh.trans (Keep.app _ hl'), gs.map List.reverse, Gr.mk rfl hl' (k := 0) rfl (r2.keep (Keep.app _ hl')), by omega, by simp; omega⟩
  · refine fs_seq (fs_if ?_)
    simp [eFn_a, aCons_a, aNil_a, eVar_a, eC_a, eOp_a, eUn_a, eCall_a, eNew_a, lLst_a, eTup_a, tVal_a, eSl_a, pNone_a, pSome_a, eSeq_a, eSeqL_a, lSeq_a, lSeqL_a, lRev_a, iVal_a, eAppend_a, eExtend_a, eExtendL_a, eDict0_a, startE, R.bind_ok, R.fl_ok, R.lift_some, R.opt_some, opAdd, opIx, opSl, intOf, fLenA, fMax2, fTuple, fList, seqOf, Z.listOf, itOf, boolOf, opEq, data_int, eqv_int, sNil_a]
    refine fs_seq (fs_if ?_)
    simp [eFn_a, aCons_a, aNil_a, eVar_a, eC_a, eOp_a, eUn_a, eCall_a, eNew_a, lLst_a, eTup_a, tVal_a, eSl_a, pNone_a, pSome_a, eSeq_a, eSeqL_a, lSeq_a, lSeqL_a, lRev_a, iVal_a, eAppend_a, eExtend_a, eExtendL_a, eDict0_a, startE, R.bind_ok, R.fl_ok, R.lift_some, R.opt_some, opAdd, opIx, opSl, intOf, fLenA, fMax2, fTuple, fList, seqOf, Z.listOf, itOf, boolOf, opEq, data_int, eqv_int, sNil_a]
    refine fs_seq (fs_if ?_)
    simp [eFn_a, aCons_a, aNil_a, eVar_a, eC_a, eOp_a, eUn_a, eCall_a, eNew_a, lLst_a, eTup_a, tVal_a, eSl_a, pNone_a, pSome_a, eSeq_a, eSeqL_a, lSeq_a, lSeqL_a, lRev_a, iVal_a, eAppend_a, eExtend_a, eExtendL_a, eDict0_a, startE, R.bind_ok, R.fl_ok, R.lift_some, R.opt_some, opAdd, opIx, opSl, intOf, fLenA, fMax2, fTuple, fList, seqOf, Z.listOf, itOf, boolOf, opEq, data_int, eqv_int, sNil_a]
    refine fs_ret ?_
    have q1 : min p vs.length + 1 ≤ 100000 := by omega
    have q2 : min p vs.length + 1 + (vs.length - (p + 1)) ≤ 100000 := by omega
    simp [eFn_a, aCons_a, aNil_a, eVar_a, eC_a, eOp_a, eUn_a, eCall_a, eNew_a, lLst_a, eTup_a, tVal_a, eSl_a, pNone_a, pSome_a, eSeq_a, eSeqL_a, lSeq_a, lSeqL_a, lRev_a, iVal_a, eAppend_a, eExtend_a, eExtendL_a, eDict0_a, startE, R.bind_ok, R.fl_ok, R.lift_some, R.opt_some, opAdd, opIx, opSl, intOf, fLenA, fMax2, fTuple, fList, seqOf, Z.listOf, itOf, boolOf, en3, en0, ap, lm, lm3, cto, cfr1, g1, q1, q2]
    refine ⟨Kp _, gs.take p ++ gd :: gs.drop (p + 1), Gr.mk rfl hl (k := 5) rfl (Gs.app (Tk _) ⟨Gd.mk (k := 1) rfl hl rfl dx, Dr _⟩), ?_, ?_⟩
    · simp [tot] at tt ⊢; omega
    · simp at gl ⊢; omega
  · refine fs_seq (fs_if ?_)
    simp [eFn_a, aCons_a, aNil_a, eVar_a, eC_a, eOp_a, eUn_a, eCall_a, eNew_a, lLst_a, eTup_a, tVal_a, eSl_a, pNone_a, pSome_a, eSeq_a, eSeqL_a, lSeq_a, lSeqL_a, lRev_a, iVal_a, eAppend_a, eExtend_a, eExtendL_a, eDict0_a, startE, R.bind_ok, R.fl_ok, R.lift_some, R.opt_some, opAdd, opIx, opSl, intOf, fLenA, fMax2, fTuple, fList, seqOf, Z.listOf, itOf, boolOf, opEq, data_int, eqv_int, sNil_a]
    refine fs_seq (fs_if ?_)
    simp [eFn_a, aCons_a, aNil_a, eVar_a, eC_a, eOp_a, eUn_a, eCall_a, eNew_a, lLst_a, eTup_a, tVal_a, eSl_a, pNone_a, pSome_a, eSeq_a, eSeqL_a, lSeq_a, lSeqL_a, lRev_a, iVal_a, eAppend_a, eExtend_a, eExtendL_a, eDict0_a, startE, R.bind_ok, R.fl_ok, R.lift_some, R.opt_some, opAdd, opIx, opSl, intOf, fLenA, fMax2, fTuple, fList, seqOf, Z.listOf, itOf, boolOf, opEq, data_int, eqv_int, sNil_a]
    refine fs_seq (fs_if ?_)
    simp [eFn_a, aCons_a, aNil_a, eVar_a, eC_a, eOp_a, eUn_a, eCall_a, eNew_a, lLst_a, eTup_a, tVal_a, eSl_a, pNone_a, pSome_a, eSeq_a, eSeqL_a, lSeq_a, lSeqL_a, lRev_a, iVal_a, eAppend_a, eExtend_a, eExtendL_a, eDict0_a, startE, R.bind_ok, R.fl_ok, R.lift_some, R.opt_some, opAdd, opIx, opSl, intOf, fLenA, fMax2, fTuple, fList, seqOf, Z.listOf, itOf, boolOf, opEq, data_int, eqv_int, sNil_a]
    refine fs_seq (fs_if ?_)
    simp [eFn_a, aCons_a, aNil_a, eVar_a, eC_a, eOp_a, eUn_a, eCall_a, eNew_a, lLst_a, eTup_a, tVal_a, eSl_a, pNone_a, pSome_a, eSeq_a, eSeqL_a, lSeq_a, lSeqL_a, lRev_a, iVal_a, eAppend_a, eExtend_a, eExtendL_a, eDict0_a, startE, R.bind_ok, R.fl_ok, R.lift_some, R.opt_some, opAdd, opIx, opSl, intOf, fLenA, fMax2, fTuple, fList, seqOf, Z.listOf, itOf, boolOf, opEq, data_int, eqv_int, sNil_a]
    refine fs_seq (fs_set ?_)
    have q0 : g.length + gt.length ≤ 100000 := by omega
    simp [eFn_a, aCons_a, aNil_a, eVar_a, eC_a, eOp_a, eUn_a, eCall_a, eNew_a, lLst_a, eTup_a, tVal_a, eSl_a, pNone_a, pSome_a, eSeq_a, eSeqL_a, lSeq_a, lSeqL_a, lRev_a, iVal_a, eAppend_a, eExtend_a, eExtendL_a, eDict0_a, startE, R.bind_ok, R.fl_ok, R.lift_some, R.opt_some, opAdd, opIx, opSl, intOf, fLenA, fMax2, fTuple, fList, seqOf, Z.listOf, itOf, boolOf, en3, en0, ap, lm, lm3, cto, cfr1, g1, g2, q0]
    refine fs_ret ?_
    have q1 : min p vs.length + 1 ≤ 100000 := by omega
    have q2 : min p vs.length + 1 + (vs.length - (p + 1)) ≤ 100000 := by omega
    simp [eFn_a, aCons_a, aNil_a, eVar_a, eC_a, eOp_a, eUn_a, eCall_a, eNew_a, lLst_a, eTup_a, tVal_a, eSl_a, pNone_a, pSome_a, eSeq_a, eSeqL_a, lSeq_a, lSeqL_a, lRev_a, iVal_a, eAppend_a, eExtend_a, eExtendL_a, eDict0_a, startE, R.bind_ok, R.fl_ok, R.lift_some, R.opt_some, opAdd, opIx, opSl, intOf, fLenA, fMax2, fTuple, fList, seqOf, Z.listOf, itOf, boolOf, en3, en0, ap, lm, lm3, cto, cfr1, g1, g2, q1, q2]
    refine ⟨Kp _, gs.take p ++ (g ++ gt) :: gs.drop (p + 1), Gr.mk rfl hl (k := 6) rfl (Gs.app (Tk _) ⟨Gd.mk (k := 1) rfl hl (by simp) (fun x q => (List.mem_append.mp q).elim (tm x) (tx x)), Dr _⟩), ?_, ?_⟩
    · simp [tot] at tt ⊢; omega
    · simp at gl ⊢; omega
  · refine fs_seq (fs_if ?_)
    simp [eFn_a, aCons_a, aNil_a, eVar_a, eC_a, eOp_a, eUn_a, eCall_a, eNew_a, lLst_a, eTup_a, tVal_a, eSl_a, pNone_a, pSome_a, eSeq_a, eSeqL_a, lSeq_a, lSeqL_a, lRev_a, iVal_a, eAppend_a, eExtend_a, eExtendL_a, eDict0_a, startE, R.bind_ok, R.fl_ok, R.lift_some, R.opt_some, opAdd, opIx, opSl, intOf, fLenA, fMax2, fTuple, fList, seqOf, Z.listOf, itOf, boolOf, opEq, data_int, eqv_int, sNil_a]
    refine fs_seq (fs_if ?_)
    simp [eFn_a, aCons_a, aNil_a, eVar_a, eC_a, eOp_a, eUn_a, eCall_a, eNew_a, lLst_a, eTup_a, tVal_a, eSl_a, pNone_a, pSome_a, eSeq_a, eSeqL_a, lSeq_a, lSeqL_a, lRev_a, iVal_a, eAppend_a, eExtend_a, eExtendL_a, eDict0_a, startE, R.bind_ok, R.fl_ok, R.lift_some, R.opt_some, opAdd, opIx, opSl, intOf, fLenA, fMax2, fTuple, fList, seqOf, Z.listOf, itOf, boolOf, opEq, data_int, eqv_int, sNil_a]
    refine fs_seq (fs_if ?_)
    simp [eFn_a, aCons_a, aNil_a, eVar_a, eC_a, eOp_a, eUn_a, eCall_a, eNew_a, lLst_a, eTup_a, tVal_a, eSl_a, pNone_a, pSome_a, eSeq_a, eSeqL_a, lSeq_a, lSeqL_a, lRev_a, iVal_a, eAppend_a, eExtend_a, eExtendL_a, eDict0_a, startE, R.bind_ok, R.fl_ok, R.lift_some, R.opt_some, opAdd, opIx, opSl, intOf, fLenA, fMax2, fTuple, fList, seqOf, Z.listOf, itOf, boolOf, opEq, data_int, eqv_int, sNil_a]
    refine fs_seq (fs_if ?_)
    simp [eFn_a, aCons_a, aNil_a, eVar_a, eC_a, eOp_a, eUn_a, eCall_a, eNew_a, lLst_a, eTup_a, tVal_a, eSl_a, pNone_a, pSome_a, eSeq_a, eSeqL_a, lSeq_a, lSeqL_a, lRev_a, iVal_a, eAppend_a, eExtend_a, eExtendL_a, eDict0_a, startE, R.bind_ok, R.fl_ok, R.lift_some, R.opt_some, opAdd, opIx, opSl, intOf, fLenA, fMax2, fTuple, fList, seqOf, Z.listOf, itOf, boolOf, opEq, data_int, eqv_int, sNil_a]
    refine fs_seq (fs_if ?_)
    simp [eFn_a, aCons_a, aNil_a, eVar_a, eC_a, eOp_a, eUn_a, eCall_a, eNew_a, lLst_a, eTup_a, tVal_a, eSl_a, pNone_a, pSome_a, eSeq_a, eSeqL_a, lSeq_a, lSeqL_a, lRev_a, iVal_a, eAppend_a, eExtend_a, eExtendL_a, eDict0_a, startE, R.bind_ok, R.fl_ok, R.lift_some, R.opt_some, opAdd, opIx, opSl, intOf, fLenA, fMax2, fTuple, fList, seqOf, Z.listOf, itOf, boolOf, opEq, data_int, eqv_int, sNil_a]
    refine fs_seq (fs_set ?_)
    have q0 : g.length ≤ 99999 := by omega
    simp [eFn_a, aCons_a, aNil_a, eVar_a, eC_a, eOp_a, eUn_a, eCall_a, eNew_a, lLst_a, eTup_a, tVal_a, eSl_a, pNone_a, pSome_a, eSeq_a, eSeqL_a, lSeq_a, lSeqL_a, lRev_a, iVal_a, eAppend_a, eExtend_a, eExtendL_a, eDict0_a, startE, R.bind_ok, R.fl_ok, R.lift_some, R.opt_some, opAdd, opIx, opSl, intOf, fLenA, fMax2, fTuple, fList, seqOf, Z.listOf, itOf, boolOf, en3, en0, ap, lm, lm3, cto, cfr1, g1, g2, q0]
    refine fs_ret ?_
    have q1 : min p vs.length + 1 ≤ 100000 := by omega
    have q2 : min p vs.length + 1 + (vs.length - (p + 1)) ≤ 100000 := by omega
    simp [eFn_a, aCons_a, aNil_a, eVar_a, eC_a, eOp_a, eUn_a, eCall_a, eNew_a, lLst_a, eTup_a, tVal_a, eSl_a, pNone_a, pSome_a, eSeq_a, eSeqL_a, lSeq_a, lSeqL_a, lRev_a, iVal_a, eAppend_a, eExtend_a, eExtendL_a, eDict0_a, startE, R.bind_ok, R.fl_ok, R.lift_some, R.opt_some, opAdd, opIx, opSl, intOf, fLenA, fMax2, fTuple, fList, seqOf, Z.listOf, itOf, boolOf, en3, en0, ap, lm, lm3, cto, cfr1, g1, g2, q1, q2]
    refine ⟨Kp _, gs.take p ++ (g ++ [("z.strange" : Str)]) :: gs.drop (p + 1), Gr.mk rfl hl (k := 6) rfl (Gs.app (Tk _) ⟨Gd.mk (k := 1) rfl hl (by simp) (fun x q => (List.mem_append.mp q).elim (tm x) (fun y => by rw [List.mem_singleton.mp y]; decide +kernel)), Dr _⟩), ?_, ?_⟩
    · simp [tot] at tt ⊢; omega
    · simp at gl ⊢; omega
  · refine fs_seq (fs_if ?_)
    simp [eFn_a, aCons_a, aNil_a, eVar_a, eC_a, eOp_a, eUn_a, eCall_a, eNew_a, lLst_a, eTup_a, tVal_a, eSl_a, pNone_a, pSome_a, eSeq_a, eSeqL_a, lSeq_a, lSeqL_a, lRev_a, iVal_a, eAppend_a, eExtend_a, eExtendL_a, eDict0_a, startE, R.bind_ok, R.fl_ok, R.lift_some, R.opt_some, opAdd, opIx, opSl, intOf, fLenA, fMax2, fTuple, fList, seqOf, Z.listOf, itOf, boolOf, opEq, data_int, eqv_int, sNil_a]
    refine fs_seq (fs_if ?_)
    simp [eFn_a, aCons_a, aNil_a, eVar_a, eC_a, eOp_a, eUn_a, eCall_a, eNew_a, lLst_a, eTup_a, tVal_a, eSl_a, pNone_a, pSome_a, eSeq_a, eSeqL_a, lSeq_a, lSeqL_a, lRev_a, iVal_a, eAppend_a, eExtend_a, eExtendL_a, eDict0_a, startE, R.bind_ok, R.fl_ok, R.lift_some, R.opt_some, opAdd, opIx, opSl, intOf, fLenA, fMax2, fTuple, fList, seqOf, Z.listOf, itOf, boolOf, opEq, data_int, eqv_int, sNil_a]
    refine fs_seq (fs_if ?_)
    simp [eFn_a, aCons_a, aNil_a, eVar_a, eC_a, eOp_a, eUn_a, eCall_a, eNew_a, lLst_a, eTup_a, tVal_a, eSl_a, pNone_a, pSome_a, eSeq_a, eSeqL_a, lSeq_a, lSeqL_a, lRev_a, iVal_a, eAppend_a, eExtend_a, eExtendL_a, eDict0_a, startE, R.bind_ok, R.fl_ok, R.lift_some, R.opt_some, opAdd, opIx, opSl, intOf, fLenA, fMax2, fTuple, fList, seqOf, Z.listOf, itOf, boolOf, opEq, data_int, eqv_int, sNil_a]
    refine fs_seq (fs_if ?_)
    simp [eFn_a, aCons_a, aNil_a, eVar_a, eC_a, eOp_a, eUn_a, eCall_a, eNew_a, lLst_a, eTup_a, tVal_a, eSl_a, pNone_a, pSome_a, eSeq_a, eSeqL_a, lSeq_a, lSeqL_a, lRev_a, iVal_a, eAppend_a, eExtend_a, eExtendL_a, eDict0_a, startE, R.bind_ok, R.fl_ok, R.lift_some, R.opt_some, opAdd, opIx, opSl, intOf, fLenA, fMax2, fTuple, fList, seqOf, Z.listOf, itOf, boolOf, opEq, data_int, eqv_int, sNil_a]
    refine fs_seq (fs_if ?_)
    simp [eFn_a, aCons_a, aNil_a, eVar_a, eC_a, eOp_a, eUn_a, eCall_a, eNew_a, lLst_a, eTup_a, tVal_a, eSl_a, pNone_a, pSome_a, eSeq_a, eSeqL_a, lSeq_a, lSeqL_a, lRev_a, iVal_a, eAppend_a, eExtend_a, eExtendL_a, eDict0_a, startE, R.bind_ok, R.fl_ok, R.lift_some, R.opt_some, opAdd, opIx, opSl, intOf, fLenA, fMax2, fTuple, fList, seqOf, Z.listOf, itOf, boolOf, opEq, data_int, eqv_int, sNil_a]
    refine fs_seq (fs_if ?_)
    simp [eFn_a, aCons_a, aNil_a, eVar_a, eC_a, eOp_a, eUn_a, eCall_a, eNew_a, lLst_a, eTup_a, tVal_a, eSl_a, pNone_a, pSome_a, eSeq_a, eSeqL_a, lSeq_a, lSeqL_a, lRev_a, iVal_a, eAppend_a, eExtend_a, eExtendL_a, eDict0_a, startE, R.bind_ok, R.fl_ok, R.lift_some, R.opt_some, opAdd, opIx, opSl, intOf, fLenA, fMax2, fTuple, fList, seqOf, Z.listOf, itOf, boolOf, opEq, data_int, eqv_int, sNil_a]
    refine fs_ret ?_
    have q1 : vs.length + 1 ≤ 100000 := by omega
    simp [eFn_a, aCons_a, aNil_a, eVar_a, eC_a, eOp_a, eUn_a, eCall_a, eNew_a, lLst_a, eTup_a, tVal_a, eSl_a, pNone_a, pSome_a, eSeq_a, eSeqL_a, lSeq_a, lSeqL_a, lRev_a, iVal_a, eAppend_a, eExtend_a, eExtendL_a, eDict0_a, startE, R.bind_ok, R.fl_ok, R.lift_some, R.opt_some, opAdd, opIx, opSl, intOf, fLenA, fMax2, fTuple, fList, seqOf, Z.listOf, itOf, boolOf, en3, en0, ap, lm, lm3, q1]
    refine ⟨Kp _, gs ++ [g], Gr.mk rfl hl (k := 1) rfl (Gs.app (Gv3.keep (Keep.app _ hl)) ⟨Gd3.keep (Keep.app _ hl), trivial⟩), ?_, ?_⟩
    · simp [tot] at tt ⊢; omega
    · simp at gl ⊢; omega
  · refine fs_seq (fs_if ?_)
    simp [eFn_a, aCons_a, aNil_a, eVar_a, eC_a, eOp_a, eUn_a, eCall_a, eNew_a, lLst_a, eTup_a, tVal_a, eSl_a, pNone_a, pSome_a, eSeq_a, eSeqL_a, lSeq_a, lSeqL_a, lRev_a, iVal_a, eAppend_a, eExtend_a, eExtendL_a, eDict0_a, startE, R.bind_ok, R.fl_ok, R.lift_some, R.opt_some, opAdd, opIx, opSl, intOf, fLenA, fMax2, fTuple, fList, seqOf, Z.listOf, itOf, boolOf, opEq, data_int, eqv_int, sNil_a]
    refine fs_seq (fs_if ?_)
    simp [eFn_a, aCons_a, aNil_a, eVar_a, eC_a, eOp_a, eUn_a, eCall_a, eNew_a, lLst_a, eTup_a, tVal_a, eSl_a, pNone_a, pSome_a, eSeq_a, eSeqL_a, lSeq_a, lSeqL_a, lRev_a, iVal_a, eAppend_a, eExtend_a, eExtendL_a, eDict0_a, startE, R.bind_ok, R.fl_ok, R.lift_some, R.opt_some, opAdd, opIx, opSl, intOf, fLenA, fMax2, fTuple, fList, seqOf, Z.listOf, itOf, boolOf, opEq, data_int, eqv_int, sNil_a]
    refine fs_seq (fs_if ?_)
    simp [eFn_a, aCons_a, aNil_a, eVar_a, eC_a, eOp_a, eUn_a, eCall_a, eNew_a, lLst_a, eTup_a, tVal_a, eSl_a, pNone_a, pSome_a, eSeq_a, eSeqL_a, lSeq_a, lSeqL_a, lRev_a, iVal_a, eAppend_a, eExtend_a, eExtendL_a, eDict0_a, startE, R.bind_ok, R.fl_ok, R.lift_some, R.opt_some, opAdd, opIx, opSl, intOf, fLenA, fMax2, fTuple, fList, seqOf, Z.listOf, itOf, boolOf, opEq, data_int, eqv_int, sNil_a]
    refine fs_seq (fs_if ?_)
    simp [eFn_a, aCons_a, aNil_a, eVar_a, eC_a, eOp_a, eUn_a, eCall_a, eNew_a, lLst_a, eTup_a, tVal_a, eSl_a, pNone_a, pSome_a, eSeq_a, eSeqL_a, lSeq_a, lSeqL_a, lRev_a, iVal_a, eAppend_a, eExtend_a, eExtendL_a, eDict0_a, startE, R.bind_ok, R.fl_ok, R.lift_some, R.opt_some, opAdd, opIx, opSl, intOf, fLenA, fMax2, fTuple, fList, seqOf, Z.listOf, itOf, boolOf, opEq, data_int, eqv_int, sNil_a]
    refine fs_seq (fs_if ?_)
    simp [eFn_a, aCons_a, aNil_a, eVar_a, eC_a, eOp_a, eUn_a, eCall_a, eNew_a, lLst_a, eTup_a, tVal_a, eSl_a, pNone_a, pSome_a, eSeq_a, eSeqL_a, lSeq_a, lSeqL_a, lRev_a, iVal_a, eAppend_a, eExtend_a, eExtendL_a, eDict0_a, startE, R.bind_ok, R.fl_ok, R.lift_some, R.opt_some, opAdd, opIx, opSl, intOf, fLenA, fMax2, fTuple, fList, seqOf, Z.listOf, itOf, boolOf, opEq, data_int, eqv_int, sNil_a]
    refine fs_seq (fs_if ?_)
    simp [eFn_a, aCons_a, aNil_a, eVar_a, eC_a, eOp_a, eUn_a, eCall_a, eNew_a, lLst_a, eTup_a, tVal_a, eSl_a, pNone_a, pSome_a, eSeq_a, eSeqL_a, lSeq_a, lSeqL_a, lRev_a, iVal_a, eAppend_a, eExtend_a, eExtendL_a, eDict0_a, startE, R.bind_ok, R.fl_ok, R.lift_some, R.opt_some, opAdd, opIx, opSl, intOf, fLenA, fMax2, fTuple, fList, seqOf, Z.listOf, itOf, boolOf, opEq, data_int, eqv_int, sNil_a]
    refine fs_seq (fs_if ?_)
    simp [eFn_a, aCons_a, aNil_a, eVar_a, eC_a, eOp_a, eUn_a, eCall_a, eNew_a, lLst_a, eTup_a, tVal_a, eSl_a, pNone_a, pSome_a, eSeq_a, eSeqL_a, lSeq_a, lSeqL_a, lRev_a, iVal_a, eAppend_a, eExtend_a, eExtendL_a, eDict0_a, startE, R.bind_ok, R.fl_ok, R.lift_some, R.opt_some, opAdd, opIx, opSl, intOf, fLenA, fMax2, fTuple, fList, seqOf, Z.listOf, itOf, boolOf, opEq, data_int, eqv_int, sNil_a]
    refine fs_seq (fs_set ?_)
    simp [eFn_a, aCons_a, aNil_a, eVar_a, eC_a, eOp_a, eUn_a, eCall_a, eNew_a, lLst_a, eTup_a, tVal_a, eSl_a, pNone_a, pSome_a, eSeq_a, eSeqL_a, lSeq_a, lSeqL_a, lRev_a, iVal_a, eAppend_a, eExtend_a, eExtendL_a, eDict0_a, startE, R.bind_ok, R.fl_ok, R.lift_some, R.opt_some, opAdd, opIx, opSl, intOf, fLenA, fMax2, fTuple, fList, seqOf, Z.listOf, itOf, boolOf, en3, en0, ap, lm, lm3, cto, cfr1, g1, g2]
    refine fs_ret ?_
    have q1 : min p vs.length + 2 ≤ 100000 := by omega
    have q2 : min p vs.length + 2 + (vs.length - (p + 1)) ≤ 100000 := by omega
    simp [eFn_a, aCons_a, aNil_a, eVar_a, eC_a, eOp_a, eUn_a, eCall_a, eNew_a, lLst_a, eTup_a, tVal_a, eSl_a, pNone_a, pSome_a, eSeq_a, eSeqL_a, lSeq_a, lSeqL_a, lRev_a, iVal_a, eAppend_a, eExtend_a, eExtendL_a, eDict0_a, startE, R.bind_ok, R.fl_ok, R.lift_some, R.opt_some, opAdd, opIx, opSl, intOf, fLenA, fMax2, fTuple, fList, seqOf, Z.listOf, itOf, boolOf, en3, en0, ap, lm, lm3, cto, cfr1, g1, g2, q1, q2]
    refine ⟨Kp _, gs.take p ++ gt :: gd :: gs.drop (p + 1), Gr.mk rfl hl (k := 6) rfl (Gs.app (Tk _) ⟨Gd.mk (k := 0) rfl hl rfl tx, Gd.mk (k := 1) rfl hl rfl dx, Dr _⟩), ?_, ?_⟩
    · simp [tot] at tt ⊢; omega
    · simp at gl ⊢; omega
  · refine fs_seq (fs_if ?_)
    simp [eFn_a, aCons_a, aNil_a, eVar_a, eC_a, eOp_a, eUn_a, eCall_a, eNew_a, lLst_a, eTup_a, tVal_a, eSl_a, pNone_a, pSome_a, eSeq_a, eSeqL_a, lSeq_a, lSeqL_a, lRev_a, iVal_a, eAppend_a, eExtend_a, eExtendL_a, eDict0_a, startE, R.bind_ok, R.fl_ok, R.lift_some, R.opt_some, opAdd, opIx, opSl, intOf, fLenA, fMax2, fTuple, fList, seqOf, Z.listOf, itOf, boolOf, opEq, data_int, eqv_int, sNil_a]
    refine fs_seq (fs_if ?_)
    simp [eFn_a, aCons_a, aNil_a, eVar_a, eC_a, eOp_a, eUn_a, eCall_a, eNew_a, lLst_a, eTup_a, tVal_a, eSl_a, pNone_a, pSome_a, eSeq_a, eSeqL_a, lSeq_a, lSeqL_a, lRev_a, iVal_a, eAppend_a, eExtend_a, eExtendL_a, eDict0_a, startE, R.bind_ok, R.fl_ok, R.lift_some, R.opt_some, opAdd, opIx, opSl, intOf, fLenA, fMax2, fTuple, fList, seqOf, Z.listOf, itOf, boolOf, opEq, data_int, eqv_int, sNil_a]
    refine fs_seq (fs_if ?_)
    simp [eFn_a, aCons_a, aNil_a, eVar_a, eC_a, eOp_a, eUn_a, eCall_a, eNew_a, lLst_a, eTup_a, tVal_a, eSl_a, pNone_a, pSome_a, eSeq_a, eSeqL_a, lSeq_a, lSeqL_a, lRev_a, iVal_a, eAppend_a, eExtend_a, eExtendL_a, eDict0_a, startE, R.bind_ok, R.fl_ok, R.lift_some, R.opt_some, opAdd, opIx, opSl, intOf, fLenA, fMax2, fTuple, fList, seqOf, Z.listOf, itOf, boolOf, opEq, data_int, eqv_int, sNil_a]
    refine fs_seq (fs_if ?_)
    simp [eFn_a, aCons_a, aNil_a, eVar_a, eC_a, eOp_a, eUn_a, eCall_a, eNew_a, lLst_a, eTup_a, tVal_a, eSl_a, pNone_a, pSome_a, eSeq_a, eSeqL_a, lSeq_a, lSeqL_a, lRev_a, iVal_a, eAppend_a, eExtend_a, eExtendL_a, eDict0_a, startE, R.bind_ok, R.fl_ok, R.lift_some, R.opt_some, opAdd, opIx, opSl, intOf, fLenA, fMax2, fTuple, fList, seqOf, Z.listOf, itOf, boolOf, opEq, data_int, eqv_int, sNil_a]
    refine fs_seq (fs_if ?_)
    simp [eFn_a, aCons_a, aNil_a, eVar_a, eC_a, eOp_a, eUn_a, eCall_a, eNew_a, lLst_a, eTup_a, tVal_a, eSl_a, pNone_a, pSome_a, eSeq_a, eSeqL_a, lSeq_a, lSeqL_a, lRev_a, iVal_a, eAppend_a, eExtend_a, eExtendL_a, eDict0_a, startE, R.bind_ok, R.fl_ok, R.lift_some, R.opt_some, opAdd, opIx, opSl, intOf, fLenA, fMax2, fTuple, fList, seqOf, Z.listOf, itOf, boolOf, opEq, data_int, eqv_int, sNil_a]
    refine fs_seq (fs_if ?_)
    simp [eFn_a, aCons_a, aNil_a, eVar_a, eC_a, eOp_a, eUn_a, eCall_a, eNew_a, lLst_a, eTup_a, tVal_a, eSl_a, pNone_a, pSome_a, eSeq_a, eSeqL_a, lSeq_a, lSeqL_a, lRev_a, iVal_a, eAppend_a, eExtend_a, eExtendL_a, eDict0_a, startE, R.bind_ok, R.fl_ok, R.lift_some, R.opt_some, opAdd, opIx, opSl, intOf, fLenA, fMax2, fTuple, fList, seqOf, Z.listOf, itOf, boolOf, opEq, data_int, eqv_int, sNil_a]
    refine fs_seq (fs_if ?_)
    simp [eFn_a, aCons_a, aNil_a, eVar_a, eC_a, eOp_a, eUn_a, eCall_a, eNew_a, lLst_a, eTup_a, tVal_a, eSl_a, pNone_a, pSome_a, eSeq_a, eSeqL_a, lSeq_a, lSeqL_a, lRev_a, iVal_a, eAppend_a, eExtend_a, eExtendL_a, eDict0_a, startE, R.bind_ok, R.fl_ok, R.lift_some, R.opt_some, opAdd, opIx, opSl, intOf, fLenA, fMax2, fTuple, fList, seqOf, Z.listOf, itOf, boolOf, opEq, data_int, eqv_int, sNil_a]
    refine fs_ret ?_
    have q1 : min p vs.length + (vs.length - (p + 1)) ≤ 100000 := by omega
    simp [eFn_a, aCons_a, aNil_a, eVar_a, eC_a, eOp_a, eUn_a, eCall_a, eNew_a, lLst_a, eTup_a, tVal_a, eSl_a, pNone_a, pSome_a, eSeq_a, eSeqL_a, lSeq_a, lSeqL_a, lRev_a, iVal_a, eAppend_a, eExtend_a, eExtendL_a, eDict0_a, startE, R.bind_ok, R.fl_ok, R.lift_some, R.opt_some, opAdd, opIx, opSl, intOf, fLenA, fMax2, fTuple, fList, seqOf, Z.listOf, itOf, boolOf, en3, en0, ap, lm, lm3, cto, cfr1, g1, g2, q1]
    refine ⟨Kp _, gs.take p ++ gs.drop (p + 1), Gr.mk rfl hl (k := 2) rfl (Gs.app (Tk _) (Dr _)), ?_, ?_⟩
    · simp [tot] at tt ⊢; omega
    · simp at gl ⊢; omega
end Law
end

section
namespace Law
open PySem L2 Z
def ltS (a b : Str) : Bool := Spec.ltCps a.cps.toList b.cps.toList
theorem ltS_eq (a b : Str) : ltS a b = !strLe b a := by simp [ltS, strLe]
def isRight (names : List Str) : Str → List Str → List (List Str) → Bool
  | _, found, [] => decide (sortS found = names)
  | _, _, [] :: _ => false
  | last, found, (a :: r) :: gs => if ltS last a = true ∧ sortS (a :: r) = a :: r then isRight names a (found ++ a :: r) gs else false
def okG : List Str → Bool
  | [] => false
  | a :: r => decide (sortS (a :: r) = a :: r)
def fst : List Str → Str
  | [] => ""
  | a :: _ => a
def isPart (names : List Str) (gs : List (List Str)) : Bool := gs.all okG && (decide (sortS (gs.map fst) = gs.map fst) && decide (sortS gs.flatten = names))
def chn : Str → List Str → Bool
  | _, [] => true
  | p, a :: r => ltS p a && chn a r
theorem right_eq (names : List Str) : ∀ (gs : List (List Str)) (last : Str) (found : List Str), isRight names last found gs = (gs.all okG && (chn last (gs.map fst) && decide (sortS (found ++ gs.flatten) = names)))
  | [], last, found => by simp [isRight, chn]
  | [] :: gs, last, found => by simp [isRight, okG]
  | (a :: r) :: gs, last, found => by
    simp only [isRight, List.all_cons, okG, List.map_cons, fst, chn, List.flatten_cons]
    by_cases h1 : ltS last a = true <;> by_cases h2 : sortS (a :: r) = a :: r <;> simp [h1, h2, right_eq names gs]
theorem sort_fix {l : List Str} : sortS l = l ↔ l.Pairwise (fun x y => strLe x y = true) :=
  ⟨fun e => by rw [← e]; exact sortS_sorted l, fun p => (sortS_uniq (List.Perm.refl l) p).symm⟩
theorem chn_pw : ∀ (p : Str) (l : List Str), chn p l = true → (p :: l).Pairwise (fun x y => strLe x y = true)
  | p, [], _ => by simp
  | p, a :: r, h => by
    simp only [chn, Bool.and_eq_true] at h
    have ih := chn_pw a r h.2
    have pa : strLe p a = true := by
      have := h.1; rw [ltS_eq] at this
      rcases strLe_total p a with q | q
      · exact q
      · rw [q] at this; cases this
    refine List.pairwise_cons.mpr ⟨fun x hx => ?_, ih⟩
    rcases List.mem_cons.mp hx with rfl | hx
    · exact pa
    · exact strLe_trans pa ((List.pairwise_cons.mp ih).1 x hx)
theorem chn_of : ∀ (p : Str) (l : List Str), (p :: l).Pairwise (fun x y => strLe x y = true) → (p :: l).Nodup → chn p l = true
  | p, [], _, _ => rfl
  | p, a :: r, h, n => by
    have h1 := List.pairwise_cons.mp h
    have n1 := List.nodup_cons.mp n
    simp only [chn, Bool.and_eq_true]
    refine ⟨?_, chn_of a r h1.2 n1.2⟩
    rw [ltS_eq]
    cases e : strLe a p with
    | false => rfl
    | true => exact absurd (strLe_antisymm (h1.1 a (by simp)) e) fun z => n1.1 (by simp [z])
theorem fst_sub : ∀ gs : List (List Str), gs.all okG = true → ∀ x ∈ gs.map fst, x ∈ gs.flatten
  | [], _, x, h => by simp at h
  | [] :: gs, q, x, h => by simp [okG] at q
  | (a :: r) :: gs, q, x, h => by
    simp only [List.all_cons, Bool.and_eq_true] at q
    simp only [List.map_cons, fst, List.mem_cons] at h
    rcases h with rfl | h
    · simp
    · have := fst_sub gs q.2 x h
      simp only [List.flatten_cons, List.mem_append]
      exact .inr this
theorem fst_nodup : ∀ gs : List (List Str), gs.all okG = true → gs.flatten.Nodup → (gs.map fst).Nodup
  | [], _, _ => by simp
  | [] :: gs, q, _ => by simp [okG] at q
  | (a :: r) :: gs, q, n => by
    simp only [List.all_cons, Bool.and_eq_true] at q
    simp only [List.flatten_cons, List.cons_append, List.nodup_cons, List.mem_append, not_or] at n
    simp only [List.map_cons, fst, List.nodup_cons]
    exact ⟨fun z => n.1.2 (fst_sub gs q.2 a z), fst_nodup gs q.2 (List.nodup_append.mp n.2).2.1⟩
theorem le_nil (x : Str) : strLe "" x = true := by
  rcases strLe_total "" x with q | q
  · exact q
  · unfold strLe at q ⊢
    cases h : x.cps.toList with
    | nil => rfl
    | cons a r => rfl
theorem right_part {names : List Str} (nd : names.Nodup) (ne : ("" : Str) ∉ names) (gs : List (List Str)) : isRight names "" [] gs = isPart names gs := by
  rw [right_eq, isPart]
  by_cases ho : gs.all okG = true
  · by_cases hs : sortS gs.flatten = names
    · have pf := sortS_perm gs.flatten
      rw [hs] at pf
      have nf : gs.flatten.Nodup := pf.nodup_iff.mp nd
      have n1 := fst_nodup gs ho nf
      have e1 : ("" : Str) ∉ gs.map fst := fun z => ne (pf.mem_iff.mpr (fst_sub gs ho _ z))
      have : chn "" (gs.map fst) = decide (sortS (gs.map fst) = gs.map fst) := by
        by_cases hc : sortS (gs.map fst) = gs.map fst
        · rw [chn_of "" _ (List.pairwise_cons.mpr ⟨fun x _ => le_nil x, sort_fix.mp hc⟩) (List.nodup_cons.mpr ⟨e1, n1⟩)]; simp [hc]
        · cases h : chn "" (gs.map fst) with
          | false => simp [hc]
          | true => exact absurd (sort_fix.mpr (List.pairwise_cons.mp (chn_pw _ _ h)).2) hc
      rw [this]; simp
    · simp [hs]
  · simp [ho]
end Law
end

section
set_option maxHeartbeats 1000000
namespace Law
open PySem L2 Z
theorem strsOf_map : ∀ g : List Str, strsOf (g.map EV.str) = some g
  | [] => rfl
  | a :: r => by simp [strsOf, strsOf_map r]
theorem fSorted_map {g : List Str} (h : g.length < 64) : fSorted false (g.map EV.str) = some ((sortS g).map EV.str) := by simp [fSorted, strsOf_map, h]
theorem sortS_tx {g : List Str} (q : ∀ t ∈ g, t ∈ TX) : ∀ t ∈ sortS g, t ∈ TX := fun t h => q t ((sortS_perm g).mem_iff.mp h)
def TP2 (b : Bool) (h' : EH) : Bool → EH → Prop := fun c h'' => c = b ∧ ∃ t, h'' = h' ++ t
def IR (l : Nat) (h : EH) (nn n : Nat) (gs : List (List Str)) (names : List Str) : List EV → ES → EH → Prop := fun rest σ h' => Keep l h h' ∧ ∃ (a b : List (List Str)) (last : Str) (found : List Str) (x : Option EV), gs = a ++ b ∧ Gs l h rest b ∧ found = a.flatten ∧ (∀ t ∈ found, t ∈ TX) ∧ h'[List.length h]? = some (.lst (found.map EV.str)) ∧
    σ = [some (.ref nn), some (.ref n), some (.str last), some (.ref (List.length h)), x] ∧ isRight names last found b = isRight names "" [] gs
theorem right_ok {l : Nat} {h : EH} {v w : EV} {gs : List (List Str)} {names : List Str} (L : Left l h) (D : Gd l h w names) (G : Gr l h v gs) (h1 : gs.length ≤ 1000) (h2 : tot gs < 64) :
    ROk (F_law_is_right [w, v] h) fun u h' => u = .bl (isRight names "" [] gs) ∧ Keep l h h' := by
  refine ok_fn ?_
  unfold b_law_is_right
  obtain ⟨n, vs, rfl, d, en, Gv⟩ := G
  obtain ⟨nn, rfl, dn, enn, tn⟩ := D
  have hl := L.lt
  refine fs_seq (fs_set ?_)
  simp [eFn_a, aCons_a, aNil_a, eVar_a, eC_a, eOp_a, eUn_a, eCall_a, eNew_a, lLst_a, eTup_a, tVal_a, eSl_a, pNone_a, pSome_a, eSeq_a, eSeqL_a, lSeq_a, lSeqL_a, lRev_a, iVal_a, eAppend_a, eExtend_a, eExtendL_a, eDict0_a, startE, R.bind_ok, R.fl_ok, R.lift_some, R.opt_some, opAdd, opIx, opSl, intOf, fLenA, fMax2, fTuple, fList, seqOf, Z.listOf, itOf, boolOf]
  refine fs_seq (fs_set ?_)
  simp [eFn_a, aCons_a, aNil_a, eVar_a, eC_a, eOp_a, eUn_a, eCall_a, eNew_a, lLst_a, eTup_a, tVal_a, eSl_a, pNone_a, pSome_a, eSeq_a, eSeqL_a, lSeq_a, lSeqL_a, lRev_a, iVal_a, eAppend_a, eExtend_a, eExtendL_a, eDict0_a, startE, R.bind_ok, R.fl_ok, R.lift_some, R.opt_some, opAdd, opIx, opSl, intOf, fLenA, fMax2, fTuple, fList, seqOf, Z.listOf, itOf, boolOf]
  have hK0 := Keep.app [.lst []] hl
  have ln := Gv.len
  refine fs_seq (fs_for (ys := vs) (it := .obj n) (IR l h nn n gs names) (h1 := h ++ [.lst []]) ?_ (.inr ⟨n, rfl, by omega, fun _ _ _ q => q.1.get en d⟩) ⟨hK0, [], gs, "", [], none, rfl, Gv, rfl, by simp, by simp, rfl, rfl⟩ ?_ ?_)
  · have : (h ++ [EO.lst []])[n]? = some (.lst vs) := hK0.get en d
    simp [eFn_a, aCons_a, aNil_a, eVar_a, eC_a, eOp_a, eUn_a, eCall_a, eNew_a, lLst_a, eTup_a, tVal_a, eSl_a, pNone_a, pSome_a, eSeq_a, eSeqL_a, lSeq_a, lSeqL_a, lRev_a, iVal_a, eAppend_a, eExtend_a, eExtendL_a, eDict0_a, startE, R.bind_ok, R.fl_ok, R.lift_some, R.opt_some, opAdd, opIx, opSl, intOf, fLenA, fMax2, fTuple, fList, seqOf, Z.listOf, itOf, boolOf, this]
  · rintro x r σ h' ⟨K, a, b, last, found, y, eab, Gb, ef, tf, hf, rfl, inv⟩
    refine ⟨_, rfl, ?_⟩
    cases b with
    | nil => exact Gb.elim
    | cons g b =>
      obtain ⟨⟨m, rfl, dm, em, tm⟩, Gb⟩ := Gb
      have em' := K.get em dm
      have hm := lt_of_get em
      have lg : g.length + (a.flatten.length + b.flatten.length) < 64 := by
        have := congrArg tot eab; simp only [tot, List.flatten_append, List.flatten_cons, List.length_append] at this h2; omega
      have hl' := Nat.lt_of_lt_of_le hl K.len
      have hf' := lt_of_get hf
      have em3 : ∀ t, (h' ++ t)[m]? = some (.lst (g.map EV.str)) := fun t => by rw [List.getElem?_append_left (lt_of_get em')]; exact em'
      have hf3 : ∀ t, (h' ++ t)[List.length h]? = some (.lst (found.map EV.str)) := fun t => by rw [List.getElem?_append_left hf']; exact hf
      refine fs_seq (fs_if ?_)
      cases g with
      | nil =>
        have em0 : h'[m]? = some (.lst []) := em'
        have tst : ROk (tOr' (tVal (eOp opEq (eCall fLenA (aCons (eVar 4) aNil)) (eC (.int 0)))) (tOr' (tNot' (tVal (eOp opGt (eOp opIx (eVar 4) (eC (.int 0))) (eVar 2)))) (tVal (eOp opNe (eNew (lSeq fSorted (eVar 4))) (eVar 4)))) [some (EV.ref nn), some (EV.ref n), some (EV.str last), some (EV.ref (List.length h)), some (EV.ref m)] h') (fun c h'' => c = true ∧ h'' = h') := by
          refine ok_bind ?_
          simp [eFn_a, aCons_a, aNil_a, eVar_a, eC_a, eOp_a, eUn_a, eCall_a, eNew_a, lLst_a, eTup_a, tVal_a, eSl_a, pNone_a, pSome_a, eSeq_a, eSeqL_a, lSeq_a, lSeqL_a, lRev_a, iVal_a, eAppend_a, eExtend_a, eExtendL_a, eDict0_a, startE, R.bind_ok, R.fl_ok, R.lift_some, R.opt_some, opAdd, opIx, opSl, intOf, fLenA, fMax2, fTuple, fList, seqOf, Z.listOf, itOf, boolOf, em0, opEq, data_int, eqv_int]
        refine tst.imp ?_
        rintro c h'' ⟨rfl, rfl⟩
        simp only [if_true]
        refine fs_ret ?_
        simp [eFn_a, aCons_a, aNil_a, eVar_a, eC_a, eOp_a, eUn_a, eCall_a, eNew_a, lLst_a, eTup_a, tVal_a, eSl_a, pNone_a, pSome_a, eSeq_a, eSeqL_a, lSeq_a, lSeqL_a, lRev_a, iVal_a, eAppend_a, eExtend_a, eExtendL_a, eDict0_a, startE, R.bind_ok, R.fl_ok, R.lift_some, R.opt_some, opAdd, opIx, opSl, intOf, fLenA, fMax2, fTuple, fList, seqOf, Z.listOf, itOf, boolOf]
        exact ⟨by rw [← inv]; rfl, K⟩
      | cons s g =>
        have em0 : h'[m]? = some (.lst (.str s :: g.map EV.str)) := em'
        have em30 : ∀ t, (h' ++ t)[m]? = some (.lst (.str s :: g.map EV.str)) := em3
        have i0 : atI (.str s :: g.map EV.str) 0 = some (.str s) := by rw [atI_int (by omega) (by simp)]; rfl
        have fso : fSorted false (.str s :: g.map EV.str) = some ((sortS (s :: g)).map EV.str) := fSorted_map (g := s :: g) (by simp at lg ⊢; omega)
        have da : data (h' ++ [.lst ((sortS (s :: g)).map EV.str)]) (.ref (List.length h')) = some (dL (sortS (s :: g))) := data_lst (by simp) (sortS_tx tm)
        have db : ∀ t, data (h' ++ t) (.ref m) = some (dL (s :: g)) := fun t => data_lst (em3 t) tm
        have q1 : ¬ ((g.length : Int) + 1 = 0) := by omega
        have tst : ROk (tOr' (tVal (eOp opEq (eCall fLenA (aCons (eVar 4) aNil)) (eC (.int 0)))) (tOr' (tNot' (tVal (eOp opGt (eOp opIx (eVar 4) (eC (.int 0))) (eVar 2)))) (tVal (eOp opNe (eNew (lSeq fSorted (eVar 4))) (eVar 4)))) [some (EV.ref nn), some (EV.ref n), some (EV.str last), some (EV.ref (List.length h)), some (EV.ref m)] h') (TP2 (!decide (ltS last s = true ∧ sortS (s :: g) = s :: g)) h') := by
          refine ok_bind ?_
          simp [eFn_a, aCons_a, aNil_a, eVar_a, eC_a, eOp_a, eUn_a, eCall_a, eNew_a, lLst_a, eTup_a, tVal_a, eSl_a, pNone_a, pSome_a, eSeq_a, eSeqL_a, lSeq_a, lSeqL_a, lRev_a, iVal_a, eAppend_a, eExtend_a, eExtendL_a, eDict0_a, startE, R.bind_ok, R.fl_ok, R.lift_some, R.opt_some, opAdd, opIx, opSl, intOf, fLenA, fMax2, fTuple, fList, seqOf, Z.listOf, itOf, boolOf, em0, opEq, data_int, eqv_int, q1]
          refine ok_bind ?_
          unfold tNot'
          refine ok_bind ?_
          simp [eFn_a, aCons_a, aNil_a, eVar_a, eC_a, eOp_a, eUn_a, eCall_a, eNew_a, lLst_a, eTup_a, tVal_a, eSl_a, pNone_a, pSome_a, eSeq_a, eSeqL_a, lSeq_a, lSeqL_a, lRev_a, iVal_a, eAppend_a, eExtend_a, eExtendL_a, eDict0_a, startE, R.bind_ok, R.fl_ok, R.lift_some, R.opt_some, opAdd, opIx, opSl, intOf, fLenA, fMax2, fTuple, fList, seqOf, Z.listOf, itOf, boolOf, em0, i0, opGt, cmpI]
          cases hlt : Spec.ltCps last.cps.toList s.cps.toList with
          | false =>
            refine ⟨by simp [ltS, hlt], [], by simp⟩
          | true =>
            simp [eFn_a, aCons_a, aNil_a, eVar_a, eC_a, eOp_a, eUn_a, eCall_a, eNew_a, lLst_a, eTup_a, tVal_a, eSl_a, pNone_a, pSome_a, eSeq_a, eSeqL_a, lSeq_a, lSeqL_a, lRev_a, iVal_a, eAppend_a, eExtend_a, eExtendL_a, eDict0_a, startE, R.bind_ok, R.fl_ok, R.lift_some, R.opt_some, opAdd, opIx, opSl, intOf, fLenA, fMax2, fTuple, fList, seqOf, Z.listOf, itOf, boolOf, em0, em30, fso, opNe, da, db, eqv_dL]
            exact ⟨by simp [ltS, hlt], _, rfl⟩
        refine tst.imp ?_
        rintro c h'' ⟨rfl, t, rfl⟩
        have K' : Keep l h (h' ++ t) := K.trans (Keep.app t hl')
        have inv' : isRight names last found ((s :: g) :: b) = (if ltS last s = true ∧ sortS (s :: g) = s :: g then isRight names s (found ++ s :: g) b else false) := rfl
        by_cases hc : ltS last s = true ∧ sortS (s :: g) = s :: g
        · simp only [hc, and_self, decide_true, Bool.not_true, Bool.false_eq_true, if_false]
          refine fs_nil ?_
          refine fs_seq (fs_set ?_)
          simp [eFn_a, aCons_a, aNil_a, eVar_a, eC_a, eOp_a, eUn_a, eCall_a, eNew_a, lLst_a, eTup_a, tVal_a, eSl_a, pNone_a, pSome_a, eSeq_a, eSeqL_a, lSeq_a, lSeqL_a, lRev_a, iVal_a, eAppend_a, eExtend_a, eExtendL_a, eDict0_a, startE, R.bind_ok, R.fl_ok, R.lift_some, R.opt_some, opAdd, opIx, opSl, intOf, fLenA, fMax2, fTuple, fList, seqOf, Z.listOf, itOf, boolOf, em30, i0]
          refine fs_expr ?_
          have q2 : found.length + (g.length + 1) ≤ 100000 := by
            have := congrArg List.length ef; simp only [List.length_cons] at this lg; omega
          simp [eFn_a, aCons_a, aNil_a, eVar_a, eC_a, eOp_a, eUn_a, eCall_a, eNew_a, lLst_a, eTup_a, tVal_a, eSl_a, pNone_a, pSome_a, eSeq_a, eSeqL_a, lSeq_a, lSeqL_a, lRev_a, iVal_a, eAppend_a, eExtend_a, eExtendL_a, eDict0_a, startE, R.bind_ok, R.fl_ok, R.lift_some, R.opt_some, opAdd, opIx, opSl, intOf, fLenA, fMax2, fTuple, fList, seqOf, Z.listOf, itOf, boolOf, em30, hf3, q2]
          rw [if_pos hc] at inv'
          refine ⟨K'.set _ (Nat.le_refl _) hl, a ++ [s :: g], b, s, found ++ s :: g, some (.ref m), by simp [eab], Gb, by simp [ef], ?_, ?_, rfl, by rw [← inv', inv]⟩
          · intro x hx; rcases List.mem_append.mp hx with z | z
            · exact tf x z
            · exact tm x z
          · rw [List.getElem?_set_self (by simp; omega)]; simp
        · simp only [hc, decide_false, Bool.not_false, if_true]
          refine fs_ret ?_
          simp [eFn_a, aCons_a, aNil_a, eVar_a, eC_a, eOp_a, eUn_a, eCall_a, eNew_a, lLst_a, eTup_a, tVal_a, eSl_a, pNone_a, pSome_a, eSeq_a, eSeqL_a, lSeq_a, lSeqL_a, lRev_a, iVal_a, eAppend_a, eExtend_a, eExtendL_a, eDict0_a, startE, R.bind_ok, R.fl_ok, R.lift_some, R.opt_some, opAdd, opIx, opSl, intOf, fLenA, fMax2, fTuple, fList, seqOf, Z.listOf, itOf, boolOf]
          rw [if_neg hc] at inv'
          exact ⟨by rw [← inv, inv'], K'⟩
  · rintro σ h' ⟨K, a, b, last, found, y, eab, Gb, ef, tf, hf, rfl, inv⟩
    cases b with
    | cons g b => exact Gb.elim
    | nil =>
      simp only [List.append_nil] at eab
      subst eab
      have hl' := Nat.lt_of_lt_of_le hl K.len
      have fso : fSorted false (found.map EV.str) = some ((sortS found).map EV.str) := fSorted_map (by rw [ef]; exact h2)
      have da : data (h' ++ [.lst ((sortS found).map EV.str)]) (.ref (List.length h')) = some (dL (sortS found)) := data_lst (by simp) (sortS_tx tf)
      have db : data (h' ++ [.lst ((sortS found).map EV.str)]) (.ref nn) = some (dL names) := data_lst ((K.trans (Keep.app _ hl')).get enn dn) tn
      refine fs_ret ?_
      simp [eFn_a, aCons_a, aNil_a, eVar_a, eC_a, eOp_a, eUn_a, eCall_a, eNew_a, lLst_a, eTup_a, tVal_a, eSl_a, pNone_a, pSome_a, eSeq_a, eSeqL_a, lSeq_a, lSeqL_a, lRev_a, iVal_a, eAppend_a, eExtend_a, eExtendL_a, eDict0_a, startE, R.bind_ok, R.fl_ok, R.lift_some, R.opt_some, opAdd, opIx, opSl, intOf, fLenA, fMax2, fTuple, fList, seqOf, Z.listOf, itOf, boolOf, hf, fso, opEq, da, db, eqv_dL]
      exact ⟨by rw [← inv]; rfl, K.trans (Keep.app _ hl')⟩
end Law
end

section
set_option maxHeartbeats 1000000
namespace Law
open PySem L2 Z
abbrev tupG (g : List Str) : EV := .tup (g.map EV.str)
theorem isTy_tt (xs : List EV) (h : EH) : isTy "tuple" (.tup xs) h = some (.bl true, h) := by
  have : kitB "tuple" "tuple" = some true := by decide +kernel
  simp [isTy, tyName, this]
theorem isTy_ss (s : Str) (h : EH) : isTy "str" (.str s) h = some (.bl true, h) := by
  have : kitB "str" "str" = some true := by decide +kernel
  simp [isTy, tyName, this]
theorem isTy_is (i : Int) (h : EH) : isTy "str" (.int i) h = some (.bl false, h) := by
  have : kitB "int" "str" = some false := by decide +kernel
  simp [isTy, tyName, this]
theorem isTy_lt {n : Nat} {xs : List EV} {h : EH} (e : h[n]? = some (.lst xs)) : isTy "tuple" (.ref n) h = some (.bl false, h) := by
  have : kitB "list" "tuple" = some false := by decide +kernel
  simp [isTy, tyName, e, this]
theorem isTy_nt (h : EH) : isTy "tuple" .non h = some (.bl false, h) := by
  have : kitB "NoneType" "tuple" = some false := by decide +kernel
  simp [isTy, tyName, this]
theorem isTy_it (i : Int) (h : EH) : isTy "tuple" (.int i) h = some (.bl false, h) := by
  have : kitB "int" "tuple" = some false := by decide +kernel
  simp [isTy, tyName, this]
theorem isTy_st (s : Str) (h : EH) : isTy "tuple" (.str s) h = some (.bl false, h) := by
  have : kitB "str" "tuple" = some false := by decide +kernel
  simp [isTy, tyName, this]
def NotT (l : Nat) (h : EH) (v : EV) : Prop := ∀ h', Keep l h h' → isTy "tuple" v h' = some (.bl false, h')
def Bad (l : Nat) (h : EH) (v : EV) : Prop := NotT l h v ∨ v = .tup [.int 7]
def IQ (l : Nat) (h : EH) (w : EV) (v : EV) (gs : List (List Str)) (tl : List EV) : List EV → ES → EH → Prop := fun rest σ h' => Keep l h h' ∧ ∃ (a b : List (List Str)) (x : Option EV), gs = a ++ b ∧ rest = b.map tupG ++ tl ∧ a.all okG = true ∧ h'[List.length h]? = some (.lst (a.flatten.map EV.str)) ∧
    σ = [some w, some v, some (.ref (List.length h)), x, none, none]
def QT (l : Nat) (h : EH) (gs : List (List Str)) (tl : List EV) : EV → EH → Prop := fun u h' => Keep l h h' ∧ u = .bl false ∧ (tl = [] → gs.all okG = false)
theorem lc_all {h : EH} {σ : ES} (hs : 5 < σ.length) : ∀ (g : List Str) (k : Nat), k + g.length ≤ 100000 → lcL (gN 5) tYes' (eUn (isTy "str") (eVar 5)) σ (g.map EV.str) (List.replicate k (EV.bl true)) h = .ok (List.replicate (k + g.length) (EV.bl true)) h
  | [], k, _ => by simp [lcL]
  | t :: g, k, q => by
    simp only [List.length_cons] at q
    have i5 : (σ.set 5 (some (EV.str t)))[5]? = some (some (EV.str t)) := List.getElem?_set_self hs
    have q1 : k < 100000 := by omega
    have st : lcStep tYes' (eUn (isTy "str") (eVar 5)) (σ.set 5 (some (EV.str t))) (List.replicate k (EV.bl true)) h = .ok (List.replicate (k + 1) (EV.bl true)) h := by
      simp only [lcStep, tYes', R.bind_ok, eUn_a, eVar_a, i5, isTy_ss, R.lift_some, List.length_replicate, q1, if_true, List.replicate_succ']
    simp only [List.map_cons, lcL, gN, st, noExc, R.bind_ok]
    rw [lc_all hs g (k + 1) (by omega)]
    congr 2
    simp only [List.length_cons]; omega
theorem bools_rep : ∀ k : Nat, boolsOf (List.replicate k (EV.bl true)) = some (List.replicate k true)
  | 0 => rfl
  | k + 1 => by simp [List.replicate_succ, boolsOf, bools_rep k]
theorem loop_ok {l : Nat} {h h0 : EH} {w v : EV} {gs : List (List Str)} {tl : List EV} (hl : l < List.length h) (tg : ∀ g ∈ gs, ∀ t ∈ g, t ∈ TX) (ht : tot gs < 64) (hb : ∀ b r, tl = b :: r → Bad l h b) {rest : List EV} {x : EV} {σ : ES} {h' : EH} (I : IQ l h w v gs tl (x :: rest) σ h') :
    ∃ σ1, gN 3 x σ = some σ1 ∧ FlOk ((sSeq (sIf (tOr' (tNot' (tVal (eUn (isTy "tuple") (eVar 3)))) (tVal (eOp opEq (eVar 3) (eTup aNil)))) (sRet (eC (.bl false))) sNil)
  (sSeq (sIf (tOr' (tNot' (tVal (eSeqL fAll (lLc (iVal (eVar 3)) (gN 5) tYes' (eUn (isTy "str") (eVar 5)) [5])))) (tVal (eOp opNe (eNew (lSeq fList (eVar 3))) (eNew (lSeqL fSorted (lSeq fList (eVar 3))))))) (sRet (eC (.bl false))) sNil)
  (sExpr (eExtendL (eVar 2) (lSeq fList (eVar 3)))))) σ1 h') (IQ l h w v gs tl rest) (QT l h gs tl) := by
  obtain ⟨K, a, b, y, eab, er, oa, ef, rfl⟩ := I
  refine ⟨_, rfl, ?_⟩
  have hl' := Nat.lt_of_lt_of_le hl K.len
  cases b with
  | nil =>
    simp only [List.map_nil, List.nil_append] at er
    have tz : tl ≠ [] := by rw [← er]; simp
    rcases hb _ _ er.symm with nt | rfl
    · refine fs_seq (fs_if ?_)
      have := nt h' K
      refine ok_bind (ok_bind ?_)
      simp [eFn_a, aCons_a, aNil_a, eVar_a, eC_a, eOp_a, eUn_a, eCall_a, eNew_a, lLst_a, eTup_a, tVal_a, eSl_a, pNone_a, pSome_a, eSeq_a, eSeqL_a, lSeq_a, lSeqL_a, lRev_a, iVal_a, eAppend_a, eExtend_a, eExtendL_a, eDict0_a, startE, R.bind_ok, R.fl_ok, R.lift_some, R.opt_some, opAdd, opIx, opSl, intOf, fLenA, fMax2, fTuple, fList, seqOf, Z.listOf, itOf, boolOf, this, gN]
      refine fs_ret ?_
      simp [eFn_a, aCons_a, aNil_a, eVar_a, eC_a, eOp_a, eUn_a, eCall_a, eNew_a, lLst_a, eTup_a, tVal_a, eSl_a, pNone_a, pSome_a, eSeq_a, eSeqL_a, lSeq_a, lSeqL_a, lRev_a, iVal_a, eAppend_a, eExtend_a, eExtendL_a, eDict0_a, startE, R.bind_ok, R.fl_ok, R.lift_some, R.opt_some, opAdd, opIx, opSl, intOf, fLenA, fMax2, fTuple, fList, seqOf, Z.listOf, itOf, boolOf]
      exact ⟨K, rfl, fun z => absurd z tz⟩
    · refine fs_seq (fs_if ?_)
      have d1 : data h' (.tup [.int 7]) = some (.tuple [.int 7]) := data_of rfl rfl
      have d2 : data h' (.tup []) = some (.tuple []) := data_of rfl rfl
      refine ok_bind (ok_bind ?_)
      simp [eFn_a, aCons_a, aNil_a, eVar_a, eC_a, eOp_a, eUn_a, eCall_a, eNew_a, lLst_a, eTup_a, tVal_a, eSl_a, pNone_a, pSome_a, eSeq_a, eSeqL_a, lSeq_a, lSeqL_a, lRev_a, iVal_a, eAppend_a, eExtend_a, eExtendL_a, eDict0_a, startE, R.bind_ok, R.fl_ok, R.lift_some, R.opt_some, opAdd, opIx, opSl, intOf, fLenA, fMax2, fTuple, fList, seqOf, Z.listOf, itOf, boolOf, isTy_tt, gN, opEq, d1, d2, PyData.eqv, PyData.eqvAll, sNil_a]
      refine fs_seq (fs_if ?_)
      refine ok_bind (ok_bind ?_)
      simp [eFn_a, aCons_a, aNil_a, eVar_a, eC_a, eOp_a, eUn_a, eCall_a, eNew_a, lLst_a, eTup_a, tVal_a, eSl_a, pNone_a, pSome_a, eSeq_a, eSeqL_a, lSeq_a, lSeqL_a, lRev_a, iVal_a, eAppend_a, eExtend_a, eExtendL_a, eDict0_a, startE, R.bind_ok, R.fl_ok, R.lift_some, R.opt_some, opAdd, opIx, opSl, intOf, fLenA, fMax2, fTuple, fList, seqOf, Z.listOf, itOf, boolOf, gN, lLc, lcL, noExc, lcStep, tYes', isTy_is, wipeE, fAll, boolsOf]
      refine fs_ret ?_
      simp [eFn_a, aCons_a, aNil_a, eVar_a, eC_a, eOp_a, eUn_a, eCall_a, eNew_a, lLst_a, eTup_a, tVal_a, eSl_a, pNone_a, pSome_a, eSeq_a, eSeqL_a, lSeq_a, lSeqL_a, lRev_a, iVal_a, eAppend_a, eExtend_a, eExtendL_a, eDict0_a, startE, R.bind_ok, R.fl_ok, R.lift_some, R.opt_some, opAdd, opIx, opSl, intOf, fLenA, fMax2, fTuple, fList, seqOf, Z.listOf, itOf, boolOf]
      exact ⟨K, rfl, fun z => absurd z tz⟩
  | cons g b =>
    simp only [List.map_cons, List.cons_append, List.cons.injEq] at er
    obtain ⟨rfl, er⟩ := er
    have tm : ∀ t ∈ g, t ∈ TX := tg g (by rw [eab]; simp)
    have lg : g.length + (a.flatten.length + b.flatten.length) < 64 := by
      have := congrArg tot eab; simp only [tot, List.flatten_append, List.flatten_cons, List.length_append] at this ht; omega
    obtain ⟨fl, efl⟩ : ∃ x, x = a.flatten := ⟨_, rfl⟩
    rw [← efl] at ef lg
    have d1 : data h' (tupG g) = some (.tuple (g.map PyData.str)) := data_tup tm
    have d2 : data h' (.tup []) = some (.tuple []) := data_of rfl rfl
    have dq : PyData.eqv (.tuple (g.map PyData.str)) (.tuple []) = decide (g = []) := by have := eqv_strs g []; simp only [List.map_nil] at this; simp only [PyData.eqv, this]
    refine fs_seq (fs_if ?_)
    refine ok_bind (ok_bind ?_)
    simp [eFn_a, aCons_a, aNil_a, eVar_a, eC_a, eOp_a, eUn_a, eCall_a, eNew_a, lLst_a, eTup_a, tVal_a, eSl_a, pNone_a, pSome_a, eSeq_a, eSeqL_a, lSeq_a, lSeqL_a, lRev_a, iVal_a, eAppend_a, eExtend_a, eExtendL_a, eDict0_a, startE, R.bind_ok, R.fl_ok, R.lift_some, R.opt_some, opAdd, opIx, opSl, intOf, fLenA, fMax2, fTuple, fList, seqOf, Z.listOf, itOf, boolOf, isTy_tt, gN, opEq, d1, d2, dq, sNil_a]
    cases g with
    | nil =>
      simp only [decide_true, if_true]
      refine fs_ret ?_
      simp [eFn_a, aCons_a, aNil_a, eVar_a, eC_a, eOp_a, eUn_a, eCall_a, eNew_a, lLst_a, eTup_a, tVal_a, eSl_a, pNone_a, pSome_a, eSeq_a, eSeqL_a, lSeq_a, lSeqL_a, lRev_a, iVal_a, eAppend_a, eExtend_a, eExtendL_a, eDict0_a, startE, R.bind_ok, R.fl_ok, R.lift_some, R.opt_some, opAdd, opIx, opSl, intOf, fLenA, fMax2, fTuple, fList, seqOf, Z.listOf, itOf, boolOf]
      refine ⟨K, rfl, fun _ => by rw [eab]; simp [okG]⟩
    | cons s g =>
      simp only [reduceCtorEq, decide_false, Bool.false_eq_true, if_false]
      refine fs_nil ?_
      refine fs_seq (fs_if ?_)
      have al : lLc (iVal (eVar 3)) (gN 5) tYes' (eUn (isTy "str") (eVar 5)) [5] [some w, some v, some (EV.ref (List.length h)), some (tupG (s :: g)), none, none] h' = .ok (List.replicate (g.length + 1) (EV.bl true)) h' := by
        have := lc_all (h := h') (σ := [some w, some v, some (EV.ref (List.length h)), some (tupG (s :: g)), none, none]) (by simp) (s :: g) 0 (by simp only [List.length_cons] at lg ⊢; omega)
        simp only [List.replicate_zero, Nat.zero_add, List.length_cons] at this
        simp only [lLc, iVal_a, eVar_a, List.getElem?_cons_succ, List.getElem?_cons_zero, R.bind_ok, itOf, wipeE]
        exact this
      have fso : fSorted false (.str s :: g.map EV.str) = some ((sortS (s :: g)).map EV.str) := fSorted_map (g := s :: g) (by omega)
      have da : ∀ t, data (h' ++ .lst (.str s :: g.map EV.str) :: t) (.ref (List.length h')) = some (dL (s :: g)) := fun t => data_lst (by simp) tm
      have db : data (h' ++ [.lst (.str s :: g.map EV.str), .lst ((sortS (s :: g)).map EV.str)]) (.ref (List.length h' + 1)) = some (dL (sortS (s :: g))) := data_lst (by simp) (sortS_tx tm)
      have bo : (List.replicate (g.length + 1) true).all id = true := by simp
      refine ok_bind (ok_bind ?_)
      simp [eFn_a, aCons_a, aNil_a, eVar_a, eC_a, eOp_a, eUn_a, eCall_a, eNew_a, lLst_a, eTup_a, tVal_a, eSl_a, pNone_a, pSome_a, eSeq_a, eSeqL_a, lSeq_a, lSeqL_a, lRev_a, iVal_a, eAppend_a, eExtend_a, eExtendL_a, eDict0_a, startE, R.bind_ok, R.fl_ok, R.lift_some, R.opt_some, opAdd, opIx, opSl, intOf, fLenA, fMax2, fTuple, fList, seqOf, Z.listOf, itOf, boolOf, al, fAll, bools_rep, bo, opNe, fso, da, db, eqv_dL]
      have hf3 : ∀ t, (h' ++ t)[List.length h]? = some (.lst (fl.map EV.str)) := fun t => by rw [List.getElem?_append_left (lt_of_get ef)]; exact ef
      have K' := K.trans (Keep.app [.lst (.str s :: g.map EV.str), .lst ((sortS (s :: g)).map EV.str)] hl')
      by_cases hc : sortS (s :: g) = s :: g
      · have hc' : s :: g = sortS (s :: g) := hc.symm
        simp only [← hc', not_true_eq_false, if_false]
        refine fs_nil (fs_expr ?_)
        have q2 : fl.length + (g.length + 1) ≤ 100000 := by simp only [List.length_cons] at lg; omega
        simp only [hc] at K'
        simp [eFn_a, aCons_a, aNil_a, eVar_a, eC_a, eOp_a, eUn_a, eCall_a, eNew_a, lLst_a, eTup_a, tVal_a, eSl_a, pNone_a, pSome_a, eSeq_a, eSeqL_a, lSeq_a, lSeqL_a, lRev_a, iVal_a, eAppend_a, eExtend_a, eExtendL_a, eDict0_a, startE, R.bind_ok, R.fl_ok, R.lift_some, R.opt_some, opAdd, opIx, opSl, intOf, fLenA, fMax2, fTuple, fList, seqOf, Z.listOf, itOf, boolOf, hf3, q2]
        refine ⟨K'.set _ (Nat.le_refl _) hl, a ++ [s :: g], b, _, by simp [eab], er, by simp [oa, okG, hc], ?_, rfl⟩
        rw [List.getElem?_set_self (by have := lt_of_get ef; simp; omega)]; rw [efl]; simp
      · have hc' : ¬ s :: g = sortS (s :: g) := fun z => hc z.symm
        simp only [hc', not_false_eq_true, if_true]
        refine fs_ret ?_
        simp [eFn_a, aCons_a, aNil_a, eVar_a, eC_a, eOp_a, eUn_a, eCall_a, eNew_a, lLst_a, eTup_a, tVal_a, eSl_a, pNone_a, pSome_a, eSeq_a, eSeqL_a, lSeq_a, lSeqL_a, lRev_a, iVal_a, eAppend_a, eExtend_a, eExtendL_a, eDict0_a, startE, R.bind_ok, R.fl_ok, R.lift_some, R.opt_some, opAdd, opIx, opSl, intOf, fLenA, fMax2, fTuple, fList, seqOf, Z.listOf, itOf, boolOf]
        exact ⟨K', rfl, fun _ => by rw [eab]; simp [okG, hc]⟩
end Law
end

section
set_option maxHeartbeats 1000000
namespace Law
open PySem L2 Z
theorem isp_not {l : Nat} {h : EH} {w v : EV} (nt : NotT l h v) : Fis_partition [w, v] h = .ok (.bl false) h := by
  have : ROk (Fis_partition [w, v] h) fun u h' => u = .bl false ∧ h' = h := by
    refine ok_fn ?_
    unfold bis_partition
    refine fs_seq (fs_if ?_)
    refine ok_bind ?_
    simp [eFn_a, aCons_a, aNil_a, eVar_a, eC_a, eOp_a, eUn_a, eCall_a, eNew_a, lLst_a, eTup_a, tVal_a, eSl_a, pNone_a, pSome_a, eSeq_a, eSeqL_a, lSeq_a, lSeqL_a, lRev_a, iVal_a, eAppend_a, eExtend_a, eExtendL_a, eDict0_a, startE, R.bind_ok, R.fl_ok, R.lift_some, R.opt_some, opAdd, opIx, opSl, intOf, fLenA, fMax2, fTuple, fList, seqOf, Z.listOf, itOf, boolOf, nt h Keep.refl]
    refine fs_ret ?_
    simp [eFn_a, aCons_a, aNil_a, eVar_a, eC_a, eOp_a, eUn_a, eCall_a, eNew_a, lLst_a, eTup_a, tVal_a, eSl_a, pNone_a, pSome_a, eSeq_a, eSeqL_a, lSeq_a, lSeqL_a, lRev_a, iVal_a, eAppend_a, eExtend_a, eExtendL_a, eDict0_a, startE, R.bind_ok, R.fl_ok, R.lift_some, R.opt_some, opAdd, opIx, opSl, intOf, fLenA, fMax2, fTuple, fList, seqOf, Z.listOf, itOf, boolOf]
  obtain ⟨a, h', e, rfl, rfl⟩ := this.get
  exact e
theorem len_tot : ∀ gs : List (List Str), gs.all okG = true → gs.length ≤ tot gs
  | [], _ => by simp
  | [] :: gs, q => by simp [okG] at q
  | (a :: r) :: gs, q => by
    simp only [List.all_cons, Bool.and_eq_true] at q
    have := len_tot gs q.2
    simp only [tot, List.flatten_cons, List.length_append, List.length_cons] at this ⊢
    omega
def QP (l : Nat) (h : EH) (b : Bool) : EV → EH → Prop := fun u h' => u = .bl b ∧ Keep l h h'
theorem isp_bad {l : Nat} {h : EH} {w b : EV} {r : List EV} {gs : List (List Str)} (hl : l < List.length h) (tg : ∀ g ∈ gs, ∀ t ∈ g, t ∈ TX) (ht : tot gs < 64) (hb : Bad l h b) :
    ROk (Fis_partition [w, .tup (gs.map tupG ++ b :: r)] h) (QP l h false) := by
  refine ok_fn ?_
  unfold bis_partition
  refine fs_seq (fs_if ?_)
  refine ok_bind ?_
  simp [eFn_a, aCons_a, aNil_a, eVar_a, eC_a, eOp_a, eUn_a, eCall_a, eNew_a, lLst_a, eTup_a, tVal_a, eSl_a, pNone_a, pSome_a, eSeq_a, eSeqL_a, lSeq_a, lSeqL_a, lRev_a, iVal_a, eAppend_a, eExtend_a, eExtendL_a, eDict0_a, startE, R.bind_ok, R.fl_ok, R.lift_some, R.opt_some, opAdd, opIx, opSl, intOf, fLenA, fMax2, fTuple, fList, seqOf, Z.listOf, itOf, boolOf, isTy_tt, sNil_a]
  refine fs_seq (fs_set ?_)
  simp [eFn_a, aCons_a, aNil_a, eVar_a, eC_a, eOp_a, eUn_a, eCall_a, eNew_a, lLst_a, eTup_a, tVal_a, eSl_a, pNone_a, pSome_a, eSeq_a, eSeqL_a, lSeq_a, lSeqL_a, lRev_a, iVal_a, eAppend_a, eExtend_a, eExtendL_a, eDict0_a, startE, R.bind_ok, R.fl_ok, R.lift_some, R.opt_some, opAdd, opIx, opSl, intOf, fLenA, fMax2, fTuple, fList, seqOf, Z.listOf, itOf, boolOf]
  have er : gs.map tupG ++ b :: r = gs.map tupG ++ (b :: r) := rfl
  refine fs_seq ((fs_for (ys := gs.map tupG ++ b :: r) (it := .vals (gs.map tupG ++ b :: r)) (h1 := h ++ [.lst []]) (T := QT l h gs (b :: r)) (N := fun _ _ => False) (IQ l h w (.tup (gs.map tupG ++ b :: r)) gs (b :: r)) ?_ (.inl rfl) ⟨Keep.app _ hl, [], gs, none, rfl, rfl, rfl, by simp, rfl⟩ ?_ ?_).imp (fun _ _ q => q.elim) fun u h' q => ⟨q.2.1, q.1⟩)
  · simp [eFn_a, aCons_a, aNil_a, eVar_a, eC_a, eOp_a, eUn_a, eCall_a, eNew_a, lLst_a, eTup_a, tVal_a, eSl_a, pNone_a, pSome_a, eSeq_a, eSeqL_a, lSeq_a, lSeqL_a, lRev_a, iVal_a, eAppend_a, eExtend_a, eExtendL_a, eDict0_a, startE, R.bind_ok, R.fl_ok, R.lift_some, R.opt_some, opAdd, opIx, opSl, intOf, fLenA, fMax2, fTuple, fList, seqOf, Z.listOf, itOf, boolOf]
  · intro x rest σ h' I
    exact loop_ok (h0 := h) hl tg ht (fun b' r' e => by cases e; exact hb) I
  · rintro σ h' ⟨_, a, b', x, _, er, _⟩
    simp at er
theorem isp_good {l : Nat} {h : EH} {gs : List (List Str)} {names : List Str} (hl : l < List.length h) (tg : ∀ g ∈ gs, ∀ t ∈ g, t ∈ TX) (tn : ∀ t ∈ names, t ∈ TX) (ht : tot gs < 64) :
    ROk (Fis_partition [tupG names, .tup (gs.map tupG)] h) (QP l h (isPart names gs)) := by
  refine ok_fn ?_
  unfold bis_partition
  refine fs_seq (fs_if ?_)
  refine ok_bind ?_
  simp [eFn_a, aCons_a, aNil_a, eVar_a, eC_a, eOp_a, eUn_a, eCall_a, eNew_a, lLst_a, eTup_a, tVal_a, eSl_a, pNone_a, pSome_a, eSeq_a, eSeqL_a, lSeq_a, lSeqL_a, lRev_a, iVal_a, eAppend_a, eExtend_a, eExtendL_a, eDict0_a, startE, R.bind_ok, R.fl_ok, R.lift_some, R.opt_some, opAdd, opIx, opSl, intOf, fLenA, fMax2, fTuple, fList, seqOf, Z.listOf, itOf, boolOf, isTy_tt, sNil_a]
  refine fs_seq (fs_set ?_)
  simp [eFn_a, aCons_a, aNil_a, eVar_a, eC_a, eOp_a, eUn_a, eCall_a, eNew_a, lLst_a, eTup_a, tVal_a, eSl_a, pNone_a, pSome_a, eSeq_a, eSeqL_a, lSeq_a, lSeqL_a, lRev_a, iVal_a, eAppend_a, eExtend_a, eExtendL_a, eDict0_a, startE, R.bind_ok, R.fl_ok, R.lift_some, R.opt_some, opAdd, opIx, opSl, intOf, fLenA, fMax2, fTuple, fList, seqOf, Z.listOf, itOf, boolOf]
  refine fs_seq ((fs_for (ys := gs.map tupG) (it := .vals (gs.map tupG)) (h1 := h ++ [.lst []]) (T := QT l h gs []) (N := IQ l h (tupG names) (.tup (gs.map tupG)) gs [] []) (IQ l h (tupG names) (.tup (gs.map tupG)) gs []) ?_ (.inl rfl) ⟨Keep.app _ hl, [], gs, none, rfl, by simp, rfl, by simp, rfl⟩ ?_ (fun _ _ q => q)).imp ?_ fun u h' q => ⟨by rw [q.2.1]; simp [isPart, q.2.2 rfl], q.1⟩)
  · simp [eFn_a, aCons_a, aNil_a, eVar_a, eC_a, eOp_a, eUn_a, eCall_a, eNew_a, lLst_a, eTup_a, tVal_a, eSl_a, pNone_a, pSome_a, eSeq_a, eSeqL_a, lSeq_a, lSeqL_a, lRev_a, iVal_a, eAppend_a, eExtend_a, eExtendL_a, eDict0_a, startE, R.bind_ok, R.fl_ok, R.lift_some, R.opt_some, opAdd, opIx, opSl, intOf, fLenA, fMax2, fTuple, fList, seqOf, Z.listOf, itOf, boolOf]
  · intro x rest σ h' I
    exact loop_ok (h0 := h) hl tg ht (fun b' r' e => by cases e) I
  · rintro σ h' ⟨K, a, b, x, eab, er, oa, ef, rfl⟩
    have : b = [] := by cases b with | nil => rfl | cons _ _ => simp at er
    subst this
    simp only [List.append_nil] at eab
    subst eab
    have hl' := Nat.lt_of_lt_of_le hl K.len
    refine fs_seq (fs_set ?_)
    rw [eNew_a]
    refine ok_bind (ok_lc (ys := gs.map tupG) (h1 := h') (it := .vals (gs.map tupG)) (fun rest acc h'' => h'' = h' ∧ ∃ a b, gs = a ++ b ∧ rest = b.map tupG ∧ acc = (a.map fst).map EV.str) ?_ (.inl rfl) ⟨rfl, [], gs, rfl, rfl, rfl⟩ ?_ ?_)
    · simp [eFn_a, aCons_a, aNil_a, eVar_a, eC_a, eOp_a, eUn_a, eCall_a, eNew_a, lLst_a, eTup_a, tVal_a, eSl_a, pNone_a, pSome_a, eSeq_a, eSeqL_a, lSeq_a, lSeqL_a, lRev_a, iVal_a, eAppend_a, eExtend_a, eExtendL_a, eDict0_a, startE, R.bind_ok, R.fl_ok, R.lift_some, R.opt_some, opAdd, opIx, opSl, intOf, fLenA, fMax2, fTuple, fList, seqOf, Z.listOf, itOf, boolOf]
    · rintro y r acc h'' ⟨rfl, a, b, eab, er, rfl⟩
      refine ⟨_, rfl, ?_⟩
      cases b with
      | nil => simp at er
      | cons g b =>
        simp only [List.map_cons, List.cons.injEq] at er
        obtain ⟨rfl, rfl⟩ := er
        have og : okG g = true := by rw [eab] at oa; simp at oa; exact oa.2.1
        have la : a.length ≤ tot gs := by have := len_tot gs oa; rw [eab] at this ⊢; simp only [List.length_append] at this; omega
        cases g with
        | nil => cases og
        | cons s g =>
          have i0 : atI (.str s :: g.map EV.str) 0 = some (.str s) := by rw [atI_int (by omega) (by simp)]; rfl
          refine ok_step (by simp; omega) ?_
          simp [eFn_a, aCons_a, aNil_a, eVar_a, eC_a, eOp_a, eUn_a, eCall_a, eNew_a, lLst_a, eTup_a, tVal_a, eSl_a, pNone_a, pSome_a, eSeq_a, eSeqL_a, lSeq_a, lSeqL_a, lRev_a, iVal_a, eAppend_a, eExtend_a, eExtendL_a, eDict0_a, startE, R.bind_ok, R.fl_ok, R.lift_some, R.opt_some, opAdd, opIx, opSl, intOf, fLenA, fMax2, fTuple, fList, seqOf, Z.listOf, itOf, boolOf, wipeE, i0]
          exact ⟨a ++ [s :: g], b, by simp [eab], rfl, by simp [fst]⟩
    · rintro acc h'' ⟨rfl, a, b, eab, er, rfl⟩
      have : b = [] := by cases b with | nil => rfl | cons _ _ => simp at er
      subst this
      simp only [List.append_nil] at eab
      subst eab
      have lf : (gs.map fst).length < 64 := by have := len_tot gs oa; simp only [List.length_map]; omega
      obtain ⟨fs, hfs⟩ : ∃ x, x = gs.map fst := ⟨_, rfl⟩
      obtain ⟨fl, hfl⟩ : ∃ x, x = gs.flatten := ⟨_, rfl⟩
      have tfs : ∀ t ∈ fs, t ∈ TX := by rw [hfs]; intro t q; obtain ⟨g, h1, h2⟩ := List.mem_flatten.mp (fst_sub gs oa t q); exact tg g h1 t h2
      have tfl : ∀ t ∈ fl, t ∈ TX := by rw [hfl]; intro t q; obtain ⟨g, h1, h2⟩ := List.mem_flatten.mp q; exact tg g h1 t h2
      have lfl : fl.length < 64 := by rw [hfl]; exact ht
      rw [← hfs] at lf ⊢
      rw [← hfl] at ef
      have so1 := fSorted_map lf
      have so2 := fSorted_map lfl
      have da : ∀ t, data (h'' ++ .lst (fs.map EV.str) :: t) (.ref (List.length h'')) = some (dL fs) := fun t => data_lst (by simp) tfs
      have db : ∀ t, data (h'' ++ .lst (fs.map EV.str) :: .lst ((sortS fs).map EV.str) :: t) (.ref (List.length h'' + 1)) = some (dL (sortS fs)) := fun t => data_lst (by simp) (sortS_tx tfs)
      have dc : ∀ t, data (h'' ++ .lst (fs.map EV.str) :: .lst ((sortS fs).map EV.str) :: .lst ((sortS fl).map EV.str) :: t) (.ref (List.length h'' + 2)) = some (dL (sortS fl)) := fun t => data_lst (by simp) (sortS_tx tfl)
      have dd : ∀ t, data (h'' ++ .lst (fs.map EV.str) :: .lst ((sortS fs).map EV.str) :: .lst ((sortS fl).map EV.str) :: .lst (names.map EV.str) :: t) (.ref (List.length h'' + 3)) = some (dL names) := fun t => data_lst (by simp) tn
      have ef3 : ∀ t, (h'' ++ t)[List.length h]? = some (.lst (fl.map EV.str)) := fun t => by rw [List.getElem?_append_left (lt_of_get ef)]; exact ef
      have ip : isPart names gs = (decide (fs = sortS fs) && decide (sortS fl = names)) := by
        rw [isPart, oa, ← hfs, ← hfl, Bool.true_and]; congr 1; simp only [eq_comm]
      refine fs_ret ?_
      rw [ip]
      by_cases hc : fs = sortS fs
      · have hd := decide_eq_true hc
        simp [eFn_a, aCons_a, aNil_a, eVar_a, eC_a, eOp_a, eUn_a, eCall_a, eNew_a, lLst_a, eTup_a, tVal_a, eSl_a, pNone_a, pSome_a, eSeq_a, eSeqL_a, lSeq_a, lSeqL_a, lRev_a, iVal_a, eAppend_a, eExtend_a, eExtendL_a, eDict0_a, startE, R.bind_ok, R.fl_ok, R.lift_some, R.opt_some, opAdd, opIx, opSl, intOf, fLenA, fMax2, fTuple, fList, seqOf, Z.listOf, itOf, boolOf, eAndB_a, so1, opEq, da, db, dc, dd, ef3, so2, eqv_dL, hd]
        exact ⟨rfl, K.trans (Keep.app _ hl')⟩
      · simp [eFn_a, aCons_a, aNil_a, eVar_a, eC_a, eOp_a, eUn_a, eCall_a, eNew_a, lLst_a, eTup_a, tVal_a, eSl_a, pNone_a, pSome_a, eSeq_a, eSeqL_a, lSeq_a, lSeqL_a, lRev_a, iVal_a, eAppend_a, eExtend_a, eExtendL_a, eDict0_a, startE, R.bind_ok, R.fl_ok, R.lift_some, R.opt_some, opAdd, opIx, opSl, intOf, fLenA, fMax2, fTuple, fList, seqOf, Z.listOf, itOf, boolOf, eAndB_a, so1, opEq, da, db, eqv_dL, hc]
        exact ⟨rfl, K.trans (Keep.app _ hl')⟩
end Law
end

section
set_option maxHeartbeats 1000000
namespace Law
open PySem L2 Z
theorem Gs.set {l : Nat} {h : EH} {m : Nat} {o : EO} : ∀ {vs : List EV} {gs : List (List Str)}, Gs l h vs gs → (∀ v ∈ vs, v ≠ .ref m) → Gs l (h.set m o) vs gs
  | [], [], _, _ => trivial
  | v :: vs, g :: gs, a, q => by
    obtain ⟨⟨k, rfl, d, e, t⟩, b⟩ := a
    refine ⟨⟨k, rfl, d, ?_, t⟩, Gs.set b fun v hv => q v (by simp [hv])⟩
    rw [List.getElem?_set_ne (fun z => q (.ref k) (by simp) (by rw [z]))]; exact e
theorem Gs.split {l : Nat} {h : EH} {v : EV} {vb : List EV} : ∀ {va : List EV} {gs : List (List Str)}, Gs l h (va ++ v :: vb) gs → ∃ ga g gb, gs = ga ++ g :: gb ∧ Gs l h va ga ∧ Gd l h v g ∧ Gs l h vb gb
  | [], g :: gs, a => ⟨[], g, gs, rfl, trivial, a.1, a.2⟩
  | u :: va, g :: gs, a => by
    obtain ⟨ga, g', gb, e, h1, h2, h3⟩ := Gs.split a.2
    exact ⟨g :: ga, g', gb, by simp [e], ⟨a.1, h1⟩, h2, h3⟩
def rg (i k : Nat) : List EV := (List.range' i k).map fun (j : Nat) => EV.int (j : Int)
theorem rangeL_rg (n : Nat) : rangeL 0 n = rg 0 n := by simp [rangeL, rg, List.range_eq_range']
theorem rg_cons {i k : Nat} {x : EV} {r : List EV} (e : x :: r = rg i k) : ∃ k', k = k' + 1 ∧ x = .int (i : Int) ∧ r = rg (i + 1) k' := by
  cases k with
  | zero => simp [rg] at e
  | succ k => simp [rg, List.range'_succ] at e; exact ⟨k, rfl, e.1, e.2⟩
theorem valE_mem {kvs : List (Key × EV)} {k : Key} {v : EV} (e : valE kvs k = some v) : v ∈ kvs.map (·.2) := by
  unfold valE at e
  cases f : kvs.find? fun kv => decide (kv.1 = k) with
  | none => rw [f] at e; cases e
  | some kv => rw [f] at e; cases e; exact List.mem_map_of_mem (List.mem_of_find?_eq_some f)
theorem valE_none {kvs : List (Key × EV)} {k : Key} (e : valE kvs k = none) (z : EV) : putE kvs k z = kvs ++ [(k, z)] := by
  unfold valE at e
  cases f : kvs.find? fun kv => decide (kv.1 = k) with
  | some kv => rw [f] at e; cases e
  | none =>
    unfold putE
    rw [if_neg]
    intro q
    obtain ⟨kv, h1, h2⟩ := List.any_eq_true.mp q
    exact absurd h2 (by simpa using List.find?_eq_none.mp f kv h1)
def IP (l : Nat) (h : EH) (n1 n2 : Nat) (N : Nat) : List EV → ES → EH → Prop := fun rest σ h' => Keep l h h' ∧ ∃ (i k : Nat) (kvs : List (Key × EV)) (gs : List (List Str)) (x y : Option EV), i + k = N ∧ rest = rg i k ∧ h'[List.length h]? = some (.dK kvs) ∧
  (kvs.map (·.2)).Nodup ∧ (∀ v ∈ kvs.map (·.2), ∃ m, v = .ref m ∧ List.length h < m) ∧ Gs l h' (kvs.map (·.2)) gs ∧ tot gs ≤ i ∧ kvs.length ≤ i ∧ σ = [some (.ref n1), some (.ref n2), some (.ref (List.length h)), x, y]
def PP (l : Nat) (h : EH) (N : Nat) : EV → EH → Prop := fun v h' => Keep l h h' ∧ ∃ gs, Gr l h' v gs ∧ tot gs ≤ N ∧ gs.length ≤ N
theorem rng_ok {n : Nat} {h : EH} (q : n ≤ 1000) : rng1 [.int (n : Int)] h = .ok (.vals (rg 0 n)) h := by
  have a : -(2 ^ 62) ≤ (n : Int) ∧ (n : Int) < 2 ^ 62 := by omega
  simp only [rng1, a, and_self, if_true, Int.toNat_natCast, rangeL_rg]
theorem rng_e {n : Nat} {fa : ES → M (List EV)} {σ : ES} {h h1 : EH} (e : fa σ h = .ok [.int (n : Int)] h1) (q : n ≤ 1000) : iRng1' fa σ h = .ok (.vals (rg 0 n)) h1 := by
  show (fa σ h).bind rng1 = _
  rw [e, R.bind_ok, rng_ok q]
theorem part_step {l n1 n2 : Nat} {h : EH} {names : List Str} {cs : List Int} (L : Left l h) (en1 : h[n1]? = some (.lst (names.map EV.str))) (d1 : n1 ≠ l) (tn : ∀ t ∈ names, t ∈ TX) (en2 : h[n2]? = some (.lst (cs.map EV.int))) (d2 : n2 ≠ l) (hc : cs.length = names.length) (hn : names.length ≤ 1000) : ∀ x r σ h', IP l h n1 n2 names.length (x :: r) σ h' → ∃ σ1, gN 3 x σ = some σ1 ∧ FlOk ((sSeq (sSet (gN 4) (eSetd (eVar 2) (eOp opIx (eVar 1) (eVar 3)) (eNew (lLst aNil))))
  (sExpr (eAppend (eVar 4) (eOp opIx (eVar 0) (eVar 3))))) σ1 h') (IP l h n1 n2 names.length r) (PP l h names.length) := by
  have hl := L.lt
  rintro x r σ h' ⟨K, i, k, kvs, gs, y, z, ik, er, ed, nd, hm, G, ht, hk, rfl⟩
  obtain ⟨k, rfl, rfl, rfl⟩ := rg_cons er
  refine ⟨_, rfl, ?_⟩
  have hi : i < names.length := by omega
  have hic : i < cs.length := by omega
  have hl' := Nat.lt_of_lt_of_le hl K.len
  have hd' := lt_of_get ed
  have a1 : atI (names.map EV.str) (i : Int) = some (.str names[i]) := by rw [atI_int (by omega) (by simp; omega)]; simp [hi]
  have a2 : atI (cs.map EV.int) (i : Int) = some (.int cs[i]) := by rw [atI_int (by omega) (by simp; omega)]; simp [hic]
  have tt : names[i] ∈ TX := tn _ (List.getElem_mem hi)
  generalize names[i] = tx at a1 tt
  generalize cs[i] = c at a2
  have f2 := K.get en2 d2
  have f1 : ∀ t, (h' ++ t)[n1]? = some (.lst (names.map EV.str)) := fun t => (K.trans (Keep.app t hl')).get en1 d1
  have ed3 : ∀ t, (h' ++ t)[List.length h]? = some (.dK kvs) := fun t => by rw [List.getElem?_append_left hd']; exact ed
  have hk' : kvs.length < 100000 := by omega
  have n1l := lt_of_get en1
  refine fs_seq (fs_set ?_)
  cases ev : valE kvs (.inl c) with
  | some v =>
    obtain ⟨m, rfl, hmd⟩ := hm v (valE_mem ev)
    obtain ⟨va, vb, evs⟩ := List.append_of_mem (valE_mem ev)
    rw [evs] at G nd
    obtain ⟨ga, g, gb, rfl, Ga, ⟨m', em', dm, emm, tm⟩, Gb⟩ := G.split
    cases em'
    have em3 : ∀ t, (h' ++ t)[m]? = some (.lst (g.map EV.str)) := fun t => by rw [List.getElem?_append_left (lt_of_get emm)]; exact emm
    have lg : g.length < 100000 := by simp [tot] at ht; omega
    simp [eFn_a, aCons_a, aNil_a, eVar_a, eC_a, eOp_a, eUn_a, eCall_a, eNew_a, lLst_a, eTup_a, tVal_a, eSl_a, pNone_a, pSome_a, eSeq_a, eSeqL_a, lSeq_a, lSeqL_a, lRev_a, iVal_a, eAppend_a, eExtend_a, eExtendL_a, eDict0_a, startE, R.bind_ok, R.fl_ok, R.lift_some, R.opt_some, opAdd, opIx, opSl, intOf, fLenA, fMax2, fTuple, fList, seqOf, Z.listOf, itOf, boolOf, eSetd_a, isDict, ed, f2, a2, setd, Z.keyOf, ed3, hk', ev]
    refine fs_expr ?_
    simp [eFn_a, aCons_a, aNil_a, eVar_a, eC_a, eOp_a, eUn_a, eCall_a, eNew_a, lLst_a, eTup_a, tVal_a, eSl_a, pNone_a, pSome_a, eSeq_a, eSeqL_a, lSeq_a, lSeqL_a, lRev_a, iVal_a, eAppend_a, eExtend_a, eExtendL_a, eDict0_a, startE, R.bind_ok, R.fl_ok, R.lift_some, R.opt_some, opAdd, opIx, opSl, intOf, fLenA, fMax2, fTuple, fList, seqOf, Z.listOf, itOf, boolOf, em3, f1, a1, lg]
    have Ga' := Ga.keep (Keep.app [.lst []] hl')
    have Gb' := Gb.keep (Keep.app [.lst []] hl')
    have nn := List.nodup_append.mp nd
    refine ⟨(K.trans (Keep.app [.lst []] hl')).set _ (by omega) hl, i + 1, k, kvs, ga ++ (g ++ [tx]) :: gb, _, _, by omega, rfl, ?_, by rw [evs]; exact nd, by rw [evs] at hm ⊢; exact hm, ?_, ?_, by omega, rfl⟩
    · rw [List.getElem?_set_ne (by omega)]; exact ed3 _
    · rw [evs]
      refine Gs.app (Ga'.set fun v hv z => ?_) ⟨⟨m, rfl, dm, ?_, ?_⟩, Gb'.set fun v hv z => ?_⟩
      · subst z; exact nn.2.2 _ hv _ (by simp) rfl
      · rw [List.getElem?_set_self (by have := lt_of_get emm; simp; omega)]; simp
      · intro x hx
        rcases List.mem_append.mp hx with q | q
        · exact tm x q
        · rw [List.mem_singleton.mp q]; exact tt
      · subst z; exact (List.nodup_cons.mp nn.2.1).1 hv
    · simp [tot] at ht ⊢; omega
  | none =>
    simp [eFn_a, aCons_a, aNil_a, eVar_a, eC_a, eOp_a, eUn_a, eCall_a, eNew_a, lLst_a, eTup_a, tVal_a, eSl_a, pNone_a, pSome_a, eSeq_a, eSeqL_a, lSeq_a, lSeqL_a, lRev_a, iVal_a, eAppend_a, eExtend_a, eExtendL_a, eDict0_a, startE, R.bind_ok, R.fl_ok, R.lift_some, R.opt_some, opAdd, opIx, opSl, intOf, fLenA, fMax2, fTuple, fList, seqOf, Z.listOf, itOf, boolOf, eSetd_a, isDict, ed, f2, a2, setd, Z.keyOf, ed3, hk', ev, valE_none ev]
    refine fs_expr ?_
    have hne : List.length h ≠ List.length h' := by omega
    have s1 : ((h' ++ [EO.lst []]).set (List.length h) (EO.dK (kvs ++ [(Sum.inl c, EV.ref (List.length h'))])))[List.length h']? = some (.lst []) := by rw [List.getElem?_set_ne hne]; simp
    have s2 : ((h' ++ [EO.lst []]).set (List.length h) (EO.dK (kvs ++ [(Sum.inl c, EV.ref (List.length h'))])))[n1]? = some (.lst (names.map EV.str)) := by rw [List.getElem?_set_ne (by omega)]; exact f1 _
    obtain ⟨hS, eS⟩ : ∃ x : EH, x = (h' ++ [EO.lst []]).set (List.length h) (EO.dK (kvs ++ [(Sum.inl c, EV.ref (List.length h'))])) := ⟨_, rfl⟩
    rw [← eS] at s1 s2 ⊢
    simp [eFn_a, aCons_a, aNil_a, eVar_a, eC_a, eOp_a, eUn_a, eCall_a, eNew_a, lLst_a, eTup_a, tVal_a, eSl_a, pNone_a, pSome_a, eSeq_a, eSeqL_a, lSeq_a, lSeqL_a, lRev_a, iVal_a, eAppend_a, eExtend_a, eExtendL_a, eDict0_a, startE, R.bind_ok, R.fl_ok, R.lift_some, R.opt_some, opAdd, opIx, opSl, intOf, fLenA, fMax2, fTuple, fList, seqOf, Z.listOf, itOf, boolOf, s1, s2, a1]
    subst eS
    have G' := G.keep (Keep.app [.lst []] hl')
    refine ⟨((K.trans (Keep.app [.lst []] hl')).set _ (Nat.le_refl _) hl).set _ (by omega) hl, i + 1, k, kvs ++ [(Sum.inl c, EV.ref (List.length h'))], gs ++ [[tx]], _, _, by omega, rfl, ?_, ?_, ?_, ?_, ?_, by simp; omega, rfl⟩
    · rw [List.getElem?_set_ne (by omega), List.getElem?_set_self (by simp; omega)]
    · rw [List.map_append]
      refine List.nodup_append.mpr ⟨nd, by simp, fun v hv w hw z => ?_⟩
      simp at hw
      obtain ⟨m, em, _⟩ := hm v hv
      have hmv : Gs l h' (kvs.map (·.2)) gs := G
      obtain ⟨va, vb, evs⟩ := List.append_of_mem hv
      rw [evs] at hmv
      obtain ⟨_, _, _, _, _, ⟨m', em', _, e2, _⟩, _⟩ := hmv.split
      have := lt_of_get e2
      rw [z, hw] at em'
      cases em'
      omega
    · intro v hv
      rw [List.map_append] at hv
      rcases List.mem_append.mp hv with q | q
      · exact hm v q
      · simp at q; exact ⟨_, q, by omega⟩
    · rw [List.map_append]
      have ne : ∀ v ∈ kvs.map (·.2), v ≠ EV.ref (List.length h) ∧ v ≠ EV.ref (List.length h') := fun v hv => by
        obtain ⟨m, em, hmm⟩ := hm v hv
        obtain ⟨va, vb, evs⟩ := List.append_of_mem hv
        have hmv : Gs l h' (kvs.map (·.2)) gs := G
        rw [evs] at hmv
        obtain ⟨_, _, _, _, _, ⟨m', em', _, e2, _⟩, _⟩ := hmv.split
        have := lt_of_get e2
        rw [em] at em' ⊢
        cases em'
        exact ⟨fun z => by cases z; omega, fun z => by cases z; omega⟩
      refine Gs.app ((G'.set fun v hv => (ne v hv).1).set fun v hv => (ne v hv).2) ⟨⟨_, rfl, by omega, ?_, fun x hx => by rw [List.mem_singleton.mp hx]; exact tt⟩, trivial⟩
      rw [List.getElem?_set_self (by simp)]; rfl
    · simp [tot] at ht ⊢; omega
theorem part_fin {l n1 n2 : Nat} {h : EH} {names : List Str} {cs : List Int} (L : Left l h) (en1 : h[n1]? = some (.lst (names.map EV.str))) (d1 : n1 ≠ l) (tn : ∀ t ∈ names, t ∈ TX) (en2 : h[n2]? = some (.lst (cs.map EV.int))) (d2 : n2 ≠ l) (hc : cs.length = names.length) (hn : names.length ≤ 1000) : ∀ σ h', IP l h n1 n2 names.length [] σ h' → FlOk ((sRet (eNew (lLock (selE (eVar 2)) (lLc (iDV (eVar 2)) (gN 4) tYes' (eNew (lSeq fList (eVar 4))) [4])))) σ h') (fun _ h' => PP l h names.length .non h') (PP l h names.length) := by
  have hl := L.lt
  rintro σ h' ⟨K, i, k, kvs, gs, y, z, ik, er, ed, nd, hm, G, ht, hk, rfl⟩
  have hl' := Nat.lt_of_lt_of_le hl K.len
  have hd' := lt_of_get ed
  refine fs_ret ?_
  rw [eNew_a]
  have sel : selE (eVar 2) [some (EV.ref n1), some (EV.ref n2), some (EV.ref (List.length h)), y, z] h' = some (List.length h) := rfl
  have Kd := K.set (.dF kvs) (Nat.le_refl _) hl
  have nd' : ∀ v ∈ kvs.map (·.2), v ≠ EV.ref (List.length h) := fun v hv z => by
    obtain ⟨m, em, hmm⟩ := hm v hv
    rw [z] at em; cases em; omega
  have lc : ROk (lLc (iDV (eVar 2)) (gN 4) tYes' (eNew (lSeq fList (eVar 4))) [4] [some (EV.ref n1), some (EV.ref n2), some (EV.ref (List.length h)), y, z] (h'.set (List.length h) (.dF kvs))) (fun acc h'' => Keep l h h'' ∧ List.length h < List.length h'' ∧ Gs l h'' acc gs ∧ ∀ v ∈ acc, v ≠ EV.ref (List.length h)) := by
    refine ok_lc (ys := kvs.map (·.2)) (h1 := h'.set (List.length h) (.dF kvs)) (it := .vals (kvs.map (·.2))) (fun rest acc h'' => Keep l h h'' ∧ List.length h < List.length h'' ∧ ∃ a b, gs = a ++ b ∧ Gs l h'' rest b ∧ Gs l h'' acc a ∧ ∀ v ∈ acc, v ≠ EV.ref (List.length h)) ?_ (.inl rfl) ⟨Kd, by simp; omega, [], gs, rfl, G.set nd', trivial, by simp⟩ ?_ ?_
    · have : (h'.set (List.length h) (EO.dF kvs))[List.length h]? = some (.dF kvs) := List.getElem?_set_self hd'
      simp [eFn_a, aCons_a, aNil_a, eVar_a, eC_a, eOp_a, eUn_a, eCall_a, eNew_a, lLst_a, eTup_a, tVal_a, eSl_a, pNone_a, pSome_a, eSeq_a, eSeqL_a, lSeq_a, lSeqL_a, lRev_a, iVal_a, eAppend_a, eExtend_a, eExtendL_a, eDict0_a, startE, R.bind_ok, R.fl_ok, R.lift_some, R.opt_some, opAdd, opIx, opSl, intOf, fLenA, fMax2, fTuple, fList, seqOf, Z.listOf, itOf, boolOf, iDV_a, dvals, this]
    · rintro x r acc h'' ⟨K2, hlt, a, b, eab, Gr', Ga, na⟩
      refine ⟨_, rfl, ?_⟩
      cases b with
      | nil => exact Gr'.elim
      | cons g b =>
        obtain ⟨⟨m, rfl, dm, em, tm⟩, Gb⟩ := Gr'
        have hl2 := Nat.lt_of_lt_of_le hl K2.len
        have := G.len
        have := Ga.len
        have := congrArg List.length eab
        refine ok_step (by simp only [List.length_append, List.length_cons, List.length_map] at *; omega) ?_
        have w4 : wipeE [some (EV.ref n1), some (EV.ref n2), some (EV.ref (List.length h)), y, z] [4] = [some (EV.ref n1), some (EV.ref n2), some (EV.ref (List.length h)), y, none] := rfl
        simp [eFn_a, aCons_a, aNil_a, eVar_a, eC_a, eOp_a, eUn_a, eCall_a, eNew_a, lLst_a, eTup_a, tVal_a, eSl_a, pNone_a, pSome_a, eSeq_a, eSeqL_a, lSeq_a, lSeqL_a, lRev_a, iVal_a, eAppend_a, eExtend_a, eExtendL_a, eDict0_a, startE, R.bind_ok, R.fl_ok, R.lift_some, R.opt_some, opAdd, opIx, opSl, intOf, fLenA, fMax2, fTuple, fList, seqOf, Z.listOf, itOf, boolOf, w4, em]
        refine ⟨K2.trans (Keep.app _ hl2), by omega, a ++ [g], b, by simp [eab], Gb.keep (Keep.app _ hl2), Gs.app (Ga.keep (Keep.app _ hl2)) ⟨Gd.mk (k := 0) rfl hl2 rfl tm, trivial⟩, fun v hv z => ?_⟩
        rcases hv with hv | hv
        · exact na v hv z
        · rw [hv] at z; injection z with z; omega
    · rintro acc h'' ⟨K2, hlt, a, b, eab, Gr', Ga, na⟩
      cases b with
      | cons g b => exact Gr'.elim
      | nil =>
        simp only [List.append_nil] at eab
        subst eab
        exact ⟨K2, hlt, Ga, na⟩
  obtain ⟨acc, h'', e2, K2, hlt, Ga, na⟩ := lc.get
  refine ok_bind ?_
  unfold lLock
  rw [sel]
  simp only [ed, e2, unlk, ROk_ok]
  have K3 := K2.set (.dK kvs) (Nat.le_refl _) hl
  have hl3 := Nat.lt_of_lt_of_le hl K3.len
  have Ga' := Ga.set (o := .dK kvs) na
  have gl := G.len
  simp only [List.length_map] at gl
  exact ⟨K3.trans (Keep.app _ hl3), gs, Gr.mk (k := 0) rfl hl3 rfl (Ga'.keep (Keep.app _ hl3)), by omega, by omega⟩
theorem part_ok {l n1 n2 : Nat} {h : EH} {names : List Str} {cs : List Int} (L : Left l h) (en1 : h[n1]? = some (.lst (names.map EV.str))) (d1 : n1 ≠ l) (tn : ∀ t ∈ names, t ∈ TX) (en2 : h[n2]? = some (.lst (cs.map EV.int))) (d2 : n2 ≠ l) (hc : cs.length = names.length) (hn : names.length ≤ 1000) :
    ROk (F_law_part [.ref n1, .ref n2] h) (PP l h names.length) := by
  have hl := L.lt
  refine ok_fn ?_
  unfold b_law_part
  refine fs_seq (fs_set ?_)
  simp [eFn_a, aCons_a, aNil_a, eVar_a, eC_a, eOp_a, eUn_a, eCall_a, eNew_a, lLst_a, eTup_a, tVal_a, eSl_a, pNone_a, pSome_a, eSeq_a, eSeqL_a, lSeq_a, lSeqL_a, lRev_a, iVal_a, eAppend_a, eExtend_a, eExtendL_a, eDict0_a, startE, R.bind_ok, R.fl_ok, R.lift_some, R.opt_some, opAdd, opIx, opSl, intOf, fLenA, fMax2, fTuple, fList, seqOf, Z.listOf, itOf, boolOf]
  have e1' : ∀ t, (h ++ t)[n1]? = some (.lst (names.map EV.str)) := fun t => (Keep.app t hl).get en1 d1
  refine fs_seq (fs_for (ys := rg 0 names.length) (it := .vals (rg 0 names.length)) (h1 := h ++ [.dK []]) (IP l h n1 n2 names.length) ?_ (.inl rfl) ⟨Keep.app _ hl, 0, names.length, [], [], none, none, by simp, rfl, by simp, by simp, by simp, trivial, by simp [tot], by simp, rfl⟩ ?_ ?_)
  · refine rng_e ?_ hn
    simp [eFn_a, aCons_a, aNil_a, eVar_a, eC_a, eOp_a, eUn_a, eCall_a, eNew_a, lLst_a, eTup_a, tVal_a, eSl_a, pNone_a, pSome_a, eSeq_a, eSeqL_a, lSeq_a, lSeqL_a, lRev_a, iVal_a, eAppend_a, eExtend_a, eExtendL_a, eDict0_a, startE, R.bind_ok, R.fl_ok, R.lift_some, R.opt_some, opAdd, opIx, opSl, intOf, fLenA, fMax2, fTuple, fList, seqOf, Z.listOf, itOf, boolOf, e1']
  · exact part_step L en1 d1 tn en2 d2 hc hn
  · exact part_fin L en1 d1 tn en2 d2 hc hn
end Law
end

section
set_option maxHeartbeats 1000000
namespace Law
open PySem L2 Z
def LP (l : Nat) (h : EH) (N : Nat) : List EV → EH → Prop := fun acc h' => Keep l h h' ∧ ∃ cs : List Int, acc = cs.map EV.int ∧ cs.length = N
def IL (l : Nat) (h : EH) (N : Nat) : List EV → List EV → EH → Prop := fun rest acc h' => Keep l h h' ∧ ∃ cs : List Int, acc = cs.map EV.int ∧ cs.length + rest.length = N
theorem labels_ok {l n1 : Nat} {h : EH} {names : List Str} {many : Int} {s : EV} (L : Left l h) (en1 : h[n1]? = some (.lst (names.map EV.str))) (d1 : n1 ≠ l) (hn : names.length ≤ 1000) (m0 : 0 < many) (m1 : many < 1073741824) :
    ROk (lLc (iVal (eVar 2)) (gN 12) tYes' (eFn F_law_draw (aCons (eVar 1) (aCons (eVar 3) aNil))) [12] [some s, some (.ref l), some (.ref n1), some (.int many), none, none, none, none, none, none, none, none, none, none] h) (LP l h names.length) := by
  refine ok_lc (ys := names.map EV.str) (h1 := h) (it := .obj n1) (IL l h names.length) ?_ (.inr ⟨n1, rfl, by simp; omega, fun _ _ _ q => q.1.get en1 d1⟩) ⟨Keep.refl, [], rfl, by simp⟩ ?_ ?_
  · simp [eFn_a, aCons_a, aNil_a, eVar_a, eC_a, eOp_a, eUn_a, eCall_a, eNew_a, lLst_a, eTup_a, tVal_a, eSl_a, pNone_a, pSome_a, eSeq_a, eSeqL_a, lSeq_a, lSeqL_a, lRev_a, iVal_a, eAppend_a, eExtend_a, eExtendL_a, eDict0_a, startE, R.bind_ok, R.fl_ok, R.lift_some, R.opt_some, opAdd, opIx, opSl, intOf, fLenA, fMax2, fTuple, fList, seqOf, Z.listOf, itOf, boolOf, en1]
  · rintro x r acc h' ⟨K, cs, rfl, hc⟩
    refine ⟨_, rfl, ?_⟩
    simp only [List.length_cons] at hc
    refine ok_step (by simp; omega) ?_
    obtain ⟨i, h2, e, i0, i1, k⟩ := draw (K.left L) m0 m1
    simp [eFn_a, aCons_a, aNil_a, eVar_a, eC_a, eOp_a, eUn_a, eCall_a, eNew_a, lLst_a, eTup_a, tVal_a, eSl_a, pNone_a, pSome_a, eSeq_a, eSeqL_a, lSeq_a, lSeqL_a, lRev_a, iVal_a, eAppend_a, eExtend_a, eExtendL_a, eDict0_a, startE, R.bind_ok, R.fl_ok, R.lift_some, R.opt_some, opAdd, opIx, opSl, intOf, fLenA, fMax2, fTuple, fList, seqOf, Z.listOf, itOf, boolOf, wipeE, e]
    exact ⟨K.trans k, cs ++ [i], by simp, by simp; omega⟩
  · rintro acc h' ⟨K, cs, rfl, hc⟩
    exact ⟨K, cs, rfl, by simpa using hc⟩
theorem w13 {σ : ES} {v : EV} (hs : σ.length = 14) : ((wipeE σ [13]).set 13 (some v))[13]? = some (some v) := by
  simp only [wipeE]
  rw [List.getElem?_set_self (by simp [hs])]
theorem value_ok {l : Nat} {h : EH} {σ : ES} {n : Nat} {vs : List EV} {gs : List (List Str)} (hs : σ.length = 14) (e4 : σ[4]? = some (some (.ref n))) (en : h[n]? = some (.lst vs)) (G : Gs l h vs gs) (hl : gs.length ≤ 1000) :
    lLc (iVal (eVar 4)) (gN 13) tYes' (eSeq fTuple (eVar 13)) [13] σ h = .ok (gs.map tupG) h := by
  have : ROk (lLc (iVal (eVar 4)) (gN 13) tYes' (eSeq fTuple (eVar 13)) [13] σ h) (fun acc h' => h' = h ∧ acc = gs.map tupG) := by
    have gl := G.len
    refine ok_lc (ys := vs) (h1 := h) (it := .obj n) (fun rest acc h' => h' = h ∧ ∃ a b, gs = a ++ b ∧ Gs l h rest b ∧ acc = a.map tupG) ?_ (.inr ⟨n, rfl, by omega, fun _ _ _ q => by rw [q.1]; exact en⟩) ⟨rfl, [], gs, rfl, G, rfl⟩ ?_ ?_
    · simp only [iVal_a, eVar_a, e4, R.bind_ok, itOf, en]
    · rintro x r acc h' ⟨rfl, a, b, eab, Gb, rfl⟩
      refine ⟨_, rfl, ?_⟩
      cases b with
      | nil => exact Gb.elim
      | cons g b =>
        obtain ⟨⟨m, rfl, dm, em, tm⟩, Gb⟩ := Gb
        have := congrArg List.length eab
        simp only [List.length_append, List.length_cons] at this
        refine ok_step (by simp; omega) ?_
        simp only [eSeq_a, eVar_a, w13 hs, R.bind_ok, seqOf, em, Option.bind_some, fTuple, R.opt_some, ROk_ok]
        exact ⟨trivial, a ++ [g], b, by simp [eab], Gb, by simp⟩
    · rintro acc h' ⟨rfl, a, b, eab, Gb, rfl⟩
      cases b with
      | cons g b => exact Gb.elim
      | nil => exact ⟨rfl, by simp [eab]⟩
  obtain ⟨acc, h', e, rfl, rfl⟩ := this.get
  exact e
def SP (l : Nat) (h : EH) (gs : List (List Str)) : List EV → EH → Prop := fun acc h' => Keep l h h' ∧ Gs l h' acc gs
def IS (l : Nat) (h : EH) (gs : List (List Str)) : List EV → List EV → EH → Prop := fun rest acc h' => Keep l h h' ∧ ∃ a b, gs = a ++ b ∧ rest = b.map tupG ∧ Gs l h' acc a
theorem lists_ok {l : Nat} {h h1 : EH} {fi : ES → M IT} {σ : ES} {gs : List (List Str)} (hl : l < List.length h) (hs : σ.length = 14) (ei : fi σ h1 = .ok (.vals (gs.map tupG)) h) (tg : ∀ g ∈ gs, ∀ t ∈ g, t ∈ TX) (hn : gs.length ≤ 1000) :
    ROk (lLc fi (gN 13) tYes' (eNew (lSeq fList (eVar 13))) [13] σ h1) (SP l h gs) := by
  refine ok_lc (ys := gs.map tupG) (h1 := h) (it := .vals (gs.map tupG)) (IS l h gs) ei (.inl rfl) ⟨Keep.refl, [], gs, rfl, rfl, trivial⟩ ?_ ?_
  · rintro x r acc h' ⟨K, a, b, eab, er, G⟩
    refine ⟨_, rfl, ?_⟩
    cases b with
    | nil => simp at er
    | cons g b =>
      simp only [List.map_cons, List.cons.injEq] at er
      obtain ⟨rfl, rfl⟩ := er
      have hl' := Nat.lt_of_lt_of_le hl K.len
      have := congrArg List.length eab
      have ga := G.len
      simp only [List.length_append, List.length_cons] at this
      refine ok_step (by omega) ?_
      simp only [eNew_a, lSeq_a, eVar_a, w13 hs, R.bind_ok, seqOf, Option.bind_some, fList, R.opt_some, ROk_ok]
      exact ⟨K.trans (Keep.app _ hl'), a ++ [g], b, by simp [eab], rfl, Gs.app (G.keep (Keep.app _ hl')) ⟨Gd.mk (k := 0) rfl hl' rfl (tg g (by rw [eab]; simp)), trivial⟩⟩
  · rintro acc h' ⟨K, a, b, eab, er, G⟩
    cases b with
    | cons g b => simp at er
    | nil => simp only [List.append_nil] at eab; subst eab; exact ⟨K, G⟩
/-! ### the names -/
def T8 : List Str := ["m.f", "m.ab", "n.c", "m.a", "n.a1", "o.zz", "m.main", "n.b"]
theorem T8_nodup : T8.Nodup := by decide +kernel
theorem T8_tx : ∀ t ∈ T8, t ∈ TX := by decide +kernel
theorem T8_ne : ("" : Str) ∉ T8 := by decide +kernel
theorem names_nd (k : Nat) : (sortS (T8.take k)).Nodup := (sortS_perm _).nodup_iff.mpr (T8_nodup.sublist (List.take_sublist _ _))
theorem names_tx (k : Nat) : ∀ t ∈ sortS (T8.take k), t ∈ TX := fun t q => T8_tx t (List.mem_of_mem_take ((sortS_perm _).mem_iff.mp q))
theorem names_ne (k : Nat) : ("" : Str) ∉ sortS (T8.take k) := fun q => T8_ne (List.mem_of_mem_take ((sortS_perm _).mem_iff.mp q))
theorem names_len (k : Nat) : (sortS (T8.take k)).length ≤ 8 := by
  rw [(sortS_perm _).length_eq, List.length_take]
  have : T8.length = 8 := rfl
  omega
end Law
end

section
set_option maxHeartbeats 1000000
namespace Law
open PySem L2 Z
def OK : EV → EH → Prop := fun v _ => v = .bl true
theorem data_bl (h : EH) (b : Bool) : data h (.bl b) = some (.bool b) := data_of rfl rfl
theorem eqv_bl (a b : Bool) : PyData.eqv (.bool a) (.bool b) = (a == b) := by simp only [PyData.eqv]
abbrev S0 (s : EV) (n1 : Nat) (many : Int) : ES := [some s, some (.ref 3), some (.ref n1), some (.int many)]
def IB (h0 : EH) (s : EV) (n1 : Nat) (many : Int) (N : Nat) : List EV → ES → EH → Prop := fun rest σ h => Keep 3 h0 h ∧ ∃ (i k : Nat) (v : EV) (gs : List (List Str)) (x : Option EV), i + k = N ∧ rest = rg i k ∧ Gr 3 h v gs ∧ tot gs + 1 ≤ 9 * 2 ^ i ∧ gs.length + 2 ≤ 10 * 2 ^ i ∧
  σ = [some s, some (.ref 3), some (.ref n1), some (.int many), some v, x, none, none, none, none, none, none, none, none]
theorem NotT.keep {l : Nat} {h h' : EH} {v : EV} (a : NotT l h v) (k : Keep l h h') : NotT l h' v := fun h'' k' => a h'' (k.trans k')
theorem NotT.lst {l : Nat} {h : EH} {m : Nat} {xs : List EV} (e : h[m]? = some (.lst xs)) (d : m ≠ l) : NotT l h (.ref m) := fun h' k => isTy_lt (k.get e d)
def Oth (h : EH) (names : List Str) (x : EV) : Prop := (∀ h', Keep 3 h h' → ROk (Fis_partition [tupG names, x] h') (QP 3 h' false)) ∨ (names = [] ∧ x = .tup [])
theorem Oth.not {h : EH} {names : List Str} {x : EV} (a : NotT 3 h x) : Oth h names x := .inl fun h' k => by rw [isp_not (a.keep k)]; exact ⟨rfl, Keep.refl⟩
theorem Oth.bad {h : EH} {names : List Str} {b : EV} {r : List EV} {gs : List (List Str)} (hl : 3 < List.length h) (tg : ∀ g ∈ gs, ∀ t ∈ g, t ∈ TX) (ht : tot gs < 64) (a : Bad 3 h b) : Oth h names (.tup (gs.map tupG ++ b :: r)) :=
  .inl fun h' k => isp_bad (Nat.lt_of_lt_of_le hl k.len) tg ht (a.elim (fun q => .inl (q.keep k)) .inr)
def IO (h0 : EH) (names : List Str) (σ0 : ES) : List EV → ES → EH → Prop := fun rest σ h => Keep 3 h0 h ∧ (∀ x ∈ rest, Oth h0 names x) ∧ ∃ y, σ = σ0.set 11 y
theorem tot_take (gs : List (List Str)) (k : Nat) : tot (gs.take k) ≤ tot gs := by have := tot_split gs k; omega
theorem law_end {h : EH} {s v : EV} {n1 : Nat} {many : Int} {x : Option EV} {names : List Str} {gs : List (List Str)} (L : Left 3 h) (en1 : h[n1]? = some (.lst (names.map EV.str))) (d1 : n1 ≠ 3) (tn : ∀ t ∈ names, t ∈ TX) (nd : names.Nodup) (nn : ("" : Str) ∉ names) (ln : names.length ≤ 8)
    (G : Gr 3 h v gs) (ht : tot gs < 64) (hg : gs.length ≤ 100) : FlOk (
  (sSeq (sSet (gN 6) (eFn F_law_is_right (aCons (eVar 2) (aCons (eVar 4) aNil))))
  (sSeq (sSet (gN 7) (eSeqL fTuple (lLc (iVal (eVar 4)) (gN 13) tYes' (eSeq fTuple (eVar 13)) [13])))
  (sSeq (sSet (gN 8) (eSeq fTuple (eVar 2)))
  (sSeq (sIf (tVal (eOp opNe (eFn Fis_partition (aCons (eVar 8) (aCons (eVar 7) aNil))) (eVar 6))) (sRet (eC (.bl false))) sNil)
  (sSeq (sSet (gN 9) (eFn F_law_draw (aCons (eVar 1) (aCons (eCall fMax2 (aCons (eC (.int 1)) (aCons (eCall fLenA (aCons (eVar 7) aNil)) aNil))) aNil))))
  (sSeq (sSet (gN 10) (eNew (lLst (aCons (eVar 4) (aCons (eC .non) (aCons (eC (.int 7)) (aCons (eC (.str "m.f")) (aCons (eNew (lSeq fList (eVar 7))) (aCons (eOp opAdd (eTup (aCons (eC .non) aNil)) (eVar 7)) (aCons (eOp opAdd (eVar 7) (eTup (aCons (eTup (aCons (eC (.int 7)) aNil)) aNil))) aNil))))))))))
  (sSeq (sExpr (eAppend (eVar 10) (eOp opAdd (eOp opAdd (eSl (eVar 7) pNone (pSome (eVar 9))) (eTup (aCons (eNew (lLst (aCons (eC (.str "m.f")) aNil))) aNil))) (eSl (eVar 7) (pSome (eVar 9)) pNone))))
  (sSeq (sExpr (eAppend (eVar 10) (eOp opAdd (eSeqL fTuple (lLc (iVal (eSl (eVar 7) pNone (pSome (eOp opAdd (eVar 9) (eC (.int 1)))))) (gN 13) tYes' (eNew (lSeq fList (eVar 13))) [13])) (eSl (eVar 7) (pSome (eOp opAdd (eVar 9) (eC (.int 1)))) pNone))))
  (sSeq (sFor (iVal (eVar 10)) (gN 11) (sIf (tAnd' (tVal (eOp (opIs true) (eFn Fis_partition (aCons (eVar 8) (aCons (eVar 11) aNil))) (eC (.bl false)))) (tNot' (tAnd' (tVal (eOp opEq (eVar 2) (eNew (lLst aNil)))) (tVal (eOp opEq (eVar 11) (eTup aNil)))))) (sRet (eC (.bl false))) sNil))
  (sRet (eAndB (eOp opEq (eFn Fis_partition (aCons (eVar 8) (aCons (eVar 7) aNil))) (eVar 6)) (eOp opEq (eVar 4) (eNew (lLc (iVal (eVar 7)) (gN 13) tYes' (eNew (lSeq fList (eVar 13))) [13])))))))))))))) [some s, some (.ref 3), some (.ref n1), some (.int many), some v, x, none, none, none, none, none, none, none, none] h) (fun _ h => OK .non h) OK := by
  obtain ⟨u, hA, eA, rfl, kA⟩ := (right_ok L ⟨n1, rfl, d1, en1, tn⟩ G (by omega) ht).get
  rw [right_part nd nn gs] at eA
  have LA := kA.left L
  have GA := G.keep kA
  have tg : ∀ g ∈ gs, ∀ t ∈ g, t ∈ TX := by obtain ⟨_, _, _, _, _, q⟩ := G; exact q.tx
  obtain ⟨n, vs, rfl, dn, en, Gv⟩ := GA
  refine fs_seq (fs_set ?_)
  simp [eFn_a, aCons_a, aNil_a, eVar_a, eC_a, eOp_a, eUn_a, eCall_a, eNew_a, lLst_a, eTup_a, tVal_a, eSl_a, pNone_a, pSome_a, eSeq_a, eSeqL_a, lSeq_a, lSeqL_a, lRev_a, iVal_a, eAppend_a, eExtend_a, eExtendL_a, eDict0_a, startE, R.bind_ok, R.fl_ok, R.lift_some, R.opt_some, opAdd, opIx, opSl, intOf, fLenA, fMax2, fTuple, fList, seqOf, Z.listOf, itOf, boolOf, eA]
  have va : ∀ b : Bool, lLc (iVal (eVar 4)) (gN 13) tYes' (eSeq fTuple (eVar 13)) [13] [some s, some (.ref 3), some (.ref n1), some (.int many), some (.ref n), x, some (.bl b), none, none, none, none, none, none, none] hA = .ok (gs.map tupG) hA := fun b => value_ok rfl rfl en Gv (by omega)
  refine fs_seq (fs_set ?_)
  simp [eFn_a, aCons_a, aNil_a, eVar_a, eC_a, eOp_a, eUn_a, eCall_a, eNew_a, lLst_a, eTup_a, tVal_a, eSl_a, pNone_a, pSome_a, eSeq_a, eSeqL_a, lSeq_a, lSeqL_a, lRev_a, iVal_a, eAppend_a, eExtend_a, eExtendL_a, eDict0_a, startE, R.bind_ok, R.fl_ok, R.lift_some, R.opt_some, opAdd, opIx, opSl, intOf, fLenA, fMax2, fTuple, fList, seqOf, Z.listOf, itOf, boolOf, va]
  have en1A := kA.get en1 d1
  obtain ⟨vals, ev⟩ : ∃ y, y = gs.map tupG := ⟨_, rfl⟩
  have lv : vals.length = gs.length := by rw [ev]; simp
  refine fs_seq (fs_set ?_)
  simp [eFn_a, aCons_a, aNil_a, eVar_a, eC_a, eOp_a, eUn_a, eCall_a, eNew_a, lLst_a, eTup_a, tVal_a, eSl_a, pNone_a, pSome_a, eSeq_a, eSeqL_a, lSeq_a, lSeqL_a, lRev_a, iVal_a, eAppend_a, eExtend_a, eExtendL_a, eDict0_a, startE, R.bind_ok, R.fl_ok, R.lift_some, R.opt_some, opAdd, opIx, opSl, intOf, fLenA, fMax2, fTuple, fList, seqOf, Z.listOf, itOf, boolOf, en1A]
  obtain ⟨u, hB, eB, rfl, kB⟩ := (isp_good LA.lt tg tn ht).get
  have LB := kB.left LA
  obtain ⟨bR, ebR⟩ : ∃ y, y = isPart names gs := ⟨_, rfl⟩
  rw [← ebR] at eB ⊢
  refine fs_seq (fs_if ?_)
  simp [eFn_a, aCons_a, aNil_a, eVar_a, eC_a, eOp_a, eUn_a, eCall_a, eNew_a, lLst_a, eTup_a, tVal_a, eSl_a, pNone_a, pSome_a, eSeq_a, eSeqL_a, lSeq_a, lSeqL_a, lRev_a, iVal_a, eAppend_a, eExtend_a, eExtendL_a, eDict0_a, startE, R.bind_ok, R.fl_ok, R.lift_some, R.opt_some, opAdd, opIx, opSl, intOf, fLenA, fMax2, fTuple, fList, seqOf, Z.listOf, itOf, boolOf, eB, opNe, data_bl, eqv_bl, sNil_a]
  obtain ⟨spot, hC, eCC, s0, s1, kC⟩ := draw LB (m := if (gs.length : Int) > 1 then (gs.length : Int) else 1) (by split <;> omega) (by split <;> omega)
  obtain ⟨p, rfl⟩ := Int.eq_ofNat_of_zero_le s0
  have LC := kC.left LB
  have x3 := LC.lt
  refine fs_seq (fs_set ?_)
  simp [eFn_a, aCons_a, aNil_a, eVar_a, eC_a, eOp_a, eUn_a, eCall_a, eNew_a, lLst_a, eTup_a, tVal_a, eSl_a, pNone_a, pSome_a, eSeq_a, eSeqL_a, lSeq_a, lSeqL_a, lRev_a, iVal_a, eAppend_a, eExtend_a, eExtendL_a, eDict0_a, startE, R.bind_ok, R.fl_ok, R.lift_some, R.opt_some, opAdd, opIx, opSl, intOf, fLenA, fMax2, fTuple, fList, seqOf, Z.listOf, itOf, boolOf, eCC]
  rw [← ev]
  have q1 : 1 + vals.length ≤ 100000 := by omega
  have q2 : vals.length + 1 ≤ 100000 := by omega
  refine fs_seq (fs_set ?_)
  simp [eFn_a, aCons_a, aNil_a, eVar_a, eC_a, eOp_a, eUn_a, eCall_a, eNew_a, lLst_a, eTup_a, tVal_a, eSl_a, pNone_a, pSome_a, eSeq_a, eSeqL_a, lSeq_a, lSeqL_a, lRev_a, iVal_a, eAppend_a, eExtend_a, eExtendL_a, eDict0_a, startE, R.bind_ok, R.fl_ok, R.lift_some, R.opt_some, opAdd, opIx, opSl, intOf, fLenA, fMax2, fTuple, fList, seqOf, Z.listOf, itOf, boolOf, q1, q2]
  have c1 : cutE vals none (some (p : Int)) = vals.take p := by rw [cut_to (by omega)]; simp
  have c2 : cutE vals (some (p : Int)) none = vals.drop p := by rw [cut_from (by omega)]; simp
  have c3 : cutE vals none (some ((p : Int) + 1)) = vals.take (p + 1) := by rw [cut_to (by omega)]; congr 1
  have c4 : cutE vals (some ((p : Int) + 1)) none = vals.drop (p + 1) := by rw [cut_from (by omega)]; congr 1
  have q3 : min p vals.length + 1 ≤ 100000 := by omega
  have q4 : min p vals.length + 1 + (vals.length - p) ≤ 100000 := by omega
  refine fs_seq (fs_expr ?_)
  simp [eFn_a, aCons_a, aNil_a, eVar_a, eC_a, eOp_a, eUn_a, eCall_a, eNew_a, lLst_a, eTup_a, tVal_a, eSl_a, pNone_a, pSome_a, eSeq_a, eSeqL_a, lSeq_a, lSeqL_a, lRev_a, iVal_a, eAppend_a, eExtend_a, eExtendL_a, eDict0_a, startE, R.bind_ok, R.fl_ok, R.lift_some, R.opt_some, opAdd, opIx, opSl, intOf, fLenA, fMax2, fTuple, fList, seqOf, Z.listOf, itOf, boolOf, c1, c2, q3, q4]
  have kD := Keep.app [EO.lst vals, EO.lst [EV.ref n, EV.non, EV.int 7, EV.str (Str.ofString "m.f"), EV.ref (List.length hC), EV.tup (EV.non :: vals), EV.tup (vals ++ [EV.tup [EV.int 7]]), EV.tup (List.take p vals ++ EV.ref (List.length hC + 2) :: List.drop p vals)], EO.lst [EV.str (Str.ofString "m.f")]] x3
  obtain ⟨o8, eo8⟩ : ∃ y, y = [EV.ref n, EV.non, EV.int 7, EV.str (Str.ofString "m.f"), EV.ref (List.length hC), EV.tup (EV.non :: vals), EV.tup (vals ++ [EV.tup [EV.int 7]]), EV.tup (List.take p vals ++ EV.ref (List.length hC + 2) :: List.drop p vals)] := ⟨_, rfl⟩
  rw [← eo8] at kD ⊢
  have l8 : o8.length = 8 := by rw [eo8]; rfl
  obtain ⟨hD, ehD⟩ : ∃ y : EH, y = hC ++ [EO.lst vals, EO.lst o8, EO.lst [EV.str (Str.ofString "m.f")]] := ⟨_, rfl⟩
  rw [← ehD] at kD ⊢
  have eL : hD[List.length hC]? = some (.lst vals) := by rw [ehD]; simp
  have eO : hD[List.length hC + 1]? = some (.lst o8) := by rw [ehD]; simp
  have eM : hD[List.length hC + 2]? = some (.lst [EV.str (Str.ofString "m.f")]) := by rw [ehD]; simp
  clear ehD
  have LD := kD.left LC
  have vt : vals.take (p + 1) = (gs.take (p + 1)).map tupG := by rw [ev]; simp
  have lcE := lists_ok (l := 3) (h := hD) (h1 := hD) (fi := iVal (eSl (eVar 7) pNone (pSome (eOp opAdd (eVar 9) (eC (EV.int 1)))))) (σ := [some s, some (EV.ref 3), some (EV.ref n1), some (EV.int many), some (EV.ref n), x, some (EV.bl bR), some (EV.tup vals), some (EV.tup (List.map EV.str names)), some (EV.int p), some (EV.ref (List.length hC + 1)), none, none, none]) (gs := gs.take (p + 1)) LD.lt rfl (by simp [eFn_a, aCons_a, aNil_a, eVar_a, eC_a, eOp_a, eUn_a, eCall_a, eNew_a, lLst_a, eTup_a, tVal_a, eSl_a, pNone_a, pSome_a, eSeq_a, eSeqL_a, lSeq_a, lSeqL_a, lRev_a, iVal_a, eAppend_a, eExtend_a, eExtendL_a, eDict0_a, startE, R.bind_ok, R.fl_ok, R.lift_some, R.opt_some, opAdd, opIx, opSl, intOf, fLenA, fMax2, fTuple, fList, seqOf, Z.listOf, itOf, boolOf, c3, vt]) (fun g q => tg g (List.mem_of_mem_take q)) (by simp; omega)
  obtain ⟨acc, hE, eE, kE, GE⟩ := lcE.get
  have la := GE.len
  simp only [List.length_take] at la
  have q5 : acc.length + (vals.length - (p + 1)) ≤ 100000 := by omega
  have eOE := kE.get eO (by omega)
  refine fs_seq (fs_expr ?_)
  simp [eFn_a, aCons_a, aNil_a, eVar_a, eC_a, eOp_a, eUn_a, eCall_a, eNew_a, lLst_a, eTup_a, tVal_a, eSl_a, pNone_a, pSome_a, eSeq_a, eSeqL_a, lSeq_a, lSeqL_a, lRev_a, iVal_a, eAppend_a, eExtend_a, eExtendL_a, eDict0_a, startE, R.bind_ok, R.fl_ok, R.lift_some, R.opt_some, opAdd, opIx, opSl, intOf, fLenA, fMax2, fTuple, fList, seqOf, Z.listOf, itOf, boolOf, eO, eE, c4, q5, eOE, l8]
  have kF := (kD.trans kE).set (n := List.length hC + 1) (.lst (o8 ++ [.tup (acc ++ vals.drop (p + 1))])) (by omega) x3
  have eOF : (hE.set (List.length hC + 1) (.lst (o8 ++ [.tup (acc ++ vals.drop (p + 1))])))[List.length hC + 1]? = some (.lst (o8 ++ [.tup (acc ++ vals.drop (p + 1))])) := List.getElem?_set_self (lt_of_get eOE)
  have eLF : (hE.set (List.length hC + 1) (.lst (o8 ++ [.tup (acc ++ vals.drop (p + 1))])))[List.length hC]? = some (.lst vals) := by rw [List.getElem?_set_ne (by omega)]; exact kE.get eL (by omega)
  have eMF : (hE.set (List.length hC + 1) (.lst (o8 ++ [.tup (acc ++ vals.drop (p + 1))])))[List.length hC + 2]? = some (.lst [EV.str (Str.ofString "m.f")]) := by rw [List.getElem?_set_ne (by omega)]; exact kE.get eM (by omega)
  have eA9 : ∀ (m : Nat) (xs : List EV), hE[m]? = some (EO.lst xs) → ∃ ys : List EV, (hE.set (List.length hC + 1) (EO.lst (o8 ++ [.tup (acc ++ vals.drop (p + 1))])))[m]? = some (EO.lst ys) := fun m xs q => by
    by_cases z : m = List.length hC + 1
    · rw [z]; exact ⟨_, eOF⟩
    · exact ⟨xs, by rw [List.getElem?_set_ne (by omega)]; exact q⟩
  obtain ⟨hF, ehF⟩ : ∃ y : EH, y = hE.set (List.length hC + 1) (.lst (o8 ++ [.tup (acc ++ vals.drop (p + 1))])) := ⟨_, rfl⟩
  rw [← ehF] at kF eOF eLF eMF eA9 ⊢
  clear ehF
  have LF := kF.left LC
  have en1F := kF.get (kC.get (kB.get en1A d1) d1) d1
  have enF := kF.get (kC.get (kB.get en dn) dn) dn
  have tg' : ∀ k, ∀ g ∈ gs.take k, ∀ t ∈ g, t ∈ TX := fun k g q => tg g (List.mem_of_mem_take q)
  have oth : ∀ y ∈ o8 ++ [EV.tup (acc ++ vals.drop (p + 1))], Oth hF names y := by
    have x3F := LF.lt
    intro y hy
    rw [eo8] at hy
    simp only [List.cons_append, List.nil_append, List.mem_cons, List.not_mem_nil, or_false] at hy
    rcases hy with rfl | rfl | rfl | rfl | rfl | rfl | rfl | rfl | rfl
    · exact .not (NotT.lst enF dn)
    · exact .not fun h' _ => isTy_nt h'
    · exact .not fun h' _ => isTy_it _ h'
    · exact .not fun h' _ => isTy_st _ h'
    · exact .not (NotT.lst eLF (by omega))
    · exact Oth.bad (gs := []) x3F (by simp) (by simp [tot]) (.inl fun h' _ => isTy_nt h')
    · rw [ev]; exact Oth.bad (r := []) x3F tg ht (.inr rfl)
    · have : vals.take p = (gs.take p).map tupG := by rw [ev]; simp
      rw [this]
      exact Oth.bad x3F (tg' p) (by have := tot_take gs p; omega) (.inl (NotT.lst eMF (by omega)))
    · cases acc with
      | nil =>
        have g0 : gs = [] := by
          have : gs.length = 0 := by simp at la; omega
          exact List.eq_nil_of_length_eq_zero this
        subst g0
        have v0 : vals = [] := ev
        subst v0
        by_cases z : names = []
        · exact .inr ⟨z, by simp⟩
        · refine .inl fun h' k => ?_
          have := isp_good (gs := []) (names := names) (Nat.lt_of_lt_of_le x3F k.len) (by simp) tn (by simp [tot])
          have e : isPart names [] = false := by
            have : ¬ ([] : List Str) = names := fun q => z q.symm
            simp [isPart, sortS, this]
          rw [e] at this
          simpa using this
      | cons a0 acc =>
        cases gt : gs.take (p + 1) with
        | nil => rw [gt] at GE; exact GE.elim
        | cons g0 gr =>
          rw [gt] at GE
          obtain ⟨⟨m, rfl, dm, em, _⟩, _⟩ := GE
          obtain ⟨ys, em'⟩ := eA9 m _ em
          exact Oth.bad (gs := []) x3F (by simp) (by simp [tot]) (.inl (NotT.lst em' dm))
  refine fs_seq (fs_for (ys := o8 ++ [EV.tup (acc ++ vals.drop (p + 1))]) (it := .obj (List.length hC + 1)) (h1 := hF) (IO hF names [some s, some (EV.ref 3), some (EV.ref n1), some (EV.int many), some (EV.ref n), x, some (EV.bl bR), some (EV.tup vals), some (EV.tup (List.map EV.str names)), some (EV.int p), some (EV.ref (List.length hC + 1)), none, none, none]) ?_ (.inr ⟨_, rfl, by simp; omega, fun _ _ _ q => q.1.get eOF (by omega)⟩) ⟨Keep.refl, oth, none, rfl⟩ ?_ ?_)
  · simp [eFn_a, aCons_a, aNil_a, eVar_a, eC_a, eOp_a, eUn_a, eCall_a, eNew_a, lLst_a, eTup_a, tVal_a, eSl_a, pNone_a, pSome_a, eSeq_a, eSeqL_a, lSeq_a, lSeqL_a, lRev_a, iVal_a, eAppend_a, eExtend_a, eExtendL_a, eDict0_a, startE, R.bind_ok, R.fl_ok, R.lift_some, R.opt_some, opAdd, opIx, opSl, intOf, fLenA, fMax2, fTuple, fList, seqOf, Z.listOf, itOf, boolOf, eOF]
  · rintro y r σ h' ⟨K, ot, z, rfl⟩
    refine ⟨_, rfl, ?_⟩
    refine fs_if ?_
    have ot' : ∀ y ∈ r, Oth hF names y := fun y q => ot y (by simp [q])
    rcases ot y (by simp) with f | ⟨n0, rfl⟩
    · obtain ⟨u, h2, e2, rfl, k2⟩ := (f h' K).get
      refine ok_bind ?_
      simp [eFn_a, aCons_a, aNil_a, eVar_a, eC_a, eOp_a, eUn_a, eCall_a, eNew_a, lLst_a, eTup_a, tVal_a, eSl_a, pNone_a, pSome_a, eSeq_a, eSeqL_a, lSeq_a, lSeqL_a, lRev_a, iVal_a, eAppend_a, eExtend_a, eExtendL_a, eDict0_a, startE, R.bind_ok, R.fl_ok, R.lift_some, R.opt_some, opAdd, opIx, opSl, intOf, fLenA, fMax2, fTuple, fList, seqOf, Z.listOf, itOf, boolOf, e2, opIs, sNil_a]
      exact ⟨K.trans k2, ot', _, rfl⟩
    · obtain ⟨u, h2, e2, rfl, k2⟩ := (isp_good (gs := []) (names := names) (Nat.lt_of_lt_of_le LF.lt K.len) (by simp) tn (by simp [tot])).get
      have et : isPart names [] = true := by rw [n0]; rfl
      rw [et] at e2
      simp only [List.map_nil] at e2
      have k3 := (K.trans k2)
      have k4 := k3.trans (Keep.app [.lst []] (Nat.lt_of_lt_of_le LF.lt k3.len))
      have da : data (h2 ++ [.lst []]) (.ref n1) = some (dL names) := data_lst (k4.get en1F d1) tn
      have db : data (h2 ++ [.lst []]) (.ref (List.length h2)) = some (dL []) := data_lst (by simp) (by simp)
      have dq : PyData.eqv (dL names) (dL []) = true := by rw [eqv_dL, n0]; rfl
      have dc : data (h2 ++ [.lst []]) (.tup []) = some (.tuple []) := data_of rfl rfl
      have de : PyData.eqv (.tuple []) (.tuple []) = true := by simp [PyData.eqv, PyData.eqvAll]
      refine ok_bind ?_
      simp [eFn_a, aCons_a, aNil_a, eVar_a, eC_a, eOp_a, eUn_a, eCall_a, eNew_a, lLst_a, eTup_a, tVal_a, eSl_a, pNone_a, pSome_a, eSeq_a, eSeqL_a, lSeq_a, lSeqL_a, lRev_a, iVal_a, eAppend_a, eExtend_a, eExtendL_a, eDict0_a, startE, R.bind_ok, R.fl_ok, R.lift_some, R.opt_some, opAdd, opIx, opSl, intOf, fLenA, fMax2, fTuple, fList, seqOf, Z.listOf, itOf, boolOf, e2, opIs]
      refine ok_bind (ok_bind ?_)
      simp [eFn_a, aCons_a, aNil_a, eVar_a, eC_a, eOp_a, eUn_a, eCall_a, eNew_a, lLst_a, eTup_a, tVal_a, eSl_a, pNone_a, pSome_a, eSeq_a, eSeqL_a, lSeq_a, lSeqL_a, lRev_a, iVal_a, eAppend_a, eExtend_a, eExtendL_a, eDict0_a, startE, R.bind_ok, R.fl_ok, R.lift_some, R.opt_some, opAdd, opIx, opSl, intOf, fLenA, fMax2, fTuple, fList, seqOf, Z.listOf, itOf, boolOf, opEq, da, db, dq]
      simp [eFn_a, aCons_a, aNil_a, eVar_a, eC_a, eOp_a, eUn_a, eCall_a, eNew_a, lLst_a, eTup_a, tVal_a, eSl_a, pNone_a, pSome_a, eSeq_a, eSeqL_a, lSeq_a, lSeqL_a, lRev_a, iVal_a, eAppend_a, eExtend_a, eExtendL_a, eDict0_a, startE, R.bind_ok, R.fl_ok, R.lift_some, R.opt_some, opAdd, opIx, opSl, intOf, fLenA, fMax2, fTuple, fList, seqOf, Z.listOf, itOf, boolOf, opEq, dc, de, sNil_a]
      exact ⟨k4, ot', _, rfl⟩
  · rintro σ h' ⟨K, ot, z, rfl⟩
    have K' := kF.trans K
    have LZ := K'.left LC
    refine fs_ret ?_
    obtain ⟨u, h2, e2, rfl, k2⟩ := (isp_good (l := 3) (h := h') LZ.lt tg tn ht).get
    rw [← ev, ← ebR] at e2
    have L2' := k2.left LZ
    obtain ⟨acc2, h3, e3, k3, G3⟩ := (lists_ok (l := 3) (h := h2) (h1 := h2) (fi := iVal (eVar 7)) (σ := [some s, some (EV.ref 3), some (EV.ref n1), some (EV.int many), some (EV.ref n), x, some (EV.bl bR), some (EV.tup vals), some (EV.tup (List.map EV.str names)), some (EV.int p), some (EV.ref (List.length hC + 1)), z, none, none]) (gs := gs) L2'.lt rfl (by simp [eFn_a, aCons_a, aNil_a, eVar_a, eC_a, eOp_a, eUn_a, eCall_a, eNew_a, lLst_a, eTup_a, tVal_a, eSl_a, pNone_a, pSome_a, eSeq_a, eSeqL_a, lSeq_a, lSeqL_a, lRev_a, iVal_a, eAppend_a, eExtend_a, eExtendL_a, eDict0_a, startE, R.bind_ok, R.fl_ok, R.lift_some, R.opt_some, opAdd, opIx, opSl, intOf, fLenA, fMax2, fTuple, fList, seqOf, Z.listOf, itOf, boolOf, ev]) tg (by omega)).get
    have x33 := Nat.lt_of_lt_of_le L2'.lt k3.len
    have kz := Keep.app [.lst acc2] x33
    have GA : Gr 3 hA (.ref n) gs := ⟨n, vs, rfl, dn, en, Gv⟩
    have da := data_gr (GA.keep (kB.trans (kC.trans (K'.trans (k2.trans (k3.trans kz))))))
    have db : data (h3 ++ [.lst acc2]) (.ref (List.length h3)) = some (.list (gs.map dL)) := data_gr (Gr.mk (k := 0) rfl x33 rfl (G3.keep kz))
    have dq : PyData.eqv (.list (gs.map dL)) (.list (gs.map dL)) = true := by simp only [PyData.eqv, eqv_grs]; simp
    simp [eFn_a, aCons_a, aNil_a, eVar_a, eC_a, eOp_a, eUn_a, eCall_a, eNew_a, lLst_a, eTup_a, tVal_a, eSl_a, pNone_a, pSome_a, eSeq_a, eSeqL_a, lSeq_a, lSeqL_a, lRev_a, iVal_a, eAppend_a, eExtend_a, eExtendL_a, eDict0_a, startE, R.bind_ok, R.fl_ok, R.lift_some, R.opt_some, opAdd, opIx, opSl, intOf, fLenA, fMax2, fTuple, fList, seqOf, Z.listOf, itOf, boolOf, eAndB_a, e2, opEq, data_bl, eqv_bl, e3, da, db, dq]
    rfl
theorem plain' {ns : List Int} (hn : ns.length ≤ 63) : ROk (Flaw [.rl (ns.map EV.int)] []) OK := by
  refine ok_fn ?_
  unfold blaw
  obtain ⟨h0, e0, l0, L0⟩ := left_ok hn
  have e0' : F_law_left [.rl (ns.map EV.int)] [] = .ok (.ref 3) h0 := e0
  have x3 : 3 < List.length h0 := by omega
  refine fs_seq (fs_set ?_)
  simp [eFn_a, aCons_a, aNil_a, eVar_a, eC_a, eOp_a, eUn_a, eCall_a, eNew_a, lLst_a, eTup_a, tVal_a, eSl_a, pNone_a, pSome_a, eSeq_a, eSeqL_a, lSeq_a, lSeqL_a, lRev_a, iVal_a, eAppend_a, eExtend_a, eExtendL_a, eDict0_a, startE, R.bind_ok, R.fl_ok, R.lift_some, R.opt_some, opAdd, opIx, opSl, intOf, fLenA, fMax2, fTuple, fList, seqOf, Z.listOf, itOf, boolOf, e0']
  have ka := Keep.app [.lst (T8.map EV.str)] x3
  obtain ⟨k9, hB, eB, a0, a1, kB⟩ := draw (ka.left L0) (m := 9) (by decide) (by decide)
  have eT := kB.get (n := List.length h0) (o := .lst (T8.map EV.str)) (by simp) (by omega)
  have LB := kB.left (ka.left L0)
  have x3B := LB.lt
  obtain ⟨k, rfl⟩ := Int.eq_ofNat_of_zero_le a0
  have ct : cutE (T8.map EV.str) none (some (k : Int)) = (T8.take k).map EV.str := by rw [cut_to (by omega)]; simp
  have eT' : ∀ t, (hB ++ t)[List.length h0]? = some (.lst (T8.map EV.str)) := fun t => by rw [List.getElem?_append_left (lt_of_get eT)]; exact eT
  have so := fSorted_map (g := T8.take k) (by simp [T8]; omega)
  refine fs_seq (fs_set ?_)
  obtain ⟨tk, etk⟩ : ∃ x, x = T8.take k := ⟨_, rfl⟩
  rw [← etk] at ct so
  have nm : ∀ σ : ES, σ[1]? = some (some (.ref 3)) → eNew (lSeq fSorted (eSl (eNew (lLst (aCons (eC (.str "m.f")) (aCons (eC (.str "m.ab")) (aCons (eC (.str "n.c")) (aCons (eC (.str "m.a")) (aCons (eC (.str "n.a1")) (aCons (eC (.str "o.zz")) (aCons (eC (.str "m.main")) (aCons (eC (.str "n.b")) aNil)))))))))) pNone (pSome (eFn F_law_draw (aCons (eVar 1) (aCons (eC (.int 9)) aNil)))))) σ h0 = .ok (.ref (List.length hB + 1)) (hB ++ [.lst (tk.map EV.str), .lst ((sortS tk).map EV.str)]) := by
    intro σ h1
    have l8 : lLst (aCons (eC (.str "m.f")) (aCons (eC (.str "m.ab")) (aCons (eC (.str "n.c")) (aCons (eC (.str "m.a")) (aCons (eC (.str "n.a1")) (aCons (eC (.str "o.zz")) (aCons (eC (.str "m.main")) (aCons (eC (.str "n.b")) aNil)))))))) σ h0 = .ok (T8.map EV.str) h0 := rfl
    simp only [eNew_a, lSeq_a, eSl_a, l8, R.bind_ok, pNone_a, pSome_a, eFn_a, aCons_a, aNil_a, eVar_a, eC_a, h1, eB, intOf, opSl, eT, R.lift_some, seqOf, ct]
    simp [seqOf, so, R.opt_some, R.bind_ok]
  rw [nm _ rfl]
  simp only [ROk_ok]
  have tn := names_tx k
  have nd := names_nd k
  have nn := names_ne k
  have ln := names_len k
  rw [← etk] at tn nd nn ln
  generalize sortS tk = names at nm tn nd nn ln ⊢
  have kC := Keep.app [.lst (tk.map EV.str), .lst (names.map EV.str)] x3B
  have eN : (hB ++ [EO.lst (tk.map EV.str), .lst (names.map EV.str)])[List.length hB + 1]? = some (.lst (names.map EV.str)) := by simp
  have LC := kC.left LB
  have dN : List.length hB + 1 ≠ 3 := by omega
  generalize hB ++ [EO.lst (tk.map EV.str), .lst (names.map EV.str)] = hC at kC eN LC ⊢
  generalize List.length hB + 1 = n1 at eN dN ⊢
  clear nm
  obtain ⟨m5, hD, eD, b0, b1, kD⟩ := draw LC (m := 5) (by decide) (by decide)
  have LD := kD.left LC
  refine fs_seq (fs_set ?_)
  simp [eFn_a, aCons_a, aNil_a, eVar_a, eC_a, eOp_a, eUn_a, eCall_a, eNew_a, lLst_a, eTup_a, tVal_a, eSl_a, pNone_a, pSome_a, eSeq_a, eSeqL_a, lSeq_a, lSeqL_a, lRev_a, iVal_a, eAppend_a, eExtend_a, eExtendL_a, eDict0_a, startE, R.bind_ok, R.fl_ok, R.lift_some, R.opt_some, opAdd, opIx, opSl, intOf, fLenA, fMax2, fTuple, fList, seqOf, Z.listOf, itOf, boolOf, eD]
  have eN' := kD.get eN dN
  obtain ⟨acc, hE, eE, kE, cs, rfl, hcs⟩ := (labels_ok (s := .rl (ns.map EV.int)) LD eN' dN (by omega) (many := 1 + m5) (by omega) (by omega)).get
  have LE := kE.left LD
  have x3E := LE.lt
  have kF := Keep.app [.lst (cs.map EV.int)] x3E
  obtain ⟨v, hG, eG, kG, gs, Gg, tg, lg⟩ := (part_ok (n2 := List.length hE) (kF.left LE) ((kE.trans kF).get eN' dN) dN tn (by simp) (by omega) hcs (by omega)).get
  have LG := kG.left (kF.left LE)
  have eN3 := kG.get ((kE.trans kF).get eN' dN) dN
  refine fs_seq (fs_set ?_)
  simp [eFn_a, aCons_a, aNil_a, eVar_a, eC_a, eOp_a, eUn_a, eCall_a, eNew_a, lLst_a, eTup_a, tVal_a, eSl_a, pNone_a, pSome_a, eSeq_a, eSeqL_a, lSeq_a, lSeqL_a, lRev_a, iVal_a, eAppend_a, eExtend_a, eExtendL_a, eDict0_a, startE, R.bind_ok, R.fl_ok, R.lift_some, R.opt_some, opAdd, opIx, opSl, intOf, fLenA, fMax2, fTuple, fList, seqOf, Z.listOf, itOf, boolOf, eE, eG]
  obtain ⟨m3, hH, eH, c0, c1, kH⟩ := draw LG (m := 3) (by decide) (by decide)
  have LH := kH.left LG
  have eN4 := kH.get eN3 dN
  obtain ⟨N, rfl⟩ := Int.eq_ofNat_of_zero_le c0
  refine fs_seq (fs_for (ys := rg 0 N) (it := .vals (rg 0 N)) (h1 := hH) (IB hH (.rl (ns.map EV.int)) n1 (1 + m5) N) ?_ (.inl rfl) ⟨Keep.refl, 0, N, v, gs, none, by omega, rfl, Gg.keep kH, by omega, by omega, rfl⟩ ?_ ?_)
  · refine rng_e ?_ (by omega)
    simp [eFn_a, aCons_a, aNil_a, eVar_a, eC_a, eOp_a, eUn_a, eCall_a, eNew_a, lLst_a, eTup_a, tVal_a, eSl_a, pNone_a, pSome_a, eSeq_a, eSeqL_a, lSeq_a, lSeqL_a, lRev_a, iVal_a, eAppend_a, eExtend_a, eExtendL_a, eDict0_a, startE, R.bind_ok, R.fl_ok, R.lift_some, R.opt_some, opAdd, opIx, opSl, intOf, fLenA, fMax2, fTuple, fList, seqOf, Z.listOf, itOf, boolOf, eH]
  · rintro y r σ h ⟨K, i, kk, v, gs, z, ik, er, G, h1, h2, rfl⟩
    obtain ⟨kk, rfl, rfl, rfl⟩ := rg_cons er
    refine ⟨_, rfl, ?_⟩
    have hp : 2 ^ i ≤ 2 ^ 2 := Nat.pow_le_pow_right (by decide) (by omega)
    obtain ⟨v', h', e', K', gs', G', t', l'⟩ := (bent_ok (K.left LH) G (by omega) (by omega)).get
    refine fs_set ?_
    simp [eFn_a, aCons_a, aNil_a, eVar_a, eC_a, eOp_a, eUn_a, eCall_a, eNew_a, lLst_a, eTup_a, tVal_a, eSl_a, pNone_a, pSome_a, eSeq_a, eSeqL_a, lSeq_a, lSeqL_a, lRev_a, iVal_a, eAppend_a, eExtend_a, eExtendL_a, eDict0_a, startE, R.bind_ok, R.fl_ok, R.lift_some, R.opt_some, opAdd, opIx, opSl, intOf, fLenA, fMax2, fTuple, fList, seqOf, Z.listOf, itOf, boolOf, e']
    exact ⟨K.trans K', i + 1, kk, v', gs', _, by omega, rfl, G', by rw [Nat.pow_succ]; omega, by rw [Nat.pow_succ]; omega, rfl⟩
  · rintro σ h ⟨K, i, kk, v, gs, z, ik, er, G, h1, h2, rfl⟩
    have hp : 2 ^ i ≤ 2 ^ 2 := Nat.pow_le_pow_right (by decide) (by omega)
    exact law_end (K.left LH) (K.get eN4 dN) dN tn nd nn ln G (by omega) (by omega)
theorem plain : ∀ ns : List Int, ns.length ≤ 63 → ∃ h', Flaw [.rl (ns.map EV.int)] [] = .ok (.bl true) h' := by
  intro ns hn
  obtain ⟨v, h, e, rfl⟩ := (plain' hn).get
  exact ⟨h, e⟩
end Law
end

section
open PySem PySem.W PyProof.Rows
set_option maxRecDepth 100000 in
set_option maxHeartbeats 0 in
theorem PySem.Challenge.cw_foldsame_k50_partitions_holds : PySem.Challenge.rw_foldsame_k50_partitions.Holds := by
  w_on; o_law; k_head; (case hw => w_witness2)
  k_fill
  refine Z.walkZ (l := PySem.Challenge.rw_foldsame_k50_partitions) (k := 3) (x := "_law_script") (CA := fun _ _ => 0) Law.plain rfl rfl ⟨rfl, by decide, by decide⟩ (fun w h Y => PySem.W.kIn_of Y) ?F
  case F =>
    intro w mg fa h KX N hmg
    refine' Law.all_mk KX N hmg ?a1 ?l1 ?c1 ?k1 ?a2 ?l2 ?c2 ?k2 ?a3 ?l3 ?c3 ?k3 ?a4 ?l4 ?c4 ?k4 ?a5 ?l5 ?c5 ?k5 ?a6 ?l6 ?c6 ?k6 ?a7 ?l7 ?c7 ?k7 ?z0 ?z1 ?z2 ?z3 ?z4 ?z5 ?z6 ?z7 ?z8 ?z9 ?z10
    (case a1 => k_is)
    (case l1 => k_is)
    (case c1 => k_is)
    (case k1 => k_is)
    (case a2 => k_is)
    (case l2 => k_is)
    (case c2 => k_is)
    (case k2 => k_is)
    (case a3 => k_is)
    (case l3 => k_is)
    (case c3 => k_is)
    (case k3 => k_is)
    (case a4 => k_is)
    (case l4 => k_is)
    (case c4 => k_is)
    (case k4 => k_is)
    (case a5 => k_is)
    (case l5 => k_is)
    (case c5 => k_is)
    (case k5 => k_is)
    (case a6 => k_is)
    (case l6 => k_is)
    (case c6 => k_is)
    (case k6 => k_is)
    (case a7 => k_is)
    (case l7 => k_is)
    (case c7 => k_is)
    (case k7 => k_is)
    (case z0 => k_is)
    (case z1 => k_is)
    (case z2 => k_is)
    (case z3 => k_is)
    (case z4 => k_is)
    (case z5 => k_is)
    (case z6 => k_is)
    (case z7 => k_is)
    (case z8 => k_is)
    (case z9 => k_is)
    (case z10 => k_is)
end
