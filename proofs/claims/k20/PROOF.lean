import PyProof.Rows.All
import Wide.All
import OpenK.AllK
import Wide.FinOn
import HandS.ForMost
import HandS.ForExc
import HandS.CallSlots
import HandS.ExcInit
import HandS.Slots
import HandS.IsInst
import HandS.TupAny
import HandS.Style
import HandS.Deep
import HandS.SetKeys
import HandS.ListItems
import HandS.Nested
import HandS.ClsMeth
import KE.KExcSuper
import KE.KSuper
import HandS.TryMany
import HandS.TryOnly
import HandS.ExcField
import HandS.Star
import HandS.FStr
import HandS.Text
import HandS.RaiseMore
import HandS.More
import HandS.SlotsOwn
import HandS.Zip
import KE.GoesZip
import KE.GoesMore
import KE.GoesEnum
import HandS.ExcIs
import OpenK.KMeth
import OpenK.KOps
import HandS.Defaults
import OpenK.KWalk
import HandS.WordsExc
import OpenK.KMake
import PyProof.InstNe
import HandS.DictComp
import KE.SortData
import HandS.Strs
import HandS.SetTxt0
import HandS.Set
import PySem.Challenge.RW_foldsame_k20_partitions
set_option Elab.async false
set_option linter.all false
set_option maxRecDepth 100000
section
/-! Y, base: Python values as plain data; what a function changes lies in a small heap of numbered objects of its own. -/
namespace Y
open PySem L2

/-- a value that nothing changes any more -/
inductive PV where
  | non | bl (b : Bool) | int (i : Int) | str (s : List Nat) | tup (xs : List PV) | lst (xs : List PV)
  /-- a dict by numbers and texts; one by tuples of these -/
  | dic (kvs : List (PV × PV)) | dit (kvs : List (PV × PV))
  | obj (c : Nat) (fs : List (Nat × PV))
  /-- a list from outside, a tuple of the written part -/
  | rol (xs : List PV) | rot (xs : List PV)
/-- a value: one of those, an object of the function's own heap, a tuple of both kinds -/
inductive EV where
  | p (v : PV) | tup (xs : List EV) | ref (n : Nat)
inductive EO where
  | lst (xs : List EV)
  | dK (kvs : List (PV × EV))
  | dT (kvs : List (PV × EV))
  /-- a dict that a loop walks -/
  | dF (kvs : List (PV × EV))
  | ins (c : Nat) (fs : List (Nat × EV))
def EO.isF : EO → Bool
  | .dF _ => true
  | _ => false
abbrev EH := List EO
abbrev PF := List (Nat × PV)
inductive R (α : Type) where
  | ok (a : α) (h : EH)
  | exc (c : Nat) (fs : PF) (h : EH)
  | stuck
abbrev M (α : Type) := EH → R α
def R.bind {α β : Type} (r : R α) (g : α → EH → R β) : R β := match r with
  | .ok a h => g a h
  | .exc c fs h => .exc c fs h
  | .stuck => .stuck
abbrev ES := List (Option EV)
inductive FL where
  | nx (σ : ES) (h : EH) | rt (v : EV) (h : EH) | bk (σ : ES) (h : EH) | ct (σ : ES) (h : EH)
  | exc (c : Nat) (fs : PF) (σ : ES) (h : EH) | stuck
def FL.seq (r : FL) (g : ES → EH → FL) : FL := match r with
  | .nx σ h => g σ h
  | .rt v h => .rt v h
  | .bk σ h => .bk σ h
  | .ct σ h => .ct σ h
  | .exc c fs σ h => .exc c fs σ h
  | .stuck => .stuck
def R.lift {α : Type} (o : Option (α × EH)) : R α := match o with
  | some (a, h) => .ok a h
  | none => .stuck
/-- an expression's outcome inside a statement -/
def R.fl {α : Type} (r : R α) (σ : ES) (g : α → EH → FL) : FL := match r with
  | .ok a h => g a h
  | .exc c fs h => .exc c fs σ h
  | .stuck => .stuck

/-! ### representation -/
/-- the things that may turn: others' (out), one's own (loc) -/
structure Rh where
  out : List Addr
  loc : List Addr
def Rh.all (ρ : Rh) : List Addr := ρ.out ++ ρ.loc
def Rh.add (ρ : Rh) (p : Addr) : Rh := { ρ with loc := ρ.loc ++ [p] }
def Rh.hid (ρ : Rh) (p : Addr) : Rh := { ρ with out := p :: ρ.out }
/-- all of it is others' -/
def Rh.away (ρ : Rh) : Rh := ⟨ρ.out ++ ρ.loc, []⟩
theorem Rh.mem_all {ρ : Rh} {a : Addr} : a ∈ ρ.all ↔ a ∈ ρ.out ∨ a ∈ ρ.loc := List.mem_append
theorem Rh.mem_add {ρ : Rh} {a p : Addr} : a ∈ (ρ.add p).all ↔ a ∈ ρ.all ∨ a = p := by simp [Rh.all, Rh.add, or_assoc]
theorem Rh.mem_hid {ρ : Rh} {a p : Addr} : a ∈ (ρ.hid p).all ↔ a = p ∨ a ∈ ρ.all := by simp [Rh.all, Rh.hid]
theorem Rh.mem_away {ρ : Rh} {a : Addr} : a ∈ ρ.away.all ↔ a ∈ ρ.all := by simp [Rh.all, Rh.away]
def isDL : HO → Bool
  | .dK _ => true
  | _ => false
def solid : HO → Bool
  | .tup _ => true
  | .lst _ => true
  | .dT _ => true
  | .frz _ (.lst _) => true
  | .ins _ _ _ => true
  | .ext _ => true
  | .xd _ => true
  | _ => false
/-- what was said of values stays true -/
structure Mo (ρ : Rh) (H : Hp) (ρ' : Rh) (H' : Hp) : Prop where
  pre : ∃ t, ρ'.loc = ρ.loc ++ t
  new : ∀ a, a ∈ ρ'.all → a ∈ ρ.all ∨ H a = none
  rd : ∀ a u, a ∉ ρ.all → isDL u = true → Rd H a u → Rd H' a u
  sol : ∀ a u, a ∉ ρ.all → solid u = true → H a = some u → H' a = some u
/-- what kind of class: an ordinary one, an error's, one with slots -/
inductive CK where
  | ord | exc | slt (ns : List Nat)
structure Wd where
  K : PySem.W.Frag
  CA : Nat → Addr
  /-- the names of attributes, by numbers -/
  AN : Nat → Str
  NN : Nat
  inj : ∀ i j, i < NN → j < NN → AN i = AN j → i = j
  KD : Nat → CK
  /-- an attribute that instances of a class may have -/
  FA : Nat → Nat → Bool
  /-- what else is known (in an except suite) -/
  Z : Rh → L2.St → Hp → Prop
  Zm : ∀ ρ τ H ρ' H', Z ρ τ H → Mo ρ H ρ' H' → Z ρ' τ H'
  Zf : Bool
  Zs : Zf = true → ∀ ρ τ H, Z ρ τ H
/-- texts by their signs -/
def toS (l : List Nat) : Str := ⟨l.toArray⟩
theorem toS_list (l : List Nat) : (toS l).cps.toList = l := rfl
theorem toS_cps (s : Str) : toS s.cps.toList = s := by cases s; rfl
def SOk (l : List Nat) : Prop := ∀ c ∈ l, c < 0x110000
theorem toS_ok {l : List Nat} (h : SOk l) : PyData.strOk (toS l) = true := by
  unfold PyData.strOk toS
  rw [Array.all_eq_true]
  intro i hi
  have : l.toArray[i] ∈ l := by simp
  exact decide_eq_true (h _ this)
/-- a tuple; a list that nothing changes; one from outside -/
def TpV (ρ : Rh) (H : Hp) (a : Addr) (vs : List V) : Prop := a ∉ ρ.all ∧ H a = some (.tup vs)
def TkV (K : PySem.W.Frag) (a : Addr) (vs : List V) : Prop := ∃ (o : Obj) (its : Array Value) (n : Nat), K.lookup a = some o ∧ o.cls = .type "tuple" ∧ o.data = .seq its n ∧ its.size ≤ sizeLine ∧ Vals vs its.toList
def LsV (ρ : Rh) (H : Hp) (a : Addr) (vs : List V) : Prop := a ∉ ρ.all ∧ H a = some (.lst vs)
def RoV (K : PySem.W.Frag) (ρ : Rh) (H : Hp) (a : Addr) (vs : List V) : Prop :=
  (a ∉ ρ.all ∧ ∃ o, H a = some (.frz o (.lst vs))) ∨ ∃ (o : Obj) (its : Array Value) (n : Nat), K.lookup a = some o ∧ o.cls = .type "list" ∧ o.dict = none ∧ o.data = .seq its n ∧ its.size ≤ sizeLine ∧ Vals vs its.toList
theorem TpV.sq {K : PySem.W.Frag} {ρ : Rh} {H : Hp} {a : Addr} {vs : List V} (h : TpV ρ H a vs) : SqT K H a vs := .inl (.inl h.2)
theorem LsV.sq {K : PySem.W.Frag} {ρ : Rh} {H : Hp} {a : Addr} {vs : List V} (h : LsV ρ H a vs) : SqL K H a vs := .inl (.inl h.2)
theorem RoV.sq {K : PySem.W.Frag} {ρ : Rh} {H : Hp} {a : Addr} {vs : List V} (h : RoV K ρ H a vs) : SqL K H a vs := by
  rcases h with h | h
  · exact .inl (.inr h.2)
  · exact .inr h
/-- an instance: of an ordinary class, of an error's, of one with slots -/
def ObV (G : Wd) (ρ : Rh) (H : Hp) (c : Nat) (a : Addr) (gs : List (Str × V)) : Prop := a ∉ ρ.all ∧ match G.KD c with
  | .ord => ∃ dx, H a = some (.ins (G.CA c) dx gs)
  | .exc => ∃ dx, dx ∉ ρ.all ∧ H a = some (exo a (G.CA c) (some dx)) ∧ H dx = some (exd dx gs)
  | .slt ns => ∃ dx, dx ∉ ρ.all ∧ H a = some (SlX.SlO a (G.CA c) dx (ns.map fun n => gs.lookup (G.AN n))) ∧ H dx = some (.xd [])
def keyOf : PV → Option Key
  | .int i => some (.inl i)
  | .str s => some (.inr (toS s))
  | _ => none
def evOf : Key → PV
  | .inl i => .int i
  | .inr s => .str s.cps.toList
def keysOf : List PV → Option (List Key)
  | [] => some []
  | x :: xs => match keyOf x, keysOf xs with
    | some k, some ks => some (k :: ks)
    | _, _ => none
def tkeyOf : PV → Option (List Key)
  | .tup xs => keysOf xs
  | _ => none
/-- the texts in a key are texts -/
def KOk : PV → Prop
  | .str s => SOk s
  | .tup xs => ∀ s, PV.str s ∈ xs → SOk s
  | _ => True
mutual
inductive PRep (G : Wd) (ρ : Rh) (H : Hp) : PV → V → Prop
  | non : PRep G ρ H .non .non
  | bl (b : Bool) : PRep G ρ H (.bl b) (.bl b)
  | int (i : Int) : PRep G ρ H (.int i) (.int i)
  | str {s : List Nat} : SOk s → PRep G ρ H (.str s) (.str (toS s))
  | tup {a : Addr} {vs : List V} {xs : List PV} : TpV ρ H a vs → PRepL G ρ H xs vs → PRep G ρ H (.tup xs) (.ref a)
  | lst {a : Addr} {vs : List V} {xs : List PV} : LsV ρ H a vs → PRepL G ρ H xs vs → PRep G ρ H (.lst xs) (.ref a)
  | rol {a : Addr} {vs : List V} {xs : List PV} : RoV G.K ρ H a vs → PRepL G ρ H xs vs → PRep G ρ H (.rol xs) (.ref a)
  | rot {a : Addr} {vs : List V} {xs : List PV} : TkV G.K a vs → PRepL G ρ H xs vs → PRep G ρ H (.rot xs) (.ref a)
  | dK {a : Addr} {ws : List (Key × V)} {kvs : List (PV × PV)} : a ∉ ρ.all → Rd H a (.dK ws) → PRepK G ρ H kvs ws → PRep G ρ H (.dic kvs) (.ref a)
  | dT {a : Addr} {ws : List (List Key × V)} {kvs : List (PV × PV)} : a ∉ ρ.all → H a = some (.dT ws) → PRepT G ρ H kvs ws → PRep G ρ H (.dit kvs) (.ref a)
  | obj {c : Nat} {a : Addr} {gs : List (Str × V)} {fs : List (Nat × PV)} : ObV G ρ H c a gs → PRepF G ρ H fs gs → (∀ q ∈ fs, G.FA c q.1 = true) → PRep G ρ H (.obj c fs) (.ref a)
inductive PRepL (G : Wd) (ρ : Rh) (H : Hp) : List PV → List V → Prop
  | nil : PRepL G ρ H [] []
  | cons {x : PV} {v : V} {xs : List PV} {vs : List V} : PRep G ρ H x v → PRepL G ρ H xs vs → PRepL G ρ H (x :: xs) (v :: vs)
inductive PRepK (G : Wd) (ρ : Rh) (H : Hp) : List (PV × PV) → List (Key × V) → Prop
  | nil : PRepK G ρ H [] []
  | cons {k : PV} {κ : Key} {x : PV} {v : V} {xs : List (PV × PV)} {vs : List (Key × V)} : (keyOf k = some κ ∧ KOk k) → PRep G ρ H x v → PRepK G ρ H xs vs → PRepK G ρ H ((k, x) :: xs) ((κ, v) :: vs)
inductive PRepT (G : Wd) (ρ : Rh) (H : Hp) : List (PV × PV) → List (List Key × V) → Prop
  | nil : PRepT G ρ H [] []
  | cons {k : PV} {κ : List Key} {x : PV} {v : V} {xs : List (PV × PV)} {vs : List (List Key × V)} : (tkeyOf k = some κ ∧ KOk k) → PRep G ρ H x v → PRepT G ρ H xs vs → PRepT G ρ H ((k, x) :: xs) ((κ, v) :: vs)
inductive PRepF (G : Wd) (ρ : Rh) (H : Hp) : List (Nat × PV) → List (Str × V) → Prop
  | nil : PRepF G ρ H [] []
  | cons {k : Nat} {x : PV} {v : V} {xs : List (Nat × PV)} {vs : List (Str × V)} : k < G.NN → PRep G ρ H x v → PRepF G ρ H xs vs → PRepF G ρ H ((k, x) :: xs) ((G.AN k, v) :: vs)
end
mutual
inductive Rep (G : Wd) (ρ : Rh) (H : Hp) : EV → V → Prop
  | p {v : PV} {x : V} : PRep G ρ H v x → Rep G ρ H (.p v) x
  | tup {a : Addr} {vs : List V} {xs : List EV} : TpV ρ H a vs → RepL G ρ H xs vs → Rep G ρ H (.tup xs) (.ref a)
  | ref {n : Nat} {a : Addr} : ρ.loc[n]? = some a → Rep G ρ H (.ref n) (.ref a)
inductive RepL (G : Wd) (ρ : Rh) (H : Hp) : List EV → List V → Prop
  | nil : RepL G ρ H [] []
  | cons {x : EV} {v : V} {xs : List EV} {vs : List V} : Rep G ρ H x v → RepL G ρ H xs vs → RepL G ρ H (x :: xs) (v :: vs)
end
/-- pairs -/
inductive RepP {κ : Type} (kf : PV → Option κ) (G : Wd) (ρ : Rh) (H : Hp) : List (PV × EV) → List (κ × V) → Prop
  | nil : RepP kf G ρ H [] []
  | cons {k : PV} {q : κ} {x : EV} {v : V} {xs : List (PV × EV)} {vs : List (κ × V)} : (kf k = some q ∧ KOk k) → Rep G ρ H x v → RepP kf G ρ H xs vs → RepP kf G ρ H ((k, x) :: xs) ((q, v) :: vs)
inductive RepF (G : Wd) (ρ : Rh) (H : Hp) : List (Nat × EV) → List (Str × V) → Prop
  | nil : RepF G ρ H [] []
  | cons {k : Nat} {x : EV} {v : V} {xs : List (Nat × EV)} {vs : List (Str × V)} : k < G.NN → Rep G ρ H x v → RepF G ρ H xs vs → RepF G ρ H ((k, x) :: xs) ((G.AN k, v) :: vs)
def ORep (G : Wd) (ρ : Rh) (H : Hp) (a : Addr) : EO → Prop
  | .lst xs => ∃ vs, H a = some (.lst vs) ∧ RepL G ρ H xs vs
  | .dK kvs => ∃ ws, H a = some (.dK ws) ∧ RepP keyOf G ρ H kvs ws
  | .dT kvs => ∃ ws, H a = some (.dT ws) ∧ RepP tkeyOf G ρ H kvs ws
  | .dF kvs => ∃ o ws, H a = some (.frz o (.dK ws)) ∧ RepP keyOf G ρ H kvs ws
  | .ins c fs => ∃ dx gs, H a = some (.ins (G.CA c) dx gs) ∧ RepF G ρ H fs gs ∧ G.KD c = .ord ∧ ∀ q ∈ fs, G.FA c q.1 = true
structure Rel (G : Wd) (ρ : Rh) (h : EH) (H : Hp) : Prop where
  len : ρ.loc.length = h.length
  nd : ρ.loc.Nodup
  there : ∀ a, a ∈ ρ.out → H a ≠ none
  sep : ∀ a, a ∈ ρ.out → a ∉ ρ.loc
  obj : ∀ (n : Nat) (a : Addr) (o : EO), ρ.loc[n]? = some a → h[n]? = some o → ORep G ρ H a o
/-- a part of the run: our objects may turn, new ones may come, all else stays -/
structure Ext (ρ : Rh) (H : Hp) (ρ' : Rh) (H' : Hp) : Prop where
  out : ρ'.out = ρ.out
  pre : ∃ t, ρ'.loc = ρ.loc ++ t
  lck : ∀ a o u, H a = some (.frz o u) → H' a = some (.frz o u)
  /-- (a dict that nothing changes may be locked for good) -/
  oth : ∀ a u, a ∉ ρ.loc → H a = some u → H' a = some u ∨ (a ∉ ρ.out ∧ isDL u = true ∧ ∃ o, H' a = some (.frz o u))
  dom : ∀ a, H' a = none → H a = none
  new : ∀ a, a ∈ ρ'.loc → a ∈ ρ.loc ∨ H a = none
/-- what a walk leans on stays true -/
structure Sx (ρ : Rh) (H : Hp) (ρ' : Rh) (H' : Hp) : Prop where
  mo : Mo ρ H ρ' H'
  lck : ∀ a o u, H a = some (.frz o u) → H' a = some (.frz o u)
structure SR (G : Wd) (ρ : Rh) (H : Hp) (σ : ES) (τ : L2.St) : Prop where
  len : σ.length = τ.length
  at' : ∀ (i : Nat) v, σ[i]? = some (some v) → ∃ x, τ[i]? = some (some x) ∧ Rep G ρ H v x
  z : G.Z ρ τ H
/-- an exception's own dict -/
def ExAt (G : Wd) (ρ : Rh) (H : Hp) (d : Addr) (fs : PF) : Prop := d ∉ ρ.all ∧ ∃ gs, H d = some (.xd gs) ∧ PRepF G ρ H fs gs

section
variable {K : PySem.W.Frag} {G : Wd} {ρ ρ' ρ'' : Rh} {H H' H'' : Hp} {h : EH} {σ : ES} {τ : L2.St}
theorem Ext.exact (e : Ext ρ H ρ' H') {a : Addr} {u : HO} (n : a ∉ ρ.loc) (d : isDL u = false) (q : H a = some u) : H' a = some u := by
  rcases e.oth a u n q with z | ⟨_, z, _⟩
  · exact z
  · rw [d] at z; cases z
theorem solid_dl {u : HO} (h : solid u = true) : isDL u = false := by
  cases u <;> first | rfl | cases h
theorem Ext.toMo (e : Ext ρ H ρ' H') : Mo ρ H ρ' H' := by
  refine ⟨e.pre, fun a m => ?_, fun a u n d r => ?_, fun a u n d r => e.exact (fun z => n (Rh.mem_all.mpr (.inr z))) (solid_dl d) r⟩
  · rcases Rh.mem_all.mp m with z | z
    · rw [e.out] at z; exact .inl (Rh.mem_all.mpr (.inl z))
    · rcases e.new a z with w | w
      · exact .inl (Rh.mem_all.mpr (.inr w))
      · exact .inr w
  · have n' : a ∉ ρ.loc := fun z => n (Rh.mem_all.mpr (.inr z))
    rcases r with r | ⟨o, r⟩
    · rcases e.oth a u n' r with z | ⟨_, _, z⟩
      · exact .inl z
      · exact .inr z
    · exact .inr ⟨o, e.lck a o u r⟩
theorem Ext.sx (e : Ext ρ H ρ' H') : Sx ρ H ρ' H' := ⟨e.toMo, e.lck⟩
theorem Mo.refl : Mo ρ H ρ H := ⟨⟨[], by simp⟩, fun _ m => .inl m, fun _ _ _ _ h => h, fun _ _ _ _ h => h⟩
theorem Ext.refl : Ext ρ H ρ H := ⟨rfl, ⟨[], by simp⟩, fun _ _ _ h => h, fun _ _ _ h => .inl h, fun _ h => h, fun _ h => .inl h⟩
theorem Ext.trans (a : Ext ρ H ρ' H') (b : Ext ρ' H' ρ'' H'') : Ext ρ H ρ'' H'' := by
  obtain ⟨t, e⟩ := a.pre
  obtain ⟨u, e'⟩ := b.pre
  refine ⟨b.out.trans a.out, ⟨t ++ u, by rw [e', e, List.append_assoc]⟩, fun x o u h => b.lck _ _ _ (a.lck _ _ _ h), fun x w n h => ?_, fun x h => a.dom x (b.dom x h), fun x m => ?_⟩
  · have n' : x ∉ ρ'.loc := fun m => by
      rcases a.new x m with q | q
      · exact n q
      · rw [h] at q; cases q
    rcases a.oth x w n h with q | ⟨q1, q2, o, q⟩
    · rcases b.oth x w n' q with z | ⟨z1, z2, z3⟩
      · exact .inl z
      · exact .inr ⟨by rw [← a.out]; exact z1, z2, z3⟩
    · exact .inr ⟨q1, q2, o, b.lck x o w q⟩
  · rcases b.new x m with q | q
    · exact a.new x q
    · exact .inr (a.dom x q)
theorem Mo.get (e : Mo ρ H ρ' H') {n : Nat} {a : Addr} (h : ρ.loc[n]? = some a) : ρ'.loc[n]? = some a := by
  obtain ⟨t, e⟩ := e.pre
  rw [e]
  have := (List.getElem?_eq_some_iff.mp h).1
  rw [List.getElem?_append_left this]; exact h
theorem Mo.nin (e : Mo ρ H ρ' H') {a : Addr} {u : HO} (n : a ∉ ρ.all) (h : H a = some u) : a ∉ ρ'.all := fun m => by
  rcases e.new a m with z | z
  · exact n z
  · rw [h] at z; cases z
theorem rd_some {a : Addr} {u : HO} (r : Rd H a u) : ∃ w, H a = some w := by
  rcases r with r | ⟨o, r⟩
  · exact ⟨_, r⟩
  · exact ⟨_, r⟩
theorem Mo.ninR (e : Mo ρ H ρ' H') {a : Addr} {u : HO} (n : a ∉ ρ.all) (h : Rd H a u) : a ∉ ρ'.all := by
  obtain ⟨w, q⟩ := rd_some h
  exact e.nin n q
theorem Mo.tp (e : Mo ρ H ρ' H') {a : Addr} {vs : List V} (h : TpV ρ H a vs) : TpV ρ' H' a vs := ⟨e.nin h.1 h.2, e.sol _ _ h.1 rfl h.2⟩
theorem Mo.ls (e : Mo ρ H ρ' H') {a : Addr} {vs : List V} (h : LsV ρ H a vs) : LsV ρ' H' a vs := ⟨e.nin h.1 h.2, e.sol _ _ h.1 rfl h.2⟩
theorem Mo.ro (e : Mo ρ H ρ' H') {a : Addr} {vs : List V} (h : RoV K ρ H a vs) : RoV K ρ' H' a vs := by
  rcases h with ⟨n, o, h⟩ | h
  · exact .inl ⟨e.nin n h, o, e.sol _ _ n rfl h⟩
  · exact .inr h
theorem Mo.ob (e : Mo ρ H ρ' H') {c : Nat} {a : Addr} {gs : List (Str × V)} (h : ObV G ρ H c a gs) : ObV G ρ' H' c a gs := by
  obtain ⟨n, h⟩ := h
  unfold ObV
  cases ek : G.KD c with
  | ord =>
    rw [ek] at h
    obtain ⟨dx, q⟩ := h
    exact ⟨e.nin n q, dx, e.sol _ _ n rfl q⟩
  | exc =>
    rw [ek] at h
    obtain ⟨dx, nd, q, qd⟩ := h
    exact ⟨e.nin n q, dx, e.nin nd qd, e.sol _ _ n rfl q, e.sol _ _ nd rfl qd⟩
  | slt ns =>
    rw [ek] at h
    obtain ⟨dx, nd, q, qd⟩ := h
    exact ⟨e.nin n q, dx, e.nin nd qd, e.sol _ _ n rfl q, e.sol _ _ nd rfl qd⟩
mutual
theorem PRep.mono (e : Mo ρ H ρ' H') : ∀ {x : PV} {v : V}, PRep G ρ H x v → PRep G ρ' H' x v
  | _, _, .non => .non
  | _, _, .bl b => .bl b
  | _, _, .int i => .int i
  | _, _, .str s => .str s
  | _, _, .tup q r => .tup (e.tp q) (PRepL.mono e r)
  | _, _, .lst q r => .lst (e.ls q) (PRepL.mono e r)
  | _, _, .rol q r => .rol (e.ro q) (PRepL.mono e r)
  | _, _, .rot q r => .rot q (PRepL.mono e r)
  | _, _, .dK n q r => .dK (e.ninR n q) (e.rd _ _ n rfl q) (PRepK.mono e r)
  | _, _, .dT n q r => .dT (e.nin n q) (e.sol _ _ n rfl q) (PRepT.mono e r)
  | _, _, .obj q r w => .obj (e.ob q) (PRepF.mono e r) w
theorem PRepL.mono (e : Mo ρ H ρ' H') : ∀ {xs : List PV} {vs : List V}, PRepL G ρ H xs vs → PRepL G ρ' H' xs vs
  | _, _, .nil => .nil
  | _, _, .cons a b => .cons (PRep.mono e a) (PRepL.mono e b)
theorem PRepK.mono (e : Mo ρ H ρ' H') : ∀ {xs : List (PV × PV)} {vs : List (Key × V)}, PRepK G ρ H xs vs → PRepK G ρ' H' xs vs
  | _, _, .nil => .nil
  | _, _, .cons k a b => .cons k (PRep.mono e a) (PRepK.mono e b)
theorem PRepT.mono (e : Mo ρ H ρ' H') : ∀ {xs : List (PV × PV)} {vs : List (List Key × V)}, PRepT G ρ H xs vs → PRepT G ρ' H' xs vs
  | _, _, .nil => .nil
  | _, _, .cons k a b => .cons k (PRep.mono e a) (PRepT.mono e b)
theorem PRepF.mono (e : Mo ρ H ρ' H') : ∀ {xs : List (Nat × PV)} {vs : List (Str × V)}, PRepF G ρ H xs vs → PRepF G ρ' H' xs vs
  | _, _, .nil => .nil
  | _, _, .cons k a b => .cons k (PRep.mono e a) (PRepF.mono e b)
end
mutual
theorem Rep.mono (e : Mo ρ H ρ' H') : ∀ {x : EV} {v : V}, Rep G ρ H x v → Rep G ρ' H' x v
  | _, _, .p q => .p (q.mono e)
  | _, _, .tup q r => .tup (e.tp q) (RepL.mono e r)
  | _, _, .ref q => .ref (e.get q)
theorem RepL.mono (e : Mo ρ H ρ' H') : ∀ {xs : List EV} {vs : List V}, RepL G ρ H xs vs → RepL G ρ' H' xs vs
  | _, _, .nil => .nil
  | _, _, .cons a b => .cons (Rep.mono e a) (RepL.mono e b)
end
theorem RepP.mono {κ : Type} {kf : PV → Option κ} (e : Mo ρ H ρ' H') : ∀ {xs : List (PV × EV)} {vs : List (κ × V)}, RepP kf G ρ H xs vs → RepP kf G ρ' H' xs vs
  | _, _, .nil => .nil
  | _, _, .cons k a b => .cons k (Rep.mono e a) (RepP.mono e b)
theorem RepF.mono (e : Mo ρ H ρ' H') : ∀ {xs : List (Nat × EV)} {vs : List (Str × V)}, RepF G ρ H xs vs → RepF G ρ' H' xs vs
  | _, _, .nil => .nil
  | _, _, .cons k a b => .cons k (Rep.mono e a) (RepF.mono e b)
theorem SR.mono (e : Mo ρ H ρ' H') (s : SR G ρ H σ τ) : SR G ρ' H' σ τ := ⟨s.len, fun i v q => let ⟨x, a, b⟩ := s.at' i v q; ⟨x, a, b.mono e⟩, G.Zm _ _ _ _ _ s.z e⟩
theorem SR.set (hG : G.Zf = true) (s : SR G ρ H σ τ) {i : Nat} {v : EV} {x : V} (r : Rep G ρ H v x) : SR G ρ H (σ.set i (some v)) (τ.set i (some x)) := by
  refine ⟨by simp [s.len], fun j w q => ?_, G.Zs hG _ _ _⟩
  by_cases e : i = j
  · subst e
    have hl : i < σ.length := by
      have := (List.getElem?_eq_some_iff.mp q).1
      simpa using this
    rw [List.getElem?_set_self hl] at q
    cases q
    exact ⟨x, by rw [List.getElem?_set_self (by rw [← s.len]; exact hl)], r⟩
  · rw [List.getElem?_set_ne e] at q
    rw [List.getElem?_set_ne e]
    exact s.at' j w q
theorem SR.clear (hG : G.Zf = true) (s : SR G ρ H σ τ) {i : Nat} {o : Option V} : SR G ρ H (σ.set i none) (τ.set i o) := by
  refine ⟨by simp [s.len], fun j w q => ?_, G.Zs hG _ _ _⟩
  by_cases e : i = j
  · subst e
    have hl : i < σ.length := by
      have := (List.getElem?_eq_some_iff.mp q).1
      simpa using this
    rw [List.getElem?_set_self hl] at q
    cases q
  · rw [List.getElem?_set_ne e] at q
    rw [List.getElem?_set_ne e]
    exact s.at' j w q
theorem RepL.length : ∀ {xs : List EV} {vs : List V}, RepL G ρ H xs vs → xs.length = vs.length
  | _, _, .nil => rfl
  | _, _, .cons _ b => by simp [RepL.length b]
theorem RepL.get : ∀ {xs : List EV} {vs : List V} {i : Nat} {x : EV}, RepL G ρ H xs vs → xs[i]? = some x → ∃ v, vs[i]? = some v ∧ Rep G ρ H x v
  | _, _, _, _, .nil, e => by simp at e
  | _, _, 0, _, .cons a b, e => by simp at e; subst e; exact ⟨_, rfl, a⟩
  | _, _, i + 1, x, .cons a b, e => by
    obtain ⟨v, h1, h2⟩ := RepL.get (i := i) (x := x) b (by simpa using e)
    exact ⟨v, by simpa using h1, h2⟩
theorem RepL.append : ∀ {xs ys : List EV} {vs ws : List V}, RepL G ρ H xs vs → RepL G ρ H ys ws → RepL G ρ H (xs ++ ys) (vs ++ ws)
  | _, _, _, _, .nil, s => s
  | _, _, _, _, .cons r t, s => .cons r (RepL.append t s)
theorem RepL.take : ∀ {xs : List EV} {vs : List V} (n : Nat), RepL G ρ H xs vs → RepL G ρ H (xs.take n) (vs.take n)
  | _, _, 0, _ => .nil
  | _, _, _ + 1, .nil => .nil
  | _, _, n + 1, .cons r t => .cons r (RepL.take n t)
theorem RepL.drop : ∀ {xs : List EV} {vs : List V} (n : Nat), RepL G ρ H xs vs → RepL G ρ H (xs.drop n) (vs.drop n)
  | _, _, 0, r => r
  | _, _, _ + 1, .nil => .nil
  | _, _, n + 1, .cons _ t => RepL.drop n t
theorem RepL.set {x : EV} {v : V} (r : Rep G ρ H x v) : ∀ {xs : List EV} {vs : List V} (i : Nat), RepL G ρ H xs vs → RepL G ρ H (xs.set i x) (vs.set i v)
  | _, _, _, .nil => .nil
  | _, _, 0, .cons _ t => .cons r t
  | _, _, i + 1, .cons q t => .cons q (RepL.set r i t)
theorem RepL.reverse {xs : List EV} {vs : List V} (r : RepL G ρ H xs vs) : RepL G ρ H xs.reverse vs.reverse := by
  induction xs generalizing vs with
  | nil => cases r; exact .nil
  | cons x xs ih =>
    cases r with
    | cons a b =>
      rw [List.reverse_cons, List.reverse_cons]
      exact (ih b).append (.cons a .nil)
theorem PRep.sok {s : List Nat} {v : V} (r : PRep G ρ H (.str s) v) : SOk s := by cases r; assumption
theorem PRepL.mem : ∀ {xs : List PV} {vs : List V} {x : PV}, PRepL G ρ H xs vs → x ∈ xs → ∃ v, PRep G ρ H x v
  | _, _, _, .nil, m => nomatch m
  | _, _, _, .cons a b, m => by
    rcases List.mem_cons.mp m with rfl | m
    · exact ⟨_, a⟩
    · exact PRepL.mem b m
theorem PRep.kok {k : PV} {v : V} (r : PRep G ρ H k v) : KOk k := by
  cases r with
  | str h => exact h
  | tup _ rr => exact fun s m => let ⟨_, q⟩ := rr.mem m; q.sok
  | _ => exact trivial
theorem PRepL.lift : ∀ {xs : List PV} {vs : List V}, PRepL G ρ H xs vs → RepL G ρ H (xs.map .p) vs
  | _, _, .nil => .nil
  | _, _, .cons a b => .cons (.p a) (PRepL.lift b)
theorem PRepL.length {xs : List PV} {vs : List V} (r : PRepL G ρ H xs vs) : xs.length = vs.length := by
  have := r.lift.length
  simpa using this
/-- all of them plain -/
def allP : List EV → Option (List PV)
  | [] => some []
  | .p v :: xs => (allP xs).map (v :: ·)
  | _ :: _ => none
theorem RepL.plain : ∀ {xs : List EV} {vs : List V} {ps : List PV}, RepL G ρ H xs vs → allP xs = some ps → PRepL G ρ H ps vs
  | _, _, ps, .nil, e => by cases e; exact .nil
  | x :: xs, _, ps, .cons a b, e => by
    cases x with
    | p v =>
      cases a with
      | p a =>
        simp only [allP] at e
        cases e1 : allP xs with
        | none => rw [e1] at e; cases e
        | some qs => rw [e1] at e; cases e; exact .cons a (RepL.plain b e1)
    | tup ys => cases e
    | ref n => cases e
theorem allP_map (ps : List PV) : allP (ps.map .p) = some ps := by
  induction ps with
  | nil => rfl
  | cons a r ih => simp [allP, ih]

theorem ORep.is {a : Addr} {o : EO} (r : ORep G ρ H a o) : ∃ u, H a = some u := by
  cases o with
  | lst xs => obtain ⟨vs, e, _⟩ := r; exact ⟨_, e⟩
  | dK xs => obtain ⟨vs, e, _⟩ := r; exact ⟨_, e⟩
  | dT xs => obtain ⟨vs, e, _⟩ := r; exact ⟨_, e⟩
  | dF xs => obtain ⟨o, vs, e, _⟩ := r; exact ⟨_, e⟩
  | ins c xs => obtain ⟨dx, vs, e, _⟩ := r; exact ⟨_, e⟩
theorem Rel.at (R : Rel G ρ h H) {n : Nat} {o : EO} (e : h[n]? = some o) : ∃ a, ρ.loc[n]? = some a ∧ ORep G ρ H a o := by
  have hl := (List.getElem?_eq_some_iff.mp e).1
  have : n < ρ.loc.length := by rw [R.len]; exact hl
  exact ⟨ρ.loc[n], List.getElem?_eq_getElem this, R.obj n _ o (List.getElem?_eq_getElem this) e⟩
theorem Rel.known (R : Rel G ρ h H) {a : Addr} (m : a ∈ ρ.loc) : ∃ (n : Nat) (o : EO), ρ.loc[n]? = some a ∧ h[n]? = some o ∧ ORep G ρ H a o := by
  obtain ⟨n, hn, e⟩ := List.mem_iff_getElem.mp m
  have : n < h.length := by rw [← R.len]; exact hn
  exact ⟨n, h[n], by rw [List.getElem?_eq_getElem hn, e], List.getElem?_eq_getElem this, R.obj n a _ (by rw [List.getElem?_eq_getElem hn, e]) (List.getElem?_eq_getElem this)⟩
theorem Rel.fresh (R : Rel G ρ h H) {p : Addr} (e : H p = none) : p ∉ ρ.all := fun m => by
  rcases Rh.mem_all.mp m with m | m
  · exact R.there p m e
  · obtain ⟨_, _, _, _, r⟩ := R.known m
    obtain ⟨u, q⟩ := r.is
    rw [e] at q; cases q
theorem Rel.freshL (R : Rel G ρ h H) {p : Addr} (e : H p = none) : p ∉ ρ.loc := fun m => R.fresh e (Rh.mem_all.mpr (.inr m))
/-- an object's description where its own content and all values stay -/
theorem ORep.move {a : Addr} {o : EO} (e : Mo ρ H ρ' H') (k : ∀ u, H a = some u → H' a = some u) (r : ORep G ρ H a o) : ORep G ρ' H' a o := by
  cases o with
  | lst xs => obtain ⟨vs, q, r⟩ := r; exact ⟨vs, k _ q, r.mono e⟩
  | dK xs => obtain ⟨vs, q, r⟩ := r; exact ⟨vs, k _ q, r.mono e⟩
  | dT xs => obtain ⟨vs, q, r⟩ := r; exact ⟨vs, k _ q, r.mono e⟩
  | dF xs => obtain ⟨o, vs, q, r⟩ := r; exact ⟨o, vs, k _ q, r.mono e⟩
  | ins c xs => obtain ⟨dx, vs, q, r, w⟩ := r; exact ⟨dx, vs, k _ q, r.mono e, w⟩
theorem upd_dom {p : Addr} {u : HO} (a : Addr) (q : upd H p u a = none) : H a = none := by
  by_cases z : a = p
  · subst z; rw [upd_same] at q; cases q
  · rw [upd_ne z] at q; exact q
theorem Ext.laid {p : Addr} {u : HO} (e : H p = none) : Ext ρ H (ρ.add p) (upd H p u) :=
  ⟨rfl, ⟨[p], rfl⟩, fun a o w q => by rw [upd_ne (ne_of_none q e)]; exact q, fun a w _ q => .inl (by rw [upd_ne (ne_of_none q e)]; exact q), upd_dom,
    fun a m => by
      rcases List.mem_append.mp m with q | q
      · exact .inl q
      · have : a = p := by simpa using q
        subst this; exact .inr e⟩
theorem Ext.laid0 {p : Addr} {u : HO} (e : H p = none) : Ext ρ H ρ (upd H p u) :=
  ⟨rfl, ⟨[], by simp⟩, fun a o w q => by rw [upd_ne (ne_of_none q e)]; exact q, fun a w _ q => .inl (by rw [upd_ne (ne_of_none q e)]; exact q), upd_dom, fun a m => .inl m⟩
/-- .. that is not one's own as yet -/
theorem Mo.hid {p : Addr} {u : HO} (e : H p = none) : Mo ρ H (ρ.hid p) (upd H p u) :=
  ⟨⟨[], by simp [Rh.hid]⟩, fun a m => by
    rcases Rh.mem_hid.mp m with q | q
    · subst q; exact .inr e
    · exact .inl q, (Ext.laid0 (ρ := ρ) e).toMo.rd, (Ext.laid0 (ρ := ρ) e).toMo.sol⟩
theorem Sx.hid {p : Addr} {u : HO} (e : H p = none) : Sx ρ H (ρ.hid p) (upd H p u) := ⟨Mo.hid e, (Ext.laid0 (ρ := ρ) e).lck⟩
theorem Rel.ext0 (R : Rel G ρ h H) (e : Ext ρ H ρ H') (k : ∀ a u, a ∈ ρ.loc → H a = some u → H' a = some u) : Rel G ρ h H' :=
  ⟨R.len, R.nd, fun a m z => R.there a m (e.dom a z), R.sep, fun n a o q r => (R.obj n a o q r).move e.toMo fun u z => k a u (List.mem_of_getElem? q) z⟩
/-- a new thing that is no object of ours (a tuple) -/
theorem Rel.aside (R : Rel G ρ h H) {p : Addr} {u : HO} (e : H p = none) : Rel G ρ h (upd H p u) :=
  R.ext0 (Ext.laid0 e) fun a w _ z => by rw [upd_ne (ne_of_none z e)]; exact z
theorem Rel.hid (R : Rel G ρ h H) {p : Addr} {u : HO} (e : H p = none) : Rel G (ρ.hid p) h (upd H p u) :=
  ⟨R.len, R.nd, fun a m z => by
    rcases List.mem_cons.mp m with q | q
    · subst q; rw [upd_same] at z; cases z
    · exact R.there a q (upd_dom a z), fun a m => by
    rcases List.mem_cons.mp m with q | q
    · subst q; exact R.freshL e
    · exact R.sep a q, fun n a o q r => (R.obj n a o q r).move (Mo.hid e) fun w z => by rw [upd_ne (ne_of_none z e)]; exact z⟩
theorem nodup_add {l : List Addr} {p : Addr} (nd : l.Nodup) (n : p ∉ l) : (l ++ [p]).Nodup := by
  rw [List.nodup_append]
  refine ⟨nd, by simp, fun a ha b hb z => ?_⟩
  have : b = p := by simpa using hb
  subst this; subst z; exact n ha
/-- a new object -/
theorem Rel.alloc (R : Rel G ρ h H) {p : Addr} {u : HO} {o : EO} (e : H p = none) (r : ORep G (ρ.add p) (upd H p u) p o) : Rel G (ρ.add p) (h ++ [o]) (upd H p u) := by
  have nf := R.freshL e
  refine ⟨by simp [Rh.add, R.len], nodup_add R.nd nf, fun a m z => R.there a m (upd_dom a z), fun a m z => ?_, fun n a o' q q' => ?_⟩
  · rcases List.mem_append.mp z with z | z
    · exact R.sep a m z
    · have : a = p := by simpa using z
      subst this; exact R.there a m e
  by_cases hn : n < ρ.loc.length
  · simp only [Rh.add] at q
    rw [List.getElem?_append_left hn] at q
    rw [List.getElem?_append_left (by rw [← R.len]; exact hn)] at q'
    exact (R.obj n a o' q q').move (Ext.laid e).toMo fun w z => by rw [upd_ne (ne_of_none z e)]; exact z
  · have h1 : ρ.loc.length ≤ n := by omega
    simp only [Rh.add] at q
    rw [List.getElem?_append_right h1] at q
    rw [List.getElem?_append_right (by rw [← R.len]; exact h1)] at q'
    rw [R.len] at q
    have hn0 : n - h.length = 0 := by
      have := (List.getElem?_eq_some_iff.mp q').1
      simp at this; omega
    rw [hn0] at q q'
    simp at q q'
    subst q; subst q'
    exact r
theorem frz_ne {a b : Addr} {o : EO} {ob : Obj} {w : HO} (hf : o.isF = false) (r : ORep G ρ H a o) (q : H b = some (.frz ob w)) : b ≠ a := by
  rintro rfl
  cases o with
  | lst xs => obtain ⟨vs, e, _⟩ := r; rw [q] at e; cases e
  | dK xs => obtain ⟨vs, e, _⟩ := r; rw [q] at e; cases e
  | dT xs => obtain ⟨vs, e, _⟩ := r; rw [q] at e; cases e
  | dF xs => cases hf
  | ins c xs => obtain ⟨dx, vs, e, _⟩ := r; rw [q] at e; cases e
/-- one object of ours is written -/
theorem Ext.write {n : Nat} {a : Addr} {o : EO} {u : HO} (ha : ρ.loc[n]? = some a) (r : ORep G ρ H a o) (hf : o.isF = false) : Ext ρ H ρ (upd H a u) :=
  ⟨rfl, ⟨[], by simp⟩, fun b ob w q => by rw [upd_ne (frz_ne hf r q)]; exact q,
    fun b w m q => .inl (by
      rw [upd_ne (fun z => m (by rw [z]; exact List.mem_of_getElem? ha))]; exact q), upd_dom, fun b m => .inl m⟩
theorem Rel.write (R : Rel G ρ h H) {n : Nat} {a : Addr} {o o' : EO} {u : HO} (ha : ρ.loc[n]? = some a) (ho : h[n]? = some o) (r : ORep G ρ (upd H a u) a o') (hf : o.isF = false) : Rel G ρ (h.set n o') (upd H a u) := by
  have r0 := R.obj n a o ha ho
  refine ⟨by simp [R.len], R.nd, fun a m z => R.there a m (upd_dom a z), R.sep, fun m b w q q' => ?_⟩
  by_cases e : n = m
  · subst e
    rw [ha] at q; cases q
    rw [List.getElem?_set_self (List.getElem?_eq_some_iff.mp ho).1] at q'
    cases q'
    exact r
  · rw [List.getElem?_set_ne e] at q'
    have nb : b ≠ a := fun z => by
      subst z
      obtain ⟨h1, e1⟩ := List.getElem?_eq_some_iff.mp ha
      obtain ⟨h2, e2⟩ := List.getElem?_eq_some_iff.mp q
      exact e ((List.getElem_inj R.nd).mp (e1.trans e2.symm))
    exact (R.obj m b w q q').move (Ext.write ha r0 hf).toMo fun v z => by rw [upd_ne nb]; exact z
/-! a made list, not one's own as yet, becomes an object of ours, or a plain value -/
theorem Mo.adopt {p : Addr} : Mo (ρ.hid p) H (ρ.add p) H := ⟨⟨[p], rfl⟩, fun a m => .inl (by
  rcases Rh.mem_add.mp m with z | z
  · exact Rh.mem_hid.mpr (.inr z)
  · exact Rh.mem_hid.mpr (.inl z)), fun _ _ _ _ h => h, fun _ _ _ _ h => h⟩
theorem Mo.unhid {p : Addr} : Mo (ρ.hid p) H ρ H := ⟨⟨[], by simp [Rh.hid]⟩, fun a m => .inl (Rh.mem_hid.mpr (.inr m)), fun a u n _ h => h, fun a u n _ h => h⟩
theorem Rel.unhid {p : Addr} (R : Rel G (ρ.hid p) h H) : Rel G ρ h H := ⟨R.len, R.nd, fun a m => R.there a (List.mem_cons_of_mem _ m), fun a m => R.sep a (List.mem_cons_of_mem _ m), fun n a o q r => (R.obj n a o q r).move Mo.unhid fun _ z => z⟩
theorem Ext.adopt {H₀ : Hp} {p : Addr} (e : Ext ρ H₀ ρ' H) (n : H₀ p = none) : Ext ρ H₀ (ρ'.add p) H := by
  obtain ⟨t, q⟩ := e.pre
  refine ⟨e.out, ⟨t ++ [p], by simp [Rh.add, q]⟩, e.lck, e.oth, e.dom, fun a m => ?_⟩
  rcases List.mem_append.mp m with z | z
  · exact e.new a z
  · have : a = p := by simpa using z
    subst this; exact .inr n
theorem Rel.adopt {p : Addr} {vs : List V} {xs : List EV} (R : Rel G (ρ.hid p) h H) (m : p ∉ ρ.all) (l : H p = some (.lst vs)) (r : RepL G (ρ.hid p) H xs vs) : Rel G (ρ.add p) (h ++ [.lst xs]) H := by
  have len : ρ.loc.length = h.length := R.len
  refine ⟨by simp [Rh.add, len], nodup_add R.nd (fun z => m (Rh.mem_all.mpr (.inr z))), fun a q => R.there a (List.mem_cons_of_mem _ q), fun a q z => ?_, fun n a o' q q' => ?_⟩
  · rcases List.mem_append.mp z with z | z
    · exact R.sep a (List.mem_cons_of_mem _ q) z
    · have : a = p := by simpa using z
      subst this; exact m (Rh.mem_all.mpr (.inl q))
  by_cases hn : n < ρ.loc.length
  · simp only [Rh.add] at q
    rw [List.getElem?_append_left hn] at q
    rw [List.getElem?_append_left (by rw [← len]; exact hn)] at q'
    exact (R.obj n a o' q q').move Mo.adopt fun w z => z
  · have h1 : ρ.loc.length ≤ n := by omega
    simp only [Rh.add] at q
    rw [List.getElem?_append_right h1] at q
    rw [List.getElem?_append_right (by rw [← len]; exact h1)] at q'
    rw [len] at q
    have hn0 : n - h.length = 0 := by
      have := (List.getElem?_eq_some_iff.mp q').1
      simp at this; omega
    rw [hn0] at q q'
    simp at q q'
    subst q; subst q'
    exact ⟨vs, l, r.mono Mo.adopt⟩
/-- a run beside a hidden thing -/
theorem Ext.hidden {p : Addr} (e : Ext (ρ.hid p) H ρ' H') : ∃ ρ2, ρ' = Rh.hid ρ2 p ∧ Ext ρ H ρ2 H' :=
  ⟨⟨ρ.out, ρ'.loc⟩, by
    have := e.out
    cases ρ'
    simp only [Rh.hid] at this ⊢
    rw [this], ⟨rfl, e.pre, e.lck, fun a u n q => (e.oth a u n q).imp id fun z => ⟨fun m => z.1 (List.mem_cons_of_mem _ m), z.2⟩, e.dom, e.new⟩⟩
/-! another's run: nothing of ours turns -/
/-- behind a part that was told by other objects of its own -/
theorem Ext.kept {ρc : Rh} (e : Ext ρ.away H ρc H') {a : Addr} {u : HO} (m : a ∈ ρ.all) (q : H a = some u) : H' a = some u := by
  rcases e.oth a u (by simp [Rh.away]) q with z | ⟨z, _⟩
  · exact z
  · exact absurd m z
theorem Ext.ours {ρc : Rh} (e : Ext ρ.away H ρc H') : Ext ρ H ρ H' :=
  ⟨rfl, ⟨[], by simp⟩, e.lck, fun a u _ q => (e.oth a u (by simp [Rh.away]) q).imp id fun z => ⟨fun m => z.1 (List.mem_append_left _ m), z.2⟩, e.dom, fun a m => .inl m⟩
theorem Rel.ours (R : Rel G ρ h H) {ρc : Rh} (e : Ext ρ.away H ρc H') : Rel G ρ h H' :=
  R.ext0 e.ours fun a u m q => e.kept (Rh.mem_all.mpr (.inr m)) q
theorem Rel.away (R : Rel G ρ h H) : Rel G ρ.away [] H := by
  refine ⟨rfl, List.nodup_nil, fun a m z => ?_, fun a _ q => (by simp [Rh.away] at q), fun n a o q => by simp [Rh.away] at q⟩
  rcases List.mem_append.mp m with q | q
  · exact R.there a q z
  · obtain ⟨_, _, _, _, r⟩ := R.known q
    obtain ⟨u, w⟩ := r.is
    rw [z] at w
    exact nomatch w
theorem ObV.set (hs : ∀ a, a ∈ ρ'.all → a ∈ ρ.all) {c : Nat} {a : Addr} {gs : List (Str × V)} (h : ObV G ρ H c a gs) : ObV G ρ' H c a gs := by
  obtain ⟨n, h⟩ := h
  unfold ObV
  cases ek : G.KD c with
  | ord => rw [ek] at h; exact ⟨fun m => n (hs _ m), h⟩
  | exc => rw [ek] at h; obtain ⟨dx, nd, q⟩ := h; exact ⟨fun m => n (hs _ m), dx, fun m => nd (hs _ m), q⟩
  | slt ns => rw [ek] at h; obtain ⟨dx, nd, q⟩ := h; exact ⟨fun m => n (hs _ m), dx, fun m => nd (hs _ m), q⟩
/-! ### another world that says the same of values -/
structure WdEq (G G' : Wd) : Prop where
  K : G'.K = G.K
  CA : G'.CA = G.CA
  AN : G'.AN = G.AN
  NN : G'.NN = G.NN
  KD : G'.KD = G.KD
  FA : G'.FA = G.FA
theorem WdEq.symm {G G' : Wd} (h : WdEq G G') : WdEq G' G := ⟨h.K.symm, h.CA.symm, h.AN.symm, h.NN.symm, h.KD.symm, h.FA.symm⟩
theorem WdEq.ob {G G' : Wd} (h : WdEq G G') {c : Nat} {a : Addr} {gs : List (Str × V)} (o : ObV G ρ H c a gs) : ObV G' ρ H c a gs := by
  unfold ObV at o ⊢
  rw [h.KD, h.CA, h.AN]
  exact o
mutual
theorem PRep.conv {G G' : Wd} (h : WdEq G G') : ∀ {x : PV} {v : V}, PRep G ρ H x v → PRep G' ρ H x v
  | _, _, .non => .non
  | _, _, .bl b => .bl b
  | _, _, .int i => .int i
  | _, _, .str s => .str s
  | _, _, .tup q r => .tup q (PRepL.conv h r)
  | _, _, .lst q r => .lst q (PRepL.conv h r)
  | _, _, .rol q r => .rol (h.K ▸ q) (PRepL.conv h r)
  | _, _, .rot q r => .rot (h.K ▸ q) (PRepL.conv h r)
  | _, _, .dK n q r => .dK n q (PRepK.conv h r)
  | _, _, .dT n q r => .dT n q (PRepT.conv h r)
  | _, _, .obj q r w => .obj (h.ob q) (PRepF.conv h r) (h.FA ▸ w)
theorem PRepL.conv {G G' : Wd} (h : WdEq G G') : ∀ {xs : List PV} {vs : List V}, PRepL G ρ H xs vs → PRepL G' ρ H xs vs
  | _, _, .nil => .nil
  | _, _, .cons a b => .cons (PRep.conv h a) (PRepL.conv h b)
theorem PRepK.conv {G G' : Wd} (h : WdEq G G') : ∀ {xs : List (PV × PV)} {vs : List (Key × V)}, PRepK G ρ H xs vs → PRepK G' ρ H xs vs
  | _, _, .nil => .nil
  | _, _, .cons k a b => .cons k (PRep.conv h a) (PRepK.conv h b)
theorem PRepT.conv {G G' : Wd} (h : WdEq G G') : ∀ {xs : List (PV × PV)} {vs : List (List Key × V)}, PRepT G ρ H xs vs → PRepT G' ρ H xs vs
  | _, _, .nil => .nil
  | _, _, .cons k a b => .cons k (PRep.conv h a) (PRepT.conv h b)
theorem PRepF.conv {G G' : Wd} (h : WdEq G G') : ∀ {xs : List (Nat × PV)} {vs : List (Str × V)}, PRepF G ρ H xs vs → PRepF G' ρ H xs vs
  | _, _, .nil => .nil
  | _, _, .cons (k := i) k a b => by
    have := PRepF.cons (G := G') (k := i) (h.NN ▸ k) (PRep.conv h a) (PRepF.conv h b)
    rw [h.AN] at this
    exact this
end
mutual
theorem Rep.conv {G G' : Wd} (h : WdEq G G') : ∀ {x : EV} {v : V}, Rep G ρ H x v → Rep G' ρ H x v
  | _, _, .p q => .p (q.conv h)
  | _, _, .tup q r => .tup q (RepL.conv h r)
  | _, _, .ref q => .ref q
theorem RepL.conv {G G' : Wd} (h : WdEq G G') : ∀ {xs : List EV} {vs : List V}, RepL G ρ H xs vs → RepL G' ρ H xs vs
  | _, _, .nil => .nil
  | _, _, .cons a b => .cons (Rep.conv h a) (RepL.conv h b)
end
theorem RepP.conv {G G' : Wd} (h : WdEq G G') {κ : Type} {kf : PV → Option κ} : ∀ {xs : List (PV × EV)} {vs : List (κ × V)}, RepP kf G ρ H xs vs → RepP kf G' ρ H xs vs
  | _, _, .nil => .nil
  | _, _, .cons k a b => .cons k (Rep.conv h a) (RepP.conv h b)
theorem RepF.conv {G G' : Wd} (h : WdEq G G') : ∀ {xs : List (Nat × EV)} {vs : List (Str × V)}, RepF G ρ H xs vs → RepF G' ρ H xs vs
  | _, _, .nil => .nil
  | _, _, .cons (k := i) k a b => by
    have := RepF.cons (G := G') (k := i) (h.NN ▸ k) (Rep.conv h a) (RepF.conv h b)
    rw [h.AN] at this
    exact this
theorem ORep.conv {G G' : Wd} (h : WdEq G G') {a : Addr} {o : EO} (r : ORep G ρ H a o) : ORep G' ρ H a o := by
  cases o with
  | lst xs => obtain ⟨vs, q, r⟩ := r; exact ⟨vs, q, r.conv h⟩
  | dK xs => obtain ⟨vs, q, r⟩ := r; exact ⟨vs, q, r.conv h⟩
  | dT xs => obtain ⟨vs, q, r⟩ := r; exact ⟨vs, q, r.conv h⟩
  | dF xs => obtain ⟨o, vs, q, r⟩ := r; exact ⟨o, vs, q, r.conv h⟩
  | ins c xs => obtain ⟨dx, vs, q, r, w1, w2⟩ := r; exact ⟨dx, vs, by rw [h.CA]; exact q, r.conv h, by rw [h.KD]; exact w1, by rw [h.FA]; exact w2⟩
theorem Rel.conv {G G' : Wd} (h : WdEq G G') {hh : EH} (R : Rel G ρ hh H) : Rel G' ρ hh H := ⟨R.len, R.nd, R.there, R.sep, fun n a o q r => (R.obj n a o q r).conv h⟩
theorem ExAt.conv {G G' : Wd} (h : WdEq G G') {d : Addr} {fs : PF} (x : ExAt G ρ H d fs) : ExAt G' ρ H d fs := let ⟨n, gs, q, r⟩ := x; ⟨n, gs, q, r.conv h⟩
mutual
theorem PRep.set (hs : ∀ a, a ∈ ρ'.all → a ∈ ρ.all) : ∀ {x : PV} {v : V}, PRep G ρ H x v → PRep G ρ' H x v
  | _, _, .non => .non
  | _, _, .bl b => .bl b
  | _, _, .int i => .int i
  | _, _, .str s => .str s
  | _, _, .tup q r => .tup ⟨fun m => q.1 (hs _ m), q.2⟩ (PRepL.set hs r)
  | _, _, .rot q r => .rot q (PRepL.set hs r)
  | _, _, .lst q r => .lst ⟨fun m => q.1 (hs _ m), q.2⟩ (PRepL.set hs r)
  | _, _, .rol q r => .rol (q.imp (fun z => ⟨fun m => z.1 (hs _ m), z.2⟩) id) (PRepL.set hs r)
  | _, _, .dK n q r => .dK (fun m => n (hs _ m)) q (PRepK.set hs r)
  | _, _, .dT n q r => .dT (fun m => n (hs _ m)) q (PRepT.set hs r)
  | _, _, .obj q r w => .obj (ObV.set hs q) (PRepF.set hs r) w
theorem PRepL.set (hs : ∀ a, a ∈ ρ'.all → a ∈ ρ.all) : ∀ {xs : List PV} {vs : List V}, PRepL G ρ H xs vs → PRepL G ρ' H xs vs
  | _, _, .nil => .nil
  | _, _, .cons a b => .cons (PRep.set hs a) (PRepL.set hs b)
theorem PRepK.set (hs : ∀ a, a ∈ ρ'.all → a ∈ ρ.all) : ∀ {xs : List (PV × PV)} {vs : List (Key × V)}, PRepK G ρ H xs vs → PRepK G ρ' H xs vs
  | _, _, .nil => .nil
  | _, _, .cons k a b => .cons k (PRep.set hs a) (PRepK.set hs b)
theorem PRepT.set (hs : ∀ a, a ∈ ρ'.all → a ∈ ρ.all) : ∀ {xs : List (PV × PV)} {vs : List (List Key × V)}, PRepT G ρ H xs vs → PRepT G ρ' H xs vs
  | _, _, .nil => .nil
  | _, _, .cons k a b => .cons k (PRep.set hs a) (PRepT.set hs b)
theorem PRepF.set (hs : ∀ a, a ∈ ρ'.all → a ∈ ρ.all) : ∀ {xs : List (Nat × PV)} {vs : List (Str × V)}, PRepF G ρ H xs vs → PRepF G ρ' H xs vs
  | _, _, .nil => .nil
  | _, _, .cons k a b => .cons k (PRep.set hs a) (PRepF.set hs b)
end
end

/-! ### the wishes themselves as readings -/
section
variable {X : Cx}
def wE (X : Cx) (e : Expr) : TE := fun σ H Q => ∀ pins s, Inv X pins σ H s → wpAny (model X.prog X.w) X.A (eval e X.env) (EP X pins σ Q) X.xe s
theorem wE.pe {e : Expr} : PE X e (wE X e) := ⟨fun pins s _ _ _ I h => h pins s I⟩
theorem wE.of {e : Expr} {t : TE} {σ : L2.St} {H : Hp} {Q : VK} (p : PE X e t) (h : t σ H Q) : wE X e σ H Q := fun pins s I => p.run pins s σ H Q I h
def wT (X : Cx) (e : Expr) : TT := fun σ H Q => ∀ pins s, Inv X pins σ H s → wpAny (model X.prog X.w) X.A (isTrue e X.env (eval e X.env)) (TP X pins σ Q) X.xe s
theorem wT.pt {e : Expr} : PT X e (wT X e) := ⟨fun pins s _ _ _ I h => h pins s I⟩
theorem wT.of {e : Expr} {t : TT} {σ : L2.St} {H : Hp} {Q : Bool → Hp → Prop} (p : PT X e t) (h : t σ H Q) : wT X e σ H Q := fun pins s I => p.run pins s σ H Q I h
def wA (X : Cx) (es : List Expr) : TA := fun σ H Q => ∀ pos pins s, Inv X pins σ H s → wpAny (model X.prog X.w) X.A (spliced (backTo pos (starEach es X.env))) (AP X pins σ Q) X.xe s
theorem wA.pa {es : List Expr} : PA X es (wA X es) := ⟨fun pos pins s _ _ _ I h => h pos pins s I⟩
theorem wA.of {es : List Expr} {t : TA} {σ : L2.St} {H : Hp} {Q : List V → Hp → Prop} (p : PA X es t) (h : t σ H Q) : wA X es σ H Q := fun pos pins s I => p.run pos pins s σ H Q I h
def wS (X : Cx) (st : Stmt) : TS := fun D σ H => ∀ pins s, Inv X pins σ H s → wpAny (model X.prog X.w) X.A (exec st X.env) (SP X pins D) X.xe s
theorem wS.ps {st : Stmt} : PS X st (wS X st) := ⟨fun pins s _ _ _ I h => h pins s I⟩
theorem wS.of {st : Stmt} {t : TS} {σ : L2.St} {H : Hp} {D : Ends} (p : PS X st t) (h : t D σ H) : wS X st D σ H := fun pins s I => p.run pins s σ H D I h
def wSs (X : Cx) (st : List Stmt) : TS := fun D σ H => ∀ pins s, Inv X pins σ H s → wpAny (model X.prog X.w) X.A (execs st X.env) (SP X pins D) X.xe s
theorem wSs.pss {st : List Stmt} : PSs X st (wSs X st) := ⟨fun pins s _ _ _ I h => h pins s I⟩
theorem wSs.of {st : List Stmt} {t : TS} {σ : L2.St} {H : Hp} {D : Ends} (p : PSs X st t) (h : t D σ H) : wSs X st D σ H := fun pins s I => p.run pins s σ H D I h
/-- a two-place operation -/
def wO (X : Cx) (f : Value → Value → Sem Value) : R2 := fun x y H Q => ∀ pins s σ v u, Inv X pins σ H s → RelV x v → RelV y u → wpAny (model X.prog X.w) X.A (f v u) (EP X pins σ Q) X.xe s
theorem wO.op {f : Value → Value → Sem Value} : OpR X f (wO X f) := fun pins s σ _ _ _ v u _ I r1 r2 h => h pins s σ v u I r1 r2
theorem wO.of {f : Value → Value → Sem Value} {r : R2} {x y : V} {H : Hp} {Q : VK} (p : OpR X f r) (h : r x y H Q) : wO X f x y H Q := fun pins s σ v u I r1 r2 => p pins s σ H x y v u Q I r1 r2 h
def wU (X : Cx) (f : Value → Sem Value) : V → Hp → VK → Prop := fun x H Q => ∀ pins s σ v, Inv X pins σ H s → RelV x v → wpAny (model X.prog X.w) X.A (f v) (EP X pins σ Q) X.xe s
theorem wU.un {f : Value → Sem Value} : UnR X f (wU X f) := fun pins s σ _ _ v _ I r1 h => h pins s σ v I r1
theorem wU.of {f : Value → Sem Value} {r : V → Hp → VK → Prop} {x : V} {H : Hp} {Q : VK} (p : UnR X f r) (h : r x H Q) : wU X f x H Q := fun pins s σ v I r1 => p pins s σ H x v Q I r1 h
def wC (X : Cx) (f : Value) : List V → Hp → VK → Prop := fun xs H Q => ∀ pins s σ us, Inv X pins σ H s → Vals xs us → wpAny (model X.prog X.w) X.A (call f us) (EP X pins σ Q) X.xe s
theorem wC.call {f : Value} : CallR X f (wC X f) := fun pins s σ _ _ us _ I r h => h pins s σ us I r
theorem wC.of {f : Value} {r : List V → Hp → VK → Prop} {xs : List V} {H : Hp} {Q : VK} (p : CallR X f r) (h : r xs H Q) : wC X f xs H Q := fun pins s σ us I q => p pins s σ H xs us Q I q h
end

/-! ### what it is to follow a function -/
section
variable (G : Wd) (X : Cx)
def FinE {α : Type} (τ : L2.St) (ρ : Rh) (H : Hp) (r : R α) (k : α → EH → Rh → Hp → Prop) : Prop := match r with
  | .ok a h' => ∀ ρ' H', Ext ρ H ρ' H' → Rel G ρ' h' H' → k a h' ρ' H'
  | .exc c fs h' => ∃ W, Takes X W ∧ ∀ ρ' H' d, Ext ρ H ρ' H' → Rel G ρ' h' H' → ExAt G ρ' H' d fs → W (.ref (G.CA c)) (some d) τ H'
  | .stuck => False
def FinS (ρ : Rh) (H : Hp) (D : Ends) (r : FL) : Prop := match r with
  | .nx σ' h' => ∀ ρ' H' τ', Ext ρ H ρ' H' → Rel G ρ' h' H' → SR G ρ' H' σ' τ' → D.nx τ' H'
  | .rt v h' => ∀ ρ' H' x, Ext ρ H ρ' H' → Rel G ρ' h' H' → Rep G ρ' H' v x → D.rt x H'
  | .bk σ' h' => ∀ ρ' H' τ', Ext ρ H ρ' H' → Rel G ρ' h' H' → SR G ρ' H' σ' τ' → D.bk τ' H'
  | .ct σ' h' => ∀ ρ' H' τ', Ext ρ H ρ' H' → Rel G ρ' h' H' → SR G ρ' H' σ' τ' → D.ct τ' H'
  | .exc c fs σ' h' => ∃ W, Takes X W ∧ ∀ ρ' H' τ' d, Ext ρ H ρ' H' → Rel G ρ' h' H' → SR G ρ' H' σ' τ' → ExAt G ρ' H' d fs → W (.ref (G.CA c)) (some d) τ' H'
  | .stuck => False
def RE (e : Expr) (f : ES → M EV) : Prop := ∀ (σ : ES) (h : EH) (ρ : Rh) (τ : L2.St) (H : Hp) (Q : VK), Rel G ρ h H → SR G ρ H σ τ →
  FinE G X τ ρ H (f σ h) (fun v _ ρ' H' => ∀ x, Rep G ρ' H' v x → Q x H') → wE X e τ H Q
def RT (e : Expr) (f : ES → M Bool) : Prop := ∀ (σ : ES) (h : EH) (ρ : Rh) (τ : L2.St) (H : Hp) (Q : Bool → Hp → Prop), Rel G ρ h H → SR G ρ H σ τ →
  FinE G X τ ρ H (f σ h) (fun b _ _ H' => Q b H') → wT X e τ H Q
def RA (es : List Expr) (f : ES → M (List EV)) : Prop := ∀ (σ : ES) (h : EH) (ρ : Rh) (τ : L2.St) (H : Hp) (Q : List V → Hp → Prop), Rel G ρ h H → SR G ρ H σ τ →
  FinE G X τ ρ H (f σ h) (fun vs _ ρ' H' => ∀ xs, RepL G ρ' H' vs xs → Q xs H') → wA X es τ H Q
def RS (st : Stmt) (f : ES → EH → FL) : Prop := ∀ (σ : ES) (h : EH) (ρ : Rh) (τ : L2.St) (H : Hp) (D : Ends), Rel G ρ h H → SR G ρ H σ τ →
  FinS G X ρ H D (f σ h) → wS X st D τ H
def RSs (st : List Stmt) (f : ES → EH → FL) : Prop := ∀ (σ : ES) (h : EH) (ρ : Rh) (τ : L2.St) (H : Hp) (D : Ends), Rel G ρ h H → SR G ρ H σ τ →
  FinS G X ρ H D (f σ h) → wSs X st D τ H
/-- an operation on values -/
def RO (f : Value → Value → Sem Value) (g : EV → EV → EH → Option (EV × EH)) : Prop := ∀ (x y : EV) (h : EH) (ρ : Rh) (H : Hp) (v u : V) (Q : VK) (z : EV) (h' : EH), Rel G ρ h H → Rep G ρ H x v → Rep G ρ H y u →
  g x y h = some (z, h') → (∀ ρ' H' w, Ext ρ H ρ' H' → Rel G ρ' h' H' → Rep G ρ' H' z w → Q w H') → wO X f v u H Q
def RU (f : Value → Sem Value) (g : EV → EH → Option (EV × EH)) : Prop := ∀ (x : EV) (h : EH) (ρ : Rh) (H : Hp) (v : V) (Q : VK) (z : EV) (h' : EH), Rel G ρ h H → Rep G ρ H x v →
  g x h = some (z, h') → (∀ ρ' H' w, Ext ρ H ρ' H' → Rel G ρ' h' H' → Rep G ρ' H' z w → Q w H') → wU X f v H Q
def RC (f : Value) (g : List EV → EH → Option (EV × EH)) : Prop := ∀ (xs : List EV) (h : EH) (ρ : Rh) (H : Hp) (vs : List V) (Q : VK) (z : EV) (h' : EH), Rel G ρ h H → RepL G ρ H xs vs →
  g xs h = some (z, h') → (∀ ρ' H' w, Ext ρ H ρ' H' → Rel G ρ' h' H' → Rep G ρ' H' z w → Q w H') → wC X f vs H Q
/-- an expression that makes a new list, which is no object of ours yet -/
def LK (ρ : Rh) (H : Hp) (Q : VK) : List EV → EH → Rh → Hp → Prop := fun xs h' ρ' H' => ∀ p vs, H p = none → p ∉ ρ'.all → H' p = some (.lst vs) → Rel G (ρ'.hid p) h' H' → RepL G (ρ'.hid p) H' xs vs → Q (.ref p) H'
def RL (e : Expr) (f : ES → M (List EV)) : Prop := ∀ (σ : ES) (h : EH) (ρ : Rh) (τ : L2.St) (H : Hp) (Q : VK), Rel G ρ h H → SR G ρ H σ τ →
  FinE G X τ ρ H (f σ h) (LK G ρ H Q) → wE X e τ H Q
end
section
variable {G : Wd} {X : Cx} {α β : Type} {τ : L2.St} {ρ ρ' : Rh} {H H' : Hp}
theorem FinE.start {r : R α} {k : α → EH → Rh → Hp → Prop} (e : Ext ρ H ρ' H') (f : FinE G X τ ρ H r k) : FinE G X τ ρ' H' r k := by
  cases r with
  | ok a h' => exact fun ρ2 H2 e2 R => f ρ2 H2 (e.trans e2) R
  | exc c fs h' =>
    obtain ⟨W, t, f⟩ := f
    exact ⟨W, t, fun ρ2 H2 d e2 R => f ρ2 H2 d (e.trans e2) R⟩
  | stuck => exact f
theorem FinS.start {r : FL} {D : Ends} (e : Ext ρ H ρ' H') (f : FinS G X ρ H D r) : FinS G X ρ' H' D r := by
  cases r with
  | nx σ' h' => exact fun ρ2 H2 τ2 e2 R => f ρ2 H2 τ2 (e.trans e2) R
  | rt σ' h' => exact fun ρ2 H2 τ2 e2 R => f ρ2 H2 τ2 (e.trans e2) R
  | bk σ' h' => exact fun ρ2 H2 τ2 e2 R => f ρ2 H2 τ2 (e.trans e2) R
  | ct σ' h' => exact fun ρ2 H2 τ2 e2 R => f ρ2 H2 τ2 (e.trans e2) R
  | exc c fs σ' h' =>
    obtain ⟨W, t, f⟩ := f
    exact ⟨W, t, fun ρ2 H2 τ2 d e2 R => f ρ2 H2 τ2 d (e.trans e2) R⟩
  | stuck => exact f
/-- a first part, then the rest -/
theorem FinE.bind {r : R α} {g : α → EH → R β} {k : β → EH → Rh → Hp → Prop} (f : FinE G X τ ρ H (r.bind g) k) : FinE G X τ ρ H r (fun a h' ρ' H' => FinE G X τ ρ' H' (g a h') k) := by
  cases r with
  | ok a h' => exact fun ρ2 H2 e2 R => FinE.start e2 f
  | exc c fs h' => exact f
  | stuck => exact f
theorem FinE.imp {r : R α} {k k' : α → EH → Rh → Hp → Prop} (f : FinE G X τ ρ H r k) (q : ∀ a h' ρ' H', Ext ρ H ρ' H' → Rel G ρ' h' H' → k a h' ρ' H' → k' a h' ρ' H') : FinE G X τ ρ H r k' := by
  cases r with
  | ok a h' => exact fun ρ2 H2 e2 R => q _ _ _ _ e2 R (f ρ2 H2 e2 R)
  | exc c fs h' => exact f
  | stuck => exact f
theorem FinE.lift {o : Option (α × EH)} {k : α → EH → Rh → Hp → Prop} (f : FinE G X τ ρ H (R.lift o) k) : ∃ a h', o = some (a, h') ∧ ∀ ρ' H', Ext ρ H ρ' H' → Rel G ρ' h' H' → k a h' ρ' H' := by
  cases o with
  | none => exact f.elim
  | some p => exact ⟨p.1, p.2, rfl, f⟩
theorem FinS.fl {r : R α} {σ : ES} {g : α → EH → FL} {D : Ends} (s : SR G ρ H σ τ) (f : FinS G X ρ H D (r.fl σ g)) : FinE G X τ ρ H r (fun a h' ρ' H' => FinS G X ρ' H' D (g a h')) := by
  cases r with
  | ok a h' => exact fun ρ2 H2 e2 R => FinS.start e2 f
  | exc c fs h' =>
    obtain ⟨W, t, f⟩ := f
    exact ⟨W, t, fun ρ2 H2 d e2 R x => f ρ2 H2 τ d e2 R (s.mono e2.toMo) x⟩
  | stuck => exact f
end
end Y
end

section
/-! Y, expressions: one lemma a construct. -/
namespace Y
open PySem L2
/-- no star -/
def isStar : Expr → Bool
  | .Starred .. => true
  | _ => false
theorem star_cons {e : Expr} {es : List Expr} {env : Env} (h : isStar e = false) : starEach (e :: es) env = (false, eval e env) :: starEach es env := by
  cases e with
  | Starred => cases h
  | _ => rfl
theorem star_one {e : Expr} {env : Env} (h : isStar e = false) : starEach [e] env = [(false, eval e env)] := star_cons h

/-! ### functions of expressions -/
def eVar (i : Nat) : ES → M EV := fun σ h => match σ[i]? with
  | some (some v) => .ok v h
  | _ => .stuck
def eC (v : EV) : ES → M EV := fun _ h => .ok v h
def eOp (g : EV → EV → EH → Option (EV × EH)) (fa fb : ES → M EV) : ES → M EV := fun σ h => (fa σ h).bind fun x h1 => (fb σ h1).bind fun y h2 => R.lift (g x y h2)
def eUn (g : EV → EH → Option (EV × EH)) (fa : ES → M EV) : ES → M EV := fun σ h => (fa σ h).bind fun x h1 => R.lift (g x h1)
def boolOf (v : EV) (h : EH) : R Bool := match v with
  | .p (.bl b) => .ok b h
  | _ => .stuck
def tVal (f : ES → M EV) : ES → M Bool := fun σ h => (f σ h).bind boolOf
abbrev tAnd' (fa fb : ES → M Bool) : ES → M Bool := fun σ h => (fa σ h).bind fun c h1 => match c with
  | true => fb σ h1
  | false => .ok false h1
abbrev tOr' (fa fb : ES → M Bool) : ES → M Bool := fun σ h => (fa σ h).bind fun c h1 => match c with
  | true => .ok true h1
  | false => fb σ h1
abbrev tNot' (fa : ES → M Bool) : ES → M Bool := fun σ h => (fa σ h).bind fun c h1 => .ok (!c) h1
def eIf (t : ES → M Bool) (fa fb : ES → M EV) : ES → M EV := fun σ h => (t σ h).bind fun c h1 => match c with
  | true => fa σ h1
  | false => fb σ h1
def eAndB (fa fb : ES → M EV) : ES → M EV := fun σ h => (fa σ h).bind fun x h1 => (boolOf x h1).bind fun c h1 => match c with
  | true => fb σ h1
  | false => .ok (.p (.bl false)) h1
def eOrB (fa fb : ES → M EV) : ES → M EV := fun σ h => (fa σ h).bind fun x h1 => (boolOf x h1).bind fun c h1 => match c with
  | true => .ok (.p (.bl true)) h1
  | false => fb σ h1
def eNotB (fa : ES → M EV) : ES → M EV := fun σ h => (fa σ h).bind fun x h1 => (boolOf x h1).bind fun c h1 => .ok (.p (.bl (!c))) h1
def aNil : ES → M (List EV) := fun _ h => .ok [] h
def aCons (fa : ES → M EV) (fr : ES → M (List EV)) : ES → M (List EV) := fun σ h => (fa σ h).bind fun x h1 => (fr σ h1).bind fun xs h2 => .ok (x :: xs) h2
def mkTup (xs : List EV) : EV := match allP xs with
  | some ps => .p (.tup ps)
  | none => .tup xs
def eTup (fa : ES → M (List EV)) : ES → M EV := fun σ h => (fa σ h).bind fun xs h1 => if xs.length ≤ 100000 then .ok (mkTup xs) h1 else .stuck
def lLst (fa : ES → M (List EV)) : ES → M (List EV) := fun σ h => (fa σ h).bind fun xs h1 => if xs.length ≤ 100000 then .ok xs h1 else .stuck
/-- a made list becomes an object -/
def eNew (fa : ES → M (List EV)) : ES → M EV := fun σ h => (fa σ h).bind fun xs h1 => .ok (.ref h1.length) (h1 ++ [.lst xs])
def plst (xs : List EV) (h : EH) : R EV := match allP xs with
  | some ps => .ok (.p (.lst ps)) h
  | none => .stuck
/-- a made list becomes a plain value -/
def eVal (fa : ES → M (List EV)) : ES → M EV := fun σ h => (fa σ h).bind plst
def eCall (g : List EV → EH → Option (EV × EH)) (fa : ES → M (List EV)) : ES → M EV := fun σ h => (fa σ h).bind fun xs h1 => R.lift (g xs h1)
theorem sz_ok {n : Nat} (h : n ≤ 100000) : n ≤ sizeLine := Nat.le_trans h (by decide)
theorem sz_lt {n : Nat} (h : n < 100000) : n < sizeLine := Nat.lt_of_lt_of_le h (by decide)

section
variable {G : Wd} {X : Cx}

theorem re_var {i : Nat} {x : Str} {pos : Pos} (hN : X.N[i]? = some x := by rfl) (hv : Vis X.env.scope x := by first | exact Or.inl rfl | exact Or.inr (Or.inl rfl) | exact Or.inr (Or.inr rfl)) (hd : (x == ("__debug__" : Str)) = false := by decide)
    (hcd : (x == ("__classdict__" : Str)) = false := by decide) : RE G X (.Name x pos) (eVar i) := by
  intro σ h ρ τ H Q R S f
  dsimp only [eVar] at f
  split at f
  · rename_i v e
    obtain ⟨x', a, b⟩ := S.at' i v e
    exact wE.of (pe_var hN hv hd hcd) ⟨x', a, f ρ H Ext.refl R x' b⟩
  · exact f.elim
theorem re_c {e : Expr} {v : EV} {w : V} (p : PE X e (tC w)) (r : ∀ ρ H, Rep G ρ H v w) : RE G X e (eC v) := by
  intro σ h ρ τ H Q R S f
  exact wE.of p (f ρ H Ext.refl R w (r ρ H))
theorem re_int {i j pos} : RE G X (.Constant (.int i) j pos) (eC (.p (.int i))) := re_c pe_int fun _ _ => .p (.int i)
def okS (l : List Nat) : Bool := l.all fun c => Nat.blt c 0x110000
theorem okS_ok {l : List Nat} (h : okS l = true) : SOk l := fun c m => by
  have := List.all_eq_true.mp h c m
  simp [Nat.blt] at this
  omega
theorem re_str {i : Str} {l : List Nat} {j pos} (e : i = toS l) (h : okS l = true := by decide +kernel) : RE G X (.Constant (.str i) j pos) (eC (.p (.str l))) := by
  subst e; exact re_c pe_str fun _ _ => .p (.str (okS_ok h))
theorem re_bl {i j pos} : RE G X (.Constant (.bool i) j pos) (eC (.p (.bl i))) := re_c pe_bl fun _ _ => .p (.bl i)
theorem re_non {j pos} : RE G X (.Constant .none j pos) (eC (.p .non)) := re_c pe_non fun _ _ => .p .non

theorem re_op {op : Operator} {g : EV → EV → EH → Option (EV × EH)} {a b : Expr} {fa fb : ES → M EV} {pos : Pos} (o : RO G X (binaryOp op) g) (ha : RE G X a fa) (hb : RE G X b fb) : RE G X (.BinOp a op b pos) (eOp g fa fb) := by
  intro σ h ρ τ H Q R S f
  refine wE.of (pe_op wO.op wE.pe wE.pe) ?_
  refine ha σ h ρ τ H _ R S (FinE.imp (FinE.bind f) fun x h1 ρ1 H1 e1 R1 f1 v rv => ?_)
  refine hb σ h1 ρ1 τ H1 _ R1 (S.mono e1.toMo) (FinE.imp (FinE.bind f1) fun y h2 ρ2 H2 e2 R2 f2 u ru => ?_)
  obtain ⟨z, h3, e3, f3⟩ := FinE.lift f2
  exact o x y h2 ρ2 H2 v u Q z h3 R2 (rv.mono e2.toMo) ru e3 (fun ρ' H' w e R r => f3 ρ' H' e R w r)
theorem re_un {op : UnaryOp} {g : EV → EH → Option (EV × EH)} {a : Expr} {fa : ES → M EV} {pos : Pos} (o : RU G X (unaryOp op) g) (ha : RE G X a fa) : RE G X (.UnaryOp op a pos) (eUn g fa) := by
  intro σ h ρ τ H Q R S f
  refine wE.of (pe_un wU.un wE.pe) ?_
  refine ha σ h ρ τ H _ R S (FinE.imp (FinE.bind f) fun x h1 ρ1 H1 e1 R1 f1 v rv => ?_)
  obtain ⟨z, h3, e3, f3⟩ := FinE.lift f1
  exact o x h1 ρ1 H1 v Q z h3 R1 rv e3 (fun ρ' H' w e R r => f3 ρ' H' e R w r)
theorem re_cmp {op : CmpOp} {g : EV → EV → EH → Option (EV × EH)} {a b : Expr} {fa fb : ES → M EV} {pos : Pos} (o : RO G X (compareOp op) g) (ha : RE G X a fa) (hb : RE G X b fb) (hm : behindInMarks op b = false := by first | rfl | exact nomark _) : RE G X (.Compare a [op] [b] pos) (eOp g fa fb) := by
  intro σ h ρ τ H Q R S f
  refine wE.of (pe_cmpR wO.op wE.pe wE.pe hm) ?_
  refine ha σ h ρ τ H _ R S (FinE.imp (FinE.bind f) fun x h1 ρ1 H1 e1 R1 f1 v rv => ?_)
  refine hb σ h1 ρ1 τ H1 _ R1 (S.mono e1.toMo) (FinE.imp (FinE.bind f1) fun y h2 ρ2 H2 e2 R2 f2 u ru => ?_)
  obtain ⟨z, h3, e3, f3⟩ := FinE.lift f2
  exact o x y h2 ρ2 H2 v u Q z h3 R2 (rv.mono e2.toMo) ru e3 (fun ρ' H' w e R r => f3 ρ' H' e R w r)
theorem bool_fin {τ : L2.St} {ρ : Rh} {H : Hp} {z : EV} {h : EH} {k : Bool → EH → Rh → Hp → Prop} (f : FinE G X τ ρ H (boolOf z h) k) : ∃ b, z = .p (.bl b) ∧ ∀ ρ' H', Ext ρ H ρ' H' → Rel G ρ' h H' → k b h ρ' H' := by
  unfold boolOf at f
  split at f
  · exact ⟨_, rfl, f⟩
  · exact f.elim
theorem rep_bl {G : Wd} {ρ : Rh} {H : Hp} {b : Bool} {w : V} (r : Rep G ρ H (.p (.bl b)) w) : w = .bl b := by
  cases r with
  | p q => cases q; rfl
theorem rt_cmp {op : CmpOp} {g : EV → EV → EH → Option (EV × EH)} {a b : Expr} {fa fb : ES → M EV} {pos : Pos} (o : RO G X (compareOp op) g) (ha : RE G X a fa) (hb : RE G X b fb) (hm : behindInMarks op b = false := by first | rfl | exact nomark _) : RT G X (.Compare a [op] [b] pos) (tVal (eOp g fa fb)) := by
  intro σ h ρ τ H Q R S f
  refine wT.of (pt_cmpR wO.op wE.pe wE.pe hm) ?_
  have f' := FinE.bind f
  refine ha σ h ρ τ H _ R S (FinE.imp (FinE.bind f') fun x h1 ρ1 H1 e1 R1 f1 v rv => ?_)
  refine hb σ h1 ρ1 τ H1 _ R1 (S.mono e1.toMo) (FinE.imp (FinE.bind f1) fun y h2 ρ2 H2 e2 R2 f2 u ru => ?_)
  obtain ⟨z, h3, e3, f3⟩ := FinE.lift f2
  refine o x y h2 ρ2 H2 v u _ z h3 R2 (rv.mono e2.toMo) ru e3 (fun ρ' H' w e R r => ?_)
  obtain ⟨b', hz, k⟩ := bool_fin (f3 ρ' H' e R)
  subst hz
  exact ⟨b', rep_bl r, k ρ' H' Ext.refl R⟩
/-- a value that is a truth value, as a test -/
theorem rt_val {e : Expr} {f : ES → M EV} (he : RE G X e f) (ht : ∀ whole, isTrue e X.env whole = (do let v ← whole; standAt e.pos; holding [v] (truthy v)) := by intro _; rfl) : RT G X e (tVal f) := by
  intro σ h ρ τ H Q R S ff
  refine wT.of (pt_val wE.pe ht) ?_
  refine he σ h ρ τ H _ R S (FinE.imp (FinE.bind ff) fun x h1 ρ1 H1 e1 R1 f1 v rv => ?_)
  obtain ⟨b', hz, k⟩ := bool_fin f1
  subst hz
  exact ⟨b', rep_bl rv, k ρ1 H1 Ext.refl R1⟩
theorem rt_not {e : Expr} {f : ES → M Bool} {pos : Pos} (he : RT G X e f) : RT G X (.UnaryOp .Not e pos) (tNot' f) := by
  intro σ h ρ τ H Q R S ff
  refine wT.of (pt_not wT.pt) ?_
  exact he σ h ρ τ H _ R S (FinE.imp (FinE.bind ff) fun c h1 ρ1 H1 e1 R1 f1 => f1 ρ1 H1 Ext.refl R1)
def wW (X : Cx) (e : Expr) : TT := fun σ H Q => ∀ whole pins s, Inv X pins σ H s → wpAny (model X.prog X.w) X.A (isTrue e X.env whole) (TP X pins σ Q) X.xe s
theorem wW.pw {e : Expr} : PW X e (wW X e) := ⟨fun wh pins s _ _ _ I h => h wh pins s I⟩
theorem wW.of {e : Expr} {t : TT} {σ : L2.St} {H : Hp} {Q : Bool → Hp → Prop} (p : PW X e t) (h : t σ H Q) : wW X e σ H Q := fun wh pins s I => p.run wh pins s σ H Q I h
variable (G X) in
def RW (e : Expr) (f : ES → M Bool) : Prop := ∀ (σ : ES) (h : EH) (ρ : Rh) (τ : L2.St) (H : Hp) (Q : Bool → Hp → Prop), Rel G ρ h H → SR G ρ H σ τ →
  FinE G X τ ρ H (f σ h) (fun b _ _ H' => Q b H') → wW X e τ H Q
theorem rt_w {e : Expr} {f : ES → M Bool} (h : RW G X e f) : RT G X e f := fun σ h' ρ τ H Q R S ff => wT.of (wW.pw.pt) (h σ h' ρ τ H Q R S ff)
section
variable {a b : Expr} {rest : List Expr} {pos : Pos} {fa fb : ES → M Bool}
theorem rw_and1 (ha : RT G X a fa) : RW G X (.BoolOp .And [a] pos) fa := fun σ h ρ τ H Q R S f => wW.of (pw_and1 wT.pt) (ha σ h ρ τ H Q R S f)
theorem rw_or1 (ha : RT G X a fa) : RW G X (.BoolOp .Or [a] pos) fa := fun σ h ρ τ H Q R S f => wW.of (pw_or1 wT.pt) (ha σ h ρ τ H Q R S f)
theorem rw_and (ha : RT G X a fa) (hb : RW G X (.BoolOp .And (b :: rest) pos) fb) : RW G X (.BoolOp .And (a :: b :: rest) pos) (tAnd' fa fb) := by
  intro σ h ρ τ H Q R S f
  refine wW.of (pw_and wT.pt wW.pw) ?_
  refine ha σ h ρ τ H _ R S (FinE.imp (FinE.bind f) fun c h1 ρ1 H1 e1 R1 f1 => ?_)
  cases c with
  | true => exact hb σ h1 ρ1 τ H1 Q R1 (S.mono e1.toMo) f1
  | false => exact f1 ρ1 H1 Ext.refl R1
theorem rw_or (ha : RT G X a fa) (hb : RW G X (.BoolOp .Or (b :: rest) pos) fb) : RW G X (.BoolOp .Or (a :: b :: rest) pos) (tOr' fa fb) := by
  intro σ h ρ τ H Q R S f
  refine wW.of (pw_or wT.pt wW.pw) ?_
  refine ha σ h ρ τ H _ R S (FinE.imp (FinE.bind f) fun c h1 ρ1 H1 e1 R1 f1 => ?_)
  cases c with
  | false => exact hb σ h1 ρ1 τ H1 Q R1 (S.mono e1.toMo) f1
  | true => exact f1 ρ1 H1 Ext.refl R1
end
section
variable {a b c : Expr} {rest : List Expr} {pos : Pos} {fa fb : ES → M EV} {t : ES → M Bool}
theorem re_if (hc : RT G X c t) (ha : RE G X a fa) (hb : RE G X b fb) : RE G X (.IfExp c a b pos) (eIf t fa fb) := by
  intro σ h ρ τ H Q R S f
  refine wE.of (pe_ifExp wT.pt wE.pe wE.pe) ?_
  refine hc σ h ρ τ H _ R S (FinE.imp (FinE.bind f) fun d h1 ρ1 H1 e1 R1 f1 => ?_)
  cases d with
  | true => exact ha σ h1 ρ1 τ H1 Q R1 (S.mono e1.toMo) f1
  | false => exact hb σ h1 ρ1 τ H1 Q R1 (S.mono e1.toMo) f1
theorem re_one {op} (ha : RE G X a fa) : RE G X (.BoolOp op [a] pos) fa := fun σ h ρ τ H Q R S f => wE.of (pe_one wE.pe) (ha σ h ρ τ H Q R S f)
theorem re_and (ha : RE G X a fa) (hb : RE G X (.BoolOp .And (b :: rest) pos) fb) : RE G X (.BoolOp .And (a :: b :: rest) pos) (eAndB fa fb) := by
  intro σ h ρ τ H Q R S f
  refine wE.of (pe_and wE.pe wE.pe) ?_
  refine ha σ h ρ τ H _ R S (FinE.imp (FinE.bind f) fun x h1 ρ1 H1 e1 R1 f1 v rv => ?_)
  obtain ⟨b', hz, k⟩ := bool_fin (FinE.bind f1)
  subst hz
  have k1 := k ρ1 H1 Ext.refl R1
  refine ⟨b', rep_bl rv, ?_⟩
  cases b' with
  | true => exact hb σ h1 ρ1 τ H1 Q R1 (S.mono e1.toMo) k1
  | false => exact k1 ρ1 H1 Ext.refl R1 _ (.p (.bl false))
theorem re_or (ha : RE G X a fa) (hb : RE G X (.BoolOp .Or (b :: rest) pos) fb) : RE G X (.BoolOp .Or (a :: b :: rest) pos) (eOrB fa fb) := by
  intro σ h ρ τ H Q R S f
  refine wE.of (pe_or wE.pe wE.pe) ?_
  refine ha σ h ρ τ H _ R S (FinE.imp (FinE.bind f) fun x h1 ρ1 H1 e1 R1 f1 v rv => ?_)
  obtain ⟨b', hz, k⟩ := bool_fin (FinE.bind f1)
  subst hz
  have k1 := k ρ1 H1 Ext.refl R1
  refine ⟨b', rep_bl rv, ?_⟩
  cases b' with
  | false => exact hb σ h1 ρ1 τ H1 Q R1 (S.mono e1.toMo) k1
  | true => exact k1 ρ1 H1 Ext.refl R1 _ (.p (.bl true))
theorem re_not (ha : RE G X a fa) : RE G X (.UnaryOp .Not a pos) (eNotB fa) := by
  intro σ h ρ τ H Q R S f
  refine wE.of (pe_not wE.pe) ?_
  refine ha σ h ρ τ H _ R S (FinE.imp (FinE.bind f) fun x h1 ρ1 H1 e1 R1 f1 v rv => ?_)
  obtain ⟨b', hz, k⟩ := bool_fin (FinE.bind f1)
  subst hz
  exact ⟨b', rep_bl rv, k ρ1 H1 Ext.refl R1 ρ1 H1 Ext.refl R1 _ (.p (.bl (!b')))⟩
end

/-! ### argument lists, displays -/
theorem ra_nil : RA G X [] aNil := fun σ h ρ τ H Q R S f => wA.of pa_nil (f ρ H Ext.refl R [] .nil)
theorem ra_cons {e : Expr} {es : List Expr} {fa : ES → M EV} {fr : ES → M (List EV)} (ha : RE G X e fa) (hr : RA G X es fr) (hs : starEach (e :: es) X.env = (false, eval e X.env) :: starEach es X.env := by first | exact star_cons rfl | rfl) : RA G X (e :: es) (aCons fa fr) := by
  intro σ h ρ τ H Q R S f
  refine wA.of (pa_cons wE.pe wA.pa hs) ?_
  refine ha σ h ρ τ H _ R S (FinE.imp (FinE.bind f) fun x h1 ρ1 H1 e1 R1 f1 v rv => ?_)
  refine hr σ h1 ρ1 τ H1 _ R1 (S.mono e1.toMo) (FinE.imp (FinE.bind f1) fun xs h2 ρ2 H2 e2 R2 f2 vs rvs => ?_)
  exact f2 ρ2 H2 Ext.refl R2 _ (.cons (rv.mono e2.toMo) rvs)
theorem mkTup_rep {ρ : Rh} {H : Hp} {a : Addr} {xs : List EV} {vs : List V} (t : TpV ρ H a vs) (r : RepL G ρ H xs vs) : Rep G ρ H (mkTup xs) (.ref a) := by
  unfold mkTup
  split
  · rename_i ps e; exact .p (.tup t (r.plain e))
  · exact .tup t r
theorem new_tup {ρ : Rh} {h : EH} {H : Hp} {p : Addr} {xs : List EV} {vs : List V} (R : Rel G ρ h H) (e : H p = none) (r : RepL G ρ H xs vs) :
    Ext ρ H ρ (upd H p (.tup vs)) ∧ Rel G ρ h (upd H p (.tup vs)) ∧ Rep G ρ (upd H p (.tup vs)) (mkTup xs) (.ref p) :=
  ⟨Ext.laid0 e, R.aside e, mkTup_rep ⟨R.fresh e, upd_same⟩ (r.mono (Ext.laid0 e).toMo)⟩
theorem re_tup {es : List Expr} {fa : ES → M (List EV)} {k : Nat} {pos : Pos} (ha : RA G X es fa) : RE G X (.Tuple es k pos) (eTup fa) := by
  intro σ h ρ τ H Q R S f
  refine wE.of (pe_tup wA.pa) ?_
  refine ha σ h ρ τ H _ R S (FinE.imp (FinE.bind f) fun xs h1 ρ1 H1 e1 R1 f1 vs rv => ?_)
  by_cases hl : xs.length ≤ 100000
  · rw [if_pos hl] at f1
    refine ⟨by rw [← rv.length]; exact sz_ok hl, fun p hp => ?_⟩
    obtain ⟨a1, a2, a3⟩ := new_tup R1 hp rv
    exact f1 ρ1 _ a1 a2 _ a3
  · rw [if_neg hl] at f1
    exact f1.elim
/-- a list just laid -/
theorem LK.laid {ρ ρ1 : Rh} {h1 : EH} {H H1 : Hp} {Q : VK} {xs : List EV} {vs : List V} {p : Addr} (hp : H1 p = none) (hp0 : H p = none) (R1 : Rel G ρ1 h1 H1) (r : RepL G ρ1 H1 xs vs) (f : LK G ρ H Q xs h1 ρ1 (upd H1 p (.lst vs))) : Q (.ref p) (upd H1 p (.lst vs)) :=
  f p vs hp0 (R1.fresh hp) upd_same (R1.hid hp) (r.mono (Mo.hid hp))
theorem rl_lst {es : List Expr} {fa : ES → M (List EV)} {pos : Pos} (ha : RA G X es fa) : RL G X (.List es pos) (lLst fa) := by
  intro σ h ρ τ H Q R S f
  refine wE.of (pe_lst wA.pa) ?_
  refine ha σ h ρ τ H _ R S (FinE.imp (FinE.bind f) fun xs h1 ρ1 H1 e1 R1 f1 vs rv => ?_)
  by_cases hl : xs.length ≤ 100000
  · rw [if_pos hl] at f1
    refine ⟨by rw [← rv.length]; exact sz_ok hl, fun p hp => ?_⟩
    exact LK.laid hp (e1.dom p hp) R1 rv (f1 ρ1 _ (Ext.laid0 hp) (R1.aside hp))
  · rw [if_neg hl] at f1
    exact f1.elim
theorem FinE.mapOk {α β : Type} {τ : L2.St} {ρ : Rh} {H : Hp} {r : R α} {g : α → EH → R β} {k : β → EH → Rh → Hp → Prop} {k' : α → EH → Rh → Hp → Prop} (f : FinE G X τ ρ H (r.bind g) k)
    (q : ∀ a h1 ρ' H', Ext ρ H ρ' H' → Rel G ρ' h1 H' → FinE G X τ ρ H (g a h1) k → k' a h1 ρ' H') : FinE G X τ ρ H r k' := by
  cases r with
  | ok a h1 => exact fun ρ' H' e R => q a h1 ρ' H' e R f
  | exc c fs h1 => exact f
  | stuck => exact f
/-- a made list as an object of ours -/
theorem re_new {e : Expr} {fa : ES → M (List EV)} (ha : RL G X e fa) : RE G X e (eNew fa) := by
  intro σ h ρ τ H Q R S f
  refine ha σ h ρ τ H Q R S (FinE.mapOk f fun xs h1 ρ1 H1 e1 R1 f1 p vs hp m l Rp r => ?_)
  refine f1 (ρ1.add p) H1 (e1.adopt hp) (Rp.adopt m l r) (.ref p) (.ref ?_)
  simp only [Rh.add]
  rw [← R1.len, List.getElem?_append_right (Nat.le_refl _)]
  simp
/-- .. as a plain value -/
theorem re_val {e : Expr} {fa : ES → M (List EV)} (ha : RL G X e fa) : RE G X e (eVal fa) := by
  intro σ h ρ τ H Q R S f
  refine ha σ h ρ τ H Q R S (FinE.mapOk f fun xs h1 ρ1 H1 e1 R1 f1 p vs hp m l Rp r => ?_)
  unfold plst at f1
  split at f1
  · rename_i ps ep
    exact f1 ρ1 H1 e1 R1 (.ref p) (.p (.lst ⟨m, l⟩ ((r.plain ep).mono Mo.unhid)))
  · exact f1.elim
end
end Y
end

section
/-! Y, operations on values. -/
namespace Y
open PySem L2

def tupOf : EV → Option (List EV)
  | .p (.tup xs) => some (xs.map .p)
  | .tup xs => some xs
  | _ => none
/-- a list that lies in the heap as it is -/
def lstOf (h : EH) : EV → Option (List EV)
  | .p (.lst xs) => some (xs.map .p)
  | .ref n => match h[n]? with
    | some (.lst xs) => some xs
    | _ => none
  | _ => none
def addSeq (x y : EV) (h : EH) : Option (EV × EH) := match tupOf x, tupOf y with
  | some xs, some ys => if xs.length + ys.length ≤ 100000 then some (mkTup (xs ++ ys), h) else none
  | _, _ => match lstOf h x, lstOf h y with
    | some xs, some ys => if xs.length + ys.length ≤ 100000 then (allP (xs ++ ys)).map fun ps => (.p (.lst ps), h) else none
    | _, _ => none
def opAdd (x y : EV) (h : EH) : Option (EV × EH) := match x, y with
  | .p (.int i), .p (.int j) => some (.p (.int (i + j)), h)
  | .p (.str a), .p (.str b) => if a.length + b.length ≤ 100000 then some (.p (.str (a ++ b)), h) else none
  | x, y => addSeq x y h
def opI (g : Int → Int → Option PV) : EV → EV → EH → Option (EV × EH)
  | .p (.int i), .p (.int j), h => (g i j).map fun v => (.p v, h)
  | _, _, _ => none
def opSub := opI fun i j => some (.int (i - j))
def opFdiv := opI fun i j => if 0 < j ∧ j < 1073741824 then some (.int (i / j)) else none
def opMod := opI fun i j => if 0 < j then some (.int (i % j)) else none
def opPow := opI fun i j => if 0 ≤ j ∧ j ≤ 1000000 ∧ i.natAbs < 2 ^ 64 then some (.int (i ^ j.toNat)) else none
def mulSeq (x : EV) (k : Int) (h : EH) : Option (EV × EH) := match lstOf h x with
  | some xs => if -(2 ^ 63) ≤ k ∧ k < 2 ^ 63 ∧ xs.length * k.toNat ≤ 100000 then (allP (List.replicate k.toNat xs).flatten).map fun ps => (.p (.lst ps), h) else none
  | none => none
def opMul (x y : EV) (h : EH) : Option (EV × EH) := match x, y with
  | .p (.int i), .p (.int j) => if (-(2 ^ 64) < i ∧ i < 2 ^ 64) ∨ (-(2 ^ 64) < j ∧ j < 2 ^ 64) then some (.p (.int (i * j)), h) else none
  | x, .p (.int k) => mulSeq x k h
  | _, _ => none
def ltS : List Nat → List Nat → Bool
  | [], [] => false
  | [], _ :: _ => true
  | _ :: _, [] => false
  | a :: r, b :: t => Nat.blt a b || (Nat.beq a b && ltS r t)
def eqS : List Nat → List Nat → Bool
  | [], [] => true
  | a :: r, b :: t => Nat.beq a b && eqS r t
  | _, _ => false
def cmpI (p : Int → Int → Bool) (q : List Nat → List Nat → Bool) : EV → EV → EH → Option (EV × EH)
  | .p (.int i), .p (.int j), h => some (.p (.bl (p i j)), h)
  | .p (.str a), .p (.str b), h => some (.p (.bl (q a b)), h)
  | _, _, _ => none
def opLt := cmpI (fun i j => decide (i < j)) fun a b => ltS a b
def opLe := cmpI (fun i j => decide (i ≤ j)) fun a b => !ltS b a
def opGt := cmpI (fun i j => decide (j < i)) fun a b => ltS b a
def opGe := cmpI (fun i j => decide (j ≤ i)) fun a b => !ltS a b
theorem ltS_eq : ∀ a b, ltS a b = Spec.ltCps a b
  | [], [] => rfl
  | [], _ :: _ => rfl
  | _ :: _, [] => rfl
  | a :: r, b :: t => by
    unfold ltS Spec.ltCps
    rw [ltS_eq r t]
    have e1 : Nat.blt a b = decide (a < b) := by
      by_cases h : a < b
      · have : Nat.blt a b = true := Nat.blt_eq.mpr h
        simp [h, this]
      · have : ¬ Nat.blt a b = true := fun z => h (Nat.blt_eq.mp z)
        simp [h, Bool.eq_false_iff.mpr this]
    have e2 : Nat.beq a b = (a == b) := by
      by_cases h : a = b
      · subst h; simp
      · have : ¬ Nat.beq a b = true := fun z => h (Nat.beq_eq.mp z)
        simp [h, Bool.eq_false_iff.mpr this]
    rw [e1, e2]
theorem eqS_iff : ∀ a b, eqS a b = decide (a = b)
  | [], [] => by simp [eqS]
  | [], _ :: _ => by simp [eqS]
  | _ :: _, [] => by simp [eqS]
  | a :: r, b :: t => by
    unfold eqS
    rw [eqS_iff r t]
    have e1 : Nat.beq a b = decide (a = b) := by
      by_cases h : a = b
      · have : Nat.beq a b = true := Nat.beq_eq.mpr h
        simp [h, this]
      · have : ¬ Nat.beq a b = true := fun z => h (Nat.beq_eq.mp z)
        simp [h, Bool.eq_false_iff.mpr this]
    rw [e1]
    by_cases h1 : a = b <;> by_cases h2 : r = t <;> simp [h1, h2]
/-- a value with its objects as they are now -/
def rsvL (f : EV → Option PV) : List EV → Option (List PV)
  | [] => some []
  | x :: xs => match f x, rsvL f xs with
    | some d, some ds => some (d :: ds)
    | _, _ => none
def rsvK {κ : Type} (f : EV → Option PV) : List (κ × EV) → Option (List (κ × PV))
  | [] => some []
  | (k, x) :: xs => match f x, rsvK f xs with
    | some d, some ds => some ((k, d) :: ds)
    | _, _ => none
def rsv (h : EH) : Nat → EV → Option PV
  | n, .p v => some v
  | 0, _ => none
  | n + 1, .tup xs => (rsvL (rsv h n) xs).map .tup
  | n + 1, .ref k => match h[k]? with
    | some (.lst xs) => (rsvL (rsv h n) xs).map .lst
    | some (.dK kvs) => (rsvK (rsv h n) kvs).map .dic
    | some (.dT kvs) => (rsvK (rsv h n) kvs).map .dit
    | some (.dF kvs) => (rsvK (rsv h n) kvs).map .dic
    | some (.ins c fs) => (rsvK (rsv h n) fs).map (.obj c)
    | none => none
/-- plain data -/
def pdat : Nat → PV → Bool
  | _, .non => true
  | _, .bl _ => true
  | _, .int _ => true
  | _, .str _ => true
  | n + 1, .tup xs => xs.all (pdat n)
  | n + 1, .lst xs => xs.all (pdat n)
  | _, _ => false
def peqL (f : PV → PV → Bool) : List PV → List PV → Bool
  | [], [] => true
  | x :: xs, y :: ys => f x y && peqL f xs ys
  | _, _ => false
def b2 (b : Bool) : Int := if b then 1 else 0
def peq : Nat → PV → PV → Bool
  | _, .non, .non => true
  | _, .bl a, .bl b => a == b
  | _, .bl a, .int j => decide (b2 a = j)
  | _, .int i, .bl b => decide (i = b2 b)
  | _, .int i, .int j => decide (i = j)
  | _, .str a, .str b => eqS a b
  | n + 1, .tup xs, .tup ys => peqL (peq n) xs ys
  | n + 1, .lst xs, .lst ys => peqL (peq n) xs ys
  | _, _, _ => false
def eqP (h : EH) (x y : EV) : Option Bool := match rsv h 30 x, rsv h 30 y with
  | some d, some e => match pdat 30 d, pdat 30 e with
    | true, true => some (peq 30 d e)
    | _, _ => none
  | _, _ => none
def opEq (x y : EV) (h : EH) : Option (EV × EH) := (eqP h x y).map fun b => (.p (.bl b), h)
def opNe (x y : EV) (h : EH) : Option (EV × EH) := (eqP h x y).map fun b => (.p (.bl (!b)), h)
def isNon : EV → Bool
  | .p .non => true
  | _ => false
/-- is, against None or between truth values -/
def opIs (neg : Bool) : EV → EV → EH → Option (EV × EH)
  | x, .p .non, h => some (.p (.bl (neg ^^ isNon x)), h)
  | .p (.bl a), .p (.bl b), h => some (.p (.bl (neg ^^ decide (a = b))), h)
  | _, _, _ => none
section
variable {G : Wd} {X : Cx}
theorem rep_p {ρ : Rh} {H : Hp} {v : PV} {w : V} (r : Rep G ρ H (.p v) w) : PRep G ρ H v w := by cases r; assumption
theorem rep_int {ρ : Rh} {H : Hp} {i : Int} {w : V} (r : Rep G ρ H (.p (.int i)) w) : w = .int i := by cases rep_p r; rfl
theorem rep_str {ρ : Rh} {H : Hp} {i : List Nat} {w : V} (r : Rep G ρ H (.p (.str i)) w) : w = .str (toS i) ∧ SOk i := by
  cases rep_p r with
  | str h => exact ⟨rfl, h⟩
theorem ro_i {op : Value → Value → Sem Value} {C : Int → Int → Prop} {g : Int → Int → V} {g' : Int → Int → Option PV} (o : OpR X op (rI C g)) (hg : ∀ i j z, g' i j = some z → C i j ∧ ∀ ρ H, PRep G ρ H z (g i j)) : RO G X op (opI g') := by
  intro x y h ρ H v u Q z h' R rx ry e k
  unfold opI at e
  split at e
  · rename_i i j
    obtain rfl := rep_int rx
    obtain rfl := rep_int ry
    cases e2 : g' i j with
    | none => rw [e2] at e; cases e
    | some w =>
      rw [e2] at e
      cases e
      obtain ⟨c, r⟩ := hg i j _ e2
      exact wO.of o ⟨i, j, rfl, rfl, c, k ρ H _ Ext.refl R (.p (r ρ H))⟩
  · cases e
theorem ro_sub : RO G X (binaryOp .Sub) opSub := by
  intro x y h ρ H v u Q z h' R rx ry e k
  unfold opSub opI at e
  split at e
  · rename_i i j
    obtain rfl := rep_int rx
    obtain rfl := rep_int ry
    cases e
    exact wO.of op_sub ⟨i, j, rfl, rfl, k ρ H _ Ext.refl R (.p (.int _))⟩
  · cases e
theorem ro_fdiv : RO G X (binaryOp .FloorDiv) opFdiv := ro_i op_fdiv fun i j z e => by
  split at e
  · rename_i c; cases e; exact ⟨c, fun _ _ => .int _⟩
  · cases e
theorem ro_mod : RO G X (binaryOp .Mod) opMod := ro_i op_mod fun i j z e => by
  split at e
  · rename_i c; cases e; exact ⟨c, fun _ _ => .int _⟩
  · cases e
theorem ro_pow : RO G X (binaryOp .Pow) opPow := ro_i op_pow fun i j z e => by
  split at e
  · rename_i c; cases e; exact ⟨c, fun _ _ => .int _⟩
  · cases e
theorem getref {ρ : Rh} {h : EH} {H : Hp} {n : Nat} {v : V} {o : EO} (R : Rel G ρ h H) (r : Rep G ρ H (.ref n) v) (e : h[n]? = some o) : ∃ a, v = .ref a ∧ ρ.loc[n]? = some a ∧ ORep G ρ H a o := by
  cases r with
  | ref q => exact ⟨_, rfl, q, R.obj _ _ _ q e⟩
theorem tup_rep {ρ : Rh} {H : Hp} {x : EV} {v : V} {xs : List EV} (r : Rep G ρ H x v) (e : tupOf x = some xs) : ∃ a vs, v = .ref a ∧ TpV ρ H a vs ∧ RepL G ρ H xs vs := by
  unfold tupOf at e
  split at e
  · cases e
    cases rep_p r with
    | tup q rr => exact ⟨_, _, rfl, q, rr.lift⟩
  · cases e
    cases r with
    | tup q rr => exact ⟨_, _, rfl, q, rr⟩
  · cases e
theorem lst_rep {ρ : Rh} {h : EH} {H : Hp} {x : EV} {v : V} {xs : List EV} (R : Rel G ρ h H) (r : Rep G ρ H x v) (e : lstOf h x = some xs) : ∃ a vs, v = .ref a ∧ H a = some (.lst vs) ∧ RepL G ρ H xs vs := by
  unfold lstOf at e
  split at e
  · cases e
    cases rep_p r with
    | lst q rr => exact ⟨_, _, rfl, q.2, rr.lift⟩
  · rename_i n
    split at e
    · rename_i ys eo
      cases e
      obtain ⟨a, rfl, qa, vs, hv, rv⟩ := getref R r eo
      exact ⟨a, vs, rfl, hv, rv⟩
    · cases e
  · cases e
/-- a new list as a plain value -/
theorem new_plist {ρ : Rh} {h : EH} {H : Hp} {p : Addr} {xs : List EV} {ps : List PV} {vs : List V} (R : Rel G ρ h H) (e : H p = none) (r : RepL G ρ H xs vs) (ep : allP xs = some ps) :
    Ext ρ H ρ (upd H p (.lst vs)) ∧ Rel G ρ h (upd H p (.lst vs)) ∧ Rep G ρ (upd H p (.lst vs)) (.p (.lst ps)) (.ref p) :=
  ⟨Ext.laid0 e, R.aside e, .p (.lst ⟨R.fresh e, upd_same⟩ ((r.plain ep).mono (Ext.laid0 e).toMo))⟩
/-- a new list as an object of ours -/
theorem new_list {ρ : Rh} {h : EH} {H : Hp} {p : Addr} {xs : List EV} {vs : List V} (R : Rel G ρ h H) (e : H p = none) (r : RepL G ρ H xs vs) :
    Ext ρ H (ρ.add p) (upd H p (.lst vs)) ∧ Rel G (ρ.add p) (h ++ [.lst xs]) (upd H p (.lst vs)) ∧ Rep G (ρ.add p) (upd H p (.lst vs)) (.ref h.length) (.ref p) := by
  refine ⟨Ext.laid e, R.alloc e ⟨vs, upd_same, r.mono (Ext.laid e).toMo⟩, .ref ?_⟩
  simp only [Rh.add]
  rw [← R.len, List.getElem?_append_right (Nat.le_refl _)]
  simp
theorem RepL.rep {ρ : Rh} {H : Hp} {xs : List EV} {vs : List V} (r : RepL G ρ H xs vs) : ∀ k : Nat, RepL G ρ H (List.replicate k xs).flatten (List.replicate k vs).flatten
  | 0 => .nil
  | k + 1 => by
    rw [List.replicate_succ, List.replicate_succ, List.flatten_cons, List.flatten_cons]
    exact r.append (RepL.rep r k)
theorem ro_mul : RO G X (binaryOp .Mult) opMul := by
  intro x y h ρ H v u Q z h' R rx ry e k
  unfold opMul at e
  split at e
  · rename_i i j
    obtain rfl := rep_int rx
    obtain rfl := rep_int ry
    split at e
    · rename_i c
      cases e
      exact wO.of op_mul ⟨i, j, rfl, rfl, c, k ρ H _ Ext.refl R (.p (.int _))⟩
    · cases e
  · rename_i j _
    obtain rfl := rep_int ry
    unfold mulSeq at e
    split at e
    · rename_i xs q
      split at e
      · rename_i c
        obtain ⟨a, vs, rfl, hv, rv⟩ := lst_rep R rx q
        cases ep : allP (List.replicate j.toNat xs).flatten with
        | none => rw [ep] at e; cases e
        | some ps =>
          rw [ep] at e; cases e
          refine wO.of op_rep ⟨a, j, vs, rfl, rfl, hv, c.1, c.2.1, ?_, fun p hp => ?_⟩
          · rw [← rv.length]; exact sz_ok c.2.2
          · obtain ⟨e1, R1, r1⟩ := new_plist R hp (rv.rep j.toNat) ep
            exact k _ _ _ e1 R1 r1
      · cases e
    · cases e
  · cases e
theorem toS_append (a b : List Nat) : toS (a ++ b) = toS a ++ toS b := by
  apply congrArg Str.mk
  simp [toS]
theorem SOk.append {a b : List Nat} (x : SOk a) (y : SOk b) : SOk (a ++ b) := fun c m => by
  rcases List.mem_append.mp m with q | q
  · exact x c q
  · exact y c q
theorem ro_add (hK : X.K = G.K := by rfl) : RO G X (binaryOp .Add) opAdd := by
  intro x y h ρ H v u Q z h' R rx ry e k
  unfold opAdd at e
  split at e
  · rename_i i j
    obtain rfl := rep_int rx
    obtain rfl := rep_int ry
    cases e
    exact wO.of op_add ⟨i, j, rfl, rfl, k ρ H _ Ext.refl R (.p (.int _))⟩
  · rename_i i j
    obtain ⟨rfl, si⟩ := rep_str rx
    obtain ⟨rfl, sj⟩ := rep_str ry
    split at e
    · rename_i c
      cases e
      have r' := k ρ H _ Ext.refl R (.p (.str (si.append sj)))
      rw [toS_append] at r'
      exact wO.of op_add_str ⟨_, _, rfl, rfl, sz_ok c, r'⟩
    · cases e
  · unfold addSeq at e
    split at e
    · rename_i xs ys q1 q2
      split at e
      · rename_i c
        cases e
        obtain ⟨a, vs, rfl, qa, ra⟩ := tup_rep rx q1
        obtain ⟨b, ws, rfl, qb, rb⟩ := tup_rep ry q2
        refine wO.of op_catA ⟨a, b, vs, ws, rfl, rfl, by rw [hK]; exact qa.sq, by rw [hK]; exact qb.sq, ?_, fun z => ?_, fun _ z => ?_, fun _ _ p hp => ?_⟩
        · rw [← ra.length, ← rb.length]; exact sz_ok c
        · subst z
          cases ra
          exact k ρ H _ Ext.refl R (mkTup_rep qb rb)
        · subst z
          cases rb
          rw [List.append_nil] at k
          exact k ρ H _ Ext.refl R (mkTup_rep qa ra)
        · obtain ⟨a1, a2, a3⟩ := new_tup R hp (ra.append rb)
          exact k ρ _ _ a1 a2 a3
      · cases e
    · split at e
      · rename_i xs ys q1 q2
        split at e
        · rename_i c
          cases ep : allP (xs ++ ys) with
          | none => rw [ep] at e; cases e
          | some ps =>
            rw [ep] at e; cases e
            obtain ⟨a, vs, rfl, hv, rv⟩ := lst_rep R rx q1
            obtain ⟨b, ws, rfl, hw, rw'⟩ := lst_rep R ry q2
            refine wO.of op_cat ⟨a, b, vs, ws, rfl, rfl, hv, hw, ?_, fun p hp => ?_⟩
            · rw [← rv.length, ← rw'.length]; exact sz_ok c
            · obtain ⟨e1, R1, r1⟩ := new_plist R hp (rv.append rw') ep
              exact k _ _ _ e1 R1 r1
        · cases e
      · cases e
theorem ro_cmp {op : CmpOp} {p : Int → Int → Bool} {q : List Nat → List Nat → Bool} (o1 : OpR X (compareOp op) (rI0 fun i j => .bl (p i j))) (o2 : OpR X (compareOp op) (fun x y H Q => ∃ i j, x = .str i ∧ y = .str j ∧ Q (.bl (q i.cps.toList j.cps.toList)) H)) : RO G X (compareOp op) (cmpI p q) := by
  intro x y h ρ H v u Q z h' R rx ry e k
  unfold cmpI at e
  split at e
  · rename_i i j
    obtain rfl := rep_int rx
    obtain rfl := rep_int ry
    cases e
    exact wO.of o1 ⟨i, j, rfl, rfl, k ρ H _ Ext.refl R (.p (.bl _))⟩
  · rename_i i j
    obtain ⟨rfl, si⟩ := rep_str rx
    obtain ⟨rfl, sj⟩ := rep_str ry
    cases e
    exact wO.of o2 ⟨_, _, rfl, rfl, k ρ H _ Ext.refl R (.p (.bl _))⟩
  · cases e
theorem ro_lt : RO G X (compareOp .Lt) opLt := ro_cmp op_lt (by simp only [ltS_eq, PyProof.Rows.ltCps_eq]; exact op_lt_str)
theorem ro_le : RO G X (compareOp .LtE) opLe := ro_cmp op_le (by simp only [ltS_eq, PyProof.Rows.ltCps_eq]; exact op_le_str)
theorem ro_gt : RO G X (compareOp .Gt) opGt := ro_cmp op_gt (by simp only [ltS_eq, PyProof.Rows.ltCps_eq]; exact op_gt_str)
theorem ro_ge : RO G X (compareOp .GtE) opGe := ro_cmp op_ge (by simp only [ltS_eq, PyProof.Rows.ltCps_eq]; exact op_ge_str)

/-! ### values with their objects as they are -/
theorem rsvL_rep {ρ ρ0 : Rh} {H : Hp} {f : EV → Option PV} (hf : ∀ x v d, Rep G ρ H x v → f x = some d → PRep G ρ0 H d v) : ∀ {xs : List EV} {vs : List V} {ds : List PV}, RepL G ρ H xs vs → rsvL f xs = some ds → PRepL G ρ0 H ds vs
  | [], _, ds, r, e => by
    cases r
    cases e
    exact .nil
  | x :: xs, _, ds, r, e => by
    cases r with
    | cons a b =>
      simp only [rsvL] at e
      split at e
      · rename_i d' ds' e1 e2
        cases e
        exact .cons (hf _ _ _ a e1) (rsvL_rep hf b e2)
      · cases e
theorem rsvK_repK {ρ ρ0 : Rh} {H : Hp} {f : EV → Option PV} (hf : ∀ x v d, Rep G ρ H x v → f x = some d → PRep G ρ0 H d v) : ∀ {xs : List (PV × EV)} {vs : List (Key × V)} {ds : List (PV × PV)}, RepP keyOf G ρ H xs vs → rsvK f xs = some ds → PRepK G ρ0 H ds vs
  | [], _, ds, r, e => by
    cases r
    cases e
    exact .nil
  | x :: xs, _, ds, r, e => by
    cases r with
    | cons k a b =>
      simp only [rsvK] at e
      split at e
      · rename_i d' ds' e1 e2
        cases e
        exact .cons k (hf _ _ _ a e1) (rsvK_repK hf b e2)
      · cases e
theorem rsvK_repT {ρ ρ0 : Rh} {H : Hp} {f : EV → Option PV} (hf : ∀ x v d, Rep G ρ H x v → f x = some d → PRep G ρ0 H d v) : ∀ {xs : List (PV × EV)} {vs : List (List Key × V)} {ds : List (PV × PV)}, RepP tkeyOf G ρ H xs vs → rsvK f xs = some ds → PRepT G ρ0 H ds vs
  | [], _, ds, r, e => by
    cases r
    cases e
    exact .nil
  | x :: xs, _, ds, r, e => by
    cases r with
    | cons k a b =>
      simp only [rsvK] at e
      split at e
      · rename_i d' ds' e1 e2
        cases e
        exact .cons k (hf _ _ _ a e1) (rsvK_repT hf b e2)
      · cases e
theorem rsvK_repF {ρ ρ0 : Rh} {H : Hp} {f : EV → Option PV} (hf : ∀ x v d, Rep G ρ H x v → f x = some d → PRep G ρ0 H d v) : ∀ {xs : List (Nat × EV)} {vs : List (Str × V)} {ds : List (Nat × PV)}, RepF G ρ H xs vs → rsvK f xs = some ds → PRepF G ρ0 H ds vs
  | [], _, ds, r, e => by
    cases r
    cases e
    exact .nil
  | x :: xs, _, ds, r, e => by
    cases r with
    | cons k a b =>
      simp only [rsvK] at e
      split at e
      · rename_i d' ds' e1 e2
        cases e
        exact .cons k (hf _ _ _ a e1) (rsvK_repF hf b e2)
      · cases e
theorem rsvK_keys {κ : Type} {f : EV → Option PV} : ∀ {xs : List (κ × EV)} {ds : List (κ × PV)}, rsvK f xs = some ds → ds.map (·.1) = xs.map (·.1)
  | [], ds, e => by cases e; rfl
  | x :: xs, ds, e => by
    simp only [rsvK] at e
    split at e
    · rename_i d' ds' e1 e2
      cases e
      simp [rsvK_keys e2]
    · cases e
theorem rsv_rep {ρ : Rh} {h : EH} {H : Hp} (R : Rel G ρ h H) : ∀ (n : Nat) (x : EV) (v : V) (d : PV), Rep G ρ H x v → rsv h n x = some d → PRep G ⟨ρ.out, []⟩ H d v := by
  have sub : ∀ a, a ∈ (Rh.mk ρ.out []).all → a ∈ ρ.all := fun a m => by
    rcases Rh.mem_all.mp m with q | q
    · exact Rh.mem_all.mpr (.inl q)
    · exact nomatch q
  have loc : ∀ (k : Nat) a, ρ.loc[k]? = some a → a ∉ (Rh.mk ρ.out []).all := fun k a q m => by
    rcases Rh.mem_all.mp m with z | z
    · exact R.sep a z (List.mem_of_getElem? q)
    · exact nomatch z
  intro n
  induction n with
  | zero =>
    intro x v d r e
    cases x with
    | p w => simp only [rsv] at e; cases e; exact (rep_p r).set sub
    | tup xs => simp only [rsv] at e; cases e
    | ref k => simp only [rsv] at e; cases e
  | succ n ih =>
    intro x v d r e
    cases x with
    | p w => simp only [rsv] at e; cases e; exact (rep_p r).set sub
    | tup xs =>
      simp only [rsv] at e
      cases e1 : rsvL (rsv h n) xs with
      | none => rw [e1] at e; cases e
      | some ds =>
        rw [e1] at e; cases e
        cases r with
        | tup q rr => exact .tup ⟨fun m => q.1 (sub _ m), q.2⟩ (rsvL_rep ih rr e1)
    | ref k =>
      simp only [rsv] at e
      split at e
      · rename_i xs eo
        obtain ⟨a, rfl, qa, vs, hv, rv⟩ := getref R r eo
        cases e1 : rsvL (rsv h n) xs with
        | none => rw [e1] at e; cases e
        | some ds => rw [e1] at e; cases e; exact .lst ⟨loc k a qa, hv⟩ (rsvL_rep ih rv e1)
      · rename_i xs eo
        obtain ⟨a, rfl, qa, vs, hv, rv⟩ := getref R r eo
        cases e1 : rsvK (rsv h n) xs with
        | none => rw [e1] at e; cases e
        | some ds => rw [e1] at e; cases e; exact .dK (loc k a qa) (.inl hv) (rsvK_repK ih rv e1)
      · rename_i xs eo
        obtain ⟨a, rfl, qa, vs, hv, rv⟩ := getref R r eo
        cases e1 : rsvK (rsv h n) xs with
        | none => rw [e1] at e; cases e
        | some ds => rw [e1] at e; cases e; exact .dT (loc k a qa) hv (rsvK_repT ih rv e1)
      · rename_i xs eo
        obtain ⟨a, rfl, qa, o, vs, hv, rv⟩ := getref R r eo
        cases e1 : rsvK (rsv h n) xs with
        | none => rw [e1] at e; cases e
        | some ds => rw [e1] at e; cases e; exact .dK (loc k a qa) (.inr ⟨o, hv⟩) (rsvK_repK ih rv e1)
      · rename_i c xs eo
        obtain ⟨a, rfl, qa, dx, vs, hv, rv, kd, fa⟩ := getref R r eo
        cases e1 : rsvK (rsv h n) xs with
        | none => rw [e1] at e; cases e
        | some ds =>
          rw [e1] at e; cases e
          refine .obj ⟨loc k a qa, by rw [kd]; exact ⟨dx, hv⟩⟩ (rsvK_repF ih rv e1) fun q m => ?_
          have : q.1 ∈ xs.map (·.1) := by rw [← rsvK_keys e1]; exact List.mem_map.mpr ⟨q, m, rfl⟩
          obtain ⟨q', m', e'⟩ := List.mem_map.mp this
          rw [← e']; exact fa q' m'
      · cases e

/-! ### equality of data -/
mutual
def toD : PV → PyData
  | .non => .none
  | .bl b => .bool b
  | .int i => .int i
  | .str s => .str (toS s)
  | .tup xs => .tuple (toDL xs)
  | .lst xs => .list (toDL xs)
  | .dic _ => .none
  | .dit _ => .none
  | .obj _ _ => .none
  | .rol _ => .none
  | .rot _ => .none
def toDL : List PV → List PyData
  | [] => []
  | x :: xs => toD x :: toDL xs
end
mutual
theorem toD_dp {ρ : Rh} {H : Hp} : ∀ {n : Nat} {x : PV} {v : V}, PRep G ρ H x v → pdat n x = true → Dp G.K H v (toD x) ∧ (toD x).canLay0 = true ∧ (toD x).depth ≤ n
  | _, _, _, .non, _ => ⟨.non, rfl, Nat.zero_le _⟩
  | _, _, _, .bl b, _ => ⟨.bl b, rfl, Nat.zero_le _⟩
  | _, _, _, .int i, _ => ⟨.int i, rfl, Nat.zero_le _⟩
  | _, _, _, .str s, _ => ⟨.str _, toS_ok s, Nat.zero_le _⟩
  | 0, _, _, .tup q r, e => by cases e
  | n + 1, _, _, .tup q r, e => by
    obtain ⟨a, b, c⟩ := toDL_dp r (n := n) (by simpa [pdat] using e)
    exact ⟨.tup q.sq a, b, Nat.succ_le_succ c⟩
  | 0, _, _, .lst q r, e => by cases e
  | n + 1, _, _, .lst q r, e => by
    obtain ⟨a, b, c⟩ := toDL_dp r (n := n) (by simpa [pdat] using e)
    exact ⟨.lst q.sq a, b, Nat.succ_le_succ c⟩
  | n, _, _, .dK _ _ _, e => by cases n <;> cases e
  | n, _, _, .dT _ _ _, e => by cases n <;> cases e
  | n, _, _, .obj _ _ _, e => by cases n <;> cases e
  | n, _, _, .rol _ _, e => by cases n <;> cases e
  | n, _, _, .rot _ _, e => by cases n <;> cases e
theorem toDL_dp {ρ : Rh} {H : Hp} : ∀ {n : Nat} {xs : List PV} {vs : List V}, PRepL G ρ H xs vs → (∀ x ∈ xs, pdat n x = true) → DpAll G.K H vs (toDL xs) ∧ PyData.canLayAll0 (toDL xs) = true ∧ PyData.depthAll (toDL xs) ≤ n
  | _, _, _, .nil, _ => ⟨.nil, rfl, Nat.zero_le _⟩
  | n, _, _, .cons a b, e => by
    obtain ⟨a1, a2, a3⟩ := toD_dp a (e _ (by simp))
    obtain ⟨b1, b2, b3⟩ := toDL_dp b (n := n) fun x m => e x (by simp [m])
    refine ⟨.cons a1 b1, ?_, ?_⟩
    · simp only [toDL, PyData.canLayAll0, a2, b2]; rfl
    · simp only [toDL, PyData.depthAll]; omega
end
theorem shaped_of {d : PyData} {n : Nat} (h1 : d.canLay0 = true) (h2 : d.depth ≤ n) (h3 : n ≤ 64) : SeqAt.shaped d = true := by
  unfold SeqAt.shaped
  rw [h1]
  simp only [Bool.true_and]
  exact decide_eq_true (Nat.le_trans h2 h3)
theorem toS_inj {a b : List Nat} (h : toS a = toS b) : a = b := by
  have := congrArg (fun s => s.cps.toList) h
  exact this
theorem eqS_str (a b : List Nat) : (toS a == toS b) = eqS a b := by
  rw [eqS_iff]
  by_cases h : a = b
  · simp [h]
  · have : ¬ toS a = toS b := fun z => h (toS_inj z)
    simp [h, this]
mutual
theorem eqv_peq : ∀ (n : Nat) (x y : PV), pdat n x = true → pdat n y = true → PyData.eqv (toD x) (toD y) = peq n x y
  | 0, x, y, hx, hy => by
    cases x <;> cases y <;> first | (exact absurd hx Bool.false_ne_true) | (exact absurd hy Bool.false_ne_true) | (simp only [toD, PyData.eqv, peq, b2, eqS_str] <;> rfl) | rfl
  | n + 1, x, y, hx, hy => by
    cases x <;> cases y <;> first
      | (exact absurd hx Bool.false_ne_true)
      | (exact absurd hy Bool.false_ne_true)
      | (rename_i xs ys; simp only [toD, PyData.eqv, peq]; exact eqvAll_peq n xs ys (by simpa [pdat] using hx) (by simpa [pdat] using hy))
      | (simp only [toD, PyData.eqv, peq, b2, eqS_str] <;> rfl)
      | rfl
theorem eqvAll_peq : ∀ (n : Nat) (xs ys : List PV), (∀ x ∈ xs, pdat n x = true) → (∀ x ∈ ys, pdat n x = true) → PyData.eqvAll (toDL xs) (toDL ys) = peqL (peq n) xs ys
  | n, [], [], _, _ => by simp [toDL, PyData.eqvAll, peqL]
  | n, [], _ :: _, _, _ => by simp [toDL, PyData.eqvAll, peqL]
  | n, _ :: _, [], _, _ => by simp [toDL, PyData.eqvAll, peqL]
  | n, x :: xs, y :: ys, hx, hy => by
    simp only [toDL, PyData.eqvAll, peqL]
    rw [eqv_peq n x y (hx x (by simp)) (hy y (by simp)), eqvAll_peq n xs ys (fun z m => hx z (by simp [m])) (fun z m => hy z (by simp [m]))]
end
end
end Y
end

section
/-! Y, equality, is, in. -/
namespace Y
open PySem L2
/-- keys of dicts -/
def keq : PV → PV → Bool
  | .int i, .int j => decide (i = j)
  | .str a, .str b => eqS a b
  | _, _ => false
def keqL : List PV → List PV → Bool
  | [], [] => true
  | x :: xs, y :: ys => keq x y && keqL xs ys
  | _, _ => false
def keqT : PV → PV → Bool
  | .tup xs, .tup ys => keqL xs ys
  | _, _ => false
def dfind {α : Type} (f : PV → PV → Bool) (k : PV) : List (PV × α) → Option α
  | [] => none
  | (j, v) :: r => match f j k with
    | true => some v
    | false => dfind f k r
def dput {α : Type} (f : PV → PV → Bool) (k : PV) (v : α) (kvs : List (PV × α)) : List (PV × α) := match kvs.any fun kv => f kv.1 k with
  | true => kvs.map fun kv => match f kv.1 k with
    | true => (kv.1, v)
    | false => kv
  | false => kvs ++ [(k, v)]
/-- x in y -/
def seqIn (f : PV → PV → Bool) (x : PV) : List PV → Bool
  | [] => false
  | y :: ys => f y x || seqIn f x ys
def inSeq (x : PV) (es : List PV) : Option Bool := match pdat 30 x, es.all (pdat 30) with
  | true, true => some (seqIn (peq 30) x es)
  | _, _ => none
/-- what a value offers to in: signs, a sequence, keys -/
inductive IN where
  | sgn (s : List Nat) | lst (xs : List EV) | tup (xs : List EV) | kd (ks : List (PV × EV)) | td (ks : List (PV × EV)) | no
def inOf (h : EH) : EV → IN
  | .p (.str s) => .sgn s
  | .p (.lst xs) => .lst (xs.map .p)
  | .p (.rol xs) => .lst (xs.map .p)
  | .p (.tup xs) => .tup (xs.map .p)
  | .p (.rot xs) => .tup (xs.map .p)
  | .p (.dic kvs) => .kd (kvs.map fun kv => (kv.1, .p kv.2))
  | .p (.dit kvs) => .td (kvs.map fun kv => (kv.1, .p kv.2))
  | .tup xs => .tup xs
  | .ref n => match h[n]? with
    | some (.lst xs) => .lst xs
    | some (.dK kvs) => .kd kvs
    | some (.dF kvs) => .kd kvs
    | some (.dT kvs) => .td kvs
    | _ => .no
  | _ => .no
def isIn (h : EH) (x y : EV) : Option Bool := match rsv h 30 x with
  | none => none
  | some d => match inOf h y with
    | .sgn t => match d with
      | .str [c] => some (t.any (Nat.beq c))
      | _ => none
    | .lst xs => match rsvL (rsv h 30) xs with
      | some es => inSeq d es
      | none => none
    | .tup xs => match rsvL (rsv h 30) xs with
      | some es => inSeq d es
      | none => none
    | .kd kvs => (keyOf d).map fun _ => (dfind keq d kvs).isSome
    | .td kvs => match x with
      | .p d => (tkeyOf d).map fun _ => (dfind keqT d kvs).isSome
      | _ => none
    | .no => none
def opIn (x y : EV) (h : EH) : Option (EV × EH) := (isIn h x y).map fun b => (.p (.bl b), h)
def opNin (x y : EV) (h : EH) : Option (EV × EH) := (isIn h x y).map fun b => (.p (.bl (!b)), h)

section
variable {G : Wd} {X : Cx}
theorem eqP_dp {ρ : Rh} {h : EH} {H : Hp} (R : Rel G ρ h H) {x : EV} {v : V} {d : PV} (r : Rep G ρ H x v) (e1 : rsv h 30 x = some d) (e2 : pdat 30 d = true) : Dp G.K H v (toD d) ∧ SeqAt.shaped (toD d) = true := by
  obtain ⟨a, b, c⟩ := toD_dp (rsv_rep R 30 x v d r e1) e2
  exact ⟨a, shaped_of b c (by decide)⟩
theorem eqP_ex {ρ : Rh} {h : EH} {H : Hp} (R : Rel G ρ h H) {x y : EV} {v u : V} {b : Bool} (rx : Rep G ρ H x v) (ry : Rep G ρ H y u) (e : eqP h x y = some b) :
    ∃ d d', Dp G.K H v d ∧ Dp G.K H u d' ∧ SeqAt.shaped d = true ∧ SeqAt.shaped d' = true ∧ b = PyData.eqv d d' := by
  unfold eqP at e
  split at e
  · rename_i d d' e1 e2
    split at e
    · rename_i h1 h2
      cases e
      obtain ⟨p1, s1⟩ := eqP_dp R rx e1 h1
      obtain ⟨p2, s2⟩ := eqP_dp R ry e2 h2
      exact ⟨_, _, p1, p2, s1, s2, (eqv_peq 30 d d' h1 h2).symm⟩
    · cases e
  · cases e
theorem ro_eq (hu : X.A.units + 64 < cLine) (hK : X.K = G.K := by rfl) : RO G X (compareOp .Eq) opEq := by
  intro x y h ρ H v u Q z h' R rx ry e k
  unfold opEq at e
  cases e0 : eqP h x y with
  | none => rw [e0] at e; cases e
  | some b =>
    rw [e0] at e; cases e
    obtain ⟨d, d', p1, p2, s1, s2, rfl⟩ := eqP_ex R rx ry e0
    exact wO.of (op_eqD hu) ⟨d, d', by rw [hK]; exact p1, by rw [hK]; exact p2, s1, s2, k ρ H _ Ext.refl R (.p (.bl _))⟩
theorem ro_ne (hu : X.A.units + 64 < cLine) (hK : X.K = G.K := by rfl) : RO G X (compareOp .NotEq) opNe := by
  intro x y h ρ H v u Q z h' R rx ry e k
  unfold opNe at e
  cases e0 : eqP h x y with
  | none => rw [e0] at e; cases e
  | some b =>
    rw [e0] at e; cases e
    obtain ⟨d, d', p1, p2, s1, s2, rfl⟩ := eqP_ex R rx ry e0
    exact wO.of (op_neD hu) ⟨d, d', by rw [hK]; exact p1, by rw [hK]; exact p2, s1, s2, k ρ H _ Ext.refl R (.p (.bl _))⟩
theorem isNon_rep {ρ : Rh} {H : Hp} {x : EV} {v : V} (r : Rep G ρ H x v) : decide (v = .non) = isNon x := by
  cases r with
  | p q => cases q <;> rfl
  | tup _ _ => rfl
  | ref _ => rfl
theorem rep_bl' {ρ : Rh} {H : Hp} {b : Bool} {w : V} (r : Rep G ρ H (.p (.bl b)) w) : w = .bl b := rep_bl r
theorem rep_non {ρ : Rh} {H : Hp} {w : V} (r : Rep G ρ H (.p .non) w) : w = .non := by cases rep_p r; rfl
theorem ro_is : RO G X (compareOp .Is) (opIs false) := by
  intro x y h ρ H v u Q z h' R rx ry e k
  unfold opIs at e
  split at e
  · cases e
    obtain rfl := rep_non ry
    refine wO.of op_isN ⟨rfl, ?_⟩
    rw [isNon_rep rx]
    refine k ρ H _ Ext.refl R ?_
    rw [Bool.false_xor]; exact .p (.bl _)
  · cases e
    obtain rfl := rep_bl rx
    obtain rfl := rep_bl ry
    refine wO.of op_isBl ⟨_, _, rfl, rfl, ?_⟩
    refine k ρ H _ Ext.refl R ?_
    rw [Bool.false_xor]; exact .p (.bl _)
  · cases e
theorem ro_isnot : RO G X (compareOp .IsNot) (opIs true) := by
  intro x y h ρ H v u Q z h' R rx ry e k
  unfold opIs at e
  split at e
  · cases e
    obtain rfl := rep_non ry
    refine wO.of op_notN ⟨rfl, ?_⟩
    rw [isNon_rep rx]
    refine k ρ H _ Ext.refl R ?_
    rw [Bool.true_xor]; exact .p (.bl _)
  · cases e
    obtain rfl := rep_bl rx
    obtain rfl := rep_bl ry
    refine wO.of op_notBl ⟨_, _, rfl, rfl, ?_⟩
    refine k ρ H _ Ext.refl R ?_
    rw [Bool.true_xor]; exact .p (.bl _)
  · cases e

/-! ### in -/
theorem key_rep {ρ : Rh} {H : Hp} {y : PV} {v : V} {k : Key} (r : PRep G ρ H y v) (e : keyOf y = some k) : v = kV k := by
  cases r <;> cases e <;> rfl
theorem keys_rep {ρ : Rh} {H : Hp} : ∀ {ys : List PV} {vs : List V} {ks : List Key}, PRepL G ρ H ys vs → keysOf ys = some ks → vs = ks.map kV
  | _, _, _, .nil, e => by cases e; rfl
  | y :: ys, _, ks, .cons a b, e => by
    simp only [keysOf] at e
    split at e
    · rename_i k ks' e1 e2
      cases e
      rw [key_rep a e1, keys_rep b e2]; rfl
    · cases e
theorem tkey_rep {ρ : Rh} {H : Hp} {y : PV} {v : V} {k : List Key} (r : PRep G ρ H y v) (e : tkeyOf y = some k) : ∃ b, v = .ref b ∧ b ∉ ρ.all ∧ H b = some (.tup (k.map kV)) := by
  cases r with
  | tup q rr =>
    have := keys_rep rr e
    subst this
    exact ⟨_, rfl, q.1, q.2⟩
  | _ => cases e
theorem rep_key {ρ : Rh} {H : Hp} {j : PV} {v : V} (k : Key) (e : keyOf j = some k) (r : PRep G ρ H j v) : v = kV k := key_rep r e
theorem keq_iff {a b : PV} {k j : Key} (e1 : keyOf a = some k) (e2 : keyOf b = some j) : keq a b = decide (k = j) := by
  cases a <;> cases e1 <;> cases b <;> cases e2
  · rename_i x y
    by_cases h : x = y
    · simp [keq, h]
    · have : ¬ ((Sum.inl x : Key) = Sum.inl y) := fun z => h (Sum.inl.inj z)
      simp [keq, h]
  · simp [keq]
  · simp [keq]
  · rename_i x y
    simp only [keq, eqS_iff]
    by_cases h : x = y
    · simp [h]
    · have : ¬ ((Sum.inr (toS x) : Key) = Sum.inr (toS y)) := fun z => h (toS_inj (Sum.inr.inj z))
      simp [h, this]
theorem keqL_iff : ∀ {a b : List PV} {k j : List Key}, keysOf a = some k → keysOf b = some j → keqL a b = decide (k = j)
  | [], [], _, _, e1, e2 => by cases e1; cases e2; rfl
  | [], y :: ys, _, _, e1, e2 => by
    cases e1
    simp only [keysOf] at e2
    split at e2
    · cases e2; rfl
    · cases e2
  | x :: xs, [], _, _, e1, e2 => by
    cases e2
    simp only [keysOf] at e1
    split at e1
    · cases e1; rfl
    · cases e1
  | x :: xs, y :: ys, _, _, e1, e2 => by
    simp only [keysOf] at e1 e2
    split at e1
    · rename_i k1 ks1 a1 a2
      split at e2
      · rename_i k2 ks2 b1 b2
        cases e1; cases e2
        simp only [keqL]
        rw [keq_iff a1 b1, keqL_iff a2 b2]
        by_cases h1 : k1 = k2 <;> by_cases h2 : ks1 = ks2 <;> simp [h1, h2]
      · cases e2
    · cases e1
theorem keqT_iff {a b : PV} {k j : List Key} (e1 : tkeyOf a = some k) (e2 : tkeyOf b = some j) : keqT a b = decide (k = j) := by
  cases a with
  | tup xs =>
    cases b with
    | tup ys => exact keqL_iff e1 e2
    | _ => cases e2
  | _ => cases e1
/-- dicts: what a key gives -/
theorem RepP.find {κ : Type} [DecidableEq κ] {kf : PV → Option κ} {f : PV → PV → Bool} (hf : ∀ a b k j, kf a = some k → kf b = some j → f a b = decide (k = j)) {ρ : Rh} {H : Hp} {d : PV} {k : κ} (hk : kf d = some k) :
    ∀ {xs : List (PV × EV)} {vs : List (κ × V)}, RepP kf G ρ H xs vs →
    (∀ x, dfind f d xs = some x → ∃ v, valV vs k = some v ∧ Rep G ρ H x v) ∧ (dfind f d xs = none → valV vs k = none)
  | _, _, .nil => ⟨fun x e => (by cases e), fun _ => rfl⟩
  | _, _, .cons (k := j) (q := κ') (x := x) (v := v) hj a b => by
    obtain ⟨h1, h2⟩ := RepP.find hf hk b
    have q := hf j d κ' k hj.1 hk
    by_cases e : κ' = k
    · rw [decide_eq_true e] at q
      refine ⟨fun y hy => ⟨v, by simp [valV, List.find?_cons, e], ?_⟩, fun hy => ?_⟩
      · simp [dfind, q] at hy
        subst hy; exact a
      · simp [dfind, q] at hy
    · rw [decide_eq_false e] at q
      refine ⟨fun y hy => ?_, fun hy => ?_⟩
      · simp only [dfind, q] at hy
        obtain ⟨w, hw, rw'⟩ := h1 y hy
        exact ⟨w, by simpa [valV, List.find?_cons, e] using hw, rw'⟩
      · simp only [dfind, q] at hy
        simpa [valV, List.find?_cons, e] using h2 hy
theorem RepP.isS {κ : Type} [DecidableEq κ] {kf : PV → Option κ} {f : PV → PV → Bool} (hf : ∀ a b k j, kf a = some k → kf b = some j → f a b = decide (k = j)) {ρ : Rh} {H : Hp} {d : PV} {k : κ} (hk : kf d = some k) {xs : List (PV × EV)} {vs : List (κ × V)} (r : RepP kf G ρ H xs vs) :
    (valV vs k).isSome = (dfind f d xs).isSome := by
  obtain ⟨h1, h2⟩ := r.find hf hk
  cases e : dfind f d xs with
  | none => rw [h2 e]; rfl
  | some x => obtain ⟨v, hv, _⟩ := h1 x e; rw [hv]; rfl
theorem PRepK.lift {ρ : Rh} {H : Hp} : ∀ {xs : List (PV × PV)} {vs : List (Key × V)}, PRepK G ρ H xs vs → RepP keyOf G ρ H (xs.map fun kv => (kv.1, .p kv.2)) vs
  | _, _, .nil => .nil
  | _, _, .cons k a b => .cons k (.p a) (PRepK.lift b)
theorem PRepT.lift {ρ : Rh} {H : Hp} : ∀ {xs : List (PV × PV)} {vs : List (List Key × V)}, PRepT G ρ H xs vs → RepP tkeyOf G ρ H (xs.map fun kv => (kv.1, .p kv.2)) vs
  | _, _, .nil => .nil
  | _, _, .cons k a b => .cons k (.p a) (PRepT.lift b)
def InRep (G : Wd) (ρ : Rh) (H : Hp) : IN → V → Prop
  | .sgn s, w => w = .str (toS s)
  | .lst xs, w => ∃ a vs, w = .ref a ∧ SqL G.K H a vs ∧ RepL G ρ H xs vs
  | .tup xs, w => ∃ a vs, w = .ref a ∧ SqT G.K H a vs ∧ RepL G ρ H xs vs
  | .kd kvs, w => ∃ a ws, w = .ref a ∧ Rd H a (.dK ws) ∧ RepP keyOf G ρ H kvs ws
  | .td kvs, w => ∃ a ws, w = .ref a ∧ Rd H a (.dT ws) ∧ RepP tkeyOf G ρ H kvs ws
  | .no, _ => True
theorem inOf_rep {ρ : Rh} {h : EH} {H : Hp} {y : EV} {u : V} (R : Rel G ρ h H) (r : Rep G ρ H y u) : InRep G ρ H (inOf h y) u := by
  cases y with
  | p v =>
    cases rep_p r with
    | str s => exact rfl
    | tup q rr => exact ⟨_, _, rfl, q.sq, rr.lift⟩
    | lst q rr => exact ⟨_, _, rfl, q.sq, rr.lift⟩
    | rol q rr => exact ⟨_, _, rfl, q.sq, rr.lift⟩
    | rot q rr => exact ⟨_, _, rfl, .inr q, rr.lift⟩
    | dK n q rr => exact ⟨_, _, rfl, q, rr.lift⟩
    | dT n q rr => exact ⟨_, _, rfl, .inl q, rr.lift⟩
    | _ => exact trivial
  | tup xs =>
    cases r with
    | tup q rr => exact ⟨_, _, rfl, q.sq, rr⟩
  | ref n =>
    cases eo : h[n]? with
    | none => simp only [inOf, eo]; exact trivial
    | some o =>
      obtain ⟨a, rfl, qa, ro⟩ := getref R r eo
      cases o with
      | lst xs => simp only [inOf, eo]; obtain ⟨vs, hv, rv⟩ := ro; exact ⟨a, vs, rfl, .inl (.inl hv), rv⟩
      | dK xs => simp only [inOf, eo]; obtain ⟨vs, hv, rv⟩ := ro; exact ⟨a, vs, rfl, .inl hv, rv⟩
      | dT xs => simp only [inOf, eo]; obtain ⟨vs, hv, rv⟩ := ro; exact ⟨a, vs, rfl, .inl hv, rv⟩
      | dF xs => simp only [inOf, eo]; obtain ⟨o, vs, hv, rv⟩ := ro; exact ⟨a, vs, rfl, .inr ⟨o, hv⟩, rv⟩
      | ins c xs => simp only [inOf, eo]; exact trivial
theorem seqIn_any (n : Nat) (x : PV) (hx : pdat n x = true) : ∀ es : List PV, (∀ e ∈ es, pdat n e = true) → seqIn (peq n) x es = (toDL es).any fun z => PyData.eqv z (toD x)
  | [], _ => rfl
  | e :: es, h => by
    simp only [seqIn, toDL, List.any_cons]
    rw [eqv_peq n e x (h e (by simp)) hx, seqIn_any n x hx es fun z m => h z (by simp [m])]
/-- one way through «in» for both signs -/
theorem ro_inX {op : CmpOp} {neg : Bool} (hu : X.A.units + 65 < cLine) (hK : X.K = G.K)
    (o1 : OpR X (compareOp op) (fun x y H Q => ∃ (c : Nat) (z : Str), x = .str ⟨#[c]⟩ ∧ y = .str z ∧ Q (.bl (neg ^^ decide (c ∈ z.cps.toList))) H))
    (o2 : OpR X (compareOp op) (fun x y H Q => ∃ d ds, Dp X.K H x d ∧ Dp X.K H y (.list ds) ∧ SeqAt.shaped d = true ∧ SeqAt.shaped (.list ds) = true ∧ Q (.bl (neg ^^ ds.any fun z => PyData.eqv z d)) H))
    (o3 : OpR X (compareOp op) (fun x y H Q => ∃ d ds, Dp X.K H x d ∧ Dp X.K H y (.tuple ds) ∧ SeqAt.shaped d = true ∧ SeqAt.shaped (.tuple ds) = true ∧ Q (.bl (neg ^^ ds.any fun z => PyData.eqv z d)) H))
    (o4 : OpR X (compareOp op) (fun x y H Q => ∃ a o, y = .ref a ∧ DGet H a x o ∧ Q (.bl (neg ^^ o.isSome)) H)) :
    RO G X (compareOp op) (fun x y h => (isIn h x y).map fun b => (.p (.bl (neg ^^ b)), h)) := by
  intro x y h ρ H v u Q z h' R rx ry e k
  dsimp only at e
  cases ei : isIn h x y with
  | none => rw [ei] at e; cases e
  | some b =>
    rw [ei] at e; cases e
    have fin := k ρ H _ Ext.refl R (.p (.bl (neg ^^ b)))
    have ir := inOf_rep R ry
    unfold isIn at ei
    split at ei
    · cases ei
    · rename_i d ed
      have rd := rsv_rep R 30 x v d rx ed
      split at ei
      · rename_i t et
        rw [et] at ir
        obtain rfl : u = .str (toS t) := ir
        split at ei
        · rename_i c
          cases ei
          cases rd with
          | str s =>
            refine wO.of o1 ⟨c, _, rfl, rfl, ?_⟩
            have : decide (c ∈ (toS t).cps.toList) = t.any (Nat.beq c) := by
              rw [toS_list]
              by_cases hm : c ∈ t
              · have : t.any (Nat.beq c) = true := List.any_eq_true.mpr ⟨c, hm, Nat.beq_refl c⟩
                simp [hm, this]
              · have : ¬ t.any (Nat.beq c) = true := fun q => by
                  obtain ⟨w, mw, ew⟩ := List.any_eq_true.mp q
                  exact hm (by rw [Nat.beq_eq.mp ew]; exact mw)
                simp [hm, Bool.eq_false_iff.mpr this]
            rw [this]; exact fin
        · cases ei
      · rename_i xs et
        rw [et] at ir
        obtain ⟨a, vs, rfl, sq, rr⟩ := ir
        split at ei
        · rename_i es ees
          have rl := rsvL_rep (fun x v d => rsv_rep R 30 x v d) rr ees
          unfold inSeq at ei
          split at ei
          · rename_i h1 h2
            cases ei
            have h2' : ∀ e ∈ es, pdat 30 e = true := fun e m => List.all_eq_true.mp h2 e m
            obtain ⟨p1, p2, p3⟩ := toD_dp rd h1
            obtain ⟨q1, q2, q3⟩ := toDL_dp rl h2'
            refine wO.of o2 ⟨toD d, toDL es, by rw [hK]; exact p1, by rw [hK]; exact .lst sq q1, shaped_of p2 p3 (by decide), shaped_of (n := 31) q2 (Nat.succ_le_succ q3) (by decide), ?_⟩
            rw [← seqIn_any 30 d h1 es h2']; exact fin
          · cases ei
        · cases ei
      · rename_i xs et
        rw [et] at ir
        obtain ⟨a, vs, rfl, sq, rr⟩ := ir
        split at ei
        · rename_i es ees
          have rl := rsvL_rep (fun x v d => rsv_rep R 30 x v d) rr ees
          unfold inSeq at ei
          split at ei
          · rename_i h1 h2
            cases ei
            have h2' : ∀ e ∈ es, pdat 30 e = true := fun e m => List.all_eq_true.mp h2 e m
            obtain ⟨p1, p2, p3⟩ := toD_dp rd h1
            obtain ⟨q1, q2, q3⟩ := toDL_dp rl h2'
            refine wO.of o3 ⟨toD d, toDL es, by rw [hK]; exact p1, by rw [hK]; exact .tup sq q1, shaped_of p2 p3 (by decide), shaped_of (n := 31) q2 (Nat.succ_le_succ q3) (by decide), ?_⟩
            rw [← seqIn_any 30 d h1 es h2']; exact fin
          · cases ei
        · cases ei
      · rename_i kvs et
        rw [et] at ir
        obtain ⟨a, ws, rfl, sq, rr⟩ := ir
        cases ek : keyOf d with
        | none => rw [ek] at ei; cases ei
        | some κ =>
          rw [ek] at ei; cases ei
          obtain rfl := key_rep rd ek
          refine wO.of o4 ⟨a, valV ws κ, rfl, .inl ⟨ws, κ, sq, rfl, rfl⟩, ?_⟩
          rw [RepP.isS (kf := keyOf) (fun a b k j => keq_iff) ek rr]; exact fin
      · rename_i kvs et
        rw [et] at ir
        obtain ⟨a, ws, rfl, sq, rr⟩ := ir
        split at ei
        · rename_i d'
          cases ek : tkeyOf d' with
          | none => rw [ek] at ei; cases ei
          | some κ =>
            rw [ek] at ei; cases ei
            obtain ⟨b, rfl, _, hb⟩ := tkey_rep (rep_p rx) ek
            refine wO.of o4 ⟨a, valV ws κ, rfl, .inr ⟨ws, κ, b, sq, rfl, hb, rfl⟩, ?_⟩
            rw [RepP.isS (kf := tkeyOf) (fun a b k j => keqT_iff) ek rr]; exact fin
        · cases ei
      · cases ei
theorem op_inTD (hu : X.A.units + 65 < cLine) : OpR X (compareOp .In) (fun x y H Q => ∃ d ds, Dp X.K H x d ∧ Dp X.K H y (.tuple ds) ∧ SeqAt.shaped d = true ∧ SeqAt.shaped (.tuple ds) = true ∧ Q (.bl (ds.any fun z => PyData.eqv z d)) H) := by
  intro pins s σ H x y v u Q I rx ry h
  obtain ⟨d, ds, hd, he, sd, se, q⟩ := h
  obtain ⟨as, r1⟩ := Dp.reads I d x v hd rx
  obtain ⟨bs, r2⟩ := Dp.reads I (.tuple ds) y u he ry
  exact SeqAt.in_tuple_reads r2 r1 (SeqAt.canLay_of_shaped se) (SeqAt.canLay_of_shaped sd) (PyProof.Rows.room_in_shaped sd hu) ⟨.bl _, H, I, rfl, q⟩
theorem op_ninTD (hu : X.A.units + 65 < cLine) : OpR X (compareOp .NotIn) (fun x y H Q => ∃ d ds, Dp X.K H x d ∧ Dp X.K H y (.tuple ds) ∧ SeqAt.shaped d = true ∧ SeqAt.shaped (.tuple ds) = true ∧ Q (.bl (!ds.any fun z => PyData.eqv z d)) H) := by
  intro pins s σ H x y v u Q I rx ry h
  obtain ⟨d, ds, hd, he, sd, se, q⟩ := h
  obtain ⟨as, r1⟩ := Dp.reads I d x v hd rx
  obtain ⟨bs, r2⟩ := Dp.reads I (.tuple ds) y u he ry
  exact SeqAt.notIn_tuple_reads r2 r1 (SeqAt.canLay_of_shaped se) (SeqAt.canLay_of_shaped sd) (PyProof.Rows.room_in_shaped sd hu) ⟨.bl _, H, I, rfl, q⟩
theorem op_inDG (hu : X.A.units + 1 < cLine) : OpR X (compareOp .In) (fun x y H Q => ∃ a o, y = .ref a ∧ DGet H a x o ∧ Q (.bl o.isSome) H) := by
  intro pins s σ H x y v u Q I rx ry h
  obtain ⟨a, o, rfl, g, q⟩ := h
  cases ry
  exact d_in hu I g rx fun s' I' => ⟨.bl _, H, I', rfl, q⟩
theorem op_ninDG (hu : X.A.units + 1 < cLine) : OpR X (compareOp .NotIn) (fun x y H Q => ∃ a o, y = .ref a ∧ DGet H a x o ∧ Q (.bl (!o.isSome)) H) := by
  intro pins s σ H x y v u Q I rx ry h
  obtain ⟨a, o, rfl, g, q⟩ := h
  cases ry
  exact d_notIn hu I g rx fun s' I' => ⟨.bl _, H, I', rfl, q⟩
theorem ro_in {k : Nat} (hr : Room k X.A) (hK : X.K = G.K := by rfl) : RO G X (compareOp .In) opIn := by
  have hu : X.A.units + 65 < cLine := by have := hr.un; omega
  have := ro_inX (G := G) (op := .In) (neg := false) hu hK (by simp only [Bool.false_xor]; exact op_in_sign) (by simp only [Bool.false_xor]; exact op_inD hu) (by simp only [Bool.false_xor]; exact op_inTD hu) (by simp only [Bool.false_xor]; exact op_inDG (by omega))
  simp only [Bool.false_xor] at this
  exact this
theorem ro_nin {k : Nat} (hr : Room k X.A) (hK : X.K = G.K := by rfl) : RO G X (compareOp .NotIn) opNin := by
  have hu : X.A.units + 65 < cLine := by have := hr.un; omega
  have := ro_inX (G := G) (op := .NotIn) (neg := true) hu hK (by simp only [Bool.true_xor]; exact op_notIn_sign) (by simp only [Bool.true_xor]; exact op_notInD hu) (by simp only [Bool.true_xor]; exact op_ninTD hu) (by simp only [Bool.true_xor]; exact op_ninDG (by omega))
  simp only [Bool.true_xor] at this
  exact this
end
end Y
end

section
/-! Y, statements, loops, comprehensions, defs. -/
namespace Y
open PySem L2

/-! ### functions -/
def sNil : ES → EH → FL := fun σ h => .nx σ h
def sSeq (f g : ES → EH → FL) : ES → EH → FL := fun σ h => (f σ h).seq g
def sSet (g : EV → ES → Option ES) (f : ES → M EV) : ES → EH → FL := fun σ h => (f σ h).fl σ fun v h' => match g v σ with
  | some σ' => .nx σ' h'
  | none => .stuck
def sExpr (f : ES → M EV) : ES → EH → FL := fun σ h => (f σ h).fl σ fun _ h' => .nx σ h'
def sRet (f : ES → M EV) : ES → EH → FL := fun σ h => (f σ h).fl σ fun v h' => .rt v h'
def sRetN : ES → EH → FL := fun _ h => .rt (.p .non) h
def sBrk : ES → EH → FL := fun σ h => .bk σ h
def sCont : ES → EH → FL := fun σ h => .ct σ h
def sIf (t : ES → M Bool) (a b : ES → EH → FL) : ES → EH → FL := fun σ h => (t σ h).fl σ fun c h' => match c with
  | true => a σ h'
  | false => b σ h'
def FL.loop (r : FL) (go : ES → EH → FL) : FL := match r with
  | .nx σ h => go σ h
  | .ct σ h => go σ h
  | .bk σ h => .nx σ h
  | .rt v h => .rt v h
  | .exc c fs σ h => .exc c fs σ h
  | .stuck => .stuck
def forL (g : EV → ES → Option ES) (fb : ES → EH → FL) : List EV → ES → EH → FL
  | [], σ, h => .nx σ h
  | x :: xs, σ, h => match g x σ with
    | none => .stuck
    | some σ1 => (fb σ1 h).loop (forL g fb xs)
/-- what a walk over changing things gives next: none: stuck; some none: its end -/
abbrev GT := EH → Nat → Option (Option EV)
def forN (g : EV → ES → Option ES) (fb : ES → EH → FL) (get : GT) : Nat → Nat → ES → EH → FL
  | 0, _, _, _ => .stuck
  | k + 1, i, σ, h => match get h i with
    | none => .stuck
    | some none => .nx σ h
    | some (some x) => match g x σ with
      | none => .stuck
      | some σ1 => (fb σ1 h).loop (forN g fb get k (i + 1))
/-- a list of ours, as it stands -/
def getL (n : Nat) : GT := fun h i => match h[n]? with
  | some (.lst xs) => some xs[i]?
  | _ => none
def whileK (t : ES → M Bool) (fb : ES → EH → FL) : Nat → ES → EH → FL
  | 0, _, _ => .stuck
  | k + 1, σ, h => (t σ h).fl σ fun c h' => match c with
    | true => (fb σ h').loop (whileK t fb k)
    | false => .nx σ h'
inductive IT where
  | vals (xs : List EV) | dyn (get : GT)
def sFor (fi : ES → M IT) (g : EV → ES → Option ES) (fb : ES → EH → FL) : ES → EH → FL := fun σ h => (fi σ h).fl σ fun it h' => match it with
  | .vals xs => forL g fb xs σ h'
  | .dyn get => forN g fb get 100001 0 σ h'
def gN (i : Nat) : EV → ES → Option ES := fun v σ => some (σ.set i (some v))
def gNilS : List EV → ES → Option ES
  | [], σ => some σ
  | _ :: _, _ => none
def gConsS (g1 : EV → ES → Option ES) (g2 : List EV → ES → Option ES) : List EV → ES → Option ES
  | v :: r, σ => (g1 v σ).bind (g2 r)
  | [], _ => none
def gTupS (n : Nat) (g : List EV → ES → Option ES) : EV → ES → Option ES := fun v σ => match tupOf v with
  | some xs => if xs.length = n then g xs σ else none
  | none => none
def chars (s : List Nat) : List EV := s.map fun c => .p (.str [c])
def itOf (v : EV) (h : EH) : R IT := match v with
  | .tup xs => .ok (.vals xs) h
  | .p (.tup xs) => .ok (.vals (xs.map .p)) h
  | .p (.rot xs) => .ok (.vals (xs.map .p)) h
  | .p (.lst xs) => .ok (.vals (xs.map .p)) h
  | .p (.rol xs) => .ok (.vals (xs.map .p)) h
  | .p (.str s) => .ok (.vals (chars s)) h
  | .ref n => match h[n]? with
    | some (.lst _) => .ok (.dyn (getL n)) h
    | _ => .stuck
  | _ => .stuck
def iVal (f : ES → M EV) : ES → M IT := fun σ h => (f σ h).bind itOf
def iLst (f : ES → M (List EV)) : ES → M IT := fun σ h => (f σ h).bind fun xs h' => .ok (.vals xs) h'
def rangeL : Int → Nat → List EV
  | _, 0 => []
  | lo, n + 1 => .p (.int lo) :: rangeL (lo + 1) n
def rng1 (vs : List EV) (h : EH) : R IT := match vs with
  | [.p (.int j)] => if -(2 ^ 62) ≤ j ∧ j < 2 ^ 62 then .ok (.vals (rangeL 0 j.toNat)) h else .stuck
  | _ => .stuck
def rng2 (vs : List EV) (h : EH) : R IT := match vs with
  | [.p (.int i), .p (.int j)] => if -(2 ^ 62) ≤ i ∧ i < 2 ^ 62 ∧ -(2 ^ 62) ≤ j ∧ j < 2 ^ 62 then .ok (.vals (rangeL i (j - i).toNat)) h else .stuck
  | _ => .stuck
abbrev iRng1' (f : ES → M (List EV)) : ES → M IT := fun σ h => (f σ h).bind rng1
abbrev iRng2' (f : ES → M (List EV)) : ES → M IT := fun σ h => (f σ h).bind rng2
def wipeE (σ : ES) : List Nat → ES
  | [] => σ
  | v :: vs => (wipeE σ vs).set v none
abbrev tYes' : ES → M Bool := fun _ h => .ok true h
def lcStep (ft : ES → M Bool) (fe : ES → M EV) (σ1 : ES) (acc : List EV) (h : EH) : R (List EV) := (ft σ1 h).bind fun b h1 => match b with
  | true => (fe σ1 h1).bind fun y h2 => if acc.length < 100000 then .ok (acc ++ [y]) h2 else .stuck
  | false => .ok acc h1
def noExc {α : Type} (r : R α) : R α := match r with
  | .exc _ _ _ => .stuck
  | r => r
def lcL (g : EV → ES → Option ES) (ft : ES → M Bool) (fe : ES → M EV) (σ : ES) : List EV → List EV → EH → R (List EV)
  | [], acc, h => .ok acc h
  | x :: xs, acc, h => match g x σ with
    | none => .stuck
    | some σ1 => (noExc (lcStep ft fe σ1 acc h)).bind fun acc' h' => lcL g ft fe σ xs acc' h'
def lcN (g : EV → ES → Option ES) (ft : ES → M Bool) (fe : ES → M EV) (σ : ES) (get : GT) : Nat → Nat → List EV → EH → R (List EV)
  | 0, _, _, _ => .stuck
  | k + 1, i, acc, h => match get h i with
    | none => .stuck
    | some none => .ok acc h
    | some (some x) => match g x σ with
      | none => .stuck
      | some σ1 => (noExc (lcStep ft fe σ1 acc h)).bind fun acc' h' => lcN g ft fe σ get k (i + 1) acc' h'
def lLc (fi : ES → M IT) (g : EV → ES → Option ES) (ft : ES → M Bool) (fe : ES → M EV) (vs : List Nat) : ES → M (List EV) := fun σ h => (fi σ h).bind fun it h' => match it with
  | .vals xs => lcL g ft fe (wipeE σ vs) xs [] h'
  | .dyn get => lcN g ft fe (wipeE σ vs) get 100001 0 [] h'
def startE (k : Nat) (vs : List EV) : ES := vs.map some ++ List.replicate (k - vs.length) none
def fnF (k : Nat) (fb : ES → EH → FL) (vs : List EV) (h : EH) : R EV := match fb (startE k vs) h with
  | .nx _ h' => .ok (.p .non) h'
  | .rt v h' => .ok v h'
  | .exc c fs _ h' => .exc c fs h'
  | .bk _ _ => .stuck
  | .ct _ _ => .stuck
  | .stuck => .stuck
def eFn (F : List EV → EH → R EV) (fa : ES → M (List EV)) : ES → M EV := fun σ h => (fa σ h).bind F

section
variable {G : Wd} {X : Cx}
/-! ### targets -/
def wG (X : Cx) (tg : Expr) : TG := fun v σ H Q => ∀ pins s u, Inv X pins σ H s → RelV v u → wpAny (model X.prog X.w) X.A (assign tg X.env u) (fun _ s' => ∃ σ' H', Inv X pins σ' H' s' ∧ Q σ' H') X.xe s
theorem wG.pg {tg : Expr} : PG X tg (wG X tg) := ⟨fun pins s _ _ _ u _ I r h => h pins s u I r⟩
theorem wG.of {tg : Expr} {t : TG} {v : V} {σ : L2.St} {H : Hp} {Q : L2.St → Hp → Prop} (p : PG X tg t) (h : t v σ H Q) : wG X tg v σ H Q := fun pins s u I r => p.run pins s σ H v u Q I r h
def wGs (X : Cx) (ts : List Expr) : TGs := fun vs σ H Q => ∀ pins s us, Inv X pins σ H s → Vals vs us → wpAny (model X.prog X.w) X.A (assignInOrder ((assignEach ts X.env).map (·.2)) us) (fun _ s' => ∃ σ' H', Inv X pins σ' H' s' ∧ Q σ' H') X.xe s
theorem wGs.pgs {ts : List Expr} : PGs X ts (wGs X ts) := ⟨fun pins s _ _ _ us _ I r h => h pins s us I r⟩
theorem wGs.of {ts : List Expr} {t : TGs} {vs : List V} {σ : L2.St} {H : Hp} {Q : L2.St → Hp → Prop} (p : PGs X ts t) (h : t vs σ H Q) : wGs X ts vs σ H Q := fun pins s us I r => p.run pins s σ H vs us Q I r h
def OnlyAt (vs : List Nat) (τ τ' : L2.St) : Prop := τ'.length = τ.length ∧ ∀ j, j ∉ vs → τ'[j]? = τ[j]?
variable (G X) in
def RG (tg : Expr) (vs : List Nat) (g : EV → ES → Option ES) : Prop := ∀ (v : EV) (x : V) (σ σ' : ES) (τ : L2.St) (ρ : Rh) (H : Hp) (h : EH) (Q : L2.St → Hp → Prop), Rel G ρ h H → SR G ρ H σ τ → Rep G ρ H v x → g v σ = some σ' →
  (∀ τ', SR G ρ H σ' τ' → OnlyAt vs τ τ' → Q τ' H) → wG X tg x τ H Q
variable (G X) in
def RGs (ts : List Expr) (vs : List Nat) (g : List EV → ES → Option ES) : Prop := ∀ (ws : List EV) (xs : List V) (σ σ' : ES) (τ : L2.St) (ρ : Rh) (H : Hp) (h : EH) (Q : L2.St → Hp → Prop), Rel G ρ h H → SR G ρ H σ τ → RepL G ρ H ws xs → g ws σ = some σ' →
  (∀ τ', SR G ρ H σ' τ' → OnlyAt vs τ τ' → Q τ' H) → wGs X ts xs τ H Q
theorem rg_name {i : Nat} {x : Str} {pos : Pos} (hG : G.Zf = true) (hN : X.N.Nodup) (hi : X.N[i]? = some x := by rfl) (hx : Loc X.env.scope x := by first | exact Or.inl rfl | exact Or.inr rfl) (hf : X.fn x = true ∨ X.env.scope.names.lookup x = some .local := by first | exact .inl rfl | exact .inr rfl) : RG G X (.Name x pos) [i] (gN i) := by
  intro v w σ σ' τ ρ H h Q R S r e k
  cases e
  refine wG.of (pg_name hN hi hx hf) ?_
  exact k _ (S.set hG r) ⟨by simp, fun j hj => List.getElem?_set_ne (fun z => hj (by simp [z]))⟩
theorem rgs_nil : RGs G X [] [] gNilS := by
  intro ws xs σ σ' τ ρ H h Q R S r e k
  cases r with
  | nil =>
    cases e
    exact wGs.of pgs_nil ⟨rfl, k _ S ⟨rfl, fun _ _ => rfl⟩⟩
  | cons a b => cases e
theorem rgs_cons {t : Expr} {ts : List Expr} {vs ws : List Nat} {g1 : EV → ES → Option ES} {g2 : List EV → ES → Option ES} (h1 : RG G X t vs g1) (h2 : RGs G X ts ws g2) (hs : (assignEach (t :: ts) X.env).map (·.2) = assign t X.env :: (assignEach ts X.env).map (·.2) := by rfl) :
    RGs G X (t :: ts) (vs ++ ws) (gConsS g1 g2) := by
  intro us xs σ σ' τ ρ H h Q R S r e k
  cases r with
  | nil => cases e
  | @cons u x us xs ra rb =>
    have e : (g1 u σ).bind (g2 us) = some σ' := e
    cases e1 : g1 u σ with
    | none => rw [e1] at e; cases e
    | some σ1 =>
      rw [e1] at e
      refine wGs.of (pgs_cons wG.pg wGs.pgs hs) ⟨x, xs, rfl, ?_⟩
      refine h1 u x σ σ1 τ ρ H h _ R S ra e1 fun τ1 S1 o1 => ?_
      refine h2 us xs σ1 σ' τ1 ρ H h Q R S1 rb e fun τ2 S2 o2 => ?_
      refine k τ2 S2 ⟨o2.1.trans o1.1, fun j hj => ?_⟩
      rw [o2.2 j (fun z => hj (List.mem_append_right _ z)), o1.2 j (fun z => hj (List.mem_append_left _ z))]
theorem rg_tup {ts : List Expr} {vs : List Nat} {g : List EV → ES → Option ES} {kk n : Nat} {pos : Pos} (h : RGs G X ts vs g) (hc : X.calm = true := by rfl) (hn : (assignEach ts X.env).length = n := by rfl) (hst : (assignEach ts X.env).findIdx? (·.1) = none := by rfl) (hK : X.K = G.K := by rfl) :
    RG G X (.Tuple ts kk pos) vs (gTupS n g) := by
  intro v x σ σ' τ ρ H hh Q R S r e k
  unfold gTupS at e
  split at e
  · rename_i xs et
    obtain ⟨a, ws, rfl, q, rr⟩ := tup_rep r et
    split at e
    · rename_i hl
      refine wG.of (pg_tup hc wGs.pgs hn hst) ⟨a, ws, rfl, by rw [hK]; exact q.sq, by rw [← rr.length]; exact hl, ?_⟩
      exact h xs ws σ σ' τ ρ H hh Q R S rr e k
    · cases e
  · cases e

/-! ### simple statements -/
theorem rss_nil : RSs G X [] sNil := fun σ h ρ τ H D R S f => wSs.of pss_nil (f ρ H τ Ext.refl R S)
theorem rss_cons {st : Stmt} {rest : List Stmt} {f g : ES → EH → FL} (h1 : RS G X st f) (h2 : RSs G X rest g) : RSs G X (st :: rest) (sSeq f g) := by
  intro σ h ρ τ H D R S ff
  refine wSs.of (pss_cons wS.ps wSs.pss) ?_
  refine h1 σ h ρ τ H _ R S ?_
  cases e : f σ h with
  | nx σ' h' =>
    have ff : FinS G X ρ H D ((f σ h).seq g) := ff
    rw [e] at ff
    exact fun ρ' H' τ' e' R' S' => h2 σ' h' ρ' τ' H' D R' S' (FinS.start e' ff)
  | rt v h' =>
    have ff : FinS G X ρ H D ((f σ h).seq g) := ff
    rw [e] at ff; exact ff
  | bk v h' =>
    have ff : FinS G X ρ H D ((f σ h).seq g) := ff
    rw [e] at ff; exact ff
  | ct v h' =>
    have ff : FinS G X ρ H D ((f σ h).seq g) := ff
    rw [e] at ff; exact ff
  | exc c fs v h' =>
    have ff : FinS G X ρ H D ((f σ h).seq g) := ff
    rw [e] at ff; exact ff
  | stuck =>
    have ff : FinS G X ρ H D ((f σ h).seq g) := ff
    rw [e] at ff; exact ff
theorem rss_one {st : Stmt} {f : ES → EH → FL} (h1 : RS G X st f) : RSs G X [st] f := fun σ h ρ τ H D R S ff => wSs.of (pss_one wS.ps) (h1 σ h ρ τ H D R S ff)
/-- x = e -/
theorem rs_set {i : Nat} {x : Str} {e : Expr} {f : ES → M EV} {pos pos' : Pos} (hG : G.Zf = true) (hN : X.N.Nodup) (he : RE G X e f) (hi : X.N[i]? = some x := by rfl) (hx : Loc X.env.scope x := by first | exact Or.inl rfl | exact Or.inr rfl) (hs : swapsWith e (some (.Name x pos')) pos.line X.env = pure false := by rfl)
    (hf : X.fn x = true ∨ X.env.scope.names.lookup x = some .local := by first | exact .inl rfl | exact .inr rfl) : RS G X (.Assign [.Name x pos'] e pos) (sSet (gN i) f) := by
  intro σ h ρ τ H D R S ff
  refine wS.of (ps_set hN hi hx wE.pe hs hf) ?_
  refine he σ h ρ τ H _ R S (FinE.imp (FinS.fl S ff) fun v h1 ρ1 H1 e1 R1 f1 w rw' => ?_)
  exact f1 ρ1 H1 _ Ext.refl R1 ((S.mono e1.toMo).set hG rw')
/-- a, b = e -/
theorem rs_asg {tg e : Expr} {f : ES → M EV} {g : EV → ES → Option ES} {vs : List Nat} {pos : Pos} (he : RE G X e f) (hg : RG G X tg vs g) (hs : swapsWithSole [tg] e pos.line X.env = pure false := by rfl) (hw : swappedStores [tg] e X.env = pure none := by rfl)
    (h1 : (assignEach [tg] X.env).map (·.2) = [assign tg X.env] := by rfl) : RS G X (.Assign [tg] e pos) (sSet g f) := by
  intro σ h ρ τ H D R S ff
  refine wS.of (ps_asg wE.pe wG.pg hs hw h1) ?_
  refine he σ h ρ τ H _ R S (FinE.imp (FinS.fl S ff) fun v h1 ρ1 H1 e1 R1 f1 w rw' => ?_)
  split at f1
  · rename_i σ' eg
    exact hg v w σ σ' τ ρ1 H1 h1 _ R1 (S.mono e1.toMo) rw' eg fun τ' S' _ => f1 ρ1 H1 τ' Ext.refl R1 S'
  · exact f1.elim
theorem rs_expr {e : Expr} {f : ES → M EV} {pos : Pos} (he : RE G X e f) (hs : swapsWith e none pos.line X.env = pure false := by rfl) : RS G X (.Expr e pos) (sExpr f) := by
  intro σ h ρ τ H D R S ff
  refine wS.of (ps_expr wE.pe hs) ?_
  exact he σ h ρ τ H _ R S (FinE.imp (FinS.fl S ff) fun v h1 ρ1 H1 e1 R1 f1 w rw' => f1 ρ1 H1 τ Ext.refl R1 (S.mono e1.toMo))
theorem rs_ret {e : Expr} {f : ES → M EV} {pos : Pos} (he : RE G X e f) : RS G X (.Return (some e) pos) (sRet f) := by
  intro σ h ρ τ H D R S ff
  refine wS.of (ps_ret wE.pe) ?_
  exact he σ h ρ τ H _ R S (FinE.imp (FinS.fl S ff) fun v h1 ρ1 H1 e1 R1 f1 w rw' => f1 ρ1 H1 w Ext.refl R1 rw')
theorem rs_retN {pos : Pos} : RS G X (.Return none pos) sRetN := fun σ h ρ τ H D R S ff => wS.of ps_retN (ff ρ H _ Ext.refl R (.p .non))
theorem rs_pass {pos : Pos} : RS G X (.Pass pos) sNil := fun σ h ρ τ H D R S ff => wS.of ps_pass (ff ρ H τ Ext.refl R S)
theorem rs_brk {pos : Pos} : RS G X (.Break pos) sBrk := fun σ h ρ τ H D R S ff => wS.of ps_break (ff ρ H τ Ext.refl R S)
theorem rs_cont {pos : Pos} : RS G X (.Continue pos) sCont := fun σ h ρ τ H D R S ff => wS.of ps_continue (ff ρ H τ Ext.refl R S)
theorem rs_if {c : Expr} {a b : List Stmt} {t : ES → M Bool} {fa fb : ES → EH → FL} {pos : Pos} (hc : RT G X c t) (ha : RSs G X a fa) (hb : RSs G X b fb) : RS G X (.If c a b pos) (sIf t fa fb) := by
  intro σ h ρ τ H D R S ff
  refine wS.of (ps_if wT.pt wSs.pss wSs.pss) ?_
  refine hc σ h ρ τ H _ R S (FinE.imp (FinS.fl S ff) fun d h1 ρ1 H1 e1 R1 f1 => ?_)
  cases d with
  | true => exact ha σ h1 ρ1 τ H1 D R1 (S.mono e1.toMo) f1
  | false => exact hb σ h1 ρ1 τ H1 D R1 (S.mono e1.toMo) f1

/-! ### what is walked -/
def wI (X : Cx) (tg iter : Expr) : TI := fun σ H R => ∀ pins s, Inv X pins σ H s → wpAny (model X.prog X.w) X.A (eval iter X.env) (fun v s1 => wpAny (model X.prog X.w) X.A (pyIter v) (PIE X pins σ tg R) X.xe s1) X.xe s
theorem wI.pi {tg iter : Expr} : PI X tg iter (wI X tg iter) := ⟨fun pins s _ _ _ I h => h pins s I⟩
theorem wI.of {tg iter : Expr} {t : TI} {σ : L2.St} {H : Hp} {R : It → Hp → Prop} (p : PI X tg iter t) (h : t σ H R) : wI X tg iter σ H R := fun pins s I => p.run pins s σ H R I h
def Wk (G : Wd) (J : It) (C : Rh → Hp → Prop) : IT → Prop
  | .vals xs => (∀ ρ H ρ' H', C ρ H → Sx ρ H ρ' H' → C ρ' H') ∧ (∀ ρ h H i, Rel G ρ h H → C ρ H → xs.length ≤ i → J.stop i H) ∧
      ∀ ρ h H i x, Rel G ρ h H → C ρ H → xs[i]? = some x → J.go i H ∧ ∀ v H', J.yld i H v H' → Ext ρ H ρ H' ∧ Rel G ρ h H' ∧ Rep G ρ H' x v
  | .dyn get => (∀ ρ H ρ' H', C ρ H → Sx ρ H ρ' H' → C ρ' H') ∧ ∀ ρ h H i, Rel G ρ h H → C ρ H → (get h i = some none → J.stop i H) ∧
      ∀ x, get h i = some (some x) → J.go i H ∧ ∀ v H', J.yld i H v H' → Ext ρ H ρ H' ∧ Rel G ρ h H' ∧ Rep G ρ H' x v
variable (G X) in
def RI (tg iter : Expr) (fi : ES → M IT) : Prop := ∀ (σ : ES) (h : EH) (ρ : Rh) (τ : L2.St) (H : Hp) (R' : It → Hp → Prop), Rel G ρ h H → SR G ρ H σ τ →
  FinE G X τ ρ H (fi σ h) (fun it _ ρ' H' => ∀ J C, Wk G J C it → C ρ' H' → R' J H') → wI X tg iter τ H R'
/-- a sequence that stays as it is -/
theorem wk_tup {a : Addr} {vs : List V} {xs : List EV} (C : Rh → Hp → Prop) (hC : ∀ ρ H ρ' H', C ρ H → Sx ρ H ρ' H' → C ρ' H') (hq : ∀ ρ H, C ρ H → SqT G.K H a vs ∧ RepL G ρ H xs vs) : Wk G (Itt G.K a) C (.vals xs) := by
  refine ⟨hC, fun ρ h H i R c l => ⟨vs, (hq _ _ c).1, by rw [← (hq _ _ c).2.length]; exact l⟩, fun ρ h H i x R c l => ?_⟩
  obtain ⟨v, hv, rv⟩ := (hq _ _ c).2.get l
  refine ⟨⟨vs, v, (hq _ _ c).1, hv⟩, fun w H' y => ?_⟩
  obtain ⟨rfl, y⟩ := y
  have := y vs (hq _ _ c).1
  rw [hv] at this; cases this
  exact ⟨Ext.refl, R, rv⟩
theorem wk_lst {a : Addr} {vs : List V} {xs : List EV} (C : Rh → Hp → Prop) (hC : ∀ ρ H ρ' H', C ρ H → Sx ρ H ρ' H' → C ρ' H') (hq : ∀ ρ H, C ρ H → SqL G.K H a vs ∧ RepL G ρ H xs vs) : Wk G (Itl G.K a) C (.vals xs) := by
  refine ⟨hC, fun ρ h H i R c l => ⟨vs, (hq _ _ c).1, by rw [← (hq _ _ c).2.length]; exact l⟩, fun ρ h H i x R c l => ?_⟩
  obtain ⟨v, hv, rv⟩ := (hq _ _ c).2.get l
  refine ⟨⟨vs, v, (hq _ _ c).1, hv⟩, fun w H' y => ?_⟩
  obtain ⟨rfl, y⟩ := y
  have := y vs (hq _ _ c).1
  rw [hv] at this; cases this
  exact ⟨Ext.refl, R, rv⟩
theorem wk_own (n : Nat) (a : Addr) : Wk G (Itl G.K a) (fun ρ _ => ρ.loc[n]? = some a) (.dyn (getL n)) := by
  refine ⟨fun ρ H ρ' H' c e => e.mo.get c, fun ρ h H i R c => ?_⟩
  have key : ∀ xs, h[n]? = some (.lst xs) → ∃ vs, H a = some (.lst vs) ∧ RepL G ρ H xs vs := fun xs eo => by
    obtain ⟨a', qa, vs', hv, rv⟩ := R.at eo
    rw [c] at qa
    obtain rfl : a = a' := Option.some.inj qa
    exact ⟨vs', hv, rv⟩
  refine ⟨fun e => ?_, fun x e => ?_⟩
  · unfold getL at e
    split at e
    · rename_i xs eo
      obtain ⟨vs, hv, rv⟩ := key xs eo
      refine ⟨vs, .inl (.inl hv), ?_⟩
      rw [← rv.length]
      exact List.getElem?_eq_none_iff.mp (Option.some.inj e)
    · cases e
  · unfold getL at e
    split at e
    · rename_i xs eo
      obtain ⟨vs, hv, rv⟩ := key xs eo
      obtain ⟨v0, hv0, rv0⟩ := rv.get (Option.some.inj e)
      refine ⟨⟨vs, v0, .inl (.inl hv), hv0⟩, fun v H' y => ?_⟩
      obtain ⟨rfl, y⟩ := y
      have y' := y vs (.inl (.inl hv))
      rw [hv0] at y'; cases y'
      exact ⟨Ext.refl, R, rv0⟩
    · cases e
theorem wk_str {s : List Nat} (hs : SOk s) : Wk G (Its (toS s)) (fun _ _ => True) (.vals (chars s)) := by
  refine ⟨fun _ _ _ _ _ _ => trivial, fun ρ h H i R c l => ?_, fun ρ h H i x R c l => ?_⟩
  · show (toS s).cps.size ≤ i
    simpa [chars, toS] using l
  · have hl : i < s.length := by
      have := (List.getElem?_eq_some_iff.mp l).1
      simpa [chars] using this
    refine ⟨(show i < (toS s).cps.size by simpa [toS] using hl), fun w H' y => ?_⟩
    obtain ⟨rfl, c', hc', rfl⟩ := y
    have hc2 : s[i]? = some c' := by simpa [toS] using hc'
    have : x = .p (.str [c']) := by
      simp only [chars, List.getElem?_map] at l
      rw [hc2] at l
      exact (Option.some.inj l).symm
    subst this
    exact ⟨Ext.refl, R, .p (.str fun d m => by
      have : d = c' := by simpa using m
      subst this; exact hs d (List.mem_of_getElem? hc2))⟩
theorem rangeL_length : ∀ (n : Nat) (lo : Int), (rangeL lo n).length = n
  | 0, _ => rfl
  | n + 1, lo => by simp [rangeL, rangeL_length n]
theorem rangeL_get : ∀ (n : Nat) (lo : Int) (i : Nat), i < n → (rangeL lo n)[i]? = some (.p (.int (lo + (i : Nat))))
  | 0, _, _, h => by omega
  | n + 1, lo, 0, h => by simp [rangeL]
  | n + 1, lo, i + 1, h => by
    simp only [rangeL, List.getElem?_cons_succ]
    rw [rangeL_get n (lo + 1) i (by omega)]
    congr 3
    omega
theorem wk_rng {lo : Int} {n : Nat} : Wk G (Itr lo n) (fun _ _ => True) (.vals (rangeL lo n)) := by
  refine ⟨fun _ _ _ _ _ _ => trivial, fun ρ h H i R c l => ?_, fun ρ h H i x R c l => ?_⟩
  · show n ≤ i
    rwa [rangeL_length] at l
  · have hl : i < n := by
      have := (List.getElem?_eq_some_iff.mp l).1
      rwa [rangeL_length] at this
    refine ⟨hl, fun w H' y => ?_⟩
    obtain ⟨rfl, rfl⟩ := y
    rw [rangeL_get n lo i hl] at l
    cases l
    exact ⟨Ext.refl, R, .p (.int _)⟩
theorem ri_val {tg e : Expr} {f : ES → M EV} (he : RE G X e f) (hK : X.K = G.K := by rfl) : RI G X tg e (iVal f) := by
  intro σ h ρ τ H R' R S ff
  have ff := FinE.bind ff
  cases e0 : f σ h with
  | stuck => rw [e0] at ff; exact ff.elim
  | exc c fs h' =>
    refine wI.of (pi_list wE.pe) ?_
    refine he σ h ρ τ H _ R S ?_
    rw [e0] at ff ⊢
    exact ff
  | ok v h1 =>
    rw [e0] at ff
    have run : ∀ (k : VK), (∀ ρ1 H1 w, Ext ρ H ρ1 H1 → Rel G ρ1 h1 H1 → Rep G ρ1 H1 v w → k w H1) → wE X e τ H k := fun k hk => by
      refine he σ h ρ τ H k R S ?_
      rw [e0]
      exact fun ρ1 H1 e1 R1 w rw' => hk ρ1 H1 w e1 R1 rw'
    have stuck : (∀ ρ1 H1, Ext ρ H ρ1 H1 → Rel G ρ1 h1 H1 → False) → wI X tg e τ H R' := fun no => wI.of (pi_list wE.pe) (run _ fun ρ1 H1 w e1 R1 r => (no ρ1 H1 e1 R1).elim)
    have tup : ∀ xs, (∀ ρ1 H1 w, Rel G ρ1 h1 H1 → Rep G ρ1 H1 v w → ∃ a vs, w = .ref a ∧ (TpV ρ1 H1 a vs ∨ TkV G.K a vs) ∧ RepL G ρ1 H1 xs vs) → (∀ ρ1 H1, Ext ρ H ρ1 H1 → Rel G ρ1 h1 H1 → FinE G X τ ρ1 H1 (.ok (.vals xs) h1) (fun it _ ρ' H' => ∀ J C, Wk G J C it → C ρ' H' → R' J H')) → wI X tg e τ H R' := fun xs hr hf => by
      refine wI.of (pi_tup wE.pe) (run _ fun ρ1 H1 w e1 R1 r => ?_)
      obtain ⟨a, vs, rfl, q, rr⟩ := hr ρ1 H1 w R1 r
      have sq : ∀ ρ H, (TpV ρ H a vs ∨ TkV G.K a vs) → SqT G.K H a vs := fun ρ H z => by
        rcases z with z | z
        · exact z.sq
        · exact .inr z
      refine ⟨a, rfl, ⟨vs, by rw [hK]; exact sq _ _ q⟩, ?_⟩
      rw [hK]
      exact hf ρ1 H1 e1 R1 ρ1 H1 Ext.refl R1 _ _ (wk_tup (fun ρ H => (TpV ρ H a vs ∨ TkV G.K a vs) ∧ RepL G ρ H xs vs) (fun ρ H ρ' H' c e => ⟨c.1.imp e.mo.tp id, c.2.mono e.mo⟩) fun ρ H c => ⟨sq _ _ c.1, c.2⟩) ⟨q, rr⟩
    have lst : ∀ xs, (∀ ρ1 H1 w, Rel G ρ1 h1 H1 → Rep G ρ1 H1 v w → ∃ a vs, w = .ref a ∧ (LsV ρ1 H1 a vs ∨ RoV G.K ρ1 H1 a vs) ∧ RepL G ρ1 H1 xs vs) → (∀ ρ1 H1, Ext ρ H ρ1 H1 → Rel G ρ1 h1 H1 → FinE G X τ ρ1 H1 (.ok (.vals xs) h1) (fun it _ ρ' H' => ∀ J C, Wk G J C it → C ρ' H' → R' J H')) → wI X tg e τ H R' := fun xs hr hf => by
      refine wI.of (pi_list wE.pe) (run _ fun ρ1 H1 w e1 R1 r => ?_)
      obtain ⟨a, vs, rfl, q, rr⟩ := hr ρ1 H1 w R1 r
      have sq : ∀ ρ H, (LsV ρ H a vs ∨ RoV G.K ρ H a vs) → SqL G.K H a vs := fun ρ H z => by
        rcases z with z | z
        · exact z.sq
        · exact z.sq
      refine ⟨a, rfl, ⟨vs, by rw [hK]; exact sq _ _ q⟩, ?_⟩
      rw [hK]
      exact hf ρ1 H1 e1 R1 ρ1 H1 Ext.refl R1 _ _ (wk_lst (fun ρ H => (LsV ρ H a vs ∨ RoV G.K ρ H a vs) ∧ RepL G ρ H xs vs) (fun ρ H ρ' H' c e => ⟨c.1.imp e.mo.ls e.mo.ro, c.2.mono e.mo⟩) fun ρ H c => ⟨sq _ _ c.1, c.2⟩) ⟨q, rr⟩
    cases v with
    | tup xs => exact tup xs (fun ρ1 H1 w R1 r => by cases r with | tup q rr => exact ⟨_, _, rfl, .inl q, rr⟩) fun ρ1 H1 e1 R1 => ff ρ1 H1 e1 R1
    | p pv =>
      cases pv with
      | tup xs => exact tup (xs.map .p) (fun ρ1 H1 w R1 r => by cases rep_p r with | tup q rr => exact ⟨_, _, rfl, .inl q, rr.lift⟩) fun ρ1 H1 e1 R1 => ff ρ1 H1 e1 R1
      | rot xs => exact tup (xs.map .p) (fun ρ1 H1 w R1 r => by cases rep_p r with | rot q rr => exact ⟨_, _, rfl, .inr q, rr.lift⟩) fun ρ1 H1 e1 R1 => ff ρ1 H1 e1 R1
      | lst xs => exact lst (xs.map .p) (fun ρ1 H1 w R1 r => by cases rep_p r with | lst q rr => exact ⟨_, _, rfl, .inl q, rr.lift⟩) fun ρ1 H1 e1 R1 => ff ρ1 H1 e1 R1
      | rol xs => exact lst (xs.map .p) (fun ρ1 H1 w R1 r => by cases rep_p r with | rol q rr => exact ⟨_, _, rfl, .inr q, rr.lift⟩) fun ρ1 H1 e1 R1 => ff ρ1 H1 e1 R1
      | str s =>
        refine wI.of (pi_str wE.pe) (run _ fun ρ1 H1 w e1 R1 r => ?_)
        obtain ⟨rfl, hs⟩ := rep_str r
        exact ⟨_, rfl, ff ρ1 H1 e1 R1 ρ1 H1 Ext.refl R1 _ _ (wk_str hs) trivial⟩
      | _ => exact stuck fun ρ1 H1 e1 R1 => ff ρ1 H1 e1 R1
    | ref n =>
      cases e2 : h1[n]? with
      | none =>
        refine stuck fun ρ1 H1 e1 R1 => ?_
        have z := ff ρ1 H1 e1 R1
        simp only [itOf, e2] at z
        exact z
      | some o =>
        cases o with
        | lst xs =>
          refine wI.of (pi_list wE.pe) (run _ fun ρ1 H1 w e1 R1 r => ?_)
          have z := ff ρ1 H1 e1 R1
          simp only [itOf, e2] at z
          obtain ⟨a, rfl, qa, vs, hv, rv⟩ := getref R1 r e2
          refine ⟨a, rfl, ⟨vs, .inl (.inl hv)⟩, ?_⟩
          rw [hK]
          exact z ρ1 H1 Ext.refl R1 _ _ (wk_own n a) qa
        | _ =>
          refine stuck fun ρ1 H1 e1 R1 => ?_
          have z := ff ρ1 H1 e1 R1
          simp only [itOf, e2] at z
          exact z
theorem ri_lst {tg e : Expr} {f : ES → M (List EV)} (he : RL G X e f) (hK : X.K = G.K := by rfl) : RI G X tg e (iLst f) := by
  intro σ h ρ τ H R' R S ff
  refine wI.of (pi_list wE.pe) ?_
  refine he σ h ρ τ H _ R S (FinE.imp (FinE.bind ff) fun xs h1 ρ1 H1 e1 R1 f1 p vs hp m l Rp r => ?_)
  refine ⟨p, rfl, ⟨vs, .inl (.inl l)⟩, ?_⟩
  rw [hK]
  exact f1 ρ1 H1 Ext.refl R1 _ _ (wk_lst (fun ρ H => LsV ρ H p vs ∧ RepL G ρ H xs vs) (fun ρ H ρ' H' c e => ⟨e.mo.ls c.1, c.2.mono e.mo⟩) fun ρ H c => ⟨c.1.sq, c.2⟩) ⟨⟨m, l⟩, r.mono Mo.unhid⟩
theorem ri_range1 {tg a : Expr} {fa : ES → M (List EV)} {p pos : Pos} (hg : Gl X "range") (hm : X.mg "range" = none) (ha : RA G X [a] fa) (hs : starEach [a] X.env = [(false, eval a X.env)] := by first | exact star_one rfl | rfl) : RI G X tg (.Call (.Name "range" p) [a] [] pos) (iRng1' fa) := by
  intro σ h ρ τ H R' R S ff
  refine wI.of (pi_range1 hg hm wA.pa hs) ?_
  refine ha σ h ρ τ H _ R S (FinE.imp (FinE.bind ff) fun xs h1 ρ1 H1 e1 R1 f1 vs r => ?_)
  unfold rng1 at f1
  split at f1
  · rename_i j
    split at f1
    · rename_i c
      cases r with
      | cons a b =>
        obtain rfl := rep_int a
        cases b
        exact ⟨j, rfl, c.1, c.2, f1 ρ1 H1 Ext.refl R1 _ _ wk_rng trivial⟩
    · exact f1.elim
  · exact f1.elim
theorem ri_range2 {tg a b : Expr} {fa : ES → M (List EV)} {p pos : Pos} (hg : Gl X "range") (hm : X.mg "range" = none) (ha : RA G X [a, b] fa) (hs : starEach [a, b] X.env = [(false, eval a X.env), (false, eval b X.env)] := by rfl) (hs2 : starEach [b] X.env = [(false, eval b X.env)] := by first | exact star_one rfl | rfl) : RI G X tg (.Call (.Name "range" p) [a, b] [] pos) (iRng2' fa) := by
  intro σ h ρ τ H R' R S ff
  refine wI.of (pi_range2 hg hm wA.pa hs hs2) ?_
  refine ha σ h ρ τ H _ R S (FinE.imp (FinE.bind ff) fun xs h1 ρ1 H1 e1 R1 f1 vs r => ?_)
  unfold rng2 at f1
  split at f1
  · rename_i i j
    split at f1
    · rename_i c
      cases r with
      | cons a b =>
        cases b with
        | cons b d =>
          obtain rfl := rep_int a
          obtain rfl := rep_int b
          cases d
          exact ⟨i, j, rfl, c, f1 ρ1 H1 Ext.refl R1 _ _ wk_rng trivial⟩
    · exact f1.elim
  · exact f1.elim
end
end Y
end

section
/-! Y, loops, comprehensions, defs. -/
namespace Y
open PySem PySem.Spec PyProof.Rows L2
section
variable {G : Wd} {X : Cx}
/-- behind a loop's body -/
theorem FinS.loop {ρ : Rh} {H : Hp} {D : Ends} {r : FL} {go : ES → EH → FL} {N : L2.St → Hp → Prop} (f : FinS G X ρ H D (r.loop go))
    (n : ∀ σ' h' ρ' H' τ', Ext ρ H ρ' H' → Rel G ρ' h' H' → SR G ρ' H' σ' τ' → FinS G X ρ' H' D (go σ' h') → N τ' H') : FinS G X ρ H { D with nx := N, ct := N, bk := D.nx } r := by
  cases r with
  | nx σ' h' => exact fun ρ' H' τ' e R S => n σ' h' ρ' H' τ' e R S (FinS.start e f)
  | ct σ' h' => exact fun ρ' H' τ' e R S => n σ' h' ρ' H' τ' e R S (FinS.start e f)
  | bk σ' h' => exact f
  | rt v h' => exact f
  | exc c fs σ' h' => exact f
  | stuck => exact f
theorem rs_for {tg iter : Expr} {body : List Stmt} {fi : ES → M IT} {g : EV → ES → Option ES} {vs : List Nat} {fb : ES → EH → FL} {pos : Pos} (hp : PassesOwn (model X.prog X.w) X.A X.env X.xe) (hi : RI G X tg iter fi) (hg : RG G X tg vs g) (hb : RSs G X body fb)
    (hc : X.calm = true := by rfl) (hs : ∀ x, foldedSetIterable iter X.env x = pure x := by intro _; rfl) : RS G X (.For tg iter body [] pos) (sFor fi g fb) := by
  intro σ h ρ τ H D R S ff
  refine wS.of (ps_for hp hc wI.pi wG.pg wSs.pss hs) ?_
  refine hi σ h ρ τ H _ R S (FinE.imp (FinS.fl S ff) fun it h1 ρ1 H1 e1 R1 f1 J C wk c => ?_)
  cases it with
  | vals xs =>
    obtain ⟨wC, wS', wG'⟩ := wk
    refine ⟨fun i m τ' H' => ∃ ρ' h' σ', C ρ' H' ∧ Rel G ρ' h' H' ∧ SR G ρ' H' σ' τ' ∧ m = xs.length - i ∧ FinS G X ρ' H' D (forL g fb (xs.drop i) σ' h'),
      ⟨xs.length, ρ1, h1, σ, c, R1, S.mono e1.toMo, rfl, f1⟩, ?_⟩
    rintro i m τ' H' ⟨ρ', h', σ', c', R', S', rfl, f'⟩
    by_cases hi : i < xs.length
    · have hx : xs[i]? = some xs[i] := List.getElem?_eq_getElem hi
      obtain ⟨go, yl⟩ := wG' ρ' h' H' i _ R' c' hx
      refine .inr ⟨go, fun τ2 H2 => ∃ ρ2 h2 σ2, C ρ2 H2 ∧ Rel G ρ2 h2 H2 ∧ SR G ρ2 H2 σ2 τ2 ∧ FinS G X ρ2 H2 D (forL g fb (xs.drop (i + 1)) σ2 h2), fun τ2 H2 ⟨ρ2, h2, σ2, c2, R2, S2, f2⟩ => ⟨_, by omega, ρ2, h2, σ2, c2, R2, S2, rfl, f2⟩, fun v H2 y => ?_⟩
      obtain ⟨e2, R2, r2⟩ := yl v H2 y
      rw [List.drop_eq_getElem_cons hi] at f'
      have f2 := FinS.start e2 f'
      simp only [forL] at f2
      cases eg : g xs[i] σ' with
      | none => rw [eg] at f2; exact f2.elim
      | some σ1 =>
        rw [eg] at f2
        refine hg _ v σ' σ1 τ' ρ' H2 h' _ R2 (S'.mono e2.toMo) r2 eg fun τ1 S1 _ => ?_
        refine hb σ1 h' ρ' τ1 H2 _ R2 S1 (FinS.loop f2 fun σ3 h3 ρ3 H3 τ3 e3 R3 S3 f3 => ⟨ρ3, h3, σ3, wC _ _ _ _ c' (e2.trans e3).sx, R3, S3, f3⟩)
    · have hd : xs.drop i = [] := List.drop_eq_nil_of_le (by omega)
      rw [hd] at f'
      exact .inl ⟨wS' ρ' h' H' i R' c' (by omega), f' ρ' H' τ' Ext.refl R' S'⟩
  | dyn get =>
    obtain ⟨wC, wG'⟩ := wk
    refine ⟨fun i m τ' H' => ∃ ρ' h' σ', C ρ' H' ∧ Rel G ρ' h' H' ∧ SR G ρ' H' σ' τ' ∧ FinS G X ρ' H' D (forN g fb get m i σ' h'), ⟨100001, ρ1, h1, σ, c, R1, S.mono e1.toMo, f1⟩, ?_⟩
    rintro i m τ' H' ⟨ρ', h', σ', c', R', S', f'⟩
    cases m with
    | zero => exact f'.elim
    | succ m =>
      obtain ⟨gs, gi⟩ := wG' ρ' h' H' i R' c'
      simp only [forN] at f'
      cases ex : get h' i with
      | none => rw [ex] at f'; exact f'.elim
      | some ox =>
        rw [ex] at f'
        cases ox with
        | none => exact .inl ⟨gs ex, f' ρ' H' τ' Ext.refl R' S'⟩
        | some x =>
          obtain ⟨go, yl⟩ := gi x ex
          refine .inr ⟨go, fun τ2 H2 => ∃ ρ2 h2 σ2, C ρ2 H2 ∧ Rel G ρ2 h2 H2 ∧ SR G ρ2 H2 σ2 τ2 ∧ FinS G X ρ2 H2 D (forN g fb get m (i + 1) σ2 h2), fun τ2 H2 ⟨ρ2, h2, σ2, c2, R2, S2, f2⟩ => ⟨m, by omega, ρ2, h2, σ2, c2, R2, S2, f2⟩, fun v H2 y => ?_⟩
          obtain ⟨e2, R2, r2⟩ := yl v H2 y
          have f2 := FinS.start e2 f'
          simp only at f2
          cases eg : g x σ' with
          | none => rw [eg] at f2; exact f2.elim
          | some σ1 =>
            rw [eg] at f2
            refine hg _ _ σ' σ1 τ' ρ' H2 h' _ R2 (S'.mono e2.toMo) r2 eg fun τ1 S1 _ => ?_
            refine hb σ1 h' ρ' τ1 H2 _ R2 S1 (FinS.loop f2 fun σ3 h3 ρ3 H3 τ3 e3 R3 S3 f3 => ⟨ρ3, h3, σ3, wC _ _ _ _ c' (e2.trans e3).sx, R3, S3, f3⟩)
theorem rs_while {c : Expr} {body : List Stmt} {t : ES → M Bool} {fb : ES → EH → FL} {pos : Pos} {n : Nat} (hp : PassesOwn (model X.prog X.w) X.A X.env X.xe) (hc : RT G X c t) (hb : RSs G X body fb) : RS G X (.While c body [] pos) (whileK t fb n) := by
  intro σ h ρ τ H D R S ff
  refine wS.of (ps_while hp wT.pt wSs.pss) ?_
  refine ⟨fun m τ' H' => ∃ ρ' h' σ', Rel G ρ' h' H' ∧ SR G ρ' H' σ' τ' ∧ FinS G X ρ' H' D (whileK t fb m σ' h'), ⟨n, ρ, h, σ, R, S, ff⟩, ?_⟩
  rintro m τ' H' ⟨ρ', h', σ', R', S', f'⟩
  cases m with
  | zero => exact f'.elim
  | succ m =>
    simp only [whileK] at f'
    refine hc σ' h' ρ' τ' H' _ R' S' (FinE.imp (FinS.fl S' f') fun b h1 ρ1 H1 e1 R1 f1 => ?_)
    cases b with
    | false => exact f1 ρ1 H1 τ' Ext.refl R1 (S'.mono e1.toMo)
    | true =>
      rw [if_pos rfl]
      refine ⟨fun τ2 H2 => ∃ ρ2 h2 σ2, Rel G ρ2 h2 H2 ∧ SR G ρ2 H2 σ2 τ2 ∧ FinS G X ρ2 H2 D (whileK t fb m σ2 h2), fun τ2 H2 ⟨ρ2, h2, σ2, R2, S2, f2⟩ => ⟨m, by omega, ρ2, h2, σ2, R2, S2, f2⟩, ?_⟩
      exact hb σ' h1 ρ1 τ' H1 _ R1 (S'.mono e1.toMo) (FinS.loop f1 fun σ3 h3 ρ3 H3 τ3 e3 R3 S3 f3 => ⟨ρ3, h3, σ3, R3, S3, f3⟩)

/-! ### comprehensions -/
theorem wipeE_length (σ : ES) : ∀ vs, (wipeE σ vs).length = σ.length
  | [] => rfl
  | v :: vs => by unfold wipeE; rw [List.length_set, wipeE_length σ vs]
theorem SR.wipe {G : Wd} {ρ : Rh} {H : Hp} {σ : ES} {τ : L2.St} (hG : G.Zf = true) (S : SR G ρ H σ τ) : ∀ vs, SR G ρ H (wipeE σ vs) (wipe τ vs)
  | [] => S
  | v :: vs => (SR.wipe hG S vs).clear hG
theorem wipe_get {τ : L2.St} {j : Nat} : ∀ {vs : List Nat}, j ∉ vs → (wipe τ vs)[j]? = τ[j]?
  | [], _ => rfl
  | v :: vs, h => by
    unfold wipe
    rw [List.getElem?_set_ne (fun z => h (by simp [z]))]
    exact wipe_get fun z => h (List.mem_cons_of_mem _ z)
theorem wipe_in {τ : L2.St} {j : Nat} : ∀ {vs : List Nat}, j ∈ vs → (wipe τ vs)[j]? = if j < τ.length then some none else none
  | v :: vs, h => by
    unfold wipe
    by_cases e : v = j
    · subst e
      by_cases hl : v < τ.length
      · rw [if_pos hl, List.getElem?_set_self (by rw [wipe_length]; exact hl)]
      · rw [if_neg hl]
        exact List.getElem?_eq_none (by rw [List.length_set, wipe_length]; omega)
    · rw [List.getElem?_set_ne e]
      rcases List.mem_cons.mp h with z | z
      · exact absurd z.symm e
      · exact wipe_in z
theorem wipe_same {τ τ' : L2.St} {vs : List Nat} (o : OnlyAt vs (wipe τ vs) τ') : wipe τ' vs = wipe τ vs := by
  apply List.ext_getElem?
  intro j
  by_cases hj : j ∈ vs
  · rw [wipe_in hj, wipe_in hj, o.1, wipe_length]
  · rw [wipe_get hj, o.2 j hj]
theorem FinE.noExc {α : Type} {τ τ' : L2.St} {X' : Cx} {ρ : Rh} {H : Hp} {r : R α} {k : α → EH → Rh → Hp → Prop} (f : FinE G X τ ρ H (noExc r) k) : FinE G X' τ' ρ H r k := by
  cases r with
  | ok a h => exact f
  | exc c fs h => exact f.elim
  | stuck => exact f.elim
/-- a block's context -/
abbrev blkX (X : Cx) (s : Shared) (H : Hp) (scope : Scope) (C : Addr) (cl : List (Str × Addr)) (fp : List Addr) : Cx := X.blk s H scope (compEnvC scope cl C X.env) fp
def gB (X : Cx) (scope : Scope) (tg : Expr) : TG := fun v σ H Q => ∀ s H' C cl fp, wG (blkX X s H' scope C cl fp) tg v σ H Q
def tBk (X : Cx) (scope : Scope) (ifs : List Expr) : TT := fun σ H Q => ∀ s H' C cl fp (pins : List (Addr × Obj)) (s1 : Shared), Inv (blkX X s H' scope C cl fp) pins σ H s1 →
  wpAny (model X.prog X.w) X.A (forIn ifs true fun c r => if r = true then do let ok ← isTrue c (blkX X s H' scope C cl fp).env (eval c (blkX X s H' scope C cl fp).env); pure (ForInStep.yield ok) else pure (ForInStep.yield r)) (TP (blkX X s H' scope C cl fp) pins σ Q) (blkX X s H' scope C cl fp).xe s1
def eB (X : Cx) (scope : Scope) (e : Expr) : TE := fun σ H Q => ∀ s H' C cl fp, wE (blkX X s H' scope C cl fp) e σ H Q
variable (G X) in
def RTs (ifs : List Expr) (f : ES → M Bool) : Prop := ∀ (σ : ES) (h : EH) (ρ : Rh) (τ : L2.St) (H : Hp) (Q : Bool → Hp → Prop), Rel G ρ h H → SR G ρ H σ τ →
  FinE G X τ ρ H (f σ h) (fun b _ _ H' => Q b H') → ∀ pins s, Inv X pins τ H s →
    wpAny (model X.prog X.w) X.A (forIn ifs true fun c r => if r = true then do let ok ← isTrue c X.env (eval c X.env); pure (ForInStep.yield ok) else pure (ForInStep.yield r)) (TP X pins τ Q) X.xe s
theorem rts_nil : RTs G X [] tYes' := fun σ h ρ τ H Q R S f pins s I => pts_nil.run pins s τ H Q I (f ρ H Ext.refl R)
theorem rts_one {c : Expr} {t : ES → M Bool} (h : RT G X c t) : RTs G X [c] t := fun σ h' ρ τ H Q R S f pins s I => (pts_one (wT.pt (X := X))).run pins s τ H Q I (h σ h' ρ τ H Q R S f)
theorem lc_read {elt tg iter : Expr} {ifs : List Expr} {scope : Scope} {own : List (Str × Nat)} {fi : ES → M IT} {g : EV → ES → Option ES} {ft : ES → M Bool} {fe : ES → M EV} (hG : G.Zf = true) (hi : RI G X tg iter fi)
    (hg : ∀ s H C cl fp, RG G (blkX X s H scope C cl fp) tg (own.map (·.2)) g) (ht : ∀ s H C cl fp, RTs G (blkX X s H scope C cl fp) ifs ft) (he : ∀ s H C cl fp, RE G (blkX X s H scope C cl fp) elt fe)
    {σ : ES} {h : EH} {ρ : Rh} {τ : L2.St} {H : Hp} {Q : VK} (R : Rel G ρ h H) (S : SR G ρ H σ τ)
    (ff : FinE G X τ ρ H (lLc fi g ft fe (own.map (·.2)) σ h) (LK G ρ H Q)) :
    tLc (wI X tg iter) (gB X scope tg) (tBk X scope ifs) (eB X scope elt) (own.map (·.2)) τ H Q := by
  refine hi σ h ρ τ H _ R S (FinE.imp (FinE.bind ff) fun it h1 ρ1 H1 e1 R1 f1 J C wk c => ?_)
  intro D hD
  have S1 : SR G ρ1 H1 σ τ := S.mono e1.toMo
  have hD0 : H D = none := e1.dom D hD
  have mo0 : Mo ρ1 H1 (ρ1.hid D) (upd H1 D (.lst [])) := Mo.hid hD
  have m0 : D ∉ ρ1.all := R1.fresh hD
  -- one turn
  have turn : ∀ (x : EV) (v : V) (σ1 : ES) (acc : List EV) (vs : List V) (ρ' : Rh) (h' : EH) (H' : Hp) (Nx : Hp → Prop) (rest : List EV → EH → Y.R (List EV)), Ext ρ1 H1 ρ' H' → Rel G (ρ'.hid D) h' H' → D ∉ ρ'.all → H' D = some (.lst vs) → SR G (ρ'.hid D) H' (wipeE σ (own.map (·.2))) (wipe τ (own.map (·.2))) → RepL G (ρ'.hid D) H' acc vs → Rep G (ρ'.hid D) H' x v → g x (wipeE σ (own.map (·.2))) = some σ1 →
      FinE G X τ ρ1 H1 ((Y.noExc (lcStep ft fe σ1 acc h')).bind rest) (LK G ρ H Q) →
      (∀ (acc2 : List EV) (vs2 : List V) ρ2 h2 H2, Ext ρ1 H1 ρ2 H2 → Rel G (ρ2.hid D) h2 H2 → D ∉ ρ2.all → H2 D = some (.lst vs2) → SR G (ρ2.hid D) H2 (wipeE σ (own.map (·.2))) (wipe τ (own.map (·.2))) → RepL G (ρ2.hid D) H2 acc2 vs2 → FinE G X τ ρ1 H1 (rest acc2 h2) (LK G ρ H Q) → Nx H2) →
      gB X scope tg v (wipe τ (own.map (·.2))) H' fun σ2 H2 => wipe σ2 (own.map (·.2)) = wipe τ (own.map (·.2)) ∧ tBk X scope ifs σ2 H2 fun b H3 => if b = true then eB X scope elt σ2 H3 fun y H4 => ∃ acc, H4 D = some (.lst acc) ∧ acc.length < sizeLine ∧ Nx (upd H4 D (.lst (acc ++ [y]))) else Nx H3 := by
    intro x v σ1 acc vs ρ' h' H' Nx rest E' R' m' l' S' ra rx eg f' nx s0 H0 C0 cl0 fp0
    refine hg s0 H0 C0 cl0 fp0 x v _ σ1 _ (ρ'.hid D) H' h' _ R' S' rx eg fun τ2 S2 o2 => ⟨wipe_same o2, fun s3 H3' C3 cl3 fp3 => ?_⟩
    refine ht s3 H3' C3 cl3 fp3 σ1 h' (ρ'.hid D) τ2 H' _ R' S2 ?_
    have nloc : D ∉ (ρ'.hid D).loc := fun z => m' (Rh.mem_all.mpr (.inr z))
    cases et : ft σ1 h' with
    | stuck => simp only [lcStep, et, Y.R.bind, Y.noExc] at f'; exact f'.elim
    | exc c' fs' h6 => simp only [lcStep, et, Y.R.bind, Y.noExc] at f'; exact f'.elim
    | ok b h2 =>
      intro ρ2 H2 e2 R2
      obtain ⟨ρ2', rfl, e2'⟩ := e2.hidden
      have m2 : D ∉ ρ2'.all := e2'.toMo.nin m' l'
      have l2 := e2.exact nloc rfl l'
      cases b with
      | false =>
        rw [if_neg (by decide)]
        simp only [lcStep, et, Y.R.bind, Y.noExc] at f'
        exact nx acc vs ρ2' h2 H2 (E'.trans e2') R2 m2 l2 (S'.mono e2.toMo) (ra.mono e2.toMo) f'
      | true =>
        rw [if_pos rfl]
        intro s4 H4' C4 cl4 fp4
        refine he s4 H4' C4 cl4 fp4 σ1 h2 (ρ2'.hid D) τ2 H2 _ R2 (S2.mono e2.toMo) ?_
        cases e5 : fe σ1 h2 with
        | stuck => simp only [lcStep, et, e5, Y.R.bind, Y.noExc] at f'; exact f'.elim
        | exc c fs h5 => simp only [lcStep, et, e5, Y.R.bind, Y.noExc] at f'; exact f'.elim
        | ok y h5 =>
          intro ρ5 H5 e5' R5 w rw5
          obtain ⟨ρ5', rfl, e5''⟩ := e5'.hidden
          simp only [lcStep, et, e5, Y.R.bind, Y.noExc] at f'
          by_cases hl : acc.length < 100000
          · rw [if_pos hl] at f'
            have nloc2 : D ∉ (ρ2'.hid D).loc := fun z => m2 (Rh.mem_all.mpr (.inr z))
            have l5 := e5'.exact nloc2 rfl l2
            have m5 : D ∉ ρ5'.all := e5''.toMo.nin m2 l2
            have e25 := e2.trans e5'
            have ra5 := ra.mono e25.toMo
            refine ⟨vs, l5, by rw [← ra5.length]; exact sz_lt hl, ?_⟩
            have mo : Mo (ρ5'.hid D) H5 (ρ5'.hid D) (upd H5 D (.lst (vs ++ [w]))) := by
              have ne : ∀ a, a ∉ (ρ5'.hid D).all → a ≠ D := fun a n z => n (Rh.mem_hid.mpr (.inl z))
              refine ⟨⟨[], by simp⟩, fun a m => .inl m, fun a u n _ q => ?_, fun a u n _ q => by rw [upd_ne (ne a n)]; exact q⟩
              rcases q with q | ⟨o, q⟩
              · exact .inl (by rw [upd_ne (ne a n)]; exact q)
              · exact .inr ⟨o, by rw [upd_ne (ne a n)]; exact q⟩
            have E5 := (E'.trans e2').trans e5''
            have E6 : Ext ρ1 H1 ρ5' (upd H5 D (.lst (vs ++ [w]))) :=
              ⟨E5.out, E5.pre, fun a o u q => by rw [upd_ne (ne_of_none q hD)]; exact E5.lck a o u q, fun a u n q => by rw [upd_ne (ne_of_none q hD)]; exact E5.oth a u n q, fun a q => E5.dom a (upd_dom a q), E5.new⟩
            have R6 : Rel G (ρ5'.hid D) h5 (upd H5 D (.lst (vs ++ [w]))) :=
              ⟨R5.len, R5.nd, fun a m q => R5.there a m (upd_dom a q), R5.sep, fun n a o q r => (R5.obj n a o q r).move mo fun u z => by
                rw [upd_ne (fun e => m5 (Rh.mem_all.mpr (.inr (by rw [← e]; exact List.mem_of_getElem? q))))]; exact z⟩
            exact nx (acc ++ [y]) (vs ++ [w]) ρ5' h5 _ E6 R6 m5 upd_same ((S'.mono e25.toMo).mono mo) ((ra5.append (.cons rw5 .nil)).mono mo) f'
          · rw [if_neg hl] at f'
            exact f'.elim
  have E0 : Ext ρ1 H1 ρ1 (upd H1 D (.lst [])) := Ext.laid0 hD
  have R0 : Rel G (ρ1.hid D) h1 (upd H1 D (.lst [])) := R1.hid hD
  have S0 : SR G (ρ1.hid D) (upd H1 D (.lst [])) (wipeE σ (own.map (·.2))) (wipe τ (own.map (·.2))) := (S1.mono mo0).wipe hG _
  cases it with
  | vals xs =>
    obtain ⟨wC, wS', wG'⟩ := wk
    refine ⟨fun i m H' => ∃ ρ' h' acc vs, Ext ρ1 H1 ρ' H' ∧ Rel G (ρ'.hid D) h' H' ∧ D ∉ ρ'.all ∧ H' D = some (.lst vs) ∧ SR G (ρ'.hid D) H' (wipeE σ (own.map (·.2))) (wipe τ (own.map (·.2))) ∧ RepL G (ρ'.hid D) H' acc vs ∧ m = xs.length - i ∧ FinE G X τ ρ1 H1 (lcL g ft fe (wipeE σ (own.map (·.2))) (xs.drop i) acc h') (LK G ρ H Q),
      ⟨xs.length, ρ1, h1, [], [], E0, R0, m0, upd_same, S0, .nil, rfl, f1⟩, ?_⟩
    rintro i m H' ⟨ρ', h', acc, vs, E', R', m', l', S', ra, rfl, f'⟩
    have sx : Sx ρ1 H1 (ρ'.hid D) H' := ⟨⟨E'.pre, fun a q => by
      rcases Rh.mem_hid.mp q with z | z
      · subst z; exact .inr hD
      · exact E'.toMo.new a z, E'.toMo.rd, E'.toMo.sol⟩, E'.lck⟩
    have c' := wC _ _ _ _ c sx
    by_cases hi : i < xs.length
    · have hx : xs[i]? = some xs[i] := List.getElem?_eq_getElem hi
      obtain ⟨go, yl⟩ := wG' (ρ'.hid D) h' H' i _ R' c' hx
      refine .inr ⟨go, fun H2 => ∃ ρ2 h2 acc2 vs2, Ext ρ1 H1 ρ2 H2 ∧ Rel G (ρ2.hid D) h2 H2 ∧ D ∉ ρ2.all ∧ H2 D = some (.lst vs2) ∧ SR G (ρ2.hid D) H2 (wipeE σ (own.map (·.2))) (wipe τ (own.map (·.2))) ∧ RepL G (ρ2.hid D) H2 acc2 vs2 ∧ FinE G X τ ρ1 H1 (lcL g ft fe (wipeE σ (own.map (·.2))) (xs.drop (i + 1)) acc2 h2) (LK G ρ H Q),
        fun H2 ⟨ρ2, h2, acc2, vs2, a1, a2, a3, a4, a5, a6, a7⟩ => ⟨_, by omega, ρ2, h2, acc2, vs2, a1, a2, a3, a4, a5, a6, rfl, a7⟩, fun v H2 y => ?_⟩
      obtain ⟨e2, R2, r2⟩ := yl v H2 y
      obtain ⟨ρ9, e9, e2'⟩ := e2.hidden
      have e9' : ρ9 = ρ' := by
        cases ρ9; cases ρ'
        simp only [Rh.hid, Rh.mk.injEq, List.cons.injEq, true_and] at e9
        simp [e9.1, e9.2]
      subst e9'
      rw [List.drop_eq_getElem_cons hi] at f'
      simp only [lcL] at f'
      cases eg : g xs[i] (wipeE σ (own.map (·.2))) with
      | none => rw [eg] at f'; exact f'.elim
      | some σ1 =>
        rw [eg] at f'
        exact turn xs[i] v σ1 acc vs ρ9 h' H2 _ _ (E'.trans e2') R2 m' (e2.exact (fun z => m' (Rh.mem_all.mpr (.inr z))) rfl l') (S'.mono e2.toMo) (ra.mono e2.toMo) r2 eg f' fun acc2 vs2 ρ2 h2 H3 a1 a2 a3 a4 a5 a6 a7 => ⟨ρ2, h2, acc2, vs2, a1, a2, a3, a4, a5, a6, a7⟩
    · have hd : xs.drop i = [] := List.drop_eq_nil_of_le (by omega)
      rw [hd] at f'
      exact .inl ⟨wS' (ρ'.hid D) h' H' i R' c' (by omega), f' ρ' H' E' R'.unhid D vs hD0 m' l' R' ra⟩
  | dyn get =>
    obtain ⟨wC, wG'⟩ := wk
    refine ⟨fun i m H' => ∃ ρ' h' acc vs, Ext ρ1 H1 ρ' H' ∧ Rel G (ρ'.hid D) h' H' ∧ D ∉ ρ'.all ∧ H' D = some (.lst vs) ∧ SR G (ρ'.hid D) H' (wipeE σ (own.map (·.2))) (wipe τ (own.map (·.2))) ∧ RepL G (ρ'.hid D) H' acc vs ∧ FinE G X τ ρ1 H1 (lcN g ft fe (wipeE σ (own.map (·.2))) get m i acc h') (LK G ρ H Q),
      ⟨100001, ρ1, h1, [], [], E0, R0, m0, upd_same, S0, .nil, f1⟩, ?_⟩
    rintro i m H' ⟨ρ', h', acc, vs, E', R', m', l', S', ra, f'⟩
    have sx : Sx ρ1 H1 (ρ'.hid D) H' := ⟨⟨E'.pre, fun a q => by
      rcases Rh.mem_hid.mp q with z | z
      · subst z; exact .inr hD
      · exact E'.toMo.new a z, E'.toMo.rd, E'.toMo.sol⟩, E'.lck⟩
    have c' := wC _ _ _ _ c sx
    cases m with
    | zero => exact f'.elim
    | succ m =>
      obtain ⟨gs, gi⟩ := wG' (ρ'.hid D) h' H' i R' c'
      simp only [lcN] at f'
      cases ex : get h' i with
      | none => rw [ex] at f'; exact f'.elim
      | some ox =>
        rw [ex] at f'
        cases ox with
        | none => exact .inl ⟨gs ex, f' ρ' H' E' R'.unhid D vs hD0 m' l' R' ra⟩
        | some x =>
          obtain ⟨go, yl⟩ := gi x ex
          refine .inr ⟨go, fun H2 => ∃ ρ2 h2 acc2 vs2, Ext ρ1 H1 ρ2 H2 ∧ Rel G (ρ2.hid D) h2 H2 ∧ D ∉ ρ2.all ∧ H2 D = some (.lst vs2) ∧ SR G (ρ2.hid D) H2 (wipeE σ (own.map (·.2))) (wipe τ (own.map (·.2))) ∧ RepL G (ρ2.hid D) H2 acc2 vs2 ∧ FinE G X τ ρ1 H1 (lcN g ft fe (wipeE σ (own.map (·.2))) get m (i + 1) acc2 h2) (LK G ρ H Q),
            fun H2 ⟨ρ2, h2, acc2, vs2, a1, a2, a3, a4, a5, a6, a7⟩ => ⟨m, by omega, ρ2, h2, acc2, vs2, a1, a2, a3, a4, a5, a6, a7⟩, fun v H2 y => ?_⟩
          obtain ⟨e2, R2, r2⟩ := yl v H2 y
          obtain ⟨ρ9, e9, e2'⟩ := e2.hidden
          have e9' : ρ9 = ρ' := by
            cases ρ9; cases ρ'
            simp only [Rh.hid, Rh.mk.injEq, List.cons.injEq, true_and] at e9
            simp [e9.1, e9.2]
          subst e9'
          simp only at f'
          cases eg : g x (wipeE σ (own.map (·.2))) with
          | none => rw [eg] at f'; exact f'.elim
          | some σ1 =>
            rw [eg] at f'
            exact turn x v σ1 acc vs ρ9 h' H2 _ _ (E'.trans e2') R2 m' (e2.exact (fun z => m' (Rh.mem_all.mpr (.inr z))) rfl l') (S'.mono e2.toMo) (ra.mono e2.toMo) r2 eg f' fun acc2 vs2 ρ2 h2 H3 a1 a2 a3 a4 a5 a6 a7 => ⟨ρ2, h2, acc2, vs2, a1, a2, a3, a4, a5, a6, a7⟩

theorem rl_lc {elt tg iter : Expr} {ifs : List Expr} {scope : Scope} {own : List (Str × Nat)} {pos : Pos} {fi : ES → M IT} {g : EV → ES → Option ES} {ft : ES → M Bool} {fe : ES → M EV} (hG : G.Zf = true) (hN : X.N.Nodup) (hi : RI G X tg iter fi) (ok : BlkOk X.N X.env.scope scope own)
    (hg : ∀ s H C cl fp, RG G (blkX X s H scope C cl fp) tg (own.map (·.2)) g) (ht : ∀ s H C cl fp, RTs G (blkX X s H scope C cl fp) ifs ft) (he : ∀ s H C cl fp, RE G (blkX X s H scope C cl fp) elt fe)
    (hc : X.calm = true := by rfl) (hs : ∀ x, foldedSetIterable iter X.env x = pure x := by intro _; rfl) : RL G X (.ListComp elt [⟨tg, iter, ifs, 0⟩] scope pos) (lLc fi g ft fe (own.map (·.2))) := by
  intro σ h ρ τ H Q R S ff
  exact wE.of (pe_lc (g := gB X scope tg) (tt := tBk X scope ifs) (te := eB X scope elt) hc hN wI.pi ok (fun s H' C cl fp => ⟨fun pins s1 σ1 H1 v u Q1 I r q => q s H' C cl fp pins s1 u I r⟩) (fun s H' C cl fp => ⟨fun pins s1 σ1 H1 Q1 I q => q s H' C cl fp pins s1 I⟩)
    (fun s H' C cl fp => ⟨fun pins s1 σ1 H1 Q1 I q => q s H' C cl fp pins s1 I⟩) hs) (lc_read hG hi hg ht he R S ff)
/-- y = [..], where the name is stored within the comprehension's frame -/
theorem rs_setLc {i : Nat} {y : Str} {py : Pos} {elt tg iter : Expr} {ifs : List Expr} {scope : Scope} {own : List (Str × Nat)} {pos spos : Pos} {fi : ES → M IT} {g : EV → ES → Option ES} {ft : ES → M Bool} {fe : ES → M EV} (hG : G.Zf = true) (hN : X.N.Nodup)
    (hsw : swapsWith (.ListComp elt [⟨tg, iter, ifs, 0⟩] scope pos) (some (.Name y py)) spos.line X.env = pure true) (hi : RI G X tg iter fi) (ok : BlkOk X.N X.env.scope scope own)
    (hg : ∀ s H C cl fp, RG G (blkX X s H scope C cl fp) tg (own.map (·.2)) g) (ht : ∀ s H C cl fp, RTs G (blkX X s H scope C cl fp) ifs ft) (he : ∀ s H C cl fp, RE G (blkX X s H scope C cl fp) elt fe)
    (hy : X.N[i]? = some y := by rfl) (hyl : X.env.scope.names.lookup y = some .local := by rfl) (hc : X.calm = true := by rfl) (hs : ∀ x, foldedSetIterable iter X.env x = pure x := by intro _; rfl) :
    RS G X (.Assign [.Name y py] (.ListComp elt [⟨tg, iter, ifs, 0⟩] scope pos) spos) (sSet (gN i) (eNew (lLc fi g ft fe (own.map (·.2))))) := by
  intro σ h ρ τ H D R S ff
  refine wS.of (ps_setLc (g := gB X scope tg) (tt := tBk X scope ifs) (te := eB X scope elt) hc hN hy hyl hsw wI.pi ok (fun s H' C cl fp => ⟨fun pins s1 σ1 H1 v u Q1 I r q => q s H' C cl fp pins s1 u I r⟩) (fun s H' C cl fp => ⟨fun pins s1 σ1 H1 Q1 I q => q s H' C cl fp pins s1 I⟩)
    (fun s H' C cl fp => ⟨fun pins s1 σ1 H1 Q1 I q => q s H' C cl fp pins s1 I⟩) hs) ?_
  refine lc_read (Q := fun x H1 => gName i x τ H1 D.nx) hG hi hg ht he R S ?_
  refine FinE.mapOk (FinS.fl S ff) fun xs h1 ρ1 H1 e1 R1 f1 p vs hp m l Rp r => ?_
  have e2 : Ext ρ H (ρ1.add p) H1 := e1.adopt hp
  have R2 := Rp.adopt m l r
  have rp : Rep G (ρ1.add p) H1 (.ref h1.length) (.ref p) := .ref (by
    simp only [Rh.add]
    rw [← R1.len, List.getElem?_append_right (Nat.le_refl _)]
    simp)
  exact f1 (ρ1.add p) H1 e2 R2 _ _ _ Ext.refl R2 ((S.mono e2.toMo).set hG rp)
theorem rs_setLcV {i : Nat} {y : Str} {py : Pos} {elt tg iter : Expr} {ifs : List Expr} {scope : Scope} {own : List (Str × Nat)} {pos spos : Pos} {fi : ES → M IT} {g : EV → ES → Option ES} {ft : ES → M Bool} {fe : ES → M EV} (hG : G.Zf = true) (hN : X.N.Nodup)
    (hsw : swapsWith (.ListComp elt [⟨tg, iter, ifs, 0⟩] scope pos) (some (.Name y py)) spos.line X.env = pure true) (hi : RI G X tg iter fi) (ok : BlkOk X.N X.env.scope scope own)
    (hg : ∀ s H C cl fp, RG G (blkX X s H scope C cl fp) tg (own.map (·.2)) g) (ht : ∀ s H C cl fp, RTs G (blkX X s H scope C cl fp) ifs ft) (he : ∀ s H C cl fp, RE G (blkX X s H scope C cl fp) elt fe)
    (hy : X.N[i]? = some y := by rfl) (hyl : X.env.scope.names.lookup y = some .local := by rfl) (hc : X.calm = true := by rfl) (hs : ∀ x, foldedSetIterable iter X.env x = pure x := by intro _; rfl) :
    RS G X (.Assign [.Name y py] (.ListComp elt [⟨tg, iter, ifs, 0⟩] scope pos) spos) (sSet (gN i) (eVal (lLc fi g ft fe (own.map (·.2))))) := by
  intro σ h ρ τ H D R S ff
  refine wS.of (ps_setLc (g := gB X scope tg) (tt := tBk X scope ifs) (te := eB X scope elt) hc hN hy hyl hsw wI.pi ok (fun s H' C cl fp => ⟨fun pins s1 σ1 H1 v u Q1 I r q => q s H' C cl fp pins s1 u I r⟩) (fun s H' C cl fp => ⟨fun pins s1 σ1 H1 Q1 I q => q s H' C cl fp pins s1 I⟩)
    (fun s H' C cl fp => ⟨fun pins s1 σ1 H1 Q1 I q => q s H' C cl fp pins s1 I⟩) hs) ?_
  refine lc_read (Q := fun x H1 => gName i x τ H1 D.nx) hG hi hg ht he R S ?_
  refine FinE.mapOk (FinS.fl S ff) fun xs h1 ρ1 H1 e1 R1 f1 p vs hp m l Rp r => ?_
  unfold plst at f1
  split at f1
  · rename_i ps ep
    have rp : Rep G ρ1 H1 (.p (.lst ps)) (.ref p) := .p (.lst ⟨m, l⟩ ((r.plain ep).mono Mo.unhid))
    exact f1 ρ1 H1 e1 R1 _ _ _ Ext.refl R1 ((S.mono e1.toMo).set hG rp)
  · exact f1.elim

/-! ### defs -/
/-- a def follows a function -/
def spF (G : Wd) (n : Nat) (F : List EV → EH → Y.R EV) : Sp := fun vs H Q E => vs.length = n ∧ ∃ evs ρ h, Rel G ρ h H ∧ RepL G ρ H evs vs ∧ (match F evs h with
  | .ok v h' => ∀ ρ' H' x, Ext ρ H ρ' H' → Rel G ρ' h' H' → Rep G ρ' H' v x → Q x H'
  | .exc c fs h' => ∀ ρ' H' d, Ext ρ H ρ' H' → Rel G ρ' h' H' → ExAt G ρ' H' d fs → E (.ref (G.CA c)) (some d) H'
  | .stuck => False)
theorem SR.start {G : Wd} {ρ : Rh} {H : Hp} {evs : List EV} {vs : List V} {N : List Str} {k : Nat} (hG : G.Zf = true) (r : RepL G ρ H evs vs) (hk : N.length = k) : SR G ρ H (startE k evs) (L2.start N vs) := by
  have hl := r.length
  refine ⟨by simp [startE, L2.start, hl, hk], fun i v q => ?_, G.Zs hG _ _ _⟩
  unfold startE at q
  by_cases hi : i < (evs.map some).length
  · rw [List.getElem?_append_left hi, List.getElem?_map] at q
    cases e : evs[i]? with
    | none => rw [e] at q; cases q
    | some w =>
      rw [e] at q
      cases q
      obtain ⟨x, hx, rx⟩ := r.get e
      refine ⟨x, ?_, rx⟩
      unfold L2.start
      rw [List.getElem?_append_left (by rw [List.length_map, ← hl]; simpa using hi), List.getElem?_map, hx]
      rfl
  · rw [List.getElem?_append_right (by omega)] at q
    have := List.mem_of_getElem? q
    simp at this
theorem fn_ok {P : Program} {w : World} {mg : Str → Option Value} {base : Heap} {x qual : Str} {st : Stmt} {f : Addr} {fd : FuncData} {N ps : List Str} {k n m : Nat} {fb : ES → EH → FL} (hG : G.Zf = true) (F : Fun G.K x qual st f fd) (S : FnScope N ps (defScope st)) (hn : ps.length = n) (hm : N.length = m)
    (hb : ∀ (cdv : Value) (A : Around) (outer : List Env) (s : Shared) (H : Hp) (E : XK), Room k (A.deeper (envOfC qual (defScope st) s.heap.objs.size f cdv)) → RSs G (cxOf (L2.CX P w) P w G.K mg base N qual (defScope st) f cdv A outer s H E) (defBody st) fb) :
    FnOk P w G.K mg base (L2.CX P w) (k + 1) f fd ps (spF G n (fnF m fb)) := by
  refine F.okX S (fun vs H Q E h => h.1.trans hn.symm) (fun cdv A outer s H vs Q E hr h => ?_)
  obtain ⟨hl, evs, ρ, hh, R, r, q⟩ := h
  refine ⟨_, wSs.pss, ?_⟩
  refine hb cdv A outer s H E hr (startE m evs) hh ρ _ H _ R (SR.start hG r hm) ?_
  unfold fnF at q
  cases e : fb (startE m evs) hh with
  | nx σ' h' =>
    rw [e] at q
    exact fun ρ' H' τ' e' R' _ => q ρ' H' .non e' R' (.p .non)
  | rt v h' =>
    rw [e] at q
    exact fun ρ' H' x' e' R' r' => q ρ' H' x' e' R' r'
  | exc c fs σ' h' =>
    rw [e] at q
    exact ⟨_, takes_of rfl rfl rfl rfl, fun ρ' H' τ' d e' R' _ x' => q ρ' H' d e' R' x'⟩
  | bk σ' h' => rw [e] at q; exact q.elim
  | ct σ' h' => rw [e] at q; exact q.elim
  | stuck => rw [e] at q; exact q.elim
theorem passNo {τ : L2.St} : PassesAt (L2.CX X.prog X.w) X τ (fun _ _ _ => False) := fun _ _ _ _ _ _ h => by
  obtain ⟨_, _, _, _, _, _, _, _, _, _, _, _, z⟩ := h
  exact z.elim
/-- f(e, ..) -/
theorem re_call {F : List EV → EH → Y.R EV} {k n : Nat} {f : Addr} {fd : FuncData} {ps : List Str} {x : Str} {e : Expr} {es : List Expr} {fa : ES → M (List EV)} {p pos : Pos} (O : FnOk X.prog X.w X.K X.mg X.base (L2.CX X.prog X.w) k f fd ps (spF G n F)) (hr : Room k X.A) (hm : X.mg x = some (.ref f))
    (hk : PySem.W.keepIn X.K (.ref f) = true) (hb : Binds X.K fd ps []) (ha : RA G X (e :: es) fa) (hl : ∀ σ h vs h', fa σ h = .ok vs h' → vs.length = n) (hg : Gl X x := by rfl) (hdb : (x == ("__debug__" : Str)) = false := by decide) (he : starEach (e :: es) X.env = (false, eval e X.env) :: starEach es X.env := by first | exact star_cons rfl | rfl)
    (hpl : (backTo pos (starEach es X.env)).any (·.1) = false := by rfl) : RE G X (.Call (.Name x p) (e :: es) [] pos) (eFn F fa) := by
  intro σ h ρ τ H Q R S ff
  have ff' : FinE G X τ ρ H ((fa σ h).bind F) _ := ff
  cases ea : fa σ h with
  | stuck => rw [ea] at ff'; exact ff'.elim
  | exc c fs h' =>
    rw [ea] at ff'
    refine wE.of (pe_callS (E := fun σ => fun _ _ _ => False) O hr hg hm hk hb (fun _ => passNo) wA.pa hdb he hpl) ?_
    refine ha σ h ρ τ H _ R S ?_
    rw [ea]
    exact ff'
  | ok vs h1 =>
    rw [ea] at ff'
    have hvl := hl _ _ _ _ ea
    have ff2 : FinE G X τ ρ H (F vs h1) _ := ff'
    cases eF : F vs h1 with
    | stuck => rw [eF] at ff2; exact ff2.elim
    | ok v h2 =>
      rw [eF] at ff2
      refine wE.of (pe_callS (E := fun σ => fun _ _ _ => False) O hr hg hm hk hb (fun _ => passNo) wA.pa hdb he hpl) ?_
      refine ha σ h ρ τ H _ R S ?_
      rw [ea]
      intro ρ1 H1 e1 R1 xs rx
      refine ⟨by rw [← rx.length]; exact hvl, vs, ρ1, h1, R1, rx, ?_⟩
      rw [eF]
      exact fun ρ' H' x' e' R' r' => ff2 ρ' H' (e1.trans e') R' x' r'
    | exc c fs h2 =>
      rw [eF] at ff2
      obtain ⟨W, tk, ff3⟩ := ff2
      refine wE.of (pe_callS (E := L2.WE W) O hr hg hm hk hb (fun σ => passAt tk σ) wA.pa hdb he hpl) ?_
      refine ha σ h ρ τ H _ R S ?_
      rw [ea]
      intro ρ1 H1 e1 R1 xs rx
      refine ⟨by rw [← rx.length]; exact hvl, vs, ρ1, h1, R1, rx, ?_⟩
      rw [eF]
      exact fun ρ' H' d e' R' x' => ff3 ρ' H' d (e1.trans e') R' x'
/-- how many arguments a list of arguments gives -/
def ALen (fa : ES → M (List EV)) (n : Nat) : Prop := ∀ σ h vs h', fa σ h = .ok vs h' → vs.length = n
theorem al_nil : ALen aNil 0 := fun σ h vs h' e => by cases e; rfl
theorem al_cons {fa : ES → M EV} {fr : ES → M (List EV)} {n : Nat} (r : ALen fr n) : ALen (aCons fa fr) (n + 1) := fun σ h vs h' e => by
  dsimp only [aCons] at e
  cases e1 : fa σ h with
  | stuck => rw [e1] at e; cases e
  | exc c fs h2 => rw [e1] at e; cases e
  | ok x h2 =>
    rw [e1] at e
    simp only [R.bind] at e
    cases e2 : fr σ h2 with
    | stuck => rw [e2] at e; cases e
    | exc c fs h3 => rw [e2] at e; cases e
    | ok xs h3 =>
      rw [e2] at e
      simp only [R.bind] at e
      cases e
      simp [r σ h2 xs h' e2]
/-- a def of the text, by its name, that follows a function -/
structure Def (P : Program) (w : World) (G : Wd) (mg : Str → Option Value) (base : Heap) (k : Nat) (x : Str) (n : Nat) (F : List EV → EH → Y.R EV) : Prop where
  ex : ∃ f fd ps, FnOk P w G.K mg base (L2.CX P w) k f fd ps (spF G n F) ∧ mg x = some (.ref f) ∧ PySem.W.keepIn G.K (.ref f) = true ∧ Binds G.K fd ps []
theorem re_fn {F : List EV → EH → Y.R EV} {k j n : Nat} {x : Str} {e : Expr} {es : List Expr} {fa : ES → M (List EV)} {p pos : Pos} (D : Def X.prog X.w G X.mg X.base k x n F) (hr : Room j X.A) (hj : k ≤ j) (ha : RA G X (e :: es) fa) (hl : ALen fa n) (hK : X.K = G.K := by rfl) (hg : Gl X x := by rfl)
    (hdb : (x == ("__debug__" : Str)) = false := by decide) (he : starEach (e :: es) X.env = (false, eval e X.env) :: starEach es X.env := by first | exact star_cons rfl | rfl) (hpl : (backTo pos (starEach es X.env)).any (·.1) = false := by rfl) : RE G X (.Call (.Name x p) (e :: es) [] pos) (eFn F fa) := by
  obtain ⟨f, fd, ps, O, hm, hk, hb⟩ := D.ex
  exact re_call (n := n) (by rw [hK]; exact O) (hr.mono hj) hm (by rw [hK]; exact hk) (by rw [hK]; exact hb) ha hl hg hdb he hpl
end
end Y
end

section
/-! Y, subscripts, slices, stores. -/
namespace Y
open PySem PySem.Spec PyProof.Rows L2

def isDk : IN → Bool
  | .kd _ => true
  | .td _ => true
  | _ => false
def ixOf (q : IN) (y : EV) : Option EV := match q, y with
  | .tup xs, .p (.int i) => atI xs i
  | .lst xs, .p (.int i) => atI xs i
  | .sgn s, .p (.int i) => if s.length ≤ 100000 then (atI s i).map fun c => .p (.str [c]) else none
  | .kd kvs, .p k => (keyOf k).bind fun _ => dfind keq k kvs
  | .td kvs, .p k => (tkeyOf k).bind fun _ => dfind keqT k kvs
  | _, _ => none
def opIx (x y : EV) (h : EH) : Option (EV × EH) := (ixOf (inOf h x) y).map fun z => (z, h)
def cutE {α : Type} (xs : List α) (lo hi : Option Int) : List α := (xs.drop (HT.sIx xs.length 0 lo)).take (HT.sIx xs.length xs.length hi - HT.sIx xs.length 0 lo)
def opSl (v : EV) (lo hi : Option Int) (h : EH) : Option (EV × EH) := match v with
  | .p (.tup xs) => some (.p (.tup (cutE xs lo hi)), h)
  | .tup xs => some (mkTup (cutE xs lo hi), h)
  | .p (.str s) => if s.length ≤ 100000 then some (.p (.str (cutE s lo hi)), h) else none
  | .p (.lst xs) => some (.p (.lst (cutE xs lo hi)), h)
  | .p (.rol xs) => some (.p (.lst (cutE xs lo hi)), h)
  | .ref n => match h[n]? with
    | some (.lst xs) => (allP (cutE xs lo hi)).map fun ps => (.p (.lst ps), h)
    | _ => none
  | _ => none
def intOf (v : EV) (h : EH) : R (Option Int) := match v with
  | .p (.int i) => .ok (some i) h
  | _ => .stuck
def pNone : ES → M (Option Int) := fun _ h => .ok none h
def pSome (f : ES → M EV) : ES → M (Option Int) := fun σ h => (f σ h).bind intOf
def eSl (fe : ES → M EV) (fl fh : ES → M (Option Int)) : ES → M EV := fun σ h => (fe σ h).bind fun v h1 => (fl σ h1).bind fun lo h2 => (fh σ h2).bind fun hi h3 => R.lift (opSl v lo hi h3)
def R.opt {α : Type} (o : Option α) (h : EH) : R α := match o with
  | some a => .ok a h
  | none => .stuck
/-- a list, read -/
def listOf (h : EH) (v : EV) : Option (List EV) := match inOf h v with
  | .lst xs => some xs
  | _ => none
/-- .. cut, as a made list -/
def lSl (fe : ES → M EV) (fl fh : ES → M (Option Int)) : ES → M (List EV) := fun σ h => (fe σ h).bind fun v h1 => (fl σ h1).bind fun lo h2 => (fh σ h2).bind fun hi h3 => R.opt ((listOf h3 v).map fun xs => cutE xs lo hi) h3

section
variable {G : Wd} {X : Cx}
/-! ### two parts whose values are known -/
theorem RE.run {a : Expr} {fa : ES → M EV} (ha : RE G X a fa) {σ : ES} {h h1 : EH} {ρ : Rh} {τ : L2.St} {H : Hp} {x : EV} (R : Rel G ρ h H) (S : SR G ρ H σ τ) (e0 : fa σ h = .ok x h1) {k : VK}
    (hk : ∀ ρ1 H1 v, Ext ρ H ρ1 H1 → Rel G ρ1 h1 H1 → Rep G ρ1 H1 x v → k v H1) : wE X a τ H k := by
  refine ha σ h ρ τ H k R S ?_
  rw [e0]
  exact fun ρ1 H1 e1 R1 w rw' => hk ρ1 H1 w e1 R1 rw'
theorem RE.fail {a : Expr} {fa : ES → M EV} (ha : RE G X a fa) {α : Type} {σ : ES} {h : EH} {ρ : Rh} {τ : L2.St} {H : Hp} {g : EV → EH → Y.R α} {k : VK} {k' : α → EH → Rh → Hp → Prop} (R : Rel G ρ h H) (S : SR G ρ H σ τ) (f : FinE G X τ ρ H ((fa σ h).bind g) k') (no : ∀ x h1, fa σ h ≠ .ok x h1) : wE X a τ H k := by
  refine ha σ h ρ τ H k R S ?_
  cases e : fa σ h with
  | ok x h1 => exact absurd e (no x h1)
  | exc c fs h1 => rw [e] at f; exact f
  | stuck => rw [e] at f; exact f
/-- both parts evaluated: what follows from their values; t is a way that begins with both -/
theorem two_run {a b : Expr} {fa fb : ES → M EV} (ha : RE G X a fa) (hb : RE G X b fb) {σ : ES} {h h1 h2 : EH} {ρ : Rh} {τ : L2.St} {H : Hp} {x y : EV} (R : Rel G ρ h H) (S : SR G ρ H σ τ) (e0 : fa σ h = .ok x h1) (e1 : fb σ h1 = .ok y h2) {T : V → V → Hp → Prop}
    (hk : ∀ ρ2 H2 v u, Ext ρ H ρ2 H2 → Rel G ρ2 h2 H2 → Rep G ρ2 H2 x v → Rep G ρ2 H2 y u → T v u H2) : wE X a τ H fun v H1 => wE X b τ H1 fun u H2 => T v u H2 :=
  ha.run R S e0 fun ρ1 H1 v x1 R1 rv => hb.run R1 (S.mono x1.toMo) e1 fun ρ2 H2 u x2 R2 ru => hk ρ2 H2 v u (x1.trans x2) R2 (rv.mono x2.toMo) ru
/-- .. or one of them ends otherwise -/
theorem two_fail {a b : Expr} {fa fb : ES → M EV} (ha : RE G X a fa) (hb : RE G X b fb) {α : Type} {σ : ES} {h : EH} {ρ : Rh} {τ : L2.St} {H : Hp} {g : EV → EV → EH → Y.R α} {k : α → EH → Rh → Hp → Prop} {T : V → V → Hp → Prop} (R : Rel G ρ h H) (S : SR G ρ H σ τ)
    (f : FinE G X τ ρ H ((fa σ h).bind fun x h1 => (fb σ h1).bind fun y h2 => g x y h2) k) (no : ¬ ∃ x h1 y h2, fa σ h = .ok x h1 ∧ fb σ h1 = .ok y h2) : wE X a τ H fun v H1 => wE X b τ H1 fun u H2 => T v u H2 := by
  cases e : fa σ h with
  | ok x h1 =>
    refine ha.run R S e fun ρ1 H1 v x1 R1 rv => ?_
    rw [e] at f
    exact hb.fail R1 (S.mono x1.toMo) (FinE.start x1 f) fun y h2 e2 => no ⟨x, h1, y, h2, e, e2⟩
  | exc c fs h1 => exact ha.fail R S f fun x h1 q => by rw [e] at q; cases q
  | stuck => exact ha.fail R S f fun x h1 q => by rw [e] at q; cases q

/-! ### subscripts -/
def wX (X : Cx) (a b : Expr) : R2 := fun x y H Q => ∀ pins s σ v u, Inv X pins σ H s → RelV x v → RelV y u → wpAny (model X.prog X.w) X.A (subscriptTail a b v u) (EP X pins σ Q) X.xe s
theorem pe_sub {a b : Expr} {ta tb : TE} {pos : Pos} (ha : PE X a ta) (hb : PE X b tb) : PE X (.Subscript a b pos) (tOp (wX X a b) ta tb) := by
  refine ⟨fun pins s σ H Q I h => ?_⟩
  exact Subscript_ (binT ha hb I h fun v u s2 x y H2 I2 rx ry q => q pins s2 σ v u I2 rx ry)
theorem wX.ix {a b : Expr} {r : R2} {x y : V} {H : Hp} {Q : VK} (hr : IxR X r) (hs : PlainIx b) (h : r x y H Q) : wX X a b x y H Q := fun pins s σ v u I rx ry => hr a b pins s σ H x y v u Q I rx ry h (hs _ _)
theorem atI_rep {ρ : Rh} {H : Hp} {xs : List EV} {vs : List V} {i : Int} {x : EV} (r : RepL G ρ H xs vs) (e : atI xs i = some x) : ∃ v, atI vs i = some v ∧ Rep G ρ H x v := by
  unfold atI at e ⊢
  rw [← r.length]
  cases e1 : ixN xs.length i with
  | none => rw [e1] at e; cases e
  | some j =>
    rw [e1] at e
    obtain ⟨v, h1, h2⟩ := r.get e
    exact ⟨v, h1, h2⟩
theorem atI_mem {α : Type} {xs : List α} {i : Int} {x : α} (e : atI xs i = some x) : x ∈ xs := by
  unfold atI at e
  cases e1 : ixN xs.length i with
  | none => rw [e1] at e; cases e
  | some j => rw [e1] at e; exact List.mem_of_getElem? e
theorem re_sub {k0 : Nat} {a b : Expr} {fa fb : ES → M EV} {pos : Pos} (hr : Room k0 X.A) (ha : RE G X a fa) (hb : RE G X b fb) (hs : PlainIx b := by exact fun _ _ => rfl) (hs2 : NoSl b := by exact fun _ _ => rfl) (hK : X.K = G.K := by rfl) : RE G X (.Subscript a b pos) (eOp opIx fa fb) := by
  intro σ h ρ τ H Q R S f
  by_cases ok : ∃ x h1 y h2, fa σ h = .ok x h1 ∧ fb σ h1 = .ok y h2
  · obtain ⟨x, h1, y, h2, e0, e1⟩ := ok
    have f' : FinE G X τ ρ H (Y.R.lift (opIx x y h2)) (fun v _ ρ' H' => ∀ x, Rep G ρ' H' v x → Q x H') := by
      have f0 := f
      dsimp only [eOp] at f0
      rw [e0] at f0
      simp only [Y.R.bind] at f0
      rw [e1] at f0
      exact f0
    obtain ⟨z, h3, e3, f3⟩ := FinE.lift f'
    unfold opIx at e3
    cases ei : ixOf (inOf h2 x) y with
    | none => rw [ei] at e3; cases e3
    | some z' =>
      rw [ei] at e3; cases e3
      cases ek : inOf h2 x with
      | tup xs =>
        refine wE.of (pe_sub wE.pe wE.pe) (two_run (T := fun v u H2 => wX X a b v u H2 Q) ha hb R S e0 e1 fun ρ2 H2 v u x2 R2 rv ru => ?_)
        have ir := inOf_rep R2 rv
        rw [ek] at ir ei
        obtain ⟨p, vs, rfl, sq, rr⟩ := ir
        unfold ixOf at ei
        split at ei
        · rename_i e9; cases e9
          obtain rfl := rep_int ru
          obtain ⟨w, h4, r4⟩ := atI_rep rr ei
          exact wX.ix ix_tup hs ⟨p, vs, _, w, rfl, rfl, by rw [hK]; exact sq, h4, f3 ρ2 H2 x2 R2 w r4⟩
        · rename_i e9; cases e9
        · rename_i e9; cases e9
        · rename_i e9; cases e9
        · rename_i e9; cases e9
        · cases ei
      | lst xs =>
        refine wE.of (pe_sub wE.pe wE.pe) (two_run (T := fun v u H2 => wX X a b v u H2 Q) ha hb R S e0 e1 fun ρ2 H2 v u x2 R2 rv ru => ?_)
        have ir := inOf_rep R2 rv
        rw [ek] at ir ei
        obtain ⟨p, vs, rfl, sq, rr⟩ := ir
        unfold ixOf at ei
        split at ei
        · rename_i e9; cases e9
        · rename_i e9; cases e9
          obtain rfl := rep_int ru
          obtain ⟨w, h4, r4⟩ := atI_rep rr ei
          exact wX.ix ix_list hs ⟨p, vs, _, w, rfl, rfl, by rw [hK]; exact sq, h4, f3 ρ2 H2 x2 R2 w r4⟩
        · rename_i e9; cases e9
        · rename_i e9; cases e9
        · rename_i e9; cases e9
        · cases ei
      | sgn t =>
        refine wE.of (pe_sub wE.pe wE.pe) (two_run (T := fun v u H2 => wX X a b v u H2 Q) ha hb R S e0 e1 fun ρ2 H2 v u x2 R2 rv ru => ?_)
        have ir := inOf_rep R2 rv
        have so : SOk t := by
          cases x with
          | p pv =>
            cases pv with
            | str s => simp only [inOf] at ek; cases ek; exact (rep_str rv).2
            | _ => simp only [inOf] at ek; cases ek
          | tup xs => simp only [inOf] at ek; cases ek
          | ref n => simp only [inOf] at ek; split at ek <;> cases ek
        rw [ek] at ir ei
        obtain rfl : v = .str (toS t) := ir
        unfold ixOf at ei
        split at ei
        · rename_i e9; cases e9
        · rename_i e9; cases e9
        · rename_i e9; cases e9
          obtain rfl := rep_int ru
          split at ei
          · rename_i i hl
            cases e4 : atI t i with
            | none => rw [e4] at ei; cases ei
            | some c =>
              rw [e4] at ei; cases ei
              refine wX.ix ix_str hs ⟨toS t, i, c, rfl, rfl, sz_ok hl, e4, f3 ρ2 H2 x2 R2 _ (.p (.str (s := [c]) fun d m => ?_))⟩
              have : d = c := by simpa using m
              subst this; exact so d (atI_mem e4)
          · cases ei
        · rename_i e9; cases e9
        · rename_i e9; cases e9
        · cases ei
      | kd kvs =>
        refine wE.of (pe_dget (by have := hr.un; omega) wE.pe wE.pe hs2) (two_run (T := fun v u H2 => ∃ a w, v = .ref a ∧ DGet H2 a u (some w) ∧ Q w H2) ha hb R S e0 e1 fun ρ2 H2 v u x2 R2 rv ru => ?_)
        have ir := inOf_rep R2 rv
        rw [ek] at ir ei
        obtain ⟨p, ws, rfl, sq, rr⟩ := ir
        unfold ixOf at ei
        split at ei
        · rename_i e9; cases e9
        · rename_i e9; cases e9
        · rename_i e9; cases e9
        · rename_i k e9; cases e9
          cases eκ : keyOf k with
          | none => rw [eκ] at ei; cases ei
          | some κ =>
            rw [eκ] at ei
            obtain rfl := key_rep (rep_p ru) eκ
            obtain ⟨w, h4, r4⟩ := (RepP.find (kf := keyOf) (fun a b k j => keq_iff) eκ rr).1 _ ei
            exact ⟨p, w, rfl, .inl ⟨ws, κ, sq, rfl, h4.symm⟩, f3 ρ2 H2 x2 R2 w r4⟩
        · rename_i e9; cases e9
        · cases ei
      | td kvs =>
        refine wE.of (pe_dget (by have := hr.un; omega) wE.pe wE.pe hs2) (two_run (T := fun v u H2 => ∃ a w, v = .ref a ∧ DGet H2 a u (some w) ∧ Q w H2) ha hb R S e0 e1 fun ρ2 H2 v u x2 R2 rv ru => ?_)
        have ir := inOf_rep R2 rv
        rw [ek] at ir ei
        obtain ⟨p, ws, rfl, sq, rr⟩ := ir
        unfold ixOf at ei
        split at ei
        · rename_i e9; cases e9
        · rename_i e9; cases e9
        · rename_i e9; cases e9
        · rename_i e9; cases e9
        · rename_i k e9; cases e9
          cases eκ : tkeyOf k with
          | none => rw [eκ] at ei; cases ei
          | some κ =>
            rw [eκ] at ei
            obtain ⟨b, rfl, _, hb⟩ := tkey_rep (rep_p ru) eκ
            obtain ⟨w, h4, r4⟩ := (RepP.find (kf := tkeyOf) (fun a b k j => keqT_iff) eκ rr).1 _ ei
            exact ⟨p, w, rfl, .inr ⟨ws, κ, b, sq, rfl, hb, h4.symm⟩, f3 ρ2 H2 x2 R2 w r4⟩
        · cases ei
      | no => rw [ek] at ei; cases ei
  · exact wE.of (pe_sub wE.pe wE.pe) (two_fail (T := fun v u H2 => wX X a b v u H2 Q) ha hb R S f ok)

/-! ### slices -/
def wP (X : Cx) (e : Option Expr) : TO := fun σ H Q => ∀ pins s, Inv X pins σ H s → wpAny (model X.prog X.w) X.A (evalPart e X.env) (fun u s' => ∃ o H', Inv X pins σ H' s' ∧ IsPart u o ∧ Q o H') X.xe s
theorem wP.po {e : Option Expr} : PO X e (wP X e) := ⟨fun pins s _ _ _ I h => h pins s I⟩
theorem wP.of {e : Option Expr} {t : TO} {σ : L2.St} {H : Hp} {Q : Option Int → Hp → Prop} (p : PO X e t) (h : t σ H Q) : wP X e σ H Q := fun pins s I => p.run pins s σ H Q I h
variable (G X) in
def RP (e : Option Expr) (f : ES → M (Option Int)) : Prop := ∀ (σ : ES) (h : EH) (ρ : Rh) (τ : L2.St) (H : Hp) (Q : Option Int → Hp → Prop), Rel G ρ h H → SR G ρ H σ τ →
  FinE G X τ ρ H (f σ h) (fun o _ _ H' => Q o H') → wP X e τ H Q
theorem rp_none : RP G X none pNone := fun σ h ρ τ H Q R S f => wP.of po_none (f ρ H Ext.refl R)
theorem rp_some {e : Expr} {f : ES → M EV} (he : RE G X e f) : RP G X (some e) (pSome f) := by
  intro σ h ρ τ H Q R S ff
  refine wP.of (po_some wE.pe) ?_
  refine he σ h ρ τ H _ R S (FinE.imp (FinE.bind ff) fun v h1 ρ1 H1 e1 R1 f1 w rw' => ?_)
  unfold intOf at f1
  split at f1
  · obtain rfl := rep_int rw'
    exact ⟨_, rfl, f1 ρ1 H1 Ext.refl R1⟩
  · exact f1.elim
theorem cutE_rep {ρ : Rh} {H : Hp} {xs : List EV} {vs : List V} (r : RepL G ρ H xs vs) (lo hi : Option Int) : RepL G ρ H (cutE xs lo hi) (cutV vs lo hi) := by
  unfold cutE cutV
  rw [← r.length]
  exact (r.drop _).take _
theorem cutE_whole {α : Type} {xs : List α} {lo hi : Option Int} (h : HT.sIx xs.length 0 lo = 0 ∧ HT.sIx xs.length xs.length hi = xs.length) : cutE xs lo hi = xs := by
  unfold cutE
  rw [h.1, h.2]
  simp
theorem cutE_map {α β : Type} (f : α → β) (xs : List α) (lo hi : Option Int) : cutE (xs.map f) lo hi = (cutE xs lo hi).map f := by
  unfold cutE
  simp [List.map_drop, List.map_take]
theorem cutE_mem {α : Type} {xs : List α} {lo hi : Option Int} {x : α} (m : x ∈ cutE xs lo hi) : x ∈ xs := List.mem_of_mem_drop (List.mem_of_mem_take m)
theorem toS_length (l : List Nat) : (toS l).length = l.length := by simp [toS, Str.length]
theorem cutS_toS (l : List Nat) (lo hi : Option Int) : cutS (toS l) lo hi = toS (cutE l lo hi) := by
  unfold cutS cutE
  rw [toS_length, toS_list]
  rfl
theorem re_sl {e : Expr} {lo hi : Option Expr} {fe : ES → M EV} {fl fh : ES → M (Option Int)} {p2 pos : Pos} (he : RE G X e fe) (hl : RP G X lo fl) (hh : RP G X hi fh) (hK : X.K = G.K := by rfl) : RE G X (.Subscript e (.Slice lo hi none p2) pos) (eSl fe fl fh) := by
  intro σ h ρ τ H Q R S f
  refine wE.of (pe_slice (sl_list.or (sl_tupA.or sl_str)) wE.pe wP.po wP.po) ?_
  refine he σ h ρ τ H _ R S (FinE.imp (FinE.bind f) fun v h1 ρ1 H1 e1 R1 f1 w rv => ?_)
  refine hl σ h1 ρ1 τ H1 _ R1 (S.mono e1.toMo) (FinE.imp (FinE.bind f1) fun l h2 ρ2 H2 e2 R2 f2 => ?_)
  refine hh σ h2 ρ2 τ H2 _ R2 ((S.mono e1.toMo).mono e2.toMo) (FinE.imp (FinE.bind f2) fun u h3 ρ3 H3 e3 R3 f3 => ?_)
  obtain ⟨z, h4, e4, f4⟩ := FinE.lift f3
  have rv := (rv.mono e2.toMo).mono e3.toMo
  have tup : ∀ xs p vs, TpV ρ3 H3 p vs → RepL G ρ3 H3 xs vs → w = .ref p → (∀ w', Rep G ρ3 H3 (mkTup xs) w' → True) → (mkTup (cutE xs l u), h3) = (z, h4) → (∃ a zs, w = .ref a ∧ SqT X.K H3 a zs ∧ ((HT.sIx zs.length 0 l = 0 ∧ HT.sIx zs.length zs.length u = zs.length) → Q (.ref a) H3) ∧ (¬ (HT.sIx zs.length 0 l = 0 ∧ HT.sIx zs.length zs.length u = zs.length) → ∀ t, H3 t = none → Q (.ref t) (upd H3 t (.tup (cutV zs l u))))) := by
    intro xs p vs q r ew _ ez
    cases ez
    subst ew
    refine ⟨p, vs, rfl, by rw [hK]; exact q.sq, fun hw => ?_, fun hw t ht => ?_⟩
    · rw [← r.length] at hw
      have f5 := f4 ρ3 H3 Ext.refl R3
      rw [cutE_whole hw] at f5
      exact f5 _ (mkTup_rep q r)
    · obtain ⟨a1, a2, a3⟩ := new_tup R3 ht (cutE_rep r l u)
      exact f4 ρ3 _ a1 a2 _ a3
  unfold opSl at e4
  split at e4
  · cases rep_p rv with
    | @tup p vs _ q r =>
      refine .inr (.inl (tup _ p vs q r.lift rfl (fun _ _ => trivial) ?_))
      rw [cutE_map]
      unfold mkTup
      rw [allP_map]
      exact Option.some.inj e4
  · cases rv with
    | @tup p vs _ q r => exact .inr (.inl (tup _ p vs q r rfl (fun _ _ => trivial) (Option.some.inj e4)))
  · rename_i s
    split at e4
    · rename_i hl'
      cases e4
      obtain ⟨rfl, so⟩ := rep_str rv
      refine .inr (.inr ⟨_, rfl, by rw [toS_length]; exact sz_ok hl', ?_⟩)
      rw [cutS_toS]
      exact f4 ρ3 H3 Ext.refl R3 _ (.p (.str fun c m => so c (cutE_mem m)))
    · cases e4
  · cases e4
    cases rep_p rv with
    | @lst p vs _ q r =>
      refine .inl ⟨p, vs, rfl, by rw [hK]; exact q.sq, fun t ht => ?_⟩
      obtain ⟨a1, a2, a3⟩ := new_plist R3 ht (cutE_rep r.lift l u) (by rw [cutE_map]; exact allP_map _)
      exact f4 _ _ a1 a2 _ a3
  · cases e4
    cases rep_p rv with
    | @rol p vs _ q r =>
      refine .inl ⟨p, vs, rfl, by rw [hK]; exact q.sq, fun t ht => ?_⟩
      obtain ⟨a1, a2, a3⟩ := new_plist R3 ht (cutE_rep r.lift l u) (by rw [cutE_map]; exact allP_map _)
      exact f4 _ _ a1 a2 _ a3
  · split at e4
    · rename_i xs eo
      cases ep : allP (cutE xs l u) with
      | none => rw [ep] at e4; cases e4
      | some ps =>
        rw [ep] at e4; cases e4
        obtain ⟨p, rfl, qa, vs, hv, r⟩ := getref R3 rv eo
        refine .inl ⟨p, vs, rfl, .inl (.inl hv), fun t ht => ?_⟩
        obtain ⟨a1, a2, a3⟩ := new_plist R3 ht (cutE_rep r l u) ep
        exact f4 _ _ a1 a2 _ a3
    · cases e4
  · cases e4
theorem opt_fin {α : Type} {τ : L2.St} {ρ : Rh} {H : Hp} {o : Option α} {h : EH} {k : α → EH → Rh → Hp → Prop} (f : FinE G X τ ρ H (R.opt o h) k) : ∃ a, o = some a ∧ ∀ ρ' H', Ext ρ H ρ' H' → Rel G ρ' h H' → k a h ρ' H' := by
  cases o with
  | none => exact f.elim
  | some a => exact ⟨a, rfl, f⟩
theorem list_rep {ρ : Rh} {h : EH} {H : Hp} {v : EV} {w : V} {xs : List EV} (R : Rel G ρ h H) (r : Rep G ρ H v w) (e : listOf h v = some xs) : ∃ a vs, w = .ref a ∧ SqL G.K H a vs ∧ RepL G ρ H xs vs := by
  unfold listOf at e
  have ir := inOf_rep R r
  split at e
  · rename_i ys ek
    cases e
    rw [ek] at ir
    exact ir
  · cases e
theorem rl_sl {e : Expr} {lo hi : Option Expr} {fe : ES → M EV} {fl fh : ES → M (Option Int)} {p2 pos : Pos} (he : RE G X e fe) (hl : RP G X lo fl) (hh : RP G X hi fh) (hK : X.K = G.K := by rfl) : RL G X (.Subscript e (.Slice lo hi none p2) pos) (lSl fe fl fh) := by
  intro σ h ρ τ H Q R S f
  refine wE.of (pe_slice sl_list wE.pe wP.po wP.po) ?_
  refine he σ h ρ τ H _ R S (FinE.imp (FinE.bind f) fun v h1 ρ1 H1 e1 R1 f1 w rv => ?_)
  refine hl σ h1 ρ1 τ H1 _ R1 (S.mono e1.toMo) (FinE.imp (FinE.bind f1) fun l h2 ρ2 H2 e2 R2 f2 => ?_)
  refine hh σ h2 ρ2 τ H2 _ R2 ((S.mono e1.toMo).mono e2.toMo) (FinE.imp (FinE.bind f2) fun u h3 ρ3 H3 e3 R3 f3 => ?_)
  obtain ⟨zs, eo, f4⟩ := opt_fin f3
  cases el : listOf h3 v with
  | none => rw [el] at eo; cases eo
  | some xs =>
    rw [el] at eo; cases eo
    obtain ⟨a, vs, rfl, sq, rr⟩ := list_rep R3 ((rv.mono e2.toMo).mono e3.toMo) el
    refine ⟨a, vs, rfl, by rw [hK]; exact sq, fun t ht => ?_⟩
    exact LK.laid ht (e1.dom t (e2.dom t (e3.dom t ht))) R3 (cutE_rep rr l u) (f4 ρ3 _ (Ext.laid0 ht) (R3.aside ht))

/-! ### xs[i] = e, d[k] = e -/
def isDict (h : EH) : EV → Bool
  | .ref n => match h[n]? with
    | some (.dK _) => true
    | some (.dT _) => true
    | _ => false
  | _ => false
def putIx (o i v : EV) (h : EH) : Option EH := match o, i with
  | .ref n, .p k => match h[n]? with
    | some (.lst xs) => match k with
      | .int k => (ixN xs.length k).map fun j => h.set n (.lst (xs.set j v))
      | _ => none
    | some (.dK kvs) => if kvs.length < 100000 then (keyOf k).map fun _ => h.set n (.dK (dput keq k v kvs)) else none
    | some (.dT kvs) => if kvs.length < 100000 then (tkeyOf k).map fun _ => h.set n (.dT (dput keqT k v kvs)) else none
    | _ => none
  | _, _ => none
def sSub (fe fo fi : ES → M EV) : ES → EH → FL := fun σ h => (fe σ h).fl σ fun v h1 => (fo σ h1).fl σ fun o h2 => (fi σ h2).fl σ fun i h3 => match putIx o i v h3 with
  | some h4 => .nx σ h4
  | none => .stuck
theorem RepP.any {κ : Type} [DecidableEq κ] {kf : PV → Option κ} {f : PV → PV → Bool} (hf : ∀ a b k j, kf a = some k → kf b = some j → f a b = decide (k = j)) {ρ : Rh} {H : Hp} {d : PV} {k : κ} (hk : kf d = some k) :
    ∀ {xs : List (PV × EV)} {vs : List (κ × V)}, RepP kf G ρ H xs vs → (xs.any fun kv => f kv.1 d) = (vs.any fun kv => decide (kv.1 = k))
  | _, _, .nil => rfl
  | _, _, .cons hj a b => by
    simp only [List.any_cons]
    rw [RepP.any hf hk b, hf _ _ _ _ hj.1 hk]
theorem RepP.mapk {κ : Type} [DecidableEq κ] {kf : PV → Option κ} {f : PV → PV → Bool} (hf : ∀ a b k j, kf a = some k → kf b = some j → f a b = decide (k = j)) {ρ : Rh} {H : Hp} {d : PV} {k : κ} {x : EV} {v : V} (hk : kf d = some k) (r : Rep G ρ H x v) :
    ∀ {xs : List (PV × EV)} {vs : List (κ × V)}, RepP kf G ρ H xs vs → RepP kf G ρ H (xs.map fun kv => match f kv.1 d with | true => (kv.1, x) | false => kv) (vs.map fun kv => if kv.1 = k then (kv.1, v) else kv)
  | _, _, .nil => .nil
  | _, _, .cons (q := κ') hj a b => by
    simp only [List.map_cons]
    rw [hf _ _ _ _ hj.1 hk]
    by_cases e : κ' = k
    · simp only [e, decide_true, if_true]
      exact .cons (e ▸ hj) r (RepP.mapk hf hk r b)
    · simp only [e, decide_false, if_false]
      exact .cons hj a (RepP.mapk hf hk r b)
theorem RepP.append {κ : Type} {kf : PV → Option κ} {ρ : Rh} {H : Hp} : ∀ {xs ys : List (PV × EV)} {vs ws : List (κ × V)}, RepP kf G ρ H xs vs → RepP kf G ρ H ys ws → RepP kf G ρ H (xs ++ ys) (vs ++ ws)
  | _, _, _, _, .nil, s => s
  | _, _, _, _, .cons k r t, s => .cons k r (RepP.append t s)
theorem RepP.put {κ : Type} [DecidableEq κ] {kf : PV → Option κ} {f : PV → PV → Bool} (hf : ∀ a b k j, kf a = some k → kf b = some j → f a b = decide (k = j)) {ρ : Rh} {H : Hp} {d : PV} {k : κ} {x : EV} {v : V} {xs : List (PV × EV)} {vs : List (κ × V)} (hk : kf d = some k) (ko : KOk d) (b : RepP kf G ρ H xs vs) (r : Rep G ρ H x v) : RepP kf G ρ H (dput f d x xs) (putK vs k v) := by
  unfold dput putK
  rw [← RepP.any hf hk b]
  cases xs.any fun kv => f kv.1 d with
  | true => simp only [if_true]; exact b.mapk hf hk r
  | false => simp only [Bool.false_eq_true, if_false]; exact b.append (.cons ⟨hk, ko⟩ r .nil)
theorem RepP.length {κ : Type} {kf : PV → Option κ} {ρ : Rh} {H : Hp} : ∀ {xs : List (PV × EV)} {vs : List (κ × V)}, RepP kf G ρ H xs vs → xs.length = vs.length
  | _, _, .nil => rfl
  | _, _, .cons _ _ b => by simp [RepP.length b]
/-- a store into a dict of ours -/
theorem put_dK {ρ : Rh} {h : EH} {H : Hp} {n : Nat} {a : Addr} {kvs : List (PV × EV)} {k : PV} {κ : Key} {x : EV} {v : V} (R : Rel G ρ h H) (qa : ρ.loc[n]? = some a) (eo : h[n]? = some (.dK kvs)) (hk : keyOf k = some κ) (ko : KOk k) (rx : Rep G ρ H x v) :
    ∃ ws, H a = some (.dK ws) ∧ kvs.length = ws.length ∧ Ext ρ H ρ (upd H a (.dK (putK ws κ v))) ∧ Rel G ρ (h.set n (.dK (dput keq k x kvs))) (upd H a (.dK (putK ws κ v))) := by
  obtain ⟨ws, hw, rw'⟩ := R.obj n a _ qa eo
  have ex := Ext.write (u := .dK (putK ws κ v)) qa (R.obj n a _ qa eo) rfl
  exact ⟨ws, hw, rw'.length, ex, R.write qa eo ⟨_, upd_same, (RepP.put (kf := keyOf) (fun a b k j => keq_iff) hk ko rw' rx).mono ex.toMo⟩ rfl⟩
theorem put_dT {ρ : Rh} {h : EH} {H : Hp} {n : Nat} {a : Addr} {kvs : List (PV × EV)} {k : PV} {κ : List Key} {x : EV} {v : V} (R : Rel G ρ h H) (qa : ρ.loc[n]? = some a) (eo : h[n]? = some (.dT kvs)) (hk : tkeyOf k = some κ) (ko : KOk k) (rx : Rep G ρ H x v) :
    ∃ ws, H a = some (.dT ws) ∧ kvs.length = ws.length ∧ Ext ρ H ρ (upd H a (.dT (putK ws κ v))) ∧ Rel G ρ (h.set n (.dT (dput keqT k x kvs))) (upd H a (.dT (putK ws κ v))) := by
  obtain ⟨ws, hw, rw'⟩ := R.obj n a _ qa eo
  have ex := Ext.write (u := .dT (putK ws κ v)) qa (R.obj n a _ qa eo) rfl
  exact ⟨ws, hw, rw'.length, ex, R.write qa eo ⟨_, upd_same, (RepP.put (kf := tkeyOf) (fun a b k j => keqT_iff) hk ko rw' rx).mono ex.toMo⟩ rfl⟩
/-- three parts, evaluated; behind them a statement -/
theorem three_run {a b c : Expr} {fa fb fc : ES → M EV} (ha : RE G X a fa) (hb : RE G X b fb) (hc : RE G X c fc) {σ : ES} {h h1 h2 h3 : EH} {ρ : Rh} {τ : L2.St} {H : Hp} {x y z : EV} (R : Rel G ρ h H) (S : SR G ρ H σ τ) (e0 : fa σ h = .ok x h1) (e1 : fb σ h1 = .ok y h2) (e2 : fc σ h2 = .ok z h3) {T : V → V → V → Hp → Prop}
    (hk : ∀ ρ2 H2 v u w, Ext ρ H ρ2 H2 → Rel G ρ2 h3 H2 → SR G ρ2 H2 σ τ → Rep G ρ2 H2 x v → Rep G ρ2 H2 y u → Rep G ρ2 H2 z w → T v u w H2) : wE X a τ H fun v H1 => wE X b τ H1 fun u H2 => wE X c τ H2 fun w H3 => T v u w H3 :=
  ha.run R S e0 fun ρ1 H1 v x1 R1 rv => hb.run R1 (S.mono x1.toMo) e1 fun ρ2 H2 u x2 R2 ru => hc.run R2 ((S.mono x1.toMo).mono x2.toMo) e2 fun ρ3 H3 w x3 R3 rw' =>
    hk ρ3 H3 v u w ((x1.trans x2).trans x3) R3 (S.mono ((x1.trans x2).trans x3).toMo) ((rv.mono x2.toMo).mono x3.toMo) (ru.mono x3.toMo) rw'
theorem RE.failS {a : Expr} {fa : ES → M EV} (ha : RE G X a fa) {σ : ES} {h : EH} {ρ : Rh} {τ : L2.St} {H : Hp} {g : EV → EH → FL} {k : VK} {D : Ends} (R : Rel G ρ h H) (S : SR G ρ H σ τ) (f : FinS G X ρ H D ((fa σ h).fl σ g)) (no : ∀ x h1, fa σ h ≠ .ok x h1) : wE X a τ H k := by
  refine ha σ h ρ τ H k R S ?_
  have f' := FinS.fl S f
  cases e : fa σ h with
  | ok x h1 => exact absurd e (no x h1)
  | exc c fs h1 => rw [e] at f'; exact f'
  | stuck => rw [e] at f'; exact f'
theorem three_failS {a b c : Expr} {fa fb fc : ES → M EV} (ha : RE G X a fa) (hb : RE G X b fb) (hc : RE G X c fc) {σ : ES} {h : EH} {ρ : Rh} {τ : L2.St} {H : Hp} {g : EV → EV → EV → EH → FL} {D : Ends} {T : V → V → V → Hp → Prop} (R : Rel G ρ h H) (S : SR G ρ H σ τ)
    (f : FinS G X ρ H D ((fa σ h).fl σ fun x h1 => (fb σ h1).fl σ fun y h2 => (fc σ h2).fl σ fun z h3 => g x y z h3)) (no : ¬ ∃ x h1 y h2 z h3, fa σ h = .ok x h1 ∧ fb σ h1 = .ok y h2 ∧ fc σ h2 = .ok z h3) :
    wE X a τ H fun v H1 => wE X b τ H1 fun u H2 => wE X c τ H2 fun w H3 => T v u w H3 := by
  cases e : fa σ h with
  | ok x h1 =>
    refine ha.run R S e fun ρ1 H1 v x1 R1 rv => ?_
    rw [e] at f
    have f1 : FinS G X ρ1 H1 D ((fb σ h1).fl σ fun y h2 => (fc σ h2).fl σ fun z h3 => g x y z h3) := FinS.start x1 f
    cases e2 : fb σ h1 with
    | ok y h2 =>
      refine hb.run R1 (S.mono x1.toMo) e2 fun ρ2 H2 u x2 R2 ru => ?_
      rw [e2] at f1
      exact hc.failS R2 ((S.mono x1.toMo).mono x2.toMo) (FinS.start x2 f1) fun z h3 e3 => no ⟨x, h1, y, h2, z, h3, e, e2, e3⟩
    | exc c fs h2 => exact hb.failS R1 (S.mono x1.toMo) f1 fun y h2 q => by rw [e2] at q; cases q
    | stuck => exact hb.failS R1 (S.mono x1.toMo) f1 fun y h2 q => by rw [e2] at q; cases q
  | exc c fs h1 => exact ha.failS R S f fun x h1 q => by rw [e] at q; cases q
  | stuck => exact ha.failS R S f fun x h1 q => by rw [e] at q; cases q
theorem rs_sub {k0 : Nat} {o i e : Expr} {fe fo fi : ES → M EV} {p pos : Pos} (hr : Room k0 X.A) (he : RE G X e fe) (ho : RE G X o fo) (hi : RE G X i fi) (hs : swapsWithSole [.Subscript o i p] e pos.line X.env = pure false := by rfl) (hw : swappedStores [.Subscript o i p] e X.env = pure none := by rfl)
    (h1 : (assignEach [.Subscript o i p] X.env).map (·.2) = [assign (.Subscript o i p) X.env] := by rfl) (hs2 : swapsWith e (some (.Subscript o i p)) pos.line X.env = pure false := by rfl)
    (ha : ∀ v, assign (.Subscript o i p) X.env v = (do
      let ov ← holding [v] (eval o X.env)
      let iv ← holding [v, ov] (eval i X.env)
      standAt p
      holding [v, ov, iv] (setItem ov iv v)
      release [v, ov, iv] []) := by intro _; rfl) : RS G X (.Assign [.Subscript o i p] e pos) (sSub fe fo fi) := by
  intro σ h ρ τ H D R S ff
  by_cases ok : ∃ x h1 y h2 z h3, fe σ h = .ok x h1 ∧ fo σ h1 = .ok y h2 ∧ fi σ h2 = .ok z h3
  · obtain ⟨v, h1', o', h2', i', h3', e0, e1, e2⟩ := ok
    have f' : FinS G X ρ H D (match putIx o' i' v h3' with | some h4 => FL.nx σ h4 | none => .stuck) := by
      have f0 := ff
      dsimp only [sSub] at f0
      rw [e0] at f0
      simp only [Y.R.fl] at f0
      rw [e1] at f0
      simp only [Y.R.fl] at f0
      rw [e2] at f0
      exact f0
    split at f'
    · rename_i h4 ep
      unfold putIx at ep
      split at ep
      · rename_i n k
        split at ep
        · rename_i xs eo
          split at ep
          · rename_i k
            cases ej : ixN xs.length k with
            | none => rw [ej] at ep; cases ep
            | some j =>
              rw [ej] at ep; cases ep
              refine wS.of (ps_asg wE.pe (pg_sub wE.pe wE.pe set_list ha) hs hw h1) ?_
              refine three_run (T := fun v o i H3 => ∃ (l : Addr) (zs : List V) (m : Int) (j : Nat), o = .ref l ∧ i = .int m ∧ H3 l = some (.lst zs) ∧ ixN zs.length m = some j ∧ D.nx τ (upd H3 l (.lst (zs.set j v)))) he ho hi R S e0 e1 e2 fun ρ3 H3 w y z x3 R3 S3 rw' ry rz => ?_
              obtain rfl := rep_int rz
              obtain ⟨p', rfl, qa, vs, hv, r⟩ := getref R3 ry eo
              refine ⟨p', vs, k, j, rfl, rfl, hv, by rw [← r.length]; exact ej, ?_⟩
              have o3 := R3.obj n p' _ qa eo
              have ex := Ext.write (u := .lst (vs.set j w)) qa o3 rfl
              exact f' ρ3 _ τ (x3.trans ex) (R3.write qa eo ⟨_, upd_same, ((r.set rw' j).mono ex.toMo)⟩ rfl) (S3.mono ex.toMo)
          · cases ep
        · rename_i kvs eo
          split at ep
          · rename_i hl
            cases ek : keyOf k with
            | none => rw [ek] at ep; cases ep
            | some κ =>
              rw [ek] at ep; cases ep
              refine wS.of (ps_dput (by have := hr.un; omega) wE.pe wE.pe wE.pe hs2) ?_
              refine three_run (T := fun v o i H3 => ∃ a H4, o = .ref a ∧ DPut H3 a i v H4 ∧ D.nx τ H4) he ho hi R S e0 e1 e2 fun ρ3 H3 w y z x3 R3 S3 rw' ry rz => ?_
              have ko := (rep_p rz).kok
              obtain rfl := key_rep (rep_p rz) ek
              obtain ⟨a, rfl, qa, _⟩ := getref R3 ry eo
              obtain ⟨ws, hw3, el, ex, R4⟩ := put_dK R3 qa eo ek ko rw'
              exact ⟨a, _, rfl, .inl ⟨ws, κ, hw3, rfl, by rw [← el]; exact sz_lt hl, rfl⟩, f' ρ3 _ τ (x3.trans ex) R4 (S3.mono ex.toMo)⟩
          · cases ep
        · rename_i kvs eo
          split at ep
          · rename_i hl
            cases ek : tkeyOf k with
            | none => rw [ek] at ep; cases ep
            | some κ =>
              rw [ek] at ep; cases ep
              refine wS.of (ps_dput (by have := hr.un; omega) wE.pe wE.pe wE.pe hs2) ?_
              refine three_run (T := fun v o i H3 => ∃ a H4, o = .ref a ∧ DPut H3 a i v H4 ∧ D.nx τ H4) he ho hi R S e0 e1 e2 fun ρ3 H3 w y z x3 R3 S3 rw' ry rz => ?_
              have ko := (rep_p rz).kok
              obtain ⟨b, rfl, _, hb⟩ := tkey_rep (rep_p rz) ek
              obtain ⟨a, rfl, qa, _⟩ := getref R3 ry eo
              obtain ⟨ws, hw3, el, ex, R4⟩ := put_dT R3 qa eo ek ko rw'
              exact ⟨a, _, rfl, .inr ⟨ws, κ, b, hw3, rfl, hb, by rw [← el]; exact sz_lt hl, rfl⟩, f' ρ3 _ τ (x3.trans ex) R4 (S3.mono ex.toMo)⟩
          · cases ep
        · cases ep
      · cases ep
    · exact f'.elim
  · refine wS.of (ps_dput (by have := hr.un; omega) wE.pe wE.pe wE.pe hs2) ?_
    exact three_failS (T := fun v o i H3 => ∃ a H4, o = .ref a ∧ DPut H3 a i v H4 ∧ D.nx τ H4) he ho hi R S ff ok
end
end Y
end

section
/-! Y, calls of built-ins. -/
namespace Y
open PySem PySem.Spec PyProof.Rows L2
/-- a sequence, read: is it a tuple, its items -/
def seqOf (h : EH) (v : EV) : Option (Bool × List EV) := match inOf h v with
  | .tup xs => some (true, xs)
  | .lst xs => some (false, xs)
  | _ => none
/-- f(v), f a function on sequences; .. on a made list; .. that makes a list -/
def eSeq (g : Bool → List EV → Option EV) (fe : ES → M EV) : ES → M EV := fun σ h => (fe σ h).bind fun v h1 => R.opt ((seqOf h1 v).bind fun q => g q.1 q.2) h1
def eSeqL (g : Bool → List EV → Option EV) (fe : ES → M (List EV)) : ES → M EV := fun σ h => (fe σ h).bind fun xs h1 => R.opt (g false xs) h1
def lSeq (g : Bool → List EV → Option (List EV)) (fe : ES → M EV) : ES → M (List EV) := fun σ h => (fe σ h).bind fun v h1 => R.opt ((seqOf h1 v).bind fun q => g q.1 q.2) h1
def lSeqL (g : Bool → List EV → Option (List EV)) (fe : ES → M (List EV)) : ES → M (List EV) := fun σ h => (fe σ h).bind fun xs h1 => R.opt (g false xs) h1
def fLen : Bool → List EV → Option EV := fun _ xs => some (.p (.int xs.length))
def fTuple : Bool → List EV → Option EV := fun _ xs => some (mkTup xs)
def fList : Bool → List EV → Option (List EV) := fun _ xs => some xs
def boolsOf : List EV → Option (List Bool)
  | [] => some []
  | .p (.bl b) :: r => (boolsOf r).map (b :: ·)
  | _ :: _ => none
def strsOf : List EV → Option (List (List Nat))
  | [] => some []
  | .p (.str b) :: r => (strsOf r).map (b :: ·)
  | _ :: _ => none
def intsOf : List EV → Option (List Int)
  | [] => some []
  | .p (.int b) :: r => (intsOf r).map (b :: ·)
  | _ :: _ => none
def fAll : Bool → List EV → Option EV := fun t xs => if t then none else (boolsOf xs).map fun bs => .p (.bl (bs.all id))
def fAny : Bool → List EV → Option EV := fun t xs => if t then none else (boolsOf xs).map fun bs => .p (.bl (bs.any id))
def strLe (a b : List Nat) : Bool := !ltS b a
def insS (a : List Nat) : List (List Nat) → List (List Nat)
  | [] => [a]
  | b :: r => if strLe a b then a :: b :: r else b :: insS a r
def sortS : List (List Nat) → List (List Nat)
  | [] => []
  | a :: r => insS a (sortS r)
def fSorted : Bool → List EV → Option (List EV) := fun t xs => if t then none else match strsOf xs with
  | some ss => if ss.length < 64 then some ((sortS ss).map fun s => .p (.str s)) else none
  | none => none
def fInt1 : List EV → EH → Option (EV × EH)
  | [.p (.int i)], h => some (.p (.int i), h)
  | [.p (.bl b)], h => some (.p (.int (if b then 1 else 0)), h)
  | _, _ => none
def fAbs : List EV → EH → Option (EV × EH)
  | [.p (.int i)], h => some (.p (.int (if i < 0 then -i else i)), h)
  | _, _ => none
def fMax2 : List EV → EH → Option (EV × EH)
  | [.p (.int i), .p (.int j)], h => some (.p (.int (if j > i then j else i)), h)
  | _, _ => none
def fMin2 : List EV → EH → Option (EV × EH)
  | [.p (.int i), .p (.int j)], h => some (.p (.int (if j < i then j else i)), h)
  | _, _ => none
def lenOf (q : IN) : Option Int := match q with
  | .sgn s => if s.length ≤ 100000 then some (s.length : Int) else none
  | .lst xs => some (xs.length : Int)
  | .tup xs => some (xs.length : Int)
  | .kd kvs => some (kvs.length : Int)
  | _ => none
def fLenA : List EV → EH → Option (EV × EH)
  | [v], h => (lenOf (inOf h v)).map fun n => (.p (.int n), h)
  | _, _ => none
def tyName (h : EH) : EV → Option String
  | .p .non => some "NoneType"
  | .p (.bl _) => some "bool"
  | .p (.int _) => some "int"
  | .p (.str _) => some "str"
  | .p (.tup _) => some "tuple"
  | .p (.rot _) => some "tuple"
  | .p (.lst _) => some "list"
  | .p (.rol _) => some "list"
  | .p (.dic _) => some "dict"
  | .p (.dit _) => some "dict"
  | .p (.obj _ _) => none
  | .tup _ => some "tuple"
  | .ref n => match h[n]? with
    | some (.lst _) => some "list"
    | some (.dK _) => some "dict"
    | some (.dT _) => some "dict"
    | some (.dF _) => some "dict"
    | _ => none
def isTy (T : String) : EV → EH → Option (EV × EH) := fun v h => (tyName h v).bind fun t => (kitB t T).map fun b => (.p (.bl b), h)

section
variable {G : Wd} {X : Cx}
/-! ### calls of built-ins by name -/
def Hd (X : Cx) (x : Str) (f : Value) : Prop := ∀ (p pos : Pos) (e : Expr) (es : List Expr) (t : TA), starEach (e :: es) X.env = (false, eval e X.env) :: starEach es X.env → (backTo pos (starEach es X.env)).any (·.1) = false → PA X (e :: es) t → PE X (.Call (.Name x p) (e :: es) [] pos) (tCB (wC X f) t)
theorem hd_B {x : Str} {id : String} (hm : X.mg x = none) (hv : bootBuiltins x = some (.builtin id)) (hg : Gl X x := by rfl) (hn : x ≠ "__name__" := by decide) (hdb : (x == ("__debug__" : Str)) = false := by decide) : Hd X x (.builtin id) :=
  fun p pos e es t he hpl ha => pe_callB wC.call hg hm hv ha hn hdb he hpl
theorem hd_T {x : Str} {T : String} (hm : X.mg x = none) (hv : bootBuiltins x = some (.type T)) (hg : Gl X x := by rfl) (hn : x ≠ "__name__" := by decide) (hdb : (x == ("__debug__" : Str)) = false := by decide) : Hd X x (.type T) :=
  fun p pos e es t he hpl ha => pe_callTy wC.call hg hm hv ha hn hdb he hpl
theorem re_callB {x : Str} {f : Value} {g : List EV → EH → Option (EV × EH)} {e : Expr} {es : List Expr} {fa : ES → M (List EV)} {p pos : Pos} (hd : Hd X x f) (c : RC G X f g) (ha : RA G X (e :: es) fa) (he : starEach (e :: es) X.env = (false, eval e X.env) :: starEach es X.env := by first | exact star_cons rfl | rfl) (hpl : (backTo pos (starEach es X.env)).any (·.1) = false := by rfl) :
    RE G X (.Call (.Name x p) (e :: es) [] pos) (eCall g fa) := by
  intro σ h ρ τ H Q R S f
  refine wE.of (hd p pos e es _ he hpl wA.pa) ?_
  refine ha σ h ρ τ H _ R S (FinE.imp (FinE.bind f) fun xs h1 ρ1 H1 e1 R1 f1 vs rv => ?_)
  obtain ⟨z, h3, e3, f3⟩ := FinE.lift f1
  exact c xs h1 ρ1 H1 vs Q z h3 R1 rv e3 (fun ρ' H' w e R r => f3 ρ' H' e R w r)
def SqB (K : PySem.W.Frag) (H : Hp) (t : Bool) (a : Addr) (vs : List V) : Prop := match t with
  | true => SqT K H a vs
  | false => SqL K H a vs
theorem SqB.any {K : PySem.W.Frag} {H : Hp} {t : Bool} {a : Addr} {vs : List V} (h : SqB K H t a vs) : SqL K H a vs ∨ SqT K H a vs := by
  cases t
  · exact .inl h
  · exact .inr h
/-- .. as it lies: the tuple itself is a value -/
def SqV (G : Wd) (ρ : Rh) (H : Hp) (xs : List EV) (a : Addr) : Bool → Prop
  | true => Rep G ρ H (mkTup xs) (.ref a)
  | false => True
theorem seq_rep {ρ : Rh} {h : EH} {H : Hp} {v : EV} {w : V} {q : Bool × List EV} (R : Rel G ρ h H) (r : Rep G ρ H v w) (e : seqOf h v = some q) : ∃ a vs, w = .ref a ∧ SqB G.K H q.1 a vs ∧ RepL G ρ H q.2 vs := by
  unfold seqOf at e
  have ir := inOf_rep R r
  split at e
  · rename_i xs ek
    cases e
    rw [ek] at ir
    exact ir
  · rename_i xs ek
    cases e
    rw [ek] at ir
    exact ir
  · cases e
variable (G X) in
def RCS (f : Value) (g : Bool → List EV → Option EV) : Prop := ∀ (t : Bool) (xs : List EV) (h : EH) (ρ : Rh) (H : Hp) (a : Addr) (vs : List V) (Q : VK) (z : EV), Rel G ρ h H → SqB G.K H t a vs → RepL G ρ H xs vs → g t xs = some z →
  (∀ H' w, Ext ρ H ρ H' → Rel G ρ h H' → Rep G ρ H' z w → Q w H') → wC X f [.ref a] H Q
variable (G X) in
def RCL (f : Value) (g : Bool → List EV → Option (List EV)) : Prop := ∀ (t : Bool) (xs : List EV) (h : EH) (ρ : Rh) (H : Hp) (a : Addr) (vs : List V) (Q : VK) (ys : List EV), Rel G ρ h H → SqB G.K H t a vs → RepL G ρ H xs vs → g t xs = some ys →
  (∀ p ws, H p = none → RepL G ρ H ys ws → Q (.ref p) (upd H p (.lst ws))) → wC X f [.ref a] H Q
section
variable {x : Str} {f : Value} {e : Expr} {p pos : Pos}
theorem re_seq {g : Bool → List EV → Option EV} {fe : ES → M EV} (hd : Hd X x f) (c : RCS G X f g) (ha : RE G X e fe) (he : starEach [e] X.env = (false, eval e X.env) :: starEach [] X.env := by rfl) : RE G X (.Call (.Name x p) [e] [] pos) (eSeq g fe) := by
  intro σ h ρ τ H Q R S ff
  refine wE.of (hd p pos e [] _ he rfl (pa_cons wE.pe pa_nil he)) ?_
  refine ha σ h ρ τ H _ R S (FinE.imp (FinE.bind ff) fun v h1 ρ1 H1 e1 R1 f1 w rv => ?_)
  obtain ⟨z, eo, f2⟩ := opt_fin f1
  cases es : seqOf h1 v with
  | none => rw [es] at eo; cases eo
  | some q =>
    rw [es] at eo
    obtain ⟨a, vs, rfl, sq, rr⟩ := seq_rep R1 rv es
    exact c q.1 q.2 h1 ρ1 H1 a vs Q z R1 sq rr eo fun H' w e' R' r' => f2 ρ1 H' e' R' w r'
theorem re_seqL {g : Bool → List EV → Option EV} {fe : ES → M (List EV)} (hd : Hd X x f) (c : RCS G X f g) (ha : RL G X e fe) (he : starEach [e] X.env = (false, eval e X.env) :: starEach [] X.env := by rfl) : RE G X (.Call (.Name x p) [e] [] pos) (eSeqL g fe) := by
  intro σ h ρ τ H Q R S ff
  refine wE.of (hd p pos e [] _ he rfl (pa_cons wE.pe pa_nil he)) ?_
  refine ha σ h ρ τ H _ R S (FinE.imp (FinE.bind ff) fun xs h1 ρ1 H1 e1 R1 f1 q vs hq m l Rp r => ?_)
  obtain ⟨z, eo, f2⟩ := opt_fin f1
  exact c false xs h1 ρ1 H1 q vs Q z R1 (.inl (.inl l)) (r.mono Mo.unhid) eo fun H' w e' R' r' => f2 ρ1 H' e' R' w r'
theorem rl_seq {g : Bool → List EV → Option (List EV)} {fe : ES → M EV} (hd : Hd X x f) (c : RCL G X f g) (ha : RE G X e fe) (he : starEach [e] X.env = (false, eval e X.env) :: starEach [] X.env := by rfl) : RL G X (.Call (.Name x p) [e] [] pos) (lSeq g fe) := by
  intro σ h ρ τ H Q R S ff
  refine wE.of (hd p pos e [] _ he rfl (pa_cons wE.pe pa_nil he)) ?_
  refine ha σ h ρ τ H _ R S (FinE.imp (FinE.bind ff) fun v h1 ρ1 H1 e1 R1 f1 w rv => ?_)
  obtain ⟨z, eo, f2⟩ := opt_fin f1
  cases es : seqOf h1 v with
  | none => rw [es] at eo; cases eo
  | some q =>
    rw [es] at eo
    obtain ⟨a, vs, rfl, sq, rr⟩ := seq_rep R1 rv es
    exact c q.1 q.2 h1 ρ1 H1 a vs Q z R1 sq rr eo fun t ws ht rt => LK.laid ht (e1.dom t ht) R1 rt (f2 ρ1 _ (Ext.laid0 ht) (R1.aside ht))
theorem rl_seqL {g : Bool → List EV → Option (List EV)} {fe : ES → M (List EV)} (hd : Hd X x f) (c : RCL G X f g) (ha : RL G X e fe) (he : starEach [e] X.env = (false, eval e X.env) :: starEach [] X.env := by rfl) : RL G X (.Call (.Name x p) [e] [] pos) (lSeqL g fe) := by
  intro σ h ρ τ H Q R S ff
  refine wE.of (hd p pos e [] _ he rfl (pa_cons wE.pe pa_nil he)) ?_
  refine ha σ h ρ τ H _ R S (FinE.imp (FinE.bind ff) fun xs h1 ρ1 H1 e1 R1 f1 q vs hq m l Rp r => ?_)
  obtain ⟨z, eo, f2⟩ := opt_fin f1
  exact c false xs h1 ρ1 H1 q vs Q z R1 (.inl (.inl l)) (r.mono Mo.unhid) eo fun t ws ht rt => LK.laid ht (e1.dom t ht) R1 rt (f2 ρ1 _ (Ext.laid0 ht) (R1.aside ht))
end
theorem rcs_len (hK : X.K = G.K := by rfl) : RCS G X (.builtin "len") fLen := by
  intro t xs h ρ H a vs Q z R sq r e k
  cases e
  rw [← hK] at sq
  refine wC.of call_len_seq ⟨a, vs, rfl, sq.any, ?_⟩
  rw [← r.length]
  exact k H _ Ext.refl R (.p (.int _))
/-- tuple(list) -/
theorem rcs_tuple (hK : X.K = G.K := by rfl) : RCS G X (.type "tuple") (fun t xs => if t then none else fTuple t xs) := by
  intro t xs h ρ H a vs Q z R sq r e k
  cases t with
  | true => cases e
  | false =>
    cases e
    refine wC.of call_tuple_of ⟨a, vs, rfl, .inl ⟨by rw [hK]; exact sq, fun l hl => ?_⟩⟩
    obtain ⟨a1, a2, a3⟩ := new_tup R hl r
    exact k _ _ a1 a2 a3
theorem rcl_list (hK : X.K = G.K := by rfl) : RCL G X (.type "list") fList := by
  intro t xs h ρ H a vs Q z R sq r e k
  cases e
  rw [← hK] at sq
  exact wC.of call_list_of ⟨a, vs, rfl, sq.any, fun l hl => k l vs hl r⟩
theorem bools_rep {ρ : Rh} {H : Hp} : ∀ {xs : List EV} {vs : List V} {bs : List Bool}, RepL G ρ H xs vs → boolsOf xs = some bs → vs = bs.map V.bl
  | [], _, _, r, e => by cases r; cases e; rfl
  | x :: xs, _, bs, r, e => by
    cases r with
    | cons a b =>
      unfold boolsOf at e
      split at e
      · rename_i he; exact nomatch he
      · rename_i c r' he
        cases he
        obtain rfl := rep_bl a
        cases e1 : boolsOf xs with
        | none => rw [e1] at e; cases e
        | some cs => rw [e1] at e; cases e; rw [bools_rep b e1]; rfl
      · cases e
theorem strs_rep {ρ : Rh} {H : Hp} : ∀ {xs : List EV} {vs : List V} {bs : List (List Nat)}, RepL G ρ H xs vs → strsOf xs = some bs → vs = bs.map (fun s => V.str (toS s)) ∧ ∀ s ∈ bs, SOk s
  | [], _, _, r, e => by cases r; cases e; exact ⟨rfl, fun s m => nomatch m⟩
  | x :: xs, _, bs, r, e => by
    cases r with
    | cons a b =>
      unfold strsOf at e
      split at e
      · rename_i he; exact nomatch he
      · rename_i c r' he
        cases he
        obtain ⟨rfl, so⟩ := rep_str a
        cases e1 : strsOf xs with
        | none => rw [e1] at e; cases e
        | some cs =>
          rw [e1] at e; cases e
          obtain ⟨h1, h2⟩ := strs_rep b e1
          refine ⟨by rw [h1]; rfl, fun s m => ?_⟩
          rcases List.mem_cons.mp m with rfl | m
          · exact so
          · exact h2 s m
      · cases e
theorem rep_strs {ρ : Rh} {H : Hp} : ∀ {ss : List (List Nat)}, (∀ s ∈ ss, SOk s) → RepL G ρ H (ss.map fun s => EV.p (.str s)) (ss.map fun s => V.str (toS s))
  | [], _ => .nil
  | s :: r, h => .cons (.p (.str (h s (by simp)))) (rep_strs fun x m => h x (by simp [m]))
theorem ints_rep {ρ : Rh} {H : Hp} : ∀ {xs : List EV} {vs : List V} {bs : List Int}, RepL G ρ H xs vs → intsOf xs = some bs → vs = bs.map V.int
  | [], _, _, r, e => by cases r; cases e; rfl
  | x :: xs, _, bs, r, e => by
    cases r with
    | cons a b =>
      unfold intsOf at e
      split at e
      · rename_i he; exact nomatch he
      · rename_i c r' he
        cases he
        obtain rfl := rep_int a
        cases e1 : intsOf xs with
        | none => rw [e1] at e; cases e
        | some cs => rw [e1] at e; cases e; rw [ints_rep b e1]; rfl
      · cases e
theorem rep_ints {ρ : Rh} {H : Hp} : ∀ ss : List Int, RepL G ρ H (ss.map fun i => EV.p (.int i)) (ss.map V.int)
  | [] => .nil
  | s :: r => .cons (.p (.int s)) (rep_ints r)
theorem rcs_all (hc : X.calm = true := by rfl) (hK : X.K = G.K := by rfl) : RCS G X (.builtin "all") fAll := by
  intro t xs h ρ H a vs Q z R sq r e k
  cases t with
  | true => cases e
  | false =>
    simp only [fAll, Bool.false_eq_true, if_false] at e
    cases e1 : boolsOf xs with
    | none => rw [e1] at e; cases e
    | some bs =>
      rw [e1] at e; cases e
      have := bools_rep r e1
      subst this
      exact wC.of (cr_all hc) ⟨a, bs, rfl, by rw [hK]; exact sq, k H _ Ext.refl R (.p (.bl _))⟩
theorem rcs_any (hc : X.calm = true := by rfl) (hK : X.K = G.K := by rfl) : RCS G X (.builtin "any") fAny := by
  intro t xs h ρ H a vs Q z R sq r e k
  cases t with
  | true => cases e
  | false =>
    simp only [fAny, Bool.false_eq_true, if_false] at e
    cases e1 : boolsOf xs with
    | none => rw [e1] at e; cases e
    | some bs =>
      rw [e1] at e; cases e
      have := bools_rep r e1
      subst this
      exact wC.of (cr_any hc) ⟨a, bs, rfl, by rw [hK]; exact sq, k H _ Ext.refl R (.p (.bl _))⟩

/-! ### sorting texts -/
theorem strLe_total (a b : (List Nat)) : strLe a b = true ∨ strLe b a = true := by
  unfold strLe
  rw [ltS_eq, ltS_eq, ltCps_eq, ltCps_eq]
  by_cases h : b < a
  · right
    simp only [Bool.not_eq_true', decide_eq_false_iff_not]
    exact fun h2 => List.lt_irrefl _ (List.lt_trans h h2)
  · left; simpa using h
theorem strLe_antisymm {a b : (List Nat)} (h1 : strLe a b = true) (h2 : strLe b a = true) : a = b := by
  unfold strLe at h1 h2
  rw [ltS_eq, ltCps_eq] at h1 h2
  simp only [Bool.not_eq_true', decide_eq_false_iff_not] at h1 h2
  exact List.le_antisymm h1 h2
theorem strLe_trans {a b c : (List Nat)} (h1 : strLe a b = true) (h2 : strLe b c = true) : strLe a c = true := by
  unfold strLe at h1 h2 ⊢
  rw [ltS_eq, ltCps_eq] at h1 h2 ⊢
  simp only [Bool.not_eq_true', decide_eq_false_iff_not] at h1 h2 ⊢
  exact List.le_trans h1 h2
theorem insS_perm (a : (List Nat)) : ∀ l, (insS a l).Perm (a :: l)
  | [] => .refl _
  | b :: r => by
    unfold insS
    split
    · exact .refl _
    · exact ((insS_perm a r).cons b).trans (.swap _ _ _)
theorem sortS_perm : ∀ l, (sortS l).Perm l
  | [] => .refl _
  | a :: r => (insS_perm a (sortS r)).trans ((sortS_perm r).cons a)
theorem insS_sorted (a : (List Nat)) : ∀ l, l.Pairwise (fun x y => strLe x y = true) → (insS a l).Pairwise (fun x y => strLe x y = true)
  | [], _ => by simp [insS]
  | b :: r, h => by
    unfold insS
    obtain ⟨h1, h2⟩ := List.pairwise_cons.mp h
    split
    · rename_i c
      exact List.pairwise_cons.mpr ⟨fun x hx => by
        rcases List.mem_cons.mp hx with rfl | hx
        · exact c
        · exact strLe_trans c (h1 x hx), h⟩
    · rename_i c
      refine List.pairwise_cons.mpr ⟨fun x hx => ?_, insS_sorted a r h2⟩
      rcases List.mem_cons.mp ((insS_perm a r).mem_iff.mp hx) with rfl | hx
      · exact (strLe_total x b).resolve_left c
      · exact h1 x hx
theorem sortS_sorted : ∀ l, (sortS l).Pairwise (fun x y => strLe x y = true)
  | [] => .nil
  | a :: r => insS_sorted a _ (sortS_sorted r)
theorem rising_pw : ∀ (p : Str) (l : List Str), risingS p l = true → (p :: l).Pairwise (fun x y => strLe x.cps.toList y.cps.toList = true)
  | p, [], _ => by simp
  | p, x :: r, h => by
    simp only [risingS, Bool.and_eq_true] at h
    have ih := rising_pw x r h.2
    have h1 : strLe p.cps.toList x.cps.toList = true := by
      unfold strLe
      rw [ltS_eq]
      exact h.1
    refine List.pairwise_cons.mpr ⟨fun y hy => ?_, ih⟩
    rcases List.mem_cons.mp hy with rfl | hy
    · exact h1
    · exact strLe_trans h1 ((List.pairwise_cons.mp ih).1 y hy)
theorem sortedS_pw : ∀ l : List Str, sortedS l = true → l.Pairwise (fun x y => strLe x.cps.toList y.cps.toList = true)
  | [], _ => .nil
  | x :: r, h => rising_pw x r h
theorem sortS_uniq {ys xs : List (List Nat)} (hp : ys.Perm xs) (hs : ys.Pairwise (fun x y => strLe x y = true)) : ys = sortS xs := by
  have h := hp.trans (sortS_perm xs).symm
  exact h.eq_of_pairwise (fun x y _ _ h1 h2 => strLe_antisymm h1 h2) hs (sortS_sorted xs)
theorem rcl_sorted (hK : X.K = G.K := by rfl) : RCL G X (.builtin "sorted") fSorted := by
  intro t xs h ρ H a vs Q z R sq r e k
  cases t with
  | true => cases e
  | false =>
    simp only [fSorted, Bool.false_eq_true, if_false] at e
    split at e
    · rename_i ss e1
      split at e
      · rename_i hl
        cases e
        obtain ⟨rfl, so⟩ := strs_rep r e1
        refine wC.of cr_sortedS ⟨a, ss.map toS, rfl, by rw [hK, List.map_map]; exact sq, by simpa using hl, fun ys p hp hs hn => ?_⟩
        have e2 : ys = (sortS ss).map toS := by
          have h1 : (ys.map fun s => s.cps.toList).Perm ss := by
            have := hp.map fun s => s.cps.toList
            rw [List.map_map] at this
            have e3 : (ss.map ((fun s => s.cps.toList) ∘ toS)) = ss := by
              rw [show ((fun s => s.cps.toList) ∘ toS) = id from rfl, List.map_id]
            rwa [e3] at this
          have h2 : (ys.map fun s => s.cps.toList).Pairwise (fun x y => strLe x y = true) := List.pairwise_map.mpr (sortedS_pw _ hs)
          have h3 := sortS_uniq h1 h2
          rw [← h3, List.map_map]
          have : (toS ∘ fun s : Str => s.cps.toList) = id := funext fun s => toS_cps s
          rw [this, List.map_id]
        rw [e2, List.map_map]
        exact k p _ hn (rep_strs fun s m => so s ((sortS_perm ss).mem_iff.mp m))
      · cases e
    · cases e

/-! ### small built-ins -/
theorem one_rep {ρ : Rh} {H : Hp} {x : EV} {vs : List V} (r : RepL G ρ H [x] vs) : ∃ v, vs = [v] ∧ Rep G ρ H x v := by
  cases r with
  | cons a b => cases b; exact ⟨_, rfl, a⟩
theorem two_rep {ρ : Rh} {H : Hp} {x y : EV} {vs : List V} (r : RepL G ρ H [x, y] vs) : ∃ v u, vs = [v, u] ∧ Rep G ρ H x v ∧ Rep G ρ H y u := by
  cases r with
  | cons a b =>
    obtain ⟨u, rfl, r2⟩ := one_rep b
    exact ⟨_, _, rfl, a, r2⟩
theorem rc_int1 : RC G X (.type "int") fInt1 := by
  intro xs h ρ H vs Q z h' R r e k
  unfold fInt1 at e
  split at e
  · cases e
    obtain ⟨v, rfl, a⟩ := one_rep r
    obtain rfl := rep_int a
    exact wC.of call_int1 (.inl ⟨_, rfl, k ρ H _ Ext.refl R (.p (.int _))⟩)
  · cases e
    obtain ⟨v, rfl, a⟩ := one_rep r
    obtain rfl := rep_bl a
    exact wC.of call_int1 (.inr ⟨_, rfl, k ρ H _ Ext.refl R (.p (.int _))⟩)
  · cases e
theorem rc_abs : RC G X (.builtin "abs") fAbs := by
  intro xs h ρ H vs Q z h' R r e k
  unfold fAbs at e
  split at e
  · cases e
    obtain ⟨v, rfl, a⟩ := one_rep r
    obtain rfl := rep_int a
    exact wC.of call_abs ⟨_, rfl, k ρ H _ Ext.refl R (.p (.int _))⟩
  · cases e
theorem rc_max2 (hc : X.calm = true := by rfl) : RC G X (.builtin "max") fMax2 := by
  intro xs h ρ H vs Q z h' R r e k
  unfold fMax2 at e
  split at e
  · cases e
    obtain ⟨v, u, rfl, a, b⟩ := two_rep r
    obtain rfl := rep_int a
    obtain rfl := rep_int b
    exact wC.of (call_max2 hc) ⟨_, _, rfl, k ρ H _ Ext.refl R (.p (.int _))⟩
  · cases e
theorem rc_min2 (hc : X.calm = true := by rfl) : RC G X (.builtin "min") fMin2 := by
  intro xs h ρ H vs Q z h' R r e k
  unfold fMin2 at e
  split at e
  · cases e
    obtain ⟨v, u, rfl, a, b⟩ := two_rep r
    obtain rfl := rep_int a
    obtain rfl := rep_int b
    exact wC.of (call_min2 hc) ⟨_, _, rfl, k ρ H _ Ext.refl R (.p (.int _))⟩
  · cases e
theorem op_lenRd : CallR X (.builtin "len") (fun xs H Q => ∃ (a : Addr) (kvs : List (Key × V)), xs = [V.ref a] ∧ Rd H a (.dK kvs) ∧ Q (.int kvs.length) H) := by
  rintro pins s σ H xs us Q I r ⟨a, kvs, rfl, ha, q⟩
  obtain ⟨u, rfl, ru⟩ := vals1 r
  cases ru
  exact d_len I ha fun t s' J => ⟨V.int kvs.length, H, J, ⟨t, rfl⟩, q⟩
theorem rc_len (hK : X.K = G.K := by rfl) : RC G X (.builtin "len") fLenA := by
  intro xs h ρ H vs Q z h' R r e k
  unfold fLenA at e
  split at e
  · rename_i v
    obtain ⟨w, rfl, a⟩ := one_rep r
    have ir := inOf_rep R a
    cases en : lenOf (inOf h v) with
    | none => rw [en] at e; cases e
    | some n =>
      rw [en] at e; cases e
      unfold lenOf at en
      split at en
      · rename_i s ek
        rw [ek] at ir
        obtain rfl : w = .str (toS s) := ir
        split at en
        · rename_i hl
          cases en
          have r' := k ρ H _ Ext.refl R (.p (.int _))
          rw [← toS_length] at r'
          exact wC.of call_len_str ⟨_, rfl, by rw [toS_length]; exact sz_ok hl, r'⟩
        · cases en
      · rename_i ys ek
        rw [ek] at ir
        obtain ⟨p, ws, rfl, sq, rr⟩ := ir
        cases en
        refine wC.of call_len_seq ⟨_, _, rfl, .inl (by rw [hK]; exact sq), ?_⟩
        rw [← rr.length]
        exact k ρ H _ Ext.refl R (.p (.int _))
      · rename_i ys ek
        rw [ek] at ir
        obtain ⟨p, ws, rfl, sq, rr⟩ := ir
        cases en
        refine wC.of call_len_seq ⟨_, _, rfl, .inr (by rw [hK]; exact sq), ?_⟩
        rw [← rr.length]
        exact k ρ H _ Ext.refl R (.p (.int _))
      · rename_i ys ek
        rw [ek] at ir
        obtain ⟨p, ws, rfl, sq, rr⟩ := ir
        cases en
        refine wC.of op_lenRd ⟨_, _, rfl, sq, ?_⟩
        rw [← rr.length]
        exact k ρ H _ Ext.refl R (.p (.int _))
      · cases en
  · cases e
theorem ty_rep {ρ : Rh} {h : EH} {H : Hp} {v : EV} {w : V} {t : String} (R : Rel G ρ h H) (r : Rep G ρ H v w) (e : tyName h v = some t) : TyX G.K H w (.type t) := by
  have dk : ∀ {a ws}, Rd H a (.dK ws) → TyX G.K H (.ref a) (.type "dict") := fun q => by
    rcases q with q | ⟨o, q⟩
    · exact .base (.dK q)
    · exact .fDict q
  cases v with
  | p pv =>
    cases rep_p r with
    | non => cases e; exact .base .non
    | bl b => cases e; exact .base (.bl b)
    | int b => cases e; exact .base (.int b)
    | str b => cases e; exact .base (.str _)
    | tup q _ => cases e; exact .base (.tup q.2)
    | rot q _ =>
      cases e
      obtain ⟨o, _, _, q, c, _⟩ := q
      exact .kTuple q c
    | lst q _ => cases e; exact .base (.lst q.2)
    | rol q _ =>
      cases e
      rcases q with ⟨_, o, q⟩ | ⟨o, _, _, q, c, _⟩
      · exact .base (.frz q)
      · exact .kList q c
    | dK n q _ => cases e; exact dk q
    | dT n q _ =>
      cases e
      exact .base (.dT q)
    | obj q _ _ => cases e
  | tup xs =>
    cases e
    cases r with
    | tup q _ => exact .base (.tup q.2)
  | ref n =>
    simp only [tyName] at e
    split at e
    · rename_i xs eo
      obtain ⟨p, rfl, qa, vs, hv, _⟩ := getref R r eo
      cases e; exact .base (.lst hv)
    · rename_i xs eo
      obtain ⟨p, rfl, qa, vs, hv, _⟩ := getref R r eo
      cases e; exact .base (.dK hv)
    · rename_i xs eo
      obtain ⟨p, rfl, qa, vs, hv, _⟩ := getref R r eo
      cases e; exact .base (.dT hv)
    · rename_i xs eo
      obtain ⟨p, rfl, qa, o, vs, hv, _⟩ := getref R r eo
      cases e; exact .fDict hv
    · cases e
/-- isinstance(e, T), T a built-in class by its name -/
theorem re_isTy {T : Str} {Tn : String} {e : Expr} {fe : ES → M EV} {p tp pos : Pos} (ha : RE G X e fe) (hm : X.mg "isinstance" = none) (hT : X.mg T = none) (hv : bootBuiltins T = some (.type Tn)) (hg : Gl X "isinstance" := by rfl) (hgT : Gl X T := by rfl) (hn : T ≠ "__name__" := by decide) (hdb : (T == ("__debug__" : Str)) = false := by decide)
    (he : starEach [e, .Name T tp] X.env = (false, eval e X.env) :: starEach [.Name T tp] X.env := by first | exact star_cons rfl | rfl) (hK : X.K = G.K := by rfl) : RE G X (.Call (.Name "isinstance" p) [e, .Name T tp] [] pos) (eUn (isTy Tn) fe) := by
  intro σ h ρ τ H Q R S ff
  refine wE.of (pe_callB call_isi hg hm (by decide +kernel) (pa_cons wE.pe (pa_cons (pe_bltn (v := .ty Tn) hgT hT hv rfl hn hdb) pa_nil) he) (by decide) (by decide) he rfl) ?_
  refine ha σ h ρ τ H _ R S (FinE.imp (FinE.bind ff) fun v h1 ρ1 H1 e1 R1 f1 w rv => ?_)
  obtain ⟨z, h3, e3, f3⟩ := FinE.lift f1
  simp only [isTy] at e3
  cases et : tyName h1 v with
  | none => rw [et] at e3; cases e3
  | some t =>
    rw [et] at e3
    cases eb : kitB t Tn with
    | none => simp [eb] at e3
    | some b =>
      simp only [Option.bind_some, eb, Option.map_some, Option.some.injEq, Prod.mk.injEq] at e3
      obtain ⟨rfl, rfl⟩ := e3
      exact ⟨w, .ty Tn, .type t, .type Tn, b, rfl, .ty Tn, by rw [hK]; exact ty_rep R1 rv et, kit_ty eb, f3 ρ1 H1 Ext.refl R1 _ (.p (.bl b))⟩
end
end Y
end

section
/-! Y, methods of lists and dicts, walks over dicts. -/
namespace Y
open PySem PySem.Spec PyProof.Rows L2

def isLst (h : EH) : EV → Bool
  | .ref n => match h[n]? with
    | some (.lst _) => true
    | _ => false
  | _ => false
def putL (v : EV) (f : List EV → Option (EV × List EV)) (h : EH) : R EV := match v with
  | .ref n => match h[n]? with
    | some (.lst xs) => match f xs with
      | some (r, ys) => .ok r (h.set n (.lst ys))
      | none => .stuck
    | _ => .stuck
  | _ => .stuck
/-- a list of ours is changed by what an argument gives -/
def eLm {α : Type} (f : α → List EV → Option (EV × List EV)) (fo : ES → M EV) (fe : ES → M α) : ES → M EV := fun σ h => (fo σ h).bind fun x h1 => match isLst h1 x with
  | true => (fe σ h1).bind fun v h2 => putL x (f v) h2
  | false => .stuck
def fApp (v : EV) (xs : List EV) : Option (EV × List EV) := if xs.length < 100000 then some (.p .non, xs ++ [v]) else none
def fExt (ys : List EV) (xs : List EV) : Option (EV × List EV) := if xs.length + ys.length ≤ 100000 then some (.p .non, xs ++ ys) else none
def eAppend (fo fe : ES → M EV) : ES → M EV := eLm fApp fo fe
def eExtendL (fo : ES → M EV) (fe : ES → M (List EV)) : ES → M EV := eLm fExt fo fe
/-- the items of a list that lies in the heap -/
def lOf (fe : ES → M EV) : ES → M (List EV) := fun σ h => (fe σ h).bind fun v h1 => R.opt (lstOf h1 v) h1
def eExtend (fo fe : ES → M EV) : ES → M EV := eLm fExt fo (lOf fe)
def fPop (xs : List EV) : Option (EV × List EV) := (xs[xs.length - 1]?).map fun y => (y, xs.dropLast)
def fPopAt (i : EV) (xs : List EV) : Option (EV × List EV) := match i with
  | .p (.int i) => if -(2 ^ 63) ≤ i ∧ i < 2 ^ 63 then (ixN xs.length i).bind fun k => (xs[k]?).map fun y => (y, xs.eraseIdx k) else none
  | _ => none
def ePop (fo : ES → M EV) : ES → M EV := fun σ h => (fo σ h).bind fun x h1 => putL x fPop h1
def ePopAt (fo fe : ES → M EV) : ES → M EV := eLm fPopAt fo fe

def eDict0 : ES → M EV := fun _ h => .ok (.ref h.length) (h ++ [.dK []])
def eDictT : ES → M EV := fun _ h => .ok (.ref h.length) (h ++ [.dT []])
def isDic (h : EH) (v : EV) : Bool := isDk (inOf h v)
def setd (x y z : EV) (h : EH) : Option (EV × EH) := match x, y with
  | .ref n, .p k => match h[n]? with
    | some (.dK kvs) => if kvs.length < 100000 then ((keyOf k).map fun _ => match dfind keq k kvs with
      | some v => (v, h)
      | none => (z, h.set n (.dK (dput keq k z kvs)))) else none
    | _ => none
  | _, _ => none
def isDKr (h : EH) : EV → Bool
  | .ref n => match h[n]? with
    | some (.dK _) => true
    | _ => false
  | _ => false
def eSetd (fd fk fv : ES → M EV) : ES → M EV := fun σ h => (fd σ h).bind fun x h1 => match isDKr h1 x with
  | true => (fk σ h1).bind fun y h2 => (fv σ h2).bind fun z h3 => R.lift (setd x y z h3)
  | false => .stuck
def dgetV (q : IN) (y z : EV) : Option EV := match q, y with
  | .kd kvs, .p k => (keyOf k).map fun _ => (dfind keq k kvs).getD z
  | .td kvs, .p k => (tkeyOf k).map fun _ => (dfind keqT k kvs).getD z
  | _, _ => none
def eDget2 (fd fk fv : ES → M EV) : ES → M EV := fun σ h => (fd σ h).bind fun x h1 => match isDic h1 x with
  | true => (fk σ h1).bind fun y h2 => (fv σ h2).bind fun z h3 => R.opt (dgetV (inOf h3 x) y z) h3
  | false => .stuck
def eDget1 (fd fk : ES → M EV) : ES → M EV := fun σ h => (fd σ h).bind fun x h1 => match isDic h1 x with
  | true => (fk σ h1).bind fun y h2 => R.opt (dgetV (inOf h2 x) y (.p .non)) h2
  | false => .stuck
/-- a dict is locked for good -/
def dlock (v : EV) (h : EH) : Option (List (PV × EV) × EH) := match v with
  | .p (.dic kvs) => some (kvs.map fun kv => (kv.1, .p kv.2), h)
  | .ref n => match h[n]? with
    | some (.dK kvs) => some (kvs, h.set n (.dF kvs))
    | some (.dF kvs) => some (kvs, h)
    | _ => none
  | _ => none
def dvals (v : EV) (h : EH) : R IT := R.lift ((dlock v h).map fun q => (.vals (q.1.map (·.2)), q.2))
def dkeys (v : EV) (h : EH) : R IT := R.lift ((dlock v h).map fun q => (.vals (q.1.map fun kv => .p kv.1), q.2))
def ditems (v : EV) (h : EH) : R IT := R.lift ((dlock v h).map fun q => (.vals (q.1.map fun kv => mkTup [.p kv.1, kv.2]), q.2))
def iDV (f : ES → M EV) : ES → M IT := fun σ h => (f σ h).bind dvals
def iDK (f : ES → M EV) : ES → M IT := fun σ h => (f σ h).bind dkeys
def iDI (f : ES → M EV) : ES → M IT := fun σ h => (f σ h).bind ditems
/-- list(d) -/
def keysE (q : IN) : Option (List EV) := match q with
  | .kd kvs => some (kvs.map fun kv => .p kv.1)
  | _ => none
def lDK (f : ES → M EV) : ES → M (List EV) := fun σ h => (f σ h).bind fun v h1 => R.opt (keysE (inOf h1 v)) h1
def itemsE (q : IN) : Option (List EV) := match q with
  | .kd kvs => some (kvs.map fun kv => mkTup [.p kv.1, kv.2])
  | _ => none
def lDI (f : ES → M EV) : ES → M (List EV) := fun σ h => (f σ h).bind fun v h1 => R.opt (itemsE (inOf h1 v)) h1

section
variable {G : Wd} {X : Cx}
/-! ### methods of lists -/
theorem lst_ref {ρ : Rh} {h : EH} {H : Hp} {x : EV} {v : V} (R : Rel G ρ h H) (r : Rep G ρ H x v) (e : isLst h x = true) : ∃ n a xs vs, x = .ref n ∧ h[n]? = some (.lst xs) ∧ v = .ref a ∧ ρ.loc[n]? = some a ∧ H a = some (.lst vs) := by
  cases x with
  | ref n =>
    simp only [isLst] at e
    split at e
    · rename_i xs eo
      obtain ⟨p, rfl, qa, vs, hv, _⟩ := getref R r eo
      exact ⟨n, p, xs, vs, rfl, eo, rfl, qa, hv⟩
    · cases e
  | p v => cases e
  | tup xs => cases e
/-- one method of a list of ours -/
theorem putL_fin {ρ : Rh} {h : EH} {H : Hp} {τ : L2.St} {x : EV} {v : V} {f : List EV → Option (EV × List EV)} {k : EV → EH → Rh → Hp → Prop} (R : Rel G ρ h H) (r : Rep G ρ H x v) (ff : FinE G X τ ρ H (putL x f h) k) :
    ∃ n a xs vs z ys, v = .ref a ∧ H a = some (.lst vs) ∧ RepL G ρ H xs vs ∧ f xs = some (z, ys) ∧ ∀ ws, (∀ ρ' H', Mo ρ H ρ' H' → RepL G ρ' H' ys ws) → ∃ h', Ext ρ H ρ (upd H a (.lst ws)) ∧ Rel G ρ h' (upd H a (.lst ws)) ∧ Mo ρ H ρ (upd H a (.lst ws)) ∧ k z h' ρ (upd H a (.lst ws)) ∧ x = .ref n := by
  cases x with
  | ref n =>
    simp only [putL] at ff
    split at ff
    · rename_i xs eo
      split at ff
      · rename_i z ys ef
        obtain ⟨a, rfl, qa, vs, hv, rv⟩ := getref R r eo
        refine ⟨n, a, xs, vs, z, ys, rfl, hv, rv, ef, fun ws hw => ?_⟩
        have ex := Ext.write (u := .lst ws) qa (R.obj n a _ qa eo) rfl
        have R2 := R.write (o' := .lst ys) (u := .lst ws) qa eo ⟨_, upd_same, hw _ _ ex.toMo⟩ rfl
        exact ⟨_, ex, R2, ex.toMo, ff ρ _ ex R2, rfl⟩
      · exact ff.elim
    · exact ff.elim
  | p v => exact ff.elim
  | tup xs => exact ff.elim
theorem re_append {o e : Expr} {fo fe : ES → M EV} {ap cp : Pos} (ho : RE G X o fo) (he : RE G X e fe) (hbase : attributeBase o "append" X.env (eval o X.env) = eval o X.env := by rfl)
    (hfew : ((backTo cp (starEach [e] X.env)).all (fun x => !x.1) && (backToKw cp (keywordEach [] X.env)).all (fun x => x.1.isSome) && decide (([e] : List Expr).length + ([] : List Keyword).length + (if ([] : List Keyword).isEmpty then 0 else 1) < 30)) = true := by rfl)
    (hline : (ap.endLine == cp.line) = true := by rfl) (hs : starEach [e] X.env = (false, eval e X.env) :: starEach [] X.env := by rfl) : RE G X (.Call (.Attribute o "append" ap) [e] [] cp) (eAppend fo fe) := by
  intro σ h ρ τ H Q R S f
  refine wE.of (pe_bm PySem.F.plainAttrs_list PySem.F.slot_list_append PySem.F.type_list_append mt_append wE.pe (pa_cons wE.pe pa_nil hs) hbase hfew hline hs rfl) ?_
  refine ho σ h ρ τ H _ R S (FinE.imp (FinE.bind f) fun x h1 ρ1 H1 e1 R1 f1 v rv => ?_)
  split at f1
  · rename_i el
    obtain ⟨n, a, xs, vs, rfl, eo, rfl, qa, hv⟩ := lst_ref R1 rv el
    refine ⟨.inl ⟨rfl, vs, .inl (.inl hv)⟩, ?_⟩
    refine he σ h1 ρ1 τ H1 _ R1 (S.mono e1.toMo) (FinE.imp (FinE.bind f1) fun y h2 ρ2 H2 e2 R2 f2 w rw' => ?_)
    obtain ⟨_, a2, xs2, vs2, z, ys, ea, hv2, rv2, ef, kk⟩ := putL_fin R2 (rv.mono e2.toMo) f2
    cases ea
    unfold fApp at ef
    split at ef
    · rename_i hl
      cases ef
      obtain ⟨h', ex, R3, mo, kz, _⟩ := kk (vs2 ++ [w]) fun ρ' H' m => (rv2.append (.cons rw' .nil)).mono m
      exact ⟨a, vs2, w, rfl, rfl, hv2, by rw [← rv2.length]; exact sz_lt hl, kz _ (.p .non)⟩
    · cases ef
  · exact f1.elim
theorem re_extendL {o e : Expr} {fo : ES → M EV} {fe : ES → M (List EV)} {ap cp : Pos} (ho : RE G X o fo) (he : RL G X e fe) (hbase : attributeBase o "extend" X.env (eval o X.env) = eval o X.env := by rfl)
    (hfew : ((backTo cp (starEach [e] X.env)).all (fun x => !x.1) && (backToKw cp (keywordEach [] X.env)).all (fun x => x.1.isSome) && decide (([e] : List Expr).length + ([] : List Keyword).length + (if ([] : List Keyword).isEmpty then 0 else 1) < 30)) = true := by rfl)
    (hline : (ap.endLine == cp.line) = true := by rfl) (hs : starEach [e] X.env = (false, eval e X.env) :: starEach [] X.env := by rfl) : RE G X (.Call (.Attribute o "extend" ap) [e] [] cp) (eExtendL fo fe) := by
  intro σ h ρ τ H Q R S f
  refine wE.of (pe_bm PySem.F.plainAttrs_list PySem.F.slot_list_extend PySem.F.type_list_extend mt_extend wE.pe (pa_cons wE.pe pa_nil hs) hbase hfew hline hs rfl) ?_
  refine ho σ h ρ τ H _ R S (FinE.imp (FinE.bind f) fun x h1 ρ1 H1 e1 R1 f1 v rv => ?_)
  split at f1
  · rename_i el
    obtain ⟨n, a, xs, vs, rfl, eo, rfl, qa, hv⟩ := lst_ref R1 rv el
    refine ⟨.inl ⟨rfl, vs, .inl (.inl hv)⟩, ?_⟩
    refine he σ h1 ρ1 τ H1 _ R1 (S.mono e1.toMo) (FinE.imp (FinE.bind f1) fun ys h2 ρ2 H2 e2 R2 f2 p ws hp m l Rp r => ?_)
    obtain ⟨_, a2, xs2, vs2, z, zs, ea, hv2, rv2, ef, kk⟩ := putL_fin R2 (rv.mono e2.toMo) f2
    cases ea
    unfold fExt at ef
    split at ef
    · rename_i hl
      cases ef
      have r' := r.mono Mo.unhid
      obtain ⟨h', ex, R3, mo, kz, _⟩ := kk (vs2 ++ ws) fun ρ' H' m => (rv2.append r').mono m
      exact ⟨a, p, vs2, ws, rfl, rfl, hv2, l, by rw [← rv2.length, ← r'.length]; exact sz_ok hl, kz _ (.p .non)⟩
    · cases ef
  · exact f1.elim
theorem re_extend {o e : Expr} {fo fe : ES → M EV} {ap cp : Pos} (ho : RE G X o fo) (he : RE G X e fe) (hbase : attributeBase o "extend" X.env (eval o X.env) = eval o X.env := by rfl)
    (hfew : ((backTo cp (starEach [e] X.env)).all (fun x => !x.1) && (backToKw cp (keywordEach [] X.env)).all (fun x => x.1.isSome) && decide (([e] : List Expr).length + ([] : List Keyword).length + (if ([] : List Keyword).isEmpty then 0 else 1) < 30)) = true := by rfl)
    (hline : (ap.endLine == cp.line) = true := by rfl) (hs : starEach [e] X.env = (false, eval e X.env) :: starEach [] X.env := by rfl) : RE G X (.Call (.Attribute o "extend" ap) [e] [] cp) (eExtend fo fe) := by
  intro σ h ρ τ H Q R S f
  refine wE.of (pe_bm PySem.F.plainAttrs_list PySem.F.slot_list_extend PySem.F.type_list_extend mt_extend wE.pe (pa_cons wE.pe pa_nil hs) hbase hfew hline hs rfl) ?_
  refine ho σ h ρ τ H _ R S (FinE.imp (FinE.bind f) fun x h1 ρ1 H1 e1 R1 f1 v rv => ?_)
  split at f1
  · rename_i el
    obtain ⟨n, a, xs, vs, rfl, eo, rfl, qa, hv⟩ := lst_ref R1 rv el
    refine ⟨.inl ⟨rfl, vs, .inl (.inl hv)⟩, ?_⟩
    have f1' : FinE G X τ ρ1 H1 ((fe σ h1).bind fun v h1 => (Y.R.opt (lstOf h1 v) h1).bind fun ys h2 => putL (.ref n) (fExt ys) h2) (fun v _ ρ' H' => ∀ x, Rep G ρ' H' v x → Q x H') := by
      have q : ((fe σ h1).bind fun v h1 => (Y.R.opt (lstOf h1 v) h1).bind fun ys h2 => putL (.ref n) (fExt ys) h2) = (lOf fe σ h1).bind fun ys h2 => putL (.ref n) (fExt ys) h2 := by
        unfold lOf
        cases fe σ h1 <;> rfl
      rw [q]; exact f1
    refine he σ h1 ρ1 τ H1 _ R1 (S.mono e1.toMo) (FinE.imp (FinE.bind f1') fun y h2 ρ2 H2 e2 R2 f2 w rw' => ?_)
    obtain ⟨ys, el2, f3⟩ := opt_fin (FinE.bind f2)
    obtain ⟨p, ws, rfl, l, r'⟩ := lst_rep R2 rw' el2
    obtain ⟨_, a2, xs2, vs2, z, zs, ea, hv2, rv2, ef, kk⟩ := putL_fin R2 (rv.mono e2.toMo) (f3 ρ2 H2 Ext.refl R2)
    cases ea
    unfold fExt at ef
    split at ef
    · rename_i hl
      cases ef
      obtain ⟨h', ex, R3, mo, kz, _⟩ := kk (vs2 ++ ws) fun ρ' H' m => (rv2.append r').mono m
      exact ⟨a, p, vs2, ws, rfl, rfl, hv2, l, by rw [← rv2.length, ← r'.length]; exact sz_ok hl, kz _ (.p .non)⟩
    · cases ef
  · exact f1.elim

/-! ### dicts -/
theorem re_dict0 {pos : Pos} : RE G X (.Dict [] [] pos) eDict0 := by
  intro σ h ρ τ H Q R S f
  refine wE.of pe_dnewK fun p hp => ?_
  refine f (ρ.add p) _ (Ext.laid hp) (R.alloc hp ⟨[], upd_same, .nil⟩) _ (.ref ?_)
  simp only [Rh.add]
  rw [← R.len, List.getElem?_append_right (Nat.le_refl _)]
  simp
theorem re_dictT {pos : Pos} : RE G X (.Dict [] [] pos) eDictT := by
  intro σ h ρ τ H Q R S f
  refine wE.of pe_dnewT fun p hp => ?_
  refine f (ρ.add p) _ (Ext.laid hp) (R.alloc hp ⟨[], upd_same, .nil⟩) _ (.ref ?_)
  simp only [Rh.add]
  rw [← R.len, List.getElem?_append_right (Nat.le_refl _)]
  simp
theorem re_dictV {pos : Pos} : RE G X (.Dict [] [] pos) (eC (.p (.dic []))) := by
  intro σ h ρ τ H Q R S f
  refine wE.of pe_dnewK fun p hp => ?_
  exact f ρ _ (Ext.laid0 hp) (R.aside hp) _ (.p (.dK (R.fresh hp) (.inl upd_same) .nil))
theorem re_dictVT {pos : Pos} : RE G X (.Dict [] [] pos) (eC (.p (.dit []))) := by
  intro σ h ρ τ H Q R S f
  refine wE.of pe_dnewT fun p hp => ?_
  exact f ρ _ (Ext.laid0 hp) (R.aside hp) _ (.p (.dT (R.fresh hp) upd_same .nil))
theorem re_setd {o k d : Expr} {fo fk fd : ES → M EV} {ap cp : Pos} (ho : RE G X o fo) (hk : RE G X k fk) (hd : RE G X d fd) (m : M2 X o "setdefault" ap k d cp := by exact ⟨rfl, rfl, rfl, rfl⟩) : RE G X (.Call (.Attribute o "setdefault" ap) [k, d] [] cp) (eSetd fo fk fd) := by
  intro σ h ρ τ H Q R S f
  refine wE.of (pe_dsetd wE.pe wE.pe wE.pe m) ?_
  refine ho σ h ρ τ H _ R S (FinE.imp (FinE.bind f) fun x h1 ρ1 H1 e1 R1 f1 v rv => ?_)
  split at f1
  · rename_i ed
    cases x with
    | ref n =>
      simp only [isDKr] at ed
      split at ed
      · rename_i kvs eo
        obtain ⟨a, rfl, qa, ws, hw, _⟩ := getref R1 rv eo
        refine ⟨a, rfl, .inl ⟨ws, .inl hw⟩, ?_⟩
        refine hk σ h1 ρ1 τ H1 _ R1 (S.mono e1.toMo) (FinE.imp (FinE.bind f1) fun y h2 ρ2 H2 e2 R2 f2 u ru => ?_)
        refine hd σ h2 ρ2 τ H2 _ R2 ((S.mono e1.toMo).mono e2.toMo) (FinE.imp (FinE.bind f2) fun z h3 ρ3 H3 e3 R3 f3 t rt => ?_)
        obtain ⟨r, h4, e4, f4⟩ := FinE.lift f3
        unfold setd at e4
        split at e4
        · rename_i n' kk hn
          cases hn
          split at e4
          · rename_i kvs3 eo3
            split at e4
            · rename_i hl
              cases eκ : keyOf kk with
              | none => rw [eκ] at e4; cases e4
              | some κ =>
                rw [eκ] at e4
                have qa3 := (e2.trans e3).toMo.get qa
                have rk := rep_p (ru.mono e3.toMo)
                obtain ⟨ws3, hw3, rw3⟩ := R3.obj n a _ qa3 eo3
                have hu := key_rep rk eκ
                have fnd := RepP.find (kf := keyOf) (fun a b k j => keq_iff) eκ rw3
                refine ⟨ws3, κ, hw3, hu, by rw [← rw3.length]; exact sz_lt hl, fun v' hv' => ?_, fun hv' => ?_⟩
                · cases ev : dfind keq kk kvs3 with
                  | none => rw [fnd.2 ev] at hv'; cases hv'
                  | some x' =>
                    simp only [ev, Option.map_some, Option.some.injEq, Prod.mk.injEq] at e4
                    obtain ⟨rfl, rfl⟩ := e4
                    obtain ⟨w', h5, r5⟩ := fnd.1 _ ev
                    rw [hv'] at h5; cases h5
                    exact f4 ρ3 H3 Ext.refl R3 _ r5
                · cases ev : dfind keq kk kvs3 with
                  | some x' =>
                    obtain ⟨w', h5, r5⟩ := fnd.1 x' ev
                    rw [hv'] at h5; cases h5
                  | none =>
                    simp only [ev, Option.map_some, Option.some.injEq, Prod.mk.injEq] at e4
                    obtain ⟨rfl, rfl⟩ := e4
                    obtain ⟨ws4, hw4, _, ex, R4⟩ := put_dK R3 qa3 eo3 eκ rk.kok rt
                    rw [hw3] at hw4; cases hw4
                    exact f4 ρ3 _ ex R4 _ (rt.mono ex.toMo)
            · cases e4
          · cases e4
        · cases e4
      · cases ed
    | p v => cases ed
    | tup xs => cases ed
  · exact f1.elim
theorem dic_rep {ρ : Rh} {h : EH} {H : Hp} {x : EV} {v : V} (R : Rel G ρ h H) (r : Rep G ρ H x v) (e : isDic h x = true) : ∃ a, v = .ref a ∧ IsD H a := by
  have ir := inOf_rep R r
  unfold isDic at e
  cases ek : inOf h x with
  | kd kvs => rw [ek] at ir; obtain ⟨a, ws, rfl, q, _⟩ := ir; exact ⟨a, rfl, .inl ⟨ws, q⟩⟩
  | td kvs => rw [ek] at ir; obtain ⟨a, ws, rfl, q, _⟩ := ir; exact ⟨a, rfl, .inr ⟨ws, q⟩⟩
  | sgn s => rw [ek] at e; cases e
  | lst s => rw [ek] at e; cases e
  | tup s => rw [ek] at e; cases e
  | no => rw [ek] at e; cases e
theorem dget_rep {ρ : Rh} {h : EH} {H : Hp} {x y z w : EV} {v u t : V} (R : Rel G ρ h H) (rx : Rep G ρ H x v) (ry : Rep G ρ H y u) (rz : Rep G ρ H z t) (e : dgetV (inOf h x) y z = some w) : ∃ a o, v = .ref a ∧ DGet H a u o ∧ Rep G ρ H w (o.getD t) := by
  have ir := inOf_rep R rx
  unfold dgetV at e
  split at e
  · rename_i kvs k ek
    rw [ek] at ir
    obtain ⟨a, ws, rfl, sq, rr⟩ := ir
    cases eκ : keyOf k with
    | none => rw [eκ] at e; cases e
    | some κ =>
      rw [eκ] at e; cases e
      obtain rfl := key_rep (rep_p ry) eκ
      have fnd := RepP.find (kf := keyOf) (fun a b k j => keq_iff) eκ rr
      refine ⟨a, valV ws κ, rfl, .inl ⟨ws, κ, sq, rfl, rfl⟩, ?_⟩
      cases ev : dfind keq k kvs with
      | none => rw [fnd.2 ev]; exact rz
      | some x' => obtain ⟨w', h5, r5⟩ := fnd.1 x' ev; rw [h5]; exact r5
  · rename_i kvs k ek
    rw [ek] at ir
    obtain ⟨a, ws, rfl, sq, rr⟩ := ir
    cases eκ : tkeyOf k with
    | none => rw [eκ] at e; cases e
    | some κ =>
      rw [eκ] at e; cases e
      obtain ⟨b, rfl, _, hb⟩ := tkey_rep (rep_p ry) eκ
      have fnd := RepP.find (kf := tkeyOf) (fun a b k j => keqT_iff) eκ rr
      refine ⟨a, valV ws κ, rfl, .inr ⟨ws, κ, b, sq, rfl, hb, rfl⟩, ?_⟩
      cases ev : dfind keqT k kvs with
      | none => rw [fnd.2 ev]; exact rz
      | some x' => obtain ⟨w', h5, r5⟩ := fnd.1 x' ev; rw [h5]; exact r5
  · cases e
theorem re_dget2 {k0 : Nat} {o k d : Expr} {fo fk fd : ES → M EV} {ap cp : Pos} (hr : Room k0 X.A) (ho : RE G X o fo) (hk : RE G X k fk) (hd : RE G X d fd) (m : M2 X o "get" ap k d cp := by exact ⟨rfl, rfl, rfl, rfl⟩) : RE G X (.Call (.Attribute o "get" ap) [k, d] [] cp) (eDget2 fo fk fd) := by
  intro σ h ρ τ H Q R S f
  refine wE.of (pe_dget2 (by have := hr.un; omega) wE.pe wE.pe wE.pe m) ?_
  refine ho σ h ρ τ H _ R S (FinE.imp (FinE.bind f) fun x h1 ρ1 H1 e1 R1 f1 v rv => ?_)
  split at f1
  · rename_i ed
    obtain ⟨a, rfl, isd⟩ := dic_rep R1 rv ed
    refine ⟨a, rfl, isd, ?_⟩
    refine hk σ h1 ρ1 τ H1 _ R1 (S.mono e1.toMo) (FinE.imp (FinE.bind f1) fun y h2 ρ2 H2 e2 R2 f2 u ru => ?_)
    refine hd σ h2 ρ2 τ H2 _ R2 ((S.mono e1.toMo).mono e2.toMo) (FinE.imp (FinE.bind f2) fun z h3 ρ3 H3 e3 R3 f3 t rt => ?_)
    obtain ⟨w, ew, f4⟩ := opt_fin f3
    obtain ⟨a', ov, ea, g, rw'⟩ := dget_rep R3 ((rv.mono e2.toMo).mono e3.toMo) (ru.mono e3.toMo) rt ew
    cases ea
    exact ⟨ov, g, f4 ρ3 H3 Ext.refl R3 _ rw'⟩
  · exact f1.elim
theorem re_dget1 {k0 : Nat} {o k : Expr} {fo fk : ES → M EV} {ap cp : Pos} (hr : Room k0 X.A) (ho : RE G X o fo) (hk : RE G X k fk) (m : M1 X o "get" ap k cp := by exact ⟨rfl, rfl, rfl, rfl⟩) : RE G X (.Call (.Attribute o "get" ap) [k] [] cp) (eDget1 fo fk) := by
  intro σ h ρ τ H Q R S f
  refine wE.of (pe_dget1 (by have := hr.un; omega) wE.pe wE.pe m) ?_
  refine ho σ h ρ τ H _ R S (FinE.imp (FinE.bind f) fun x h1 ρ1 H1 e1 R1 f1 v rv => ?_)
  split at f1
  · rename_i ed
    obtain ⟨a, rfl, isd⟩ := dic_rep R1 rv ed
    refine ⟨a, rfl, isd, ?_⟩
    refine hk σ h1 ρ1 τ H1 _ R1 (S.mono e1.toMo) (FinE.imp (FinE.bind f1) fun y h2 ρ2 H2 e2 R2 f2 u ru => ?_)
    obtain ⟨w, ew, f4⟩ := opt_fin f2
    obtain ⟨a', ov, ea, g, rw'⟩ := dget_rep R2 (rv.mono e2.toMo) ru (.p .non) ew
    cases ea
    exact ⟨ov, g, f4 ρ2 H2 Ext.refl R2 _ rw'⟩
  · exact f1.elim

/-! ### walks over dicts: locked for good -/
def tLk (te : TE) : TE := fun σ H Q => te σ H fun x H1 => ∃ (d : Addr) (kvs : List (Key × V)), x = .ref d ∧ ((H1 d = some (.dK kvs) ∧ ∀ o, Q x (upd H1 d (.frz o (.dK kvs)))) ∨ ∃ o, H1 d = some (.frz o (.dK kvs)) ∧ Q x H1)
theorem pe_lk {e : Expr} {te : TE} (he : PE X e te) : PE X e (tLk te) := by
  refine ⟨fun pins s σ H Q I h => thn (he.run pins s σ H _ I h) fun u s1 ⟨x, H1, I1, rx, d, kvs, ex, q⟩ => ?_⟩
  rcases q with ⟨hd, q⟩ | ⟨o, hd, q⟩
  · obtain ⟨od, I2⟩ := I1.lock hd trivial
    exact ⟨x, _, I2, rx, q od⟩
  · exact ⟨x, H1, I1, rx, q⟩
theorem Ext.lockP {ρ : Rh} {H : Hp} {d : Addr} {ws : List (Key × V)} {o : Obj} (n : d ∉ ρ.all) (hd : H d = some (.dK ws)) : Ext ρ H ρ (upd H d (.frz o (.dK ws))) := by
  refine ⟨rfl, ⟨[], by simp⟩, fun a o' u q => ?_, fun a u m q => ?_, upd_dom, fun a m => .inl m⟩
  · rw [upd_ne (fun z => by subst z; rw [hd] at q; cases q)]; exact q
  · by_cases z : a = d
    · subst z
      rw [hd] at q; cases q
      exact .inr ⟨fun m => n (Rh.mem_all.mpr (.inl m)), rfl, o, upd_same⟩
    · exact .inl (by rw [upd_ne z]; exact q)
theorem Rel.lockP {ρ : Rh} {h : EH} {H : Hp} (R : Rel G ρ h H) {d : Addr} {ws : List (Key × V)} {o : Obj} (n : d ∉ ρ.all) (hd : H d = some (.dK ws)) : Rel G ρ h (upd H d (.frz o (.dK ws))) :=
  R.ext0 (Ext.lockP n hd) fun a u m q => by rw [upd_ne (fun z => n (by rw [← z]; exact Rh.mem_all.mpr (.inr m)))]; exact q
def CD (G : Wd) (a : Addr) (o : Obj) (kvs : List (PV × EV)) (ws : List (Key × V)) : Rh → Hp → Prop := fun ρ H => H a = some (.frz o (.dK ws)) ∧ RepP keyOf G ρ H kvs ws
theorem CD.keep {a : Addr} {o : Obj} {kvs : List (PV × EV)} {ws : List (Key × V)} : ∀ ρ H ρ' H', CD G a o kvs ws ρ H → Sx ρ H ρ' H' → CD G a o kvs ws ρ' H' := fun ρ H ρ' H' c e => ⟨e.lck _ _ _ c.1, c.2.mono e.mo⟩
/-- a dict, locked -/
theorem lock_run {ρ : Rh} {h h' : EH} {H : Hp} {v : EV} {w : V} {kvs : List (PV × EV)} {Q : VK} (R : Rel G ρ h H) (r : Rep G ρ H v w) (e : dlock v h = some (kvs, h')) (k : ∀ d o ws H', w = .ref d → Ext ρ H ρ H' → Rel G ρ h' H' → CD G d o kvs ws ρ H' → Q w H') :
    ∃ (d : Addr) (ws : List (Key × V)), w = .ref d ∧ ((H d = some (.dK ws) ∧ ∀ o, Q w (upd H d (.frz o (.dK ws)))) ∨ ∃ o, H d = some (.frz o (.dK ws)) ∧ Q w H) := by
  unfold dlock at e
  split at e
  · cases e
    cases rep_p r with
    | @dK d ws _ n q rr =>
      refine ⟨d, ws, rfl, ?_⟩
      rcases q with q | ⟨o, q⟩
      · exact .inl ⟨q, fun o => k d o ws _ rfl (Ext.lockP n q) (R.lockP n q) ⟨upd_same, rr.lift.mono (Ext.lockP n q).toMo⟩⟩
      · exact .inr ⟨o, q, k d o ws _ rfl Ext.refl R ⟨q, rr.lift⟩⟩
  · rename_i n
    split at e
    · rename_i kvs' eo
      cases e
      obtain ⟨a, rfl, qa, ws, hw, rw'⟩ := getref R r eo
      refine ⟨a, ws, rfl, .inl ⟨hw, fun o => ?_⟩⟩
      have ex := Ext.write (u := .frz o (.dK ws)) qa (R.obj n a _ qa eo) rfl
      exact k a o ws _ rfl ex (R.write qa eo ⟨o, ws, upd_same, rw'.mono ex.toMo⟩ rfl) ⟨upd_same, rw'.mono ex.toMo⟩
    · rename_i kvs' eo
      cases e
      obtain ⟨a, rfl, qa, o, ws, hw, rw'⟩ := getref R r eo
      exact ⟨a, ws, rfl, .inr ⟨o, hw, k a o ws _ rfl Ext.refl R ⟨hw, rw'⟩⟩⟩
    · cases e
  · cases e
theorem RepP.get {κ : Type} {kf : PV → Option κ} {ρ : Rh} {H : Hp} : ∀ {xs : List (PV × EV)} {vs : List (κ × V)} {i : Nat} {p : PV × EV}, RepP kf G ρ H xs vs → xs[i]? = some p → ∃ q v, vs[i]? = some (q, v) ∧ kf p.1 = some q ∧ KOk p.1 ∧ Rep G ρ H p.2 v
  | _, _, _, _, .nil, e => by simp at e
  | _, _, 0, _, .cons k a b, e => by simp at e; subst e; exact ⟨_, _, rfl, k.1, k.2, a⟩
  | _, _, i + 1, x, .cons k a b, e => by
    obtain ⟨q, v, h1, h2⟩ := RepP.get (i := i) (p := x) b (by simpa using e)
    exact ⟨q, v, by simpa using h1, h2⟩
theorem key_prep {ρ : Rh} {H : Hp} {k : PV} {κ : Key} (e : keyOf k = some κ) (o : KOk k) : PRep G ρ H k (kV κ) := by
  cases k <;> cases e
  · exact .int _
  · exact .str o
theorem ri_dvals {tg e : Expr} {f : ES → M EV} {ap cp : Pos} (he : RE G X e f) (hbase : attributeBase e "values" X.env (eval e X.env) = eval e X.env := by rfl) (hline : (ap.endLine == cp.line) = true := by rfl) : RI G X tg (.Call (.Attribute e "values" ap) [] [] cp) (iDV f) := by
  intro σ h ρ τ H R' R S ff
  refine wI.of (pi_values (pe_lk wE.pe) hbase hline) ?_
  refine he σ h ρ τ H _ R S (FinE.imp (FinE.bind ff) fun v h1 ρ1 H1 e1 R1 f1 w rv => ?_)
  obtain ⟨it, h2, e2, f2⟩ := FinE.lift f1
  cases ed : dlock v h1 with
  | none => rw [ed] at e2; cases e2
  | some q =>
    obtain ⟨kvs, h3⟩ := q
    rw [ed] at e2; cases e2
    refine lock_run (Q := fun x H1 => ∃ d o kvs, x = V.ref d ∧ H1 d = some (.frz o (.dK kvs)) ∧ R' (Itd d o kvs) H1) R1 rv ed fun d o ws H2 ew ex R2 c2 => ⟨d, o, ws, ew, c2.1, f2 ρ1 H2 ex R2 _ (CD G d o kvs ws) ⟨CD.keep, fun ρ h H i R c l => ⟨c.1, ?_⟩, fun ρ h H i x R c l => ?_⟩ c2⟩
    · rw [← c.2.length]; simpa using l
    · rw [List.getElem?_map] at l
      cases ek : kvs[i]? with
      | none => rw [ek] at l; cases l
      | some p =>
        rw [ek] at l; cases l
        obtain ⟨q, v', h5, _, _, r5⟩ := c.2.get ek
        refine ⟨⟨c.1, (List.getElem?_eq_some_iff.mp h5).1⟩, fun u H' y => ?_⟩
        obtain ⟨rfl, k, hk⟩ := y
        rw [h5] at hk; cases hk
        exact ⟨Ext.refl, R, r5⟩
theorem ri_dkeys {tg e : Expr} {f : ES → M EV} (he : RE G X e f) : RI G X tg e (iDK f) := by
  intro σ h ρ τ H R' R S ff
  refine wI.of (pi_keys (pe_lk wE.pe)) ?_
  refine he σ h ρ τ H _ R S (FinE.imp (FinE.bind ff) fun v h1 ρ1 H1 e1 R1 f1 w rv => ?_)
  obtain ⟨it, h2, e2, f2⟩ := FinE.lift f1
  cases ed : dlock v h1 with
  | none => rw [ed] at e2; cases e2
  | some q =>
    obtain ⟨kvs, h3⟩ := q
    rw [ed] at e2; cases e2
    refine lock_run (Q := fun x H1 => ∃ d o, x = V.ref d ∧ ((∃ kvs, H1 d = some (.frz o (.dK kvs)) ∧ R' (Itk d o kvs) H1) ∨ ∃ kvs, H1 d = some (.frz o (.dT kvs)) ∧ R' (Itkt d o kvs) H1)) R1 rv ed fun d o ws H2 ew ex R2 c2 => ⟨d, o, ew, .inl ⟨ws, c2.1, f2 ρ1 H2 ex R2 _ (CD G d o kvs ws) ⟨CD.keep, fun ρ h H i R c l => ⟨c.1, ?_⟩, fun ρ h H i x R c l => ?_⟩ c2⟩⟩
    · rw [← c.2.length]; simpa using l
    · rw [List.getElem?_map] at l
      cases ek : kvs[i]? with
      | none => rw [ek] at l; cases l
      | some p =>
        rw [ek] at l; cases l
        obtain ⟨q, v', h5, k5, o5, r5⟩ := c.2.get ek
        refine ⟨⟨c.1, (List.getElem?_eq_some_iff.mp h5).1⟩, fun u H' y => ?_⟩
        obtain ⟨rfl, k, v2, hk, rfl⟩ := y
        rw [h5] at hk; cases hk
        exact ⟨Ext.refl, R, .p (key_prep k5 o5)⟩
theorem ri_ditems {e : Expr} {elts : List Expr} {kk : Nat} {tp : Pos} {f : ES → M EV} {ap cp : Pos} (he : RE G X e f) (hbase : attributeBase e "items" X.env (eval e X.env) = eval e X.env := by rfl) (hline : (ap.endLine == cp.line) = true := by rfl) : RI G X (.Tuple elts kk tp) (.Call (.Attribute e "items" ap) [] [] cp) (iDI f) := by
  intro σ h ρ τ H R' R S ff
  refine wI.of (pi_items (pe_lk wE.pe) hbase hline) ?_
  refine he σ h ρ τ H _ R S (FinE.imp (FinE.bind ff) fun v h1 ρ1 H1 e1 R1 f1 w rv => ?_)
  obtain ⟨it, h2, e2, f2⟩ := FinE.lift f1
  cases ed : dlock v h1 with
  | none => rw [ed] at e2; cases e2
  | some q =>
    obtain ⟨kvs, h3⟩ := q
    rw [ed] at e2; cases e2
    refine lock_run (Q := fun x H1 => ∃ d o kvs, x = V.ref d ∧ H1 d = some (.frz o (.dK kvs)) ∧ R' (Iti d o kvs) H1) R1 rv ed fun d o ws H2 ew ex R2 c2 => ⟨d, o, ws, ew, c2.1, f2 ρ1 H2 ex R2 _ (CD G d o kvs ws) ⟨CD.keep, fun ρ h H i R c l => ⟨c.1, ?_⟩, fun ρ h H i x R c l => ?_⟩ c2⟩
    · rw [← c.2.length]; simpa using l
    · rw [List.getElem?_map] at l
      cases ek : kvs[i]? with
      | none => rw [ek] at l; cases l
      | some p =>
        rw [ek] at l; cases l
        obtain ⟨q, v', h5, k5, o5, r5⟩ := c.2.get ek
        refine ⟨⟨c.1, (List.getElem?_eq_some_iff.mp h5).1⟩, fun u H' y => ?_⟩
        obtain ⟨T, k, v2, hk, rfl, hT, rfl⟩ := y
        rw [h5] at hk; cases hk
        exact new_tup R hT (.cons (.p (key_prep k5 o5)) (.cons r5 .nil))
theorem keys_repE {ρ : Rh} {H : Hp} : ∀ {xs : List (PV × EV)} {vs : List (Key × V)}, RepP keyOf G ρ H xs vs → RepL G ρ H (xs.map fun kv => .p kv.1) (vs.map fun kv => kV kv.1)
  | _, _, .nil => .nil
  | _, _, .cons k a b => .cons (.p (key_prep k.1 k.2)) (keys_repE b)
theorem rl_dkeys {e : Expr} {f : ES → M EV} {p pos : Pos} (hm : X.mg "list" = none) (he : RE G X e f) (hc : X.calm = true := by rfl) (hg : Gl X "list" := by rfl) (hs : starEach [e] X.env = (false, eval e X.env) :: starEach [] X.env := by rfl) : RL G X (.Call (.Name "list" p) [e] [] pos) (lDK f) := by
  intro σ h ρ τ H Q R S ff
  refine wE.of (pe_callTy (call_listD hc) hg hm (by decide +kernel) (pa_cons wE.pe pa_nil hs) (by decide) (by decide) hs rfl) ?_
  refine he σ h ρ τ H _ R S (FinE.imp (FinE.bind ff) fun v h1 ρ1 H1 e1 R1 f1 w rv => ?_)
  obtain ⟨xs, eo, f2⟩ := opt_fin f1
  have ir := inOf_rep R1 rv
  unfold keysE at eo
  split at eo
  · rename_i kvs ek
    rw [ek] at ir
    obtain ⟨a, ws, rfl, sq, rr⟩ := ir
    cases eo
    exact ⟨a, ws, rfl, sq, fun t ht => LK.laid ht (e1.dom t ht) R1 (keys_repE rr) (f2 ρ1 _ (Ext.laid0 ht) (R1.aside ht))⟩
  · cases eo
end
end Y
end

section
/-! Y, calls of defs, of methods, of classes; attributes. -/
namespace Y
open PySem PySem.Spec PyProof.Rows L2

/-- f(vs), in plain: the callee has a heap of its own -/
def pcall (F : List EV → EH → R EV) (ps : List PV) (h : EH) : R EV := match F (ps.map .p) [] with
  | .ok v h2 => match rsv h2 30 v with
    | some q => .ok (.p q) h
    | none => .stuck
  | .exc c fs _ => .exc c fs h
  | .stuck => .stuck
def callX (F : List EV → EH → R EV) (vs : List EV) (h : EH) : R EV := match allP vs with
  | some ps => pcall F ps h
  | none => F vs h
/-- a call whose callee has a heap of its own, if all arguments are plain -/
def eFnP (F : List EV → EH → R EV) (ds : List PV) (fa : ES → M (List EV)) : ES → M EV := fun σ h => (fa σ h).bind fun vs h1 => callX F (vs ++ ds.map .p) h1
/-- .. whose callee works in our heap -/
def eFnI (F : List EV → EH → R EV) (ds : List PV) (fa : ES → M (List EV)) : ES → M EV := fun σ h => (fa σ h).bind fun vs h1 => F (vs ++ ds.map .p) h1
def clsOf (h : EH) : EV → Option Nat
  | .p (.obj c _) => some c
  | .ref n => match h[n]? with
    | some (.ins c _) => some c
    | _ => none
  | _ => none
/-- a method, by the instance's class -/
def eMeth (tb : Nat → Option (List EV → EH → R EV)) (ds : List PV) (fo : ES → M EV) (fa : ES → M (List EV)) : ES → M EV := fun σ h => (fo σ h).bind fun x h1 => match clsOf h1 x with
  | some c => match tb c with
    | some F => (fa σ h1).bind fun vs h2 => callX F (x :: (vs ++ ds.map .p)) h2
    | none => .stuck
  | none => .stuck
def eMethI (tb : Nat → Option (List EV → EH → R EV)) (ds : List PV) (fo : ES → M EV) (fa : ES → M (List EV)) : ES → M EV := fun σ h => (fo σ h).bind fun x h1 => match clsOf h1 x with
  | some c => match tb c with
    | some F => (fa σ h1).bind fun vs h2 => F (x :: (vs ++ ds.map .p)) h2
    | none => .stuck
  | none => .stuck
/-- C(vs): a new instance, in plain; in our heap -/
def pmake (c : Nat) (F : List EV → EH → R EV) (ps : List PV) (h : EH) : R EV := match F (.ref 0 :: ps.map .p) [.ins c []] with
  | .ok (.p .non) h2 => match rsv h2 30 (.ref 0) with
    | some q => .ok (.p q) h
    | none => .stuck
  | .ok _ _ => .stuck
  | .exc c fs _ => .exc c fs h
  | .stuck => .stuck
def imake (c : Nat) (F : List EV → EH → R EV) (vs : List EV) (h : EH) : R EV := match F (.ref h.length :: vs) (h ++ [.ins c []]) with
  | .ok (.p .non) h2 => .ok (.ref h.length) h2
  | .ok _ _ => .stuck
  | .exc c fs h2 => .exc c fs h2
  | .stuck => .stuck
def makeX (c : Nat) (F : List EV → EH → R EV) (vs : List EV) (h : EH) : R EV := match allP vs with
  | some ps => pmake c F ps h
  | none => imake c F vs h
def eMake (c : Nat) (F : List EV → EH → R EV) (ds : List PV) (fa : ES → M (List EV)) : ES → M EV := fun σ h => (fa σ h).bind fun vs h1 => makeX c F (vs ++ ds.map .p) h1
def eMakeI (c : Nat) (F : List EV → EH → R EV) (ds : List PV) (fa : ES → M (List EV)) : ES → M EV := fun σ h => (fa σ h).bind fun vs h1 => imake c F (vs ++ ds.map .p) h1
def lkN {α : Type} (k : Nat) : List (Nat × α) → Option α
  | [] => none
  | (j, v) :: r => match Nat.beq j k with
    | true => some v
    | false => lkN k r
def ptN {α : Type} (k : Nat) (v : α) : List (Nat × α) → List (Nat × α)
  | [] => [(k, v)]
  | (j, w) :: r => match Nat.beq j k with
    | true => (j, v) :: r
    | false => (j, w) :: ptN k v r
/-- o.f -/
def attr (k : Nat) (x : EV) (h : EH) : Option EV := match x with
  | .p (.obj _ fs) => (lkN k fs).map .p
  | .ref n => match h[n]? with
    | some (.ins _ fs) => lkN k fs
    | _ => none
  | _ => none
def eAttr (k : Nat) (fo : ES → M EV) : ES → M EV := fun σ h => (fo σ h).bind fun x h1 => R.opt (attr k x h1) h1
/-- o.f = e -/
def putA (fa : Nat → Nat → Bool) (k : Nat) (x v : EV) (h : EH) : Option EH := match x with
  | .ref n => match h[n]? with
    | some (.ins c fs) => match fa c k, Nat.blt fs.length 900 with
      | true, true => some (h.set n (.ins c (ptN k v fs)))
      | _, _ => none
    | _ => none
  | _ => none
def sAttr (fa : Nat → Nat → Bool) (k : Nat) (fo fe : ES → M EV) : ES → EH → FL := fun σ h => (fe σ h).fl σ fun v h1 => (fo σ h1).fl σ fun x h2 => match putA fa k x v h2 with
  | some h3 => .nx σ h3
  | none => .stuck

section
variable {G : Wd} {X : Cx}
/-- a call, at some slots -/
def wK (X : Cx) (τ : L2.St) (f : Value) : List V → Hp → VK → Prop := fun xs H Q => ∀ pins s us, Inv X pins τ H s → Vals xs us → wpAny (model X.prog X.w) X.A (call f us) (EP X pins τ Q) X.xe s
def tNamed (X : Cx) (f : Value) (t : TA) : TE := fun σ H Q => t σ H fun vs H1 => wK X σ f vs H1 Q
theorem pe_named {x : Str} {f : Addr} {e : Expr} {es : List Expr} {t : TA} {p pos : Pos} (hg : Gl X x) (hm : X.mg x = some (.ref f)) (kp : PySem.W.keepIn X.K (.ref f) = true) (ha : PA X (e :: es) t)
    (db : (x == ("__debug__" : Str)) = false) (st : starEach (e :: es) X.env = (false, eval e X.env) :: starEach es X.env) (np : (backTo pos (starEach es X.env)).any (·.1) = false) :
    PE X (.Call (.Name x p) (e :: es) [] pos) (tNamed X (.ref f) t) :=
  ⟨fun pins s σ H Q I h => wpAny_Call_Name_kw (ld_glob I hg hm
    (PySem.W.callWith_K (h₀ := X.base) I.ok.mod.kin kp
      (thn (ha.run pos pins s σ H _ I h) fun us s1 ⟨vs, H1, J, r, q⟩ => ⟨J.kIn, q pins s1 us J r⟩) st np) db)⟩
theorem pe_named0 {x : Str} {f : Addr} {p pos : Pos} (hg : Gl X x) (hm : X.mg x = some (.ref f)) (kp : PySem.W.keepIn X.K (.ref f) = true) (db : (x == ("__debug__" : Str)) = false) :
    PE X (.Call (.Name x p) [] [] pos) (tNamed X (.ref f) tNil) :=
  ⟨fun pins s σ H Q I h => wpAny_Call_Name_kw (ld_glob I hg hm (PySem.W.callWith_K0 I.kIn kp (h pins s [] I .nil)) db)⟩
/-- a method of an instance -/
def tMsg (X : Cx) (m : Str) (ta : TE) (t : TA) : TE := fun σ H Q => ta σ H fun x H1 => ∃ (a C dx g : Addr) (fs : List (Str × V)), x = .ref a ∧ H1 a = some (.ins C dx fs) ∧ Cls X.K C ∧ Meth X.K C m g ∧ fs.lookup m = none ∧ t σ H1 fun vs H2 => wK X σ (.ref g) (x :: vs) H2 Q
theorem pe_msg {m : Str} {o e : Expr} {es : List Expr} {ta : TE} {t : TA} {ap pos : Pos} {pl : Sem Bool} (ho : PE X o ta) (ha : PA X (e :: es) t)
    (st : starEach (e :: es) X.env = (false, eval e X.env) :: starEach es X.env) (np : (backTo pos (starEach es X.env)).any (·.1) = false)
    (ev : eval (.Call (.Attribute o m ap) (e :: es) [] pos) X.env = (do
      let ov ← eval o X.env
      standAt ap.atName
      let (f, first) ← holding [ov] (getMethod ov m pl)
      callWith pos f first (backTo pos (starEach (e :: es) X.env)) (backToKw pos (keywordEach [] X.env)))) :
    PE X (.Call (.Attribute o m ap) (e :: es) [] pos) (tMsg X m ta t) := by
  refine ⟨fun pins s σ H Q I h => PySem.W.methodCall_KW (pl := pl) (thn (ho.run pins s σ H _ I h) fun u s1 ⟨x, H1, J, rx, a, C, dx, g, fs, ex, ea, c, mt, no, q⟩ => ?_) ev⟩
  subst ex
  cases (show u = Value.ref a from rx)
  exact getmeth_ok J ea c mt no (PySem.W.callWith_K (h₀ := X.base) (first := [.ref a]) I.ok.mod.kin mt.kp
    (thn (ha.run pos pins s1 σ H1 _ J q) fun us s2 ⟨vs, H2, J2, r, q2⟩ => ⟨J2.kIn, q2 pins s2 (.ref a :: us) J2 (.cons rfl r)⟩) st np)
theorem pe_msg0 {m : Str} {o : Expr} {ta : TE} {ap pos : Pos} {pl : Sem Bool} (ho : PE X o ta)
    (ev : eval (.Call (.Attribute o m ap) [] [] pos) X.env = (do
      let ov ← eval o X.env
      standAt ap.atName
      let (f, first) ← holding [ov] (getMethod ov m pl)
      callWith pos f first (backTo pos (starEach [] X.env)) (backToKw pos (keywordEach [] X.env)))) :
    PE X (.Call (.Attribute o m ap) [] [] pos) (tMsg X m ta tNil) := by
  refine ⟨fun pins s σ H Q I h => PySem.W.methodCall_KW (pl := pl) (thn (ho.run pins s σ H _ I h) fun u s1 ⟨x, H1, J, rx, a, C, dx, g, fs, ex, ea, c, mt, no, q⟩ => ?_) ev⟩
  subst ex
  cases (show u = Value.ref a from rx)
  exact getmeth_ok J ea c mt no (PySem.W.callWith_K0 (first := [.ref a]) J.kIn mt.kp (q pins s1 [.ref a] J (.cons rfl .nil)))

/-! ### what a def promises, used -/
theorem wk_fn {k j n : Nat} {f : Addr} {fd : FuncData} {ps : List Str} {us : List Value} {dvs : List V} {F : List EV → EH → Y.R EV} {τ : L2.St} {vs : List V} {H : Hp} {Q : VK} {E : XK} (O : FnOk X.prog X.w X.K X.mg X.base (L2.CX X.prog X.w) k f fd ps (spF G n F)) (hr : Room j X.A) (hj : k ≤ j) (hb : Binds X.K fd ps us) (hd : Vals dvs us)
    (hx : PassesAt (L2.CX X.prog X.w) X τ E) (h : spF G n F (vs ++ dvs) H Q E) : wK X τ (.ref f) vs H Q :=
  fun pins s ws I r => run_fnSD (E := fun _ => E) O (hr.mono hj) hb hd hx I r h
theorem callX_ok {F : List EV → EH → Y.R EV} {vs : List EV} {xs : List V} {h : EH} {ρ : Rh} {H : Hp} {τ : L2.St} {Q : VK} {n : Nat} (hn : vs.length = n) (R : Rel G ρ h H) (r : RepL G ρ H vs xs) (f : FinE G X τ ρ H (callX F vs h) (fun v _ ρ' H' => ∀ x, Rep G ρ' H' v x → Q x H')) :
    ∃ E, PassesAt (L2.CX X.prog X.w) X τ E ∧ spF G n F xs H Q E := by
  unfold callX at f
  split at f
  · rename_i ps ep
    have rp : PRepL G ρ.away H ps xs := (r.plain ep).set fun a m => Rh.mem_away.mp m
    unfold pcall at f
    have sub : ∀ {ρ' H'}, Ext ρ.away H ρ' H' → ∀ a, a ∈ ρ.all → a ∈ (Rh.mk ρ'.out []).all := fun e a m => Rh.mem_all.mpr (.inl (by rw [e.out]; exact m))
    split at f
    · rename_i v h2 eF
      split at f
      · rename_i q eq'
        refine ⟨fun _ _ _ => False, passNo, by rw [← r.length]; exact hn, ps.map .p, ρ.away, [], R.away, rp.lift, ?_⟩
        rw [eF]
        intro ρ' H' x e R' rx
        have pr := (rsv_rep R' 30 v x q rx eq').set (sub e)
        exact f ρ H' e.ours (R.ours e) x (.p pr)
      · exact f.elim
    · rename_i c fs h2 eF
      obtain ⟨W, tk, f⟩ := f
      refine ⟨L2.WE W τ, passAt tk τ, by rw [← r.length]; exact hn, ps.map .p, ρ.away, [], R.away, rp.lift, ?_⟩
      rw [eF]
      intro ρ' H' d e R' ⟨nd, gs, hd, rg⟩
      have sb : ∀ a, a ∈ ρ.all → a ∈ ρ'.all := fun a m => by
        rcases Rh.mem_all.mp (sub e a m) with z | z
        · exact Rh.mem_all.mpr (.inl z)
        · exact nomatch z
      exact f ρ H' d e.ours (R.ours e) ⟨fun m => nd (sb d m), gs, hd, rg.set sb⟩
    · exact f.elim
  · cases eF : F vs h with
    | ok v h2 =>
      rw [eF] at f
      refine ⟨fun _ _ _ => False, passNo, by rw [← r.length]; exact hn, vs, ρ, h, R, r, ?_⟩
      rw [eF]
      exact fun ρ' H' x e R' rx => f ρ' H' e R' x rx
    | exc c fs h2 =>
      rw [eF] at f
      obtain ⟨W, tk, f⟩ := f
      refine ⟨L2.WE W τ, passAt tk τ, by rw [← r.length]; exact hn, vs, ρ, h, R, r, ?_⟩
      rw [eF]
      exact fun ρ' H' d e R' x => f ρ' H' d e R' x
    | stuck => rw [eF] at f; exact f.elim
theorem callI_ok {F : List EV → EH → Y.R EV} {vs : List EV} {xs : List V} {h : EH} {ρ : Rh} {H : Hp} {τ : L2.St} {Q : VK} {n : Nat} (hn : vs.length = n) (R : Rel G ρ h H) (r : RepL G ρ H vs xs) (f : FinE G X τ ρ H (F vs h) (fun v _ ρ' H' => ∀ x, Rep G ρ' H' v x → Q x H')) :
    ∃ E, PassesAt (L2.CX X.prog X.w) X τ E ∧ spF G n F xs H Q E := by
  cases eF : F vs h with
  | ok v h2 =>
    rw [eF] at f
    refine ⟨fun _ _ _ => False, passNo, by rw [← r.length]; exact hn, vs, ρ, h, R, r, ?_⟩
    rw [eF]
    exact fun ρ' H' x e R' rx => f ρ' H' e R' x rx
  | exc c fs h2 =>
    rw [eF] at f
    obtain ⟨W, tk, f⟩ := f
    refine ⟨L2.WE W τ, passAt tk τ, by rw [← r.length]; exact hn, vs, ρ, h, R, r, ?_⟩
    rw [eF]
    exact fun ρ' H' d e R' x => f ρ' H' d e R' x
  | stuck => rw [eF] at f; exact f.elim
theorem RA.run {es : List Expr} {fa : ES → M (List EV)} (ha : RA G X es fa) {σ : ES} {h h1 : EH} {ρ : Rh} {τ : L2.St} {H : Hp} {vs : List EV} (R : Rel G ρ h H) (S : SR G ρ H σ τ) (e0 : fa σ h = .ok vs h1) {k : List V → Hp → Prop}
    (hk : ∀ ρ1 H1 xs, Ext ρ H ρ1 H1 → Rel G ρ1 h1 H1 → RepL G ρ1 H1 vs xs → k xs H1) : wA X es τ H k := by
  refine ha σ h ρ τ H k R S ?_
  rw [e0]
  exact fun ρ1 H1 e1 R1 w rw' => hk ρ1 H1 w e1 R1 rw'
theorem RA.fail {es : List Expr} {fa : ES → M (List EV)} (ha : RA G X es fa) {α : Type} {σ : ES} {h : EH} {ρ : Rh} {τ : L2.St} {H : Hp} {g : List EV → EH → Y.R α} {k : List V → Hp → Prop} {k' : α → EH → Rh → Hp → Prop} (R : Rel G ρ h H) (S : SR G ρ H σ τ) (f : FinE G X τ ρ H ((fa σ h).bind g) k') (no : ∀ x h1, fa σ h ≠ .ok x h1) : wA X es τ H k := by
  refine ha σ h ρ τ H k R S ?_
  cases e : fa σ h with
  | ok x h1 => exact absurd e (no x h1)
  | exc c fs h1 => rw [e] at f; exact f
  | stuck => rw [e] at f; exact f
/-- a def of the text, by its name, that follows a function; ds: what is put for the last parameters where they are left out -/
structure Dfn (P : Program) (w : World) (G : Wd) (mg : Str → Option Value) (base : Heap) (k : Nat) (x : Str) (n : Nat) (ds : List PV) (F : List EV → EH → Y.R EV) : Prop where
  ex : ∃ (f : Addr) (fd : FuncData) (ps : List Str) (us : List Value) (dvs : List V), FnOk P w G.K mg base (L2.CX P w) k f fd ps (spF G n F) ∧ mg x = some (.ref f) ∧ PySem.W.keepIn G.K (.ref f) = true ∧ Binds G.K fd ps us ∧ Vals dvs us ∧ ∀ ρ H, PRepL G ρ H ds dvs
section
variable {F : List EV → EH → Y.R EV} {k j n m : Nat} {x : Str} {ds : List PV} {e : Expr} {es : List Expr} {fa : ES → M (List EV)} {p pos : Pos}
theorem re_fnP (D : Dfn X.prog X.w G X.mg X.base k x n ds F) (hr : Room j X.A) (hj : k ≤ j) (ha : RA G X (e :: es) fa) (hl : ALen fa m) (hn : m + ds.length = n := by rfl) (hK : X.K = G.K := by rfl) (hg : Gl X x := by rfl)
    (db : (x == ("__debug__" : Str)) = false := by decide) (st : starEach (e :: es) X.env = (false, eval e X.env) :: starEach es X.env := by first | exact star_cons rfl | rfl) (np : (backTo pos (starEach es X.env)).any (·.1) = false := by rfl) : RE G X (.Call (.Name x p) (e :: es) [] pos) (eFnP F ds fa) := by
  obtain ⟨f, fd, ps, us, dvs, O, hm, kp, hb, hd, rd⟩ := D.ex
  rw [← hK] at O kp hb
  intro σ h ρ τ H Q R S ff
  refine wE.of (pe_named hg hm kp wA.pa db st np) ?_
  by_cases ok : ∃ vs h1, fa σ h = .ok vs h1
  · obtain ⟨vs, h1, e0⟩ := ok
    refine ha.run R S e0 fun ρ1 H1 xs x1 R1 rx => ?_
    have f1 : FinE G X τ ρ H (callX F (vs ++ ds.map .p) h1) (fun v _ ρ' H' => ∀ x, Rep G ρ' H' v x → Q x H') := by
      dsimp only [eFnP] at ff
      rw [e0] at ff
      exact ff
    obtain ⟨E, px, sp⟩ := callX_ok (n := n) (by simp [hl _ _ _ _ e0, hn]) R1 (rx.append (rd ρ1 H1).lift) (FinE.start x1 f1)
    exact wk_fn O hr hj hb hd px sp
  · exact ha.fail R S ff fun vs h1 q => ok ⟨vs, h1, q⟩
theorem re_fnI (D : Dfn X.prog X.w G X.mg X.base k x n ds F) (hr : Room j X.A) (hj : k ≤ j) (ha : RA G X (e :: es) fa) (hl : ALen fa m) (hn : m + ds.length = n := by rfl) (hK : X.K = G.K := by rfl) (hg : Gl X x := by rfl)
    (db : (x == ("__debug__" : Str)) = false := by decide) (st : starEach (e :: es) X.env = (false, eval e X.env) :: starEach es X.env := by first | exact star_cons rfl | rfl) (np : (backTo pos (starEach es X.env)).any (·.1) = false := by rfl) : RE G X (.Call (.Name x p) (e :: es) [] pos) (eFnI F ds fa) := by
  obtain ⟨f, fd, ps, us, dvs, O, hm, kp, hb, hd, rd⟩ := D.ex
  rw [← hK] at O kp hb
  intro σ h ρ τ H Q R S ff
  refine wE.of (pe_named hg hm kp wA.pa db st np) ?_
  by_cases ok : ∃ vs h1, fa σ h = .ok vs h1
  · obtain ⟨vs, h1, e0⟩ := ok
    refine ha.run R S e0 fun ρ1 H1 xs x1 R1 rx => ?_
    have f1 : FinE G X τ ρ H (F (vs ++ ds.map .p) h1) (fun v _ ρ' H' => ∀ x, Rep G ρ' H' v x → Q x H') := by
      dsimp only [eFnI] at ff
      rw [e0] at ff
      exact ff
    obtain ⟨E, px, sp⟩ := callI_ok (n := n) (by simp [hl _ _ _ _ e0, hn]) R1 (rx.append (rd ρ1 H1).lift) (FinE.start x1 f1)
    exact wk_fn O hr hj hb hd px sp
  · exact ha.fail R S ff fun vs h1 q => ok ⟨vs, h1, q⟩
theorem re_fnP0 (D : Dfn X.prog X.w G X.mg X.base k x n ds F) (hr : Room j X.A) (hj : k ≤ j) (hn : ds.length = n := by rfl) (hK : X.K = G.K := by rfl) (hg : Gl X x := by rfl) (db : (x == ("__debug__" : Str)) = false := by decide) : RE G X (.Call (.Name x p) [] [] pos) (eFnP F ds aNil) := by
  obtain ⟨f, fd, ps, us, dvs, O, hm, kp, hb, hd, rd⟩ := D.ex
  rw [← hK] at O kp hb
  intro σ h ρ τ H Q R S ff
  refine wE.of (pe_named0 hg hm kp db) ?_
  have f1 : FinE G X τ ρ H (callX F ([] ++ ds.map .p) h) (fun v _ ρ' H' => ∀ x, Rep G ρ' H' v x → Q x H') := ff
  obtain ⟨E, px, sp⟩ := callX_ok (n := n) (by simp [hn]) R (RepL.append .nil (rd ρ H).lift) f1
  exact wk_fn (vs := []) O hr hj hb hd px sp
theorem re_fnI0 (D : Dfn X.prog X.w G X.mg X.base k x n ds F) (hr : Room j X.A) (hj : k ≤ j) (hn : ds.length = n := by rfl) (hK : X.K = G.K := by rfl) (hg : Gl X x := by rfl) (db : (x == ("__debug__" : Str)) = false := by decide) : RE G X (.Call (.Name x p) [] [] pos) (eFnI F ds aNil) := by
  obtain ⟨f, fd, ps, us, dvs, O, hm, kp, hb, hd, rd⟩ := D.ex
  rw [← hK] at O kp hb
  intro σ h ρ τ H Q R S ff
  refine wE.of (pe_named0 hg hm kp db) ?_
  have f1 : FinE G X τ ρ H (F ([] ++ ds.map .p) h) (fun v _ ρ' H' => ∀ x, Rep G ρ' H' v x → Q x H') := ff
  obtain ⟨E, px, sp⟩ := callI_ok (n := n) (by simp [hn]) R (RepL.append .nil (rd ρ H).lift) f1
  exact wk_fn (vs := []) O hr hj hb hd px sp
end

/-! ### attributes -/
/-- what the written part says of the ordinary classes -/
structure Cla (G : Wd) : Prop where
  cls : ∀ c, G.KD c = .ord → (∃ k, G.FA c k = true) → Cls G.K (G.CA c)
  no : ∀ c k, G.KD c = .ord → G.FA c k = true → NoAttr G.K (G.CA c) (G.AN k)
theorem lkF {ρ : Rh} {H : Hp} {k : Nat} (hk : k < G.NN) : ∀ {fs : List (Nat × EV)} {gs : List (Str × V)}, RepF G ρ H fs gs → (∀ x, lkN k fs = some x → ∃ v, gs.lookup (G.AN k) = some v ∧ Rep G ρ H x v) ∧ (lkN k fs = none → gs.lookup (G.AN k) = none)
  | _, _, .nil => ⟨fun x e => (by cases e), fun _ => rfl⟩
  | _, _, .cons (k := j) hj a b => by
    obtain ⟨h1, h2⟩ := lkF hk b
    by_cases e : j = k
    · subst e
      refine ⟨fun x hx => ?_, fun hx => ?_⟩
      · simp only [lkN, Nat.beq_refl, Option.some.injEq] at hx
        subst hx
        exact ⟨_, by simp, a⟩
      · simp [lkN] at hx
    · have nb : Nat.beq j k = false := by
        cases q : Nat.beq j k with
        | false => rfl
        | true => exact absurd (Nat.beq_eq.mp q) e
      have na : ¬ G.AN k = G.AN j := fun z => e (G.inj _ _ hk hj z).symm
      have nb2 : (G.AN k == G.AN j) = false := by simpa using na
      refine ⟨fun x hx => ?_, fun hx => ?_⟩
      · simp only [lkN, nb] at hx
        obtain ⟨v, hv, rv⟩ := h1 x hx
        exact ⟨v, by simp [List.lookup_cons, nb2, hv], rv⟩
      · simp only [lkN, nb] at hx
        simp [List.lookup_cons, nb2, h2 hx]
theorem PRepF.lift {ρ : Rh} {H : Hp} : ∀ {fs : List (Nat × PV)} {gs : List (Str × V)}, PRepF G ρ H fs gs → RepF G ρ H (fs.map fun q => (q.1, .p q.2)) gs
  | _, _, .nil => .nil
  | _, _, .cons k a b => .cons k (.p a) (PRepF.lift b)
theorem lkN_map {α β : Type} (f : α → β) (k : Nat) : ∀ fs : List (Nat × α), lkN k (fs.map fun q => (q.1, f q.2)) = (lkN k fs).map f
  | [] => rfl
  | (j, v) :: r => by
    simp only [List.map_cons, lkN]
    cases Nat.beq j k with
    | true => rfl
    | false => exact lkN_map f k r
theorem lkN_mem {α : Type} {k : Nat} : ∀ {fs : List (Nat × α)} {x : α}, lkN k fs = some x → (k, x) ∈ fs
  | [], _, e => by cases e
  | (j, v) :: r, x, e => by
    simp only [lkN] at e
    cases q : Nat.beq j k with
    | true => rw [q] at e; cases e; rw [Nat.beq_eq.mp q]; exact List.mem_cons_self
    | false => rw [q] at e; exact List.mem_cons_of_mem _ (lkN_mem e)
theorem re_attr {k : Nat} {o : Expr} {fo : ES → M EV} {f : Str} {pos : Pos} (T : Cla G) (hk : k < G.NN) (hf : G.AN k = f) (ho : RE G X o fo) (od : ∀ c, G.FA c k = true → G.KD c = .ord) (hK : X.K = G.K := by rfl) (hb : attributeBase o f X.env (eval o X.env) = eval o X.env := by rfl) : RE G X (.Attribute o f pos) (eAttr k fo) := by
  subst hf
  intro σ h ρ τ H Q R S ff
  refine wE.of (pe_fld wE.pe hb) ?_
  refine ho σ h ρ τ H _ R S (FinE.imp (FinE.bind ff) fun x h1 ρ1 H1 e1 R1 f1 v rv => ?_)
  obtain ⟨z, ez, f2⟩ := opt_fin f1
  unfold attr at ez
  split at ez
  · rename_i c fs
    cases rep_p rv with
    | @obj _ a gs _ ob rf fa =>
      cases el : lkN k fs with
      | none => rw [el] at ez; cases ez
      | some y =>
        rw [el] at ez; cases ez
        have fk := fa _ (lkN_mem el)
        have kd := od c fk
        obtain ⟨n, ob⟩ := ob
        rw [kd] at ob
        obtain ⟨dx, q⟩ := ob
        obtain ⟨w, lw, rw'⟩ := (lkF hk rf.lift).1 (.p y) (by rw [lkN_map, el]; rfl)
        exact ⟨a, G.CA c, dx, gs, w, rfl, q, by rw [hK]; exact T.cls c kd ⟨k, fk⟩, by rw [hK]; exact T.no c k kd fk, lw, f2 ρ1 H1 Ext.refl R1 w rw'⟩
  · split at ez
    · rename_i c fs eo
      obtain ⟨a, rfl, qa, dx, gs, q, rf, kd, fa⟩ := getref R1 rv eo
      have fk := fa _ (lkN_mem ez)
      obtain ⟨w, lw, rw'⟩ := (lkF hk rf).1 _ ez
      exact ⟨a, G.CA c, dx, gs, w, rfl, q, by rw [hK]; exact T.cls c kd ⟨k, fk⟩, by rw [hK]; exact T.no c k kd fk, lw, f2 ρ1 H1 Ext.refl R1 w rw'⟩
    · cases ez
  · cases ez
end
end Y
end

section
/-! Y, stores into attributes, new instances, methods. -/
namespace Y
open PySem PySem.Spec PyProof.Rows L2
section
variable {G : Wd} {X : Cx}
theorem ptF {ρ : Rh} {H : Hp} {k : Nat} (hk : k < G.NN) {x : EV} {v : V} (r : Rep G ρ H x v) : ∀ {fs : List (Nat × EV)} {gs : List (Str × V)}, RepF G ρ H fs gs → RepF G ρ H (ptN k x fs) (putF (G.AN k) v gs)
  | _, _, .nil => .cons hk r .nil
  | _, _, .cons (k := j) hj a b => by
    by_cases e : j = k
    · subst e
      simp only [ptN, Nat.beq_refl, putF, if_true]
      exact .cons hj r b
    · have nb : Nat.beq j k = false := by
        cases q : Nat.beq j k with
        | false => rfl
        | true => exact absurd (Nat.beq_eq.mp q) e
      have na : ¬ G.AN j = G.AN k := fun z => e (G.inj _ _ hj hk z)
      simp only [ptN, nb, putF, if_neg na]
      exact .cons hj a (ptF hk r b)
theorem ptN_mem {α : Type} {k : Nat} {x : α} : ∀ {fs : List (Nat × α)} {q : Nat × α}, q ∈ ptN k x fs → q.1 = k ∨ ∃ q' ∈ fs, q'.1 = q.1
  | [], q, m => by
    simp only [ptN, List.mem_singleton] at m
    subst m; exact .inl rfl
  | (j, w) :: r, q, m => by
    simp only [ptN] at m
    cases e : Nat.beq j k with
    | true =>
      rw [e] at m
      rcases List.mem_cons.mp m with z | z
      · subst z; exact .inr ⟨(j, w), by simp, rfl⟩
      · exact .inr ⟨q, by simp [z], rfl⟩
    | false =>
      rw [e] at m
      rcases List.mem_cons.mp m with z | z
      · subst z; exact .inr ⟨(j, w), by simp, rfl⟩
      · rcases ptN_mem z with z | ⟨q', m', e'⟩
        · exact .inl z
        · exact .inr ⟨q', by simp [m'], e'⟩
theorem RepF.length {ρ : Rh} {H : Hp} : ∀ {fs : List (Nat × EV)} {gs : List (Str × V)}, RepF G ρ H fs gs → fs.length = gs.length
  | _, _, .nil => rfl
  | _, _, .cons _ _ b => by simp [RepF.length b]
theorem two_failS {a b : Expr} {fa fb : ES → M EV} (ha : RE G X a fa) (hb : RE G X b fb) {σ : ES} {h : EH} {ρ : Rh} {τ : L2.St} {H : Hp} {g : EV → EV → EH → FL} {D : Ends} {T : V → V → Hp → Prop} (R : Rel G ρ h H) (S : SR G ρ H σ τ)
    (f : FinS G X ρ H D ((fa σ h).fl σ fun x h1 => (fb σ h1).fl σ fun y h2 => g x y h2)) (no : ¬ ∃ x h1 y h2, fa σ h = .ok x h1 ∧ fb σ h1 = .ok y h2) :
    wE X a τ H fun v H1 => wE X b τ H1 fun u H2 => T v u H2 := by
  cases e : fa σ h with
  | ok x h1 =>
    refine ha.run R S e fun ρ1 H1 v x1 R1 rv => ?_
    rw [e] at f
    have f1 : FinS G X ρ1 H1 D ((fb σ h1).fl σ fun y h2 => g x y h2) := FinS.start x1 f
    exact hb.failS R1 (S.mono x1.toMo) f1 fun y h2 q => no ⟨x, h1, y, h2, e, q⟩
  | exc c fs h1 => exact ha.failS R S f fun x h1 q => by rw [e] at q; cases q
  | stuck => exact ha.failS R S f fun x h1 q => by rw [e] at q; cases q
theorem rs_attr {fa' : Nat → Nat → Bool} {k : Nat} {o e : Expr} {fo fe : ES → M EV} {f : Str} {p pos : Pos} (T : Cla G) (hfs : ∀ c, G.KD c = .ord → ∀ k, fa' c k = true → G.FA c k = true) (hk : k < G.NN) (hf : G.AN k = f) (he : RE G X e fe) (ho : RE G X o fo) (hK : X.K = G.K := by rfl) (hs : swapsWith e (some (.Attribute o f p)) pos.line X.env = pure false := by rfl) :
    RS G X (.Assign [.Attribute o f p] e pos) (sAttr fa' k fo fe) := by
  subst hf
  intro σ h ρ τ H D R S ff
  refine wS.of (ps_fld wE.pe wE.pe hs) ?_
  by_cases ok : ∃ x h1 y h2, fe σ h = .ok x h1 ∧ fo σ h1 = .ok y h2
  · obtain ⟨v, h1, x, h2, e0, e1⟩ := ok
    have f' : FinS G X ρ H D (match putA fa' k x v h2 with | some h3 => FL.nx σ h3 | none => .stuck) := by
      have f0 := ff
      dsimp only [sAttr] at f0
      rw [e0] at f0
      simp only [Y.R.fl] at f0
      rw [e1] at f0
      exact f0
    refine two_run (T := fun y x H2 => ∃ a C dx fs, x = V.ref a ∧ H2 a = some (.ins C dx fs) ∧ Cls X.K C ∧ NoAttr X.K C (G.AN k) ∧ fs.length < 1000 ∧ D.nx τ (upd H2 a (.ins C dx (putF (G.AN k) y fs)))) he ho R S e0 e1 fun ρ2 H2 w u x2 R2 rw' ru => ?_
    unfold putA at f'
    split at f'
    · rename_i h3 ep
      split at ep
      · rename_i n
        split at ep
        · rename_i c fs eo
          split at ep
          · rename_i fk sz
            cases ep
            obtain ⟨a, rfl, qa, dx, gs, q, rf, kd, fa⟩ := getref R2 ru eo
            have fk := hfs c kd k fk
            have hl : gs.length < 1000 := by
              rw [← rf.length]
              have := Nat.blt_eq.mp sz
              omega
            have ex := Ext.write (u := .ins (G.CA c) dx (putF (G.AN k) w gs)) qa (R2.obj n a _ qa eo) rfl
            refine ⟨a, G.CA c, dx, gs, rfl, q, by rw [hK]; exact T.cls c kd ⟨k, fk⟩, by rw [hK]; exact T.no c k kd fk, hl, ?_⟩
            refine f' ρ2 _ τ (x2.trans ex) (R2.write qa eo ⟨dx, _, upd_same, (ptF hk rw' rf).mono ex.toMo, kd, fun q m => ?_⟩ rfl) (S.mono (x2.trans ex).toMo)
            rcases ptN_mem m with z | ⟨q', m', e'⟩
            · rw [z]; exact fk
            · rw [← e']; exact fa q' m'
          · cases ep
        · cases ep
      · cases ep
    · exact f'.elim
  · exact two_failS he ho R S ff ok

/-! ### new instances -/
/-- the making of an instance, at some slots -/
theorem wk_make {k j n : Nat} {f C : Addr} {fd : FuncData} {ps : List Str} {us : List Value} {dvs : List V} {F : List EV → EH → Y.R EV} {τ : L2.St} {vs : List V} {H : Hp} {Q : VK} {E : XK} (M : Mk X.K C f) (O : FnOk X.prog X.w X.K X.mg X.base (L2.CX X.prog X.w) k f fd ps (spF G n F)) (hr : Room j X.A) (hj : k + 1 ≤ j)
    (hb : Binds X.K fd ps us) (hd : Vals dvs us) (hx : PassesAt (L2.CX X.prog X.w) X τ E)
    (h : ∀ x dx, H x = none → H dx = none → dx ≠ x → spF G n F (.ref x :: (vs ++ dvs)) (upd (upd H dx (.own x)) x (.ins C dx [])) (fun v H2 => v = .non ∧ Q (.ref x) H2) E) : wK X τ (.ref C) vs H Q := by
  intro pins s ws I r
  let z := s.heap.objs.size
  have J : Inv X pins τ (upd (upd H z (.own (z + 1))) (z + 1) (.ins C z [])) _ := Inv.made (C := C) I
  have hq := h (z + 1) z (I.hok.fresh (Nat.le_succ _)) (I.hok.fresh (Nat.le_refl _)) (Nat.ne_of_lt (Nat.lt_succ_self _))
  have rr : Vals (V.ref (z + 1) :: (vs ++ dvs)) (Value.ref (z + 1) :: (ws ++ us)) := .cons rfl (r.append hd)
  have len : (Value.ref (z + 1) :: ws ++ us).length = ps.length := by
    have e1 := rr.length
    have e2 := O.len _ _ _ _ hq
    simpa [e2] using e1.symm
  have run := O.run (X.A.under (.builtin "type.__call__" ⟨.ref C :: ws, []⟩)) X.stack _ _ ⟨.ref (z + 1) :: ws, []⟩ (.ref (z + 1) :: (ws ++ us)) _ _ E ((hr.mono hj).make C ws []) (J.env0.make C ws []) (hb _ (.ref (z + 1) :: ws) J.kIn len) rr hq
  refine wpAny_call (make_map (f := f) I.kIn M.makes M.init (beq_iff_eq.mp M.fn) (codeAny_mono run fun out s' q => ?_))
  match out with
  | .error e => exact hx pins _ _ e s' J q
  | .ok (.ret u) =>
    obtain ⟨v, H', J2, rv, ev, q2⟩ := J.after q
    subst ev
    exact ⟨rv, V.ref (z + 1), H', J2, rfl, q2⟩
  | .ok .next => exact False.elim q
  | .ok .brk => exact False.elim q
  | .ok .cont => exact False.elim q
structure Mkr (P : Program) (w : World) (G : Wd) (mg : Str → Option Value) (base : Heap) (k : Nat) (x : Str) (c : Nat) (n : Nat) (ds : List PV) (F : List EV → EH → Y.R EV) : Prop where
  ex : ∃ (f : Addr) (fd : FuncData) (ps : List Str) (us : List Value) (dvs : List V), FnOk P w G.K mg base (L2.CX P w) k f fd ps (spF G (n + 1) F) ∧ mg x = some (.ref (G.CA c)) ∧ Mk G.K (G.CA c) f ∧ Binds G.K fd ps us ∧ Vals dvs us ∧ ∀ ρ H, PRepL G ρ H ds dvs
  kd : G.KD c = .ord
/-- the heap with a new instance -/
theorem made {ρ : Rh} {h : EH} {H : Hp} {c : Nat} {x dx : Addr} (R : Rel G ρ h H) (kd : G.KD c = .ord) (hx : H x = none) (hd : H dx = none) (ne : dx ≠ x) :
    Ext ρ H (ρ.add x) (upd (upd H dx (.own x)) x (.ins (G.CA c) dx [])) ∧ Rel G (ρ.add x) (h ++ [.ins c []]) (upd (upd H dx (.own x)) x (.ins (G.CA c) dx [])) ∧ (ρ.add x).loc[h.length]? = some x := by
  have h1 : upd H dx (.own x) x = none := by rw [upd_ne (Ne.symm ne)]; exact hx
  have e1 : Ext ρ H ρ (upd H dx (.own x)) := Ext.laid0 hd
  have R1 : Rel G ρ h (upd H dx (.own x)) := R.aside hd
  refine ⟨e1.trans (Ext.laid h1), R1.alloc h1 ⟨dx, [], upd_same, .nil, kd, fun q m => nomatch m⟩, ?_⟩
  simp only [Rh.add]
  rw [← R.len, List.getElem?_append_right (Nat.le_refl _)]
  simp
theorem imake_ok {c : Nat} {F : List EV → EH → Y.R EV} {vs : List EV} {xs : List V} {h : EH} {ρ : Rh} {H : Hp} {τ : L2.St} {Q : VK} {n : Nat} (kd : G.KD c = .ord) (hn : vs.length = n) (R : Rel G ρ h H) (r : RepL G ρ H vs xs) (f : FinE G X τ ρ H (imake c F vs h) (fun v _ ρ' H' => ∀ x, Rep G ρ' H' v x → Q x H')) :
    ∃ E, PassesAt (L2.CX X.prog X.w) X τ E ∧ ∀ x dx, H x = none → H dx = none → dx ≠ x → spF G (n + 1) F (.ref x :: xs) (upd (upd H dx (.own x)) x (.ins (G.CA c) dx [])) (fun v H2 => v = .non ∧ Q (.ref x) H2) E := by
  unfold imake at f
  have args : ∀ x dx, H x = none → H dx = none → dx ≠ x → RepL G (ρ.add x) (upd (upd H dx (.own x)) x (.ins (G.CA c) dx [])) (.ref h.length :: vs) (.ref x :: xs) := fun x dx hx hd ne => by
    obtain ⟨a1, a2, a3⟩ := made R kd hx hd ne
    exact .cons (.ref a3) (r.mono a1.toMo)
  have len : (V.ref 0 :: xs).length = n + 1 := by simp [← r.length, hn]
  split at f
  · rename_i h2 eF
    refine ⟨fun _ _ _ => False, passNo, fun x dx hx hd ne => ?_⟩
    obtain ⟨a1, a2, a3⟩ := made R kd hx hd ne
    refine ⟨by simpa using len, _, _, _, a2, args x dx hx hd ne, ?_⟩
    rw [eF]
    intro ρ' H' y e R' ry
    refine ⟨rep_non ry, f ρ' H' (a1.trans e) R' _ (.ref (e.toMo.get a3))⟩
  · exact f.elim
  · rename_i c' fs h2 eF
    obtain ⟨W, tk, f⟩ := f
    refine ⟨L2.WE W τ, passAt tk τ, fun x dx hx hd ne => ?_⟩
    obtain ⟨a1, a2, a3⟩ := made R kd hx hd ne
    refine ⟨by simpa using len, _, _, _, a2, args x dx hx hd ne, ?_⟩
    rw [eF]
    exact fun ρ' H' d e R' q => f ρ' H' d (a1.trans e) R' q
  · exact f.elim
theorem makeX_ok {c : Nat} {F : List EV → EH → Y.R EV} {vs : List EV} {xs : List V} {h : EH} {ρ : Rh} {H : Hp} {τ : L2.St} {Q : VK} {n : Nat} (kd : G.KD c = .ord) (hn : vs.length = n) (R : Rel G ρ h H) (r : RepL G ρ H vs xs) (f : FinE G X τ ρ H (makeX c F vs h) (fun v _ ρ' H' => ∀ x, Rep G ρ' H' v x → Q x H')) :
    ∃ E, PassesAt (L2.CX X.prog X.w) X τ E ∧ ∀ x dx, H x = none → H dx = none → dx ≠ x → spF G (n + 1) F (.ref x :: xs) (upd (upd H dx (.own x)) x (.ins (G.CA c) dx [])) (fun v H2 => v = .non ∧ Q (.ref x) H2) E := by
  unfold makeX at f
  split at f
  · rename_i ps ep
    have rp : PRepL G ρ.away H ps xs := (r.plain ep).set fun a m => Rh.mem_away.mp m
    have len : (V.ref 0 :: xs).length = n + 1 := by simp [← r.length, hn]
    have sub : ∀ {ρ' H'}, Ext ρ.away H ρ' H' → ∀ a, a ∈ ρ.all → a ∈ (Rh.mk ρ'.out []).all := fun e a m => Rh.mem_all.mpr (.inl (by rw [e.out]; exact m))
    have args : ∀ x dx, H x = none → H dx = none → dx ≠ x → RepL G (ρ.away.add x) (upd (upd H dx (.own x)) x (.ins (G.CA c) dx [])) (.ref 0 :: ps.map .p) (.ref x :: xs) := fun x dx hx hd ne => by
      obtain ⟨a1, a2, a3⟩ := made R.away kd hx hd ne
      exact .cons (.ref a3) (rp.lift.mono a1.toMo)
    unfold pmake at f
    split at f
    · rename_i h2 eF
      split at f
      · rename_i q eq'
        refine ⟨fun _ _ _ => False, passNo, fun x dx hx hd ne => ?_⟩
        obtain ⟨a1, a2, a3⟩ := made R.away kd hx hd ne
        refine ⟨by simpa using len, _, _, _, a2, args x dx hx hd ne, ?_⟩
        rw [List.nil_append, eF]
        intro ρ' H' y e R' ry
        have e' := a1.trans e
        have rx : Rep G ρ' H' (.ref 0) (.ref x) := .ref (e.toMo.get a3)
        exact ⟨rep_non ry, f ρ H' e'.ours (R.ours e') _ (.p ((rsv_rep R' 30 _ _ q rx eq').set (sub e')))⟩
      · exact f.elim
    · exact f.elim
    · rename_i c' fs h2 eF
      obtain ⟨W, tk, f⟩ := f
      refine ⟨L2.WE W τ, passAt tk τ, fun x dx hx hd ne => ?_⟩
      obtain ⟨a1, a2, a3⟩ := made R.away kd hx hd ne
      refine ⟨by simpa using len, _, _, _, a2, args x dx hx hd ne, ?_⟩
      rw [List.nil_append, eF]
      intro ρ' H' d e R' ⟨nd, gs, hg, rg⟩
      have e' := a1.trans e
      have sb : ∀ a, a ∈ ρ.all → a ∈ ρ'.all := fun a m => by
        rcases Rh.mem_all.mp (sub e' a m) with z | z
        · exact Rh.mem_all.mpr (.inl z)
        · exact nomatch z
      exact f ρ H' d e'.ours (R.ours e') ⟨fun m => nd (sb d m), gs, hg, rg.set sb⟩
    · exact f.elim
  · exact imake_ok kd hn R r f
section
variable {F : List EV → EH → Y.R EV} {k j n m c : Nat} {x : Str} {ds : List PV} {e : Expr} {es : List Expr} {fa : ES → M (List EV)} {p pos : Pos}
theorem re_make (D : Mkr X.prog X.w G X.mg X.base k x c n ds F) (hr : Room j X.A) (hj : k + 1 ≤ j) (ha : RA G X (e :: es) fa) (hl : ALen fa m) (hn : m + ds.length = n := by rfl) (hK : X.K = G.K := by rfl) (hg : Gl X x := by rfl)
    (db : (x == ("__debug__" : Str)) = false := by decide) (st : starEach (e :: es) X.env = (false, eval e X.env) :: starEach es X.env := by first | exact star_cons rfl | rfl) (np : (backTo pos (starEach es X.env)).any (·.1) = false := by rfl) : RE G X (.Call (.Name x p) (e :: es) [] pos) (eMake c F ds fa) := by
  obtain ⟨f, fd, ps, us, dvs, O, hm, M, hb, hd, rd⟩ := D.ex
  rw [← hK] at O M hb
  intro σ h ρ τ H Q R S ff
  refine wE.of (pe_named hg hm M.kp wA.pa db st np) ?_
  by_cases ok : ∃ vs h1, fa σ h = .ok vs h1
  · obtain ⟨vs, h1, e0⟩ := ok
    refine ha.run R S e0 fun ρ1 H1 xs x1 R1 rx => ?_
    have f1 : FinE G X τ ρ H (makeX c F (vs ++ ds.map .p) h1) (fun v _ ρ' H' => ∀ x, Rep G ρ' H' v x → Q x H') := by
      dsimp only [eMake] at ff
      rw [e0] at ff
      exact ff
    obtain ⟨E, px, sp⟩ := makeX_ok (n := n) D.kd (by simp [hl _ _ _ _ e0, hn]) R1 (rx.append (rd ρ1 H1).lift) (FinE.start x1 f1)
    exact wk_make M O hr hj hb hd px sp
  · exact ha.fail R S ff fun vs h1 q => ok ⟨vs, h1, q⟩
theorem re_makeI (D : Mkr X.prog X.w G X.mg X.base k x c n ds F) (hr : Room j X.A) (hj : k + 1 ≤ j) (ha : RA G X (e :: es) fa) (hl : ALen fa m) (hn : m + ds.length = n := by rfl) (hK : X.K = G.K := by rfl) (hg : Gl X x := by rfl)
    (db : (x == ("__debug__" : Str)) = false := by decide) (st : starEach (e :: es) X.env = (false, eval e X.env) :: starEach es X.env := by first | exact star_cons rfl | rfl) (np : (backTo pos (starEach es X.env)).any (·.1) = false := by rfl) : RE G X (.Call (.Name x p) (e :: es) [] pos) (eMakeI c F ds fa) := by
  obtain ⟨f, fd, ps, us, dvs, O, hm, M, hb, hd, rd⟩ := D.ex
  rw [← hK] at O M hb
  intro σ h ρ τ H Q R S ff
  refine wE.of (pe_named hg hm M.kp wA.pa db st np) ?_
  by_cases ok : ∃ vs h1, fa σ h = .ok vs h1
  · obtain ⟨vs, h1, e0⟩ := ok
    refine ha.run R S e0 fun ρ1 H1 xs x1 R1 rx => ?_
    have f1 : FinE G X τ ρ H (imake c F (vs ++ ds.map .p) h1) (fun v _ ρ' H' => ∀ x, Rep G ρ' H' v x → Q x H') := by
      dsimp only [eMakeI] at ff
      rw [e0] at ff
      exact ff
    obtain ⟨E, px, sp⟩ := imake_ok (n := n) D.kd (by simp [hl _ _ _ _ e0, hn]) R1 (rx.append (rd ρ1 H1).lift) (FinE.start x1 f1)
    exact wk_make M O hr hj hb hd px sp
  · exact ha.fail R S ff fun vs h1 q => ok ⟨vs, h1, q⟩
theorem re_make0 (D : Mkr X.prog X.w G X.mg X.base k x c n ds F) (hr : Room j X.A) (hj : k + 1 ≤ j) (hn : ds.length = n := by rfl) (hK : X.K = G.K := by rfl) (hg : Gl X x := by rfl) (db : (x == ("__debug__" : Str)) = false := by decide) : RE G X (.Call (.Name x p) [] [] pos) (eMake c F ds aNil) := by
  obtain ⟨f, fd, ps, us, dvs, O, hm, M, hb, hd, rd⟩ := D.ex
  rw [← hK] at O M hb
  intro σ h ρ τ H Q R S ff
  refine wE.of (pe_named0 hg hm M.kp db) ?_
  have f1 : FinE G X τ ρ H (makeX c F ([] ++ ds.map .p) h) (fun v _ ρ' H' => ∀ x, Rep G ρ' H' v x → Q x H') := ff
  obtain ⟨E, px, sp⟩ := makeX_ok (n := n) D.kd (by simp [hn]) R (RepL.append .nil (rd ρ H).lift) f1
  exact wk_make (vs := []) M O hr hj hb hd px sp
theorem re_makeI0 (D : Mkr X.prog X.w G X.mg X.base k x c n ds F) (hr : Room j X.A) (hj : k + 1 ≤ j) (hn : ds.length = n := by rfl) (hK : X.K = G.K := by rfl) (hg : Gl X x := by rfl) (db : (x == ("__debug__" : Str)) = false := by decide) : RE G X (.Call (.Name x p) [] [] pos) (eMakeI c F ds aNil) := by
  obtain ⟨f, fd, ps, us, dvs, O, hm, M, hb, hd, rd⟩ := D.ex
  rw [← hK] at O M hb
  intro σ h ρ τ H Q R S ff
  refine wE.of (pe_named0 hg hm M.kp db) ?_
  have f1 : FinE G X τ ρ H (imake c F ([] ++ ds.map .p) h) (fun v _ ρ' H' => ∀ x, Rep G ρ' H' v x → Q x H') := ff
  obtain ⟨E, px, sp⟩ := imake_ok (n := n) D.kd (by simp [hn]) R (RepL.append .nil (rd ρ H).lift) f1
  exact wk_make (vs := []) M O hr hj hb hd px sp
end

/-! ### methods -/
/-- a method of an ordinary class that follows a function -/
structure Mth (P : Program) (w : World) (G : Wd) (mg : Str → Option Value) (base : Heap) (k : Nat) (c : Nat) (m : Str) (n : Nat) (ds : List PV) (F : List EV → EH → Y.R EV) : Prop where
  ex : ∃ (f : Addr) (fd : FuncData) (ps : List Str) (us : List Value) (dvs : List V), FnOk P w G.K mg base (L2.CX P w) k f fd ps (spF G (n + 1) F) ∧ Meth G.K (G.CA c) m f ∧ Binds G.K fd ps us ∧ Vals dvs us ∧ ∀ ρ H, PRepL G ρ H ds dvs
  cls : Cls G.K (G.CA c)
  kd : G.KD c = .ord
/-- all classes that a table has -/
def MthT (P : Program) (w : World) (G : Wd) (mg : Str → Option Value) (base : Heap) (j : Nat) (m : Str) (n : Nat) (ds : List PV) (tb : Nat → Option (List EV → EH → Y.R EV)) : Prop := ∀ c F, tb c = some F → ∃ k, k ≤ j ∧ Mth P w G mg base k c m n ds F
theorem inst_of {ρ : Rh} {h : EH} {H : Hp} {x : EV} {v : V} {c : Nat} (R : Rel G ρ h H) (r : Rep G ρ H x v) (e : clsOf h x = some c) (kd : G.KD c = .ord) : ∃ a dx gs, v = .ref a ∧ H a = some (.ins (G.CA c) dx gs) ∧ ∀ g ∈ gs, ∃ i, i < G.NN ∧ g.1 = G.AN i := by
  have nm : ∀ {fs : List (Nat × EV)} {gs : List (Str × V)}, RepF G ρ H fs gs → ∀ g ∈ gs, ∃ i, i < G.NN ∧ g.1 = G.AN i := by
    intro fs gs rf
    induction rf with
    | nil => exact fun g m => nomatch m
    | cons hk a b ih =>
      intro g m
      rcases List.mem_cons.mp m with z | z
      · subst z; exact ⟨_, hk, rfl⟩
      · exact ih g z
  cases x with
  | p pv =>
    cases pv with
    | obj c' fs =>
      cases e
      cases rep_p r with
      | @obj _ a gs _ ob rf fa =>
        obtain ⟨n, ob⟩ := ob
        rw [kd] at ob
        obtain ⟨dx, q⟩ := ob
        exact ⟨a, dx, gs, rfl, q, nm rf.lift⟩
    | _ => cases e
  | tup xs => cases e
  | ref n =>
    simp only [clsOf] at e
    split at e
    · rename_i c' fs eo
      cases e
      obtain ⟨a, rfl, qa, dx, gs, q, rf, _, _⟩ := getref R r eo
      exact ⟨a, dx, gs, rfl, q, nm rf⟩
    · cases e
theorem no_shadow {m : Str} {gs : List (Str × V)} (hn : ∀ i, i < G.NN → G.AN i ≠ m) (h : ∀ g ∈ gs, ∃ i, i < G.NN ∧ g.1 = G.AN i) : gs.lookup m = none := by
  induction gs with
  | nil => rfl
  | cons g r ih =>
    obtain ⟨i, hi, e⟩ := h g (by simp)
    have ne : ¬ m = g.1 := fun z => hn i hi (by rw [← e, z])
    have nb : (m == g.1) = false := by simpa using ne
    obtain ⟨g1, g2⟩ := g
    simp only [List.lookup_cons]
    simp only at nb
    rw [nb]
    exact ih fun g m => h g (by simp [m])
section
variable {tb : Nat → Option (List EV → EH → Y.R EV)} {j n m' : Nat} {m : Str} {ds : List PV} {o e : Expr} {es : List Expr} {fo : ES → M EV} {fa : ES → M (List EV)} {ap pos : Pos} {pl : Sem Bool}
theorem re_meth (T : MthT X.prog X.w G X.mg X.base j m n ds tb) (hr : Room j X.A) (nn : ∀ i, i < G.NN → G.AN i ≠ m) (ho : RE G X o fo) (ha : RA G X (e :: es) fa) (hl : ALen fa m') (hn : m' + ds.length = n := by rfl) (hK : X.K = G.K := by rfl)
    (st : starEach (e :: es) X.env = (false, eval e X.env) :: starEach es X.env := by first | exact star_cons rfl | rfl) (np : (backTo pos (starEach es X.env)).any (·.1) = false := by rfl)
    (ev : eval (.Call (.Attribute o m ap) (e :: es) [] pos) X.env = (do
      let ov ← eval o X.env
      standAt ap.atName
      let (f, first) ← holding [ov] (getMethod ov m pl)
      callWith pos f first (backTo pos (starEach (e :: es) X.env)) (backToKw pos (keywordEach [] X.env))) := by rfl) : RE G X (.Call (.Attribute o m ap) (e :: es) [] pos) (eMeth tb ds fo fa) := by
  intro σ h ρ τ H Q R S ff
  refine wE.of (pe_msg wE.pe wA.pa st np ev) ?_
  refine ho σ h ρ τ H _ R S (FinE.imp (FinE.bind ff) fun x h1 ρ1 H1 e1 R1 f1 v rv => ?_)
  split at f1
  · rename_i c ec
    split at f1
    · rename_i F eF
      obtain ⟨k, hj, D⟩ := T c F eF
      obtain ⟨f, fd, ps, us, dvs, O, mt, hb, hd, rd⟩ := D.ex
      obtain ⟨a, dx, gs, rfl, q, nm⟩ := inst_of R1 rv ec D.kd
      rw [← hK] at O mt hb
      refine ⟨a, G.CA c, dx, f, gs, rfl, q, by rw [hK]; exact D.cls, mt, no_shadow nn nm, ?_⟩
      have S1 := S.mono e1.toMo
      by_cases ok : ∃ vs h2, fa σ h1 = .ok vs h2
      · obtain ⟨vs, h2, e0⟩ := ok
        refine ha.run R1 S1 e0 fun ρ2 H2 xs x2 R2 rx => ?_
        have f2 : FinE G X τ ρ1 H1 (callX F (x :: (vs ++ ds.map .p)) h2) (fun v _ ρ' H' => ∀ x, Rep G ρ' H' v x → Q x H') := by
          rw [e0] at f1
          exact f1
        obtain ⟨E, px, sp⟩ := callX_ok (n := n + 1) (by simp [hl _ _ _ _ e0, hn]) R2 (.cons (rv.mono x2.toMo) (rx.append (rd ρ2 H2).lift)) (FinE.start x2 f2)
        exact wk_fn O hr hj hb hd px sp
      · exact ha.fail R1 S1 f1 fun vs h1 q => ok ⟨vs, h1, q⟩
    · exact f1.elim
  · exact f1.elim
theorem re_methI (T : MthT X.prog X.w G X.mg X.base j m n ds tb) (hr : Room j X.A) (nn : ∀ i, i < G.NN → G.AN i ≠ m) (ho : RE G X o fo) (ha : RA G X (e :: es) fa) (hl : ALen fa m') (hn : m' + ds.length = n := by rfl) (hK : X.K = G.K := by rfl)
    (st : starEach (e :: es) X.env = (false, eval e X.env) :: starEach es X.env := by first | exact star_cons rfl | rfl) (np : (backTo pos (starEach es X.env)).any (·.1) = false := by rfl)
    (ev : eval (.Call (.Attribute o m ap) (e :: es) [] pos) X.env = (do
      let ov ← eval o X.env
      standAt ap.atName
      let (f, first) ← holding [ov] (getMethod ov m pl)
      callWith pos f first (backTo pos (starEach (e :: es) X.env)) (backToKw pos (keywordEach [] X.env))) := by rfl) : RE G X (.Call (.Attribute o m ap) (e :: es) [] pos) (eMethI tb ds fo fa) := by
  intro σ h ρ τ H Q R S ff
  refine wE.of (pe_msg wE.pe wA.pa st np ev) ?_
  refine ho σ h ρ τ H _ R S (FinE.imp (FinE.bind ff) fun x h1 ρ1 H1 e1 R1 f1 v rv => ?_)
  split at f1
  · rename_i c ec
    split at f1
    · rename_i F eF
      obtain ⟨k, hj, D⟩ := T c F eF
      obtain ⟨f, fd, ps, us, dvs, O, mt, hb, hd, rd⟩ := D.ex
      obtain ⟨a, dx, gs, rfl, q, nm⟩ := inst_of R1 rv ec D.kd
      rw [← hK] at O mt hb
      refine ⟨a, G.CA c, dx, f, gs, rfl, q, by rw [hK]; exact D.cls, mt, no_shadow nn nm, ?_⟩
      have S1 := S.mono e1.toMo
      by_cases ok : ∃ vs h2, fa σ h1 = .ok vs h2
      · obtain ⟨vs, h2, e0⟩ := ok
        refine ha.run R1 S1 e0 fun ρ2 H2 xs x2 R2 rx => ?_
        have f2 : FinE G X τ ρ1 H1 (F (x :: (vs ++ ds.map .p)) h2) (fun v _ ρ' H' => ∀ x, Rep G ρ' H' v x → Q x H') := by
          rw [e0] at f1
          exact f1
        obtain ⟨E, px, sp⟩ := callI_ok (n := n + 1) (by simp [hl _ _ _ _ e0, hn]) R2 (.cons (rv.mono x2.toMo) (rx.append (rd ρ2 H2).lift)) (FinE.start x2 f2)
        exact wk_fn O hr hj hb hd px sp
      · exact ha.fail R1 S1 f1 fun vs h1 q => ok ⟨vs, h1, q⟩
    · exact f1.elim
  · exact f1.elim
theorem re_meth0 (T : MthT X.prog X.w G X.mg X.base j m n ds tb) (hr : Room j X.A) (nn : ∀ i, i < G.NN → G.AN i ≠ m) (ho : RE G X o fo) (hn : ds.length = n := by rfl) (hK : X.K = G.K := by rfl)
    (ev : eval (.Call (.Attribute o m ap) [] [] pos) X.env = (do
      let ov ← eval o X.env
      standAt ap.atName
      let (f, first) ← holding [ov] (getMethod ov m pl)
      callWith pos f first (backTo pos (starEach [] X.env)) (backToKw pos (keywordEach [] X.env))) := by rfl) : RE G X (.Call (.Attribute o m ap) [] [] pos) (eMeth tb ds fo aNil) := by
  intro σ h ρ τ H Q R S ff
  refine wE.of (pe_msg0 wE.pe ev) ?_
  refine ho σ h ρ τ H _ R S (FinE.imp (FinE.bind ff) fun x h1 ρ1 H1 e1 R1 f1 v rv => ?_)
  split at f1
  · rename_i c ec
    split at f1
    · rename_i F eF
      obtain ⟨k, hj, D⟩ := T c F eF
      obtain ⟨f, fd, ps, us, dvs, O, mt, hb, hd, rd⟩ := D.ex
      obtain ⟨a, dx, gs, rfl, q, nm⟩ := inst_of R1 rv ec D.kd
      rw [← hK] at O mt hb
      refine ⟨a, G.CA c, dx, f, gs, rfl, q, by rw [hK]; exact D.cls, mt, no_shadow nn nm, ?_⟩
      have f2 : FinE G X τ ρ1 H1 (callX F (x :: ([] ++ ds.map .p)) h1) (fun v _ ρ' H' => ∀ x, Rep G ρ' H' v x → Q x H') := f1
      obtain ⟨E, px, sp⟩ := callX_ok (n := n + 1) (by simp [hn]) R1 (.cons rv (RepL.append .nil (rd ρ1 H1).lift)) f2
      exact wk_fn (vs := [V.ref a]) O hr hj hb hd px sp
    · exact f1.elim
  · exact f1.elim
end
end
end Y
end

section
set_option maxHeartbeats 2000000
/-! Y, exceptions: an __init__ that begins with super().__init__(..), in a class of errors over ValueError. -/
namespace Y
open PySem PySem.Spec PyProof.Rows L2
/-- what the written part says of such an __init__: the function at f, its code at c, the cell of its class at cc, its class at D -/
structure SupK (P : Program) (K : PySem.W.Frag) (mg : Str → Option Value) (f c cc D : Addr) (fd : FuncData) (sc : Scope) : Prop where
  fn : ∃ oc od osl, K.lookup f = some ⟨oc, od, .func fd, osl⟩
  par : ∃ ar, (fd.params.posonlyargs ++ fd.params.args).head? = some ar ∧ ar.arg = "self"
  code : ∃ ccl cdd vs ccs file tf, K.lookup c = some ⟨ccl, cdd, .fields vs, ccs⟩ ∧ vs[2]? = some (.str file tf) ∧ ((P.main.file : Str) == file) = true
  cell : ∃ cl cld csl, K.lookup cc = some ⟨cl, cld, .cell (some (.ref D)), csl⟩
  cls : ∃ cd, PySem.W.clsIn K D = some cd
  mro : PySem.W.mroIn K D (.ref D) = some true
  sup : PySem.W.ks_superIn K D D "__init__" = some (some (.builtin "ValueError.__init__"))
  ve : PySem.W.subIn K (.ref D) (.type "ValueError") = some true
  opq : PySem.W.nsIn K cStatics "thirdparty.any" = some none
  mg : mg "super" = none
  top : (P.main.scope.names.lookup ("super" : Str)).isSome = false
  ksup : sc.names.lookup ("super" : Str) = some .globalImplicit
  kcls : sc.names.lookup ("__class__" : Str) = some .free
  kself : sc.names.lookup ("self" : Str) = some .local
section
variable {X : Cx} {pins : List (Addr × Obj)} {σ : L2.St} {H : Hp} {s : Shared}
theorem call_mw {D a u : Addr} {rest : List Value} {Q : Value → Shared → Prop} {E : Value → Shared → Prop} {A : Around} (T : OexC X.K D) (I : Inv X pins σ H s) (e : H a = some (exo a D none)) (hu : s.heap.get? u = some (PySem.W.kxs_mw "ValueError.__init__" a)) (hl : rest.length ≤ sizeLine)
    (h : ∀ s', Inv X pins σ H s' → Q .none s') : wpAny (model X.prog X.w) A (call (.ref u) rest) Q E s := by
  obtain ⟨nm, q, N, bs, bm, sn, sub, ab, col, dd, k0, k1, k2, k3, k5, hC, hbm⟩ := T.cls
  obtain ⟨t1, ho⟩ := exo_at I.hok e
  obtain ⟨hp, g, d, t, os⟩ := s
  refine wpAny_call (codeAny_of_tree ?_)
  show wpAny _ A.in1 (callAny (.ref u) ⟨rest, []⟩) _ _ _
  simp only [callAny]
  refine wpAny_bind (wpAny_load hu ?_)
  refine PySem.W.KFB.if_so (by show (Value.type "method-wrapper" == Value.type "method" || Value.type "method-wrapper" == Value.type "builtin_function_or_method" || Value.type "method-wrapper" == Value.type "method-wrapper") = true; decide) ?_
  refine PySem.W.KFB.if_so (by show (Value.type "method-wrapper" != Value.type "method") = true; decide) ?_
  have FB := F.excBase_ValueError
  refine wpAny_bind (PySem.W.check_bound_init FB.toExcCallFacts (I.kIn _ _ hC) ho rfl ?_)
  refine wpAny_bind (wpAny_pure (wpAny_pure ?_))
  refine ⟨Code.quiet_builtin _ (by decide +kernel), codeAny_builtin FB.initEntry ?_⟩
  refine PySem.W.exc_init_tree (cls := .ref D) (t0 := t1) (dv := none) (c2 := .none) (c3 := .none) (b4 := .bool false) ho hl fun h' k ex et => ?_
  have J := I.write (t' := t) (x := a) (e := a) (o := exo a D none) (by rw [e]; exact True.intro) (.inl rfl) k ⟨_, ex⟩ (exo_ok ex)
  have eu : upd H a (exo a D none) = H := by
    funext b
    by_cases hb : b = a
    · rw [hb, upd_same, e]
    · rw [upd_ne hb]
  rw [eu] at J
  exact h _ J
theorem sup_init {f c cc D a : Addr} {fd : FuncData} {sc : Scope} {L : Addr} {q : Str} {body : List Stmt} {e : Expr} {es : List Expr} {ta : TA} {p0 p1 p2 pos : Pos} {pl : Sem Bool} {Q : VK} (S : SupK X.prog X.K X.mg f c cc D fd sc) (T : OexC X.K D) (hk : sc.kind = .function)
    (henv : X.env = PySem.W.envX q sc L f (.ref c) [("__class__", cc)]) (hs : X.N[0]? = some ("self" : Str)) (h0 : σ[0]? = some (some (.ref a))) (I : Inv X pins σ H s) (ea : H a = some (exo a D none))
    (ha : PA X (e :: es) ta) (h : ta σ H fun vs H1 => vs.length ≤ 1000 ∧ H1 a = some (exo a D none) ∧ Q .non H1)
    (hc : eval (.Call (.Attribute (.Call (.Name "super" p0) [] [] p1) "__init__" p2) (e :: es) [] pos) X.env = (do
      let ov ← attributeBase (.Call (.Name "super" p0) [] [] p1) "__init__" X.env (eval (.Call (.Name "super" p0) [] [] p1) X.env)
      standAt p2.atName
      let (f, first) ← holding [ov] (getMethod ov "__init__" pl)
      callWith pos f first (backTo pos (starEach (e :: es) X.env)) []))
    (he : starEach (e :: es) X.env = (false, eval e X.env) :: starEach es X.env) (hpl : (backTo pos (starEach es X.env)).any (·.1) = false) :
    PySem.wpAt (model X.prog X.w) X.A (.func body X.env) (eval (.Call (.Attribute (.Call (.Name "super" p0) [] [] p1) "__init__" p2) (e :: es) [] pos) X.env) (EP X pins σ Q) X.xe s := by
  refine ks_wpAt_MethodCall (pl := pl) ?_ hc
  obtain ⟨oc, od, osl, lf⟩ := S.fn
  obtain ⟨ar, hp, har⟩ := S.par
  obtain ⟨ccl, cdd, vs, ccs, file, tf, lc, hvs, hfile⟩ := S.code
  obtain ⟨cl, cld, csl, lcell⟩ := S.cell
  obtain ⟨cd, hcd⟩ := S.cls
  have KX := I.kIn
  obtain ⟨oD, hD1, hD2⟩ : ∃ oD, s.heap.get? D = some oD ∧ oD.data = .cls cd := by
    unfold PySem.W.clsIn at hcd
    split at hcd
    · rename_i ho
      cases hcd
      exact ⟨_, KX _ _ ho, rfl⟩
    · cases hcd
  have ks : X.env.kindOf "super" = some .globalImplicit := by rw [henv]; exact S.ksup
  have kc : X.env.kindOf "__class__" = some .free := by rw [henv]; exact S.kcls
  have kl : X.env.kindOf "self" = some .local := by rw [henv]; exact S.kself
  have kk : X.env.scope.kind = .function := by rw [henv]; exact hk
  refine ks_wpAt_super_base (env := X.env) ks kc (by decide) (by rw [henv]) (KX _ _ lf) rfl hp (by rw [henv]) (KX _ _ lc) rfl hvs hfile S.top ?_
  obtain ⟨mb, b1, b2⟩ := I.mod.blt
  refine PySem.W.ks_loadName_global kk ks (Calls.loadGlobal_builtin (by rw [I.ok.glob]; exact I.mod.glob.keeps I.bk) S.mg (by rw [I.ok.blt]; exact b1.keeps I.bk) ((b2 "super" (by decide)).trans (show bootBuiltins "super" = some (.type "super") by decide +kernel)) ⟨rfl, ?_⟩)
  refine wpAny_loadName_free kk kc (c := cc) (by rw [henv]; rfl) ⟨_, KX _ _ lcell, rfl⟩ ?_
  obtain ⟨m, hns, hloc⟩ := I.loc
  obtain ⟨u, ru, lk⟩ := hloc 0 "self" _ hs h0 (.inl kl)
  obtain rfl : u = Value.ref a := ru
  have hself : m "self" = some (Value.ref a) := by
    rcases lk with ⟨_, q⟩ | ⟨q, _⟩
    · exact q
    · rw [kl] at q; rcases q with q | q <;> cases q
  rw [har]
  refine wpAny_loadName_local kk kl hns hself ?_
  refine ks_wpAny_isType_cls hD1 hD2 ⟨rfl, ?_⟩
  obtain ⟨t1, ho⟩ := exo_at I.hok ea
  obtain ⟨hp', g, d, t, os⟩ := s
  refine ks_wpAny_call_super hD1 hD2 ho rfl (fun c e => by cases e) (PySem.W.looks_mroIn KX S.mro) (fun h' e1 k => ?_)
  have I1 : Inv X pins σ H ⟨h', g, d, t, os⟩ := I.kept (t' := t) k
  obtain ⟨t2, ho1⟩ := exo_at I1.hok ea
  have KX1 := I1.kIn
  have IA : PySem.W.InstAt h' a _ D none := ⟨ho1, rfl, rfl, trivial⟩
  have hI : PySem.W.Looks (model X.prog X.w) h' (isInstance (.ref a) (.type "ValueError")) true := IA.type.andThen (PySem.W.looks_subIn KX1 S.ve)
  have hm := S.sup
  unfold PySem.W.ks_superIn at hm
  rw [hcd] at hm
  refine PySem.W.kxs_getMethod PySem.W.kxs_ValueError e1 (PySem.W.looks_opaque KX1 S.opq) (l₀ := cd.mro) (fun A Q E s k q => wpAny_bind ((PySem.W.looks_clsIn KX1 hcd) A _ E s k (wpAny_pure q))) rfl KX1 hm hI (PySem.W.ks_ne KX1 IA hcd) (by decide) ?_
  have I2 : Inv X ((h'.objs.size, PySem.W.kxs_mw "ValueError.__init__" a) :: pins) σ H ⟨h'.push (PySem.W.kxs_mw "ValueError.__init__" a), g, d, t + 1, os⟩ :=
    ClX.pin_new (t' := t + 1) I1 (fun b o q => Heap.get?_push_of_some _ q) (Nat.le_refl _) (Heap.get?_push_at rfl rfl) (fun v q => by cases q)
  have hA := ha.run pos _ _ σ H _ I2 h
  rw [he] at hA ⊢
  refine PySem.W.kxs_callWith (i := "ValueError.__init__") (x := a) (by show (false || (backTo pos (starEach es X.env)).any (·.1)) = false; rw [hpl]; rfl) (Calls.evalArgs_plain ?_)
  refine thn hA fun us s1 ⟨vs, H1, I3, r1, hl, ea1, q⟩ => ⟨ClX.pin_at I3, ?_⟩
  have hlen : us.length ≤ sizeLine := by
    rw [← Paired.length r1, sizeLine_eq]
    omega
  exact call_mw T I3 ea1 (ClX.pin_at I3) hlen fun s' J => ⟨.non, H1, ClX.unpin J, rfl, q⟩
abbrev supB (p0 p1 p2 pos pos2 : Pos) (e : Expr) (es : List Expr) (rest : List Stmt) : List Stmt := .Expr (.Call (.Attribute (.Call (.Name "super" p0) [] [] p1) "__init__" p2) (e :: es) [] pos) pos2 :: rest
abbrev supF (name qual : Str) (params : Arguments) (body : List Stmt) (sc : Scope) (cc c : Addr) : NdefX.NF := ⟨name, qual, params, body, sc, [("__class__", cc)], c⟩
/-- a def of a class that knows its class by a cell, begun by super().__init__(..): by the rest of its body -/
theorem fn_super {P : Program} {w : World} {K : PySem.W.Frag} {mg : Str → Option Value} {base : Heap} {k : Nat} {f c cc D : Addr} {qual name : Str} {params : Arguments} {sc : Scope} {kV doc pm ct : Value} {an : Option Addr} {N ps : List Str} {sp : Sp} {rest : List Stmt} {e : Expr} {es : List Expr} {p0 p1 p2 pos pos2 : Pos}
    (S : SupK P K mg f c cc D (PySem.W.fnX name qual params (supB p0 p1 p2 pos pos2 e es rest) sc [("__class__", cc)] .none kV doc pm an (.ref c) ct) sc) (T : OexC K D)
    (hcd : PySem.W.codeIn K (.ref c) qual = true) (NS : NdefX.NScope N ps ["__class__"] sc) (h0 : N[0]? = some ("self" : Str)) (len : ∀ vs H Q E, sp vs H Q E → vs.length = ps.length)
    (hc : ∀ env : Env, ∃ pl : Sem Bool, eval (.Call (.Attribute (.Call (.Name "super" p0) [] [] p1) "__init__" p2) (e :: es) [] pos) env = (do
      let ov ← attributeBase (.Call (.Name "super" p0) [] [] p1) "__init__" env (eval (.Call (.Name "super" p0) [] [] p1) env)
      standAt p2.atName
      let (f, first) ← holding [ov] (getMethod ov "__init__" pl)
      callWith pos f first (backTo pos (starEach (e :: es) env)) []))
    (he : ∀ env : Env, starEach (e :: es) env = (false, eval e env) :: starEach es env) (hpl : ∀ env : Env, (backTo pos (starEach es env)).any (·.1) = false)
    (hsw : ∀ env : Env, swapsWith (.Call (.Attribute (.Call (.Name "super" p0) [] [] p1) "__init__" p2) (e :: es) [] pos) none pos2.line env = pure false)
    (hbody : ∀ (A : Around) (outer : List Env) (s : Shared) (H : Hp) (vs : List V) (Q : VK) (E : XK), Room k (A.deeper (PySem.W.envX qual sc s.heap.objs.size f (.ref c) [("__class__", cc)])) → sp vs H Q E →
      ∃ a ws, vs = .ref a :: ws ∧ H a = some (exo a D none) ∧ ∃ ta, PA (NdefX.ncx (L2.CX P w) P w K mg base N (supF name qual params (supB p0 p1 p2 pos pos2 e es rest) sc cc c) f A outer s H E) (e :: es) ta ∧
        (ta (NdefX.startF N vs [some (.ref D)]) H fun us H1 => us.length ≤ 1000 ∧ H1 a = some (exo a D none) ∧
          ∃ t, PSs (NdefX.ncx (L2.CX P w) P w K mg base N (supF name qual params (supB p0 p1 p2 pos pos2 e es rest) sc cc c) f A outer s H E) rest t ∧ t { nx := fun _ H' => Q .non H', rt := Q } (NdefX.startF N vs [some (.ref D)]) H1)) :
    FnOk P w K mg base (L2.CX P w) (k + 1) f (PySem.W.fnX name qual params (supB p0 p1 p2 pos pos2 e es rest) sc [("__class__", cc)] .none kV doc pm an (.ref c) ct) ps sp := by
  refine ⟨len, fun A outer s H args us vs Q E hr e0 hb r hsp => ?_⟩
  have hl := len _ _ _ _ hsp
  have KX : K.In s.heap := e0.mod.kin.keeps fun b o e => (e0.bs b o e).1
  have lim : s.heap.NoLimit := e0.mod.nolimit.keeps fun b o e => (e0.bs b o e).1
  obtain ⟨oc, od, osl, lf⟩ := S.fn
  obtain ⟨cl, cld, csl, lcell⟩ := S.cell
  refine codeAny_call_function hr.depth (KX _ _ lf) rfl NS.co NS.gen rfl (PySem.W.codeRec_of KX hcd) (hb _ _ _ _ ?_)
  refine wpAny_newFunctionEnv NS.nocell (fun ⟨n, _⟩ hy => NS.par n (List.of_mem_zip hy).1) (fun h₁ hns hsb => ⟨lim.fresh _ hsb, ?_⟩) NS.kind
  have kp : ∀ b o, s.heap.get? b = some o → h₁.get? b = some o := fun b o e => hsb.extBut b o (Nat.ne_of_lt (Heap.lt_size e)) (Heap.get?_push_of_some _ e)
  obtain ⟨a, ws, rfl, ea, ta, pa, hq⟩ := hbody A outer s H vs Q E (hr.deeper _) hsp
  have CA : NdefX.CellsAt [(("__class__" : Str), cc)] ["__class__"] [some (.ref D)] s.heap H := by
    have ec : ∀ y x, List.lookup y [(("__class__" : Str), cc)] = some x → y = "__class__" ∧ x = cc := fun y x q => by
      simp only [List.lookup_cons, List.lookup_nil] at q
      split at q
      · rename_i h; cases q; exact ⟨by simpa using h, rfl⟩
      · cases q
    have hb := e0.bs _ _ (e0.mod.kin _ _ lcell)
    refine ⟨rfl, fun y x q => ?_, fun x y z q1 q2 => ?_, fun i y q => ?_⟩
    · obtain ⟨rfl, rfl⟩ := ec y x q
      exact ⟨hb.2, _, _, hb.1, rfl⟩
    · rw [(ec _ _ q1).1, (ec _ _ q2).1]
    · cases i with
      | zero =>
        simp at q
        subst q
        refine ⟨cc, by simp, fun v q => ?_⟩
        simp at q
        subst q
        exact ⟨_, rfl, _, hb.1, rfl⟩
      | succ i => simp at q
  have I := NdefX.inv_startN (CX := L2.CX P w) (E := E) (F := (supF name qual params (supB p0 p1 p2 pos pos2 e es rest) sc cc c)) (f := f) (tk := s.toks + (ps.zip us).length) NS hr.hd e0 hl r CA hns kp
  obtain ⟨pl, hc'⟩ := hc (PySem.W.envX qual sc s.heap.objs.size f (.ref c) [("__class__", cc)])
  show codeAny _ _ (.func (supB p0 p1 p2 pos pos2 e es rest) (PySem.W.envX qual sc s.heap.objs.size f (.ref c) [("__class__", cc)])) _ _
  have hin : interactive (PySem.W.envX qual sc s.heap.objs.size f (.ref c) [("__class__", cc)]) = false := by
    simp [interactive, NS.kind]
  refine ks_codeAny_funcAt (ks_wpAt_execs_cons (ks_wpAt_Expr_any (PySem.wpAt_mono (sup_init (Q := fun _ H1 => ∃ t, PSs (NdefX.ncx (L2.CX P w) P w K mg base N (supF name qual params (supB p0 p1 p2 pos pos2 e es rest) sc cc c) f A outer s H E) rest t ∧ t { nx := fun _ H' => Q .non H', rt := Q } (NdefX.startF N (V.ref a :: ws) [some (V.ref D)]) H1) S T NS.kind rfl h0 rfl I ea pa hq hc' (he _) (hpl _)) ?_ fun _ _ z => z) hin (hsw _)))
  intro u s1 ⟨v, H1, J, rv, t, ht, q⟩
  refine PySem.wpAt_of_wpAny (wpAny_mono (ht.run [] s1 _ H1 _ J q) (fun fl s' hs => ?_) fun e s' hs => hs)
  have fin : ∀ {σ' : L2.St} {H' : Hp} {v : V} {u : Value}, Inv (NdefX.ncx (L2.CX P w) P w K mg base N (supF name qual params (supB p0 p1 p2 pos pos2 e es rest) sc cc c) f A outer s H E) [] σ' H' s' → L2.RelV v u → Q v H' → CE outer P w H s Q u s' :=
    fun {σ' H' v u} J rv q => ⟨v, H', J.os, J.bare, J.base, J.hok, rv, q⟩
  cases fl with
  | ret u =>
    obtain ⟨v, σ', H', J, rv, q⟩ := hs
    exact fin J rv q
  | next =>
    obtain ⟨σ', H', J, q⟩ := hs
    exact fin (v := V.non) (u := Value.none) J rfl q
  | brk => obtain ⟨_, _, _, q⟩ := hs; exact q.elim
  | cont => obtain ⟨_, _, _, q⟩ := hs; exact q.elim
end
end Y
end

section
set_option maxHeartbeats 2000000
/-! Y, errors: made, raised, caught. -/
namespace Y
open PySem PySem.Spec PyProof.Rows L2
/-- what an error's __init__ does: its fields are its arguments -/
def spI (C : Addr) (fs : List Str) : Sp := fun vs H Q _ => ∃ (a : Addr) (ws : List V), vs = .ref a :: ws ∧ ws.length = fs.length ∧ H a = some (exo a C none) ∧ ∀ dx, H dx = none → dx ≠ a → Q .non (upd (upd H dx (exd dx (fs.zip ws).reverse)) a (exo a C (some dx)))
theorem spI_len {C : Addr} {fs : List Str} : ∀ vs H Q E, spI C fs vs H Q E → vs.length = (("self" : Str) :: fs).length := fun vs H Q E ⟨a, ws, e, l, _⟩ => by rw [e]; simp [l]
theorem upd_at {H : Hp} {a : Addr} {o : HO} (e : H a = some o) : upd H a o = H := by
  funext b
  by_cases z : b = a
  · rw [z, upd_same, e]
  · rw [upd_ne z]
theorem upd_comm {H : Hp} {a b : Addr} {o u : HO} (n : a ≠ b) : upd (upd H a o) b u = upd (upd H b u) a o := by
  funext c
  by_cases z : c = a
  · subst z; rw [upd_ne n, upd_same, upd_same]
  · by_cases y : c = b
    · subst y; rw [upd_same, upd_ne z, upd_same]
    · rw [upd_ne y, upd_ne z, upd_ne z, upd_ne y]
section
variable {P : Program} {w : World} {K : PySem.W.Frag} {mg : Str → Option Value} {base : Heap} {f c cc D : Addr} {qual name x y z : Str} {params : Arguments} {sc : Scope} {kV doc pm ct : Value} {an : Option Addr} {p0 p1 p2 pos pos2 : Pos} {q1 q2 q3 a1 a2 a3 a4 b1 b2 b3 b4 c1 c2 c3 c4 : Pos}
/-- how super().__init__(..) runs -/
abbrev supE (p0 p1 p2 pos : Pos) (es : List Expr) (env : Env) (pl : Sem Bool) : Sem Value := do
  let ov ← attributeBase (.Call (.Name "super" p0) [] [] p1) "__init__" env (eval (.Call (.Name "super" p0) [] [] p1) env)
  standAt p2.atName
  let (f, first) ← holding [ov] (getMethod ov "__init__" pl)
  callWith pos f first (backTo pos (starEach es env)) []
abbrev st1 (x : Str) (a1 a2 a3 a4 : Pos) : Stmt := .Assign [.Attribute (.Name "self" a1) x a2] (.Name x a3) a4
theorem init1 (hc : ∀ env : Env, ∃ pl : Sem Bool, eval (.Call (.Attribute (.Call (.Name "super" p0) [] [] p1) "__init__" p2) [.Name x q1] [] pos) env = supE p0 p1 p2 pos [.Name x q1] env pl) (S : SupK P K mg f c cc D (PySem.W.fnX name qual params (supB p0 p1 p2 pos pos2 (.Name x q1) [] [st1 x a1 a2 a3 a4]) sc [("__class__", cc)] .none kV doc pm an (.ref c) ct) sc) (T : OexC K D) (hcd : PySem.W.codeIn K (.ref c) qual = true)
    (NS : NdefX.NScope ["self", x, "__class__"] ["self", x] ["__class__"] sc) (n1 : PySem.W.findIn K (.ref D) x = some none) (dx1 : (x == ("__debug__" : Str)) = false) (dx2 : (x == ("__classdict__" : Str)) = false) :
    FnOk P w K mg base (L2.CX P w) 1 f (PySem.W.fnX name qual params (supB p0 p1 p2 pos pos2 (.Name x q1) [] [st1 x a1 a2 a3 a4]) sc [("__class__", cc)] .none kV doc pm an (.ref c) ct) ["self", x] (spI D [x]) := by
  refine fn_super (k := 0) S T hcd NS rfl spI_len hc (fun _ => rfl) (fun _ => rfl) (fun _ => rfl) fun A outer s H vs Q E hr h => ?_
  obtain ⟨a, ws, rfl, hl, ha, hq⟩ := h
  match ws, hl with
  | [v], _ =>
    refine ⟨a, [v], rfl, ha, _, pa_cons (pe_var (i := 1) rfl (.inl (NS.par x (by simp))) dx1 dx2) pa_nil rfl, ?_⟩
    refine ⟨v, rfl, ?_⟩
    refine ⟨by show 1 ≤ 1000; decide, ha, _, pss_one (ps_ost (pe_var (i := 0) rfl (.inl (NS.par "self" (by simp)))) (pe_var (i := 1) rfl (.inl (NS.par x (by simp))) dx1 dx2) rfl), ?_⟩
    refine ⟨v, rfl, .ref a, rfl, a, D, rfl, T, n1, .inl ⟨ha, fun dx hd ne => ?_⟩⟩
    exact hq dx hd ne
theorem init2 (hc : ∀ env : Env, ∃ pl : Sem Bool, eval (.Call (.Attribute (.Call (.Name "super" p0) [] [] p1) "__init__" p2) [.Name x q1, .Name y q2] [] pos) env = supE p0 p1 p2 pos [.Name x q1, .Name y q2] env pl) (S : SupK P K mg f c cc D (PySem.W.fnX name qual params (supB p0 p1 p2 pos pos2 (.Name x q1) [.Name y q2] [st1 x a1 a2 a3 a4, st1 y b1 b2 b3 b4]) sc [("__class__", cc)] .none kV doc pm an (.ref c) ct) sc) (T : OexC K D) (hcd : PySem.W.codeIn K (.ref c) qual = true)
    (NS : NdefX.NScope ["self", x, y, "__class__"] ["self", x, y] ["__class__"] sc) (n1 : PySem.W.findIn K (.ref D) x = some none) (n2 : PySem.W.findIn K (.ref D) y = some none) (dx1 : (x == ("__debug__" : Str)) = false) (dx2 : (x == ("__classdict__" : Str)) = false) (dy1 : (y == ("__debug__" : Str)) = false) (dy2 : (y == ("__classdict__" : Str)) = false) :
    FnOk P w K mg base (L2.CX P w) 1 f (PySem.W.fnX name qual params (supB p0 p1 p2 pos pos2 (.Name x q1) [.Name y q2] [st1 x a1 a2 a3 a4, st1 y b1 b2 b3 b4]) sc [("__class__", cc)] .none kV doc pm an (.ref c) ct) ["self", x, y] (spI D [x, y]) := by
  refine fn_super (k := 0) S T hcd NS rfl spI_len hc (fun _ => rfl) (fun _ => rfl) (fun _ => rfl) fun A outer s H vs Q E hr h => ?_
  obtain ⟨a, ws, rfl, hl, ha, hq⟩ := h
  match ws, hl with
  | [v, u], _ =>
    refine ⟨a, [v, u], rfl, ha, _, pa_cons (pe_var (i := 1) rfl (.inl (NS.par x (by simp))) dx1 dx2) (pa_cons (pe_var (i := 2) rfl (.inl (NS.par y (by simp))) dy1 dy2) pa_nil rfl) rfl, ?_⟩
    refine ⟨v, rfl, u, rfl, ?_⟩
    refine ⟨by show 2 ≤ 1000; decide, ha, _, pss_cons (ps_ost (pe_var (i := 0) rfl (.inl (NS.par "self" (by simp)))) (pe_var (i := 1) rfl (.inl (NS.par x (by simp))) dx1 dx2) rfl) (pss_one (ps_ost (pe_var (i := 0) rfl (.inl (NS.par "self" (by simp)))) (pe_var (i := 2) rfl (.inl (NS.par y (by simp))) dy1 dy2) rfl)), ?_⟩
    refine ⟨v, rfl, .ref a, rfl, a, D, rfl, T, n1, .inl ⟨ha, fun dx hd ne => ?_⟩⟩
    refine ⟨u, rfl, .ref a, rfl, a, D, rfl, T, n2, .inr ⟨dx, _, upd_same, by rw [upd_ne ne, upd_same], by show 1 ≤ 900; decide, ?_⟩⟩
    have q := hq dx hd ne
    rw [upd_comm (Ne.symm ne), upd_upd]
    exact q
theorem init3 (hc : ∀ env : Env, ∃ pl : Sem Bool, eval (.Call (.Attribute (.Call (.Name "super" p0) [] [] p1) "__init__" p2) [.Name x q1, .Name y q2, .Name z q3] [] pos) env = supE p0 p1 p2 pos [.Name x q1, .Name y q2, .Name z q3] env pl) (S : SupK P K mg f c cc D (PySem.W.fnX name qual params (supB p0 p1 p2 pos pos2 (.Name x q1) [.Name y q2, .Name z q3] [st1 x a1 a2 a3 a4, st1 y b1 b2 b3 b4, st1 z c1 c2 c3 c4]) sc [("__class__", cc)] .none kV doc pm an (.ref c) ct) sc) (T : OexC K D) (hcd : PySem.W.codeIn K (.ref c) qual = true)
    (NS : NdefX.NScope ["self", x, y, z, "__class__"] ["self", x, y, z] ["__class__"] sc) (n1 : PySem.W.findIn K (.ref D) x = some none) (n2 : PySem.W.findIn K (.ref D) y = some none) (n3 : PySem.W.findIn K (.ref D) z = some none) (dx1 : (x == ("__debug__" : Str)) = false) (dx2 : (x == ("__classdict__" : Str)) = false) (dy1 : (y == ("__debug__" : Str)) = false) (dy2 : (y == ("__classdict__" : Str)) = false) (dz1 : (z == ("__debug__" : Str)) = false) (dz2 : (z == ("__classdict__" : Str)) = false) :
    FnOk P w K mg base (L2.CX P w) 1 f (PySem.W.fnX name qual params (supB p0 p1 p2 pos pos2 (.Name x q1) [.Name y q2, .Name z q3] [st1 x a1 a2 a3 a4, st1 y b1 b2 b3 b4, st1 z c1 c2 c3 c4]) sc [("__class__", cc)] .none kV doc pm an (.ref c) ct) ["self", x, y, z] (spI D [x, y, z]) := by
  refine fn_super (k := 0) S T hcd NS rfl spI_len hc (fun _ => rfl) (fun _ => rfl) (fun _ => rfl) fun A outer s H vs Q E hr h => ?_
  obtain ⟨a, ws, rfl, hl, ha, hq⟩ := h
  match ws, hl with
  | [v, u, t], _ =>
    refine ⟨a, [v, u, t], rfl, ha, _, pa_cons (pe_var (i := 1) rfl (.inl (NS.par x (by simp))) dx1 dx2) (pa_cons (pe_var (i := 2) rfl (.inl (NS.par y (by simp))) dy1 dy2) (pa_cons (pe_var (i := 3) rfl (.inl (NS.par z (by simp))) dz1 dz2) pa_nil rfl) rfl) rfl, ?_⟩
    refine ⟨v, rfl, u, rfl, t, rfl, ?_⟩
    refine ⟨by show 3 ≤ 1000; decide, ha, _, pss_cons (ps_ost (pe_var (i := 0) rfl (.inl (NS.par "self" (by simp)))) (pe_var (i := 1) rfl (.inl (NS.par x (by simp))) dx1 dx2) rfl) (pss_cons (ps_ost (pe_var (i := 0) rfl (.inl (NS.par "self" (by simp)))) (pe_var (i := 2) rfl (.inl (NS.par y (by simp))) dy1 dy2) rfl) (pss_one (ps_ost (pe_var (i := 0) rfl (.inl (NS.par "self" (by simp)))) (pe_var (i := 3) rfl (.inl (NS.par z (by simp))) dz1 dz2) rfl))), ?_⟩
    refine ⟨v, rfl, .ref a, rfl, a, D, rfl, T, n1, .inl ⟨ha, fun dx hd ne => ?_⟩⟩
    refine ⟨u, rfl, .ref a, rfl, a, D, rfl, T, n2, .inr ⟨dx, _, upd_same, by rw [upd_ne ne, upd_same], by show 1 ≤ 900; decide, ?_⟩⟩
    refine ⟨t, rfl, .ref a, rfl, a, D, rfl, T, n3, .inr ⟨dx, _, by rw [upd_ne (Ne.symm ne), upd_same], upd_same, by show 2 ≤ 900; decide, ?_⟩⟩
    have q := hq dx hd ne
    rw [upd_upd, upd_comm (Ne.symm ne), upd_upd]
    exact q
end
end Y
end

section
set_option maxHeartbeats 2000000
/-! Y, raise, try. -/
namespace Y
open PySem PySem.Spec PyProof.Rows L2
def sRaise (c : Nat) (ks : List Nat) (fa : ES → M (List EV)) : ES → EH → FL := fun σ h => (fa σ h).fl σ fun vs h1 => match allP vs with
  | some ps => .exc c (ks.zip ps).reverse σ h1
  | none => .stuck
/-- what the written part says of an error's class -/
structure Exk (P : Program) (w : World) (G : Wd) (mg : Str → Option Value) (base : Heap) (k : Nat) (x : Str) (c : Nat) (ks : List Nat) : Prop where
  ex : ∃ (fI : Addr) (fd : FuncData) (ps : List Str), FnOk P w G.K mg base (L2.CX P w) k fI fd ps (spI (G.CA c) (ks.map G.AN)) ∧ PySem.W.findIn G.K (.ref (G.CA c)) "__init__" = some (some (.ref fI)) ∧ PySem.W.typeIn G.K (.ref fI) = some (.type "function") ∧ Binds G.K fd ps []
  T : OexC G.K (G.CA c)
  mg : mg x = some (.ref (G.CA c))
  ks : ∀ i ∈ ks, i < G.NN
section
variable {G : Wd} {X : Cx}
theorem zip_rep {ρ : Rh} {H : Hp} : ∀ {ks : List Nat} {ps : List PV} {vs : List V}, (∀ i ∈ ks, i < G.NN) → PRepL G ρ H ps vs → ks.length = ps.length → PRepF G ρ H (ks.zip ps) ((ks.map G.AN).zip vs)
  | [], _, _, _, _, _ => by simp only [List.zip_nil_left, List.map_nil]; exact .nil
  | k :: ks, _, _, h, .nil, e => by simp at e
  | k :: ks, _, _, h, .cons a b, e => .cons (h k (by simp)) a (zip_rep (fun i m => h i (by simp [m])) b (by simpa using e))
theorem PRepF.append {ρ : Rh} {H : Hp} : ∀ {xs ys : List (Nat × PV)} {vs ws : List (Str × V)}, PRepF G ρ H xs vs → PRepF G ρ H ys ws → PRepF G ρ H (xs ++ ys) (vs ++ ws)
  | _, _, _, _, .nil, s => s
  | _, _, _, _, .cons k r t, s => .cons k r (PRepF.append t s)
theorem PRepF.reverse {ρ : Rh} {H : Hp} {xs : List (Nat × PV)} {vs : List (Str × V)} (r : PRepF G ρ H xs vs) : PRepF G ρ H xs.reverse vs.reverse := by
  induction xs generalizing vs with
  | nil => cases r; exact .nil
  | cons x xs ih =>
    cases r with
    | cons k a b =>
      rw [List.reverse_cons, List.reverse_cons]
      exact (ih b).append (.cons k a .nil)
theorem RA.failS {es : List Expr} {fa : ES → M (List EV)} (ha : RA G X es fa) {σ : ES} {h : EH} {ρ : Rh} {τ : L2.St} {H : Hp} {g : List EV → EH → FL} {k : List V → Hp → Prop} {D : Ends} (R : Rel G ρ h H) (S : SR G ρ H σ τ) (f : FinS G X ρ H D ((fa σ h).fl σ g)) (no : ∀ x h1, fa σ h ≠ .ok x h1) : wA X es τ H k := by
  refine ha σ h ρ τ H k R S ?_
  have f' := FinS.fl S f
  cases e : fa σ h with
  | ok x h1 => exact absurd e (no x h1)
  | exc c fs h1 => rw [e] at f'; exact f'
  | stuck => rw [e] at f'; exact f'
/-- the error let go -/
theorem let_go {H : Hp} {a dx : Addr} {o u v w : HO} (ha : H a = none) (ne : dx ≠ a) : upd (L2.del (upd (upd (upd H a o) dx u) a v) a) dx w = upd H dx w := by
  funext b
  by_cases z : b = dx
  · subst z; rw [upd_same, upd_same]
  · rw [upd_ne z, upd_ne z]
    by_cases y : b = a
    · subst y; rw [del_same, ha]
    · rw [del_ne y, upd_ne y, upd_ne z, upd_ne y]
theorem rs_raise {k j c m : Nat} {ks : List Nat} {x : Str} {e : Expr} {es : List Expr} {fa : ES → M (List EV)} {p pos pos2 : Pos} (D : Exk X.prog X.w G X.mg X.base k x c ks) (hr : Room j X.A) (hj : k + 1 ≤ j) (ha : RA G X (e :: es) fa) (hl : ALen fa m) (hm : ks.length = m := by rfl) (h3 : m ≤ 1000 := by decide) (hc : X.calm = true := by rfl) (hK : X.K = G.K := by rfl) (hg : Gl X x := by rfl)
    (db : (x == ("__debug__" : Str)) = false := by decide) (st : starEach (e :: es) X.env = (false, eval e X.env) :: starEach es X.env := by first | exact star_cons rfl | rfl) (np : (backTo pos (starEach es X.env)).any (·.1) = false := by rfl) : RS G X (.Raise (some (.Call (.Name x p) (e :: es) [] pos)) none pos2) (sRaise c ks fa) := by
  obtain ⟨fI, fd, ps, O, iC, tI, hb⟩ := D.ex
  have T := D.T
  rw [← hK] at O iC tI hb T
  intro σ h ρ τ H E R S ff
  have hp : Passes (L2.CX X.prog X.w) X (fun _ _ _ => False) := fun _ _ _ _ _ _ _ h => by
    obtain ⟨_, _, _, _, _, _, _, _, _, _, _, _, z⟩ := h
    exact z.elim
  by_cases ok : ∃ vs h1, fa σ h = .ok vs h1
  · obtain ⟨vs, h1, e0⟩ := ok
    have f1 : FinS G X ρ H E (match allP vs with | some ps => .exc c (ks.zip ps).reverse σ h1 | none => .stuck) := by
      dsimp only [sRaise] at ff
      rw [e0] at ff
      exact ff
    split at f1
    · rename_i qs eq'
      obtain ⟨W, tk, f2⟩ := f1
      refine wS.of (ps_raise hc tk (pmk_oex (p := p) (pos := pos) T iC tI O (hr.mono hj) hb .nil hp hg D.mg wA.pa db st np)) ?_
      refine ha.run R S e0 fun ρ1 H1 xs x1 R1 rx => ?_
      have lx : xs.length = m := by rw [← rx.length]; exact hl _ _ _ _ e0
      refine ⟨by rw [lx]; exact h3, fun a ha' => ?_⟩
      refine ⟨a, xs, by rw [List.append_nil], by simp [lx, hm], upd_same, fun dx hd ne => ⟨rfl, dx, _, upd_same, by rw [upd_ne ne, upd_same], ?_, ?_⟩⟩
      · rwa [upd_ne ne] at hd
      · rw [upd_ne ne] at hd
        rw [let_go ha' ne]
        have rp := rx.plain eq'
        have lq : ks.length = qs.length := by rw [rp.length, lx, hm]
        have ex : Ext ρ1 H1 ρ1 (upd H1 dx (.xd ((ks.map G.AN).zip xs).reverse)) := Ext.laid0 hd
        exact f2 ρ1 _ τ dx (x1.trans ex) (R1.aside hd) (S.mono (x1.trans ex).toMo) ⟨R1.fresh hd, _, upd_same, ((zip_rep D.ks rp lq).reverse).mono ex.toMo⟩
    · exact f1.elim
  · refine wS.of (ps_raise hc takes_none5 (pmk_oex (p := p) (pos := pos) T iC tI O (hr.mono hj) hb .nil hp hg D.mg wA.pa db st np)) ?_
    exact ha.failS R S ff fun vs h1 q => ok ⟨vs, h1, q⟩

/-! ### try -/
/-- a world in a suite: slot i holds the error at a, its dict is d -/
def Wd.er (G : Wd) (i : Nat) (a d : Addr) (fs : PF) : Wd := { G with
  Z := fun ρ τ H => τ[i]? = some (some (V.ref a)) ∧ ExAt G ρ H d fs
  Zm := fun ρ τ H ρ' H' ⟨z1, z2, gs, z3, z4⟩ e => ⟨z1, e.nin z2 z3, gs, e.sol _ _ z2 rfl z3, z4.mono e⟩
  Zf := false
  Zs := fun h => by cases h }
theorem Wd.er_eq {G : Wd} {i : Nat} {a d : Addr} {fs : PF} : WdEq G (G.er i a d fs) := ⟨rfl, rfl, rfl, rfl, rfl, rfl⟩
/-- e.f, e the error that is handled -/
def eErr (fs : PF) (k : Nat) : ES → M EV := fun _ h => R.opt ((lkN k fs).map .p) h
def clr (i : Nat) (r : FL) : FL := match r with
  | .nx σ h => .nx (σ.set i none) h
  | .rt v h => .rt v h
  | .bk σ h => .bk (σ.set i none) h
  | .ct σ h => .ct (σ.set i none) h
  | .exc _ _ _ _ => .stuck
  | .stuck => .stuck
def sTryAs (cm : Nat → Option Bool) (i : Nat) (fb : ES → EH → FL) (fsu : PF → ES → EH → FL) : ES → EH → FL := fun σ h => match fb σ h with
  | .exc c fs σ' h' => match cm c with
    | some true => if i < σ'.length then clr i (fsu fs (σ'.set i none) h') else .stuck
    | some false => .exc c fs σ' h'
    | none => .stuck
  | r => r
/-- .. whose suite is never reached -/
def sTryN (cm : Nat → Option Bool) (fb : ES → EH → FL) : ES → EH → FL := fun σ h => match fb σ h with
  | .exc c fs σ' h' => match cm c with
    | some false => .exc c fs σ' h'
    | _ => .stuck
  | r => r
theorem FinS.conv {G G' : Wd} {X X' : Cx} {ρ : Rh} {H : Hp} {D D' : Ends} {r : FL} {i : Nat} (he : WdEq G G') (hG : G.Zf = true) (f : FinS G X ρ H D (clr i r)) (d1 : D' = { nx := fun σ' H' => D.nx (σ'.set i none) H', rt := D.rt, bk := fun σ' H' => D.bk (σ'.set i none) H', ct := fun σ' H' => D.ct (σ'.set i none) H' }) : FinS G' X' ρ H D' r := by
  subst d1
  have sr : ∀ {ρ' H' σ' τ'}, SR G' ρ' H' σ' τ' → SR G ρ' H' (σ'.set i none) (τ'.set i none) := fun {ρ' H' σ' τ'} s => by
    have s0 : SR G ρ' H' σ' τ' := ⟨s.len, fun j v q => let ⟨x, a, b⟩ := s.at' j v q; ⟨x, a, b.conv he.symm⟩, G.Zs hG _ _ _⟩
    exact s0.clear hG
  cases r with
  | nx σ' h' => exact fun ρ' H' τ' e R S => f ρ' H' _ e (R.conv he.symm) (sr S)
  | rt v h' => exact fun ρ' H' x e R r => f ρ' H' x e (R.conv he.symm) (r.conv he.symm)
  | bk σ' h' => exact fun ρ' H' τ' e R S => f ρ' H' _ e (R.conv he.symm) (sr S)
  | ct σ' h' => exact fun ρ' H' τ' e R S => f ρ' H' _ e (R.conv he.symm) (sr S)
  | exc c fs σ' h' => exact f.elim
  | stuck => exact f.elim
/-- the body of a try, for any wish -/
theorem try_body {body : List Stmt} : ∀ (W : WX) (pn : List (Addr × Obj)) (xe : Value → Shared → Prop), Takes (X.tr pn xe) W → PassesOwn (model X.prog X.w) X.A X.env xe →
    PSs (X.tr pn xe) body (fun D σ H => ∀ pn xe, Takes (X.tr pn xe) W → PassesOwn (model X.prog X.w) X.A X.env xe → wSs (X.tr pn xe) body D σ H) :=
  fun W pn xe tk ps => ⟨fun pins s σ H D I h => h pn xe tk ps pins s I⟩
theorem rs_try_as {i : Nat} {n x : Str} {cH : Value} {cm : Nat → Option Bool} {body suite : List Stmt} {b0 : Stmt} {fb : ES → EH → FL} {fsu : PF → ES → EH → FL} {np pos pos' : Pos} (hG : G.Zf = true) (hN : X.N.Nodup) (hx : Names X x cH) (hcm : ∀ c b, cm c = some b → PySem.W.exmOne X.K (.ref (G.CA c)) cH = some b)
    (hb : ∀ (pn : List (Addr × Obj)) (xe : Value → Shared → Prop), PassesOwn (model X.prog X.w) X.A X.env xe → RSs G (X.tr pn xe) body fb)
    (hsu : ∀ (c : Nat) (fs : PF) (a d : Addr) (oe : Obj) (pn : List (Addr × Obj)), cm c = some true → Zc (.ref (G.CA c)) (some d) oe → (∃ vs, oe.data = .fields vs) → RSs (G.er i a d fs) (X.suite a ((a, oe) :: pn)) (b0 :: suite) (fsu fs))
    (hi : X.N[i]? = some n := by rfl) (hln : X.env.kindOf n = some .local := by rfl) (hs : X.stack = X.env :: X.outer := by rfl) (hf : X.env.frame = some X.env.locals := by rfl) :
    RS G X (.Try body [.ExceptHandler (some (.Name x np)) (some n) (b0 :: suite) pos'] [] [] pos) (sTryAs cm i fb fsu) := by
  intro σ h ρ τ H D R S ff
  -- what the suite is asked
  let ts : Addr → Value → Option Addr → TS := fun a cls d D σ H => ∀ oe pn, Zc cls d oe → (∃ vs, oe.data = .fields vs) → wSs (X.suite a ((a, oe) :: pn)) (b0 :: suite) D σ H
  have hts : ∀ (a : Addr) (oe : Obj) (cls : Value) (d : Option Addr) (pn : List (Addr × Obj)), Zc cls d oe → (∃ vs, oe.data = .fields vs) → PSs (X.suite a ((a, oe) :: pn)) (b0 :: suite) (ts a cls d) :=
    fun a oe cls d pn z v => ⟨fun pins s σ H D I h => h oe pn z v pins s I⟩
  have go : ∀ (Wout : WX), Takes X Wout → (∀ pn xe, Takes (X.tr pn xe) (wAs X.K cH i ts Wout D) → PassesOwn (model X.prog X.w) X.A X.env xe → FinS G (X.tr pn xe) ρ H D (fb σ h)) → wS X (.Try body [.ExceptHandler (some (.Name x np)) (some n) (b0 :: suite) pos'] [] [] pos) D τ H := fun Wout tk q =>
    wS.of (ps_try_as hs hf hN hi hln hx tk try_body hts) fun pn xe t p => hb pn xe p σ h ρ τ H D R S (q pn xe t p)
  cases er : fb σ h with
  | nx σ' h' =>
    have f' : FinS G X ρ H D (.nx σ' h') := by dsimp only [sTryAs] at ff; rw [er] at ff; exact ff
    exact go _ takes_none5 fun pn xe _ _ => by rw [er]; exact f'
  | rt v h' =>
    have f' : FinS G X ρ H D (.rt v h') := by dsimp only [sTryAs] at ff; rw [er] at ff; exact ff
    exact go _ takes_none5 fun pn xe _ _ => by rw [er]; exact f'
  | bk σ' h' =>
    have f' : FinS G X ρ H D (.bk σ' h') := by dsimp only [sTryAs] at ff; rw [er] at ff; exact ff
    exact go _ takes_none5 fun pn xe _ _ => by rw [er]; exact f'
  | ct σ' h' =>
    have f' : FinS G X ρ H D (.ct σ' h') := by dsimp only [sTryAs] at ff; rw [er] at ff; exact ff
    exact go _ takes_none5 fun pn xe _ _ => by rw [er]; exact f'
  | stuck =>
    have f' : FinS G X ρ H D .stuck := by dsimp only [sTryAs] at ff; rw [er] at ff; exact ff
    exact f'.elim
  | exc c fs σ' h' =>
    have f' : FinS G X ρ H D (match cm c with | some true => if i < σ'.length then clr i (fsu fs (σ'.set i none) h') else .stuck | some false => .exc c fs σ' h' | none => .stuck) := by dsimp only [sTryAs] at ff; rw [er] at ff; exact ff
    cases ec : cm c with
    | none => rw [ec] at f'; exact f'.elim
    | some b =>
      rw [ec] at f'
      cases b with
      | false =>
        obtain ⟨W, tk, f2⟩ := f'
        refine go W tk fun pn xe t _ => ?_
        rw [er]
        exact ⟨_, t, fun ρ' H' τ' d e R' S' x' => ⟨false, hcm c _ ec, (fun z => nomatch z), fun _ => f2 ρ' H' τ' d e R' S' x'⟩⟩
      | true =>
        refine go _ takes_none5 fun pn xe t _ => ?_
        rw [er]
        refine ⟨_, t, fun ρ' H' τ' d e R' S' x' => ⟨true, hcm c _ ec, fun _ a ha => ?_, fun z => nomatch z⟩⟩
        intro oe pn2 zc dv
        by_cases hl : i < σ'.length
        · have f3 : FinS G X ρ H D (clr i (fsu fs (σ'.set i none) h')) := by
            have f4 := f'
            simp only [if_pos hl] at f4
            exact f4
          have S2 : SR (G.er i a d fs) ρ' H' (σ'.set i none) (τ'.set i (some (.ref a))) := by
            have s0 := S'.clear hG (i := i) (o := some (V.ref a))
            refine ⟨s0.len, fun j v q => let ⟨y, p, r⟩ := s0.at' j v q; ⟨y, p, r.conv Wd.er_eq⟩, ?_, x'⟩
            rw [List.getElem?_set_self (by rw [← S'.len]; exact hl)]
          exact hsu c fs a d oe pn2 ec zc dv (σ'.set i none) h' ρ' (τ'.set i (some (.ref a))) H' _ (R'.conv Wd.er_eq) S2 (FinS.conv Wd.er_eq hG (FinS.start e f3) rfl)
        · simp only [if_neg hl] at f'
          exact f'.elim
end
end Y
end

section
/-! Y, match. -/
namespace Y
open PySem PySem.Spec PyProof.Rows L2
/-- what a pattern gives: stuck, no, or what it binds -/
abbrev PtR := Option (Option (List (Nat × EV)))
abbrev Pt := EV → EH → PtR
def ptVal (c : EV) : Pt := fun v h => (eqP h v c).map fun b => match b with
  | true => some []
  | false => none
def ptAny : Pt := fun _ _ => some (some [])
def ptCap (i : Nat) : Pt := fun v _ => some (some [(i, v)])
def ptAs (p : Pt) (i : Nat) : Pt := fun v h => (p v h).map fun r => r.map fun bs => bs ++ [(i, v)]
def ptNo : Pt := fun _ _ => some none
/-- the first of some that bind nothing -/
def ptOr (p q : Pt) : Pt := fun v h => match p v h with
  | none => none
  | some none => q v h
  | some (some bs) => some (some bs)
abbrev Pts := List EV → EH → PtR
def psNil : Pts := fun _ _ => some (some [])
def psCons (p : Pt) (q : Pts) : Pts := fun vs h => match vs with
  | [] => some (some [])
  | v :: r => match p v h with
    | none => none
    | some none => some none
    | some (some bs) => (q r h).map fun m => m.map fun more => bs ++ more
def isFlat : EV → Bool
  | .p .non => true
  | .p (.bl _) => true
  | .p (.int _) => true
  | .p (.str _) => true
  | _ => false
def ptSeq (n : Nat) (q : Pts) : Pt := fun v h => match isFlat v with
  | true => some none
  | false => match tupOf v with
    | some xs => match Nat.beq xs.length n with
      | true => q xs h
      | false => some none
    | none => none
def setAll : List (Nat × EV) → ES → ES
  | [], σ => σ
  | (i, v) :: r, σ => setAll r (σ.set i (some v))
def mNil : EV → ES → EH → FL := fun _ σ h => .nx σ h
def mCase (p : Pt) (b : ES → EH → FL) (r : EV → ES → EH → FL) : EV → ES → EH → FL := fun v σ h => match p v h with
  | none => .stuck
  | some none => r v σ h
  | some (some bs) => b (setAll bs σ) h
def mCaseG (p : Pt) (t : ES → M Bool) (b : ES → EH → FL) (r : EV → ES → EH → FL) : EV → ES → EH → FL := fun v σ h => match p v h with
  | none => .stuck
  | some none => r v σ h
  | some (some bs) => (t (setAll bs σ) h).fl (setAll bs σ) fun c h1 => match c with
    | true => b (setAll bs σ) h1
    | false => r v (setAll bs σ) h1
def sMatch (fe : ES → M EV) (r : EV → ES → EH → FL) : ES → EH → FL := fun σ h => (fe σ h).fl σ fun v h1 => r v σ h1

section
variable {G : Wd} {X : Cx}
/-- a name that may be bound -/
def Bd (X : Cx) (i : Nat) (x : Str) : Prop := X.N[i]? = some x ∧ Loc X.env.scope x ∧ (X.fn x = true ∨ X.env.scope.names.lookup x = some .local)
def RB (X : Cx) : Option (List (Nat × V)) → Option (List (Str × Value)) → Prop
  | none, none => True
  | some l, some m => Paired (fun (a : Nat × V) (b : Str × Value) => Bd X a.1 b.1 ∧ RelV a.2 b.2) l m
  | _, _ => False
inductive RepB (G : Wd) (ρ : Rh) (H : Hp) : List (Nat × EV) → List (Nat × V) → Prop
  | nil : RepB G ρ H [] []
  | cons {i : Nat} {x : EV} {v : V} {xs : List (Nat × EV)} {vs : List (Nat × V)} : Rep G ρ H x v → RepB G ρ H xs vs → RepB G ρ H ((i, x) :: xs) ((i, v) :: vs)
theorem RepB.append {ρ : Rh} {H : Hp} : ∀ {xs ys : List (Nat × EV)} {vs ws : List (Nat × V)}, RepB G ρ H xs vs → RepB G ρ H ys ws → RepB G ρ H (xs ++ ys) (vs ++ ws)
  | _, _, _, _, .nil, s => s
  | _, _, _, _, .cons r t, s => .cons r (RepB.append t s)
theorem Paired.app {α β : Type} {F : α → β → Prop} : ∀ {a b : List α} {c d : List β}, Paired F a c → Paired F b d → Paired F (a ++ b) (c ++ d)
  | _, _, _, _, .nil, s => s
  | _, _, _, _, .cons r t, s => .cons r (Paired.app t s)
def RepO (G : Wd) (ρ : Rh) (H : Hp) : Option (List (Nat × EV)) → Option (List (Nat × V)) → Prop
  | none, none => True
  | some l, some m => RepB G ρ H l m
  | _, _ => False
/-- a pattern against a value: the heap stays -/
def wPt (X : Cx) (p : Pattern) (x : V) (H : Hp) (Q : Option (List (Nat × V)) → Prop) : Prop := ∀ pins s σ u, Inv X pins σ H s → RelV x u → wpAny (model X.prog X.w) X.A (matchPattern p X.env u) (fun r s' => ∃ r', Inv X pins σ H s' ∧ RB X r' r ∧ Q r') X.xe s
def wPs (X : Cx) (ps : List Pattern) (xs : List V) (H : Hp) (Q : Option (List (Nat × V)) → Prop) : Prop := ∀ pins s σ us, Inv X pins σ H s → Vals xs us → wpAny (model X.prog X.w) X.A (matchEach ps X.env us) (fun r s' => ∃ r', Inv X pins σ H s' ∧ RB X r' r ∧ Q r') X.xe s
variable (G X) in
def RPt (p : Pattern) (f : Pt) : Prop := ∀ (v : EV) (x : V) (h : EH) (ρ : Rh) (H : Hp) (r : Option (List (Nat × EV))) (Q : Option (List (Nat × V)) → Prop), Rel G ρ h H → Rep G ρ H v x → f v h = some r → (∀ r', RepO G ρ H r r' → Q r') → wPt X p x H Q
variable (G X) in
def RPs (ps : List Pattern) (f : Pts) : Prop := ∀ (vs : List EV) (xs : List V) (h : EH) (ρ : Rh) (H : Hp) (r : Option (List (Nat × EV))) (Q : Option (List (Nat × V)) → Prop), Rel G ρ h H → RepL G ρ H vs xs → vs.length = ps.length → f vs h = some r → (∀ r', RepO G ρ H r r' → Q r') → wPs X ps xs H Q
theorem rpt_val {e : Expr} {c : EV} {w : V} {pos : Pos} (hu : X.A.units + 64 < cLine) (pe : PE X e (tC w)) (rc : ∀ ρ H, Rep G ρ H c w) (hK : X.K = G.K := by rfl) : RPt G X (.MatchValue e pos) (ptVal c) := by
  intro v x h ρ H r Q R rv e0 k pins s σ u I ru
  refine wpAny_matchPattern_Value (thn (pe.run pins s σ H (fun y H1 => y = w ∧ H1 = H) I ⟨rfl, rfl⟩) fun u1 s1 ⟨y, H1, J, ry, e1, e2⟩ => ?_)
  subst e1 e2
  unfold ptVal at e0
  cases eb : eqP h v c with
  | none => rw [eb] at e0; cases e0
  | some b =>
    rw [eb] at e0
    obtain ⟨d, d', p1, p2, s1', s2, e3⟩ := eqP_ex R rv (rc ρ H1) eb
    refine thn (op_eqD hu pins s1 σ H1 x y u u1 (fun z H2 => z = .bl b ∧ H2 = H1) J ru ry ⟨d, d', by rw [hK]; exact p1, by rw [hK]; exact p2, s1', s2, by rw [e3], rfl⟩) fun u2 s2 ⟨z, H2, J2, rz, ez, eh⟩ => ?_
    subst ez eh
    cases (show u2 = Value.bool b from rz)
    refine wpAny_truthy_bool ?_
    cases b with
    | true => cases e0; exact ⟨some [], J2, .nil, k _ .nil⟩
    | false => cases e0; exact ⟨none, J2, trivial, k _ trivial⟩
theorem rpt_str {s : Str} {l : List Nat} {j} {p1 pos : Pos} (hu : X.A.units + 64 < cLine) (e : s = toS l) (ok : okS l = true := by decide +kernel) (hK : X.K = G.K := by rfl) : RPt G X (.MatchValue (.Constant (.str s) j p1) pos) (ptVal (.p (.str l))) := by
  subst e
  exact rpt_val hu pe_str (fun _ _ => .p (.str (okS_ok ok))) hK
theorem rpt_int {i : Int} {j} {p1 pos : Pos} (hu : X.A.units + 64 < cLine) (hK : X.K = G.K := by rfl) : RPt G X (.MatchValue (.Constant (.int i) j p1) pos) (ptVal (.p (.int i))) := rpt_val hu pe_int (fun _ _ => .p (.int i)) hK
theorem rpt_any {pos : Pos} : RPt G X (.MatchAs none none pos) ptAny := by
  intro v x h ρ H r Q R rv e0 k pins s σ u I ru
  cases e0
  exact wpAny_matchPattern_Capture ⟨some [], I, .nil, k _ .nil⟩
theorem rpt_cap {i : Nat} {n : Str} {pos : Pos} (b : Bd X i n) : RPt G X (.MatchAs none (some n) pos) (ptCap i) := by
  intro v x h ρ H r Q R rv e0 k pins s σ u I ru
  cases e0
  exact wpAny_matchPattern_Capture ⟨some [(i, x)], I, .cons ⟨b, ru⟩ .nil, k _ (.cons rv .nil)⟩
theorem rpt_as {i : Nat} {n : Str} {p : Pattern} {f : Pt} {pos : Pos} (hp : RPt G X p f) (b : Bd X i n) : RPt G X (.MatchAs (some p) (some n) pos) (ptAs f i) := by
  intro v x h ρ H r Q R rv e0 k pins s σ u I ru
  unfold ptAs at e0
  cases e1 : f v h with
  | none => rw [e1] at e0; cases e0
  | some r1 =>
    rw [e1] at e0
    refine wpAny_matchPattern_As (thn (hp v x h ρ H r1 (fun q => RepO G ρ H r1 q) R rv e1 (fun q z => z) pins s σ u I ru) fun m s1 ⟨r', J, rb, ro⟩ => ?_)
    cases r1 with
    | none =>
      cases r' with
      | none =>
        cases m with
        | none => cases e0; exact ⟨none, J, trivial, k _ trivial⟩
        | some _ => exact rb.elim
      | some _ => exact ro.elim
    | some bs =>
      cases r' with
      | none => exact ro.elim
      | some l =>
        cases m with
        | none => exact rb.elim
        | some mm =>
          cases e0
          exact ⟨some (l ++ [(i, x)]), J, Paired.app rb (.cons ⟨b, ru⟩ .nil), k _ (RepB.append ro (.cons rv .nil))⟩
/-- patterns one after the other, without names -/
def wPf (X : Cx) (ps : List Pattern) (x : V) (H : Hp) (Q : Option (List (Nat × V)) → Prop) : Prop := ∀ pins s σ u, Inv X pins σ H s → RelV x u → wpAny (model X.prog X.w) X.A (matchFirst ps X.env u) (fun r s' => ∃ r', Inv X pins σ H s' ∧ RB X r' r ∧ Q r') X.xe s
variable (G X) in
def RPf (ps : List Pattern) (f : Pt) : Prop := ∀ (v : EV) (x : V) (h : EH) (ρ : Rh) (H : Hp) (r : Option (List (Nat × EV))) (Q : Option (List (Nat × V)) → Prop), Rel G ρ h H → Rep G ρ H v x → f v h = some r → (∀ r', RepO G ρ H r r' → Q r') → wPf X ps x H Q
theorem rpf_nil : RPf G X [] ptNo := by
  intro v x h ρ H r Q R rv e0 k pins s σ u I ru
  cases e0
  exact wpAny_matchFirst_nil ⟨none, I, trivial, k _ trivial⟩
theorem rpf_cons {p : Pattern} {ps : List Pattern} {f g : Pt} (hp : RPt G X p f) (hq : RPf G X ps g) : RPf G X (p :: ps) (ptOr f g) := by
  intro v x h ρ H r Q R rv e0 k pins s σ u I ru
  unfold ptOr at e0
  cases e1 : f v h with
  | none => rw [e1] at e0; cases e0
  | some r1 =>
    rw [e1] at e0
    refine wpAny_matchFirst_cons (thn (hp v x h ρ H r1 (fun q => RepO G ρ H r1 q) R rv e1 (fun q z => z) pins s σ u I ru) fun m s1 ⟨r', J, rb, ro⟩ => ?_)
    cases r1 with
    | none =>
      cases r' with
      | none =>
        cases m with
        | none => exact hq v x h ρ H r Q R rv e0 k pins s1 σ u J ru
        | some _ => exact rb.elim
      | some _ => exact ro.elim
    | some bs =>
      cases r' with
      | none => exact ro.elim
      | some l =>
        cases m with
        | none => exact rb.elim
        | some mm => cases e0; exact ⟨some l, J, rb, k _ ro⟩
theorem rpt_or {ps : List Pattern} {f : Pt} {pos : Pos} (hp : RPf G X ps (fun v h => (f v h).map fun r => r.map fun _ => [])) (hf : ∀ v h bs, f v h = some (some bs) → bs = []) (nn : namesOfAll (ps.take 1) = [] := by rfl) : RPt G X (.MatchOr ps pos) f := by
  intro v x h ρ H r Q R rv e0 k pins s σ u I ru
  have e1 : ((f v h).map fun r => r.map fun _ => ([] : List (Nat × EV))) = some r := by
    rw [e0]
    cases r with
    | none => rfl
    | some bs => rw [hf v h bs e0]; rfl
  refine wpAny_matchPattern_Or (thn (hp v x h ρ H r (fun q => RepO G ρ H r q) R rv e1 (fun q z => z) pins s σ u I ru) fun m s1 ⟨r', J, rb, ro⟩ => ?_)
  cases r with
  | none =>
    cases r' with
    | none =>
      cases m with
      | none => exact ⟨none, J, trivial, k _ trivial⟩
      | some _ => exact rb.elim
    | some _ => exact ro.elim
  | some bs =>
    obtain rfl := hf v h bs e0
    cases r' with
    | none => exact ro.elim
    | some l =>
      cases m with
      | none => exact rb.elim
      | some mm =>
        cases ro
        dsimp only
        rw [nn]
        exact ⟨some [], J, .nil, k _ .nil⟩
theorem rps_nil : RPs G X [] psNil := by
  intro vs xs h ρ H r Q R rv hl e0 k pins s σ us I ru
  cases e0
  exact wpAny_matchEach_nil ⟨some [], I, .nil, k _ .nil⟩
theorem rps_cons {p : Pattern} {ps : List Pattern} {f : Pt} {g : Pts} (hp : RPt G X p f) (hq : RPs G X ps g) (st : p.isStar = false := by rfl) : RPs G X (p :: ps) (psCons f g) := by
  intro vs xs h ρ H r Q R rv hl e0 k pins s σ us I ru
  cases rv with
  | nil => simp at hl
  | @cons v x vs xs ra rb =>
    cases ru with
    | @cons _ u _ us ru1 ru2 =>
      simp only [psCons] at e0
      refine wpAny_matchEach_cons ?_ st
      cases e1 : f v h with
      | none => rw [e1] at e0; cases e0
      | some r1 =>
        rw [e1] at e0
        refine thn (hp v x h ρ H r1 (fun q => RepO G ρ H r1 q) R ra e1 (fun q z => z) pins s σ u I ru1) fun m s1 ⟨r', J, rb1, ro⟩ => ?_
        cases r1 with
        | none =>
          cases r' with
          | none =>
            cases m with
            | none => cases e0; exact ⟨none, J, trivial, k _ trivial⟩
            | some _ => exact rb1.elim
          | some _ => exact ro.elim
        | some bs =>
          cases r' with
          | none => exact ro.elim
          | some l =>
            cases m with
            | none => exact rb1.elim
            | some mm =>
              cases e2 : g vs h with
              | none => simp only [e2, Option.map_none] at e0; cases e0
              | some r2 =>
                simp only [e2, Option.map_some] at e0
                refine thn (hq vs xs h ρ H r2 (fun q => RepO G ρ H r2 q) R rb (by simpa using hl) e2 (fun q z => z) pins s1 σ us J ru2) fun m2 s2 ⟨r3, J2, rb2, ro2⟩ => ?_
                cases r2 with
                | none =>
                  cases r3 with
                  | none =>
                    cases m2 with
                    | none => cases e0; exact ⟨none, J2, trivial, k _ trivial⟩
                    | some _ => exact rb2.elim
                  | some _ => exact ro2.elim
                | some bs2 =>
                  cases r3 with
                  | none => exact ro2.elim
                  | some l2 =>
                    cases m2 with
                    | none => exact rb2.elim
                    | some mm2 => cases e0; exact ⟨some (l ++ l2), J2, Paired.app rb1 rb2, k _ (RepB.append ro ro2)⟩
theorem flat_flag {ρ : Rh} {H : Hp} {pins : List (Addr × Obj)} {σ : L2.St} {s : Shared} {v : EV} {x : V} {u : Value} (I : Inv X pins σ H s) (r : Rep G ρ H v x) (ru : RelV x u) (e : isFlat v = true) : ∃ T, s.TypeIs u T ∧ flagOfType true (.type T) = pure false := by
  cases v with
  | p pv =>
    cases rep_p r with
    | non => cases (show u = Value.none from ru); exact ⟨"NoneType", rfl, flag_seq_None⟩
    | bl b => cases (show u = Value.bool b from ru); exact ⟨"bool", rfl, flag_seq_bool⟩
    | int i => obtain ⟨t, rfl⟩ := (show ∃ t, u = Value.int i t from ru); exact ⟨"int", rfl, flag_seq_int⟩
    | str ok => obtain ⟨t, rfl⟩ := ru; exact ⟨"str", rfl, flag_seq_str⟩
    | _ => cases e
  | tup xs => cases e
  | ref n => cases e
theorem rpt_seq {ps : List Pattern} {g : Pts} {n : Nat} {pos : Pos} (hq : RPs G X ps g) (hn : ps.length = n := by rfl) (hc : X.calm = true := by rfl) (hK : X.K = G.K := by rfl) (hstar : ps.findIdx? (·.isStar) = none := by rfl) (hwild : (ps.all fun p => p.isWildcard || (p.isStar && p.names.isEmpty)) = false := by rfl) : RPt G X (.MatchSequence ps pos) (ptSeq n g) := by
  intro v x h ρ H r Q R rv e0 k pins s σ u I ru
  unfold ptSeq at e0
  split at e0
  · rename_i ef
    cases e0
    obtain ⟨T, h1, h2⟩ := flat_flag I rv ru ef
    refine wpAny_matchPattern_Sequence (wpAny_collectionFlag h1 h2 ?_) hstar hwild
    rw [if_neg (by decide)]
    exact ⟨none, I, trivial, k _ trivial⟩
  · split at e0
    · rename_i xs et
      obtain ⟨a, vs, rfl, q, rr⟩ := tup_rep rv et
      cases (show u = Value.ref a from ru)
      obtain ⟨its, rits, ht, hz⟩ := I.tuple (xs := vs) (by rw [hK]; exact q.sq)
      have hl := rits.length
      have fit : ((its.toArray.size : Nat) : Int) < 2 ^ 63 := by
        rw [List.size_toArray, ← hl]
        have : vs.length ≤ 16777216 := by rw [sizeLine_eq] at hz; exact hz
        omega
      split at e0
      · rename_i eb
        have e1 := Nat.beq_eq.mp eb
        have sz : its.toArray.size = ps.length := by rw [List.size_toArray, ← hl, ← rr.length, e1, hn]
        refine matchSeq_tuple_hit ht fit sz ?_ hstar hwild
        rw [← sz]
        refine unpackItems_tuple (I.ok.hd hc) ht fun h' hx => ?_
        have J : Inv X pins σ H { s with heap := h', toks := s.toks + 1 + 1 } := I.kept (t' := s.toks + 1 + 1) fun b o e => hx b o (Nat.ne_of_lt (Heap.lt_size e)) e
        exact hq xs vs h ρ H r Q R rr (by rw [e1, hn]) e0 k pins _ σ _ J (by simpa using rits)
      · rename_i eb
        cases e0
        have ne : its.toArray.size ≠ ps.length := fun z => by
          rw [List.size_toArray, ← hl, ← rr.length, hn] at z
          rw [z, Nat.beq_refl] at eb
          cases eb
        exact matchSeq_tuple_miss ht fit ne ⟨none, I.tok _, trivial, k _ trivial⟩ hstar hwild
    · cases e0

/-! ### the statement -/
def wMc (X : Cx) (cs : List MatchCase) (x : V) : TS := fun D σ H => ∀ pins s u first, Inv X pins σ H s → RelV x u → wpAny (model X.prog X.w) X.A (matchCases cs X.env u first) (SP X pins D) X.xe s
variable (G X) in
def RMc (cs : List MatchCase) (f : EV → ES → EH → FL) : Prop := ∀ (v : EV) (x : V) (σ : ES) (h : EH) (ρ : Rh) (τ : L2.St) (H : Hp) (D : Ends), Rel G ρ h H → SR G ρ H σ τ → Rep G ρ H v x → FinS G X ρ H D (f v σ h) → wMc X cs x D τ H
theorem rmc_nil : RMc G X [] mNil := fun v x σ h ρ τ H D R S r f pins s u first I ru => wpAny_matchCases_nil ⟨τ, H, I, f ρ H τ Ext.refl R S⟩
/-- the names are bound -/
theorem bind_all (hG : G.Zf = true) (hN : X.N.Nodup) : ∀ {bs : List (Nat × EV)} {l : List (Nat × V)} {m : List (Str × Value)} {σ : ES} {τ : L2.St} {ρ : Rh} {H : Hp} {pins : List (Addr × Obj)} {s : Shared} {Q : Unit → Shared → Prop}, RepB G ρ H bs l → Paired (fun (a : Nat × V) (b : Str × Value) => Bd X a.1 b.1 ∧ RelV a.2 b.2) l m → SR G ρ H σ τ → Inv X pins τ H s →
    (∀ τ' s', SR G ρ H (setAll bs σ) τ' → Inv X pins τ' H s' → Q () s') → wpAny (model X.prog X.w) X.A (assignInOrder (m.map fun (n, _) => bindName X.env n) (m.map (·.2))) Q X.xe s
  | _, _, _, _, _, _, _, _, _, _, .nil, .nil, S, I, k => wpAny_assignInOrder_none (k _ _ S I)
  | _, _, _, _, _, _, _, _, _, _, .cons ra rb, .cons h t, S, I, k => by
    obtain ⟨⟨hi, hx, hf⟩, hr⟩ := h
    refine wpAny_assignInOrder_more (wpAny_bindName (store_ok I hN hi hx hr (fun s' J => ?_) hf))
    exact bind_all hG hN rb t (S.set hG ra) J k
theorem rmc_case {p : Pattern} {f : Pt} {body : List Stmt} {fb : ES → EH → FL} {rest : List MatchCase} {fr : EV → ES → EH → FL} (hG : G.Zf = true) (hN : X.N.Nodup) (hp : RPt G X p f) (hb : RSs G X body fb) (hr : RMc G X rest fr) : RMc G X (⟨p, none, body⟩ :: rest) (mCase f fb fr) := by
  intro v x σ h ρ τ H D R S r ff pins s u first I ru
  unfold mCase at ff
  refine wpAny_matchCases_cons ?_
  cases e1 : f v h with
  | none => rw [e1] at ff; exact ff.elim
  | some r1 =>
    rw [e1] at ff
    refine thn (hp v x h ρ H r1 (fun q => RepO G ρ H r1 q) R r e1 (fun q z => z) pins s τ u I ru) fun m s1 ⟨r', J, rb, ro⟩ => ?_
    cases r1 with
    | none =>
      cases r' with
      | none =>
        cases m with
        | none => exact hr v x σ h ρ τ H D R S r ff pins s1 u false J ru
        | some _ => exact rb.elim
      | some _ => exact ro.elim
    | some bs =>
      cases r' with
      | none => exact ro.elim
      | some l =>
        cases m with
        | none => exact rb.elim
        | some mm => exact bind_all hG hN ro rb S J fun τ' s' S' J' => hb (setAll bs σ) h ρ τ' H D R S' ff pins s' J'
theorem rmc_caseG {p : Pattern} {f : Pt} {g : Expr} {t : ES → M Bool} {body : List Stmt} {fb : ES → EH → FL} {rest : List MatchCase} {fr : EV → ES → EH → FL} (hG : G.Zf = true) (hN : X.N.Nodup) (hp : RPt G X p f) (hg : RT G X g t) (hb : RSs G X body fb) (hr : RMc G X rest fr) : RMc G X (⟨p, some g, body⟩ :: rest) (mCaseG f t fb fr) := by
  intro v x σ h ρ τ H D R S r ff pins s u first I ru
  unfold mCaseG at ff
  refine wpAny_matchCases_cons ?_
  cases e1 : f v h with
  | none => rw [e1] at ff; exact ff.elim
  | some r1 =>
    rw [e1] at ff
    refine thn (hp v x h ρ H r1 (fun q => RepO G ρ H r1 q) R r e1 (fun q z => z) pins s τ u I ru) fun m s1 ⟨r', J, rb, ro⟩ => ?_
    cases r1 with
    | none =>
      cases r' with
      | none =>
        cases m with
        | none => exact hr v x σ h ρ τ H D R S r ff pins s1 u false J ru
        | some _ => exact rb.elim
      | some _ => exact ro.elim
    | some bs =>
      cases r' with
      | none => exact ro.elim
      | some l =>
        cases m with
        | none => exact rb.elim
        | some mm =>
          refine bind_all hG hN ro rb S J fun τ' s' S' J' => ?_
          refine thn (hg (setAll bs σ) h ρ τ' H (fun c H2 => ∃ ρ2 h2, Ext ρ H ρ2 H2 ∧ Rel G ρ2 h2 H2 ∧ FinS G X ρ2 H2 D (match c with | true => fb (setAll bs σ) h2 | false => fr v (setAll bs σ) h2)) R S' (FinE.imp (FinS.fl S' ff) fun c h2 ρ2 H2 e2 R2 f2 => ⟨ρ2, h2, e2, R2, f2⟩) pins s' J') fun ok s3 ⟨H2, J2, ρ2, h2, e2, R2, f2⟩ => ?_
          cases ok with
          | true => exact hb (setAll bs σ) h2 ρ2 τ' H2 D R2 (S'.mono e2.toMo) f2 pins s3 J2
          | false => exact hr v x (setAll bs σ) h2 ρ2 τ' H2 D R2 (S'.mono e2.toMo) (r.mono e2.toMo) f2 pins s3 u false J2 ru
theorem rs_match {e : Expr} {fe : ES → M EV} {cs : List MatchCase} {f : EV → ES → EH → FL} {pos : Pos} (he : RE G X e fe) (hc : RMc G X cs f) : RS G X (.Match e cs pos) (sMatch fe f) := by
  intro σ h ρ τ H D R S ff pins s I
  refine wpAny_Match (thn (he σ h ρ τ H (fun x H1 => wMc X cs x D τ H1) R S (FinE.imp (FinS.fl S ff) fun v h1 ρ1 H1 e1 R1 f1 x rx => hc v x σ h1 ρ1 τ H1 D R1 (S.mono e1.toMo) rx f1) pins s I) fun u s1 ⟨x, H1, J, rx, q⟩ => q pins s1 u true J rx)
end
end Y
end

section
/-! Y: starred arguments, chains of comparisons, constants of the module, texts. -/
namespace Y
open PySem PySem.Spec PyProof.Rows L2 TL
/-! ### functions -/
def aStar (fe : ES → M EV) (fr : ES → M (List EV)) : ES → M (List EV) := fun σ h => (fe σ h).bind fun v h1 => match seqOf h1 v with
  | some q => (fr σ h1).bind fun ys h2 => .ok (q.2 ++ ys) h2
  | none => .stuck
def aStarL (fe : ES → M (List EV)) (fr : ES → M (List EV)) : ES → M (List EV) := fun σ h => (fe σ h).bind fun xs h1 => (fr σ h1).bind fun ys h2 => .ok (xs ++ ys) h2
def eChain (g g' : EV → EV → EH → Option (EV × EH)) (fa fb fc : ES → M EV) : ES → M EV := fun σ h => (fa σ h).bind fun x h1 => (fb σ h1).bind fun y h2 => (R.lift (g x y h2)).bind fun z h3 => (boolOf z h3).bind fun k h4 => match k with
  | true => (fc σ h4).bind fun w h5 => R.lift (g' y w h5)
  | false => .ok (.p (.bl false)) h4
/-- the signs of a number -/
def digs : Nat → Nat → List Nat → List Nat
  | 0, _, acc => acc
  | f + 1, n, acc => if Nat.ble n 9 then (48 + n) :: acc else digs f (n / 10) ((48 + n % 10) :: acc)
def numOf (i : Int) : Option (List Nat) := match i with
  | .ofNat n => if Nat.ble n 999999999999 then some (digs 12 n []) else none
  | .negSucc n => if Nat.ble n 999999999998 then some (45 :: digs 12 (n + 1) []) else none
/-- a text or a number as a text -/
def txtOf : EV → Option (List Nat)
  | .p (.str s) => if s.length ≤ 100000 then some s else none
  | .p (.int i) => numOf i
  | _ => none
def eFmt (fe : ES → M EV) : ES → M EV := fun σ h => (fe σ h).bind fun v h1 => R.opt ((txtOf v).map fun s => .p (.str s)) h1
def jNil : ES → List Nat → EH → R EV := fun _ acc h => .ok (.p (.str acc)) h
def jCons (fe : ES → M EV) (fr : ES → List Nat → EH → R EV) : ES → List Nat → EH → R EV := fun σ acc h => (fe σ h).bind fun v h1 => match v with
  | .p (.str s) => if (acc ++ s).length ≤ 100000 then fr σ (acc ++ s) h1 else .stuck
  | _ => .stuck
def eJoined (f : ES → List Nat → EH → R EV) : ES → M EV := fun σ h => f σ [] h
def fStr : List EV → EH → Option (EV × EH)
  | [.p (.str s)], h => some (.p (.str s), h)
  | [.p (.int i)], h => (numOf i).map fun s => (.p (.str s), h)
  | _, _ => none
def isDig (c : Nat) : Bool := Nat.ble 48 c && Nat.ble c 57
def intL : Nat → List Nat → Nat
  | a, [] => a
  | a, c :: r => intL (a * 10 + (c - 48)) r
def fIntS : List EV → EH → Option (EV × EH)
  | [.p (.str s)], h => if !s.isEmpty && s.all isDig && Nat.ble s.length 640 then some (.p (.int (intL 0 s)), h) else none
  | xs, h => fInt1 xs h
def spl1 (c : Nat) : List Nat → List (List Nat)
  | [] => [[]]
  | x :: r => if Nat.beq x c then [] :: spl1 c r else match spl1 c r with
    | [] => [[x]]
    | p :: ps => (x :: p) :: ps
def splitOf : EV → EV → Option (List EV)
  | .p (.str s), .p (.str [c]) => if Nat.ble c 255 && Nat.ble s.length 100000 then some ((spl1 c s).map fun p => .p (.str p)) else none
  | _, _ => none
def lSplit (fo fe : ES → M EV) : ES → M (List EV) := fun σ h => (fo σ h).bind fun x h1 => match x with
  | .p (.str _) => (fe σ h1).bind fun y h2 => R.opt (splitOf x y) h2
  | _ => .stuck
def joinN (S : List Nat) : List (List Nat) → List Nat
  | [] => []
  | [p] => p
  | p :: r => p ++ (S ++ joinN S r)
def joinOf (s : List Nat) (xs : List EV) : Option EV := match strsOf xs with
  | some ss => if (ss.map (·.length)).sum + ss.length * s.length ≤ 100000 then some (.p (.str (joinN s ss))) else none
  | none => none
def eJoin (fo fe : ES → M EV) : ES → M EV := fun σ h => (fo σ h).bind fun x h1 => match x with
  | .p (.str s) => (fe σ h1).bind fun y h2 => R.opt ((seqOf h2 y).bind fun q => joinOf s q.2) h2
  | _ => .stuck
def eJoinL (fo : ES → M EV) (fe : ES → M (List EV)) : ES → M EV := fun σ h => (fo σ h).bind fun x h1 => match x with
  | .p (.str s) => (fe σ h1).bind fun ys h2 => R.opt (joinOf s ys) h2
  | _ => .stuck

section
variable {G : Wd} {X : Cx}
/-! ### starred arguments -/
theorem ra_star {e : Expr} {es : List Expr} {p : Pos} {fe : ES → M EV} {fr : ES → M (List EV)} (he : RE G X e fe) (hr : RA G X es fr) (hK : X.K = G.K := by rfl) (hs : starEach (.Starred e p :: es) X.env = (true, eval e X.env) :: starEach es X.env := by rfl) : RA G X (.Starred e p :: es) (aStar fe fr) := by
  intro σ h ρ τ H Q R S f
  refine wA.of (StX.pa_star wE.pe wA.pa hs) ?_
  refine he σ h ρ τ H _ R S (FinE.imp (FinE.bind f) fun v h1 ρ1 H1 e1 R1 f1 w rv => ?_)
  cases es' : seqOf h1 v with
  | none => rw [es'] at f1; exact f1.elim
  | some q =>
    rw [es'] at f1
    obtain ⟨a, vs, rfl, sq, rr⟩ := seq_rep R1 rv es'
    refine ⟨a, vs, rfl, by rw [hK]; exact sq.any.symm, ?_⟩
    refine hr σ h1 ρ1 τ H1 _ R1 (S.mono e1.toMo) (FinE.imp (FinE.bind f1) fun ys h2 ρ2 H2 e2 R2 f2 us ru => ?_)
    exact f2 ρ2 H2 Ext.refl R2 _ ((rr.mono e2.toMo).append ru)
theorem ra_starL {e : Expr} {es : List Expr} {p : Pos} {fe : ES → M (List EV)} {fr : ES → M (List EV)} (he : RL G X e fe) (hr : RA G X es fr) (hs : starEach (.Starred e p :: es) X.env = (true, eval e X.env) :: starEach es X.env := by rfl) : RA G X (.Starred e p :: es) (aStarL fe fr) := by
  intro σ h ρ τ H Q R S f
  refine wA.of (StX.pa_star wE.pe wA.pa hs) ?_
  refine he σ h ρ τ H _ R S (FinE.imp (FinE.bind f) fun xs h1 ρ1 H1 e1 R1 f1 q vs hq m l Rp r => ?_)
  refine ⟨q, vs, rfl, .inr (.inl (.inl l)), ?_⟩
  refine hr σ h1 ρ1 τ H1 _ R1 (S.mono e1.toMo) (FinE.imp (FinE.bind f1) fun ys h2 ρ2 H2 e2 R2 f2 us ru => ?_)
  exact f2 ρ2 H2 Ext.refl R2 _ (((r.mono Mo.unhid).mono e2.toMo).append ru)

/-! ### chains -/
section
variable {op op' : CmpOp} {g g' : EV → EV → EH → Option (EV × EH)} {a b c : Expr} {fa fb fc : ES → M EV} {pos : Pos}
theorem chain_run {σ : ES} {h : EH} {ρ : Rh} {τ : L2.St} {H : Hp} {Q : VK} (o : RO G X (compareOp op) g) (o' : RO G X (compareOp op') g') (ha : RE G X a fa) (hb : RE G X b fb) (hc : RE G X c fc) (R : Rel G ρ h H) (S : SR G ρ H σ τ)
    (f : FinE G X τ ρ H (eChain g g' fa fb fc σ h) (fun v _ ρ' H' => ∀ x, Rep G ρ' H' v x → Q x H')) : tChain (wO X (compareOp op)) (wO X (compareOp op')) (wE X a) (wE X b) (wE X c) τ H Q := by
  refine ha σ h ρ τ H _ R S (FinE.imp (FinE.bind f) fun x h1 ρ1 H1 e1 R1 f1 v rv => ?_)
  refine hb σ h1 ρ1 τ H1 _ R1 (S.mono e1.toMo) (FinE.imp (FinE.bind f1) fun y h2 ρ2 H2 e2 R2 f2 u ru => ?_)
  obtain ⟨z, h3, e3, f3⟩ := FinE.lift (FinE.bind f2)
  refine o x y h2 ρ2 H2 v u _ z h3 R2 (rv.mono e2.toMo) ru e3 (fun ρ3 H3 w e R3 r => ?_)
  obtain ⟨k, hz, f4⟩ := bool_fin (FinE.bind (f3 ρ3 H3 e R3))
  subst hz
  refine ⟨k, rep_bl r, ?_⟩
  have f5 := f4 ρ3 H3 Ext.refl R3
  cases k with
  | false =>
    rw [if_neg Bool.false_ne_true]
    exact f5 ρ3 H3 Ext.refl R3 _ (.p (.bl false))
  | true =>
    rw [if_pos rfl]
    refine hc σ h3 ρ3 τ H3 _ R3 (((S.mono e1.toMo).mono e2.toMo).mono e.toMo) (FinE.imp (FinE.bind f5) fun w' h5 ρ5 H5 e5 R5 f6 t rt => ?_)
    obtain ⟨z', h6, e6, f7⟩ := FinE.lift f6
    exact o' y w' h5 ρ5 H5 u t Q z' h6 R5 ((ru.mono e.toMo).mono e5.toMo) rt e6 (fun ρ' H' w e R r => f7 ρ' H' e R w r)
theorem re_chain (o : RO G X (compareOp op) g) (o' : RO G X (compareOp op') g') (ha : RE G X a fa) (hb : RE G X b fb) (hc : RE G X c fc) (hm : lastMarks [op, op'] [b, c] = false := by with_unfolding_all rfl) : RE G X (.Compare a [op, op'] [b, c] pos) (eChain g g' fa fb fc) :=
  fun σ h ρ τ H Q R S f => wE.of (pe_chain wO.op wO.op wE.pe wE.pe wE.pe hm) (chain_run o o' ha hb hc R S f)
theorem rt_chain (o : RO G X (compareOp op) g) (o' : RO G X (compareOp op') g') (ha : RE G X a fa) (hb : RE G X b fb) (hc : RE G X c fc) (hm : lastMarks [op, op'] [b, c] = false := by with_unfolding_all rfl) : RT G X (.Compare a [op, op'] [b, c] pos) (tVal (eChain g g' fa fb fc)) :=
  fun σ h ρ τ H Q R S f => wT.of (pt_chain wO.op wO.op wE.pe wE.pe wE.pe hm) (chain_run o o' ha hb hc R S (FinE.imp (FinE.bind f) fun z h1 ρ1 H1 e1 R1 f1 x r => by
    obtain ⟨b', hz, k⟩ := bool_fin f1
    subst hz
    exact ⟨b', rep_bl r, k ρ1 H1 Ext.refl R1⟩))
end

/-! ### constants of the module -/
theorem re_globI {x : Str} {i : Int} {t : Tok} {pos : Pos} (hm : X.mg x = some (.int i t)) (hg : Gl X x := by rfl) (hd : (x == ("__debug__" : Str)) = false := by decide) : RE G X (.Name x pos) (eC (.p (.int i))) :=
  re_c (pe_glob (v := .int i) hg hm ⟨t, rfl⟩ hd) fun _ _ => .p (.int i)
theorem re_globS {x s : Str} {l : List Nat} {t : Tok} {pos : Pos} (hm : X.mg x = some (.str s t)) (e : s = toS l) (h : okS l = true := by decide +kernel) (hg : Gl X x := by rfl) (hd : (x == ("__debug__" : Str)) = false := by decide) : RE G X (.Name x pos) (eC (.p (.str l))) := by
  subst e; exact re_c (pe_glob (v := .str (toS l)) hg hm ⟨t, rfl⟩ hd) fun _ _ => .p (.str (okS_ok h))
/-- a constant of any kind -/
def Kst (G : Wd) (v : PV) (u : Value) : Prop := ∃ w, RelV w u ∧ ∀ ρ H, PRep G ρ H v w
theorem re_glob {x : Str} {v : PV} {u : Value} {pos : Pos} (hm : X.mg x = some u) (k : Kst G v u) (hg : Gl X x := by rfl) (hd : (x == ("__debug__" : Str)) = false := by decide) : RE G X (.Name x pos) (eC (.p v)) := by
  obtain ⟨w, r, q⟩ := k
  exact re_c (pe_glob hg hm r hd) fun ρ H => .p (q ρ H)

/-! ### numbers and texts -/
theorem digs_num : ∀ (f n : Nat) (acc : List Nat), n < 10 ^ f → 0 < f → digs f n acc = numL n ++ acc
  | 0, _, _, _, h => by omega
  | f + 1, n, acc, h, _ => by
    unfold digs
    by_cases hn : n < 10
    · rw [if_pos (Nat.ble_eq.mpr (by omega)), numL_lt hn]; rfl
    · rw [if_neg (fun z => hn (by have := Nat.ble_eq.mp z; omega)), numL_step (by omega)]
      have h2 : n / 10 < 10 ^ f := by
        rw [Nat.pow_succ] at h; omega
      have hf : 0 < f := by
        cases f with
        | zero => simp at h; omega
        | succ k => omega
      rw [digs_num f (n / 10) _ h2 hf]
      simp
theorem numL_sok (n : Nat) : SOk (numL n) := fun c hc => by
  have := numL_digits n c hc
  omega
theorem toS_tl (s : Str) : toS (tl s) = s := by cases s; rfl
theorem ofs_num (n : Nat) : Str.ofString (toString ((n : Nat) : Int)) = toS (numL n) := by rw [← tl_num, toS_tl]
theorem log_small {n : Nat} (h : n ≤ 999999999999) : n.log2 < 1920 := by
  by_cases z : n = 0
  · subst z; decide
  · exact Nat.lt_trans ((Nat.log2_lt z).mpr (show n < 2 ^ 40 from Nat.lt_of_le_of_lt h (by decide))) (by decide)
theorem numOf_ok {i : Int} {s : List Nat} (e : numOf i = some s) : i.natAbs.log2 < 1920 ∧ (Str.ofString (toString i)) = toS s ∧ SOk s := by
  unfold numOf at e
  split at e
  · rename_i n
    split at e
    · rename_i c
      cases e
      have c := Nat.ble_eq.mp c
      rw [digs_num 12 n [] (by omega) (by omega), List.append_nil]
      exact ⟨log_small c, ofs_num n, numL_sok n⟩
    · cases e
  · rename_i n
    split at e
    · rename_i c
      cases e
      have c := Nat.ble_eq.mp c
      rw [digs_num 12 (n + 1) [] (by omega) (by omega), List.append_nil]
      refine ⟨log_small (n := n + 1) (by omega), ?_, fun c hc => ?_⟩
      · have h2 : toString (Int.negSucc n) = "-" ++ toString (((n + 1 : Nat)) : Int) := rfl
        have h1 : tl (Str.ofString (toString (((n + 1 : Nat)) : Int))) = numL (n + 1) := tl_num (n + 1)
        refine ext_tl ?_
        show (Str.ofString (toString (Int.negSucc n))).cps.toList = 45 :: numL (n + 1)
        rw [h2, signs_ofString, String.toList_append, List.map_append, ← signs_ofString (toString (((n + 1 : Nat)) : Int))]
        exact congrArg (45 :: ·) h1
      · rcases List.mem_cons.mp hc with rfl | hc
        · omega
        · exact numL_sok _ c hc
    · cases e
theorem re_fmt {e : Expr} {fe : ES → M EV} {pos : Pos} (he : RE G X e fe) : RE G X (.FormattedValue e (-1) none pos) (eFmt fe) := by
  intro σ h ρ τ H Q R S f
  refine wE.of (pe_fmt wE.pe) ?_
  refine he σ h ρ τ H _ R S (FinE.imp (FinE.bind f) fun v h1 ρ1 H1 e1 R1 f1 w rv => ?_)
  obtain ⟨z, eo, f2⟩ := opt_fin f1
  unfold txtOf at eo
  split at eo
  · split at eo
    · rename_i hl
      cases eo
      obtain ⟨rfl, so⟩ := rep_str rv
      exact .inl ⟨_, rfl, sz_ok hl, f2 ρ1 H1 Ext.refl R1 _ rv⟩
    · cases eo
  · rename_i i
    cases en : numOf i with
    | none => rw [en] at eo; cases eo
    | some s =>
      rw [en] at eo; cases eo
      obtain rfl := rep_int rv
      obtain ⟨h1, h2, h3⟩ := numOf_ok en
      refine .inr ⟨i, rfl, h1, ?_⟩
      have := f2 ρ1 H1 Ext.refl R1 (.str (toS s)) (.p (.str h3))
      rw [← h2] at this
      exact this
  · cases eo
variable (G X) in
/-- the parts of an f-string -/
def RJ (es : List Expr) (f : ES → List Nat → EH → R EV) : Prop := ∃ ts, PJ X es ts ∧ ∀ (σ : ES) (acc : List Nat) (h : EH) (ρ : Rh) (τ : L2.St) (H : Hp) (Q : VK), SOk acc → Rel G ρ h H → SR G ρ H σ τ →
  FinE G X τ ρ H (f σ acc h) (fun v _ ρ' H' => ∀ x, Rep G ρ' H' v x → Q x H') → tJs ts (toS acc) τ H fun out H1 => Q (.str out) H1
theorem rj_nil : RJ G X [] jNil := ⟨[], .nil, fun σ acc h ρ τ H Q so R S f => f ρ H Ext.refl R _ (.p (.str so))⟩
theorem toS_app (a b : List Nat) : toS a ++ toS b = toS (a ++ b) := by
  refine ext_tl ?_
  rw [tl_append]
  show (toS a).cps.toList ++ (toS b).cps.toList = (toS (a ++ b)).cps.toList
  rw [toS_list, toS_list, toS_list]
theorem rj_cons {e : Expr} {es : List Expr} {fe : ES → M EV} {fr : ES → List Nat → EH → R EV} (he : RE G X e fe) (hr : RJ G X es fr) : RJ G X (e :: es) (jCons fe fr) := by
  obtain ⟨ts, pj, hr⟩ := hr
  refine ⟨_, .cons (wE.pe (e := e)) pj, fun σ acc h ρ τ H Q so R S f => ?_⟩
  refine he σ h ρ τ H _ R S (FinE.imp (FinE.bind f) fun v h1 ρ1 H1 e1 R1 f1 w rv => ?_)
  split at f1
  · rename_i s
    split at f1
    · rename_i hl
      obtain ⟨rfl, so2⟩ := rep_str rv
      refine ⟨_, rfl, ?_, ?_⟩
      · rw [toS_app]
        have : (toS (acc ++ s)).length = (acc ++ s).length := by simp [toS, Str.length]
        rw [this]; exact sz_ok hl
      · rw [toS_app]
        exact hr σ (acc ++ s) h1 ρ1 τ H1 Q (fun c m => (List.mem_append.mp m).elim (so c) (so2 c)) R1 (S.mono e1.toMo) f1
    · exact f1.elim
  · exact f1.elim
theorem re_joined {v1 v2 : Expr} {rest : List Expr} {f : ES → List Nat → EH → R EV} {pos : Pos} (h : RJ G X (v1 :: v2 :: rest) f) : RE G X (.JoinedStr (v1 :: v2 :: rest) pos) (eJoined f) := by
  obtain ⟨ts, pj, hr⟩ := h
  intro σ h ρ τ H Q R S f
  exact wE.of (pe_joined pj) (hr σ [] h ρ τ H Q (fun c m => nomatch m) R S f)
theorem rc_str : RC G X (.type "str") fStr := by
  intro xs h ρ H vs Q z h' R r e k
  unfold fStr at e
  split at e
  · cases e
    cases r with
    | cons a b =>
      cases b
      obtain ⟨rfl, so⟩ := rep_str a
      exact wC.of SkE.call_str_str ⟨_, rfl, k ρ H _ Ext.refl R a⟩
  · rename_i i
    cases en : numOf i with
    | none => rw [en] at e; cases e
    | some s =>
      rw [en] at e; cases e
      cases r with
      | cons a b =>
        cases b
        obtain rfl := rep_int a
        obtain ⟨h1, h2, h3⟩ := numOf_ok en
        refine wC.of call_str_int ⟨i, rfl, h1, ?_⟩
        have := k ρ H (.str (toS s)) Ext.refl R (.p (.str h3))
        rw [← h2] at this
        exact this
  · cases e
theorem isDig_iff {c : Nat} : isDig c = true ↔ 48 ≤ c ∧ c ≤ 57 := by
  unfold isDig
  rw [Bool.and_eq_true, Nat.ble_eq, Nat.ble_eq]
theorem intL_eq : ∀ (l : List Nat) (a : Nat), intL a l = l.foldl (fun acc c => acc * 10 + (c - 48)) a
  | [], _ => rfl
  | c :: r, a => intL_eq r _
theorem toS_len (s : List Nat) : (toS s).length = s.length := by simp [toS, Str.length]
theorem rc_intS (h1 : RC G X (.type "int") fInt1) : RC G X (.type "int") fIntS := by
  intro xs h ρ H vs Q z h' R r e k
  unfold fIntS at e
  split at e
  · rename_i s
    split at e
    · rename_i c
      cases e
      simp only [Bool.and_eq_true, Bool.not_eq_true'] at c
      cases r with
      | cons a b =>
        cases b
        obtain ⟨rfl, so⟩ := rep_str a
        have c3 := Nat.ble_eq.mp c.2
        refine wC.of call_int_str ⟨_, _, rfl, intText_digits (x := toS s) ?_ ?_ ?_, ?_, ?_⟩
        · rw [toS_list]; exact fun d m => isDig_iff.mp (List.all_eq_true.mp c.1.2 d m)
        · rw [toS_list]; intro z; rw [z] at c; simp at c
        · rw [toS_len]; omega
        · rw [toS_len]; exact c3
        · rw [toS_list]
          have : _root_.PySem.NumText.digitsVal s = intL 0 s := (intL_eq s 0).symm
          rw [this]
          exact k ρ H _ Ext.refl R (.p (.int _))
    · cases e
  · exact h1 _ h ρ H vs Q z h' R r e k
/-! ### split, join -/
theorem pre1 (c x : Nat) (r : List Nat) : pre [c] (x :: r) = Nat.beq x c := by
  show ([x] == [c]) = Nat.beq x c
  by_cases h : x = c
  · subst h; simp
  · have h1 : Nat.beq x c = false := by
      cases e : Nat.beq x c with
      | false => rfl
      | true => exact absurd (Nat.eq_of_beq_eq_true e) h
    rw [h1]; simp [h]
theorem spl1_ne (c : Nat) : ∀ l : List Nat, spl1 c l ≠ []
  | [] => by simp [spl1]
  | x :: r => by
    unfold spl1
    split
    · simp
    · split <;> simp
theorem spl1_eq (c : Nat) : ∀ (l acc : List Nat), spl [c] 0 acc l = match spl1 c l with
    | [] => []
    | p :: ps => (acc ++ p) :: ps
  | [], acc => by rw [spl_nil]; simp [spl1]
  | x :: r, acc => by
    unfold spl1
    cases e : Nat.beq x c with
    | true =>
      rw [spl_hit (by rw [pre1]; exact e)]
      simp only [if_true, List.append_nil]
      show acc :: spl [c] 0 [] r = _
      rw [spl1_eq c r []]
      have ne := spl1_ne c r
      cases e2 : spl1 c r with
      | nil => exact absurd e2 ne
      | cons p ps => simp
    | false =>
      rw [spl_miss (by rw [pre1]; exact e), spl1_eq c r]
      simp only [Bool.false_eq_true, if_false]
      have ne := spl1_ne c r
      cases e2 : spl1 c r with
      | nil => exact absurd e2 ne
      | cons p ps => simp
theorem split_eq {s : List Nat} {c : Nat} (hc : c ≤ 255) : Txt.split (toS s) (toS [c]) = (spl1 c s).map toS := by
  refine map_tl_inj ?_
  rw [split_spl _ _ (by show [c] ≠ []; simp) (kind_ok (by simp [toS]; omega))]
  show spl [c] 0 [] s = _
  rw [spl1_eq, List.map_map]
  have : (tl ∘ toS) = id := by funext l; exact toS_list l
  rw [this, List.map_id]
  cases spl1 c s <;> simp
theorem spl1_mem (c : Nat) : ∀ (l p : List Nat), p ∈ spl1 c l → ∀ x ∈ p, x ∈ l
  | [], p, h, x, hx => by simp [spl1] at h; subst h; simp at hx
  | y :: r, p, h, x, hx => by
    unfold spl1 at h
    split at h
    · rcases List.mem_cons.mp h with rfl | h
      · simp at hx
      · exact List.mem_cons_of_mem _ (spl1_mem c r p h x hx)
    · split at h
      · simp at h; subst h; simp at hx; subst hx; simp
      · rename_i q qs eq
        rcases List.mem_cons.mp h with rfl | h
        · rcases List.mem_cons.mp hx with rfl | hx
          · simp
          · exact List.mem_cons_of_mem _ (spl1_mem c r q (by rw [eq]; simp) x hx)
        · exact List.mem_cons_of_mem _ (spl1_mem c r p (by rw [eq]; simp [h]) x hx)
theorem rl_split {o e : Expr} {fo fe : ES → M EV} {ap pos : Pos} (ho : RE G X o fo) (he : RE G X e fe) (hs : starEach [e] X.env = [(false, eval e X.env)] := by first | exact star_one rfl | rfl) (hbase : attributeBase o "split" X.env (eval o X.env) = eval o X.env := by rfl) (hline : (ap.endLine == pos.line) = true := by rfl) :
    RL G X (.Call (.Attribute o "split" ap) [e] [] pos) (lSplit fo fe) := by
  intro σ h ρ τ H Q R S f
  refine wE.of (pe_split wE.pe wE.pe hs hbase hline) ?_
  refine ho σ h ρ τ H _ R S (FinE.imp (FinE.bind f) fun x h1 ρ1 H1 e1 R1 f1 v rv => ?_)
  split at f1
  · rename_i s
    obtain ⟨rfl, so⟩ := rep_str rv
    refine ⟨⟨_, rfl⟩, ?_⟩
    refine he σ h1 ρ1 τ H1 _ R1 (S.mono e1.toMo) (FinE.imp (FinE.bind f1) fun y h2 ρ2 H2 e2 R2 f2 u ru => ?_)
    obtain ⟨xs, eo, f3⟩ := opt_fin f2
    unfold splitOf at eo
    split at eo
    · rename_i s' c he1
      cases he1
      split at eo
      · rename_i hc
        cases eo
        rw [Bool.and_eq_true, Nat.ble_eq, Nat.ble_eq] at hc
        obtain ⟨rfl, so2⟩ := rep_str ru
        refine ⟨_, _, rfl, rfl, rfl, ?_, fun p hp => ?_⟩
        · rw [toS_len]
          exact Nat.le_trans (Nat.add_le_add_right hc.2 2) (by decide)
        · rw [split_eq hc.1, List.map_map]
          have rr : RepL G ρ2 H2 ((spl1 c s).map fun p => EV.p (.str p)) ((spl1 c s).map (V.str ∘ toS)) := rep_strs fun p m x hx => so x (spl1_mem c s p m x hx)
          exact LK.laid hp (e1.dom p (e2.dom p hp)) R2 rr (f3 ρ2 _ (Ext.laid0 hp) (R2.aside hp))
      · cases eo
    · cases eo
  · exact f1.elim
theorem joinN_eq (S : List Nat) : ∀ l : List (List Nat), joinN S l = joinL S l
  | [] => rfl
  | [_] => rfl
  | p :: q :: r => by
    show p ++ (S ++ joinN S (q :: r)) = p ++ (S ++ joinL S (q :: r))
    rw [joinN_eq S (q :: r)]
theorem join_toS (s : List Nat) (ss : List (List Nat)) : Txt.join (toS s) (ss.map toS) = toS (joinN s ss) := by
  refine ext_tl ?_
  rw [join_eq, tl_join, List.map_map, joinN_eq]
  have : (tl ∘ toS) = id := by funext l; exact toS_list l
  rw [this, List.map_id]
  exact (toS_list _).symm
theorem joinN_mem (S : List Nat) : ∀ (l : List (List Nat)), SOk S → (∀ s ∈ l, SOk s) → SOk (joinN S l)
  | [], _, _ => fun c m => nomatch m
  | [p], _, h => h p (by simp)
  | p :: q :: r, hS, h => fun c m => by
    rcases List.mem_append.mp (show c ∈ p ++ (S ++ joinN S (q :: r)) from m) with m | m
    · exact h p (by simp) c m
    · rcases List.mem_append.mp m with m | m
      · exact hS c m
      · exact joinN_mem S (q :: r) hS (fun s ms => h s (List.mem_cons_of_mem _ ms)) c m
theorem join_run {s : List Nat} {ρ : Rh} {H : Hp} {xs : List EV} {vs : List V} {z : EV} {Q : VK} {a : Addr} (so : SOk s) (r : RepL G ρ H xs vs) (sq : SqL X.K H a vs ∨ SqT X.K H a vs) (e : joinOf s xs = some z) (k : ∀ w, Rep G ρ H z w → Q w H) :
    ∃ a' p, ∃ ys : List Str, V.str (toS s) = .str a' ∧ [V.ref a] = [.ref p] ∧ (SqL X.K H p (ys.map V.str) ∨ SqT X.K H p (ys.map V.str)) ∧ (ys.map (·.length)).sum + ys.length * a'.length ≤ 16777216 ∧ Q (.str (Txt.join a' ys)) H := by
  unfold joinOf at e
  split at e
  · rename_i ss es
    split at e
    · rename_i hl
      cases e
      obtain ⟨rfl, oks⟩ := strs_rep r es
      refine ⟨_, a, ss.map toS, rfl, rfl, ?_, ?_, ?_⟩
      · rw [List.map_map]; exact sq
      · rw [List.map_map, List.length_map, toS_len]
        have : ((fun x : Str => x.length) ∘ toS) = fun l : List Nat => l.length := by funext l; exact toS_len l
        rw [this]
        exact Nat.le_trans hl (by decide)
      · rw [join_toS]
        exact k _ (.p (.str (joinN_mem s ss so oks)))
    · cases e
  · cases e
theorem re_join {o e : Expr} {fo fe : ES → M EV} {ap pos : Pos} (ho : RE G X o fo) (he : RE G X e fe) (hK : X.K = G.K := by rfl) (hs : starEach [e] X.env = [(false, eval e X.env)] := by first | exact star_one rfl | rfl) (hbase : attributeBase o "join" X.env (eval o X.env) = eval o X.env := by rfl) (hline : (ap.endLine == pos.line) = true := by rfl) :
    RE G X (.Call (.Attribute o "join" ap) [e] [] pos) (eJoin fo fe) := by
  intro σ h ρ τ H Q R S f
  refine wE.of (pe_join wE.pe wE.pe hs hbase hline) ?_
  refine ho σ h ρ τ H _ R S (FinE.imp (FinE.bind f) fun x h1 ρ1 H1 e1 R1 f1 v rv => ?_)
  split at f1
  · rename_i s
    obtain ⟨rfl, so⟩ := rep_str rv
    refine ⟨⟨_, rfl⟩, ?_⟩
    refine he σ h1 ρ1 τ H1 _ R1 (S.mono e1.toMo) (FinE.imp (FinE.bind f1) fun y h2 ρ2 H2 e2 R2 f2 u ru => ?_)
    obtain ⟨z, eo, f3⟩ := opt_fin f2
    cases es : seqOf h2 y with
    | none => rw [es] at eo; cases eo
    | some q =>
      rw [es] at eo
      obtain ⟨a, vs, rfl, sq, rr⟩ := seq_rep R2 ru es
      rw [← hK] at sq
      exact join_run so rr sq.any eo fun w r => f3 ρ2 H2 Ext.refl R2 w r
  · exact f1.elim
theorem re_joinL {o e : Expr} {fo : ES → M EV} {fe : ES → M (List EV)} {ap pos : Pos} (ho : RE G X o fo) (he : RL G X e fe) (hs : starEach [e] X.env = [(false, eval e X.env)] := by first | exact star_one rfl | rfl) (hbase : attributeBase o "join" X.env (eval o X.env) = eval o X.env := by rfl) (hline : (ap.endLine == pos.line) = true := by rfl) :
    RE G X (.Call (.Attribute o "join" ap) [e] [] pos) (eJoinL fo fe) := by
  intro σ h ρ τ H Q R S f
  refine wE.of (pe_join wE.pe wE.pe hs hbase hline) ?_
  refine ho σ h ρ τ H _ R S (FinE.imp (FinE.bind f) fun x h1 ρ1 H1 e1 R1 f1 v rv => ?_)
  split at f1
  · rename_i s
    obtain ⟨rfl, so⟩ := rep_str rv
    refine ⟨⟨_, rfl⟩, ?_⟩
    refine he σ h1 ρ1 τ H1 _ R1 (S.mono e1.toMo) (FinE.imp (FinE.bind f1) fun ys h2 ρ2 H2 e2 R2 f2 q vs hq m l Rp r => ?_)
    obtain ⟨z, eo, f3⟩ := opt_fin f2
    exact join_run so (r.mono Mo.unhid) (.inl (.inl (.inl l))) eo fun w r => f3 ρ2 H2 Ext.refl R2 w r
  · exact f1.elim
end
end Y
end

section
/-! Y: classes with slots. -/
namespace Y
open PySem PySem.Spec PyProof.Rows L2 SlX
/-! ### functions -/
/-- the stores of an __init__ of a class with slots, in order -/
def slI : List (Nat × (ES → M EV)) → ES → EH → Option (PF × EH)
  | [], _, h => some ([], h)
  | (k, fe) :: r, σ, h => match fe σ h with
    | .ok (.p q) h1 => match slI r σ h1 with
      | some (fs, h2) => some ((k, q) :: fs, h2)
      | none => none
    | _ => none
def startN (m : Nat) (ps : List PV) : ES := none :: (ps.map fun p => some (.p p)) ++ List.replicate (m - 1 - ps.length) none
def makeS (c m : Nat) (sl : List (Nat × (ES → M EV))) (vs : List EV) (h : EH) : R EV := match allP vs with
  | some ps => match slI sl (startN m ps) [] with
    | some (fs, _) => .ok (.p (.obj c fs)) h
    | none => .stuck
  | none => .stuck
def eMakeS (c m : Nat) (sl : List (Nat × (ES → M EV))) (ds : List PV) (fa : ES → M (List EV)) : ES → M EV := fun σ h => (fa σ h).bind fun vs h1 => makeS c m sl (vs ++ ds.map .p) h1

/-! ### the heap while an instance is made -/
theorem slH_mo {ρ : Rh} {H : Hp} {a C dx : Addr} {vs : List (Option V)} (ha : a ∈ ρ.out) (hd : dx ∈ ρ.out) : Mo ρ H ρ (slH H a C dx vs) := by
  have ne : ∀ b, b ∉ ρ.all → slH H a C dx vs b = H b := fun b n => slH_ne (fun z => n (by rw [z]; exact Rh.mem_all.mpr (.inl ha))) (fun z => n (by rw [z]; exact Rh.mem_all.mpr (.inl hd)))
  refine ⟨⟨[], by simp⟩, fun b m => .inl m, fun b u n _ r => ?_, fun b u n _ r => by rw [ne b n]; exact r⟩
  rcases r with r | ⟨o, r⟩
  · exact .inl (by rw [ne b n]; exact r)
  · exact .inr ⟨o, by rw [ne b n]; exact r⟩
theorem slH_dom {H : Hp} {a C dx b : Addr} {vs : List (Option V)} (h : slH H a C dx vs b = none) : H b = none := by
  unfold slH at h
  exact upd_dom b (upd_dom b h)
theorem slH_rel {G : Wd} {ρ : Rh} {h : EH} {H : Hp} {a C dx : Addr} {vs : List (Option V)} (R : Rel G ρ h H) (ha : a ∈ ρ.out) (hd : dx ∈ ρ.out) : Rel G ρ h (slH H a C dx vs) :=
  ⟨R.len, R.nd, fun b m z => R.there b m (slH_dom z), R.sep, fun n b o q r => (R.obj n b o q r).move (slH_mo ha hd) fun u z => by
    have m := List.mem_of_getElem? q
    rw [slH_ne (fun w => R.sep a ha (by rw [← w]; exact m)) (fun w => R.sep dx hd (by rw [← w]; exact m))]
    exact z⟩
/-- the slots after stores at the places is -/
def psl (is : List Nat) (gs : List (Str × V)) : List (Option V) := (is.zip gs).foldl (fun vs p => putS p.1 p.2.2 vs) []
def putN (i k : Nat) (vs : List (Option Nat)) : List (Option Nat) := (vs ++ List.replicate (i + 1 - vs.length) none).set i (some k)
def pslN (is ks : List Nat) : List (Option Nat) := (is.zip ks).foldl (fun vs p => putN p.1 p.2 vs) []
theorem putN_put {g : Nat → Option V} {i k : Nat} {v : V} {acc : List (Option Nat)} (e : g k = some v) : putS i v (acc.map (·.bind g)) = (putN i k acc).map (·.bind g) := by
  unfold putS putN
  rw [List.map_set, List.map_append, List.map_replicate, List.length_map]
  simp [e]
theorem psl_fold {g : Nat → Option V} : ∀ {is ks : List Nat} {gs : List (Str × V)} {acc : List (Option Nat)}, ks.map g = gs.map (fun q => some q.2) → (is.zip gs).foldl (fun vs p => putS p.1 p.2.2 vs) (acc.map (·.bind g)) = ((is.zip ks).foldl (fun vs p => putN p.1 p.2 vs) acc).map (·.bind g)
  | [], ks, gs, acc, e => by simp
  | i :: is, [], gs, acc, e => by
    cases gs with
    | nil => simp
    | cons _ _ => simp at e
  | i :: is, k :: ks, [], acc, e => by simp at e
  | i :: is, k :: ks, q :: gs, acc, e => by
    simp only [List.map_cons, List.cons.injEq] at e
    simp only [List.zip_cons_cons, List.foldl_cons]
    rw [putN_put e.1]
    exact psl_fold e.2
theorem psl_look {g : Nat → Option V} {is ks ns : List Nat} {gs : List (Str × V)} (e : ks.map g = gs.map (fun q => some q.2)) (h : pslN is ks = ns.map some) : psl is gs = ns.map g := by
  have := psl_fold (is := is) (acc := []) e
  unfold psl
  unfold pslN at h
  rw [h] at this
  simpa [List.map_map, Function.comp_def] using this
theorem psl_snoc {is : List Nat} {gs : List (Str × V)} {i : Nat} {q : Str × V} (e : is.length = gs.length) : psl (is ++ [i]) (gs ++ [q]) = putS i q.2 (psl is gs) := by
  unfold psl
  rw [List.zip_append e]
  simp
structure SlI (G : Wd) (c : Nat) (a dx : Addr) (ρ0 : Rh) (H0 : Hp) (ρ : Rh) (h : EH) (H : Hp) (is : List Nat) (fs : PF) (gs : List (Str × V)) : Prop where
  out : ρ.out = ρ0.out
  lck : ∀ b o u, b ≠ a → b ≠ dx → H0 b = some (.frz o u) → H b = some (.frz o u)
  oth : ∀ b u, b ≠ a → b ≠ dx → H0 b = some u → H b = some u ∨ (b ∉ ρ0.out ∧ isDL u = true ∧ ∃ o, H b = some (.frz o u))
  dom : ∀ b, H b = none → H0 b = none
  new : ∀ b, b ∈ ρ.loc → H0 b = none
  rel : Rel G ρ h H
  slt : Slt H a (G.CA c) dx (psl is gs)
  il : is.length = gs.length
  flds : PRepF G ρ H fs gs
section
variable {G : Wd} {X : Cx} {c : Nat} {a dx : Addr} {ρ0 ρ ρ' : Rh} {H0 H H' : Hp} {h h' : EH} {is : List Nat} {fs : PF} {gs : List (Str × V)}
theorem slt_keep {vs : List (Option V)} (e : Ext ρ H ρ' H') (ha : a ∈ ρ.out) (hd : dx ∈ ρ.out) (R : Rel G ρ h H) (s : Slt H a (G.CA c) dx vs) : Slt H' a (G.CA c) dx vs := by
  have kp : ∀ b u, b ∈ ρ.out → H b = some u → H' b = some u := fun b u m q => by
    rcases e.oth b u (R.sep b m) q with z | ⟨z, _⟩
    · exact z
    · exact absurd m z
  rcases s with ⟨s, n⟩ | ⟨s1, s2⟩
  · exact .inl ⟨kp _ _ ha s, n⟩
  · exact .inr ⟨kp _ _ ha s1, kp _ _ hd s2⟩
theorem SlI.ext (I : SlI G c a dx ρ0 H0 ρ h H is fs gs) (ha : a ∈ ρ0.out) (hd : dx ∈ ρ0.out) (e : Ext ρ H ρ' H') (R : Rel G ρ' h' H') : SlI G c a dx ρ0 H0 ρ' h' H' is fs gs := by
  refine ⟨e.out.trans I.out, fun b o u n1 n2 q => e.lck b o u (I.lck b o u n1 n2 q), fun b u n1 n2 q => ?_, fun b q => I.dom b (e.dom b q), fun b m => ?_, R, slt_keep e (by rw [I.out]; exact ha) (by rw [I.out]; exact hd) I.rel I.slt, I.il, I.flds.mono e.toMo⟩
  · rcases I.oth b u n1 n2 q with z | ⟨z1, z2, o, z3⟩
    · have nl : b ∉ ρ.loc := fun m => by have := I.new b m; rw [q] at this; cases this
      rcases e.oth b u nl z with w | ⟨w1, w2, w3⟩
      · exact .inl w
      · exact .inr ⟨by rw [← I.out]; exact w1, w2, w3⟩
    · exact .inr ⟨z1, z2, o, e.lck b o u z3⟩
  · rcases e.new b m with z | z
    · exact I.new b z
    · exact I.dom b z
theorem PRepF.snoc {k : Nat} {x : PV} {v : V} (hk : k < G.NN) (r : PRep G ρ H x v) : ∀ {fs : PF} {gs : List (Str × V)}, PRepF G ρ H fs gs → PRepF G ρ H (fs ++ [(k, x)]) (gs ++ [(G.AN k, v)])
  | _, _, .nil => .cons hk r .nil
  | _, _, .cons k' a b => .cons k' a (PRepF.snoc hk r b)
theorem SlI.store (I : SlI G c a dx ρ0 H0 ρ h H is fs gs) (ha : a ∈ ρ0.out) (hd : dx ∈ ρ0.out) (ne : dx ≠ a) {k i : Nat} {x : PV} {y : V} (hk : k < G.NN) (r : PRep G ρ H x y) :
    SlI G c a dx ρ0 H0 ρ h (slH H a (G.CA c) dx (putS i y (psl is gs))) (is ++ [i]) (fs ++ [(k, x)]) (gs ++ [(G.AN k, y)]) := by
  have ha' : a ∈ ρ.out := by rw [I.out]; exact ha
  have hd' : dx ∈ ρ.out := by rw [I.out]; exact hd
  have e : putS i y (psl is gs) = psl (is ++ [i]) (gs ++ [(G.AN k, y)]) := (psl_snoc (i := i) (q := (G.AN k, y)) I.il).symm
  rw [e]
  refine ⟨I.out, fun b o u n1 n2 q => by rw [slH_ne n1 n2]; exact I.lck b o u n1 n2 q, fun b u n1 n2 q => by rw [slH_ne n1 n2]; exact I.oth b u n1 n2 q, fun b q => I.dom b (slH_dom q), I.new, slH_rel I.rel ha' hd', slH_slt ne, by simp [I.il], ?_⟩
  exact (PRepF.snoc hk r I.flds).mono (slH_mo ha' hd')
variable (G X c) in
def SlB (js : List Nat) (sts : List Stmt) (sl : List (Nat × (ES → M EV))) : Prop := ∀ (σ : ES) (τ : L2.St) (h : EH) (ρ0 : Rh) (H0 : Hp) (ρ : Rh) (H : Hp) (a dx : Addr) (is : List Nat) (fs : PF) (gs : List (Str × V)) (D : Ends), τ[0]? = some (some (.ref a)) → dx ≠ a → a ∈ ρ0.out → dx ∈ ρ0.out → SlI G c a dx ρ0 H0 ρ h H is fs gs → SR G ρ H σ τ →
  (match slI sl σ h with
  | some (fs', h') => ∀ ρ' H' gs', SlI G c a dx ρ0 H0 ρ' h' H' (is ++ js) (fs ++ fs') gs' → D.nx τ H'
  | none => False) → wSs X sts D τ H
theorem slb_nil : SlB G X c [] [] [] := fun σ τ h ρ0 H0 ρ H a dx is fs gs D t0 ne ha hd I S f => wSs.of pss_nil (f ρ H gs (by rw [List.append_nil, List.append_nil]; exact I))
theorem slb_cons {i k : Nat} {js : List Nat} {p : Addr} {f self : Str} {e : Expr} {rest : List Stmt} {fe : ES → M EV} {sl : List (Nat × (ES → M EV))} {p1 p2 pos : Pos} (hc : SCls G.K (G.CA c)) (t : Slot1 G.K (G.CA c) f p i) (hk : k < G.NN) (hf : G.AN k = f) (he : RE G X e fe) (hr : SlB G X c js rest sl) (hK : X.K = G.K := by rfl) (hN : X.N[0]? = some self := by rfl) (hv : Vis X.env.scope self := by first | exact Or.inl rfl | exact Or.inr (Or.inl rfl) | exact Or.inr (Or.inr rfl)) (db : (self == ("__debug__" : Str)) = false := by decide)
    (hcd : (self == ("__classdict__" : Str)) = false := by decide) (hs : swapsWith e (some (.Attribute (.Name self p1) f p2)) pos.line X.env = pure false := by rfl) : SlB G X c (i :: js) (.Assign [.Attribute (.Name self p1) f p2] e pos :: rest) ((k, fe) :: sl) := by
  subst hf
  intro σ τ h ρ0 H0 ρ H a dx is fs gs D t0 ne ha hd I S ff
  refine wSs.of (pss_cons (ps_sl (pe_var hN hv db hcd) wE.pe hs) wSs.pss) ?_
  simp only [slI] at ff
  cases e0 : fe σ h with
  | stuck => rw [e0] at ff; exact ff.elim
  | exc c' fs' h' => rw [e0] at ff; exact ff.elim
  | ok v h1 =>
    rw [e0] at ff
    cases v with
    | tup xs => exact ff.elim
    | ref n => exact ff.elim
    | p q =>
      simp only at ff
      cases e1 : slI sl σ h1 with
      | none => rw [e1] at ff; exact ff.elim
      | some pr =>
        obtain ⟨fs', h2⟩ := pr
        rw [e1] at ff
        simp only at ff
        refine he σ h ρ τ H _ I.rel S ?_
        rw [e0]
        intro ρ1 H1 e1' R1 y ry
        have I1 := I.ext ha hd e1' R1
        refine ⟨.ref a, t0, a, G.CA c, dx, p, _, i, rfl, I1.slt, by rw [hK]; exact hc, by rw [hK]; exact t, ?_⟩
        have I2 := I1.store ha hd ne (i := i) hk (rep_p ry)
        refine hr σ τ h1 ρ0 H0 ρ1 _ a dx _ _ _ D t0 ne ha hd I2 ((S.mono e1'.toMo).mono (slH_mo (by rw [I1.out]; exact ha) (by rw [I1.out]; exact hd))) ?_
        rw [e1]
        intro ρ' H' gs' I'
        exact ff ρ' H' gs' (by simpa using I')
/-- the __init__ of a class with slots -/
def spSl (G : Wd) (c m n : Nat) (js : List Nat) (sl : List (Nat × (ES → M EV))) : Sp := fun vs H Q _ => vs.length = n + 1 ∧ ∃ (a dx : Addr) (ws : List V) (ρ : Rh) (ps : List PV), vs = .ref a :: ws ∧ dx ≠ a ∧ a ∈ ρ.out ∧ dx ∈ ρ.out ∧ SlI G c a dx ρ H ρ [] H [] [] [] ∧ PRepL G ρ H ps ws ∧
  (match slI sl (startN m ps) [] with
  | some (fs, h') => ∀ ρ' H' gs, SlI G c a dx ρ H ρ' h' H' js fs gs → Q .non H'
  | none => False)
theorem SR.startN (hG : G.Zf = true) {ps : List PV} {ws : List V} {N : List Str} {m : Nat} {x : V} (r : PRepL G ρ H ps ws) (hm : N.length = m) (hp : ps.length < m) : SR G ρ H (startN m ps) (L2.start N (x :: ws)) := by
  have hl := r.lift.length
  simp only [List.length_map] at hl
  refine ⟨?_, fun i v q => ?_, G.Zs hG _ _ _⟩
  · simp [Y.startN, L2.start, hl, hm]; omega
  · unfold Y.startN at q
    cases i with
    | zero => simp at q
    | succ i =>
      simp only [List.cons_append, List.getElem?_cons_succ] at q
      by_cases hi : i < ps.length
      · rw [List.getElem?_append_left (by simpa using hi), List.getElem?_map] at q
        cases e : ps[i]? with
        | none => rw [e] at q; cases q
        | some w =>
          rw [e] at q
          cases q
          obtain ⟨y, hy, ry⟩ := r.lift.get (i := i) (x := .p w) (by rw [List.getElem?_map, e]; rfl)
          refine ⟨y, ?_, ry⟩
          unfold L2.start
          rw [List.getElem?_append_left (by simp; omega), List.getElem?_map, List.getElem?_cons_succ, hy]
          rfl
      · rw [List.getElem?_append_right (by simpa using hi)] at q
        have := List.mem_of_getElem? q
        simp at this
theorem fn_sl {P : Program} {w : World} {mg : Str → Option Value} {base : Heap} {x qual : Str} {st : Stmt} {f : Addr} {fd : FuncData} {N ps : List Str} {k n m : Nat} {js : List Nat} {sl : List (Nat × (ES → M EV))} (hG : G.Zf = true) (F : Fun G.K x qual st f fd) (S : FnScope N ps (defScope st)) (hn : ps.length = n + 1) (hm : N.length = m) (hnm : n < m)
    (hb : ∀ (cdv : Value) (A : Around) (outer : List Env) (s : Shared) (H : Hp) (E : XK), Room k (A.deeper (envOfC qual (defScope st) s.heap.objs.size f cdv)) → SlB G (cxOf (L2.CX P w) P w G.K mg base N qual (defScope st) f cdv A outer s H E) c js (defBody st) sl) :
    FnOk P w G.K mg base (L2.CX P w) (k + 1) f fd ps (spSl G c m n js sl) := by
  refine F.okX S (fun vs H Q E h => h.1.trans hn.symm) (fun cdv A outer s H vs Q E hr h => ?_)
  obtain ⟨hl, a, dx, ws, ρ, qs, rfl, ne, ha, hd, I, r, q⟩ := h
  refine ⟨_, wSs.pss, ?_⟩
  have hq : qs.length = n := by
    have := r.lift.length
    simp at this hl
    omega
  refine hb cdv A outer s H E hr (startN m qs) _ [] ρ H ρ H a dx [] [] [] _ ?_ ne ha hd I (SR.startN hG r hm (by omega)) ?_
  · simp [L2.start]
  · cases e : slI sl (startN m qs) [] with
    | none => rw [e] at q; exact q.elim
    | some pr =>
      rw [e] at q
      intro ρ' H' gs' I'
      exact q ρ' H' gs' (by simpa using I')
/-- the making of an instance, however its __init__ is known -/
theorem wk_makeS {k j : Nat} {f C : Addr} {fd : FuncData} {ps : List Str} {us : List Value} {dvs : List V} {sp : Sp} {τ : L2.St} {vs : List V} {H : Hp} {Q : VK} {E : XK} (M : Mk X.K C f) (O : FnOk X.prog X.w X.K X.mg X.base (L2.CX X.prog X.w) k f fd ps sp) (hr : Room j X.A) (hj : k + 1 ≤ j)
    (hb : Binds X.K fd ps us) (hd : Vals dvs us) (hx : PassesAt (L2.CX X.prog X.w) X τ E)
    (h : ∀ x dx, H x = none → H dx = none → dx ≠ x → sp (.ref x :: (vs ++ dvs)) (upd (upd H dx (.own x)) x (.ins C dx [])) (fun v H2 => v = .non ∧ Q (.ref x) H2) E) : wK X τ (.ref C) vs H Q := by
  intro pins s ws I r
  let z := s.heap.objs.size
  have J : Inv X pins τ (upd (upd H z (.own (z + 1))) (z + 1) (.ins C z [])) _ := Inv.made (C := C) I
  have hq := h (z + 1) z (I.hok.fresh (Nat.le_succ _)) (I.hok.fresh (Nat.le_refl _)) (Nat.ne_of_lt (Nat.lt_succ_self _))
  have rr : Vals (V.ref (z + 1) :: (vs ++ dvs)) (Value.ref (z + 1) :: (ws ++ us)) := .cons rfl (r.append hd)
  have len : (Value.ref (z + 1) :: ws ++ us).length = ps.length := by
    have e1 := rr.length
    have e2 := O.len _ _ _ _ hq
    simpa [e2] using e1.symm
  have run := O.run (X.A.under (.builtin "type.__call__" ⟨.ref C :: ws, []⟩)) X.stack _ _ ⟨.ref (z + 1) :: ws, []⟩ (.ref (z + 1) :: (ws ++ us)) _ _ E ((hr.mono hj).make C ws []) (J.env0.make C ws []) (hb _ (.ref (z + 1) :: ws) J.kIn len) rr hq
  refine wpAny_call (make_map (f := f) I.kIn M.makes M.init (beq_iff_eq.mp M.fn) (codeAny_mono run fun out s' q => ?_))
  match out with
  | .error e => exact hx pins _ _ e s' J q
  | .ok (.ret u) =>
    obtain ⟨v, H', J2, rv, ev, q2⟩ := J.after q
    subst ev
    exact ⟨rv, V.ref (z + 1), H', J2, rfl, q2⟩
  | .ok .next => exact False.elim q
  | .ok .brk => exact False.elim q
  | .ok .cont => exact False.elim q
structure Mks (P : Program) (w : World) (G : Wd) (mg : Str → Option Value) (base : Heap) (k : Nat) (x : Str) (c m n : Nat) (ds : List PV) (sl : List (Nat × (ES → M EV))) : Prop where
  ex : ∃ (f : Addr) (fd : FuncData) (ps : List Str) (us : List Value) (dvs : List V) (js : List Nat), (∃ ns, G.KD c = .slt ns ∧ pslN js (sl.map (·.1)) = ns.map some ∧ ns ≠ [] ∧ (sl.map (·.1)).Nodup ∧ (∀ k ∈ sl.map (·.1), G.FA c k = true)) ∧ FnOk P w G.K mg base (L2.CX P w) k f fd ps (spSl G c m n js sl) ∧ mg x = some (.ref (G.CA c)) ∧ Mk G.K (G.CA c) f ∧ Binds G.K fd ps us ∧ Vals dvs us ∧ ∀ ρ H, PRepL G ρ H ds dvs
theorem prf_lt : ∀ {fs : PF} {gs : List (Str × V)}, PRepF G ρ H fs gs → ∀ q ∈ fs, q.1 < G.NN
  | _, _, .nil, q, m => nomatch m
  | _, _, .cons hk _ b, q, m => by
    rcases List.mem_cons.mp m with z | z
    · subst z; exact hk
    · exact prf_lt b q z
theorem slots_look : ∀ {fs : PF} {gs : List (Str × V)}, PRepF G ρ H fs gs → (fs.map (·.1)).Nodup → (fs.map (·.1)).map (fun n => gs.lookup (G.AN n)) = gs.map fun g => some g.2
  | _, _, .nil, _ => rfl
  | _, _, .cons (k := k) (x := x) (v := v) (xs := xs) (vs := vs) hk a b, nd => by
    simp only [List.map_cons, List.nodup_cons] at nd ⊢
    refine congr (congrArg List.cons (by simp)) ?_
    rw [← slots_look b nd.2, List.map_map, List.map_map]
    refine List.map_congr_left fun q hq => ?_
    have hqk : q.1 ≠ k := fun z => nd.1 (by rw [← z]; exact List.mem_map_of_mem hq)
    have hqn : q.1 < G.NN := prf_lt b q hq
    have : (G.AN q.1 == G.AN k) = false := by
      have : ¬ G.AN q.1 = G.AN k := fun z => hqk (G.inj _ _ hqn hk z)
      simpa using this
    simp [List.lookup_cons, this]
theorem slI_keys : ∀ {sl : List (Nat × (ES → M EV))} {σ : ES} {h h' : EH} {fs : PF}, slI sl σ h = some (fs, h') → fs.map (·.1) = sl.map (·.1)
  | [], σ, h, h', fs, e => by cases e; rfl
  | (k, fe) :: r, σ, h, h', fs, e => by
    simp only [slI] at e
    split at e
    · split at e
      · rename_i e2
        cases e
        simp [slI_keys e2]
      · cases e
    · cases e
theorem makeS_ok {m n : Nat} {sl : List (Nat × (ES → M EV))} {vs : List EV} {xs : List V} {τ : L2.St} {Q : VK} {ns js : List Nat} (kd : G.KD c = .slt ns) (hns : pslN js (sl.map (·.1)) = ns.map some) (nn : ns ≠ []) (nd : (sl.map (·.1)).Nodup) (fa : ∀ k ∈ sl.map (·.1), G.FA c k = true) (hn : vs.length = n) (R : Rel G ρ h H) (r : RepL G ρ H vs xs) (f : FinE G X τ ρ H (makeS c m sl vs h) (fun v _ ρ' H' => ∀ x, Rep G ρ' H' v x → Q x H')) :
    ∀ x dx, H x = none → H dx = none → dx ≠ x → spSl G c m n js sl (.ref x :: xs) (upd (upd H dx (.own x)) x (.ins (G.CA c) dx [])) (fun v H2 => v = .non ∧ Q (.ref x) H2) (fun _ _ _ => False) := by
  intro x dx hx hd ne
  unfold makeS at f
  split at f
  · rename_i ps ep
    split at f
    · rename_i fs h' es
      have h1 : upd H dx (.own x) x = none := by rw [upd_ne (Ne.symm ne)]; exact hx
      have Ra : Rel G ((ρ.away.hid dx).hid x) [] (upd (upd H dx (.own x)) x (.ins (G.CA c) dx [])) := (R.away.hid hd).hid h1
      have rp : PRepL G ((ρ.away.hid dx).hid x) (upd (upd H dx (.own x)) x (.ins (G.CA c) dx [])) ps xs := (((r.plain ep).set fun a m => Rh.mem_away.mp m).mono (Mo.hid hd)).mono (Mo.hid h1)
      have ox : x ∈ ((ρ.away.hid dx).hid x).out := by simp [Rh.hid]
      have od : dx ∈ ((ρ.away.hid dx).hid x).out := by simp [Rh.hid]
      refine ⟨by simp [← r.length, hn], x, dx, xs, (ρ.away.hid dx).hid x, ps, rfl, ne, ox, od, ?_, rp, ?_⟩
      · exact ⟨rfl, fun b o u _ _ q => q, fun b u _ _ q => .inl q, fun b q => q, fun b m => (by simp [Rh.hid, Rh.away] at m), Ra, .inl ⟨upd_same, rfl⟩, rfl, .nil⟩
      · rw [es]
        intro ρ' H' gs I
        refine ⟨rfl, ?_⟩
        have back : ∀ b u, H b = some u → (upd (upd H dx (.own x)) x (.ins (G.CA c) dx [])) b = some u := fun b u q => by
          rw [upd_ne (fun z => by rw [z, hx] at q; cases q), upd_ne (fun z => by rw [z, hd] at q; cases q)]; exact q
        have nx : ∀ b u, H b = some u → b ≠ x ∧ b ≠ dx := fun b u q => ⟨fun z => (by rw [z, hx] at q; cases q), fun z => (by rw [z, hd] at q; cases q)⟩
        have ex : Ext ρ H ρ H' := by
          refine ⟨rfl, ⟨[], by simp⟩, fun b o u q => I.lck b o u (nx b _ q).1 (nx b _ q).2 (back b _ q), fun b u nl q => ?_, fun b q => ?_, fun b m => .inl m⟩
          · rcases I.oth b u (nx b _ q).1 (nx b _ q).2 (back b _ q) with z | ⟨z1, z2, z3⟩
            · exact .inl z
            · refine .inr ⟨fun m => z1 ?_, z2, z3⟩
              simp [Rh.hid, Rh.away, m]
          · have := I.dom b q
            exact upd_dom b (upd_dom b this)
        have R2 : Rel G ρ h H' := R.ext0 ex fun b u m q => by
          rcases I.oth b u (nx b _ q).1 (nx b _ q).2 (back b _ q) with z | ⟨z1, z2, z3⟩
          · exact z
          · exact absurd (by simp [Rh.hid, Rh.away, m]) z1
        have fx : x ∉ ρ.all := R.fresh hx
        have fd : dx ∉ ρ.all := R.fresh hd
        have sb : ∀ b, b ∈ ρ.all → b ∈ ρ'.all := fun b m => Rh.mem_all.mpr (.inl (by rw [I.out]; simp [Rh.hid, Rh.away]; exact .inr (.inr (Rh.mem_all.mp m))))
        have hk := slI_keys es
        have lk0 := slots_look I.flds (by rw [hk]; exact nd)
        rw [hk] at lk0
        have lk := (psl_look lk0 hns).symm
        refine f ρ H' ex R2 _ (.p (.obj (gs := gs) ⟨fx, ?_⟩ (I.flds.set sb) fun q m => fa _ ?_))
        · rw [kd]
          have := I.slt
          rcases this with ⟨s1, s2⟩ | ⟨s1, s2⟩
          · rw [s2] at lk
            exact absurd (List.map_eq_nil_iff.mp lk) nn
          · exact ⟨dx, fd, by rw [lk]; exact s1, s2⟩
        · rw [← hk]; exact List.mem_map_of_mem m
    · exact f.elim
  · exact f.elim
theorem re_makeS {k j m m' n : Nat} {x : Str} {ds : List PV} {sl : List (Nat × (ES → M EV))} {e : Expr} {es : List Expr} {fa : ES → M (List EV)} {p pos : Pos} (D : Mks X.prog X.w G X.mg X.base k x c m n ds sl) (hr : Room j X.A) (hj : k + 1 ≤ j) (ha : RA G X (e :: es) fa) (hl : ALen fa m') (hn : m' + ds.length = n := by rfl) (hK : X.K = G.K := by rfl) (hg : Gl X x := by rfl)
    (db : (x == ("__debug__" : Str)) = false := by decide) (st : starEach (e :: es) X.env = (false, eval e X.env) :: starEach es X.env := by first | exact star_cons rfl | rfl) (np : (backTo pos (starEach es X.env)).any (·.1) = false := by rfl) : RE G X (.Call (.Name x p) (e :: es) [] pos) (eMakeS c m sl ds fa) := by
  obtain ⟨f, fd, ps, us, dvs, js, ⟨ns, kd, hns, nn, nd, hfa⟩, O, hm, M, hb, hd, rd⟩ := D.ex
  rw [← hK] at O M hb
  intro σ h ρ τ H Q R S ff
  refine wE.of (pe_named hg hm M.kp wA.pa db st np) ?_
  by_cases ok : ∃ vs h1, fa σ h = .ok vs h1
  · obtain ⟨vs, h1, e0⟩ := ok
    refine ha.run R S e0 fun ρ1 H1 xs x1 R1 rx => ?_
    have f1 : FinE G X τ ρ H (makeS c m sl (vs ++ ds.map .p) h1) (fun v _ ρ' H' => ∀ x, Rep G ρ' H' v x → Q x H') := by
      dsimp only [eMakeS] at ff
      rw [e0] at ff
      exact ff
    exact wk_makeS M O hr hj hb hd passNo (makeS_ok (n := n) kd hns nn nd hfa (by simp [hl _ _ _ _ e0, hn]) R1 (rx.append (rd ρ1 H1).lift) (FinE.start x1 f1))
  · exact ha.fail R S ff fun vs h1 q => ok ⟨vs, h1, q⟩

/-! ### attributes of all kinds of instances -/
def tFld2 (K : PySem.W.Frag) (ta : TE) (f : Str) : TE := fun σ H Q => ta σ H fun x H1 => (∃ a C dx fs v, x = .ref a ∧ H1 a = some (.ins C dx fs) ∧ Cls K C ∧ NoAttr K C f ∧ fs.lookup f = some v ∧ Q v H1) ∨
  ∃ a C dx p vs i v, x = .ref a ∧ Slt H1 a C dx vs ∧ SCls K C ∧ Slot1 K C f p i ∧ vs[i]? = some (some v) ∧ Q v H1
theorem pe_fld2 {e : Expr} {ta : TE} {f : Str} {pos : Pos} (he : PE X e ta) (hb : attributeBase e f X.env (eval e X.env) = eval e X.env) : PE X (.Attribute e f pos) (tFld2 X.K ta f) := by
  refine ⟨fun pins s σ H Q I h => ?_⟩
  refine attr_of hb (thn (he.run pins s σ H _ I h) fun u s1 ⟨x, H1, I1, rx, q⟩ => ?_)
  rcases q with ⟨a, C, dx, fs, v, ex, ea, c, n, l, q⟩ | ⟨a, C, dx, p, vs, i, v, ex, hs, c, t, l, q⟩
  · subst ex
    obtain rfl : u = Value.ref a := rx
    exact getattr_ok I1 ea c n l fun u' s2 I2 ru => ⟨v, H1, I2, ru, q⟩
  · subst ex
    obtain rfl : u = Value.ref a := rx
    exact getslot_ok I1 hs c t l fun u' s2 I2 ru => ⟨v, H1, I2, ru, q⟩
/-- what the written part says of the classes with slots: the place of each -/
structure Clb (G : Wd) : Prop where
  a : Cla G
  sl : ∀ c ns, G.KD c = .slt ns → (∃ k, G.FA c k = true) → SCls G.K (G.CA c) ∧ ∀ k, G.FA c k = true → ∃ p i, Slot1 G.K (G.CA c) (G.AN k) p i ∧ ns[i]? = some k
theorem re_attr2 {k : Nat} {o : Expr} {fo : ES → M EV} {f : Str} {pos : Pos} (T : Clb G) (hk : k < G.NN) (hf : G.AN k = f) (ho : RE G X o fo) (od : ∀ c, G.FA c k = true → G.KD c ≠ .exc) (hK : X.K = G.K := by rfl) (hb : attributeBase o f X.env (eval o X.env) = eval o X.env := by rfl) : RE G X (.Attribute o f pos) (eAttr k fo) := by
  subst hf
  intro σ h ρ τ H Q R S ff
  refine wE.of (pe_fld2 wE.pe hb) ?_
  refine ho σ h ρ τ H _ R S (FinE.imp (FinE.bind ff) fun x h1 ρ1 H1 e1 R1 f1 v rv => ?_)
  obtain ⟨z, ez, f2⟩ := opt_fin f1
  unfold attr at ez
  split at ez
  · rename_i c fs
    cases rep_p rv with
    | @obj _ a gs _ ob rf fa =>
      cases el : lkN k fs with
      | none => rw [el] at ez; cases ez
      | some y =>
        rw [el] at ez; cases ez
        have fk := fa _ (lkN_mem el)
        obtain ⟨w, lw, rw'⟩ := (lkF hk rf.lift).1 (.p y) (by rw [lkN_map, el]; rfl)
        obtain ⟨n, ob⟩ := ob
        cases kd : G.KD c with
        | exc => exact absurd kd (od c fk)
        | ord =>
          rw [kd] at ob
          obtain ⟨dx, q⟩ := ob
          exact .inl ⟨a, G.CA c, dx, gs, w, rfl, q, by rw [hK]; exact T.a.cls c kd ⟨k, fk⟩, by rw [hK]; exact T.a.no c k kd fk, lw, f2 ρ1 H1 Ext.refl R1 w rw'⟩
        | slt ns =>
          rw [kd] at ob
          obtain ⟨dx, nd, q1, q2⟩ := ob
          obtain ⟨sc, sk⟩ := T.sl c ns kd ⟨k, fk⟩
          obtain ⟨p, i, st, hi⟩ := sk k fk
          exact .inr ⟨a, G.CA c, dx, p, _, i, w, rfl, .inr ⟨q1, q2⟩, by rw [hK]; exact sc, by rw [hK]; exact st, by rw [List.getElem?_map, hi]; simp [lw], f2 ρ1 H1 Ext.refl R1 w rw'⟩
  · split at ez
    · rename_i c fs eo
      obtain ⟨a, rfl, qa, dx, gs, q, rf, kd, fa⟩ := getref R1 rv eo
      have fk := fa _ (lkN_mem ez)
      obtain ⟨w, lw, rw'⟩ := (lkF hk rf).1 _ ez
      exact .inl ⟨a, G.CA c, dx, gs, w, rfl, q, by rw [hK]; exact T.a.cls c kd ⟨k, fk⟩, by rw [hK]; exact T.a.no c k kd fk, lw, f2 ρ1 H1 Ext.refl R1 w rw'⟩
    · cases ez
  · cases ez
end
end Y
end

section
/-! Y: zip and enumerate over lists and tuples alike. -/
namespace Y
open PySem PySem.Spec PyProof.Rows L2
/-! ### functions -/
/-- a sequence to be walked: its items as they stay, or an object of ours -/
inductive SD where
  | v (xs : List EV) | o (n : Nat)
def sideOf (h : EH) : EV → Option (Bool × SD)
  | .tup xs => some (true, .v xs)
  | .p (.tup xs) => some (true, .v (xs.map .p))
  | .p (.rot xs) => some (true, .v (xs.map .p))
  | .p (.lst xs) => some (false, .v (xs.map .p))
  | .p (.rol xs) => some (false, .v (xs.map .p))
  | .ref n => match h[n]? with
    | some (.lst _) => some (false, .o n)
    | _ => none
  | _ => none
def sdAt (h : EH) (i : Nat) : SD → Option (Option EV)
  | .v xs => match Nat.ble i xs.length with
    | true => some xs[i]?
    | false => none
  | .o n => match h[n]? with
    | some (.lst xs) => match Nat.ble i xs.length with
      | true => some xs[i]?
      | false => none
    | _ => none
def getZ (a b : SD) : GT := fun h i => match sdAt h i a, sdAt h i b with
  | some (some x), some (some y) => some (some (mkTup [x, y]))
  | some none, some _ => some none
  | some (some _), some none => some none
  | _, _ => none
/-- the sides, one behind the other -/
def dNil : ES → M (List (Bool × SD)) := fun _ h => .ok [] h
def dVal (fe : ES → M EV) (fr : ES → M (List (Bool × SD))) : ES → M (List (Bool × SD)) := fun σ h => (fe σ h).bind fun x h1 => match sideOf h1 x with
  | some d => (fr σ h1).bind fun ds h2 => .ok (d :: ds) h2
  | none => .stuck
def dLst (fe : ES → M (List EV)) (fr : ES → M (List (Bool × SD))) : ES → M (List (Bool × SD)) := fun σ h => (fe σ h).bind fun xs h1 => (fr σ h1).bind fun ds h2 => .ok ((false, .v xs) :: ds) h2
def iZip (fd : ES → M (List (Bool × SD))) : ES → M IT := fun σ h => (fd σ h).bind fun ds h1 => match ds with
  | [a, b] => match sdAt h1 0 a.2, sdAt h1 0 b.2 with
    | some _, some _ => .ok (.dyn (getZ a.2 b.2)) h1
    | _, _ => .stuck
  | _ => .stuck
def getE (a : SD) : GT := fun h i => match sdAt h i a with
  | some (some x) => some (some (mkTup [.p (.int i), x]))
  | some none => some none
  | none => none
def iEnum (fd : ES → M (List (Bool × SD))) : ES → M IT := fun σ h => (fd σ h).bind fun ds h1 => match ds with
  | [a] => match sdAt h1 0 a.2 with
    | some _ => .ok (.dyn (getE a.2)) h1
    | none => .stuck
  | _ => .stuck

/-! ### in the model -/
def SqA (h : Heap) (t : Bool) (l : Addr) (items : Array Value) : Prop := match t with
  | true => h.IsTuple l items
  | false => h.IsList l items
def ItA (h : Heap) (t : Bool) (it l : Addr) (i : Nat) : Prop := match t with
  | true => h.IsTupleIter it l i
  | false => h.IsListIter it l i
def itO (t : Bool) (l : Addr) : Obj := { cls := .type (if t then "tuple_iterator" else "list_iterator"), data := .fields #[.ref l, .int 0 0] }
theorem drawsB {prog : Program} {w : World} {A : Around} (hh : A.handled = none) (t : Bool) (it l : Addr) (hne : l ≠ it) (items : Array Value) : Draws prog w A it [it, l] items.size (fun i v => items[i]? = some v) (fun i h => ItA h t it l i ∧ SqA h t l items) := by
  cases t
  · exact Draws.list hh it l hne items
  · exact Draws.tuple hh it l hne items
theorem beginsB (t : Bool) (l : Addr) (items : Array Value) : Begins (.ref l) (itO t l) fun h => SqA h t l items := by
  cases t
  · exact begins_list l items
  · exact begins_tuple l items
theorem itA_new {h : Heap} {t : Bool} {it l : Addr} (e : h.get? it = some (itO t l)) : ItA h t it l 0 := by
  cases t
  · exact ⟨_, e, rfl, rfl⟩
  · exact ⟨_, e, rfl, rfl⟩
theorem itA_at {h h' : Heap} {t : Bool} {it l : Addr} {i : Nat} (x : ItA h t it l i) (k : ∀ o, h.get? it = some o → h'.get? it = some o) : ItA h' t it l i := by
  cases t
  · exact Heap.IsListIter.at x k
  · exact Heap.IsTupleIter.at x k
theorem itA_obj {h : Heap} {t : Bool} {it l : Addr} {i : Nat} (x : ItA h t it l i) : ∃ o, h.get? it = some o ∧ ∀ v, o.data ≠ .cell v := by
  cases t
  · obtain ⟨o, e, _, d⟩ := x; exact ⟨o, e, fun v q => by rw [d] at q; cases q⟩
  · obtain ⟨o, e, _, d⟩ := x; exact ⟨o, e, fun v q => by rw [d] at q; cases q⟩
theorem sqB_get {X : Cx} {pins : List (Addr × Obj)} {σ : L2.St} {H : Hp} {s : Shared} {t : Bool} {a : Addr} {xs : List V} (I : Inv X pins σ H s) (q : SqB X.K H t a xs) : ∃ its, Vals xs its ∧ SqA s.heap t a its.toArray ∧ a < s.heap.objs.size := by
  cases t
  · obtain ⟨its, rv, p, _⟩ := I.list q
    exact ⟨its, rv, p.isList, p.lt⟩
  · obtain ⟨its, rv, p, _⟩ := I.tuple q
    obtain ⟨o, ho, _⟩ := id p
    exact ⟨its, rv, p, Heap.lt_size ho⟩
theorem sqB_inj {X : Cx} {pins : List (Addr × Obj)} {σ : L2.St} {H : Hp} {s : Shared} {t : Bool} {a : Addr} {xs ys : List V} (I : Inv X pins σ H s) (q : SqB X.K H t a xs) (q' : SqB X.K H t a ys) : xs = ys := by
  cases t
  · exact I.list_inj q q'
  · exact I.tuple_inj q q'
def ItzB (K : PySem.W.Frag) (t : Bool) (a : Addr) (u : Bool) (b : Addr) : It :=
  ⟨fun i H => ∃ (xs ys : List V) (x y : V), SqB K H t a xs ∧ SqB K H u b ys ∧ xs[i]? = some x ∧ ys[i]? = some y,
    fun i H v H' => ∃ T x y, v = .ref T ∧ H T = none ∧ H' = upd H T (.tup [x, y]) ∧ (∀ xs, SqB K H t a xs → xs[i]? = some x) ∧ ∀ ys, SqB K H u b ys → ys[i]? = some y,
    fun i H => ∃ xs ys : List V, SqB K H t a xs ∧ SqB K H u b ys ∧ i ≤ xs.length ∧ i ≤ ys.length ∧ (i = xs.length ∨ i = ys.length)⟩
theorem sepB {z TI TO i1 i2 a b : Addr} (D : ZipApart z TI TO i1 i2 a b) : ZipSep2 z TI TO i1 i2 [i1, a] [i2, b] where
  TIz := D.TIz
  TOz := D.TOz
  TITO := D.TITO
  TIi1 := D.TIi1
  mem1 := by simp
  zf1 := by simp; exact ⟨D.i1z.symm, D.l1z.symm⟩
  Tf1 := by simp; exact ⟨D.TOi1, D.l1TO.symm⟩
  TIi2 := D.TIi2
  mem2 := by simp
  zf2 := by simp; exact ⟨D.i2z.symm, D.l2z.symm⟩
  Tf2 := by simp; exact ⟨D.TOi2, D.l2TO.symm⟩
  sep1_2 := by simp; exact ⟨D.i12, D.l2i1.symm⟩
  sep2_1 := by simp; exact ⟨D.i12.symm, D.l1i2.symm⟩
theorem turn_zipB {P : Program} {w : World} {K : PySem.W.Frag} {elts : List Expr} {kk : Nat} {tpos : Pos} {t u : Bool} {a b z TI TO i1 i2 : Addr} (D : ZipApart z TI TO i1 i2 a b) :
    Turn P w K (.Tuple elts kk tpos) (ItzB K t a u b) [z, TI, TO, i1, i2] z (fun i h => IsZip h z TI TO .none ∧ IsPair h TI (.ref i1) (.ref i2) ∧ (∃ x y, IsPair h TO x y) ∧ ItA h t i1 a i ∧ ItA h u i2 b i) where
  mem := by simp
  obj := fun i h st c hc => by
    obtain ⟨hz, hTI, ⟨x, y, hTO⟩, h1, h2⟩ := st
    have e' : c = z ∨ c = TI ∨ c = TO ∨ c = i1 ∨ c = i2 := by simpa using hc
    rcases e' with q | q | q | q | q
    · subst q; exact ⟨_, hz, fun v q => nomatch q⟩
    · subst q; exact ⟨_, hTI, fun v q => nomatch q⟩
    · subst q; exact ⟨_, hTO, fun v q => nomatch q⟩
    · subst q; exact itA_obj h1
    · subst q; exact itA_obj h2
  keep := fun i h h' st k => by
    obtain ⟨hz, hTI, ⟨x, y, hTO⟩, h1, h2⟩ := st
    exact ⟨k z (by simp) _ hz, k TI (by simp) _ hTI, ⟨x, y, k TO (by simp) _ hTO⟩, itA_at h1 fun o q => k i1 (by simp) o q, itA_at h2 fun o q => k i2 (by simp) o q⟩
  item := by
    intro X hP hw hK hc i pins s σ H E I hf st hg
    subst hP hw hK
    obtain ⟨hz, hTI, ⟨x0, y0, hTO⟩, h1, h2⟩ := st
    obtain ⟨xs, ys, x, y, hqx, hqy, hx, hy⟩ := hg
    obtain ⟨its, rv, p, _⟩ := sqB_get I hqx
    obtain ⟨its2, rv2, p2, _⟩ := sqB_get I hqy
    obtain ⟨v1, hv1, r1⟩ := rv.get hx
    obtain ⟨v2, hv2, r2⟩ := rv2.get hy
    have hzl : z < s.heap.objs.size := Heap.lt_size hz
    have lt1 : i < its.toArray.size := by simpa using (List.getElem?_eq_some_iff.mp hv1).1
    have lt2 : i < its2.toArray.size := by simpa using (List.getElem?_eq_some_iff.mp hv2).1
    have hh : X.A.in1.handled = none := I.ok.hd hc
    refine wpAny_pyNext_zipD2_item (sepB D) (drawsB hh t i1 a D.l1i1 its.toArray) (drawsB hh u i2 b D.l2i2 its2.toArray) hz hTI hTO ⟨h1, p⟩ ⟨h2, p2⟩ lt1 lt2 fun w1 w2 h' tk q1 q2 z' TO' s1 s2 hT hsz hk => ?_
    have e1 : w1 = v1 := by
      have q1 : its.toArray[i]? = some w1 := q1
      rw [List.getElem?_toArray, hv1] at q1
      exact (Option.some.inj q1).symm
    have e2 : w2 = v2 := by
      have q2 : its2.toArray[i]? = some w2 := q2
      rw [List.getElem?_toArray, hv2] at q2
      exact (Option.some.inj q2).symm
    subst e1 e2
    refine ⟨_, rfl, wpAny_letOwnedTupleGo_zip (s := { s with heap := h', toks := tk }) z' fun h'' z'' sb => ?_⟩
    have hT2 : h''.get? s.heap.objs.size = some { cls := .type "tuple", data := .seq #[w1, w2] } := (sb.2 _ (Nat.ne_of_gt hzl)).trans hT
    have new : ObjOk X.prog X.w (upd H s.heap.objs.size (.tup [x, y])) h'' s.heap.objs.size (.tup [x, y]) :=
      ⟨by show 2 ≤ sizeLine; decide, [w1, w2], .cons r1 (.cons r2 .nil), ⟨_, hT2, rfl, _, rfl⟩⟩
    have J : Inv X pins σ (upd H s.heap.objs.size (.tup [x, y])) { s with heap := h'', toks := tk } :=
      I.turnedNew (t' := tk) (ch := [z, TI, TO, i1, i2]) (fun c o hb q => (sb.2 c (fun q' => hb (by simp [q']))).trans (hk c o (fun q' => hb (by simp [q'])) (fun q' => hb (by simp [q'])) (fun q' => hb (by simp [q'])) (fun q' => hb (by simp [q'])) q)) hf (Nat.le_refl _) new
    refine ⟨.ref s.heap.objs.size, _, J, rfl, ⟨_, x, y, rfl, I.hok.fresh (Nat.le_refl _), rfl, fun l hl => by rw [sqB_inj I hl hqx]; exact hx, fun l hl => by rw [sqB_inj I hl hqy]; exact hy⟩, ⟨z'', ?_, ⟨w1, w2, ?_⟩, ?_, ?_⟩, fun c hcm => ?_⟩
    · exact (sb.2 _ D.TIz).trans (hk _ _ D.TIz D.TITO D.TIi1 D.TIi2 hTI)
    · exact (sb.2 _ D.TOz).trans TO'
    · exact itA_at s1.1 fun o q => (sb.2 _ D.i1z).trans q
    · exact itA_at s2.1 fun o q => (sb.2 _ D.i2z).trans q
    · have hlt : c < s.heap.objs.size := by
        have e' : c = z ∨ c = TI ∨ c = TO ∨ c = i1 ∨ c = i2 := by simpa using hcm
        rcases e' with q | q | q | q | q
        · subst q; exact hzl
        · subst q; exact Heap.lt_size hTI
        · subst q; exact Heap.lt_size hTO
        · subst q; obtain ⟨_, e1, _⟩ := itA_obj h1; exact Heap.lt_size e1
        · subst q; obtain ⟨_, e2, _⟩ := itA_obj h2; exact Heap.lt_size e2
      rw [upd_ne (Nat.ne_of_lt hlt)]
      exact (hf c hcm).1
  done := by
    intro X hP hw hK hc i pins s σ H E I hf st hg
    subst hP hw hK
    obtain ⟨hz, hTI, ⟨x0, y0, hTO⟩, h1, h2⟩ := st
    obtain ⟨xs, ys, hqx, hqy, l1, l2, hend⟩ := hg
    obtain ⟨its, rv, p, _⟩ := sqB_get I hqx
    obtain ⟨its2, rv2, p2, _⟩ := sqB_get I hqy
    have n1 := rv.length
    have n2 := rv2.length
    have hh : X.A.in1.handled = none := I.ok.hd hc
    refine wpAny_pyNext_zipD2_end (sepB D) (drawsB hh t i1 a D.l1i1 its.toArray) (drawsB hh u i2 b D.l2i2 its2.toArray) hz hTI hTO ⟨h1, p⟩ ⟨h2, p2⟩ (by simp; omega) (by simp; omega) (by simp; omega) fun h' tk hk => ⟨rfl, ?_⟩
    exact I.turnedL (t' := tk) (ch := [z, TI, TO, i1, i2]) (fun c o hb q => hk c o (fun q' => hb (by simp [q'])) (fun q' => hb (by simp [q'])) (fun q' => hb (by simp [q'])) (fun q' => hb (by simp [q'])) q) hf
  self := fun A i s Q E st h => wpAny_pyIter_zip st.1 h
/-- zip(x, y): of lists, of tuples, of both -/
def iZipB (K : PySem.W.Frag) (ta : TA) : TI := fun σ H R => ta σ H fun vs H1 => ∃ a b t u xs ys, vs = [.ref a, .ref b] ∧ SqB K H1 t a xs ∧ SqB K H1 u b ys ∧ R (ItzB K t a u b) H1
theorem pi_zipB {X : Cx} {e e2 : Expr} {ta : TA} {p pos tpos : Pos} {elts : List Expr} {kk : Nat} (hg : Gl X "zip") (hm : X.mg "zip" = none) (ha : PA X [e, e2] ta)
    (st : starEach [e, e2] X.env = (false, eval e X.env) :: starEach [e2] X.env) (np : (backTo pos (starEach [e2] X.env)).any (·.1) = false) :
    PI X (.Tuple elts kk tpos) (.Call (.Name "zip" p) [e, e2] [] pos) (iZipB X.K ta) := by
  refine ⟨fun pins s σ H R I h => Call_ (ld_blt I hg hm boot_zip (callWith_type1 (thn (ha.run pos pins s σ H _ I h) fun us s1 q => ?_) st np))⟩
  obtain ⟨vs, H1, J, r, a, b, t, u, xs, ys, rfl, qx, qy, q⟩ := q
  obtain ⟨v1, v2, rfl, r1, r2⟩ := vals2 r
  cases (show v1 = Value.ref a from r1)
  cases (show v2 = Value.ref b from r2)
  obtain ⟨i1, _, p1, l1⟩ := sqB_get J qx
  obtain ⟨i2, _, p2, l2⟩ := sqB_get J qy
  refine zip_begins2 (beginsB t a i1.toArray) (beginsB u b i2.toArray) p1 p2 fun h' hz hT hO o1 o2 _ kp => wpAny_pyIter_zip hz ?_
  refine ⟨s1.heap.objs.size + 4, [s1.heap.objs.size + 4, s1.heap.objs.size + 2, s1.heap.objs.size + 3, s1.heap.objs.size, s1.heap.objs.size + 1], _, _, H1, rfl, J.kept (t' := s1.toks) kp, turn_zipB (PySem.W.ktu_apart s1.heap.objs.size a b l1 l2), ⟨hz, hT, ⟨_, _, hO⟩, itA_new o1, itA_new o2⟩, fun c m => ?_, q⟩
  have le : s1.heap.objs.size ≤ c := by
    simp only [List.mem_cons, List.not_mem_nil, or_false] at m
    rcases m with rfl | rfl | rfl | rfl | rfl <;> first | exact Nat.le_refl _ | exact Nat.le_add_right _ _
  exact J.fpOk le (J.hok.fresh le)

/-! ### enumerate -/
def IteB (K : PySem.W.Frag) (t : Bool) (a : Addr) : It :=
  ⟨fun i H => ∃ (xs : List V) (x : V), SqB K H t a xs ∧ xs[i]? = some x,
    fun i H v H' => ∃ T x, v = .ref T ∧ H T = none ∧ H' = upd H T (.tup [.int (i : Nat), x]) ∧ ∀ xs, SqB K H t a xs → xs[i]? = some x,
    fun i H => ∃ xs : List V, SqB K H t a xs ∧ i = xs.length⟩
theorem turn_enumB {P : Program} {w : World} {K : PySem.W.Frag} {elts : List Expr} {kk : Nat} {tpos : Pos} {t : Bool} {a e it : Addr} (n1 : e ≠ it) (n2 : a ≠ it) (n3 : e ≠ a) :
    Turn P w K (.Tuple elts kk tpos) (IteB K t a) [e, it] e (fun i h => (∃ old, IsEnum h e it ((i : Nat) : Int) old) ∧ ItA h t it a i) where
  mem := by simp
  obj := fun i h st b hb => by
    obtain ⟨⟨old, he⟩, hi⟩ := st
    have z : b = e ∨ b = it := by simpa using hb
    rcases z with z | z
    · subst z; exact ⟨_, he, fun v q => nomatch q⟩
    · subst z; exact itA_obj hi
  keep := fun i h h' st k => by
    obtain ⟨⟨old, he⟩, hi⟩ := st
    exact ⟨⟨old, k e (by simp) _ he⟩, itA_at hi fun o q => k it (by simp) o q⟩
  item := by
    intro X hP hw hK hc i pins s σ H E I hf st hg
    subst hP hw hK
    obtain ⟨⟨old, he⟩, hi⟩ := st
    obtain ⟨xs, x, hq, hx⟩ := hg
    obtain ⟨its, rv, p, _⟩ := sqB_get I hq
    obtain ⟨u, hu, ru⟩ := rv.get hx
    have lt : i < its.toArray.size := by simpa using (List.getElem?_eq_some_iff.mp hu).1
    have hel : e < s.heap.objs.size := Heap.lt_size he
    have hil : it < s.heap.objs.size := by obtain ⟨_, q, _⟩ := itA_obj hi; exact Heap.lt_size q
    have hh : X.A.in1.handled = none := I.ok.hd hc
    refine wpAny_pyNext_enum_itemD (drawsB hh t it a n2 its.toArray) he ⟨hi, p⟩ lt n1 (by simp [n1, n3]) fun y h' tk py ho st' hT hsz hk => ?_
    have ey : y = u := by
      have py : its.toArray[i]? = some y := py
      rw [List.getElem?_toArray, hu] at py
      exact (Option.some.inj py).symm
    subst ey
    refine ⟨_, rfl, wpAny_letOwnedTupleGo_enum (s := { s with heap := h', toks := tk + 1 }) ho fun h'' he' sb => ?_⟩
    have hT2 : h''.get? s.heap.objs.size = some { cls := .type "tuple", data := .seq #[.int i tk, y] } := (sb.2 _ (Nat.ne_of_gt hel)).trans hT
    have new : ObjOk X.prog X.w (upd H s.heap.objs.size (.tup [.int (i : Nat), x])) h'' s.heap.objs.size (.tup [.int (i : Nat), x]) :=
      ⟨by show 2 ≤ sizeLine; decide, [.int i tk, y], .cons ⟨_, rfl⟩ (.cons ru .nil), ⟨_, hT2, rfl, _, rfl⟩⟩
    have J : Inv X pins σ (upd H s.heap.objs.size (.tup [.int (i : Nat), x])) { s with heap := h'', toks := tk + 1 } :=
      I.turnedNew (ch := [e, it]) (fun b ob hb q => (sb.2 b (fun z => hb (by simp [z]))).trans (hk b ob (fun z => hb (by simp [z])) (fun z => hb (by simp [z])) q)) hf (Nat.le_refl _) new
    refine ⟨.ref s.heap.objs.size, _, J, rfl, ⟨_, x, rfl, I.hok.fresh (Nat.le_refl _), rfl, fun l hl => by rw [sqB_inj I hl hq]; exact hx⟩, ⟨⟨y, ?_⟩, itA_at st'.1 fun o q => (sb.2 it (Ne.symm n1)).trans q⟩, fun b hb => ?_⟩
    · have e1 : ((i + 1 : Nat) : Int) = (i : Int) + 1 := by omega
      rw [e1]; exact he'
    · have lt' : b < s.heap.objs.size := by
        have z : b = e ∨ b = it := by simpa using hb
        rcases z with z | z
        · subst z; exact hel
        · subst z; exact hil
      rw [upd_ne (Nat.ne_of_lt lt')]
      exact (hf b hb).1
  done := by
    intro X hP hw hK hc i pins s σ H E I hf st hg
    subst hP hw hK
    obtain ⟨⟨old, he⟩, hi⟩ := st
    obtain ⟨xs, hq, hx⟩ := hg
    obtain ⟨its, rv, p, _⟩ := sqB_get I hq
    have hl := rv.length
    have hh : X.A.in1.handled = none := I.ok.hd hc
    have en : i = its.toArray.size := by simp; omega
    refine wpAny_pyNext_enum_endD (drawsB hh t it a n2 its.toArray) he (by rw [← en]; exact ⟨hi, p⟩) fun h' eb => ⟨rfl, ?_⟩
    obtain ⟨f0, f1, f2, f3, f4, f5⟩ := hf it (by simp)
    exact I.turned (t' := s.toks) (fun b o hb q => eb b o hb q) f0 f1 f3 f4 f5
  self := fun A i s Q E st h => let ⟨⟨_, he⟩, _⟩ := st; wpAny_pyIter_enum he h
theorem meets_enumT (l : Addr) (items : Array Value) (n : Nat) (dct : Option Addr) (sl : Array (Option Value)) :
    Meets (Builtin.«enumerate.__new__» ⟨[.type "enumerate", .ref l], []⟩) (fun _ R s => s.heap.get? l = some { cls := .type "tuple", dict := dct, data := .seq items n, slots := sl } ∧
      R (.ok (.ret (.ref (s.heap.push (itO true l)).objs.size))) { s with heap := (s.heap.push (itO true l)).push { cls := .type "enumerate", data := .fields #[.none, .bool false, .ref s.heap.objs.size, rawInt 0, .none, .none] } }) :=
  .of_wp fun prog w A R s h => by
    obtain ⟨hp, g, d, tk, os⟩ := s
    obtain ⟨hl, h⟩ := h
    have hsub := sub_enumerate
    have hL : Heap.IsTuple (Shared.heap ⟨hp, g, d, tk, os⟩) l items := ⟨_, hl, rfl, n, rfl⟩
    wp_walk using AutoSeq1.wpAny_loadPart' hl
    refine wpAny_stack_any fun st => wpAny_pure ?_
    split
    · rename_i c _ _ _ _ _
      cases (c == Value.type "enumerate")
      · wp_walk using AutoSeq1.wpAny_loadPart' hl, wpAny_pyIter_tuple hL
        exact ⟨_, rfl, h⟩
      · wp_walk using AutoSeq1.wpAny_loadPart' hl, wpAny_pyIter_tuple hL
        exact ⟨_, rfl, h⟩
    · wp_walk using AutoSeq1.wpAny_loadPart' hl, wpAny_pyIter_tuple hL
      exact ⟨_, rfl, h⟩
theorem enum_new {prog : Program} {w : World} {A : Around} {E : Value → Shared → Prop} {s : Shared} {t : Bool} {l : Addr} {items : Array Value} {Q : Value → Shared → Prop} (hL : SqA s.heap t l items)
    (h : ∀ h', IsEnum h' (s.heap.objs.size + 1) s.heap.objs.size 0 .none → ItA h' t s.heap.objs.size l 0 → (∀ b o, s.heap.get? b = some o → h'.get? b = some o) → Q (.ref (s.heap.objs.size + 1)) { s with heap := h' }) :
    wpAny (model prog w) A (call (.type "enumerate") [.ref l]) Q E s := by
  cases t with
  | false => exact call_enumerate_list hL fun h' a b _ d => h h' a b d
  | true =>
    obtain ⟨⟨c, dct, dt, sl⟩, hl, hc, n, hd⟩ := hL
    cases (show c = .type "tuple" from hc)
    cases (show dt = .seq items n from hd)
    refine callType_new F.called_enumerate (by decide) (F.typeCall_enumerate_1 _) (F.newCall_enumerate_1 _) (fun obj => F.args_object_init_2 obj _) F.entry_enumerate_new (meets_enumT l items n dct sl) ⟨hl, ?_⟩
    have z1 : (s.heap.push (itO true l)).objs.size = s.heap.objs.size + 1 := Heap.size_push ..
    have he := Heap.get?_push_size (s.heap.push (itO true l)) (o := { cls := .type "enumerate", data := .fields #[.none, .bool false, .ref s.heap.objs.size, rawInt 0, .none, .none] }) rfl
    show _ ∧ _
    rw [z1] at he ⊢
    exact ⟨⟨_, he, rfl⟩, h _ he ⟨_, Heap.get?_push_of_some _ (Heap.get?_push_size _ rfl), rfl, rfl⟩ fun b o x => Heap.get?_push_of_some _ (Heap.get?_push_of_some _ x)⟩
def iEnumB (K : PySem.W.Frag) (ta : TA) : TI := fun σ H R => ta σ H fun vs H1 => ∃ a t xs, vs = [.ref a] ∧ SqB K H1 t a xs ∧ R (IteB K t a) H1
theorem pi_enumB {X : Cx} {e : Expr} {ta : TA} {p pos tpos : Pos} {elts : List Expr} {kk : Nat} (hg : Gl X "enumerate") (hm : X.mg "enumerate" = none) (ha : PA X [e] ta) (st : starEach [e] X.env = [(false, eval e X.env)]) :
    PI X (.Tuple elts kk tpos) (.Call (.Name "enumerate" p) [e] [] pos) (iEnumB X.K ta) := by
  refine ⟨fun pins s σ H R I h => Call_ (ld_blt I hg hm boot_enumerate (callWith_type1 (thn (ha.run pos pins s σ H _ I h) fun us s1 q => ?_) st rfl))⟩
  obtain ⟨vs, H1, J, r, a, t, xs, rfl, qx, q⟩ := q
  obtain ⟨v1, rfl, r1⟩ := vals1 r
  cases (show v1 = Value.ref a from r1)
  obtain ⟨i1, _, p1, l1⟩ := sqB_get J qx
  refine enum_new p1 fun h' he hit kp => wpAny_pyIter_enum he ?_
  refine ⟨s1.heap.objs.size + 1, [s1.heap.objs.size + 1, s1.heap.objs.size], _, _, H1, rfl, J.kept (t' := s1.toks) kp, turn_enumB (Nat.succ_ne_self _) (Nat.ne_of_lt l1) (Nat.ne_of_gt (Nat.lt_succ_of_lt l1)), ⟨⟨.none, he⟩, hit⟩, fun c m => ?_, q⟩
  have le : s1.heap.objs.size ≤ c := by
    simp only [List.mem_cons, List.not_mem_nil, or_false] at m
    rcases m with rfl | rfl <;> first | exact Nat.le_refl _ | exact Nat.le_add_right _ _
  exact J.fpOk le (J.hok.fresh le)

/-! ### sides -/
def SdR (G : Wd) (d : Bool × SD) (a : Addr) (C : Rh → Hp → Prop) : Prop := (∀ ρ H ρ' H', C ρ H → Sx ρ H ρ' H' → C ρ' H') ∧ ∀ ρ h H, Rel G ρ h H → C ρ H → match d.2 with
  | .v xs => ∃ vs, SqB G.K H d.1 a vs ∧ RepL G ρ H xs vs
  | .o n => ∀ xs, h[n]? = some (.lst xs) → ∃ vs, SqB G.K H d.1 a vs ∧ RepL G ρ H xs vs
inductive SdL (G : Wd) (ρ : Rh) (H : Hp) : List (Bool × SD) → List V → Prop
  | nil : SdL G ρ H [] []
  | cons {d : Bool × SD} {a : Addr} {C : Rh → Hp → Prop} {ds : List (Bool × SD)} {vs : List V} : SdR G d a C → C ρ H → SdL G ρ H ds vs → SdL G ρ H (d :: ds) (.ref a :: vs)
section
variable {G : Wd} {X : Cx}
theorem sd_of {ρ : Rh} {h : EH} {H : Hp} {v : EV} {w : V} {d : Bool × SD} (R : Rel G ρ h H) (r : Rep G ρ H v w) (e : sideOf h v = some d) : ∃ a C, w = .ref a ∧ SdR G d a C ∧ C ρ H := by
  have tup : ∀ (xs : List EV) (a : Addr) (vs : List V), (TpV ρ H a vs ∨ TkV G.K a vs) → RepL G ρ H xs vs → ∃ C, SdR G (true, .v xs) a C ∧ C ρ H := fun xs a vs q rr => by
    refine ⟨fun ρ H => (TpV ρ H a vs ∨ TkV G.K a vs) ∧ RepL G ρ H xs vs, ⟨fun ρ H ρ' H' c e => ⟨c.1.imp e.mo.tp id, c.2.mono e.mo⟩, fun ρ h H R c => ⟨vs, ?_, c.2⟩⟩, q, rr⟩
    rcases c.1 with z | z
    · exact z.sq
    · exact .inr z
  have lst : ∀ (xs : List EV) (a : Addr) (vs : List V), (LsV ρ H a vs ∨ RoV G.K ρ H a vs) → RepL G ρ H xs vs → ∃ C, SdR G (false, .v xs) a C ∧ C ρ H := fun xs a vs q rr => by
    refine ⟨fun ρ H => (LsV ρ H a vs ∨ RoV G.K ρ H a vs) ∧ RepL G ρ H xs vs, ⟨fun ρ H ρ' H' c e => ⟨c.1.imp e.mo.ls e.mo.ro, c.2.mono e.mo⟩, fun ρ h H R c => ⟨vs, ?_, c.2⟩⟩, q, rr⟩
    rcases c.1 with z | z
    · exact z.sq
    · exact z.sq
  cases v with
  | tup xs =>
    cases e
    cases r with
    | tup q rr => obtain ⟨C, h1, h2⟩ := tup _ _ _ (.inl q) rr; exact ⟨_, C, rfl, h1, h2⟩
  | p pv =>
    cases pv with
    | tup xs => cases e; cases rep_p r with | tup q rr => obtain ⟨C, h1, h2⟩ := tup _ _ _ (.inl q) rr.lift; exact ⟨_, C, rfl, h1, h2⟩
    | rot xs => cases e; cases rep_p r with | rot q rr => obtain ⟨C, h1, h2⟩ := tup _ _ _ (.inr q) rr.lift; exact ⟨_, C, rfl, h1, h2⟩
    | lst xs => cases e; cases rep_p r with | lst q rr => obtain ⟨C, h1, h2⟩ := lst _ _ _ (.inl q) rr.lift; exact ⟨_, C, rfl, h1, h2⟩
    | rol xs => cases e; cases rep_p r with | rol q rr => obtain ⟨C, h1, h2⟩ := lst _ _ _ (.inr q) rr.lift; exact ⟨_, C, rfl, h1, h2⟩
    | _ => cases e
  | ref n =>
    simp only [sideOf] at e
    split at e
    · rename_i xs eo
      cases e
      obtain ⟨a, rfl, qa, _⟩ := getref R r eo
      refine ⟨a, fun ρ _ => ρ.loc[n]? = some a, rfl, ⟨fun ρ H ρ' H' c e => e.mo.get c, fun ρ h H R c ys ey => ?_⟩, qa⟩
      obtain ⟨a', qa', vs', hv, rv⟩ := R.at ey
      rw [c] at qa'
      obtain rfl : a = a' := Option.some.inj qa'
      exact ⟨vs', .inl (.inl hv), rv⟩
    · cases e
variable (G X) in
def RD (es : List Expr) (fd : ES → M (List (Bool × SD))) : Prop := ∀ (σ : ES) (h : EH) (ρ : Rh) (τ : L2.St) (H : Hp) (Q : List V → Hp → Prop), Rel G ρ h H → SR G ρ H σ τ →
  FinE G X τ ρ H (fd σ h) (fun ds _ ρ' H' => ∀ vs, SdL G ρ' H' ds vs → Q vs H') → wA X es τ H Q
theorem rd_nil : RD G X [] dNil := fun σ h ρ τ H Q R S f => wA.of pa_nil (f ρ H Ext.refl R [] .nil)
theorem rd_val {e : Expr} {es : List Expr} {fe : ES → M EV} {fr : ES → M (List (Bool × SD))} (he : RE G X e fe) (hr : RD G X es fr) (hs : starEach (e :: es) X.env = (false, eval e X.env) :: starEach es X.env := by first | exact star_cons rfl | rfl) : RD G X (e :: es) (dVal fe fr) := by
  intro σ h ρ τ H Q R S f
  refine wA.of (pa_cons wE.pe wA.pa hs) ?_
  refine he σ h ρ τ H _ R S (FinE.imp (FinE.bind f) fun x h1 ρ1 H1 e1 R1 f1 v rv => ?_)
  cases es' : sideOf h1 x with
  | none => rw [es'] at f1; exact f1.elim
  | some d =>
    rw [es'] at f1
    obtain ⟨a, C, rfl, sd, c⟩ := sd_of R1 rv es'
    refine hr σ h1 ρ1 τ H1 _ R1 (S.mono e1.toMo) (FinE.imp (FinE.bind f1) fun ds h2 ρ2 H2 e2 R2 f2 vs rvs => ?_)
    exact f2 ρ2 H2 Ext.refl R2 _ (.cons sd (sd.1 _ _ _ _ c e2.sx) rvs)
theorem rd_lst {e : Expr} {es : List Expr} {fe : ES → M (List EV)} {fr : ES → M (List (Bool × SD))} (he : RL G X e fe) (hr : RD G X es fr) (hs : starEach (e :: es) X.env = (false, eval e X.env) :: starEach es X.env := by first | exact star_cons rfl | rfl) : RD G X (e :: es) (dLst fe fr) := by
  intro σ h ρ τ H Q R S f
  refine wA.of (pa_cons wE.pe wA.pa hs) ?_
  refine he σ h ρ τ H _ R S (FinE.imp (FinE.bind f) fun xs h1 ρ1 H1 e1 R1 f1 p vs hp m l Rp r => ?_)
  refine hr σ h1 ρ1 τ H1 _ R1 (S.mono e1.toMo) (FinE.imp (FinE.bind f1) fun ds h2 ρ2 H2 e2 R2 f2 us rvs => ?_)
  refine f2 ρ2 H2 Ext.refl R2 _ (.cons (C := fun ρ H => LsV ρ H p vs ∧ RepL G ρ H xs vs) ⟨fun ρ H ρ' H' c e => ⟨e.mo.ls c.1, c.2.mono e.mo⟩, fun ρ h H R c => ⟨vs, c.1.sq, c.2⟩⟩ ⟨e2.toMo.ls ⟨m, l⟩, (r.mono Mo.unhid).mono e2.toMo⟩ rvs)
def sdO (G : Wd) (ρ : Rh) (H : Hp) (i : Nat) (vs : List V) : Option EV → Prop
  | none => i = vs.length
  | some x => ∃ v, vs[i]? = some v ∧ Rep G ρ H x v
theorem sd_at {d : Bool × SD} {a : Addr} {C : Rh → Hp → Prop} {ρ : Rh} {h : EH} {H : Hp} {i : Nat} {o : Option EV} (sd : SdR G d a C) (R : Rel G ρ h H) (c : C ρ H) (e : sdAt h i d.2 = some o) : ∃ vs, SqB G.K H d.1 a vs ∧ i ≤ vs.length ∧ sdO G ρ H i vs o := by
  have q := sd.2 ρ h H R c
  have fin : ∀ (xs : List EV) (vs : List V), SqB G.K H d.1 a vs → RepL G ρ H xs vs → Nat.ble i xs.length = true → xs[i]? = o → ∃ vs, SqB G.K H d.1 a vs ∧ i ≤ vs.length ∧ sdO G ρ H i vs o := fun xs vs sq rr lb eo => by
    have lb := Nat.ble_eq.mp lb
    refine ⟨vs, sq, by rw [← rr.length]; exact lb, ?_⟩
    cases o with
    | none =>
      have := List.getElem?_eq_none_iff.mp eo
      show i = vs.length
      rw [← rr.length]
      omega
    | some x => exact rr.get eo
  cases ed : d.2 with
  | v xs =>
    rw [ed] at q e
    obtain ⟨vs, sq, rr⟩ := q
    simp only [sdAt] at e
    split at e
    · rename_i lb; exact fin xs vs sq rr lb (Option.some.inj e)
    · cases e
  | o n =>
    rw [ed] at q e
    simp only [sdAt] at e
    split at e
    · rename_i xs eo
      split at e
      · rename_i lb
        obtain ⟨vs, sq, rr⟩ := q xs eo
        exact fin xs vs sq rr lb (Option.some.inj e)
      · cases e
    · cases e
theorem ri_zip {e e2 : Expr} {elts : List Expr} {kk : Nat} {tpos p pos : Pos} {fd : ES → M (List (Bool × SD))} (hm : X.mg "zip" = none) (hd : RD G X [e, e2] fd) (hK : X.K = G.K := by rfl) (hg : Gl X "zip" := by rfl) (st : starEach [e, e2] X.env = (false, eval e X.env) :: starEach [e2] X.env := by first | exact star_cons rfl | rfl) (np : (backTo pos (starEach [e2] X.env)).any (·.1) = false := by rfl) :
    RI G X (.Tuple elts kk tpos) (.Call (.Name "zip" p) [e, e2] [] pos) (iZip fd) := by
  intro σ h ρ τ H R' R S ff
  refine wI.of (pi_zipB hg hm wA.pa st np) ?_
  refine hd σ h ρ τ H _ R S (FinE.imp (FinE.bind ff) fun ds h1 ρ1 H1 e1 R1 f1 vs sl => ?_)
  split at f1
  · rename_i d1 d2
    split at f1
    · rename_i o1 o2 es1 es2
      cases sl with
      | @cons _ a C1 _ _ sd1 c1 sl =>
        cases sl with
        | @cons _ b C2 _ _ sd2 c2 sl =>
          cases sl
          obtain ⟨xs, q1, _⟩ := sd_at sd1 R1 c1 es1
          obtain ⟨ys, q2, _⟩ := sd_at sd2 R1 c2 es2
          refine ⟨a, b, d1.1, d2.1, xs, ys, rfl, by rw [hK]; exact q1, by rw [hK]; exact q2, ?_⟩
          rw [hK]
          refine f1 ρ1 H1 Ext.refl R1 _ (fun ρ H => C1 ρ H ∧ C2 ρ H) ⟨fun ρ H ρ' H' c e => ⟨sd1.1 _ _ _ _ c.1 e, sd2.1 _ _ _ _ c.2 e⟩, fun ρ h H i R c => ?_⟩ ⟨c1, c2⟩
          refine ⟨fun eg => ?_, fun x eg => ?_⟩
          · unfold getZ at eg
            split at eg
            · cases eg
            · rename_i o g1 g2
              obtain ⟨us, w1, w2, w3⟩ := sd_at sd1 R c.1 g1
              obtain ⟨ts, w4, w5, w6⟩ := sd_at sd2 R c.2 g2
              exact ⟨us, ts, w1, w4, w2, w5, .inl w3⟩
            · rename_i g1 g2
              obtain ⟨us, w1, w2, w3⟩ := sd_at sd1 R c.1 g1
              obtain ⟨ts, w4, w5, w6⟩ := sd_at sd2 R c.2 g2
              exact ⟨us, ts, w1, w4, w2, w5, .inr w6⟩
            · cases eg
          · unfold getZ at eg
            split at eg
            · rename_i y1 y2 g1 g2
              cases eg
              obtain ⟨us, w1, w2, v1, w3, w7⟩ := sd_at sd1 R c.1 g1
              obtain ⟨ts, w4, w5, v2, w6, w8⟩ := sd_at sd2 R c.2 g2
              refine ⟨⟨us, ts, v1, v2, w1, w4, w3, w6⟩, fun v H' y => ?_⟩
              obtain ⟨T, x1, x2, rfl, hT, rfl, k1, k2⟩ := y
              have k1 := k1 us w1
              have k2 := k2 ts w4
              rw [w3] at k1; cases k1
              rw [w6] at k2; cases k2
              exact new_tup R hT (.cons w7 (.cons w8 .nil))
            · cases eg
            · cases eg
            · cases eg
    · exact f1.elim
  · exact f1.elim
theorem ri_enum {e : Expr} {elts : List Expr} {kk : Nat} {tpos p pos : Pos} {fd : ES → M (List (Bool × SD))} (hm : X.mg "enumerate" = none) (hd : RD G X [e] fd) (hK : X.K = G.K := by rfl) (hg : Gl X "enumerate" := by rfl) (st : starEach [e] X.env = [(false, eval e X.env)] := by first | exact star_one rfl | rfl) :
    RI G X (.Tuple elts kk tpos) (.Call (.Name "enumerate" p) [e] [] pos) (iEnum fd) := by
  intro σ h ρ τ H R' R S ff
  refine wI.of (pi_enumB hg hm wA.pa st) ?_
  refine hd σ h ρ τ H _ R S (FinE.imp (FinE.bind ff) fun ds h1 ρ1 H1 e1 R1 f1 vs sl => ?_)
  split at f1
  · rename_i d1
    split at f1
    · rename_i o1 es1
      cases sl with
      | @cons _ a C1 _ _ sd1 c1 sl =>
        cases sl
        obtain ⟨xs, q1, _⟩ := sd_at sd1 R1 c1 es1
        refine ⟨a, d1.1, xs, rfl, by rw [hK]; exact q1, ?_⟩
        rw [hK]
        refine f1 ρ1 H1 Ext.refl R1 _ C1 ⟨sd1.1, fun ρ h H i R c => ?_⟩ c1
        refine ⟨fun eg => ?_, fun x eg => ?_⟩
        · unfold getE at eg
          split at eg
          · cases eg
          · rename_i g1
            obtain ⟨us, w1, w2, w3⟩ := sd_at sd1 R c g1
            exact ⟨us, w1, w3⟩
          · cases eg
        · unfold getE at eg
          split at eg
          · rename_i y1 g1
            cases eg
            obtain ⟨us, w1, w2, v1, w3, w7⟩ := sd_at sd1 R c g1
            refine ⟨⟨us, v1, w1, w3⟩, fun v H' y => ?_⟩
            obtain ⟨T, x1, rfl, hT, rfl, k1⟩ := y
            have k1 := k1 us w1
            rw [w3] at k1; cases k1
            exact new_tup R hT (.cons (.p (.int _)) (.cons w7 .nil))
          · cases eg
          · cases eg
    · exact f1.elim
  · exact f1.elim
end
end Y
end

section
/-! Y: dicts of the written part, fields of the error that is handled, repr. -/
namespace Y
open PySem PySem.Spec PyProof.Rows L2 TL
/-! ### functions -/
def leq : List Nat → List Nat → Bool
  | [], [] => true
  | x :: xs, y :: ys => match Nat.beq x y with
    | true => leq xs ys
    | false => false
  | _, _ => false
def lkS {α : Type} (s : List Nat) : List (List Nat × α) → Option α
  | [] => none
  | (k, v) :: r => match leq k s with
    | true => some v
    | false => lkS s r
/-- e in D, e not in D: D a dict of the module -/
def inG (kvs : List (List Nat × PV)) (neg : Bool) (v : EV) : Option EV := match v with
  | .p (.str s) => some (.p (.bl (match lkS s kvs with
    | some _ => !neg
    | none => neg)))
  | _ => none
def eInG (kvs : List (List Nat × PV)) (neg : Bool) (fe : ES → M EV) : ES → M EV := fun σ h => (fe σ h).bind fun v h1 => R.opt (inG kvs neg v) h1
def ixG (kvs : List (List Nat × PV)) (v : EV) : Option EV := match v with
  | .p (.str s) => (lkS s kvs).map .p
  | _ => none
def eIxG (kvs : List (List Nat × PV)) (fe : ES → M EV) : ES → M EV := fun σ h => (fe σ h).bind fun v h1 => R.opt (ixG kvs v) h1

theorem leq_iff : ∀ {a b : List Nat}, leq a b = true ↔ a = b
  | [], [] => by simp [leq]
  | [], _ :: _ => by simp [leq]
  | _ :: _, [] => by simp [leq]
  | x :: xs, y :: ys => by
    simp only [leq]
    cases e : Nat.beq x y with
    | true => rw [Nat.beq_eq.mp e]; simp [leq_iff (a := xs) (b := ys)]
    | false =>
      have : x ≠ y := fun z => by rw [z, Nat.beq_refl] at e; cases e
      simp [this]
/-- the entries of a written dict -/
inductive EntL (G : Wd) : List DictEntry → List (List Nat × PV) → Prop
  | nil : EntL G [] []
  | cons {e : DictEntry} {l : List Nat} {t : Tok} {v : PV} {es : List DictEntry} {kvs : List (List Nat × PV)} : e.key = .str (toS l) t → Kst G v e.val → EntL G es kvs → EntL G (e :: es) ((l, v) :: kvs)
structure Kdi (G : Wd) (w : World) (d : Addr) (kvs : List (List Nat × PV)) : Prop where
  ex : ∃ es n, KDict G.K w d es n ∧ EntL G es.toList kvs
theorem ent_look {G : Wd} {s : List Nat} : ∀ {es : List DictEntry} {kvs : List (List Nat × PV)}, EntL G es kvs → (∀ v, lkS s kvs = some v → ∃ e, es.find? (·.key.isStr (toS s)) = some e ∧ Kst G v e.val) ∧ (lkS s kvs = none → es.find? (·.key.isStr (toS s)) = none) ∧ es.any (·.refKey) = false
  | _, _, .nil => ⟨fun v e => (by cases e), fun _ => rfl, rfl⟩
  | _, _, .cons (e := e) (l := l) (t := t) hk hv r => by
    obtain ⟨h1, h2, h3⟩ := ent_look (s := s) r
    have ek : e.key.isStr (toS s) = leq l s := by
      rw [hk]
      show (toS l == toS s) = leq l s
      cases q : leq l s with
      | true => rw [leq_iff.mp q]; simp
      | false =>
        have : toS l ≠ toS s := fun z => by
          rw [toS_inj z, leq_iff.mpr rfl] at q; cases q
        simpa using this
    refine ⟨fun v ev => ?_, fun ev => ?_, ?_⟩
    · simp only [lkS] at ev
      rw [List.find?_cons, ek]
      cases q : leq l s with
      | true => rw [q] at ev; cases ev; exact ⟨e, rfl, hv⟩
      | false => rw [q] at ev; exact h1 v ev
    · simp only [lkS] at ev
      rw [List.find?_cons, ek]
      cases q : leq l s with
      | true => rw [q] at ev; cases ev
      | false => rw [q] at ev; exact h2 ev
    · rw [List.any_cons, h3]
      have : e.refKey = false := by
        unfold DictEntry.refKey
        rw [hk]
      rw [this]; rfl
section
variable {G : Wd} {X : Cx}
theorem ns_look {d : Addr} {kvs : List (List Nat × PV)} {es : Array DictEntry} {n : Nat} (D : KDict G.K X.w d es n) (E : EntL G es.toList kvs) (s : List Nat) : (∀ v, lkS s kvs = some v → ∃ u, PySem.W.nsIn G.K d (toS s) = some (some u) ∧ Kst G v u) ∧ (lkS s kvs = none → PySem.W.nsIn G.K d (toS s) = some none) := by
  obtain ⟨h1, h2, h3⟩ := ent_look (s := s) E
  refine ⟨fun v ev => ?_, fun ev => ?_⟩
  · obtain ⟨e, he, hv⟩ := h1 v ev
    refine ⟨e.val, ?_, hv⟩
    unfold PySem.W.nsIn
    rw [D.at_]
    simp only [he]
  · unfold PySem.W.nsIn
    rw [D.at_]
    simp only [h2 ev, h3]
    rfl
theorem in_read {d : Addr} {kvs : List (List Nat × PV)} {neg : Bool} {e : Expr} {fe : ES → M EV} (D : Kdi G X.w d kvs) (he : RE G X e fe) (hK : X.K = G.K) {σ : ES} {h : EH} {ρ : Rh} {τ : L2.St} {H : Hp} {Q : VK} (R : Rel G ρ h H) (S : SR G ρ H σ τ) (f : FinE G X τ ρ H (eInG kvs neg fe σ h) (fun v _ ρ' H' => ∀ x, Rep G ρ' H' v x → Q x H')) :
    wE X e τ H fun x H1 => ∃ (z : Str) (r : Option Value), x = .str z ∧ (V.ref d : V) = .ref d ∧ PySem.W.nsIn X.K d z = some r ∧ Q (.bl (if neg then !r.isSome else r.isSome)) H1 := by
  obtain ⟨es, n, kd, el⟩ := D.ex
  refine he σ h ρ τ H _ R S (FinE.imp (FinE.bind f) fun v h1 ρ1 H1 e1 R1 f1 w rv => ?_)
  obtain ⟨z, eo, f2⟩ := opt_fin f1
  unfold inG at eo
  split at eo
  · rename_i s
    cases eo
    obtain ⟨rfl, so⟩ := rep_str rv
    obtain ⟨k1, k2⟩ := ns_look kd el s
    rw [hK]
    cases el' : lkS s kvs with
    | some v =>
      obtain ⟨u, hu, _⟩ := k1 v el'
      refine ⟨_, some u, rfl, rfl, hu, ?_⟩
      have := f2 ρ1 H1 Ext.refl R1 (.bl (!neg)) (by rw [el']; exact .p (.bl _))
      cases neg <;> exact this
    | none =>
      refine ⟨_, none, rfl, rfl, k2 el', ?_⟩
      have := f2 ρ1 H1 Ext.refl R1 (.bl neg) (by rw [el']; exact .p (.bl _))
      cases neg <;> exact this
  · cases eo
section
variable {d : Addr} {kvs : List (List Nat × PV)} {e : Expr} {fe : ES → M EV} {x : Str} {p pos : Pos}
theorem re_inG (D : Kdi G X.w d kvs) (hm : X.mg x = some (.ref d)) (he : RE G X e fe) (hK : X.K = G.K := by rfl) (hg : Gl X x := by rfl) (hd : (x == ("__debug__" : Str)) = false := by decide) : RE G X (.Compare e [.In] [.Name x p] pos) (eInG kvs false fe) := by
  obtain ⟨es, n, kd, el⟩ := D.ex
  intro σ h ρ τ H Q R S f
  exact wE.of (pe_cmpR (op_in_kd (by rw [hK]; exact kd)) wE.pe (pe_glob (v := .ref d) hg hm rfl hd) rfl) (in_read D he hK R S f)
theorem re_ninG (D : Kdi G X.w d kvs) (hm : X.mg x = some (.ref d)) (he : RE G X e fe) (hK : X.K = G.K := by rfl) (hg : Gl X x := by rfl) (hd : (x == ("__debug__" : Str)) = false := by decide) : RE G X (.Compare e [.NotIn] [.Name x p] pos) (eInG kvs true fe) := by
  obtain ⟨es, n, kd, el⟩ := D.ex
  intro σ h ρ τ H Q R S f
  exact wE.of (pe_cmpR (op_notIn_kd (by rw [hK]; exact kd)) wE.pe (pe_glob (v := .ref d) hg hm rfl hd) rfl) (in_read D he hK R S f)
theorem bool_wish {τ : L2.St} {ρ : Rh} {H : Hp} {r : Y.R EV} {Q : Bool → Hp → Prop} (f : FinE G X τ ρ H (r.bind boolOf) (fun b _ _ H' => Q b H')) : FinE G X τ ρ H r (fun v _ ρ' H' => ∀ x, Rep G ρ' H' v x → ∃ k, x = .bl k ∧ Q k H') :=
  FinE.imp (FinE.bind f) fun z h1 ρ1 H1 e1 R1 f1 x r => by
    obtain ⟨b', hz, k⟩ := bool_fin f1
    subst hz
    exact ⟨b', rep_bl r, k ρ1 H1 Ext.refl R1⟩
theorem rt_inG (D : Kdi G X.w d kvs) (hm : X.mg x = some (.ref d)) (he : RE G X e fe) (hK : X.K = G.K := by rfl) (hg : Gl X x := by rfl) (hd : (x == ("__debug__" : Str)) = false := by decide) : RT G X (.Compare e [.In] [.Name x p] pos) (tVal (eInG kvs false fe)) := by
  obtain ⟨es, n, kd, el⟩ := D.ex
  intro σ h ρ τ H Q R S f
  exact wT.of (pt_cmpR (op_in_kd (by rw [hK]; exact kd)) wE.pe (pe_glob (v := .ref d) hg hm rfl hd) rfl) (in_read D he hK R S (bool_wish f))
theorem rt_ninG (D : Kdi G X.w d kvs) (hm : X.mg x = some (.ref d)) (he : RE G X e fe) (hK : X.K = G.K := by rfl) (hg : Gl X x := by rfl) (hd : (x == ("__debug__" : Str)) = false := by decide) : RT G X (.Compare e [.NotIn] [.Name x p] pos) (tVal (eInG kvs true fe)) := by
  obtain ⟨es, n, kd, el⟩ := D.ex
  intro σ h ρ τ H Q R S f
  exact wT.of (pt_cmpR (op_notIn_kd (by rw [hK]; exact kd)) wE.pe (pe_glob (v := .ref d) hg hm rfl hd) rfl) (in_read D he hK R S (bool_wish f))
theorem re_ixG (D : Kdi G X.w d kvs) (hm : X.mg x = some (.ref d)) (he : RE G X e fe) (hs : PlainIx e := by exact fun _ _ => rfl) (hK : X.K = G.K := by rfl) (hg : Gl X x := by rfl) (hd : (x == ("__debug__" : Str)) = false := by decide) : RE G X (.Subscript (.Name x p) e pos) (eIxG kvs fe) := by
  obtain ⟨es, n, kd, el⟩ := D.ex
  intro σ h ρ τ H Q R S f
  refine wE.of (pe_ix ix_kdict (pe_glob (v := .ref d) hg hm rfl hd) wE.pe hs) ?_
  refine he σ h ρ τ H _ R S (FinE.imp (FinE.bind f) fun v h1 ρ1 H1 e1 R1 f1 w rv => ?_)
  obtain ⟨z, eo, f2⟩ := opt_fin f1
  unfold ixG at eo
  split at eo
  · rename_i s
    obtain ⟨rfl, so⟩ := rep_str rv
    obtain ⟨k1, k2⟩ := ns_look kd el s
    cases el' : lkS s kvs with
    | none => rw [el'] at eo; cases eo
    | some v =>
      rw [el'] at eo; cases eo
      obtain ⟨u, hu, w, rw', pr⟩ := k1 v el'
      exact ⟨d, toS s, w, rfl, rfl, ⟨es, n, u, by rw [hK]; exact kd.at_, kd.lit, by rw [hK]; exact hu, rw'⟩, f2 ρ1 H1 Ext.refl R1 w (.p (pr ρ1 H1))⟩
  · cases eo
end
/-! ### the error that is handled -/
theorem re_errf {i k c : Nat} {a d : Addr} {fs : PF} {oe : Obj} {pn : List (Addr × Obj)} {n f : Str} {p pos : Pos} (T : XfC G.K (G.CA c)) (no : PySem.W.findIn G.K (.ref (G.CA c)) f = some none) (hz : Zc (.ref (G.CA c)) (some d) oe) (hv : ∃ vs, oe.data = .fields vs) (hk : k < G.NN) (hf : G.AN k = f) (hK : X.K = G.K := by rfl) (hN : X.N[i]? = some n := by rfl)
    (vis : Vis X.env.scope n := by first | exact Or.inl rfl | exact Or.inr (Or.inl rfl) | exact Or.inr (Or.inr rfl)) (db : (n == ("__debug__" : Str)) = false := by decide) (cd : (n == ("__classdict__" : Str)) = false := by decide) (hb : attributeBase (.Name n p) f X.env (eval (.Name n p) X.env) = eval (.Name n p) X.env := by rfl) :
    RE (G.er i a d fs) (X.suite a ((a, oe) :: pn)) (.Attribute (.Name n p) f pos) (eErr fs k) := by
  subst hf
  intro σ h ρ τ H Q R S ff
  obtain ⟨z1, z2, gs, z3, z4⟩ := S.z
  obtain ⟨v, ev, f2⟩ := opt_fin ff
  cases el : lkN k fs with
  | none => rw [el] at ev; cases ev
  | some y =>
    rw [el] at ev; cases ev
    obtain ⟨w, lw, rw'⟩ := (lkF hk z4.lift).1 (.p y) (by rw [lkN_map, el]; rfl)
    exact wE.of (pe_xf (by rw [hK]; exact T) (by rw [hK]; exact no) hz hv (pe_var (X := X.suite a ((a, oe) :: pn)) hN vis db cd) hb) ⟨.ref a, z1, rfl, rfl, d, gs, w, rfl, z3, lw, f2 ρ H Ext.refl R w (rw'.conv Wd.er_eq)⟩
end
end Y
end

section
/-! Y: special methods of own classes (in, len, ==), isinstance of own classes, try whose body raises nothing, repr. -/
namespace Y
open PySem PySem.Spec PyProof.Rows L2 TL
/-! ### functions -/
def sTryT (fb : ES → EH → FL) : ES → EH → FL := fun σ h => match fb σ h with
  | .exc _ _ _ _ => .stuck
  | r => r
def okB (r : R EV) : Option (Bool × EH) := match r with
  | .ok (.p (.bl b)) h => some (b, h)
  | _ => none
def opInO (tb : Nat → Option (List EV → EH → R EV)) (neg : Bool) (x y : EV) (h : EH) : Option (EV × EH) := match clsOf h y with
  | some c => match tb c with
    | some F => (okB (callX F [y, x] h)).map fun q => (.p (.bl (if neg then !q.1 else q.1)), q.2)
    | none => none
  | none => if neg then opNin x y h else opIn x y h
def okI (r : R EV) : Option (Int × EH) := match r with
  | .ok (.p (.int i)) h => if 0 ≤ i ∧ i < 1000000 then some (i, h) else none
  | _ => none
def fLenO (tb : Nat → Option (List EV → EH → R EV)) : List EV → EH → Option (EV × EH)
  | [v], h => match clsOf h v with
    | some c => match tb c with
      | some F => (okI (callX F [v] h)).map fun q => (.p (.int q.1), q.2)
      | none => none
    | none => fLenA [v] h
  | _, _ => none
/-- repr of numbers, None, and texts of plain signs -/
def plainSign (c : Nat) : Bool := Nat.ble 32 c && (Nat.ble c 126 && (!Nat.beq c 39 && !Nat.beq c 92))
def fRepr : List EV → EH → Option (EV × EH)
  | [.p (.int i)], h => (numOf i).map fun s => (.p (.str s), h)
  | [.p .non], h => some (.p (.str [78, 111, 110, 101]), h)
  | [.p (.str s)], h => if s.all plainSign && Nat.ble s.length 100000 then some (.p (.str (39 :: (s ++ [39]))), h) else none
  | _, _ => none
/-- isinstance(v, C): by a table of the classes below C -/
def isCl (tb : Nat → Bool) : EV → EH → Option (EV × EH) := fun v h => match clsOf h v with
  | some c => some (.p (.bl (tb c)), h)
  | none => match tyName h v with
    | some _ => some (.p (.bl false), h)
    | none => none

section
variable {G : Wd} {X : Cx}
theorem rs_try_thru {body : List Stmt} {h0 : ExceptHandler} {hs : List ExceptHandler} {fb : ES → EH → FL} {pos : Pos} (hb : RSs G X.nox body fb) : RS G X (.Try body (h0 :: hs) [] [] pos) (sTryT fb) := by
  intro σ h ρ τ H D R S ff
  refine wS.of (ps_try_thru0 wSs.pss) ?_
  refine hb σ h ρ τ H D R S ?_
  unfold sTryT at ff
  cases e : fb σ h with
  | nx σ' h' => rw [e] at ff; exact ff
  | rt v h' => rw [e] at ff; exact ff
  | bk σ' h' => rw [e] at ff; exact ff
  | ct σ' h' => rw [e] at ff; exact ff
  | exc c fs σ' h' => rw [e] at ff; exact ff.elim
  | stuck => rw [e] at ff; exact ff.elim
/-- a special method of a class of ours -/
structure Spc (P : Program) (w : World) (G : Wd) (mg : Str → Option Value) (base : Heap) (k : Nat) (c : Nat) (m : Str) (n : Nat) (F : List EV → EH → Y.R EV) : Prop where
  ex : ∃ (f : Addr) (fd : FuncData) (ps : List Str), FnOk P w G.K mg base (L2.CX P w) k f fd ps (spF G n F) ∧ PySem.W.findIn G.K (.ref (G.CA c)) m = some (some (.ref f)) ∧ PySem.W.isFn G.K (.ref f) = true ∧ Binds G.K fd ps []
  kd : G.KD c ≠ .exc
def SpcT (P : Program) (w : World) (G : Wd) (mg : Str → Option Value) (base : Heap) (j : Nat) (m : Str) (n : Nat) (tb : Nat → Option (List EV → EH → Y.R EV)) : Prop := ∀ c F, tb c = some F → ∃ k, k ≤ j ∧ Spc P w G mg base k c m n F
/-- an instance, in the model -/
theorem inst_at {ρ : Rh} {h : EH} {H : Hp} {x : EV} {v : V} {c : Nat} (R : Rel G ρ h H) (r : Rep G ρ H x v) (e : clsOf h x = some c) (kd : G.KD c ≠ .exc) : ∃ a, v = .ref a ∧ ∀ (pins : List (Addr × Obj)) (σ : L2.St) (s : Shared), Inv X pins σ H s → ∃ ox od, PySem.W.InstAt s.heap a ox (G.CA c) od := by
  have ord : ∀ {a dx : Addr} {gs : List (Str × V)}, H a = some (.ins (G.CA c) dx gs) → ∀ (pins : List (Addr × Obj)) (σ : L2.St) (s : Shared), Inv X pins σ H s → ∃ ox od, PySem.W.InstAt s.heap a ox (G.CA c) od := fun q pins σ s I => by
    obtain ⟨mA, O, _⟩ := ins_get I.hok q
    obtain ⟨od, J, _⟩ := O.look
    exact ⟨_, _, J⟩
  cases x with
  | p pv =>
    cases pv with
    | obj c' fs =>
      cases e
      cases rep_p r with
      | @obj _ a gs _ ob rf fa =>
        obtain ⟨n, ob⟩ := ob
        refine ⟨a, rfl, fun pins σ s I => ?_⟩
        cases kd' : G.KD c with
        | exc => exact absurd kd' kd
        | ord =>
          rw [kd'] at ob
          obtain ⟨dx, q⟩ := ob
          exact ord q pins σ s I
        | slt ns =>
          rw [kd'] at ob
          obtain ⟨dx, nd, q1, q2⟩ := ob
          obtain ⟨sl, od, _, J, _⟩ := SlX.slt_inst I (.inr ⟨q1, q2⟩)
          exact ⟨_, _, J⟩
    | _ => cases e
  | tup xs => cases e
  | ref n =>
    simp only [clsOf] at e
    split at e
    · rename_i c' fs eo
      cases e
      obtain ⟨a, rfl, qa, dx, gs, q, _⟩ := getref R r eo
      exact ⟨a, rfl, ord q⟩
    · cases e
theorem okB_ok {r : Y.R EV} {q : Bool × EH} (e : okB r = some q) : r = .ok (.p (.bl q.1)) q.2 := by
  unfold okB at e
  split at e
  · cases e; rfl
  · cases e
theorem okI_ok {r : Y.R EV} {q : Int × EH} (e : okI r = some q) : r = .ok (.p (.int q.1)) q.2 ∧ 0 ≤ q.1 ∧ q.1 < 1000000 := by
  unfold okI at e
  split at e
  · split at e
    · rename_i c; cases e; exact ⟨rfl, c⟩
    · cases e
  · cases e
theorem callX_run {F : List EV → EH → Y.R EV} {vs : List EV} {xs : List V} {h h' : EH} {v : EV} {ρ : Rh} {H : Hp} {Q : VK} {n : Nat} (hn : vs.length = n) (R : Rel G ρ h H) (r : RepL G ρ H vs xs) (e : callX F vs h = .ok v h') (k : ∀ ρ' H' w, Ext ρ H ρ' H' → Rel G ρ' h' H' → Rep G ρ' H' v w → Q w H') :
    spF G n F xs H Q (fun _ _ _ => False) := by
  unfold callX at e
  split at e
  · rename_i ps ep
    have rp : PRepL G ρ.away H ps xs := (r.plain ep).set fun a m => Rh.mem_away.mp m
    unfold pcall at e
    have sub : ∀ {ρ' H'}, Ext ρ.away H ρ' H' → ∀ a, a ∈ ρ.all → a ∈ (Rh.mk ρ'.out []).all := fun e a m => Rh.mem_all.mpr (.inl (by rw [e.out]; exact m))
    split at e
    · rename_i v' h2 eF
      split at e
      · rename_i q eq'
        cases e
        refine ⟨by rw [← r.length]; exact hn, ps.map .p, ρ.away, [], R.away, rp.lift, ?_⟩
        rw [eF]
        intro ρ' H' x e R' rx
        exact k ρ H' x e.ours (R.ours e) (.p ((rsv_rep R' 30 v' x q rx eq').set (sub e)))
      · cases e
    · cases e
    · cases e
  · refine ⟨by rw [← r.length]; exact hn, vs, ρ, h, R, r, ?_⟩
    rw [e]
    exact fun ρ' H' x e R' rx => k ρ' H' x e R' rx
theorem ro_inO {j : Nat} {tb : Nat → Option (List EV → EH → Y.R EV)} (T : SpcT X.prog X.w G X.mg X.base j "__contains__" 2 tb) (hr : Room j X.A) (h0 : RO G X (compareOp .In) opIn) (hK : X.K = G.K := by rfl) : RO G X (compareOp .In) (opInO tb false) := by
  intro x y h ρ H v u Q z h' R rx ry e k
  unfold opInO at e
  split at e
  · rename_i c ec
    split at e
    · rename_i F eF
      obtain ⟨k1, hj, D⟩ := T c F eF
      obtain ⟨f, fd, ps, O, hs, hf, hb⟩ := D.ex
      rw [← hK] at O hs hf hb
      obtain ⟨a, rfl, ia⟩ := inst_at (X := X) R ry ec D.kd
      cases eo : okB (callX F [y, x] h) with
      | none => rw [eo] at e; cases e
      | some q =>
        rw [eo] at e; cases e
        let QQ : VK := fun w H' => ∃ b, w = .bl b ∧ Q (.bl b) H'
        have sp := callX_run (Q := QQ) (n := 2) rfl R (.cons ry (.cons rx .nil)) (okB_ok eo) fun ρ' H' w e R' r => ⟨q.1, rep_bl r, k ρ' H' _ e R' (.p (.bl _))⟩
        intro pins s σ vx vy I r1 r2
        obtain ⟨ox, od, J⟩ := ia pins σ s I
        obtain ⟨m, F'⟩ := I.fr
        cases (show vy = Value.ref a from r2)
        refine PySem.W.in_K F' I.ok.mod.kin J hs hf ?_
        refine thn (wk_fn (vs := [.ref a, v]) (dvs := []) (Q := QQ) O hr hj hb .nil passNo (by simpa using sp) pins s [.ref a, vx] I (.cons rfl (.cons r1 .nil))) fun w s1 hw => ?_
        obtain ⟨wv, H1, I1, rw', b, eb, q1⟩ := hw
        subst eb
        cases (show w = Value.bool b from rw')
        exact wpAny_truthy_bool ⟨.bl b, H1, I1, rfl, q1⟩
    · cases e
  · exact h0 x y h ρ H v u Q z h' R rx ry e k
theorem ro_ninO {j : Nat} {tb : Nat → Option (List EV → EH → Y.R EV)} (T : SpcT X.prog X.w G X.mg X.base j "__contains__" 2 tb) (hr : Room j X.A) (h0 : RO G X (compareOp .NotIn) opNin) (hK : X.K = G.K := by rfl) : RO G X (compareOp .NotIn) (opInO tb true) := by
  intro x y h ρ H v u Q z h' R rx ry e k
  unfold opInO at e
  split at e
  · rename_i c ec
    split at e
    · rename_i F eF
      obtain ⟨k1, hj, D⟩ := T c F eF
      obtain ⟨f, fd, ps, O, hs, hf, hb⟩ := D.ex
      rw [← hK] at O hs hf hb
      obtain ⟨a, rfl, ia⟩ := inst_at (X := X) R ry ec D.kd
      cases eo : okB (callX F [y, x] h) with
      | none => rw [eo] at e; cases e
      | some q =>
        rw [eo] at e; cases e
        let QQ : VK := fun w H' => ∃ b, w = .bl b ∧ Q (.bl (!b)) H'
        have sp := callX_run (Q := QQ) (n := 2) rfl R (.cons ry (.cons rx .nil)) (okB_ok eo) fun ρ' H' w e R' r => ⟨q.1, rep_bl r, k ρ' H' _ e R' (.p (.bl _))⟩
        intro pins s σ vx vy I r1 r2
        obtain ⟨ox, od, J⟩ := ia pins σ s I
        obtain ⟨m, F'⟩ := I.fr
        cases (show vy = Value.ref a from r2)
        refine PySem.W.notIn_K F' I.ok.mod.kin J hs hf ?_
        refine thn (wk_fn (vs := [.ref a, v]) (dvs := []) (Q := QQ) O hr hj hb .nil passNo (by simpa using sp) pins s [.ref a, vx] I (.cons rfl (.cons r1 .nil))) fun w s1 hw => ?_
        obtain ⟨wv, H1, I1, rw', b, eb, q1⟩ := hw
        subst eb
        cases (show w = Value.bool b from rw')
        exact wpAny_truthy_bool ⟨.bl (!b), H1, I1, rfl, q1⟩
    · cases e
  · exact h0 x y h ρ H v u Q z h' R rx ry e k
/-- a call from within a built-in -/
theorem call_in1 {k j n : Nat} {f : Addr} {fd : FuncData} {ps : List Str} {F : List EV → EH → Y.R EV} {pins : List (Addr × Obj)} {σ : L2.St} {H : Hp} {s : Shared} {us : List Value} {vs : List V} {Q : VK} {E : Value → Shared → Prop} (O : FnOk X.prog X.w X.K X.mg X.base (L2.CX X.prog X.w) k f fd ps (spF G n F)) (hr : Room j X.A) (hj : k + 1 ≤ j) (hb : Binds X.K fd ps [])
    (I : Inv X pins σ H s) (r : Vals vs us) (h : spF G n F vs H Q (fun _ _ _ => False)) : wpAny (model X.prog X.w) X.A.in1 (call (.ref f) us) (EP X pins σ Q) E s := by
  have len : (us ++ []).length = ps.length := by
    have e1 := r.length
    have e2 := O.len _ _ _ _ h
    simp only [List.append_nil]
    omega
  have bd := hb s us I.kIn len
  rw [List.append_nil] at bd
  refine wpAny_call (codeAny_mono (O.run X.A.in1 X.stack s H ⟨us, []⟩ us vs Q (fun _ _ _ => False) (hr.mono hj).in1 I.env0.in1 bd r h) fun out s' q => ?_)
  match out with
  | .error e =>
    obtain ⟨_, _, _, _, _, _, _, _, _, _, _, _, z⟩ := q
    exact z.elim
  | .ok (.ret u) =>
    obtain ⟨v, H', J2, rv, q2⟩ := I.after q
    exact ⟨v, H', J2, rv, q2⟩
  | .ok .next => exact False.elim q
  | .ok .brk => exact False.elim q
  | .ok .cont => exact False.elim q
theorem rc_lenO {j : Nat} {tb : Nat → Option (List EV → EH → Y.R EV)} (T : SpcT X.prog X.w G X.mg X.base j "__len__" 1 tb) (hr : Room (j + 1) X.A) (h0 : RC G X (.builtin "len") fLenA) (hK : X.K = G.K := by rfl) : RC G X (.builtin "len") (fLenO tb) := by
  intro xs h ρ H vs Q z h' R r e k
  cases xs with
  | nil => cases e
  | cons v vr =>
   cases vr with
   | cons _ _ => cases e
   | nil =>
    simp only [fLenO] at e
    split at e
    · rename_i c ec
      split at e
      · rename_i F eF
        obtain ⟨k1, hj, D⟩ := T c F eF
        obtain ⟨f, fd, ps, O, hs, hf, hb⟩ := D.ex
        rw [← hK] at O hs hf hb
        cases r with
        | cons rv rr =>
          cases rr
          obtain ⟨a, rfl, ia⟩ := inst_at (X := X) R rv ec D.kd
          cases eo : okI (callX F [v] h) with
          | none => rw [eo] at e; cases e
          | some q =>
            rw [eo] at e; cases e
            obtain ⟨e1, b0, b1⟩ := okI_ok eo
            have sp := callX_run (Q := fun w H' => w = .int q.1 ∧ Q (.int q.1) H') (n := 1) rfl R (.cons rv .nil) e1 fun ρ' H' w e R' r => ⟨rep_int r, k ρ' H' _ e R' (.p (.int _))⟩
            intro pins s σ us I r1
            obtain ⟨ox, od, J⟩ := ia pins σ s I
            obtain ⟨m, F'⟩ := I.fr
            obtain ⟨u1, rfl, r2⟩ := vals1 r1
            cases (show u1 = Value.ref a from r2)
            refine PySem.W.len_K F' I.ok.mod.kin J hs hf ?_
            refine thn (call_in1 (vs := [.ref a]) O hr (by omega) hb I (.cons rfl .nil) sp) fun w s1 ⟨wv, H1, I1, rw', eb, q1⟩ => ?_
            subst eb
            obtain ⟨t, rfl⟩ := rw'
            exact ⟨⟨b0, Int.lt_trans b1 (by decide)⟩, .int q.1, H1, I1.tok _, ⟨_, rfl⟩, q1⟩
      · cases e
    · exact h0 _ h ρ H vs Q z h' R r e k
end
end Y
end

section
/-! Y: what the printed derivations want. -/
namespace Y
open PySem PySem.Spec PyProof.Rows L2 TL
/-- a made list: a plain value where all its items are, else an object of ours -/
def anyL (xs : List EV) (h : EH) : R EV := match allP xs with
  | some ps => .ok (.p (.lst ps)) h
  | none => .ok (.ref h.length) (h ++ [.lst xs])
def eAny (fa : ES → M (List EV)) : ES → M EV := fun σ h => (fa σ h).bind anyL
def fTup1 : Bool → List EV → Option EV := fun t xs => if t then none else fTuple t xs
def uNeg (v : EV) (h : EH) : Option (EV × EH) := match v with
  | .p (.int i) => some (.p (.int (-i)), h)
  | _ => none
def NoB (f : Pt) : Prop := ∀ v h bs, f v h = some (some bs) → bs = []
section
variable {G : Wd} {X : Cx}
theorem ru_neg : RU G X (unaryOp .USub) uNeg := by
  intro x h ρ H v Q z h' R r e k
  unfold uNeg at e
  split at e
  · cases e
    obtain rfl := rep_int r
    exact wU.of un_neg ⟨_, rfl, k ρ H _ Ext.refl R (.p (.int _))⟩
  · cases e
theorem re_any {e : Expr} {fa : ES → M (List EV)} (ha : RL G X e fa) : RE G X e (eAny fa) := by
  intro σ h ρ τ H Q R S f
  refine ha σ h ρ τ H Q R S (FinE.mapOk f fun xs h1 ρ1 H1 e1 R1 f1 p vs hp m l Rp r => ?_)
  unfold anyL at f1
  split at f1
  · rename_i ps ep
    exact f1 ρ1 H1 e1 R1 (.ref p) (.p (.lst ⟨m, l⟩ ((r.plain ep).mono Mo.unhid)))
  · refine f1 (ρ1.add p) H1 (e1.adopt hp) (Rp.adopt m l r) (.ref p) (.ref ?_)
    simp only [Rh.add]
    rw [← R1.len, List.getElem?_append_right (Nat.le_refl _)]
    simp
theorem rs_setLcA {i : Nat} {y : Str} {py : Pos} {elt tg iter : Expr} {ifs : List Expr} {scope : Scope} {own : List (Str × Nat)} {pos spos : Pos} {fi : ES → M IT} {g : EV → ES → Option ES} {ft : ES → M Bool} {fe : ES → M EV} (hG : G.Zf = true) (hN : X.N.Nodup)
    (hsw : swapsWith (.ListComp elt [⟨tg, iter, ifs, 0⟩] scope pos) (some (.Name y py)) spos.line X.env = pure true) (hi : RI G X tg iter fi) (ok : BlkOk X.N X.env.scope scope own)
    (hg : ∀ s H C cl fp, RG G (blkX X s H scope C cl fp) tg (own.map (·.2)) g) (ht : ∀ s H C cl fp, RTs G (blkX X s H scope C cl fp) ifs ft) (he : ∀ s H C cl fp, RE G (blkX X s H scope C cl fp) elt fe)
    (hy : X.N[i]? = some y := by rfl) (hyl : X.env.scope.names.lookup y = some .local := by rfl) (hc : X.calm = true := by rfl) (hs : ∀ x, foldedSetIterable iter X.env x = pure x := by intro _; rfl) :
    RS G X (.Assign [.Name y py] (.ListComp elt [⟨tg, iter, ifs, 0⟩] scope pos) spos) (sSet (gN i) (eAny (lLc fi g ft fe (own.map (·.2))))) := by
  intro σ h ρ τ H D R S ff
  refine wS.of (ps_setLc (g := gB X scope tg) (tt := tBk X scope ifs) (te := eB X scope elt) hc hN hy hyl hsw wI.pi ok (fun s H' C cl fp => ⟨fun pins s1 σ1 H1 v u Q1 I r q => q s H' C cl fp pins s1 u I r⟩) (fun s H' C cl fp => ⟨fun pins s1 σ1 H1 Q1 I q => q s H' C cl fp pins s1 I⟩)
    (fun s H' C cl fp => ⟨fun pins s1 σ1 H1 Q1 I q => q s H' C cl fp pins s1 I⟩) hs) ?_
  refine lc_read (Q := fun x H1 => gName i x τ H1 D.nx) hG hi hg ht he R S ?_
  refine FinE.mapOk (FinS.fl S ff) fun xs h1 ρ1 H1 e1 R1 f1 p vs hp m l Rp r => ?_
  unfold anyL at f1
  split at f1
  · rename_i ps ep
    have rp : Rep G ρ1 H1 (.p (.lst ps)) (.ref p) := .p (.lst ⟨m, l⟩ ((r.plain ep).mono Mo.unhid))
    exact f1 ρ1 H1 e1 R1 _ _ _ Ext.refl R1 ((S.mono e1.toMo).set hG rp)
  · have e2 := e1.adopt hp
    have R2 := Rp.adopt m l r
    have rp : Rep G (ρ1.add p) H1 (.ref h1.length) (.ref p) := .ref (by
      simp only [Rh.add]
      rw [← R1.len, List.getElem?_append_right (Nat.le_refl _)]
      simp)
    exact f1 (ρ1.add p) H1 e2 R2 _ _ _ Ext.refl R2 ((S.mono e2.toMo).set hG rp)
theorem rcs_tup1 (hK : X.K = G.K := by rfl) : RCS G X (.type "tuple") fTup1 := rcs_tuple hK
theorem re_strA {i : Str} {l : List Nat} {j pos} (e : i = toS l := by rfl) (h : okS l = true := by decide +kernel) : RE G X (.Constant (.str i) j pos) (eC (.p (.str l))) := re_str e h
theorem rpt_capA {i : Nat} {n : Str} {pos : Pos} (h1 : X.N[i]? = some n := by rfl) (h2 : Loc X.env.scope n := by first | exact Or.inl rfl | exact Or.inr rfl) (h3 : X.fn n = true ∨ X.env.scope.names.lookup n = some .local := by first | exact .inl rfl | exact .inr rfl) : RPt G X (.MatchAs none (some n) pos) (ptCap i) := rpt_cap ⟨h1, h2, h3⟩
theorem rpt_asA {i : Nat} {n : Str} {p : Pattern} {f : Pt} {pos : Pos} (hp : RPt G X p f) (h1 : X.N[i]? = some n := by rfl) (h2 : Loc X.env.scope n := by first | exact Or.inl rfl | exact Or.inr rfl) (h3 : X.fn n = true ∨ X.env.scope.names.lookup n = some .local := by first | exact .inl rfl | exact .inr rfl) : RPt G X (.MatchAs (some p) (some n) pos) (ptAs f i) := rpt_as hp ⟨h1, h2, h3⟩
theorem nob_no : NoB ptNo := fun v h bs e => by cases e
theorem nob_val {c : EV} : NoB (ptVal c) := fun v h bs e => by
  unfold ptVal at e
  cases e1 : eqP h v c with
  | none => rw [e1] at e; cases e
  | some b => rw [e1] at e; cases b <;> cases e; rfl
theorem nob_or {f g : Pt} (a : NoB f) (b : NoB g) : NoB (ptOr f g) := fun v h bs e => by
  unfold ptOr at e
  split at e
  · cases e
  · exact b v h bs e
  · rename_i bs' e1; cases e; exact a v h _ e1
theorem rpt_orS {ps : List Pattern} {f : Pt} {pos : Pos} (hp : RPf G X ps f) (nb : NoB f) (nn : namesOfAll (ps.take 1) = [] := by rfl) : RPt G X (.MatchOr ps pos) f := by
  refine rpt_or ?_ nb nn
  have : (fun v h => (f v h).map fun r => r.map fun _ => ([] : List (Nat × EV))) = f := by
    funext v h
    cases e : f v h with
    | none => rfl
    | some r =>
      cases r with
      | none => rfl
      | some bs => rw [nb v h bs e]; rfl
  rw [this]
  exact hp
theorem MthT.mono {P : Program} {w : World} {mg : Str → Option Value} {base : Heap} {j j' n : Nat} {m : Str} {ds : List PV} {tb : Nat → Option (List EV → EH → Y.R EV)} (T : MthT P w G mg base j m n ds tb) (h : j ≤ j') : MthT P w G mg base j' m n ds tb := fun c F e => let ⟨k, a, b⟩ := T c F e; ⟨k, Nat.le_trans a h, b⟩
theorem SpcT.mono {P : Program} {w : World} {mg : Str → Option Value} {base : Heap} {j j' n : Nat} {m : Str} {tb : Nat → Option (List EV → EH → Y.R EV)} (T : SpcT P w G mg base j m n tb) (h : j ≤ j') : SpcT P w G mg base j' m n tb := fun c F e => let ⟨k, a, b⟩ := T c F e; ⟨k, Nat.le_trans a h, b⟩
/-- the def at a place of the text -/
def inC (st : Stmt) (j : Nat) : Stmt := (clsBodyY st).getD j (.Pass ⟨0, 0, 0, 0⟩)
where clsBodyY : Stmt → List Stmt
  | .ClassDef (body := b) .. => b
  | _ => []
end
end Y
end

section
/-! Y: dicts as they are written, repr, isinstance of own classes. -/
namespace Y
open PySem PySem.Spec PyProof.Rows L2 TL
/-! ### functions -/
abbrev PE' := List (PV × EV)
def qNil : ES → M PE' := fun _ h => .ok [] h
def qCons (fk fv : ES → M EV) (fr : ES → M PE') : ES → M PE' := fun σ h => (fk σ h).bind fun k h1 => match k with
  | .p kp => match keyOf kp with
    | some _ => (fv σ h1).bind fun v h2 => (fr σ h2).bind fun r h3 => .ok ((kp, v) :: r) h3
    | none => .stuck
  | _ => .stuck
def mkD (kvs : PE') (acc : PE') : PE' := match kvs with
  | [] => acc
  | (k, v) :: r => mkD r (dput keq k v acc)
def plD : PE' → Option (List (PV × PV))
  | [] => some []
  | (k, .p v) :: r => match plD r with
    | some ps => some ((k, v) :: ps)
    | none => none
  | _ => none
def eDictV (f : ES → M PE') : ES → M EV := fun σ h => (f σ h).bind fun kvs h1 => match plD (mkD kvs []) with
  | some ps => if kvs.length ≤ 15 then .ok (.p (.dic ps)) h1 else .stuck
  | none => .stuck

section
variable {G : Wd} {X : Cx}
theorem mkD_rep {ρ : Rh} {H : Hp} : ∀ {kvs : PE'} {ws : List (Key × V)} {acc : PE'} {us : List (Key × V)}, RepP keyOf G ρ H kvs ws → RepP keyOf G ρ H acc us → RepP keyOf G ρ H (mkD kvs acc) (mergeK us ws)
  | _, _, _, _, .nil, s => s
  | _, _, acc, us, .cons (k := kk) (q := qq) (x := x) (v := v) (xs := xs) (vs := vs) k a b, s => by
    show RepP keyOf G ρ H (mkD xs (dput keq kk x acc)) (mergeK (putK us qq v) vs)
    exact mkD_rep b (RepP.put (kf := keyOf) (fun a b k j => keq_iff) k.1 k.2 s a)
theorem plD_rep {ρ : Rh} {H : Hp} : ∀ {kvs : PE'} {ws : List (Key × V)} {ps : List (PV × PV)}, RepP keyOf G ρ H kvs ws → plD kvs = some ps → PRepK G ρ H ps ws
  | _, _, _, .nil, e => by cases e; exact .nil
  | _, _, _, .cons (x := x) k a b, e => by
    cases x with
    | p v =>
      simp only [plD] at e
      split at e
      · rename_i ps' e'
        cases e
        exact .cons k (rep_p a) (plD_rep b e')
      · cases e
    | tup xs => cases e
    | ref n => cases e
variable (G X) in
def RPp (pos : Pos) (ks : List (Option Expr)) (vs : List Expr) (f : ES → M PE') : Prop := ∃ trs, PPs X pos ks vs trs ∧ ∀ (σ : ES) (h : EH) (ρ : Rh) (τ : L2.St) (H : Hp) (Q : List (V × V) → Hp → Prop), Rel G ρ h H → SR G ρ H σ τ →
  FinE G X τ ρ H (f σ h) (fun kvs _ ρ' H' => ∀ ws : List (Key × V), RepP keyOf G ρ' H' kvs ws → Q (ws.map fun w => (kV w.1, w.2)) H') → tPairs trs τ H Q
theorem rpp_nil {pos : Pos} : RPp G X pos [] [] qNil := ⟨[], pps_nil, fun σ h ρ τ H Q R S f => f ρ H Ext.refl R [] .nil⟩
theorem rpp_cons {pos : Pos} {k v : Expr} {ks : List (Option Expr)} {vs : List Expr} {fk fv : ES → M EV} {fr : ES → M PE'} (hk : RE G X k fk) (hv : RE G X v fv) (hr : RPp G X pos ks vs fr) : RPp G X pos (some k :: ks) (v :: vs) (qCons fk fv fr) := by
  obtain ⟨trs, pp, hr⟩ := hr
  refine ⟨(wE X k, wE X v) :: trs, pps_cons wE.pe wE.pe pp, fun σ h ρ τ H Q R S f => ?_⟩
  refine hk σ h ρ τ H _ R S (FinE.imp (FinE.bind f) fun x h1 ρ1 H1 e1 R1 f1 a ra => ?_)
  split at f1
  · rename_i kp
    split at f1
    · rename_i κ ek
      refine hv σ h1 ρ1 τ H1 _ R1 (S.mono e1.toMo) (FinE.imp (FinE.bind f1) fun y h2 ρ2 H2 e2 R2 f2 b rb => ?_)
      refine hr σ h2 ρ2 τ H2 _ R2 ((S.mono e1.toMo).mono e2.toMo) (FinE.imp (FinE.bind f2) fun r h3 ρ3 H3 e3 R3 f3 ws rw' => ?_)
      have ea := key_rep (rep_p ra) ek
      subst ea
      exact f3 ρ3 H3 Ext.refl R3 ((κ, b) :: ws) (.cons ⟨ek, (rep_p ra).kok⟩ (rb.mono e3.toMo) rw')
    · exact f1.elim
  · exact f1.elim
theorem re_dictP {pos : Pos} {keys : List (Option Expr)} {values : List Expr} {f : ES → M PE'} (hp : RPp G X pos keys values f) (hall : keys.all (·.isSome) = true := by rfl) (hl : keys.length = values.length := by rfl) (h0 : keys ≠ [] := by simp) (h15 : keys.length ≤ 15 := by decide) : RE G X (.Dict keys values pos) (eDictV f) := by
  obtain ⟨trs, pp, hp⟩ := hp
  intro σ h ρ τ H Q R S ff
  refine wE.of (pe_disp pp hall hl h0 h15) fun p hp0 => ?_
  have R0 : Rel G (ρ.hid p) h (upd H p (.dK [])) := R.hid hp0
  have S0 : SR G (ρ.hid p) (upd H p (.dK [])) σ τ := S.mono (Mo.hid hp0)
  refine hp σ h (ρ.hid p) τ _ _ R0 S0 ?_
  have f' := FinE.bind ff
  have np : p ∉ ρ.all := R.fresh hp0
  cases e0 : f σ h with
  | stuck => rw [e0] at f'; exact f'.elim
  | exc c fs h' =>
    rw [e0] at f'
    obtain ⟨W, tk, g⟩ := f'
    refine ⟨W, tk, fun ρ' H' d e R' x => ?_⟩
    obtain ⟨ρ2, rfl, e2⟩ := e.hidden
    obtain ⟨x1, gs, x2, x3⟩ := x
    exact g ρ2 H' d ((Ext.laid0 hp0).trans e2) R'.unhid ⟨fun m => x1 (Rh.mem_hid.mpr (.inr m)), gs, x2, x3.mono Mo.unhid⟩
  | ok kvs h1 =>
    rw [e0] at f'
    intro ρ' H' e R' ws rw'
    have out : p ∈ (ρ.hid p).out := List.mem_cons_self
    have l' : H' p = some (.dK []) := by
      rcases e.oth p _ (R0.sep p out) upd_same with z | ⟨z, _⟩
      · exact z
      · exact absurd out z
    obtain ⟨ρ2, rfl, e2⟩ := e.hidden
    have E2 : Ext ρ H ρ2 H' := (Ext.laid0 hp0).trans e2
    have f2 := f' ρ2 H' E2 R'.unhid
    dsimp only at f2
    split at f2
    · rename_i ps ep
      split at f2
      · rename_i hl15
        refine ⟨l', ws, rfl, by rw [← rw'.length]; exact hl15, ?_⟩
        have m2 : p ∉ ρ2.all := fun m => by
          rcases E2.toMo.new p m with z | z
          · exact np z
          · rcases Rh.mem_all.mp m with q | q
            · rw [E2.out] at q; exact np (Rh.mem_all.mpr (.inl q))
            · exact R'.sep p List.mem_cons_self q
        have mo : Mo (ρ2.hid p) H' (ρ2.hid p) (upd H' p (.dK (mergeK [] ws))) := by
          have ne : ∀ a, a ∉ (ρ2.hid p).all → a ≠ p := fun a n z => n (Rh.mem_hid.mpr (.inl z))
          refine ⟨⟨[], by simp⟩, fun a m => .inl m, fun a u n _ q => ?_, fun a u n _ q => by rw [upd_ne (ne a n)]; exact q⟩
          rcases q with q | ⟨o, q⟩
          · exact .inl (by rw [upd_ne (ne a n)]; exact q)
          · exact .inr ⟨o, by rw [upd_ne (ne a n)]; exact q⟩
        have E4 : Ext ρ H ρ2 (upd H' p (.dK (mergeK [] ws))) :=
          ⟨E2.out, E2.pre, fun a o u q => by rw [upd_ne (ne_of_none q hp0)]; exact E2.lck a o u q, fun a u n q => by rw [upd_ne (ne_of_none q hp0)]; exact E2.oth a u n q, fun a q => E2.dom a (upd_dom a q), E2.new⟩
        have R3 : Rel G (ρ2.hid p) h1 (upd H' p (.dK (mergeK [] ws))) :=
          ⟨R'.len, R'.nd, fun a m q => R'.there a m (upd_dom a q), R'.sep, fun n a o q r => (R'.obj n a o q r).move mo fun u z => by
            rw [upd_ne (fun e => m2 (Rh.mem_all.mpr (.inr (by rw [← e]; exact List.mem_of_getElem? q))))]; exact z⟩
        have pr := ((plD_rep (mkD_rep rw' .nil) ep).mono mo).mono Mo.unhid
        have f5 := f' ρ2 _ E4 R3.unhid
        dsimp only at f5
        rw [ep] at f5
        simp only [if_pos hl15] at f5
        exact f5 ρ2 _ Ext.refl R3.unhid _ (.p (.dK m2 (.inl upd_same) pr))
      · exact f2.elim
    · exact f2.elim
/-! ### repr -/
theorem reprChar_all : ∀ c, c < 127 → plainSign c = true → Builtin.Str.reprChar 39 c = [c] := by decide +kernel
theorem plain_lt {c : Nat} (h : plainSign c = true) : c < 127 ∧ c ≠ 39 := by
  unfold plainSign at h
  simp only [Bool.and_eq_true, Nat.ble_eq, Bool.not_eq_true'] at h
  refine ⟨by omega, fun z => ?_⟩
  subst z
  simp at h
theorem repr_fold : ∀ (l : List Nat) (acc : Array Nat), (∀ c ∈ l, plainSign c = true) → l.foldl (fun out c => out ++ (Builtin.Str.reprChar 39 c).toArray) acc = acc ++ l.toArray
  | [], acc, _ => by simp
  | c :: r, acc, h => by
    have hc := h c (by simp)
    rw [List.foldl_cons, reprChar_all c (plain_lt hc).1 hc, repr_fold r _ fun d m => h d (by simp [m])]
    simp
theorem reprText_plain {s : List Nat} (h : s.all plainSign = true) : reprText (toS s) = toS (39 :: (s ++ [39])) := by
  have ha : ∀ c ∈ s, plainSign c = true := fun c m => List.all_eq_true.mp h c m
  have hq : reprQuote (toS s) = 39 := by
    unfold reprQuote
    have : (toS s).cps.contains 39 = false := by
      cases e : (toS s).cps.contains 39 with
      | false => rfl
      | true =>
        have m : 39 ∈ s := by simpa [toS] using e
        exact absurd rfl (plain_lt (ha 39 m)).2
    rw [this]; rfl
  unfold reprText
  rw [hq]
  have : (toS s).cps.foldl (fun out c => out ++ (Builtin.Str.reprChar 39 c).toArray) #[39] = #[39] ++ s.toArray := by
    rw [← repr_fold s #[39] ha]
    simp [toS]
  rw [this]
  unfold toS
  congr 1
  simp
theorem rc_repr : RC G X (.builtin "repr") fRepr := by
  intro xs h ρ H vs Q z h' R r e k
  unfold fRepr at e
  split at e
  · rename_i i
    cases en : numOf i with
    | none => rw [en] at e; cases e
    | some s =>
      rw [en] at e; cases e
      cases r with
      | cons a b =>
        cases b
        obtain rfl := rep_int a
        obtain ⟨h1, h2, h3⟩ := numOf_ok en
        refine wC.of SkE.call_repr_int ⟨i, rfl, h1, ?_⟩
        have := k ρ H (.str (toS s)) Ext.refl R (.p (.str h3))
        rw [← h2] at this
        exact this
  · cases e
    cases r with
    | cons a b =>
      cases b
      obtain rfl := rep_non a
      intro pins s σ us I r1
      obtain ⟨u1, rfl, r2⟩ := vals1 r1
      cases (show u1 = Value.none from r2)
      have hq := k ρ H (.str (toS [78, 111, 110, 101])) Ext.refl R (.p (.str (okS_ok (by decide))))
      have en : (Str.ofString "None") = toS [78, 111, 110, 101] := by decide +kernel
      rw [← en] at hq
      exact PySem.P.repr_of_none ⟨.str "None", H, I.tok _, ⟨_, rfl⟩, hq⟩
  · rename_i s
    split at e
    · rename_i c
      cases e
      rw [Bool.and_eq_true, Nat.ble_eq] at c
      cases r with
      | cons a b =>
        cases b
        obtain ⟨rfl, so⟩ := rep_str a
        intro pins s1 σ us I r1
        obtain ⟨u1, rfl, r2⟩ := vals1 r1
        obtain ⟨t, rfl⟩ := r2
        have ok : SOk (39 :: (s ++ [39])) := fun d m => by
          simp only [List.mem_cons, List.mem_append, List.not_mem_nil, or_false] at m
          rcases m with rfl | m | rfl
          · decide
          · exact so d m
          · decide
        have hq := k ρ H (.str (toS (39 :: (s ++ [39])))) Ext.refl R (.p (.str ok))
        rw [← reprText_plain c.1] at hq
        refine PySem.P.repr_of_str ⟨.str _, H, I.tok _, ⟨_, rfl⟩, hq⟩ ?_
        rw [reprText_plain c.1, toS_len]
        simp only [List.length_cons, List.length_append, List.length_nil]
        exact Nat.le_trans (Nat.add_le_add_right (Nat.add_le_add_right c.2 _) _) (by decide)
    · cases e
  · cases e
end
end Y
end

section
/-! Y: isinstance of own classes, defs with defaults. -/
namespace Y
open PySem PySem.Spec PyProof.Rows L2 TL
/-- isinstance(v, C): tb tells it of each class -/
def isCls (tb : Nat → Option Bool) : EV → EH → Option (EV × EH) := fun v h => match clsOf h v with
  | some c => (tb c).map fun b => (.p (.bl b), h)
  | none => (tyName h v).map fun _ => (.p (.bl false), h)
/-- what the written part says of the class C and the classes of instances -/
structure Isc (G : Wd) (mg : Str → Option Value) (T : Str) (tb : Nat → Option Bool) : Prop where
  ex : ∃ C, mg T = some (.ref C) ∧ (∀ c b, tb c = some b → PySem.W.kitOne G.K (.ref (G.CA c)) (.ref C) = some b ∧ SlX.SIsi G.K (G.CA c) ∧ ((G.KD c = .ord ∧ Cls G.K (G.CA c)) ∨ ∃ ns, G.KD c = .slt ns ∧ SlX.SCls G.K (G.CA c))) ∧
    ∀ t, t ∈ ["NoneType", "bool", "int", "str", "tuple", "list", "dict"] → PySem.W.kitOne G.K (.type t) (.ref C) = some false
section
variable {G : Wd} {X : Cx}
theorem tyName_mem {h : EH} {v : EV} {t : String} (e : tyName h v = some t) : t ∈ ["NoneType", "bool", "int", "str", "tuple", "list", "dict"] := by
  unfold tyName at e
  split at e
  all_goals first
    | (cases e; done)
    | (cases e; simp; done)
    | (split at e <;> first | (cases e; done) | (cases e; simp))
theorem re_isCls {T : Str} {tb : Nat → Option Bool} {e : Expr} {fe : ES → M EV} {p tp pos : Pos} (I : Isc G X.mg T tb) (hm : X.mg "isinstance" = none) (ha : RE G X e fe) (hg : Gl X "isinstance" := by rfl) (hgT : Gl X T := by rfl) (hdb : (T == ("__debug__" : Str)) = false := by decide)
    (he : starEach [e, .Name T tp] X.env = (false, eval e X.env) :: starEach [.Name T tp] X.env := by first | exact star_cons rfl | rfl) (hK : X.K = G.K := by rfl) : RE G X (.Call (.Name "isinstance" p) [e, .Name T tp] [] pos) (eUn (isCls tb) fe) := by
  obtain ⟨C, hC, own, bt⟩ := I.ex
  intro σ h ρ τ H Q R S ff
  refine wE.of (pe_callB (wC.call (f := .builtin "isinstance")) hg hm (by decide +kernel) (pa_cons wE.pe (pa_cons (pe_glob (v := .ref C) hgT hC rfl hdb) pa_nil) he) (by decide) (by decide) he rfl) ?_
  refine ha σ h ρ τ H _ R S (FinE.imp (FinE.bind ff) fun v h1 ρ1 H1 e1 R1 f1 w rv => ?_)
  obtain ⟨z, h3, e3, f3⟩ := FinE.lift f1
  unfold isCls at e3
  split at e3
  · rename_i c ec
    cases eb : tb c with
    | none => rw [eb] at e3; cases e3
    | some b =>
      rw [eb] at e3; cases e3
      obtain ⟨ko, si, kd⟩ := own c b eb
      have q := f3 ρ1 H1 Ext.refl R1 _ (.p (.bl b))
      rcases kd with ⟨kd, cl⟩ | ⟨ns, kd, sc⟩
      · obtain ⟨a, dx, gs, rfl, hq, _⟩ := inst_of R1 rv ec kd
        exact wC.of call_isi ⟨.ref a, .ref C, .ref (G.CA c), .ref C, b, rfl, .own C, by rw [hK]; exact .base (.ins hq cl si.ca si.cn si.ct si.cm), by rw [hK]; exact ko, q⟩
      · cases v with
        | p pv =>
          cases pv with
          | obj c' fs =>
            cases ec
            cases rep_p rv with
            | @obj _ a gs _ ob rf fa =>
              obtain ⟨n, ob⟩ := ob
              rw [kd] at ob
              obtain ⟨dx, nd, q1, q2⟩ := ob
              exact wC.of (SlX.call_isiSl (.ref C)) ⟨a, G.CA c, dx, _, .ref C, b, rfl, rfl, fun w rw' => rw', .inr ⟨q1, q2⟩, by rw [hK]; exact sc, by rw [hK]; exact si, by rw [hK]; exact ko, q⟩
          | _ => cases ec
        | tup xs => cases ec
        | ref n =>
          simp only [clsOf] at ec
          split at ec
          · rename_i c' fs eo
            cases ec
            obtain ⟨a, rfl, qa, dx, gs, hq, rf, kd', fa⟩ := getref R1 rv eo
            rw [kd] at kd'; cases kd'
          · cases ec
  · cases et : tyName h1 v with
    | none => rw [et] at e3; cases e3
    | some t =>
      rw [et] at e3; cases e3
      exact wC.of call_isi ⟨w, .ref C, .type t, .ref C, false, rfl, .own C, by rw [hK]; exact ty_rep R1 rv et, by rw [hK]; exact bt t (tyName_mem et), f3 ρ1 H1 Ext.refl R1 _ (.p (.bl false))⟩
/-! ### defs with defaults -/
theorem fnD_ok {P : Program} {w : World} {mg : Str → Option Value} {base : Heap} {x qual : Str} {st : Stmt} {dvs : List V} {kws : List (Str × V)} {f : Addr} {fd : FuncData} {N ps : List Str} {k n m : Nat} {fb : ES → EH → FL} (hG : G.Zf = true) (F : FunD G.K x qual (defArgs st) (defBody st) (defScope st) dvs kws f fd) (S : FnScope N ps (defScope st)) (hn : ps.length = n) (hm : N.length = m)
    (hb : ∀ (cdv : Value) (A : Around) (outer : List Env) (s : Shared) (H : Hp) (E : XK), Room k (A.deeper (envOfC qual (defScope st) s.heap.objs.size f cdv)) → RSs G (cxOf (L2.CX P w) P w G.K mg base N qual (defScope st) f cdv A outer s H E) (defBody st) fb) :
    FnOk P w G.K mg base (L2.CX P w) (k + 1) f fd ps (spF G n (fnF m fb)) := by
  refine F.ok S (fun vs H Q E h => h.1.trans hn.symm) (fun cdv A outer s H vs Q E hr h => ?_)
  obtain ⟨hl, evs, ρ, hh, R, r, q⟩ := h
  refine ⟨_, wSs.pss, ?_⟩
  refine hb cdv A outer s H E hr (startE m evs) hh ρ _ H _ R (SR.start hG r hm) ?_
  unfold fnF at q
  cases e : fb (startE m evs) hh with
  | nx σ' h' =>
    rw [e] at q
    exact fun ρ' H' τ' e' R' _ => q ρ' H' .non e' R' (.p .non)
  | rt v h' =>
    rw [e] at q
    exact fun ρ' H' x' e' R' r' => q ρ' H' x' e' R' r'
  | exc c fs σ' h' =>
    rw [e] at q
    exact ⟨_, takes_of rfl rfl rfl rfl, fun ρ' H' τ' d e' R' _ x' => q ρ' H' d e' R' x'⟩
  | bk σ' h' => rw [e] at q; exact q.elim
  | ct σ' h' => rw [e] at q; exact q.elim
  | stuck => rw [e] at q; exact q.elim
end
end Y
end

section
/-! Y: == of own classes. -/
namespace Y
open PySem PySem.Spec PyProof.Rows L2 TL
/-- x == y, x and y of one class of ours -/
def opEqO (tb : Nat → Option (List EV → EH → R EV)) (x y : EV) (h : EH) : Option (EV × EH) := match clsOf h x with
  | some c => match tb c, clsOf h y with
    | some F, some c' => match Nat.beq c c' with
      | true => (okB (callX F [x, y] h)).map fun q => (.p (.bl q.1), q.2)
      | false => none
    | _, _ => none
  | none => match clsOf h y with
    | some _ => none
    | none => opEq x y h
section
variable {G : Wd} {X : Cx}
theorem ro_eqO {j : Nat} {tb : Nat → Option (List EV → EH → Y.R EV)} (T : SpcT X.prog X.w G X.mg X.base j "__eq__" 2 tb) (hr : Room j X.A) (h0 : RO G X (compareOp .Eq) opEq) (hK : X.K = G.K := by rfl) : RO G X (compareOp .Eq) (opEqO tb) := by
  intro x y h ρ H v u Q z h' R rx ry e k
  unfold opEqO at e
  split at e
  · rename_i c ec
    split at e
    · rename_i F c' eF ec'
      split at e
      · rename_i eb
        have eb := Nat.beq_eq.mp eb
        subst eb
        obtain ⟨k1, hj, D⟩ := T c F eF
        obtain ⟨f, fd, ps, O, hs, hf, hb⟩ := D.ex
        rw [← hK] at O hs hf hb
        obtain ⟨a, rfl, ia⟩ := inst_at (X := X) R rx ec D.kd
        obtain ⟨b, rfl, ib⟩ := inst_at (X := X) R ry ec' D.kd
        cases eo : okB (callX F [x, y] h) with
        | none => rw [eo] at e; cases e
        | some q =>
          rw [eo] at e; cases e
          let QQ : VK := fun w H' => ∃ b, w = .bl b ∧ Q (.bl b) H'
          have sp := callX_run (Q := QQ) (n := 2) rfl R (.cons rx (.cons ry .nil)) (okB_ok eo) fun ρ' H' w e R' r => ⟨q.1, rep_bl r, k ρ' H' _ e R' (.p (.bl _))⟩
          intro pins s σ vx vy I r1 r2
          obtain ⟨ox, od, J⟩ := ia pins σ s I
          obtain ⟨oy, oe, J'⟩ := ib pins σ s I
          obtain ⟨m, F'⟩ := I.fr
          cases (show vx = Value.ref a from r1)
          cases (show vy = Value.ref b from r2)
          show wpAny _ _ (richCompare .Eq (.ref a) (.ref b)) _ _ _
          refine PySem.W.cmp_K (op := .Eq) (tb := .ref (G.CA c)) hr.units0 F' I.ok.mod.kin J J'.type (by simp [PySem.W.notFirst]) hs hf ?_
          refine thn (wk_fn (vs := [.ref a, .ref b]) (dvs := []) (Q := QQ) O hr hj hb .nil passNo (by simpa using sp) pins s [.ref a, .ref b] I (.cons rfl (.cons rfl .nil))) fun w s1 hw => ?_
          obtain ⟨wv, H1, I1, rw', b', eb', q1⟩ := hw
          subst eb'
          cases (show w = Value.bool b' from rw')
          exact ⟨.bl b', H1, I1, rfl, q1⟩
      · cases e
    · cases e
  · split at e
    · cases e
    · exact h0 x y h ρ H v u Q z h' R rx ry e k
end
end Y
end

section
/-! Y, the end of a law. -/
namespace Y
open PySem PySem.Spec PyProof.Rows L2
theorem ro_of {K : PySem.W.Frag} {H : Hp} {a : Addr} {vs : List V} (o : Only H) (s : SqL K H a vs) : RoV K ⟨[], []⟩ H a vs := by
  rcases s with (s | ⟨ob, s⟩) | s
  · rcases o a with z | ⟨ob, xs, z⟩
    · rw [z] at s; cases s
    · rw [z] at s; cases s
  · exact .inl ⟨by simp [Rh.all], ob, s⟩
  · exact .inr s
theorem rel0 {G : Wd} {H : Hp} : Rel G ⟨[], []⟩ [] H := ⟨rfl, List.nodup_nil, (fun a m => nomatch m), (fun a m => nomatch m), (fun n a o q => by simp at q)⟩
theorem prep_ints {G : Wd} {ρ : Rh} {H : Hp} : ∀ ss : List Int, PRepL G ρ H (ss.map PV.int) (ss.map V.int)
  | [] => .nil
  | s :: r => .cons (.int s) (prep_ints r)
/-- what the walk of a law wants, from what its function gives -/
theorem sp_of {G : Wd} {F : List EV → EH → Y.R EV} (h : ∀ ns : List Int, ns.length ≤ 63 → ∃ h', F [.p (.rol (ns.map PV.int))] [] = .ok (.p (.bl true)) h') {H : Hp} {a : Addr} {ns : List Int} (hl : ns.length ≤ 63) (o : Only H) (s : SqL G.K H a (ns.map V.int)) :
    spF G 1 F [.ref a] H (fun v _ => v = .bl true) fun _ _ _ => False := by
  obtain ⟨h', e⟩ := h ns hl
  refine ⟨rfl, [.p (.rol (ns.map PV.int))], ⟨[], []⟩, [], rel0, .cons (.p (.rol (ro_of o s) (prep_ints ns))) .nil, ?_⟩
  rw [e]
  exact fun ρ' H' x _ _ r => rep_bl r
theorem walkY {l : PySem.W.OpenLaw} {k : Nat} {q : Program} {loose : List Str} {XP : (Str → Option Value) → Heap → Prop} {YP : World → Heap → Prop} {d : DefRec} {K : Params → PySem.W.Frag} {Gw : World → Wd} {x : Str} {Fl : List EV → EH → Y.R EV}
    (hl : ∀ ns : List Int, ns.length ≤ 63 → ∃ h', Fl [.p (.rol (ns.map PV.int))] [] = .ok (.p (.bl true)) h') (hK : ∀ w, (Gw w).K = K w.params)
    (hn : l.most = some 63) (hdf : d.params.defaults = []) (hr : Room k callerA) (hY : ∀ (w : World) (h : Heap), YP w h → (K w.params).In h)
    (F : ∀ (w : World) (mg : Str → Option Value) (fa : Addr) (h : Heap), (K w.params).In h → h.Ns mainGlobals mg → mg d.name = some (.ref fa) →
      ∃ fd : FuncData, (∀ (s : Shared) (u : Value), BindsTo s fd ⟨[u], []⟩ [(x, u)]) ∧ ∀ base : Heap, (K w.params).In base → base.Ns mainGlobals mg → FnOk l.prog w (K w.params) mg base (L2.CX l.prog w) k fa fd [x] (spF (Gw w) 1 Fl)) :
    PySem.W.WalkO q loose XP YP l.row.toRowW d [] (fun f vs => PySem.call f vs) :=
  L2.walk_of (n := 63) (k := k) (x := x) (CX := fun w => L2.CX l.prog w) (sp := fun w => spF (Gw w) 1 Fl) hn (by decide) hdf hr hY F (fun w H a ns h1 h2 h3 => sp_of hl h1 h2 (by rw [hK]; exact h3)) fun w H s e s' z => by
    obtain ⟨_, _, _, _, _, _, _, _, _, _, _, _, z⟩ := z
    exact z
end Y
end

section
/-! Y: what the written part of a program says, out of single answers. -/
namespace Y
open PySem PySem.Spec PyProof.Rows L2
section
variable {G : Wd} {K : PySem.W.Frag}
theorem kst_int {i : Int} {t : Tok} : Kst G (.int i) (.int i t) := ⟨.int i, ⟨t, rfl⟩, fun _ _ => .int i⟩
theorem kst_non : Kst G .non .none := ⟨.non, rfl, fun _ _ => .non⟩
theorem kst_bl {b : Bool} : Kst G (.bl b) (.bool b) := ⟨.bl b, rfl, fun _ _ => .bl b⟩
def sokB (l : List Nat) : Bool := l.all fun c => Nat.blt c 0x110000
theorem sok_of {l : List Nat} (h : sokB l = true) : SOk l := fun c m => by
  have := List.all_eq_true.mp h c m
  exact Nat.blt_eq.mp this
theorem kst_str {s : Str} {t : Tok} {l : List Nat} (e : s = toS l) (ok : sokB l = true) : Kst G (.str l) (.str s t) := by
  subst e
  exact ⟨.str (toS l), ⟨t, rfl⟩, fun _ _ => .str (sok_of ok)⟩
inductive KstL (G : Wd) : List PV → List Value → Prop
  | nil : KstL G [] []
  | cons {p : PV} {u : Value} {ps : List PV} {us : List Value} : Kst G p u → KstL G ps us → KstL G (p :: ps) (u :: us)
theorem kstL_vals : ∀ {ps : List PV} {us : List Value}, KstL G ps us → ∃ ws, Vals ws us ∧ ∀ ρ H, PRepL G ρ H ps ws
  | _, _, .nil => ⟨[], .nil, fun _ _ => .nil⟩
  | _, _, .cons ⟨w, r, q⟩ b => by
    obtain ⟨ws, r2, q2⟩ := kstL_vals b
    exact ⟨w :: ws, .cons r r2, fun ρ H => .cons (q ρ H) (q2 ρ H)⟩
theorem kst_rot {a : Addr} {od : Option Addr} {its : Array Value} {n : Nat} {sl : Array (Option Value)} {ps : List PV} (l : G.K.lookup a = some ⟨.type "tuple", od, .seq its n, sl⟩) (sz : its.size ≤ sizeLine) (k : KstL G ps its.toList) : Kst G (.rot ps) (.ref a) := by
  obtain ⟨ws, r, q⟩ := kstL_vals k
  exact ⟨.ref a, rfl, fun ρ H => .rot ⟨_, its, n, l, rfl, rfl, sz, r⟩ (q ρ H)⟩
theorem kdi_of {w : World} {d : Addr} {es : Array DictEntry} {n : Nat} {kvs : List (List Nat × PV)} (l : G.K.lookup d = some ⟨.type "dict", none, .dict es n, #[]⟩) (lit : PySem.W.KeysLit w.params es.toList) (low : (d == sysModules) = false) (e : EntL G es.toList kvs) : Kdi G w d kvs := ⟨⟨es, n, ⟨l, lit, low⟩, e⟩⟩
theorem small_sz {n : Nat} (h : Nat.ble n 1000 = true) : n ≤ sizeLine := Nat.le_of_lt (small1000 (Nat.le_of_ble_eq_true h))
theorem kc_of {C : Addr} {t : Value} {cd : ClassData} {v : Bool} (h2 : PySem.W.clsIn K C = some cd) (h3 : PySem.W.typeIn K (.ref C) = some (.type "type")) (h4 : PySem.W.subIn K t (.ref C) = some v) : PySem.W.kitCls K t (.ref C) = some v := by
  show (if ((PySem.W.clsIn K C).isSome && PySem.W.typeIn K (.ref C) == some (.type "type")) = true then PySem.W.subIn K t (.ref C) else none) = some v
  rw [h3, h2, h4]
  simp
theorem exm_of {C D : Addr} {cd : ClassData} {v : Bool} (h1 : PySem.W.subIn K (.ref C) (.type "BaseException") = some true) (h2 : PySem.W.clsIn K C = some cd) (h3 : PySem.W.typeIn K (.ref C) = some (.type "type")) (h4 : PySem.W.subIn K (.ref D) (.ref C) = some v) : PySem.W.exmOne K (.ref D) (.ref C) = some v := by
  unfold PySem.W.exmOne
  rw [h1, kc_of h2 h3 h4]
  simp
theorem kit_of {C : Addr} {t : Value} {cd : ClassData} {v : Bool} (ne : (t == Value.ref C) = false) (h2 : PySem.W.clsIn K C = some cd) (h3 : PySem.W.typeIn K (.ref C) = some (.type "type")) (h4 : PySem.W.subIn K t (.ref C) = some v) : PySem.W.kitOne K t (.ref C) = some v := by
  unfold PySem.W.kitOne
  rw [ne, kc_of h2 h3 h4]
  simp
theorem sup_of {D F : Addr} {cd cF : ClassData} {n : Str} {v : Option Value} (h1 : PySem.W.clsIn K D = some cd) (h2 : PySem.W.clsIn K F = some cF) (e : (cd.mro.dropWhile (· != .ref D)).drop 1 = cF.mro) (h3 : PySem.W.findIn K (.ref F) n = some v) : PySem.W.ks_superIn K D D n = some v := by
  unfold PySem.W.ks_superIn
  rw [h1]
  show PySem.W.alongIn K n ((cd.mro.dropWhile (· != .ref D)).drop 1) = some v
  rw [e, ← h3]
  unfold PySem.W.clsIn at h2
  unfold PySem.W.findIn
  split at h2
  · rename_i c d cl sl q
    cases h2
    simp only [q]
  · cases h2
theorem kit_self {C : Addr} : PySem.W.kitOne K (.ref C) (.ref C) = some true := by
  unfold PySem.W.kitOne
  simp
theorem funD_mk {x qual : Str} {st : Stmt} {f T : Addr} {oc : Value} {od an : Option Addr} {osl : Array (Option Value)} {kV doc pm cdv ct : Value} {o : Obj} {its : List Value} {n : Nat} {dvs : List V} (l : K.lookup f = some ⟨oc, od, .func (PySem.W.fnOf x qual (defArgs st) (defBody st) (defScope st) (.ref T) kV doc pm an cdv ct), osl⟩)
    (c : PySem.W.codeIn K cdv qual = true) (k : PySem.W.keepIn K (.ref f) = true) (lT : K.lookup T = some o) (oT : o.data = .seq its.toArray n) (ne : dvs ≠ []) (v : Vals dvs its) : FunD K x qual (defArgs st) (defBody st) (defScope st) dvs [] f (PySem.W.fnOf x qual (defArgs st) (defBody st) (defScope st) (.ref T) kV doc pm an cdv ct) :=
  ⟨⟨oc, od, .ref T, kV, doc, pm, an, cdv, ct, osl, rfl, l, c, .inr ⟨ne, T, o, its, n, rfl, lT, oT, v⟩, .inl rfl⟩, k⟩
/-! ### lists made by + and * -/
def lAdd (fa fb : ES → M EV) : ES → M (List EV) := fun σ h => (fa σ h).bind fun x h1 => (fb σ h1).bind fun y h2 => R.opt (match lstOf h2 x, lstOf h2 y with
  | some xs, some ys => if xs.length + ys.length ≤ 100000 then some (xs ++ ys) else none
  | _, _ => none) h2
theorem rl_add {X : Cx} {a b : Expr} {fa fb : ES → M EV} {pos : Pos} (ha : RE G X a fa) (hb : RE G X b fb) : RL G X (.BinOp a .Add b pos) (lAdd fa fb) := by
  intro σ h ρ τ H Q R S f
  refine wE.of (pe_op wO.op wE.pe wE.pe) ?_
  refine ha σ h ρ τ H _ R S (FinE.imp (FinE.bind f) fun x h1 ρ1 H1 e1 R1 f1 v rv => ?_)
  refine hb σ h1 ρ1 τ H1 _ R1 (S.mono e1.toMo) (FinE.imp (FinE.bind f1) fun y h2 ρ2 H2 e2 R2 f2 u ru => ?_)
  obtain ⟨zs, eo, f4⟩ := opt_fin f2
  split at eo
  · rename_i xs ys q1 q2
    split at eo
    · rename_i c
      cases eo
      obtain ⟨a, vs, rfl, hv, rv'⟩ := lst_rep R2 (rv.mono e2.toMo) q1
      obtain ⟨b, ws, rfl, hw, rw'⟩ := lst_rep R2 ru q2
      refine wO.of op_cat ⟨a, b, vs, ws, rfl, rfl, hv, hw, ?_, fun p hp => ?_⟩
      · rw [← rv'.length, ← rw'.length]; exact sz_ok c
      · exact LK.laid hp (e1.dom p (e2.dom p hp)) R2 (rv'.append rw') (f4 ρ2 _ (Ext.laid0 hp) (R2.aside hp))
    · cases eo
  · cases eo
def lMul (fa fb : ES → M EV) : ES → M (List EV) := fun σ h => (fa σ h).bind fun x h1 => (fb σ h1).bind fun y h2 => R.opt (match lstOf h2 x, y with
  | some xs, .p (.int k) => if -(2 ^ 63) ≤ k ∧ k < 2 ^ 63 ∧ xs.length * k.toNat ≤ 100000 then some (List.replicate k.toNat xs).flatten else none
  | _, _ => none) h2
theorem rl_mul {X : Cx} {a b : Expr} {fa fb : ES → M EV} {pos : Pos} (ha : RE G X a fa) (hb : RE G X b fb) : RL G X (.BinOp a .Mult b pos) (lMul fa fb) := by
  intro σ h ρ τ H Q R S f
  refine wE.of (pe_op wO.op wE.pe wE.pe) ?_
  refine ha σ h ρ τ H _ R S (FinE.imp (FinE.bind f) fun x h1 ρ1 H1 e1 R1 f1 v rv => ?_)
  refine hb σ h1 ρ1 τ H1 _ R1 (S.mono e1.toMo) (FinE.imp (FinE.bind f1) fun y h2 ρ2 H2 e2 R2 f2 u ru => ?_)
  obtain ⟨zs, eo, f4⟩ := opt_fin f2
  split at eo
  · rename_i xs j q1
    split at eo
    · rename_i c
      cases eo
      obtain ⟨a, vs, rfl, hv, rv'⟩ := lst_rep R2 (rv.mono e2.toMo) q1
      obtain rfl := rep_int ru
      refine wO.of op_rep ⟨a, j, vs, rfl, rfl, hv, c.1, c.2.1, ?_, fun p hp => ?_⟩
      · rw [← rv'.length]; exact sz_ok c.2.2
      · exact LK.laid hp (e1.dom p (e2.dom p hp)) R2 (rv'.rep j.toNat) (f4 ρ2 _ (Ext.laid0 hp) (R2.aside hp))
    · cases eo
  · cases eo
end
end Y
end

section
set_option maxHeartbeats 2000000
/-! Y: != of own classes. -/
namespace Y
open PySem PySem.W PySem.Spec PySem.Calls PyProof.Rows L2 TL
section
variable {prog : Program} {w : World} {M : Model} {A : Around} {E : Value → Shared → Prop} {s : Shared} {K : PySem.W.Frag} {x y C L f : Addr} {h₀ : Heap} {m : Str → Option Value} {ox : Obj} {od : Option Obj} {name : Str} {id : String}
theorem ifBound_slot {args : List Value} {Q : Option Value → Shared → Prop} (X : K.In s.heap) (I : PySem.W.InstAt s.heap x ox C od) (hs : PySem.W.findIn K (.ref C) name = some (some (.builtin id))) (hb : ∀ self, bindSpecial (.builtin id) self = pure (.builtin id, [self]))
    (h : wpAny M A (call (.builtin id) (.ref x :: args)) (fun v => Q (some v)) E s) : wpAny M A (callSpecialIfBound? (.ref x) name args) Q E s := by
  simp only [callSpecialIfBound?, bindSpecialIfBound?]
  refine wpAny_holding (wpAny_bind (wpAny_bind (wpAny_bind (I.type.here ((PySem.W.looks_findIn X hs).here ?_)))))
  simp only [hb]
  refine wpAny_bind (wpAny_askSetting (wpAny_ite ?_))
  have fin : wpAny M A (call (.builtin id) ([.ref x] ++ args) >>= fun v => pure (some v)) Q E s := wpAny_bind (wpAny_mono h (fun v s' h' => wpAny_pure h') fun _ _ h' => h')
  split
  · exact wpAny_bind (wpAny_pure (wpAny_pure fin))
  · exact wpAny_tryCatch (wpAny_bind (wpAny_pure (wpAny_pure fin)))
theorem objNe_K (X : K.In s.heap) (I : PySem.W.InstAt s.heap x ox C od) (hs : PySem.W.findIn K (.ref C) "__eq__" = some (some (.ref f))) (hf : PySem.W.isFn K (.ref f) = true) (hu : A.units < cLine) {Q : Fin → Shared → Prop}
    (hcall : wpAny (model prog w) A (call (.ref f) [.ref x, .ref y]) (fun v s' => ∃ b, v = .bool b ∧ Q (.done (.ret (.bool (!b)))) s') E s) :
    wpAny (model prog w) A (Builtin.«object.__ne__» ⟨[.ref x, .ref y], []⟩) Q E s := by
  unfold Builtin.«object.__ne__»
  repeat (first
    | with_reducible refine wpAny_cRoomFor hu ?_
    | (refine wpAny_bind (m := callSpecialIfBound? (.ref x) (Str.ofString "__eq__") [.ref y])
        (PySem.W.ifBound_K X I hs hf (wpAny_mono hcall (fun r s' hr => by
          obtain ⟨b, rfl, hq⟩ := hr
          repeat (first | exact hq | exact wpAny_pure hq | exact wpAny_truthy_bool hq | (refine wpAny_bind (m := truthy (.bool _)) (wpAny_truthy_bool ?_)) | wp_step)) fun _ _ e => e)))
    | wp_step)
theorem ne_K {Q : Value → Shared → Prop} (hu : A.units + 1 < cLine) (F : Fr h₀ L s.heap m) (X₀ : K.In h₀) (I : PySem.W.InstAt s.heap x ox C od) (hb : Looks (model prog w) s.heap (typeOf (.ref y)) (.ref C))
    (hs : PySem.W.findIn K (.ref C) "__eq__" = some (some (.ref f))) (hf : PySem.W.isFn K (.ref f) = true) (hne : PySem.W.findIn K (.ref C) "__ne__" = some (some (.builtin "object.__ne__"))) (hm : PySem.W.mroIn K C (.type "object") = some true)
    (h : wpAny (model prog w) A.in1 (call (.ref f) [.ref x, .ref y]) (fun v s' => ∃ b, v = .bool b ∧ Q (.bool (!b)) s') E s) : wpAny (model prog w) A (richCompare .NotEq (.ref x) (.ref y)) Q E s := by
  have X := X₀.keeps F.keep
  unfold richCompare
  simp only [oneThing_ref]
  refine wpAny_holding (wpAny_bind (wpAny_cRoomFor (Nat.lt_of_succ_lt hu) ?_))
  rw [cmpInfo_NotEq]
  dsimp only
  refine wpAny_bind (I.type.here (wpAny_bind (hb.here ?_)))
  rw [show (Value.ref C != Value.ref C) = false from by simp]
  simp only [Bool.false_eq_true, if_false]
  refine wpAny_bind (wpAny_pure ?_)
  simp only [Bool.false_eq_true, if_false]
  have one : wpAny (model prog w) A (tryCompare (.ref x) "__ne__" (.ref y)) (fun r s' => ∃ v, r = some v ∧ Q v s') E s := by
    simp only [tryCompare]
    refine wpAny_bind (ifBound_slot X I hne PySem.F.cmp_object.ne.bind (wpAny_call (codeAny_call_builtin PySem.F.cmp_object.ne.plain PySem.F.cmpEntry_ne
      (PySem.W.check_slot PySem.F.cmpKind_ne PySem.F.cmpSplit_ne (I.type.andThen (PySem.W.looks_mroIn X hm)) (PySem.F.cmpArgs_ne _ _)
        (objNe_K (A := A.in1) X I hs hf hu (wpAny_mono h (fun v s' hv => ?_) fun _ _ e => e))))))
    obtain ⟨b, rfl, hq⟩ := hv
    exact ⟨b, rfl, wpAny_pure ⟨_, rfl, hq⟩⟩
  refine wpAny_bind (wpAny_mono one (fun r s' z => ?_) fun _ _ e => e)
  obtain ⟨v, rfl, hq⟩ := z
  exact wpAny_pure hq
end
/-- x != y, x and y of one class of ours -/
def opNeO (tb : Nat → Option (List EV → EH → R EV)) (x y : EV) (h : EH) : Option (EV × EH) := match clsOf h x with
  | some c => match tb c, clsOf h y with
    | some F, some c' => match Nat.beq c c' with
      | true => (okB (callX F [x, y] h)).map fun q => (.p (.bl (!q.1)), q.2)
      | false => none
    | _, _ => none
  | none => match clsOf h y with
    | some _ => none
    | none => opNe x y h
section
variable {G : Wd} {X : Cx}
theorem ro_neO {j : Nat} {tb : Nat → Option (List EV → EH → Y.R EV)} (T : SpcT X.prog X.w G X.mg X.base j "__eq__" 2 tb) (N : ∀ c F, tb c = some F → PySem.W.findIn G.K (.ref (G.CA c)) "__ne__" = some (some (.builtin "object.__ne__")) ∧ PySem.W.mroIn G.K (G.CA c) (.type "object") = some true) (hr : Room (j + 1) X.A) (h0 : RO G X (compareOp .NotEq) opNe) (hK : X.K = G.K := by rfl) : RO G X (compareOp .NotEq) (opNeO tb) := by
  intro x y h ρ H v u Q z h' R rx ry e k
  unfold opNeO at e
  split at e
  · rename_i c ec
    split at e
    · rename_i F c' eF ec'
      split at e
      · rename_i eb
        have eb := Nat.beq_eq.mp eb
        subst eb
        obtain ⟨k1, hj, D⟩ := T c F eF
        obtain ⟨nn, nm⟩ := N c F eF
        obtain ⟨f, fd, ps, O, hs, hf, hb⟩ := D.ex
        rw [← hK] at O hs hf hb nn nm
        obtain ⟨a, rfl, ia⟩ := inst_at (X := X) R rx ec D.kd
        obtain ⟨b, rfl, ib⟩ := inst_at (X := X) R ry ec' D.kd
        cases eo : okB (callX F [x, y] h) with
        | none => rw [eo] at e; cases e
        | some q =>
          rw [eo] at e; cases e
          let QQ : VK := fun w H' => ∃ b, w = .bl b ∧ Q (.bl (!b)) H'
          have sp := callX_run (Q := QQ) (n := 2) rfl R (.cons rx (.cons ry .nil)) (okB_ok eo) fun ρ' H' w e R' r => ⟨q.1, rep_bl r, k ρ' H' _ e R' (.p (.bl _))⟩
          intro pins s σ vx vy I r1 r2
          obtain ⟨ox, od, J⟩ := ia pins σ s I
          obtain ⟨oy, oe, J'⟩ := ib pins σ s I
          obtain ⟨m, F'⟩ := I.fr
          cases (show vx = Value.ref a from r1)
          cases (show vy = Value.ref b from r2)
          show wpAny _ _ (richCompare .NotEq (.ref a) (.ref b)) _ _ _
          refine ne_K (by have := hr.units; omega) F' I.ok.mod.kin J J'.type hs hf nn nm ?_
          refine thn (call_in1 (vs := [.ref a, .ref b]) O hr (by omega) hb I (.cons rfl (.cons rfl .nil)) sp) fun w s1 ⟨wv, H1, I1, rw', b', eb', q1⟩ => ?_
          subst eb'
          cases (show w = Value.bool b' from rw')
          exact ⟨b', rfl, .bl (!b'), H1, I1, rfl, q1⟩
      · cases e
    · cases e
  · split at e
    · cases e
    · exact h0 x y h ρ H v u Q z h' R rx ry e k
end
end Y
end

section
/-! Y: a, b = x, y. -/
namespace Y
open PySem L2
/-- a, b = x, y and a, b, c = x, y, z, plain names -/
def sPar2 (i j : Nat) (fa : ES → M (List EV)) : ES → EH → FL := fun σ h => (fa σ h).fl σ fun vs h' => match vs with
  | [v, w] => .nx ((σ.set i (some v)).set j (some w)) h'
  | _ => .stuck
def sPar3 (i j l : Nat) (fa : ES → M (List EV)) : ES → EH → FL := fun σ h => (fa σ h).fl σ fun vs h' => match vs with
  | [u, v, w] => .nx (((σ.set i (some u)).set j (some v)).set l (some w)) h'
  | _ => .stuck
section
variable {G : Wd} {X : Cx}
theorem rs_par2 {i j : Nat} {x y : Str} {a b : Expr} {fa : ES → M (List EV)} {px py pt pos : Pos} {kt k2 pt2} (hG : G.Zf = true) (hN : X.N.Nodup) (ha : RA G X [a, b] fa) (hc : X.calm = true := by rfl) (hi : X.N[i]? = some x := by rfl) (hj : X.N[j]? = some y := by rfl) (hij : i ≠ j := by decide)
    (hx : X.env.scope.names.lookup x = some .local := by rfl) (hy : X.env.scope.names.lookup y = some .local := by rfl)
    (hw : swappedStores [.Tuple [.Name x px, .Name y py] kt pt] (.Tuple [a, b] k2 pt2) X.env = pure (some [x, y]) := by rfl)
    (hs : swapsWithSole [.Tuple [.Name x px, .Name y py] kt pt] (.Tuple [a, b] k2 pt2) pos.line X.env = pure false := by rfl) :
    RS G X (.Assign [.Tuple [.Name x px, .Name y py] kt pt] (.Tuple [a, b] k2 pt2) pos) (sPar2 i j fa) := by
  intro σ h ρ τ H D R S ff
  refine wS.of (ps_par hc hN hi hj hij hx hy wA.pa hw hs) ?_
  refine ha σ h ρ τ H _ R S (FinE.imp (FinS.fl S ff) fun vs h1 ρ1 H1 e1 R1 f1 ws rw' => ?_)
  split at f1
  · cases rw' with
    | cons r1 r2 =>
      cases r2 with
      | cons r2 r3 =>
        cases r3
        exact ⟨_, _, rfl, f1 ρ1 H1 _ Ext.refl R1 (((S.mono e1.toMo).set hG r1).set hG r2)⟩
  · exact f1.elim
theorem rs_par3 {i j l : Nat} {x y z : Str} {a b c : Expr} {fa : ES → M (List EV)} {px py pz pt pos : Pos} {kt k2 pt2} (hG : G.Zf = true) (hN : X.N.Nodup) (ha : RA G X [a, b, c] fa) (hc : X.calm = true := by rfl) (hi : X.N[i]? = some x := by rfl) (hj : X.N[j]? = some y := by rfl) (hl : X.N[l]? = some z := by rfl) (hij : i ≠ j := by decide) (hil : i ≠ l := by decide) (hjl : j ≠ l := by decide)
    (hx : X.env.scope.names.lookup x = some .local := by rfl) (hy : X.env.scope.names.lookup y = some .local := by rfl) (hz : X.env.scope.names.lookup z = some .local := by rfl)
    (hw : swappedStores [.Tuple [.Name x px, .Name y py, .Name z pz] kt pt] (.Tuple [a, b, c] k2 pt2) X.env = pure (some [x, y, z]) := by rfl)
    (hs : swapsWithSole [.Tuple [.Name x px, .Name y py, .Name z pz] kt pt] (.Tuple [a, b, c] k2 pt2) pos.line X.env = pure false := by rfl) :
    RS G X (.Assign [.Tuple [.Name x px, .Name y py, .Name z pz] kt pt] (.Tuple [a, b, c] k2 pt2) pos) (sPar3 i j l fa) := by
  intro σ h ρ τ H D R S ff
  refine wS.of (ps_par3 hc hN hi hj hl hij hil hjl hx hy hz wA.pa hw hs) ?_
  refine ha σ h ρ τ H _ R S (FinE.imp (FinS.fl S ff) fun vs h1 ρ1 H1 e1 R1 f1 ws rw' => ?_)
  split at f1
  · cases rw' with
    | cons r1 r2 =>
      cases r2 with
      | cons r2 r3 =>
        cases r3 with
        | cons r3 r4 =>
          cases r4
          exact ⟨_, _, _, rfl, f1 ρ1 H1 _ Ext.refl R1 ((((S.mono e1.toMo).set hG r1).set hG r2).set hG r3)⟩
  · exact f1.elim
end
end Y
end

section
set_option maxHeartbeats 1000000
/-! Y5: comprehensions of two clauses, comprehensions that make dicts. -/
namespace Y
open PySem PySem.Spec PyProof.Rows L2
section
variable {α : Type}
def cV (tf : EV → α → EH → R α) : List EV → α → EH → R α
  | [], acc, h => .ok acc h
  | x :: xs, acc, h => (noExc (tf x acc h)).bind fun acc' h' => cV tf xs acc' h'
def cN (tf : EV → α → EH → R α) (get : GT) : Nat → Nat → α → EH → R α
  | 0, _, _, _ => .stuck
  | k + 1, i, acc, h => match get h i with
    | none => .stuck
    | some none => .ok acc h
    | some (some x) => (noExc (tf x acc h)).bind fun acc' h' => cN tf get k (i + 1) acc' h'
def cI (tf : EV → α → EH → R α) (it : IT) (acc : α) (h : EH) : R α := match it with
  | .vals xs => cV tf xs acc h
  | .dyn get => cN tf get 100001 0 acc h
/-- one turn: the target, the tests, then what is done -/
def cT (g : EV → ES → Option ES) (ft : ES → M Bool) (st : ES → α → EH → R α) (σ : ES) (x : EV) (acc : α) (h : EH) : R α := match g x σ with
  | none => .stuck
  | some σ1 => (ft σ1 h).bind fun b h1 => match b with
    | true => st σ1 acc h1
    | false => .ok acc h1
def sIn (fi : ES → M IT) (tf : ES → EV → α → EH → R α) (σ : ES) (acc : α) (h : EH) : R α := (fi σ h).bind fun it h1 => cI (tf σ) it acc h1
end
def sLst (fe : ES → M EV) (σ : ES) (acc : List EV) (h : EH) : R (List EV) := (fe σ h).bind fun y h1 => if Nat.blt acc.length 100000 then .ok (acc ++ [y]) h1 else .stuck
def dcPut (acc : PE') (k v : EV) : Option PE' := match k with
  | .p kp => match keyOf kp with
    | some _ => if Nat.blt acc.length 100000 then some (dput keq kp v acc) else none
    | none => none
  | _ => none
def sDic (fk fe : ES → M EV) (σ : ES) (acc : PE') (h : EH) : R PE' := (fk σ h).bind fun k h1 => (fe σ h1).bind fun y h2 => R.opt (dcPut acc k y) h2
def lLc2 (fi : ES → M IT) (g : EV → ES → Option ES) (ft : ES → M Bool) (fi1 : ES → M IT) (g1 : EV → ES → Option ES) (ft1 : ES → M Bool) (fe : ES → M EV) (vs vs1 : List Nat) : ES → M (List EV) := fun σ h => (fi σ h).bind fun it h1 => cI (cT g ft (sIn fi1 fun σ2 => cT g1 ft1 (sLst fe) (wipeE σ2 vs1)) (wipeE σ vs)) it [] h1
def qDc (fi : ES → M IT) (g : EV → ES → Option ES) (ft : ES → M Bool) (fk fe : ES → M EV) (vs : List Nat) : ES → M PE' := fun σ h => (fi σ h).bind fun it h1 => cI (cT g ft (sDic fk fe) (wipeE σ vs)) it [] h1
def qDc2 (fi : ES → M IT) (g : EV → ES → Option ES) (ft : ES → M Bool) (fi1 : ES → M IT) (g1 : EV → ES → Option ES) (ft1 : ES → M Bool) (fk fe : ES → M EV) (vs vs1 : List Nat) : ES → M PE' := fun σ h => (fi σ h).bind fun it h1 => cI (cT g ft (sIn fi1 fun σ2 => cT g1 ft1 (sDic fk fe) (wipeE σ2 vs1)) (wipeE σ vs)) it [] h1
/-- a made dict: an object of ours; a plain value where all its values are -/
def eNewD (f : ES → M PE') : ES → M EV := fun σ h => (f σ h).bind fun kvs h1 => .ok (.ref h1.length) (h1 ++ [.dK kvs])
def anyD (kvs : PE') (h : EH) : R EV := match plD kvs with
  | some ps => .ok (.p (.dic ps)) h
  | none => .ok (.ref h.length) (h ++ [.dK kvs])
def eAnyD (f : ES → M PE') : ES → M EV := fun σ h => (f σ h).bind anyD

section
variable {G : Wd} {X : Cx} {α : Type}
/-- the loop of a clause -/
def Loop (J : It) (H0 : Hp) (Qd : Hp → Prop) (Step : V → Hp → (Hp → Prop) → Prop) : Prop := ∃ W : Nat → Nat → Hp → Prop, (∃ m, W 0 m H0) ∧ ∀ i m H, W i m H →
  (J.stop i H ∧ Qd H) ∨ (J.go i H ∧ ∃ Nx : Hp → Prop, (∀ H', Nx H' → ∃ m', m' < m ∧ W (i + 1) m' H') ∧ ∀ x H', J.yld i H x H' → Step x H' Nx)
/-- what is made: it lies at D, as yet no object of ours -/
structure Ac (G : Wd) (α : Type) where
  is : Rh → Hp → α → HO → Prop
  mono : ∀ {ρ H ρ' H' a u}, Mo ρ H ρ' H' → is ρ H a u → is ρ' H' a u
  nf : ∀ {ρ H a u o w}, is ρ H a u → u ≠ .frz o w
/-- how far it is -/
structure At (G : Wd) (A : Ac G α) (D : Addr) (ρ1 : Rh) (H1 : Hp) (P : Rh → Hp → Prop) (ρ : Rh) (h : EH) (H : Hp) (a : α) : Prop where
  ext : Ext ρ1 H1 ρ H
  rel : Rel G (ρ.hid D) h H
  out : D ∉ ρ.all
  at' : ∃ u, H D = some u ∧ A.is (ρ.hid D) H a u
  pr : P (ρ.hid D) H
def Clo (P : Rh → Hp → Prop) : Prop := ∀ ρ H ρ' H', P ρ H → Sx ρ H ρ' H' → P ρ' H'
theorem stay_hid {ρ ρ' : Rh} {D : Addr} {H H' : Hp} {u : HO} (e : Ext (ρ.hid D) H ρ' H') (n : D ∉ ρ.all) (l : H D = some u) : H' D = some u := by
  rcases e.oth D u (fun z => n (Rh.mem_all.mpr (.inr z))) l with z | ⟨z, _⟩
  · exact z
  · exact absurd List.mem_cons_self z
theorem At.step {A : Ac G α} {D : Addr} {ρ1 ρ ρ' : Rh} {H1 H H' : Hp} {P : Rh → Hp → Prop} {h h' : EH} {a : α} (hP : Clo P) (t : At G A D ρ1 H1 P ρ h H a) (e : Ext (ρ.hid D) H ρ' H') (R : Rel G ρ' h' H') : ∃ ρ2, ρ' = ρ2.hid D ∧ At G A D ρ1 H1 P ρ2 h' H' a := by
  obtain ⟨u, l, q⟩ := t.at'
  have l' := stay_hid e t.out l
  have sx := e.sx
  obtain ⟨ρ2, rfl, e2⟩ := e.hidden
  exact ⟨ρ2, rfl, ⟨t.ext.trans e2, R, e2.toMo.nin t.out l, ⟨u, l', A.mono sx.mo q⟩, hP _ _ _ _ t.pr sx⟩⟩
theorem hid_inj {ρ ρ' : Rh} {D : Addr} (e : ρ.hid D = ρ'.hid D) : ρ = ρ' := by
  cases ρ; cases ρ'
  simp only [Rh.hid, Rh.mk.injEq, List.cons.injEq, true_and] at e
  simp [e.1, e.2]
/-- what is made is changed -/
theorem At.push {A : Ac G α} {D : Addr} {ρ1 ρ : Rh} {H1 H : Hp} {P : Rh → Hp → Prop} {h : EH} {a a' : α} {u' : HO} (hP : Clo P) (hD : H1 D = none) (t : At G A D ρ1 H1 P ρ h H a) (q : ∀ ρ' H', Mo (ρ.hid D) H ρ' H' → A.is ρ' H' a' u') : At G A D ρ1 H1 P ρ h (upd H D u') a' := by
  obtain ⟨u, l, qu⟩ := t.at'
  have mo : Mo (ρ.hid D) H (ρ.hid D) (upd H D u') := by
    have ne : ∀ a, a ∉ (ρ.hid D).all → a ≠ D := fun a n z => n (Rh.mem_hid.mpr (.inl z))
    refine ⟨⟨[], by simp⟩, fun a m => .inl m, fun a u n _ q => ?_, fun a u n _ q => by rw [upd_ne (ne a n)]; exact q⟩
    rcases q with q | ⟨o, q⟩
    · exact .inl (by rw [upd_ne (ne a n)]; exact q)
    · exact .inr ⟨o, by rw [upd_ne (ne a n)]; exact q⟩
  have lc : ∀ a o w, H a = some (.frz o w) → upd H D u' a = some (.frz o w) := fun a o w z => by
    rw [upd_ne (fun e => A.nf qu (by rw [e, l] at z; exact Option.some.inj z))]; exact z
  have E5 := t.ext
  have R5 := t.rel
  refine ⟨⟨E5.out, E5.pre, fun a o u q => by rw [upd_ne (ne_of_none q hD)]; exact E5.lck a o u q, fun a u n q => by rw [upd_ne (ne_of_none q hD)]; exact E5.oth a u n q, fun a q => E5.dom a (upd_dom a q), E5.new⟩,
    ⟨R5.len, R5.nd, fun a m q => R5.there a m (upd_dom a q), R5.sep, fun n a o q r => (R5.obj n a o q r).move mo fun u z => by
      rw [upd_ne (fun e => t.out (Rh.mem_all.mpr (.inr (by rw [← e]; exact List.mem_of_getElem? q))))]; exact z⟩, t.out, ⟨_, upd_same, q _ _ mo⟩, hP _ _ _ _ t.pr ⟨mo, lc⟩⟩
/-- the walk of a clause -/
theorem loop_run {A : Ac G α} {D : Addr} {ρ1 : Rh} {H1 : Hp} {P : Rh → Hp → Prop} {J : It} {C : Rh → Hp → Prop} {it : IT} {tf : EV → α → EH → Y.R α} {Φ : Y.R α → Prop} {ρs : Rh} {hs : EH} {Hs : Hp} {as : α} {Qd : Hp → Prop} {Step : V → Hp → (Hp → Prop) → Prop}
    (hΦ : ¬ Φ .stuck) (hP : Clo P) (hC : ∀ ρ H, P ρ H → C ρ H) (wk : Wk G J C it) (ts : At G A D ρ1 H1 P ρs hs Hs as) (f : Φ (cI tf it as hs))
    (fin : ∀ ρ h H a, At G A D ρ1 H1 P ρ h H a → Φ (.ok a h) → Qd H)
    (step : ∀ x v ρ h H a (rest : α → EH → Y.R α) (Nx : Hp → Prop), At G A D ρ1 H1 P ρ h H a → Rep G (ρ.hid D) H x v → Φ ((Y.noExc (tf x a h)).bind rest) →
      (∀ ρ' h' H' a', At G A D ρ1 H1 P ρ' h' H' a' → Φ (rest a' h') → Nx H') → Step v H Nx) : Loop J Hs Qd Step := by
  cases it with
  | vals xs =>
    obtain ⟨wC, wS', wG'⟩ := wk
    refine ⟨fun i m H' => ∃ ρ' h' a', At G A D ρ1 H1 P ρ' h' H' a' ∧ m = xs.length - i ∧ Φ (cV tf (xs.drop i) a' h'), ⟨xs.length, ρs, hs, as, ts, rfl, f⟩, ?_⟩
    rintro i m H' ⟨ρ', h', a', t', rfl, f'⟩
    have c' := hC _ _ t'.pr
    by_cases hi : i < xs.length
    · have hx : xs[i]? = some xs[i] := List.getElem?_eq_getElem hi
      obtain ⟨go, yl⟩ := wG' (ρ'.hid D) h' H' i _ t'.rel c' hx
      refine .inr ⟨go, fun H2 => ∃ ρ2 h2 a2, At G A D ρ1 H1 P ρ2 h2 H2 a2 ∧ Φ (cV tf (xs.drop (i + 1)) a2 h2), fun H2 ⟨ρ2, h2, a2, t2, f2⟩ => ⟨_, by omega, ρ2, h2, a2, t2, rfl, f2⟩, fun v H2 y => ?_⟩
      obtain ⟨e2, R2, r2⟩ := yl v H2 y
      obtain ⟨ρ9, e9, t9⟩ := t'.step hP e2 R2
      obtain rfl := hid_inj e9
      rw [List.drop_eq_getElem_cons hi] at f'
      exact step xs[i] v ρ' h' H2 a' _ _ t9 r2 f' fun ρ2 h2 H3 a2 t2 f2 => ⟨ρ2, h2, a2, t2, f2⟩
    · have hd : xs.drop i = [] := List.drop_eq_nil_of_le (by omega)
      rw [hd] at f'
      exact .inl ⟨wS' (ρ'.hid D) h' H' i t'.rel c' (by omega), fin ρ' h' H' a' t' f'⟩
  | dyn get =>
    obtain ⟨wC, wG'⟩ := wk
    refine ⟨fun i m H' => ∃ ρ' h' a', At G A D ρ1 H1 P ρ' h' H' a' ∧ Φ (cN tf get m i a' h'), ⟨100001, ρs, hs, as, ts, f⟩, ?_⟩
    rintro i m H' ⟨ρ', h', a', t', f'⟩
    have c' := hC _ _ t'.pr
    cases m with
    | zero => exact (hΦ f').elim
    | succ m =>
      obtain ⟨gs, gi⟩ := wG' (ρ'.hid D) h' H' i t'.rel c'
      simp only [cN] at f'
      cases ex : get h' i with
      | none => rw [ex] at f'; exact (hΦ f').elim
      | some ox =>
        rw [ex] at f'
        cases ox with
        | none => exact .inl ⟨gs ex, fin ρ' h' H' a' t' f'⟩
        | some x =>
          obtain ⟨go, yl⟩ := gi x ex
          refine .inr ⟨go, fun H2 => ∃ ρ2 h2 a2, At G A D ρ1 H1 P ρ2 h2 H2 a2 ∧ Φ (cN tf get m (i + 1) a2 h2), fun H2 ⟨ρ2, h2, a2, t2, f2⟩ => ⟨m, by omega, ρ2, h2, a2, t2, f2⟩, fun v H2 y => ?_⟩
          obtain ⟨e2, R2, r2⟩ := yl v H2 y
          obtain ⟨ρ9, e9, t9⟩ := t'.step hP e2 R2
          obtain rfl := hid_inj e9
          exact step x v ρ' h' H2 a' _ _ t9 r2 f' fun ρ2 h2 H3 a2 t2 f2 => ⟨ρ2, h2, a2, t2, f2⟩
theorem noExc_bind {β : Type} {r : Y.R β} {k : β → EH → Y.R α} : (Y.noExc (r.bind k)) = (Y.noExc r).bind fun b h => Y.noExc (k b h) := by
  cases r <;> rfl
theorem bind_bind {β γ : Type} {r : Y.R β} {k : β → EH → Y.R γ} {l : γ → EH → Y.R α} : (r.bind k).bind l = r.bind fun b h => (k b h).bind l := by
  cases r <;> rfl
/-- an expression within a turn -/
theorem fin_turn {β : Type} {A : Ac G α} {D : Addr} {ρ1 : Rh} {H1 : Hp} {P : Rh → Hp → Prop} {τ1 : L2.St} {X' : Cx} {Φ : Y.R α → Prop} {ρ : Rh} {h : EH} {H : Hp} {a : α} {r : Y.R β} {k : β → EH → Y.R α} {q : β → EH → Rh → Hp → Prop}
    (hΦ : ¬ Φ .stuck) (hP : Clo P) (t : At G A D ρ1 H1 P ρ h H a) (f : Φ ((Y.noExc r).bind k)) (hq : ∀ b h2 ρ2 H2, Ext (ρ.hid D) H (ρ2.hid D) H2 → At G A D ρ1 H1 P ρ2 h2 H2 a → Φ (k b h2) → q b h2 (ρ2.hid D) H2) : FinE G X' τ1 (ρ.hid D) H r q := by
  cases r with
  | stuck => exact (hΦ f).elim
  | exc c fs h' => exact (hΦ f).elim
  | ok b h2 =>
    intro ρ' H' e R
    have e0 := e
    obtain ⟨ρ2, rfl, t2⟩ := t.step hP e R
    exact hq b h2 ρ2 H' e0 t2 f
def iB (X : Cx) (scope : Scope) (tg iter : Expr) : TI := fun σ H R => ∀ s H' C cl fp, wI (blkX X s H' scope C cl fp) tg iter σ H R
theorem turn_run {A : Ac G α} {D : Addr} {ρ1 : Rh} {H1 : Hp} {P : Rh → Hp → Prop} {Φ : Y.R α → Prop} {ρ : Rh} {h : EH} {H : Hp} {a : α} {scope : Scope} {tg : Expr} {ifs : List Expr} {vs : List Nat} {g : EV → ES → Option ES} {ft : ES → M Bool} {st : ES → α → EH → Y.R α} {σw : ES} {τ0 : L2.St} {x : EV} {v : V} {rest : α → EH → Y.R α} {Nx : Hp → Prop} {NEXT : L2.St → Hp → Prop}
    (hΦ : ¬ Φ .stuck) (hP : Clo P) (hg : ∀ s H C cl fp, RG G (blkX X s H scope C cl fp) tg vs g) (ht : ∀ s H C cl fp, RTs G (blkX X s H scope C cl fp) ifs ft)
    (t : At G A D ρ1 H1 P ρ h H a) (S : SR G (ρ.hid D) H σw (wipe τ0 vs)) (r : Rep G (ρ.hid D) H x v) (f : Φ ((Y.noExc (cT g ft st σw x a h)).bind rest))
    (nx : ∀ ρ' h' H' a', At G A D ρ1 H1 P ρ' h' H' a' → Φ (rest a' h') → Nx H')
    (hst : ∀ σ1 τ1 ρ2 h2 H2, At G A D ρ1 H1 P ρ2 h2 H2 a → SR G (ρ2.hid D) H2 σ1 τ1 → Φ ((Y.noExc (st σ1 a h2)).bind rest) → NEXT τ1 H2) :
    gB X scope tg v (wipe τ0 vs) H fun σ2 H2 => wipe σ2 vs = wipe τ0 vs ∧ tBk X scope ifs σ2 H2 fun b H3 => if b = true then NEXT σ2 H3 else Nx H3 := by
  intro s0 H0 C0 cl0 fp0
  unfold cT at f
  cases eg : g x σw with
  | none => rw [eg] at f; exact (hΦ f).elim
  | some σ1 =>
    rw [eg] at f
    refine hg s0 H0 C0 cl0 fp0 x v _ σ1 _ (ρ.hid D) H h _ t.rel S r eg fun τ2 S2 o2 => ⟨wipe_same o2, fun s3 H3' C3 cl3 fp3 => ?_⟩
    refine ht s3 H3' C3 cl3 fp3 σ1 h (ρ.hid D) τ2 H _ t.rel S2 ?_
    simp only [noExc_bind, bind_bind] at f
    refine fin_turn hΦ hP t f fun b h2 ρ2 H2 e2 t2 f2 => ?_
    cases b with
    | false => rw [if_neg (by decide)]; exact nx ρ2 h2 H2 a t2 f2
    | true => rw [if_pos rfl]; exact hst σ1 τ2 ρ2 h2 H2 t2 (S2.mono e2.toMo) f2
/-- a second clause -/
theorem in_run {A : Ac G α} {D : Addr} {ρ1 : Rh} {H1 : Hp} {P : Rh → Hp → Prop} {Φ : Y.R α → Prop} {ρ : Rh} {h : EH} {H : Hp} {a : α} {scope : Scope} {tg1 iter1 : Expr} {ifs1 : List Expr} {vs1 : List Nat} {fi1 : ES → M IT} {g1 : EV → ES → Option ES} {ft1 : ES → M Bool} {st : ES → α → EH → Y.R α} {σ2 : ES} {τ2 : L2.St} {rest : α → EH → Y.R α} {Nx : Hp → Prop} {NEXT : L2.St → Hp → (Hp → Prop) → Prop}
    (hG : G.Zf = true) (hΦ : ¬ Φ .stuck) (hP : Clo P) (hi1 : ∀ s H C cl fp, RI G (blkX X s H scope C cl fp) tg1 iter1 fi1) (hg1 : ∀ s H C cl fp, RG G (blkX X s H scope C cl fp) tg1 vs1 g1) (ht1 : ∀ s H C cl fp, RTs G (blkX X s H scope C cl fp) ifs1 ft1)
    (t : At G A D ρ1 H1 P ρ h H a) (S : SR G (ρ.hid D) H σ2 τ2) (f : Φ ((Y.noExc (sIn fi1 (fun σ2 => cT g1 ft1 st (wipeE σ2 vs1)) σ2 a h)).bind rest))
    (nx : ∀ ρ' h' H' a', At G A D ρ1 H1 P ρ' h' H' a' → Φ (rest a' h') → Nx H')
    (hst : ∀ (P1 : Rh → Hp → Prop) (Φ1 : Y.R α → Prop) (σ3 : ES) (τ3 : L2.St) (ρ3 : Rh) (h3 : EH) (H3 : Hp) (a3 : α) (rest1 : α → EH → Y.R α) (Nx1 : Hp → Prop), ¬ Φ1 .stuck → Clo P1 → At G A D ρ1 H1 P1 ρ3 h3 H3 a3 → SR G (ρ3.hid D) H3 σ3 τ3 → Φ1 ((Y.noExc (st σ3 a3 h3)).bind rest1) →
      (∀ ρ' h' H' a', At G A D ρ1 H1 P1 ρ' h' H' a' → Φ1 (rest1 a' h') → Nx1 H') → NEXT τ3 H3 Nx1) :
    iB X scope tg1 iter1 τ2 H fun J1 H4 => Loop J1 H4 Nx fun x H' Nx1 => gB X scope tg1 x (wipe τ2 vs1) H' fun σ3 H5 => wipe σ3 vs1 = wipe τ2 vs1 ∧ tBk X scope ifs1 σ3 H5 fun b H6 => if b = true then NEXT σ3 H6 Nx1 else Nx1 H6 := by
  intro s0 Hx C0 cl0 fp0
  unfold sIn at f
  simp only [noExc_bind, bind_bind] at f
  refine hi1 s0 Hx C0 cl0 fp0 σ2 h (ρ.hid D) τ2 H _ t.rel S ?_
  refine fin_turn hΦ hP t f fun it1 h3 ρ3 H3 e3 t3 f3 J1 C1 wk1 c1 => ?_
  have hCl1 : Clo C1 := by
    cases it1 with
    | vals xs => exact wk1.1
    | dyn get => exact wk1.1
  have hP1 : Clo fun ρ H => P ρ H ∧ C1 ρ H ∧ SR G ρ H (wipeE σ2 vs1) (wipe τ2 vs1) := fun ρ H ρ' H' ⟨a, b, d⟩ e => ⟨hP _ _ _ _ a e, hCl1 _ _ _ _ b e, d.mono e.mo⟩
  have t4 : At G A D ρ1 H1 (fun ρ H => P ρ H ∧ C1 ρ H ∧ SR G ρ H (wipeE σ2 vs1) (wipe τ2 vs1)) ρ3 h3 H3 a :=
    ⟨t3.ext, t3.rel, t3.out, t3.at', t3.pr, c1, (S.mono e3.toMo).wipe hG _⟩
  have hΦ1 : ¬ (fun r : Y.R α => Φ ((Y.noExc r).bind rest)) .stuck := hΦ
  refine loop_run (Φ := fun r => Φ ((Y.noExc r).bind rest)) hΦ1 hP1 (fun ρ H a => a.2.1) wk1 t4 f3 (fun ρ' h' H' a' t f' => ?_) fun x v ρ' h' H' a' rest1 Nx1 t r f' nx1 => ?_
  · exact nx ρ' h' H' a' ⟨t.ext, t.rel, t.out, t.at', t.pr.1⟩ f'
  · exact turn_run (Φ := fun r => Φ ((Y.noExc r).bind rest)) hΦ1 hP1 hg1 ht1 t t.pr.2.2 r f' nx1 fun σ3 τ3 ρ4 h4 H4 t4 S4 f4 => hst _ (fun r => Φ ((Y.noExc r).bind rest)) σ3 τ3 ρ4 h4 H4 a' rest1 Nx1 hΦ1 hP1 t4 S4 f4 nx1
/-! ### lists -/
def acL (G : Wd) : Ac G (List EV) where
  is := fun ρ H a u => ∃ vs, u = .lst vs ∧ RepL G ρ H a vs
  mono := fun m ⟨vs, e, r⟩ => ⟨vs, e, r.mono m⟩
  nf := fun ⟨vs, e, _⟩ z => by rw [e] at z; cases z
theorem lst_run {D : Addr} {ρ1 : Rh} {H1 : Hp} {P : Rh → Hp → Prop} {τ1 : L2.St} {Φ : Y.R (List EV) → Prop} {ρ : Rh} {h : EH} {H : Hp} {a : List EV} {scope : Scope} {elt : Expr} {fe : ES → M EV} {σ1 : ES} {rest : List EV → EH → Y.R (List EV)} {Nx : Hp → Prop}
    (hD : H1 D = none) (he : ∀ s H C cl fp, RE G (blkX X s H scope C cl fp) elt fe) (hΦ : ¬ Φ .stuck) (hP : Clo P)
    (t : At G (acL G) D ρ1 H1 P ρ h H a) (S : SR G (ρ.hid D) H σ1 τ1) (f : Φ ((Y.noExc (sLst fe σ1 a h)).bind rest))
    (nx : ∀ ρ' h' H' a', At G (acL G) D ρ1 H1 P ρ' h' H' a' → Φ (rest a' h') → Nx H') :
    eB X scope elt τ1 H fun y H4 => ∃ acc, H4 D = some (.lst acc) ∧ acc.length < sizeLine ∧ Nx (upd H4 D (.lst (acc ++ [y]))) := by
  intro s H' C cl fp
  unfold sLst at f
  simp only [noExc_bind, bind_bind] at f
  refine he s H' C cl fp σ1 h (ρ.hid D) τ1 H _ t.rel S ?_
  refine fin_turn hΦ hP t f fun y h2 ρ2 H2 e2 t2 f2 w rw' => ?_
  obtain ⟨u, l, vs, rfl, ra⟩ := t2.at'
  by_cases hl : Nat.blt a.length 100000 = true
  · rw [if_pos hl] at f2
    refine ⟨vs, l, by rw [← ra.length]; exact sz_lt (Nat.blt_eq.mp hl), ?_⟩
    exact nx ρ2 h2 _ (a ++ [y]) (t2.push hP hD fun ρ' H' m => ⟨_, rfl, (ra.append (.cons rw' .nil)).mono m⟩) f2
  · rw [if_neg hl] at f2
    exact (hΦ f2).elim
theorem wkClo {J : It} {C : Rh → Hp → Prop} {it : IT} (wk : Wk G J C it) : Clo C := by
  cases it with
  | vals xs => exact wk.1
  | dyn get => exact wk.1
theorem lc2_read {elt tg iter tg1 iter1 : Expr} {ifs ifs1 : List Expr} {scope : Scope} {own : List (Str × Nat)} {vs1 : List Nat} {fi fi1 : ES → M IT} {g g1 : EV → ES → Option ES} {ft ft1 : ES → M Bool} {fe : ES → M EV} (hG : G.Zf = true) (hi : RI G X tg iter fi)
    (hg : ∀ s H C cl fp, RG G (blkX X s H scope C cl fp) tg (own.map (·.2)) g) (ht : ∀ s H C cl fp, RTs G (blkX X s H scope C cl fp) ifs ft)
    (hi1 : ∀ s H C cl fp, RI G (blkX X s H scope C cl fp) tg1 iter1 fi1) (hg1 : ∀ s H C cl fp, RG G (blkX X s H scope C cl fp) tg1 vs1 g1) (ht1 : ∀ s H C cl fp, RTs G (blkX X s H scope C cl fp) ifs1 ft1) (he : ∀ s H C cl fp, RE G (blkX X s H scope C cl fp) elt fe)
    {σ : ES} {h : EH} {ρ : Rh} {τ : L2.St} {H : Hp} {Q : VK} (R : Rel G ρ h H) (S : SR G ρ H σ τ)
    (ff : FinE G X τ ρ H (lLc2 fi g ft fi1 g1 ft1 fe (own.map (·.2)) vs1 σ h) (LK G ρ H Q)) :
    tLc2 (wI X tg iter) (gB X scope tg) (tBk X scope ifs) (iB X scope tg1 iter1) (gB X scope tg1) (tBk X scope ifs1) (eB X scope elt) (own.map (·.2)) vs1 τ H Q := by
  refine hi σ h ρ τ H _ R S (FinE.imp (FinE.bind ff) fun it h1 ρ1 H1 e1 R1 f1 J C wk c => ?_)
  intro D hD
  have hD0 : H D = none := e1.dom D hD
  have hP : Clo fun ρ H => C ρ H ∧ SR G ρ H (wipeE σ (own.map (·.2))) (wipe τ (own.map (·.2))) := fun ρ H ρ' H' ⟨a, b⟩ e => ⟨wkClo wk _ _ _ _ a e, b.mono e.mo⟩
  have t0 : At G (acL G) D ρ1 H1 (fun ρ H => C ρ H ∧ SR G ρ H (wipeE σ (own.map (·.2))) (wipe τ (own.map (·.2)))) ρ1 h1 (upd H1 D (.lst [])) [] :=
    ⟨Ext.laid0 hD, R1.hid hD, R1.fresh hD, ⟨_, upd_same, [], rfl, .nil⟩, wkClo wk _ _ _ _ c (Sx.hid hD), ((S.mono e1.toMo).mono (Mo.hid hD)).wipe hG _⟩
  have hΦ : ¬ (fun r => FinE G X τ ρ1 H1 r (LK G ρ H Q)) .stuck := fun z => z
  refine loop_run (Φ := fun r => FinE G X τ ρ1 H1 r (LK G ρ H Q)) hΦ hP (fun ρ H a => a.1) wk t0 f1 (fun ρ' h' H' a' t f' => ?_) fun x v ρ' h' H' a' rest Nx t r f' nx => ?_
  · obtain ⟨u, l, vs, rfl, ra⟩ := t.at'
    exact f' ρ' H' t.ext t.rel.unhid D vs hD0 t.out l t.rel ra
  · refine turn_run (Φ := fun r => FinE G X τ ρ1 H1 r (LK G ρ H Q)) hΦ hP hg ht t t.pr.2 r f' nx fun σ2 τ2 ρ2 h2 H2 t2 S2 f2 => ?_
    exact in_run (Φ := fun r => FinE G X τ ρ1 H1 r (LK G ρ H Q)) hG hΦ hP hi1 hg1 ht1 t2 S2 f2 nx fun P1 Φ1 σ3 τ3 ρ3 h3 H3 a3 rest1 Nx1 q1 q2 q3 q4 q5 q6 => lst_run hD he q1 q2 q3 q4 q5 q6
theorem rl_lc2 {elt tg iter tg1 iter1 : Expr} {ifs ifs1 : List Expr} {scope : Scope} {own : List (Str × Nat)} {vs1 : List Nat} {pos : Pos} {fi fi1 : ES → M IT} {g g1 : EV → ES → Option ES} {ft ft1 : ES → M Bool} {fe : ES → M EV} (hG : G.Zf = true) (hN : X.N.Nodup) (hi : RI G X tg iter fi) (ok : BlkOk X.N X.env.scope scope own) (hv : ∀ i ∈ vs1, i ∈ own.map (·.2))
    (hg : ∀ s H C cl fp, RG G (blkX X s H scope C cl fp) tg (own.map (·.2)) g) (ht : ∀ s H C cl fp, RTs G (blkX X s H scope C cl fp) ifs ft)
    (hi1 : ∀ s H C cl fp, RI G (blkX X s H scope C cl fp) tg1 iter1 fi1) (hg1 : ∀ s H C cl fp, RG G (blkX X s H scope C cl fp) tg1 vs1 g1) (ht1 : ∀ s H C cl fp, RTs G (blkX X s H scope C cl fp) ifs1 ft1) (he : ∀ s H C cl fp, RE G (blkX X s H scope C cl fp) elt fe)
    (hc : X.calm = true := by rfl) (hs : ∀ x, foldedSetIterable iter X.env x = pure x := by intro _; rfl) (hs1 : ∀ env x, foldedSetIterable iter1 env x = pure x := by intro _ _; rfl) :
    RL G X (.ListComp elt [⟨tg, iter, ifs, 0⟩, ⟨tg1, iter1, ifs1, 0⟩] scope pos) (lLc2 fi g ft fi1 g1 ft1 fe (own.map (·.2)) vs1) := by
  intro σ h ρ τ H Q R S ff
  exact wE.of (pe_lc2 (wi1 := iB X scope tg1 iter1) (g := gB X scope tg) (g1 := gB X scope tg1) (tt := tBk X scope ifs) (tt1 := tBk X scope ifs1) (te := eB X scope elt) hc hN wI.pi ok hv (fun s H' C cl fp => ⟨fun pins s1 σ1 H1 v u Q1 I r q => q s H' C cl fp pins s1 u I r⟩) (fun s H' C cl fp => ⟨fun pins s1 σ1 H1 Q1 I q => q s H' C cl fp pins s1 I⟩)
    (fun s H' C cl fp => ⟨fun pins s1 σ1 H1 R1 I q => q s H' C cl fp pins s1 I⟩) (fun s H' C cl fp => ⟨fun pins s1 σ1 H1 v u Q1 I r q => q s H' C cl fp pins s1 u I r⟩) (fun s H' C cl fp => ⟨fun pins s1 σ1 H1 Q1 I q => q s H' C cl fp pins s1 I⟩)
    (fun s H' C cl fp => ⟨fun pins s1 σ1 H1 Q1 I q => q s H' C cl fp pins s1 I⟩) hs hs1) (lc2_read hG hi hg ht hi1 hg1 ht1 he R S ff)
theorem rs_setLc2A {i : Nat} {y : Str} {py : Pos} {elt tg iter tg1 iter1 : Expr} {ifs ifs1 : List Expr} {scope : Scope} {own : List (Str × Nat)} {vs1 : List Nat} {pos spos : Pos} {fi fi1 : ES → M IT} {g g1 : EV → ES → Option ES} {ft ft1 : ES → M Bool} {fe : ES → M EV} (hG : G.Zf = true) (hN : X.N.Nodup)
    (hsw : swapsWith (.ListComp elt [⟨tg, iter, ifs, 0⟩, ⟨tg1, iter1, ifs1, 0⟩] scope pos) (some (.Name y py)) spos.line X.env = pure true) (hi : RI G X tg iter fi) (ok : BlkOk X.N X.env.scope scope own) (hv : ∀ i ∈ vs1, i ∈ own.map (·.2))
    (hg : ∀ s H C cl fp, RG G (blkX X s H scope C cl fp) tg (own.map (·.2)) g) (ht : ∀ s H C cl fp, RTs G (blkX X s H scope C cl fp) ifs ft)
    (hi1 : ∀ s H C cl fp, RI G (blkX X s H scope C cl fp) tg1 iter1 fi1) (hg1 : ∀ s H C cl fp, RG G (blkX X s H scope C cl fp) tg1 vs1 g1) (ht1 : ∀ s H C cl fp, RTs G (blkX X s H scope C cl fp) ifs1 ft1) (he : ∀ s H C cl fp, RE G (blkX X s H scope C cl fp) elt fe)
    (hy : X.N[i]? = some y := by rfl) (hyl : X.env.scope.names.lookup y = some .local := by rfl) (hc : X.calm = true := by rfl) (hs : ∀ x, foldedSetIterable iter X.env x = pure x := by intro _; rfl) (hs1 : ∀ env x, foldedSetIterable iter1 env x = pure x := by intro _ _; rfl) :
    RS G X (.Assign [.Name y py] (.ListComp elt [⟨tg, iter, ifs, 0⟩, ⟨tg1, iter1, ifs1, 0⟩] scope pos) spos) (sSet (gN i) (eAny (lLc2 fi g ft fi1 g1 ft1 fe (own.map (·.2)) vs1))) := by
  intro σ h ρ τ H D R S ff
  refine wS.of (ps_setLc2 (wi1 := iB X scope tg1 iter1) (g := gB X scope tg) (g1 := gB X scope tg1) (tt := tBk X scope ifs) (tt1 := tBk X scope ifs1) (te := eB X scope elt) hc hN hy hyl hsw wI.pi ok hv (fun s H' C cl fp => ⟨fun pins s1 σ1 H1 v u Q1 I r q => q s H' C cl fp pins s1 u I r⟩) (fun s H' C cl fp => ⟨fun pins s1 σ1 H1 Q1 I q => q s H' C cl fp pins s1 I⟩)
    (fun s H' C cl fp => ⟨fun pins s1 σ1 H1 R1 I q => q s H' C cl fp pins s1 I⟩) (fun s H' C cl fp => ⟨fun pins s1 σ1 H1 v u Q1 I r q => q s H' C cl fp pins s1 u I r⟩) (fun s H' C cl fp => ⟨fun pins s1 σ1 H1 Q1 I q => q s H' C cl fp pins s1 I⟩)
    (fun s H' C cl fp => ⟨fun pins s1 σ1 H1 Q1 I q => q s H' C cl fp pins s1 I⟩) hs hs1) ?_
  refine lc2_read (Q := fun x H1 => gName i x τ H1 D.nx) hG hi hg ht hi1 hg1 ht1 he R S ?_
  refine FinE.mapOk (FinS.fl S ff) fun xs h1 ρ1 H1 e1 R1 f1 p vs hp m l Rp r => ?_
  unfold anyL at f1
  split at f1
  · rename_i ps ep
    have rp : Rep G ρ1 H1 (.p (.lst ps)) (.ref p) := .p (.lst ⟨m, l⟩ ((r.plain ep).mono Mo.unhid))
    exact f1 ρ1 H1 e1 R1 _ _ _ Ext.refl R1 ((S.mono e1.toMo).set hG rp)
  · have e2 := e1.adopt hp
    have R2 := Rp.adopt m l r
    have rp : Rep G (ρ1.add p) H1 (.ref h1.length) (.ref p) := .ref (by
      simp only [Rh.add]
      rw [← R1.len, List.getElem?_append_right (Nat.le_refl _)]
      simp)
    exact f1 (ρ1.add p) H1 e2 R2 _ _ _ Ext.refl R2 ((S.mono e2.toMo).set hG rp)
/-! ### dicts -/
def acD (G : Wd) : Ac G PE' where
  is := fun ρ H a u => ∃ ws, u = .dK ws ∧ RepP keyOf G ρ H a ws
  mono := fun m ⟨vs, e, r⟩ => ⟨vs, e, r.mono m⟩
  nf := fun ⟨vs, e, _⟩ z => by rw [e] at z; cases z
def DK' (G : Wd) (ρ : Rh) (H : Hp) (Q : VK) : PE' → EH → Rh → Hp → Prop := fun kvs h' ρ' H' => ∀ p ws, H p = none → p ∉ ρ'.all → H' p = some (.dK ws) → Rel G (ρ'.hid p) h' H' → RepP keyOf G (ρ'.hid p) H' kvs ws → Q (.ref p) H'
variable (G X) in
def RQ (e : Expr) (f : ES → M PE') : Prop := ∀ (σ : ES) (h : EH) (ρ : Rh) (τ : L2.St) (H : Hp) (Q : VK), Rel G ρ h H → SR G ρ H σ τ →
  FinE G X τ ρ H (f σ h) (DK' G ρ H Q) → wE X e τ H Q
theorem RepP.leng {κ : Type} {kf : PV → Option κ} {ρ : Rh} {H : Hp} : ∀ {xs : List (PV × EV)} {vs : List (κ × V)}, RepP kf G ρ H xs vs → xs.length = vs.length
  | _, _, .nil => rfl
  | _, _, .cons _ _ b => by simp [RepP.leng b]
theorem dic_run {D : Addr} {ρ1 : Rh} {H1 : Hp} {P : Rh → Hp → Prop} {τ1 : L2.St} {Φ : Y.R PE' → Prop} {ρ : Rh} {h : EH} {H : Hp} {a : PE'} {scope : Scope} {kx vx : Expr} {fk fe : ES → M EV} {σ1 : ES} {rest : PE' → EH → Y.R PE'} {Nx : Hp → Prop}
    (hD : H1 D = none) (hk : ∀ s H C cl fp, RE G (blkX X s H scope C cl fp) kx fk) (he : ∀ s H C cl fp, RE G (blkX X s H scope C cl fp) vx fe) (hΦ : ¬ Φ .stuck) (hP : Clo P)
    (t : At G (acD G) D ρ1 H1 P ρ h H a) (S : SR G (ρ.hid D) H σ1 τ1) (f : Φ ((Y.noExc (sDic fk fe σ1 a h)).bind rest))
    (nx : ∀ ρ' h' H' a', At G (acD G) D ρ1 H1 P ρ' h' H' a' → Φ (rest a' h') → Nx H') :
    eB X scope kx τ1 H fun y H4 => eB X scope vx τ1 H4 fun z H5 => ∃ kvs k, y = kV k ∧ H5 D = some (.dK kvs) ∧ kvs.length < sizeLine ∧ Nx (upd H5 D (.dK (putK kvs k z))) := by
  intro s H' C cl fp
  unfold sDic at f
  simp only [noExc_bind, bind_bind] at f
  refine hk s H' C cl fp σ1 h (ρ.hid D) τ1 H _ t.rel S ?_
  refine fin_turn hΦ hP t f fun y h2 ρ2 H2 e2 t2 f2 w rw' => ?_
  intro s2 H2' C2 cl2 fp2
  refine he s2 H2' C2 cl2 fp2 σ1 h2 (ρ2.hid D) τ1 H2 _ t2.rel (S.mono e2.toMo) ?_
  refine fin_turn hΦ hP t2 f2 fun z h3 ρ3 H3 e3 t3 f3 u ru => ?_
  obtain ⟨_, l, ws, rfl, ra⟩ := t3.at'
  unfold dcPut at f3
  split at f3
  · rename_i kp
    cases ek : keyOf kp with
    | none => rw [ek] at f3; exact (hΦ f3).elim
    | some κ =>
      rw [ek] at f3
      dsimp only at f3
      by_cases hl : Nat.blt a.length 100000 = true
      · rw [if_pos hl] at f3
        have rk := rep_p rw'
        obtain rfl := key_rep rk ek
        refine ⟨ws, κ, rfl, l, by rw [← ra.leng]; exact sz_lt (Nat.blt_eq.mp hl), ?_⟩
        exact nx ρ3 h3 _ _ (t3.push hP hD fun ρ' H' m => ⟨_, rfl, (RepP.put (kf := keyOf) (fun a b k j => keq_iff) ek rk.kok ra ru).mono m⟩) f3
      · rw [if_neg hl] at f3
        exact (hΦ f3).elim
  · exact (hΦ f3).elim
theorem rq_dc {kx vx tg iter : Expr} {ifs : List Expr} {scope : Scope} {own : List (Str × Nat)} {pos : Pos} {fi : ES → M IT} {g : EV → ES → Option ES} {ft : ES → M Bool} {fk fe : ES → M EV} (hG : G.Zf = true) (hN : X.N.Nodup) (hi : RI G X tg iter fi) (ok : BlkOk X.N X.env.scope scope own)
    (hg : ∀ s H C cl fp, RG G (blkX X s H scope C cl fp) tg (own.map (·.2)) g) (ht : ∀ s H C cl fp, RTs G (blkX X s H scope C cl fp) ifs ft) (hk : ∀ s H C cl fp, RE G (blkX X s H scope C cl fp) kx fk) (he : ∀ s H C cl fp, RE G (blkX X s H scope C cl fp) vx fe)
    (hc : X.calm = true := by rfl) (hs : ∀ x, foldedSetIterable iter X.env x = pure x := by intro _; rfl) : RQ G X (.DictComp kx vx [⟨tg, iter, ifs, 0⟩] scope pos) (qDc fi g ft fk fe (own.map (·.2))) := by
  intro σ h ρ τ H Q R S ff
  refine wE.of (pe_dc (g := gB X scope tg) (tt := tBk X scope ifs) (tk := eB X scope kx) (tv := eB X scope vx) hc hN wI.pi ok (fun s H' C cl fp => ⟨fun pins s1 σ1 H1 v u Q1 I r q => q s H' C cl fp pins s1 u I r⟩) (fun s H' C cl fp => ⟨fun pins s1 σ1 H1 Q1 I q => q s H' C cl fp pins s1 I⟩)
    (fun s H' C cl fp => ⟨fun pins s1 σ1 H1 Q1 I q => q s H' C cl fp pins s1 I⟩) (fun s H' C cl fp => ⟨fun pins s1 σ1 H1 Q1 I q => q s H' C cl fp pins s1 I⟩) hs) ?_
  refine hi σ h ρ τ H _ R S (FinE.imp (FinE.bind ff) fun it h1 ρ1 H1 e1 R1 f1 J C wk c => ?_)
  intro D hD
  have hD0 : H D = none := e1.dom D hD
  have hP : Clo fun ρ H => C ρ H ∧ SR G ρ H (wipeE σ (own.map (·.2))) (wipe τ (own.map (·.2))) := fun ρ H ρ' H' ⟨a, b⟩ e => ⟨wkClo wk _ _ _ _ a e, b.mono e.mo⟩
  have t0 : At G (acD G) D ρ1 H1 (fun ρ H => C ρ H ∧ SR G ρ H (wipeE σ (own.map (·.2))) (wipe τ (own.map (·.2)))) ρ1 h1 (upd H1 D (.dK [])) [] :=
    ⟨Ext.laid0 hD, R1.hid hD, R1.fresh hD, ⟨_, upd_same, [], rfl, .nil⟩, wkClo wk _ _ _ _ c (Sx.hid hD), ((S.mono e1.toMo).mono (Mo.hid hD)).wipe hG _⟩
  have hΦ : ¬ (fun r => FinE G X τ ρ1 H1 r (DK' G ρ H Q)) .stuck := fun z => z
  refine loop_run (Φ := fun r => FinE G X τ ρ1 H1 r (DK' G ρ H Q)) hΦ hP (fun ρ H a => a.1) wk t0 f1 (fun ρ' h' H' a' t f' => ?_) fun x v ρ' h' H' a' rest Nx t r f' nx => ?_
  · obtain ⟨u, l, vs, rfl, ra⟩ := t.at'
    exact f' ρ' H' t.ext t.rel.unhid D vs hD0 t.out l t.rel ra
  · exact turn_run (Φ := fun r => FinE G X τ ρ1 H1 r (DK' G ρ H Q)) hΦ hP hg ht t t.pr.2 r f' nx fun σ2 τ2 ρ2 h2 H2 t2 S2 f2 => dic_run (Φ := fun r => FinE G X τ ρ1 H1 r (DK' G ρ H Q)) hD hk he hΦ hP t2 S2 f2 nx
end
end Y
end

section
set_option maxHeartbeats 1000000
/-! Y6: a comprehension of two clauses that makes a dict; its rule; a made dict as a value. -/
namespace Y
open PySem PySem.Spec PyProof.Rows L2
/-- its turns, as the model says them -/
theorem dc2_outer (kx vx ta ia tb ib : Expr) (fa fb : List Expr) (sc : Scope) (pp : Pos) (it acc : Value) (en : Env) :
    compTurn (.DictComp kx vx [⟨ta, ia, fa, 0⟩, ⟨tb, ib, fb, 0⟩] sc pp) 0 it acc en = (do
      standAt ia.pos
      match ← pyNext it with
      | none => pure (.done .next)
      | some got =>
        letOwnedTupleGo ta it got
        assign ta en got
        let mut fine := true
        for c in fa do
          if fine then fine ← isTrue c en (eval c en)
        if fine then
          let src ← eval ib en
          standAt ib.pos
          let src ← foldedSetIterable ib en src
          let _ ← runOwn (.compStart (.DictComp kx vx [⟨ta, ia, fa, 0⟩, ⟨tb, ib, fb, 0⟩] sc pp) 1 (← holding [src] (pyIter src)) acc en) en
        again (.compLoop (.DictComp kx vx [⟨ta, ia, fa, 0⟩, ⟨tb, ib, fb, 0⟩] sc pp) 0 it acc en)) := by rfl
theorem dc2_inner (kx vx ta ia tb ib : Expr) (fa fb : List Expr) (sc : Scope) (pp : Pos) (it : Value) (D : Addr) (en : Env) :
    compTurn (.DictComp kx vx [⟨ta, ia, fa, 0⟩, ⟨tb, ib, fb, 0⟩] sc pp) 1 it (.ref D) en = (do
      standAt ib.pos
      match ← pyNext it with
      | none => pure (.done .next)
      | some got =>
        letOwnedTupleGo tb it got
        assign tb en got
        let mut fine := true
        for c in fb do
          if fine then fine ← isTrue c en (eval c en)
        if fine then
          (do
            let key ← eval kx en
            let val ← holding [key] (eval vx en)
            standAt { kx.pos with endLine := vx.pos.endLine, endCol := vx.pos.endCol }
            holding [key, val] (dictSet D key val))
        again (.compLoop (.DictComp kx vx [⟨ta, ia, fa, 0⟩, ⟨tb, ib, fb, 0⟩] sc pp) 1 it (.ref D) en)) := by rfl
section
variable {prog : Program} {w : World} {A : Around} {R : Result → Shared → Prop} {s : Shared} {kx vx ta ia tb ib : Expr} {fa fb : List Expr} {sc : Scope} {pp : Pos} {it acc : Value} {D : Addr} {en : Env}
abbrev Nb (prog : Program) (w : World) (A : Around) (R : Result → Shared → Prop) (en : Env) : Value → Shared → Prop := notedBy (model prog w) A en fun e s' => R (.error e) s'
abbrev tests (fs : List Expr) (en : Env) : Sem Bool := forIn fs true fun c r => if r = true then do let ok ← isTrue c en (eval c en); pure (ForInStep.yield ok) else pure (ForInStep.yield r)
theorem dc2_loop0 (fold : ∀ x, foldedSetIterable ib en x = pure x) (W : Nat → Shared → Prop)
    (turn : ∀ n s, W n s → wpAny (model prog w) A (pyNext it) (fun r sa => match r with
      | none => R (.ok .next) sa
      | some got => wpAny (model prog w) A (letOwnedTupleGo ta it got) (fun _ sb => wpAny (model prog w) A (assign ta en got) (fun _ sd => wpAny (model prog w) A (tests fa en) (fun fine se =>
            if fine = true then wpAny (model prog w) A (eval ib en) (fun src sf => wpAny (model prog w) A (pyIter src) (fun it1 sg =>
              codeAny (model prog w) A (.compStart (.DictComp kx vx [⟨ta, ia, fa, 0⟩, ⟨tb, ib, fb, 0⟩] sc pp) 1 it1 acc en) (fun r s' => match r with
                | .ok _ => ∃ m, m < n ∧ W m s'
                | .error _ => False) sg) (Nb prog w A R en) sf) (Nb prog w A R en) se
            else ∃ m, m < n ∧ W m se) (Nb prog w A R en) sd) (Nb prog w A R en) sb) (Nb prog w A R en) sa) (Nb prog w A R en) s)
    (n : Nat) (h : W n s) : codeAny (model prog w) A (.compLoop (.DictComp kx vx [⟨ta, ia, fa, 0⟩, ⟨tb, ib, fb, 0⟩] sc pp) 0 it acc en) R s := by
  refine codeAny_loop rfl W (fun n s hW => ?_) n h
  show wpAny _ A ((compTurn (.DictComp kx vx [⟨ta, ia, fa, 0⟩, ⟨tb, ib, fb, 0⟩] sc pp) 0 it acc en).onRaise (fun x => do noteFrame x en; theTreesLotGoes x)) _ _ s
  refine wpAny_noted ?_
  rw [dc2_outer]
  refine wpAny_bind (wpAny_standAt (wpAny_bind (wpAny_mono (turn n s hW) (fun r sa ha => ?_) fun _ _ z => z)))
  cases r with
  | none => exact wpAny_pure ha
  | some got =>
    refine wpAny_bind (wpAny_mono ha (fun _ sb hb => wpAny_bind (wpAny_mono hb (fun _ sd hd => wpAny_bind (wpAny_mono hd (fun fine se he => ?_) fun _ _ z => z)) fun _ _ z => z)) fun _ _ z => z)
    cases fine with
    | false => exact wpAny_pure ⟨rfl, he⟩
    | true =>
      refine wpAny_bind (wpAny_mono he (fun src sf hf => wpAny_bind (wpAny_standAt (wpAny_bind (wpAny_of_eq (fold src) (wpAny_bind (wpAny_holding (wpAny_mono hf (fun it1 sg hg => ?_) fun _ _ z => z))))))) fun _ _ z => z)
      refine wpAny_bind (wpAny_runOwn ?_)
      rw [Around.mark_none]
      refine codeAny_mono hg fun r s' hr => ?_
      cases r with
      | ok f => first | exact wpAny_pure ⟨rfl, hr⟩ | exact wpAny_bind (wpAny_pure (wpAny_pure ⟨rfl, hr⟩))
      | error e => exact hr.elim
theorem dc2_loop1 (W : Nat → Shared → Prop)
    (turn : ∀ n s, W n s → wpAny (model prog w) A (pyNext it) (fun r sa => match r with
      | none => R (.ok .next) sa
      | some got => wpAny (model prog w) A (letOwnedTupleGo tb it got) (fun _ sb => wpAny (model prog w) A (assign tb en got) (fun _ sd => wpAny (model prog w) A (tests fb en) (fun fine se =>
            if fine = true then wpAny (model prog w) A (eval kx en) (fun key sf => wpAny (model prog w) A (eval vx en) (fun val sg =>
              wpAny (model prog w) A (dictSet D key val) (fun _ si => ∃ m, m < n ∧ W m si) (Nb prog w A R en) sg) (Nb prog w A R en) sf) (Nb prog w A R en) se
            else ∃ m, m < n ∧ W m se) (Nb prog w A R en) sd) (Nb prog w A R en) sb) (Nb prog w A R en) sa) (Nb prog w A R en) s)
    (n : Nat) (h : W n s) : codeAny (model prog w) A (.compLoop (.DictComp kx vx [⟨ta, ia, fa, 0⟩, ⟨tb, ib, fb, 0⟩] sc pp) 1 it (.ref D) en) R s := by
  refine codeAny_loop rfl W (fun n s hW => ?_) n h
  show wpAny _ A ((compTurn (.DictComp kx vx [⟨ta, ia, fa, 0⟩, ⟨tb, ib, fb, 0⟩] sc pp) 1 it (.ref D) en).onRaise (fun x => do noteFrame x en; theTreesLotGoes x)) _ _ s
  refine wpAny_noted ?_
  rw [dc2_inner]
  refine wpAny_bind (wpAny_standAt (wpAny_bind (wpAny_mono (turn n s hW) (fun r sa ha => ?_) fun _ _ z => z)))
  cases r with
  | none => exact wpAny_pure ha
  | some got =>
    refine wpAny_bind (wpAny_mono ha (fun _ sb hb => wpAny_bind (wpAny_mono hb (fun _ sd hd => wpAny_bind (wpAny_mono hd (fun fine se he => ?_) fun _ _ z => z)) fun _ _ z => z)) fun _ _ z => z)
    cases fine with
    | false => exact wpAny_pure ⟨rfl, he⟩
    | true =>
      exact wpAny_bind (wpAny_bind (wpAny_mono he (fun key sf hf => wpAny_bind (wpAny_holding (wpAny_mono hf (fun val sg hg => wpAny_bind (wpAny_standAt (wpAny_holding (wpAny_mono hg (fun _ si hi => wpAny_pure ⟨rfl, hi⟩) fun _ _ z => z)))) fun _ _ z => z))) fun _ _ z => z))
theorem dc2_start (h0 : codeAny (model prog w) A (.compLoop (.DictComp kx vx [⟨ta, ia, fa, 0⟩, ⟨tb, ib, fb, 0⟩] sc pp) 1 it acc en) R s)
    (h : wpAny (model prog w) A (pyIter it) (fun it2 s' => codeAny (model prog w) A (.compLoop (.DictComp kx vx [⟨ta, ia, fa, 0⟩, ⟨tb, ib, fb, 0⟩] sc pp) 1 it2 acc en) R s') (Nb prog w A R en) s) :
    codeAny (model prog w) A (.compStart (.DictComp kx vx [⟨ta, ia, fa, 0⟩, ⟨tb, ib, fb, 0⟩] sc pp) 1 it acc en) R s := by
  refine codeAny_of_tree ?_
  show wpAny _ _ ((compStart (.DictComp kx vx [⟨ta, ia, fa, 0⟩, ⟨tb, ib, fb, 0⟩] sc pp) 1 it acc en).onRaise (fun x => do noteFrame x en; standAt theWindowsPlace)) _ _ s
  refine wpAny_notedAt ?_
  unfold compStart
  show wpAny _ _ (ask >>= _) _ _ s
  refine wpAny_bind (wpAny_askSetting (wpAny_ite ?_))
  split
  · first | exact wpAny_bind (wpAny_pure (wpAny_pure (And.intro rfl h0))) | exact wpAny_pure (And.intro rfl h0)
  · first
      | exact wpAny_bind (wpAny_rule (wpAny_bind (wpAny_standAt (wpAny_bind (wpAny_mono h (fun it2 s2 h2 => wpAny_pure (And.intro rfl h2)) fun _ _ z => z)))))
      | (refine wpAny_bind (wpAny_rule ?_); show wpAny _ _ (standAt ib.pos >>= _) _ _ s; exact wpAny_bind (wpAny_standAt (wpAny_bind (wpAny_mono h (fun it2 s2 h2 => wpAny_pure (And.intro rfl h2)) fun _ _ z => z))))
end
section
variable {X : Cx}
/-- what it asks: vs the block's names, ws those of the second target -/
def tDc2 (wa : TI) (ga : TG) (ca : TT) (wb : TI) (gb : TG) (cb : TT) (tk tv : TE) (vs ws : List Nat) : TE := fun σ H Q => wa σ H fun J H1 => ∀ D, H1 D = none → Loop J (upd H1 D (.dK [])) (fun H => Q (.ref D) H) fun x H' Nx => ga x (wipe σ vs) H' fun σ2 H2 => wipe σ2 vs = wipe σ vs ∧ ca σ2 H2 fun b H3 =>
    if b = true then wb σ2 H3 fun J1 H4 => Loop J1 H4 Nx fun x H' Nx1 => gb x (wipe σ2 ws) H' fun σ3 H5 => wipe σ3 ws = wipe σ2 ws ∧ cb σ3 H5 fun b H6 =>
        if b = true then tk σ3 H6 fun y H7 => tv σ3 H7 fun z H8 => ∃ kvs k, y = kV k ∧ H8 D = some (.dK kvs) ∧ kvs.length < sizeLine ∧ Nx1 (upd H8 D (.dK (putK kvs k z))) else Nx1 H6
    else Nx H3
abbrev InB (X : Cx) (sc : Scope) (K : Cx → Prop) : Prop := ∀ (s : Shared) (H : Hp) (C : Addr) (cl : List (Str × Addr)) (fp : List Addr), K (X.blk s H sc (compEnvC sc cl C X.env) fp)
theorem dc2_core {pins : List (Addr × Obj)} {s : Shared} {σ : L2.St} {H : Hp} {Q : VK} {kx vx ta ia tb ib : Expr} {fa fb : List Expr} {sc : Scope} {own : List (Str × Nat)} {ws : List Nat} {pp pq : Pos} {wa wb : TI} {ga gb : TG} {ca cb : TT} {tk tv : TE} {use : Option (Value → Sem Unit)} {Qf : Value → Shared → Prop}
    (hc : X.calm = true) (hN : X.N.Nodup) (I : Inv X pins σ H s) (pia : PI X ta ia wa) (ok : BlkOk X.N X.env.scope sc own) (hv : ∀ i ∈ ws, i ∈ own.map (·.2))
    (pga : InB X sc fun Y => PG Y ta ga) (pca : InB X sc fun Y => PTs Y fa ca) (pib : InB X sc fun Y => PI Y tb ib wb) (pgb : InB X sc fun Y => PG Y tb gb) (pcb : InB X sc fun Y => PTs Y fb cb) (pk : InB X sc fun Y => PE Y kx tk) (pv : InB X sc fun Y => PE Y vx tv)
    (hs : ∀ x, foldedSetIterable ia X.env x = pure x) (hs1 : ∀ env x, foldedSetIterable ib env x = pure x) (h : tDc2 wa ga ca wb gb cb tk tv (own.map (·.2)) ws σ H Q)
    (out : ∀ D C s' m H', Inv X pins σ H' s' → Q (.ref D) H' → s'.heap.Ns C m → FpOk X pins H' C → compPost (model X.prog X.w) X.A X.xe use Qf (.ref D) C (.ok .next) s') :
    wpAny (model X.prog X.w) X.A (comprehension (.DictComp kx vx [⟨ta, ia, fa, 0⟩, ⟨tb, ib, fb, 0⟩] sc pp) sc X.env pq newDict false (eval ia X.env) use) Qf X.xe s := by
  have free : ∀ y ∈ sc.names, y.2 = .free → ∃ c, X.env.cells.lookup y.1 = some c := fun y hy e => by
    rcases ok.free y hy e with q | q
    · exact I.ok.has _ (.inl q)
    · exact I.ok.has _ (.inr q)
  refine wpAny_comprehension_free (use := use) rfl hs (closure_ok free) ok.kind (fun y hy e => by rw [ok.uniq y hy, e]) (thn (pia.run pins s σ H _ I h) fun av sA hA => thn hA fun iv sB hB => ?_)
  obtain ⟨it, fp, tn, J, HB, e, IB, T, stB, fpB, q⟩ := hB
  subst e
  refine wpAny_newObj_type (newEnv_comp ?_)
  generalize eD : sB.heap.objs.size = D
  have nD : HB D = none := IB.hok.fresh (Nat.le_of_eq eD)
  obtain ⟨W, ⟨mm, wm⟩, turn⟩ := q D nD
  generalize eC : ({ sB with heap := sB.heap.push { cls := .type "dict", data := .dict #[] } } : Shared) = sC
  have IC : Inv X pins σ (upd HB D (.dK [])) sC := by
    rw [← eC]
    refine IB.laid (t' := sB.toks) (fun b o e => Heap.get?_push_of_some _ e) (Nat.le_of_eq eD) ?_
    rw [← eD]
    exact dk_empty sB.heap IB.big
  have hpC : sC.heap = sB.heap.push { cls := .type "dict", data := .dict #[] } := by rw [← eC]
  have small : ∀ b ∈ fp, b < sB.heap.objs.size := fun b hb => by
    obtain ⟨o, e, _⟩ := T.obj _ _ stB b hb
    exact Heap.lt_size e
  have fpC : ∀ b ∈ fp, FpOk X pins (upd HB D (.dK [])) b ∧ b < sC.heap.objs.size := fun b hb => by
    have lt := small b hb
    refine ⟨⟨?_, (fpB b hb).2⟩, by rw [hpC, Heap.size_push]; exact Nat.lt_succ_of_lt lt⟩
    rw [upd_ne (by rw [← eD]; exact Nat.ne_of_lt lt)]
    exact (fpB b hb).1
  have stC : tn 0 sC.heap := T.keep _ _ _ stB fun b _ o e => by rw [hpC]; exact Heap.get?_push_of_some _ e
  have IE := block_start IC ok hN fpC
  have none0 : ∀ b ∈ fp, (upd HB D (.dK [])) b = none := fun b hb => (fpC b hb).1.1
  let cls := cellsFrom (sC.heap.objs.size + 1) sc.names (cloFrom X.env.cells sc.names [])
  have q1 := pga sC (upd HB D (.dK [])) sC.heap.objs.size cls fp
  have q2 := pca sC (upd HB D (.dK [])) sC.heap.objs.size cls fp
  have q3 := pib sC (upd HB D (.dK [])) sC.heap.objs.size cls fp
  have q4 := pgb sC (upd HB D (.dK [])) sC.heap.objs.size cls fp
  have q5 := pcb sC (upd HB D (.dK [])) sC.heap.objs.size cls fp
  have q6 := pk sC (upd HB D (.dK [])) sC.heap.objs.size cls fp
  have q7 := pv sC (upd HB D (.dK [])) sC.heap.objs.size cls fp
  show codeAny _ _ (.compStart (.DictComp kx vx [⟨ta, ia, fa, 0⟩, ⟨tb, ib, fb, 0⟩] sc pp) 0 (.ref it) (.ref D) (compEnvC sc cls sC.heap.objs.size X.env)) (compPost (model X.prog X.w) X.A X.xe use Qf (.ref D) sC.heap.objs.size) { sC with heap := pushCells (sC.heap.push { cls := .type "dict", data := .dict #[] }) sc.names }
  generalize ece : compEnvC sc cls sC.heap.objs.size X.env = en at q1 q2 q3 q4 q5 q6 q7 ⊢
  have IE : Inv (X.blk sC (upd HB D (.dK [])) sc en fp) [] (wipe σ (own.map (·.2))) (upd HB D (.dK [])) { sC with heap := pushCells (sC.heap.push { cls := .type "dict", data := .dict #[] }) sc.names } := by
    rw [← ece]; exact IE
  have enL : en.locals = sC.heap.objs.size := by rw [← ece]; rfl
  generalize eH : upd HB D (.dK []) = HC at IC IE q1 q2 q3 q4 q5 q6 q7 wm none0 fpC
  generalize eE : ({ sC with heap := pushCells (sC.heap.push { cls := .type "dict", data := .dict #[] }) sc.names } : Shared) = sE at IE ⊢
  have stE : tn 0 sE.heap := T.keep _ _ _ stC fun b _ o e => by rw [← eE]; exact pushCells_keeps _ _ _ _ (Heap.get?_push_of_some _ e)
  have stat : ∀ {τ : L2.St} {H' : Hp} {s' : Shared}, Inv (X.blk sC HC sc en fp) [] τ H' s' → (∀ b ∈ fp, H' b = none) → ∀ b ∈ fp, FpOk (X.blk sC HC sc en fp) [] H' b := fun {τ H' s'} I' hn b hb =>
    ⟨hn b hb, (I'.ok.exf b hb).1, I'.ok.exfs b hb, .inl hb, fun x c e => (I'.ok.exf b hb).2 x c e, fun p hp => absurd (show p ∈ ([] : List (Addr × Obj)) ++ [] from hp) (by simp)⟩
  -- how the first clause's loop stands
  let Out : Nat → Shared → Prop := fun n s' => ∃ i H', Inv (X.blk sC HC sc en fp) [] (wipe σ (own.map (·.2))) H' s' ∧ tn i s'.heap ∧ (∀ b ∈ fp, H' b = none) ∧ W i n H'
  have loop : codeAny (model X.prog X.w) X.A (.compLoop (.DictComp kx vx [⟨ta, ia, fa, 0⟩, ⟨tb, ib, fb, 0⟩] sc pp) 0 (.ref it) (.ref D) en) (compPost (model X.prog X.w) X.A X.xe use Qf (.ref D) sC.heap.objs.size) sE := by
    refine dc2_loop0 (hs1 en) Out ?_ mm ⟨0, HC, IE, stE, none0, wm⟩
    rintro n sF ⟨i, HF, IF, stF, nF, wF⟩
    rcases turn i n HF wF with ⟨stop, qq⟩ | ⟨go, Nx, hNx, step⟩
    · refine thnF (T.done (X.blk sC HC sc en fp) rfl rfl rfl hc i [] sF _ HF (fun _ _ => False) IF (stat IF nF) stF stop) fun r sG ⟨hr, IG⟩ => ?_
      subst hr
      have IX : Inv X pins σ HF sG := IC.call' (ch := fp) IG.os IG.base IG.hok IG.bare fun b hb => ⟨(fpC b hb).1.2.2.2.1, (fpC b hb).1.2.1, (fpC b hb).1.2.2.2.2.1, (fpC b hb).1.2.2.2.2.2⟩
      have nC : HF sC.heap.objs.size = none := by
        have z : HF en.locals = none := IG.free
        rwa [enL] at z
      obtain ⟨m, hn, _⟩ := IG.loc
      have hn : sG.heap.Ns en.locals m := hn
      rw [enL] at hn
      exact out D sC.heap.objs.size sG m HF IX qq hn (IC.fpOk (Nat.le_refl _) nC)
    · refine thnF (T.item (X.blk sC HC sc en fp) rfl rfl rfl hc i [] sF _ HF (fun _ _ => False) IF (stat IF nF) stF go) fun r sG ⟨u, hr, hG⟩ => ?_
      subst hr
      refine thnF hG fun _ sH ⟨x, HH, IH, rH, yH, stH, nH⟩ => ?_
      refine thnF (q1.run _ sH _ HH x u _ (IH.pinned (stat IH nH) (T.obj _ _ stH)) rH (step x HH yH)) fun _ sI ⟨σI, HI, II, wI', qI⟩ => ?_
      refine thnF (q2.run _ sI σI HI _ II qI) fun b sJ ⟨HJ, IJ, qJ⟩ => ?_
      -- a turn of the first clause ends
      have fin : ∀ {τ : L2.St} {s' : Shared} {H' : Hp}, Inv (X.blk sC HC sc en fp) ([] ++ pinsAt fp sH.heap) τ H' s' → (wipe σ (own.map (·.2))).length = τ.length → (∀ (j : Nat) v, (wipe σ (own.map (·.2)))[j]? = some (some v) → τ[j]? = some (some v)) → Nx H' → ∃ m, m < n ∧ Out m s' := fun {τ s' H'} I' hl hk nx => by
        obtain ⟨m', hm, w'⟩ := hNx H' nx
        have pin : ∀ b ∈ fp, ∀ o, sH.heap.get? b = some o → s'.heap.get? b = some o ∧ H' b = none := fun b hb o e => ⟨(I'.pin (b, o) (List.mem_append_right _ (List.mem_append_right _ (mem_pinsAt hb e)))).1, (I'.pin (b, o) (List.mem_append_right _ (List.mem_append_right _ (mem_pinsAt hb e)))).2.1⟩
        refine ⟨m', hm, i + 1, H', (I'.unpinned (pins := [])).weak hl hk, T.keep _ _ _ stH fun b hb o e => (pin b hb o e).1, fun b hb => ?_, w'⟩
        obtain ⟨o, e, _⟩ := T.obj _ _ stH b hb
        exact (pin b hb o e).2
      have lenI : (wipe σ (own.map (·.2))).length = σI.length := by rw [← wI', wipe_length]
      have kI : ∀ (j : Nat) v, (wipe σ (own.map (·.2)))[j]? = some (some v) → σI[j]? = some (some v) := fun j v e => (wipe_some (wI' ▸ e)).1
      have kW : ∀ (j : Nat) v, (wipe σ (own.map (·.2)))[j]? = some (some v) → (wipe σI ws)[j]? = some (some v) := fun j v e => by
        obtain ⟨e1, e2⟩ := wipe_some (show (wipe σI (own.map (·.2)))[j]? = some (some v) from wI' ▸ e)
        rw [wipe_out fun z => e2 (hv j z)]
        exact e1
      cases b with
      | false =>
        simp only [Bool.false_eq_true, if_false] at qJ ⊢
        exact fin IJ lenI kI qJ
      | true =>
        simp only [if_true] at qJ ⊢
        refine thnF (q3.run _ sJ σI HJ _ IJ qJ) fun bv sK hK => thnF hK fun iv2 sL hL => ?_
        obtain ⟨it1, fp1, tn1, J1, HL, e1, IL, T1, stL, fpL, W1, ⟨m1, w1⟩, turn1⟩ := hL
        subst e1
        have stat1 : ∀ {H' : Hp}, (∀ b ∈ fp1, H' b = none) → ∀ b ∈ fp1, FpOk (X.blk sC HC sc en fp) ([] ++ pinsAt fp sH.heap) H' b := fun hn b hb => ⟨hn b hb, (fpL b hb).2⟩
        let In : Nat → Shared → Prop := fun k s' => ∃ j H', Inv (X.blk sC HC sc en fp) ([] ++ pinsAt fp sH.heap) (wipe σI ws) H' s' ∧ tn1 j s'.heap ∧ (∀ b ∈ fp1, H' b = none) ∧ W1 j k H'
        have loop1 : codeAny (model X.prog X.w) X.A (.compLoop (.DictComp kx vx [⟨ta, ia, fa, 0⟩, ⟨tb, ib, fb, 0⟩] sc pp) 1 (.ref it1) (.ref D) en) (fun r s' => match r with
              | .ok _ => ∃ m, m < n ∧ Out m s'
              | .error _ => False) sL := by
          refine dc2_loop1 In ?_ m1 ⟨0, HL, IL.weak (wipe_length _ _) (fun j v e => (wipe_some e).1), stL, fun b hb => (fpL b hb).1, w1⟩
          rintro k sM ⟨j, HM, IM, stM, nM, wM⟩
          rcases turn1 j k HM wM with ⟨stop1, nx1⟩ | ⟨go1, Nx1, hNx1, step1⟩
          · refine thnF (T1.done (X.blk sC HC sc en fp) rfl rfl rfl hc j _ sM (wipe σI ws) HM (fun _ _ => False) IM (stat1 nM) stM stop1) fun r sO ⟨hr, IO⟩ => ?_
            subst hr
            exact fin IO (lenI.trans (wipe_length σI ws).symm) kW nx1
          · refine thnF (T1.item (X.blk sC HC sc en fp) rfl rfl rfl hc j _ sM (wipe σI ws) HM (fun _ _ => False) IM (stat1 nM) stM go1) fun r sO ⟨u1, hr, hO⟩ => ?_
            subst hr
            refine thnF hO fun _ sP ⟨x1, HP, IP, rP, yP, stP, nP⟩ => ?_
            refine thnF (q4.run _ sP (wipe σI ws) HP x1 u1 _ (IP.pinned (stat1 nP) (T1.obj _ _ stP)) rP (step1 x1 HP yP)) fun _ sQ ⟨σQ, HQ, IQ, wQ, qQ⟩ => ?_
            refine thnF (q5.run _ sQ σQ HQ _ IQ qQ) fun b1 sR ⟨HR, IR, qR⟩ => ?_
            have fin1 : ∀ {s' : Shared} {H' : Hp}, Inv (X.blk sC HC sc en fp) (([] ++ pinsAt fp sH.heap) ++ pinsAt fp1 sP.heap) σQ H' s' → Nx1 H' → ∃ m, m < k ∧ In m s' := fun {s' H'} I' nx => by
              obtain ⟨m', hm, w'⟩ := hNx1 H' nx
              have pin : ∀ b ∈ fp1, ∀ o, sP.heap.get? b = some o → s'.heap.get? b = some o ∧ H' b = none := fun b hb o e => ⟨(I'.pin (b, o) (List.mem_append_right _ (List.mem_append_right _ (mem_pinsAt hb e)))).1, (I'.pin (b, o) (List.mem_append_right _ (List.mem_append_right _ (mem_pinsAt hb e)))).2.1⟩
              refine ⟨m', hm, j + 1, H', I'.unpinned.weak (by rw [← wQ, wipe_length]) (fun j v e => (wipe_some (show (wipe σQ ws)[j]? = some (some v) from wQ ▸ e)).1), T1.keep _ _ _ stP fun b hb o e => (pin b hb o e).1, fun b hb => ?_, w'⟩
              obtain ⟨o, e, _⟩ := T1.obj _ _ stP b hb
              exact (pin b hb o e).2
            cases b1 with
            | false =>
              simp only [Bool.false_eq_true, if_false] at qR ⊢
              exact fin1 IR qR
            | true =>
              simp only [if_true] at qR ⊢
              refine thnF (q6.run _ sR σQ HR _ IR qR) fun kz sS ⟨yk, HS, IS, rS, qS⟩ => ?_
              refine thnF (q7.run _ sS σQ HS _ IS qS) fun vz sT ⟨yv, HT, IT, rT, kvs, ky, eky, hDT, hzT, nx⟩ => ?_
              subst eky
              exact d_dictSet (X := X.blk sC HC sc en fp) IT hDT hzT rS rT fun sU IU => fin1 IU nx
        exact dc2_start loop1 (T1.self X.A 0 _ _ _ stL loop1)
  exact codeAny_compStart_dict loop (T.self X.A 0 _ _ _ stE loop)
theorem pe_dc2 {kx vx ta ia tb ib : Expr} {fa fb : List Expr} {sc : Scope} {own : List (Str × Nat)} {ws : List Nat} {pp : Pos} {wa wb : TI} {ga gb : TG} {ca cb : TT} {tk tv : TE}
    (hc : X.calm = true) (hN : X.N.Nodup) (pia : PI X ta ia wa) (ok : BlkOk X.N X.env.scope sc own) (hv : ∀ i ∈ ws, i ∈ own.map (·.2))
    (pga : InB X sc fun Y => PG Y ta ga) (pca : InB X sc fun Y => PTs Y fa ca) (pib : InB X sc fun Y => PI Y tb ib wb) (pgb : InB X sc fun Y => PG Y tb gb) (pcb : InB X sc fun Y => PTs Y fb cb) (pk : InB X sc fun Y => PE Y kx tk) (pv : InB X sc fun Y => PE Y vx tv)
    (hs : ∀ x, foldedSetIterable ia X.env x = pure x := by intro _; rfl) (hs1 : ∀ env x, foldedSetIterable ib env x = pure x := by intro _ _; rfl) : PE X (.DictComp kx vx [⟨ta, ia, fa, 0⟩, ⟨tb, ib, fb, 0⟩] sc pp) (tDc2 wa ga ca wb gb cb tk tv (own.map (·.2)) ws) := by
  refine ⟨fun pins s σ H Q I h => ?_⟩
  rw [arm_eval_DictComp]
  refine dc2_core hc hN I pia ok hv pga pca pib pgb pcb pk pv hs hs1 h fun D C s' m H' I' q hn ⟨z0, z1, z2, z3, z4, z5⟩ => ⟨m, hn, fun hh sb => ⟨.ref D, H', I'.turned (t' := s'.toks) (fun b o hb e => (sb.2 b hb).trans e) z0 z1 z3 z4 z5, rfl, q⟩⟩
/-! ### y = {..}: the name is stored within the comprehension's frame -/
theorem swD {kx vx : Expr} {gs : List Comprehension} {sc : Scope} {pp py : Pos} {y : Str} {l : Nat} {env : Env} (hk : env.scope.kind = .function) (hy : env.scope.names.lookup y = some .local) (hl : (py.line == pp.line) = true)
    (ha : (sc.names.any fun (n, k) => n == y && (k == .local || k == .cell)) = false) : swapsWith (.DictComp kx vx gs sc pp) (some (.Name y py)) l env = pure true := by
  have ky : env.kindOf y = some .local := hy
  have hb : env.blockKind = .function := by unfold Env.blockKind; rw [hk]; rfl
  unfold swapsWith
  simp only [hb, ky, ha, Expr.pos, hl]
  rfl
theorem setD_end {pins : List (Addr × Obj)} {σ : L2.St} {H' : Hp} {i : Nat} {y : Str} {py : Pos} {D' : Ends} {L C : Addr} {s' : Shared} {m : Str → Option Value} (hN : X.N.Nodup) (hy : X.N[i]? = some y) (hyl : X.env.scope.names.lookup y = some .local)
    (I' : Inv X pins σ H' s') (q : gName i (.ref L) σ H' D'.nx) (hn : s'.heap.Ns C m) (f : FpOk X pins H' C) : compPost (model X.prog X.w) X.A X.xe (some (assign (.Name y py) X.env)) (fun _ s' => SP X pins D' .next s') (.ref L) C (.ok .next) s' := by
  show wpAny _ _ (assign (.Name y py) X.env (.ref L)) _ _ _
  obtain ⟨z0, z1, z2, z3, z4, z5⟩ := f
  refine wpAny_assign_Name (store_ok2 (v := V.ref L) I' hN hy (.inl hyl) rfl (fun s2 I2 ⟨a, sb, ha⟩ => ?_) (.inr hyl))
  have ne : C ≠ a := by
    rcases ha with z | z
    · rw [z]; exact z1
    · exact fun e => z4 y a z e.symm
  exact ⟨m, hn.sameBut sb ne, fun h3 sb3 => ⟨_, H', I2.turned (t' := s2.toks) (fun b o hb e => (sb3.2 b hb).trans e) z0 z1 z3 z4 z5, q⟩⟩
theorem ps_setDc {i : Nat} {y : Str} {py : Pos} {kx vx tg iter : Expr} {ifs : List Expr} {scope : Scope} {own : List (Str × Nat)} {pos spos : Pos} {wi : TI} {g : TG} {tt : TT} {tk tv : TE} (hc : X.calm = true) (hN : X.N.Nodup) (hy : X.N[i]? = some y) (hyl : X.env.scope.names.lookup y = some .local)
    (hsw : swapsWith (.DictComp kx vx [⟨tg, iter, ifs, 0⟩] scope pos) (some (.Name y py)) spos.line X.env = pure true) (hi : PI X tg iter wi) (ok : BlkOk X.N X.env.scope scope own)
    (hg : InB X scope fun Y => PG Y tg g) (ht : InB X scope fun Y => PTs Y ifs tt) (hk : InB X scope fun Y => PE Y kx tk) (he : InB X scope fun Y => PE Y vx tv) (hs : ∀ x, foldedSetIterable iter X.env x = pure x := by intro _; rfl) :
    PS X (.Assign [.Name y py] (.DictComp kx vx [⟨tg, iter, ifs, 0⟩] scope pos) spos) (tAsg (tDc wi g tt tk tv (own.map (·.2))) (gName i)) := by
  refine ⟨fun pins s σ H D I h => ?_⟩
  rw [exec_Assign_Name_used _ _ _ _ hsw]
  refine wpAny_bind (wpAny_standAt (wpAny_bind ?_))
  show wpAny _ X.A (do let _ ← comprehension (.DictComp kx vx [⟨tg, iter, ifs, 0⟩] scope pos) scope X.env (firstIterPos [⟨tg, iter, ifs, 0⟩] pos) newDict false (eval iter X.env) (some (assign (.Name y py) X.env))) _ _ s
  have h : tDc wi g tt tk tv (own.map (·.2)) σ H (fun x H1 => gName i x σ H1 D.nx) := h
  exact wpAny_bind (thn (dc_core (Qf := fun _ s' => SP X pins D .next s') hc hN I hi ok hg ht hk he hs h fun L C s' m H' I' q hn f => setD_end hN hy hyl I' q hn f) fun _ s' hq => wpAny_pure (wpAny_pure hq))
theorem ps_setDc2 {i : Nat} {y : Str} {py : Pos} {kx vx ta ia tb ib : Expr} {fa fb : List Expr} {sc : Scope} {own : List (Str × Nat)} {ws : List Nat} {pp spos : Pos} {wa wb : TI} {ga gb : TG} {ca cb : TT} {tk tv : TE} (hc : X.calm = true) (hN : X.N.Nodup) (hy : X.N[i]? = some y) (hyl : X.env.scope.names.lookup y = some .local)
    (hsw : swapsWith (.DictComp kx vx [⟨ta, ia, fa, 0⟩, ⟨tb, ib, fb, 0⟩] sc pp) (some (.Name y py)) spos.line X.env = pure true) (pia : PI X ta ia wa) (ok : BlkOk X.N X.env.scope sc own) (hv : ∀ i ∈ ws, i ∈ own.map (·.2))
    (pga : InB X sc fun Y => PG Y ta ga) (pca : InB X sc fun Y => PTs Y fa ca) (pib : InB X sc fun Y => PI Y tb ib wb) (pgb : InB X sc fun Y => PG Y tb gb) (pcb : InB X sc fun Y => PTs Y fb cb) (pk : InB X sc fun Y => PE Y kx tk) (pv : InB X sc fun Y => PE Y vx tv)
    (hs : ∀ x, foldedSetIterable ia X.env x = pure x := by intro _; rfl) (hs1 : ∀ env x, foldedSetIterable ib env x = pure x := by intro _ _; rfl) :
    PS X (.Assign [.Name y py] (.DictComp kx vx [⟨ta, ia, fa, 0⟩, ⟨tb, ib, fb, 0⟩] sc pp) spos) (tAsg (tDc2 wa ga ca wb gb cb tk tv (own.map (·.2)) ws) (gName i)) := by
  refine ⟨fun pins s σ H D I h => ?_⟩
  rw [exec_Assign_Name_used _ _ _ _ hsw]
  refine wpAny_bind (wpAny_standAt (wpAny_bind ?_))
  show wpAny _ X.A (do let _ ← comprehension (.DictComp kx vx [⟨ta, ia, fa, 0⟩, ⟨tb, ib, fb, 0⟩] sc pp) sc X.env (firstIterPos [⟨ta, ia, fa, 0⟩, ⟨tb, ib, fb, 0⟩] pp) newDict false (eval ia X.env) (some (assign (.Name y py) X.env))) _ _ s
  have h : tDc2 wa ga ca wb gb cb tk tv (own.map (·.2)) ws σ H (fun x H1 => gName i x σ H1 D.nx) := h
  exact wpAny_bind (thn (dc2_core (Qf := fun _ s' => SP X pins D .next s') hc hN I pia ok hv pga pca pib pgb pcb pk pv hs hs1 h fun L C s' m H' I' q hn f => setD_end hN hy hyl I' q hn f) fun _ s' hq => wpAny_pure (wpAny_pure hq))
end
end Y
end

section
set_option maxHeartbeats 1000000
/-! Y7: dict comprehensions as rules. -/
namespace Y
open PySem PySem.Spec PyProof.Rows L2
section
variable {G : Wd} {X : Cx}
theorem dc_read {kx vx tg iter : Expr} {ifs : List Expr} {scope : Scope} {own : List (Str × Nat)} {fi : ES → M IT} {g : EV → ES → Option ES} {ft : ES → M Bool} {fk fe : ES → M EV} (hG : G.Zf = true) (hi : RI G X tg iter fi)
    (hg : ∀ s H C cl fp, RG G (blkX X s H scope C cl fp) tg (own.map (·.2)) g) (ht : ∀ s H C cl fp, RTs G (blkX X s H scope C cl fp) ifs ft) (hk : ∀ s H C cl fp, RE G (blkX X s H scope C cl fp) kx fk) (he : ∀ s H C cl fp, RE G (blkX X s H scope C cl fp) vx fe)
    {σ : ES} {h : EH} {ρ : Rh} {τ : L2.St} {H : Hp} {Q : VK} (R : Rel G ρ h H) (S : SR G ρ H σ τ) (ff : FinE G X τ ρ H (qDc fi g ft fk fe (own.map (·.2)) σ h) (DK' G ρ H Q)) :
    tDc (wI X tg iter) (gB X scope tg) (tBk X scope ifs) (eB X scope kx) (eB X scope vx) (own.map (·.2)) τ H Q := by
  refine hi σ h ρ τ H _ R S (FinE.imp (FinE.bind ff) fun it h1 ρ1 H1 e1 R1 f1 J C wk c => ?_)
  intro D hD
  have hD0 : H D = none := e1.dom D hD
  have hP : Clo fun ρ H => C ρ H ∧ SR G ρ H (wipeE σ (own.map (·.2))) (wipe τ (own.map (·.2))) := fun ρ H ρ' H' ⟨a, b⟩ e => ⟨wkClo wk _ _ _ _ a e, b.mono e.mo⟩
  have t0 : At G (acD G) D ρ1 H1 (fun ρ H => C ρ H ∧ SR G ρ H (wipeE σ (own.map (·.2))) (wipe τ (own.map (·.2)))) ρ1 h1 (upd H1 D (.dK [])) [] :=
    ⟨Ext.laid0 hD, R1.hid hD, R1.fresh hD, ⟨_, upd_same, [], rfl, .nil⟩, wkClo wk _ _ _ _ c (Sx.hid hD), ((S.mono e1.toMo).mono (Mo.hid hD)).wipe hG _⟩
  have hΦ : ¬ (fun r => FinE G X τ ρ1 H1 r (DK' G ρ H Q)) .stuck := fun z => z
  refine loop_run (Φ := fun r => FinE G X τ ρ1 H1 r (DK' G ρ H Q)) hΦ hP (fun ρ H a => a.1) wk t0 f1 (fun ρ' h' H' a' t f' => ?_) fun x v ρ' h' H' a' rest Nx t r f' nx => ?_
  · obtain ⟨u, l, vs, rfl, ra⟩ := t.at'
    exact f' ρ' H' t.ext t.rel.unhid D vs hD0 t.out l t.rel ra
  · exact turn_run (Φ := fun r => FinE G X τ ρ1 H1 r (DK' G ρ H Q)) hΦ hP hg ht t t.pr.2 r f' nx fun σ2 τ2 ρ2 h2 H2 t2 S2 f2 => dic_run (Φ := fun r => FinE G X τ ρ1 H1 r (DK' G ρ H Q)) hD hk he hΦ hP t2 S2 f2 nx
theorem dc2_read {kx vx tg iter tg1 iter1 : Expr} {ifs ifs1 : List Expr} {scope : Scope} {own : List (Str × Nat)} {vs1 : List Nat} {fi fi1 : ES → M IT} {g g1 : EV → ES → Option ES} {ft ft1 : ES → M Bool} {fk fe : ES → M EV} (hG : G.Zf = true) (hi : RI G X tg iter fi)
    (hg : ∀ s H C cl fp, RG G (blkX X s H scope C cl fp) tg (own.map (·.2)) g) (ht : ∀ s H C cl fp, RTs G (blkX X s H scope C cl fp) ifs ft)
    (hi1 : ∀ s H C cl fp, RI G (blkX X s H scope C cl fp) tg1 iter1 fi1) (hg1 : ∀ s H C cl fp, RG G (blkX X s H scope C cl fp) tg1 vs1 g1) (ht1 : ∀ s H C cl fp, RTs G (blkX X s H scope C cl fp) ifs1 ft1) (hk : ∀ s H C cl fp, RE G (blkX X s H scope C cl fp) kx fk) (he : ∀ s H C cl fp, RE G (blkX X s H scope C cl fp) vx fe)
    {σ : ES} {h : EH} {ρ : Rh} {τ : L2.St} {H : Hp} {Q : VK} (R : Rel G ρ h H) (S : SR G ρ H σ τ)
    (ff : FinE G X τ ρ H (qDc2 fi g ft fi1 g1 ft1 fk fe (own.map (·.2)) vs1 σ h) (DK' G ρ H Q)) :
    tDc2 (wI X tg iter) (gB X scope tg) (tBk X scope ifs) (iB X scope tg1 iter1) (gB X scope tg1) (tBk X scope ifs1) (eB X scope kx) (eB X scope vx) (own.map (·.2)) vs1 τ H Q := by
  refine hi σ h ρ τ H _ R S (FinE.imp (FinE.bind ff) fun it h1 ρ1 H1 e1 R1 f1 J C wk c => ?_)
  intro D hD
  have hD0 : H D = none := e1.dom D hD
  have hP : Clo fun ρ H => C ρ H ∧ SR G ρ H (wipeE σ (own.map (·.2))) (wipe τ (own.map (·.2))) := fun ρ H ρ' H' ⟨a, b⟩ e => ⟨wkClo wk _ _ _ _ a e, b.mono e.mo⟩
  have t0 : At G (acD G) D ρ1 H1 (fun ρ H => C ρ H ∧ SR G ρ H (wipeE σ (own.map (·.2))) (wipe τ (own.map (·.2)))) ρ1 h1 (upd H1 D (.dK [])) [] :=
    ⟨Ext.laid0 hD, R1.hid hD, R1.fresh hD, ⟨_, upd_same, [], rfl, .nil⟩, wkClo wk _ _ _ _ c (Sx.hid hD), ((S.mono e1.toMo).mono (Mo.hid hD)).wipe hG _⟩
  have hΦ : ¬ (fun r => FinE G X τ ρ1 H1 r (DK' G ρ H Q)) .stuck := fun z => z
  refine loop_run (Φ := fun r => FinE G X τ ρ1 H1 r (DK' G ρ H Q)) hΦ hP (fun ρ H a => a.1) wk t0 f1 (fun ρ' h' H' a' t f' => ?_) fun x v ρ' h' H' a' rest Nx t r f' nx => ?_
  · obtain ⟨u, l, vs, rfl, ra⟩ := t.at'
    exact f' ρ' H' t.ext t.rel.unhid D vs hD0 t.out l t.rel ra
  · refine turn_run (Φ := fun r => FinE G X τ ρ1 H1 r (DK' G ρ H Q)) hΦ hP hg ht t t.pr.2 r f' nx fun σ2 τ2 ρ2 h2 H2 t2 S2 f2 => ?_
    exact in_run (Φ := fun r => FinE G X τ ρ1 H1 r (DK' G ρ H Q)) hG hΦ hP hi1 hg1 ht1 t2 S2 f2 nx fun P1 Φ1 σ3 τ3 ρ3 h3 H3 a3 rest1 Nx1 q1 q2 q3 q4 q5 q6 => dic_run hD hk he q1 q2 q3 q4 q5 q6
theorem rq_dc2 {kx vx tg iter tg1 iter1 : Expr} {ifs ifs1 : List Expr} {scope : Scope} {own : List (Str × Nat)} {vs1 : List Nat} {pos : Pos} {fi fi1 : ES → M IT} {g g1 : EV → ES → Option ES} {ft ft1 : ES → M Bool} {fk fe : ES → M EV} (hG : G.Zf = true) (hN : X.N.Nodup) (hi : RI G X tg iter fi) (ok : BlkOk X.N X.env.scope scope own) (hv : ∀ i ∈ vs1, i ∈ own.map (·.2))
    (hg : ∀ s H C cl fp, RG G (blkX X s H scope C cl fp) tg (own.map (·.2)) g) (ht : ∀ s H C cl fp, RTs G (blkX X s H scope C cl fp) ifs ft)
    (hi1 : ∀ s H C cl fp, RI G (blkX X s H scope C cl fp) tg1 iter1 fi1) (hg1 : ∀ s H C cl fp, RG G (blkX X s H scope C cl fp) tg1 vs1 g1) (ht1 : ∀ s H C cl fp, RTs G (blkX X s H scope C cl fp) ifs1 ft1) (hk : ∀ s H C cl fp, RE G (blkX X s H scope C cl fp) kx fk) (he : ∀ s H C cl fp, RE G (blkX X s H scope C cl fp) vx fe)
    (hc : X.calm = true := by rfl) (hs : ∀ x, foldedSetIterable iter X.env x = pure x := by intro _; rfl) (hs1 : ∀ env x, foldedSetIterable iter1 env x = pure x := by intro _ _; rfl) :
    RQ G X (.DictComp kx vx [⟨tg, iter, ifs, 0⟩, ⟨tg1, iter1, ifs1, 0⟩] scope pos) (qDc2 fi g ft fi1 g1 ft1 fk fe (own.map (·.2)) vs1) := by
  intro σ h ρ τ H Q R S ff
  exact wE.of (pe_dc2 (wb := iB X scope tg1 iter1) (ga := gB X scope tg) (gb := gB X scope tg1) (ca := tBk X scope ifs) (cb := tBk X scope ifs1) (tk := eB X scope kx) (tv := eB X scope vx) hc hN wI.pi ok hv (fun s H' C cl fp => ⟨fun pins s1 σ1 H1 v u Q1 I r q => q s H' C cl fp pins s1 u I r⟩) (fun s H' C cl fp => ⟨fun pins s1 σ1 H1 Q1 I q => q s H' C cl fp pins s1 I⟩)
    (fun s H' C cl fp => ⟨fun pins s1 σ1 H1 R1 I q => q s H' C cl fp pins s1 I⟩) (fun s H' C cl fp => ⟨fun pins s1 σ1 H1 v u Q1 I r q => q s H' C cl fp pins s1 u I r⟩) (fun s H' C cl fp => ⟨fun pins s1 σ1 H1 Q1 I q => q s H' C cl fp pins s1 I⟩)
    (fun s H' C cl fp => ⟨fun pins s1 σ1 H1 Q1 I q => q s H' C cl fp pins s1 I⟩) (fun s H' C cl fp => ⟨fun pins s1 σ1 H1 Q1 I q => q s H' C cl fp pins s1 I⟩) hs hs1) (dc2_read hG hi hg ht hi1 hg1 ht1 hk he R S ff)
/-! ### as a value -/
theorem Rel.adoptD {ρ : Rh} {h : EH} {H : Hp} {p : Addr} {ws : List (Key × V)} {xs : PE'} (R : Rel G (ρ.hid p) h H) (m : p ∉ ρ.all) (l : H p = some (.dK ws)) (r : RepP keyOf G (ρ.hid p) H xs ws) : Rel G (ρ.add p) (h ++ [.dK xs]) H := by
  have len : ρ.loc.length = h.length := R.len
  refine ⟨by simp [Rh.add, len], nodup_add R.nd (fun z => m (Rh.mem_all.mpr (.inr z))), fun a q => R.there a (List.mem_cons_of_mem _ q), fun a q z => ?_, fun n a o' q q' => ?_⟩
  · rcases List.mem_append.mp z with z | z
    · exact R.sep a (List.mem_cons_of_mem _ q) z
    · have : a = p := by simpa using z
      subst this; exact m (Rh.mem_all.mpr (.inl q))
  by_cases hn : n < ρ.loc.length
  · simp only [Rh.add] at q
    rw [List.getElem?_append_left hn] at q
    rw [List.getElem?_append_left (by rw [← len]; exact hn)] at q'
    exact (R.obj n a o' q q').move Mo.adopt fun w z => z
  · have h1 : ρ.loc.length ≤ n := by omega
    simp only [Rh.add] at q
    rw [List.getElem?_append_right h1] at q
    rw [List.getElem?_append_right (by rw [← len]; exact h1)] at q'
    rw [len] at q
    have hn0 : n - h.length = 0 := by
      have := (List.getElem?_eq_some_iff.mp q').1
      simp at this; omega
    rw [hn0] at q q'
    simp at q q'
    subst q; subst q'
    exact ⟨ws, l, r.mono Mo.adopt⟩
theorem new_ref {ρ : Rh} {h : EH} {H : Hp} {p : Addr} (R : ρ.loc.length = h.length) : Rep G (ρ.add p) H (.ref h.length) (.ref p) := .ref (by
  simp only [Rh.add]
  rw [← R, List.getElem?_append_right (Nat.le_refl _)]
  simp)
theorem anyD_fin {τ : L2.St} {ρ : Rh} {H H0 : Hp} {h : EH} {kvs : PE'} {ws : List (Key × V)} {p : Addr} {k : EV → EH → Rh → Hp → Prop} (e1 : Ext ρ H0 ρ H ∨ True) (f : FinE G X τ ρ H (anyD kvs h) k) (hp : p ∉ ρ.all) (l : H p = some (.dK ws)) (Rp : Rel G (ρ.hid p) h H) (r : RepP keyOf G (ρ.hid p) H kvs ws) :
    (∃ ps, plD kvs = some ps ∧ k (.p (.dic ps)) h ρ H ∧ Rep G ρ H (.p (.dic ps)) (.ref p)) ∨ plD kvs = none := by
  unfold anyD at f
  split at f
  · rename_i ps ep
    exact .inl ⟨ps, ep, f ρ H Ext.refl Rp.unhid, .p (.dK hp (.inl l) ((plD_rep r ep).mono Mo.unhid))⟩
  · rename_i ep
    exact .inr ep
theorem re_anyD {e : Expr} {f : ES → M PE'} (ha : RQ G X e f) : RE G X e (eAnyD f) := by
  intro σ h ρ τ H Q R S ff
  refine ha σ h ρ τ H Q R S (FinE.mapOk ff fun xs h1 ρ1 H1 e1 R1 f1 p ws hp m l Rp r => ?_)
  unfold anyD at f1
  split at f1
  · rename_i ps ep
    exact f1 ρ1 H1 e1 R1 (.ref p) (.p (.dK m (.inl l) ((plD_rep r ep).mono Mo.unhid)))
  · exact f1 (ρ1.add p) H1 (e1.adopt hp) (Rp.adoptD m l r) (.ref p) (new_ref R1.len)
theorem re_newD {e : Expr} {f : ES → M PE'} (ha : RQ G X e f) : RE G X e (eNewD f) := by
  intro σ h ρ τ H Q R S ff
  refine ha σ h ρ τ H Q R S (FinE.mapOk ff fun xs h1 ρ1 H1 e1 R1 f1 p ws hp m l Rp r => ?_)
  exact f1 (ρ1.add p) H1 (e1.adopt hp) (Rp.adoptD m l r) (.ref p) (new_ref R1.len)
/-! ### y = {..} -/
variable (G X) in
/-- y = a comprehension, told by what is made -/
def RSq (st : Stmt) (i : Nat) (f : ES → M PE') : Prop := ∀ (σ : ES) (h : EH) (ρ : Rh) (τ : L2.St) (H : Hp) (D : Ends), Rel G ρ h H → SR G ρ H σ τ → FinE G X τ ρ H (f σ h) (DK' G ρ H fun x H1 => gName i x τ H1 D.nx) → wS X st D τ H
theorem rs_anyD {st : Stmt} {i : Nat} {f : ES → M PE'} (hG : G.Zf = true) (ha : RSq G X st i f) : RS G X st (sSet (gN i) (eAnyD f)) := by
  intro σ h ρ τ H D R S ff
  refine ha σ h ρ τ H D R S (FinE.mapOk (FinS.fl S ff) fun xs h1 ρ1 H1 e1 R1 f1 p ws hp m l Rp r => ?_)
  unfold anyD at f1
  split at f1
  · rename_i ps ep
    exact f1 ρ1 H1 e1 R1 _ _ _ Ext.refl R1 ((S.mono e1.toMo).set hG (.p (.dK m (.inl l) ((plD_rep r ep).mono Mo.unhid))))
  · have e2 := e1.adopt hp
    have R2 := Rp.adoptD m l r
    exact f1 (ρ1.add p) H1 e2 R2 _ _ _ Ext.refl R2 ((S.mono e2.toMo).set hG (new_ref R1.len))
theorem rs_newD {st : Stmt} {i : Nat} {f : ES → M PE'} (hG : G.Zf = true) (ha : RSq G X st i f) : RS G X st (sSet (gN i) (eNewD f)) := by
  intro σ h ρ τ H D R S ff
  refine ha σ h ρ τ H D R S (FinE.mapOk (FinS.fl S ff) fun xs h1 ρ1 H1 e1 R1 f1 p ws hp m l Rp r => ?_)
  have e2 := e1.adopt hp
  have R2 := Rp.adoptD m l r
  exact f1 (ρ1.add p) H1 e2 R2 _ _ _ Ext.refl R2 ((S.mono e2.toMo).set hG (new_ref R1.len))
theorem rsq_dc {i : Nat} {y : Str} {py : Pos} {kx vx tg iter : Expr} {ifs : List Expr} {scope : Scope} {own : List (Str × Nat)} {pos spos : Pos} {fi : ES → M IT} {g : EV → ES → Option ES} {ft : ES → M Bool} {fk fe : ES → M EV} (hG : G.Zf = true) (hN : X.N.Nodup)
    (hsw : swapsWith (.DictComp kx vx [⟨tg, iter, ifs, 0⟩] scope pos) (some (.Name y py)) spos.line X.env = pure true) (hi : RI G X tg iter fi) (ok : BlkOk X.N X.env.scope scope own)
    (hg : ∀ s H C cl fp, RG G (blkX X s H scope C cl fp) tg (own.map (·.2)) g) (ht : ∀ s H C cl fp, RTs G (blkX X s H scope C cl fp) ifs ft) (hk : ∀ s H C cl fp, RE G (blkX X s H scope C cl fp) kx fk) (he : ∀ s H C cl fp, RE G (blkX X s H scope C cl fp) vx fe)
    (hy : X.N[i]? = some y := by rfl) (hyl : X.env.scope.names.lookup y = some .local := by rfl) (hc : X.calm = true := by rfl) (hs : ∀ x, foldedSetIterable iter X.env x = pure x := by intro _; rfl) :
    RSq G X (.Assign [.Name y py] (.DictComp kx vx [⟨tg, iter, ifs, 0⟩] scope pos) spos) i (qDc fi g ft fk fe (own.map (·.2))) := by
  intro σ h ρ τ H D R S ff
  exact wS.of (ps_setDc (g := gB X scope tg) (tt := tBk X scope ifs) (tk := eB X scope kx) (tv := eB X scope vx) hc hN hy hyl hsw wI.pi ok (fun s H' C cl fp => ⟨fun pins s1 σ1 H1 v u Q1 I r q => q s H' C cl fp pins s1 u I r⟩) (fun s H' C cl fp => ⟨fun pins s1 σ1 H1 Q1 I q => q s H' C cl fp pins s1 I⟩)
    (fun s H' C cl fp => ⟨fun pins s1 σ1 H1 Q1 I q => q s H' C cl fp pins s1 I⟩) (fun s H' C cl fp => ⟨fun pins s1 σ1 H1 Q1 I q => q s H' C cl fp pins s1 I⟩) hs) (dc_read (Q := fun x H1 => gName i x τ H1 D.nx) hG hi hg ht hk he R S ff)
theorem rsq_dc2 {i : Nat} {y : Str} {py : Pos} {kx vx tg iter tg1 iter1 : Expr} {ifs ifs1 : List Expr} {scope : Scope} {own : List (Str × Nat)} {vs1 : List Nat} {pos spos : Pos} {fi fi1 : ES → M IT} {g g1 : EV → ES → Option ES} {ft ft1 : ES → M Bool} {fk fe : ES → M EV} (hG : G.Zf = true) (hN : X.N.Nodup)
    (hsw : swapsWith (.DictComp kx vx [⟨tg, iter, ifs, 0⟩, ⟨tg1, iter1, ifs1, 0⟩] scope pos) (some (.Name y py)) spos.line X.env = pure true) (hi : RI G X tg iter fi) (ok : BlkOk X.N X.env.scope scope own) (hv : ∀ i ∈ vs1, i ∈ own.map (·.2))
    (hg : ∀ s H C cl fp, RG G (blkX X s H scope C cl fp) tg (own.map (·.2)) g) (ht : ∀ s H C cl fp, RTs G (blkX X s H scope C cl fp) ifs ft)
    (hi1 : ∀ s H C cl fp, RI G (blkX X s H scope C cl fp) tg1 iter1 fi1) (hg1 : ∀ s H C cl fp, RG G (blkX X s H scope C cl fp) tg1 vs1 g1) (ht1 : ∀ s H C cl fp, RTs G (blkX X s H scope C cl fp) ifs1 ft1) (hk : ∀ s H C cl fp, RE G (blkX X s H scope C cl fp) kx fk) (he : ∀ s H C cl fp, RE G (blkX X s H scope C cl fp) vx fe)
    (hy : X.N[i]? = some y := by rfl) (hyl : X.env.scope.names.lookup y = some .local := by rfl) (hc : X.calm = true := by rfl) (hs : ∀ x, foldedSetIterable iter X.env x = pure x := by intro _; rfl) (hs1 : ∀ env x, foldedSetIterable iter1 env x = pure x := by intro _ _; rfl) :
    RSq G X (.Assign [.Name y py] (.DictComp kx vx [⟨tg, iter, ifs, 0⟩, ⟨tg1, iter1, ifs1, 0⟩] scope pos) spos) i (qDc2 fi g ft fi1 g1 ft1 fk fe (own.map (·.2)) vs1) := by
  intro σ h ρ τ H D R S ff
  exact wS.of (ps_setDc2 (wb := iB X scope tg1 iter1) (ga := gB X scope tg) (gb := gB X scope tg1) (ca := tBk X scope ifs) (cb := tBk X scope ifs1) (tk := eB X scope kx) (tv := eB X scope vx) hc hN hy hyl hsw wI.pi ok hv (fun s H' C cl fp => ⟨fun pins s1 σ1 H1 v u Q1 I r q => q s H' C cl fp pins s1 u I r⟩) (fun s H' C cl fp => ⟨fun pins s1 σ1 H1 Q1 I q => q s H' C cl fp pins s1 I⟩)
    (fun s H' C cl fp => ⟨fun pins s1 σ1 H1 R1 I q => q s H' C cl fp pins s1 I⟩) (fun s H' C cl fp => ⟨fun pins s1 σ1 H1 v u Q1 I r q => q s H' C cl fp pins s1 u I r⟩) (fun s H' C cl fp => ⟨fun pins s1 σ1 H1 Q1 I q => q s H' C cl fp pins s1 I⟩)
    (fun s H' C cl fp => ⟨fun pins s1 σ1 H1 Q1 I q => q s H' C cl fp pins s1 I⟩) (fun s H' C cl fp => ⟨fun pins s1 σ1 H1 Q1 I q => q s H' C cl fp pins s1 I⟩) hs hs1) (dc2_read (Q := fun x H1 => gName i x τ H1 D.nx) hG hi hg ht hi1 hg1 ht1 hk he R S ff)
end
end Y
end

section
set_option maxHeartbeats 1000000
/-! Y8: sorted of a list of tuples, each two of them told apart by their first items or alike to the end. -/
namespace Y
open PySem PySem.Spec PyProof.Rows L2
open PySem.W (alike alikeAll keyToks keyToksAll dataLt Sortable SortsAt EachIs dataKind dataType)
def Firsts (ds : List PyData) : Prop := ∀ d, d ∈ ds → ∀ d', d' ∈ ds → ∃ x r x' r', d = .tuple (x :: r) ∧ d' = .tuple (x' :: r') ∧ alike x x' = true ∧ (PyData.eqv x x' = true → alikeAll r r' = true)
theorem Firsts.uniq {ds : List PyData} (F : Firsts ds) {h : Heap} {v : Value} {d d' : PyData} {as as' : List Addr} (hd : d ∈ ds) (hd' : d' ∈ ds) (r : Reads h v d as) (r' : Reads h v d' as') : d = d' := by
  obtain ⟨x, t, x', t', rfl, rfl, al, rest⟩ := F d hd d' hd'
  cases r with
  | tuple a1 a2 a3 a4 =>
    cases r' with
    | tuple b1 b2 b3 b4 =>
      rw [a1] at b1
      cases b1
      rw [a3] at b3
      cases b3
      generalize (Array.toList _) = l at a4 b4
      cases a4 with
      | cons p1 p2 =>
        cases b4 with
        | cons q1 q2 =>
          have e := PySem.W.alike_unique _ _ _ _ _ al p1 q1
          subst e
          rw [PySem.W.alikeAll_unique _ _ _ _ _ (rest (PySem.W.eqv_refl_alike x al)) p2 q2]
theorem Firsts.key {ds : List PyData} (F : Firsts ds) {h : Heap} {v : Value} {d : PyData} {as : List Addr} (hd : d ∈ ds) (r : Reads h v d as) : (dataKind h ds).keyOf v = some (keyToks d) := by
  have q : ∃ d, d ∈ ds ∧ ∃ as, Reads h v d as := ⟨d, hd, as, r⟩
  have e : (dataKind h ds).keyOf v = some (keyToks q.choose) := by
    show (open Classical in if q : ∃ d, d ∈ ds ∧ ∃ as, Reads h v d as then some (keyToks q.choose) else none) = _
    rw [dif_pos q]
  obtain ⟨h1, as', h2⟩ := q.choose_spec
  rw [e, F.uniq h1 hd h2 r]
theorem Firsts.sorts {prog : Program} {w : World} {A : Around} {s : Shared} {vs : List Value} {ds : List PyData} (F : Firsts ds) (e : EachIs (fun v d => ∃ as, Reads s.heap v d as) vs ds) (hu : ∀ d, d ∈ ds → A.units + d.depth < cLine) : SortsAt prog w A s (dataKind s.heap ds) vs := by
  refine ⟨fun v hv => ?_, ?_⟩
  · obtain ⟨d, hd, as, r⟩ := e.left v hv
    exact ⟨_, F.key hd r⟩
  · cases ds with
    | nil =>
      cases e
      exact ⟨general', fun E x y a b Q ha _ _ => (by
        obtain ⟨d, _, hd, _⟩ := PySem.W.dataKind_inv ha
        exact absurd hd (by simp)), fun h2 => absurd h2 (by simp)⟩
    | cons d0 ds0 =>
      obtain ⟨x0, r0, _, _, e0, _, _, _⟩ := F d0 (List.mem_cons_self ..) d0 (List.mem_cons_self ..)
      have first : ∀ x r, PyData.tuple (x :: r) ∈ d0 :: ds0 → alike x x0 = true := fun x r hm => by
        obtain ⟨_, _, _, _, e1, e2, al, _⟩ := F _ hm d0 (List.mem_cons_self ..)
        rw [e0] at e2
        cases e1
        cases e2
        exact al
      refine ⟨tuples' (dataType x0 != Value.type "tuple"), fun E x y a b Q ha hb hq => ?_, fun h2 E Q hq => ?_⟩
      · obtain ⟨d, as, hd, ra, rfl⟩ := PySem.W.dataKind_inv ha
        obtain ⟨d', as', hd', rb, rfl⟩ := PySem.W.dataKind_inv hb
        obtain ⟨x1, r1, x2, r2, rfl, rfl, al, rest⟩ := F d hd d' hd'
        have hroom : A.units + min (PyData.tuple (x1 :: r1)).depth (PyData.tuple (x2 :: r2)).depth < cLine := Nat.lt_of_le_of_lt (Nat.add_le_add_left (Nat.min_le_left _ _) _) (hu _ hd)
        have hq' : Q (dataLt (.tuple (x1 :: r1)) (.tuple (x2 :: r2))) s := hq
        rw [PySem.W.dataLt_tuple] at hq'
        have nt : (dataType x0 != Value.type "tuple") = true → ∀ t, x1 ≠ .tuple t := fun hb t => by
          have q := PySem.W.dataType_alike (first _ _ hd)
          rw [← q] at hb
          exact PySem.W.dataType_tuple hb t
        cases ra with
        | @tuple l o xs n _ _ a1 a2 a3 a4 =>
          cases rb with
          | @tuple l' o' xs' n' _ _ b1 b2 b3 b4 =>
            have n1 : xs.size = (x1 :: r1).length := by simpa using SeqAt.ReadsAll.length _ _ _ a4
            have n2 : xs'.size = (x2 :: r2).length := by simpa using SeqAt.ReadsAll.length _ _ _ b4
            refine PySem.W.kat_lt a1 a3 b1 b3 ?_
            rw [n1, n2]
            have rm := SeqAt.room_in hroom
            generalize xs.toList = us at a4
            generalize xs'.toList = ws at b4
            cases a4 with
            | cons p ps =>
              cases b4 with
              | cons q qs =>
                rw [List.zip_cons_cons]
                have rm' : A.units + min (PyData.depthAll (x1 :: r1)) (PyData.depthAll (x2 :: r2)) < cLine := by omega
                refine PySem.W.kat_cons (PySem.W.eqAt_alike x1 x2 A s _ _ _ _ p q al (SeqAt.room_head rm') prog w _ _ ?_)
                cases hx : PyData.eqv x1 x2 with
                | true =>
                  rw [PySem.W.dataLt_all_yes al hx] at hq'
                  exact PySem.W.kat_yes (PySem.W.katLex_alike r1 r2 1 _ _ _ _ ps qs (rest hx) (SeqAt.room_tail rm') (fun _ hi => absurd hi (by decide)) (by simp) hq')
                | false =>
                  rw [PySem.W.dataLt_all_no al hx] at hq'
                  refine PySem.W.kat_no (PySem.W.oneLt_alike (fun hbi t => ?_) p q al (PySem.W.ne_none_of al hx) (SeqAt.room_head rm') hq')
                  rw [Bool.and_eq_true] at hbi
                  exact nt hbi.1 t
      · obtain ⟨fs, t1, t2, t3⟩ := PySem.W.each_katTups e fun d hd => by
          obtain ⟨x, r, _, _, e1, _⟩ := F d hd d hd
          exact ⟨x, r, e1⟩
        refine PySem.W.kat_kind (T := dataType x0) t1 (by omega) (fun f hf => ?_) (beq_self_eq_true _) hq
        obtain ⟨x, r, as, m1, m2⟩ := t3 f hf
        rw [← PySem.W.dataType_alike (first x r m1)]
        exact PySem.W.looks_reads m2
/-! ### as a call -/
abbrev tokLe (b c : PV × V) : Bool := PySem.W.sortLe (PyProof.Rows.listOrd PyProof.Rows.itemOrd) false (fun b : PV × V => keyToks (toD b.1)) b c
def rSortF (K : PySem.W.Frag) : List V → Hp → VK → Prop := fun vs H Q => ∃ (a : Addr) (bs : List (PV × V)), vs = [V.ref a] ∧ SqL K H a (bs.map (·.2)) ∧ (∀ b ∈ bs, Dp K H b.2 (toD b.1)) ∧ Firsts (bs.map fun b => toD b.1) ∧ (∀ b ∈ bs, (toD b.1).depth ≤ 31) ∧
  ∀ p, H p = none → Q (.ref p) (upd H p (.lst ((bs.mergeSort tokLe).map (·.2))))
theorem each_of {R : Value → PV × V → Prop} : ∀ {bs : List (PV × V)} {us : List Value}, Vals (bs.map (·.2)) us → (∀ b ∈ bs, ∀ v, RelV b.2 v → R v b) → EachIs R us bs
  | [], _, .nil, _ => .nil
  | b :: bs, _, .cons r t, h => .cons (h b (by simp) _ r) (each_of t fun c m v q => h c (by simp [m]) v q)
theorem each_rel : ∀ {bs : List (PV × V)} {us : List Value}, EachIs (fun v (b : PV × V) => RelV b.2 v) us bs → Vals (bs.map (·.2)) us
  | _, _, .nil => .nil
  | _, _, .cons h t => .cons h (each_rel t)
theorem each_toD {P : Value → PyData → Prop} : ∀ {bs : List (PV × V)} {us : List Value}, EachIs (fun v (b : PV × V) => P v (toD b.1)) us bs → EachIs P us (bs.map fun b => toD b.1)
  | _, _, .nil => .nil
  | _, _, .cons h t => .cons h (each_toD t)
theorem each_keys {P Q : Value → PV × V → Prop} : ∀ {bs : List (PV × V)} {us : List Value}, EachIs P us bs → (∀ v b, b ∈ bs → P v b → Q v b) → EachIs Q us bs
  | _, _, .nil, _ => .nil
  | _, _, .cons h t, k => .cons (k _ _ (by simp) h) (each_keys t fun v b m => k v b (by simp [m]))
theorem cr_sortF {X : Cx} (hu : X.A.units + 40 < cLine) : CallR X (.builtin "sorted") (rSortF X.K) := by
  intro pins s σ H vs us Q I r h
  obtain ⟨a, bs, rfl, hs, hd, F, dep, q⟩ := h
  obtain ⟨its, rv, hl, hz⟩ := I.list hs
  rw [Vals.ref1 r]
  have er : EachIs (fun v (b : PV × V) => ∃ as, Reads s.heap v (toD b.1) as) its bs := each_of rv fun b m v rb => Dp.reads I _ _ _ (hd b m) rb
  have er' : EachIs (fun v (b : PV × V) => ∃ as, Reads (PySem.W.sortingHeap (PySem.W.copyHeap s.heap its) (s.heap.objs.size + 1) its) v (toD b.1) as) its bs := er.mono fun _ _ ⟨as, r⟩ => ⟨as, PyProof.Rows.Reads.keeps (fun _ _ => PySem.W.sorting_copy_old) r⟩
  have hL : its.length ≤ sizeLine := by rw [← rv.length]; exact hz
  have S := F.sorts (prog := X.prog) (w := X.w) (A := X.A.in1.in1) (s := { s with heap := PySem.W.sortingHeap (PySem.W.copyHeap s.heap its) (s.heap.objs.size + 1) its }) (vs := its) (each_toD (P := fun v d => ∃ as, Reads (PySem.W.sortingHeap (PySem.W.copyHeap s.heap its) (s.heap.objs.size + 1) its) v d as) er')
    (fun d m => by
      obtain ⟨b, mb, rfl⟩ := List.mem_map.mp m
      have := dep b mb
      show X.A.in1.in1.units + _ < cLine
      have : X.A.in1.in1.units = X.A.units + 2 := rfl
      omega)
  refine PySem.W.sorted_vals hl.isList S hL ?_
  have out := PySem.W.sortVals_each (rev := false) (κ := dataKind (PySem.W.sortingHeap (PySem.W.copyHeap s.heap its) (s.heap.objs.size + 1) its) (bs.map fun b => toD b.1)) (R := fun v (b : PV × V) => RelV b.2 v) (fun b => keyToks (toD b.1)) (each_of rv fun b _ v rb => rb)
    (each_keys er' fun v b m ⟨as, r⟩ => F.key (List.mem_map.mpr ⟨b, m, rfl⟩) r)
  have rv' := each_rel out
  obtain ⟨ep, he'⟩ := PyProof.Rows.sortedAll_at s.heap its (PySem.W.sortVals (dataKind (PySem.W.sortingHeap (PySem.W.copyHeap s.heap its) (s.heap.objs.size + 1) its) (bs.map fun b => toD b.1)) false its its).toArray
  have hlen : ((bs.mergeSort tokLe).map (·.2)).length ≤ sizeLine := by
    rw [List.length_map, (List.mergeSort_perm _ _).length_eq]
    simpa using hz
  exact ⟨.ref _, upd H (s.heap.objs.size + 1) (.lst ((bs.mergeSort tokLe).map (·.2))), I.laid (t' := s.toks) (fun _ _ => PyProof.Rows.sortedAll_old) (Nat.le_succ _) ⟨hlen, _, ep, rv', he'⟩, rfl, q _ (I.hok.fresh (Nat.le_succ _))⟩
end Y
end

section
set_option maxHeartbeats 1000000
/-! Y9: the order of plain data; sorted of tuples as a rule. -/
namespace Y
open PySem PySem.Spec PyProof.Rows L2
open PySem.W (alike alikeAll keyToks keyToksAll dataLt)
def ltL (f e : PV → PV → Bool) : List PV → List PV → Bool
  | [], [] => false
  | [], _ :: _ => true
  | _ :: _, [] => false
  | x :: xs, y :: ys => match e x y with
    | true => ltL f e xs ys
    | false => f x y
/-- less, for values that are alike -/
def ltP : Nat → PV → PV → Bool
  | _, .bl a, .bl b => !a && b
  | _, .int i, .int j => decide (i < j)
  | _, .str a, .str b => ltS a b
  | n + 1, .tup xs, .tup ys => ltL (ltP n) (peq n) xs ys
  | n + 1, .lst xs, .lst ys => ltL (ltP n) (peq n) xs ys
  | _, _, _ => false
def alL (f : PV → PV → Bool) : List PV → List PV → Bool
  | x :: xs, y :: ys => f x y && alL f xs ys
  | [], _ => true
  | _ :: _, [] => true
def alP : Nat → PV → PV → Bool
  | _, .non, .non => true
  | _, .bl _, .bl _ => true
  | _, .int _, .int _ => true
  | _, .str _, .str _ => true
  | n + 1, .tup xs, .tup ys => alL (alP n) xs ys
  | n + 1, .lst xs, .lst ys => alL (alP n) xs ys
  | _, _, _ => false
/-- two tuples, told apart by their first items or alike to the end -/
def okPr : PV → PV → Bool
  | .tup (a :: xs), .tup (b :: ys) => match alP 29 a b with
    | true => match peq 29 a b with
      | true => alL (alP 29) xs ys
      | false => true
    | false => false
  | _, _ => false
def okSo (xs : List PV) : Bool := xs.all fun x => pdat 30 x && xs.all (okPr x)
def insP (a : PV) : List PV → List PV
  | [] => [a]
  | b :: r => match ltP 30 b a with
    | true => b :: insP a r
    | false => a :: b :: r
def sortP : List PV → List PV
  | [] => []
  | a :: r => insP a (sortP r)
def fSortP : Bool → List EV → Option (List EV) := fun t xs => match t with
  | true => none
  | false => match allP xs with
    | some ps => match okSo ps with
      | true => some ((sortP ps).map .p)
      | false => none
    | none => none
/-! ### alike -/
mutual
theorem alike_alP : ∀ (n : Nat) (x y : PV), pdat n x = true → pdat n y = true → alike (toD x) (toD y) = alP n x y
  | 0, x, y, hx, hy => by
    cases x <;> cases y <;> first | (exact absurd hx Bool.false_ne_true) | (exact absurd hy Bool.false_ne_true) | (simp only [toD, alike, alP])
  | n + 1, x, y, hx, hy => by
    cases x <;> cases y <;> first
      | (exact absurd hx Bool.false_ne_true)
      | (exact absurd hy Bool.false_ne_true)
      | (rename_i xs ys; simp only [toD, alike, alP]; exact alikeAll_alP n xs ys (by simpa [pdat] using hx) (by simpa [pdat] using hy))
      | (simp only [toD, alike, alP])
theorem alikeAll_alP : ∀ (n : Nat) (xs ys : List PV), (∀ x ∈ xs, pdat n x = true) → (∀ x ∈ ys, pdat n x = true) → alikeAll (toDL xs) (toDL ys) = alL (alP n) xs ys
  | n, [], ys, _, _ => by cases ys <;> simp only [toDL, alikeAll, alL]
  | n, _ :: _, [], _, _ => by simp only [toDL, alikeAll, alL]
  | n, x :: xs, y :: ys, hx, hy => by
    simp only [toDL, alikeAll, alL]
    rw [alike_alP n x y (hx x (by simp)) (hy y (by simp)), alikeAll_alP n xs ys (fun z m => hx z (by simp [m])) (fun z m => hy z (by simp [m]))]
end
theorem str_lt (a b : List Nat) : dataLt (.str (toS a)) (.str (toS b)) = ltS a b := by
  rw [PySem.W.dataLt_str, ltS_eq, PyProof.Rows.ltCps_eq]
  rfl
theorem bl_lt (a b : Bool) : decide (b2i a < b2i b) = (!a && b) := by cases a <;> cases b <;> decide
mutual
theorem lt_ltP : ∀ (n : Nat) (x y : PV), pdat n x = true → pdat n y = true → alP n x y = true → dataLt (toD x) (toD y) = ltP n x y
  | 0, x, y, hx, hy, ha => by
    cases x <;> cases y <;> first
      | (exact absurd hx Bool.false_ne_true) | (exact absurd hy Bool.false_ne_true) | (exact absurd ha Bool.false_ne_true)
      | (simp only [toD, ltP, PySem.W.dataLt_bool, bl_lt]; done)
      | (simp only [toD, ltP, PySem.W.dataLt_int]; done)
      | (simp only [toD, ltP, str_lt]; done)
      | (simp only [toD, ltP, dataLt, keyToks, PyProof.Rows.lexLt])
  | n + 1, x, y, hx, hy, ha => by
    cases x <;> cases y <;> first
      | (exact absurd hx Bool.false_ne_true) | (exact absurd hy Bool.false_ne_true) | (exact absurd ha Bool.false_ne_true)
      | (simp only [toD, ltP, PySem.W.dataLt_bool, bl_lt]; done)
      | (simp only [toD, ltP, PySem.W.dataLt_int]; done)
      | (simp only [toD, ltP, str_lt]; done)
      | (rename_i xs ys; simp only [toD, ltP, PySem.W.dataLt_tuple]; exact ltAll_ltP n xs ys (by simpa [pdat] using hx) (by simpa [pdat] using hy) (by simpa [alP] using ha))
      | (rename_i xs ys; simp only [toD, ltP, PySem.W.dataLt_list]; exact ltAll_ltP n xs ys (by simpa [pdat] using hx) (by simpa [pdat] using hy) (by simpa [alP] using ha))
      | (simp only [toD, ltP, dataLt, keyToks, PyProof.Rows.lexLt])
theorem ltAll_ltP : ∀ (n : Nat) (xs ys : List PV), (∀ x ∈ xs, pdat n x = true) → (∀ x ∈ ys, pdat n x = true) → alL (alP n) xs ys = true → PyProof.Rows.lexLt PyProof.Rows.itemOrd (keyToksAll (toDL xs)) (keyToksAll (toDL ys)) = ltL (ltP n) (peq n) xs ys
  | n, [], [], _, _, _ => by simp only [toDL, keyToksAll, ltL]; exact PyProof.Rows.lex_irrefl _
  | n, [], y :: ys, _, _, _ => by
    simp only [toDL, ltL]
    rw [PySem.W.toks_all_cons]
    simp only [keyToksAll]
    rw [PyProof.Rows.lex_diff (O := PyProof.Rows.itemOrd) (by simp)]
    simp [PyProof.Rows.itemLt]
  | n, x :: xs, [], _, _, _ => by
    simp only [toDL, ltL]
    rw [PySem.W.toks_all_cons]
    simp only [keyToksAll]
    rw [PyProof.Rows.lex_diff (O := PyProof.Rows.itemOrd) (by simp)]
    simp [PyProof.Rows.itemLt]
  | n, x :: xs, y :: ys, hx, hy, ha => by
    simp only [alL, Bool.and_eq_true] at ha
    have h1 : alike (toD x) (toD y) = true := by rw [alike_alP n x y (hx x (by simp)) (hy y (by simp))]; exact ha.1
    have he := eqv_peq n x y (hx x (by simp)) (hy y (by simp))
    simp only [toDL, ltL]
    rw [PySem.W.dataLt_cons h1, he]
    cases peq n x y with
    | true => rw [if_pos rfl]; exact ltAll_ltP n xs ys (fun z m => hx z (by simp [m])) (fun z m => hy z (by simp [m])) ha.2
    | false => rw [if_neg (by decide)]; exact lt_ltP n x y (hx x (by simp)) (hy y (by simp)) ha.1
end
mutual
theorem peq_same : ∀ (n : Nat) (x y : PV), pdat n x = true → pdat n y = true → alP n x y = true → peq n x y = true → x = y
  | 0, x, y, hx, hy, ha, he => by
    cases x <;> cases y <;> first
      | (exact absurd hx Bool.false_ne_true) | (exact absurd hy Bool.false_ne_true) | (exact absurd ha Bool.false_ne_true) | rfl
      | (simp [peq, eqS_iff] at he; rw [he])
  | n + 1, x, y, hx, hy, ha, he => by
    cases x <;> cases y <;> first
      | (exact absurd hx Bool.false_ne_true) | (exact absurd hy Bool.false_ne_true) | (exact absurd ha Bool.false_ne_true) | rfl
      | (simp [peq, eqS_iff] at he; rw [he])
      | (rename_i xs ys; rw [peqAll_same n xs ys (by simpa [pdat] using hx) (by simpa [pdat] using hy) (by simpa [alP] using ha) (by simpa [peq] using he)])
theorem peqAll_same : ∀ (n : Nat) (xs ys : List PV), (∀ x ∈ xs, pdat n x = true) → (∀ x ∈ ys, pdat n x = true) → alL (alP n) xs ys = true → peqL (peq n) xs ys = true → xs = ys
  | n, [], [], _, _, _, _ => rfl
  | n, [], y :: ys, _, _, _, he => absurd he Bool.false_ne_true
  | n, x :: xs, [], _, _, _, he => absurd he Bool.false_ne_true
  | n, x :: xs, y :: ys, hx, hy, ha, he => by
    simp only [alL, Bool.and_eq_true] at ha
    simp only [peqL, Bool.and_eq_true] at he
    rw [peq_same n x y (hx x (by simp)) (hy y (by simp)) ha.1 he.1, peqAll_same n xs ys (fun z m => hx z (by simp [m])) (fun z m => hy z (by simp [m])) ha.2 he.2]
end
/-! ### one pair -/
abbrev tk (x : PV) : List (Int ⊕ List Nat) := keyToks (toD x)
abbrev tkLt (x y : PV) : Bool := PyProof.Rows.lexLt PyProof.Rows.itemOrd (tk x) (tk y)
theorem okPr_inv {x y : PV} (h : okPr x y = true) : ∃ a xs b ys, x = .tup (a :: xs) ∧ y = .tup (b :: ys) ∧ alP 29 a b = true ∧ (peq 29 a b = true → alL (alP 29) xs ys = true) := by
  unfold okPr at h
  split at h
  · rename_i a xs b ys
    split at h
    · rename_i h1
      refine ⟨a, xs, b, ys, rfl, rfl, h1, fun h2 => ?_⟩
      rw [h2] at h
      exact h
    · cases h
  · cases h
theorem pdat_tup {a : PV} {xs : List PV} (h : pdat 30 (.tup (a :: xs)) = true) : pdat 29 a = true ∧ ∀ x ∈ xs, pdat 29 x = true := by
  have h' : ∀ x ∈ a :: xs, pdat 29 x = true := by simpa [pdat] using h
  exact ⟨h' a (by simp), fun x m => h' x (by simp [m])⟩
theorem okPr_lt {x y : PV} (h : okPr x y = true) (hx : pdat 30 x = true) (hy : pdat 30 y = true) : tkLt x y = ltP 30 x y := by
  obtain ⟨a, xs, b, ys, rfl, rfl, h1, h2⟩ := okPr_inv h
  obtain ⟨pa, pxs⟩ := pdat_tup hx
  obtain ⟨pb, pys⟩ := pdat_tup hy
  have al : alike (toD a) (toD b) = true := by rw [alike_alP 29 a b pa pb]; exact h1
  have he := eqv_peq 29 a b pa pb
  show dataLt (toD (.tup (a :: xs))) (toD (.tup (b :: ys))) = ltL (ltP 29) (peq 29) (a :: xs) (b :: ys)
  simp only [toD, toDL, PySem.W.dataLt_tuple, ltL]
  rw [PySem.W.dataLt_cons al, he]
  cases hp : peq 29 a b with
  | true => rw [if_pos rfl]; exact ltAll_ltP 29 xs ys pxs pys (h2 hp)
  | false => rw [if_neg (by decide)]; exact lt_ltP 29 a b pa pb h1
theorem lexLt_more (t : List (Int ⊕ List Nat)) : PyProof.Rows.lexLt PyProof.Rows.itemOrd t (t ++ [.inl 0]) = true := by
  have := PySem.W.lex_pre t [] [.inl 0]
  rw [List.append_nil] at this
  rw [this]; rfl
theorem toks_same {x y : PV} {n : Nat} (hx : pdat n x = true) (hy : pdat n y = true) (ha : alP n x y = true) {l m : List (Int ⊕ List Nat)} (e : tk x ++ l = tk y ++ m) : peq n x y = true := by
  have al : alike (toD x) (toD y) = true := by rw [alike_alP n x y hx hy]; exact ha
  rw [← eqv_peq n x y hx hy]
  cases q : PyData.eqv (toD x) (toD y) with
  | true => rfl
  | false =>
    have h := (PySem.W.toks_eqv _ _ al).2 q
    have h1 := h l m
    have h2 := h l (m ++ [.inl 0])
    rw [e, PyProof.Rows.lex_irrefl] at h1
    rw [← List.append_assoc, e, lexLt_more, ← h1] at h2
    cases h2
theorem okPr_same {x y : PV} (h : okPr x y = true) (hx : pdat 30 x = true) (hy : pdat 30 y = true) (e : tk x = tk y) : x = y := by
  obtain ⟨a, xs, b, ys, rfl, rfl, h1, h2⟩ := okPr_inv h
  obtain ⟨pa, pxs⟩ := pdat_tup hx
  obtain ⟨pb, pys⟩ := pdat_tup hy
  simp only [tk, toD, toDL, keyToks] at e
  rw [PySem.W.toks_all_cons, PySem.W.toks_all_cons, List.cons_inj_right] at e
  have p := toks_same pa pb h1 e
  have eab := peq_same 29 a b pa pb h1 p
  subst eab
  rw [List.append_cancel_left_eq] at e
  have : peqL (peq 29) xs ys = true := by
    have al : alike (toD (.tup xs)) (toD (.tup ys)) = true := by
      have := alike_alP 30 (.tup xs) (.tup ys) (by simpa [pdat] using pxs) (by simpa [pdat] using pys)
      rw [this]; exact h2 p
    have q := toks_same (n := 30) (x := .tup xs) (y := .tup ys) (l := []) (m := []) (by simpa [pdat] using pxs) (by simpa [pdat] using pys) (h2 p) (by simpa [tk, toD, keyToks] using e)
    exact q
  rw [peqAll_same 29 xs ys pxs pys (h2 p) this]
/-! ### the sort itself -/
theorem insP_perm (a : PV) : ∀ l, (insP a l).Perm (a :: l)
  | [] => .refl _
  | b :: r => by
    unfold insP
    split
    · exact ((insP_perm a r).cons b).trans (.swap _ _ _)
    · exact .refl _
theorem sortP_perm : ∀ l, (sortP l).Perm l
  | [] => .refl _
  | a :: r => (insP_perm a (sortP r)).trans ((sortP_perm r).cons a)
abbrev TL (l : List PV) : Prop := l.Pairwise fun x y => tkLt y x = false
theorem tk_trans {x y z : PV} (h1 : tkLt y x = false) (h2 : tkLt z y = false) : tkLt z x = false := by
  cases h : tkLt z x with
  | false => rfl
  | true =>
    rcases PyProof.Rows.lex_negTrans (O := PyProof.Rows.itemOrd) (tk z) (tk y) (tk x) h with q | q
    · rw [show PyProof.Rows.lexLt PyProof.Rows.itemOrd (tk z) (tk y) = false from h2] at q; cases q
    · rw [show PyProof.Rows.lexLt PyProof.Rows.itemOrd (tk y) (tk x) = false from h1] at q; cases q
theorem tk_asym {x y : PV} (h : tkLt x y = true) : tkLt y x = false := by
  cases q : tkLt y x with
  | false => rfl
  | true =>
    have := PyProof.Rows.lex_trans (O := PyProof.Rows.itemOrd) _ _ _ h q
    rw [PyProof.Rows.lex_irrefl] at this
    cases this
theorem insP_sorted {S : List PV} (ok : okSo S = true) {a : PV} (ma : a ∈ S) : ∀ l : List PV, (∀ x ∈ l, x ∈ S) → TL l → TL (insP a l)
  | [], _, _ => by simp [insP]
  | b :: r, hl, h => by
    have okx : ∀ x ∈ S, pdat 30 x = true ∧ ∀ y ∈ S, okPr x y = true := fun x m => by
      have := List.all_eq_true.mp ok x m
      rw [Bool.and_eq_true] at this
      exact ⟨this.1, fun y m => List.all_eq_true.mp this.2 y m⟩
    obtain ⟨h1, h2⟩ := List.pairwise_cons.mp h
    have mb := hl b (by simp)
    have e := okPr_lt ((okx b mb).2 a ma) (okx b mb).1 (okx a ma).1
    unfold insP
    split
    · rename_i c
      rw [c] at e
      refine List.pairwise_cons.mpr ⟨fun x hx => ?_, insP_sorted ok ma r (fun x m => hl x (by simp [m])) h2⟩
      rcases List.mem_cons.mp ((insP_perm a r).mem_iff.mp hx) with rfl | hx
      · exact tk_asym e
      · exact h1 x hx
    · rename_i c
      rw [c] at e
      exact List.pairwise_cons.mpr ⟨fun x hx => by
        rcases List.mem_cons.mp hx with rfl | hx
        · exact e
        · exact tk_trans e (h1 x hx), h⟩
theorem sortP_sorted {S : List PV} (ok : okSo S = true) : ∀ l : List PV, (∀ x ∈ l, x ∈ S) → TL (sortP l)
  | [], _ => .nil
  | a :: r, h => insP_sorted ok (h a (by simp)) _ (fun x m => h x (by simp [(sortP_perm r).mem_iff.mp m])) (sortP_sorted ok r fun x m => h x (by simp [m]))
theorem sort_is {bs : List (PV × V)} (ok : okSo (bs.map (·.1)) = true) : (bs.mergeSort tokLe).map (·.1) = sortP (bs.map (·.1)) := by
  have p1 : ((bs.mergeSort tokLe).map (·.1)).Perm (bs.map (·.1)) := (List.mergeSort_perm _ _).map _
  have p2 := sortP_perm (bs.map (·.1))
  have s1 : TL ((bs.mergeSort tokLe).map (·.1)) := by
    refine List.pairwise_map.mpr ((PySem.W.sort_pairwise (PySem.W.sortLe_total _ _ _) bs).imp ?_)
    intro x y h
    have h' : (!PyProof.Rows.lexLt PyProof.Rows.itemOrd (tk y.1) (tk x.1)) = true := h
    simpa using h'
  have s2 := sortP_sorted ok (bs.map (·.1)) fun x m => m
  have okx : ∀ x ∈ bs.map (·.1), pdat 30 x = true ∧ ∀ y ∈ bs.map (·.1), okPr x y = true := fun x m => by
    have := List.all_eq_true.mp ok x m
    rw [Bool.and_eq_true] at this
    exact ⟨this.1, fun y m => List.all_eq_true.mp this.2 y m⟩
  refine (p1.trans p2.symm).eq_of_pairwise (fun x y mx my h1 h2 => ?_) s1 s2
  have mx' := p1.mem_iff.mp mx
  have my' := p2.mem_iff.mp my
  exact okPr_same ((okx x mx').2 y my') (okx x mx').1 (okx y my').1 (PyProof.Rows.lex_total (O := PyProof.Rows.itemOrd) _ _ h2 h1)
/-! ### the rule -/
section
variable {G : Wd} {X : Cx}
theorem prepL_zip {ρ : Rh} {H : Hp} : ∀ {ps : List PV} {vs : List V}, PRepL G ρ H ps vs → ∀ b ∈ ps.zip vs, PRep G ρ H b.1 b.2
  | _, _, .nil, _, m => by simp at m
  | _, _, .cons a b, c, m => by
    rcases (by simpa using m : c = _ ∨ c ∈ _) with rfl | m
    · exact a
    · exact prepL_zip b c m
theorem zip_prepL {ρ : Rh} {H : Hp} : ∀ {bs : List (PV × V)}, (∀ b ∈ bs, PRep G ρ H b.1 b.2) → PRepL G ρ H (bs.map (·.1)) (bs.map (·.2))
  | [], _ => .nil
  | b :: bs, h => .cons (h b (by simp)) (zip_prepL fun c m => h c (by simp [m]))
theorem firsts_of {bs : List PV} (ok : okSo bs = true) : Firsts (bs.map toD) := by
  have okx : ∀ x ∈ bs, pdat 30 x = true ∧ ∀ y ∈ bs, okPr x y = true := fun x m => by
    have := List.all_eq_true.mp ok x m
    rw [Bool.and_eq_true] at this
    exact ⟨this.1, fun y m => List.all_eq_true.mp this.2 y m⟩
  intro d hd d' hd'
  obtain ⟨x, mx, rfl⟩ := List.mem_map.mp hd
  obtain ⟨y, my, rfl⟩ := List.mem_map.mp hd'
  obtain ⟨a, xs, b, ys, rfl, rfl, h1, h2⟩ := okPr_inv ((okx x mx).2 y my)
  obtain ⟨pa, pxs⟩ := pdat_tup (okx _ mx).1
  obtain ⟨pb, pys⟩ := pdat_tup (okx _ my).1
  refine ⟨toD a, toDL xs, toD b, toDL ys, by simp only [toD, toDL], by simp only [toD, toDL], by rw [alike_alP 29 a b pa pb]; exact h1, fun e => ?_⟩
  rw [eqv_peq 29 a b pa pb] at e
  rw [alikeAll_alP 29 xs ys pxs pys]
  exact h2 e
theorem rcl_sortP {k : Nat} (hr : Room k X.A) (hK : X.K = G.K := by rfl) : RCL G X (.builtin "sorted") fSortP := by
  intro t xs h ρ H a vs Q ys R sq r e kk
  unfold fSortP at e
  split at e
  · cases e
  · split at e
    · rename_i ps ep
      split at e
      · rename_i ok
        cases e
        have rp := r.plain ep
        have hl := rp.length
        have e1 : (ps.zip vs).map (·.1) = ps := List.map_fst_zip (by omega)
        have e2 : (ps.zip vs).map (·.2) = vs := List.map_snd_zip (by omega)
        have pz := prepL_zip rp
        have okx : ∀ x ∈ ps, pdat 30 x = true := fun x m => by
          have := List.all_eq_true.mp ok x m
          rw [Bool.and_eq_true] at this
          exact this.1
        have mz : ∀ b ∈ ps.zip vs, b.1 ∈ ps := fun b m => (List.of_mem_zip m).1
        refine wC.of (cr_sortF (by have := hr.un; omega)) ⟨a, ps.zip vs, rfl, by rw [e2, hK]; exact sq, fun b m => by rw [hK]; exact (toD_dp (pz b m) (okx _ (mz b m))).1, ?_, fun b m => Nat.le_trans (toD_dp (pz b m) (okx _ (mz b m))).2.2 (by decide), fun p hp => ?_⟩
        · have := firsts_of ok
          rw [← e1, List.map_map] at this
          exact this
        · refine kk p _ hp ?_
          have s := sort_is (bs := ps.zip vs) (by rw [e1]; exact ok)
          rw [e1] at s
          rw [← s]
          exact (zip_prepL fun b m => pz b ((List.mergeSort_perm _ _).mem_iff.mp m)).lift
      · cases e
    · cases e
end
end Y
end

section
set_option maxHeartbeats 1000000
/-! YA: sorted of texts, or of tuples that differ (their objects as they are now). -/
namespace Y
open PySem PySem.Spec PyProof.Rows L2
def insE {α : Type} (a : PV × α) : List (PV × α) → List (PV × α)
  | [] => [a]
  | b :: r => match ltP 30 b.1 a.1 with
    | true => b :: insE a r
    | false => a :: b :: r
def sortE {α : Type} : List (PV × α) → List (PV × α)
  | [] => []
  | a :: r => insE a (sortE r)
def stP : List PV → Bool
  | [] => true
  | x :: r => r.all (fun y => ltP 30 x y || ltP 30 y x) && stP r
def sorA (h : EH) (t : Bool) (xs : List EV) : Option (List EV) := match strsOf xs with
  | some _ => fSorted t xs
  | none => match t with
    | true => none
    | false => match rsvL (rsv h 30) xs with
      | some ps => match okSo ps && stP ps with
        | true => some ((sortE (ps.zip xs)).map (·.2))
        | false => none
      | none => none
def lSort (fe : ES → M EV) : ES → M (List EV) := fun σ h => (fe σ h).bind fun v h1 => R.opt ((seqOf h1 v).bind fun q => sorA h1 q.1 q.2) h1
def lSortL (fe : ES → M (List EV)) : ES → M (List EV) := fun σ h => (fe σ h).bind fun xs h1 => R.opt (sorA h1 false xs) h1
/-! ### the sort -/
theorem insE_perm {α : Type} (a : PV × α) : ∀ l, (insE a l).Perm (a :: l)
  | [] => .refl _
  | b :: r => by
    unfold insE
    split
    · exact ((insE_perm a r).cons b).trans (.swap _ _ _)
    · exact .refl _
theorem sortE_perm {α : Type} : ∀ l : List (PV × α), (sortE l).Perm l
  | [] => .refl _
  | a :: r => (insE_perm a (sortE r)).trans ((sortE_perm r).cons a)
theorem insE_fst {α : Type} (a : PV × α) : ∀ l, (insE a l).map (·.1) = insP a.1 (l.map (·.1))
  | [] => rfl
  | b :: r => by
    simp only [insE, List.map_cons, insP]
    cases ltP 30 b.1 a.1 with
    | true => simp only [List.map_cons, insE_fst a r]
    | false => rfl
theorem sortE_fst {α : Type} : ∀ l : List (PV × α), (sortE l).map (·.1) = sortP (l.map (·.1))
  | [] => rfl
  | a :: r => by simp only [sortE, List.map_cons, sortP, insE_fst, sortE_fst r]
theorem stP_ne : ∀ {ps : List PV}, okSo ps = true → stP ps = true → ps.Pairwise fun x y => tk x ≠ tk y := by
  intro ps ok
  have okx : ∀ x ∈ ps, pdat 30 x = true ∧ ∀ y ∈ ps, okPr x y = true := fun x m => by
    have := List.all_eq_true.mp ok x m
    rw [Bool.and_eq_true] at this
    exact ⟨this.1, fun y m => List.all_eq_true.mp this.2 y m⟩
  clear ok
  have go : ∀ l : List PV, (∀ x ∈ l, x ∈ ps) → stP l = true → l.Pairwise fun x y => tk x ≠ tk y := by
    intro l
    induction l with
    | nil => intro _ _; exact .nil
    | cons x r ih =>
      intro hm hs
      simp only [stP, Bool.and_eq_true] at hs
      refine List.pairwise_cons.mpr ⟨fun y my e => ?_, ih (fun z m => hm z (by simp [m])) hs.2⟩
      have mx := hm x (by simp)
      have my' := hm y (by simp [my])
      have h := List.all_eq_true.mp hs.1 y my
      rw [← okPr_lt ((okx x mx).2 y my') (okx x mx).1 (okx y my').1, ← okPr_lt ((okx y my').2 x mx) (okx y my').1 (okx x mx).1] at h
      simp only [tkLt, e, PyProof.Rows.lex_irrefl] at h
      cases h
  exact go ps fun x m => m
theorem pw_inj {α : Type} {f : α → List (Int ⊕ List Nat)} : ∀ {l : List α}, l.Pairwise (fun x y => f x ≠ f y) → ∀ x ∈ l, ∀ y ∈ l, f x = f y → x = y
  | [], _, x, m, _, _, _ => absurd m (by simp)
  | a :: r, h, x, mx, y, my, e => by
    obtain ⟨h1, h2⟩ := List.pairwise_cons.mp h
    rcases List.mem_cons.mp mx with ex | mx'
    · rcases List.mem_cons.mp my with ey | my'
      · rw [ex, ey]
      · exact absurd (ex ▸ e) (h1 y my')
    · rcases List.mem_cons.mp my with ey | my'
      · exact absurd (ey ▸ e.symm) (h1 x mx')
      · exact pw_inj h2 x mx' y my' e
/-- both sorts of a list of triples go alike -/
theorem sort_two {β : Type} {ts : List (PV × β)} (ok : okSo (ts.map (·.1)) = true) (st : stP (ts.map (·.1)) = true) : ts.mergeSort (fun a b => PySem.W.sortLe (PyProof.Rows.listOrd PyProof.Rows.itemOrd) false (fun b : PV × β => tk b.1) a b) = sortE ts := by
  have p1 := List.mergeSort_perm ts (fun a b => PySem.W.sortLe (PyProof.Rows.listOrd PyProof.Rows.itemOrd) false (fun b : PV × β => tk b.1) a b)
  have p2 := sortE_perm ts
  have s1 : (ts.mergeSort (fun a b => PySem.W.sortLe (PyProof.Rows.listOrd PyProof.Rows.itemOrd) false (fun b : PV × β => tk b.1) a b)).Pairwise fun x y => tkLt y.1 x.1 = false := by
    refine (PySem.W.sort_pairwise (PySem.W.sortLe_total _ _ _) ts).imp ?_
    intro x y h
    have h' : (!PyProof.Rows.lexLt PyProof.Rows.itemOrd (tk y.1) (tk x.1)) = true := h
    simpa using h'
  have s2 : (sortE ts).Pairwise fun x y => tkLt y.1 x.1 = false := by
    have := sortP_sorted ok (ts.map (·.1)) fun x m => m
    rw [← sortE_fst] at this
    exact List.pairwise_map.mp this
  have ne : ts.Pairwise fun x y => tk x.1 ≠ tk y.1 := (List.pairwise_map (R := fun x y => tk x ≠ tk y)).mp (stP_ne ok st)
  refine (p1.trans p2.symm).eq_of_pairwise (fun x y mx my h1 h2 => ?_) s1 s2
  exact pw_inj (f := fun t : PV × β => tk t.1) ne x (p1.mem_iff.mp mx) y (p2.mem_iff.mp my) (PyProof.Rows.lex_total (O := PyProof.Rows.itemOrd) _ _ h2 h1)
section
variable {G : Wd} {X : Cx}
inductive Rep3 (G : Wd) (ρ0 ρ : Rh) (H : Hp) : List (PV × EV × V) → Prop
  | nil : Rep3 G ρ0 ρ H []
  | cons {p : PV} {x : EV} {v : V} {ts : List (PV × EV × V)} : PRep G ρ0 H p v → Rep G ρ H x v → Rep3 G ρ0 ρ H ts → Rep3 G ρ0 ρ H ((p, x, v) :: ts)
theorem rep3_of {ρ : Rh} {h : EH} {H : Hp} (R : Rel G ρ h H) : ∀ {xs : List EV} {vs : List V} {ps : List PV}, RepL G ρ H xs vs → rsvL (rsv h 30) xs = some ps → ∃ ts : List (PV × EV × V), (∀ t ∈ ts, PRep G ⟨ρ.out, []⟩ H t.1 t.2.2 ∧ Rep G ρ H t.2.1 t.2.2) ∧ ts.map (·.1) = ps ∧ ts.map (fun t => t.2.1) = xs ∧ ts.map (fun t => t.2.2) = vs
  | [], _, _, .nil, e => by cases e; exact ⟨[], by simp, rfl, rfl, rfl⟩
  | x :: xs, _, _, .cons (v := v) a b, e => by
    simp only [rsvL] at e
    split at e
    · rename_i d ds e1 e2
      cases e
      obtain ⟨ts, h1, h2, h3, h4⟩ := rep3_of R b e2
      refine ⟨(d, x, v) :: ts, fun t m => ?_, by simp [h2], by simp [h3], by simp [h4]⟩
      rcases List.mem_cons.mp m with rfl | m
      · exact ⟨rsv_rep R 30 x v d a e1, a⟩
      · exact h1 t m
    · cases e
theorem rep_map {ρ : Rh} {H : Hp} : ∀ {ts : List (PV × EV × V)}, (∀ t ∈ ts, Rep G ρ H t.2.1 t.2.2) → RepL G ρ H (ts.map fun t => t.2.1) (ts.map fun t => t.2.2)
  | [], _ => .nil
  | t :: ts, h => .cons (h t (by simp)) (rep_map fun c m => h c (by simp [m]))
theorem sorA_run {k : Nat} (hr : Room k X.A) (hK : X.K = G.K) {t : Bool} {xs ys : List EV} {h : EH} {ρ : Rh} {H : Hp} {a : Addr} {vs : List V} {Q : VK} (R : Rel G ρ h H) (sq : SqB G.K H t a vs) (r : RepL G ρ H xs vs) (e : sorA h t xs = some ys)
    (kk : ∀ p ws, H p = none → RepL G ρ H ys ws → Q (.ref p) (upd H p (.lst ws))) : wC X (.builtin "sorted") [.ref a] H Q := by
  unfold sorA at e
  split at e
  · exact rcl_sorted hK t xs h ρ H a vs Q ys R sq r e kk
  · split at e
    · cases e
    · split at e
      · rename_i ps ep
        split at e
        · rename_i ok
          cases e
          rw [Bool.and_eq_true] at ok
          obtain ⟨ts, m, rfl, rfl, rfl⟩ := rep3_of R r ep
          have okx : ∀ x ∈ ts.map (·.1), pdat 30 x = true := fun x mm => by
            have := List.all_eq_true.mp ok.1 x mm
            rw [Bool.and_eq_true] at this
            exact this.1
          have hb : ∀ b ∈ ts.map (fun t => (t.1, t.2.2)), PRep G ⟨ρ.out, []⟩ H b.1 b.2 ∧ pdat 30 b.1 = true := fun b mb => by
            obtain ⟨t, mt, rfl⟩ := List.mem_map.mp mb
            exact ⟨(m t mt).1, okx _ (List.mem_map.mpr ⟨t, mt, rfl⟩)⟩
          refine wC.of (cr_sortF (by have := hr.un; omega)) ⟨a, ts.map (fun t => (t.1, t.2.2)), rfl, by rw [List.map_map, hK]; exact sq, fun b mb => by rw [hK]; exact (toD_dp (hb b mb).1 (hb b mb).2).1, ?_, fun b mb => Nat.le_trans (toD_dp (hb b mb).1 (hb b mb).2).2.2 (by decide), fun p hp => ?_⟩
          · have := firsts_of ok.1
            rw [List.map_map] at this ⊢
            exact this
          · have q := sort_two ok.1 ok.2
            have e1 : (ts.map (fun t => (t.1, t.2.2))).mergeSort tokLe = (sortE ts).map (fun t => (t.1, t.2.2)) := by
              rw [← q]
              exact (PySem.W.sort_maps (fun t : PV × EV × V => (t.1, t.2.2)) fun x _ y _ => rfl).symm
            have e2 : sortE (List.zip (ts.map (·.1)) (ts.map fun t => t.2.1)) = (sortE ts).map (fun t => (t.1, t.2.1)) := by
              have z : List.zip (ts.map (·.1)) (ts.map fun t => t.2.1) = ts.map (fun t => (t.1, t.2.1)) := by rw [List.zip_map']
              have w := sort_two (ts := ts.map (fun t => (t.1, t.2.1))) (by rw [List.map_map]; exact ok.1) (by rw [List.map_map]; exact ok.2)
              rw [z, ← w, ← q]
              exact (PySem.W.sort_maps (fun t : PV × EV × V => (t.1, t.2.1)) fun x _ y _ => rfl).symm
            have mm : ∀ t ∈ sortE ts, Rep G ρ H t.2.1 t.2.2 := fun t mt => (m t ((sortE_perm ts).mem_iff.mp mt)).2
            rw [e1, List.map_map]
            refine kk p _ hp ?_
            rw [e2, List.map_map]
            exact rep_map mm
        · cases e
      · cases e
variable {x : Str} {e : Expr} {p pos : Pos}
theorem rl_sort {k : Nat} {fe : ES → M EV} (hd : Hd X x (.builtin "sorted")) (hr : Room k X.A) (ha : RE G X e fe) (he : starEach [e] X.env = (false, eval e X.env) :: starEach [] X.env := by rfl) (hK : X.K = G.K := by rfl) : RL G X (.Call (.Name x p) [e] [] pos) (lSort fe) := by
  intro σ h ρ τ H Q R S ff
  refine wE.of (hd p pos e [] _ he rfl (pa_cons wE.pe pa_nil he)) ?_
  refine ha σ h ρ τ H _ R S (FinE.imp (FinE.bind ff) fun v h1 ρ1 H1 e1 R1 f1 w rv => ?_)
  obtain ⟨z, eo, f2⟩ := opt_fin f1
  cases es : seqOf h1 v with
  | none => rw [es] at eo; cases eo
  | some q =>
    rw [es] at eo
    obtain ⟨a, vs, rfl, sq, rr⟩ := seq_rep R1 rv es
    exact sorA_run hr hK R1 sq rr eo fun t ws ht rt => LK.laid ht (e1.dom t ht) R1 rt (f2 ρ1 _ (Ext.laid0 ht) (R1.aside ht))
theorem rl_sortL {k : Nat} {fe : ES → M (List EV)} (hd : Hd X x (.builtin "sorted")) (hr : Room k X.A) (ha : RL G X e fe) (he : starEach [e] X.env = (false, eval e X.env) :: starEach [] X.env := by rfl) (hK : X.K = G.K := by rfl) : RL G X (.Call (.Name x p) [e] [] pos) (lSortL fe) := by
  intro σ h ρ τ H Q R S ff
  refine wE.of (hd p pos e [] _ he rfl (pa_cons wE.pe pa_nil he)) ?_
  refine ha σ h ρ τ H _ R S (FinE.imp (FinE.bind ff) fun xs h1 ρ1 H1 e1 R1 f1 q vs hq m l Rp r => ?_)
  obtain ⟨z, eo, f2⟩ := opt_fin f1
  exact sorA_run (t := false) hr hK R1 (.inl (.inl l)) (r.mono Mo.unhid) eo fun t ws ht rt => LK.laid ht (e1.dom t ht) R1 rt (f2 ρ1 _ (Ext.laid0 ht) (R1.aside ht))
end
end Y
end

section
set_option maxHeartbeats 1000000
/-! YB: calls whose callee works in our heap and gives a value of its own, plain from then on. -/
namespace Y
open PySem PySem.Spec PyProof.Rows L2
/-- no object from n on stands in it -/
def evIn (n : Nat) : Nat → EV → Bool
  | _, .p _ => true
  | k + 1, .tup xs => xs.all (evIn n k)
  | _, .ref m => Nat.blt m n
  | 0, .tup _ => false
def eoIn (n : Nat) : EO → Bool
  | .lst xs => xs.all (evIn n 30)
  | .dK kvs => kvs.all fun kv => evIn n 30 kv.2
  | .dT kvs => kvs.all fun kv => evIn n 30 kv.2
  | .dF kvs => kvs.all fun kv => evIn n 30 kv.2
  | .ins _ fs => fs.all fun kv => evIn n 30 kv.2
/-- a value with its objects, all of them from n on -/
def rsvF (h : EH) (m : Nat) : Nat → EV → Option PV
  | n, .p v => some v
  | 0, _ => none
  | n + 1, .tup xs => (rsvL (rsvF h m n) xs).map .tup
  | n + 1, .ref k => match Nat.ble m k with
    | false => none
    | true => match h[k]? with
      | some (.lst xs) => (rsvL (rsvF h m n) xs).map .lst
      | some (.dK kvs) => (rsvK (rsvF h m n) kvs).map .dic
      | some (.dT kvs) => (rsvK (rsvF h m n) kvs).map .dit
      | some (.dF kvs) => (rsvK (rsvF h m n) kvs).map .dic
      | some (.ins c fs) => (rsvK (rsvF h m n) fs).map (.obj c)
      | none => none
def trim (n : Nat) (r : R EV) : R EV := match r with
  | .ok v h2 => match (h2.take n).all (eoIn n) with
    | true => match rsvF h2 n 30 v with
      | some d => .ok (.p d) (h2.take n)
      | none => .ok v h2
    | false => .ok v h2
  | r => r
def callM (F : List EV → EH → R EV) (vs : List EV) (h : EH) : R EV := match allP vs with
  | some ps => pcall F ps h
  | none => trim h.length (F vs h)
def eFnM (F : List EV → EH → R EV) (ds : List PV) (fa : ES → M (List EV)) : ES → M EV := fun σ h => (fa σ h).bind fun vs h1 => callM F (vs ++ ds.map .p) h1
section
variable {G : Wd} {X : Cx}
structure Sub (ρ ρ' : Rh) (n : Nat) : Prop where
  out : ρ'.out = ρ.out
  loc : ∃ t, ρ'.loc = ρ.loc ++ t
  len : ρ.loc.length = n
theorem Sub.all {ρ ρ' : Rh} {n : Nat} (S : Sub ρ ρ' n) {a : Addr} (m : a ∈ ρ.all) : a ∈ ρ'.all := by
  obtain ⟨t, e⟩ := S.loc
  rcases Rh.mem_all.mp m with z | z
  · exact Rh.mem_all.mpr (.inl (by rw [S.out]; exact z))
  · exact Rh.mem_all.mpr (.inr (by rw [e]; exact List.mem_append_left _ z))
theorem Sub.get {ρ ρ' : Rh} {n k : Nat} (S : Sub ρ ρ' n) (h : k < n) : ρ'.loc[k]? = ρ.loc[k]? := by
  obtain ⟨t, e⟩ := S.loc
  rw [e, List.getElem?_append_left (by rw [S.len]; exact h)]
theorem Sub.fresh {ρ ρ' : Rh} {n k : Nat} {h : EH} {H : Hp} {a : Addr} (S : Sub ρ ρ' n) (R : Rel G ρ' h H) (hk : n ≤ k) (q : ρ'.loc[k]? = some a) : a ∉ ρ.all := fun m => by
  obtain ⟨t, e⟩ := S.loc
  rcases Rh.mem_all.mp m with z | z
  · exact R.sep a (by rw [S.out]; exact z) (List.mem_of_getElem? q)
  · obtain ⟨i, hi, ei⟩ := List.mem_iff_getElem.mp z
    have h1 : ρ'.loc[i]? = some a := by rw [e, List.getElem?_append_left hi, List.getElem?_eq_getElem hi, ei]
    obtain ⟨l1, e1⟩ := List.getElem?_eq_some_iff.mp h1
    obtain ⟨l2, e2⟩ := List.getElem?_eq_some_iff.mp q
    have := (List.getElem_inj R.nd).mp (e1.trans e2.symm)
    have := S.len
    omega
theorem rsvF_rep {ρ ρ' : Rh} {h : EH} {H : Hp} {m : Nat} (S : Sub ρ ρ' m) (R : Rel G ρ' h H) : ∀ (n : Nat) (x : EV) (v : V) (d : PV), Rep G ρ' H x v → rsvF h m n x = some d → PRep G ρ H d v := by
  have sub : ∀ a, a ∈ ρ.all → a ∈ ρ'.all := fun a m => S.all m
  intro n
  induction n with
  | zero =>
    intro x v d r e
    cases x with
    | p w => simp only [rsvF] at e; cases e; exact (rep_p r).set sub
    | tup xs => simp only [rsvF] at e; cases e
    | ref k => simp only [rsvF] at e; cases e
  | succ n ih =>
    intro x v d r e
    cases x with
    | p w => simp only [rsvF] at e; cases e; exact (rep_p r).set sub
    | tup xs =>
      simp only [rsvF] at e
      cases e1 : rsvL (rsvF h m n) xs with
      | none => rw [e1] at e; cases e
      | some ds =>
        rw [e1] at e; cases e
        cases r with
        | tup q rr => exact .tup ⟨fun z => q.1 (sub _ z), q.2⟩ (rsvL_rep ih rr e1)
    | ref k =>
      simp only [rsvF] at e
      split at e
      · cases e
      · rename_i hk
        have hk := Nat.le_of_ble_eq_true hk
        split at e
        · rename_i xs eo
          obtain ⟨a, rfl, qa, vs, hv, rv⟩ := getref R r eo
          cases e1 : rsvL (rsvF h m n) xs with
          | none => rw [e1] at e; cases e
          | some ds => rw [e1] at e; cases e; exact .lst ⟨S.fresh R hk qa, hv⟩ (rsvL_rep ih rv e1)
        · rename_i xs eo
          obtain ⟨a, rfl, qa, vs, hv, rv⟩ := getref R r eo
          cases e1 : rsvK (rsvF h m n) xs with
          | none => rw [e1] at e; cases e
          | some ds => rw [e1] at e; cases e; exact .dK (S.fresh R hk qa) (.inl hv) (rsvK_repK ih rv e1)
        · rename_i xs eo
          obtain ⟨a, rfl, qa, vs, hv, rv⟩ := getref R r eo
          cases e1 : rsvK (rsvF h m n) xs with
          | none => rw [e1] at e; cases e
          | some ds => rw [e1] at e; cases e; exact .dT (S.fresh R hk qa) hv (rsvK_repT ih rv e1)
        · rename_i xs eo
          obtain ⟨a, rfl, qa, o, vs, hv, rv⟩ := getref R r eo
          cases e1 : rsvK (rsvF h m n) xs with
          | none => rw [e1] at e; cases e
          | some ds => rw [e1] at e; cases e; exact .dK (S.fresh R hk qa) (.inr ⟨o, hv⟩) (rsvK_repK ih rv e1)
        · rename_i c xs eo
          obtain ⟨a, rfl, qa, dx, gs, hv, rv, kd, fa⟩ := getref R r eo
          cases e1 : rsvK (rsvF h m n) xs with
          | none => rw [e1] at e; cases e
          | some ds =>
            rw [e1] at e; cases e
            refine .obj ⟨S.fresh R hk qa, ?_⟩ (rsvK_repF ih rv e1) fun q mq => ?_
            · rw [kd]; exact ⟨dx, hv⟩
            · have hh := rsvK_keys e1
              have : q.1 ∈ ds.map (·.1) := List.mem_map.mpr ⟨q, mq, rfl⟩
              rw [hh] at this
              obtain ⟨q', mq', eq'⟩ := List.mem_map.mp this
              rw [← eq']
              exact fa q' mq'
        · cases e
mutual
theorem evIn_rep {ρ ρ' : Rh} {H : Hp} {m : Nat} (S : Sub ρ ρ' m) : ∀ (n : Nat) {x : EV} {v : V}, Rep G ρ' H x v → evIn m n x = true → Rep G ρ H x v
  | _, .p w, _, r, _ => .p ((rep_p r).set fun a z => S.all z)
  | 0, .tup xs, _, r, e => by simp [evIn] at e
  | n + 1, .tup xs, _, r, e => by
    cases r with
    | tup q rr => exact .tup ⟨fun z => q.1 (S.all z), q.2⟩ (evIn_repL S n rr (by simpa [evIn] using e))
  | n, .ref k, _, r, e => by
    have hk : k < m := by cases n <;> exact Nat.blt_eq.mp (by simpa [evIn] using e)
    cases r with
    | ref q => exact .ref (by rw [← S.get hk]; exact q)
theorem evIn_repL {ρ ρ' : Rh} {H : Hp} {m : Nat} (S : Sub ρ ρ' m) : ∀ (n : Nat) {xs : List EV} {vs : List V}, RepL G ρ' H xs vs → (∀ x ∈ xs, evIn m n x = true) → RepL G ρ H xs vs
  | _, [], _, .nil, _ => .nil
  | n, x :: xs, _, .cons a b, e => .cons (evIn_rep S n a (e x (by simp))) (evIn_repL S n b fun y my => e y (by simp [my]))
end
theorem evIn_repP {κ : Type} {kf : PV → Option κ} {ρ ρ' : Rh} {H : Hp} {m : Nat} (S : Sub ρ ρ' m) : ∀ {xs : List (PV × EV)} {vs : List (κ × V)}, RepP kf G ρ' H xs vs → (∀ x ∈ xs, evIn m 30 x.2 = true) → RepP kf G ρ H xs vs
  | [], _, .nil, _ => .nil
  | x :: xs, _, .cons k a b, e => .cons k (evIn_rep S 30 a (e _ (by simp))) (evIn_repP S b fun y my => e y (by simp [my]))
theorem evIn_repF {ρ ρ' : Rh} {H : Hp} {m : Nat} (S : Sub ρ ρ' m) : ∀ {xs : List (Nat × EV)} {vs : List (Str × V)}, RepF G ρ' H xs vs → (∀ x ∈ xs, evIn m 30 x.2 = true) → RepF G ρ H xs vs
  | [], _, .nil, _ => .nil
  | x :: xs, _, .cons k a b, e => .cons k (evIn_rep S 30 a (e _ (by simp))) (evIn_repF S b fun y my => e y (by simp [my]))
theorem eoIn_rep {ρ ρ' : Rh} {H : Hp} {m : Nat} (S : Sub ρ ρ' m) {a : Addr} {o : EO} (r : ORep G ρ' H a o) (e : eoIn m o = true) : ORep G ρ H a o := by
  cases o with
  | lst xs => obtain ⟨vs, q, r⟩ := r; exact ⟨vs, q, evIn_repL S 30 r (by simpa [eoIn] using e)⟩
  | dK xs => obtain ⟨vs, q, r⟩ := r; exact ⟨vs, q, evIn_repP S r fun x m => List.all_eq_true.mp e x m⟩
  | dT xs => obtain ⟨vs, q, r⟩ := r; exact ⟨vs, q, evIn_repP S r fun x m => List.all_eq_true.mp e x m⟩
  | dF xs => obtain ⟨o, vs, q, r⟩ := r; exact ⟨o, vs, q, evIn_repP S r fun x m => List.all_eq_true.mp e x m⟩
  | ins c xs => obtain ⟨dx, vs, q, r, w⟩ := r; exact ⟨dx, vs, q, evIn_repF S r (fun x m => List.all_eq_true.mp e x m), w⟩
theorem Ext.sub {ρ ρ' : Rh} {H H' : Hp} {h : EH} (e : Ext ρ H ρ' H') (R : Rel G ρ h H) : Sub ρ ρ' h.length := ⟨e.out, e.pre, R.len⟩
theorem Ext.back {ρ ρ' : Rh} {H H' : Hp} (e : Ext ρ H ρ' H') : Ext ρ H ρ H' := ⟨rfl, ⟨[], by simp⟩, e.lck, e.oth, e.dom, fun a m => .inl m⟩
theorem Rel.back {ρ ρ' : Rh} {H' : Hp} {h2 : EH} {n : Nat} (S : Sub ρ ρ' n) (R : Rel G ρ' h2 H') (cl : (h2.take n).all (eoIn n) = true) : Rel G ρ (h2.take n) H' := by
  obtain ⟨t, et⟩ := S.loc
  have hl : n ≤ h2.length := by rw [← R.len, et, List.length_append, S.len]; omega
  refine ⟨by rw [S.len, List.length_take]; omega, ?_, fun a m => R.there a (by rw [S.out]; exact m), fun a m z => R.sep a (by rw [S.out]; exact m) (by rw [et]; exact List.mem_append_left _ z), fun i a o q q' => ?_⟩
  · have := R.nd
    rw [et, List.nodup_append] at this
    exact this.1
  · have hi : i < n := by
      have := (List.getElem?_eq_some_iff.mp q).1
      rw [S.len] at this; exact this
    have q2 : h2[i]? = some o := by
      rw [List.getElem?_take] at q'
      rw [if_pos hi] at q'
      exact q'
    exact eoIn_rep S (R.obj i a o (by rw [S.get hi]; exact q) q2) (List.all_eq_true.mp cl o (List.mem_of_getElem? q'))
theorem callM_ok {F : List EV → EH → Y.R EV} {vs : List EV} {xs : List V} {h : EH} {ρ : Rh} {H : Hp} {τ : L2.St} {Q : VK} {n : Nat} (hn : vs.length = n) (R : Rel G ρ h H) (r : RepL G ρ H vs xs) (f : FinE G X τ ρ H (callM F vs h) (fun v _ ρ' H' => ∀ x, Rep G ρ' H' v x → Q x H')) :
    ∃ E, PassesAt (L2.CX X.prog X.w) X τ E ∧ spF G n F xs H Q E := by
  unfold callM at f
  split at f
  · rename_i ps ep
    refine callX_ok hn R r ?_
    unfold callX
    rw [ep]
    exact f
  · cases eF : F vs h with
    | ok v h2 =>
      rw [eF] at f
      unfold trim at f
      dsimp only at f
      split at f
      · rename_i cl
        split at f
        · rename_i d ed
          refine ⟨fun _ _ _ => False, passNo, by rw [← r.length]; exact hn, vs, ρ, h, R, r, ?_⟩
          rw [eF]
          intro ρ' H' x e R' rx
          have S := e.sub R
          exact f ρ H' e.back (R'.back S cl) x (.p (rsvF_rep S R' 30 v x d rx ed))
        · exact callI_ok hn R r (by rw [eF]; exact f)
      · exact callI_ok hn R r (by rw [eF]; exact f)
    | exc c fs h2 => rw [eF] at f; exact callI_ok hn R r (by rw [eF]; exact f)
    | stuck => rw [eF] at f; exact f.elim
variable {F : List EV → EH → Y.R EV} {k j n m : Nat} {x : Str} {ds : List PV} {e : Expr} {es : List Expr} {fa : ES → M (List EV)} {p pos : Pos}
theorem re_fnM (D : Dfn X.prog X.w G X.mg X.base k x n ds F) (hr : Room j X.A) (hj : k ≤ j) (ha : RA G X (e :: es) fa) (hl : ALen fa m) (hn : m + ds.length = n := by rfl) (hK : X.K = G.K := by rfl) (hg : Gl X x := by rfl)
    (db : (x == ("__debug__" : Str)) = false := by decide) (st : starEach (e :: es) X.env = (false, eval e X.env) :: starEach es X.env := by first | exact star_cons rfl | rfl) (np : (backTo pos (starEach es X.env)).any (·.1) = false := by rfl) : RE G X (.Call (.Name x p) (e :: es) [] pos) (eFnM F ds fa) := by
  obtain ⟨f, fd, ps, us, dvs, O, hm, kp, hb, hd, rd⟩ := D.ex
  rw [← hK] at O kp hb
  intro σ h ρ τ H Q R S ff
  refine wE.of (pe_named hg hm kp wA.pa db st np) ?_
  by_cases ok : ∃ vs h1, fa σ h = .ok vs h1
  · obtain ⟨vs, h1, e0⟩ := ok
    refine ha.run R S e0 fun ρ1 H1 xs x1 R1 rx => ?_
    have f1 : FinE G X τ ρ H (callM F (vs ++ ds.map .p) h1) (fun v _ ρ' H' => ∀ x, Rep G ρ' H' v x → Q x H') := by
      dsimp only [eFnM] at ff
      rw [e0] at ff
      exact ff
    obtain ⟨E, px, sp⟩ := callM_ok (n := n) (by simp [hl _ _ _ _ e0, hn]) R1 (rx.append (rd ρ1 H1).lift) (FinE.start x1 f1)
    exact wk_fn O hr hj hb hd px sp
  · exact ha.fail R S ff fun vs h1 q => ok ⟨vs, h1, q⟩
end
end Y
end

section
set_option maxHeartbeats 3200000
/-! YC: len(set(xs)), xs a tuple of texts. -/
namespace Y
open PySem PySem.Spec PyProof.Rows L2
def addU (σ : List Str) (x : Str) : List Str := if σ.any (· == x) then σ else σ ++ [x]
def disU (xs : List Str) : List Str := xs.foldl addU []
theorem disU_succ (xs : List Str) (i : Nat) (h : i < xs.length) : disU (xs.take (i + 1)) = addU (disU (xs.take i)) (xs.getD i Str.empty) := by
  have e : xs.take (i + 1) = xs.take i ++ [xs.getD i Str.empty] := by
    rw [List.take_add_one, List.getElem?_eq_getElem h]
    simp [List.getD, List.getElem?_eq_getElem h]
  unfold disU
  rw [e, List.foldl_append]
  rfl
theorem addU_any (σ : List Str) (v k : Str) : (addU σ v).any (· == k) = (σ.any (· == k) || decide (k = v)) := by
  unfold addU
  by_cases h : σ.any (· == v) = true
  · rw [if_pos h]
    by_cases e : k = v
    · subst e; rw [h]; simp
    · simp [e]
  · rw [if_neg h, List.any_append]
    congr 1
    by_cases e : k = v
    · subst e; simp
    · have : (v == k) = false := by
        cases q : v == k with
        | false => rfl
        | true => exact absurd (eq_of_beq q).symm e
      simp [e, this]
theorem addU_len (σ : List Str) (v : Str) : (addU σ v).length = if σ.any (· == v) then σ.length else σ.length + 1 := by
  unfold addU
  split <;> simp
theorem disU_len (xs : List Str) : (disU xs).length ≤ xs.length := by
  have : ∀ (l σ : List Str), (l.foldl addU σ).length ≤ σ.length + l.length := by
    intro l
    induction l with
    | nil => intro σ; simp
    | cons a r ih =>
      intro σ
      have h1 := ih (addU σ a)
      have h2 := addU_len σ a
      simp only [List.foldl_cons, List.length_cons]
      split at h2 <;> omega
  have := this xs []
  simpa [disU] using this
section
variable {prog : Program} {w : World} {A : Around} {R : Result → Shared → Prop} {I : Addr} {fp wr : List Addr} {Gg : Array GenState → Array GenState → Prop} {n : Nat} {P : Nat → Value → Prop} {St : Nat → Shared → Prop}
theorem fillU (W : WalksS prog w A.in1 I fp wr Gg n P St) (S : Addr) (hSf : S ∉ fp) (xs : List Str) (hsz : xs.length = n) (hb : n + 1 < scanBound)
    (hval : ∀ i v, P i v → ∃ t, v = .str (xs.getD i Str.empty) t) :
    ∀ (k i : Nat) (s : Shared), n - i = k → i ≤ n → St i s →
      s.heap.SetOf (PySem.strKind prog w) S (fun k' => (disU (xs.take i)).any (· == k')) (disU (xs.take i)).length →
      (∀ s', Moved (S :: wr) Gg s s' → s'.heap.SetOf (PySem.strKind prog w) S (fun k' => (disU (xs.take n)).any (· == k')) (disU (xs.take n)).length → R (.ok (.ret .none)) s') →
      codeAny (model prog w) A (.builtin "set.update.loop" ⟨[.ref S, .ref I], []⟩) R s := by
  have nw : S ∉ wr := fun h => hSf (W.sub _ h)
  have up : ∀ b ∈ wr, b ∈ S :: wr := fun b hb => List.mem_cons_of_mem _ hb
  intro k
  induction k with
  | zero =>
    intro i s hk hi st hS hR
    obtain rfl : i = n := by omega
    refine codeAny_builtin PyProof.Rows.F.entry_set_update_loop ?_
    rw [Around.under_plainId PyProof.Rows.F.plain_set_update_loop _]
    show wpAny _ A.in1 (pyNext (.ref I) >>= _) _ _ s
    refine wpAny_bind (W.done s _ _ st fun s' hm => ?_)
    show wpAny _ A.in1 (ret Value.none) _ _ s'
    refine wpAny_pure (hR s' (hm.mono up) ?_)
    obtain ⟨o, es, ep, t, ho, rest⟩ := hS
    exact ⟨o, es, ep, t, hm.heap S _ nw ho, rest⟩
  | succ k ih =>
    intro i s hk hi st hS hR
    have lt : i < n := by omega
    refine codeAny_builtin PyProof.Rows.F.entry_set_update_loop ?_
    rw [Around.under_plainId PyProof.Rows.F.plain_set_update_loop _]
    show wpAny _ A.in1 (pyNext (.ref I) >>= _) _ _ s
    refine wpAny_bind (W.item i s _ _ lt st fun v s' hP st' hm => ?_)
    obtain ⟨t, rfl⟩ := hval i v hP
    have hS1 : s'.heap.SetOf (PySem.strKind prog w) S (fun k' => (disU (xs.take i)).any (· == k')) (disU (xs.take i)).length := by
      obtain ⟨o, es, ep, tb, ho, rest⟩ := hS
      exact ⟨o, es, ep, tb, hm.heap S _ nw ho, rest⟩
    show wpAny _ A.in1 (holding [Value.str (xs.getD i Str.empty) t] (setAdd S (.str (xs.getD i Str.empty) t)) >>= _) _ _ s'
    refine wpAny_bind (wpAny_holding ?_)
    unfold setAdd
    refine wpAny_holding ?_
    refine wpAny_bind ((PySem.strKind prog w).pyHash (k := xs.getD i Str.empty) (strKind_is _ _ _ _) ?_)
    have room : (disU (xs.take i)).length + 1 < scanBound := by
      have h1 := disU_len (xs.take i)
      have h2 : (xs.take i).length ≤ i := by rw [List.length_take]; omega
      omega
    refine wpAny_setAddHashed_of (knd := PySem.strKind prog w) (s := { s' with toks := s'.toks + 1 }) (strKind_is _ _ _ _) rfl hS1 room fun h' sb hS2 => ?_
    have hS3 : h'.SetOf (PySem.strKind prog w) S (fun k' => (disU (xs.take (i + 1))).any (· == k')) (disU (xs.take (i + 1))).length := by
      rw [disU_succ xs i (by omega)]
      exact SetOf_congr hS2 (fun k' => (addU_any _ _ k').symm) (addU_len _ _).symm
    refine wpAny_pure ⟨plainId_quiet PyProof.Rows.F.plain_set_update_loop _, ih (i + 1) _ (by omega) lt (W.frame _ s' _ _ st' (Nat.le_succ _) fun b hb o e => ?_) hS3 fun s2 hm2 hS4 => ?_⟩
    · rw [sb.2 b (fun z : b = S => hSf (by rw [← z]; exact hb))]; exact e
    · refine hR s2 (Moved.trans W.gtrans ((hm.mono up).then_heap (Nat.le_succ _) fun b o hb e => ?_) hm2) hS4
      rw [sb.2 b (fun z : b = S => hb (by rw [z]; exact List.mem_cons_self))]; exact e
end
section
variable {prog : Program} {w : World} {A : Around} {E : Value → Shared → Prop} {s : Shared}
abbrev set0 (led : Bool) : Obj := { cls := .type "set", dict := none, data := .set #[] 0 (.fresh 0 0 led) }
abbrev tupIt (l : Addr) : Obj := { cls := .type "tuple_iterator", data := .fields #[.ref l, .int 0 0] }
/-- set(t), t a tuple of texts -/
theorem call_setU {l : Addr} {items : Array Value} {xs : List Str} {Q : Value → Shared → Prop}
    (hh : A.handled = none) (hl : s.heap.IsTuple l items) (hi : PyProof.Rows.StrsAre items.toList xs) (hn1 : xs.length + 1 < scanBound)
    (h : ∀ (h' : Heap) (tk : Nat), h'.SetOf (PySem.strKind prog w) s.heap.objs.size (fun k' => (disU xs).any (· == k')) (disU xs).length →
      (∀ b o, b < s.heap.objs.size → s.heap.get? b = some o → h'.get? b = some o) → Q (.ref s.heap.objs.size) { s with heap := h', toks := tk }) :
    wpAny (model prog w) A (call (.type "set") [.ref l]) Q E s := by
  have hsz : xs.length = items.size := by rw [← StrsAre.len_eq hi, Array.length_toList]
  have all : xs.take items.size = xs := by rw [← hsz]; exact List.take_length
  obtain ⟨c, tl, mro⟩ := PySem.F.called_set.mro
  have made := PySem.F.called_set.made
  have sub := PySem.F.called_set.sub
  refine wpAny_call (codeAny_of_tree ?_)
  show wpAny _ _ (callAny (.type "set") _) _ _ _
  refine wpAny_pure ⟨Code.quiet_builtin _ (by decide +kernel), codeAny_builtin PySem.F.entry_type_call ?_⟩
  rw [Around.under_plain (weight_type_call_type "set" [.ref l] []) rfl]
  have k1 := PySem.F.called_set.notType
  have k2 := PySem.F.called_set.canCreate
  have k3 := PySem.F.typeCall_set_1 (.ref l)
  repeat (any_goals (first | assumption | wp_step))
  refine codeAny_mono (code_set_new_1 (.ref l) (E := E) (Q₁ := fun obj s₁ => ∃ led : Bool, obj = .ref s.heap.objs.size ∧ s₁ = { s with heap := s.heap.push (set0 led) }) fun led => ⟨led, rfl, rfl⟩) fun r s₁ hr => ?_
  cases r with
  | error e => exact hr
  | ok fl =>
    cases fl with
    | ret obj =>
      obtain ⟨led, rfl, rfl⟩ := hr
      have gS : (s.heap.push (set0 led)).get? s.heap.objs.size = some (set0 led) := Heap.get?_push_size _ rfl
      have tS : Shared.TypeIs { s with heap := s.heap.push (set0 led) } (.ref s.heap.objs.size) "set" := ⟨_, gS, rfl⟩
      have li := PySem.F.called_set.init.lookup
      have bi := PySem.F.called_set.init.bind (.ref s.heap.objs.size)
      repeat (any_goals (first | assumption | wp_step))
      refine codeAny_mono (codeAny_call_builtin (R := wants (fun r s₂ => r = .none ∧ ∃ h' tk, s₂ = { s with heap := h', toks := tk } ∧
          h'.SetOf (PySem.strKind prog w) s.heap.objs.size (fun k' => (disU xs).any (· == k')) (disU xs).length ∧
          (∀ b o, b < s.heap.objs.size → s.heap.get? b = some o → h'.get? b = some o)) E) PySem.F.called_set.init.plain PySem.F.entry_set_init (check_set_init_1 tS ?_)) fun r₂ s₂ hr₂ => ?_
      · obtain ⟨ol, hol, hcl, nl, hdl⟩ := hl
        obtain ⟨ocls, odict, odata, oslots⟩ := ol
        simp only at hcl hdl
        subst hcl; subst hdl
        have gl : (s.heap.push (set0 led)).get? l = some { cls := .type "tuple", dict := odict, data := .seq items nl, slots := oslots } := Heap.get?_push_of_some _ hol
        have q1 := PySem.F.sub_tuple_set
        have q2 := PySem.F.sub_tuple_frozenset
        have q3 : (Value.type "tuple" == Value.type "dict") = false := by decide
        have hl1 : (s.heap.push (set0 led)).IsTuple l items := ⟨_, gl, rfl, nl, rfl⟩
        unfold Builtin.«set.__init__» noKeywords Builtin.Frozenset.updateFrom
        generalize hPI : pyIter = PI
        wp_walk
        subst hPI
        refine wpAny_pyIter_tuple hl1 ?_
        refine wpAny_bind (wpAny_runValue ?_)
        have lS : l < s.heap.objs.size := Heap.lt_size hol
        have hh3 : A.in1.in1.in1.handled = none := by simp [hh]
        have zS : (s.heap.push (set0 led)).objs.size = s.heap.objs.size + 1 := Heap.size_push ..
        have neI : l ≠ (s.heap.push (set0 led)).objs.size := by rw [zS]; exact Nat.ne_of_lt (Nat.lt_succ_of_lt lS)
        have nS : s.heap.objs.size ∉ [(s.heap.push (set0 led)).objs.size, l] := by
          rw [zS]
          simp only [List.mem_cons, List.not_mem_nil, or_false, not_or]
          exact ⟨Nat.ne_of_lt (Nat.lt_succ_self _), Nat.ne_of_gt lS⟩
        refine fillU ((Walks.tuple hh3 _ l neI items).toS) s.heap.objs.size nS xs hsz (by rw [← hsz]; exact hn1) (fun i v hv => SS.strs_at hi i v (by rw [Array.getElem?_toList]; exact hv)) (items.size - 0) 0 _ (by omega) (Nat.zero_le _) ⟨⟨_, Heap.get?_push_size _ rfl, rfl, rfl⟩, (hl1.push _)⟩ ?g1 ?g2
        case g1 =>
          have g : ((s.heap.push (set0 led)).push (tupIt l)).get? s.heap.objs.size = some (set0 led) := Heap.get?_push_of_some _ gS
          exact SetOf_congr ((setObjOf_fresh (knd := PySem.strKind prog w) led).setOf g (by unfold scanBound; omega)) (fun _ => rfl) rfl
        case g2 =>
          intro s' hm hS'
          rw [all] at hS'
          obtain ⟨h', g', d', tk', os'⟩ := s'
          obtain rfl : g' = s.gens := hm.gens
          obtain rfl : d' = s.drawn := hm.drawn
          obtain rfl : os' = s.os := hm.os
          show wpAny _ _ _ _ _ _
          refine wpAny_pure ?_
          show wpAny _ _ (ret Value.none) _ _ _
          refine wpAny_pure ⟨rfl, h', tk', rfl, hS', fun b o hb e => ?_⟩
          have b1 : b ≠ s.heap.objs.size := Nat.ne_of_lt hb
          have b2 : b ≠ (s.heap.push (set0 led)).objs.size := by rw [zS]; exact Nat.ne_of_lt (Nat.lt_succ_of_lt hb)
          exact hm.heap b o (by simp only [List.mem_cons, List.not_mem_nil, or_false, not_or]; exact ⟨b1, b2⟩) (Heap.get?_push_of_some _ (Heap.get?_push_of_some _ e))
      · cases r₂ with
        | error e => exact hr₂
        | ok fl₂ =>
          cases fl₂ with
          | ret r =>
            obtain ⟨rfl, h', tk, rfl, hS', hk'⟩ := hr₂
            repeat (any_goals (first | assumption | wp_step))
            exact h _ _ hS' hk'
          | _ => exact hr₂.elim
    | _ => exact hr.elim
end
end Y
namespace Y
open PySem PySem.Spec PyProof.Rows L2
def tLenSetU (K : PySem.W.Frag) (ta : TE) : TE := fun σ H Q => ta σ H fun x H1 => ∃ (l : Addr) (xs : List Str), x = .ref l ∧ SqT K H1 l (xs.map V.str) ∧ xs.length ≤ 1000 ∧ Q (.int ((disU xs).length : Nat)) H1
theorem pe_lenSetU {X : Cx} {a : Expr} {ta : TE} {p p2 q pos : Pos} (hg : Gl X "len") (hm : X.mg "len" = none) (hg2 : Gl X "set") (hm2 : X.mg "set" = none) (ha : PE X a ta) (hc : X.calm = true)
    (na : starEach [a] X.env = (false, eval a X.env) :: starEach [] X.env) : PE X (.Call (.Name "len" p) [.Call (.Name "set" p2) [a] [] q] [] pos) (tLenSetU X.K ta) := by
  refine ⟨fun pins s σ H Q I h => ?_⟩
  refine Call_ (ld_blt I hg hm boot_len ?_)
  refine callWith_builtin1 (args_cons ?_ rfl) rfl rfl
  refine Call_ (ld_blt I hg2 hm2 boot_set ?_)
  refine callWith_type1 (args_cons (thn (ha.run pins s σ H _ I h) fun v s1 ⟨x, H1, I1, r1, q1⟩ => args_nil ?_) na) na rfl
  obtain ⟨l, xs, rfl, hq, hl, q1⟩ := q1
  cases (show v = Value.ref l from r1)
  obtain ⟨its, r, pl, hz⟩ := I1.tuple hq
  have len := disU_len xs
  refine call_setU (I1.ok.hd hc) pl (by simpa using strsAre_of r) (by unfold scanBound; omega) fun h' tk hS hk => ?_
  refine args_nil ?_
  obtain ⟨o, es, ep, t, ho, hex, hd, _, _, _, hf, hn⟩ := hS
  have I2 : Inv X pins σ H1 { s1 with heap := h', toks := tk } := I1.kept fun b o e => hk b o (Heap.lt_size e) e
  exact call_len_set ho hex hd hf (by rw [hn] <;> omega) ⟨.int (disU xs).length, H1, I2.tok _, ⟨_, by rw [hn]⟩, q1⟩
end Y
namespace Y
open PySem PySem.Spec PyProof.Rows L2
def addN (σ : List (List Nat)) (x : List Nat) : List (List Nat) := match memN x σ with
  | true => σ
  | false => σ ++ [x]
where memN (x : List Nat) : List (List Nat) → Bool
  | [] => false
  | y :: r => leq y x || memN x r
def disN (xs : List (List Nat)) : List (List Nat) := xs.foldl addN []
def strsP : List PV → Option (List (List Nat))
  | [] => some []
  | .str s :: r => (strsP r).map (s :: ·)
  | _ :: _ => none
def uLenSet (v : EV) (h : EH) : Option (EV × EH) := match v with
  | .p (.tup xs) => match strsP xs with
    | some ss => match Nat.ble ss.length 1000 with
      | true => some (.p (.int ((disN ss).length : Nat)), h)
      | false => none
    | none => none
  | _ => none
theorem memN_any (x : List Nat) : ∀ σ : List (List Nat), addN.memN x σ = (σ.map toS).any (· == toS x)
  | [] => rfl
  | y :: r => by
    simp only [addN.memN, List.map_cons, List.any_cons, memN_any x r]
    congr 1
    by_cases e : y = x
    · subst e
      rw [leq_iff.mpr rfl]
      simp
    · have h1 : leq y x = false := by
        cases q : leq y x with
        | false => rfl
        | true => exact absurd (leq_iff.mp q) e
      have h2 : (toS y == toS x) = false := by
        cases q : toS y == toS x with
        | false => rfl
        | true => exact absurd (toS_inj (eq_of_beq q)) e
      rw [h1, h2]
theorem disN_map (xs : List (List Nat)) : (disN xs).map toS = disU (xs.map toS) := by
  have : ∀ (l σ : List (List Nat)), (l.foldl addN σ).map toS = (l.map toS).foldl addU (σ.map toS) := by
    intro l
    induction l with
    | nil => intro σ; rfl
    | cons a r ih =>
      intro σ
      simp only [List.foldl_cons, List.map_cons]
      rw [ih]
      congr 1
      unfold addN addU
      rw [memN_any]
      cases (σ.map toS).any (· == toS a) with
      | true => simp
      | false => simp
  exact this xs []
section
variable {G : Wd} {X : Cx}
theorem strsP_rep {ρ : Rh} {H : Hp} : ∀ {xs : List PV} {vs : List V} {ss : List (List Nat)}, PRepL G ρ H xs vs → strsP xs = some ss → vs = (ss.map toS).map V.str
  | [], _, _, .nil, e => by cases e; rfl
  | x :: xs, _, ss, .cons a b, e => by
    cases a with
    | str => 
      simp only [strsP] at e
      cases q : strsP xs with
      | none => rw [q] at e; cases e
      | some t =>
        rw [q] at e
        cases e
        rw [strsP_rep b q]
        rfl
    | _ => cases e
theorem re_lenSet {a : Expr} {fa : ES → M EV} {p p2 q pos : Pos} (hm : X.mg "len" = none) (hm2 : X.mg "set" = none) (ha : RE G X a fa) (hc : X.calm = true := by rfl) (hK : X.K = G.K := by rfl) (hg : Gl X "len" := by rfl) (hg2 : Gl X "set" := by rfl)
    (na : starEach [a] X.env = (false, eval a X.env) :: starEach [] X.env := by first | exact star_one rfl | rfl) : RE G X (.Call (.Name "len" p) [.Call (.Name "set" p2) [a] [] q] [] pos) (eUn uLenSet fa) := by
  intro σ h ρ τ H Q R S f
  refine wE.of (pe_lenSetU hg hm hg2 hm2 wE.pe hc na) ?_
  refine ha σ h ρ τ H _ R S (FinE.imp (FinE.bind f) fun x h1 ρ1 H1 e1 R1 f1 v rv => ?_)
  unfold uLenSet at f1
  split at f1
  · rename_i xs
    split at f1
    · rename_i ss es
      split at f1
      · rename_i lb
        cases rep_p rv with
        | tup q rr =>
          have ev := strsP_rep rr es
          subst ev
          have lb := Nat.ble_eq.mp lb
          refine ⟨_, ss.map toS, rfl, by rw [hK]; exact q.sq, by rw [List.length_map]; exact lb, ?_⟩
          have := f1 ρ1 H1 Ext.refl R1 _ (.p (.int _))
          rw [← disN_map, List.length_map]
          exact this
      · exact f1.elim
    · exact f1.elim
  · exact f1.elim
end
end Y
end

section
set_option maxHeartbeats 3200000
/-! YP2: sorted(set(xs)), xs a list of texts. -/
namespace Y
open PySem PySem.Spec PyProof.Rows L2
open PySem.Froz (sObj TxOk addTx tailTx)
/-- the payload holds the texts l; its table rises and can be walked -/
structure TxG (P : Program) (w : World) (D : Froz.SD) (l : List Str) : Prop where
  ok : TxOk P w D l
  ris : Ris D.2.2.place.toList
  led : w.params.followText "set-order" = true ∨ D.2.2.led = true
  all : ∀ e ∈ D.1.toList, ∃ x t, e.2 = Value.str x t
  pm : (D.1.toList.map fun e => strOf e.2).Perm l
theorem strs_of_all : ∀ (us : List Value), (∀ v ∈ us, ∃ x t, v = Value.str x t) → StrsAre us (us.map strOf)
  | [], _ => .nil
  | v :: r, h => by
    obtain ⟨x, t, rfl⟩ := h v (by simp)
    exact .cons x t (strs_of_all r fun u m => h u (by simp [m]))
section
variable {P : Program} {w : World} {A : Around} {E : Value → Shared → Prop} {s : Shared} {D : Froz.SD} {l : List Str} {k : Str} {u : Tok}
theorem tail_facts (ep : Nat) (es1 : Array (Int × Value)) (t2 : SetTable) (wd : Bool) (r : Ris t2.place.toList) :
    (tailTx ep es1 t2 wd).1.toList.Perm es1.toList ∧ Ris (tailTx ep es1 t2 wd).2.2.place.toList ∧ (tailTx ep es1 t2 wd).2.2.led = t2.led := by
  unfold tailTx
  split
  · exact ⟨relayAll_perm t2 es1 _, relayAll_ris t2 es1 _, relayAll_led t2 es1 _⟩
  · exact ⟨.refl _, r, rfl⟩
theorem addG (G : TxG P w D l) (hk : k ∉ l) : TxG P w (addTx (hashStr w k) (.str k u) D) (l ++ [k]) := by
  obtain ⟨es, ep, t⟩ := D
  have hp := layNew_perm t es (hashStr w k) (.str k u)
  have hr := layNew_ris t es (hashStr w k) (.str k u) G.ris
  have hl := layNew_led t es (hashStr w k) (.str k u)
  have T := tail_facts ep (layNew t es (hashStr w k) (.str k u)).1 (if (layNew t es (hashStr w k) (.str k u)).2.1.plain = true then { (layNew t es (hashStr w k) (.str k u)).2.1 with plain := false } else (layNew t es (hashStr w k) (.str k u)).2.1)
    (layNew t es (hashStr w k) (.str k u)).2.2.1 (by split <;> exact hr)
  rw [Array.toList_push] at hp
  have pe : (addTx (hashStr w k) (.str k u) (es, ep, t)).1.toList.Perm (es.toList ++ [(hashStr w k, .str k u)]) := T.1.trans hp
  have o := PySem.Froz.add_ok (P := P) u G.ok (k := k)
  refine ⟨⟨o.el, fun k' => ?_, by rw [o.sz]; simp, o.fit⟩, T.2.1, G.led.imp id fun z => ?_, fun e he => ?_, ?_⟩
  · rw [← o.mem k']
    simp [or_comm]
  · have := T.2.2
    refine this.trans ?_
    have e : (if (layNew t es (hashStr w k) (.str k u)).2.1.plain = true then { (layNew t es (hashStr w k) (.str k u)).2.1 with plain := false } else (layNew t es (hashStr w k) (.str k u)).2.1).led = (layNew t es (hashStr w k) (.str k u)).2.1.led := by split <;> rfl
    rw [e, hl]
    exact z
  · rcases List.mem_append.mp (pe.mem_iff.mp he) with m | m
    · exact G.all e m
    · rw [List.mem_singleton] at m
      subst m
      exact ⟨_, _, rfl⟩
  · refine (pe.map _).trans ?_
    rw [List.map_append]
    exact G.pm.append (.refl _)
/-- a text that is in the set already -/
theorem addSame {a : Addr} {T : String} {Q : Bool → Shared → Prop} (ho : s.heap.get? a = some (sObj T D)) (F : TxOk P w D l) (hk : k ∈ l) (hb : l.length < scanBound) (h : Q false s) :
    wpAny (model P w) A (setAddHashed a (.str k u) (hashStr w k)) Q E s := by
  obtain ⟨es, ep, t⟩ := D
  have hkey : (strKind P w).is k (.str k u) = true := PySem.Froz.is_str k u
  have hd : (sObj T (es, ep, t)).data = .set es ep t := rfl
  have hb0 : es.size < scanBound := by have : es.size = l.length := F.sz; omega
  have hel : ElemsOf (strKind P w) es.toList := F.el
  obtain ⟨e, me, qe⟩ := (F.mem k).mp hk
  cases hfi : List.findIdx? (fun e => (strKind P w).is k e.2) es.toList with
  | none =>
    have := List.findIdx?_eq_none_iff.mp hfi e me
    rw [qe] at this
    cases this
  | some j =>
    unfold setAddHashed setAddHashedIn
    refine wpAny_holding (wpAny_bind (wpAny_setState_of ho hd F.fit ?_))
    dsimp only
    rw [byScan_of (x := Value.str k u) rfl hb0 hel]
    simp only [↓reduceIte]
    unfold setAddByScan
    refine wpAny_bind ?_
    refine wpAny_bind (wpAny_rule ?_)
    refine wpAny_bind (wpAny_setScan_of (knd := strKind P w) (k := k) hkey ho hd F.fit hel ?_)
    rw [hfi]
    dsimp only
    exact wpAny_pure (wpAny_pure h)
end
section
variable {prog : Program} {w : World} {A : Around} {R : Result → Shared → Prop} {I : Addr} {fp wr : List Addr} {Gg : Array GenState → Array GenState → Prop} {n : Nat} {P : Nat → Value → Prop} {St : Nat → Shared → Prop}
def HasG (prog : Program) (w : World) (h : Heap) (S : Addr) (l : List Str) : Prop := ∃ D, h.get? S = some (sObj "set" D) ∧ TxG prog w D l
theorem get_upd2 {h : Heap} {a : Addr} {o : Obj} (X : Obj) (ho : h.get? a = some o) (hX : X.isFreed = false) : (h.update a (fun _ => X)).get? a = some X := Heap.get?_update_self _ ho hX
theorem disU_nodup (xs : List Str) : (disU xs).Nodup := by
  have : ∀ (l σ : List Str), σ.Nodup → (l.foldl addU σ).Nodup := by
    intro l
    induction l with
    | nil => intro σ h; exact h
    | cons a r ih =>
      intro σ h
      refine ih _ ?_
      unfold addU
      split
      · exact h
      · rename_i c
        refine List.nodup_append.mpr ⟨h, by simp, fun x mx y my => ?_⟩
        rintro rfl
        rw [List.mem_singleton] at my
        subst my
        exact c (List.any_eq_true.mpr ⟨_, mx, beq_self_eq_true _⟩)
  exact this xs [] List.nodup_nil
theorem fillG (W : WalksS prog w A.in1 I fp wr Gg n P St) (S : Addr) (hSf : S ∉ fp) (xs : List Str) (hsz : xs.length = n) (hb : n + 1 < scanBound)
    (hval : ∀ i v, P i v → ∃ t, v = .str (xs.getD i Str.empty) t) :
    ∀ (k i : Nat) (s : Shared), n - i = k → i ≤ n → St i s → HasG prog w s.heap S (disU (xs.take i)) →
      (∀ s', Moved (S :: wr) Gg s s' → HasG prog w s'.heap S (disU (xs.take n)) → R (.ok (.ret .none)) s') →
      codeAny (model prog w) A (.builtin "set.update.loop" ⟨[.ref S, .ref I], []⟩) R s := by
  have nw : S ∉ wr := fun h => hSf (W.sub _ h)
  have up : ∀ b ∈ wr, b ∈ S :: wr := fun b hb => List.mem_cons_of_mem _ hb
  intro k
  induction k with
  | zero =>
    intro i s hk hi st hS hR
    obtain rfl : i = n := by omega
    refine codeAny_builtin PyProof.Rows.F.entry_set_update_loop ?_
    rw [Around.under_plainId PyProof.Rows.F.plain_set_update_loop _]
    show wpAny _ A.in1 (pyNext (.ref I) >>= _) _ _ s
    refine wpAny_bind (W.done s _ _ st fun s' hm => ?_)
    show wpAny _ A.in1 (ret Value.none) _ _ s'
    obtain ⟨D, ho, g⟩ := hS
    exact wpAny_pure (hR s' (hm.mono up) ⟨D, hm.heap S _ nw ho, g⟩)
  | succ k ih =>
    intro i s hk hi st hS hR
    have lt : i < n := by omega
    refine codeAny_builtin PyProof.Rows.F.entry_set_update_loop ?_
    rw [Around.under_plainId PyProof.Rows.F.plain_set_update_loop _]
    show wpAny _ A.in1 (pyNext (.ref I) >>= _) _ _ s
    refine wpAny_bind (W.item i s _ _ lt st fun v s' hP st' hm => ?_)
    obtain ⟨t, rfl⟩ := hval i v hP
    obtain ⟨D, ho, g⟩ := hS
    have ho1 := hm.heap S _ nw ho
    show wpAny _ A.in1 (holding [Value.str (xs.getD i Str.empty) t] (setAdd S (.str (xs.getD i Str.empty) t)) >>= _) _ _ s'
    refine wpAny_bind (wpAny_holding ?_)
    unfold setAdd
    refine wpAny_holding ?_
    refine wpAny_bind ((PySem.strKind prog w).pyHash (k := xs.getD i Str.empty) (strKind_is _ _ _ _) ?_)
    have room : (disU (xs.take i)).length + 1 < scanBound := by
      have h1 := disU_len (xs.take i)
      have h2 : (xs.take i).length ≤ i := by rw [List.length_take]; omega
      omega
    have go : ∀ (h' : Heap), (∀ b o, b ≠ S → s'.heap.get? b = some o → h'.get? b = some o) → HasG prog w h' S (disU (xs.take (i + 1))) →
        codeAny (model prog w) A (.builtin "set.update.loop" ⟨[.ref S, .ref I], []⟩) R { s' with heap := h', toks := s'.toks + 1 } := fun h' sb hS => by
      refine ih (i + 1) _ (by omega) lt (W.frame _ s' _ _ st' (Nat.le_succ _) fun b hb o e => sb b o (fun z : b = S => hSf (by rw [← z]; exact hb)) e) hS fun s2 hm2 hS2 => ?_
      refine hR s2 (Moved.trans W.gtrans ((hm.mono up).then_heap (Nat.le_succ _) fun b o hb e => ?_) hm2) hS2
      exact sb b o (fun z : b = S => hb (by rw [z]; exact List.mem_cons_self)) e
    rw [disU_succ xs i (by omega)] at go
    by_cases m : xs.getD i Str.empty ∈ disU (xs.take i)
    · refine addSame (s := { s' with toks := s'.toks + 1 }) ho1 g.ok m (by omega) ?_
      refine wpAny_pure ⟨plainId_quiet PyProof.Rows.F.plain_set_update_loop _, go s'.heap (fun _ _ _ e => e) ⟨D, ho1, ?_⟩⟩
      have : addU (disU (xs.take i)) (xs.getD i Str.empty) = disU (xs.take i) := by
        unfold addU
        refine if_pos ?_
        exact List.any_eq_true.mpr ⟨_, m, beq_self_eq_true _⟩
      rw [this]
      exact g
    · refine PySem.Froz.add_x (s := { s' with toks := s'.toks + 1 }) ho1 g.ok m room ?_
      refine wpAny_pure ⟨plainId_quiet PyProof.Rows.F.plain_set_update_loop _, go _ (fun b o hb e => ?_) ⟨_, get_upd2 _ ho1 rfl, ?_⟩⟩
      · show (s'.heap.update S _).get? b = some o
        rw [Heap.get?_update_other _ _ (Ne.symm hb)]
        exact e
      · have : addU (disU (xs.take i)) (xs.getD i Str.empty) = disU (xs.take i) ++ [xs.getD i Str.empty] := by
          unfold addU
          rw [if_neg]
          intro c
          obtain ⟨y, my, e⟩ := List.any_eq_true.mp c
          exact m (eq_of_beq e ▸ my)
        rw [this]
        exact addG g m
end
section
variable {prog : Program} {w : World} {A : Around} {E : Value → Shared → Prop} {s : Shared}
abbrev setL (led : Bool) : Obj := { cls := .type "set", dict := none, data := .set #[] 0 (.fresh 0 0 led) }
theorem fresh_G : TxG prog w (#[], 0, .fresh 0 0 (!w.params.followText "set-order")) [] where
  ok := PySem.Froz.TxOk.nil (by rfl)
  ris := List.Pairwise.nil
  led := by
    cases h : w.params.followText "set-order" with
    | true => exact .inl rfl
    | false => exact .inr rfl
  all := fun e he => by simp at he
  pm := by simp
theorem set_new_led (v : Value) {Q1 : Value → Shared → Prop} (h : Q1 (.ref s.heap.objs.size) { s with heap := s.heap.push (setL (!w.params.followText "set-order")) }) :
    codeAny (model prog w) A (.call (.builtin "set.__new__") ⟨[.type "set", v], []⟩) (wants Q1 E) s := by
  refine codeAny_of_tree (show wpAny _ A.in1 (checkBuiltinCall "set.__new__" ⟨[.type "set", v], []⟩ >>= fun _ => again (.builtin "set.__new__" ⟨[.type "set", v], []⟩)) _ _ s from ?_)
  refine wpAny_bind (wpAny_of_eq (F.newCall_set_1 v) (wpAny_pure ⟨plainId_quiet PySem.F.plain_set_new _, codeAny_builtin PySem.F.entry_set_new ?_⟩))
  rw [Around.under_plainId PySem.F.plain_set_new _]; unfold Builtin.«set.__new__» Builtin.Frozenset.newClass
  have q1 := sub_set_self
  obtain ⟨hh, g1, d1, t1, o1⟩ := s
  dsimp only; wp_walk
  refine wpAny_askSetting (wpAny_pure ?_)
  dsimp only; simp only [newObj]
  exact wpAny_bind (wpAny_alloc (wpAny_pure (wpAny_pure h)))
abbrev lstIt (l : Addr) : Obj := { cls := .type "list_iterator", data := .fields #[.ref l, .int 0 0] }
/-- set(t), t a list of texts -/
theorem call_setG {l : Addr} {items : Array Value} {xs : List Str} {Q : Value → Shared → Prop}
    (hh : A.handled = none) (hl : s.heap.IsList l items) (hi : StrsAre items.toList xs) (hn1 : xs.length + 1 < scanBound)
    (h : ∀ (h' : Heap) (tk : Nat), HasG prog w h' s.heap.objs.size (disU xs) → (∀ b o, b < s.heap.objs.size → s.heap.get? b = some o → h'.get? b = some o) → Q (.ref s.heap.objs.size) { s with heap := h', toks := tk }) :
    wpAny (model prog w) A (call (.type "set") [.ref l]) Q E s := by
  have hsz : xs.length = items.size := by rw [← StrsAre.len_eq hi, Array.length_toList]
  have all : xs.take items.size = xs := by rw [← hsz]; exact List.take_length
  obtain ⟨c, tl, mro⟩ := PySem.F.called_set.mro
  have made := PySem.F.called_set.made
  have sub := PySem.F.called_set.sub
  refine wpAny_call (codeAny_of_tree ?_)
  show wpAny _ _ (callAny (.type "set") _) _ _ _
  refine wpAny_pure ⟨Code.quiet_builtin _ (by decide +kernel), codeAny_builtin PySem.F.entry_type_call ?_⟩
  rw [Around.under_plain (weight_type_call_type "set" [.ref l] []) rfl]
  have k1 := PySem.F.called_set.notType
  have k2 := PySem.F.called_set.canCreate
  have k3 := PySem.F.typeCall_set_1 (.ref l)
  repeat (any_goals (first | assumption | wp_step))
  generalize hled : (!w.params.followText "set-order") = led
  refine codeAny_mono (set_new_led (.ref l) (E := E) (Q1 := fun obj s₁ => obj = .ref s.heap.objs.size ∧ s₁ = { s with heap := s.heap.push (setL led) }) ⟨rfl, by rw [hled]⟩) fun r s₁ hr => ?_
  cases r with
  | error e => exact hr
  | ok fl =>
    cases fl with
    | ret obj =>
      obtain ⟨rfl, rfl⟩ := hr
      have gS : (s.heap.push (setL led)).get? s.heap.objs.size = some (setL led) := Heap.get?_push_size _ rfl
      have tS : Shared.TypeIs { s with heap := s.heap.push (setL led) } (.ref s.heap.objs.size) "set" := ⟨_, gS, rfl⟩
      have li := PySem.F.called_set.init.lookup
      have bi := PySem.F.called_set.init.bind (.ref s.heap.objs.size)
      repeat (any_goals (first | assumption | wp_step))
      refine codeAny_mono (codeAny_call_builtin (R := wants (fun r s₂ => r = .none ∧ ∃ h' tk, s₂ = { s with heap := h', toks := tk } ∧
          HasG prog w h' s.heap.objs.size (disU xs) ∧ (∀ b o, b < s.heap.objs.size → s.heap.get? b = some o → h'.get? b = some o)) E) PySem.F.called_set.init.plain PySem.F.entry_set_init (check_set_init_1 tS ?_)) fun r₂ s₂ hr₂ => ?_
      · obtain ⟨ol, hol, hcl, nl, hdl⟩ := hl
        obtain ⟨ocls, odict, odata, oslots⟩ := ol
        simp only at hcl hdl
        subst hcl; subst hdl
        have gl : (s.heap.push (setL led)).get? l = some { cls := .type "list", dict := odict, data := .seq items nl, slots := oslots } := Heap.get?_push_of_some _ hol
        have q1 := PySem.F.sub_list_set
        have q2 := PySem.F.sub_list_frozenset
        have q3 : (Value.type "list" == Value.type "dict") = false := by decide
        have hl1 : (s.heap.push (setL led)).IsList l items := ⟨_, gl, rfl, nl, rfl⟩
        unfold Builtin.«set.__init__» noKeywords Builtin.Frozenset.updateFrom
        generalize hPI : pyIter = PI
        wp_walk
        subst hPI
        refine wpAny_pyIter_list hl1 ?_
        refine wpAny_bind (wpAny_runValue ?_)
        have lS : l < s.heap.objs.size := Heap.lt_size hol
        have hh3 : A.in1.in1.in1.handled = none := by simp [hh]
        have zS : (s.heap.push (setL led)).objs.size = s.heap.objs.size + 1 := Heap.size_push ..
        have neI : l ≠ (s.heap.push (setL led)).objs.size := by rw [zS]; exact Nat.ne_of_lt (Nat.lt_succ_of_lt lS)
        have nS : s.heap.objs.size ∉ [(s.heap.push (setL led)).objs.size, l] := by
          rw [zS]
          simp only [List.mem_cons, List.not_mem_nil, or_false, not_or]
          exact ⟨Nat.ne_of_lt (Nat.lt_succ_self _), Nat.ne_of_gt lS⟩
        refine fillG ((Walks.list hh3 _ l neI items).toS) s.heap.objs.size nS xs hsz (by rw [← hsz]; exact hn1) (fun i v hv => SS.strs_at hi i v (by rw [Array.getElem?_toList]; exact hv)) (items.size - 0) 0 _ (by omega) (Nat.zero_le _) ⟨⟨_, Heap.get?_push_size _ rfl, rfl, rfl⟩, (hl1.push _)⟩ ?g1 ?g2
        case g1 =>
          have g : ((s.heap.push (setL led)).push (lstIt l)).get? s.heap.objs.size = some (setL led) := Heap.get?_push_of_some _ gS
          exact ⟨(#[], 0, .fresh 0 0 led), g, by rw [← hled]; exact fresh_G⟩
        case g2 =>
          intro s' hm hS'
          rw [all] at hS'
          obtain ⟨h', g', d', tk', os'⟩ := s'
          obtain rfl : g' = s.gens := hm.gens
          obtain rfl : d' = s.drawn := hm.drawn
          obtain rfl : os' = s.os := hm.os
          show wpAny _ _ _ _ _ _
          refine wpAny_pure ?_
          show wpAny _ _ (ret Value.none) _ _ _
          refine wpAny_pure ⟨rfl, h', tk', rfl, hS', fun b o hb e => ?_⟩
          have b1 : b ≠ s.heap.objs.size := Nat.ne_of_lt hb
          have b2 : b ≠ (s.heap.push (setL led)).objs.size := by rw [zS]; exact Nat.ne_of_lt (Nat.lt_succ_of_lt hb)
          exact hm.heap b o (by simp only [List.mem_cons, List.not_mem_nil, or_false, not_or]; exact ⟨b1, b2⟩) (Heap.get?_push_of_some _ (Heap.get?_push_of_some _ e))
      · cases r₂ with
        | error e => exact hr₂
        | ok fl₂ =>
          cases fl₂ with
          | ret r =>
            obtain ⟨rfl, h', tk, rfl, hS', hk'⟩ := hr₂
            repeat (any_goals (first | assumption | wp_step))
            exact h _ _ hS' hk'
          | _ => exact hr₂.elim
    | _ => exact hr.elim
/-- sorted of such a set -/
theorem sortedG {a : Addr} {l : List Str} {Q : Value → Shared → Prop} (R : HasG prog w s.heap a l) (hh : A.handled = none) (hs : l.length < scanBound)
    (hQ : ∀ s' p (out : Array Value) (c : Nat) (ns : List Str), (∀ b o, s.heap.get? b = some o → s'.heap.get? b = some o) → s'.gens = s.gens → s'.os = s.os → s.heap.objs.size ≤ p →
      s'.heap.get? p = some (seqObj "list" out c) → StrsAre out.toList ns → ns.Perm l → sortedS ns = true → Q (.ref p) s') :
    wpAny (model prog w) A (call (.builtin "sorted") [.ref a]) Q E s := by
  obtain ⟨⟨es, ep, t⟩, ho, g⟩ := R
  have z1 : es.size = l.length := g.ok.sz
  refine Calls.call_function_entry kind_sorted plain_sorted entry_sorted (args_sorted1 _) ?_
  unfold Builtin.«sorted»
  refine wpAny_bind (m := checkCount "sorted" 1 1 _) (wpAny_pure ?_)
  refine wpAny_bind (collect_set (A := A.in1) hh ⟨_, ho, rfl, rfl⟩ g.ok.fit (by rw [z1]; exact hs) g.ris g.led fun s1 vs k1 hz g1 o1 pm => ?_)
  have hvl : vs.length = l.length := by rw [pm.length_eq, List.length_map, Array.length_toList]; exact z1
  have hI : StrsAre vs (vs.map strOf) := strs_of_all vs fun v hv => by
    obtain ⟨e, he, q⟩ := List.mem_map.mp (pm.mem_iff.mp hv)
    obtain ⟨x, tk, q1⟩ := g.all e he
    exact ⟨x, tk, by rw [← q]; exact q1⟩
  have pk : (vs.map strOf).Perm l := by
    have q := pm.map strOf
    rw [List.map_map] at q
    exact q.trans g.pm
  have hL : vs.length ≤ sizeLine := by rw [hvl, sizeLine_eq]; unfold scanBound at hs; omega
  refine wpAny_bind (wpAny_newList ?_ hL)
  have hoL : (s1.heap.push (seqObj "list" vs.toArray 0)).get? s1.heap.objs.size = some (seqObj "list" vs.toArray 0) := Heap.get?_push_size _ rfl
  refine wpAny_bind (wpAny_holding (wpAny_call_entry slot_list_sort ⟨_, hoL, rfl⟩ entry_list_sort (list_sort_treeKAny strKind_oneLt hoL hI.keysOf (fun v1 v2 rest e => keyKind_strs (by rw [← e]; exact hI)) hL fun st' hp hs' => ⟨_, rfl, ?_⟩) (args_list_sort _)))
  obtain ⟨ns, a1, a2, a3⟩ := sorted_out_str hI hp hs'
  obtain ⟨c, hc⟩ := sortedHeap_at (vs := vs) (out := (arrOf st').map (·.2)) hoL
  refine wpAny_pure ⟨_, rfl, hQ _ s1.heap.objs.size _ c ns (fun b u e => ?_) g1 o1 hz hc a1 (a2.trans pk) a3⟩
  have q := k1 b u e
  have hlt := Heap.lt_size q
  show (sortedHeap (s1.heap.push (seqObj "list" vs.toArray 0)) s1.heap.objs.size vs ((arrOf st').map (·.2))).get? b = some u
  rw [sortedHeap_old (Nat.ne_of_lt hlt) (by rw [size_push']; exact Nat.lt_succ_of_lt hlt)]
  exact Heap.get?_push_of_some _ q
end
end Y
end

section
set_option maxHeartbeats 3200000
/-! YP3: sorted(set(xs)) as a rule. -/
namespace Y
open PySem PySem.Spec PyProof.Rows L2
def tSrtSet (K : PySem.W.Frag) (ta : TE) : TE := fun σ H Q => ta σ H fun x H1 => ∃ (l : Addr) (xs : List Str), x = .ref l ∧ SqL K H1 l (xs.map V.str) ∧ xs.length ≤ 1000 ∧
  ∀ (ys : List Str) (p : Addr), ys.Perm (disU xs) → sortedS ys = true → H1 p = none → Q (.ref p) (upd H1 p (.lst (ys.map V.str)))
theorem pe_srtSet {X : Cx} {a : Expr} {ta : TE} {p p2 q pos : Pos} (hg : Gl X "sorted") (hm : X.mg "sorted" = none) (hg2 : Gl X "set") (hm2 : X.mg "set" = none) (ha : PE X a ta) (hc : X.calm = true)
    (na : starEach [a] X.env = (false, eval a X.env) :: starEach [] X.env) : PE X (.Call (.Name "sorted" p) [.Call (.Name "set" p2) [a] [] q] [] pos) (tSrtSet X.K ta) := by
  refine ⟨fun pins s σ H Q I h => ?_⟩
  refine Call_ (ld_blt I hg hm boot_sorted ?_)
  refine callWith_builtin1 (args_cons ?_ rfl) rfl rfl
  refine Call_ (ld_blt I hg2 hm2 boot_set ?_)
  refine callWith_type1 (args_cons (thn (ha.run pins s σ H _ I h) fun v s1 ⟨x, H1, I1, r1, q1⟩ => args_nil ?_) na) na rfl
  obtain ⟨l, xs, rfl, hq, hl, q1⟩ := q1
  cases (show v = Value.ref l from r1)
  obtain ⟨its, r, pl, hz⟩ := I1.list hq
  have len := disU_len xs
  refine call_setG (I1.ok.hd hc) pl.isList (by simpa using strsAre_of r) (by unfold scanBound; omega) fun h' tk hS hk => ?_
  refine args_nil ?_
  have I2 : Inv X pins σ H1 { s1 with heap := h', toks := tk } := I1.kept fun b o e => hk b o (Heap.lt_size e) e
  refine sortedG (s := { s1 with heap := h', toks := tk }) hS (I2.ok.hd hc) (by unfold scanBound; omega) fun s' p out c ns k g o hp hg' hi pm hs => ?_
  have hlen : (ns.map V.str).length ≤ sizeLine := by rw [List.length_map, pm.length_eq, sizeLine_eq]; omega
  have hn : H1 p = none := I2.hok.fresh hp
  have J : Inv X pins σ (upd H1 p (.lst (ns.map V.str))) { s1 with heap := s'.heap, gens := s'.gens, drawn := s'.drawn, toks := s'.toks } :=
    Inv.call (s := { s1 with heap := h', toks := tk }) (ch := []) I2 (Un.laid (h := h') k hp hn) (I2.hok.laid k hp ⟨hlen, out.toList, c, vals_of_strs hi, hg'⟩) (by rw [g]; exact I2.bare) (fun _ z => nomatch z)
  have e : s' = { s1 with heap := s'.heap, gens := s'.gens, drawn := s'.drawn, toks := s'.toks } := by
    cases s'
    cases s1
    cases o
    rfl
  rw [e]
  exact ⟨.ref p, _, J, rfl, q1 ns p pm hs hn⟩
/-- what it tells -/
def srtSt (xs : List EV) : Option (List EV) := match strsOf xs with
  | some ss => match Nat.ble ss.length 1000 with
    | true => some ((sortS (disN ss)).map fun s => .p (.str s))
    | false => none
  | none => none
def lSrtSetL (fe : ES → M (List EV)) : ES → M (List EV) := fun σ h => (fe σ h).bind fun xs h1 => R.opt (srtSt xs) h1
def lSrtSet (fe : ES → M EV) : ES → M (List EV) := fun σ h => (fe σ h).bind fun v h1 => R.opt ((seqOf h1 v).bind fun q => match q.1 with
  | true => none
  | false => srtSt q.2) h1
section
variable {G : Wd} {X : Cx}
theorem disN_sub (xs : List (List Nat)) : ∀ s ∈ disN xs, s ∈ xs := by
  have : ∀ (l σ : List (List Nat)), ∀ s ∈ l.foldl addN σ, s ∈ σ ∨ s ∈ l := by
    intro l
    induction l with
    | nil => intro σ s m; exact .inl m
    | cons a r ih =>
      intro σ s m
      rcases ih _ s m with m | m
      · unfold addN at m
        split at m
        · exact .inl m
        · rcases List.mem_append.mp m with m | m
          · exact .inl m
          · rw [List.mem_singleton] at m
            exact .inr (by simp [m])
      · exact .inr (by simp [m])
  intro s m
  rcases this xs [] s m with m | m
  · cases m
  · exact m
theorem srtSt_rep {xs ys : List EV} {ρ : Rh} {H : Hp} {vs : List V} (r : RepL G ρ H xs vs) (e : srtSt xs = some ys) : ∃ zs : List Str, vs = zs.map V.str ∧ zs.length ≤ 1000 ∧
    ∀ ws : List Str, ws.Perm (disU zs) → sortedS ws = true → RepL G ρ H ys (ws.map V.str) := by
  unfold srtSt at e
  split at e
  · rename_i ss e1
    split at e
    · rename_i hl
      cases e
      obtain ⟨rfl, so⟩ := strs_rep r e1
      refine ⟨ss.map toS, by rw [List.map_map]; rfl, by rw [List.length_map]; exact Nat.ble_eq.mp hl, fun ws hp hs => ?_⟩
      rw [← disN_map] at hp
      have e2 : ws = (sortS (disN ss)).map toS := by
        have h1 : (ws.map fun s => s.cps.toList).Perm (disN ss) := by
          have := hp.map fun s => s.cps.toList
          rw [List.map_map] at this
          have e3 : ((disN ss).map ((fun s => s.cps.toList) ∘ toS)) = disN ss := by
            rw [show ((fun s => s.cps.toList) ∘ toS) = id from rfl, List.map_id]
          rwa [e3] at this
        have h2 : (ws.map fun s => s.cps.toList).Pairwise (fun x y => strLe x y = true) := List.pairwise_map.mpr (sortedS_pw _ hs)
        have h3 := sortS_uniq h1 h2
        rw [← h3, List.map_map]
        have : (toS ∘ fun s : Str => s.cps.toList) = id := funext fun s => toS_cps s
        rw [this, List.map_id]
      rw [e2, List.map_map]
      exact rep_strs fun s m => so s (disN_sub ss s ((sortS_perm _).mem_iff.mp m))
    · cases e
  · cases e
variable {e : Expr} {p p2 q pos : Pos}
theorem rl_srtSetL {fe : ES → M (List EV)} (hm : X.mg "sorted" = none) (hm2 : X.mg "set" = none) (ha : RL G X e fe) (hc : X.calm = true := by rfl) (hK : X.K = G.K := by rfl) (hg : Gl X "sorted" := by rfl) (hg2 : Gl X "set" := by rfl)
    (he : starEach [e] X.env = (false, eval e X.env) :: starEach [] X.env := by first | exact star_one rfl | rfl) : RL G X (.Call (.Name "sorted" p) [.Call (.Name "set" p2) [e] [] q] [] pos) (lSrtSetL fe) := by
  intro σ h ρ τ H Q R S ff
  refine wE.of (pe_srtSet hg hm hg2 hm2 wE.pe hc he) ?_
  refine ha σ h ρ τ H _ R S (FinE.imp (FinE.bind ff) fun xs h1 ρ1 H1 e1 R1 f1 q vs hq m l Rp r => ?_)
  obtain ⟨z, eo, f2⟩ := opt_fin f1
  obtain ⟨zs, rfl, len, rr⟩ := srtSt_rep (r.mono Mo.unhid) eo
  exact ⟨_, zs, rfl, by rw [hK]; exact .inl (.inl l), len, fun ws t pm hs ht => LK.laid ht (e1.dom t ht) R1 (rr ws pm hs) (f2 ρ1 _ (Ext.laid0 ht) (R1.aside ht))⟩
theorem rl_srtSet {fe : ES → M EV} (hm : X.mg "sorted" = none) (hm2 : X.mg "set" = none) (ha : RE G X e fe) (hc : X.calm = true := by rfl) (hK : X.K = G.K := by rfl) (hg : Gl X "sorted" := by rfl) (hg2 : Gl X "set" := by rfl)
    (he : starEach [e] X.env = (false, eval e X.env) :: starEach [] X.env := by first | exact star_one rfl | rfl) : RL G X (.Call (.Name "sorted" p) [.Call (.Name "set" p2) [e] [] q] [] pos) (lSrtSet fe) := by
  intro σ h ρ τ H Q R S ff
  refine wE.of (pe_srtSet hg hm hg2 hm2 wE.pe hc he) ?_
  refine ha σ h ρ τ H _ R S (FinE.imp (FinE.bind ff) fun v h1 ρ1 H1 e1 R1 f1 w rv => ?_)
  obtain ⟨z, eo, f2⟩ := opt_fin f1
  cases es : seqOf h1 v with
  | none => rw [es] at eo; cases eo
  | some q =>
    rw [es] at eo
    obtain ⟨t, xs⟩ := q
    cases t with
    | true => cases eo
    | false =>
      obtain ⟨a, vs, rfl, sq, rr⟩ := seq_rep R1 rv es
      obtain ⟨zs, rfl, len, rz⟩ := srtSt_rep rr eo
      exact ⟨a, zs, rfl, by rw [hK]; exact sq, len, fun ws t pm hs ht => LK.laid ht (e1.dom t ht) R1 (rz ws pm hs) (f2 ρ1 _ (Ext.laid0 ht) (R1.aside ht))⟩
end
end Y
end

section
set_option maxHeartbeats 3200000
/-! YP4: max of a list of numbers. -/
namespace Y
open PySem PySem.Spec PyProof.Rows L2
def intsP : List PV → Option (List Int)
  | [] => some []
  | .int i :: r => match intsP r with
    | some l => some (i :: l)
    | none => none
  | _ :: _ => none
def maxI (m : Int) : List Int → Int
  | [] => m
  | x :: r => maxI (match intLt m x with | true => x | false => m) r
where intLt (a b : Int) : Bool := decide (a < b)
def fMax1 : List EV → EH → Option (EV × EH)
  | [.p (.lst xs)], h => match intsP xs with
    | some (i :: r) => some (.p (.int (maxI i r)), h)
    | _ => none
  | vs, h => fMax2 vs h
theorem maxI_mem : ∀ (m : Int) (l : List Int), maxI m l ∈ m :: l
  | m, [] => by simp [maxI]
  | m, x :: r => by
    unfold maxI
    have := maxI_mem (match maxI.intLt m x with | true => x | false => m) r
    rcases List.mem_cons.mp this with e | e
    · rw [e]
      split <;> simp
    · simp [e]
theorem maxI_le : ∀ (m : Int) (l : List Int), ∀ y ∈ m :: l, y ≤ maxI m l
  | m, [], y, h => by
    simp at h
    rw [h]
    exact Int.le_refl _
  | m, x :: r, y, h => by
    unfold maxI
    have ih := maxI_le (match maxI.intLt m x with | true => x | false => m) r
    have h0 := ih _ List.mem_cons_self
    rcases List.mem_cons.mp h with e | e
    · rw [e]
      refine Int.le_trans ?_ h0
      split
      · rename_i q
        simp only [maxI.intLt, decide_eq_true_eq] at q
        omega
      · omega
    · rcases List.mem_cons.mp e with e | e
      · rw [e]
        refine Int.le_trans ?_ h0
        split
        · omega
        · rename_i q
          simp only [maxI.intLt, decide_eq_false_iff_not] at q
          omega
      · exact ih y (by simp [e])
section
variable {G : Wd} {X : Cx}
theorem intsP_rep {ρ : Rh} {H : Hp} : ∀ {xs : List PV} {vs : List V} {ss : List Int}, PRepL G ρ H xs vs → intsP xs = some ss → vs = ss.map V.int
  | [], _, _, .nil, e => by cases e; rfl
  | x :: xs, _, ss, .cons a b, e => by
    cases a with
    | int =>
      simp only [intsP] at e
      cases q : intsP xs with
      | none => rw [q] at e; cases e
      | some t =>
        rw [q] at e
        cases e
        rw [intsP_rep b q]
        rfl
    | _ => cases e
theorem rc_max1 (hc : X.calm = true := by rfl) (hK : X.K = G.K := by rfl) : RC G X (.builtin "max") fMax1 := by
  intro xs h ρ H vs Q z h' R r e k
  unfold fMax1 at e
  split at e
  · split at e
    · rename_i i l es
      cases e
      obtain ⟨v, rfl, a⟩ := one_rep r
      cases rep_p a with
      | lst q rr =>
        have := intsP_rep rr es
        subst this
        refine wC.of (cr_max hc) ⟨_, i :: l, rfl, by rw [hK]; exact q.sq, by simp, fun m mm hm => ?_⟩
        have : m = maxI i l := Int.le_antisymm (maxI_le i l m mm) (hm _ (maxI_mem i l))
        rw [this]
        exact k ρ H _ Ext.refl R (.p (.int _))
    · cases e
  · exact rc_max2 hc _ h ρ H vs Q z h' R r e k
end
end Y
end

section
set_option maxHeartbeats 4000000
/-! M0: classes, attributes and mirrors that all laws have alike (printed by mkm0.py). -/
namespace Law
open PySem PySem.Spec PyProof.Rows L2 Y
def an : List Str := (["row", "kind", "name", "own_content", "rows", "aliases", "exports", "own_text", "pieces", "marks", "own_open", "own_starts", "value", "module", "limit", "one", "other", "moment", "readings", "own_exported"] : List Str) ++ (["scope", "own_kinds", "own_rows", "entry", "taken", "own_code", "own_frames", "own_values", "used", "through", "compared", "event", "followers", "own_body", "own_at", "frames", "own_alone", "own_parts", "own_address", "program"] : List Str) ++ (["addresses", "alone", "own_paths", "bodies", "own_addresses", "own_bodies", "own_homes", "own_meant", "folding", "own_one", "own_other", "pairs", "unlike", "own_layer", "states", "own_waiting", "own_program", "own_order", "own_holds", "own_size"] : List Str) ++ (["own_whole", "code", "old", "image", "moments", "groups", "later", "own_old", "touched", "own_known", "size", "kept", "entries", "own_entries", "own_table", "own_outer", "own_cancelled", "own_deep", "own_modules", "own_shelf"] : List Str) ++ (["own_last", "own_deeds", "own_bench", "own_kept", "names", "place", "own_tree", "bench", "own_trials"] : List Str)
abbrev NN : Nat := 89
def AN (i : Nat) : Str := an.getD i ""
theorem an_inj : ∀ i, i < NN → ∀ j, j < NN → AN i = AN j → i = j := by decide +kernel
def faLG : List (List Nat) := [[], [], [1, 2, 3, 4], [5, 6, 7, 8], [6, 5, 8, 9, 10, 11], [], [], [], [], [], [], [], [18, 19], [20, 21, 22, 3, 23, 8, 24], [25, 26, 27, 28, 29, 30, 31, 32, 33, 34], [28, 29, 30, 35, 31, 32], [36, 21, 37, 38], [39, 40, 41, 42, 43], [39, 3, 40, 43, 44, 45], [7, 23, 24, 43, 46, 21, 47], [7, 23, 24, 43, 46, 21, 47, 48, 33, 38], [22, 34, 23, 40, 43, 4], [49, 50, 51, 52, 53], [54, 43, 40, 30, 55, 25], [56, 44, 57, 58, 59], [60, 61, 43, 40, 23, 24], [], [39, 2, 62, 23, 21, 22, 8, 24], [63, 64, 65], [], [], [39, 40, 41, 42, 43, 67, 68], [39, 69, 48, 70, 71, 72], [39, 48, 63, 70, 71, 73, 74], [75, 76, 77, 78, 79, 80, 81], [82, 83], [23, 78, 79, 80, 81], [], [39, 84], [], [7, 34, 10], [86, 7], [87, 88]]
def faG (c k : Nat) : Bool := (faLG.getD c []).any (Nat.beq k)
def isExc : CK → Bool
  | .exc => true
  | _ => false
def isOrd : CK → Bool
  | .ord => true
  | _ => false
def d_FORMS : List (List Nat × PV) := [([99, 97, 108, 108], (.rot [(.str [110, 97, 109, 101])])), ([99, 97, 108, 108, 114], (.rot [(.str [114, 101, 103, 105, 115, 116, 101, 114])])), ([114, 101, 116], (.rot [])), ([97, 100, 100, 114], (.rot [(.str [114, 101, 103, 105, 115, 116, 101, 114]), (.str [110, 97, 109, 101])])), ([115, 101, 116], (.rot [(.str [114, 101, 103, 105, 115, 116, 101, 114]), (.str [110, 117, 109, 98, 101, 114])])), ([109, 111, 118, 101], (.rot [(.str [114, 101, 103, 105, 115, 116, 101, 114]), (.str [114, 101, 103, 105, 115, 116, 101, 114])])), ([114, 101, 97, 100], (.rot [(.str [114, 101, 103, 105, 115, 116, 101, 114]), (.str [110, 97, 109, 101]), (.str [110, 117, 109, 98, 101, 114])])), ([114, 101, 97, 100, 114], (.rot [(.str [114, 101, 103, 105, 115, 116, 101, 114]), (.str [114, 101, 103, 105, 115, 116, 101, 114]), (.str [110, 117, 109, 98, 101, 114])])), ([115, 97, 109, 101], (.rot [(.str [114, 101, 103, 105, 115, 116, 101, 114]), (.str [114, 101, 103, 105, 115, 116, 101, 114]), (.str [116, 97, 114, 103, 101, 116])])), ([99, 104, 111, 111, 115, 101], (.rot [(.str [116, 97, 114, 103, 101, 116])])), ([116, 101, 108, 108], (.rot [(.str [114, 101, 103, 105, 115, 116, 101, 114])])), ([103, 111], (.rot [(.str [116, 97, 114, 103, 101, 116])]))]
def b__law_pool : ES → EH → FL :=
  (sSeq (sSet (gN 2) (eC (.p (.int 0))))
  (sSeq (sIf (tVal (eOp opLt (eVar 1) (eCall fLenA (aCons (eVar 0) aNil)))) (sSet (gN 2) (eOp opIx (eVar 0) (eVar 1))) sNil)
  (sSeq (sSet (gN 3) (eCall fAbs (aCons (eVar 2) aNil)))
  (sSeq (sSet (gN 4) (eOp opMod (eOp opPow (eOp opAdd (eOp opAdd (eOp opAdd (eOp opMod (eVar 2) (eC (.p (.int 2147483629)))) (eOp opMul (eOp opMul (eC (.p (.int 104729))) (eVar 1)) (eVar 1))) (eOp opMul (eC (.p (.int 7919))) (eVar 1))) (eC (.p (.int 11)))) (eC (.p (.int 3)))) (eC (.p (.int 2147483647)))))
  (sRet (eNew (lLst (aCons (eOp opMul (eVar 3) (eCall fIntS (aCons (eOp opGe (eVar 3) (eOp opPow (eC (.p (.int 10))) (eC (.p (.int 18))))) aNil))) (aCons (eVar 4) aNil)))))))))
def F__law_pool : List EV → EH → Y.R EV := fnF 5 b__law_pool
def b__law_take : ES → EH → FL :=
  (sSeq (sIf (tVal (eOp opGt (eOp opIx (eVar 0) (eC (.p (.int 0)))) (eC (.p (.int 0))))) (sSeq (sSet (gN 2) (eOp opMod (eOp opIx (eVar 0) (eC (.p (.int 0)))) (eVar 1)))
  (sSeq (sSub (eOp opFdiv (eOp opIx (eVar 0) (eC (.p (.int 0)))) (eVar 1)) (eVar 0) (eC (.p (.int 0))))
  (sRet (eVar 2)))) sNil)
  (sSeq (sSub (eOp opMod (eOp opAdd (eOp opMul (eOp opIx (eVar 0) (eC (.p (.int 1)))) (eC (.p (.int 48271)))) (eC (.p (.int 11)))) (eC (.p (.int 2147483647)))) (eVar 0) (eC (.p (.int 1))))
  (sRet (eOp opMod (eOp opFdiv (eOp opMod (eOp opMul (eOp opIx (eVar 0) (eC (.p (.int 1)))) (eOp opIx (eVar 0) (eC (.p (.int 1))))) (eC (.p (.int 2147483629)))) (eC (.p (.int 64)))) (eVar 1)))))
def F__law_take : List EV → EH → Y.R EV := fnF 3 b__law_take
def b__law_left : ES → EH → FL :=
  (sSeq (sSet (gN 1) (eNew (lAdd (eAny (lLst (aCons (eC (.p (.int 0))) aNil))) (eAny (lSeq fList (eSl (eVar 0) pNone (pSome (eC (.p (.int 63))))))))))
  (sSeq (sIf (tVal (eOp opEq (eCall fLenA (aCons (eVar 1) aNil)) (eC (.p (.int 1))))) (sExpr (eAppend (eVar 1) (eC (.p (.int 0))))) sNil)
  (sRet (eVar 1))))
def F__law_left : List EV → EH → Y.R EV := fnF 2 b__law_left
def b__law_draw : ES → EH → FL :=
  (sSeq (sSub (eOp opAdd (eOp opIx (eVar 0) (eC (.p (.int 0)))) (eC (.p (.int 1)))) (eVar 0) (eC (.p (.int 0))))
  (sSeq (sSet (gN 2) (eOp opAdd (eC (.p (.int 1))) (eOp opMod (eOp opIx (eVar 0) (eC (.p (.int 0)))) (eOp opSub (eCall fLenA (aCons (eVar 0) aNil)) (eC (.p (.int 1)))))))
  (sSeq (sSet (gN 3) (eOp opIx (eVar 0) (eVar 2)))
  (sSeq (sIf (tVal (eOp opGe (eVar 3) (eOp opPow (eC (.p (.int 10))) (eC (.p (.int 18)))))) (sSeq (sSub (eOp opFdiv (eVar 3) (eVar 1)) (eVar 0) (eVar 2))
  (sRet (eOp opMod (eCall fIntS (aCons (eVar 3) aNil)) (eVar 1)))) sNil)
  (sSeq (sSub (eOp opMod (eCall fIntS (aCons (eOp opAdd (eOp opAdd (eOp opMul (eVar 3) (eC (.p (.int 48271)))) (eOp opMul (eOp opIx (eVar 0) (eC (.p (.int 0)))) (eC (.p (.int 7919))))) (eC (.p (.int 11)))) aNil)) (eC (.p (.int 2147483647)))) (eVar 0) (eVar 2))
  (sRet (eOp opMod (eOp opFdiv (eOp opIx (eVar 0) (eVar 2)) (eC (.p (.int 7)))) (eVar 1))))))))
def F__law_draw : List EV → EH → Y.R EV := fnF 4 b__law_draw
def b_is_name : ES → EH → FL :=
  (sSeq (sIf (tOr' (tNot' (tVal (eUn (isTy "str") (eVar 0)))) (tOr' (tNot' (tVal (eChain opLe opLe (eC (.p (.int 1))) (eCall fLenA (aCons (eVar 0) aNil)) (eC (.p (.int 8)))))) (tVal (eOp opNin (eOp opIx (eVar 0) (eC (.p (.int 0)))) (eC (.p (.str [97, 98, 99, 100, 101, 102, 103, 104, 105, 106, 107, 108, 109, 110, 111, 112, 113, 114, 115, 116, 117, 118, 119, 120, 121, 122]))))))) (sRet (eC (.p (.bl false)))) sNil)
  (sRet (eAndB (eSeqL fAll (lLc (iVal (eVar 0)) (gN 1) tYes' (eOp opIn (eVar 1) (eOp opAdd (eC (.p (.str [97, 98, 99, 100, 101, 102, 103, 104, 105, 106, 107, 108, 109, 110, 111, 112, 113, 114, 115, 116, 117, 118, 119, 120, 121, 122]))) (eC (.p (.str [48, 49, 50, 51, 52, 53, 54, 55, 56, 57]))))) [1])) (eAndB (eOp opNin (eVar 0) (eC (.p (.rot [(.str [102, 117, 110, 99]), (.str [100, 97, 116, 97]), (.str [101, 110, 100]), (.str [101, 120, 112, 111, 114, 116]), (.str [97, 108, 105, 97, 115])])))) (eInG d_FORMS true (eVar 0))))))
def F_is_name : List EV → EH → Y.R EV := fnF 2 b_is_name
def b_number_of : ES → EH → FL :=
  (sSeq (sSet (gN 1) (eAndB (eChain opLe opLe (eC (.p (.int 1))) (eCall fLenA (aCons (eVar 0) aNil)) (eC (.p (.int 2)))) (eSeqL fAll (lLc (iVal (eVar 0)) (gN 2) tYes' (eOp opIn (eVar 2) (eC (.p (.str [48, 49, 50, 51, 52, 53, 54, 55, 56, 57])))) [2]))))
  (sSeq (sIf (tOr' (tNot' (tVal (eVar 1))) (tAnd' (tVal (eOp opEq (eCall fLenA (aCons (eVar 0) aNil)) (eC (.p (.int 2))))) (tVal (eOp opEq (eOp opIx (eVar 0) (eC (.p (.int 0)))) (eC (.p (.str [48]))))))) (sRet (eC (.p .non))) sNil)
  (sRet (eCall fIntS (aCons (eVar 0) aNil)))))
def F_number_of : List EV → EH → Y.R EV := fnF 3 b_number_of
def b_argument_of : ES → EH → FL :=
  (sMatch (eVar 1) (mCase (ptVal (.p (.str [110, 97, 109, 101]))) (sRet (eIf (tVal (eFnP F_is_name [] (aCons (eVar 0) aNil))) (eVar 0) (eC (.p .non))))
    (mCase (ptVal (.p (.str [114, 101, 103, 105, 115, 116, 101, 114]))) (sRet (eIf (tVal (eOp opIn (eVar 0) (eC (.p (.rot [(.str [97]), (.str [98]), (.str [99]), (.str [100])]))))) (eVar 0) (eC (.p .non))))
    (mCase ptAny (sRet (eFnP F_number_of [] (aCons (eVar 0) aNil)))
    mNil))))
def F_argument_of : List EV → EH → Y.R EV := fnF 2 b_argument_of
def b_instruction_of : ES → EH → FL :=
  (sSeq (sIf (tOr' (tVal (eInG d_FORMS true (eOp opIx (eVar 0) (eC (.p (.int 0)))))) (tVal (eOp opNe (eCall fLenA (aCons (eIxG d_FORMS (eOp opIx (eVar 0) (eC (.p (.int 0))))) aNil)) (eOp opSub (eCall fLenA (aCons (eVar 0) aNil)) (eC (.p (.int 1))))))) (sRet (eC (.p .non))) sNil)
  (sSeq (sSet (gN 1) (eAny (lLc (iZip (dLst (lSl (eVar 0) (pSome (eC (.p (.int 1)))) pNone) (dVal (eIxG d_FORMS (eOp opIx (eVar 0) (eC (.p (.int 0))))) dNil))) (gTupS 2 (gConsS (gN 2) (gConsS (gN 3) gNilS))) tYes' (eFnP F_argument_of [] (aCons (eVar 2) (aCons (eVar 3) aNil))) [2, 3])))
  (sRet (eIf (tVal (eOp opIn (eC (.p .non)) (eVar 1))) (eC (.p .non)) (eTup (aCons (eOp opIx (eVar 0) (eC (.p (.int 0)))) (aStar (eVar 1) aNil)))))))
def F_instruction_of : List EV → EH → Y.R EV := fnF 4 b_instruction_of
def b_word_of : ES → EH → FL :=
  (sSeq (sIf (tVal (eOp opNe (eCall fLenA (aCons (eVar 0) aNil)) (eC (.p (.int 1))))) (sRet (eC (.p .non))) sNil)
  (sRet (eIf (tVal (eFnP F_is_name [] (aCons (eOp opIx (eVar 0) (eC (.p (.int 0)))) aNil))) (eOp opIx (eVar 0) (eC (.p (.int 0)))) (eFnP F_number_of [] (aCons (eOp opIx (eVar 0) (eC (.p (.int 0)))) aNil)))))
def F_word_of : List EV → EH → Y.R EV := fnF 1 b_word_of
def b_target_of : ES → EH → FL :=
  (sRet (eIf (tAnd' (tVal (eUn (isTy "tuple") (eVar 0))) (tVal (eOp opIn (eOp opIx (eVar 0) (eC (.p (.int 0)))) (eTup (aCons (eC (.p (.str [115, 97, 109, 101]))) (aCons (eC (.p (.str [99, 104, 111, 111, 115, 101]))) (aCons (eC (.p (.str [103, 111]))) aNil))))))) (eOp opIx (eVar 0) (eUn uNeg (eC (.p (.int 1))))) (eC (.p .non))))
def F_target_of : List EV → EH → Y.R EV := fnF 1 b_target_of
def b_Reading_init : ES → EH → FL :=
  (sSeq (sAttr faG 6 (eVar 0) (eNew (lLst aNil)))
  (sSeq (sAttr faG 5 (eVar 0) eDict0)
  (sSeq (sAttr faG 8 (eVar 0) (eNew (lLst aNil)))
  (sSeq (sAttr faG 9 (eVar 0) (eNew (lLst aNil)))
  (sSeq (sAttr faG 10 (eVar 0) (eC (.p .non)))
  (sAttr faG 11 (eVar 0) (eNew (lLst aNil))))))))
def F_Reading_init : List EV → EH → Y.R EV := fnF 1 b_Reading_init
def b_Reading_has : ES → EH → FL :=
  (sRet (eOrB (eOp opIn (eVar 1) (eAttr 5 (eVar 0))) (eOp opIn (eVar 1) (eAny (lLc (iVal (eAttr 8 (eVar 0))) (gN 2) tYes' (eAttr 2 (eVar 2)) [2])))))
def F_Reading_has : List EV → EH → Y.R EV := fnF 3 b_Reading_has
def tb_has_Reading_0 (c : Nat) : Option (List EV → EH → Y.R EV) := match c with
  | 4 => some F_Reading_has
  | _ => none
def b_Reading_read_outside : ES → EH → FL :=
  (sSeq (sSet (gN 3) (eSl (eVar 2) (pSome (eC (.p (.int 1)))) pNone))
  (sSeq (sIf (tNot' (tVal (eSeqL fAll (lLc (iVal (eVar 3)) (gN 5) tYes' (eFnP F_is_name [] (aCons (eVar 5) aNil)) [5])))) (sRet (eC (.p (.bl false)))) sNil)
  (sSeq (sMatch (eTup (aCons (eOp opIx (eVar 2) (eC (.p (.int 0)))) (aCons (eCall fLenA (aCons (eVar 3) aNil)) aNil))) (mCaseG (ptSeq 2 (psCons (ptVal (.p (.str [101, 120, 112, 111, 114, 116]))) (psCons (ptCap 4) psNil))) (tVal (eOp opGt (eVar 4) (eC (.p (.int 0))))) (sFor (iVal (eVar 3)) (gN 5) (sSeq (sIf (tVal (eOp opIn (eVar 5) (eAttr 6 (eVar 0)))) (sRet (eC (.p (.bl false)))) sNil)
  (sSeq (sExpr (eAppend (eAttr 6 (eVar 0)) (eVar 5)))
  (sExpr (eAppend (eAttr 9 (eVar 0)) (eTup (aCons (eVar 1) (aCons (eC (.p (.str [101, 120, 112, 111, 114, 116]))) (aCons (eVar 5) aNil)))))))))
    (mCase (ptSeq 2 (psCons (ptVal (.p (.str [97, 108, 105, 97, 115]))) (psCons (ptVal (.p (.int 2))) psNil))) (sSeq (sIf (tVal (eMeth tb_has_Reading_0 [] (eVar 0) (aCons (eOp opIx (eVar 3) (eC (.p (.int 0)))) aNil))) (sRet (eC (.p (.bl false)))) sNil)
  (sSeq (sSub (eOp opIx (eVar 3) (eC (.p (.int 1)))) (eAttr 5 (eVar 0)) (eOp opIx (eVar 3) (eC (.p (.int 0)))))
  (sExpr (eAppend (eAttr 9 (eVar 0)) (eTup (aCons (eVar 1) (aCons (eC (.p (.str [97, 108, 105, 97, 115]))) (aCons (eOp opIx (eVar 3) (eC (.p (.int 0)))) aNil))))))))
    (mCase (ptSeq 2 (psCons (ptAs (ptOr (ptVal (.p (.str [102, 117, 110, 99]))) (ptOr (ptVal (.p (.str [100, 97, 116, 97]))) ptNo)) 6) (psCons (ptVal (.p (.int 1))) psNil))) (sSeq (sIf (tOr' (tVal (eMeth tb_has_Reading_0 [] (eVar 0) (aCons (eOp opIx (eVar 3) (eC (.p (.int 0)))) aNil))) (tVal (eOp opEq (eCall fLenA (aCons (eAttr 8 (eVar 0)) aNil)) (eC (.p (.int 12)))))) (sRet (eC (.p (.bl false)))) sNil)
  (sSeq (sAttr faG 10 (eVar 0) (eTup (aCons (eVar 6) (aCons (eOp opIx (eVar 3) (eC (.p (.int 0)))) (aCons (eNew (lLst aNil)) aNil)))))
  (sAttr faG 11 (eVar 0) (eNew (lLst aNil)))))
    (mCase ptAny (sRet (eC (.p (.bl false))))
    mNil)))))
  (sRet (eC (.p (.bl true)))))))
def F_Reading_read_outside : List EV → EH → Y.R EV := fnF 7 b_Reading_read_outside
def sl_Piece : List (Nat × (ES → M EV)) := [(2, (eVar 1)), (1, (eVar 2)), (4, (eVar 3)), (3, (eTup (aCons (eVar 1) (aCons (eVar 2) (aCons (eVar 3) aNil)))))]
def b_Piece_len : ES → EH → FL :=
  (sRet (eCall fLenA (aCons (eAttr 4 (eVar 0)) aNil)))
def F_Piece_len : List EV → EH → Y.R EV := fnF 1 b_Piece_len
def b_Reading_close : ES → EH → FL :=
  (sSeq (sSet (gTupS 3 (gConsS (gN 1) (gConsS (gN 2) (gConsS (gN 3) gNilS)))) (eAttr 10 (eVar 0)))
  (sSeq (sIf (tVal (eOp opEq (eVar 1) (eC (.p (.str [102, 117, 110, 99]))))) (sFor (iZip (dVal (eAttr 11 (eVar 0)) (dVal (eVar 3) dNil))) (gTupS 2 (gConsS (gN 4) (gConsS (gN 5) gNilS))) (sSeq (sSet (gN 6) (eFnP F_target_of [] (aCons (eVar 5) aNil)))
  (sIf (tAnd' (tVal (eOp (opIs true) (eVar 6) (eC (.p .non)))) (tVal (eOp opGt (eVar 6) (eCall fLenA (aCons (eVar 3) aNil))))) (sRet (eVar 4)) sNil))) sNil)
  (sSeq (sExpr (eAppend (eAttr 8 (eVar 0)) (eMakeS 2 4 sl_Piece [] (aCons (eVar 2) (aCons (eVar 1) (aCons (eSeq fTup1 (eVar 3)) aNil))))))
  (sSeq (sAttr faG 10 (eVar 0) (eC (.p .non)))
  (sRet (eC (.p .non)))))))
def F_Reading_close : List EV → EH → Y.R EV := fnF 7 b_Reading_close
def tb_read_outside_Reading_0 (c : Nat) : Option (List EV → EH → Y.R EV) := match c with
  | 4 => some F_Reading_read_outside
  | _ => none
def tb_close_Reading_0 (c : Nat) : Option (List EV → EH → Y.R EV) := match c with
  | 4 => some F_Reading_close
  | _ => none
def b_Reading_read : ES → EH → FL :=
  (sSeq (sIf (tVal (eOp (opIs false) (eAttr 10 (eVar 0)) (eC (.p .non)))) (sRet (eIf (tVal (eMeth tb_read_outside_Reading_0 [] (eVar 0) (aCons (eVar 1) (aCons (eVar 2) aNil)))) (eC (.p .non)) (eVar 1))) sNil)
  (sSeq (sIf (tVal (eOp opEq (eVar 2) (eAny (lLst (aCons (eC (.p (.str [101, 110, 100]))) aNil))))) (sRet (eMeth tb_close_Reading_0 [] (eVar 0) aNil)) sNil)
  (sSeq (sSet (gTupS 3 (gConsS (gN 4) (gConsS (gN 5) (gConsS (gN 6) gNilS)))) (eAttr 10 (eVar 0)))
  (sSeq (sSet (gN 3) (eIf (tVal (eOp opEq (eVar 4) (eC (.p (.str [102, 117, 110, 99]))))) (eFnP F_instruction_of [] (aCons (eVar 2) aNil)) (eFnP F_word_of [] (aCons (eVar 2) aNil))))
  (sSeq (sIf (tOr' (tVal (eOp (opIs false) (eVar 3) (eC (.p .non)))) (tVal (eOp opEq (eCall fLenA (aCons (eVar 6) aNil)) (eC (.p (.int 16)))))) (sRet (eVar 1)) sNil)
  (sSeq (sExpr (eAppend (eVar 6) (eVar 3)))
  (sSeq (sExpr (eAppend (eAttr 11 (eVar 0)) (eVar 1)))
  (sSeq (sExpr (eAppend (eAttr 9 (eVar 0)) (eTup (aCons (eVar 1) (aCons (eVar 4) (aCons (eVar 3) aNil))))))
  (sRet (eC (.p .non)))))))))))
def F_Reading_read : List EV → EH → Y.R EV := fnF 7 b_Reading_read
def tb_read_Reading_0 (c : Nat) : Option (List EV → EH → Y.R EV) := match c with
  | 4 => some F_Reading_read
  | _ => none
def b_reading_of : ES → EH → FL :=
  (sSeq (sIf (tNot' (tVal (eUn (isTy "str") (eVar 0)))) (sRaise 1 [0] (aCons (eC (.p .non)) aNil)) sNil)
  (sSeq (sSet (gN 1) (eIf (tVal (eOp opNe (eVar 0) (eC (.p (.str []))))) (eAny (lSplit (eVar 0) (eC (.p (.str [10]))))) (eAny (lLst aNil))))
  (sSeq (sSet (gN 2) (eMakeI 4 F_Reading_init [] aNil))
  (sSeq (sFor (iEnum (dVal (eVar 1) dNil)) (gTupS 2 (gConsS (gN 3) (gConsS (gN 4) gNilS))) (sSeq (sSet (gN 5) (eMeth tb_read_Reading_0 [] (eVar 2) (aCons (eVar 3) (aCons (eAny (lSplit (eVar 4) (eC (.p (.str [32]))))) aNil))))
  (sIf (tVal (eOp (opIs true) (eVar 5) (eC (.p .non)))) (sRaise 1 [0] (aCons (eVar 5) aNil)) sNil)))
  (sSeq (sIf (tVal (eOp (opIs true) (eAttr 10 (eVar 2)) (eC (.p .non)))) (sRaise 1 [0] (aCons (eCall fLenA (aCons (eVar 1) aNil)) aNil)) sNil)
  (sRet (eVar 2)))))))
def F_reading_of : List EV → EH → Y.R EV := fnF 6 b_reading_of
def b_readings_of : ES → EH → FL :=
  (sSeq (sFor (iDK (eVar 0)) (gN 1) (sIf (tNot' (tVal (eFnP F_is_name [] (aCons (eVar 1) aNil)))) (sRaise 5 [12] (aCons (eVar 1) aNil)) sNil))
  (sSeq (sSet (gN 2) eDict0)
  (sSeq (sFor (iLst (lSeqL fSorted (lDK (eVar 0)))) (gN 1) (sTryT (sSub (eFnP F_reading_of [] (aCons (eOp opIx (eVar 0) (eVar 1)) aNil)) (eVar 2) (eVar 1))))
  (sRet (eVar 2)))))
def F_readings_of : List EV → EH → Y.R EV := fnF 4 b_readings_of
def b_Scope_init : ES → EH → FL :=
  (sSeq (sAttr faG 18 (eVar 0) (eVar 1))
  (sSeq (sAttr faG 19 (eVar 0) eDict0)
  (sFor (iDK (eVar 1)) (gN 2) (sFor (iVal (eAttr 6 (eOp opIx (eVar 1) (eVar 2)))) (gN 3) (sExpr (eAppend (eSetd (eAttr 19 (eVar 0)) (eVar 3) (eNew (lLst aNil))) (eVar 2)))))))
def F_Scope_init : List EV → EH → Y.R EV := fnF 4 b_Scope_init
def b_Scope_meaning : ES → EH → FL :=
  (sSeq (sSet (gTupS 2 (gConsS (gN 3) (gConsS (gN 4) gNilS))) (eTup (aCons (eNew (lLst aNil)) (aCons (eTup (aCons (eVar 1) (aCons (eVar 2) aNil))) aNil))))
  (sSeq (whileK (tVal (eOp opNin (eVar 4) (eVar 3))) (sSeq (sExpr (eAppend (eVar 3) (eVar 4)))
  (sSeq (sSet (gN 5) (eOp opIx (eAttr 18 (eVar 0)) (eOp opIx (eVar 4) (eC (.p (.int 0))))))
  (sSeq (sFor (iVal (eAttr 8 (eVar 5))) (gN 6) (sIf (tVal (eOp opEq (eAttr 2 (eVar 6)) (eOp opIx (eVar 4) (eC (.p (.int 1)))))) (sRet (eTup (aCons (eOp opIx (eVar 4) (eC (.p (.int 0)))) (aCons (eVar 6) aNil)))) sNil))
  (sIf (tVal (eOp opIn (eOp opIx (eVar 4) (eC (.p (.int 1)))) (eAttr 5 (eVar 5)))) (sSet (gN 4) (eTup (aCons (eOp opIx (eVar 4) (eC (.p (.int 0)))) (aCons (eOp opIx (eAttr 5 (eVar 5)) (eOp opIx (eVar 4) (eC (.p (.int 1))))) aNil)))) (sSeq (sSet (gN 7) (eAny (lLc (iVal (eDget2 (eAttr 19 (eVar 0)) (eOp opIx (eVar 4) (eC (.p (.int 1)))) (eAny (lLst aNil)))) (gN 8) (tVal (eOp opNe (eVar 8) (eOp opIx (eVar 4) (eC (.p (.int 0)))))) (eVar 8) [8])))
  (sSeq (sIf (tOr' (tVal (eOp opEq (eVar 7) (eAny (lLst aNil)))) (tNot' (tVal (eMeth tb_has_Reading_0 [] (eOp opIx (eAttr 18 (eVar 0)) (eOp opIx (eVar 7) (eC (.p (.int 0))))) (aCons (eOp opIx (eVar 4) (eC (.p (.int 1)))) aNil))))) (sRet (eC (.p .non))) sNil)
  (sSet (gN 4) (eTup (aCons (eOp opIx (eVar 7) (eC (.p (.int 0)))) (aCons (eOp opIx (eVar 4) (eC (.p (.int 1)))) aNil)))))))))) 100000)
  (sRet (eC (.p .non)))))
def F_Scope_meaning : List EV → EH → Y.R EV := fnF 9 b_Scope_meaning
def tb_meaning_Scope_0 (c : Nat) : Option (List EV → EH → Y.R EV) := match c with
  | 12 => some F_Scope_meaning
  | _ => none
def tb_len_Piece (c : Nat) : Option (List EV → EH → Y.R EV) := match c with
  | 2 => some F_Piece_len
  | _ => none
def b_Scope_is_instruction_right : ES → EH → FL :=
  (sSeq (sIf (tVal (eOp opNin (eOp opIx (eVar 2) (eC (.p (.int 0)))) (eTup (aCons (eC (.p (.str [99, 97, 108, 108]))) (aCons (eC (.p (.str [97, 100, 100, 114]))) (aCons (eC (.p (.str [114, 101, 97, 100]))) aNil)))))) (sRet (eC (.p (.bl true)))) sNil)
  (sSeq (sSet (gN 3) (eMeth tb_meaning_Scope_0 [] (eVar 0) (aCons (eVar 1) (aCons (eIf (tVal (eOp opEq (eOp opIx (eVar 2) (eC (.p (.int 0)))) (eC (.p (.str [99, 97, 108, 108]))))) (eOp opIx (eVar 2) (eC (.p (.int 1)))) (eOp opIx (eVar 2) (eC (.p (.int 2))))) aNil))))
  (sSeq (sIf (tVal (eOp (opIs false) (eVar 3) (eC (.p .non)))) (sRet (eC (.p (.bl false)))) sNil)
  (sMatch (eOp opIx (eVar 2) (eC (.p (.int 0)))) (mCase (ptVal (.p (.str [99, 97, 108, 108]))) (sRet (eOp opEq (eAttr 1 (eOp opIx (eVar 3) (eC (.p (.int 1))))) (eC (.p (.str [102, 117, 110, 99])))))
    (mCase (ptVal (.p (.str [114, 101, 97, 100]))) (sRet (eAndB (eOp opEq (eAttr 1 (eOp opIx (eVar 3) (eC (.p (.int 1))))) (eC (.p (.str [100, 97, 116, 97])))) (eOp opLt (eOp opIx (eVar 2) (eC (.p (.int 3)))) (eCall (fLenO tb_len_Piece) (aCons (eOp opIx (eVar 3) (eC (.p (.int 1)))) aNil)))))
    (mCase ptAny (sRet (eC (.p (.bl true))))
    mNil)))))))
def F_Scope_is_instruction_right : List EV → EH → Y.R EV := fnF 4 b_Scope_is_instruction_right
def tb_is_instruction_right_Scope_0 (c : Nat) : Option (List EV → EH → Y.R EV) := match c with
  | 12 => some F_Scope_is_instruction_right
  | _ => none
def b_Scope_fits : ES → EH → FL :=
  (sMatch (eVar 2) (mCase (ptVal (.p (.str [101, 120, 112, 111, 114, 116]))) (sRet (eAndB (eMeth tb_has_Reading_0 [] (eOp opIx (eAttr 18 (eVar 0)) (eVar 1)) (aCons (eVar 3) aNil)) (eOp opEq (eOp opIx (eOp opIx (eAttr 19 (eVar 0)) (eVar 3)) (eC (.p (.int 0)))) (eVar 1))))
    (mCase (ptVal (.p (.str [100, 97, 116, 97]))) (sRet (eOrB (eUn (isTy "int") (eVar 3)) (eOp (opIs true) (eMeth tb_meaning_Scope_0 [] (eVar 0) (aCons (eVar 1) (aCons (eVar 3) aNil))) (eC (.p .non)))))
    (mCase (ptVal (.p (.str [102, 117, 110, 99]))) (sRet (eMeth tb_is_instruction_right_Scope_0 [] (eVar 0) (aCons (eVar 1) (aCons (eVar 3) aNil))))
    (mCase ptAny (sRet (eOp (opIs true) (eMeth tb_meaning_Scope_0 [] (eVar 0) (aCons (eVar 1) (aCons (eVar 3) aNil))) (eC (.p .non))))
    mNil)))))
def F_Scope_fits : List EV → EH → Y.R EV := fnF 4 b_Scope_fits
def b_Scope_full : ES → EH → FL :=
  (sSeq (sSet (gTupS 2 (gConsS (gN 3) (gConsS (gN 4) gNilS))) (eMeth tb_meaning_Scope_0 [] (eVar 0) (aCons (eVar 1) (aCons (eVar 2) aNil))))
  (sRet (eJoined (jCons (eFmt (eVar 3)) (jCons (eC (.p (.str [46]))) (jCons (eFmt (eAttr 2 (eVar 4))) jNil))))))
def F_Scope_full : List EV → EH → Y.R EV := fnF 5 b_Scope_full
def tb_full_Scope_0 (c : Nat) : Option (List EV → EH → Y.R EV) := match c with
  | 12 => some F_Scope_full
  | _ => none
def b_Scope_resolved : ES → EH → FL :=
  (sSeq (sIf (tVal (eOp opEq (eVar 2) (eC (.p (.str [100, 97, 116, 97]))))) (sRet (eIf (tVal (eUn (isTy "int") (eVar 3))) (eVar 3) (eMeth tb_full_Scope_0 [] (eVar 0) (aCons (eVar 1) (aCons (eVar 3) aNil))))) sNil)
  (sMatch (eVar 3) (mCase (ptSeq 2 (psCons (ptVal (.p (.str [99, 97, 108, 108]))) (psCons (ptCap 4) psNil))) (sRet (eTup (aCons (eC (.p (.str [99, 97, 108, 108]))) (aCons (eMeth tb_full_Scope_0 [] (eVar 0) (aCons (eVar 1) (aCons (eVar 4) aNil))) aNil))))
    (mCase (ptSeq 3 (psCons (ptVal (.p (.str [97, 100, 100, 114]))) (psCons (ptCap 5) (psCons (ptCap 4) psNil)))) (sRet (eTup (aCons (eC (.p (.str [97, 100, 100, 114]))) (aCons (eVar 5) (aCons (eMeth tb_full_Scope_0 [] (eVar 0) (aCons (eVar 1) (aCons (eVar 4) aNil))) aNil)))))
    (mCase (ptSeq 4 (psCons (ptVal (.p (.str [114, 101, 97, 100]))) (psCons (ptCap 5) (psCons (ptCap 4) (psCons (ptCap 6) psNil))))) (sRet (eTup (aCons (eC (.p (.str [114, 101, 97, 100]))) (aCons (eVar 5) (aCons (eMeth tb_full_Scope_0 [] (eVar 0) (aCons (eVar 1) (aCons (eVar 4) aNil))) (aCons (eVar 6) aNil))))))
    (mCase ptAny (sRet (eVar 3))
    mNil))))))
def F_Scope_resolved : List EV → EH → Y.R EV := fnF 7 b_Scope_resolved
def b_Program_find_entry : ES → EH → FL :=
  (sSeq (sFor (iDI (eAttr 18 (eVar 1))) (gTupS 2 (gConsS (gN 3) (gConsS (gN 4) gNilS))) (sIf (tVal (eOp opIn (eVar 2) (eAttr 6 (eVar 4)))) (sSeq (sSet (gN 5) (eMeth tb_full_Scope_0 [] (eVar 1) (aCons (eVar 3) (aCons (eVar 2) aNil))))
  (sIf (tVal (eOp opEq (eOp opIx (eAttr 21 (eVar 0)) (eVar 5)) (eC (.p (.str [102, 117, 110, 99]))))) (sRet (eVar 5)) sNil)) sNil))
  (sRaise 5 [12] (aCons (eVar 2) aNil)))
def F_Program_find_entry : List EV → EH → Y.R EV := fnF 6 b_Program_find_entry
def b_Program_is_taken : ES → EH → FL :=
  (sSeq (sFor (iDI (eAttr 22 (eVar 0))) (gTupS 2 (gConsS (gN 2) (gConsS (gN 3) gNilS))) (sSeq (sIf (tAnd' (tVal (eOp opEq (eOp opIx (eAttr 21 (eVar 0)) (eVar 2)) (eC (.p (.str [100, 97, 116, 97]))))) (tVal (eOp opIn (eVar 1) (eVar 3)))) (sRet (eC (.p (.bl true)))) sNil)
  (sIf (tAnd' (tVal (eOp opEq (eOp opIx (eAttr 21 (eVar 0)) (eVar 2)) (eC (.p (.str [102, 117, 110, 99]))))) (tVal (eOp opNe (eAny (lLc (iVal (eVar 3)) (gN 4) (tAnd' (tVal (eOp opEq (eOp opIx (eVar 4) (eC (.p (.int 0)))) (eC (.p (.str [97, 100, 100, 114]))))) (tVal (eOp opEq (eOp opIx (eVar 4) (eC (.p (.int 2)))) (eVar 1)))) (eVar 4) [4])) (eAny (lLst aNil))))) (sRet (eC (.p (.bl true)))) sNil)))
  (sRet (eC (.p (.bl false)))))
def F_Program_is_taken : List EV → EH → Y.R EV := fnF 5 b_Program_is_taken
def b_Program_contains : ES → EH → FL :=
  (sRet (eAndB (eUn (isTy "str") (eVar 1)) (eOp opIn (eVar 1) (eAttr 21 (eVar 0)))))
def F_Program_contains : List EV → EH → Y.R EV := fnF 2 b_Program_contains
def b_Program_meaning : ES → EH → FL :=
  (sSeq (sIf (tOr' (tNot' (tVal (eUn (isTy "str") (eVar 1)))) (tOr' (tNot' (tVal (eUn (isTy "str") (eVar 2)))) (tVal (eOp opNin (eVar 1) (eAttr 18 (eAttr 20 (eVar 0))))))) (sRet (eC (.p .non))) sNil)
  (sRet (eIf (tVal (eOp (opIs false) (eMeth tb_meaning_Scope_0 [] (eAttr 20 (eVar 0)) (aCons (eVar 1) (aCons (eVar 2) aNil))) (eC (.p .non)))) (eC (.p .non)) (eMeth tb_full_Scope_0 [] (eAttr 20 (eVar 0)) (aCons (eVar 1) (aCons (eVar 2) aNil))))))
def F_Program_meaning : List EV → EH → Y.R EV := fnF 3 b_Program_meaning
def tb_contains_Program (c : Nat) : Option (List EV → EH → Y.R EV) := match c with
  | 13 => some F_Program_contains
  | _ => none
def b_Program_kind_of : ES → EH → FL :=
  (sSeq (sIf (tVal (eOp (opInO tb_contains_Program true) (eVar 1) (eVar 0))) (sRaise 8 [12] (aCons (eVar 1) aNil)) sNil)
  (sRet (eOp opIx (eAttr 21 (eVar 0)) (eVar 1))))
def F_Program_kind_of : List EV → EH → Y.R EV := fnF 2 b_Program_kind_of
def b_Program_rows_of : ES → EH → FL :=
  (sSeq (sIf (tVal (eOp (opInO tb_contains_Program true) (eVar 1) (eVar 0))) (sRaise 8 [12] (aCons (eVar 1) aNil)) sNil)
  (sRet (eOp opIx (eAttr 22 (eVar 0)) (eVar 1))))
def F_Program_rows_of : List EV → EH → Y.R EV := fnF 2 b_Program_rows_of
def b_Program_home_of : ES → EH → FL :=
  (sSeq (sIf (tVal (eOp (opInO tb_contains_Program true) (eVar 1) (eVar 0))) (sRaise 8 [12] (aCons (eVar 1) aNil)) sNil)
  (sRet (eVar 1)))
def F_Program_home_of : List EV → EH → Y.R EV := fnF 2 b_Program_home_of
def b_Program_keeps : ES → EH → FL :=
  (sRet (eC (.p (.bl true))))
def F_Program_keeps : List EV → EH → Y.R EV := fnF 3 b_Program_keeps
def b_Program_len : ES → EH → FL :=
  (sRet (eCall fLenA (aCons (eAttr 8 (eVar 0)) aNil)))
def F_Program_len : List EV → EH → Y.R EV := fnF 1 b_Program_len
def tb_fits_Scope_0 (c : Nat) : Option (List EV → EH → Y.R EV) := match c with
  | 12 => some F_Scope_fits
  | _ => none
def tb_resolved_Scope_0 (c : Nat) : Option (List EV → EH → Y.R EV) := match c with
  | 12 => some F_Scope_resolved
  | _ => none
def tb_find_entry_Program_0 (c : Nat) : Option (List EV → EH → Y.R EV) := match c with
  | 13 => some F_Program_find_entry
  | _ => none
def tb_is_taken_Program_0 (c : Nat) : Option (List EV → EH → Y.R EV) := match c with
  | 13 => some F_Program_is_taken
  | _ => none
def b_Program_init : ES → EH → FL :=
  (sSeq (sSet (gN 3) (eMakeI 12 F_Scope_init [] (aCons (eFnP F_readings_of [] (aCons (eVar 1) aNil)) aNil)))
  (sSeq (sAttr faG 20 (eVar 0) (eVar 3))
  (sSeq (sFor (iDI (eAttr 18 (eVar 3))) (gTupS 2 (gConsS (gN 5) (gConsS (gN 6) gNilS))) (sFor (iVal (eAttr 9 (eVar 6))) (gTupS 3 (gConsS (gN 10) (gConsS (gN 11) (gConsS (gN 8) gNilS)))) (sIf (tNot' (tVal (eMeth tb_fits_Scope_0 [] (eVar 3) (aCons (eVar 5) (aCons (eVar 11) (aCons (eVar 8) aNil)))))) (sRaise 6 [13, 0] (aCons (eVar 5) (aCons (eVar 10) aNil))) sNil)))
  (sSeq (sAttr faG 21 (eVar 0) eDict0)
  (sSeq (sAttr faG 22 (eVar 0) eDict0)
  (sSeq (sFor (iDI (eAttr 18 (eVar 3))) (gTupS 2 (gConsS (gN 5) (gConsS (gN 6) gNilS))) (sFor (iVal (eAttr 8 (eVar 6))) (gN 7) (sSeq (sSet (gN 12) (eJoined (jCons (eFmt (eVar 5)) (jCons (eC (.p (.str [46]))) (jCons (eFmt (eAttr 2 (eVar 7))) jNil)))))
  (sSeq (sSub (eAttr 1 (eVar 7)) (eAttr 21 (eVar 0)) (eVar 12))
  (sSub (eSeqL fTup1 (lLc (iVal (eAttr 4 (eVar 7))) (gN 13) tYes' (eMeth tb_resolved_Scope_0 [] (eVar 3) (aCons (eVar 5) (aCons (eAttr 1 (eVar 7)) (aCons (eVar 13) aNil)))) [13])) (eAttr 22 (eVar 0)) (eVar 12))))))
  (sSeq (sSet (gN 4) (eAny (lSeqL fSorted (lDK (eAttr 22 (eVar 0))))))
  (sSeq (sAttr faG 3 (eVar 0) (eSeqL fTup1 (lLc (iVal (eVar 4)) (gN 12) tYes' (eTup (aCons (eVar 12) (aCons (eOp opIx (eAttr 21 (eVar 0)) (eVar 12)) (aCons (eOp opIx (eAttr 22 (eVar 0)) (eVar 12)) aNil)))) [12])))
  (sSeq (sAttr faG 23 (eVar 0) (eMeth tb_find_entry_Program_0 [] (eVar 0) (aCons (eVar 3) (aCons (eVar 2) aNil))))
  (sSeq (sAttr faG 8 (eVar 0) (eSeqL fTup1 (lSeqL fSorted (lDK (eAttr 21 (eVar 0))))))
  (sSeq (sAttr faG 24 (eVar 0) (eSeqL fTup1 (lLc (iVal (eAttr 8 (eVar 0))) (gN 12) (tVal (eMeth tb_is_taken_Program_0 [] (eVar 0) (aCons (eVar 12) aNil))) (eVar 12) [12])))
  (sFor (iLst (lLst (aCons (eTup (aCons (eAttr 8 (eVar 0)) (aCons (eC (.p (.int 12))) aNil))) (aCons (eTup (aCons (eAttr 24 (eVar 0)) (aCons (eC (.p (.int 6))) aNil))) aNil)))) (gTupS 2 (gConsS (gN 8) (gConsS (gN 9) gNilS))) (sIf (tVal (eOp opGt (eCall fLenA (aCons (eVar 8) aNil)) (eVar 9))) (sRaise 9 [14] (aCons (eVar 9) aNil)) sNil)))))))))))))
def F_Program_init : List EV → EH → Y.R EV := fnF 14 b_Program_init
end Law
end

section
set_option maxHeartbeats 2000000
/-! P: plain side, the drawing of numbers. -/
namespace P
open Y
open L2 (atI ixN)
/-- _law_pool -/
def bPool : ES → EH → FL :=
  (sSeq (sSet (gN 2) (eC (.p (.int 0))))
  (sSeq (sIf (tVal (eOp opLt (eVar 1) (eCall fLenA (aCons (eVar 0) aNil)))) (sSet (gN 2) (eOp opIx (eVar 0) (eVar 1))) sNil)
  (sSeq (sSet (gN 3) (eCall fAbs (aCons (eVar 2) aNil)))
  (sSeq (sSet (gN 4) (eOp opMod (eOp opPow (eOp opAdd (eOp opAdd (eOp opAdd (eOp opMod (eVar 2) (eC (.p (.int 2147483629)))) (eOp opMul (eOp opMul (eC (.p (.int 104729))) (eVar 1)) (eVar 1))) (eOp opMul (eC (.p (.int 7919))) (eVar 1))) (eC (.p (.int 11)))) (eC (.p (.int 3)))) (eC (.p (.int 2147483647)))))
  (sRet (eNew (lLst (aCons (eOp opMul (eVar 3) (eCall fIntS (aCons (eOp opGe (eVar 3) (eOp opPow (eC (.p (.int 10))) (eC (.p (.int 18))))) aNil))) (aCons (eVar 4) aNil)))))))))
def fPool : List EV → EH → Y.R EV := fnF 5 bPool
/-- _law_take -/
def bTake : ES → EH → FL :=
  (sSeq (sIf (tVal (eOp opGt (eOp opIx (eVar 0) (eC (.p (.int 0)))) (eC (.p (.int 0))))) (sSeq (sSet (gN 2) (eOp opMod (eOp opIx (eVar 0) (eC (.p (.int 0)))) (eVar 1)))
  (sSeq (sSub (eOp opFdiv (eOp opIx (eVar 0) (eC (.p (.int 0)))) (eVar 1)) (eVar 0) (eC (.p (.int 0))))
  (sRet (eVar 2)))) sNil)
  (sSeq (sSub (eOp opMod (eOp opAdd (eOp opMul (eOp opIx (eVar 0) (eC (.p (.int 1)))) (eC (.p (.int 48271)))) (eC (.p (.int 11)))) (eC (.p (.int 2147483647)))) (eVar 0) (eC (.p (.int 1))))
  (sRet (eOp opMod (eOp opFdiv (eOp opMod (eOp opMul (eOp opIx (eVar 0) (eC (.p (.int 1)))) (eOp opIx (eVar 0) (eC (.p (.int 1))))) (eC (.p (.int 2147483629)))) (eC (.p (.int 64)))) (eVar 1)))))
def fTake : List EV → EH → Y.R EV := fnF 3 bTake
/-! steps -/
theorem sSeq_nx {f g : ES → EH → FL} {σ σ' : ES} {h h' : EH} {r : FL} (a : f σ h = .nx σ' h') (b : g σ' h' = r) : sSeq f g σ h = r := by
  show (f σ h).seq g = r
  rw [a]; exact b
theorem sSeq_rt {f g : ES → EH → FL} {σ : ES} {h h' : EH} {v : EV} (a : f σ h = .rt v h') : sSeq f g σ h = .rt v h' := by
  show (f σ h).seq g = _
  rw [a]; rfl
theorem sSeq_exc {f g : ES → EH → FL} {σ σ' : ES} {h h' : EH} {c : Nat} {fs : PF} (a : f σ h = .exc c fs σ' h') : sSeq f g σ h = .exc c fs σ' h' := by
  show (f σ h).seq g = _
  rw [a]; rfl
theorem fnF_rt {k : Nat} {fb : ES → EH → FL} {vs : List EV} {h h' : EH} {σ : ES} {v : EV} (e : startE k vs = σ) (a : fb σ h = .rt v h') : fnF k fb vs h = .ok v h' := by
  subst e
  unfold fnF
  rw [a]
theorem fnF_nx {k : Nat} {fb : ES → EH → FL} {vs : List EV} {h h' : EH} {σ σ' : ES} (e : startE k vs = σ) (a : fb σ h = .nx σ' h') : fnF k fb vs h = .ok (.p .non) h' := by
  subst e
  unfold fnF
  rw [a]
theorem fnF_exc {k : Nat} {fb : ES → EH → FL} {vs : List EV} {h h' : EH} {σ σ' : ES} {c : Nat} {fs : PF} (e : startE k vs = σ) (a : fb σ h = .exc c fs σ' h') : fnF k fb vs h = .exc c fs h' := by
  subst e
  unfold fnF
  rw [a]
theorem atI0 {α : Type} (x : α) (xs : List α) : atI (x :: xs) 0 = some x := by
  have : (0 : Int) < ((x :: xs).length : Nat) := by simp
  simp only [atI, ixN, if_pos this]; rfl
theorem atI1 {α : Type} (x y : α) (xs : List α) : atI (x :: y :: xs) 1 = some y := by
  have : (1 : Int) < ((x :: y :: xs).length : Nat) := by simp; omega
  simp only [atI, ixN, if_pos this]; rfl
theorem ixN2 : ixN 2 0 = some 0 ∧ ixN 2 1 = some 1 := by decide
theorem take_ok {h : EH} {n : Nat} {a b m : Int} (e : h[n]? = some (.lst [.p (.int a), .p (.int b)])) (ha : 0 ≤ a) (hm : 0 < m) (hm2 : m < 1073741824) :
    ∃ r a' b', 0 ≤ r ∧ r < m ∧ 0 ≤ a' ∧ fTake [.ref n, .p (.int m)] h = .ok (.p (.int r)) (h.set n (.lst [.p (.int a'), .p (.int b')])) := by
  have hn : n < h.length := (List.getElem?_eq_some_iff.mp e).1
  by_cases q : 0 < a
  · refine ⟨a % m, a / m, b, Int.emod_nonneg _ (by omega), Int.emod_lt_of_pos _ hm, Int.ediv_nonneg ha (by omega), ?_⟩
    have s0 : startE 3 [.ref n, .p (.int m)] = [some (.ref n), some (.p (.int m)), none] := rfl
    simp [fTake, fnF, bTake, s0, sSeq, FL.seq, sIf, tVal, eOp, opIx, ixOf, inOf, eVar, eC, R.bind, R.fl, R.lift, e, atI0, opGt, cmpI, boolOf, q, sSet, gN, opMod, opI, hm, sSub, opFdiv, hm2, putIx, ixN2.1, sRet]
  · have a0 : a = 0 := by omega
    subst a0
    let b' : Int := (b * 48271 + 11) % 2147483647
    have b0 : 0 ≤ b' := Int.emod_nonneg _ (by decide)
    have b1 : b' < 2147483647 := Int.emod_lt_of_pos _ (by decide)
    refine ⟨b' * b' % 2147483629 / 64 % m, 0, b', Int.emod_nonneg _ (by omega), Int.emod_lt_of_pos _ hm, by omega, ?_⟩
    have s0 : startE 3 [.ref n, .p (.int m)] = [some (.ref n), some (.p (.int m)), none] := rfl
    have m1 : opMul (.p (.int b)) (.p (.int 48271)) h = some (.p (.int (b * 48271)), h) := by
      simp only [opMul]
      rw [if_pos (.inr (by decide))]
    have m2 : ∀ h, opMul (.p (.int b')) (.p (.int b')) h = some (.p (.int (b' * b')), h) := by
      intro h
      simp only [opMul]
      rw [if_pos (.inl (by omega))]
    have e2 : (h.set n (.lst [.p (.int 0), .p (.int b')]))[n]? = some (.lst [.p (.int 0), .p (.int b')]) := List.getElem?_set_self hn
    simp [fTake, fnF, bTake, s0, sSeq, FL.seq, sIf, tVal, eOp, opIx, ixOf, inOf, eVar, eC, R.bind, R.fl, R.lift, e, e2, atI0, atI1, opGt, cmpI, boolOf, sSet, gN, opMod, opI, hm, sSub, opFdiv, hm2, putIx, ixN2.2, sRet, m1, opAdd, sNil]
    show _ = _
    simp [show (b * 48271 + 11) % 2147483647 = b' from rfl, e2, atI1, m2, opI, hm, R.lift]
theorem mul_ok {a b : Int} {h : EH} (hb : -(2 ^ 64) < b ∧ b < 2 ^ 64) : opMul (.p (.int a)) (.p (.int b)) h = some (.p (.int (a * b)), h) := by
  simp only [opMul]
  rw [if_pos (.inr hb)]
theorem mul_okL {a b : Int} {h : EH} (hb : -(2 ^ 64) < a ∧ a < 2 ^ 64) : opMul (.p (.int a)) (.p (.int b)) h = some (.p (.int (a * b)), h) := by
  simp only [opMul]
  rw [if_pos (.inl hb)]
theorem pow_ok {a : Int} {h : EH} {j : Int} (hj : 0 ≤ j ∧ j ≤ 1000000) (ha : a.natAbs < 2 ^ 64) : opPow (.p (.int a)) (.p (.int j)) h = some (.p (.int (a ^ j.toNat)), h) := by
  simp only [opPow, opI]
  rw [if_pos ⟨hj.1, hj.2, ha⟩]
  rfl
theorem mod_ok {a b : Int} {h : EH} (hb : 0 < b) : opMod (.p (.int a)) (.p (.int b)) h = some (.p (.int (a % b)), h) := by
  simp only [opMod, opI]
  rw [if_pos hb]
  rfl
def cellOf (ns : List Int) (k : Nat) : Int := (ns[k]?).getD 0
theorem pool_cell {ns : List Int} {k : Nat} {h : EH} (σ : ES) (s0 : σ = [some (.p (.rol (ns.map PV.int))), some (.p (.int k)), some (.p (.int 0)), none, none]) :
    sIf (tVal (eOp opLt (eVar 1) (eCall fLenA (aCons (eVar 0) aNil)))) (sSet (gN 2) (eOp opIx (eVar 0) (eVar 1))) sNil σ h = .nx [some (.p (.rol (ns.map PV.int))), some (.p (.int k)), some (.p (.int (cellOf ns k))), none, none] h := by
  subst s0
  by_cases q : k < ns.length
  · have e : atI (List.map EV.p (List.map PV.int ns)) (k : Int) = some (.p (.int (cellOf ns k))) := by
      unfold atI ixN
      have l : ((List.map EV.p (List.map PV.int ns)).length : Int) = ns.length := by simp
      rw [if_pos (by omega), if_pos (by rw [l]; omega)]
      show (List.map EV.p (List.map PV.int ns))[(k : Int).toNat]? = _
      simp [cellOf, q]
    simp [sIf, tVal, eOp, eVar, eCall, aCons, aNil, R.bind, R.lift, fLenA, lenOf, inOf, opLt, cmpI, boolOf, R.fl, q, sSet, opIx, ixOf, e, gN, -List.map_map]
  · have e : cellOf ns k = 0 := by simp [cellOf, List.getElem?_eq_none (Nat.le_of_not_lt q)]
    simp [sIf, tVal, eOp, eVar, eCall, aCons, aNil, R.bind, R.lift, fLenA, lenOf, inOf, opLt, cmpI, boolOf, R.fl, q, sNil, e]
theorem pool_u {c : Int} {k : Nat} (hk : k < 64) : (c % 2147483629 + 104729 * (k : Int) * k + 7919 * k + 11).natAbs < 2 ^ 64 ∧ -(2 ^ 64) < (k : Int) ∧ (k : Int) < 2 ^ 64 := by
  have u0 : 0 ≤ c % 2147483629 := Int.emod_nonneg _ (by decide)
  have u1 : c % 2147483629 < 2147483629 := Int.emod_lt_of_pos _ (by decide)
  have kk : (104729 * (k : Int) * k) ≤ 104729 * (64 * 64) := by
    have : (k : Int) * k ≤ 64 * 64 := Int.mul_le_mul (by omega) (by omega) (by omega) (by omega)
    rw [Int.mul_assoc]; omega
  have kk0 : 0 ≤ (104729 * (k : Int) * k) := Int.mul_nonneg (by omega) (by omega)
  generalize 104729 * (k : Int) * k = z at *
  generalize c % 2147483629 = y at *
  omega
theorem small_t {t : Int} (h : t = 0 ∨ t = 1) : -(2 ^ 64) < t ∧ t < 2 ^ 64 := by
  rcases h with rfl | rfl <;> decide
theorem pool_rest {s : PV} {k c g t u v N : Int} {h : EH} (hg : g = if c < 0 then -c else c) (ht : t = if N ≤ g then 1 else 0) (hN : ∀ h, opPow (.p (.int 10)) (.p (.int 18)) h = some (.p (.int N), h)) (hu : u = c % 2147483629 + 104729 * k * k + 7919 * k + 11) (hv : v = u ^ 3 % 2147483647)
    (ub : u.natAbs < 2 ^ 64) (kb : -(2 ^ 64) < k ∧ k < 2 ^ 64) :
    sSeq (sSet (gN 3) (eCall fAbs (aCons (eVar 2) aNil)))
      (sSeq (sSet (gN 4) (eOp opMod (eOp opPow (eOp opAdd (eOp opAdd (eOp opAdd (eOp opMod (eVar 2) (eC (.p (.int 2147483629)))) (eOp opMul (eOp opMul (eC (.p (.int 104729))) (eVar 1)) (eVar 1))) (eOp opMul (eC (.p (.int 7919))) (eVar 1))) (eC (.p (.int 11)))) (eC (.p (.int 3)))) (eC (.p (.int 2147483647)))))
      (sRet (eNew (lLst (aCons (eOp opMul (eVar 3) (eCall fIntS (aCons (eOp opGe (eVar 3) (eOp opPow (eC (.p (.int 10))) (eC (.p (.int 18))))) aNil))) (aCons (eVar 4) aNil))))))
      [some (.p s), some (.p (.int k)), some (.p (.int c)), none, none] h = .rt (.ref h.length) (h ++ [.lst [.p (.int (g * t)), .p (.int v)]]) := by
  have t1 : fIntS [.p (.bl (decide (N ≤ g)))] h = some (.p (.int t), h) := by
    by_cases q : N ≤ g
    · simp [fIntS, fInt1, ht, q]
    · simp [fIntS, fInt1, ht, q]
  have tt : t = 0 ∨ t = 1 := by rw [ht]; split <;> simp
  have p2 : ∀ h, opPow (.p (.int u)) (.p (.int 3)) h = some (.p (.int (u ^ 3)), h) := fun h => pow_ok (by decide) ub
  have m1 : ∀ h, opMul (.p (.int 104729)) (.p (.int k)) h = some (.p (.int (104729 * k)), h) := fun h => mul_ok kb
  have m2 : ∀ h, opMul (.p (.int (104729 * k))) (.p (.int k)) h = some (.p (.int (104729 * k * k)), h) := fun h => mul_ok kb
  have m3 : ∀ h, opMul (.p (.int 7919)) (.p (.int k)) h = some (.p (.int (7919 * k)), h) := fun h => mul_ok kb
  have m4 : ∀ h, opMul (.p (.int g)) (.p (.int t)) h = some (.p (.int (g * t)), h) := fun h => mul_ok (small_t tt)
  have d1 : ∀ h, opMod (.p (.int c)) (.p (.int 2147483629)) h = some (.p (.int (c % 2147483629)), h) := fun h => mod_ok (by decide)
  have d2 : ∀ h, opMod (.p (.int (u ^ 3))) (.p (.int 2147483647)) h = some (.p (.int v), h) := fun h => by rw [hv]; exact mod_ok (by decide)
  have ab : fAbs [.p (.int c)] h = some (.p (.int g), h) := by rw [hg]; rfl
  have a3 : ∀ h, opAdd (.p (.int (c % 2147483629 + 104729 * k * k + 7919 * k))) (.p (.int 11)) h = some (.p (.int u), h) := fun h => by rw [hu]; rfl
  have a1 : ∀ (i j : Int) h, opAdd (.p (.int i)) (.p (.int j)) h = some (.p (.int (i + j)), h) := fun i j h => rfl
  clear hu hv ht hg ub kb
  simp only [FL.seq, sSeq, sSet, eCall, aCons, aNil, eVar, R.bind, R.lift, ab, R.fl, gN, eOp, eC, d1, m1, m2, m3, a3, a1, p2, d2, sRet, eNew, lLst, hN, opGe, cmpI, t1, m4, List.getElem?_cons_zero, List.getElem?_cons_succ, List.set_cons_zero, List.set_cons_succ, List.length_cons, List.length_nil]
  rfl
theorem pool_ok {ns : List Int} {k : Nat} {h : EH} (hk : k < 64) : ∃ a b, 0 ≤ a ∧ fPool [.p (.rol (ns.map PV.int)), .p (.int k)] h = .ok (.ref h.length) (h ++ [.lst [.p (.int a), .p (.int b)]]) := by
  have pc := pool_cell (ns := ns) (k := k) (h := h) _ rfl
  generalize cellOf ns k = c at pc
  obtain ⟨N, eN⟩ : ∃ N : Int, N = (10 : Int) ^ ((18 : Int).toNat) := ⟨_, rfl⟩
  obtain ⟨g, hg⟩ : ∃ g : Int, g = if c < 0 then -c else c := ⟨_, rfl⟩
  obtain ⟨t, ht⟩ : ∃ t : Int, t = if N ≤ g then 1 else 0 := ⟨_, rfl⟩
  obtain ⟨u, hu⟩ : ∃ u : Int, u = c % 2147483629 + 104729 * (k : Int) * k + 7919 * k + 11 := ⟨_, rfl⟩
  obtain ⟨v, hv⟩ : ∃ v : Int, v = u ^ 3 % 2147483647 := ⟨_, rfl⟩
  obtain ⟨ub, kb⟩ := pool_u (c := c) hk
  rw [← hu] at ub
  have e := pool_rest (s := .rol (ns.map PV.int)) (h := h) hg ht (fun h => by rw [eN]; exact pow_ok (by decide) (by decide)) hu hv ub kb
  refine ⟨g * t, v, ?_, ?_⟩
  · have : 0 ≤ g := by rw [hg]; split <;> omega
    refine Int.mul_nonneg this ?_
    rw [ht]; split <;> omega
  · have s0 : startE 5 [.p (.rol (ns.map PV.int)), .p (.int k)] = [some (.p (.rol (ns.map PV.int))), some (.p (.int k)), none, none, none] := rfl
    have st2 : (sSet (gN 2) (eC (.p (.int 0)))) [some (.p (.rol (ns.map PV.int))), some (.p (.int k)), none, none, none] h = .nx [some (.p (.rol (ns.map PV.int))), some (.p (.int k)), some (.p (.int 0)), none, none] h := rfl
    exact fnF_rt s0 (sSeq_nx st2 (sSeq_nx pc e))
end P
end

section
set_option maxHeartbeats 2000000
/-! P: plain side, steps through mirrors. -/
namespace P
open Y
theorem pcall_any {F : List EV → EH → Y.R EV} {ps : List PV} {q : PV} (e : pcall F ps [] = .ok (.p q) []) (h : EH) : pcall F ps h = .ok (.p q) h := by
  unfold pcall at e ⊢
  split at e
  · rename_i v h2 e1
    split at e
    · rename_i q' e2
      cases e
      rfl
    · cases e
  · cases e
  · cases e
theorem pmake_any {c : Nat} {F : List EV → EH → Y.R EV} {ps : List PV} {q : PV} (e : pmake c F ps [] = .ok (.p q) []) (h : EH) : pmake c F ps h = .ok (.p q) h := by
  unfold pmake at e ⊢
  split at e
  · rename_i h2 e1
    split at e
    · rename_i q' e2
      cases e
      rfl
    · cases e
  · cases e
  · cases e
  · cases e
theorem map_all {α : Type} {f g : Nat → α} {m : Nat} (e : (List.range m).map f = (List.range m).map g) (n : Nat) (h : n < m) : f n = g n :=
  List.map_inj_left.mp e n (List.mem_range.mpr h)
theorem sSub_ok {fe fo fi : ES → M EV} {σ : ES} {h h1 h2 h3 h4 : EH} {v o i : EV} (a : fe σ h = .ok v h1) (b : fo σ h1 = .ok o h2) (c : fi σ h2 = .ok i h3) (d : putIx o i v h3 = some h4) : sSub fe fo fi σ h = .nx σ h4 := by
  simp only [sSub, a, b, c, R.fl, d]
theorem sSet_ok {g : EV → ES → Option ES} {f : ES → M EV} {σ σ' : ES} {h h1 : EH} {v : EV} (a : f σ h = .ok v h1) (b : g v σ = some σ') : sSet g f σ h = .nx σ' h1 := by
  simp only [sSet, a, R.fl, b]
theorem sIf_t {t : ES → M Bool} {a b : ES → EH → FL} {σ : ES} {h h1 : EH} {r : FL} (e : t σ h = .ok true h1) (q : a σ h1 = r) : sIf t a b σ h = r := by
  simp only [sIf, e, R.fl, q]
theorem sIf_f {t : ES → M Bool} {a b : ES → EH → FL} {σ : ES} {h h1 : EH} {r : FL} (e : t σ h = .ok false h1) (q : b σ h1 = r) : sIf t a b σ h = r := by
  simp only [sIf, e, R.fl, q]
theorem sFor_vals {fi : ES → M IT} {g : EV → ES → Option ES} {fb : ES → EH → FL} {σ : ES} {h h1 : EH} {xs : List EV} {r : FL} (e : fi σ h = .ok (.vals xs) h1) (q : forL g fb xs σ h1 = r) : sFor fi g fb σ h = r := by
  simp only [sFor, e, R.fl, q]
theorem forL_nil {g : EV → ES → Option ES} {fb : ES → EH → FL} {σ : ES} {h : EH} : forL g fb [] σ h = .nx σ h := rfl
theorem forL_cons {g : EV → ES → Option ES} {fb : ES → EH → FL} {σ σ1 σ2 : ES} {h h2 : EH} {x : EV} {xs : List EV} {r : FL} (a : g x σ = some σ1) (b : fb σ1 h = .nx σ2 h2) (q : forL g fb xs σ2 h2 = r) : forL g fb (x :: xs) σ h = r := by
  simp only [forL, a, b, FL.loop, q]
theorem sTryT_nx {fb : ES → EH → FL} {σ σ' : ES} {h h' : EH} (e : fb σ h = .nx σ' h') : sTryT fb σ h = .nx σ' h' := by
  simp only [sTryT, e]
theorem eOp_l {g : EV → EV → EH → Option (EV × EH)} {fa fb : ES → M EV} {σ : ES} {h h1 : EH} {x : EV} (e : fa σ h = .ok x h1) : eOp g fa fb σ h = (fb σ h1).bind fun y h2 => R.lift (g x y h2) := by
  simp only [eOp, e, R.bind]
theorem tOp_l {g : EV → EV → EH → Option (EV × EH)} {fa fb : ES → M EV} {σ : ES} {h h1 : EH} {x : EV} {r : Y.R Bool} (e : fa σ h = .ok x h1) (q : ((fb σ h1).bind fun y h2 => R.lift (g x y h2)).bind boolOf = r) : tVal (eOp g fa fb) σ h = r := by
  simp only [tVal, eOp_l e]
  exact q
theorem tOp_ok {g : EV → EV → EH → Option (EV × EH)} {fa fb : ES → M EV} {σ : ES} {h h1 h2 h3 : EH} {x y : EV} {b : Bool} (a : fa σ h = .ok x h1) (e : fb σ h1 = .ok y h2) (q : g x y h2 = some (.p (.bl b), h3)) : tVal (eOp g fa fb) σ h = .ok b h3 := by
  simp only [tVal, eOp, a, e, q, R.bind, R.lift, boolOf]
theorem opNeO_ok {tb : Nat → Option (List EV → EH → Y.R EV)} {F : List EV → EH → Y.R EV} {c : Nat} {x y : PV} {h : EH} {b : Bool} (cx : clsOf h (.p x) = some c) (cy : clsOf h (.p y) = some c) (t : tb c = some F) (q : pcall F [x, y] h = .ok (.p (.bl b)) h) : opNeO tb (.p x) (.p y) h = some (.p (.bl (!b)), h) := by
  have e : callX F [.p x, .p y] h = .ok (.p (.bl b)) h := q
  simp only [opNeO, cx, cy, t, Nat.beq_refl, e, okB, Option.map]
theorem pcall_of {F : List EV → EH → Y.R EV} {ps : List PV} {h h2 : EH} {q : PV} (e : F (ps.map .p) [] = .ok (.p q) h2) : pcall F ps h = .ok (.p q) h := by
  have r : rsv h2 30 (.p q) = some q := rfl
  simp only [pcall, e, r]
theorem aCons_ok {fa : ES → M EV} {fr : ES → M (List EV)} {σ : ES} {h h1 h2 : EH} {x : EV} {xs : List EV} (a : fa σ h = .ok x h1) (b : fr σ h1 = .ok xs h2) : aCons fa fr σ h = .ok (x :: xs) h2 := by
  simp only [aCons, a, b, R.bind]
theorem sPar2_ok {i j : Nat} {fa : ES → M (List EV)} {σ : ES} {h h1 : EH} {v w : EV} (a : fa σ h = .ok [v, w] h1) : sPar2 i j fa σ h = .nx ((σ.set i (some v)).set j (some w)) h1 := by
  simp only [sPar2, a, R.fl]
theorem eOp_ok {g : EV → EV → EH → Option (EV × EH)} {fa fb : ES → M EV} {σ : ES} {h h1 h2 h3 : EH} {x y z : EV} (a : fa σ h = .ok x h1) (b : fb σ h1 = .ok y h2) (c : g x y h2 = some (z, h3)) : eOp g fa fb σ h = .ok z h3 := by
  simp only [eOp, a, b, R.bind, c, R.lift]
/-- the same with a value in the place of a call -/
theorem eMakeI_eq {c : Nat} {F : List EV → EH → Y.R EV} {ds : List PV} {fa : ES → M EV} {fr : ES → M (List EV)} {σ : ES} {h : EH} {v : EV} (e : fa σ h = .ok v h) : eMakeI c F ds (aCons fa fr) σ h = eMakeI c F ds (aCons (eC v) fr) σ h := by
  simp only [eMakeI, aCons, e, eC]
theorem sSet_eq {g : EV → ES → Option ES} {f f' : ES → M EV} {σ : ES} {h : EH} (e : f σ h = f' σ h) : sSet g f σ h = sSet g f' σ h := by
  simp only [sSet, e]
theorem sSeq_eq {f f' g : ES → EH → FL} {σ : ES} {h : EH} (e : f σ h = f' σ h) : sSeq f g σ h = sSeq f' g σ h := by
  simp only [sSeq, e]
theorem fnF_eq {k : Nat} {fb fb' : ES → EH → FL} {vs : List EV} {h : EH} (e : fb (startE k vs) h = fb' (startE k vs) h) : fnF k fb vs h = fnF k fb' vs h := by
  simp only [fnF, e]
theorem pmake_eq {c : Nat} {F F' : List EV → EH → Y.R EV} {ps : List PV} {h : EH} (e : F (.ref 0 :: ps.map .p) [.ins c []] = F' (.ref 0 :: ps.map .p) [.ins c []]) : pmake c F ps h = pmake c F' ps h := by
  simp only [pmake, e]
theorem pcall_eq {F F' : List EV → EH → Y.R EV} {ps : List PV} {h : EH} (e : F (ps.map .p) [] = F' (ps.map .p) []) : pcall F ps h = pcall F' ps h := by
  simp only [pcall, e]
/-! equal to itself -/
theorem eqS_refl : ∀ s : List Nat, eqS s s = true
  | [] => rfl
  | a :: r => by simp [eqS, eqS_refl r]
theorem peqL_refl {f : PV → PV → Bool} {p : PV → Bool} (q : ∀ x, p x = true → f x x = true) : ∀ xs : List PV, xs.all p = true → peqL f xs xs = true
  | [], _ => rfl
  | x :: xs, e => by
    simp only [List.all_cons, Bool.and_eq_true] at e
    simp [peqL, q x e.1, peqL_refl q xs e.2]
theorem peq_refl : ∀ (n : Nat) (d : PV), pdat n d = true → peq n d d = true
  | n, .non, _ => by cases n <;> rfl
  | n, .bl b, _ => by cases n <;> simp [peq]
  | n, .int i, _ => by cases n <;> simp [peq]
  | n, .str s, _ => by cases n <;> simp [peq, eqS_refl]
  | n + 1, .tup xs, e => peqL_refl (peq_refl n) xs e
  | n + 1, .lst xs, e => peqL_refl (peq_refl n) xs e
  | 0, .tup xs, e => by cases e
  | 0, .lst xs, e => by cases e
  | n, .dic _, e => by cases n <;> cases e
  | n, .dit _, e => by cases n <;> cases e
  | n, .obj _ _, e => by cases n <;> cases e
  | n, .rol _, e => by cases n <;> cases e
  | n, .rot _, e => by cases n <;> cases e
theorem opEq_refl {d : PV} {h : EH} (e : pdat 30 d = true) : opEq (.p d) (.p d) h = some (.p (.bl true), h) := by
  have r : rsv h 30 (.p d) = some d := rfl
  simp only [opEq, eqP, r, e, peq_refl 30 d e, Option.map]
theorem opNe_refl {d : PV} {h : EH} (e : pdat 30 d = true) : opNe (.p d) (.p d) h = some (.p (.bl false), h) := by
  have r : rsv h 30 (.p d) = some d := rfl
  simp only [opNe, eqP, r, e, peq_refl 30 d e, Option.map]
  rfl
theorem eAndB_t {fa fb : ES → M EV} {σ : ES} {h h1 : EH} {r : Y.R EV} (a : fa σ h = .ok (.p (.bl true)) h1) (b : fb σ h1 = r) : eAndB fa fb σ h = r := by
  simp only [eAndB, a, R.bind, boolOf, b]
theorem sRet_ok {f : ES → M EV} {σ : ES} {h h1 : EH} {v : EV} (a : f σ h = .ok v h1) : sRet f σ h = .rt v h1 := by
  simp only [sRet, a, R.fl]
theorem eFnP_ok {F : List EV → EH → Y.R EV} {ds : List PV} {fa : ES → M (List EV)} {σ : ES} {h h1 : EH} {vs : List EV} (a : fa σ h = .ok vs h1) : eFnP F ds fa σ h = callX F (vs ++ ds.map .p) h1 := by
  simp only [eFnP, a, R.bind]
/-! cells: for k in range(max(1, min(len(script), c))) -/
theorem rng_ok {ns : List Int} {c : Nat} {σ : ES} {h : EH} (hc : 1 ≤ c ∧ c ≤ 63) (e : σ[0]? = some (some (.p (.rol (ns.map PV.int))))) :
    ∃ t, t ≤ c ∧ iRng1' (aCons (eCall fMax2 (aCons (eC (.p (.int 1))) (aCons (eCall fMin2 (aCons (eCall fLenA (aCons (eVar 0) aNil)) (aCons (eC (.p (.int c))) aNil))) aNil))) aNil) σ h = .ok (.vals (rangeL 0 t)) h := by
  have v : eVar 0 σ h = .ok (.p (.rol (ns.map PV.int))) h := by simp only [eVar, e]
  have f : fLenA [.p (.rol (ns.map PV.int))] h = some (.p (.int ns.length), h) := by simp [fLenA, lenOf, inOf]
  obtain ⟨x, hx⟩ : ∃ x : Int, x = if (c : Int) < ns.length then (c : Int) else ns.length := ⟨_, rfl⟩
  obtain ⟨y, hy⟩ : ∃ y : Int, y = if x > 1 then x else 1 := ⟨_, rfl⟩
  have m : fMin2 [.p (.int ns.length), .p (.int c)] h = some (.p (.int x), h) := by rw [hx]; rfl
  have m' : fMax2 [.p (.int 1), .p (.int x)] h = some (.p (.int y), h) := by rw [hy]; rfl
  have b : 1 ≤ y ∧ y ≤ c := by
    rw [hy]
    split
    · rw [hx] at *; split <;> omega
    · omega
  refine ⟨y.toNat, by omega, ?_⟩
  simp only [iRng1', aCons, aNil, eCall, eC, v, f, R.bind, R.lift, m, m', rng1]
  rw [if_pos ⟨by omega, by omega⟩]
theorem loop_ok {c : Nat} {B : ES → EH → FL} {I : ES → EH → Prop} (hb : ∀ (k : Nat) σ h, k < c → I σ h → ∃ σ' h', B (σ.set 1 (some (.p (.int k)))) h = .nx σ' h' ∧ I σ' h') :
    ∀ (t j : Nat) σ h, j + t ≤ c → I σ h → ∃ σ' h', forL (gN 1) B (rangeL j t) σ h = .nx σ' h' ∧ I σ' h'
  | 0, j, σ, h, _, i => ⟨σ, h, rfl, i⟩
  | t + 1, j, σ, h, l, i => by
    obtain ⟨σ1, h1, e1, i1⟩ := hb j σ h (by omega) i
    obtain ⟨σ2, h2, e2, i2⟩ := loop_ok hb t (j + 1) σ1 h1 (by omega) i1
    exact ⟨σ2, h2, forL_cons (x := .p (.int j)) rfl e1 e2, i2⟩
/-- slot 0 is the script -/
def Sh (m : Nat) (s : EV) (σ : ES) : Prop := σ.length = m ∧ σ[0]? = some (some s)
theorem cells_ok {c m : Nat} {B : ES → EH → FL} {ns : List Int} (hc : 1 ≤ c ∧ c ≤ 63) (hm : 1 ≤ m)
    (hb : ∀ (k : Nat) σ h, k < c → Sh m (.p (.rol (ns.map PV.int))) σ → ∃ σ' h', B (σ.set 1 (some (.p (.int k)))) h = .nx σ' h' ∧ Sh m (.p (.rol (ns.map PV.int))) σ') :
    ∃ h', fnF m (sSeq (sFor (iRng1' (aCons (eCall fMax2 (aCons (eC (.p (.int 1))) (aCons (eCall fMin2 (aCons (eCall fLenA (aCons (eVar 0) aNil)) (aCons (eC (.p (.int c))) aNil))) aNil))) aNil)) (gN 1) B) (sRet (eC (.p (.bl true))))) [.p (.rol (ns.map PV.int))] [] = .ok (.p (.bl true)) h' := by
  have s0 : Sh m (.p (.rol (ns.map PV.int))) (startE m [.p (.rol (ns.map PV.int))]) := ⟨by simp [startE]; omega, rfl⟩
  obtain ⟨t, ht, e⟩ := rng_ok (ns := ns) (c := c) (σ := startE m [.p (.rol (ns.map PV.int))]) (h := []) hc s0.2
  obtain ⟨σ', h', e2, _⟩ := loop_ok (c := c) (I := fun σ _ => Sh m (.p (.rol (ns.map PV.int))) σ) (fun k σ h hk i => hb k σ h hk i) t 0 _ [] (by omega) s0
  exact ⟨h', fnF_rt rfl (sSeq_nx (sFor_vals e e2) rfl)⟩
/-! lists of slots -/
theorem len15 {σ : ES} {s : EV} (l : σ.length = 15) (e : σ[0]? = some (some s)) : ∃ a1 a2 a3 a4 a5 a6 a7 a8 a9 a10 a11 a12 a13 a14, σ = [some s, a1, a2, a3, a4, a5, a6, a7, a8, a9, a10, a11, a12, a13, a14] := by
  match σ, l with
  | [a0, a1, a2, a3, a4, a5, a6, a7, a8, a9, a10, a11, a12, a13, a14], _ =>
    have : a0 = some s := by simpa using e
    subst this
    exact ⟨a1, a2, a3, a4, a5, a6, a7, a8, a9, a10, a11, a12, a13, a14, rfl⟩
end P
end

section
/-! S0: what each combinator does, as rules for simp (printed by mks0.py). -/
namespace Y
open L2 (atI ixN)
section
variable {α β : Type}
@[simp] theorem bind_ok (a : α) (h : EH) (g : α → EH → R β) : (R.ok a h).bind g = g a h := id rfl
@[simp] theorem bind_exc (c : Nat) (fs : PF) (h : EH) (g : α → EH → R β) : (R.exc c fs h).bind g = .exc c fs h := id rfl
@[simp] theorem bind_stuck (g : α → EH → R β) : (R.stuck : R α).bind g = .stuck := id rfl
@[simp] theorem fl_ok (a : α) (h : EH) (σ : ES) (g : α → EH → FL) : (R.ok a h).fl σ g = g a h := id rfl
@[simp] theorem fl_exc (c : Nat) (fs : PF) (h : EH) (σ : ES) (g : α → EH → FL) : (R.exc c fs h).fl σ g = .exc c fs σ h := id rfl
@[simp] theorem fl_stuck (σ : ES) (g : α → EH → FL) : (R.stuck : R α).fl σ g = .stuck := id rfl
@[simp] theorem seq_nx (σ : ES) (h : EH) (g : ES → EH → FL) : (FL.nx σ h).seq g = g σ h := id rfl
@[simp] theorem seq_rt (v : EV) (h : EH) (g : ES → EH → FL) : (FL.rt v h).seq g = .rt v h := id rfl
@[simp] theorem seq_bk (σ : ES) (h : EH) (g : ES → EH → FL) : (FL.bk σ h).seq g = .bk σ h := id rfl
@[simp] theorem seq_ct (σ : ES) (h : EH) (g : ES → EH → FL) : (FL.ct σ h).seq g = .ct σ h := id rfl
@[simp] theorem seq_exc (c : Nat) (fs : PF) (σ : ES) (h : EH) (g : ES → EH → FL) : (FL.exc c fs σ h).seq g = .exc c fs σ h := id rfl
@[simp] theorem seq_stuck (g : ES → EH → FL) : FL.stuck.seq g = .stuck := id rfl
@[simp] theorem loop_nx (σ : ES) (h : EH) (g : ES → EH → FL) : (FL.nx σ h).loop g = g σ h := id rfl
@[simp] theorem loop_rt (v : EV) (h : EH) (g : ES → EH → FL) : (FL.rt v h).loop g = .rt v h := id rfl
@[simp] theorem loop_bk (σ : ES) (h : EH) (g : ES → EH → FL) : (FL.bk σ h).loop g = .nx σ h := id rfl
@[simp] theorem loop_ct (σ : ES) (h : EH) (g : ES → EH → FL) : (FL.ct σ h).loop g = g σ h := id rfl
@[simp] theorem loop_exc (c : Nat) (fs : PF) (σ : ES) (h : EH) (g : ES → EH → FL) : (FL.exc c fs σ h).loop g = .exc c fs σ h := id rfl
@[simp] theorem loop_stuck (g : ES → EH → FL) : FL.stuck.loop g = .stuck := id rfl
@[simp] theorem lift_some (a : α) (h : EH) : R.lift (some (a, h)) = .ok a h := id rfl
@[simp] theorem lift_none : (R.lift none : R α) = .stuck := id rfl
@[simp] theorem opt_some (a : α) (h : EH) : R.opt (some a) h = .ok a h := id rfl
@[simp] theorem opt_none (h : EH) : (R.opt none h : R α) = .stuck := id rfl
end
@[simp] theorem boolOf_bl (b : Bool) (h : EH) : boolOf (.p (.bl b)) h = .ok b h := id rfl
@[simp] theorem gN_def (i : Nat) (v : EV) (σ : ES) : gN i v σ = some (σ.set i (some v)) := id rfl
@[simp] theorem gNilS_def (σ : ES) : gNilS [] σ = some σ := id rfl
@[simp] theorem gConsS_def (g1 : EV → ES → Option ES) (g2 : List EV → ES → Option ES) (v : EV) (r : List EV) (σ : ES) : gConsS g1 g2 (v :: r) σ = (g1 v σ).bind (g2 r) := id rfl
@[simp] theorem allP_nil : allP [] = some [] := id rfl
@[simp] theorem tupOf_p (xs : List PV) : tupOf (.p (.tup xs)) = some (xs.map .p) := id rfl
@[simp] theorem tupOf_t (xs : List EV) : tupOf (.tup xs) = some xs := id rfl
@[simp] theorem forL_nil' (g : EV → ES → Option ES) (fb : ES → EH → FL) (σ : ES) (h : EH) : forL g fb [] σ h = .nx σ h := id rfl
@[simp] theorem setAll_nil (σ : ES) : setAll [] σ = σ := id rfl
@[simp] theorem setAll_cons (i : Nat) (v : EV) (r : List (Nat × EV)) (σ : ES) : setAll ((i, v) :: r) σ = setAll r (σ.set i (some v)) := id rfl
@[simp] theorem isFlat_non : isFlat (.p .non) = true := id rfl
@[simp] theorem isFlat_bl (b : Bool) : isFlat (.p (.bl b)) = true := id rfl
@[simp] theorem isFlat_int (b : Int) : isFlat (.p (.int b)) = true := id rfl
@[simp] theorem isFlat_str (b : List Nat) : isFlat (.p (.str b)) = true := id rfl
@[simp] theorem isFlat_tup (b : List PV) : isFlat (.p (.tup b)) = false := id rfl
@[simp] theorem isFlat_tup' (b : List EV) : isFlat (.tup b) = false := id rfl
@[simp] theorem isNon_non : isNon (.p .non) = true := id rfl
@[simp] theorem eVar_def (i : Nat)  (σ : ES) (h : EH) : eVar i σ h = (match σ[i]? with
  | some (some v) => .ok v h
  | _ => .stuck) := id rfl
@[simp] theorem eC_def (v : EV)  (_u0 : ES) (h : EH) : eC v _u0 h = (.ok v h) := id rfl
@[simp] theorem eOp_def (g : EV → EV → EH → Option (EV × EH)) (fa fb : ES → M EV)  (σ : ES) (h : EH) : eOp g fa fb σ h = ((fa σ h).bind fun x h1 => (fb σ h1).bind fun y h2 => R.lift (g x y h2)) := id rfl
@[simp] theorem eUn_def (g : EV → EH → Option (EV × EH)) (fa : ES → M EV)  (σ : ES) (h : EH) : eUn g fa σ h = ((fa σ h).bind fun x h1 => R.lift (g x h1)) := id rfl
@[simp] theorem tVal_def (f : ES → M EV)  (σ : ES) (h : EH) : tVal f σ h = ((f σ h).bind boolOf) := id rfl
@[simp] theorem tAnd'_def (fa fb : ES → M Bool)  (σ : ES) (h : EH) : tAnd' fa fb σ h = ((fa σ h).bind fun c h1 => match c with
  | true => fb σ h1
  | false => .ok false h1) := id rfl
@[simp] theorem tOr'_def (fa fb : ES → M Bool)  (σ : ES) (h : EH) : tOr' fa fb σ h = ((fa σ h).bind fun c h1 => match c with
  | true => .ok true h1
  | false => fb σ h1) := id rfl
@[simp] theorem tNot'_def (fa : ES → M Bool)  (σ : ES) (h : EH) : tNot' fa σ h = ((fa σ h).bind fun c h1 => .ok (!c) h1) := id rfl
@[simp] theorem eIf_def (t : ES → M Bool) (fa fb : ES → M EV)  (σ : ES) (h : EH) : eIf t fa fb σ h = ((t σ h).bind fun c h1 => match c with
  | true => fa σ h1
  | false => fb σ h1) := id rfl
@[simp] theorem eAndB_def (fa fb : ES → M EV)  (σ : ES) (h : EH) : eAndB fa fb σ h = ((fa σ h).bind fun x h1 => (boolOf x h1).bind fun c h1 => match c with
  | true => fb σ h1
  | false => .ok (.p (.bl false)) h1) := id rfl
@[simp] theorem eOrB_def (fa fb : ES → M EV)  (σ : ES) (h : EH) : eOrB fa fb σ h = ((fa σ h).bind fun x h1 => (boolOf x h1).bind fun c h1 => match c with
  | true => .ok (.p (.bl true)) h1
  | false => fb σ h1) := id rfl
@[simp] theorem eNotB_def (fa : ES → M EV)  (σ : ES) (h : EH) : eNotB fa σ h = ((fa σ h).bind fun x h1 => (boolOf x h1).bind fun c h1 => .ok (.p (.bl (!c))) h1) := id rfl
@[simp] theorem aNil_def  (_u0 : ES) (h : EH) : aNil  _u0 h = (.ok [] h) := id rfl
@[simp] theorem aCons_def (fa : ES → M EV) (fr : ES → M (List EV))  (σ : ES) (h : EH) : aCons fa fr σ h = ((fa σ h).bind fun x h1 => (fr σ h1).bind fun xs h2 => .ok (x :: xs) h2) := id rfl
@[simp] theorem eTup_def (fa : ES → M (List EV))  (σ : ES) (h : EH) : eTup fa σ h = ((fa σ h).bind fun xs h1 => if xs.length ≤ 100000 then .ok (mkTup xs) h1 else .stuck) := id rfl
@[simp] theorem lLst_def (fa : ES → M (List EV))  (σ : ES) (h : EH) : lLst fa σ h = ((fa σ h).bind fun xs h1 => if xs.length ≤ 100000 then .ok xs h1 else .stuck) := id rfl
@[simp] theorem eNew_def (fa : ES → M (List EV))  (σ : ES) (h : EH) : eNew fa σ h = ((fa σ h).bind fun xs h1 => .ok (.ref h1.length) (h1 ++ [.lst xs])) := id rfl
@[simp] theorem eVal_def (fa : ES → M (List EV))  (σ : ES) (h : EH) : eVal fa σ h = ((fa σ h).bind plst) := id rfl
@[simp] theorem eCall_def (g : List EV → EH → Option (EV × EH)) (fa : ES → M (List EV))  (σ : ES) (h : EH) : eCall g fa σ h = ((fa σ h).bind fun xs h1 => R.lift (g xs h1)) := id rfl
@[simp] theorem sNil_def  (σ : ES) (h : EH) : sNil  σ h = (.nx σ h) := id rfl
@[simp] theorem sSeq_def (f g : ES → EH → FL)  (σ : ES) (h : EH) : sSeq f g σ h = ((f σ h).seq g) := id rfl
@[simp] theorem sSet_def (g : EV → ES → Option ES) (f : ES → M EV)  (σ : ES) (h : EH) : sSet g f σ h = ((f σ h).fl σ fun v h' => match g v σ with
  | some σ' => .nx σ' h'
  | none => .stuck) := id rfl
@[simp] theorem sExpr_def (f : ES → M EV)  (σ : ES) (h : EH) : sExpr f σ h = ((f σ h).fl σ fun _ h' => .nx σ h') := id rfl
@[simp] theorem sRet_def (f : ES → M EV)  (σ : ES) (h : EH) : sRet f σ h = ((f σ h).fl σ fun v h' => .rt v h') := id rfl
@[simp] theorem sRetN_def  (_u0 : ES) (h : EH) : sRetN  _u0 h = (.rt (.p .non) h) := id rfl
@[simp] theorem sBrk_def  (σ : ES) (h : EH) : sBrk  σ h = (.bk σ h) := id rfl
@[simp] theorem sCont_def  (σ : ES) (h : EH) : sCont  σ h = (.ct σ h) := id rfl
@[simp] theorem sIf_def (t : ES → M Bool) (a b : ES → EH → FL)  (σ : ES) (h : EH) : sIf t a b σ h = ((t σ h).fl σ fun c h' => match c with
  | true => a σ h'
  | false => b σ h') := id rfl
@[simp] theorem sFor_def (fi : ES → M IT) (g : EV → ES → Option ES) (fb : ES → EH → FL)  (σ : ES) (h : EH) : sFor fi g fb σ h = ((fi σ h).fl σ fun it h' => match it with
  | .vals xs => forL g fb xs σ h'
  | .dyn get => forN g fb get 100001 0 σ h') := id rfl
@[simp] theorem gTupS_def (n : Nat) (g : List EV → ES → Option ES)  (v : EV) (σ : ES) : gTupS n g v σ = (match tupOf v with
  | some xs => if xs.length = n then g xs σ else none
  | none => none) := id rfl
@[simp] theorem iVal_def (f : ES → M EV)  (σ : ES) (h : EH) : iVal f σ h = ((f σ h).bind itOf) := id rfl
@[simp] theorem iLst_def (f : ES → M (List EV))  (σ : ES) (h : EH) : iLst f σ h = ((f σ h).bind fun xs h' => .ok (.vals xs) h') := id rfl
@[simp] theorem iRng1'_def (f : ES → M (List EV))  (σ : ES) (h : EH) : iRng1' f σ h = ((f σ h).bind rng1) := id rfl
@[simp] theorem iRng2'_def (f : ES → M (List EV))  (σ : ES) (h : EH) : iRng2' f σ h = ((f σ h).bind rng2) := id rfl
@[simp] theorem tYes'_def  (_u0 : ES) (h : EH) : tYes'  _u0 h = (.ok true h) := id rfl
@[simp] theorem lLc_def (fi : ES → M IT) (g : EV → ES → Option ES) (ft : ES → M Bool) (fe : ES → M EV) (vs : List Nat)  (σ : ES) (h : EH) : lLc fi g ft fe vs σ h = ((fi σ h).bind fun it h' => match it with
  | .vals xs => lcL g ft fe (wipeE σ vs) xs [] h'
  | .dyn get => lcN g ft fe (wipeE σ vs) get 100001 0 [] h') := id rfl
@[simp] theorem eFn_def (F : List EV → EH → R EV) (fa : ES → M (List EV))  (σ : ES) (h : EH) : eFn F fa σ h = ((fa σ h).bind F) := id rfl
@[simp] theorem pNone_def  (_u0 : ES) (h : EH) : pNone  _u0 h = (.ok none h) := id rfl
@[simp] theorem pSome_def (f : ES → M EV)  (σ : ES) (h : EH) : pSome f σ h = ((f σ h).bind intOf) := id rfl
@[simp] theorem eSl_def (fe : ES → M EV) (fl fh : ES → M (Option Int))  (σ : ES) (h : EH) : eSl fe fl fh σ h = ((fe σ h).bind fun v h1 => (fl σ h1).bind fun lo h2 => (fh σ h2).bind fun hi h3 => R.lift (opSl v lo hi h3)) := id rfl
@[simp] theorem lSl_def (fe : ES → M EV) (fl fh : ES → M (Option Int))  (σ : ES) (h : EH) : lSl fe fl fh σ h = ((fe σ h).bind fun v h1 => (fl σ h1).bind fun lo h2 => (fh σ h2).bind fun hi h3 => R.opt ((listOf h3 v).map fun xs => cutE xs lo hi) h3) := id rfl
@[simp] theorem sSub_def (fe fo fi : ES → M EV)  (σ : ES) (h : EH) : sSub fe fo fi σ h = ((fe σ h).fl σ fun v h1 => (fo σ h1).fl σ fun o h2 => (fi σ h2).fl σ fun i h3 => match putIx o i v h3 with
  | some h4 => .nx σ h4
  | none => .stuck) := id rfl
@[simp] theorem eSeq_def (g : Bool → List EV → Option EV) (fe : ES → M EV)  (σ : ES) (h : EH) : eSeq g fe σ h = ((fe σ h).bind fun v h1 => R.opt ((seqOf h1 v).bind fun q => g q.1 q.2) h1) := id rfl
@[simp] theorem eSeqL_def (g : Bool → List EV → Option EV) (fe : ES → M (List EV))  (σ : ES) (h : EH) : eSeqL g fe σ h = ((fe σ h).bind fun xs h1 => R.opt (g false xs) h1) := id rfl
@[simp] theorem lSeq_def (g : Bool → List EV → Option (List EV)) (fe : ES → M EV)  (σ : ES) (h : EH) : lSeq g fe σ h = ((fe σ h).bind fun v h1 => R.opt ((seqOf h1 v).bind fun q => g q.1 q.2) h1) := id rfl
@[simp] theorem lSeqL_def (g : Bool → List EV → Option (List EV)) (fe : ES → M (List EV))  (σ : ES) (h : EH) : lSeqL g fe σ h = ((fe σ h).bind fun xs h1 => R.opt (g false xs) h1) := id rfl
@[simp] theorem eLm_def {α : Type} (f : α → List EV → Option (EV × List EV)) (fo : ES → M EV) (fe : ES → M α)  (σ : ES) (h : EH) : eLm f fo fe σ h = ((fo σ h).bind fun x h1 => match isLst h1 x with
  | true => (fe σ h1).bind fun v h2 => putL x (f v) h2
  | false => .stuck) := id rfl
@[simp] theorem eAppend_def (fo fe : ES → M EV)  : eAppend fo fe = eLm fApp fo fe := id rfl
@[simp] theorem eExtendL_def (fo : ES → M EV) (fe : ES → M (List EV))  : eExtendL fo fe = eLm fExt fo fe := id rfl
@[simp] theorem lOf_def (fe : ES → M EV)  (σ : ES) (h : EH) : lOf fe σ h = ((fe σ h).bind fun v h1 => R.opt (lstOf h1 v) h1) := id rfl
@[simp] theorem eExtend_def (fo fe : ES → M EV)  : eExtend fo fe = eLm fExt fo (lOf fe) := id rfl
@[simp] theorem ePop_def (fo : ES → M EV)  (σ : ES) (h : EH) : ePop fo σ h = ((fo σ h).bind fun x h1 => putL x fPop h1) := id rfl
@[simp] theorem ePopAt_def (fo fe : ES → M EV)  : ePopAt fo fe = eLm fPopAt fo fe := id rfl
@[simp] theorem eDict0_def  (_u0 : ES) (h : EH) : eDict0  _u0 h = (.ok (.ref h.length) (h ++ [.dK []])) := id rfl
@[simp] theorem eDictT_def  (_u0 : ES) (h : EH) : eDictT  _u0 h = (.ok (.ref h.length) (h ++ [.dT []])) := id rfl
@[simp] theorem eSetd_def (fd fk fv : ES → M EV)  (σ : ES) (h : EH) : eSetd fd fk fv σ h = ((fd σ h).bind fun x h1 => match isDKr h1 x with
  | true => (fk σ h1).bind fun y h2 => (fv σ h2).bind fun z h3 => R.lift (setd x y z h3)
  | false => .stuck) := id rfl
@[simp] theorem eDget2_def (fd fk fv : ES → M EV)  (σ : ES) (h : EH) : eDget2 fd fk fv σ h = ((fd σ h).bind fun x h1 => match isDic h1 x with
  | true => (fk σ h1).bind fun y h2 => (fv σ h2).bind fun z h3 => R.opt (dgetV (inOf h3 x) y z) h3
  | false => .stuck) := id rfl
@[simp] theorem eDget1_def (fd fk : ES → M EV)  (σ : ES) (h : EH) : eDget1 fd fk σ h = ((fd σ h).bind fun x h1 => match isDic h1 x with
  | true => (fk σ h1).bind fun y h2 => R.opt (dgetV (inOf h2 x) y (.p .non)) h2
  | false => .stuck) := id rfl
@[simp] theorem iDV_def (f : ES → M EV)  (σ : ES) (h : EH) : iDV f σ h = ((f σ h).bind dvals) := id rfl
@[simp] theorem iDK_def (f : ES → M EV)  (σ : ES) (h : EH) : iDK f σ h = ((f σ h).bind dkeys) := id rfl
@[simp] theorem iDI_def (f : ES → M EV)  (σ : ES) (h : EH) : iDI f σ h = ((f σ h).bind ditems) := id rfl
@[simp] theorem lDK_def (f : ES → M EV)  (σ : ES) (h : EH) : lDK f σ h = ((f σ h).bind fun v h1 => R.opt (keysE (inOf h1 v)) h1) := id rfl
@[simp] theorem lDI_def (f : ES → M EV)  (σ : ES) (h : EH) : lDI f σ h = ((f σ h).bind fun v h1 => R.opt (itemsE (inOf h1 v)) h1) := id rfl
@[simp] theorem eFnP_def (F : List EV → EH → R EV) (ds : List PV) (fa : ES → M (List EV))  (σ : ES) (h : EH) : eFnP F ds fa σ h = ((fa σ h).bind fun vs h1 => callX F (vs ++ ds.map .p) h1) := id rfl
@[simp] theorem eFnI_def (F : List EV → EH → R EV) (ds : List PV) (fa : ES → M (List EV))  (σ : ES) (h : EH) : eFnI F ds fa σ h = ((fa σ h).bind fun vs h1 => F (vs ++ ds.map .p) h1) := id rfl
@[simp] theorem eMeth_def (tb : Nat → Option (List EV → EH → R EV)) (ds : List PV) (fo : ES → M EV) (fa : ES → M (List EV))  (σ : ES) (h : EH) : eMeth tb ds fo fa σ h = ((fo σ h).bind fun x h1 => match clsOf h1 x with
  | some c => match tb c with
    | some F => (fa σ h1).bind fun vs h2 => callX F (x :: (vs ++ ds.map .p)) h2
    | none => .stuck
  | none => .stuck) := id rfl
@[simp] theorem eMethI_def (tb : Nat → Option (List EV → EH → R EV)) (ds : List PV) (fo : ES → M EV) (fa : ES → M (List EV))  (σ : ES) (h : EH) : eMethI tb ds fo fa σ h = ((fo σ h).bind fun x h1 => match clsOf h1 x with
  | some c => match tb c with
    | some F => (fa σ h1).bind fun vs h2 => F (x :: (vs ++ ds.map .p)) h2
    | none => .stuck
  | none => .stuck) := id rfl
@[simp] theorem eMake_def (c : Nat) (F : List EV → EH → R EV) (ds : List PV) (fa : ES → M (List EV))  (σ : ES) (h : EH) : eMake c F ds fa σ h = ((fa σ h).bind fun vs h1 => makeX c F (vs ++ ds.map .p) h1) := id rfl
@[simp] theorem eMakeI_def (c : Nat) (F : List EV → EH → R EV) (ds : List PV) (fa : ES → M (List EV))  (σ : ES) (h : EH) : eMakeI c F ds fa σ h = ((fa σ h).bind fun vs h1 => imake c F (vs ++ ds.map .p) h1) := id rfl
@[simp] theorem eAttr_def (k : Nat) (fo : ES → M EV)  (σ : ES) (h : EH) : eAttr k fo σ h = ((fo σ h).bind fun x h1 => R.opt (attr k x h1) h1) := id rfl
@[simp] theorem sAttr_def (fa : Nat → Nat → Bool) (k : Nat) (fo fe : ES → M EV)  (σ : ES) (h : EH) : sAttr fa k fo fe σ h = ((fe σ h).fl σ fun v h1 => (fo σ h1).fl σ fun x h2 => match putA fa k x v h2 with
  | some h3 => .nx σ h3
  | none => .stuck) := id rfl
@[simp] theorem aStar_def (fe : ES → M EV) (fr : ES → M (List EV))  (σ : ES) (h : EH) : aStar fe fr σ h = ((fe σ h).bind fun v h1 => match seqOf h1 v with
  | some q => (fr σ h1).bind fun ys h2 => .ok (q.2 ++ ys) h2
  | none => .stuck) := id rfl
@[simp] theorem aStarL_def (fe : ES → M (List EV)) (fr : ES → M (List EV))  (σ : ES) (h : EH) : aStarL fe fr σ h = ((fe σ h).bind fun xs h1 => (fr σ h1).bind fun ys h2 => .ok (xs ++ ys) h2) := id rfl
@[simp] theorem eChain_def (g g' : EV → EV → EH → Option (EV × EH)) (fa fb fc : ES → M EV)  (σ : ES) (h : EH) : eChain g g' fa fb fc σ h = ((fa σ h).bind fun x h1 => (fb σ h1).bind fun y h2 => (R.lift (g x y h2)).bind fun z h3 => (boolOf z h3).bind fun k h4 => match k with
  | true => (fc σ h4).bind fun w h5 => R.lift (g' y w h5)
  | false => .ok (.p (.bl false)) h4) := id rfl
@[simp] theorem eFmt_def (fe : ES → M EV)  (σ : ES) (h : EH) : eFmt fe σ h = ((fe σ h).bind fun v h1 => R.opt ((txtOf v).map fun s => .p (.str s)) h1) := id rfl
@[simp] theorem jNil_def  (_u0 : ES) (acc : List Nat) (h : EH) : jNil  _u0 acc h = (.ok (.p (.str acc)) h) := id rfl
@[simp] theorem jCons_def (fe : ES → M EV) (fr : ES → List Nat → EH → R EV)  (σ : ES) (acc : List Nat) (h : EH) : jCons fe fr σ acc h = ((fe σ h).bind fun v h1 => match v with
  | .p (.str s) => if (acc ++ s).length ≤ 100000 then fr σ (acc ++ s) h1 else .stuck
  | _ => .stuck) := id rfl
@[simp] theorem eJoined_def (f : ES → List Nat → EH → R EV)  (σ : ES) (h : EH) : eJoined f σ h = (f σ [] h) := id rfl
@[simp] theorem lSplit_def (fo fe : ES → M EV)  (σ : ES) (h : EH) : lSplit fo fe σ h = ((fo σ h).bind fun x h1 => match x with
  | .p (.str _) => (fe σ h1).bind fun y h2 => R.opt (splitOf x y) h2
  | _ => .stuck) := id rfl
@[simp] theorem eJoin_def (fo fe : ES → M EV)  (σ : ES) (h : EH) : eJoin fo fe σ h = ((fo σ h).bind fun x h1 => match x with
  | .p (.str s) => (fe σ h1).bind fun y h2 => R.opt ((seqOf h2 y).bind fun q => joinOf s q.2) h2
  | _ => .stuck) := id rfl
@[simp] theorem eJoinL_def (fo : ES → M EV) (fe : ES → M (List EV))  (σ : ES) (h : EH) : eJoinL fo fe σ h = ((fo σ h).bind fun x h1 => match x with
  | .p (.str s) => (fe σ h1).bind fun ys h2 => R.opt (joinOf s ys) h2
  | _ => .stuck) := id rfl
@[simp] theorem eMakeS_def (c m : Nat) (sl : List (Nat × (ES → M EV))) (ds : List PV) (fa : ES → M (List EV))  (σ : ES) (h : EH) : eMakeS c m sl ds fa σ h = ((fa σ h).bind fun vs h1 => makeS c m sl (vs ++ ds.map .p) h1) := id rfl
@[simp] theorem dNil_def  (_u0 : ES) (h : EH) : dNil  _u0 h = (.ok [] h) := id rfl
@[simp] theorem dVal_def (fe : ES → M EV) (fr : ES → M (List (Bool × SD)))  (σ : ES) (h : EH) : dVal fe fr σ h = ((fe σ h).bind fun x h1 => match sideOf h1 x with
  | some d => (fr σ h1).bind fun ds h2 => .ok (d :: ds) h2
  | none => .stuck) := id rfl
@[simp] theorem dLst_def (fe : ES → M (List EV)) (fr : ES → M (List (Bool × SD)))  (σ : ES) (h : EH) : dLst fe fr σ h = ((fe σ h).bind fun xs h1 => (fr σ h1).bind fun ds h2 => .ok ((false, .v xs) :: ds) h2) := id rfl
@[simp] theorem iZip_def (fd : ES → M (List (Bool × SD)))  (σ : ES) (h : EH) : iZip fd σ h = ((fd σ h).bind fun ds h1 => match ds with
  | [a, b] => match sdAt h1 0 a.2, sdAt h1 0 b.2 with
    | some _, some _ => .ok (.dyn (getZ a.2 b.2)) h1
    | _, _ => .stuck
  | _ => .stuck) := id rfl
@[simp] theorem iEnum_def (fd : ES → M (List (Bool × SD)))  (σ : ES) (h : EH) : iEnum fd σ h = ((fd σ h).bind fun ds h1 => match ds with
  | [a] => match sdAt h1 0 a.2 with
    | some _ => .ok (.dyn (getE a.2)) h1
    | none => .stuck
  | _ => .stuck) := id rfl
@[simp] theorem eInG_def (kvs : List (List Nat × PV)) (neg : Bool) (fe : ES → M EV)  (σ : ES) (h : EH) : eInG kvs neg fe σ h = ((fe σ h).bind fun v h1 => R.opt (inG kvs neg v) h1) := id rfl
@[simp] theorem eIxG_def (kvs : List (List Nat × PV)) (fe : ES → M EV)  (σ : ES) (h : EH) : eIxG kvs fe σ h = ((fe σ h).bind fun v h1 => R.opt (ixG kvs v) h1) := id rfl
@[simp] theorem sTryT_def (fb : ES → EH → FL)  (σ : ES) (h : EH) : sTryT fb σ h = (match fb σ h with
  | .exc _ _ _ _ => .stuck
  | r => r) := id rfl
@[simp] theorem eAny_def (fa : ES → M (List EV))  (σ : ES) (h : EH) : eAny fa σ h = ((fa σ h).bind anyL) := id rfl
@[simp] theorem qNil_def  (_u0 : ES) (h : EH) : qNil  _u0 h = (.ok [] h) := id rfl
@[simp] theorem qCons_def (fk fv : ES → M EV) (fr : ES → M PE')  (σ : ES) (h : EH) : qCons fk fv fr σ h = ((fk σ h).bind fun k h1 => match k with
  | .p kp => match keyOf kp with
    | some _ => (fv σ h1).bind fun v h2 => (fr σ h2).bind fun r h3 => .ok ((kp, v) :: r) h3
    | none => .stuck
  | _ => .stuck) := id rfl
@[simp] theorem eDictV_def (f : ES → M PE')  (σ : ES) (h : EH) : eDictV f σ h = ((f σ h).bind fun kvs h1 => match plD (mkD kvs []) with
  | some ps => if kvs.length ≤ 15 then .ok (.p (.dic ps)) h1 else .stuck
  | none => .stuck) := id rfl
@[simp] theorem sRaise_def (c : Nat) (ks : List Nat) (fa : ES → M (List EV))  (σ : ES) (h : EH) : sRaise c ks fa σ h = ((fa σ h).fl σ fun vs h1 => match allP vs with
  | some ps => .exc c (ks.zip ps).reverse σ h1
  | none => .stuck) := id rfl
@[simp] theorem eErr_def (fs : PF) (k : Nat)  (_u0 : ES) (h : EH) : eErr fs k _u0 h = (R.opt ((lkN k fs).map .p) h) := id rfl
@[simp] theorem sTryAs_def (cm : Nat → Option Bool) (i : Nat) (fb : ES → EH → FL) (fsu : PF → ES → EH → FL)  (σ : ES) (h : EH) : sTryAs cm i fb fsu σ h = (match fb σ h with
  | .exc c fs σ' h' => match cm c with
    | some true => if i < σ'.length then clr i (fsu fs (σ'.set i none) h') else .stuck
    | some false => .exc c fs σ' h'
    | none => .stuck
  | r => r) := id rfl
@[simp] theorem sTryN_def (cm : Nat → Option Bool) (fb : ES → EH → FL)  (σ : ES) (h : EH) : sTryN cm fb σ h = (match fb σ h with
  | .exc c fs σ' h' => match cm c with
    | some false => .exc c fs σ' h'
    | _ => .stuck
  | r => r) := id rfl
@[simp] theorem ptAny_def  (_u0 : EV) (_u1 : EH) : ptAny  _u0 _u1 = (some (some [])) := id rfl
@[simp] theorem ptCap_def (i : Nat)  (v : EV) (_u1 : EH) : ptCap i v _u1 = (some (some [(i, v)])) := id rfl
@[simp] theorem ptAs_def (p : Pt) (i : Nat)  (v : EV) (h : EH) : ptAs p i v h = ((p v h).map fun r => r.map fun bs => bs ++ [(i, v)]) := id rfl
@[simp] theorem ptNo_def  (_u0 : EV) (_u1 : EH) : ptNo  _u0 _u1 = (some none) := id rfl
@[simp] theorem ptOr_def (p q : Pt)  (v : EV) (h : EH) : ptOr p q v h = (match p v h with
  | none => none
  | some none => q v h
  | some (some bs) => some (some bs)) := id rfl
@[simp] theorem psNil_def  (_u0 : List EV) (_u1 : EH) : psNil  _u0 _u1 = (some (some [])) := id rfl
@[simp] theorem psCons_def (p : Pt) (q : Pts)  (vs : List EV) (h : EH) : psCons p q vs h = (match vs with
  | [] => some (some [])
  | v :: r => match p v h with
    | none => none
    | some none => some none
    | some (some bs) => (q r h).map fun m => m.map fun more => bs ++ more) := id rfl
@[simp] theorem ptSeq_def (n : Nat) (q : Pts)  (v : EV) (h : EH) : ptSeq n q v h = (match isFlat v with
  | true => some none
  | false => match tupOf v with
    | some xs => match Nat.beq xs.length n with
      | true => q xs h
      | false => some none
    | none => none) := id rfl
@[simp] theorem mNil_def  (_u0 : EV) (σ : ES) (h : EH) : mNil  _u0 σ h = (.nx σ h) := id rfl
@[simp] theorem mCase_def (p : Pt) (b : ES → EH → FL) (r : EV → ES → EH → FL)  (v : EV) (σ : ES) (h : EH) : mCase p b r v σ h = (match p v h with
  | none => .stuck
  | some none => r v σ h
  | some (some bs) => b (setAll bs σ) h) := id rfl
@[simp] theorem mCaseG_def (p : Pt) (t : ES → M Bool) (b : ES → EH → FL) (r : EV → ES → EH → FL)  (v : EV) (σ : ES) (h : EH) : mCaseG p t b r v σ h = (match p v h with
  | none => .stuck
  | some none => r v σ h
  | some (some bs) => (t (setAll bs σ) h).fl (setAll bs σ) fun c h1 => match c with
    | true => b (setAll bs σ) h1
    | false => r v (setAll bs σ) h1) := id rfl
@[simp] theorem sMatch_def (fe : ES → M EV) (r : EV → ES → EH → FL)  (σ : ES) (h : EH) : sMatch fe r σ h = ((fe σ h).fl σ fun v h1 => r v σ h1) := id rfl
@[simp] theorem lAdd_def (fa fb : ES → M EV)  (σ : ES) (h : EH) : lAdd fa fb σ h = ((fa σ h).bind fun x h1 => (fb σ h1).bind fun y h2 => R.opt (match lstOf h2 x, lstOf h2 y with
  | some xs, some ys => if xs.length + ys.length ≤ 100000 then some (xs ++ ys) else none
  | _, _ => none) h2) := id rfl
@[simp] theorem lMul_def (fa fb : ES → M EV)  (σ : ES) (h : EH) : lMul fa fb σ h = ((fa σ h).bind fun x h1 => (fb σ h1).bind fun y h2 => R.opt (match lstOf h2 x, y with
  | some xs, .p (.int k) => if -(2 ^ 63) ≤ k ∧ k < 2 ^ 63 ∧ xs.length * k.toNat ≤ 100000 then some (List.replicate k.toNat xs).flatten else none
  | _, _ => none) h2) := id rfl
@[simp] theorem sPar2_def (i j : Nat) (fa : ES → M (List EV))  (σ : ES) (h : EH) : sPar2 i j fa σ h = ((fa σ h).fl σ fun vs h' => match vs with
  | [v, w] => .nx ((σ.set i (some v)).set j (some w)) h'
  | _ => .stuck) := id rfl
@[simp] theorem sPar3_def (i j l : Nat) (fa : ES → M (List EV))  (σ : ES) (h : EH) : sPar3 i j l fa σ h = ((fa σ h).fl σ fun vs h' => match vs with
  | [u, v, w] => .nx (((σ.set i (some u)).set j (some v)).set l (some w)) h'
  | _ => .stuck) := id rfl
end Y
end

section
set_option maxHeartbeats 2000000
/-! P2: plain side, the other way of drawing (left, draw). -/
namespace Law
open Y P
open PySem L2
/-- the list of numbers that the draws use up -/
def Cel (n : Nat) (h : EH) : Prop := ∃ xs : List Int, 2 ≤ xs.length ∧ h[n]? = some (.lst (xs.map fun i => .p (.int i)))
theorem atI_nn {α : Type} {xs : List α} {i : Int} {k : Nat} {x : α} (e : i = (k : Int)) (h : xs[k]? = some x) : atI xs i = some x := by
  have hk : k < xs.length := (List.getElem?_eq_some_iff.mp h).1
  subst e
  simp only [atI, ixN]
  rw [if_pos (by omega), if_pos (by omega)]
  exact h
theorem ixN_nn {l k : Nat} {i : Int} (e : i = (k : Int)) (h : k < l) : ixN l i = some k := by
  subst e
  simp only [ixN]
  rw [if_pos (by omega), if_pos (by omega)]
  simp
theorem cel_get {h : EH} {n k : Nat} {i v : Int} {xs : List Int} (e : h[n]? = some (.lst (xs.map fun i => .p (.int i)))) (hi : i = (k : Int)) (hk : xs[k]? = some v) : opIx (.ref n) (.p (.int i)) h = some (.p (.int v), h) := by
  simp only [opIx, inOf, e, ixOf]
  rw [atI_nn hi (x := .p (.int v)) (by simp [hk])]
  rfl
theorem cel_put {h : EH} {n k : Nat} {i v : Int} {xs : List Int} (e : h[n]? = some (.lst (xs.map fun i => .p (.int i)))) (hi : i = (k : Int)) (hk : k < xs.length) : putIx (.ref n) (.p (.int i)) (.p (.int v)) h = some (h.set n (.lst ((xs.set k v).map fun i => .p (.int i)))) := by
  simp only [putIx, e]
  rw [ixN_nn (k := k) hi (by simpa using hk)]
  simp [List.map_set]
theorem draw_ok {h : EH} {n : Nat} {m : Int} (c : Cel n h) (hm : 0 < m) (hm2 : m < 1073741824) :
    ∃ r xs, 0 ≤ r ∧ r < m ∧ 2 ≤ (xs : List Int).length ∧ F__law_draw [.ref n, .p (.int m)] h = .ok (.p (.int r)) (h.set n (.lst (xs.map fun i => .p (.int i)))) := by
  obtain ⟨xs, hl, e⟩ := c
  have hn : n < h.length := (List.getElem?_eq_some_iff.mp e).1
  obtain ⟨x0, hx⟩ : ∃ x0, xs[0]? = some x0 := ⟨xs[0], List.getElem?_eq_getElem (by omega)⟩
  obtain ⟨c, hc⟩ : ∃ c : Int, c = x0 + 1 := ⟨_, rfl⟩
  obtain ⟨xs1, h1⟩ : ∃ xs1, xs1 = xs.set 0 c := ⟨_, rfl⟩
  have l1 : xs1.length = xs.length := by rw [h1]; simp
  have c1 : xs1[0]? = some c := by rw [h1]; exact List.getElem?_set_self (by omega)
  have e1 : (h.set n (.lst (xs1.map fun i => EV.p (.int i))))[n]? = some (.lst (xs1.map fun i => .p (.int i))) := List.getElem?_set_self hn
  obtain ⟨N, hN⟩ : ∃ N : Int, N = (xs1.length : Int) - 1 := ⟨_, rfl⟩
  have r0 : 0 ≤ c % N := Int.emod_nonneg _ (by omega)
  have r1 : c % N < N := Int.emod_lt_of_pos _ (by omega)
  obtain ⟨k, hk⟩ := Int.eq_ofNat_of_zero_le (show 0 ≤ 1 + c % N by omega)
  have kl : k < xs1.length := by omega
  obtain ⟨v, hv⟩ : ∃ v, xs1[k]? = some v := ⟨xs1[k], List.getElem?_eq_getElem kl⟩
  have a0 := cel_get e (i := 0) rfl hx
  have p0 := cel_put e (i := 0) (v := c) rfl (show 0 < xs.length by omega)
  rw [← h1] at p0
  have a1 := cel_get e1 (i := 0) rfl c1
  have ln : lenOf (inOf (h.set n (.lst (xs1.map fun i => EV.p (.int i)))) (.ref n)) = some (xs1.length : Int) := by
    simp [inOf, e1, lenOf]
  have ak := cel_get e1 rfl hv
  have e2 : ∀ xs2 : List Int, ((h.set n (.lst (xs1.map fun i => EV.p (.int i)))).set n (.lst (xs2.map fun i => EV.p (.int i)))) = h.set n (.lst (xs2.map fun i => EV.p (.int i))) := fun xs2 => List.set_set _
  have st : startE 4 [.ref n, .p (.int m)] = [some (.ref n), some (.p (.int m)), none, none] := rfl
  have ad : ∀ (i j : Int) h, opAdd (.p (.int i)) (.p (.int j)) h = some (.p (.int (i + j)), h) := fun i j h => rfl
  have sb : ∀ (i j : Int) h, opSub (.p (.int i)) (.p (.int j)) h = some (.p (.int (i - j)), h) := fun i j h => rfl
  have pw : ∀ h, opPow (.p (.int 10)) (.p (.int 18)) h = some (.p (.int 1000000000000000000), h) := fun h => rfl
  have md1 : ∀ h, opMod (.p (.int c)) (.p (.int N)) h = some (.p (.int (c % N)), h) := fun h => mod_ok (by omega)
  by_cases q : 1000000000000000000 ≤ v
  · have pk := cel_put e1 (v := v / m) rfl kl
    rw [e2] at pk
    refine ⟨v % m, xs1.set k (v / m), Int.emod_nonneg _ (by omega), Int.emod_lt_of_pos _ hm, by simp [l1, hl], ?_⟩
    have fd : ∀ h, opFdiv (.p (.int v)) (.p (.int m)) h = some (.p (.int (v / m)), h) := fun h => by
      simp only [opFdiv, Y.opI]
      rw [if_pos ⟨hm, hm2⟩]
      rfl
    have md2 : ∀ h, opMod (.p (.int v)) (.p (.int m)) h = some (.p (.int (v % m)), h) := fun h => mod_ok hm
    simp [F__law_draw, fnF, b__law_draw, st, a0, ad, ← hc, p0, a1, fLenA, ln, sb, ← hN, md1, hk, ak, pw, opGe, cmpI, q, fd, pk, fIntS, fInt1, md2, -List.map_set]
  · obtain ⟨w, hw⟩ : ∃ w : Int, w = (v * 48271 + c * 7919 + 11) % 2147483647 := ⟨_, rfl⟩
    have pk := cel_put e1 (v := w) rfl kl
    rw [e2] at pk
    have ek : (h.set n (.lst ((xs1.set k w).map fun i => EV.p (.int i))))[n]? = some (.lst ((xs1.set k w).map fun i => EV.p (.int i))) := List.getElem?_set_self hn
    have ak2 := cel_get ek rfl (List.getElem?_set_self kl)
    refine ⟨w / 7 % m, xs1.set k w, Int.emod_nonneg _ (by omega), Int.emod_lt_of_pos _ hm, by simp [l1, hl], ?_⟩
    have m1 : ∀ h, opMul (.p (.int v)) (.p (.int 48271)) h = some (.p (.int (v * 48271)), h) := fun h => mul_ok (by decide)
    have m2 : ∀ h, opMul (.p (.int c)) (.p (.int 7919)) h = some (.p (.int (c * 7919)), h) := fun h => mul_ok (by decide)
    have d1 : ∀ h, opMod (.p (.int (v * 48271 + c * 7919 + 11))) (.p (.int 2147483647)) h = some (.p (.int w), h) := fun h => by rw [hw]; exact mod_ok (by decide)
    have d2 : ∀ h, opFdiv (.p (.int w)) (.p (.int 7)) h = some (.p (.int (w / 7)), h) := fun h => rfl
    have d3 : ∀ h, opMod (.p (.int (w / 7))) (.p (.int m)) h = some (.p (.int (w / 7 % m)), h) := fun h => mod_ok hm
    simp [F__law_draw, fnF, b__law_draw, st, a0, ad, ← hc, p0, a1, fLenA, ln, sb, ← hN, md1, hk, ak, pw, opGe, cmpI, q, fIntS, fInt1, m1, m2, d1, pk, ak2, d2, d3, -List.map_set]
/-- .. and behind it -/
theorem draw_cel {h : EH} {n : Nat} {m : Int} (c : Cel n h) (hm : 0 < m) (hm2 : m < 1073741824) :
    ∃ r o, 0 ≤ r ∧ r < m ∧ F__law_draw [.ref n, .p (.int m)] h = .ok (.p (.int r)) (h.set n o) ∧ Cel n (h.set n o) := by
  obtain ⟨r, xs, a, b, l, e⟩ := draw_ok c hm hm2
  obtain ⟨ys, _, ey⟩ := c
  exact ⟨r, _, a, b, e, xs, l, List.getElem?_set_self (List.getElem?_eq_some_iff.mp ey).1⟩
theorem left_ok {ns : List Int} (hl : ns.length ≤ 63) : ∃ o, F__law_left [.p (.rol (ns.map PV.int))] [] = .ok (.ref 0) [o] ∧ Cel 0 [o] := by
  have st : ∀ v, startE 2 [v] = [some v, none] := fun v => rfl
  have cut : cutE (ns.map PV.int) none (some 63) = ns.map PV.int := by
    apply cutE_whole
    refine ⟨rfl, ?_⟩
    have := HT.sIx_nat (ns.map PV.int).length (ns.map PV.int).length 63
    rw [show ((63 : Nat) : Int) = 63 from rfl] at this
    rw [this, List.length_map]
    omega
  have ap : allP ((ns.map PV.int).map .p) = some (ns.map PV.int) := allP_map _
  have le : ∀ h, lstOf h (.p (.lst (ns.map PV.int))) = some ((ns.map PV.int).map .p) := fun h => rfl
  cases ns with
  | nil =>
    refine ⟨.lst [.p (.int 0), .p (.int 0)], ?_, [0, 0], by decide, rfl⟩
    kernel_rfl
  | cons a r =>
    refine ⟨.lst ((0 :: a :: r).map fun i => .p (.int i)), ?_, 0 :: a :: r, by simp, rfl⟩
    simp only [List.map_cons] at cut
    have n1 : ¬ ((r.length : Int) + 1 + 1 = 1) := by omega
    have n2 : 1 + (r.length + 1) ≤ 100000 := by simp at hl; omega
    simp [F__law_left, fnF, b__law_left, st, intOf, opSl, cut, seqOf, inOf, fList, anyL, allP_map, lstOf, fLenA, lenOf, opEq, eqP, rsv, pdat, peq, n1, n2, allP, -List.map_map]
    simp [List.map_map, Function.comp_def]
end Law
end

section
set_option maxHeartbeats 2000000
/-! S1: loops, told by steps on typed states. -/
namespace Y
/-- how a step of a loop ends -/
inductive Res (S : Type) where
  | ok (s : S) | ret (v : EV) | exc (c : Nat) (fs : PF)
def Res.go {S : Type} (q : Res S) (f : S → Res S) : Res S := match q with
  | .ok s => f s
  | .ret v => .ret v
  | .exc c fs => .exc c fs
def foldR {α S : Type} (step : S → α → Res S) : S → List α → Res S
  | s, [] => .ok s
  | s, a :: r => (step s a).go fun s' => foldR step s' r
section
variable {α S : Type} {Inv : S → ES → EH → Prop}
def Out (Inv : S → ES → EH → Prop) (r : FL) : Res S → Prop
  | .ok s => ∃ σ h, (r = .nx σ h ∨ r = .ct σ h) ∧ Inv s σ h
  | .ret v => ∃ h, r = .rt v h
  | .exc c fs => ∃ σ h, r = .exc c fs σ h
def OutL (Inv : S → ES → EH → Prop) (r : FL) : Res S → Prop
  | .ok s => ∃ σ h, r = .nx σ h ∧ Inv s σ h
  | .ret v => ∃ h, r = .rt v h
  | .exc c fs => ∃ σ h, r = .exc c fs σ h
theorem Out.nx {σ : ES} {h : EH} {s : S} (i : Inv s σ h) : Out Inv (.nx σ h) (.ok s) := ⟨σ, h, .inl rfl, i⟩
theorem OutL.nx {σ : ES} {h : EH} {s : S} (i : Inv s σ h) : OutL Inv (.nx σ h) (.ok s) := ⟨σ, h, rfl, i⟩
theorem Out.go {r : FL} {q : Res S} (o : Out Inv r q) {go : ES → EH → FL} {f : S → Res S} (k : ∀ s σ h, Inv s σ h → OutL Inv (go σ h) (f s)) :
    OutL Inv (r.loop go) (q.go f) := by
  cases q with
  | ok s =>
    obtain ⟨σ, h, e, i⟩ := o
    rcases e with rfl | rfl
    · exact k s σ h i
    · exact k s σ h i
  | ret v =>
    obtain ⟨h, rfl⟩ := o
    exact ⟨h, rfl⟩
  | exc c fs =>
    obtain ⟨σ, h, rfl⟩ := o
    exact ⟨σ, h, rfl⟩
theorem forL_go {g : EV → ES → Option ES} {fb : ES → EH → FL} {enc : α → EV} {step : S → α → Res S} : ∀ (xs : List α) (s : S) (σ : ES) (h : EH), Inv s σ h →
    (∀ a, a ∈ xs → ∀ s σ h, Inv s σ h → ∃ σ1, g (enc a) σ = some σ1 ∧ Out Inv (fb σ1 h) (step s a)) →
    OutL Inv (forL g fb (xs.map enc) σ h) (foldR step s xs)
  | [], s, σ, h, i, _ => ⟨σ, h, rfl, i⟩
  | a :: xs, s, σ, h, i, hb => by
    obtain ⟨σ1, e, o⟩ := hb a (by simp) s σ h i
    simp only [List.map_cons, forL, e]
    exact o.go fun s σ h i => forL_go xs s σ h i fun a m => hb a (by simp [m])
theorem forN_from {g : EV → ES → Option ES} {fb : ES → EH → FL} {get : GT} {enc : α → EV} {step : S → α → Res S} : ∀ (xs pre : List α) (k : Nat) (s : S) (σ : ES) (h : EH), Inv s σ h → xs.length < k →
    (∀ s σ h, Inv s σ h → ∀ i, i ≤ (pre ++ xs).length → get h i = some (((pre ++ xs)[i]?).map enc)) →
    (∀ a, a ∈ xs → ∀ s σ h, Inv s σ h → ∃ σ1, g (enc a) σ = some σ1 ∧ Out Inv (fb σ1 h) (step s a)) →
    OutL Inv (forN g fb get k pre.length σ h) (foldR step s xs)
  | _, _, 0, _, _, _, _, hk, _, _ => absurd hk (by omega)
  | [], pre, k + 1, s, σ, h, i, hk, hg, _ => by
    have := hg s σ h i pre.length (by simp)
    simp at this
    simp only [forN, this]
    exact ⟨σ, h, rfl, i⟩
  | a :: xs, pre, k + 1, s, σ, h, i, hk, hg, hb => by
    have := hg s σ h i pre.length (by simp)
    simp at this
    obtain ⟨σ1, e, o⟩ := hb a (by simp) s σ h i
    simp only [forN, this, e]
    refine o.go fun s σ h i => ?_
    have q := forN_from (g := g) (fb := fb) (get := get) (enc := enc) (step := step) xs (pre ++ [a]) k s σ h i (by simp at hk; omega) (by simpa using hg) fun a m => hb a (by simp [m])
    simpa using q
theorem forN_go {g : EV → ES → Option ES} {fb : ES → EH → FL} {get : GT} {enc : α → EV} {step : S → α → Res S} (xs : List α) (k : Nat) (s : S) (σ : ES) (h : EH) (i : Inv s σ h) (hk : xs.length < k)
    (hg : ∀ s σ h, Inv s σ h → ∀ i, i ≤ xs.length → get h i = some ((xs[i]?).map enc))
    (hb : ∀ a, a ∈ xs → ∀ s σ h, Inv s σ h → ∃ σ1, g (enc a) σ = some σ1 ∧ Out Inv (fb σ1 h) (step s a)) :
    OutL Inv (forN g fb get k 0 σ h) (foldR step s xs) := forN_from xs [] k s σ h i hk hg hb
/-- a comprehension whose parts change nothing -/
theorem lcL_go {g : EV → ES → Option ES} {ft : ES → M Bool} {fe : ES → M EV} {σ : ES} {enc : α → EV} {p : α → Bool} {f : α → EV} {h : EH} : ∀ (xs : List α) (acc : List EV), acc.length + xs.length ≤ 100000 →
    (∀ a, a ∈ xs → ∃ σ1, g (enc a) σ = some σ1 ∧ ft σ1 h = .ok (p a) h ∧ (p a = true → fe σ1 h = .ok (f a) h)) →
    lcL g ft fe σ (xs.map enc) acc h = .ok (acc ++ (xs.filter p).map f) h
  | [], acc, _, _ => by simp [lcL]
  | a :: xs, acc, hl, hb => by
    obtain ⟨σ1, e, e1, e2⟩ := hb a (by simp)
    simp only [List.map_cons, lcL, e, lcStep, e1, bind_ok]
    simp at hl
    cases ep : p a with
    | true =>
      simp only [e2 ep, bind_ok]
      rw [if_pos (by omega)]
      simp only [noExc, bind_ok]
      rw [lcL_go (p := p) (f := f) xs (acc ++ [f a]) (by simp; omega) fun a m => hb a (by simp [m])]
      simp [List.filter_cons, ep]
    | false =>
      simp only [noExc, bind_ok]
      rw [lcL_go (p := p) (f := f) xs acc (by omega) fun a m => hb a (by simp [m])]
      simp [List.filter_cons, ep]
theorem lcN_from {g : EV → ES → Option ES} {ft : ES → M Bool} {fe : ES → M EV} {σ : ES} {get : GT} {enc : α → EV} {p : α → Bool} {f : α → EV} {h : EH} : ∀ (xs pre : List α) (k : Nat) (acc : List EV), acc.length + xs.length ≤ 100000 → xs.length < k →
    (∀ i, i ≤ (pre ++ xs).length → get h i = some (((pre ++ xs)[i]?).map enc)) →
    (∀ a, a ∈ xs → ∃ σ1, g (enc a) σ = some σ1 ∧ ft σ1 h = .ok (p a) h ∧ (p a = true → fe σ1 h = .ok (f a) h)) →
    lcN g ft fe σ get k pre.length acc h = .ok (acc ++ (xs.filter p).map f) h
  | _, _, 0, _, _, hk, _, _ => absurd hk (by omega)
  | [], pre, k + 1, acc, _, _, hg, _ => by
    have := hg pre.length (by simp)
    simp at this
    simp [lcN, this]
  | a :: xs, pre, k + 1, acc, hl, hk, hg, hb => by
    have := hg pre.length (by simp)
    simp at this
    obtain ⟨σ1, e, e1, e2⟩ := hb a (by simp)
    simp only [lcN, this, e, lcStep, e1, bind_ok]
    simp at hl hk
    have hg' : ∀ i, i ≤ ((pre ++ [a]) ++ xs).length → get h i = some ((((pre ++ [a]) ++ xs)[i]?).map enc) := by simpa using hg
    have ln : (pre ++ [a]).length = pre.length + 1 := by simp
    cases ep : p a with
    | true =>
      simp only [e2 ep, bind_ok]
      rw [if_pos (by omega)]
      simp only [noExc, bind_ok]
      rw [← ln, lcN_from (p := p) (f := f) (enc := enc) xs (pre ++ [a]) k (acc ++ [f a]) (by simp; omega) (by omega) hg' fun a m => hb a (by simp [m])]
      simp [List.filter_cons, ep]
    | false =>
      simp only [noExc, bind_ok]
      rw [← ln, lcN_from (p := p) (f := f) (enc := enc) xs (pre ++ [a]) k acc (by omega) (by omega) hg' fun a m => hb a (by simp [m])]
      simp [List.filter_cons, ep]
theorem lcN_go {g : EV → ES → Option ES} {ft : ES → M Bool} {fe : ES → M EV} {σ : ES} {get : GT} {enc : α → EV} {p : α → Bool} {f : α → EV} {h : EH} (xs : List α) (hk : xs.length ≤ 100000)
    (hg : ∀ i, i ≤ xs.length → get h i = some ((xs[i]?).map enc))
    (hb : ∀ a, a ∈ xs → ∃ σ1, g (enc a) σ = some σ1 ∧ ft σ1 h = .ok (p a) h ∧ (p a = true → fe σ1 h = .ok (f a) h)) :
    lcN g ft fe σ get 100001 0 [] h = .ok ((xs.filter p).map f) h := by
  have := lcN_from (p := p) (f := f) (enc := enc) xs [] 100001 [] (by simpa using hk) (by omega) hg hb
  simpa using this
theorem filter_yes : ∀ xs : List α, xs.filter (fun _ => true) = xs
  | [] => rfl
  | a :: r => by simp [List.filter_cons, filter_yes r]
theorem lcL_map {g : EV → ES → Option ES} {ft : ES → M Bool} {fe : ES → M EV} {σ : ES} {enc : α → EV} {f : α → EV} {h : EH} (xs : List α) (hl : xs.length ≤ 100000)
    (hb : ∀ a, a ∈ xs → ∃ σ1, g (enc a) σ = some σ1 ∧ ft σ1 h = .ok true h ∧ fe σ1 h = .ok (f a) h) : lcL g ft fe σ (xs.map enc) [] h = .ok (xs.map f) h := by
  have := lcL_go (p := fun _ => true) (f := f) (enc := enc) (g := g) (ft := ft) (fe := fe) (σ := σ) (h := h) xs [] (by simpa using hl) fun a m => let ⟨σ1, e1, e2, e3⟩ := hb a m; ⟨σ1, e1, e2, fun _ => e3⟩
  rw [filter_yes] at this
  exact this
theorem lcN_map {g : EV → ES → Option ES} {ft : ES → M Bool} {fe : ES → M EV} {σ : ES} {get : GT} {enc : α → EV} {f : α → EV} {h : EH} (xs : List α) (hk : xs.length ≤ 100000)
    (hg : ∀ i, i ≤ xs.length → get h i = some ((xs[i]?).map enc))
    (hb : ∀ a, a ∈ xs → ∃ σ1, g (enc a) σ = some σ1 ∧ ft σ1 h = .ok true h ∧ fe σ1 h = .ok (f a) h) :
    lcN g ft fe σ get 100001 0 [] h = .ok (xs.map f) h := by
  have := lcN_go (p := fun _ => true) (f := f) (enc := enc) (g := g) (ft := ft) (fe := fe) (σ := σ) (get := get) (h := h) xs hk hg fun a m => let ⟨σ1, e1, e2, e3⟩ := hb a m; ⟨σ1, e1, e2, fun _ => e3⟩
  rw [filter_yes] at this
  exact this
theorem getL_map {h : EH} {n : Nat} {xs : List α} {enc : α → EV} (e : h[n]? = some (.lst (xs.map enc))) (i : Nat) : getL n h i = some ((xs[i]?).map enc) := by
  simp [getL, e]
end
/-! values -/
theorem eqS_leq : ∀ a b, eqS a b = leq a b
  | [], [] => rfl
  | [], _ :: _ => rfl
  | _ :: _, [] => rfl
  | a :: r, b :: t => by
    simp only [eqS, leq]
    rw [eqS_leq r t]
    cases Nat.beq a b <;> rfl
theorem leq_comm (a b : List Nat) : leq a b = leq b a := by
  have h1 := leq_iff (a := a) (b := b)
  have h2 := leq_iff (a := b) (b := a)
  cases e1 : leq a b <;> cases e2 : leq b a <;> simp_all
theorem leq_self (a : List Nat) : leq a a = true := leq_iff.mpr rfl
@[simp] theorem opEq_str (a b : List Nat) (h : EH) : opEq (.p (.str a)) (.p (.str b)) h = some (.p (.bl (leq a b)), h) := by simp [opEq, eqP, rsv, pdat, peq, eqS_leq]
@[simp] theorem opNe_str (a b : List Nat) (h : EH) : opNe (.p (.str a)) (.p (.str b)) h = some (.p (.bl (!leq a b)), h) := by simp [opNe, eqP, rsv, pdat, peq, eqS_leq]
@[simp] theorem opEq_int (a b : Int) (h : EH) : opEq (.p (.int a)) (.p (.int b)) h = some (.p (.bl (decide (a = b))), h) := by simp [opEq, eqP, rsv, pdat, peq]
@[simp] theorem opNe_int (a b : Int) (h : EH) : opNe (.p (.int a)) (.p (.int b)) h = some (.p (.bl (!decide (a = b))), h) := by simp [opNe, eqP, rsv, pdat, peq]
@[simp] theorem opIs_non (n : Bool) (x : EV) (h : EH) : opIs n x (.p .non) h = some (.p (.bl (n ^^ isNon x)), h) := by
  unfold opIs
  split <;> simp_all
@[simp] theorem isNon_str (a : List Nat) : isNon (.p (.str a)) = false := rfl
@[simp] theorem isNon_int (a : Int) : isNon (.p (.int a)) = false := rfl
@[simp] theorem isNon_tup (a : List PV) : isNon (.p (.tup a)) = false := rfl
@[simp] theorem isNon_tup' (a : List EV) : isNon (.tup a) = false := rfl
@[simp] theorem isNon_ref (a : Nat) : isNon (.ref a) = false := rfl
@[simp] theorem ptVal_str (a b : List Nat) (h : EH) : ptVal (.p (.str a)) (.p (.str b)) h = some (match leq b a with | true => some [] | false => none) := by
  simp only [ptVal, eqP, rsv, pdat, peq, eqS_leq, Option.map_some] <;> (cases leq b a <;> rfl)
@[simp] theorem ptVal_int (a b : Int) (h : EH) : ptVal (.p (.int a)) (.p (.int b)) h = some (if b = a then some [] else none) := by
  simp only [ptVal, eqP, rsv, pdat, peq, Option.map_some]
  by_cases e : b = a <;> simp [e]
theorem peqL_strs : ∀ (n : Nat) (a b : List (List Nat)), peqL (peq n) (a.map .str) (b.map .str) = decide (a = b)
  | _, [], [] => by simp [peqL]
  | _, [], _ :: _ => by simp [peqL]
  | _, _ :: _, [] => by simp [peqL]
  | n, a :: r, b :: t => by
    have e : peq n (.str a) (.str b) = leq a b := by cases n <;> simp [peq, eqS_leq]
    simp only [List.map_cons, peqL, e, peqL_strs n r t]
    cases el : leq a b with
    | true => rw [leq_iff.mp el]; simp
    | false =>
      have : a ≠ b := fun z => by rw [z, leq_self] at el; cases el
      simp [this]
theorem pdat_strs (n : Nat) (a : List (List Nat)) : (a.map PV.str).all (pdat n) = true := by
  simp [List.all_eq_true]
  intro x _
  cases n <;> rfl
theorem eqP_strs (h : EH) (a b : List (List Nat)) : eqP h (.p (.lst (a.map .str))) (.p (.lst (b.map .str))) = some (decide (a = b)) := by
  simp only [eqP, rsv, pdat, peq, pdat_strs, peqL_strs]
theorem inSeq_strs (a : List Nat) (b : List (List Nat)) : inSeq (.str a) (b.map .str) = some (b.any fun x => leq x a) := by
  have e : pdat 30 (.str a) = true := rfl
  unfold inSeq
  rw [e, pdat_strs]
  simp only [Option.some.injEq]
  induction b with
  | nil => rfl
  | cons x r ih =>
    simp only [List.map_cons, seqIn, List.any_cons, ih]
    simp [peq, eqS_leq]
theorem boolsOf_map {α : Type} (f : α → Bool) : ∀ xs : List α, boolsOf (xs.map fun a => .p (.bl (f a))) = some (xs.map f)
  | [] => rfl
  | a :: r => by simp [boolsOf, boolsOf_map f r]
theorem strsOf_map : ∀ xs : List (List Nat), strsOf (xs.map fun a => .p (.str a)) = some xs
  | [] => rfl
  | a :: r => by simp [strsOf, strsOf_map r]
end Y
end

section
set_option maxHeartbeats 4000000
namespace Law
open PySem PySem.Spec PyProof.Rows L2 Y
def top (i : Nat) : Stmt := PySem.Challenge.pw_foldsame_k20_partitions.main.body.getD i (.Pass ⟨0, 0, 0, 0⟩)
/-! ### classes -/
def kd (c : Nat) : CK := [.exc, .exc, .exc, .exc, .exc, .exc, .exc, .exc, .exc, .exc, .exc, .exc, .exc, .exc, .exc, .exc, .exc, .exc, .exc, .exc, .exc, .exc, .exc, .exc, .exc, .exc, .exc, .exc, .exc, .exc, .exc, .exc, .exc, .exc, .exc, .exc, .exc, .exc, .exc, .exc, .exc, .exc, .exc].getD c .exc
def faL : List (List Nat) := [[], [], [], [], [], [], [], [], [], [], [], [], [], [], [], [], [], [], [], [], [], [], [], [], [], [], [], [], [], [], [], [], [], [], [], [], [], [], [], [], [], [], []]
def fa (c k : Nat) : Bool := (faL.getD c []).any (Nat.beq k)
theorem kd_out {c : Nat} (h : ¬ c < 43) : kd c = .exc := by
  simp [kd, List.getD, List.getElem?_eq_none (show ([.exc, .exc, .exc, .exc, .exc, .exc, .exc, .exc, .exc, .exc, .exc, .exc, .exc, .exc, .exc, .exc, .exc, .exc, .exc, .exc, .exc, .exc, .exc, .exc, .exc, .exc, .exc, .exc, .exc, .exc, .exc, .exc, .exc, .exc, .exc, .exc, .exc, .exc, .exc, .exc, .exc, .exc, .exc] : List CK).length ≤ c by simp; omega)]
theorem od_all : ∀ c, c < 43 → ∀ k, k < NN → fa c k = true → isExc (kd c) = false := by decide +kernel
theorem od (k : Nat) (hk : k < NN) : ∀ c, fa c k = true → kd c ≠ .exc := by
  intro c h e
  by_cases hc : c < 43
  · have := od_all c hc k hk h
    rw [e] at this
    cases this
  · have e2 : faL.getD c [] = [] := by simp [faL, List.getD, List.getElem?_eq_none (show ([[], [], [], [], [], [], [], [], [], [], [], [], [], [], [], [], [], [], [], [], [], [], [], [], [], [], [], [], [], [], [], [], [], [], [], [], [], [], [], [], [], [], []] : List (List Nat)).length ≤ c by simp; omega)]
    unfold fa at h
    rw [e2] at h
    cases h
theorem fs_all : ∀ c, c < 43 → isOrd (kd c) = true → faL.getD c [] = faLG.getD c [] := by decide +kernel
theorem fs (c : Nat) (h : kd c = .ord) (k : Nat) (q : faG c k = true) : fa c k = true := by
  by_cases hc : c < 43
  · unfold fa
    rw [fs_all c hc (by rw [h]; rfl)]
    exact q
  · rw [kd_out hc] at h
    cases h
def Gd (K : PySem.W.Frag) (CA : Nat → Addr) : Wd := ⟨K, CA, AN, NN, fun i j a b e => an_inj i a j b e, kd, fa, fun _ _ _ => True, fun _ _ _ _ _ _ _ => trivial, true, fun _ _ _ _ => trivial⟩
/-! ### mirrors -/
abbrev s__law_longer : Stmt := top 5
def b__law_longer : ES → EH → FL :=
  (sSeq (sSet (gN 1) (eNew (lLst aNil)))
  (sSeq (sFor (iVal (eVar 0)) (gN 2) (sFor (iRng1' (aCons (eOp opAdd (eCall fMax1 (aCons (eOp opAdd (eVar 2) (eAny (lLst (aCons (eUn uNeg (eC (.p (.int 1)))) aNil)))) aNil)) (eC (.p (.int 2)))) aNil)) (gN 3) (sExpr (eAppend (eVar 1) (eOp opAdd (eVar 2) (eAny (lLst (aCons (eVar 3) aNil))))))))
  (sRet (eVar 1))))
def F__law_longer : List EV → EH → Y.R EV := fnF 4 b__law_longer
abbrev s__law_marks : Stmt := top 6
def b__law_marks : ES → EH → FL :=
  (sSeq (sSet (gN 1) (eAny (lLst (aCons (eAny (lLst aNil)) aNil))))
  (sSeq (sFor (iRng1' (aCons (eVar 0) aNil)) (gN 2) (sSet (gN 1) (eFnM F__law_longer [] (aCons (eVar 1) aNil))))
  (sRet (eVar 1))))
def F__law_marks : List EV → EH → Y.R EV := fnF 3 b__law_marks
abbrev s__law_due : Stmt := top 7
def b__law_due : ES → EH → FL :=
  (sSeq (sSet (gN 1) (eNew (lLst aNil)))
  (sSeq (sFor (iVal (eFnM F__law_marks [] (aCons (eCall fLenA (aCons (eVar 0) aNil)) aNil))) (gN 2) (sSeq (sSet (gN 3) (eNew (lLst aNil)))
  (sSeq (sFor (iRng1' (aCons (eOp opAdd (eCall fMax1 (aCons (eOp opAdd (eVar 2) (eAny (lLst (aCons (eUn uNeg (eC (.p (.int 1)))) aNil)))) aNil)) (eC (.p (.int 1)))) aNil)) (gN 4) (sExpr (eAppend (eVar 3) (eSeqL fTup1 (lLc (iZip (dVal (eVar 0) (dVal (eVar 2) dNil))) (gTupS 2 (gConsS (gN 6) (gConsS (gN 7) gNilS))) (tVal (eOp opEq (eVar 7) (eVar 4))) (eVar 6) [6, 7])))))
  (sExpr (eAppend (eVar 1) (eTup (aCons (eCall fLenA (aCons (eVar 3) aNil)) (aCons (eSeq fTup1 (eVar 3)) aNil))))))))
  (sRet (eAny (lLc (iLst (lSort (eVar 1))) (gTupS 2 (gConsS (gN 5) (gConsS (gN 3) gNilS))) tYes' (eVar 3) [5, 3])))))
def F__law_due : List EV → EH → Y.R EV := fnF 8 b__law_due
abbrev s__law_pool : Stmt := top 3
abbrev s__law_take : Stmt := top 4
abbrev s_partitions : Stmt := top 1
def b_partitions : ES → EH → FL :=
  (sSeq (sSet (gN 1) (eAny (lLst (aCons (eTup aNil) aNil))))
  (sSeq (sFor (iVal (eVar 0)) (gN 2) (sSeq (sSet (gN 3) (eNew (lLst aNil)))
  (sSeq (sFor (iLst (lSeq fList (eVar 1))) (gN 4) (sSeq (sExpr (eAppend (eVar 3) (eTup (aStar (eVar 4) (aCons (eTup (aCons (eVar 2) aNil)) aNil)))))
  (sFor (iEnum (dLst (lSeq fList (eVar 4)) dNil)) (gTupS 2 (gConsS (gN 5) (gConsS (gN 6) gNilS))) (sExpr (eAppend (eVar 3) (eTup (aStar (eSl (eVar 4) pNone (pSome (eVar 5))) (aCons (eTup (aStar (eVar 6) (aCons (eVar 2) aNil))) (aStar (eSl (eVar 4) (pSome (eOp opAdd (eVar 5) (eC (.p (.int 1))))) pNone) aNil)))))))))
  (sSet (gN 1) (eVar 3)))))
  (sRet (eAny (lLc (iLst (lSortL (lLc (iVal (eVar 1)) (gN 4) tYes' (eTup (aCons (eCall fLenA (aCons (eVar 4) aNil)) (aCons (eVar 4) aNil))) [4]))) (gTupS 2 (gConsS (gN 7) (gConsS (gN 4) gNilS))) tYes' (eVar 4) [7, 4])))))
def F_partitions : List EV → EH → Y.R EV := fnF 8 b_partitions
abbrev s_law : Stmt := top 8
def b_law : ES → EH → FL :=
  (sSeq (sFor (iRng1' (aCons (eCall fMax2 (aCons (eC (.p (.int 1))) (aCons (eCall fMin2 (aCons (eCall fLenA (aCons (eVar 0) aNil)) (aCons (eC (.p (.int 5))) aNil))) aNil))) aNil)) (gN 1) (sSeq (sSet (gN 2) (eFnI F__law_pool [] (aCons (eVar 0) (aCons (eVar 1) aNil))))
  (sSeq (sSet (gN 3) (eAny (lLst (aCons (eC (.p (.str [109, 46, 97]))) (aCons (eC (.p (.str [109, 46, 98]))) (aCons (eC (.p (.str [109, 46, 99, 48]))) (aCons (eC (.p (.str [110, 46, 97]))) (aCons (eC (.p (.str [110, 46, 122, 122]))) (aCons (eC (.p (.str [97, 46, 120]))) (aCons (eC (.p (.str [122, 46, 120]))) (aCons (eC (.p (.str [109, 46, 109, 97, 105, 110]))) aNil)))))))))))
  (sSeq (sSet (gN 4) (eSeqL fTup1 (lSrtSetL (lLc (iRng1' (aCons (eFnP F__law_take [] (aCons (eVar 2) (aCons (eC (.p (.int 6))) aNil))) aNil)) (gN 6) tYes' (eOp opIx (eVar 3) (eFnP F__law_take [] (aCons (eVar 2) (aCons (eC (.p (.int 8))) aNil)))) [6]))))
  (sSeq (sSet (gN 5) (eFnM F_partitions [] (aCons (eVar 4) aNil)))
  (sIf (tOr' (tVal (eOp opNe (eVar 5) (eFnM F__law_due [] (aCons (eVar 4) aNil)))) (tNot' (tVal (eUn (isTy "list") (eVar 5))))) (sRet (eC (.p (.bl false)))) sNil))))))
  (sRet (eOp opEq (eCall fLenA (aCons (eFnM F_partitions [] (aCons (eTup (aCons (eC (.p (.str [97]))) (aCons (eC (.p (.str [98]))) (aCons (eC (.p (.str [99]))) (aCons (eC (.p (.str [100]))) (aCons (eC (.p (.str [101]))) (aCons (eC (.p (.str [102]))) aNil))))))) aNil)) aNil)) (eC (.p (.int 203))))))
def F_law : List EV → EH → Y.R EV := fnF 7 b_law
/-! ### derivations -/
section
variable {P : Program} {w : World} {K : PySem.W.Frag} {CA : Nat → Addr} {mg : Str → Option Value} {base : Heap}
structure Txt (w : World) (K : PySem.W.Frag) (CA : Nat → Addr) (mg : Str → Option Value) : Prop where
  z_len : mg "len" = none
  z_max : mg "max" = none
  z_range : mg "range" = none
  z_tuple : mg "tuple" = none
  z_zip : mg "zip" = none
  z_sorted : mg "sorted" = none
  z_abs : mg "abs" = none
  z_int : mg "int" = none
  z_min : mg "min" = none
  z_set : mg "set" = none
  z_isinstance : mg "isinstance" = none
  z_list : mg "list" = none
  z_enumerate : mg "enumerate" = none
  cb : Clb (Gd K CA)
abbrev nm__law_longer : List Str := ["_law_found", "_law_longer_here", "_law_marks_here", "_law_mark"]
theorem sc__law_longer : FnScope nm__law_longer ["_law_found"] (defScope s__law_longer) := ⟨rfl, rfl, rfl, by decide +kernel, rfl, by decide +kernel, by decide +kernel⟩
theorem ok__law_longer {f : Addr} {fd : FuncData} (F : Fun K "_law_longer" "_law_longer" s__law_longer f fd) (T : Txt w K CA mg) : FnOk P w K mg base (L2.CX P w) 3 f fd ["_law_found"] (spF (Gd K CA) 1 F__law_longer) := by
  have sc := sc__law_longer
  have hG : (Gd K CA).Zf = true := rfl
  refine fn_ok (G := Gd K CA) (k := 2) hG F sc rfl rfl fun cdv A outer s H E hr => ?_
  refine rss_cons ?_ ?_
  · refine' rs_set (i := 1) ?h36_0 ?h36_1 ?h36_2
    case h36_0 => exact hG
    case h36_1 => exact sc.nd
    refine re_new ?_
    exact rl_lst ra_nil
  refine rss_cons ?_ ?_
  · refine' rs_for ?h37_0 ?h37_1 ?h37_2 ?h37_3
    case h37_0 => exact (passes_of rfl)
    case h37_2 => exact (rg_name (i := 2) hG sc.nd)
    case h37_1 =>
      refine ri_val ?_
      exact re_var (i := 0)
    refine rss_one ?_
    refine' rs_for ?h38_0 ?h38_1 ?h38_2 ?h38_3
    case h38_0 => exact (passes_of rfl)
    case h38_2 => exact (rg_name (i := 3) hG sc.nd)
    case h38_1 =>
      refine' ri_range1 ?h39_0 ?h39_1 ?h39_2
      case h39_0 => exact rfl
      case h39_1 => exact T.z_range
      refine' ra_cons ?h40_0 ?h40_1
      case h40_1 => exact ra_nil
      refine' re_op ?h41_0 ?h41_1 ?h41_2
      case h41_0 => exact ro_add
      case h41_1 =>
        refine' re_callB ?h42_0 ?h42_1 ?h42_2
        case h42_1 => exact rc_max1
        case h42_0 => exact (hd_B T.z_max (by decide +kernel))
        refine' ra_cons ?h43_0 ?h43_1
        case h43_1 => exact ra_nil
        refine' re_op ?h44_0 ?h44_1 ?h44_2
        case h44_0 => exact ro_add
        case h44_1 =>
          exact re_var (i := 2)
        refine re_any ?_
        refine rl_lst ?_
        refine' ra_cons ?h45_0 ?h45_1
        case h45_1 => exact ra_nil
        refine' re_un ?h46_0 ?h46_1
        case h46_0 => exact ru_neg
        exact re_int
      exact re_int
    refine rss_one ?_
    refine rs_expr ?_
    refine re_append ?_ ?_
    · exact re_var (i := 1)
    refine' re_op ?h47_0 ?h47_1 ?h47_2
    case h47_0 => exact ro_add
    case h47_1 =>
      exact re_var (i := 2)
    refine re_any ?_
    refine rl_lst ?_
    refine' ra_cons ?h48_0 ?h48_1
    case h48_1 => exact ra_nil
    exact re_var (i := 3)
  refine rss_one ?_
  refine rs_ret ?_
  exact re_var (i := 1)
abbrev nm__law_marks : List Str := ["_law_many", "_law_found", "_law_turn"]
theorem sc__law_marks : FnScope nm__law_marks ["_law_many"] (defScope s__law_marks) := ⟨rfl, rfl, rfl, by decide +kernel, rfl, by decide +kernel, by decide +kernel⟩
theorem ok__law_marks {f : Addr} {fd : FuncData} (F : Fun K "_law_marks" "_law_marks" s__law_marks f fd) (T : Txt w K CA mg) (D__law_longer_0 : Dfn P w (Gd K CA) mg base 3 "_law_longer" 1 [] F__law_longer) : FnOk P w K mg base (L2.CX P w) 6 f fd ["_law_many"] (spF (Gd K CA) 1 F__law_marks) := by
  have sc := sc__law_marks
  have hG : (Gd K CA).Zf = true := rfl
  refine fn_ok (G := Gd K CA) (k := 5) hG F sc rfl rfl fun cdv A outer s H E hr => ?_
  refine rss_cons ?_ ?_
  · refine' rs_set (i := 1) ?h28_0 ?h28_1 ?h28_2
    case h28_0 => exact hG
    case h28_1 => exact sc.nd
    refine re_any ?_
    refine rl_lst ?_
    refine' ra_cons ?h29_0 ?h29_1
    case h29_1 => exact ra_nil
    refine re_any ?_
    exact rl_lst ra_nil
  refine rss_cons ?_ ?_
  · refine' rs_for ?h30_0 ?h30_1 ?h30_2 ?h30_3
    case h30_0 => exact (passes_of rfl)
    case h30_2 => exact (rg_name (i := 2) hG sc.nd)
    case h30_1 =>
      refine' ri_range1 ?h31_0 ?h31_1 ?h31_2
      case h31_0 => exact rfl
      case h31_1 => exact T.z_range
      refine' ra_cons ?h32_0 ?h32_1
      case h32_1 => exact ra_nil
      exact re_var (i := 0)
    refine rss_one ?_
    refine' rs_set (i := 1) ?h33_0 ?h33_1 ?h33_2
    case h33_0 => exact hG
    case h33_1 => exact sc.nd
    refine' re_fnM ?h34_0 ?h34_1 ?h34_2 ?h34_3 ?h34_4
    case h34_0 => exact D__law_longer_0
    case h34_1 => exact hr
    case h34_4 => exact (al_cons al_nil)
    case h34_2 => exact (by decide)
    refine' ra_cons ?h35_0 ?h35_1
    case h35_1 => exact ra_nil
    exact re_var (i := 1)
  refine rss_one ?_
  refine rs_ret ?_
  exact re_var (i := 1)
abbrev nm__law_due : List Str := ["_law_names", "_law_found", "_law_marks_here", "_law_parts", "_law_mark", "_law_many", "_law_name", "_law_one"]
theorem sc__law_due : FnScope nm__law_due ["_law_names"] (defScope s__law_due) := ⟨rfl, rfl, rfl, by decide +kernel, rfl, by decide +kernel, by decide +kernel⟩
theorem ok__law_due {f : Addr} {fd : FuncData} (F : Fun K "_law_due" "_law_due" s__law_due f fd) (T : Txt w K CA mg) (D__law_marks_0 : Dfn P w (Gd K CA) mg base 6 "_law_marks" 1 [] F__law_marks) : FnOk P w K mg base (L2.CX P w) 9 f fd ["_law_names"] (spF (Gd K CA) 1 F__law_due) := by
  have sc := sc__law_due
  have hG : (Gd K CA).Zf = true := rfl
  refine fn_ok (G := Gd K CA) (k := 8) hG F sc rfl rfl fun cdv A outer s H E hr => ?_
  refine rss_cons ?_ ?_
  · refine' rs_set (i := 1) ?h1_0 ?h1_1 ?h1_2
    case h1_0 => exact hG
    case h1_1 => exact sc.nd
    refine re_new ?_
    exact rl_lst ra_nil
  refine rss_cons ?_ ?_
  · refine' rs_for ?h2_0 ?h2_1 ?h2_2 ?h2_3
    case h2_0 => exact (passes_of rfl)
    case h2_2 => exact (rg_name (i := 2) hG sc.nd)
    case h2_1 =>
      refine ri_val ?_
      refine' re_fnM ?h3_0 ?h3_1 ?h3_2 ?h3_3 ?h3_4
      case h3_0 => exact D__law_marks_0
      case h3_1 => exact hr
      case h3_4 => exact (al_cons al_nil)
      case h3_2 => exact (by decide)
      refine' ra_cons ?h4_0 ?h4_1
      case h4_1 => exact ra_nil
      refine' re_callB ?h5_0 ?h5_1 ?h5_2
      case h5_0 => exact (hd_B T.z_len PySem.boot_len)
      case h5_1 => exact rc_len
      refine' ra_cons ?h6_0 ?h6_1
      case h6_1 => exact ra_nil
      exact re_var (i := 0)
    refine rss_cons ?_ ?_
    · refine' rs_set (i := 3) ?h7_0 ?h7_1 ?h7_2
      case h7_0 => exact hG
      case h7_1 => exact sc.nd
      refine re_new ?_
      exact rl_lst ra_nil
    refine rss_cons ?_ ?_
    · refine' rs_for ?h8_0 ?h8_1 ?h8_2 ?h8_3
      case h8_0 => exact (passes_of rfl)
      case h8_2 => exact (rg_name (i := 4) hG sc.nd)
      case h8_1 =>
        refine' ri_range1 ?h9_0 ?h9_1 ?h9_2
        case h9_0 => exact rfl
        case h9_1 => exact T.z_range
        refine' ra_cons ?h10_0 ?h10_1
        case h10_1 => exact ra_nil
        refine' re_op ?h11_0 ?h11_1 ?h11_2
        case h11_0 => exact ro_add
        case h11_1 =>
          refine' re_callB ?h12_0 ?h12_1 ?h12_2
          case h12_1 => exact rc_max1
          case h12_0 => exact (hd_B T.z_max (by decide +kernel))
          refine' ra_cons ?h13_0 ?h13_1
          case h13_1 => exact ra_nil
          refine' re_op ?h14_0 ?h14_1 ?h14_2
          case h14_0 => exact ro_add
          case h14_1 =>
            exact re_var (i := 2)
          refine re_any ?_
          refine rl_lst ?_
          refine' ra_cons ?h15_0 ?h15_1
          case h15_1 => exact ra_nil
          refine' re_un ?h16_0 ?h16_1
          case h16_0 => exact ru_neg
          exact re_int
        exact re_int
      refine rss_one ?_
      refine rs_expr ?_
      refine re_append ?_ ?_
      · exact re_var (i := 3)
      refine' re_seqL ?h17_0 ?h17_1 ?h17_2
      case h17_1 => exact rcs_tup1
      case h17_0 => exact (hd_T T.z_tuple (by decide +kernel))
      refine' rl_lc (own := [("_law_name", 6), ("_law_one", 7)]) ?h18_0 ?h18_1 ?h18_2 ?h18_3 ?h18_4 ?h18_5 ?h18_6
      case h18_0 => exact hG
      case h18_1 => exact sc.nd
      case h18_4 => exact (fun _ _ _ _ _ => (rg_tup (rgs_cons (rg_name (i := 6) hG sc.nd) (rgs_cons (rg_name (i := 7) hG sc.nd) rgs_nil))))
      case h18_3 => exact (blkOk_by (N := nm__law_due) (sc := defScope s__law_due) (by decide +kernel))
      case h18_2 =>
        refine' ri_zip ?h19_0 ?h19_1
        case h19_0 => exact T.z_zip
        refine rd_val ?_ ?_
        · exact re_var (i := 0)
        refine' rd_val ?h20_0 ?h20_1
        case h20_1 => exact rd_nil
        exact re_var (i := 2)
      case h18_5 =>
        intro _ _ _ _ _
        refine rts_one ?_
        refine' rt_cmp ?h21_0 ?h21_1 ?h21_2
        case h21_0 => exact (ro_eq hr.units)
        case h21_1 =>
          exact re_var (i := 7)
        exact re_var (i := 4)
      intro _ _ _ _ _
      exact re_var (i := 6)
    refine rss_one ?_
    refine rs_expr ?_
    refine re_append ?_ ?_
    · exact re_var (i := 1)
    refine re_tup ?_
    refine ra_cons ?_ ?_
    · refine' re_callB ?h22_0 ?h22_1 ?h22_2
      case h22_0 => exact (hd_B T.z_len PySem.boot_len)
      case h22_1 => exact rc_len
      refine' ra_cons ?h23_0 ?h23_1
      case h23_1 => exact ra_nil
      exact re_var (i := 3)
    refine' ra_cons ?h24_0 ?h24_1
    case h24_1 => exact ra_nil
    refine' re_seq ?h25_0 ?h25_1 ?h25_2
    case h25_1 => exact rcs_tup1
    case h25_0 => exact (hd_T T.z_tuple (by decide +kernel))
    exact re_var (i := 3)
  refine rss_one ?_
  refine rs_ret ?_
  refine re_any ?_
  refine' rl_lc (own := [("_law_many", 5), ("_law_parts", 3)]) ?h26_0 ?h26_1 ?h26_2 ?h26_3 ?h26_4 ?h26_5 ?h26_6
  case h26_0 => exact hG
  case h26_1 => exact sc.nd
  case h26_4 => exact (fun _ _ _ _ _ => (rg_tup (rgs_cons (rg_name (i := 5) hG sc.nd) (rgs_cons (rg_name (i := 3) hG sc.nd) rgs_nil))))
  case h26_3 => exact (blkOk_by (N := nm__law_due) (sc := defScope s__law_due) (by decide +kernel))
  case h26_2 =>
    refine ri_lst ?_
    refine' rl_sort ?h27_0 ?h27_1 ?h27_2
    case h27_1 => exact hr
    case h27_0 => exact (hd_B T.z_sorted (by decide +kernel))
    exact re_var (i := 1)
  case h26_5 =>
    intro _ _ _ _ _
    exact rts_nil
  intro _ _ _ _ _
  exact re_var (i := 3)
abbrev nm__law_pool : List Str := ["_law_script", "_law_k", "_law_cell", "_law_great", "_law_seed"]
theorem sc__law_pool : FnScope nm__law_pool ["_law_script", "_law_k"] (defScope s__law_pool) := ⟨rfl, rfl, rfl, by decide +kernel, rfl, by decide +kernel, by decide +kernel⟩
theorem ok__law_pool {f : Addr} {fd : FuncData} (F : Fun K "_law_pool" "_law_pool" s__law_pool f fd) (T : Txt w K CA mg) : FnOk P w K mg base (L2.CX P w) 3 f fd ["_law_script", "_law_k"] (spF (Gd K CA) 2 F__law_pool) := by
  have sc := sc__law_pool
  have hG : (Gd K CA).Zf = true := rfl
  refine fn_ok (G := Gd K CA) (k := 2) hG F sc rfl rfl fun cdv A outer s H E hr => ?_
  refine rss_cons ?_ ?_
  · refine' rs_set (i := 2) ?h49_0 ?h49_1 ?h49_2
    case h49_0 => exact hG
    case h49_1 => exact sc.nd
    exact re_int
  refine rss_cons ?_ ?_
  · refine' rs_if ?h50_0 ?h50_1 ?h50_2
    case h50_2 => exact rss_nil
    case h50_0 =>
      refine' rt_cmp ?h51_0 ?h51_1 ?h51_2
      case h51_0 => exact ro_lt
      case h51_1 =>
        exact re_var (i := 1)
      refine' re_callB ?h52_0 ?h52_1 ?h52_2
      case h52_0 => exact (hd_B T.z_len PySem.boot_len)
      case h52_1 => exact rc_len
      refine' ra_cons ?h53_0 ?h53_1
      case h53_1 => exact ra_nil
      exact re_var (i := 0)
    refine rss_one ?_
    refine' rs_set (i := 2) ?h54_0 ?h54_1 ?h54_2
    case h54_0 => exact hG
    case h54_1 => exact sc.nd
    refine' re_sub ?h55_0 ?h55_1 ?h55_2
    case h55_0 => exact hr
    case h55_1 =>
      exact re_var (i := 0)
    exact re_var (i := 1)
  refine rss_cons ?_ ?_
  · refine' rs_set (i := 3) ?h56_0 ?h56_1 ?h56_2
    case h56_0 => exact hG
    case h56_1 => exact sc.nd
    refine' re_callB ?h57_0 ?h57_1 ?h57_2
    case h57_1 => exact rc_abs
    case h57_0 => exact (hd_B T.z_abs (by decide +kernel))
    refine' ra_cons ?h58_0 ?h58_1
    case h58_1 => exact ra_nil
    exact re_var (i := 2)
  refine rss_cons ?_ ?_
  · refine' rs_set (i := 4) ?h59_0 ?h59_1 ?h59_2
    case h59_0 => exact hG
    case h59_1 => exact sc.nd
    refine' re_op ?h60_0 ?h60_1 ?h60_2
    case h60_0 => exact ro_mod
    case h60_1 =>
      refine' re_op ?h61_0 ?h61_1 ?h61_2
      case h61_0 => exact ro_pow
      case h61_1 =>
        refine' re_op ?h62_0 ?h62_1 ?h62_2
        case h62_0 => exact ro_add
        case h62_1 =>
          refine' re_op ?h63_0 ?h63_1 ?h63_2
          case h63_0 => exact ro_add
          case h63_1 =>
            refine' re_op ?h64_0 ?h64_1 ?h64_2
            case h64_0 => exact ro_add
            case h64_1 =>
              refine' re_op ?h65_0 ?h65_1 ?h65_2
              case h65_0 => exact ro_mod
              case h65_1 =>
                exact re_var (i := 2)
              exact re_int
            refine' re_op ?h66_0 ?h66_1 ?h66_2
            case h66_0 => exact ro_mul
            case h66_1 =>
              refine' re_op ?h67_0 ?h67_1 ?h67_2
              case h67_0 => exact ro_mul
              case h67_1 =>
                exact re_int
              exact re_var (i := 1)
            exact re_var (i := 1)
          refine' re_op ?h68_0 ?h68_1 ?h68_2
          case h68_0 => exact ro_mul
          case h68_1 =>
            exact re_int
          exact re_var (i := 1)
        exact re_int
      exact re_int
    exact re_int
  refine rss_one ?_
  refine rs_ret ?_
  refine re_new ?_
  refine rl_lst ?_
  refine ra_cons ?_ ?_
  · refine' re_op ?h69_0 ?h69_1 ?h69_2
    case h69_0 => exact ro_mul
    case h69_1 =>
      exact re_var (i := 3)
    refine' re_callB ?h70_0 ?h70_1 ?h70_2
    case h70_1 => exact (rc_intS rc_int1)
    case h70_0 => exact (hd_T T.z_int (by decide +kernel))
    refine' ra_cons ?h71_0 ?h71_1
    case h71_1 => exact ra_nil
    refine' re_cmp ?h72_0 ?h72_1 ?h72_2
    case h72_0 => exact ro_ge
    case h72_1 =>
      exact re_var (i := 3)
    refine' re_op ?h73_0 ?h73_1 ?h73_2
    case h73_0 => exact ro_pow
    case h73_1 =>
      exact re_int
    exact re_int
  refine' ra_cons ?h74_0 ?h74_1
  case h74_1 => exact ra_nil
  exact re_var (i := 4)
abbrev nm__law_take : List Str := ["_law_pool_here", "_law_many", "_law_found"]
theorem sc__law_take : FnScope nm__law_take ["_law_pool_here", "_law_many"] (defScope s__law_take) := ⟨rfl, rfl, rfl, by decide +kernel, rfl, by decide +kernel, by decide +kernel⟩
theorem ok__law_take {f : Addr} {fd : FuncData} (F : Fun K "_law_take" "_law_take" s__law_take f fd) (T : Txt w K CA mg) : FnOk P w K mg base (L2.CX P w) 3 f fd ["_law_pool_here", "_law_many"] (spF (Gd K CA) 2 F__law_take) := by
  have sc := sc__law_take
  have hG : (Gd K CA).Zf = true := rfl
  refine fn_ok (G := Gd K CA) (k := 2) hG F sc rfl rfl fun cdv A outer s H E hr => ?_
  refine rss_cons ?_ ?_
  · refine' rs_if ?h75_0 ?h75_1 ?h75_2
    case h75_2 => exact rss_nil
    case h75_0 =>
      refine' rt_cmp ?h76_0 ?h76_1 ?h76_2
      case h76_0 => exact ro_gt
      case h76_1 =>
        refine' re_sub ?h77_0 ?h77_1 ?h77_2
        case h77_0 => exact hr
        case h77_1 =>
          exact re_var (i := 0)
        exact re_int
      exact re_int
    refine rss_cons ?_ ?_
    · refine' rs_set (i := 2) ?h78_0 ?h78_1 ?h78_2
      case h78_0 => exact hG
      case h78_1 => exact sc.nd
      refine' re_op ?h79_0 ?h79_1 ?h79_2
      case h79_0 => exact ro_mod
      case h79_1 =>
        refine' re_sub ?h80_0 ?h80_1 ?h80_2
        case h80_0 => exact hr
        case h80_1 =>
          exact re_var (i := 0)
        exact re_int
      exact re_var (i := 1)
    refine rss_cons ?_ ?_
    · refine' rs_sub ?h81_0 ?h81_1 ?h81_2 ?h81_3
      case h81_0 => exact hr
      case h81_1 =>
        refine' re_op ?h82_0 ?h82_1 ?h82_2
        case h82_0 => exact ro_fdiv
        case h82_1 =>
          refine' re_sub ?h83_0 ?h83_1 ?h83_2
          case h83_0 => exact hr
          case h83_1 =>
            exact re_var (i := 0)
          exact re_int
        exact re_var (i := 1)
      case h81_2 =>
        exact re_var (i := 0)
      exact re_int
    refine rss_one ?_
    refine rs_ret ?_
    exact re_var (i := 2)
  refine rss_cons ?_ ?_
  · refine' rs_sub ?h84_0 ?h84_1 ?h84_2 ?h84_3
    case h84_0 => exact hr
    case h84_1 =>
      refine' re_op ?h85_0 ?h85_1 ?h85_2
      case h85_0 => exact ro_mod
      case h85_1 =>
        refine' re_op ?h86_0 ?h86_1 ?h86_2
        case h86_0 => exact ro_add
        case h86_1 =>
          refine' re_op ?h87_0 ?h87_1 ?h87_2
          case h87_0 => exact ro_mul
          case h87_1 =>
            refine' re_sub ?h88_0 ?h88_1 ?h88_2
            case h88_0 => exact hr
            case h88_1 =>
              exact re_var (i := 0)
            exact re_int
          exact re_int
        exact re_int
      exact re_int
    case h84_2 =>
      exact re_var (i := 0)
    exact re_int
  refine rss_one ?_
  refine rs_ret ?_
  refine' re_op ?h89_0 ?h89_1 ?h89_2
  case h89_0 => exact ro_mod
  case h89_1 =>
    refine' re_op ?h90_0 ?h90_1 ?h90_2
    case h90_0 => exact ro_fdiv
    case h90_1 =>
      refine' re_op ?h91_0 ?h91_1 ?h91_2
      case h91_0 => exact ro_mod
      case h91_1 =>
        refine' re_op ?h92_0 ?h92_1 ?h92_2
        case h92_0 => exact ro_mul
        case h92_1 =>
          refine' re_sub ?h93_0 ?h93_1 ?h93_2
          case h93_0 => exact hr
          case h93_1 =>
            exact re_var (i := 0)
          exact re_int
        refine' re_sub ?h94_0 ?h94_1 ?h94_2
        case h94_0 => exact hr
        case h94_1 =>
          exact re_var (i := 0)
        exact re_int
      exact re_int
    exact re_int
  exact re_var (i := 1)
abbrev nm_partitions : List Str := ["names", "found", "name", "longer", "parts", "at", "part", "many"]
theorem sc_partitions : FnScope nm_partitions ["names"] (defScope s_partitions) := ⟨rfl, rfl, rfl, by decide +kernel, rfl, by decide +kernel, by decide +kernel⟩
theorem ok_partitions {f : Addr} {fd : FuncData} (F : Fun K "partitions" "partitions" s_partitions f fd) (T : Txt w K CA mg) : FnOk P w K mg base (L2.CX P w) 3 f fd ["names"] (spF (Gd K CA) 1 F_partitions) := by
  have sc := sc_partitions
  have hG : (Gd K CA).Zf = true := rfl
  refine fn_ok (G := Gd K CA) (k := 2) hG F sc rfl rfl fun cdv A outer s H E hr => ?_
  refine rss_cons ?_ ?_
  · refine' rs_set (i := 1) ?h134_0 ?h134_1 ?h134_2
    case h134_0 => exact hG
    case h134_1 => exact sc.nd
    refine re_any ?_
    refine rl_lst ?_
    refine' ra_cons ?h135_0 ?h135_1
    case h135_1 => exact ra_nil
    exact re_tup ra_nil
  refine rss_cons ?_ ?_
  · refine' rs_for ?h136_0 ?h136_1 ?h136_2 ?h136_3
    case h136_0 => exact (passes_of rfl)
    case h136_2 => exact (rg_name (i := 2) hG sc.nd)
    case h136_1 =>
      refine ri_val ?_
      exact re_var (i := 0)
    refine rss_cons ?_ ?_
    · refine' rs_set (i := 3) ?h137_0 ?h137_1 ?h137_2
      case h137_0 => exact hG
      case h137_1 => exact sc.nd
      refine re_new ?_
      exact rl_lst ra_nil
    refine rss_cons ?_ ?_
    · refine' rs_for ?h138_0 ?h138_1 ?h138_2 ?h138_3
      case h138_0 => exact (passes_of rfl)
      case h138_2 => exact (rg_name (i := 4) hG sc.nd)
      case h138_1 =>
        refine ri_lst ?_
        refine' rl_seq ?h139_0 ?h139_1 ?h139_2
        case h139_0 => exact (hd_T T.z_list boot_list)
        case h139_1 => exact rcl_list
        exact re_var (i := 1)
      refine rss_cons ?_ ?_
      · refine rs_expr ?_
        refine re_append ?_ ?_
        · exact re_var (i := 3)
        refine re_tup ?_
        refine ra_star ?_ ?_
        · exact re_var (i := 4)
        refine' ra_cons ?h140_0 ?h140_1
        case h140_1 => exact ra_nil
        refine re_tup ?_
        refine' ra_cons ?h141_0 ?h141_1
        case h141_1 => exact ra_nil
        exact re_var (i := 2)
      refine rss_one ?_
      refine' rs_for ?h142_0 ?h142_1 ?h142_2 ?h142_3
      case h142_0 => exact (passes_of rfl)
      case h142_2 => exact (rg_tup (rgs_cons (rg_name (i := 5) hG sc.nd) (rgs_cons (rg_name (i := 6) hG sc.nd) rgs_nil)))
      case h142_1 =>
        refine' ri_enum ?h143_0 ?h143_1
        case h143_0 => exact T.z_enumerate
        refine' rd_lst ?h144_0 ?h144_1
        case h144_1 => exact rd_nil
        refine' rl_seq ?h145_0 ?h145_1 ?h145_2
        case h145_0 => exact (hd_T T.z_list boot_list)
        case h145_1 => exact rcl_list
        exact re_var (i := 4)
      refine rss_one ?_
      refine rs_expr ?_
      refine re_append ?_ ?_
      · exact re_var (i := 3)
      refine re_tup ?_
      refine ra_star ?_ ?_
      · refine' re_sl ?h146_0 ?h146_1 ?h146_2
        case h146_1 => exact rp_none
        case h146_0 =>
          exact re_var (i := 4)
        refine rp_some ?_
        exact re_var (i := 5)
      refine ra_cons ?_ ?_
      · refine re_tup ?_
        refine ra_star ?_ ?_
        · exact re_var (i := 6)
        refine' ra_cons ?h147_0 ?h147_1
        case h147_1 => exact ra_nil
        exact re_var (i := 2)
      refine' ra_star ?h148_0 ?h148_1
      case h148_1 => exact ra_nil
      refine' re_sl ?h149_0 ?h149_1 ?h149_2
      case h149_2 => exact rp_none
      case h149_0 =>
        exact re_var (i := 4)
      refine rp_some ?_
      refine' re_op ?h150_0 ?h150_1 ?h150_2
      case h150_0 => exact ro_add
      case h150_1 =>
        exact re_var (i := 5)
      exact re_int
    refine rss_one ?_
    refine' rs_set (i := 1) ?h151_0 ?h151_1 ?h151_2
    case h151_0 => exact hG
    case h151_1 => exact sc.nd
    exact re_var (i := 3)
  refine rss_one ?_
  refine rs_ret ?_
  refine re_any ?_
  refine' rl_lc (own := [("many", 7), ("parts", 4)]) ?h152_0 ?h152_1 ?h152_2 ?h152_3 ?h152_4 ?h152_5 ?h152_6
  case h152_0 => exact hG
  case h152_1 => exact sc.nd
  case h152_4 => exact (fun _ _ _ _ _ => (rg_tup (rgs_cons (rg_name (i := 7) hG sc.nd) (rgs_cons (rg_name (i := 4) hG sc.nd) rgs_nil))))
  case h152_3 => exact (blkOk_by (N := nm_partitions) (sc := defScope s_partitions) (by decide +kernel))
  case h152_2 =>
    refine ri_lst ?_
    refine' rl_sortL ?h153_0 ?h153_1 ?h153_2
    case h153_1 => exact hr
    case h153_0 => exact (hd_B T.z_sorted (by decide +kernel))
    refine' rl_lc (own := [("parts", 4)]) ?h154_0 ?h154_1 ?h154_2 ?h154_3 ?h154_4 ?h154_5 ?h154_6
    case h154_0 => exact hG
    case h154_1 => exact sc.nd
    case h154_4 => exact (fun _ _ _ _ _ => (rg_name (i := 4) hG sc.nd))
    case h154_3 => exact (blkOk_by (N := nm_partitions) (sc := defScope s_partitions) (by decide +kernel))
    case h154_2 =>
      refine ri_val ?_
      exact re_var (i := 1)
    case h154_5 =>
      intro _ _ _ _ _
      exact rts_nil
    intro _ _ _ _ _
    refine re_tup ?_
    refine ra_cons ?_ ?_
    · refine' re_callB ?h155_0 ?h155_1 ?h155_2
      case h155_0 => exact (hd_B T.z_len PySem.boot_len)
      case h155_1 => exact rc_len
      refine' ra_cons ?h156_0 ?h156_1
      case h156_1 => exact ra_nil
      exact re_var (i := 4)
    refine' ra_cons ?h157_0 ?h157_1
    case h157_1 => exact ra_nil
    exact re_var (i := 4)
  case h152_5 =>
    intro _ _ _ _ _
    exact rts_nil
  intro _ _ _ _ _
  exact re_var (i := 4)
abbrev nm_law : List Str := ["_law_script", "_law_k", "_law_pool_here", "_law_some", "_law_names", "_law_told", "_law_one"]
theorem sc_law : FnScope nm_law ["_law_script"] (defScope s_law) := ⟨rfl, rfl, rfl, by decide +kernel, rfl, by decide +kernel, by decide +kernel⟩
theorem ok_law {f : Addr} {fd : FuncData} (F : Fun K "law" "law" s_law f fd) (T : Txt w K CA mg) (D__law_due_0 : Dfn P w (Gd K CA) mg base 9 "_law_due" 1 [] F__law_due) (D__law_pool_0 : Dfn P w (Gd K CA) mg base 3 "_law_pool" 2 [] F__law_pool) (D__law_take_0 : Dfn P w (Gd K CA) mg base 3 "_law_take" 2 [] F__law_take) (D_partitions_0 : Dfn P w (Gd K CA) mg base 3 "partitions" 1 [] F_partitions) : FnOk P w K mg base (L2.CX P w) 12 f fd ["_law_script"] (spF (Gd K CA) 1 F_law) := by
  have sc := sc_law
  have hG : (Gd K CA).Zf = true := rfl
  refine fn_ok (G := Gd K CA) (k := 11) hG F sc rfl rfl fun cdv A outer s H E hr => ?_
  refine rss_cons ?_ ?_
  · refine' rs_for ?h95_0 ?h95_1 ?h95_2 ?h95_3
    case h95_0 => exact (passes_of rfl)
    case h95_2 => exact (rg_name (i := 1) hG sc.nd)
    case h95_1 =>
      refine' ri_range1 ?h96_0 ?h96_1 ?h96_2
      case h96_0 => exact rfl
      case h96_1 => exact T.z_range
      refine' ra_cons ?h97_0 ?h97_1
      case h97_1 => exact ra_nil
      refine' re_callB ?h98_0 ?h98_1 ?h98_2
      case h98_1 => exact rc_max2
      case h98_0 => exact (hd_B T.z_max (by decide +kernel))
      refine ra_cons ?_ ?_
      · exact re_int
      refine' ra_cons ?h99_0 ?h99_1
      case h99_1 => exact ra_nil
      refine' re_callB ?h100_0 ?h100_1 ?h100_2
      case h100_1 => exact rc_min2
      case h100_0 => exact (hd_B T.z_min (by decide +kernel))
      refine ra_cons ?_ ?_
      · refine' re_callB ?h101_0 ?h101_1 ?h101_2
        case h101_0 => exact (hd_B T.z_len PySem.boot_len)
        case h101_1 => exact rc_len
        refine' ra_cons ?h102_0 ?h102_1
        case h102_1 => exact ra_nil
        exact re_var (i := 0)
      refine' ra_cons ?h103_0 ?h103_1
      case h103_1 => exact ra_nil
      exact re_int
    refine rss_cons ?_ ?_
    · refine' rs_set (i := 2) ?h104_0 ?h104_1 ?h104_2
      case h104_0 => exact hG
      case h104_1 => exact sc.nd
      refine' re_fnI ?h105_0 ?h105_1 ?h105_2 ?h105_3 ?h105_4
      case h105_0 => exact D__law_pool_0
      case h105_1 => exact hr
      case h105_4 => exact (al_cons (al_cons al_nil))
      case h105_2 => exact (by decide)
      refine ra_cons ?_ ?_
      · exact re_var (i := 0)
      refine' ra_cons ?h106_0 ?h106_1
      case h106_1 => exact ra_nil
      exact re_var (i := 1)
    refine rss_cons ?_ ?_
    · refine' rs_set (i := 3) ?h107_0 ?h107_1 ?h107_2
      case h107_0 => exact hG
      case h107_1 => exact sc.nd
      refine re_any ?_
      refine rl_lst ?_
      refine ra_cons ?_ ?_
      · exact re_strA
      refine ra_cons ?_ ?_
      · exact re_strA
      refine ra_cons ?_ ?_
      · exact re_strA
      refine ra_cons ?_ ?_
      · exact re_strA
      refine ra_cons ?_ ?_
      · exact re_strA
      refine ra_cons ?_ ?_
      · exact re_strA
      refine ra_cons ?_ ?_
      · exact re_strA
      refine' ra_cons ?h108_0 ?h108_1
      case h108_1 => exact ra_nil
      exact re_strA
    refine rss_cons ?_ ?_
    · refine' rs_set (i := 4) ?h109_0 ?h109_1 ?h109_2
      case h109_0 => exact hG
      case h109_1 => exact sc.nd
      refine' re_seqL ?h110_0 ?h110_1 ?h110_2
      case h110_1 => exact rcs_tup1
      case h110_0 => exact (hd_T T.z_tuple (by decide +kernel))
      refine' rl_srtSetL ?h111_0 ?h111_1 ?h111_2
      case h111_0 => exact T.z_sorted
      case h111_1 => exact T.z_set
      refine' rl_lc (own := [("_law_one", 6)]) ?h112_0 ?h112_1 ?h112_2 ?h112_3 ?h112_4 ?h112_5 ?h112_6
      case h112_0 => exact hG
      case h112_1 => exact sc.nd
      case h112_4 => exact (fun _ _ _ _ _ => (rg_name (i := 6) hG sc.nd))
      case h112_3 => exact (blkOk_by (N := nm_law) (sc := defScope s_law) (by decide +kernel))
      case h112_2 =>
        refine' ri_range1 ?h113_0 ?h113_1 ?h113_2
        case h113_0 => exact rfl
        case h113_1 => exact T.z_range
        refine' ra_cons ?h114_0 ?h114_1
        case h114_1 => exact ra_nil
        refine' re_fnP ?h115_0 ?h115_1 ?h115_2 ?h115_3 ?h115_4
        case h115_0 => exact D__law_take_0
        case h115_1 => exact hr
        case h115_4 => exact (al_cons (al_cons al_nil))
        case h115_2 => exact (by decide)
        refine ra_cons ?_ ?_
        · exact re_var (i := 2)
        refine' ra_cons ?h116_0 ?h116_1
        case h116_1 => exact ra_nil
        exact re_int
      case h112_5 =>
        intro _ _ _ _ _
        exact rts_nil
      intro _ _ _ _ _
      refine' re_sub ?h117_0 ?h117_1 ?h117_2
      case h117_0 => exact hr
      case h117_1 =>
        exact re_var (i := 3)
      refine' re_fnP ?h118_0 ?h118_1 ?h118_2 ?h118_3 ?h118_4
      case h118_0 => exact D__law_take_0
      case h118_1 => exact hr
      case h118_4 => exact (al_cons (al_cons al_nil))
      case h118_2 => exact (by decide)
      refine ra_cons ?_ ?_
      · exact re_var (i := 2)
      refine' ra_cons ?h119_0 ?h119_1
      case h119_1 => exact ra_nil
      exact re_int
    refine rss_cons ?_ ?_
    · refine' rs_set (i := 5) ?h120_0 ?h120_1 ?h120_2
      case h120_0 => exact hG
      case h120_1 => exact sc.nd
      refine' re_fnM ?h121_0 ?h121_1 ?h121_2 ?h121_3 ?h121_4
      case h121_0 => exact D_partitions_0
      case h121_1 => exact hr
      case h121_4 => exact (al_cons al_nil)
      case h121_2 => exact (by decide)
      refine' ra_cons ?h122_0 ?h122_1
      case h122_1 => exact ra_nil
      exact re_var (i := 4)
    refine rss_one ?_
    refine' rs_if ?h123_0 ?h123_1 ?h123_2
    case h123_2 => exact rss_nil
    case h123_0 =>
      refine rt_w ?_
      refine rw_or ?_ ?_
      · refine' rt_cmp ?h124_0 ?h124_1 ?h124_2
        case h124_0 => exact (ro_ne hr.units)
        case h124_1 =>
          exact re_var (i := 5)
        refine' re_fnM ?h125_0 ?h125_1 ?h125_2 ?h125_3 ?h125_4
        case h125_0 => exact D__law_due_0
        case h125_1 => exact hr
        case h125_4 => exact (al_cons al_nil)
        case h125_2 => exact (by decide)
        refine' ra_cons ?h126_0 ?h126_1
        case h126_1 => exact ra_nil
        exact re_var (i := 4)
      refine rw_or1 ?_
      refine rt_not ?_
      refine rt_val ?_
      refine' re_isTy ?h127_0 ?h127_1 ?h127_2 ?h127_3
      case h127_1 => exact T.z_isinstance
      case h127_2 => exact T.z_list
      case h127_3 => exact (by decide +kernel)
      exact re_var (i := 5)
    refine rss_one ?_
    refine rs_ret ?_
    exact re_bl
  refine rss_one ?_
  refine rs_ret ?_
  refine' re_cmp ?h128_0 ?h128_1 ?h128_2
  case h128_0 => exact (ro_eq hr.units)
  case h128_1 =>
    refine' re_callB ?h129_0 ?h129_1 ?h129_2
    case h129_0 => exact (hd_B T.z_len PySem.boot_len)
    case h129_1 => exact rc_len
    refine' ra_cons ?h130_0 ?h130_1
    case h130_1 => exact ra_nil
    refine' re_fnM ?h131_0 ?h131_1 ?h131_2 ?h131_3 ?h131_4
    case h131_0 => exact D_partitions_0
    case h131_1 => exact hr
    case h131_4 => exact (al_cons al_nil)
    case h131_2 => exact (by decide)
    refine' ra_cons ?h132_0 ?h132_1
    case h132_1 => exact ra_nil
    refine re_tup ?_
    refine ra_cons ?_ ?_
    · exact re_strA
    refine ra_cons ?_ ?_
    · exact re_strA
    refine ra_cons ?_ ?_
    · exact re_strA
    refine ra_cons ?_ ?_
    · exact re_strA
    refine ra_cons ?_ ?_
    · exact re_strA
    refine' ra_cons ?h133_0 ?h133_1
    case h133_1 => exact ra_nil
    exact re_strA
  exact re_int
end
def nmc : List Str := (["FoldError", "BadText", "Piece", "Module", "Reading", "BadName", "BadModule", "BadValue", "UnknownName", "LimitExceeded", "NotLegal", "Noticed", "Scope", "Program", "Step"] : List Str) ++ (["Way", "Sight", "Likeness", "Folding", "Linked", "Image", "Loading", "Search", "Uses", "Smallest", "Stripped", "NotFunction", "Patch", "Fits", "NotSure"] : List Str) ++ (["Clash", "Anew", "Decision", "Link", "Kept", "Trial", "Bench", "BadJournal", "Names", "BadQuestion", "Reader", "Question", "Console"] : List Str)
def CAo (K : PySem.W.Frag) (i : Nat) : Addr := match PySem.W.nsIn K mainGlobals (nmc.getD i "") with
  | some (some (.ref a)) => a
  | _ => 0
abbrev Go (K : PySem.W.Frag) : Wd := Gd K (CAo K)
theorem fa_mem {c k : Nat} (h : fa c k = true) : k ∈ faL.getD c [] := by
  unfold fa at h
  obtain ⟨x, m, e⟩ := List.any_eq_true.mp h
  have := Nat.eq_of_beq_eq_true e
  subst this
  exact m
set_option maxHeartbeats 0 in
theorem all_mk {l : PySem.W.OpenLaw} {w : World} {K : PySem.W.Frag} {h : Heap} {mg : Str → Option Value} {fa : Addr} (X : K.In h) (N : h.Ns mainGlobals mg) (hfa : mg "law" = some (.ref fa))
    {f__law_longer f__law_marks f__law_due f__law_pool f__law_take f_partitions f_law : Addr} {oc__law_longer kv__law_longer dc__law_longer pm__law_longer co__law_longer ct__law_longer oc__law_marks kv__law_marks dc__law_marks pm__law_marks co__law_marks ct__law_marks oc__law_due kv__law_due dc__law_due pm__law_due co__law_due ct__law_due oc__law_pool kv__law_pool dc__law_pool pm__law_pool co__law_pool ct__law_pool oc__law_take kv__law_take dc__law_take pm__law_take co__law_take ct__law_take oc_partitions kv_partitions dc_partitions pm_partitions co_partitions ct_partitions oc_law kv_law dc_law pm_law co_law ct_law : Value} {od__law_longer an__law_longer od__law_marks an__law_marks od__law_due an__law_due od__law_pool an__law_pool od__law_take an__law_take od_partitions an_partitions od_law an_law : Option Addr} {sl__law_longer sl__law_marks sl__law_due sl__law_pool sl__law_take sl_partitions sl_law : Array (Option Value)}
    (z0 : PySem.W.nsIn K mainGlobals "len" = some none)
    (z1 : PySem.W.nsIn K mainGlobals "max" = some none)
    (z2 : PySem.W.nsIn K mainGlobals "range" = some none)
    (z3 : PySem.W.nsIn K mainGlobals "tuple" = some none)
    (z4 : PySem.W.nsIn K mainGlobals "zip" = some none)
    (z5 : PySem.W.nsIn K mainGlobals "sorted" = some none)
    (z6 : PySem.W.nsIn K mainGlobals "abs" = some none)
    (z7 : PySem.W.nsIn K mainGlobals "int" = some none)
    (z8 : PySem.W.nsIn K mainGlobals "min" = some none)
    (z9 : PySem.W.nsIn K mainGlobals "set" = some none)
    (z10 : PySem.W.nsIn K mainGlobals "isinstance" = some none)
    (z11 : PySem.W.nsIn K mainGlobals "list" = some none)
    (z12 : PySem.W.nsIn K mainGlobals "enumerate" = some none)
    (a__law_longer : PySem.W.nsIn K mainGlobals "_law_longer" = some (some (.ref f__law_longer)))
    (l__law_longer : K.lookup f__law_longer = some ⟨oc__law_longer, od__law_longer, .func (PySem.W.fnOf "_law_longer" "_law_longer" (defArgs s__law_longer) (defBody s__law_longer) (defScope s__law_longer) .none kv__law_longer dc__law_longer pm__law_longer an__law_longer co__law_longer ct__law_longer), sl__law_longer⟩)
    (c__law_longer : PySem.W.codeIn K co__law_longer "_law_longer" = true)
    (k__law_longer : PySem.W.keepIn K (.ref f__law_longer) = true)
    (a__law_marks : PySem.W.nsIn K mainGlobals "_law_marks" = some (some (.ref f__law_marks)))
    (l__law_marks : K.lookup f__law_marks = some ⟨oc__law_marks, od__law_marks, .func (PySem.W.fnOf "_law_marks" "_law_marks" (defArgs s__law_marks) (defBody s__law_marks) (defScope s__law_marks) .none kv__law_marks dc__law_marks pm__law_marks an__law_marks co__law_marks ct__law_marks), sl__law_marks⟩)
    (c__law_marks : PySem.W.codeIn K co__law_marks "_law_marks" = true)
    (k__law_marks : PySem.W.keepIn K (.ref f__law_marks) = true)
    (a__law_due : PySem.W.nsIn K mainGlobals "_law_due" = some (some (.ref f__law_due)))
    (l__law_due : K.lookup f__law_due = some ⟨oc__law_due, od__law_due, .func (PySem.W.fnOf "_law_due" "_law_due" (defArgs s__law_due) (defBody s__law_due) (defScope s__law_due) .none kv__law_due dc__law_due pm__law_due an__law_due co__law_due ct__law_due), sl__law_due⟩)
    (c__law_due : PySem.W.codeIn K co__law_due "_law_due" = true)
    (k__law_due : PySem.W.keepIn K (.ref f__law_due) = true)
    (a__law_pool : PySem.W.nsIn K mainGlobals "_law_pool" = some (some (.ref f__law_pool)))
    (l__law_pool : K.lookup f__law_pool = some ⟨oc__law_pool, od__law_pool, .func (PySem.W.fnOf "_law_pool" "_law_pool" (defArgs s__law_pool) (defBody s__law_pool) (defScope s__law_pool) .none kv__law_pool dc__law_pool pm__law_pool an__law_pool co__law_pool ct__law_pool), sl__law_pool⟩)
    (c__law_pool : PySem.W.codeIn K co__law_pool "_law_pool" = true)
    (k__law_pool : PySem.W.keepIn K (.ref f__law_pool) = true)
    (a__law_take : PySem.W.nsIn K mainGlobals "_law_take" = some (some (.ref f__law_take)))
    (l__law_take : K.lookup f__law_take = some ⟨oc__law_take, od__law_take, .func (PySem.W.fnOf "_law_take" "_law_take" (defArgs s__law_take) (defBody s__law_take) (defScope s__law_take) .none kv__law_take dc__law_take pm__law_take an__law_take co__law_take ct__law_take), sl__law_take⟩)
    (c__law_take : PySem.W.codeIn K co__law_take "_law_take" = true)
    (k__law_take : PySem.W.keepIn K (.ref f__law_take) = true)
    (a_partitions : PySem.W.nsIn K mainGlobals "partitions" = some (some (.ref f_partitions)))
    (l_partitions : K.lookup f_partitions = some ⟨oc_partitions, od_partitions, .func (PySem.W.fnOf "partitions" "partitions" (defArgs s_partitions) (defBody s_partitions) (defScope s_partitions) .none kv_partitions dc_partitions pm_partitions an_partitions co_partitions ct_partitions), sl_partitions⟩)
    (c_partitions : PySem.W.codeIn K co_partitions "partitions" = true)
    (k_partitions : PySem.W.keepIn K (.ref f_partitions) = true)
    (a_law : PySem.W.nsIn K mainGlobals "law" = some (some (.ref f_law)))
    (l_law : K.lookup f_law = some ⟨oc_law, od_law, .func (PySem.W.fnOf "law" "law" (defArgs s_law) (defBody s_law) (defScope s_law) .none kv_law dc_law pm_law an_law co_law ct_law), sl_law⟩)
    (c_law : PySem.W.codeIn K co_law "law" = true)
    (k_law : PySem.W.keepIn K (.ref f_law) = true)
    : ∃ fd : FuncData, (∀ (s : Shared) (v : Value), BindsTo s fd ⟨[v], []⟩ [("_law_script", v)]) ∧ ∀ base : Heap, K.In base → base.Ns mainGlobals mg → FnOk l.prog w K mg base (L2.CX l.prog w) 12 fa fd ["_law_script"] (spF (Go K) 1 F_law) := by
  have e := hfa.symm.trans (PySem.W.mg_of X N a_law)
  cases e -- x
  have Tb : Clb (Go K) := by
    refine ⟨⟨fun c e _ => ?_, fun c k e h => ?_⟩, fun c ns e h => ?_⟩
    · exact match c, e with
      | 0, e => nomatch (show CK.exc = CK.ord from e)
      | 1, e => nomatch (show CK.exc = CK.ord from e)
      | 2, e => nomatch (show CK.exc = CK.ord from e)
      | 3, e => nomatch (show CK.exc = CK.ord from e)
      | 4, e => nomatch (show CK.exc = CK.ord from e)
      | 5, e => nomatch (show CK.exc = CK.ord from e)
      | 6, e => nomatch (show CK.exc = CK.ord from e)
      | 7, e => nomatch (show CK.exc = CK.ord from e)
      | 8, e => nomatch (show CK.exc = CK.ord from e)
      | 9, e => nomatch (show CK.exc = CK.ord from e)
      | 10, e => nomatch (show CK.exc = CK.ord from e)
      | 11, e => nomatch (show CK.exc = CK.ord from e)
      | 12, e => nomatch (show CK.exc = CK.ord from e)
      | 13, e => nomatch (show CK.exc = CK.ord from e)
      | 14, e => nomatch (show CK.exc = CK.ord from e)
      | 15, e => nomatch (show CK.exc = CK.ord from e)
      | 16, e => nomatch (show CK.exc = CK.ord from e)
      | 17, e => nomatch (show CK.exc = CK.ord from e)
      | 18, e => nomatch (show CK.exc = CK.ord from e)
      | 19, e => nomatch (show CK.exc = CK.ord from e)
      | 20, e => nomatch (show CK.exc = CK.ord from e)
      | 21, e => nomatch (show CK.exc = CK.ord from e)
      | 22, e => nomatch (show CK.exc = CK.ord from e)
      | 23, e => nomatch (show CK.exc = CK.ord from e)
      | 24, e => nomatch (show CK.exc = CK.ord from e)
      | 25, e => nomatch (show CK.exc = CK.ord from e)
      | 26, e => nomatch (show CK.exc = CK.ord from e)
      | 27, e => nomatch (show CK.exc = CK.ord from e)
      | 28, e => nomatch (show CK.exc = CK.ord from e)
      | 29, e => nomatch (show CK.exc = CK.ord from e)
      | 30, e => nomatch (show CK.exc = CK.ord from e)
      | 31, e => nomatch (show CK.exc = CK.ord from e)
      | 32, e => nomatch (show CK.exc = CK.ord from e)
      | 33, e => nomatch (show CK.exc = CK.ord from e)
      | 34, e => nomatch (show CK.exc = CK.ord from e)
      | 35, e => nomatch (show CK.exc = CK.ord from e)
      | 36, e => nomatch (show CK.exc = CK.ord from e)
      | 37, e => nomatch (show CK.exc = CK.ord from e)
      | 38, e => nomatch (show CK.exc = CK.ord from e)
      | 39, e => nomatch (show CK.exc = CK.ord from e)
      | 40, e => nomatch (show CK.exc = CK.ord from e)
      | 41, e => nomatch (show CK.exc = CK.ord from e)
      | 42, e => nomatch (show CK.exc = CK.ord from e)
      | n + 43, e => nomatch (show CK.exc = CK.ord from e)
    · exact match c, e, h with
      | 0, e, _ => nomatch (show CK.exc = CK.ord from e)
      | 1, e, _ => nomatch (show CK.exc = CK.ord from e)
      | 2, e, _ => nomatch (show CK.exc = CK.ord from e)
      | 3, e, _ => nomatch (show CK.exc = CK.ord from e)
      | 4, e, _ => nomatch (show CK.exc = CK.ord from e)
      | 5, e, _ => nomatch (show CK.exc = CK.ord from e)
      | 6, e, _ => nomatch (show CK.exc = CK.ord from e)
      | 7, e, _ => nomatch (show CK.exc = CK.ord from e)
      | 8, e, _ => nomatch (show CK.exc = CK.ord from e)
      | 9, e, _ => nomatch (show CK.exc = CK.ord from e)
      | 10, e, _ => nomatch (show CK.exc = CK.ord from e)
      | 11, e, _ => nomatch (show CK.exc = CK.ord from e)
      | 12, e, _ => nomatch (show CK.exc = CK.ord from e)
      | 13, e, _ => nomatch (show CK.exc = CK.ord from e)
      | 14, e, _ => nomatch (show CK.exc = CK.ord from e)
      | 15, e, _ => nomatch (show CK.exc = CK.ord from e)
      | 16, e, _ => nomatch (show CK.exc = CK.ord from e)
      | 17, e, _ => nomatch (show CK.exc = CK.ord from e)
      | 18, e, _ => nomatch (show CK.exc = CK.ord from e)
      | 19, e, _ => nomatch (show CK.exc = CK.ord from e)
      | 20, e, _ => nomatch (show CK.exc = CK.ord from e)
      | 21, e, _ => nomatch (show CK.exc = CK.ord from e)
      | 22, e, _ => nomatch (show CK.exc = CK.ord from e)
      | 23, e, _ => nomatch (show CK.exc = CK.ord from e)
      | 24, e, _ => nomatch (show CK.exc = CK.ord from e)
      | 25, e, _ => nomatch (show CK.exc = CK.ord from e)
      | 26, e, _ => nomatch (show CK.exc = CK.ord from e)
      | 27, e, _ => nomatch (show CK.exc = CK.ord from e)
      | 28, e, _ => nomatch (show CK.exc = CK.ord from e)
      | 29, e, _ => nomatch (show CK.exc = CK.ord from e)
      | 30, e, _ => nomatch (show CK.exc = CK.ord from e)
      | 31, e, _ => nomatch (show CK.exc = CK.ord from e)
      | 32, e, _ => nomatch (show CK.exc = CK.ord from e)
      | 33, e, _ => nomatch (show CK.exc = CK.ord from e)
      | 34, e, _ => nomatch (show CK.exc = CK.ord from e)
      | 35, e, _ => nomatch (show CK.exc = CK.ord from e)
      | 36, e, _ => nomatch (show CK.exc = CK.ord from e)
      | 37, e, _ => nomatch (show CK.exc = CK.ord from e)
      | 38, e, _ => nomatch (show CK.exc = CK.ord from e)
      | 39, e, _ => nomatch (show CK.exc = CK.ord from e)
      | 40, e, _ => nomatch (show CK.exc = CK.ord from e)
      | 41, e, _ => nomatch (show CK.exc = CK.ord from e)
      | 42, e, _ => nomatch (show CK.exc = CK.ord from e)
      | n + 43, e, _ => nomatch (show CK.exc = CK.ord from e)
    · exact match c, e, h with
      | 0, e, _ => nomatch (show CK.exc = CK.slt ns from e)
      | 1, e, _ => nomatch (show CK.exc = CK.slt ns from e)
      | 2, e, _ => nomatch (show CK.exc = CK.slt ns from e)
      | 3, e, _ => nomatch (show CK.exc = CK.slt ns from e)
      | 4, e, _ => nomatch (show CK.exc = CK.slt ns from e)
      | 5, e, _ => nomatch (show CK.exc = CK.slt ns from e)
      | 6, e, _ => nomatch (show CK.exc = CK.slt ns from e)
      | 7, e, _ => nomatch (show CK.exc = CK.slt ns from e)
      | 8, e, _ => nomatch (show CK.exc = CK.slt ns from e)
      | 9, e, _ => nomatch (show CK.exc = CK.slt ns from e)
      | 10, e, _ => nomatch (show CK.exc = CK.slt ns from e)
      | 11, e, _ => nomatch (show CK.exc = CK.slt ns from e)
      | 12, e, _ => nomatch (show CK.exc = CK.slt ns from e)
      | 13, e, _ => nomatch (show CK.exc = CK.slt ns from e)
      | 14, e, _ => nomatch (show CK.exc = CK.slt ns from e)
      | 15, e, _ => nomatch (show CK.exc = CK.slt ns from e)
      | 16, e, _ => nomatch (show CK.exc = CK.slt ns from e)
      | 17, e, _ => nomatch (show CK.exc = CK.slt ns from e)
      | 18, e, _ => nomatch (show CK.exc = CK.slt ns from e)
      | 19, e, _ => nomatch (show CK.exc = CK.slt ns from e)
      | 20, e, _ => nomatch (show CK.exc = CK.slt ns from e)
      | 21, e, _ => nomatch (show CK.exc = CK.slt ns from e)
      | 22, e, _ => nomatch (show CK.exc = CK.slt ns from e)
      | 23, e, _ => nomatch (show CK.exc = CK.slt ns from e)
      | 24, e, _ => nomatch (show CK.exc = CK.slt ns from e)
      | 25, e, _ => nomatch (show CK.exc = CK.slt ns from e)
      | 26, e, _ => nomatch (show CK.exc = CK.slt ns from e)
      | 27, e, _ => nomatch (show CK.exc = CK.slt ns from e)
      | 28, e, _ => nomatch (show CK.exc = CK.slt ns from e)
      | 29, e, _ => nomatch (show CK.exc = CK.slt ns from e)
      | 30, e, _ => nomatch (show CK.exc = CK.slt ns from e)
      | 31, e, _ => nomatch (show CK.exc = CK.slt ns from e)
      | 32, e, _ => nomatch (show CK.exc = CK.slt ns from e)
      | 33, e, _ => nomatch (show CK.exc = CK.slt ns from e)
      | 34, e, _ => nomatch (show CK.exc = CK.slt ns from e)
      | 35, e, _ => nomatch (show CK.exc = CK.slt ns from e)
      | 36, e, _ => nomatch (show CK.exc = CK.slt ns from e)
      | 37, e, _ => nomatch (show CK.exc = CK.slt ns from e)
      | 38, e, _ => nomatch (show CK.exc = CK.slt ns from e)
      | 39, e, _ => nomatch (show CK.exc = CK.slt ns from e)
      | 40, e, _ => nomatch (show CK.exc = CK.slt ns from e)
      | 41, e, _ => nomatch (show CK.exc = CK.slt ns from e)
      | 42, e, _ => nomatch (show CK.exc = CK.slt ns from e)
      | n + 43, e, _ => nomatch (show CK.exc = CK.slt ns from e)
  have T : Txt w K (CAo K) mg := {
    z_len := PySem.W.mg_none_of X N z0,
    z_max := PySem.W.mg_none_of X N z1,
    z_range := PySem.W.mg_none_of X N z2,
    z_tuple := PySem.W.mg_none_of X N z3,
    z_zip := PySem.W.mg_none_of X N z4,
    z_sorted := PySem.W.mg_none_of X N z5,
    z_abs := PySem.W.mg_none_of X N z6,
    z_int := PySem.W.mg_none_of X N z7,
    z_min := PySem.W.mg_none_of X N z8,
    z_set := PySem.W.mg_none_of X N z9,
    z_isinstance := PySem.W.mg_none_of X N z10,
    z_list := PySem.W.mg_none_of X N z11,
    z_enumerate := PySem.W.mg_none_of X N z12,
    cb := Tb }
  have P__law_longer := fun_mk (st := s__law_longer) l__law_longer c__law_longer k__law_longer
  have B__law_longer := P__law_longer.binds (ps := ["_law_found"]) fun _ _ _ _ _ _ us hl => match us, hl with | [_], _ => rfl
  have P__law_marks := fun_mk (st := s__law_marks) l__law_marks c__law_marks k__law_marks
  have B__law_marks := P__law_marks.binds (ps := ["_law_many"]) fun _ _ _ _ _ _ us hl => match us, hl with | [_], _ => rfl
  have P__law_due := fun_mk (st := s__law_due) l__law_due c__law_due k__law_due
  have B__law_due := P__law_due.binds (ps := ["_law_names"]) fun _ _ _ _ _ _ us hl => match us, hl with | [_], _ => rfl
  have P__law_pool := fun_mk (st := s__law_pool) l__law_pool c__law_pool k__law_pool
  have B__law_pool := P__law_pool.binds (ps := ["_law_script", "_law_k"]) fun _ _ _ _ _ _ us hl => match us, hl with | [_, _], _ => rfl
  have P__law_take := fun_mk (st := s__law_take) l__law_take c__law_take k__law_take
  have B__law_take := P__law_take.binds (ps := ["_law_pool_here", "_law_many"]) fun _ _ _ _ _ _ us hl => match us, hl with | [_, _], _ => rfl
  have P_partitions := fun_mk (st := s_partitions) l_partitions c_partitions k_partitions
  have B_partitions := P_partitions.binds (ps := ["names"]) fun _ _ _ _ _ _ us hl => match us, hl with | [_], _ => rfl
  have P_law := fun_mk (st := s_law) l_law c_law k_law
  have B_law := P_law.binds (ps := ["_law_script"]) fun _ _ _ _ _ _ us hl => match us, hl with | [_], _ => rfl
  refine ⟨_, fun s v => .of_eq (?_ : bindArgs (PySem.W.fnOf "law" "law" (defArgs s_law) (defBody s_law) (defScope s_law) .none kv_law dc_law pm_law an_law co_law ct_law) _ = _), fun base hb1 hb2 => ?_⟩
  · rfl
  have O__law_longer := ok__law_longer (P := l.prog) (base := base) P__law_longer T 
  have D__law_longer_0 : Dfn l.prog w (Go K) mg base 3 "_law_longer" 1 [] F__law_longer := ⟨⟨_, _, _, [], [], O__law_longer, PySem.W.mg_of X N a__law_longer, k__law_longer, B__law_longer, .nil, fun _ _ => .nil⟩⟩
  have O__law_marks := ok__law_marks (P := l.prog) (base := base) P__law_marks T D__law_longer_0
  have D__law_marks_0 : Dfn l.prog w (Go K) mg base 6 "_law_marks" 1 [] F__law_marks := ⟨⟨_, _, _, [], [], O__law_marks, PySem.W.mg_of X N a__law_marks, k__law_marks, B__law_marks, .nil, fun _ _ => .nil⟩⟩
  have O__law_due := ok__law_due (P := l.prog) (base := base) P__law_due T D__law_marks_0
  have O__law_pool := ok__law_pool (P := l.prog) (base := base) P__law_pool T 
  have O__law_take := ok__law_take (P := l.prog) (base := base) P__law_take T 
  have O_partitions := ok_partitions (P := l.prog) (base := base) P_partitions T 
  have D__law_due_0 : Dfn l.prog w (Go K) mg base 9 "_law_due" 1 [] F__law_due := ⟨⟨_, _, _, [], [], O__law_due, PySem.W.mg_of X N a__law_due, k__law_due, B__law_due, .nil, fun _ _ => .nil⟩⟩
  have D__law_pool_0 : Dfn l.prog w (Go K) mg base 3 "_law_pool" 2 [] F__law_pool := ⟨⟨_, _, _, [], [], O__law_pool, PySem.W.mg_of X N a__law_pool, k__law_pool, B__law_pool, .nil, fun _ _ => .nil⟩⟩
  have D__law_take_0 : Dfn l.prog w (Go K) mg base 3 "_law_take" 2 [] F__law_take := ⟨⟨_, _, _, [], [], O__law_take, PySem.W.mg_of X N a__law_take, k__law_take, B__law_take, .nil, fun _ _ => .nil⟩⟩
  have D_partitions_0 : Dfn l.prog w (Go K) mg base 3 "partitions" 1 [] F_partitions := ⟨⟨_, _, _, [], [], O_partitions, PySem.W.mg_of X N a_partitions, k_partitions, B_partitions, .nil, fun _ _ => .nil⟩⟩
  exact ok_law P_law T D__law_due_0 D__law_pool_0 D__law_take_0 D_partitions_0
end Law
end

section
set_option maxHeartbeats 2000000
/-! V0: what a piece of code leads to (for code that draws), and rules for the units Y5 to YB. -/
namespace Y
variable {α β : Type}
structure WE (r : R α) (Q : α → EH → Prop) : Prop where
  w : match r with
    | .ok a h => Q a h
    | _ => False
/-- nx or ct: N, rt: T -/
structure WF (r : FL) (N : ES → EH → Prop) (T : EV → EH → Prop) : Prop where
  w : match r with
    | .nx σ h => N σ h
    | .ct σ h => N σ h
    | .rt v h => T v h
    | _ => False
/-- .. where nothing ends a turn -/
structure WN (r : FL) (N : ES → EH → Prop) (T : EV → EH → Prop) : Prop where
  w : match r with
    | .nx σ h => N σ h
    | .rt v h => T v h
    | _ => False
@[simp] theorem WE_ok (a : α) (h : EH) (Q : α → EH → Prop) : WE (.ok a h) Q ↔ Q a h := ⟨fun x => x.w, fun x => ⟨x⟩⟩
@[simp] theorem WF_nx (σ : ES) (h : EH) (N : ES → EH → Prop) (T : EV → EH → Prop) : WF (.nx σ h) N T ↔ N σ h := ⟨fun x => x.w, fun x => ⟨x⟩⟩
@[simp] theorem WF_ct (σ : ES) (h : EH) (N : ES → EH → Prop) (T : EV → EH → Prop) : WF (.ct σ h) N T ↔ N σ h := ⟨fun x => x.w, fun x => ⟨x⟩⟩
@[simp] theorem WF_rt (v : EV) (h : EH) (N : ES → EH → Prop) (T : EV → EH → Prop) : WF (.rt v h) N T ↔ T v h := ⟨fun x => x.w, fun x => ⟨x⟩⟩
@[simp] theorem WN_nx (σ : ES) (h : EH) (N : ES → EH → Prop) (T : EV → EH → Prop) : WN (.nx σ h) N T ↔ N σ h := ⟨fun x => x.w, fun x => ⟨x⟩⟩
@[simp] theorem WN_rt (v : EV) (h : EH) (N : ES → EH → Prop) (T : EV → EH → Prop) : WN (.rt v h) N T ↔ T v h := ⟨fun x => x.w, fun x => ⟨x⟩⟩
theorem WE.no {Q : α → EH → Prop} {c : Nat} {fs : PF} {h : EH} (w : WE (.exc c fs h) Q) : False := w.w
theorem WE.no' {Q : α → EH → Prop} (w : WE .stuck Q) : False := w.w
theorem WE.ex {r : R α} {Q : α → EH → Prop} (w : WE r Q) : ∃ a h, r = .ok a h ∧ Q a h := by
  cases r with
  | ok a h => exact ⟨a, h, rfl, w.w⟩
  | _ => exact w.w.elim
theorem WN.ex {r : FL} {N : ES → EH → Prop} {T : EV → EH → Prop} (w : WN r N T) : (∃ σ h, r = .nx σ h ∧ N σ h) ∨ ∃ v h, r = .rt v h ∧ T v h := by
  cases r with
  | nx σ h => exact .inl ⟨σ, h, rfl, w.w⟩
  | rt v h => exact .inr ⟨v, h, rfl, w.w⟩
  | _ => exact w.w.elim
theorem WF.ex {r : FL} {N : ES → EH → Prop} {T : EV → EH → Prop} (w : WF r N T) : (∃ σ h, (r = .nx σ h ∨ r = .ct σ h) ∧ N σ h) ∨ ∃ v h, r = .rt v h ∧ T v h := by
  cases r with
  | nx σ h => exact .inl ⟨σ, h, .inl rfl, w.w⟩
  | ct σ h => exact .inl ⟨σ, h, .inr rfl, w.w⟩
  | rt v h => exact .inr ⟨v, h, rfl, w.w⟩
  | _ => exact w.w.elim
@[simp] theorem WE_bind (r : R α) (g : α → EH → R β) (Q : β → EH → Prop) : WE (r.bind g) Q ↔ WE r fun a h => WE (g a h) Q := by
  cases r with
  | ok a h => exact ⟨fun w => ⟨w⟩, fun w => w.w⟩
  | _ => exact ⟨fun w => w.w.elim, fun w => w.w.elim⟩
@[simp] theorem WF_fl (r : R α) (σ : ES) (g : α → EH → FL) (N : ES → EH → Prop) (T : EV → EH → Prop) : WF (r.fl σ g) N T ↔ WE r fun a h => WF (g a h) N T := by
  cases r with
  | ok a h => exact ⟨fun w => ⟨w⟩, fun w => w.w⟩
  | _ => exact ⟨fun w => w.w.elim, fun w => w.w.elim⟩
@[simp] theorem WN_fl (r : R α) (σ : ES) (g : α → EH → FL) (N : ES → EH → Prop) (T : EV → EH → Prop) : WN (r.fl σ g) N T ↔ WE r fun a h => WN (g a h) N T := by
  cases r with
  | ok a h => exact ⟨fun w => ⟨w⟩, fun w => w.w⟩
  | _ => exact ⟨fun w => w.w.elim, fun w => w.w.elim⟩
theorem WF_seq' (f : FL) (g : ES → EH → FL) (N : ES → EH → Prop) (T : EV → EH → Prop) (w : WN f (fun σ h => WF (g σ h) N T) T) : WF (f.seq g) N T := by
  rcases w.ex with ⟨σ, h, rfl, q⟩ | ⟨v, h, rfl, q⟩
  · exact q
  · exact ⟨q⟩
@[simp] theorem WN_seq (f : FL) (g : ES → EH → FL) (N : ES → EH → Prop) (T : EV → EH → Prop) : WN (f.seq g) N T ↔ WN f (fun σ h => WN (g σ h) N T) T := by
  cases f with
  | nx σ h => exact ⟨fun w => ⟨w⟩, fun w => w.w⟩
  | rt v h => exact ⟨fun w => ⟨w.w⟩, fun w => ⟨w.w⟩⟩
  | _ => exact ⟨fun w => w.w.elim, fun w => w.w.elim⟩
theorem WN.wf {f : FL} {N : ES → EH → Prop} {T : EV → EH → Prop} (w : WN f N T) : WF f N T := by
  rcases w.ex with ⟨σ, h, rfl, q⟩ | ⟨v, h, rfl, q⟩ <;> exact ⟨q⟩
theorem WE.mono {r : R α} {P Q : α → EH → Prop} (w : WE r P) (k : ∀ a h, P a h → Q a h) : WE r Q := by
  obtain ⟨a, h, rfl, q⟩ := w.ex
  exact ⟨k _ _ q⟩
theorem WN.mono {r : FL} {N N' : ES → EH → Prop} {T T' : EV → EH → Prop} (w : WN r N T) (k : ∀ a h, N a h → N' a h) (k2 : ∀ a h, T a h → T' a h) : WN r N' T' := by
  rcases w.ex with ⟨σ, h, rfl, q⟩ | ⟨v, h, rfl, q⟩
  · exact ⟨k _ _ q⟩
  · exact ⟨k2 _ _ q⟩
theorem sSeq_w {f g : ES → EH → FL} {σ : ES} {h : EH} {N : ES → EH → Prop} {T : EV → EH → Prop} (w : WN (f σ h) (fun σ h => WN (g σ h) N T) T) : WN (sSeq f g σ h) N T := (WN_seq _ _ _ _).mpr w
/-- a def -/
theorem WE_fnF {k : Nat} {fb : ES → EH → FL} {vs : List EV} {h : EH} {Q : EV → EH → Prop} (w : WN (fb (startE k vs) h) (fun _ h => Q (.p .non) h) Q) : WE (fnF k fb vs h) Q := by
  unfold fnF
  rcases w.ex with ⟨σ, h1, e, q⟩ | ⟨v, h1, e, q⟩ <;> rw [e] <;> exact ⟨q⟩
theorem WF_loop {r : FL} {g : ES → EH → FL} {N : ES → EH → Prop} {T : EV → EH → Prop} (w : WF r (fun σ h => WN (g σ h) N T) T) : WN (r.loop g) N T := by
  rcases w.ex with ⟨σ, h, rfl | rfl, q⟩ | ⟨v, h, rfl, q⟩
  · exact q
  · exact q
  · exact ⟨q⟩
/-- a walk over a list -/
theorem forL_w' {g : EV → ES → Option ES} {fb : ES → EH → FL} {enc : α → EV} {T : EV → EH → Prop} {N : ES → EH → Prop} {I : List α → ES → EH → Prop} {all : List α} : ∀ (xs pre : List α) {σ : ES} {h : EH}, pre ++ xs = all → I pre σ h →
    (∀ (pre : List α) a post σ h, pre ++ a :: post = all → I pre σ h → ∃ σ1, g (enc a) σ = some σ1 ∧ WF (fb σ1 h) (I (pre ++ [a])) T) → (∀ σ h, I all σ h → N σ h) → WN (forL g fb (xs.map enc) σ h) N T
  | [], pre, σ, h, e, i, _, k => by
    simp only [List.append_nil] at e
    subst e
    exact ⟨k σ h i⟩
  | a :: xs, pre, σ, h, ea, i, b, k => by
    obtain ⟨σ1, e, w⟩ := b pre a xs σ h ea i
    simp only [List.map_cons, forL, e]
    have ea' : (pre ++ [a]) ++ xs = all := by simpa using ea
    refine WF_loop ?_
    rcases w.ex with ⟨σ2, h2, q, w'⟩ | ⟨v, h2, q, w'⟩
    · rcases q with q | q <;> rw [q] <;> exact ⟨forL_w' xs (pre ++ [a]) ea' w' b k⟩
    · rw [q]; exact ⟨w'⟩
theorem forL_w {g : EV → ES → Option ES} {fb : ES → EH → FL} {enc : α → EV} {T : EV → EH → Prop} {N : ES → EH → Prop} {I : List α → ES → EH → Prop} {xs : List α} {σ : ES} {h : EH} (i : I [] σ h)
    (b : ∀ (pre : List α) a post σ h, pre ++ a :: post = xs → I pre σ h → ∃ σ1, g (enc a) σ = some σ1 ∧ WF (fb σ1 h) (I (pre ++ [a])) T) (k : ∀ σ h, I xs σ h → N σ h) : WN (forL g fb (xs.map enc) σ h) N T := forL_w' xs [] rfl i b k
theorem rangeL_enc : ∀ (k : Nat) (a : Int), rangeL a k = (List.range k).map fun i => EV.p (.int (a + (i : Nat)))
  | 0, a => rfl
  | k + 1, a => by
    rw [List.range_succ_eq_map, List.map_cons, List.map_map, rangeL, rangeL_enc k (a + 1)]
    congr 1
    · simp
    · refine List.map_congr_left fun i _ => ?_
      simp only [Function.comp]
      rw [show a + 1 + (i : Int) = a + ((i + 1 : Nat) : Int) by omega]
/-- a comprehension whose parts draw: xs goes on to ys one by one -/
theorem lcL_w {γ : Type} {g : EV → ES → Option ES} {ft : ES → M Bool} {fe : ES → M EV} {σ : ES} {enc : α → EV} {dec : γ → EV} {Q : List EV → EH → Prop} {I : List γ → EH → Prop} : ∀ (xs : List α) (acc : List γ) (h : EH), I acc h → acc.length + xs.length ≤ 100000 →
    (∀ a acc h, a ∈ xs → I acc h → ∃ σ1, g (enc a) σ = some σ1 ∧ WE (ft σ1 h) fun b h1 => match b with
      | true => WE (fe σ1 h1) fun v h2 => ∃ y, v = dec y ∧ I (acc ++ [y]) h2
      | false => I acc h1) → (∀ ys h, I ys h → ys.length ≤ acc.length + xs.length → Q (ys.map dec) h) → WE (lcL g ft fe σ (xs.map enc) (acc.map dec) h) Q
  | [], acc, h, i, _, _, k => ⟨k acc h i (by simp)⟩
  | a :: xs, acc, h, i, hl, b, k => by
    obtain ⟨σ1, e, w⟩ := b a acc h (by simp) i
    simp only [List.map_cons, lcL, e, lcStep]
    simp only [List.length_cons] at hl k
    obtain ⟨c, h1, e1, w1⟩ := w.ex
    rw [e1, bind_ok]
    cases c with
    | true =>
      obtain ⟨v, h2, e2, y, rfl, iy⟩ := WE.ex w1
      simp only [e2, bind_ok]
      rw [if_pos (by simp; omega)]
      simp only [noExc, bind_ok]
      have := lcL_w (Q := Q) xs (acc ++ [y]) h2 iy (by simp; omega) (fun a acc h m => b a acc h (by simp [m])) (fun ys h i l => k ys h i (by simp at l; omega))
      simpa only [List.map_append, List.map_cons, List.map_nil] using this
    | false =>
      simp only [noExc, bind_ok]
      exact lcL_w xs acc h1 w1 (by omega) (fun a acc h m => b a acc h (by simp [m])) (fun ys h i l => k ys h i (by omega))
/-! ### rules -/
theorem eFnM_def (F : List EV → EH → R EV) (ds : List PV) (fa : ES → M (List EV)) (σ : ES) (h : EH) : eFnM F ds fa σ h = ((fa σ h).bind fun vs h1 => callM F (vs ++ ds.map .p) h1) := rfl
theorem lSort_def (fe : ES → M EV) (σ : ES) (h : EH) : lSort fe σ h = ((fe σ h).bind fun v h1 => R.opt ((seqOf h1 v).bind fun q => sorA h1 q.1 q.2) h1) := rfl
theorem lSortL_def (fe : ES → M (List EV)) (σ : ES) (h : EH) : lSortL fe σ h = ((fe σ h).bind fun xs h1 => R.opt (sorA h1 false xs) h1) := rfl
theorem eNewD_def (f : ES → M PE') (σ : ES) (h : EH) : eNewD f σ h = ((f σ h).bind fun kvs h1 => .ok (.ref h1.length) (h1 ++ [.dK kvs])) := rfl
theorem eAnyD_def (f : ES → M PE') (σ : ES) (h : EH) : eAnyD f σ h = ((f σ h).bind anyD) := rfl
theorem callM_pl {F : List EV → EH → R EV} {vs : List EV} {ps : List PV} (e : allP vs = some ps) (h : EH) : callM F vs h = pcall F ps h := by
  unfold callM
  rw [e]
theorem callX_pl {F : List EV → EH → R EV} {vs : List EV} {ps : List PV} (e : allP vs = some ps) (h : EH) : callX F vs h = pcall F ps h := by
  unfold callX
  rw [e]
theorem callX_no {F : List EV → EH → R EV} {vs : List EV} (e : allP vs = none) (h : EH) : callX F vs h = F vs h := by
  unfold callX
  rw [e]
theorem rsvF_list {h : EH} {m n k : Nat} (xs : List PV) (hm : m ≤ n) (e : h[n]? = some (.lst (xs.map .p))) : rsvF h m (k + 2) (.ref n) = some (.lst xs) := by
  have go : ∀ l : List PV, rsvL (rsvF h m (k + 1)) (l.map .p) = some l := by
    intro l
    induction l with
    | nil => rfl
    | cons a r ih => simp only [List.map_cons, rsvL, rsvF, ih] <;> rfl
  simp only [rsvF, Nat.ble_eq_true_of_le hm, e, go, Option.map_some]
/-- a callee that draws and gives a list of its own -/
theorem callM_list {F : List EV → EH → R EV} {vs : List EV} {h : EH} {Q : EV → EH → Prop} (e : allP vs = none)
    (w : WE (F vs h) fun v h2 => ∃ (xs : List PV) (h1 t : EH), h1.length = h.length ∧ h1.all (eoIn h.length) = true ∧ h2 = h1 ++ t ∧ (∃ n, h.length ≤ n ∧ v = .ref n ∧ h2[n]? = some (.lst (xs.map .p))) ∧ Q (.p (.lst xs)) h1) : WE (callM F vs h) Q := by
  unfold callM
  rw [e]
  obtain ⟨v, h2, ef, xs, h1, t, l1, cl, rfl, ⟨n, hn, rfl, ex⟩, q⟩ := w.ex
  have tk : (h1 ++ t).take h.length = h1 := by rw [← l1]; simp
  have r := rsvF_list (h := h1 ++ t) (m := h.length) (k := 28) xs hn ex
  simp only [ef, trim, tk, cl, r]
  exact ⟨q⟩
theorem callM_plain {F : List EV → EH → R EV} {vs : List EV} {h : EH} {Q : EV → EH → Prop} (e : allP vs = none)
    (w : WE (F vs h) fun v h2 => ∃ (d : PV) (h1 t : EH), h1.length = h.length ∧ h1.all (eoIn h.length) = true ∧ h2 = h1 ++ t ∧ v = .p d ∧ Q (.p d) h1) : WE (callM F vs h) Q := by
  unfold callM
  rw [e]
  obtain ⟨v, h2, ef, d, h1, t, l1, cl, rfl, rfl, q⟩ := w.ex
  have tk : (h1 ++ t).take h.length = h1 := by rw [← l1]; simp
  simp only [ef, trim, tk, cl, rsvF]
  exact ⟨q⟩
theorem append_w {i k : Nat} {fe : ES → M EV} {σ : ES} {h : EH} {xs : List EV} {Q : EV → EH → Prop} (e : σ[i]? = some (some (.ref k))) (ek : h[k]? = some (.lst xs)) (w : WE (fe σ h) fun v h1 => WE (putL (.ref k) (fApp v) h1) Q) : WE (eAppend (eVar i) fe σ h) Q := by
  simp only [eAppend_def, eLm_def, eVar_def, e, bind_ok, isLst, ek, WE_bind]
  exact w
@[simp] theorem set_last {α : Type} (t : List α) (x y : α) : (t ++ [x]).set t.length y = t ++ [y] := by
  rw [List.set_append_right _ _ (Nat.le_refl _)]
  simp
@[simp] theorem allP_ref (n : Nat) (r : List EV) : allP (.ref n :: r) = none := rfl
theorem allP_strs' (l : List (List Nat)) : allP (l.map fun w => EV.p (.str w)) = some (l.map .str) := by
  have : (l.map fun w => EV.p (.str w)) = (l.map PV.str).map .p := by simp
  rw [this, allP_map]
end Y
namespace Law
open Y P PySem L2
theorem sSet_nx' {g : EV → ES → Option ES} {f : ES → M EV} {σ σ' : ES} {h h' : EH} {v : EV} (e : f σ h = .ok v h') (eg : g v σ = some σ') : sSet g f σ h = .nx σ' h' := by
  simp only [sSet, e, R.fl, eg]
theorem set_w {i : Nat} {f : ES → M EV} {σ : ES} {h : EH} {N : ES → EH → Prop} {T : EV → EH → Prop} (w : Y.WE (f σ h) fun v h' => N (σ.set i (some v)) h') : WN (sSet (gN i) f σ h) N T := by
  obtain ⟨v, h', e, q⟩ := w.ex
  rw [sSet_def, e, fl_ok]
  exact ⟨q⟩
theorem WEo {α : Type} {r : Y.R α} {a : α} {h : EH} {Q : α → EH → Prop} (e : r = .ok a h) (q : Q a h) : Y.WE r Q := by
  rw [e]
  exact ⟨q⟩
theorem WNo {r : FL} {σ : ES} {h : EH} {N : ES → EH → Prop} {T : EV → EH → Prop} (e : r = .nx σ h) (q : N σ h) : WN r N T := by
  rw [e]
  exact ⟨q⟩
abbrev plE (x y : Int) : EO := .lst [.p (.int x), .p (.int y)]
structure Pool (b : Nat) (h : EH) : Prop where
  ex : ∃ x y : Int, 0 ≤ x ∧ h[b]? = some (plE x y)
def PlH (h : EH) : Prop := ∀ o ∈ h, ∃ xs : List PV, o = .lst (xs.map .p)
theorem PlH.cl {h : EH} (p : PlH h) (n : Nat) : h.all (eoIn n) = true := by
  refine List.all_eq_true.mpr fun o m => ?_
  obtain ⟨xs, rfl⟩ := p o m
  simp [eoIn, evIn]
theorem plE_p (x y : Int) : ∃ xs : List PV, plE x y = .lst (xs.map .p) := ⟨[.int x, .int y], rfl⟩
theorem PlH.set {h : EH} (p : PlH h) (b : Nat) {o : EO} (ho : ∃ xs : List PV, o = .lst (xs.map .p)) : PlH (h.set b o) := fun q m => by
  rcases List.mem_or_eq_of_mem_set m with z | z
  · exact p q z
  · rw [z]; exact ho
theorem Pool.lt {b : Nat} {h : EH} (p : Pool b h) : b < h.length := by
  obtain ⟨x, y, _, e⟩ := p.ex
  exact (List.getElem?_eq_some_iff.mp e).1
theorem Pool.set {b : Nat} {h : EH} (p : Pool b h) {x y : Int} (hx : 0 ≤ x) : Pool b (h.set b (plE x y)) := ⟨x, y, hx, List.getElem?_set_self p.lt⟩
theorem take_w {b : Nat} {m : Int} {h : EH} {Q : EV → EH → Prop} (p : Pool b h) (hm : 0 < m) (hm2 : m < 1073741824) (k : ∀ r : Nat, (r : Int) < m → ∀ x y : Int, 0 ≤ x → Q (.p (.int (r : Int))) (h.set b (plE x y))) : Y.WE (callX F__law_take [.ref b, .p (.int m)] h) Q := by
  obtain ⟨x, y, hx, e⟩ := p.ex
  obtain ⟨r, x', y', r0, r1, hx', et⟩ := take_ok e hx hm hm2
  obtain ⟨r, rfl⟩ := Int.eq_ofNat_of_zero_le r0
  have et : F__law_take [.ref b, .p (.int m)] h = .ok (.p (.int (r : Nat))) (h.set b (plE x' y')) := et
  rw [callX_no rfl, et]
  exact ⟨k r r1 x' y' hx'⟩
theorem takei_w {σ : ES} {i b : Nat} {m : Int} {h : EH} {Q : EV → EH → Prop} (s : σ[i]? = some (some (.ref b))) (p : Pool b h) (hm : 0 < m) (hm2 : m < 1073741824) (k : ∀ r : Nat, (r : Int) < m → ∀ x y : Int, 0 ≤ x → Q (.p (.int (r : Int))) (h.set b (plE x y))) : Y.WE (eFnP F__law_take [] (aCons (eVar i) (aCons (eC (.p (.int m))) aNil)) σ h) Q := by
  have v : ∀ h, eVar i σ h = .ok (.ref b) h := fun h => by simp only [eVar_def, s]
  rw [eFnP_def, aCons_def, v, bind_ok, aCons_def, eC_def, bind_ok, aNil_def, bind_ok, bind_ok, bind_ok, List.map_nil, List.append_nil]
  exact take_w p hm hm2 k
theorem ix_mem {L : List PV} {r : Nat} (h : r < L.length) (h' : EH) : ∃ v, v ∈ L ∧ opIx (.p (.lst L)) (.p (.int (r : Nat))) h' = some (.p v, h') := by
  refine ⟨L[r], List.getElem_mem h, ?_⟩
  simp only [opIx, inOf, ixOf]
  rw [atI_nn (x := .p L[r]) rfl (by simp [h])]
  rfl
/-- one of a menu -/
theorem pick_w {σ : ES} {i b : Nat} {m : Int} {h : EH} {fm : ES → M EV} {L : List PV} {Q : EV → EH → Prop} (e : ∀ h, fm σ h = .ok (.p (.lst L)) h) (s : σ[i]? = some (some (.ref b))) (p : Pool b h) (hm : 0 < m) (hm2 : m < 1073741824) (hl : m = (L.length : Nat)) (k : ∀ v ∈ L, ∀ x y : Int, 0 ≤ x → Q (.p v) (h.set b (plE x y))) :
    Y.WE (eOp opIx fm (eFnP F__law_take [] (aCons (eVar i) (aCons (eC (.p (.int m))) aNil))) σ h) Q := by
  rw [eOp_def, e, bind_ok, WE_bind]
  refine takei_w s p hm hm2 fun r hr x y hx => ?_
  obtain ⟨v, mv, ix⟩ := ix_mem (L := L) (r := r) (by omega) (h.set b (plE x y))
  rw [ix, lift_some, WE_ok]
  exact k v mv x y hx
end Law
end

section
set_option maxHeartbeats 4000000
/-! L20: k20, partitions and the law's own, in plain Lean. -/
namespace Law
open Y P PySem L2
section
variable {α β : Type}
abbrev Pt (α : Type) := List (List α)
def more1 (x : α) : Pt α → List (Pt α)
  | [] => []
  | p :: r => ((p ++ [x]) :: r) :: (more1 x r).map (p :: ·)
def grow (x : α) : List (Pt α) → List (Pt α)
  | [] => []
  | P :: r => (P ++ [[x]]) :: (more1 x P ++ grow x r)
def partsOf : List (Pt α) → List α → List (Pt α)
  | f, [] => f
  | f, x :: r => partsOf (grow x f) r
def mx : List Nat → Nat
  | [] => 0
  | a :: r => Nat.max (a + 1) (mx r)
def longer (f : List (List Nat)) : List (List Nat) := f.flatMap fun m => (List.range (mx m + 1)).map fun k => m ++ [k]
def marks : Nat → List (List Nat)
  | 0 => [[]]
  | n + 1 => longer (marks n)
def pick (k : Nat) : List α → List Nat → List α
  | x :: xs, m :: ms => match Nat.beq m k with
    | true => x :: pick k xs ms
    | false => pick k xs ms
  | _, _ => []
def dueOf (ns : List α) : List (Pt α) := (marks ns.length).map fun m => (List.range (mx m)).map fun k => pick k ns m
theorem more1_map (g : α → β) (x : α) : ∀ P : Pt α, more1 (g x) (P.map (List.map g)) = (more1 x P).map (List.map (List.map g))
  | [] => rfl
  | p :: r => by
    simp only [List.map_cons, more1, more1_map g x r, List.map_append, List.map_nil, List.map_map]
    rfl
theorem grow_map (g : α → β) (x : α) : ∀ f : List (Pt α), grow (g x) (f.map (List.map (List.map g))) = (grow x f).map (List.map (List.map g))
  | [] => rfl
  | P :: r => by
    simp only [List.map_cons, grow, grow_map g x r, more1_map, List.map_append, List.map_nil]
theorem partsOf_map (g : α → β) : ∀ (ns : List α) (f : List (Pt α)), partsOf (f.map (List.map (List.map g))) (ns.map g) = (partsOf f ns).map (List.map (List.map g))
  | [], f => rfl
  | x :: r, f => by
    simp only [List.map_cons, partsOf, grow_map, partsOf_map g r]
theorem pick_map (g : α → β) (k : Nat) : ∀ (ns : List α) (m : List Nat), pick k (ns.map g) m = (pick k ns m).map g
  | [], m => by simp [pick]
  | x :: xs, [] => by simp [pick]
  | x :: xs, m :: ms => by
    simp only [List.map_cons, pick, pick_map g k xs ms]
    cases Nat.beq m k <;> rfl
theorem dueOf_map (g : α → β) (ns : List α) : dueOf (ns.map g) = (dueOf ns).map (List.map (List.map g)) := by
  simp only [dueOf, List.length_map, List.map_map]
  refine List.map_congr_left fun m _ => ?_
  simp only [Function.comp, List.map_map]
  exact List.map_congr_left fun k _ => pick_map g k ns m
theorem ix_map (ns : List (List Nat)) : ns = (List.range ns.length).map fun i => ns.getD i [] := by
  apply List.ext_getElem
  · simp
  · intro i h1 h2
    simp [List.getD, List.getElem?_eq_getElem h1]
theorem canon_perm : ∀ n, n ≤ 5 → (partsOf [[]] (List.range n)).isPerm (dueOf (List.range n)) = true := by
  intro n h
  have : n = 0 ∨ n = 1 ∨ n = 2 ∨ n = 3 ∨ n = 4 ∨ n = 5 := by omega
  rcases this with rfl | rfl | rfl | rfl | rfl | rfl <;> decide +kernel
theorem parts_perm (ns : List (List Nat)) (h : ns.length ≤ 5) : (partsOf [[]] ns).Perm (dueOf ns) := by
  have p := List.isPerm_iff.mp (canon_perm ns.length h)
  have q := p.map (List.map (List.map fun i => ns.getD i []))
  rw [← dueOf_map, ← partsOf_map] at q
  rw [← ix_map] at q
  exact q
def codeP (P : Pt Nat) : Nat := P.foldl (fun a p => p.foldl (fun a i => 8 * a + (i + 1)) (8 * a + 7)) 1
def nodN : List Nat → Bool
  | [] => true
  | a :: r => r.all (fun b => !Nat.beq a b) && nodN r
theorem nodN_nodup : ∀ l : List Nat, nodN l = true → l.Nodup
  | [], _ => List.nodup_nil
  | a :: r, h => by
    simp only [nodN, Bool.and_eq_true] at h
    refine List.nodup_cons.mpr ⟨fun m => ?_, nodN_nodup r h.2⟩
    have := List.all_eq_true.mp h.1 a m
    simp at this
theorem canon_nodup : ∀ n, n ≤ 6 → (partsOf [[]] (List.range n)).Nodup := by
  intro n h
  have k : nodN ((partsOf [[]] (List.range n)).map codeP) = true := by
    have : n = 0 ∨ n = 1 ∨ n = 2 ∨ n = 3 ∨ n = 4 ∨ n = 5 ∨ n = 6 := by omega
    rcases this with rfl | rfl | rfl | rfl | rfl | rfl | rfl <;> decide +kernel
  exact List.Pairwise.of_map codeP (fun _ _ hne e => hne (congrArg codeP e)) (nodN_nodup _ k)
theorem map_inj {f : α → β} (inj : ∀ x y, f x = f y → x = y) : ∀ x y : List α, x.map f = y.map f → x = y
  | [], [], _ => rfl
  | [], _ :: _, e => by cases e
  | _ :: _, [], e => by cases e
  | a :: r, b :: s, e => by
    simp only [List.map_cons, List.cons.injEq] at e
    rw [inj a b e.1, map_inj inj r s e.2]
/-- all partitions differ -/
theorem parts_nodup (ns : List (List Nat)) (nd : ns.Nodup) (h : ns.length ≤ 6) : (partsOf [[]] ns).Nodup := by
  have c := canon_nodup ns.length h
  have e : (partsOf [[]] ns).map (List.map (List.map fun s => ns.idxOf s)) = partsOf [[]] (List.range ns.length) := by
    rw [← partsOf_map]
    congr 1
    apply List.ext_getElem
    · simp
    · intro i h1 h2
      simp only [List.length_map] at h1
      simp [List.Nodup.idxOf_getElem nd]
  rw [← e] at c
  exact List.Pairwise.of_map _ (fun _ _ hne e => hne (congrArg _ e)) c
end
/-! ### as values -/
def encT (P : Pt (List Nat)) : PV := .tup (P.map fun p => .tup (p.map .str))
def rec1 (P : Pt (List Nat)) : PV := .tup [.int (P.length : Nat), encT P]
theorem encT_inj : ∀ P Q, encT P = encT Q → P = Q := fun P Q e => by
  simp only [encT, PV.tup.injEq] at e
  refine map_inj (fun p q e => ?_) P Q e
  simp only [PV.tup.injEq] at e
  exact map_inj (fun a b e => by simpa using e) p q e
theorem rec1_inj {P Q : Pt (List Nat)} (e : rec1 P = rec1 Q) : P = Q := by
  simp only [rec1, PV.tup.injEq, List.cons.injEq] at e
  exact encT_inj P Q e.2.1
theorem pdat_rec (P : Pt (List Nat)) : pdat 30 (rec1 P) = true := by
  simp [rec1, encT, pdat]
theorem alL_all {f : PV → PV → Bool} : ∀ (xs ys : List PV), (∀ x ∈ xs, ∀ y ∈ ys, f x y = true) → alL f xs ys = true
  | [], ys, _ => by simp [alL]
  | x :: xs, [], _ => rfl
  | x :: xs, y :: ys, h => by
    simp only [alL, Bool.and_eq_true]
    exact ⟨h x (by simp) y (by simp), alL_all xs ys fun a ma b mb => h a (by simp [ma]) b (by simp [mb])⟩
theorem alP_strs (n : Nat) (a b : List (List Nat)) : alP (n + 1) (.tup (a.map .str)) (.tup (b.map .str)) = true := by
  simp only [alP]
  refine alL_all _ _ fun x mx y my => ?_
  obtain ⟨s, _, rfl⟩ := List.mem_map.mp mx
  obtain ⟨t, _, rfl⟩ := List.mem_map.mp my
  cases n <;> rfl
theorem okPr_rec (P Q : Pt (List Nat)) : okPr (rec1 P) (rec1 Q) = true := by
  have e : alP 29 (.int (P.length : Nat)) (.int (Q.length : Nat)) = true := rfl
  simp only [okPr, rec1, e]
  split
  · refine alL_all _ _ fun x mx y my => ?_
    rw [List.mem_singleton] at mx my
    subst mx; subst my
    simp only [encT, alP]
    refine alL_all _ _ fun x mx y my => ?_
    obtain ⟨s, _, rfl⟩ := List.mem_map.mp mx
    obtain ⟨t, _, rfl⟩ := List.mem_map.mp my
    exact alP_strs 27 s t
  · rfl
theorem okSo_rec (L : List (Pt (List Nat))) : okSo (L.map rec1) = true := by
  refine List.all_eq_true.mpr fun x mx => ?_
  obtain ⟨P, _, rfl⟩ := List.mem_map.mp mx
  rw [Bool.and_eq_true]
  refine ⟨pdat_rec P, List.all_eq_true.mpr fun y my => ?_⟩
  obtain ⟨Q, _, rfl⟩ := List.mem_map.mp my
  exact okPr_rec P Q
theorem lt_or (P Q : Pt (List Nat)) (h : P ≠ Q) : (ltP 30 (rec1 P) (rec1 Q) || ltP 30 (rec1 Q) (rec1 P)) = true := by
  rw [← okPr_lt (okPr_rec P Q) (pdat_rec P) (pdat_rec Q), ← okPr_lt (okPr_rec Q P) (pdat_rec Q) (pdat_rec P)]
  cases a : tkLt (rec1 P) (rec1 Q) with
  | true => rfl
  | false =>
    cases b : tkLt (rec1 Q) (rec1 P) with
    | true => rfl
    | false => exact absurd (rec1_inj (okPr_same (okPr_rec P Q) (pdat_rec P) (pdat_rec Q) (PyProof.Rows.lex_total (O := PyProof.Rows.itemOrd) _ _ a b))) h
theorem stP_rec : ∀ L : List (Pt (List Nat)), L.Nodup → stP (L.map rec1) = true
  | [], _ => rfl
  | P :: L, h => by
    obtain ⟨h1, h2⟩ := List.nodup_cons.mp h
    simp only [List.map_cons, stP, Bool.and_eq_true]
    refine ⟨List.all_eq_true.mpr fun y my => ?_, stP_rec L h2⟩
    obtain ⟨Q, mQ, rfl⟩ := List.mem_map.mp my
    exact lt_or P Q fun e => h1 (e ▸ mQ)
theorem strsOf_rec (L : List (Pt (List Nat))) (hne : L ≠ []) : strsOf (L.map fun P => .p (rec1 P)) = none := by
  cases L with
  | nil => exact absurd rfl hne
  | cons a r => rfl
theorem sortE_p (ps : List PV) : (sortE (ps.zip (ps.map EV.p))).map (·.2) = (sortP ps).map .p := by
  have e1 : ps.zip (ps.map EV.p) = ps.map fun p => (p, EV.p p) := by
    induction ps with
    | nil => rfl
    | cons a r ih => simp [ih]
  have e2 := sortE_fst (ps.map fun p => (p, EV.p p))
  have e3 : (ps.map fun p => (p, EV.p p)).map (·.1) = ps := by
    rw [List.map_map]
    exact List.map_id ps
  rw [e3] at e2
  rw [e1, ← e2, List.map_map]
  refine List.map_congr_left fun t mt => ?_
  have := (sortE_perm _).mem_iff.mp mt
  obtain ⟨p, _, rfl⟩ := List.mem_map.mp this
  rfl
theorem rsvL_q (h : EH) (n : Nat) : ∀ ws : List PV, rsvL (rsv h n) (ws.map .p) = some ws
  | [] => rfl
  | w :: ws => by
    have e : rsv h n (.p w) = some w := by cases n <;> rfl
    simp only [List.map_cons, rsvL, e, rsvL_q h n ws]
def decS : PV → List Nat
  | .str a => a
  | _ => []
def decQ : PV → List (List Nat)
  | .tup xs => xs.map decS
  | _ => []
def decR : PV → Pt (List Nat)
  | .tup [_, .tup ps] => ps.map decQ
  | _ => []
theorem decR_rec (P : Pt (List Nat)) : decR (rec1 P) = P := by
  simp only [rec1, encT, decR, List.map_map]
  refine (List.map_congr_left fun p _ => ?_).trans (List.map_id P)
  simp only [Function.comp, decQ, List.map_map]
  exact (List.map_congr_left fun s _ => rfl).trans (List.map_id p)
theorem sorA_rec (L : List (Pt (List Nat))) (hne : L ≠ []) (nd : L.Nodup) (h : EH) : sorA h false (L.map fun P => .p (rec1 P)) = some ((sortP (L.map rec1)).map .p) := by
  have e : (L.map fun P => EV.p (rec1 P)) = (L.map rec1).map .p := by rw [List.map_map]; rfl
  unfold sorA
  rw [strsOf_rec L hne]
  simp only
  rw [e, rsvL_q]
  simp only [okSo_rec, stP_rec L nd, Bool.and_self, sortE_p]
theorem sort_same {L M : List (Pt (List Nat))} (p : L.Perm M) : sortP (L.map rec1) = sortP (M.map rec1) := by
  have q := p.map rec1
  have ok := okSo_rec L
  have s1 := sortP_sorted ok (L.map rec1) fun x m => m
  have s2 := sortP_sorted ok (M.map rec1) fun x m => q.mem_iff.mpr m
  have pp : (sortP (L.map rec1)).Perm (sortP (M.map rec1)) := (sortP_perm _).trans (q.trans (sortP_perm _).symm)
  refine pp.eq_of_pairwise (fun x y mx my h1 h2 => ?_) s1 s2
  obtain ⟨P, _, rfl⟩ := List.mem_map.mp ((sortP_perm _).mem_iff.mp mx)
  obtain ⟨Q, _, rfl⟩ := List.mem_map.mp (q.mem_iff.mpr ((sortP_perm _).mem_iff.mp my))
  exact okPr_same (okPr_rec P Q) (pdat_rec P) (pdat_rec Q) (PyProof.Rows.lex_total (O := PyProof.Rows.itemOrd) _ _ h2 h1)
theorem sort_recs (L : List (Pt (List Nat))) : ∃ M : List (Pt (List Nat)), sortP (L.map rec1) = M.map rec1 ∧ M.Perm L := by
  have p := sortP_perm (L.map rec1)
  have : ∀ (l : List PV), (∀ x ∈ l, ∃ P ∈ L, x = rec1 P) → ∃ M : List (Pt (List Nat)), l = M.map rec1 := by
    intro l
    induction l with
    | nil => intro _; exact ⟨[], rfl⟩
    | cons a r ih =>
      intro h
      obtain ⟨P, _, rfl⟩ := h a (by simp)
      obtain ⟨M, rfl⟩ := ih fun x m => h x (by simp [m])
      exact ⟨P :: M, rfl⟩
  obtain ⟨M, e⟩ := this _ fun x m => by
    obtain ⟨P, mP, e⟩ := List.mem_map.mp (p.mem_iff.mp m)
    exact ⟨P, mP, e.symm⟩
  refine ⟨M, e, ?_⟩
  rw [e] at p
  have inj := p.map decR
  rw [List.map_map, List.map_map] at inj
  have z : ∀ N : List (Pt (List Nat)), N.map (decR ∘ rec1) = N := fun N => (List.map_congr_left fun P _ => decR_rec P).trans (List.map_id N)
  rw [z, z] at inj
  exact inj
end Law
end

section
set_option maxHeartbeats 4000000
/-! L20b: what partitions and the law's own make, run. -/
namespace Law
open Y P PySem L2
def pA1 : ES → EH → FL := sSet (gN 1) (eAny (lLst (aCons (eTup aNil) aNil)))
def pA2 : ES → EH → FL := (sFor (iVal (eVar 0)) (gN 2) (sSeq (sSet (gN 3) (eNew (lLst aNil)))
  (sSeq (sFor (iLst (lSeq fList (eVar 1))) (gN 4) (sSeq (sExpr (eAppend (eVar 3) (eTup (aStar (eVar 4) (aCons (eTup (aCons (eVar 2) aNil)) aNil)))))
  (sFor (iEnum (dLst (lSeq fList (eVar 4)) dNil)) (gTupS 2 (gConsS (gN 5) (gConsS (gN 6) gNilS))) (sExpr (eAppend (eVar 3) (eTup (aStar (eSl (eVar 4) pNone (pSome (eVar 5))) (aCons (eTup (aStar (eVar 6) (aCons (eVar 2) aNil))) (aStar (eSl (eVar 4) (pSome (eOp opAdd (eVar 5) (eC (.p (.int 1))))) pNone) aNil)))))))))
  (sSet (gN 1) (eVar 3)))))
def pX : ES → M (List EV) := (lLc (iVal (eVar 1)) (gN 4) tYes' (eTup (aCons (eCall fLenA (aCons (eVar 4) aNil)) (aCons (eVar 4) aNil))) [4])
def pC : ES → EH → FL := (sRet (eAny (lLc (iLst (lSortL pX)) (gTupS 2 (gConsS (gN 7) (gConsS (gN 4) gNilS))) tYes' (eVar 4) [7, 4])))
theorem pB : b_partitions = sSeq pA1 (sSeq pA2 pC) := rfl
def prP (ns : List (List Nat)) : Y.R (List EV) := match sSeq pA1 pA2 (startE 8 [.p (.tup (ns.map .str))]) [] with
  | .nx σ h => match Nat.beq σ.length 8 with
    | true => match pX σ h with
      | .ok xs _ => .ok xs []
      | _ => .stuck
    | false => .stuck
  | _ => .stuck
def recs (L : List (Pt (List Nat))) : List EV := L.map fun P => .p (rec1 P)
theorem prP_ok : ∀ ns : List (List Nat), ns.length ≤ 6 → prP ns = .ok (recs (partsOf [[]] ns)) []
  | [], _ => by kernel_rfl!
  | [a], _ => by kernel_rfl!
  | [a, b], _ => by kernel_rfl!
  | [a, b, c], _ => by kernel_rfl!
  | [a, b, c, d], _ => by kernel_rfl!
  | [a, b, c, d, e], _ => by kernel_rfl!
  | [a, b, c, d, e, f], _ => by kernel_rfl!
  | _ :: _ :: _ :: _ :: _ :: _ :: _ :: _, h => by simp at h
def dA1 : ES → EH → FL := sSet (gN 1) (eNew (lLst aNil))
def dA2 : ES → EH → FL := (sFor (iVal (eFnM F__law_marks [] (aCons (eCall fLenA (aCons (eVar 0) aNil)) aNil))) (gN 2) (sSeq (sSet (gN 3) (eNew (lLst aNil)))
  (sSeq (sFor (iRng1' (aCons (eOp opAdd (eCall fMax1 (aCons (eOp opAdd (eVar 2) (eAny (lLst (aCons (eUn uNeg (eC (.p (.int 1)))) aNil)))) aNil)) (eC (.p (.int 1)))) aNil)) (gN 4) (sExpr (eAppend (eVar 3) (eSeqL fTup1 (lLc (iZip (dVal (eVar 0) (dVal (eVar 2) dNil))) (gTupS 2 (gConsS (gN 6) (gConsS (gN 7) gNilS))) (tVal (eOp opEq (eVar 7) (eVar 4))) (eVar 6) [6, 7])))))
  (sExpr (eAppend (eVar 1) (eTup (aCons (eCall fLenA (aCons (eVar 3) aNil)) (aCons (eSeq fTup1 (eVar 3)) aNil))))))))
def dC : ES → EH → FL := (sRet (eAny (lLc (iLst (lSort (eVar 1))) (gTupS 2 (gConsS (gN 5) (gConsS (gN 3) gNilS))) tYes' (eVar 3) [5, 3])))
theorem dB : b__law_due = sSeq dA1 (sSeq dA2 dC) := rfl
def duR (ns : List (List Nat)) : FL := sSeq dA1 dA2 (startE 8 [.p (.tup (ns.map .str))]) []
def duC (r : FL) : Y.R (List EV) := match r with
  | .nx σ h => match Nat.beq σ.length 8 with
    | true => match eVar 1 σ h with
      | .ok v h1 => match seqOf h1 v with
        | some (false, xs) => .ok xs []
        | _ => .stuck
      | _ => .stuck
    | false => .stuck
  | _ => .stuck
theorem duP_ok : ∀ ns : List (List Nat), ns.length ≤ 5 → duC (duR ns) = .ok (recs (dueOf ns)) []
  | [], _ => by kernel_rfl!
  | [a], _ => by kernel_rfl!
  | [a, b], _ => by kernel_rfl!
  | [a, b, c], _ => by kernel_rfl!
  | [a, b, c, d], _ => by kernel_rfl!
  | [a, b, c, d, e], _ => by kernel_rfl!
  | _ :: _ :: _ :: _ :: _ :: _ :: _, h => by simp at h
theorem duC_ok {r : FL} {xs : List EV} (e : duC r = .ok xs []) : ∃ σ h1 v h2, r = .nx σ h1 ∧ σ.length = 8 ∧ eVar 1 σ h1 = .ok v h2 ∧ seqOf h2 v = some (false, xs) := by
  cases r with
  | nx σ h1 =>
    cases eσ : Nat.beq σ.length 8 with
    | false => simp only [duC, eσ] at e; cases e
    | true =>
      cases e2 : eVar 1 σ h1 with
      | ok v h2 =>
        refine ⟨σ, h1, v, h2, rfl, Nat.eq_of_beq_eq_true eσ, e2, ?_⟩
        cases e3 : seqOf h2 v with
        | none => simp only [duC, eσ, e2, e3] at e; cases e
        | some q =>
          obtain ⟨b, ys⟩ := q
          cases b with
          | true => simp only [duC, eσ, e2, e3] at e; cases e
          | false =>
            simp only [duC, eσ, e2, e3] at e
            cases e
            rfl
      | exc _ _ _ => simp only [duC, eσ, e2] at e; cases e
      | stuck => simp only [duC, eσ, e2] at e; cases e
  | _ => cases e
theorem seq3 {f g k : ES → EH → FL} {σ σ' : ES} {h h' : EH} (e : sSeq f g σ h = .nx σ' h') : sSeq f (sSeq g k) σ h = k σ' h' := by
  show (f σ h).seq (fun σ h => (g σ h).seq k) = _
  have e : (f σ h).seq g = .nx σ' h' := e
  cases q : f σ h with
  | nx σ1 h1 =>
    rw [q] at e
    have e : g σ1 h1 = .nx σ' h' := e
    show (g σ1 h1).seq k = _
    rw [e]
    rfl
  | _ => rw [q] at e; cases e
/-- the last row: the second items of sorted records -/
theorem last_ok {i j : Nat} {σ : ES} {h h1 : EH} {L : List (Pt (List Nat))} {fs : ES → M (List EV)} (hi : i < σ.length) (hj : j < σ.length) (hij : i ≠ j)
    (e : fs σ h = .ok ((sortP (L.map rec1)).map .p) h1) (hl : L.length ≤ 100000) : ∃ M : List (Pt (List Nat)), sortP (L.map rec1) = M.map rec1 ∧ M.Perm L ∧
      eAny (lLc (iLst fs) (gTupS 2 (gConsS (gN i) (gConsS (gN j) gNilS))) tYes' (eVar j) [i, j]) σ h = .ok (.p (.lst (M.map encT))) h1 := by
  obtain ⟨M, eM, pM⟩ := sort_recs L
  refine ⟨M, eM, pM, ?_⟩
  have ei : iLst fs σ h = .ok (.vals (M.map fun P => EV.p (rec1 P))) h1 := by
    show (fs σ h).bind _ = _
    rw [e, eM, List.map_map]
    rfl
  rw [eAny_def, lLc_def, ei, bind_ok]
  simp only
  rw [lcL_map (f := fun P => EV.p (encT P)) M (by rw [pM.length_eq]; exact hl) (fun P _ => ?_), bind_ok]
  · have : (M.map fun P => EV.p (encT P)) = (M.map encT).map .p := by rw [List.map_map]; rfl
    rw [this]
    show anyL _ h1 = _
    unfold anyL
    have ap : ∀ l : List PV, allP (l.map .p) = some l := by
      intro l
      induction l with
      | nil => rfl
      | cons a r ih => simp [allP, ih]
    rw [ap]
  · refine ⟨(((wipeE σ [i, j]).set i (some (.p (.int (P.length : Nat))))).set j (some (.p (encT P)))), ?_, rfl, ?_⟩
    · rfl
    · have hw : (wipeE σ [i, j]).length = σ.length := by simp [wipeE]
      simp only [eVar_def]
      rw [List.getElem?_set_self (by simp [hw]; exact hj)]
end Law
end

section
set_option maxHeartbeats 4000000
/-! L20c: k20, the plain law. -/
namespace Law
open Y P PySem L2
theorem parts_ne : ∀ (ns : List (List Nat)), ns.length ≤ 6 → partsOf [[]] ns ≠ []
  | [], _ => by simp [partsOf]
  | [a], _ => by simp [partsOf, grow, more1]
  | [a, b], _ => by simp [partsOf, grow, more1]
  | [a, b, c], _ => by simp [partsOf, grow, more1]
  | [a, b, c, d], _ => by simp [partsOf, grow, more1]
  | [a, b, c, d, e], _ => by simp [partsOf, grow, more1]
  | [a, b, c, d, e, f], _ => by simp [partsOf, grow, more1]
  | _ :: _ :: _ :: _ :: _ :: _ :: _ :: _, h => by simp at h
theorem parts_len (ns : List (List Nat)) (h : ns.length ≤ 6) : (partsOf [[]] ns).length ≤ 203 := by
  have e : (partsOf [[]] ns).length = (partsOf [[]] (List.range ns.length)).length := by
    have q : partsOf [[]] ns = (partsOf [[]] (List.range ns.length)).map (List.map (List.map fun i => ns.getD i [])) := by
      rw [← partsOf_map, ← ix_map]
      rfl
    rw [q, List.length_map]
  have : ns.length = 0 ∨ ns.length = 1 ∨ ns.length = 2 ∨ ns.length = 3 ∨ ns.length = 4 ∨ ns.length = 5 ∨ ns.length = 6 := by omega
  rw [e]
  rcases this with z | z | z | z | z | z | z <;> rw [z] <;> decide +kernel
theorem pcall_ok {F : List EV → EH → Y.R EV} {k : Nat} {fb : ES → EH → FL} {ps : List PV} {h h1 h2 : EH} {v : PV} {σ : ES} {f g : ES → EH → FL} {fe : ES → M EV} (eF : F = fnF k fb) (eb : fb = sSeq f (sSeq g (sRet fe))) (e1 : sSeq f g (startE k (ps.map .p)) [] = .nx σ h1) (er : fe σ h1 = .ok (.p v) h2) :
    pcall F ps h = .ok (.p v) h := by
  have : F (ps.map .p) [] = .ok (.p v) h2 := by
    rw [eF, eb]
    unfold fnF
    rw [seq3 e1, sRet_def, er, fl_ok]
  unfold pcall
  rw [this]
  rfl
theorem call_parts {ns : List (List Nat)} (nd : ns.Nodup) (hl : ns.length ≤ 6) (h : EH) : ∃ M : List (Pt (List Nat)), sortP ((partsOf [[]] ns).map rec1) = M.map rec1 ∧ M.Perm (partsOf [[]] ns) ∧ pcall F_partitions [.tup (ns.map .str)] h = .ok (.p (.lst (M.map encT))) h := by
  have e := prP_ok ns hl
  unfold prP at e
  split at e
  · rename_i σ h1 e1
    split at e
    · rename_i eσ
      have lσ : σ.length = 8 := Nat.eq_of_beq_eq_true eσ
      split at e
      · rename_i xs h2 e2
        cases e
        have el : lSortL pX σ h1 = .ok ((sortP ((partsOf [[]] ns).map rec1)).map .p) h2 := by
          rw [lSortL_def, e2, bind_ok]
          show Y.R.opt (sorA h2 false ((partsOf [[]] ns).map fun P => .p (rec1 P))) h2 = _
          rw [sorA_rec _ (parts_ne ns hl) (parts_nodup ns nd hl)]
          rfl
        obtain ⟨M, eM, pM, eR⟩ := last_ok (i := 7) (j := 4) (by omega) (by omega) (by decide) el (by have := parts_len ns hl; omega)
        exact ⟨M, eM, pM, pcall_ok (F := F_partitions) rfl pB e1 eR⟩
      · cases e
    · cases e
  · cases e
theorem call_due {ns : List (List Nat)} (nd : ns.Nodup) (hl : ns.length ≤ 5) (h : EH) : ∃ M : List (Pt (List Nat)), sortP ((dueOf ns).map rec1) = M.map rec1 ∧ pcall F__law_due [.tup (ns.map .str)] h = .ok (.p (.lst (M.map encT))) h := by
  obtain ⟨σ, h1, v, h2, e1, lσ, e2, e3⟩ := duC_ok (duP_ok ns hl)
  have pp := parts_perm ns hl
  have ne : dueOf ns ≠ [] := fun z => parts_ne ns (by omega) (by rw [z] at pp; exact pp.eq_nil)
  have el : lSort (eVar 1) σ h1 = .ok ((sortP ((dueOf ns).map rec1)).map .p) h2 := by
    rw [lSort_def, e2, bind_ok, e3]
    show Y.R.opt (sorA h2 false ((dueOf ns).map fun P => .p (rec1 P))) h2 = _
    rw [sorA_rec _ ne (pp.nodup_iff.mp (parts_nodup ns nd (by omega)))]
    rfl
  obtain ⟨M, eM, pM, eR⟩ := last_ok (i := 5) (j := 3) (by omega) (by omega) (by decide) el (by have := parts_len ns (by omega); have := pp.length_eq; omega)
  exact ⟨M, eM, pcall_ok (F := F__law_due) rfl dB e1 eR⟩
theorem call_both {ns : List (List Nat)} (nd : ns.Nodup) (hl : ns.length ≤ 5) : ∃ M : List (Pt (List Nat)), ∀ h, pcall F_partitions [.tup (ns.map .str)] h = .ok (.p (.lst (M.map encT))) h ∧ pcall F__law_due [.tup (ns.map .str)] h = .ok (.p (.lst (M.map encT))) h := by
  obtain ⟨M, e1, _, _⟩ := call_parts nd (by omega) []
  refine ⟨M, fun h => ?_⟩
  obtain ⟨M1, e2, _, c1⟩ := call_parts nd (by omega) h
  obtain ⟨M2, e3, c2⟩ := call_due nd hl h
  have z : ∀ N : List (Pt (List Nat)), N.map (decR ∘ rec1) = N := fun N => (List.map_congr_left fun P _ => decR_rec P).trans (List.map_id N)
  have q1 : M = M1 := by
    have := congrArg (List.map decR) (e1.symm.trans e2)
    rwa [List.map_map, List.map_map, z, z] at this
  have q2 : M = M2 := by
    have := congrArg (List.map decR) (e1.symm.trans ((sort_same (parts_perm ns hl)).trans e3))
    rwa [List.map_map, List.map_map, z, z] at this
  rw [← q1] at c1
  rw [← q2] at c2
  exact ⟨c1, c2⟩
end Law
end

section
set_option maxHeartbeats 4000000
/-! L20d: k20, the law. -/
namespace Law
open Y P PySem L2
abbrev some8 : List (List Nat) := [[109, 46, 97], [109, 46, 98], [109, 46, 99, 48], [110, 46, 97], [110, 46, 122, 122], [97, 46, 120], [122, 46, 120], [109, 46, 109, 97, 105, 110]]
theorem disN_nodup (xs : List (List Nat)) : (disN xs).Nodup := by
  have e := disN_map xs
  have n := disU_nodup (xs.map toS)
  rw [← e] at n
  exact List.Pairwise.of_map toS (fun _ _ hne e => hne (congrArg toS e)) n
theorem disN_len (xs : List (List Nat)) : (disN xs).length ≤ xs.length := by
  have e := congrArg List.length (disN_map xs)
  have n := disU_len (xs.map toS)
  simp only [List.length_map] at e n
  omega
theorem strsOf_map (xs : List (List Nat)) : strsOf (xs.map fun s => EV.p (.str s)) = some xs := by
  induction xs with
  | nil => rfl
  | cons a r ih => simp [strsOf, ih]
theorem allP_q (l : List PV) : allP (l.map .p) = some l := by
  induction l with
  | nil => rfl
  | cons a r ih => simp [allP, ih]
theorem fTup1_q (l : List PV) : fTup1 false (l.map .p) = some (.p (.tup l)) := by
  simp only [fTup1, fTuple, mkTup, allP_q]
  rfl
abbrev S7 (a0 a1 a2 a3 a4 a5 a6 : Option EV) : ES := [a0, a1, a2, a3, a4, a5, a6]
abbrev lcD : ES → M (List EV) := lLc (iRng1' (aCons (eFnP F__law_take [] (aCons (eVar 2) (aCons (eC (.p (.int 6))) aNil))) aNil)) (gN 6) tYes' (eOp opIx (eVar 3) (eFnP F__law_take [] (aCons (eVar 2) (aCons (eC (.p (.int 8))) aNil)))) [6]
/-- the names that are drawn -/
theorem names_w {a0 a1 a4 a5 a6 : Option EV} {b : Nat} {h : EH} {Q : EV → EH → Prop} (po : Pool b h)
    (k : ∀ (ns : List (List Nat)) (h' : EH), ns.Nodup → ns.length ≤ 5 → Pool b h' → Q (.p (.tup (ns.map .str))) h') :
    Y.WE (eSeqL fTup1 (lSrtSetL lcD) (S7 a0 a1 (some (.ref b)) (some (.p (.lst (some8.map .str)))) a4 a5 a6) h) Q := by
  rw [eSeqL_def, WE_bind]
  show Y.WE ((lcD (S7 a0 a1 (some (.ref b)) (some (.p (.lst (some8.map .str)))) a4 a5 a6) h).bind fun xs h1 => Y.R.opt (srtSt xs) h1) _
  rw [WE_bind, lcD, lLc_def, WE_bind, iRng1'_def, WE_bind, aCons_def, WE_bind]
  refine takei_w rfl po (by decide) (by decide) fun r hr x y hx => ?_
  have p1 := po.set hx (y := y)
  rw [aNil_def, bind_ok, WE_ok]
  have er : rng1 [EV.p (.int (r : Int))] (h.set b (plE x y)) = .ok (.vals ((List.range r).map fun i => EV.p (.int (0 + (i : Nat))))) (h.set b (plE x y)) := by
    rw [← rangeL_enc]
    simp only [rng1]
    rw [if_pos (by have : (2 : Int) ^ 62 = 4611686018427387904 := by decide
                   omega), Int.toNat_natCast]
  rw [er, WE_ok]
  simp only
  have fin : ∀ (ys : List (List Nat)) (h2 : EH), Pool b h2 → ys.length ≤ r → Y.WE (Y.R.opt (srtSt (ys.map fun s => EV.p (.str s))) h2) fun a h => Y.WE (Y.R.opt (fTup1 false a) h) Q := fun ys h2 p2 hl => by
    have hb : Nat.ble ys.length 1000 = true := Nat.ble_eq.mpr (by omega)
    simp only [srtSt, strsOf_map, hb, opt_some, WE_ok]
    have e : ((sortS (disN ys)).map fun s => EV.p (.str s)) = ((sortS (disN ys)).map PV.str).map .p := by rw [List.map_map]; rfl
    rw [e, fTup1_q, opt_some, WE_ok]
    have pm := sortS_perm (disN ys)
    exact k _ h2 (pm.nodup_iff.mpr (disN_nodup ys)) (by have := pm.length_eq; have := disN_len ys; omega) p2
  refine lcL_w (I := fun (acc : List (List Nat)) h => Pool b h) (dec := fun s => EV.p (.str s)) (List.range r) [] _ p1 (by simp; omega) (fun i acc h m p => ?_) fun ys h2 p2 hl => fin ys h2 p2 (by simpa using hl)
  refine ⟨_, rfl, ?_⟩
  rw [tYes'_def, WE_ok]
  simp only
  refine pick_w (i := 2) (b := b) (fun h => rfl) rfl p (by decide) (by decide) rfl fun v mv x y hx => ?_
  obtain ⟨s, _, rfl⟩ := List.mem_map.mp mv
  exact ⟨s, rfl, p.set hx⟩
theorem len203 : (partsOf [[]] ([[97], [98], [99], [100], [101], [102]] : List (List Nat))).length = 203 := by decide +kernel
theorem law_w {ns : List Int} (hl : ns.length ≤ 63) : Y.WE (F_law [.p (.rol (ns.map PV.int))] []) fun v _ => v = .p (.bl true) := by
  have st : ∀ a, startE 7 [a] = S7 (some a) none none none none none none := fun a => rfl
  refine WE_fnF ?_
  rw [st]
  unfold b_law
  refine sSeq_w ?_
  obtain ⟨t, ht, ei⟩ := rng_ok (ns := ns) (c := 5) (σ := S7 (some (.p (.rol (ns.map PV.int)))) none none none none none none) (h := []) (by decide) rfl
  have ei' := ei
  rw [rangeL_enc] at ei'
  rw [sFor_def]
  rw [show iRng1' (aCons (eCall fMax2 (aCons (eC (.p (.int 1))) (aCons (eCall fMin2 (aCons (eCall fLenA (aCons (eVar 0) aNil)) (aCons (eC (.p (.int 5))) aNil))) aNil))) aNil) (S7 (some (.p (.rol (ns.map PV.int)))) none none none none none none) [] = .ok (.vals ((List.range t).map fun i => .p (.int (0 + (i : Nat))))) [] from ei', fl_ok]
  refine forL_w (I := fun _ σ h => ∃ v1 v2 v3 v4 v5 v6, σ = S7 (some (.p (.rol (ns.map PV.int)))) v1 v2 v3 v4 v5 v6) ⟨_, _, _, _, _, _, rfl⟩ (fun pre i post σ h ea J => ?_) (fun σ h J => ?_)
  · obtain ⟨v1, v2, v3, v4, v5, v6, rfl⟩ := J
    have mi : i ∈ List.range t := by rw [← ea]; simp
    have hi := List.mem_range.mp mi
    refine ⟨_, rfl, WN.wf ?_⟩
    obtain ⟨x, y, hx, ep⟩ := pool_ok (ns := ns) (k := i) (h := h) (by omega)
    have ep : F__law_pool [.p (.rol (ns.map PV.int)), .p (.int (i : Nat))] h = .ok (.ref h.length) (h ++ [plE x y]) := ep
    have z0 : (0 : Int) + (i : Nat) = (i : Nat) := by omega
    simp only [List.set_cons_succ, List.set_cons_zero, z0]
    refine sSeq_w (set_w (WEo (a := .ref h.length) (h := h ++ [plE x y]) ?_ ?_))
    · have ea : ∀ h, aCons (eVar 0) (aCons (eVar 1) aNil) (S7 (some (.p (.rol (ns.map PV.int)))) (some (.p (.int (i : Nat)))) v2 v3 v4 v5 v6) h = .ok [.p (.rol (ns.map PV.int)), .p (.int (i : Nat))] h := fun h => rfl
      show eFnI F__law_pool [] (aCons (eVar 0) (aCons (eVar 1) aNil)) (S7 (some (.p (.rol (ns.map PV.int)))) (some (.p (.int (i : Nat)))) v2 v3 v4 v5 v6) h = _
      rw [eFnI_def, ea, bind_ok, List.map_nil, List.append_nil, ep]
    obtain ⟨b, eb⟩ : ∃ b, b = h.length := ⟨_, rfl⟩
    have po : Pool b (h ++ [plE x y]) := ⟨x, y, hx, by rw [eb]; simp⟩
    rw [← eb]
    refine sSeq_w (set_w (WEo (a := .p (.lst (some8.map .str))) (h := h ++ [plE x y]) rfl ?_))
    refine sSeq_w (set_w ?_)
    show Y.WE (eSeqL fTup1 (lSrtSetL lcD) (S7 (some (.p (.rol (ns.map PV.int)))) (some (.p (.int (i : Nat)))) (some (.ref b)) (some (.p (.lst (some8.map .str)))) v4 v5 v6) (h ++ [plE x y])) _
    refine names_w po fun nl h' nd hn p' => ?_
    obtain ⟨M, both⟩ := call_both nd hn
    let σ4 : ES := S7 (some (.p (.rol (ns.map PV.int)))) (some (.p (.int (i : Nat)))) (some (.ref b)) (some (.p (.lst (some8.map .str)))) (some (.p (.tup (nl.map .str)))) v5 v6
    show WN (sSeq _ _ σ4 h') _ _
    have a4 : ∀ σ : ES, σ[4]? = some (some (.p (.tup (nl.map .str)))) → ∀ h, aCons (eVar 4) aNil σ h = .ok [.p (.tup (nl.map .str))] h := fun σ e h => by
      rw [aCons_def, eVar_def, e]
      rfl
    refine sSeq_w (set_w (WEo (a := .p (.lst (M.map encT))) (h := h') ?_ ?_))
    · rw [eFnM_def, a4 _ rfl, bind_ok, List.map_nil, List.append_nil, callM_pl (ps := [.tup (nl.map .str)]) rfl]
      exact (both h').1
    let σ5 : ES := S7 (some (.p (.rol (ns.map PV.int)))) (some (.p (.int (i : Nat)))) (some (.ref b)) (some (.p (.lst (some8.map .str)))) (some (.p (.tup (nl.map .str)))) (some (.p (.lst (M.map encT)))) v6
    show WN (sIf _ _ _ σ5 h') _ _
    have v5' : ∀ h, eVar 5 σ5 h = .ok (.p (.lst (M.map encT))) h := fun h => rfl
    have pd : pdat 30 (.lst (M.map encT)) = true := by simp [encT, pdat]
    have t1 : tOr' (tVal (eOp opNe (eVar 5) (eFnM F__law_due [] (aCons (eVar 4) aNil)))) (tNot' (tVal (eUn (isTy "list") (eVar 5)))) σ5 h' = .ok false h' := by
      have ty : isTy "list" (.p (.lst (M.map encT))) h' = some (.p (.bl true), h') := rfl
      rw [tOr'_def, tVal_def, eOp_def, v5', bind_ok, eFnM_def, a4 σ5 rfl, bind_ok, List.map_nil, List.append_nil, callM_pl (ps := [.tup (nl.map .str)]) rfl, (both h').2, bind_ok, opNe_refl pd, lift_some, bind_ok, boolOf_bl, bind_ok]
      show tNot' (tVal (eUn (isTy "list") (eVar 5))) σ5 h' = _
      rw [tNot'_def, tVal_def, eUn_def, v5', bind_ok, ty, lift_some, bind_ok, boolOf_bl, bind_ok]
      rfl
    rw [sIf_def, t1, fl_ok]
    exact .mk ⟨_, _, _, _, _, _, rfl⟩
  · obtain ⟨v1, v2, v3, v4, v5, v6, rfl⟩ := J
    obtain ⟨M, _, pM, c⟩ := call_parts (ns := [[97], [98], [99], [100], [101], [102]]) (by decide) (by decide) h
    have lm : M.length = 203 := by rw [pM.length_eq]; exact len203
    have e6 : ∀ σ h, aCons (eTup (aCons (eC (.p (.str [97]))) (aCons (eC (.p (.str [98]))) (aCons (eC (.p (.str [99]))) (aCons (eC (.p (.str [100]))) (aCons (eC (.p (.str [101]))) (aCons (eC (.p (.str [102]))) aNil))))))) aNil σ h = .ok [.p (.tup (([[97], [98], [99], [100], [101], [102]] : List (List Nat)).map .str))] h := fun σ h => rfl
    have fl : fLenA [.p (.lst (M.map encT))] h = some (.p (.int (203 : Nat)), h) := by
      have : fLenA [.p (.lst (M.map encT))] h = some (.p (.int ((M.map encT).length : Nat)), h) := by simp [fLenA, lenOf, inOf]
      rw [this, List.length_map, lm]
    rw [sRet_def, eOp_def, eCall_def, aCons_def, eFnM_def, e6, bind_ok, List.map_nil, List.append_nil, callM_pl (ps := [.tup (([[97], [98], [99], [100], [101], [102]] : List (List Nat)).map .str)]) rfl, c, bind_ok, aNil_def, bind_ok, bind_ok, fl, lift_some, bind_ok, eC_def, bind_ok, opEq_int, lift_some, fl_ok]
    exact .mk rfl
theorem plain (ns : List Int) (hl : ns.length ≤ 63) : ∃ h', F_law [.p (.rol (ns.map PV.int))] [] = .ok (.p (.bl true)) h' := by
  obtain ⟨v, h, e, rfl⟩ := (law_w hl).ex
  exact ⟨h, e⟩
end Law
end

section
open PySem PySem.W PyProof.Rows
set_option maxRecDepth 100000 in
set_option maxHeartbeats 0 in
theorem PySem.Challenge.cw_foldsame_k20_partitions_holds : PySem.Challenge.rw_foldsame_k20_partitions.Holds := by
  w_on; o_law; k_head; (case hw => w_witness2)
  k_fill
  refine Y.walkY (l := PySem.Challenge.rw_foldsame_k20_partitions) (k := 12) (x := "_law_script") (Fl := Law.F_law) (Gw := fun w => Law.Go _) Law.plain (fun _ => rfl) rfl rfl ⟨rfl, by decide, by decide⟩ (fun w h Y => PySem.W.kIn_of Y) ?F
  case F =>
    intro w mg fa h KX N hmg
    refine' Law.all_mk KX N hmg ?z0 ?z1 ?z2 ?z3 ?z4 ?z5 ?z6 ?z7 ?z8 ?z9 ?z10 ?z11 ?z12 ?a__law_longer ?l__law_longer ?c__law_longer ?k__law_longer ?a__law_marks ?l__law_marks ?c__law_marks ?k__law_marks ?a__law_due ?l__law_due ?c__law_due ?k__law_due ?a__law_pool ?l__law_pool ?c__law_pool ?k__law_pool ?a__law_take ?l__law_take ?c__law_take ?k__law_take ?a_partitions ?l_partitions ?c_partitions ?k_partitions ?a_law ?l_law ?c_law ?k_law
    (case z0 => k_is)
    (case z1 => k_is)
    (case z2 => k_is)
    (case z3 => k_is)
    (case z4 => k_is)
    (case z5 => k_is)
    (case z6 => k_is)
    (case z7 => k_is)
    (case z8 => k_is)
    (case z9 => k_is)
    (case z10 => k_is)
    (case z11 => k_is)
    (case z12 => k_is)
    (case a__law_longer => k_is)
    (case l__law_longer => k_is)
    (case c__law_longer => k_is)
    (case k__law_longer => k_is)
    (case a__law_marks => k_is)
    (case l__law_marks => k_is)
    (case c__law_marks => k_is)
    (case k__law_marks => k_is)
    (case a__law_due => k_is)
    (case l__law_due => k_is)
    (case c__law_due => k_is)
    (case k__law_due => k_is)
    (case a__law_pool => k_is)
    (case l__law_pool => k_is)
    (case c__law_pool => k_is)
    (case k__law_pool => k_is)
    (case a__law_take => k_is)
    (case l__law_take => k_is)
    (case c__law_take => k_is)
    (case k__law_take => k_is)
    (case a_partitions => k_is)
    (case l_partitions => k_is)
    (case c_partitions => k_is)
    (case k_partitions => k_is)
    (case a_law => k_is)
    (case l_law => k_is)
    (case c_law => k_is)
    (case k_law => k_is)
end
