import PyProof.Rows.All
import Wide.All
import OpenK.AllK
import Wide.FinOn
import HandS.ForMost
import HandS.ForExc
import HandS.CallSlots
import HandS.Wide
import HandS.Deep
import PyProof.EqAt
import PyProof.EqKinds
import PyProof.NeKinds
import HandS.Conv
import HandS.Text
import HandS.TupLen
import HandS.Defaults
import PyProof.ReprReads
import HandS.Base
import HandS.Call
import HandS.List
import HandS.Ends
import HandS.More
import HandS.HeadEnd
import HandS.EndBits
import HandS.Exc
import HandS.ExcOwn
import HandS.ExcInit
import HandS.ExcIs
import HandS.ExcField
import HandS.IsInst
import PyProof.ReprRoads
import HandS.Iter
import HandS.Comp
import HandS.FStrTup
import KE.KStateDown
import Lean
import HandS.Head0
import HandS.Head1
import HandS.Head2
import HandS.HeadHook1
import HandS.HeadHook2
import HandS.HeadHook3
import HandS.HeadHook4
import PySem.Challenge.RW_cornerturn_k61_errors_by_hand
set_option Elab.async false
set_option linter.all false
set_option maxRecDepth 100000
set_option maxHeartbeats 0
/-! DL a: data, what represents it, the state of slots. -/
namespace DL
open PySem PySem.Spec PyProof.Rows L2

/-- plain data -/
inductive D where
  | non | bl (b : Bool) | int (i : Int) | str (x : Str)
  | lst (xs : List D) | tup (xs : List D)
  | dk (kvs : List (Key × D)) | dt (kvs : List (List Key × D))
  | ins (C : Addr) (fs : List (Str × D))
  | fz (ns : List Int)

/-- all that stands in the first stands in the second -/
def Ex (H H' : Hp) : Prop := ∀ a o, H a = some o → H' a = some o
theorem Ex.refl (H : Hp) : Ex H H := fun _ _ h => h
theorem Ex.trans {H H1 H2 : Hp} (a : Ex H H1) (b : Ex H1 H2) : Ex H H2 := fun x o h => b x o (a x o h)
theorem Ex.new {H : Hp} {p : Addr} {o : HO} (h : H p = none) : Ex H (upd H p o) := fun a u e => by
  rw [upd_ne (ne_of_none e h)]
  exact e

/-! ### what represents data -/
mutual
inductive Rep (H : Hp) : V → D → Prop
  | non : Rep H .non .non
  | bl (b : Bool) : Rep H (.bl b) (.bl b)
  | int (i : Int) : Rep H (.int i) (.int i)
  | str (x : Str) : Rep H (.str x) (.str x)
  | lst {a : Addr} {vs : List V} {xs : List D} : H a = some (.lst vs) → Reps H vs xs → Rep H (.ref a) (.lst xs)
  | tup {a : Addr} {vs : List V} {xs : List D} : H a = some (.tup vs) → Reps H vs xs → Rep H (.ref a) (.tup xs)
  | dk {a : Addr} {kvs : List (Key × V)} {xs : List (Key × D)} : H a = some (.dK kvs) → RepK H kvs xs → Rep H (.ref a) (.dk xs)
  | dt {a : Addr} {kvs : List (List Key × V)} {xs : List (List Key × D)} : H a = some (.dT kvs) → RepT H kvs xs → Rep H (.ref a) (.dt xs)
  | ins {a C dx : Addr} {fs : List (Str × V)} {xs : List (Str × D)} : H a = some (.ins C dx fs) → RepF H fs xs → Rep H (.ref a) (.ins C xs)
inductive Reps (H : Hp) : List V → List D → Prop
  | nil : Reps H [] []
  | cons {v : V} {x : D} {vs : List V} {xs : List D} : Rep H v x → Reps H vs xs → Reps H (v :: vs) (x :: xs)
inductive RepK (H : Hp) : List (Key × V) → List (Key × D) → Prop
  | nil : RepK H [] []
  | cons {k : Key} {v : V} {x : D} {vs : List (Key × V)} {xs : List (Key × D)} : Rep H v x → RepK H vs xs → RepK H ((k, v) :: vs) ((k, x) :: xs)
inductive RepT (H : Hp) : List (List Key × V) → List (List Key × D) → Prop
  | nil : RepT H [] []
  | cons {k : List Key} {v : V} {x : D} {vs : List (List Key × V)} {xs : List (List Key × D)} : Rep H v x → RepT H vs xs → RepT H ((k, v) :: vs) ((k, x) :: xs)
inductive RepF (H : Hp) : List (Str × V) → List (Str × D) → Prop
  | nil : RepF H [] []
  | cons {k : Str} {v : V} {x : D} {vs : List (Str × V)} {xs : List (Str × D)} : Rep H v x → RepF H vs xs → RepF H ((k, v) :: vs) ((k, x) :: xs)
end
mutual
theorem Rep.mono {H H' : Hp} (e : Ex H H') : ∀ {v : V} {x : D}, Rep H v x → Rep H' v x
  | _, _, .non => .non
  | _, _, .bl b => .bl b
  | _, _, .int i => .int i
  | _, _, .str s => .str s
  | _, _, .lst h r => .lst (e _ _ h) (Reps.mono e r)
  | _, _, .tup h r => .tup (e _ _ h) (Reps.mono e r)
  | _, _, .dk h r => .dk (e _ _ h) (RepK.mono e r)
  | _, _, .dt h r => .dt (e _ _ h) (RepT.mono e r)
  | _, _, .ins h r => .ins (e _ _ h) (RepF.mono e r)
theorem Reps.mono {H H' : Hp} (e : Ex H H') : ∀ {v : List V} {x : List D}, Reps H v x → Reps H' v x
  | _, _, .nil => .nil
  | _, _, .cons h r => .cons (Rep.mono e h) (Reps.mono e r)
theorem RepK.mono {H H' : Hp} (e : Ex H H') : ∀ {v : List (Key × V)} {x : List (Key × D)}, RepK H v x → RepK H' v x
  | _, _, .nil => .nil
  | _, _, .cons h r => .cons (Rep.mono e h) (RepK.mono e r)
theorem RepT.mono {H H' : Hp} (e : Ex H H') : ∀ {v : List (List Key × V)} {x : List (List Key × D)}, RepT H v x → RepT H' v x
  | _, _, .nil => .nil
  | _, _, .cons h r => .cons (Rep.mono e h) (RepT.mono e r)
theorem RepF.mono {H H' : Hp} (e : Ex H H') : ∀ {v : List (Str × V)} {x : List (Str × D)}, RepF H v x → RepF H' v x
  | _, _, .nil => .nil
  | _, _, .cons h r => .cons (Rep.mono e h) (RepF.mono e r)
end

theorem Reps.length {H : Hp} : ∀ {vs : List V} {xs : List D}, Reps H vs xs → vs.length = xs.length
  | _, _, .nil => rfl
  | _, _, .cons _ r => congrArg (· + 1) r.length
theorem Reps.get {H : Hp} : ∀ {vs : List V} {xs : List D} {i : Nat} {x : D}, Reps H vs xs → xs[i]? = some x → ∃ v, vs[i]? = some v ∧ Rep H v x
  | _, _, _, _, .nil, e => by simp at e
  | _, _, 0, _, .cons h _, e => by
    simp at e
    subst e
    exact ⟨_, rfl, h⟩
  | _, _, i + 1, _, .cons _ r, e => by
    obtain ⟨v, h1, h2⟩ := Reps.get (i := i) r (by simpa using e)
    exact ⟨v, by simpa using h1, h2⟩
theorem Reps.getV {H : Hp} : ∀ {vs : List V} {xs : List D} {i : Nat} {v : V}, Reps H vs xs → vs[i]? = some v → ∃ x, xs[i]? = some x ∧ Rep H v x
  | _, _, _, _, .nil, e => by simp at e
  | _, _, 0, _, .cons h _, e => by
    simp at e
    subst e
    exact ⟨_, rfl, h⟩
  | _, _, i + 1, _, .cons _ r, e => by
    obtain ⟨v, h1, h2⟩ := Reps.getV (i := i) r (by simpa using e)
    exact ⟨v, by simpa using h1, h2⟩
theorem Reps.append {H : Hp} : ∀ {vs ws : List V} {xs ys : List D}, Reps H vs xs → Reps H ws ys → Reps H (vs ++ ws) (xs ++ ys)
  | _, _, _, _, .nil, s => s
  | _, _, _, _, .cons h r, s => .cons h (r.append s)
theorem Reps.take {H : Hp} : ∀ {vs : List V} {xs : List D} (n : Nat), Reps H vs xs → Reps H (vs.take n) (xs.take n)
  | _, _, 0, _ => .nil
  | _, _, _ + 1, .nil => .nil
  | _, _, n + 1, .cons h r => .cons h (r.take n)
theorem Reps.drop {H : Hp} : ∀ {vs : List V} {xs : List D} (n : Nat), Reps H vs xs → Reps H (vs.drop n) (xs.drop n)
  | _, _, 0, r => r
  | _, _, _ + 1, .nil => .nil
  | _, _, n + 1, .cons _ r => r.drop n
theorem Reps.set {H : Hp} {v : V} {x : D} (h : Rep H v x) : ∀ {vs : List V} {xs : List D} (i : Nat), Reps H vs xs → Reps H (vs.set i v) (xs.set i x)
  | _, _, _, .nil => .nil
  | _, _, 0, .cons _ r => .cons h r
  | _, _, i + 1, .cons g r => .cons g (Reps.set h i r)
theorem Reps.eraseIdx {H : Hp} : ∀ {vs : List V} {xs : List D} (i : Nat), Reps H vs xs → Reps H (vs.eraseIdx i) (xs.eraseIdx i)
  | _, _, _, .nil => .nil
  | _, _, 0, .cons _ r => r
  | _, _, i + 1, .cons g r => .cons g (r.eraseIdx i)
theorem Reps.dropLast {H : Hp} {vs : List V} {xs : List D} (r : Reps H vs xs) : Reps H vs.dropLast xs.dropLast := by
  rw [List.dropLast_eq_take, List.dropLast_eq_take, r.length]
  exact r.take _
theorem Reps.one {H : Hp} {vs : List V} {x : D} (r : Reps H vs [x]) : ∃ v, vs = [v] ∧ Rep H v x := by
  cases r with
  | cons h r =>
    cases r
    exact ⟨_, rfl, h⟩
theorem Reps.ints {H : Hp} : ∀ {vs : List V} {ns : List Int}, Reps H vs (ns.map D.int) → vs = ns.map V.int
  | _, [], .nil => rfl
  | _, n :: ns, .cons h r => by
    cases h
    rw [r.ints]
    rfl
theorem Reps.strs {H : Hp} : ∀ {vs : List V} {ns : List Str}, Reps H vs (ns.map D.str) → vs = ns.map V.str
  | _, [], .nil => rfl
  | _, n :: ns, .cons h r => by
    cases h
    rw [r.strs]
    rfl
theorem Reps.bls {H : Hp} : ∀ {vs : List V} {ns : List Bool}, Reps H vs (ns.map D.bl) → vs = ns.map V.bl
  | _, [], .nil => rfl
  | _, n :: ns, .cons h r => by
    cases h
    rw [r.bls]
    rfl

/-! ### dicts as data -/
section
variable {κ : Type} [DecidableEq κ]
def valD (kvs : List (κ × D)) (k : κ) : Option D := (kvs.find? fun kv => decide (kv.1 = k)).map (·.2)
def putD (kvs : List (κ × D)) (k : κ) (v : D) : List (κ × D) :=
  if (kvs.any fun kv => decide (kv.1 = k)) = true then kvs.map (fun kv => if kv.1 = k then (kv.1, v) else kv) else kvs ++ [(k, v)]
def dropD (kvs : List (κ × D)) (k : κ) : List (κ × D) := kvs.filter fun kv => decide (kv.1 ≠ k)
def mergeD (kvs more : List (κ × D)) : List (κ × D) := more.foldl (fun acc kv => putD acc kv.1 kv.2) kvs
end

end DL


/-! DL b: the state of slots, what holds of it, steps; expressions, tests, arguments. -/
namespace DL
open PySem PySem.Spec PyProof.Rows L2

/-- an object that is one's own: its items are data that never changes -/
inductive Cell where
  | lst (xs : List D) | dk (kvs : List (Key × D)) | dt (kvs : List (List Key × D))
def Cell.toD : Cell → D
  | .lst xs => .lst xs
  | .dk kvs => .dk kvs
  | .dt kvs => .dt kvs
/-- nothing known; data; data that may change behind the def (its items may not); one's own object; a parameter's object that the def may change -/
inductive Slot where
  | un | d (x : D) | b (x : D) | o (c : Cell) | p (c : Cell)
abbrev S := List Slot
/-- an expression's value: data; borrowed data; what stands in slot i; a new object -/
inductive RV where
  | d (x : D) | b (x : D) | sl (i : Nat) | n (c : Cell)

def CellO (Hf : Hp) (u : HO) : Cell → Prop
  | .lst xs => ∃ vs, u = .lst vs ∧ Reps Hf vs xs
  | .dk xs => ∃ vs, u = .dK vs ∧ RepK Hf vs xs
  | .dt xs => ∃ vs, u = .dT vs ∧ RepT Hf vs xs
def CellAt (Hf H : Hp) (a : Addr) (c : Cell) : Prop := ∃ u, H a = some u ∧ CellO Hf u c
theorem CellO.mono {Hf Hf' : Hp} (e : Ex Hf Hf') {u : HO} {c : Cell} (h : CellO Hf u c) : CellO Hf' u c := by
  cases c with
  | lst xs => obtain ⟨vs, h1, h2⟩ := h; exact ⟨vs, h1, h2.mono e⟩
  | dk xs => obtain ⟨vs, h1, h2⟩ := h; exact ⟨vs, h1, h2.mono e⟩
  | dt xs => obtain ⟨vs, h1, h2⟩ := h; exact ⟨vs, h1, h2.mono e⟩
theorem CellO.rep {Hf : Hp} {u : HO} {c : Cell} {a : Addr} (h : CellO Hf u c) (ha : Hf a = some u) : Rep Hf (.ref a) c.toD := by
  cases c with
  | lst xs => obtain ⟨vs, rfl, h2⟩ := h; exact .lst ha h2
  | dk xs => obtain ⟨vs, rfl, h2⟩ := h; exact .dk ha h2
  | dt xs => obtain ⟨vs, rfl, h2⟩ := h; exact .dt ha h2

theorem CellO.nofrz {Hf : Hp} {ob : Obj} {u : HO} {c : Cell} (h : CellO Hf (.frz ob u) c) : False := by
  cases c with
  | lst xs => obtain ⟨vs, e, _⟩ := h; cases e
  | dk xs => obtain ⟨vs, e, _⟩ := h; cases e
  | dt xs => obtain ⟨vs, e, _⟩ := h; cases e
/-- the dicts that may be locked -/
def IsDict (o : HO) : Prop := (∃ kvs, o = .dK kvs) ∨ ∃ kvs, o = .dT kvs
def Exl (L : List Addr) (H H' : Hp) : Prop := ∀ a o, H a = some o → H' a = some o ∨ (a ∈ L ∧ IsDict o ∧ ∃ ob, H' a = some (.frz ob o))
theorem Exl.ex {H H' : Hp} (h : Exl [] H H') : Ex H H' := fun a o e => (h a o e).elim id fun q => nomatch q.1
theorem Ex.exl {H H' : Hp} {L : List Addr} (h : Ex H H') : Exl L H H' := fun a o e => .inl (h a o e)

/-- shallow: the thing itself as it stands in H, its items data over Hf -/
inductive RepH (Hf H : Hp) : V → D → Prop
  | non : RepH Hf H .non .non
  | bl (b : Bool) : RepH Hf H (.bl b) (.bl b)
  | int (i : Int) : RepH Hf H (.int i) (.int i)
  | str (x : Str) : RepH Hf H (.str x) (.str x)
  | lst {a : Addr} {vs : List V} {xs : List D} : H a = some (.lst vs) → Reps Hf vs xs → RepH Hf H (.ref a) (.lst xs)
  | fz {a : Addr} {ns : List Int} : Rd H a (.lst (ns.map V.int)) → RepH Hf H (.ref a) (.fz ns)
  | tup {a : Addr} {vs : List V} {xs : List D} : H a = some (.tup vs) → Reps Hf vs xs → RepH Hf H (.ref a) (.tup xs)
  | dk {a : Addr} {kvs : List (Key × V)} {xs : List (Key × D)} : Rd H a (.dK kvs) → RepK Hf kvs xs → RepH Hf H (.ref a) (.dk xs)
  | dt {a : Addr} {kvs : List (List Key × V)} {xs : List (List Key × D)} : Rd H a (.dT kvs) → RepT Hf kvs xs → RepH Hf H (.ref a) (.dt xs)
  | ins {a C dx : Addr} {fs : List (Str × V)} {xs : List (Str × D)} : H a = some (.ins C dx fs) → RepF Hf fs xs → RepH Hf H (.ref a) (.ins C xs)
/-- what is borrowed -/
inductive RepB (Hs Hf : Hp) : V → D → Prop
  | of {v : V} {x : D} : Rep Hf v x → RepB Hs Hf v x
  | lst {a : Addr} {vs : List V} {xs : List D} : Hs a = some (.lst vs) → Reps Hf vs xs → RepB Hs Hf (.ref a) (.lst xs)
  | fz {a : Addr} {ns : List Int} : Rd Hs a (.lst (ns.map V.int)) → RepB Hs Hf (.ref a) (.fz ns)
  | dk {a : Addr} {kvs : List (Key × V)} {xs : List (Key × D)} : Rd Hs a (.dK kvs) → RepK Hf kvs xs → RepB Hs Hf (.ref a) (.dk xs)
  | dt {a : Addr} {kvs : List (List Key × V)} {xs : List (List Key × D)} : Rd Hs a (.dT kvs) → RepT Hf kvs xs → RepB Hs Hf (.ref a) (.dt xs)
theorem RepB.mono {Hs Hf Hf' : Hp} (e : Ex Hf Hf') {v : V} {x : D} : RepB Hs Hf v x → RepB Hs Hf' v x
  | .of h => .of (h.mono e)
  | .lst h r => .lst h (r.mono e)
  | .fz h => .fz h
  | .dk h r => .dk h (r.mono e)
  | .dt h r => .dt h (r.mono e)
theorem exl_rd {L : List Addr} {H H' : Hp} (e : Exl L H H') {a : Addr} {u : HO} (h : Rd H a u) : Rd H' a u := by
  rcases h with h | ⟨o, h⟩
  · rcases e a _ h with q | ⟨_, _, ob, q⟩
    · exact .inl q
    · exact .inr ⟨ob, q⟩
  · rcases e a _ h with q | ⟨_, d, ob, q⟩
    · exact .inr ⟨o, q⟩
    · rcases d with ⟨_, d⟩ | ⟨_, d⟩ <;> cases d
theorem exl_at {L : List Addr} {H H' : Hp} (e : Exl L H H') {a : Addr} {u : HO} (h : H a = some u) (n : ¬ IsDict u) : H' a = some u := by
  rcases e a _ h with q | ⟨_, d, _⟩
  · exact q
  · exact absurd d n
theorem Rep.reph {L : List Addr} {Hf H : Hp} (e : Exl L Hf H) {v : V} {x : D} (h : Rep Hf v x) : RepH Hf H v x := by
  cases h with
  | non => exact .non
  | bl b => exact .bl b
  | int i => exact .int i
  | str s => exact .str s
  | lst h r => exact .lst (exl_at e h (by rintro (⟨_, q⟩ | ⟨_, q⟩) <;> cases q)) r
  | tup h r => exact .tup (exl_at e h (by rintro (⟨_, q⟩ | ⟨_, q⟩) <;> cases q)) r
  | dk h r => exact .dk (exl_rd e (.inl h)) r
  | dt h r => exact .dt (exl_rd e (.inl h)) r
  | ins h r => exact .ins (exl_at e h (by rintro (⟨_, q⟩ | ⟨_, q⟩) <;> cases q)) r
theorem RepB.reph {L : List Addr} {Hs Hf H : Hp} (e : Exl L Hf H) (es : Exl L Hs H) {v : V} {x : D} (h : RepB Hs Hf v x) : RepH Hf H v x := by
  cases h with
  | of h => exact h.reph e
  | lst h r => exact .lst (exl_at es h (by rintro (⟨_, q⟩ | ⟨_, q⟩) <;> cases q)) r
  | fz h => exact .fz (exl_rd es h)
  | dk h r => exact .dk (exl_rd es h) r
  | dt h r => exact .dt (exl_rd es h) r
theorem CellO.reph {Hf H : Hp} {u : HO} {c : Cell} {a : Addr} (h : CellO Hf u c) (ha : H a = some u) : RepH Hf H (.ref a) c.toD := by
  cases c with
  | lst xs => obtain ⟨vs, rfl, h2⟩ := h; exact .lst ha h2
  | dk xs => obtain ⟨vs, rfl, h2⟩ := h; exact .dk (.inl ha) h2
  | dt xs => obtain ⟨vs, rfl, h2⟩ := h; exact .dt (.inl ha) h2

/-- the entry: the heap there, what of it never changes, the parameters that the def may change -/
structure Gm where
  H0 : Hp
  Hf0 : Hp
  ms : List Addr
  pa : Nat → Addr
def Gm.Hs (Γ : Gm) : Hp := fun a => if a ∈ Γ.ms then none else Γ.H0 a

def Owns (st : S) (i : Nat) : Prop := (∃ c, st[i]? = some (.o c)) ∨ ∃ c, st[i]? = some (.p c)
def SlotOk (Γ : Gm) (Hf : Hp) (a : Addr) (v : Option (Option V)) : Slot → Prop
  | .un => True
  | .d x => ∃ u, v = some (some u) ∧ Rep Hf u x
  | .b x => ∃ u, v = some (some u) ∧ RepB Γ.Hs Hf u x
  | .o _ => v = some (some (.ref a))
  | .p _ => v = some (some (.ref a))
structure Sat (Γ : Gm) (L : List Addr) (Hf : Hp) (ad : Nat → Addr) (st : S) (σ : L2.St) (H : Hp) : Prop where
  len : σ.length = st.length
  exf : Exl L Hf H
  exs : Exl L Γ.Hs H
  base : Ex Γ.Hf0 Hf
  new : ∀ a o, Hf a = some o → Γ.Hf0 a = some o ∨ Γ.H0 a = none
  live : ∀ a ∈ Γ.ms, ∃ o, H a = some o
  msf : ∀ a ∈ Γ.ms, Hf a = none
  ms0 : ∀ a ∈ Γ.ms, Γ.H0 a ≠ none
  own : ∀ i c, st[i]? = some (.o c) → Γ.H0 (ad i) = none ∧ Hf (ad i) = none ∧ CellAt Hf H (ad i) c
  par : ∀ i c, st[i]? = some (.p c) → (ad i = Γ.pa i ∧ ad i ∈ Γ.ms) ∧ CellAt Hf H (ad i) c
  lk : ∀ a ∈ L, ∃ ob u, H a = some (.frz ob u)
  inj : ∀ i j, Owns st i → Owns st j → ad i = ad j → i = j
  sl : ∀ i s, st[i]? = some s → SlotOk Γ Hf (ad i) σ[i]? s

def RepR (Γ : Gm) (Hf : Hp) (ad : Nat → Addr) (st : S) (σ : L2.St) (Hb H : Hp) (v : V) : RV → Prop
  | .d x => Rep Hf v x
  | .b x => RepB Γ.Hs Hf v x
  | .sl i => σ[i]? = some (some v)
  | .n c => ∃ p, v = .ref p ∧ Hb p = none ∧ Γ.H0 p = none ∧ Hf p = none ∧ (∀ i, Owns st i → ad i ≠ p) ∧ CellAt Hf H p c
/-- what an expression's value holds -/
def slotD : Option Slot → Option D
  | some (.o c) => some c.toD
  | some (.p c) => some c.toD
  | some (.d x) => some x
  | some (.b x) => some x
  | _ => none
def cont (st : S) : RV → Option D
  | .d x => some x
  | .b x => some x
  | .n c => some c.toD
  | .sl i => slotD st[i]?

/-- from one state to a later one, within an expression -/
structure Nxt (ad : Nat → Addr) (st : S) (Hf H : Hp) (st' : S) (Hf' H' : Hp) : Prop where
  ex : Ex Hf Hf'
  new : ∀ a o, Hf' a = some o → Hf a = some o ∨ H a = none ∨ ∃ i, Owns st i ∧ ad i = a
  keep : ∀ a o, H a = some o → (∀ i, Owns st i → ad i ≠ a) → H' a = some o
  there : ∀ a o, H a = some o → ∃ o', H' a = some o'
  sub : ∀ i, Owns st' i → Owns st i
section
variable {Γ : Gm} {L : List Addr} {Hf Hf' Hf1 Hf2 H H' H1 H2 Hb : Hp} {ad : Nat → Addr} {st st1 st2 st' : S} {σ : L2.St} {v : V} {x : D} {rv : RV}
theorem Nxt.refl : Nxt ad st Hf H st Hf H := ⟨Ex.refl _, fun _ _ h => .inl h, fun _ _ h _ => h, fun _ o h => ⟨o, h⟩, fun _ h => h⟩
theorem Nxt.none (n : Nxt ad st Hf H st1 Hf1 H1) {p : Addr} (h : H1 p = none) : H p = none := by
  cases q : H p with
  | none => rfl
  | some o =>
    obtain ⟨o', e⟩ := n.there p o q
    rw [e] at h
    cases h
theorem Nxt.trans (a : Nxt ad st Hf H st1 Hf1 H1) (b : Nxt ad st1 Hf1 H1 st2 Hf2 H2) : Nxt ad st Hf H st2 Hf2 H2 where
  ex := a.ex.trans b.ex
  new := fun x o h => by
    rcases b.new x o h with q | q | ⟨i, h1, h2⟩
    · exact a.new x o q
    · exact .inr (.inl (a.none q))
    · exact .inr (.inr ⟨i, a.sub i h1, h2⟩)
  keep := fun x o h n => b.keep x o (a.keep x o h n) fun i hi => n i (a.sub i hi)
  there := fun x o h => by
    obtain ⟨o', h1⟩ := a.there x o h
    exact b.there x o' h1
  sub := fun i h => a.sub i (b.sub i h)
theorem Sat.none0 (s : Sat Γ L Hf ad st σ H) {p : Addr} (h : H p = none) : Γ.H0 p = none := by
  by_cases hm : p ∈ Γ.ms
  · obtain ⟨o, e⟩ := s.live p hm
    rw [e] at h
    cases h
  · cases q : Γ.H0 p with
    | none => rfl
    | some o =>
      have e : Γ.Hs p = some o := by
        unfold Gm.Hs
        rw [if_neg hm, q]
      rcases s.exs p o e with r | ⟨_, _, _, r⟩ <;> rw [r] at h <;> cases h
theorem Sat.nonef (s : Sat Γ L Hf ad st σ H) {p : Addr} (h : H p = none) : Hf p = none := by
  cases q : Hf p with
  | none => rfl
  | some o => rcases s.exf p o q with r | ⟨_, _, _, r⟩ <;> rw [r] at h <;> cases h
theorem Sat.cell (s : Sat Γ L Hf ad st σ H) {i : Nat} (h : Owns st i) : ∃ c, CellAt Hf H (ad i) c := by
  rcases h with ⟨c, h⟩ | ⟨c, h⟩
  · exact ⟨c, (s.own i c h).2.2⟩
  · exact ⟨c, (s.par i c h).2⟩
theorem Sat.noneo (s : Sat Γ L Hf ad st σ H) {p : Addr} (h : H p = none) : ∀ i, Owns st i → ad i ≠ p := fun i hi e => by
  obtain ⟨c, u, q, _⟩ := s.cell hi
  rw [e, h] at q
  cases q
theorem RepR.later (a : Nxt ad st Hf H st1 Hf1 H1) (h : RepR Γ Hf ad st σ Hb H v rv) : RepR Γ Hf1 ad st1 σ Hb H1 v rv := by
  cases rv with
  | d x => exact Rep.mono a.ex h
  | b x => exact RepB.mono a.ex h
  | sl i => exact h
  | n c =>
    obtain ⟨p, e, h1, h2, h3, h4, u, h5, h6⟩ := h
    refine ⟨p, e, h1, h2, ?_, fun i hi => h4 i (a.sub i hi), u, a.keep p u h5 h4, h6.mono a.ex⟩
    cases q : Hf1 p with
    | none => rfl
    | some o =>
      rcases a.new p o q with r | r | ⟨i, hi, r⟩
      · rw [h3] at r; cases r
      · rw [h5] at r; cases r
      · exact absurd r (h4 i hi)
/-- from an earlier begin -/
theorem RepR.from (a : Nxt ad st Hf Hb st1 Hf1 H1) (h : RepR Γ Hf2 ad st2 σ H1 H2 v rv) : RepR Γ Hf2 ad st2 σ Hb H2 v rv := by
  cases rv with
  | d x => exact h
  | b x => exact h
  | sl i => exact h
  | n c =>
    obtain ⟨p, e, h1, r⟩ := h
    exact ⟨p, e, a.none h1, r⟩
/-- what it holds, as it stands -/
theorem RepR.reph (s : Sat Γ L Hf ad st σ H) (h : RepR Γ Hf ad st σ Hb H v rv) (c : cont st rv = some x) : RepH Hf H v x := by
  cases rv with
  | d y =>
    cases c
    exact Rep.reph s.exf h
  | b y =>
    cases c
    exact RepB.reph s.exf s.exs h
  | n c' =>
    cases c
    obtain ⟨p, rfl, _, _, _, _, u, h5, h6⟩ := h
    exact h6.reph h5
  | sl i =>
    have h : σ[i]? = some (some v) := h
    have c : slotD st[i]? = some x := c
    cases q : st[i]? with
    | none => rw [q] at c; cases c
    | some sl =>
      rw [q] at c
      have k := s.sl i sl q
      rw [h] at k
      cases sl with
      | un => cases c
      | d y =>
        cases c
        obtain ⟨u, e, r⟩ := k
        cases e
        exact r.reph s.exf
      | b y =>
        cases c
        obtain ⟨u, e, r⟩ := k
        cases e
        exact r.reph s.exf s.exs
      | o y =>
        cases c
        have k : some (some v) = some (some (V.ref (ad i))) := k
        cases k
        obtain ⟨_, _, u, h5, h6⟩ := s.own i y q
        exact h6.reph h5
      | p y =>
        cases c
        have k : some (some v) = some (some (V.ref (ad i))) := k
        cases k
        obtain ⟨_, u, h5, h6⟩ := s.par i y q
        exact h6.reph h5
end

/-! ### what an operation by values gives -/
/-- data as it stands; a new object, one's own; a new object that is never changed -/
inductive Res (Hf H : Hp) : RV → V → Hp → Hp → Prop
  | same {v : V} {x : D} : Rep Hf v x → Res Hf H (.d x) v Hf H
  | new {p : Addr} {u : HO} {c : Cell} : H p = none → CellO Hf u c → Res Hf H (.n c) (.ref p) Hf (upd H p u)
  | tup {p : Addr} {vs : List V} {xs : List D} : H p = none → Reps Hf vs xs → Res Hf H (.d (.tup xs)) (.ref p) (upd Hf p (.tup vs)) (upd H p (.tup vs))
section
variable {Γ : Gm} {L : List Addr} {Hf Hf' Hf1 Hf2 H H' H1 H2 Hb : Hp} {ad : Nat → Addr} {st st1 st2 st' : S} {σ : L2.St} {v : V} {x : D} {rv : RV}
theorem upd_some {H : Hp} {p a : Addr} {o u : HO} (h : H p = none) (e : H a = some o) : upd H p u a = some o := by
  rw [upd_ne (ne_of_none e h)]
  exact e
theorem CellAt.alloc {p a : Addr} {u : HO} {c : Cell} (h : H p = none) (x : CellAt Hf H a c) : CellAt Hf (upd H p u) a c := by
  obtain ⟨w, e, r⟩ := x
  exact ⟨w, upd_some h e, r⟩
theorem Exl.alloc {p : Addr} {u : HO} (h : H p = none) (x : Exl L Hf H) : Exl L Hf (upd H p u) := fun a o e => by
  rcases x a o e with q | ⟨q1, q2, ob, q3⟩
  · exact .inl (upd_some h q)
  · exact .inr ⟨q1, q2, ob, upd_some h q3⟩
theorem SlotOk.mono (e : Ex Hf Hf') {a : Addr} {o : Option (Option V)} {s : Slot} (h : SlotOk Γ Hf a o s) : SlotOk Γ Hf' a o s := by
  cases s with
  | un => trivial
  | d x => obtain ⟨u, h1, h2⟩ := h; exact ⟨u, h1, h2.mono e⟩
  | b x => obtain ⟨u, h1, h2⟩ := h; exact ⟨u, h1, h2.mono e⟩
  | o c => exact h
  | p c => exact h
/-- a new object, not tracked by any slot -/
theorem Sat.alloc (s : Sat Γ L Hf ad st σ H) {p : Addr} {u : HO} (h : H p = none) : Sat Γ L Hf ad st σ (upd H p u) :=
  ⟨s.len, s.exf.alloc h, s.exs.alloc h, s.base, s.new, fun a ha => by
    obtain ⟨o, e⟩ := s.live a ha
    exact ⟨o, upd_some h e⟩, s.msf, s.ms0, fun i c e => by
    obtain ⟨h1, h2, h3⟩ := s.own i c e
    exact ⟨h1, h2, h3.alloc h⟩, fun i c e => by
    obtain ⟨h1, h3⟩ := s.par i c e
    exact ⟨h1, h3.alloc h⟩, fun a ha => by
    obtain ⟨ob, w, q⟩ := s.lk a ha
    exact ⟨ob, w, upd_some h q⟩, s.inj, s.sl⟩
/-- the ground grows by an object that stands and is nobody's -/
theorem Sat.ground (s : Sat Γ L Hf ad st σ H) {p : Addr} {u : HO} (h : H p = some u) (h0 : Γ.H0 p = none) (hf : Hf p = none) (hm : p ∉ Γ.ms) (ho : ∀ i, Owns st i → ad i ≠ p) : Sat Γ L (upd Hf p u) ad st σ H := by
  have e : Ex Hf (upd Hf p u) := Ex.new hf
  refine ⟨s.len, fun a o q => ?_, s.exs, s.base.trans e, fun a o q => ?_, s.live, fun a ha => ?_, s.ms0, fun i c q => ?_, fun i c q => ?_, s.lk, s.inj, fun i sl q => (s.sl i sl q).mono e⟩
  · by_cases ha : a = p
    · subst ha
      rw [upd_same] at q
      cases q
      exact .inl h
    · rw [upd_ne ha] at q
      exact s.exf a o q
  · by_cases ha : a = p
    · subst ha
      exact .inr h0
    · rw [upd_ne ha] at q
      exact s.new a o q
  · rw [upd_ne (fun z => hm (by rw [← z]; exact ha))]
    exact s.msf a ha
  · obtain ⟨h1, h2, w, h3, h4⟩ := s.own i c q
    exact ⟨h1, by rw [upd_ne (ho i (.inl ⟨c, q⟩))]; exact h2, w, h3, h4.mono e⟩
  · obtain ⟨h1, w, h3, h4⟩ := s.par i c q
    exact ⟨h1, w, h3, h4.mono e⟩
theorem Sat.nm (s : Sat Γ L Hf ad st σ H) {p : Addr} (h : H p = none) : p ∉ Γ.ms := fun hm => by
  obtain ⟨o, e⟩ := s.live p hm
  rw [e] at h
  cases h
theorem Res.go (s : Sat Γ L Hf ad st σ H) (r : Res Hf H rv v Hf' H') : Nxt ad st Hf H st Hf' H' ∧ Sat Γ L Hf' ad st σ H' ∧ RepR Γ Hf' ad st σ H H' v rv := by
  cases r with
  | same h => exact ⟨Nxt.refl, s, h⟩
  | @new p u c h hc =>
    refine ⟨⟨Ex.refl _, fun _ _ q => .inl q, fun a o q _ => upd_some h q, fun a o q => ⟨o, upd_some h q⟩, fun _ q => q⟩, s.alloc h, p, rfl, h, s.none0 h, s.nonef h, s.noneo h, u, upd_same, hc⟩
  | @tup p vs xs h hr =>
    have hf := s.nonef h
    refine ⟨⟨Ex.new hf, fun a o q => ?_, fun a o q _ => upd_some h q, fun a o q => ⟨o, upd_some h q⟩, fun _ q => q⟩, (s.alloc h).ground upd_same (s.none0 h) hf (s.nm h) (s.noneo h), .tup upd_same (hr.mono (Ex.new hf))⟩
    by_cases ha : a = p
    · subst ha
      exact .inr (.inl h)
    · rw [upd_ne ha] at q
      exact .inl q
end

/-! ### expressions, tests, arguments -/
/-- an exception's class, the field and value that it bears (if anything is known of them), the state -/
abbrev XC := Addr → Option (Str × D) → S → Prop
abbrev WE := S → (RV → S → Prop) → XC → Prop
abbrev WT := S → (Bool → S → Prop) → XC → Prop
abbrev WA := S → (List RV → S → Prop) → XC → Prop
def PayR (Hf H : Hp) (d : Option Addr) : Option (Str × D) → Prop
  | none => True
  | some (f, x) => ∃ a v, d = some a ∧ H a = some (.xd [(f, v)]) ∧ Rep Hf v x
def XOk (W : WX) (Γ : Gm) (L : List Addr) (Hf : Hp) (ad : Nat → Addr) (st : S) (σ : L2.St) (H : Hp) (E : XC) : Prop :=
  ∀ C x st', E C x st' → ∀ d Hf' H', Nxt ad st Hf H st' Hf' H' → Sat Γ L Hf' ad st' σ H' → PayR Hf' H' d x → W (.ref C) d σ H'
def LE (W : WX) (w : WE) : TE := fun σ H Q => ∃ Γ L Hf ad st P E, Sat Γ L Hf ad st σ H ∧ w st P E ∧
  (∀ rv st', P rv st' → ∀ v Hf' H', Nxt ad st Hf H st' Hf' H' → Sat Γ L Hf' ad st' σ H' → RepR Γ Hf' ad st' σ H H' v rv → Q v H') ∧ XOk W Γ L Hf ad st σ H E
def LT (W : WX) (w : WT) : TT := fun σ H Q => ∃ Γ L Hf ad st P E, Sat Γ L Hf ad st σ H ∧ w st P E ∧
  (∀ b st', P b st' → ∀ Hf' H', Nxt ad st Hf H st' Hf' H' → Sat Γ L Hf' ad st' σ H' → Q b H') ∧ XOk W Γ L Hf ad st σ H E
inductive RepRs (Γ : Gm) (Hf : Hp) (ad : Nat → Addr) (st : S) (σ : L2.St) (Hb H : Hp) : List V → List RV → Prop
  | nil : RepRs Γ Hf ad st σ Hb H [] []
  | cons {v : V} {r : RV} {vs : List V} {rs : List RV} : RepR Γ Hf ad st σ Hb H v r → RepRs Γ Hf ad st σ Hb H vs rs → RepRs Γ Hf ad st σ Hb H (v :: vs) (r :: rs)
def LA (W : WX) (w : WA) : TA := fun σ H Q => ∃ Γ L Hf ad st P E, Sat Γ L Hf ad st σ H ∧ w st P E ∧
  (∀ rvs st', P rvs st' → ∀ vs Hf' H', Nxt ad st Hf H st' Hf' H' → Sat Γ L Hf' ad st' σ H' → RepRs Γ Hf' ad st' σ H H' vs rvs → Q vs H') ∧ XOk W Γ L Hf ad st σ H E
theorem XOk.later {W : WX} {Γ : Gm} {L : List Addr} {Hf H Hf1 H1 : Hp} {ad : Nat → Addr} {st st1 : S} {σ : L2.St} {E : XC} (x : XOk W Γ L Hf ad st σ H E) (n : Nxt ad st Hf H st1 Hf1 H1) : XOk W Γ L Hf1 ad st1 σ H1 E :=
  fun C y st' h d Hf' H' n' s p => x C y st' h d Hf' H' (n.trans n') s p

/-- the judgements: the reading of w's is a reading of the expression -/
structure DE (X : Cx) (W : WX) (e : Expr) (w : WE) : Prop where
  pe : PE X e (LE W w)
structure DT (X : Cx) (W : WX) (e : Expr) (w : WT) : Prop where
  pt : PT X e (LT W w)
structure DW (X : Cx) (W : WX) (e : Expr) (w : WT) : Prop where
  pw : PW X e (LT W w)
structure DA (X : Cx) (W : WX) (es : List Expr) (w : WA) : Prop where
  pa : PA X es (LA W w)
theorem _root_.L2.PE.imp {X : Cx} {e : Expr} {t t' : TE} (h : PE X e t) (i : ∀ σ H Q, t' σ H Q → t σ H Q) : PE X e t' := ⟨fun pins s σ H Q I q => h.run pins s σ H Q I (i σ H Q q)⟩
theorem _root_.L2.PT.imp {X : Cx} {e : Expr} {t t' : TT} (h : PT X e t) (i : ∀ σ H Q, t' σ H Q → t σ H Q) : PT X e t' := ⟨fun pins s σ H Q I q => h.run pins s σ H Q I (i σ H Q q)⟩
theorem _root_.L2.PW.imp {X : Cx} {e : Expr} {t t' : TT} (h : PW X e t) (i : ∀ σ H Q, t' σ H Q → t σ H Q) : PW X e t' := ⟨fun wh pins s σ H Q I q => h.run wh pins s σ H Q I (i σ H Q q)⟩
theorem _root_.L2.PA.imp {X : Cx} {e : List Expr} {t t' : TA} (h : PA X e t) (i : ∀ σ H Q, t' σ H Q → t σ H Q) : PA X e t' := ⟨fun pos pins s σ H Q I q => h.run pos pins s σ H Q I (i σ H Q q)⟩
end DL


/-! DL c: expressions: names, constants, operators, tests, displays. -/
namespace DL
open PySem PySem.Spec PyProof.Rows L2

/-- what a value holds, then on -/
def opt {α : Type} (o : Option α) (k : α → Prop) : Prop := match o with
  | some x => k x
  | none => False
theorem opt_of {α : Type} {o : Option α} {k : α → Prop} (h : opt o k) : ∃ x, o = some x ∧ k x := by
  cases o with
  | none => exact h.elim
  | some x => exact ⟨x, rfl, h⟩
theorem opt_some {α : Type} {x : α} {k : α → Prop} : opt (some x) k = k x := rfl
theorem opt_none {α : Type} {k : α → Prop} : opt (none : Option α) k = False := rfl

variable {X : Cx} {W : WX}
section
variable {σ : L2.St} {H : Hp} {Q : VK}

/-! ### names and constants -/
def varK (st : S) (i : Nat) (P : RV → S → Prop) : Option Slot → Prop
  | some (.d x) => P (.d x) st
  | some (.b x) => P (.b x) st
  | some (.o _) => P (.sl i) st
  | some (.p _) => P (.sl i) st
  | _ => False
def wVar (i : Nat) : WE := fun st P _ => varK st i P st[i]?
theorem LE.var {i : Nat} (h : LE W (wVar i) σ H Q) : tVar i σ H Q := by
  obtain ⟨Γ, L, Hf, ad, st, P, E, s, hw, hP, hE⟩ := h
  have hw : varK st i P st[i]? := hw
  cases q : st[i]? with
  | none => rw [q] at hw; exact hw.elim
  | some sl =>
    rw [q] at hw
    have k := s.sl i sl q
    cases sl with
    | un => exact hw.elim
    | d x =>
      obtain ⟨u, e, r⟩ := k
      exact ⟨u, e, hP _ _ hw u Hf H Nxt.refl s r⟩
    | b x =>
      obtain ⟨u, e, r⟩ := k
      exact ⟨u, e, hP _ _ hw u Hf H Nxt.refl s r⟩
    | o c =>
      have k : σ[i]? = some (some (V.ref (ad i))) := k
      exact ⟨_, k, hP _ _ hw _ Hf H Nxt.refl s k⟩
    | p c =>
      have k : σ[i]? = some (some (V.ref (ad i))) := k
      exact ⟨_, k, hP _ _ hw _ Hf H Nxt.refl s k⟩
/-- a constant -/
def wC (x : D) : WE := fun st P _ => P (.d x) st
theorem LE.c {v : V} {x : D} (hr : ∀ Hf, Rep Hf v x) (h : LE W (wC x) σ H Q) : tC v σ H Q := by
  obtain ⟨Γ, L, Hf, ad, st, P, E, s, hw, hP, hE⟩ := h
  exact hP _ _ hw v Hf H Nxt.refl s (hr Hf)

/-! ### operations by values -/
abbrev Op1 := D → (RV → Prop) → Prop
abbrev Op2 := D → D → (RV → Prop) → Prop
def OpOk (r : R2) (op : Op2) : Prop := ∀ (L : List Addr) (Hf H : Hp) (v1 v2 : V) (x y : D) (P : RV → Prop) (Q : VK), Exl L Hf H → RepH Hf H v1 x → RepH Hf H v2 y → op x y P →
  (∀ rv v Hf' H', P rv → Res Hf H rv v Hf' H' → Q v H') → r v1 v2 H Q
def Op1Ok (r : V → Hp → VK → Prop) (op : Op1) : Prop := ∀ (L : List Addr) (Hf H : Hp) (v : V) (x : D) (P : RV → Prop) (Q : VK), Exl L Hf H → RepH Hf H v x → op x P →
  (∀ rv v Hf' H', P rv → Res Hf H rv v Hf' H' → Q v H') → r v H Q
def wBin (op : Op2) (w1 w2 : WE) : WE := fun st P E => w1 st (fun r1 st1 => w2 st1 (fun r2 st2 => opt (cont st2 r1) fun x => opt (cont st2 r2) fun y => op x y fun rv => P rv st2) E) E
def wUn (op : Op1) (w : WE) : WE := fun st P E => w st (fun r1 st1 => opt (cont st1 r1) fun x => op x fun rv => P rv st1) E
theorem LE.bin {r : R2} {op : Op2} {w1 w2 : WE} (ok : OpOk r op) (h : LE W (wBin op w1 w2) σ H Q) : tOp r (LE W w1) (LE W w2) σ H Q := by
  obtain ⟨Γ, L, Hf, ad, st, P, E, s, hw, hP, hE⟩ := h
  refine ⟨Γ, L, Hf, ad, st, _, E, s, hw, fun r1 st1 h1 v1 Hf1 H1 n1 s1 k1 => ?_, hE⟩
  refine ⟨Γ, L, Hf1, ad, st1, _, E, s1, h1, fun r2 st2 h2 v2 Hf2 H2 n2 s2 k2 => ?_, hE.later n1⟩
  obtain ⟨x, cx, h2⟩ := opt_of h2
  obtain ⟨y, cy, h2⟩ := opt_of h2
  refine ok L Hf2 H2 v1 v2 x y _ _ s2.exf ((k1.later n2).reph s2 cx) (k2.reph s2 cy) h2 fun rv v Hf' H' hp res => ?_
  obtain ⟨n3, s3, k3⟩ := res.go s2
  exact hP rv st2 hp v Hf' H' ((n1.trans n2).trans n3) s3 (k3.from (n1.trans n2))
theorem LE.un {r : V → Hp → VK → Prop} {op : Op1} {w1 : WE} (ok : Op1Ok r op) (h : LE W (wUn op w1) σ H Q) : tUn r (LE W w1) σ H Q := by
  obtain ⟨Γ, L, Hf, ad, st, P, E, s, hw, hP, hE⟩ := h
  refine ⟨Γ, L, Hf, ad, st, _, E, s, hw, fun r1 st1 h1 v1 Hf1 H1 n1 s1 k1 => ?_, hE⟩
  obtain ⟨x, cx, h1⟩ := opt_of h1
  refine ok L Hf1 H1 v1 x _ _ s1.exf (k1.reph s1 cx) h1 fun rv v Hf' H' hp res => ?_
  obtain ⟨n3, s3, k3⟩ := res.go s1
  exact hP rv st1 hp v Hf' H' (n1.trans n3) s3 (k3.from n1)
/-- a value's being kept: a new object, or one's own, becomes data that never changes -/
def freeze (st : S) (i : Nat) : Option Slot → Option (D × S)
  | some (.o c) => some (c.toD, st.set i (.d c.toD))
  | some (.d x) => some (x, st)
  | _ => none
def persK (st : S) (P : RV → S → Prop) : RV → Prop
  | .d x => P (.d x) st
  | .n c => P (.d c.toD) st
  | .sl i => opt (freeze st i st[i]?) fun z => P (.d z.1) z.2
  | .b _ => False
def wPers (w : WE) : WE := fun st P E => w st (fun r st1 => persK st1 P r) E
theorem Sat.freeze {Γ : Gm} {L : List Addr} {Hf : Hp} {ad : Nat → Addr} {st : S} (s : Sat Γ L Hf ad st σ H) {i : Nat} {c : Cell} (e : st[i]? = some (.o c)) :
    ∃ u, H (ad i) = some u ∧ CellO Hf u c ∧ Nxt ad st Hf H (st.set i (.d c.toD)) (upd Hf (ad i) u) H ∧ Sat Γ L (upd Hf (ad i) u) ad (st.set i (.d c.toD)) σ H := by
  obtain ⟨h0, hf, u, hu, hc⟩ := s.own i c e
  have ow : Owns st i := .inl ⟨c, e⟩
  have ex : Ex Hf (upd Hf (ad i) u) := Ex.new hf
  have li : i < st.length := (List.getElem?_eq_some_iff.mp e).1
  have back : ∀ j sl, (st.set i (Slot.d c.toD))[j]? = some sl → (j = i ∧ sl = .d c.toD) ∨ (j ≠ i ∧ st[j]? = some sl) := fun j sl q => by
    by_cases hj : j = i
    · subst hj
      rw [List.getElem?_set_self li] at q
      exact .inl ⟨rfl, (Option.some.inj q).symm⟩
    · rw [List.getElem?_set_ne (Ne.symm hj)] at q
      exact .inr ⟨hj, q⟩
  have sub : ∀ j, Owns (st.set i (Slot.d c.toD)) j → Owns st j ∧ j ≠ i := fun j hj => by
    rcases hj with ⟨c', q⟩ | ⟨c', q⟩
    · rcases back j _ q with ⟨_, z⟩ | ⟨z1, z2⟩
      · cases z
      · exact ⟨.inl ⟨c', z2⟩, z1⟩
    · rcases back j _ q with ⟨_, z⟩ | ⟨z1, z2⟩
      · cases z
      · exact ⟨.inr ⟨c', z2⟩, z1⟩
  have nep : ∀ j, Owns (st.set i (Slot.d c.toD)) j → ad j ≠ ad i := fun j hj q => (sub j hj).2 (s.inj j i (sub j hj).1 ow q)
  have nm : ad i ∉ Γ.ms := fun hm => s.ms0 _ hm h0
  refine ⟨u, hu, hc, ⟨ex, fun a o q => ?_, fun a o q _ => q, fun a o q => ⟨o, q⟩, fun j hj => (sub j hj).1⟩, ?_⟩
  · by_cases ha : a = ad i
    · exact .inr (.inr ⟨i, ow, ha.symm⟩)
    · rw [upd_ne ha] at q
      exact .inl q
  · refine ⟨by rw [List.length_set]; exact s.len, fun a o q => ?_, s.exs, s.base.trans ex, fun a o q => ?_, s.live, fun a ha => ?_, s.ms0, fun j c' q => ?_, fun j c' q => ?_, s.lk, fun j k hj hk z => s.inj j k (sub j hj).1 (sub k hk).1 z, fun j sl q => ?_⟩
    · by_cases ha : a = ad i
      · subst ha
        rw [upd_same] at q
        cases q
        exact .inl hu
      · rw [upd_ne ha] at q
        exact s.exf a o q
    · by_cases ha : a = ad i
      · subst ha
        exact .inr h0
      · rw [upd_ne ha] at q
        exact s.new a o q
    · rw [upd_ne (fun z => nm (by rw [← z]; exact ha))]
      exact s.msf a ha
    · have ho := nep j (.inl ⟨c', q⟩)
      rcases back j _ q with ⟨_, z⟩ | ⟨z1, z2⟩
      · cases z
      · obtain ⟨h1, h2, w, h3, h4⟩ := s.own j c' z2
        exact ⟨h1, by rw [upd_ne ho]; exact h2, w, h3, h4.mono ex⟩
    · rcases back j _ q with ⟨_, z⟩ | ⟨z1, z2⟩
      · cases z
      · obtain ⟨h1, w, h3, h4⟩ := s.par j c' z2
        exact ⟨h1, w, h3, h4.mono ex⟩
    · rcases back j _ q with ⟨z1, z⟩ | ⟨z1, z2⟩
      · subst z1
        subst z
        have k : σ[j]? = some (some (V.ref (ad j))) := s.sl j _ e
        exact ⟨_, k, (hc.mono ex).rep upd_same⟩
      · exact (s.sl j sl z2).mono ex

theorem LE.pers {w : WE} (h : LE W (wPers w) σ H Q) : LE W w σ H Q := by
  obtain ⟨Γ, L, Hf, ad, st, P, E, s, hw, hP, hE⟩ := h
  refine ⟨Γ, L, Hf, ad, st, _, E, s, hw, fun r1 st1 h1 v Hf1 H1 n1 s1 k1 => ?_, hE⟩
  have h1 : persK st1 P r1 := h1
  cases r1 with
  | d x => exact hP _ _ h1 v Hf1 H1 n1 s1 k1
  | b x => exact h1.elim
  | n c =>
    obtain ⟨p, rfl, e1, e2, e3, e4, u, e5, e6⟩ := k1
    have nm : p ∉ Γ.ms := fun hm => s1.ms0 _ hm e2
    refine hP _ _ h1 _ (upd Hf1 p u) H1 ⟨n1.ex.trans (Ex.new e3), fun a o q => ?_, n1.keep, n1.there, n1.sub⟩ (s1.ground e5 e2 e3 nm e4) ((e6.mono (Ex.new e3)).rep upd_same)
    by_cases ha : a = p
    · subst ha
      exact .inr (.inl e1)
    · rw [upd_ne ha] at q
      exact n1.new a o q
  | sl i =>
    have k1 : σ[i]? = some (some v) := k1
    obtain ⟨z, ez, h2⟩ := opt_of (show opt (freeze st1 i st1[i]?) fun z => P (.d z.1) z.2 from h1)
    cases q : st1[i]? with
    | none => rw [q] at ez; cases ez
    | some sl =>
      rw [q] at ez
      cases sl with
      | o c =>
        cases ez
        obtain ⟨u, hu, hc, n2, s2⟩ := s1.freeze q
        have k : σ[i]? = some (some (V.ref (ad i))) := s1.sl i _ q
        rw [k1] at k
        cases k
        have hf := (s1.own i c q).2.1
        exact hP _ _ h2 _ _ _ (n1.trans n2) s2 ((hc.mono (Ex.new hf)).rep upd_same)
      | d x =>
        cases ez
        obtain ⟨u, k, r⟩ := s1.sl i _ q
        rw [k1] at k
        cases k
        exact hP _ _ h2 _ _ _ n1 s1 r
      | un => cases ez
      | b x => cases ez
      | p c => cases ez

/-! ### tests -/
def boolK (P : Bool → S → Prop) (st : S) : RV → Prop
  | .d (.bl b) => P b st
  | _ => False
theorem boolK_of {P : Bool → S → Prop} {st : S} {r : RV} (h : boolK P st r) : ∃ b, r = .d (.bl b) ∧ P b st := by
  cases r with
  | d x => cases x with
    | bl b => exact ⟨b, rfl, h⟩
    | _ => exact h.elim
  | _ => exact h.elim
def wTest (w : WE) : WT := fun st P E => w st (fun r st1 => boolK P st1 r) E
theorem rep_bl {Hf : Hp} {v : V} {b : Bool} (h : Rep Hf v (.bl b)) : v = .bl b := by
  cases h
  rfl
theorem LT.test {w : WE} {Q : Bool → Hp → Prop} (h : LT W (wTest w) σ H Q) : tTest (LE W w) σ H Q := by
  obtain ⟨Γ, L, Hf, ad, st, P, E, s, hw, hP, hE⟩ := h
  refine ⟨Γ, L, Hf, ad, st, _, E, s, hw, fun r1 st1 h1 v Hf1 H1 n1 s1 k1 => ?_, hE⟩
  obtain ⟨b, rfl, h1⟩ := boolK_of h1
  exact ⟨b, rep_bl k1, hP _ _ h1 Hf1 H1 n1 s1⟩
def wAnd (a b : WT) : WT := fun st P E => a st (fun k st1 => if k = true then b st1 P E else P false st1) E
def wOr (a b : WT) : WT := fun st P E => a st (fun k st1 => if k = true then P true st1 else b st1 P E) E
def wNot (a : WT) : WT := fun st P E => a st (fun k st1 => P (!k) st1) E
theorem LT.and {a b : WT} {Q : Bool → Hp → Prop} (h : LT W (wAnd a b) σ H Q) : tAnd (LT W a) (LT W b) σ H Q := by
  obtain ⟨Γ, L, Hf, ad, st, P, E, s, hw, hP, hE⟩ := h
  refine ⟨Γ, L, Hf, ad, st, _, E, s, hw, fun k st1 h1 Hf1 H1 n1 s1 => ?_, hE⟩
  cases k with
  | true =>
    show LT W b σ H1 Q
    exact ⟨Γ, L, Hf1, ad, st1, P, E, s1, h1, fun k2 st2 h2 Hf2 H2 n2 s2 => hP _ _ h2 Hf2 H2 (n1.trans n2) s2, hE.later n1⟩
  | false =>
    show Q false H1
    exact hP _ _ h1 Hf1 H1 n1 s1
theorem LT.or {a b : WT} {Q : Bool → Hp → Prop} (h : LT W (wOr a b) σ H Q) : tOr (LT W a) (LT W b) σ H Q := by
  obtain ⟨Γ, L, Hf, ad, st, P, E, s, hw, hP, hE⟩ := h
  refine ⟨Γ, L, Hf, ad, st, _, E, s, hw, fun k st1 h1 Hf1 H1 n1 s1 => ?_, hE⟩
  cases k with
  | false =>
    show LT W b σ H1 Q
    exact ⟨Γ, L, Hf1, ad, st1, P, E, s1, h1, fun k2 st2 h2 Hf2 H2 n2 s2 => hP _ _ h2 Hf2 H2 (n1.trans n2) s2, hE.later n1⟩
  | true =>
    show Q true H1
    exact hP _ _ h1 Hf1 H1 n1 s1
theorem LT.not {a : WT} {Q : Bool → Hp → Prop} (h : LT W (wNot a) σ H Q) : tNot (LT W a) σ H Q := by
  obtain ⟨Γ, L, Hf, ad, st, P, E, s, hw, hP, hE⟩ := h
  exact ⟨Γ, L, Hf, ad, st, _, E, s, hw, fun k st1 h1 Hf1 H1 n1 s1 => hP _ _ h1 Hf1 H1 n1 s1, hE⟩
/-- .. as values -/
def wAndV (a b : WE) : WE := fun st P E => a st (fun r st1 => boolK (fun k st1 => if k = true then b st1 P E else P (.d (.bl false)) st1) st1 r) E
def wOrV (a b : WE) : WE := fun st P E => a st (fun r st1 => boolK (fun k st1 => if k = true then P (.d (.bl true)) st1 else b st1 P E) st1 r) E
def wNotV (a : WE) : WE := fun st P E => a st (fun r st1 => boolK (fun k st1 => P (.d (.bl !k)) st1) st1 r) E
theorem LE.andV {a b : WE} (h : LE W (wAndV a b) σ H Q) : tAndV (LE W a) (LE W b) σ H Q := by
  obtain ⟨Γ, L, Hf, ad, st, P, E, s, hw, hP, hE⟩ := h
  refine ⟨Γ, L, Hf, ad, st, _, E, s, hw, fun r st1 h1 v Hf1 H1 n1 s1 k1 => ?_, hE⟩
  obtain ⟨k, rfl, h1⟩ := boolK_of h1
  refine ⟨k, rep_bl k1, ?_⟩
  cases k with
  | true =>
    show LE W b σ H1 Q
    exact ⟨Γ, L, Hf1, ad, st1, P, E, s1, h1, fun k2 st2 h2 v2 Hf2 H2 n2 s2 r2 => hP _ _ h2 v2 Hf2 H2 (n1.trans n2) s2 (r2.from n1), hE.later n1⟩
  | false =>
    show Q (.bl false) H1
    exact hP _ _ h1 _ Hf1 H1 n1 s1 (.bl false)
theorem LE.orV {a b : WE} (h : LE W (wOrV a b) σ H Q) : tOrV (LE W a) (LE W b) σ H Q := by
  obtain ⟨Γ, L, Hf, ad, st, P, E, s, hw, hP, hE⟩ := h
  refine ⟨Γ, L, Hf, ad, st, _, E, s, hw, fun r st1 h1 v Hf1 H1 n1 s1 k1 => ?_, hE⟩
  obtain ⟨k, rfl, h1⟩ := boolK_of h1
  refine ⟨k, rep_bl k1, ?_⟩
  cases k with
  | false =>
    show LE W b σ H1 Q
    exact ⟨Γ, L, Hf1, ad, st1, P, E, s1, h1, fun k2 st2 h2 v2 Hf2 H2 n2 s2 r2 => hP _ _ h2 v2 Hf2 H2 (n1.trans n2) s2 (r2.from n1), hE.later n1⟩
  | true =>
    show Q (.bl true) H1
    exact hP _ _ h1 _ Hf1 H1 n1 s1 (.bl true)
theorem LE.notV {a : WE} (h : LE W (wNotV a) σ H Q) : tNotV (LE W a) σ H Q := by
  obtain ⟨Γ, L, Hf, ad, st, P, E, s, hw, hP, hE⟩ := h
  refine ⟨Γ, L, Hf, ad, st, _, E, s, hw, fun r st1 h1 v Hf1 H1 n1 s1 k1 => ?_, hE⟩
  obtain ⟨k, rfl, h1⟩ := boolK_of h1
  exact ⟨k, rep_bl k1, hP _ _ h1 _ Hf1 H1 n1 s1 (.bl _)⟩
def wIf (t : WT) (a b : WE) : WE := fun st P E => t st (fun k st1 => if k = true then a st1 P E else b st1 P E) E
theorem LE.ifE {t : WT} {a b : WE} (h : LE W (wIf t a b) σ H Q) : tIf (LT W t) (LE W a) (LE W b) σ H Q := by
  obtain ⟨Γ, L, Hf, ad, st, P, E, s, hw, hP, hE⟩ := h
  refine ⟨Γ, L, Hf, ad, st, _, E, s, hw, fun k st1 h1 Hf1 H1 n1 s1 => ?_, hE⟩
  cases k with
  | true =>
    show LE W a σ H1 Q
    exact ⟨Γ, L, Hf1, ad, st1, P, E, s1, h1, fun k2 st2 h2 v2 Hf2 H2 n2 s2 r2 => hP _ _ h2 v2 Hf2 H2 (n1.trans n2) s2 (r2.from n1), hE.later n1⟩
  | false =>
    show LE W b σ H1 Q
    exact ⟨Γ, L, Hf1, ad, st1, P, E, s1, h1, fun k2 st2 h2 v2 Hf2 H2 n2 s2 r2 => hP _ _ h2 v2 Hf2 H2 (n1.trans n2) s2 (r2.from n1), hE.later n1⟩

/-! ### arguments, displays -/
def wNil : WA := fun st P _ => P [] st
def wCons (w : WE) (wr : WA) : WA := fun st P E => w st (fun r st1 => wr st1 (fun rs st2 => P (r :: rs) st2) E) E
theorem RepRs.later {Γ : Gm} {Hf Hf1 H1 Hb : Hp} {ad : Nat → Addr} {st st1 : S} (a : Nxt ad st Hf H st1 Hf1 H1) : ∀ {vs : List V} {rs : List RV}, RepRs Γ Hf ad st σ Hb H vs rs → RepRs Γ Hf1 ad st1 σ Hb H1 vs rs
  | _, _, .nil => .nil
  | _, _, .cons h r => .cons (h.later a) (r.later a)
theorem RepRs.from {Γ : Gm} {Hf Hf1 Hf2 H1 H2 Hb : Hp} {ad : Nat → Addr} {st st1 st2 : S} (a : Nxt ad st Hf Hb st1 Hf1 H1) : ∀ {vs : List V} {rs : List RV}, RepRs Γ Hf2 ad st2 σ H1 H2 vs rs → RepRs Γ Hf2 ad st2 σ Hb H2 vs rs
  | _, _, .nil => .nil
  | _, _, .cons h r => .cons (h.from a) (r.from a)
theorem LA.nil {Q : List V → Hp → Prop} (h : LA W wNil σ H Q) : tNil σ H Q := by
  obtain ⟨Γ, L, Hf, ad, st, P, E, s, hw, hP, hE⟩ := h
  exact hP _ _ hw [] Hf H Nxt.refl s .nil
theorem LA.cons {w : WE} {wr : WA} {Q : List V → Hp → Prop} (h : LA W (wCons w wr) σ H Q) : tCons (LE W w) (LA W wr) σ H Q := by
  obtain ⟨Γ, L, Hf, ad, st, P, E, s, hw, hP, hE⟩ := h
  refine ⟨Γ, L, Hf, ad, st, _, E, s, hw, fun r1 st1 h1 v Hf1 H1 n1 s1 k1 => ?_, hE⟩
  refine ⟨Γ, L, Hf1, ad, st1, _, E, s1, h1, fun rs st2 h2 vs Hf2 H2 n2 s2 k2 => ?_, hE.later n1⟩
  exact hP _ _ h2 _ Hf2 H2 (n1.trans n2) s2 (.cons (k1.later n2) (k2.from n1))
def dAll : List RV → Option (List D)
  | [] => some []
  | .d x :: r => (dAll r).map (x :: ·)
  | _ => none
theorem dAll_reps {Γ : Gm} {Hf Hb : Hp} {ad : Nat → Addr} {st : S} : ∀ {vs : List V} {rs : List RV} {xs : List D}, RepRs Γ Hf ad st σ Hb H vs rs → dAll rs = some xs → Reps Hf vs xs
  | _, _, _, .nil, e => by
    cases e
    exact .nil
  | _, _, _, @RepRs.cons _ _ _ _ _ _ _ v rv vs rs h r, e => by
    cases rv with
    | d x =>
      obtain ⟨ys, h1, rfl⟩ := Option.map_eq_some_iff.mp (show (dAll rs).map (x :: ·) = some _ from e)
      exact .cons h (dAll_reps r h1)
    | b x => cases e
    | sl i => cases e
    | n c => cases e
def conts (st : S) : List RV → Option (List D)
  | [] => some []
  | r :: rs => match cont st r, conts st rs with
    | some x, some xs => some (x :: xs)
    | _, _ => none
inductive RepHs (Hf H : Hp) : List V → List D → Prop
  | nil : RepHs Hf H [] []
  | cons {v : V} {x : D} {vs : List V} {xs : List D} : RepH Hf H v x → RepHs Hf H vs xs → RepHs Hf H (v :: vs) (x :: xs)
theorem conts_reps {Γ : Gm} {L : List Addr} {Hf Hb : Hp} {ad : Nat → Addr} {st : S} (s : Sat Γ L Hf ad st σ H) : ∀ {vs : List V} {rs : List RV} {xs : List D}, RepRs Γ Hf ad st σ Hb H vs rs → conts st rs = some xs → RepHs Hf H vs xs
  | _, _, _, .nil, e => by
    cases e
    exact .nil
  | _, _, _, @RepRs.cons _ _ _ _ _ _ _ v rv vs rs h r, e => by
    have e : (match cont st rv, conts st rs with
      | some x, some xs => some (x :: xs)
      | _, _ => none) = some _ := e
    cases e1 : cont st rv with
    | none => rw [e1] at e; cases e
    | some x =>
      cases e2 : conts st rs with
      | none => rw [e1, e2] at e; cases e
      | some ys =>
        rw [e1, e2] at e
        cases e
        exact .cons (h.reph s e1) (conts_reps s r e2)
def wTup (w : WA) : WE := fun st P E => w st (fun rs st1 => opt (dAll rs) fun xs => xs.length ≤ sizeLine ∧ P (.d (.tup xs)) st1) E
def wLst (w : WA) : WE := fun st P E => w st (fun rs st1 => opt (dAll rs) fun xs => xs.length ≤ sizeLine ∧ P (.n (.lst xs)) st1) E
theorem LE.tup {w : WA} (h : LE W (wTup w) σ H Q) : tTup (LA W w) σ H Q := by
  obtain ⟨Γ, L, Hf, ad, st, P, E, s, hw, hP, hE⟩ := h
  refine ⟨Γ, L, Hf, ad, st, _, E, s, hw, fun rs st1 h1 vs Hf1 H1 n1 s1 k1 => ?_, hE⟩
  obtain ⟨xs, e, hz, h1⟩ := opt_of h1
  have r := dAll_reps k1 e
  refine ⟨by rw [r.length]; exact hz, fun p hp => ?_⟩
  obtain ⟨n2, s2, k2⟩ := (Res.tup hp r).go s1
  exact hP _ _ h1 _ _ _ (n1.trans n2) s2 (k2.from n1)
theorem LE.lst {w : WA} (h : LE W (wLst w) σ H Q) : tLst (LA W w) σ H Q := by
  obtain ⟨Γ, L, Hf, ad, st, P, E, s, hw, hP, hE⟩ := h
  refine ⟨Γ, L, Hf, ad, st, _, E, s, hw, fun rs st1 h1 vs Hf1 H1 n1 s1 k1 => ?_, hE⟩
  obtain ⟨xs, e, hz, h1⟩ := opt_of h1
  have r := dAll_reps k1 e
  refine ⟨by rw [r.length]; exact hz, fun p hp => ?_⟩
  obtain ⟨n2, s2, k2⟩ := (Res.new (c := .lst xs) hp ⟨vs, rfl, r⟩).go s1
  exact hP _ _ h1 _ _ _ (n1.trans n2) s2 (k2.from n1)
/-- a call of a built-in by values -/
abbrev OpN := List D → (RV → Prop) → Prop
def CallOk (r : List V → Hp → VK → Prop) (op : OpN) : Prop := ∀ (L : List Addr) (Hf H : Hp) (vs : List V) (xs : List D) (P : RV → Prop) (Q : VK), Exl L Hf H → RepHs Hf H vs xs → op xs P →
  (∀ rv v Hf' H', P rv → Res Hf H rv v Hf' H' → Q v H') → r vs H Q
def wCB (op : OpN) (w : WA) : WE := fun st P E => w st (fun rs st1 => opt (conts st1 rs) fun xs => op xs fun rv => P rv st1) E
theorem LE.cb {r : List V → Hp → VK → Prop} {op : OpN} {w : WA} (ok : CallOk r op) (h : LE W (wCB op w) σ H Q) : tCB r (LA W w) σ H Q := by
  obtain ⟨Γ, L, Hf, ad, st, P, E, s, hw, hP, hE⟩ := h
  refine ⟨Γ, L, Hf, ad, st, _, E, s, hw, fun rs st1 h1 vs Hf1 H1 n1 s1 k1 => ?_, hE⟩
  obtain ⟨xs, cx, h1⟩ := opt_of h1
  refine ok L Hf1 H1 vs xs _ _ s1.exf (conts_reps s1 k1 cx) h1 fun rv v Hf' H' hp res => ?_
  obtain ⟨n3, s3, k3⟩ := res.go s1
  exact hP rv st1 hp v Hf' H' (n1.trans n3) s3 (k3.from n1)
end

/-! ### the judgements -/
section
variable {e a b c : Expr} {es : List Expr} {w w1 w2 : WE} {wa : WA} {wt wt1 wt2 : WT} {pos : Pos}
theorem de_var (i : Nat) {x : Str} {pos : Pos} (hN : X.N[i]? = some x := by rfl) (hv : Vis X.env.scope x := by first | exact Or.inl rfl | exact Or.inr (Or.inl rfl) | exact Or.inr (Or.inr rfl)) (hd : (x == ("__debug__" : Str)) = false := by decide)
    (hcd : (x == ("__classdict__" : Str)) = false := by decide) : DE X W (.Name x pos) (wVar i) := ⟨(pe_var hN hv hd hcd).imp fun _ _ _ h => h.var⟩
theorem de_int {i : Int} {j pos} : DE X W (.Constant (.int i) j pos) (wC (.int i)) := ⟨pe_int.imp fun _ _ _ h => h.c fun _ => .int i⟩
theorem de_bl {i : Bool} {j pos} : DE X W (.Constant (.bool i) j pos) (wC (.bl i)) := ⟨pe_bl.imp fun _ _ _ h => h.c fun _ => .bl i⟩
theorem de_non {j pos} : DE X W (.Constant .none j pos) (wC .non) := ⟨pe_non.imp fun _ _ _ h => h.c fun _ => .non⟩
theorem de_str {i : Str} {j pos} : DE X W (.Constant (.str i) j pos) (wC (.str i)) := ⟨pe_str.imp fun _ _ _ h => h.c fun _ => .str i⟩
theorem de_pers (h : DE X W e w) : DE X W e (wPers w) := ⟨h.pe.imp fun _ _ _ q => q.pers⟩
theorem de_op {op : Operator} {r : R2} {o : Op2} (ho : OpR X (binaryOp op) r) (ok : OpOk r o) (ha : DE X W a w1) (hb : DE X W b w2) : DE X W (.BinOp a op b pos) (wBin o w1 w2) := ⟨(pe_op ho ha.pe hb.pe).imp fun _ _ _ h => h.bin ok⟩
theorem de_un {op : UnaryOp} {r : V → Hp → VK → Prop} {o : Op1} (ho : UnR X (unaryOp op) r) (ok : Op1Ok r o) (ha : DE X W a w1) : DE X W (.UnaryOp op a pos) (wUn o w1) := ⟨(pe_un ho ha.pe).imp fun _ _ _ h => h.un ok⟩
theorem de_cmp {op : CmpOp} {r : R2} {o : Op2} (ho : OpR X (compareOp op) r) (ok : OpOk r o) (ha : DE X W a w1) (hb : DE X W b w2) (hm : behindInMarks op b = false) : DE X W (.Compare a [op] [b] pos) (wBin o w1 w2) := ⟨(pe_cmpR ho ha.pe hb.pe hm).imp fun _ _ _ h => h.bin ok⟩
theorem dt_cmp {op : CmpOp} {r : R2} {o : Op2} (ho : OpR X (compareOp op) r) (ok : OpOk r o) (ha : DE X W a w1) (hb : DE X W b w2) (hm : behindInMarks op b = false) : DT X W (.Compare a [op] [b] pos) (wTest (wBin o w1 w2)) := ⟨(pt_cmpR ho ha.pe hb.pe hm).imp fun _ _ _ h => by
  obtain ⟨Γ, L, Hf, ad, st, P, E, s, hw, hP, hE⟩ := h
  refine LE.bin (W := W) ok ⟨Γ, L, Hf, ad, st, _, E, s, hw, fun r1 st1 h1 v Hf1 H1 n1 s1 k1 => ?_, hE⟩
  obtain ⟨b, rfl, h1⟩ := boolK_of h1
  exact ⟨b, rep_bl k1, hP _ _ h1 Hf1 H1 n1 s1⟩⟩
theorem dt_val (h : DE X W e w) (he : ∀ whole, isTrue e X.env whole = (do let v ← whole; standAt e.pos; holding [v] (truthy v)) := by intro _; rfl) : DT X W e (wTest w) := ⟨(pt_val h.pe he).imp fun _ _ _ q => q.test⟩
theorem dw_and1 (h : DT X W a wt) : DW X W (.BoolOp .And [a] pos) wt := ⟨pw_and1 h.pt⟩
theorem dw_or1 (h : DT X W a wt) : DW X W (.BoolOp .Or [a] pos) wt := ⟨pw_or1 h.pt⟩
theorem dw_and {rest : List Expr} (ha : DT X W a wt1) (hb : DW X W (.BoolOp .And (b :: rest) pos) wt2) : DW X W (.BoolOp .And (a :: b :: rest) pos) (wAnd wt1 wt2) := ⟨(pw_and ha.pt hb.pw).imp fun _ _ _ h => h.and⟩
theorem dw_or {rest : List Expr} (ha : DT X W a wt1) (hb : DW X W (.BoolOp .Or (b :: rest) pos) wt2) : DW X W (.BoolOp .Or (a :: b :: rest) pos) (wOr wt1 wt2) := ⟨(pw_or ha.pt hb.pw).imp fun _ _ _ h => h.or⟩
theorem dt_bool (h : DW X W e wt) : DT X W e wt := ⟨h.pw.pt⟩
theorem dt_not (h : DT X W a wt) : DT X W (.UnaryOp .Not a pos) (wNot wt) := ⟨(pt_not h.pt).imp fun _ _ _ q => q.not⟩
theorem de_one {op} (h : DE X W a w) : DE X W (.BoolOp op [a] pos) w := ⟨pe_one h.pe⟩
theorem de_and {rest : List Expr} (ha : DE X W a w1) (hb : DE X W (.BoolOp .And (b :: rest) pos) w2) : DE X W (.BoolOp .And (a :: b :: rest) pos) (wAndV w1 w2) := ⟨(pe_and ha.pe hb.pe).imp fun _ _ _ h => h.andV⟩
theorem de_or {rest : List Expr} (ha : DE X W a w1) (hb : DE X W (.BoolOp .Or (b :: rest) pos) w2) : DE X W (.BoolOp .Or (a :: b :: rest) pos) (wOrV w1 w2) := ⟨(pe_or ha.pe hb.pe).imp fun _ _ _ h => h.orV⟩
theorem de_not (h : DE X W a w) : DE X W (.UnaryOp .Not a pos) (wNotV w) := ⟨(pe_not h.pe).imp fun _ _ _ q => q.notV⟩
theorem de_if (hc : DT X W c wt) (ha : DE X W a w1) (hb : DE X W b w2) : DE X W (.IfExp c a b pos) (wIf wt w1 w2) := ⟨(pe_ifExp hc.pt ha.pe hb.pe).imp fun _ _ _ h => h.ifE⟩
theorem da_nil : DA X W [] wNil := ⟨pa_nil.imp fun _ _ _ h => h.nil⟩
theorem da_cons (ha : DE X W e w) (hr : DA X W es wa) (hs : starEach (e :: es) X.env = (false, eval e X.env) :: starEach es X.env := by rfl) : DA X W (e :: es) (wCons w wa) := ⟨(pa_cons ha.pe hr.pa hs).imp fun _ _ _ h => h.cons⟩
theorem de_tup {k} (h : DA X W es wa) : DE X W (.Tuple es k pos) (wTup wa) := ⟨(pe_tup h.pa).imp fun _ _ _ q => q.tup⟩
theorem de_lst (h : DA X W es wa) : DE X W (.List es pos) (wLst wa) := ⟨(pe_lst h.pa).imp fun _ _ _ q => q.lst⟩
end
end DL


/-! DL d: statements. -/
namespace DL
open PySem PySem.Spec PyProof.Rows L2

/-- what is wanted behind a statement -/
structure DN where
  nx : S → Prop
  rt : RV → S → Prop
  bk : S → Prop
  ct : S → Prop
  ex : XC
abbrev WS := DN → S → Prop
/-- an assignment's target -/
abbrev WG := D → S → (S → Prop) → Prop
structure Conn (W : WX) (Γ : Gm) (L : List Addr) (N : DN) (D : Ends) : Prop where
  nx : ∀ st', N.nx st' → ∀ Hf' ad' σ' H', Sat Γ L Hf' ad' st' σ' H' → D.nx σ' H'
  rt : ∀ rv st', N.rt rv st' → ∀ v Hf' ad' σ' H', Sat Γ L Hf' ad' st' σ' H' → RepR Γ Hf' ad' st' σ' Γ.H0 H' v rv → D.rt v H'
  bk : ∀ st', N.bk st' → ∀ Hf' ad' σ' H', Sat Γ L Hf' ad' st' σ' H' → D.bk σ' H'
  ct : ∀ st', N.ct st' → ∀ Hf' ad' σ' H', Sat Γ L Hf' ad' st' σ' H' → D.ct σ' H'
  ex : ∀ C x st', N.ex C x st' → ∀ d Hf' ad' σ' H', Sat Γ L Hf' ad' st' σ' H' → PayR Hf' H' d x → W (.ref C) d σ' H'
def LS (W : WX) (w : WS) : TS := fun D σ H => ∃ Γ L Hf ad st N, Sat Γ L Hf ad st σ H ∧ w N st ∧ Conn W Γ L N D
theorem Conn.xok {W : WX} {Γ : Gm} {L : List Addr} {N : DN} {D : Ends} (c : Conn W Γ L N D) {Hf H : Hp} {ad : Nat → Addr} {st : S} {σ : L2.St} : XOk W Γ L Hf ad st σ H N.ex :=
  fun C x st' h d Hf' H' _ s p => c.ex C x st' h d Hf' ad σ H' s p
structure DS (X : Cx) (W : WX) (s : Stmt) (w : WS) : Prop where
  ps : PS X s (LS W w)
structure DSs (X : Cx) (W : WX) (s : List Stmt) (w : WS) : Prop where
  pss : PSs X s (LS W w)
/-- what a target's store leaves -/
structure GSub (vs : List Nat) (st : S) (σ : L2.St) (st' : S) (σ' : L2.St) : Prop where
  len : σ'.length = σ.length
  out : ∀ j, j ∉ vs → σ'[j]? = σ[j]?
  sub : ∀ i, Owns st' i → Owns st i
def NoP (st : S) (i : Nat) : Prop := match st[i]? with
  | some (.p _) => False
  | some _ => True
  | none => False
def gN (i : Nat) : WG := fun x st P => NoP st i ∧ P (st.set i (.d x))
def gsN : List WG → List D → S → (S → Prop) → Prop
  | [], [], st, P => P st
  | g :: gs, x :: xs, st, P => g x st fun st' => gsN gs xs st' P
  | _, _, _, _ => False
def gT (gs : List WG) : WG := fun x st P => match x with
  | .tup xs => xs.length = gs.length ∧ gsN gs xs st P
  | _ => False
/-- a target's reading by data -/
def GOk (t : TG) (vs : List Nat) (g : WG) : Prop := ∀ Γ L Hf ad st σ H v x P (Q : L2.St → Hp → Prop), Sat Γ L Hf ad st σ H → Rep Hf v x → g x st P → (∀ st', P st' → ∀ σ', Sat Γ L Hf ad st' σ' H → GSub vs st σ st' σ' → Q σ' H) → t v σ H Q
def GsOk (t : TGs) (vs : List Nat) (gs : List WG) : Prop := ∀ Γ L Hf ad st σ H us xs P (Q : L2.St → Hp → Prop), Sat Γ L Hf ad st σ H → Reps Hf us xs → gsN gs xs st P → (∀ st', P st' → ∀ σ', Sat Γ L Hf ad st' σ' H → GSub vs st σ st' σ' → Q σ' H) → t us σ H Q
theorem _root_.L2.PS.imp {X : Cx} {s : Stmt} {t t' : TS} (h : PS X s t) (i : ∀ D σ H, t' D σ H → t D σ H) : PS X s t' := ⟨fun pins s σ H D I q => h.run pins s σ H D I (i D σ H q)⟩
theorem _root_.L2.PSs.imp {X : Cx} {s : List Stmt} {t t' : TS} (h : PSs X s t) (i : ∀ D σ H, t' D σ H → t D σ H) : PSs X s t' := ⟨fun pins s σ H D I q => h.run pins s σ H D I (i D σ H q)⟩

section
variable {Γ : Gm} {L : List Addr} {Hf Hf' H H' : Hp} {ad : Nat → Addr} {st : S} {σ : L2.St} {v : V} {x : D} {i : Nat}
theorem NoP.lt (h : NoP st i) : i < st.length := by
  unfold NoP at h
  cases q : st[i]? with
  | none => rw [q] at h; exact h.elim
  | some s => exact (List.getElem?_eq_some_iff.mp q).1
theorem NoP.no (h : NoP st i) {c : Cell} (e : st[i]? = some (.p c)) : False := by
  unfold NoP at h
  rw [e] at h
  exact h
theorem set_back {s : Slot} {st : S} {i : Nat} (li : i < st.length) {j : Nat} {sl : Slot} (q : (st.set i s)[j]? = some sl) : (j = i ∧ sl = s) ∨ (j ≠ i ∧ st[j]? = some sl) := by
  by_cases hj : j = i
  · subst hj
    rw [List.getElem?_set_self li] at q
    exact .inl ⟨rfl, (Option.some.inj q).symm⟩
  · rw [List.getElem?_set_ne (Ne.symm hj)] at q
    exact .inr ⟨hj, q⟩
/-- a slot gets data (its own or a borrowed one) -/
theorem Sat.putV (s : Sat Γ L Hf ad st σ H) (li : i < st.length) {sl : Slot} (hs : (∃ x, sl = .d x) ∨ (∃ x, sl = .b x) ∨ sl = .un) (ok : SlotOk Γ Hf (ad i) (some (some v)) sl) : Sat Γ L Hf ad (st.set i sl) (σ.set i (some v)) H := by
  have no : ∀ c, sl ≠ .o c := fun c z => by rcases hs with ⟨x, h⟩ | ⟨x, h⟩ | h <;> rw [h] at z <;> cases z
  have np : ∀ c, sl ≠ .p c := fun c z => by rcases hs with ⟨x, h⟩ | ⟨x, h⟩ | h <;> rw [h] at z <;> cases z
  have ow : ∀ j, Owns (st.set i sl) j → Owns st j := fun j hj => by
    rcases hj with ⟨c, q⟩ | ⟨c, q⟩
    · rcases set_back li q with ⟨_, z⟩ | ⟨_, z⟩
      · exact absurd z.symm (no c)
      · exact .inl ⟨c, z⟩
    · rcases set_back li q with ⟨_, z⟩ | ⟨_, z⟩
      · exact absurd z.symm (np c)
      · exact .inr ⟨c, z⟩
  refine ⟨by rw [List.length_set, List.length_set]; exact s.len, s.exf, s.exs, s.base, s.new, s.live, s.msf, s.ms0, fun j c q => ?_, fun j c q => ?_, s.lk, fun j k hj hk => s.inj j k (ow j hj) (ow k hk), fun j t q => ?_⟩
  · rcases set_back li q with ⟨_, z⟩ | ⟨_, z⟩
    · exact absurd z.symm (no c)
    · exact s.own j c z
  · rcases set_back li q with ⟨_, z⟩ | ⟨_, z⟩
    · exact absurd z.symm (np c)
    · exact s.par j c z
  · rcases set_back li q with ⟨z1, z⟩ | ⟨z1, z⟩
    · subst z1
      subst z
      rw [List.getElem?_set_self (by rw [s.len]; exact li)]
      exact ok
    · rw [List.getElem?_set_ne (Ne.symm z1)]
      exact s.sl j t z
/-- a slot gets a new object -/
theorem Sat.putO (s : Sat Γ L Hf ad st σ H) (li : i < st.length) {p : Addr} {c : Cell} (h0 : Γ.H0 p = none) (hf : Hf p = none) (ho : ∀ j, Owns st j → ad j ≠ p) (hc : CellAt Hf H p c) :
    Sat Γ L Hf (fun j => if j = i then p else ad j) (st.set i (.o c)) (σ.set i (some (.ref p))) H := by
  have ow : ∀ j, Owns (st.set i (.o c)) j → j ≠ i → Owns st j := fun j hj ne => by
    rcases hj with ⟨c, q⟩ | ⟨c, q⟩
    · rcases set_back li q with ⟨z, _⟩ | ⟨_, z⟩
      · exact absurd z ne
      · exact .inl ⟨c, z⟩
    · rcases set_back li q with ⟨z, _⟩ | ⟨_, z⟩
      · exact absurd z ne
      · exact .inr ⟨c, z⟩
  refine ⟨by rw [List.length_set, List.length_set]; exact s.len, s.exf, s.exs, s.base, s.new, s.live, s.msf, s.ms0, fun j c' q => ?_, fun j c' q => ?_, s.lk, fun j k hj hk e => ?_, fun j t q => ?_⟩
  · rcases set_back li q with ⟨z1, z⟩ | ⟨z1, z⟩
    · cases z
      rw [if_pos z1]
      exact ⟨h0, hf, hc⟩
    · rw [if_neg z1]
      exact s.own j c' z
  · rcases set_back li q with ⟨z1, z⟩ | ⟨z1, z⟩
    · cases z
    · rw [if_neg z1]
      exact s.par j c' z
  · have e : (if j = i then p else ad j) = if k = i then p else ad k := e
    by_cases h1 : j = i <;> by_cases h2 : k = i
    · rw [h1, h2]
    · rw [if_pos h1, if_neg h2] at e
      exact absurd e.symm (ho k (ow k hk h2))
    · rw [if_neg h1, if_pos h2] at e
      exact absurd e (ho j (ow j hj h1))
    · rw [if_neg h1, if_neg h2] at e
      exact s.inj j k (ow j hj h1) (ow k hk h2) e
  · show SlotOk Γ Hf (if j = i then p else ad j) _ t
    rcases set_back li q with ⟨z1, z⟩ | ⟨z1, z⟩
    · subst z1
      subst z
      rw [List.getElem?_set_self (by rw [s.len]; exact li), if_pos rfl]
      rfl
    · rw [List.getElem?_set_ne (Ne.symm z1), if_neg z1]
      exact s.sl j t z
/-- the object of a slot changes -/
def setC (st : S) (i : Nat) (c : Cell) : S := match st[i]? with
  | some (.o _) => st.set i (.o c)
  | some (.p _) => st.set i (.p c)
  | _ => st
def cellOf (st : S) (i : Nat) : Option Cell := match st[i]? with
  | some (.o c) => some c
  | some (.p c) => some c
  | _ => none
theorem cellOf_cases {c : Cell} (h : cellOf st i = some c) : (st[i]? = some (.o c) ∧ ∀ c', setC st i c' = st.set i (.o c')) ∨ (st[i]? = some (.p c) ∧ ∀ c', setC st i c' = st.set i (.p c')) := by
  unfold cellOf at h
  cases q : st[i]? with
  | none => rw [q] at h; cases h
  | some s =>
    rw [q] at h
    cases s with
    | o c' =>
      cases h
      exact .inl ⟨rfl, fun c' => by unfold setC; rw [q]⟩
    | p c' =>
      cases h
      exact .inr ⟨rfl, fun c' => by unfold setC; rw [q]⟩
    | un => cases h
    | d x => cases h
    | b x => cases h
theorem Sat.setCell (s : Sat Γ L Hf ad st σ H) {c c' : Cell} (h : cellOf st i = some c) {u : HO} (hu : CellO Hf u c') : Sat Γ L Hf ad (setC st i c') σ (upd H (ad i) u) ∧ Nxt ad st Hf H (setC st i c') Hf (upd H (ad i) u) := by
  have ow : Owns st i := by
    rcases cellOf_cases h with ⟨q, _⟩ | ⟨q, _⟩
    · exact .inl ⟨c, q⟩
    · exact .inr ⟨c, q⟩
  have li : i < st.length := by
    rcases cellOf_cases h with ⟨q, _⟩ | ⟨q, _⟩ <;> exact (List.getElem?_eq_some_iff.mp q).1
  have nf : Hf (ad i) = none := by
    rcases cellOf_cases h with ⟨q, _⟩ | ⟨q, _⟩
    · exact (s.own i c q).2.1
    · exact s.msf _ (s.par i c q).1.2
  have ns : Γ.Hs (ad i) = none := by
    rcases cellOf_cases h with ⟨q, _⟩ | ⟨q, _⟩
    · unfold Gm.Hs
      rw [(s.own i c q).1]
      split <;> rfl
    · unfold Gm.Hs
      rw [if_pos (s.par i c q).1.2]
  have ha : ∃ o, H (ad i) = some o := by
    obtain ⟨c', o, h1, _⟩ := s.cell ow
    exact ⟨o, h1⟩
  have back : ∀ j sl, (setC st i c')[j]? = some sl → (j = i ∧ ((sl = .o c' ∧ st[i]? = some (.o c)) ∨ (sl = .p c' ∧ st[i]? = some (.p c)))) ∨ (j ≠ i ∧ st[j]? = some sl) := fun j sl q => by
    rcases cellOf_cases h with ⟨q1, e⟩ | ⟨q1, e⟩
    · rw [e] at q
      rcases set_back li q with ⟨z1, z2⟩ | z
      · exact .inl ⟨z1, .inl ⟨z2, q1⟩⟩
      · exact .inr z
    · rw [e] at q
      rcases set_back li q with ⟨z1, z2⟩ | z
      · exact .inl ⟨z1, .inr ⟨z2, q1⟩⟩
      · exact .inr z
  have sub : ∀ j, Owns (setC st i c') j → Owns st j := fun j hj => by
    by_cases z : j = i
    · rw [z]; exact ow
    · rcases hj with ⟨c2, q⟩ | ⟨c2, q⟩
      · rcases back j _ q with ⟨z1, _⟩ | ⟨_, z2⟩
        · exact absurd z1 z
        · exact .inl ⟨c2, z2⟩
      · rcases back j _ q with ⟨z1, _⟩ | ⟨_, z2⟩
        · exact absurd z1 z
        · exact .inr ⟨c2, z2⟩
  have exl : ∀ {G : Hp}, G (ad i) = none → Exl L G H → Exl L G (upd H (ad i) u) := fun {G} g e a o q => by
    have na : a ≠ ad i := ne_of_none q g
    rcases e a o q with z | ⟨z1, z2, ob, z3⟩
    · exact .inl (by rw [upd_ne na]; exact z)
    · exact .inr ⟨z1, z2, ob, by rw [upd_ne na]; exact z3⟩
  have there : ∀ a o, H a = some o → ∃ o', upd H (ad i) u a = some o' := fun a o q => by
    by_cases z : a = ad i
    · exact ⟨u, by rw [z]; exact upd_same⟩
    · exact ⟨o, by rw [upd_ne z]; exact q⟩
  refine ⟨⟨?_, exl nf s.exf, exl ns s.exs, s.base, s.new, fun a hm => ?_, s.msf, s.ms0, fun j c2 q => ?_, fun j c2 q => ?_, fun a hm => ?_, fun j k hj hk => s.inj j k (sub j hj) (sub k hk), fun j sl q => ?_⟩, ⟨Ex.refl _, fun a o q => .inl q, fun a o q n => by rw [upd_ne (fun z => n i ow z.symm)]; exact q, there, sub⟩⟩
  · rw [s.len]
    rcases cellOf_cases h with ⟨_, e⟩ | ⟨_, e⟩ <;> rw [e, List.length_set]
  · obtain ⟨o, q⟩ := s.live a hm
    exact there a o q
  · rcases back j _ q with ⟨z1, ⟨z2, z3⟩ | ⟨z2, z3⟩⟩ | ⟨z1, z2⟩
    · cases z2
      rw [z1]
      exact ⟨(s.own i c z3).1, nf, u, upd_same, hu⟩
    · cases z2
    · obtain ⟨h1, h2, o, h3, h4⟩ := s.own j c2 z2
      exact ⟨h1, h2, o, by rw [upd_ne (fun z => z1 (s.inj j i (.inl ⟨c2, z2⟩) ow z))]; exact h3, h4⟩
  · rcases back j _ q with ⟨z1, ⟨z2, z3⟩ | ⟨z2, z3⟩⟩ | ⟨z1, z2⟩
    · cases z2
    · cases z2
      rw [z1]
      exact ⟨(s.par i c z3).1, u, upd_same, hu⟩
    · obtain ⟨h1, o, h3, h4⟩ := s.par j c2 z2
      exact ⟨h1, o, by rw [upd_ne (fun z => z1 (s.inj j i (.inr ⟨c2, z2⟩) ow z))]; exact h3, h4⟩
  · obtain ⟨ob, w, q⟩ := s.lk a hm
    refine ⟨ob, w, ?_⟩
    rw [upd_ne (fun z => ?_)]
    · exact q
    · obtain ⟨c2, u2, q2, q3⟩ := s.cell ow
      rw [← z, q] at q2
      cases q2
      exact q3.nofrz
  · rcases back j _ q with ⟨z1, ⟨z2, z3⟩ | ⟨z2, z3⟩⟩ | ⟨z1, z2⟩
    · subst z1
      subst z2
      have k : σ[j]? = some (some (V.ref (ad j))) := s.sl j _ z3
      exact k
    · subst z1
      subst z2
      have k : σ[j]? = some (some (V.ref (ad j))) := s.sl j _ z3
      exact k
    · exact s.sl j sl z2
end

variable {X : Cx} {W : WX}
section
variable {D : Ends} {σ : L2.St} {H : Hp}
/-! ### blocks -/
def wNext : WS := fun N st => N.nx st
def wSeq (a b : WS) : WS := fun N st => a { N with nx := b N } st
theorem LS.next (h : LS W wNext D σ H) : tNext D σ H := by
  obtain ⟨Γ, L, Hf, ad, st, N, s, hw, c⟩ := h
  exact c.nx _ hw _ _ _ _ s
theorem LS.seq {a b : WS} (h : LS W (wSeq a b) D σ H) : tSeq (LS W a) (LS W b) D σ H := by
  obtain ⟨Γ, L, Hf, ad, st, N, s, hw, c⟩ := h
  exact ⟨Γ, L, Hf, ad, st, _, s, hw, fun st' h Hf' ad' σ' H' s' => ⟨Γ, L, Hf', ad', st', N, s', h, c⟩, c.rt, c.bk, c.ct, c.ex⟩
def wBreak : WS := fun N st => N.bk st
def wCont : WS := fun N st => N.ct st
theorem LS.brk (h : LS W wBreak D σ H) : tBreak D σ H := by
  obtain ⟨Γ, L, Hf, ad, st, N, s, hw, c⟩ := h
  exact c.bk _ hw _ _ _ _ s
theorem LS.cont (h : LS W wCont D σ H) : tCont D σ H := by
  obtain ⟨Γ, L, Hf, ad, st, N, s, hw, c⟩ := h
  exact c.ct _ hw _ _ _ _ s
/-! ### an assignment to a name -/
def asgK (i : Nat) (N : DN) (st : S) : RV → Prop
  | .d x => NoP st i ∧ N.nx (st.set i (.d x))
  | .b x => NoP st i ∧ N.nx (st.set i (.b x))
  | .n c => NoP st i ∧ N.nx (st.set i (.o c))
  | .sl _ => False
def wAsg (i : Nat) (w : WE) : WS := fun N st => w st (fun r st1 => asgK i N st1 r) N.ex
theorem LS.asg {i : Nat} {w : WE} (h : LS W (wAsg i w) D σ H) : tAsg (LE W w) (gName i) D σ H := by
  obtain ⟨Γ, L, Hf, ad, st, N, s, hw, c⟩ := h
  refine ⟨Γ, L, Hf, ad, st, _, _, s, hw, fun r st1 h1 v Hf1 H1 n1 s1 k1 => ?_, c.xok⟩
  show D.nx (σ.set i (some v)) H1
  cases r with
  | d x => exact c.nx _ h1.2 _ _ _ _ (s1.putV h1.1.lt (.inl ⟨x, rfl⟩) ⟨v, rfl, k1⟩)
  | b x => exact c.nx _ h1.2 _ _ _ _ (s1.putV h1.1.lt (.inr (.inl ⟨x, rfl⟩)) ⟨v, rfl, k1⟩)
  | n c' =>
    obtain ⟨p, rfl, _, e2, e3, e4, e5⟩ := k1
    exact c.nx _ h1.2 _ _ _ _ (s1.putO h1.1.lt e2 e3 e4 e5)
  | sl j => exact h1.elim
/-! ### return, an expression alone -/
def wRet (w : WE) : WS := fun N st => w st (fun r st1 => N.rt r st1) N.ex
def wRetN : WS := fun N st => N.rt (.d .non) st
def wDrop (w : WE) : WS := fun N st => w st (fun _ st1 => N.nx st1) N.ex
theorem RepR.home {Γ : Gm} {Hf Hb H : Hp} {ad : Nat → Addr} {st : S} {v : V} {rv : RV} (h : RepR Γ Hf ad st σ Hb H v rv) : RepR Γ Hf ad st σ Γ.H0 H v rv := by
  cases rv with
  | n c =>
    obtain ⟨p, e, _, h0, r⟩ := h
    exact ⟨p, e, h0, h0, r⟩
  | _ => exact h
theorem LS.ret {w : WE} (h : LS W (wRet w) D σ H) : tRet (LE W w) D σ H := by
  obtain ⟨Γ, L, Hf, ad, st, N, s, hw, c⟩ := h
  exact ⟨Γ, L, Hf, ad, st, _, _, s, hw, fun r st1 h1 v Hf1 H1 n1 s1 k1 => c.rt _ _ h1 v _ _ _ _ s1 k1.home, c.xok⟩
theorem LS.retN (h : LS W wRetN D σ H) : tRetN D σ H := by
  obtain ⟨Γ, L, Hf, ad, st, N, s, hw, c⟩ := h
  exact c.rt _ _ hw .non _ _ _ _ s .non
theorem LS.drop {w : WE} (h : LS W (wDrop w) D σ H) : tDrop (LE W w) D σ H := by
  obtain ⟨Γ, L, Hf, ad, st, N, s, hw, c⟩ := h
  exact ⟨Γ, L, Hf, ad, st, _, _, s, hw, fun r st1 h1 v Hf1 H1 n1 s1 k1 => c.nx _ h1 _ _ _ _ s1, c.xok⟩
/-! ### if, while -/
def wIfS (t : WT) (a b : WS) : WS := fun N st => t st (fun k st1 => if k = true then a N st1 else b N st1) N.ex
theorem LS.ifS {t : WT} {a b : WS} (h : LS W (wIfS t a b) D σ H) : tIfS (LT W t) (LS W a) (LS W b) D σ H := by
  obtain ⟨Γ, L, Hf, ad, st, N, s, hw, c⟩ := h
  refine ⟨Γ, L, Hf, ad, st, _, _, s, hw, fun k st1 h1 Hf1 H1 n1 s1 => ?_, c.xok⟩
  cases k with
  | true => exact ⟨Γ, L, Hf1, ad, st1, N, s1, h1, c⟩
  | false => exact ⟨Γ, L, Hf1, ad, st1, N, s1, h1, c⟩
def whileN (t : WT) (b : WS) (N : DN) : Nat → S → Prop
  | 0, _ => False
  | n + 1, st => t st (fun k st1 => if k = true then b { N with nx := whileN t b N n, ct := whileN t b N n, bk := N.nx } st1 else N.nx st1) N.ex
def wWhile (t : WT) (b : WS) : WS := fun N st => ∃ n, whileN t b N n st
theorem LS.whl {t : WT} {b : WS} (h : LS W (wWhile t b) D σ H) : tWhile (LT W t) (LS W b) D σ H := by
  obtain ⟨Γ, L, Hf, ad, st, N, s, ⟨n, hw⟩, c⟩ := h
  refine ⟨fun m σ H => ∃ Hf ad st, Sat Γ L Hf ad st σ H ∧ whileN t b N m st, ⟨n, Hf, ad, st, s, hw⟩, ?_⟩
  rintro m σ H ⟨Hf, ad, st, s, hw⟩
  cases m with
  | zero => exact hw.elim
  | succ m =>
    refine ⟨Γ, L, Hf, ad, st, _, _, s, hw, fun k st1 h1 Hf1 H1 n1 s1 => ?_, c.xok⟩
    cases k with
    | false => exact c.nx _ h1 _ _ _ _ s1
    | true =>
      show ∃ N' : L2.St → Hp → Prop, _
      refine ⟨fun σ' H' => ∃ Hf ad st, Sat Γ L Hf ad st σ' H' ∧ whileN t b N m st, fun σ' H' hN => ⟨m, Nat.lt_succ_self _, hN⟩, ?_⟩
      exact ⟨Γ, L, Hf1, ad, st1, _, s1, h1, ⟨fun st' h' Hf' ad' σ' H' s' => ⟨Hf', ad', st', s', h'⟩, c.rt, fun st' h' Hf' ad' σ' H' s' => c.nx _ h' _ _ _ _ s', fun st' h' Hf' ad' σ' H' s' => ⟨Hf', ad', st', s', h'⟩, c.ex⟩⟩
end
section
/-! ### targets -/
theorem gok_name {i : Nat} : GOk (gName i) [i] (gN i) := fun Γ L Hf ad st σ H v x P Q s r h k => k _ h.2 _ (s.putV h.1.lt (.inl ⟨x, rfl⟩) ⟨v, rfl, r⟩) ⟨List.length_set, fun j hj => List.getElem?_set_ne (fun z => hj (by rw [z]; exact List.mem_singleton.mpr rfl)), fun j hj => by
    rcases hj with ⟨c, q⟩ | ⟨c, q⟩
    · rcases set_back h.1.lt q with ⟨_, z⟩ | ⟨_, z⟩
      · cases z
      · exact .inl ⟨c, z⟩
    · rcases set_back h.1.lt q with ⟨_, z⟩ | ⟨_, z⟩
      · cases z
      · exact .inr ⟨c, z⟩⟩
theorem gsok_nil : GsOk gNil [] [] := fun Γ L Hf ad st σ H vs xs P Q s r h k => by
    cases r with
    | nil => exact ⟨rfl, k _ h _ s ⟨rfl, fun _ _ => rfl, fun _ q => q⟩⟩
    | cons a b => exact h.elim
theorem gsok_cons {t : TG} {u : TGs} {vs ws : List Nat} {g : WG} {gs : List WG} (h1 : GOk t vs g) (h2 : GsOk u ws gs) : GsOk (gCons t u) (vs ++ ws) (g :: gs) := fun Γ L Hf ad st σ H us xs P Q s r h k => by
    cases r with
    | nil => exact h.elim
    | cons a b =>
      exact ⟨_, _, rfl, h1 Γ L Hf ad st σ H _ _ _ _ s a h fun st' h' σ' s' e1 => h2 Γ L Hf ad st' σ' H _ _ _ _ s' b h' fun st2 h2 σ2 s2 e2 => k st2 h2 σ2 s2 ⟨e2.len.trans e1.len, fun j hj => (e2.out j fun z => hj (List.mem_append.mpr (.inr z))).trans (e1.out j fun z => hj (List.mem_append.mpr (.inl z))), fun j hj => e1.sub j (e2.sub j hj)⟩⟩
theorem gok_tup {K : PySem.W.Frag} {t : TGs} {vs : List Nat} {gs : List WG} (h : GsOk t vs gs) : GOk (gTup K gs.length t) vs (gT gs) := fun Γ L Hf ad st σ H v x P Q s r h' k => by
    cases r with
    | @tup a vs xs ha hr =>
      have h' : xs.length = gs.length ∧ gsN gs xs st P := h'
      have q : H a = some (.tup vs) := exl_at s.exf ha (by rintro (⟨_, q⟩ | ⟨_, q⟩) <;> cases q)
      exact ⟨a, vs, rfl, .inl (.inl q), by rw [hr.length]; exact h'.1, h Γ L Hf ad st σ H vs xs P Q s hr h'.2 k⟩
    | _ => exact h'.elim
/-- target = value -/
def wAsgG (w : WE) (g : WG) : WS := fun N st => w st (fun r st1 => match r with
  | .d x => g x st1 N.nx
  | _ => False) N.ex
theorem LS.asgG {t : TG} {vs : List Nat} {g : WG} {w : WE} {De : Ends} {σ : L2.St} {H : Hp} (hg : GOk t vs g) (h : LS W (wAsgG w g) De σ H) : tAsg (LE W w) t De σ H := by
  obtain ⟨Γ, L, Hf, ad, st, N, s, hw, c⟩ := h
  refine ⟨Γ, L, Hf, ad, st, _, _, s, hw, fun r st1 h1 v Hf1 H1 n1 s1 k1 => ?_, c.xok⟩
  cases r with
  | d x => exact hg Γ L Hf1 ad st1 σ H1 v x _ _ s1 k1 h1 fun st' h' σ' s' _ => c.nx _ h' _ _ _ _ s'
  | b x => exact h1.elim
  | n x => exact h1.elim
  | sl x => exact h1.elim
end

/-! ### the judgements -/
section
variable {e a b c : Expr} {es : List Expr} {ss : List Stmt} {s : Stmt} {w w1 w2 : WE} {wa : WA} {wt : WT} {u u1 u2 : WS} {pos : Pos}
theorem ds_nil : DSs X W [] wNext := ⟨pss_nil.imp fun _ _ _ h => h.next⟩
theorem ds_cons (h1 : DS X W s u1) (h2 : DSs X W ss u2) : DSs X W (s :: ss) (wSeq u1 u2) := ⟨(pss_cons h1.ps h2.pss).imp fun _ _ _ h => h.seq⟩
theorem ds_one (h1 : DS X W s u1) : DSs X W [s] u1 := ⟨pss_one h1.ps⟩
theorem ds_pass : DS X W (.Pass pos) wNext := ⟨ps_pass.imp fun _ _ _ h => h.next⟩
theorem ds_break : DS X W (.Break pos) wBreak := ⟨ps_break.imp fun _ _ _ h => h.brk⟩
theorem ds_continue : DS X W (.Continue pos) wCont := ⟨ps_continue.imp fun _ _ _ h => h.cont⟩
theorem ds_set (i : Nat) {x : Str} {pos' : Pos} (hN : X.N.Nodup) (he : DE X W e w) (hi : X.N[i]? = some x := by rfl) (hx : Loc X.env.scope x := by first | exact Or.inl rfl | exact Or.inr rfl) (hs : swapsWith e (some (.Name x pos')) pos.line X.env = pure false := by rfl)
    (hf : X.fn x = true ∨ X.env.scope.names.lookup x = some .local := by first | exact .inl rfl | exact .inr rfl) : DS X W (.Assign [.Name x pos'] e pos) (wAsg i w) := ⟨(ps_set hN hi hx he.pe hs hf).imp fun _ _ _ h => h.asg⟩
theorem ds_ret (he : DE X W e w) : DS X W (.Return (some e) pos) (wRet w) := ⟨(ps_ret he.pe).imp fun _ _ _ h => h.ret⟩
theorem ds_retN : DS X W (.Return none pos) wRetN := ⟨ps_retN.imp fun _ _ _ h => h.retN⟩
theorem ds_expr (he : DE X W e w) (hs : swapsWith e none pos.line X.env = pure false := by rfl) : DS X W (.Expr e pos) (wDrop w) := ⟨(ps_expr he.pe hs).imp fun _ _ _ h => h.drop⟩
theorem ds_if {a b : List Stmt} (hc : DT X W c wt) (ha : DSs X W a u1) (hb : DSs X W b u2) : DS X W (.If c a b pos) (wIfS wt u1 u2) := ⟨(ps_if hc.pt ha.pss hb.pss).imp fun _ _ _ h => h.ifS⟩
theorem ds_while {body : List Stmt} (hp : PassesOwn (model X.prog X.w) X.A X.env X.xe) (hc : DT X W c wt) (hb : DSs X W body u1) : DS X W (.While c body [] pos) (wWhile wt u1) := ⟨(ps_while hp hc.pt hb.pss).imp fun _ _ _ h => h.whl⟩
theorem ds_asg {tg : Expr} {t : TG} {vs : List Nat} {g : WG} (he : DE X W e w) (hg : PG X tg t) (hgo : GOk t vs g) (hs : swapsWithSole [tg] e pos.line X.env = pure false := by rfl) (hw : swappedStores [tg] e X.env = pure none := by rfl) (h1 : (assignEach [tg] X.env).map (·.2) = [assign tg X.env] := by rfl) : DS X W (.Assign [tg] e pos) (wAsgG w g) := ⟨(ps_asg he.pe hg hs hw h1).imp fun _ _ _ h => h.asgG hgo⟩
end
end DL


/-! DL e: loops, comprehensions. -/
namespace DL
open PySem PySem.Spec PyProof.Rows L2

/-- what is walked, as the list of its turns' data -/
abbrev WI := S → (List D → S → Prop) → XC → Prop
def Steps (Γ : Gm) (L : List Addr) (Hf : Hp) (J : It) (xs : List D) : Prop :=
  ∀ Hf' ad' st' σ' H', Sat Γ L Hf' ad' st' σ' H' → Ex Hf Hf' → ∀ i, (∀ x, xs[i]? = some x → J.go i H' ∧ ∀ v H'', J.yld i H' v H'' → ∃ Hf'', Res Hf' H' (.d x) v Hf'' H'') ∧ (xs.length ≤ i → J.stop i H')
def LI (W : WX) (w : WI) : TI := fun σ H R => ∃ Γ L Hf ad st P E, Sat Γ L Hf ad st σ H ∧ w st P E ∧
  (∀ xs st1, P xs st1 → ∀ Hf1 H1 J, Nxt ad st Hf H st1 Hf1 H1 → Sat Γ L Hf1 ad st1 σ H1 → Steps Γ L Hf1 J xs → R J H1) ∧ XOk W Γ L Hf ad st σ H E
structure DI (X : Cx) (W : WX) (tg e : Expr) (w : WI) : Prop where
  pi : PI X tg e (LI W w)
theorem _root_.L2.PI.imp {X : Cx} {tg e : Expr} {t t' : TI} (h : PI X tg e t) (i : ∀ σ H R, t' σ H R → t σ H R) : PI X tg e t' := ⟨fun pins s σ H R I q => h.run pins s σ H R I (i σ H R q)⟩

section
variable {Γ : Gm} {L : List Addr} {Hf Hf' Hf1 H H' H1 : Hp} {ad ad1 : Nat → Addr} {st st1 : S} {σ σ1 : L2.St}
/-- the ground as it stands now as the new base -/
theorem Sat.rebase (s : Sat Γ L Hf ad st σ H) : Sat { Γ with Hf0 := Hf } L Hf ad st σ H :=
  ⟨s.len, s.exf, s.exs, Ex.refl _, fun _ _ h => .inl h, s.live, s.msf, s.ms0, s.own, s.par, s.lk, s.inj, s.sl⟩
theorem Sat.unbase (s1 : Sat Γ L Hf1 ad1 st1 σ1 H1) (s : Sat { Γ with Hf0 := Hf1 } L Hf ad st σ H) : Sat Γ L Hf ad st σ H :=
  ⟨s.len, s.exf, s.exs, s1.base.trans s.base, fun a o h => (s.new a o h).elim (s1.new a o) .inr, s.live, s.msf, s.ms0, s.own, s.par, s.lk, s.inj, s.sl⟩
end

variable {X : Cx} {W : WX}
/-! ### for -/
def loopN (g : WG) (b : WS) (N : DN) : List D → S → Prop
  | [], st => N.nx st
  | x :: r, st => g x st fun st2 => b { N with nx := loopN g b N r, ct := loopN g b N r, bk := N.nx } st2
def wFor (w : WI) (g : WG) (b : WS) : WS := fun N st => w st (fun xs st1 => loopN g b N xs st1) N.ex
theorem LS.forL {t : TG} {vs : List Nat} {g : WG} {w : WI} {b : WS} {De : Ends} {σ : L2.St} {H : Hp} (hg : GOk t vs g) (h : LS W (wFor w g b) De σ H) : tFor (LI W w) t (LS W b) De σ H := by
  obtain ⟨Γ, L, Hf, ad, st, N, s, hw, c⟩ := h
  refine ⟨Γ, L, Hf, ad, st, _, _, s, hw, fun xs st1 h1 Hf1 H1 J n1 s1 steps => ?_, c.xok⟩
  refine ⟨fun i m σ H => m = xs.length - i ∧ i ≤ xs.length ∧ ∃ Hf ad st, Sat { Γ with Hf0 := Hf1 } L Hf ad st σ H ∧ loopN g b N (xs.drop i) st, ⟨xs.length, rfl, Nat.zero_le _, Hf1, ad, st1, s1.rebase, h1⟩, ?_⟩
  rintro i m σ H ⟨rfl, hi, Hf, ad, st, s, hl⟩
  have sΓ := s1.unbase s
  obtain ⟨go, stop⟩ := steps Hf ad st σ H sΓ s.base i
  cases hd : xs.drop i with
  | nil =>
    rw [hd] at hl
    have e : xs.length ≤ i := List.drop_eq_nil_iff.mp hd
    exact .inl ⟨stop e, c.nx _ hl _ _ _ _ sΓ⟩
  | cons x r =>
    rw [hd] at hl
    have li : i < xs.length := by
      have q := congrArg List.length hd
      rw [List.length_drop, List.length_cons] at q
      omega
    have ei : xs[i]? = some x ∧ xs.drop (i + 1) = r := by
      rw [List.drop_eq_getElem_cons li] at hd
      injection hd with a1 a2
      exact ⟨by rw [List.getElem?_eq_getElem li, a1], a2⟩
    obtain ⟨g1, g2⟩ := go x ei.1
    refine .inr ⟨g1, fun σ' H' => ∃ Hf ad st, Sat { Γ with Hf0 := Hf1 } L Hf ad st σ' H' ∧ loopN g b N r st, fun σ' H' ⟨Hf', ad', st', s', h'⟩ => ⟨xs.length - (i + 1), by omega, rfl, by omega, Hf', ad', st', s', by rw [ei.2]; exact h'⟩, fun v H' hy => ?_⟩
    obtain ⟨Hf'', res⟩ := g2 v H' hy
    obtain ⟨n2, s2, k2⟩ := res.go s
    refine hg _ L Hf'' ad st σ H' v x _ _ s2 k2 hl fun st' h' σ' s' _ => ?_
    exact ⟨_, L, Hf'', ad, st', _, s', h', ⟨fun st2 h2 Hf2 ad2 σ2 H2 s3 => ⟨Hf2, ad2, st2, s3, h2⟩, fun rv st2 h2 v2 Hf2 ad2 σ2 H2 s3 r3 => c.rt rv st2 h2 v2 Hf2 ad2 σ2 H2 (s1.unbase s3) r3,
      fun st2 h2 Hf2 ad2 σ2 H2 s3 => c.nx _ h2 _ _ _ _ (s1.unbase s3), fun st2 h2 Hf2 ad2 σ2 H2 s3 => ⟨Hf2, ad2, st2, s3, h2⟩, fun C y st2 h2 d Hf2 ad2 σ2 H2 s3 p => c.ex C y st2 h2 d Hf2 ad2 σ2 H2 (s1.unbase s3) p⟩⟩
theorem ds_for {tg e : Expr} {body : List Stmt} {t : TG} {vs : List Nat} {g : WG} {w : WI} {u : WS} {pos : Pos} (hp : PassesOwn (model X.prog X.w) X.A X.env X.xe) (hc : X.calm = true) (hi : DI X W tg e w) (hg : PG X tg t) (hgo : GOk t vs g) (hb : DSs X W body u)
    (hs : ∀ x, foldedSetIterable e X.env x = pure x := by intro _; rfl) : DS X W (.For tg e body [] pos) (wFor w g u) := ⟨(ps_for hp hc hi.pi hg hb.pss hs).imp fun _ _ _ h => h.forL hgo⟩

/-! ### what is walked -/
/-- a list or tuple that never changes; the items -/
def itemsK (st : S) (P : List D → S → Prop) : RV → Prop
  | .d (.lst xs) => P xs st
  | .d (.tup xs) => P xs st
  | .b (.lst xs) => P xs st
  | .b (.tup xs) => P xs st
  | _ => False
def wItL (w : WE) : WI := fun st P E => w st (fun r st1 => match r with
  | .d (.lst xs) => P xs st1
  | .b (.lst xs) => P xs st1
  | .b (.fz ns) => P (ns.map D.int) st1
  | _ => False) E
def wItT (w : WE) : WI := fun st P E => w st (fun r st1 => match r with
  | .d (.tup xs) => P xs st1
  | _ => False) E
theorem rd_list {K : PySem.W.Frag} {H : Hp} {a : Addr} {vs : List V} (h : Rd H a (.lst vs)) : SqL K H a vs := .inl h
section
variable {Γ : Gm} {L : List Addr} {Hf H : Hp} {xs : List D} {vs : List V} {a : Addr} {K : PySem.W.Frag}
theorem rd_inj {H : Hp} {a : Addr} {xs ys : List V} (h : Rd H a (.lst xs)) (h' : Rd H a (.lst ys)) : xs = ys := by
  rcases h with h | ⟨o, h⟩ <;> rcases h' with h' | ⟨o', h'⟩ <;> rw [h] at h' <;> cases h' <;> rfl
/-- a list as it is read at each turn -/
theorem steps_list (rd : ∀ Hf' ad' st' σ' H', Sat Γ L Hf' ad' st' σ' H' → Ex Hf Hf' → Rd H' a (.lst vs)) (r : Reps Hf vs xs) : Steps Γ L Hf (Itl K a) xs := fun Hf' ad' st' σ' H' s e i => by
  have h := rd Hf' ad' st' σ' H' s e
  refine ⟨fun x hx => ?_, fun hi => ⟨vs, rd_list h, by rw [r.length]; exact hi⟩⟩
  obtain ⟨v, hv, rv⟩ := r.get hx
  refine ⟨⟨vs, v, rd_list h, hv⟩, fun u H'' hy => ?_⟩
  obtain ⟨rfl, q⟩ := hy
  have e1 : u = v := Option.some.inj ((q vs (rd_list h)).symm.trans hv)
  subst e1
  exact ⟨Hf', .same (rv.mono e)⟩
theorem steps_tup (h0 : Hf a = some (.tup vs)) (r : Reps Hf vs xs) : Steps Γ L Hf (Itt K a) xs := fun Hf' ad' st' σ' H' s e i => by
  have h : SqT K H' a vs := .inl (.inl (exl_at s.exf (e _ _ h0) (by rintro (⟨_, q⟩ | ⟨_, q⟩) <;> cases q)))
  refine ⟨fun x hx => ?_, fun hi => ⟨vs, h, by rw [r.length]; exact hi⟩⟩
  obtain ⟨v, hv, rv⟩ := r.get hx
  refine ⟨⟨vs, v, h, hv⟩, fun u H'' hy => ?_⟩
  obtain ⟨rfl, q⟩ := hy
  have e1 : u = v := Option.some.inj ((q vs h).symm.trans hv)
  subst e1
  exact ⟨Hf', .same (rv.mono e)⟩
theorem steps_range {lo : Int} {n : Nat} : Steps Γ L Hf (Itr lo n) ((List.range n).map fun i => D.int (lo + (i : Nat))) := fun Hf' ad' st' σ' H' s e i => by
  refine ⟨fun x hx => ?_, fun hi => show n ≤ i by simpa using hi⟩
  rw [List.getElem?_map] at hx
  obtain ⟨j, hj, rfl⟩ := Option.map_eq_some_iff.mp hx
  have hi : i < n := by
    have := (List.getElem?_eq_some_iff.mp hj).1
    simpa using this
  have ej : j = i := by
    rw [List.getElem?_range hi] at hj
    exact (Option.some.inj hj).symm
  subst ej
  refine ⟨hi, fun u H'' hy => ?_⟩
  obtain ⟨rfl, rfl⟩ := hy
  exact ⟨Hf', .same (.int _)⟩
theorem steps_str {z : Str} : Steps Γ L Hf (Its z) (z.cps.toList.map fun c => D.str ⟨#[c]⟩) := fun Hf' ad' st' σ' H' s e i => by
  refine ⟨fun x hx => ?_, fun hi => show z.cps.size ≤ i by simpa using hi⟩
  rw [List.getElem?_map] at hx
  obtain ⟨j, hj, rfl⟩ := Option.map_eq_some_iff.mp hx
  have hj' : z.cps[i]? = some j := by simpa using hj
  refine ⟨show i < z.cps.size from (Array.getElem?_eq_some_iff.mp hj').1, fun u H'' hy => ?_⟩
  obtain ⟨rfl, c, hc, rfl⟩ := hy
  rw [hc] at hj'
  cases hj'
  exact ⟨Hf', .same (.str _)⟩
end
theorem reps_ints {Hf : Hp} : ∀ ns : List Int, Reps Hf (ns.map V.int) (ns.map D.int)
  | [] => .nil
  | n :: ns => .cons (.int n) (reps_ints ns)
section
variable {tg e e2 : Expr} {w w2 : WE} {wa : WA}
theorem di_list (h : DE X W e w) : DI X W tg e (wItL w) := ⟨(pi_list h.pe).imp fun σ H R ⟨Γ, L, Hf, ad, st, P, E, s, hw, hP, hE⟩ => by
  refine ⟨Γ, L, Hf, ad, st, _, E, s, hw, fun r1 st1 h1 v Hf1 H1 n1 s1 k1 => ?_, hE⟩
  cases r1 with
  | d x =>
    cases k1 with
    | @lst a vs xs ha hr =>
      have rd : ∀ Hf' ad' st' σ' H', Sat Γ L Hf' ad' st' σ' H' → Ex Hf1 Hf' → Rd H' a (.lst vs) := fun Hf' ad' st' σ' H' s e => exl_rd s.exf (.inl (e _ _ ha))
      exact ⟨a, rfl, ⟨vs, rd_list (rd _ _ _ _ _ s1 (Ex.refl _))⟩, hP _ _ h1 Hf1 H1 _ n1 s1 (steps_list rd hr)⟩
    | _ => exact h1.elim
  | b x =>
    have k1 : RepB Γ.Hs Hf1 v x := k1
    cases k1 with
    | of k1 =>
      cases k1 with
      | @lst a vs xs ha hr =>
        have rd : ∀ Hf' ad' st' σ' H', Sat Γ L Hf' ad' st' σ' H' → Ex Hf1 Hf' → Rd H' a (.lst vs) := fun Hf' ad' st' σ' H' s e => exl_rd s.exf (.inl (e _ _ ha))
        exact ⟨a, rfl, ⟨vs, rd_list (rd _ _ _ _ _ s1 (Ex.refl _))⟩, hP _ _ h1 Hf1 H1 _ n1 s1 (steps_list rd hr)⟩
      | _ => exact h1.elim
    | @lst a vs xs ha hr =>
      have rd : ∀ Hf' ad' st' σ' H', Sat Γ L Hf' ad' st' σ' H' → Ex Hf1 Hf' → Rd H' a (.lst vs) := fun Hf' ad' st' σ' H' s e => exl_rd s.exs (.inl ha)
      exact ⟨a, rfl, ⟨vs, rd_list (rd _ _ _ _ _ s1 (Ex.refl _))⟩, hP _ _ h1 Hf1 H1 _ n1 s1 (steps_list rd hr)⟩
    | @fz a ns ha =>
      have rd : ∀ Hf' ad' st' σ' H', Sat Γ L Hf' ad' st' σ' H' → Ex Hf1 Hf' → Rd H' a (.lst (ns.map V.int)) := fun Hf' ad' st' σ' H' s e => exl_rd s.exs ha
      exact ⟨a, rfl, ⟨_, rd_list (rd _ _ _ _ _ s1 (Ex.refl _))⟩, hP _ _ h1 Hf1 H1 _ n1 s1 (steps_list rd (reps_ints ns))⟩
    | _ => exact h1.elim
  | n x => exact h1.elim
  | sl x => exact h1.elim⟩
theorem di_tup (h : DE X W e w) : DI X W tg e (wItT w) := ⟨(pi_tup h.pe).imp fun σ H R ⟨Γ, L, Hf, ad, st, P, E, s, hw, hP, hE⟩ => by
  refine ⟨Γ, L, Hf, ad, st, _, E, s, hw, fun r1 st1 h1 v Hf1 H1 n1 s1 k1 => ?_, hE⟩
  cases r1 with
  | d x =>
    cases k1 with
    | @tup a vs xs ha hr => exact ⟨a, rfl, ⟨vs, .inl (.inl (exl_at s1.exf ha (by rintro (⟨_, q⟩ | ⟨_, q⟩) <;> cases q)))⟩, hP _ _ h1 Hf1 H1 _ n1 s1 (steps_tup ha hr)⟩
    | _ => exact h1.elim
  | b x => exact h1.elim
  | n x => exact h1.elim
  | sl x => exact h1.elim⟩
def intK (P : Int → S → Prop) (st : S) : List RV → Prop
  | [.d (.int n)] => P n st
  | _ => False
def intK2 (P : Int → Int → S → Prop) (st : S) : List RV → Prop
  | [.d (.int n), .d (.int m)] => P n m st
  | _ => False
def wItR1 (wa : WA) : WI := fun st P E => wa st (fun rs st1 => intK (fun n st1 => -1000000000 < n ∧ n < 1000000000 ∧ P ((List.range n.toNat).map fun i => D.int (0 + (i : Nat))) st1) st1 rs) E
def wItR2 (wa : WA) : WI := fun st P E => wa st (fun rs st1 => intK2 (fun n m st1 => -1000000000 < n ∧ n < 1000000000 ∧ -1000000000 < m ∧ m < 1000000000 ∧ P ((List.range (m - n).toNat).map fun i => D.int (n + (i : Nat))) st1) st1 rs) E
theorem di_range1 {p pos : Pos} (hm : X.mg "range" = none) (ha : DA X W [e] wa) (hg : Gl X "range" := by rfl) (hs : starEach [e] X.env = [(false, eval e X.env)] := by rfl) : DI X W tg (.Call (.Name "range" p) [e] [] pos) (wItR1 wa) := ⟨(pi_range1 hg hm ha.pa hs).imp fun σ H R ⟨Γ, L, Hf, ad, st, P, E, s, hw, hP, hE⟩ => by
  refine ⟨Γ, L, Hf, ad, st, _, E, s, hw, fun rs st1 h1 vs Hf1 H1 n1 s1 k1 => ?_, hE⟩
  match rs, h1, k1 with
  | [.d (.int n)], h1, .cons k .nil =>
    have k : Rep Hf1 _ (.int n) := k
    cases k
    obtain ⟨hb, hb2, h1⟩ := h1
    exact ⟨n, rfl, by omega, by omega, hP _ _ h1 Hf1 H1 _ n1 s1 steps_range⟩⟩
theorem di_range2 {p pos : Pos} (hm : X.mg "range" = none) (ha : DA X W [e, e2] wa) (hg : Gl X "range" := by rfl) (hs : starEach [e, e2] X.env = [(false, eval e X.env), (false, eval e2 X.env)] := by rfl) (hs2 : starEach [e2] X.env = [(false, eval e2 X.env)] := by rfl) : DI X W tg (.Call (.Name "range" p) [e, e2] [] pos) (wItR2 wa) := ⟨(pi_range2 hg hm ha.pa hs hs2).imp fun σ H R ⟨Γ, L, Hf, ad, st, P, E, s, hw, hP, hE⟩ => by
  refine ⟨Γ, L, Hf, ad, st, _, E, s, hw, fun rs st1 h1 vs Hf1 H1 n1 s1 k1 => ?_, hE⟩
  match rs, h1, k1 with
  | [.d (.int n), .d (.int m)], h1, .cons k (.cons k' .nil) =>
    have k : Rep Hf1 _ (.int n) := k
    have k' : Rep Hf1 _ (.int m) := k'
    cases k
    cases k'
    obtain ⟨hb, hb2, hb3, hb4, h1⟩ := h1
    exact ⟨n, m, rfl, ⟨by omega, by omega, by omega, by omega⟩, hP _ _ h1 Hf1 H1 _ n1 s1 steps_range⟩⟩
def wItS (w : WE) : WI := fun st P E => w st (fun r st1 => match r with
  | .d (.str z) => P (z.cps.toList.map fun c => D.str ⟨#[c]⟩) st1
  | _ => False) E
theorem di_str (h : DE X W e w) : DI X W tg e (wItS w) := ⟨(pi_str h.pe).imp fun σ H R ⟨Γ, L, Hf, ad, st, P, E, s, hw, hP, hE⟩ => by
  refine ⟨Γ, L, Hf, ad, st, _, E, s, hw, fun r1 st1 h1 v Hf1 H1 n1 s1 k1 => ?_, hE⟩
  cases r1 with
  | d x =>
    cases k1 with
    | str z => exact ⟨z, rfl, hP _ _ h1 Hf1 H1 _ n1 s1 steps_str⟩
    | _ => exact h1.elim
  | b x => exact h1.elim
  | n x => exact h1.elim
  | sl x => exact h1.elim⟩
end

/-! ### comprehensions -/
/-- the slots of the block's own names forgotten; brought back -/
def wipeS (st : S) : List Nat → S
  | [] => st
  | v :: vs => (wipeS st vs).set v .un
def restS (st st0 : S) : List Nat → S
  | [] => st
  | v :: vs => match st0[v]? with
    | some s => (restS st st0 vs).set v s
    | none => restS st st0 vs
/-- none of them holds one's own object -/
def Bare (st : S) : List Nat → Prop
  | [] => True
  | v :: vs => (match st[v]? with
    | some (.o _) => False
    | some (.p _) => False
    | _ => True) ∧ Bare st vs
section
variable {Γ : Gm} {L : List Addr} {Hf Hf' H H' : Hp} {ad : Nat → Addr} {st st' st0 : S} {σ σ' : L2.St}
theorem Bare.at {st : S} : ∀ {vs : List Nat} {v : Nat}, Bare st vs → v ∈ vs → ¬ Owns st v
  | w :: vs, v, h, hm, ho => by
    rcases List.mem_cons.mp hm with e | hm
    · subst e
      have h1 := h.1
      rcases ho with ⟨c, q⟩ | ⟨c, q⟩ <;> rw [q] at h1 <;> exact h1
    · exact Bare.at h.2 hm ho
theorem wipeS_length (st : S) : ∀ vs, (wipeS st vs).length = st.length
  | [] => rfl
  | v :: vs => by unfold wipeS; rw [List.length_set, wipeS_length st vs]
theorem restS_length (st st0 : S) : ∀ vs, (restS st st0 vs).length = st.length
  | [] => rfl
  | v :: vs => by
    unfold restS
    split
    · rw [List.length_set, restS_length st st0 vs]
    · exact restS_length st st0 vs
theorem wipeS_at {st : S} {j : Nat} {s : Slot} : ∀ {vs : List Nat}, (wipeS st vs)[j]? = some s → (j ∈ vs ∧ s = .un) ∨ (j ∉ vs ∧ st[j]? = some s)
  | [], h => .inr ⟨by simp, h⟩
  | v :: vs, h => by
    unfold wipeS at h
    by_cases hv : v < (wipeS st vs).length
    · rcases set_back hv h with ⟨z1, z2⟩ | ⟨z1, z2⟩
      · exact .inl ⟨by rw [z1]; exact List.mem_cons_self, z2⟩
      · rcases wipeS_at z2 with ⟨a, b⟩ | ⟨a, b⟩
        · exact .inl ⟨List.mem_cons_of_mem _ a, b⟩
        · exact .inr ⟨fun z => (List.mem_cons.mp z).elim z1 a, b⟩
    · rw [List.set_eq_of_length_le (by omega)] at h
      have hj : j ≠ v := fun z => by
        rw [z, List.getElem?_eq_none (by omega)] at h
        cases h
      rcases wipeS_at h with ⟨a, b⟩ | ⟨a, b⟩
      · exact .inl ⟨List.mem_cons_of_mem _ a, b⟩
      · exact .inr ⟨fun z => (List.mem_cons.mp z).elim hj a, b⟩
theorem restS_at {st st0 : S} {j : Nat} {s : Slot} : ∀ {vs : List Nat}, st.length = st0.length → (restS st st0 vs)[j]? = some s → (j ∈ vs ∧ st0[j]? = some s) ∨ (j ∉ vs ∧ st[j]? = some s)
  | [], _, h => .inr ⟨by simp, h⟩
  | v :: vs, hl, h => by
    unfold restS at h
    split at h
    · rename_i t ht
      have lv : v < (restS st st0 vs).length := by
        rw [restS_length, hl]
        exact (List.getElem?_eq_some_iff.mp ht).1
      rcases set_back lv h with ⟨z1, z2⟩ | ⟨z1, z2⟩
      · exact .inl ⟨by rw [z1]; exact List.mem_cons_self, by rw [z1, z2]; exact ht⟩
      · rcases restS_at hl z2 with ⟨a, b⟩ | ⟨a, b⟩
        · exact .inl ⟨List.mem_cons_of_mem _ a, b⟩
        · exact .inr ⟨fun z => (List.mem_cons.mp z).elim z1 a, b⟩
    · rename_i ht
      have hj : j ≠ v := fun z => by
        have q : j < (restS st st0 vs).length := (List.getElem?_eq_some_iff.mp h).1
        rw [restS_length, hl, z] at q
        rw [List.getElem?_eq_getElem q] at ht
        cases ht
      rcases restS_at hl h with ⟨a, b⟩ | ⟨a, b⟩
      · exact .inl ⟨List.mem_cons_of_mem _ a, b⟩
      · exact .inr ⟨fun z => (List.mem_cons.mp z).elim hj a, b⟩
theorem owns_wipe {vs : List Nat} {j : Nat} (h : Owns (wipeS st vs) j) : j ∉ vs ∧ Owns st j := by
  rcases h with ⟨c, q⟩ | ⟨c, q⟩
  · rcases wipeS_at q with ⟨_, z⟩ | ⟨a, b⟩
    · cases z
    · exact ⟨a, .inl ⟨c, b⟩⟩
  · rcases wipeS_at q with ⟨_, z⟩ | ⟨a, b⟩
    · cases z
    · exact ⟨a, .inr ⟨c, b⟩⟩
theorem Sat.wipe (s : Sat Γ L Hf ad st σ H) (vs : List Nat) : Sat Γ L Hf ad (wipeS st vs) (L2.wipe σ vs) H := by
  refine ⟨by rw [L2.wipe_length, wipeS_length]; exact s.len, s.exf, s.exs, s.base, s.new, s.live, s.msf, s.ms0, fun i c q => ?_, fun i c q => ?_, s.lk, fun i j hi hj => s.inj i j (owns_wipe hi).2 (owns_wipe hj).2, fun i sl q => ?_⟩
  · rcases wipeS_at q with ⟨_, z⟩ | ⟨_, z⟩
    · cases z
    · exact s.own i c z
  · rcases wipeS_at q with ⟨_, z⟩ | ⟨_, z⟩
    · cases z
    · exact s.par i c z
  · rcases wipeS_at q with ⟨_, z⟩ | ⟨a, z⟩
    · subst z
      trivial
    · rw [L2.wipe_out a]
      exact s.sl i sl z
/-- back in the outer frame -/
theorem Sat.back (s0 : Sat Γ L Hf ad st0 σ H) (s : Sat Γ L Hf' ad st' σ' H') (n : Ex Hf Hf') {vs : List Nat} (hb : Bare st0 vs) (hw : L2.wipe σ' vs = L2.wipe σ vs) (sub : ∀ i, Owns st' i → Owns st0 i) : Sat Γ L Hf' ad (restS st' st0 vs) σ H' ∧ ∀ i, Owns (restS st' st0 vs) i → Owns st' i ∧ i ∉ vs := by
  have hl : st'.length = st0.length := by
    have q := congrArg List.length hw
    rw [L2.wipe_length, L2.wipe_length, s.len, s0.len] at q
    exact q
  have ow : ∀ i, Owns (restS st' st0 vs) i → Owns st' i ∧ i ∉ vs := fun i hi => by
    rcases hi with ⟨c, q⟩ | ⟨c, q⟩
    · rcases restS_at hl q with ⟨a, b⟩ | ⟨a, b⟩
      · exact absurd (.inl ⟨c, b⟩) (hb.at a)
      · exact ⟨.inl ⟨c, b⟩, a⟩
    · rcases restS_at hl q with ⟨a, b⟩ | ⟨a, b⟩
      · exact absurd (.inr ⟨c, b⟩) (hb.at a)
      · exact ⟨.inr ⟨c, b⟩, a⟩
  refine ⟨⟨by rw [restS_length, hl]; exact s0.len, s.exf, s.exs, s.base, s.new, s.live, s.msf, s.ms0, fun i c q => ?_, fun i c q => ?_, s.lk, fun i j hi hj => s.inj i j (ow i hi).1 (ow j hj).1, fun i sl q => ?_⟩, ow⟩
  · rcases restS_at hl q with ⟨a, b⟩ | ⟨a, b⟩
    · exact absurd (.inl ⟨c, b⟩) (hb.at a)
    · exact s.own i c b
  · rcases restS_at hl q with ⟨a, b⟩ | ⟨a, b⟩
    · exact absurd (.inr ⟨c, b⟩) (hb.at a)
    · exact s.par i c b
  · rcases restS_at hl q with ⟨a, b⟩ | ⟨a, b⟩
    · exact (s0.sl i sl b).mono n
    · have e : σ'[i]? = σ[i]? := by
        rw [← L2.wipe_out (σ := σ') a, hw, L2.wipe_out a]
      rw [← e]
      exact s.sl i sl b
/-- an object that is nobody's changes -/
theorem Sat.other (s : Sat Γ L Hf ad st σ H) {p : Addr} {u o : HO} (h : H p = some o) (nf : ∀ ob w, o ≠ .frz ob w) (h0 : Γ.H0 p = none) (hf : Hf p = none) (ho : ∀ i, Owns st i → ad i ≠ p) : Sat Γ L Hf ad st σ (upd H p u) := by
  have ns : Γ.Hs p = none := by
    unfold Gm.Hs
    rw [h0]
    split <;> rfl
  have exl : ∀ {G : Hp}, G p = none → Exl L G H → Exl L G (upd H p u) := fun {G} g e a o q => by
    have na : a ≠ p := ne_of_none q g
    rcases e a o q with z | ⟨z1, z2, ob, z3⟩
    · exact .inl (by rw [upd_ne na]; exact z)
    · exact .inr ⟨z1, z2, ob, by rw [upd_ne na]; exact z3⟩
  refine ⟨s.len, exl hf s.exf, exl ns s.exs, s.base, s.new, fun a ha => ?_, s.msf, s.ms0, fun i c q => ?_, fun i c q => ?_, fun a ha => ?_, s.inj, s.sl⟩
  · obtain ⟨o, q⟩ := s.live a ha
    exact ⟨o, by rw [upd_ne (fun z => s.ms0 a ha (by rw [z]; exact h0))]; exact q⟩
  · obtain ⟨h1, h2, w, h3, h4⟩ := s.own i c q
    exact ⟨h1, h2, w, by rw [upd_ne (ho i (.inl ⟨c, q⟩))]; exact h3, h4⟩
  · obtain ⟨h1, w, h3, h4⟩ := s.par i c q
    exact ⟨h1, w, by rw [upd_ne (ho i (.inr ⟨c, q⟩))]; exact h3, h4⟩
  · obtain ⟨ob, w, q⟩ := s.lk a ha
    exact ⟨ob, w, by
      rw [upd_ne (fun z => by
        rw [z, h] at q
        exact nf ob w (Option.some.inj q))]
      exact q⟩
end
def ex0 : XC := fun _ _ _ => False
def lcN (g : WG) (wt : WT) (we : WE) (vs : List Nat) (k : List D → S → Prop) : List D → List D → S → Prop
  | [], acc, st => k acc st
  | x :: r, acc, st => Bare st vs ∧ g x (wipeS st vs) fun st2 => wt st2 (fun b st3 => if b = true then we st3 (fun rv st4 => match rv with
      | .d y => acc.length < sizeLine ∧ lcN g wt we vs k r (acc ++ [y]) (restS st4 st vs)
      | _ => False) ex0 else lcN g wt we vs k r acc (restS st3 st vs)) ex0
def wLc (w : WI) (g : WG) (wt : WT) (we : WE) (vs : List Nat) : WE := fun st P E => w st (fun xs st1 => lcN g wt we vs (fun acc st2 => P (.n (.lst acc)) st2) xs [] st1) E
def wYes : WT := fun st P _ => P true st
theorem LT.yes {σ : L2.St} {H : Hp} {Q : Bool → Hp → Prop} (h : LT W wYes σ H Q) : tYes σ H Q := by
  obtain ⟨Γ, L, Hf, ad, st, P, E, s, hw, hP, hE⟩ := h
  exact hP _ _ hw Hf H Nxt.refl s
theorem wipe_set {σ σ' : L2.St} {vs : List Nat} (hl : σ'.length = σ.length) (h : ∀ j, j ∉ vs → σ'[j]? = (L2.wipe σ vs)[j]?) : L2.wipe σ' vs = L2.wipe σ vs := by
  have key : ∀ (τ : L2.St) (ws : List Nat) (j : Nat), j ∈ ws → j < τ.length → (L2.wipe τ ws)[j]? = some none := by
    intro τ ws
    induction ws with
    | nil => intro j h; cases h
    | cons v ws ih =>
      intro j hj hl
      unfold L2.wipe
      by_cases e : v = j
      · subst e
        rw [List.getElem?_set_self (by rw [L2.wipe_length]; exact hl)]
      · rw [List.getElem?_set_ne e]
        rcases List.mem_cons.mp hj with z | z
        · exact absurd z.symm e
        · exact ih j z hl
  apply List.ext_getElem?
  intro j
  by_cases hj : j ∈ vs
  · by_cases hl' : j < σ.length
    · rw [key σ' vs j hj (by omega), key σ vs j hj hl']
    · rw [List.getElem?_eq_none (by rw [L2.wipe_length]; omega), List.getElem?_eq_none (by rw [L2.wipe_length]; omega)]
  · rw [L2.wipe_out hj, h j hj]
theorem LE.lc {t : TG} {vs0 vs : List Nat} {g : WG} {w : WI} {wt : WT} {we : WE} {σ : L2.St} {H : Hp} {Q : VK} {W0 : WX} (hg : GOk t vs0 g) (hv : ∀ j ∈ vs0, j ∈ vs) (h : LE W (wLc w g wt we vs) σ H Q) : tLc (LI W w) t (LT W0 wt) (LE W0 we) vs σ H Q := by
  obtain ⟨Γ, L, Hf, ad, st, P, E, s, hw, hP, hE⟩ := h
  refine ⟨Γ, L, Hf, ad, st, _, E, s, hw, fun xs st1 h1 Hf1 H1 J n1 s1 steps => fun Dl hD => ?_, hE⟩
  have hD0 := s1.none0 hD
  refine ⟨fun i m H' => m = xs.length - i ∧ i ≤ xs.length ∧ ∃ Hf' st' acc avs, Sat Γ L Hf' ad st' σ H' ∧ Nxt ad st1 Hf1 H1 st' Hf' H' ∧ H' Dl = some (.lst avs) ∧ Reps Hf' avs acc ∧ Hf' Dl = none ∧ lcN g wt we vs (fun acc st2 => P (.n (.lst acc)) st2) (xs.drop i) acc st',
    ⟨xs.length, rfl, Nat.zero_le _, Hf1, st1, [], [], s1.alloc hD, ⟨Ex.refl _, fun _ _ q => .inl q, fun a o q _ => upd_some hD q, fun a o q => ⟨o, upd_some hD q⟩, fun _ q => q⟩, upd_same, .nil, s1.nonef hD, h1⟩, ?_⟩
  rintro i m H' ⟨rfl, hi, Hf', st', acc, avs, s', n', eD, rD, fD, hl⟩
  have oD : ∀ j, Owns st' j → ad j ≠ Dl := fun j hj z => by
    obtain ⟨c, u, q, _⟩ := s1.cell (n'.sub j hj)
    rw [z, hD] at q
    cases q
  obtain ⟨go, stop⟩ := steps Hf' ad st' σ H' s' n'.ex i
  cases hd : xs.drop i with
  | nil =>
    rw [hd] at hl
    refine .inl ⟨stop (List.drop_eq_nil_iff.mp hd), hP _ _ hl _ Hf' H' (n1.trans n') s' ?_⟩
    exact ⟨Dl, rfl, n1.none hD, hD0, fD, oD, _, eD, avs, rfl, rD⟩
  | cons x r =>
    rw [hd] at hl
    have li : i < xs.length := by
      have q := congrArg List.length hd
      rw [List.length_drop, List.length_cons] at q
      omega
    have ei : xs[i]? = some x ∧ xs.drop (i + 1) = r := by
      rw [List.drop_eq_getElem_cons li] at hd
      injection hd with a1 a2
      exact ⟨by rw [List.getElem?_eq_getElem li, a1], a2⟩
    obtain ⟨g1, g2⟩ := go x ei.1
    obtain ⟨hbare, hl⟩ := hl
    refine .inr ⟨g1, fun H'' => ∃ Hf' st' acc avs, Sat Γ L Hf' ad st' σ H'' ∧ Nxt ad st1 Hf1 H1 st' Hf' H'' ∧ H'' Dl = some (.lst avs) ∧ Reps Hf' avs acc ∧ Hf' Dl = none ∧ lcN g wt we vs (fun acc st2 => P (.n (.lst acc)) st2) r acc st',
      fun H'' ⟨Hf2, st2, acc2, avs2, a1, a2, a3, a4, a5, a6⟩ => ⟨xs.length - (i + 1), by omega, rfl, by omega, Hf2, st2, acc2, avs2, a1, a2, a3, a4, a5, by rw [ei.2]; exact a6⟩, fun v H2 hy => ?_⟩
    obtain ⟨Hf2, res⟩ := g2 v H2 hy
    obtain ⟨n2, s2, k2⟩ := res.go s'
    refine hg _ L Hf2 ad _ _ H2 v x _ _ (s2.wipe vs) k2 hl fun st3 h3 σ3 s3 e3 => ?_
    have hw3 : L2.wipe σ3 vs = L2.wipe σ vs := wipe_set (by rw [e3.len, L2.wipe_length]) fun j hj => e3.out j fun z => hj (hv j z)
    have n3 : Nxt ad st' Hf' H' st3 Hf2 H2 := ⟨n2.ex, n2.new, n2.keep, n2.there, fun j hj => (owns_wipe (e3.sub j hj)).2⟩
    refine ⟨hw3, Γ, L, Hf2, ad, st3, _, _, s3, h3, fun b st4 h4 Hf4 H4 n4 s4 => ?_, fun _ _ _ z => z.elim⟩
    have n34 := n3.trans n4
    cases b with
    | true =>
      refine ⟨Γ, L, Hf4, ad, st4, _, _, s4, h4, fun rv st5 h5 y Hf5 H5 n5 s5 k5 => ?_, fun _ _ _ z => z.elim⟩
      cases rv with
      | b x => exact h5.elim
      | sl x => exact h5.elim
      | n x => exact h5.elim
      | d z =>
        obtain ⟨hz, h5⟩ := h5
        have n345 := n34.trans n5
        have e5 := n345.keep Dl _ eD oD
        have f5 : Hf5 Dl = none := by
          cases q : Hf5 Dl with
          | none => rfl
          | some o =>
            rcases n345.new Dl o q with z | z | ⟨j, hj, z⟩
            · rw [fD] at z; cases z
            · rw [eD] at z; cases z
            · exact absurd z (oD j hj)
        refine ⟨avs, e5, by rw [rD.length]; exact hz, ?_⟩
        obtain ⟨s6, ow6⟩ := s'.back s5 n345.ex hbare hw3 n345.sub
        have n6 := n'.trans n345
        exact ⟨Hf5, _, _, _, s6.other e5 (fun _ _ z => nomatch z) hD0 f5 fun j hj => oD j (n345.sub j (ow6 j hj).1), ⟨n6.ex, n6.new, fun a o q k => by rw [upd_ne (ne_of_none q hD)]; exact n6.keep a o q k, fun a o q => by
          rw [upd_ne (ne_of_none q hD)]
          exact n6.there a o q, fun j hj => n6.sub j (ow6 j hj).1⟩, upd_same, (rD.mono n345.ex).append (.cons k5 .nil), f5, h5⟩
    | false =>
      have e4 := n34.keep Dl _ eD oD
      have f4 : Hf4 Dl = none := by
        cases q : Hf4 Dl with
        | none => rfl
        | some o =>
          rcases n34.new Dl o q with z | z | ⟨j, hj, z⟩
          · rw [fD] at z; cases z
          · rw [eD] at z; cases z
          · exact absurd z (oD j hj)
      obtain ⟨s6, ow6⟩ := s'.back s4 n34.ex hbare hw3 n34.sub
      have n6 := n'.trans n34
      exact ⟨Hf4, _, _, _, s6, ⟨n6.ex, n6.new, n6.keep, n6.there, fun j hj => n6.sub j (ow6 j hj).1⟩, e4, rD.mono n34.ex, f4, h4⟩
structure DTs (X : Cx) (W : WX) (ifs : List Expr) (w : WT) : Prop where
  pts : PTs X ifs (LT W w)
theorem _root_.L2.PTs.imp {X : Cx} {e : List Expr} {t t' : TT} (h : PTs X e t) (i : ∀ σ H Q, t' σ H Q → t σ H Q) : PTs X e t' := ⟨fun pins s σ H Q I q => h.run pins s σ H Q I (i σ H Q q)⟩
theorem dts_nil : DTs X W [] wYes := ⟨pts_nil.imp fun _ _ _ h => h.yes⟩
theorem dts_one {c : Expr} {w : WT} (h : DT X W c w) : DTs X W [c] w := ⟨pts_one h.pt⟩
/-- within a block nothing is raised -/
abbrev W0 : WX := fun _ _ _ _ => False
theorem de_lc {elt tg iter : Expr} {ifs : List Expr} {scope : Scope} {own : List (Str × Nat)} {pos : Pos} {w : WI} {t : TG} {vs0 : List Nat} {g : WG} {wt : WT} {we : WE} (hc : X.calm = true) (hN : X.N.Nodup) (hi : DI X W tg iter w) (ok : BlkOk X.N X.env.scope scope own)
    (hv : ∀ j ∈ vs0, j ∈ own.map (·.2))
    (hg : ∀ (s : Shared) (H : Hp) (C : Addr) (cl : List (Str × Addr)) (fp : List Addr), PG (X.blk s H scope (compEnvC scope cl C X.env) fp) tg t) (hgo : GOk t vs0 g)
    (ht : ∀ (s : Shared) (H : Hp) (C : Addr) (cl : List (Str × Addr)) (fp : List Addr), DTs (X.blk s H scope (compEnvC scope cl C X.env) fp) W0 ifs wt)
    (he : ∀ (s : Shared) (H : Hp) (C : Addr) (cl : List (Str × Addr)) (fp : List Addr), DE (X.blk s H scope (compEnvC scope cl C X.env) fp) W0 elt we)
    (hs : ∀ x, foldedSetIterable iter X.env x = pure x := by intro _; rfl) : DE X W (.ListComp elt [⟨tg, iter, ifs, 0⟩] scope pos) (wLc w g wt we (own.map (·.2))) :=
  ⟨(pe_lc hc hN hi.pi ok hg (fun s H C cl fp => (ht s H C cl fp).pts) (fun s H C cl fp => (he s H C cl fp).pe) hs).imp fun _ _ _ h => h.lc hgo hv⟩
end DL


/-! DL f: defs and their calls. -/
namespace DL
open PySem PySem.Spec PyProof.Rows L2

/-- an argument, as the def gets it: data; borrowed data; an object that it may change -/
inductive AV where
  | d (x : D) | b (x : D) | m (c : Cell)
/-- what an exception bears, and the parameters' objects behind it -/
abbrev XQ := Addr → Option (Str × D) → List Cell → Prop
/-- a def's promise by data: the arguments; what is returned, the parameters' objects behind it; the exceptions -/
abbrev DSp := List AV → (RV → List Cell → Prop) → XQ → Prop
inductive CellsAt (Hf H : Hp) : List Addr → List Cell → Prop
  | nil : CellsAt Hf H [] []
  | cons {a : Addr} {c : Cell} {as : List Addr} {cs : List Cell} : CellAt Hf H a c → CellsAt Hf H as cs → CellsAt Hf H (a :: as) (c :: cs)
/-- the arguments at the entry: Hs is the heap but the objects that may be changed (at ms) -/
inductive Args (Hs Hf H : Hp) : List V → List AV → List Addr → Prop
  | nil : Args Hs Hf H [] [] []
  | d {v : V} {x : D} {vs : List V} {as : List AV} {ms : List Addr} : Rep Hf v x → Args Hs Hf H vs as ms → Args Hs Hf H (v :: vs) (.d x :: as) ms
  | b {v : V} {x : D} {vs : List V} {as : List AV} {ms : List Addr} : RepB Hs Hf v x → Args Hs Hf H vs as ms → Args Hs Hf H (v :: vs) (.b x :: as) ms
  | m {a : Addr} {c : Cell} {vs : List V} {as : List AV} {ms : List Addr} : CellAt Hf H a c → Args Hs Hf H vs as ms → Args Hs Hf H (.ref a :: vs) (.m c :: as) (a :: ms)
def hsOf (H : Hp) (ms : List Addr) : Hp := fun a => if a ∈ ms then none else H a
/-- what stands behind the call -/
structure After (H Hf : Hp) (ms : List Addr) (Hf' H' : Hp) (cs : List Cell) : Prop where
  ex : Ex Hf Hf'
  new : ∀ a o, Hf' a = some o → Hf a = some o ∨ H a = none
  keep : ∀ a o, H a = some o → a ∉ ms → H' a = some o
  exf : ∀ L, (∀ a ∈ L, ∃ ob u, H a = some (.frz ob u)) → Exl L Hf H → Exl L Hf' H'
  cells : CellsAt Hf' H' ms cs
def RetR (H Hf' H' : Hp) (ms : List Addr) (v : V) : RV → Prop
  | .d x => Rep Hf' v x
  | .n c => ∃ p, v = .ref p ∧ H p = none ∧ Hf' p = none ∧ CellAt Hf' H' p c
  | _ => False
def toSp (sp : DSp) : Sp := fun vs H Q E => ∃ Hf L ms avs P XP, Exl L Hf H ∧ (∀ a ∈ L, ∃ ob u, H a = some (.frz ob u)) ∧ ms.Nodup ∧ (∀ a ∈ ms, Hf a = none ∧ H a ≠ none) ∧ Args (hsOf H ms) Hf H vs avs ms ∧ sp avs P XP ∧
  (∀ rv cs, P rv cs → ∀ v Hf' H', After H Hf ms Hf' H' cs → RetR H Hf' H' ms v rv → Q v H') ∧
  (∀ C x cs, XP C x cs → ∀ d Hf' H', After H Hf ms Hf' H' cs → PayR Hf' H' d x → E (.ref C) d H')

/-! ### the entry -/
def slotOf : AV → Slot
  | .d x => .d x
  | .b x => .b x
  | .m c => .p c
def stOf (n : Nat) (avs : List AV) : S := avs.map slotOf ++ List.replicate (n - avs.length) .un
/-- the places of the parameters that may be changed -/
def mPl : Nat → List AV → List Nat
  | _, [] => []
  | k, .m _ :: r => k :: mPl (k + 1) r
  | k, .d _ :: r => mPl (k + 1) r
  | k, .b _ :: r => mPl (k + 1) r
def pcs : List Nat → S → Option (List Cell)
  | [], _ => some []
  | i :: is, st => match st[i]?, pcs is st with
    | some (.p c), some cs => some (c :: cs)
    | _, _ => none
theorem Args.len {Hs Hf H : Hp} : ∀ {vs : List V} {avs : List AV} {ms : List Addr}, Args Hs Hf H vs avs ms → vs.length = avs.length
  | _, _, _, .nil => rfl
  | _, _, _, .d _ r => congrArg (· + 1) r.len
  | _, _, _, .b _ r => congrArg (· + 1) r.len
  | _, _, _, .m _ r => congrArg (· + 1) r.len
def paOf (vs : List V) (i : Nat) : Addr := match vs[i]? with
  | some (.ref a) => a
  | _ => 0
theorem Args.mem {Hs Hf H : Hp} : ∀ {vs : List V} {avs : List AV} {ms : List Addr} {i : Nat} {c : Cell}, Args Hs Hf H vs avs ms → avs[i]? = some (.m c) → ∃ a, vs[i]? = some (.ref a) ∧ a ∈ ms ∧ CellAt Hf H a c
  | _, _, _, i, c, .nil, e => by simp at e
  | _, _, _, 0, c, .d _ r, e => by simp at e
  | _, _, _, 0, c, .b _ r, e => by simp at e
  | _, _, _, 0, c, .m h r, e => by
    simp at e
    subst e
    exact ⟨_, rfl, List.mem_cons_self, h⟩
  | _, _, _, i + 1, c, .d _ r, e => by
    obtain ⟨a, h1, h2, h3⟩ := Args.mem (i := i) r (by simpa using e)
    exact ⟨a, by simpa using h1, h2, h3⟩
  | _, _, _, i + 1, c, .b _ r, e => by
    obtain ⟨a, h1, h2, h3⟩ := Args.mem (i := i) r (by simpa using e)
    exact ⟨a, by simpa using h1, h2, h3⟩
  | _, _, _, i + 1, c, .m _ r, e => by
    obtain ⟨a, h1, h2, h3⟩ := Args.mem (i := i) r (by simpa using e)
    exact ⟨a, by simpa using h1, List.mem_cons_of_mem _ h2, h3⟩
theorem Args.inj {Hs Hf H : Hp} : ∀ {vs : List V} {avs : List AV} {ms : List Addr} {i j : Nat} {c c' : Cell} {a : Addr}, Args Hs Hf H vs avs ms → ms.Nodup → avs[i]? = some (.m c) → avs[j]? = some (.m c') → vs[i]? = some (.ref a) → vs[j]? = some (.ref a) → i = j
  | _, _, _, i, j, c, c', a, .nil, _, e, _, _, _ => by simp at e
  | _, _, _, 0, 0, c, c', a, _, _, _, _, _, _ => rfl
  | _, _, _, 0, j + 1, c, c', a, .d _ r, _, e, _, _, _ => by simp at e
  | _, _, _, 0, j + 1, c, c', a, .b _ r, _, e, _, _, _ => by simp at e
  | _, _, _, 0, j + 1, c, c', a, @Args.m _ _ _ a0 _ vs0 _ _ h r, nd, e, e', f, f' => by
    simp at f
    subst f
    obtain ⟨b, h1, h2, _⟩ := Args.mem (i := j) r (by simpa using e')
    have q : vs0[j]? = some (V.ref a0) := by simpa using f'
    rw [q] at h1
    cases h1
    exact absurd h2 (List.nodup_cons.mp nd).1
  | _, _, _, i + 1, 0, c, c', a, .d _ r, _, _, e, _, _ => by simp at e
  | _, _, _, i + 1, 0, c, c', a, .b _ r, _, _, e, _, _ => by simp at e
  | _, _, _, i + 1, 0, c, c', a, @Args.m _ _ _ a0 _ vs0 _ _ h r, nd, e, e', f, f' => by
    simp at f'
    subst f'
    obtain ⟨b, h1, h2, _⟩ := Args.mem (i := i) r (by simpa using e)
    have q : vs0[i]? = some (V.ref a0) := by simpa using f
    rw [q] at h1
    cases h1
    exact absurd h2 (List.nodup_cons.mp nd).1
  | _, _, _, i + 1, j + 1, c, c', a, .d _ r, nd, e, e', f, f' => congrArg (· + 1) (Args.inj (i := i) (j := j) r nd (by simpa using e) (by simpa using e') (by simpa using f) (by simpa using f'))
  | _, _, _, i + 1, j + 1, c, c', a, .b _ r, nd, e, e', f, f' => congrArg (· + 1) (Args.inj (i := i) (j := j) r nd (by simpa using e) (by simpa using e') (by simpa using f) (by simpa using f'))
  | _, _, _, i + 1, j + 1, c, c', a, .m h r, nd, e, e', f, f' => congrArg (· + 1) (Args.inj (i := i) (j := j) r (List.nodup_cons.mp nd).2 (by simpa using e) (by simpa using e') (by simpa using f) (by simpa using f'))
theorem Args.sl {Γ : Gm} {Hf H : Hp} : ∀ {vs : List V} {avs : List AV} {ms : List Addr} {i : Nat} {av : AV} , Args Γ.Hs Hf H vs avs ms → avs[i]? = some av → ∃ v, vs[i]? = some v ∧ SlotOk Γ Hf (match v with | .ref a => a | _ => 0) (some (some v)) (slotOf av)
  | _, _, _, i, c, .nil, e => by simp at e
  | _, _, _, 0, c, .d h r, e => by
    simp at e
    subst e
    exact ⟨_, rfl, _, rfl, h⟩
  | _, _, _, 0, c, .b h r, e => by
    simp at e
    subst e
    exact ⟨_, rfl, _, rfl, h⟩
  | _, _, _, 0, c, .m h r, e => by
    simp at e
    subst e
    exact ⟨_, rfl, rfl⟩
  | _, _, _, i + 1, c, .d _ r, e => by
    obtain ⟨v, h1, h2⟩ := Args.sl (i := i) r (by simpa using e)
    exact ⟨v, by simpa using h1, h2⟩
  | _, _, _, i + 1, c, .b _ r, e => by
    obtain ⟨v, h1, h2⟩ := Args.sl (i := i) r (by simpa using e)
    exact ⟨v, by simpa using h1, h2⟩
  | _, _, _, i + 1, c, .m _ r, e => by
    obtain ⟨v, h1, h2⟩ := Args.sl (i := i) r (by simpa using e)
    exact ⟨v, by simpa using h1, h2⟩
theorem stOf_at {n : Nat} {avs : List AV} {i : Nat} {s : Slot} (h : (stOf n avs)[i]? = some s) : (∃ av, avs[i]? = some av ∧ s = slotOf av) ∨ (avs.length ≤ i ∧ s = .un) := by
  unfold stOf at h
  by_cases hi : i < avs.length
  · rw [List.getElem?_append_left (by simpa using hi), List.getElem?_map] at h
    obtain ⟨av, e, rfl⟩ := Option.map_eq_some_iff.mp h
    exact .inl ⟨av, e, rfl⟩
  · rw [List.getElem?_append_right (by simpa using hi)] at h
    refine .inr ⟨by omega, ?_⟩
    rw [List.getElem?_replicate] at h
    split at h
    · exact (Option.some.inj h).symm
    · cases h
theorem entry_sat {Hf H : Hp} {L ms : List Addr} {N : List Str} {vs : List V} {avs : List AV} (hl : avs.length ≤ N.length) (exf : Exl L Hf H) (lk : ∀ a ∈ L, ∃ ob u, H a = some (.frz ob u)) (nd : ms.Nodup) (hm : ∀ a ∈ ms, Hf a = none ∧ H a ≠ none) (ha : Args (hsOf H ms) Hf H vs avs ms) :
    Sat ⟨H, Hf, ms, paOf vs⟩ L Hf (paOf vs) (stOf N.length avs) (L2.start N vs) H := by
  have hlv := ha.len
  have mm : ∀ (i : Nat) (c : Cell), (stOf N.length avs)[i]? = some (Slot.p c) → avs[i]? = some (AV.m c) := fun i c e => by
    rcases stOf_at e with ⟨av, h1, h2⟩ | ⟨_, h2⟩
    · cases av with
      | m c' => cases h2; exact h1
      | d x => cases h2
      | b x => cases h2
    · cases h2
  have no : ∀ (i : Nat) (c : Cell), (stOf N.length avs)[i]? ≠ some (Slot.o c) := fun i c e => by
    rcases stOf_at e with ⟨av, h1, h2⟩ | ⟨_, h2⟩
    · cases av with
      | m c' => cases h2
      | d x => cases h2
      | b x => cases h2
    · cases h2
  have pat : ∀ {i a}, vs[i]? = some (V.ref a) → paOf vs i = a := fun {i a} e => by
    unfold paOf
    rw [e]
  have exs : Exl L (hsOf H ms) H := fun a o e => .inl (by
    unfold hsOf at e
    split at e
    · cases e
    · exact e)
  refine ⟨?_, exf, exs, Ex.refl _, fun _ _ h => .inl h, fun a h => ?_, fun a h => (hm a h).1, fun a h => (hm a h).2, fun i c e => absurd e (no i c), fun i c e => ?_, lk, fun i j hi hj e => ?_, fun i s e => ?_⟩
  · unfold L2.start stOf
    simp
    omega
  · cases q : H a with
    | none => exact absurd q (hm a h).2
    | some o => exact ⟨o, rfl⟩
  · obtain ⟨a, h1, h2, h3⟩ := ha.mem (mm i c e)
    rw [pat h1]
    exact ⟨⟨(pat h1).symm, h2⟩, h3⟩
  · rcases hi with ⟨c, q⟩ | ⟨c, q⟩
    · exact absurd q (no i c)
    rcases hj with ⟨c', q'⟩ | ⟨c', q'⟩
    · exact absurd q' (no j c')
    obtain ⟨a, h1, _, _⟩ := ha.mem (mm i c q)
    obtain ⟨a', h1', _, _⟩ := ha.mem (mm j c' q')
    rw [pat h1, pat h1'] at e
    subst e
    exact ha.inj nd (mm i c q) (mm j c' q') h1 h1'
  · rcases stOf_at e with ⟨av, h1, rfl⟩ | ⟨_, rfl⟩
    · obtain ⟨v, e1, e2⟩ := Args.sl (Γ := ⟨H, Hf, ms, paOf vs⟩) ha h1
      have e3 : (L2.start N vs)[i]? = some (some v) := by
        unfold L2.start
        rw [List.getElem?_append_left (by rw [List.length_map]; exact (List.getElem?_eq_some_iff.mp e1).1), List.getElem?_map, e1]
        rfl
      rw [e3]
      cases av with
      | d x => exact e2
      | b x => exact e2
      | m c =>
        have e2 : some (some v) = some (some (V.ref _)) := e2
        cases v with
        | ref a => rw [pat e1]; rfl
        | _ => cases e2
    · trivial
theorem Args.pl {Hs Hf H : Hp} {ws : List V} : ∀ {vs : List V} {avs : List AV} {ms : List Addr} {k : Nat}, Args Hs Hf H vs avs ms → (∀ i, vs[i]? = ws[k + i]?) → ms = (mPl k avs).map (paOf ws)
  | _, _, _, _, .nil, _ => rfl
  | _, _, _, k, .d _ r, h => by
    show _ = (mPl (k + 1) _).map _
    exact r.pl fun i => by
      have q := h (i + 1)
      rw [List.getElem?_cons_succ] at q
      rw [q]
      congr 1
      omega
  | _, _, _, k, .b _ r, h => by
    show _ = (mPl (k + 1) _).map _
    exact r.pl fun i => by
      have q := h (i + 1)
      rw [List.getElem?_cons_succ] at q
      rw [q]
      congr 1
      omega
  | _, _, _, k, @Args.m _ _ _ a0 _ vs0 _ _ _ r, h => by
    have q0 : some (V.ref a0) = ws[k]? := h 0
    show _ :: _ = (k :: mPl (k + 1) _).map _
    rw [List.map_cons]
    have e : paOf ws k = a0 := by
      unfold paOf
      rw [← q0]
    rw [e]
    congr 1
    exact r.pl fun i => by
      have q := h (i + 1)
      rw [List.getElem?_cons_succ] at q
      rw [q]
      congr 1
      omega
theorem pcs_at {Γ : Gm} {L : List Addr} {Hf H : Hp} {ad : Nat → Addr} {st : S} {σ : L2.St} (s : Sat Γ L Hf ad st σ H) : ∀ {is : List Nat} {cs : List Cell}, pcs is st = some cs → CellsAt Hf H (is.map Γ.pa) cs
  | [], _, e => by
    cases e
    exact .nil
  | i :: is, cs, e => by
    have e : (match st[i]?, pcs is st with
      | some (.p c), some cs => some (c :: cs)
      | _, _ => none) = some cs := e
    cases e1 : st[i]? with
    | none => rw [e1] at e; cases e
    | some sl =>
      cases sl with
      | p c =>
        cases e2 : pcs is st with
        | none => rw [e1, e2] at e; cases e
        | some cs' =>
          rw [e1, e2] at e
          cases e
          obtain ⟨⟨h1, _⟩, h2⟩ := s.par i c e1
          rw [h1] at h2
          exact .cons h2 (pcs_at s e2)
      | un => rw [e1] at e; cases e
      | d x => rw [e1] at e; cases e
      | b x => rw [e1] at e; cases e
      | o x => rw [e1] at e; cases e
def retS (P : RV → List Cell → Prop) (cs : List Cell) : Option Slot → Prop
  | some (.o c) => P (.n c) cs
  | some (.d x) => P (.d x) cs
  | _ => False
def retK (P : RV → List Cell → Prop) (cs : List Cell) (st : S) : RV → Prop
  | .sl i => retS P cs st[i]?
  | .b _ => False
  | .d x => P (.d x) cs
  | .n c => P (.n c) cs
/-- what a body's reading must do -/
def bodyN (avs : List AV) (P : RV → List Cell → Prop) (XP : XQ) : DN where
  nx := fun st => opt (pcs (mPl 0 avs) st) fun cs => P (.d .non) cs
  rt := fun rv st => opt (pcs (mPl 0 avs) st) fun cs => retK P cs st rv
  bk := fun _ => False
  ct := fun _ => False
  ex := fun C x st => opt (pcs (mPl 0 avs) st) fun cs => XP C x cs
section
variable {P : Program} {w : World} {K : PySem.W.Frag} {mg : Str → Option Value} {base : Heap}
theorem after_of {H Hf : Hp} {L ms : List Addr} {vs : List V} {Hf' H' : Hp} {ad' : Nat → Addr} {st' : S} {σ' : L2.St} {cs : List Cell} {is : List Nat} (em : ms = is.map (paOf vs)) (exf : Exl L Hf H) (lk : ∀ a ∈ L, ∃ ob u, H a = some (.frz ob u))
    (s : Sat ⟨H, Hf, ms, paOf vs⟩ L Hf' ad' st' σ' H') (e : pcs is st' = some cs) : After H Hf ms Hf' H' cs := by
  have keep : ∀ a o, H a = some o → a ∉ ms → H' a = some o := fun a o q hm => by
    have q2 : Gm.Hs ⟨H, Hf, ms, paOf vs⟩ a = some o := by
      unfold Gm.Hs
      rw [if_neg hm]
      exact q
    rcases s.exs a o q2 with z | ⟨z1, z2, ob, z3⟩
    · exact z
    · obtain ⟨ob', u, z⟩ := lk a z1
      rw [q] at z
      cases z
      rcases z2 with ⟨_, z2⟩ | ⟨_, z2⟩ <;> cases z2
  refine ⟨s.base, s.new, keep, fun L' lk' e' a o q => ?_, by rw [em]; exact pcs_at s e⟩
  rcases s.new a o q with z | z
  · rcases e' a o z with z1 | ⟨z1, z2, ob, z3⟩
    · have nm : a ∉ ms := fun h => by
        have := s.msf a h
        rw [q] at this
        cases this
      exact .inl (keep a o z1 nm)
    · have nm : a ∉ ms := fun h => by
        have := s.msf a h
        rw [q] at this
        cases this
      exact .inr ⟨z1, z2, ob, keep a _ z3 nm⟩
  · rcases s.exf a o q with z1 | ⟨z1, z2, ob, z3⟩
    · exact .inl z1
    · obtain ⟨ob', u, z4⟩ := lk a z1
      have z : H a = none := z
      rw [z] at z4
      cases z4
/-- THE RULE for a def: its body's reading by data keeps the promise -/
theorem fn_data {x qual : Str} {st : Stmt} {f : Addr} {fd : FuncData} {N ps : List Str} {k : Nat} {sp : DSp} (F : Fun K x qual st f fd) (S : FnScope N ps (defScope st)) (wb : WS) (hn : ps.length ≤ N.length)
    (len : ∀ avs P XP, sp avs P XP → avs.length = ps.length)
    (hb : ∀ (cdv : Value) (A : Around) (outer : List Env) (s : Shared) (H : Hp) (E : XK), Room k (A.deeper (envOfC qual (defScope st) s.heap.objs.size f cdv)) →
      DSs (cxOf (L2.CX P w) P w K mg base N qual (defScope st) f cdv A outer s H E) (fun cls d _ H => E cls d H) (defBody st) wb)
    (vc : ∀ avs Q XP, sp avs Q XP → wb (bodyN avs Q XP) (stOf N.length avs)) : FnOk P w K mg base (L2.CX P w) (k + 1) f fd ps (toSp sp) := by
  refine F.okX S (fun vs H Q E ⟨Hf, L, ms, avs, P, XP, _, _, _, _, ha, h, _⟩ => by rw [ha.len]; exact len _ _ _ h) fun cdv A outer s H vs Q E hr h => ?_
  obtain ⟨Hf, L, ms, avs, P, XP, exf, lk, nd, hm, ha, hs, hQ, hX⟩ := h
  refine ⟨_, (hb cdv A outer s H E hr).pss, ?_⟩
  have hl : avs.length ≤ N.length := by rw [len _ _ _ hs]; exact hn
  have em : ms = (mPl 0 avs).map (paOf vs) := ha.pl fun i => by rw [Nat.zero_add]
  refine ⟨⟨H, Hf, ms, paOf vs⟩, L, Hf, paOf vs, stOf N.length avs, bodyN avs P XP, entry_sat hl exf lk nd hm ha, vc avs P XP hs, ⟨?_, ?_, fun _ h => h.elim, fun _ h => h.elim, ?_⟩⟩
  · intro st' h Hf' ad' σ' H' s'
    obtain ⟨cs, e, h⟩ := opt_of h
    exact hQ _ cs h .non Hf' H' (after_of em exf lk s' e) .non
  · intro rv st' h v Hf' ad' σ' H' s' r
    obtain ⟨cs, e, h⟩ := opt_of h
    have af := after_of em exf lk s' e
    cases rv with
    | d y => exact hQ _ cs h v Hf' H' af r
    | b y => exact h.elim
    | n c =>
      obtain ⟨p, e1, e2, _, e3, _, e4⟩ := r
      exact hQ _ cs h v Hf' H' af ⟨p, e1, e2, e3, e4⟩
    | sl i =>
      have r : σ'[i]? = some (some v) := r
      have h : retS P cs st'[i]? := h
      cases q : st'[i]? with
      | none => rw [q] at h; exact h.elim
      | some sl =>
        rw [q] at h
        have k := s'.sl i sl q
        cases sl with
        | un => exact h.elim
        | b y => exact h.elim
        | p y => exact h.elim
        | d y =>
          obtain ⟨u, k1, k2⟩ := k
          rw [r] at k1
          cases k1
          exact hQ _ cs h _ Hf' H' af k2
        | o c =>
          have k : σ'[i]? = some (some (V.ref (ad' i))) := k
          rw [r] at k
          cases k
          obtain ⟨h1, h2, h3⟩ := s'.own i c q
          exact hQ _ cs h _ Hf' H' af ⟨_, rfl, h1, h2, h3⟩
  · intro C y st' h d Hf' ad' σ' H' s' r
    obtain ⟨cs, e, h⟩ := opt_of h
    exact hX C y cs h d Hf' H' (after_of em exf lk s' e) r
end
end DL


/-! DL g: calls. -/
namespace DL
open PySem PySem.Spec PyProof.Rows L2

inductive Md where
  | d | b | m
def ownL (st : S) (i : Nat) : List Nat := match cellOf st i with
  | some _ => [i]
  | none => []
def bsl (st : S) : RV → List Nat
  | .sl i => ownL st i
  | _ => []
/-- an argument as the def gets it; the slots whose objects it may change; those whose objects it reads -/
def av1 (st : S) : Md → RV → Option (AV × List Nat × List Nat)
  | .d, .d x => some (.d x, [], [])
  | .b, r => (cont st r).map fun x => (.b x, [], bsl st r)
  | .m, .sl i => (cellOf st i).map fun c => (.m c, [i], [])
  | _, _ => none
def avs (st : S) : List Md → List RV → Option (List AV × List Nat × List Nat)
  | [], [] => some ([], [], [])
  | md :: mds, r :: rs => match av1 st md r, avs st mds rs with
    | some a, some z => some (a.1 :: z.1, a.2.1 ++ z.2.1, a.2.2 ++ z.2.2)
    | _, _ => none
  | _, _ => none
theorem avs_cons {st : S} {md : Md} {mds : List Md} {r : RV} {rs : List RV} {z : List AV × List Nat × List Nat} (e : avs st (md :: mds) (r :: rs) = some z) : ∃ a z', av1 st md r = some a ∧ avs st mds rs = some z' ∧ z = (a.1 :: z'.1, a.2.1 ++ z'.2.1, a.2.2 ++ z'.2.2) := by
  have e : (match av1 st md r, avs st mds rs with
    | some a, some z => some (a.1 :: z.1, a.2.1 ++ z.2.1, a.2.2 ++ z.2.2)
    | _, _ => none) = some z := e
  cases h1 : av1 st md r with
  | none => rw [h1] at e; cases e
  | some a =>
    cases h2 : avs st mds rs with
    | none => rw [h1, h2] at e; cases e
    | some z' =>
      rw [h1, h2] at e
      cases e
      exact ⟨a, z', rfl, rfl, rfl⟩
theorem ownL_mem {st : S} {i j : Nat} (h : j ∈ ownL st i) : j = i ∧ ∃ c, cellOf st i = some c := by
  unfold ownL at h
  cases q : cellOf st i with
  | none => rw [q] at h; cases h
  | some c =>
    rw [q] at h
    exact ⟨List.mem_singleton.mp h, c, rfl⟩
theorem av1_cells {st : S} {md : Md} {r : RV} {a : AV × List Nat × List Nat} (e : av1 st md r = some a) : (∀ i ∈ a.2.1, ∃ c, cellOf st i = some c) ∧ ∀ i ∈ a.2.2, ∃ c, cellOf st i = some c := by
  cases md with
  | d =>
    cases r with
    | d x => cases e; exact ⟨fun i h => (nomatch h), fun i h => (nomatch h)⟩
    | _ => cases e
  | b =>
    obtain ⟨x, h1, rfl⟩ := Option.map_eq_some_iff.mp (show (cont st r).map (fun x => (AV.b x, ([] : List Nat), bsl st r)) = some a from e)
    refine ⟨fun i h => (nomatch h), fun i h => ?_⟩
    cases r with
    | sl j =>
      obtain ⟨rfl, q⟩ := ownL_mem h
      exact q
    | _ => cases h
  | m =>
    cases r with
    | sl j =>
      obtain ⟨c, h1, rfl⟩ := Option.map_eq_some_iff.mp (show (cellOf st j).map (fun c => (AV.m c, [j], ([] : List Nat))) = some a from e)
      refine ⟨fun i h => ?_, fun i h => (nomatch h)⟩
      rw [List.mem_singleton.mp h]
      exact ⟨c, h1⟩
    | _ => cases e
theorem avs_cells {st : S} : ∀ {mds : List Md} {rs : List RV} {z : List AV × List Nat × List Nat}, avs st mds rs = some z → (∀ i ∈ z.2.1, ∃ c, cellOf st i = some c) ∧ ∀ i ∈ z.2.2, ∃ c, cellOf st i = some c
  | [], [], z, e => by
    cases e
    exact ⟨fun i h => (nomatch h), fun i h => (nomatch h)⟩
  | [], _ :: _, z, e => by cases e
  | _ :: _, [], z, e => by cases e
  | md :: mds, r :: rs, z, e => by
    obtain ⟨a, z', h1, h2, rfl⟩ := avs_cons e
    obtain ⟨a1, a2⟩ := av1_cells h1
    obtain ⟨b1, b2⟩ := avs_cells h2
    exact ⟨fun i h => (List.mem_append.mp h).elim (a1 i) (b1 i), fun i h => (List.mem_append.mp h).elim (a2 i) (b2 i)⟩
def setCs (st : S) : List Nat → List Cell → S
  | i :: is, c :: cs => setC (setCs st is cs) i c
  | _, _ => st
def djL (is bs : List Nat) : Bool := decide is.Nodup && bs.all fun i => !is.contains i
section
variable {Γ : Gm} {L : List Addr} {Hf H Hf' H' Hb : Hp} {ad : Nat → Addr} {st : S} {σ : L2.St}
theorem cellOf_owns {i : Nat} {c : Cell} (h : cellOf st i = some c) : Owns st i := by
  rcases cellOf_cases h with ⟨q, _⟩ | ⟨q, _⟩
  · exact .inl ⟨c, q⟩
  · exact .inr ⟨c, q⟩
theorem Sat.cellAt (s : Sat Γ L Hf ad st σ H) {i : Nat} {c : Cell} (h : cellOf st i = some c) : CellAt Hf H (ad i) c ∧ Hf (ad i) = none ∧ σ[i]? = some (some (.ref (ad i))) ∧ Γ.Hs (ad i) = none := by
  rcases cellOf_cases h with ⟨q, _⟩ | ⟨q, _⟩
  · obtain ⟨h1, h2, h3⟩ := s.own i c q
    refine ⟨h3, h2, s.sl i _ q, ?_⟩
    unfold Gm.Hs
    rw [h1]
    split <;> rfl
  · obtain ⟨h1, h3⟩ := s.par i c q
    refine ⟨h3, s.msf _ h1.2, s.sl i _ q, ?_⟩
    unfold Gm.Hs
    rw [if_pos h1.2]
theorem setC_at {i j : Nat} {c c0 : Cell} {s : Slot} (h0 : cellOf st i = some c0) (h : (setC st i c)[j]? = some s) : (j = i ∧ ((s = .o c ∧ st[j]? = some (.o c0)) ∨ (s = .p c ∧ st[j]? = some (.p c0)))) ∨ (j ≠ i ∧ st[j]? = some s) := by
  have li : i < st.length := by
    rcases cellOf_cases h0 with ⟨q, _⟩ | ⟨q, _⟩ <;> exact (List.getElem?_eq_some_iff.mp q).1
  rcases cellOf_cases h0 with ⟨q, e⟩ | ⟨q, e⟩
  · rw [e] at h
    rcases set_back li h with ⟨z1, z2⟩ | z
    · exact .inl ⟨z1, .inl ⟨z2, by rw [z1]; exact q⟩⟩
    · exact .inr z
  · rw [e] at h
    rcases set_back li h with ⟨z1, z2⟩ | z
    · exact .inl ⟨z1, .inr ⟨z2, by rw [z1]; exact q⟩⟩
    · exact .inr z
theorem setC_other {i j : Nat} {c : Cell} (h : j ≠ i) : (setC st i c)[j]? = st[j]? := by
  unfold setC
  split
  · rw [List.getElem?_set_ne (Ne.symm h)]
  · rw [List.getElem?_set_ne (Ne.symm h)]
  · rfl
theorem setCs_other {j : Nat} : ∀ {is : List Nat} {cs : List Cell}, j ∉ is → (setCs st is cs)[j]? = st[j]?
  | [], _, _ => rfl
  | _ :: _, [], _ => rfl
  | i :: is, c :: cs, h => by
    show (setC (setCs st is cs) i c)[j]? = _
    rw [setC_other fun z => h (by rw [z]; exact List.mem_cons_self)]
    exact setCs_other fun z => h (List.mem_cons_of_mem _ z)
theorem setCs_at {j : Nat} {s : Slot} : ∀ {is : List Nat} {cs : List Cell}, is.Nodup → is.length = cs.length → (∀ i ∈ is, ∃ c, cellOf st i = some c) → (setCs st is cs)[j]? = some s →
    (∃ (k : Nat) (c c0 : Cell), is[k]? = some j ∧ cs[k]? = some c ∧ ((s = .o c ∧ st[j]? = some (.o c0)) ∨ (s = .p c ∧ st[j]? = some (.p c0)))) ∨ (j ∉ is ∧ st[j]? = some s)
  | [], _, _, _, _, h => .inr ⟨by simp, h⟩
  | i :: is, [], _, hl, _, _ => by simp at hl
  | i :: is, c :: cs, nd, hl, ho, h => by
    obtain ⟨n1, n2⟩ := List.nodup_cons.mp nd
    obtain ⟨c0, hc0⟩ := ho i List.mem_cons_self
    have e : cellOf (setCs st is cs) i = some c0 := by
      unfold cellOf
      rw [setCs_other n1]
      exact hc0
    rcases setC_at e h with ⟨z1, z2⟩ | ⟨z1, z2⟩
    · subst z1
      rw [setCs_other n1] at z2
      exact .inl ⟨0, c, c0, rfl, rfl, z2⟩
    · rcases setCs_at n2 (by simpa using hl) (fun i hi => ho i (List.mem_cons_of_mem _ hi)) z2 with ⟨k, c', c1, a1, a2, a3⟩ | ⟨a1, a2⟩
      · exact .inl ⟨k + 1, c', c1, by simpa using a1, by simpa using a2, a3⟩
      · exact .inr ⟨fun z => (List.mem_cons.mp z).elim z1 a1, a2⟩
theorem setCs_length : ∀ {is : List Nat} {cs : List Cell}, (setCs st is cs).length = st.length
  | [], _ => rfl
  | _ :: _, [] => rfl
  | i :: is, c :: cs => by
    show (setC (setCs st is cs) i c).length = _
    have q := @setCs_length is cs
    unfold setC
    split
    · rw [List.length_set, q]
    · rw [List.length_set, q]
    · exact q
theorem CellsAt.length : ∀ {as : List Addr} {cs : List Cell}, CellsAt Hf H as cs → as.length = cs.length
  | _, _, .nil => rfl
  | _, _, .cons _ r => congrArg (· + 1) r.length
theorem CellsAt.get : ∀ {as : List Addr} {cs : List Cell} {k : Nat} {a : Addr} {c : Cell}, CellsAt Hf H as cs → as[k]? = some a → cs[k]? = some c → CellAt Hf H a c
  | _, _, k, a, c, .nil, e, _ => by simp at e
  | _, _, 0, a, c, .cons h _, e, e' => by
    simp at e e'
    subst e
    subst e'
    exact h
  | _, _, k + 1, a, c, .cons _ r, e, e' => CellsAt.get (k := k) r (by simpa using e) (by simpa using e')
theorem CellsAt.there : ∀ {as : List Addr} {cs : List Cell} {a : Addr}, CellsAt Hf H as cs → a ∈ as → ∃ o, H a = some o
  | _, _, a, .cons h r, m => by
    rcases List.mem_cons.mp m with e | m
    · subst e
      obtain ⟨u, h, _⟩ := h
      exact ⟨u, h⟩
    · exact r.there m
/-- behind a call -/
theorem Sat.called (s : Sat Γ L Hf ad st σ H) {is : List Nat} {cs : List Cell} (nd : is.Nodup) (ho : ∀ i ∈ is, ∃ c, cellOf st i = some c) (af : After H Hf (is.map ad) Hf' H' cs) :
    Sat Γ L Hf' ad (setCs st is cs) σ H' ∧ Nxt ad st Hf H (setCs st is cs) Hf' H' := by
  have hl : is.length = cs.length := by
    have q := af.cells.length
    rw [List.length_map] at q
    exact q
  have at_ := fun j sl h => setCs_at (j := j) (s := sl) nd hl ho h
  have sub : ∀ j, Owns (setCs st is cs) j → Owns st j := fun j hj => by
    rcases hj with ⟨c, q⟩ | ⟨c, q⟩
    · rcases at_ j _ q with ⟨k, c', c0, _, _, ⟨_, z⟩ | ⟨z, _⟩⟩ | ⟨_, z⟩
      · exact .inl ⟨c0, z⟩
      · cases z
      · exact .inl ⟨c, z⟩
    · rcases at_ j _ q with ⟨k, c', c0, _, _, ⟨z, _⟩ | ⟨_, z⟩⟩ | ⟨_, z⟩
      · cases z
      · exact .inr ⟨c0, z⟩
      · exact .inr ⟨c, z⟩
  have own_ms : ∀ a, a ∈ is.map ad → ∃ i, Owns st i ∧ ad i = a := fun a ha => by
    obtain ⟨i, hi, e⟩ := List.mem_map.mp ha
    obtain ⟨c, hc⟩ := ho i hi
    exact ⟨i, cellOf_owns hc, e⟩
  have ninms : ∀ j, j ∉ is → Owns st j → ad j ∉ is.map ad := fun j hj hjo h => by
    obtain ⟨i, hi, e⟩ := List.mem_map.mp h
    obtain ⟨c, hc⟩ := ho i hi
    exact hj (by rw [← s.inj i j (cellOf_owns hc) hjo e]; exact hi)
  have hsn : ∀ a, a ∈ is.map ad → Γ.Hs a = none := fun a ha => by
    obtain ⟨i, hi, e⟩ := List.mem_map.mp ha
    obtain ⟨c, hc⟩ := ho i hi
    rw [← e]
    exact (s.cellAt hc).2.2.2
  have nfz : ∀ a, a ∈ is.map ad → ∀ ob u, H a ≠ some (.frz ob u) := fun a ha ob u z => by
    obtain ⟨i, hi, e⟩ := List.mem_map.mp ha
    obtain ⟨c, hc⟩ := ho i hi
    obtain ⟨w, q1, q2⟩ := (s.cellAt hc).1
    rw [e, z] at q1
    cases q1
    exact q2.nofrz
  have kp : ∀ a o, H a = some o → (∀ i, Owns st i → ad i ≠ a) → H' a = some o := fun a o h n => af.keep a o h fun hm => by
    obtain ⟨i, hi, e⟩ := own_ms a hm
    exact n i hi e
  have th : ∀ a o, H a = some o → ∃ o', H' a = some o' := fun a o h => by
    by_cases hm : a ∈ is.map ad
    · exact af.cells.there hm
    · exact ⟨o, af.keep a o h hm⟩
  refine ⟨⟨by rw [setCs_length]; exact s.len, af.exf L s.lk s.exf, fun a o h => ?_, s.base.trans af.ex, fun a o h => ?_, fun a ha => ?_, fun a ha => ?_, s.ms0, fun j c q => ?_, fun j c q => ?_, fun a ha => ?_, fun i j hi hj => s.inj i j (sub i hi) (sub j hj), fun j sl q => ?_⟩,
    ⟨af.ex, fun a o h => (af.new a o h).elim .inl fun z => .inr (.inl z), kp, th, sub⟩⟩
  · have nm : a ∉ is.map ad := fun hm => by
      rw [hsn a hm] at h
      cases h
    rcases s.exs a o h with z | ⟨z1, z2, ob, z3⟩
    · exact .inl (af.keep a o z nm)
    · exact .inr ⟨z1, z2, ob, af.keep a _ z3 nm⟩
  · rcases af.new a o h with z | z
    · exact s.new a o z
    · exact .inr (s.none0 z)
  · obtain ⟨o, h⟩ := s.live a ha
    exact th a o h
  · cases q : Hf' a with
    | none => rfl
    | some o =>
      rcases af.new a o q with z | z
      · rw [s.msf a ha] at z; cases z
      · obtain ⟨o', h⟩ := s.live a ha
        rw [z] at h
        cases h
  · have hf' : ∀ a, H a ≠ none → Hf a = none → Hf' a = none := fun a h1 h2 => by
      cases q : Hf' a with
      | none => rfl
      | some o =>
        rcases af.new a o q with z | z
        · rw [h2] at z; cases z
        · exact absurd z h1
    rcases at_ j _ q with ⟨k, c', c0, a1, a2, ⟨z1, z2⟩ | ⟨z1, _⟩⟩ | ⟨a1, z⟩
    · cases z1
      obtain ⟨h1, h2, u, h3, _⟩ := s.own j c0 z2
      refine ⟨h1, hf' _ (by rw [h3]; exact fun z => nomatch z) h2, af.cells.get (k := k) ?_ a2⟩
      rw [List.getElem?_map, a1]
      rfl
    · cases z1
    · obtain ⟨h1, h2, u, h3, h4⟩ := s.own j c z
      exact ⟨h1, hf' _ (by rw [h3]; exact fun z => nomatch z) h2, u, af.keep _ _ h3 (ninms j a1 (.inl ⟨c, z⟩)), h4.mono af.ex⟩
  · rcases at_ j _ q with ⟨k, c', c0, a1, a2, ⟨z1, _⟩ | ⟨z1, z2⟩⟩ | ⟨a1, z⟩
    · cases z1
    · cases z1
      obtain ⟨h1, _⟩ := s.par j c0 z2
      refine ⟨h1, af.cells.get (k := k) ?_ a2⟩
      rw [List.getElem?_map, a1]
      rfl
    · obtain ⟨h1, u, h3, h4⟩ := s.par j c z
      exact ⟨h1, u, af.keep _ _ h3 (ninms j a1 (.inr ⟨c, z⟩)), h4.mono af.ex⟩
  · obtain ⟨ob, u, h⟩ := s.lk a ha
    exact ⟨ob, u, af.keep a _ h fun hm => nfz a hm ob u h⟩
  · rcases at_ j _ q with ⟨k, c', c0, a1, a2, ⟨z1, z2⟩ | ⟨z1, z2⟩⟩ | ⟨a1, z⟩
    · subst z1
      have k : σ[j]? = some (some (V.ref (ad j))) := s.sl j _ z2
      exact k
    · subst z1
      have k : σ[j]? = some (some (V.ref (ad j))) := s.sl j _ z2
      exact k
    · exact (s.sl j sl z).mono af.ex
theorem RetR.back (s : Sat Γ L Hf ad st σ H) {st' : S} {is : List Nat} {cs : List Cell} (n : Nxt ad st Hf H st' Hf' H') {v : V} {rv : RV} {ms : List Addr} (r : RetR H Hf' H' ms v rv) : RepR Γ Hf' ad st' σ H H' v rv := by
  cases rv with
  | d x => exact r
  | b x => exact r.elim
  | sl i => exact r.elim
  | n c =>
    obtain ⟨p, e1, e2, e3, e4⟩ := r
    exact ⟨p, e1, e2, s.none0 e2, e3, fun i hi => s.noneo e2 i (n.sub i hi), e4⟩
theorem repB_read {Hs1 : Hp} (s : Sat Γ L Hf ad st σ H) {v : V} {x : D} (h : RepB Γ.Hs Hf v x) (k : ∀ a o, Γ.Hs a = some o → H a = some o → Hs1 a = some o) (kl : ∀ a o ob, Γ.Hs a = some o → H a = some (.frz ob o) → Hs1 a = some (.frz ob o)) : RepB Hs1 Hf v x := by
  have rd : ∀ {a u}, Rd Γ.Hs a u → Rd Hs1 a u := fun {a u} h => by
    rcases h with h | ⟨o, h⟩
    · rcases s.exs a _ h with z | ⟨_, _, ob, z⟩
      · exact .inl (k a _ h z)
      · exact .inr ⟨ob, kl a _ ob h z⟩
    · rcases s.exs a _ h with z | ⟨_, z2, _⟩
      · exact .inr ⟨o, k a _ h z⟩
      · rcases z2 with ⟨_, z2⟩ | ⟨_, z2⟩ <;> cases z2
  cases h with
  | of h => exact .of h
  | @lst a vs xs h r =>
    rcases s.exs a _ h with z | ⟨_, z2, _⟩
    · exact .lst (k a _ h z) r
    · rcases z2 with ⟨_, z2⟩ | ⟨_, z2⟩ <;> cases z2
  | fz h => exact .fz (rd h)
  | dk h r => exact .dk (rd h) r
  | dt h r => exact .dt (rd h) r
theorem CellO.repB {Hs : Hp} {u : HO} {c : Cell} {a : Addr} (h : CellO Hf u c) (ha : Hs a = some u) : RepB Hs Hf (.ref a) c.toD := by
  cases c with
  | lst xs => obtain ⟨vs, rfl, h2⟩ := h; exact .lst ha h2
  | dk xs => obtain ⟨vs, rfl, h2⟩ := h; exact .dk (.inl ha) h2
  | dt xs => obtain ⟨vs, rfl, h2⟩ := h; exact .dt (.inl ha) h2
/-- a borrowed argument -/
theorem bor (s : Sat Γ L Hf ad st σ H) {ms : List Addr} (hms : ∀ a ∈ ms, ∃ i, Owns st i ∧ ad i = a) {v : V} {rv : RV} {x : D} (r : RepR Γ Hf ad st σ Hb H v rv) (c : cont st rv = some x) (nb : ∀ i, i ∈ bsl st rv → ad i ∉ ms) : RepB (hsOf H ms) Hf v x := by
  have hsn : ∀ a ∈ ms, Γ.Hs a = none := fun a ha => by
    obtain ⟨i, hi, e⟩ := hms a ha
    rw [← e]
    rcases hi with ⟨c, q⟩ | ⟨c, q⟩
    · exact (s.cellAt (c := c) (by unfold cellOf; rw [q])).2.2.2
    · exact (s.cellAt (c := c) (by unfold cellOf; rw [q])).2.2.2
  have up : ∀ {a o}, H a = some o → a ∉ ms → hsOf H ms a = some o := fun {a o} h n => by
    unfold hsOf
    rw [if_neg n]
    exact h
  have back : ∀ {y : D}, RepB Γ.Hs Hf v y → RepB (hsOf H ms) Hf v y := fun h => repB_read s h (fun a o h1 h2 => up h2 fun hm => by rw [hsn a hm] at h1; cases h1) (fun a o ob h1 h2 => up h2 fun hm => by rw [hsn a hm] at h1; cases h1)
  cases rv with
  | d y =>
    cases c
    exact .of r
  | b y =>
    cases c
    exact back r
  | n c' =>
    cases c
    obtain ⟨p, rfl, _, _, _, h4, u, h5, h6⟩ := r
    refine h6.repB (up h5 fun hm => ?_)
    obtain ⟨i, hi, e⟩ := hms p hm
    exact h4 i hi e
  | sl i =>
    have r : σ[i]? = some (some v) := r
    have c : slotD st[i]? = some x := c
    cases q : st[i]? with
    | none => rw [q] at c; cases c
    | some sl =>
      rw [q] at c
      have k := s.sl i sl q
      cases sl with
      | un => cases c
      | d y =>
        cases c
        obtain ⟨u, e, k⟩ := k
        rw [r] at e
        cases e
        exact .of k
      | b y =>
        cases c
        obtain ⟨u, e, k⟩ := k
        rw [r] at e
        cases e
        exact back k
      | o c' =>
        cases c
        have hc : cellOf st i = some c' := by unfold cellOf; rw [q]
        obtain ⟨⟨u, h5, h6⟩, _, h7, _⟩ := s.cellAt hc
        rw [r] at h7
        cases h7
        exact h6.repB (up h5 (nb i (by show i ∈ ownL st i; unfold ownL; rw [hc]; exact List.mem_singleton.mpr rfl)))
      | p c' =>
        cases c
        have hc : cellOf st i = some c' := by unfold cellOf; rw [q]
        obtain ⟨⟨u, h5, h6⟩, _, h7, _⟩ := s.cellAt hc
        rw [r] at h7
        cases h7
        exact h6.repB (up h5 (nb i (by show i ∈ ownL st i; unfold ownL; rw [hc]; exact List.mem_singleton.mpr rfl)))
theorem Args.app {Hs : Hp} : ∀ {vs ws : List V} {as bs : List AV} {ms ns : List Addr}, Args Hs Hf H vs as ms → Args Hs Hf H ws bs ns → Args Hs Hf H (vs ++ ws) (as ++ bs) (ms ++ ns)
  | _, _, _, _, _, _, .nil, s => s
  | _, _, _, _, _, _, .d h r, s => .d h (r.app s)
  | _, _, _, _, _, _, .b h r, s => .b h (r.app s)
  | _, _, _, _, _, _, .m h r, s => .m h (r.app s)
theorem av1_args (s : Sat Γ L Hf ad st σ H) {ms : List Addr} (hms : ∀ a ∈ ms, ∃ i, Owns st i ∧ ad i = a) {md : Md} {r : RV} {v : V} {a : AV × List Nat × List Nat} (h : RepR Γ Hf ad st σ Hb H v r) (e : av1 st md r = some a) (nb : ∀ i ∈ a.2.2, ad i ∉ ms) : Args (hsOf H ms) Hf H [v] [a.1] (a.2.1.map ad) := by
  cases md with
  | d =>
    cases r with
    | d x => cases e; exact .d h .nil
    | _ => cases e
  | b =>
    obtain ⟨x, h1, rfl⟩ := Option.map_eq_some_iff.mp (show (cont st r).map (fun x => (AV.b x, ([] : List Nat), bsl st r)) = some a from e)
    exact .b (bor s hms h h1 nb) .nil
  | m =>
    cases r with
    | sl j =>
      obtain ⟨c, h1, rfl⟩ := Option.map_eq_some_iff.mp (show (cellOf st j).map (fun c => (AV.m c, [j], ([] : List Nat))) = some a from e)
      have h : σ[j]? = some (some v) := h
      obtain ⟨h2, _, h3, _⟩ := s.cellAt h1
      rw [h] at h3
      cases h3
      exact .m h2 .nil
    | _ => cases e
theorem avs_args (s : Sat Γ L Hf ad st σ H) {ms : List Addr} (hms : ∀ a ∈ ms, ∃ i, Owns st i ∧ ad i = a) : ∀ {mds : List Md} {rs : List RV} {vs : List V} {z : List AV × List Nat × List Nat}, RepRs Γ Hf ad st σ Hb H vs rs → avs st mds rs = some z → (∀ i ∈ z.2.2, ad i ∉ ms) → Args (hsOf H ms) Hf H vs z.1 (z.2.1.map ad)
  | [], _, _, z, .nil, e, _ => by
    cases e
    exact .nil
  | _ :: _, _, _, z, .nil, e, _ => by cases e
  | [], _, _, z, .cons _ _, e, _ => by cases e
  | md :: mds, _, _, z, .cons h r, e, nb => by
    obtain ⟨a, z', h1, h2, rfl⟩ := avs_cons e
    have x1 := av1_args s hms h h1 fun i hi => nb i (List.mem_append.mpr (.inl hi))
    have x2 := avs_args s hms r h2 fun i hi => nb i (List.mem_append.mpr (.inr hi))
    show Args _ _ _ _ _ ((a.2.1 ++ z'.2.1).map ad)
    rw [List.map_append]
    exact x1.app x2
end
def callK (sp : DSp) (st1 : S) (P : RV → S → Prop) (E : XC) (z : List AV × List Nat × List Nat) : Prop :=
  djL z.2.1 z.2.2 = true ∧ sp z.1 (fun rv cs => P rv (setCs st1 z.2.1 cs)) fun C x cs => E C x (setCs st1 z.2.1 cs)
def wCall (mds : List Md) (sp : DSp) (wa : WA) : WE := fun st P E => wa st (fun rs st1 => opt (avs st1 mds rs) (callK sp st1 P E)) E
variable {X : Cx} {W : WX}
/-- a call's promise at a state -/
theorem call_sp {Γ : Gm} {L : List Addr} {Hf H Hb : Hp} {ad : Nat → Addr} {st : S} {σ : L2.St} {sp : DSp} {P : RV → S → Prop} {E : XC} {Q : VK} {mds : List Md} {rs : List RV} {vs : List V} (s : Sat Γ L Hf ad st σ H) (r : RepRs Γ Hf ad st σ Hb H vs rs) (h : opt (avs st mds rs) (callK sp st P E))
    (hP : ∀ rv st', P rv st' → ∀ v Hf' H', Nxt ad st Hf H st' Hf' H' → Sat Γ L Hf' ad st' σ H' → RepR Γ Hf' ad st' σ H H' v rv → Q v H') (hE : XOk W Γ L Hf ad st σ H E) : toSp sp vs H Q (L2.WE W σ) := by
  obtain ⟨z, e, dj, h⟩ := opt_of h
  have dj : (decide z.2.1.Nodup && z.2.2.all fun i => !z.2.1.contains i) = true := dj
  rw [Bool.and_eq_true] at dj
  have nd : z.2.1.Nodup := of_decide_eq_true dj.1
  have nb : ∀ i ∈ z.2.2, i ∉ z.2.1 := fun i hi hm => by
    have q := List.all_eq_true.mp dj.2 i hi
    have q2 : z.2.1.contains i = true := by simpa using hm
    rw [q2] at q
    cases q
  have ho := (avs_cells e).1
  have hms : ∀ a ∈ z.2.1.map ad, ∃ i, Owns st i ∧ ad i = a := fun a ha => by
    obtain ⟨i, hi, e⟩ := List.mem_map.mp ha
    obtain ⟨c, hc⟩ := ho i hi
    exact ⟨i, cellOf_owns hc, e⟩
  have bsown := (avs_cells e).2
  refine ⟨Hf, L, z.2.1.map ad, z.1, _, _, s.exf, s.lk, ?_, fun a ha => ?_, avs_args s hms r e fun i hi hm => ?_, h, fun rv cs hp v Hf' H' af ret => ?_, fun C x cs hp d Hf' H' af pay => ?_⟩
  · have key : ∀ l : List Nat, l.Nodup → (∀ i ∈ l, ∃ c, cellOf st i = some c) → (l.map ad).Nodup := by
      intro l
      induction l with
      | nil => intro _ _; exact List.nodup_nil
      | cons i l ih =>
        intro nd ho
        obtain ⟨n1, n2⟩ := List.nodup_cons.mp nd
        refine List.nodup_cons.mpr ⟨fun hm => ?_, ih n2 fun i hi => ho i (List.mem_cons_of_mem _ hi)⟩
        obtain ⟨j, hj, e⟩ := List.mem_map.mp hm
        obtain ⟨c, hc⟩ := ho i List.mem_cons_self
        obtain ⟨c', hc'⟩ := ho j (List.mem_cons_of_mem _ hj)
        exact n1 (by rw [← s.inj j i (cellOf_owns hc') (cellOf_owns hc) e]; exact hj)
    exact key _ nd ho
  · obtain ⟨i, hi, e⟩ := List.mem_map.mp ha
    obtain ⟨c, hc⟩ := ho i hi
    obtain ⟨⟨u, h1, _⟩, h2, _⟩ := s.cellAt hc
    rw [← e]
    exact ⟨h2, by rw [h1]; exact fun z => nomatch z⟩
  · obtain ⟨j, hj, ej⟩ := List.mem_map.mp hm
    obtain ⟨c, hc⟩ := ho j hj
    obtain ⟨c', hc'⟩ := bsown i hi
    exact nb i hi (by rw [← s.inj j i (cellOf_owns hc) (cellOf_owns hc') ej]; exact hj)
  · obtain ⟨s2, n2⟩ := s.called nd ho af
    exact hP rv _ hp v Hf' H' n2 s2 (ret.back (is := z.2.1) (cs := cs) s n2)
  · obtain ⟨s2, n2⟩ := s.called nd ho af
    exact hE C x _ hp d Hf' H' n2 s2 pay
theorem LE.call {mds : List Md} {sp : DSp} {wa : WA} {σ : L2.St} {H : Hp} {Q : VK} (h : LE W (wCall mds sp wa) σ H Q) : tCallSD (toSp sp) [] (L2.WE W) (LA W wa) σ H Q := by
  obtain ⟨Γ, L, Hf, ad, st, P, E, s, hw, hP, hE⟩ := h
  refine ⟨Γ, L, Hf, ad, st, _, E, s, hw, fun rs st1 h1 vs Hf1 H1 n1 s1 k1 => ?_, hE⟩
  show toSp sp (vs ++ []) H1 Q _
  rw [List.append_nil]
  exact call_sp s1 k1 h1 (fun rv st' hp v Hf' H' n s r => hP rv st' hp v Hf' H' (n1.trans n) s (r.from n1)) (hE.later n1)
theorem de_call {k : Nat} {f : Addr} {fd : FuncData} {ps : List Str} {sp : DSp} {x : Str} {p pos : Pos} {e : Expr} {es : List Expr} {wa : WA} (mds : List Md) (tk : Takes X W) (F : FnOk X.prog X.w X.K X.mg X.base (L2.CX X.prog X.w) k f fd ps (toSp sp)) (hr : Room k X.A) (hm : X.mg x = some (.ref f)) (hk : PySem.W.keepIn X.K (.ref f) = true) (hb : Binds X.K fd ps [])
    (ha : DA X W (e :: es) wa) (hg : Gl X x := by rfl) (hdb : (x == ("__debug__" : Str)) = false := by decide) (he : starEach (e :: es) X.env = (false, eval e X.env) :: starEach es X.env := by rfl) (hpl : (backTo pos (starEach es X.env)).any (·.1) = false := by rfl) :
    DE X W (.Call (.Name x p) (e :: es) [] pos) (wCall mds sp wa) := ⟨(pe_callSD F hr hg hm hk hb .nil (fun σ => passAt tk σ) ha.pa hdb he hpl).imp fun _ _ _ h => h.call⟩
end DL


/-! DL h: equality of data; membership. -/
namespace DL
open PySem PySem.Spec PyProof.Rows L2

def eqL (f : D → D → Option Bool) : List D → List D → Option Bool
  | [], [] => some true
  | x :: xs, y :: ys => match f x y, eqL f xs ys with
    | some a, some b => some (a && b)
    | _, _ => none
  | [], _ :: _ => some false
  | _ :: _, [] => some false
/-- ==, of data that nests less than n deep; none: not told -/
def deqN : Nat → D → D → Option Bool
  | 0, _, _ => none
  | n + 1, x, y => match x, y with
    | .non, .non => some true
    | .non, .bl _ => some false
    | .non, .int _ => some false
    | .non, .str _ => some false
    | .non, .lst _ => some false
    | .non, .tup _ => some false
    | .bl _, .non => some false
    | .bl a, .bl b => some (a == b)
    | .bl a, .int b => some ((if a then 1 else 0) == b)
    | .bl _, .str _ => some false
    | .bl _, .lst _ => some false
    | .bl _, .tup _ => some false
    | .int _, .non => some false
    | .int a, .bl b => some (a == (if b then 1 else 0))
    | .int a, .int b => some (a == b)
    | .int _, .str _ => some false
    | .int _, .lst _ => some false
    | .int _, .tup _ => some false
    | .str _, .non => some false
    | .str _, .bl _ => some false
    | .str _, .int _ => some false
    | .str a, .str b => some (a == b)
    | .str _, .lst _ => some false
    | .str _, .tup _ => some false
    | .lst _, .non => some false
    | .lst _, .bl _ => some false
    | .lst _, .int _ => some false
    | .lst _, .str _ => some false
    | .lst xs, .lst ys => if xs.length = ys.length then eqL (deqN n) xs ys else some false
    | .lst _, .tup _ => some false
    | .tup _, .non => some false
    | .tup _, .bl _ => some false
    | .tup _, .int _ => some false
    | .tup _, .str _ => some false
    | .tup _, .lst _ => some false
    | .tup xs, .tup ys => eqL (deqN n) xs ys
    | _, _ => none
theorem eqL_of {f : D → D → Option Bool} : ∀ {xs ys : List D} {b : Bool}, eqL f xs ys = some b → ∃ e : Nat → Bool, (∀ j x y, xs[j]? = some x → ys[j]? = some y → f x y = some (e j)) ∧ ((List.range (min xs.length ys.length)).all e && xs.length == ys.length) = b
  | [], [], b, h => by
    cases h
    exact ⟨fun _ => true, fun j x y h => by simp at h, rfl⟩
  | [], _ :: _, b, h => by
    cases h
    exact ⟨fun _ => true, fun j x y h => by simp at h, by simp⟩
  | _ :: _, [], b, h => by
    cases h
    exact ⟨fun _ => true, fun j x y _ h => by simp at h, by simp⟩
  | x :: xs, y :: ys, b, h => by
    have h : (match f x y, eqL f xs ys with
      | some a, some b => some (a && b)
      | _, _ => none) = some b := h
    cases h1 : f x y with
    | none => rw [h1] at h; cases h
    | some a =>
      cases h2 : eqL f xs ys with
      | none => rw [h1, h2] at h; cases h
      | some c =>
        rw [h1, h2] at h
        obtain ⟨e, he, hc⟩ := eqL_of h2
        refine ⟨fun j => match j with
          | 0 => a
          | j + 1 => e j, fun j x' y' hx hy => ?_, ?_⟩
        · cases j with
          | zero =>
            simp at hx hy
            rw [← hx, ← hy]
            exact h1
          | succ j => exact he j x' y' (by simpa using hx) (by simpa using hy)
        · cases h
          have e1 : min (x :: xs).length (y :: ys).length = min xs.length ys.length + 1 := by simp only [List.length_cons]; omega
          rw [e1, List.range_succ_eq_map, List.all_cons, List.all_map, ← hc, Bool.and_assoc]
          congr 1
          have e2 : ((x :: xs).length == (y :: ys).length) = (xs.length == ys.length) := by simp
          rw [e2]
          rfl
section
variable {X : Cx} {pins : List (Addr × Obj)} {σ : L2.St} {H Hf : Hp} {s : Shared} {L : List Addr}
theorem sqT_of {K : PySem.W.Frag} {a : Addr} {vs : List V} (h : H a = some (.tup vs)) : SqT K H a vs := .inl (.inl h)
theorem sqL_of {K : PySem.W.Frag} {a : Addr} {vs : List V} (h : H a = some (.lst vs)) : SqL K H a vs := .inl (.inl h)
theorem Inv.isList (I : Inv X pins σ H s) {a : Addr} {vs : List V} (h : H a = some (.lst vs)) : ∃ its : List Value, Vals vs its ∧ s.heap.IsList a its.toArray := by
  obtain ⟨its, h1, h2, _⟩ := I.list (sqL_of h)
  exact ⟨its, h1, h2.isList⟩
theorem Inv.isTuple (I : Inv X pins σ H s) {a : Addr} {vs : List V} (h : H a = some (.tup vs)) : ∃ its : List Value, Vals vs its ∧ s.heap.IsTuple a its.toArray := by
  obtain ⟨its, h1, h2, _⟩ := I.tuple (sqT_of h)
  exact ⟨its, h1, h2⟩
theorem eqAll_items {A : Around} {n : Nat} (I : Inv X pins σ H s) (ex : Exl L Hf H) (ih : ∀ (d e : D) (v w : V) (u u' : Value) (b : Bool), RepH Hf H v d → RepH Hf H w e → RelV v u → RelV w u' → deqN n d e = some b → SeqAt.EqAt A s u u' b)
    {vs ws : List V} {xs ys : List D} {its its' : List Value} (rx : Reps Hf vs xs) (ry : Reps Hf ws ys) (hv : Vals vs its) (hw : Vals ws its') {e : Nat → Bool} (he : ∀ j x y, xs[j]? = some x → ys[j]? = some y → deqN n x y = some (e j)) :
    ∀ j (h1 : j < its.toArray.size) (h2 : j < its'.toArray.size), SeqAt.EqAt A s its.toArray[j] its'.toArray[j] (e j) := fun j h1 h2 => by
  have l1 : j < vs.length := by rw [hv.length]; simpa using h1
  have l2 : j < ws.length := by rw [hw.length]; simpa using h2
  obtain ⟨x, hx, r1⟩ := rx.getV (List.getElem?_eq_getElem l1)
  obtain ⟨y, hy, r2⟩ := ry.getV (List.getElem?_eq_getElem l2)
  obtain ⟨u, hu, r3⟩ := hv.get (List.getElem?_eq_getElem l1)
  obtain ⟨u', hu', r4⟩ := hw.get (List.getElem?_eq_getElem l2)
  have e1 : its.toArray[j] = u := by
    have q := hu
    rw [List.getElem?_eq_getElem (by simpa using h1)] at q
    simpa using q
  have e2 : its'.toArray[j] = u' := by
    have q := hu'
    rw [List.getElem?_eq_getElem (by simpa using h2)] at q
    simpa using q
  rw [e1, e2]
  exact ih x y _ _ u u' (e j) (r1.reph ex) (r2.reph ex) r3 r4 (he j x y hx hy)
mutual
theorem Rep.inj {H : Hp} : ∀ {v : V} {x y : D}, Rep H v x → Rep H v y → x = y
  | _, _, _, .non, h => by cases h; rfl
  | _, _, _, .bl _, h => by cases h; rfl
  | _, _, _, .int _, h => by cases h; rfl
  | _, _, _, .str _, h => by cases h; rfl
  | _, _, _, .lst h r, h' => by
    cases h' with
    | lst h2 r2 =>
      rw [h] at h2
      cases h2
      rw [Reps.inj r r2]
    | tup h2 r2 => rw [h] at h2; cases h2
    | dk h2 r2 => rw [h] at h2; cases h2
    | dt h2 r2 => rw [h] at h2; cases h2
    | ins h2 r2 => rw [h] at h2; cases h2
  | _, _, _, .tup h r, h' => by
    cases h' with
    | tup h2 r2 =>
      rw [h] at h2
      cases h2
      rw [Reps.inj r r2]
    | lst h2 r2 => rw [h] at h2; cases h2
    | dk h2 r2 => rw [h] at h2; cases h2
    | dt h2 r2 => rw [h] at h2; cases h2
    | ins h2 r2 => rw [h] at h2; cases h2
  | _, _, _, .dk h r, h' => by
    cases h' with
    | dk h2 r2 =>
      rw [h] at h2
      cases h2
      rw [RepK.inj r r2]
    | lst h2 r2 => rw [h] at h2; cases h2
    | tup h2 r2 => rw [h] at h2; cases h2
    | dt h2 r2 => rw [h] at h2; cases h2
    | ins h2 r2 => rw [h] at h2; cases h2
  | _, _, _, .dt h r, h' => by
    cases h' with
    | dt h2 r2 =>
      rw [h] at h2
      cases h2
      rw [RepT.inj r r2]
    | lst h2 r2 => rw [h] at h2; cases h2
    | tup h2 r2 => rw [h] at h2; cases h2
    | dk h2 r2 => rw [h] at h2; cases h2
    | ins h2 r2 => rw [h] at h2; cases h2
  | _, _, _, .ins h r, h' => by
    cases h' with
    | ins h2 r2 =>
      rw [h] at h2
      cases h2
      rw [RepF.inj r r2]
    | lst h2 r2 => rw [h] at h2; cases h2
    | tup h2 r2 => rw [h] at h2; cases h2
    | dk h2 r2 => rw [h] at h2; cases h2
    | dt h2 r2 => rw [h] at h2; cases h2
theorem Reps.inj {H : Hp} : ∀ {v : List V} {x y : List D}, Reps H v x → Reps H v y → x = y
  | _, _, _, .nil, h => by cases h; rfl
  | _, _, _, .cons h r, h' => by
    cases h' with
    | cons h2 r2 => rw [Rep.inj h h2, Reps.inj r r2]
theorem RepK.inj {H : Hp} : ∀ {v : List (Key × V)} {x y : List (Key × D)}, RepK H v x → RepK H v y → x = y
  | _, _, _, .nil, h => by cases h; rfl
  | _, _, _, .cons h r, h' => by
    cases h' with
    | cons h2 r2 => rw [Rep.inj h h2, RepK.inj r r2]
theorem RepT.inj {H : Hp} : ∀ {v : List (List Key × V)} {x y : List (List Key × D)}, RepT H v x → RepT H v y → x = y
  | _, _, _, .nil, h => by cases h; rfl
  | _, _, _, .cons h r, h' => by
    cases h' with
    | cons h2 r2 => rw [Rep.inj h h2, RepT.inj r r2]
theorem RepF.inj {H : Hp} : ∀ {v : List (Str × V)} {x y : List (Str × D)}, RepF H v x → RepF H v y → x = y
  | _, _, _, .nil, h => by cases h; rfl
  | _, _, _, .cons h r, h' => by
    cases h' with
    | cons h2 r2 => rw [Rep.inj h h2, RepF.inj r r2]
end
theorem eqL_same {f : D → D → Option Bool} (hf : ∀ x b, f x x = some b → b = true) : ∀ {xs : List D} {b : Bool}, eqL f xs xs = some b → b = true
  | [], b, h => by cases h; rfl
  | x :: xs, b, h => by
    have h : (match f x x, eqL f xs xs with
      | some a, some b => some (a && b)
      | _, _ => none) = some b := h
    cases h1 : f x x with
    | none => rw [h1] at h; cases h
    | some a =>
      cases h2 : eqL f xs xs with
      | none => rw [h1, h2] at h; cases h
      | some c =>
        rw [h1, h2] at h
        cases h
        rw [hf x a h1, eqL_same hf h2]
        rfl
theorem deqN_same : ∀ (n : Nat) (x : D) (b : Bool), deqN n x x = some b → b = true
  | 0, _, _, h => by cases h
  | n + 1, x, b, h => by
    cases x with
    | non => cases h; rfl
    | bl a => cases h; simp
    | int a => cases h; simp
    | str a => cases h; simp
    | lst xs =>
      have h : (if xs.length = xs.length then eqL (deqN n) xs xs else some false) = some b := h
      rw [if_pos rfl] at h
      exact eqL_same (deqN_same n) h
    | tup xs => exact eqL_same (deqN_same n) h
    | dk a => cases h
    | dt a => cases h
    | ins a b => cases h
    | fz a => cases h
theorem deq_ok (I : Inv X pins σ H s) (ex : Exl L Hf H) : ∀ (n : Nat) (A : Around) (d e : D) (v w : V) (u u' : Value) (b : Bool), A.units + n < cLine → RepH Hf H v d → RepH Hf H w e → RelV v u → RelV w u' → deqN n d e = some b → SeqAt.EqAt A s u u' b
  | 0, _, _, _, _, _, _, _, _, _, _, _, _, _, h => by cases h
  | n + 1, A, d, e, v, w, u, u', b, hu, r1, r2, q1, q2, h => by
    have hu0 : A.units < cLine := by omega
    have ih := deq_ok I ex n A.in1
    cases r1 with
    | non =>
      cases q1
      cases r2 with
      | non => cases q2; cases h; exact SeqAt.EqAt.same _
      | bl y => cases q2; cases h; exact SeqAt.EqAt.none_bool y
      | int y => obtain ⟨t, rfl⟩ := q2; cases h; exact SeqAt.EqAt.none_int y t
      | str y => obtain ⟨t, rfl⟩ := q2; cases h; exact SeqAt.EqAt.none_str y t
      | lst h2 _ => cases q2; cases h; obtain ⟨its, _, k⟩ := Inv.isList I h2; exact SeqAt.EqAt.none_list k hu0
      | tup h2 _ => cases q2; cases h; obtain ⟨its, _, k⟩ := Inv.isTuple I h2; exact SeqAt.EqAt.none_tuple k hu0
      | _ => cases h
    | bl x =>
      cases q1
      cases r2 with
      | non => cases q2; cases h; exact SeqAt.EqAt.bool_none x
      | bl y => cases q2; cases h; exact SeqAt.EqAt.bool_bool x y
      | int y => obtain ⟨t, rfl⟩ := q2; cases h; exact SeqAt.EqAt.bool_int x y t
      | str y => obtain ⟨t, rfl⟩ := q2; cases h; exact SeqAt.EqAt.bool_str x y t
      | lst h2 _ => cases q2; cases h; obtain ⟨its, _, k⟩ := Inv.isList I h2; exact SeqAt.EqAt.bool_list x k hu0
      | tup h2 _ => cases q2; cases h; obtain ⟨its, _, k⟩ := Inv.isTuple I h2; exact SeqAt.EqAt.bool_tuple x k hu0
      | _ => cases h
    | int x =>
      obtain ⟨t0, rfl⟩ := q1
      cases r2 with
      | non => cases q2; cases h; exact SeqAt.EqAt.int_none x t0
      | bl y => cases q2; cases h; exact SeqAt.EqAt.int_bool x t0 y
      | int y => obtain ⟨t, rfl⟩ := q2; cases h; exact SeqAt.EqAt.int_int x t0 y t
      | str y => obtain ⟨t, rfl⟩ := q2; cases h; exact SeqAt.EqAt.int_str x t0 y t
      | lst h2 _ => cases q2; cases h; obtain ⟨its, _, k⟩ := Inv.isList I h2; exact SeqAt.EqAt.int_list x t0 k hu0
      | tup h2 _ => cases q2; cases h; obtain ⟨its, _, k⟩ := Inv.isTuple I h2; exact SeqAt.EqAt.int_tuple x t0 k hu0
      | _ => cases h
    | str x =>
      obtain ⟨t0, rfl⟩ := q1
      cases r2 with
      | non => cases q2; cases h; exact SeqAt.EqAt.str_none x t0
      | bl y => cases q2; cases h; exact SeqAt.EqAt.str_bool x t0 y
      | int y => obtain ⟨t, rfl⟩ := q2; cases h; exact SeqAt.EqAt.str_int x t0 y t
      | str y => obtain ⟨t, rfl⟩ := q2; cases h; exact SeqAt.EqAt.str_str x t0 y t
      | lst h2 _ => cases q2; cases h; obtain ⟨its, _, k⟩ := Inv.isList I h2; exact SeqAt.EqAt.str_list x t0 k hu0
      | tup h2 _ => cases q2; cases h; obtain ⟨its, _, k⟩ := Inv.isTuple I h2; exact SeqAt.EqAt.str_tuple x t0 k hu0
      | _ => cases h
    | @lst a vs xs h1 rx =>
      cases q1
      obtain ⟨its, hv, k1⟩ := Inv.isList I h1
      cases r2 with
      | non => cases q2; cases h; exact SeqAt.EqAt.list_none k1 hu0
      | bl y => cases q2; cases h; exact SeqAt.EqAt.list_bool y k1 hu0
      | int y => obtain ⟨t, rfl⟩ := q2; cases h; exact SeqAt.EqAt.list_int y t k1 hu0
      | str y => obtain ⟨t, rfl⟩ := q2; cases h; exact SeqAt.EqAt.list_str y t k1 hu0
      | @lst a' ws ys h2 ry =>
        cases q2
        obtain ⟨its', hw, k2⟩ := Inv.isList I h2
        have h : (if xs.length = ys.length then eqL (deqN n) xs ys else some false) = some b := h
        by_cases ea : a = a'
        · subst ea
          rw [h1] at h2
          cases h2
          have exy := Reps.inj rx ry
          subst exy
          rw [if_pos rfl] at h
          rw [eqL_same (deqN_same n) h]
          exact SeqAt.EqAt.same _
        · have z1 : its.toArray.size = xs.length := by rw [← rx.length, hv.length]; simp
          have z2 : its'.toArray.size = ys.length := by rw [← ry.length, hw.length]; simp
          by_cases el : xs.length = ys.length
          · rw [if_pos el] at h
            obtain ⟨e, he, hb⟩ := eqL_of h
            have k := SeqAt.RcAt.lists k1 k2 (by rw [z1, z2]; exact el) hu0 (eqAll_items I ex (fun d e v w u u' b => ih d e v w u u' b (by show A.units + 1 + n < cLine; omega)) rx ry hv hw he)
            refine SeqAt.EqAt.of_refs ea ?_
            rw [z1] at k
            rw [← el, Nat.min_self] at hb
            rw [← hb]
            simpa using k
          · rw [if_neg el] at h
            cases h
            exact SeqAt.EqAt.of_refs ea (SeqAt.RcAt.lists_lengths k1 k2 (by rw [z1, z2]; simpa using el) hu0)
      | tup h2 _ => cases q2; cases h; obtain ⟨its', _, k⟩ := Inv.isTuple I h2; exact SeqAt.EqAt.list_tuple k1 k hu0
      | _ => cases h
    | @tup a vs xs h1 rx =>
      cases q1
      obtain ⟨its, hv, k1⟩ := Inv.isTuple I h1
      cases r2 with
      | non => cases q2; cases h; exact SeqAt.EqAt.tuple_none k1 hu0
      | bl y => cases q2; cases h; exact SeqAt.EqAt.tuple_bool y k1 hu0
      | int y => obtain ⟨t, rfl⟩ := q2; cases h; exact SeqAt.EqAt.tuple_int y t k1 hu0
      | str y => obtain ⟨t, rfl⟩ := q2; cases h; exact SeqAt.EqAt.tuple_str y t k1 hu0
      | lst h2 _ => cases q2; cases h; obtain ⟨its', _, k⟩ := Inv.isList I h2; exact SeqAt.EqAt.tuple_list k1 k hu0
      | @tup a' ws ys h2 ry =>
        cases q2
        obtain ⟨its', hw, k2⟩ := Inv.isTuple I h2
        have h : eqL (deqN n) xs ys = some b := h
        by_cases ea : a = a'
        · subst ea
          rw [h1] at h2
          cases h2
          have exy := Reps.inj rx ry
          subst exy
          rw [eqL_same (deqN_same n) h]
          exact SeqAt.EqAt.same _
        · have z1 : its.toArray.size = xs.length := by rw [← rx.length, hv.length]; simp
          have z2 : its'.toArray.size = ys.length := by rw [← ry.length, hw.length]; simp
          obtain ⟨e, he, hb⟩ := eqL_of h
          have k := SeqAt.RcAt.tuples k1 k2 hu0 (eqAll_items I ex (fun d e v w u u' b => ih d e v w u u' b (by show A.units + 1 + n < cLine; omega)) rx ry hv hw he)
          refine SeqAt.EqAt.of_refs ea ?_
          rw [z1, z2] at k
          rw [← hb]
          exact k
      | _ => cases h
    | _ => cases h
end
end DL


/-! DL i: == and != of data, membership. -/
namespace DL
open PySem PySem.Spec PyProof.Rows L2
section
variable {X : Cx} {pins : List (Addr × Obj)} {σ : L2.St} {H Hf : Hp} {s : Shared} {L : List Addr}
theorem rc_ok (I : Inv X pins σ H s) (ex : Exl L Hf H) {n : Nat} {A : Around} {d e : D} {v w : V} {u u' : Value} {b : Bool} (hu : A.units + (n + 1) < cLine) (r1 : RepH Hf H v d) (r2 : RepH Hf H w e) (q1 : RelV v u) (q2 : RelV w u') (h : deqN (n + 1) d e = some b) : SeqAt.RcAt A s u u' (b) := by
  have hu0 : A.units < cLine := by omega
  have ih := deq_ok I ex n A.in1
  cases r1 with
  | non =>
    cases q1
    cases r2 with
    | non => cases q2; cases h; exact SeqAt.RcAt.none_none
    | bl y => cases q2; cases h; exact SeqAt.RcAt.none_bool y
    | int y => obtain ⟨t, rfl⟩ := q2; cases h; exact SeqAt.RcAt.none_int y t
    | str y => obtain ⟨t, rfl⟩ := q2; cases h; exact SeqAt.RcAt.none_str y t
    | @lst a' ws ys h2 ry => cases q2; cases h; obtain ⟨its, _, k⟩ := Inv.isList I h2; exact SeqAt.RcAt.none_list k hu0
    | @tup a' ws ys h2 ry => cases q2; cases h; obtain ⟨its, _, k⟩ := Inv.isTuple I h2; exact SeqAt.RcAt.none_tuple k hu0
    | _ => cases h
  | bl x =>
    cases q1
    cases r2 with
    | non => cases q2; cases h; exact SeqAt.RcAt.bool_none x
    | bl y => cases q2; cases h; exact SeqAt.RcAt.bool_bool x y
    | int y => obtain ⟨t, rfl⟩ := q2; cases h; exact SeqAt.RcAt.bool_int x y t
    | str y => obtain ⟨t, rfl⟩ := q2; cases h; exact SeqAt.RcAt.bool_str x y t
    | @lst a' ws ys h2 ry => cases q2; cases h; obtain ⟨its, _, k⟩ := Inv.isList I h2; exact SeqAt.RcAt.bool_list x k hu0
    | @tup a' ws ys h2 ry => cases q2; cases h; obtain ⟨its, _, k⟩ := Inv.isTuple I h2; exact SeqAt.RcAt.bool_tuple x k hu0
    | _ => cases h
  | int x =>
    obtain ⟨t0, rfl⟩ := q1
    cases r2 with
    | non => cases q2; cases h; exact SeqAt.RcAt.int_none x t0
    | bl y => cases q2; cases h; exact SeqAt.RcAt.int_bool x t0 y
    | int y => obtain ⟨t, rfl⟩ := q2; cases h; exact SeqAt.RcAt.int_int x t0 y t
    | str y => obtain ⟨t, rfl⟩ := q2; cases h; exact SeqAt.RcAt.int_str x t0 y t
    | @lst a' ws ys h2 ry => cases q2; cases h; obtain ⟨its, _, k⟩ := Inv.isList I h2; exact SeqAt.RcAt.int_list x t0 k hu0
    | @tup a' ws ys h2 ry => cases q2; cases h; obtain ⟨its, _, k⟩ := Inv.isTuple I h2; exact SeqAt.RcAt.int_tuple x t0 k hu0
    | _ => cases h
  | str x =>
    obtain ⟨t0, rfl⟩ := q1
    cases r2 with
    | non => cases q2; cases h; exact SeqAt.RcAt.str_none x t0
    | bl y => cases q2; cases h; exact SeqAt.RcAt.str_bool x t0 y
    | int y => obtain ⟨t, rfl⟩ := q2; cases h; exact SeqAt.RcAt.str_int x t0 y t
    | str y => obtain ⟨t, rfl⟩ := q2; cases h; exact SeqAt.RcAt.str_str x t0 y t
    | @lst a' ws ys h2 ry => cases q2; cases h; obtain ⟨its, _, k⟩ := Inv.isList I h2; exact SeqAt.RcAt.str_list x t0 k hu0
    | @tup a' ws ys h2 ry => cases q2; cases h; obtain ⟨its, _, k⟩ := Inv.isTuple I h2; exact SeqAt.RcAt.str_tuple x t0 k hu0
    | _ => cases h
  | @lst a vs xs h1 rx =>
    cases q1
    obtain ⟨its, hv, k1⟩ := Inv.isList I h1
    cases r2 with
    | non => cases q2; cases h; exact SeqAt.RcAt.list_none k1 hu0
    | bl y => cases q2; cases h; exact SeqAt.RcAt.list_bool y k1 hu0
    | int y => obtain ⟨t, rfl⟩ := q2; cases h; exact SeqAt.RcAt.list_int y t k1 hu0
    | str y => obtain ⟨t, rfl⟩ := q2; cases h; exact SeqAt.RcAt.list_str y t k1 hu0
    | @lst a' ws ys h2 ry =>
      cases q2
      obtain ⟨its', hw, k2⟩ := Inv.isList I h2
      have h : (if xs.length = ys.length then eqL (deqN n) xs ys else some false) = some b := h
      have z1 : its.toArray.size = xs.length := by rw [← rx.length, hv.length]; simp
      have z2 : its'.toArray.size = ys.length := by rw [← ry.length, hw.length]; simp
      by_cases el : xs.length = ys.length
      · rw [if_pos el] at h
        obtain ⟨e, he, hb⟩ := eqL_of h
        have k := SeqAt.RcAt.lists k1 k2 (by rw [z1, z2]; exact el) hu0 (eqAll_items I ex (fun d e v w u u' b => ih d e v w u u' b (by show A.units + 1 + n < cLine; omega)) rx ry hv hw he)
        rw [z1] at k
        rw [← el, Nat.min_self] at hb
        rw [← hb]
        simpa using k
      · rw [if_neg el] at h
        cases h
        exact SeqAt.RcAt.lists_lengths k1 k2 (by rw [z1, z2]; simpa using el) hu0
    | @tup a' ws ys h2 ry => cases q2; cases h; obtain ⟨its', _, k⟩ := Inv.isTuple I h2; exact SeqAt.RcAt.list_tuple k1 k hu0
    | _ => cases h
  | @tup a vs xs h1 rx =>
    cases q1
    obtain ⟨its, hv, k1⟩ := Inv.isTuple I h1
    cases r2 with
    | non => cases q2; cases h; exact SeqAt.RcAt.tuple_none k1 hu0
    | bl y => cases q2; cases h; exact SeqAt.RcAt.tuple_bool y k1 hu0
    | int y => obtain ⟨t, rfl⟩ := q2; cases h; exact SeqAt.RcAt.tuple_int y t k1 hu0
    | str y => obtain ⟨t, rfl⟩ := q2; cases h; exact SeqAt.RcAt.tuple_str y t k1 hu0
    | @lst a' ws ys h2 ry => cases q2; cases h; obtain ⟨its', _, k⟩ := Inv.isList I h2; exact SeqAt.RcAt.tuple_list k1 k hu0
    | @tup a' ws ys h2 ry =>
      cases q2
      obtain ⟨its', hw, k2⟩ := Inv.isTuple I h2
      have h : eqL (deqN n) xs ys = some b := h
      have z1 : its.toArray.size = xs.length := by rw [← rx.length, hv.length]; simp
      have z2 : its'.toArray.size = ys.length := by rw [← ry.length, hw.length]; simp
      obtain ⟨e, he, hb⟩ := eqL_of h
      have k := SeqAt.RcAt.tuples k1 k2 hu0 (eqAll_items I ex (fun d e v w u u' b => ih d e v w u u' b (by show A.units + 1 + n < cLine; omega)) rx ry hv hw he)
      rw [z1, z2] at k
      rw [← hb]
      exact k
    | _ => cases h
  | _ => cases h
theorem rcne_ok (I : Inv X pins σ H s) (ex : Exl L Hf H) {n : Nat} {A : Around} {d e : D} {v w : V} {u u' : Value} {b : Bool} (hu : A.units + (n + 1) < cLine) (r1 : RepH Hf H v d) (r2 : RepH Hf H w e) (q1 : RelV v u) (q2 : RelV w u') (h : deqN (n + 1) d e = some b) : SeqAt.RcNeAt A s u u' (!b) := by
  have hu0 : A.units < cLine := by omega
  have ih := deq_ok I ex n A.in1
  cases r1 with
  | non =>
    cases q1
    cases r2 with
    | non => cases q2; cases h; exact SeqAt.RcNeAt.none_none
    | bl y => cases q2; cases h; exact SeqAt.RcNeAt.none_bool y
    | int y => obtain ⟨t, rfl⟩ := q2; cases h; exact SeqAt.RcNeAt.none_int y t
    | str y => obtain ⟨t, rfl⟩ := q2; cases h; exact SeqAt.RcNeAt.none_str y t
    | @lst a' ws ys h2 ry => cases q2; cases h; obtain ⟨its, _, k⟩ := Inv.isList I h2; exact SeqAt.RcNeAt.none_list k hu0
    | @tup a' ws ys h2 ry => cases q2; cases h; obtain ⟨its, _, k⟩ := Inv.isTuple I h2; exact SeqAt.RcNeAt.none_tuple k hu0
    | _ => cases h
  | bl x =>
    cases q1
    cases r2 with
    | non => cases q2; cases h; exact SeqAt.RcNeAt.bool_none x
    | bl y => cases q2; cases h; exact SeqAt.RcNeAt.bool_bool x y
    | int y => obtain ⟨t, rfl⟩ := q2; cases h; exact SeqAt.RcNeAt.bool_int x y t
    | str y => obtain ⟨t, rfl⟩ := q2; cases h; exact SeqAt.RcNeAt.bool_str x y t
    | @lst a' ws ys h2 ry => cases q2; cases h; obtain ⟨its, _, k⟩ := Inv.isList I h2; exact SeqAt.RcNeAt.bool_list x k hu0
    | @tup a' ws ys h2 ry => cases q2; cases h; obtain ⟨its, _, k⟩ := Inv.isTuple I h2; exact SeqAt.RcNeAt.bool_tuple x k hu0
    | _ => cases h
  | int x =>
    obtain ⟨t0, rfl⟩ := q1
    cases r2 with
    | non => cases q2; cases h; exact SeqAt.RcNeAt.int_none x t0
    | bl y => cases q2; cases h; exact SeqAt.RcNeAt.int_bool x t0 y
    | int y => obtain ⟨t, rfl⟩ := q2; cases h; exact SeqAt.RcNeAt.int_int x t0 y t
    | str y => obtain ⟨t, rfl⟩ := q2; cases h; exact SeqAt.RcNeAt.int_str x t0 y t
    | @lst a' ws ys h2 ry => cases q2; cases h; obtain ⟨its, _, k⟩ := Inv.isList I h2; exact SeqAt.RcNeAt.int_list x t0 k hu0
    | @tup a' ws ys h2 ry => cases q2; cases h; obtain ⟨its, _, k⟩ := Inv.isTuple I h2; exact SeqAt.RcNeAt.int_tuple x t0 k hu0
    | _ => cases h
  | str x =>
    obtain ⟨t0, rfl⟩ := q1
    cases r2 with
    | non => cases q2; cases h; exact SeqAt.RcNeAt.str_none x t0
    | bl y => cases q2; cases h; exact SeqAt.RcNeAt.str_bool x t0 y
    | int y => obtain ⟨t, rfl⟩ := q2; cases h; exact SeqAt.RcNeAt.str_int x t0 y t
    | str y => obtain ⟨t, rfl⟩ := q2; cases h; exact SeqAt.RcNeAt.str_str x t0 y t
    | @lst a' ws ys h2 ry => cases q2; cases h; obtain ⟨its, _, k⟩ := Inv.isList I h2; exact SeqAt.RcNeAt.str_list x t0 k hu0
    | @tup a' ws ys h2 ry => cases q2; cases h; obtain ⟨its, _, k⟩ := Inv.isTuple I h2; exact SeqAt.RcNeAt.str_tuple x t0 k hu0
    | _ => cases h
  | @lst a vs xs h1 rx =>
    cases q1
    obtain ⟨its, hv, k1⟩ := Inv.isList I h1
    cases r2 with
    | non => cases q2; cases h; exact SeqAt.RcNeAt.list_none k1 hu0
    | bl y => cases q2; cases h; exact SeqAt.RcNeAt.list_bool y k1 hu0
    | int y => obtain ⟨t, rfl⟩ := q2; cases h; exact SeqAt.RcNeAt.list_int y t k1 hu0
    | str y => obtain ⟨t, rfl⟩ := q2; cases h; exact SeqAt.RcNeAt.list_str y t k1 hu0
    | @lst a' ws ys h2 ry =>
      cases q2
      obtain ⟨its', hw, k2⟩ := Inv.isList I h2
      have h : (if xs.length = ys.length then eqL (deqN n) xs ys else some false) = some b := h
      have z1 : its.toArray.size = xs.length := by rw [← rx.length, hv.length]; simp
      have z2 : its'.toArray.size = ys.length := by rw [← ry.length, hw.length]; simp
      by_cases el : xs.length = ys.length
      · rw [if_pos el] at h
        obtain ⟨e, he, hb⟩ := eqL_of h
        have k := SeqAt.RcNeAt.lists k1 k2 (by rw [z1, z2]; exact el) hu0 (eqAll_items I ex (fun d e v w u u' b => ih d e v w u u' b (by show A.units + 1 + n < cLine; omega)) rx ry hv hw he)
        rw [z1] at k
        rw [← el, Nat.min_self] at hb
        rw [← hb]
        simpa using k
      · rw [if_neg el] at h
        cases h
        exact SeqAt.RcNeAt.lists_lengths k1 k2 (by rw [z1, z2]; simpa using el) hu0
    | @tup a' ws ys h2 ry => cases q2; cases h; obtain ⟨its', _, k⟩ := Inv.isTuple I h2; exact SeqAt.RcNeAt.list_tuple k1 k hu0
    | _ => cases h
  | @tup a vs xs h1 rx =>
    cases q1
    obtain ⟨its, hv, k1⟩ := Inv.isTuple I h1
    cases r2 with
    | non => cases q2; cases h; exact SeqAt.RcNeAt.tuple_none k1 hu0
    | bl y => cases q2; cases h; exact SeqAt.RcNeAt.tuple_bool y k1 hu0
    | int y => obtain ⟨t, rfl⟩ := q2; cases h; exact SeqAt.RcNeAt.tuple_int y t k1 hu0
    | str y => obtain ⟨t, rfl⟩ := q2; cases h; exact SeqAt.RcNeAt.tuple_str y t k1 hu0
    | @lst a' ws ys h2 ry => cases q2; cases h; obtain ⟨its', _, k⟩ := Inv.isList I h2; exact SeqAt.RcNeAt.tuple_list k1 k hu0
    | @tup a' ws ys h2 ry =>
      cases q2
      obtain ⟨its', hw, k2⟩ := Inv.isTuple I h2
      have h : eqL (deqN n) xs ys = some b := h
      have z1 : its.toArray.size = xs.length := by rw [← rx.length, hv.length]; simp
      have z2 : its'.toArray.size = ys.length := by rw [← ry.length, hw.length]; simp
      obtain ⟨e, he, hb⟩ := eqL_of h
      have k := SeqAt.RcNeAt.tuples k1 k2 hu0 (eqAll_items I ex (fun d e v w u u' b => ih d e v w u u' b (by show A.units + 1 + n < cLine; omega)) rx ry hv hw he)
      rw [z1, z2] at k
      rw [← hb]
      exact k
    | _ => cases h
  | _ => cases h
end
variable {X : Cx}
/-- data by values: what stands in H at the two -/
def rD2 (f : D → D → Option D) : R2 := fun x y H Q => ∃ (L : List Addr) (Hf : Hp) (dx dy z : D), Exl L Hf H ∧ RepH Hf H x dx ∧ RepH Hf H y dy ∧ f dx dy = some z ∧ ∀ v, (∀ Hf, Rep Hf v z) → Q v H
def rDeq : R2 := fun x y H Q => ∃ (L : List Addr) (Hf : Hp) (dx dy : D) (b : Bool), Exl L Hf H ∧ RepH Hf H x dx ∧ RepH Hf H y dy ∧ deqN 40 dx dy = some b ∧ Q (.bl b) H
def rDne : R2 := fun x y H Q => ∃ (L : List Addr) (Hf : Hp) (dx dy : D) (b : Bool), Exl L Hf H ∧ RepH Hf H x dx ∧ RepH Hf H y dy ∧ deqN 40 dx dy = some b ∧ Q (.bl (!b)) H
theorem op_deq (hu : X.A.units + 64 < cLine) : OpR X (compareOp .Eq) rDeq := by
  intro pins s σ H x y v u Q I rx ry h
  obtain ⟨L, Hf, dx, dy, b, ex, r1, r2, e, q⟩ := h
  exact rc_ok (n := 39) I ex (by omega) r1 r2 rx ry e X.prog X.w _ _ ⟨.bl b, H, I, rfl, q⟩
theorem op_dne (hu : X.A.units + 64 < cLine) : OpR X (compareOp .NotEq) rDne := by
  intro pins s σ H x y v u Q I rx ry h
  obtain ⟨L, Hf, dx, dy, b, ex, r1, r2, e, q⟩ := h
  exact rcne_ok (n := 39) I ex (by omega) r1 r2 rx ry e X.prog X.w _ _ ⟨.bl !b, H, I, rfl, q⟩
def oEq : Op2 := fun x y P => opt (deqN 40 x y) fun b => P (.d (.bl b))
def oNe : Op2 := fun x y P => opt (deqN 40 x y) fun b => P (.d (.bl !b))
theorem ok_eq : OpOk rDeq oEq := fun L Hf H v1 v2 x y P Q ex r1 r2 h k => by
  obtain ⟨b, e, h⟩ := opt_of h
  exact ⟨L, Hf, x, y, b, ex, r1, r2, e, k _ _ _ _ h (.same (.bl b))⟩
theorem ok_ne : OpOk rDne oNe := fun L Hf H v1 v2 x y P Q ex r1 r2 h k => by
  obtain ⟨b, e, h⟩ := opt_of h
  exact ⟨L, Hf, x, y, b, ex, r1, r2, e, k _ _ _ _ h (.same (.bl !b))⟩
/-! ### in a list or tuple -/
def inL (n : Nat) (x : D) : List D → Option Bool
  | [] => some false
  | y :: ys => match deqN n y x, inL n x ys with
    | some a, some b => some (a || b)
    | _, _ => none
/-- what is walked by in: the items -/
def itemsD : D → Option (List D)
  | .lst xs => some xs
  | .tup xs => some xs
  | .fz ns => some (ns.map D.int)
  | _ => none
theorem inL_mem {n : Nat} {x : D} : ∀ {ys : List D} {b : Bool}, inL n x ys = some b → ∃ e : Nat → Bool, (∀ (j : Nat) (y : D), ys[j]? = some y → deqN n y x = some (e j)) ∧ (List.range ys.length).any e = b
  | [], b, h => by
    cases h
    exact ⟨fun _ => true, fun j y h => by simp at h, rfl⟩
  | y :: ys, b, h => by
    have h : (match deqN n y x, inL n x ys with
      | some a, some b => some (a || b)
      | _, _ => none) = some b := h
    cases h1 : deqN n y x with
    | none => rw [h1] at h; cases h
    | some a =>
      cases h2 : inL n x ys with
      | none => rw [h1, h2] at h; cases h
      | some c =>
        rw [h1, h2] at h
        cases h
        obtain ⟨e, he, hc⟩ := inL_mem h2
        refine ⟨fun j => match j with
          | 0 => a
          | j + 1 => e j, fun j y' hy => ?_, ?_⟩
        · cases j with
          | zero =>
            simp at hy
            rw [← hy]
            exact h1
          | succ j => exact he j y' (by simpa using hy)
        · rw [List.length_cons, List.range_succ_eq_map, List.any_cons, List.any_map, ← hc]
          rfl
end DL


/-! DL j: operators. -/
namespace DL
open PySem PySem.Spec PyProof.Rows L2
variable {X : Cx} {W : WX}

/-! ### numbers -/
def rAddX : R2 := fun x y H Q => rI0 (fun i j => .int (i + j)) x y H Q ∨ (∃ i j, x = .str i ∧ y = .str j ∧ i.length + j.length ≤ sizeLine ∧ Q (.str (i ++ j)) H) ∨ rCat x y H Q
theorem op_addX : OpR X (binaryOp .Add) rAddX := OpR.or op_add (OpR.or op_add_str op_cat)
def oAdd : Op2 := fun x y P => match x, y with
  | .int i, .int j => P (.d (.int (i + j)))
  | .str i, .str j => i.length + j.length ≤ sizeLine ∧ P (.d (.str (i ++ j)))
  | .lst xs, .lst ys => xs.length + ys.length ≤ sizeLine ∧ P (.n (.lst (xs ++ ys)))
  | _, _ => False
theorem ok_add : OpOk rAddX oAdd := fun L Hf H v1 v2 x y P Q ex r1 r2 h k => by
  cases r1 with
  | int i =>
    cases r2 with
    | int j => exact .inl ⟨i, j, rfl, rfl, k _ _ _ _ h (.same (.int _))⟩
    | _ => exact h.elim
  | str i =>
    cases r2 with
    | str j => exact .inr (.inl ⟨i, j, rfl, rfl, h.1, k _ _ _ _ h.2 (.same (.str _))⟩)
    | _ => exact h.elim
  | @lst a vs xs h1 rx =>
    cases r2 with
    | @lst b ws ys h2 ry => exact .inr (.inr ⟨a, b, vs, ws, rfl, rfl, h1, h2, by rw [rx.length, ry.length]; exact h.1, fun p hp => k _ _ _ _ h.2 (.new hp ⟨_, rfl, rx.append ry⟩)⟩)
    | _ => exact h.elim
  | _ => exact h.elim
def oI (C : Int → Int → Prop) (g : Int → Int → D) : Op2 := fun x y P => match x, y with
  | .int i, .int j => C i j ∧ P (.d (g i j))
  | _, _ => False
theorem ok_I {C : Int → Int → Prop} {g : Int → Int → D} {gv : Int → Int → V} (hg : ∀ i j Hf, Rep Hf (gv i j) (g i j)) : OpOk (rI C gv) (oI C g) := fun L Hf H v1 v2 x y P Q ex r1 r2 h k => by
  cases r1 with
  | int i =>
    cases r2 with
    | int j => exact ⟨i, j, rfl, rfl, h.1, k _ _ _ _ h.2 (.same (hg i j Hf))⟩
    | _ => exact h.elim
  | _ => exact h.elim
def oI0 (g : Int → Int → D) : Op2 := fun x y P => match x, y with
  | .int i, .int j => P (.d (g i j))
  | _, _ => False
theorem ok_I0 {g : Int → Int → D} {gv : Int → Int → V} (hg : ∀ i j Hf, Rep Hf (gv i j) (g i j)) : OpOk (rI0 gv) (oI0 g) := fun L Hf H v1 v2 x y P Q ex r1 r2 h k => by
  cases r1 with
  | int i =>
    cases r2 with
    | int j => exact ⟨i, j, rfl, rfl, k _ _ _ _ h (.same (hg i j Hf))⟩
    | _ => exact h.elim
  | _ => exact h.elim
abbrev oSub : Op2 := oI0 fun i j => .int (i - j)
abbrev oFdiv : Op2 := oI CDivW fun i j => .int (i / j)
abbrev oMod : Op2 := oI (fun _ j => 0 < j) fun i j => .int (i % j)
theorem ok_sub : OpOk (rI0 fun i j => V.int (i - j)) oSub := ok_I0 fun _ _ _ => .int _
theorem ok_fdiv : OpOk (rI CDivW fun i j => V.int (i / j)) oFdiv := ok_I fun _ _ _ => .int _
theorem ok_mod : OpOk (rI (fun _ j => 0 < j) fun i j => V.int (i % j)) oMod := ok_I fun _ _ _ => .int _
/-- a power of great ints -/
def CPowW (i j : Int) : Prop := 0 ≤ j ∧ ((i.natAbs.log2 + 1 : Nat) : Int) * j ≤ 100000000
theorem op_powW : OpR X (binaryOp .Pow) (rI CPowW fun i j => .int (i ^ j.toNat)) := opI fun i j _ _ _ _ _ hc q => by
  obtain ⟨h0, h1⟩ := hc
  refine pow_int h0 ?_ q
  have b : Builtin.Int.intBits i ≤ i.natAbs.log2 + 1 := by
    unfold Builtin.Int.intBits
    split <;> omega
  have this : ((Builtin.Int.intBits i : Nat) : Int) * j ≤ ((i.natAbs.log2 + 1 : Nat) : Int) * j := Int.mul_le_mul_of_nonneg_right (by omega) h0
  have e2 : (2 : Int) ^ 27 = 134217728 := by decide
  omega
abbrev oPow : Op2 := oI CPowW fun i j => .int (i ^ j.toNat)
theorem ok_pow : OpOk (rI CPowW fun i j => V.int (i ^ j.toNat)) oPow := ok_I fun _ _ _ => .int _
def rMulX : R2 := fun x y H Q => rI CMulW (fun i j => .int (i * j)) x y H Q ∨ rRep x y H Q
theorem op_mulX : OpR X (binaryOp .Mult) rMulX := OpR.or op_mulW op_rep
def oMul : Op2 := fun x y P => match x, y with
  | .int i, .int j => CMulW i j ∧ P (.d (.int (i * j)))
  | .lst xs, .int k => 0 ≤ k ∧ k < 100000 ∧ xs.length * k.toNat ≤ sizeLine ∧ P (.n (.lst (List.replicate k.toNat xs).flatten))
  | _, _ => False
theorem Reps.rep {Hf : Hp} {vs : List V} {xs : List D} (h : Reps Hf vs xs) : ∀ k : Nat, Reps Hf (List.replicate k vs).flatten (List.replicate k xs).flatten
  | 0 => .nil
  | k + 1 => by
    rw [List.replicate_succ, List.replicate_succ, List.flatten_cons, List.flatten_cons]
    exact h.append (Reps.rep h k)
theorem ok_mul : OpOk rMulX oMul := fun L Hf H v1 v2 x y P Q ex r1 r2 h k => by
  cases r1 with
  | int i =>
    cases r2 with
    | int j => exact .inl ⟨i, j, rfl, rfl, h.1, k _ _ _ _ h.2 (.same (.int _))⟩
    | _ => exact h.elim
  | @lst a vs xs h1 rx =>
    cases r2 with
    | int j =>
      obtain ⟨b1, b2, b3, b4⟩ := h
      exact .inr ⟨a, j, vs, rfl, rfl, h1, by omega, by omega, by rw [rx.length]; exact b3, fun p hp => k _ _ _ _ b4 (.new hp ⟨_, rfl, rx.rep _⟩)⟩
    | _ => exact h.elim
  | _ => exact h.elim
def o1I (g : Int → D) : Op1 := fun x P => match x with
  | .int i => P (.d (g i))
  | _ => False
theorem ok_1I {g : Int → D} {gv : Int → V} (hg : ∀ i Hf, Rep Hf (gv i) (g i)) : Op1Ok (rU gv) (o1I g) := fun L Hf H v x P Q ex r h k => by
  cases r with
  | int i => exact ⟨i, rfl, k _ _ _ _ h (.same (hg i Hf))⟩
  | _ => exact h.elim
abbrev oNeg : Op1 := o1I fun i => .int (-i)
theorem ok_neg : Op1Ok (rU fun i => V.int (-i)) oNeg := ok_1I fun _ _ => .int _
abbrev oLt : Op2 := oI0 fun i j => .bl (decide (i < j))
abbrev oLe : Op2 := oI0 fun i j => .bl (decide (i ≤ j))
abbrev oGt : Op2 := oI0 fun i j => .bl (decide (j < i))
abbrev oGe : Op2 := oI0 fun i j => .bl (decide (j ≤ i))
theorem ok_lt : OpOk (rI0 fun i j => V.bl (decide (i < j))) oLt := ok_I0 fun _ _ _ => .bl _
theorem ok_le : OpOk (rI0 fun i j => V.bl (decide (i ≤ j))) oLe := ok_I0 fun _ _ _ => .bl _
theorem ok_gt : OpOk (rI0 fun i j => V.bl (decide (j < i))) oGt := ok_I0 fun _ _ _ => .bl _
theorem ok_ge : OpOk (rI0 fun i j => V.bl (decide (j ≤ i))) oGe := ok_I0 fun _ _ _ => .bl _

/-! ### None -/
abbrev rIsN' : R2 := fun x y H Q => y = .non ∧ Q (.bl (decide (x = .non))) H
abbrev rNotN' : R2 := fun x y H Q => y = .non ∧ Q (.bl (!decide (x = .non))) H
def isNon : D → Bool
  | .non => true
  | _ => false
def oIsN : Op2 := fun x y P => match y with
  | .non => P (.d (.bl (isNon x)))
  | _ => False
def oNotN : Op2 := fun x y P => match y with
  | .non => P (.d (.bl !isNon x))
  | _ => False
theorem non_of {Hf H : Hp} {v : V} {x : D} (r : RepH Hf H v x) : decide (v = .non) = isNon x := by
  cases r <;> simp [isNon]
theorem ok_isN : OpOk rIsN' oIsN := fun L Hf H v1 v2 x y P Q ex r1 r2 h k => by
  cases r2 with
  | non => exact ⟨rfl, by rw [non_of r1]; exact k _ _ _ _ h (.same (.bl _))⟩
  | _ => exact h.elim
theorem ok_notN : OpOk rNotN' oNotN := fun L Hf H v1 v2 x y P Q ex r1 r2 h k => by
  cases r2 with
  | non => exact ⟨rfl, by rw [non_of r1]; exact k _ _ _ _ h (.same (.bl _))⟩
  | _ => exact h.elim

/-! ### an item -/
def rIxX (K : PySem.W.Frag) : R2 := fun x y H Q => rIx K x y H Q ∨ ∃ a v, x = .ref a ∧ DGet H a y (some v) ∧ Q v H
theorem ix_dict (hu : X.A.units + 1 < cLine) : IxR X (fun x y H Q => ∃ a v, x = .ref a ∧ DGet H a y (some v) ∧ Q v H) := by
  intro value slice pins s σ H x y v u Q I rx ry h hs
  obtain ⟨a, w, rfl, g, q⟩ := h
  cases rx
  exact tail_any (L2.dict_typeIs I g) PySem.F.slot_dict_getitem.lookup (L2.d_getItem hu I g ry fun w' s' I' r => ⟨w, H, I', r, q⟩) hs
theorem ix_any (hu : X.A.units + 1 < cLine) : IxR X (rIxX X.K) := IxR.or ix_seq (ix_dict hu)
def keyD : D → Option Key
  | .int i => some (.inl i)
  | .str s => some (.inr s)
  | _ => none
def keysD : List D → Option (List Key)
  | [] => some []
  | x :: xs => match keyD x, keysD xs with
    | some k, some ks => some (k :: ks)
    | _, _ => none
theorem keyD_rep {Hf : Hp} {v : V} {x : D} {k : Key} (r : Rep Hf v x) (h : keyD x = some k) : v = kV k := by
  cases r with
  | int i => cases h; rfl
  | str i => cases h; rfl
  | _ => cases h
theorem keyD_reph {Hf H : Hp} {v : V} {x : D} {k : Key} (r : RepH Hf H v x) (h : keyD x = some k) : v = kV k := by
  cases r with
  | int i => cases h; rfl
  | str i => cases h; rfl
  | _ => cases h
theorem keysD_rep {Hf : Hp} : ∀ {vs : List V} {xs : List D} {ks : List Key}, Reps Hf vs xs → keysD xs = some ks → vs = ks.map kV
  | _, _, _, .nil, e => by
    cases e
    rfl
  | _, _, _, @Reps.cons _ v x vs xs h r, e => by
    have e : (match keyD x, keysD xs with
      | some k, some ks => some (k :: ks)
      | _, _ => none) = some _ := e
    cases e1 : keyD x with
    | none => rw [e1] at e; cases e
    | some k =>
      cases e2 : keysD xs with
      | none => rw [e1, e2] at e; cases e
      | some ks =>
        rw [e1, e2] at e
        cases e
        rw [keyD_rep h e1, keysD_rep r e2]
        rfl
theorem repK_val {Hf : Hp} {k : Key} : ∀ {vs : List (Key × V)} {xs : List (Key × D)}, RepK Hf vs xs → (valV vs k = none ∧ valD xs k = none) ∨ ∃ v x, valV vs k = some v ∧ valD xs k = some x ∧ Rep Hf v x
  | _, _, .nil => .inl ⟨rfl, rfl⟩
  | _, _, @RepK.cons _ k' v x vs xs h r => by
    unfold valV valD
    rw [List.find?_cons, List.find?_cons]
    by_cases e : k' = k
    · rw [decide_eq_true e]
      exact .inr ⟨v, x, rfl, rfl, h⟩
    · rw [decide_eq_false e]
      exact repK_val r
theorem repT_val {Hf : Hp} {k : List Key} : ∀ {vs : List (List Key × V)} {xs : List (List Key × D)}, RepT Hf vs xs → (valV vs k = none ∧ valD xs k = none) ∨ ∃ v x, valV vs k = some v ∧ valD xs k = some x ∧ Rep Hf v x
  | _, _, .nil => .inl ⟨rfl, rfl⟩
  | _, _, @RepT.cons _ k' v x vs xs h r => by
    unfold valV valD
    rw [List.find?_cons, List.find?_cons]
    by_cases e : k' = k
    · rw [decide_eq_true e]
      exact .inr ⟨v, x, rfl, rfl, h⟩
    · rw [decide_eq_false e]
      exact repT_val r
/-- what a dict holds at a key: none, the key is none of its kind -/
def getD (x y : D) : Option (Option D) := match x with
  | .dk kvs => (keyD y).map fun k => valD kvs k
  | .dt kvs => match y with
    | .tup ks => (keysD ks).map fun k => valD kvs k
    | _ => none
  | _ => none
def RepO (Hf : Hp) : Option V → Option D → Prop
  | none, none => True
  | some v, some z => Rep Hf v z
  | _, _ => False
theorem getD_rep {Hf H : Hp} {v1 v2 : V} {x y : D} {o : Option D} (r1 : RepH Hf H v1 x) (r2 : RepH Hf H v2 y) (h : getD x y = some o) : ∃ a ov, v1 = .ref a ∧ IsD H a ∧ DGet H a v2 ov ∧ RepO Hf ov o := by
  cases r1 with
  | @dk a kvs xs h1 rx =>
    obtain ⟨k, hk, rfl⟩ := Option.map_eq_some_iff.mp (show (keyD y).map (fun k => valD xs k) = some o from h)
    rcases repK_val (k := k) rx with ⟨e1, e2⟩ | ⟨v, z, e1, e2, r⟩
    · exact ⟨a, none, rfl, .inl ⟨kvs, h1⟩, .inl ⟨kvs, k, h1, keyD_reph r2 hk, e1.symm⟩, by rw [e2]; trivial⟩
    · exact ⟨a, some v, rfl, .inl ⟨kvs, h1⟩, .inl ⟨kvs, k, h1, keyD_reph r2 hk, e1.symm⟩, by rw [e2]; exact r⟩
  | @dt a kvs xs h1 rx =>
    cases r2 with
    | @tup b ws ys h2 ry =>
      obtain ⟨k, hk, rfl⟩ := Option.map_eq_some_iff.mp (show (keysD ys).map (fun k => valD xs k) = some o from h)
      have ew := keysD_rep ry hk
      subst ew
      rcases repT_val (k := k) rx with ⟨e1, e2⟩ | ⟨v, z, e1, e2, r⟩
      · exact ⟨a, none, rfl, .inr ⟨kvs, h1⟩, .inr ⟨kvs, k, b, h1, rfl, h2, e1.symm⟩, by rw [e2]; trivial⟩
      · exact ⟨a, some v, rfl, .inr ⟨kvs, h1⟩, .inr ⟨kvs, k, b, h1, rfl, h2, e1.symm⟩, by rw [e2]; exact r⟩
    | _ => cases h
  | _ => cases h
/-- x[y] -/
def oIx : Op2 := fun x y P => match x, y with
  | .lst xs, .int i => opt (atI xs i) fun z => P (.d z)
  | .tup xs, .int i => opt (atI xs i) fun z => P (.d z)
  | .fz ns, .int i => opt (atI ns i) fun z => P (.d (.int z))
  | .str z, .int i => z.length ≤ sizeLine ∧ opt (atI z.cps.toList i) fun c => P (.d (.str ⟨#[c]⟩))
  | x, y => opt (getD x y) fun o => opt o fun z => P (.d z)
theorem reps_atI {Hf : Hp} {vs : List V} {xs : List D} {i : Int} {z : D} (r : Reps Hf vs xs) (h : atI xs i = some z) : ∃ v, atI vs i = some v ∧ Rep Hf v z := by
  unfold atI at h ⊢
  rw [r.length]
  cases q : ixN xs.length i with
  | none => rw [q] at h; cases h
  | some j =>
    rw [q] at h
    exact r.get h
theorem ok_ix {K : PySem.W.Frag} : OpOk (rIxX K) oIx := fun L Hf H v1 v2 x y P Q ex r1 r2 h k => by
  have dic : opt (getD x y) (fun o => opt o fun z => P (.d z)) → rIxX K v1 v2 H Q := fun h => by
    obtain ⟨o, e, h⟩ := opt_of h
    obtain ⟨z, e2, h⟩ := opt_of h
    subst e2
    obtain ⟨a, ov, rfl, _, g, m⟩ := getD_rep r1 r2 e
    cases ov with
    | none => exact m.elim
    | some v => exact .inr ⟨a, v, rfl, g, k _ _ _ _ h (.same m)⟩
  cases r1 with
  | @lst a vs xs h1 rx =>
    cases r2 with
    | int i =>
      obtain ⟨z, e, h⟩ := opt_of (show opt (atI xs i) (fun z => P (.d z)) from h)
      obtain ⟨v, e2, r⟩ := reps_atI rx e
      exact .inl (.inl ⟨a, vs, i, v, rfl, rfl, sqL_of h1, e2, k _ _ _ _ h (.same r)⟩)
    | _ => exact dic h
  | @tup a vs xs h1 rx =>
    cases r2 with
    | int i =>
      obtain ⟨z, e, h⟩ := opt_of (show opt (atI xs i) (fun z => P (.d z)) from h)
      obtain ⟨v, e2, r⟩ := reps_atI rx e
      exact .inl (.inr (.inl ⟨a, vs, i, v, rfl, rfl, sqT_of h1, e2, k _ _ _ _ h (.same r)⟩))
    | _ => exact dic h
  | @fz a ns h1 =>
    cases r2 with
    | int i =>
      obtain ⟨z, e, h⟩ := opt_of (show opt (atI ns i) (fun z => P (.d (.int z))) from h)
      have e2 : atI (ns.map V.int) i = some (.int z) := by
        unfold atI at e ⊢
        rw [List.length_map]
        cases q : ixN ns.length i with
        | none => rw [q] at e; cases e
        | some j =>
          rw [q] at e
          show (ns.map V.int)[j]? = _
          have e : ns[j]? = some z := e
          rw [List.getElem?_map, e]
          rfl
      exact .inl (.inl ⟨a, _, i, _, rfl, rfl, .inl h1, e2, k _ _ _ _ h (.same (.int z))⟩)
    | _ => exact dic h
  | str z =>
    cases r2 with
    | int i =>
      obtain ⟨h0, h⟩ := h
      obtain ⟨c, e, h⟩ := opt_of h
      exact .inl (.inr (.inr ⟨z, i, c, rfl, rfl, h0, e, k _ _ _ _ h (.same (.str _))⟩))
    | _ => exact dic h
  | non => exact dic h
  | bl b => exact dic h
  | int i => exact dic h
  | dk h1 rx => exact dic (by cases r2 <;> exact h)
  | dt h1 rx => exact dic (by cases r2 <;> exact h)
  | ins h1 rx => exact dic h
theorem de_ix {a b : Expr} {w1 w2 : WE} {pos : Pos} (hu : X.A.units + 1 < cLine) (ha : DE X W a w1) (hb : DE X W b w2) (hs : PlainIx b := by intro _ _; rfl) : DE X W (.Subscript a b pos) (wBin oIx w1 w2) := ⟨(pe_ix (ix_any hu) ha.pe hb.pe hs).imp fun _ _ _ h => h.bin ok_ix⟩
end DL


/-! DL k: what changes one's own objects. -/
namespace DL
open PySem PySem.Spec PyProof.Rows L2
variable {X : Cx} {W : WX}

def Cell.ty : Cell → String
  | .lst _ => "list"
  | .dk _ => "dict"
  | .dt _ => "dict"
theorem cell_ty {K : PySem.W.Frag} {Hf H : Hp} {a : Addr} {c : Cell} (h : CellAt Hf H a c) : tyV K c.ty (.ref a) H := by
  obtain ⟨u, h1, h2⟩ := h
  cases c with
  | lst xs =>
    obtain ⟨vs, rfl, _⟩ := h2
    exact .inl ⟨rfl, vs, sqL_of h1⟩
  | dk xs =>
    obtain ⟨vs, rfl, _⟩ := h2
    exact .inr (.inr (.inl ⟨rfl, .inl ⟨vs, h1⟩⟩))
  | dt xs =>
    obtain ⟨vs, rfl, _⟩ := h2
    exact .inr (.inr (.inl ⟨rfl, .inr ⟨vs, h1⟩⟩))
/-- a method that changes its object: the object, the arguments; the value and the object behind it -/
abbrev MOp := Cell → List D → (D → Cell → Prop) → Prop
def MutOk (r : V → List V → Hp → VK → Prop) (op : MOp) : Prop := ∀ (L : List Addr) (Hf H : Hp) (a : Addr) (c : Cell) (vs : List V) (xs : List D) (P : D → Cell → Prop) (Q : VK), Exl L Hf H → CellAt Hf H a c → Hf a = none → Reps Hf vs xs → op c xs P →
  (∀ z v c' u, P z c' → Rep Hf v z → CellO Hf u c' → Q v (upd H a u)) → r (.ref a) vs H Q
def wMut (T : String) (j : Nat) (op : MOp) (wa : WA) : WE := fun st P E => opt (cellOf st j) fun c0 => c0.ty = T ∧ wa st (fun rs st1 => opt (dAll rs) fun xs => opt (cellOf st1 j) fun c => op c xs fun z c' => P (.d z) (setC st1 j c')) E
theorem LE.mut {T : String} {K : PySem.W.Frag} {r : V → List V → Hp → VK → Prop} {op : MOp} {j : Nat} {wa : WA} {σ : L2.St} {H : Hp} {Q : VK} (ok : MutOk r op) (h : LE W (wMut T j op wa) σ H Q) : tBM K T r (tVar j) (LA W wa) σ H Q := by
  obtain ⟨Γ, L, Hf, ad, st, P, E, s, hw, hP, hE⟩ := h
  obtain ⟨c0, e0, ht, hw⟩ := opt_of hw
  obtain ⟨q1, q2, q3, q4⟩ := s.cellAt e0
  refine ⟨_, q3, ?_, ?_⟩
  · rw [← ht]
    exact cell_ty q1
  · refine ⟨Γ, L, Hf, ad, st, _, E, s, hw, fun rs st1 h1 vs Hf1 H1 n1 s1 k1 => ?_, hE⟩
    obtain ⟨xs, e1, h1⟩ := opt_of h1
    obtain ⟨c, e2, h1⟩ := opt_of h1
    obtain ⟨p1, p2, p3, p4⟩ := s1.cellAt e2
    refine ok L Hf1 H1 (ad j) c vs xs _ _ s1.exf p1 p2 (dAll_reps k1 e1) h1 fun z v c' u hp hv hu => ?_
    obtain ⟨s2, n2⟩ := s1.setCell e2 hu
    exact hP _ _ hp v _ _ (n1.trans n2) s2 hv
theorem LE.mut0 {T : String} {K : PySem.W.Frag} {r : V → List V → Hp → VK → Prop} {op : MOp} {j : Nat} {σ : L2.St} {H : Hp} {Q : VK} (ok : MutOk r op) (h : LE W (wMut T j op wNil) σ H Q) : tBM0 K T r (tVar j) σ H Q := by
  obtain ⟨Γ, L, Hf, ad, st, P, E, s, hw, hP, hE⟩ := h
  obtain ⟨c0, e0, ht, hw⟩ := opt_of hw
  obtain ⟨q1, q2, q3, q4⟩ := s.cellAt e0
  refine ⟨_, q3, ?_, ?_⟩
  · rw [← ht]
    exact cell_ty q1
  · obtain ⟨xs, e1, h1⟩ := opt_of (show opt (dAll []) (fun xs => opt (cellOf st j) fun c => op c xs fun z c' => P (.d z) (setC st j c')) from hw)
    cases e1
    obtain ⟨c, e2, h1⟩ := opt_of h1
    obtain ⟨p1, p2, p3, p4⟩ := s.cellAt e2
    refine ok L Hf H (ad j) c [] [] _ _ s.exf p1 p2 .nil h1 fun z v c' u hp hv hu => ?_
    obtain ⟨s2, n2⟩ := s.setCell e2 hu
    exact hP _ _ hp v _ _ n2 s2 hv
section
variable {e : Expr} {es : List Expr} {wa : WA} {x name : Str} {T id : String} {op : MOp} {r : V → List V → Hp → VK → Prop} {pos npos apos : Pos}
theorem de_mut (j : Nat) (pa : PlainAttrs T) (slot : PySem.Slot T name id) (hty : typeOf (.builtin id) = pure (.type "method_descriptor")) (hm : MtR X id r) (ok : MutOk r op) (ha : DA X W (e :: es) wa) (hN : X.N[j]? = some x := by rfl)
    (hv : Vis X.env.scope x := by first | exact Or.inl rfl | exact Or.inr (Or.inl rfl) | exact Or.inr (Or.inr rfl)) (hd : (x == ("__debug__" : Str)) = false := by decide) (hcd : (x == ("__classdict__" : Str)) = false := by decide)
    (hbase : attributeBase (.Name x npos) name X.env (eval (.Name x npos) X.env) = eval (.Name x npos) X.env := by rfl)
    (hfew : ((backTo pos (starEach (e :: es) X.env)).all (fun x => !x.1) && (backToKw pos (keywordEach [] X.env)).all (fun x => x.1.isSome) && decide ((e :: es).length + ([] : List Keyword).length + (if ([] : List Keyword).isEmpty then 0 else 1) < 30)) = true := by rfl)
    (hline : (apos.endLine == pos.line) = true := by rfl) (hst : starEach (e :: es) X.env = (false, eval e X.env) :: starEach es X.env := by rfl) (hplain : (backTo pos (starEach es X.env)).any (·.1) = false := by rfl) : DE X W (.Call (.Attribute (.Name x npos) name apos) (e :: es) [] pos) (wMut T j op wa) :=
  have hw : PE X (.Call (.Attribute (.Name x npos) name apos) (e :: es) [] pos) (tBM X.K T r (tVar j) (LA W wa)) := pe_bm pa slot hty hm (pe_var hN hv hd hcd) ha.pa hbase hfew hline hst hplain
  ⟨hw.imp fun _ _ _ h => h.mut ok⟩
end
/-! ### lists -/
def mAppend : MOp := fun c xs P => match c, xs with
  | .lst ys, [x] => ys.length < sizeLine ∧ P .non (.lst (ys ++ [x]))
  | _, _ => False
theorem ok_append : MutOk rAppend mAppend := fun L Hf H a c vs xs P Q ex hc hf r h k => by
  obtain ⟨u, h1, h2⟩ := hc
  cases c with
  | lst ys =>
    obtain ⟨ws, rfl, ry⟩ := h2
    match xs, r, h with
    | [x], r, h =>
      obtain ⟨v, rfl, rv⟩ := r.one
      exact ⟨a, ws, v, rfl, rfl, h1, by rw [ry.length]; exact h.1, k _ _ _ _ h.2 .non ⟨_, rfl, ry.append (.cons rv .nil)⟩⟩
    | [], _, h => exact h.elim
    | _ :: _ :: _, _, h => exact h.elim
  | dk ys => exact h.elim
  | dt ys => exact h.elim
def mPop : MOp := fun c xs P => match c, xs with
  | .lst ys, [] => opt ys[ys.length - 1]? fun y => P y (.lst ys.dropLast)
  | _, _ => False
theorem ok_pop : MutOk rPop mPop := fun L Hf H a c vs xs P Q ex hc hf r h k => by
  obtain ⟨u, h1, h2⟩ := hc
  cases c with
  | lst ys =>
    obtain ⟨ws, rfl, ry⟩ := h2
    match xs, r, h with
    | [], r, h =>
      cases r
      obtain ⟨y, e, h⟩ := opt_of h
      obtain ⟨v, e2, rv⟩ := ry.get e
      exact ⟨a, ws, v, rfl, rfl, h1, by rw [ry.length]; exact e2, k _ _ _ _ h rv ⟨_, rfl, ry.dropLast⟩⟩
    | _ :: _, _, h => exact h.elim
  | dk ys => exact h.elim
  | dt ys => exact h.elim
def mPopAt : MOp := fun c xs P => match c, xs with
  | .lst ys, [.int i] => 0 ≤ i ∧ i < 1000000000 ∧ opt ys[i.toNat]? fun y => P y (.lst (ys.eraseIdx i.toNat))
  | _, _ => False
theorem seqIx {i : Int} {n : Nat} (h0 : 0 ≤ i) (h : i < n) : seqIndex? i n = some i.toNat := by
  have q : ixN n i = some i.toNat := by
    unfold ixN
    rw [if_pos h0, if_pos h]
  exact (ixN_seq q).1
theorem ok_popAt : MutOk rPopAt mPopAt := fun L Hf H a c vs xs P Q ex hc hf r h k => by
  obtain ⟨u, h1, h2⟩ := hc
  cases c with
  | lst ys =>
    obtain ⟨ws, rfl, ry⟩ := h2
    match xs, r, h with
    | [.int i], r, h =>
      obtain ⟨v, rfl, rv⟩ := r.one
      cases rv
      obtain ⟨h3, h4, h⟩ := h
      obtain ⟨y, e, h⟩ := opt_of h
      obtain ⟨v, e2, rv⟩ := ry.get e
      have hl : i < ws.length := by
        have := (List.getElem?_eq_some_iff.mp e2).1
        omega
      exact ⟨a, ws, i, i.toNat, v, rfl, rfl, h1, by omega, by omega, seqIx h3 hl, e2, k _ _ _ _ h rv ⟨_, rfl, ry.eraseIdx _⟩⟩
    | [], _, h => exact h.elim
    | x :: _ :: _, _, h => cases x <;> exact h.elim
    | [.non], _, h => exact h.elim
    | [.bl _], _, h => exact h.elim
    | [.str _], _, h => exact h.elim
    | [.lst _], _, h => exact h.elim
    | [.tup _], _, h => exact h.elim
    | [.dk _], _, h => exact h.elim
    | [.dt _], _, h => exact h.elim
    | [.ins _ _], _, h => exact h.elim
    | [.fz _], _, h => exact h.elim
  | dk ys => exact h.elim
  | dt ys => exact h.elim

/-! ### a store by place or key -/
def stK : Cell → D → D → (Cell → Prop) → Prop := fun c y x P => match c with
  | .lst xs => match y with
    | .int k => opt (ixN xs.length k) fun m => P (.lst (xs.set m x))
    | _ => False
  | .dk kvs => opt (keyD y) fun k => kvs.length < sizeLine ∧ P (.dk (putD kvs k x))
  | .dt kvs => match y with
    | .tup ks => opt (keysD ks) fun k => kvs.length < sizeLine ∧ P (.dt (putD kvs k x))
    | _ => False
theorem RepK.put {Hf : Hp} {k : Key} {v : V} {x : D} (r : Rep Hf v x) {vs : List (Key × V)} {xs : List (Key × D)} (h : RepK Hf vs xs) : RepK Hf (putK vs k v) (putD xs k x) := by
  have a : ∀ {vs : List (Key × V)} {xs : List (Key × D)}, RepK Hf vs xs → (vs.any fun kv => decide (kv.1 = k)) = (xs.any fun kv => decide (kv.1 = k)) := by
    intro vs xs h
    induction vs generalizing xs with
    | nil => cases h; rfl
    | cons p vs ih =>
      cases h with
      | cons h1 h2 =>
        rw [List.any_cons, List.any_cons, ih h2]
  have m : ∀ {vs : List (Key × V)} {xs : List (Key × D)}, RepK Hf vs xs → RepK Hf (vs.map fun kv => if kv.1 = k then (kv.1, v) else kv) (xs.map fun kv => if kv.1 = k then (kv.1, x) else kv) := by
    intro vs xs h
    induction vs generalizing xs with
    | nil => cases h; exact .nil
    | cons p vs ih =>
      cases h with
      | @cons k' v' x' _ _ h1 h2 =>
        rw [List.map_cons, List.map_cons]
        by_cases e : k' = k
        · rw [if_pos e, if_pos e]
          exact .cons r (ih h2)
        · rw [if_neg e, if_neg e]
          exact .cons h1 (ih h2)
  have ap : ∀ {vs : List (Key × V)} {xs : List (Key × D)}, RepK Hf vs xs → RepK Hf (vs ++ [(k, v)]) (xs ++ [(k, x)]) := by
    intro vs xs h
    induction vs generalizing xs with
    | nil => cases h; exact .cons r .nil
    | cons p vs ih =>
      cases h with
      | cons h1 h2 => exact .cons h1 (ih h2)
  unfold putK putD
  rw [a h]
  split
  · exact m h
  · exact ap h
theorem RepT.put {Hf : Hp} {k : List Key} {v : V} {x : D} (r : Rep Hf v x) {vs : List (List Key × V)} {xs : List (List Key × D)} (h : RepT Hf vs xs) : RepT Hf (putK vs k v) (putD xs k x) := by
  have a : ∀ {vs : List (List Key × V)} {xs : List (List Key × D)}, RepT Hf vs xs → (vs.any fun kv => decide (kv.1 = k)) = (xs.any fun kv => decide (kv.1 = k)) := by
    intro vs xs h
    induction vs generalizing xs with
    | nil => cases h; rfl
    | cons p vs ih =>
      cases h with
      | cons h1 h2 =>
        rw [List.any_cons, List.any_cons, ih h2]
  have m : ∀ {vs : List (List Key × V)} {xs : List (List Key × D)}, RepT Hf vs xs → RepT Hf (vs.map fun kv => if kv.1 = k then (kv.1, v) else kv) (xs.map fun kv => if kv.1 = k then (kv.1, x) else kv) := by
    intro vs xs h
    induction vs generalizing xs with
    | nil => cases h; exact .nil
    | cons p vs ih =>
      cases h with
      | @cons k' v' x' _ _ h1 h2 =>
        rw [List.map_cons, List.map_cons]
        by_cases e : k' = k
        · rw [if_pos e, if_pos e]
          exact .cons r (ih h2)
        · rw [if_neg e, if_neg e]
          exact .cons h1 (ih h2)
  have ap : ∀ {vs : List (List Key × V)} {xs : List (List Key × D)}, RepT Hf vs xs → RepT Hf (vs ++ [(k, v)]) (xs ++ [(k, x)]) := by
    intro vs xs h
    induction vs generalizing xs with
    | nil => cases h; exact .cons r .nil
    | cons p vs ih =>
      cases h with
      | cons h1 h2 => exact .cons h1 (ih h2)
  unfold putK putD
  rw [a h]
  split
  · exact m h
  · exact ap h
theorem RepK.len {Hf : Hp} : ∀ {vs : List (Key × V)} {xs : List (Key × D)}, RepK Hf vs xs → vs.length = xs.length
  | _, _, .nil => rfl
  | _, _, .cons _ r => congrArg (· + 1) r.len
theorem RepT.len {Hf : Hp} : ∀ {vs : List (List Key × V)} {xs : List (List Key × D)}, RepT Hf vs xs → vs.length = xs.length
  | _, _, .nil => rfl
  | _, _, .cons _ r => congrArg (· + 1) r.len
def wSt (j : Nat) (wi we : WE) : WS := fun N st => opt (cellOf st j) fun c0 => we st (fun r st1 => match r with
  | .d x => wi st1 (fun ri st2 => match ri with
    | .d y => opt (cellOf st2 j) fun c => c.ty = c0.ty ∧ stK c y x fun c' => N.nx (setC st2 j c')
    | _ => False) N.ex
  | _ => False) N.ex
theorem LS.stL {j : Nat} {wi we : WE} {De : Ends} {σ : L2.St} {H : Hp} (h : LS W (wSt j wi we) De σ H) : tAsg (LE W we) (gSub (tVar j) (LE W wi) rSetL) De σ H ∨ sDPut (tVar j) (LE W wi) (LE W we) De σ H := by
  obtain ⟨Γ, L, Hf, ad, st, N, s, hw, cn⟩ := h
  obtain ⟨c0, e0, hw⟩ := opt_of hw
  cases c0 with
  | lst zs =>
    refine .inl ⟨Γ, L, Hf, ad, st, _, _, s, hw, fun r st1 h1 v Hf1 H1 n1 s1 k1 => ?_, cn.xok⟩
    cases r with
    | b x => exact h1.elim
    | sl x => exact h1.elim
    | n x => exact h1.elim
    | d x =>
      have q3 := (s.cellAt e0).2.2.1
      refine ⟨_, q3, Γ, L, Hf1, ad, st1, _, _, s1, h1, fun ri st2 h2 y Hf2 H2 n2 s2 k2 => ?_, cn.xok⟩
      cases ri with
      | b x => exact h2.elim
      | sl x => exact h2.elim
      | n x => exact h2.elim
      | d y' =>
        obtain ⟨c, e2, ht, h2⟩ := opt_of h2
        obtain ⟨⟨u, p1, p1'⟩, p2, p3, p4⟩ := s2.cellAt e2
        cases c with
        | lst xs =>
          obtain ⟨vs, rfl, rx⟩ := p1'
          cases k2 with
          | int k =>
            obtain ⟨m, em, h2⟩ := opt_of (show opt (ixN xs.length k) (fun m => N.nx (setC st2 j (.lst (xs.set m x)))) from h2)
            refine ⟨ad j, vs, k, m, rfl, rfl, p1, by rw [rx.length]; exact em, ?_⟩
            obtain ⟨s3, n3⟩ := s2.setCell (c' := .lst (xs.set m x)) e2 ⟨_, rfl, rx.set (Rep.mono n2.ex k1) m⟩
            exact cn.nx _ h2 _ _ _ _ s3
          | _ => exact h2.elim
        | dk xs => exact absurd ht (by show ¬ ("dict" = "list"); decide)
        | dt xs => exact absurd ht (by show ¬ ("dict" = "list"); decide)
  | dk zs =>
    refine .inr ⟨Γ, L, Hf, ad, st, _, _, s, hw, fun r st1 h1 v Hf1 H1 n1 s1 k1 => ?_, cn.xok⟩
    cases r with
    | b x => exact h1.elim
    | sl x => exact h1.elim
    | n x => exact h1.elim
    | d x =>
      have q3 := (s.cellAt e0).2.2.1
      refine ⟨_, q3, Γ, L, Hf1, ad, st1, _, _, s1, h1, fun ri st2 h2 y Hf2 H2 n2 s2 k2 => ?_, cn.xok⟩
      cases ri with
      | b x => exact h2.elim
      | sl x => exact h2.elim
      | n x => exact h2.elim
      | d y' =>
        obtain ⟨c, e2, ht, h2⟩ := opt_of h2
        obtain ⟨⟨u, p1, p1'⟩, p2, p3, p4⟩ := s2.cellAt e2
        have k2 : Rep Hf2 y y' := k2
        cases c with
        | lst xs => exact absurd ht (by show ¬ ("list" = "dict"); decide)
        | dk xs =>
          obtain ⟨vs, rfl, rx⟩ := p1'
          obtain ⟨k, ek, hz, h2⟩ := opt_of (show opt (keyD y') (fun k => xs.length < sizeLine ∧ N.nx (setC st2 j (.dk (putD xs k x)))) from h2)
          obtain ⟨s3, n3⟩ := s2.setCell (c' := .dk (putD xs k x)) e2 ⟨_, rfl, rx.put (Rep.mono n2.ex k1)⟩
          exact ⟨ad j, _, rfl, .inl ⟨vs, k, p1, keyD_rep k2 ek, by rw [rx.len]; exact hz, rfl⟩, cn.nx _ h2 _ _ _ _ s3⟩
        | dt xs =>
          obtain ⟨vs, rfl, rx⟩ := p1'
          cases k2 with
          | @tup b ws ks hb hr =>
            obtain ⟨k, ek, hz, h2⟩ := opt_of (show opt (keysD ks) (fun k => xs.length < sizeLine ∧ N.nx (setC st2 j (.dt (putD xs k x)))) from h2)
            have ew := keysD_rep hr ek
            subst ew
            obtain ⟨s3, n3⟩ := s2.setCell (c' := .dt (putD xs k x)) e2 ⟨_, rfl, rx.put (Rep.mono n2.ex k1)⟩
            exact ⟨ad j, _, rfl, .inr ⟨vs, k, b, p1, rfl, exl_at s2.exf hb (by rintro (⟨_, q⟩ | ⟨_, q⟩) <;> cases q), by rw [rx.len]; exact hz, rfl⟩, cn.nx _ h2 _ _ _ _ s3⟩
          | _ => exact h2.elim
  | dt zs =>
    refine .inr ⟨Γ, L, Hf, ad, st, _, _, s, hw, fun r st1 h1 v Hf1 H1 n1 s1 k1 => ?_, cn.xok⟩
    cases r with
    | b x => exact h1.elim
    | sl x => exact h1.elim
    | n x => exact h1.elim
    | d x =>
      have q3 := (s.cellAt e0).2.2.1
      refine ⟨_, q3, Γ, L, Hf1, ad, st1, _, _, s1, h1, fun ri st2 h2 y Hf2 H2 n2 s2 k2 => ?_, cn.xok⟩
      cases ri with
      | b x => exact h2.elim
      | sl x => exact h2.elim
      | n x => exact h2.elim
      | d y' =>
        obtain ⟨c, e2, ht, h2⟩ := opt_of h2
        obtain ⟨⟨u, p1, p1'⟩, p2, p3, p4⟩ := s2.cellAt e2
        have k2 : Rep Hf2 y y' := k2
        cases c with
        | lst xs => exact absurd ht (by show ¬ ("list" = "dict"); decide)
        | dk xs =>
          obtain ⟨vs, rfl, rx⟩ := p1'
          obtain ⟨k, ek, hz, h2⟩ := opt_of (show opt (keyD y') (fun k => xs.length < sizeLine ∧ N.nx (setC st2 j (.dk (putD xs k x)))) from h2)
          obtain ⟨s3, n3⟩ := s2.setCell (c' := .dk (putD xs k x)) e2 ⟨_, rfl, rx.put (Rep.mono n2.ex k1)⟩
          exact ⟨ad j, _, rfl, .inl ⟨vs, k, p1, keyD_rep k2 ek, by rw [rx.len]; exact hz, rfl⟩, cn.nx _ h2 _ _ _ _ s3⟩
        | dt xs =>
          obtain ⟨vs, rfl, rx⟩ := p1'
          cases k2 with
          | @tup b ws ks hb hr =>
            obtain ⟨k, ek, hz, h2⟩ := opt_of (show opt (keysD ks) (fun k => xs.length < sizeLine ∧ N.nx (setC st2 j (.dt (putD xs k x)))) from h2)
            have ew := keysD_rep hr ek
            subst ew
            obtain ⟨s3, n3⟩ := s2.setCell (c' := .dt (putD xs k x)) e2 ⟨_, rfl, rx.put (Rep.mono n2.ex k1)⟩
            exact ⟨ad j, _, rfl, .inr ⟨vs, k, b, p1, rfl, exl_at s2.exf hb (by rintro (⟨_, q⟩ | ⟨_, q⟩) <;> cases q), by rw [rx.len]; exact hz, rfl⟩, cn.nx _ h2 _ _ _ _ s3⟩
          | _ => exact h2.elim
theorem _root_.L2.PS.or {X : Cx} {s : Stmt} {t t' : TS} (h : PS X s t) (h' : PS X s t') : PS X s (fun D σ H => t D σ H ∨ t' D σ H) := ⟨fun pins s σ H D I q => q.elim (h.run pins s σ H D I) (h'.run pins s σ H D I)⟩
theorem ds_st (j : Nat) {x : Str} {i e : Expr} {wi we : WE} {pos pos' npos : Pos} (hu : X.A.units + 1 < cLine) (hi : DE X W i wi) (he : DE X W e we) (hN : X.N[j]? = some x := by rfl)
    (hv : Vis X.env.scope x := by first | exact Or.inl rfl | exact Or.inr (Or.inl rfl) | exact Or.inr (Or.inr rfl)) (hd : (x == ("__debug__" : Str)) = false := by decide) (hcd : (x == ("__classdict__" : Str)) = false := by decide)
    (hs : swapsWithSole [.Subscript (.Name x npos) i pos'] e pos.line X.env = pure false := by rfl) (hw : swappedStores [.Subscript (.Name x npos) i pos'] e X.env = pure none := by rfl)
    (hh : (assignEach [.Subscript (.Name x npos) i pos'] X.env).map (·.2) = [assign (.Subscript (.Name x npos) i pos') X.env] := by rfl)
    (hs2 : swapsWith e (some (.Subscript (.Name x npos) i pos')) pos.line X.env = pure false := by rfl)
    (hp : PG X (.Subscript (.Name x npos) i pos') (gSub (tVar j) (LE W wi) rSetL)) : DS X W (.Assign [.Subscript (.Name x npos) i pos'] e pos) (wSt j wi we) :=
  have h1 := ps_asg he.pe hp hs hw hh
  have h2 := ps_dput hu (pe_var hN hv hd hcd) hi.pe he.pe hs2
  ⟨(h1.or h2).imp fun _ _ _ h => h.stL⟩
end DL


/-! DL l: built-in functions, membership. -/
namespace DL
open PySem PySem.Spec PyProof.Rows L2
variable {X : Cx} {W : WX}

/-! ### in -/
/-- data in a list or tuple -/
def rMem (neg : Bool) : R2 := fun x y H Q => ∃ (L : List Addr) (Hf : Hp) (dx dy : D) (ys : List D) (b : Bool), Exl L Hf H ∧ RepH Hf H x dx ∧ RepH Hf H y dy ∧ itemsD dy = some ys ∧ inL 40 dx ys = some b ∧ Q (.bl (if neg then !b else b)) H
theorem relV_vals {vs : List V} {its : List Value} (r : Vals vs its) {j : Nat} {u : Value} (h : its[j]? = some u) : ∃ v, vs[j]? = some v ∧ RelV v u := by
  have l : j < vs.length := by
    rw [r.length]
    exact (List.getElem?_eq_some_iff.mp h).1
  obtain ⟨w, h1, h2⟩ := r.get (List.getElem?_eq_getElem l)
  rw [h] at h1
  cases h1
  exact ⟨_, List.getElem?_eq_getElem l, h2⟩
open Classical in
theorem mem_fun {pins : List (Addr × Obj)} {σ : L2.St} {H Hf : Hp} {s : Shared} {L : List Addr} {A : Around} (I : Inv X pins σ H s) (ex : Exl L Hf H) (hu : A.units + 41 < cLine) {vs : List V} {ys : List D} {its : List Value} {x : D} {xv : V} {xu : Value} (rx : RepH Hf H xv x) (qx : RelV xv xu) (ry : Reps Hf vs ys) (hv : Vals vs its)
    {b : Bool} (h : inL 40 x ys = some b) : ∃ e : Value → Bool, (∀ y, y ∈ its.toArray → SeqAt.EqAt A s y xu (e y)) ∧ its.toArray.any e = b := by
  obtain ⟨f, hf, hb⟩ := inL_mem h
  let e : Value → Bool := fun u => if ∃ j : Nat, its[j]? = some u ∧ f j = true then true else false
  have det : ∀ (i j : Nat) (u : Value), its[i]? = some u → its[j]? = some u → f i = f j := fun i j u hi hj => by
    obtain ⟨v, h1, r1⟩ := relV_vals hv hi
    obtain ⟨v', h2, r2⟩ := relV_vals hv hj
    have ev := r1.inj r2
    subst ev
    obtain ⟨y, h3, q1⟩ := ry.getV h1
    obtain ⟨y', h4, q2⟩ := ry.getV h2
    have ey := q1.inj q2
    subst ey
    have a1 := hf i y h3
    rw [hf j y h4] at a1
    exact (Option.some.inj a1).symm
  have ej : ∀ (j : Nat) (u : Value), its[j]? = some u → e u = f j := fun j u hj => by
    show (if ∃ j : Nat, its[j]? = some u ∧ f j = true then true else false) = f j
    by_cases q : f j = true
    · rw [if_pos ⟨j, hj, q⟩, q]
    · rw [if_neg (fun ⟨i, h1, h2⟩ => q (by rw [det j i u hj h1]; exact h2))]
      cases z : f j with
      | true => exact absurd z q
      | false => rfl
  refine ⟨e, fun y hy => ?_, ?_⟩
  · obtain ⟨j, hj, ey⟩ := List.getElem_of_mem (show y ∈ its by simpa using hy)
    have e1 : its[j]? = some y := by rw [List.getElem?_eq_getElem hj, ey]
    obtain ⟨v, h1, r1⟩ := relV_vals hv e1
    obtain ⟨z, h3, q1⟩ := ry.getV h1
    rw [ej j y e1]
    exact deq_ok I ex 40 A z x v xv y xu (f j) (by omega) (q1.reph ex) rx r1 qx (hf j z h3)
  · rw [← hb]
    have hl : its.length = ys.length := by rw [← hv.length, ry.length]
    rw [← hl]
    have key : ∀ (l : List Value) (g : Nat → Bool), (∀ (j : Nat) (u : Value), l[j]? = some u → e u = g j) → l.any e = (List.range l.length).any g := by
      intro l
      induction l with
      | nil => intro g _; rfl
      | cons u l ih =>
        intro g hg
        rw [List.any_cons, List.length_cons, List.range_succ_eq_map, List.any_cons, List.any_map, hg 0 u rfl, ih (fun j => g (j + 1)) fun j u' h' => hg (j + 1) u' (by simpa using h')]
        rfl
    have := key its f ej
    simpa using this
theorem mem_list {pins : List (Addr × Obj)} {σ : L2.St} {H Hf : Hp} {s : Shared} {v : V} {u : Value} {d : D} {ys : List D} (I : Inv X pins σ H s) (r : RepH Hf H v d) (q : RelV v u) (h : itemsD d = some ys) : (∃ a vs its, u = .ref a ∧ Reps Hf vs ys ∧ Vals vs its ∧ s.heap.IsList a its.toArray) ∨ ∃ a vs its, u = .ref a ∧ Reps Hf vs ys ∧ Vals vs its ∧ s.heap.IsTuple a its.toArray := by
  cases r with
  | @lst a vs xs h1 rx =>
    cases q
    cases h
    obtain ⟨its, h2, h3⟩ := Inv.isList I h1
    exact .inl ⟨a, vs, its, rfl, rx, h2, h3⟩
  | @tup a vs xs h1 rx =>
    cases q
    cases h
    obtain ⟨its, h2, h3⟩ := Inv.isTuple I h1
    exact .inr ⟨a, vs, its, rfl, rx, h2, h3⟩
  | @fz a ns h1 =>
    cases q
    cases h
    obtain ⟨its, h2, h3, _⟩ := I.list (.inl h1)
    exact .inl ⟨a, _, its, rfl, reps_ints ns, h2, h3.isList⟩
  | _ => cases h
theorem op_mem (hu : X.A.units + 64 < cLine) : OpR X (compareOp .In) (rMem false) := by
  intro pins s σ H x y v u Q I rx ry h
  obtain ⟨L, Hf, dx, dy, ys, b, ex, r1, r2, e, hb, q⟩ := h
  have hu1 : X.A.in1.units + 41 < cLine := by show X.A.units + 1 + 41 < cLine; omega
  rcases mem_list I r2 ry e with ⟨a, vs, its, rfl, q1, q2, q3⟩ | ⟨a, vs, its, rfl, q1, q2, q3⟩
  · obtain ⟨f, f1, f2⟩ := mem_fun I ex hu1 r1 rx q1 q2 hb
    exact SeqAt.in_listAt f q3 f1 ⟨.bl b, H, I, by rw [f2]; rfl, q⟩
  · obtain ⟨f, f1, f2⟩ := mem_fun I ex hu1 r1 rx q1 q2 hb
    exact SeqAt.in_tupleAt f q3 f1 ⟨.bl b, H, I, by rw [f2]; rfl, q⟩
theorem op_nmem (hu : X.A.units + 64 < cLine) : OpR X (compareOp .NotIn) (rMem true) := by
  intro pins s σ H x y v u Q I rx ry h
  obtain ⟨L, Hf, dx, dy, ys, b, ex, r1, r2, e, hb, q⟩ := h
  have hu1 : X.A.in1.units + 41 < cLine := by show X.A.units + 1 + 41 < cLine; omega
  rcases mem_list I r2 ry e with ⟨a, vs, its, rfl, q1, q2, q3⟩ | ⟨a, vs, its, rfl, q1, q2, q3⟩
  · obtain ⟨f, f1, f2⟩ := mem_fun I ex hu1 r1 rx q1 q2 hb
    exact SeqAt.notIn_listAt f q3 f1 ⟨.bl !b, H, I, by rw [f2]; rfl, q⟩
  · obtain ⟨f, f1, f2⟩ := mem_fun I ex hu1 r1 rx q1 q2 hb
    exact SeqAt.notIn_tupleAt f q3 f1 ⟨.bl !b, H, I, by rw [f2]; rfl, q⟩
/-- in a dict -/
theorem op_indict (hu : X.A.units + 1 < cLine) : OpR X (compareOp .In) (fun x y H Q => ∃ a o, y = .ref a ∧ DGet H a x o ∧ Q (.bl o.isSome) H) := by
  intro pins s σ H x y v u Q I rx ry h
  obtain ⟨a, o, rfl, g, q⟩ := h
  cases ry
  exact L2.d_in hu I g rx fun s' I' => ⟨.bl o.isSome, H, I', rfl, q⟩
theorem op_nindict (hu : X.A.units + 1 < cLine) : OpR X (compareOp .NotIn) (fun x y H Q => ∃ a o, y = .ref a ∧ DGet H a x o ∧ Q (.bl !o.isSome) H) := by
  intro pins s σ H x y v u Q I rx ry h
  obtain ⟨a, o, rfl, g, q⟩ := h
  cases ry
  exact L2.d_notIn hu I g rx fun s' I' => ⟨.bl !o.isSome, H, I', rfl, q⟩
def rInX : R2 := fun x y H Q => rMem false x y H Q ∨ (∃ a o, y = .ref a ∧ DGet H a x o ∧ Q (.bl o.isSome) H) ∨ ∃ (c : Nat) (z : Str), x = .str ⟨#[c]⟩ ∧ y = .str z ∧ Q (.bl (decide (c ∈ z.cps.toList))) H
def rNinX : R2 := fun x y H Q => rMem true x y H Q ∨ (∃ a o, y = .ref a ∧ DGet H a x o ∧ Q (.bl !o.isSome) H) ∨ ∃ (c : Nat) (z : Str), x = .str ⟨#[c]⟩ ∧ y = .str z ∧ Q (.bl (!decide (c ∈ z.cps.toList))) H
theorem op_inX (hu : X.A.units + 64 < cLine) : OpR X (compareOp .In) rInX := OpR.or (op_mem hu) (OpR.or (op_indict (by omega)) op_in_sign)
theorem op_ninX (hu : X.A.units + 64 < cLine) : OpR X (compareOp .NotIn) rNinX := OpR.or (op_nmem hu) (OpR.or (op_nindict (by omega)) op_notIn_sign)
/-- whether x is in y; none: not told -/
def isIn (x y : D) : Option Bool := match y with
  | .lst ys => inL 40 x ys
  | .tup ys => inL 40 x ys
  | .fz ns => inL 40 x (ns.map D.int)
  | .str z => match x with
    | .str c => if c.cps.size = 1 then some (decide (c.cps.getD 0 0 ∈ z.cps.toList)) else none
    | _ => none
  | y => (getD y x).map Option.isSome
def oIn : Op2 := fun x y P => opt (isIn x y) fun b => P (.d (.bl b))
def oNin : Op2 := fun x y P => opt (isIn x y) fun b => P (.d (.bl !b))
theorem repO_some {Hf : Hp} {ov : Option V} {o : Option D} (h : RepO Hf ov o) : ov.isSome = o.isSome := by
  cases ov <;> cases o <;> first | rfl | exact h.elim
theorem one_sign {c : Str} (h : c.cps.size = 1) : c = ⟨#[c.cps.getD 0 0]⟩ := by
  obtain ⟨l⟩ := c
  obtain ⟨l⟩ := l
  match l, h with
  | [x], _ => rfl
theorem isIn_ok {L : List Addr} {Hf H : Hp} {v1 v2 : V} {x y : D} {b : Bool} (ex : Exl L Hf H) (r1 : RepH Hf H v1 x) (r2 : RepH Hf H v2 y) (h : isIn x y = some b) : (∃ ys, itemsD y = some ys ∧ inL 40 x ys = some b) ∨ (∃ a o, v2 = .ref a ∧ DGet H a v1 o ∧ o.isSome = b) ∨ ∃ (c : Nat) (z : Str), v1 = .str ⟨#[c]⟩ ∧ v2 = .str z ∧ decide (c ∈ z.cps.toList) = b := by
  have dic : (getD y x).map Option.isSome = some b → ∃ a o, v2 = .ref a ∧ DGet H a v1 o ∧ o.isSome = b := fun h => by
    obtain ⟨o, e, rfl⟩ := Option.map_eq_some_iff.mp h
    obtain ⟨a, ov, rfl, _, g, m⟩ := getD_rep r2 r1 e
    exact ⟨a, ov, rfl, g, repO_some m⟩
  cases r2 with
  | lst h1 rx => exact .inl ⟨_, rfl, h⟩
  | tup h1 rx => exact .inl ⟨_, rfl, h⟩
  | fz h1 => exact .inl ⟨_, rfl, h⟩
  | str z =>
    cases r1 with
    | str c =>
      have h : (if c.cps.size = 1 then some (decide (c.cps.getD 0 0 ∈ z.cps.toList)) else none) = some b := h
      by_cases e : c.cps.size = 1
      · rw [if_pos e] at h
        exact .inr (.inr ⟨_, z, by rw [← one_sign e], rfl, Option.some.inj h⟩)
      · rw [if_neg e] at h
        cases h
    | _ => cases h
  | dk h1 rx => exact .inr (.inl (dic h))
  | dt h1 rx => exact .inr (.inl (dic h))
  | non => cases h
  | bl _ => cases h
  | int _ => cases h
  | ins _ _ => cases h
theorem ok_in : OpOk rInX oIn := fun L Hf H v1 v2 x y P Q ex r1 r2 h k => by
  obtain ⟨b, e, h⟩ := opt_of h
  have q := k _ _ _ _ h (.same (.bl b))
  rcases isIn_ok ex r1 r2 e with ⟨ys, h1, h2⟩ | ⟨a, o, rfl, g, h2⟩ | ⟨c, z, rfl, rfl, h2⟩
  · exact .inl ⟨L, Hf, x, y, ys, b, ex, r1, r2, h1, h2, q⟩
  · exact .inr (.inl ⟨a, o, rfl, g, by rw [h2]; exact q⟩)
  · exact .inr (.inr ⟨c, z, rfl, rfl, by rw [h2]; exact q⟩)
theorem ok_nin : OpOk rNinX oNin := fun L Hf H v1 v2 x y P Q ex r1 r2 h k => by
  obtain ⟨b, e, h⟩ := opt_of h
  have q := k _ _ _ _ h (.same (.bl !b))
  rcases isIn_ok ex r1 r2 e with ⟨ys, h1, h2⟩ | ⟨a, o, rfl, g, h2⟩ | ⟨c, z, rfl, rfl, h2⟩
  · exact .inl ⟨L, Hf, x, y, ys, b, ex, r1, r2, h1, h2, q⟩
  · exact .inr (.inl ⟨a, o, rfl, g, by rw [h2]; exact q⟩)
  · exact .inr (.inr ⟨c, z, rfl, rfl, by rw [h2]; exact q⟩)

/-! ### calls -/
theorem RepHs.one {Hf H : Hp} {vs : List V} {x : D} (r : RepHs Hf H vs [x]) : ∃ v, vs = [v] ∧ RepH Hf H v x := by
  cases r with
  | cons h r =>
    cases r
    exact ⟨_, rfl, h⟩
theorem RepHs.two {Hf H : Hp} {vs : List V} {x y : D} (r : RepHs Hf H vs [x, y]) : ∃ v w, vs = [v, w] ∧ RepH Hf H v x ∧ RepH Hf H w y := by
  cases r with
  | cons h r =>
    obtain ⟨w, rfl, h2⟩ := r.one
    exact ⟨_, _, rfl, h, h2⟩
def on1 (op : Op1) : OpN := fun xs P => match xs with
  | [x] => op x P
  | _ => False
def on2 (op : Op2) : OpN := fun xs P => match xs with
  | [x, y] => op x y P
  | _ => False
def r1N (r : V → Hp → VK → Prop) : List V → Hp → VK → Prop := fun vs H Q => ∃ v, vs = [v] ∧ r v H Q
theorem ok_on1 {r : List V → Hp → VK → Prop} {op : Op1} (h : ∀ (L : List Addr) (Hf H : Hp) (v : V) (x : D) (P : RV → Prop) (Q : VK), Exl L Hf H → RepH Hf H v x → op x P → (∀ rv v Hf' H', P rv → Res Hf H rv v Hf' H' → Q v H') → r [v] H Q) : CallOk r (on1 op) := fun L Hf H vs xs P Q ex rs hp k => by
  match xs, rs, hp with
  | [x], rs, hp =>
    obtain ⟨v, rfl, r1⟩ := rs.one
    exact h L Hf H v x P Q ex r1 hp k
  | [], _, hp => exact hp.elim
  | x :: y :: _, _, hp => exact hp.elim
theorem ok_on2 {r : List V → Hp → VK → Prop} {op : Op2} (h : ∀ (L : List Addr) (Hf H : Hp) (v w : V) (x y : D) (P : RV → Prop) (Q : VK), Exl L Hf H → RepH Hf H v x → RepH Hf H w y → op x y P → (∀ rv v Hf' H', P rv → Res Hf H rv v Hf' H' → Q v H') → r [v, w] H Q) : CallOk r (on2 op) := fun L Hf H vs xs P Q ex rs hp k => by
  match xs, rs, hp with
  | [x, y], rs, hp =>
    obtain ⟨v, w, rfl, r1, r2⟩ := rs.two
    exact h L Hf H v w x y P Q ex r1 r2 hp k
  | [], _, hp => exact hp.elim
  | [_], _, hp => exact hp.elim
  | _ :: _ :: _ :: _, _, hp => exact hp.elim
def oInt : Op1 := fun x P => match x with
  | .int i => P (.d (.int i))
  | .bl b => P (.d (.int (if b then 1 else 0)))
  | _ => False
theorem ok_int : CallOk (fun xs H Q => (∃ i, xs = [.int i] ∧ Q (.int i) H) ∨ ∃ k, xs = [.bl k] ∧ Q (.int (if k then 1 else 0)) H) (on1 oInt) := ok_on1 fun L Hf H v x P Q ex r h k => by
  cases r with
  | int i => exact .inl ⟨i, rfl, k _ _ _ _ h (.same (.int _))⟩
  | bl b => exact .inr ⟨b, rfl, k _ _ _ _ h (.same (.int _))⟩
  | _ => exact h.elim
def lenD : D → Option Nat
  | .lst xs => some xs.length
  | .tup xs => some xs.length
  | .fz ns => some ns.length
  | .str z => if z.length ≤ sizeLine then some z.length else none
  | .dk kvs => some kvs.length
  | .dt kvs => some kvs.length
  | _ => none
def oLen : Op1 := fun x P => opt (lenD x) fun n => P (.d (.int (n : Nat)))
def rLenX (K : PySem.W.Frag) : List V → Hp → VK → Prop := fun xs H Q => (∃ x n, xs = [x] ∧ LenV K x H n ∧ Q (.int n) H) ∨ (∃ a kvs, xs = [V.ref a] ∧ Rd H a (.dK kvs) ∧ Q (.int kvs.length) H) ∨ ∃ a kvs, xs = [V.ref a] ∧ Rd H a (.dT kvs) ∧ Q (.int (kvs.length : Nat)) H
theorem call_lenX : CallR X (.builtin "len") (rLenX X.K) := CallR.or call_len (CallR.or (by
  intro pins s σ H xs us Q I r h
  obtain ⟨a, kvs, rfl, ha, q⟩ := h
  obtain ⟨u, rfl, ru⟩ := vals1 r
  cases ru
  exact L2.d_len I ha fun t s' I' => ⟨.int kvs.length, H, I', ⟨t, rfl⟩, q⟩) (by
  intro pins s σ H xs us Q I r h
  obtain ⟨a, kvs, rfl, ha, q⟩ := h
  obtain ⟨u, rfl, ru⟩ := vals1 r
  cases ru
  obtain ⟨hz, hd, ws, rel, dd⟩ := dt_rd I.hok ha
  have hl : kvs.length = ws.length := Paired.length rel
  refine call_len_dictH hd dd (by
    rw [← hl]
    have := sizeLine_eq
    omega) ⟨.int (kvs.length : Nat), H, I.tok _, ⟨_, by rw [hl]⟩, q⟩))
theorem ok_len {K : PySem.W.Frag} : CallOk (rLenX K) (on1 oLen) := ok_on1 fun L Hf H v x P Q ex r h k => by
  obtain ⟨n, e, h⟩ := opt_of h
  have q := k _ _ _ _ h (.same (.int _))
  cases r with
  | @lst a vs xs h1 rx =>
    cases e
    exact .inl ⟨_, xs.length, rfl, .inl ⟨vs, sqL_of h1, rx.length.symm⟩, q⟩
  | @tup a vs xs h1 rx =>
    cases e
    exact .inl ⟨_, xs.length, rfl, .inr ⟨vs, sqT_of h1, rx.length.symm⟩, q⟩
  | @fz a ns h1 =>
    cases e
    exact .inl ⟨_, ns.length, rfl, .inl ⟨_, .inl h1, by rw [List.length_map]⟩, q⟩
  | str z =>
    have e : (if z.length ≤ sizeLine then some z.length else none) = some n := e
    by_cases hz : z.length ≤ sizeLine
    · rw [if_pos hz] at e
      cases e
      exact .inl ⟨_, z.length, rfl, ⟨hz, rfl⟩, q⟩
    · rw [if_neg hz] at e
      cases e
  | @dk a kvs xs h1 rx =>
    cases e
    exact .inr (.inl ⟨a, kvs, rfl, h1, by rw [rx.len]; exact q⟩)
  | @dt a kvs xs h1 rx =>
    cases e
    exact .inr (.inr ⟨a, kvs, rfl, h1, by rw [rx.len]; exact q⟩)
  | _ => cases e
/-- list(x), tuple(x) -/
def oList : Op1 := fun x P => opt (itemsD x) fun xs => P (.n (.lst xs))
theorem ok_list {K : PySem.W.Frag} : CallOk (fun xs H Q => ∃ p ys, xs = [.ref p] ∧ (SqL K H p ys ∨ SqT K H p ys) ∧ ∀ l, H l = none → Q (.ref l) (upd H l (.lst ys))) (on1 oList) := ok_on1 fun L Hf H v x P Q ex r h k => by
  obtain ⟨ys, e, h⟩ := opt_of h
  cases r with
  | @lst a vs xs h1 rx =>
    cases e
    exact ⟨a, vs, rfl, .inl (sqL_of h1), fun l hl => k _ _ _ _ h (.new hl ⟨_, rfl, rx⟩)⟩
  | @tup a vs xs h1 rx =>
    cases e
    exact ⟨a, vs, rfl, .inr (sqT_of h1), fun l hl => k _ _ _ _ h (.new hl ⟨_, rfl, rx⟩)⟩
  | @fz a ns h1 =>
    cases e
    exact ⟨a, _, rfl, .inl (.inl h1), fun l hl => k _ _ _ _ h (.new hl ⟨_, rfl, reps_ints ns⟩)⟩
  | _ => cases e
def oTuple : Op1 := fun x P => opt (itemsD x) fun xs => P (.d (.tup xs))
def oMax2 : Op2 := fun x y P => match x, y with
  | .int i, .int j => P (.d (.int (if j > i then j else i)))
  | _, _ => False
def oMin2 : Op2 := fun x y P => match x, y with
  | .int i, .int j => P (.d (.int (if j < i then j else i)))
  | _, _ => False
theorem ok_max2 : CallOk (fun xs H Q => ∃ i j, xs = [.int i, .int j] ∧ Q (.int (if j > i then j else i)) H) (on2 oMax2) := ok_on2 fun L Hf H v w x y P Q ex r1 r2 h k => by
  cases r1 with
  | int i =>
    cases r2 with
    | int j => exact ⟨i, j, rfl, k _ _ _ _ h (.same (.int _))⟩
    | _ => exact h.elim
  | _ => exact h.elim
theorem ok_min2 : CallOk (fun xs H Q => ∃ i j, xs = [.int i, .int j] ∧ Q (.int (if j < i then j else i)) H) (on2 oMin2) := ok_on2 fun L Hf H v w x y P Q ex r1 r2 h k => by
  cases r1 with
  | int i =>
    cases r2 with
    | int j => exact ⟨i, j, rfl, k _ _ _ _ h (.same (.int _))⟩
    | _ => exact h.elim
  | _ => exact h.elim
section
variable {e : Expr} {es : List Expr} {x : Str} {p pos : Pos} {wa : WA} {id : String} {r : List V → Hp → VK → Prop} {op : OpN}
theorem de_callB (hc : CallR X (.builtin id) r) (ok : CallOk r op) (hm : X.mg x = none) (hv : bootBuiltins x = some (.builtin id)) (ha : DA X W (e :: es) wa) (hg : Gl X x := by rfl) (hn : x ≠ "__name__" := by decide) (hdb : (x == ("__debug__" : Str)) = false := by decide)
    (he : starEach (e :: es) X.env = (false, eval e X.env) :: starEach es X.env := by rfl) (hpl : (backTo pos (starEach es X.env)).any (·.1) = false := by rfl) : DE X W (.Call (.Name x p) (e :: es) [] pos) (wCB op wa) := ⟨(pe_callB hc hg hm hv ha.pa hn hdb he hpl).imp fun _ _ _ h => h.cb ok⟩
theorem de_callT {T : String} (hc : CallR X (.type T) r) (ok : CallOk r op) (hm : X.mg x = none) (hv : bootBuiltins x = some (.type T)) (ha : DA X W (e :: es) wa) (hg : Gl X x := by rfl) (hn : x ≠ "__name__" := by decide) (hdb : (x == ("__debug__" : Str)) = false := by decide)
    (he : starEach (e :: es) X.env = (false, eval e X.env) :: starEach es X.env := by rfl) (hpl : (backTo pos (starEach es X.env)).any (·.1) = false := by rfl) : DE X W (.Call (.Name x p) (e :: es) [] pos) (wCB op wa) := ⟨(pe_callTy hc hg hm hv ha.pa hn hdb he hpl).imp fun _ _ _ h => h.cb ok⟩
end
end DL


/-! DL m: defs by name. -/
namespace DL
open PySem PySem.Spec PyProof.Rows L2
/-- the def of the name x keeps the promise sp -/
structure DCal (P : Program) (w : World) (K : PySem.W.Frag) (mg : Str → Option Value) (base : Heap) (x : Str) (k : Nat) (sp : DSp) : Prop where
  ex : ∃ (f : Addr) (fd : FuncData) (ps : List Str), mg x = some (.ref f) ∧ PySem.W.keepIn K (.ref f) = true ∧ Binds K fd ps [] ∧ FnOk P w K mg base (L2.CX P w) k f fd ps (toSp sp)
theorem DCal.mono {P : Program} {w : World} {K : PySem.W.Frag} {mg : Str → Option Value} {base : Heap} {x : Str} {j k : Nat} {sp : DSp} (c : DCal P w K mg base x j sp) (h : j ≤ k) : DCal P w K mg base x k sp := by
  obtain ⟨f, fd, ps, h1, h2, h3, h4⟩ := c.ex
  exact ⟨f, fd, ps, h1, h2, h3, h4.mono h⟩
theorem fun_of {K : PySem.W.Frag} {x qual : Str} {st : Stmt} {f : Addr} {fd : FuncData} (F : FunD K x qual (defArgs st) (defBody st) (defScope st) [] [] f fd) : Fun K x qual st f fd := by
  obtain ⟨oc, od, dV, kV, doc, pm, an, cdv, ct, osl, rfl, lk, hcd, hD, _⟩ := F.ex
  rcases hD with ⟨_, rfl⟩ | ⟨e, _⟩
  · exact ⟨⟨oc, od, kV, doc, pm, an, cdv, ct, osl, rfl, lk, hcd⟩, F.kp⟩
  · exact absurd rfl e
/-- what a body's context gives -/
theorem takes0 {P : Program} {w : World} {K : PySem.W.Frag} {mg : Str → Option Value} {base : Heap} {N : List Str} {qual : Str} {scope : Scope} {f : Addr} {cd : Value} {A : Around} {outer : List Env} {s : Shared} {H : Hp} {E : XK} :
    Takes (cxOf (L2.CX P w) P w K mg base N qual scope f cd A outer s H E) (fun cls d _ H => E cls d H) := L2.takes_of rfl rfl rfl rfl
theorem owns0 {P : Program} {w : World} {K : PySem.W.Frag} {mg : Str → Option Value} {base : Heap} {N : List Str} {qual : Str} {scope : Scope} {f : Addr} {cd : Value} {A : Around} {outer : List Env} {s : Shared} {H : Hp} {E : XK} :
    PassesOwn (model P w) (A.deeper (envOfC qual scope s.heap.objs.size f cd)) (envOfC qual scope s.heap.objs.size f cd) (cxOf (L2.CX P w) P w K mg base N qual scope f cd A outer s H E).xe := passes_of (X := cxOf (L2.CX P w) P w K mg base N qual scope f cd A outer s H E) rfl
/-- f(..), f a def of the text -/
theorem de_def {X : Cx} {W : WX} {k : Nat} {sp : DSp} {x : Str} {p pos : Pos} {e : Expr} {es : List Expr} {wa : WA} (mds : List Md) (tk : Takes X W) (c : DCal X.prog X.w X.K X.mg X.base x k sp) (hr : Room k X.A)
    (ha : DA X W (e :: es) wa) (hg : Gl X x := by rfl) (hdb : (x == ("__debug__" : Str)) = false := by decide) (he : starEach (e :: es) X.env = (false, eval e X.env) :: starEach es X.env := by rfl) (hpl : (backTo pos (starEach es X.env)).any (·.1) = false := by rfl) :
    DE X W (.Call (.Name x p) (e :: es) [] pos) (wCall mds sp wa) := by
  obtain ⟨f, fd, ps, h1, h2, h3, h4⟩ := c.ex
  exact de_call mds tk h4 hr h1 h2 h3 ha hg hdb he hpl
end DL


/-! A law whose body shows containers (repr): the caller's guards are none, and that is known. -/
namespace GW
open PySem PySem.Spec PyProof.Rows L2
/-- a def's promise where nothing is being shown further out -/
structure Ok (P : Program) (w : World) (K : PySem.W.Frag) (mg : Str → Option Value) (base : Heap) (CX : CXT) (k : Nat) (f : Addr) (fd : FuncData) (ps : List Str) (sp : Sp) : Prop where
  len : ∀ xs Hh q e, sp xs Hh q e → xs.length = ps.length
  run : ∀ (A : Around) (out : List Env) (st : Shared) (Hh : Hp) (args : Args) (us : List Value) (xs : List V) (q : VK) (e : XK), Room k A → A.guards = some [] → Env0 P w K mg base A out st Hh → BindsTo st fd args (ps.zip us) →
    Vals xs us → sp xs Hh q e → codeAny (model P w) A (.call (.ref f) args) (CR CX out P w Hh st q e) st
theorem Ok.of {P : Program} {w : World} {K : PySem.W.Frag} {mg : Str → Option Value} {base : Heap} {CX : CXT} {k : Nat} {f : Addr} {fd : FuncData} {ps : List Str} {sp : Sp} (F : FnOk P w K mg base CX k f fd ps sp) :
    Ok P w K mg base CX k f fd ps sp := ⟨F.len, fun A out st Hh args us xs q e hr _ => F.run A out st Hh args us xs q e hr⟩
/-- by its body -/
theorem ok_body {CX : CXT} {P : Program} {w : World} {K : PySem.W.Frag} {mg : Str → Option Value} {base : Heap} {x qual : Str} {params : Arguments} {body : List Stmt} {scope : Scope} {dvs : List V} {kws : List (Str × V)} {f : Addr} {fd : FuncData}
    {N ps : List Str} {k : Nat} {sp : Sp} (F : FunD K x qual params body scope dvs kws f fd) (S : FnScope N ps scope) (len : ∀ xs Hh q e, sp xs Hh q e → xs.length = ps.length)
    (hbody : ∀ (cdv : Value) (A : Around) (out : List Env) (st : Shared) (Hh : Hp) (xs : List V) (q : VK) (e : XK), Room k (A.deeper (envOfC qual scope st.heap.objs.size f cdv)) → A.guards = some [] → sp xs Hh q e →
      ∃ t, PSs (cxOf CX P w K mg base N qual scope f cdv A out st Hh e) body t ∧ t { nx := fun _ H' => q .non H', rt := q } (start N xs) Hh) : Ok P w K mg base CX (k + 1) f fd ps sp := by
  obtain ⟨oc, od, dV, kV, doc, pm, an, cdv, ct, osl, rfl, lk, hcd, _, _⟩ := F.ex
  refine ⟨len, fun A out st Hh args us xs q e room noG env bnd rel want => ?_⟩
  have inK : K.In st.heap := env.mod.kin.keeps fun b o z => (env.bs b o z).1
  have unl : st.heap.NoLimit := env.mod.nolimit.keeps fun b o z => (env.bs b o z).1
  have kinds : ∀ y ∈ ps.zip us, scope.names.lookup y.1 = some .local ∨ (scope.names.lookup y.1 = some .cell ∧ ((cellsFrom (st.heap.objs.size + 1) scope.names []).lookup y.1).isSome = true) := by
    rintro ⟨n, v⟩ hy
    rcases S.par n (List.of_mem_zip hy).1 with c | c
    · exact Or.inl c
    · exact Or.inr ⟨c, PySem.W.cellsFrom_some _ _ _ (Or.inl c)⟩
  refine codeAny_call_function room.depth (inK _ _ lk) rfl S.co S.gen rfl (PySem.W.codeRec_of inK hcd) (bnd _ _ _ _ ?_)
  refine wpAny_newFunctionEnv_cells S.kind kinds fun en hen st1 inC => ?_
  subst hen
  refine ⟨unl.keeps inC.toInCall.keep, codeAny_func ?_⟩
  obtain ⟨t, pt, ht⟩ := hbody cdv A out st Hh xs q e (room.deeper _) noG want
  have J := inv_start (CX := CX) (E := e) (qual := qual) (cd := cdv) S room.hd env (len _ _ _ _ want) rel inC
  refine wpAny_mono (pt.run [] st1 (start N xs) Hh _ J ht) (fun fin st' told => ?_) fun _ _ z => z
  cases fin with
  | brk =>
    obtain ⟨_, _, _, z⟩ := told
    exact z.elim
  | cont =>
    obtain ⟨_, _, _, z⟩ := told
    exact z.elim
  | next =>
    obtain ⟨σ', H', J', z⟩ := told
    exact ⟨.non, H', J'.os, J'.bare, J'.base, J'.hok, rfl, z⟩
  | ret u =>
    obtain ⟨v, σ', H', J', rv, z⟩ := told
    exact ⟨v, H', J'.os, J'.bare, J'.base, J'.hok, rv, z⟩
/-- what the call of the law must come to -/
abbrev Told (s₁ : Shared) (r : Result) (s' : Shared) : Prop := r = .ok (.ret (.bool true)) ∧ OldK s₁.heap s'.heap ∧ s'.os = s₁.os ∧ AllBare s'.gens
/-- the call, from an abstract heap that tracks at most the script -/
theorem call_from {P : Program} {w : World} {K : PySem.W.Frag} {mg mb : Str → Option Value} {CX : CXT} {k : Nat} {fa a : Addr} {fd : FuncData} {x : Str} {sp : Sp} {s₁ : Shared} {vs : List Value} {Hh : Hp}
    (KX : K.In s₁.heap) (gl : s₁.heap.Ns mainGlobals mg) (bl : s₁.heap.Ns builtinsNs mb) (bb : ∀ x : Str, x ≠ "__name__" → mb x = bootBuiltins x) (unl : s₁.heap.NoLimit) (gn : s₁.gens = #[])
    (at_a : s₁.heap.get? a = some { cls := .type "list", data := .seq vs.toArray }) (room : Room k callerA)
    (F : ∀ base : Heap, K.In base → base.Ns mainGlobals mg → Ok P w K mg base CX k fa fd [x] sp) (bnd : ∀ (s : Shared) (u : Value), BindsTo s fd ⟨[u], []⟩ [(x, u)])
    (want : sp [.ref a] Hh (fun v _ => v = .bl true) fun _ _ _ => False) (noX : ∀ H e s', CX [] H s₁ (fun _ _ _ => False) e s' → False)
    (only : Only Hh) (hok : HOk P w Hh s₁.heap) (just : ∀ b, Hh b ≠ none → b = a) (apart : Hh a ≠ none → K.lookup a = none) :
    codeAny (model P w) callerA (.call (.ref fa) ⟨[.ref a], []⟩) (Told s₁) s₁ := by
  have under : ∀ {b : Addr} {o : Obj}, s₁.heap.get? b = some o → Hh b = none → (hidT s₁.heap Hh).get? b = some o := fun z n => hidT_get z n
  have isA : ∀ {b : Addr} {u : HO}, Hh b = some u → b = a := fun {b u} z => just b (by rw [z]; simp)
  have ns : ∀ {b : Addr} {m : Str → Option Value}, s₁.heap.Ns b m → (hidT s₁.heap Hh).Ns b m := by
    rintro b m ⟨o, es, ep, z, d, r⟩
    refine ⟨o, es, ep, under z ?_, d, r⟩
    cases c : Hh b with
    | none => rfl
    | some u =>
      rw [isA c, at_a] at z
      cases z
      cases (d : Data.seq vs.toArray _ = Data.dict es ep)
  have kb : K.In (hidT s₁.heap Hh) := fun b o z => under (KX b o z) (by
    cases c : Hh b with
    | none => rfl
    | some u =>
      have e := isA c
      rw [e, apart (by rw [← e, c]; simp)] at z
      cases z)
  have md : Mod K mg (hidT s₁.heap Hh) := ⟨kb, ns gl, ⟨mb, ns bl, bb⟩, by
    obtain ⟨mc, z1, z2⟩ := unl
    exact ⟨mc, ns z1, z2⟩⟩
  have env : Env0 P w K mg (hidT s₁.heap Hh) callerA [] s₁ Hh := ⟨rfl, md, fun b o z => of_hidT z, Nat.le_of_eq (hidT_size _ _), trivial, fun b hb => (List.not_mem_nil hb).elim, hok, .of_eq gn⟩
  have go := (F _ kb (ns gl)).run callerA [] s₁ Hh ⟨[.ref a], []⟩ [.ref a] [.ref a] _ _ room rfl env (bnd s₁ (.ref a)) (.cons rfl .nil) want
  refine codeAny_mono go fun r s' told => ?_
  cases r with
  | error e => exact (noX Hh e s' told).elim
  | ok fin =>
    cases fin with
    | next => exact told.elim
    | brk => exact told.elim
    | cont => exact told.elim
    | ret u =>
      obtain ⟨v, H', z1, z2, un, hok', rv, isT⟩ := told
      obtain rfl : v = .bl true := isT
      obtain rfl : u = Value.bool true := rv
      refine ⟨rfl, OldK.of_keep fun b o z => ?_, z1, z2⟩
      cases c : Hh b with
      | none => exact un.keep b o z c (fun y => by cases y) (fun y => by cases y)
      | some u =>
        rcases only b with y | ⟨ob, xs, y⟩
        · rw [c] at y
          cases y
        · obtain ⟨e1, _⟩ := hok b _ y
          obtain ⟨e2, _⟩ := hok' b _ (un.frzs b ob _ y)
          rw [z] at e1
          cases e1
          exact e2
/-- the call -/
theorem call_law {P : Program} {w : World} {K : PySem.W.Frag} {mg mb : Str → Option Value} {CX : CXT} {k : Nat} {fa a : Addr} {fd : FuncData} {x : Str} {sp : Sp} {s₁ : Shared} {vs : List Value} {ns : List Int}
    (KX : K.In s₁.heap) (gl : s₁.heap.Ns mainGlobals mg) (bl : s₁.heap.Ns builtinsNs mb) (bb : ∀ x : Str, x ≠ "__name__" → mb x = bootBuiltins x) (unl : s₁.heap.NoLimit) (gn : s₁.gens = #[])
    (at_a : s₁.heap.get? a = some { cls := .type "list", data := .seq vs.toArray }) (isInts : IntsAre vs ns) (few : ns.length ≤ sizeLine) (room : Room k callerA)
    (F : ∀ base : Heap, K.In base → base.Ns mainGlobals mg → Ok P w K mg base CX k fa fd [x] sp) (bnd : ∀ (s : Shared) (u : Value), BindsTo s fd ⟨[u], []⟩ [(x, u)])
    (noL : ∀ b o, K.lookup b = some o → o.cls ≠ .type "list") (want : ∀ (Hh : Hp) (o : Obj), Hh a = some (.frz o (.lst (ns.map V.int))) → sp [.ref a] Hh (fun v _ => v = .bl true) fun _ _ _ => False) (noX : ∀ H e s', CX [] H s₁ (fun _ _ _ => False) e s' → False) :
    codeAny (model P w) callerA (.call (.ref fa) ⟨[.ref a], []⟩) (Told s₁) s₁ := by
  have rel := vals_ints isInts
  have many := isInts.length
  cases c : K.lookup a with
  | some o =>
    have z := KX a o c
    rw [at_a] at z
    cases z
    exact absurd rfl (noL a _ c)
  | none =>
    have hO : Only (fun b => if b = a then some (HO.frz { cls := .type "list", data := .seq vs.toArray } (.lst (ns.map V.int))) else none) := fun b => by
      by_cases y : b = a
      · exact Or.inr ⟨_, _, if_pos y⟩
      · exact Or.inl (if_neg y)
    refine call_from (Hh := fun b => if b = a then some (HO.frz { cls := .type "list", data := .seq vs.toArray } (.lst (ns.map V.int))) else none) KX gl bl bb unl gn at_a room F bnd (want _ _ (if_pos rfl)) noX hO ?_ ?_ fun _ => c
    · intro b u z
      by_cases y : b = a
      · cases (if_pos y).symm.trans z
        subst y
        exact ⟨at_a, by rw [List.length_map]; exact few, vs, _, rel, at_a⟩
      · cases (if_neg y).symm.trans z
    · intro b z
      by_cases y : b = a
      · exact y
      · exact absurd (if_neg y) z
/-- a law, its script's numbers of at most so many bits -/
theorem walk {l : PySem.W.OpenLaw} {n k : Nat} {q : Program} {loose : List Str} {XP : (Str → Option Value) → Heap → Prop} {YP : World → Heap → Prop} {d : DefRec} {CX : World → CXT} {x : Str}
    (hn : l.most = some n) (hn2 : n ≤ sizeLine) (hdf : d.params.defaults = []) (room : Room k callerA)
    (F : ∀ (w : World) (mg : Str → Option Value) (fa : Addr) (h : Heap), YP w h → h.Ns mainGlobals mg → mg d.name = some (.ref fa) →
      ∃ (K : PySem.W.Frag) (fd : FuncData) (sp : Sp), K.In h ∧ (∀ (s : Shared) (u : Value), BindsTo s fd ⟨[u], []⟩ [(x, u)]) ∧
        (∀ b o, K.lookup b = some o → o.cls ≠ .type "list") ∧ (∀ (Hh : Hp) (a : Addr) (ns : List Int) (o : Obj), ns.length ≤ n → (∀ n ∈ ns, Builtin.Int.intBits n ≤ 1048576) → Hh a = some (.frz o (.lst (ns.map V.int))) → sp [.ref a] Hh (fun v _ => v = .bl true) fun _ _ _ => False) ∧
        ∀ base : Heap, K.In base → base.Ns mainGlobals mg → Ok l.prog w K mg base (CX w) k fa fd [x] sp)
    (noX : ∀ (w : World) (Hh : Hp) (s : Shared) (e : Value) (s' : Shared), CX w [] Hh s (fun _ _ _ => False) e s' → False) :
    PySem.W.WalkO q loose XP YP l.row.toRowW d [] (fun f vs => PySem.call f vs) := by
  refine Att.attach_callB hn hdf fun w s₀ s₁ mg mb fa o pm cd doc a vs ns G Y ho hd hcd hmg at_a isInts few bits gn => ?_
  obtain ⟨K, fd, sp, KX, bnd, noL, want, ok⟩ := F w mg fa _ Y G.T.g hmg
  exact call_law KX G.T.g G.T.b G.T.builtins G.T.nolimit gn at_a isInts (Nat.le_trans few hn2) room ok bnd noL (fun Hh o hS => want Hh a ns o few bits hS) fun Hh e s' => noX w Hh s₁ e s'
end GW


/-! Own exceptions held as values: made by place, made by name, asked by isinstance, read. -/
namespace GX
open PySem PySem.Spec PyProof.Rows PySem.HandSPX
section
variable {M : Model} {A : Around} {E : Value → Shared → Prop} {h : Heap} {g : Array GenState} {d : Drawn} {t : Nat} {os : OsState}
variable {nm q : Str} {C N : Addr} {bs bm bmB : List Value} {hdct : Bool} {sn : List Str} {sub : List Value} {ab : Bool} {col : Option Bool} {dd : Option Addr} {k0 k1 k2 k3 k5 : Option Value} {B newId initId : String}
theorem looked_kw (F : ExcBaseFacts B newId initId bmB) (same : ∀ T : String, bm.contains (.type T) = bmB.contains (.type T)) {kn : Str} {u : Value} {Z : Unit → Shared → Prop}
    (at_C : h.get? C = some (excClassObj nm q C N bs bm hdct sn sub ab col dd k0 k1 k2 k3 k5 newId)) (go : Z () ⟨h, g, d, t, os⟩) : wpAny M A (checkBuiltinCall newId ⟨[.ref C], [(kn, u)]⟩) Z E ⟨h, g, d, t, os⟩ := by
  have has : (Value.ref C :: bm).contains (.type B) = true := by rw [List.contains_cons, same, F.hasB, Bool.or_true]
  have star := F.noStar
  simp only [checkBuiltinCall, F.newKind, F.newSplit, F.newRow]
  repeat (first | refine wpAny_loadPart_at at_C ?_ | (refine wpAny_isSubtype_exc at_C ?_; rw [has]) | refine wpAny_staticBase_exc at_C ?_ | refine wpAny_madeBy_exc at_C ?_ | simp only [bne_self_eq_false, Bool.false_eq_true, if_false] | wp_step)
  exact go
end
section
variable {prog : Program} {w : World} {A : Around} {E : Value → Shared → Prop} {R : Result → Shared → Prop} {h : Heap} {g : Array GenState} {d : Drawn} {t : Nat} {os : OsState}
variable {nm q : Str} {C N : Addr} {bs bm bmB : List Value} {hdct : Bool} {sn : List Str} {sub : List Value} {ab : Bool} {col : Option Bool} {dd : Option Addr} {k0 k1 k2 k3 k5 : Option Value} {B newId initId : String}
theorem fresh_kw (F : ExcBaseFacts B newId initId bmB) (same : ∀ T : String, bm.contains (.type T) = bmB.contains (.type T)) {kn : Str} {u : Value}
    (at_C : h.get? C = some (excClassObj nm q C N bs bm hdct sn sub ab col dd k0 k1 k2 k3 k5 newId))
    (go : R (.ok (.ret (.ref (h.objs.size + 1)))) ⟨(h.push (W.kdv_tup [])).push (excO C h.objs.size), g, d, t, os⟩) :
    codeAny (model prog w) A (.builtin newId ⟨[.ref C], [(kn, u)]⟩) R ⟨h, g, d, t, os⟩ := by
  have ends := F.ends
  have has : (Value.ref C :: bm).contains (.type B) = true := by rw [List.contains_cons, same, F.hasB, Bool.or_true]
  have noA : (Value.ref C :: bm).contains (.type "AttributeError") = false := by rw [List.contains_cons, same, F.noAttr]; rfl
  have noN : (Value.ref C :: bm).contains (.type "NameError") = false := by rw [List.contains_cons, same, F.noName]; rfl
  have small : ([] : List Value).length ≤ sizeLine := Nat.zero_le _
  refine codeAny_builtinAt F.entry ?_
  unfold Builtin.«BaseException.__new__»
  refine PySem.wpAt_bind ?_
  show PySem.wpAt _ _ _ (stack >>= _) _ _ _
  refine PySem.wpAt_bind (PySem.wpAt_stack fun p below => PySem.wpAt_of_wpAny ?_)
  wp_walk
  refine PySem.wpAt_of_wpAny ?_
  rw [F.owner]
  repeat (first | with_reducible refine wpAny_madeHere_exc F.canon at_C ?_ | with_reducible refine wpAny_loadPart_at at_C ?_ | (with_reducible refine wpAny_isSubtype_exc at_C ?_; first | rw [has] | rw [noA] | rw [noN]) | wp_step)
  show R _ _
  rw [Heap.size_push]
  exact go
end
end GX


namespace GX
open PySem PySem.Spec PyProof.Rows PySem.HandSPX
section
variable {prog : Program} {w : World} {A : Around} {E : Value → Shared → Prop} {R : Result → Shared → Prop} {h : Heap} {g : Array GenState} {d : Drawn} {t : Nat} {os : OsState}
variable {nm q : Str} {C N : Addr} {bs bm bmB : List Value} {hdct : Bool} {sn : List Str} {sub : List Value} {ab : Bool} {col : Option Bool} {dd : Option Addr} {k0 k1 k2 k3 k5 : Option Value} {B newId initId : String}
/-- the heap behind C(value = ..): the empty tuple of its arguments, the exception -/
abbrev bornKw (h : Heap) (C : Addr) : Heap := (h.push (W.kdv_tup [])).push (excO C h.objs.size)
theorem typed_kw (F : ExcBaseFacts B newId initId bmB) (same : ∀ T : String, bm.contains (.type T) = bmB.contains (.type T)) {kn : Str} {u : Value} {fI : Addr} {Z : Fin → Shared → Prop}
    (at_C : h.get? C = some (excClassObj nm q C N bs bm hdct sn sub ab col dd k0 k1 k2 k3 k5 newId))
    (li : W.Looks (model prog w) h (typeLookup (.ref C) "__init__") (some (.ref fI))) (lb : ∀ self, W.Looks (model prog w) h (bindSpecial (.ref fI) self) (.ref fI, [self]))
    (go : codeAny (model prog w) A (.call (.ref fI) ⟨[.ref (h.objs.size + 1)], [(kn, u)]⟩)
      (fun r s' => match r with | .ok (.ret v) => v = .none ∧ Z (.done (.ret (.ref (h.objs.size + 1)))) s' | .ok _ => False | .error e => E e s') ⟨bornKw h C, g, d, t, os⟩) :
    wpAny (model prog w) A (Builtin.«type.__call__» ⟨[.ref C], [(kn, u)]⟩) Z E ⟨h, g, d, t, os⟩ := by
  repeat (first | with_reducible refine wpAny_loadPart_at at_C ?_ | with_reducible refine wpAny_madeBy_exc at_C ?_ | wp_step)
  refine codeAny_call_builtin_code (Code.quiet_builtin _ F.quiet) (looked_kw F same at_C ?_)
  refine fresh_kw F same at_C ?_
  show wpAny _ _ _ _ _ _
  have old : ∀ b o, h.get? b = some o → (bornKw h C).get? b = some o := fun b o e => Heap.get?_push_of_some _ (Heap.get?_push_of_some _ e)
  have at_C' := old _ _ at_C
  have born : (bornKw h C).get? (h.objs.size + 1) = some (excO C h.objs.size) := by heap_get
  have own : (Value.ref C :: bm).contains (.ref C) = true := by simp
  have li' := li.keeps old
  have lb' := (lb (.ref (h.objs.size + 1))).keeps old
  unfold isInstance
  repeat (first | with_reducible refine wpAny_loadPart_at born ?_ | (with_reducible refine wpAny_isSubtype_exc at_C' ?_; rw [own]) | wp_step)
  show wpAny _ _ (typeLookup (.ref C) _) _ _ _
  refine li'.at ?_
  refine wpAny_holding (wpAny_bind (lb'.at ?_))
  refine wpAny_bind (wpAny_call (codeAny_mono go fun r s' z => ?_))
  rcases r with e | (v | _ | _ | _) <;> first | exact z | exact z.elim | skip
  obtain ⟨rfl, z⟩ := z
  first
    | exact wpAny_pure (wpAny_pure z)
    | (wp_walk; exact z)
theorem called_kw (F : ExcBaseFacts B newId initId bmB) (same : ∀ T : String, bm.contains (.type T) = bmB.contains (.type T)) {kn : Str} {u : Value} {fI : Addr}
    (at_C : h.get? C = some (excClassObj nm q C N bs bm hdct sn sub ab col dd k0 k1 k2 k3 k5 newId))
    (li : W.Looks (model prog w) h (typeLookup (.ref C) "__init__") (some (.ref fI))) (lb : ∀ self, W.Looks (model prog w) h (bindSpecial (.ref fI) self) (.ref fI, [self]))
    (go : codeAny (model prog w) (A.under (.builtin "type.__call__" ⟨[.ref C], [(kn, u)]⟩)) (.call (.ref fI) ⟨[.ref (h.objs.size + 1)], [(kn, u)]⟩) (W.InitBack (h.objs.size + 1) R) ⟨bornKw h C, g, d, t, os⟩) :
    codeAny (model prog w) A (.call (.ref C) ⟨[], [(kn, u)]⟩) R ⟨h, g, d, t, os⟩ := by
  have f1 := tc_lookup
  have f2 := tc_bind (.ref C)
  have isTy : (⟨h, g, d, t, os⟩ : Shared).TypeIs (.ref C) "type" := ⟨_, at_C, rfl⟩
  refine codeAny_of_tree ?_
  show wpAny _ _ (callAny (.ref C) _) _ _ _
  repeat (any_goals (first | assumption | with_reducible refine wpAny_loadPart_at at_C ?_ | wp_step))
  refine ⟨rfl, ?_⟩
  refine codeAny_call_builtin_at (Code.quiet_builtin _ (by decide +kernel)) entry_typeCall ?_
  refine (wpAny_check_type_call_sub at_C (typed_kw F same at_C li lb ?_))
  refine codeAny_mono go fun r s' z => ?_
  rcases r with e | (v | _ | _ | _) <;> exact z
end
end GX


namespace GX
open PySem PySem.Spec PyProof.Rows L2
/-- an exception of the class at C, its dict at d with the fields fs -/
def At (Hh : Hp) (a C d : Addr) (fs : List (Str × V)) : Prop := Hh a = some (exo a C (some d)) ∧ Hh d = some (exd d fs)
/-- C(e), a value -/
def tMkE (C : Addr) (sp : Sp) (ta : TA) : TE := fun σ Hh Q => ta σ Hh fun xs H1 => xs.length ≤ 1000 ∧ ∀ a, H1 a = none → sp (.ref a :: xs) (upd H1 a (exo a C none)) (fun v H2 => v = .non ∧ Q (.ref a) H2) fun _ _ _ => False
section
variable {X : Cx} {CX : CXT} {x kn : Str} {C fI : Addr} {k : Nat} {fd : FuncData} {ps : List Str} {sp : Sp} {e : Expr} {es : List Expr} {ta tk : TA} {p pos kp : Pos}
theorem born_in {pins : List (Addr × Obj)} {σ : L2.St} {H1 : Hp} {hp : Heap} {g : Array GenState} {dr : Drawn} {tk : Nat} {os : OsState} (I : Inv X pins σ H1 ⟨hp, g, dr, tk, os⟩) (C : Addr) (us : List Value) :
    Inv X pins σ (upd H1 (hp.objs.size + 1) (exo (hp.objs.size + 1) C none)) ⟨(hp.push (PySem.W.kdv_tup us)).push (PySem.HandSPX.excO C hp.objs.size), g, dr, tk, os⟩ := by
  have old : ∀ b o, hp.get? b = some o → ((hp.push (PySem.W.kdv_tup us)).push (PySem.HandSPX.excO C hp.objs.size)).get? b = some o := fun b o z => Heap.get?_push_of_some _ (Heap.get?_push_of_some _ z)
  have born : ((hp.push (PySem.W.kdv_tup us)).push (PySem.HandSPX.excO C hp.objs.size)).get? (hp.objs.size + 1) = some (PySem.HandSPX.excO C hp.objs.size) := by heap_get
  exact I.laid (t' := tk) (a := hp.objs.size + 1) (o := exo (hp.objs.size + 1) C none) (h' := (hp.push (PySem.W.kdv_tup us)).push (PySem.HandSPX.excO C hp.objs.size)) old (Nat.le_succ _) (exo_ok born)
theorem pe_mkE (T : OexC X.K C) (iC : PySem.W.findIn X.K (.ref C) "__init__" = some (some (.ref fI))) (tI : PySem.W.typeIn X.K (.ref fI) = some (.type "function"))
    (F1 : FnOk X.prog X.w X.K X.mg X.base CX k fI fd ps sp) (room : Room (k + 1) X.A) (bnd : Binds X.K fd ps []) (noX : Passes CX X (fun _ _ _ => False)) (gx : Gl X x) (mx : X.mg x = some (.ref C)) (ha : PA X (e :: es) ta)
    (hdb : (x == ("__debug__" : Str)) = false := by decide) (he : starEach (e :: es) X.env = (false, eval e X.env) :: starEach es X.env := by rfl) (hpl : (backTo pos (starEach es X.env)).any (·.1) = false := by rfl) :
    PE X (.Call (.Name x p) (e :: es) [] pos) (tMkE C sp ta) := by
  refine ⟨fun pins s σ Hh Q I want => ?_⟩
  obtain ⟨nm, q, N, bs, bm, sn, sub, ab, col, dd, k0, k1, k2, k3, k5, at_C, tail⟩ := T.cls
  refine wpAny_Call_Name_kw (ld_glob I gx mx ?_ hdb)
  refine PySem.W.callWith_K (h₀ := X.base) I.ok.mod.kin T.kC (thn (ha.run pos pins s σ Hh _ I want) fun us s1 ⟨xs, H1, I1, r1, few, go⟩ => ⟨I1.kIn, ?_⟩) he hpl
  show wpAny _ _ (call (.ref C) us) _ _ _
  obtain ⟨hp, g, dr, tk, os⟩ := s1
  have new : H1 (hp.objs.size + 1) = none := I1.hok.fresh (Nat.le_succ _)
  have go1 := go (hp.objs.size + 1) new
  have I2 := born_in I1 C us
  have r2 : Vals (V.ref (hp.objs.size + 1) :: xs) (Value.ref (hp.objs.size + 1) :: us) := .cons rfl r1
  have len : ((Value.ref (hp.objs.size + 1) :: us) ++ []).length = ps.length := by
    rw [List.append_nil, ← r2.length]
    exact F1.len _ _ _ _ go1
  have fewU : us.length ≤ sizeLine := by
    rw [← Paired.length r1, sizeLine_eq]
    omega
  have bn := bnd _ (Value.ref (hp.objs.size + 1) :: us) I2.kIn len
  rw [List.append_nil] at bn
  refine wpAny_call (PySem.HandSPX.call_own F.excBase_ValueError (fun Y => PySem.HandSPX.refsVE_contains Y bm tail) (I1.kIn _ _ at_C) (PySem.W.looks_findIn I1.kIn iC) (fun self => PySem.W.bind_fn I1.kIn self tI) fewU
    (codeAny_mono (F1.run _ X.stack _ _ ⟨Value.ref (hp.objs.size + 1) :: us, []⟩ (Value.ref (hp.objs.size + 1) :: us) _ _ (fun _ _ _ => False) (room.make C us []) (I2.env0.make C us []) bn r2 go1) fun r s' told => ?_))
  cases r with
  | error er => exact noX pins σ _ _ er s' I2 told
  | ok fin =>
    cases fin with
    | next => exact told.elim
    | brk => exact told.elim
    | cont => exact told.elim
    | ret u =>
      obtain ⟨v, H3, I3, rv, isN, z⟩ := I2.after told
      subst isN
      exact ⟨rv, V.ref (hp.objs.size + 1), H3, I3, rfl, z⟩
/-- C(value = e), a value -/
theorem pe_mkK (T : OexC X.K C) (iC : PySem.W.findIn X.K (.ref C) "__init__" = some (some (.ref fI))) (tI : PySem.W.typeIn X.K (.ref fI) = some (.type "function"))
    (F1 : FnOk X.prog X.w X.K X.mg X.base CX k fI fd ps sp) (room : Room (k + 1) X.A) (bnd : ∀ (s : Shared) (u v : Value), BindsTo s fd ⟨[u], [(kn, v)]⟩ (ps.zip [u, v])) (two : ps.length = 2) (noX : Passes CX X (fun _ _ _ => False)) (gx : Gl X x) (mx : X.mg x = some (.ref C))
    {te : TE} (ha : PE X e te) (hdb : (x == ("__debug__" : Str)) = false := by decide) :
    PE X (.Call (.Name x p) [] [⟨some kn, e, kp⟩] pos) (tMkE C sp (tCons te tNil)) := by
  refine ⟨fun pins s σ Hh Q I want => ?_⟩
  obtain ⟨nm, q, N, bs, bm, sn, sub, ab, col, dd, k0, k1, k2, k3, k5, at_C, tail⟩ := T.cls
  refine wpAny_Call_Name_kw (ld_glob I gx mx ?_ hdb)
  refine PySem.W.callWith_KW0 (h₀ := X.base) I.ok.mod.kin T.kC rfl (thn ((pk_cons (nm := some kn) ha pk_nil).run pos pins s σ Hh _ I want) fun us s1 ⟨xs, H1, I1, r1, few, go⟩ => ⟨I1.kIn, ?_⟩) rfl
  have new := I1.hok.fresh (Nat.le_succ s1.heap.objs.size)
  have many := F1.len _ _ _ _ (go _ new)
  rw [two] at many
  obtain ⟨y, rfl⟩ : ∃ y, xs = [y] := by
    match xs, many with
    | [y], _ => exact ⟨y, rfl⟩
  obtain ⟨u, rfl, ry⟩ : ∃ u, us = [u] ∧ RelV y u := by
    cases r1 with
    | cons ra rb =>
      cases rb
      exact ⟨_, rfl, ra⟩
  show wpAny _ _ (call (.ref C) [] [(kn, u)]) _ _ _
  obtain ⟨hp, g, dr, tk, os⟩ := s1
  have go1 := go (hp.objs.size + 1) new
  have I2 := born_in I1 C []
  have r2 : Vals [V.ref (hp.objs.size + 1), y] [Value.ref (hp.objs.size + 1), u] := .cons rfl (.cons ry .nil)
  refine wpAny_call (called_kw F.excBase_ValueError (fun Y => PySem.HandSPX.refsVE_contains Y bm tail) (I1.kIn _ _ at_C) (PySem.W.looks_findIn I1.kIn iC) (fun self => PySem.W.bind_fn I1.kIn self tI)
    (codeAny_mono (F1.run _ X.stack _ _ ⟨[Value.ref (hp.objs.size + 1)], [(kn, u)]⟩ [Value.ref (hp.objs.size + 1), u] _ _ (fun _ _ _ => False) (room.make C [] [(kn, u)]) (I2.env0.make C [] [(kn, u)]) (bnd _ _ _) r2 go1) fun r s' told => ?_))
  cases r with
  | error er => exact noX pins σ _ _ er s' I2 told
  | ok fin =>
    cases fin with
    | next => exact told.elim
    | brk => exact told.elim
    | cont => exact told.elim
    | ret u =>
      obtain ⟨v, H3, I3, rv, isN, z⟩ := I2.after told
      subst isN
      exact ⟨rv, V.ref (hp.objs.size + 1), H3, I3, rfl, z⟩
end
end GX


namespace GX
open PySem PySem.Spec PyProof.Rows PySem.W
section
variable {prog : Program} {w : World} {A : Around} {E : Value → Shared → Prop} {K : Frag} {x D : Addr}
/-- e.__class__, e an exception with a dict of its own -/
theorem class_of {ox od : Obj} {hp : Heap} {g : Array GenState} {d : Drawn} {t : Nat} {os : OsState} {Z : Option Value → Shared → Prop} (T : L2.ExcC K D) (X : K.In hp) (I : InstAt hp x ox D (some od)) (go : Z (some (.ref D)) ⟨hp, g, d, t + 1, os⟩) :
    wpAny (model prog w) A (getAttr? (.ref x) "__class__") Z E ⟨hp, g, d, t, os⟩ := by
  have found : findObj K D (some od) "__class__" = some (.bind (.builtin "getset_descriptor.__get__") (.builtin "object.__class__")) := findObj_data (by
    obtain ⟨cd, z, _⟩ := any_some T.hd
    rw [z]; rfl) T.ha T.hn T.ht
  have aT := I.type (M := model prog w)
  have aG := looks_findIn (M := model prog w) X T.hg
  have aK := looks_findIn (M := model prog w) X T.hk
  have aF := looks_find (M := model prog w) X I found
  have aS : Looks (model prog w) hp (isInstance (.ref x) (.type "BaseException")) true := aT.andThen (looks_subIn X T.hs)
  have z0 : (false && onTheHeap (Value.builtin "BaseException.__getattribute__")) = false := rfl
  have z2 : (Value.builtin "BaseException.__getattribute__" == Value.builtin "object.__getattribute__") = false := by decide +kernel
  have z1 : (onTheHeap (Value.ref D) && Value.builtin "BaseException.__getattribute__" == Value.builtin "object.__getattribute__") = false := by
    rw [z2]; rfl
  unfold getAttr? getAttrBy? getAttrBy
  refine wpAny_bind (wpAny_mkText (wpAny_bind (wpAny_attempt (wpAny_holding (wpAny_bind (aT.at (wpAny_bind (aG.at ?_))))))))
  show wpAny _ _ (if (onTheHeap (Value.ref D) && Value.builtin "BaseException.__getattribute__" == Value.builtin "object.__getattribute__") = true then _ else _) _ _ _
  rw [z1, if_neg Bool.false_ne_true]
  unfold getAttrByItsOwn hookBefore
  refine wpAny_bind ?_
  rw [if_pos (show onTheHeap (Value.ref D) = true from rfl)]
  refine aK.at ?_
  refine wpAny_bind (wpAny_attempt (wpAny_holding ?_))
  unfold callGetattribute
  rw [z0, if_neg Bool.false_ne_true]
  unfold boundAndCalled
  rw [PySem.F.excAttr_ValueError.ga.bind (.ref x)]
  refine wpAny_bind (wpAny_pure ?_)
  show wpAny _ _ (call (.builtin "BaseException.__getattribute__") [.ref x, .str "__class__" t]) _ _ _
  refine wpAny_call (codeAny_call_builtin PySem.F.excAttr_ValueError.ga.plain PySem.F.entry_bexc_ga ?_)
  refine @check_slot (model prog w) _ _ ⟨hp, g, d, t + 1, os⟩ "BaseException.__getattribute__" "BaseException" "__getattribute__" (.ref x) [.str "__class__" t] [] _ (by decide +kernel) (by decide +kernel) aS (PySem.F.args_bexc_ga (.ref x) (.str "__class__" t)) ?_
  unfold Builtin.«object.__getattribute__»
  refine wpAny_bind (wpAny_of_eq (a := ((Value.ref x : Value), [Value.str "__class__" t])) (by first | rfl | (simp only [slotArgs]; rfl)) ?_)
  refine wpAny_bind (wpAny_pure (wpAny_bind (aT.at (wpAny_bind (aF.at ?_)))))
  show wpAny _ _ (holding [Value.builtin "object.__class__"] (call (.builtin "getset_descriptor.__get__") [.builtin "object.__class__", .ref x, .ref D]) >>= ret) _ _ _
  refine wpAny_bind (wpAny_holding (wpAny_call (class_get (s := ⟨hp, g, d, t + 1, os⟩) (ox := ox) (od := some od) X I T.hm ?_)))
  refine wpAny_pure ?_
  show wpAny _ _ (handedOut (.ref D)) _ _ _
  rw [handedOut_of (v := .ref D) rfl]
  first
    | exact wpAny_pure (wpAny_pure go)
    | exact wpAny_pure go
    | exact wpAny_pure (wpAny_bind (wpAny_pure (wpAny_pure go)))
theorem kitx_exd (T : L2.ExcC K D) : KitX K (.ref x) (.ref D) (fun h => ∃ ox od, InstAt h x ox D (some od)) where
  ty := fun _ _ _ ⟨_, _, I⟩ => I.type
  it := fun M h X _ => by
    obtain ⟨cd, z, _⟩ := any_some T.hd
    unfold clsIn at z
    split at z
    · rename_i c' d' cd' sl' ho
      intro A' Q' E' s' k q
      unfold isType loadHead
      exact wpAny_bind (wpAny_loadPart (k _ _ (X _ _ ho)) (wpAny_pure q))
    · cases z
  ne := fun h tp dd its n sl X at_tp => by
    obtain ⟨cd, z, _⟩ := any_some T.hd
    refine Bool.eq_false_iff.mpr fun q => ?_
    obtain rfl : D = tp := Value.ref.inj (beq_iff_eq.mp q)
    unfold clsIn at z
    split at z
    · rename_i c' d' cd' sl' ho
      cases (X _ _ ho).symm.trans at_tp
    · cases z
  ca := fun {_ _ _ _ _ s} X ⟨ox, od, I⟩ go => class_of (os := s.os) T X I go
end
end GX
namespace GX
open PySem PySem.Spec PyProof.Rows L2
section
variable {X : Cx} {pins : List (Addr × Obj)} {σ : L2.St} {Hh : Hp} {s : Shared}
theorem At.inst {a C d : Addr} {fs : List (Str × V)} (I : Inv X pins σ Hh s) (z : At Hh a C d fs) : ∃ (ox od : Obj) (mA : Str → Option Value), PySem.W.InstAt s.heap a ox C (some od) ∧ (∀ n, PySem.W.lookIn n od = some (mA n)) ∧ ∀ f, RelO (fs.lookup f) (mA f) := by
  obtain ⟨t1, ho⟩ := exo_at I.hok z.1
  obtain ⟨mA, hns, rel⟩ := exd_at I.hok z.2
  obtain ⟨od, hd, hl⟩ := lookIn_ns hns
  exact ⟨_, od, mA, ⟨ho, rfl, rfl, hd⟩, hl, rel⟩
/-- isinstance(e, c), e an exception that is held as a value -/
def rIsX (K : PySem.W.Frag) : List V → Hp → VK → Prop := fun xs Hh Q => ∃ (a C d : Addr) (fs : List (Str × V)) (c : V) (cv : Value) (b : Bool), xs = [.ref a, c] ∧ At Hh a C d fs ∧ ExcC K C ∧ ClsV c cv ∧ PySem.W.kitOne K (.ref C) cv = some b ∧ Q (.bl b) Hh
theorem call_isX : CallR X (.builtin "isinstance") (rIsX X.K) := by
  intro pins s σ Hh xs us Q I r want
  obtain ⟨a, C, d, fs, c, cv, b, rfl, ex, T, isC, kit, q⟩ := want
  obtain ⟨u1, u2, rfl, r1, r2⟩ := vals2 r
  obtain rfl := isC.eq r2
  cases (show u1 = Value.ref a from r1)
  obtain ⟨ox, od, mA, J, _, _⟩ := ex.inst I
  exact PySem.W.kia_one (kitx_exd T) I.kIn ⟨ox, od, J⟩ kit (fun z => nomatch z) fun tk => ⟨.bl b, Hh, I.tok tk, rfl, q⟩
/-- e.f, e such an exception -/
def tXv (K : PySem.W.Frag) (f : Str) (te : TE) : TE := fun σ Hh Q => te σ Hh fun x H1 => ∃ (a C d : Addr) (fs : List (Str × V)) (v : V), x = .ref a ∧ At H1 a C d fs ∧ XfC K C ∧ PySem.W.findIn K (.ref C) f = some none ∧ fs.lookup f = some v ∧ Q v H1
theorem pe_xv {e : Expr} {te : TE} {pos : Pos} {f : Str} (he : PE X e te) (hb : attributeBase e f X.env (eval e X.env) = eval e X.env := by rfl) : PE X (.Attribute e f pos) (tXv X.K f te) := by
  refine ⟨fun pins s σ Hh Q I want => ?_⟩
  refine attr_of hb (thn (he.run pins s σ Hh _ I want) fun u s1 told => ?_)
  obtain ⟨x, H1, I1, rx, a, C, d, fs, v, rfl, ex, T, no, l, q⟩ := told
  obtain rfl : u = Value.ref a := rx
  obtain ⟨ox, od, mA, J, look, rel⟩ := ex.inst I1
  obtain ⟨u, hu, ru⟩ := RelO.some_of (v := v) (o := mA f) (by rw [← l]; exact rel f)
  exact HandSPX.exc_get I1.kIn J T.ga T.gg T.exC (PySem.W.findObj_own T.hdC no rfl (by rw [look, hu])) (handed_of ru) ⟨v, H1, I1.tok _, ru, q⟩
end
end GX


/-! repr of what is tracked. -/
namespace GX
open PySem PySem.Spec PyProof.Rows L2
/-- a list at a, perhaps one that is not changed -/
def LAt (Hh : Hp) (a : Addr) (xs : List V) : Prop := Hh a = some (.lst xs) ∨ ∃ o, Hh a = some (.frz o (.lst xs))
def kD : Key → PyData
  | .inl i => .int i
  | .inr x => .str x
mutual
/-- what a value shows as; true: no list in it -/
inductive Sh (Hh : Hp) : V → PyData → Bool → Prop
  | non : Sh Hh .non .none true
  | bl (b : Bool) : Sh Hh (.bl b) (.bool b) true
  | int (i : Int) : Sh Hh (.int i) (.int i) true
  | str (y : Str) : Sh Hh (.str y) (.str y) true
  | lst {a : Addr} {xs : List V} {ds : List PyData} {c : Bool} : LAt Hh a xs → Shs Hh xs ds c → Sh Hh (.ref a) (.list ds) false
  | tup {a : Addr} {xs : List V} {ds : List PyData} {c : Bool} : Hh a = some (.tup xs) → Shs Hh xs ds c → Sh Hh (.ref a) (.tuple ds) c
  | dct {a : Addr} {kvs : List (Key × V)} {ds : List PyData} {c : Bool} : Hh a = some (.dK kvs) → Shs Hh (kvs.map (·.2)) ds c → Sh Hh (.ref a) (.dict ((kvs.map fun p => kD p.1).zip ds)) c
inductive Shs (Hh : Hp) : List V → List PyData → Bool → Prop
  | nil : Shs Hh [] [] true
  | cons {v : V} {d : PyData} {c c' : Bool} {vs : List V} {ds : List PyData} : Sh Hh v d c → Shs Hh vs ds c' → Shs Hh (v :: vs) (d :: ds) (c && c')
end
theorem Shs.len {Hh : Hp} : ∀ {vs : List V} {ds : List PyData} {c : Bool}, Shs Hh vs ds c → ds.length = vs.length
  | _, _, _, .nil => rfl
  | _, _, _, .cons _ r => congrArg (· + 1) r.len
theorem key_reads {h : Heap} {k : Key} {u : Value} (z : keyIs k u = true) : Reads h u (kD k) [] := by
  rcases keyIs_shape z with ⟨i, t, rfl, rfl⟩ | ⟨x, t, rfl, rfl⟩
  · exact .int i t
  · exact .str x t
theorem keys_read {P : Program} {w : World} {h : Heap} : ∀ {es : List DictEntry} {vs : List (Key × Value)}, Pairs (mixKind P w) es vs → ReadsAll h (es.map (·.key)) (vs.map fun p => kD p.1) []
  | _, _, .nil => .nil
  | _, _, .cons z _ r => .cons (as := []) (bs := []) (key_reads z) (keys_read r)
theorem vals_map {P : Program} {w : World} : ∀ {es : List DictEntry} {vs : List (Key × Value)}, Pairs (mixKind P w) es vs → es.map (·.val) = vs.map (·.2)
  | _, _, .nil => rfl
  | _, _, .cons _ z r => by rw [List.map_cons, List.map_cons, z, vals_map r]
theorem kv_vals : ∀ {kvs : List (Key × V)} {vs : List (Key × Value)}, KV kvs vs → Vals (kvs.map (·.2)) (vs.map (·.2)) ∧ vs.map (fun p => kD p.1) = kvs.map fun p => kD p.1
  | _, _, .nil => ⟨.nil, rfl⟩
  | _, _, .cons z r => by
    obtain ⟨h1, h2⟩ := kv_vals r
    refine ⟨.cons z.2 h1, ?_⟩
    rw [List.map_cons, List.map_cons, h2, z.1]
theorem zip_fst {α β : Type} : ∀ {l : List α} {m : List β}, m.length = l.length → (l.zip m).map (·.1) = l
  | [], _, _ => rfl
  | x :: l, [], h => by cases h
  | x :: l, y :: m, h => by
    rw [List.zip_cons_cons, List.map_cons, zip_fst (Nat.succ.inj h)]
theorem zip_snd {α β : Type} : ∀ {l : List α} {m : List β}, m.length = l.length → (l.zip m).map (·.2) = m
  | [], [], _ => rfl
  | [], y :: m, h => by cases h
  | x :: l, [], h => by cases h
  | x :: l, y :: m, h => by
    rw [List.zip_cons_cons, List.map_cons, zip_snd (Nat.succ.inj h)]
section
variable {P : Program} {w : World} {Hh : Hp} {h : Heap}
mutual
theorem Sh.reads (ok : HOk P w Hh h) : ∀ {v : V} {d : PyData} {c : Bool} {u : Value}, Sh Hh v d c → RelV v u → ∃ as, Reads h u d as ∧ (c = true → sysModules ∉ as)
  | _, _, _, u, .non, r => by
    obtain rfl : u = Value.none := r
    exact ⟨[], .none, fun _ z => by cases z⟩
  | _, _, _, u, .bl b, r => by
    obtain rfl : u = Value.bool b := r
    exact ⟨[], .bool b, fun _ z => by cases z⟩
  | _, _, _, u, .int i, r => by
    obtain ⟨t, rfl⟩ := r
    exact ⟨[], .int i t, fun _ z => by cases z⟩
  | _, _, _, u, .str y, r => by
    obtain ⟨t, rfl⟩ := r
    exact ⟨[], .str y t, fun _ z => by cases z⟩
  | _, _, _, u, .lst (a := a) (xs := xs) at_a all, r => by
    obtain rfl : u = Value.ref a := r
    have z : ∃ (its : List Value) (n : Nat), Vals xs its ∧ h.get? a = some { cls := .type "list", data := .seq its.toArray n } := by
      rcases at_a with z | ⟨o, z⟩
      · exact (ok a _ z).2
      · exact (ok a _ z).2.2
    obtain ⟨its, n, rel, get⟩ := z
    obtain ⟨bs, rd, _⟩ := all.reads ok rel
    exact ⟨a :: bs, .list get rfl rfl rd, fun z => by cases z⟩
  | _, _, _, u, .tup (a := a) (xs := xs) at_a all, r => by
    obtain rfl : u = Value.ref a := r
    obtain ⟨_, its, rel, o, get, isT, n, dat⟩ := (show ObjOk P w Hh h a (.tup xs) from ok a _ at_a)
    obtain ⟨bs, rd, no⟩ := all.reads ok rel
    exact ⟨bs, .tuple get isT dat rd, no⟩
  | _, _, _, u, .dct (a := a) (kvs := kvs) (ds := ds) at_a all, r => by
    obtain rfl : u = Value.ref a := r
    obtain ⟨_, notSys, vs, rel, o, es, ep, get, ex, dat, _, prs, _⟩ := (show ObjOk P w Hh h a (.dK kvs) from ok a _ at_a)
    obtain ⟨relV, ks⟩ := kv_vals rel
    obtain ⟨bs, rd, no⟩ := all.reads ok relV
    have many : ds.length = (kvs.map fun p => kD p.1).length := by rw [all.len, List.length_map, List.length_map]
    refine ⟨a :: [] ++ bs, .dict get ex.1 dat ?_ ?_, fun z y => ?_⟩
    · rw [zip_fst many, ← ks]
      exact keys_read prs
    · rw [zip_snd many, vals_map prs]
      exact rd
    · rcases List.mem_cons.mp y with y | y
      · rw [← y] at notSys
        exact absurd notSys (by decide)
      · exact no z y
theorem Shs.reads (ok : HOk P w Hh h) : ∀ {vs : List V} {ds : List PyData} {c : Bool} {us : List Value}, Shs Hh vs ds c → Vals vs us → ∃ as, ReadsAll h us ds as ∧ (c = true → sysModules ∉ as)
  | _, _, _, us, .nil, r => by
    cases r
    exact ⟨[], .nil, fun _ z => by cases z⟩
  | _, _, _, us, .cons z1 z2, r => by
    cases r with
    | cons r1 r2 =>
      obtain ⟨as, rd1, no1⟩ := z1.reads ok r1
      obtain ⟨bs, rd2, no2⟩ := z2.reads ok r2
      refine ⟨as ++ bs, .cons rd1 rd2, fun z y => ?_⟩
      obtain ⟨c1, c2⟩ := Bool.and_eq_true_iff.mp z
      rcases List.mem_append.mp y with y | y
      · exact no1 c1 y
      · exact no2 c2 y
end
end
section
variable {prog : Program} {w : World} {A : Around} {E : Value → Shared → Prop} {s : Shared} {Q : Value → Shared → Prop}
/-- repr(l), of a list, by what its items show as -/
theorem repr_list {h₀ : Heap} {a : Addr} {o : Obj} {its : List Value} {n : Nat} {ds : List PyData} {as : List Addr} (get : h₀.get? a = some o) (isL : o.cls = .type "list") (dat : o.data = .seq its.toArray n) (rd : ReadsAll h₀ its ds as)
    (sh : PyData.showableAll ds = true) (no : PyData.hasDictAll ds = true → sysModules ∉ as) (noG : A.guards = some []) (room : A.units + (PyData.depthAll ds + 3) < cLine) (old : ∀ b o, h₀.get? b = some o → s.heap.get? b = some o)
    (z : (listText (PyData.shownAll ds)).length ≤ sizeLine) (go : ∀ h' u tk, (∀ b o, s.heap.get? b = some o → h'.get? b = some o) → Q (.str (listText (PyData.shownAll ds)) u) { s with heap := h', toks := tk }) :
    wpAny (model prog w) A (call (.builtin "repr") [.ref a]) Q E s := by
  obtain ⟨bs, most, parts⟩ := ReprAllK.of_readsAll (prog := prog) (w := w) rd sh no fun t ht => Nat.le_trans (listText_mem_le ht) z
  have rd' : ReadsAll h₀ its.toArray.toList ds as := rd
  have apart : a ∉ bs := not_mem_of_deeper (.list get isL dat rd') (by simp only [PyData.depth]; omega) most
  have isT : s.TypeIs (.ref a) "list" := ⟨o, old _ _ get, isL⟩
  refine call_repr_slot (by omega) isT F.slot_list_repr.toG ?_
  cases its with
  | nil =>
    cases rd'
    have e : listText (PyData.shownAll []) = "[]" := by simp only [PyData.shownAll, listText_nil]
    have g := go s.heap s.toks (s.toks + 1) fun _ _ y => y
    rw [e] at g
    exact call_list_repr_empty isT (old _ _ get) dat ⟨_, _, rfl, g⟩
  | cons x l =>
    exact call_list_reprK get isL dat apart (by simpa using parts.length_eq) (fun i y e => parts.item i y (by simpa using e)) (A := A.in1) noG (fun b _ => Clear.nil b) (by show A.units + 1 + (PyData.depthAll ds + 1) < cLine; omega) old (fun h' u tk k => ⟨_, _, rfl, go h' u tk k⟩) z
end
/-- repr(l), l a list that is tracked -/
def rRepr : List V → Hp → VK → Prop := fun xs Hh Q => ∃ (a : Addr) (vs : List V) (ds : List PyData) (c : Bool), xs = [.ref a] ∧ LAt Hh a vs ∧ Shs Hh vs ds c ∧ (PyData.hasDictAll ds = true → c = true) ∧ PyData.showableAll ds = true ∧ PyData.depthAll ds ≤ 60 ∧
  (listText (PyData.shownAll ds)).length ≤ sizeLine ∧ Q (.str (listText (PyData.shownAll ds))) Hh
theorem call_repr {X : Cx} (noG : X.A.guards = some []) (room : X.A.units + 64 < cLine) : CallR X (.builtin "repr") rRepr := by
  intro pins s σ Hh xs us Q I r want
  obtain ⟨a, vs, ds, c, rfl, at_a, all, dict, sh, dep, z, q⟩ := want
  cases r with
  | cons r0 r1 =>
    rename_i u us
    cases r1
    obtain rfl : u = Value.ref a := r0
    have y : ∃ (its : List Value) (n : Nat), Vals vs its ∧ s.heap.get? a = some { cls := .type "list", data := .seq its.toArray n } := by
      rcases at_a with y | ⟨o, y⟩
      · exact (I.hok a _ y).2
      · exact (I.hok a _ y).2.2
    obtain ⟨its, n, rel, get⟩ := y
    obtain ⟨as, rd, no⟩ := all.reads I.hok rel
    exact repr_list get rfl rfl rd sh (fun y => no (dict y)) noG (by omega) (fun _ _ y => y) z fun h' u tk k => ⟨.str _, Hh, I.kept (t' := tk) k, ⟨u, rfl⟩, q⟩
end GX


namespace DL
open PySem PySem.Spec PyProof.Rows L2
def w_source_l1 : WS := (wAsg 2 (wBin oAdd (wBin oMod (wCB (on1 oInt) (wCons (wBin oPow (wCB (on1 oInt) (wCons (wBin oAdd (wBin oMul (wVar 2) (wC (.int 50021))) (wCB (on1 oInt) (wCons (wVar 3) wNil))) wNil)) (wC (.int 3))) wNil)) (wC (.int 2147483563))) (wC (.int 1))))
def w_source : WS := (wSeq (wAsg 2 (wBin oAdd (wC (.int 83)) (wVar 1)))
  (wSeq (wFor (wItL (wVar 0)) (gN 3) w_source_l1)
  (wSeq (wAsg 4 (wC (.int 0)))
  (wSeq (wIfS (wAnd (wTest (wBin oLt (wVar 1) (wCB (on1 oLen) (wCons (wVar 0) wNil)))) (wTest (wBin oGe (wBin oIx (wVar 0) (wVar 1)) (wBin oPow (wC (.int 10)) (wC (.int 18)))))) (wAsg 4 (wBin oSub (wBin oIx (wVar 0) (wVar 1)) (wBin oPow (wC (.int 10)) (wC (.int 18))))) wNext)
  (wRet (wLst (wCons (wPers (wVar 4)) (wCons (wPers (wVar 2)) wNil))))))))
def w_draw : WS := (wSeq (wIfS (wTest (wBin oGe (wBin oIx (wVar 0) (wC (.int 0))) (wVar 1))) (wSeq (wAsg 2 (wBin oMod (wCB (on1 oInt) (wCons (wBin oIx (wVar 0) (wC (.int 0))) wNil)) (wVar 1)))
  (wSeq (wSt 0 (wC (.int 0)) (wPers (wBin oFdiv (wBin oIx (wVar 0) (wC (.int 0))) (wVar 1))))
  (wRet (wVar 2)))) wNext)
  (wSeq (wSt 0 (wC (.int 1)) (wPers (wBin oMod (wCB (on1 oInt) (wCons (wBin oAdd (wBin oMul (wBin oIx (wVar 0) (wC (.int 1))) (wC (.int 69621))) (wC (.int 4241))) wNil)) (wC (.int 2147483647)))))
  (wRet (wBin oMod (wCB (on1 oInt) (wCons (wBin oFdiv (wBin oMod (wCB (on1 oInt) (wCons (wBin oPow (wCB (on1 oInt) (wCons (wBin oIx (wVar 0) (wC (.int 1))) wNil)) (wC (.int 5))) wNil)) (wC (.int 1000000007))) (wC (.int 19))) wNil)) (wVar 1)))))
def big : Nat := 2 ^ 1048576
theorem big_ge : 2 ^ 60 ≤ big := Nat.pow_le_pow_right (by decide) (by decide)
theorem log_of {n : Nat} (h : n < 4 * big) : n.log2 < 1048600 := by
  by_cases z : n = 0
  · subst z
    decide
  · refine (Nat.log2_lt z).mpr (Nat.lt_of_lt_of_le h ?_)
    have e : 4 * big = 2 ^ 1048578 := by
      unfold big
      rw [show (1048578 : Nat) = 2 + 1048576 from rfl, Nat.pow_add]
    rw [e]
    exact Nat.pow_le_pow_right (by decide) (by decide)
/-- what a source holds -/
structure Src (rest mixed : Int) : Prop where
  r0 : 0 ≤ rest
  rb : rest.natAbs < big
  m0 : 0 ≤ mixed
  mb : mixed < 2147483648
def spSource : DSp := fun avs P _ => ∃ (ns : List Int) (s : Int), avs = [.b (.fz ns), .d (.int s)] ∧ 0 ≤ s ∧ s < 1000 ∧ (∀ n ∈ ns, n.natAbs < big) ∧ ∀ rest mixed, Src rest mixed → P (.n (.lst [.int rest, .int mixed])) []
def spDraw : DSp := fun avs P _ => ∃ rest mixed span : Int, avs = [.m (.lst [.int rest, .int mixed]), .d (.int span)] ∧ Src rest mixed ∧ 0 < span ∧ span < 1000000 ∧
  ∀ r rest' mixed', 0 ≤ r → r < span → Src rest' mixed' → P (.d (.int r)) [.lst [.int rest', .int mixed']]
/-- a slot that may be set -/
def Sl (c : Slot) : Prop := c = .un ∨ ∃ x, c = .d x
theorem src_loop {N : DN} {ns : List Int} {s : Int} : ∀ (l : List Int) (m : Int) (c : Slot), Sl c → 0 ≤ m → m < 2147483648 → (∀ n ∈ l, n.natAbs < big) →
    (∀ m' c', 0 ≤ m' → m' < 2147483648 → Sl c' → N.nx [.b (.fz ns), .d (.int s), .d (.int m'), c', .un]) → loopN (gN 3) w_source_l1 N (l.map D.int) [.b (.fz ns), .d (.int s), .d (.int m), c, .un]
  | [], m, c, hc, h0, h1, _, k => k m c h0 h1 hc
  | n :: l, m, c, hc, h0, h1, hb, k => by
    have hn := hb n List.mem_cons_self
    have ih := src_loop (N := N) (ns := ns) (s := s) l
    have hg := big_ge
    have hs : NoP [Slot.b (.fz ns), .d (.int s), .d (.int m), c, .un] 3 := by
      rcases hc with rfl | ⟨x, rfl⟩ <;> trivial
    show NoP _ 3 ∧ _
    refine ⟨hs, ?_⟩
    simp only [w_source_l1, wAsg, wBin, wC, wVar, varK, opt, cont, slotD, asgK, NoP, oAdd, oMul, oMod, oPow, oI, oI0, oInt, on1, wCB, wCons, wNil, conts, List.getElem?_cons_zero, List.getElem?_cons_succ, List.set_cons_zero, List.set_cons_succ, true_and]
    have g1 : CMulW m 50021 := by
      refine wide_mul (a := 40) (b := 20) ?_ (by decide) (by decide) (by decide) (by decide)
      have : (2147483648 : Nat) < 2 ^ 40 := by decide
      omega
    have g2 : CPowW (m * 50021 + n) 3 := by
      have : (m * 50021 + n).natAbs.log2 < 1048600 := log_of ?_
      · refine ⟨by decide, ?_⟩
        omega
      have : (m * 50021 + n).natAbs ≤ m.natAbs * 50021 + n.natAbs := by
        refine Nat.le_trans (Int.natAbs_add_le _ _) ?_
        rw [Int.natAbs_mul]
        exact Nat.le_refl _
      have : (2 : Nat) ^ 60 = 1152921504606846976 := by decide
      omega
    refine ⟨g1, g2, by decide, ?_⟩
    have r0 : 0 ≤ (m * 50021 + n) ^ Int.toNat 3 % 2147483563 := Int.emod_nonneg _ (by decide)
    have r1 : (m * 50021 + n) ^ Int.toNat 3 % 2147483563 < 2147483563 := Int.emod_lt_of_pos _ (by decide)
    exact ih _ _ (.inr ⟨_, rfl⟩) (by omega) (by omega) (fun z hz => hb z (List.mem_cons_of_mem _ hz)) k
theorem vc_source : ∀ avs Q XP, spSource avs Q XP → w_source (bodyN avs Q XP) (stOf 5 avs) := by
  rintro _ Q XP ⟨ns, s, rfl, h0, h1, hb, k⟩
  have e : stOf 5 [AV.b (.fz ns), AV.d (.int s)] = [.b (.fz ns), .d (.int s), .un, .un, .un] := rfl
  rw [e]
  simp only [w_source, wSeq, wAsg, wBin, wC, wVar, varK, opt, cont, slotD, asgK, NoP, wFor, wItL, oAdd, List.getElem?_cons_zero, List.getElem?_cons_succ, List.set_cons_zero, List.set_cons_succ, true_and]
  refine src_loop ns _ _ (.inl rfl) (by omega) (by omega) hb fun m c m0 m1 hc => ?_
  have hs : NoP [Slot.b (.fz ns), .d (.int s), .d (.int m), c, .un] 4 := by
    rcases hc with rfl | ⟨x, rfl⟩ <;> trivial
  simp only [wSeq, wAsg, wBin, wC, wVar, varK, opt, cont, slotD, asgK, NoP, wIfS, wAnd, wTest, boolK, oLt, oGe, oLen, lenD, oIx, oPow, oSub, oI, oI0, wCB, wCons, wNil, conts, on1, wNext, wRet, wLst, wPers, persK, dAll, Option.map, List.getElem?_cons_zero, List.getElem?_cons_succ, List.set_cons_zero, List.set_cons_succ, true_and, freeze]
  have pw : CPowW 10 18 := ⟨by decide, by decide⟩
  have z2 : ∀ x y : D, [x, y].length ≤ sizeLine := fun x y => by
    rw [sizeLine_eq]
    exact (by decide : 2 ≤ 16777216)
  have hp : (10 : Int) ^ Int.toNat 18 = 1000000000000000000 := by decide
  have none0 : Src 0 m := ⟨by decide, by
    have := big_ge
    have : (0 : Nat) < 2 ^ 60 := by decide
    show 0 < big
    omega, m0, m1⟩
  by_cases hlt : s < (ns.length : Int)
  · rw [if_pos (decide_eq_true hlt)]
    obtain ⟨x, hx⟩ : ∃ x, ns[s.toNat]? = some x := ⟨_, List.getElem?_eq_getElem (by omega)⟩
    have hat : atI ns s = some x := by
      unfold atI
      have q : ixN ns.length s = some s.toNat := by
        unfold ixN
        rw [if_pos h0, if_pos hlt]
      rw [q]
      exact hx
    have hxb := hb x (List.mem_of_getElem? hx)
    rw [hat]
    refine ⟨pw, ?_⟩
    by_cases hge : (10 : Int) ^ Int.toNat 18 ≤ x
    · rw [if_pos (decide_eq_true hge)]
      rw [hp] at hge
      refine ⟨pw, z2 _ _, k _ _ ⟨by rw [hp]; omega, by rw [hp]; omega, m0, m1⟩⟩
    · rw [if_neg (by rw [decide_eq_true_eq]; exact hge)]
      exact ⟨z2 _ _, k _ _ none0⟩
  · rw [if_neg (by rw [decide_eq_true_eq]; exact hlt), if_neg (by decide)]
    exact ⟨z2 _ _, k _ _ none0⟩
theorem vc_draw : ∀ avs Q XP, spDraw avs Q XP → w_draw (bodyN avs Q XP) (stOf 3 avs) := by
  rintro _ Q XP ⟨rest, mixed, span, rfl, src, p0, p1, k⟩
  have e : stOf 3 [AV.m (.lst [.int rest, .int mixed]), AV.d (.int span)] = [.p (.lst [.int rest, .int mixed]), .d (.int span), .un] := rfl
  rw [e]
  have a0 : atI [D.int rest, D.int mixed] 0 = some (D.int rest) := rfl
  have a1 : atI [D.int rest, D.int mixed] 1 = some (D.int mixed) := rfl
  have x0 : ixN [D.int rest, D.int mixed].length 0 = some 0 := rfl
  have x1 : ixN [D.int rest, D.int mixed].length 1 = some 1 := rfl
  have b1 : ∀ z : Int, atI [D.int rest, D.int z] 1 = some (D.int z) := fun _ => rfl
  simp only [w_draw, wSeq, wAsg, wBin, wC, wVar, varK, opt, cont, slotD, asgK, NoP, wIfS, wTest, boolK, oGe, oIx, oMod, oFdiv, oAdd, oMul, oPow, oI, oI0, wCB, wCons, wNil, conts, on1, oInt, wNext, wRet, wSt, wPers, persK, cellOf, setC, stK, Cell.toD, Cell.ty, List.getElem?_cons_zero, List.getElem?_cons_succ, List.set_cons_zero, List.set_cons_succ, true_and, freeze, a0, a1, x0, x1, b1]
  obtain ⟨r0, rb, m0, mb⟩ := src
  have dsp : ∀ i : Int, CDivW i span := fun i => wide_div (b := 20) p0 (by
    have : (2 : Nat) ^ 20 = 1048576 := by decide
    omega) (by decide) (by decide)
  by_cases hge : span ≤ rest
  · rw [if_pos (decide_eq_true hge)]
    refine ⟨p0, dsp _, k _ _ _ (Int.emod_nonneg _ (by omega)) (Int.emod_lt_of_pos _ p0) ⟨Int.ediv_nonneg r0 (by omega), ?_, m0, mb⟩⟩
    have q0 : 0 ≤ rest / span := Int.ediv_nonneg r0 (by omega)
    have q1 : rest / span ≤ rest := Int.ediv_le_self _ r0
    omega
  · rw [if_neg (by rw [decide_eq_true_eq]; exact hge)]
    have n0 : 0 ≤ (mixed * 69621 + 4241) % 2147483647 := Int.emod_nonneg _ (by decide)
    have n1 : (mixed * 69621 + 4241) % 2147483647 < 2147483647 := Int.emod_lt_of_pos _ (by decide)
    have small : ∀ z : Int, 0 ≤ z → z < 2147483648 → z.natAbs.log2 < 40 := fun z h0 h1 => PySem.Flt.log2_lt_of (by decide) (by
      have : (2 : Nat) ^ 40 = 1099511627776 := by decide
      omega)
    refine ⟨wide_mul (a := 40) (b := 20) (by
      have : (2 : Nat) ^ 40 = 1099511627776 := by decide
      omega) (by decide) (by decide) (by decide) (by decide), by decide, ⟨by decide, ?_⟩, by decide, ⟨by decide, by decide⟩, p0, k _ _ _ (Int.emod_nonneg _ (by omega)) (Int.emod_lt_of_pos _ p0) ⟨r0, rb, n0, by omega⟩⟩
    have := small _ n0 (by omega)
    omega
end DL


namespace TL
open PySem PySem.Spec PyProof.Rows L2 DL GX
/-- nothing is let out -/
def X0 : XK := fun _ _ _ => False
theorem psB {X : Cx} : Passes (L2.CX X.prog X.w) X X0 := by
  rintro pins σ H s e s' I ⟨_, _, _, _, _, _, _, _, _, _, _, _, z⟩
  exact z.elim
/-- __init__: self.f = the value -/
def spInit (K : PySem.W.Frag) (f : Str) : Sp := fun vs H Q _ => ∃ (a C : Addr) (v : V), vs = [.ref a, v] ∧ OexC K C ∧ PySem.W.findIn K (.ref C) f = some none ∧ H a = some (exo a C none) ∧ ∀ dx, H dx = none → dx ≠ a → Q .non (upd (upd H dx (exd dx [(f, v)])) a (exo a C (some dx)))
theorem pure_init {K : PySem.W.Frag} {f : Str} {N : List Str} (h2 : N.length = 2) (vs : List V) (H : Hp) (Q : VK) (E : XK) (h : spInit K f vs H Q E) : tOst K f (tVar 0) (tVar 1) { nx := fun _ H' => Q .non H', rt := Q } (start N vs) H := by
  obtain ⟨a, C, v, rfl, T, no, e, q⟩ := h
  match N, h2 with
  | [_, _], _ => exact ⟨v, rfl, _, rfl, a, C, rfl, T, no, .inl ⟨e, fun dx n ne => q dx n ne⟩⟩
/-- what the def of a class's __init__ gives -/
structure Ini (P : Program) (w : World) (K : PySem.W.Frag) (mg : Str → Option Value) (base : Heap) (C : Addr) (f : Str) : Prop where
  ex : ∃ (fI : Addr) (fd : FuncData), PySem.W.findIn K (.ref C) "__init__" = some (some (.ref fI)) ∧ PySem.W.typeIn K (.ref fI) = some (.type "function") ∧ FnOk P w K mg base (L2.CX P w) 1 fI fd ["self", f] (spInit K f) ∧ Binds K fd ["self", f] [] ∧
    ∀ (s : Shared) (u v : Value), BindsTo s fd ⟨[u], [(f, v)]⟩ [("self", u), (f, v)]
/-- a def by its promise, at HandS's level -/
structure Cal (P : Program) (w : World) (K : PySem.W.Frag) (mg : Str → Option Value) (base : Heap) (x : Str) (k : Nat) (sp : Sp) : Prop where
  ex : ∃ (f : Addr) (fd : FuncData) (ps : List Str), mg x = some (.ref f) ∧ PySem.W.keepIn K (.ref f) = true ∧ Binds K fd ps [] ∧ FnOk P w K mg base (L2.CX P w) k f fd ps sp
section
variable {X : Cx} {C : Addr} {x f : Str} {e : Expr} {te : TE} {p pos kp : Pos}
theorem pe_mk1 (T : OexC X.K C) (i : Ini X.prog X.w X.K X.mg X.base C f) (room : Room 2 X.A) (gx : Gl X x) (mx : X.mg x = some (.ref C)) (ha : PE X e te)
    (hdb : (x == ("__debug__" : Str)) = false := by decide) (he : starEach [e] X.env = (false, eval e X.env) :: starEach [] X.env := by rfl) (hpl : (backTo pos (starEach [] X.env)).any (·.1) = false := by rfl) :
    PE X (.Call (.Name x p) [e] [] pos) (tMkE C (spInit X.K f) (tCons te tNil)) := by
  obtain ⟨fI, fd, h1, h2, h3, h4, h5⟩ := i.ex
  exact pe_mkE T h1 h2 h3 room h4 psB gx mx (pa_cons ha pa_nil he) hdb he hpl
theorem pe_mk2 (T : OexC X.K C) (i : Ini X.prog X.w X.K X.mg X.base C f) (room : Room 2 X.A) (gx : Gl X x) (mx : X.mg x = some (.ref C)) (ha : PE X e te) (hdb : (x == ("__debug__" : Str)) = false := by decide) :
    PE X (.Call (.Name x p) [] [⟨some f, e, kp⟩] pos) (tMkE C (spInit X.K f) (tCons te tNil)) := by
  obtain ⟨fI, fd, h1, h2, h3, h4, h5⟩ := i.ex
  exact pe_mkK T h1 h2 h3 room h5 rfl psB gx mx ha hdb
theorem pe_cal {es : List Expr} {ta : TA} {sp : Sp} {k : Nat} (i : Cal X.prog X.w X.K X.mg X.base x k sp) (room : Room k X.A) (gx : Gl X x) (ha : PA X (e :: es) ta)
    (hdb : (x == ("__debug__" : Str)) = false := by decide) (he : starEach (e :: es) X.env = (false, eval e X.env) :: starEach es X.env := by rfl) (hpl : (backTo pos (starEach es X.env)).any (·.1) = false := by rfl) :
    PE X (.Call (.Name x p) (e :: es) [] pos) (tCall sp [] X0 ta) := by
  obtain ⟨f, fd, ps, h1, h2, h3, h4⟩ := i.ex
  exact pe_call h4 room gx h1 h2 h3 .nil psB ha hdb he hpl
end
theorem Cal.of {P : Program} {w : World} {K : PySem.W.Frag} {mg : Str → Option Value} {base : Heap} {x : Str} {k : Nat} {sp : DSp} (c : DCal P w K mg base x k sp) : Cal P w K mg base x k (toSp sp) := ⟨c.ex⟩
theorem seq_i {t u : TS} {D : Ends} {σ : L2.St} {H : Hp} (h : t { D with nx := u D } σ H) : tSeq t u D σ H := h
theorem asg_i {te : TE} {g : TG} {D : Ends} {σ : L2.St} {H : Hp} (h : te σ H fun v H1 => g v σ H1 D.nx) : tAsg te g D σ H := h
theorem gn_i {i : Nat} {v : V} {σ : L2.St} {H : Hp} {Q : L2.St → Hp → Prop} (h : Q (σ.set i (some v)) H) : gName i v σ H Q := h
theorem ret_i {te : TE} {D : Ends} {σ : L2.St} {H : Hp} (h : te σ H D.rt) : tRet te D σ H := h
theorem lst_i {t : TA} {σ : L2.St} {H : Hp} {Q : VK} (h : t σ H fun xs H1 => xs.length ≤ sizeLine ∧ ∀ p, H1 p = none → Q (.ref p) (upd H1 p (.lst xs))) : tLst t σ H Q := h
theorem tup_i {t : TA} {σ : L2.St} {H : Hp} {Q : VK} (h : t σ H fun xs H1 => xs.length ≤ sizeLine ∧ ∀ p, H1 p = none → Q (.ref p) (upd H1 p (.tup xs))) : tTup t σ H Q := h
theorem cons_i {ta : TE} {tr : TA} {σ : L2.St} {H : Hp} {Q : List V → Hp → Prop} (h : ta σ H fun v H1 => tr σ H1 fun xs H2 => Q (v :: xs) H2) : tCons ta tr σ H Q := h
theorem nil_i {σ : L2.St} {H : Hp} {Q : List V → Hp → Prop} (h : Q [] H) : tNil σ H Q := h
theorem c_i {v : V} {σ : L2.St} {H : Hp} {Q : VK} (h : Q v H) : tC v σ H Q := h
theorem v_i {i : Nat} {v : V} {σ : L2.St} {H : Hp} {Q : VK} (e : σ[i]? = some (some v)) (h : Q v H) : tVar i σ H Q := ⟨v, e, h⟩
theorem if_i {t : TT} {a b : TS} {D : Ends} {σ : L2.St} {H : Hp} (h : t σ H fun k H1 => if k = true then a D σ H1 else b D σ H1) : tIfS t a b D σ H := h
theorem test_i {te : TE} {σ : L2.St} {H : Hp} {Q : Bool → Hp → Prop} (h : te σ H fun v H1 => ∃ k, v = .bl k ∧ Q k H1) : tTest te σ H Q := h
theorem op_i {r : R2} {ta tb : TE} {σ : L2.St} {H : Hp} {Q : VK} (h : ta σ H fun v H1 => tb σ H1 fun u H2 => r v u H2 Q) : tOp r ta tb σ H Q := h
theorem cb_i {r : List V → Hp → VK → Prop} {t : TA} {σ : L2.St} {H : Hp} {Q : VK} (h : t σ H fun vs H1 => r vs H1 Q) : tCB r t σ H Q := h
theorem call_i {sp : Sp} {t : TA} {σ : L2.St} {H : Hp} {Q : VK} (h : t σ H fun vs H1 => sp (vs ++ []) H1 Q X0) : tCall sp [] X0 t σ H Q := h
theorem disp_i {trs : List (TE × TE)} {σ : L2.St} {H : Hp} {Q : VK} (h : ∀ p, H p = none → tPairs trs σ (upd H p (.dK [])) fun ps H2 => H2 p = some (.dK []) ∧ ∃ kvs : List (Key × V), ps = kvs.map (fun kv => (kV kv.1, kv.2)) ∧ kvs.length ≤ 15 ∧ Q (.ref p) (upd H2 p (.dK (mergeK [] kvs)))) : tDisp trs σ H Q := h
theorem ilist_i {K : PySem.W.Frag} {tl : TE} {σ : L2.St} {H : Hp} {R : It → Hp → Prop} (h : tl σ H fun x H1 => ∃ a, x = .ref a ∧ (∃ xs, SqL K H1 a xs) ∧ R (Itl K a) H1) : iList K tl σ H R := h
theorem if_no {P A B : Prop} (h : B) (no : ¬ P) [Decidable P] : if P then A else B := by
  rw [if_neg no]
  exact h
theorem le_size (n : Nat) (h : n ≤ 1000) : n ≤ sizeLine := by
  rw [sizeLine_eq]
  omega
theorem item_of {K : PySem.W.Frag} {H : Hp} {a : Addr} {es : List V} {i : Nat} {v : V} (h : H a = some (.lst es)) (q : ∀ xs, SqL K H a xs → xs[i]? = some v) : es[i]? = some v := q es (.inl (.inl h))
theorem ats {H H' : Hp} {a C d : Addr} {fs : List (Str × V)} (e : Ex H H') (h : GX.At H a C d fs) : GX.At H' a C d fs := ⟨e _ _ h.1, e _ _ h.2⟩
/-- C(thing) -/
theorem mk_ok {K : PySem.W.Frag} {te : TE} {x : V} {f : Str} {σ : L2.St} {H : Hp} {Q : VK} {C : Addr} (h4 : ∀ R : VK, R x H → te σ H R) (T : OexC K C) (no : PySem.W.findIn K (.ref C) f = some none)
    (q : ∀ (H' : Hp) (a d : Addr), Ex H H' → GX.At H' a C d [(f, x)] → Q (.ref a) H') : tMkE C (spInit K f) (tCons te tNil) σ H Q := by
  refine h4 _ ⟨Nat.le_of_ble_eq_true rfl, fun a ha => ⟨a, C, x, rfl, T, no, upd_same, fun dx hdx ne => ⟨rfl, q _ a dx ?_ ⟨upd_same, ?_⟩⟩⟩⟩
  · have hd : H dx = none := by
      rw [upd_ne ne] at hdx
      exact hdx
    intro b o z
    rw [upd_ne (ne_of_none z ha), upd_ne (ne_of_none z hd)]
    exact upd_some ha z
  · rw [upd_ne ne, upd_same]
/-- two lists of data -/
theorem ne_lists {H : Hp} {p q : Addr} {vs us : List V} {xs ys : List D} {b : Bool} {Q : VK} (hp : H p = some (.lst vs)) (hq : H q = some (.lst us)) (rx : Reps (fun _ => none) vs xs) (ry : Reps (fun _ => none) us ys) (e : deqN 40 (.lst xs) (.lst ys) = some b) (k : Q (.bl !b) H) :
    rDne (.ref p) (.ref q) H Q := ⟨[], fun _ => none, .lst xs, .lst ys, b, fun _ _ z => (nomatch z), .lst hp rx, .lst hq ry, e, k⟩
theorem eq_ints {H : Hp} {i j : Int} {Q : VK} (k : Q (.bl (decide (i = j))) H) : rDeq (.int i) (.int j) H Q := ⟨[], fun _ => none, .int i, .int j, decide (i = j), fun _ _ z => (nomatch z), .int i, .int j, rfl, k⟩
end TL


namespace GX
open PySem PySem.Spec PyProof.Rows L2
def oexB (K : PySem.W.Frag) (C : Addr) : Bool := (match K.lookup C with
  | some ⟨.type "type", _, .cls cd, sl⟩ => (match cd.mro, sl.toList with
    | .ref C' :: bm, [_, _, _, _, some (.builtin n), _] => C' == C && n == "ValueError.__new__" && !cd.hasDel && cd.hasDict && PySem.HandSPX.refsVE bm
    | _, _ => false)
  | _ => false) && (decide (PySem.W.findIn K (.ref C) "__setattr__" = some (some (.builtin "object.__setattr__"))) && (decide (PySem.W.subIn K (.ref C) (.type "BaseException") = some true) && (decide (PySem.W.typeIn K (.ref C) = some (.type "type")) && PySem.W.keepIn K (.ref C))))
theorem and2 {a b : Bool} (h : (a && b) = true) : a = true ∧ b = true := Bool.and_eq_true_iff.mp h
theorem oexB_ok {K : PySem.W.Frag} {C : Addr} (h : oexB K C = true) : OexC K C := by
  obtain ⟨h1, h⟩ := and2 h
  obtain ⟨h2, h⟩ := and2 h
  obtain ⟨h3, h⟩ := and2 h
  obtain ⟨h4, h5⟩ := and2 h
  refine ⟨?_, of_decide_eq_true h2, of_decide_eq_true h3, of_decide_eq_true h4, h5⟩
  split at h1
  · rename_i dd cd sl ho
    split at h1
    · rename_i C' bm k0 k1 k2 k3 n k5 hm hs
      simp only [Bool.and_eq_true, beq_iff_eq, Bool.not_eq_true'] at h1
      obtain ⟨⟨⟨⟨rfl, rfl⟩, hdel⟩, hdct⟩, hr⟩ := h1
      obtain ⟨nm, bs, mro, ns, qn, hd, sn, sub, ab, col, del⟩ := cd
      dsimp only at hm hdel hdct
      subst hm hdel hdct
      have hsl : sl = #[k0, k1, k2, k3, some (.builtin "ValueError.__new__"), k5] := by
        obtain ⟨l⟩ := sl
        simp only at hs
        rw [hs]
      subst hsl
      exact ⟨nm, qn, ns, bs, bm, sn, sub, ab, col, dd, k0, k1, k2, k3, k5, ho, hr⟩
    · cases h1
  · cases h1
def excB (K : PySem.W.Frag) (D : Addr) : Bool := xfB K D && (decide (PySem.W.findIn K (.ref D) "__class__" = some (some (.builtin "object.__class__"))) && (decide (PySem.W.specialIn K (.builtin "object.__class__") "__get__" = some (some (.builtin "getset_descriptor.__get__"))) &&
  (decide (PySem.W.takesIn K (.builtin "object.__class__") = some true) && decide (PySem.W.mroIn K D (.type "object") = some true))))
theorem excB_ok {K : PySem.W.Frag} {D : Addr} (h : excB K D = true) : ExcC K D ∧ XfC K D := by
  obtain ⟨h1, h⟩ := and2 h
  obtain ⟨h2, h⟩ := and2 h
  obtain ⟨h3, h⟩ := and2 h
  obtain ⟨h4, h5⟩ := and2 h
  have x := xfB_ok h1
  exact ⟨⟨x.ga, x.gg, x.exC, x.hdC, of_decide_eq_true h2, of_decide_eq_true h3, of_decide_eq_true h4, of_decide_eq_true h5⟩, x⟩
end GX
namespace K61
open PySem PySem.Spec PyProof.Rows L2
def body : List Stmt := PySem.Challenge.pw_cornerturn_k61_errors_by_hand.main.body
def top (i : Nat) : Stmt := body.getD i (.Pass ⟨0, 0, 0, 0⟩)
def inCls : Stmt → Nat → Stmt
  | .ClassDef (body := b) .., i => b.getD i (.Pass ⟨0, 0, 0, 0⟩)
  | _, _ => .Pass ⟨0, 0, 0, 0⟩
abbrev sSource : Stmt := top 14
abbrev sDraw : Stmt := top 15
abbrev sPick : Stmt := top 16
abbrev sKinds : Stmt := top 17
abbrev sPlace : Stmt := top 18
abbrev sName : Stmt := top 19
abbrev sStored : Stmt := top 20
abbrev sLaw : Stmt := top 21
abbrev sI0 : Stmt := inCls (top 2) 0
abbrev sI1 : Stmt := inCls (top 3) 0
abbrev sI2 : Stmt := inCls (top 5) 0
abbrev sI3 : Stmt := inCls (top 6) 0
abbrev sI4 : Stmt := inCls (top 7) 0
abbrev sI5 : Stmt := inCls (top 10) 0
abbrev sI6 : Stmt := inCls (top 4) 0
abbrev sI7 : Stmt := inCls (top 8) 0
abbrev sI8 : Stmt := inCls (top 9) 0
abbrev sI9 : Stmt := inCls (top 11) 0
abbrev sI10 : Stmt := inCls (top 12) 0
def mk (x : Str) (m : Option Str) (q : Str) (s : Stmt) : He.DefD := ⟨(x, m), m.getD x, q, defArgs s, defBody s, defScope s, [], []⟩
def fn : List He.DefD := [mk "_law_source" none "_law_source" sSource, mk "_law_draw" none "_law_draw" sDraw, mk "_law_pick" none "_law_pick" sPick, mk "_law_kinds" none "_law_kinds" sKinds, mk "_law_by_place" none "_law_by_place" sPlace, mk "_law_by_name" none "_law_by_name" sName, mk "_law_stored" none "_law_stored" sStored, mk "law" none "law" sLaw, mk "BadPlaces" (some "__init__") "BadPlaces.__init__" sI0, mk "BadTies" (some "__init__") "BadTies.__init__" sI1, mk "NoPlace" (some "__init__") "NoPlace.__init__" sI2, mk "BadPlan" (some "__init__") "BadPlan.__init__" sI3, mk "BadPiece" (some "__init__") "BadPiece.__init__" sI4, mk "BadMove" (some "__init__") "BadMove.__init__" sI5, mk "BadTie" (some "__init__") "BadTie.__init__" sI6, mk "HasGlue" (some "__init__") "HasGlue.__init__" sI7, mk "TooMany" (some "__init__") "TooMany.__init__" sI8, mk "TooFar" (some "__init__") "TooFar.__init__" sI9, mk "BadText" (some "__init__") "BadText.__init__" sI10]
def fa : List He.Fa := [.glo "_law_source", .glo "_law_draw", .glo "_law_pick", .glo "_law_kinds", .glo "_law_by_place", .glo "_law_by_name", .glo "_law_stored", .glo "law", .glo "BadPlaces", .glo "BadTies", .glo "NoPlace", .glo "BadPlan", .glo "BadPiece", .glo "BadMove", .glo "BadTie", .glo "HasGlue", .glo "TooMany", .glo "TooFar", .glo "BadText", .glo "WebError", .meth "BadPlaces" "__init__", .meth "BadTies" "__init__", .meth "NoPlace" "__init__", .meth "BadPlan" "__init__", .meth "BadPiece" "__init__", .meth "BadMove" "__init__", .meth "BadTie" "__init__", .meth "HasGlue" "__init__", .meth "TooMany" "__init__", .meth "TooFar" "__init__", .meth "BadText" "__init__", .free "max", .free "min", .free "len", .free "range", .free "isinstance", .free "enumerate", .free "repr", .free "list", .free "dict", .free "int", .free "ValueError"]
/-- the classes and their fields -/
def cn : List (Str × Str) := [("BadPlaces", "value"), ("BadTies", "value"), ("NoPlace", "value"), ("BadPlan", "value"), ("BadPiece", "value"), ("BadMove", "value"), ("BadTie", "position"), ("HasGlue", "piece"), ("TooMany", "count"), ("TooFar", "count"), ("BadText", "line")]
def cN (i : Nat) : Str := (cn.getD i ("", "")).1
def cF (i : Nat) : Str := (cn.getD i ("", "")).2
def cA (K : PySem.W.Frag) (i : Nat) : Addr := He.ga K (cN i)
/-- no list is written -/
def noLB (K : PySem.W.Frag) : Bool := K.all fun p => !(p.2.cls == .type "list")
def ex (K : PySem.W.Frag) : Bool := noLB K && ((List.range 11).all fun i => GX.oexB K (cA K i) && (GX.excB K (cA K i) && (decide (PySem.W.kitOne K (.ref (cA K i)) (.type "ValueError") = some true) && (decide (PySem.W.kitOne K (.ref (cA K i)) (.ref (He.ga K "WebError")) = some true) &&
  (decide (PySem.W.findIn K (.ref (cA K i)) (cF i) = some none) && (List.range 11).all fun j => decide (PySem.W.kitOne K (.ref (cA K i)) (.ref (cA K j)) = some (decide (j = i))))))))
abbrev R : PySem.W.OpenRow := PySem.W.OpenLaw.row PySem.Challenge.rw_cornerturn_k61_errors_by_hand
abbrev hk : PySem.W.Hook := He.hookX 4 fa fn [] [] ex
def ob (s : PySem.W.SharedT) : He.AlX := He.obsX 4 fa fn [] [] ex (HandSHeadRun.getT s)
theorem ob_eq (s : PySem.W.SharedT) : ob s = hk.obs s.abs := He.obsX_eq (HandSHeadRun.getT_eq s)
def loose : List Str := ["__name__", "WebError", "BadPlaces", "BadTies", "BadTie", "NoPlace", "BadPlan", "BadPiece", "HasGlue", "TooMany", "BadMove", "TooFar", "BadText", "_law_source", "_law_draw", "_law_pick", "_law_kinds", "_law_by_place", "_law_by_name", "_law_stored"]
theorem run (w : World) : HandSHeadRun.RunEq R (PySem.W.view R.prog [21]) hk ob 6000 loose w := by
  intro os
  kernel_rfl
end K61


namespace K61
open PySem PySem.Spec PyProof.Rows L2 DL
theorem sc_source : FnScope ["script", "start", "mixed", "cell", "rest"] ["script", "start"] (defScope sSource) := ⟨rfl, rfl, rfl, by decide +kernel, rfl, by decide +kernel, by decide +kernel⟩
theorem cal_source {P : Program} {w : World} {K : PySem.W.Frag} {mg : Str → Option Value} {base : Heap} {f : Addr} {fd : FuncData} (F : Fun K "_law_source" "_law_source" sSource f fd) (gf : mg "_law_source" = some (.ref f)) (g_int : mg "int" = none) (g_len : mg "len" = none) 
    (vc : ∀ avs Q XP, spSource avs Q XP → w_source (bodyN avs Q XP) (stOf 5 avs)) (len : ∀ avs Q XP, spSource avs Q XP → avs.length = 2) : DCal P w K mg base "_law_source" 2 spSource := by
  have nd := sc_source.nd
  refine ⟨f, fd, ["script", "start"], gf, F.kp, F.binds fun kV doc pm an cdv ct us hl => ?_, fn_data F sc_source w_source (by decide) len (fun cdv A outer s H E hr => ?_) vc⟩
  · match us, hl with
    | [_, _], _ => rfl
  have hu : (A.deeper (envOfC "_law_source" (defScope sSource) s.heap.objs.size f cdv)).units + 1 < cLine := by have := hr.un; omega
  have hu64 : (A.deeper (envOfC "_law_source" (defScope sSource) s.heap.objs.size f cdv)).units + 64 < cLine := by have := hr.un; omega
  exact (ds_cons (ds_set 2 nd (de_op op_addX ok_add de_int (de_var 1)))
    (ds_cons (ds_for owns0 rfl (di_list (de_var 0)) (pg_name (i := 3) nd rfl (Or.inl rfl)) (gok_name (i := 3)) (ds_one (ds_set 2 nd (de_op op_addX ok_add (de_op op_mod ok_mod (de_callT call_int1 ok_int g_int PyProof.Rows.boot_int (da_cons (de_op op_powW ok_pow (de_callT call_int1 ok_int g_int PyProof.Rows.boot_int (da_cons (de_op op_addX ok_add (de_op op_mulX ok_mul (de_var 2) de_int) (de_callT call_int1 ok_int g_int PyProof.Rows.boot_int (da_cons (de_var 3) da_nil))) da_nil)) de_int) da_nil)) de_int) de_int))))
    (ds_cons (ds_set 4 nd de_int)
    (ds_cons (ds_if (dt_bool (dw_and (dt_cmp op_lt ok_lt (de_var 1) (de_callB call_lenX ok_len g_len PySem.boot_len (da_cons (de_var 0) da_nil)) (nomark _)) (dw_and1 (dt_cmp op_ge ok_ge (de_ix hu (de_var 0) (de_var 1)) (de_op op_powW ok_pow de_int de_int) (nomark _))))) (ds_one (ds_set 4 nd (de_op op_sub ok_sub (de_ix hu (de_var 0) (de_var 1)) (de_op op_powW ok_pow de_int de_int)))) ds_nil)
    (ds_one (ds_ret (de_lst (da_cons (de_pers (de_var 4)) (da_cons (de_pers (de_var 2)) da_nil)))))))))

theorem sc_draw : FnScope ["source", "span", "found"] ["source", "span"] (defScope sDraw) := ⟨rfl, rfl, rfl, by decide +kernel, rfl, by decide +kernel, by decide +kernel⟩
theorem cal_draw {P : Program} {w : World} {K : PySem.W.Frag} {mg : Str → Option Value} {base : Heap} {f : Addr} {fd : FuncData} (F : Fun K "_law_draw" "_law_draw" sDraw f fd) (gf : mg "_law_draw" = some (.ref f)) (g_int : mg "int" = none) 
    (vc : ∀ avs Q XP, spDraw avs Q XP → w_draw (bodyN avs Q XP) (stOf 3 avs)) (len : ∀ avs Q XP, spDraw avs Q XP → avs.length = 2) : DCal P w K mg base "_law_draw" 2 spDraw := by
  have nd := sc_draw.nd
  refine ⟨f, fd, ["source", "span"], gf, F.kp, F.binds fun kV doc pm an cdv ct us hl => ?_, fn_data F sc_draw w_draw (by decide) len (fun cdv A outer s H E hr => ?_) vc⟩
  · match us, hl with
    | [_, _], _ => rfl
  have hu : (A.deeper (envOfC "_law_draw" (defScope sDraw) s.heap.objs.size f cdv)).units + 1 < cLine := by have := hr.un; omega
  have hu64 : (A.deeper (envOfC "_law_draw" (defScope sDraw) s.heap.objs.size f cdv)).units + 64 < cLine := by have := hr.un; omega
  exact (ds_cons (ds_if (dt_cmp op_ge ok_ge (de_ix hu (de_var 0) de_int) (de_var 1) (nomark _)) (ds_cons (ds_set 2 nd (de_op op_mod ok_mod (de_callT call_int1 ok_int g_int PyProof.Rows.boot_int (da_cons (de_ix hu (de_var 0) de_int) da_nil)) (de_var 1)))
    (ds_cons (ds_st 0 hu de_int (de_pers (de_op op_fdivW ok_fdiv (de_ix hu (de_var 0) de_int) (de_var 1))) (hp := pg_sub (pe_var (i := 0) rfl (Or.inl rfl) (by decide) (by decide)) (DE.pe de_int) set_list))
    (ds_one (ds_ret (de_var 2))))) ds_nil)
    (ds_cons (ds_st 0 hu de_int (de_pers (de_op op_mod ok_mod (de_callT call_int1 ok_int g_int PyProof.Rows.boot_int (da_cons (de_op op_addX ok_add (de_op op_mulX ok_mul (de_ix hu (de_var 0) de_int) de_int) de_int) da_nil)) de_int)) (hp := pg_sub (pe_var (i := 0) rfl (Or.inl rfl) (by decide) (by decide)) (DE.pe de_int) set_list))
    (ds_one (ds_ret (de_op op_mod ok_mod (de_callT call_int1 ok_int g_int PyProof.Rows.boot_int (da_cons (de_op op_fdivW ok_fdiv (de_op op_mod ok_mod (de_callT call_int1 ok_int g_int PyProof.Rows.boot_int (da_cons (de_op op_powW ok_pow (de_callT call_int1 ok_int g_int PyProof.Rows.boot_int (da_cons (de_ix hu (de_var 0) de_int) da_nil)) de_int) da_nil)) de_int) de_int) da_nil)) (de_var 1))))))

end K61


namespace K61
open PySem PySem.Spec PyProof.Rows L2 DL GX TL
theorem scI0 : FnScope ["self", "value"] ["self", "value"] (defScope sI0) := ⟨rfl, rfl, rfl, by decide +kernel, rfl, by decide +kernel, by decide +kernel⟩
theorem ok_I0 {P : Program} {w : World} {K : PySem.W.Frag} {mg : Str → Option Value} {base : Heap} {f : Addr} {fd : FuncData} {qual : Str} (F : FunD K "__init__" qual (defArgs sI0) (defBody sI0) (defScope sI0) [] [] f fd) : FnOk P w K mg base (L2.CX P w) 1 f fd ["self", "value"] (spInit K "value") := by
  refine F.ok scI0 (fun vs H Q E h => ?_) (fun cdv A outer s H vs Q E hr h => ⟨tOst K "value" (tVar 0) (tVar 1), pss_one (ps_ost (pv 0) (pv 1)), pure_init rfl vs H Q E h⟩)
  obtain ⟨a, C, v, rfl, _⟩ := h
  rfl
theorem scI1 : FnScope ["self", "value"] ["self", "value"] (defScope sI1) := ⟨rfl, rfl, rfl, by decide +kernel, rfl, by decide +kernel, by decide +kernel⟩
theorem ok_I1 {P : Program} {w : World} {K : PySem.W.Frag} {mg : Str → Option Value} {base : Heap} {f : Addr} {fd : FuncData} {qual : Str} (F : FunD K "__init__" qual (defArgs sI1) (defBody sI1) (defScope sI1) [] [] f fd) : FnOk P w K mg base (L2.CX P w) 1 f fd ["self", "value"] (spInit K "value") := by
  refine F.ok scI1 (fun vs H Q E h => ?_) (fun cdv A outer s H vs Q E hr h => ⟨tOst K "value" (tVar 0) (tVar 1), pss_one (ps_ost (pv 0) (pv 1)), pure_init rfl vs H Q E h⟩)
  obtain ⟨a, C, v, rfl, _⟩ := h
  rfl
theorem scI2 : FnScope ["self", "value"] ["self", "value"] (defScope sI2) := ⟨rfl, rfl, rfl, by decide +kernel, rfl, by decide +kernel, by decide +kernel⟩
theorem ok_I2 {P : Program} {w : World} {K : PySem.W.Frag} {mg : Str → Option Value} {base : Heap} {f : Addr} {fd : FuncData} {qual : Str} (F : FunD K "__init__" qual (defArgs sI2) (defBody sI2) (defScope sI2) [] [] f fd) : FnOk P w K mg base (L2.CX P w) 1 f fd ["self", "value"] (spInit K "value") := by
  refine F.ok scI2 (fun vs H Q E h => ?_) (fun cdv A outer s H vs Q E hr h => ⟨tOst K "value" (tVar 0) (tVar 1), pss_one (ps_ost (pv 0) (pv 1)), pure_init rfl vs H Q E h⟩)
  obtain ⟨a, C, v, rfl, _⟩ := h
  rfl
theorem scI3 : FnScope ["self", "value"] ["self", "value"] (defScope sI3) := ⟨rfl, rfl, rfl, by decide +kernel, rfl, by decide +kernel, by decide +kernel⟩
theorem ok_I3 {P : Program} {w : World} {K : PySem.W.Frag} {mg : Str → Option Value} {base : Heap} {f : Addr} {fd : FuncData} {qual : Str} (F : FunD K "__init__" qual (defArgs sI3) (defBody sI3) (defScope sI3) [] [] f fd) : FnOk P w K mg base (L2.CX P w) 1 f fd ["self", "value"] (spInit K "value") := by
  refine F.ok scI3 (fun vs H Q E h => ?_) (fun cdv A outer s H vs Q E hr h => ⟨tOst K "value" (tVar 0) (tVar 1), pss_one (ps_ost (pv 0) (pv 1)), pure_init rfl vs H Q E h⟩)
  obtain ⟨a, C, v, rfl, _⟩ := h
  rfl
theorem scI4 : FnScope ["self", "value"] ["self", "value"] (defScope sI4) := ⟨rfl, rfl, rfl, by decide +kernel, rfl, by decide +kernel, by decide +kernel⟩
theorem ok_I4 {P : Program} {w : World} {K : PySem.W.Frag} {mg : Str → Option Value} {base : Heap} {f : Addr} {fd : FuncData} {qual : Str} (F : FunD K "__init__" qual (defArgs sI4) (defBody sI4) (defScope sI4) [] [] f fd) : FnOk P w K mg base (L2.CX P w) 1 f fd ["self", "value"] (spInit K "value") := by
  refine F.ok scI4 (fun vs H Q E h => ?_) (fun cdv A outer s H vs Q E hr h => ⟨tOst K "value" (tVar 0) (tVar 1), pss_one (ps_ost (pv 0) (pv 1)), pure_init rfl vs H Q E h⟩)
  obtain ⟨a, C, v, rfl, _⟩ := h
  rfl
theorem scI5 : FnScope ["self", "value"] ["self", "value"] (defScope sI5) := ⟨rfl, rfl, rfl, by decide +kernel, rfl, by decide +kernel, by decide +kernel⟩
theorem ok_I5 {P : Program} {w : World} {K : PySem.W.Frag} {mg : Str → Option Value} {base : Heap} {f : Addr} {fd : FuncData} {qual : Str} (F : FunD K "__init__" qual (defArgs sI5) (defBody sI5) (defScope sI5) [] [] f fd) : FnOk P w K mg base (L2.CX P w) 1 f fd ["self", "value"] (spInit K "value") := by
  refine F.ok scI5 (fun vs H Q E h => ?_) (fun cdv A outer s H vs Q E hr h => ⟨tOst K "value" (tVar 0) (tVar 1), pss_one (ps_ost (pv 0) (pv 1)), pure_init rfl vs H Q E h⟩)
  obtain ⟨a, C, v, rfl, _⟩ := h
  rfl
theorem scI6 : FnScope ["self", "position"] ["self", "position"] (defScope sI6) := ⟨rfl, rfl, rfl, by decide +kernel, rfl, by decide +kernel, by decide +kernel⟩
theorem ok_I6 {P : Program} {w : World} {K : PySem.W.Frag} {mg : Str → Option Value} {base : Heap} {f : Addr} {fd : FuncData} {qual : Str} (F : FunD K "__init__" qual (defArgs sI6) (defBody sI6) (defScope sI6) [] [] f fd) : FnOk P w K mg base (L2.CX P w) 1 f fd ["self", "position"] (spInit K "position") := by
  refine F.ok scI6 (fun vs H Q E h => ?_) (fun cdv A outer s H vs Q E hr h => ⟨tOst K "position" (tVar 0) (tVar 1), pss_one (ps_ost (pv 0) (pv 1)), pure_init rfl vs H Q E h⟩)
  obtain ⟨a, C, v, rfl, _⟩ := h
  rfl
theorem scI7 : FnScope ["self", "piece"] ["self", "piece"] (defScope sI7) := ⟨rfl, rfl, rfl, by decide +kernel, rfl, by decide +kernel, by decide +kernel⟩
theorem ok_I7 {P : Program} {w : World} {K : PySem.W.Frag} {mg : Str → Option Value} {base : Heap} {f : Addr} {fd : FuncData} {qual : Str} (F : FunD K "__init__" qual (defArgs sI7) (defBody sI7) (defScope sI7) [] [] f fd) : FnOk P w K mg base (L2.CX P w) 1 f fd ["self", "piece"] (spInit K "piece") := by
  refine F.ok scI7 (fun vs H Q E h => ?_) (fun cdv A outer s H vs Q E hr h => ⟨tOst K "piece" (tVar 0) (tVar 1), pss_one (ps_ost (pv 0) (pv 1)), pure_init rfl vs H Q E h⟩)
  obtain ⟨a, C, v, rfl, _⟩ := h
  rfl
theorem scI8 : FnScope ["self", "count"] ["self", "count"] (defScope sI8) := ⟨rfl, rfl, rfl, by decide +kernel, rfl, by decide +kernel, by decide +kernel⟩
theorem ok_I8 {P : Program} {w : World} {K : PySem.W.Frag} {mg : Str → Option Value} {base : Heap} {f : Addr} {fd : FuncData} {qual : Str} (F : FunD K "__init__" qual (defArgs sI8) (defBody sI8) (defScope sI8) [] [] f fd) : FnOk P w K mg base (L2.CX P w) 1 f fd ["self", "count"] (spInit K "count") := by
  refine F.ok scI8 (fun vs H Q E h => ?_) (fun cdv A outer s H vs Q E hr h => ⟨tOst K "count" (tVar 0) (tVar 1), pss_one (ps_ost (pv 0) (pv 1)), pure_init rfl vs H Q E h⟩)
  obtain ⟨a, C, v, rfl, _⟩ := h
  rfl
theorem scI9 : FnScope ["self", "count"] ["self", "count"] (defScope sI9) := ⟨rfl, rfl, rfl, by decide +kernel, rfl, by decide +kernel, by decide +kernel⟩
theorem ok_I9 {P : Program} {w : World} {K : PySem.W.Frag} {mg : Str → Option Value} {base : Heap} {f : Addr} {fd : FuncData} {qual : Str} (F : FunD K "__init__" qual (defArgs sI9) (defBody sI9) (defScope sI9) [] [] f fd) : FnOk P w K mg base (L2.CX P w) 1 f fd ["self", "count"] (spInit K "count") := by
  refine F.ok scI9 (fun vs H Q E h => ?_) (fun cdv A outer s H vs Q E hr h => ⟨tOst K "count" (tVar 0) (tVar 1), pss_one (ps_ost (pv 0) (pv 1)), pure_init rfl vs H Q E h⟩)
  obtain ⟨a, C, v, rfl, _⟩ := h
  rfl
theorem scI10 : FnScope ["self", "line"] ["self", "line"] (defScope sI10) := ⟨rfl, rfl, rfl, by decide +kernel, rfl, by decide +kernel, by decide +kernel⟩
theorem ok_I10 {P : Program} {w : World} {K : PySem.W.Frag} {mg : Str → Option Value} {base : Heap} {f : Addr} {fd : FuncData} {qual : Str} (F : FunD K "__init__" qual (defArgs sI10) (defBody sI10) (defScope sI10) [] [] f fd) : FnOk P w K mg base (L2.CX P w) 1 f fd ["self", "line"] (spInit K "line") := by
  refine F.ok scI10 (fun vs H Q E h => ?_) (fun cdv A outer s H vs Q E hr h => ⟨tOst K "line" (tVar 0) (tVar 1), pss_one (ps_ost (pv 0) (pv 1)), pure_init rfl vs H Q E h⟩)
  obtain ⟨a, C, v, rfl, _⟩ := h
  rfl
/-- the names that are read -/
structure Nm (mg : Str → Option Value) (c : Nat → Addr) (web : Addr) : Prop where
  cl : ∀ i, i < 11 → mg (cN i) = some (.ref (c i))
  web : mg "WebError" = some (.ref web)
  max : mg "max" = none
  min : mg "min" = none
  len : mg "len" = none
  range : mg "range" = none
  isi : mg "isinstance" = none
  enum : mg "enumerate" = none
  repr : mg "repr" = none
  list : mg "list" = none
  dict : mg "dict" = none
  ve : mg "ValueError" = none
section
variable (K : PySem.W.Frag) (c : Nat → Addr) (web : Addr)
def tIs (i : Nat) (v : V) : TE := tCB (rIsX K) (tCons (tVar i) (tCons (tC v) tNil))
def rMod : R2 := rI (fun _ j => 0 < j) fun i j => .int (i % j)
def rSub : R2 := rI0 fun i j => .int (i - j)
def t_kinds : TS := tSeq (tAsg (tLst (tCons (tIs K 0 (.ref (c 0))) (tCons (tIs K 0 (.ref (c 1))) (tCons (tIs K 0 (.ref (c 2))) tNil)))) (gName 1))
  (tSeq (tAsg (tOp rAddX (tVar 1) (tLst (tCons (tIs K 0 (.ref (c 3))) (tCons (tIs K 0 (.ref (c 4))) (tCons (tIs K 0 (.ref (c 5))) tNil))))) (gName 1))
  (tSeq (tAsg (tOp rAddX (tVar 1) (tLst (tCons (tIs K 0 (.ref (c 6))) (tCons (tIs K 0 (.ref (c 7))) (tCons (tIs K 0 (.ref (c 8))) tNil))))) (gName 1))
  (tRet (tOp rAddX (tVar 1) (tLst (tCons (tIs K 0 (.ref (c 9))) (tCons (tIs K 0 (.ref (c 10))) tNil)))))))
def t_place : TS := tSeq (tAsg (tLst (tCons (tMkE (c 0) (spInit K "value") (tCons (tVar 0) tNil)) (tCons (tMkE (c 1) (spInit K "value") (tCons (tVar 0) tNil)) (tCons (tMkE (c 2) (spInit K "value") (tCons (tVar 0) tNil)) (tCons (tMkE (c 3) (spInit K "value") (tCons (tVar 0) tNil)) (tCons (tMkE (c 4) (spInit K "value") (tCons (tVar 0) tNil)) (tCons (tMkE (c 5) (spInit K "value") (tCons (tVar 0) tNil)) tNil))))))) (gName 1))
  (tRet (tOp rAddX (tVar 1) (tLst (tCons (tMkE (c 6) (spInit K "position") (tCons (tVar 0) tNil)) (tCons (tMkE (c 7) (spInit K "piece") (tCons (tVar 0) tNil)) (tCons (tMkE (c 8) (spInit K "count") (tCons (tVar 0) tNil)) (tCons (tMkE (c 9) (spInit K "count") (tCons (tVar 0) tNil)) (tCons (tMkE (c 10) (spInit K "line") (tCons (tVar 0) tNil)) tNil))))))))
def t_name : TS := tSeq (tAsg (tLst (tCons (tMkE (c 0) (spInit K "value") (tCons (tVar 0) tNil)) (tCons (tMkE (c 1) (spInit K "value") (tCons (tVar 0) tNil)) (tCons (tMkE (c 2) (spInit K "value") (tCons (tVar 0) tNil)) (tCons (tMkE (c 3) (spInit K "value") (tCons (tVar 0) tNil)) tNil))))) (gName 1))
  (tSeq (tAsg (tOp rAddX (tVar 1) (tLst (tCons (tMkE (c 4) (spInit K "value") (tCons (tVar 0) tNil)) (tCons (tMkE (c 5) (spInit K "value") (tCons (tVar 0) tNil)) (tCons (tMkE (c 6) (spInit K "position") (tCons (tVar 0) tNil)) (tCons (tMkE (c 7) (spInit K "piece") (tCons (tVar 0) tNil)) tNil)))))) (gName 1))
  (tRet (tOp rAddX (tVar 1) (tLst (tCons (tMkE (c 8) (spInit K "count") (tCons (tVar 0) tNil)) (tCons (tMkE (c 9) (spInit K "count") (tCons (tVar 0) tNil)) (tCons (tMkE (c 10) (spInit K "line") (tCons (tVar 0) tNil)) tNil)))))))
def tEx (i : Nat) (f : Str) : TE := tXv K f (tOp (rIxX K) (tVar 0) (tC (.int i)))
def t_stored : TS := tSeq (tAsg (tOp rAddX (tLc (iList K (tSl (rSlL K) (tVar 0) tNoPart (tPart (tC (.int 6))))) (gName 2) tYes (tXv K "value" (tVar 2)) [2]) (tLst (tCons (tEx K 6 "position") (tCons (tEx K 7 "piece") tNil)))) (gName 1))
  (tRet (tOp rAddX (tVar 1) (tLst (tCons (tEx K 8 "count") (tCons (tEx K 9 "count") (tCons (tEx K 10 "line") tNil))))))
def t_pick : TS := tRet (tOp (rIxX K) (tVar 1) (tCall (toSp spDraw) [] X0 (tCons (tVar 0) (tCons (tCB (rLenX K) (tCons (tVar 1) tNil)) tNil))))
end
/-- what the classes say -/
structure Kf (K : PySem.W.Frag) (c : Nat → Addr) (web : Addr) : Prop where
  ox : ∀ i, i < 11 → OexC K (c i)
  ec : ∀ i, i < 11 → ExcC K (c i)
  xf : ∀ i, i < 11 → XfC K (c i)
  no : ∀ i, i < 11 → PySem.W.findIn K (.ref (c i)) (cF i) = some none
  web : ∀ i, i < 11 → PySem.W.kitOne K (.ref (c i)) (.ref web) = some true
  ve : ∀ i, i < 11 → PySem.W.kitOne K (.ref (c i)) (.type "ValueError") = some true
  is : ∀ i, i < 11 → ∀ j, j < 11 → PySem.W.kitOne K (.ref (c i)) (.ref (c j)) = some (decide (j = i))
section
variable {P : Program} {w : World} {K : PySem.W.Frag} {mg : Str → Option Value} {base : Heap} {f : Addr} {fd : FuncData} {c : Nat → Addr} {web : Addr}
theorem scK : FnScope ["error", "found"] ["error"] (defScope sKinds) := ⟨rfl, rfl, rfl, by decide +kernel, rfl, by decide +kernel, by decide +kernel⟩
theorem scP : FnScope ["thing", "found"] ["thing"] (defScope sPlace) := ⟨rfl, rfl, rfl, by decide +kernel, rfl, by decide +kernel, by decide +kernel⟩
theorem scN : FnScope ["thing", "found"] ["thing"] (defScope sName) := ⟨rfl, rfl, rfl, by decide +kernel, rfl, by decide +kernel, by decide +kernel⟩
theorem scS : FnScope ["errors", "found", "error"] ["errors"] (defScope sStored) := ⟨rfl, rfl, rfl, by decide +kernel, rfl, by decide +kernel, by decide +kernel⟩
theorem scC : FnScope ["source", "things"] ["source", "things"] (defScope sPick) := ⟨rfl, rfl, rfl, by decide +kernel, rfl, by decide +kernel, by decide +kernel⟩
variable {qual : Str} {cdv : Value} {A : Around} {outer : List Env} {s : Shared} {H : Hp} {E : XK}
theorem pss_kinds (n : Nm mg c web) : PSs (cxOf (L2.CX P w) P w K mg base ["error", "found"] qual (defScope sKinds) f cdv A outer s H E) (defBody sKinds) (t_kinds K c) :=
  pss_cons (ps_set (i := 1) scK.nd rfl (Or.inl rfl) (pe_lst (pa_cons (pe_callB call_isX rfl n.isi boot_isinstance (pa_cons (pv 0) (pa_cons (pe_glob (v := .ref (c 0)) rfl (n.cl 0 (by decide)) rfl) pa_nil))) (pa_cons (pe_callB call_isX rfl n.isi boot_isinstance (pa_cons (pv 0) (pa_cons (pe_glob (v := .ref (c 1)) rfl (n.cl 1 (by decide)) rfl) pa_nil))) (pa_cons (pe_callB call_isX rfl n.isi boot_isinstance (pa_cons (pv 0) (pa_cons (pe_glob (v := .ref (c 2)) rfl (n.cl 2 (by decide)) rfl) pa_nil))) pa_nil)))))
  (pss_cons (ps_set (i := 1) scK.nd rfl (Or.inl rfl) (pe_op op_addX (pv 1) (pe_lst (pa_cons (pe_callB call_isX rfl n.isi boot_isinstance (pa_cons (pv 0) (pa_cons (pe_glob (v := .ref (c 3)) rfl (n.cl 3 (by decide)) rfl) pa_nil))) (pa_cons (pe_callB call_isX rfl n.isi boot_isinstance (pa_cons (pv 0) (pa_cons (pe_glob (v := .ref (c 4)) rfl (n.cl 4 (by decide)) rfl) pa_nil))) (pa_cons (pe_callB call_isX rfl n.isi boot_isinstance (pa_cons (pv 0) (pa_cons (pe_glob (v := .ref (c 5)) rfl (n.cl 5 (by decide)) rfl) pa_nil))) pa_nil))))))
  (pss_cons (ps_set (i := 1) scK.nd rfl (Or.inl rfl) (pe_op op_addX (pv 1) (pe_lst (pa_cons (pe_callB call_isX rfl n.isi boot_isinstance (pa_cons (pv 0) (pa_cons (pe_glob (v := .ref (c 6)) rfl (n.cl 6 (by decide)) rfl) pa_nil))) (pa_cons (pe_callB call_isX rfl n.isi boot_isinstance (pa_cons (pv 0) (pa_cons (pe_glob (v := .ref (c 7)) rfl (n.cl 7 (by decide)) rfl) pa_nil))) (pa_cons (pe_callB call_isX rfl n.isi boot_isinstance (pa_cons (pv 0) (pa_cons (pe_glob (v := .ref (c 8)) rfl (n.cl 8 (by decide)) rfl) pa_nil))) pa_nil))))))
  (pss_one (ps_ret (pe_op op_addX (pv 1) (pe_lst (pa_cons (pe_callB call_isX rfl n.isi boot_isinstance (pa_cons (pv 0) (pa_cons (pe_glob (v := .ref (c 9)) rfl (n.cl 9 (by decide)) rfl) pa_nil))) (pa_cons (pe_callB call_isX rfl n.isi boot_isinstance (pa_cons (pv 0) (pa_cons (pe_glob (v := .ref (c 10)) rfl (n.cl 10 (by decide)) rfl) pa_nil))) pa_nil))))))))
theorem pss_place (n : Nm mg c web) (kf : Kf K c web) (ini : ∀ i, i < 11 → Ini P w K mg base (c i) (cF i)) (hr : Room 3 (A.deeper (envOfC qual (defScope sPlace) s.heap.objs.size f cdv))) :
    PSs (cxOf (L2.CX P w) P w K mg base ["thing", "found"] qual (defScope sPlace) f cdv A outer s H E) (defBody sPlace) (t_place K c) :=
  pss_cons (ps_set (i := 1) scP.nd rfl (Or.inl rfl) (pe_lst (pa_cons (pe_mk1 (kf.ox 0 (by decide)) (ini 0 (by decide)) (hr.mono (by decide)) rfl (n.cl 0 (by decide)) (pv 0)) (pa_cons (pe_mk1 (kf.ox 1 (by decide)) (ini 1 (by decide)) (hr.mono (by decide)) rfl (n.cl 1 (by decide)) (pv 0)) (pa_cons (pe_mk1 (kf.ox 2 (by decide)) (ini 2 (by decide)) (hr.mono (by decide)) rfl (n.cl 2 (by decide)) (pv 0)) (pa_cons (pe_mk1 (kf.ox 3 (by decide)) (ini 3 (by decide)) (hr.mono (by decide)) rfl (n.cl 3 (by decide)) (pv 0)) (pa_cons (pe_mk1 (kf.ox 4 (by decide)) (ini 4 (by decide)) (hr.mono (by decide)) rfl (n.cl 4 (by decide)) (pv 0)) (pa_cons (pe_mk1 (kf.ox 5 (by decide)) (ini 5 (by decide)) (hr.mono (by decide)) rfl (n.cl 5 (by decide)) (pv 0)) pa_nil))))))))
  (pss_one (ps_ret (pe_op op_addX (pv 1) (pe_lst (pa_cons (pe_mk1 (kf.ox 6 (by decide)) (ini 6 (by decide)) (hr.mono (by decide)) rfl (n.cl 6 (by decide)) (pv 0)) (pa_cons (pe_mk1 (kf.ox 7 (by decide)) (ini 7 (by decide)) (hr.mono (by decide)) rfl (n.cl 7 (by decide)) (pv 0)) (pa_cons (pe_mk1 (kf.ox 8 (by decide)) (ini 8 (by decide)) (hr.mono (by decide)) rfl (n.cl 8 (by decide)) (pv 0)) (pa_cons (pe_mk1 (kf.ox 9 (by decide)) (ini 9 (by decide)) (hr.mono (by decide)) rfl (n.cl 9 (by decide)) (pv 0)) (pa_cons (pe_mk1 (kf.ox 10 (by decide)) (ini 10 (by decide)) (hr.mono (by decide)) rfl (n.cl 10 (by decide)) (pv 0)) pa_nil)))))))))
theorem pss_name (n : Nm mg c web) (kf : Kf K c web) (ini : ∀ i, i < 11 → Ini P w K mg base (c i) (cF i)) (hr : Room 3 (A.deeper (envOfC qual (defScope sName) s.heap.objs.size f cdv))) :
    PSs (cxOf (L2.CX P w) P w K mg base ["thing", "found"] qual (defScope sName) f cdv A outer s H E) (defBody sName) (t_name K c) :=
  pss_cons (ps_set (i := 1) scN.nd rfl (Or.inl rfl) (pe_lst (pa_cons (pe_mk2 (kf.ox 0 (by decide)) (ini 0 (by decide)) (hr.mono (by decide)) rfl (n.cl 0 (by decide)) (pv 0)) (pa_cons (pe_mk2 (kf.ox 1 (by decide)) (ini 1 (by decide)) (hr.mono (by decide)) rfl (n.cl 1 (by decide)) (pv 0)) (pa_cons (pe_mk2 (kf.ox 2 (by decide)) (ini 2 (by decide)) (hr.mono (by decide)) rfl (n.cl 2 (by decide)) (pv 0)) (pa_cons (pe_mk2 (kf.ox 3 (by decide)) (ini 3 (by decide)) (hr.mono (by decide)) rfl (n.cl 3 (by decide)) (pv 0)) pa_nil))))))
  (pss_cons (ps_set (i := 1) scN.nd rfl (Or.inl rfl) (pe_op op_addX (pv 1) (pe_lst (pa_cons (pe_mk2 (kf.ox 4 (by decide)) (ini 4 (by decide)) (hr.mono (by decide)) rfl (n.cl 4 (by decide)) (pv 0)) (pa_cons (pe_mk2 (kf.ox 5 (by decide)) (ini 5 (by decide)) (hr.mono (by decide)) rfl (n.cl 5 (by decide)) (pv 0)) (pa_cons (pe_mk2 (kf.ox 6 (by decide)) (ini 6 (by decide)) (hr.mono (by decide)) rfl (n.cl 6 (by decide)) (pv 0)) (pa_cons (pe_mk2 (kf.ox 7 (by decide)) (ini 7 (by decide)) (hr.mono (by decide)) rfl (n.cl 7 (by decide)) (pv 0)) pa_nil)))))))
  (pss_one (ps_ret (pe_op op_addX (pv 1) (pe_lst (pa_cons (pe_mk2 (kf.ox 8 (by decide)) (ini 8 (by decide)) (hr.mono (by decide)) rfl (n.cl 8 (by decide)) (pv 0)) (pa_cons (pe_mk2 (kf.ox 9 (by decide)) (ini 9 (by decide)) (hr.mono (by decide)) rfl (n.cl 9 (by decide)) (pv 0)) (pa_cons (pe_mk2 (kf.ox 10 (by decide)) (ini 10 (by decide)) (hr.mono (by decide)) rfl (n.cl 10 (by decide)) (pv 0)) pa_nil))))))))
theorem pss_stored (hu : (A.deeper (envOfC qual (defScope sStored) s.heap.objs.size f cdv)).units + 1 < cLine) :
    PSs (cxOf (L2.CX P w) P w K mg base ["errors", "found", "error"] qual (defScope sStored) f cdv A outer s H E) (defBody sStored) (t_stored K) :=
  have ix : ∀ {i : Int} {a b : Nat} {p pos p2 : Pos} {ft : Str}, True := fun {_ _ _ _ _ _ _} => trivial
  pss_cons (ps_set (i := 1) scS.nd rfl (Or.inl rfl) (pe_op op_addX (pe_lc (own := [("error", 2)]) (g := gName 2) (tt := tYes) rfl scS.nd (pi_list (pe_slice sl_list (pv 0) po_none (po_some pe_int))) (blkOk_by (N := ["errors", "found", "error"]) (sc := defScope sStored) (by decide +kernel)) (fun _ _ _ _ _ => pg_name (i := 2) scS.nd rfl (Or.inl rfl)) (fun _ _ _ _ _ => pts_nil) (fun _ _ _ _ _ => pe_xv (pv 2)))
    (pe_lst (pa_cons (pe_xv (pe_ix (ix_any hu) (pv 0) pe_int (by intro _ _; rfl))) (pa_cons (pe_xv (pe_ix (ix_any hu) (pv 0) pe_int (by intro _ _; rfl))) pa_nil)))))
  (pss_one (ps_ret (pe_op op_addX (pv 1) (pe_lst (pa_cons (pe_xv (pe_ix (ix_any hu) (pv 0) pe_int (by intro _ _; rfl))) (pa_cons (pe_xv (pe_ix (ix_any hu) (pv 0) pe_int (by intro _ _; rfl))) (pa_cons (pe_xv (pe_ix (ix_any hu) (pv 0) pe_int (by intro _ _; rfl))) pa_nil)))))))
theorem pss_pick (n : Nm mg c web) (cD : Cal P w K mg base "_law_draw" 2 (toSp spDraw)) (hr : Room 2 (A.deeper (envOfC qual (defScope sPick) s.heap.objs.size f cdv))) :
    PSs (cxOf (L2.CX P w) P w K mg base ["source", "things"] qual (defScope sPick) f cdv A outer s H E) (defBody sPick) (t_pick K) :=
  have hu : (A.deeper (envOfC qual (defScope sPick) s.heap.objs.size f cdv)).units + 1 < cLine := by
    have := hr.un
    omega
  pss_one (ps_ret (pe_ix (ix_any hu) (pv 1) (pe_cal cD hr rfl (pa_cons (pv 0) (pa_cons (pe_callB call_lenX rfl n.len boot_len (pa_cons (pv 1) pa_nil)) pa_nil))) (by intro _ _; rfl)))
end
end K61


namespace K61
open PySem PySem.Spec PyProof.Rows L2 DL GX TL
/-! ### the things -/
inductive Atm : V → PyData → Prop where
  | non : Atm .non .none
  | bl : Atm (.bl true) (.bool true)
  | sa : Atm (.str "a") (.str "a")
  | sx : Atm (.str "x") (.str "x")
  | int (i : Int) (h0 : -10 ≤ i) (h1 : i < 100) : Atm (.int i) (.int i)
def kA : Key := .inr "a"
def kL : Key := .inr "more"
inductive Thg (H : Hp) (n : Nat) : V → Prop where
  | at {v : V} {d : PyData} (h : Atm v d) : Thg H n v
  | ls {a : Addr} {xs : List V} (e : H a = some (.lst xs)) (h : ∀ x ∈ xs, ∃ d, Atm x d) (l : xs.length ≤ n) : Thg H n (.ref a)
  | tp {a : Addr} (e : H a = some (.tup [.int 1])) : Thg H n (.ref a)
  | dc {a : Addr} {kvs : List (Key × V)} (e : H a = some (.dK kvs)) (h : kvs = [(kA, .int 1)] ∨ kvs = [(kA, .int 1), (kL, .int 0)]) : Thg H n (.ref a)
theorem Thg.mono {H H' : Hp} {n m : Nat} {v : V} (h : Thg H n v) (l : n ≤ m) (e : ∀ a, v = .ref a → ∀ o, H a = some o → H' a = some o) : Thg H' m v := by
  cases h with
  | «at» h => exact .at h
  | ls e1 h l' => exact .ls (e _ rfl _ e1) h (Nat.le_trans l' l)
  | tp e1 => exact .tp (e _ rfl _ e1)
  | dc e1 h => exact .dc (e _ rfl _ e1) h
/-- an object that is no thing -/
def NoT (o : HO) : Prop := (∀ xs, o = .lst xs → ∃ y ∈ xs, ∃ a, y = V.ref a) ∧ (∀ xs, o ≠ .tup xs) ∧ ∀ kvs, o ≠ .dK kvs
theorem Thg.ne {H : Hp} {n : Nat} {x : V} {b : Addr} {o : HO} (h : Thg H n x) (hb : H b = some o) (no : NoT o) : V.ref b ≠ x := by
  rintro rfl
  cases h with
  | «at» h => cases h
  | ls e1 h l =>
    rw [hb] at e1
    cases e1
    obtain ⟨y, hy, a, rfl⟩ := no.1 _ rfl
    obtain ⟨d, z⟩ := h _ hy
    cases z
  | tp e1 =>
    rw [hb] at e1
    cases e1
    exact no.2.1 _ rfl
  | dc e1 h =>
    rw [hb] at e1
    cases e1
    exact no.2.2 _ rfl
theorem noT_frz {o : Obj} {u : HO} : NoT (.frz o u) := ⟨fun _ z => (nomatch z), fun _ z => (nomatch z), fun _ z => (nomatch z)⟩
theorem noT_ext {φ : Heap → Prop} : NoT (.ext φ) := ⟨fun _ z => (nomatch z), fun _ z => (nomatch z), fun _ z => (nomatch z)⟩
theorem noT_exo {e C : Addr} {d : Option Addr} : NoT (exo e C d) := noT_ext
theorem noT_exd {e : Addr} {fs : List (Str × V)} : NoT (exd e fs) := noT_ext
/-! ### what they show as -/
theorem int_short : ∀ n : Fin 110, (Str.ofString (toString ((n.val : Int) - 10))).length ≤ 3 ∧ ((n.val : Int) - 10).natAbs.log2 < 8 := by decide +kernel
theorem Atm.short {v : V} {d : PyData} (h : Atm v d) : d.shown.length ≤ 10 ∧ d.showable = true ∧ d.depth = 0 ∧ d.hasDict = false := by
  cases h with
  | non => decide +kernel
  | bl => decide +kernel
  | sa => decide +kernel
  | sx => decide +kernel
  | int i h0 h1 =>
    have q := int_short ⟨(i + 10).toNat, by omega⟩
    have e : (((i + 10).toNat : Nat) : Int) - 10 = i := by omega
    simp only [e] at q
    refine ⟨?_, ?_, rfl, rfl⟩
    · simp only [PyData.shown]
      exact Nat.le_trans q.1 (by decide)
    · simp only [PyData.showable, decide_eq_true_eq]
      omega
theorem Atm.sh {H : Hp} {v : V} {d : PyData} (h : Atm v d) : GX.Sh H v d true := by
  cases h with
  | non => exact .non
  | bl => exact .bl _
  | sa => exact .str _
  | sx => exact .str _
  | int i _ _ => exact .int i
theorem atms_sh : ∀ {xs : List V}, (∀ x ∈ xs, ∃ d, Atm x d) → ∃ ds, (∀ H, GX.Shs H xs ds true) ∧ PyData.showableAll ds = true ∧ PyData.depthAll ds = 0 ∧ PyData.hasDictAll ds = false ∧ piled (PyData.shownAll ds) ≤ 12 * xs.length
  | [], _ => ⟨[], fun _ => .nil, rfl, rfl, rfl, by decide⟩
  | x :: xs, h => by
    obtain ⟨d, hd⟩ := h x List.mem_cons_self
    obtain ⟨ds, h1, h2, h3, h4, h5⟩ := atms_sh fun y hy => h y (List.mem_cons_of_mem _ hy)
    obtain ⟨a1, a2, a3, a4⟩ := hd.short
    refine ⟨d :: ds, fun H => .cons (c := true) (c' := true) hd.sh (h1 H), by simp only [PyData.showableAll, a2, h2, Bool.and_self], by simp only [PyData.depthAll, a3, h3, Nat.max_self], by simp only [PyData.hasDictAll, a4, h4, Bool.or_self], ?_⟩
    simp only [PyData.shownAll]
    rw [piled_cons, List.length_cons]
    omega
theorem text_from : ∀ (ts : List Str) (k : Nat) (acc : Str), (textFrom k acc ts).length ≤ acc.length + piled ts
  | [], k, acc => Nat.le_add_right _ _
  | t :: ts, k, acc => by
    have sp : (((if k > 0 then ", " else "" : String) : Str)).length ≤ 2 := by split <;> decide +kernel
    have q := text_from ts (k + 1) (acc ++ ((if k > 0 then ", " else "" : String) : Str) ++ t)
    rw [strLen_append, strLen_append] at q
    rw [piled_cons]
    show (textFrom (k + 1) (acc ++ ((if k > 0 then ", " else "" : String) : Str) ++ t) ts).length ≤ _
    omega
theorem list_text (ts : List Str) : (listText ts).length ≤ piled ts + 2 := by
  unfold listText
  rw [strLen_append]
  have e2 : ((("]" : String) : Str)).length = 1 := rfl
  have e1 : ((("[" : String) : Str)).length = 1 := rfl
  have q := text_from ts 0 "["
  rw [e1] at q
  rw [e2]
  omega
/-- a thing's text is short -/
theorem Thg.sh {H : Hp} {n : Nat} {v : V} (h : Thg H n v) (l : n ≤ 20) : ∃ d c, (∀ H' : Hp, (∀ a, v = .ref a → ∀ o, H a = some o → H' a = some o) → GX.Sh H' v d c) ∧ (d.hasDict = true → c = true) ∧ d.showable = true ∧ d.depth ≤ 2 ∧ d.shown.length ≤ 300 := by
  cases h with
  | «at» h =>
    obtain ⟨a1, a2, a3, a4⟩ := h.short
    exact ⟨_, true, fun _ _ => h.sh, fun _ => rfl, a2, by omega, by omega⟩
  | ls e h l' =>
    obtain ⟨ds, h1, h2, h3, h4, h5⟩ := atms_sh h
    refine ⟨.list ds, false, fun H' k => .lst (.inl (k _ rfl _ e)) (h1 H'), fun z => ?_, by simpa only [PyData.showable] using h2, by simp only [PyData.depth, h3]; decide, ?_⟩
    · simp only [PyData.hasDict, h4] at z
      cases z
    · simp only [PyData.shown]
      have := list_text (PyData.shownAll ds)
      omega
  | tp e => exact ⟨.tuple [.int 1], true, fun H' k => .tup (k _ rfl _ e) (.cons (c := true) (c' := true) (.int 1) .nil), fun _ => rfl, by decide +kernel, by decide +kernel, by decide +kernel⟩
  | dc e h =>
    rcases h with rfl | rfl
    · exact ⟨.dict [(.str "a", .int 1)], true, fun H' k => .dct (ds := [.int 1]) (k _ rfl _ e) (.cons (c := true) (c' := true) (.int 1) .nil), fun _ => rfl, by decide +kernel, by decide +kernel, by decide +kernel⟩
    · exact ⟨.dict [(.str "a", .int 1), (.str "more", .int 0)], true, fun H' k => .dct (ds := [.int 1, .int 0]) (k _ rfl _ e) (.cons (c := true) (c' := true) (.int 1) (.cons (c := true) (c' := true) (.int 0) .nil)), fun _ => rfl, by decide +kernel, by decide +kernel, by decide +kernel⟩
/-- eleven times the same thing in a list: what repr tells -/
theorem rep_sh {H : Hp} {v : V} {d : PyData} {c : Bool} (h : GX.Sh H v d c) : ∀ n : Nat, GX.Shs H (List.replicate (n + 1) v) (List.replicate (n + 1) d) c
  | 0 => by
    have q : GX.Shs H [v] [d] (c && true) := .cons h .nil
    rw [Bool.and_true] at q
    exact q
  | n + 1 => by
    have q : GX.Shs H (v :: List.replicate (n + 1) v) (d :: List.replicate (n + 1) d) (c && c) := .cons h (rep_sh h n)
    rw [Bool.and_self] at q
    exact q
theorem rep_data (d : PyData) (h1 : d.showable = true) (h2 : d.depth ≤ 2) (h3 : d.shown.length ≤ 300) : ∀ n : Nat, PyData.showableAll (List.replicate n d) = true ∧ PyData.depthAll (List.replicate n d) ≤ 2 ∧ piled (PyData.shownAll (List.replicate n d)) ≤ 302 * n ∧ (PyData.hasDictAll (List.replicate n d) = true → d.hasDict = true)
  | 0 => ⟨rfl, (by show 0 ≤ 2; decide), (by show 0 ≤ 0; decide), fun z => by cases z⟩
  | n + 1 => by
    obtain ⟨a1, a2, a3, a4⟩ := rep_data d h1 h2 h3 n
    rw [List.replicate_succ]
    refine ⟨by simp only [PyData.showableAll, h1, a1, Bool.and_self], by simp only [PyData.depthAll]; omega, ?_, fun z => ?_⟩
    · simp only [PyData.shownAll]
      rw [piled_cons]
      omega
    · simp only [PyData.hasDictAll, Bool.or_eq_true] at z
      rcases z with z | z
      · exact z
      · exact a4 z
theorem eleven_repr {H : Hp} {n : Nat} {v : V} (h : Thg H n v) (l : n ≤ 20) : ∃ t : Str, ∀ (H' : Hp) (p : Addr) (Q : VK), (∀ a, v = .ref a → ∀ o, H a = some o → H' a = some o) → H' p = some (.lst (List.replicate 11 v)) → Q (.str t) H' → GX.rRepr [.ref p] H' Q := by
  obtain ⟨d, c, hs, hc, s1, s2, s3⟩ := h.sh l
  obtain ⟨a1, a2, a3, a4⟩ := rep_data d s1 s2 s3 (10 + 1)
  refine ⟨listText (PyData.shownAll (List.replicate (10 + 1) d)), fun H' p Q e hp q => ⟨p, _, _, c, rfl, .inl hp, rep_sh (hs H' e) 10, fun z => hc (a4 z), a1, by omega, ?_, q⟩⟩
  have := list_text (PyData.shownAll (List.replicate (10 + 1) d))
  rw [sizeLine_eq]
  omega
end K61


namespace K61
open PySem PySem.Spec PyProof.Rows L2 DL GX TL
section
variable {K : PySem.W.Frag} {c : Nat → Addr} {web : Addr} {x : V}
theorem is_ok (F : Kf K c web) {s : Nat} {σ : L2.St} {H : Hp} {Q : VK} {a d : Addr} {fs : List (Str × V)} {i : Nat} {b : Bool} {v : V} {cv : Value} (hi : i < 11) (h0 : σ[s]? = some (some (.ref a))) (h : GX.At H a (c i) d fs) (hv : ClsV v cv) (hk : PySem.W.kitOne K (.ref (c i)) cv = some b) (q : Q (.bl b) H) :
    tIs K s v σ H Q := ⟨_, h0, a, c i, d, fs, v, cv, b, rfl, h, F.ec i hi, hv, hk, q⟩
theorem is_c (F : Kf K c web) {s : Nat} {σ : L2.St} {H : Hp} {Q : VK} {a d : Addr} {fs : List (Str × V)} {i : Nat} (hi : i < 11) (j : Nat) (hj : j < 11) (h0 : σ[s]? = some (some (.ref a))) (h : GX.At H a (c i) d fs) (q : Q (.bl (decide (j = i))) H) :
    tIs K s (.ref (c j)) σ H Q := is_ok F hi h0 h (.own _) (F.is i hi j hj) q
/-- lists put together -/
theorem cat_ok {H : Hp} {p q : Addr} {xs ys : List V} {Q : VK} (hp : H p = some (.lst xs)) (hq : H q = some (.lst ys)) (z : xs.length + ys.length ≤ 1000) (k : ∀ r, H r = none → Q (.ref r) (upd H r (.lst (xs ++ ys)))) : rAddX (.ref p) (.ref q) H Q :=
  .inr (.inr ⟨p, q, xs, ys, rfl, rfl, hp, hq, le_size _ z, k⟩)
def bits (i : Nat) (js : List Nat) : List V := js.map fun j => .bl (decide (j = i))
def spKinds (c : Nat → Addr) : Sp := fun vs H Q _ => ∃ (a d : Addr) (fs : List (Str × V)) (i : Nat), vs = [.ref a] ∧ i < 11 ∧ GX.At H a (c i) d fs ∧ ∀ H' p, Ex H H' → H' p = some (.lst (bits i (List.range 11))) → Q (.ref p) H'
theorem pure_kinds (F : Kf K c web) (vs : List V) (H : Hp) (Q : VK) (E : XK) (h : spKinds c vs H Q E) : t_kinds K c { nx := fun _ H' => Q .non H', rt := Q } (start ["error", "found"] vs) H := by
  obtain ⟨a, d, fs, i, rfl, hi, h, q⟩ := h
  show t_kinds K c _ [some (.ref a), none] H
  refine seq_i (asg_i (lst_i ?_))
  refine cons_i (is_c F hi 0 (by decide) rfl h (cons_i (is_c F hi 1 (by decide) rfl h (cons_i (is_c F hi 2 (by decide) rfl h (nil_i ⟨le_size _ (Nat.le_of_ble_eq_true rfl), fun p1 h1 => ?_⟩))))))
  refine gn_i ?_
  have e1 : Ex H (upd H p1 (.lst [.bl (decide (0 = i)), .bl (decide (1 = i)), .bl (decide (2 = i))])) := Ex.new h1
  have c1 : upd H p1 (.lst [.bl (decide (0 = i)), .bl (decide (1 = i)), .bl (decide (2 = i))]) p1 = some (.lst (bits i [0, 1, 2])) := upd_same
  generalize upd H p1 (.lst [.bl (decide (0 = i)), .bl (decide (1 = i)), .bl (decide (2 = i))]) = H1 at e1 c1 ⊢
  dsimp only
  have g1 := ats e1 h
  refine seq_i (asg_i (op_i (v_i rfl (lst_i ?_))))
  refine cons_i (is_c F hi 3 (by decide) rfl g1 (cons_i (is_c F hi 4 (by decide) rfl g1 (cons_i (is_c F hi 5 (by decide) rfl g1 (nil_i ⟨le_size _ (Nat.le_of_ble_eq_true rfl), fun p2 h2 => ?_⟩))))))
  refine cat_ok (xs := bits i [0, 1, 2]) (ys := bits i [3, 4, 5]) (upd_some h2 c1) upd_same (Nat.le_of_ble_eq_true rfl) fun p3 h3 => ?_
  refine gn_i ?_
  have e3 : Ex H1 (upd (upd H1 p2 (.lst [.bl (decide (3 = i)), .bl (decide (4 = i)), .bl (decide (5 = i))])) p3 (.lst (bits i [0, 1, 2] ++ bits i [3, 4, 5]))) := (Ex.new h2).trans (Ex.new h3)
  have c3 : upd (upd H1 p2 (.lst [.bl (decide (3 = i)), .bl (decide (4 = i)), .bl (decide (5 = i))])) p3 (.lst (bits i [0, 1, 2] ++ bits i [3, 4, 5])) p3 = some (.lst (bits i [0, 1, 2, 3, 4, 5])) := upd_same
  generalize upd (upd H1 p2 (.lst [.bl (decide (3 = i)), .bl (decide (4 = i)), .bl (decide (5 = i))])) p3 (.lst (bits i [0, 1, 2] ++ bits i [3, 4, 5])) = H3 at e3 c3 ⊢
  dsimp only
  have g3 := ats e3 g1
  refine seq_i (asg_i (op_i (v_i rfl (lst_i ?_))))
  refine cons_i (is_c F hi 6 (by decide) rfl g3 (cons_i (is_c F hi 7 (by decide) rfl g3 (cons_i (is_c F hi 8 (by decide) rfl g3 (nil_i ⟨le_size _ (Nat.le_of_ble_eq_true rfl), fun p4 h4 => ?_⟩))))))
  refine cat_ok (xs := bits i [0, 1, 2, 3, 4, 5]) (ys := bits i [6, 7, 8]) (upd_some h4 c3) upd_same (Nat.le_of_ble_eq_true rfl) fun p5 h5 => ?_
  refine gn_i ?_
  have e5 : Ex H3 (upd (upd H3 p4 (.lst [.bl (decide (6 = i)), .bl (decide (7 = i)), .bl (decide (8 = i))])) p5 (.lst (bits i [0, 1, 2, 3, 4, 5] ++ bits i [6, 7, 8]))) := (Ex.new h4).trans (Ex.new h5)
  have c5 : upd (upd H3 p4 (.lst [.bl (decide (6 = i)), .bl (decide (7 = i)), .bl (decide (8 = i))])) p5 (.lst (bits i [0, 1, 2, 3, 4, 5] ++ bits i [6, 7, 8])) p5 = some (.lst (bits i [0, 1, 2, 3, 4, 5, 6, 7, 8])) := upd_same
  generalize upd (upd H3 p4 (.lst [.bl (decide (6 = i)), .bl (decide (7 = i)), .bl (decide (8 = i))])) p5 (.lst (bits i [0, 1, 2, 3, 4, 5] ++ bits i [6, 7, 8])) = H5 at e5 c5 ⊢
  dsimp only
  have g5 := ats e5 g3
  refine ret_i (op_i (v_i rfl (lst_i ?_)))
  refine cons_i (is_c F hi 9 (by decide) rfl g5 (cons_i (is_c F hi 10 (by decide) rfl g5 (nil_i ⟨le_size _ (Nat.le_of_ble_eq_true rfl), fun p6 h6 => ?_⟩))))
  refine cat_ok (xs := bits i [0, 1, 2, 3, 4, 5, 6, 7, 8]) (ys := bits i [9, 10]) (upd_some h6 c5) upd_same (Nat.le_of_ble_eq_true rfl) fun p7 h7 => ?_
  have er : bits i (List.range 11) = bits i [0, 1, 2, 3, 4, 5, 6, 7, 8] ++ bits i [9, 10] := rfl
  exact q _ p7 (e1.trans (e3.trans (e5.trans ((Ex.new h6).trans (Ex.new h7))))) (by rw [er, upd_same])
/-! ### the makers -/
/-- the errors from i on that bear the thing -/
inductive Er (c : Nat → Addr) (x : V) (H : Hp) : Nat → List V → Prop where
  | nil (i : Nat) : Er c x H i []
  | cons {i : Nat} {a d : Addr} {es : List V} : GX.At H a (c i) d [(cF i, x)] → Er c x H (i + 1) es → Er c x H i (.ref a :: es)
theorem Er.ex {H H' : Hp} (e : Ex H H') : ∀ {i : Nat} {es : List V}, Er c x H i es → Er c x H' i es
  | _, _, .nil i => .nil i
  | _, _, .cons h r => .cons (ats e h) (r.ex e)
theorem Er.app {H : Hp} : ∀ {i : Nat} {es fs : List V}, Er c x H i es → Er c x H (i + es.length) fs → Er c x H i (es ++ fs)
  | _, _, fs, .nil i, h => h
  | _, _, fs, .cons (i := i) (es := es) h r, h2 => by
    refine .cons h (r.app ?_)
    rw [show i + 1 + es.length = i + (es.length + 1) by omega]
    exact h2
theorem Er.get {H : Hp} : ∀ {i : Nat} {es : List V} {j : Nat}, Er c x H i es → j < es.length → ∃ a d, es[j]? = some (.ref a) ∧ GX.At H a (c (i + j)) d [(cF (i + j), x)]
  | _, _, j, .nil i, h => absurd h (Nat.not_lt_zero _)
  | _, _, 0, .cons h r, _ => ⟨_, _, rfl, h⟩
  | _, _, j + 1, .cons (i := i) h r, hj => by
    obtain ⟨a, d, h1, h2⟩ := r.get (j := j) (Nat.lt_of_succ_lt_succ hj)
    rw [show i + 1 + j = i + (j + 1) by omega] at h2
    exact ⟨a, d, h1, h2⟩
/-- C_i(thing), then the others -/
theorem mk_c (F : Kf K c web) (i : Nat) (hi : i < 11) {tr : TA} {σ : L2.St} {H : Hp} {Q : List V → Hp → Prop} (h0 : σ[0]? = some (some x))
    (q : ∀ (H' : Hp) (a d : Addr), Ex H H' → GX.At H' a (c i) d [(cF i, x)] → tr σ H' fun xs H2 => Q (.ref a :: xs) H2) : tCons (tMkE (c i) (spInit K (cF i)) (tCons (tVar 0) tNil)) tr σ H Q :=
  cons_i (mk_ok (fun R z => v_i h0 z) (F.ox i hi) (F.no i hi) q)
def spBy (c : Nat → Addr) : Sp := fun vs H Q _ => ∃ x : V, vs = [x] ∧ ∀ H' p es, Ex H H' → H' p = some (.lst es) → es.length = 11 → Er c x H' 0 es → Q (.ref p) H'
end
end K61


namespace K61
open PySem PySem.Spec PyProof.Rows L2 DL GX TL
section
variable {K : PySem.W.Frag} {c : Nat → Addr} {web : Addr}
theorem pure_place (F : Kf K c web) (vs : List V) (H0 : Hp) (Q : VK) (E : XK) (h : spBy c vs H0 Q E) : t_place K c { nx := fun _ H' => Q .non H', rt := Q } (start ["thing", "found"] vs) H0 := by
  obtain ⟨x, rfl, q⟩ := h
  show t_place K c _ [some x, none] H0
  refine seq_i (asg_i (lst_i ?_))
  refine mk_c F 0 (by decide) rfl fun H1 a0 d0 x1 A0 => ?_
  refine mk_c F 1 (by decide) rfl fun H2 a1 d1 x2 A1 => ?_
  refine mk_c F 2 (by decide) rfl fun H3 a2 d2 x3 A2 => ?_
  refine mk_c F 3 (by decide) rfl fun H4 a3 d3 x4 A3 => ?_
  refine mk_c F 4 (by decide) rfl fun H5 a4 d4 x5 A4 => ?_
  refine mk_c F 5 (by decide) rfl fun H6 a5 d5 x6 A5 => ?_
  refine nil_i ⟨le_size _ (Nat.le_of_ble_eq_true rfl), fun p7 h7 => ?_⟩
  refine gn_i ?_
  have x7 : Ex H6 (upd H6 p7 (.lst [V.ref a0, V.ref a1, V.ref a2, V.ref a3, V.ref a4, V.ref a5])) := Ex.new h7
  have c7 : upd H6 p7 (.lst [V.ref a0, V.ref a1, V.ref a2, V.ref a3, V.ref a4, V.ref a5]) p7 = some (.lst [V.ref a0, V.ref a1, V.ref a2, V.ref a3, V.ref a4, V.ref a5]) := upd_same
  generalize upd H6 p7 (.lst [V.ref a0, V.ref a1, V.ref a2, V.ref a3, V.ref a4, V.ref a5]) = H7 at x7 c7 ⊢
  dsimp only
  refine ret_i (op_i (v_i rfl (lst_i ?_)))
  refine mk_c F 6 (by decide) rfl fun H8 a6 d6 x8 A6 => ?_
  refine mk_c F 7 (by decide) rfl fun H9 a7 d7 x9 A7 => ?_
  refine mk_c F 8 (by decide) rfl fun H10 a8 d8 x10 A8 => ?_
  refine mk_c F 9 (by decide) rfl fun H11 a9 d9 x11 A9 => ?_
  refine mk_c F 10 (by decide) rfl fun H12 a10 d10 x12 A10 => ?_
  refine nil_i ⟨le_size _ (Nat.le_of_ble_eq_true rfl), fun p13 h13 => ?_⟩
  have k14 := (x12 _ _ (x11 _ _ (x10 _ _ (x9 _ _ (x8 _ _ c7)))))
  refine cat_ok (xs := [V.ref a0, V.ref a1, V.ref a2, V.ref a3, V.ref a4, V.ref a5]) (ys := [V.ref a6, V.ref a7, V.ref a8, V.ref a9, V.ref a10]) (upd_some h13 k14) upd_same (Nat.le_of_ble_eq_true rfl) fun p14 h14 => ?_
  have x14 : Ex H12 (upd (upd H12 p13 (.lst [V.ref a6, V.ref a7, V.ref a8, V.ref a9, V.ref a10])) p14 (.lst ([V.ref a0, V.ref a1, V.ref a2, V.ref a3, V.ref a4, V.ref a5] ++ [V.ref a6, V.ref a7, V.ref a8, V.ref a9, V.ref a10]))) := (Ex.new h13).trans (Ex.new h14)
  have c14 : upd (upd H12 p13 (.lst [V.ref a6, V.ref a7, V.ref a8, V.ref a9, V.ref a10])) p14 (.lst ([V.ref a0, V.ref a1, V.ref a2, V.ref a3, V.ref a4, V.ref a5] ++ [V.ref a6, V.ref a7, V.ref a8, V.ref a9, V.ref a10])) p14 = some (.lst [V.ref a0, V.ref a1, V.ref a2, V.ref a3, V.ref a4, V.ref a5, V.ref a6, V.ref a7, V.ref a8, V.ref a9, V.ref a10]) := upd_same
  generalize upd (upd H12 p13 (.lst [V.ref a6, V.ref a7, V.ref a8, V.ref a9, V.ref a10])) p14 (.lst ([V.ref a0, V.ref a1, V.ref a2, V.ref a3, V.ref a4, V.ref a5] ++ [V.ref a6, V.ref a7, V.ref a8, V.ref a9, V.ref a10])) = H14 at x14 c14 ⊢
  exact q _ p14 [V.ref a0, V.ref a1, V.ref a2, V.ref a3, V.ref a4, V.ref a5, V.ref a6, V.ref a7, V.ref a8, V.ref a9, V.ref a10] (x1.trans (x2.trans (x3.trans (x4.trans (x5.trans (x6.trans (x7.trans (x8.trans (x9.trans (x10.trans (x11.trans (x12.trans x14)))))))))))) c14 rfl (.cons (ats (x2.trans (x3.trans (x4.trans (x5.trans (x6.trans (x7.trans (x8.trans (x9.trans (x10.trans (x11.trans (x12.trans x14))))))))))) A0) (.cons (ats (x3.trans (x4.trans (x5.trans (x6.trans (x7.trans (x8.trans (x9.trans (x10.trans (x11.trans (x12.trans x14)))))))))) A1) (.cons (ats (x4.trans (x5.trans (x6.trans (x7.trans (x8.trans (x9.trans (x10.trans (x11.trans (x12.trans x14))))))))) A2) (.cons (ats (x5.trans (x6.trans (x7.trans (x8.trans (x9.trans (x10.trans (x11.trans (x12.trans x14)))))))) A3) (.cons (ats (x6.trans (x7.trans (x8.trans (x9.trans (x10.trans (x11.trans (x12.trans x14))))))) A4) (.cons (ats (x7.trans (x8.trans (x9.trans (x10.trans (x11.trans (x12.trans x14)))))) A5) (.cons (ats (x9.trans (x10.trans (x11.trans (x12.trans x14)))) A6) (.cons (ats (x10.trans (x11.trans (x12.trans x14))) A7) (.cons (ats (x11.trans (x12.trans x14)) A8) (.cons (ats (x12.trans x14) A9) (.cons (ats x14 A10) (.nil 11))))))))))))
theorem pure_name (F : Kf K c web) (vs : List V) (H0 : Hp) (Q : VK) (E : XK) (h : spBy c vs H0 Q E) : t_name K c { nx := fun _ H' => Q .non H', rt := Q } (start ["thing", "found"] vs) H0 := by
  obtain ⟨x, rfl, q⟩ := h
  show t_name K c _ [some x, none] H0
  refine seq_i (asg_i (lst_i ?_))
  refine mk_c F 0 (by decide) rfl fun H1 a0 d0 x1 A0 => ?_
  refine mk_c F 1 (by decide) rfl fun H2 a1 d1 x2 A1 => ?_
  refine mk_c F 2 (by decide) rfl fun H3 a2 d2 x3 A2 => ?_
  refine mk_c F 3 (by decide) rfl fun H4 a3 d3 x4 A3 => ?_
  refine nil_i ⟨le_size _ (Nat.le_of_ble_eq_true rfl), fun p5 h5 => ?_⟩
  refine gn_i ?_
  have x5 : Ex H4 (upd H4 p5 (.lst [V.ref a0, V.ref a1, V.ref a2, V.ref a3])) := Ex.new h5
  have c5 : upd H4 p5 (.lst [V.ref a0, V.ref a1, V.ref a2, V.ref a3]) p5 = some (.lst [V.ref a0, V.ref a1, V.ref a2, V.ref a3]) := upd_same
  generalize upd H4 p5 (.lst [V.ref a0, V.ref a1, V.ref a2, V.ref a3]) = H5 at x5 c5 ⊢
  dsimp only
  refine seq_i (asg_i (op_i (v_i rfl (lst_i ?_))))
  refine mk_c F 4 (by decide) rfl fun H6 a4 d4 x6 A4 => ?_
  refine mk_c F 5 (by decide) rfl fun H7 a5 d5 x7 A5 => ?_
  refine mk_c F 6 (by decide) rfl fun H8 a6 d6 x8 A6 => ?_
  refine mk_c F 7 (by decide) rfl fun H9 a7 d7 x9 A7 => ?_
  refine nil_i ⟨le_size _ (Nat.le_of_ble_eq_true rfl), fun p10 h10 => ?_⟩
  have k11 := (x9 _ _ (x8 _ _ (x7 _ _ (x6 _ _ c5))))
  refine cat_ok (xs := [V.ref a0, V.ref a1, V.ref a2, V.ref a3]) (ys := [V.ref a4, V.ref a5, V.ref a6, V.ref a7]) (upd_some h10 k11) upd_same (Nat.le_of_ble_eq_true rfl) fun p11 h11 => ?_
  have x11 : Ex H9 (upd (upd H9 p10 (.lst [V.ref a4, V.ref a5, V.ref a6, V.ref a7])) p11 (.lst ([V.ref a0, V.ref a1, V.ref a2, V.ref a3] ++ [V.ref a4, V.ref a5, V.ref a6, V.ref a7]))) := (Ex.new h10).trans (Ex.new h11)
  have c11 : upd (upd H9 p10 (.lst [V.ref a4, V.ref a5, V.ref a6, V.ref a7])) p11 (.lst ([V.ref a0, V.ref a1, V.ref a2, V.ref a3] ++ [V.ref a4, V.ref a5, V.ref a6, V.ref a7])) p11 = some (.lst [V.ref a0, V.ref a1, V.ref a2, V.ref a3, V.ref a4, V.ref a5, V.ref a6, V.ref a7]) := upd_same
  refine gn_i ?_
  generalize upd (upd H9 p10 (.lst [V.ref a4, V.ref a5, V.ref a6, V.ref a7])) p11 (.lst ([V.ref a0, V.ref a1, V.ref a2, V.ref a3] ++ [V.ref a4, V.ref a5, V.ref a6, V.ref a7])) = H11 at x11 c11 ⊢
  dsimp only
  refine ret_i (op_i (v_i rfl (lst_i ?_)))
  refine mk_c F 8 (by decide) rfl fun H12 a8 d8 x12 A8 => ?_
  refine mk_c F 9 (by decide) rfl fun H13 a9 d9 x13 A9 => ?_
  refine mk_c F 10 (by decide) rfl fun H14 a10 d10 x14 A10 => ?_
  refine nil_i ⟨le_size _ (Nat.le_of_ble_eq_true rfl), fun p15 h15 => ?_⟩
  have k16 := (x14 _ _ (x13 _ _ (x12 _ _ c11)))
  refine cat_ok (xs := [V.ref a0, V.ref a1, V.ref a2, V.ref a3, V.ref a4, V.ref a5, V.ref a6, V.ref a7]) (ys := [V.ref a8, V.ref a9, V.ref a10]) (upd_some h15 k16) upd_same (Nat.le_of_ble_eq_true rfl) fun p16 h16 => ?_
  have x16 : Ex H14 (upd (upd H14 p15 (.lst [V.ref a8, V.ref a9, V.ref a10])) p16 (.lst ([V.ref a0, V.ref a1, V.ref a2, V.ref a3, V.ref a4, V.ref a5, V.ref a6, V.ref a7] ++ [V.ref a8, V.ref a9, V.ref a10]))) := (Ex.new h15).trans (Ex.new h16)
  have c16 : upd (upd H14 p15 (.lst [V.ref a8, V.ref a9, V.ref a10])) p16 (.lst ([V.ref a0, V.ref a1, V.ref a2, V.ref a3, V.ref a4, V.ref a5, V.ref a6, V.ref a7] ++ [V.ref a8, V.ref a9, V.ref a10])) p16 = some (.lst [V.ref a0, V.ref a1, V.ref a2, V.ref a3, V.ref a4, V.ref a5, V.ref a6, V.ref a7, V.ref a8, V.ref a9, V.ref a10]) := upd_same
  generalize upd (upd H14 p15 (.lst [V.ref a8, V.ref a9, V.ref a10])) p16 (.lst ([V.ref a0, V.ref a1, V.ref a2, V.ref a3, V.ref a4, V.ref a5, V.ref a6, V.ref a7] ++ [V.ref a8, V.ref a9, V.ref a10])) = H16 at x16 c16 ⊢
  exact q _ p16 [V.ref a0, V.ref a1, V.ref a2, V.ref a3, V.ref a4, V.ref a5, V.ref a6, V.ref a7, V.ref a8, V.ref a9, V.ref a10] (x1.trans (x2.trans (x3.trans (x4.trans (x5.trans (x6.trans (x7.trans (x8.trans (x9.trans (x11.trans (x12.trans (x13.trans (x14.trans x16))))))))))))) c16 rfl (.cons (ats (x2.trans (x3.trans (x4.trans (x5.trans (x6.trans (x7.trans (x8.trans (x9.trans (x11.trans (x12.trans (x13.trans (x14.trans x16)))))))))))) A0) (.cons (ats (x3.trans (x4.trans (x5.trans (x6.trans (x7.trans (x8.trans (x9.trans (x11.trans (x12.trans (x13.trans (x14.trans x16))))))))))) A1) (.cons (ats (x4.trans (x5.trans (x6.trans (x7.trans (x8.trans (x9.trans (x11.trans (x12.trans (x13.trans (x14.trans x16)))))))))) A2) (.cons (ats (x5.trans (x6.trans (x7.trans (x8.trans (x9.trans (x11.trans (x12.trans (x13.trans (x14.trans x16))))))))) A3) (.cons (ats (x7.trans (x8.trans (x9.trans (x11.trans (x12.trans (x13.trans (x14.trans x16))))))) A4) (.cons (ats (x8.trans (x9.trans (x11.trans (x12.trans (x13.trans (x14.trans x16)))))) A5) (.cons (ats (x9.trans (x11.trans (x12.trans (x13.trans (x14.trans x16))))) A6) (.cons (ats (x11.trans (x12.trans (x13.trans (x14.trans x16)))) A7) (.cons (ats (x13.trans (x14.trans x16)) A8) (.cons (ats (x14.trans x16) A9) (.cons (ats x16 A10) (.nil 11))))))))))))
end
end K61


namespace K61
open PySem PySem.Spec PyProof.Rows L2 DL GX TL
section
variable {K : PySem.W.Frag} {c : Nat → Addr} {web : Addr} {x : V}
theorem look1 (f : Str) (v : V) : List.lookup f [(f, v)] = some v := by simp [List.lookup]
theorem at_nat {xs : List V} {j : Nat} {v : V} (h : xs[j]? = some v) : atI xs (j : Nat) = some v := by
  have lj : j < xs.length := (List.getElem?_eq_some_iff.mp h).1
  unfold atI
  have e : ixN xs.length (j : Nat) = some j := by
    unfold ixN
    rw [if_pos (by omega), if_pos (by omega)]
    congr 1
  rw [e]
  exact h
/-- errors[j].field -/
theorem ex_ok (F : Kf K c web) {σ : L2.St} {H : Hp} {Q : VK} {p : Addr} {es : List V} (j : Nat) (hj : j < 11) (h0 : σ[0]? = some (some (.ref p))) (hp : H p = some (.lst es)) (hl : es.length = 11) (hE : Er c x H 0 es) (q : Q x H) : tXv K (cF j) (tOp (rIxX K) (tVar 0) (tC (.int (j : Nat)))) σ H Q := by
  obtain ⟨a, d, h1, h2⟩ := hE.get (j := j) (by omega)
  rw [Nat.zero_add] at h2
  exact op_i (v_i h0 (c_i (.inl (.inl ⟨p, es, (j : Nat), .ref a, rfl, rfl, .inl (.inl hp), at_nat h1, a, _, d, _, x, rfl, h2, F.xf j hj, F.no j hj, look1 _ _, q⟩))))
theorem cut6 {es : List V} (h : es.length = 11) : cutV es none (some 6) = es.take 6 := by
  unfold cutV
  rw [h]
  rfl
theorem cF_val : ∀ i, i < 6 → cF i = "value"
  | 0, _ => rfl
  | 1, _ => rfl
  | 2, _ => rfl
  | 3, _ => rfl
  | 4, _ => rfl
  | 5, _ => rfl
def spStored (c : Nat → Addr) : Sp := fun vs H Q _ => ∃ (p : Addr) (es : List V) (x : V), vs = [.ref p] ∧ H p = some (.lst es) ∧ es.length = 11 ∧ Er c x H 0 es ∧ ∀ H' q, Ex H H' → H' q = some (.lst (List.replicate 11 x)) → Q (.ref q) H'
theorem slice_i {r : V → Option Int → Option Int → Hp → VK → Prop} {te : TE} {tl th : TO} {σ : L2.St} {H : Hp} {Q : VK} (h : te σ H fun x H1 => tl σ H1 fun l H2 => th σ H2 fun u H3 => r x l u H3 Q) : tSl r te tl th σ H Q := h
theorem pure_stored (F : Kf K c web) (vs : List V) (H : Hp) (Q : VK) (E : XK) (h : spStored c vs H Q E) : t_stored K { nx := fun _ H' => Q .non H', rt := Q } (start ["errors", "found", "error"] vs) H := by
  obtain ⟨p, es, x, rfl, hp, hl, hE, q⟩ := h
  show t_stored K _ [some (.ref p), none, none] H
  refine seq_i (asg_i (op_i ?_))
  show iList K _ _ H _
  refine ilist_i (slice_i (v_i rfl ?_))
  refine ⟨6, rfl, p, es, rfl, .inl (.inl hp), fun p1 h1 => ⟨p1, rfl, ⟨_, .inl (.inl upd_same)⟩, ?_⟩⟩
  have x1 : Ex H (upd H p1 (.lst (cutV es none (some 6)))) := Ex.new h1
  have c1 : upd H p1 (.lst (cutV es none (some 6))) p1 = some (.lst (es.take 6)) := by rw [upd_same, cut6 hl]
  generalize upd H p1 (.lst (cutV es none (some 6))) = H1 at x1 c1 ⊢
  intro D hD
  have hE1 := hE.ex x1
  refine ⟨fun i m H' => m = 6 - i ∧ i ≤ 6 ∧ Ex H1 H' ∧ H' D = some (.lst (List.replicate i x)), ⟨6, rfl, by decide, Ex.new hD, upd_same⟩, ?_⟩
  rintro i m H2 ⟨rfl, hi, x2, hD2⟩
  have c2 := x2 _ _ c1
  by_cases h6 : i = 6
  · subst h6
    refine .inl ⟨⟨_, .inl (.inl c2), by rw [List.length_take]; omega⟩, ?_⟩
    have X2 : Ex H H2 := x1.trans x2
    have hp2 := X2 _ _ hp
    have hE2 := hE.ex X2
    refine lst_i (cons_i (ex_ok F 6 (by decide) rfl hp2 hl hE2 (cons_i (ex_ok F 7 (by decide) rfl hp2 hl hE2 (nil_i ⟨le_size _ (Nat.le_of_ble_eq_true rfl), fun p3 h3 => ?_⟩)))))
    refine cat_ok (xs := List.replicate 6 x) (ys := [x, x]) (upd_some h3 hD2) upd_same (Nat.le_of_ble_eq_true rfl) fun p4 h4 => ?_
    refine gn_i ?_
    have x4 : Ex H2 (upd (upd H2 p3 (.lst [x, x])) p4 (.lst (List.replicate 6 x ++ [x, x]))) := (Ex.new h3).trans (Ex.new h4)
    have c4 : upd (upd H2 p3 (.lst [x, x])) p4 (.lst (List.replicate 6 x ++ [x, x])) p4 = some (.lst (List.replicate 8 x)) := upd_same
    generalize upd (upd H2 p3 (.lst [x, x])) p4 (.lst (List.replicate 6 x ++ [x, x])) = H4 at x4 c4 ⊢
    dsimp only
    have X4 := X2.trans x4
    have hp4 := X4 _ _ hp
    have hE4 := hE.ex X4
    refine ret_i (op_i (v_i rfl (lst_i (cons_i (ex_ok F 8 (by decide) rfl hp4 hl hE4 (cons_i (ex_ok F 9 (by decide) rfl hp4 hl hE4 (cons_i (ex_ok F 10 (by decide) rfl hp4 hl hE4 (nil_i ⟨le_size _ (Nat.le_of_ble_eq_true rfl), fun p5 h5 => ?_⟩))))))))))
    refine cat_ok (xs := List.replicate 8 x) (ys := [x, x, x]) (upd_some h5 c4) upd_same (Nat.le_of_ble_eq_true rfl) fun p6 h6 => ?_
    have x6 : Ex H4 (upd (upd H4 p5 (.lst [x, x, x])) p6 (.lst (List.replicate 8 x ++ [x, x, x]))) := (Ex.new h5).trans (Ex.new h6)
    have c6 : upd (upd H4 p5 (.lst [x, x, x])) p6 (.lst (List.replicate 8 x ++ [x, x, x])) p6 = some (.lst (List.replicate 11 x)) := upd_same
    generalize upd (upd H4 p5 (.lst [x, x, x])) p6 (.lst (List.replicate 8 x ++ [x, x, x])) = H6 at x6 c6 ⊢
    exact q _ p6 (X4.trans x6) c6
  · have li : i < 6 := by omega
    obtain ⟨a, d, e1, e2⟩ := hE.get (j := i) (by omega)
    rw [Nat.zero_add, cF_val i li] at e2
    have e3 : (es.take 6)[i]? = some (.ref a) := by rw [List.getElem?_take_of_lt li, e1]
    refine .inr ⟨⟨_, _, .inl (.inl c2), e3⟩, fun H' => Ex H1 H' ∧ H' D = some (.lst (List.replicate (i + 1) x)), fun H' ⟨z1, z2⟩ => ⟨6 - (i + 1), by omega, rfl, by omega, z1, z2⟩, ?_⟩
    rintro v H3 ⟨rfl, hy⟩
    have ey := item_of c2 hy
    rw [e3] at ey
    cases ey
    refine ⟨rfl, ?_⟩
    refine ⟨V.ref a, rfl, a, _, d, _, x, rfl, ats (x1.trans x2) e2, F.xf i (by omega), by rw [← cF_val i li]; exact F.no i (by omega), look1 _ _, List.replicate i x, hD2, ?_, fun b o z => ?_, ?_⟩
    · rw [List.length_replicate, sizeLine_eq]
      omega
    · rw [upd_ne (ne_of_none z hD)]
      exact x2 _ _ z
    · rw [upd_same, List.replicate_succ']
end
end K61


namespace K61
open PySem PySem.Spec PyProof.Rows L2 DL GX TL
def rMx : List V → Hp → VK → Prop := fun xs H Q => ∃ i j, xs = [.int i, .int j] ∧ Q (.int (if j > i then j else i)) H
def rMn : List V → Hp → VK → Prop := fun xs H Q => ∃ i j, xs = [.int i, .int j] ∧ Q (.int (if j < i then j else i)) H
/-- the source stands -/
def Sr (H : Hp) (p : Addr) : Prop := ∃ r m, Src r m ∧ H p = some (.lst [.int r, .int m])
/-- all but the source's own object stays -/
def Kp (p : Addr) (H H' : Hp) : Prop := ∀ a o, a ≠ p → H a = some o → H' a = some o
def spPick : Sp := fun vs H Q _ => ∃ (p l : Addr) (xs : List V), vs = [.ref p, .ref l] ∧ Sr H p ∧ H l = some (.lst xs) ∧ l ≠ p ∧ 0 < xs.length ∧ xs.length < 1000 ∧ ∀ H' v, Kp p H H' → Sr H' p → v ∈ xs → Q v H'
section
variable (K : PySem.W.Frag) (c : Nat → Addr) (web : Addr)
def tDr (span : TE) : TE := tCall (toSp spDraw) [] X0 (tCons (tVar 2) (tCons span tNil))
def tSome : TE := tLst (tCons (tLst (tCons (tC (.int 5)) tNil)) (tCons (tLst (tCons (tC (.str "a")) (tCons (tC .non) tNil))) (tCons (tDisp [(tC (.str "a"), tC (.int 1))]) (tCons (tC .non) (tCons (tC (.str "x")) (tCons (tTup (tCons (tC (.int 1)) tNil)) (tCons (tC (.bl true)) (tCons (tOp rSub (tC (.int 0)) (tC (.int 3))) (tCons (tDr (tC (.int 60))) tNil)))))))))
def tTwo : TE := tLst (tCons (tCall spPick [] X0 (tCons (tVar 2) (tCons (tSl (rSlL K) (tVar 3) tNoPart (tPart (tC (.int 3)))) tNil))) (tCons (tCall spPick [] X0 (tCons (tVar 2) (tCons (tVar 3) tNil))) tNil))
def tBoth : TE := tLst (tCons (tCall (spBy c) [] X0 (tCons (tVar 4) tNil)) (tCons (tCall (spBy c) [] X0 (tCons (tVar 4) tNil)) tNil))
def tSpots : TE := tLc (iRng1 (tCons (tC (.int 11)) tNil)) (gName 8) tYes (tOp rDeq (tVar 8) (tVar 6)) [8]
def t_each : TS := tSeq (tIfS (tOr (tNot (tTest (tIs K 7 (.ref web)))) (tNot (tTest (tIs K 7 (.ty "ValueError"))))) (tRet (tC (.bl false))) tNext)
  (tIfS (tTest (tOp rDne (tCall (spKinds c) [] X0 (tCons (tVar 7) tNil)) tSpots)) (tRet (tC (.bl false))) tNext)
def tIsB (n : String) : TE := tCB (rIsi K) (tCons (tVar 4) (tCons (tC (.ty n)) tNil))
def t_turn : TS := tSeq (tFor (iEnum K (tCons (tVar 5) tNil)) (gTup K 2 (gCons (gName 6) (gCons (gName 7) gNil))) (t_each K c web))
  (tSeq (tIfS (tTest (tIsB K "list")) (tDrop (tBM K "list" rAppend (tVar 4) (tCons (tC (.int 0)) tNil))) tNext)
  (tSeq (tIfS (tTest (tIsB K "dict")) (sDPut (tVar 4) (tC (.str "more")) (tC (.int 0))) tNext)
  (tIfS (tTest (tOp rDne (tCB rRepr (tCons (tCall (spStored c) [] X0 (tCons (tVar 5) tNil)) tNil)) (tCB rRepr (tCons (tOp rMulX (tLst (tCons (tVar 4) tNil)) (tC (.int 11))) tNil)))) (tRet (tC (.bl false))) tNext)))
def t_start : TS := tSeq (tAsg (tCall (toSp spSource) [] X0 (tCons (tVar 0) (tCons (tVar 1) tNil))) (gName 2))
  (tSeq (tAsg tSome (gName 3))
  (tFor (iList K (tTwo K)) (gName 4) (tFor (iList K (tBoth c)) (gName 5) (t_turn K c web))))
def t_law : TS := tSeq (tFor (iRng1 (tCons (tCB rMx (tCons (tC (.int 1)) (tCons (tCB rMn (tCons (tC (.int 4)) (tCons (tCB (rLenX K) (tCons (tVar 0) tNil)) tNil))) tNil))) tNil)) (gName 1) (t_start K c web)) (tRet (tC (.bl true)))
end
abbrev NL : List Str := ["script", "start", "source", "some", "thing", "errors", "at", "error", "spot"]
theorem scL : FnScope NL ["script"] (defScope sLaw) := ⟨rfl, rfl, rfl, by decide +kernel, rfl, by decide +kernel, by decide +kernel⟩
section
variable {P : Program} {w : World} {K : PySem.W.Frag} {mg : Str → Option Value} {base : Heap} {f : Addr} {fd : FuncData} {c : Nat → Addr} {web : Addr}
theorem pss_law (n : Nm mg c web) (cS : Cal P w K mg base "_law_source" 2 (toSp spSource)) (cD : Cal P w K mg base "_law_draw" 2 (toSp spDraw)) (cP : Cal P w K mg base "_law_pick" 3 spPick) (cK : Cal P w K mg base "_law_kinds" 3 (spKinds c))
    (c1 : Cal P w K mg base "_law_by_place" 4 (spBy c)) (c2 : Cal P w K mg base "_law_by_name" 4 (spBy c)) (cT : Cal P w K mg base "_law_stored" 3 (spStored c))
    {qual : Str} {cdv : Value} {A : Around} {outer : List Env} {s : Shared} {H : Hp} {E : XK} (hr : Room 5 (A.deeper (envOfC qual (defScope sLaw) s.heap.objs.size f cdv))) (noG : A.guards = some []) :
    PSs (cxOf (L2.CX P w) P w K mg base NL qual (defScope sLaw) f cdv A outer s H E) (defBody sLaw) (t_law K c web) := by
  have nd := scL.nd
  have hu : (A.deeper (envOfC qual (defScope sLaw) s.heap.objs.size f cdv)).units + 1 < cLine := by have := hr.un; omega
  have hu64 : (A.deeper (envOfC qual (defScope sLaw) s.heap.objs.size f cdv)).units + 64 < cLine := by have := hr.un; omega
  refine pss_cons (ps_for owns0 rfl (pi_range1 rfl n.range (pa_cons (pe_callB (call_max2 rfl) rfl n.max boot_max (pa_cons pe_int (pa_cons (pe_callB (call_min2 rfl) rfl n.min boot_min (pa_cons pe_int (pa_cons (pe_callB call_lenX rfl n.len boot_len (pa_cons (pv 0) pa_nil)) pa_nil))) pa_nil))) pa_nil)) (pg_name (i := 1) nd rfl (Or.inl rfl)) ?_) (pss_one (ps_ret pe_bl))
  refine pss_cons (ps_set (i := 2) nd rfl (Or.inl rfl) (pe_cal cS (hr.mono (by decide)) rfl (pa_cons (pv 0) (pa_cons (pv 1) pa_nil)))) ?_
  refine pss_cons (ps_set (i := 3) nd rfl (Or.inl rfl) (pe_lst (pa_cons (pe_lst (pa_cons pe_int pa_nil)) (pa_cons (pe_lst (pa_cons pe_str (pa_cons pe_non pa_nil))) (pa_cons (pe_disp (pps_cons pe_str pe_int pps_nil) rfl rfl (by decide) (by decide)) (pa_cons pe_non (pa_cons pe_str (pa_cons (pe_tup (pa_cons pe_int pa_nil)) (pa_cons pe_bl
    (pa_cons (pe_op op_sub pe_int pe_int) (pa_cons (pe_cal cD (hr.mono (by decide)) rfl (pa_cons (pv 2) (pa_cons pe_int pa_nil))) pa_nil))))))))))) ?_
  refine pss_one (ps_for owns0 rfl (pi_list (pe_lst (pa_cons (pe_cal cP (hr.mono (by decide)) rfl (pa_cons (pv 2) (pa_cons (pe_slice sl_list (pv 3) po_none (po_some pe_int)) pa_nil))) (pa_cons (pe_cal cP (hr.mono (by decide)) rfl (pa_cons (pv 2) (pa_cons (pv 3) pa_nil))) pa_nil)))) (pg_name (i := 4) nd rfl (Or.inl rfl)) ?_)
  refine pss_one (ps_for owns0 rfl (pi_list (pe_lst (pa_cons (pe_cal c1 (hr.mono (by decide)) rfl (pa_cons (pv 4) pa_nil)) (pa_cons (pe_cal c2 (hr.mono (by decide)) rfl (pa_cons (pv 4) pa_nil)) pa_nil)))) (pg_name (i := 5) nd rfl (Or.inl rfl)) ?_)
  refine pss_cons (ps_for owns0 rfl (pi_enum rfl n.enum (pa_cons (pv 5) pa_nil)) (pg_tup rfl (pgs_cons (pg_name (i := 6) nd rfl (Or.inr rfl)) (pgs_cons (pg_name (i := 7) nd rfl (Or.inl rfl)) pgs_nil))) ?ea) ?_
  case ea =>
    refine pss_cons (ps_if (PW.pt (pw_or (pt_not (pt_val (pe_callB call_isX rfl n.isi boot_isinstance (pa_cons (pv 7) (pa_cons (pe_glob (v := .ref web) rfl n.web rfl) pa_nil)))))
      (pw_or1 (pt_not (pt_val (pe_callB call_isX rfl n.isi boot_isinstance (pa_cons (pv 7) (pa_cons (pe_bltn (v := .ty "ValueError") rfl n.ve PyProof.Rows.Boot.«ValueError» rfl) pa_nil)))))))) (pss_one (ps_ret pe_bl)) pss_nil) ?_
    refine pss_one (ps_if (pt_cmpR (op_dne hu64) (pe_cal cK (hr.mono (by decide)) rfl (pa_cons (pv 7) pa_nil)) ?sp (nomark _)) (pss_one (ps_ret pe_bl)) pss_nil)
    exact pe_lc (own := [("spot", 8)]) (g := gName 8) (tt := tYes) rfl nd (pi_range1 rfl n.range (pa_cons pe_int pa_nil)) (blkOk_by (N := NL) (sc := defScope sLaw) (by decide +kernel)) (fun _ _ _ _ _ => pg_name (i := 8) nd rfl (Or.inl rfl)) (fun _ _ _ _ _ => pts_nil) (fun _ _ _ _ _ => pe_cmpR (op_deq hu64) (pv 8) (pv 6) (nomark _))
  refine pss_cons (ps_if (pt_val (pe_callB call_isi rfl n.isi boot_isinstance (pa_cons (pv 4) (pa_cons (pe_bltn (v := .ty "list") rfl n.list PyProof.Rows.boot_list rfl) pa_nil)))) (pss_one (ps_expr (pe_bm PySem.F.plainAttrs_list PySem.F.slot_list_append PySem.F.type_list_append mt_append (pv 4) (pa_cons pe_int pa_nil)))) pss_nil) ?_
  refine pss_cons (ps_if (pt_val (pe_callB call_isi rfl n.isi boot_isinstance (pa_cons (pv 4) (pa_cons (pe_bltn (v := .ty "dict") rfl n.dict PyProof.Rows.boot_dict rfl) pa_nil)))) (pss_one (ps_dput hu (pv 4) pe_str pe_int rfl)) pss_nil) ?_
  exact pss_one (ps_if (pt_cmpR (op_dne hu64) (pe_callB (call_repr noG hu64) rfl n.repr boot_repr (pa_cons (pe_cal cT (hr.mono (by decide)) rfl (pa_cons (pv 5) pa_nil)) pa_nil)) (pe_callB (call_repr noG hu64) rfl n.repr boot_repr (pa_cons (pe_op op_mulX (pe_lst (pa_cons (pv 4) pa_nil)) pe_int) pa_nil)) (nomark _)) (pss_one (ps_ret pe_bl)) pss_nil)
end
end K61


namespace K61
open PySem PySem.Spec PyProof.Rows L2 DL GX TL
theorem reps_two {Hf : Hp} {vs : List V} {r m : Int} (h : Reps Hf vs [.int r, .int m]) : vs = [.int r, .int m] := by
  cases h with
  | cons h1 h2 =>
    cases h2 with
    | cons h3 h4 =>
      cases h4
      cases h1
      cases h3
      rfl
theorem cell_two {Hf H : Hp} {a : Addr} {r m : Int} (h : CellAt Hf H a (.lst [.int r, .int m])) : H a = some (.lst [.int r, .int m]) := by
  obtain ⟨u, h1, vs, rfl, h2⟩ := h
  rw [h1, reps_two h2]
theorem source_ok {H : Hp} {sa : Addr} {o : Obj} {s : Int} {ns : List Int} {Q : VK} (hS : H sa = some (.frz o (.lst (ns.map V.int)))) (s0 : 0 ≤ s) (s1 : s < 1000) (hb : ∀ n ∈ ns, n.natAbs < big)
    (q : ∀ (H' : Hp) (p : Addr) (r m : Int), Ex H H' → Src r m → H p = none → H' p = some (.lst [.int r, .int m]) → Q (.ref p) H') : toSp spSource [.ref sa, .int s] H Q X0 := by
  refine ⟨fun _ => none, [], [], [.b (.fz ns), .d (.int s)], fun rv _ => ∃ r m, Src r m ∧ rv = .n (.lst [.int r, .int m]), fun _ _ _ => False, fun _ _ z => (nomatch z), fun _ z => (nomatch z), List.nodup_nil, fun _ z => (nomatch z),
    .b (.fz (.inr ⟨o, ?_⟩)) (.d (.int s) .nil), ⟨ns, s, rfl, s0, s1, hb, fun r m z => ⟨r, m, z, rfl⟩⟩, ?_, fun _ _ _ z => z.elim⟩
  · unfold hsOf
    rw [if_neg (by exact fun z => (nomatch z))]
    exact hS
  · rintro rv cs ⟨r, m, z, rfl⟩ v Hf' H' af ⟨p, rfl, n1, n2, ce⟩
    exact q H' p r m (fun a o y => af.keep a o y (fun z => (nomatch z))) z n1 (cell_two ce)
theorem draw_ok {H : Hp} {p : Addr} {r m span : Int} {Q : VK} (hp : H p = some (.lst [.int r, .int m])) (z : Src r m) (s0 : 0 < span) (s1 : span < 1000000)
    (q : ∀ (H' : Hp) (i r' m' : Int), (∀ a o, a ≠ p → H a = some o → H' a = some o) → Src r' m' → H' p = some (.lst [.int r', .int m']) → 0 ≤ i → i < span → Q (.int i) H') : toSp spDraw [.ref p, .int span] H Q X0 := by
  refine ⟨fun _ => none, [], [p], [.m (.lst [.int r, .int m]), .d (.int span)], fun rv cs => ∃ i r' m', Src r' m' ∧ 0 ≤ i ∧ i < span ∧ rv = .d (.int i) ∧ cs = [.lst [.int r', .int m']], fun _ _ _ => False, fun _ _ z => (nomatch z), fun _ z => (nomatch z), (by simp), fun a ha => ?_,
    .m ⟨_, hp, _, rfl, .cons (.int r) (.cons (.int m) .nil)⟩ (.d (.int span) .nil), ⟨r, m, span, rfl, z, s0, s1, fun i r' m' i0 i1 z' => ⟨i, r', m', z', i0, i1, rfl, rfl⟩⟩, ?_, fun _ _ _ z => z.elim⟩
  · obtain rfl := List.mem_singleton.mp ha
    exact ⟨rfl, by rw [hp]; simp⟩
  · rintro rv cs ⟨i, r', m', z', i0, i1, rfl, rfl⟩ v Hf' H' af rr
    have rv : v = .int i := by
      have rr : Rep Hf' v (.int i) := rr
      cases rr
      rfl
    subst rv
    have ce := af.cells
    cases ce with
    | cons ce _ => exact q H' i r' m' (fun a o ne y => af.keep a o y (fun w => ne (List.mem_singleton.mp w))) z' (cell_two ce) i0 i1
section
variable {K : PySem.W.Frag} {c : Nat → Addr} {web : Addr} {x : V} {n : Nat}
/-- all but the thing's own object stays -/
def Kx (x : V) (H H' : Hp) : Prop := ∀ b o, V.ref b ≠ x → H b = some o → H' b = some o
theorem Kx.of {H H' : Hp} (e : Ex H H') : Kx x H H' := fun b o _ q => e b o q
theorem Kx.trans {H H1 H2 : Hp} (a : Kx x H H1) (b : Kx x H1 H2) : Kx x H H2 := fun p o n q => b p o n (a p o n q)
theorem ge_of {H H' : Hp} (e : Ex H H') : ∀ a, x = .ref a → ∀ o, H a = some o → H' a = some o := fun a _ o q => e a o q
/-- isinstance(thing, list), .. -/
theorem isB_ok {σ : L2.St} {H : Hp} {Q : VK} {t n : String} {b : Bool} (h4 : σ[4]? = some (some x)) (ty : TyX K H x (.type t)) (k : kitB t n = some b) (q : Q (.bl b) H) : tIsB K n σ H Q :=
  ⟨x, h4, x, .ty n, .type t, .type n, b, rfl, .ty n, ty, kit_ty k, q⟩
/-- if isinstance(thing, list): thing.append(0) -/
theorem app_ok {D : Ends} {σ : L2.St} {H : Hp} (h4 : σ[4]? = some (some x)) (h : Thg H n x) (hn : n ≤ 100) (q : ∀ H', Kx x H H' → Thg H' (n + 1) x → D.nx σ H') :
    tIfS (tTest (tIsB K "list")) (tDrop (tBM K "list" rAppend (tVar 4) (tCons (tC (.int 0)) tNil))) tNext D σ H := by
  have same : D.nx σ H := q H (fun _ _ _ z => z) (h.mono (Nat.le_succ _) fun _ _ _ z => z)
  cases h with
  | «at» h =>
    cases h with
    | non => exact isB_ok h4 (.base .non) (b := false) (by decide +kernel) ⟨false, rfl, same⟩
    | bl => exact isB_ok h4 (.base (.bl _)) (b := false) (by decide +kernel) ⟨false, rfl, same⟩
    | sa => exact isB_ok h4 (.base (.str _)) (b := false) (by decide +kernel) ⟨false, rfl, same⟩
    | sx => exact isB_ok h4 (.base (.str _)) (b := false) (by decide +kernel) ⟨false, rfl, same⟩
    | int i _ _ => exact isB_ok h4 (.base (.int _)) (b := false) (by decide +kernel) ⟨false, rfl, same⟩
  | @ls a xs e hx l =>
    refine isB_ok h4 (.base (.lst e)) (b := true) (by decide +kernel) ⟨true, rfl, ?_⟩
    refine ⟨_, h4, .inl ⟨rfl, xs, .inl (.inl e)⟩, a, xs, .int 0, rfl, rfl, e, ?_, q _ (fun b o nb z => ?_) (.ls (a := a) (xs := xs ++ [.int 0]) upd_same (fun y hy => ?_) ?_)⟩
    · rw [sizeLine_eq]
      omega
    · rw [upd_ne (fun y => nb (by rw [y]))]
      exact z
    · rcases List.mem_append.mp hy with y1 | y1
      · exact hx y y1
      · obtain rfl := List.mem_singleton.mp y1
        exact ⟨_, .int 0 (by decide) (by decide)⟩
    · rw [List.length_append]
      show xs.length + 1 ≤ n + 1
      omega
  | tp e => exact isB_ok h4 (.base (.tup e)) (b := false) (by decide +kernel) ⟨false, rfl, same⟩
  | dc e hk => exact isB_ok h4 (.base (.dK e)) (b := false) (by decide +kernel) ⟨false, rfl, same⟩
/-- if isinstance(thing, dict): thing['more'] = 0 -/
theorem put_ok {D : Ends} {σ : L2.St} {H : Hp} (h4 : σ[4]? = some (some x)) (h : Thg H n x) (q : ∀ H', Kx x H H' → Thg H' n x → D.nx σ H') :
    tIfS (tTest (tIsB K "dict")) (sDPut (tVar 4) (tC (.str "more")) (tC (.int 0))) tNext D σ H := by
  have same : D.nx σ H := q H (fun _ _ _ z => z) h
  cases h with
  | «at» h =>
    cases h with
    | non => exact isB_ok h4 (.base .non) (b := false) (by decide +kernel) ⟨false, rfl, same⟩
    | bl => exact isB_ok h4 (.base (.bl _)) (b := false) (by decide +kernel) ⟨false, rfl, same⟩
    | sa => exact isB_ok h4 (.base (.str _)) (b := false) (by decide +kernel) ⟨false, rfl, same⟩
    | sx => exact isB_ok h4 (.base (.str _)) (b := false) (by decide +kernel) ⟨false, rfl, same⟩
    | int i _ _ => exact isB_ok h4 (.base (.int _)) (b := false) (by decide +kernel) ⟨false, rfl, same⟩
  | ls e _ _ => exact isB_ok h4 (.base (.lst e)) (b := false) (by decide +kernel) ⟨false, rfl, same⟩
  | tp e => exact isB_ok h4 (.base (.tup e)) (b := false) (by decide +kernel) ⟨false, rfl, same⟩
  | @dc a kvs e hk =>
    refine isB_ok h4 (.base (.dK e)) (b := true) (by decide +kernel) ⟨true, rfl, ?_⟩
    have hl : kvs.length < sizeLine := by
      rw [sizeLine_eq]
      rcases hk with rfl | rfl <;> decide
    refine ⟨_, h4, a, _, rfl, DPut.k (k := kL) e hl, q _ (fun b o nb z => ?_) (.dc upd_same ?_)⟩
    · rw [upd_ne (fun y => nb (by rw [y]))]
      exact z
    · rcases hk with rfl | rfl
      · exact .inr (by decide +kernel)
      · exact .inr (by decide +kernel)
theorem Sr.ex {H H' : Hp} {p : Addr} (h : Sr H p) (e : Ex H H') : Sr H' p := by
  obtain ⟨r, m, z, hp⟩ := h
  exact ⟨r, m, z, e _ _ hp⟩
theorem Kp.of {p : Addr} {H H' : Hp} (e : Ex H H') : Kp p H H' := fun a o _ z => e a o z
theorem Kp.trans {p : Addr} {H H1 H2 : Hp} (a : Kp p H H1) (b : Kp p H1 H2) : Kp p H H2 := fun x o n z => b x o n (a x o n z)
theorem dr0 {H : Hp} {p : Addr} {span : Int} {Q : VK} (h : Sr H p) (s0 : 0 < span) (s1 : span < 1000000) (q : ∀ (H' : Hp) (i : Int), Kp p H H' → Sr H' p → 0 ≤ i → i < span → Q (.int i) H') : toSp spDraw ([.ref p, .int span] ++ []) H Q X0 := by
  obtain ⟨r, m, z, hp⟩ := h
  exact draw_ok hp z s0 s1 fun H' i r' m' k z' hp' i0 i1 => q H' i k ⟨r', m', z', hp'⟩ i0 i1
/-- _law_pick -/
theorem pure_pick (vs : List V) (H : Hp) (Q : VK) (E : XK) (h : spPick vs H Q E) : t_pick K { nx := fun _ H' => Q .non H', rt := Q } (start ["source", "things"] vs) H := by
  obtain ⟨p, l, xs, rfl, hs, hl, nl, l0, l1, q⟩ := h
  show t_pick K _ [some (.ref p), some (.ref l)] H
  refine ret_i (op_i (v_i rfl (call_i (cons_i (v_i rfl (cons_i (cb_i (cons_i (v_i rfl (nil_i (.inl ⟨V.ref l, xs.length, rfl, .inl ⟨xs, .inl (.inl hl), rfl⟩, nil_i ?_⟩)))))))))))
  refine dr0 hs (by omega) (by omega) fun H' i k s' i0 i1 => ?_
  have li : i.toNat < xs.length := by omega
  refine .inl (.inl ⟨l, xs, i, xs[i.toNat], rfl, rfl, .inl (.inl (k _ _ nl hl)), ?_, q H' _ k s' (List.getElem_mem li)⟩)
  unfold atI
  have e : ixN xs.length i = some i.toNat := by
    unfold ixN
    rw [if_pos i0, if_pos (by omega)]
  rw [e]
  exact List.getElem?_eq_getElem li
end
end K61


namespace K61
open PySem PySem.Spec PyProof.Rows L2 DL GX TL
section
variable {K : PySem.W.Frag} {c : Nat → Addr} {web : Addr} {x : V} {n : Nat}
/-- the frame: script .. spot -/
abbrev St9 (a0 a1 a2 a3 a4 a5 a6 a7 a8 : Option V) : L2.St := [a0, a1, a2, a3, a4, a5, a6, a7, a8]
theorem next_i {D : Ends} {σ : L2.St} {H : Hp} (h : D.nx σ H) : tNext D σ H := h
def bitsT (i : Nat) (m : Nat) : List V := (List.range m).map fun j => V.bl (decide (j = i))
theorem bits_succ (i m : Nat) : bitsT i (m + 1) = bitsT i m ++ [V.bl (decide (m = i))] := by
  unfold bitsT
  rw [List.range_succ, List.map_append]
  rfl
/-- [spot == at for spot in range(11)] -/
theorem spots_ok {H : Hp} {Q : VK} {a0 a1 a2 a3 a4 a5 a7 a8 : Option V} {i : Nat} (q : ∀ (H' : Hp) (p : Addr), Ex H H' → H' p = some (.lst (bitsT i 11)) → Q (.ref p) H') : tSpots (St9 a0 a1 a2 a3 a4 a5 (some (.int (i : Nat))) a7 a8) H Q := by
  unfold tSpots tLc iRng1
  refine cons_i (c_i (nil_i ⟨11, rfl, ?_, ?_, ?_⟩))
  · have : (2 : Int) ^ 62 = 4611686018427387904 := by decide
    omega
  · have : (2 : Int) ^ 62 = 4611686018427387904 := by decide
    omega
  intro D hD
  refine ⟨fun j m H' => m = 11 - j ∧ j ≤ 11 ∧ Ex H H' ∧ H' D = some (.lst (bitsT i j)), ⟨11, rfl, by decide, Ex.new hD, upd_same⟩, ?_⟩
  rintro j m H1 ⟨rfl, hj, e1, hD1⟩
  by_cases h : j = 11
  · subst h
    exact .inl ⟨by show 11 ≤ 11; decide, q H1 D e1 hD1⟩
  · refine .inr ⟨by show j < 11; omega, fun H' => Ex H H' ∧ H' D = some (.lst (bitsT i (j + 1))), fun H' ⟨z1, z2⟩ => ⟨11 - (j + 1), by omega, rfl, by omega, z1, z2⟩, ?_⟩
    rintro v H2 ⟨rfl, rfl⟩
    refine ⟨rfl, ?_⟩
    refine op_i (v_i (v := .int (0 + (j : Nat))) rfl (v_i (v := .int (i : Nat)) rfl (eq_ints ?_)))
    refine ⟨bitsT i j, hD1, ?_, fun b o z => ?_, ?_⟩
    · unfold bitsT
      rw [List.length_map, List.length_range, sizeLine_eq]
      omega
    · rw [upd_ne (ne_of_none z hD)]
      exact e1 _ _ z
    · rw [upd_same, bits_succ]
      have e : decide ((0 + (j : Nat) : Int) = (i : Nat)) = decide (j = i) := by
        by_cases y : j = i
        · rw [decide_eq_true y, decide_eq_true (by omega)]
        · rw [decide_eq_false y, decide_eq_false (by omega)]
      rw [e]
theorem reps_bits (i : Nat) : ∀ m : Nat, Reps (fun _ => none) (bitsT i m) ((List.range m).map fun j => D.bl (decide (j = i)))
  | 0 => .nil
  | m + 1 => by
    rw [bits_succ, List.range_succ, List.map_append]
    exact (reps_bits i m).append (.cons (.bl _) .nil)
theorem eq_bits : ∀ i : Fin 11, deqN 40 (.lst ((List.range 11).map fun j => D.bl (decide (j = i.val)))) (.lst ((List.range 11).map fun j => D.bl (decide (j = i.val)))) = some true := by decide +kernel
/-- one error -/
theorem each_ok {De : Ends} {H : Hp} {a0 a1 a2 a3 a4 a5 a8 : Option V} (F : Kf K c web) {a d : Addr} {fs : List (Str × V)} {i : Nat} (hi : i < 11) (h : GX.At H a (c i) d fs) (q : ∀ H', Ex H H' → De.nx (St9 a0 a1 a2 a3 a4 a5 (some (.int (i : Nat))) (some (.ref a)) a8) H') :
    t_each K c web De (St9 a0 a1 a2 a3 a4 a5 (some (.int (i : Nat))) (some (.ref a)) a8) H := by
  refine seq_i (if_i ?_)
  refine is_ok F (s := 7) hi rfl h (.own _) (F.web i hi) ⟨true, rfl, ?_⟩
  refine if_no ?_ Bool.false_ne_true
  refine is_ok F (s := 7) hi rfl h (.ty _) (F.ve i hi) ⟨true, rfl, ?_⟩
  refine if_no ?_ Bool.false_ne_true
  refine next_i ?_
  dsimp only
  refine if_i (test_i (op_i (call_i (cons_i (v_i (v := .ref a) rfl (nil_i ?_))))))
  refine ⟨a, d, fs, i, rfl, hi, h, fun H1 p1 x1 c1 => ?_⟩
  refine spots_ok fun H2 p2 x2 c2 => ?_
  refine ne_lists (b := true) (x2 _ _ c1) c2 (reps_bits i 11) (reps_bits i 11) (eq_bits ⟨i, hi⟩) ⟨_, rfl, ?_⟩
  refine if_no ?_ Bool.false_ne_true
  exact q H2 (x1.trans x2)
theorem er_keep {H H' : Hp} (h : Thg H n x) (k : Kx x H H') : ∀ {i : Nat} {es : List V}, Er c x H i es → Er c x H' i es
  | _, _, .nil i => .nil i
  | _, _, .cons z r => .cons ⟨k _ _ (h.ne z.1 noT_exo) z.1, k _ _ (h.ne z.2 noT_exd) z.2⟩ (er_keep h k r)
/-- one turn over the errors -/
theorem turn_ok {De : Ends} {H : Hp} {a0 a1 a2 a3 a6 a7 a8 : Option V} {pe : Addr} {es : List V} (F : Kf K c web) (h : Thg H n x) (hn : n ≤ 10) (hp : H pe = some (.lst es)) (hl : es.length = 11) (hE : Er c x H 0 es)
    (q : ∀ (H' : Hp) (b6 b7 b8 : Option V), Kx x H H' → Thg H' (n + 1) x → De.nx (St9 a0 a1 a2 a3 (some x) (some (.ref pe)) b6 b7 b8) H') :
    t_turn K c web De (St9 a0 a1 a2 a3 (some x) (some (.ref pe)) a6 a7 a8) H := by
  refine seq_i ?_
  unfold tFor iEnum
  refine cons_i (v_i rfl (nil_i ⟨pe, es, rfl, .inl (.inl hp), ?_⟩))
  refine ⟨fun i m σ H' => m = 11 - i ∧ i ≤ 11 ∧ (∃ b6 b7 b8, σ = St9 a0 a1 a2 a3 (some x) (some (.ref pe)) b6 b7 b8) ∧ Ex H H', ⟨11, rfl, by decide, ⟨_, _, _, rfl⟩, Ex.refl _⟩, ?_⟩
  rintro i m σ H1 ⟨rfl, hi, ⟨b6, b7, b8, rfl⟩, x1⟩
  have hp1 := x1 _ _ hp
  by_cases h11 : i = 11
  · subst h11
    refine .inl ⟨⟨es, .inl (.inl hp1), Nat.le_of_eq hl⟩, ?_⟩
    have h1 : Thg H1 n x := h.mono (Nat.le_refl _) fun a _ o z => x1 a o z
    dsimp only
    refine seq_i (app_ok rfl h1 (by omega) fun H8 k8 h8 => ?_)
    dsimp only
    refine seq_i (put_ok rfl h8 fun H9 k9 h9 => ?_)
    have k19 : Kx x H1 H9 := k8.trans k9
    have nopa : NoT (.lst es) := ⟨fun xs z => by
      cases z
      obtain ⟨a, d, e1, _⟩ := hE.get (j := 0) (by omega)
      exact ⟨_, List.mem_of_getElem? e1, a, rfl⟩, fun _ z => (nomatch z), fun _ z => (nomatch z)⟩
    have hp9 : H9 pe = some (.lst es) := k19 _ _ (h1.ne hp1 nopa) hp1
    have hE1 := hE.ex x1
    have hE9 : Er c x H9 0 es := er_keep h1 k19 hE1
    obtain ⟨t, ht⟩ := eleven_repr h9 (by omega)
    dsimp only
    refine if_i (test_i (op_i (cb_i (cons_i (call_i (cons_i (v_i rfl (nil_i ?_))))))))
    refine ⟨pe, es, x, rfl, hp9, hl, hE9, fun H10 pv x10 hv => ?_⟩
    refine nil_i (ht H10 pv _ (fun a _ o z => x10 a o z) hv ?_)
    refine cb_i (cons_i (op_i (lst_i (cons_i (v_i rfl (nil_i ⟨le_size _ (Nat.le_of_ble_eq_true rfl), fun p1 hp1 => ?_⟩))))))
    refine .inr ⟨p1, 11, [x], rfl, rfl, upd_same, by decide, by decide, le_size _ (Nat.le_of_ble_eq_true rfl), fun p2 hp2 => ?_⟩
    have x11 : Ex H10 (upd (upd H10 p1 (.lst [x])) p2 (.lst (List.replicate 11 x))) := (Ex.new hp1).trans (Ex.new hp2)
    refine nil_i (ht (upd (upd H10 p1 (.lst [x])) p2 (.lst (List.replicate 11 x))) p2 _ (fun a _ o z => x11 _ _ (x10 a o z)) upd_same ?_)
    refine ⟨[], fun _ => none, .str t, .str t, true, fun _ _ z => (nomatch z), .str t, .str t, ?_, false, rfl, ?_⟩
    · show some (t == t) = some true
      rw [beq_self_eq_true]
    · refine if_no ?_ Bool.false_ne_true
      exact q _ _ _ _ ((Kx.of x1).trans (k19.trans (Kx.of (x10.trans x11)))) (h9.mono (by omega) fun a _ o z => x11 _ _ (x10 a o z))
  · have li : i < 11 := by omega
    obtain ⟨a, d, ea, hat⟩ := hE.get (j := i) (by omega)
    rw [Nat.zero_add] at hat
    refine .inr ⟨⟨es, _, .inl (.inl hp1), ea⟩, fun σ H' => (∃ b6 b7 b8, σ = St9 a0 a1 a2 a3 (some x) (some (.ref pe)) b6 b7 b8) ∧ Ex H H', fun σ' H' ⟨z1, z2⟩ => ⟨11 - (i + 1), by omega, rfl, by omega, z1, z2⟩, ?_⟩
    rintro v H2 ⟨T, y, rfl, hT, rfl, hy⟩
    have ey := item_of hp1 hy
    rw [ea] at ey
    cases ey
    refine ⟨T, [.int (i : Nat), .ref a], rfl, .inl (.inl upd_same), rfl, _, _, rfl, _, _, rfl, rfl, ?_⟩
    have x2 : Ex H (upd H1 T (.tup [.int (i : Nat), .ref a])) := x1.trans (Ex.new hT)
    exact each_ok F li (ats x2 hat) fun H3 x3 => ⟨⟨_, _, _, rfl⟩, x2.trans x3⟩
end
end K61


namespace K61
open PySem PySem.Spec PyProof.Rows L2 DL GX TL
section
variable {K : PySem.W.Frag} {c : Nat → Addr} {web : Addr}
/-- the list some -/
theorem some_ok {a0 a1 a3 a4 a5 a6 a7 a8 : Option V} {H : Hp} {p : Addr} {Q : VK} (h : Sr H p)
    (q : ∀ (H' : Hp) (l : Addr) (xs : List V), Kp p H H' → Sr H' p → H' l = some (.lst xs) → l ≠ p → xs.length = 9 → (∀ x ∈ xs, Thg H' 2 x ∧ x ≠ .ref p) → Q (.ref l) H') : tSome (St9 a0 a1 (some (.ref p)) a3 a4 a5 a6 a7 a8) H Q := by
  have nep : ∀ {b : Addr}, H b = none → b ≠ p := fun {b} z y => by
    obtain ⟨r, m, _, hp⟩ := h
    rw [y, hp] at z
    cases z
  refine lst_i (cons_i (lst_i ⟨le_size _ (Nat.le_of_ble_eq_true rfl), fun p1 h1 => ?_⟩))
  have x1 : Ex H (upd H p1 (.lst [.int 5])) := Ex.new h1
  have c1 : upd H p1 (.lst [.int 5]) p1 = some (.lst [.int 5]) := upd_same
  generalize upd H p1 (.lst [.int 5]) = H1 at x1 c1
  refine cons_i (lst_i ⟨le_size _ (Nat.le_of_ble_eq_true rfl), fun p2 h2 => ?_⟩)
  have x2 : Ex H1 (upd H1 p2 (.lst [.str "a", .non])) := Ex.new h2
  have c2 : upd H1 p2 (.lst [.str "a", .non]) p2 = some (.lst [.str "a", .non]) := upd_same
  generalize upd H1 p2 (.lst [.str "a", .non]) = H2 at x2 c2
  refine cons_i (disp_i fun p3 h3 => ⟨upd_same, [(kA, .int 1)], rfl, by decide, ?_⟩)
  have em : mergeK [] [(kA, V.int 1)] = [(kA, V.int 1)] := rfl
  rw [em]
  have x3 : Ex H2 (upd (upd H2 p3 (.dK [])) p3 (.dK [(kA, .int 1)])) := fun b o z => by
    rw [upd_ne (ne_of_none z h3), upd_ne (ne_of_none z h3)]
    exact z
  have c3 : upd (upd H2 p3 (.dK [])) p3 (.dK [(kA, .int 1)]) p3 = some (.dK [(kA, .int 1)]) := upd_same
  generalize upd (upd H2 p3 (.dK [])) p3 (.dK [(kA, .int 1)]) = H3 at x3 c3
  refine cons_i (c_i ?_)
  refine cons_i (c_i ?_)
  refine cons_i (tup_i ⟨le_size _ (Nat.le_of_ble_eq_true rfl), fun p6 h6 => ?_⟩)
  have x4 : Ex H3 (upd H3 p6 (.tup [.int 1])) := Ex.new h6
  have c6 : upd H3 p6 (.tup [.int 1]) p6 = some (.tup [.int 1]) := upd_same
  generalize upd H3 p6 (.tup [.int 1]) = H4 at x4 c6
  refine cons_i (c_i ?_)
  refine cons_i ⟨0, 3, rfl, rfl, ?_⟩
  have X4 : Ex H H4 := x1.trans (x2.trans (x3.trans x4))
  refine cons_i (call_i (cons_i (v_i rfl (cons_i (c_i (nil_i ?_))))))
  refine dr0 (h.ex X4) (by decide) (by decide) fun H5 i k5 s5 i0 i1 => ?_
  refine nil_i ⟨le_size _ (Nat.le_of_ble_eq_true rfl), fun l hl => ?_⟩
  have x6 : Ex H5 (upd H5 l (.lst [.ref p1, .ref p2, .ref p3, .non, .str "x", .ref p6, .bl true, .int (0 - 3), .int i])) := Ex.new hl
  have cl : upd H5 l (.lst [.ref p1, .ref p2, .ref p3, .non, .str "x", .ref p6, .bl true, .int (0 - 3), .int i]) l = some (.lst [.ref p1, .ref p2, .ref p3, .non, .str "x", .ref p6, .bl true, .int (0 - 3), .int i]) := upd_same
  have nl : l ≠ p := fun y => by
    obtain ⟨r, m, _, hp⟩ := s5
    rw [y, hp] at hl
    cases hl
  refine q _ l [.ref p1, .ref p2, .ref p3, .non, .str "x", .ref p6, .bl true, .int (0 - 3), .int i] ((Kp.of X4).trans (k5.trans (Kp.of x6))) (s5.ex x6) cl nl rfl fun x hx => ?_
  have n1 := nep h1
  have e2 : H p2 = none := by
    cases z : H p2 with
    | none => rfl
    | some o => rw [x1 _ _ z] at h2; cases h2
  have e3 : H p3 = none := by
    cases z : H p3 with
    | none => rfl
    | some o => rw [x2 _ _ (x1 _ _ z)] at h3; cases h3
  have e6 : H p6 = none := by
    cases z : H p6 with
    | none => rfl
    | some o => rw [x3 _ _ (x2 _ _ (x1 _ _ z))] at h6; cases h6
  have g : ∀ {b : Addr} {o : HO}, b ≠ p → H4 b = some o → upd H5 l (.lst [.ref p1, .ref p2, .ref p3, .non, .str "x", .ref p6, .bl true, .int (0 - 3), .int i]) b = some o := fun {b o} n z => x6 _ _ (k5 _ _ n z)
  rcases List.mem_cons.mp hx with rfl | hx
  · exact ⟨.ls (g n1 (x4 _ _ (x3 _ _ (x2 _ _ c1)))) (fun y hy => by
      obtain rfl := List.mem_singleton.mp hy
      exact ⟨_, .int 5 (by decide) (by decide)⟩) (by decide), fun y => n1 (V.ref.inj y)⟩
  rcases List.mem_cons.mp hx with rfl | hx
  · exact ⟨.ls (g (nep e2) (x4 _ _ (x3 _ _ c2))) (fun y hy => by
      rcases List.mem_cons.mp hy with rfl | hy
      · exact ⟨_, .sa⟩
      · obtain rfl := List.mem_singleton.mp hy
        exact ⟨_, .non⟩) (by decide), fun y => nep e2 (V.ref.inj y)⟩
  rcases List.mem_cons.mp hx with rfl | hx
  · exact ⟨.dc (g (nep e3) (x4 _ _ c3)) (.inl rfl), fun y => nep e3 (V.ref.inj y)⟩
  rcases List.mem_cons.mp hx with rfl | hx
  · exact ⟨.at .non, fun y => (nomatch y)⟩
  rcases List.mem_cons.mp hx with rfl | hx
  · exact ⟨.at .sx, fun y => (nomatch y)⟩
  rcases List.mem_cons.mp hx with rfl | hx
  · exact ⟨.tp (g (nep e6) c6), fun y => nep e6 (V.ref.inj y)⟩
  rcases List.mem_cons.mp hx with rfl | hx
  · exact ⟨.at .bl, fun y => (nomatch y)⟩
  rcases List.mem_cons.mp hx with rfl | hx
  · exact ⟨.at (.int _ (by decide) (by decide)), fun y => (nomatch y)⟩
  obtain rfl := List.mem_singleton.mp hx
  exact ⟨.at (.int i (by omega) (by omega)), fun y => (nomatch y)⟩
theorem ne_src {x : V} {p : Addr} (n : x ≠ .ref p) : ∀ a, x = .ref a → a ≠ p := fun a e z => n (by rw [e, z])
/-- for errors in [_law_by_place(thing), _law_by_name(thing)] -/
theorem errors_ok {De : Ends} {a1 a2 a3 a5 a6 a7 a8 : Option V} {H : Hp} {sa : Addr} {o : Obj} {ns : List Int} {x : V} {n : Nat} (F : Kf K c web) (hS : H sa = some (.frz o (.lst (ns.map V.int)))) (h : Thg H n x) (hn : n ≤ 8)
    (q : ∀ (H' : Hp) (b5 b6 b7 b8 : Option V), Kx x H H' → Thg H' (n + 2) x → De.nx (St9 (some (.ref sa)) a1 a2 a3 (some x) b5 b6 b7 b8) H') :
    tFor (iList K (tBoth c)) (gName 5) (t_turn K c web) De (St9 (some (.ref sa)) a1 a2 a3 (some x) a5 a6 a7 a8) H := by
  unfold tFor
  refine ilist_i (lst_i (cons_i (call_i (cons_i (v_i rfl (nil_i ⟨x, rfl, fun H1 p1 es1 x1 c1 l1 E1 => ?_⟩))))))
  refine cons_i (call_i (cons_i (v_i rfl (nil_i ⟨x, rfl, fun H2 p2 es2 x2 c2 l2 E2 => ?_⟩))))
  refine nil_i ⟨le_size _ (Nat.le_of_ble_eq_true rfl), fun lt hlt => ?_⟩
  have x3 : Ex H2 (upd H2 lt (.lst [.ref p1, .ref p2])) := Ex.new hlt
  have c3 : upd H2 lt (.lst [.ref p1, .ref p2]) lt = some (.lst [.ref p1, .ref p2]) := upd_same
  generalize upd H2 lt (.lst [.ref p1, .ref p2]) = H3 at x3 c3 ⊢
  have X3 : Ex H H3 := x1.trans (x2.trans x3)
  have h3 : Thg H3 n x := h.mono (Nat.le_refl _) fun a _ o z => X3 a o z
  refine ⟨lt, rfl, ⟨_, .inl (.inl c3)⟩, ?_⟩
  refine ⟨fun i m σ H' => m = 2 - i ∧ i ≤ 2 ∧ (∃ b5 b6 b7 b8, σ = St9 (some (.ref sa)) a1 a2 a3 (some x) b5 b6 b7 b8) ∧ Kx x H H' ∧ Thg H' (n + i) x ∧ H' lt = some (.lst [.ref p1, .ref p2]) ∧ (H' p1 = some (.lst es1) ∧ Er c x H' 0 es1) ∧ H' p2 = some (.lst es2) ∧ Er c x H' 0 es2,
    ⟨2, rfl, by decide, ⟨_, _, _, _, rfl⟩, Kx.of X3, h3, c3, ⟨x3 _ _ (x2 _ _ c1), E1.ex (x2.trans x3)⟩, x3 _ _ c2, E2.ex x3⟩, ?_⟩
  rintro i m σ H4 ⟨rfl, hi, ⟨b5, b6, b7, b8, rfl⟩, g0, g1, g2, ⟨g3, g4⟩, g5, g6⟩
  have nolst : ∀ es : List V, es.length = 11 → Er c x H4 0 es → NoT (.lst es) := fun es l E => ⟨fun xs z => by
      cases z
      obtain ⟨a, d, e1, _⟩ := E.get (j := 0) (by omega)
      exact ⟨_, List.mem_of_getElem? e1, a, rfl⟩, fun _ z => (nomatch z), fun _ z => (nomatch z)⟩
  have nol2 : NoT (.lst [V.ref p1, V.ref p2]) := ⟨fun xs z => by
    cases z
    exact ⟨_, List.mem_cons_self, _, rfl⟩, fun _ z => (nomatch z), fun _ z => (nomatch z)⟩
  by_cases h2 : i = 2
  · subst h2
    exact .inl ⟨⟨_, .inl (.inl g2), Nat.le_of_ble_eq_true rfl⟩, q H4 b5 b6 b7 b8 g0 g1⟩
  · have li : i < 2 := by omega
    obtain ⟨pe, es, ex, hpe, lpe, hE⟩ : ∃ pe es, ([V.ref p1, V.ref p2])[i]? = some (V.ref pe) ∧ H4 pe = some (.lst es) ∧ es.length = 11 ∧ Er c x H4 0 es := by
      match i, li with
      | 0, _ => exact ⟨p1, es1, rfl, g3, l1, g4⟩
      | 1, _ => exact ⟨p2, es2, rfl, g5, l2, g6⟩
    refine .inr ⟨⟨_, _, .inl (.inl g2), ex⟩, fun σ H' => (∃ b5 b6 b7 b8, σ = St9 (some (.ref sa)) a1 a2 a3 (some x) b5 b6 b7 b8) ∧ Kx x H H' ∧ Thg H' (n + (i + 1)) x ∧ H' lt = some (.lst [.ref p1, .ref p2]) ∧ (H' p1 = some (.lst es1) ∧ Er c x H' 0 es1) ∧ H' p2 = some (.lst es2) ∧ Er c x H' 0 es2,
      fun σ' H' ⟨z1, z2, z3, z4, z5, z6, z7⟩ => ⟨2 - (i + 1), by omega, rfl, by omega, z1, z2, z3, z4, z5, z6, z7⟩, ?_⟩
    rintro y H5 ⟨rfl, hy⟩
    have ey := item_of g2 hy
    rw [ex] at ey
    cases ey
    refine gn_i ?_
    exact turn_ok F g1 (by omega) hpe lpe hE fun H6 c6 c7 c8 kx tx => ⟨⟨_, _, _, _, rfl⟩, g0.trans kx, tx, kx _ _ (g1.ne g2 nol2) g2, ⟨kx _ _ (g1.ne g3 (nolst es1 l1 g4)) g3, er_keep g1 kx g4⟩, kx _ _ (g1.ne g5 (nolst es2 l2 g6)) g5, er_keep g1 kx g6⟩
theorem cut3 {xs : List V} (h : xs.length = 9) : cutV xs none (some 3) = xs.take 3 := by
  unfold cutV
  rw [h]
  rfl
/-- for thing in [_law_pick(source, some[:3]), _law_pick(source, some)] -/
theorem things_ok {De : Ends} {a1 a4 a5 a6 a7 a8 : Option V} {H : Hp} {sa p l : Addr} {o : Obj} {ns : List Int} {xs : List V} (F : Kf K c web) (hS : H sa = some (.frz o (.lst (ns.map V.int)))) (h : Sr H p) (hl : H l = some (.lst xs)) (nl : l ≠ p) (h9 : xs.length = 9) (hx : ∀ x ∈ xs, Thg H 2 x ∧ x ≠ .ref p)
    (q : ∀ (H' : Hp) (b4 b5 b6 b7 b8 : Option V), H' sa = some (.frz o (.lst (ns.map V.int))) → De.nx (St9 (some (.ref sa)) a1 (some (.ref p)) (some (.ref l)) b4 b5 b6 b7 b8) H') :
    tFor (iList K (tTwo K)) (gName 4) (tFor (iList K (tBoth c)) (gName 5) (t_turn K c web)) De (St9 (some (.ref sa)) a1 (some (.ref p)) (some (.ref l)) a4 a5 a6 a7 a8) H := by
  have nS : sa ≠ p := fun z => by
    obtain ⟨r, m, _, hp⟩ := h
    rw [z, hp] at hS
    cases hS
  unfold tFor
  refine ilist_i (lst_i (cons_i (call_i (cons_i (v_i rfl (cons_i (slice_i (v_i rfl ?_))))))))
  refine ⟨3, rfl, l, xs, rfl, .inl (.inl hl), fun p3 h3 => nil_i ?_⟩
  have x0 : Ex H (upd H p3 (.lst (cutV xs none (some 3)))) := Ex.new h3
  have c0 : upd H p3 (.lst (cutV xs none (some 3))) p3 = some (.lst (xs.take 3)) := by rw [upd_same, cut3 h9]
  have n3 : p3 ≠ p := fun z => by
    obtain ⟨r, m, _, hp⟩ := h
    rw [z, hp] at h3
    cases h3
  generalize upd H p3 (.lst (cutV xs none (some 3))) = H0 at x0 c0 ⊢
  refine ⟨p, p3, xs.take 3, rfl, h.ex x0, c0, n3, by rw [List.length_take]; omega, by rw [List.length_take]; omega, fun H1 v k1 s1 hv' => ?_⟩
  have hv := List.mem_of_mem_take hv'
  have k01 : Kp p H H1 := (Kp.of x0).trans k1
  have hl1 := k01 _ _ nl hl
  refine cons_i (call_i (cons_i (v_i rfl (cons_i (v_i rfl (nil_i ?_))))))
  refine ⟨p, l, xs, rfl, s1, hl1, nl, by omega, by omega, fun H2 w k2 s2 hw => ?_⟩
  refine nil_i ⟨le_size _ (Nat.le_of_ble_eq_true rfl), fun lt hlt => ?_⟩
  have x3 : Ex H2 (upd H2 lt (.lst [v, w])) := Ex.new hlt
  have clt : upd H2 lt (.lst [v, w]) lt = some (.lst [v, w]) := upd_same
  generalize upd H2 lt (.lst [v, w]) = H3 at x3 clt ⊢
  have k3 : Kp p H H3 := k01.trans (k2.trans (Kp.of x3))
  have hS3 := k3 _ _ nS hS
  have tv : Thg H3 2 v := (hx v hv).1.mono (Nat.le_refl _) fun a e o z => k3 a o (ne_src (hx v hv).2 a e) z
  have tw : Thg H3 2 w := (hx w hw).1.mono (Nat.le_refl _) fun a e o z => k3 a o (ne_src (hx w hw).2 a e) z
  refine ⟨lt, rfl, ⟨[v, w], .inl (.inl clt)⟩, ?_⟩
  refine ⟨fun i m σ H' => m = 2 - i ∧ i ≤ 2 ∧ (∃ b4 b5 b6 b7 b8, σ = St9 (some (.ref sa)) a1 (some (.ref p)) (some (.ref l)) b4 b5 b6 b7 b8) ∧ H' sa = some (.frz o (.lst (ns.map V.int))) ∧ H' lt = some (.lst [v, w]) ∧ Thg H' (2 + 2 * i) v ∧ Thg H' (2 + 2 * i) w,
    ⟨2, rfl, by decide, ⟨_, _, _, _, _, rfl⟩, hS3, clt, tv, tw⟩, ?_⟩
  rintro i m σ H4 ⟨rfl, hi, ⟨b4, b5, b6, b7, b8, rfl⟩, g1, g2, g3, g4⟩
  by_cases h2 : i = 2
  · subst h2
    exact .inl ⟨⟨[v, w], .inl (.inl g2), Nat.le_of_ble_eq_true rfl⟩, q H4 _ _ _ _ _ g1⟩
  · have li : i < 2 := by omega
    obtain ⟨x, ex, tx⟩ : ∃ x, [v, w][i]? = some x ∧ Thg H4 (2 + 2 * i) x := by
      match i, li with
      | 0, _ => exact ⟨v, rfl, g3⟩
      | 1, _ => exact ⟨w, rfl, g4⟩
    refine .inr ⟨⟨[v, w], x, .inl (.inl g2), ex⟩, fun σ H' => (∃ b4 b5 b6 b7 b8, σ = St9 (some (.ref sa)) a1 (some (.ref p)) (some (.ref l)) b4 b5 b6 b7 b8) ∧ H' sa = some (.frz o (.lst (ns.map V.int))) ∧ H' lt = some (.lst [v, w]) ∧ Thg H' (2 + 2 * (i + 1)) v ∧ Thg H' (2 + 2 * (i + 1)) w,
      fun σ' H' ⟨z1, z2, z3, z4, z5⟩ => ⟨2 - (i + 1), by omega, rfl, by omega, z1, z2, z3, z4, z5⟩, ?_⟩
    rintro y H5 ⟨rfl, hy⟩
    have ey := item_of g2 hy
    rw [ex] at ey
    cases ey
    refine gn_i ?_
    have go := errors_ok (De := { nx := fun σ H' => (∃ b4 b5 b6 b7 b8, σ = St9 (some (.ref sa)) a1 (some (.ref p)) (some (.ref l)) b4 b5 b6 b7 b8) ∧ H' sa = some (.frz o (.lst (ns.map V.int))) ∧ H' lt = some (.lst [v, w]) ∧ Thg H' (2 + 2 * (i + 1)) v ∧ Thg H' (2 + 2 * (i + 1)) w, rt := De.rt, bk := De.nx, ct := fun σ H' => (∃ b4 b5 b6 b7 b8, σ = St9 (some (.ref sa)) a1 (some (.ref p)) (some (.ref l)) b4 b5 b6 b7 b8) ∧ H' sa = some (.frz o (.lst (ns.map V.int))) ∧ H' lt = some (.lst [v, w]) ∧ Thg H' (2 + 2 * (i + 1)) v ∧ Thg H' (2 + 2 * (i + 1)) w })
      (a1 := a1) (a2 := some (.ref p)) (a3 := some (.ref l)) (a5 := b5) (a6 := b6) (a7 := b7) (a8 := b8) F g1 tx (by omega) fun H6 c5 c6 c7 c8 kx tx' => ⟨⟨_, _, _, _, _, rfl⟩, kx _ _ (tx.ne g1 noT_frz) g1, ?_, ?_, ?_⟩
    · exact go
    · by_cases z : V.ref lt = x
      · exfalso
        have nt : NoT (.lst [v, w]) := by
          refine ⟨fun xs e => ?_, fun _ z => (nomatch z), fun _ z => (nomatch z)⟩
          cases e
          exact ⟨x, List.mem_of_getElem? ex, lt, z.symm⟩
        exact tx.ne g2 nt z
      · exact kx _ _ z g2
    · by_cases z : v = x
      · subst z
        exact tx'.mono (by omega) fun _ _ _ z => z
      · exact g3.mono (by omega) fun a e o y => kx a o (fun u => z (by rw [e, u])) y
    · by_cases z : w = x
      · subst z
        exact tx'.mono (by omega) fun _ _ _ z => z
      · exact g4.mono (by omega) fun a e o y => kx a o (fun u => z (by rw [e, u])) y
end
end K61


namespace K61
open PySem PySem.Spec PyProof.Rows L2 DL GX TL
section
variable {K : PySem.W.Frag} {c : Nat → Addr} {web : Addr}
/-- one start -/
theorem start_ok {D : Ends} {s : Int} {a2 a3 a4 a5 a6 a7 a8 : Option V} {H : Hp} {sa : Addr} {o : Obj} {ns : List Int} (kf : Kf K c web) (hS : H sa = some (.frz o (.lst (ns.map V.int)))) (hb : ∀ n ∈ ns, n.natAbs < big) (s0 : 0 ≤ s) (s1 : s < 1000)
    (q : ∀ (H' : Hp) (b2 b3 b4 b5 b6 b7 b8 : Option V), H' sa = some (.frz o (.lst (ns.map V.int))) → D.nx (St9 (some (.ref sa)) (some (.int s)) b2 b3 b4 b5 b6 b7 b8) H') :
    t_start K c web D (St9 (some (.ref sa)) (some (.int s)) a2 a3 a4 a5 a6 a7 a8) H := by
  refine seq_i (asg_i ?_)
  refine call_i (cons_i (v_i rfl (cons_i (v_i rfl (nil_i ?_)))))
  refine source_ok hS s0 s1 hb fun H1 p r m x1 z hp hp1 => ?_
  have sr : Sr H1 p := ⟨r, m, z, hp1⟩
  have hS1 := x1 _ _ hS
  refine gn_i ?_
  dsimp only
  refine seq_i (asg_i (some_ok sr fun H2 l xs k2 s2 hl nl h9 hx => ?_))
  refine gn_i ?_
  dsimp only
  have nS : sa ≠ p := fun y => by
    rw [y, hp] at hS
    cases hS
  exact things_ok kf (k2 _ _ nS hS1) s2 hl nl h9 hx fun H3 b4 b5 b6 b7 b8 g => q H3 _ _ b4 b5 b6 b7 b8 g
/-- what law promises -/
def spLaw : Sp := fun vs H Q _ => ∃ (sa : Addr) (o : Obj) (ns : List Int), vs = [.ref sa] ∧ ns.length ≤ 63 ∧ (∀ n ∈ ns, n.natAbs < big) ∧ H sa = some (.frz o (.lst (ns.map V.int))) ∧ ∀ H', Q (.bl true) H'
theorem pure_law (kf : Kf K c web) (vs : List V) (H : Hp) (Q : VK) (E : XK) (h : spLaw vs H Q E) : t_law K c web { nx := fun _ H' => Q .non H', rt := Q } (start NL vs) H := by
  obtain ⟨sa, o, ns, rfl, hlen, hb, hS, q⟩ := h
  show t_law K c web _ (St9 (some (.ref sa)) none none none none none none none none) H
  refine seq_i ?_
  unfold tFor iRng1
  refine cons_i (cb_i (cons_i (c_i (cons_i (cb_i (cons_i (c_i (cons_i (cb_i (cons_i (v_i rfl (nil_i (.inl ⟨V.ref sa, ns.length, rfl, .inl ⟨_, .inl (.inr ⟨o, hS⟩), by rw [List.length_map]⟩, nil_i ?_⟩)))))))))))))
  refine ⟨4, ns.length, rfl, nil_i ?_⟩
  refine ⟨1, _, rfl, nil_i ?_⟩
  generalize hj : (if (if ((ns.length : Nat) : Int) < 4 then ((ns.length : Nat) : Int) else 4) > 1 then (if ((ns.length : Nat) : Int) < 4 then ((ns.length : Nat) : Int) else 4) else 1) = j
  have j0 : 1 ≤ j ∧ j ≤ 4 := by
    rw [← hj]
    split
    · split
      · omega
      · omega
    · omega
  refine ⟨j, rfl, ?_, ?_, ?_⟩
  · have : (2 : Int) ^ 62 = 4611686018427387904 := by decide
    omega
  · have : (2 : Int) ^ 62 = 4611686018427387904 := by decide
    omega
  refine ⟨fun i m σ H' => m = j.toNat - i ∧ i ≤ j.toNat ∧ (∃ b1 b2 b3 b4 b5 b6 b7 b8, σ = St9 (some (.ref sa)) b1 b2 b3 b4 b5 b6 b7 b8) ∧ H' sa = some (.frz o (.lst (ns.map V.int))), ⟨_, rfl, Nat.zero_le _, ⟨_, _, _, _, _, _, _, _, rfl⟩, hS⟩, ?_⟩
  rintro i m σ H1 ⟨rfl, hi, ⟨b1, b2, b3, b4, b5, b6, b7, b8, rfl⟩, g1⟩
  by_cases he : i = j.toNat
  · exact .inl ⟨Nat.le_of_eq he.symm, q H1⟩
  · have li : i < j.toNat := by omega
    refine .inr ⟨li, fun σ H' => (∃ b1 b2 b3 b4 b5 b6 b7 b8, σ = St9 (some (.ref sa)) b1 b2 b3 b4 b5 b6 b7 b8) ∧ H' sa = some (.frz o (.lst (ns.map V.int))), fun σ' H' ⟨z1, z2⟩ => ⟨j.toNat - (i + 1), by omega, rfl, by omega, z1, z2⟩, ?_⟩
    rintro y H2 ⟨rfl, rfl⟩
    refine gn_i ?_
    exact start_ok kf g1 hb (by omega) (by omega) fun H3 c2 c3 c4 c5 c6 c7 c8 g => ⟨⟨_, _, _, _, _, _, _, _, rfl⟩, g⟩
end
end K61


namespace K61
open PySem PySem.Spec PyProof.Rows L2 DL GX TL
section
variable {w : World} {K : PySem.W.Frag} {h : Heap} {mg : Str → Option Value} {f : Addr} {P : Program} {base : Heap}
theorem room_u {k : Nat} {A : Around} (r : Room k A) : A.units + 1 < cLine := by
  have := r.un
  omega
theorem kf_of (e : ex K = true) : Kf K (cA K) (He.ga K "WebError") ∧ ∀ b o, K.lookup b = some o → o.cls ≠ .type "list" := by
  obtain ⟨e0, e⟩ := and2 e
  refine ⟨?_, fun b o z y => ?_⟩
  · have all : ∀ i, i < 11 → _ := fun i hi => List.all_eq_true.mp e i (List.mem_range.mpr hi)
    have p1 := fun i hi => and2 (all i hi)
    have p2 := fun i hi => and2 (p1 i hi).2
    have p3 := fun i hi => and2 (p2 i hi).2
    have p4 := fun i hi => and2 (p3 i hi).2
    have p5 := fun i hi => and2 (p4 i hi).2
    exact ⟨fun i hi => oexB_ok (p1 i hi).1, fun i hi => (excB_ok (p2 i hi).1).1, fun i hi => (excB_ok (p2 i hi).1).2, fun i hi => of_decide_eq_true (p5 i hi).1, fun i hi => of_decide_eq_true (p4 i hi).1, fun i hi => of_decide_eq_true (p3 i hi).1,
      fun i hi j hj => of_decide_eq_true (List.all_eq_true.mp (p5 i hi).2 j (List.mem_range.mpr hj))⟩
  · have q := List.all_eq_true.mp e0 (b, o) (He.lookup_mem z)
    rw [y] at q
    cases q
theorem ini_of {C fl : Str} {qual : Str} {fd : FuncData} {s : Stmt} (m : Meth K (He.ga K C) "__init__" (He.ma K (He.ga K C) "__init__"))
    (F : FunD K "__init__" qual (defArgs s) (defBody s) (defScope s) [] [] (He.ma K (He.ga K C) "__init__") fd) (ok : FnOk P w K mg base (L2.CX P w) 1 (He.ma K (He.ga K C) "__init__") fd ["self", fl] (spInit K fl))
    (b1 : ∀ (kV doc pm : Value) (an : Option Addr) (cdv ct : Value) (us : List Value), us.length = 2 → bindArgs (PySem.W.fnOf "__init__" qual (defArgs s) (defBody s) (defScope s) .none kV doc pm an cdv ct) ⟨us, []⟩ = pure ((["self", fl] : List Str).zip us))
    (b2 : ∀ (kV doc pm : Value) (an : Option Addr) (cdv ct : Value) (u v : Value), bindArgs (PySem.W.fnOf "__init__" qual (defArgs s) (defBody s) (defScope s) .none kV doc pm an cdv ct) ⟨[u], [(fl, v)]⟩ = pure [(("self" : Str), u), (fl, v)]) :
    Ini P w K mg base (He.ga K C) fl := by
  refine ⟨_, fd, m.at_, beq_iff_eq.mp m.fn, ok, F.bindsN b1, fun s' u v => ?_⟩
  obtain ⟨oc, od, dV, kV, doc, pm, an, cdv, ct, osl, rfl, lk, hcd, hD, hK⟩ := F.ex
  rcases hD with ⟨_, rfl⟩ | ⟨e, _⟩
  · exact .of_eq (b2 kV doc pm an cdv ct u v)
  · exact absurd rfl e
theorem facts (X : K.In h) (G : h.Ns mainGlobals mg) (hfa : mg ("law" : Str) = some (.ref f)) (c : He.SaysX fa fn [] [] ex w h K) :
    ∃ (fd : FuncData) (sp : Sp), (∀ (s : Shared) (v : Value), BindsTo s fd ⟨[v], []⟩ [("script", v)]) ∧ (∀ b o, K.lookup b = some o → o.cls ≠ .type "list") ∧
      (∀ (Hh : Hp) (a : Addr) (ns : List Int) (o : Obj), ns.length ≤ 63 → (∀ n ∈ ns, Builtin.Int.intBits n ≤ 1048576) → Hh a = some (.frz o (.lst (ns.map V.int))) → sp [.ref a] Hh (fun v _ => v = .bl true) fun _ _ _ => False) ∧
      ∀ base : Heap, K.In base → base.Ns mainGlobals mg → GW.Ok R.prog w K mg base (L2.CX R.prog w) 6 f fd ["script"] sp := by
  have d := c.t.d
  obtain ⟨kf, noL⟩ := kf_of c.more
  have gl : ∀ (i : Nat) {x : Str}, fa[i]? = some (.glo x) → mg x = some (.ref (He.ga K x)) := fun i {x} e => He.glo_ok X G (d.fact i e)
  have fr : ∀ (i : Nat) {x : Str}, fa[i]? = some (.free x) → mg x = none := fun i {x} e => He.free_ok X G (d.fact i e)
  obtain ⟨fd0, F0⟩ := d.def_ 0 (d := mk "_law_source" none "_law_source" sSource) rfl
  obtain ⟨fd1, F1⟩ := d.def_ 1 (d := mk "_law_draw" none "_law_draw" sDraw) rfl
  obtain ⟨fd2, F2⟩ := d.def_ 2 (d := mk "_law_pick" none "_law_pick" sPick) rfl
  obtain ⟨fd3, F3⟩ := d.def_ 3 (d := mk "_law_kinds" none "_law_kinds" sKinds) rfl
  obtain ⟨fd4, F4⟩ := d.def_ 4 (d := mk "_law_by_place" none "_law_by_place" sPlace) rfl
  obtain ⟨fd5, F5⟩ := d.def_ 5 (d := mk "_law_by_name" none "_law_by_name" sName) rfl
  obtain ⟨fd6, F6⟩ := d.def_ 6 (d := mk "_law_stored" none "_law_stored" sStored) rfl
  obtain ⟨fd7, F7⟩ := d.def_ 7 (d := mk "law" none "law" sLaw) rfl
  obtain ⟨fI0, I0⟩ := d.def_ 8 (d := mk "BadPlaces" (some "__init__") "BadPlaces.__init__" sI0) rfl
  obtain ⟨fI1, I1⟩ := d.def_ 9 (d := mk "BadTies" (some "__init__") "BadTies.__init__" sI1) rfl
  obtain ⟨fI2, I2⟩ := d.def_ 10 (d := mk "NoPlace" (some "__init__") "NoPlace.__init__" sI2) rfl
  obtain ⟨fI3, I3⟩ := d.def_ 11 (d := mk "BadPlan" (some "__init__") "BadPlan.__init__" sI3) rfl
  obtain ⟨fI4, I4⟩ := d.def_ 12 (d := mk "BadPiece" (some "__init__") "BadPiece.__init__" sI4) rfl
  obtain ⟨fI5, I5⟩ := d.def_ 13 (d := mk "BadMove" (some "__init__") "BadMove.__init__" sI5) rfl
  obtain ⟨fI6, I6⟩ := d.def_ 14 (d := mk "BadTie" (some "__init__") "BadTie.__init__" sI6) rfl
  obtain ⟨fI7, I7⟩ := d.def_ 15 (d := mk "HasGlue" (some "__init__") "HasGlue.__init__" sI7) rfl
  obtain ⟨fI8, I8⟩ := d.def_ 16 (d := mk "TooMany" (some "__init__") "TooMany.__init__" sI8) rfl
  obtain ⟨fI9, I9⟩ := d.def_ 17 (d := mk "TooFar" (some "__init__") "TooFar.__init__" sI9) rfl
  obtain ⟨fI10, I10⟩ := d.def_ 18 (d := mk "BadText" (some "__init__") "BadText.__init__" sI10) rfl
  have e := hfa.symm.trans (gl 7 (x := "law") rfl)
  cases e
  have nm : Nm mg (cA K) (He.ga K "WebError") := ⟨fun i hi => by
      match i, hi with
      | 0, _ => exact gl 8 (x := "BadPlaces") rfl
      | 1, _ => exact gl 9 (x := "BadTies") rfl
      | 2, _ => exact gl 10 (x := "NoPlace") rfl
      | 3, _ => exact gl 11 (x := "BadPlan") rfl
      | 4, _ => exact gl 12 (x := "BadPiece") rfl
      | 5, _ => exact gl 13 (x := "BadMove") rfl
      | 6, _ => exact gl 14 (x := "BadTie") rfl
      | 7, _ => exact gl 15 (x := "HasGlue") rfl
      | 8, _ => exact gl 16 (x := "TooMany") rfl
      | 9, _ => exact gl 17 (x := "TooFar") rfl
      | 10, _ => exact gl 18 (x := "BadText") rfl
    , gl 19 rfl, fr 31 rfl, fr 32 rfl, fr 33 rfl, fr 34 rfl, fr 35 rfl, fr 36 rfl, fr 37 rfl, fr 38 rfl, fr 39 rfl, fr 41 rfl⟩
  have gint : mg "int" = none := fr 40 rfl
  have bL := FunD.bindsA (ps := ["script"]) F7 fun _ _ _ _ _ _ us hl => match us, hl with | [_], _ => rfl
  refine ⟨fd7, spLaw, fun s v => bL s [v] rfl, noL, fun Hh a ns o h1 h2 h3 => ⟨a, o, ns, rfl, h1, fun n hn => ?_, h3, fun _ => rfl⟩, fun base _ _ => ?_⟩
  · have q := h2 n hn
    unfold Builtin.Int.intBits at q
    by_cases z : n.natAbs = 0
    · rw [z]
      exact Nat.lt_of_lt_of_le (by decide : 0 < 2 ^ 60) big_ge
    · refine (Nat.log2_lt z).mp ?_
      rw [if_neg (fun y => z (by rw [eq_of_beq y]; rfl))] at q
      exact q
  · have cS : DCal R.prog w K mg base "_law_source" 2 spSource := cal_source (fun_of F0) (gl 0 rfl) gint nm.len vc_source (fun avs Q XP hs => by
      obtain ⟨_, _, rfl, _⟩ := hs
      rfl)
    have cD : DCal R.prog w K mg base "_law_draw" 2 spDraw := cal_draw (fun_of F1) (gl 1 rfl) gint vc_draw (fun avs Q XP hs => by
      obtain ⟨_, _, _, rfl, _⟩ := hs
      rfl)
    have ini : ∀ i, i < 11 → Ini R.prog w K mg base (cA K i) (cF i) := fun i hi => by
      match i, hi with
      | 0, _ => exact ini_of (C := "BadPlaces") (fl := "value") (s := sI0) (qual := "BadPlaces.__init__") (fd := fI0) (He.meth_ok (d.fact 20 (f := .meth "BadPlaces" "__init__") rfl)) I0 (ok_I0 I0) (fun _ _ _ _ _ _ us hl => match us, hl with | [_, _], _ => rfl) fun _ _ _ _ _ _ _ _ => rfl
      | 1, _ => exact ini_of (C := "BadTies") (fl := "value") (s := sI1) (qual := "BadTies.__init__") (fd := fI1) (He.meth_ok (d.fact 21 (f := .meth "BadTies" "__init__") rfl)) I1 (ok_I1 I1) (fun _ _ _ _ _ _ us hl => match us, hl with | [_, _], _ => rfl) fun _ _ _ _ _ _ _ _ => rfl
      | 2, _ => exact ini_of (C := "NoPlace") (fl := "value") (s := sI2) (qual := "NoPlace.__init__") (fd := fI2) (He.meth_ok (d.fact 22 (f := .meth "NoPlace" "__init__") rfl)) I2 (ok_I2 I2) (fun _ _ _ _ _ _ us hl => match us, hl with | [_, _], _ => rfl) fun _ _ _ _ _ _ _ _ => rfl
      | 3, _ => exact ini_of (C := "BadPlan") (fl := "value") (s := sI3) (qual := "BadPlan.__init__") (fd := fI3) (He.meth_ok (d.fact 23 (f := .meth "BadPlan" "__init__") rfl)) I3 (ok_I3 I3) (fun _ _ _ _ _ _ us hl => match us, hl with | [_, _], _ => rfl) fun _ _ _ _ _ _ _ _ => rfl
      | 4, _ => exact ini_of (C := "BadPiece") (fl := "value") (s := sI4) (qual := "BadPiece.__init__") (fd := fI4) (He.meth_ok (d.fact 24 (f := .meth "BadPiece" "__init__") rfl)) I4 (ok_I4 I4) (fun _ _ _ _ _ _ us hl => match us, hl with | [_, _], _ => rfl) fun _ _ _ _ _ _ _ _ => rfl
      | 5, _ => exact ini_of (C := "BadMove") (fl := "value") (s := sI5) (qual := "BadMove.__init__") (fd := fI5) (He.meth_ok (d.fact 25 (f := .meth "BadMove" "__init__") rfl)) I5 (ok_I5 I5) (fun _ _ _ _ _ _ us hl => match us, hl with | [_, _], _ => rfl) fun _ _ _ _ _ _ _ _ => rfl
      | 6, _ => exact ini_of (C := "BadTie") (fl := "position") (s := sI6) (qual := "BadTie.__init__") (fd := fI6) (He.meth_ok (d.fact 26 (f := .meth "BadTie" "__init__") rfl)) I6 (ok_I6 I6) (fun _ _ _ _ _ _ us hl => match us, hl with | [_, _], _ => rfl) fun _ _ _ _ _ _ _ _ => rfl
      | 7, _ => exact ini_of (C := "HasGlue") (fl := "piece") (s := sI7) (qual := "HasGlue.__init__") (fd := fI7) (He.meth_ok (d.fact 27 (f := .meth "HasGlue" "__init__") rfl)) I7 (ok_I7 I7) (fun _ _ _ _ _ _ us hl => match us, hl with | [_, _], _ => rfl) fun _ _ _ _ _ _ _ _ => rfl
      | 8, _ => exact ini_of (C := "TooMany") (fl := "count") (s := sI8) (qual := "TooMany.__init__") (fd := fI8) (He.meth_ok (d.fact 28 (f := .meth "TooMany" "__init__") rfl)) I8 (ok_I8 I8) (fun _ _ _ _ _ _ us hl => match us, hl with | [_, _], _ => rfl) fun _ _ _ _ _ _ _ _ => rfl
      | 9, _ => exact ini_of (C := "TooFar") (fl := "count") (s := sI9) (qual := "TooFar.__init__") (fd := fI9) (He.meth_ok (d.fact 29 (f := .meth "TooFar" "__init__") rfl)) I9 (ok_I9 I9) (fun _ _ _ _ _ _ us hl => match us, hl with | [_, _], _ => rfl) fun _ _ _ _ _ _ _ _ => rfl
      | 10, _ => exact ini_of (C := "BadText") (fl := "line") (s := sI10) (qual := "BadText.__init__") (fd := fI10) (He.meth_ok (d.fact 30 (f := .meth "BadText" "__init__") rfl)) I10 (ok_I10 I10) (fun _ _ _ _ _ _ us hl => match us, hl with | [_, _], _ => rfl) fun _ _ _ _ _ _ _ _ => rfl
    have c2 : Cal R.prog w K mg base "_law_pick" 3 (spPick) := by
      refine ⟨_, fd2, ["source", "things"], gl 2 rfl, F2.kp, F2.bindsN fun _ _ _ _ _ _ us hl => (match us, hl with | [_, _], _ => rfl), ?_⟩
      refine F2.ok scC (fun vs H Q E z => ?_) (fun cdv A outer s H vs Q E hr z => ⟨t_pick K, pss_pick nm (Cal.of cD) hr, pure_pick vs H Q E z⟩)
      obtain ⟨_, _, _, rfl, _⟩ := z
      rfl
    have c3 : Cal R.prog w K mg base "_law_kinds" 3 (spKinds (cA K)) := by
      refine ⟨_, fd3, ["error"], gl 3 rfl, F3.kp, F3.bindsN fun _ _ _ _ _ _ us hl => (match us, hl with | [_], _ => rfl), ?_⟩
      refine F3.ok scK (fun vs H Q E z => ?_) (fun cdv A outer s H vs Q E hr z => ⟨t_kinds K (cA K), pss_kinds nm, pure_kinds kf vs H Q E z⟩)
      obtain ⟨_, _, _, _, rfl, _⟩ := z
      rfl
    have c4 : Cal R.prog w K mg base "_law_by_place" 4 (spBy (cA K)) := by
      refine ⟨_, fd4, ["thing"], gl 4 rfl, F4.kp, F4.bindsN fun _ _ _ _ _ _ us hl => (match us, hl with | [_], _ => rfl), ?_⟩
      refine F4.ok scP (fun vs H Q E z => ?_) (fun cdv A outer s H vs Q E hr z => ⟨t_place K (cA K), pss_place nm kf ini hr, pure_place kf vs H Q E z⟩)
      obtain ⟨_, rfl, _⟩ := z
      rfl
    have c5 : Cal R.prog w K mg base "_law_by_name" 4 (spBy (cA K)) := by
      refine ⟨_, fd5, ["thing"], gl 5 rfl, F5.kp, F5.bindsN fun _ _ _ _ _ _ us hl => (match us, hl with | [_], _ => rfl), ?_⟩
      refine F5.ok scN (fun vs H Q E z => ?_) (fun cdv A outer s H vs Q E hr z => ⟨t_name K (cA K), pss_name nm kf ini hr, pure_name kf vs H Q E z⟩)
      obtain ⟨_, rfl, _⟩ := z
      rfl
    have c6 : Cal R.prog w K mg base "_law_stored" 3 (spStored (cA K)) := by
      refine ⟨_, fd6, ["errors"], gl 6 rfl, F6.kp, F6.bindsN fun _ _ _ _ _ _ us hl => (match us, hl with | [_], _ => rfl), ?_⟩
      refine F6.ok scS (fun vs H Q E z => ?_) (fun cdv A outer s H vs Q E hr z => ⟨t_stored K, pss_stored (room_u hr), pure_stored kf vs H Q E z⟩)
      obtain ⟨_, _, _, rfl, _⟩ := z
      rfl
    refine GW.ok_body F7 scL (fun xs Hh q e z => ?_) (fun cdv A out st Hh xs q e room noG z => ⟨t_law K (cA K) (He.ga K "WebError"), pss_law nm (Cal.of cS) (Cal.of cD) c2 c3 c4 c5 c6 room noG, pure_law kf xs Hh q e z⟩)
    obtain ⟨_, _, _, rfl, _⟩ := z
    rfl
end
end K61
open PySem PySem.W PySem.Calls PyProof.Rows
theorem PySem.Challenge.cw_cornerturn_k61_errors_by_hand_holds : PySem.Challenge.rw_cornerturn_k61_errors_by_hand.Holds := by
  w_on; o_law
  refine HandSHeadRun.head_any (r := K61.R) (q := view K61.R.prog [21]) (H := K61.hk) (ob := K61.ob) (M := 6000) (loose := K61.loose) (d := HandSHeadRun.topDef K61.R.prog 21) (kwd := []) K61.ob_eq
    (by kernel_rfl) (fun s => by kernel_rfl) K61.run (by kernel_rfl) (by kernel_rfl) (by kernel_rfl) (by rfl) (by first | assumption | decide +kernel) (by decide +kernel) ⟨rfl, rfl, rfl, rfl, rfl, by decide +kernel⟩ ?hw ?hc
  case hw => w_witness2
  case hc =>
    refine GW.walk (l := PySem.Challenge.rw_cornerturn_k61_errors_by_hand) (n := 63) (k := 6) (x := "script") (CX := L2.CX K61.R.prog) rfl (by decide) (by kernel_rfl) ⟨rfl, by decide, by decide⟩ ?F (fun w Hh s e s' z => ?_)
    case F =>
      intro w mg fa h Y G hmg0
      obtain ⟨K, KX, c⟩ := Y
      have hmg : mg ("law" : PySem.Str) = some (.ref fa) := by
        have e : (HandSHeadRun.topDef K61.R.prog 21).name = ("law" : PySem.Str) := by kernel_rfl
        rw [← e]
        exact hmg0
      obtain ⟨fd, sp, hb, hL, hs, hF⟩ := K61.facts (w := w) KX G hmg c
      exact ⟨K, fd, sp, KX, hb, hL, hs, hF⟩
    obtain ⟨_, _, _, _, _, _, _, _, _, _, _, _, z⟩ := z
    exact z


